/- Part 4 of the walks: mirrors, plain laws and walks used by the last text of this claim. -/
import Derived.Test.YtodlobcpbdkjpaaGreatDoorW3
import Derived.Test.YtodlobcpbdkjpaaGreatDoorProg
set_option linter.unusedVariables false
set_option linter.unusedSimpArgs false
namespace Go.SL.G
open Go Go.SL Go.Proofs
set_option maxHeartbeats 20000000
set_option maxRecDepth 100000
theorem fn17 (tP : Value) (ta : Option Addr) (tk : Nat) (tT : List Int) (tI : Int) (b : List UInt8) (ba0 : Option Addr) (bk0 : Nat) (htI : 0 ≤ tI ∧ tI ≤ (tT.length : Int)) (hb0 : b.length ≤ 1000000) (rr : List UInt8 × Int) (hrr : tp_Bytes tT tI b = rr) : FT Tryz.prog 17 #[tP, vl ba0 bk0 b] [Cl tP [vl ta tk tT, vi tI], S ta tk tT, S ba0 bk0 b] (fun g : Value => (0 ≤ rr.2 ∧ rr.2 ≤ (tT.length : Int)) ∧ (rr.1.length ≤ b.length + 1)) (fun g => g) (fun g => [os g rr.1, Cl tP [vl ta tk tT, vi rr.2]]) := by
 refine FTi Tryz.func17 fun w0 M0 F0 => Fb 8 1 fun _ => Fo 1 fun ho2 => Fb 1 2 fun _ => ?_
 refine KS ?_
 refine Oq Va (KS ?_)
 refine Oa (As0 sl44) fun c4 => ?_
 refine Jo 0 ?_; rintro a5 k6 rfl
 refine Oq Vm ?_
 refine Jl [0] (Ent.crNil (α := UInt8) _) ?_
 refine Oa (Ap0 [0, 2] sl44 sl44 sz44) fun c7 => ?_
 refine Jo 0 ?_; rintro a8 k9 rfl
 refine Oq Va (KS ?_)
 refine Oq Vm (Oq Vm (Oq (Vlen sl44) ?_))
 refine letv (tp_Next tT tI (b.length : Int)) fun rv10 hg11 => ?_
 have hnx := Next_g hg11
 have hc12 := fn9 tP ta tk tT tI ((b.length : Int)) pre pre rv10 hg11
 refine Oc [1, 1] ca9 hc12 ?_
 rintro - ⟨he13, he14, he15⟩
 unfold i64ok at he13
 refine Oq Va (KS ?_)
 refine Oq Vm ?_
 refine letv (tp_Next tT rv10.2 4) fun rv16 hg17 => ?_
 have hnx := Next_g hg17
 have hc18 := fn9 tP ta tk tT rv10.2 4 pre pre rv16 hg17
 refine Oc [0, 1] ca9 hc18 ?_
 rintro - ⟨he19, he20, he21⟩
 unfold i64ok at he19
 refine KS ?_
 refine Oq Veql (Oq Va (KS ?_))
 refine Kc ?_ ?_
 ·intro h22
  have g23 := eq_of_beq h22
  refine KS ?_
  refine Oq Vm (Oq (Vlen sl44) (Oq Vgtr (KS ?_)))
  refine Kc ?_ ?_
  ·intro h24
   have g25 := dt h24
   refine JK_drawK [0, 0, 3, 7, 0, 16, 48, 112, 255, 511, 1023] fmix ?_
   refine Dv [] Vm (Dv [] Vm (Dv [1] (Vi sl44 0) ?_))
   have hb26 := u8b' (b.getD rv10.1.toNat 0)
   refine Dv [1] (Vld8 sh5 0) (Dv [] Vm ?_)
   refine letv (tp_Next tT rv16.2 255) fun rv27 hg28 => ?_
   have hnx := Next_g hg28
   refine Dx [0, 2] [0] [2, 0, 1] (fun G => vi rv27.1) [fun G => SP.fact (i64ok rv27.1 ∧ (0 ≤ rv27.2 ∧ rv27.2 ≤ (tT.length : Int)) ∧ (0 ≤ rv27.1 ∧ (rv27.1 < 255 ∨ rv27.1 = 0))), fun G => Cl tP [vl ta tk tT, vi rv27.2]] (fun G => xC [0, 0] ca9 (fn9 tP ta tk tT rv16.2 255 pre pre rv27 hg28)) ?_
   refine Dx [4] [] [0] (fun G => vi (1 + rv27.1)) [] (fun G => by refine xf 0 rfl ?_; rintro ⟨he29, he30, he31⟩; unfold i64ok at he29; exact xV (Vadd)) (Dv [] (VcI8 (n := (1 + rv27.1)) un3 un5) ?_)
   have hb32 : 0 ≤ (bXor .u8 ((b.getD rv10.1.toNat 0).toNat : Int) (1 + rv27.1)) ∧ (bXor .u8 ((b.getD rv10.1.toNat 0).toNat : Int) (1 + rv27.1)) ≤ 255 := wrap_u8b _
   refine Dv [] VxorK (Dv [1] (Vi sl44 0) (Dx0 [1] [1] [0] [fun G => os (vl a8 k9 b) (b.set rv10.1.toNat (UInt8.ofNat ((bXor .u8 ((b.getD rv10.1.toNat 0).toNat : Int) (1 + rv27.1)) : Int).toNat))] (fun G => xS (So8 [0] sh5)) ?_))
   refine Dn ⟨by kernel_rfl, fun G => ?_⟩
   refine Jw2 [(5, vl a8 k9 b)] [2, 3] [SP.fact (i64ok rv27.1 ∧ (0 ≤ rv27.2 ∧ rv27.2 ≤ (tT.length : Int)) ∧ (0 ≤ rv27.1 ∧ (rv27.1 < 255 ∨ rv27.1 = 0))), Cl tP [vl ta tk tT, vi rv27.2], os (vl a8 k9 b) (b.set rv10.1.toNat (UInt8.ofNat ((bXor .u8 ((b.getD rv10.1.toNat 0).toNat : Int) (1 + rv27.1)) : Int).toNat))] ?_
   refine Jf 2 rfl ?_; rintro ⟨he33, he34, he35⟩
   unfold i64ok at he33
   refine Jk [0, 1, 3, 3] ?_
   refine KS ?_
   refine Oq Vm (Oq Va (KS ?_))
   have hq := q4 hrr ((b.set rv10.1.toNat (UInt8.ofNat ((bXor .u8 ((b.getD rv10.1.toNat 0).toNat : Int) (1 + rv27.1)) : Int).toNat)), rv27.2) (by simp only [tp_Bytes, h22, h24, hg11, hg17, hg28, cs4]); subst hq
   exact Kr (vl a8 k9 b) rfl (.tmp rfl .nil) [3, 2] en
  intro h24
  have g36 := df h24
  refine KS ?_
  refine Oq Vm (Oq Va (KS ?_))
  have hq := q4 hrr (b, rv16.2) (by simp only [tp_Bytes, h22, h24, hg11, hg17, cs4]); subst hq
  exact Kr (vl a8 k9 b) rfl (.tmp rfl .nil) [1, 0] en
 intro h22
 have g37 := ne_of_beq_false h22
 refine KS ?_
 refine Oq Veql (Oq Va (KS ?_))
 refine Kc ?_ ?_
 ·intro h38
  have g39 := eq_of_beq h38
  refine KS ?_
  refine Oq Vm (Oq Vm (Oa (AslO [1] sl44 0 (rv10.1.toNat)) fun c40 => ?_))
  refine Jo 0 ?_; rintro a41 k42 rfl
  refine Fb 1 0 fun _ => ?_
  have hn44 : ((b.take (rv10.1.toNat)).drop 0).length = (rv10.1.toNat) - 0 := len_slice rng rng
  refine Oq Va (KS ?_)
  refine Oq Vm (Oq Va (KS ?_))
  have hq := q4 hrr (((b.take (rv10.1.toNat)).drop 0), rv16.2) (by simp only [tp_Bytes, h22, h38, hg11, hg17, cs4]); subst hq
  exact Kr (vl a41 k42 ((b.take (rv10.1.toNat)).drop 0)) rfl (.tmp rfl .nil) [0, 0] en
 intro h38
 have g45 := ne_of_beq_false h38
 refine KS ?_
 refine Oq Veql (Oq Va (KS ?_))
 refine Kc ?_ ?_
 ·intro h46
  have g47 := eq_of_beq h46
  refine KS ?_
  refine Oq Vm (Oq Vm ?_)
  refine letv (tp_Next tT rv16.2 256) fun rv48 hg49 => ?_
  have hnx := Next_g hg49
  have hc50 := fn9 tP ta tk tT rv16.2 256 pre pre rv48 hg49
  refine Oc [0, 1] ca9 hc50 ?_
  rintro - ⟨he51, he52, he53⟩
  unfold i64ok at he51
  refine Oq (VcI8 (n := rv48.1) un3 un5) (Oa (AsV sl44 sz44 [.int .u8 rv48.1] [.int .u8 rv48.1]) fun c54 => ?_)
  refine Jo 0 ?_; rintro a55 k56 rfl
  refine Jl [0] (Ent.cr1 (α := UInt8) (A := []) _ (UInt8.ofNat rv48.1.toNat) _ aB1 (fun _ => u8rd aM1)) ?_
  refine Oa (ApO [2, 0] sl44 sl44 sz44) fun c57 => ?_
  refine Jo 0 ?_; rintro a58 k59 rfl
  refine Fb 1 0 fun _ => ?_
  have hn61 := la b ([(UInt8.ofNat rv48.1.toNat)] : List UInt8)
  refine Oq Va (KS ?_)
  refine Oq Vm (Oq Va (KS ?_))
  have hq := q4 hrr ((b ++ [(UInt8.ofNat rv48.1.toNat)]), rv48.2) (by simp only [tp_Bytes, h22, h38, h46, hg11, hg17, hg49, cs4]); subst hq
  exact Kr (vl a58 k59 (b ++ [(UInt8.ofNat rv48.1.toNat)])) rfl (.tmp rfl .nil) [0, 0] en
 intro h46
 have g62 := ne_of_beq_false h46
 refine KS ?_
 refine Oq Vm (Oq (Vlen sl44) (Oq Vgtr (KS ?_)))
 refine Kc ?_ ?_
 ·intro h63
  have g64 := dt h63
  refine JK_drawK [0, 0, 3, 0, 0, 16, 56, 127, 255] fmix ?_
  refine Dv [] Vm (Dv [] Vm (Dv [1] (VslP sl44 0 (rv10.1.toNat)) (Dv [] Vm (Dv [] Vm (Dv [] Vadd (Dv [1] (VslQ sl44 0 (((rv10.1 + 1) : Int).toNat)) ?_))))))
  have hn66 := eraseIdx_len b (rv10.1.toNat) rng
  refine Dx [1] [1] [0] (fun G => (G.g 7 0)) [fun G => os (G.g 7 0) (b.eraseIdx (rv10.1.toNat))] (fun G => xA (Acut [0] sl44 sl44 (rv10.1.toNat) (((rv10.1 + 1) : Int).toNat))) (Dg [] (fun G => (G.g 7 0)) (fun G => Va) ?_)
  refine Dn ⟨by kernel_rfl, fun G => ?_⟩
  refine Jw2 [(5, (G.g 7 0))] [0, 2, 3] [os (G.g 7 0) (b.eraseIdx (rv10.1.toNat))] ?_
  generalize G.g 7 0 = c65
  refine Jo 3 ?_; rintro a67 k68 rfl
  refine Fb 1 3 fun _ => KS ?_
  refine Oq Vm (Oq Va (KS ?_))
  have hq := q4 hrr ((b.eraseIdx (rv10.1.toNat)), rv16.2) (by simp only [tp_Bytes, h22, h38, h46, h63, hg11, hg17, cs4]); subst hq
  exact Kr (vl a67 k68 (b.eraseIdx (rv10.1.toNat))) rfl (.tmp rfl .nil) [3, 0] en
 intro h63
 have g70 := df h63
 refine KS ?_
 refine Oq Vm (Oq Va (KS ?_))
 have hq := q4 hrr (b, rv16.2) (by simp only [tp_Bytes, h22, h38, h46, h63, hg11, hg17, cs4]); subst hq
 exact Kr (vl a8 k9 b) rfl (.tmp rfl .nil) [1, 0] en
theorem fn6 (l : List Int) (la0 : Option Addr) (lk0 : Nat) (rr : Unit) (hrr : g_New l = rr) : FT Tryz.prog 6 #[vl la0 lk0 l] [S la0 lk0 l] (fun g : Value => True) (fun g => g) (fun g => [Cl g [vl la0 lk0 l, vi 0]]) := by
 refine FTi Tryz.func6 fun w0 M0 F0 => Fb 8 0 fun _ => Fo 0 fun ho2 => ?_
 refine KS ?_
 refine Oq Va (KS ?_)
 refine Oq Vm (Oq (Vbd st65 [vl la0 lk0 l, vi 0]) (Oa (AbO [vl la0 lk0 l, vi 0]) fun p3 => Oq Va (KS ?_)))
 have hq := q4 hrr () (by simp only [g_New, cs4]); subst hq
 exact Kr p3 rfl (.tmp rfl .nil) [0] trivial
theorem fn39 (tP : Value) (ta : Option Addr) (tk : Nat) (tT : List Int) (tI : Int) (htI : 0 ≤ tI ∧ tI ≤ (tT.length : Int)) (rr : Int × Int) (hrr : tp_Width tT tI = rr) : FT Tryz.prog 39 #[tP] [Cl tP [vl ta tk tT, vi tI], S ta tk tT] (fun g : Unit => i64ok rr.1 ∧ (0 ≤ rr.2 ∧ rr.2 ≤ (tT.length : Int)) ∧ (0 ≤ rr.1 ∧ rr.1 ≤ 8)) (fun g => vi rr.1) (fun g => [Cl tP [vl ta tk tT, vi rr.2]]) := by
 refine FTi Tryz.func39 fun w0 M0 F0 => Fb 8 1 fun _ => Fo 1 fun ho2 => ?_
 refine KS ?_
 refine Oq Va (KS ?_)
 refine Oa (AsV sl22 sz22 [vi 3, vi 1, vi 4, vi 2, vi 6, vi 0, vi 8] [vi 3, vi 1, vi 4, vi 2, vi 6, vi 0, vi 8]) fun c3 => ?_
 refine Jo 0 ?_; rintro a4 k5 rfl
 refine Oq Vm ?_
 refine letv (tp_Next tT tI 7) fun rv6 hg7 => ?_
 have hc8 := fn9 tP ta tk tT tI 7 pre pre rv6 hg7
 refine Oc [1, 1] ca9 hc8 ?_
 rintro - ⟨he9, he10, he11⟩
 unfold i64ok at he9
 refine Jl [1] (Ent.crInt _ [3, 1, 4, 2, 6, 0, 8] _ _ rfl rfl (by intro x hx; simp only [List.mem_cons, List.not_mem_nil, or_false] at hx; rcases hx with rfl | rfl | rfl | rfl | rfl | rfl | rfl <;> (unfold i64ok; omega)) aB1) ?_
 refine Oq (Vi sl22 0) (Oq (VldI sh3 0) (Oq Va (KS ?_)))
 have hq := q4 hrr (([3, 1, 4, 2, 6, 0, 8].getD rv6.1.toNat 0), rv6.2) (by simp only [tp_Width, hg7, cs4]); subst hq
 exact Kr () rfl (.tmp rfl .nil) [1] ⟨(by rw [← hrr]; exact width_ok _ _), en, (by rw [← hrr]; exact width_rng _ _)⟩
theorem fn40 (l : List Int) (la0 : Option Addr) (lk0 : Nat) (n : Int) (hn_0 : i64ok n) (hl0 : l.length ≤ 1000000000) (rr : List Int) (hrr : r7_Insert l n = rr) : FT Tryz.prog 40 #[vl la0 lk0 l, vi n] [S la0 lk0 l] (fun g : Value => (rr.length ≤ l.length + 1)) (fun g => g) (fun g => [sl g rr]) := by
 refine FTi Tryz.func40 fun w0 M0 F0 => ?_
 unfold i64ok at hn_0
 refine Fb 8 0 fun _ => Fo 0 fun ho2 => KS ?_
 refine Oq Va (KS ?_)
 refine Oq Va (KS ?_)
 refine Kl (γ := Nat × Int) (fun (r3, i_4) => ⟨[(0, vl la0 lk0 l), (1, vi n), (5, vi i_4)], [S la0 lk0 l], r7_Insert_L0 l n r3 i_4 = r7_Insert_L0 l n (((l.length : Int) - 0).toNat) 0 ∧ r3 = ((l.length : Int) - i_4).toNat ∧ (0 : Int) ≤ i_4 ∧ i_4 ≤ (l.length : Int) ∧ (-9223372036854775808 ≤ i_4 ∧ i_4 ≤ 9223372036854775807), r3⟩) (((l.length : Int) - 0).toNat, 0) [0] ⟨rfl, rfl, aM1, aM1, aM1⟩ ?_
 rintro ⟨r3, i_4⟩ ⟨hM5, hr6, hi7, hi8, hk9⟩
 refine JJ_nx fun _ _ hL hA => ?_; dsimp only at hL hA; subst hL hA
 refine Fb 8 0 fun _ => Fo 0 fun ho11 => KS ?_
 refine Oq Vm (Oq Vm (Oq (Vlen sl22) (Oq Vlss (Oq Vm ?_))))
 refine Js 11 ?_ ?_
 ·intro h12
  have g13 := dt h12
  obtain ⟨r14, rfl⟩ := scc (n := r3) aM1
  refine Oq Vm (Oq Vm (Oq (Vi sl22 0) ?_))
  have hb15 := ok1 (i := i_4.toNat) ho11 rng
  refine Oq (VldI sh3 0) (Oq Vm (Oq Vlss (Oq Vpt (KS ?_))))
  refine Kc ?_ ?_
  ·intro h16
   have g17 := dt h16
   refine KS ?_
   refine Oq Vm (Oq Vadd (Oq Va (KS ?_)))
   exact Kg (r14, (i_4 + 1)) [0] ⟨(q3 hM5 (by simp only [r7_Insert_L0, h12, h16, cs4])), aM1, aM1, aM1, aM1⟩
  intro h16
  have g18 := df h16
  refine Ke ?_
  have hR19 := q2 hM5 i_4 (by simp only [r7_Insert_L0, h12, h16, cs4])
  refine KS ?_
  refine Oq Vm (Oq Vm (Oq (Vlen sl22) (Oq Vlss (Oq Vm ?_))))
  refine Js 25 ?_ ?_
  ·intro h20
   have g21 := dt h20
   refine Oq Vm (Oq Vm (Oq (Vi sl22 0) ?_))
   have hb22 := ok1 (i := i_4.toNat) ho11 rng
   refine Oq (VldI sh3 0) (Oq Vm (Oq Veql (Oq Vpt (KS ?_))))
   refine Kc ?_ ?_
   ·intro h23
    have g24 := eq_of_beq h23
    refine KS ?_
    refine Oq Vm (Oq Va (KS ?_))
    have hq := q4 hrr l (by simp only [r7_Insert, h12, h16, h20, h23, hR19, cs4]); subst hq
    exact Kr (vl la0 lk0 l) rfl (.tmp rfl .nil) [0] en
   intro h23
   have g25 := ne_of_beq_false h23
   refine KS ?_
   refine Oa (As0 sl22) fun c26 => ?_
   refine Jo 0 ?_; rintro a27 k28 rfl
   refine Oq Vm (Oq Vm (Oa (Asl [1] sl22 0 (i_4.toNat)) fun c29 => ?_))
   refine Jo 0 ?_; rintro a30 k31 rfl
   refine Fb 8 0 fun _ => Fo 0 fun ho33 => ?_
   have hn34 : ((l.take (i_4.toNat)).drop 0).length = (i_4.toNat) - 0 := len_slice rng rng
   refine Jl [1] (Ent.crNil (α := Int) _) ?_
   refine Oa (Ap0 [0, 0] sl22 sl22 sz22) fun c35 => ?_
   refine Jo 0 ?_; rintro a36 k37 rfl
   refine Oq Va (KS ?_)
   refine Oq Vm (Oq Vm (Oa (AsV sl22 sz22 [vi n] [vi n]) fun c38 => ?_))
   refine Jo 0 ?_; rintro a39 k40 rfl
   refine Jl [0] (Ent.crInt _ [n] _ _ rfl rfl (by intro x hx; rw [List.mem_singleton] at hx; subst hx; unfold i64ok; omega) aB1) ?_
   refine Oa (ApO [1, 0] sl22 sl22 sz22) fun c41 => ?_
   refine Jo 0 ?_; rintro a42 k43 rfl
   refine Fb 8 0 fun _ => Fo 0 fun ho45 => ?_
   have hn46 := la ((l.take (i_4.toNat)).drop 0) ([n] : List Int)
   refine Oq Va (KS ?_)
   refine Oq Vm (Oq Vm (Oq Vm (Oa (Asl [2] sl22 (i_4.toNat) l.length) fun c47 => ?_)))
   refine Jo 0 ?_; rintro a48 k49 rfl
   refine Fb 8 0 fun _ => Fo 0 fun ho51 => ?_
   have hn52 : ((l.take l.length).drop (i_4.toNat)).length = l.length - (i_4.toNat) := len_slice rng rng
   refine Oa (Ap [1, 0] sl22 sl22 sz22) fun c53 => ?_
   refine Jo 0 ?_; rintro a54 k55 rfl
   refine Fb 8 0 fun _ => Fo 0 fun ho57 => ?_
   have hn58 := la ((((l.take (i_4.toNat)).drop 0) ++ [n]) : List Int) ((l.take l.length).drop (i_4.toNat))
   refine Oq Va (KS ?_)
   refine Jl [0] (Ent.freeze _ _) ?_
   have hq := q4 hrr ((((l.take (i_4.toNat)).drop 0) ++ [n]) ++ ((l.take l.length).drop (i_4.toNat))) (by simp only [r7_Insert, h12, h16, h20, h23, hR19, cs4]); subst hq
   exact Kr (.slice a54 (((((l.take (i_4.toNat)).drop 0) ++ [n]) ++ ((l.take l.length).drop (i_4.toNat))).length) k55) rfl (.tmp rfl .nil) [0] en
  intro h20
  exact absurd h20 (by first | (simp [h12]; done) | (simp only [bne, h12]; decide) | (simp only [bne, h12, Bool.not_true, Bool.not_false]; decide) | (exfalso; omega) | (intro hq; simp only [bne, hq, Bool.not_false, Bool.not_true, reduceCtorEq] at h12))
 intro h12
 have g59 := df h12
 obtain rfl : r3 = 0 := by omega
 refine Osk (Osk (Osk (Osk (Osk (Osk (Oq Vpf (KS ?_)))))))
 refine Kf ?_
 refine Ke ?_
 have hR60 := q2 hM5 i_4 (by simp only [r7_Insert_L0, h12, cs4])
 refine KS ?_
 refine Oq Vm (Oq Vm (Oq (Vlen sl22) (Oq Vlss (Oq Vm ?_))))
 refine Js 25 ?_ ?_
 ·intro h61
  exact absurd h61 (by first | (simp [h12]; done) | (simp only [bne, h12]; decide) | (simp only [bne, h12, Bool.not_true, Bool.not_false]; decide) | (exfalso; omega) | (intro hq; simp only [bne, hq, Bool.not_false, Bool.not_true, reduceCtorEq] at h12))
 intro h61
 have g62 := df h61
 refine Osk (Osk (Osk (Osk (Osk (Osk (Oq Vpf (KS ?_)))))))
 refine Kf (KS ?_)
 refine Oa (As0 sl22) fun c63 => ?_
 refine Jo 0 ?_; rintro a64 k65 rfl
 refine Oq Vm (Oq Vm (Oa (Asl [1] sl22 0 (i_4.toNat)) fun c66 => ?_))
 refine Jo 0 ?_; rintro a67 k68 rfl
 refine Fb 8 0 fun _ => Fo 0 fun ho70 => ?_
 have hn71 : ((l.take (i_4.toNat)).drop 0).length = (i_4.toNat) - 0 := len_slice rng rng
 refine Jl [1] (Ent.crNil (α := Int) _) ?_
 refine Oa (Ap0 [0, 0] sl22 sl22 sz22) fun c72 => ?_
 refine Jo 0 ?_; rintro a73 k74 rfl
 refine Oq Va (KS ?_)
 refine Oq Vm (Oq Vm (Oa (AsV sl22 sz22 [vi n] [vi n]) fun c75 => ?_))
 refine Jo 0 ?_; rintro a76 k77 rfl
 refine Jl [0] (Ent.crInt _ [n] _ _ rfl rfl (by intro x hx; rw [List.mem_singleton] at hx; subst hx; unfold i64ok; omega) aB1) ?_
 refine Oa (ApO [1, 0] sl22 sl22 sz22) fun c78 => ?_
 refine Jo 0 ?_; rintro a79 k80 rfl
 refine Fb 8 0 fun _ => Fo 0 fun ho82 => ?_
 have hn83 := la ((l.take (i_4.toNat)).drop 0) ([n] : List Int)
 refine Oq Va (KS ?_)
 refine Oq Vm (Oq Vm (Oq Vm (Oa (Asl [2] sl22 (i_4.toNat) l.length) fun c84 => ?_)))
 refine Jo 0 ?_; rintro a85 k86 rfl
 refine Fb 8 0 fun _ => Fo 0 fun ho88 => ?_
 have hn89 : ((l.take l.length).drop (i_4.toNat)).length = l.length - (i_4.toNat) := len_slice rng rng
 refine Oa (Ap [1, 0] sl22 sl22 sz22) fun c90 => ?_
 refine Jo 0 ?_; rintro a91 k92 rfl
 refine Fb 8 0 fun _ => Fo 0 fun ho94 => ?_
 have hn95 := la ((((l.take (i_4.toNat)).drop 0) ++ [n]) : List Int) ((l.take l.length).drop (i_4.toNat))
 refine Oq Va (KS ?_)
 refine Jl [0] (Ent.freeze _ _) ?_
 have hq := q4 hrr ((((l.take (i_4.toNat)).drop 0) ++ [n]) ++ ((l.take l.length).drop (i_4.toNat))) (by simp only [r7_Insert, h12, h61, hR60, cs4]); subst hq
 exact Kr (.slice a91 (((((l.take (i_4.toNat)).drop 0) ++ [n]) ++ ((l.take l.length).drop (i_4.toNat))).length) k92) rfl (.tmp rfl .nil) [0] en
theorem fn41 (width : Int) (hwidth_0 : i64ok width) (hw0 : 0 ≤ width ∧ width ≤ 1000000) (rr : GSet) (hrr : r1_Empty width = rr) : FT Tryz.prog 41 #[vi width] [] (fun g : Value => i64ok rr.Width ∧ (rr.Width = width) ∧ (rr.Words.length = (((width : Int) + 63) / 64).toNat)) (fun g => .agg #[vi rr.Width, g]) (fun g => [os g rr.Words]) := by
 refine FTi Tryz.func41 fun w0 M0 F0 => ?_
 unfold i64ok at hwidth_0
 refine KS ?_
 refine Oa (Al ze39 [vi 0, .slice none 0 0]) fun p1 => KS ?_
 refine Oq Vm (Oq Vm (Oq Vadd (Oq Vquo (Oa (Amk (α := BitVec 64) sl37 sz37 0#64 (fun _ _ => rfl)) fun c2 => ?_))))
 refine Jo 0 ?_; rintro a3 k4 rfl
 refine Fb 8 0 fun _ => ?_
 have hn6 := List.length_replicate (n := (((width + 63) / 64) : Int).toNat) (a := (0#64 : BitVec 64))
 refine Oq (Vbd st39 [vi width, vl a3 k4 (List.replicate (((width + 63) / 64) : Int).toNat 0#64)]) (Ost (Scl [1] sh39 [vi width, vl a3 k4 (List.replicate (((width + 63) / 64) : Int).toNat 0#64)]) (KS ?_))
 have hq := q4 hrr (GSet.mk width (List.replicate (((width + 63) / 64) : Int).toNat 0#64)) (by simp only [r1_Empty, cs4]); subst hq
 exact Kr (vl a3 k4 (List.replicate (((width + 63) / 64) : Int).toNat 0#64)) rfl (.cellN 0 rfl sh39 rfl (reads_Cl _ _) rfl .nil) [1] en
theorem fn68 (s : GSet) (sa1 : Option Addr) (sk1 : Nat) (b : Int) (hs_0 : i64ok s.Width) (hb_0 : i64ok b) (hb0 : 0 ≤ b ∧ b < s.Width) (hw0 : s.Width ≤ 1000000) (rr : GSet) (hrr : r1_Put s b = rr) : FT Tryz.prog 68 #[.agg #[vi s.Width, vl sa1 sk1 s.Words], vi b] [S sa1 sk1 s.Words] (fun g : Value => i64ok rr.Width ∧ (rr.Width = s.Width) ∧ (rr.Words.length = ((s.Width + 63) / 64).toNat)) (fun g => .agg #[vi rr.Width, g]) (fun g => [os g rr.Words]) := by
 refine FTi Tryz.func68 fun w0 M0 F0 => ?_
 unfold i64ok at hs_0 hb_0
 refine Fb 8 0 fun _ => KS ?_
 refine Oa (Ab [vi s.Width, vl sa1 sk1 s.Words]) fun p2 => Oa (Al ze39 [vi 0, .slice none 0 0]) fun p3 => KS ?_
 refine Oq (Vfa fo39_0 1) (Oq (VldF sh3 1) ?_)
 refine letv (r1_Empty s.Width) fun rv5 hg6 => ?_
 have hc7 := fn41 s.Width pre pre rv5 hg6
 refine Oc [] ca41 hc7 ?_
 rintro c4 ⟨he8, he9, he10⟩
 unfold i64ok at he8
 refine Jo 0 ?_; rintro a11 k12 rfl
 refine Fb 8 0 fun _ => ?_
 refine Oa (Al ze39 [vi 0, .slice none 0 0]) fun p14 => Ost (Scl [0] sh39 [vi rv5.Width, vl a11 k12 rv5.Words]) (KS ?_)
 refine Oq (Vfa fo39_1 0) (Oq (VldF sh37 0) (Oq (Vfa fo39_1 3) (Oq (VldF sh37 3) (Oa (OpA.frame [1, 3] rfl (OpA.copyS (α := BitVec 64) rfl rfl rfl sl37 rfl)) fun u15 => ?_))))
 have hn16 : (s.Words.take rv5.Words.length ++ rv5.Words.drop s.Words.length).length = rv5.Words.length := len_copy _ _
 have hb17 : Nat.min s.Words.length rv5.Words.length ≤ s.Words.length := Nat.min_le_left _ _
 refine KS ?_
 refine Oq (Vfa fo39_1 1) (Oq (VldF sh37 1) (Oq Vm (Oq Vquo (Oq (Vi sl37 0) (Oq (VldU sh68 0) (Oq Vm (Oq Vrem (Oq (VcU un3 un69) (Oq (VshlU (a := 1#64)) ?_)))))))))
 refine Oq VorU (Oq (Vi sl37 0) (Ost (SoU [0] sh68) (KS ?_)))
 refine Oq (VldA sh39 1) (Ost (Scl [2] sh39 [vi rv5.Width, vl a11 k12 rv5.Words]) (KS ?_))
 have hq := q4 hrr (GSet.mk rv5.Width ((s.Words.take rv5.Words.length ++ rv5.Words.drop s.Words.length).set ((b / 64) : Int).toNat (((s.Words.take rv5.Words.length ++ rv5.Words.drop s.Words.length).getD ((b / 64) : Int).toNat 0#64) ||| (1#64 <<< (((BitVec.ofInt 64 (b % 64)).toNat : Int)).toNat)))) (by simp only [r1_Put, hg6, cs4]); subst hq
 exact Kr (vl a11 k12 rv5.Words) rfl (.cellN 0 rfl sh39 rfl (reads_Cl _ _) rfl .nil) [1] en
theorem fn42 (tP : Value) (ta : Option Addr) (tk : Nat) (tT : List Int) (tI : Int) (width : Int) (htI : 0 ≤ tI ∧ tI ≤ (tT.length : Int)) (hwidth_0 : i64ok width) (hw0 : 0 ≤ width ∧ width ≤ 1000) (rr : GSet × Int) (hrr : tp_Set tT tI width = rr) : FT Tryz.prog 42 #[tP, vi width] [Cl tP [vl ta tk tT, vi tI], S ta tk tT] (fun g : Value => i64ok rr.1.Width ∧ (0 ≤ rr.2 ∧ rr.2 ≤ (tT.length : Int)) ∧ (rr.1.Width = width) ∧ (rr.1.Words.length = (((width : Int) + 63) / 64).toNat)) (fun g => .agg #[vi rr.1.Width, g]) (fun g => [os g rr.1.Words, Cl tP [vl ta tk tT, vi rr.2]]) := by
 refine FTi Tryz.func42 fun w0 M0 F0 => ?_
 unfold i64ok at hwidth_0
 refine Fb 8 1 fun _ => Fo 1 fun ho2 => KS ?_
 refine Oa (Al ze39 [vi 0, .slice none 0 0]) fun p3 => KS ?_
 refine Oq Vm ?_
 refine letv (r1_Empty width) fun rv5 hg6 => ?_
 have hc7 := fn41 width pre pre rv5 hg6
 refine Oc [] ca41 hc7 ?_
 rintro c4 ⟨he8, he9, he10⟩
 unfold i64ok at he8
 refine Jo 0 ?_; rintro a11 k12 rfl
 refine Fb 8 0 fun _ => ?_
 refine Oa (Al ze39 [vi 0, .slice none 0 0]) fun p14 => Ost (Scl [0] sh39 [vi rv5.Width, vl a11 k12 rv5.Words]) (KS ?_)
 refine Oq Va (KS ?_)
 refine Kl (γ := Nat × Int × Int × List (BitVec 64) × Int × Option Addr × Nat) (fun (r15, ti_16, s0_17, s1_18, b_19, a20, k21) => ⟨[(0, tP), (1, vi width), (4, p3), (5, p14), (6, vi b_19)], [O a20 k21 s1_18, Cl p14 [vi s0_17, vl a20 k21 s1_18], Cl p3 [vi 0, .slice none 0 0], Cl tP [vl ta tk tT, vi ti_16], S ta tk tT], tp_Set_L0 tT r15 ti_16 s0_17 s1_18 b_19 = tp_Set_L0 tT (((width : Int) - 0).toNat) tI rv5.Width rv5.Words 0 ∧ r15 = ((width : Int) - b_19).toNat ∧ (0 : Int) ≤ b_19 ∧ (b_19 ≤ width ∨ b_19 = 0) ∧ (-9223372036854775808 ≤ ti_16 ∧ ti_16 ≤ 9223372036854775807) ∧ (0 ≤ ti_16 ∧ ti_16 ≤ (tT.length : Int)) ∧ (-9223372036854775808 ≤ s0_17 ∧ s0_17 ≤ 9223372036854775807) ∧ (-9223372036854775808 ≤ b_19 ∧ b_19 ≤ 9223372036854775807) ∧ s0_17 = width ∧ s1_18.length = (((width : Int) + 63) / 64).toNat, r15⟩) (((width : Int) - 0).toNat, tI, rv5.Width, rv5.Words, 0, a11, k12) [1, 0, 0, 0, 0] ⟨rfl, rfl, aM1, (.inr rfl), aM1, aM1, aM1, aM1, iv0, iv0⟩ ?_
 rintro ⟨r15, ti_16, s0_17, s1_18, b_19, a20, k21⟩ ⟨hM22, hr23, hi24, hi25, hk26, ht27, hk28, hk29, hv30, hv31⟩
 refine JJ_nx fun _ _ hL hA => ?_; dsimp only at hL hA; subst hL hA
 refine Fb 8 0 fun _ => Fb 8 4 fun _ => Fo 4 fun ho34 => KS ?_
 refine Oq Vm (Oq Vm (Oq Vlss (KS ?_)))
 refine Kc ?_ ?_
 ·intro h35
  have g36 := dt h35
  obtain ⟨r37, rfl⟩ := scc (n := r15) aM1
  refine KS ?_
  refine Oq Vm ?_
  refine letv (tp_Next tT ti_16 3) fun rv38 hg39 => ?_
  have hc40 := fn9 tP ta tk tT ti_16 3 pre pre rv38 hg39
  refine Oc [3, 3] ca9 hc40 ?_
  rintro - ⟨he41, he42, he43⟩
  unfold i64ok at he41
  refine Oq Veql (KS ?_)
  refine Kc ?_ ?_
  ·intro h44
   have g45 := eq_of_beq h44
   refine KS ?_
   refine Oq (VldA sh39 2) (Oq Vm ?_)
   refine letv (r1_Put (GSet.mk s0_17 s1_18) b_19) fun rv47 hg48 => ?_
   refine Oc [1] ca68 (FT_borrow (A := _) hlx (FT_ent (Ent.take (is := [0]) rfl) (fn68 ((GSet.mk s0_17 s1_18)) a20 k21 b_19 pre pre pre pre rv47 hg48))) ?_ (ht := rfl)
   rintro c46 ⟨he49, he50, he51⟩
   unfold i64ok at he49
   have he50 : (rv47.Width = s0_17) := he50
   have he51 : (rv47.Words.length = ((s0_17 + 63) / 64).toNat) := he51
   refine Jo 1 ?_; rintro a52 k53 rfl
   refine Fb 8 1 fun _ => ?_
   refine Ost (Scl [3] sh39 [vi rv47.Width, vl a52 k53 rv47.Words]) (KS ?_)
   refine Oq Vm (Oq Vadd (Oq Va (KS ?_)))
   exact Kg (r37, rv38.2, rv47.Width, rv47.Words, (b_19 + 1), a52, k53) [2, 0, 2, 1, 1] ⟨(q3 hM22 (by simp only [tp_Set_L0, h35, h44, hg39, hg48, cs4])), aM1, aM1, aM1, aM1, aM1, aM1, aM1, iv1, iv1⟩
  intro h44
  have g55 := ne_of_beq_false h44
  refine KS ?_
  refine Oq Vm (Oq Vadd (Oq Va (KS ?_)))
  exact Kg (r37, rv38.2, s0_17, s1_18, (b_19 + 1), a20, k21) [1, 1, 1, 0, 0] ⟨(q3 hM22 (by simp only [tp_Set_L0, h35, h44, hg39, cs4])), aM1, aM1, aM1, aM1, aM1, aM1, aM1, iv1, iv1⟩
 intro h35
 have g56 := df h35
 obtain rfl : r15 = 0 := by omega
 refine Ke ?_
 have hR57 := q2 hM22 (ti_16, s0_17, s1_18) (by simp only [tp_Set_L0, h35, cs4])
 refine KS ?_
 refine Oq (VldA sh39 1) (Ost (Scl [2] sh39 [vi s0_17, vl a20 k21 s1_18]) (KS ?_))
 have hq := q4 hrr ((GSet.mk s0_17 s1_18), ti_16) (by simp only [tp_Set, h35, hg6, hR57, cs4]); subst hq
 exact Kr (vl a20 k21 s1_18) rfl (.cellN 0 rfl sh39 rfl (reads_Cl _ _) rfl .nil) [1, 2] en
theorem fn43 (tP : Value) (ta : Option Addr) (tk : Nat) (tT : List Int) (tI : Int) (width : Int) (htI : 0 ≤ tI ∧ tI ≤ (tT.length : Int)) (hwidth_0 : i64ok width) (hw0 : 0 ≤ width ∧ width ≤ 1000) (rr : GTransfer × Int) (hrr : tp_Transfer tT tI width = rr) : FT Tryz.prog 43 #[tP, vi width] [Cl tP [vl ta tk tT, vi tI], S ta tk tT] (fun g : Value × Value × Value => i64ok rr.1.Gen.Width ∧ i64ok rr.1.Kill.Width ∧ (0 ≤ rr.2 ∧ rr.2 ≤ (tT.length : Int)) ∧ (rr.1.Gen.Width = width) ∧ (rr.1.Kill.Width = width) ∧ (rr.1.Copies.length ≤ 12)) (fun g => .agg #[vi rr.1.Gen.Width, g.1, vi rr.1.Kill.Width, g.2.1, g.2.2]) (fun g => [sl g.1 rr.1.Gen.Words, sl g.2.1 rr.1.Kill.Words, sl g.2.2 rr.1.Copies, Cl tP [vl ta tk tT, vi rr.2]]) := by
 refine FTi Tryz.func43 fun w0 M0 F0 => ?_
 unfold i64ok at hwidth_0
 refine Fb 8 1 fun _ => Fo 1 fun ho2 => KS ?_
 refine Oa (Al ze85 [vi 0, .slice none 0 0, vi 0, .slice none 0 0, .slice none 0 0]) fun p3 => KS ?_
 refine Oq Vm ?_
 refine letv (r1_Empty width) fun rv5 hg6 => ?_
 have hc7 := fn41 width pre pre rv5 hg6
 refine Oc [] ca41 hc7 ?_
 rintro c4 ⟨he8, he9, he10⟩
 unfold i64ok at he8
 refine Jo 0 ?_; rintro a11 k12 rfl
 refine Fb 8 0 fun _ => Oq Vm ?_
 have hc15 := fn41 width pre pre rv5 hg6
 refine Oc [] ca41 hc15 ?_
 rintro c14 ⟨he16, he17, he18⟩
 unfold i64ok at he16
 refine Jo 0 ?_; rintro a19 k20 rfl
 refine Oq (Vbd st85 [vi rv5.Width, vl a11 k12 rv5.Words, vi rv5.Width, vl a19 k20 rv5.Words, .slice none 0 0]) (Oa (Al ze85 [vi 0, .slice none 0 0, vi 0, .slice none 0 0, .slice none 0 0]) fun p21 => Ost (Scl [0] sh85 [vi rv5.Width, vl a11 k12 rv5.Words, vi rv5.Width, vl a19 k20 rv5.Words, .slice none 0 0]) (KS ?_))
 refine Oq Va (KS ?_)
 refine Kl (γ := Nat × Int × Int × List (BitVec 64) × Int × List (BitVec 64) × Int × Option Addr × Nat × Option Addr × Nat) (fun (r22, ti_23, f0_24, f1_25, f2_26, f3_27, b_28, a29, k30, a31, k32) => ⟨[(0, tP), (1, vi width), (4, p3), (5, p21), (6, vi b_28)], [O a31 k32 f3_27, O a29 k30 f1_25, Cl p21 [vi f0_24, vl a29 k30 f1_25, vi f2_26, vl a31 k32 f3_27, .slice none 0 0], Cl p3 [vi 0, .slice none 0 0, vi 0, .slice none 0 0, .slice none 0 0], Cl tP [vl ta tk tT, vi ti_23], S ta tk tT], tp_Transfer_L0 tT r22 ti_23 f0_24 f1_25 f2_26 f3_27 b_28 = tp_Transfer_L0 tT (((width : Int) - 0).toNat) tI rv5.Width rv5.Words rv5.Width rv5.Words 0 ∧ r22 = ((width : Int) - b_28).toNat ∧ (0 : Int) ≤ b_28 ∧ (b_28 ≤ width ∨ b_28 = 0) ∧ (-9223372036854775808 ≤ ti_23 ∧ ti_23 ≤ 9223372036854775807) ∧ (0 ≤ ti_23 ∧ ti_23 ≤ (tT.length : Int)) ∧ (-9223372036854775808 ≤ f0_24 ∧ f0_24 ≤ 9223372036854775807) ∧ (-9223372036854775808 ≤ f2_26 ∧ f2_26 ≤ 9223372036854775807) ∧ (-9223372036854775808 ≤ b_28 ∧ b_28 ≤ 9223372036854775807) ∧ f0_24 = width ∧ f1_25.length = (((width : Int) + 63) / 64).toNat ∧ f2_26 = width ∧ f3_27.length = (((width : Int) + 63) / 64).toNat, r22⟩) (((width : Int) - 0).toNat, tI, rv5.Width, rv5.Words, rv5.Width, rv5.Words, 0, a11, k12, a19, k20) [1, 1, 0, 0, 0, 0] ⟨rfl, rfl, aM1, (.inr rfl), aM1, aM1, aM1, aM1, aM1, iv0, iv0, iv0, iv0⟩ ?_
 rintro ⟨r22, ti_23, f0_24, f1_25, f2_26, f3_27, b_28, a29, k30, a31, k32⟩ ⟨hM33, hr34, hi35, hi36, hk37, ht38, hk39, hk40, hk41, hv42, hv43, hv44, hv45⟩
 refine JJ_nx fun _ _ hL hA => ?_; dsimp only at hL hA; subst hL hA
 refine Fb 8 0 fun _ => Fb 8 1 fun _ => Fb 8 5 fun _ => Fo 5 fun ho49 => KS ?_
 refine Oq Vm (Oq Vm (Oq Vlss (KS ?_)))
 refine Kc ?_ ?_
 ·intro h50
  have g51 := dt h50
  obtain ⟨r52, rfl⟩ := scc (n := r22) aM1
  refine KS ?_
  refine Oq Vm ?_
  refine letv (tp_Next tT ti_23 6) fun rv53 hg54 => ?_
  have hc55 := fn9 tP ta tk tT ti_23 6 pre pre rv53 hg54
  refine Oc [4, 4] ca9 hc55 ?_
  rintro - ⟨he56, he57, he58⟩
  unfold i64ok at he56
  refine KS ?_
  refine Oq Veql (Oq Va (KS ?_))
  refine Kc ?_ ?_
  ·intro h59
   have g60 := eq_of_beq h59
   refine KS ?_
   refine Oq (Vfa fo85_0 3) (Oq (VldG sh39 3 [vi f0_24, vl a29 k30 f1_25]) (Oq Vm ?_))
   refine letv (r1_Put (GSet.mk f0_24 f1_25) b_28) fun rv62 hg63 => ?_
   refine Oc [2] ca68 (FT_borrow (A := _) hlx (FT_ent (Ent.take (is := [0]) rfl) (fn68 ((GSet.mk f0_24 f1_25)) a29 k30 b_28 pre pre pre pre rv62 hg63))) ?_ (ht := rfl)
   rintro c61 ⟨he64, he65, he66⟩
   unfold i64ok at he64
   have he65 : (rv62.Width = f0_24) := he65
   have he66 : (rv62.Words.length = ((f0_24 + 63) / 64).toNat) := he66
   refine Jo 1 ?_; rintro a67 k68 rfl
   refine Fb 8 1 fun _ => ?_
   refine Oq (Vfa fo85_0 4) (Ost (SclF [4] sh39 [vi rv62.Width, vl a67 k68 rv62.Words, vi f2_26, vl a31 k32 f3_27, .slice none 0 0]) (KS ?_))
   refine Oq Vm (Oq Vadd (Oq Va (KS ?_)))
   exact Kg (r52, rv53.2, rv62.Width, rv62.Words, f2_26, f3_27, (b_28 + 1), a67, k68, a31, k32) [4, 2, 0, 2, 1, 1] ⟨(q3 hM33 (by simp only [tp_Transfer_L0, h50, h59, hg54, hg63, cs4])), aM1, aM1, aM1, aM1, aM1, aM1, aM1, aM1, iv1, iv1, iv1, iv1⟩
  intro h59
  have g70 := ne_of_beq_false h59
  refine KS ?_
  refine Oq Veql (Oq Va (KS ?_))
  refine Kc ?_ ?_
  ·intro h71
   have g72 := eq_of_beq h71
   refine KS ?_
   refine Kc ?_ ?_
   ·intro h73
    have g74 := eq_of_beq h73
    refine KS ?_
    refine Oq (Vfa fo85_1 3) (Oq (VldG sh39 3 [vi f2_26, vl a31 k32 f3_27]) (Oq Vm ?_))
    refine letv (r1_Put (GSet.mk f2_26 f3_27) b_28) fun rv76 hg77 => ?_
    refine Oc [1] ca68 (FT_borrow (A := _) hlx (FT_ent (Ent.take (is := [0]) rfl) (fn68 ((GSet.mk f2_26 f3_27)) a31 k32 b_28 pre pre pre pre rv76 hg77))) ?_ (ht := rfl)
    rintro c75 ⟨he78, he79, he80⟩
    unfold i64ok at he78
    have he79 : (rv76.Width = f2_26) := he79
    have he80 : (rv76.Words.length = ((f2_26 + 63) / 64).toNat) := he80
    refine Jo 1 ?_; rintro a81 k82 rfl
    refine Fb 8 1 fun _ => ?_
    refine Oq (Vfa fo85_1 4) (Ost (SclF [4] sh39 [vi f0_24, vl a29 k30 f1_25, vi rv76.Width, vl a81 k82 rv76.Words, .slice none 0 0]) (KS ?_))
    refine Oq Vm (Oq Vadd (Oq Va (KS ?_)))
    exact Kg (r52, rv53.2, f0_24, f1_25, rv76.Width, rv76.Words, (b_28 + 1), a29, k30, a81, k82) [2, 3, 0, 2, 1, 1] ⟨(q3 hM33 (by simp only [tp_Transfer_L0, h50, h59, h71, h73, hg54, hg77, cs4])), aM1, aM1, aM1, aM1, aM1, aM1, aM1, aM1, iv1, iv1, iv1, iv1⟩
   intro h73
   exact absurd h73 (by first | (simp [h71]; done) | (simp only [bne, h71]; decide) | (simp only [bne, h71, Bool.not_true, Bool.not_false]; decide) | (exfalso; omega) | (intro hq; simp only [bne, hq, Bool.not_false, Bool.not_true, reduceCtorEq] at h71))
  intro h71
  have g84 := ne_of_beq_false h71
  refine KS ?_
  refine Oq Veql (Oq Va (KS ?_))
  refine Kc ?_ ?_
  ·intro h85
   have g86 := eq_of_beq h85
   refine KS ?_
   refine Oq (Vfa fo85_1 3) (Oq (VldG sh39 3 [vi f2_26, vl a31 k32 f3_27]) (Oq Vm ?_))
   refine letv (r1_Put (GSet.mk f2_26 f3_27) b_28) fun rv88 hg89 => ?_
   refine Oc [1] ca68 (FT_borrow (A := _) hlx (FT_ent (Ent.take (is := [0]) rfl) (fn68 ((GSet.mk f2_26 f3_27)) a31 k32 b_28 pre pre pre pre rv88 hg89))) ?_ (ht := rfl)
   rintro c87 ⟨he90, he91, he92⟩
   unfold i64ok at he90
   have he91 : (rv88.Width = f2_26) := he91
   have he92 : (rv88.Words.length = ((f2_26 + 63) / 64).toNat) := he92
   refine Jo 1 ?_; rintro a93 k94 rfl
   refine Fb 8 1 fun _ => ?_
   refine Oq (Vfa fo85_1 4) (Ost (SclF [4] sh39 [vi f0_24, vl a29 k30 f1_25, vi rv88.Width, vl a93 k94 rv88.Words, .slice none 0 0]) (KS ?_))
   refine Oq Vm (Oq Vadd (Oq Va (KS ?_)))
   exact Kg (r52, rv53.2, f0_24, f1_25, rv88.Width, rv88.Words, (b_28 + 1), a29, k30, a93, k94) [2, 3, 0, 2, 1, 1] ⟨(q3 hM33 (by simp only [tp_Transfer_L0, h50, h59, h71, h85, hg54, hg89, cs4])), aM1, aM1, aM1, aM1, aM1, aM1, aM1, aM1, iv1, iv1, iv1, iv1⟩
  intro h85
  have g96 := ne_of_beq_false h85
  refine KS ?_
  refine Oq Vm (Oq Vadd (Oq Va (KS ?_)))
  exact Kg (r52, rv53.2, f0_24, f1_25, f2_26, f3_27, (b_28 + 1), a29, k30, a31, k32) [1, 1, 1, 1, 0, 0] ⟨(q3 hM33 (by simp only [tp_Transfer_L0, h50, h59, h71, h85, hg54, cs4])), aM1, aM1, aM1, aM1, aM1, aM1, aM1, aM1, iv1, iv1, iv1, iv1⟩
 intro h50
 have g97 := df h50
 obtain rfl : r22 = 0 := by omega
 refine Ke ?_
 have hR98 := q2 hM33 (ti_23, f0_24, f1_25, f2_26, f3_27) (by simp only [tp_Transfer_L0, h50, cs4])
 refine KS ?_
 refine Oq Va (KS ?_)
 refine Jl [] (Ent.osNil (α := GCopy)) ?_
 refine Kl (γ := Nat × Int × List GCopy × Int × Option Addr × Nat) (fun (r99, ti_100, f4_101, a_102, a103, k104) => ⟨[(0, tP), (1, vi width), (4, p3), (5, p21), (7, vi a_102)], [O a103 k104 f4_101, O a31 k32 f3_27, O a29 k30 f1_25, Cl p21 [vi f0_24, vl a29 k30 f1_25, vi f2_26, vl a31 k32 f3_27, vl a103 k104 f4_101], Cl p3 [vi 0, .slice none 0 0, vi 0, .slice none 0 0, .slice none 0 0], Cl tP [vl ta tk tT, vi ti_100], S ta tk tT], tp_Transfer_L1 tT width r99 ti_100 f4_101 a_102 = tp_Transfer_L1 tT width (((width : Int) - 0).toNat) ti_23 [] 0 ∧ r99 = ((width : Int) - a_102).toNat ∧ (0 : Int) ≤ a_102 ∧ (a_102 ≤ width ∨ a_102 = 0) ∧ (-9223372036854775808 ≤ ti_100 ∧ ti_100 ≤ 9223372036854775807) ∧ (0 ≤ ti_100 ∧ ti_100 ≤ (tT.length : Int)) ∧ (-9223372036854775808 ≤ a_102 ∧ a_102 ≤ 9223372036854775807) ∧ f4_101.length ≤ 12, r99⟩) (((width : Int) - 0).toNat, ti_23, [], 0, none, 0) [0, 0, 0, 0, 0, 0, 0] ⟨rfl, rfl, aM1, (.inr rfl), aM1, aM1, aM1, iv0⟩ ?_
 rintro ⟨r99, ti_100, f4_101, a_102, a103, k104⟩ ⟨hM105, hr106, hi107, hi108, hk109, ht110, hk111, hv112⟩
 refine JJ_nx fun _ _ hL hA => ?_; dsimp only at hL hA; subst hL hA
 refine Fb 16 0 fun _ => Fb 8 1 fun _ => Fb 8 2 fun _ => Fb 8 6 fun _ => Fo 6 fun ho117 => KS ?_
 refine Oq Vm (Oq Vm (Oq Vlss (KS ?_)))
 refine Kc ?_ ?_
 ·intro h118
  have g119 := dt h118
  obtain ⟨r120, rfl⟩ := scc (n := r99) aM1
  refine KS ?_
  refine Oq Va (KS ?_)
  refine Kl (γ := Nat × Int × List GCopy × Int × Option Addr × Nat) (fun (r121, ti_122, f4_123, b_124, a125, k126) => ⟨[(0, tP), (1, vi width), (4, p3), (5, p21), (7, vi a_102), (8, vi b_124)], [O a125 k126 f4_123, O a31 k32 f3_27, O a29 k30 f1_25, Cl p21 [vi f0_24, vl a29 k30 f1_25, vi f2_26, vl a31 k32 f3_27, vl a125 k126 f4_123], Cl p3 [vi 0, .slice none 0 0, vi 0, .slice none 0 0, .slice none 0 0], Cl tP [vl ta tk tT, vi ti_122], S ta tk tT], tp_Transfer_L2 tT width a_102 r121 ti_122 f4_123 b_124 = tp_Transfer_L2 tT width a_102 (((width : Int) - 0).toNat) ti_100 f4_101 0 ∧ r121 = ((width : Int) - b_124).toNat ∧ (0 : Int) ≤ b_124 ∧ (b_124 ≤ width ∨ b_124 = 0) ∧ (-9223372036854775808 ≤ ti_122 ∧ ti_122 ≤ 9223372036854775807) ∧ (0 ≤ ti_122 ∧ ti_122 ≤ (tT.length : Int)) ∧ (-9223372036854775808 ≤ b_124 ∧ b_124 ≤ 9223372036854775807) ∧ f4_123.length ≤ 12, r121⟩) (((width : Int) - 0).toNat, ti_100, f4_101, 0, a103, k104) [0, 0, 0, 0, 0, 0, 0] ⟨rfl, rfl, aM1, (.inr rfl), aM1, aM1, aM1, iv0⟩ ?_
  rintro ⟨r121, ti_122, f4_123, b_124, a125, k126⟩ ⟨hM127, hr128, hi129, hi130, hk131, ht132, hk133, hv134⟩
  refine JJ_nx fun _ _ hL hA => ?_; dsimp only at hL hA; subst hL hA
  refine Fb 16 0 fun _ => Fb 8 1 fun _ => Fb 8 2 fun _ => Fb 8 6 fun _ => Fo 6 fun ho139 => KS ?_
  refine Oq Vm (Oq Vm (Oq Vlss (Oq Vm ?_)))
  refine Js 44 ?_ ?_
  ·intro h140
   have g141 := dt h140
   obtain ⟨r142, rfl⟩ := scc (n := r121) aM1
   refine Oq (Vfa fo85_2 3) (Oq (VldF sh83 3) (Oq (Vlen sl83) (Oq Vlss (Oq Vpt (KS ?_)))))
   refine Kc ?_ ?_
   ·intro h143
    have g144 := dt h143
    refine KS ?_
    refine Oq Vm (Oq Vm (Oq Vmul ?_))
    refine letv (tp_Next tT ti_122 (2 * width)) fun rv145 hg146 => ?_
    have hc147 := fn9 tP ta tk tT ti_122 ((2 * width)) pre pre rv145 hg146
    refine Oc [5, 5] ca9 hc147 ?_
    rintro - ⟨he148, he149, he150⟩
    unfold i64ok at he148
    refine Oq Veql (KS ?_)
    refine Kc ?_ ?_
    ·intro h151
     have g152 := eq_of_beq h151
     refine KS ?_
     refine Oq (Vfa fo85_2 4) (Oq (VldF sh83 4) (Oq Vm (Oq Vm (Oq (Vbd st108 [vi a_102, vi b_124]) (Oa (AsV sl83 sz83 [.agg #[vi a_102, vi b_124]] [vi a_102, vi b_124]) fun c153 => ?_)))))
     refine Jo 0 ?_; rintro a154 k155 rfl
     refine Jl [0] (Ent.cr1 (α := GCopy) (A := []) _ (GCopy.mk a_102 b_124) _ aB1 (fun h => ⟨rfl, aL1, aL1⟩)) ?_
     refine Oa (ApO [2, 0] sl83 sl83 sz83) fun c156 => ?_
     refine Jo 0 ?_; rintro a157 k158 rfl
     refine Fb 16 0 fun _ => ?_
     have hn160 := la f4_123 ([(GCopy.mk a_102 b_124)] : List GCopy)
     refine Oq (Vfa fo85_2 4) (Ost (SclF [4] sh83 [vi f0_24, vl a29 k30 f1_25, vi f2_26, vl a31 k32 f3_27, vl a157 k158 (f4_123 ++ [(GCopy.mk a_102 b_124)])]) (KS ?_))
     refine Oq Vm (Oq Vadd (Oq Va (KS ?_)))
     exact Kg (r142, rv145.2, (f4_123 ++ [(GCopy.mk a_102 b_124)]), (b_124 + 1), a157, k158) [1, 2, 2, 0, 1, 0, 0] ⟨(q3 hM127 (by simp only [tp_Transfer_L2, h140, h143, h151, hg146, cs4])), aM1, aM1, aM1, aM1, aM1, aM1, iv1⟩
    intro h151
    have g161 := ne_of_beq_false h151
    refine KS ?_
    refine Oq Vm (Oq Vadd (Oq Va (KS ?_)))
    exact Kg (r142, rv145.2, f4_123, (b_124 + 1), a125, k126) [1, 1, 1, 1, 1, 0, 0] ⟨(q3 hM127 (by simp only [tp_Transfer_L2, h140, h143, h151, hg146, cs4])), aM1, aM1, aM1, aM1, aM1, aM1, iv1⟩
   intro h143
   have g162 := df h143
   refine Ke ?_
   have hR163 := q2 hM127 (ti_122, f4_123) (by simp only [tp_Transfer_L2, h140, h143, cs4])
   refine KS ?_
   refine Oq Vm (Oq Vadd (Oq Va (KS ?_)))
   exact Kg (r120, ti_122, f4_123, (a_102 + 1), a125, k126) [0, 0, 0, 0, 0, 0, 0] ⟨(q3 hM105 (by simp only [tp_Transfer_L1, h118, h140, h143, hR163, cs4])), aM1, aM1, aM1, aM1, aM1, aM1, iv1⟩
  intro h140
  have g164 := df h140
  obtain rfl : r121 = 0 := by omega
  refine Osk (Osk (Osk (Osk (Oq Vpf (KS ?_)))))
  refine Kf ?_
  refine Ke ?_
  have hR165 := q2 hM127 (ti_122, f4_123) (by simp only [tp_Transfer_L2, h140, cs4])
  refine KS ?_
  refine Oq Vm (Oq Vadd (Oq Va (KS ?_)))
  exact Kg (r120, ti_122, f4_123, (a_102 + 1), a125, k126) [0, 0, 0, 0, 0, 0, 0] ⟨(q3 hM105 (by simp only [tp_Transfer_L1, h118, h140, hR165, cs4])), aM1, aM1, aM1, aM1, aM1, aM1, iv1⟩
 intro h118
 have g166 := df h118
 obtain rfl : r99 = 0 := by omega
 refine Ke ?_
 have hR167 := q2 hM105 (ti_100, f4_101) (by simp only [tp_Transfer_L1, h118, cs4])
 refine KS ?_
 refine Oq (VldA sh85 3) (Ost (Scl [4] sh85 [vi f0_24, vl a29 k30 f1_25, vi f2_26, vl a31 k32 f3_27, vl a103 k104 f4_101]) (KS ?_))
 refine Jl [3] (Ent.freeze _ _) ?_
 refine Jl [3] (Ent.freeze _ _) ?_
 refine Jl [3] (Ent.freeze _ _) ?_
 have hq := q4 hrr ((GTransfer.mk (GSet.mk f0_24 f1_25) (GSet.mk f2_26 f3_27) f4_101), ti_100) (by simp only [tp_Transfer, h50, h118, hg6, hR98, hR167, cs4]); subst hq
 exact Kr (vl a29 k30 f1_25, vl a31 k32 f3_27, vl a103 k104 f4_101) rfl (.cellN 3 rfl sh85 rfl (reads_Cl _ _) rfl .nil) [2, 1, 0, 5] en
theorem fn19 (tP : Value) (ta : Option Addr) (tk : Nat) (tT : List Int) (tI : Int) (n : Int) (htI : 0 ≤ tI ∧ tI ≤ (tT.length : Int)) (hn_0 : i64ok n) (hn0 : 0 ≤ n ∧ n ≤ 1000) (rr : GSystem × Int) (hrr : tp_System tT tI n = rr) : FT Tryz.prog 19 #[tP, vi n] [Cl tP [vl ta tk tT, vi tI], S ta tk tT] (fun g : Value × Value × Value => i64ok rr.1.Width ∧ (0 ≤ rr.2 ∧ rr.2 ≤ (tT.length : Int)) ∧ (rr.1.Deps.length ≤ 1001)) (fun g => .agg #[vi rr.1.Width, g.1, g.2.1, g.2.2]) (fun g => [sl g.1 rr.1.Deps, sl g.2.1 rr.1.Transfers, sl g.2.2 rr.1.Boundary, Cl tP [vl ta tk tT, vi rr.2]]) := by
 refine FTi Tryz.func19 fun w0 M0 F0 => ?_
 unfold i64ok at hn_0
 refine Fb 8 1 fun _ => Fo 1 fun ho2 => KS ?_
 refine Oa (Al ze32 [vi 0, .slice none 0 0, .slice none 0 0, .slice none 0 0]) fun p3 => KS ?_
 refine Oq Vm ?_
 refine letv (tp_Width tT tI) fun rv4 hg5 => ?_
 have hc6 := fn39 tP ta tk tT tI pre rv4 hg5
 refine Oc [1, 1] ca39 hc6 ?_
 rintro - ⟨he7, he8, he9⟩
 unfold i64ok at he7
 refine Oq Vrem (Oq (Vbd st32 [vi (rv4.1 % 5), .slice none 0 0, .slice none 0 0, .slice none 0 0]) (Oa (Al ze32 [vi 0, .slice none 0 0, .slice none 0 0, .slice none 0 0]) fun p10 => Ost (Scl [0] sh32 [vi (rv4.1 % 5), .slice none 0 0, .slice none 0 0, .slice none 0 0]) (KS ?_)))
 refine Oq Vm (Oq Vm ?_)
 refine letv (tp_Next tT rv4.2 n) fun rv11 hg12 => ?_
 have hc13 := fn9 tP ta tk tT rv4.2 n pre pre rv11 hg12
 refine Oc [1, 2] ca9 hc13 ?_
 rintro - ⟨he14, he15, he16⟩
 unfold i64ok at he14
 refine Oq Vadd (Oq Va (KS ?_))
 refine Oq Va (KS ?_)
 refine Jl [] (Ent.osNil (α := (List Int))) ?_
 refine Jl [] (Ent.osNil (α := GTransfer)) ?_
 refine Jl [] (Ent.osNil (α := GSet)) ?_
 refine Kl (γ := Nat × Int × List (List Int) × List GTransfer × List GSet × Int × Option Addr × Nat × Option Addr × Nat × Option Addr × Nat) (fun (r17, ti_18, s1_19, s2_20, s3_21, i_22, a23, k24, a25, k26, a27, k28) => ⟨[(0, tP), (4, p3), (5, p10), (1, vi (1 + rv11.1)), (6, vi i_22)], [O a27 k28 s3_21, O a25 k26 s2_20, O a23 k24 s1_19, Cl tP [vl ta tk tT, vi ti_18], Cl p10 [vi (rv4.1 % 5), vl a23 k24 s1_19, vl a25 k26 s2_20, vl a27 k28 s3_21], Cl p3 [vi 0, .slice none 0 0, .slice none 0 0, .slice none 0 0], S ta tk tT], tp_System_L0 tT (1 + rv11.1) (rv4.1 % 5) r17 ti_18 s1_19 s2_20 s3_21 i_22 = tp_System_L0 tT (1 + rv11.1) (rv4.1 % 5) ((((1 + rv11.1) : Int) - 0).toNat) rv11.2 [] [] [] 0 ∧ r17 = (((1 + rv11.1) : Int) - i_22).toNat ∧ (0 : Int) ≤ i_22 ∧ i_22 ≤ (1 + rv11.1) ∧ (-9223372036854775808 ≤ ti_18 ∧ ti_18 ≤ 9223372036854775807) ∧ (0 ≤ ti_18 ∧ ti_18 ≤ (tT.length : Int)) ∧ (-9223372036854775808 ≤ i_22 ∧ i_22 ≤ 9223372036854775807) ∧ (s1_19.length : Int) = i_22 ∧ (s2_20.length : Int) = i_22 ∧ (s3_21.length : Int) = i_22, r17⟩) ((((1 + rv11.1) : Int) - 0).toNat, rv11.2, [], [], [], 0, none, 0, none, 0, none, 0) [0, 0, 0, 0, 0, 0, 0] ⟨rfl, rfl, aM1, aM1, aM1, aM1, aM1, iv0, iv0, iv0⟩ ?_
 rintro ⟨r17, ti_18, s1_19, s2_20, s3_21, i_22, a23, k24, a25, k26, a27, k28⟩ ⟨hM29, hr30, hi31, hi32, hk33, ht34, hk35, hv36, hv37, hv38⟩
 refine JJ_nx fun _ _ hL hA => ?_; dsimp only at hL hA; subst hL hA
 refine Fb 32 0 fun _ => Fb 88 1 fun _ => Fb 24 2 fun _ => Fb 8 6 fun _ => Fo 6 fun ho43 => KS ?_
 refine Oq Vm (Oq Vm (Oq Vlss (KS ?_)))
 refine Kc ?_ ?_
 ·intro h44
  have g45 := dt h44
  obtain ⟨r46, rfl⟩ := scc (n := r17) aM1
  refine KS ?_
  refine Oq Va (KS ?_)
  refine Oq Vm ?_
  refine letv (tp_Next tT ti_18 4) fun rv47 hg48 => ?_
  have hc49 := fn9 tP ta tk tT ti_18 4 pre pre rv47 hg48
  refine Oc [3, 5] ca9 hc49 ?_
  rintro - ⟨he50, he51, he52⟩
  unfold i64ok at he50
  refine Oq Va (KS ?_)
  refine Jl [] (Ent.slNil (α := Int)) ?_
  refine Kl (γ := Nat × Int × List Int × Int × Option Addr × Nat) (fun (r53, ti_54, d_55, k_56, a57, k58) => ⟨[(0, tP), (4, p3), (5, p10), (1, vi (1 + rv11.1)), (6, vi i_22), (7, vl a57 k58 d_55), (8, vi k_56)], [S a57 k58 d_55, Cl tP [vl ta tk tT, vi ti_54], O a27 k28 s3_21, O a25 k26 s2_20, O a23 k24 s1_19, Cl p10 [vi (rv4.1 % 5), vl a23 k24 s1_19, vl a25 k26 s2_20, vl a27 k28 s3_21], Cl p3 [vi 0, .slice none 0 0, .slice none 0 0, .slice none 0 0], S ta tk tT], tp_System_L1 tT (1 + rv11.1) r53 ti_54 d_55 k_56 = tp_System_L1 tT (1 + rv11.1) (rv47.1.toNat) rv47.2 [] rv47.1 ∧ r53 = k_56.toNat ∧ k_56 ≤ (rv47.1 : Int) ∧ (-9223372036854775808 ≤ ti_54 ∧ ti_54 ≤ 9223372036854775807) ∧ (0 ≤ ti_54 ∧ ti_54 ≤ (tT.length : Int)) ∧ (-9223372036854775808 ≤ k_56 ∧ k_56 ≤ 9223372036854775807) ∧ (d_55.length : Int) + k_56 ≤ 4, r53⟩) (rv47.1.toNat, rv47.2, [], rv47.1, none, 0) [0, 1, 1, 1, 1, 1, 1, 1] ⟨rfl, rfl, aM1, aM1, aM1, aM1, iv0⟩ ?_
  rintro ⟨r53, ti_54, d_55, k_56, a57, k58⟩ ⟨hM59, hr60, hi61, hk62, ht63, hk64, hv65⟩
  refine JJ_nx fun _ _ hL hA => ?_; dsimp only at hL hA; subst hL hA
  refine Fb 8 0 fun _ => Fo 0 fun ho67 => Fb 32 2 fun _ => Fb 88 3 fun _ => Fb 24 4 fun _ => Fb 8 7 fun _ => Fo 7 fun ho72 => KS ?_
  refine Oq Vm (Oq Vgtr (KS ?_))
  refine Kc ?_ ?_
  ·intro h73
   have g74 := dt h73
   obtain ⟨r75, rfl⟩ := scc (n := r53) aM1
   refine KS ?_
   refine Oq Vm (Oq Vm (Oq Vm ?_))
   refine letv (tp_Next tT ti_54 (1 + rv11.1)) fun rv76 hg77 => ?_
   have hc78 := fn9 tP ta tk tT ti_54 ((1 + rv11.1)) pre pre rv76 hg77
   refine Oc [1, 6] ca9 hc78 ?_
   rintro - ⟨he79, he80, he81⟩
   unfold i64ok at he79
   refine letv (r7_Insert d_55 rv76.1) fun rv83 hg84 => ?_
   have hc85 := fn40 d_55 a57 k58 rv76.1 pre pre rv83 hg84
   refine Oc [1] ca40 hc85 ?_
   rintro c82 he86
   refine Jo 0 ?_; rintro a87 k88 rfl
   refine Fb 8 0 fun _ => Fo 0 fun ho90 => ?_
   refine Oq Va (KS ?_)
   refine Oq Vm (Oq Vsub (Oq Va (KS ?_)))
   exact Kg (r75, rv76.2, rv83, (k_56 - 1), a87, k88) [0, 1, 2, 2, 2, 2, 2, 2] ⟨(q3 hM59 (by simp only [tp_System_L1, h73, hg77, hg84, cs4])), aM1, aM1, aM1, aM1, aM1, iv1⟩
  intro h73
  have g91 := df h73
  obtain rfl : r53 = 0 := by omega
  refine Ke ?_
  have hR92 := q2 hM59 (ti_54, d_55) (by simp only [tp_System_L1, h73, cs4])
  refine KS ?_
  refine Oq (Vfa fo32_0 5) (Oq (VldF sh3 5) ?_)
  refine letv (r1_Empty (rv4.1 % 5)) fun rv94 hg95 => ?_
  have hc96 := fn41 ((rv4.1 % 5)) pre pre rv94 hg95
  refine Oc [] ca41 hc96 ?_
  rintro c93 ⟨he97, he98, he99⟩
  unfold i64ok at he97
  refine Jo 0 ?_; rintro a100 k101 rfl
  refine Fb 8 0 fun _ => ?_
  refine Oa (Al ze39 [vi 0, .slice none 0 0]) fun p103 => Ost (Scl [0] sh39 [vi rv94.Width, vl a100 k101 rv94.Words]) (KS ?_)
  refine Oq Vm ?_
  refine letv (tp_Next tT ti_54 3) fun rv104 hg105 => ?_
  have hc106 := fn9 tP ta tk tT ti_54 3 pre pre rv104 hg105
  refine Oc [3, 8] ca9 hc106 ?_
  rintro - ⟨he107, he108, he109⟩
  unfold i64ok at he107
  refine Oq Veql (KS ?_)
  refine Kc ?_ ?_
  ·intro h110
   have g111 := eq_of_beq h110
   refine KS ?_
   refine Oq Vm (Oq (Vfa fo32_0 7) (Oq (VldF sh3 7) ?_))
   refine letv (tp_Set tT rv104.2 (rv4.1 % 5)) fun rv113 hg114 => ?_
   have hc115 := fn42 tP ta tk tT rv104.2 ((rv4.1 % 5)) pre pre pre rv113 hg114
   refine Oc [0, 8] ca42 hc115 ?_
   rintro c112 ⟨he116, he117, he118, he119⟩
   unfold i64ok at he116
   refine Jo 0 ?_; rintro a120 k121 rfl
   refine Fb 8 0 fun _ => ?_
   refine Ost (Scl [2] sh39 [vi rv113.1.Width, vl a120 k121 rv113.1.Words]) (KS ?_)
   refine Jp 8 fun hp123 => ?_
   refine JK_drawK [0, 1, 0, 4, 15, 0, 32, 0, 128, 511, 0, 1024, 0, 0, 8192, 29695, 62463, 131071, 27775, 524287, 1048575, 2097151, 4194303, 8388607] fmix ?_
   refine Dv [0] (Vfa fo32_1 0) (Dv [9] (VldF sh29 0) (Dv [] Vm (Dx [] [] [0] (fun G => (G.g 3 0)) [fun G => Cr (G.g 3 0) 1 [vl a57 k58 d_55]] (fun G => xA (AsV sl29 sz29 [vl a57 k58 d_55] [vl a57 k58 d_55])) ?_)))
   have hn126 := la s1_19 ([d_55] : List (List Int))
   refine Dx [5, 8, 12] [8, 12] [1, 0] (fun G => (G.g 4 0)) [fun G => os (G.g 4 0) ((s1_19 ++ [d_55]) : List (List Int))] (fun G => xp [2, 0] rfl (Ent.cr1 (α := List Int) (A := [S a57 k58 d_55]) _ d_55 _ aB1 (fun h => ⟨_, rfl, sepAll_get (i := 0) rfl h⟩)) (xA (ApO [3, 0] sl29 sl29 sz29))) (Dv [0] (Vfa fo32_3 0) (Dv [9] (VldF sh24 0) (Dv [1] (VldA sh39 0) (Dx [] [] [0] (fun G => (G.g 8 0)) [fun G => Cr (G.g 8 0) 1 [vi rv113.1.Width, vl a120 k121 rv113.1.Words]] (fun G => xA (AsV sl24 sz24 [.agg #[vi rv113.1.Width, vl a120 k121 rv113.1.Words]] [vi rv113.1.Width, vl a120 k121 rv113.1.Words])) ?_))))
   have hn129 := la s3_21 ([rv113.1] : List GSet)
   refine Dx [2, 6, 14] [2, 6, 14] [1, 0] (fun G => (G.g 9 0)) [fun G => S a120 k121 rv113.1.Words, fun G => os (G.g 9 0) ((s3_21 ++ [rv113.1]) : List GSet)] (fun G => xp [0] rfl (Ent.freeze _ _) (xp [2, 0] rfl (Ent.cr1 (α := GSet) (A := [S a120 k121 rv113.1.Words]) _ rv113.1 _ aB1 (fun h => ⟨_, rfl, aL1, sepAll_get (i := 0) rfl h⟩)) (xA (ApO [3, 0] sl24 sl24 sz24)))) (Dv [0] (Vfa fo32_2 0) (Dv [9] (VldF sh30 0) (Dv [] Vm (Dv [0] (Vfa fo32_0 0) (Dv [9] (VldF sh3 0) ?_)))))
   refine letv (tp_Transfer tT rv113.2 (rv4.1 % 5)) fun rv133 hg134 => ?_
   refine Dx [3, 11] [3] [5, 0, 1, 2, 3, 4] (fun G => .agg #[vi rv133.1.Gen.Width, (G.g 15 0), vi rv133.1.Kill.Width, (G.g 15 1), (G.g 15 2)]) [fun G => SP.fact (i64ok rv133.1.Gen.Width ∧ i64ok rv133.1.Kill.Width ∧ (0 ≤ rv133.2 ∧ rv133.2 ≤ (tT.length : Int)) ∧ (rv133.1.Gen.Width = (rv4.1 % 5)) ∧ (rv133.1.Kill.Width = (rv4.1 % 5)) ∧ (rv133.1.Copies.length ≤ 12)), fun G => sl (G.g 15 0) rv133.1.Gen.Words, fun G => sl (G.g 15 1) rv133.1.Kill.Words, fun G => sl (G.g 15 2) rv133.1.Copies, fun G => Cl tP [vl ta tk tT, vi rv133.2]] (fun G => xC [0, 0] ca43 (fn43 tP ta tk tT rv113.2 ((rv4.1 % 5)) pre pre pre rv133 hg134)) (Dx [] [] [0] (fun G => (G.g 16 0)) [fun G => Cr (G.g 16 0) 1 [vi rv133.1.Gen.Width, (G.g 15 0), vi rv133.1.Kill.Width, (G.g 15 1), (G.g 15 2)]] (fun G => xA (AsV sl30 sz30 [.agg #[vi rv133.1.Gen.Width, (G.g 15 0), vi rv133.1.Kill.Width, (G.g 15 1), (G.g 15 2)]] [vi rv133.1.Gen.Width, (G.g 15 0), vi rv133.1.Kill.Width, (G.g 15 1), (G.g 15 2)])) ?_)
   have hn137 := la s2_20 ([rv133.1] : List GTransfer)
   refine Dx [7, 17, 18, 19, 20, 22] [7, 22] [4, 1, 2, 3, 0] (fun G => (G.g 17 0)) [fun G => os (G.g 17 0) ((s2_20 ++ [rv133.1]) : List GTransfer)] (fun G => by refine xf 1 rfl ?_; rintro ⟨he138, he139, he140, he141, he142, he143⟩; unfold i64ok at he138 he139; exact xp [5, 2, 3, 4] rfl (Ent.cr1 (α := GTransfer) (A := [sl (G.g 15 0) rv133.1.Gen.Words, sl (G.g 15 1) rv133.1.Kill.Words, sl (G.g 15 2) rv133.1.Copies]) _ rv133.1 _ aB1 (fun h => ⟨_, _, _, rfl, aL1, sepAll_get (i := 0) rfl h, aL1, sepAll_get (i := 1) rfl h, sepAll_get (i := 2) rfl h⟩)) (xA (ApO [4, 0] sl30 sl30 sz30))) (Dv [0] (Vfa fo32_1 0) (Dx0 [9, 13] [9] [1, 0] [fun G => Cl p10 [vi (rv4.1 % 5), (G.g 4 0), vl a25 k26 s2_20, vl a27 k28 s3_21]] (fun G => x1 1 rfl os_one fun ho144 => (xS (OpS.frame [0] rfl (OpS.storeClF [(G.g 4 0)] [vi (rv4.1 % 5), (G.g 4 0), vl a25 k26 s2_20, vl a27 k28 s3_21] rfl rfl rfl sh29 (cells_of_one ho144) rfl (by simp only [List.all_cons, List.all_nil, ho144, Bool.and_true, Bool.true_and] <;> rfl) aB1 rfl)))) (Dv [0] (Vfa fo32_3 0) (Dx0 [16, 24] [24] [1, 0] [fun G => Cl p10 [vi (rv4.1 % 5), (G.g 4 0), vl a25 k26 s2_20, (G.g 9 0)]] (fun G => x1 0 rfl os_one fun ho145 => (xS (OpS.frame [1] rfl (OpS.storeClF [(G.g 9 0)] [vi (rv4.1 % 5), (G.g 4 0), vl a25 k26 s2_20, (G.g 9 0)] rfl rfl rfl sh24 (cells_of_one ho145) rfl (by simp only [List.all_cons, List.all_nil, ho145, Bool.and_true, Bool.true_and] <;> rfl) aB1 rfl)))) (Dv [0] (Vfa fo32_2 0) (Dx0 [23, 25] [25] [1, 0] [fun G => Cl p10 [vi (rv4.1 % 5), (G.g 4 0), (G.g 17 0), (G.g 9 0)]] (fun G => x1 0 rfl os_one fun ho146 => (xS (OpS.frame [1] rfl (OpS.storeClF [(G.g 17 0)] [vi (rv4.1 % 5), (G.g 4 0), (G.g 17 0), (G.g 9 0)] rfl rfl rfl sh30 (cells_of_one ho146) rfl (by simp only [List.all_cons, List.all_nil, ho146, Bool.and_true, Bool.true_and] <;> rfl) aB1 rfl)))) ?_))))))
   refine Dn ⟨by kernel_rfl, fun G => ?_⟩
   refine Jw2 [(0, tP), (4, p3), (5, p10), (1, vi (1 + rv11.1)), (6, vi i_22)] [0, 1, 4, 5, 10, 11] [os (G.g 4 0) ((s1_19 ++ [d_55]) : List (List Int)), S a120 k121 rv113.1.Words, os (G.g 9 0) ((s3_21 ++ [rv113.1]) : List GSet), SP.fact (i64ok rv133.1.Gen.Width ∧ i64ok rv133.1.Kill.Width ∧ (0 ≤ rv133.2 ∧ rv133.2 ≤ (tT.length : Int)) ∧ (rv133.1.Gen.Width = (rv4.1 % 5)) ∧ (rv133.1.Kill.Width = (rv4.1 % 5)) ∧ (rv133.1.Copies.length ≤ 12)), sl (G.g 15 0) rv133.1.Gen.Words, sl (G.g 15 1) rv133.1.Kill.Words, sl (G.g 15 2) rv133.1.Copies, Cl tP [vl ta tk tT, vi rv133.2], os (G.g 17 0) ((s2_20 ++ [rv133.1]) : List GTransfer), Cl p10 [vi (rv4.1 % 5), (G.g 4 0), (G.g 17 0), (G.g 9 0)]] ?_
   generalize G.g 4 0 = c125, G.g 9 0 = c128, G.g 15 0 = c130, G.g 15 1 = c131, G.g 15 2 = c132, G.g 17 0 = c136
   refine Jf 9 rfl ?_; rintro ⟨he147, he148, he149, he150, he151, he152⟩
   unfold i64ok at he147 he148
   refine Jk [1, 1, 1, 2, 2, 3, 3, 4, 5, 6, 7, 8, 8, 8] ?_
   refine Jo 5 ?_; rintro a153 k154 rfl
   refine Fb 24 5 fun _ => ?_
   refine Jo 7 ?_; rintro a156 k157 rfl
   refine Fb 32 7 fun _ => ?_
   refine Jo 8 ?_; rintro a159 k160 rfl
   refine Fb 8 8 fun _ => ?_
   refine Jo 9 ?_; rintro a162 k163 rfl
   refine Fb 8 9 fun _ => ?_
   refine Jo 10 ?_; rintro a165 k166 rfl
   refine Fb 16 10 fun _ => ?_
   refine Jo 12 ?_; rintro a168 k169 rfl
   refine Fb 88 12 fun _ => KS ?_
   refine Oq Vm (Oq Vadd (Oq Va (KS ?_)))
   exact Kg (r46, rv133.2, (s1_19 ++ [d_55]), (s2_20 ++ [rv133.1]), (s3_21 ++ [rv113.1]), (i_22 + 1), a153, k154, a168, k169, a156, k157) [7, 11, 5, 9, 9, 3, 3] ⟨(q3 hM29 (by simp only [tp_System_L0, h44, h73, h110, hg48, hR92, hg95, hg105, hg114, hg134, cs4])), aM1, aM1, aM1, aM1, aM1, aM1, iv1, iv1, iv1⟩
  intro h110
  have g171 := ne_of_beq_false h110
  refine KS ?_
  refine Jp 7 fun hp172 => ?_
  refine JK_drawK [0, 1, 0, 4, 15, 0, 32, 0, 128, 511, 0, 1024, 0, 0, 8192, 29695, 62463, 131071, 27775, 524287, 1048575, 2097151, 4194303, 8388607] fmix ?_
  refine Dv [0] (Vfa fo32_1 0) (Dv [8] (VldF sh29 0) (Dv [] Vm (Dx [] [] [0] (fun G => (G.g 3 0)) [fun G => Cr (G.g 3 0) 1 [vl a57 k58 d_55]] (fun G => xA (AsV sl29 sz29 [vl a57 k58 d_55] [vl a57 k58 d_55])) ?_)))
  have hn175 := la s1_19 ([d_55] : List (List Int))
  refine Dx [4, 7, 11] [7, 11] [1, 0] (fun G => (G.g 4 0)) [fun G => os (G.g 4 0) ((s1_19 ++ [d_55]) : List (List Int))] (fun G => xp [2, 0] rfl (Ent.cr1 (α := List Int) (A := [S a57 k58 d_55]) _ d_55 _ aB1 (fun h => ⟨_, rfl, sepAll_get (i := 0) rfl h⟩)) (xA (ApO [3, 0] sl29 sl29 sz29))) (Dv [0] (Vfa fo32_3 0) (Dv [8] (VldF sh24 0) (Dv [2] (VldA sh39 0) (Dx [] [] [0] (fun G => (G.g 8 0)) [fun G => Cr (G.g 8 0) 1 [vi rv94.Width, vl a100 k101 rv94.Words]] (fun G => xA (AsV sl24 sz24 [.agg #[vi rv94.Width, vl a100 k101 rv94.Words]] [vi rv94.Width, vl a100 k101 rv94.Words])) ?_))))
  have hn178 := la s3_21 ([rv94] : List GSet)
  refine Dx [3, 5, 13] [3, 5, 13] [1, 0] (fun G => (G.g 9 0)) [fun G => S a100 k101 rv94.Words, fun G => os (G.g 9 0) ((s3_21 ++ [rv94]) : List GSet)] (fun G => xp [0] rfl (Ent.freeze _ _) (xp [2, 0] rfl (Ent.cr1 (α := GSet) (A := [S a100 k101 rv94.Words]) _ rv94 _ aB1 (fun h => ⟨_, rfl, aL1, sepAll_get (i := 0) rfl h⟩)) (xA (ApO [3, 0] sl24 sl24 sz24)))) (Dv [0] (Vfa fo32_2 0) (Dv [8] (VldF sh30 0) (Dv [] Vm (Dv [0] (Vfa fo32_0 0) (Dv [8] (VldF sh3 0) ?_)))))
  refine letv (tp_Transfer tT rv104.2 (rv4.1 % 5)) fun rv182 hg183 => ?_
  refine Dx [1, 10] [1] [5, 0, 1, 2, 3, 4] (fun G => .agg #[vi rv182.1.Gen.Width, (G.g 15 0), vi rv182.1.Kill.Width, (G.g 15 1), (G.g 15 2)]) [fun G => SP.fact (i64ok rv182.1.Gen.Width ∧ i64ok rv182.1.Kill.Width ∧ (0 ≤ rv182.2 ∧ rv182.2 ≤ (tT.length : Int)) ∧ (rv182.1.Gen.Width = (rv4.1 % 5)) ∧ (rv182.1.Kill.Width = (rv4.1 % 5)) ∧ (rv182.1.Copies.length ≤ 12)), fun G => sl (G.g 15 0) rv182.1.Gen.Words, fun G => sl (G.g 15 1) rv182.1.Kill.Words, fun G => sl (G.g 15 2) rv182.1.Copies, fun G => Cl tP [vl ta tk tT, vi rv182.2]] (fun G => xC [0, 0] ca43 (fn43 tP ta tk tT rv104.2 ((rv4.1 % 5)) pre pre pre rv182 hg183)) (Dx [] [] [0] (fun G => (G.g 16 0)) [fun G => Cr (G.g 16 0) 1 [vi rv182.1.Gen.Width, (G.g 15 0), vi rv182.1.Kill.Width, (G.g 15 1), (G.g 15 2)]] (fun G => xA (AsV sl30 sz30 [.agg #[vi rv182.1.Gen.Width, (G.g 15 0), vi rv182.1.Kill.Width, (G.g 15 1), (G.g 15 2)]] [vi rv182.1.Gen.Width, (G.g 15 0), vi rv182.1.Kill.Width, (G.g 15 1), (G.g 15 2)])) ?_)
  have hn186 := la s2_20 ([rv182.1] : List GTransfer)
  refine Dx [6, 16, 17, 18, 19, 21] [6, 21] [4, 1, 2, 3, 0] (fun G => (G.g 17 0)) [fun G => os (G.g 17 0) ((s2_20 ++ [rv182.1]) : List GTransfer)] (fun G => by refine xf 1 rfl ?_; rintro ⟨he187, he188, he189, he190, he191, he192⟩; unfold i64ok at he187 he188; exact xp [5, 2, 3, 4] rfl (Ent.cr1 (α := GTransfer) (A := [sl (G.g 15 0) rv182.1.Gen.Words, sl (G.g 15 1) rv182.1.Kill.Words, sl (G.g 15 2) rv182.1.Copies]) _ rv182.1 _ aB1 (fun h => ⟨_, _, _, rfl, aL1, sepAll_get (i := 0) rfl h, aL1, sepAll_get (i := 1) rfl h, sepAll_get (i := 2) rfl h⟩)) (xA (ApO [4, 0] sl30 sl30 sz30))) (Dv [0] (Vfa fo32_1 0) (Dx0 [8, 12] [8] [1, 0] [fun G => Cl p10 [vi (rv4.1 % 5), (G.g 4 0), vl a25 k26 s2_20, vl a27 k28 s3_21]] (fun G => x1 1 rfl os_one fun ho193 => (xS (OpS.frame [0] rfl (OpS.storeClF [(G.g 4 0)] [vi (rv4.1 % 5), (G.g 4 0), vl a25 k26 s2_20, vl a27 k28 s3_21] rfl rfl rfl sh29 (cells_of_one ho193) rfl (by simp only [List.all_cons, List.all_nil, ho193, Bool.and_true, Bool.true_and] <;> rfl) aB1 rfl)))) (Dv [0] (Vfa fo32_3 0) (Dx0 [15, 23] [23] [1, 0] [fun G => Cl p10 [vi (rv4.1 % 5), (G.g 4 0), vl a25 k26 s2_20, (G.g 9 0)]] (fun G => x1 0 rfl os_one fun ho194 => (xS (OpS.frame [1] rfl (OpS.storeClF [(G.g 9 0)] [vi (rv4.1 % 5), (G.g 4 0), vl a25 k26 s2_20, (G.g 9 0)] rfl rfl rfl sh24 (cells_of_one ho194) rfl (by simp only [List.all_cons, List.all_nil, ho194, Bool.and_true, Bool.true_and] <;> rfl) aB1 rfl)))) (Dv [0] (Vfa fo32_2 0) (Dx0 [22, 24] [24] [1, 0] [fun G => Cl p10 [vi (rv4.1 % 5), (G.g 4 0), (G.g 17 0), (G.g 9 0)]] (fun G => x1 0 rfl os_one fun ho195 => (xS (OpS.frame [1] rfl (OpS.storeClF [(G.g 17 0)] [vi (rv4.1 % 5), (G.g 4 0), (G.g 17 0), (G.g 9 0)] rfl rfl rfl sh30 (cells_of_one ho195) rfl (by simp only [List.all_cons, List.all_nil, ho195, Bool.and_true, Bool.true_and] <;> rfl) aB1 rfl)))) ?_))))))
  refine Dn ⟨by kernel_rfl, fun G => ?_⟩
  refine Jw2 [(0, tP), (4, p3), (5, p10), (1, vi (1 + rv11.1)), (6, vi i_22)] [0, 2, 4, 9, 10] [os (G.g 4 0) ((s1_19 ++ [d_55]) : List (List Int)), S a100 k101 rv94.Words, os (G.g 9 0) ((s3_21 ++ [rv94]) : List GSet), SP.fact (i64ok rv182.1.Gen.Width ∧ i64ok rv182.1.Kill.Width ∧ (0 ≤ rv182.2 ∧ rv182.2 ≤ (tT.length : Int)) ∧ (rv182.1.Gen.Width = (rv4.1 % 5)) ∧ (rv182.1.Kill.Width = (rv4.1 % 5)) ∧ (rv182.1.Copies.length ≤ 12)), sl (G.g 15 0) rv182.1.Gen.Words, sl (G.g 15 1) rv182.1.Kill.Words, sl (G.g 15 2) rv182.1.Copies, Cl tP [vl ta tk tT, vi rv182.2], os (G.g 17 0) ((s2_20 ++ [rv182.1]) : List GTransfer), Cl p10 [vi (rv4.1 % 5), (G.g 4 0), (G.g 17 0), (G.g 9 0)]] ?_
  generalize G.g 4 0 = c174, G.g 9 0 = c177, G.g 15 0 = c179, G.g 15 1 = c180, G.g 15 2 = c181, G.g 17 0 = c185
  refine Jf 8 rfl ?_; rintro ⟨he196, he197, he198, he199, he200, he201⟩
  unfold i64ok at he196 he197
  refine Jk [1, 1, 2, 2, 3, 3, 4, 5, 6, 7, 8, 8, 8] ?_
  refine Jo 4 ?_; rintro a202 k203 rfl
  refine Fb 24 4 fun _ => ?_
  refine Jo 6 ?_; rintro a205 k206 rfl
  refine Fb 32 6 fun _ => ?_
  refine Jo 7 ?_; rintro a208 k209 rfl
  refine Fb 8 7 fun _ => ?_
  refine Jo 8 ?_; rintro a211 k212 rfl
  refine Fb 8 8 fun _ => ?_
  refine Jo 9 ?_; rintro a214 k215 rfl
  refine Fb 16 9 fun _ => ?_
  refine Jo 11 ?_; rintro a217 k218 rfl
  refine Fb 88 11 fun _ => KS ?_
  refine Oq Vm (Oq Vadd (Oq Va (KS ?_)))
  exact Kg (r46, rv182.2, (s1_19 ++ [d_55]), (s2_20 ++ [rv182.1]), (s3_21 ++ [rv94]), (i_22 + 1), a202, k203, a217, k218, a205, k206) [6, 10, 4, 8, 8, 2, 2] ⟨(q3 hM29 (by simp only [tp_System_L0, h44, h73, h110, hg48, hR92, hg95, hg105, hg183, cs4])), aM1, aM1, aM1, aM1, aM1, aM1, iv1, iv1, iv1⟩
 intro h44
 have g220 := df h44
 obtain rfl : r17 = 0 := by omega
 refine Ke ?_
 have hR221 := q2 hM29 (ti_18, s1_19, s2_20, s3_21) (by simp only [tp_System_L0, h44, cs4])
 refine KS ?_
 refine Oq (VldA sh32 4) (Ost (Scl [5] sh32 [vi (rv4.1 % 5), vl a23 k24 s1_19, vl a25 k26 s2_20, vl a27 k28 s3_21]) (KS ?_))
 refine Jl [3] (Ent.freeze _ _) ?_
 refine Jl [3] (Ent.freeze _ _) ?_
 refine Jl [3] (Ent.freeze _ _) ?_
 have hq := q4 hrr ((GSystem.mk (rv4.1 % 5) s1_19 s2_20 s3_21), ti_18) (by simp only [tp_System, h44, hg5, hg12, hR221, cs4]); subst hq
 exact Kr (vl a23 k24 s1_19, vl a25 k26 s2_20, vl a27 k28 s3_21) rfl (.cellN 3 rfl sh32 rfl (reads_Cl _ _) rfl .nil) [2, 1, 0, 4] en
theorem fn86 (l : List Int) (la0 : Option Addr) (lk0 : Nat) (n : Int) (hn_0 : i64ok n) (rr : Bool) (hrr : r7_Rising l n = rr) : FT Tryz.prog 86 #[vl la0 lk0 l, vi n] [S la0 lk0 l] (fun g : Unit => True) (fun g => vb rr) (fun g => []) := by
 refine FTi Tryz.func86 fun w0 M0 F0 => ?_
 unfold i64ok at hn_0
 refine Fb 8 0 fun _ => Fo 0 fun ho2 => KS ?_
 refine Oq Va (KS ?_)
 refine Oq Va (KS ?_)
 refine Kl (γ := Nat × Int) (fun (r3, i_4) => ⟨[(0, vl la0 lk0 l), (1, vi n), (5, vi i_4)], [S la0 lk0 l], r7_Rising_L0 l n r3 i_4 = r7_Rising_L0 l n (((l.length : Int) - 0).toNat) 0 ∧ r3 = ((l.length : Int) - i_4).toNat ∧ (0 : Int) ≤ i_4 ∧ i_4 ≤ (l.length : Int) ∧ (-9223372036854775808 ≤ i_4 ∧ i_4 ≤ 9223372036854775807), r3⟩) (((l.length : Int) - 0).toNat, 0) [0] ⟨rfl, rfl, aM1, aM1, aM1⟩ ?_
 rintro ⟨r3, i_4⟩ ⟨hM5, hr6, hi7, hi8, hk9⟩
 refine JJ_nx fun _ _ hL hA => ?_; dsimp only at hL hA; subst hL hA
 refine Fb 8 0 fun _ => Fo 0 fun ho11 => KS ?_
 refine Oq Vm (Oq Vm (Oq (Vlen sl22) (Oq Vlss (KS ?_))))
 refine Kc ?_ ?_
 ·intro h12
  have g13 := dt h12
  obtain ⟨r14, rfl⟩ := scc (n := r3) aM1
  refine KS ?_
  refine Kq [0, 0, 3, 7, 15, 31, 63, 63, 255, 511, 63, 2047, 4095, 8191, 16383, 32767, 65535, 131071, 131071, 393215, 1048575, 2097151, 131071, 131071, 12713983, 29491199, 67108863, 134217727, 268435455] fmix ?_
  refine Qv [] Vm (Qv [] Vm (Qv [0] (Vi sl22 0) ?_))
  have hb15 := ok1 (i := i_4.toNat) ho11 rng
  refine Qv [0] (VldI sh3 0) (Qv [] Vlss ?_)
  refine bool_split (decide ((l.getD i_4.toNat 0) < 0)) ?_ ?_
  ·intro h16
   have g17 := dt h16
   refine Qb h16 [] Vm (Qs (Qs (Qs (Qs (Qs (Qs (Qv [] Vpt (Qv [] Vm (Qs ?_)))))))))
   refine Qs (Qs (Qs (Qs (Qs (Qs (Qs (Qs (Qs (Qs ?_)))))))))
   refine Qs (Qs (Qs (Qv [] Vpt ?_)))
   refine Qn ⟨by kernel_rfl, ?_⟩
   refine Kt (KS ?_)
   refine Oq Va (KS ?_)
   have hR18 := q2 hM5 (.ret false) (by simp only [r7_Rising_L0, h12, h16, cs4])
   have hq := q4 hrr false (by simp only [r7_Rising, h12, h16, hR18, cs4]); subst hq
   exact Kr () rfl (.tmp rfl .nil) [] trivial
  intro h16
  have g19 := df h16
  refine Qb h16 [] Vm (Qv [] Vm (Qv [] Vm (Qv [0] (Vi sl22 0) ?_)))
  have hb20 := ok1 (i := i_4.toNat) ho11 rng
  refine Qv [0] (VldI sh3 0) (Qv [] Vm (Qv [] Vgeq (Qv [] Vpf ?_)))
  refine bool_split (decide (n ≤ (l.getD i_4.toNat 0))) ?_ ?_
  ·intro h21
   have g22 := dt h21
   refine Qb h21 [] Vm (Qs (Qs (Qs (Qs (Qs (Qs (Qs (Qs (Qs ?_)))))))))
   refine Qs (Qs (Qs (Qs (Qs (Qv [] Vpt ?_)))))
   refine Qn ⟨by kernel_rfl, ?_⟩
   refine Kt (KS ?_)
   refine Oq Va (KS ?_)
   have hR23 := q2 hM5 (.ret false) (by simp only [r7_Rising_L0, h12, h16, h21, cs4])
   have hq := q4 hrr false (by simp only [r7_Rising, h12, h16, h21, hR23, cs4]); subst hq
   exact Kr () rfl (.tmp rfl .nil) [] trivial
  intro h21
  have g24 := df h21
  refine Qb h21 [] Vm (Qv [] Vm (Qv [] Vgtr ?_))
  refine bool_split (decide (0 < i_4)) ?_ ?_
  ·intro h25
   have g26 := dt h25
   refine Qb h25 [] Vm (Qv [] Vm (Qv [] Vm (Qv [] Vsub (Qv [0] (Vi sl22 0) ?_))))
   have hb27 := ok1 (i := ((i_4 - 1) : Int).toNat) ho11 rng
   refine Qv [0] (VldI sh3 0) (Qv [] Vm (Qv [] Vm (Qv [0] (Vi sl22 0) ?_)))
   have hb28 := ok1 (i := i_4.toNat) ho11 rng
   refine Qv [0] (VldI sh3 0) (Qv [] Vgeq (Qv [] Vpt (Qv [] Vpf ?_)))
   refine Qn ⟨by kernel_rfl, ?_⟩
   refine Kc ?_ ?_
   ·intro h29
    have g30 := dt h29
    refine KS ?_
    refine Oq Va (KS ?_)
    have hR31 := q2 hM5 (.ret false) (by simp only [r7_Rising_L0, h12, h16, h21, h25, h29, cs4])
    have hq := q4 hrr false (by simp only [r7_Rising, h12, h16, h21, h25, h29, hR31, cs4]); subst hq
    exact Kr () rfl (.tmp rfl .nil) [] trivial
   intro h29
   have g32 := df h29
   refine KS ?_
   refine Oq Vm (Oq Vadd (Oq Va (KS ?_)))
   exact Kg (r14, (i_4 + 1)) [0] ⟨(q3 hM5 (by simp only [r7_Rising_L0, h12, h16, h21, h25, h29, cs4])), aM1, aM1, aM1, aM1⟩
  intro h25
  have g33 := df h25
  refine Qb h25 [] Vm (Qs (Qs (Qs (Qs (Qs (Qs (Qs (Qs (Qs ?_)))))))))
  refine Qs (Qv [] Vpf (Qv [] Vpf ?_))
  refine Qn ⟨by kernel_rfl, ?_⟩
  refine Kf (KS ?_)
  refine Oq Vm (Oq Vadd (Oq Va (KS ?_)))
  exact Kg (r14, (i_4 + 1)) [0] ⟨(q3 hM5 (by simp only [r7_Rising_L0, h12, h16, h21, h25, cs4])), aM1, aM1, aM1, aM1⟩
 intro h12
 have g34 := df h12
 obtain rfl : r3 = 0 := by omega
 refine Ke ?_
 have hR35 := q2 hM5 (.brk ()) (by simp only [r7_Rising_L0, h12, cs4])
 refine KS ?_
 refine Oq Va (KS ?_)
 have hq := q4 hrr true (by simp only [r7_Rising, h12, hR35, cs4]); subst hq
 exact Kr () rfl (.tmp rfl .nil) [] trivial
theorem fn129 (a : GCopy) (b : GCopy) (ha_0 : i64ok a.From) (ha_1 : i64ok a.To) (hb_0 : i64ok b.From) (hb_1 : i64ok b.To) (rr : Bool) (hrr : r1_Before a b = rr) : FT Tryz.prog 129 #[.agg #[vi a.From, vi a.To], .agg #[vi b.From, vi b.To]] [] (fun g : Unit => True) (fun g => vb rr) (fun g => []) := by
 refine FTi Tryz.func129 fun w0 M0 F0 => ?_
 unfold i64ok at ha_0 ha_1 hb_0 hb_1
 refine KS ?_
 refine Oa (Ab [vi a.From, vi a.To]) fun p1 => Oa (Ab [vi b.From, vi b.To]) fun p2 => Oq Va (KS ?_)
 refine Oq (Vfa fo108_0 1) (Oq (VldF sh3 1) (Oq (Vfa fo108_0 0) (Oq (VldF sh3 0) (Oq Vlss (Oq Vm ?_)))))
 refine Js 10 ?_ ?_
 ·intro h3
  have g4 := dt h3
  refine Osk (Osk (Osk (Osk (Osk (Osk (Osk (Osk (Osk (Osk ?_)))))))))
  refine Osk (Osk (Oq Vpt (Oq Va (KS ?_))))
  have hq := q4 hrr true (by simp only [r1_Before, h3, cs4]); subst hq
  exact Kr () rfl (.tmp rfl .nil) [] trivial
 intro h3
 have g5 := df h3
 refine Oq (Vfa fo108_0 1) (Oq (VldF sh3 1) (Oq (Vfa fo108_0 0) (Oq (VldF sh3 0) (Oq Veql (Oq Vm ?_)))))
 refine Js 16 ?_ ?_
 ·intro h6
  have g7 := eq_of_beq h6
  refine Oq (Vfa fo108_1 1) (Oq (VldF sh3 1) (Oq (Vfa fo108_1 0) (Oq (VldF sh3 0) (Oq Vlss (Oq Vpt (Oq Vpf (Oq Va (KS ?_))))))))
  have hq := q4 hrr (decide (a.To < b.To)) (by simp only [r1_Before, h3, h6, cs4]); subst hq
  exact Kr () rfl (.tmp rfl .nil) [] trivial
 intro h6
 have g8 := ne_of_beq_false h6
 refine Osk (Osk (Osk (Osk (Osk (Oq Vpf (Oq Vpf (Oq Va (KS ?_))))))))
 have hq := q4 hrr false (by simp only [r1_Before, h3, h6, cs4]); subst hq
 exact Kr () rfl (.tmp rfl .nil) [] trivial
theorem fn87 (t : GTransfer) (ta1 : Option Addr) (tk1 : Nat) (ta3 : Option Addr) (tk3 : Nat) (ta4 : Option Addr) (tk4 : Nat) (ht_0 : i64ok t.Gen.Width) (ht_2 : i64ok t.Kill.Width) (rr : Bool) (hrr : r1_ValidTransfer t = rr) : FT Tryz.prog 87 #[.agg #[vi t.Gen.Width, vl ta1 tk1 t.Gen.Words, vi t.Kill.Width, vl ta3 tk3 t.Kill.Words, vl ta4 tk4 t.Copies]] [S ta1 tk1 t.Gen.Words, S ta3 tk3 t.Kill.Words, S ta4 tk4 t.Copies] (fun g : Unit => True) (fun g => vb rr) (fun g => []) := by
 refine FTi Tryz.func87 fun w0 M0 F0 => ?_
 unfold i64ok at ht_0 ht_2
 refine Fb 8 0 fun _ => Fb 8 1 fun _ => Fb 16 2 fun _ => KS ?_
 refine Oa (Ab [vi t.Gen.Width, vl ta1 tk1 t.Gen.Words, vi t.Kill.Width, vl ta3 tk3 t.Kill.Words, vl ta4 tk4 t.Copies]) fun p4 => Oq Va (KS ?_)
 refine Oq (Vfa fo85_0 0) (Oq (VldG sh39 0 [vi t.Gen.Width, vl ta1 tk1 t.Gen.Words]) ?_)
 refine letv (r1_Valid t.Gen) fun rv5 hg6 => ?_
 have hc7 := fn59 t.Gen ta1 tk1 pre rv5 hg6
 refine Oc [1] ca59 hc7 ?_
 rintro - -
 refine Oq Vnot (Oq Vm ?_)
 refine Js 10 ?_ ?_
 ·intro h8
  have h10 := not_true h8
  refine Osk (Osk (Osk (Osk (Oq Vpt (Oq Vm (Osk (Osk (Osk (Osk ?_)))))))))
  refine Osk (Osk (Osk (Oq Vpt (Oq Vm (Osk (Osk (Osk (Osk (Oq Vpt ?_)))))))))
  refine KS ?_
  refine Kt (KS ?_)
  refine Oq Va (KS ?_)
  have hq := q4 hrr false (by simp only [r1_ValidTransfer, h8, h10, hg6, cs4]); subst hq
  exact Kr () rfl (.tmp rfl .nil) [] trivial
 intro h8
 have h13 := not_false h8
 refine Oq (Vfa fo85_1 0) (Oq (VldG sh39 0 [vi t.Kill.Width, vl ta3 tk3 t.Kill.Words]) ?_)
 refine letv (r1_Valid t.Kill) fun rv15 hg16 => ?_
 have hc17 := fn59 t.Kill ta3 tk3 pre rv15 hg16
 refine Oc [2] ca59 hc17 ?_
 rintro - -
 refine Oq Vnot (Oq Vpf (Oq Vm ?_))
 refine Js 16 ?_ ?_
 ·intro h18
  have h20 := not_true h18
  refine Osk (Osk (Osk (Osk (Osk (Osk (Osk (Oq Vpt (Oq Vm (Osk ?_)))))))))
  refine Osk (Osk (Osk (Oq Vpt (KS ?_))))
  refine Kt (KS ?_)
  refine Oq Va (KS ?_)
  have hq := q4 hrr false (by simp only [r1_ValidTransfer, h8, h13, h18, h20, hg6, hg16, cs4]); subst hq
  exact Kr () rfl (.tmp rfl .nil) [] trivial
 intro h18
 have h23 := not_false h18
 refine Oq (Vfa fo85_0 0) (Oq (VfaF fo39_0 0) (Oq (VldF sh3 0) (Oq (Vfa fo85_1 0) (Oq (VfaF fo39_0 0) (Oq (VldF sh3 0) (Oq Vneq (Oq Vpf (Oq Vm ?_))))))))
 refine Js 25 ?_ ?_
 ·intro h25
  have g26 := ne_of_bne h25
  refine Osk (Osk (Osk (Osk (Oq Vpt (KS ?_)))))
  refine Kt (KS ?_)
  refine Oq Va (KS ?_)
  have hq := q4 hrr false (by simp only [r1_ValidTransfer, h8, h13, h18, h23, h25, hg6, hg16, cs4]); subst hq
  exact Kr () rfl (.tmp rfl .nil) [] trivial
 intro h25
 have g27 := eq_of_bne_false h25
 refine Oq (Vfa fo85_2 0) (Oq (VldF sh83 0) (Oq (Vlen sl83) (Oq Vgtr (Oq Vpf (KS ?_)))))
 refine Kc ?_ ?_
 ·intro h28
  have g29 := dt h28
  refine KS ?_
  refine Oq Va (KS ?_)
  have hq := q4 hrr false (by simp only [r1_ValidTransfer, h8, h13, h18, h23, h25, h28, hg6, hg16, cs4]); subst hq
  exact Kr () rfl (.tmp rfl .nil) [] trivial
 intro h28
 have g30 := df h28
 refine KS ?_
 refine Oq (Vfa fo85_0 0) (Oq (VfaF fo39_0 0) (Oq (VldF sh3 0) (Oq Va (KS ?_))))
 refine Oq Va (KS ?_)
 refine Kl (γ := Nat × Int) (fun (r31, i_32) => ⟨[(1, p4), (3, vi t.Gen.Width), (4, vi i_32)], [pv p4 [vi t.Gen.Width, vl ta1 tk1 t.Gen.Words, vi t.Kill.Width, vl ta3 tk3 t.Kill.Words, vl ta4 tk4 t.Copies], S ta1 tk1 t.Gen.Words, S ta3 tk3 t.Kill.Words, S ta4 tk4 t.Copies], r1_ValidTransfer_L0 t r31 i_32 = r1_ValidTransfer_L0 t (((t.Copies.length : Int) - 0).toNat) 0 ∧ r31 = ((t.Copies.length : Int) - i_32).toNat ∧ (0 : Int) ≤ i_32 ∧ i_32 ≤ (t.Copies.length : Int) ∧ (-9223372036854775808 ≤ i_32 ∧ i_32 ≤ 9223372036854775807), r31⟩) (((t.Copies.length : Int) - 0).toNat, 0) [0, 1, 2, 3] ⟨rfl, rfl, aM1, aM1, aM1⟩ ?_
 rintro ⟨r31, i_32⟩ ⟨hM33, hr34, hi35, hi36, hk37⟩
 refine JJ_nx fun _ _ hL hA => ?_; dsimp only at hL hA; subst hL hA
 refine Fb 8 1 fun _ => Fb 8 2 fun _ => Fb 16 3 fun _ => KS ?_
 refine Oq Vm (Oq (Vfa fo85_2 0) (Oq (VldF sh83 0) (Oq (Vlen sl83) (Oq Vlss (KS ?_)))))
 refine Kc ?_ ?_
 ·intro h41
  have g42 := dt h41
  obtain ⟨r43, rfl⟩ := scc (n := r31) aM1
  refine KS ?_
  refine Oq (Vfa fo85_2 0) (Oq (VldF sh83 0) (Oq Vm (Oq (Vi sl83 3) ?_)))
  refine JJ_peek_GCopy i_32.toNat 3 rfl rng fun hb44 hb45 => ?_
  unfold i64ok at hb44 hb45
  refine Oq (VldA sh108 0) (Oa (Al ze108 [vi 0, vi 0]) fun p46 => Ost (Scl [0] sh108 [vi ((t.Copies.getD i_32.toNat default).From), vi ((t.Copies.getD i_32.toNat default).To)]) (KS ?_))
  refine Jp 0 fun hp47 => ?_
  refine bool_split (decide ((t.Copies.getD i_32.toNat default).From < 0)) ?_ ?_
  ·intro h48
   have g49 := dt h48
   refine Kq [0, 1, 3, 7, 15, 31, 15, 127, 255, 511, 1023, 2047, 4095, 8191, 16383, 32767, 65535, 32767, 262143, 524287, 1048575, 2097151, 4194303, 8388607, 16777215, 33554431, 16777215, 83886079, 268435455, 536870911, 16777215, 2147483647, 4294967295, 8589934591, 17179869183] fmix ?_
   refine Qv [0] (Vfa fo108_0 0) (Qv [1] (VldF sh3 0) (Qb h48 [] Vlss (Qv [] Vm (Qs (Qs (Qs (Qs (Qv [] Vpt (Qv [] Vm ?_)))))))))
   refine Qs (Qs (Qs (Qv [] Vpt (Qv [] Vm (Qs (Qs (Qs (Qs (Qv [] Vpt ?_)))))))))
   refine Qv [] Vm (Qs (Qs (Qs (Qs (Qs (Qs (Qs (Qs (Qs ?_)))))))))
   refine Qs (Qs (Qs (Qs (Qv [] Vpt ?_))))
   refine Qn ⟨by kernel_rfl, ?_⟩
   refine Kt (KS ?_)
   refine Oq Va (KS ?_)
   have hR50 := q2 hM33 (.ret false) (by simp only [r1_ValidTransfer_L0, h41, h48, cs4])
   have hq := q4 hrr false (by simp only [r1_ValidTransfer, h8, h13, h18, h23, h25, h28, h41, h48, hg6, hg16, hR50, cs4]); subst hq
   exact Kr () rfl (.tmp rfl .nil) [] trivial
  intro h48
  have g51 := df h48
  refine bool_split (decide (t.Gen.Width ≤ (t.Copies.getD i_32.toNat default).From)) ?_ ?_
  ·intro h52
   have g53 := dt h52
   refine Kq [0, 1, 3, 7, 15, 31, 15, 127, 255, 511, 1023, 2047, 4095, 8191, 16383, 32767, 65535, 32767, 262143, 524287, 1048575, 2097151, 4194303, 8388607, 16777215, 33554431, 16777215, 83886079, 268435455, 536870911, 16777215, 2147483647, 4294967295, 8589934591, 17179869183] fmix ?_
   refine Qv [0] (Vfa fo108_0 0) (Qv [1] (VldF sh3 0) (Qb h48 [] Vlss (Qv [] Vm (Qv [0] (Vfa fo108_0 0) (Qv [1] (VldF sh3 0) (Qv [] Vm (Qb h52 [] Vgeq (Qv [] Vpf (Qv [] Vm ?_)))))))))
   refine Qs (Qs (Qs (Qv [] Vpt (Qv [] Vm (Qs (Qs (Qs (Qs (Qv [] Vpt ?_)))))))))
   refine Qv [] Vm (Qs (Qs (Qs (Qs (Qs (Qs (Qs (Qs (Qs ?_)))))))))
   refine Qs (Qs (Qs (Qs (Qv [] Vpt ?_))))
   refine Qn ⟨by kernel_rfl, ?_⟩
   refine Kt (KS ?_)
   refine Oq Va (KS ?_)
   have hR54 := q2 hM33 (.ret false) (by simp only [r1_ValidTransfer_L0, h41, h48, h52, cs4])
   have hq := q4 hrr false (by simp only [r1_ValidTransfer, h8, h13, h18, h23, h25, h28, h41, h48, h52, hg6, hg16, hR54, cs4]); subst hq
   exact Kr () rfl (.tmp rfl .nil) [] trivial
  intro h52
  have g55 := df h52
  refine bool_split (decide ((t.Copies.getD i_32.toNat default).To < 0)) ?_ ?_
  ·intro h56
   have g57 := dt h56
   refine Kq [0, 1, 3, 7, 15, 31, 15, 127, 255, 511, 1023, 2047, 4095, 8191, 16383, 32767, 65535, 32767, 262143, 524287, 1048575, 2097151, 4194303, 8388607, 16777215, 33554431, 16777215, 83886079, 268435455, 536870911, 16777215, 2147483647, 4294967295, 8589934591, 17179869183] fmix ?_
   refine Qv [0] (Vfa fo108_0 0) (Qv [1] (VldF sh3 0) (Qb h48 [] Vlss (Qv [] Vm (Qv [0] (Vfa fo108_0 0) (Qv [1] (VldF sh3 0) (Qv [] Vm (Qb h52 [] Vgeq (Qv [] Vpf (Qv [] Vm ?_)))))))))
   refine Qv [0] (Vfa fo108_1 0) (Qv [1] (VldF sh3 0) (Qb h56 [] Vlss (Qv [] Vpf (Qv [] Vm (Qs (Qs (Qs (Qs (Qv [] Vpt ?_)))))))))
   refine Qv [] Vm (Qs (Qs (Qs (Qs (Qs (Qs (Qs (Qs (Qs ?_)))))))))
   refine Qs (Qs (Qs (Qs (Qv [] Vpt ?_))))
   refine Qn ⟨by kernel_rfl, ?_⟩
   refine Kt (KS ?_)
   refine Oq Va (KS ?_)
   have hR58 := q2 hM33 (.ret false) (by simp only [r1_ValidTransfer_L0, h41, h48, h52, h56, cs4])
   have hq := q4 hrr false (by simp only [r1_ValidTransfer, h8, h13, h18, h23, h25, h28, h41, h48, h52, h56, hg6, hg16, hR58, cs4]); subst hq
   exact Kr () rfl (.tmp rfl .nil) [] trivial
  intro h56
  have g59 := df h56
  refine bool_split (decide (t.Gen.Width ≤ (t.Copies.getD i_32.toNat default).To)) ?_ ?_
  ·intro h60
   have g61 := dt h60
   refine Kq [0, 1, 3, 7, 15, 31, 15, 127, 255, 511, 1023, 2047, 4095, 8191, 16383, 32767, 65535, 32767, 262143, 524287, 1048575, 2097151, 4194303, 8388607, 16777215, 33554431, 16777215, 83886079, 268435455, 536870911, 16777215, 2147483647, 4294967295, 8589934591, 17179869183] fmix ?_
   refine Qv [0] (Vfa fo108_0 0) (Qv [1] (VldF sh3 0) (Qb h48 [] Vlss (Qv [] Vm (Qv [0] (Vfa fo108_0 0) (Qv [1] (VldF sh3 0) (Qv [] Vm (Qb h52 [] Vgeq (Qv [] Vpf (Qv [] Vm ?_)))))))))
   refine Qv [0] (Vfa fo108_1 0) (Qv [1] (VldF sh3 0) (Qb h56 [] Vlss (Qv [] Vpf (Qv [] Vm (Qv [0] (Vfa fo108_1 0) (Qv [1] (VldF sh3 0) (Qv [] Vm (Qb h60 [] Vgeq (Qv [] Vpf ?_)))))))))
   refine Qv [] Vm (Qs (Qs (Qs (Qs (Qs (Qs (Qs (Qs (Qs ?_)))))))))
   refine Qs (Qs (Qs (Qs (Qv [] Vpt ?_))))
   refine Qn ⟨by kernel_rfl, ?_⟩
   refine Kt (KS ?_)
   refine Oq Va (KS ?_)
   have hR62 := q2 hM33 (.ret false) (by simp only [r1_ValidTransfer_L0, h41, h48, h52, h56, h60, cs4])
   have hq := q4 hrr false (by simp only [r1_ValidTransfer, h8, h13, h18, h23, h25, h28, h41, h48, h52, h56, h60, hg6, hg16, hR62, cs4]); subst hq
   exact Kr () rfl (.tmp rfl .nil) [] trivial
  intro h60
  have g63 := df h60
  refine bool_split (decide (0 < i_32)) ?_ ?_
  ·intro h64
   have g65 := dt h64
   refine JJ_peek_GCopy ((i_32 - 1) : Int).toNat 6 rfl rng fun hb66 hb67 => ?_
   unfold i64ok at hb66 hb67
   refine JK_drawK [0, 1, 3, 7, 15, 31, 15, 127, 255, 511, 1023, 2047, 4095, 8191, 16383, 32767, 65535, 32767, 262143, 524287, 1048575, 2097151, 4194303, 8388607, 16777215, 33554431, 16777215, 83886079, 268435455, 536870911, 16777215, 2147483647, 4294967295, 8589934591, 17179869183] fmix ?_
   refine Dv [1] (Vfa fo108_0 0) (Dv [2] (VldF sh3 0) (Db h48 [] Vlss (Dv [] Vm (Dv [1] (Vfa fo108_0 0) (Dv [2] (VldF sh3 0) (Dv [] Vm (Db h52 [] Vgeq (Dv [] Vpf (Dv [] Vm ?_)))))))))
   refine Dv [1] (Vfa fo108_1 0) (Dv [2] (VldF sh3 0) (Db h56 [] Vlss (Dv [] Vpf (Dv [] Vm (Dv [1] (Vfa fo108_1 0) (Dv [2] (VldF sh3 0) (Dv [] Vm (Db h60 [] Vgeq (Dv [] Vpf ?_)))))))))
   refine Dv [] Vm (Dv [] Vm (Db h64 [] Vgtr (Dv [] Vm (Dv [4] (Vfa fo85_2 0) (Dv [4] (VldF sh83 0) (Dv [] Vm (Dv [] Vsub (Dv [7] (Vi sl83 0) (Dv [0] (VldA sh108 0) ?_)))))))))
   refine Dv [2] (VldA sh108 0) ?_
   refine letv (r1_Before (t.Copies.getD ((i_32 - 1) : Int).toNat default) (t.Copies.getD i_32.toNat default)) fun rv68 hg69 => ?_
   refine Dx [] [] [0] (fun G => vb rv68) [fun G => SP.fact (True)] (fun G => xC [] ca129 (fn129 ((t.Copies.getD ((i_32 - 1) : Int).toNat default)) ((t.Copies.getD i_32.toNat default)) pre pre pre pre rv68 hg69)) (Dv [] Vnot (Dv [] Vpt (Dv [] Vpf ?_)))
   refine Dn ⟨by kernel_rfl, fun G => ?_⟩
   refine Jw2 [(1, p4), (3, vi t.Gen.Width), (4, vi i_32), (80, vb (!rv68))] [0, 1, 2, 3, 4, 5, 6, 7] [SP.fact (True)] ?_
   refine Jk [0, 2, 2, 3, 4, 5, 6] ?_
   refine Kc ?_ ?_
   ·intro h70
    have h72 := not_true h70
    refine KS ?_
    refine Oq Va (KS ?_)
    have hR74 := q2 hM33 (.ret false) (by simp only [r1_ValidTransfer_L0, h41, h48, h52, h56, h60, h64, h70, h72, hg69, cs4])
    have hq := q4 hrr false (by simp only [r1_ValidTransfer, h8, h13, h18, h23, h25, h28, h41, h48, h52, h56, h60, h64, h70, h72, hg6, hg16, hg69, hR74, cs4]); subst hq
    exact Kr () rfl (.tmp rfl .nil) [] trivial
   intro h70
   have h76 := not_false h70
   refine KS ?_
   refine Oq Vm (Oq Vadd (Oq Va (KS ?_)))
   exact Kg (r43, (i_32 + 1)) [3, 4, 5, 6] ⟨(q3 hM33 (by simp only [r1_ValidTransfer_L0, h41, h48, h52, h56, h60, h64, h70, h76, hg69, cs4])), aM1, aM1, aM1, aM1⟩
  intro h64
  have g78 := df h64
  refine Kq [0, 1, 3, 7, 15, 31, 15, 127, 255, 511, 1023, 2047, 4095, 8191, 16383, 32767, 65535, 32767, 262143, 524287, 1048575, 2097151, 4194303, 8388607, 16777215, 33554431, 16777215, 83886079, 268435455, 536870911, 16777215, 2147483647, 4294967295, 8589934591, 17179869183] fmix ?_
  refine Qv [0] (Vfa fo108_0 0) (Qv [1] (VldF sh3 0) (Qb h48 [] Vlss (Qv [] Vm (Qv [0] (Vfa fo108_0 0) (Qv [1] (VldF sh3 0) (Qv [] Vm (Qb h52 [] Vgeq (Qv [] Vpf (Qv [] Vm ?_)))))))))
  refine Qv [0] (Vfa fo108_1 0) (Qv [1] (VldF sh3 0) (Qb h56 [] Vlss (Qv [] Vpf (Qv [] Vm (Qv [0] (Vfa fo108_1 0) (Qv [1] (VldF sh3 0) (Qv [] Vm (Qb h60 [] Vgeq (Qv [] Vpf ?_)))))))))
  refine Qv [] Vm (Qv [] Vm (Qb h64 [] Vgtr (Qv [] Vm (Qs (Qs (Qs (Qs (Qs (Qs ?_)))))))))
  refine Qs (Qs (Qs (Qv [] Vpf (Qv [] Vpf ?_))))
  refine Qn ⟨by kernel_rfl, ?_⟩
  refine Kf (KS ?_)
  refine Oq Vm (Oq Vadd (Oq Va (KS ?_)))
  exact Kg (r43, (i_32 + 1)) [3, 4, 5, 6] ⟨(q3 hM33 (by simp only [r1_ValidTransfer_L0, h41, h48, h52, h56, h60, h64, cs4])), aM1, aM1, aM1, aM1⟩
 intro h41
 have g79 := df h41
 obtain rfl : r31 = 0 := by omega
 refine Ke ?_
 have hR80 := q2 hM33 (.brk ()) (by simp only [r1_ValidTransfer_L0, h41, cs4])
 refine KS ?_
 refine Oq Va (KS ?_)
 have hq := q4 hrr true (by simp only [r1_ValidTransfer, h8, h13, h18, h23, h25, h28, h41, hg6, hg16, hR80, cs4]); subst hq
 exact Kr () rfl (.tmp rfl .nil) [] trivial
theorem fn50 (s : GSystem) (sa1 : Option Addr) (sk1 : Nat) (sa2 : Option Addr) (sk2 : Nat) (sa3 : Option Addr) (sk3 : Nat) (hs_0 : i64ok s.Width) (rr : Bool) (hrr : r10_Valid s = rr) : FT Tryz.prog 50 #[.agg #[vi s.Width, vl sa1 sk1 s.Deps, vl sa2 sk2 s.Transfers, vl sa3 sk3 s.Boundary]] [S sa1 sk1 s.Deps, S sa2 sk2 s.Transfers, S sa3 sk3 s.Boundary] (fun g : Unit => True) (fun g => vb rr) (fun g => []) := by
 refine FTi Tryz.func50 fun w0 M0 F0 => ?_
 unfold i64ok at hs_0
 refine Fb 24 0 fun _ => Fb 88 1 fun _ => Fb 32 2 fun _ => KS ?_
 refine Oa (Ab [vi s.Width, vl sa1 sk1 s.Deps, vl sa2 sk2 s.Transfers, vl sa3 sk3 s.Boundary]) fun p4 => Oq Va (KS ?_)
 refine Oq (Vfa fo32_3 0) (Oq (VldF sh24 0) (Oq (Vlen sl24) (Oq Va (KS ?_))))
 refine Oq (Vfa fo32_0 0) (Oq (VldF sh3 0) (Oq Vlss (Oq Vm ?_)))
 refine Js 12 ?_ ?_
 ·intro h5
  have g6 := dt h5
  refine Osk (Osk (Osk (Oq Vpt (Oq Vm (Osk (Osk (Oq Vpt (Oq Vm (Osk ?_)))))))))
  refine Osk (Oq Vpt (Oq Vm (Osk (Osk (Osk (Osk (Osk (Oq Vpt (Oq Vm ?_)))))))))
  refine Osk (Osk (Osk (Osk (Osk (Oq Vpt (KS ?_))))))
  refine Kt (KS ?_)
  refine Oq Va (KS ?_)
  have hq := q4 hrr false (by simp only [r10_Valid, h5, cs4]); subst hq
  exact Kr () rfl (.tmp rfl .nil) [] trivial
 intro h5
 have g7 := df h5
 refine Oq (Vfa fo32_0 0) (Oq (VldF sh3 0) (Oq Vgtr (Oq Vpf (Oq Vm ?_))))
 refine Js 17 ?_ ?_
 ·intro h8
  have g9 := dt h8
  refine Osk (Osk (Oq Vpt (Oq Vm (Osk (Osk (Oq Vpt (Oq Vm (Osk (Osk ?_)))))))))
  refine Osk (Osk (Osk (Oq Vpt (Oq Vm (Osk (Osk (Osk (Osk (Osk ?_)))))))))
  refine Oq Vpt (KS ?_)
  refine Kt (KS ?_)
  refine Oq Va (KS ?_)
  have hq := q4 hrr false (by simp only [r10_Valid, h5, h8, cs4]); subst hq
  exact Kr () rfl (.tmp rfl .nil) [] trivial
 intro h8
 have g10 := df h8
 refine Oq Vm (Oq Vlss (Oq Vpf (Oq Vm ?_)))
 refine Js 21 ?_ ?_
 ·intro h11
  have g12 := dt h11
  refine Osk (Osk (Oq Vpt (Oq Vm (Osk (Osk (Osk (Osk (Osk (Oq Vpt ?_)))))))))
  refine Oq Vm (Osk (Osk (Osk (Osk (Osk (Oq Vpt (KS ?_)))))))
  refine Kt (KS ?_)
  refine Oq Va (KS ?_)
  have hq := q4 hrr false (by simp only [r10_Valid, h5, h8, h11, cs4]); subst hq
  exact Kr () rfl (.tmp rfl .nil) [] trivial
 intro h11
 have g13 := df h11
 refine Oq Vm (Oq Vgtr (Oq Vpf (Oq Vm ?_)))
 refine Js 25 ?_ ?_
 ·intro h14
  have g15 := dt h14
  refine Osk (Osk (Osk (Osk (Osk (Oq Vpt (Oq Vm (Osk (Osk (Osk ?_)))))))))
  refine Osk (Osk (Oq Vpt (KS ?_)))
  refine Kt (KS ?_)
  refine Oq Va (KS ?_)
  have hq := q4 hrr false (by simp only [r10_Valid, h5, h8, h11, h14, cs4]); subst hq
  exact Kr () rfl (.tmp rfl .nil) [] trivial
 intro h14
 have g16 := df h14
 refine Oq (Vfa fo32_1 0) (Oq (VldF sh29 0) (Oq (Vlen sl29) (Oq Vm (Oq Vneq (Oq Vpf (Oq Vm ?_))))))
 refine Js 32 ?_ ?_
 ·intro h17
  have g18 := ne_of_bne h17
  refine Osk (Osk (Osk (Osk (Osk (Oq Vpt (KS ?_))))))
  refine Kt (KS ?_)
  refine Oq Va (KS ?_)
  have hq := q4 hrr false (by simp only [r10_Valid, h5, h8, h11, h14, h17, cs4]); subst hq
  exact Kr () rfl (.tmp rfl .nil) [] trivial
 intro h17
 have g19 := eq_of_bne_false h17
 refine Oq (Vfa fo32_2 0) (Oq (VldF sh30 0) (Oq (Vlen sl30) (Oq Vm (Oq Vneq (Oq Vpf (KS ?_))))))
 refine Kc ?_ ?_
 ·intro h20
  have g21 := ne_of_bne h20
  refine KS ?_
  refine Oq Va (KS ?_)
  have hq := q4 hrr false (by simp only [r10_Valid, h5, h8, h11, h14, h17, h20, cs4]); subst hq
  exact Kr () rfl (.tmp rfl .nil) [] trivial
 intro h20
 have g22 := eq_of_bne_false h20
 refine KS ?_
 refine Oq Va (KS ?_)
 refine Oq Va (KS ?_)
 refine Kl (γ := Nat × Int × Int) (fun (r23, edges_24, i_25) => ⟨[(1, p4), (3, vi (s.Boundary.length : Int)), (4, vi edges_24), (5, vi i_25)], [pv p4 [vi s.Width, vl sa1 sk1 s.Deps, vl sa2 sk2 s.Transfers, vl sa3 sk3 s.Boundary], S sa1 sk1 s.Deps, S sa2 sk2 s.Transfers, S sa3 sk3 s.Boundary], r10_Valid_L0 s r23 edges_24 i_25 = r10_Valid_L0 s (((s.Boundary.length : Int) - 0).toNat) 0 0 ∧ r23 = ((s.Boundary.length : Int) - i_25).toNat ∧ (0 : Int) ≤ i_25 ∧ i_25 ≤ (s.Boundary.length : Int) ∧ (-9223372036854775808 ≤ edges_24 ∧ edges_24 ≤ 9223372036854775807) ∧ (-9223372036854775808 ≤ i_25 ∧ i_25 ≤ 9223372036854775807) ∧ 0 ≤ edges_24 ∧ edges_24 ≤ i_25 * 17592186044416, r23⟩) (((s.Boundary.length : Int) - 0).toNat, 0, 0) [0, 1, 2, 3] ⟨rfl, rfl, aM1, aM1, aM1, aM1, iv0⟩ ?_
 rintro ⟨r23, edges_24, i_25⟩ ⟨hM26, hr27, hi28, hi29, hk30, hk31, hv32⟩
 refine JJ_nx fun _ _ hL hA => ?_; dsimp only at hL hA; subst hL hA
 refine Fb 24 1 fun _ => Fb 88 2 fun _ => Fb 32 3 fun _ => KS ?_
 refine Oq Vm (Oq Vm (Oq Vlss (KS ?_)))
 refine Kc ?_ ?_
 ·intro h36
  have g37 := dt h36
  obtain ⟨r38, rfl⟩ := scc (n := r23) aM1
  refine KS ?_
  refine JJ_peekL i_25.toNat 1 rfl rng fun a39 k40 => ?_
  refine Fb 8 1 fun _ => Fo 1 fun ho42 => ?_
  refine letv (r7_Rising (s.Deps.getD i_25.toNat []) (s.Boundary.length : Int)) fun rv43 hg44 => ?_
  refine bool_split (!rv43) ?_ ?_
  ·intro h45
   have h47 := not_true h45
   refine JK_drawK [0, 1, 0, 7, 15, 0, 63, 127, 255, 511, 1023, 511, 4095, 8191, 16383, 32767, 65535, 131071, 262143, 524287, 262143, 2097151, 4194303, 8388607, 16777215, 262143, 33816575, 134217727, 268435455, 536870911, 1073741823, 2147483647, 1073741823, 8589934591, 17179869183, 34359738367, 68719476735, 137438953471, 274877906943, 549755813887, 1099511627775, 549755813887, 4398046511103, 8796093022207, 17592186044415, 549755813887, 35734127902719, 140737488355327, 281474976710655] fmix ?_
   refine Dv [2] (Vfa fo32_1 0) (Dv [2] (VldF sh29 0) (Dv [] Vm (Dv [3] (Vi sl29 0) (Dv [0] (Vld sh22 0) (Dv [] Vm (Dx [1] [] [1, 0] (fun G => vb rv43) [fun G => SP.fact (True)] (fun G => xC [0] ca86 (fn86 ((s.Deps.getD i_25.toNat [])) a39 k40 ((s.Boundary.length : Int)) pre rv43 hg44)) (Db h45 [] Vnot (Dv [] Vm (Ds ?_)))))))))
   refine Ds (Ds (Ds (Ds (Ds (Ds (Dv [] Vpt (Dv [] Vm (Ds (Ds ?_)))))))))
   refine Ds (Ds (Ds (Ds (Ds (Ds (Ds (Ds (Dv [] Vpt (Dv [] Vm ?_)))))))))
   refine Ds (Ds (Ds (Ds (Ds (Ds (Ds (Dv [] Vpt (Dv [] Vm (Ds ?_)))))))))
   refine Ds (Ds (Ds (Ds (Ds (Ds (Ds (Ds (Dv [] Vpt ?_))))))))
   refine Dn ⟨by kernel_rfl, fun G => ?_⟩
   refine Jw2 [(1, p4), (3, vi (s.Boundary.length : Int)), (4, vi edges_24), (5, vi i_25), (92, vb true)] [0, 1, 2, 3, 4, 5] [SP.fact (True)] ?_
   refine Jk [0, 1, 2, 3, 4, 5] (Kt ?_)
   refine KS ?_
   refine Oq Va (KS ?_)
   have hR49 := q2 hM26 (.ret false) (by simp only [r10_Valid_L0, h36, h45, h47, hg44, cs4])
   have hq := q4 hrr false (by simp only [r10_Valid, h5, h8, h11, h14, h17, h20, h36, h45, h47, hg44, hR49, cs4]); subst hq
   exact Kr () rfl (.tmp rfl .nil) [] trivial
  intro h45
  have h51 := not_false h45
  refine JJ_peek_GTransfer i_25.toNat 4 rfl rng fun a53 k54 a55 k56 a57 k58 hb59 hb60 => ?_
  unfold i64ok at hb59 hb60
  refine Fb 8 1 fun _ => Fb 8 2 fun _ => Fb 16 3 fun _ => ?_
  refine letv (r1_ValidTransfer (s.Transfers.getD i_25.toNat default)) fun rv64 hg65 => ?_
  refine bool_split (!rv64) ?_ ?_
  ·intro h66
   have h68 := not_true h66
   refine JK_drawK [0, 1, 0, 7, 15, 0, 63, 127, 255, 511, 1023, 511, 4095, 8191, 16383, 32767, 65535, 131071, 262143, 524287, 262143, 2097151, 4194303, 8388607, 16777215, 262143, 33816575, 134217727, 268435455, 536870911, 1073741823, 2147483647, 1073741823, 8589934591, 17179869183, 34359738367, 68719476735, 137438953471, 274877906943, 549755813887, 1099511627775, 549755813887, 4398046511103, 8796093022207, 17592186044415, 549755813887, 35734127902719, 140737488355327, 281474976710655] fmix ?_
   refine Dv [6] (Vfa fo32_1 0) (Dv [6] (VldF sh29 0) (Dv [] Vm (Dv [7] (Vi sl29 0) (Dv [4] (Vld sh22 0) (Dv [] Vm (Dx [5] [] [1, 0] (fun G => vb rv43) [fun G => SP.fact (True)] (fun G => xC [0] ca86 (fn86 ((s.Deps.getD i_25.toNat [])) a39 k40 ((s.Boundary.length : Int)) pre rv43 hg44)) (Db h45 [] Vnot (Dv [] Vm (Dv [6] (Vfa fo32_2 0) ?_)))))))))
   refine Dv [6] (VldF sh30 0) (Dv [] Vm (Dv [8] (Vi sl30 0) (Dv [0] (VldA sh85 0) (Dx [1, 2, 3] [] [1, 2, 3, 0] (fun G => vb rv64) [fun G => SP.fact (True)] (fun G => xC [0, 1, 2] ca87 (fn87 ((s.Transfers.getD i_25.toNat default)) a53 k54 a55 k56 a57 k58 pre pre rv64 hg65)) (Db h66 [] Vnot (Dv [] Vpf (Dv [] Vm (Ds (Ds ?_)))))))))
   refine Ds (Ds (Ds (Ds (Ds (Ds (Ds (Ds (Dv [] Vpt (Dv [] Vm ?_)))))))))
   refine Ds (Ds (Ds (Ds (Ds (Ds (Ds (Dv [] Vpt (Dv [] Vm (Ds ?_)))))))))
   refine Ds (Ds (Ds (Ds (Ds (Ds (Ds (Ds (Dv [] Vpt ?_))))))))
   refine Dn ⟨by kernel_rfl, fun G => ?_⟩
   refine Jw2 [(1, p4), (3, vi (s.Boundary.length : Int)), (4, vi edges_24), (5, vi i_25), (92, vb true)] [0, 1, 2, 3, 4, 5, 6, 7, 8, 9] [SP.fact (True), SP.fact (True)] ?_
   refine Jk [0, 1, 2, 3, 4, 5, 6, 7, 8, 9] (Kt ?_)
   refine KS ?_
   refine Oq Va (KS ?_)
   have hR70 := q2 hM26 (.ret false) (by simp only [r10_Valid_L0, h36, h45, h51, h66, h68, hg44, hg65, cs4])
   have hq := q4 hrr false (by simp only [r10_Valid, h5, h8, h11, h14, h17, h20, h36, h45, h51, h66, h68, hg44, hg65, hR70, cs4]); subst hq
   exact Kr () rfl (.tmp rfl .nil) [] trivial
  intro h66
  have h72 := not_false h66
  refine bool_split (((s.Transfers.getD i_25.toNat default).Gen).Width != s.Width) ?_ ?_
  ·intro h74
   have g75 := ne_of_bne h74
   refine JK_drawK [0, 1, 0, 7, 15, 0, 63, 127, 255, 511, 1023, 511, 4095, 8191, 16383, 32767, 65535, 131071, 262143, 524287, 262143, 2097151, 4194303, 8388607, 16777215, 262143, 33816575, 134217727, 268435455, 536870911, 1073741823, 2147483647, 1073741823, 8589934591, 17179869183, 34359738367, 68719476735, 137438953471, 274877906943, 549755813887, 1099511627775, 549755813887, 4398046511103, 8796093022207, 17592186044415, 549755813887, 35734127902719, 140737488355327, 281474976710655] fmix ?_
   refine Dv [6] (Vfa fo32_1 0) (Dv [6] (VldF sh29 0) (Dv [] Vm (Dv [7] (Vi sl29 0) (Dv [4] (Vld sh22 0) (Dv [] Vm (Dx [5] [] [1, 0] (fun G => vb rv43) [fun G => SP.fact (True)] (fun G => xC [0] ca86 (fn86 ((s.Deps.getD i_25.toNat [])) a39 k40 ((s.Boundary.length : Int)) pre rv43 hg44)) (Db h45 [] Vnot (Dv [] Vm (Dv [6] (Vfa fo32_2 0) ?_)))))))))
   refine Dv [6] (VldF sh30 0) (Dv [] Vm (Dv [8] (Vi sl30 0) (Dv [0] (VldA sh85 0) (Dx [1, 2, 3] [] [1, 2, 3, 0] (fun G => vb rv64) [fun G => SP.fact (True)] (fun G => xC [0, 1, 2] ca87 (fn87 ((s.Transfers.getD i_25.toNat default)) a53 k54 a55 k56 a57 k58 pre pre rv64 hg65)) (Db h66 [] Vnot (Dv [] Vpf (Dv [] Vm (Dv [6] (Vfa fo32_2 0) (Dv [6] (VldF sh30 0) ?_)))))))))
   refine Dv [] Vm (Dv [8] (Vi sl30 0) (Dv [0] (Vfa fo85_0 0) (Dv [0] (VfaF fo39_0 0) (Dv [0] (VldF sh3 0) (Dv [6] (Vfa fo32_0 0) (Dv [6] (VldF sh3 0) (Db h74 [] Vneq (Dv [] Vpf (Dv [] Vm ?_)))))))))
   refine Ds (Ds (Ds (Ds (Ds (Ds (Ds (Dv [] Vpt (Dv [] Vm (Ds ?_)))))))))
   refine Ds (Ds (Ds (Ds (Ds (Ds (Ds (Ds (Dv [] Vpt ?_))))))))
   refine Dn ⟨by kernel_rfl, fun G => ?_⟩
   refine Jw2 [(1, p4), (3, vi (s.Boundary.length : Int)), (4, vi edges_24), (5, vi i_25), (92, vb true)] [0, 1, 2, 3, 4, 5, 6, 7, 8, 9] [SP.fact (True), SP.fact (True)] ?_
   refine Jk [0, 1, 2, 3, 4, 5, 6, 7, 8, 9] (Kt ?_)
   refine KS ?_
   refine Oq Va (KS ?_)
   have hR76 := q2 hM26 (.ret false) (by simp only [r10_Valid_L0, h36, h45, h51, h66, h72, h74, hg44, hg65, cs4])
   have hq := q4 hrr false (by simp only [r10_Valid, h5, h8, h11, h14, h17, h20, h36, h45, h51, h66, h72, h74, hg44, hg65, hR76, cs4]); subst hq
   exact Kr () rfl (.tmp rfl .nil) [] trivial
  intro h74
  have g77 := eq_of_bne_false h74
  refine JJ_peek_GSet i_25.toNat 9 rfl rng fun a78 k79 hb80 => ?_
  unfold i64ok at hb80
  refine Fb 8 1 fun _ => ?_
  refine JK_drawK [0, 1, 0, 7, 15, 0, 63, 127, 255, 511, 1023, 511, 4095, 8191, 16383, 32767, 65535, 131071, 262143, 524287, 262143, 2097151, 4194303, 8388607, 16777215, 262143, 33816575, 134217727, 268435455, 536870911, 1073741823, 2147483647, 1073741823, 8589934591, 17179869183, 34359738367, 68719476735, 137438953471, 274877906943, 549755813887, 1099511627775, 549755813887, 4398046511103, 8796093022207, 17592186044415, 549755813887, 35734127902719, 140737488355327, 281474976710655] fmix ?_
  refine Dv [8] (Vfa fo32_1 0) (Dv [8] (VldF sh29 0) (Dv [] Vm (Dv [9] (Vi sl29 0) (Dv [6] (Vld sh22 0) (Dv [] Vm (Dx [7] [] [1, 0] (fun G => vb rv43) [fun G => SP.fact (True)] (fun G => xC [0] ca86 (fn86 ((s.Deps.getD i_25.toNat [])) a39 k40 ((s.Boundary.length : Int)) pre rv43 hg44)) (Db h45 [] Vnot (Dv [] Vm (Dv [8] (Vfa fo32_2 0) ?_)))))))))
  refine Dv [8] (VldF sh30 0) (Dv [] Vm (Dv [10] (Vi sl30 0) (Dv [2] (VldA sh85 0) (Dx [3, 4, 5] [] [1, 2, 3, 0] (fun G => vb rv64) [fun G => SP.fact (True)] (fun G => xC [0, 1, 2] ca87 (fn87 ((s.Transfers.getD i_25.toNat default)) a53 k54 a55 k56 a57 k58 pre pre rv64 hg65)) (Db h66 [] Vnot (Dv [] Vpf (Dv [] Vm (Dv [8] (Vfa fo32_2 0) (Dv [8] (VldF sh30 0) ?_)))))))))
  refine Dv [] Vm (Dv [10] (Vi sl30 0) (Dv [2] (Vfa fo85_0 0) (Dv [2] (VfaF fo39_0 0) (Dv [2] (VldF sh3 0) (Dv [8] (Vfa fo32_0 0) (Dv [8] (VldF sh3 0) (Db h74 [] Vneq (Dv [] Vpf (Dv [] Vm ?_)))))))))
  refine Dv [8] (Vfa fo32_3 0) (Dv [8] (VldF sh24 0) (Dv [] Vm (Dv [11] (Vi sl24 0) (Dv [0] (VldA sh39 0) ?_))))
  refine letv (r1_Valid (s.Boundary.getD i_25.toNat default)) fun rv82 hg83 => ?_
  refine Dx [1] [] [1, 0] (fun G => vb rv82) [fun G => SP.fact (True)] (fun G => xC [0] ca59 (fn59 ((s.Boundary.getD i_25.toNat default)) a78 k79 pre rv82 hg83)) (Dv [] Vnot (Dv [] Vpf ?_))
  refine bool_split (!rv82) ?_ ?_
  ·intro h84
   have h86 := not_true h84
   refine Db h84 [] Vm (Ds (Ds (Ds (Ds (Ds (Ds (Ds (Ds (Ds ?_)))))))))
   refine Dv [] Vpt ?_
   refine Dn ⟨by kernel_rfl, fun G => ?_⟩
   refine Jw2 [(1, p4), (3, vi (s.Boundary.length : Int)), (4, vi edges_24), (5, vi i_25), (92, vb true)] [0, 1, 2, 3, 4, 5, 6, 7, 8, 9, 10, 11] [SP.fact (True), SP.fact (True), SP.fact (True)] ?_
   refine Jk [0, 1, 2, 3, 4, 5, 6, 7, 8, 9, 10, 11] (Kt ?_)
   refine KS ?_
   refine Oq Va (KS ?_)
   have hR88 := q2 hM26 (.ret false) (by simp only [r10_Valid_L0, h36, h45, h51, h66, h72, h74, h84, h86, hg44, hg65, hg83, cs4])
   have hq := q4 hrr false (by simp only [r10_Valid, h5, h8, h11, h14, h17, h20, h36, h45, h51, h66, h72, h74, h84, h86, hg44, hg65, hg83, hR88, cs4]); subst hq
   exact Kr () rfl (.tmp rfl .nil) [] trivial
  intro h84
  have h90 := not_false h84
  refine Db h84 [] Vm (Dv [8] (Vfa fo32_3 0) (Dv [8] (VldF sh24 0) (Dv [] Vm (Dv [11] (Vi sl24 0) (Dv [0] (Vfa fo39_0 0) (Dv [0] (VldF sh3 0) (Dv [8] (Vfa fo32_0 0) (Dv [8] (VldF sh3 0) (Dv [] Vneq ?_)))))))))
  refine Dv [] Vpf ?_
  refine Dn ⟨by kernel_rfl, fun G => ?_⟩
  refine Jw2 [(1, p4), (3, vi (s.Boundary.length : Int)), (4, vi edges_24), (5, vi i_25), (92, vb ((s.Boundary.getD i_25.toNat default).Width != s.Width))] [0, 1, 2, 3, 4, 5, 6, 7, 8, 9, 10, 11] [SP.fact (True), SP.fact (True), SP.fact (True)] ?_
  refine Jk [0, 1, 2, 3, 4, 5, 6, 7, 8, 9, 10, 11] ?_
  refine Kc ?_ ?_
  ·intro h92
   have g93 := ne_of_bne h92
   refine KS ?_
   refine Oq Va (KS ?_)
   have hR94 := q2 hM26 (.ret false) (by simp only [r10_Valid_L0, h36, h45, h51, h66, h72, h74, h84, h90, h92, hg44, hg65, hg83, cs4])
   have hq := q4 hrr false (by simp only [r10_Valid, h5, h8, h11, h14, h17, h20, h36, h45, h51, h66, h72, h74, h84, h90, h92, hg44, hg65, hg83, hR94, cs4]); subst hq
   exact Kr () rfl (.tmp rfl .nil) [] trivial
  intro h92
  have g95 := eq_of_bne_false h92
  refine KS ?_
  refine Oq Vm (Oq (Vfa fo32_1 8) (Oq (VldF sh29 8) (Oq Vm (Oq (Vi sl29 9) (Oq (Vld sh22 6) (Oq (Vlen sl22) (Oq Vadd (Oq Va (KS ?_)))))))))
  refine Oq Vm (Oq Vadd (Oq Va (KS ?_)))
  exact Kg (r38, (edges_24 + ((s.Deps.getD i_25.toNat []).length : Int)), (i_25 + 1)) [8, 9, 10, 11] ⟨(q3 hM26 (by simp only [r10_Valid_L0, h36, h45, h51, h66, h72, h74, h84, h90, h92, hg44, hg65, hg83, cs4])), aM1, aM1, aM1, aM1, aM1, iv1⟩
 intro h36
 have g96 := df h36
 obtain rfl : r23 = 0 := by omega
 refine Ke ?_
 have hR97 := q2 hM26 (.brk edges_24) (by simp only [r10_Valid_L0, h36, cs4])
 refine KS ?_
 refine Oq Vm (Oq Vleq (Oq Va (KS ?_)))
 have hq := q4 hrr (decide (edges_24 ≤ 1024)) (by simp only [r10_Valid, h5, h8, h11, h14, h17, h20, h36, hR97, cs4]); subst hq
 exact Kr () rfl (.tmp rfl .nil) [] trivial
theorem fn89 (s : GSystem) (sa1 : Option Addr) (sk1 : Nat) (sa2 : Option Addr) (sk2 : Nat) (sa3 : Option Addr) (sk3 : Nat) (k : List GKnown) (ka0 : Option Addr) (kk0 : Nat) (hs_0 : i64ok s.Width) (rr : Bool) (hrr : r14_ValidKnown s k = rr) : FT Tryz.prog 89 #[.agg #[vi s.Width, vl sa1 sk1 s.Deps, vl sa2 sk2 s.Transfers, vl sa3 sk3 s.Boundary], vl ka0 kk0 k] [S sa1 sk1 s.Deps, S sa2 sk2 s.Transfers, S sa3 sk3 s.Boundary, S ka0 kk0 k] (fun g : Unit => True) (fun g => vb rr) (fun g => []) := by
 refine FTi Tryz.func89 fun w0 M0 F0 => ?_
 unfold i64ok at hs_0
 refine Fb 24 0 fun _ => Fb 88 1 fun _ => Fb 32 2 fun _ => Fb 40 3 fun _ => KS ?_
 refine Oa (Ab [vi s.Width, vl sa1 sk1 s.Deps, vl sa2 sk2 s.Transfers, vl sa3 sk3 s.Boundary]) fun p5 => Oq Va (KS ?_)
 refine Oq Va (KS ?_)
 refine Kl (γ := Nat × Int) (fun (r6, i_7) => ⟨[(1, vl ka0 kk0 k), (2, p5), (5, vi i_7)], [pv p5 [vi s.Width, vl sa1 sk1 s.Deps, vl sa2 sk2 s.Transfers, vl sa3 sk3 s.Boundary], S sa1 sk1 s.Deps, S sa2 sk2 s.Transfers, S sa3 sk3 s.Boundary, S ka0 kk0 k], r14_ValidKnown_L0 s k r6 i_7 = r14_ValidKnown_L0 s k (((k.length : Int) - 0).toNat) 0 ∧ r6 = ((k.length : Int) - i_7).toNat ∧ (0 : Int) ≤ i_7 ∧ i_7 ≤ (k.length : Int) ∧ (-9223372036854775808 ≤ i_7 ∧ i_7 ≤ 9223372036854775807), r6⟩) (((k.length : Int) - 0).toNat, 0) [0, 1, 2, 3, 4] ⟨rfl, rfl, aM1, aM1, aM1⟩ ?_
 rintro ⟨r6, i_7⟩ ⟨hM8, hr9, hi10, hi11, hk12⟩
 refine JJ_nx fun _ _ hL hA => ?_; dsimp only at hL hA; subst hL hA
 refine Fb 24 1 fun _ => Fb 88 2 fun _ => Fb 32 3 fun _ => Fb 40 4 fun _ => KS ?_
 refine Oq Vm (Oq Vm (Oq (Vlen sl88) (Oq Vlss (KS ?_))))
 refine Kc ?_ ?_
 ·intro h17
  have g18 := dt h17
  obtain ⟨r19, rfl⟩ := scc (n := r6) aM1
  refine KS ?_
  refine JJ_peek_GKnown i_7.toNat 4 rfl rng fun a20 k21 hb22 hb23 => ?_
  unfold i64ok at hb22 hb23
  refine Fb 8 1 fun _ => ?_
  refine bool_split (decide ((k.getD i_7.toNat default).Node < 0)) ?_ ?_
  ·intro h25
   have g26 := dt h25
   refine Kq [0, 0, 3, 7, 15, 31, 63, 127, 127, 511, 1023, 2047, 127, 4223, 12415, 32767, 65535, 131071, 262143, 524287, 1048575, 2097151, 2097151, 6291455, 16777215, 33554431, 67108863, 2097151, 2097151, 404750335, 941621247, 2015363071, 4294967295, 8589934591, 17179869183, 34359738367, 68719476735, 68719476735, 274877906943, 549755813887, 1099511627775, 2199023255551, 4398046511103, 8796093022207, 17592186044415, 35184372088831, 35184372088831, 140737488355327, 281474976710655, 562949953421311, 1125899906842623, 35184372088831, 2286984185774079, 9007199254740991, 18014398509481983] fmix ?_
   refine Qv [] Vm (Qv [] Vm (Qv [6] (Vi sl88 0) (Qv [0] (Vfa fo144_0 0) (Qv [0] (VldF sh3 0) (Qb h25 [] Vlss (Qv [] Vm (Qs (Qs (Qs ?_)))))))))
   refine Qs (Qs (Qs (Qs (Qs (Qs (Qv [] Vpt (Qv [] Vm (Qs (Qs ?_)))))))))
   refine Qs (Qs (Qs (Qs (Qs (Qs (Qs (Qs (Qs (Qs ?_)))))))))
   refine Qs (Qs (Qs (Qs (Qv [] Vpt (Qv [] Vm (Qs (Qs (Qs (Qs ?_)))))))))
   refine Qs (Qs (Qs (Qv [] Vpt (Qv [] Vm (Qs (Qs (Qs (Qs (Qs ?_)))))))))
   refine Qs (Qs (Qs (Qs (Qv [] Vpt ?_))))
   refine Qn ⟨by kernel_rfl, ?_⟩
   refine Kt (KS ?_)
   refine Oq Va (KS ?_)
   have hR27 := q2 hM8 (.ret false) (by simp only [r14_ValidKnown_L0, h17, h25, cs4])
   have hq := q4 hrr false (by simp only [r14_ValidKnown, h17, h25, hR27, cs4]); subst hq
   exact Kr () rfl (.tmp rfl .nil) [] trivial
  intro h25
  have g28 := df h25
  refine bool_split (decide ((s.Boundary.length : Int) ≤ (k.getD i_7.toNat default).Node)) ?_ ?_
  ·intro h29
   have g30 := dt h29
   refine Kq [0, 0, 3, 7, 15, 31, 63, 127, 127, 511, 1023, 2047, 127, 4223, 12415, 32767, 65535, 131071, 262143, 524287, 1048575, 2097151, 2097151, 6291455, 16777215, 33554431, 67108863, 2097151, 2097151, 404750335, 941621247, 2015363071, 4294967295, 8589934591, 17179869183, 34359738367, 68719476735, 68719476735, 274877906943, 549755813887, 1099511627775, 2199023255551, 4398046511103, 8796093022207, 17592186044415, 35184372088831, 35184372088831, 140737488355327, 281474976710655, 562949953421311, 1125899906842623, 35184372088831, 2286984185774079, 9007199254740991, 18014398509481983] fmix ?_
   refine Qv [] Vm (Qv [] Vm (Qv [6] (Vi sl88 0) (Qv [0] (Vfa fo144_0 0) (Qv [0] (VldF sh3 0) (Qb h25 [] Vlss (Qv [] Vm (Qv [] Vm (Qv [] Vm (Qv [6] (Vi sl88 0) ?_)))))))))
   refine Qv [0] (Vfa fo144_0 0) (Qv [0] (VldF sh3 0) (Qv [2] (Vfa fo32_3 0) (Qv [2] (VldF sh24 0) (Qv [] (Vlen sl24) (Qb h29 [] Vgeq (Qv [] Vpf (Qv [] Vm (Qs (Qs ?_)))))))))
   refine Qs (Qs (Qs (Qs (Qs (Qs (Qs (Qs (Qs (Qs ?_)))))))))
   refine Qs (Qs (Qs (Qs (Qv [] Vpt (Qv [] Vm (Qs (Qs (Qs (Qs ?_)))))))))
   refine Qs (Qs (Qs (Qv [] Vpt (Qv [] Vm (Qs (Qs (Qs (Qs (Qs ?_)))))))))
   refine Qs (Qs (Qs (Qs (Qv [] Vpt ?_))))
   refine Qn ⟨by kernel_rfl, ?_⟩
   refine Kt (KS ?_)
   refine Oq Va (KS ?_)
   have hR31 := q2 hM8 (.ret false) (by simp only [r14_ValidKnown_L0, h17, h25, h29, cs4])
   have hq := q4 hrr false (by simp only [r14_ValidKnown, h17, h25, h29, hR31, cs4]); subst hq
   exact Kr () rfl (.tmp rfl .nil) [] trivial
  intro h29
  have g32 := df h29
  refine bool_split (decide (0 < i_7)) ?_ ?_
  ·intro h33
   have g34 := dt h33
   refine JJ_peek_GKnown ((i_7 - 1) : Int).toNat 6 rfl rng fun a35 k36 hb37 hb38 => ?_
   unfold i64ok at hb37 hb38
   refine Fb 8 1 fun _ => ?_
   refine JK_drawK [0, 0, 3, 7, 15, 31, 63, 127, 127, 511, 1023, 2047, 127, 4223, 12415, 32767, 65535, 131071, 262143, 524287, 1048575, 2097151, 2097151, 6291455, 16777215, 33554431, 67108863, 2097151, 2097151, 404750335, 941621247, 2015363071, 4294967295, 8589934591, 17179869183, 34359738367, 68719476735, 68719476735, 274877906943, 549755813887, 1099511627775, 2199023255551, 4398046511103, 8796093022207, 17592186044415, 35184372088831, 35184372088831, 140737488355327, 281474976710655, 562949953421311, 1125899906842623, 35184372088831, 2286984185774079, 9007199254740991, 18014398509481983] fmix ?_
   refine Dv [] Vm (Dv [] Vm (Dv [8] (Vi sl88 0) (Dv [2] (Vfa fo144_0 0) (Dv [2] (VldF sh3 0) (Db h25 [] Vlss (Dv [] Vm (Dv [] Vm (Dv [] Vm (Dv [8] (Vi sl88 0) ?_)))))))))
   refine Dv [2] (Vfa fo144_0 0) (Dv [2] (VldF sh3 0) (Dv [4] (Vfa fo32_3 0) (Dv [4] (VldF sh24 0) (Dv [] (Vlen sl24) (Db h29 [] Vgeq (Dv [] Vpf (Dv [] Vm (Dv [] Vm (Db h33 [] Vgtr ?_)))))))))
   refine Dv [] Vm (Dv [] Vm (Dv [] Vm (Dv [] Vsub (Dv [8] (Vi sl88 0) (Dv [0] (Vfa fo144_0 0) (Dv [0] (VldF sh3 0) (Dv [] Vm (Dv [] Vm (Dv [8] (Vi sl88 0) ?_)))))))))
   refine Dv [2] (Vfa fo144_0 0) (Dv [2] (VldF sh3 0) (Dv [] Vgeq (Dv [] Vpt (Dv [] Vpf ?_))))
   refine bool_split (decide ((k.getD i_7.toNat default).Node ≤ (k.getD ((i_7 - 1) : Int).toNat default).Node)) ?_ ?_
   ·intro h40
    have g41 := dt h40
    refine Db h40 [] Vm (Ds (Ds (Ds (Ds (Ds (Ds (Ds (Dv [] Vpt (Dv [] Vm ?_)))))))))
    refine Ds (Ds (Ds (Ds (Ds (Ds (Ds (Ds (Ds (Dv [] Vpt ?_)))))))))
    refine Dn ⟨by kernel_rfl, fun G => ?_⟩
    refine Jw2 [(1, vl ka0 kk0 k), (2, p5), (5, vi i_7), (66, vb true)] [0, 1, 2, 3, 4, 5, 6, 7, 8] [] ?_
    refine Kt (KS ?_)
    refine Oq Va (KS ?_)
    have hR42 := q2 hM8 (.ret false) (by simp only [r14_ValidKnown_L0, h17, h25, h29, h33, h40, cs4])
    have hq := q4 hrr false (by simp only [r14_ValidKnown, h17, h25, h29, h33, h40, hR42, cs4]); subst hq
    exact Kr () rfl (.tmp rfl .nil) [] trivial
   intro h40
   have g43 := df h40
   refine Db h40 [] Vm (Dv [] Vm (Dv [] Vm (Dv [8] (Vi sl88 0) (Dv [2] (Vfa fo144_1 0) (Dv [2] (VldG sh39 0 [vi (((k.getD i_7.toNat default).Value).Width), vl a20 k21 (((k.getD i_7.toNat default).Value).Words)]) ?_)))))
   refine letv (r1_Valid ((k.getD i_7.toNat default).Value)) fun rv44 hg45 => ?_
   refine Dx [3] [] [1, 0] (fun G => vb rv44) [fun G => SP.fact (True)] (fun G => xC [0] ca59 (fn59 (((k.getD i_7.toNat default).Value)) a20 k21 pre rv44 hg45)) (Dv [] Vnot (Dv [] Vpf ?_))
   refine bool_split (!rv44) ?_ ?_
   ·intro h46
    have h48 := not_true h46
    refine Db h46 [] Vm (Ds (Ds (Ds (Ds (Ds (Ds (Ds (Ds (Ds ?_)))))))))
    refine Dv [] Vpt ?_
    refine Dn ⟨by kernel_rfl, fun G => ?_⟩
    refine Jw2 [(1, vl ka0 kk0 k), (2, p5), (5, vi i_7), (66, vb true)] [0, 1, 2, 3, 4, 5, 6, 7, 8] [SP.fact (True)] ?_
    refine Jk [0, 1, 2, 3, 4, 5, 6, 7, 8] (Kt ?_)
    refine KS ?_
    refine Oq Va (KS ?_)
    have hR50 := q2 hM8 (.ret false) (by simp only [r14_ValidKnown_L0, h17, h25, h29, h33, h40, h46, h48, hg45, cs4])
    have hq := q4 hrr false (by simp only [r14_ValidKnown, h17, h25, h29, h33, h40, h46, h48, hg45, hR50, cs4]); subst hq
    exact Kr () rfl (.tmp rfl .nil) [] trivial
   intro h46
   have h52 := not_false h46
   refine Db h46 [] Vm (Dv [] Vm (Dv [] Vm (Dv [8] (Vi sl88 0) (Dv [2] (Vfa fo144_1 0) (Dv [2] (VfaF fo39_0 0) (Dv [2] (VldF sh3 0) (Dv [4] (Vfa fo32_0 0) (Dv [4] (VldF sh3 0) (Dv [] Vneq ?_)))))))))
   refine Dv [] Vpf ?_
   refine Dn ⟨by kernel_rfl, fun G => ?_⟩
   refine Jw2 [(1, vl ka0 kk0 k), (2, p5), (5, vi i_7), (66, vb (((k.getD i_7.toNat default).Value).Width != s.Width))] [0, 1, 2, 3, 4, 5, 6, 7, 8] [SP.fact (True)] ?_
   refine Jk [0, 1, 2, 3, 4, 5, 6, 7, 8] ?_
   refine Kc ?_ ?_
   ·intro h54
    have g55 := ne_of_bne h54
    refine KS ?_
    refine Oq Va (KS ?_)
    have hR56 := q2 hM8 (.ret false) (by simp only [r14_ValidKnown_L0, h17, h25, h29, h33, h40, h46, h52, h54, hg45, cs4])
    have hq := q4 hrr false (by simp only [r14_ValidKnown, h17, h25, h29, h33, h40, h46, h52, h54, hg45, hR56, cs4]); subst hq
    exact Kr () rfl (.tmp rfl .nil) [] trivial
   intro h54
   have g57 := eq_of_bne_false h54
   refine KS ?_
   refine Oq Vm (Oq Vadd (Oq Va (KS ?_)))
   exact Kg (r19, (i_7 + 1)) [4, 5, 6, 7, 8] ⟨(q3 hM8 (by simp only [r14_ValidKnown_L0, h17, h25, h29, h33, h40, h46, h52, h54, hg45, cs4])), aM1, aM1, aM1, aM1⟩
  intro h33
  have g58 := df h33
  refine JK_drawK [0, 0, 3, 7, 15, 31, 63, 127, 127, 511, 1023, 2047, 127, 4223, 12415, 32767, 65535, 131071, 262143, 524287, 1048575, 2097151, 2097151, 6291455, 16777215, 33554431, 67108863, 2097151, 2097151, 404750335, 941621247, 2015363071, 4294967295, 8589934591, 17179869183, 34359738367, 68719476735, 68719476735, 274877906943, 549755813887, 1099511627775, 2199023255551, 4398046511103, 8796093022207, 17592186044415, 35184372088831, 35184372088831, 140737488355327, 281474976710655, 562949953421311, 1125899906842623, 35184372088831, 2286984185774079, 9007199254740991, 18014398509481983] fmix ?_
  refine Dv [] Vm (Dv [] Vm (Dv [6] (Vi sl88 0) (Dv [0] (Vfa fo144_0 0) (Dv [0] (VldF sh3 0) (Db h25 [] Vlss (Dv [] Vm (Dv [] Vm (Dv [] Vm (Dv [6] (Vi sl88 0) ?_)))))))))
  refine Dv [0] (Vfa fo144_0 0) (Dv [0] (VldF sh3 0) (Dv [2] (Vfa fo32_3 0) (Dv [2] (VldF sh24 0) (Dv [] (Vlen sl24) (Db h29 [] Vgeq (Dv [] Vpf (Dv [] Vm (Dv [] Vm (Db h33 [] Vgtr ?_)))))))))
  refine Dv [] Vm (Ds (Ds (Ds (Ds (Ds (Ds (Ds (Ds (Ds ?_)))))))))
  refine Ds (Ds (Ds (Dv [] Vpf (Dv [] Vpf (Dv [] Vm (Dv [] Vm (Dv [] Vm (Dv [6] (Vi sl88 0) (Dv [0] (Vfa fo144_1 0) ?_)))))))))
  refine Dv [0] (VldG sh39 0 [vi (((k.getD i_7.toNat default).Value).Width), vl a20 k21 (((k.getD i_7.toNat default).Value).Words)]) ?_
  refine letv (r1_Valid ((k.getD i_7.toNat default).Value)) fun rv59 hg60 => ?_
  refine Dx [1] [] [1, 0] (fun G => vb rv59) [fun G => SP.fact (True)] (fun G => xC [0] ca59 (fn59 (((k.getD i_7.toNat default).Value)) a20 k21 pre rv59 hg60)) (Dv [] Vnot (Dv [] Vpf ?_))
  refine bool_split (!rv59) ?_ ?_
  ·intro h61
   have h63 := not_true h61
   refine Db h61 [] Vm (Ds (Ds (Ds (Ds (Ds (Ds (Ds (Ds (Ds ?_)))))))))
   refine Dv [] Vpt ?_
   refine Dn ⟨by kernel_rfl, fun G => ?_⟩
   refine Jw2 [(1, vl ka0 kk0 k), (2, p5), (5, vi i_7), (66, vb true)] [0, 1, 2, 3, 4, 5, 6] [SP.fact (True)] ?_
   refine Jk [0, 1, 2, 3, 4, 5, 6] (Kt ?_)
   refine KS ?_
   refine Oq Va (KS ?_)
   have hR65 := q2 hM8 (.ret false) (by simp only [r14_ValidKnown_L0, h17, h25, h29, h33, h61, h63, hg60, cs4])
   have hq := q4 hrr false (by simp only [r14_ValidKnown, h17, h25, h29, h33, h61, h63, hg60, hR65, cs4]); subst hq
   exact Kr () rfl (.tmp rfl .nil) [] trivial
  intro h61
  have h67 := not_false h61
  refine Db h61 [] Vm (Dv [] Vm (Dv [] Vm (Dv [6] (Vi sl88 0) (Dv [0] (Vfa fo144_1 0) (Dv [0] (VfaF fo39_0 0) (Dv [0] (VldF sh3 0) (Dv [2] (Vfa fo32_0 0) (Dv [2] (VldF sh3 0) (Dv [] Vneq ?_)))))))))
  refine Dv [] Vpf ?_
  refine Dn ⟨by kernel_rfl, fun G => ?_⟩
  refine Jw2 [(1, vl ka0 kk0 k), (2, p5), (5, vi i_7), (66, vb (((k.getD i_7.toNat default).Value).Width != s.Width))] [0, 1, 2, 3, 4, 5, 6] [SP.fact (True)] ?_
  refine Jk [0, 1, 2, 3, 4, 5, 6] ?_
  refine Kc ?_ ?_
  ·intro h69
   have g70 := ne_of_bne h69
   refine KS ?_
   refine Oq Va (KS ?_)
   have hR71 := q2 hM8 (.ret false) (by simp only [r14_ValidKnown_L0, h17, h25, h29, h33, h61, h67, h69, hg60, cs4])
   have hq := q4 hrr false (by simp only [r14_ValidKnown, h17, h25, h29, h33, h61, h67, h69, hg60, hR71, cs4]); subst hq
   exact Kr () rfl (.tmp rfl .nil) [] trivial
  intro h69
  have g72 := eq_of_bne_false h69
  refine KS ?_
  refine Oq Vm (Oq Vadd (Oq Va (KS ?_)))
  exact Kg (r19, (i_7 + 1)) [2, 3, 4, 5, 6] ⟨(q3 hM8 (by simp only [r14_ValidKnown_L0, h17, h25, h29, h33, h61, h67, h69, hg60, cs4])), aM1, aM1, aM1, aM1⟩
 intro h17
 have g73 := df h17
 obtain rfl : r6 = 0 := by omega
 refine Ke ?_
 have hR74 := q2 hM8 (.brk ()) (by simp only [r14_ValidKnown_L0, h17, cs4])
 refine KS ?_
 refine Oq Va (KS ?_)
 have hq := q4 hrr true (by simp only [r14_ValidKnown, h17, hR74, cs4]); subst hq
 exact Kr () rfl (.tmp rfl .nil) [] trivial
theorem fn90 (s : GSystem) (sa1 : Option Addr) (sk1 : Nat) (sa2 : Option Addr) (sk2 : Nat) (sa3 : Option Addr) (sk3 : Nat) (l : List Int) (la0 : Option Addr) (lk0 : Nat) (hs_0 : i64ok s.Width) (rr : Bool) (hrr : r14_inside s l = rr) : FT Tryz.prog 90 #[.agg #[vi s.Width, vl sa1 sk1 s.Deps, vl sa2 sk2 s.Transfers, vl sa3 sk3 s.Boundary], vl la0 lk0 l] [S sa1 sk1 s.Deps, S sa2 sk2 s.Transfers, S sa3 sk3 s.Boundary, S la0 lk0 l] (fun g : Unit => True) (fun g => vb rr) (fun g => []) := by
 refine FTi Tryz.func90 fun w0 M0 F0 => ?_
 unfold i64ok at hs_0
 refine Fb 24 0 fun _ => Fb 88 1 fun _ => Fb 32 2 fun _ => Fb 8 3 fun _ => Fo 3 fun ho5 => KS ?_
 refine Oa (Ab [vi s.Width, vl sa1 sk1 s.Deps, vl sa2 sk2 s.Transfers, vl sa3 sk3 s.Boundary]) fun p6 => Oq Va (KS ?_)
 refine Oq Va (KS ?_)
 refine Kl (γ := Nat × Int) (fun (r7, i_8) => ⟨[(1, vl la0 lk0 l), (2, p6), (5, vi i_8)], [pv p6 [vi s.Width, vl sa1 sk1 s.Deps, vl sa2 sk2 s.Transfers, vl sa3 sk3 s.Boundary], S sa1 sk1 s.Deps, S sa2 sk2 s.Transfers, S sa3 sk3 s.Boundary, S la0 lk0 l], r14_inside_L0 s l r7 i_8 = r14_inside_L0 s l (((l.length : Int) - 0).toNat) 0 ∧ r7 = ((l.length : Int) - i_8).toNat ∧ (0 : Int) ≤ i_8 ∧ i_8 ≤ (l.length : Int) ∧ (-9223372036854775808 ≤ i_8 ∧ i_8 ≤ 9223372036854775807), r7⟩) (((l.length : Int) - 0).toNat, 0) [0, 1, 2, 3, 4] ⟨rfl, rfl, aM1, aM1, aM1⟩ ?_
 rintro ⟨r7, i_8⟩ ⟨hM9, hr10, hi11, hi12, hk13⟩
 refine JJ_nx fun _ _ hL hA => ?_; dsimp only at hL hA; subst hL hA
 refine Fb 24 1 fun _ => Fb 88 2 fun _ => Fb 32 3 fun _ => Fb 8 4 fun _ => Fo 4 fun ho18 => KS ?_
 refine Oq Vm (Oq Vm (Oq (Vlen sl22) (Oq Vlss (KS ?_))))
 refine Kc ?_ ?_
 ·intro h19
  have g20 := dt h19
  obtain ⟨r21, rfl⟩ := scc (n := r7) aM1
  refine KS ?_
  refine Kq [0, 0, 3, 7, 15, 31, 63, 63, 255, 511, 63, 1087, 3135, 8191, 16383] fmix ?_
  refine Qv [] Vm (Qv [] Vm (Qv [4] (Vi sl22 0) ?_))
  have hb22 := ok1 (i := i_8.toNat) ho18 rng
  refine Qv [4] (VldI sh3 0) (Qv [] Vlss ?_)
  refine bool_split (decide ((l.getD i_8.toNat 0) < 0)) ?_ ?_
  ·intro h23
   have g24 := dt h23
   refine Qb h23 [] Vm (Qs (Qs (Qs (Qs (Qs (Qs (Qs (Qs (Qv [] Vpt ?_)))))))))
   refine Qn ⟨by kernel_rfl, ?_⟩
   refine Kt (KS ?_)
   refine Oq Va (KS ?_)
   have hR25 := q2 hM9 (.ret false) (by simp only [r14_inside_L0, h19, h23, cs4])
   have hq := q4 hrr false (by simp only [r14_inside, h19, h23, hR25, cs4]); subst hq
   exact Kr () rfl (.tmp rfl .nil) [] trivial
  intro h23
  have g26 := df h23
  refine Qb h23 [] Vm (Qv [] Vm (Qv [] Vm (Qv [4] (Vi sl22 0) ?_)))
  have hb27 := ok1 (i := i_8.toNat) ho18 rng
  refine Qv [4] (VldI sh3 0) (Qv [0] (Vfa fo32_3 0) (Qv [0] (VldF sh24 0) (Qv [] (Vlen sl24) (Qv [] Vgeq (Qv [] Vpf ?_)))))
  refine Qn ⟨by kernel_rfl, ?_⟩
  refine Kc ?_ ?_
  ·intro h28
   have g29 := dt h28
   refine KS ?_
   refine Oq Va (KS ?_)
   have hR30 := q2 hM9 (.ret false) (by simp only [r14_inside_L0, h19, h23, h28, cs4])
   have hq := q4 hrr false (by simp only [r14_inside, h19, h23, h28, hR30, cs4]); subst hq
   exact Kr () rfl (.tmp rfl .nil) [] trivial
  intro h28
  have g31 := df h28
  refine KS ?_
  refine Oq Vm (Oq Vadd (Oq Va (KS ?_)))
  exact Kg (r21, (i_8 + 1)) [0, 1, 2, 3, 4] ⟨(q3 hM9 (by simp only [r14_inside_L0, h19, h23, h28, cs4])), aM1, aM1, aM1, aM1⟩
 intro h19
 have g32 := df h19
 obtain rfl : r7 = 0 := by omega
 refine Ke ?_
 have hR33 := q2 hM9 (.brk ()) (by simp only [r14_inside_L0, h19, cs4])
 refine KS ?_
 refine Oq Va (KS ?_)
 have hq := q4 hrr true (by simp only [r14_inside, h19, hR33, cs4]); subst hq
 exact Kr () rfl (.tmp rfl .nil) [] trivial
theorem fn132 (l : List Int) (la0 : Option Addr) (lk0 : Nat) (n : Int) (hn_0 : i64ok n) (rr : Int) (hrr : r14_place l n = rr) : FT Tryz.prog 132 #[vl la0 lk0 l, vi n] [S la0 lk0 l] (fun g : Unit => i64ok rr) (fun g => vi rr) (fun g => []) := by
 refine FTi Tryz.func132 fun w0 M0 F0 => ?_
 unfold i64ok at hn_0
 refine Fb 8 0 fun _ => Fo 0 fun ho2 => KS ?_
 refine Oq Va (KS ?_)
 refine Oq Va (KS ?_)
 refine Kl (γ := Nat × Int) (fun (r3, i_4) => ⟨[(0, vl la0 lk0 l), (1, vi n), (5, vi i_4)], [S la0 lk0 l], r14_place_L0 l n r3 i_4 = r14_place_L0 l n (((l.length : Int) - 0).toNat) 0 ∧ r3 = ((l.length : Int) - i_4).toNat ∧ (0 : Int) ≤ i_4 ∧ i_4 ≤ (l.length : Int) ∧ (-9223372036854775808 ≤ i_4 ∧ i_4 ≤ 9223372036854775807), r3⟩) (((l.length : Int) - 0).toNat, 0) [0] ⟨rfl, rfl, aM1, aM1, aM1⟩ ?_
 rintro ⟨r3, i_4⟩ ⟨hM5, hr6, hi7, hi8, hk9⟩
 refine JJ_nx fun _ _ hL hA => ?_; dsimp only at hL hA; subst hL hA
 refine Fb 8 0 fun _ => Fo 0 fun ho11 => KS ?_
 refine Oq Vm (Oq Vm (Oq (Vlen sl22) (Oq Vlss (KS ?_))))
 refine Kc ?_ ?_
 ·intro h12
  have g13 := dt h12
  obtain ⟨r14, rfl⟩ := scc (n := r3) aM1
  refine KS ?_
  refine Oq Vm (Oq Vm (Oq (Vi sl22 0) ?_))
  have hb15 := ok1 (i := i_4.toNat) ho11 rng
  refine Oq (VldI sh3 0) (Oq Vm (Oq Veql (KS ?_)))
  refine Kc ?_ ?_
  ·intro h16
   have g17 := eq_of_beq h16
   refine KS ?_
   refine Oq Vm (Oq Va (KS ?_))
   have hR18 := q2 hM5 (.ret i_4) (by simp only [r14_place_L0, h12, h16, cs4])
   have hq := q4 hrr i_4 (by simp only [r14_place, h12, h16, hR18, cs4]); subst hq
   exact Kr () rfl (.tmp rfl .nil) [] en
  intro h16
  have g19 := ne_of_beq_false h16
  refine KS ?_
  refine Oq Vm (Oq Vadd (Oq Va (KS ?_)))
  exact Kg (r14, (i_4 + 1)) [0] ⟨(q3 hM5 (by simp only [r14_place_L0, h12, h16, cs4])), aM1, aM1, aM1, aM1⟩
 intro h12
 have g20 := df h12
 obtain rfl : r3 = 0 := by omega
 refine Ke ?_
 have hR21 := q2 hM5 (.brk ()) (by simp only [r14_place_L0, h12, cs4])
 refine KS ?_
 refine Oq Va (KS ?_)
 have hq := q4 hrr (-1) (by simp only [r14_place, h12, hR21, cs4]); subst hq
 exact Kr () rfl (.tmp rfl .nil) [] en
theorem fn91 (l : List Int) (la0 : Option Addr) (lk0 : Nat) (rr : Bool) (hrr : r14_repeated l = rr) : FT Tryz.prog 91 #[vl la0 lk0 l] [S la0 lk0 l] (fun g : Unit => True) (fun g => vb rr) (fun g => []) := by
 refine FTi Tryz.func91 fun w0 M0 F0 => Fb 8 0 fun _ => Fo 0 fun ho2 => ?_
 refine KS ?_
 refine Oq Va (KS ?_)
 refine Oq Va (KS ?_)
 refine Kl (γ := Nat × Int) (fun (r3, i_4) => ⟨[(0, vl la0 lk0 l), (3, vi i_4)], [S la0 lk0 l], r14_repeated_L0 l r3 i_4 = r14_repeated_L0 l (((l.length : Int) - 0).toNat) 0 ∧ r3 = ((l.length : Int) - i_4).toNat ∧ (0 : Int) ≤ i_4 ∧ i_4 ≤ (l.length : Int) ∧ (-9223372036854775808 ≤ i_4 ∧ i_4 ≤ 9223372036854775807), r3⟩) (((l.length : Int) - 0).toNat, 0) [0] ⟨rfl, rfl, aM1, aM1, aM1⟩ ?_
 rintro ⟨r3, i_4⟩ ⟨hM5, hr6, hi7, hi8, hk9⟩
 refine JJ_nx fun _ _ hL hA => ?_; dsimp only at hL hA; subst hL hA
 refine Fb 8 0 fun _ => Fo 0 fun ho11 => KS ?_
 refine Oq Vm (Oq Vm (Oq (Vlen sl22) (Oq Vlss (KS ?_))))
 refine Kc ?_ ?_
 ·intro h12
  have g13 := dt h12
  obtain ⟨r14, rfl⟩ := scc (n := r3) aM1
  refine KS ?_
  refine Oq Vm (Oq Vm (Oq Vm (Oq (Vi sl22 0) ?_)))
  have hb15 := ok1 (i := i_4.toNat) ho11 rng
  refine Oq (VldI sh3 0) ?_
  refine letv (r14_place l (l.getD i_4.toNat 0)) fun rv16 hg17 => ?_
  have hc18 := fn132 l la0 lk0 ((l.getD i_4.toNat 0)) pre rv16 hg17
  refine Oc [0] ca132 hc18 ?_
  rintro - he19
  unfold i64ok at he19
  refine Oq Vm (Oq Vneq (KS ?_))
  refine Kc ?_ ?_
  ·intro h20
   have g21 := ne_of_bne h20
   refine KS ?_
   refine Oq Va (KS ?_)
   have hR22 := q2 hM5 (.ret true) (by simp only [r14_repeated_L0, h12, h20, hg17, cs4])
   have hq := q4 hrr true (by simp only [r14_repeated, h12, h20, hg17, hR22, cs4]); subst hq
   exact Kr () rfl (.tmp rfl .nil) [] trivial
  intro h20
  have g23 := eq_of_bne_false h20
  refine KS ?_
  refine Oq Vm (Oq Vadd (Oq Va (KS ?_)))
  exact Kg (r14, (i_4 + 1)) [0] ⟨(q3 hM5 (by simp only [r14_repeated_L0, h12, h20, hg17, cs4])), aM1, aM1, aM1, aM1⟩
 intro h12
 have g24 := df h12
 obtain rfl : r3 = 0 := by omega
 refine Ke ?_
 have hR25 := q2 hM5 (.brk ()) (by simp only [r14_repeated_L0, h12, cs4])
 refine KS ?_
 refine Oq Va (KS ?_)
 have hq := q4 hrr false (by simp only [r14_repeated, h12, hR25, cs4]); subst hq
 exact Kr () rfl (.tmp rfl .nil) [] trivial
theorem fn133 (k : List GKnown) (ka0 : Option Addr) (kk0 : Nat) (n : Int) (hn_0 : i64ok n) (rr : Int) (hrr : r14_find k n = rr) : FT Tryz.prog 133 #[vl ka0 kk0 k, vi n] [S ka0 kk0 k] (fun g : Unit => i64ok rr ∧ (-1 ≤ rr ∧ rr < (k.length : Int))) (fun g => vi rr) (fun g => []) := by
 refine FTi Tryz.func133 fun w0 M0 F0 => ?_
 unfold i64ok at hn_0
 refine Fb 40 0 fun _ => KS ?_
 refine Oq Va (KS ?_)
 refine Oq Va (KS ?_)
 refine Kl (γ := Nat × Int) (fun (r2, i_3) => ⟨[(0, vl ka0 kk0 k), (1, vi n), (5, vi i_3)], [S ka0 kk0 k], r14_find_L0 k n r2 i_3 = r14_find_L0 k n (((k.length : Int) - 0).toNat) 0 ∧ r2 = ((k.length : Int) - i_3).toNat ∧ (0 : Int) ≤ i_3 ∧ i_3 ≤ (k.length : Int) ∧ (-9223372036854775808 ≤ i_3 ∧ i_3 ≤ 9223372036854775807), r2⟩) (((k.length : Int) - 0).toNat, 0) [0] ⟨rfl, rfl, aM1, aM1, aM1⟩ ?_
 rintro ⟨r2, i_3⟩ ⟨hM4, hr5, hi6, hi7, hk8⟩
 refine JJ_nx fun _ _ hL hA => ?_; dsimp only at hL hA; subst hL hA
 refine Fb 40 0 fun _ => KS ?_
 refine Oq Vm (Oq Vm (Oq (Vlen sl88) (Oq Vlss (KS ?_))))
 refine Kc ?_ ?_
 ·intro h10
  have g11 := dt h10
  obtain ⟨r12, rfl⟩ := scc (n := r2) aM1
  refine KS ?_
  refine Oq Vm (Oq Vm (Oq (Vi sl88 0) ?_))
  refine JJ_peek_GKnown i_3.toNat 0 rfl rng fun a13 k14 hb15 hb16 => ?_
  unfold i64ok at hb15 hb16
  refine Fb 8 1 fun _ => ?_
  refine Oq (Vfa fo144_0 0) (Oq (VldF sh3 0) (Oq Vm (Oq Veql (KS ?_))))
  refine Kc ?_ ?_
  ·intro h18
   have g19 := eq_of_beq h18
   refine KS ?_
   refine Oq Vm (Oq Va (KS ?_))
   have hR20 := q2 hM4 (.ret i_3) (by simp only [r14_find_L0, h10, h18, cs4])
   have hq := q4 hrr i_3 (by simp only [r14_find, h10, h18, hR20, cs4]); subst hq
   exact Kr () rfl (.tmp rfl .nil) [] en
  intro h18
  have g21 := ne_of_beq_false h18
  refine KS ?_
  refine Oq Vm (Oq Vadd (Oq Va (KS ?_)))
  exact Kg (r12, (i_3 + 1)) [2] ⟨(q3 hM4 (by simp only [r14_find_L0, h10, h18, cs4])), aM1, aM1, aM1, aM1⟩
 intro h10
 have g22 := df h10
 obtain rfl : r2 = 0 := by omega
 refine Ke ?_
 have hR23 := q2 hM4 (.brk ()) (by simp only [r14_find_L0, h10, cs4])
 refine KS ?_
 refine Oq Va (KS ?_)
 have hq := q4 hrr (-1) (by simp only [r14_find, h10, hR23, cs4]); subst hq
 exact Kr () rfl (.tmp rfl .nil) [] en
theorem fn99 (l : List Int) (la0 : Option Addr) (lk0 : Nat) (n : Int) (hn_0 : i64ok n) (rr : Bool) (hrr : r7_Has l n = rr) : FT Tryz.prog 99 #[vl la0 lk0 l, vi n] [S la0 lk0 l] (fun g : Unit => True) (fun g => vb rr) (fun g => []) := by
 refine FTi Tryz.func99 fun w0 M0 F0 => ?_
 unfold i64ok at hn_0
 refine Fb 8 0 fun _ => Fo 0 fun ho2 => KS ?_
 refine Oq Va (KS ?_)
 refine Oq Va (KS ?_)
 refine Kl (γ := Nat × Int) (fun (r3, i_4) => ⟨[(0, vl la0 lk0 l), (1, vi n), (5, vi i_4)], [S la0 lk0 l], r7_Has_L0 l n r3 i_4 = r7_Has_L0 l n (((l.length : Int) - 0).toNat) 0 ∧ r3 = ((l.length : Int) - i_4).toNat ∧ (0 : Int) ≤ i_4 ∧ i_4 ≤ (l.length : Int) ∧ (-9223372036854775808 ≤ i_4 ∧ i_4 ≤ 9223372036854775807), r3⟩) (((l.length : Int) - 0).toNat, 0) [0] ⟨rfl, rfl, aM1, aM1, aM1⟩ ?_
 rintro ⟨r3, i_4⟩ ⟨hM5, hr6, hi7, hi8, hk9⟩
 refine JJ_nx fun _ _ hL hA => ?_; dsimp only at hL hA; subst hL hA
 refine Fb 8 0 fun _ => Fo 0 fun ho11 => KS ?_
 refine Oq Vm (Oq Vm (Oq (Vlen sl22) (Oq Vlss (KS ?_))))
 refine Kc ?_ ?_
 ·intro h12
  have g13 := dt h12
  obtain ⟨r14, rfl⟩ := scc (n := r3) aM1
  refine KS ?_
  refine Oq Vm (Oq Vm (Oq (Vi sl22 0) ?_))
  have hb15 := ok1 (i := i_4.toNat) ho11 rng
  refine Oq (VldI sh3 0) (Oq Vm (Oq Veql (KS ?_)))
  refine Kc ?_ ?_
  ·intro h16
   have g17 := eq_of_beq h16
   refine KS ?_
   refine Oq Va (KS ?_)
   have hR18 := q2 hM5 (.ret true) (by simp only [r7_Has_L0, h12, h16, cs4])
   have hq := q4 hrr true (by simp only [r7_Has, h12, h16, hR18, cs4]); subst hq
   exact Kr () rfl (.tmp rfl .nil) [] trivial
  intro h16
  have g19 := ne_of_beq_false h16
  refine KS ?_
  refine Oq Vm (Oq Vadd (Oq Va (KS ?_)))
  exact Kg (r14, (i_4 + 1)) [0] ⟨(q3 hM5 (by simp only [r7_Has_L0, h12, h16, cs4])), aM1, aM1, aM1, aM1⟩
 intro h12
 have g20 := df h12
 obtain rfl : r3 = 0 := by omega
 refine Ke ?_
 have hR21 := q2 hM5 (.brk ()) (by simp only [r7_Has_L0, h12, cs4])
 refine KS ?_
 refine Oq Va (KS ?_)
 have hq := q4 hrr false (by simp only [r7_Has, h12, hR21, cs4]); subst hq
 exact Kr () rfl (.tmp rfl .nil) [] trivial
theorem fn134 (s : GSystem) (sa1 : Option Addr) (sk1 : Nat) (sa2 : Option Addr) (sk2 : Nat) (sa3 : Option Addr) (sk3 : Nat) (cone : List Int) (conea0 : Option Addr) (conek0 : Nat) (n : Int) (count : Int) (hs_0 : i64ok s.Width) (hn_0 : i64ok n) (hcount_0 : i64ok count) (hn : 0 ≤ n ∧ n < (s.Deps.length : Int)) (hc : count ≤ ((s.Deps.getD n.toNat []).length : Int)) (rr : Bool) (hrr : r14_expanded s cone n count = rr) : FT Tryz.prog 134 #[.agg #[vi s.Width, vl sa1 sk1 s.Deps, vl sa2 sk2 s.Transfers, vl sa3 sk3 s.Boundary], vl conea0 conek0 cone, vi n, vi count] [S sa1 sk1 s.Deps, S sa2 sk2 s.Transfers, S sa3 sk3 s.Boundary, S conea0 conek0 cone] (fun g : Unit => True) (fun g => vb rr) (fun g => []) := by
 refine FTi Tryz.func134 fun w0 M0 F0 => ?_
 unfold i64ok at hs_0 hn_0 hcount_0
 refine Fb 24 0 fun _ => Fb 88 1 fun _ => Fb 32 2 fun _ => Fb 8 3 fun _ => Fo 3 fun ho5 => KS ?_
 refine Oa (Ab [vi s.Width, vl sa1 sk1 s.Deps, vl sa2 sk2 s.Transfers, vl sa3 sk3 s.Boundary]) fun p6 => Oq Va (KS ?_)
 refine Oq Va (KS ?_)
 refine Kl (γ := Nat × Int) (fun (r7, k_8) => ⟨[(1, vl conea0 conek0 cone), (2, vi n), (3, vi count), (4, p6), (9, vi k_8)], [pv p6 [vi s.Width, vl sa1 sk1 s.Deps, vl sa2 sk2 s.Transfers, vl sa3 sk3 s.Boundary], S sa1 sk1 s.Deps, S sa2 sk2 s.Transfers, S sa3 sk3 s.Boundary, S conea0 conek0 cone], r14_expanded_L0 s cone n r7 k_8 = r14_expanded_L0 s cone n (((count : Int) - 0).toNat) 0 ∧ r7 = ((count : Int) - k_8).toNat ∧ (0 : Int) ≤ k_8 ∧ (k_8 ≤ count ∨ k_8 = 0) ∧ (-9223372036854775808 ≤ k_8 ∧ k_8 ≤ 9223372036854775807), r7⟩) (((count : Int) - 0).toNat, 0) [0, 1, 2, 3, 4] ⟨rfl, rfl, aM1, (.inr rfl), aM1⟩ ?_
 rintro ⟨r7, k_8⟩ ⟨hM9, hr10, hi11, hi12, hk13⟩
 refine JJ_nx fun _ _ hL hA => ?_; dsimp only at hL hA; subst hL hA
 refine Fb 24 1 fun _ => Fb 88 2 fun _ => Fb 32 3 fun _ => Fb 8 4 fun _ => Fo 4 fun ho18 => KS ?_
 refine Oq Vm (Oq Vm (Oq Vlss (KS ?_)))
 refine Kc ?_ ?_
 ·intro h19
  have g20 := dt h19
  obtain ⟨r21, rfl⟩ := scc (n := r7) aM1
  refine KS ?_
  refine Oq Vm (Oq (Vfa fo32_1 0) (Oq (VldF sh29 0) (Oq Vm (Oq (Vi sl29 1) ?_))))
  refine JJ_peekL n.toNat 1 rfl rng fun a22 k23 => ?_
  refine Fb 8 1 fun _ => Fo 1 fun ho25 => ?_
  refine Oq (Vld sh22 0) (Oq Vm (Oq (Vi sl22 1) ?_))
  have hb26 := ok1 (i := k_8.toNat) ho25 rng
  refine Oq (VldI sh3 1) ?_
  refine letv (r7_Has cone ((s.Deps.getD n.toNat []).getD k_8.toNat 0)) fun rv27 hg28 => ?_
  have hc29 := fn99 cone conea0 conek0 (((s.Deps.getD n.toNat []).getD k_8.toNat 0)) pre rv27 hg28
  refine Oc [6] ca99 hc29 ?_
  rintro - -
  refine Oq Vnot (KS ?_)
  refine Kc ?_ ?_
  ·intro h30
   have h32 := not_true h30
   refine KS ?_
   refine Oq Va (KS ?_)
   have hR34 := q2 hM9 (.ret false) (by simp only [r14_expanded_L0, h19, h30, h32, hg28, cs4])
   have hq := q4 hrr false (by simp only [r14_expanded, h19, h30, h32, hg28, hR34, cs4]); subst hq
   exact Kr () rfl (.tmp rfl .nil) [] trivial
  intro h30
  have h36 := not_false h30
  refine KS ?_
  refine Oq Vm (Oq Vadd (Oq Va (KS ?_)))
  exact Kg (r21, (k_8 + 1)) [2, 3, 4, 5, 6] ⟨(q3 hM9 (by simp only [r14_expanded_L0, h19, h30, h36, hg28, cs4])), aM1, aM1, aM1, aM1⟩
 intro h19
 have g38 := df h19
 obtain rfl : r7 = 0 := by omega
 refine Ke ?_
 have hR39 := q2 hM9 (.brk ()) (by simp only [r14_expanded_L0, h19, cs4])
 refine KS ?_
 refine Oq Va (KS ?_)
 have hq := q4 hrr true (by simp only [r14_expanded, h19, hR39, cs4]); subst hq
 exact Kr () rfl (.tmp rfl .nil) [] trivial
theorem fn92 (s : GSystem) (sa1 : Option Addr) (sk1 : Nat) (sa2 : Option Addr) (sk2 : Nat) (sa3 : Option Addr) (sk3 : Nat) (k : List GKnown) (ka0 : Option Addr) (kk0 : Nat) (st : GState) (sta1 : Option Addr) (stk1 : Nat) (sta2 : Option Addr) (stk2 : Nat) (sta5 : Option Addr) (stk5 : Nat) (sta6 : Option Addr) (stk6 : Nat) (hs_0 : i64ok s.Width) (hst_0 : i64ok st.Phase) (hst_3 : i64ok st.At) (hst_4 : i64ok st.Edge) (hst_7 : i64ok st.Steps) (hv : VSys s) (hlf : st.Leaf.length = st.Cone.length) (hcl : st.Cone.length ≤ 256) (hcr : ∀ x ∈ st.Cone, 0 ≤ x ∧ x < (s.Deps.length : Int)) (rr : Bool) (hrr : r14_validDemand s k st = rr) : FT Tryz.prog 92 #[.agg #[vi s.Width, vl sa1 sk1 s.Deps, vl sa2 sk2 s.Transfers, vl sa3 sk3 s.Boundary], vl ka0 kk0 k, .agg #[vi st.Phase, vl sta1 stk1 st.Cone, vl sta2 stk2 st.Leaf, vi st.At, vi st.Edge, vl sta5 stk5 st.Values, vl sta6 stk6 st.Queue, vi st.Steps]] [S sa1 sk1 s.Deps, S sa2 sk2 s.Transfers, S sa3 sk3 s.Boundary, S ka0 kk0 k, S sta1 stk1 st.Cone, S sta2 stk2 st.Leaf, S sta5 stk5 st.Values, S sta6 stk6 st.Queue] (fun g : Unit => True) (fun g => vb rr) (fun g => []) := by
 refine FTi Tryz.func92 fun w0 M0 F0 => ?_
 unfold i64ok at hs_0 hst_0 hst_3 hst_4 hst_7
 refine Fb 24 0 fun _ => Fb 88 1 fun _ => Fb 32 2 fun _ => Fb 40 3 fun _ => Fb 8 4 fun _ => Fo 4 fun ho6 => Fb 1 5 fun _ => Fb 32 6 fun _ => ?_
 refine Fb 8 7 fun _ => Fo 7 fun ho10 => ?_
 have hv1 := hv.n
 have hv2 := hv.tl
 have hv3 := hv.bl
 have hv4 := hv.w
 have hv5 := hv.dep_len
 refine KS ?_
 refine Oa (Ab [vi s.Width, vl sa1 sk1 s.Deps, vl sa2 sk2 s.Transfers, vl sa3 sk3 s.Boundary]) fun p11 => Oa (Ab [vi st.Phase, vl sta1 stk1 st.Cone, vl sta2 stk2 st.Leaf, vi st.At, vi st.Edge, vl sta5 stk5 st.Values, vl sta6 stk6 st.Queue, vi st.Steps]) fun p12 => Oq Va (KS ?_)
 refine Oq (Vfa fo26_3 0) (Oq (VldF sh3 0) (Oq Vlss (Oq Vm ?_)))
 refine Js 13 ?_ ?_
 ·intro h13
  have g14 := dt h13
  refine Osk (Osk (Osk (Osk (Osk (Osk (Oq Vpt (Oq Vm (Osk (Osk ?_)))))))))
  refine Osk (Osk (Oq Vpt (Oq Vm (Osk (Osk (Osk (Osk (Oq Vpt (KS ?_)))))))))
  refine Kt (KS ?_)
  refine Oq Va (KS ?_)
  have hq := q4 hrr false (by simp only [r14_validDemand, h13, cs4]); subst hq
  exact Kr () rfl (.tmp rfl .nil) [] trivial
 intro h13
 have g15 := df h13
 refine Oq (Vfa fo26_3 0) (Oq (VldF sh3 0) (Oq (Vfa fo26_1 0) (Oq (VldF sh22 0) (Oq (Vlen sl22) (Oq Vgeq (Oq Vpf (Oq Vm ?_)))))))
 refine Js 21 ?_ ?_
 ·intro h16
  have g17 := dt h16
  refine Osk (Osk (Osk (Osk (Oq Vpt (Oq Vm (Osk (Osk (Osk (Osk ?_)))))))))
  refine Oq Vpt (KS ?_)
  refine Kt (KS ?_)
  refine Oq Va (KS ?_)
  have hq := q4 hrr false (by simp only [r14_validDemand, h13, h16, cs4]); subst hq
  exact Kr () rfl (.tmp rfl .nil) [] trivial
 intro h16
 have g18 := df h16
 have hq := hcr _ (getD_mem (xs := st.Cone) (i := st.At.toNat) (d := 0) aM1)
 refine Oq (Vfa fo26_5 0) (Oq (VldF sh24 0) (Oq (Vlen sl24) (Oq Vgtr (Oq Vpf (Oq Vm ?_)))))
 refine Js 27 ?_ ?_
 ·intro h19
  have g20 := dt h19
  refine Osk (Osk (Osk (Osk (Oq Vpt (KS ?_)))))
  refine Kt (KS ?_)
  refine Oq Va (KS ?_)
  have hq := q4 hrr false (by simp only [r14_validDemand, h13, h16, h19, cs4]); subst hq
  exact Kr () rfl (.tmp rfl .nil) [] trivial
 intro h19
 have g21 := df h19
 refine Oq (Vfa fo26_6 0) (Oq (VldF sh22 0) (Oq (Vlen sl22) (Oq Vgtr (Oq Vpf (KS ?_)))))
 refine Kc ?_ ?_
 ·intro h22
  have g23 := dt h22
  refine KS ?_
  refine Oq Va (KS ?_)
  have hq := q4 hrr false (by simp only [r14_validDemand, h13, h16, h19, h22, cs4]); subst hq
  exact Kr () rfl (.tmp rfl .nil) [] trivial
 intro h22
 have g24 := df h22
 refine KS ?_
 refine Oq Va (KS ?_)
 refine Kl (γ := Nat × Int) (fun (r25, i_26) => ⟨[(1, vl ka0 kk0 k), (3, p11), (5, p12), (7, vi i_26)], [pv p12 [vi st.Phase, vl sta1 stk1 st.Cone, vl sta2 stk2 st.Leaf, vi st.At, vi st.Edge, vl sta5 stk5 st.Values, vl sta6 stk6 st.Queue, vi st.Steps], pv p11 [vi s.Width, vl sa1 sk1 s.Deps, vl sa2 sk2 s.Transfers, vl sa3 sk3 s.Boundary], S sa1 sk1 s.Deps, S sa2 sk2 s.Transfers, S sa3 sk3 s.Boundary, S ka0 kk0 k, S sta1 stk1 st.Cone, S sta2 stk2 st.Leaf, S sta5 stk5 st.Values, S sta6 stk6 st.Queue], r14_validDemand_L0 s k st r25 i_26 = r14_validDemand_L0 s k st (((st.Cone.length : Int) - 0).toNat) 0 ∧ r25 = ((st.Cone.length : Int) - i_26).toNat ∧ (0 : Int) ≤ i_26 ∧ i_26 ≤ (st.Cone.length : Int) ∧ (-9223372036854775808 ≤ i_26 ∧ i_26 ≤ 9223372036854775807), r25⟩) (((st.Cone.length : Int) - 0).toNat, 0) [0, 1, 2, 3, 4, 5, 6, 7, 8, 9] ⟨rfl, rfl, aM1, aM1, aM1⟩ ?_
 rintro ⟨r25, i_26⟩ ⟨hM27, hr28, hi29, hi30, hk31⟩
 refine JJ_nx fun _ _ hL hA => ?_; dsimp only at hL hA; subst hL hA
 refine Fb 24 2 fun _ => Fb 88 3 fun _ => Fb 32 4 fun _ => Fb 40 5 fun _ => Fb 8 6 fun _ => Fo 6 fun ho37 => Fb 1 7 fun _ => Fb 32 8 fun _ => ?_
 refine Fb 8 9 fun _ => Fo 9 fun ho41 => KS ?_
 refine Oq Vm (Oq (Vfa fo26_1 0) (Oq (VldF sh22 0) (Oq (Vlen sl22) (Oq Vlss (KS ?_)))))
 refine Kc ?_ ?_
 ·intro h42
  have g43 := dt h42
  have hq := hcr _ (getD_mem (xs := st.Cone) (i := i_26.toNat) (d := 0) aM1)
  obtain ⟨r44, rfl⟩ := scc (n := r25) aM1
  refine KS ?_
  refine Oq Vm (Oq (Vfa fo26_3 0) (Oq (VldF sh3 0) (Oq Vlss (Oq Vm ?_))))
  refine Js 44 ?_ ?_
  ·intro h45
   have g46 := dt h45
   refine Oq Vm (Oq (Vfa fo26_1 0) (Oq (VldF sh22 0) (Oq Vm (Oq (Vi sl22 6) ?_))))
   have hb47 := ok1 (i := i_26.toNat) ho37 rng
   refine Oq (VldI sh3 6) ?_
   refine letv (r14_find k (st.Cone.getD i_26.toNat 0)) fun rv48 hg49 => ?_
   have hc50 := fn133 k ka0 kk0 ((st.Cone.getD i_26.toNat 0)) pre rv48 hg49
   refine Oc [5] ca133 hc50 ?_
   rintro - ⟨he51, he52⟩
   unfold i64ok at he51
   refine Oq Vgeq (Oq Vpt (Oq Va (KS ?_)))
   refine bool_split (!((st.Leaf.getD i_26.toNat false) == (decide (0 ≤ rv48)))) ?_ ?_
   ·intro h53
    refine Kq [0, 1, 0, 7, 15, 0, 63, 127, 255, 255, 767, 2047, 4095, 8191, 16383, 32767, 65535, 131071, 131071, 393215, 131071, 1179647, 131071, 7471103, 15859711, 131071, 33685503, 131071, 134348799, 131071, 939655167, 2013396991, 4261543935, 8556511231, 17146445823, 34359738367, 68719476735, 137438953471, 274877906943] fmix ?_
    refine Qv [0] (Vfa fo26_2 0) (Qv [0] (VldF sh23 0) (Qv [] Vm (Qv [7] (Vi sl23 0) (Qv [7] (VldB sh4 0) (Qv [] Vm (Qb h53 [] (Vnb un4) (Qv [] Vm (Qs (Qs ?_)))))))))
    refine Qs (Qs (Qs (Qs (Qs (Qs (Qs (Qs (Qs (Qs ?_)))))))))
    refine Qs (Qs (Qs (Qs (Qs (Qs (Qs (Qs (Qs (Qs ?_)))))))))
    refine Qs (Qs (Qs (Qs (Qs (Qs (Qs (Qs (Qv [] Vpt ?_))))))))
    refine Qn ⟨by kernel_rfl, ?_⟩
    refine Kt (KS ?_)
    refine Oq Va (KS ?_)
    have hR55 := q2 hM27 (.ret false) (by simp only [r14_validDemand_L0, h42, h45, h53, hg49, cs4])
    have hq := q4 hrr false (by simp only [r14_validDemand, h13, h16, h19, h22, h42, h45, h53, hg49, hR55, cs4]); subst hq
    exact Kr () rfl (.tmp rfl .nil) [] trivial
   intro h53
   refine bool_split (decide (i_26 < st.At)) ?_ ?_
   ·intro h57
    have g58 := dt h57
    refine bool_split (!(decide (0 ≤ rv48))) ?_ ?_
    ·intro h59
     have h61 := not_true h59
     have h63 := h53; rw [h61] at h63
     have g62 := df h61
     refine JJ_peekL ((st.Cone.getD i_26.toNat 0) : Int).toNat 2 rfl rng fun a64 k65 => ?_
     refine Fb 8 1 fun _ => Fo 1 fun ho67 => ?_
     refine JK_drawK [0, 1, 0, 7, 15, 0, 63, 127, 255, 255, 767, 2047, 4095, 8191, 16383, 32767, 65535, 131071, 131071, 393215, 131071, 1179647, 131071, 7471103, 15859711, 131071, 33685503, 131071, 134348799, 131071, 939655167, 2013396991, 4261543935, 8556511231, 17146445823, 34359738367, 68719476735, 137438953471, 274877906943] fmix ?_
     refine Dv [2] (Vfa fo26_2 0) (Dv [2] (VldF sh23 0) (Dv [] Vm (Dv [9] (Vi sl23 0) (Dv [9] (VldB sh4 0) (Dv [] Vm (Db h53 [] (Vnb un4) (Dv [] Vm (Dv [] Vm (Dv [2] (Vfa fo26_3 0) ?_)))))))))
     refine Dv [2] (VldF sh3 0) (Db h57 [] Vlss (Dv [] Vm (Dv [] Vm (Db h59 [] Vnot (Dv [] Vpt (Dv [] Vm (Dv [3] (VldA sh32 0) (Dv [2] (Vfa fo26_1 0) (Dv [2] (VldF sh22 0) ?_)))))))))
     refine Dv [2] (Vfa fo26_1 0) (Dv [2] (VldF sh22 0) (Dv [] Vm (Dv [8] (Vi sl22 0) ?_)))
     have hb68 := ok1 (i := i_26.toNat) ho37 rng
     refine Dv [8] (VldI sh3 0) (Dv [3] (Vfa fo32_1 0) (Dv [3] (VldF sh29 0) (Dv [2] (Vfa fo26_1 0) (Dv [2] (VldF sh22 0) (Dv [] Vm (Dv [8] (Vi sl22 0) ?_))))))
     have hb69 := ok1 (i := i_26.toNat) ho37 rng
     refine Dv [8] (VldI sh3 0) (Dv [4] (Vi sl29 0) (Dv [0] (Vld sh22 0) (Dv [] (Vlen sl22) ?_)))
     refine letv (r14_expanded s st.Cone (st.Cone.getD i_26.toNat 0) ((s.Deps.getD ((st.Cone.getD i_26.toNat 0) : Int).toNat []).length : Int)) fun rv70 hg71 => ?_
     refine Dx [4, 5, 6, 8] [] [1, 2, 3, 4, 0] (fun G => vb rv70) [fun G => SP.fact (True)] (fun G => xC [0, 1, 2, 3] ca134 (fn134 s sa1 sk1 sa2 sk2 sa3 sk3 st.Cone sta1 stk1 ((st.Cone.getD i_26.toNat 0)) (((s.Deps.getD ((st.Cone.getD i_26.toNat 0) : Int).toNat []).length : Int)) pre pre pre pre pre rv70 hg71)) (Dv [] Vnot (Dv [] Vpt (Dv [] Vpf ?_)))
     refine Dn ⟨by kernel_rfl, fun G => ?_⟩
     refine Jw2 [(1, vl ka0 kk0 k), (3, p11), (5, p12), (7, vi i_26), (92, vb (!rv70))] [0, 1, 2, 3, 4, 5, 6, 7, 8, 9, 10, 11] [SP.fact (True)] ?_
     refine Jk [0, 1, 2, 3, 4, 5, 6, 7, 8, 9, 10, 11] ?_
     refine Kc ?_ ?_
     ·intro h72
      have h74 := not_true h72
      refine KS ?_
      refine Oq Va (KS ?_)
      have hR76 := q2 hM27 (.ret false) (by simp only [r14_validDemand_L0, h42, h45, h53, h57, h59, h61, h72, h74, hg49, h63, hg71, cs4])
      have hq := q4 hrr false (by simp only [r14_validDemand, h13, h16, h19, h22, h42, h45, h53, h57, h59, h61, h72, h74, hg49, h63, hg71, hR76, cs4]); subst hq
      exact Kr () rfl (.tmp rfl .nil) [] trivial
     intro h72
     have h78 := not_false h72
     refine KS ?_
     refine Oq Vm (Oq Vadd (Oq Va (KS ?_)))
     exact Kg (r44, (i_26 + 1)) [2, 3, 4, 5, 6, 7, 8, 9, 10, 11] ⟨(q3 hM27 (by simp only [r14_validDemand_L0, h42, h45, h53, h57, h59, h61, h72, h78, hg49, h63, hg71, cs4])), aM1, aM1, aM1, aM1⟩
    intro h59
    have h81 := not_false h59
    have h83 := h53; rw [h81] at h83
    have g82 := dt h81
    refine Kq [0, 1, 0, 7, 15, 0, 63, 127, 255, 255, 767, 2047, 4095, 8191, 16383, 32767, 65535, 131071, 131071, 393215, 131071, 1179647, 131071, 7471103, 15859711, 131071, 33685503, 131071, 134348799, 131071, 939655167, 2013396991, 4261543935, 8556511231, 17146445823, 34359738367, 68719476735, 137438953471, 274877906943] fmix ?_
    refine Qv [0] (Vfa fo26_2 0) (Qv [0] (VldF sh23 0) (Qv [] Vm (Qv [7] (Vi sl23 0) (Qv [7] (VldB sh4 0) (Qv [] Vm (Qb h53 [] (Vnb un4) (Qv [] Vm (Qv [] Vm (Qv [0] (Vfa fo26_3 0) ?_)))))))))
    refine Qv [0] (VldF sh3 0) (Qb h57 [] Vlss (Qv [] Vm (Qv [] Vm (Qb h59 [] Vnot (Qv [] Vpt (Qv [] Vm (Qs (Qs (Qs ?_)))))))))
    refine Qs (Qs (Qs (Qs (Qs (Qs (Qs (Qs (Qs (Qs ?_)))))))))
    refine Qs (Qs (Qs (Qs (Qs (Qs (Qs (Qv [] Vpf (Qv [] Vpf ?_))))))))
    refine Qn ⟨by kernel_rfl, ?_⟩
    refine Kf (KS ?_)
    refine Oq Vm (Oq Vadd (Oq Va (KS ?_)))
    exact Kg (r44, (i_26 + 1)) [0, 1, 2, 3, 4, 5, 6, 7, 8, 9] ⟨(q3 hM27 (by simp only [r14_validDemand_L0, h42, h45, h53, h57, h59, h81, hg49, h83, cs4])), aM1, aM1, aM1, aM1⟩
   intro h57
   exact absurd h57 (by first | (simp [h45]; done) | (simp only [bne, h45]; decide) | (simp only [bne, h45, Bool.not_true, Bool.not_false]; decide) | (exfalso; omega) | (intro hq; simp only [bne, hq, Bool.not_false, Bool.not_true, reduceCtorEq] at h45))
  intro h45
  have g84 := df h45
  refine Osk (Osk (Osk (Osk (Osk (Osk (Osk (Osk (Oq Vpf (Oq Va ?_)))))))))
  refine KS ?_
  refine Kq [0, 1, 0, 7, 15, 0, 63, 127, 255, 255, 767, 2047, 4095, 8191, 16383, 32767, 65535, 131071, 131071, 393215, 131071, 1179647, 131071, 7471103, 15859711, 131071, 33685503, 131071, 134348799, 131071, 939655167, 2013396991, 4261543935, 8556511231, 17146445823, 34359738367, 68719476735, 137438953471, 274877906943] fmix ?_
  refine Qv [0] (Vfa fo26_2 0) (Qv [0] (VldF sh23 0) (Qv [] Vm (Qv [7] (Vi sl23 0) (Qv [7] (VldB sh4 0) (Qv [] Vm (Qv [] (Vnb un4) ?_))))))
  refine bool_split (!((st.Leaf.getD i_26.toNat false) == false)) ?_ ?_
  ·intro h85
   refine Qb h85 [] Vm (Qs (Qs (Qs (Qs (Qs (Qs (Qs (Qs (Qs ?_)))))))))
   refine Qs (Qs (Qs (Qs (Qs (Qs (Qs (Qs (Qs (Qs ?_)))))))))
   refine Qs (Qs (Qs (Qs (Qs (Qs (Qs (Qs (Qs (Qs ?_)))))))))
   refine Qs (Qv [] Vpt ?_)
   refine Qn ⟨by kernel_rfl, ?_⟩
   refine Kt (KS ?_)
   refine Oq Va (KS ?_)
   have hR87 := q2 hM27 (.ret false) (by simp only [r14_validDemand_L0, h42, h45, h85, cs4])
   have hq := q4 hrr false (by simp only [r14_validDemand, h13, h16, h19, h22, h42, h45, h85, hR87, cs4]); subst hq
   exact Kr () rfl (.tmp rfl .nil) [] trivial
  intro h85
  refine Qb h85 [] Vm (Qv [] Vm (Qv [0] (Vfa fo26_3 0) (Qv [0] (VldF sh3 0) (Qv [] Vlss ?_))))
  refine bool_split (decide (i_26 < st.At)) ?_ ?_
  ·intro h89
   exact absurd h89 (by first | (simp [h45]; done) | (simp only [bne, h45]; decide) | (simp only [bne, h45, Bool.not_true, Bool.not_false]; decide) | (exfalso; omega) | (intro hq; simp only [bne, hq, Bool.not_false, Bool.not_true, reduceCtorEq] at h45))
  intro h89
  have g90 := df h89
  refine Qb h89 [] Vm (Qs (Qs (Qv [] Vpf (Qv [] Vm (Qs (Qs (Qs (Qs (Qs ?_)))))))))
  refine Qs (Qs (Qs (Qs (Qs (Qs (Qs (Qs (Qs (Qs ?_)))))))))
  refine Qs (Qs (Qs (Qs (Qs (Qv [] Vpf (Qv [] Vpf ?_))))))
  refine Qn ⟨by kernel_rfl, ?_⟩
  refine Kf (KS ?_)
  refine Oq Vm (Oq Vadd (Oq Va (KS ?_)))
  exact Kg (r44, (i_26 + 1)) [0, 1, 2, 3, 4, 5, 6, 7, 8, 9] ⟨(q3 hM27 (by simp only [r14_validDemand_L0, h42, h45, h85, h89, cs4])), aM1, aM1, aM1, aM1⟩
 intro h42
 have g91 := df h42
 obtain rfl : r25 = 0 := by omega
 refine Ke ?_
 have hR92 := q2 hM27 (.brk ()) (by simp only [r14_validDemand_L0, h42, cs4])
 refine KS ?_
 refine Oq (Vfa fo26_1 0) (Oq (VldF sh22 0) (Oq (Vfa fo26_3 0) (Oq (VldF sh3 0) (Oq (Vi sl22 6) ?_))))
 have hb93 := ok1 (i := st.At.toNat) ho37 rng
 refine Oq (VldI sh3 6) (Oq Va (KS ?_))
 refine bool_split (decide (0 ≤ st.Edge)) ?_ ?_
 ·intro h94
  have g95 := dt h94
  refine JJ_peekL ((st.Cone.getD st.At.toNat 0) : Int).toNat 2 rfl rng fun a96 k97 => ?_
  refine Fb 8 1 fun _ => Fo 1 fun ho99 => ?_
  refine JK_drawK [0, 1, 3, 7, 15, 31, 15, 79, 15, 463, 975, 1999, 4095, 8191, 16383, 32767, 65535, 131071, 262143, 524287, 524287, 2097151, 4194303, 8388607, 16777215, 33554431, 67108863, 67108863, 201326591, 67108863, 67108863, 1140850687, 4294967295, 8589934591, 17179869183] fmix ?_
  refine Dv [2] (Vfa fo26_4 0) (Dv [2] (VldF sh3 0) (Db h94 [] Vgeq (Dv [] Vm (Dv [2] (Vfa fo26_4 0) (Dv [2] (VldF sh3 0) (Dv [3] (Vfa fo32_1 0) (Dv [3] (VldF sh29 0) (Dv [] Vm (Dv [4] (Vi sl29 0) ?_)))))))))
  refine Dv [0] (Vld sh22 0) (Dv [] (Vlen sl22) (Dv [] Vleq (Dv [] Vpt ?_)))
  refine bool_split (decide (st.Edge ≤ ((s.Deps.getD ((st.Cone.getD st.At.toNat 0) : Int).toNat []).length : Int))) ?_ ?_
  ·intro h100
   have g101 := dt h100
   refine Db h100 [] Vm (Dv [2] (Vfa fo26_4 0) (Dv [2] (VldF sh3 0) (Dv [] Veql ?_)))
   refine bool_split (st.Edge == 0) ?_ ?_
   ·intro h102
    have g103 := eq_of_beq h102
    refine Db h102 [] Vm (Ds (Ds (Ds (Ds (Dv [] Vpt (Dv [] Vpt (Dv [] Vm (Dv [3] (VldA sh32 0) (Dv [2] (Vfa fo26_1 0) ?_)))))))))
    refine Dv [2] (VldF sh22 0) (Dv [] Vm (Dv [2] (Vfa fo26_4 0) (Dv [2] (VldF sh3 0) ?_)))
    refine letv (r14_expanded s st.Cone (st.Cone.getD st.At.toNat 0) st.Edge) fun rv104 hg105 => ?_
    refine Dx [4, 5, 6, 8] [] [1, 2, 3, 4, 0] (fun G => vb rv104) [fun G => SP.fact (True)] (fun G => xC [0, 1, 2, 3] ca134 (fn134 s sa1 sk1 sa2 sk2 sa3 sk3 st.Cone sta1 stk1 ((st.Cone.getD st.At.toNat 0)) st.Edge pre pre pre pre pre rv104 hg105)) (Dv [] Vpt (Dv [] Va ?_))
    refine Dn ⟨by kernel_rfl, fun G => ?_⟩
    refine Jw2 [(6, vb rv104)] [0, 1, 2, 3, 4, 5, 6, 7, 8, 9, 10, 11] [SP.fact (True)] ?_
    refine Jk [0, 1, 2, 3, 4, 5, 6, 7, 8, 9, 10, 11] ?_
    have hq := q4 hrr rv104 (by simp only [r14_validDemand, h13, h16, h19, h22, h42, h94, h100, h102, hR92, hg105, cs4]); subst hq
    exact Kr () rfl (.tmp rfl .nil) [] trivial
   intro h102
   have g106 := ne_of_beq_false h102
   refine Db h102 [] Vm (Dv [] Vm (Dv [] Vm ?_))
   refine letv (r14_find k (st.Cone.getD st.At.toNat 0)) fun rv107 hg108 => ?_
   refine Dx [7] [] [1, 0] (fun G => vi rv107) [fun G => SP.fact (i64ok rv107 ∧ (-1 ≤ rv107 ∧ rv107 < (k.length : Int)))] (fun G => xC [0] ca133 (fn133 k ka0 kk0 ((st.Cone.getD st.At.toNat 0)) pre rv107 hg108)) (Dv [] Vlss (Dv [] Vpf (Dv [] Vpt ?_)))
   refine bool_split (decide (rv107 < 0)) ?_ ?_
   ·intro h109
    have g110 := dt h109
    refine Db h109 [] Vm (Dv [3] (VldA sh32 0) (Dv [2] (Vfa fo26_1 0) (Dv [2] (VldF sh22 0) (Dv [] Vm (Dv [2] (Vfa fo26_4 0) (Dv [2] (VldF sh3 0) ?_))))))
    refine letv (r14_expanded s st.Cone (st.Cone.getD st.At.toNat 0) st.Edge) fun rv111 hg112 => ?_
    refine Dx [4, 5, 6, 8] [] [1, 2, 3, 4, 0] (fun G => vb rv111) [fun G => SP.fact (True)] (fun G => xC [0, 1, 2, 3] ca134 (fn134 s sa1 sk1 sa2 sk2 sa3 sk3 st.Cone sta1 stk1 ((st.Cone.getD st.At.toNat 0)) st.Edge pre pre pre pre pre rv111 hg112)) (Dv [] Vpt (Dv [] Va ?_))
    refine Dn ⟨by kernel_rfl, fun G => ?_⟩
    refine Jw2 [(6, vb rv111)] [0, 1, 2, 3, 4, 5, 6, 7, 8, 9, 10, 11] [SP.fact (i64ok rv107 ∧ (-1 ≤ rv107 ∧ rv107 < (k.length : Int))), SP.fact (True)] ?_
    refine Jf 12 rfl ?_; rintro ⟨he113, he114⟩
    unfold i64ok at he113
    refine Jk [0, 1, 2, 3, 4, 5, 6, 7, 8, 9, 10, 11] ?_
    have hq := q4 hrr rv111 (by simp only [r14_validDemand, h13, h16, h19, h22, h42, h94, h100, h102, h109, hR92, hg108, hg112, cs4]); subst hq
    exact Kr () rfl (.tmp rfl .nil) [] trivial
   intro h109
   have g115 := df h109
   refine Db h109 [] Vm (Ds (Ds (Ds (Ds (Ds (Ds (Ds (Dv [] Vpf (Dv [] Va ?_)))))))))
   refine Dn ⟨by kernel_rfl, fun G => ?_⟩
   refine Jw2 [(6, vb false)] [0, 1, 2, 3, 4, 5, 6, 7, 8, 9, 10, 11] [SP.fact (i64ok rv107 ∧ (-1 ≤ rv107 ∧ rv107 < (k.length : Int)))] ?_
   refine Jf 12 rfl ?_; rintro ⟨he116, he117⟩
   unfold i64ok at he116
   refine Jk [0, 1, 2, 3, 4, 5, 6, 7, 8, 9, 10, 11] ?_
   have hq := q4 hrr false (by simp only [r14_validDemand, h13, h16, h19, h22, h42, h94, h100, h102, h109, hR92, hg108, cs4]); subst hq
   exact Kr () rfl (.tmp rfl .nil) [] trivial
  intro h100
  have g118 := df h100
  refine Db h100 [] Vm (Ds (Ds (Ds (Ds (Ds (Ds (Ds (Ds (Ds ?_)))))))))
  refine Dv [] Vpf (Dv [] Vm (Ds (Ds (Ds (Ds (Ds (Ds (Ds (Dv [] Vpf ?_)))))))))
  refine Dv [] Va ?_
  refine Dn ⟨by kernel_rfl, fun G => ?_⟩
  refine Jw2 [(6, vb false)] [0, 1, 2, 3, 4, 5, 6, 7, 8, 9, 10, 11] [] ?_
  have hq := q4 hrr false (by simp only [r14_validDemand, h13, h16, h19, h22, h42, h94, h100, hR92, cs4]); subst hq
  exact Kr () rfl (.tmp rfl .nil) [] trivial
 intro h94
 have g119 := df h94
 refine Kq [0, 1, 3, 7, 15, 31, 15, 79, 15, 463, 975, 1999, 4095, 8191, 16383, 32767, 65535, 131071, 262143, 524287, 524287, 2097151, 4194303, 8388607, 16777215, 33554431, 67108863, 67108863, 201326591, 67108863, 67108863, 1140850687, 4294967295, 8589934591, 17179869183] fmix ?_
 refine Qv [0] (Vfa fo26_4 0) (Qv [0] (VldF sh3 0) (Qb h94 [] Vgeq (Qv [] Vm (Qs (Qs (Qs (Qs (Qs (Qs ?_)))))))))
 refine Qs (Qs (Qs (Qv [] Vpf (Qv [] Vm (Qs (Qs (Qs (Qs (Qs ?_)))))))))
 refine Qs (Qs (Qs (Qs (Qv [] Vpf (Qv [] Vm (Qs (Qs (Qs (Qs ?_)))))))))
 refine Qs (Qs (Qs (Qv [] Vpf (Qv [] Va ?_))))
 refine Qn ⟨by kernel_rfl, ?_⟩
 have hq := q4 hrr false (by simp only [r14_validDemand, h13, h16, h19, h22, h42, h94, hR92, cs4]); subst hq
 exact Kr () rfl (.tmp rfl .nil) [] trivial
theorem fn135 (s : GSystem) (sa1 : Option Addr) (sk1 : Nat) (sa2 : Option Addr) (sk2 : Nat) (sa3 : Option Addr) (sk3 : Nat) (set_ : List Int) (set_a0 : Option Addr) (set_k0 : Nat) (leaves : List Int) (leavesa0 : Option Addr) (leavesk0 : Nat) (hs_0 : i64ok s.Width) (hs0 : ∀ x ∈ set_, 0 ≤ x ∧ x < (s.Deps.length : Int)) (rr : Bool) (hrr : r14_closed s set_ leaves = rr) : FT Tryz.prog 135 #[.agg #[vi s.Width, vl sa1 sk1 s.Deps, vl sa2 sk2 s.Transfers, vl sa3 sk3 s.Boundary], vl set_a0 set_k0 set_, vl leavesa0 leavesk0 leaves] [S sa1 sk1 s.Deps, S sa2 sk2 s.Transfers, S sa3 sk3 s.Boundary, S set_a0 set_k0 set_, S leavesa0 leavesk0 leaves] (fun g : Unit => True) (fun g => vb rr) (fun g => []) := by
 refine FTi Tryz.func135 fun w0 M0 F0 => ?_
 unfold i64ok at hs_0
 refine Fb 24 0 fun _ => Fb 88 1 fun _ => Fb 32 2 fun _ => Fb 8 3 fun _ => Fo 3 fun ho5 => Fb 8 4 fun _ => Fo 4 fun ho7 => KS ?_
 refine Oa (Ab [vi s.Width, vl sa1 sk1 s.Deps, vl sa2 sk2 s.Transfers, vl sa3 sk3 s.Boundary]) fun p8 => Oq Va (KS ?_)
 refine Oq Va (KS ?_)
 refine Kl (γ := Nat × Int) (fun (r9, i_10) => ⟨[(1, vl set_a0 set_k0 set_), (2, vl leavesa0 leavesk0 leaves), (3, p8), (7, vi i_10)], [pv p8 [vi s.Width, vl sa1 sk1 s.Deps, vl sa2 sk2 s.Transfers, vl sa3 sk3 s.Boundary], S sa1 sk1 s.Deps, S sa2 sk2 s.Transfers, S sa3 sk3 s.Boundary, S set_a0 set_k0 set_, S leavesa0 leavesk0 leaves], r14_closed_L0 s set_ leaves r9 i_10 = r14_closed_L0 s set_ leaves (((set_.length : Int) - 0).toNat) 0 ∧ r9 = ((set_.length : Int) - i_10).toNat ∧ (0 : Int) ≤ i_10 ∧ i_10 ≤ (set_.length : Int) ∧ (-9223372036854775808 ≤ i_10 ∧ i_10 ≤ 9223372036854775807), r9⟩) (((set_.length : Int) - 0).toNat, 0) [0, 1, 2, 3, 4, 5] ⟨rfl, rfl, aM1, aM1, aM1⟩ ?_
 rintro ⟨r9, i_10⟩ ⟨hM11, hr12, hi13, hi14, hk15⟩
 refine JJ_nx fun _ _ hL hA => ?_; dsimp only at hL hA; subst hL hA
 refine Fb 24 1 fun _ => Fb 88 2 fun _ => Fb 32 3 fun _ => Fb 8 4 fun _ => Fo 4 fun ho20 => Fb 8 5 fun _ => Fo 5 fun ho22 => KS ?_
 refine Oq Vm (Oq Vm (Oq (Vlen sl22) (Oq Vlss (KS ?_))))
 refine Kc ?_ ?_
 ·intro h23
  have g24 := dt h23
  have hq := hs0 _ (getD_mem (xs := set_) (i := i_10.toNat) (d := 0) aM1)
  obtain ⟨r25, rfl⟩ := scc (n := r9) aM1
  refine KS ?_
  refine JJ_peekL ((set_.getD i_10.toNat 0) : Int).toNat 1 rfl rng fun a26 k27 => ?_
  refine Fb 8 1 fun _ => Fo 1 fun ho29 => ?_
  refine Kq [0, 1, 0, 0, 12, 28, 63, 127, 255] fmix ?_
  refine Qv [2] (Vfa fo32_1 0) (Qv [2] (VldF sh29 0) (Qv [] Vm (Qv [] Vm (Qv [6] (Vi sl22 0) ?_))))
  have hb30 := ok1 (i := i_10.toNat) ho20 rng
  refine Qv [6] (VldI sh3 0) (Qv [3] (Vi sl29 0) (Qv [0] (Vld sh22 0) (Qv [] Va ?_)))
  refine Qn ⟨by kernel_rfl, ?_⟩
  refine KS ?_
  refine Oq Va (KS ?_)
  refine Kl (γ := Nat × Int) (fun (r31, k_32) => ⟨[(1, vl set_a0 set_k0 set_), (2, vl leavesa0 leavesk0 leaves), (3, p8), (7, vi i_10), (8, vl a26 k27 (s.Deps.getD ((set_.getD i_10.toNat 0) : Int).toNat [])), (9, vi k_32)], [S a26 k27 ((s.Deps.getD ((set_.getD i_10.toNat 0) : Int).toNat []) : List Int), pv p8 [vi s.Width, vl sa1 sk1 s.Deps, vl sa2 sk2 s.Transfers, vl sa3 sk3 s.Boundary], S sa1 sk1 s.Deps, S sa2 sk2 s.Transfers, S sa3 sk3 s.Boundary, S set_a0 set_k0 set_, S leavesa0 leavesk0 leaves], r14_closed_L1 set_ leaves i_10 (s.Deps.getD ((set_.getD i_10.toNat 0) : Int).toNat []) r31 k_32 = r14_closed_L1 set_ leaves i_10 (s.Deps.getD ((set_.getD i_10.toNat 0) : Int).toNat []) (((((s.Deps.getD ((set_.getD i_10.toNat 0) : Int).toNat []).length : Int) : Int) - 0).toNat) 0 ∧ r31 = ((((s.Deps.getD ((set_.getD i_10.toNat 0) : Int).toNat []).length : Int) : Int) - k_32).toNat ∧ (0 : Int) ≤ k_32 ∧ (k_32 ≤ ((s.Deps.getD ((set_.getD i_10.toNat 0) : Int).toNat []).length : Int) ∨ k_32 = 0) ∧ (-9223372036854775808 ≤ k_32 ∧ k_32 ≤ 9223372036854775807), r31⟩) (((((s.Deps.getD ((set_.getD i_10.toNat 0) : Int).toNat []).length : Int) : Int) - 0).toNat, 0) [1, 2, 3, 4, 5, 6, 7] ⟨rfl, rfl, aM1, (.inr rfl), aM1⟩ ?_
  rintro ⟨r31, k_32⟩ ⟨hM33, hr34, hi35, hi36, hk37⟩
  refine JJ_nx fun _ _ hL hA => ?_; dsimp only at hL hA; subst hL hA
  refine Fb 8 0 fun _ => Fo 0 fun ho39 => Fb 24 2 fun _ => Fb 88 3 fun _ => Fb 32 4 fun _ => Fb 8 5 fun _ => Fo 5 fun ho44 => Fb 8 6 fun _ => ?_
  refine Fo 6 fun ho46 => KS ?_
  refine Oq Vm (Oq Vm (Oq (Vlen sl22) (Oq Vlss (KS ?_))))
  refine Kc ?_ ?_
  ·intro h47
   have g48 := dt h47
   obtain ⟨r49, rfl⟩ := scc (n := r31) aM1
   refine KS ?_
   refine Oq Vm (Oq Vm (Oq Vm (Oq (Vi sl22 5) ?_)))
   have hb50 := ok1 (i := i_10.toNat) ho44 rng
   refine Oq (VldI sh3 5) ?_
   refine letv (r7_Has leaves (set_.getD i_10.toNat 0)) fun rv51 hg52 => ?_
   have hc53 := fn99 leaves leavesa0 leavesk0 ((set_.getD i_10.toNat 0)) pre rv51 hg52
   refine Oc [6] ca99 hc53 ?_
   rintro - -
   refine Oq Vnot (Oq Vm ?_)
   refine Js 37 ?_ ?_
   ·intro h54
    have h56 := not_true h54
    refine Oq Vm (Oq Vm (Oq Vm (Oq (Vi sl22 0) ?_)))
    have hb58 := ok1 (i := k_32.toNat) ho39 rng
    refine Oq (VldI sh3 0) ?_
    refine letv (r7_Has set_ ((s.Deps.getD ((set_.getD i_10.toNat 0) : Int).toNat []).getD k_32.toNat 0)) fun rv59 hg60 => ?_
    have hc61 := fn99 set_ set_a0 set_k0 (((s.Deps.getD ((set_.getD i_10.toNat 0) : Int).toNat []).getD k_32.toNat 0)) pre rv59 hg60
    refine Oc [5] ca99 hc61 ?_
    rintro - -
    refine Oq Vnot (Oq Vpt (KS ?_))
    refine Kc ?_ ?_
    ·intro h62
     have h64 := not_true h62
     refine KS ?_
     refine Oq Va (KS ?_)
     have hR66 := q2 hM33 (.ret false) (by simp only [r14_closed_L1, h47, h54, h56, h62, h64, hg52, hg60, cs4])
     have hR67 := q2 hM11 (.ret false) (by simp only [r14_closed_L0, h23, h47, h54, h56, h62, h64, hg52, hg60, hR66, cs4])
     have hq := q4 hrr false (by simp only [r14_closed, h23, h47, h54, h56, h62, h64, hg52, hg60, hR66, hR67, cs4]); subst hq
     exact Kr () rfl (.tmp rfl .nil) [] trivial
    intro h62
    have h69 := not_false h62
    refine KS ?_
    refine Oq Vm (Oq Vadd (Oq Va (KS ?_)))
    exact Kg (r49, (k_32 + 1)) [0, 1, 2, 3, 4, 5, 6] ⟨(q3 hM33 (by simp only [r14_closed_L1, h47, h54, h56, h62, h69, hg52, hg60, cs4])), aM1, aM1, aM1, aM1⟩
   intro h54
   have h72 := not_false h54
   refine Osk (Osk (Osk (Osk (Osk (Osk (Osk (Oq Vpf (KS ?_))))))))
   refine Kf (KS ?_)
   refine Oq Vm (Oq Vadd (Oq Va (KS ?_)))
   exact Kg (r49, (k_32 + 1)) [0, 1, 2, 3, 4, 5, 6] ⟨(q3 hM33 (by simp only [r14_closed_L1, h47, h54, h72, hg52, cs4])), aM1, aM1, aM1, aM1⟩
  intro h47
  have g74 := df h47
  obtain rfl : r31 = 0 := by omega
  refine Ke ?_
  have hR75 := q2 hM33 (.brk ()) (by simp only [r14_closed_L1, h47, cs4])
  refine KS ?_
  refine Oq Vm (Oq Vadd (Oq Va (KS ?_)))
  exact Kg (r25, (i_10 + 1)) [1, 2, 3, 4, 5, 6] ⟨(q3 hM11 (by simp only [r14_closed_L0, h23, h47, hR75, cs4])), aM1, aM1, aM1, aM1⟩
 intro h23
 have g76 := df h23
 obtain rfl : r9 = 0 := by omega
 refine Ke ?_
 have hR77 := q2 hM11 (.brk ()) (by simp only [r14_closed_L0, h23, cs4])
 refine KS ?_
 refine Oq Va (KS ?_)
 have hq := q4 hrr true (by simp only [r14_closed, h23, hR77, cs4]); subst hq
 exact Kr () rfl (.tmp rfl .nil) [] trivial
theorem fn93 (s : GSystem) (sa1 : Option Addr) (sk1 : Nat) (sa2 : Option Addr) (sk2 : Nat) (sa3 : Option Addr) (sk3 : Nat) (k : List GKnown) (ka0 : Option Addr) (kk0 : Nat) (st : GState) (sta1 : Option Addr) (stk1 : Nat) (sta2 : Option Addr) (stk2 : Nat) (sta5 : Option Addr) (stk5 : Nat) (sta6 : Option Addr) (stk6 : Nat) (hs_0 : i64ok s.Width) (hst_0 : i64ok st.Phase) (hst_3 : i64ok st.At) (hst_4 : i64ok st.Edge) (hst_7 : i64ok st.Steps) (hv : VSys s) (hlf : st.Leaf.length = st.Cone.length) (hcl : st.Cone.length ≤ 256) (hcr : ∀ x ∈ st.Cone, 0 ≤ x ∧ x < (s.Deps.length : Int)) (rr : Bool) (hrr : r14_validSolve s k st = rr) : FT Tryz.prog 93 #[.agg #[vi s.Width, vl sa1 sk1 s.Deps, vl sa2 sk2 s.Transfers, vl sa3 sk3 s.Boundary], vl ka0 kk0 k, .agg #[vi st.Phase, vl sta1 stk1 st.Cone, vl sta2 stk2 st.Leaf, vi st.At, vi st.Edge, vl sta5 stk5 st.Values, vl sta6 stk6 st.Queue, vi st.Steps]] [S sa1 sk1 s.Deps, S sa2 sk2 s.Transfers, S sa3 sk3 s.Boundary, S ka0 kk0 k, S sta1 stk1 st.Cone, S sta2 stk2 st.Leaf, S sta5 stk5 st.Values, S sta6 stk6 st.Queue] (fun g : Unit => True) (fun g => vb rr) (fun g => []) := by
 refine FTi Tryz.func93 fun w0 M0 F0 => ?_
 unfold i64ok at hs_0 hst_0 hst_3 hst_4 hst_7
 refine Fb 24 0 fun _ => Fb 88 1 fun _ => Fb 32 2 fun _ => Fb 40 3 fun _ => Fb 8 4 fun _ => Fo 4 fun ho6 => Fb 1 5 fun _ => Fb 32 6 fun _ => ?_
 refine Fb 8 7 fun _ => Fo 7 fun ho10 => ?_
 have hv1 := hv.n
 have hv2 := hv.tl
 have hv3 := hv.bl
 have hv4 := hv.w
 have hv5 := hv.dep_len
 refine KS ?_
 refine Oa (Ab [vi s.Width, vl sa1 sk1 s.Deps, vl sa2 sk2 s.Transfers, vl sa3 sk3 s.Boundary]) fun p11 => Oa (Ab [vi st.Phase, vl sta1 stk1 st.Cone, vl sta2 stk2 st.Leaf, vi st.At, vi st.Edge, vl sta5 stk5 st.Values, vl sta6 stk6 st.Queue, vi st.Steps]) fun p12 => Oq Va (KS ?_)
 refine Oq (Vfa fo26_3 0) (Oq (VldF sh3 0) (Oq Vneq (Oq Vm ?_)))
 refine Js 13 ?_ ?_
 ·intro h13
  have g14 := ne_of_bne h13
  refine Osk (Osk (Osk (Oq Vpt (Oq Vm (Osk (Osk (Osk (Osk (Osk ?_)))))))))
  refine Osk (Osk (Oq Vpt (Oq Vm (Osk (Osk (Osk (Osk (Osk (Osk ?_)))))))))
  refine Osk (Osk (Oq Vpt (Oq Vm (Osk (Osk (Osk (Oq Vpt (KS ?_))))))))
  refine Kt (KS ?_)
  refine Oq Va (KS ?_)
  have hq := q4 hrr false (by simp only [r14_validSolve, h13, cs4]); subst hq
  exact Kr () rfl (.tmp rfl .nil) [] trivial
 intro h13
 have g15 := eq_of_bne_false h13
 refine Oq (Vfa fo26_4 0) (Oq (VldF sh3 0) (Oq Vneq (Oq Vpf (Oq Vm ?_))))
 refine Js 18 ?_ ?_
 ·intro h16
  have g17 := ne_of_bne h16
  refine Osk (Osk (Osk (Osk (Osk (Osk (Osk (Oq Vpt (Oq Vm (Osk ?_)))))))))
  refine Osk (Osk (Osk (Osk (Osk (Osk (Osk (Oq Vpt (Oq Vm (Osk ?_)))))))))
  refine Osk (Osk (Oq Vpt (KS ?_)))
  refine Kt (KS ?_)
  refine Oq Va (KS ?_)
  have hq := q4 hrr false (by simp only [r14_validSolve, h13, h16, cs4]); subst hq
  exact Kr () rfl (.tmp rfl .nil) [] trivial
 intro h16
 have g18 := eq_of_bne_false h16
 refine Oq (Vfa fo26_5 0) (Oq (VldF sh24 0) (Oq (Vlen sl24) (Oq (Vfa fo26_1 0) (Oq (VldF sh22 0) (Oq (Vlen sl22) (Oq Vneq (Oq Vpf (Oq Vm ?_))))))))
 refine Js 27 ?_ ?_
 ·intro h19
  have g20 := ne_of_bne h19
  refine Osk (Osk (Osk (Osk (Osk (Osk (Osk (Osk (Oq Vpt (Oq Vm ?_)))))))))
  refine Osk (Osk (Osk (Oq Vpt (KS ?_))))
  refine Kt (KS ?_)
  refine Oq Va (KS ?_)
  have hq := q4 hrr false (by simp only [r14_validSolve, h13, h16, h19, cs4]); subst hq
  exact Kr () rfl (.tmp rfl .nil) [] trivial
 intro h19
 have g21 := eq_of_bne_false h19
 refine Oq (Vfa fo26_6 0) (Oq (VldF sh22 0) (Oq (Vlen sl22) (Oq Veql (Oq (Vfa fo26_0 0) (Oq (VldF sh3 0) (Oq Veql (Oq (Vnb un4) (Oq Vpf (Oq Vm ?_)))))))))
 refine Js 37 ?_ ?_
 ·intro h22
  refine Osk (Osk (Osk (Oq Vpt (KS ?_))))
  refine Kt (KS ?_)
  refine Oq Va (KS ?_)
  have hq := q4 hrr false (by simp only [r14_validSolve, h13, h16, h19, h22, cs4]); subst hq
  exact Kr () rfl (.tmp rfl .nil) [] trivial
 intro h22
 refine Oq (Vfa fo26_6 0) (Oq (VldF sh22 0) ?_)
 refine letv (r14_repeated st.Queue) fun rv25 hg26 => ?_
 have hc27 := fn91 st.Queue sta6 stk6 rv25 hg26
 refine Oc [9] ca91 hc27 ?_
 rintro - -
 refine Oq Vpf (KS ?_)
 refine Kc ?_ ?_
 ·intro h28
  refine KS ?_
  refine Oq Va (KS ?_)
  have hq := q4 hrr false (by simp only [r14_validSolve, h13, h16, h19, h22, h28, hg26, cs4]); subst hq
  exact Kr () rfl (.tmp rfl .nil) [] trivial
 intro h28
 refine KS ?_
 refine Oq Va (KS ?_)
 refine Oq Va (KS ?_)
 refine Jl [] (Ent.osNil (α := Int)) ?_
 refine Kl (γ := Nat × List Int × Int × Option Addr × Nat) (fun (r31, leaves_32, i_33, a34, k35) => ⟨[(1, vl ka0 kk0 k), (3, p11), (5, p12), (7, vl a34 k35 leaves_32), (8, vi i_33)], [O a34 k35 leaves_32, pv p12 [vi st.Phase, vl sta1 stk1 st.Cone, vl sta2 stk2 st.Leaf, vi st.At, vi st.Edge, vl sta5 stk5 st.Values, vl sta6 stk6 st.Queue, vi st.Steps], pv p11 [vi s.Width, vl sa1 sk1 s.Deps, vl sa2 sk2 s.Transfers, vl sa3 sk3 s.Boundary], S sa1 sk1 s.Deps, S sa2 sk2 s.Transfers, S sa3 sk3 s.Boundary, S ka0 kk0 k, S sta1 stk1 st.Cone, S sta2 stk2 st.Leaf, S sta5 stk5 st.Values, S sta6 stk6 st.Queue], r14_validSolve_L0 s k st r31 leaves_32 i_33 = r14_validSolve_L0 s k st (((st.Cone.length : Int) - 0).toNat) [] 0 ∧ r31 = ((st.Cone.length : Int) - i_33).toNat ∧ (0 : Int) ≤ i_33 ∧ i_33 ≤ (st.Cone.length : Int) ∧ (-9223372036854775808 ≤ i_33 ∧ i_33 ≤ 9223372036854775807) ∧ (leaves_32.length : Int) ≤ i_33, r31⟩) (((st.Cone.length : Int) - 0).toNat, [], 0, none, 0) [0, 0, 1, 2, 3, 4, 5, 6, 7, 8, 9] ⟨rfl, rfl, aM1, aM1, aM1, iv0⟩ ?_
 rintro ⟨r31, leaves_32, i_33, a34, k35⟩ ⟨hM36, hr37, hi38, hi39, hk40, hv41⟩
 refine JJ_nx fun _ _ hL hA => ?_; dsimp only at hL hA; subst hL hA
 refine Fb 8 0 fun _ => Fo 0 fun ho43 => Fb 24 3 fun _ => Fb 88 4 fun _ => Fb 32 5 fun _ => Fb 40 6 fun _ => Fb 8 7 fun _ => Fo 7 fun ho49 => ?_
 refine Fb 1 8 fun _ => Fb 32 9 fun _ => Fb 8 10 fun _ => Fo 10 fun ho53 => KS ?_
 refine Oq Vm (Oq (Vfa fo26_1 1) (Oq (VldF sh22 1) (Oq (Vlen sl22) (Oq Vlss (KS ?_)))))
 refine Kc ?_ ?_
 ·intro h54
  have g55 := dt h54
  have hq := hcr _ (getD_mem (xs := st.Cone) (i := i_33.toNat) (d := 0) aM1)
  obtain ⟨r56, rfl⟩ := scc (n := r31) aM1
  refine KS ?_
  refine letv (r14_find k (st.Cone.getD i_33.toNat 0)) fun rv58 hg59 => ?_
  refine bool_split (!((st.Leaf.getD i_33.toNat false) == (decide (0 ≤ rv58)))) ?_ ?_
  ·intro h60
   refine JK_drawK [0, 1, 0, 7, 15, 0, 0, 64, 0, 448, 960, 2016, 4064, 8191, 16383, 32767, 65535, 32767, 262143, 524287, 1048575, 2097151, 4194303, 8388607, 16777215, 33554431, 16777215, 134217727, 268435455, 536870911, 16777215, 1090519039, 4294967295, 8589934591] fmix ?_
   refine Dv [1] (Vfa fo26_2 0) (Dv [1] (VldF sh23 0) (Dv [] Vm (Dv [8] (Vi sl23 0) (Dv [8] (VldB sh4 0) (Dv [] Vm (Dv [1] (Vfa fo26_1 0) (Dv [1] (VldF sh22 0) (Dv [] Vm (Dv [7] (Vi sl22 0) ?_)))))))))
   have hb62 := ok1 (i := i_33.toNat) ho49 rng
   refine Dv [7] (VldI sh3 0) (Dx [6] [] [1, 0] (fun G => vi rv58) [fun G => SP.fact (i64ok rv58 ∧ (-1 ≤ rv58 ∧ rv58 < (k.length : Int)))] (fun G => xC [0] ca133 (fn133 k ka0 kk0 ((st.Cone.getD i_33.toNat 0)) pre rv58 hg59)) (Dv [] Vgeq (Db h60 [] (Vnb un4) (Dv [] Vm (Ds (Ds (Ds (Ds (Ds ?_)))))))))
   refine Ds (Ds (Dv [] Vpt (Dv [] Vm (Ds (Ds (Ds (Ds (Ds (Ds ?_)))))))))
   refine Ds (Ds (Ds (Dv [] Vpt ?_)))
   refine Dn ⟨by kernel_rfl, fun G => ?_⟩
   refine Jw2 [(1, vl ka0 kk0 k), (3, p11), (5, p12), (7, vl a34 k35 leaves_32), (8, vi i_33), (82, vb true)] [0, 1, 2, 3, 4, 5, 6, 7, 8, 9, 10] [SP.fact (i64ok rv58 ∧ (-1 ≤ rv58 ∧ rv58 < (k.length : Int)))] ?_
   refine Jf 11 rfl ?_; rintro ⟨he63, he64⟩
   unfold i64ok at he63
   refine Jk [0, 0, 1, 2, 3, 4, 5, 6, 7, 8, 9] (Kt ?_)
   refine KS ?_
   refine Oq Va (KS ?_)
   have hR65 := q2 hM36 (.ret false) (by simp only [r14_validSolve_L0, h54, h60, hg59, cs4])
   have hq := q4 hrr false (by simp only [r14_validSolve, h13, h16, h19, h22, h28, h54, h60, hg26, hg59, hR65, cs4]); subst hq
   exact Kr () rfl (.tmp rfl .nil) [] trivial
  intro h60
  refine JJ_peek_GSet i_33.toNat 9 rfl rng fun a67 k68 hb69 => ?_
  unfold i64ok at hb69
  refine Fb 8 1 fun _ => ?_
  refine JK_drawK [0, 1, 0, 7, 15, 0, 0, 64, 0, 448, 960, 2016, 4064, 8191, 16383, 32767, 65535, 32767, 262143, 524287, 1048575, 2097151, 4194303, 8388607, 16777215, 33554431, 16777215, 134217727, 268435455, 536870911, 16777215, 1090519039, 4294967295, 8589934591] fmix ?_
  refine Dv [3] (Vfa fo26_2 0) (Dv [3] (VldF sh23 0) (Dv [] Vm (Dv [10] (Vi sl23 0) (Dv [10] (VldB sh4 0) (Dv [] Vm (Dv [3] (Vfa fo26_1 0) (Dv [3] (VldF sh22 0) (Dv [] Vm (Dv [9] (Vi sl22 0) ?_)))))))))
  have hb71 := ok1 (i := i_33.toNat) ho49 rng
  refine Dv [9] (VldI sh3 0) (Dx [8] [] [1, 0] (fun G => vi rv58) [fun G => SP.fact (i64ok rv58 ∧ (-1 ≤ rv58 ∧ rv58 < (k.length : Int)))] (fun G => xC [0] ca133 (fn133 k ka0 kk0 ((st.Cone.getD i_33.toNat 0)) pre rv58 hg59)) (Dv [] Vgeq (Db h60 [] (Vnb un4) (Dv [] Vm (Dv [3] (Vfa fo26_5 0) (Dv [3] (VldF sh24 0) (Dv [] Vm (Dv [11] (Vi sl24 0) (Dv [0] (VldA sh39 0) ?_)))))))))
  refine letv (r1_Valid (st.Values.getD i_33.toNat default)) fun rv72 hg73 => ?_
  refine Dx [1] [] [1, 0] (fun G => vb rv72) [fun G => SP.fact (True)] (fun G => xC [0] ca59 (fn59 ((st.Values.getD i_33.toNat default)) a67 k68 pre rv72 hg73)) (Dv [] Vnot (Dv [] Vpf ?_))
  refine bool_split (!rv72) ?_ ?_
  ·intro h74
   have h76 := not_true h74
   refine Db h74 [] Vm (Ds (Ds (Ds (Ds (Ds (Ds (Ds (Ds (Ds ?_)))))))))
   refine Dv [] Vpt ?_
   refine Dn ⟨by kernel_rfl, fun G => ?_⟩
   refine Jw2 [(1, vl ka0 kk0 k), (3, p11), (5, p12), (7, vl a34 k35 leaves_32), (8, vi i_33), (82, vb true)] [0, 1, 2, 3, 4, 5, 6, 7, 8, 9, 10, 11, 12] [SP.fact (i64ok rv58 ∧ (-1 ≤ rv58 ∧ rv58 < (k.length : Int))), SP.fact (True)] ?_
   refine Jf 13 rfl ?_; rintro ⟨he78, he79⟩
   unfold i64ok at he78
   refine Jk [0, 1, 2, 2, 3, 4, 5, 6, 7, 8, 9, 10, 11] (Kt ?_)
   refine KS ?_
   refine Oq Va (KS ?_)
   have hR80 := q2 hM36 (.ret false) (by simp only [r14_validSolve_L0, h54, h60, h74, h76, hg59, hg73, cs4])
   have hq := q4 hrr false (by simp only [r14_validSolve, h13, h16, h19, h22, h28, h54, h60, h74, h76, hg26, hg59, hg73, hR80, cs4]); subst hq
   exact Kr () rfl (.tmp rfl .nil) [] trivial
  intro h74
  have h82 := not_false h74
  refine Db h74 [] Vm (Dv [3] (Vfa fo26_5 0) (Dv [3] (VldF sh24 0) (Dv [] Vm (Dv [11] (Vi sl24 0) (Dv [0] (Vfa fo39_0 0) (Dv [0] (VldF sh3 0) (Dv [4] (Vfa fo32_0 0) (Dv [4] (VldF sh3 0) (Dv [] Vneq ?_)))))))))
  refine Dv [] Vpf ?_
  refine Dn ⟨by kernel_rfl, fun G => ?_⟩
  refine Jw2 [(1, vl ka0 kk0 k), (3, p11), (5, p12), (7, vl a34 k35 leaves_32), (8, vi i_33), (82, vb ((st.Values.getD i_33.toNat default).Width != s.Width))] [0, 1, 2, 3, 4, 5, 6, 7, 8, 9, 10, 11, 12] [SP.fact (i64ok rv58 ∧ (-1 ≤ rv58 ∧ rv58 < (k.length : Int))), SP.fact (True)] ?_
  refine Jf 13 rfl ?_; rintro ⟨he84, he85⟩
  unfold i64ok at he84
  refine Jk [0, 1, 2, 2, 3, 4, 5, 6, 7, 8, 9, 10, 11] ?_
  refine Kc ?_ ?_
  ·intro h86
   have g87 := ne_of_bne h86
   refine KS ?_
   refine Oq Va (KS ?_)
   have hR88 := q2 hM36 (.ret false) (by simp only [r14_validSolve_L0, h54, h60, h74, h82, h86, hg59, hg73, cs4])
   have hq := q4 hrr false (by simp only [r14_validSolve, h13, h16, h19, h22, h28, h54, h60, h74, h82, h86, hg26, hg59, hg73, hR88, cs4]); subst hq
   exact Kr () rfl (.tmp rfl .nil) [] trivial
  intro h86
  have g89 := eq_of_bne_false h86
  refine KS ?_
  refine Oq (Vfa fo26_2 3) (Oq (VldF sh23 3) (Oq Vm (Oq (Vi sl23 10) (Oq (VldB sh4 10) (KS ?_)))))
  refine Kc ?_ ?_
  ·intro h90
   have h92 := h60; rw [h90] at h92
   refine KS ?_
   refine Oq Vm (Oq (Vfa fo26_1 3) (Oq (VldF sh22 3) (Oq Vm (Oq (Vi sl22 9) ?_))))
   have hb93 := ok1 (i := i_33.toNat) ho49 rng
   refine Oq (VldI sh3 9) (Oa (AsV sl22 sz22 [vi (st.Cone.getD i_33.toNat 0)] [vi (st.Cone.getD i_33.toNat 0)]) fun c94 => ?_)
   refine Jo 0 ?_; rintro a95 k96 rfl
   refine Jl [0] (Ent.crInt _ [(st.Cone.getD i_33.toNat 0)] _ _ rfl rfl (by intro x hx; rw [List.mem_singleton] at hx; subst hx; unfold i64ok; omega) aB1) ?_
   refine Oa (ApO [3, 0] sl22 sl22 sz22) fun c97 => ?_
   refine Jo 0 ?_; rintro a98 k99 rfl
   refine Fb 8 0 fun _ => Fo 0 fun ho101 => ?_
   have hn102 := la leaves_32 ([(st.Cone.getD i_33.toNat 0)] : List Int)
   refine Oq Va (KS ?_)
   refine Oq Vm (Oq Vadd (Oq Va (KS ?_)))
   exact Kg (r56, (leaves_32 ++ [(st.Cone.getD i_33.toNat 0)]), (i_33 + 1), a98, k99) [0, 2, 3, 4, 5, 6, 7, 8, 9, 10, 11] ⟨(q3 hM36 (by simp only [r14_validSolve_L0, h54, h60, h74, h82, h86, h90, hg59, hg73, h92, cs4])), aM1, aM1, aM1, aM1, iv1⟩
  intro h90
  have h104 := h60; rw [h90] at h104
  refine KS ?_
  refine Oq Vm (Oq Vadd (Oq Va (KS ?_)))
  exact Kg (r56, leaves_32, (i_33 + 1), a34, k35) [2, 2, 3, 4, 5, 6, 7, 8, 9, 10, 11] ⟨(q3 hM36 (by simp only [r14_validSolve_L0, h54, h60, h74, h82, h86, h90, hg59, hg73, h104, cs4])), aM1, aM1, aM1, aM1, iv1⟩
 intro h54
 have g105 := df h54
 obtain rfl : r31 = 0 := by omega
 refine Ke ?_
 have hR106 := q2 hM36 (.brk leaves_32) (by simp only [r14_validSolve_L0, h54, cs4])
 refine KS ?_
 refine Oq Va (KS ?_)
 refine Kl (γ := Nat × Int) (fun (r107, i_108) => ⟨[(3, p11), (5, p12), (7, vl a34 k35 leaves_32), (9, vi i_108)], [O a34 k35 leaves_32, pv p12 [vi st.Phase, vl sta1 stk1 st.Cone, vl sta2 stk2 st.Leaf, vi st.At, vi st.Edge, vl sta5 stk5 st.Values, vl sta6 stk6 st.Queue, vi st.Steps], pv p11 [vi s.Width, vl sa1 sk1 s.Deps, vl sa2 sk2 s.Transfers, vl sa3 sk3 s.Boundary], S sa1 sk1 s.Deps, S sa2 sk2 s.Transfers, S sa3 sk3 s.Boundary, S sta1 stk1 st.Cone, S sta2 stk2 st.Leaf, S sta5 stk5 st.Values, S sta6 stk6 st.Queue], r14_validSolve_L1 st r107 i_108 = r14_validSolve_L1 st (((st.Queue.length : Int) - 0).toNat) 0 ∧ r107 = ((st.Queue.length : Int) - i_108).toNat ∧ (0 : Int) ≤ i_108 ∧ i_108 ≤ (st.Queue.length : Int) ∧ (-9223372036854775808 ≤ i_108 ∧ i_108 ≤ 9223372036854775807), r107⟩) (((st.Queue.length : Int) - 0).toNat, 0) [0, 0, 1, 2, 3, 4, 6, 7, 8, 9] ⟨rfl, rfl, aM1, aM1, aM1⟩ ?_
 rintro ⟨r107, i_108⟩ ⟨hM109, hr110, hi111, hi112, hk113⟩
 refine JJ_nx fun _ _ hL hA => ?_; dsimp only at hL hA; subst hL hA
 refine Fb 8 0 fun _ => Fo 0 fun ho115 => Fb 24 3 fun _ => Fb 88 4 fun _ => Fb 32 5 fun _ => Fb 8 6 fun _ => Fo 6 fun ho120 => Fb 1 7 fun _ => ?_
 refine Fb 32 8 fun _ => Fb 8 9 fun _ => Fo 9 fun ho124 => KS ?_
 refine Oq Vm (Oq (Vfa fo26_6 1) (Oq (VldF sh22 1) (Oq (Vlen sl22) (Oq Vlss (KS ?_)))))
 refine Kc ?_ ?_
 ·intro h125
  have g126 := dt h125
  obtain ⟨r127, rfl⟩ := scc (n := r107) aM1
  refine KS ?_
  refine Kq [0, 1, 0, 7, 15, 31, 63, 127, 255, 127, 1023, 2047, 127, 4223, 12415, 32767, 65535] fmix ?_
  refine Qv [1] (Vfa fo26_6 0) (Qv [1] (VldF sh22 0) (Qv [] Vm (Qv [9] (Vi sl22 0) ?_)))
  have hb128 := ok1 (i := i_108.toNat) ho124 rng
  refine Qv [9] (VldI sh3 0) (Qv [] Vlss ?_)
  refine bool_split (decide ((st.Queue.getD i_108.toNat 0) < 0)) ?_ ?_
  ·intro h129
   have g130 := dt h129
   refine Qb h129 [] Vm (Qs (Qs (Qs (Qs (Qs (Qs (Qs (Qs (Qs ?_)))))))))
   refine Qv [] Vpt ?_
   refine Qn ⟨by kernel_rfl, ?_⟩
   refine Kt (KS ?_)
   refine Oq Va (KS ?_)
   have hR131 := q2 hM109 (.ret false) (by simp only [r14_validSolve_L1, h125, h129, cs4])
   have hq := q4 hrr false (by simp only [r14_validSolve, h13, h16, h19, h22, h28, h54, h125, h129, hg26, hR106, hR131, cs4]); subst hq
   exact Kr () rfl (.tmp rfl .nil) [] trivial
  intro h129
  have g132 := df h129
  refine Qb h129 [] Vm (Qv [1] (Vfa fo26_6 0) (Qv [1] (VldF sh22 0) (Qv [] Vm (Qv [9] (Vi sl22 0) ?_))))
  have hb133 := ok1 (i := i_108.toNat) ho124 rng
  refine Qv [9] (VldI sh3 0) (Qv [1] (Vfa fo26_1 0) (Qv [1] (VldF sh22 0) (Qv [] (Vlen sl22) (Qv [] Vgeq (Qv [] Vpf ?_)))))
  refine Qn ⟨by kernel_rfl, ?_⟩
  refine Kc ?_ ?_
  ·intro h134
   have g135 := dt h134
   refine KS ?_
   refine Oq Va (KS ?_)
   have hR136 := q2 hM109 (.ret false) (by simp only [r14_validSolve_L1, h125, h129, h134, cs4])
   have hq := q4 hrr false (by simp only [r14_validSolve, h13, h16, h19, h22, h28, h54, h125, h129, h134, hg26, hR106, hR136, cs4]); subst hq
   exact Kr () rfl (.tmp rfl .nil) [] trivial
  intro h134
  have g137 := df h134
  refine KS ?_
  refine Oq Vm (Oq Vadd (Oq Va (KS ?_)))
  exact Kg (r127, (i_108 + 1)) [0, 0, 1, 2, 3, 4, 5, 6, 7, 8] ⟨(q3 hM109 (by simp only [r14_validSolve_L1, h125, h129, h134, cs4])), aM1, aM1, aM1, aM1⟩
 intro h125
 have g138 := df h125
 obtain rfl : r107 = 0 := by omega
 refine Ke ?_
 have hR139 := q2 hM109 (.brk ()) (by simp only [r14_validSolve_L1, h125, cs4])
 refine KS ?_
 refine Oq (VldA sh32 2) (Oq (Vfa fo26_1 1) (Oq (VldF sh22 1) (Oq Vm ?_)))
 refine letv (r14_closed s st.Cone leaves_32) fun rv140 hg141 => ?_
 refine Oc [0, 2, 3, 4, 5] ca135 (FT_borrow (A := _) (fun _ _ h => by cases h) (FT_ent (Ent.take (is := [1, 2, 3, 4, 0]) rfl) (fn135 s sa1 sk1 sa2 sk2 sa3 sk3 st.Cone sta1 stk1 leaves_32 a34 k35 pre hcr rv140 hg141))) ?_ (ht := rfl)
 rintro - -
 refine Oq Va (KS ?_)
 have hq := q4 hrr rv140 (by simp only [r14_validSolve, h13, h16, h19, h22, h28, h54, h125, hg26, hR106, hR139, hg141, cs4]); subst hq
 exact Kr () rfl (.tmp rfl .nil) [] trivial
theorem fn53 (s : GSystem) (sa1 : Option Addr) (sk1 : Nat) (sa2 : Option Addr) (sk2 : Nat) (sa3 : Option Addr) (sk3 : Nat) (k : List GKnown) (ka0 : Option Addr) (kk0 : Nat) (st : GState) (sta1 : Option Addr) (stk1 : Nat) (sta2 : Option Addr) (stk2 : Nat) (sta5 : Option Addr) (stk5 : Nat) (sta6 : Option Addr) (stk6 : Nat) (hs_0 : i64ok s.Width) (hst_0 : i64ok st.Phase) (hst_3 : i64ok st.At) (hst_4 : i64ok st.Edge) (hst_7 : i64ok st.Steps) (rr : Bool) (hrr : r14_Valid s k st = rr) : FT Tryz.prog 53 #[.agg #[vi s.Width, vl sa1 sk1 s.Deps, vl sa2 sk2 s.Transfers, vl sa3 sk3 s.Boundary], vl ka0 kk0 k, .agg #[vi st.Phase, vl sta1 stk1 st.Cone, vl sta2 stk2 st.Leaf, vi st.At, vi st.Edge, vl sta5 stk5 st.Values, vl sta6 stk6 st.Queue, vi st.Steps]] [S sa1 sk1 s.Deps, S sa2 sk2 s.Transfers, S sa3 sk3 s.Boundary, S ka0 kk0 k, S sta1 stk1 st.Cone, S sta2 stk2 st.Leaf, S sta5 stk5 st.Values, S sta6 stk6 st.Queue] (fun g : Unit => True) (fun g => vb rr) (fun g => []) := by
 refine FTi Tryz.func53 fun w0 M0 F0 => ?_
 unfold i64ok at hs_0 hst_0 hst_3 hst_4 hst_7
 refine Fb 24 0 fun _ => Fb 88 1 fun _ => Fb 32 2 fun _ => Fb 40 3 fun _ => Fb 8 4 fun _ => Fo 4 fun ho6 => Fb 1 5 fun _ => Fb 32 6 fun _ => ?_
 refine Fb 8 7 fun _ => Fo 7 fun ho10 => KS ?_
 refine Oa (Ab [vi s.Width, vl sa1 sk1 s.Deps, vl sa2 sk2 s.Transfers, vl sa3 sk3 s.Boundary]) fun p11 => Oa (Ab [vi st.Phase, vl sta1 stk1 st.Cone, vl sta2 stk2 st.Leaf, vi st.At, vi st.Edge, vl sta5 stk5 st.Values, vl sta6 stk6 st.Queue, vi st.Steps]) fun p12 => Oq Va (KS ?_)
 refine Oq (VldA sh32 1) ?_
 refine letv (r10_Valid s) fun rv13 hg14 => ?_
 have hc15 := fn50 s sa1 sk1 sa2 sk2 sa3 sk3 pre rv13 hg14
 refine Oc [2, 3, 4] ca50 hc15 ?_
 rintro - -
 refine Oq Vnot (Oq Vm ?_)
 refine Js 10 ?_ ?_
 ·intro h16
  have h18 := not_true h16
  refine Osk (Osk (Osk (Osk (Oq Vpt (Oq Vm (Osk (Osk (Osk (Osk ?_)))))))))
  refine Oq Vpt (Oq Vm (Osk (Osk (Osk (Osk (Osk (Osk (Osk (Oq Vpt ?_)))))))))
  refine Oq Vm (Osk (Osk (Osk (Osk (Osk (Osk (Osk (Oq Vpt (Oq Vm ?_)))))))))
  refine Osk (Osk (Osk (Osk (Osk (Osk (Osk (Oq Vpt (Oq Vm (Osk ?_)))))))))
  refine Osk (Osk (Osk (Osk (Oq Vpt (Oq Vm (Osk (Osk (Osk (Oq Vpt ?_)))))))))
  refine Oq Vm (Osk (Osk (Osk (Osk (Oq Vpt (KS ?_))))))
  refine Kt (KS ?_)
  refine Oq Va (KS ?_)
  have hq := q4 hrr false (by simp only [r14_Valid, h16, h18, hg14, cs4]); subst hq
  exact Kr () rfl (.tmp rfl .nil) [] trivial
 intro h16
 have h21 := not_false h16
 try (have hvs := (RefValid_iff s).1 (by simp only [h16, h21, hg14]); have hv1 := hvs.n; have hv2 := hvs.tl; have hv3 := hvs.bl; have hv4 := hvs.w)
 try (have hcr := inside_dep hvs (l := st.Cone) (by simp only [h16, h21, hg14]))
 refine Oq (VldA sh32 1) (Oq Vm ?_)
 refine letv (r14_ValidKnown s k) fun rv23 hg24 => ?_
 have hc25 := fn89 s sa1 sk1 sa2 sk2 sa3 sk3 k ka0 kk0 pre rv23 hg24
 refine Oc [2, 3, 4, 5] ca89 hc25 ?_
 rintro - -
 refine Oq Vnot (Oq Vpf (Oq Vm ?_))
 refine Js 16 ?_ ?_
 ·intro h26
  have h28 := not_true h26
  refine Osk (Osk (Osk (Osk (Oq Vpt (Oq Vm (Osk (Osk (Osk (Osk ?_)))))))))
  refine Osk (Osk (Osk (Oq Vpt (Oq Vm (Osk (Osk (Osk (Osk (Osk ?_)))))))))
  refine Osk (Osk (Oq Vpt (Oq Vm (Osk (Osk (Osk (Osk (Osk (Osk ?_)))))))))
  refine Osk (Oq Vpt (Oq Vm (Osk (Osk (Osk (Osk (Osk (Oq Vpt (Oq Vm ?_)))))))))
  refine Osk (Osk (Osk (Oq Vpt (Oq Vm (Osk (Osk (Osk (Osk (Oq Vpt ?_)))))))))
  refine KS ?_
  refine Kt (KS ?_)
  refine Oq Va (KS ?_)
  have hq := q4 hrr false (by simp only [r14_Valid, h16, h21, h26, h28, hg14, hg24, cs4]); subst hq
  exact Kr () rfl (.tmp rfl .nil) [] trivial
 intro h26
 have h31 := not_false h26
 try (have hvs := (RefValid_iff s).1 (by simp only [h16, h21, h26, h31, hg14, hg24]); have hv1 := hvs.n; have hv2 := hvs.tl; have hv3 := hvs.bl; have hv4 := hvs.w)
 try (have hcr := inside_dep hvs (l := st.Cone) (by simp only [h16, h21, h26, h31, hg14, hg24]))
 refine Oq (Vfa fo26_1 0) (Oq (VldF sh22 0) (Oq (Vlen sl22) (Oq Veql (Oq Vpf (Oq Vm ?_)))))
 refine Js 22 ?_ ?_
 ·intro h33
  have g34 := eq_of_beq h33
  refine Osk (Osk (Osk (Osk (Osk (Osk (Osk (Oq Vpt (Oq Vm (Osk ?_)))))))))
  refine Osk (Osk (Osk (Osk (Osk (Osk (Oq Vpt (Oq Vm (Osk (Osk ?_)))))))))
  refine Osk (Osk (Osk (Osk (Osk (Oq Vpt (Oq Vm (Osk (Osk (Osk ?_)))))))))
  refine Osk (Osk (Oq Vpt (Oq Vm (Osk (Osk (Osk (Oq Vpt (Oq Vm (Osk ?_)))))))))
  refine Osk (Osk (Osk (Oq Vpt (KS ?_))))
  refine Kt (KS ?_)
  refine Oq Va (KS ?_)
  have hq := q4 hrr false (by simp only [r14_Valid, h16, h21, h26, h31, h33, hg14, hg24, cs4]); subst hq
  exact Kr () rfl (.tmp rfl .nil) [] trivial
 intro h33
 have g35 := ne_of_beq_false h33
 refine Oq (Vfa fo26_1 0) (Oq (VldF sh22 0) (Oq (Vlen sl22) (Oq (Vfa fo32_3 1) (Oq (VldF sh24 1) (Oq (Vlen sl24) (Oq Vgtr (Oq Vpf (Oq Vm ?_))))))))
 refine Js 31 ?_ ?_
 ·intro h36
  have g37 := dt h36
  refine Osk (Osk (Osk (Osk (Osk (Osk (Osk (Oq Vpt (Oq Vm (Osk ?_)))))))))
  refine Osk (Osk (Osk (Osk (Osk (Osk (Oq Vpt (Oq Vm (Osk (Osk ?_)))))))))
  refine Osk (Osk (Osk (Oq Vpt (Oq Vm (Osk (Osk (Osk (Oq Vpt (Oq Vm ?_)))))))))
  refine Osk (Osk (Osk (Osk (Oq Vpt (KS ?_)))))
  refine Kt (KS ?_)
  refine Oq Va (KS ?_)
  have hq := q4 hrr false (by simp only [r14_Valid, h16, h21, h26, h31, h33, h36, hg14, hg24, cs4]); subst hq
  exact Kr () rfl (.tmp rfl .nil) [] trivial
 intro h36
 have g38 := df h36
 refine Oq (Vfa fo26_2 0) (Oq (VldF sh23 0) (Oq (Vlen sl23) (Oq (Vfa fo26_1 0) (Oq (VldF sh22 0) (Oq (Vlen sl22) (Oq Vneq (Oq Vpf (Oq Vm ?_))))))))
 refine Js 40 ?_ ?_
 ·intro h39
  have g40 := ne_of_bne h39
  refine Osk (Osk (Osk (Osk (Osk (Osk (Osk (Oq Vpt (Oq Vm (Osk ?_)))))))))
  refine Osk (Osk (Osk (Osk (Oq Vpt (Oq Vm (Osk (Osk (Osk (Oq Vpt ?_)))))))))
  refine Oq Vm (Osk (Osk (Osk (Osk (Oq Vpt (KS ?_))))))
  refine Kt (KS ?_)
  refine Oq Va (KS ?_)
  have hq := q4 hrr false (by simp only [r14_Valid, h16, h21, h26, h31, h33, h36, h39, hg14, hg24, cs4]); subst hq
  exact Kr () rfl (.tmp rfl .nil) [] trivial
 intro h39
 have g41 := eq_of_bne_false h39
 refine Oq (Vfa fo26_6 0) (Oq (VldF sh22 0) (Oq (Vlen sl22) (Oq (Vfa fo26_1 0) (Oq (VldF sh22 0) (Oq (Vlen sl22) (Oq Vgtr (Oq Vpf (Oq Vm ?_))))))))
 refine Js 49 ?_ ?_
 ·intro h42
  have g43 := dt h42
  refine Osk (Osk (Osk (Osk (Osk (Oq Vpt (Oq Vm (Osk (Osk (Osk ?_)))))))))
  refine Oq Vpt (Oq Vm (Osk (Osk (Osk (Osk (Oq Vpt (KS ?_)))))))
  refine Kt (KS ?_)
  refine Oq Va (KS ?_)
  have hq := q4 hrr false (by simp only [r14_Valid, h16, h21, h26, h31, h33, h36, h39, h42, hg14, hg24, cs4]); subst hq
  exact Kr () rfl (.tmp rfl .nil) [] trivial
 intro h42
 have g44 := df h42
 refine Oq (VldA sh32 1) (Oq (Vfa fo26_1 0) (Oq (VldF sh22 0) ?_))
 refine letv (r14_inside s st.Cone) fun rv45 hg46 => ?_
 have hc47 := fn90 s sa1 sk1 sa2 sk2 sa3 sk3 st.Cone sta1 stk1 pre rv45 hg46
 refine Oc [2, 3, 4, 6] ca90 hc47 ?_
 rintro - -
 refine Oq Vnot (Oq Vpf (Oq Vm ?_))
 refine Js 56 ?_ ?_
 ·intro h48
  have h50 := not_true h48
  refine Osk (Osk (Osk (Oq Vpt (Oq Vm (Osk (Osk (Osk (Osk (Oq Vpt ?_)))))))))
  refine KS ?_
  refine Kt (KS ?_)
  refine Oq Va (KS ?_)
  have hq := q4 hrr false (by simp only [r14_Valid, h16, h21, h26, h31, h33, h36, h39, h42, h48, h50, hg14, hg24, hg46, cs4]); subst hq
  exact Kr () rfl (.tmp rfl .nil) [] trivial
 intro h48
 have h53 := not_false h48
 try (have hvs := (RefValid_iff s).1 (by simp only [h16, h21, h26, h31, h33, h36, h39, h42, h48, h53, hg14, hg24, hg46]); have hv1 := hvs.n; have hv2 := hvs.tl; have hv3 := hvs.bl; have hv4 := hvs.w)
 try (have hcr := inside_dep hvs (l := st.Cone) (by simp only [h16, h21, h26, h31, h33, h36, h39, h42, h48, h53, hg14, hg24, hg46]))
 refine Oq (Vfa fo26_1 0) (Oq (VldF sh22 0) ?_)
 refine letv (r14_repeated st.Cone) fun rv55 hg56 => ?_
 have hc57 := fn91 st.Cone sta1 stk1 rv55 hg56
 refine Oc [6] ca91 hc57 ?_
 rintro - -
 refine Oq Vpf (Oq Vm ?_)
 refine Js 61 ?_ ?_
 ·intro h58
  try (have hvs := (RefValid_iff s).1 (by simp only [h16, h21, h26, h31, h33, h36, h39, h42, h48, h53, h58, hg14, hg24, hg46, hg56]); have hv1 := hvs.n; have hv2 := hvs.tl; have hv3 := hvs.bl; have hv4 := hvs.w)
  try (have hcr := inside_dep hvs (l := st.Cone) (by simp only [h16, h21, h26, h31, h33, h36, h39, h42, h48, h53, h58, hg14, hg24, hg46, hg56]))
  refine Osk (Osk (Osk (Osk (Oq Vpt (KS ?_)))))
  refine Kt (KS ?_)
  refine Oq Va (KS ?_)
  have hq := q4 hrr false (by simp only [r14_Valid, h16, h21, h26, h31, h33, h36, h39, h42, h48, h53, h58, hg14, hg24, hg46, hg56, cs4]); subst hq
  exact Kr () rfl (.tmp rfl .nil) [] trivial
 intro h58
 refine Oq (Vfa fo26_7 0) (Oq (VldF sh3 0) ?_)
 refine letv (r14_counter st.Steps) fun rv61 hg62 => ?_
 have hc63 := fn58 st.Steps pre rv61 hg62
 refine Oc [] ca58 hc63 ?_
 rintro - -
 refine Oq Vnot (Oq Vpf (KS ?_))
 refine Kc ?_ ?_
 ·intro h64
  have h66 := not_true h64
  refine KS ?_
  refine Oq Va (KS ?_)
  have hq := q4 hrr false (by simp only [r14_Valid, h16, h21, h26, h31, h33, h36, h39, h42, h48, h53, h58, h64, h66, hg14, hg24, hg46, hg56, hg62, cs4]); subst hq
  exact Kr () rfl (.tmp rfl .nil) [] trivial
 intro h64
 have h69 := not_false h64
 try (have hvs := (RefValid_iff s).1 (by simp only [h16, h21, h26, h31, h33, h36, h39, h42, h48, h53, h58, h64, h69, hg14, hg24, hg46, hg56, hg62]); have hv1 := hvs.n; have hv2 := hvs.tl; have hv3 := hvs.bl; have hv4 := hvs.w)
 try (have hcr := inside_dep hvs (l := st.Cone) (by simp only [h16, h21, h26, h31, h33, h36, h39, h42, h48, h53, h58, h64, h69, hg14, hg24, hg46, hg56, hg62]))
 refine KS ?_
 refine Oq (Vfa fo26_0 0) (Oq (VldF sh3 0) (KS ?_))
 refine Oq Veql (Oq Va (KS ?_))
 refine Kc ?_ ?_
 ·intro h71
  have g72 := eq_of_beq h71
  refine KS ?_
  refine Oq (VldA sh32 1) (Oq Vm (Oq (VldA sh26 0) ?_))
  refine letv (r14_validDemand s k st) fun rv73 hg74 => ?_
  have hc75 := fn92 s sa1 sk1 sa2 sk2 sa3 sk3 k ka0 kk0 st sta1 stk1 sta2 stk2 sta5 stk5 sta6 stk6 pre pre pre pre pre hvs pre pre hcr rv73 hg74
  refine Oc [2, 3, 4, 5, 6, 7, 8, 9] ca92 hc75 ?_
  rintro - -
  refine Oq Va (KS ?_)
  have hq := q4 hrr rv73 (by simp only [r14_Valid, h16, h21, h26, h31, h33, h36, h39, h42, h48, h53, h58, h64, h69, h71, hg14, hg24, hg46, hg56, hg62, hg74, cs4]); subst hq
  exact Kr () rfl (.tmp rfl .nil) [] trivial
 intro h71
 have g76 := ne_of_beq_false h71
 refine KS ?_
 refine Oq Veql (Oq Va (KS ?_))
 refine Kc ?_ ?_
 ·intro h77
  have g78 := eq_of_beq h77
  refine KS ?_
  refine Kc ?_ ?_
  ·intro h79
   have g80 := eq_of_beq h79
   refine KS ?_
   refine Oq (VldA sh32 1) (Oq Vm (Oq (VldA sh26 0) ?_))
   refine letv (r14_validSolve s k st) fun rv81 hg82 => ?_
   have hc83 := fn93 s sa1 sk1 sa2 sk2 sa3 sk3 k ka0 kk0 st sta1 stk1 sta2 stk2 sta5 stk5 sta6 stk6 pre pre pre pre pre hvs pre pre hcr rv81 hg82
   refine Oc [2, 3, 4, 5, 6, 7, 8, 9] ca93 hc83 ?_
   rintro - -
   refine Oq Va (KS ?_)
   have hq := q4 hrr rv81 (by simp only [r14_Valid, h16, h21, h26, h31, h33, h36, h39, h42, h48, h53, h58, h64, h69, h71, h77, h79, hg14, hg24, hg46, hg56, hg62, hg82, cs4]); subst hq
   exact Kr () rfl (.tmp rfl .nil) [] trivial
  intro h79
  exact absurd h79 (by first | (simp [h77]; done) | (simp only [bne, h77]; decide) | (simp only [bne, h77, Bool.not_true, Bool.not_false]; decide) | (exfalso; omega) | (intro hq; simp only [bne, hq, Bool.not_false, Bool.not_true, reduceCtorEq] at h77))
 intro h77
 have g84 := ne_of_beq_false h77
 refine KS ?_
 refine Oq Veql (Oq Va (KS ?_))
 refine Kc ?_ ?_
 ·intro h85
  have g86 := eq_of_beq h85
  refine KS ?_
  refine Oq (VldA sh32 1) (Oq Vm (Oq (VldA sh26 0) ?_))
  refine letv (r14_validSolve s k st) fun rv87 hg88 => ?_
  have hc89 := fn93 s sa1 sk1 sa2 sk2 sa3 sk3 k ka0 kk0 st sta1 stk1 sta2 stk2 sta5 stk5 sta6 stk6 pre pre pre pre pre hvs pre pre hcr rv87 hg88
  refine Oc [2, 3, 4, 5, 6, 7, 8, 9] ca93 hc89 ?_
  rintro - -
  refine Oq Va (KS ?_)
  have hq := q4 hrr rv87 (by simp only [r14_Valid, h16, h21, h26, h31, h33, h36, h39, h42, h48, h53, h58, h64, h69, h71, h77, h85, hg14, hg24, hg46, hg56, hg62, hg88, cs4]); subst hq
  exact Kr () rfl (.tmp rfl .nil) [] trivial
 intro h85
 have g90 := ne_of_beq_false h85
 refine KS ?_
 refine Oq Va (KS ?_)
 have hq := q4 hrr false (by simp only [r14_Valid, h16, h21, h26, h31, h33, h36, h39, h42, h48, h53, h58, h64, h69, h71, h77, h85, hg14, hg24, hg46, hg56, hg62, cs4]); subst hq
 exact Kr () rfl (.tmp rfl .nil) [] trivial
theorem fn8 (st : GState) (sta1 : Option Addr) (stk1 : Nat) (sta2 : Option Addr) (stk2 : Nat) (sta5 : Option Addr) (stk5 : Nat) (sta6 : Option Addr) (stk6 : Nat) (hst_0 : i64ok st.Phase) (hst_3 : i64ok st.At) (hst_4 : i64ok st.Edge) (hst_7 : i64ok st.Steps) (rr : GState) (hrr : r14_CopyState st = rr) : FT Tryz.prog 8 #[.agg #[vi st.Phase, vl sta1 stk1 st.Cone, vl sta2 stk2 st.Leaf, vi st.At, vi st.Edge, vl sta5 stk5 st.Values, vl sta6 stk6 st.Queue, vi st.Steps]] [S sta1 stk1 st.Cone, S sta2 stk2 st.Leaf, S sta5 stk5 st.Values, S sta6 stk6 st.Queue] (fun g : Value × Value × Value × Value => i64ok rr.Phase ∧ i64ok rr.At ∧ i64ok rr.Edge ∧ i64ok rr.Steps) (fun g => .agg #[vi rr.Phase, g.1, g.2.1, vi rr.At, vi rr.Edge, g.2.2.1, g.2.2.2, vi rr.Steps]) (fun g => [os g.1 rr.Cone, os g.2.1 rr.Leaf, os g.2.2.1 rr.Values, os g.2.2.2 rr.Queue]) := by
 refine FTi Tryz.func8 fun w0 M0 F0 => ?_
 unfold i64ok at hst_0 hst_3 hst_4 hst_7
 refine Fb 8 0 fun _ => Fo 0 fun ho2 => Fb 1 1 fun _ => Fb 32 2 fun _ => Fb 8 3 fun _ => Fo 3 fun ho6 => KS ?_
 refine Oa (AbO [vi st.Phase, vl sta1 stk1 st.Cone, vl sta2 stk2 st.Leaf, vi st.At, vi st.Edge, vl sta5 stk5 st.Values, vl sta6 stk6 st.Queue, vi st.Steps]) fun p7 => Oa (Al ze26 [vi 0, .slice none 0 0, .slice none 0 0, vi 0, vi 0, .slice none 0 0, .slice none 0 0, vi 0]) fun p8 => KS ?_
 refine Oa (As0 sl22) fun c9 => ?_
 refine Jo 0 ?_; rintro a10 k11 rfl
 refine Oq (Vfa fo26_1 2) (Oq (VldF sh22 2) ?_)
 refine Jl [0] (Ent.crNil (α := Int) _) ?_
 refine Oa (Ap0 [0, 2] sl22 sl22 sz22) fun c12 => ?_
 refine Jo 0 ?_; rintro a13 k14 rfl
 refine Oq (Vfa fo26_1 2) (Ost (SclF [2] sh22 [vi st.Phase, vl a13 k14 st.Cone, vl sta2 stk2 st.Leaf, vi st.At, vi st.Edge, vl sta5 stk5 st.Values, vl sta6 stk6 st.Queue, vi st.Steps]) (KS ?_))
 refine Oa (As0 sl23) fun c15 => ?_
 refine Jo 0 ?_; rintro a16 k17 rfl
 refine Oq (Vfa fo26_2 1) (Oq (VldF sh23 1) ?_)
 refine Jl [0] (Ent.crNil (α := Bool) _) ?_
 refine Oa (Ap0 [0, 4] sl23 sl23 sz23) fun c18 => ?_
 refine Jo 0 ?_; rintro a19 k20 rfl
 refine Oq (Vfa fo26_2 1) (Ost (SclF [1] sh23 [vi st.Phase, vl a13 k14 st.Cone, vl a19 k20 st.Leaf, vi st.At, vi st.Edge, vl sta5 stk5 st.Values, vl sta6 stk6 st.Queue, vi st.Steps]) (KS ?_))
 refine Oa (As0 sl24) fun c21 => ?_
 refine Jo 0 ?_; rintro a22 k23 rfl
 refine Oq (Vfa fo26_5 1) (Oq (VldF sh24 1) ?_)
 refine Jl [0] (Ent.crNil (α := GSet) _) ?_
 refine Oa (Ap0 [0, 6] sl24 sl24 sz24) fun c24 => ?_
 refine Jo 0 ?_; rintro a25 k26 rfl
 refine Oq (Vfa fo26_5 1) (Ost (SclF [1] sh24 [vi st.Phase, vl a13 k14 st.Cone, vl a19 k20 st.Leaf, vi st.At, vi st.Edge, vl a25 k26 st.Values, vl sta6 stk6 st.Queue, vi st.Steps]) (KS ?_))
 refine Oa (As0 sl22) fun c27 => ?_
 refine Jo 0 ?_; rintro a28 k29 rfl
 refine Oq (Vfa fo26_6 1) (Oq (VldF sh22 1) ?_)
 refine Jl [0] (Ent.crNil (α := Int) _) ?_
 refine Oa (Ap0 [0, 8] sl22 sl22 sz22) fun c30 => ?_
 refine Jo 0 ?_; rintro a31 k32 rfl
 refine Oq (Vfa fo26_6 1) (Ost (SclF [1] sh22 [vi st.Phase, vl a13 k14 st.Cone, vl a19 k20 st.Leaf, vi st.At, vi st.Edge, vl a25 k26 st.Values, vl a31 k32 st.Queue, vi st.Steps]) (KS ?_))
 refine Oq (VldA sh26 0) (Ost (Scl [5] sh26 [vi st.Phase, vl a13 k14 st.Cone, vl a19 k20 st.Leaf, vi st.At, vi st.Edge, vl a25 k26 st.Values, vl a31 k32 st.Queue, vi st.Steps]) (KS ?_))
 have hq := q4 hrr st (by simp only [r14_CopyState, cs4]); subst hq
 exact Kr (vl a13 k14 st.Cone, vl a19 k20 st.Leaf, vl a25 k26 st.Values, vl a31 k32 st.Queue) rfl (.cellN 0 rfl sh26 rfl (reads_Cl _ _) rfl .nil) [5, 4, 3, 2] en
theorem fn136 (a : Int) (ha_0 : i64ok a) (rr : Int) (hrr : r1_Clamp a = rr) : FT Tryz.prog 136 #[vi a] [] (fun g : Unit => i64ok rr ∧ (0 ≤ rr ∧ rr ≤ 1073741824)) (fun g => vi rr) (fun g => []) := by
 refine FTi Tryz.func136 fun w0 M0 F0 => ?_
 unfold i64ok at ha_0
 refine KS ?_
 refine Oq Va (KS ?_)
 refine Oq Vm (Oq Vmin (Oq Vmax (Oq Va (KS ?_))))
 have hq := q4 hrr (max 0 (min a 1073741824)) (by simp only [r1_Clamp, cs4]); subst hq
 exact Kr () rfl (.tmp rfl .nil) [] en
theorem fn94 (a : Int) (b : Int) (ha_0 : i64ok a) (hb_0 : i64ok b) (rr : Int) (hrr : r1_Add a b = rr) : FT Tryz.prog 94 #[vi a, vi b] [] (fun g : Unit => i64ok rr) (fun g => vi rr) (fun g => []) := by
 refine FTi Tryz.func94 fun w0 M0 F0 => ?_
 unfold i64ok at ha_0 hb_0
 refine KS ?_
 refine Oq Va (KS ?_)
 refine Oq Vm ?_
 refine letv (r1_Clamp a) fun rv1 hg2 => ?_
 have hc3 := fn136 a pre rv1 hg2
 refine Oc [] ca136 hc3 ?_
 rintro - ⟨he4, he5⟩
 unfold i64ok at he4
 refine Oq Vm ?_
 refine letv (r1_Clamp b) fun rv6 hg7 => ?_
 have hc8 := fn136 b pre rv6 hg7
 refine Oc [] ca136 hc8 ?_
 rintro - ⟨he9, he10⟩
 unfold i64ok at he9
 refine Oq Vadd ?_
 refine letv (r1_Clamp (rv1 + rv6)) fun rv11 hg12 => ?_
 have hc13 := fn136 ((rv1 + rv6)) pre rv11 hg12
 refine Oc [] ca136 hc13 ?_
 rintro - ⟨he14, he15⟩
 unfold i64ok at he14
 refine Oq Va (KS ?_)
 have hq := q4 hrr rv11 (by simp only [r1_Add, hg2, hg7, hg12, cs4]); subst hq
 exact Kr () rfl (.tmp rfl .nil) [] en
theorem fn95 (s : GSystem) (sa1 : Option Addr) (sk1 : Nat) (sa2 : Option Addr) (sk2 : Nat) (sa3 : Option Addr) (sk3 : Nat) (k : List GKnown) (ka0 : Option Addr) (kk0 : Nat) (st : GState) (sta1 : Option Addr) (stk1 : Nat) (sta2 : Option Addr) (stk2 : Nat) (sta5 : Option Addr) (stk5 : Nat) (sta6 : Option Addr) (stk6 : Nat) (hs_0 : i64ok s.Width) (hst_0 : i64ok st.Phase) (hst_3 : i64ok st.At) (hst_4 : i64ok st.Edge) (hst_7 : i64ok st.Steps) (hv : VSys s) (hd : DOk s k st) (rr : GState) (hrr : r14_demand s k st = rr) : FT Tryz.prog 95 #[.agg #[vi s.Width, vl sa1 sk1 s.Deps, vl sa2 sk2 s.Transfers, vl sa3 sk3 s.Boundary], vl ka0 kk0 k, .agg #[vi st.Phase, vl sta1 stk1 st.Cone, vl sta2 stk2 st.Leaf, vi st.At, vi st.Edge, vl sta5 stk5 st.Values, vl sta6 stk6 st.Queue, vi st.Steps]] [S sa1 sk1 s.Deps, S sa2 sk2 s.Transfers, S sa3 sk3 s.Boundary, S ka0 kk0 k, O sta1 stk1 st.Cone, O sta2 stk2 st.Leaf, O sta5 stk5 st.Values, O sta6 stk6 st.Queue] (fun g : Value × Value × Value × Value => i64ok rr.Phase ∧ i64ok rr.At ∧ i64ok rr.Edge ∧ i64ok rr.Steps) (fun g => .agg #[vi rr.Phase, g.1, g.2.1, vi rr.At, vi rr.Edge, g.2.2.1, g.2.2.2, vi rr.Steps]) (fun g => [sl g.1 rr.Cone, sl g.2.1 rr.Leaf, sl g.2.2.1 rr.Values, sl g.2.2.2 rr.Queue]) := by
 refine FTi Tryz.func95 fun w0 M0 F0 => ?_
 unfold i64ok at hs_0 hst_0 hst_3 hst_4 hst_7
 refine Fb 24 0 fun _ => Fb 88 1 fun _ => Fb 32 2 fun _ => Fb 40 3 fun _ => Fb 8 4 fun _ => Fo 4 fun ho6 => Fb 1 5 fun _ => Fb 32 6 fun _ => ?_
 refine Fb 8 7 fun _ => Fo 7 fun ho10 => ?_
 have hv1 := hv.n
 have hv2 := hv.tl
 have hv3 := hv.bl
 have hv4 := hv.w
 have hv5 := hv.dep_len
 have hcr := hd.b.cr
 have hq0 := hd.at_
 have hq1 := hd.b.lf
 have hq2 := hd.b.cl
 have hq3 := hd.b.vl
 have hq4 := hd.b.ql
 have hq5 := hd.ed
 have hqa := hcr _ (getD_mem (xs := st.Cone) (i := st.At.toNat) (d := 0) aM1)
 have hfa := rfind_eq k (st.Cone.getD st.At.toNat 0)
 refine KS ?_
 refine Oa (Ab [vi s.Width, vl sa1 sk1 s.Deps, vl sa2 sk2 s.Transfers, vl sa3 sk3 s.Boundary]) fun p11 => Oa (AbO [vi st.Phase, vl sta1 stk1 st.Cone, vl sta2 stk2 st.Leaf, vi st.At, vi st.Edge, vl sta5 stk5 st.Values, vl sta6 stk6 st.Queue, vi st.Steps]) fun p12 => Oa (Al ze26 [vi 0, .slice none 0 0, .slice none 0 0, vi 0, vi 0, .slice none 0 0, .slice none 0 0, vi 0]) fun p13 => KS ?_
 refine Oq (Vfa fo26_1 1) (Oq (VldF sh22 1) (Oq (Vfa fo26_3 1) (Oq (VldF sh3 1) (Oq (Vi sl22 7) ?_))))
 have hb14 := ok1 (i := st.At.toNat) ho6 rng
 refine Oq (VldI sh3 7) (Oq Va ?_)
 refine KT ?_
 refine KjC (γ := List Bool) (fun st2_15 => ⟨[(1, vl ka0 kk0 k), (3, p11), (5, p12), (6, p13), (7, vi (st.Cone.getD st.At.toNat 0))], [Cl p13 [vi 0, .slice none 0 0, .slice none 0 0, vi 0, vi 0, .slice none 0 0, .slice none 0 0, vi 0], Cl p12 [vi st.Phase, vl sta1 stk1 st.Cone, vl sta2 stk2 st.Leaf, vi st.At, vi st.Edge, vl sta5 stk5 st.Values, vl sta6 stk6 st.Queue, vi st.Steps], pv p11 [vi s.Width, vl sa1 sk1 s.Deps, vl sa2 sk2 s.Transfers, vl sa3 sk3 s.Boundary], S sa1 sk1 s.Deps, S sa2 sk2 s.Transfers, S sa3 sk3 s.Boundary, S ka0 kk0 k, O sta1 stk1 st.Cone, os (vl sta2 stk2 st.Leaf) st2_15, O sta5 stk5 st.Values, O sta6 stk6 st.Queue], r14_demand_J0 s k st st2_15 = rr ∧ BOk s k (GState.mk st.Phase st.Cone st2_15 st.At st.Edge st.Values st.Queue st.Steps), 0⟩) ?_ ?_
 ·skip
  refine KS ?_
  refine Oq (Vfa fo26_4 1) (Oq (VldF sh3 1) (Oq Veql (Oq Vm ?_)))
  refine Js 20 ?_ ?_
  ·intro h18
   have g19 := eq_of_beq h18
   refine Oq Vm (Oq Vm ?_)
   refine letv (r14_find k (st.Cone.getD st.At.toNat 0)) fun rv20 hg21 => ?_
   have hc22 := fn133 k ka0 kk0 ((st.Cone.getD st.At.toNat 0)) pre rv20 hg21
   refine Oc [6] ca133 hc22 ?_
   rintro - ⟨he23, he24⟩
   unfold i64ok at he23
   refine Oq Vgeq (Oq Vpt (KS ?_))
   refine Kc ?_ ?_
   ·intro h25
    have g26 := dt h25
    refine KS ?_
    refine Oq (Vfa fo26_2 1) (Oq (VldF sh23 1) (Oq (Vfa fo26_3 1) (Oq (VldF sh3 1) (Oq (Vi sl23 8) (Ost (SoB [8] sh4) (KS ?_))))))
    exact Kg (st.Leaf.set st.At.toNat true) [1, 1, 1, 2, 3, 4, 5, 6, 0, 5, 5] ⟨(q3 hrr (by simp only [r14_demand, h18, h25, hg21, cs4])), (by first | assumption | exact hd.b0 _ _ _ _ | exact hd.b1 _ _ _ _ aM1)⟩
   intro h25
   have g27 := df h25
   refine KS ?_
   exact Kg st.Leaf [0, 0, 0, 1, 2, 3, 4, 5, 5, 5, 5] ⟨(q3 hrr (by simp only [r14_demand, h18, h25, hg21, cs4])), (by first | assumption | exact hd.b0 _ _ _ _ | exact hd.b1 _ _ _ _ aM1)⟩
  intro h18
  have g28 := ne_of_beq_false h18
  refine Osk (Osk (Osk (Osk (Oq Vpf (KS ?_)))))
  refine Kf (KS ?_)
  exact Kg st.Leaf [0, 0, 0, 1, 2, 3, 4, 5, 5, 5, 5] ⟨(q3 hrr (by simp only [r14_demand, h18, cs4])), (by first | assumption | exact hd.b0 _ _ _ _ | exact hd.b1 _ _ _ _ aM1)⟩
 rintro st2_15 ⟨hM16, hv17⟩
 refine JJ_nx fun _ _ hL hA => ?_; dsimp only at hL hA; subst hL hA
 refine Fb 24 3 fun _ => Fb 88 4 fun _ => Fb 32 5 fun _ => Fb 40 6 fun _ => Fb 8 7 fun _ => Fo 7 fun ho34 => Fb 1 8 fun _ => Fl 8 fun hn36 => ?_
 refine Fb 32 9 fun _ => Fb 8 10 fun _ => Fo 10 fun ho39 => ?_
 have hbk := hv17
 have hbl : st2_15.length = st.Cone.length := hbk.lf
 refine KT ?_
 refine KjC (γ := List Bool) (fun st2_40 => ⟨[(1, vl ka0 kk0 k), (3, p11), (5, p12), (6, p13)], [Cl p13 [vi 0, .slice none 0 0, .slice none 0 0, vi 0, vi 0, .slice none 0 0, .slice none 0 0, vi 0], Cl p12 [vi st.Phase, vl sta1 stk1 st.Cone, vl sta2 stk2 st.Leaf, vi st.At, vi st.Edge, vl sta5 stk5 st.Values, vl sta6 stk6 st.Queue, vi st.Steps], pv p11 [vi s.Width, vl sa1 sk1 s.Deps, vl sa2 sk2 s.Transfers, vl sa3 sk3 s.Boundary], S sa1 sk1 s.Deps, S sa2 sk2 s.Transfers, S sa3 sk3 s.Boundary, S ka0 kk0 k, O sta1 stk1 st.Cone, os (vl sta2 stk2 st.Leaf) st2_40, O sta5 stk5 st.Values, O sta6 stk6 st.Queue], r14_demand_J1 s k st st2_40 = rr ∧ BOk s k (GState.mk st.Phase st.Cone st2_40 st.At st.Edge st.Values st.Queue st.Steps), 0⟩) ?_ ?_
 ·skip
  refine Jp 1 fun hp43 => ?_
  refine bool_split (!(st2_15.getD st.At.toNat false)) ?_ ?_
  ·intro h44
   have h46 := not_true h44
   refine JJ_peekL ((st.Cone.getD st.At.toNat 0) : Int).toNat 4 rfl rng fun a48 k49 => ?_
   refine Fb 8 1 fun _ => Fo 1 fun ho51 => ?_
   refine Kq [0, 1, 0, 4, 15, 31, 63, 127, 255, 511, 255, 1279, 255, 7423, 15615, 31999, 65535, 131071] fmix ?_
   refine Qv [2] (Vfa fo26_2 0) (Qv [4] (VldF sh23 0) (Qv [2] (Vfa fo26_3 0) (Qv [4] (VldF sh3 0) (Qv [11] (Vi sl23 0) (Qv [11] (VldB sh4 0) (Qb h44 [] Vnot (Qv [] Vm (Qv [2] (Vfa fo26_4 0) (Qv [4] (VldF sh3 0) ?_)))))))))
   refine Qv [5] (Vfa fo32_1 0) (Qv [5] (VldF sh29 0) (Qv [] Vm (Qv [6] (Vi sl29 0) (Qv [0] (Vld sh22 0) (Qv [] (Vlen sl22) (Qv [] Vlss (Qv [] Vpt ?_)))))))
   refine Qn ⟨by kernel_rfl, ?_⟩
   refine Kc ?_ ?_
   ·intro h52
    have g53 := dt h52
    refine KS ?_
    refine Kq [0, 1, 0, 7, 15, 0, 32, 127, 255, 511] fmix ?_
    refine Qv [5] (Vfa fo32_1 0) (Qv [5] (VldF sh29 0) (Qv [] Vm (Qv [6] (Vi sl29 0) (Qv [0] (Vld sh22 0) (Qv [2] (Vfa fo26_4 0) (Qv [4] (VldF sh3 0) (Qv [1] (Vi sl22 0) ?_)))))))
    have hb54 := ok1 (i := st.Edge.toNat) ho51 rng
    refine Qv [1] (VldI sh3 0) (Qv [] Va ?_)
    refine Qn ⟨by kernel_rfl, ?_⟩
    refine KS ?_
    refine Oq (Vfa fo26_1 4) (Oq (VldF sh22 4) (Oq Vm ?_))
    refine letv (r7_Has st.Cone ((s.Deps.getD ((st.Cone.getD st.At.toNat 0) : Int).toNat []).getD st.Edge.toNat 0)) fun rv55 hg56 => ?_
    refine Oc [10] ca99 (FT_borrow (A := _) (fun _ _ h => by cases h) (FT_ent (Ent.take (is := [0]) rfl) (fn99 st.Cone sta1 stk1 (((s.Deps.getD ((st.Cone.getD st.At.toNat 0) : Int).toNat []).getD st.Edge.toNat 0)) pre rv55 hg56))) ?_ (ht := rfl)
    rintro - -
    refine Oq Vnot (KS ?_)
    refine Kc ?_ ?_
    ·intro h57
     have h59 := not_true h57
     refine KS ?_
     refine Oq (Vfa fo26_1 5) (Oq (VldF sh22 5) (Oq Vm (Oa (AsV sl22 sz22 [vi ((s.Deps.getD ((st.Cone.getD st.At.toNat 0) : Int).toNat []).getD st.Edge.toNat 0)] [vi ((s.Deps.getD ((st.Cone.getD st.At.toNat 0) : Int).toNat []).getD st.Edge.toNat 0)]) fun c61 => ?_)))
     refine Jo 0 ?_; rintro a62 k63 rfl
     refine Jl [0] (Ent.crInt _ [((s.Deps.getD ((st.Cone.getD st.At.toNat 0) : Int).toNat []).getD st.Edge.toNat 0)] _ _ rfl rfl (by intro x hx; rw [List.mem_singleton] at hx; subst hx; unfold i64ok; omega) aB1) ?_
     refine Oa (ApO [1, 0] sl22 sl22 sz22) fun c64 => ?_
     refine Jo 0 ?_; rintro a65 k66 rfl
     refine Fb 8 0 fun _ => Fo 0 fun ho68 => ?_
     have hn69 := la st.Cone ([((s.Deps.getD ((st.Cone.getD st.At.toNat 0) : Int).toNat []).getD st.Edge.toNat 0)] : List Int)
     refine Oq (Vfa fo26_1 5) (Ost (SclF [5] sh22 [vi st.Phase, .slice a65 ((st.Cone ++ [((s.Deps.getD ((st.Cone.getD st.At.toNat 0) : Int).toNat []).getD st.Edge.toNat 0)]).length) k66, vl sta2 stk2 st.Leaf, vi st.At, vi st.Edge, vl sta5 stk5 st.Values, vl sta6 stk6 st.Queue, vi st.Steps]) (KS ?_))
     refine Oq (Vfa fo26_2 0) (Oq (VldF sh23 0) (Oa (AsV sl23 sz23 [vb false] [vb false]) fun c70 => ?_))
     refine Jo 0 ?_; rintro a71 k72 rfl
     refine Jl [0] (Ent.cr1 (α := Bool) (A := []) _ false _ aB1 (fun _ => rfl)) ?_
     refine Oa (ApO [12, 0] sl23 sl23 sz23) fun c73 => ?_
     refine Jo 0 ?_; rintro a74 k75 rfl
     refine Fb 1 0 fun _ => ?_
     have hn77 := la st2_15 ([false] : List Bool)
     refine Oq (Vfa fo26_2 1) (Ost (SclF [1] sh23 [vi st.Phase, .slice a65 ((st.Cone ++ [((s.Deps.getD ((st.Cone.getD st.At.toNat 0) : Int).toNat []).getD st.Edge.toNat 0)]).length) k66, vl a74 k75 (st2_15 ++ [false]), vi st.At, vi st.Edge, vl sta5 stk5 st.Values, vl sta6 stk6 st.Queue, vi st.Steps]) (KS ?_))
     refine Oq (Vfa fo26_4 0) (Oq (VldF sh3 0) (Oq Vadd (Oq (Vfa fo26_4 0) (Ost (SclF [0] sh3 [vi st.Phase, .slice a65 ((st.Cone ++ [((s.Deps.getD ((st.Cone.getD st.At.toNat 0) : Int).toNat []).getD st.Edge.toNat 0)]).length) k66, vl a74 k75 (st2_15 ++ [false]), vi st.At, vi (st.Edge + 1), vl sta5 stk5 st.Values, vl sta6 stk6 st.Queue, vi st.Steps]) (KS ?_)))))
     refine Oq (VldA sh26 0) (Ost (Scl [6] sh26 [vi st.Phase, .slice a65 ((st.Cone ++ [((s.Deps.getD ((st.Cone.getD st.At.toNat 0) : Int).toNat []).getD st.Edge.toNat 0)]).length) k66, vl a74 k75 (st2_15 ++ [false]), vi st.At, vi (st.Edge + 1), vl sta5 stk5 st.Values, vl sta6 stk6 st.Queue, vi st.Steps]) (KS ?_))
     refine Jl [3] (Ent.freeze _ _) ?_
     refine Jl [3] (Ent.freeze _ _) ?_
     refine Jl [12] (Ent.freeze _ _) ?_
     refine Jl [13] (Ent.freeze _ _) ?_
     have hq := q4 hM16 (GState.mk st.Phase (st.Cone ++ [((s.Deps.getD ((st.Cone.getD st.At.toNat 0) : Int).toNat []).getD st.Edge.toNat 0)]) (st2_15 ++ [false]) st.At (st.Edge + 1) st.Values st.Queue st.Steps) (by simp only [r14_demand_J0, h44, h46, h52, h57, h59, hg56, cs4]); subst hq
     exact Kr (.slice a65 ((st.Cone ++ [((s.Deps.getD ((st.Cone.getD st.At.toNat 0) : Int).toNat []).getD st.Edge.toNat 0)]).length) k66, vl a74 k75 (st2_15 ++ [false]), vl sta5 stk5 st.Values, vl sta6 stk6 st.Queue) rfl (.cellN 4 rfl sh26 rfl (reads_Cl _ _) rfl .nil) [3, 2, 1, 0] en
    intro h57
    have h79 := not_false h57
    refine KS ?_
    refine Oq (Vfa fo26_4 5) (Oq (VldF sh3 5) (Oq Vadd (Oq (Vfa fo26_4 5) (Ost (SclF [5] sh3 [vi st.Phase, vl sta1 stk1 st.Cone, vl sta2 stk2 st.Leaf, vi st.At, vi (st.Edge + 1), vl sta5 stk5 st.Values, vl sta6 stk6 st.Queue, vi st.Steps]) (KS ?_)))))
    refine Oq (VldA sh26 0) (Ost (Scl [5] sh26 [vi st.Phase, vl sta1 stk1 st.Cone, vl sta2 stk2 st.Leaf, vi st.At, vi (st.Edge + 1), vl sta5 stk5 st.Values, vl sta6 stk6 st.Queue, vi st.Steps]) (KS ?_))
    refine Jl [2] (Ent.freeze _ _) ?_
    refine Jl [11] (Ent.freeze _ _) ?_
    refine Jl [12] (Ent.freeze _ _) ?_
    refine Jl [13] (Ent.freeze _ _) ?_
    have hq := q4 hM16 (GState.mk st.Phase st.Cone st2_15 st.At (st.Edge + 1) st.Values st.Queue st.Steps) (by simp only [r14_demand_J0, h44, h46, h52, h57, h79, hg56, cs4]); subst hq
    exact Kr (vl sta1 stk1 st.Cone, vl sta2 stk2 st.Leaf, vl sta5 stk5 st.Values, vl sta6 stk6 st.Queue) rfl (.cellN 4 rfl sh26 rfl (reads_Cl _ _) rfl .nil) [3, 2, 1, 0] en
   intro h52
   have g81 := df h52
   refine KS ?_
   exact Kg st2_15 [3, 3, 3, 4, 5, 6, 7, 8, 8, 8, 8] ⟨(q3 hM16 (by simp only [r14_demand_J0, h44, h46, h52, cs4])), (by first | assumption | exact hd.b0 _ _ _ _ | exact hd.b1 _ _ _ _ aM1)⟩
  intro h44
  have h83 := not_false h44
  refine Kq [0, 1, 0, 4, 15, 31, 63, 127, 255, 511, 255, 1279, 255, 7423, 15615, 31999, 65535, 131071] fmix ?_
  refine Qv [0] (Vfa fo26_2 0) (Qv [2] (VldF sh23 0) (Qv [0] (Vfa fo26_3 0) (Qv [2] (VldF sh3 0) (Qv [9] (Vi sl23 0) (Qv [9] (VldB sh4 0) (Qb h44 [] Vnot (Qv [] Vm (Qs (Qs ?_)))))))))
  refine Qs (Qs (Qs (Qs (Qs (Qs (Qs (Qv [] Vpf ?_)))))))
  refine Qn ⟨by kernel_rfl, ?_⟩
  refine Kf (KS ?_)
  exact Kg st2_15 [1, 1, 1, 2, 3, 4, 5, 6, 6, 6, 6] ⟨(q3 hM16 (by simp only [r14_demand_J0, h44, h83, cs4])), (by first | assumption | exact hd.b0 _ _ _ _ | exact hd.b1 _ _ _ _ aM1)⟩
 rintro st2_40 ⟨hM41, hv42⟩
 refine JJ_nx fun _ _ hL hA => ?_; dsimp only at hL hA; subst hL hA
 refine Fb 24 3 fun _ => Fb 88 4 fun _ => Fb 32 5 fun _ => Fb 40 6 fun _ => Fb 8 7 fun _ => Fo 7 fun ho90 => Fb 1 8 fun _ => Fl 8 fun hn92 => ?_
 refine Fb 32 9 fun _ => Fb 8 10 fun _ => Fo 10 fun ho95 => ?_
 have hbk := hv42
 have hbl : st2_40.length = st.Cone.length := hbk.lf
 refine KS ?_
 refine Oq (Vfa fo26_3 1) (Oq (VldF sh3 1) (Oq Vadd (Oq (Vfa fo26_3 1) (Ost (SclF [1] sh3 [vi st.Phase, vl sta1 stk1 st.Cone, vl sta2 stk2 st.Leaf, vi (st.At + 1), vi st.Edge, vl sta5 stk5 st.Values, vl sta6 stk6 st.Queue, vi st.Steps]) (Oq (Vfa fo26_4 0) (Ost (SclF [0] sh3 [vi st.Phase, vl sta1 stk1 st.Cone, vl sta2 stk2 st.Leaf, vi (st.At + 1), vi 0, vl sta5 stk5 st.Values, vl sta6 stk6 st.Queue, vi st.Steps]) (KS ?_)))))))
 refine Oq (Vfa fo26_3 0) (Oq (VldF sh3 0) (Oq (Vfa fo26_1 0) (Oq (VldF sh22 0) (Oq (Vlen sl22) (Oq Vlss (KS ?_))))))
 refine Kc ?_ ?_
 ·intro h96
  have g97 := dt h96
  refine KS ?_
  refine Oq (VldA sh26 0) (Ost (Scl [1] sh26 [vi st.Phase, vl sta1 stk1 st.Cone, vl sta2 stk2 st.Leaf, vi (st.At + 1), vi 0, vl sta5 stk5 st.Values, vl sta6 stk6 st.Queue, vi st.Steps]) (KS ?_))
  refine Jl [7] (Ent.freeze _ _) ?_
  refine Jl [8] (Ent.freeze _ _) ?_
  refine Jl [9] (Ent.freeze _ _) ?_
  refine Jl [10] (Ent.freeze _ _) ?_
  have hq := q4 hM41 (GState.mk st.Phase st.Cone st2_40 (st.At + 1) 0 st.Values st.Queue st.Steps) (by simp only [r14_demand_J1, h96, cs4]); subst hq
  exact Kr (vl sta1 stk1 st.Cone, vl sta2 stk2 st.Leaf, vl sta5 stk5 st.Values, vl sta6 stk6 st.Queue) rfl (.cellN 4 rfl sh26 rfl (reads_Cl _ _) rfl .nil) [3, 2, 1, 0] en
 intro h96
 have g98 := df h96
 refine KS ?_
 refine Oq (Vfa fo26_0 0) (Ost (SclF [0] sh3 [vi 2, vl sta1 stk1 st.Cone, vl sta2 stk2 st.Leaf, vi (st.At + 1), vi 0, vl sta5 stk5 st.Values, vl sta6 stk6 st.Queue, vi st.Steps]) (Oq (Vfa fo26_3 0) (Ost (SclF [0] sh3 [vi 2, vl sta1 stk1 st.Cone, vl sta2 stk2 st.Leaf, vi 0, vi 0, vl sta5 stk5 st.Values, vl sta6 stk6 st.Queue, vi st.Steps]) (KS ?_))))
 refine Oq Va (KS ?_)
 refine Kl (γ := Nat × List GSet × List Int × Int × Option Addr × Nat × Option Addr × Nat) (fun (r99, st5_100, st6_101, i_102, a103, k104, a105, k106) => ⟨[(1, vl ka0 kk0 k), (3, p11), (5, p12), (6, p13), (9, vi i_102)], [O a105 k106 st6_101, O a103 k104 st5_100, Cl p12 [vi 2, vl sta1 stk1 st.Cone, vl sta2 stk2 st.Leaf, vi 0, vi 0, vl a103 k104 st5_100, vl a105 k106 st6_101, vi st.Steps], Cl p13 [vi 0, .slice none 0 0, .slice none 0 0, vi 0, vi 0, .slice none 0 0, .slice none 0 0, vi 0], pv p11 [vi s.Width, vl sa1 sk1 s.Deps, vl sa2 sk2 s.Transfers, vl sa3 sk3 s.Boundary], S sa1 sk1 s.Deps, S sa2 sk2 s.Transfers, S sa3 sk3 s.Boundary, S ka0 kk0 k, O sta1 stk1 st.Cone, os (vl sta2 stk2 st.Leaf) st2_40], r14_demand_L0 s k st st2_40 r99 st5_100 st6_101 i_102 = r14_demand_L0 s k st st2_40 (((st.Cone.length : Int) - 0).toNat) st.Values st.Queue 0 ∧ r99 = ((st.Cone.length : Int) - i_102).toNat ∧ (0 : Int) ≤ i_102 ∧ i_102 ≤ (st.Cone.length : Int) ∧ (-9223372036854775808 ≤ i_102 ∧ i_102 ≤ 9223372036854775807) ∧ (st5_100.length : Int) = i_102 ∧ (st6_101.length : Int) = i_102, r99⟩) (((st.Cone.length : Int) - 0).toNat, st.Values, st.Queue, 0, sta5, stk5, sta6, stk6) [10, 9, 0, 0, 0, 1, 2, 3, 4, 5, 5] ⟨rfl, rfl, aM1, aM1, aM1, iv0, iv0⟩ ?_
 rintro ⟨r99, st5_100, st6_101, i_102, a103, k104, a105, k106⟩ ⟨hM107, hr108, hi109, hi110, hk111, hv112, hv113⟩
 refine JJ_nx fun _ _ hL hA => ?_; dsimp only at hL hA; subst hL hA
 refine Fb 8 0 fun _ => Fo 0 fun ho115 => Fb 32 1 fun _ => Fb 24 5 fun _ => Fb 88 6 fun _ => Fb 32 7 fun _ => Fb 40 8 fun _ => Fb 8 9 fun _ => ?_
 refine Fo 9 fun ho122 => Fb 1 10 fun _ => ?_
 refine Fl 10 fun hn124 => ?_
 refine KS ?_
 refine Oq Vm (Oq (Vfa fo26_1 2) (Oq (VldF sh22 2) (Oq (Vlen sl22) (Oq Vlss (KS ?_)))))
 refine Kc ?_ ?_
 ·intro h125
  have g126 := dt h125
  have hq := hcr _ (getD_mem (xs := st.Cone) (i := i_102.toNat) (d := 0) aM1)
  obtain ⟨r127, rfl⟩ := scc (n := r99) aM1
  refine KS ?_
  refine Jp 2 fun hp128 => ?_
  refine JJ_peek_GSet ((st.Cone.getD i_102.toNat 0) : Int).toNat 8 rfl rng fun a129 k130 hb131 => ?_
  unfold i64ok at hb131
  refine Fb 8 1 fun _ => ?_
  refine JK_drawK [0, 1, 0, 4, 0, 28, 60, 127, 255, 0, 1023] fmix ?_
  refine Dv [7] (Vfa fo32_3 0) (Dv [7] (VldF sh24 0) (Dv [2] (Vfa fo26_1 0) (Dv [5] (VldF sh22 0) (Dv [] Vm (Dv [12] (Vi sl22 0) ?_)))))
  have hb133 := ok1 (i := i_102.toNat) ho122 rng
  refine Dv [12] (VldI sh3 0) (Dv [10] (Vi sl24 0) (Dv [0] (VldA sh39 0) (Dx [] [] [0] (fun G => (G.g 9 0)) [fun G => Cl (G.g 9 0) [vi 0, .slice none 0 0]] (fun G => xA (Al ze39 [vi 0, .slice none 0 0])) (Dx0 [14] [14] [0] [fun G => Cl (G.g 9 0) [vi ((s.Boundary.getD ((st.Cone.getD i_102.toNat 0) : Int).toNat default).Width), .slice a129 (((s.Boundary.getD ((st.Cone.getD i_102.toNat 0) : Int).toNat default).Words).length) k130]] (fun G => xS (Scl [0] sh39 [vi ((s.Boundary.getD ((st.Cone.getD i_102.toNat 0) : Int).toNat default).Width), .slice a129 (((s.Boundary.getD ((st.Cone.getD i_102.toNat 0) : Int).toNat default).Words).length) k130])) ?_))))
  refine Dn ⟨by kernel_rfl, fun G => ?_⟩
  refine Jw2 [(1, vl ka0 kk0 k), (3, p11), (5, p12), (6, p13), (9, vi i_102), (10, (G.g 9 0))] [0, 1, 2, 3, 4, 5, 6, 7, 8, 9, 10, 11, 12, 13] [Cl (G.g 9 0) [vi ((s.Boundary.getD ((st.Cone.getD i_102.toNat 0) : Int).toNat default).Width), .slice a129 (((s.Boundary.getD ((st.Cone.getD i_102.toNat 0) : Int).toNat default).Words).length) k130]] ?_
  generalize G.g 9 0 = p134
  refine Jk [0, 1, 3, 3, 3, 3, 3, 4, 5, 6, 7, 8, 8, 8] ?_
  refine KS ?_
  refine Oq (Vfa fo26_2 4) (Oq (VldF sh23 4) (Oq Vm (Oq (Vi sl23 12) (Oq (VldB sh4 12) (KS ?_)))))
  refine Kc ?_ ?_
  ·intro h135
   have hlf := hbk.leaf i_102.toNat (by show _ < st.Cone.length; omega) h135
   have hfe := rfind_eq k (st.Cone.getD i_102.toNat 0)
   dsimp only at hlf
   refine KS ?_
   refine Oq Vm (Oq Vm (Oq (Vfa fo26_1 4) (Oq (VldF sh22 4) (Oq Vm (Oq (Vi sl22 11) ?_)))))
   have hb137 := ok1 (i := i_102.toNat) ho122 rng
   refine Oq (VldI sh3 11) ?_
   refine letv (r14_find k (st.Cone.getD i_102.toNat 0)) fun rv138 hg139 => ?_
   have hc140 := fn133 k ka0 kk0 ((st.Cone.getD i_102.toNat 0)) pre rv138 hg139
   refine Oc [10] ca133 hc140 ?_
   rintro - ⟨he141, he142⟩
   unfold i64ok at he141
   refine Oq (Vi sl88 10) ?_
   refine JJ_peek_GKnown rv138.toNat 10 rfl rng fun a143 k144 hb145 hb146 => ?_
   unfold i64ok at hb145 hb146
   refine Fb 8 1 fun _ => ?_
   refine Oq (Vfa fo144_1 0) (Oq (VldG sh39 0 [vi (((k.getD rv138.toNat default).Value).Width), vl a143 k144 (((k.getD rv138.toNat default).Value).Words)]) (Ost (Scl [15] sh39 [vi (((k.getD rv138.toNat default).Value).Width), vl a143 k144 (((k.getD rv138.toNat default).Value).Words)]) (KS ?_)))
   refine Oq (Vfa fo26_5 7) (Oq (VldF sh24 7) (Oq (VldA sh39 0) (Oa (AsV sl24 sz24 [.agg #[vi (((k.getD rv138.toNat default).Value).Width), vl a143 k144 (((k.getD rv138.toNat default).Value).Words)]] [vi (((k.getD rv138.toNat default).Value).Width), vl a143 k144 (((k.getD rv138.toNat default).Value).Words)]) fun c148 => ?_)))
   refine Jo 0 ?_; rintro a149 k150 rfl
   refine Jl [0, 2] (Ent.cr1 (α := GSet) (A := [S a143 k144 (((k.getD rv138.toNat default).Value).Words)]) _ ((k.getD rv138.toNat default).Value) _ aB1 (fun h => ⟨_, rfl, aL1, sepAll_get (i := 0) rfl h⟩)) ?_
   refine Oa (ApO [8, 0] sl24 sl24 sz24) fun c151 => ?_
   refine Jo 0 ?_; rintro a152 k153 rfl
   refine Fb 32 0 fun _ => ?_
   have hn155 := la st5_100 ([((k.getD rv138.toNat default).Value)] : List GSet)
   refine Oq (Vfa fo26_5 8) (Ost (SclF [8] sh24 [vi 2, vl sta1 stk1 st.Cone, vl sta2 stk2 st.Leaf, vi 0, vi 0, vl a152 k153 (st5_100 ++ [((k.getD rv138.toNat default).Value)]), vl a105 k106 st6_101, vi st.Steps]) (KS ?_))
   refine Oq (Vfa fo26_6 0) (Oq (VldF sh22 0) (Oq (Vfa fo26_1 0) (Oq (VldF sh22 0) (Oq (Vlen sl22) (Oq Vsub (Oq Vm (Oq Vsub (Oa (AsV sl22 sz22 [vi (((st.Cone.length : Int) - 1) - i_102)] [vi (((st.Cone.length : Int) - 1) - i_102)]) fun c156 => ?_))))))))
   refine Jo 0 ?_; rintro a157 k158 rfl
   refine Jl [0] (Ent.crInt _ [(((st.Cone.length : Int) - 1) - i_102)] _ _ rfl rfl (by intro x hx; rw [List.mem_singleton] at hx; subst hx; unfold i64ok; omega) aB1) ?_
   refine Oa (ApO [9, 0] sl22 sl22 sz22) fun c159 => ?_
   refine Jo 0 ?_; rintro a160 k161 rfl
   refine Fb 8 0 fun _ => Fo 0 fun ho163 => ?_
   have hn164 := la st6_101 ([(((st.Cone.length : Int) - 1) - i_102)] : List Int)
   refine Oq (Vfa fo26_6 1) (Ost (SclF [1] sh22 [vi 2, vl sta1 stk1 st.Cone, vl sta2 stk2 st.Leaf, vi 0, vi 0, vl a152 k153 (st5_100 ++ [((k.getD rv138.toNat default).Value)]), .slice a160 ((st6_101 ++ [(((st.Cone.length : Int) - 1) - i_102)]).length) k161, vi st.Steps]) (KS ?_))
   refine Oq Vm (Oq Vadd (Oq Va (KS ?_)))
   exact Kg (r127, (st5_100 ++ [((k.getD rv138.toNat default).Value)]), (st6_101 ++ [(((st.Cone.length : Int) - 1) - i_102)]), (i_102 + 1), a152, k153, a160, k161) [1, 1, 0, 6, 6, 7, 8, 9, 10, 11, 11] ⟨(q3 hM107 (by simp only [r14_demand_L0, h125, h135, hg139, cs4])), aM1, aM1, aM1, aM1, iv1, iv1⟩
  intro h135
  refine KS ?_
  refine Oq (Vfa fo26_5 4) (Oq (VldF sh24 4) (Oq (VldA sh39 13) (Oa (AsV sl24 sz24 [.agg #[vi ((s.Boundary.getD ((st.Cone.getD i_102.toNat 0) : Int).toNat default).Width), .slice a129 (((s.Boundary.getD ((st.Cone.getD i_102.toNat 0) : Int).toNat default).Words).length) k130]] [vi ((s.Boundary.getD ((st.Cone.getD i_102.toNat 0) : Int).toNat default).Width), .slice a129 (((s.Boundary.getD ((st.Cone.getD i_102.toNat 0) : Int).toNat default).Words).length) k130]) fun c166 => ?_)))
  refine Jo 0 ?_; rintro a167 k168 rfl
  refine Jl [0, 1] (Ent.cr1 (α := GSet) (A := [S a129 k130 ((s.Boundary.getD ((st.Cone.getD i_102.toNat 0) : Int).toNat default).Words)]) _ (s.Boundary.getD ((st.Cone.getD i_102.toNat 0) : Int).toNat default) _ aB1 (fun h => ⟨_, rfl, aL1, sepAll_get (i := 0) rfl h⟩)) ?_
  refine Oa (ApO [5, 0] sl24 sl24 sz24) fun c169 => ?_
  refine Jo 0 ?_; rintro a170 k171 rfl
  refine Fb 32 0 fun _ => ?_
  have hn173 := la st5_100 ([(s.Boundary.getD ((st.Cone.getD i_102.toNat 0) : Int).toNat default)] : List GSet)
  refine Oq (Vfa fo26_5 5) (Ost (SclF [5] sh24 [vi 2, vl sta1 stk1 st.Cone, vl sta2 stk2 st.Leaf, vi 0, vi 0, .slice a170 ((st5_100 ++ [(s.Boundary.getD ((st.Cone.getD i_102.toNat 0) : Int).toNat default)]).length) k171, vl a105 k106 st6_101, vi st.Steps]) (KS ?_))
  refine Oq (Vfa fo26_6 0) (Oq (VldF sh22 0) (Oq (Vfa fo26_1 0) (Oq (VldF sh22 0) (Oq (Vlen sl22) (Oq Vsub (Oq Vm (Oq Vsub (Oa (AsV sl22 sz22 [vi (((st.Cone.length : Int) - 1) - i_102)] [vi (((st.Cone.length : Int) - 1) - i_102)]) fun c174 => ?_))))))))
  refine Jo 0 ?_; rintro a175 k176 rfl
  refine Jl [0] (Ent.crInt _ [(((st.Cone.length : Int) - 1) - i_102)] _ _ rfl rfl (by intro x hx; rw [List.mem_singleton] at hx; subst hx; unfold i64ok; omega) aB1) ?_
  refine Oa (ApO [6, 0] sl22 sl22 sz22) fun c177 => ?_
  refine Jo 0 ?_; rintro a178 k179 rfl
  refine Fb 8 0 fun _ => Fo 0 fun ho181 => ?_
  have hn182 := la st6_101 ([(((st.Cone.length : Int) - 1) - i_102)] : List Int)
  refine Oq (Vfa fo26_6 1) (Ost (SclF [1] sh22 [vi 2, vl sta1 stk1 st.Cone, vl sta2 stk2 st.Leaf, vi 0, vi 0, .slice a170 ((st5_100 ++ [(s.Boundary.getD ((st.Cone.getD i_102.toNat 0) : Int).toNat default)]).length) k171, .slice a178 ((st6_101 ++ [(((st.Cone.length : Int) - 1) - i_102)]).length) k179, vi st.Steps]) (KS ?_))
  refine Oq Vm (Oq Vadd (Oq Va (KS ?_)))
  exact Kg (r127, (st5_100 ++ [(s.Boundary.getD ((st.Cone.getD i_102.toNat 0) : Int).toNat default)]), (st6_101 ++ [(((st.Cone.length : Int) - 1) - i_102)]), (i_102 + 1), a170, k171, a178, k179) [1, 1, 0, 3, 3, 4, 5, 6, 7, 8, 8] ⟨(q3 hM107 (by simp only [r14_demand_L0, h125, h135, cs4])), aM1, aM1, aM1, aM1, iv1, iv1⟩
 intro h125
 have g183 := df h125
 obtain rfl : r99 = 0 := by omega
 refine Ke ?_
 have hR184 := q2 hM107 (st5_100, st6_101) (by simp only [r14_demand_L0, h125, cs4])
 refine KS ?_
 refine Oq (VldA sh26 2) (Ost (Scl [3] sh26 [vi 2, vl sta1 stk1 st.Cone, vl sta2 stk2 st.Leaf, vi 0, vi 0, vl a103 k104 st5_100, vl a105 k106 st6_101, vi st.Steps]) (KS ?_))
 refine Jl [9] (Ent.freeze _ _) ?_
 refine Jl [10] (Ent.freeze _ _) ?_
 refine Jl [4] (Ent.freeze _ _) ?_
 refine Jl [4] (Ent.freeze _ _) ?_
 have hq := q4 hM41 (GState.mk 2 st.Cone st2_40 0 0 st5_100 st6_101 st.Steps) (by simp only [r14_demand_J1, h96, h125, hR184, cs4]); subst hq
 exact Kr (vl sta1 stk1 st.Cone, vl sta2 stk2 st.Leaf, vl a103 k104 st5_100, vl a105 k106 st6_101) rfl (.cellN 4 rfl sh26 rfl (reads_Cl _ _) rfl .nil) [3, 2, 1, 0] en
theorem fn96 (s : GSystem) (sa1 : Option Addr) (sk1 : Nat) (sa2 : Option Addr) (sk2 : Nat) (sa3 : Option Addr) (sk3 : Nat) (cone : List Int) (conea0 : Option Addr) (conek0 : Nat) (leaf : List Bool) (leafa0 : Option Addr) (leafk0 : Nat) (i : Int) (hs_0 : i64ok s.Width) (hi_0 : i64ok i) (rr : List Int) (hrr : r14_Dependents s cone leaf i = rr) : FT Tryz.prog 96 #[.agg #[vi s.Width, vl sa1 sk1 s.Deps, vl sa2 sk2 s.Transfers, vl sa3 sk3 s.Boundary], vl conea0 conek0 cone, vl leafa0 leafk0 leaf, vi i] [S sa1 sk1 s.Deps, S sa2 sk2 s.Transfers, S sa3 sk3 s.Boundary, S conea0 conek0 cone, S leafa0 leafk0 leaf] (fun g : Value => (rr.length ≤ cone.length)) (fun g => g) (fun g => [os g rr]) := by
 refine FTi Tryz.func96 fun w0 M0 F0 => ?_
 unfold i64ok at hs_0 hi_0
 refine Fb 24 0 fun _ => Fb 88 1 fun _ => Fb 32 2 fun _ => Fb 8 3 fun _ => Fo 3 fun ho5 => Fb 1 4 fun _ => KS ?_
 refine Oa (Ab [vi s.Width, vl sa1 sk1 s.Deps, vl sa2 sk2 s.Transfers, vl sa3 sk3 s.Boundary]) fun p7 => Oq Va (KS ?_)
 refine Oq Va (KS ?_)
 refine Oq (VldA sh32 0) ?_
 refine letv (r10_Valid s) fun rv8 hg9 => ?_
 have hc10 := fn50 s sa1 sk1 sa2 sk2 sa3 sk3 pre rv8 hg9
 refine Oc [1, 2, 3] ca50 hc10 ?_
 rintro - -
 refine Oq Vnot (Oq Vm ?_)
 refine Js 14 ?_ ?_
 ·intro h11
  have h13 := not_true h11
  refine Osk (Osk (Osk (Osk (Oq Vpt (Oq Vm (Osk (Osk (Osk (Osk ?_)))))))))
  refine Osk (Oq Vpt (Oq Vm (Osk (Osk (Oq Vpt (Oq Vm (Osk (Osk (Osk ?_)))))))))
  refine Osk (Oq Vpt (KS ?_))
  refine Kt (KS ?_)
  refine Oq Va (KS ?_)
  refine Jl [] (Ent.osNil (α := Int)) ?_
  have hq := q4 hrr ([] : List Int) (by simp only [r14_Dependents, h11, h13, hg9, cs4]); subst hq
  exact Kr (.slice none 0 0) rfl (.tmp rfl .nil) [0] en
 intro h11
 have h16 := not_false h11
 try (have hvs := (RefValid_iff s).1 (by simp only [h11, h16, hg9]); have hv3 := hvs.bl)
 try (have hcr := inside_dep hvs (l := cone) (by simp only [h11, h16, hg9]))
 refine Oq (VldA sh32 0) (Oq Vm ?_)
 refine letv (r14_inside s cone) fun rv18 hg19 => ?_
 have hc20 := fn90 s sa1 sk1 sa2 sk2 sa3 sk3 cone conea0 conek0 pre rv18 hg19
 refine Oc [1, 2, 3, 4] ca90 hc20 ?_
 rintro - -
 refine Oq Vnot (Oq Vpf (Oq Vm ?_))
 refine Js 20 ?_ ?_
 ·intro h21
  have h23 := not_true h21
  refine Osk (Osk (Osk (Osk (Osk (Oq Vpt (Oq Vm (Osk (Osk (Oq Vpt ?_)))))))))
  refine Oq Vm (Osk (Osk (Osk (Osk (Oq Vpt (KS ?_))))))
  refine Kt (KS ?_)
  refine Oq Va (KS ?_)
  refine Jl [] (Ent.osNil (α := Int)) ?_
  have hq := q4 hrr ([] : List Int) (by simp only [r14_Dependents, h11, h16, h21, h23, hg9, hg19, cs4]); subst hq
  exact Kr (.slice none 0 0) rfl (.tmp rfl .nil) [0] en
 intro h21
 have h26 := not_false h21
 try (have hvs := (RefValid_iff s).1 (by simp only [h11, h16, h21, h26, hg9, hg19]); have hv3 := hvs.bl)
 try (have hcr := inside_dep hvs (l := cone) (by simp only [h11, h16, h21, h26, hg9, hg19]))
 refine Oq Vm (Oq (Vlen sl23) (Oq Vm (Oq (Vlen sl22) (Oq Vneq (Oq Vpf (Oq Vm ?_))))))
 refine Js 27 ?_ ?_
 ·intro h28
  have g29 := ne_of_bne h28
  refine Osk (Osk (Oq Vpt (Oq Vm (Osk (Osk (Osk (Osk (Oq Vpt (KS ?_)))))))))
  refine Kt (KS ?_)
  refine Oq Va (KS ?_)
  refine Jl [] (Ent.osNil (α := Int)) ?_
  have hq := q4 hrr ([] : List Int) (by simp only [r14_Dependents, h11, h16, h21, h26, h28, hg9, hg19, cs4]); subst hq
  exact Kr (.slice none 0 0) rfl (.tmp rfl .nil) [0] en
 intro h28
 have g30 := eq_of_bne_false h28
 refine Oq Vm (Oq Vlss (Oq Vpf (Oq Vm ?_)))
 refine Js 31 ?_ ?_
 ·intro h31
  have g32 := dt h31
  refine Osk (Osk (Osk (Osk (Oq Vpt (KS ?_)))))
  refine Kt (KS ?_)
  refine Oq Va (KS ?_)
  refine Jl [] (Ent.osNil (α := Int)) ?_
  have hq := q4 hrr ([] : List Int) (by simp only [r14_Dependents, h11, h16, h21, h26, h28, h31, hg9, hg19, cs4]); subst hq
  exact Kr (.slice none 0 0) rfl (.tmp rfl .nil) [0] en
 intro h31
 have g33 := df h31
 refine Oq Vm (Oq Vm (Oq (Vlen sl22) (Oq Vgeq (Oq Vpf (KS ?_)))))
 refine Kc ?_ ?_
 ·intro h34
  have g35 := dt h34
  refine KS ?_
  refine Oq Va (KS ?_)
  refine Jl [] (Ent.osNil (α := Int)) ?_
  have hq := q4 hrr ([] : List Int) (by simp only [r14_Dependents, h11, h16, h21, h26, h28, h31, h34, hg9, hg19, cs4]); subst hq
  exact Kr (.slice none 0 0) rfl (.tmp rfl .nil) [0] en
 intro h34
 have g36 := df h34
 refine KS ?_
 refine Oq Va (KS ?_)
 refine Jl [] (Ent.osNil (α := Int)) ?_
 refine Kl (γ := Nat × List Int × Int × Option Addr × Nat) (fun (r37, out_38, j_39, a40, k41) => ⟨[(1, vl conea0 conek0 cone), (2, vl leafa0 leafk0 leaf), (3, vi i), (4, p7), (9, vl a40 k41 out_38), (10, vi j_39)], [O a40 k41 out_38, pv p7 [vi s.Width, vl sa1 sk1 s.Deps, vl sa2 sk2 s.Transfers, vl sa3 sk3 s.Boundary], S sa1 sk1 s.Deps, S sa2 sk2 s.Transfers, S sa3 sk3 s.Boundary, S conea0 conek0 cone, S leafa0 leafk0 leaf], r14_Dependents_L0 s cone leaf i r37 out_38 j_39 = r14_Dependents_L0 s cone leaf i (((cone.length : Int) - 0).toNat) [] 0 ∧ r37 = ((cone.length : Int) - j_39).toNat ∧ (0 : Int) ≤ j_39 ∧ j_39 ≤ (cone.length : Int) ∧ (-9223372036854775808 ≤ j_39 ∧ j_39 ≤ 9223372036854775807) ∧ (out_38.length : Int) ≤ j_39, r37⟩) (((cone.length : Int) - 0).toNat, [], 0, none, 0) [0, 0, 1, 2, 3, 4, 5] ⟨rfl, rfl, aM1, aM1, aM1, iv0⟩ ?_
 rintro ⟨r37, out_38, j_39, a40, k41⟩ ⟨hM42, hr43, hi44, hi45, hk46, hv47⟩
 refine JJ_nx fun _ _ hL hA => ?_; dsimp only at hL hA; subst hL hA
 refine Fb 8 0 fun _ => Fo 0 fun ho49 => Fb 24 2 fun _ => Fb 88 3 fun _ => Fb 32 4 fun _ => Fb 8 5 fun _ => Fo 5 fun ho54 => Fb 1 6 fun _ => KS ?_
 refine Oq Vm (Oq Vm (Oq (Vlen sl22) (Oq Vlss (KS ?_))))
 refine Kc ?_ ?_
 ·intro h56
  have g57 := dt h56
  have hq := hcr _ (getD_mem (xs := cone) (i := j_39.toNat) (d := 0) aM1)
  obtain ⟨r58, rfl⟩ := scc (n := r37) aM1
  refine KS ?_
  refine bool_split (!(leaf.getD j_39.toNat false)) ?_ ?_
  ·intro h59
   have h61 := not_true h59
   refine JJ_peekL ((cone.getD j_39.toNat 0) : Int).toNat 2 rfl rng fun a63 k64 => ?_
   refine Fb 8 1 fun _ => Fo 1 fun ho66 => ?_
   refine JK_drawK [0, 0, 3, 7, 15, 31, 63, 127, 63, 63, 831, 1855, 4095, 8191, 63, 63, 49215, 114751, 262143, 524287] fmix ?_
   refine Dv [] Vm (Dv [] Vm (Dv [8] (Vi sl23 0) (Dv [8] (VldB sh4 0) (Db h59 [] Vnot (Dv [] Vm (Dv [3] (Vfa fo32_1 0) (Dv [3] (VldF sh29 0) (Dv [] Vm (Dv [] Vm ?_)))))))))
   refine Dv [7] (Vi sl22 0) ?_
   have hb67 := ok1 (i := j_39.toNat) ho54 rng
   refine Dv [7] (VldI sh3 0) (Dv [4] (Vi sl29 0) (Dv [0] (Vld sh22 0) (Dv [] Vm (Dv [] Vm (Dv [7] (Vi sl22 0) ?_)))))
   have hb68 := ok1 (i := i.toNat) ho54 rng
   refine Dv [7] (VldI sh3 0) ?_
   refine letv (r7_Has (s.Deps.getD ((cone.getD j_39.toNat 0) : Int).toNat []) (cone.getD i.toNat 0)) fun rv69 hg70 => ?_
   refine Dx [1] [] [1, 0] (fun G => vb rv69) [fun G => SP.fact (True)] (fun G => xC [0] ca99 (fn99 ((s.Deps.getD ((cone.getD j_39.toNat 0) : Int).toNat [])) a63 k64 ((cone.getD i.toNat 0)) pre rv69 hg70)) (Dv [] Vpt ?_)
   refine Dn ⟨by kernel_rfl, fun G => ?_⟩
   refine Jw2 [(1, vl conea0 conek0 cone), (2, vl leafa0 leafk0 leaf), (3, vi i), (4, p7), (9, vl a40 k41 out_38), (10, vi j_39), (62, vb rv69)] [0, 1, 2, 3, 4, 5, 6, 7, 8] [SP.fact (True)] ?_
   refine Jk [0, 1, 2, 2, 3, 4, 5, 6, 7] ?_
   refine Kc ?_ ?_
   ·intro h71
    try (have hvs := (RefValid_iff s).1 (by simp only [h11, h16, h21, h26, h28, h31, h34, h56, h59, h61, h71, hg9, hg19, hg70]); have hv3 := hvs.bl)
    try (have hcr := inside_dep hvs (l := cone) (by simp only [h11, h16, h21, h26, h28, h31, h34, h56, h59, h61, h71, hg9, hg19, hg70]))
    refine KS ?_
    refine Oq Vm (Oq Vm (Oa (AsV sl22 sz22 [vi j_39] [vi j_39]) fun c73 => ?_))
    refine Jo 0 ?_; rintro a74 k75 rfl
    refine Jl [0] (Ent.crInt _ [j_39] _ _ rfl rfl (by intro x hx; rw [List.mem_singleton] at hx; subst hx; unfold i64ok; omega) aB1) ?_
    refine Oa (ApO [3, 0] sl22 sl22 sz22) fun c76 => ?_
    refine Jo 0 ?_; rintro a77 k78 rfl
    refine Fb 8 0 fun _ => Fo 0 fun ho80 => ?_
    have hn81 := la out_38 ([j_39] : List Int)
    refine Oq Va (KS ?_)
    refine Oq Vm (Oq Vadd (Oq Va (KS ?_)))
    exact Kg (r58, (out_38 ++ [j_39]), (j_39 + 1), a77, k78) [0, 2, 3, 4, 5, 6, 7] ⟨(q3 hM42 (by simp only [r14_Dependents_L0, h56, h59, h61, h71, hg70, cs4])), aM1, aM1, aM1, aM1, iv1⟩
   intro h71
   refine KS ?_
   refine Oq Vm (Oq Vadd (Oq Va (KS ?_)))
   exact Kg (r58, out_38, (j_39 + 1), a40, k41) [2, 2, 3, 4, 5, 6, 7] ⟨(q3 hM42 (by simp only [r14_Dependents_L0, h56, h59, h61, h71, hg70, cs4])), aM1, aM1, aM1, aM1, iv1⟩
  intro h59
  have h84 := not_false h59
  refine Kq [0, 0, 3, 7, 15, 31, 63, 127, 63, 63, 831, 1855, 4095, 8191, 63, 63, 49215, 114751, 262143, 524287] fmix ?_
  refine Qv [] Vm (Qv [] Vm (Qv [6] (Vi sl23 0) (Qv [6] (VldB sh4 0) (Qb h59 [] Vnot (Qv [] Vm (Qs (Qs (Qs (Qs ?_)))))))))
  refine Qs (Qs (Qs (Qs (Qs (Qs (Qs (Qs (Qs (Qv [] Vpf ?_)))))))))
  refine Qn ⟨by kernel_rfl, ?_⟩
  refine Kf (KS ?_)
  refine Oq Vm (Oq Vadd (Oq Va (KS ?_)))
  exact Kg (r58, out_38, (j_39 + 1), a40, k41) [0, 0, 1, 2, 3, 4, 5] ⟨(q3 hM42 (by simp only [r14_Dependents_L0, h56, h59, h84, cs4])), aM1, aM1, aM1, aM1, iv1⟩
 intro h56
 have g86 := df h56
 obtain rfl : r37 = 0 := by omega
 refine Ke ?_
 have hR87 := q2 hM42 out_38 (by simp only [r14_Dependents_L0, h56, cs4])
 refine KS ?_
 refine Oq Vm (Oq Va (KS ?_))
 have hq := q4 hrr out_38 (by simp only [r14_Dependents, h11, h16, h21, h26, h28, h31, h34, h56, hg9, hg19, hR87, cs4]); subst hq
 exact Kr (vl a40 k41 out_38) rfl (.tmp rfl .nil) [0] en
theorem fn167 (t : GTransfer) (ta1 : Option Addr) (tk1 : Nat) (ta3 : Option Addr) (tk3 : Nat) (ta4 : Option Addr) (tk4 : Nat) (a : Int) (b : Int) (ht_0 : i64ok t.Gen.Width) (ht_2 : i64ok t.Kill.Width) (ha_0 : i64ok a) (hb_0 : i64ok b) (rr : Bool) (hrr : r1_follows t a b = rr) : FT Tryz.prog 167 #[.agg #[vi t.Gen.Width, vl ta1 tk1 t.Gen.Words, vi t.Kill.Width, vl ta3 tk3 t.Kill.Words, vl ta4 tk4 t.Copies], vi a, vi b] [S ta1 tk1 t.Gen.Words, S ta3 tk3 t.Kill.Words, S ta4 tk4 t.Copies] (fun g : Unit => True) (fun g => vb rr) (fun g => []) := by
 refine FTi Tryz.func167 fun w0 M0 F0 => ?_
 unfold i64ok at ht_0 ht_2 ha_0 hb_0
 refine Fb 8 0 fun _ => Fb 8 1 fun _ => Fb 16 2 fun _ => KS ?_
 refine Oa (Ab [vi t.Gen.Width, vl ta1 tk1 t.Gen.Words, vi t.Kill.Width, vl ta3 tk3 t.Kill.Words, vl ta4 tk4 t.Copies]) fun p4 => Oq Va (KS ?_)
 refine Oq Vm (Oq Vm (Oq Veql (Oq Vm ?_)))
 refine Js 11 ?_ ?_
 ·intro h5
  have g6 := eq_of_beq h5
  refine Oq (Vfa fo85_1 0) (Oq (VldG sh39 0 [vi t.Kill.Width, vl ta3 tk3 t.Kill.Words]) (Oq Vm ?_))
  refine letv (r1_Has t.Kill a) fun rv7 hg8 => ?_
  have hc9 := fn142 t.Kill ta3 tk3 a pre pre rv7 hg8
  refine Oc [2] ca142 hc9 ?_
  rintro - -
  refine Oq Vnot (Oq Vpt (KS ?_))
  refine Kc ?_ ?_
  ·intro h10
   have h12 := not_true h10
   refine KS ?_
   refine Oq Va (KS ?_)
   have hq := q4 hrr true (by simp only [r1_follows, h5, h10, h12, hg8, cs4]); subst hq
   exact Kr () rfl (.tmp rfl .nil) [] trivial
  intro h10
  have h15 := not_false h10
  refine KS ?_
  refine Oq Va (KS ?_)
  refine Kl (γ := Nat × Int) (fun (r17, i_18) => ⟨[(1, vi a), (2, vi b), (3, p4), (7, vi i_18)], [pv p4 [vi t.Gen.Width, vl ta1 tk1 t.Gen.Words, vi t.Kill.Width, vl ta3 tk3 t.Kill.Words, vl ta4 tk4 t.Copies], S ta1 tk1 t.Gen.Words, S ta3 tk3 t.Kill.Words, S ta4 tk4 t.Copies], r1_follows_L0 t a b r17 i_18 = r1_follows_L0 t a b (((t.Copies.length : Int) - 0).toNat) 0 ∧ r17 = ((t.Copies.length : Int) - i_18).toNat ∧ (0 : Int) ≤ i_18 ∧ i_18 ≤ (t.Copies.length : Int) ∧ (-9223372036854775808 ≤ i_18 ∧ i_18 ≤ 9223372036854775807), r17⟩) (((t.Copies.length : Int) - 0).toNat, 0) [0, 1, 2, 3] ⟨rfl, rfl, aM1, aM1, aM1⟩ ?_
  rintro ⟨r17, i_18⟩ ⟨hM19, hr20, hi21, hi22, hk23⟩
  refine JJ_nx fun _ _ hL hA => ?_; dsimp only at hL hA; subst hL hA
  refine Fb 8 1 fun _ => Fb 8 2 fun _ => Fb 16 3 fun _ => KS ?_
  refine Oq Vm (Oq (Vfa fo85_2 0) (Oq (VldF sh83 0) (Oq (Vlen sl83) (Oq Vlss (KS ?_)))))
  refine Kc ?_ ?_
  ·intro h27
   have g28 := dt h27
   obtain ⟨r29, rfl⟩ := scc (n := r17) aM1
   refine KS ?_
   refine Oq (Vfa fo85_2 0) (Oq (VldF sh83 0) (Oq Vm (Oq (Vi sl83 3) ?_)))
   refine JJ_peek_GCopy i_18.toNat 3 rfl rng fun hb30 hb31 => ?_
   unfold i64ok at hb30 hb31
   refine Oq (Vfa fo108_0 0) (Oq (VldF sh3 0) (Oq Vm (Oq Veql (Oq Vm ?_))))
   refine Js 33 ?_ ?_
   ·intro h32
    have g33 := eq_of_beq h32
    refine Oq (Vfa fo85_2 1) (Oq (VldF sh83 1) (Oq Vm (Oq (Vi sl83 4) (Oq (Vfa fo108_1 0) (Oq (VldF sh3 0) (Oq Vm (Oq Veql (Oq Vpt (KS ?_)))))))))
    refine Kc ?_ ?_
    ·intro h34
     have g35 := eq_of_beq h34
     refine KS ?_
     refine Oq Va (KS ?_)
     have hR36 := q2 hM19 (.ret true) (by simp only [r1_follows_L0, h27, h32, h34, cs4])
     have hq := q4 hrr true (by simp only [r1_follows, h5, h10, h15, h27, h32, h34, hg8, hR36, cs4]); subst hq
     exact Kr () rfl (.tmp rfl .nil) [] trivial
    intro h34
    have g37 := ne_of_beq_false h34
    refine KS ?_
    refine Oq Vm (Oq Vadd (Oq Va (KS ?_)))
    exact Kg (r29, (i_18 + 1)) [1, 2, 3, 4] ⟨(q3 hM19 (by simp only [r1_follows_L0, h27, h32, h34, cs4])), aM1, aM1, aM1, aM1⟩
   intro h32
   have g38 := ne_of_beq_false h32
   refine Osk (Osk (Osk (Osk (Osk (Osk (Osk (Osk (Oq Vpf (KS ?_)))))))))
   refine Kf (KS ?_)
   refine Oq Vm (Oq Vadd (Oq Va (KS ?_)))
   exact Kg (r29, (i_18 + 1)) [1, 2, 3, 4] ⟨(q3 hM19 (by simp only [r1_follows_L0, h27, h32, cs4])), aM1, aM1, aM1, aM1⟩
  intro h27
  have g39 := df h27
  obtain rfl : r17 = 0 := by omega
  refine Ke ?_
  have hR40 := q2 hM19 (.brk ()) (by simp only [r1_follows_L0, h27, cs4])
  refine KS ?_
  refine Oq Va (KS ?_)
  have hq := q4 hrr false (by simp only [r1_follows, h5, h10, h15, h27, hg8, hR40, cs4]); subst hq
  exact Kr () rfl (.tmp rfl .nil) [] trivial
 intro h5
 have g41 := ne_of_beq_false h5
 refine Osk (Osk (Osk (Osk (Osk (Oq Vpf (KS ?_))))))
 refine Kf (KS ?_)
 refine Oq Va (KS ?_)
 refine Kl (γ := Nat × Int) (fun (r42, i_43) => ⟨[(1, vi a), (2, vi b), (3, p4), (7, vi i_43)], [pv p4 [vi t.Gen.Width, vl ta1 tk1 t.Gen.Words, vi t.Kill.Width, vl ta3 tk3 t.Kill.Words, vl ta4 tk4 t.Copies], S ta1 tk1 t.Gen.Words, S ta3 tk3 t.Kill.Words, S ta4 tk4 t.Copies], r1_follows_L0 t a b r42 i_43 = r1_follows_L0 t a b (((t.Copies.length : Int) - 0).toNat) 0 ∧ r42 = ((t.Copies.length : Int) - i_43).toNat ∧ (0 : Int) ≤ i_43 ∧ i_43 ≤ (t.Copies.length : Int) ∧ (-9223372036854775808 ≤ i_43 ∧ i_43 ≤ 9223372036854775807), r42⟩) (((t.Copies.length : Int) - 0).toNat, 0) [0, 1, 2, 3] ⟨rfl, rfl, aM1, aM1, aM1⟩ ?_
 rintro ⟨r42, i_43⟩ ⟨hM44, hr45, hi46, hi47, hk48⟩
 refine JJ_nx fun _ _ hL hA => ?_; dsimp only at hL hA; subst hL hA
 refine Fb 8 1 fun _ => Fb 8 2 fun _ => Fb 16 3 fun _ => KS ?_
 refine Oq Vm (Oq (Vfa fo85_2 0) (Oq (VldF sh83 0) (Oq (Vlen sl83) (Oq Vlss (KS ?_)))))
 refine Kc ?_ ?_
 ·intro h52
  have g53 := dt h52
  obtain ⟨r54, rfl⟩ := scc (n := r42) aM1
  refine KS ?_
  refine Oq (Vfa fo85_2 0) (Oq (VldF sh83 0) (Oq Vm (Oq (Vi sl83 3) ?_)))
  refine JJ_peek_GCopy i_43.toNat 3 rfl rng fun hb55 hb56 => ?_
  unfold i64ok at hb55 hb56
  refine Oq (Vfa fo108_0 0) (Oq (VldF sh3 0) (Oq Vm (Oq Veql (Oq Vm ?_))))
  refine Js 33 ?_ ?_
  ·intro h57
   have g58 := eq_of_beq h57
   refine Oq (Vfa fo85_2 1) (Oq (VldF sh83 1) (Oq Vm (Oq (Vi sl83 4) (Oq (Vfa fo108_1 0) (Oq (VldF sh3 0) (Oq Vm (Oq Veql (Oq Vpt (KS ?_)))))))))
   refine Kc ?_ ?_
   ·intro h59
    have g60 := eq_of_beq h59
    refine KS ?_
    refine Oq Va (KS ?_)
    have hR61 := q2 hM44 (.ret true) (by simp only [r1_follows_L0, h52, h57, h59, cs4])
    have hq := q4 hrr true (by simp only [r1_follows, h5, h52, h57, h59, hR61, cs4]); subst hq
    exact Kr () rfl (.tmp rfl .nil) [] trivial
   intro h59
   have g62 := ne_of_beq_false h59
   refine KS ?_
   refine Oq Vm (Oq Vadd (Oq Va (KS ?_)))
   exact Kg (r54, (i_43 + 1)) [1, 2, 3, 4] ⟨(q3 hM44 (by simp only [r1_follows_L0, h52, h57, h59, cs4])), aM1, aM1, aM1, aM1⟩
  intro h57
  have g63 := ne_of_beq_false h57
  refine Osk (Osk (Osk (Osk (Osk (Osk (Osk (Osk (Oq Vpf (KS ?_)))))))))
  refine Kf (KS ?_)
  refine Oq Vm (Oq Vadd (Oq Va (KS ?_)))
  exact Kg (r54, (i_43 + 1)) [1, 2, 3, 4] ⟨(q3 hM44 (by simp only [r1_follows_L0, h52, h57, cs4])), aM1, aM1, aM1, aM1⟩
 intro h52
 have g64 := df h52
 obtain rfl : r42 = 0 := by omega
 refine Ke ?_
 have hR65 := q2 hM44 (.brk ()) (by simp only [r1_follows_L0, h52, cs4])
 refine KS ?_
 refine Oq Va (KS ?_)
 have hq := q4 hrr false (by simp only [r1_follows, h5, h52, hR65, cs4]); subst hq
 exact Kr () rfl (.tmp rfl .nil) [] trivial
theorem fn137 (t : GTransfer) (ta1 : Option Addr) (tk1 : Nat) (ta3 : Option Addr) (tk3 : Nat) (ta4 : Option Addr) (tk4 : Nat) (s : GSet) (sa1 : Option Addr) (sk1 : Nat) (ht_0 : i64ok t.Gen.Width) (ht_2 : i64ok t.Kill.Width) (hs_0 : i64ok s.Width) (ht : r1_ValidTransfer t = true) (hw : t.Gen.Width = s.Width) (rr : GSet) (hrr : r1_value t s = rr) : FT Tryz.prog 137 #[.agg #[vi t.Gen.Width, vl ta1 tk1 t.Gen.Words, vi t.Kill.Width, vl ta3 tk3 t.Kill.Words, vl ta4 tk4 t.Copies], .agg #[vi s.Width, vl sa1 sk1 s.Words]] [S ta1 tk1 t.Gen.Words, S ta3 tk3 t.Kill.Words, S ta4 tk4 t.Copies, S sa1 sk1 s.Words] (fun g : Value => i64ok rr.Width) (fun g => .agg #[vi rr.Width, g]) (fun g => [sl g rr.Words]) := by
 refine FTi Tryz.func137 fun w0 M0 F0 => ?_
 unfold i64ok at ht_0 ht_2 hs_0
 refine Fb 8 0 fun _ => Fb 8 1 fun _ => Fb 16 2 fun _ => Fb 8 3 fun _ => ?_
 have hvt := VT_w ht
 refine KS ?_
 refine Oa (Ab [vi t.Gen.Width, vl ta1 tk1 t.Gen.Words, vi t.Kill.Width, vl ta3 tk3 t.Kill.Words, vl ta4 tk4 t.Copies]) fun p5 => Oa (Ab [vi s.Width, vl sa1 sk1 s.Words]) fun p6 => Oa (Al ze39 [vi 0, .slice none 0 0]) fun p7 => KS ?_
 refine Oq (Vfa fo85_0 2) (Oq (VldG sh39 2 [vi t.Gen.Width, vl ta1 tk1 t.Gen.Words]) (Oa (Al ze39 [vi 0, .slice none 0 0]) fun p8 => Ost (Scl [0] sh39 [vi t.Gen.Width, vl ta1 tk1 t.Gen.Words]) (KS ?_)))
 refine Oq Va (KS ?_)
 refine Kl (γ := Nat × Int × List (BitVec 64) × Int × Option Addr × Nat) (fun (r9, out0_10, out1_11, a_12, a13, k14) => ⟨[(2, p5), (3, p6), (4, p7), (5, p8), (6, vi a_12)], [S a13 k14 out1_11, Cl p8 [vi out0_10, vl a13 k14 out1_11], Cl p7 [vi 0, .slice none 0 0], pv p6 [vi s.Width, vl sa1 sk1 s.Words], pv p5 [vi t.Gen.Width, vl ta1 tk1 t.Gen.Words, vi t.Kill.Width, vl ta3 tk3 t.Kill.Words, vl ta4 tk4 t.Copies], S ta1 tk1 t.Gen.Words, S ta3 tk3 t.Kill.Words, S ta4 tk4 t.Copies, S sa1 sk1 s.Words], r1_value_L0 t s r9 out0_10 out1_11 a_12 = r1_value_L0 t s (((s.Width : Int) - 0).toNat) t.Gen.Width t.Gen.Words 0 ∧ r9 = ((s.Width : Int) - a_12).toNat ∧ (0 : Int) ≤ a_12 ∧ (a_12 ≤ s.Width ∨ a_12 = 0) ∧ (-9223372036854775808 ≤ out0_10 ∧ out0_10 ≤ 9223372036854775807) ∧ (-9223372036854775808 ≤ a_12 ∧ a_12 ≤ 9223372036854775807) ∧ out0_10 = s.Width ∧ out1_11.length = ((s.Width + 63) / 64).toNat, r9⟩) (((s.Width : Int) - 0).toNat, t.Gen.Width, t.Gen.Words, 0, ta1, tk1) [4, 0, 0, 0, 1, 2, 3, 4, 5] ⟨rfl, rfl, aM1, (.inr rfl), aM1, aM1, iv0, iv0⟩ ?_
 rintro ⟨r9, out0_10, out1_11, a_12, a13, k14⟩ ⟨hM15, hr16, hi17, hi18, hk19, hk20, hv21, hv22⟩
 refine JJ_nx fun _ _ hL hA => ?_; dsimp only at hL hA; subst hL hA
 refine Fb 8 0 fun _ => Fb 8 5 fun _ => Fb 8 6 fun _ => Fb 16 7 fun _ => Fb 8 8 fun _ => KS ?_
 refine Oq Vm (Oq (Vfa fo39_0 3) (Oq (VldF sh3 3) (Oq Vlss (KS ?_))))
 refine Kc ?_ ?_
 ·intro h28
  have g29 := dt h28
  obtain ⟨r30, rfl⟩ := scc (n := r9) aM1
  refine KS ?_
  refine Oq Va (KS ?_)
  have hterm43 : r1_value_L1 t s a_12 (s.Width.toNat + 1) out0_10 out1_11 0 ≠ LR.oof := value_L1_term _ _ _ _ _ _ _ aM1 aM1
  refine Kl (γ := Nat × Int × List (BitVec 64) × Int × Option Addr × Nat) (fun (r31, out0_32, out1_33, b_34, a35, k36) => ⟨[(2, p5), (3, p6), (4, p7), (5, p8), (6, vi a_12), (7, vi b_34)], [S a35 k36 out1_33, Cl p8 [vi out0_32, vl a35 k36 out1_33], Cl p7 [vi 0, .slice none 0 0], pv p6 [vi s.Width, vl sa1 sk1 s.Words], pv p5 [vi t.Gen.Width, vl ta1 tk1 t.Gen.Words, vi t.Kill.Width, vl ta3 tk3 t.Kill.Words, vl ta4 tk4 t.Copies], S ta1 tk1 t.Gen.Words, S ta3 tk3 t.Kill.Words, S ta4 tk4 t.Copies, S sa1 sk1 s.Words], r1_value_L1 t s a_12 r31 out0_32 out1_33 b_34 = r1_value_L1 t s a_12 (s.Width.toNat + 1) out0_10 out1_11 0 ∧ (-9223372036854775808 ≤ out0_32 ∧ out0_32 ≤ 9223372036854775807) ∧ (-9223372036854775808 ≤ b_34 ∧ b_34 ≤ 9223372036854775807) ∧ out0_32 = s.Width ∧ out1_33.length = ((s.Width + 63) / 64).toNat ∧ 0 ≤ b_34, r31⟩) ((s.Width.toNat + 1), out0_10, out1_11, 0, a13, k14) [0, 1, 1, 1, 2, 3, 4, 5, 6] ⟨rfl, aM1, aM1, iv0, iv0, iv0⟩ ?_
  rintro ⟨r31, out0_32, out1_33, b_34, a35, k36⟩ ⟨hM37, hk38, hk39, hv40, hv41, hv42⟩
  refine JJ_nx fun _ _ hL hA => ?_; dsimp only at hL hA; subst hL hA
  refine Fb 8 0 fun _ => Fb 8 5 fun _ => Fb 8 6 fun _ => Fb 16 7 fun _ => Fb 8 8 fun _ => ?_
  rcases r31 with _ | r31
  ·exact absurd (hM37.symm.trans rfl) hterm43
  refine KS ?_
  refine Oq (VldA sh39 3) (Oq Vm ?_)
  refine letv (r1_Has s a_12) fun rv49 hg50 => ?_
  have hc51 := fn142 s sa1 sk1 a_12 pre pre rv49 hg50
  refine Oc [8] ca142 hc51 ?_
  rintro - -
  refine Oq Vm ?_
  refine Js 19 ?_ ?_
  ·intro h52
   refine Oq Vm (Oq (Vfa fo39_0 3) (Oq (VldF sh3 3) (Oq Vlss (Oq Vpt (KS ?_)))))
   refine Kc ?_ ?_
   ·intro h54
    have g55 := dt h54
    refine KS ?_
    refine Oq (VldA sh85 4) (Oq Vm (Oq Vm ?_))
    refine letv (r1_follows t a_12 b_34) fun rv56 hg57 => ?_
    have hc58 := fn167 t ta1 tk1 ta3 tk3 ta4 tk4 a_12 b_34 pre pre pre pre rv56 hg57
    refine Oc [5, 6, 7] ca167 hc58 ?_
    rintro - -
    refine KS ?_
    refine Kc ?_ ?_
    ·intro h59
     refine KS ?_
     refine Oq (VldA sh39 1) (Oq Vm ?_)
     refine letv (r1_Put (GSet.mk out0_32 out1_33) b_34) fun rv62 hg63 => ?_
     have hc64 := fn68 ((GSet.mk out0_32 out1_33)) a35 k36 b_34 pre pre pre pre rv62 hg63
     refine Oc [0] ca68 hc64 ?_
     rintro c61 ⟨he65, he66, he67⟩
     unfold i64ok at he65
     have he66 : (rv62.Width = out0_32) := he66
     have he67 : (rv62.Words.length = ((out0_32 + 63) / 64).toNat) := he67
     refine Jo 0 ?_; rintro a68 k69 rfl
     refine Fb 8 0 fun _ => ?_
     refine Ost (Scl [2] sh39 [vi rv62.Width, vl a68 k69 rv62.Words]) (KS ?_)
     refine Oq Vm (Oq Vadd (Oq Va (KS ?_)))
     refine Jl [1] (Ent.freeze _ _) ?_
     exact Kg (r31, rv62.Width, rv62.Words, (b_34 + 1), a68, k69) [0, 1, 2, 2, 3, 4, 5, 6, 7] ⟨(q3 hM37 (by simp only [r1_value_L1, h52, h54, h59, hg50, hg57, hg63, cs4])), aM1, aM1, iv1, iv1, iv1⟩
    intro h59
    refine KS ?_
    refine Oq Vm (Oq Vadd (Oq Va (KS ?_)))
    exact Kg (r31, out0_32, out1_33, (b_34 + 1), a35, k36) [0, 1, 1, 1, 2, 3, 4, 5, 6] ⟨(q3 hM37 (by simp only [r1_value_L1, h52, h54, h59, hg50, hg57, cs4])), aM1, aM1, iv1, iv1, iv1⟩
   intro h54
   have g72 := df h54
   refine Ke ?_
   have hR73 := q2 hM37 (.brk (out0_32, out1_33)) (by simp only [r1_value_L1, h52, h54, hg50, cs4])
   refine KS ?_
   refine Oq Vm (Oq Vadd (Oq Va (KS ?_)))
   exact Kg (r30, out0_32, out1_33, (a_12 + 1), a35, k36) [0, 1, 1, 1, 2, 3, 4, 5, 6] ⟨(q3 hM15 (by simp only [r1_value_L0, h28, h52, h54, hg50, hR73, cs4])), aM1, aM1, aM1, aM1, aM1, iv1, iv1⟩
  intro h52
  refine Osk (Osk (Osk (Osk (Oq Vpf (KS ?_)))))
  refine Kf ?_
  refine Ke ?_
  have hR75 := q2 hM37 (.brk (out0_32, out1_33)) (by simp only [r1_value_L1, h52, hg50, cs4])
  refine KS ?_
  refine Oq Vm (Oq Vadd (Oq Va (KS ?_)))
  exact Kg (r30, out0_32, out1_33, (a_12 + 1), a35, k36) [0, 1, 1, 1, 2, 3, 4, 5, 6] ⟨(q3 hM15 (by simp only [r1_value_L0, h28, h52, hg50, hR75, cs4])), aM1, aM1, aM1, aM1, aM1, iv1, iv1⟩
 intro h28
 have g76 := df h28
 obtain rfl : r9 = 0 := by omega
 refine Ke ?_
 have hR77 := q2 hM15 (out0_10, out1_11) (by simp only [r1_value_L0, h28, cs4])
 refine KS ?_
 refine Oq (VldA sh39 1) (Ost (Scl [2] sh39 [vi out0_10, vl a13 k14 out1_11]) (KS ?_))
 have hq := q4 hrr (GSet.mk out0_10 out1_11) (by simp only [r1_value, h28, hR77, cs4]); subst hq
 exact Kr (vl a13 k14 out1_11) rfl (.cellN 0 rfl sh39 rfl (reads_Cl _ _) rfl .nil) [1] en
theorem fn97 (t : GTransfer) (ta1 : Option Addr) (tk1 : Nat) (ta3 : Option Addr) (tk3 : Nat) (ta4 : Option Addr) (tk4 : Nat) (s : GSet) (sa1 : Option Addr) (sk1 : Nat) (ht_0 : i64ok t.Gen.Width) (ht_2 : i64ok t.Kill.Width) (hs_0 : i64ok s.Width) (rr : GSet × Int) (hrr : r1_Apply t s = rr) : FT Tryz.prog 97 #[.agg #[vi t.Gen.Width, vl ta1 tk1 t.Gen.Words, vi t.Kill.Width, vl ta3 tk3 t.Kill.Words, vl ta4 tk4 t.Copies], .agg #[vi s.Width, vl sa1 sk1 s.Words]] [S ta1 tk1 t.Gen.Words, S ta3 tk3 t.Kill.Words, S ta4 tk4 t.Copies, S sa1 sk1 s.Words] (fun g : Value => i64ok rr.1.Width ∧ i64ok rr.2) (fun g => .tuple #[.agg #[vi rr.1.Width, g], vi rr.2]) (fun g => [sl g rr.1.Words]) := by
 refine FTi Tryz.func97 fun w0 M0 F0 => ?_
 unfold i64ok at ht_0 ht_2 hs_0
 refine Fb 8 0 fun _ => Fb 8 1 fun _ => Fb 16 2 fun _ => Fb 8 3 fun _ => KS ?_
 refine Oa (Ab [vi t.Gen.Width, vl ta1 tk1 t.Gen.Words, vi t.Kill.Width, vl ta3 tk3 t.Kill.Words, vl ta4 tk4 t.Copies]) fun p5 => Oa (Ab [vi s.Width, vl sa1 sk1 s.Words]) fun p6 => Oa (Al ze39 [vi 0, .slice none 0 0]) fun p7 => Oq Va (KS ?_)
 refine Oq (VldA sh85 2) ?_
 refine letv (r1_ValidTransfer t) fun rv8 hg9 => ?_
 have hc10 := fn87 t ta1 tk1 ta3 tk3 ta4 tk4 pre pre rv8 hg9
 refine Oc [3, 4, 5] ca87 hc10 ?_
 rintro - -
 refine Oq Vnot (Oq Vm ?_)
 refine Js 9 ?_ ?_
 ·intro h11
  have h13 := not_true h11
  refine Osk (Osk (Osk (Oq Vpt (KS ?_))))
  refine Kt (KS ?_)
  refine Oq (Vbd st39 [vi 0, .slice none 0 0]) (Ost (Scl [0] sh39 [vi 0, .slice none 0 0]) (Oq Va (KS ?_)))
  refine Jl [] (Ent.slNil (α := BitVec 64)) ?_
  have hq := q4 hrr ((GSet.mk 0 []), 1) (by simp only [r1_Apply, h11, h13, hg9, cs4]); subst hq
  exact Kr (.slice none 0 0) rfl (.cellN 1 rfl sh39 rfl (reads_Cl _ _) rfl (.tmp rfl .nil)) [0] en
 intro h11
 have h16 := not_false h11
 refine Oq (VldA sh39 1) ?_
 refine letv (r1_Valid s) fun rv18 hg19 => ?_
 have hc20 := fn59 s sa1 sk1 pre rv18 hg19
 refine Oc [6] ca59 hc20 ?_
 rintro - -
 refine Oq Vnot (Oq Vpf (KS ?_))
 refine Kc ?_ ?_
 ·intro h21
  have h23 := not_true h21
  refine KS ?_
  refine Oq (Vbd st39 [vi 0, .slice none 0 0]) (Ost (Scl [0] sh39 [vi 0, .slice none 0 0]) (Oq Va (KS ?_)))
  refine Jl [] (Ent.slNil (α := BitVec 64)) ?_
  have hq := q4 hrr ((GSet.mk 0 []), 1) (by simp only [r1_Apply, h11, h16, h21, h23, hg9, hg19, cs4]); subst hq
  exact Kr (.slice none 0 0) rfl (.cellN 1 rfl sh39 rfl (reads_Cl _ _) rfl (.tmp rfl .nil)) [0] en
 intro h21
 have h26 := not_false h21
 refine KS ?_
 refine Oq (Vfa fo85_0 2) (Oq (VfaF fo39_0 2) (Oq (VldF sh3 2) (Oq (Vfa fo39_0 1) (Oq (VldF sh3 1) (Oq Vneq (KS ?_))))))
 refine Kc ?_ ?_
 ·intro h28
  have g29 := ne_of_bne h28
  refine KS ?_
  refine Oq (Vbd st39 [vi 0, .slice none 0 0]) (Ost (Scl [0] sh39 [vi 0, .slice none 0 0]) (Oq Va (KS ?_)))
  refine Jl [] (Ent.slNil (α := BitVec 64)) ?_
  have hq := q4 hrr ((GSet.mk 0 []), 2) (by simp only [r1_Apply, h11, h16, h21, h26, h28, hg9, hg19, cs4]); subst hq
  exact Kr (.slice none 0 0) rfl (.cellN 1 rfl sh39 rfl (reads_Cl _ _) rfl (.tmp rfl .nil)) [0] en
 intro h28
 have g30 := eq_of_bne_false h28
 refine KS ?_
 refine Oq (VldA sh85 2) (Oq (VldA sh39 1) ?_)
 refine letv (r1_value t s) fun rv32 hg33 => ?_
 have hc34 := fn137 t ta1 tk1 ta3 tk3 ta4 tk4 s sa1 sk1 pre pre pre (by simp only [h11, h16, h21, h26, h28, hg9, hg19]) pre rv32 hg33
 refine Oc [3, 4, 5, 6] ca137 hc34 ?_
 rintro c31 he35
 unfold i64ok at he35
 refine Jo 0 ?_; rintro a36 k37 rfl
 refine Fb 8 0 fun _ => ?_
 refine Ost (Scl [1] sh39 [vi rv32.Width, vl a36 k37 rv32.Words]) (Oq Va (KS ?_))
 have hq := q4 hrr (rv32, 0) (by simp only [r1_Apply, h11, h16, h21, h26, h28, hg9, hg19, hg33, cs4]); subst hq
 exact Kr (vl a36 k37 rv32.Words) rfl (.cellN 0 rfl sh39 rfl (reads_Cl _ _) rfl (.tmp rfl .nil)) [1] en
theorem fn168 (a : GSet) (aa1 : Option Addr) (ak1 : Nat) (b : GSet) (ba1 : Option Addr) (bk1 : Nat) (one : Bool) (two : Bool) (both : Bool) (ha_0 : i64ok a.Width) (hb_0 : i64ok b.Width) (rr : GSet × Int) (hrr : r1_mix a b one two both = rr) : FT Tryz.prog 168 #[.agg #[vi a.Width, vl aa1 ak1 a.Words], .agg #[vi b.Width, vl ba1 bk1 b.Words], vb one, vb two, vb both] [S aa1 ak1 a.Words, S ba1 bk1 b.Words] (fun g : Value => i64ok rr.1.Width ∧ i64ok rr.2) (fun g => .tuple #[.agg #[vi rr.1.Width, g], vi rr.2]) (fun g => [sl g rr.1.Words]) := by
 refine FTi Tryz.func168 fun w0 M0 F0 => ?_
 unfold i64ok at ha_0 hb_0
 refine Fb 8 0 fun _ => Fb 8 1 fun _ => KS ?_
 refine Oa (Ab [vi a.Width, vl aa1 ak1 a.Words]) fun p3 => Oa (Ab [vi b.Width, vl ba1 bk1 b.Words]) fun p4 => Oa (Al ze39 [vi 0, .slice none 0 0]) fun p5 => Oq Va (KS ?_)
 refine Oq (VldA sh39 2) ?_
 refine letv (r1_Valid a) fun rv6 hg7 => ?_
 have hc8 := fn59 a aa1 ak1 pre rv6 hg7
 refine Oc [3] ca59 hc8 ?_
 rintro - -
 refine Oq Vnot (Oq Vm ?_)
 refine Js 19 ?_ ?_
 ·intro h9
  have h11 := not_true h9
  refine Osk (Osk (Osk (Oq Vpt (KS ?_))))
  refine Kt (KS ?_)
  refine Oq (Vbd st39 [vi 0, .slice none 0 0]) (Ost (Scl [0] sh39 [vi 0, .slice none 0 0]) (Oq Va (KS ?_)))
  refine Jl [] (Ent.slNil (α := BitVec 64)) ?_
  have hq := q4 hrr ((GSet.mk 0 []), 1) (by simp only [r1_mix, h9, h11, hg7, cs4]); subst hq
  exact Kr (.slice none 0 0) rfl (.cellN 1 rfl sh39 rfl (reads_Cl _ _) rfl (.tmp rfl .nil)) [0] en
 intro h9
 have h14 := not_false h9
 try have hrg := RV_w (s := a) (by simp only [h9, h14, hg7])
 refine Oq (VldA sh39 1) ?_
 refine letv (r1_Valid b) fun rv16 hg17 => ?_
 have hc18 := fn59 b ba1 bk1 pre rv16 hg17
 refine Oc [4] ca59 hc18 ?_
 rintro - -
 refine Oq Vnot (Oq Vpf (KS ?_))
 refine Kc ?_ ?_
 ·intro h19
  have h21 := not_true h19
  refine KS ?_
  refine Oq (Vbd st39 [vi 0, .slice none 0 0]) (Ost (Scl [0] sh39 [vi 0, .slice none 0 0]) (Oq Va (KS ?_)))
  refine Jl [] (Ent.slNil (α := BitVec 64)) ?_
  have hq := q4 hrr ((GSet.mk 0 []), 1) (by simp only [r1_mix, h9, h14, h19, h21, hg7, hg17, cs4]); subst hq
  exact Kr (.slice none 0 0) rfl (.cellN 1 rfl sh39 rfl (reads_Cl _ _) rfl (.tmp rfl .nil)) [0] en
 intro h19
 have h24 := not_false h19
 try have hrg := RV_w (s := a) (by simp only [h9, h14, h19, h24, hg7, hg17])
 refine KS ?_
 refine Oq (Vfa fo39_0 2) (Oq (VldF sh3 2) (Oq (Vfa fo39_0 1) (Oq (VldF sh3 1) (Oq Vneq (KS ?_)))))
 refine Kc ?_ ?_
 ·intro h26
  have g27 := ne_of_bne h26
  refine KS ?_
  refine Oq (Vbd st39 [vi 0, .slice none 0 0]) (Ost (Scl [0] sh39 [vi 0, .slice none 0 0]) (Oq Va (KS ?_)))
  refine Jl [] (Ent.slNil (α := BitVec 64)) ?_
  have hq := q4 hrr ((GSet.mk 0 []), 2) (by simp only [r1_mix, h9, h14, h19, h24, h26, hg7, hg17, cs4]); subst hq
  exact Kr (.slice none 0 0) rfl (.cellN 1 rfl sh39 rfl (reads_Cl _ _) rfl (.tmp rfl .nil)) [0] en
 intro h26
 have g28 := eq_of_bne_false h26
 refine KS ?_
 refine Oq (Vfa fo39_0 2) (Oq (VldF sh3 2) ?_)
 refine letv (r1_Empty a.Width) fun rv30 hg31 => ?_
 have hc32 := fn41 a.Width pre pre rv30 hg31
 refine Oc [] ca41 hc32 ?_
 rintro c29 ⟨he33, he34, he35⟩
 unfold i64ok at he33
 refine Jo 0 ?_; rintro a36 k37 rfl
 refine Fb 8 0 fun _ => ?_
 refine Oa (Al ze39 [vi 0, .slice none 0 0]) fun p39 => Ost (Scl [0] sh39 [vi rv30.Width, vl a36 k37 rv30.Words]) (KS ?_)
 refine Oq Va (KS ?_)
 refine Kl (γ := Nat × Int × List (BitVec 64) × Int × Option Addr × Nat) (fun (r40, s0_41, s1_42, k_43, a44, k45) => ⟨[(2, vb one), (3, vb two), (4, vb both), (5, p3), (6, p4), (10, p5), (12, p39), (13, vi k_43)], [O a44 k45 s1_42, Cl p39 [vi s0_41, vl a44 k45 s1_42], Cl p5 [vi 0, .slice none 0 0], pv p4 [vi b.Width, vl ba1 bk1 b.Words], pv p3 [vi a.Width, vl aa1 ak1 a.Words], S aa1 ak1 a.Words, S ba1 bk1 b.Words], r1_mix_L0 a b one two both r40 s0_41 s1_42 k_43 = r1_mix_L0 a b one two both (((a.Width : Int) - 0).toNat) rv30.Width rv30.Words 0 ∧ r40 = ((a.Width : Int) - k_43).toNat ∧ (0 : Int) ≤ k_43 ∧ (k_43 ≤ a.Width ∨ k_43 = 0) ∧ (-9223372036854775808 ≤ s0_41 ∧ s0_41 ≤ 9223372036854775807) ∧ (-9223372036854775808 ≤ k_43 ∧ k_43 ≤ 9223372036854775807) ∧ s0_41 = a.Width ∧ s1_42.length = ((a.Width + 63) / 64).toNat, r40⟩) (((a.Width : Int) - 0).toNat, rv30.Width, rv30.Words, 0, a36, k37) [1, 0, 0, 0, 1, 2, 3] ⟨rfl, rfl, aM1, (.inr rfl), aM1, aM1, iv0, iv0⟩ ?_
 rintro ⟨r40, s0_41, s1_42, k_43, a44, k45⟩ ⟨hM46, hr47, hi48, hi49, hk50, hk51, hv52, hv53⟩
 refine JJ_nx fun _ _ hL hA => ?_; dsimp only at hL hA; subst hL hA
 refine Fb 8 0 fun _ => Fb 8 5 fun _ => Fb 8 6 fun _ => KS ?_
 refine Oq Vm (Oq (Vfa fo39_0 4) (Oq (VldF sh3 4) (Oq Vlss (KS ?_))))
 refine Kc ?_ ?_
 ·intro h57
  have g58 := dt h57
  obtain ⟨r59, rfl⟩ := scc (n := r40) aM1
  refine KS ?_
  refine JK_drawK [0, 0, 3, 0, 0, 31, 63, 127] fmix ?_
  refine Dv [4] (VldA sh39 0) (Dv [] Vm ?_)
  refine letv (r1_Has a k_43) fun rv60 hg61 => ?_
  refine Dx [5] [] [1, 0] (fun G => vb rv60) [fun G => SP.fact (True)] (fun G => xC [0] ca142 (fn142 a aa1 ak1 k_43 pre pre rv60 hg61)) (Dv [3] (VldA sh39 0) (Dv [] Vm ?_))
  refine letv (r1_Has b k_43) fun rv62 hg63 => ?_
  refine Dx [6] [] [1, 0] (fun G => vb rv62) [fun G => SP.fact (True)] (fun G => xC [0] ca142 (fn142 b ba1 bk1 k_43 pre pre rv62 hg63)) (Dv [] Va (Dv [] Va ?_))
  refine Dn ⟨by kernel_rfl, fun G => ?_⟩
  refine Jw2 [(2, vb one), (3, vb two), (4, vb both), (5, p3), (6, p4), (10, p5), (12, p39), (13, vi k_43), (14, vb rv60), (15, vb rv62)] [0, 1, 2, 3, 4, 5, 6] [SP.fact (True), SP.fact (True)] ?_
  refine Jk [0, 0, 0, 0, 1, 2, 3] ?_
  refine KS ?_
  refine Oq Vm (Oq Vm ?_)
  refine Js 47 ?_ ?_
  ·intro h64
   try have hrg := RV_w (s := a) (by simp only [h9, h14, h19, h24, h26, h57, h64, hg7, hg17, hg31, hg61, hg63])
   refine Oq Vm (Oq Vpt (Oq Vm ?_))
   refine Js 50 ?_ ?_
   ·intro h66
    try have hrg := RV_w (s := a) (by simp only [h9, h14, h19, h24, h26, h57, h64, h66, hg7, hg17, hg31, hg61, hg63])
    refine Oq Vm (Oq Vpt (Oq Vm ?_))
    refine Js 53 ?_ ?_
    ·intro h68
     refine Osk (Osk (Osk (Osk (Osk (Osk (Osk (Osk (Oq Vpt (Oq Vm ?_)))))))))
     refine Osk (Osk (Osk (Osk (Osk (Osk (Osk (Osk (Oq Vpt (KS ?_)))))))))
     refine Kt (KS ?_)
     refine Oq (VldA sh39 1) (Oq Vm ?_)
     refine letv (r1_Put (GSet.mk s0_41 s1_42) k_43) fun rv71 hg72 => ?_
     refine Oc [0] ca68 (FT_borrow (A := _) hlx (FT_ent (Ent.take (is := [0]) rfl) (fn68 ((GSet.mk s0_41 s1_42)) a44 k45 k_43 pre pre pre pre rv71 hg72))) ?_ (ht := rfl)
     rintro c70 ⟨he73, he74, he75⟩
     unfold i64ok at he73
     have he74 : (rv71.Width = s0_41) := he74
     have he75 : (rv71.Words.length = ((s0_41 + 63) / 64).toNat) := he75
     refine Jo 1 ?_; rintro a76 k77 rfl
     refine Fb 8 1 fun _ => ?_
     refine Ost (Scl [2] sh39 [vi rv71.Width, vl a76 k77 rv71.Words]) (KS ?_)
     refine Oq Vm (Oq Vadd (Oq Va (KS ?_)))
     exact Kg (r59, rv71.Width, rv71.Words, (k_43 + 1), a76, k77) [2, 0, 1, 1, 2, 3, 4] ⟨(q3 hM46 (by simp only [r1_mix_L0, h57, h64, h66, h68, hg61, hg63, hg72, cs4])), aM1, aM1, aM1, aM1, aM1, iv1, iv1⟩
    intro h68
    refine Oq Vm (Oq Vm ?_)
    refine Js 55 ?_ ?_
    ·intro h80
     try have hrg := RV_w (s := a) (by simp only [h9, h14, h19, h24, h26, h57, h64, h66, h68, h80, hg7, hg17, hg31, hg61, hg63])
     refine Oq Vm (Oq Vnot (Oq Vpt (Oq Vm ?_)))
     refine Js 59 ?_ ?_
     ·intro h82
      exact absurd h82 (by first | (simp [h66]; done) | (simp only [bne, h66]; decide) | (simp only [bne, h66, Bool.not_true, Bool.not_false]; decide) | (exfalso; omega) | (intro hq; simp only [bne, hq, Bool.not_false, Bool.not_true, reduceCtorEq] at h66))
     intro h82
     have h84 := not_false h82
     try have hrg := RV_w (s := a) (by simp only [h9, h14, h19, h24, h26, h57, h64, h66, h68, h80, h82, h84, hg7, hg17, hg31, hg61, hg63])
     refine Osk (Oq Vpf (Oq Vpf (Oq Vm (Oq Vm (Oq Vnot (Oq Vm ?_))))))
     refine Js 66 ?_ ?_
     ·intro h86
      exact absurd h86 (by first | (simp [h80]; done) | (simp only [bne, h80]; decide) | (simp only [bne, h80, Bool.not_true, Bool.not_false]; decide) | (exfalso; omega) | (intro hq; simp only [bne, hq, Bool.not_false, Bool.not_true, reduceCtorEq] at h80))
     intro h86
     have h88 := not_false h86
     try have hrg := RV_w (s := a) (by simp only [h9, h14, h19, h24, h26, h57, h64, h66, h68, h80, h82, h84, h86, h88, hg7, hg17, hg31, hg61, hg63])
     refine Osk (Oq Vpf (Oq Vm (Osk (Oq Vpf (Oq Vpf (KS ?_))))))
     refine Kf (KS ?_)
     refine Oq Vm (Oq Vadd (Oq Va (KS ?_)))
     exact Kg (r59, s0_41, s1_42, (k_43 + 1), a44, k45) [0, 0, 0, 0, 1, 2, 3] ⟨(q3 hM46 (by simp only [r1_mix_L0, h57, h64, h66, h68, h80, h82, h84, h86, h88, hg61, hg63, cs4])), aM1, aM1, aM1, aM1, aM1, iv1, iv1⟩
    intro h80
    exact absurd h80 (by first | (simp [h64]; done) | (simp only [bne, h64]; decide) | (simp only [bne, h64, Bool.not_true, Bool.not_false]; decide) | (exfalso; omega) | (intro hq; simp only [bne, hq, Bool.not_false, Bool.not_true, reduceCtorEq] at h64))
   intro h66
   refine Osk (Oq Vpf (Oq Vm (Oq Vm (Oq Vm ?_))))
   refine Js 55 ?_ ?_
   ·intro h91
    try have hrg := RV_w (s := a) (by simp only [h9, h14, h19, h24, h26, h57, h64, h66, h91, hg7, hg17, hg31, hg61, hg63])
    refine Oq Vm (Oq Vnot (Oq Vpt (Oq Vm ?_)))
    refine Js 59 ?_ ?_
    ·intro h93
     have h95 := not_true h93
     refine Oq Vm (Oq Vpt (Oq Vpf (Oq Vm ?_)))
     refine Js 63 ?_ ?_
     ·intro h97
      refine Osk (Osk (Osk (Osk (Osk (Osk (Osk (Osk (Oq Vpt (KS ?_)))))))))
      refine Kt (KS ?_)
      refine Oq (VldA sh39 1) (Oq Vm ?_)
      refine letv (r1_Put (GSet.mk s0_41 s1_42) k_43) fun rv100 hg101 => ?_
      refine Oc [0] ca68 (FT_borrow (A := _) hlx (FT_ent (Ent.take (is := [0]) rfl) (fn68 ((GSet.mk s0_41 s1_42)) a44 k45 k_43 pre pre pre pre rv100 hg101))) ?_ (ht := rfl)
      rintro c99 ⟨he102, he103, he104⟩
      unfold i64ok at he102
      have he103 : (rv100.Width = s0_41) := he103
      have he104 : (rv100.Words.length = ((s0_41 + 63) / 64).toNat) := he104
      refine Jo 1 ?_; rintro a105 k106 rfl
      refine Fb 8 1 fun _ => ?_
      refine Ost (Scl [2] sh39 [vi rv100.Width, vl a105 k106 rv100.Words]) (KS ?_)
      refine Oq Vm (Oq Vadd (Oq Va (KS ?_)))
      exact Kg (r59, rv100.Width, rv100.Words, (k_43 + 1), a105, k106) [2, 0, 1, 1, 2, 3, 4] ⟨(q3 hM46 (by simp only [r1_mix_L0, h57, h64, h66, h91, h93, h95, h97, hg61, hg63, hg101, cs4])), aM1, aM1, aM1, aM1, aM1, iv1, iv1⟩
     intro h97
     refine Oq Vm (Oq Vnot (Oq Vm ?_))
     refine Js 66 ?_ ?_
     ·intro h109
      exact absurd h109 (by first | (simp [h91]; done) | (simp only [bne, h91]; decide) | (simp only [bne, h91, Bool.not_true, Bool.not_false]; decide) | (exfalso; omega) | (intro hq; simp only [bne, hq, Bool.not_false, Bool.not_true, reduceCtorEq] at h91))
     intro h109
     have h111 := not_false h109
     try have hrg := RV_w (s := a) (by simp only [h9, h14, h19, h24, h26, h57, h64, h66, h91, h93, h95, h97, h109, h111, hg7, hg17, hg31, hg61, hg63])
     refine Osk (Oq Vpf (Oq Vm (Osk (Oq Vpf (Oq Vpf (KS ?_))))))
     refine Kf (KS ?_)
     refine Oq Vm (Oq Vadd (Oq Va (KS ?_)))
     exact Kg (r59, s0_41, s1_42, (k_43 + 1), a44, k45) [0, 0, 0, 0, 1, 2, 3] ⟨(q3 hM46 (by simp only [r1_mix_L0, h57, h64, h66, h91, h93, h95, h97, h109, h111, hg61, hg63, cs4])), aM1, aM1, aM1, aM1, aM1, iv1, iv1⟩
    intro h93
    exact absurd h93 (by first | (simp [h66]; done) | (simp only [bne, h66]; decide) | (simp only [bne, h66, Bool.not_true, Bool.not_false]; decide) | (exfalso; omega) | (intro hq; simp only [bne, hq, Bool.not_false, Bool.not_true, reduceCtorEq] at h66))
   intro h91
   exact absurd h91 (by first | (simp [h64]; done) | (simp only [bne, h64]; decide) | (simp only [bne, h64, Bool.not_true, Bool.not_false]; decide) | (exfalso; omega) | (intro hq; simp only [bne, hq, Bool.not_false, Bool.not_true, reduceCtorEq] at h64))
  intro h64
  refine Osk (Oq Vpf (Oq Vm (Osk (Oq Vpf (Oq Vm (Oq Vm (Oq Vm ?_)))))))
  refine Js 55 ?_ ?_
  ·intro h114
   exact absurd h114 (by first | (simp [h64]; done) | (simp only [bne, h64]; decide) | (simp only [bne, h64, Bool.not_true, Bool.not_false]; decide) | (exfalso; omega) | (intro hq; simp only [bne, hq, Bool.not_false, Bool.not_true, reduceCtorEq] at h64))
  intro h114
  refine Osk (Osk (Oq Vpf (Oq Vm (Osk (Oq Vpf (Oq Vpf (Oq Vm (Oq Vm (Oq Vnot ?_)))))))))
  refine Oq Vm ?_
  refine Js 66 ?_ ?_
  ·intro h116
   have h118 := not_true h116
   refine Oq Vm (Oq Vpt (Oq Vm ?_))
   refine Js 69 ?_ ?_
   ·intro h120
    try have hrg := RV_w (s := a) (by simp only [h9, h14, h19, h24, h26, h57, h64, h114, h116, h118, h120, hg7, hg17, hg31, hg61, hg63])
    refine Oq Vm (Oq Vpt (Oq Vpf (KS ?_)))
    refine Kc ?_ ?_
    ·intro h122
     refine KS ?_
     refine Oq (VldA sh39 1) (Oq Vm ?_)
     refine letv (r1_Put (GSet.mk s0_41 s1_42) k_43) fun rv125 hg126 => ?_
     refine Oc [0] ca68 (FT_borrow (A := _) hlx (FT_ent (Ent.take (is := [0]) rfl) (fn68 ((GSet.mk s0_41 s1_42)) a44 k45 k_43 pre pre pre pre rv125 hg126))) ?_ (ht := rfl)
     rintro c124 ⟨he127, he128, he129⟩
     unfold i64ok at he127
     have he128 : (rv125.Width = s0_41) := he128
     have he129 : (rv125.Words.length = ((s0_41 + 63) / 64).toNat) := he129
     refine Jo 1 ?_; rintro a130 k131 rfl
     refine Fb 8 1 fun _ => ?_
     refine Ost (Scl [2] sh39 [vi rv125.Width, vl a130 k131 rv125.Words]) (KS ?_)
     refine Oq Vm (Oq Vadd (Oq Va (KS ?_)))
     exact Kg (r59, rv125.Width, rv125.Words, (k_43 + 1), a130, k131) [2, 0, 1, 1, 2, 3, 4] ⟨(q3 hM46 (by simp only [r1_mix_L0, h57, h64, h114, h116, h118, h120, h122, hg61, hg63, hg126, cs4])), aM1, aM1, aM1, aM1, aM1, iv1, iv1⟩
    intro h122
    refine KS ?_
    refine Oq Vm (Oq Vadd (Oq Va (KS ?_)))
    exact Kg (r59, s0_41, s1_42, (k_43 + 1), a44, k45) [0, 0, 0, 0, 1, 2, 3] ⟨(q3 hM46 (by simp only [r1_mix_L0, h57, h64, h114, h116, h118, h120, h122, hg61, hg63, cs4])), aM1, aM1, aM1, aM1, aM1, iv1, iv1⟩
   intro h120
   refine Osk (Oq Vpf (Oq Vpf (KS ?_)))
   refine Kf (KS ?_)
   refine Oq Vm (Oq Vadd (Oq Va (KS ?_)))
   exact Kg (r59, s0_41, s1_42, (k_43 + 1), a44, k45) [0, 0, 0, 0, 1, 2, 3] ⟨(q3 hM46 (by simp only [r1_mix_L0, h57, h64, h114, h116, h118, h120, hg61, hg63, cs4])), aM1, aM1, aM1, aM1, aM1, iv1, iv1⟩
  intro h116
  exact absurd h116 (by first | (simp [h114]; done) | (simp only [bne, h114]; decide) | (simp only [bne, h114, Bool.not_true, Bool.not_false]; decide) | (exfalso; omega) | (intro hq; simp only [bne, hq, Bool.not_false, Bool.not_true, reduceCtorEq] at h114))
 intro h57
 have g135 := df h57
 obtain rfl : r40 = 0 := by omega
 refine Ke ?_
 have hR136 := q2 hM46 (s0_41, s1_42) (by simp only [r1_mix_L0, h57, cs4])
 refine KS ?_
 refine Oq (VldA sh39 1) (Ost (Scl [2] sh39 [vi s0_41, vl a44 k45 s1_42]) (Oq Va (KS ?_)))
 refine Jl [1] (Ent.freeze _ _) ?_
 have hq := q4 hrr ((GSet.mk s0_41 s1_42), 0) (by simp only [r1_mix, h9, h14, h19, h24, h26, h57, hg7, hg17, hg31, hR136, cs4]); subst hq
 exact Kr (vl a44 k45 s1_42) rfl (.cellN 1 rfl sh39 rfl (reads_Cl _ _) rfl (.tmp rfl .nil)) [0] en
theorem fn138 (a : GSet) (aa1 : Option Addr) (ak1 : Nat) (b : GSet) (ba1 : Option Addr) (bk1 : Nat) (ha_0 : i64ok a.Width) (hb_0 : i64ok b.Width) (rr : GSet × Int) (hrr : r1_Union a b = rr) : FT Tryz.prog 138 #[.agg #[vi a.Width, vl aa1 ak1 a.Words], .agg #[vi b.Width, vl ba1 bk1 b.Words]] [S aa1 ak1 a.Words, S ba1 bk1 b.Words] (fun g : Value => i64ok rr.1.Width ∧ i64ok rr.2) (fun g => .tuple #[.agg #[vi rr.1.Width, g], vi rr.2]) (fun g => [sl g rr.1.Words]) := by
 refine FTi Tryz.func138 fun w0 M0 F0 => ?_
 unfold i64ok at ha_0 hb_0
 refine Fb 8 0 fun _ => Fb 8 1 fun _ => KS ?_
 refine Oa (Ab [vi a.Width, vl aa1 ak1 a.Words]) fun p3 => Oa (Ab [vi b.Width, vl ba1 bk1 b.Words]) fun p4 => Oa (Al ze39 [vi 0, .slice none 0 0]) fun p5 => Oq Va (KS ?_)
 refine Oq (VldA sh39 2) (Oq (VldA sh39 1) ?_)
 refine letv (r1_mix a b true true true) fun rv7 hg8 => ?_
 have hc9 := fn168 a aa1 ak1 b ba1 bk1 true true true pre pre rv7 hg8
 refine Oc [3, 4] ca168 hc9 ?_
 rintro c6 ⟨he10, he11⟩
 unfold i64ok at he10 he11
 refine Jo 0 ?_; rintro a12 k13 rfl
 refine Fb 8 0 fun _ => ?_
 refine Oq Vx (Oq Vx (Ost (Scl [1] sh39 [vi rv7.1.Width, vl a12 k13 rv7.1.Words]) (Oq Va (KS ?_))))
 have hq := q4 hrr (rv7.1, rv7.2) (by simp only [r1_Union, hg8, cs4]); subst hq
 exact Kr (vl a12 k13 rv7.1.Words) rfl (.cellN 0 rfl sh39 rfl (reads_Cl _ _) rfl (.tmp rfl .nil)) [1] en
theorem fn98 (a : GSet) (aa1 : Option Addr) (ak1 : Nat) (b : GSet) (ba1 : Option Addr) (bk1 : Nat) (ha_0 : i64ok a.Width) (hb_0 : i64ok b.Width) (rr : GSet) (hrr : r1_Join a b = rr) : FT Tryz.prog 98 #[.agg #[vi a.Width, vl aa1 ak1 a.Words], .agg #[vi b.Width, vl ba1 bk1 b.Words]] [S aa1 ak1 a.Words, S ba1 bk1 b.Words] (fun g : Value => i64ok rr.Width) (fun g => .agg #[vi rr.Width, g]) (fun g => [sl g rr.Words]) := by
 refine FTi Tryz.func98 fun w0 M0 F0 => ?_
 unfold i64ok at ha_0 hb_0
 refine Fb 8 0 fun _ => Fb 8 1 fun _ => KS ?_
 refine Oa (Ab [vi a.Width, vl aa1 ak1 a.Words]) fun p3 => Oa (Ab [vi b.Width, vl ba1 bk1 b.Words]) fun p4 => Oa (Al ze39 [vi 0, .slice none 0 0]) fun p5 => KS ?_
 refine Oq (VldA sh39 2) (Oq (VldA sh39 1) ?_)
 refine letv (r1_Union a b) fun rv7 hg8 => ?_
 have hc9 := fn138 a aa1 ak1 b ba1 bk1 pre pre rv7 hg8
 refine Oc [3, 4] ca138 hc9 ?_
 rintro c6 ⟨he10, he11⟩
 unfold i64ok at he10 he11
 refine Jo 0 ?_; rintro a12 k13 rfl
 refine Fb 8 0 fun _ => ?_
 refine Oq Vm (Oq Vx (Oq Vx (Oa (Al ze39 [vi 0, .slice none 0 0]) fun p15 => Ost (Scl [0] sh39 [vi rv7.1.Width, vl a12 k13 rv7.1.Words]) (Oq Va (KS ?_)))))
 refine Oq (VldA sh39 0) (Ost (Scl [2] sh39 [vi rv7.1.Width, vl a12 k13 rv7.1.Words]) (KS ?_))
 have hq := q4 hrr rv7.1 (by simp only [r1_Join, hg8, cs4]); subst hq
 exact Kr (vl a12 k13 rv7.1.Words) rfl (.cellN 0 rfl sh39 rfl (reads_Cl _ _) rfl .nil) [2] en
theorem fn54 (s : GSystem) (sa1 : Option Addr) (sk1 : Nat) (sa2 : Option Addr) (sk2 : Nat) (sa3 : Option Addr) (sk3 : Nat) (k : List GKnown) (ka0 : Option Addr) (kk0 : Nat) (st : GState) (sta1 : Option Addr) (stk1 : Nat) (sta2 : Option Addr) (stk2 : Nat) (sta5 : Option Addr) (stk5 : Nat) (sta6 : Option Addr) (stk6 : Nat) (hs_0 : i64ok s.Width) (hst_0 : i64ok st.Phase) (hst_3 : i64ok st.At) (hst_4 : i64ok st.Edge) (hst_7 : i64ok st.Steps) (rr : GState × Int × Int) (hrr : r14_Step s k st = rr) : FT Tryz.prog 54 #[.agg #[vi s.Width, vl sa1 sk1 s.Deps, vl sa2 sk2 s.Transfers, vl sa3 sk3 s.Boundary], vl ka0 kk0 k, .agg #[vi st.Phase, vl sta1 stk1 st.Cone, vl sta2 stk2 st.Leaf, vi st.At, vi st.Edge, vl sta5 stk5 st.Values, vl sta6 stk6 st.Queue, vi st.Steps]] [S sa1 sk1 s.Deps, S sa2 sk2 s.Transfers, S sa3 sk3 s.Boundary, S ka0 kk0 k, S sta1 stk1 st.Cone, S sta2 stk2 st.Leaf, S sta5 stk5 st.Values, S sta6 stk6 st.Queue] (fun g : Value × Value × Value × Value => i64ok rr.1.Phase ∧ i64ok rr.1.At ∧ i64ok rr.1.Edge ∧ i64ok rr.1.Steps ∧ i64ok rr.2.1 ∧ i64ok rr.2.2 ∧ (0 ≤ rr.2.1 ∧ rr.2.1 ≤ 8)) (fun g => .tuple #[.agg #[vi rr.1.Phase, g.1, g.2.1, vi rr.1.At, vi rr.1.Edge, g.2.2.1, g.2.2.2, vi rr.1.Steps], vi rr.2.1, vi rr.2.2]) (fun g => [sl g.1 rr.1.Cone, sl g.2.1 rr.1.Leaf, sl g.2.2.1 rr.1.Values, sl g.2.2.2 rr.1.Queue]) := by
 refine FTi Tryz.func54 fun w0 M0 F0 => ?_
 unfold i64ok at hs_0 hst_0 hst_3 hst_4 hst_7
 refine Fb 24 0 fun _ => Fb 88 1 fun _ => Fb 32 2 fun _ => Fb 40 3 fun _ => Fb 8 4 fun _ => Fo 4 fun ho6 => Fb 1 5 fun _ => Fb 32 6 fun _ => ?_
 refine Fb 8 7 fun _ => Fo 7 fun ho10 => KS ?_
 refine Oa (Ab [vi s.Width, vl sa1 sk1 s.Deps, vl sa2 sk2 s.Transfers, vl sa3 sk3 s.Boundary]) fun p11 => Oa (AbO [vi st.Phase, vl sta1 stk1 st.Cone, vl sta2 stk2 st.Leaf, vi st.At, vi st.Edge, vl sta5 stk5 st.Values, vl sta6 stk6 st.Queue, vi st.Steps]) fun p12 => Oa (Al ze26 [vi 0, .slice none 0 0, .slice none 0 0, vi 0, vi 0, .slice none 0 0, .slice none 0 0, vi 0]) fun p13 => Oq Va (Oq Va (KS ?_))
 refine Oq (VldA sh32 2) (Oq Vm (Oq (VldA sh26 1) ?_))
 refine letv (r14_Valid s k st) fun rv14 hg15 => ?_
 have hc16 := fn53 s sa1 sk1 sa2 sk2 sa3 sk3 k ka0 kk0 st sta1 stk1 sta2 stk2 sta5 stk5 sta6 stk6 pre pre pre pre pre rv14 hg15
 refine Oc [3, 4, 5, 6, 7, 8, 9, 10] ca53 hc16 ?_
 rintro - -
 refine Oq Vnot (KS ?_)
 refine Kc ?_ ?_
 ·intro h17
  have h19 := not_true h17
  refine KS ?_
  refine Oq (Vbd st26 [vi 0, .slice none 0 0, .slice none 0 0, vi 0, vi 0, .slice none 0 0, .slice none 0 0, vi 0]) (Ost (Scl [0] sh26 [vi 0, .slice none 0 0, .slice none 0 0, vi 0, vi 0, .slice none 0 0, .slice none 0 0, vi 0]) (Oq Va (Oq Va (KS ?_))))
  refine Jl [] (Ent.slNil (α := Int)) ?_
  refine Jl [] (Ent.slNil (α := Bool)) ?_
  refine Jl [] (Ent.slNil (α := GSet)) ?_
  have hq := q4 hrr ((GState.mk 0 [] [] 0 0 [] [] 0), 0, 1) (by simp only [r14_Step, h17, h19, hg15, cs4]); subst hq
  exact Kr (.slice none 0 0, .slice none 0 0, .slice none 0 0, .slice none 0 0) rfl (.cellN 3 rfl sh26 rfl (reads_Cl _ _) rfl (.tmp rfl (.tmp rfl .nil))) [2, 1, 0, 2] en
 intro h17
 have h22 := not_false h17
 refine KS ?_
 refine Oq (Vfa fo26_0 1) (Oq (VldF sh3 1) (Oq Veql (KS ?_)))
 refine Kc ?_ ?_
 ·intro h24
  have g25 := eq_of_beq h24
  refine KS ?_
  refine Oq (Vbd st26 [vi 0, .slice none 0 0, .slice none 0 0, vi 0, vi 0, .slice none 0 0, .slice none 0 0, vi 0]) (Ost (Scl [0] sh26 [vi 0, .slice none 0 0, .slice none 0 0, vi 0, vi 0, .slice none 0 0, .slice none 0 0, vi 0]) (Oq Va (Oq Va (KS ?_))))
  refine Jl [] (Ent.slNil (α := Int)) ?_
  refine Jl [] (Ent.slNil (α := Bool)) ?_
  refine Jl [] (Ent.slNil (α := GSet)) ?_
  have hq := q4 hrr ((GState.mk 0 [] [] 0 0 [] [] 0), 0, 10) (by simp only [r14_Step, h17, h22, h24, hg15, cs4]); subst hq
  exact Kr (.slice none 0 0, .slice none 0 0, .slice none 0 0, .slice none 0 0) rfl (.cellN 3 rfl sh26 rfl (reads_Cl _ _) rfl (.tmp rfl (.tmp rfl .nil))) [2, 1, 0, 2] en
 intro h24
 have g26 := ne_of_beq_false h24
 refine KS ?_
 refine Oq (VldA sh26 1) ?_
 refine letv (r14_CopyState st) fun rv31 hg32 => ?_
 have hc33 := fn8 st sta1 stk1 sta2 stk2 sta5 stk5 sta6 stk6 pre pre pre pre rv31 hg32
 refine Oc [7, 8, 9, 10] ca8 hc33 ?_
 rintro ⟨c27, c28, c29, c30⟩ ⟨he34, he35, he36, he37⟩
 unfold i64ok at he34 he35 he36 he37
 refine Jo 0 ?_; rintro a38 k39 rfl
 refine Fb 8 0 fun _ => Fo 0 fun ho41 => ?_
 refine Jo 1 ?_; rintro a42 k43 rfl
 refine Fb 1 1 fun _ => ?_
 refine Jo 2 ?_; rintro a45 k46 rfl
 refine Fb 32 2 fun _ => ?_
 refine Jo 3 ?_; rintro a48 k49 rfl
 refine Fb 8 3 fun _ => Fo 3 fun ho51 => ?_
 have hcs : rv31 = st := (by assumption : r14_CopyState st = rv31).symm.trans (CopyState_eq st)
 have hvf := RefV_facts (s := s) (k := k) (st := rv31) (by rw [hcs]; simp only [h17, h22, h24, hg15, hg32])
 obtain ⟨hvf1, hvf2, hvf3, hvf4⟩ := hvf
 have hv1 := hvf1.n
 have hv2 := hvf1.tl
 have hv3 := hvf1.bl
 have hv4 := hvf1.w
 have hv5 := hvf1.dep_len
 have hphe := congrArg GState.Phase hcs
 refine Ost (Scl [5] sh26 [vi rv31.Phase, vl a38 k39 rv31.Cone, vl a42 k43 rv31.Leaf, vi rv31.At, vi rv31.Edge, vl a45 k46 rv31.Values, vl a48 k49 rv31.Queue, vi rv31.Steps]) (KS ?_)
 refine Oq (Vfa fo26_7 0) (Oq (VldF sh3 0) ?_)
 refine letv (r1_Add rv31.Steps 1) fun rv52 hg53 => ?_
 have hc54 := fn94 rv31.Steps 1 pre pre rv52 hg53
 refine Oc [] ca94 hc54 ?_
 rintro - he55
 unfold i64ok at he55
 refine Oq (Vfa fo26_7 0) (Ost (SclF [0] sh3 [vi rv31.Phase, vl a38 k39 rv31.Cone, vl a42 k43 rv31.Leaf, vi rv31.At, vi rv31.Edge, vl a45 k46 rv31.Values, vl a48 k49 rv31.Queue, vi rv52]) (KS ?_))
 refine Oq (Vfa fo26_0 0) (Oq (VldF sh3 0) (Oq Veql (KS ?_)))
 refine Kc ?_ ?_
 ·intro h56
  have g57 := eq_of_beq h56
  refine KS ?_
  refine Oq (VldA sh32 6) (Oq Vm (Oq (VldA sh26 0) ?_))
  refine letv (r14_demand s k (GState.mk rv31.Phase rv31.Cone rv31.Leaf rv31.At rv31.Edge rv31.Values rv31.Queue rv52)) fun rv62 hg63 => ?_
  have hc64 := fn95 s sa1 sk1 sa2 sk2 sa3 sk3 k ka0 kk0 ((GState.mk rv31.Phase rv31.Cone rv31.Leaf rv31.At rv31.Edge rv31.Values rv31.Queue rv52)) a38 k39 a42 k43 a45 k46 a48 k49 pre pre pre pre pre hvf1 ((hvf2 aM1).steps _ _) rv62 hg63
  refine Oc [7, 8, 9, 10, 1, 1, 1, 1] ca95 hc64 ?_
  rintro ⟨c58, c59, c60, c61⟩ ⟨he65, he66, he67, he68⟩
  unfold i64ok at he65 he66 he67 he68
  refine Jo 0 ?_; rintro a69 k70 rfl
  refine Fb 8 0 fun _ => Fo 0 fun ho72 => ?_
  refine Jo 1 ?_; rintro a73 k74 rfl
  refine Fb 1 1 fun _ => ?_
  refine Jo 2 ?_; rintro a76 k77 rfl
  refine Fb 32 2 fun _ => ?_
  refine Jo 3 ?_; rintro a79 k80 rfl
  refine Fb 8 3 fun _ => Fo 3 fun ho82 => ?_
  refine Ost (Scl [5] sh26 [vi rv62.Phase, vl a69 k70 rv62.Cone, vl a73 k74 rv62.Leaf, vi rv62.At, vi rv62.Edge, vl a76 k77 rv62.Values, vl a79 k80 rv62.Queue, vi rv62.Steps]) (Oq Va (Oq Va (KS ?_)))
  have hq := q4 hrr (rv62, 1, 0) (by simp only [r14_Step, h17, h22, h24, h56, hg15, hg32, hg53, hg63, cs4]); subst hq
  exact Kr (vl a69 k70 rv62.Cone, vl a73 k74 rv62.Leaf, vl a76 k77 rv62.Values, vl a79 k80 rv62.Queue) rfl (.cellN 0 rfl sh26 rfl (reads_Cl _ _) rfl (.tmp rfl (.tmp rfl .nil))) [1, 2, 3, 4] en
 intro h56
 have g83 := ne_of_beq_false h56
 have hp := hvf3 aM1
 have hp1 := hp.lf
 have hp2 := hp.cl
 have hp3 := hp.vl
 have hp4 := hp.qn
 have hp5 := hp.ql
 have hpi := hp.qr _ (getD_mem (xs := rv31.Queue) (i := (0 : Int).toNat) (d := 0) (by show 0 < _; omega))
 have hpc := hp.cr _ (getD_mem (xs := rv31.Cone) (i := ((rv31.Queue.getD (0 : Int).toNat 0) : Int).toNat) (d := 0) aM1)
 refine KS ?_
 refine Oq (Vfa fo26_6 0) (Oq (VldF sh22 0) (Oq (Vi sl22 4) ?_))
 have hb84 := ok1 (i := (0 : Int).toNat) ho51 rng
 refine Oq (VldI sh3 4) (Oq Va (KS ?_))
 refine Oq (Vfa fo26_6 0) (Oq (VldF sh22 0) (Oa (AslO [4] sl22 ((1 : Int).toNat) rv31.Queue.length) fun c85 => ?_))
 refine Jo 0 ?_; rintro a86 k87 rfl
 refine Fb 8 0 fun _ => Fo 0 fun ho89 => ?_
 have hn90 : ((rv31.Queue.take rv31.Queue.length).drop ((1 : Int).toNat)).length = rv31.Queue.length - ((1 : Int).toNat) := len_slice rng rng
 refine Oq (Vfa fo26_6 1) (Ost (SclF [1] sh22 [vi rv31.Phase, vl a38 k39 rv31.Cone, vl a42 k43 rv31.Leaf, vi rv31.At, vi rv31.Edge, vl a45 k46 rv31.Values, vl a86 k87 ((rv31.Queue.take rv31.Queue.length).drop ((1 : Int).toNat)), vi rv52]) (KS ?_))
 refine Oq (VldA sh32 6) (Oq (Vfa fo26_1 0) (Oq (VldF sh22 0) (Oq (Vfa fo26_2 0) (Oq (VldF sh23 0) (Oq Vm ?_)))))
 refine letv (r14_Dependents s rv31.Cone rv31.Leaf (rv31.Queue.getD (0 : Int).toNat 0)) fun rv92 hg93 => ?_
 refine Oc [3, 2, 5, 6, 7] ca96 (FT_borrow (A := _) hlx (FT_ent (Ent.take (is := [1, 1, 2, 3, 0]) rfl) (FT_borrow (A := _) hlx (FT_ent (Ent.take (is := [1, 2, 3, 0, 4]) rfl) (fn96 s sa1 sk1 sa2 sk2 sa3 sk3 rv31.Cone a38 k39 rv31.Leaf a42 k43 ((rv31.Queue.getD (0 : Int).toNat 0)) pre pre rv92 hg93))))) ?_ (ht := rfl)
 rintro c91 he94
 refine Jo 2 ?_; rintro a95 k96 rfl
 refine Fb 8 2 fun _ => Fo 2 fun ho98 => ?_
 refine Oq Va (KS ?_)
 refine Oq Va (KS ?_)
 refine Kl (γ := Nat × List GSet × List Int × Int × Option Addr × Nat × Option Addr × Nat) (fun (r99, st5_100, st6_101, n_102, a103, k104, a105, k106) => ⟨[(3, p11), (5, p12), (6, p13), (9, vi (rv31.Queue.getD (0 : Int).toNat 0)), (10, vl a95 k96 rv92), (11, vi n_102)], [O a105 k106 st6_101, O a103 k104 st5_100, O a42 k43 rv31.Leaf, O a38 k39 rv31.Cone, O a95 k96 rv92, Cl p12 [vi rv31.Phase, vl a38 k39 rv31.Cone, vl a42 k43 rv31.Leaf, vi rv31.At, vi rv31.Edge, vl a103 k104 st5_100, vl a105 k106 st6_101, vi rv52], Cl p13 [vi 0, .slice none 0 0, .slice none 0 0, vi 0, vi 0, .slice none 0 0, .slice none 0 0, vi 0], pv p11 [vi s.Width, vl sa1 sk1 s.Deps, vl sa2 sk2 s.Transfers, vl sa3 sk3 s.Boundary], S sa1 sk1 s.Deps, S sa2 sk2 s.Transfers, S sa3 sk3 s.Boundary], r14_Step_L0 s rv31.Cone (rv31.Queue.getD (0 : Int).toNat 0) rv92 r99 st5_100 st6_101 n_102 = r14_Step_L0 s rv31.Cone (rv31.Queue.getD (0 : Int).toNat 0) rv92 (((rv92.length : Int) - 0).toNat) rv31.Values ((rv31.Queue.take rv31.Queue.length).drop ((1 : Int).toNat)) 0 ∧ r99 = ((rv92.length : Int) - n_102).toNat ∧ (0 : Int) ≤ n_102 ∧ n_102 ≤ (rv92.length : Int) ∧ (-9223372036854775808 ≤ n_102 ∧ n_102 ≤ 9223372036854775807) ∧ (st5_100.length : Int) = (rv31.Cone.length : Int) ∧ (st6_101.length : Int) ≤ 256 + n_102, r99⟩) (((rv92.length : Int) - 0).toNat, rv31.Values, ((rv31.Queue.take rv31.Queue.length).drop ((1 : Int).toNat)), 0, a45, k46, a86, k87) [4, 4, 0, 0, 0, 0, 0, 0, 1, 2, 3] ⟨rfl, rfl, aM1, aM1, aM1, iv0, iv0⟩ ?_
 rintro ⟨r99, st5_100, st6_101, n_102, a103, k104, a105, k106⟩ ⟨hM107, hr108, hi109, hi110, hk111, hv112, hv113⟩
 refine JJ_nx fun _ _ hL hA => ?_; dsimp only at hL hA; subst hL hA
 refine Fb 8 0 fun _ => Fo 0 fun ho115 => Fb 32 1 fun _ => Fb 1 2 fun _ => Fb 8 3 fun _ => Fo 3 fun ho119 => Fb 8 4 fun _ => Fo 4 fun ho121 => ?_
 refine Fb 24 8 fun _ => Fb 88 9 fun _ => Fb 32 10 fun _ => KS ?_
 refine Oq Vm (Oq Vm (Oq (Vlen sl22) (Oq Vlss (KS ?_))))
 refine Kc ?_ ?_
 ·intro h125
  have g126 := dt h125
  have hqd := RDep_mem (r := rv92) (by assumption) _ (getD_mem (xs := rv92) (i := n_102.toNat) (d := 0) aM1)
  obtain ⟨r127, rfl⟩ := scc (n := r99) aM1
  refine KS ?_
  refine Jp 5 fun hp128 => ?_
  refine JJ_peek_GTransfer ((rv31.Cone.getD ((rv31.Queue.getD (0 : Int).toNat 0) : Int).toNat 0) : Int).toNat 10 rfl rng fun a129 k130 a131 k132 a133 k134 hb135 hb136 => ?_
  unfold i64ok at hb135 hb136
  refine Fb 8 1 fun _ => Fb 8 2 fun _ => Fb 16 3 fun _ => ?_
  refine JJ_peekO_GSet ((rv31.Queue.getD (0 : Int).toNat 0) : Int).toNat 6 rfl rng fun a140 k141 hb142 => ?_
  unfold i64ok at hb142
  refine Fb 8 1 fun _ => ?_
  refine JK_drawK [0, 1, 0, 4, 0, 28, 60, 127, 255, 0, 512, 0, 3584, 7680, 16383, 32767, 65535, 65535, 0, 393215, 1048575] fmix ?_
  refine Dv [13] (Vfa fo32_2 0) (Dv [13] (VldF sh30 0) (Dv [6] (Vfa fo26_1 0) (Dv [11] (VldF sh22 0) (Dv [] Vm (Dv [9] (Vi sl22 0) ?_)))))
  have hb144 := ok1 (i := ((rv31.Queue.getD (0 : Int).toNat 0) : Int).toNat) ho119 rng
  refine Dv [9] (VldI sh3 0) (Dv [15] (Vi sl30 0) (Dv [2] (VldA sh85 0) (Dv [6] (Vfa fo26_5 0) (Dv [11] (VldF sh24 0) (Dv [] Vm (Dv [0] (Vi sl24 0) (Dv [0] (VldA sh39 0) ?_)))))))
  refine letv (r1_Apply (s.Transfers.getD ((rv31.Cone.getD ((rv31.Queue.getD (0 : Int).toNat 0) : Int).toNat 0) : Int).toNat default) (st5_100.getD ((rv31.Queue.getD (0 : Int).toNat 0) : Int).toNat default)) fun rv146 hg147 => ?_
  refine Dx [1, 3, 4, 5] [] [2, 3, 4, 5, 0, 1] (fun G => .tuple #[.agg #[vi rv146.1.Width, (G.g 14 0)], vi rv146.2]) [fun G => SP.fact (i64ok rv146.1.Width ∧ i64ok rv146.2), fun G => sl (G.g 14 0) rv146.1.Words] (fun G => xC [1, 2, 3, 0] ca97 (fn97 ((s.Transfers.getD ((rv31.Cone.getD ((rv31.Queue.getD (0 : Int).toNat 0) : Int).toNat 0) : Int).toNat default)) a129 k130 a131 k132 a133 k134 ((st5_100.getD ((rv31.Queue.getD (0 : Int).toNat 0) : Int).toNat default)) a140 k141 pre pre pre rv146 hg147)) (Dg [] (fun G => .tuple #[.agg #[vi rv146.1.Width, (G.g 14 0)], vi rv146.2]) (fun G => Vm) (Dg [] (fun G => .agg #[vi rv146.1.Width, (G.g 14 0)]) (fun G => Vx) (Dv [] Vx (Dx [] [] [0] (fun G => (G.g 18 0)) [fun G => Cl (G.g 18 0) [vi 0, .slice none 0 0]] (fun G => xA (Al ze39 [vi 0, .slice none 0 0])) (Dx0 [18, 19] [19] [1, 0] [fun G => Cl (G.g 18 0) [vi rv146.1.Width, (G.g 14 0)]] (fun G => x1 0 rfl sl_one fun ho149 => (xS (Scl [1] sh39 [vi rv146.1.Width, (G.g 14 0)] (v := .agg #[vi rv146.1.Width, (G.g 14 0)]) (h1 := show [vi rv146.1.Width, (G.g 14 0)].all (·.oneCell') = true from (by simp only [List.all_cons, List.all_nil, ho149, Bool.and_true, Bool.true_and] <;> rfl))))) (Dv [] Va ?_))))))
  refine Dn ⟨by kernel_rfl, fun G => ?_⟩
  refine Jw2 [(3, p11), (5, p12), (6, p13), (9, vi (rv31.Queue.getD (0 : Int).toNat 0)), (10, vl a95 k96 rv92), (11, vi n_102), (12, (G.g 18 0))] [0, 1, 2, 3, 4, 5, 6, 7, 8, 9, 10, 11, 12, 13, 14, 15, 16] [SP.fact (i64ok rv146.1.Width ∧ i64ok rv146.2), sl (G.g 14 0) rv146.1.Words, Cl (G.g 18 0) [vi rv146.1.Width, (G.g 14 0)]] ?_
  generalize G.g 14 0 = c145, G.g 18 0 = p148
  refine Jf 17 rfl ?_; rintro ⟨he150, he151⟩
  unfold i64ok at he150 he151
  refine Jk [0, 0, 1, 2, 3, 4, 6, 6, 6, 6, 6, 6, 6, 7, 8, 9, 11, 12] ?_
  refine Jo 16 ?_; rintro a152 k153 rfl
  refine Fb 8 16 fun _ => KS ?_
  refine Jp 10 fun hp155 => ?_
  refine JJ_peekO2_GSet ((rv92.getD n_102.toNat 0) : Int).toNat 1 rfl rng fun a156 k157 hb158 => ?_
  unfold i64ok at hb158
  refine Fb 8 1 fun _ => ?_
  refine JK_drawK [0, 1, 0, 0, 12, 28, 63, 127, 0, 511, 0, 2047] fmix ?_
  refine Dv [2] (Vfa fo26_5 0) (Dv [12] (VldF sh24 0) (Dv [] Vm (Dv [] Vm (Dv [11] (Vi sl22 0) ?_))))
  have hb160 := ok1 (i := n_102.toNat) ho121 rng
  refine Dv [11] (VldI sh3 0) (Dv [0] (Vi sl24 0) (Dv [0] (VldA sh39 0) (Dv [19] (VldA sh39 0) ?_)))
  refine letv (r1_Join (st5_100.getD ((rv92.getD n_102.toNat 0) : Int).toNat default) rv146.1) fun rv162 hg163 => ?_
  refine Dx [1, 18] [] [2, 3, 0, 1] (fun G => .agg #[vi rv162.Width, (G.g 9 0)]) [fun G => SP.fact (i64ok rv162.Width), fun G => sl (G.g 9 0) rv162.Words] (fun G => xC [0, 1] ca98 (fn98 ((st5_100.getD ((rv92.getD n_102.toNat 0) : Int).toNat default)) a156 k157 rv146.1 a152 k153 pre pre rv162 hg163)) (Dx [] [] [0] (fun G => (G.g 10 0)) [fun G => Cl (G.g 10 0) [vi 0, .slice none 0 0]] (fun G => xA (Al ze39 [vi 0, .slice none 0 0])) (Dx0 [21, 22] [22] [1, 0] [fun G => Cl (G.g 10 0) [vi rv162.Width, (G.g 9 0)]] (fun G => x1 0 rfl sl_one fun ho165 => (xS (Scl [1] sh39 [vi rv162.Width, (G.g 9 0)] (v := .agg #[vi rv162.Width, (G.g 9 0)]) (h1 := show [vi rv162.Width, (G.g 9 0)].all (·.oneCell') = true from (by simp only [List.all_cons, List.all_nil, ho165, Bool.and_true, Bool.true_and] <;> rfl))))) ?_))
  refine Dn ⟨by kernel_rfl, fun G => ?_⟩
  refine Jw2 [(3, p11), (5, p12), (6, p13), (9, vi (rv31.Queue.getD (0 : Int).toNat 0)), (10, vl a95 k96 rv92), (11, vi n_102), (14, (G.g 10 0))] [0, 1, 2, 3, 4, 5, 6, 7, 8, 9, 10, 11, 12, 13, 14, 15, 16, 17, 18, 19] [SP.fact (i64ok rv162.Width), sl (G.g 9 0) rv162.Words, Cl (G.g 10 0) [vi rv162.Width, (G.g 9 0)]] ?_
  generalize G.g 9 0 = c161, G.g 10 0 = p164
  refine Jf 20 rfl ?_; rintro he166
  unfold i64ok at he166
  refine Jk [0, 0, 2, 3, 4, 5, 6, 7, 7, 7, 7, 7, 7, 7, 8, 9, 10, 11, 12, 13, 14] ?_
  refine Jo 19 ?_; rintro a167 k168 rfl
  refine Fb 8 19 fun _ => KS ?_
  refine Jp 11 fun hp170 => ?_
  refine JK_drawK [0, 0, 2, 0, 0, 24, 56, 126, 254, 511] fmix ?_
  refine Dv [21] (VldA sh39 0) (Dv [0] (Vfa fo26_5 0) (Dv [12] (VldF sh24 0) (Dv [] Vm (Dv [] Vm (Dv [11] (Vi sl22 0) ?_)))))
  have hb171 := ok1 (i := n_102.toNat) ho121 rng
  refine Dv [11] (VldI sh3 0) (Dv [1] (Vi sl24 0) (Dv [1] (VldA sh39 0) ?_))
  refine letv (r1_Same rv162 (st5_100.getD ((rv92.getD n_102.toNat 0) : Int).toNat default)) fun rv172 hg173 => Dx [2, 20] [] [1, 2, 0] (fun G => vb rv172) [fun G => SP.fact (True)] (fun G => xC [1, 0] ca25 (fn25 rv162 a167 k168 ((st5_100.getD ((rv92.getD n_102.toNat 0) : Int).toNat default)) a156 k157 pre pre rv172 hg173)) ?_
  refine Dn ⟨by kernel_rfl, fun G => ?_⟩
  refine Jw2 [(3, p11), (5, p12), (6, p13), (9, vi (rv31.Queue.getD (0 : Int).toNat 0)), (10, vl a95 k96 rv92), (11, vi n_102), (14, p164), (96, vb rv172)] [0, 1, 2, 3, 4, 5, 6, 7, 8, 9, 10, 11, 12, 13, 14, 15, 16, 17, 18, 19, 20, 21] [SP.fact (True)] ?_
  refine Jk [1, 1, 2, 3, 4, 5, 6, 7, 7, 7, 7, 7, 7, 7, 8, 9, 10, 11, 12, 12, 13] ?_
  refine Kc ?_ ?_
  ·intro h174
   refine Jl [0] (Ent.oread2 _ _ _ _ _ _) ?_
   refine Ke ?_
   refine KS ?_
   refine Oq Vm (Oq Vadd (Oq Va (KS ?_)))
   exact Kg (r127, st5_100, st6_101, (n_102 + 1), a103, k104, a105, k106) [7, 0, 6, 6, 6, 6, 6, 6, 7, 8, 9] ⟨(q3 hM107 (by simp only [r14_Step_L0, h125, h174, hg147, hg163, hg173, cs4])), aM1, aM1, aM1, aM1, iv1, iv1⟩
  intro h174
  refine KS ?_
  refine Jp 11 fun hp177 => ?_
  refine JK_drawK [0, 1, 0, 0, 12, 28, 0, 127, 255] fmix ?_
  refine Dv [0] (Vfa fo26_5 0) (Dv [12] (VldF sh24 0) (Dv [] Vm (Dv [] Vm (Dv [11] (Vi sl22 0) ?_))))
  have hb178 := ok1 (i := n_102.toNat) ho121 rng
  refine Dv [11] (VldI sh3 0) (Dv [21] (VldA sh39 0) (Dv [1] (Vi sl24 0) ?_))
  refine Dx0 [1, 20] [1] [1, 0] [fun G => os (vl a103 k104 st5_100) (st5_100.set ((rv92.getD n_102.toNat 0) : Int).toNat rv162)] (fun G => xp [0] rfl (Ent.oread2 _ _ _ _ _ _) (xS (So (Rs := [S a167 k168 rv162.Words]) [0, 0] sh39 rv162 (fun h => ⟨_, rfl, aL1, sepAll_get (i := 0) rfl h⟩)))) ?_
  refine Dn ⟨by kernel_rfl, fun G => ?_⟩
  refine Jw2 [(3, p11), (5, p12), (6, p13), (9, vi (rv31.Queue.getD (0 : Int).toNat 0)), (10, vl a95 k96 rv92), (11, vi n_102)] [0, 2, 3, 4, 5, 6, 7, 8, 9, 10, 11, 12, 13, 14, 15, 16, 17, 18, 19, 20, 21] [os (vl a103 k104 st5_100) (st5_100.set ((rv92.getD n_102.toNat 0) : Int).toNat rv162)] ?_
  refine Jk [1, 2, 3, 4, 5, 6, 7, 7, 7, 7, 7, 7, 7, 8, 9, 10, 11, 12, 12, 13, 13] ?_
  refine KS ?_
  refine Jp 10 fun hp179 => ?_
  refine JK_drawK [0, 1, 0, 0, 12, 28, 63, 127] fmix ?_
  refine Dv [0] (Vfa fo26_6 0) (Dv [11] (VldF sh22 0) (Dv [] Vm (Dv [] Vm (Dv [10] (Vi sl22 0) ?_))))
  have hb180 := ok1 (i := n_102.toNat) ho121 rng
  refine Dv [10] (VldI sh3 0) ?_
  refine letv (r7_Has st6_101 (rv92.getD n_102.toNat 0)) fun rv181 hg182 => ?_
  refine Dx [7] [] [1, 0] (fun G => vb rv181) [fun G => SP.fact (True)] (fun G => xC [0] ca99 (FT_borrow (A := _) (fun _ _ h => by cases h) (FT_ent (Ent.take (is := [0]) rfl) (fn99 st6_101 a105 k106 ((rv92.getD n_102.toNat 0)) pre rv181 hg182))) (ht := rfl)) (Dv [] Vnot ?_)
  refine Dn ⟨by kernel_rfl, fun G => ?_⟩
  refine Jw2 [(3, p11), (5, p12), (6, p13), (9, vi (rv31.Queue.getD (0 : Int).toNat 0)), (10, vl a95 k96 rv92), (11, vi n_102), (112, vb (!rv181))] [0, 1, 2, 3, 4, 5, 6, 7, 8, 9, 10, 11, 12, 13, 14, 15, 16, 17, 18, 19, 20, 21] [SP.fact (True)] ?_
  refine Jk [1, 2, 3, 4, 5, 6, 7, 7, 7, 7, 7, 7, 7, 8, 9, 10, 11, 12, 12, 13, 13] ?_
  refine Kc ?_ ?_
  ·intro h183
   have h185 := not_true h183
   refine Jp 10 fun hp187 => ?_
   refine JK_drawK [0, 0, 2, 7, 0, 0, 48, 112, 240, 511, 1023, 2047] fmix ?_
   refine Dx [] [] [0] (fun G => (G.g 0 0)) [fun G => Cr (G.g 0 0) 0 []] (fun G => xA (As0 sl22)) (Dv [0] (Vfa fo26_6 0) (Dv [11] (VldF sh22 0) (Dx [7, 22] [7, 22] [0] (fun G => (G.g 3 0)) [fun G => os (G.g 3 0) st6_101] (fun G => xp [1] rfl (Ent.crNil (α := Int) _) (xA (ApO0 [0, 0] sl22 sl22 sz22))) (Dv [] Vm (Dv [] Vm (Dv [10] (Vi sl22 0) ?_))))))
   have hb190 := ok1 (i := n_102.toNat) ho121 rng
   refine Dv [10] (VldI sh3 0) (Dx [] [] [0] (fun G => (G.g 8 0)) [fun G => Cr (G.g 8 0) 1 [vi (rv92.getD n_102.toNat 0)]] (fun G => xA (AsV sl22 sz22 [vi (rv92.getD n_102.toNat 0)] [vi (rv92.getD n_102.toNat 0)])) ?_)
   have hn193 := la st6_101 ([(rv92.getD n_102.toNat 0)] : List Int)
   refine Dx [23, 24] [23, 24] [0] (fun G => (G.g 9 0)) [fun G => os (G.g 9 0) ((st6_101 ++ [(rv92.getD n_102.toNat 0)]) : List Int)] (fun G => xp [1] rfl (Ent.crInt _ [(rv92.getD n_102.toNat 0)] _ _ rfl rfl (by intro x hx; rw [List.mem_singleton] at hx; subst hx; unfold i64ok; omega) aB1) (xA (ApO [1, 0] sl22 sl22 sz22))) (Dv [0] (Vfa fo26_6 0) (Dx0 [11, 25] [11] [1, 0] [fun G => Cl p12 [vi rv31.Phase, vl a38 k39 rv31.Cone, vl a42 k43 rv31.Leaf, vi rv31.At, vi rv31.Edge, vl a103 k104 st5_100, (G.g 9 0), vi rv52]] (fun G => x1 1 rfl os_one fun ho194 => (xS (OpS.frame [0] rfl (OpS.storeClF [(G.g 9 0)] [vi rv31.Phase, vl a38 k39 rv31.Cone, vl a42 k43 rv31.Leaf, vi rv31.At, vi rv31.Edge, vl a103 k104 st5_100, (G.g 9 0), vi rv52] rfl rfl rfl sh22 (cells_of_one ho194) rfl (by simp only [List.all_cons, List.all_nil, ho194, Bool.and_true, Bool.true_and] <;> rfl) aB1 rfl)))) ?_))
   refine Dn ⟨by kernel_rfl, fun G => ?_⟩
   refine Jw2 [(3, p11), (5, p12), (6, p13), (9, vi (rv31.Queue.getD (0 : Int).toNat 0)), (10, vl a95 k96 rv92), (11, vi n_102)] [0, 1, 2, 3, 4, 5, 6, 8, 9, 10, 12, 13, 14, 15, 16, 17, 18, 19, 20, 21] [os (G.g 9 0) ((st6_101 ++ [(rv92.getD n_102.toNat 0)]) : List Int), Cl p12 [vi rv31.Phase, vl a38 k39 rv31.Cone, vl a42 k43 rv31.Leaf, vi rv31.At, vi rv31.Edge, vl a103 k104 st5_100, (G.g 9 0), vi rv52]] ?_
   generalize G.g 9 0 = c192
   refine Jk [1, 2, 3, 4, 5, 6, 7, 7, 7, 7, 7, 8, 9, 10, 11, 12, 12, 13, 13, 13, 13] ?_
   refine Jo 19 ?_; rintro a195 k196 rfl
   refine Fb 8 19 fun _ => Fo 19 fun ho198 => KS ?_
   refine Oq Vm (Oq Vadd (Oq Va (KS ?_)))
   refine Fl 18 fun hn199 => ?_; (try unfold vl); rw [← hn199]
   exact Kg (r127, (st5_100.set ((rv92.getD n_102.toNat 0) : Int).toNat rv162), (st6_101 ++ [(rv92.getD n_102.toNat 0)]), (n_102 + 1), a103, k104, a195, k196) [19, 18, 6, 6, 6, 15, 6, 6, 7, 8, 9] ⟨(q3 hM107 (by simp only [r14_Step_L0, h125, h174, h183, h185, hg147, hg163, hg173, hg182, cs4])), aM1, aM1, aM1, aM1, iv1, iv1⟩
  intro h183
  have h201 := not_false h183
  refine KS ?_
  refine Oq Vm (Oq Vadd (Oq Va (KS ?_)))
  refine Fl 20 fun hn203 => ?_; (try unfold vl); rw [← hn203]
  exact Kg (r127, (st5_100.set ((rv92.getD n_102.toNat 0) : Int).toNat rv162), st6_101, (n_102 + 1), a103, k104, a105, k106) [6, 19, 6, 6, 6, 6, 6, 6, 7, 8, 9] ⟨(q3 hM107 (by simp only [r14_Step_L0, h125, h174, h183, h201, hg147, hg163, hg173, hg182, cs4])), aM1, aM1, aM1, aM1, iv1, iv1⟩
 intro h125
 have g204 := df h125
 obtain rfl : r99 = 0 := by omega
 refine Ke ?_
 have hR205 := q2 hM107 (st5_100, st6_101) (by simp only [r14_Step_L0, h125, cs4])
 refine KS ?_
 refine Oq (Vfa fo26_6 5) (Oq (VldF sh22 5) (Oq (Vlen sl22) (Oq Veql (KS ?_))))
 refine Kc ?_ ?_
 ·intro h206
  have g207 := eq_of_beq h206
  refine KS ?_
  refine Oq (Vfa fo26_0 5) (Ost (SclF [5] sh3 [vi 3, vl a38 k39 rv31.Cone, vl a42 k43 rv31.Leaf, vi rv31.At, vi rv31.Edge, vl a103 k104 st5_100, vl a105 k106 st6_101, vi rv52]) (KS ?_))
  refine Oq (VldA sh26 0) (Oq Vm (Oq (Vlen sl22) (Oq Vadd (Oq Vmin (Ost (Scl [6] sh26 [vi 3, vl a38 k39 rv31.Cone, vl a42 k43 rv31.Leaf, vi rv31.At, vi rv31.Edge, vl a103 k104 st5_100, vl a105 k106 st6_101, vi rv52]) (Oq Va (Oq Va (KS ?_))))))))
  refine Jl [5] (Ent.freeze _ _) ?_
  refine Jl [5] (Ent.freeze _ _) ?_
  refine Jl [5] (Ent.freeze _ _) ?_
  refine Jl [5] (Ent.freeze _ _) ?_
  have hq := q4 hrr ((GState.mk 3 rv31.Cone rv31.Leaf rv31.At rv31.Edge st5_100 st6_101 rv52), (min (1 + (rv92.length : Int)) 8), 0) (by simp only [r14_Step, h17, h22, h24, h56, h125, h206, hg15, hg32, hg53, hg93, hR205, cs4]); subst hq
  exact Kr (vl a38 k39 rv31.Cone, vl a42 k43 rv31.Leaf, vl a103 k104 st5_100, vl a105 k106 st6_101) rfl (.cellN 4 rfl sh26 rfl (reads_Cl _ _) rfl (.tmp rfl (.tmp rfl .nil))) [3, 2, 1, 0] en
 intro h206
 have g208 := ne_of_beq_false h206
 refine KS ?_
 refine Oq (VldA sh26 5) (Oq Vm (Oq (Vlen sl22) (Oq Vadd (Oq Vmin (Ost (Scl [6] sh26 [vi rv31.Phase, vl a38 k39 rv31.Cone, vl a42 k43 rv31.Leaf, vi rv31.At, vi rv31.Edge, vl a103 k104 st5_100, vl a105 k106 st6_101, vi rv52]) (Oq Va (Oq Va (KS ?_))))))))
 refine Jl [4] (Ent.freeze _ _) ?_
 refine Jl [4] (Ent.freeze _ _) ?_
 refine Jl [4] (Ent.freeze _ _) ?_
 refine Jl [4] (Ent.freeze _ _) ?_
 have hq := q4 hrr ((GState.mk rv31.Phase rv31.Cone rv31.Leaf rv31.At rv31.Edge st5_100 st6_101 rv52), (min (1 + (rv92.length : Int)) 8), 0) (by simp only [r14_Step, h17, h22, h24, h56, h125, h206, hg15, hg32, hg53, hg93, hR205, cs4]); subst hq
 exact Kr (vl a38 k39 rv31.Cone, vl a42 k43 rv31.Leaf, vl a103 k104 st5_100, vl a105 k106 st6_101) rfl (.cellN 4 rfl sh26 rfl (reads_Cl _ _) rfl (.tmp rfl (.tmp rfl .nil))) [3, 2, 1, 0] en
end Go.SL.G
