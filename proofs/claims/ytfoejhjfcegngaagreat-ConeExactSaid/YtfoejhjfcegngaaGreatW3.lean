/- Part 3 of the walks: mirrors, plain laws and walks used by the last text of this claim. -/
import Derived.Test.YtfoejhjfcegngaaGreatW2
import Derived.Test.YtfoejhjfcegngaaGreatProg
set_option linter.unusedVariables false
set_option linter.unusedSimpArgs false
namespace Go.SL.G
open Go Go.SL Go.Proofs
set_option maxHeartbeats 20000000
set_option maxRecDepth 100000
theorem fn46 (l : List Int) (la0 : Option Addr) (lk0 : Nat) (n : Int) (hn_0 : i64ok n) (hl0 : l.length ≤ 1000000000) (rr : List Int) (hrr : flqref7_Insert l n = rr) : FT Tryz.prog 46 #[vl la0 lk0 l, vi n] [S la0 lk0 l] (fun g : Value => (rr.length ≤ l.length + 1)) (fun g => g) (fun g => [sl g rr]) := by
 refine FTi Tryz.func46 fun w0 M0 F0 => ?_
 unfold i64ok at hn_0
 refine Fb 8 0 fun hl1 => ?_
 refine Fo 0 fun ho2 => ?_
 refine KS ?_
 refine Oq Va (KS ?_)
 refine Oq Va (KS ?_)
 refine Kl (γ := Nat × Int) (fun (r3, i_4) => ⟨[(0, vl la0 lk0 l), (1, vi n), (5, vi i_4)], [S la0 lk0 l], flqref7_Insert_L0 l n r3 i_4 = flqref7_Insert_L0 l n (((l.length : Int) - 0).toNat) 0 ∧ r3 = ((l.length : Int) - i_4).toNat ∧ (0 : Int) ≤ i_4 ∧ i_4 ≤ (l.length : Int) ∧ (-9223372036854775808 ≤ i_4 ∧ i_4 ≤ 9223372036854775807), r3⟩) (((l.length : Int) - 0).toNat, 0) [0] ⟨rfl, rfl, (by omega), (by omega), (by omega)⟩ ?_
 rintro ⟨r3, i_4⟩ ⟨hM5, hr6, hi7, hi8, hk9⟩
 refine JJ_nx fun _ _ hL hA => ?_; dsimp only at hL hA; subst hL hA
 refine Fb 8 0 fun hl10 => ?_
 refine Fo 0 fun ho11 => ?_
 refine KS ?_
 refine Oq Vm (Oq Vm (Oq (Vlen sl22) (Oq Vlss (Oq Vm ?_))))
 refine Js 11 ?_ ?_
 · intro h12
   have g13 := of_decide_eq_true h12
   obtain ⟨r14, rfl⟩ := scc (n := r3) (by omega)
   refine Oq Vm (Oq Vm (Oq (Vi sl22 0) ?_))
   have hb15 := ok1 (i := i_4.toNat) ho11 rng
   refine Oq (VldI sh3 0) (Oq Vm (Oq Vlss (Oq Vpt (KS ?_))))
   refine Kc ?_ ?_
   · intro h16
     have g17 := of_decide_eq_true h16
     refine KS ?_
     refine Oq Vm (Oq Vadd (Oq Va (KS ?_)))
     exact Kg (r14, (i_4 + 1)) [0] ⟨(q3 hM5 (by simp only [flqref7_Insert_L0, h12, h16, cs4])), (by omega), (by omega), (by omega), (by omega)⟩
   intro h16
   have g18 := of_decide_eq_false h16
   refine Ke ?_
   have hR19 := q2 hM5 i_4 (by simp only [flqref7_Insert_L0, h12, h16, cs4])
   refine KS ?_
   refine Oq Vm (Oq Vm (Oq (Vlen sl22) (Oq Vlss (Oq Vm ?_))))
   refine Js 25 ?_ ?_
   · intro h20
     have g21 := of_decide_eq_true h20
     refine Oq Vm (Oq Vm (Oq (Vi sl22 0) ?_))
     have hb22 := ok1 (i := i_4.toNat) ho11 rng
     refine Oq (VldI sh3 0) (Oq Vm (Oq Veql (Oq Vpt (KS ?_))))
     refine Kc ?_ ?_
     · intro h23
       have g24 := eq_of_beq h23
       refine KS ?_
       refine Oq Vm (Oq Va (KS ?_))
       have hq := q4 hrr l (by simp only [flqref7_Insert, h12, h16, h20, h23, hR19, cs4]); subst hq
       exact Kr (vl la0 lk0 l) rfl (.tmp rfl .nil) [0] en
     intro h23
     have g25 := ne_of_beq_false h23
     refine KS ?_
     refine Oa (As0 sl22) fun c26 => ?_
     refine Jo 0 ?_; rintro a27 k28 rfl
     refine Oq Vm (Oq Vm (Oa (Asl [1] sl22 0 (i_4.toNat)) fun c29 => ?_))
     refine Jo 0 ?_; rintro a30 k31 rfl
     refine Fb 8 0 fun hl32 => ?_
     refine Fo 0 fun ho33 => ?_
     have hn34 : ((l.take (i_4.toNat)).drop 0).length = (i_4.toNat) - 0 := len_slice rng rng
     refine Jl [1] (Ent.crNil (α := Int) _) ?_
     refine Oa (Ap0 [0, 0] sl22 sl22 sz22) fun c35 => ?_
     refine Jo 0 ?_; rintro a36 k37 rfl
     refine Oq Va (KS ?_)
     refine Oq Vm (Oq Vm (Oa (AsV sl22 sz22 [vi n] [vi n]) fun c38 => ?_))
     refine Jo 0 ?_; rintro a39 k40 rfl
     refine Jl [0] (Ent.crInt _ [n] _ _ rfl rfl (by intro x hx; rw [List.mem_singleton] at hx; subst hx; unfold i64ok; omega) (Nat.le_of_ble_eq_true rfl)) ?_
     refine Oa (ApO [1, 0] sl22 sl22 sz22) fun c41 => ?_
     refine Jo 0 ?_; rintro a42 k43 rfl
     refine Fb 8 0 fun hl44 => ?_
     refine Fo 0 fun ho45 => ?_
     have hn46 := la ((l.take (i_4.toNat)).drop 0) ([n] : List Int)
     refine Oq Va (KS ?_)
     refine Oq Vm (Oq Vm (Oq Vm (Oa (Asl [2] sl22 (i_4.toNat) l.length) fun c47 => ?_)))
     refine Jo 0 ?_; rintro a48 k49 rfl
     refine Fb 8 0 fun hl50 => ?_
     refine Fo 0 fun ho51 => ?_
     have hn52 : ((l.take l.length).drop (i_4.toNat)).length = l.length - (i_4.toNat) := len_slice rng rng
     refine Oa (Ap [1, 0] sl22 sl22 sz22) fun c53 => ?_
     refine Jo 0 ?_; rintro a54 k55 rfl
     refine Fb 8 0 fun hl56 => ?_
     refine Fo 0 fun ho57 => ?_
     have hn58 := la ((((l.take (i_4.toNat)).drop 0) ++ [n]) : List Int) ((l.take l.length).drop (i_4.toNat))
     refine Oq Va (KS ?_)
     refine Jl [0] (Ent.freeze _ _) ?_
     have hq := q4 hrr ((((l.take (i_4.toNat)).drop 0) ++ [n]) ++ ((l.take l.length).drop (i_4.toNat))) (by simp only [flqref7_Insert, h12, h16, h20, h23, hR19, cs4]); subst hq
     exact Kr (.slice a54 (((((l.take (i_4.toNat)).drop 0) ++ [n]) ++ ((l.take l.length).drop (i_4.toNat))).length) k55) rfl (.tmp rfl .nil) [0] en
   intro h20
   exact absurd h20 (by simp [h12])
 intro h12
 have g59 := of_decide_eq_false h12
 obtain rfl : r3 = 0 := by omega
 refine Osk (Osk (Osk (Osk (Osk (Osk (Oq Vpf (KS ?_)))))))
 refine Kf ?_
 refine Ke ?_
 have hR60 := q2 hM5 i_4 (by simp only [flqref7_Insert_L0, h12, cs4])
 refine KS ?_
 refine Oq Vm (Oq Vm (Oq (Vlen sl22) (Oq Vlss (Oq Vm ?_))))
 refine Js 25 ?_ ?_
 · intro h61
   exact absurd h61 (by simp [h12])
 intro h61
 have g62 := of_decide_eq_false h61
 refine Osk (Osk (Osk (Osk (Osk (Osk (Oq Vpf (KS ?_)))))))
 refine Kf ?_
 refine KS ?_
 refine Oa (As0 sl22) fun c63 => ?_
 refine Jo 0 ?_; rintro a64 k65 rfl
 refine Oq Vm (Oq Vm (Oa (Asl [1] sl22 0 (i_4.toNat)) fun c66 => ?_))
 refine Jo 0 ?_; rintro a67 k68 rfl
 refine Fb 8 0 fun hl69 => ?_
 refine Fo 0 fun ho70 => ?_
 have hn71 : ((l.take (i_4.toNat)).drop 0).length = (i_4.toNat) - 0 := len_slice rng rng
 refine Jl [1] (Ent.crNil (α := Int) _) ?_
 refine Oa (Ap0 [0, 0] sl22 sl22 sz22) fun c72 => ?_
 refine Jo 0 ?_; rintro a73 k74 rfl
 refine Oq Va (KS ?_)
 refine Oq Vm (Oq Vm (Oa (AsV sl22 sz22 [vi n] [vi n]) fun c75 => ?_))
 refine Jo 0 ?_; rintro a76 k77 rfl
 refine Jl [0] (Ent.crInt _ [n] _ _ rfl rfl (by intro x hx; rw [List.mem_singleton] at hx; subst hx; unfold i64ok; omega) (Nat.le_of_ble_eq_true rfl)) ?_
 refine Oa (ApO [1, 0] sl22 sl22 sz22) fun c78 => ?_
 refine Jo 0 ?_; rintro a79 k80 rfl
 refine Fb 8 0 fun hl81 => ?_
 refine Fo 0 fun ho82 => ?_
 have hn83 := la ((l.take (i_4.toNat)).drop 0) ([n] : List Int)
 refine Oq Va (KS ?_)
 refine Oq Vm (Oq Vm (Oq Vm (Oa (Asl [2] sl22 (i_4.toNat) l.length) fun c84 => ?_)))
 refine Jo 0 ?_; rintro a85 k86 rfl
 refine Fb 8 0 fun hl87 => ?_
 refine Fo 0 fun ho88 => ?_
 have hn89 : ((l.take l.length).drop (i_4.toNat)).length = l.length - (i_4.toNat) := len_slice rng rng
 refine Oa (Ap [1, 0] sl22 sl22 sz22) fun c90 => ?_
 refine Jo 0 ?_; rintro a91 k92 rfl
 refine Fb 8 0 fun hl93 => ?_
 refine Fo 0 fun ho94 => ?_
 have hn95 := la ((((l.take (i_4.toNat)).drop 0) ++ [n]) : List Int) ((l.take l.length).drop (i_4.toNat))
 refine Oq Va (KS ?_)
 refine Jl [0] (Ent.freeze _ _) ?_
 have hq := q4 hrr ((((l.take (i_4.toNat)).drop 0) ++ [n]) ++ ((l.take l.length).drop (i_4.toNat))) (by simp only [flqref7_Insert, h12, h61, hR60, cs4]); subst hq
 exact Kr (.slice a91 (((((l.take (i_4.toNat)).drop 0) ++ [n]) ++ ((l.take l.length).drop (i_4.toNat))).length) k92) rfl (.tmp rfl .nil) [0] en
theorem fn66 (tP : Value) (ta : Option Addr) (tk : Nat) (tT : List Int) (tI : Int) (htI : 0 ≤ tI ∧ tI ≤ (tT.length : Int)) (rr : Int × Int) (hrr : Tape_Width tT tI = rr) : FT Tryz.prog 66 #[tP] [Cl tP [vl ta tk tT, vi tI], S ta tk tT] (fun g : Unit => i64ok rr.1 ∧ (0 ≤ rr.2 ∧ rr.2 ≤ (tT.length : Int)) ∧ (0 ≤ rr.1 ∧ rr.1 ≤ 8)) (fun g => vi rr.1) (fun g => [Cl tP [vl ta tk tT, vi rr.2]]) := by
 refine FTi Tryz.func66 fun w0 M0 F0 => ?_
 refine Fb 8 1 fun hl1 => ?_
 refine Fo 1 fun ho2 => ?_
 refine KS ?_
 refine Oq Va (KS ?_)
 refine Oa (AsV sl22 sz22 [vi 3, vi 1, vi 4, vi 2, vi 6, vi 0, vi 8] [vi 3, vi 1, vi 4, vi 2, vi 6, vi 0, vi 8]) fun c3 => ?_
 refine Jo 0 ?_; rintro a4 k5 rfl
 refine Oq Vm ?_
 refine letv (Tape_Next tT tI 7) fun rv6 hg7 => ?_
 have hc8 := fn19 tP ta tk tT tI 7 pre pre rv6 hg7
 refine Oc [1, 1] ca19 hc8 ?_
 rintro - ⟨he9, he10, he11⟩
 unfold i64ok at he9
 refine Jl [1] (Ent.crInt _ [3, 1, 4, 2, 6, 0, 8] _ _ rfl rfl (by intro x hx; simp only [List.mem_cons, List.not_mem_nil, or_false] at hx; rcases hx with rfl | rfl | rfl | rfl | rfl | rfl | rfl <;> (unfold i64ok; omega)) (Nat.le_of_ble_eq_true rfl)) ?_
 refine Oq (Vi sl22 0) (Oq (VldI sh3 0) (Oq Va (KS ?_)))
 have hq := q4 hrr (([3, 1, 4, 2, 6, 0, 8].getD rv6.1.toNat 0), rv6.2) (by simp only [Tape_Width, hg7, cs4]); subst hq
 exact Kr () rfl (.tmp rfl .nil) [1] ⟨(by rw [← hrr]; exact width_ok _ _), en, (by rw [← hrr]; exact width_rng _ _)⟩
theorem fn68 (tP : Value) (ta : Option Addr) (tk : Nat) (tT : List Int) (tI : Int) (width : Int) (htI : 0 ≤ tI ∧ tI ≤ (tT.length : Int)) (hwidth_0 : i64ok width) (hw0 : 0 ≤ width ∧ width ≤ 1000) (rr : GTransfer × Int) (hrr : Tape_Transfer tT tI width = rr) : FT Tryz.prog 68 #[tP, vi width] [Cl tP [vl ta tk tT, vi tI], S ta tk tT] (fun g : Value × Value × Value => i64ok rr.1.Gen.Width ∧ i64ok rr.1.Kill.Width ∧ (0 ≤ rr.2 ∧ rr.2 ≤ (tT.length : Int)) ∧ (rr.1.Gen.Width = width) ∧ (rr.1.Kill.Width = width) ∧ (rr.1.Copies.length ≤ 12)) (fun g => .agg #[vi rr.1.Gen.Width, g.1, vi rr.1.Kill.Width, g.2.1, g.2.2]) (fun g => [sl g.1 rr.1.Gen.Words, sl g.2.1 rr.1.Kill.Words, sl g.2.2 rr.1.Copies, Cl tP [vl ta tk tT, vi rr.2]]) := by
 refine FTi Tryz.func68 fun w0 M0 F0 => ?_
 unfold i64ok at hwidth_0
 refine Fb 8 1 fun hl1 => ?_
 refine Fo 1 fun ho2 => ?_
 refine KS ?_
 refine Oa (Al ze98 [vi 0, .slice none 0 0, vi 0, .slice none 0 0, .slice none 0 0]) fun p3 => KS ?_
 refine Oq Vm ?_
 refine letv (flqref1_Empty width) fun rv5 hg6 => ?_
 have hc7 := fn67 width pre pre rv5 hg6
 refine Oc [] ca67 hc7 ?_
 rintro c4 ⟨he8, he9, he10⟩
 unfold i64ok at he8
 refine Jo 0 ?_; rintro a11 k12 rfl
 refine Fb 8 0 fun hl13 => ?_
 refine Oq Vm ?_
 have hc15 := fn67 width pre pre rv5 hg6
 refine Oc [] ca67 hc15 ?_
 rintro c14 ⟨he16, he17, he18⟩
 unfold i64ok at he16
 refine Jo 0 ?_; rintro a19 k20 rfl
 refine Oq (Vbd st98 [vi rv5.Width, vl a11 k12 rv5.Words, vi rv5.Width, vl a19 k20 rv5.Words, .slice none 0 0]) (Oa (Al ze98 [vi 0, .slice none 0 0, vi 0, .slice none 0 0, .slice none 0 0]) fun p21 => Ost (Scl [0] sh98 [vi rv5.Width, vl a11 k12 rv5.Words, vi rv5.Width, vl a19 k20 rv5.Words, .slice none 0 0]) (KS ?_))
 refine Oq Va (KS ?_)
 refine Kl (γ := Nat × Int × Int × List (BitVec 64) × Int × List (BitVec 64) × Int × Option Addr × Nat × Option Addr × Nat) (fun (r22, ti_23, f0_24, f1_25, f2_26, f3_27, b_28, a29, k30, a31, k32) => ⟨[(0, tP), (1, vi width), (4, p3), (5, p21), (6, vi b_28)], [O a31 k32 f3_27, O a29 k30 f1_25, Cl p21 [vi f0_24, vl a29 k30 f1_25, vi f2_26, vl a31 k32 f3_27, .slice none 0 0], Cl p3 [vi 0, .slice none 0 0, vi 0, .slice none 0 0, .slice none 0 0], Cl tP [vl ta tk tT, vi ti_23], S ta tk tT], Tape_Transfer_L0 tT r22 ti_23 f0_24 f1_25 f2_26 f3_27 b_28 = Tape_Transfer_L0 tT (((width : Int) - 0).toNat) tI rv5.Width rv5.Words rv5.Width rv5.Words 0 ∧ r22 = ((width : Int) - b_28).toNat ∧ (0 : Int) ≤ b_28 ∧ (b_28 ≤ width ∨ b_28 = 0) ∧ (-9223372036854775808 ≤ ti_23 ∧ ti_23 ≤ 9223372036854775807) ∧ (0 ≤ ti_23 ∧ ti_23 ≤ (tT.length : Int)) ∧ (-9223372036854775808 ≤ f0_24 ∧ f0_24 ≤ 9223372036854775807) ∧ (-9223372036854775808 ≤ f2_26 ∧ f2_26 ≤ 9223372036854775807) ∧ (-9223372036854775808 ≤ b_28 ∧ b_28 ≤ 9223372036854775807) ∧ f0_24 = width ∧ f1_25.length = (((width : Int) + 63) / 64).toNat ∧ f2_26 = width ∧ f3_27.length = (((width : Int) + 63) / 64).toNat, r22⟩) (((width : Int) - 0).toNat, tI, rv5.Width, rv5.Words, rv5.Width, rv5.Words, 0, a11, k12, a19, k20) [1, 1, 0, 0, 0, 0] ⟨rfl, rfl, (by omega), (.inr rfl), (by omega), (by omega), (by omega), (by omega), (by omega), iv0, iv0, iv0, iv0⟩ ?_
 rintro ⟨r22, ti_23, f0_24, f1_25, f2_26, f3_27, b_28, a29, k30, a31, k32⟩ ⟨hM33, hr34, hi35, hi36, hk37, ht38, hk39, hk40, hk41, hv42, hv43, hv44, hv45⟩
 refine JJ_nx fun _ _ hL hA => ?_; dsimp only at hL hA; subst hL hA
 refine Fb 8 0 fun hl46 => ?_
 refine Fb 8 1 fun hl47 => ?_
 refine Fb 8 5 fun hl48 => ?_
 refine Fo 5 fun ho49 => ?_
 refine KS ?_
 refine Oq Vm (Oq Vm (Oq Vlss (KS ?_)))
 refine Kc ?_ ?_
 · intro h50
   have g51 := of_decide_eq_true h50
   obtain ⟨r52, rfl⟩ := scc (n := r22) (by omega)
   refine KS ?_
   refine Oq Vm ?_
   refine letv (Tape_Next tT ti_23 6) fun rv53 hg54 => ?_
   have hc55 := fn19 tP ta tk tT ti_23 6 pre pre rv53 hg54
   refine Oc [4, 4] ca19 hc55 ?_
   rintro - ⟨he56, he57, he58⟩
   unfold i64ok at he56
   refine KS ?_
   refine Oq Veql (Oq Va (KS ?_))
   refine Kc ?_ ?_
   · intro h59
     have g60 := eq_of_beq h59
     refine KS ?_
     refine Oq (Vfa fo98_0 3) (Oq (VldG sh42 3 [vi f0_24, vl a29 k30 f1_25]) (Oq Vm ?_))
     refine letv (flqref1_Put (GSet.mk f0_24 f1_25) b_28) fun rv62 hg63 => ?_
     refine Oc [2] ca79 (FT_borrow (A := _) hlx (FT_ent (Ent.take (is := [0]) rfl) (fn79 ((GSet.mk f0_24 f1_25)) a29 k30 b_28 pre pre pre pre rv62 hg63))) ?_ (ht := rfl)
     rintro c61 ⟨he64, he65, he66⟩
     unfold i64ok at he64
     have he65 : (rv62.Width = f0_24) := he65
     have he66 : (rv62.Words.length = ((f0_24 + 63) / 64).toNat) := he66
     refine Jo 1 ?_; rintro a67 k68 rfl
     refine Fb 8 1 fun hl69 => ?_
     refine Oq (Vfa fo98_0 4) (Ost (SclF [4] sh42 [vi rv62.Width, vl a67 k68 rv62.Words, vi f2_26, vl a31 k32 f3_27, .slice none 0 0]) (KS ?_))
     refine Oq Vm (Oq Vadd (Oq Va (KS ?_)))
     exact Kg (r52, rv53.2, rv62.Width, rv62.Words, f2_26, f3_27, (b_28 + 1), a67, k68, a31, k32) [4, 2, 0, 2, 1, 1] ⟨(q3 hM33 (by simp only [Tape_Transfer_L0, h50, h59, hg6, hg54, hg63, cs4])), (by omega), (by omega), (by omega), (by omega), (by omega), (by omega), (by omega), (by omega), iv1, iv1, iv1, iv1⟩
   intro h59
   have g70 := ne_of_beq_false h59
   refine KS ?_
   refine Oq Veql (Oq Va (KS ?_))
   refine Kc ?_ ?_
   · intro h71
     have g72 := eq_of_beq h71
     refine KS ?_
     refine Kc ?_ ?_
     · intro h73
       have g74 := eq_of_beq h73
       refine KS ?_
       refine Oq (Vfa fo98_1 3) (Oq (VldG sh42 3 [vi f2_26, vl a31 k32 f3_27]) (Oq Vm ?_))
       refine letv (flqref1_Put (GSet.mk f2_26 f3_27) b_28) fun rv76 hg77 => ?_
       refine Oc [1] ca79 (FT_borrow (A := _) hlx (FT_ent (Ent.take (is := [0]) rfl) (fn79 ((GSet.mk f2_26 f3_27)) a31 k32 b_28 pre pre pre pre rv76 hg77))) ?_ (ht := rfl)
       rintro c75 ⟨he78, he79, he80⟩
       unfold i64ok at he78
       have he79 : (rv76.Width = f2_26) := he79
       have he80 : (rv76.Words.length = ((f2_26 + 63) / 64).toNat) := he80
       refine Jo 1 ?_; rintro a81 k82 rfl
       refine Fb 8 1 fun hl83 => ?_
       refine Oq (Vfa fo98_1 4) (Ost (SclF [4] sh42 [vi f0_24, vl a29 k30 f1_25, vi rv76.Width, vl a81 k82 rv76.Words, .slice none 0 0]) (KS ?_))
       refine Oq Vm (Oq Vadd (Oq Va (KS ?_)))
       exact Kg (r52, rv53.2, f0_24, f1_25, rv76.Width, rv76.Words, (b_28 + 1), a29, k30, a81, k82) [2, 3, 0, 2, 1, 1] ⟨(q3 hM33 (by simp only [Tape_Transfer_L0, h50, h59, h71, h73, hg6, hg54, hg77, cs4])), (by omega), (by omega), (by omega), (by omega), (by omega), (by omega), (by omega), (by omega), iv1, iv1, iv1, iv1⟩
     intro h73
     exact absurd h73 (by simp [h71])
   intro h71
   have g84 := ne_of_beq_false h71
   refine KS ?_
   refine Oq Veql (Oq Va (KS ?_))
   refine Kc ?_ ?_
   · intro h85
     have g86 := eq_of_beq h85
     refine KS ?_
     refine Oq (Vfa fo98_1 3) (Oq (VldG sh42 3 [vi f2_26, vl a31 k32 f3_27]) (Oq Vm ?_))
     refine letv (flqref1_Put (GSet.mk f2_26 f3_27) b_28) fun rv88 hg89 => ?_
     refine Oc [1] ca79 (FT_borrow (A := _) hlx (FT_ent (Ent.take (is := [0]) rfl) (fn79 ((GSet.mk f2_26 f3_27)) a31 k32 b_28 pre pre pre pre rv88 hg89))) ?_ (ht := rfl)
     rintro c87 ⟨he90, he91, he92⟩
     unfold i64ok at he90
     have he91 : (rv88.Width = f2_26) := he91
     have he92 : (rv88.Words.length = ((f2_26 + 63) / 64).toNat) := he92
     refine Jo 1 ?_; rintro a93 k94 rfl
     refine Fb 8 1 fun hl95 => ?_
     refine Oq (Vfa fo98_1 4) (Ost (SclF [4] sh42 [vi f0_24, vl a29 k30 f1_25, vi rv88.Width, vl a93 k94 rv88.Words, .slice none 0 0]) (KS ?_))
     refine Oq Vm (Oq Vadd (Oq Va (KS ?_)))
     exact Kg (r52, rv53.2, f0_24, f1_25, rv88.Width, rv88.Words, (b_28 + 1), a29, k30, a93, k94) [2, 3, 0, 2, 1, 1] ⟨(q3 hM33 (by simp only [Tape_Transfer_L0, h50, h59, h71, h85, hg6, hg54, hg89, cs4])), (by omega), (by omega), (by omega), (by omega), (by omega), (by omega), (by omega), (by omega), iv1, iv1, iv1, iv1⟩
   intro h85
   have g96 := ne_of_beq_false h85
   refine KS ?_
   refine Oq Vm (Oq Vadd (Oq Va (KS ?_)))
   exact Kg (r52, rv53.2, f0_24, f1_25, f2_26, f3_27, (b_28 + 1), a29, k30, a31, k32) [1, 1, 1, 1, 0, 0] ⟨(q3 hM33 (by simp only [Tape_Transfer_L0, h50, h59, h71, h85, hg6, hg54, cs4])), (by omega), (by omega), (by omega), (by omega), (by omega), (by omega), (by omega), (by omega), iv1, iv1, iv1, iv1⟩
 intro h50
 have g97 := of_decide_eq_false h50
 obtain rfl : r22 = 0 := by omega
 refine Ke ?_
 have hR98 := q2 hM33 (ti_23, f0_24, f1_25, f2_26, f3_27) (by simp only [Tape_Transfer_L0, h50, hg6, cs4])
 refine KS ?_
 refine Oq Va (KS ?_)
 refine Jl [] (Ent.osNil (α := GCopy)) ?_
 refine Kl (γ := Nat × Int × List GCopy × Int × Option Addr × Nat) (fun (r99, ti_100, f4_101, a_102, a103, k104) => ⟨[(0, tP), (1, vi width), (4, p3), (5, p21), (7, vi a_102)], [O a103 k104 f4_101, O a31 k32 f3_27, O a29 k30 f1_25, Cl p21 [vi f0_24, vl a29 k30 f1_25, vi f2_26, vl a31 k32 f3_27, vl a103 k104 f4_101], Cl p3 [vi 0, .slice none 0 0, vi 0, .slice none 0 0, .slice none 0 0], Cl tP [vl ta tk tT, vi ti_100], S ta tk tT], Tape_Transfer_L1 tT width r99 ti_100 f4_101 a_102 = Tape_Transfer_L1 tT width (((width : Int) - 0).toNat) ti_23 [] 0 ∧ r99 = ((width : Int) - a_102).toNat ∧ (0 : Int) ≤ a_102 ∧ (a_102 ≤ width ∨ a_102 = 0) ∧ (-9223372036854775808 ≤ ti_100 ∧ ti_100 ≤ 9223372036854775807) ∧ (0 ≤ ti_100 ∧ ti_100 ≤ (tT.length : Int)) ∧ (-9223372036854775808 ≤ a_102 ∧ a_102 ≤ 9223372036854775807) ∧ f4_101.length ≤ 12, r99⟩) (((width : Int) - 0).toNat, ti_23, [], 0, none, 0) [0, 0, 0, 0, 0, 0, 0] ⟨rfl, rfl, (by omega), (.inr rfl), (by omega), (by omega), (by omega), iv0⟩ ?_
 rintro ⟨r99, ti_100, f4_101, a_102, a103, k104⟩ ⟨hM105, hr106, hi107, hi108, hk109, ht110, hk111, hv112⟩
 refine JJ_nx fun _ _ hL hA => ?_; dsimp only at hL hA; subst hL hA
 refine Fb 16 0 fun hl113 => ?_
 refine Fb 8 1 fun hl114 => ?_
 refine Fb 8 2 fun hl115 => ?_
 refine Fb 8 6 fun hl116 => ?_
 refine Fo 6 fun ho117 => ?_
 refine KS ?_
 refine Oq Vm (Oq Vm (Oq Vlss (KS ?_)))
 refine Kc ?_ ?_
 · intro h118
   have g119 := of_decide_eq_true h118
   obtain ⟨r120, rfl⟩ := scc (n := r99) (by omega)
   refine KS ?_
   refine Oq Va (KS ?_)
   refine Kl (γ := Nat × Int × List GCopy × Int × Option Addr × Nat) (fun (r121, ti_122, f4_123, b_124, a125, k126) => ⟨[(0, tP), (1, vi width), (4, p3), (5, p21), (7, vi a_102), (8, vi b_124)], [O a125 k126 f4_123, O a31 k32 f3_27, O a29 k30 f1_25, Cl p21 [vi f0_24, vl a29 k30 f1_25, vi f2_26, vl a31 k32 f3_27, vl a125 k126 f4_123], Cl p3 [vi 0, .slice none 0 0, vi 0, .slice none 0 0, .slice none 0 0], Cl tP [vl ta tk tT, vi ti_122], S ta tk tT], Tape_Transfer_L2 tT width a_102 r121 ti_122 f4_123 b_124 = Tape_Transfer_L2 tT width a_102 (((width : Int) - 0).toNat) ti_100 f4_101 0 ∧ r121 = ((width : Int) - b_124).toNat ∧ (0 : Int) ≤ b_124 ∧ (b_124 ≤ width ∨ b_124 = 0) ∧ (-9223372036854775808 ≤ ti_122 ∧ ti_122 ≤ 9223372036854775807) ∧ (0 ≤ ti_122 ∧ ti_122 ≤ (tT.length : Int)) ∧ (-9223372036854775808 ≤ b_124 ∧ b_124 ≤ 9223372036854775807) ∧ f4_123.length ≤ 12, r121⟩) (((width : Int) - 0).toNat, ti_100, f4_101, 0, a103, k104) [0, 0, 0, 0, 0, 0, 0] ⟨rfl, rfl, (by omega), (.inr rfl), (by omega), (by omega), (by omega), iv0⟩ ?_
   rintro ⟨r121, ti_122, f4_123, b_124, a125, k126⟩ ⟨hM127, hr128, hi129, hi130, hk131, ht132, hk133, hv134⟩
   refine JJ_nx fun _ _ hL hA => ?_; dsimp only at hL hA; subst hL hA
   refine Fb 16 0 fun hl135 => ?_
   refine Fb 8 1 fun hl136 => ?_
   refine Fb 8 2 fun hl137 => ?_
   refine Fb 8 6 fun hl138 => ?_
   refine Fo 6 fun ho139 => ?_
   refine KS ?_
   refine Oq Vm (Oq Vm (Oq Vlss (Oq Vm ?_)))
   refine Js 44 ?_ ?_
   · intro h140
     have g141 := of_decide_eq_true h140
     obtain ⟨r142, rfl⟩ := scc (n := r121) (by omega)
     refine Oq (Vfa fo98_2 3) (Oq (VldF sh96 3) (Oq (Vlen sl96) (Oq Vlss (Oq Vpt (KS ?_)))))
     refine Kc ?_ ?_
     · intro h143
       have g144 := of_decide_eq_true h143
       refine KS ?_
       refine Oq Vm (Oq Vm (Oq Vmul ?_))
       refine letv (Tape_Next tT ti_122 (2 * width)) fun rv145 hg146 => ?_
       have hc147 := fn19 tP ta tk tT ti_122 ((2 * width)) pre pre rv145 hg146
       refine Oc [5, 5] ca19 hc147 ?_
       rintro - ⟨he148, he149, he150⟩
       unfold i64ok at he148
       refine Oq Veql (KS ?_)
       refine Kc ?_ ?_
       · intro h151
         have g152 := eq_of_beq h151
         refine KS ?_
         refine Oq (Vfa fo98_2 4) (Oq (VldF sh96 4) (Oq Vm (Oq Vm (Oq (Vbd st147 [vi a_102, vi b_124]) (Oa (AsV sl96 sz96 [.agg #[vi a_102, vi b_124]] [vi a_102, vi b_124]) fun c153 => ?_)))))
         refine Jo 0 ?_; rintro a154 k155 rfl
         refine Jl [0] (Ent.cr1 (α := GCopy) (A := []) _ (GCopy.mk a_102 b_124) _ (Nat.le_of_ble_eq_true rfl) (fun h => ⟨rfl, (by unfold i64ok; first | omega | (dsimp only; omega)), (by unfold i64ok; first | omega | (dsimp only; omega))⟩)) ?_
         refine Oa (ApO [2, 0] sl96 sl96 sz96) fun c156 => ?_
         refine Jo 0 ?_; rintro a157 k158 rfl
         refine Fb 16 0 fun hl159 => ?_
         have hn160 := la f4_123 ([(GCopy.mk a_102 b_124)] : List GCopy)
         refine Oq (Vfa fo98_2 4) (Ost (SclF [4] sh96 [vi f0_24, vl a29 k30 f1_25, vi f2_26, vl a31 k32 f3_27, vl a157 k158 (f4_123 ++ [(GCopy.mk a_102 b_124)])]) (KS ?_))
         refine Oq Vm (Oq Vadd (Oq Va (KS ?_)))
         exact Kg (r142, rv145.2, (f4_123 ++ [(GCopy.mk a_102 b_124)]), (b_124 + 1), a157, k158) [1, 2, 2, 0, 1, 0, 0] ⟨(q3 hM127 (by simp only [Tape_Transfer_L2, h50, h118, h140, h143, h151, hg6, hR98, hg146, cs4])), (by omega), (by omega), (by omega), (by omega), (by omega), (by omega), iv1⟩
       intro h151
       have g161 := ne_of_beq_false h151
       refine KS ?_
       refine Oq Vm (Oq Vadd (Oq Va (KS ?_)))
       exact Kg (r142, rv145.2, f4_123, (b_124 + 1), a125, k126) [1, 1, 1, 1, 1, 0, 0] ⟨(q3 hM127 (by simp only [Tape_Transfer_L2, h50, h118, h140, h143, h151, hg6, hR98, hg146, cs4])), (by omega), (by omega), (by omega), (by omega), (by omega), (by omega), iv1⟩
     intro h143
     have g162 := of_decide_eq_false h143
     refine Ke ?_
     have hR163 := q2 hM127 (ti_122, f4_123) (by simp only [Tape_Transfer_L2, h50, h118, h140, h143, hg6, hR98, cs4])
     refine KS ?_
     refine Oq Vm (Oq Vadd (Oq Va (KS ?_)))
     exact Kg (r120, ti_122, f4_123, (a_102 + 1), a125, k126) [0, 0, 0, 0, 0, 0, 0] ⟨(q3 hM105 (by simp only [Tape_Transfer_L1, h50, h118, h140, h143, hg6, hR98, hR163, cs4])), (by omega), (by omega), (by omega), (by omega), (by omega), (by omega), iv1⟩
   intro h140
   have g164 := of_decide_eq_false h140
   obtain rfl : r121 = 0 := by omega
   refine Osk (Osk (Osk (Osk (Oq Vpf (KS ?_)))))
   refine Kf ?_
   refine Ke ?_
   have hR165 := q2 hM127 (ti_122, f4_123) (by simp only [Tape_Transfer_L2, h50, h118, h140, hg6, hR98, cs4])
   refine KS ?_
   refine Oq Vm (Oq Vadd (Oq Va (KS ?_)))
   exact Kg (r120, ti_122, f4_123, (a_102 + 1), a125, k126) [0, 0, 0, 0, 0, 0, 0] ⟨(q3 hM105 (by simp only [Tape_Transfer_L1, h50, h118, h140, hg6, hR98, hR165, cs4])), (by omega), (by omega), (by omega), (by omega), (by omega), (by omega), iv1⟩
 intro h118
 have g166 := of_decide_eq_false h118
 obtain rfl : r99 = 0 := by omega
 refine Ke ?_
 have hR167 := q2 hM105 (ti_100, f4_101) (by simp only [Tape_Transfer_L1, h50, h118, hg6, hR98, cs4])
 refine KS ?_
 refine Oq (VldA sh98 3) (Ost (Scl [4] sh98 [vi f0_24, vl a29 k30 f1_25, vi f2_26, vl a31 k32 f3_27, vl a103 k104 f4_101]) (KS ?_))
 refine Jl [3] (Ent.freeze _ _) ?_
 refine Jl [3] (Ent.freeze _ _) ?_
 refine Jl [3] (Ent.freeze _ _) ?_
 have hq := q4 hrr ((GTransfer.mk (GSet.mk f0_24 f1_25) (GSet.mk f2_26 f3_27) f4_101), ti_100) (by simp only [Tape_Transfer, h50, h118, hg6, hR98, hR167, cs4]); subst hq
 exact Kr (vl a29 k30 f1_25, vl a31 k32 f3_27, vl a103 k104 f4_101) rfl (.cellN 3 rfl sh98 rfl (reads_Cl _ _) rfl .nil) [2, 1, 0, 5] en
theorem fn18 (tP : Value) (ta : Option Addr) (tk : Nat) (tT : List Int) (tI : Int) (n : Int) (htI : 0 ≤ tI ∧ tI ≤ (tT.length : Int)) (hn_0 : i64ok n) (hn0 : 0 ≤ n ∧ n ≤ 1000) (rr : GSystem × Int) (hrr : Tape_System tT tI n = rr) : FT Tryz.prog 18 #[tP, vi n] [Cl tP [vl ta tk tT, vi tI], S ta tk tT] (fun g : Value × Value × Value => i64ok rr.1.Width ∧ (0 ≤ rr.2 ∧ rr.2 ≤ (tT.length : Int)) ∧ (rr.1.Deps.length ≤ 1001)) (fun g => .agg #[vi rr.1.Width, g.1, g.2.1, g.2.2]) (fun g => [sl g.1 rr.1.Deps, sl g.2.1 rr.1.Transfers, sl g.2.2 rr.1.Boundary, Cl tP [vl ta tk tT, vi rr.2]]) := by
 refine FTi Tryz.func18 fun w0 M0 F0 => ?_
 unfold i64ok at hn_0
 refine Fb 8 1 fun hl1 => ?_
 refine Fo 1 fun ho2 => ?_
 refine KS ?_
 refine Oa (Al ze27 [vi 0, .slice none 0 0, .slice none 0 0, .slice none 0 0]) fun p3 => KS ?_
 refine Oq Vm ?_
 refine letv (Tape_Width tT tI) fun rv4 hg5 => ?_
 have hc6 := fn66 tP ta tk tT tI pre rv4 hg5
 refine Oc [1, 1] ca66 hc6 ?_
 rintro - ⟨he7, he8, he9⟩
 unfold i64ok at he7
 refine Oq Vrem (Oq (Vbd st27 [vi (rv4.1 % 5), .slice none 0 0, .slice none 0 0, .slice none 0 0]) (Oa (Al ze27 [vi 0, .slice none 0 0, .slice none 0 0, .slice none 0 0]) fun p10 => Ost (Scl [0] sh27 [vi (rv4.1 % 5), .slice none 0 0, .slice none 0 0, .slice none 0 0]) (KS ?_)))
 refine Oq Vm (Oq Vm ?_)
 refine letv (Tape_Next tT rv4.2 n) fun rv11 hg12 => ?_
 have hc13 := fn19 tP ta tk tT rv4.2 n pre pre rv11 hg12
 refine Oc [1, 2] ca19 hc13 ?_
 rintro - ⟨he14, he15, he16⟩
 unfold i64ok at he14
 refine Oq Vadd (Oq Va (KS ?_))
 refine Oq Va (KS ?_)
 refine Jl [] (Ent.osNil (α := (List Int))) ?_
 refine Jl [] (Ent.osNil (α := GTransfer)) ?_
 refine Jl [] (Ent.osNil (α := GSet)) ?_
 refine Kl (γ := Nat × Int × List (List Int) × List GTransfer × List GSet × Int × Option Addr × Nat × Option Addr × Nat × Option Addr × Nat) (fun (r17, ti_18, s1_19, s2_20, s3_21, i_22, a23, k24, a25, k26, a27, k28) => ⟨[(0, tP), (4, p3), (5, p10), (1, vi (1 + rv11.1)), (6, vi i_22)], [O a27 k28 s3_21, O a25 k26 s2_20, O a23 k24 s1_19, Cl tP [vl ta tk tT, vi ti_18], Cl p10 [vi (rv4.1 % 5), vl a23 k24 s1_19, vl a25 k26 s2_20, vl a27 k28 s3_21], Cl p3 [vi 0, .slice none 0 0, .slice none 0 0, .slice none 0 0], S ta tk tT], Tape_System_L0 tT (1 + rv11.1) (rv4.1 % 5) r17 ti_18 s1_19 s2_20 s3_21 i_22 = Tape_System_L0 tT (1 + rv11.1) (rv4.1 % 5) ((((1 + rv11.1) : Int) - 0).toNat) rv11.2 [] [] [] 0 ∧ r17 = (((1 + rv11.1) : Int) - i_22).toNat ∧ (0 : Int) ≤ i_22 ∧ i_22 ≤ (1 + rv11.1) ∧ (-9223372036854775808 ≤ ti_18 ∧ ti_18 ≤ 9223372036854775807) ∧ (0 ≤ ti_18 ∧ ti_18 ≤ (tT.length : Int)) ∧ (-9223372036854775808 ≤ i_22 ∧ i_22 ≤ 9223372036854775807) ∧ (s1_19.length : Int) = i_22 ∧ (s2_20.length : Int) = i_22 ∧ (s3_21.length : Int) = i_22, r17⟩) ((((1 + rv11.1) : Int) - 0).toNat, rv11.2, [], [], [], 0, none, 0, none, 0, none, 0) [0, 0, 0, 0, 0, 0, 0] ⟨rfl, rfl, (by omega), (by omega), (by omega), (by omega), (by omega), iv0, iv0, iv0⟩ ?_
 rintro ⟨r17, ti_18, s1_19, s2_20, s3_21, i_22, a23, k24, a25, k26, a27, k28⟩ ⟨hM29, hr30, hi31, hi32, hk33, ht34, hk35, hv36, hv37, hv38⟩
 refine JJ_nx fun _ _ hL hA => ?_; dsimp only at hL hA; subst hL hA
 refine Fb 32 0 fun hl39 => ?_
 refine Fb 88 1 fun hl40 => ?_
 refine Fb 24 2 fun hl41 => ?_
 refine Fb 8 6 fun hl42 => ?_
 refine Fo 6 fun ho43 => ?_
 refine KS ?_
 refine Oq Vm (Oq Vm (Oq Vlss (KS ?_)))
 refine Kc ?_ ?_
 · intro h44
   have g45 := of_decide_eq_true h44
   obtain ⟨r46, rfl⟩ := scc (n := r17) (by omega)
   refine KS ?_
   refine Oq Va (KS ?_)
   refine Oq Vm ?_
   refine letv (Tape_Next tT ti_18 4) fun rv47 hg48 => ?_
   have hc49 := fn19 tP ta tk tT ti_18 4 pre pre rv47 hg48
   refine Oc [3, 5] ca19 hc49 ?_
   rintro - ⟨he50, he51, he52⟩
   unfold i64ok at he50
   refine Oq Va (KS ?_)
   refine Jl [] (Ent.slNil (α := Int)) ?_
   refine Kl (γ := Nat × Int × List Int × Int × Option Addr × Nat) (fun (r53, ti_54, d_55, k_56, a57, k58) => ⟨[(0, tP), (4, p3), (5, p10), (1, vi (1 + rv11.1)), (6, vi i_22), (7, vl a57 k58 d_55), (8, vi k_56)], [S a57 k58 d_55, Cl tP [vl ta tk tT, vi ti_54], O a27 k28 s3_21, O a25 k26 s2_20, O a23 k24 s1_19, Cl p10 [vi (rv4.1 % 5), vl a23 k24 s1_19, vl a25 k26 s2_20, vl a27 k28 s3_21], Cl p3 [vi 0, .slice none 0 0, .slice none 0 0, .slice none 0 0], S ta tk tT], Tape_System_L1 tT (1 + rv11.1) r53 ti_54 d_55 k_56 = Tape_System_L1 tT (1 + rv11.1) (rv47.1.toNat) rv47.2 [] rv47.1 ∧ r53 = k_56.toNat ∧ k_56 ≤ (rv47.1 : Int) ∧ (-9223372036854775808 ≤ ti_54 ∧ ti_54 ≤ 9223372036854775807) ∧ (0 ≤ ti_54 ∧ ti_54 ≤ (tT.length : Int)) ∧ (-9223372036854775808 ≤ k_56 ∧ k_56 ≤ 9223372036854775807) ∧ (d_55.length : Int) + k_56 ≤ 4, r53⟩) (rv47.1.toNat, rv47.2, [], rv47.1, none, 0) [0, 1, 1, 1, 1, 1, 1, 1] ⟨rfl, rfl, (by omega), (by omega), (by omega), (by omega), iv0⟩ ?_
   rintro ⟨r53, ti_54, d_55, k_56, a57, k58⟩ ⟨hM59, hr60, hi61, hk62, ht63, hk64, hv65⟩
   refine JJ_nx fun _ _ hL hA => ?_; dsimp only at hL hA; subst hL hA
   refine Fb 8 0 fun hl66 => ?_
   refine Fo 0 fun ho67 => ?_
   refine Fb 32 2 fun hl68 => ?_
   refine Fb 88 3 fun hl69 => ?_
   refine Fb 24 4 fun hl70 => ?_
   refine Fb 8 7 fun hl71 => ?_
   refine Fo 7 fun ho72 => ?_
   refine KS ?_
   refine Oq Vm (Oq Vgtr (KS ?_))
   refine Kc ?_ ?_
   · intro h73
     have g74 := of_decide_eq_true h73
     obtain ⟨r75, rfl⟩ := scc (n := r53) (by omega)
     refine KS ?_
     refine Oq Vm (Oq Vm (Oq Vm ?_))
     refine letv (Tape_Next tT ti_54 (1 + rv11.1)) fun rv76 hg77 => ?_
     have hc78 := fn19 tP ta tk tT ti_54 ((1 + rv11.1)) pre pre rv76 hg77
     refine Oc [1, 6] ca19 hc78 ?_
     rintro - ⟨he79, he80, he81⟩
     unfold i64ok at he79
     refine letv (flqref7_Insert d_55 rv76.1) fun rv83 hg84 => ?_
     have hc85 := fn46 d_55 a57 k58 rv76.1 pre pre rv83 hg84
     refine Oc [1] ca46 hc85 ?_
     rintro c82 he86
     refine Jo 0 ?_; rintro a87 k88 rfl
     refine Fb 8 0 fun hl89 => ?_
     refine Fo 0 fun ho90 => ?_
     refine Oq Va (KS ?_)
     refine Oq Vm (Oq Vsub (Oq Va (KS ?_)))
     exact Kg (r75, rv76.2, rv83, (k_56 - 1), a87, k88) [0, 1, 2, 2, 2, 2, 2, 2] ⟨(q3 hM59 (by simp only [Tape_System_L1, h44, h73, hg5, hg12, hg48, hg77, hg84, cs4])), (by omega), (by omega), (by omega), (by omega), (by omega), iv1⟩
   intro h73
   have g91 := of_decide_eq_false h73
   obtain rfl : r53 = 0 := by omega
   refine Ke ?_
   have hR92 := q2 hM59 (ti_54, d_55) (by simp only [Tape_System_L1, h44, h73, hg5, hg12, hg48, cs4])
   refine KS ?_
   refine Oq (Vfa fo27_0 5) (Oq (VldF sh3 5) ?_)
   refine letv (flqref1_Empty (rv4.1 % 5)) fun rv94 hg95 => ?_
   have hc96 := fn67 ((rv4.1 % 5)) pre pre rv94 hg95
   refine Oc [] ca67 hc96 ?_
   rintro c93 ⟨he97, he98, he99⟩
   unfold i64ok at he97
   refine Jo 0 ?_; rintro a100 k101 rfl
   refine Fb 8 0 fun hl102 => ?_
   refine Oa (Al ze42 [vi 0, .slice none 0 0]) fun p103 => Ost (Scl [0] sh42 [vi rv94.Width, vl a100 k101 rv94.Words]) (KS ?_)
   refine Oq Vm ?_
   refine letv (Tape_Next tT ti_54 3) fun rv104 hg105 => ?_
   have hc106 := fn19 tP ta tk tT ti_54 3 pre pre rv104 hg105
   refine Oc [3, 8] ca19 hc106 ?_
   rintro - ⟨he107, he108, he109⟩
   unfold i64ok at he107
   refine Oq Veql (KS ?_)
   refine Kc ?_ ?_
   · intro h110
     have g111 := eq_of_beq h110
     refine KS ?_
     refine Oq Vm (Oq (Vfa fo27_0 7) (Oq (VldF sh3 7) ?_))
     refine letv (Tape_Set tT rv104.2 (rv4.1 % 5)) fun rv113 hg114 => ?_
     have hc115 := fn23 tP ta tk tT rv104.2 ((rv4.1 % 5)) pre pre pre rv113 hg114
     refine Oc [0, 8] ca23 hc115 ?_
     rintro c112 ⟨he116, he117, he118, he119⟩
     unfold i64ok at he116
     refine Jo 0 ?_; rintro a120 k121 rfl
     refine Fb 8 0 fun hl122 => ?_
     refine Ost (Scl [2] sh42 [vi rv113.1.Width, vl a120 k121 rv113.1.Words]) (KS ?_)
     refine Jp 8 fun hp123 => ?_
     refine JK_drawK [0, 1, 0, 4, 15, 0, 32, 0, 128, 511, 0, 1024, 0, 0, 8192, 29695, 62463, 131071, 27775, 524287, 1048575, 2097151, 4194303, 8388607] fmix ?_
     refine Dv [0] (Vfa fo27_1 0) (Dv [9] (VldF sh23 0) (Dv [] Vm (Dx [] [] [0] (fun G => (G.g 3 0)) [fun G => Cr (G.g 3 0) 1 [vl a57 k58 d_55]] (fun G => xA (AsV sl23 sz23 [vl a57 k58 d_55] [vl a57 k58 d_55])) ?_)))
     have hn126 := la s1_19 ([d_55] : List (List Int))
     refine Dx [5, 8, 12] [8, 12] [1, 0] (fun G => (G.g 4 0)) [fun G => os (G.g 4 0) ((s1_19 ++ [d_55]) : List (List Int))] (fun G => xp [2, 0] rfl (Ent.cr1 (α := List Int) (A := [S a57 k58 d_55]) _ d_55 _ (Nat.le_of_ble_eq_true rfl) (fun h => ⟨_, rfl, sepAll_get (i := 0) rfl h⟩)) (xA (ApO [3, 0] sl23 sl23 sz23))) (Dv [0] (Vfa fo27_3 0) (Dv [9] (VldF sh25 0) (Dv [1] (VldA sh42 0) (Dx [] [] [0] (fun G => (G.g 8 0)) [fun G => Cr (G.g 8 0) 1 [vi rv113.1.Width, vl a120 k121 rv113.1.Words]] (fun G => xA (AsV sl25 sz25 [.agg #[vi rv113.1.Width, vl a120 k121 rv113.1.Words]] [vi rv113.1.Width, vl a120 k121 rv113.1.Words])) ?_))))
     have hn129 := la s3_21 ([rv113.1] : List GSet)
     refine Dx [2, 6, 14] [2, 6, 14] [1, 0] (fun G => (G.g 9 0)) [fun G => S a120 k121 rv113.1.Words, fun G => os (G.g 9 0) ((s3_21 ++ [rv113.1]) : List GSet)] (fun G => xp [0] rfl (Ent.freeze _ _) (xp [2, 0] rfl (Ent.cr1 (α := GSet) (A := [S a120 k121 rv113.1.Words]) _ rv113.1 _ (Nat.le_of_ble_eq_true rfl) (fun h => ⟨_, rfl, (by unfold i64ok; first | omega | (dsimp only; omega)), sepAll_get (i := 0) rfl h⟩)) (xA (ApO [3, 0] sl25 sl25 sz25)))) (Dv [0] (Vfa fo27_2 0) (Dv [9] (VldF sh24 0) (Dv [] Vm (Dv [0] (Vfa fo27_0 0) (Dv [9] (VldF sh3 0) ?_)))))
     refine letv (Tape_Transfer tT rv113.2 (rv4.1 % 5)) fun rv133 hg134 => ?_
     refine Dx [3, 11] [3] [5, 0, 1, 2, 3, 4] (fun G => .agg #[vi rv133.1.Gen.Width, (G.g 15 0), vi rv133.1.Kill.Width, (G.g 15 1), (G.g 15 2)]) [fun G => SP.fact (i64ok rv133.1.Gen.Width ∧ i64ok rv133.1.Kill.Width ∧ (0 ≤ rv133.2 ∧ rv133.2 ≤ (tT.length : Int)) ∧ (rv133.1.Gen.Width = (rv4.1 % 5)) ∧ (rv133.1.Kill.Width = (rv4.1 % 5)) ∧ (rv133.1.Copies.length ≤ 12)), fun G => sl (G.g 15 0) rv133.1.Gen.Words, fun G => sl (G.g 15 1) rv133.1.Kill.Words, fun G => sl (G.g 15 2) rv133.1.Copies, fun G => Cl tP [vl ta tk tT, vi rv133.2]] (fun G => xC [0, 0] ca68 (fn68 tP ta tk tT rv113.2 ((rv4.1 % 5)) pre pre pre rv133 hg134)) (Dx [] [] [0] (fun G => (G.g 16 0)) [fun G => Cr (G.g 16 0) 1 [vi rv133.1.Gen.Width, (G.g 15 0), vi rv133.1.Kill.Width, (G.g 15 1), (G.g 15 2)]] (fun G => xA (AsV sl24 sz24 [.agg #[vi rv133.1.Gen.Width, (G.g 15 0), vi rv133.1.Kill.Width, (G.g 15 1), (G.g 15 2)]] [vi rv133.1.Gen.Width, (G.g 15 0), vi rv133.1.Kill.Width, (G.g 15 1), (G.g 15 2)])) ?_)
     have hn137 := la s2_20 ([rv133.1] : List GTransfer)
     refine Dx [7, 17, 18, 19, 20, 22] [7, 22] [4, 1, 2, 3, 0] (fun G => (G.g 17 0)) [fun G => os (G.g 17 0) ((s2_20 ++ [rv133.1]) : List GTransfer)] (fun G => by refine xf 1 rfl ?_; rintro ⟨he138, he139, he140, he141, he142, he143⟩; unfold i64ok at he138 he139; exact xp [5, 2, 3, 4] rfl (Ent.cr1 (α := GTransfer) (A := [sl (G.g 15 0) rv133.1.Gen.Words, sl (G.g 15 1) rv133.1.Kill.Words, sl (G.g 15 2) rv133.1.Copies]) _ rv133.1 _ (Nat.le_of_ble_eq_true rfl) (fun h => ⟨_, _, _, rfl, (by unfold i64ok; first | omega | (dsimp only; omega)), sepAll_get (i := 0) rfl h, (by unfold i64ok; first | omega | (dsimp only; omega)), sepAll_get (i := 1) rfl h, sepAll_get (i := 2) rfl h⟩)) (xA (ApO [4, 0] sl24 sl24 sz24))) (Dv [0] (Vfa fo27_1 0) (Dx0 [9, 13] [9] [1, 0] [fun G => Cl p10 [vi (rv4.1 % 5), (G.g 4 0), vl a25 k26 s2_20, vl a27 k28 s3_21]] (fun G => x1 1 rfl os_one fun ho144 => (xS (OpS.frame [0] rfl (OpS.storeClF [(G.g 4 0)] [vi (rv4.1 % 5), (G.g 4 0), vl a25 k26 s2_20, vl a27 k28 s3_21] rfl rfl rfl sh23 (cells_of_one ho144) rfl (by simp only [List.all_cons, List.all_nil, ho144, Bool.and_true, Bool.true_and] <;> rfl) (Nat.le_of_ble_eq_true rfl) rfl)))) (Dv [0] (Vfa fo27_3 0) (Dx0 [16, 24] [24] [1, 0] [fun G => Cl p10 [vi (rv4.1 % 5), (G.g 4 0), vl a25 k26 s2_20, (G.g 9 0)]] (fun G => x1 0 rfl os_one fun ho145 => (xS (OpS.frame [1] rfl (OpS.storeClF [(G.g 9 0)] [vi (rv4.1 % 5), (G.g 4 0), vl a25 k26 s2_20, (G.g 9 0)] rfl rfl rfl sh25 (cells_of_one ho145) rfl (by simp only [List.all_cons, List.all_nil, ho145, Bool.and_true, Bool.true_and] <;> rfl) (Nat.le_of_ble_eq_true rfl) rfl)))) (Dv [0] (Vfa fo27_2 0) (Dx0 [23, 25] [25] [1, 0] [fun G => Cl p10 [vi (rv4.1 % 5), (G.g 4 0), (G.g 17 0), (G.g 9 0)]] (fun G => x1 0 rfl os_one fun ho146 => (xS (OpS.frame [1] rfl (OpS.storeClF [(G.g 17 0)] [vi (rv4.1 % 5), (G.g 4 0), (G.g 17 0), (G.g 9 0)] rfl rfl rfl sh24 (cells_of_one ho146) rfl (by simp only [List.all_cons, List.all_nil, ho146, Bool.and_true, Bool.true_and] <;> rfl) (Nat.le_of_ble_eq_true rfl) rfl)))) ?_))))))
     refine Dn ⟨by kernel_rfl, fun G => ?_⟩
     refine Jw2 [(0, tP), (4, p3), (5, p10), (1, vi (1 + rv11.1)), (6, vi i_22)] [0, 1, 4, 5, 10, 11] [os (G.g 4 0) ((s1_19 ++ [d_55]) : List (List Int)), S a120 k121 rv113.1.Words, os (G.g 9 0) ((s3_21 ++ [rv113.1]) : List GSet), SP.fact (i64ok rv133.1.Gen.Width ∧ i64ok rv133.1.Kill.Width ∧ (0 ≤ rv133.2 ∧ rv133.2 ≤ (tT.length : Int)) ∧ (rv133.1.Gen.Width = (rv4.1 % 5)) ∧ (rv133.1.Kill.Width = (rv4.1 % 5)) ∧ (rv133.1.Copies.length ≤ 12)), sl (G.g 15 0) rv133.1.Gen.Words, sl (G.g 15 1) rv133.1.Kill.Words, sl (G.g 15 2) rv133.1.Copies, Cl tP [vl ta tk tT, vi rv133.2], os (G.g 17 0) ((s2_20 ++ [rv133.1]) : List GTransfer), Cl p10 [vi (rv4.1 % 5), (G.g 4 0), (G.g 17 0), (G.g 9 0)]] ?_
     generalize G.g 4 0 = c125, G.g 9 0 = c128, G.g 15 0 = c130, G.g 15 1 = c131, G.g 15 2 = c132, G.g 17 0 = c136
     refine Jf 9 rfl ?_; rintro ⟨he147, he148, he149, he150, he151, he152⟩
     unfold i64ok at he147 he148
     refine Jk [1, 1, 1, 2, 2, 3, 3, 4, 5, 6, 7, 8, 8, 8] ?_
     refine Jo 5 ?_; rintro a153 k154 rfl
     refine Fb 24 5 fun hl155 => ?_
     refine Jo 7 ?_; rintro a156 k157 rfl
     refine Fb 32 7 fun hl158 => ?_
     refine Jo 8 ?_; rintro a159 k160 rfl
     refine Fb 8 8 fun hl161 => ?_
     refine Jo 9 ?_; rintro a162 k163 rfl
     refine Fb 8 9 fun hl164 => ?_
     refine Jo 10 ?_; rintro a165 k166 rfl
     refine Fb 16 10 fun hl167 => ?_
     refine Jo 12 ?_; rintro a168 k169 rfl
     refine Fb 88 12 fun hl170 => ?_
     refine KS ?_
     refine Oq Vm (Oq Vadd (Oq Va (KS ?_)))
     exact Kg (r46, rv133.2, (s1_19 ++ [d_55]), (s2_20 ++ [rv133.1]), (s3_21 ++ [rv113.1]), (i_22 + 1), a153, k154, a168, k169, a156, k157) [7, 11, 5, 9, 9, 3, 3] ⟨(q3 hM29 (by simp only [Tape_System_L0, h44, h73, h110, hg5, hg12, hg48, hR92, hg95, hg105, hg114, hg134, cs4])), (by omega), (by omega), (by omega), (by omega), (by omega), (by omega), iv1, iv1, iv1⟩
   intro h110
   have g171 := ne_of_beq_false h110
   refine KS ?_
   refine Jp 7 fun hp172 => ?_
   refine JK_drawK [0, 1, 0, 4, 15, 0, 32, 0, 128, 511, 0, 1024, 0, 0, 8192, 29695, 62463, 131071, 27775, 524287, 1048575, 2097151, 4194303, 8388607] fmix ?_
   refine Dv [0] (Vfa fo27_1 0) (Dv [8] (VldF sh23 0) (Dv [] Vm (Dx [] [] [0] (fun G => (G.g 3 0)) [fun G => Cr (G.g 3 0) 1 [vl a57 k58 d_55]] (fun G => xA (AsV sl23 sz23 [vl a57 k58 d_55] [vl a57 k58 d_55])) ?_)))
   have hn175 := la s1_19 ([d_55] : List (List Int))
   refine Dx [4, 7, 11] [7, 11] [1, 0] (fun G => (G.g 4 0)) [fun G => os (G.g 4 0) ((s1_19 ++ [d_55]) : List (List Int))] (fun G => xp [2, 0] rfl (Ent.cr1 (α := List Int) (A := [S a57 k58 d_55]) _ d_55 _ (Nat.le_of_ble_eq_true rfl) (fun h => ⟨_, rfl, sepAll_get (i := 0) rfl h⟩)) (xA (ApO [3, 0] sl23 sl23 sz23))) (Dv [0] (Vfa fo27_3 0) (Dv [8] (VldF sh25 0) (Dv [2] (VldA sh42 0) (Dx [] [] [0] (fun G => (G.g 8 0)) [fun G => Cr (G.g 8 0) 1 [vi rv94.Width, vl a100 k101 rv94.Words]] (fun G => xA (AsV sl25 sz25 [.agg #[vi rv94.Width, vl a100 k101 rv94.Words]] [vi rv94.Width, vl a100 k101 rv94.Words])) ?_))))
   have hn178 := la s3_21 ([rv94] : List GSet)
   refine Dx [3, 5, 13] [3, 5, 13] [1, 0] (fun G => (G.g 9 0)) [fun G => S a100 k101 rv94.Words, fun G => os (G.g 9 0) ((s3_21 ++ [rv94]) : List GSet)] (fun G => xp [0] rfl (Ent.freeze _ _) (xp [2, 0] rfl (Ent.cr1 (α := GSet) (A := [S a100 k101 rv94.Words]) _ rv94 _ (Nat.le_of_ble_eq_true rfl) (fun h => ⟨_, rfl, (by unfold i64ok; first | omega | (dsimp only; omega)), sepAll_get (i := 0) rfl h⟩)) (xA (ApO [3, 0] sl25 sl25 sz25)))) (Dv [0] (Vfa fo27_2 0) (Dv [8] (VldF sh24 0) (Dv [] Vm (Dv [0] (Vfa fo27_0 0) (Dv [8] (VldF sh3 0) ?_)))))
   refine letv (Tape_Transfer tT rv104.2 (rv4.1 % 5)) fun rv182 hg183 => ?_
   refine Dx [1, 10] [1] [5, 0, 1, 2, 3, 4] (fun G => .agg #[vi rv182.1.Gen.Width, (G.g 15 0), vi rv182.1.Kill.Width, (G.g 15 1), (G.g 15 2)]) [fun G => SP.fact (i64ok rv182.1.Gen.Width ∧ i64ok rv182.1.Kill.Width ∧ (0 ≤ rv182.2 ∧ rv182.2 ≤ (tT.length : Int)) ∧ (rv182.1.Gen.Width = (rv4.1 % 5)) ∧ (rv182.1.Kill.Width = (rv4.1 % 5)) ∧ (rv182.1.Copies.length ≤ 12)), fun G => sl (G.g 15 0) rv182.1.Gen.Words, fun G => sl (G.g 15 1) rv182.1.Kill.Words, fun G => sl (G.g 15 2) rv182.1.Copies, fun G => Cl tP [vl ta tk tT, vi rv182.2]] (fun G => xC [0, 0] ca68 (fn68 tP ta tk tT rv104.2 ((rv4.1 % 5)) pre pre pre rv182 hg183)) (Dx [] [] [0] (fun G => (G.g 16 0)) [fun G => Cr (G.g 16 0) 1 [vi rv182.1.Gen.Width, (G.g 15 0), vi rv182.1.Kill.Width, (G.g 15 1), (G.g 15 2)]] (fun G => xA (AsV sl24 sz24 [.agg #[vi rv182.1.Gen.Width, (G.g 15 0), vi rv182.1.Kill.Width, (G.g 15 1), (G.g 15 2)]] [vi rv182.1.Gen.Width, (G.g 15 0), vi rv182.1.Kill.Width, (G.g 15 1), (G.g 15 2)])) ?_)
   have hn186 := la s2_20 ([rv182.1] : List GTransfer)
   refine Dx [6, 16, 17, 18, 19, 21] [6, 21] [4, 1, 2, 3, 0] (fun G => (G.g 17 0)) [fun G => os (G.g 17 0) ((s2_20 ++ [rv182.1]) : List GTransfer)] (fun G => by refine xf 1 rfl ?_; rintro ⟨he187, he188, he189, he190, he191, he192⟩; unfold i64ok at he187 he188; exact xp [5, 2, 3, 4] rfl (Ent.cr1 (α := GTransfer) (A := [sl (G.g 15 0) rv182.1.Gen.Words, sl (G.g 15 1) rv182.1.Kill.Words, sl (G.g 15 2) rv182.1.Copies]) _ rv182.1 _ (Nat.le_of_ble_eq_true rfl) (fun h => ⟨_, _, _, rfl, (by unfold i64ok; first | omega | (dsimp only; omega)), sepAll_get (i := 0) rfl h, (by unfold i64ok; first | omega | (dsimp only; omega)), sepAll_get (i := 1) rfl h, sepAll_get (i := 2) rfl h⟩)) (xA (ApO [4, 0] sl24 sl24 sz24))) (Dv [0] (Vfa fo27_1 0) (Dx0 [8, 12] [8] [1, 0] [fun G => Cl p10 [vi (rv4.1 % 5), (G.g 4 0), vl a25 k26 s2_20, vl a27 k28 s3_21]] (fun G => x1 1 rfl os_one fun ho193 => (xS (OpS.frame [0] rfl (OpS.storeClF [(G.g 4 0)] [vi (rv4.1 % 5), (G.g 4 0), vl a25 k26 s2_20, vl a27 k28 s3_21] rfl rfl rfl sh23 (cells_of_one ho193) rfl (by simp only [List.all_cons, List.all_nil, ho193, Bool.and_true, Bool.true_and] <;> rfl) (Nat.le_of_ble_eq_true rfl) rfl)))) (Dv [0] (Vfa fo27_3 0) (Dx0 [15, 23] [23] [1, 0] [fun G => Cl p10 [vi (rv4.1 % 5), (G.g 4 0), vl a25 k26 s2_20, (G.g 9 0)]] (fun G => x1 0 rfl os_one fun ho194 => (xS (OpS.frame [1] rfl (OpS.storeClF [(G.g 9 0)] [vi (rv4.1 % 5), (G.g 4 0), vl a25 k26 s2_20, (G.g 9 0)] rfl rfl rfl sh25 (cells_of_one ho194) rfl (by simp only [List.all_cons, List.all_nil, ho194, Bool.and_true, Bool.true_and] <;> rfl) (Nat.le_of_ble_eq_true rfl) rfl)))) (Dv [0] (Vfa fo27_2 0) (Dx0 [22, 24] [24] [1, 0] [fun G => Cl p10 [vi (rv4.1 % 5), (G.g 4 0), (G.g 17 0), (G.g 9 0)]] (fun G => x1 0 rfl os_one fun ho195 => (xS (OpS.frame [1] rfl (OpS.storeClF [(G.g 17 0)] [vi (rv4.1 % 5), (G.g 4 0), (G.g 17 0), (G.g 9 0)] rfl rfl rfl sh24 (cells_of_one ho195) rfl (by simp only [List.all_cons, List.all_nil, ho195, Bool.and_true, Bool.true_and] <;> rfl) (Nat.le_of_ble_eq_true rfl) rfl)))) ?_))))))
   refine Dn ⟨by kernel_rfl, fun G => ?_⟩
   refine Jw2 [(0, tP), (4, p3), (5, p10), (1, vi (1 + rv11.1)), (6, vi i_22)] [0, 2, 4, 9, 10] [os (G.g 4 0) ((s1_19 ++ [d_55]) : List (List Int)), S a100 k101 rv94.Words, os (G.g 9 0) ((s3_21 ++ [rv94]) : List GSet), SP.fact (i64ok rv182.1.Gen.Width ∧ i64ok rv182.1.Kill.Width ∧ (0 ≤ rv182.2 ∧ rv182.2 ≤ (tT.length : Int)) ∧ (rv182.1.Gen.Width = (rv4.1 % 5)) ∧ (rv182.1.Kill.Width = (rv4.1 % 5)) ∧ (rv182.1.Copies.length ≤ 12)), sl (G.g 15 0) rv182.1.Gen.Words, sl (G.g 15 1) rv182.1.Kill.Words, sl (G.g 15 2) rv182.1.Copies, Cl tP [vl ta tk tT, vi rv182.2], os (G.g 17 0) ((s2_20 ++ [rv182.1]) : List GTransfer), Cl p10 [vi (rv4.1 % 5), (G.g 4 0), (G.g 17 0), (G.g 9 0)]] ?_
   generalize G.g 4 0 = c174, G.g 9 0 = c177, G.g 15 0 = c179, G.g 15 1 = c180, G.g 15 2 = c181, G.g 17 0 = c185
   refine Jf 8 rfl ?_; rintro ⟨he196, he197, he198, he199, he200, he201⟩
   unfold i64ok at he196 he197
   refine Jk [1, 1, 2, 2, 3, 3, 4, 5, 6, 7, 8, 8, 8] ?_
   refine Jo 4 ?_; rintro a202 k203 rfl
   refine Fb 24 4 fun hl204 => ?_
   refine Jo 6 ?_; rintro a205 k206 rfl
   refine Fb 32 6 fun hl207 => ?_
   refine Jo 7 ?_; rintro a208 k209 rfl
   refine Fb 8 7 fun hl210 => ?_
   refine Jo 8 ?_; rintro a211 k212 rfl
   refine Fb 8 8 fun hl213 => ?_
   refine Jo 9 ?_; rintro a214 k215 rfl
   refine Fb 16 9 fun hl216 => ?_
   refine Jo 11 ?_; rintro a217 k218 rfl
   refine Fb 88 11 fun hl219 => ?_
   refine KS ?_
   refine Oq Vm (Oq Vadd (Oq Va (KS ?_)))
   exact Kg (r46, rv182.2, (s1_19 ++ [d_55]), (s2_20 ++ [rv182.1]), (s3_21 ++ [rv94]), (i_22 + 1), a202, k203, a217, k218, a205, k206) [6, 10, 4, 8, 8, 2, 2] ⟨(q3 hM29 (by simp only [Tape_System_L0, h44, h73, h110, hg5, hg12, hg48, hR92, hg95, hg105, hg183, cs4])), (by omega), (by omega), (by omega), (by omega), (by omega), (by omega), iv1, iv1, iv1⟩
 intro h44
 have g220 := of_decide_eq_false h44
 obtain rfl : r17 = 0 := by omega
 refine Ke ?_
 have hR221 := q2 hM29 (ti_18, s1_19, s2_20, s3_21) (by simp only [Tape_System_L0, h44, hg5, hg12, cs4])
 refine KS ?_
 refine Oq (VldA sh27 4) (Ost (Scl [5] sh27 [vi (rv4.1 % 5), vl a23 k24 s1_19, vl a25 k26 s2_20, vl a27 k28 s3_21]) (KS ?_))
 refine Jl [3] (Ent.freeze _ _) ?_
 refine Jl [3] (Ent.freeze _ _) ?_
 refine Jl [3] (Ent.freeze _ _) ?_
 have hq := q4 hrr ((GSystem.mk (rv4.1 % 5) s1_19 s2_20 s3_21), ti_18) (by simp only [Tape_System, h44, hg5, hg12, hR221, cs4]); subst hq
 exact Kr (vl a23 k24 s1_19, vl a25 k26 s2_20, vl a27 k28 s3_21) rfl (.cellN 3 rfl sh27 rfl (reads_Cl _ _) rfl .nil) [2, 1, 0, 4] en
theorem fn45 (a : GSet) (aa1 : Option Addr) (ak1 : Nat) (b : GSet) (ba1 : Option Addr) (bk1 : Nat) (ha_0 : i64ok a.Width) (hb_0 : i64ok b.Width) (rr : Bool) (hrr : flqref1_Same a b = rr) : FT Tryz.prog 45 #[.agg #[vi a.Width, vl aa1 ak1 a.Words], .agg #[vi b.Width, vl ba1 bk1 b.Words]] [S aa1 ak1 a.Words, S ba1 bk1 b.Words] (fun g : Unit => True) (fun g => vb rr) (fun g => []) := by
 refine FTi Tryz.func45 fun w0 M0 F0 => ?_
 unfold i64ok at ha_0 hb_0
 refine Fb 8 0 fun hl1 => ?_
 refine Fb 8 1 fun hl2 => ?_
 refine KS ?_
 refine Oa (Ab [vi a.Width, vl aa1 ak1 a.Words]) fun p3 => Oa (Ab [vi b.Width, vl ba1 bk1 b.Words]) fun p4 => Oq Va (KS ?_)
 refine Oq (Vfa fo42_0 1) (Oq (VldF sh3 1) (Oq (Vfa fo42_0 0) (Oq (VldF sh3 0) (Oq Vneq (Oq Vm ?_)))))
 refine Js 11 ?_ ?_
 · intro h5
   have g6 := ne_of_bne h5
   refine Osk (Osk (Osk (Osk (Osk (Osk (Osk (Oq Vpt (KS ?_))))))))
   refine Kt ?_
   refine KS ?_
   refine Oq Va (KS ?_)
   have hq := q4 hrr false (by simp only [flqref1_Same, h5, cs4]); subst hq
   exact Kr () rfl (.tmp rfl .nil) [] trivial
 intro h5
 have g7 := eq_of_bne_false h5
 refine Oq (Vfa fo42_1 1) (Oq (VldF sh40 1) (Oq (Vlen sl40) (Oq (Vfa fo42_1 0) (Oq (VldF sh40 0) (Oq (Vlen sl40) (Oq Vneq (Oq Vpf (KS ?_))))))))
 refine Kc ?_ ?_
 · intro h8
   have g9 := ne_of_bne h8
   refine KS ?_
   refine Oq Va (KS ?_)
   have hq := q4 hrr false (by simp only [flqref1_Same, h5, h8, cs4]); subst hq
   exact Kr () rfl (.tmp rfl .nil) [] trivial
 intro h8
 have g10 := eq_of_bne_false h8
 refine KS ?_
 refine Oq Va (KS ?_)
 refine Kl (γ := Nat × Int) (fun (r11, i_12) => ⟨[(2, p3), (3, p4), (5, vi i_12)], [pv p4 [vi b.Width, vl ba1 bk1 b.Words], pv p3 [vi a.Width, vl aa1 ak1 a.Words], S aa1 ak1 a.Words, S ba1 bk1 b.Words], flqref1_Same_L0 a b r11 i_12 = flqref1_Same_L0 a b (((a.Words.length : Int) - 0).toNat) 0 ∧ r11 = ((a.Words.length : Int) - i_12).toNat ∧ (0 : Int) ≤ i_12 ∧ i_12 ≤ (a.Words.length : Int) ∧ (-9223372036854775808 ≤ i_12 ∧ i_12 ≤ 9223372036854775807), r11⟩) (((a.Words.length : Int) - 0).toNat, 0) [0, 1, 2, 3] ⟨rfl, rfl, (by omega), (by omega), (by omega)⟩ ?_
 rintro ⟨r11, i_12⟩ ⟨hM13, hr14, hi15, hi16, hk17⟩
 refine JJ_nx fun _ _ hL hA => ?_; dsimp only at hL hA; subst hL hA
 refine Fb 8 2 fun hl18 => ?_
 refine Fb 8 3 fun hl19 => ?_
 refine KS ?_
 refine Oq Vm (Oq (Vfa fo42_1 1) (Oq (VldF sh40 1) (Oq (Vlen sl40) (Oq Vlss (KS ?_)))))
 refine Kc ?_ ?_
 · intro h20
   have g21 := of_decide_eq_true h20
   obtain ⟨r22, rfl⟩ := scc (n := r11) (by omega)
   refine KS ?_
   refine Kq [0, 1, 0, 7, 15, 0, 32, 0, 224, 480, 1023] fmix ?_
   refine Qv [1] (Vfa fo42_1 0) (Qv [1] (VldF sh40 0) (Qv [] Vm (Qv [2] (Vi sl40 0) (Qv [2] (VldU sh122 0) (Qv [0] (Vfa fo42_1 0) (Qv [0] (VldF sh40 0) (Qv [] Vm (Qv [3] (Vi sl40 0) (Qv [3] (VldU sh122 0) ?_)))))))))
   refine Qv [] VneqU ?_
   refine Qn ⟨by kernel_rfl, ?_⟩
   refine Kc ?_ ?_
   · intro h23
     have g24 := ne_of_bne h23
     refine KS ?_
     refine Oq Va (KS ?_)
     have hR25 := q2 hM13 (.ret false) (by simp only [flqref1_Same_L0, h5, h8, h20, h23, cs4])
     have hq := q4 hrr false (by simp only [flqref1_Same, h5, h8, h20, h23, hR25, cs4]); subst hq
     exact Kr () rfl (.tmp rfl .nil) [] trivial
   intro h23
   have g26 := eq_of_bne_false h23
   refine KS ?_
   refine Oq Vm (Oq Vadd (Oq Va (KS ?_)))
   exact Kg (r22, (i_12 + 1)) [0, 1, 2, 3] ⟨(q3 hM13 (by simp only [flqref1_Same_L0, h5, h8, h20, h23, cs4])), (by omega), (by omega), (by omega), (by omega)⟩
 intro h20
 have g27 := of_decide_eq_false h20
 obtain rfl : r11 = 0 := by omega
 refine Ke ?_
 have hR28 := q2 hM13 (.brk ()) (by simp only [flqref1_Same_L0, h5, h8, h20, cs4])
 refine KS ?_
 refine Oq Va (KS ?_)
 have hq := q4 hrr true (by simp only [flqref1_Same, h5, h8, h20, hR28, cs4]); subst hq
 exact Kr () rfl (.tmp rfl .nil) [] trivial
theorem fn185 (width : Int) (n : Int) (hwidth_0 : i64ok width) (hn_0 : i64ok n) (rr : Bool) (hrr : equations_sized width n = rr) : FT Tryz.prog 185 #[vi width, vi n] [] (fun g : Unit => True) (fun g => vb rr) (fun g => []) := by
 refine FTi Tryz.func185 fun w0 M0 F0 => ?_
 unfold i64ok at hwidth_0 hn_0
 refine KS ?_
 refine Oq Va (KS ?_)
 refine Oq Vm (Oq Vgeq (Oq Vm ?_))
 refine Js 7 ?_ ?_
 · intro h1
   have g2 := of_decide_eq_true h1
   refine Oq Vm (Oq Vleq (Oq Vpt (Oq Vm ?_)))
   refine Js 11 ?_ ?_
   · intro h3
     have g4 := of_decide_eq_true h3
     refine Oq Vm (Oq Vgeq (Oq Vpt (Oq Vm ?_)))
     refine Js 15 ?_ ?_
     · intro h5
       have g6 := of_decide_eq_true h5
       refine Oq Vm (Oq Vleq (Oq Vpt (Oq Va (KS ?_))))
       have hq := q4 hrr (decide (n ≤ 256)) (by simp only [equations_sized, h1, h3, h5, cs4]); subst hq
       exact Kr () rfl (.tmp rfl .nil) [] trivial
     intro h5
     have g7 := of_decide_eq_false h5
     refine Osk (Osk (Oq Vpf (Oq Va (KS ?_))))
     have hq := q4 hrr false (by simp only [equations_sized, h1, h3, h5, cs4]); subst hq
     exact Kr () rfl (.tmp rfl .nil) [] trivial
   intro h3
   have g8 := of_decide_eq_false h3
   refine Osk (Osk (Oq Vpf (Oq Vm (Osk (Osk (Oq Vpf (Oq Va (KS ?_))))))))
   have hq := q4 hrr false (by simp only [equations_sized, h1, h3, cs4]); subst hq
   exact Kr () rfl (.tmp rfl .nil) [] trivial
 intro h1
 have g9 := of_decide_eq_false h1
 refine Osk (Osk (Oq Vpf (Oq Vm (Osk (Osk (Oq Vpf (Oq Vm (Osk (Osk ?_)))))))))
 refine Oq Vpf (Oq Va (KS ?_))
 have hq := q4 hrr false (by simp only [equations_sized, h1, cs4]); subst hq
 exact Kr () rfl (.tmp rfl .nil) [] trivial
theorem fn186 (l : List Int) (la0 : Option Addr) (lk0 : Nat) (n : Int) (hn_0 : i64ok n) (rr : Bool) (hrr : equations_ascending l n = rr) : FT Tryz.prog 186 #[vl la0 lk0 l, vi n] [S la0 lk0 l] (fun g : Unit => True) (fun g => vb rr) (fun g => []) := by
 refine FTi Tryz.func186 fun w0 M0 F0 => ?_
 unfold i64ok at hn_0
 refine Fb 8 0 fun hl1 => ?_
 refine Fo 0 fun ho2 => ?_
 refine KS ?_
 refine Oq Va (KS ?_)
 refine Oq Vm (Oq (Vlen sl22) (Oq Vm (KS ?_)))
 refine Kl (γ := Nat × Int) (fun (r3, v9_4) => ⟨[(0, vl la0 lk0 l), (1, vi n), (7, vl la0 lk0 l), (8, vi (l.length : Int)), (9, vi v9_4)], [S la0 lk0 l], equations_ascending_L0 l n r3 v9_4 = equations_ascending_L0 l n (((l.length : Int) - 0).toNat) 0 ∧ r3 = ((l.length : Int) - v9_4).toNat ∧ (0 : Int) ≤ v9_4 ∧ v9_4 ≤ (l.length : Int) ∧ (-9223372036854775808 ≤ v9_4 ∧ v9_4 ≤ 9223372036854775807), r3⟩) (((l.length : Int) - 0).toNat, 0) [0] ⟨rfl, rfl, (by omega), (by omega), (by omega)⟩ ?_
 rintro ⟨r3, v9_4⟩ ⟨hM5, hr6, hi7, hi8, hk9⟩
 refine JJ_nx fun _ _ hL hA => ?_; dsimp only at hL hA; subst hL hA
 refine Fb 8 0 fun hl10 => ?_
 refine Fo 0 fun ho11 => ?_
 refine KS ?_
 refine Oq Vlss (KS ?_)
 refine Kc ?_ ?_
 · intro h12
   have g13 := of_decide_eq_true h12
   obtain ⟨r14, rfl⟩ := scc (n := r3) (by omega)
   refine KS ?_
   refine Oq Vm (Oq (Vi sl22 0) ?_)
   have hb15 := ok1 (i := v9_4.toNat) ho11 rng
   refine Oq (VldI sh3 0) (Oq Va (Oq Va (KS ?_)))
   refine Oq Vm (Oq Vlss (Oq Vm ?_))
   refine Js 16 ?_ ?_
   · intro h16
     have g17 := of_decide_eq_true h16
     refine Osk (Osk (Osk (Oq Vpt (Oq Vm (Osk (Osk (Osk (Osk (Osk ?_)))))))))
     refine Osk (Osk (Osk (Osk (Osk (Osk (Oq Vpt (KS ?_)))))))
     refine Kt ?_
     refine KS ?_
     refine Oq Va (KS ?_)
     have hR18 := q2 hM5 (.ret false) (by simp only [equations_ascending_L0, h12, h16, cs4])
     have hq := q4 hrr false (by simp only [equations_ascending, h12, h16, hR18, cs4]); subst hq
     exact Kr () rfl (.tmp rfl .nil) [] trivial
   intro h16
   have g19 := of_decide_eq_false h16
   refine Oq Vm (Oq Vm (Oq Vgeq (Oq Vpf (Oq Vm ?_))))
   refine Js 21 ?_ ?_
   · intro h20
     have g21 := of_decide_eq_true h20
     refine Osk (Osk (Osk (Osk (Osk (Osk (Osk (Osk (Osk (Osk ?_)))))))))
     refine Osk (Oq Vpt (KS ?_))
     refine Kt ?_
     refine KS ?_
     refine Oq Va (KS ?_)
     have hR22 := q2 hM5 (.ret false) (by simp only [equations_ascending_L0, h12, h16, h20, cs4])
     have hq := q4 hrr false (by simp only [equations_ascending, h12, h16, h20, hR22, cs4]); subst hq
     exact Kr () rfl (.tmp rfl .nil) [] trivial
   intro h20
   have g23 := of_decide_eq_false h20
   refine Oq Vm (Oq Vgtr (Oq Vm ?_))
   refine Js 24 ?_ ?_
   · intro h24
     have g25 := of_decide_eq_true h24
     refine Oq Vm (Oq Vm (Oq Vm (Oq Vsub (Oq (Vi sl22 0) ?_))))
     have hb26 := ok1 (i := ((v9_4 - 1) : Int).toNat) ho11 rng
     refine Oq (VldI sh3 0) (Oq Vleq (Oq Vpt (Oq Vpf (KS ?_))))
     refine Kc ?_ ?_
     · intro h27
       have g28 := of_decide_eq_true h27
       refine KS ?_
       refine Oq Va (KS ?_)
       have hR29 := q2 hM5 (.ret false) (by simp only [equations_ascending_L0, h12, h16, h20, h24, h27, cs4])
       have hq := q4 hrr false (by simp only [equations_ascending, h12, h16, h20, h24, h27, hR29, cs4]); subst hq
       exact Kr () rfl (.tmp rfl .nil) [] trivial
     intro h27
     have g30 := of_decide_eq_false h27
     refine KS ?_
     refine Oq Vadd (Oq Vm (KS ?_))
     exact Kg (r14, (v9_4 + 1)) [0] ⟨(q3 hM5 (by simp only [equations_ascending_L0, h12, h16, h20, h24, h27, cs4])), (by omega), (by omega), (by omega), (by omega)⟩
   intro h24
   have g31 := of_decide_eq_false h24
   refine Osk (Osk (Osk (Osk (Osk (Osk (Osk (Oq Vpf (Oq Vpf (KS ?_)))))))))
   refine Kf ?_
   refine KS ?_
   refine Oq Vadd (Oq Vm (KS ?_))
   exact Kg (r14, (v9_4 + 1)) [0] ⟨(q3 hM5 (by simp only [equations_ascending_L0, h12, h16, h20, h24, cs4])), (by omega), (by omega), (by omega), (by omega)⟩
 intro h12
 have g32 := of_decide_eq_false h12
 obtain rfl : r3 = 0 := by omega
 refine Ke ?_
 have hR33 := q2 hM5 (.brk ()) (by simp only [equations_ascending_L0, h12, cs4])
 refine KS ?_
 refine Oq Va (KS ?_)
 have hq := q4 hrr true (by simp only [equations_ascending, h12, hR33, cs4]); subst hq
 exact Kr () rfl (.tmp rfl .nil) [] trivial
theorem fn281 (s : List GSet) (sa0 : Option Addr) (sk0 : Nat) (fF : FuncId) (fC : List Value) (fp : GSet → Bool) (fA : List SP) (hfc : callable Tryz.prog fF = true) (hfF : ∀ x ∈ s, ∀ (a1 : Option Addr) (k1 : Nat), i64ok x.Width → FT Tryz.prog fF ([(.agg #[vi x.Width, vl a1 k1 x.Words] : Value)] ++ fC).toArray ([S a1 k1 x.Words] ++ [pAll fA]) (fun _ : Unit => True) (fun _ => .bool (fp x)) (fun _ => [])) (rr : Int) (hrr : slices_IndexFunc_Set s fp = rr) : FT Tryz.prog 281 #[vl sa0 sk0 s, .func (.func fF) #[] fC.toArray] [S sa0 sk0 s, pAll fA] (fun g : Unit => i64ok rr) (fun g => vi rr) (fun g => []) := by
 refine FTi Tryz.func281 fun w0 M0 F0 => ?_
 refine Fb 32 0 fun hl1 => ?_
 refine KS ?_
 refine Oq Va (KS ?_)
 refine Oq Vm (Oq (Vlen sl25) (Oq Vm (KS ?_)))
 refine Kl (γ := Nat × Int) (fun (r2, v8_3) => ⟨[(0, vl sa0 sk0 s), (1, .func (.func fF) #[] fC.toArray), (7, vi (s.length : Int)), (8, vi v8_3)], [S sa0 sk0 s, pAll fA], slices_IndexFunc_Set_L0 s fp r2 v8_3 = slices_IndexFunc_Set_L0 s fp (((s.length : Int) - 0).toNat) 0 ∧ r2 = ((s.length : Int) - v8_3).toNat ∧ (0 : Int) ≤ v8_3 ∧ v8_3 ≤ (s.length : Int) ∧ (-9223372036854775808 ≤ v8_3 ∧ v8_3 ≤ 9223372036854775807), r2⟩) (((s.length : Int) - 0).toNat, 0) [0, 1] ⟨rfl, rfl, (by omega), (by omega), (by omega)⟩ ?_
 rintro ⟨r2, v8_3⟩ ⟨hM4, hr5, hi6, hi7, hk8⟩
 refine JJ_nx fun _ _ hL hA => ?_; dsimp only at hL hA; subst hL hA
 refine Fb 32 0 fun hl9 => ?_
 refine KS ?_
 refine Oq Vlss (KS ?_)
 refine Kc ?_ ?_
 · intro h10
   have g11 := of_decide_eq_true h10
   obtain ⟨r12, rfl⟩ := scc (n := r2) (by omega)
   refine KS ?_
   refine Oq Vm (Oq Va (KS ?_))
   refine Oq Vm (Oq Vm (Oq Vm (Oq (Vi sl25 0) ?_)))
   refine JJ_peek_GSet v8_3.toNat 0 rfl rng fun a13 k14 hb15 => ?_
   unfold i64ok at hb15
   refine Fb 8 1 fun hl16 => ?_
   refine Oq (VldA sh42 0) ?_
   refine JO_call [1, 3] rfl rfl rfl (OpC.clo («as» := [(.agg #[vi ((s.getD v8_3.toNat default).Width), vl a13 k14 ((s.getD v8_3.toNat default).Words)] : Value)] ++ fC) rfl rfl hfc rfl (by simp)) (hfF (s.getD v8_3.toNat default) (getD_mem rng) a13 k14 (by unfold i64ok; omega)) rfl fun _ _ => ?_
   refine KS ?_
   refine Kc ?_ ?_
   · intro h17
     refine KS ?_
     refine Oq Vm (Oq Va (KS ?_))
     have hR19 := q2 hM4 (.ret v8_3) (by simp only [slices_IndexFunc_Set_L0, h10, h17, cs4])
     have hq := q4 hrr v8_3 (by simp only [slices_IndexFunc_Set, h10, h17, hR19, cs4]); subst hq
     exact Kr () rfl (.tmp rfl .nil) [] en
   intro h17
   refine KS ?_
   refine Oq Vadd (Oq Vm (KS ?_))
   exact Kg (r12, (v8_3 + 1)) [2, 3] ⟨(q3 hM4 (by simp only [slices_IndexFunc_Set_L0, h10, h17, cs4])), (by omega), (by omega), (by omega), (by omega)⟩
 intro h10
 have g21 := of_decide_eq_false h10
 obtain rfl : r2 = 0 := by omega
 refine Ke ?_
 have hR22 := q2 hM4 (.brk ()) (by simp only [slices_IndexFunc_Set_L0, h10, cs4])
 refine KS ?_
 refine Oq Va (KS ?_)
 have hq := q4 hrr (-1) (by simp only [slices_IndexFunc_Set, h10, hR22, cs4]); subst hq
 exact Kr () rfl (.tmp rfl .nil) [] en
theorem fn239 (s : List GSet) (sa0 : Option Addr) (sk0 : Nat) (fF : FuncId) (fC : List Value) (fp : GSet → Bool) (fA : List SP) (hfc : callable Tryz.prog fF = true) (hfF : ∀ x ∈ s, ∀ (a1 : Option Addr) (k1 : Nat), i64ok x.Width → FT Tryz.prog fF ([(.agg #[vi x.Width, vl a1 k1 x.Words] : Value)] ++ fC).toArray ([S a1 k1 x.Words] ++ [pAll fA]) (fun _ : Unit => True) (fun _ => .bool (fp x)) (fun _ => [])) (rr : Bool) (hrr : slices_ContainsFunc_Set s fp = rr) : FT Tryz.prog 239 #[vl sa0 sk0 s, .func (.func fF) #[] fC.toArray] [S sa0 sk0 s, pAll fA] (fun g : Unit => True) (fun g => vb rr) (fun g => []) := by
 refine FTi Tryz.func239 fun w0 M0 F0 => ?_
 refine Fb 32 0 fun hl1 => ?_
 refine KS ?_
 refine Oq Va (KS ?_)
 refine Oq Vm (Oq Vm ?_)
 refine letv (slices_IndexFunc_Set s fp) fun rv2 hg3 => ?_
 have hc4 := fn281 s sa0 sk0 fF fC fp fA hfc hfF rv2 hg3
 refine Oc [0, 1] ca281 hc4 ?_
 rintro - he5
 unfold i64ok at he5
 refine Oq Vgeq (Oq Va (KS ?_))
 have hq := q4 hrr (decide (0 ≤ rv2)) (by simp only [slices_ContainsFunc_Set, hg3, cs4]); subst hq
 exact Kr () rfl (.tmp rfl .nil) [] trivial
theorem fn200 (width : Int) (hwidth_0 : i64ok width) (rr : Bool) (hrr : bitset_ranged width = rr) : FT Tryz.prog 200 #[vi width] [] (fun g : Unit => True) (fun g => vb rr) (fun g => []) := by
 refine FTi Tryz.func200 fun w0 M0 F0 => ?_
 unfold i64ok at hwidth_0
 refine KS ?_
 refine Oq Va (KS ?_)
 refine Oq Vm (Oq Vgeq (Oq Vm ?_))
 refine Js 5 ?_ ?_
 · intro h1
   have g2 := of_decide_eq_true h1
   refine Oq Vm (Oq Vleq (Oq Vpt (Oq Va (KS ?_))))
   have hq := q4 hrr (decide (width ≤ 256)) (by simp only [bitset_ranged, h1, cs4]); subst hq
   exact Kr () rfl (.tmp rfl .nil) [] trivial
 intro h1
 have g3 := of_decide_eq_false h1
 refine Osk (Osk (Oq Vpf (Oq Va (KS ?_))))
 have hq := q4 hrr false (by simp only [bitset_ranged, h1, cs4]); subst hq
 exact Kr () rfl (.tmp rfl .nil) [] trivial
theorem fn201 (width : Int) (hwidth_0 : i64ok width) (hw0 : 0 ≤ width ∧ width ≤ 1000000) (rr : Int) (hrr : bitset_words width = rr) : FT Tryz.prog 201 #[vi width] [] (fun g : Unit => i64ok rr ∧ (rr = (width + 63) / 64)) (fun g => vi rr) (fun g => []) := by
 refine FTi Tryz.func201 fun w0 M0 F0 => ?_
 unfold i64ok at hwidth_0
 refine KS ?_
 refine Oq Va (KS ?_)
 refine Oq Vm (Oq Vadd (Oq Vsub (Oq Vquo (Oq Va (KS ?_)))))
 have hq := q4 hrr (((width + 64) - 1) / 64) (by simp only [bitset_words, cs4]); subst hq
 exact Kr () rfl (.tmp rfl .nil) [] en
theorem fn202 (width : Int) (hwidth_0 : i64ok width) (rr : BitVec 64) (hrr : bitset_spare width = rr) : FT Tryz.prog 202 #[vi width] [] (fun g : Unit => True) (fun g => u64 rr) (fun g => []) := by
 refine FTi Tryz.func202 fun w0 M0 F0 => ?_
 unfold i64ok at hwidth_0
 refine KS ?_
 refine Oq Va (KS ?_)
 refine Oq Vm (Oq (VcU un3 un123) (Oq (VremU (b := 64#64) (by simp)) (Oq (VshlU (a := 18446744073709551615#64)) (Oq Va (KS ?_)))))
 have hq := q4 hrr (18446744073709551615#64 <<< ((((BitVec.ofInt 64 width) % 64#64).toNat : Int)).toNat) (by simp only [bitset_spare, cs4]); subst hq
 exact Kr () rfl (.tmp rfl .nil) [] trivial
theorem fn123 (s : GSet) (sa1 : Option Addr) (sk1 : Nat) (hs_0 : i64ok s.Width) (rr : Bool) (hrr : bitset_Valid s = rr) : FT Tryz.prog 123 #[.agg #[vi s.Width, vl sa1 sk1 s.Words]] [S sa1 sk1 s.Words] (fun g : Unit => True) (fun g => vb rr) (fun g => []) := by
 refine FTi Tryz.func123 fun w0 M0 F0 => ?_
 unfold i64ok at hs_0
 refine Fb 8 0 fun hl1 => ?_
 refine KS ?_
 refine Oa (Ab [vi s.Width, vl sa1 sk1 s.Words]) fun p2 => Oq Va (KS ?_)
 refine JK_drawK [0, 1, 3, 7, 15, 31, 63, 127, 31, 287, 799, 2047, 4095] fmix ?_
 refine Dv [0] (Vfa fo42_0 0) (Dv [0] (VldF sh3 0) ?_)
 refine letv (bitset_ranged s.Width) fun rv3 hg4 => ?_
 refine Dx [] [] [0] (fun G => vb rv3) [fun G => SP.fact (True)] (fun G => xC [] ca200 (fn200 s.Width pre rv3 hg4)) (Dv [] Vnot ?_)
 refine bool_split (!rv3) ?_ ?_
 · intro h5
   have h7 := not_true h5
   refine Db h5 [] Vm (Ds (Ds (Ds (Ds (Ds (Ds (Ds (Dv [] Vpt ?_))))))))
   refine Dn ⟨by kernel_rfl, fun G => ?_⟩
   refine Jw2 [(1, p2), (15, vb true)] [0, 1] [SP.fact (True)] ?_
   refine Jk [0, 1] ?_
   refine Kt ?_
   refine KS ?_
   refine Oq Va (KS ?_)
   have hq := q4 hrr false (by simp only [bitset_Valid, h5, h7, hg4, cs4]); subst hq
   exact Kr () rfl (.tmp rfl .nil) [] trivial
 intro h5
 have h10 := not_false h5
 try have hrg := ranged_iff (w := s.Width) (by simp only [h5, h10, hg4])
 refine Db h5 [] Vm (Dv [0] (Vfa fo42_1 0) (Dv [0] (VldF sh40 0) (Dv [] (Vlen sl40) (Dv [0] (Vfa fo42_0 0) (Dv [0] (VldF sh3 0) ?_)))))
 refine letv (bitset_words s.Width) fun rv12 hg13 => ?_
 refine Dx [] [] [0] (fun G => vi rv12) [fun G => SP.fact (i64ok rv12 ∧ (rv12 = (s.Width + 63) / 64))] (fun G => xC [] ca201 (fn201 s.Width pre pre rv12 hg13)) (Dv [] Vneq (Dv [] Vpf ?_))
 refine Dn ⟨by kernel_rfl, fun G => ?_⟩
 refine Jw2 [(1, p2), (15, vb ((s.Words.length : Int) != rv12))] [0, 1] [SP.fact (True), SP.fact (i64ok rv12 ∧ (rv12 = (s.Width + 63) / 64))] ?_
 refine Jf 3 rfl ?_; rintro ⟨he14, he15⟩
 unfold i64ok at he14
 refine Jk [0, 1] ?_
 refine Kc ?_ ?_
 · intro h16
   have g17 := ne_of_bne h16
   refine KS ?_
   refine Oq Va (KS ?_)
   have hq := q4 hrr false (by simp only [bitset_Valid, h5, h10, h16, hg4, hg13, cs4]); subst hq
   exact Kr () rfl (.tmp rfl .nil) [] trivial
 intro h16
 have g18 := eq_of_bne_false h16
 refine KS ?_
 refine JK_drawK [0, 1, 3, 7, 15, 31, 63, 31, 159, 415, 927, 2047, 4095, 31, 8223, 24607, 65535, 131071, 262143, 524287] fmix ?_
 refine Dv [0] (Vfa fo42_0 0) (Dv [0] (VldF sh3 0) (Dv [] Vrem (Dv [] Veql ?_)))
 refine bool_split ((s.Width % 64) == 0) ?_ ?_
 · intro h19
   have g20 := eq_of_beq h19
   refine Db h19 [] Vm (Ds (Ds (Ds (Ds (Ds (Ds (Ds (Ds (Ds ?_)))))))))
   refine Ds (Ds (Ds (Ds (Dv [] Vpt (Dv [] Va ?_)))))
   refine Dn ⟨by kernel_rfl, fun G => ?_⟩
   refine Jw2 [(2, vb true)] [0, 1] [] ?_
   have hq := q4 hrr true (by simp only [bitset_Valid, h5, h10, h16, h19, hg4, hg13, cs4]); subst hq
   exact Kr () rfl (.tmp rfl .nil) [] trivial
 intro h19
 have g21 := ne_of_beq_false h19
 refine Db h19 [] Vm (Dv [0] (Vfa fo42_1 0) (Dv [0] (VldF sh40 0) (Dv [0] (Vfa fo42_1 0) (Dv [0] (VldF sh40 0) (Dv [] (Vlen sl40) (Dv [] Vsub (Dv [1] (Vi sl40 0) (Dv [1] (VldU sh122 0) (Dv [0] (Vfa fo42_0 0) ?_)))))))))
 refine Dv [0] (VldF sh3 0) ?_
 refine letv (bitset_spare s.Width) fun rv22 hg23 => ?_
 refine Dx [] [] [0] (fun G => u64 rv22) [fun G => SP.fact (True)] (fun G => xC [] ca202 (fn202 s.Width pre rv22 hg23)) (Dv [] VandU (Dv [] (VeqlU (b := 0#64)) (Dv [] Vpf (Dv [] Va ?_))))
 refine Dn ⟨by kernel_rfl, fun G => ?_⟩
 refine Jw2 [(2, vb (((s.Words.getD (((s.Words.length : Int) - 1) : Int).toNat 0#64) &&& rv22) == 0#64))] [0, 1] [SP.fact (True)] ?_
 refine Jk [0, 1] ?_
 have hq := q4 hrr (((s.Words.getD (((s.Words.length : Int) - 1) : Int).toNat 0#64) &&& rv22) == 0#64) (by simp only [bitset_Valid, h5, h10, h16, h19, hg4, hg13, hg23, cs4]); subst hq
 exact Kr () rfl (.tmp rfl .nil) [] trivial
theorem fn240 (s : GSet) (sa1 : Option Addr) (sk1 : Nat) (cap0P : Value) (cap0 : Int) (hs_0 : i64ok s.Width) (hcap0_0 : i64ok cap0) (rr : Bool) (hrr : equations_sets_1 s cap0 = rr) : FT Tryz.prog 240 #[.agg #[vi s.Width, vl sa1 sk1 s.Words], cap0P] [S sa1 sk1 s.Words, pv cap0P [vi cap0]] (fun g : Unit => True) (fun g => vb rr) (fun g => []) := by
 refine FTi Tryz.func240 fun w0 M0 F0 => ?_
 unfold i64ok at hs_0 hcap0_0
 refine Fb 8 0 fun hl1 => ?_
 refine KS ?_
 refine Oa (Ab [vi s.Width, vl sa1 sk1 s.Words]) fun p2 => Oq Va (KS ?_)
 refine Oq (VldA sh42 0) ?_
 refine letv (bitset_Valid s) fun rv3 hg4 => ?_
 have hc5 := fn123 s sa1 sk1 pre rv3 hg4
 refine Oc [1] ca123 hc5 ?_
 rintro - -
 refine Oq Vnot (Oq Vm ?_)
 refine Js 7 ?_ ?_
 · intro h6
   have h8 := not_true h6
   refine Osk (Osk (Osk (Osk (Oq Vpt (Oq Va (KS ?_))))))
   have hq := q4 hrr true (by simp only [equations_sets_1, h6, h8, hg4, cs4]); subst hq
   exact Kr () rfl (.tmp rfl .nil) [] trivial
 intro h6
 have h11 := not_false h6
 refine Oq (Vfa fo42_0 0) (Oq (VldF sh3 0) (Oq (Vld sh3 2) (Oq Vneq (Oq Vpf (Oq Va (KS ?_))))))
 have hq := q4 hrr (s.Width != cap0) (by simp only [equations_sets_1, h6, h11, hg4, cs4]); subst hq
 exact Kr () rfl (.tmp rfl .nil) [] trivial
theorem fn187 (width : Int) (l : List GSet) (la0 : Option Addr) (lk0 : Nat) (hwidth_0 : i64ok width) (rr : Bool) (hrr : equations_sets width l = rr) : FT Tryz.prog 187 #[vi width, vl la0 lk0 l] [S la0 lk0 l] (fun g : Unit => True) (fun g => vb rr) (fun g => []) := by
 refine FTi Tryz.func187 fun w0 M0 F0 => ?_
 unfold i64ok at hwidth_0
 refine Fb 32 0 fun hl1 => ?_
 refine KS ?_
 refine Oa (Ab [vi width]) fun p2 => Oq Va (KS ?_)
 refine Oq Vm (Oq (Vf [p2]) ?_)
 refine JJ_ent (Ent.pall [0] rfl rfl) ?_
 refine letv (slices_ContainsFunc_Set l (fun x => equations_sets_1 x width)) fun rv3 hg4 => ?_
 have hc5 := fn239 l la0 lk0 240 [p2] (fun x => equations_sets_1 x width) [pv p2 [vi width]] ca240 (fun x hx a1 k1 hq0 => FT_pall (A1 := _) (fn240 x a1 k1 p2 width hq0 pre _ rfl)) rv3 hg4
 refine Oc [2, 0] ca239 hc5 ?_
 rintro - -
 refine Oq Vnot (Oq Va (KS ?_))
 have hq := q4 hrr (!rv3) (by simp only [equations_sets, hg4, cs4]); subst hq
 exact Kr () rfl (.tmp rfl .nil) [] trivial
theorem fn241 (s : List GTransfer) (sa0 : Option Addr) (sk0 : Nat) (fF : FuncId) (fC : List Value) (fp : GTransfer → Bool) (fA : List SP) (hfc : callable Tryz.prog fF = true) (hfF : ∀ x ∈ s, ∀ (a1 : Option Addr) (k1 : Nat) (a3 : Option Addr) (k3 : Nat) (a4 : Option Addr) (k4 : Nat), i64ok x.Gen.Width → i64ok x.Kill.Width → FT Tryz.prog fF ([(.agg #[vi x.Gen.Width, vl a1 k1 x.Gen.Words, vi x.Kill.Width, vl a3 k3 x.Kill.Words, vl a4 k4 x.Copies] : Value)] ++ fC).toArray ([S a1 k1 x.Gen.Words, S a3 k3 x.Kill.Words, S a4 k4 x.Copies] ++ [pAll fA]) (fun _ : Unit => True) (fun _ => .bool (fp x)) (fun _ => [])) (rr : Int) (hrr : slices_IndexFunc_Transfer s fp = rr) : FT Tryz.prog 241 #[vl sa0 sk0 s, .func (.func fF) #[] fC.toArray] [S sa0 sk0 s, pAll fA] (fun g : Unit => i64ok rr) (fun g => vi rr) (fun g => []) := by
 refine FTi Tryz.func241 fun w0 M0 F0 => ?_
 refine Fb 88 0 fun hl1 => ?_
 refine KS ?_
 refine Oq Va (KS ?_)
 refine Oq Vm (Oq (Vlen sl24) (Oq Vm (KS ?_)))
 refine Kl (γ := Nat × Int) (fun (r2, v8_3) => ⟨[(0, vl sa0 sk0 s), (1, .func (.func fF) #[] fC.toArray), (7, vi (s.length : Int)), (8, vi v8_3)], [S sa0 sk0 s, pAll fA], slices_IndexFunc_Transfer_L0 s fp r2 v8_3 = slices_IndexFunc_Transfer_L0 s fp (((s.length : Int) - 0).toNat) 0 ∧ r2 = ((s.length : Int) - v8_3).toNat ∧ (0 : Int) ≤ v8_3 ∧ v8_3 ≤ (s.length : Int) ∧ (-9223372036854775808 ≤ v8_3 ∧ v8_3 ≤ 9223372036854775807), r2⟩) (((s.length : Int) - 0).toNat, 0) [0, 1] ⟨rfl, rfl, (by omega), (by omega), (by omega)⟩ ?_
 rintro ⟨r2, v8_3⟩ ⟨hM4, hr5, hi6, hi7, hk8⟩
 refine JJ_nx fun _ _ hL hA => ?_; dsimp only at hL hA; subst hL hA
 refine Fb 88 0 fun hl9 => ?_
 refine KS ?_
 refine Oq Vlss (KS ?_)
 refine Kc ?_ ?_
 · intro h10
   have g11 := of_decide_eq_true h10
   obtain ⟨r12, rfl⟩ := scc (n := r2) (by omega)
   refine KS ?_
   refine Oq Vm (Oq Va (KS ?_))
   refine Oq Vm (Oq Vm (Oq Vm (Oq (Vi sl24 0) ?_)))
   refine JJ_peek_GTransfer v8_3.toNat 0 rfl rng fun a13 k14 a15 k16 a17 k18 hb19 hb20 => ?_
   unfold i64ok at hb19 hb20
   refine Fb 8 1 fun hl21 => ?_
   refine Fb 8 2 fun hl22 => ?_
   refine Fb 16 3 fun hl23 => ?_
   refine Oq (VldA sh98 0) ?_
   refine JO_call [1, 2, 3, 5] rfl rfl rfl (OpC.clo («as» := [(.agg #[vi (((s.getD v8_3.toNat default).Gen).Width), vl a13 k14 (((s.getD v8_3.toNat default).Gen).Words), vi (((s.getD v8_3.toNat default).Kill).Width), vl a15 k16 (((s.getD v8_3.toNat default).Kill).Words), vl a17 k18 ((s.getD v8_3.toNat default).Copies)] : Value)] ++ fC) rfl rfl hfc rfl (by simp)) (hfF (s.getD v8_3.toNat default) (getD_mem rng) a13 k14 a15 k16 a17 k18 (by unfold i64ok; omega) (by unfold i64ok; omega)) rfl fun _ _ => ?_
   refine KS ?_
   refine Kc ?_ ?_
   · intro h24
     refine KS ?_
     refine Oq Vm (Oq Va (KS ?_))
     have hR26 := q2 hM4 (.ret v8_3) (by simp only [slices_IndexFunc_Transfer_L0, h10, h24, cs4])
     have hq := q4 hrr v8_3 (by simp only [slices_IndexFunc_Transfer, h10, h24, hR26, cs4]); subst hq
     exact Kr () rfl (.tmp rfl .nil) [] en
   intro h24
   refine KS ?_
   refine Oq Vadd (Oq Vm (KS ?_))
   exact Kg (r12, (v8_3 + 1)) [4, 5] ⟨(q3 hM4 (by simp only [slices_IndexFunc_Transfer_L0, h10, h24, cs4])), (by omega), (by omega), (by omega), (by omega)⟩
 intro h10
 have g28 := of_decide_eq_false h10
 obtain rfl : r2 = 0 := by omega
 refine Ke ?_
 have hR29 := q2 hM4 (.brk ()) (by simp only [slices_IndexFunc_Transfer_L0, h10, cs4])
 refine KS ?_
 refine Oq Va (KS ?_)
 have hq := q4 hrr (-1) (by simp only [slices_IndexFunc_Transfer, h10, hR29, cs4]); subst hq
 exact Kr () rfl (.tmp rfl .nil) [] en
theorem fn188 (s : List GTransfer) (sa0 : Option Addr) (sk0 : Nat) (fF : FuncId) (fC : List Value) (fp : GTransfer → Bool) (fA : List SP) (hfc : callable Tryz.prog fF = true) (hfF : ∀ x ∈ s, ∀ (a1 : Option Addr) (k1 : Nat) (a3 : Option Addr) (k3 : Nat) (a4 : Option Addr) (k4 : Nat), i64ok x.Gen.Width → i64ok x.Kill.Width → FT Tryz.prog fF ([(.agg #[vi x.Gen.Width, vl a1 k1 x.Gen.Words, vi x.Kill.Width, vl a3 k3 x.Kill.Words, vl a4 k4 x.Copies] : Value)] ++ fC).toArray ([S a1 k1 x.Gen.Words, S a3 k3 x.Kill.Words, S a4 k4 x.Copies] ++ [pAll fA]) (fun _ : Unit => True) (fun _ => .bool (fp x)) (fun _ => [])) (rr : Bool) (hrr : slices_ContainsFunc_Transfer s fp = rr) : FT Tryz.prog 188 #[vl sa0 sk0 s, .func (.func fF) #[] fC.toArray] [S sa0 sk0 s, pAll fA] (fun g : Unit => True) (fun g => vb rr) (fun g => []) := by
 refine FTi Tryz.func188 fun w0 M0 F0 => ?_
 refine Fb 88 0 fun hl1 => ?_
 refine KS ?_
 refine Oq Va (KS ?_)
 refine Oq Vm (Oq Vm ?_)
 refine letv (slices_IndexFunc_Transfer s fp) fun rv2 hg3 => ?_
 have hc4 := fn241 s sa0 sk0 fF fC fp fA hfc hfF rv2 hg3
 refine Oc [0, 1] ca241 hc4 ?_
 rintro - he5
 unfold i64ok at he5
 refine Oq Vgeq (Oq Va (KS ?_))
 have hq := q4 hrr (decide (0 ≤ rv2)) (by simp only [slices_ContainsFunc_Transfer, hg3, cs4]); subst hq
 exact Kr () rfl (.tmp rfl .nil) [] trivial
theorem fn157 (t : GTransfer) (ta1 : Option Addr) (tk1 : Nat) (ta3 : Option Addr) (tk3 : Nat) (ta4 : Option Addr) (tk4 : Nat) (b : Int) (ht_0 : i64ok t.Gen.Width) (ht_2 : i64ok t.Kill.Width) (hb_0 : i64ok b) (rr : Bool) (hrr : transfer_bit t b = rr) : FT Tryz.prog 157 #[.agg #[vi t.Gen.Width, vl ta1 tk1 t.Gen.Words, vi t.Kill.Width, vl ta3 tk3 t.Kill.Words, vl ta4 tk4 t.Copies], vi b] [S ta1 tk1 t.Gen.Words, S ta3 tk3 t.Kill.Words, S ta4 tk4 t.Copies] (fun g : Unit => True) (fun g => vb rr) (fun g => []) := by
 refine FTi Tryz.func157 fun w0 M0 F0 => ?_
 unfold i64ok at ht_0 ht_2 hb_0
 refine Fb 8 0 fun hl1 => ?_
 refine Fb 8 1 fun hl2 => ?_
 refine Fb 16 2 fun hl3 => ?_
 refine KS ?_
 refine Oa (Ab [vi t.Gen.Width, vl ta1 tk1 t.Gen.Words, vi t.Kill.Width, vl ta3 tk3 t.Kill.Words, vl ta4 tk4 t.Copies]) fun p4 => Oq Va (KS ?_)
 refine Oq Vm (Oq Vgeq (Oq Vm ?_))
 refine Js 7 ?_ ?_
 · intro h5
   have g6 := of_decide_eq_true h5
   refine Oq Vm (Oq (Vfa fo98_0 0) (Oq (VfaF fo42_0 0) (Oq (VldF sh3 0) (Oq Vlss (Oq Vpt (Oq Va (KS ?_)))))))
   have hq := q4 hrr (decide (b < t.Gen.Width)) (by simp only [transfer_bit, h5, cs4]); subst hq
   exact Kr () rfl (.tmp rfl .nil) [] trivial
 intro h5
 have g7 := of_decide_eq_false h5
 refine Osk (Osk (Osk (Osk (Osk (Oq Vpf (Oq Va (KS ?_)))))))
 have hq := q4 hrr false (by simp only [transfer_bit, h5, cs4]); subst hq
 exact Kr () rfl (.tmp rfl .nil) [] trivial
theorem fn208 (x : Int) (hx_0 : i64ok x) (rr : Bool) (hrr : cmp_isNaN_int x = rr) : FT Tryz.prog 208 #[vi x] [] (fun g : Unit => True) (fun g => vb rr) (fun g => []) := by
 refine FTi Tryz.func208 fun w0 M0 F0 => ?_
 unfold i64ok at hx_0
 refine KS ?_
 refine Oq Va (KS ?_)
 refine Oq Vm (Oq Vm (Oq Vneq (Oq Va (KS ?_))))
 have hq := q4 hrr (x != x) (by simp only [cmp_isNaN_int, cs4]); subst hq
 exact Kr () rfl (.tmp rfl .nil) [] trivial
theorem fn148 (x : Int) (y : Int) (hx_0 : i64ok x) (hy_0 : i64ok y) (rr : Int) (hrr : cmp_Compare_int x y = rr) : FT Tryz.prog 148 #[vi x, vi y] [] (fun g : Unit => i64ok rr) (fun g => vi rr) (fun g => []) := by
 refine FTi Tryz.func148 fun w0 M0 F0 => ?_
 unfold i64ok at hx_0 hy_0
 refine KS ?_
 refine Oq Va (KS ?_)
 refine Oq Vm ?_
 refine letv (cmp_isNaN_int x) fun rv1 hg2 => ?_
 have hc3 := fn208 x pre rv1 hg2
 refine Oc [] ca208 hc3 ?_
 rintro - -
 refine Oq Va (KS ?_)
 refine Oq Vm ?_
 refine letv (cmp_isNaN_int y) fun rv4 hg5 => ?_
 have hc6 := fn208 y pre rv4 hg5
 refine Oc [] ca208 hc6 ?_
 rintro - -
 refine Oq Va (KS ?_)
 refine Oq Vm (KS ?_)
 refine Kc ?_ ?_
 · intro h7
   refine KS ?_
   refine Oq Vm (KS ?_)
   refine Kc ?_ ?_
   · intro h9
     refine KS ?_
     refine Oq Va (KS ?_)
     have hq := q4 hrr 0 (by simp only [cmp_Compare_int, h7, h9, hg2, hg5, cs4]); subst hq
     exact Kr () rfl (.tmp rfl .nil) [] en
   intro h9
   refine KS ?_
   refine Oq Va (KS ?_)
   have hq := q4 hrr (-1) (by simp only [cmp_Compare_int, h7, h9, hg2, hg5, cs4]); subst hq
   exact Kr () rfl (.tmp rfl .nil) [] en
 intro h7
 refine KS ?_
 refine Oq Vm (KS ?_)
 refine Kc ?_ ?_
 · intro h13
   refine KS ?_
   refine Oq Va (KS ?_)
   have hq := q4 hrr 1 (by simp only [cmp_Compare_int, h7, h13, hg2, hg5, cs4]); subst hq
   exact Kr () rfl (.tmp rfl .nil) [] en
 intro h13
 refine KS ?_
 refine Oq Vm (Oq Vm (Oq Vlss (KS ?_)))
 refine Kc ?_ ?_
 · intro h16
   have g17 := of_decide_eq_true h16
   refine KS ?_
   refine Oq Va (KS ?_)
   have hq := q4 hrr (-1) (by simp only [cmp_Compare_int, h7, h13, h16, hg2, hg5, cs4]); subst hq
   exact Kr () rfl (.tmp rfl .nil) [] en
 intro h16
 have g18 := of_decide_eq_false h16
 refine KS ?_
 refine Oq Vm (Oq Vm (Oq Vgtr (KS ?_)))
 refine Kc ?_ ?_
 · intro h19
   have g20 := of_decide_eq_true h19
   refine KS ?_
   refine Oq Va (KS ?_)
   have hq := q4 hrr 1 (by simp only [cmp_Compare_int, h7, h13, h16, h19, hg2, hg5, cs4]); subst hq
   exact Kr () rfl (.tmp rfl .nil) [] en
 intro h19
 have g21 := of_decide_eq_false h19
 refine KS ?_
 refine Oq Va (KS ?_)
 have hq := q4 hrr 0 (by simp only [cmp_Compare_int, h7, h13, h16, h19, hg2, hg5, cs4]); subst hq
 exact Kr () rfl (.tmp rfl .nil) [] en
theorem fn259 (vals : List Int) (valsa0 : Option Addr) (valsk0 : Nat) (rr : Int) (hrr : cmp_Or_int vals = rr) : FT Tryz.prog 259 #[vl valsa0 valsk0 vals] [S valsa0 valsk0 vals] (fun g : Unit => i64ok rr) (fun g => vi rr) (fun g => []) := by
 refine FTi Tryz.func259 fun w0 M0 F0 => ?_
 refine Fb 8 0 fun hl1 => ?_
 refine Fo 0 fun ho2 => ?_
 refine KS ?_
 refine Oq Va (KS ?_)
 refine Oq Va (KS ?_)
 refine Oq Vm (Oq (Vlen sl22) (Oq Vm (KS ?_)))
 refine Kl (γ := Nat × Int) (fun (r3, v8_4) => ⟨[(3, vi 0), (6, vl valsa0 valsk0 vals), (7, vi (vals.length : Int)), (8, vi v8_4)], [S valsa0 valsk0 vals], cmp_Or_int_L0 vals r3 v8_4 = cmp_Or_int_L0 vals (((vals.length : Int) - 0).toNat) 0 ∧ r3 = ((vals.length : Int) - v8_4).toNat ∧ (0 : Int) ≤ v8_4 ∧ v8_4 ≤ (vals.length : Int) ∧ (-9223372036854775808 ≤ v8_4 ∧ v8_4 ≤ 9223372036854775807), r3⟩) (((vals.length : Int) - 0).toNat, 0) [0] ⟨rfl, rfl, (by omega), (by omega), (by omega)⟩ ?_
 rintro ⟨r3, v8_4⟩ ⟨hM5, hr6, hi7, hi8, hk9⟩
 refine JJ_nx fun _ _ hL hA => ?_; dsimp only at hL hA; subst hL hA
 refine Fb 8 0 fun hl10 => ?_
 refine Fo 0 fun ho11 => ?_
 refine KS ?_
 refine Oq Vlss (KS ?_)
 refine Kc ?_ ?_
 · intro h12
   have g13 := of_decide_eq_true h12
   obtain ⟨r14, rfl⟩ := scc (n := r3) (by omega)
   refine KS ?_
   refine Oq (Vi sl22 0) ?_
   have hb15 := ok1 (i := v8_4.toNat) ho11 rng
   refine Oq (VldI sh3 0) (Oq Va (KS ?_))
   refine Oq Vm (Oq Vm (Oq Vneq (KS ?_)))
   refine Kc ?_ ?_
   · intro h16
     have g17 := ne_of_bne h16
     refine KS ?_
     refine Oq Vm (Oq Va (KS ?_))
     have hR18 := q2 hM5 (.ret (vals.getD v8_4.toNat 0)) (by simp only [cmp_Or_int_L0, h12, h16, cs4])
     have hq := q4 hrr (vals.getD v8_4.toNat 0) (by simp only [cmp_Or_int, h12, h16, hR18, cs4]); subst hq
     exact Kr () rfl (.tmp rfl .nil) [] en
   intro h16
   have g19 := eq_of_bne_false h16
   refine KS ?_
   refine Oq Vadd (Oq Vm (KS ?_))
   exact Kg (r14, (v8_4 + 1)) [0] ⟨(q3 hM5 (by simp only [cmp_Or_int_L0, h12, h16, cs4])), (by omega), (by omega), (by omega), (by omega)⟩
 intro h12
 have g20 := of_decide_eq_false h12
 obtain rfl : r3 = 0 := by omega
 refine Ke ?_
 have hR21 := q2 hM5 (.brk ()) (by simp only [cmp_Or_int_L0, h12, cs4])
 refine KS ?_
 refine Oq Vm (Oq Va (KS ?_))
 have hq := q4 hrr 0 (by simp only [cmp_Or_int, h12, hR21, cs4]); subst hq
 exact Kr () rfl (.tmp rfl .nil) [] en
theorem fn212 (a : GCopy) (b : GCopy) (ha_0 : i64ok a.From) (ha_1 : i64ok a.To) (hb_0 : i64ok b.From) (hb_1 : i64ok b.To) (rr : Int) (hrr : transfer_compare a b = rr) : FT Tryz.prog 212 #[.agg #[vi a.From, vi a.To], .agg #[vi b.From, vi b.To]] [] (fun g : Unit => i64ok rr) (fun g => vi rr) (fun g => []) := by
 refine FTi Tryz.func212 fun w0 M0 F0 => ?_
 unfold i64ok at ha_0 ha_1 hb_0 hb_1
 refine KS ?_
 refine Oa (Ab [vi a.From, vi a.To]) fun p1 => Oa (Ab [vi b.From, vi b.To]) fun p2 => Oq Va (KS ?_)
 refine JK_drawK [0, 1, 0, 4, 15, 0, 32, 0, 128, 511, 1023, 2047, 4095] fmix ?_
 refine Dv [1] (Vfa fo147_0 0) (Dv [1] (VldF sh3 0) (Dv [0] (Vfa fo147_0 0) (Dv [0] (VldF sh3 0) ?_)))
 refine letv (cmp_Compare_int a.From b.From) fun rv3 hg4 => ?_
 refine Dx [] [] [0] (fun G => vi rv3) [fun G => SP.fact (i64ok rv3)] (fun G => xC [] ca148 (fn148 a.From b.From pre pre rv3 hg4)) (Dv [1] (Vfa fo147_1 0) (Dv [1] (VldF sh3 0) (Dv [0] (Vfa fo147_1 0) (Dv [0] (VldF sh3 0) ?_))))
 refine letv (cmp_Compare_int a.To b.To) fun rv5 hg6 => ?_
 refine Dx [2] [] [1, 0] (fun G => vi rv5) [fun G => SP.fact (i64ok rv5)] (fun G => by refine xf 0 rfl ?_; rintro he7; unfold i64ok at he7; exact xC [] ca148 (fn148 a.To b.To pre pre rv5 hg6)) (Dx [] [] [0] (fun G => (G.g 10 0)) [fun G => Cr (G.g 10 0) 2 [vi rv3, vi rv5]] (fun G => xA (AsV sl22 sz22 [vi rv3, vi rv5] [vi rv3, vi rv5])) ?_)
 refine letv (cmp_Or_int [rv3, rv5]) fun rv12 hg13 => ?_
 refine Dx [2, 3, 4] [4] [2, 3, 1, 0] (fun G => vi rv12) [fun G => sl (G.g 10 0) ([rv3, rv5] : List Int), fun G => SP.fact (i64ok rv12)] (fun G => by refine xf 0 rfl ?_; rintro he14; unfold i64ok at he14; refine xf 1 rfl ?_; rintro he15; unfold i64ok at he15; exact xp [2] rfl (Ent.crInt _ [rv3, rv5] _ _ rfl rfl (by intro x hx; simp only [List.mem_cons, List.not_mem_nil, or_false] at hx; rcases hx with rfl | rfl <;> (unfold i64ok; omega)) (Nat.le_of_ble_eq_true rfl)) (xp [0] rfl (Ent.freeze _ _) (xD [0] ca259 rfl rfl rfl (FT_open (γ := Unit) (I := fun g => i64ok rv12) (V := fun g => vi rv12) (B := fun g => []) (R := sl (G.g 10 0) ([rv3, rv5] : List Int)) sl_slice (fun aq9 kq10 eq11 => by rw [eq11]; exact FT_ent (Ent.take (is := [0]) rfl) (fn259 ([rv3, rv5]) aq9 kq10 rv12 hg13)))))) (Dv [] Va ?_)
 refine Dn ⟨by kernel_rfl, fun G => ?_⟩
 refine Jw2 [(4, vi rv12)] [0, 1] [SP.fact (i64ok rv3), SP.fact (i64ok rv5), sl (G.g 10 0) ([rv3, rv5] : List Int), SP.fact (i64ok rv12)] ?_
 generalize G.g 10 0 = c8
 refine Jf 2 rfl ?_; rintro he16
 unfold i64ok at he16
 refine Jf 3 rfl ?_; rintro he17
 unfold i64ok at he17
 refine Jf 5 rfl ?_; rintro he18
 unfold i64ok at he18
 refine Jk [0, 1, 4] ?_
 refine Jo 2 ?_; rintro a19 k20 rfl
 refine Fb 8 2 fun hl21 => ?_
 refine Fo 2 fun ho22 => ?_
 have hq := q4 hrr rv12 (by simp only [transfer_compare, hg4, hg6, hg13, cs4]); subst hq
 exact Kr () rfl (.tmp rfl .nil) [] en
theorem fn156 (t : GTransfer) (ta1 : Option Addr) (tk1 : Nat) (ta3 : Option Addr) (tk3 : Nat) (ta4 : Option Addr) (tk4 : Nat) (ht_0 : i64ok t.Gen.Width) (ht_2 : i64ok t.Kill.Width) (rr : Bool) (hrr : transfer_Valid t = rr) : FT Tryz.prog 156 #[.agg #[vi t.Gen.Width, vl ta1 tk1 t.Gen.Words, vi t.Kill.Width, vl ta3 tk3 t.Kill.Words, vl ta4 tk4 t.Copies]] [S ta1 tk1 t.Gen.Words, S ta3 tk3 t.Kill.Words, S ta4 tk4 t.Copies] (fun g : Unit => True) (fun g => vb rr) (fun g => []) := by
 refine FTi Tryz.func156 fun w0 M0 F0 => ?_
 unfold i64ok at ht_0 ht_2
 refine Fb 8 0 fun hl1 => ?_
 refine Fb 8 1 fun hl2 => ?_
 refine Fb 16 2 fun hl3 => ?_
 refine KS ?_
 refine Oa (Ab [vi t.Gen.Width, vl ta1 tk1 t.Gen.Words, vi t.Kill.Width, vl ta3 tk3 t.Kill.Words, vl ta4 tk4 t.Copies]) fun p4 => Oq Va (KS ?_)
 refine Oq (Vfa fo98_0 0) (Oq (VldG sh42 0 [vi t.Gen.Width, vl ta1 tk1 t.Gen.Words]) ?_)
 refine letv (bitset_Valid t.Gen) fun rv5 hg6 => ?_
 have hc7 := fn123 t.Gen ta1 tk1 pre rv5 hg6
 refine Oc [1] ca123 hc7 ?_
 rintro - -
 refine Oq Vnot (Oq Vm ?_)
 refine Js 9 ?_ ?_
 · intro h8
   have h10 := not_true h8
   refine Osk (Osk (Osk (Osk (Oq Vpt (Oq Vm (Osk (Osk (Osk (Osk ?_)))))))))
   refine Osk (Osk (Osk (Oq Vpt (Oq Vm (Osk (Osk (Osk (Osk (Oq Vpt ?_)))))))))
   refine KS ?_
   refine Kt ?_
   refine KS ?_
   refine Oq Va (KS ?_)
   have hq := q4 hrr false (by simp only [transfer_Valid, h8, h10, hg6, cs4]); subst hq
   exact Kr () rfl (.tmp rfl .nil) [] trivial
 intro h8
 have h13 := not_false h8
 refine Oq (Vfa fo98_1 0) (Oq (VldG sh42 0 [vi t.Kill.Width, vl ta3 tk3 t.Kill.Words]) ?_)
 refine letv (bitset_Valid t.Kill) fun rv15 hg16 => ?_
 have hc17 := fn123 t.Kill ta3 tk3 pre rv15 hg16
 refine Oc [2] ca123 hc17 ?_
 rintro - -
 refine Oq Vnot (Oq Vpf (Oq Vm ?_))
 refine Js 15 ?_ ?_
 · intro h18
   have h20 := not_true h18
   refine Osk (Osk (Osk (Osk (Osk (Osk (Osk (Oq Vpt (Oq Vm (Osk ?_)))))))))
   refine Osk (Osk (Osk (Oq Vpt (KS ?_))))
   refine Kt ?_
   refine KS ?_
   refine Oq Va (KS ?_)
   have hq := q4 hrr false (by simp only [transfer_Valid, h8, h13, h18, h20, hg6, hg16, cs4]); subst hq
   exact Kr () rfl (.tmp rfl .nil) [] trivial
 intro h18
 have h23 := not_false h18
 refine Oq (Vfa fo98_0 0) (Oq (VfaF fo42_0 0) (Oq (VldF sh3 0) (Oq (Vfa fo98_1 0) (Oq (VfaF fo42_0 0) (Oq (VldF sh3 0) (Oq Vneq (Oq Vpf (Oq Vm ?_))))))))
 refine Js 24 ?_ ?_
 · intro h25
   have g26 := ne_of_bne h25
   refine Osk (Osk (Osk (Osk (Oq Vpt (KS ?_)))))
   refine Kt ?_
   refine KS ?_
   refine Oq Va (KS ?_)
   have hq := q4 hrr false (by simp only [transfer_Valid, h8, h13, h18, h23, h25, hg6, hg16, cs4]); subst hq
   exact Kr () rfl (.tmp rfl .nil) [] trivial
 intro h25
 have g27 := eq_of_bne_false h25
 refine Oq (Vfa fo98_2 0) (Oq (VldF sh96 0) (Oq (Vlen sl96) (Oq Vgtr (Oq Vpf (KS ?_)))))
 refine Kc ?_ ?_
 · intro h28
   have g29 := of_decide_eq_true h28
   refine KS ?_
   refine Oq Va (KS ?_)
   have hq := q4 hrr false (by simp only [transfer_Valid, h8, h13, h18, h23, h25, h28, hg6, hg16, cs4]); subst hq
   exact Kr () rfl (.tmp rfl .nil) [] trivial
 intro h28
 have g30 := of_decide_eq_false h28
 refine KS ?_
 refine Oq (Vfa fo98_2 0) (Oq (VldF sh96 0) (Oq (Vlen sl96) (Oq Vm (KS ?_))))
 refine Kl (γ := Nat × Int) (fun (r31, v33_32) => ⟨[(1, p4), (31, vl ta4 tk4 t.Copies), (32, vi (t.Copies.length : Int)), (33, vi v33_32)], [pv p4 [vi t.Gen.Width, vl ta1 tk1 t.Gen.Words, vi t.Kill.Width, vl ta3 tk3 t.Kill.Words, vl ta4 tk4 t.Copies], S ta1 tk1 t.Gen.Words, S ta3 tk3 t.Kill.Words, S ta4 tk4 t.Copies], transfer_Valid_L0 t r31 v33_32 = transfer_Valid_L0 t (((t.Copies.length : Int) - 0).toNat) 0 ∧ r31 = ((t.Copies.length : Int) - v33_32).toNat ∧ (0 : Int) ≤ v33_32 ∧ v33_32 ≤ (t.Copies.length : Int) ∧ (-9223372036854775808 ≤ v33_32 ∧ v33_32 ≤ 9223372036854775807), r31⟩) (((t.Copies.length : Int) - 0).toNat, 0) [0, 1, 2, 3] ⟨rfl, rfl, (by omega), (by omega), (by omega)⟩ ?_
 rintro ⟨r31, v33_32⟩ ⟨hM33, hr34, hi35, hi36, hk37⟩
 refine JJ_nx fun _ _ hL hA => ?_; dsimp only at hL hA; subst hL hA
 refine Fb 8 1 fun hl38 => ?_
 refine Fb 8 2 fun hl39 => ?_
 refine Fb 16 3 fun hl40 => ?_
 refine KS ?_
 refine Oq Vlss (KS ?_)
 refine Kc ?_ ?_
 · intro h41
   have g42 := of_decide_eq_true h41
   obtain ⟨r43, rfl⟩ := scc (n := r31) (by omega)
   refine KS ?_
   refine Oq Vm (Oq (Vi sl96 3) ?_)
   refine JJ_peek_GCopy v33_32.toNat 3 rfl rng fun hb44 hb45 => ?_
   unfold i64ok at hb44 hb45
   refine Oq (VldA sh147 0) (Oa (Al ze147 [vi 0, vi 0]) fun p46 => Oq Va (Ost (Scl [0] sh147 [vi ((t.Copies.getD v33_32.toNat default).From), vi ((t.Copies.getD v33_32.toNat default).To)]) (KS ?_)))
   refine Jp 0 fun hp47 => ?_
   refine letv (transfer_bit t ((t.Copies.getD v33_32.toNat default).From)) fun rv48 hg49 => ?_
   refine bool_split (!rv48) ?_ ?_
   · intro h50
     have h52 := not_true h50
     refine JK_drawK [0, 0, 2, 7, 15, 31, 63, 63, 191, 511, 1023, 2047, 4095, 8191, 16383, 32767, 65535, 131071, 65535, 327679, 1048575, 2097151, 65535, 8388607, 16777215, 33554431, 67108863] fmix ?_
     refine Dv [3] (VldA sh98 0) (Dv [0] (Vfa fo147_0 0) (Dv [1] (VldF sh3 0) (Dx [4, 5, 6] [] [1, 2, 3, 0] (fun G => vb rv48) [fun G => SP.fact (True)] (fun G => xC [0, 1, 2] ca157 (fn157 t ta1 tk1 ta3 tk3 ta4 tk4 ((t.Copies.getD v33_32.toNat default).From) pre pre pre rv48 hg49)) (Db h50 [] Vnot (Dv [] Vm (Ds (Ds (Ds (Ds ?_)))))))))
     refine Ds (Dv [] Vpt (Dv [] Vm (Ds (Ds (Ds (Ds (Ds (Ds (Ds ?_)))))))))
     refine Ds (Ds (Ds (Ds (Ds (Ds (Dv [] Vpt ?_))))))
     refine Dn ⟨by kernel_rfl, fun G => ?_⟩
     refine Jw2 [(1, p4), (31, vl ta4 tk4 t.Copies), (32, vi (t.Copies.length : Int)), (33, vi v33_32), (64, vb true)] [0, 1, 2, 3, 4, 5, 6] [SP.fact (True)] ?_
     refine Jk [1, 1, 2, 3, 4, 5] ?_
     refine Kt ?_
     refine KS ?_
     refine Oq Va (KS ?_)
     have hR54 := q2 hM33 (.ret false) (by simp only [transfer_Valid_L0, h8, h13, h18, h23, h25, h28, h41, h50, h52, hg6, hg16, hg49, cs4])
     have hq := q4 hrr false (by simp only [transfer_Valid, h8, h13, h18, h23, h25, h28, h41, h50, h52, hg6, hg16, hg49, hR54, cs4]); subst hq
     exact Kr () rfl (.tmp rfl .nil) [] trivial
   intro h50
   have h56 := not_false h50
   refine letv (transfer_bit t ((t.Copies.getD v33_32.toNat default).To)) fun rv58 hg59 => ?_
   refine bool_split (!rv58) ?_ ?_
   · intro h60
     have h62 := not_true h60
     refine JK_drawK [0, 0, 2, 7, 15, 31, 63, 63, 191, 511, 1023, 2047, 4095, 8191, 16383, 32767, 65535, 131071, 65535, 327679, 1048575, 2097151, 65535, 8388607, 16777215, 33554431, 67108863] fmix ?_
     refine Dv [3] (VldA sh98 0) (Dv [0] (Vfa fo147_0 0) (Dv [1] (VldF sh3 0) (Dx [4, 5, 6] [] [1, 2, 3, 0] (fun G => vb rv48) [fun G => SP.fact (True)] (fun G => xC [0, 1, 2] ca157 (fn157 t ta1 tk1 ta3 tk3 ta4 tk4 ((t.Copies.getD v33_32.toNat default).From) pre pre pre rv48 hg49)) (Db h50 [] Vnot (Dv [] Vm (Dv [3] (VldA sh98 0) (Dv [0] (Vfa fo147_1 0) (Dv [1] (VldF sh3 0) (Dx [4, 5, 6] [] [1, 2, 3, 0] (fun G => vb rv58) [fun G => SP.fact (True)] (fun G => xC [0, 1, 2] ca157 (fn157 t ta1 tk1 ta3 tk3 ta4 tk4 ((t.Copies.getD v33_32.toNat default).To) pre pre pre rv58 hg59)) ?_)))))))))
     refine Db h60 [] Vnot (Dv [] Vpf (Dv [] Vm (Ds (Ds (Ds (Ds (Ds (Ds (Ds ?_)))))))))
     refine Ds (Ds (Ds (Ds (Ds (Ds (Dv [] Vpt ?_))))))
     refine Dn ⟨by kernel_rfl, fun G => ?_⟩
     refine Jw2 [(1, p4), (31, vl ta4 tk4 t.Copies), (32, vi (t.Copies.length : Int)), (33, vi v33_32), (64, vb true)] [0, 1, 2, 3, 4, 5, 6] [SP.fact (True), SP.fact (True)] ?_
     refine Jk [1, 1, 2, 3, 4, 5] ?_
     refine Kt ?_
     refine KS ?_
     refine Oq Va (KS ?_)
     have hR64 := q2 hM33 (.ret false) (by simp only [transfer_Valid_L0, h8, h13, h18, h23, h25, h28, h41, h50, h56, h60, h62, hg6, hg16, hg49, hg59, cs4])
     have hq := q4 hrr false (by simp only [transfer_Valid, h8, h13, h18, h23, h25, h28, h41, h50, h56, h60, h62, hg6, hg16, hg49, hg59, hR64, cs4]); subst hq
     exact Kr () rfl (.tmp rfl .nil) [] trivial
   intro h60
   have h66 := not_false h60
   refine bool_split (decide (0 < v33_32)) ?_ ?_
   · intro h68
     have g69 := of_decide_eq_true h68
     refine JJ_peek_GCopy ((v33_32 - 1) : Int).toNat 6 rfl rng fun hb70 hb71 => ?_
     unfold i64ok at hb70 hb71
     refine JK_drawK [0, 0, 2, 7, 15, 31, 63, 63, 191, 511, 1023, 2047, 4095, 8191, 16383, 32767, 65535, 131071, 65535, 327679, 1048575, 2097151, 65535, 8388607, 16777215, 33554431, 67108863] fmix ?_
     refine Dv [4] (VldA sh98 0) (Dv [1] (Vfa fo147_0 0) (Dv [2] (VldF sh3 0) (Dx [5, 6, 7] [] [1, 2, 3, 0] (fun G => vb rv48) [fun G => SP.fact (True)] (fun G => xC [0, 1, 2] ca157 (fn157 t ta1 tk1 ta3 tk3 ta4 tk4 ((t.Copies.getD v33_32.toNat default).From) pre pre pre rv48 hg49)) (Db h50 [] Vnot (Dv [] Vm (Dv [4] (VldA sh98 0) (Dv [1] (Vfa fo147_1 0) (Dv [2] (VldF sh3 0) (Dx [5, 6, 7] [] [1, 2, 3, 0] (fun G => vb rv58) [fun G => SP.fact (True)] (fun G => xC [0, 1, 2] ca157 (fn157 t ta1 tk1 ta3 tk3 ta4 tk4 ((t.Copies.getD v33_32.toNat default).To) pre pre pre rv58 hg59)) ?_)))))))))
     refine Db h60 [] Vnot (Dv [] Vpf (Dv [] Vm (Dv [] Vm (Db h68 [] Vgtr (Dv [] Vm (Dv [4] (Vfa fo98_2 0) (Dv [4] (VldF sh96 0) (Dv [] Vm (Dv [] Vsub ?_)))))))))
     refine Dv [7] (Vi sl96 0) (Dv [0] (VldA sh147 0) (Dv [2] (VldA sh147 0) ?_))
     refine letv (transfer_compare (t.Copies.getD ((v33_32 - 1) : Int).toNat default) (t.Copies.getD v33_32.toNat default)) fun rv72 hg73 => ?_
     refine Dx [] [] [0] (fun G => vi rv72) [fun G => SP.fact (i64ok rv72)] (fun G => xC [] ca212 (fn212 ((t.Copies.getD ((v33_32 - 1) : Int).toNat default)) ((t.Copies.getD v33_32.toNat default)) pre pre pre pre rv72 hg73)) (Dv [] Vgeq (Dv [] Vpt (Dv [] Vpf ?_)))
     refine Dn ⟨by kernel_rfl, fun G => ?_⟩
     refine Jw2 [(1, p4), (31, vl ta4 tk4 t.Copies), (32, vi (t.Copies.length : Int)), (33, vi v33_32), (64, vb (decide (0 ≤ rv72)))] [0, 1, 2, 3, 4, 5, 6, 7] [SP.fact (True), SP.fact (True), SP.fact (i64ok rv72)] ?_
     refine Jf 10 rfl ?_; rintro he74
     unfold i64ok at he74
     refine Jk [0, 2, 2, 3, 4, 5, 6] ?_
     refine Kc ?_ ?_
     · intro h75
       have g76 := of_decide_eq_true h75
       refine KS ?_
       refine Oq Va (KS ?_)
       have hR77 := q2 hM33 (.ret false) (by simp only [transfer_Valid_L0, h8, h13, h18, h23, h25, h28, h41, h50, h56, h60, h66, h68, h75, hg6, hg16, hg49, hg59, hg73, cs4])
       have hq := q4 hrr false (by simp only [transfer_Valid, h8, h13, h18, h23, h25, h28, h41, h50, h56, h60, h66, h68, h75, hg6, hg16, hg49, hg59, hg73, hR77, cs4]); subst hq
       exact Kr () rfl (.tmp rfl .nil) [] trivial
     intro h75
     have g78 := of_decide_eq_false h75
     refine KS ?_
     refine Oq Vadd (Oq Vm (KS ?_))
     exact Kg (r43, (v33_32 + 1)) [3, 4, 5, 6] ⟨(q3 hM33 (by simp only [transfer_Valid_L0, h8, h13, h18, h23, h25, h28, h41, h50, h56, h60, h66, h68, h75, hg6, hg16, hg49, hg59, hg73, cs4])), (by omega), (by omega), (by omega), (by omega)⟩
   intro h68
   have g79 := of_decide_eq_false h68
   refine JK_drawK [0, 0, 2, 7, 15, 31, 63, 63, 191, 511, 1023, 2047, 4095, 8191, 16383, 32767, 65535, 131071, 65535, 327679, 1048575, 2097151, 65535, 8388607, 16777215, 33554431, 67108863] fmix ?_
   refine Dv [3] (VldA sh98 0) (Dv [0] (Vfa fo147_0 0) (Dv [1] (VldF sh3 0) (Dx [4, 5, 6] [] [1, 2, 3, 0] (fun G => vb rv48) [fun G => SP.fact (True)] (fun G => xC [0, 1, 2] ca157 (fn157 t ta1 tk1 ta3 tk3 ta4 tk4 ((t.Copies.getD v33_32.toNat default).From) pre pre pre rv48 hg49)) (Db h50 [] Vnot (Dv [] Vm (Dv [3] (VldA sh98 0) (Dv [0] (Vfa fo147_1 0) (Dv [1] (VldF sh3 0) (Dx [4, 5, 6] [] [1, 2, 3, 0] (fun G => vb rv58) [fun G => SP.fact (True)] (fun G => xC [0, 1, 2] ca157 (fn157 t ta1 tk1 ta3 tk3 ta4 tk4 ((t.Copies.getD v33_32.toNat default).To) pre pre pre rv58 hg59)) ?_)))))))))
   refine Db h60 [] Vnot (Dv [] Vpf (Dv [] Vm (Dv [] Vm (Db h68 [] Vgtr (Dv [] Vm (Ds (Ds (Ds (Ds ?_)))))))))
   refine Ds (Ds (Ds (Ds (Ds (Dv [] Vpf (Dv [] Vpf ?_))))))
   refine Dn ⟨by kernel_rfl, fun G => ?_⟩
   refine Jw2 [(1, p4), (31, vl ta4 tk4 t.Copies), (32, vi (t.Copies.length : Int)), (33, vi v33_32), (64, vb false)] [0, 1, 2, 3, 4, 5, 6] [SP.fact (True), SP.fact (True)] ?_
   refine Jk [1, 1, 2, 3, 4, 5] ?_
   refine Kf ?_
   refine KS ?_
   refine Oq Vadd (Oq Vm (KS ?_))
   exact Kg (r43, (v33_32 + 1)) [2, 3, 4, 5] ⟨(q3 hM33 (by simp only [transfer_Valid_L0, h8, h13, h18, h23, h25, h28, h41, h50, h56, h60, h66, h68, hg6, hg16, hg49, hg59, cs4])), (by omega), (by omega), (by omega), (by omega)⟩
 intro h41
 have g80 := of_decide_eq_false h41
 obtain rfl : r31 = 0 := by omega
 refine Ke ?_
 have hR81 := q2 hM33 (.brk ()) (by simp only [transfer_Valid_L0, h8, h13, h18, h23, h25, h28, h41, hg6, hg16, cs4])
 refine KS ?_
 refine Oq Va (KS ?_)
 have hq := q4 hrr true (by simp only [transfer_Valid, h8, h13, h18, h23, h25, h28, h41, hg6, hg16, hR81, cs4]); subst hq
 exact Kr () rfl (.tmp rfl .nil) [] trivial
theorem fn190 (width : Int) (f : GTransfer) (fa1 : Option Addr) (fk1 : Nat) (fa3 : Option Addr) (fk3 : Nat) (fa4 : Option Addr) (fk4 : Nat) (hwidth_0 : i64ok width) (hf_0 : i64ok f.Gen.Width) (hf_2 : i64ok f.Kill.Width) (rr : Bool) (hrr : equations_fits width f = rr) : FT Tryz.prog 190 #[vi width, .agg #[vi f.Gen.Width, vl fa1 fk1 f.Gen.Words, vi f.Kill.Width, vl fa3 fk3 f.Kill.Words, vl fa4 fk4 f.Copies]] [S fa1 fk1 f.Gen.Words, S fa3 fk3 f.Kill.Words, S fa4 fk4 f.Copies] (fun g : Unit => True) (fun g => vb rr) (fun g => []) := by
 refine FTi Tryz.func190 fun w0 M0 F0 => ?_
 unfold i64ok at hwidth_0 hf_0 hf_2
 refine Fb 8 0 fun hl1 => ?_
 refine Fb 8 1 fun hl2 => ?_
 refine Fb 16 2 fun hl3 => ?_
 refine KS ?_
 refine Oa (Ab [vi f.Gen.Width, vl fa1 fk1 f.Gen.Words, vi f.Kill.Width, vl fa3 fk3 f.Kill.Words, vl fa4 fk4 f.Copies]) fun p4 => Oq Va (KS ?_)
 refine Oq (VldA sh98 0) ?_
 refine letv (transfer_Valid f) fun rv5 hg6 => ?_
 have hc7 := fn156 f fa1 fk1 fa3 fk3 fa4 fk4 pre pre rv5 hg6
 refine Oc [1, 2, 3] ca156 hc7 ?_
 rintro - -
 refine Oq Vm ?_
 refine Js 7 ?_ ?_
 · intro h8
   refine Oq (Vfa fo98_0 0) (Oq (VfaF fo42_0 0) (Oq (VldF sh3 0) (Oq Vm (Oq Veql (Oq Vpt (Oq Va (KS ?_)))))))
   have hq := q4 hrr (f.Gen.Width == width) (by simp only [equations_fits, h8, hg6, cs4]); subst hq
   exact Kr () rfl (.tmp rfl .nil) [] trivial
 intro h8
 refine Osk (Osk (Osk (Osk (Osk (Oq Vpf (Oq Va (KS ?_)))))))
 have hq := q4 hrr false (by simp only [equations_fits, h8, hg6, cs4]); subst hq
 exact Kr () rfl (.tmp rfl .nil) [] trivial
theorem fn189 (f : GTransfer) (fa1 : Option Addr) (fk1 : Nat) (fa3 : Option Addr) (fk3 : Nat) (fa4 : Option Addr) (fk4 : Nat) (cap0P : Value) (cap0 : GSystem) (cap0a1 : Option Addr) (cap0k1 : Nat) (cap0a2 : Option Addr) (cap0k2 : Nat) (cap0a3 : Option Addr) (cap0k3 : Nat) (hf_0 : i64ok f.Gen.Width) (hf_2 : i64ok f.Kill.Width) (hcap0_0 : i64ok cap0.Width) (rr : Bool) (hrr : equations_Valid_1 f cap0 = rr) : FT Tryz.prog 189 #[.agg #[vi f.Gen.Width, vl fa1 fk1 f.Gen.Words, vi f.Kill.Width, vl fa3 fk3 f.Kill.Words, vl fa4 fk4 f.Copies], cap0P] [S fa1 fk1 f.Gen.Words, S fa3 fk3 f.Kill.Words, S fa4 fk4 f.Copies, pv cap0P [vi cap0.Width, vl cap0a1 cap0k1 cap0.Deps, vl cap0a2 cap0k2 cap0.Transfers, vl cap0a3 cap0k3 cap0.Boundary], S cap0a1 cap0k1 cap0.Deps, S cap0a2 cap0k2 cap0.Transfers, S cap0a3 cap0k3 cap0.Boundary] (fun g : Unit => True) (fun g => vb rr) (fun g => []) := by
 refine FTi Tryz.func189 fun w0 M0 F0 => ?_
 unfold i64ok at hf_0 hf_2 hcap0_0
 refine Fb 8 0 fun hl1 => ?_
 refine Fb 8 1 fun hl2 => ?_
 refine Fb 16 2 fun hl3 => ?_
 refine Fb 24 4 fun hl4 => ?_
 refine Fb 88 5 fun hl5 => ?_
 refine Fb 32 6 fun hl6 => ?_
 refine KS ?_
 refine Oa (Ab [vi f.Gen.Width, vl fa1 fk1 f.Gen.Words, vi f.Kill.Width, vl fa3 fk3 f.Kill.Words, vl fa4 fk4 f.Copies]) fun p7 => Oq Va (KS ?_)
 refine Oq (Vfa fo27_0 4) (Oq (VldF sh3 4) (Oq (VldA sh98 0) ?_))
 refine letv (equations_fits cap0.Width f) fun rv8 hg9 => ?_
 have hc10 := fn190 cap0.Width f fa1 fk1 fa3 fk3 fa4 fk4 pre pre pre rv8 hg9
 refine Oc [1, 2, 3] ca190 hc10 ?_
 rintro - -
 refine Oq Vnot (Oq Va (KS ?_))
 have hq := q4 hrr (!rv8) (by simp only [equations_Valid_1, hg9, cs4]); subst hq
 exact Kr () rfl (.tmp rfl .nil) [] trivial
theorem fn109 (s : GSystem) (sa1 : Option Addr) (sk1 : Nat) (sa2 : Option Addr) (sk2 : Nat) (sa3 : Option Addr) (sk3 : Nat) (hs_0 : i64ok s.Width) (rr : Bool) (hrr : equations_Valid s = rr) : FT Tryz.prog 109 #[.agg #[vi s.Width, vl sa1 sk1 s.Deps, vl sa2 sk2 s.Transfers, vl sa3 sk3 s.Boundary]] [S sa1 sk1 s.Deps, S sa2 sk2 s.Transfers, S sa3 sk3 s.Boundary] (fun g : Unit => True) (fun g => vb rr) (fun g => []) := by
 refine FTi Tryz.func109 fun w0 M0 F0 => ?_
 unfold i64ok at hs_0
 refine Fb 24 0 fun hl1 => ?_
 refine Fb 88 1 fun hl2 => ?_
 refine Fb 32 2 fun hl3 => ?_
 refine KS ?_
 refine Oa (Ab [vi s.Width, vl sa1 sk1 s.Deps, vl sa2 sk2 s.Transfers, vl sa3 sk3 s.Boundary]) fun p4 => Oq Va (KS ?_)
 refine Oq (Vfa fo27_1 0) (Oq (VldF sh23 0) (Oq (Vlen sl23) (Oq Va (KS ?_))))
 refine Oq (Vfa fo27_0 0) (Oq (VldF sh3 0) (Oq Vm ?_))
 refine letv (equations_sized s.Width (s.Deps.length : Int)) fun rv5 hg6 => ?_
 have hc7 := fn185 s.Width ((s.Deps.length : Int)) pre pre rv5 hg6
 refine Oc [] ca185 hc7 ?_
 rintro - -
 refine Oq Vnot (Oq Vm ?_)
 refine Js 15 ?_ ?_
 · intro h8
   have h10 := not_true h8
   refine Osk (Osk (Osk (Osk (Osk (Oq Vpt (Oq Vm (Osk (Osk (Osk ?_)))))))))
   refine Osk (Osk (Oq Vpt (KS ?_)))
   refine Kt ?_
   refine KS ?_
   refine Oq Va (KS ?_)
   have hq := q4 hrr false (by simp only [equations_Valid, h8, h10, hg6, cs4]); subst hq
   exact Kr () rfl (.tmp rfl .nil) [] trivial
 intro h8
 have h13 := not_false h8
 refine Oq (Vfa fo27_2 0) (Oq (VldF sh24 0) (Oq (Vlen sl24) (Oq Vm (Oq Vneq (Oq Vpf (Oq Vm ?_))))))
 refine Js 22 ?_ ?_
 · intro h15
   have g16 := ne_of_bne h15
   refine Osk (Osk (Osk (Osk (Osk (Oq Vpt (KS ?_))))))
   refine Kt ?_
   refine KS ?_
   refine Oq Va (KS ?_)
   have hq := q4 hrr false (by simp only [equations_Valid, h8, h13, h15, hg6, cs4]); subst hq
   exact Kr () rfl (.tmp rfl .nil) [] trivial
 intro h15
 have g17 := eq_of_bne_false h15
 refine Oq (Vfa fo27_3 0) (Oq (VldF sh25 0) (Oq (Vlen sl25) (Oq Vm (Oq Vneq (Oq Vpf (KS ?_))))))
 refine Kc ?_ ?_
 · intro h18
   have g19 := ne_of_bne h18
   refine KS ?_
   refine Oq Va (KS ?_)
   have hq := q4 hrr false (by simp only [equations_Valid, h8, h13, h15, h18, hg6, cs4]); subst hq
   exact Kr () rfl (.tmp rfl .nil) [] trivial
 intro h18
 have g20 := eq_of_bne_false h18
 refine KS ?_
 refine Oq Va (KS ?_)
 refine Oq (Vfa fo27_1 0) (Oq (VldF sh23 0) (Oq (Vlen sl23) (Oq Vm (KS ?_))))
 refine Kl (γ := Nat × Int × Int) (fun (r21, edges_22, v32_23) => ⟨[(1, p4), (3, vi (s.Deps.length : Int)), (4, vi edges_22), (30, vl sa1 sk1 s.Deps), (31, vi (s.Deps.length : Int)), (32, vi v32_23)], [pv p4 [vi s.Width, vl sa1 sk1 s.Deps, vl sa2 sk2 s.Transfers, vl sa3 sk3 s.Boundary], S sa1 sk1 s.Deps, S sa2 sk2 s.Transfers, S sa3 sk3 s.Boundary], equations_Valid_L0 s r21 edges_22 v32_23 = equations_Valid_L0 s (((s.Deps.length : Int) - 0).toNat) 0 0 ∧ r21 = ((s.Deps.length : Int) - v32_23).toNat ∧ (0 : Int) ≤ v32_23 ∧ v32_23 ≤ (s.Deps.length : Int) ∧ (-9223372036854775808 ≤ edges_22 ∧ edges_22 ≤ 9223372036854775807) ∧ (-9223372036854775808 ≤ v32_23 ∧ v32_23 ≤ 9223372036854775807) ∧ 0 ≤ edges_22 ∧ edges_22 ≤ 1024, r21⟩) (((s.Deps.length : Int) - 0).toNat, 0, 0) [0, 1, 2, 3] ⟨rfl, rfl, (by omega), (by omega), (by omega), (by omega), iv0⟩ ?_
 rintro ⟨r21, edges_22, v32_23⟩ ⟨hM24, hr25, hi26, hi27, hk28, hk29, hv30⟩
 refine JJ_nx fun _ _ hL hA => ?_; dsimp only at hL hA; subst hL hA
 refine Fb 24 1 fun hl31 => ?_
 refine Fb 88 2 fun hl32 => ?_
 refine Fb 32 3 fun hl33 => ?_
 refine KS ?_
 refine Oq Vlss (KS ?_)
 refine Kc ?_ ?_
 · intro h34
   have g35 := of_decide_eq_true h34
   obtain ⟨r36, rfl⟩ := scc (n := r21) (by omega)
   refine KS ?_
   refine Oq (Vi sl23 1) ?_
   refine JJ_peekL v32_23.toNat 1 rfl rng fun a37 k38 => ?_
   refine Fb 8 1 fun hl39 => ?_
   refine Fo 1 fun ho40 => ?_
   refine Oq (Vld sh22 0) (Oq Va (KS ?_))
   refine Oq Vm (Oq Vm (Oq (Vlen sl22) (Oq Vadd (Oq Va (KS ?_)))))
   refine Oq Vm (Oq Vgtr (Oq Vm ?_))
   refine Js 42 ?_ ?_
   · intro h41
     have g42 := of_decide_eq_true h41
     refine Osk (Osk (Osk (Osk (Oq Vpt (KS ?_)))))
     refine Kt ?_
     refine KS ?_
     refine Oq Va (KS ?_)
     have hR43 := q2 hM24 (.ret false) (by simp only [equations_Valid_L0, h8, h13, h15, h18, h34, h41, hg6, cs4])
     have hq := q4 hrr false (by simp only [equations_Valid, h8, h13, h15, h18, h34, h41, hg6, hR43, cs4]); subst hq
     exact Kr () rfl (.tmp rfl .nil) [] trivial
   intro h41
   have g44 := of_decide_eq_false h41
   refine Oq Vm (Oq Vm ?_)
   refine letv (equations_ascending (s.Deps.getD v32_23.toNat []) (s.Deps.length : Int)) fun rv45 hg46 => ?_
   have hc47 := fn186 ((s.Deps.getD v32_23.toNat [])) a37 k38 ((s.Deps.length : Int)) pre rv45 hg46
   refine Oc [1] ca186 hc47 ?_
   rintro - -
   refine Oq Vnot (Oq Vpf (KS ?_))
   refine Kc ?_ ?_
   · intro h48
     have h50 := not_true h48
     refine KS ?_
     refine Oq Va (KS ?_)
     have hR52 := q2 hM24 (.ret false) (by simp only [equations_Valid_L0, h8, h13, h15, h18, h34, h41, h48, h50, hg6, hg46, cs4])
     have hq := q4 hrr false (by simp only [equations_Valid, h8, h13, h15, h18, h34, h41, h48, h50, hg6, hg46, hR52, cs4]); subst hq
     exact Kr () rfl (.tmp rfl .nil) [] trivial
   intro h48
   have h54 := not_false h48
   refine KS ?_
   refine Oq Vadd (Oq Vm (KS ?_))
   exact Kg (r36, (edges_22 + ((s.Deps.getD v32_23.toNat []).length : Int)), (v32_23 + 1)) [2, 3, 4, 5] ⟨(q3 hM24 (by simp only [equations_Valid_L0, h8, h13, h15, h18, h34, h41, h48, h54, hg6, hg46, cs4])), (by omega), (by omega), (by omega), (by omega), (by omega), iv1⟩
 intro h34
 have g56 := of_decide_eq_false h34
 obtain rfl : r21 = 0 := by omega
 refine Ke ?_
 have hR57 := q2 hM24 (.brk ()) (by simp only [equations_Valid_L0, h8, h13, h15, h18, h34, hg6, cs4])
 refine KS ?_
 refine Oq (Vfa fo27_0 0) (Oq (VldF sh3 0) (Oq (Vfa fo27_3 0) (Oq (VldF sh25 0) ?_)))
 refine letv (equations_sets s.Width s.Boundary) fun rv58 hg59 => ?_
 have hc60 := fn187 s.Width s.Boundary sa3 sk3 pre rv58 hg59
 refine Oc [3] ca187 hc60 ?_
 rintro - -
 refine Oq Vm ?_
 refine Js 54 ?_ ?_
 · intro h61
   refine Oq (Vfa fo27_2 0) (Oq (VldF sh24 0) (Oq (Vf [p4]) ?_))
   refine JJ_ent (Ent.pall [0, 1, 2, 3] rfl rfl) ?_
   refine letv (slices_ContainsFunc_Transfer s.Transfers (fun x => equations_Valid_1 x s)) fun rv63 hg64 => ?_
   have hc65 := fn188 s.Transfers sa2 sk2 189 [p4] (fun x => equations_Valid_1 x s) [pv p4 [vi s.Width, vl sa1 sk1 s.Deps, vl sa2 sk2 s.Transfers, vl sa3 sk3 s.Boundary], S sa1 sk1 s.Deps, S sa2 sk2 s.Transfers, S sa3 sk3 s.Boundary] ca189 (fun x hx a1 k1 a3 k3 a4 k4 hq0 hq2 => FT_pall (A1 := _) (fn189 x a1 k1 a3 k3 a4 k4 p4 s sa1 sk1 sa2 sk2 sa3 sk3 hq0 hq2 pre _ rfl)) rv63 hg64
   refine Oc [3, 0] ca188 hc65 ?_
   rintro - -
   refine Oq Vnot (Oq Vpt (Oq Va (KS ?_)))
   have hq := q4 hrr (!rv63) (by simp only [equations_Valid, h8, h13, h15, h18, h34, h61, hg6, hR57, hg59, hg64, cs4]); subst hq
   exact Kr () rfl (.tmp rfl .nil) [] trivial
 intro h61
 refine Osk (Osk (Osk (Osk (Osk (Oq Vpf (Oq Va (KS ?_)))))))
 have hq := q4 hrr false (by simp only [equations_Valid, h8, h13, h15, h18, h34, h61, hg6, hR57, hg59, cs4]); subst hq
 exact Kr () rfl (.tmp rfl .nil) [] trivial
theorem fn242 (width : Int) (hwidth_0 : i64ok width) (rr : GSet × Int) (hrr : bitset_Empty width = rr) : FT Tryz.prog 242 #[vi width] [] (fun g : Value => i64ok rr.1.Width ∧ i64ok rr.2) (fun g => .tuple #[.agg #[vi rr.1.Width, g], vi rr.2]) (fun g => [sl g rr.1.Words]) := by
 refine FTi Tryz.func242 fun w0 M0 F0 => ?_
 unfold i64ok at hwidth_0
 refine KS ?_
 refine Oa (Al ze42 [vi 0, .slice none 0 0]) fun p1 => Oq Va (KS ?_)
 refine Oq Vm ?_
 refine letv (bitset_ranged width) fun rv2 hg3 => ?_
 have hc4 := fn200 width pre rv2 hg3
 refine Oc [] ca200 hc4 ?_
 rintro - -
 refine Oq Vnot (KS ?_)
 refine Kc ?_ ?_
 · intro h5
   have h7 := not_true h5
   refine KS ?_
   refine Oq (Vbd st42 [vi 0, .slice none 0 0]) (Ost (Scl [0] sh42 [vi 0, .slice none 0 0]) (Oq Va (KS ?_)))
   refine Jl [] (Ent.slNil (α := BitVec 64)) ?_
   have hq := q4 hrr ((GSet.mk 0 []), 3) (by simp only [bitset_Empty, h5, h7, hg3, cs4]); subst hq
   exact Kr (.slice none 0 0) rfl (.cellN 1 rfl sh42 rfl (reads_Cl _ _) rfl (.tmp rfl .nil)) [0] en
 intro h5
 have h10 := not_false h5
 have hrg := ranged_iff (w := width) (by simp only [h5, h10, hg3])
 refine KS ?_
 refine Oq Vm (Oq Vm ?_)
 refine letv (bitset_words width) fun rv12 hg13 => ?_
 have hc14 := fn201 width pre pre rv12 hg13
 refine Oc [] ca201 hc14 ?_
 rintro - ⟨he15, he16⟩
 unfold i64ok at he15
 refine Oa (Amk (α := BitVec 64) sl40 sz40 0#64 (fun _ _ => rfl)) fun c17 => ?_
 refine Jo 0 ?_; rintro a18 k19 rfl
 refine Fb 8 0 fun hl20 => ?_
 have hn21 := List.length_replicate (n := rv12.toNat) (a := 0#64)
 refine Oq (Vbd st42 [vi width, vl a18 k19 (List.replicate rv12.toNat 0#64)]) (Ost (Scl [1] sh42 [vi width, vl a18 k19 (List.replicate rv12.toNat 0#64)]) (Oq Va (KS ?_)))
 refine Jl [1] (Ent.freeze _ _) ?_
 have hq := q4 hrr ((GSet.mk width (List.replicate rv12.toNat 0#64)), 0) (by simp only [bitset_Empty, h5, h10, hg3, hg13, cs4]); subst hq
 exact Kr (vl a18 k19 (List.replicate rv12.toNat 0#64)) rfl (.cellN 1 rfl sh42 rfl (reads_Cl _ _) rfl (.tmp rfl .nil)) [0] en
theorem fn191 (width : Int) (n : Int) (hwidth_0 : i64ok width) (hn_0 : i64ok n) (hn0 : 0 ≤ n ∧ n ≤ 256 ∧ 0 ≤ width ∧ width ≤ 256) (rr : List GSet) (hrr : fixpoint_empty width n = rr) : FT Tryz.prog 191 #[vi width, vi n] [] (fun g : Value => True) (fun g => g) (fun g => [sl g rr]) := by
 refine FTi Tryz.func191 fun w0 M0 F0 => ?_
 unfold i64ok at hwidth_0 hn_0
 refine KS ?_
 refine Oq Va (KS ?_)
 refine Oq Vm (Oa (Amk (α := GSet) sl25 sz25 (default : GSet) zrd_GSet) fun c1 => ?_)
 refine Jo 0 ?_; rintro a2 k3 rfl
 refine Fb 32 0 fun hl4 => ?_
 have hn5 := List.length_replicate (n := n.toNat) (a := (default : GSet))
 refine Oq Va (KS ?_)
 refine Oq Vm (Oq (Vlen sl25) (Oq Vm (KS ?_)))
 refine Kl (γ := Nat × List GSet × Int) (fun (r6, out_7, v11_8) => ⟨[(0, vi width), (5, vl a2 k3 (List.replicate n.toNat (default : GSet))), (10, vi ((List.replicate n.toNat (default : GSet)).length : Int)), (11, vi v11_8)], [os (vl a2 k3 (List.replicate n.toNat (default : GSet))) out_7], fixpoint_empty_L0 width r6 out_7 v11_8 = fixpoint_empty_L0 width (((((List.replicate n.toNat (default : GSet)).length : Int) : Int) - 0).toNat) (List.replicate n.toNat (default : GSet)) 0 ∧ r6 = ((((List.replicate n.toNat (default : GSet)).length : Int) : Int) - v11_8).toNat ∧ (0 : Int) ≤ v11_8 ∧ (v11_8 ≤ ((List.replicate n.toNat (default : GSet)).length : Int) ∨ v11_8 = 0) ∧ (-9223372036854775808 ≤ v11_8 ∧ v11_8 ≤ 9223372036854775807) ∧ (out_7.length : Int) = n, r6⟩) (((((List.replicate n.toNat (default : GSet)).length : Int) : Int) - 0).toNat, (List.replicate n.toNat (default : GSet)), 0) [0] ⟨rfl, rfl, (by omega), (.inr rfl), (by omega), iv0⟩ ?_
 rintro ⟨r6, out_7, v11_8⟩ ⟨hM9, hr10, hi11, hi12, hk13, hv14⟩
 refine JJ_nx fun _ _ hL hA => ?_; dsimp only at hL hA; subst hL hA
 refine Fb 32 0 fun hl15 => ?_
 refine Fl 0 fun hn16 => ?_
 refine KS ?_
 refine Oq Vlss (KS ?_)
 refine Kc ?_ ?_
 · intro h17
   have g18 := of_decide_eq_true h17
   obtain ⟨r19, rfl⟩ := scc (n := r6) (by omega)
   refine KS ?_
   refine Oq Vm (Oq Va (KS ?_))
   refine Oq Vm (Oq Vm (Oq Vm ?_))
   refine letv (bitset_Empty width) fun rv21 hg22 => ?_
   have hc23 := fn242 width pre rv21 hg22
   refine Oc [] ca242 hc23 ?_
   rintro c20 ⟨he24, he25⟩
   unfold i64ok at he24 he25
   refine Jo 0 ?_; rintro a26 k27 rfl
   refine Fb 8 0 fun hl28 => ?_
   refine Oq Vm (Oq Vx (Oq Vx (Oq (Vi sl25 1) ?_)))
   refine Ost (So (Rs := [S a26 k27 rv21.1.Words]) [1, 0] sh42 rv21.1 (fun h => ⟨_, rfl, (by unfold i64ok; first | omega | (dsimp only; omega)), sepAll_get (i := 0) rfl h⟩)) (KS ?_)
   refine Oq Vadd (Oq Vm (KS ?_))
   exact Kg (r19, (out_7.set v11_8.toNat rv21.1), (v11_8 + 1)) [0] ⟨(q3 hM9 (by simp only [fixpoint_empty_L0, h17, hg22, cs4])), (by omega), (by omega), (by omega), (by omega), iv1⟩
 intro h17
 have g29 := of_decide_eq_false h17
 obtain rfl : r6 = 0 := by omega
 refine Ke ?_
 have hR30 := q2 hM9 out_7 (by simp only [fixpoint_empty_L0, h17, cs4])
 refine KS ?_
 refine Oq Vm (Oq Va (KS ?_))
 refine Jl [0] (Ent.freeze _ _) ?_
 have hq := q4 hrr out_7 (by simp only [fixpoint_empty, h17, hR30, cs4]); subst hq
 exact Kr (vl a2 k3 (List.replicate n.toNat (default : GSet))) rfl (.tmp rfl .nil) [0] trivial
theorem fn237 (s1 : List (BitVec 64)) (s1a0 : Option Addr) (s1k0 : Nat) (s2 : List (BitVec 64)) (s2a0 : Option Addr) (s2k0 : Nat) (rr : Bool) (hrr : slices_Equal_uint64 s1 s2 = rr) : FT Tryz.prog 237 #[vl s1a0 s1k0 s1, vl s2a0 s2k0 s2] [S s1a0 s1k0 s1, S s2a0 s2k0 s2] (fun g : Unit => True) (fun g => vb rr) (fun g => []) := by
 refine FTi Tryz.func237 fun w0 M0 F0 => ?_
 refine Fb 8 0 fun hl1 => ?_
 refine Fb 8 1 fun hl2 => ?_
 refine KS ?_
 refine Oq Va (KS ?_)
 refine Oq Vm (Oq (Vlen sl40) (Oq Vm (Oq (Vlen sl40) (Oq Vneq (KS ?_)))))
 refine Kc ?_ ?_
 · intro h3
   have g4 := ne_of_bne h3
   refine KS ?_
   refine Oq Va (KS ?_)
   have hq := q4 hrr false (by simp only [slices_Equal_uint64, h3, cs4]); subst hq
   exact Kr () rfl (.tmp rfl .nil) [] trivial
 intro h3
 have g5 := eq_of_bne_false h3
 refine KS ?_
 refine Oq Vm (Oq (Vlen sl40) (Oq Vm (KS ?_)))
 refine Kl (γ := Nat × Int) (fun (r6, v13_7) => ⟨[(0, vl s1a0 s1k0 s1), (1, vl s2a0 s2k0 s2), (12, vi (s1.length : Int)), (13, vi v13_7)], [S s1a0 s1k0 s1, S s2a0 s2k0 s2], slices_Equal_uint64_L0 s1 s2 r6 v13_7 = slices_Equal_uint64_L0 s1 s2 (((s1.length : Int) - 0).toNat) 0 ∧ r6 = ((s1.length : Int) - v13_7).toNat ∧ (0 : Int) ≤ v13_7 ∧ v13_7 ≤ (s1.length : Int) ∧ (-9223372036854775808 ≤ v13_7 ∧ v13_7 ≤ 9223372036854775807), r6⟩) (((s1.length : Int) - 0).toNat, 0) [0, 1] ⟨rfl, rfl, (by omega), (by omega), (by omega)⟩ ?_
 rintro ⟨r6, v13_7⟩ ⟨hM8, hr9, hi10, hi11, hk12⟩
 refine JJ_nx fun _ _ hL hA => ?_; dsimp only at hL hA; subst hL hA
 refine Fb 8 0 fun hl13 => ?_
 refine Fb 8 1 fun hl14 => ?_
 refine KS ?_
 refine Oq Vlss (KS ?_)
 refine Kc ?_ ?_
 · intro h15
   have g16 := of_decide_eq_true h15
   obtain ⟨r17, rfl⟩ := scc (n := r6) (by omega)
   refine KS ?_
   refine Oq Vm (Oq Va (KS ?_))
   refine Kq [0, 0, 3, 7, 0, 0, 48, 112, 255] fmix ?_
   refine Qv [] Vm (Qv [] Vm (Qv [0] (Vi sl40 0) (Qv [0] (VldU sh122 0) (Qv [] Vm (Qv [] Vm (Qv [1] (Vi sl40 0) (Qv [1] (VldU sh122 0) (Qv [] VneqU ?_))))))))
   refine Qn ⟨by kernel_rfl, ?_⟩
   refine Kc ?_ ?_
   · intro h18
     have g19 := ne_of_bne h18
     refine KS ?_
     refine Oq Va (KS ?_)
     have hR20 := q2 hM8 (.ret false) (by simp only [slices_Equal_uint64_L0, h3, h15, h18, cs4])
     have hq := q4 hrr false (by simp only [slices_Equal_uint64, h3, h15, h18, hR20, cs4]); subst hq
     exact Kr () rfl (.tmp rfl .nil) [] trivial
   intro h18
   have g21 := eq_of_bne_false h18
   refine KS ?_
   refine Oq Vadd (Oq Vm (KS ?_))
   exact Kg (r17, (v13_7 + 1)) [0, 1] ⟨(q3 hM8 (by simp only [slices_Equal_uint64_L0, h3, h15, h18, cs4])), (by omega), (by omega), (by omega), (by omega)⟩
 intro h15
 have g22 := of_decide_eq_false h15
 obtain rfl : r6 = 0 := by omega
 refine Ke ?_
 have hR23 := q2 hM8 (.brk ()) (by simp only [slices_Equal_uint64_L0, h3, h15, cs4])
 refine KS ?_
 refine Oq Va (KS ?_)
 have hq := q4 hrr true (by simp only [slices_Equal_uint64, h3, h15, hR23, cs4]); subst hq
 exact Kr () rfl (.tmp rfl .nil) [] trivial
theorem fn181 (a : GSet) (aa1 : Option Addr) (ak1 : Nat) (b : GSet) (ba1 : Option Addr) (bk1 : Nat) (ha_0 : i64ok a.Width) (hb_0 : i64ok b.Width) (rr : Bool) (hrr : bitset_Equal a b = rr) : FT Tryz.prog 181 #[.agg #[vi a.Width, vl aa1 ak1 a.Words], .agg #[vi b.Width, vl ba1 bk1 b.Words]] [S aa1 ak1 a.Words, S ba1 bk1 b.Words] (fun g : Unit => True) (fun g => vb rr) (fun g => []) := by
 refine FTi Tryz.func181 fun w0 M0 F0 => ?_
 unfold i64ok at ha_0 hb_0
 refine Fb 8 0 fun hl1 => ?_
 refine Fb 8 1 fun hl2 => ?_
 refine KS ?_
 refine Oa (Ab [vi a.Width, vl aa1 ak1 a.Words]) fun p3 => Oa (Ab [vi b.Width, vl ba1 bk1 b.Words]) fun p4 => Oq Va (KS ?_)
 refine Oq (VldA sh42 1) ?_
 refine letv (bitset_Valid a) fun rv5 hg6 => ?_
 have hc7 := fn123 a aa1 ak1 pre rv5 hg6
 refine Oc [2] ca123 hc7 ?_
 rintro - -
 refine Oq Vm ?_
 refine Js 7 ?_ ?_
 · intro h8
   refine Oq (VldA sh42 0) ?_
   refine letv (bitset_Valid b) fun rv10 hg11 => ?_
   have hc12 := fn123 b ba1 bk1 pre rv10 hg11
   refine Oc [3] ca123 hc12 ?_
   rintro - -
   refine Oq Vpt (Oq Vm ?_)
   refine Js 11 ?_ ?_
   · intro h13
     refine Oq (Vfa fo42_0 1) (Oq (VldF sh3 1) (Oq (Vfa fo42_0 0) (Oq (VldF sh3 0) (Oq Veql (Oq Vpt (Oq Vm ?_))))))
     refine Js 18 ?_ ?_
     · intro h15
       have g16 := eq_of_beq h15
       refine Oq (Vfa fo42_1 1) (Oq (VldF sh40 1) (Oq (Vfa fo42_1 0) (Oq (VldF sh40 0) ?_)))
       refine letv (slices_Equal_uint64 a.Words b.Words) fun rv17 hg18 => ?_
       have hc19 := fn237 a.Words aa1 ak1 b.Words ba1 bk1 rv17 hg18
       refine Oc [2, 3] ca237 hc19 ?_
       rintro - -
       refine Oq Vpt (Oq Va (KS ?_))
       have hq := q4 hrr rv17 (by simp only [bitset_Equal, h8, h13, h15, hg6, hg11, hg18, cs4]); subst hq
       exact Kr () rfl (.tmp rfl .nil) [] trivial
     intro h15
     have g20 := ne_of_beq_false h15
     refine Osk (Osk (Osk (Osk (Osk (Oq Vpf (Oq Va (KS ?_)))))))
     have hq := q4 hrr false (by simp only [bitset_Equal, h8, h13, h15, hg6, hg11, cs4]); subst hq
     exact Kr () rfl (.tmp rfl .nil) [] trivial
   intro h13
   refine Osk (Osk (Osk (Osk (Osk (Oq Vpf (Oq Vm (Osk (Osk (Osk ?_)))))))))
   refine Osk (Osk (Oq Vpf (Oq Va (KS ?_))))
   have hq := q4 hrr false (by simp only [bitset_Equal, h8, h13, hg6, hg11, cs4]); subst hq
   exact Kr () rfl (.tmp rfl .nil) [] trivial
 intro h8
 refine Osk (Osk (Oq Vpf (Oq Vm (Osk (Osk (Osk (Osk (Osk (Oq Vpf ?_)))))))))
 refine Oq Vm (Osk (Osk (Osk (Osk (Osk (Oq Vpf (Oq Va (KS ?_))))))))
 have hq := q4 hrr false (by simp only [bitset_Equal, h8, hg6, cs4]); subst hq
 exact Kr () rfl (.tmp rfl .nil) [] trivial
theorem fn243 (s1 : List GSet) (s1a0 : Option Addr) (s1k0 : Nat) (s2 : List GSet) (s2a0 : Option Addr) (s2k0 : Nat) (eqF : FuncId) (eqC : List Value) (eqp : GSet → GSet → Bool) (eqA : List SP) (heqc : callable Tryz.prog eqF = true) (heqF : ∀ x0 x1, ∀ (a0 : Option Addr) (k0 : Nat) (a2 : Option Addr) (k2 : Nat), i64ok x0.Width → i64ok x1.Width → FT Tryz.prog eqF ([(.agg #[vi x0.Width, vl a0 k0 x0.Words] : Value), (.agg #[vi x1.Width, vl a2 k2 x1.Words] : Value)] ++ eqC).toArray ([S a0 k0 x0.Words, S a2 k2 x1.Words] ++ [pAll eqA]) (fun _ : Unit => True) (fun _ => vb (eqp x0 x1)) (fun _ => [])) (rr : Bool) (hrr : slices_EqualFunc_Set s1 s2 eqp = rr) : FT Tryz.prog 243 #[vl s1a0 s1k0 s1, vl s2a0 s2k0 s2, .func (.func eqF) #[] eqC.toArray] [S s1a0 s1k0 s1, S s2a0 s2k0 s2, pAll eqA] (fun g : Unit => True) (fun g => vb rr) (fun g => []) := by
 refine FTi Tryz.func243 fun w0 M0 F0 => ?_
 refine Fb 32 0 fun hl1 => ?_
 refine Fb 32 1 fun hl2 => ?_
 refine KS ?_
 refine Oq Va (KS ?_)
 refine Oq Vm (Oq (Vlen sl25) (Oq Vm (Oq (Vlen sl25) (Oq Vneq (KS ?_)))))
 refine Kc ?_ ?_
 · intro h3
   have g4 := ne_of_bne h3
   refine KS ?_
   refine Oq Va (KS ?_)
   have hq := q4 hrr false (by simp only [slices_EqualFunc_Set, h3, cs4]); subst hq
   exact Kr () rfl (.tmp rfl .nil) [] trivial
 intro h3
 have g5 := eq_of_bne_false h3
 refine KS ?_
 refine Oq Vm (Oq (Vlen sl25) (Oq Vm (KS ?_)))
 refine Kl (γ := Nat × Int) (fun (r6, v17_7) => ⟨[(1, vl s2a0 s2k0 s2), (2, .func (.func eqF) #[] eqC.toArray), (15, vl s1a0 s1k0 s1), (16, vi (s1.length : Int)), (17, vi v17_7)], [S s1a0 s1k0 s1, S s2a0 s2k0 s2, pAll eqA], slices_EqualFunc_Set_L0 s1 s2 eqp r6 v17_7 = slices_EqualFunc_Set_L0 s1 s2 eqp (((s1.length : Int) - 0).toNat) 0 ∧ r6 = ((s1.length : Int) - v17_7).toNat ∧ (0 : Int) ≤ v17_7 ∧ v17_7 ≤ (s1.length : Int) ∧ (-9223372036854775808 ≤ v17_7 ∧ v17_7 ≤ 9223372036854775807), r6⟩) (((s1.length : Int) - 0).toNat, 0) [0, 1, 2] ⟨rfl, rfl, (by omega), (by omega), (by omega)⟩ ?_
 rintro ⟨r6, v17_7⟩ ⟨hM8, hr9, hi10, hi11, hk12⟩
 refine JJ_nx fun _ _ hL hA => ?_; dsimp only at hL hA; subst hL hA
 refine Fb 32 0 fun hl13 => ?_
 refine Fb 32 1 fun hl14 => ?_
 refine KS ?_
 refine Oq Vlss (KS ?_)
 refine Kc ?_ ?_
 · intro h15
   have g16 := of_decide_eq_true h15
   obtain ⟨r17, rfl⟩ := scc (n := r6) (by omega)
   refine KS ?_
   refine Oq Vm (Oq (Vi sl25 0) ?_)
   refine JJ_peek_GSet v17_7.toNat 0 rfl rng fun a18 k19 hb20 => ?_
   unfold i64ok at hb20
   refine Fb 8 1 fun hl21 => ?_
   refine Oq (VldA sh42 0) (Oa (Al ze42 [vi 0, .slice none 0 0]) fun p22 => Oq Va (Ost (Scl [0] sh42 [vi ((s1.getD v17_7.toNat default).Width), vl a18 k19 ((s1.getD v17_7.toNat default).Words)]) (KS ?_)))
   refine Oq Vm (Oq Vm (Oq (Vi sl25 4) ?_))
   refine JJ_peek_GSet v17_7.toNat 4 rfl rng fun a23 k24 hb25 => ?_
   unfold i64ok at hb25
   refine Fb 8 1 fun hl26 => ?_
   refine Oq (VldA sh42 0) (Oa (Al ze42 [vi 0, .slice none 0 0]) fun p27 => Ost (Scl [0] sh42 [vi ((s2.getD v17_7.toNat default).Width), vl a23 k24 ((s2.getD v17_7.toNat default).Words)]) (KS ?_))
   refine Oq Vm (Oq (VldA sh42 3) (Oq (VldA sh42 0) ?_))
   refine JO_call [5, 2, 8] rfl rfl rfl (OpC.clo («as» := [(.agg #[vi ((s1.getD v17_7.toNat default).Width), vl a18 k19 ((s1.getD v17_7.toNat default).Words)] : Value), (.agg #[vi ((s2.getD v17_7.toNat default).Width), vl a23 k24 ((s2.getD v17_7.toNat default).Words)] : Value)] ++ eqC) rfl rfl heqc rfl (by simp)) (heqF (s1.getD v17_7.toNat default) (s2.getD v17_7.toNat default) a18 k19 a23 k24 pre pre) rfl fun _ _ => ?_
   refine Oq Vnot (KS ?_)
   refine Kc ?_ ?_
   · intro h29
     have h31 := not_true h29
     refine KS ?_
     refine Oq Va (KS ?_)
     have hR33 := q2 hM8 (.ret false) (by simp only [slices_EqualFunc_Set_L0, h3, h15, h29, h31, cs4])
     have hq := q4 hrr false (by simp only [slices_EqualFunc_Set, h3, h15, h29, h31, hR33, cs4]); subst hq
     exact Kr () rfl (.tmp rfl .nil) [] trivial
   intro h29
   have h35 := not_false h29
   refine KS ?_
   refine Oq Vadd (Oq Vm (KS ?_))
   exact Kg (r17, (v17_7 + 1)) [6, 7, 8] ⟨(q3 hM8 (by simp only [slices_EqualFunc_Set_L0, h3, h15, h29, h35, cs4])), (by omega), (by omega), (by omega), (by omega)⟩
 intro h15
 have g37 := of_decide_eq_false h15
 obtain rfl : r6 = 0 := by omega
 refine Ke ?_
 have hR38 := q2 hM8 (.brk ()) (by simp only [slices_EqualFunc_Set_L0, h3, h15, cs4])
 refine KS ?_
 refine Oq Va (KS ?_)
 have hq := q4 hrr true (by simp only [slices_EqualFunc_Set, h3, h15, hR38, cs4]); subst hq
 exact Kr () rfl (.tmp rfl .nil) [] trivial
theorem fn192 (a : List GSet) (aa0 : Option Addr) (ak0 : Nat) (b : List GSet) (ba0 : Option Addr) (bk0 : Nat) (rr : Bool) (hrr : fixpoint_equal a b = rr) : FT Tryz.prog 192 #[vl aa0 ak0 a, vl ba0 bk0 b] [S aa0 ak0 a, S ba0 bk0 b] (fun g : Unit => True) (fun g => vb rr) (fun g => []) := by
 refine FTi Tryz.func192 fun w0 M0 F0 => ?_
 refine Fb 32 0 fun hl1 => ?_
 refine Fb 32 1 fun hl2 => ?_
 refine KS ?_
 refine Oq Va (KS ?_)
 refine Oq Vm (Oq Vm ?_)
 refine JJ_ent (Ent.pall [] rfl rfl) ?_
 refine letv (slices_EqualFunc_Set a b (fun x0 x1 => bitset_Equal x0 x1)) fun rv3 hg4 => ?_
 have hc5 := fn243 a aa0 ak0 b ba0 bk0 181 [] (fun x0 x1 => bitset_Equal x0 x1) [] ca181 (fun x0 x1 a0 k0 a2 k2 hq0 hq1 => FT_pall (A1 := _) (fn181 x0 a0 k0 x1 a2 k2  hq0 hq1 _ rfl)) rv3 hg4
 refine Oc [1, 2, 0] ca243 hc5 ?_
 rintro - -
 refine Oq Va (KS ?_)
 have hq := q4 hrr rv3 (by simp only [fixpoint_equal, hg4, cs4]); subst hq
 exact Kr () rfl (.tmp rfl .nil) [] trivial
theorem fn110 (width : Int) (n : Int) (stepF : FuncId) (stepC : List Value) (stepp : (List GSet) → (List GSet)) (stepA : List SP) (hwidth_0 : i64ok width) (hn_0 : i64ok n) (hstepc : callable Tryz.prog stepF = true) (hstepF : ∀ x0, ∀ (a0 : Option Addr) (k0 : Nat), FT Tryz.prog stepF ([(vl a0 k0 x0 : Value)] ++ stepC).toArray ([S a0 k0 x0] ++ [pAll stepA]) (fun g : Value => True) (fun g => g) (fun g => [sl g (stepp x0)])) (hw0 : 0 ≤ width ∧ width ≤ 256 ∧ 0 ≤ n ∧ n ≤ 256) (hst : RoundsOk width n stepp) (rr : List GSet × Int) (hrr : fixpoint_rounds width n stepp = rr) : FT Tryz.prog 110 #[vi width, vi n, .func (.func stepF) #[] stepC.toArray] [pAll stepA] (fun g : Value => i64ok rr.2) (fun g => .tuple #[g, vi rr.2]) (fun g => [sl g rr.1]) := by
 refine FTi Tryz.func110 fun w0 M0 F0 => ?_
 unfold i64ok at hwidth_0 hn_0
 have hbb : n.toNat * width.toNat ≤ 256 * 256 := Nat.mul_le_mul (by omega) (by omega)
 refine KS ?_
 refine Oq Va (Oq Va (KS ?_))
 refine Oq Vm (Oq Vm ?_)
 refine letv (fixpoint_empty width n) fun rv2 hg3 => ?_
 have hc4 := fn191 width n pre pre pre rv2 hg3
 refine Oc [] ca191 hc4 ?_
 rintro c1 -
 refine Jo 0 ?_; rintro a5 k6 rfl
 refine Fb 32 0 fun hl7 => ?_
 refine Oq Va (KS ?_)
 refine Oq Vm (Oq Vm ?_)
 refine JO_call [0, 1] rfl rfl rfl (OpC.clo («as» := [(vl a5 k6 rv2 : Value)] ++ stepC) rfl rfl hstepc rfl (by simp)) (hstepF rv2 a5 k6 ) rfl fun c9 _ => ?_
 refine Jo 0 ?_; rintro a10 k11 rfl
 refine Fb 32 0 fun hl12 => ?_
 refine Oq Va (KS ?_)
 refine Oq Va (KS ?_)
 have hterm24 : fixpoint_rounds_L0 stepp (n.toNat * width.toNat + 2) rv2 (stepp rv2) 0 ≠ LR.oof := (by have h := hst; unfold RoundsOk at h; simp only [hg3] at h; exact h)
 refine Kl (γ := Nat × List GSet × List GSet × Int × Option Addr × Nat × Option Addr × Nat) (fun (r13, now_14, next_15, round_16, a17, k18, a19, k20) => ⟨[(2, .func (.func stepF) #[] stepC.toArray), (8, vl a17 k18 now_14), (9, vl a19 k20 next_15), (10, vi round_16)], [S a19 k20 next_15, S a17 k18 now_14, pAll stepA], fixpoint_rounds_L0 stepp r13 now_14 next_15 round_16 = fixpoint_rounds_L0 stepp (n.toNat * width.toNat + 2) rv2 (stepp rv2) 0 ∧ (-9223372036854775808 ≤ round_16 ∧ round_16 ≤ 9223372036854775807) ∧ 0 ≤ round_16 ∧ round_16 + (r13 : Int) = ((n.toNat * width.toNat + 2 : Nat) : Int), r13⟩) ((n.toNat * width.toNat + 2), rv2, (stepp rv2), 0, a5, k6, a10, k11) [0, 1, 2] ⟨rfl, (by omega), iv0⟩ ?_
 rintro ⟨r13, now_14, next_15, round_16, a17, k18, a19, k20⟩ ⟨hM21, hk22, hv23⟩
 refine JJ_nx fun _ _ hL hA => ?_; dsimp only at hL hA; subst hL hA
 refine Fb 32 0 fun hl25 => ?_
 refine Fb 32 1 fun hl26 => ?_
 rcases r13 with _ | r13
 · exact absurd (hM21.symm.trans rfl) hterm24
 refine KS ?_
 refine Oq Vm (Oq Vm ?_)
 refine letv (fixpoint_equal now_14 next_15) fun rv27 hg28 => ?_
 have hc29 := fn192 now_14 a17 k18 next_15 a19 k20 rv27 hg28
 refine Oc [1, 0] ca192 hc29 ?_
 rintro - -
 refine Oq Vnot (KS ?_)
 refine Kc ?_ ?_
 · intro h30
   have h32 := not_true h30
   refine KS ?_
   refine Oq Vm (Oq Vm (Oq Vm ?_))
   refine JO_call [0, 2] rfl rfl rfl (OpC.clo («as» := [(vl a19 k20 next_15 : Value)] ++ stepC) rfl rfl hstepc rfl (by simp)) (hstepF next_15 a19 k20 ) rfl fun c35 _ => ?_
   refine Jo 0 ?_; rintro a36 k37 rfl
   refine Fb 32 0 fun hl38 => ?_
   refine Oq Vm (Oq Vadd (Oq Va (Oq Va (Oq Va (KS ?_)))))
   exact Kg (r13, next_15, (stepp next_15), (round_16 + 1), a19, k20, a36, k37) [0, 1, 3] ⟨(q3 hM21 (by simp only [fixpoint_rounds_L0, h30, h32, hg3, hg28, cs4])), (by omega), iv1⟩
 intro h30
 have h40 := not_false h30
 refine Ke ?_
 have hR42 := q2 hM21 (.brk (now_14, round_16)) (by simp only [fixpoint_rounds_L0, h30, h40, hg3, hg28, cs4])
 refine KS ?_
 refine Oq Vm (Oq Vm (Oq Va (Oq Va (KS ?_))))
 have hq := q4 hrr (now_14, round_16) (by simp only [fixpoint_rounds, h30, h40, hg3, hg28, hR42, cs4]); subst hq
 exact Kr (vl a17 k18 now_14) rfl (.tmp rfl (.tmp rfl .nil)) [1] en
theorem fn160 (s : GSet) (sa1 : Option Addr) (sk1 : Nat) (b : Int) (hs_0 : i64ok s.Width) (hb_0 : i64ok b) (rr : Bool) (hrr : bitset_within s b = rr) : FT Tryz.prog 160 #[.agg #[vi s.Width, vl sa1 sk1 s.Words], vi b] [S sa1 sk1 s.Words] (fun g : Unit => True) (fun g => vb rr) (fun g => []) := by
 refine FTi Tryz.func160 fun w0 M0 F0 => ?_
 unfold i64ok at hs_0 hb_0
 refine Fb 8 0 fun hl1 => ?_
 refine KS ?_
 refine Oa (Ab [vi s.Width, vl sa1 sk1 s.Words]) fun p2 => Oq Va (KS ?_)
 refine Oq Vm (Oq Vgeq (Oq Vm ?_))
 refine Js 7 ?_ ?_
 · intro h3
   have g4 := of_decide_eq_true h3
   refine Oq Vm (Oq (Vfa fo42_0 0) (Oq (VldF sh3 0) (Oq Vlss (Oq Vpt (Oq Va (KS ?_))))))
   have hq := q4 hrr (decide (b < s.Width)) (by simp only [bitset_within, h3, cs4]); subst hq
   exact Kr () rfl (.tmp rfl .nil) [] trivial
 intro h3
 have g5 := of_decide_eq_false h3
 refine Osk (Osk (Osk (Osk (Oq Vpf (Oq Va (KS ?_))))))
 have hq := q4 hrr false (by simp only [bitset_within, h3, cs4]); subst hq
 exact Kr () rfl (.tmp rfl .nil) [] trivial
theorem fn85 (s : GSet) (sa1 : Option Addr) (sk1 : Nat) (b : Int) (hs_0 : i64ok s.Width) (hb_0 : i64ok b) (rr : Bool) (hrr : bitset_Has s b = rr) : FT Tryz.prog 85 #[.agg #[vi s.Width, vl sa1 sk1 s.Words], vi b] [S sa1 sk1 s.Words] (fun g : Unit => True) (fun g => vb rr) (fun g => []) := by
 refine FTi Tryz.func85 fun w0 M0 F0 => ?_
 unfold i64ok at hs_0 hb_0
 refine Fb 8 0 fun hl1 => ?_
 refine KS ?_
 refine Oa (Ab [vi s.Width, vl sa1 sk1 s.Words]) fun p2 => Oq Va (KS ?_)
 refine Oq (VldA sh42 0) ?_
 refine letv (bitset_Valid s) fun rv3 hg4 => ?_
 have hc5 := fn123 s sa1 sk1 pre rv3 hg4
 refine Oc [1] ca123 hc5 ?_
 rintro - -
 refine Oq Vm ?_
 refine Js 7 ?_ ?_
 · intro h6
   try have hrg := PV_w (s := s) (by simp only [h6, hg4])
   try have hwi := within_iff (s := s) (b := b) (by simp only [h6, hg4])
   refine Oq (VldA sh42 0) (Oq Vm ?_)
   refine letv (bitset_within s b) fun rv8 hg9 => ?_
   have hc10 := fn160 s sa1 sk1 b pre pre rv8 hg9
   refine Oc [1] ca160 hc10 ?_
   rintro - -
   refine Oq Vpt (Oq Vm ?_)
   refine Js 12 ?_ ?_
   · intro h11
     try have hrg := PV_w (s := s) (by simp only [h6, h11, hg4, hg9])
     try have hwi := within_iff (s := s) (b := b) (by simp only [h6, h11, hg4, hg9])
     refine Oq (Vfa fo42_1 0) (Oq (VldF sh40 0) (Oq Vm (Oq Vquo (Oq (Vi sl40 1) (Oq (VldU sh122 1) (Oq Vm (Oq (VcU un3 un123) (Oq (VremU (b := 64#64) (by simp)) (Oq VshrU ?_)))))))))
     refine Oq (VandU (b := 1#64)) (Oq (VeqlU (b := 1#64)) (Oq Vpt (Oq Va (KS ?_))))
     have hq := q4 hrr ((((s.Words.getD ((b / 64) : Int).toNat 0#64) >>> ((((BitVec.ofInt 64 b) % 64#64).toNat : Int)).toNat) &&& 1#64) == 1#64) (by simp only [bitset_Has, h6, h11, hg4, hg9, cs4]); subst hq
     exact Kr () rfl (.tmp rfl .nil) [] trivial
   intro h11
   refine Osk (Osk (Osk (Osk (Osk (Osk (Osk (Osk (Osk (Osk ?_)))))))))
   refine Osk (Osk (Oq Vpf (Oq Va (KS ?_))))
   have hq := q4 hrr false (by simp only [bitset_Has, h6, h11, hg4, hg9, cs4]); subst hq
   exact Kr () rfl (.tmp rfl .nil) [] trivial
 intro h6
 refine Osk (Osk (Osk (Oq Vpf (Oq Vm (Osk (Osk (Osk (Osk (Osk ?_)))))))))
 refine Osk (Osk (Osk (Osk (Osk (Osk (Osk (Oq Vpf (Oq Va (KS ?_)))))))))
 have hq := q4 hrr false (by simp only [bitset_Has, h6, hg4, cs4]); subst hq
 exact Kr () rfl (.tmp rfl .nil) [] trivial
theorem fn235 (a : GSet) (aa1 : Option Addr) (ak1 : Nat) (b : GSet) (ba1 : Option Addr) (bk1 : Nat) (combineF : FuncId) (combineC : List Value) (combinep : (BitVec 64) → (BitVec 64) → (BitVec 64)) (combineA : List SP) (ha_0 : i64ok a.Width) (hb_0 : i64ok b.Width) (hcombinec : callable Tryz.prog combineF = true) (hcombineF : ∀ x0 x1, FT Tryz.prog combineF ([u64 x0, u64 x1] ++ combineC).toArray ([] ++ [pAll combineA]) (fun _ : Unit => True) (fun _ => u64 (combinep x0 x1)) (fun _ => [])) (rr : GSet × Int) (hrr : bitset_merge a b combinep = rr) : FT Tryz.prog 235 #[.agg #[vi a.Width, vl aa1 ak1 a.Words], .agg #[vi b.Width, vl ba1 bk1 b.Words], .func (.func combineF) #[] combineC.toArray] [S aa1 ak1 a.Words, S ba1 bk1 b.Words, pAll combineA] (fun g : Value => i64ok rr.1.Width ∧ i64ok rr.2) (fun g => .tuple #[.agg #[vi rr.1.Width, g], vi rr.2]) (fun g => [sl g rr.1.Words]) := by
 refine FTi Tryz.func235 fun w0 M0 F0 => ?_
 unfold i64ok at ha_0 hb_0
 refine Fb 8 0 fun hl1 => ?_
 refine Fb 8 1 fun hl2 => ?_
 refine KS ?_
 refine Oa (Ab [vi a.Width, vl aa1 ak1 a.Words]) fun p3 => Oa (Ab [vi b.Width, vl ba1 bk1 b.Words]) fun p4 => Oa (Al ze42 [vi 0, .slice none 0 0]) fun p5 => Oq Va (KS ?_)
 refine Oq (VldA sh42 2) ?_
 refine letv (bitset_Valid a) fun rv6 hg7 => ?_
 have hc8 := fn123 a aa1 ak1 pre rv6 hg7
 refine Oc [3] ca123 hc8 ?_
 rintro - -
 refine Oq Vnot (Oq Vm ?_)
 refine Js 14 ?_ ?_
 · intro h9
   have h11 := not_true h9
   refine Osk (Osk (Osk (Oq Vpt (Oq Va (KS ?_)))))
   refine Kt ?_
   refine KS ?_
   refine Oq (Vbd st42 [vi 0, .slice none 0 0]) (Ost (Scl [0] sh42 [vi 0, .slice none 0 0]) (Oq Va (KS ?_)))
   refine Jl [] (Ent.slNil (α := BitVec 64)) ?_
   have hq := q4 hrr ((GSet.mk 0 []), 1) (by simp only [bitset_merge, h9, h11, hg7, cs4]); subst hq
   exact Kr (.slice none 0 0) rfl (.cellN 1 rfl sh42 rfl (reads_Cl _ _) rfl (.tmp rfl .nil)) [0] en
 intro h9
 have h14 := not_false h9
 try have hra := PV_w (s := a) (by simp only [h9, h14, hg7])
 try have hrb := PV_w (s := b) (by simp only [h9, h14, hg7])
 refine Oq (VldA sh42 1) ?_
 refine letv (bitset_Valid b) fun rv16 hg17 => ?_
 have hc18 := fn123 b ba1 bk1 pre rv16 hg17
 refine Oc [4] ca123 hc18 ?_
 rintro - -
 refine Oq Vnot (Oq Vpf (Oq Va (KS ?_)))
 refine Kc ?_ ?_
 · intro h19
   have h21 := not_true h19
   refine KS ?_
   refine Oq (Vbd st42 [vi 0, .slice none 0 0]) (Ost (Scl [0] sh42 [vi 0, .slice none 0 0]) (Oq Va (KS ?_)))
   refine Jl [] (Ent.slNil (α := BitVec 64)) ?_
   have hq := q4 hrr ((GSet.mk 0 []), 1) (by simp only [bitset_merge, h9, h14, h19, h21, hg7, hg17, cs4]); subst hq
   exact Kr (.slice none 0 0) rfl (.cellN 1 rfl sh42 rfl (reads_Cl _ _) rfl (.tmp rfl .nil)) [0] en
 intro h19
 have h24 := not_false h19
 try have hra := PV_w (s := a) (by simp only [h9, h14, h19, h24, hg7, hg17])
 try have hrb := PV_w (s := b) (by simp only [h9, h14, h19, h24, hg7, hg17])
 refine KS ?_
 refine Oq (Vfa fo42_0 2) (Oq (VldF sh3 2) (Oq (Vfa fo42_0 1) (Oq (VldF sh3 1) (Oq Vneq (Oq Va (KS ?_))))))
 refine Kc ?_ ?_
 · intro h26
   have g27 := ne_of_bne h26
   refine KS ?_
   refine Oq (Vbd st42 [vi 0, .slice none 0 0]) (Ost (Scl [0] sh42 [vi 0, .slice none 0 0]) (Oq Va (KS ?_)))
   refine Jl [] (Ent.slNil (α := BitVec 64)) ?_
   have hq := q4 hrr ((GSet.mk 0 []), 2) (by simp only [bitset_merge, h9, h14, h19, h24, h26, hg7, hg17, cs4]); subst hq
   exact Kr (.slice none 0 0) rfl (.cellN 1 rfl sh42 rfl (reads_Cl _ _) rfl (.tmp rfl .nil)) [0] en
 intro h26
 have g28 := eq_of_bne_false h26
 refine KS ?_
 refine JK_drawK [0, 1, 0, 4, 12, 28, 63, 0, 255] fmix ?_
 refine Dv [2] (Vfa fo42_0 0) (Dv [2] (VldF sh3 0) (Dv [2] (Vfa fo42_1 0) (Dv [2] (VldF sh40 0) (Dv [] (Vlen sl40) ?_))))
 have hn30 := List.length_replicate (n := (a.Words.length : Int).toNat) (a := 0#64)
 refine Dx [] [] [0] (fun G => (G.g 5 0)) [fun G => os (G.g 5 0) ((List.replicate (a.Words.length : Int).toNat 0#64) : List (BitVec 64))] (fun G => xA (Amk (α := BitVec 64) sl40 sz40 0#64 (fun _ _ => rfl))) ?_
 refine Dx [6] [] [0] (fun G => .agg #[vi a.Width, (G.g 5 0)]) [] (fun G => xV (v := .agg #[vi a.Width, (G.g 5 0)]) (Vo 0 rfl (isO_os _ _) fun aq31 kq32 eq33 => (by rw [eq33]; exact Vbd st42 [vi a.Width, .slice aq31 (((List.replicate (a.Words.length : Int).toNat 0#64) : List (BitVec 64)).length) kq32]))) (Dx [] [] [0] (fun G => (G.g 7 0)) [fun G => Cl (G.g 7 0) [vi 0, .slice none 0 0]] (fun G => xA (Al ze42 [vi 0, .slice none 0 0])) (Dx0 [6, 7] [7] [1, 0] [fun G => Cl (G.g 7 0) [vi a.Width, (G.g 5 0)]] (fun G => x1 0 rfl os_one fun ho35 => (xS (Scl [1] sh42 [vi a.Width, (G.g 5 0)] (v := .agg #[vi a.Width, (G.g 5 0)]) (h1 := show [vi a.Width, (G.g 5 0)].all (·.oneCell') = true from (by simp only [List.all_cons, List.all_nil, ho35, Bool.and_true, Bool.true_and] <;> rfl))))) ?_))
 refine Dn ⟨by kernel_rfl, fun G => ?_⟩
 refine Jw2 [(2, .func (.func combineF) #[] combineC.toArray), (3, p3), (4, p4), (6, p5), (8, (G.g 7 0))] [0, 1, 2, 3, 4, 5] [os (G.g 5 0) ((List.replicate (a.Words.length : Int).toNat 0#64) : List (BitVec 64)), Cl (G.g 7 0) [vi a.Width, (G.g 5 0)]] ?_
 generalize G.g 5 0 = c29, G.g 7 0 = p34
 refine Jo 6 ?_; rintro a36 k37 rfl
 refine Fb 8 6 fun hl38 => ?_
 refine KS ?_
 refine Oq (Vfa fo42_1 7) (Oq (VldF sh40 7) (Oq (Vlen sl40) (Oq Vm (KS ?_))))
 refine Kl (γ := Nat × List (BitVec 64) × Int) (fun (r39, out1_40, v37_41) => ⟨[(2, .func (.func combineF) #[] combineC.toArray), (3, p3), (4, p4), (6, p5), (8, p34), (36, vi (((List.replicate (a.Words.length : Int).toNat 0#64).length : Nat) : Int)), (37, vi v37_41)], [Cl p5 [vi 0, .slice none 0 0], pv p4 [vi b.Width, vl ba1 bk1 b.Words], pv p3 [vi a.Width, vl aa1 ak1 a.Words], S aa1 ak1 a.Words, S ba1 bk1 b.Words, pAll combineA, os (vl a36 k37 (List.replicate (a.Words.length : Int).toNat 0#64)) out1_40, Cl p34 [vi a.Width, vl a36 k37 (List.replicate (a.Words.length : Int).toNat 0#64)]], bitset_merge_L0 a b combinep r39 out1_40 v37_41 = bitset_merge_L0 a b combinep ((((((List.replicate (a.Words.length : Int).toNat 0#64).length : Nat) : Int) : Int) - 0).toNat) (List.replicate (a.Words.length : Int).toNat 0#64) 0 ∧ r39 = (((((List.replicate (a.Words.length : Int).toNat 0#64).length : Nat) : Int) : Int) - v37_41).toNat ∧ (0 : Int) ≤ v37_41 ∧ (v37_41 ≤ (((List.replicate (a.Words.length : Int).toNat 0#64).length : Nat) : Int) ∨ v37_41 = 0) ∧ (-9223372036854775808 ≤ v37_41 ∧ v37_41 ≤ 9223372036854775807) ∧ out1_40.length = a.Words.length, r39⟩) ((((((List.replicate (a.Words.length : Int).toNat 0#64).length : Nat) : Int) : Int) - 0).toNat, (List.replicate (a.Words.length : Int).toNat 0#64), 0) [0, 0, 1, 2, 3, 4, 5, 5] ⟨rfl, rfl, (by omega), (.inr rfl), (by omega), iv0⟩ ?_
 rintro ⟨r39, out1_40, v37_41⟩ ⟨hM42, hr43, hi44, hi45, hk46, hv47⟩
 refine JJ_nx fun _ _ hL hA => ?_; dsimp only at hL hA; subst hL hA
 refine Fb 8 3 fun hl48 => ?_
 refine Fb 8 4 fun hl49 => ?_
 refine Fb 8 6 fun hl50 => ?_
 refine Fl 6 fun hn51 => ?_
 refine KS ?_
 refine Oq Vlss (KS ?_)
 refine Kc ?_ ?_
 · intro h52
   have g53 := of_decide_eq_true h52
   obtain ⟨r54, rfl⟩ := scc (n := r39) (by omega)
   refine KS ?_
   refine Oq Vm (Oq Va (KS ?_))
   refine Jp 7 fun hp55 => ?_
   refine JK_drawK [0, 1, 0, 0, 0, 16, 0, 112, 240, 0, 512, 0, 3584, 7680, 16376, 32767, 65535] fmix ?_
   refine Dv [0] (Vfa fo42_1 0) (Dv [8] (VldF sh40 0) (Dv [] Vm (Dv [] Vm (Dv [3] (Vfa fo42_1 0) (Dv [3] (VldF sh40 0) (Dv [] Vm (Dv [4] (Vi sl40 0) (Dv [4] (VldU sh122 0) (Dv [2] (Vfa fo42_1 0) ?_)))))))))
   refine Dv [2] (VldF sh40 0) (Dv [] Vm (Dv [5] (Vi sl40 0) (Dv [5] (VldU sh122 0) (Dx [6] [] [1, 0] (fun G => u64 (combinep (a.Words.getD v37_41.toNat 0#64) (b.Words.getD v37_41.toNat 0#64))) [fun G => SP.fact (True)] (fun G => xE («as» := [(u64 (a.Words.getD v37_41.toNat 0#64) : Value), (u64 (b.Words.getD v37_41.toNat 0#64) : Value)] ++ combineC) [0] hcombinec rfl rfl rfl (by simp) rfl (hcombineF (a.Words.getD v37_41.toNat 0#64) (b.Words.getD v37_41.toNat 0#64)  )) (Dv [7] (Vi sl40 0) (Dx0 [7] [7] [0] [fun G => os (vl a36 k37 (List.replicate (a.Words.length : Int).toNat 0#64)) (out1_40.set v37_41.toNat (combinep (a.Words.getD v37_41.toNat 0#64) (b.Words.getD v37_41.toNat 0#64)))] (fun G => xS (SoU [0] sh122)) ?_))))))
   refine Dn ⟨by kernel_rfl, fun G => ?_⟩
   refine Jw2 [(2, .func (.func combineF) #[] combineC.toArray), (3, p3), (4, p4), (6, p5), (8, p34), (36, vi (((List.replicate (a.Words.length : Int).toNat 0#64).length : Nat) : Int)), (37, vi v37_41)] [0, 1, 2, 3, 4, 5, 6, 8] [SP.fact (True), os (vl a36 k37 (List.replicate (a.Words.length : Int).toNat 0#64)) (out1_40.set v37_41.toNat (combinep (a.Words.getD v37_41.toNat 0#64) (b.Words.getD v37_41.toNat 0#64)))] ?_
   refine Jk [1, 1, 2, 3, 4, 5, 6, 7] ?_
   refine KS ?_
   refine Oq Vadd (Oq Vm (KS ?_))
   exact Kg (r54, (out1_40.set v37_41.toNat (combinep (a.Words.getD v37_41.toNat 0#64) (b.Words.getD v37_41.toNat 0#64))), (v37_41 + 1)) [0, 0, 1, 2, 3, 4, 6, 5] ⟨(q3 hM42 (by simp only [bitset_merge_L0, h9, h14, h19, h24, h26, h52, hg7, hg17, cs4])), (by omega), (by omega), (by omega), (by omega), iv1⟩
 intro h52
 have g56 := of_decide_eq_false h52
 obtain rfl : r39 = 0 := by omega
 refine Ke ?_
 have hR57 := q2 hM42 out1_40 (by simp only [bitset_merge_L0, h9, h14, h19, h24, h26, h52, hg7, hg17, cs4])
 refine KS ?_
 refine Oq (VldA sh42 7) (Ost (Scl [0] sh42 [vi a.Width, vl a36 k37 (List.replicate (a.Words.length : Int).toNat 0#64)]) (Oq Va (KS ?_)))
 refine Jl [6] (Ent.freeze _ _) ?_
 have hq := q4 hrr ((GSet.mk a.Width out1_40), 0) (by simp only [bitset_merge, h9, h14, h19, h24, h26, h52, hg7, hg17, hR57, cs4]); subst hq
 exact Kr (vl a36 k37 (List.replicate (a.Words.length : Int).toNat 0#64)) rfl (.cellN 1 rfl sh42 rfl (reads_Cl _ _) rfl (.tmp rfl .nil)) [0] en
theorem fn236 (x : BitVec 64) (y : BitVec 64) (rr : BitVec 64) (hrr : bitset_Union_1 x y = rr) : FT Tryz.prog 236 #[u64 x, u64 y] [] (fun g : Unit => True) (fun g => u64 rr) (fun g => []) := by
 refine FTi Tryz.func236 fun w0 M0 F0 => ?_
 refine KS ?_
 refine Oq Va (KS ?_)
 refine Oq Vm (Oq Vm (Oq VorU (Oq Va (KS ?_))))
 have hq := q4 hrr (x ||| y) (by simp only [bitset_Union_1, cs4]); subst hq
 exact Kr () rfl (.tmp rfl .nil) [] trivial
theorem fn180 (a : GSet) (aa1 : Option Addr) (ak1 : Nat) (b : GSet) (ba1 : Option Addr) (bk1 : Nat) (ha_0 : i64ok a.Width) (hb_0 : i64ok b.Width) (rr : GSet × Int) (hrr : bitset_Union a b = rr) : FT Tryz.prog 180 #[.agg #[vi a.Width, vl aa1 ak1 a.Words], .agg #[vi b.Width, vl ba1 bk1 b.Words]] [S aa1 ak1 a.Words, S ba1 bk1 b.Words] (fun g : Value => i64ok rr.1.Width ∧ i64ok rr.2) (fun g => .tuple #[.agg #[vi rr.1.Width, g], vi rr.2]) (fun g => [sl g rr.1.Words]) := by
 refine FTi Tryz.func180 fun w0 M0 F0 => ?_
 unfold i64ok at ha_0 hb_0
 refine Fb 8 0 fun hl1 => ?_
 refine Fb 8 1 fun hl2 => ?_
 refine KS ?_
 refine Oa (Ab [vi a.Width, vl aa1 ak1 a.Words]) fun p3 => Oa (Ab [vi b.Width, vl ba1 bk1 b.Words]) fun p4 => Oa (Al ze42 [vi 0, .slice none 0 0]) fun p5 => Oq Va (KS ?_)
 refine Oq (VldA sh42 2) (Oq (VldA sh42 1) ?_)
 refine JJ_ent (Ent.pall [] rfl rfl) ?_
 refine letv (bitset_merge a b (fun x0 x1 => bitset_Union_1 x0 x1)) fun rv7 hg8 => ?_
 have hc9 := fn235 a aa1 ak1 b ba1 bk1 236 [] (fun x0 x1 => bitset_Union_1 x0 x1) [] pre pre ca236 (fun x0 x1 => FT_pall (A1 := []) (fn236 x0 x1   _ rfl)) rv7 hg8
 refine Oc [4, 5, 0] ca235 hc9 ?_
 rintro c6 ⟨he10, he11⟩
 unfold i64ok at he10 he11
 refine Jo 0 ?_; rintro a12 k13 rfl
 refine Fb 8 0 fun hl14 => ?_
 refine Oq Vx (Oq Vx (Ost (Scl [2] sh42 [vi rv7.1.Width, vl a12 k13 rv7.1.Words]) (Oq Va (KS ?_))))
 have hq := q4 hrr (rv7.1, rv7.2) (by simp only [bitset_Union, hg8, cs4]); subst hq
 exact Kr (vl a12 k13 rv7.1.Words) rfl (.cellN 0 rfl sh42 rfl (reads_Cl _ _) rfl (.tmp rfl .nil)) [1] en
theorem fn262 (x : BitVec 64) (y : BitVec 64) (rr : BitVec 64) (hrr : bitset_Diff_1 x y = rr) : FT Tryz.prog 262 #[u64 x, u64 y] [] (fun g : Unit => True) (fun g => u64 rr) (fun g => []) := by
 refine FTi Tryz.func262 fun w0 M0 F0 => ?_
 refine KS ?_
 refine Oq Va (KS ?_)
 refine Oq Vm (Oq Vm (Oq VandNotU (Oq Va (KS ?_))))
 have hq := q4 hrr (x &&& ~~~y) (by simp only [bitset_Diff_1, cs4]); subst hq
 exact Kr () rfl (.tmp rfl .nil) [] trivial
theorem fn214 (a : GSet) (aa1 : Option Addr) (ak1 : Nat) (b : GSet) (ba1 : Option Addr) (bk1 : Nat) (ha_0 : i64ok a.Width) (hb_0 : i64ok b.Width) (rr : GSet × Int) (hrr : bitset_Diff a b = rr) : FT Tryz.prog 214 #[.agg #[vi a.Width, vl aa1 ak1 a.Words], .agg #[vi b.Width, vl ba1 bk1 b.Words]] [S aa1 ak1 a.Words, S ba1 bk1 b.Words] (fun g : Value => i64ok rr.1.Width ∧ i64ok rr.2) (fun g => .tuple #[.agg #[vi rr.1.Width, g], vi rr.2]) (fun g => [sl g rr.1.Words]) := by
 refine FTi Tryz.func214 fun w0 M0 F0 => ?_
 unfold i64ok at ha_0 hb_0
 refine Fb 8 0 fun hl1 => ?_
 refine Fb 8 1 fun hl2 => ?_
 refine KS ?_
 refine Oa (Ab [vi a.Width, vl aa1 ak1 a.Words]) fun p3 => Oa (Ab [vi b.Width, vl ba1 bk1 b.Words]) fun p4 => Oa (Al ze42 [vi 0, .slice none 0 0]) fun p5 => Oq Va (KS ?_)
 refine Oq (VldA sh42 2) (Oq (VldA sh42 1) ?_)
 refine JJ_ent (Ent.pall [] rfl rfl) ?_
 refine letv (bitset_merge a b (fun x0 x1 => bitset_Diff_1 x0 x1)) fun rv7 hg8 => ?_
 have hc9 := fn235 a aa1 ak1 b ba1 bk1 262 [] (fun x0 x1 => bitset_Diff_1 x0 x1) [] pre pre ca262 (fun x0 x1 => FT_pall (A1 := []) (fn262 x0 x1   _ rfl)) rv7 hg8
 refine Oc [4, 5, 0] ca235 hc9 ?_
 rintro c6 ⟨he10, he11⟩
 unfold i64ok at he10 he11
 refine Jo 0 ?_; rintro a12 k13 rfl
 refine Fb 8 0 fun hl14 => ?_
 refine Oq Vx (Oq Vx (Ost (Scl [2] sh42 [vi rv7.1.Width, vl a12 k13 rv7.1.Words]) (Oq Va (KS ?_))))
 have hq := q4 hrr (rv7.1, rv7.2) (by simp only [bitset_Diff, hg8, cs4]); subst hq
 exact Kr (vl a12 k13 rv7.1.Words) rfl (.cellN 0 rfl sh42 rfl (reads_Cl _ _) rfl (.tmp rfl .nil)) [1] en
theorem fn184 (s : List (BitVec 64)) (sa0 : Option Addr) (sk0 : Nat) (rr : List (BitVec 64)) (hrr : slices_Clone_uint64 s = rr) : FT Tryz.prog 184 #[vl sa0 sk0 s] [S sa0 sk0 s] (fun g : Value => (rr.length = s.length)) (fun g => g) (fun g => [os g rr]) := by
 have hm : slices_Clone_uint64 s = s := rfl
 rw [hm] at hrr
 subst hrr
 refine FTi Tryz.func184 fun w0 M0 F0 => ?_
 refine KS ?_
 refine Oq Va ?_
 refine KS ?_
 refine Oq Vm ?_
 refine Oq (VeqN un40) ?_
 refine KS ?_
 refine Kc ?_ ?_
 · intro h
   refine Jnil 0 h ?_
   intro h0
   subst h0
   refine KS ?_
   refine Oq Va ?_
   refine KS ?_
   refine Jl [] (Ent.osNil (α := BitVec 64)) ?_
   exact Kr (.slice none 0 0) rfl (.tmp rfl .nil) [0] rfl
 · intro _
   refine KS ?_
   refine Oa (As0 sl40) fun c1 => ?_
   refine Jo 0 ?_; rintro a2 k3 rfl
   refine Oq Vm ?_
   refine Fb 8 1 fun hl => ?_
   refine Jl [0] (Ent.crNil (α := BitVec 64) _) ?_
   refine Oa (Ap0 [0, 0] sl40 sl40 sz40) fun c4 => ?_
   refine Oq Va ?_
   refine KS ?_
   exact Kr c4 rfl (.tmp rfl .nil) [0] rfl
theorem fn299 (s : GSet) (sa1 : Option Addr) (sk1 : Nat) (b : Int) (hs_0 : i64ok s.Width) (hb_0 : i64ok b) (hb0 : 0 ≤ b ∧ b / 64 < (s.Words.length : Int)) (rr : List (BitVec 64)) (hrr : bitset_put s b = rr) : FT Tryz.prog 299 #[.agg #[vi s.Width, vl sa1 sk1 s.Words], vi b] [O sa1 sk1 s.Words] (fun g : Unit => True) (fun g => .tuple #[]) (fun g => [os (vl sa1 sk1 s.Words) rr]) := by
 refine FTi Tryz.func299 fun w0 M0 F0 => ?_
 unfold i64ok at hs_0 hb_0
 refine Fb 8 0 fun hl1 => ?_
 refine KS ?_
 refine Oa (Ab [vi s.Width, vl sa1 sk1 s.Words]) fun p2 => KS ?_
 refine Oq (Vfa fo42_1 0) (Oq (VldF sh40 0) (Oq Vm (Oq Vquo (Oq (Vi sl40 1) (Oq (VldU sh122 1) (Oq Vm (Oq (VcU un3 un123) (Oq (VremU (b := 64#64) (by simp)) (Oq (VshlU (a := 1#64)) ?_)))))))))
 refine Oq VorU (Oq (Vi sl40 1) (Ost (SoU [1] sh122) (KS ?_)))
 have hq := q4 hrr (s.Words.set ((b / 64) : Int).toNat ((s.Words.getD ((b / 64) : Int).toNat 0#64) ||| (1#64 <<< ((((BitVec.ofInt 64 b) % 64#64).toNat : Int)).toNat))) (by simp only [bitset_put, cs4]); subst hq
 exact Kz () rfl .nil [0] trivial
theorem fn294 (s : GSet) (sa1 : Option Addr) (sk1 : Nat) (b : Int) (member : Bool) (hs_0 : i64ok s.Width) (hb_0 : i64ok b) (rr : GSet × Int) (hrr : bitset_changed s b member = rr) : FT Tryz.prog 294 #[.agg #[vi s.Width, vl sa1 sk1 s.Words], vi b, vb member] [S sa1 sk1 s.Words] (fun g : Value => i64ok rr.1.Width ∧ i64ok rr.2) (fun g => .tuple #[.agg #[vi rr.1.Width, g], vi rr.2]) (fun g => [sl g rr.1.Words]) := by
 refine FTi Tryz.func294 fun w0 M0 F0 => ?_
 unfold i64ok at hs_0 hb_0
 refine Fb 8 0 fun hl1 => ?_
 refine KS ?_
 refine Oa (Ab [vi s.Width, vl sa1 sk1 s.Words]) fun p2 => Oa (Al ze42 [vi 0, .slice none 0 0]) fun p3 => Oq Va (KS ?_)
 refine Oq (VldA sh42 1) ?_
 refine letv (bitset_Valid s) fun rv4 hg5 => ?_
 have hc6 := fn123 s sa1 sk1 pre rv4 hg5
 refine Oc [2] ca123 hc6 ?_
 rintro - -
 refine Oq Vnot (Oq Va (KS ?_))
 refine Kc ?_ ?_
 · intro h7
   have h9 := not_true h7
   refine KS ?_
   refine Oq (Vbd st42 [vi 0, .slice none 0 0]) (Ost (Scl [0] sh42 [vi 0, .slice none 0 0]) (Oq Va (KS ?_)))
   refine Jl [] (Ent.slNil (α := BitVec 64)) ?_
   have hq := q4 hrr ((GSet.mk 0 []), 1) (by simp only [bitset_changed, h7, h9, hg5, cs4]); subst hq
   exact Kr (.slice none 0 0) rfl (.cellN 1 rfl sh42 rfl (reads_Cl _ _) rfl (.tmp rfl .nil)) [0] en
 intro h7
 have h12 := not_false h7
 try have hrg := PV_w (s := s) (by simp only [h7, h12, hg5])
 try have hwi := within_iff (s := s) (b := b) (by simp only [h7, h12, hg5])
 refine KS ?_
 refine Oq (VldA sh42 1) (Oq Vm ?_)
 refine letv (bitset_within s b) fun rv14 hg15 => ?_
 have hc16 := fn160 s sa1 sk1 b pre pre rv14 hg15
 refine Oc [2] ca160 hc16 ?_
 rintro - -
 refine Oq Vnot (Oq Va (KS ?_))
 refine Kc ?_ ?_
 · intro h17
   have h19 := not_true h17
   refine KS ?_
   refine Oq (Vbd st42 [vi 0, .slice none 0 0]) (Ost (Scl [0] sh42 [vi 0, .slice none 0 0]) (Oq Va (KS ?_)))
   refine Jl [] (Ent.slNil (α := BitVec 64)) ?_
   have hq := q4 hrr ((GSet.mk 0 []), 3) (by simp only [bitset_changed, h7, h12, h17, h19, hg5, hg15, cs4]); subst hq
   exact Kr (.slice none 0 0) rfl (.cellN 1 rfl sh42 rfl (reads_Cl _ _) rfl (.tmp rfl .nil)) [0] en
 intro h17
 have h22 := not_false h17
 try have hrg := PV_w (s := s) (by simp only [h7, h12, h17, h22, hg5, hg15])
 try have hwi := within_iff (s := s) (b := b) (by simp only [h7, h12, h17, h22, hg5, hg15])
 refine KS ?_
 refine JK_drawK [0, 1, 0, 4, 12, 31, 0, 127] fmix ?_
 refine Dv [1] (Vfa fo42_0 0) (Dv [1] (VldF sh3 0) (Dv [1] (Vfa fo42_1 0) (Dv [1] (VldF sh40 0) ?_)))
 refine letv (slices_Clone_uint64 s.Words) fun rv25 hg26 => ?_
 refine Dx [2] [] [2, 0, 1] (fun G => (G.g 4 0)) [fun G => SP.fact ((rv25.length = s.Words.length)), fun G => os (G.g 4 0) rv25] (fun G => xC [0] ca184 (fn184 s.Words sa1 sk1 rv25 hg26)) ?_
 refine Dx [4] [] [0] (fun G => .agg #[vi s.Width, (G.g 4 0)]) [] (fun G => xV (v := .agg #[vi s.Width, (G.g 4 0)]) (Vo 0 rfl (isO_os _ _) fun aq27 kq28 eq29 => (by rw [eq29]; exact Vbd st42 [vi s.Width, .slice aq27 ((rv25 : List (BitVec 64)).length) kq28]))) (Dx [] [] [0] (fun G => (G.g 6 0)) [fun G => Cl (G.g 6 0) [vi 0, .slice none 0 0]] (fun G => xA (Al ze42 [vi 0, .slice none 0 0])) (Dx0 [4, 5] [5] [1, 0] [fun G => Cl (G.g 6 0) [vi s.Width, (G.g 4 0)]] (fun G => x1 0 rfl os_one fun ho31 => (xS (Scl [1] sh42 [vi s.Width, (G.g 4 0)] (v := .agg #[vi s.Width, (G.g 4 0)]) (h1 := show [vi s.Width, (G.g 4 0)].all (·.oneCell') = true from (by simp only [List.all_cons, List.all_nil, ho31, Bool.and_true, Bool.true_and] <;> rfl))))) ?_))
 refine Dn ⟨by kernel_rfl, fun G => ?_⟩
 refine Jw2 [(1, vi b), (2, vb member), (6, p3), (8, (G.g 6 0))] [0, 1, 2] [SP.fact ((rv25.length = s.Words.length)), os (G.g 4 0) rv25, Cl (G.g 6 0) [vi s.Width, (G.g 4 0)]] ?_
 generalize G.g 4 0 = c24, G.g 6 0 = p30
 refine Jf 3 rfl ?_; rintro he32
 refine Jk [0, 0, 1, 3, 3] ?_
 refine Jo 3 ?_; rintro a33 k34 rfl
 refine Fb 8 3 fun hl35 => ?_
 refine KS ?_
 refine Oq (Vfa fo42_1 4) (Oq (VldF sh40 4) (Oq Vm (Oq Vquo (Oq (Vi sl40 3) (Oq (VldU sh122 3) (Oq Vm (Oq (VcU un3 un123) (Oq (VremU (b := 64#64) (by simp)) (Oq (VshlU (a := 1#64)) ?_)))))))))
 refine Oq VandNotU (Oq (Vi sl40 3) (Ost (SoU [3] sh122) (KS ?_)))
 refine Oq Vm (KS ?_)
 refine Kc ?_ ?_
 · intro h36
   refine KS ?_
   refine Oq (VldA sh42 4) (Oq Vm ?_)
   refine Fl 0 fun hn38 => ?_; try unfold vl; rw [← hn38]
   refine letv (bitset_put (GSet.mk s.Width (rv25.set ((b / 64) : Int).toNat ((rv25.getD ((b / 64) : Int).toNat 0#64) &&& ~~~(1#64 <<< ((((BitVec.ofInt 64 b) % 64#64).toNat : Int)).toNat)))) b) fun rv39 hg40 => ?_
   have hc41 := fn299 ((GSet.mk s.Width (rv25.set ((b / 64) : Int).toNat ((rv25.getD ((b / 64) : Int).toNat 0#64) &&& ~~~(1#64 <<< ((((BitVec.ofInt 64 b) % 64#64).toNat : Int)).toNat))))) a33 k34 b pre pre pre rv39 hg40
   refine Oc [0] ca299 hc41 ?_
   rintro - -
   refine KS ?_
   refine Oq (VldA sh42 4) (Ost (Scl [1] sh42 [vi s.Width, .slice a33 ((rv25.set ((b / 64) : Int).toNat ((rv25.getD ((b / 64) : Int).toNat 0#64) &&& ~~~(1#64 <<< ((((BitVec.ofInt 64 b) % 64#64).toNat : Int)).toNat))).length) k34]) (Oq Va (KS ?_)))
   refine Jl [1] (Ent.freeze _ _) ?_
   have hq := q4 hrr ((GSet.mk s.Width rv39), 0) (by simp only [bitset_changed, h7, h12, h17, h22, h36, hg5, hg15, hg26, hg40, cs4]); subst hq
   exact Kr (.slice a33 ((rv25.set ((b / 64) : Int).toNat ((rv25.getD ((b / 64) : Int).toNat 0#64) &&& ~~~(1#64 <<< ((((BitVec.ofInt 64 b) % 64#64).toNat : Int)).toNat))).length) k34) rfl (.cellN 1 rfl sh42 rfl (reads_Cl _ _) rfl (.tmp rfl .nil)) [0] en
 intro h36
 refine KS ?_
 refine Oq (VldA sh42 4) (Ost (Scl [1] sh42 [vi s.Width, vl a33 k34 rv25]) (Oq Va (KS ?_)))
 refine Jl [1] (Ent.freeze _ _) ?_
 have hq := q4 hrr ((GSet.mk s.Width (rv25.set ((b / 64) : Int).toNat ((rv25.getD ((b / 64) : Int).toNat 0#64) &&& ~~~(1#64 <<< ((((BitVec.ofInt 64 b) % 64#64).toNat : Int)).toNat)))), 0) (by simp only [bitset_changed, h7, h12, h17, h22, h36, hg5, hg15, hg26, cs4]); subst hq
 exact Kr (vl a33 k34 rv25) rfl (.cellN 1 rfl sh42 rfl (reads_Cl _ _) rfl (.tmp rfl .nil)) [0] en
theorem fn280 (s : GSet) (sa1 : Option Addr) (sk1 : Nat) (b : Int) (hs_0 : i64ok s.Width) (hb_0 : i64ok b) (rr : GSet × Int) (hrr : bitset_With s b = rr) : FT Tryz.prog 280 #[.agg #[vi s.Width, vl sa1 sk1 s.Words], vi b] [S sa1 sk1 s.Words] (fun g : Value => i64ok rr.1.Width ∧ i64ok rr.2) (fun g => .tuple #[.agg #[vi rr.1.Width, g], vi rr.2]) (fun g => [sl g rr.1.Words]) := by
 refine FTi Tryz.func280 fun w0 M0 F0 => ?_
 unfold i64ok at hs_0 hb_0
 refine Fb 8 0 fun hl1 => ?_
 refine KS ?_
 refine Oa (Ab [vi s.Width, vl sa1 sk1 s.Words]) fun p2 => Oa (Al ze42 [vi 0, .slice none 0 0]) fun p3 => Oq Va (KS ?_)
 refine Oq (VldA sh42 1) (Oq Vm ?_)
 refine letv (bitset_changed s b true) fun rv5 hg6 => ?_
 have hc7 := fn294 s sa1 sk1 b true pre pre rv5 hg6
 refine Oc [2] ca294 hc7 ?_
 rintro c4 ⟨he8, he9⟩
 unfold i64ok at he8 he9
 refine Jo 0 ?_; rintro a10 k11 rfl
 refine Fb 8 0 fun hl12 => ?_
 refine Oq Vx (Oq Vx (Ost (Scl [1] sh42 [vi rv5.1.Width, vl a10 k11 rv5.1.Words]) (Oq Va (KS ?_))))
 have hq := q4 hrr (rv5.1, rv5.2) (by simp only [bitset_With, hg6, cs4]); subst hq
 exact Kr (vl a10 k11 rv5.1.Words) rfl (.cellN 0 rfl sh42 rfl (reads_Cl _ _) rfl (.tmp rfl .nil)) [1] en
theorem fn234 (t : GTransfer) (ta1 : Option Addr) (tk1 : Nat) (ta3 : Option Addr) (tk3 : Nat) (ta4 : Option Addr) (tk4 : Nat) (s : GSet) (sa1 : Option Addr) (sk1 : Nat) (ht_0 : i64ok t.Gen.Width) (ht_2 : i64ok t.Kill.Width) (hs_0 : i64ok s.Width) (rr : GSet) (hrr : transfer_apply t s = rr) : FT Tryz.prog 234 #[.agg #[vi t.Gen.Width, vl ta1 tk1 t.Gen.Words, vi t.Kill.Width, vl ta3 tk3 t.Kill.Words, vl ta4 tk4 t.Copies], .agg #[vi s.Width, vl sa1 sk1 s.Words]] [S ta1 tk1 t.Gen.Words, S ta3 tk3 t.Kill.Words, S ta4 tk4 t.Copies, S sa1 sk1 s.Words] (fun g : Value => i64ok rr.Width) (fun g => .agg #[vi rr.Width, g]) (fun g => [sl g rr.Words]) := by
 refine FTi Tryz.func234 fun w0 M0 F0 => ?_
 unfold i64ok at ht_0 ht_2 hs_0
 refine Fb 8 0 fun hl1 => ?_
 refine Fb 8 1 fun hl2 => ?_
 refine Fb 16 2 fun hl3 => ?_
 refine Fb 8 3 fun hl4 => ?_
 refine KS ?_
 refine Oa (Ab [vi t.Gen.Width, vl ta1 tk1 t.Gen.Words, vi t.Kill.Width, vl ta3 tk3 t.Kill.Words, vl ta4 tk4 t.Copies]) fun p5 => Oa (Ab [vi s.Width, vl sa1 sk1 s.Words]) fun p6 => Oa (Al ze42 [vi 0, .slice none 0 0]) fun p7 => KS ?_
 refine Oq (VldA sh42 1) (Oq (Vfa fo98_1 2) (Oq (VldG sh42 2 [vi t.Kill.Width, vl ta3 tk3 t.Kill.Words]) ?_))
 refine letv (bitset_Diff s t.Kill) fun rv9 hg10 => ?_
 have hc11 := fn214 s sa1 sk1 t.Kill ta3 tk3 pre pre rv9 hg10
 refine Oc [6, 4] ca214 hc11 ?_
 rintro c8 ⟨he12, he13⟩
 unfold i64ok at he12 he13
 refine Jo 0 ?_; rintro a14 k15 rfl
 refine Fb 8 0 fun hl16 => ?_
 refine Oq Vm (Oq Vx (Oq Vx (Oa (Al ze42 [vi 0, .slice none 0 0]) fun p17 => Ost (Scl [0] sh42 [vi rv9.1.Width, vl a14 k15 rv9.1.Words]) (Oq Va (KS ?_)))))
 refine Oq (VldA sh42 0) (Oq (Vfa fo98_0 4) (Oq (VldG sh42 4 [vi t.Gen.Width, vl ta1 tk1 t.Gen.Words]) ?_))
 refine letv (bitset_Union rv9.1 t.Gen) fun rv19 hg20 => ?_
 have hc21 := fn180 rv9.1 a14 k15 t.Gen ta1 tk1 pre pre rv19 hg20
 refine Oc [1, 5] ca180 hc21 ?_
 rintro c18 ⟨he22, he23⟩
 unfold i64ok at he22 he23
 refine Jo 0 ?_; rintro a24 k25 rfl
 refine Fb 8 0 fun hl26 => ?_
 refine Oq Vm (Oq Vx (Oq Vx (Ost (Scl [1] sh42 [vi rv19.1.Width, vl a24 k25 rv19.1.Words]) (KS ?_))))
 refine Oq (Vfa fo98_2 5) (Oq (VldF sh96 5) (Oq (Vlen sl96) (Oq Vm (KS ?_))))
 refine Kl (γ := Nat × Int × List (BitVec 64) × Int × Option Addr × Nat) (fun (r27, out0_28, out1_29, v26_30, a31, k32) => ⟨[(3, p6), (4, p7), (5, p17), (24, vl ta4 tk4 t.Copies), (25, vi (t.Copies.length : Int)), (26, vi v26_30)], [S a31 k32 out1_29, Cl p17 [vi out0_28, vl a31 k32 out1_29], Cl p7 [vi 0, .slice none 0 0], pv p6 [vi s.Width, vl sa1 sk1 s.Words], S ta4 tk4 t.Copies, S sa1 sk1 s.Words], transfer_apply_L0 t s r27 out0_28 out1_29 v26_30 = transfer_apply_L0 t s (((t.Copies.length : Int) - 0).toNat) rv19.1.Width rv19.1.Words 0 ∧ r27 = ((t.Copies.length : Int) - v26_30).toNat ∧ (0 : Int) ≤ v26_30 ∧ v26_30 ≤ (t.Copies.length : Int) ∧ (-9223372036854775808 ≤ out0_28 ∧ out0_28 ≤ 9223372036854775807) ∧ (-9223372036854775808 ≤ v26_30 ∧ v26_30 ≤ 9223372036854775807), r27⟩) (((t.Copies.length : Int) - 0).toNat, rv19.1.Width, rv19.1.Words, 0, a24, k25) [1, 0, 2, 2, 6, 7] ⟨rfl, rfl, (by omega), (by omega), (by omega), (by omega)⟩ ?_
 rintro ⟨r27, out0_28, out1_29, v26_30, a31, k32⟩ ⟨hM33, hr34, hi35, hi36, hk37, hk38⟩
 refine JJ_nx fun _ _ hL hA => ?_; dsimp only at hL hA; subst hL hA
 refine Fb 8 0 fun hl39 => ?_
 refine Fb 16 4 fun hl40 => ?_
 refine Fb 8 5 fun hl41 => ?_
 refine KS ?_
 refine Oq Vlss (KS ?_)
 refine Kc ?_ ?_
 · intro h42
   have g43 := of_decide_eq_true h42
   obtain ⟨r44, rfl⟩ := scc (n := r27) (by omega)
   refine KS ?_
   refine Oq (Vi sl96 4) ?_
   refine JJ_peek_GCopy v26_30.toNat 4 rfl rng fun hb45 hb46 => ?_
   unfold i64ok at hb45 hb46
   refine Oq (VldA sh147 0) (Oa (Al ze147 [vi 0, vi 0]) fun p47 => Ost (Scl [0] sh147 [vi ((t.Copies.getD v26_30.toNat default).From), vi ((t.Copies.getD v26_30.toNat default).To)]) (KS ?_))
   refine Oq (VldA sh42 5) (Oq (Vfa fo147_0 0) (Oq (VldF sh3 0) ?_))
   refine letv (bitset_Has s ((t.Copies.getD v26_30.toNat default).From)) fun rv48 hg49 => ?_
   have hc50 := fn85 s sa1 sk1 ((t.Copies.getD v26_30.toNat default).From) pre pre rv48 hg49
   refine Oc [7] ca85 hc50 ?_
   rintro - -
   refine KS ?_
   refine Kc ?_ ?_
   · intro h51
     refine KS ?_
     refine Oq (VldA sh42 3) (Oq (Vfa fo147_1 0) (Oq (VldF sh3 0) ?_))
     refine letv (bitset_With (GSet.mk out0_28 out1_29) ((t.Copies.getD v26_30.toNat default).To)) fun rv54 hg55 => ?_
     have hc56 := fn280 ((GSet.mk out0_28 out1_29)) a31 k32 ((t.Copies.getD v26_30.toNat default).To) pre pre rv54 hg55
     refine Oc [2] ca280 hc56 ?_
     rintro c53 ⟨he57, he58⟩
     unfold i64ok at he57 he58
     refine Jo 0 ?_; rintro a59 k60 rfl
     refine Fb 8 0 fun hl61 => ?_
     refine Oq Vm (Oq Vx (Oq Vx (Ost (Scl [4] sh42 [vi rv54.1.Width, vl a59 k60 rv54.1.Words]) (KS ?_))))
     refine Oq Vadd (Oq Vm (KS ?_))
     exact Kg (r44, rv54.1.Width, rv54.1.Words, (v26_30 + 1), a59, k60) [1, 0, 4, 4, 5, 6] ⟨(q3 hM33 (by simp only [transfer_apply_L0, h42, h51, hg10, hg20, hg49, hg55, cs4])), (by omega), (by omega), (by omega), (by omega), (by omega)⟩
   intro h51
   refine KS ?_
   refine Oq Vadd (Oq Vm (KS ?_))
   exact Kg (r44, out0_28, out1_29, (v26_30 + 1), a31, k32) [2, 3, 3, 3, 4, 5] ⟨(q3 hM33 (by simp only [transfer_apply_L0, h42, h51, hg10, hg20, hg49, cs4])), (by omega), (by omega), (by omega), (by omega), (by omega)⟩
 intro h42
 have g63 := of_decide_eq_false h42
 obtain rfl : r27 = 0 := by omega
 refine Ke ?_
 have hR64 := q2 hM33 (out0_28, out1_29) (by simp only [transfer_apply_L0, h42, hg10, hg20, cs4])
 refine KS ?_
 refine Oq (VldA sh42 1) (Ost (Scl [2] sh42 [vi out0_28, vl a31 k32 out1_29]) (KS ?_))
 have hq := q4 hrr (GSet.mk out0_28 out1_29) (by simp only [transfer_apply, h42, hg10, hg20, hR64, cs4]); subst hq
 exact Kr (vl a31 k32 out1_29) rfl (.cellN 0 rfl sh42 rfl (reads_Cl _ _) rfl .nil) [1] en
theorem fn179 (t : GTransfer) (ta1 : Option Addr) (tk1 : Nat) (ta3 : Option Addr) (tk3 : Nat) (ta4 : Option Addr) (tk4 : Nat) (s : GSet) (sa1 : Option Addr) (sk1 : Nat) (ht_0 : i64ok t.Gen.Width) (ht_2 : i64ok t.Kill.Width) (hs_0 : i64ok s.Width) (rr : GSet × Int) (hrr : transfer_Apply t s = rr) : FT Tryz.prog 179 #[.agg #[vi t.Gen.Width, vl ta1 tk1 t.Gen.Words, vi t.Kill.Width, vl ta3 tk3 t.Kill.Words, vl ta4 tk4 t.Copies], .agg #[vi s.Width, vl sa1 sk1 s.Words]] [S ta1 tk1 t.Gen.Words, S ta3 tk3 t.Kill.Words, S ta4 tk4 t.Copies, S sa1 sk1 s.Words] (fun g : Value => i64ok rr.1.Width ∧ i64ok rr.2) (fun g => .tuple #[.agg #[vi rr.1.Width, g], vi rr.2]) (fun g => [sl g rr.1.Words]) := by
 refine FTi Tryz.func179 fun w0 M0 F0 => ?_
 unfold i64ok at ht_0 ht_2 hs_0
 refine Fb 8 0 fun hl1 => ?_
 refine Fb 8 1 fun hl2 => ?_
 refine Fb 16 2 fun hl3 => ?_
 refine Fb 8 3 fun hl4 => ?_
 refine KS ?_
 refine Oa (Ab [vi t.Gen.Width, vl ta1 tk1 t.Gen.Words, vi t.Kill.Width, vl ta3 tk3 t.Kill.Words, vl ta4 tk4 t.Copies]) fun p5 => Oa (Ab [vi s.Width, vl sa1 sk1 s.Words]) fun p6 => Oa (Al ze42 [vi 0, .slice none 0 0]) fun p7 => Oq Va (KS ?_)
 refine Oq (VldA sh98 2) ?_
 refine letv (transfer_Valid t) fun rv8 hg9 => ?_
 have hc10 := fn156 t ta1 tk1 ta3 tk3 ta4 tk4 pre pre rv8 hg9
 refine Oc [3, 4, 5] ca156 hc10 ?_
 rintro - -
 refine Oq Vnot (Oq Vm ?_)
 refine Js 10 ?_ ?_
 · intro h11
   have h13 := not_true h11
   refine Osk (Osk (Osk (Oq Vpt (Oq Va (KS ?_)))))
   refine Kt ?_
   refine KS ?_
   refine Oq (Vbd st42 [vi 0, .slice none 0 0]) (Ost (Scl [0] sh42 [vi 0, .slice none 0 0]) (Oq Va (KS ?_)))
   refine Jl [] (Ent.slNil (α := BitVec 64)) ?_
   have hq := q4 hrr ((GSet.mk 0 []), 1) (by simp only [transfer_Apply, h11, h13, hg9, cs4]); subst hq
   exact Kr (.slice none 0 0) rfl (.cellN 1 rfl sh42 rfl (reads_Cl _ _) rfl (.tmp rfl .nil)) [0] en
 intro h11
 have h16 := not_false h11
 refine Oq (VldA sh42 1) ?_
 refine letv (bitset_Valid s) fun rv18 hg19 => ?_
 have hc20 := fn123 s sa1 sk1 pre rv18 hg19
 refine Oc [6] ca123 hc20 ?_
 rintro - -
 refine Oq Vnot (Oq Vpf (Oq Va (KS ?_)))
 refine Kc ?_ ?_
 · intro h21
   have h23 := not_true h21
   refine KS ?_
   refine Oq (Vbd st42 [vi 0, .slice none 0 0]) (Ost (Scl [0] sh42 [vi 0, .slice none 0 0]) (Oq Va (KS ?_)))
   refine Jl [] (Ent.slNil (α := BitVec 64)) ?_
   have hq := q4 hrr ((GSet.mk 0 []), 1) (by simp only [transfer_Apply, h11, h16, h21, h23, hg9, hg19, cs4]); subst hq
   exact Kr (.slice none 0 0) rfl (.cellN 1 rfl sh42 rfl (reads_Cl _ _) rfl (.tmp rfl .nil)) [0] en
 intro h21
 have h26 := not_false h21
 refine KS ?_
 refine Oq (Vfa fo98_0 2) (Oq (VfaF fo42_0 2) (Oq (VldF sh3 2) (Oq (Vfa fo42_0 1) (Oq (VldF sh3 1) (Oq Vneq (Oq Va (KS ?_)))))))
 refine Kc ?_ ?_
 · intro h28
   have g29 := ne_of_bne h28
   refine KS ?_
   refine Oq (Vbd st42 [vi 0, .slice none 0 0]) (Ost (Scl [0] sh42 [vi 0, .slice none 0 0]) (Oq Va (KS ?_)))
   refine Jl [] (Ent.slNil (α := BitVec 64)) ?_
   have hq := q4 hrr ((GSet.mk 0 []), 2) (by simp only [transfer_Apply, h11, h16, h21, h26, h28, hg9, hg19, cs4]); subst hq
   exact Kr (.slice none 0 0) rfl (.cellN 1 rfl sh42 rfl (reads_Cl _ _) rfl (.tmp rfl .nil)) [0] en
 intro h28
 have g30 := eq_of_bne_false h28
 refine KS ?_
 refine Oq (VldA sh98 2) (Oq (VldA sh42 1) ?_)
 refine letv (transfer_apply t s) fun rv32 hg33 => ?_
 have hc34 := fn234 t ta1 tk1 ta3 tk3 ta4 tk4 s sa1 sk1 pre pre pre rv32 hg33
 refine Oc [3, 4, 5, 6] ca234 hc34 ?_
 rintro c31 he35
 unfold i64ok at he35
 refine Jo 0 ?_; rintro a36 k37 rfl
 refine Fb 8 0 fun hl38 => ?_
 refine Ost (Scl [1] sh42 [vi rv32.Width, vl a36 k37 rv32.Words]) (Oq Va (KS ?_))
 have hq := q4 hrr (rv32, 0) (by simp only [transfer_Apply, h11, h16, h21, h26, h28, hg9, hg19, hg33, cs4]); subst hq
 exact Kr (vl a36 k37 rv32.Words) rfl (.cellN 0 rfl sh42 rfl (reads_Cl _ _) rfl (.tmp rfl .nil)) [1] en
theorem fn244 (v : GSet) (va1 : Option Addr) (vk1 : Nat) (hv_0 : i64ok v.Width) (rr : Bool) (hrr : equations_Right_1 v = rr) : FT Tryz.prog 244 #[.agg #[vi v.Width, vl va1 vk1 v.Words]] [S va1 vk1 v.Words] (fun g : Unit => True) (fun g => vb rr) (fun g => []) := by
 refine FTi Tryz.func244 fun w0 M0 F0 => ?_
 unfold i64ok at hv_0
 refine Fb 8 0 fun hl1 => ?_
 refine KS ?_
 refine Oa (Ab [vi v.Width, vl va1 vk1 v.Words]) fun p2 => Oq Va (KS ?_)
 refine Oq (VldA sh42 0) ?_
 refine letv (bitset_Valid v) fun rv3 hg4 => ?_
 have hc5 := fn123 v va1 vk1 pre rv3 hg4
 refine Oc [1] ca123 hc5 ?_
 rintro - -
 refine Oq Vnot (Oq Va (KS ?_))
 have hq := q4 hrr (!rv3) (by simp only [equations_Right_1, hg4, cs4]); subst hq
 exact Kr () rfl (.tmp rfl .nil) [] trivial
theorem fn193 (s : GSystem) (sa1 : Option Addr) (sk1 : Nat) (sa2 : Option Addr) (sk2 : Nat) (sa3 : Option Addr) (sk3 : Nat) (values : List GSet) (valuesa0 : Option Addr) (valuesk0 : Nat) (n : Int) (hs_0 : i64ok s.Width) (hn_0 : i64ok n) (rr : GSet × Int) (hrr : equations_Right s values n = rr) : FT Tryz.prog 193 #[.agg #[vi s.Width, vl sa1 sk1 s.Deps, vl sa2 sk2 s.Transfers, vl sa3 sk3 s.Boundary], vl valuesa0 valuesk0 values, vi n] [S sa1 sk1 s.Deps, S sa2 sk2 s.Transfers, S sa3 sk3 s.Boundary, S valuesa0 valuesk0 values] (fun g : Value => i64ok rr.1.Width ∧ i64ok rr.2) (fun g => .tuple #[.agg #[vi rr.1.Width, g], vi rr.2]) (fun g => [sl g rr.1.Words]) := by
 refine FTi Tryz.func193 fun w0 M0 F0 => ?_
 unfold i64ok at hs_0 hn_0
 refine Fb 24 0 fun hl1 => ?_
 refine Fb 88 1 fun hl2 => ?_
 refine Fb 32 2 fun hl3 => ?_
 refine Fb 32 3 fun hl4 => ?_
 refine KS ?_
 refine Oa (Ab [vi s.Width, vl sa1 sk1 s.Deps, vl sa2 sk2 s.Transfers, vl sa3 sk3 s.Boundary]) fun p5 => Oa (Al ze42 [vi 0, .slice none 0 0]) fun p6 => Oq Va (KS ?_)
 refine Oq (VldA sh27 1) ?_
 refine letv (equations_Valid s) fun rv7 hg8 => ?_
 have hc9 := fn109 s sa1 sk1 sa2 sk2 sa3 sk3 pre rv7 hg8
 refine Oc [2, 3, 4] ca109 hc9 ?_
 rintro - -
 refine Oq Vnot (Oq Va (KS ?_))
 refine Kc ?_ ?_
 · intro h10
   have h12 := not_true h10
   refine KS ?_
   refine Oq (Vbd st42 [vi 0, .slice none 0 0]) (Ost (Scl [0] sh42 [vi 0, .slice none 0 0]) (Oq Va (KS ?_)))
   refine Jl [] (Ent.slNil (α := BitVec 64)) ?_
   have hq := q4 hrr ((GSet.mk 0 []), 1) (by simp only [equations_Right, h10, h12, hg8, cs4]); subst hq
   exact Kr (.slice none 0 0) rfl (.cellN 1 rfl sh42 rfl (reads_Cl _ _) rfl (.tmp rfl .nil)) [0] en
 intro h10
 have h15 := not_false h10
 try (have hvs := (EValid_iff s).1 (by simp only [h10, h15, hg8]); have hv1 := hvs.n; have hv2 := hvs.tl; have hv3 := hvs.bl; have hv4 := hvs.w; have hv5 := hvs.dep_len)
 refine KS ?_
 refine Oq Vm (Oq Vlss (Oq Vm ?_))
 refine Js 21 ?_ ?_
 · intro h17
   have g18 := of_decide_eq_true h17
   refine Osk (Osk (Osk (Osk (Osk (Oq Vpt (Oq Va (KS ?_)))))))
   refine Kt ?_
   refine KS ?_
   refine Oq (Vbd st42 [vi 0, .slice none 0 0]) (Ost (Scl [0] sh42 [vi 0, .slice none 0 0]) (Oq Va (KS ?_)))
   refine Jl [] (Ent.slNil (α := BitVec 64)) ?_
   have hq := q4 hrr ((GSet.mk 0 []), 9) (by simp only [equations_Right, h10, h15, h17, hg8, cs4]); subst hq
   exact Kr (.slice none 0 0) rfl (.cellN 1 rfl sh42 rfl (reads_Cl _ _) rfl (.tmp rfl .nil)) [0] en
 intro h17
 have g19 := of_decide_eq_false h17
 refine Oq Vm (Oq (Vfa fo27_1 1) (Oq (VldF sh23 1) (Oq (Vlen sl23) (Oq Vgeq (Oq Vpf (Oq Va (KS ?_)))))))
 refine Kc ?_ ?_
 · intro h20
   have g21 := of_decide_eq_true h20
   refine KS ?_
   refine Oq (Vbd st42 [vi 0, .slice none 0 0]) (Ost (Scl [0] sh42 [vi 0, .slice none 0 0]) (Oq Va (KS ?_)))
   refine Jl [] (Ent.slNil (α := BitVec 64)) ?_
   have hq := q4 hrr ((GSet.mk 0 []), 9) (by simp only [equations_Right, h10, h15, h17, h20, hg8, cs4]); subst hq
   exact Kr (.slice none 0 0) rfl (.cellN 1 rfl sh42 rfl (reads_Cl _ _) rfl (.tmp rfl .nil)) [0] en
 intro h20
 have g22 := of_decide_eq_false h20
 refine KS ?_
 refine Oq Vm (Oq (Vlen sl25) (Oq (Vfa fo27_1 1) (Oq (VldF sh23 1) (Oq (Vlen sl23) (Oq Vneq (Oq Vm ?_))))))
 refine Js 36 ?_ ?_
 · intro h23
   have g24 := ne_of_bne h23
   refine Osk (Osk (Oq Vpt (Oq Va (KS ?_))))
   refine Kt ?_
   refine KS ?_
   refine Oq (Vbd st42 [vi 0, .slice none 0 0]) (Ost (Scl [0] sh42 [vi 0, .slice none 0 0]) (Oq Va (KS ?_)))
   refine Jl [] (Ent.slNil (α := BitVec 64)) ?_
   have hq := q4 hrr ((GSet.mk 0 []), 1) (by simp only [equations_Right, h10, h15, h17, h20, h23, hg8, cs4]); subst hq
   exact Kr (.slice none 0 0) rfl (.cellN 1 rfl sh42 rfl (reads_Cl _ _) rfl (.tmp rfl .nil)) [0] en
 intro h23
 have g25 := eq_of_bne_false h23
 refine Oq Vm ?_
 refine JJ_ent (Ent.pall [] rfl rfl) ?_
 refine letv (slices_ContainsFunc_Set values (fun x => equations_Right_1 x)) fun rv26 hg27 => ?_
 have hc28 := fn239 values valuesa0 valuesk0 244 [] (fun x => equations_Right_1 x) [] ca244 (fun x hx a1 k1 hq0 => FT_pall (A1 := _) (fn244 x a1 k1  hq0 _ rfl)) rv26 hg27
 refine Oc [6, 0] ca239 hc28 ?_
 rintro - -
 refine Oq Vpf (Oq Va (KS ?_))
 refine Kc ?_ ?_
 · intro h29
   try (have hvs := (EValid_iff s).1 (by simp only [h10, h15, h17, h20, h23, h29, hg8, hg27]); have hv1 := hvs.n; have hv2 := hvs.tl; have hv3 := hvs.bl; have hv4 := hvs.w; have hv5 := hvs.dep_len)
   refine KS ?_
   refine Oq (Vbd st42 [vi 0, .slice none 0 0]) (Ost (Scl [1] sh42 [vi 0, .slice none 0 0]) (Oq Va (KS ?_)))
   refine Jl [] (Ent.slNil (α := BitVec 64)) ?_
   have hq := q4 hrr ((GSet.mk 0 []), 1) (by simp only [equations_Right, h10, h15, h17, h20, h23, h29, hg8, hg27, cs4]); subst hq
   exact Kr (.slice none 0 0) rfl (.cellN 1 rfl sh42 rfl (reads_Cl _ _) rfl (.tmp rfl .nil)) [0] en
 intro h29
 refine KS ?_
 refine Oq (Vfa fo27_0 2) (Oq (VldF sh3 2) (Oq Vm ?_))
 refine letv (equations_sets s.Width values) fun rv32 hg33 => ?_
 have hc34 := fn187 s.Width values valuesa0 valuesk0 pre rv32 hg33
 refine Oc [6] ca187 hc34 ?_
 rintro - -
 refine Oq Vnot (Oq Va (KS ?_))
 refine Kc ?_ ?_
 · intro h35
   have h37 := not_true h35
   refine KS ?_
   refine Oq (Vbd st42 [vi 0, .slice none 0 0]) (Ost (Scl [1] sh42 [vi 0, .slice none 0 0]) (Oq Va (KS ?_)))
   refine Jl [] (Ent.slNil (α := BitVec 64)) ?_
   have hq := q4 hrr ((GSet.mk 0 []), 2) (by simp only [equations_Right, h10, h15, h17, h20, h23, h29, h35, h37, hg8, hg27, hg33, cs4]); subst hq
   exact Kr (.slice none 0 0) rfl (.cellN 1 rfl sh42 rfl (reads_Cl _ _) rfl (.tmp rfl .nil)) [0] en
 intro h35
 have h40 := not_false h35
 try (have hvs := (EValid_iff s).1 (by simp only [h10, h15, h17, h20, h23, h29, h35, h40, hg8, hg27, hg33]); have hv1 := hvs.n; have hv2 := hvs.tl; have hv3 := hvs.bl; have hv4 := hvs.w; have hv5 := hvs.dep_len)
 refine KS ?_
 refine JJ_peek_GSet n.toNat 5 rfl rng fun a42 k43 hb44 => ?_
 unfold i64ok at hb44
 refine Fb 8 1 fun hl45 => ?_
 refine JK_drawK [0, 1, 0, 4, 0, 28, 60, 124, 252, 511, 0, 2047] fmix ?_
 refine Dv [4] (Vfa fo27_0 0) (Dv [4] (VldF sh3 0) (Dv [4] (Vfa fo27_3 0) (Dv [4] (VldF sh25 0) (Dv [] Vm (Dv [7] (Vi sl25 0) (Dv [0] (Vfa fo42_1 0) (Dv [0] (VldF sh40 0) ?_)))))))
 refine letv (slices_Clone_uint64 ((s.Boundary.getD n.toNat default).Words)) fun rv47 hg48 => ?_
 refine Dx [1] [] [2, 0, 1] (fun G => (G.g 8 0)) [fun G => SP.fact ((rv47.length = ((s.Boundary.getD n.toNat default).Words).length)), fun G => os (G.g 8 0) rv47] (fun G => xC [0] ca184 (fn184 ((s.Boundary.getD n.toNat default).Words) a42 k43 rv47 hg48)) ?_
 refine Dx [10] [] [0] (fun G => .agg #[vi s.Width, (G.g 8 0)]) [] (fun G => xV (v := .agg #[vi s.Width, (G.g 8 0)]) (Vo 0 rfl (isO_os _ _) fun aq49 kq50 eq51 => (by rw [eq51]; exact Vbd st42 [vi s.Width, .slice aq49 ((rv47 : List (BitVec 64)).length) kq50]))) (Dx [] [] [0] (fun G => (G.g 10 0)) [fun G => Cl (G.g 10 0) [vi 0, .slice none 0 0]] (fun G => xA (Al ze42 [vi 0, .slice none 0 0])) (Dx0 [10, 11] [11] [1, 0] [fun G => Cl (G.g 10 0) [vi s.Width, (G.g 8 0)]] (fun G => x1 0 rfl os_one fun ho53 => (xS (Scl [1] sh42 [vi s.Width, (G.g 8 0)] (v := .agg #[vi s.Width, (G.g 8 0)]) (h1 := show [vi s.Width, (G.g 8 0)].all (·.oneCell') = true from (by simp only [List.all_cons, List.all_nil, ho53, Bool.and_true, Bool.true_and] <;> rfl))))) ?_))
 refine Dn ⟨by kernel_rfl, fun G => ?_⟩
 refine Jw2 [(1, vl valuesa0 valuesk0 values), (2, vi n), (3, p5), (6, p6), (8, (G.g 10 0))] [0, 1, 2, 3, 4, 5, 6, 7, 8] [SP.fact ((rv47.length = ((s.Boundary.getD n.toNat default).Words).length)), os (G.g 8 0) rv47, Cl (G.g 10 0) [vi s.Width, (G.g 8 0)]] ?_
 generalize G.g 8 0 = c46, G.g 10 0 = p52
 refine Jf 9 rfl ?_; rintro he54
 refine Jk [0, 1, 2, 3, 3, 4, 5, 6, 7, 9, 9] ?_
 refine Jo 9 ?_; rintro a55 k56 rfl
 refine Fb 8 9 fun hl57 => ?_
 refine KS ?_
 refine Oq (Vfa fo27_1 4) (Oq (VldF sh23 4) (Oq Vm (Oq (Vi sl23 5) ?_)))
 refine JJ_peekL n.toNat 5 rfl rng fun a58 k59 => ?_
 refine Fb 8 1 fun hl60 => ?_
 refine Fo 1 fun ho61 => ?_
 refine Oq (Vld sh22 0) (Oq (Vlen sl22) (Oq Vm (KS ?_)))
 refine Jl [11] (Ent.freeze _ _) ?_
 refine Kl (γ := Nat × Int × List (BitVec 64) × Int × Option Addr × Nat) (fun (r62, out0_63, out1_64, v64_65, a66, k67) => ⟨[(1, vl valuesa0 valuesk0 values), (3, p5), (6, p6), (8, p52), (62, vl a58 k59 (s.Deps.getD n.toNat [])), (63, vi ((s.Deps.getD n.toNat []).length : Int)), (64, vi v64_65)], [S a66 k67 out1_64, S a58 k59 ((s.Deps.getD n.toNat []) : List Int), pAll [], Cl p6 [vi 0, .slice none 0 0], pv p5 [vi s.Width, vl sa1 sk1 s.Deps, vl sa2 sk2 s.Transfers, vl sa3 sk3 s.Boundary], S sa1 sk1 s.Deps, S sa2 sk2 s.Transfers, S sa3 sk3 s.Boundary, S valuesa0 valuesk0 values, Cl p52 [vi out0_63, vl a66 k67 out1_64]], equations_Right_L0 s values n r62 out0_63 out1_64 v64_65 = equations_Right_L0 s values n (((((s.Deps.getD n.toNat []).length : Int) : Int) - 0).toNat) s.Width rv47 0 ∧ r62 = ((((s.Deps.getD n.toNat []).length : Int) : Int) - v64_65).toNat ∧ (0 : Int) ≤ v64_65 ∧ (v64_65 ≤ ((s.Deps.getD n.toNat []).length : Int) ∨ v64_65 = 0) ∧ (-9223372036854775808 ≤ out0_63 ∧ out0_63 ≤ 9223372036854775807) ∧ (-9223372036854775808 ≤ v64_65 ∧ v64_65 ≤ 9223372036854775807), r62⟩) (((((s.Deps.getD n.toNat []).length : Int) : Int) - 0).toNat, s.Width, rv47, 0, a55, k56) [0, 2, 5, 6, 6, 7, 8, 9, 10, 11] ⟨rfl, rfl, (by omega), (.inr rfl), (by omega), (by omega)⟩ ?_
 rintro ⟨r62, out0_63, out1_64, v64_65, a66, k67⟩ ⟨hM68, hr69, hi70, hi71, hk72, hk73⟩
 refine JJ_nx fun _ _ hL hA => ?_; dsimp only at hL hA; subst hL hA
 refine Fb 8 0 fun hl74 => ?_
 refine Fb 8 1 fun hl75 => ?_
 refine Fo 1 fun ho76 => ?_
 refine Fb 24 5 fun hl77 => ?_
 refine Fb 88 6 fun hl78 => ?_
 refine Fb 32 7 fun hl79 => ?_
 refine Fb 32 8 fun hl80 => ?_
 refine KS ?_
 refine Oq Vlss (KS ?_)
 refine Kc ?_ ?_
 · intro h81
   have g82 := of_decide_eq_true h81
   have hq := hvs.dep_mem (j := n) (by omega) (by omega) _ (getD_mem (xs := s.Deps.getD n.toNat []) (i := v64_65.toNat) (d := 0) (by omega))
   obtain ⟨r83, rfl⟩ := scc (n := r62) (by omega)
   refine KS ?_
   refine Oq (Vi sl22 1) ?_
   have hb84 := ok1 (i := v64_65.toNat) ho76 rng
   refine Oq (VldI sh3 1) (Oq Va (KS ?_))
   refine JJ_peek_GTransfer (((s.Deps.getD n.toNat []).getD v64_65.toNat 0) : Int).toNat 6 rfl rng fun a85 k86 a87 k88 a89 k90 hb91 hb92 => ?_
   unfold i64ok at hb91 hb92
   refine Fb 8 1 fun hl93 => ?_
   refine Fb 8 2 fun hl94 => ?_
   refine Fb 16 3 fun hl95 => ?_
   refine JJ_peek_GSet (((s.Deps.getD n.toNat []).getD v64_65.toNat 0) : Int).toNat 12 rfl rng fun a96 k97 hb98 => ?_
   unfold i64ok at hb98
   refine Fb 8 1 fun hl99 => ?_
   refine JK_drawK [0, 1, 0, 7, 15, 0, 0, 96, 224, 511, 1023, 2047, 2047, 0, 12287, 32767] fmix ?_
   refine Dv [10] (Vfa fo27_2 0) (Dv [10] (VldF sh24 0) (Dv [] Vm (Dv [12] (Vi sl24 0) (Dv [2] (VldA sh98 0) (Dv [] Vm (Dv [] Vm (Dv [14] (Vi sl25 0) (Dv [0] (VldA sh42 0) ?_))))))))
   refine letv (transfer_Apply (s.Transfers.getD (((s.Deps.getD n.toNat []).getD v64_65.toNat 0) : Int).toNat default) (values.getD (((s.Deps.getD n.toNat []).getD v64_65.toNat 0) : Int).toNat default)) fun rv101 hg102 => ?_
   refine Dx [1, 3, 4, 5] [] [2, 3, 4, 5, 0, 1] (fun G => .tuple #[.agg #[vi rv101.1.Width, (G.g 9 0)], vi rv101.2]) [fun G => SP.fact (i64ok rv101.1.Width ∧ i64ok rv101.2), fun G => sl (G.g 9 0) rv101.1.Words] (fun G => xC [1, 2, 3, 0] ca179 (fn179 ((s.Transfers.getD (((s.Deps.getD n.toNat []).getD v64_65.toNat 0) : Int).toNat default)) a85 k86 a87 k88 a89 k90 ((values.getD (((s.Deps.getD n.toNat []).getD v64_65.toNat 0) : Int).toNat default)) a96 k97 pre pre pre rv101 hg102)) (Dg [] (fun G => .tuple #[.agg #[vi rv101.1.Width, (G.g 9 0)], vi rv101.2]) (fun G => Vm) (Dg [] (fun G => .agg #[vi rv101.1.Width, (G.g 9 0)]) (fun G => Vx) (Dv [] Vx (Dx [] [] [0] (fun G => (G.g 13 0)) [fun G => Cl (G.g 13 0) [vi 0, .slice none 0 0]] (fun G => xA (Al ze42 [vi 0, .slice none 0 0])) (Dx0 [17, 18] [18] [1, 0] [fun G => Cl (G.g 13 0) [vi rv101.1.Width, (G.g 9 0)]] (fun G => x1 0 rfl sl_one fun ho104 => (xS (Scl [1] sh42 [vi rv101.1.Width, (G.g 9 0)] (v := .agg #[vi rv101.1.Width, (G.g 9 0)]) (h1 := show [vi rv101.1.Width, (G.g 9 0)].all (·.oneCell') = true from (by simp only [List.all_cons, List.all_nil, ho104, Bool.and_true, Bool.true_and] <;> rfl))))) (Dv [] Va ?_))))))
   refine Dn ⟨by kernel_rfl, fun G => ?_⟩
   refine Jw2 [(1, vl valuesa0 valuesk0 values), (3, p5), (6, p6), (8, p52), (62, vl a58 k59 (s.Deps.getD n.toNat [])), (63, vi ((s.Deps.getD n.toNat []).length : Int)), (64, vi v64_65), (11, (G.g 13 0))] [0, 1, 2, 3, 4, 5, 6, 7, 8, 9, 10, 11, 12, 13, 14, 15] [SP.fact (i64ok rv101.1.Width ∧ i64ok rv101.2), sl (G.g 9 0) rv101.1.Words, Cl (G.g 13 0) [vi rv101.1.Width, (G.g 9 0)]] ?_
   generalize G.g 9 0 = c100, G.g 13 0 = p103
   refine Jf 16 rfl ?_; rintro ⟨he105, he106⟩
   unfold i64ok at he105 he106
   refine Jk [0, 1, 2, 3, 4, 5, 6, 7, 8, 9, 9, 10, 11, 12, 13, 14, 15, 16] ?_
   refine Jo 16 ?_; rintro a107 k108 rfl
   refine Fb 8 16 fun hl109 => ?_
   refine KS ?_
   refine Oq (VldA sh42 15) (Oq (VldA sh42 17) ?_)
   refine letv (bitset_Union (GSet.mk out0_63 out1_64) rv101.1) fun rv111 hg112 => ?_
   have hc113 := fn180 ((GSet.mk out0_63 out1_64)) a66 k67 rv101.1 a107 k108 pre pre rv111 hg112
   refine Oc [6, 16] ca180 hc113 ?_
   rintro c110 ⟨he114, he115⟩
   unfold i64ok at he114 he115
   refine Jo 0 ?_; rintro a116 k117 rfl
   refine Fb 8 0 fun hl118 => ?_
   refine Oq Vm (Oq Vx (Oq Vx (Ost (Scl [16] sh42 [vi rv111.1.Width, vl a116 k117 rv111.1.Words]) (KS ?_))))
   refine Oq Vadd (Oq Vm (KS ?_))
   exact Kg (r83, rv111.1.Width, rv111.1.Words, (v64_65 + 1), a116, k117) [1, 9, 10, 11, 11, 12, 13, 14, 15, 0] ⟨(q3 hM68 (by simp only [equations_Right_L0, h10, h15, h17, h20, h23, h29, h35, h40, h81, hg8, hg27, hg33, hg48, hg102, hg112, cs4])), (by omega), (by omega), (by omega), (by omega), (by omega)⟩
 intro h81
 have g119 := of_decide_eq_false h81
 obtain rfl : r62 = 0 := by omega
 refine Ke ?_
 have hR120 := q2 hM68 (out0_63, out1_64) (by simp only [equations_Right_L0, h10, h15, h17, h20, h23, h29, h35, h40, h81, hg8, hg27, hg33, hg48, cs4])
 refine KS ?_
 refine Oq (VldA sh42 9) (Ost (Scl [3] sh42 [vi out0_63, vl a66 k67 out1_64]) (Oq Va (KS ?_)))
 have hq := q4 hrr ((GSet.mk out0_63 out1_64), 0) (by simp only [equations_Right, h10, h15, h17, h20, h23, h29, h35, h40, h81, hg8, hg27, hg33, hg48, hR120, cs4]); subst hq
 exact Kr (vl a66 k67 out1_64) rfl (.cellN 0 rfl sh42 rfl (reads_Cl _ _) rfl (.tmp rfl .nil)) [1] en
theorem fn112 (s : GSystem) (sa1 : Option Addr) (sk1 : Nat) (sa2 : Option Addr) (sk2 : Nat) (sa3 : Option Addr) (sk3 : Nat) (values : List GSet) (valuesa0 : Option Addr) (valuesk0 : Nat) (hs_0 : i64ok s.Width) (rr : List GSet × Int) (hrr : fixpoint_Next s values = rr) : FT Tryz.prog 112 #[.agg #[vi s.Width, vl sa1 sk1 s.Deps, vl sa2 sk2 s.Transfers, vl sa3 sk3 s.Boundary], vl valuesa0 valuesk0 values] [S sa1 sk1 s.Deps, S sa2 sk2 s.Transfers, S sa3 sk3 s.Boundary, S valuesa0 valuesk0 values] (fun g : Value => i64ok rr.2) (fun g => .tuple #[g, vi rr.2]) (fun g => [sl g rr.1]) := by
 refine FTi Tryz.func112 fun w0 M0 F0 => ?_
 unfold i64ok at hs_0
 refine Fb 24 0 fun hl1 => ?_
 refine Fb 88 1 fun hl2 => ?_
 refine Fb 32 2 fun hl3 => ?_
 refine Fb 32 3 fun hl4 => ?_
 refine KS ?_
 refine Oa (Ab [vi s.Width, vl sa1 sk1 s.Deps, vl sa2 sk2 s.Transfers, vl sa3 sk3 s.Boundary]) fun p5 => Oq Va (Oq Va (KS ?_))
 refine Oq (VldA sh27 0) ?_
 refine letv (equations_Valid s) fun rv6 hg7 => ?_
 have hc8 := fn109 s sa1 sk1 sa2 sk2 sa3 sk3 pre rv6 hg7
 refine Oc [1, 2, 3] ca109 hc8 ?_
 rintro - -
 refine Oq Vnot (KS ?_)
 refine Kc ?_ ?_
 · intro h9
   have h11 := not_true h9
   refine KS ?_
   refine Oq Va (Oq Va (KS ?_))
   refine Jl [] (Ent.slNil (α := GSet)) ?_
   have hq := q4 hrr ([], 1) (by simp only [fixpoint_Next, h9, h11, hg7, cs4]); subst hq
   exact Kr (.slice none 0 0) rfl (.tmp rfl (.tmp rfl .nil)) [0] en
 intro h9
 have h14 := not_false h9
 try (have hvs := (EValid_iff s).1 (by simp only [h9, h14, hg7]); have hv1 := hvs.n)
 refine KS ?_
 refine Oq Va (KS ?_)
 refine Oq (Vfa fo27_1 0) (Oq (VldF sh23 0) (Oq (Vlen sl23) (Oq Vm (KS ?_))))
 refine Jl [] (Ent.osNil (α := GSet)) ?_
 refine Kl (γ := Nat × List GSet × Int × Option Addr × Nat) (fun (r16, out_17, v16_18, a19, k20) => ⟨[(1, vl valuesa0 valuesk0 values), (2, p5), (6, vl a19 k20 out_17), (15, vi (s.Deps.length : Int)), (16, vi v16_18)], [O a19 k20 out_17, pv p5 [vi s.Width, vl sa1 sk1 s.Deps, vl sa2 sk2 s.Transfers, vl sa3 sk3 s.Boundary], S sa1 sk1 s.Deps, S sa2 sk2 s.Transfers, S sa3 sk3 s.Boundary, S valuesa0 valuesk0 values], fixpoint_Next_L0 s values r16 out_17 v16_18 = fixpoint_Next_L0 s values (((s.Deps.length : Int) - 0).toNat) [] 0 ∧ r16 = ((s.Deps.length : Int) - v16_18).toNat ∧ (0 : Int) ≤ v16_18 ∧ v16_18 ≤ (s.Deps.length : Int) ∧ (-9223372036854775808 ≤ v16_18 ∧ v16_18 ≤ 9223372036854775807) ∧ (out_17.length : Int) ≤ v16_18, r16⟩) (((s.Deps.length : Int) - 0).toNat, [], 0, none, 0) [0, 0, 1, 2, 3, 4] ⟨rfl, rfl, (by omega), (by omega), (by omega), iv0⟩ ?_
 rintro ⟨r16, out_17, v16_18, a19, k20⟩ ⟨hM21, hr22, hi23, hi24, hk25, hv26⟩
 refine JJ_nx fun _ _ hL hA => ?_; dsimp only at hL hA; subst hL hA
 refine Fb 32 0 fun hl27 => ?_
 refine Fb 24 2 fun hl28 => ?_
 refine Fb 88 3 fun hl29 => ?_
 refine Fb 32 4 fun hl30 => ?_
 refine Fb 32 5 fun hl31 => ?_
 refine KS ?_
 refine Oq Vlss (KS ?_)
 refine Kc ?_ ?_
 · intro h32
   have g33 := of_decide_eq_true h32
   obtain ⟨r34, rfl⟩ := scc (n := r16) (by omega)
   refine KS ?_
   refine Oq Vm (Oq Va (KS ?_))
   refine Oq (VldA sh27 1) (Oq Vm (Oq Vm ?_))
   refine letv (equations_Right s values v16_18) fun rv36 hg37 => ?_
   have hc38 := fn193 s sa1 sk1 sa2 sk2 sa3 sk3 values valuesa0 valuesk0 v16_18 pre pre rv36 hg37
   refine Oc [2, 3, 4, 5] ca193 hc38 ?_
   rintro c35 ⟨he39, he40⟩
   unfold i64ok at he39 he40
   refine Jo 0 ?_; rintro a41 k42 rfl
   refine Fb 8 0 fun hl43 => ?_
   refine Oq Vm (Oq Vx (Oq Vx (Oa (Al ze42 [vi 0, .slice none 0 0]) fun p44 => Ost (Scl [0] sh42 [vi rv36.1.Width, vl a41 k42 rv36.1.Words]) (Oq Va (KS ?_)))))
   refine Oq Vm (Oq Vneq (KS ?_))
   refine Kc ?_ ?_
   · intro h45
     have g46 := ne_of_bne h45
     refine KS ?_
     refine Oq Vm (Oq Va (Oq Va (KS ?_)))
     refine Jl [] (Ent.slNil (α := GSet)) ?_
     have hR47 := q2 hM21 (.ret ([], rv36.2)) (by simp only [fixpoint_Next_L0, h9, h14, h32, h45, hg7, hg37, cs4])
     have hq := q4 hrr ([], rv36.2) (by simp only [fixpoint_Next, h9, h14, h32, h45, hg7, hg37, hR47, cs4]); subst hq
     exact Kr (.slice none 0 0) rfl (.tmp rfl (.tmp rfl .nil)) [0] en
   intro h45
   have g48 := eq_of_bne_false h45
   refine KS ?_
   refine Oq Vm (Oq (VldA sh42 0) (Oa (AsV sl25 sz25 [.agg #[vi rv36.1.Width, vl a41 k42 rv36.1.Words]] [vi rv36.1.Width, vl a41 k42 rv36.1.Words]) fun c49 => ?_))
   refine Jo 0 ?_; rintro a50 k51 rfl
   refine Jl [0, 1] (Ent.cr1 (α := GSet) (A := [S a41 k42 rv36.1.Words]) _ rv36.1 _ (Nat.le_of_ble_eq_true rfl) (fun h => ⟨_, rfl, (by unfold i64ok; first | omega | (dsimp only; omega)), sepAll_get (i := 0) rfl h⟩)) ?_
   refine Oa (ApO [4, 0] sl25 sl25 sz25) fun c52 => ?_
   refine Jo 0 ?_; rintro a53 k54 rfl
   refine Fb 32 0 fun hl55 => ?_
   have hn56 := la out_17 ([rv36.1] : List GSet)
   refine Oq Va (KS ?_)
   refine Oq Vadd (Oq Vm (KS ?_))
   exact Kg (r34, (out_17 ++ [rv36.1]), (v16_18 + 1), a53, k54) [0, 3, 4, 5, 6, 7] ⟨(q3 hM21 (by simp only [fixpoint_Next_L0, h9, h14, h32, h45, hg7, hg37, cs4])), (by omega), (by omega), (by omega), (by omega), iv1⟩
 intro h32
 have g57 := of_decide_eq_false h32
 obtain rfl : r16 = 0 := by omega
 refine Ke ?_
 have hR58 := q2 hM21 (.brk out_17) (by simp only [fixpoint_Next_L0, h9, h14, h32, hg7, cs4])
 refine KS ?_
 refine Oq Vm (Oq Va (Oq Va (KS ?_)))
 refine Jl [0] (Ent.freeze _ _) ?_
 have hq := q4 hrr (out_17, 0) (by simp only [fixpoint_Next, h9, h14, h32, hg7, hR58, cs4]); subst hq
 exact Kr (vl a19 k20 out_17) rfl (.tmp rfl (.tmp rfl .nil)) [0] en
theorem fn111 (now : List GSet) (nowa0 : Option Addr) (nowk0 : Nat) (cap0P : Value) (cap0 : GSystem) (cap0a1 : Option Addr) (cap0k1 : Nat) (cap0a2 : Option Addr) (cap0k2 : Nat) (cap0a3 : Option Addr) (cap0k3 : Nat) (hcap0_0 : i64ok cap0.Width) (rr : List GSet) (hrr : fixpoint_Solve_1 now cap0 = rr) : FT Tryz.prog 111 #[vl nowa0 nowk0 now, cap0P] [S nowa0 nowk0 now, pv cap0P [vi cap0.Width, vl cap0a1 cap0k1 cap0.Deps, vl cap0a2 cap0k2 cap0.Transfers, vl cap0a3 cap0k3 cap0.Boundary], S cap0a1 cap0k1 cap0.Deps, S cap0a2 cap0k2 cap0.Transfers, S cap0a3 cap0k3 cap0.Boundary] (fun g : Value => True) (fun g => g) (fun g => [sl g rr]) := by
 refine FTi Tryz.func111 fun w0 M0 F0 => ?_
 unfold i64ok at hcap0_0
 refine Fb 32 0 fun hl1 => ?_
 refine Fb 24 2 fun hl2 => ?_
 refine Fb 88 3 fun hl3 => ?_
 refine Fb 32 4 fun hl4 => ?_
 refine KS ?_
 refine Oq Va (KS ?_)
 refine Oq (VldA sh27 1) (Oq Vm ?_)
 refine letv (fixpoint_Next cap0 now) fun rv6 hg7 => ?_
 have hc8 := fn112 cap0 cap0a1 cap0k1 cap0a2 cap0k2 cap0a3 cap0k3 now nowa0 nowk0 pre rv6 hg7
 refine Oc [2, 3, 4, 0] ca112 hc8 ?_
 rintro c5 he9
 unfold i64ok at he9
 refine Jo 0 ?_; rintro a10 k11 rfl
 refine Fb 32 0 fun hl12 => ?_
 refine Oq Vm (Oq Vx (Oq Vx (Oq Va (Oq Va (KS ?_)))))
 refine Oq Vm (Oq Va (KS ?_))
 have hq := q4 hrr rv6.1 (by simp only [fixpoint_Solve_1, hg7, cs4]); subst hq
 exact Kr (vl a10 k11 rv6.1) rfl (.tmp rfl .nil) [0] trivial
theorem fn49 (s : GSystem) (sa1 : Option Addr) (sk1 : Nat) (sa2 : Option Addr) (sk2 : Nat) (sa3 : Option Addr) (sk3 : Nat) (hs_0 : i64ok s.Width) (rr : List GSet × Int × Int) (hrr : fixpoint_Solve s = rr) : FT Tryz.prog 49 #[.agg #[vi s.Width, vl sa1 sk1 s.Deps, vl sa2 sk2 s.Transfers, vl sa3 sk3 s.Boundary]] [S sa1 sk1 s.Deps, S sa2 sk2 s.Transfers, S sa3 sk3 s.Boundary] (fun g : Value => i64ok rr.2.1 ∧ i64ok rr.2.2) (fun g => .tuple #[g, vi rr.2.1, vi rr.2.2]) (fun g => [sl g rr.1]) := by
 refine FTi Tryz.func49 fun w0 M0 F0 => ?_
 unfold i64ok at hs_0
 refine Fb 24 0 fun hl1 => ?_
 refine Fb 88 1 fun hl2 => ?_
 refine Fb 32 2 fun hl3 => ?_
 refine KS ?_
 refine Oa (Ab [vi s.Width, vl sa1 sk1 s.Deps, vl sa2 sk2 s.Transfers, vl sa3 sk3 s.Boundary]) fun p4 => Oq Va (Oq Va (Oq Va (KS ?_)))
 refine Oq (VldA sh27 0) ?_
 refine letv (equations_Valid s) fun rv5 hg6 => ?_
 have hc7 := fn109 s sa1 sk1 sa2 sk2 sa3 sk3 pre rv5 hg6
 refine Oc [1, 2, 3] ca109 hc7 ?_
 rintro - -
 refine Oq Vnot (KS ?_)
 refine Kc ?_ ?_
 · intro h8
   have h10 := not_true h8
   refine KS ?_
   refine Oq Va (Oq Va (Oq Va (KS ?_)))
   refine Jl [] (Ent.slNil (α := GSet)) ?_
   have hq := q4 hrr ([], 0, 1) (by simp only [fixpoint_Solve, h8, h10, hg6, cs4]); subst hq
   exact Kr (.slice none 0 0) rfl (.tmp rfl (.tmp rfl (.tmp rfl .nil))) [0] en
 intro h8
 have h13 := not_false h8
 try (have hvs := (EValid_iff s).1 (by simp only [h8, h13, hg6]); have hv1 := hvs.n; have hv4 := hvs.w)
 refine KS ?_
 refine Oq (Vfa fo27_0 0) (Oq (VldF sh3 0) (Oq (Vfa fo27_1 0) (Oq (VldF sh23 0) (Oq (Vlen sl23) (Oq (Vf [p4]) ?_)))))
 refine JJ_ent (Ent.pall [0, 1, 2, 3] rfl rfl) ?_
 refine letv (fixpoint_rounds s.Width (s.Deps.length : Int) (fun x0 => fixpoint_Solve_1 x0 s)) fun rv16 hg17 => ?_
 have hc18 := fn110 s.Width ((s.Deps.length : Int)) 111 [p4] (fun x0 => fixpoint_Solve_1 x0 s) [pv p4 [vi s.Width, vl sa1 sk1 s.Deps, vl sa2 sk2 s.Transfers, vl sa3 sk3 s.Boundary], S sa1 sk1 s.Deps, S sa2 sk2 s.Transfers, S sa3 sk3 s.Boundary] pre pre ca111 (fun x0 a0 k0 => FT_pall (A1 := _) (fn111 x0 a0 k0 p4 s sa1 sk1 sa2 sk2 sa3 sk3 pre _ rfl)) pre (rounds_ok hvs) rv16 hg17
 refine Oc [0] ca110 hc18 ?_
 rintro c15 he19
 unfold i64ok at he19
 refine Jo 0 ?_; rintro a20 k21 rfl
 refine Fb 32 0 fun hl22 => ?_
 refine Oq Vm (Oq Vx (Oq Vx (Oq Va (Oq Va (KS ?_)))))
 refine Oq Vm (Oq Vm (Oq Va (Oq Va (Oq Va (KS ?_)))))
 have hq := q4 hrr (rv16.1, rv16.2, 0) (by simp only [fixpoint_Solve, h8, h13, hg6, hg17, cs4]); subst hq
 exact Kr (vl a20 k21 rv16.1) rfl (.tmp rfl (.tmp rfl (.tmp rfl .nil))) [0] en
theorem fn91 (s : GSet) (sa1 : Option Addr) (sk1 : Nat) (hs_0 : i64ok s.Width) (rr : Bool) (hrr : flqref1_Valid s = rr) : FT Tryz.prog 91 #[.agg #[vi s.Width, vl sa1 sk1 s.Words]] [S sa1 sk1 s.Words] (fun g : Unit => True) (fun g => vb rr) (fun g => []) := by
 refine FTi Tryz.func91 fun w0 M0 F0 => ?_
 unfold i64ok at hs_0
 refine Fb 8 0 fun hl1 => ?_
 refine KS ?_
 refine Oa (Ab [vi s.Width, vl sa1 sk1 s.Words]) fun p2 => Oq Va (KS ?_)
 refine Oq (Vfa fo42_0 0) (Oq (VldF sh3 0) (Oq Vlss (Oq Vm ?_)))
 refine Js 7 ?_ ?_
 · intro h3
   have g4 := of_decide_eq_true h3
   refine Osk (Osk (Osk (Oq Vpt (Oq Vm (Osk (Osk (Osk (Osk (Osk ?_)))))))))
   refine Osk (Osk (Osk (Oq Vpt (KS ?_))))
   refine Kt ?_
   refine KS ?_
   refine Oq Va (KS ?_)
   have hq := q4 hrr false (by simp only [flqref1_Valid, h3, cs4]); subst hq
   exact Kr () rfl (.tmp rfl .nil) [] trivial
 intro h3
 have g5 := of_decide_eq_false h3
 refine Oq (Vfa fo42_0 0) (Oq (VldF sh3 0) (Oq Vgtr (Oq Vpf (Oq Vm ?_))))
 refine Js 12 ?_ ?_
 · intro h6
   have g7 := of_decide_eq_true h6
   refine Osk (Osk (Osk (Osk (Osk (Osk (Osk (Osk (Oq Vpt (KS ?_)))))))))
   refine Kt ?_
   refine KS ?_
   refine Oq Va (KS ?_)
   have hq := q4 hrr false (by simp only [flqref1_Valid, h3, h6, cs4]); subst hq
   exact Kr () rfl (.tmp rfl .nil) [] trivial
 intro h6
 have g8 := of_decide_eq_false h6
 refine Oq (Vfa fo42_1 0) (Oq (VldF sh40 0) (Oq (Vlen sl40) (Oq (Vfa fo42_0 0) (Oq (VldF sh3 0) (Oq Vadd (Oq Vquo (Oq Vneq (Oq Vpf (KS ?_)))))))))
 refine Kc ?_ ?_
 · intro h9
   have g10 := ne_of_bne h9
   refine KS ?_
   refine Oq Va (KS ?_)
   have hq := q4 hrr false (by simp only [flqref1_Valid, h3, h6, h9, cs4]); subst hq
   exact Kr () rfl (.tmp rfl .nil) [] trivial
 intro h9
 have g11 := eq_of_bne_false h9
 refine KS ?_
 refine Oq (Vfa fo42_0 0) (Oq (VldF sh3 0) (Oq Va (KS ?_)))
 refine Kl (γ := Nat × Int) (fun (r12, b_13) => ⟨[(1, p2), (3, vi b_13)], [pv p2 [vi s.Width, vl sa1 sk1 s.Words], S sa1 sk1 s.Words], flqref1_Valid_L0 s r12 b_13 = flqref1_Valid_L0 s ((((64 * (s.Words.length : Int)) : Int) - s.Width).toNat) s.Width ∧ r12 = (((64 * (s.Words.length : Int)) : Int) - b_13).toNat ∧ (s.Width : Int) ≤ b_13 ∧ (b_13 ≤ (64 * (s.Words.length : Int)) ∨ b_13 = s.Width) ∧ (-9223372036854775808 ≤ b_13 ∧ b_13 ≤ 9223372036854775807), r12⟩) ((((64 * (s.Words.length : Int)) : Int) - s.Width).toNat, s.Width) [0, 1] ⟨rfl, rfl, (by omega), (.inr rfl), (by omega)⟩ ?_
 rintro ⟨r12, b_13⟩ ⟨hM14, hr15, hi16, hi17, hk18⟩
 refine JJ_nx fun _ _ hL hA => ?_; dsimp only at hL hA; subst hL hA
 refine Fb 8 1 fun hl19 => ?_
 refine KS ?_
 refine Oq Vm (Oq (Vfa fo42_1 0) (Oq (VldF sh40 0) (Oq (Vlen sl40) (Oq Vmul (Oq Vlss (KS ?_))))))
 refine Kc ?_ ?_
 · intro h20
   have g21 := of_decide_eq_true h20
   obtain ⟨r22, rfl⟩ := scc (n := r12) (by omega)
   refine KS ?_
   refine Oq (Vfa fo42_1 0) (Oq (VldF sh40 0) (Oq Vm (Oq Vquo (Oq (Vi sl40 1) (Oq (VldU sh122 1) (Oq Vm (Oq Vrem (Oq (VcU un3 un123) (Oq VshrU ?_)))))))))
   refine Oq (VandU (b := 1#64)) (Oq (VeqlU (b := 1#64)) (KS ?_))
   refine Kc ?_ ?_
   · intro h23
     have g24 := eq_of_beq h23
     refine KS ?_
     refine Oq Va (KS ?_)
     have hR25 := q2 hM14 (.ret false) (by simp only [flqref1_Valid_L0, h3, h6, h9, h20, h23, cs4])
     have hq := q4 hrr false (by simp only [flqref1_Valid, h3, h6, h9, h20, h23, hR25, cs4]); subst hq
     exact Kr () rfl (.tmp rfl .nil) [] trivial
   intro h23
   have g26 := ne_of_beq_false h23
   refine KS ?_
   refine Oq Vm (Oq Vadd (Oq Va (KS ?_)))
   exact Kg (r22, (b_13 + 1)) [0, 1] ⟨(q3 hM14 (by simp only [flqref1_Valid_L0, h3, h6, h9, h20, h23, cs4])), (by omega), (by omega), (by omega), (by omega)⟩
 intro h20
 have g27 := of_decide_eq_false h20
 obtain rfl : r12 = 0 := by omega
 refine Ke ?_
 have hR28 := q2 hM14 (.brk ()) (by simp only [flqref1_Valid_L0, h3, h6, h9, h20, cs4])
 refine KS ?_
 refine Oq Va (KS ?_)
 have hq := q4 hrr true (by simp only [flqref1_Valid, h3, h6, h9, h20, hR28, cs4]); subst hq
 exact Kr () rfl (.tmp rfl .nil) [] trivial
theorem fn150 (l : List Int) (la0 : Option Addr) (lk0 : Nat) (n : Int) (hn_0 : i64ok n) (rr : Bool) (hrr : flqref7_Rising l n = rr) : FT Tryz.prog 150 #[vl la0 lk0 l, vi n] [S la0 lk0 l] (fun g : Unit => True) (fun g => vb rr) (fun g => []) := by
 refine FTi Tryz.func150 fun w0 M0 F0 => ?_
 unfold i64ok at hn_0
 refine Fb 8 0 fun hl1 => ?_
 refine Fo 0 fun ho2 => ?_
 refine KS ?_
 refine Oq Va (KS ?_)
 refine Oq Va (KS ?_)
 refine Kl (γ := Nat × Int) (fun (r3, i_4) => ⟨[(0, vl la0 lk0 l), (1, vi n), (5, vi i_4)], [S la0 lk0 l], flqref7_Rising_L0 l n r3 i_4 = flqref7_Rising_L0 l n (((l.length : Int) - 0).toNat) 0 ∧ r3 = ((l.length : Int) - i_4).toNat ∧ (0 : Int) ≤ i_4 ∧ i_4 ≤ (l.length : Int) ∧ (-9223372036854775808 ≤ i_4 ∧ i_4 ≤ 9223372036854775807), r3⟩) (((l.length : Int) - 0).toNat, 0) [0] ⟨rfl, rfl, (by omega), (by omega), (by omega)⟩ ?_
 rintro ⟨r3, i_4⟩ ⟨hM5, hr6, hi7, hi8, hk9⟩
 refine JJ_nx fun _ _ hL hA => ?_; dsimp only at hL hA; subst hL hA
 refine Fb 8 0 fun hl10 => ?_
 refine Fo 0 fun ho11 => ?_
 refine KS ?_
 refine Oq Vm (Oq Vm (Oq (Vlen sl22) (Oq Vlss (KS ?_))))
 refine Kc ?_ ?_
 · intro h12
   have g13 := of_decide_eq_true h12
   obtain ⟨r14, rfl⟩ := scc (n := r3) (by omega)
   refine KS ?_
   refine Kq [0, 0, 3, 7, 15, 31, 63, 63, 255, 511, 63, 2047, 4095, 8191, 16383, 32767, 65535, 131071, 131071, 393215, 1048575, 2097151, 131071, 131071, 12713983, 29491199, 67108863, 134217727, 268435455] fmix ?_
   refine Qv [] Vm (Qv [] Vm (Qv [0] (Vi sl22 0) ?_))
   have hb15 := ok1 (i := i_4.toNat) ho11 rng
   refine Qv [0] (VldI sh3 0) (Qv [] Vlss ?_)
   refine bool_split (decide ((l.getD i_4.toNat 0) < 0)) ?_ ?_
   · intro h16
     have g17 := of_decide_eq_true h16
     refine Qb h16 [] Vm (Qs (Qs (Qs (Qs (Qs (Qs (Qv [] Vpt (Qv [] Vm (Qs ?_)))))))))
     refine Qs (Qs (Qs (Qs (Qs (Qs (Qs (Qs (Qs (Qs ?_)))))))))
     refine Qs (Qs (Qs (Qv [] Vpt ?_)))
     refine Qn ⟨by kernel_rfl, ?_⟩
     refine Kt ?_
     refine KS ?_
     refine Oq Va (KS ?_)
     have hR18 := q2 hM5 (.ret false) (by simp only [flqref7_Rising_L0, h12, h16, cs4])
     have hq := q4 hrr false (by simp only [flqref7_Rising, h12, h16, hR18, cs4]); subst hq
     exact Kr () rfl (.tmp rfl .nil) [] trivial
   intro h16
   have g19 := of_decide_eq_false h16
   refine Qb h16 [] Vm (Qv [] Vm (Qv [] Vm (Qv [0] (Vi sl22 0) ?_)))
   have hb20 := ok1 (i := i_4.toNat) ho11 rng
   refine Qv [0] (VldI sh3 0) (Qv [] Vm (Qv [] Vgeq (Qv [] Vpf ?_)))
   refine bool_split (decide (n ≤ (l.getD i_4.toNat 0))) ?_ ?_
   · intro h21
     have g22 := of_decide_eq_true h21
     refine Qb h21 [] Vm (Qs (Qs (Qs (Qs (Qs (Qs (Qs (Qs (Qs ?_)))))))))
     refine Qs (Qs (Qs (Qs (Qs (Qv [] Vpt ?_)))))
     refine Qn ⟨by kernel_rfl, ?_⟩
     refine Kt ?_
     refine KS ?_
     refine Oq Va (KS ?_)
     have hR23 := q2 hM5 (.ret false) (by simp only [flqref7_Rising_L0, h12, h16, h21, cs4])
     have hq := q4 hrr false (by simp only [flqref7_Rising, h12, h16, h21, hR23, cs4]); subst hq
     exact Kr () rfl (.tmp rfl .nil) [] trivial
   intro h21
   have g24 := of_decide_eq_false h21
   refine Qb h21 [] Vm (Qv [] Vm (Qv [] Vgtr ?_))
   refine bool_split (decide (0 < i_4)) ?_ ?_
   · intro h25
     have g26 := of_decide_eq_true h25
     refine Qb h25 [] Vm (Qv [] Vm (Qv [] Vm (Qv [] Vsub (Qv [0] (Vi sl22 0) ?_))))
     have hb27 := ok1 (i := ((i_4 - 1) : Int).toNat) ho11 rng
     refine Qv [0] (VldI sh3 0) (Qv [] Vm (Qv [] Vm (Qv [0] (Vi sl22 0) ?_)))
     have hb28 := ok1 (i := i_4.toNat) ho11 rng
     refine Qv [0] (VldI sh3 0) (Qv [] Vgeq (Qv [] Vpt (Qv [] Vpf ?_)))
     refine Qn ⟨by kernel_rfl, ?_⟩
     refine Kc ?_ ?_
     · intro h29
       have g30 := of_decide_eq_true h29
       refine KS ?_
       refine Oq Va (KS ?_)
       have hR31 := q2 hM5 (.ret false) (by simp only [flqref7_Rising_L0, h12, h16, h21, h25, h29, cs4])
       have hq := q4 hrr false (by simp only [flqref7_Rising, h12, h16, h21, h25, h29, hR31, cs4]); subst hq
       exact Kr () rfl (.tmp rfl .nil) [] trivial
     intro h29
     have g32 := of_decide_eq_false h29
     refine KS ?_
     refine Oq Vm (Oq Vadd (Oq Va (KS ?_)))
     exact Kg (r14, (i_4 + 1)) [0] ⟨(q3 hM5 (by simp only [flqref7_Rising_L0, h12, h16, h21, h25, h29, cs4])), (by omega), (by omega), (by omega), (by omega)⟩
   intro h25
   have g33 := of_decide_eq_false h25
   refine Qb h25 [] Vm (Qs (Qs (Qs (Qs (Qs (Qs (Qs (Qs (Qs ?_)))))))))
   refine Qs (Qv [] Vpf (Qv [] Vpf ?_))
   refine Qn ⟨by kernel_rfl, ?_⟩
   refine Kf ?_
   refine KS ?_
   refine Oq Vm (Oq Vadd (Oq Va (KS ?_)))
   exact Kg (r14, (i_4 + 1)) [0] ⟨(q3 hM5 (by simp only [flqref7_Rising_L0, h12, h16, h21, h25, cs4])), (by omega), (by omega), (by omega), (by omega)⟩
 intro h12
 have g34 := of_decide_eq_false h12
 obtain rfl : r3 = 0 := by omega
 refine Ke ?_
 have hR35 := q2 hM5 (.brk ()) (by simp only [flqref7_Rising_L0, h12, cs4])
 refine KS ?_
 refine Oq Va (KS ?_)
 have hq := q4 hrr true (by simp only [flqref7_Rising, h12, hR35, cs4]); subst hq
 exact Kr () rfl (.tmp rfl .nil) [] trivial
theorem fn210 (a : GCopy) (b : GCopy) (ha_0 : i64ok a.From) (ha_1 : i64ok a.To) (hb_0 : i64ok b.From) (hb_1 : i64ok b.To) (rr : Bool) (hrr : flqref1_Before a b = rr) : FT Tryz.prog 210 #[.agg #[vi a.From, vi a.To], .agg #[vi b.From, vi b.To]] [] (fun g : Unit => True) (fun g => vb rr) (fun g => []) := by
 refine FTi Tryz.func210 fun w0 M0 F0 => ?_
 unfold i64ok at ha_0 ha_1 hb_0 hb_1
 refine KS ?_
 refine Oa (Ab [vi a.From, vi a.To]) fun p1 => Oa (Ab [vi b.From, vi b.To]) fun p2 => Oq Va (KS ?_)
 refine Oq (Vfa fo147_0 1) (Oq (VldF sh3 1) (Oq (Vfa fo147_0 0) (Oq (VldF sh3 0) (Oq Vlss (Oq Vm ?_)))))
 refine Js 10 ?_ ?_
 · intro h3
   have g4 := of_decide_eq_true h3
   refine Osk (Osk (Osk (Osk (Osk (Osk (Osk (Osk (Osk (Osk ?_)))))))))
   refine Osk (Osk (Oq Vpt (Oq Va (KS ?_))))
   have hq := q4 hrr true (by simp only [flqref1_Before, h3, cs4]); subst hq
   exact Kr () rfl (.tmp rfl .nil) [] trivial
 intro h3
 have g5 := of_decide_eq_false h3
 refine Oq (Vfa fo147_0 1) (Oq (VldF sh3 1) (Oq (Vfa fo147_0 0) (Oq (VldF sh3 0) (Oq Veql (Oq Vm ?_)))))
 refine Js 16 ?_ ?_
 · intro h6
   have g7 := eq_of_beq h6
   refine Oq (Vfa fo147_1 1) (Oq (VldF sh3 1) (Oq (Vfa fo147_1 0) (Oq (VldF sh3 0) (Oq Vlss (Oq Vpt (Oq Vpf (Oq Va (KS ?_))))))))
   have hq := q4 hrr (decide (a.To < b.To)) (by simp only [flqref1_Before, h3, h6, cs4]); subst hq
   exact Kr () rfl (.tmp rfl .nil) [] trivial
 intro h6
 have g8 := ne_of_beq_false h6
 refine Osk (Osk (Osk (Osk (Osk (Oq Vpf (Oq Vpf (Oq Va (KS ?_))))))))
 have hq := q4 hrr false (by simp only [flqref1_Before, h3, h6, cs4]); subst hq
 exact Kr () rfl (.tmp rfl .nil) [] trivial
theorem fn151 (t : GTransfer) (ta1 : Option Addr) (tk1 : Nat) (ta3 : Option Addr) (tk3 : Nat) (ta4 : Option Addr) (tk4 : Nat) (ht_0 : i64ok t.Gen.Width) (ht_2 : i64ok t.Kill.Width) (rr : Bool) (hrr : flqref1_ValidTransfer t = rr) : FT Tryz.prog 151 #[.agg #[vi t.Gen.Width, vl ta1 tk1 t.Gen.Words, vi t.Kill.Width, vl ta3 tk3 t.Kill.Words, vl ta4 tk4 t.Copies]] [S ta1 tk1 t.Gen.Words, S ta3 tk3 t.Kill.Words, S ta4 tk4 t.Copies] (fun g : Unit => True) (fun g => vb rr) (fun g => []) := by
 refine FTi Tryz.func151 fun w0 M0 F0 => ?_
 unfold i64ok at ht_0 ht_2
 refine Fb 8 0 fun hl1 => ?_
 refine Fb 8 1 fun hl2 => ?_
 refine Fb 16 2 fun hl3 => ?_
 refine KS ?_
 refine Oa (Ab [vi t.Gen.Width, vl ta1 tk1 t.Gen.Words, vi t.Kill.Width, vl ta3 tk3 t.Kill.Words, vl ta4 tk4 t.Copies]) fun p4 => Oq Va (KS ?_)
 refine Oq (Vfa fo98_0 0) (Oq (VldG sh42 0 [vi t.Gen.Width, vl ta1 tk1 t.Gen.Words]) ?_)
 refine letv (flqref1_Valid t.Gen) fun rv5 hg6 => ?_
 have hc7 := fn91 t.Gen ta1 tk1 pre rv5 hg6
 refine Oc [1] ca91 hc7 ?_
 rintro - -
 refine Oq Vnot (Oq Vm ?_)
 refine Js 10 ?_ ?_
 · intro h8
   have h10 := not_true h8
   refine Osk (Osk (Osk (Osk (Oq Vpt (Oq Vm (Osk (Osk (Osk (Osk ?_)))))))))
   refine Osk (Osk (Osk (Oq Vpt (Oq Vm (Osk (Osk (Osk (Osk (Oq Vpt ?_)))))))))
   refine KS ?_
   refine Kt ?_
   refine KS ?_
   refine Oq Va (KS ?_)
   have hq := q4 hrr false (by simp only [flqref1_ValidTransfer, h8, h10, hg6, cs4]); subst hq
   exact Kr () rfl (.tmp rfl .nil) [] trivial
 intro h8
 have h13 := not_false h8
 refine Oq (Vfa fo98_1 0) (Oq (VldG sh42 0 [vi t.Kill.Width, vl ta3 tk3 t.Kill.Words]) ?_)
 refine letv (flqref1_Valid t.Kill) fun rv15 hg16 => ?_
 have hc17 := fn91 t.Kill ta3 tk3 pre rv15 hg16
 refine Oc [2] ca91 hc17 ?_
 rintro - -
 refine Oq Vnot (Oq Vpf (Oq Vm ?_))
 refine Js 16 ?_ ?_
 · intro h18
   have h20 := not_true h18
   refine Osk (Osk (Osk (Osk (Osk (Osk (Osk (Oq Vpt (Oq Vm (Osk ?_)))))))))
   refine Osk (Osk (Osk (Oq Vpt (KS ?_))))
   refine Kt ?_
   refine KS ?_
   refine Oq Va (KS ?_)
   have hq := q4 hrr false (by simp only [flqref1_ValidTransfer, h8, h13, h18, h20, hg6, hg16, cs4]); subst hq
   exact Kr () rfl (.tmp rfl .nil) [] trivial
 intro h18
 have h23 := not_false h18
 refine Oq (Vfa fo98_0 0) (Oq (VfaF fo42_0 0) (Oq (VldF sh3 0) (Oq (Vfa fo98_1 0) (Oq (VfaF fo42_0 0) (Oq (VldF sh3 0) (Oq Vneq (Oq Vpf (Oq Vm ?_))))))))
 refine Js 25 ?_ ?_
 · intro h25
   have g26 := ne_of_bne h25
   refine Osk (Osk (Osk (Osk (Oq Vpt (KS ?_)))))
   refine Kt ?_
   refine KS ?_
   refine Oq Va (KS ?_)
   have hq := q4 hrr false (by simp only [flqref1_ValidTransfer, h8, h13, h18, h23, h25, hg6, hg16, cs4]); subst hq
   exact Kr () rfl (.tmp rfl .nil) [] trivial
 intro h25
 have g27 := eq_of_bne_false h25
 refine Oq (Vfa fo98_2 0) (Oq (VldF sh96 0) (Oq (Vlen sl96) (Oq Vgtr (Oq Vpf (KS ?_)))))
 refine Kc ?_ ?_
 · intro h28
   have g29 := of_decide_eq_true h28
   refine KS ?_
   refine Oq Va (KS ?_)
   have hq := q4 hrr false (by simp only [flqref1_ValidTransfer, h8, h13, h18, h23, h25, h28, hg6, hg16, cs4]); subst hq
   exact Kr () rfl (.tmp rfl .nil) [] trivial
 intro h28
 have g30 := of_decide_eq_false h28
 refine KS ?_
 refine Oq (Vfa fo98_0 0) (Oq (VfaF fo42_0 0) (Oq (VldF sh3 0) (Oq Va (KS ?_))))
 refine Oq Va (KS ?_)
 refine Kl (γ := Nat × Int) (fun (r31, i_32) => ⟨[(1, p4), (3, vi t.Gen.Width), (4, vi i_32)], [pv p4 [vi t.Gen.Width, vl ta1 tk1 t.Gen.Words, vi t.Kill.Width, vl ta3 tk3 t.Kill.Words, vl ta4 tk4 t.Copies], S ta1 tk1 t.Gen.Words, S ta3 tk3 t.Kill.Words, S ta4 tk4 t.Copies], flqref1_ValidTransfer_L0 t r31 i_32 = flqref1_ValidTransfer_L0 t (((t.Copies.length : Int) - 0).toNat) 0 ∧ r31 = ((t.Copies.length : Int) - i_32).toNat ∧ (0 : Int) ≤ i_32 ∧ i_32 ≤ (t.Copies.length : Int) ∧ (-9223372036854775808 ≤ i_32 ∧ i_32 ≤ 9223372036854775807), r31⟩) (((t.Copies.length : Int) - 0).toNat, 0) [0, 1, 2, 3] ⟨rfl, rfl, (by omega), (by omega), (by omega)⟩ ?_
 rintro ⟨r31, i_32⟩ ⟨hM33, hr34, hi35, hi36, hk37⟩
 refine JJ_nx fun _ _ hL hA => ?_; dsimp only at hL hA; subst hL hA
 refine Fb 8 1 fun hl38 => ?_
 refine Fb 8 2 fun hl39 => ?_
 refine Fb 16 3 fun hl40 => ?_
 refine KS ?_
 refine Oq Vm (Oq (Vfa fo98_2 0) (Oq (VldF sh96 0) (Oq (Vlen sl96) (Oq Vlss (KS ?_)))))
 refine Kc ?_ ?_
 · intro h41
   have g42 := of_decide_eq_true h41
   obtain ⟨r43, rfl⟩ := scc (n := r31) (by omega)
   refine KS ?_
   refine Oq (Vfa fo98_2 0) (Oq (VldF sh96 0) (Oq Vm (Oq (Vi sl96 3) ?_)))
   refine JJ_peek_GCopy i_32.toNat 3 rfl rng fun hb44 hb45 => ?_
   unfold i64ok at hb44 hb45
   refine Oq (VldA sh147 0) (Oa (Al ze147 [vi 0, vi 0]) fun p46 => Ost (Scl [0] sh147 [vi ((t.Copies.getD i_32.toNat default).From), vi ((t.Copies.getD i_32.toNat default).To)]) (KS ?_))
   refine Jp 0 fun hp47 => ?_
   refine bool_split (decide ((t.Copies.getD i_32.toNat default).From < 0)) ?_ ?_
   · intro h48
     have g49 := of_decide_eq_true h48
     refine Kq [0, 1, 3, 7, 15, 31, 15, 127, 255, 511, 1023, 2047, 4095, 8191, 16383, 32767, 65535, 32767, 262143, 524287, 1048575, 2097151, 4194303, 8388607, 16777215, 33554431, 16777215, 83886079, 268435455, 536870911, 16777215, 2147483647, 4294967295, 8589934591, 17179869183] fmix ?_
     refine Qv [0] (Vfa fo147_0 0) (Qv [1] (VldF sh3 0) (Qb h48 [] Vlss (Qv [] Vm (Qs (Qs (Qs (Qs (Qv [] Vpt (Qv [] Vm ?_)))))))))
     refine Qs (Qs (Qs (Qv [] Vpt (Qv [] Vm (Qs (Qs (Qs (Qs (Qv [] Vpt ?_)))))))))
     refine Qv [] Vm (Qs (Qs (Qs (Qs (Qs (Qs (Qs (Qs (Qs ?_)))))))))
     refine Qs (Qs (Qs (Qs (Qv [] Vpt ?_))))
     refine Qn ⟨by kernel_rfl, ?_⟩
     refine Kt ?_
     refine KS ?_
     refine Oq Va (KS ?_)
     have hR50 := q2 hM33 (.ret false) (by simp only [flqref1_ValidTransfer_L0, h8, h13, h18, h23, h25, h28, h41, h48, hg6, hg16, cs4])
     have hq := q4 hrr false (by simp only [flqref1_ValidTransfer, h8, h13, h18, h23, h25, h28, h41, h48, hg6, hg16, hR50, cs4]); subst hq
     exact Kr () rfl (.tmp rfl .nil) [] trivial
   intro h48
   have g51 := of_decide_eq_false h48
   refine bool_split (decide (t.Gen.Width ≤ (t.Copies.getD i_32.toNat default).From)) ?_ ?_
   · intro h52
     have g53 := of_decide_eq_true h52
     refine Kq [0, 1, 3, 7, 15, 31, 15, 127, 255, 511, 1023, 2047, 4095, 8191, 16383, 32767, 65535, 32767, 262143, 524287, 1048575, 2097151, 4194303, 8388607, 16777215, 33554431, 16777215, 83886079, 268435455, 536870911, 16777215, 2147483647, 4294967295, 8589934591, 17179869183] fmix ?_
     refine Qv [0] (Vfa fo147_0 0) (Qv [1] (VldF sh3 0) (Qb h48 [] Vlss (Qv [] Vm (Qv [0] (Vfa fo147_0 0) (Qv [1] (VldF sh3 0) (Qv [] Vm (Qb h52 [] Vgeq (Qv [] Vpf (Qv [] Vm ?_)))))))))
     refine Qs (Qs (Qs (Qv [] Vpt (Qv [] Vm (Qs (Qs (Qs (Qs (Qv [] Vpt ?_)))))))))
     refine Qv [] Vm (Qs (Qs (Qs (Qs (Qs (Qs (Qs (Qs (Qs ?_)))))))))
     refine Qs (Qs (Qs (Qs (Qv [] Vpt ?_))))
     refine Qn ⟨by kernel_rfl, ?_⟩
     refine Kt ?_
     refine KS ?_
     refine Oq Va (KS ?_)
     have hR54 := q2 hM33 (.ret false) (by simp only [flqref1_ValidTransfer_L0, h8, h13, h18, h23, h25, h28, h41, h48, h52, hg6, hg16, cs4])
     have hq := q4 hrr false (by simp only [flqref1_ValidTransfer, h8, h13, h18, h23, h25, h28, h41, h48, h52, hg6, hg16, hR54, cs4]); subst hq
     exact Kr () rfl (.tmp rfl .nil) [] trivial
   intro h52
   have g55 := of_decide_eq_false h52
   refine bool_split (decide ((t.Copies.getD i_32.toNat default).To < 0)) ?_ ?_
   · intro h56
     have g57 := of_decide_eq_true h56
     refine Kq [0, 1, 3, 7, 15, 31, 15, 127, 255, 511, 1023, 2047, 4095, 8191, 16383, 32767, 65535, 32767, 262143, 524287, 1048575, 2097151, 4194303, 8388607, 16777215, 33554431, 16777215, 83886079, 268435455, 536870911, 16777215, 2147483647, 4294967295, 8589934591, 17179869183] fmix ?_
     refine Qv [0] (Vfa fo147_0 0) (Qv [1] (VldF sh3 0) (Qb h48 [] Vlss (Qv [] Vm (Qv [0] (Vfa fo147_0 0) (Qv [1] (VldF sh3 0) (Qv [] Vm (Qb h52 [] Vgeq (Qv [] Vpf (Qv [] Vm ?_)))))))))
     refine Qv [0] (Vfa fo147_1 0) (Qv [1] (VldF sh3 0) (Qb h56 [] Vlss (Qv [] Vpf (Qv [] Vm (Qs (Qs (Qs (Qs (Qv [] Vpt ?_)))))))))
     refine Qv [] Vm (Qs (Qs (Qs (Qs (Qs (Qs (Qs (Qs (Qs ?_)))))))))
     refine Qs (Qs (Qs (Qs (Qv [] Vpt ?_))))
     refine Qn ⟨by kernel_rfl, ?_⟩
     refine Kt ?_
     refine KS ?_
     refine Oq Va (KS ?_)
     have hR58 := q2 hM33 (.ret false) (by simp only [flqref1_ValidTransfer_L0, h8, h13, h18, h23, h25, h28, h41, h48, h52, h56, hg6, hg16, cs4])
     have hq := q4 hrr false (by simp only [flqref1_ValidTransfer, h8, h13, h18, h23, h25, h28, h41, h48, h52, h56, hg6, hg16, hR58, cs4]); subst hq
     exact Kr () rfl (.tmp rfl .nil) [] trivial
   intro h56
   have g59 := of_decide_eq_false h56
   refine bool_split (decide (t.Gen.Width ≤ (t.Copies.getD i_32.toNat default).To)) ?_ ?_
   · intro h60
     have g61 := of_decide_eq_true h60
     refine Kq [0, 1, 3, 7, 15, 31, 15, 127, 255, 511, 1023, 2047, 4095, 8191, 16383, 32767, 65535, 32767, 262143, 524287, 1048575, 2097151, 4194303, 8388607, 16777215, 33554431, 16777215, 83886079, 268435455, 536870911, 16777215, 2147483647, 4294967295, 8589934591, 17179869183] fmix ?_
     refine Qv [0] (Vfa fo147_0 0) (Qv [1] (VldF sh3 0) (Qb h48 [] Vlss (Qv [] Vm (Qv [0] (Vfa fo147_0 0) (Qv [1] (VldF sh3 0) (Qv [] Vm (Qb h52 [] Vgeq (Qv [] Vpf (Qv [] Vm ?_)))))))))
     refine Qv [0] (Vfa fo147_1 0) (Qv [1] (VldF sh3 0) (Qb h56 [] Vlss (Qv [] Vpf (Qv [] Vm (Qv [0] (Vfa fo147_1 0) (Qv [1] (VldF sh3 0) (Qv [] Vm (Qb h60 [] Vgeq (Qv [] Vpf ?_)))))))))
     refine Qv [] Vm (Qs (Qs (Qs (Qs (Qs (Qs (Qs (Qs (Qs ?_)))))))))
     refine Qs (Qs (Qs (Qs (Qv [] Vpt ?_))))
     refine Qn ⟨by kernel_rfl, ?_⟩
     refine Kt ?_
     refine KS ?_
     refine Oq Va (KS ?_)
     have hR62 := q2 hM33 (.ret false) (by simp only [flqref1_ValidTransfer_L0, h8, h13, h18, h23, h25, h28, h41, h48, h52, h56, h60, hg6, hg16, cs4])
     have hq := q4 hrr false (by simp only [flqref1_ValidTransfer, h8, h13, h18, h23, h25, h28, h41, h48, h52, h56, h60, hg6, hg16, hR62, cs4]); subst hq
     exact Kr () rfl (.tmp rfl .nil) [] trivial
   intro h60
   have g63 := of_decide_eq_false h60
   refine bool_split (decide (0 < i_32)) ?_ ?_
   · intro h64
     have g65 := of_decide_eq_true h64
     refine JJ_peek_GCopy ((i_32 - 1) : Int).toNat 6 rfl rng fun hb66 hb67 => ?_
     unfold i64ok at hb66 hb67
     refine JK_drawK [0, 1, 3, 7, 15, 31, 15, 127, 255, 511, 1023, 2047, 4095, 8191, 16383, 32767, 65535, 32767, 262143, 524287, 1048575, 2097151, 4194303, 8388607, 16777215, 33554431, 16777215, 83886079, 268435455, 536870911, 16777215, 2147483647, 4294967295, 8589934591, 17179869183] fmix ?_
     refine Dv [1] (Vfa fo147_0 0) (Dv [2] (VldF sh3 0) (Db h48 [] Vlss (Dv [] Vm (Dv [1] (Vfa fo147_0 0) (Dv [2] (VldF sh3 0) (Dv [] Vm (Db h52 [] Vgeq (Dv [] Vpf (Dv [] Vm ?_)))))))))
     refine Dv [1] (Vfa fo147_1 0) (Dv [2] (VldF sh3 0) (Db h56 [] Vlss (Dv [] Vpf (Dv [] Vm (Dv [1] (Vfa fo147_1 0) (Dv [2] (VldF sh3 0) (Dv [] Vm (Db h60 [] Vgeq (Dv [] Vpf ?_)))))))))
     refine Dv [] Vm (Dv [] Vm (Db h64 [] Vgtr (Dv [] Vm (Dv [4] (Vfa fo98_2 0) (Dv [4] (VldF sh96 0) (Dv [] Vm (Dv [] Vsub (Dv [7] (Vi sl96 0) (Dv [0] (VldA sh147 0) ?_)))))))))
     refine Dv [2] (VldA sh147 0) ?_
     refine letv (flqref1_Before (t.Copies.getD ((i_32 - 1) : Int).toNat default) (t.Copies.getD i_32.toNat default)) fun rv68 hg69 => ?_
     refine Dx [] [] [0] (fun G => vb rv68) [fun G => SP.fact (True)] (fun G => xC [] ca210 (fn210 ((t.Copies.getD ((i_32 - 1) : Int).toNat default)) ((t.Copies.getD i_32.toNat default)) pre pre pre pre rv68 hg69)) (Dv [] Vnot (Dv [] Vpt (Dv [] Vpf ?_)))
     refine Dn ⟨by kernel_rfl, fun G => ?_⟩
     refine Jw2 [(1, p4), (3, vi t.Gen.Width), (4, vi i_32), (80, vb (!rv68))] [0, 1, 2, 3, 4, 5, 6, 7] [SP.fact (True)] ?_
     refine Jk [0, 2, 2, 3, 4, 5, 6] ?_
     refine Kc ?_ ?_
     · intro h70
       have h72 := not_true h70
       refine KS ?_
       refine Oq Va (KS ?_)
       have hR74 := q2 hM33 (.ret false) (by simp only [flqref1_ValidTransfer_L0, h8, h13, h18, h23, h25, h28, h41, h48, h52, h56, h60, h64, h70, h72, hg6, hg16, hg69, cs4])
       have hq := q4 hrr false (by simp only [flqref1_ValidTransfer, h8, h13, h18, h23, h25, h28, h41, h48, h52, h56, h60, h64, h70, h72, hg6, hg16, hg69, hR74, cs4]); subst hq
       exact Kr () rfl (.tmp rfl .nil) [] trivial
     intro h70
     have h76 := not_false h70
     refine KS ?_
     refine Oq Vm (Oq Vadd (Oq Va (KS ?_)))
     exact Kg (r43, (i_32 + 1)) [3, 4, 5, 6] ⟨(q3 hM33 (by simp only [flqref1_ValidTransfer_L0, h8, h13, h18, h23, h25, h28, h41, h48, h52, h56, h60, h64, h70, h76, hg6, hg16, hg69, cs4])), (by omega), (by omega), (by omega), (by omega)⟩
   intro h64
   have g78 := of_decide_eq_false h64
   refine Kq [0, 1, 3, 7, 15, 31, 15, 127, 255, 511, 1023, 2047, 4095, 8191, 16383, 32767, 65535, 32767, 262143, 524287, 1048575, 2097151, 4194303, 8388607, 16777215, 33554431, 16777215, 83886079, 268435455, 536870911, 16777215, 2147483647, 4294967295, 8589934591, 17179869183] fmix ?_
   refine Qv [0] (Vfa fo147_0 0) (Qv [1] (VldF sh3 0) (Qb h48 [] Vlss (Qv [] Vm (Qv [0] (Vfa fo147_0 0) (Qv [1] (VldF sh3 0) (Qv [] Vm (Qb h52 [] Vgeq (Qv [] Vpf (Qv [] Vm ?_)))))))))
   refine Qv [0] (Vfa fo147_1 0) (Qv [1] (VldF sh3 0) (Qb h56 [] Vlss (Qv [] Vpf (Qv [] Vm (Qv [0] (Vfa fo147_1 0) (Qv [1] (VldF sh3 0) (Qv [] Vm (Qb h60 [] Vgeq (Qv [] Vpf ?_)))))))))
   refine Qv [] Vm (Qv [] Vm (Qb h64 [] Vgtr (Qv [] Vm (Qs (Qs (Qs (Qs (Qs (Qs ?_)))))))))
   refine Qs (Qs (Qs (Qv [] Vpf (Qv [] Vpf ?_))))
   refine Qn ⟨by kernel_rfl, ?_⟩
   refine Kf ?_
   refine KS ?_
   refine Oq Vm (Oq Vadd (Oq Va (KS ?_)))
   exact Kg (r43, (i_32 + 1)) [3, 4, 5, 6] ⟨(q3 hM33 (by simp only [flqref1_ValidTransfer_L0, h8, h13, h18, h23, h25, h28, h41, h48, h52, h56, h60, h64, hg6, hg16, cs4])), (by omega), (by omega), (by omega), (by omega)⟩
 intro h41
 have g79 := of_decide_eq_false h41
 obtain rfl : r31 = 0 := by omega
 refine Ke ?_
 have hR80 := q2 hM33 (.brk ()) (by simp only [flqref1_ValidTransfer_L0, h8, h13, h18, h23, h25, h28, h41, hg6, hg16, cs4])
 refine KS ?_
 refine Oq Va (KS ?_)
 have hq := q4 hrr true (by simp only [flqref1_ValidTransfer, h8, h13, h18, h23, h25, h28, h41, hg6, hg16, hR80, cs4]); subst hq
 exact Kr () rfl (.tmp rfl .nil) [] trivial
theorem fn74 (s : GSystem) (sa1 : Option Addr) (sk1 : Nat) (sa2 : Option Addr) (sk2 : Nat) (sa3 : Option Addr) (sk3 : Nat) (hs_0 : i64ok s.Width) (rr : Bool) (hrr : flqref10_Valid s = rr) : FT Tryz.prog 74 #[.agg #[vi s.Width, vl sa1 sk1 s.Deps, vl sa2 sk2 s.Transfers, vl sa3 sk3 s.Boundary]] [S sa1 sk1 s.Deps, S sa2 sk2 s.Transfers, S sa3 sk3 s.Boundary] (fun g : Unit => True) (fun g => vb rr) (fun g => []) := by
 refine FTi Tryz.func74 fun w0 M0 F0 => ?_
 unfold i64ok at hs_0
 refine Fb 24 0 fun hl1 => ?_
 refine Fb 88 1 fun hl2 => ?_
 refine Fb 32 2 fun hl3 => ?_
 refine KS ?_
 refine Oa (Ab [vi s.Width, vl sa1 sk1 s.Deps, vl sa2 sk2 s.Transfers, vl sa3 sk3 s.Boundary]) fun p4 => Oq Va (KS ?_)
 refine Oq (Vfa fo27_3 0) (Oq (VldF sh25 0) (Oq (Vlen sl25) (Oq Va (KS ?_))))
 refine Oq (Vfa fo27_0 0) (Oq (VldF sh3 0) (Oq Vlss (Oq Vm ?_)))
 refine Js 12 ?_ ?_
 · intro h5
   have g6 := of_decide_eq_true h5
   refine Osk (Osk (Osk (Oq Vpt (Oq Vm (Osk (Osk (Oq Vpt (Oq Vm (Osk ?_)))))))))
   refine Osk (Oq Vpt (Oq Vm (Osk (Osk (Osk (Osk (Osk (Oq Vpt (Oq Vm ?_)))))))))
   refine Osk (Osk (Osk (Osk (Osk (Oq Vpt (KS ?_))))))
   refine Kt ?_
   refine KS ?_
   refine Oq Va (KS ?_)
   have hq := q4 hrr false (by simp only [flqref10_Valid, h5, cs4]); subst hq
   exact Kr () rfl (.tmp rfl .nil) [] trivial
 intro h5
 have g7 := of_decide_eq_false h5
 refine Oq (Vfa fo27_0 0) (Oq (VldF sh3 0) (Oq Vgtr (Oq Vpf (Oq Vm ?_))))
 refine Js 17 ?_ ?_
 · intro h8
   have g9 := of_decide_eq_true h8
   refine Osk (Osk (Oq Vpt (Oq Vm (Osk (Osk (Oq Vpt (Oq Vm (Osk (Osk ?_)))))))))
   refine Osk (Osk (Osk (Oq Vpt (Oq Vm (Osk (Osk (Osk (Osk (Osk ?_)))))))))
   refine Oq Vpt (KS ?_)
   refine Kt ?_
   refine KS ?_
   refine Oq Va (KS ?_)
   have hq := q4 hrr false (by simp only [flqref10_Valid, h5, h8, cs4]); subst hq
   exact Kr () rfl (.tmp rfl .nil) [] trivial
 intro h8
 have g10 := of_decide_eq_false h8
 refine Oq Vm (Oq Vlss (Oq Vpf (Oq Vm ?_)))
 refine Js 21 ?_ ?_
 · intro h11
   have g12 := of_decide_eq_true h11
   refine Osk (Osk (Oq Vpt (Oq Vm (Osk (Osk (Osk (Osk (Osk (Oq Vpt ?_)))))))))
   refine Oq Vm (Osk (Osk (Osk (Osk (Osk (Oq Vpt (KS ?_)))))))
   refine Kt ?_
   refine KS ?_
   refine Oq Va (KS ?_)
   have hq := q4 hrr false (by simp only [flqref10_Valid, h5, h8, h11, cs4]); subst hq
   exact Kr () rfl (.tmp rfl .nil) [] trivial
 intro h11
 have g13 := of_decide_eq_false h11
 refine Oq Vm (Oq Vgtr (Oq Vpf (Oq Vm ?_)))
 refine Js 25 ?_ ?_
 · intro h14
   have g15 := of_decide_eq_true h14
   refine Osk (Osk (Osk (Osk (Osk (Oq Vpt (Oq Vm (Osk (Osk (Osk ?_)))))))))
   refine Osk (Osk (Oq Vpt (KS ?_)))
   refine Kt ?_
   refine KS ?_
   refine Oq Va (KS ?_)
   have hq := q4 hrr false (by simp only [flqref10_Valid, h5, h8, h11, h14, cs4]); subst hq
   exact Kr () rfl (.tmp rfl .nil) [] trivial
 intro h14
 have g16 := of_decide_eq_false h14
 refine Oq (Vfa fo27_1 0) (Oq (VldF sh23 0) (Oq (Vlen sl23) (Oq Vm (Oq Vneq (Oq Vpf (Oq Vm ?_))))))
 refine Js 32 ?_ ?_
 · intro h17
   have g18 := ne_of_bne h17
   refine Osk (Osk (Osk (Osk (Osk (Oq Vpt (KS ?_))))))
   refine Kt ?_
   refine KS ?_
   refine Oq Va (KS ?_)
   have hq := q4 hrr false (by simp only [flqref10_Valid, h5, h8, h11, h14, h17, cs4]); subst hq
   exact Kr () rfl (.tmp rfl .nil) [] trivial
 intro h17
 have g19 := eq_of_bne_false h17
 refine Oq (Vfa fo27_2 0) (Oq (VldF sh24 0) (Oq (Vlen sl24) (Oq Vm (Oq Vneq (Oq Vpf (KS ?_))))))
 refine Kc ?_ ?_
 · intro h20
   have g21 := ne_of_bne h20
   refine KS ?_
   refine Oq Va (KS ?_)
   have hq := q4 hrr false (by simp only [flqref10_Valid, h5, h8, h11, h14, h17, h20, cs4]); subst hq
   exact Kr () rfl (.tmp rfl .nil) [] trivial
 intro h20
 have g22 := eq_of_bne_false h20
 refine KS ?_
 refine Oq Va (KS ?_)
 refine Oq Va (KS ?_)
 refine Kl (γ := Nat × Int × Int) (fun (r23, edges_24, i_25) => ⟨[(1, p4), (3, vi (s.Boundary.length : Int)), (4, vi edges_24), (5, vi i_25)], [pv p4 [vi s.Width, vl sa1 sk1 s.Deps, vl sa2 sk2 s.Transfers, vl sa3 sk3 s.Boundary], S sa1 sk1 s.Deps, S sa2 sk2 s.Transfers, S sa3 sk3 s.Boundary], flqref10_Valid_L0 s r23 edges_24 i_25 = flqref10_Valid_L0 s (((s.Boundary.length : Int) - 0).toNat) 0 0 ∧ r23 = ((s.Boundary.length : Int) - i_25).toNat ∧ (0 : Int) ≤ i_25 ∧ i_25 ≤ (s.Boundary.length : Int) ∧ (-9223372036854775808 ≤ edges_24 ∧ edges_24 ≤ 9223372036854775807) ∧ (-9223372036854775808 ≤ i_25 ∧ i_25 ≤ 9223372036854775807) ∧ 0 ≤ edges_24 ∧ edges_24 ≤ i_25 * 17592186044416, r23⟩) (((s.Boundary.length : Int) - 0).toNat, 0, 0) [0, 1, 2, 3] ⟨rfl, rfl, (by omega), (by omega), (by omega), (by omega), iv0⟩ ?_
 rintro ⟨r23, edges_24, i_25⟩ ⟨hM26, hr27, hi28, hi29, hk30, hk31, hv32⟩
 refine JJ_nx fun _ _ hL hA => ?_; dsimp only at hL hA; subst hL hA
 refine Fb 24 1 fun hl33 => ?_
 refine Fb 88 2 fun hl34 => ?_
 refine Fb 32 3 fun hl35 => ?_
 refine KS ?_
 refine Oq Vm (Oq Vm (Oq Vlss (KS ?_)))
 refine Kc ?_ ?_
 · intro h36
   have g37 := of_decide_eq_true h36
   obtain ⟨r38, rfl⟩ := scc (n := r23) (by omega)
   refine KS ?_
   refine JJ_peekL i_25.toNat 1 rfl rng fun a39 k40 => ?_
   refine Fb 8 1 fun hl41 => ?_
   refine Fo 1 fun ho42 => ?_
   refine letv (flqref7_Rising (s.Deps.getD i_25.toNat []) (s.Boundary.length : Int)) fun rv43 hg44 => ?_
   refine bool_split (!rv43) ?_ ?_
   · intro h45
     have h47 := not_true h45
     refine JK_drawK [0, 1, 0, 7, 15, 0, 63, 127, 255, 511, 1023, 511, 4095, 8191, 16383, 32767, 65535, 131071, 262143, 524287, 262143, 2097151, 4194303, 8388607, 16777215, 262143, 33816575, 134217727, 268435455, 536870911, 1073741823, 2147483647, 1073741823, 8589934591, 17179869183, 34359738367, 68719476735, 137438953471, 274877906943, 549755813887, 1099511627775, 549755813887, 4398046511103, 8796093022207, 17592186044415, 549755813887, 35734127902719, 140737488355327, 281474976710655] fmix ?_
     refine Dv [2] (Vfa fo27_1 0) (Dv [2] (VldF sh23 0) (Dv [] Vm (Dv [3] (Vi sl23 0) (Dv [0] (Vld sh22 0) (Dv [] Vm (Dx [1] [] [1, 0] (fun G => vb rv43) [fun G => SP.fact (True)] (fun G => xC [0] ca150 (fn150 ((s.Deps.getD i_25.toNat [])) a39 k40 ((s.Boundary.length : Int)) pre rv43 hg44)) (Db h45 [] Vnot (Dv [] Vm (Ds ?_)))))))))
     refine Ds (Ds (Ds (Ds (Ds (Ds (Dv [] Vpt (Dv [] Vm (Ds (Ds ?_)))))))))
     refine Ds (Ds (Ds (Ds (Ds (Ds (Ds (Ds (Dv [] Vpt (Dv [] Vm ?_)))))))))
     refine Ds (Ds (Ds (Ds (Ds (Ds (Ds (Dv [] Vpt (Dv [] Vm (Ds ?_)))))))))
     refine Ds (Ds (Ds (Ds (Ds (Ds (Ds (Ds (Dv [] Vpt ?_))))))))
     refine Dn ⟨by kernel_rfl, fun G => ?_⟩
     refine Jw2 [(1, p4), (3, vi (s.Boundary.length : Int)), (4, vi edges_24), (5, vi i_25), (92, vb true)] [0, 1, 2, 3, 4, 5] [SP.fact (True)] ?_
     refine Jk [0, 1, 2, 3, 4, 5] ?_
     refine Kt ?_
     refine KS ?_
     refine Oq Va (KS ?_)
     have hR49 := q2 hM26 (.ret false) (by simp only [flqref10_Valid_L0, h5, h8, h11, h14, h17, h20, h36, h45, h47, hg44, cs4])
     have hq := q4 hrr false (by simp only [flqref10_Valid, h5, h8, h11, h14, h17, h20, h36, h45, h47, hg44, hR49, cs4]); subst hq
     exact Kr () rfl (.tmp rfl .nil) [] trivial
   intro h45
   have h51 := not_false h45
   refine JJ_peek_GTransfer i_25.toNat 4 rfl rng fun a53 k54 a55 k56 a57 k58 hb59 hb60 => ?_
   unfold i64ok at hb59 hb60
   refine Fb 8 1 fun hl61 => ?_
   refine Fb 8 2 fun hl62 => ?_
   refine Fb 16 3 fun hl63 => ?_
   refine letv (flqref1_ValidTransfer (s.Transfers.getD i_25.toNat default)) fun rv64 hg65 => ?_
   refine bool_split (!rv64) ?_ ?_
   · intro h66
     have h68 := not_true h66
     refine JK_drawK [0, 1, 0, 7, 15, 0, 63, 127, 255, 511, 1023, 511, 4095, 8191, 16383, 32767, 65535, 131071, 262143, 524287, 262143, 2097151, 4194303, 8388607, 16777215, 262143, 33816575, 134217727, 268435455, 536870911, 1073741823, 2147483647, 1073741823, 8589934591, 17179869183, 34359738367, 68719476735, 137438953471, 274877906943, 549755813887, 1099511627775, 549755813887, 4398046511103, 8796093022207, 17592186044415, 549755813887, 35734127902719, 140737488355327, 281474976710655] fmix ?_
     refine Dv [6] (Vfa fo27_1 0) (Dv [6] (VldF sh23 0) (Dv [] Vm (Dv [7] (Vi sl23 0) (Dv [4] (Vld sh22 0) (Dv [] Vm (Dx [5] [] [1, 0] (fun G => vb rv43) [fun G => SP.fact (True)] (fun G => xC [0] ca150 (fn150 ((s.Deps.getD i_25.toNat [])) a39 k40 ((s.Boundary.length : Int)) pre rv43 hg44)) (Db h45 [] Vnot (Dv [] Vm (Dv [6] (Vfa fo27_2 0) ?_)))))))))
     refine Dv [6] (VldF sh24 0) (Dv [] Vm (Dv [8] (Vi sl24 0) (Dv [0] (VldA sh98 0) (Dx [1, 2, 3] [] [1, 2, 3, 0] (fun G => vb rv64) [fun G => SP.fact (True)] (fun G => xC [0, 1, 2] ca151 (fn151 ((s.Transfers.getD i_25.toNat default)) a53 k54 a55 k56 a57 k58 pre pre rv64 hg65)) (Db h66 [] Vnot (Dv [] Vpf (Dv [] Vm (Ds (Ds ?_)))))))))
     refine Ds (Ds (Ds (Ds (Ds (Ds (Ds (Ds (Dv [] Vpt (Dv [] Vm ?_)))))))))
     refine Ds (Ds (Ds (Ds (Ds (Ds (Ds (Dv [] Vpt (Dv [] Vm (Ds ?_)))))))))
     refine Ds (Ds (Ds (Ds (Ds (Ds (Ds (Ds (Dv [] Vpt ?_))))))))
     refine Dn ⟨by kernel_rfl, fun G => ?_⟩
     refine Jw2 [(1, p4), (3, vi (s.Boundary.length : Int)), (4, vi edges_24), (5, vi i_25), (92, vb true)] [0, 1, 2, 3, 4, 5, 6, 7, 8, 9] [SP.fact (True), SP.fact (True)] ?_
     refine Jk [0, 1, 2, 3, 4, 5, 6, 7, 8, 9] ?_
     refine Kt ?_
     refine KS ?_
     refine Oq Va (KS ?_)
     have hR70 := q2 hM26 (.ret false) (by simp only [flqref10_Valid_L0, h5, h8, h11, h14, h17, h20, h36, h45, h51, h66, h68, hg44, hg65, cs4])
     have hq := q4 hrr false (by simp only [flqref10_Valid, h5, h8, h11, h14, h17, h20, h36, h45, h51, h66, h68, hg44, hg65, hR70, cs4]); subst hq
     exact Kr () rfl (.tmp rfl .nil) [] trivial
   intro h66
   have h72 := not_false h66
   refine bool_split (((s.Transfers.getD i_25.toNat default).Gen).Width != s.Width) ?_ ?_
   · intro h74
     have g75 := ne_of_bne h74
     refine JK_drawK [0, 1, 0, 7, 15, 0, 63, 127, 255, 511, 1023, 511, 4095, 8191, 16383, 32767, 65535, 131071, 262143, 524287, 262143, 2097151, 4194303, 8388607, 16777215, 262143, 33816575, 134217727, 268435455, 536870911, 1073741823, 2147483647, 1073741823, 8589934591, 17179869183, 34359738367, 68719476735, 137438953471, 274877906943, 549755813887, 1099511627775, 549755813887, 4398046511103, 8796093022207, 17592186044415, 549755813887, 35734127902719, 140737488355327, 281474976710655] fmix ?_
     refine Dv [6] (Vfa fo27_1 0) (Dv [6] (VldF sh23 0) (Dv [] Vm (Dv [7] (Vi sl23 0) (Dv [4] (Vld sh22 0) (Dv [] Vm (Dx [5] [] [1, 0] (fun G => vb rv43) [fun G => SP.fact (True)] (fun G => xC [0] ca150 (fn150 ((s.Deps.getD i_25.toNat [])) a39 k40 ((s.Boundary.length : Int)) pre rv43 hg44)) (Db h45 [] Vnot (Dv [] Vm (Dv [6] (Vfa fo27_2 0) ?_)))))))))
     refine Dv [6] (VldF sh24 0) (Dv [] Vm (Dv [8] (Vi sl24 0) (Dv [0] (VldA sh98 0) (Dx [1, 2, 3] [] [1, 2, 3, 0] (fun G => vb rv64) [fun G => SP.fact (True)] (fun G => xC [0, 1, 2] ca151 (fn151 ((s.Transfers.getD i_25.toNat default)) a53 k54 a55 k56 a57 k58 pre pre rv64 hg65)) (Db h66 [] Vnot (Dv [] Vpf (Dv [] Vm (Dv [6] (Vfa fo27_2 0) (Dv [6] (VldF sh24 0) ?_)))))))))
     refine Dv [] Vm (Dv [8] (Vi sl24 0) (Dv [0] (Vfa fo98_0 0) (Dv [0] (VfaF fo42_0 0) (Dv [0] (VldF sh3 0) (Dv [6] (Vfa fo27_0 0) (Dv [6] (VldF sh3 0) (Db h74 [] Vneq (Dv [] Vpf (Dv [] Vm ?_)))))))))
     refine Ds (Ds (Ds (Ds (Ds (Ds (Ds (Dv [] Vpt (Dv [] Vm (Ds ?_)))))))))
     refine Ds (Ds (Ds (Ds (Ds (Ds (Ds (Ds (Dv [] Vpt ?_))))))))
     refine Dn ⟨by kernel_rfl, fun G => ?_⟩
     refine Jw2 [(1, p4), (3, vi (s.Boundary.length : Int)), (4, vi edges_24), (5, vi i_25), (92, vb true)] [0, 1, 2, 3, 4, 5, 6, 7, 8, 9] [SP.fact (True), SP.fact (True)] ?_
     refine Jk [0, 1, 2, 3, 4, 5, 6, 7, 8, 9] ?_
     refine Kt ?_
     refine KS ?_
     refine Oq Va (KS ?_)
     have hR76 := q2 hM26 (.ret false) (by simp only [flqref10_Valid_L0, h5, h8, h11, h14, h17, h20, h36, h45, h51, h66, h72, h74, hg44, hg65, cs4])
     have hq := q4 hrr false (by simp only [flqref10_Valid, h5, h8, h11, h14, h17, h20, h36, h45, h51, h66, h72, h74, hg44, hg65, hR76, cs4]); subst hq
     exact Kr () rfl (.tmp rfl .nil) [] trivial
   intro h74
   have g77 := eq_of_bne_false h74
   refine JJ_peek_GSet i_25.toNat 9 rfl rng fun a78 k79 hb80 => ?_
   unfold i64ok at hb80
   refine Fb 8 1 fun hl81 => ?_
   refine JK_drawK [0, 1, 0, 7, 15, 0, 63, 127, 255, 511, 1023, 511, 4095, 8191, 16383, 32767, 65535, 131071, 262143, 524287, 262143, 2097151, 4194303, 8388607, 16777215, 262143, 33816575, 134217727, 268435455, 536870911, 1073741823, 2147483647, 1073741823, 8589934591, 17179869183, 34359738367, 68719476735, 137438953471, 274877906943, 549755813887, 1099511627775, 549755813887, 4398046511103, 8796093022207, 17592186044415, 549755813887, 35734127902719, 140737488355327, 281474976710655] fmix ?_
   refine Dv [8] (Vfa fo27_1 0) (Dv [8] (VldF sh23 0) (Dv [] Vm (Dv [9] (Vi sl23 0) (Dv [6] (Vld sh22 0) (Dv [] Vm (Dx [7] [] [1, 0] (fun G => vb rv43) [fun G => SP.fact (True)] (fun G => xC [0] ca150 (fn150 ((s.Deps.getD i_25.toNat [])) a39 k40 ((s.Boundary.length : Int)) pre rv43 hg44)) (Db h45 [] Vnot (Dv [] Vm (Dv [8] (Vfa fo27_2 0) ?_)))))))))
   refine Dv [8] (VldF sh24 0) (Dv [] Vm (Dv [10] (Vi sl24 0) (Dv [2] (VldA sh98 0) (Dx [3, 4, 5] [] [1, 2, 3, 0] (fun G => vb rv64) [fun G => SP.fact (True)] (fun G => xC [0, 1, 2] ca151 (fn151 ((s.Transfers.getD i_25.toNat default)) a53 k54 a55 k56 a57 k58 pre pre rv64 hg65)) (Db h66 [] Vnot (Dv [] Vpf (Dv [] Vm (Dv [8] (Vfa fo27_2 0) (Dv [8] (VldF sh24 0) ?_)))))))))
   refine Dv [] Vm (Dv [10] (Vi sl24 0) (Dv [2] (Vfa fo98_0 0) (Dv [2] (VfaF fo42_0 0) (Dv [2] (VldF sh3 0) (Dv [8] (Vfa fo27_0 0) (Dv [8] (VldF sh3 0) (Db h74 [] Vneq (Dv [] Vpf (Dv [] Vm ?_)))))))))
   refine Dv [8] (Vfa fo27_3 0) (Dv [8] (VldF sh25 0) (Dv [] Vm (Dv [11] (Vi sl25 0) (Dv [0] (VldA sh42 0) ?_))))
   refine letv (flqref1_Valid (s.Boundary.getD i_25.toNat default)) fun rv82 hg83 => ?_
   refine Dx [1] [] [1, 0] (fun G => vb rv82) [fun G => SP.fact (True)] (fun G => xC [0] ca91 (fn91 ((s.Boundary.getD i_25.toNat default)) a78 k79 pre rv82 hg83)) (Dv [] Vnot (Dv [] Vpf ?_))
   refine bool_split (!rv82) ?_ ?_
   · intro h84
     have h86 := not_true h84
     refine Db h84 [] Vm (Ds (Ds (Ds (Ds (Ds (Ds (Ds (Ds (Ds ?_)))))))))
     refine Dv [] Vpt ?_
     refine Dn ⟨by kernel_rfl, fun G => ?_⟩
     refine Jw2 [(1, p4), (3, vi (s.Boundary.length : Int)), (4, vi edges_24), (5, vi i_25), (92, vb true)] [0, 1, 2, 3, 4, 5, 6, 7, 8, 9, 10, 11] [SP.fact (True), SP.fact (True), SP.fact (True)] ?_
     refine Jk [0, 1, 2, 3, 4, 5, 6, 7, 8, 9, 10, 11] ?_
     refine Kt ?_
     refine KS ?_
     refine Oq Va (KS ?_)
     have hR88 := q2 hM26 (.ret false) (by simp only [flqref10_Valid_L0, h5, h8, h11, h14, h17, h20, h36, h45, h51, h66, h72, h74, h84, h86, hg44, hg65, hg83, cs4])
     have hq := q4 hrr false (by simp only [flqref10_Valid, h5, h8, h11, h14, h17, h20, h36, h45, h51, h66, h72, h74, h84, h86, hg44, hg65, hg83, hR88, cs4]); subst hq
     exact Kr () rfl (.tmp rfl .nil) [] trivial
   intro h84
   have h90 := not_false h84
   refine Db h84 [] Vm (Dv [8] (Vfa fo27_3 0) (Dv [8] (VldF sh25 0) (Dv [] Vm (Dv [11] (Vi sl25 0) (Dv [0] (Vfa fo42_0 0) (Dv [0] (VldF sh3 0) (Dv [8] (Vfa fo27_0 0) (Dv [8] (VldF sh3 0) (Dv [] Vneq ?_)))))))))
   refine Dv [] Vpf ?_
   refine Dn ⟨by kernel_rfl, fun G => ?_⟩
   refine Jw2 [(1, p4), (3, vi (s.Boundary.length : Int)), (4, vi edges_24), (5, vi i_25), (92, vb ((s.Boundary.getD i_25.toNat default).Width != s.Width))] [0, 1, 2, 3, 4, 5, 6, 7, 8, 9, 10, 11] [SP.fact (True), SP.fact (True), SP.fact (True)] ?_
   refine Jk [0, 1, 2, 3, 4, 5, 6, 7, 8, 9, 10, 11] ?_
   refine Kc ?_ ?_
   · intro h92
     have g93 := ne_of_bne h92
     refine KS ?_
     refine Oq Va (KS ?_)
     have hR94 := q2 hM26 (.ret false) (by simp only [flqref10_Valid_L0, h5, h8, h11, h14, h17, h20, h36, h45, h51, h66, h72, h74, h84, h90, h92, hg44, hg65, hg83, cs4])
     have hq := q4 hrr false (by simp only [flqref10_Valid, h5, h8, h11, h14, h17, h20, h36, h45, h51, h66, h72, h74, h84, h90, h92, hg44, hg65, hg83, hR94, cs4]); subst hq
     exact Kr () rfl (.tmp rfl .nil) [] trivial
   intro h92
   have g95 := eq_of_bne_false h92
   refine KS ?_
   refine Oq Vm (Oq (Vfa fo27_1 8) (Oq (VldF sh23 8) (Oq Vm (Oq (Vi sl23 9) (Oq (Vld sh22 6) (Oq (Vlen sl22) (Oq Vadd (Oq Va (KS ?_)))))))))
   refine Oq Vm (Oq Vadd (Oq Va (KS ?_)))
   exact Kg (r38, (edges_24 + ((s.Deps.getD i_25.toNat []).length : Int)), (i_25 + 1)) [8, 9, 10, 11] ⟨(q3 hM26 (by simp only [flqref10_Valid_L0, h5, h8, h11, h14, h17, h20, h36, h45, h51, h66, h72, h74, h84, h90, h92, hg44, hg65, hg83, cs4])), (by omega), (by omega), (by omega), (by omega), (by omega), iv1⟩
 intro h36
 have g96 := of_decide_eq_false h36
 obtain rfl : r23 = 0 := by omega
 refine Ke ?_
 have hR97 := q2 hM26 (.brk edges_24) (by simp only [flqref10_Valid_L0, h5, h8, h11, h14, h17, h20, h36, cs4])
 refine KS ?_
 refine Oq Vm (Oq Vleq (Oq Va (KS ?_)))
 have hq := q4 hrr (decide (edges_24 ≤ 1024)) (by simp only [flqref10_Valid, h5, h8, h11, h14, h17, h20, h36, hR97, cs4]); subst hq
 exact Kr () rfl (.tmp rfl .nil) [] trivial
theorem fn75 (s : GSystem) (sa1 : Option Addr) (sk1 : Nat) (sa2 : Option Addr) (sk2 : Nat) (sa3 : Option Addr) (sk3 : Nat) (hs_0 : i64ok s.Width) (hw0 : 0 ≤ s.Width ∧ s.Width ≤ 1000) (rr : List GSet) (hrr : flqref10_Empty s = rr) : FT Tryz.prog 75 #[.agg #[vi s.Width, vl sa1 sk1 s.Deps, vl sa2 sk2 s.Transfers, vl sa3 sk3 s.Boundary]] [S sa1 sk1 s.Deps, S sa2 sk2 s.Transfers, S sa3 sk3 s.Boundary] (fun g : Value => (rr.length = s.Boundary.length)) (fun g => g) (fun g => [sl g rr]) := by
 refine FTi Tryz.func75 fun w0 M0 F0 => ?_
 unfold i64ok at hs_0
 refine Fb 24 0 fun hl1 => ?_
 refine Fb 88 1 fun hl2 => ?_
 refine Fb 32 2 fun hl3 => ?_
 refine KS ?_
 refine Oa (Ab [vi s.Width, vl sa1 sk1 s.Deps, vl sa2 sk2 s.Transfers, vl sa3 sk3 s.Boundary]) fun p4 => Oq Va (KS ?_)
 refine Oq Va (KS ?_)
 refine Oq Va (KS ?_)
 refine Jl [] (Ent.osNil (α := GSet)) ?_
 refine Kl (γ := Nat × List GSet × Int × Option Addr × Nat) (fun (r5, out_6, n_7, a8, k9) => ⟨[(1, p4), (3, vl a8 k9 out_6), (4, vi n_7)], [O a8 k9 out_6, pv p4 [vi s.Width, vl sa1 sk1 s.Deps, vl sa2 sk2 s.Transfers, vl sa3 sk3 s.Boundary], S sa1 sk1 s.Deps, S sa2 sk2 s.Transfers, S sa3 sk3 s.Boundary], flqref10_Empty_L0 s r5 out_6 n_7 = flqref10_Empty_L0 s (((s.Boundary.length : Int) - 0).toNat) [] 0 ∧ r5 = ((s.Boundary.length : Int) - n_7).toNat ∧ (0 : Int) ≤ n_7 ∧ n_7 ≤ (s.Boundary.length : Int) ∧ (-9223372036854775808 ≤ n_7 ∧ n_7 ≤ 9223372036854775807) ∧ (out_6.length : Int) = n_7, r5⟩) (((s.Boundary.length : Int) - 0).toNat, [], 0, none, 0) [0, 0, 1, 2, 3] ⟨rfl, rfl, (by omega), (by omega), (by omega), iv0⟩ ?_
 rintro ⟨r5, out_6, n_7, a8, k9⟩ ⟨hM10, hr11, hi12, hi13, hk14, hv15⟩
 refine JJ_nx fun _ _ hL hA => ?_; dsimp only at hL hA; subst hL hA
 refine Fb 32 0 fun hl16 => ?_
 refine Fb 24 2 fun hl17 => ?_
 refine Fb 88 3 fun hl18 => ?_
 refine Fb 32 4 fun hl19 => ?_
 refine KS ?_
 refine Oq Vm (Oq (Vfa fo27_3 1) (Oq (VldF sh25 1) (Oq (Vlen sl25) (Oq Vlss (KS ?_)))))
 refine Kc ?_ ?_
 · intro h20
   have g21 := of_decide_eq_true h20
   obtain ⟨r22, rfl⟩ := scc (n := r5) (by omega)
   refine KS ?_
   refine Oq Vm (Oq (Vfa fo27_0 1) (Oq (VldF sh3 1) ?_))
   refine letv (flqref1_Empty s.Width) fun rv24 hg25 => ?_
   have hc26 := fn67 s.Width pre pre rv24 hg25
   refine Oc [] ca67 hc26 ?_
   rintro c23 ⟨he27, he28, he29⟩
   unfold i64ok at he27
   refine Jo 0 ?_; rintro a30 k31 rfl
   refine Fb 8 0 fun hl32 => ?_
   refine Oa (AsV sl25 sz25 [.agg #[vi rv24.Width, vl a30 k31 rv24.Words]] [vi rv24.Width, vl a30 k31 rv24.Words]) fun c33 => ?_
   refine Jo 0 ?_; rintro a34 k35 rfl
   refine Jl [1] (Ent.freeze _ _) ?_
   refine Jl [1, 0] (Ent.cr1 (α := GSet) (A := [S a30 k31 rv24.Words]) _ rv24 _ (Nat.le_of_ble_eq_true rfl) (fun h => ⟨_, rfl, (by unfold i64ok; first | omega | (dsimp only; omega)), sepAll_get (i := 0) rfl h⟩)) ?_
   refine Oa (ApO [3, 0] sl25 sl25 sz25) fun c36 => ?_
   refine Jo 0 ?_; rintro a37 k38 rfl
   refine Fb 32 0 fun hl39 => ?_
   have hn40 := la out_6 ([rv24] : List GSet)
   refine Oq Va (KS ?_)
   refine Oq Vm (Oq Vadd (Oq Va (KS ?_)))
   exact Kg (r22, (out_6 ++ [rv24]), (n_7 + 1), a37, k38) [0, 2, 3, 4, 5] ⟨(q3 hM10 (by simp only [flqref10_Empty_L0, h20, hg25, cs4])), (by omega), (by omega), (by omega), (by omega), iv1⟩
 intro h20
 have g41 := of_decide_eq_false h20
 obtain rfl : r5 = 0 := by omega
 refine Ke ?_
 have hR42 := q2 hM10 out_6 (by simp only [flqref10_Empty_L0, h20, cs4])
 refine KS ?_
 refine Oq Vm (Oq Va (KS ?_))
 refine Jl [0] (Ent.freeze _ _) ?_
 have hq := q4 hrr out_6 (by simp only [flqref10_Empty, h20, hR42, cs4]); subst hq
 exact Kr (vl a8 k9 out_6) rfl (.tmp rfl .nil) [0] en
theorem fn161 (s : GSystem) (sa1 : Option Addr) (sk1 : Nat) (sa2 : Option Addr) (sk2 : Nat) (sa3 : Option Addr) (sk3 : Nat) (v : List GSet) (va0 : Option Addr) (vk0 : Nat) (hs_0 : i64ok s.Width) (rr : Int) (hrr : flqref10_values s v = rr) : FT Tryz.prog 161 #[.agg #[vi s.Width, vl sa1 sk1 s.Deps, vl sa2 sk2 s.Transfers, vl sa3 sk3 s.Boundary], vl va0 vk0 v] [S sa1 sk1 s.Deps, S sa2 sk2 s.Transfers, S sa3 sk3 s.Boundary, S va0 vk0 v] (fun g : Unit => i64ok rr) (fun g => vi rr) (fun g => []) := by
 refine FTi Tryz.func161 fun w0 M0 F0 => ?_
 unfold i64ok at hs_0
 refine Fb 24 0 fun hl1 => ?_
 refine Fb 88 1 fun hl2 => ?_
 refine Fb 32 2 fun hl3 => ?_
 refine Fb 32 3 fun hl4 => ?_
 refine KS ?_
 refine Oa (Ab [vi s.Width, vl sa1 sk1 s.Deps, vl sa2 sk2 s.Transfers, vl sa3 sk3 s.Boundary]) fun p5 => Oq Va (KS ?_)
 refine Oq Vm (Oq (Vlen sl25) (Oq (Vfa fo27_3 0) (Oq (VldF sh25 0) (Oq (Vlen sl25) (Oq Vneq (KS ?_))))))
 refine Kc ?_ ?_
 · intro h6
   have g7 := ne_of_bne h6
   refine KS ?_
   refine Oq Va (KS ?_)
   have hq := q4 hrr 1 (by simp only [flqref10_values, h6, cs4]); subst hq
   exact Kr () rfl (.tmp rfl .nil) [] en
 intro h6
 have g8 := eq_of_bne_false h6
 refine KS ?_
 refine Oq Va (KS ?_)
 refine Kl (γ := Nat × Int) (fun (r9, i_10) => ⟨[(1, vl va0 vk0 v), (2, p5), (5, vi i_10)], [pv p5 [vi s.Width, vl sa1 sk1 s.Deps, vl sa2 sk2 s.Transfers, vl sa3 sk3 s.Boundary], S sa1 sk1 s.Deps, S sa2 sk2 s.Transfers, S sa3 sk3 s.Boundary, S va0 vk0 v], flqref10_values_L0 v r9 i_10 = flqref10_values_L0 v (((v.length : Int) - 0).toNat) 0 ∧ r9 = ((v.length : Int) - i_10).toNat ∧ (0 : Int) ≤ i_10 ∧ i_10 ≤ (v.length : Int) ∧ (-9223372036854775808 ≤ i_10 ∧ i_10 ≤ 9223372036854775807), r9⟩) (((v.length : Int) - 0).toNat, 0) [0, 1, 2, 3, 4] ⟨rfl, rfl, (by omega), (by omega), (by omega)⟩ ?_
 rintro ⟨r9, i_10⟩ ⟨hM11, hr12, hi13, hi14, hk15⟩
 refine JJ_nx fun _ _ hL hA => ?_; dsimp only at hL hA; subst hL hA
 refine Fb 24 1 fun hl16 => ?_
 refine Fb 88 2 fun hl17 => ?_
 refine Fb 32 3 fun hl18 => ?_
 refine Fb 32 4 fun hl19 => ?_
 refine KS ?_
 refine Oq Vm (Oq Vm (Oq (Vlen sl25) (Oq Vlss (KS ?_))))
 refine Kc ?_ ?_
 · intro h20
   have g21 := of_decide_eq_true h20
   obtain ⟨r22, rfl⟩ := scc (n := r9) (by omega)
   refine KS ?_
   refine Oq Vm (Oq Vm (Oq (Vi sl25 4) ?_))
   refine JJ_peek_GSet i_10.toNat 4 rfl rng fun a23 k24 hb25 => ?_
   unfold i64ok at hb25
   refine Fb 8 1 fun hl26 => ?_
   refine Oq (VldA sh42 0) ?_
   refine letv (flqref1_Valid (v.getD i_10.toNat default)) fun rv27 hg28 => ?_
   have hc29 := fn91 ((v.getD i_10.toNat default)) a23 k24 pre rv27 hg28
   refine Oc [1] ca91 hc29 ?_
   rintro - -
   refine Oq Vnot (KS ?_)
   refine Kc ?_ ?_
   · intro h30
     have h32 := not_true h30
     refine KS ?_
     refine Oq Va (KS ?_)
     have hR34 := q2 hM11 (.ret 1) (by simp only [flqref10_values_L0, h6, h20, h30, h32, hg28, cs4])
     have hq := q4 hrr 1 (by simp only [flqref10_values, h6, h20, h30, h32, hg28, hR34, cs4]); subst hq
     exact Kr () rfl (.tmp rfl .nil) [] en
   intro h30
   have h36 := not_false h30
   refine KS ?_
   refine Oq Vm (Oq Vadd (Oq Va (KS ?_)))
   exact Kg (r22, (i_10 + 1)) [2, 3, 4, 5, 6] ⟨(q3 hM11 (by simp only [flqref10_values_L0, h6, h20, h30, h36, hg28, cs4])), (by omega), (by omega), (by omega), (by omega)⟩
 intro h20
 have g38 := of_decide_eq_false h20
 obtain rfl : r9 = 0 := by omega
 refine Ke ?_
 have hR39 := q2 hM11 (.brk ()) (by simp only [flqref10_values_L0, h6, h20, cs4])
 refine KS ?_
 refine Oq Va (KS ?_)
 refine Kl (γ := Nat × Int) (fun (r40, i_41) => ⟨[(1, vl va0 vk0 v), (2, p5), (6, vi i_41)], [pv p5 [vi s.Width, vl sa1 sk1 s.Deps, vl sa2 sk2 s.Transfers, vl sa3 sk3 s.Boundary], S sa1 sk1 s.Deps, S sa2 sk2 s.Transfers, S sa3 sk3 s.Boundary, S va0 vk0 v], flqref10_values_L1 s v r40 i_41 = flqref10_values_L1 s v (((v.length : Int) - 0).toNat) 0 ∧ r40 = ((v.length : Int) - i_41).toNat ∧ (0 : Int) ≤ i_41 ∧ i_41 ≤ (v.length : Int) ∧ (-9223372036854775808 ≤ i_41 ∧ i_41 ≤ 9223372036854775807), r40⟩) (((v.length : Int) - 0).toNat, 0) [0, 1, 2, 3, 4] ⟨rfl, rfl, (by omega), (by omega), (by omega)⟩ ?_
 rintro ⟨r40, i_41⟩ ⟨hM42, hr43, hi44, hi45, hk46⟩
 refine JJ_nx fun _ _ hL hA => ?_; dsimp only at hL hA; subst hL hA
 refine Fb 24 1 fun hl47 => ?_
 refine Fb 88 2 fun hl48 => ?_
 refine Fb 32 3 fun hl49 => ?_
 refine Fb 32 4 fun hl50 => ?_
 refine KS ?_
 refine Oq Vm (Oq Vm (Oq (Vlen sl25) (Oq Vlss (KS ?_))))
 refine Kc ?_ ?_
 · intro h51
   have g52 := of_decide_eq_true h51
   obtain ⟨r53, rfl⟩ := scc (n := r40) (by omega)
   refine KS ?_
   refine JJ_peek_GSet i_41.toNat 4 rfl rng fun a54 k55 hb56 => ?_
   unfold i64ok at hb56
   refine Fb 8 1 fun hl57 => ?_
   refine Kq [0, 0, 3, 7, 15, 0, 32, 127] fmix ?_
   refine Qv [] Vm (Qv [] Vm (Qv [6] (Vi sl25 0) (Qv [0] (Vfa fo42_0 0) (Qv [0] (VldF sh3 0) (Qv [2] (Vfa fo27_0 0) (Qv [2] (VldF sh3 0) (Qv [] Vneq ?_)))))))
   refine Qn ⟨by kernel_rfl, ?_⟩
   refine Kc ?_ ?_
   · intro h58
     have g59 := ne_of_bne h58
     refine KS ?_
     refine Oq Va (KS ?_)
     have hR60 := q2 hM42 (.ret 2) (by simp only [flqref10_values_L1, h6, h20, h51, h58, hR39, cs4])
     have hq := q4 hrr 2 (by simp only [flqref10_values, h6, h20, h51, h58, hR39, hR60, cs4]); subst hq
     exact Kr () rfl (.tmp rfl .nil) [] en
   intro h58
   have g61 := eq_of_bne_false h58
   refine KS ?_
   refine Oq Vm (Oq Vadd (Oq Va (KS ?_)))
   exact Kg (r53, (i_41 + 1)) [2, 3, 4, 5, 6] ⟨(q3 hM42 (by simp only [flqref10_values_L1, h6, h20, h51, h58, hR39, cs4])), (by omega), (by omega), (by omega), (by omega)⟩
 intro h51
 have g62 := of_decide_eq_false h51
 obtain rfl : r40 = 0 := by omega
 refine Ke ?_
 have hR63 := q2 hM42 (.brk ()) (by simp only [flqref10_values_L1, h6, h20, h51, hR39, cs4])
 refine KS ?_
 refine Oq Va (KS ?_)
 have hq := q4 hrr 0 (by simp only [flqref10_values, h6, h20, h51, hR39, hR63, cs4]); subst hq
 exact Kr () rfl (.tmp rfl .nil) [] en
theorem fn31 (s : GSet) (sa1 : Option Addr) (sk1 : Nat) (b : Int) (hs_0 : i64ok s.Width) (hb_0 : i64ok b) (rr : Bool) (hrr : flqref1_Has s b = rr) : FT Tryz.prog 31 #[.agg #[vi s.Width, vl sa1 sk1 s.Words], vi b] [S sa1 sk1 s.Words] (fun g : Unit => True) (fun g => vb rr) (fun g => []) := by
 refine FTi Tryz.func31 fun w0 M0 F0 => ?_
 unfold i64ok at hs_0 hb_0
 refine Fb 8 0 fun hl1 => ?_
 refine KS ?_
 refine Oa (Ab [vi s.Width, vl sa1 sk1 s.Words]) fun p2 => Oq Va (KS ?_)
 refine Oq (VldA sh42 0) ?_
 refine letv (flqref1_Valid s) fun rv3 hg4 => ?_
 have hc5 := fn91 s sa1 sk1 pre rv3 hg4
 refine Oc [1] ca91 hc5 ?_
 rintro - -
 refine Oq Vm ?_
 refine Js 7 ?_ ?_
 · intro h6
   try have hrg := RV_w (s := s) (by simp only [h6, hg4])
   refine Oq Vm (Oq Vgeq (Oq Vpt (Oq Vm ?_)))
   refine Js 11 ?_ ?_
   · intro h8
     have g9 := of_decide_eq_true h8
     refine Oq Vm (Oq (Vfa fo42_0 0) (Oq (VldF sh3 0) (Oq Vlss (Oq Vpt (Oq Vm ?_)))))
     refine Js 17 ?_ ?_
     · intro h10
       have g11 := of_decide_eq_true h10
       refine Oq (Vfa fo42_1 0) (Oq (VldF sh40 0) (Oq Vm (Oq Vquo (Oq (Vi sl40 1) (Oq (VldU sh122 1) (Oq Vm (Oq Vrem (Oq (VcU un3 un123) (Oq VshrU ?_)))))))))
       refine Oq (VandU (b := 1#64)) (Oq (VeqlU (b := 1#64)) (Oq Vpt (Oq Va (KS ?_))))
       have hq := q4 hrr ((((s.Words.getD ((b / 64) : Int).toNat 0#64) >>> (((BitVec.ofInt 64 (b % 64)).toNat : Int)).toNat) &&& 1#64) == 1#64) (by simp only [flqref1_Has, h6, h8, h10, hg4, cs4]); subst hq
       exact Kr () rfl (.tmp rfl .nil) [] trivial
     intro h10
     have g12 := of_decide_eq_false h10
     refine Osk (Osk (Osk (Osk (Osk (Osk (Osk (Osk (Osk (Osk ?_)))))))))
     refine Osk (Osk (Oq Vpf (Oq Va (KS ?_))))
     have hq := q4 hrr false (by simp only [flqref1_Has, h6, h8, h10, hg4, cs4]); subst hq
     exact Kr () rfl (.tmp rfl .nil) [] trivial
   intro h8
   have g13 := of_decide_eq_false h8
   refine Osk (Osk (Osk (Osk (Oq Vpf (Oq Vm (Osk (Osk (Osk (Osk ?_)))))))))
   refine Osk (Osk (Osk (Osk (Osk (Osk (Osk (Osk (Oq Vpf (Oq Va ?_)))))))))
   refine KS ?_
   have hq := q4 hrr false (by simp only [flqref1_Has, h6, h8, hg4, cs4]); subst hq
   exact Kr () rfl (.tmp rfl .nil) [] trivial
 intro h6
 refine Osk (Osk (Oq Vpf (Oq Vm (Osk (Osk (Osk (Osk (Oq Vpf (Oq Vm ?_)))))))))
 refine Osk (Osk (Osk (Osk (Osk (Osk (Osk (Osk (Osk (Osk ?_)))))))))
 refine Osk (Osk (Oq Vpf (Oq Va (KS ?_))))
 have hq := q4 hrr false (by simp only [flqref1_Has, h6, hg4, cs4]); subst hq
 exact Kr () rfl (.tmp rfl .nil) [] trivial
theorem fn153 (a : GSet) (aa1 : Option Addr) (ak1 : Nat) (b : GSet) (ba1 : Option Addr) (bk1 : Nat) (one : Bool) (two : Bool) (both : Bool) (ha_0 : i64ok a.Width) (hb_0 : i64ok b.Width) (rr : GSet × Int) (hrr : flqref1_mix a b one two both = rr) : FT Tryz.prog 153 #[.agg #[vi a.Width, vl aa1 ak1 a.Words], .agg #[vi b.Width, vl ba1 bk1 b.Words], vb one, vb two, vb both] [S aa1 ak1 a.Words, S ba1 bk1 b.Words] (fun g : Value => i64ok rr.1.Width ∧ i64ok rr.2) (fun g => .tuple #[.agg #[vi rr.1.Width, g], vi rr.2]) (fun g => [sl g rr.1.Words]) := by
 refine FTi Tryz.func153 fun w0 M0 F0 => ?_
 unfold i64ok at ha_0 hb_0
 refine Fb 8 0 fun hl1 => ?_
 refine Fb 8 1 fun hl2 => ?_
 refine KS ?_
 refine Oa (Ab [vi a.Width, vl aa1 ak1 a.Words]) fun p3 => Oa (Ab [vi b.Width, vl ba1 bk1 b.Words]) fun p4 => Oa (Al ze42 [vi 0, .slice none 0 0]) fun p5 => Oq Va (KS ?_)
 refine Oq (VldA sh42 2) ?_
 refine letv (flqref1_Valid a) fun rv6 hg7 => ?_
 have hc8 := fn91 a aa1 ak1 pre rv6 hg7
 refine Oc [3] ca91 hc8 ?_
 rintro - -
 refine Oq Vnot (Oq Vm ?_)
 refine Js 19 ?_ ?_
 · intro h9
   have h11 := not_true h9
   refine Osk (Osk (Osk (Oq Vpt (KS ?_))))
   refine Kt ?_
   refine KS ?_
   refine Oq (Vbd st42 [vi 0, .slice none 0 0]) (Ost (Scl [0] sh42 [vi 0, .slice none 0 0]) (Oq Va (KS ?_)))
   refine Jl [] (Ent.slNil (α := BitVec 64)) ?_
   have hq := q4 hrr ((GSet.mk 0 []), 1) (by simp only [flqref1_mix, h9, h11, hg7, cs4]); subst hq
   exact Kr (.slice none 0 0) rfl (.cellN 1 rfl sh42 rfl (reads_Cl _ _) rfl (.tmp rfl .nil)) [0] en
 intro h9
 have h14 := not_false h9
 try have hrg := RV_w (s := a) (by simp only [h9, h14, hg7])
 refine Oq (VldA sh42 1) ?_
 refine letv (flqref1_Valid b) fun rv16 hg17 => ?_
 have hc18 := fn91 b ba1 bk1 pre rv16 hg17
 refine Oc [4] ca91 hc18 ?_
 rintro - -
 refine Oq Vnot (Oq Vpf (KS ?_))
 refine Kc ?_ ?_
 · intro h19
   have h21 := not_true h19
   refine KS ?_
   refine Oq (Vbd st42 [vi 0, .slice none 0 0]) (Ost (Scl [0] sh42 [vi 0, .slice none 0 0]) (Oq Va (KS ?_)))
   refine Jl [] (Ent.slNil (α := BitVec 64)) ?_
   have hq := q4 hrr ((GSet.mk 0 []), 1) (by simp only [flqref1_mix, h9, h14, h19, h21, hg7, hg17, cs4]); subst hq
   exact Kr (.slice none 0 0) rfl (.cellN 1 rfl sh42 rfl (reads_Cl _ _) rfl (.tmp rfl .nil)) [0] en
 intro h19
 have h24 := not_false h19
 try have hrg := RV_w (s := a) (by simp only [h9, h14, h19, h24, hg7, hg17])
 refine KS ?_
 refine Oq (Vfa fo42_0 2) (Oq (VldF sh3 2) (Oq (Vfa fo42_0 1) (Oq (VldF sh3 1) (Oq Vneq (KS ?_)))))
 refine Kc ?_ ?_
 · intro h26
   have g27 := ne_of_bne h26
   refine KS ?_
   refine Oq (Vbd st42 [vi 0, .slice none 0 0]) (Ost (Scl [0] sh42 [vi 0, .slice none 0 0]) (Oq Va (KS ?_)))
   refine Jl [] (Ent.slNil (α := BitVec 64)) ?_
   have hq := q4 hrr ((GSet.mk 0 []), 2) (by simp only [flqref1_mix, h9, h14, h19, h24, h26, hg7, hg17, cs4]); subst hq
   exact Kr (.slice none 0 0) rfl (.cellN 1 rfl sh42 rfl (reads_Cl _ _) rfl (.tmp rfl .nil)) [0] en
 intro h26
 have g28 := eq_of_bne_false h26
 refine KS ?_
 refine Oq (Vfa fo42_0 2) (Oq (VldF sh3 2) ?_)
 refine letv (flqref1_Empty a.Width) fun rv30 hg31 => ?_
 have hc32 := fn67 a.Width pre pre rv30 hg31
 refine Oc [] ca67 hc32 ?_
 rintro c29 ⟨he33, he34, he35⟩
 unfold i64ok at he33
 refine Jo 0 ?_; rintro a36 k37 rfl
 refine Fb 8 0 fun hl38 => ?_
 refine Oa (Al ze42 [vi 0, .slice none 0 0]) fun p39 => Ost (Scl [0] sh42 [vi rv30.Width, vl a36 k37 rv30.Words]) (KS ?_)
 refine Oq Va (KS ?_)
 refine Kl (γ := Nat × Int × List (BitVec 64) × Int × Option Addr × Nat) (fun (r40, s0_41, s1_42, k_43, a44, k45) => ⟨[(2, vb one), (3, vb two), (4, vb both), (5, p3), (6, p4), (10, p5), (12, p39), (13, vi k_43)], [O a44 k45 s1_42, Cl p39 [vi s0_41, vl a44 k45 s1_42], Cl p5 [vi 0, .slice none 0 0], pv p4 [vi b.Width, vl ba1 bk1 b.Words], pv p3 [vi a.Width, vl aa1 ak1 a.Words], S aa1 ak1 a.Words, S ba1 bk1 b.Words], flqref1_mix_L0 a b one two both r40 s0_41 s1_42 k_43 = flqref1_mix_L0 a b one two both (((a.Width : Int) - 0).toNat) rv30.Width rv30.Words 0 ∧ r40 = ((a.Width : Int) - k_43).toNat ∧ (0 : Int) ≤ k_43 ∧ (k_43 ≤ a.Width ∨ k_43 = 0) ∧ (-9223372036854775808 ≤ s0_41 ∧ s0_41 ≤ 9223372036854775807) ∧ (-9223372036854775808 ≤ k_43 ∧ k_43 ≤ 9223372036854775807) ∧ s0_41 = a.Width ∧ s1_42.length = ((a.Width + 63) / 64).toNat, r40⟩) (((a.Width : Int) - 0).toNat, rv30.Width, rv30.Words, 0, a36, k37) [1, 0, 0, 0, 1, 2, 3] ⟨rfl, rfl, (by omega), (.inr rfl), (by omega), (by omega), iv0, iv0⟩ ?_
 rintro ⟨r40, s0_41, s1_42, k_43, a44, k45⟩ ⟨hM46, hr47, hi48, hi49, hk50, hk51, hv52, hv53⟩
 refine JJ_nx fun _ _ hL hA => ?_; dsimp only at hL hA; subst hL hA
 refine Fb 8 0 fun hl54 => ?_
 refine Fb 8 5 fun hl55 => ?_
 refine Fb 8 6 fun hl56 => ?_
 refine KS ?_
 refine Oq Vm (Oq (Vfa fo42_0 4) (Oq (VldF sh3 4) (Oq Vlss (KS ?_))))
 refine Kc ?_ ?_
 · intro h57
   have g58 := of_decide_eq_true h57
   obtain ⟨r59, rfl⟩ := scc (n := r40) (by omega)
   refine KS ?_
   refine JK_drawK [0, 0, 3, 0, 0, 31, 63, 127] fmix ?_
   refine Dv [4] (VldA sh42 0) (Dv [] Vm ?_)
   refine letv (flqref1_Has a k_43) fun rv60 hg61 => ?_
   refine Dx [5] [] [1, 0] (fun G => vb rv60) [fun G => SP.fact (True)] (fun G => xC [0] ca31 (fn31 a aa1 ak1 k_43 pre pre rv60 hg61)) (Dv [3] (VldA sh42 0) (Dv [] Vm ?_))
   refine letv (flqref1_Has b k_43) fun rv62 hg63 => ?_
   refine Dx [6] [] [1, 0] (fun G => vb rv62) [fun G => SP.fact (True)] (fun G => xC [0] ca31 (fn31 b ba1 bk1 k_43 pre pre rv62 hg63)) (Dv [] Va (Dv [] Va ?_))
   refine Dn ⟨by kernel_rfl, fun G => ?_⟩
   refine Jw2 [(2, vb one), (3, vb two), (4, vb both), (5, p3), (6, p4), (10, p5), (12, p39), (13, vi k_43), (14, vb rv60), (15, vb rv62)] [0, 1, 2, 3, 4, 5, 6] [SP.fact (True), SP.fact (True)] ?_
   refine Jk [0, 0, 0, 0, 1, 2, 3] ?_
   refine KS ?_
   refine Oq Vm (Oq Vm ?_)
   refine Js 47 ?_ ?_
   · intro h64
     try have hrg := RV_w (s := a) (by simp only [h9, h14, h19, h24, h26, h57, h64, hg7, hg17, hg31, hg61, hg63])
     refine Oq Vm (Oq Vpt (Oq Vm ?_))
     refine Js 50 ?_ ?_
     · intro h66
       try have hrg := RV_w (s := a) (by simp only [h9, h14, h19, h24, h26, h57, h64, h66, hg7, hg17, hg31, hg61, hg63])
       refine Oq Vm (Oq Vpt (Oq Vm ?_))
       refine Js 53 ?_ ?_
       · intro h68
         refine Osk (Osk (Osk (Osk (Osk (Osk (Osk (Osk (Oq Vpt (Oq Vm ?_)))))))))
         refine Osk (Osk (Osk (Osk (Osk (Osk (Osk (Osk (Oq Vpt (KS ?_)))))))))
         refine Kt ?_
         refine KS ?_
         refine Oq (VldA sh42 1) (Oq Vm ?_)
         refine letv (flqref1_Put (GSet.mk s0_41 s1_42) k_43) fun rv71 hg72 => ?_
         refine Oc [0] ca79 (FT_borrow (A := _) hlx (FT_ent (Ent.take (is := [0]) rfl) (fn79 ((GSet.mk s0_41 s1_42)) a44 k45 k_43 pre pre pre pre rv71 hg72))) ?_ (ht := rfl)
         rintro c70 ⟨he73, he74, he75⟩
         unfold i64ok at he73
         have he74 : (rv71.Width = s0_41) := he74
         have he75 : (rv71.Words.length = ((s0_41 + 63) / 64).toNat) := he75
         refine Jo 1 ?_; rintro a76 k77 rfl
         refine Fb 8 1 fun hl78 => ?_
         refine Ost (Scl [2] sh42 [vi rv71.Width, vl a76 k77 rv71.Words]) (KS ?_)
         refine Oq Vm (Oq Vadd (Oq Va (KS ?_)))
         exact Kg (r59, rv71.Width, rv71.Words, (k_43 + 1), a76, k77) [2, 0, 1, 1, 2, 3, 4] ⟨(q3 hM46 (by simp only [flqref1_mix_L0, h9, h14, h19, h24, h26, h57, h64, h66, h68, hg7, hg17, hg31, hg61, hg63, hg72, cs4])), (by omega), (by omega), (by omega), (by omega), (by omega), iv1, iv1⟩
       intro h68
       refine Oq Vm (Oq Vm ?_)
       refine Js 55 ?_ ?_
       · intro h80
         try have hrg := RV_w (s := a) (by simp only [h9, h14, h19, h24, h26, h57, h64, h66, h68, h80, hg7, hg17, hg31, hg61, hg63])
         refine Oq Vm (Oq Vnot (Oq Vpt (Oq Vm ?_)))
         refine Js 59 ?_ ?_
         · intro h82
           exact absurd h82 (by simp [h66])
         intro h82
         have h84 := not_false h82
         try have hrg := RV_w (s := a) (by simp only [h9, h14, h19, h24, h26, h57, h64, h66, h68, h80, h82, h84, hg7, hg17, hg31, hg61, hg63])
         refine Osk (Oq Vpf (Oq Vpf (Oq Vm (Oq Vm (Oq Vnot (Oq Vm ?_))))))
         refine Js 66 ?_ ?_
         · intro h86
           exact absurd h86 (by simp [h80])
         intro h86
         have h88 := not_false h86
         try have hrg := RV_w (s := a) (by simp only [h9, h14, h19, h24, h26, h57, h64, h66, h68, h80, h82, h84, h86, h88, hg7, hg17, hg31, hg61, hg63])
         refine Osk (Oq Vpf (Oq Vm (Osk (Oq Vpf (Oq Vpf (KS ?_))))))
         refine Kf ?_
         refine KS ?_
         refine Oq Vm (Oq Vadd (Oq Va (KS ?_)))
         exact Kg (r59, s0_41, s1_42, (k_43 + 1), a44, k45) [0, 0, 0, 0, 1, 2, 3] ⟨(q3 hM46 (by simp only [flqref1_mix_L0, h9, h14, h19, h24, h26, h57, h64, h66, h68, h80, h82, h84, h86, h88, hg7, hg17, hg31, hg61, hg63, cs4])), (by omega), (by omega), (by omega), (by omega), (by omega), iv1, iv1⟩
       intro h80
       exact absurd h80 (by simp [h64])
     intro h66
     refine Osk (Oq Vpf (Oq Vm (Oq Vm (Oq Vm ?_))))
     refine Js 55 ?_ ?_
     · intro h91
       try have hrg := RV_w (s := a) (by simp only [h9, h14, h19, h24, h26, h57, h64, h66, h91, hg7, hg17, hg31, hg61, hg63])
       refine Oq Vm (Oq Vnot (Oq Vpt (Oq Vm ?_)))
       refine Js 59 ?_ ?_
       · intro h93
         have h95 := not_true h93
         refine Oq Vm (Oq Vpt (Oq Vpf (Oq Vm ?_)))
         refine Js 63 ?_ ?_
         · intro h97
           refine Osk (Osk (Osk (Osk (Osk (Osk (Osk (Osk (Oq Vpt (KS ?_)))))))))
           refine Kt ?_
           refine KS ?_
           refine Oq (VldA sh42 1) (Oq Vm ?_)
           refine letv (flqref1_Put (GSet.mk s0_41 s1_42) k_43) fun rv100 hg101 => ?_
           refine Oc [0] ca79 (FT_borrow (A := _) hlx (FT_ent (Ent.take (is := [0]) rfl) (fn79 ((GSet.mk s0_41 s1_42)) a44 k45 k_43 pre pre pre pre rv100 hg101))) ?_ (ht := rfl)
           rintro c99 ⟨he102, he103, he104⟩
           unfold i64ok at he102
           have he103 : (rv100.Width = s0_41) := he103
           have he104 : (rv100.Words.length = ((s0_41 + 63) / 64).toNat) := he104
           refine Jo 1 ?_; rintro a105 k106 rfl
           refine Fb 8 1 fun hl107 => ?_
           refine Ost (Scl [2] sh42 [vi rv100.Width, vl a105 k106 rv100.Words]) (KS ?_)
           refine Oq Vm (Oq Vadd (Oq Va (KS ?_)))
           exact Kg (r59, rv100.Width, rv100.Words, (k_43 + 1), a105, k106) [2, 0, 1, 1, 2, 3, 4] ⟨(q3 hM46 (by simp only [flqref1_mix_L0, h9, h14, h19, h24, h26, h57, h64, h66, h91, h93, h95, h97, hg7, hg17, hg31, hg61, hg63, hg101, cs4])), (by omega), (by omega), (by omega), (by omega), (by omega), iv1, iv1⟩
         intro h97
         refine Oq Vm (Oq Vnot (Oq Vm ?_))
         refine Js 66 ?_ ?_
         · intro h109
           exact absurd h109 (by simp [h91])
         intro h109
         have h111 := not_false h109
         try have hrg := RV_w (s := a) (by simp only [h9, h14, h19, h24, h26, h57, h64, h66, h91, h93, h95, h97, h109, h111, hg7, hg17, hg31, hg61, hg63])
         refine Osk (Oq Vpf (Oq Vm (Osk (Oq Vpf (Oq Vpf (KS ?_))))))
         refine Kf ?_
         refine KS ?_
         refine Oq Vm (Oq Vadd (Oq Va (KS ?_)))
         exact Kg (r59, s0_41, s1_42, (k_43 + 1), a44, k45) [0, 0, 0, 0, 1, 2, 3] ⟨(q3 hM46 (by simp only [flqref1_mix_L0, h9, h14, h19, h24, h26, h57, h64, h66, h91, h93, h95, h97, h109, h111, hg7, hg17, hg31, hg61, hg63, cs4])), (by omega), (by omega), (by omega), (by omega), (by omega), iv1, iv1⟩
       intro h93
       exact absurd h93 (by simp [h66])
     intro h91
     exact absurd h91 (by simp [h64])
   intro h64
   refine Osk (Oq Vpf (Oq Vm (Osk (Oq Vpf (Oq Vm (Oq Vm (Oq Vm ?_)))))))
   refine Js 55 ?_ ?_
   · intro h114
     exact absurd h114 (by simp [h64])
   intro h114
   refine Osk (Osk (Oq Vpf (Oq Vm (Osk (Oq Vpf (Oq Vpf (Oq Vm (Oq Vm (Oq Vnot ?_)))))))))
   refine Oq Vm ?_
   refine Js 66 ?_ ?_
   · intro h116
     have h118 := not_true h116
     refine Oq Vm (Oq Vpt (Oq Vm ?_))
     refine Js 69 ?_ ?_
     · intro h120
       try have hrg := RV_w (s := a) (by simp only [h9, h14, h19, h24, h26, h57, h64, h114, h116, h118, h120, hg7, hg17, hg31, hg61, hg63])
       refine Oq Vm (Oq Vpt (Oq Vpf (KS ?_)))
       refine Kc ?_ ?_
       · intro h122
         refine KS ?_
         refine Oq (VldA sh42 1) (Oq Vm ?_)
         refine letv (flqref1_Put (GSet.mk s0_41 s1_42) k_43) fun rv125 hg126 => ?_
         refine Oc [0] ca79 (FT_borrow (A := _) hlx (FT_ent (Ent.take (is := [0]) rfl) (fn79 ((GSet.mk s0_41 s1_42)) a44 k45 k_43 pre pre pre pre rv125 hg126))) ?_ (ht := rfl)
         rintro c124 ⟨he127, he128, he129⟩
         unfold i64ok at he127
         have he128 : (rv125.Width = s0_41) := he128
         have he129 : (rv125.Words.length = ((s0_41 + 63) / 64).toNat) := he129
         refine Jo 1 ?_; rintro a130 k131 rfl
         refine Fb 8 1 fun hl132 => ?_
         refine Ost (Scl [2] sh42 [vi rv125.Width, vl a130 k131 rv125.Words]) (KS ?_)
         refine Oq Vm (Oq Vadd (Oq Va (KS ?_)))
         exact Kg (r59, rv125.Width, rv125.Words, (k_43 + 1), a130, k131) [2, 0, 1, 1, 2, 3, 4] ⟨(q3 hM46 (by simp only [flqref1_mix_L0, h9, h14, h19, h24, h26, h57, h64, h114, h116, h118, h120, h122, hg7, hg17, hg31, hg61, hg63, hg126, cs4])), (by omega), (by omega), (by omega), (by omega), (by omega), iv1, iv1⟩
       intro h122
       refine KS ?_
       refine Oq Vm (Oq Vadd (Oq Va (KS ?_)))
       exact Kg (r59, s0_41, s1_42, (k_43 + 1), a44, k45) [0, 0, 0, 0, 1, 2, 3] ⟨(q3 hM46 (by simp only [flqref1_mix_L0, h9, h14, h19, h24, h26, h57, h64, h114, h116, h118, h120, h122, hg7, hg17, hg31, hg61, hg63, cs4])), (by omega), (by omega), (by omega), (by omega), (by omega), iv1, iv1⟩
     intro h120
     refine Osk (Oq Vpf (Oq Vpf (KS ?_)))
     refine Kf ?_
     refine KS ?_
     refine Oq Vm (Oq Vadd (Oq Va (KS ?_)))
     exact Kg (r59, s0_41, s1_42, (k_43 + 1), a44, k45) [0, 0, 0, 0, 1, 2, 3] ⟨(q3 hM46 (by simp only [flqref1_mix_L0, h9, h14, h19, h24, h26, h57, h64, h114, h116, h118, h120, hg7, hg17, hg31, hg61, hg63, cs4])), (by omega), (by omega), (by omega), (by omega), (by omega), iv1, iv1⟩
   intro h116
   exact absurd h116 (by simp [h114])
 intro h57
 have g135 := of_decide_eq_false h57
 obtain rfl : r40 = 0 := by omega
 refine Ke ?_
 have hR136 := q2 hM46 (s0_41, s1_42) (by simp only [flqref1_mix_L0, h9, h14, h19, h24, h26, h57, hg7, hg17, hg31, cs4])
 refine KS ?_
 refine Oq (VldA sh42 1) (Ost (Scl [2] sh42 [vi s0_41, vl a44 k45 s1_42]) (Oq Va (KS ?_)))
 refine Jl [1] (Ent.freeze _ _) ?_
 have hq := q4 hrr ((GSet.mk s0_41 s1_42), 0) (by simp only [flqref1_mix, h9, h14, h19, h24, h26, h57, hg7, hg17, hg31, hR136, cs4]); subst hq
 exact Kr (vl a44 k45 s1_42) rfl (.cellN 1 rfl sh42 rfl (reads_Cl _ _) rfl (.tmp rfl .nil)) [0] en
theorem fn78 (a : GSet) (aa1 : Option Addr) (ak1 : Nat) (b : GSet) (ba1 : Option Addr) (bk1 : Nat) (ha_0 : i64ok a.Width) (hb_0 : i64ok b.Width) (rr : GSet × Int) (hrr : flqref1_Union a b = rr) : FT Tryz.prog 78 #[.agg #[vi a.Width, vl aa1 ak1 a.Words], .agg #[vi b.Width, vl ba1 bk1 b.Words]] [S aa1 ak1 a.Words, S ba1 bk1 b.Words] (fun g : Value => i64ok rr.1.Width ∧ i64ok rr.2) (fun g => .tuple #[.agg #[vi rr.1.Width, g], vi rr.2]) (fun g => [sl g rr.1.Words]) := by
 refine FTi Tryz.func78 fun w0 M0 F0 => ?_
 unfold i64ok at ha_0 hb_0
 refine Fb 8 0 fun hl1 => ?_
 refine Fb 8 1 fun hl2 => ?_
 refine KS ?_
 refine Oa (Ab [vi a.Width, vl aa1 ak1 a.Words]) fun p3 => Oa (Ab [vi b.Width, vl ba1 bk1 b.Words]) fun p4 => Oa (Al ze42 [vi 0, .slice none 0 0]) fun p5 => Oq Va (KS ?_)
 refine Oq (VldA sh42 2) (Oq (VldA sh42 1) ?_)
 refine letv (flqref1_mix a b true true true) fun rv7 hg8 => ?_
 have hc9 := fn153 a aa1 ak1 b ba1 bk1 true true true pre pre rv7 hg8
 refine Oc [3, 4] ca153 hc9 ?_
 rintro c6 ⟨he10, he11⟩
 unfold i64ok at he10 he11
 refine Jo 0 ?_; rintro a12 k13 rfl
 refine Fb 8 0 fun hl14 => ?_
 refine Oq Vx (Oq Vx (Ost (Scl [1] sh42 [vi rv7.1.Width, vl a12 k13 rv7.1.Words]) (Oq Va (KS ?_))))
 have hq := q4 hrr (rv7.1, rv7.2) (by simp only [flqref1_Union, hg8, cs4]); subst hq
 exact Kr (vl a12 k13 rv7.1.Words) rfl (.cellN 0 rfl sh42 rfl (reads_Cl _ _) rfl (.tmp rfl .nil)) [1] en
theorem fn22 (a : GSet) (aa1 : Option Addr) (ak1 : Nat) (b : GSet) (ba1 : Option Addr) (bk1 : Nat) (ha_0 : i64ok a.Width) (hb_0 : i64ok b.Width) (rr : GSet) (hrr : flqref1_Join a b = rr) : FT Tryz.prog 22 #[.agg #[vi a.Width, vl aa1 ak1 a.Words], .agg #[vi b.Width, vl ba1 bk1 b.Words]] [S aa1 ak1 a.Words, S ba1 bk1 b.Words] (fun g : Value => i64ok rr.Width) (fun g => .agg #[vi rr.Width, g]) (fun g => [sl g rr.Words]) := by
 refine FTi Tryz.func22 fun w0 M0 F0 => ?_
 unfold i64ok at ha_0 hb_0
 refine Fb 8 0 fun hl1 => ?_
 refine Fb 8 1 fun hl2 => ?_
 refine KS ?_
 refine Oa (Ab [vi a.Width, vl aa1 ak1 a.Words]) fun p3 => Oa (Ab [vi b.Width, vl ba1 bk1 b.Words]) fun p4 => Oa (Al ze42 [vi 0, .slice none 0 0]) fun p5 => KS ?_
 refine Oq (VldA sh42 2) (Oq (VldA sh42 1) ?_)
 refine letv (flqref1_Union a b) fun rv7 hg8 => ?_
 have hc9 := fn78 a aa1 ak1 b ba1 bk1 pre pre rv7 hg8
 refine Oc [3, 4] ca78 hc9 ?_
 rintro c6 ⟨he10, he11⟩
 unfold i64ok at he10 he11
 refine Jo 0 ?_; rintro a12 k13 rfl
 refine Fb 8 0 fun hl14 => ?_
 refine Oq Vm (Oq Vx (Oq Vx (Oa (Al ze42 [vi 0, .slice none 0 0]) fun p15 => Ost (Scl [0] sh42 [vi rv7.1.Width, vl a12 k13 rv7.1.Words]) (Oq Va (KS ?_)))))
 refine Oq (VldA sh42 0) (Ost (Scl [2] sh42 [vi rv7.1.Width, vl a12 k13 rv7.1.Words]) (KS ?_))
 have hq := q4 hrr rv7.1 (by simp only [flqref1_Join, hg8, cs4]); subst hq
 exact Kr (vl a12 k13 rv7.1.Words) rfl (.cellN 0 rfl sh42 rfl (reads_Cl _ _) rfl .nil) [2] en
theorem fn209 (t : GTransfer) (ta1 : Option Addr) (tk1 : Nat) (ta3 : Option Addr) (tk3 : Nat) (ta4 : Option Addr) (tk4 : Nat) (a : Int) (b : Int) (ht_0 : i64ok t.Gen.Width) (ht_2 : i64ok t.Kill.Width) (ha_0 : i64ok a) (hb_0 : i64ok b) (rr : Bool) (hrr : flqref1_follows t a b = rr) : FT Tryz.prog 209 #[.agg #[vi t.Gen.Width, vl ta1 tk1 t.Gen.Words, vi t.Kill.Width, vl ta3 tk3 t.Kill.Words, vl ta4 tk4 t.Copies], vi a, vi b] [S ta1 tk1 t.Gen.Words, S ta3 tk3 t.Kill.Words, S ta4 tk4 t.Copies] (fun g : Unit => True) (fun g => vb rr) (fun g => []) := by
 refine FTi Tryz.func209 fun w0 M0 F0 => ?_
 unfold i64ok at ht_0 ht_2 ha_0 hb_0
 refine Fb 8 0 fun hl1 => ?_
 refine Fb 8 1 fun hl2 => ?_
 refine Fb 16 2 fun hl3 => ?_
 refine KS ?_
 refine Oa (Ab [vi t.Gen.Width, vl ta1 tk1 t.Gen.Words, vi t.Kill.Width, vl ta3 tk3 t.Kill.Words, vl ta4 tk4 t.Copies]) fun p4 => Oq Va (KS ?_)
 refine Oq Vm (Oq Vm (Oq Veql (Oq Vm ?_)))
 refine Js 11 ?_ ?_
 · intro h5
   have g6 := eq_of_beq h5
   refine Oq (Vfa fo98_1 0) (Oq (VldG sh42 0 [vi t.Kill.Width, vl ta3 tk3 t.Kill.Words]) (Oq Vm ?_))
   refine letv (flqref1_Has t.Kill a) fun rv7 hg8 => ?_
   have hc9 := fn31 t.Kill ta3 tk3 a pre pre rv7 hg8
   refine Oc [2] ca31 hc9 ?_
   rintro - -
   refine Oq Vnot (Oq Vpt (KS ?_))
   refine Kc ?_ ?_
   · intro h10
     have h12 := not_true h10
     refine KS ?_
     refine Oq Va (KS ?_)
     have hq := q4 hrr true (by simp only [flqref1_follows, h5, h10, h12, hg8, cs4]); subst hq
     exact Kr () rfl (.tmp rfl .nil) [] trivial
   intro h10
   have h15 := not_false h10
   refine KS ?_
   refine Oq Va (KS ?_)
   refine Kl (γ := Nat × Int) (fun (r17, i_18) => ⟨[(1, vi a), (2, vi b), (3, p4), (7, vi i_18)], [pv p4 [vi t.Gen.Width, vl ta1 tk1 t.Gen.Words, vi t.Kill.Width, vl ta3 tk3 t.Kill.Words, vl ta4 tk4 t.Copies], S ta1 tk1 t.Gen.Words, S ta3 tk3 t.Kill.Words, S ta4 tk4 t.Copies], flqref1_follows_L0 t a b r17 i_18 = flqref1_follows_L0 t a b (((t.Copies.length : Int) - 0).toNat) 0 ∧ r17 = ((t.Copies.length : Int) - i_18).toNat ∧ (0 : Int) ≤ i_18 ∧ i_18 ≤ (t.Copies.length : Int) ∧ (-9223372036854775808 ≤ i_18 ∧ i_18 ≤ 9223372036854775807), r17⟩) (((t.Copies.length : Int) - 0).toNat, 0) [0, 1, 2, 3] ⟨rfl, rfl, (by omega), (by omega), (by omega)⟩ ?_
   rintro ⟨r17, i_18⟩ ⟨hM19, hr20, hi21, hi22, hk23⟩
   refine JJ_nx fun _ _ hL hA => ?_; dsimp only at hL hA; subst hL hA
   refine Fb 8 1 fun hl24 => ?_
   refine Fb 8 2 fun hl25 => ?_
   refine Fb 16 3 fun hl26 => ?_
   refine KS ?_
   refine Oq Vm (Oq (Vfa fo98_2 0) (Oq (VldF sh96 0) (Oq (Vlen sl96) (Oq Vlss (KS ?_)))))
   refine Kc ?_ ?_
   · intro h27
     have g28 := of_decide_eq_true h27
     obtain ⟨r29, rfl⟩ := scc (n := r17) (by omega)
     refine KS ?_
     refine Oq (Vfa fo98_2 0) (Oq (VldF sh96 0) (Oq Vm (Oq (Vi sl96 3) ?_)))
     refine JJ_peek_GCopy i_18.toNat 3 rfl rng fun hb30 hb31 => ?_
     unfold i64ok at hb30 hb31
     refine Oq (Vfa fo147_0 0) (Oq (VldF sh3 0) (Oq Vm (Oq Veql (Oq Vm ?_))))
     refine Js 33 ?_ ?_
     · intro h32
       have g33 := eq_of_beq h32
       refine Oq (Vfa fo98_2 1) (Oq (VldF sh96 1) (Oq Vm (Oq (Vi sl96 4) (Oq (Vfa fo147_1 0) (Oq (VldF sh3 0) (Oq Vm (Oq Veql (Oq Vpt (KS ?_)))))))))
       refine Kc ?_ ?_
       · intro h34
         have g35 := eq_of_beq h34
         refine KS ?_
         refine Oq Va (KS ?_)
         have hR36 := q2 hM19 (.ret true) (by simp only [flqref1_follows_L0, h5, h10, h15, h27, h32, h34, hg8, cs4])
         have hq := q4 hrr true (by simp only [flqref1_follows, h5, h10, h15, h27, h32, h34, hg8, hR36, cs4]); subst hq
         exact Kr () rfl (.tmp rfl .nil) [] trivial
       intro h34
       have g37 := ne_of_beq_false h34
       refine KS ?_
       refine Oq Vm (Oq Vadd (Oq Va (KS ?_)))
       exact Kg (r29, (i_18 + 1)) [1, 2, 3, 4] ⟨(q3 hM19 (by simp only [flqref1_follows_L0, h5, h10, h15, h27, h32, h34, hg8, cs4])), (by omega), (by omega), (by omega), (by omega)⟩
     intro h32
     have g38 := ne_of_beq_false h32
     refine Osk (Osk (Osk (Osk (Osk (Osk (Osk (Osk (Oq Vpf (KS ?_)))))))))
     refine Kf ?_
     refine KS ?_
     refine Oq Vm (Oq Vadd (Oq Va (KS ?_)))
     exact Kg (r29, (i_18 + 1)) [1, 2, 3, 4] ⟨(q3 hM19 (by simp only [flqref1_follows_L0, h5, h10, h15, h27, h32, hg8, cs4])), (by omega), (by omega), (by omega), (by omega)⟩
   intro h27
   have g39 := of_decide_eq_false h27
   obtain rfl : r17 = 0 := by omega
   refine Ke ?_
   have hR40 := q2 hM19 (.brk ()) (by simp only [flqref1_follows_L0, h5, h10, h15, h27, hg8, cs4])
   refine KS ?_
   refine Oq Va (KS ?_)
   have hq := q4 hrr false (by simp only [flqref1_follows, h5, h10, h15, h27, hg8, hR40, cs4]); subst hq
   exact Kr () rfl (.tmp rfl .nil) [] trivial
 intro h5
 have g41 := ne_of_beq_false h5
 refine Osk (Osk (Osk (Osk (Osk (Oq Vpf (KS ?_))))))
 refine Kf ?_
 refine KS ?_
 refine Oq Va (KS ?_)
 refine Kl (γ := Nat × Int) (fun (r42, i_43) => ⟨[(1, vi a), (2, vi b), (3, p4), (7, vi i_43)], [pv p4 [vi t.Gen.Width, vl ta1 tk1 t.Gen.Words, vi t.Kill.Width, vl ta3 tk3 t.Kill.Words, vl ta4 tk4 t.Copies], S ta1 tk1 t.Gen.Words, S ta3 tk3 t.Kill.Words, S ta4 tk4 t.Copies], flqref1_follows_L0 t a b r42 i_43 = flqref1_follows_L0 t a b (((t.Copies.length : Int) - 0).toNat) 0 ∧ r42 = ((t.Copies.length : Int) - i_43).toNat ∧ (0 : Int) ≤ i_43 ∧ i_43 ≤ (t.Copies.length : Int) ∧ (-9223372036854775808 ≤ i_43 ∧ i_43 ≤ 9223372036854775807), r42⟩) (((t.Copies.length : Int) - 0).toNat, 0) [0, 1, 2, 3] ⟨rfl, rfl, (by omega), (by omega), (by omega)⟩ ?_
 rintro ⟨r42, i_43⟩ ⟨hM44, hr45, hi46, hi47, hk48⟩
 refine JJ_nx fun _ _ hL hA => ?_; dsimp only at hL hA; subst hL hA
 refine Fb 8 1 fun hl49 => ?_
 refine Fb 8 2 fun hl50 => ?_
 refine Fb 16 3 fun hl51 => ?_
 refine KS ?_
 refine Oq Vm (Oq (Vfa fo98_2 0) (Oq (VldF sh96 0) (Oq (Vlen sl96) (Oq Vlss (KS ?_)))))
 refine Kc ?_ ?_
 · intro h52
   have g53 := of_decide_eq_true h52
   obtain ⟨r54, rfl⟩ := scc (n := r42) (by omega)
   refine KS ?_
   refine Oq (Vfa fo98_2 0) (Oq (VldF sh96 0) (Oq Vm (Oq (Vi sl96 3) ?_)))
   refine JJ_peek_GCopy i_43.toNat 3 rfl rng fun hb55 hb56 => ?_
   unfold i64ok at hb55 hb56
   refine Oq (Vfa fo147_0 0) (Oq (VldF sh3 0) (Oq Vm (Oq Veql (Oq Vm ?_))))
   refine Js 33 ?_ ?_
   · intro h57
     have g58 := eq_of_beq h57
     refine Oq (Vfa fo98_2 1) (Oq (VldF sh96 1) (Oq Vm (Oq (Vi sl96 4) (Oq (Vfa fo147_1 0) (Oq (VldF sh3 0) (Oq Vm (Oq Veql (Oq Vpt (KS ?_)))))))))
     refine Kc ?_ ?_
     · intro h59
       have g60 := eq_of_beq h59
       refine KS ?_
       refine Oq Va (KS ?_)
       have hR61 := q2 hM44 (.ret true) (by simp only [flqref1_follows_L0, h5, h52, h57, h59, cs4])
       have hq := q4 hrr true (by simp only [flqref1_follows, h5, h52, h57, h59, hR61, cs4]); subst hq
       exact Kr () rfl (.tmp rfl .nil) [] trivial
     intro h59
     have g62 := ne_of_beq_false h59
     refine KS ?_
     refine Oq Vm (Oq Vadd (Oq Va (KS ?_)))
     exact Kg (r54, (i_43 + 1)) [1, 2, 3, 4] ⟨(q3 hM44 (by simp only [flqref1_follows_L0, h5, h52, h57, h59, cs4])), (by omega), (by omega), (by omega), (by omega)⟩
   intro h57
   have g63 := ne_of_beq_false h57
   refine Osk (Osk (Osk (Osk (Osk (Osk (Osk (Osk (Oq Vpf (KS ?_)))))))))
   refine Kf ?_
   refine KS ?_
   refine Oq Vm (Oq Vadd (Oq Va (KS ?_)))
   exact Kg (r54, (i_43 + 1)) [1, 2, 3, 4] ⟨(q3 hM44 (by simp only [flqref1_follows_L0, h5, h52, h57, cs4])), (by omega), (by omega), (by omega), (by omega)⟩
 intro h52
 have g64 := of_decide_eq_false h52
 obtain rfl : r42 = 0 := by omega
 refine Ke ?_
 have hR65 := q2 hM44 (.brk ()) (by simp only [flqref1_follows_L0, h5, h52, cs4])
 refine KS ?_
 refine Oq Va (KS ?_)
 have hq := q4 hrr false (by simp only [flqref1_follows, h5, h52, hR65, cs4]); subst hq
 exact Kr () rfl (.tmp rfl .nil) [] trivial
theorem fn206 (t : GTransfer) (ta1 : Option Addr) (tk1 : Nat) (ta3 : Option Addr) (tk3 : Nat) (ta4 : Option Addr) (tk4 : Nat) (s : GSet) (sa1 : Option Addr) (sk1 : Nat) (ht_0 : i64ok t.Gen.Width) (ht_2 : i64ok t.Kill.Width) (hs_0 : i64ok s.Width) (ht : flqref1_ValidTransfer t = true) (hw : t.Gen.Width = s.Width) (rr : GSet) (hrr : flqref1_value t s = rr) : FT Tryz.prog 206 #[.agg #[vi t.Gen.Width, vl ta1 tk1 t.Gen.Words, vi t.Kill.Width, vl ta3 tk3 t.Kill.Words, vl ta4 tk4 t.Copies], .agg #[vi s.Width, vl sa1 sk1 s.Words]] [S ta1 tk1 t.Gen.Words, S ta3 tk3 t.Kill.Words, S ta4 tk4 t.Copies, S sa1 sk1 s.Words] (fun g : Value => i64ok rr.Width) (fun g => .agg #[vi rr.Width, g]) (fun g => [sl g rr.Words]) := by
 refine FTi Tryz.func206 fun w0 M0 F0 => ?_
 unfold i64ok at ht_0 ht_2 hs_0
 refine Fb 8 0 fun hl1 => ?_
 refine Fb 8 1 fun hl2 => ?_
 refine Fb 16 2 fun hl3 => ?_
 refine Fb 8 3 fun hl4 => ?_
 have hvt := VT_w ht
 refine KS ?_
 refine Oa (Ab [vi t.Gen.Width, vl ta1 tk1 t.Gen.Words, vi t.Kill.Width, vl ta3 tk3 t.Kill.Words, vl ta4 tk4 t.Copies]) fun p5 => Oa (Ab [vi s.Width, vl sa1 sk1 s.Words]) fun p6 => Oa (Al ze42 [vi 0, .slice none 0 0]) fun p7 => KS ?_
 refine Oq (Vfa fo98_0 2) (Oq (VldG sh42 2 [vi t.Gen.Width, vl ta1 tk1 t.Gen.Words]) (Oa (Al ze42 [vi 0, .slice none 0 0]) fun p8 => Ost (Scl [0] sh42 [vi t.Gen.Width, vl ta1 tk1 t.Gen.Words]) (KS ?_)))
 refine Oq Va (KS ?_)
 refine Kl (γ := Nat × Int × List (BitVec 64) × Int × Option Addr × Nat) (fun (r9, out0_10, out1_11, a_12, a13, k14) => ⟨[(2, p5), (3, p6), (4, p7), (5, p8), (6, vi a_12)], [S a13 k14 out1_11, Cl p8 [vi out0_10, vl a13 k14 out1_11], Cl p7 [vi 0, .slice none 0 0], pv p6 [vi s.Width, vl sa1 sk1 s.Words], pv p5 [vi t.Gen.Width, vl ta1 tk1 t.Gen.Words, vi t.Kill.Width, vl ta3 tk3 t.Kill.Words, vl ta4 tk4 t.Copies], S ta1 tk1 t.Gen.Words, S ta3 tk3 t.Kill.Words, S ta4 tk4 t.Copies, S sa1 sk1 s.Words], flqref1_value_L0 t s r9 out0_10 out1_11 a_12 = flqref1_value_L0 t s (((s.Width : Int) - 0).toNat) t.Gen.Width t.Gen.Words 0 ∧ r9 = ((s.Width : Int) - a_12).toNat ∧ (0 : Int) ≤ a_12 ∧ (a_12 ≤ s.Width ∨ a_12 = 0) ∧ (-9223372036854775808 ≤ out0_10 ∧ out0_10 ≤ 9223372036854775807) ∧ (-9223372036854775808 ≤ a_12 ∧ a_12 ≤ 9223372036854775807) ∧ out0_10 = s.Width ∧ out1_11.length = ((s.Width + 63) / 64).toNat, r9⟩) (((s.Width : Int) - 0).toNat, t.Gen.Width, t.Gen.Words, 0, ta1, tk1) [4, 0, 0, 0, 1, 2, 3, 4, 5] ⟨rfl, rfl, (by omega), (.inr rfl), (by omega), (by omega), iv0, iv0⟩ ?_
 rintro ⟨r9, out0_10, out1_11, a_12, a13, k14⟩ ⟨hM15, hr16, hi17, hi18, hk19, hk20, hv21, hv22⟩
 refine JJ_nx fun _ _ hL hA => ?_; dsimp only at hL hA; subst hL hA
 refine Fb 8 0 fun hl23 => ?_
 refine Fb 8 5 fun hl24 => ?_
 refine Fb 8 6 fun hl25 => ?_
 refine Fb 16 7 fun hl26 => ?_
 refine Fb 8 8 fun hl27 => ?_
 refine KS ?_
 refine Oq Vm (Oq (Vfa fo42_0 3) (Oq (VldF sh3 3) (Oq Vlss (KS ?_))))
 refine Kc ?_ ?_
 · intro h28
   have g29 := of_decide_eq_true h28
   obtain ⟨r30, rfl⟩ := scc (n := r9) (by omega)
   refine KS ?_
   refine Oq Va (KS ?_)
   have hterm43 : flqref1_value_L1 t s a_12 (s.Width.toNat + 1) out0_10 out1_11 0 ≠ LR.oof := value_L1_term _ _ _ _ _ _ _ (by omega) (by omega)
   refine Kl (γ := Nat × Int × List (BitVec 64) × Int × Option Addr × Nat) (fun (r31, out0_32, out1_33, b_34, a35, k36) => ⟨[(2, p5), (3, p6), (4, p7), (5, p8), (6, vi a_12), (7, vi b_34)], [S a35 k36 out1_33, Cl p8 [vi out0_32, vl a35 k36 out1_33], Cl p7 [vi 0, .slice none 0 0], pv p6 [vi s.Width, vl sa1 sk1 s.Words], pv p5 [vi t.Gen.Width, vl ta1 tk1 t.Gen.Words, vi t.Kill.Width, vl ta3 tk3 t.Kill.Words, vl ta4 tk4 t.Copies], S ta1 tk1 t.Gen.Words, S ta3 tk3 t.Kill.Words, S ta4 tk4 t.Copies, S sa1 sk1 s.Words], flqref1_value_L1 t s a_12 r31 out0_32 out1_33 b_34 = flqref1_value_L1 t s a_12 (s.Width.toNat + 1) out0_10 out1_11 0 ∧ (-9223372036854775808 ≤ out0_32 ∧ out0_32 ≤ 9223372036854775807) ∧ (-9223372036854775808 ≤ b_34 ∧ b_34 ≤ 9223372036854775807) ∧ out0_32 = s.Width ∧ out1_33.length = ((s.Width + 63) / 64).toNat ∧ 0 ≤ b_34, r31⟩) ((s.Width.toNat + 1), out0_10, out1_11, 0, a13, k14) [0, 1, 1, 1, 2, 3, 4, 5, 6] ⟨rfl, (by omega), (by omega), iv0, iv0, iv0⟩ ?_
   rintro ⟨r31, out0_32, out1_33, b_34, a35, k36⟩ ⟨hM37, hk38, hk39, hv40, hv41, hv42⟩
   refine JJ_nx fun _ _ hL hA => ?_; dsimp only at hL hA; subst hL hA
   refine Fb 8 0 fun hl44 => ?_
   refine Fb 8 5 fun hl45 => ?_
   refine Fb 8 6 fun hl46 => ?_
   refine Fb 16 7 fun hl47 => ?_
   refine Fb 8 8 fun hl48 => ?_
   rcases r31 with _ | r31
   · exact absurd (hM37.symm.trans rfl) hterm43
   refine KS ?_
   refine Oq (VldA sh42 3) (Oq Vm ?_)
   refine letv (flqref1_Has s a_12) fun rv49 hg50 => ?_
   have hc51 := fn31 s sa1 sk1 a_12 pre pre rv49 hg50
   refine Oc [8] ca31 hc51 ?_
   rintro - -
   refine Oq Vm ?_
   refine Js 19 ?_ ?_
   · intro h52
     refine Oq Vm (Oq (Vfa fo42_0 3) (Oq (VldF sh3 3) (Oq Vlss (Oq Vpt (KS ?_)))))
     refine Kc ?_ ?_
     · intro h54
       have g55 := of_decide_eq_true h54
       refine KS ?_
       refine Oq (VldA sh98 4) (Oq Vm (Oq Vm ?_))
       refine letv (flqref1_follows t a_12 b_34) fun rv56 hg57 => ?_
       have hc58 := fn209 t ta1 tk1 ta3 tk3 ta4 tk4 a_12 b_34 pre pre pre pre rv56 hg57
       refine Oc [5, 6, 7] ca209 hc58 ?_
       rintro - -
       refine KS ?_
       refine Kc ?_ ?_
       · intro h59
         refine KS ?_
         refine Oq (VldA sh42 1) (Oq Vm ?_)
         refine letv (flqref1_Put (GSet.mk out0_32 out1_33) b_34) fun rv62 hg63 => ?_
         have hc64 := fn79 ((GSet.mk out0_32 out1_33)) a35 k36 b_34 pre pre pre pre rv62 hg63
         refine Oc [0] ca79 hc64 ?_
         rintro c61 ⟨he65, he66, he67⟩
         unfold i64ok at he65
         have he66 : (rv62.Width = out0_32) := he66
         have he67 : (rv62.Words.length = ((out0_32 + 63) / 64).toNat) := he67
         refine Jo 0 ?_; rintro a68 k69 rfl
         refine Fb 8 0 fun hl70 => ?_
         refine Ost (Scl [2] sh42 [vi rv62.Width, vl a68 k69 rv62.Words]) (KS ?_)
         refine Oq Vm (Oq Vadd (Oq Va (KS ?_)))
         refine Jl [1] (Ent.freeze _ _) ?_
         exact Kg (r31, rv62.Width, rv62.Words, (b_34 + 1), a68, k69) [0, 1, 2, 2, 3, 4, 5, 6, 7] ⟨(q3 hM37 (by simp only [flqref1_value_L1, h28, h52, h54, h59, hg50, hg57, hg63, cs4])), (by omega), (by omega), iv1, iv1, iv1⟩
       intro h59
       refine KS ?_
       refine Oq Vm (Oq Vadd (Oq Va (KS ?_)))
       exact Kg (r31, out0_32, out1_33, (b_34 + 1), a35, k36) [0, 1, 1, 1, 2, 3, 4, 5, 6] ⟨(q3 hM37 (by simp only [flqref1_value_L1, h28, h52, h54, h59, hg50, hg57, cs4])), (by omega), (by omega), iv1, iv1, iv1⟩
     intro h54
     have g72 := of_decide_eq_false h54
     refine Ke ?_
     have hR73 := q2 hM37 (.brk (out0_32, out1_33)) (by simp only [flqref1_value_L1, h28, h52, h54, hg50, cs4])
     refine KS ?_
     refine Oq Vm (Oq Vadd (Oq Va (KS ?_)))
     exact Kg (r30, out0_32, out1_33, (a_12 + 1), a35, k36) [0, 1, 1, 1, 2, 3, 4, 5, 6] ⟨(q3 hM15 (by simp only [flqref1_value_L0, h28, h52, h54, hg50, hR73, cs4])), (by omega), (by omega), (by omega), (by omega), (by omega), iv1, iv1⟩
   intro h52
   refine Osk (Osk (Osk (Osk (Oq Vpf (KS ?_)))))
   refine Kf ?_
   refine Ke ?_
   have hR75 := q2 hM37 (.brk (out0_32, out1_33)) (by simp only [flqref1_value_L1, h28, h52, hg50, cs4])
   refine KS ?_
   refine Oq Vm (Oq Vadd (Oq Va (KS ?_)))
   exact Kg (r30, out0_32, out1_33, (a_12 + 1), a35, k36) [0, 1, 1, 1, 2, 3, 4, 5, 6] ⟨(q3 hM15 (by simp only [flqref1_value_L0, h28, h52, hg50, hR75, cs4])), (by omega), (by omega), (by omega), (by omega), (by omega), iv1, iv1⟩
 intro h28
 have g76 := of_decide_eq_false h28
 obtain rfl : r9 = 0 := by omega
 refine Ke ?_
 have hR77 := q2 hM15 (out0_10, out1_11) (by simp only [flqref1_value_L0, h28, cs4])
 refine KS ?_
 refine Oq (VldA sh42 1) (Ost (Scl [2] sh42 [vi out0_10, vl a13 k14 out1_11]) (KS ?_))
 have hq := q4 hrr (GSet.mk out0_10 out1_11) (by simp only [flqref1_value, h28, hR77, cs4]); subst hq
 exact Kr (vl a13 k14 out1_11) rfl (.cellN 0 rfl sh42 rfl (reads_Cl _ _) rfl .nil) [1] en
theorem fn145 (t : GTransfer) (ta1 : Option Addr) (tk1 : Nat) (ta3 : Option Addr) (tk3 : Nat) (ta4 : Option Addr) (tk4 : Nat) (s : GSet) (sa1 : Option Addr) (sk1 : Nat) (ht_0 : i64ok t.Gen.Width) (ht_2 : i64ok t.Kill.Width) (hs_0 : i64ok s.Width) (rr : GSet × Int) (hrr : flqref1_Apply t s = rr) : FT Tryz.prog 145 #[.agg #[vi t.Gen.Width, vl ta1 tk1 t.Gen.Words, vi t.Kill.Width, vl ta3 tk3 t.Kill.Words, vl ta4 tk4 t.Copies], .agg #[vi s.Width, vl sa1 sk1 s.Words]] [S ta1 tk1 t.Gen.Words, S ta3 tk3 t.Kill.Words, S ta4 tk4 t.Copies, S sa1 sk1 s.Words] (fun g : Value => i64ok rr.1.Width ∧ i64ok rr.2) (fun g => .tuple #[.agg #[vi rr.1.Width, g], vi rr.2]) (fun g => [sl g rr.1.Words]) := by
 refine FTi Tryz.func145 fun w0 M0 F0 => ?_
 unfold i64ok at ht_0 ht_2 hs_0
 refine Fb 8 0 fun hl1 => ?_
 refine Fb 8 1 fun hl2 => ?_
 refine Fb 16 2 fun hl3 => ?_
 refine Fb 8 3 fun hl4 => ?_
 refine KS ?_
 refine Oa (Ab [vi t.Gen.Width, vl ta1 tk1 t.Gen.Words, vi t.Kill.Width, vl ta3 tk3 t.Kill.Words, vl ta4 tk4 t.Copies]) fun p5 => Oa (Ab [vi s.Width, vl sa1 sk1 s.Words]) fun p6 => Oa (Al ze42 [vi 0, .slice none 0 0]) fun p7 => Oq Va (KS ?_)
 refine Oq (VldA sh98 2) ?_
 refine letv (flqref1_ValidTransfer t) fun rv8 hg9 => ?_
 have hc10 := fn151 t ta1 tk1 ta3 tk3 ta4 tk4 pre pre rv8 hg9
 refine Oc [3, 4, 5] ca151 hc10 ?_
 rintro - -
 refine Oq Vnot (Oq Vm ?_)
 refine Js 9 ?_ ?_
 · intro h11
   have h13 := not_true h11
   refine Osk (Osk (Osk (Oq Vpt (KS ?_))))
   refine Kt ?_
   refine KS ?_
   refine Oq (Vbd st42 [vi 0, .slice none 0 0]) (Ost (Scl [0] sh42 [vi 0, .slice none 0 0]) (Oq Va (KS ?_)))
   refine Jl [] (Ent.slNil (α := BitVec 64)) ?_
   have hq := q4 hrr ((GSet.mk 0 []), 1) (by simp only [flqref1_Apply, h11, h13, hg9, cs4]); subst hq
   exact Kr (.slice none 0 0) rfl (.cellN 1 rfl sh42 rfl (reads_Cl _ _) rfl (.tmp rfl .nil)) [0] en
 intro h11
 have h16 := not_false h11
 refine Oq (VldA sh42 1) ?_
 refine letv (flqref1_Valid s) fun rv18 hg19 => ?_
 have hc20 := fn91 s sa1 sk1 pre rv18 hg19
 refine Oc [6] ca91 hc20 ?_
 rintro - -
 refine Oq Vnot (Oq Vpf (KS ?_))
 refine Kc ?_ ?_
 · intro h21
   have h23 := not_true h21
   refine KS ?_
   refine Oq (Vbd st42 [vi 0, .slice none 0 0]) (Ost (Scl [0] sh42 [vi 0, .slice none 0 0]) (Oq Va (KS ?_)))
   refine Jl [] (Ent.slNil (α := BitVec 64)) ?_
   have hq := q4 hrr ((GSet.mk 0 []), 1) (by simp only [flqref1_Apply, h11, h16, h21, h23, hg9, hg19, cs4]); subst hq
   exact Kr (.slice none 0 0) rfl (.cellN 1 rfl sh42 rfl (reads_Cl _ _) rfl (.tmp rfl .nil)) [0] en
 intro h21
 have h26 := not_false h21
 refine KS ?_
 refine Oq (Vfa fo98_0 2) (Oq (VfaF fo42_0 2) (Oq (VldF sh3 2) (Oq (Vfa fo42_0 1) (Oq (VldF sh3 1) (Oq Vneq (KS ?_))))))
 refine Kc ?_ ?_
 · intro h28
   have g29 := ne_of_bne h28
   refine KS ?_
   refine Oq (Vbd st42 [vi 0, .slice none 0 0]) (Ost (Scl [0] sh42 [vi 0, .slice none 0 0]) (Oq Va (KS ?_)))
   refine Jl [] (Ent.slNil (α := BitVec 64)) ?_
   have hq := q4 hrr ((GSet.mk 0 []), 2) (by simp only [flqref1_Apply, h11, h16, h21, h26, h28, hg9, hg19, cs4]); subst hq
   exact Kr (.slice none 0 0) rfl (.cellN 1 rfl sh42 rfl (reads_Cl _ _) rfl (.tmp rfl .nil)) [0] en
 intro h28
 have g30 := eq_of_bne_false h28
 refine KS ?_
 refine Oq (VldA sh98 2) (Oq (VldA sh42 1) ?_)
 refine letv (flqref1_value t s) fun rv32 hg33 => ?_
 have hc34 := fn206 t ta1 tk1 ta3 tk3 ta4 tk4 s sa1 sk1 pre pre pre (by simp only [h11, h16, h21, h26, h28, hg9, hg19]) pre rv32 hg33
 refine Oc [3, 4, 5, 6] ca206 hc34 ?_
 rintro c31 he35
 unfold i64ok at he35
 refine Jo 0 ?_; rintro a36 k37 rfl
 refine Fb 8 0 fun hl38 => ?_
 refine Ost (Scl [1] sh42 [vi rv32.Width, vl a36 k37 rv32.Words]) (Oq Va (KS ?_))
 have hq := q4 hrr (rv32, 0) (by simp only [flqref1_Apply, h11, h16, h21, h26, h28, hg9, hg19, hg33, cs4]); subst hq
 exact Kr (vl a36 k37 rv32.Words) rfl (.cellN 0 rfl sh42 rfl (reads_Cl _ _) rfl (.tmp rfl .nil)) [1] en
end Go.SL.G
