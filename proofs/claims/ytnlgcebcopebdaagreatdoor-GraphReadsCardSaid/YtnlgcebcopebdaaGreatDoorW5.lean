/- Part 5 of the walks: mirrors, plain laws and walks used by the last text of this claim. -/
import Derived.Test.YtnlgcebcopebdaaGreatDoorW4
import Derived.Test.YtnlgcebcopebdaaGreatDoorProg
set_option linter.unusedVariables false
set_option linter.unusedSimpArgs false
namespace Go.SL.G
open Go Go.SL Go.Proofs
set_option maxHeartbeats 20000000
set_option maxRecDepth 100000
theorem fn11 (kwLA : Option Addr) (kwLK : Nat) (rr : Bool) (hrr : w8_sane = rr) : FT Tryz.prog 11 #[] [pv (gp 0) [vl kwLA kwLK kwL], S kwLA kwLK kwL] (fun g : Unit => True) (fun g => vb rr) (fun g => []) := by
 refine FTi Tryz.func11 fun w0 M0 F0 => Fb 16 1 fun _ => ?_
 refine FoS 1 fun ho2 => ?_
 refine KS ?_
 refine Oq Va (KS ?_)
 refine letv (r4_Parse (Str.mk [102, 117, 110, 99, 32, 109, 59, 32, 98, 108, 111, 99, 107, 32, 98, 59, 32, 98, 114, 97, 110, 99, 104, 32, 120, 32, 98, 32, 98, 59, 32, 101, 110, 100])) fun rv4 hg5 => ?_
 have hc6 := fn27 ((Str.mk [102, 117, 110, 99, 32, 109, 59, 32, 98, 108, 111, 99, 107, 32, 98, 59, 32, 98, 114, 97, 110, 99, 104, 32, 120, 32, 98, 32, 98, 59, 32, 101, 110, 100])) pre rv4 hg5
 refine Oc [] ca27 hc6 ?_
 rintro c3 ⟨he7, he8, he9⟩
 unfold i64ok at he7 he8 he9
 refine Jo 0 ?_; rintro a10 k11 rfl
 refine Fb 40 0 fun _ => ?_
 refine Oq Vm (Oq Vx (Oq Vx (Oq Vx (Oq Vx (Oa (Al ze25 [.slice none 0 0]) fun p13 => Ost (Scl [0] sh25 [vl a10 k11 rv4.1.Funcs]) (Oq Va (Oq Va (Oq Va ?_))))))))
 refine KS ?_
 refine Oq (VldA sh25 0) ?_
 refine letv (gh_Build rv4.1) fun rv17 hg18 => ?_
 have hc19 := fn23 rv4.1 a10 k11 kwLA kwLK (by first | exact psm_of (by assumption) (by kernel_rfl) | exact Program_PSm' (by assumption) | exact SpP_PSm (Program_SpP (by assumption))) (nl_of (by assumption) (by kernel_rfl)) rv17 hg18
 refine Oc [1, 2, 3] ca23 hc19 ?_
 rintro ⟨c14, c15, c16⟩ ⟨he20, he21⟩
 unfold i64ok at he20
 refine Jo 0 ?_; rintro a22 k23 rfl
 refine Fb 32 0 fun _ => ?_
 refine Jo 1 ?_; rintro a25 k26 rfl
 refine Fb 24 1 fun _ => ?_
 refine Jo 2 ?_; rintro a28 k29 rfl
 refine Fb 24 2 fun _ => ?_
 refine Oq Vm (Oq Vx (Oq Vx (Oa (Al ze36 [.slice none 0 0, .slice none 0 0, .slice none 0 0]) fun p31 => Ost (Scl [0] sh36 [vl a22 k23 rv17.1.Nodes, vl a25 k26 rv17.1.Succ, vl a28 k29 rv17.1.Pred]) (Oq Va (KS ?_)))))
 refine Oq Vm (Oq Veql (Oq Vm ?_))
 refine Js 20 ?_ ?_
 ·intro h32
  have g33 := eq_of_beq h32
  refine Oq (Vfa fo36_1 0) (Oq (VldF sh34 0) (Oq (Vlen sl34) (Oq Veql (Oq Vpt (Oq Vm ?_)))))
  refine Js 26 ?_ ?_
  ·intro h34
   have g35 := eq_of_beq h34
   refine Oq (Vfa fo36_1 0) (Oq (VldF sh34 0) (Oq (Vi sl34 2) ?_))
   refine JJ_peekL (0 : Int).toNat 2 rfl rng fun a36 k37 => ?_
   refine Fb 8 1 fun _ => Fo 1 fun ho39 => ?_
   refine Oq (Vld sh22 0) (Oa (AsV sl22 sz22 [vi 1] [vi 1]) fun c40 => ?_)
   refine Jo 0 ?_; rintro a41 k42 rfl
   refine Jl [0] (Ent.crInt _ [1] _ _ rfl rfl (by intro x hx; rw [List.mem_singleton] at hx; subst hx; unfold i64ok; omega) aB1) ?_
   refine letv (r7_Ints (rv17.1.Succ.getD (0 : Int).toNat []) [1]) fun rv43 hg44 => ?_
   refine Oc [0, 1] ca18 (FT_borrow (A := _) (fun _ _ h => by cases h) (FT_ent (Ent.take (is := [1, 0]) rfl) (fn18 ((rv17.1.Succ.getD (0 : Int).toNat [])) a36 k37 ([1]) a41 k42 rv43 hg44))) ?_ (ht := rfl)
   rintro - -
   refine Oq Vpt (Oq Vm ?_)
   refine Js 34 ?_ ?_
   ·intro h45
    refine Oq (Vfa fo36_1 3) (Oq (VldF sh34 3) (Oq (Vi sl34 5) ?_))
    refine JJ_peekL (1 : Int).toNat 5 rfl rng fun a47 k48 => ?_
    refine Fb 8 1 fun _ => Fo 1 fun ho50 => ?_
    refine Oq (Vld sh22 0) (Oa (AsV sl22 sz22 [vi 1] [vi 1]) fun c51 => ?_)
    refine Jo 0 ?_; rintro a52 k53 rfl
    refine Jl [0] (Ent.crInt _ [1] _ _ rfl rfl (by intro x hx; rw [List.mem_singleton] at hx; subst hx; unfold i64ok; omega) aB1) ?_
    refine letv (r7_Ints (rv17.1.Succ.getD (1 : Int).toNat []) [1]) fun rv54 hg55 => ?_
    refine Oc [0, 1] ca18 (FT_borrow (A := _) (fun _ _ h => by cases h) (FT_ent (Ent.take (is := [1, 0]) rfl) (fn18 ((rv17.1.Succ.getD (1 : Int).toNat [])) a47 k48 ([1]) a52 k53 rv54 hg55))) ?_ (ht := rfl)
    rintro - -
    refine Oq Vpt (Oq Vm ?_)
    refine Js 42 ?_ ?_
    ·intro h56
     refine Oq (Vfa fo36_1 6) (Oq (VldF sh34 6) (Oq (Vi sl34 8) ?_))
     refine JJ_peekL (2 : Int).toNat 8 rfl rng fun a58 k59 => ?_
     refine Fb 8 1 fun _ => Fo 1 fun ho61 => ?_
     refine Oq (Vld sh22 0) (Oq (Vlen sl22) (Oq Veql (Oq Vpt (Oq Vm ?_))))
     refine Js 50 ?_ ?_
     ·intro h62
      have g63 := eq_of_beq h62
      refine Oq (Vfa fo36_2 8) (Oq (VldF sh34 8) (Oq (Vi sl34 11) ?_))
      refine JJ_peekL (1 : Int).toNat 11 rfl rng fun a64 k65 => ?_
      refine Fb 8 1 fun _ => Fo 1 fun ho67 => ?_
      refine Oq (Vld sh22 0) (Oa (AsV sl22 sz22 [vi 0, vi 1] [vi 0, vi 1]) fun c68 => ?_)
      refine Jo 0 ?_; rintro a69 k70 rfl
      refine Jl [0] (Ent.crInt _ [0, 1] _ _ rfl rfl (by intro x hx; simp only [List.mem_cons, List.not_mem_nil, or_false] at hx; rcases hx with rfl | rfl <;> (unfold i64ok; omega)) aB1) ?_
      refine letv (r7_Ints (rv17.1.Pred.getD (1 : Int).toNat []) [0, 1]) fun rv71 hg72 => ?_
      refine Oc [0, 1] ca18 (FT_borrow (A := _) (fun _ _ h => by cases h) (FT_ent (Ent.take (is := [1, 0]) rfl) (fn18 ((rv17.1.Pred.getD (1 : Int).toNat [])) a64 k65 ([0, 1]) a69 k70 rv71 hg72))) ?_ (ht := rfl)
      rintro - -
      refine Oq Vpt (Oq Vm ?_)
      refine Js 58 ?_ ?_
      ·intro h73
       refine Oq (VldA sh36 11) ?_
       refine letv (gh_Edges rv17.1) fun rv75 hg76 => ?_
       have hc77 := fn28 rv17.1 a22 k23 a25 k26 a28 k29 rv75 hg76
       refine Oc [12, 13, 14] ca28 hc77 ?_
       rintro - he78
       unfold i64ok at he78
       refine Oq Veql (Oq Vpt (Oq Va (KS ?_)))
       have hq := q4 hrr (rv75 == 2) (by simp only [w8_sane, h32, h34, h45, h56, h62, h73, hg5, hg18, hg44, hg55, hg72, hg76, cs4]); subst hq
       exact Kr () rfl (.tmp rfl .nil) [] trivial
      intro h73
      refine Osk (Osk (Osk (Oq Vpf (Oq Va (KS ?_)))))
      have hq := q4 hrr false (by simp only [w8_sane, h32, h34, h45, h56, h62, h73, hg5, hg18, hg44, hg55, hg72, cs4]); subst hq
      exact Kr () rfl (.tmp rfl .nil) [] trivial
     intro h62
     have g80 := ne_of_beq_false h62
     refine Osk (Osk (Osk (Osk (Osk (Osk (Oq Vpf (Oq Vm (Osk (Osk ?_)))))))))
     refine Osk (Oq Vpf (Oq Va (KS ?_)))
     have hq := q4 hrr false (by simp only [w8_sane, h32, h34, h45, h56, h62, hg5, hg18, hg44, hg55, cs4]); subst hq
     exact Kr () rfl (.tmp rfl .nil) [] trivial
    intro h56
    refine Osk (Osk (Osk (Osk (Osk (Osk (Oq Vpf (Oq Vm (Osk (Osk ?_)))))))))
    refine Osk (Osk (Osk (Osk (Oq Vpf (Oq Vm (Osk (Osk (Osk (Oq Vpf ?_)))))))))
    refine Oq Va (KS ?_)
    have hq := q4 hrr false (by simp only [w8_sane, h32, h34, h45, h56, hg5, hg18, hg44, hg55, cs4]); subst hq
    exact Kr () rfl (.tmp rfl .nil) [] trivial
   intro h45
   refine Osk (Osk (Osk (Osk (Osk (Osk (Oq Vpf (Oq Vm (Osk (Osk ?_)))))))))
   refine Osk (Osk (Osk (Osk (Oq Vpf (Oq Vm (Osk (Osk (Osk (Osk ?_)))))))))
   refine Osk (Osk (Oq Vpf (Oq Vm (Osk (Osk (Osk (Oq Vpf (Oq Va (KS ?_)))))))))
   have hq := q4 hrr false (by simp only [w8_sane, h32, h34, h45, hg5, hg18, hg44, cs4]); subst hq
   exact Kr () rfl (.tmp rfl .nil) [] trivial
  intro h34
  have g83 := ne_of_beq_false h34
  refine Osk (Osk (Osk (Osk (Osk (Osk (Oq Vpf (Oq Vm (Osk (Osk ?_)))))))))
  refine Osk (Osk (Osk (Osk (Oq Vpf (Oq Vm (Osk (Osk (Osk (Osk ?_)))))))))
  refine Osk (Osk (Oq Vpf (Oq Vm (Osk (Osk (Osk (Osk (Osk (Osk ?_)))))))))
  refine Oq Vpf (Oq Vm (Osk (Osk (Osk (Oq Vpf (Oq Va (KS ?_)))))))
  have hq := q4 hrr false (by simp only [w8_sane, h32, h34, hg5, hg18, cs4]); subst hq
  exact Kr () rfl (.tmp rfl .nil) [] trivial
 intro h32
 have g84 := ne_of_beq_false h32
 refine Osk (Osk (Osk (Osk (Oq Vpf (Oq Vm (Osk (Osk (Osk (Osk ?_)))))))))
 refine Osk (Osk (Oq Vpf (Oq Vm (Osk (Osk (Osk (Osk (Osk (Osk ?_)))))))))
 refine Oq Vpf (Oq Vm (Osk (Osk (Osk (Osk (Osk (Osk (Oq Vpf (Oq Vm ?_)))))))))
 refine Osk (Osk (Osk (Osk (Osk (Osk (Oq Vpf (Oq Vm (Osk (Osk ?_)))))))))
 refine Osk (Oq Vpf (Oq Va (KS ?_)))
 have hq := q4 hrr false (by simp only [w8_sane, h32, hg5, hg18, cs4]); subst hq
 exact Kr () rfl (.tmp rfl .nil) [] trivial
theorem fn34 (v : Int) (n : Int) (hv_0 : i64ok v) (hn_0 : i64ok n) (hn1 : 1 ≤ n) (rr : Int) (hrr : g_Mod v n = rr) : FT Tryz.prog 34 #[vi v, vi n] [] (fun g : Unit => i64ok rr ∧ (0 ≤ rr ∧ rr < n)) (fun g => vi rr) (fun g => []) := by
 refine FTi Tryz.func34 fun w0 M0 F0 => ?_
 unfold i64ok at hv_0 hn_0
 have hm := mod_range v n aM1
 refine KS ?_
 refine Oq Va (KS ?_)
 refine Oq Vm (Oq (VcU un3 un108) (Oq Vm (Oq (VcU un3 un108) (Oq (VremU (ofInt_ne n aM1)) (Oq (VcN un108 un3 (h := (mod_le v n aM1))) (Oq Va (KS ?_)))))))
 have hq := q4 hrr (((BitVec.ofInt 64 v) % (BitVec.ofInt 64 n)).toNat : Int) (by simp only [g_Mod, cs4]); subst hq
 exact Kr () rfl (.tmp rfl .nil) [] en
theorem fn14 (tP : Value) (ta : Option Addr) (tk : Nat) (tT : List Int) (tI : Int) (n : Int) (htI : 0 ≤ tI ∧ tI ≤ (tT.length : Int)) (hn_0 : i64ok n) (rr : Int × Int) (hrr : tp_Next tT tI n = rr) : FT Tryz.prog 14 #[tP, vi n] [Cl tP [vl ta tk tT, vi tI], S ta tk tT] (fun g : Unit => i64ok rr.1 ∧ (0 ≤ rr.2 ∧ rr.2 ≤ (tT.length : Int)) ∧ (0 ≤ rr.1 ∧ (rr.1 < n ∨ rr.1 = 0))) (fun g => vi rr.1) (fun g => [Cl tP [vl ta tk tT, vi rr.2]]) := by
 refine FTi Tryz.func14 fun w0 M0 F0 => ?_
 unfold i64ok at hn_0
 refine Fb 8 1 fun _ => Fo 1 fun ho2 => KS ?_
 refine Oq Va (KS ?_)
 refine Jp 0 fun hp3 => ?_
 refine Kq [0, 1, 3, 7, 15, 31, 63, 7, 135, 391, 903, 1927, 4095, 8191] fmix ?_
 refine Qv [] Vm (Qv [] Vleq ?_)
 refine bool_split (decide (n ≤ 1)) ?_ ?_
 ·intro h4
  have g5 := dt h4
  refine Qb h4 [] Vm (Qs (Qs (Qs (Qs (Qs (Qs (Qs (Qs (Qs ?_)))))))))
  refine Qs (Qv [] Vpt ?_)
  refine Qn ⟨by kernel_rfl, ?_⟩
  refine Kt (KS ?_)
  refine Oq Va (KS ?_)
  have hq := q4 hrr (0, tI) (by simp only [tp_Next, h4, cs4]); subst hq
  exact Kr () rfl (.tmp rfl .nil) [1] en
 intro h4
 have g6 := df h4
 refine Qb h4 [] Vm (Qv [] Vm (Qv [0] (Vn 0) (Qv [0] (Vfa fo50_1 0) (Qv [1] (VldF sh3 0) (Qv [] Vm (Qv [0] (Vn 0) (Qv [0] (Vfa fo50_0 0) (Qv [1] (VldF sh22 0) (Qv [] (Vlen sl22) ?_)))))))))
 refine Qv [] Vgeq (Qv [] Vpf ?_)
 refine Qn ⟨by kernel_rfl, ?_⟩
 refine Kc ?_ ?_
 ·intro h7
  have g8 := dt h7
  refine KS ?_
  refine Oq Va (KS ?_)
  have hq := q4 hrr (0, tI) (by simp only [tp_Next, h4, h7, cs4]); subst hq
  exact Kr () rfl (.tmp rfl .nil) [1] en
 intro h7
 have g9 := df h7
 refine KS ?_
 refine Oq Vm (Oq (Vn 1) (Oq (Vfa fo50_1 1) (Oq (VldF sh3 1) (Oq Vadd (Oq (Vn 1) (Oq (Vfa fo50_1 1) (Ost (SclF [1] sh3 [vl ta tk tT, vi (tI + 1)]) (KS ?_))))))))
 refine JK_drawK [0, 1, 3, 7, 0, 16, 48, 112, 240, 511, 1023, 0, 4095, 8191] fmix ?_
 refine Dv [] Vm (Dv [1] (Vn 0) (Dv [1] (Vfa fo50_0 0) (Dv [0] (VldF sh22 0) (Dv [] Vm (Dv [1] (Vn 0) (Dv [1] (Vfa fo50_1 0) (Dv [0] (VldF sh3 0) (Dv [] Vsub (Dv [2] (Vi sl22 0) ?_)))))))))
 have hb10 := ok1 (i := (((tI + 1) - 1) : Int).toNat) ho2 rng
 refine Dv [2] (VldI sh3 0) (Dv [] Vm ?_)
 refine letv (g_Mod (tT.getD (((tI + 1) - 1) : Int).toNat 0) n) fun rv11 hg12 => ?_
 refine Dx [] [] [0] (fun G => vi rv11) [fun G => SP.fact (i64ok rv11 ∧ (0 ≤ rv11 ∧ rv11 < n))] (fun G => xC [] ca34 (fn34 ((tT.getD (((tI + 1) - 1) : Int).toNat 0)) n pre pre pre rv11 hg12)) (Dv [] Va ?_)
 refine Dn ⟨by kernel_rfl, fun G => ?_⟩
 refine Jw2 [(4, vi rv11)] [0, 1, 2] [SP.fact (i64ok rv11 ∧ (0 ≤ rv11 ∧ rv11 < n))] ?_
 refine Jf 3 rfl ?_; rintro ⟨he13, he14⟩
 unfold i64ok at he13
 refine Jk [0, 1] ?_
 have hq := q4 hrr (rv11, (tI + 1)) (by simp only [tp_Next, h4, h7, hg12, cs4]); subst hq
 exact Kr () rfl (.tmp rfl .nil) [0] en
theorem fn29 (l : List Int) (la0 : Option Addr) (lk0 : Nat) (n : Int) (hn_0 : i64ok n) (hl0 : l.length ≤ 1000000000) (rr : List Int) (hrr : r7_Insert l n = rr) : FT Tryz.prog 29 #[vl la0 lk0 l, vi n] [S la0 lk0 l] (fun g : Value => (rr.length ≤ l.length + 1)) (fun g => g) (fun g => [sl g rr]) := by
 refine FTi Tryz.func29 fun w0 M0 F0 => ?_
 unfold i64ok at hn_0
 refine Fb 8 0 fun _ => Fo 0 fun ho2 => KS ?_
 refine Oq Va (KS ?_)
 refine Oq Va (KS ?_)
 refine Kl (γ := Nat × Int) (fun (r3, i_4) => ⟨[(0, vl la0 lk0 l), (1, vi n), (5, vi i_4)], [S la0 lk0 l], r7_Insert_L0 l n r3 i_4 = r7_Insert_L0 l n (((l.length : Int) - 0).toNat) 0 ∧ r3 = ((l.length : Int) - i_4).toNat ∧ (0 : Int) ≤ i_4 ∧ i_4 ≤ (l.length : Int) ∧ (-9223372036854775808 ≤ i_4 ∧ i_4 ≤ 9223372036854775807), r3⟩) (((l.length : Int) - 0).toNat, 0) [0] ⟨rfl, rfl, aM1, aM1, aM1⟩ ?_
 rintro ⟨r3, i_4⟩ ⟨hM5, hr6, hi7, hi8, hk9⟩
 refine JJ_nx fun _ _ hL hA => ?_; dsimp only at hL hA; subst hL hA
 refine Fb 8 0 fun _ => Fo 0 fun ho11 => KS ?_
 refine Oq Vm (Oq Vm (Oq (Vlen sl22) (Oq Vlss (Oq Vm ?_))))
 refine Js 11 ?_ ?_
 ·intro h12
  have g13 := dt h12
  obtain ⟨r14, rfl⟩ := scc (n := r3) aM1
  refine Oq Vm (Oq Vm (Oq (Vi sl22 0) ?_))
  have hb15 := ok1 (i := i_4.toNat) ho11 rng
  refine Oq (VldI sh3 0) (Oq Vm (Oq Vlss (Oq Vpt (KS ?_))))
  refine Kc ?_ ?_
  ·intro h16
   have g17 := dt h16
   refine KS ?_
   refine Oq Vm (Oq Vadd (Oq Va (KS ?_)))
   exact Kg (r14, (i_4 + 1)) [0] ⟨(q3 hM5 (by simp only [r7_Insert_L0, h12, h16, cs4])), aM1, aM1, aM1, aM1⟩
  intro h16
  have g18 := df h16
  refine Ke ?_
  have hR19 := q2 hM5 i_4 (by simp only [r7_Insert_L0, h12, h16, cs4])
  refine KS ?_
  refine Oq Vm (Oq Vm (Oq (Vlen sl22) (Oq Vlss (Oq Vm ?_))))
  refine Js 25 ?_ ?_
  ·intro h20
   have g21 := dt h20
   refine Oq Vm (Oq Vm (Oq (Vi sl22 0) ?_))
   have hb22 := ok1 (i := i_4.toNat) ho11 rng
   refine Oq (VldI sh3 0) (Oq Vm (Oq Veql (Oq Vpt (KS ?_))))
   refine Kc ?_ ?_
   ·intro h23
    have g24 := eq_of_beq h23
    refine KS ?_
    refine Oq Vm (Oq Va (KS ?_))
    have hq := q4 hrr l (by simp only [r7_Insert, h12, h16, h20, h23, hR19, cs4]); subst hq
    exact Kr (vl la0 lk0 l) rfl (.tmp rfl .nil) [0] en
   intro h23
   have g25 := ne_of_beq_false h23
   refine KS ?_
   refine Oa (As0 sl22) fun c26 => ?_
   refine Jo 0 ?_; rintro a27 k28 rfl
   refine Oq Vm (Oq Vm (Oa (Asl [1] sl22 0 (i_4.toNat)) fun c29 => ?_))
   refine Jo 0 ?_; rintro a30 k31 rfl
   refine Fb 8 0 fun _ => Fo 0 fun ho33 => ?_
   have hn34 : ((l.take (i_4.toNat)).drop 0).length = (i_4.toNat) - 0 := len_slice rng rng
   refine Jl [1] (Ent.crNil (α := Int) _) ?_
   refine Oa (Ap0 [0, 0] sl22 sl22 sz22) fun c35 => ?_
   refine Jo 0 ?_; rintro a36 k37 rfl
   refine Oq Va (KS ?_)
   refine Oq Vm (Oq Vm (Oa (AsV sl22 sz22 [vi n] [vi n]) fun c38 => ?_))
   refine Jo 0 ?_; rintro a39 k40 rfl
   refine Jl [0] (Ent.crInt _ [n] _ _ rfl rfl (by intro x hx; rw [List.mem_singleton] at hx; subst hx; unfold i64ok; omega) aB1) ?_
   refine Oa (ApO [1, 0] sl22 sl22 sz22) fun c41 => ?_
   refine Jo 0 ?_; rintro a42 k43 rfl
   refine Fb 8 0 fun _ => Fo 0 fun ho45 => ?_
   have hn46 := la ((l.take (i_4.toNat)).drop 0) ([n] : List Int)
   refine Oq Va (KS ?_)
   refine Oq Vm (Oq Vm (Oq Vm (Oa (Asl [2] sl22 (i_4.toNat) l.length) fun c47 => ?_)))
   refine Jo 0 ?_; rintro a48 k49 rfl
   refine Fb 8 0 fun _ => Fo 0 fun ho51 => ?_
   have hn52 : ((l.take l.length).drop (i_4.toNat)).length = l.length - (i_4.toNat) := len_slice rng rng
   refine Oa (Ap [1, 0] sl22 sl22 sz22) fun c53 => ?_
   refine Jo 0 ?_; rintro a54 k55 rfl
   refine Fb 8 0 fun _ => Fo 0 fun ho57 => ?_
   have hn58 := la ((((l.take (i_4.toNat)).drop 0) ++ [n]) : List Int) ((l.take l.length).drop (i_4.toNat))
   refine Oq Va (KS ?_)
   refine Jl [0] (Ent.freeze _ _) ?_
   have hq := q4 hrr ((((l.take (i_4.toNat)).drop 0) ++ [n]) ++ ((l.take l.length).drop (i_4.toNat))) (by simp only [r7_Insert, h12, h16, h20, h23, hR19, cs4]); subst hq
   exact Kr (.slice a54 (((((l.take (i_4.toNat)).drop 0) ++ [n]) ++ ((l.take l.length).drop (i_4.toNat))).length) k55) rfl (.tmp rfl .nil) [0] en
  intro h20
  exact absurd h20 (by first | (simp [h12]; done) | (simp only [bne, h12]; decide) | (simp only [bne, h12, Bool.not_true, Bool.not_false]; decide) | (exfalso; omega) | (intro hq; simp only [bne, hq, Bool.not_false, Bool.not_true, reduceCtorEq] at h12))
 intro h12
 have g59 := df h12
 obtain rfl : r3 = 0 := by omega
 refine Osk (Osk (Osk (Osk (Osk (Osk (Oq Vpf (KS ?_)))))))
 refine Kf ?_
 refine Ke ?_
 have hR60 := q2 hM5 i_4 (by simp only [r7_Insert_L0, h12, cs4])
 refine KS ?_
 refine Oq Vm (Oq Vm (Oq (Vlen sl22) (Oq Vlss (Oq Vm ?_))))
 refine Js 25 ?_ ?_
 ·intro h61
  exact absurd h61 (by first | (simp [h12]; done) | (simp only [bne, h12]; decide) | (simp only [bne, h12, Bool.not_true, Bool.not_false]; decide) | (exfalso; omega) | (intro hq; simp only [bne, hq, Bool.not_false, Bool.not_true, reduceCtorEq] at h12))
 intro h61
 have g62 := df h61
 refine Osk (Osk (Osk (Osk (Osk (Osk (Oq Vpf (KS ?_)))))))
 refine Kf (KS ?_)
 refine Oa (As0 sl22) fun c63 => ?_
 refine Jo 0 ?_; rintro a64 k65 rfl
 refine Oq Vm (Oq Vm (Oa (Asl [1] sl22 0 (i_4.toNat)) fun c66 => ?_))
 refine Jo 0 ?_; rintro a67 k68 rfl
 refine Fb 8 0 fun _ => Fo 0 fun ho70 => ?_
 have hn71 : ((l.take (i_4.toNat)).drop 0).length = (i_4.toNat) - 0 := len_slice rng rng
 refine Jl [1] (Ent.crNil (α := Int) _) ?_
 refine Oa (Ap0 [0, 0] sl22 sl22 sz22) fun c72 => ?_
 refine Jo 0 ?_; rintro a73 k74 rfl
 refine Oq Va (KS ?_)
 refine Oq Vm (Oq Vm (Oa (AsV sl22 sz22 [vi n] [vi n]) fun c75 => ?_))
 refine Jo 0 ?_; rintro a76 k77 rfl
 refine Jl [0] (Ent.crInt _ [n] _ _ rfl rfl (by intro x hx; rw [List.mem_singleton] at hx; subst hx; unfold i64ok; omega) aB1) ?_
 refine Oa (ApO [1, 0] sl22 sl22 sz22) fun c78 => ?_
 refine Jo 0 ?_; rintro a79 k80 rfl
 refine Fb 8 0 fun _ => Fo 0 fun ho82 => ?_
 have hn83 := la ((l.take (i_4.toNat)).drop 0) ([n] : List Int)
 refine Oq Va (KS ?_)
 refine Oq Vm (Oq Vm (Oq Vm (Oa (Asl [2] sl22 (i_4.toNat) l.length) fun c84 => ?_)))
 refine Jo 0 ?_; rintro a85 k86 rfl
 refine Fb 8 0 fun _ => Fo 0 fun ho88 => ?_
 have hn89 : ((l.take l.length).drop (i_4.toNat)).length = l.length - (i_4.toNat) := len_slice rng rng
 refine Oa (Ap [1, 0] sl22 sl22 sz22) fun c90 => ?_
 refine Jo 0 ?_; rintro a91 k92 rfl
 refine Fb 8 0 fun _ => Fo 0 fun ho94 => ?_
 have hn95 := la ((((l.take (i_4.toNat)).drop 0) ++ [n]) : List Int) ((l.take l.length).drop (i_4.toNat))
 refine Oq Va (KS ?_)
 refine Jl [0] (Ent.freeze _ _) ?_
 have hq := q4 hrr ((((l.take (i_4.toNat)).drop 0) ++ [n]) ++ ((l.take l.length).drop (i_4.toNat))) (by simp only [r7_Insert, h12, h61, hR60, cs4]); subst hq
 exact Kr (.slice a91 (((((l.take (i_4.toNat)).drop 0) ++ [n]) ++ ((l.take l.length).drop (i_4.toNat))).length) k92) rfl (.tmp rfl .nil) [0] en
theorem fn12 (tP : Value) (ta : Option Addr) (tk : Nat) (tT : List Int) (tI : Int) (n : Int) (htI : 0 ≤ tI ∧ tI ≤ (tT.length : Int)) (hn_0 : i64ok n) (hn1 : 1 ≤ n ∧ n ≤ 1000) (rr : GGraph × Int) (hrr : tp_Graph tT tI n = rr) : FT Tryz.prog 12 #[tP, vi n] [Cl tP [vl ta tk tT, vi tI], S ta tk tT] (fun g : Value × Value × Value => (0 ≤ rr.2 ∧ rr.2 ≤ (tT.length : Int)) ∧ (1 ≤ rr.1.Nodes.length ∧ rr.1.Nodes.length ≤ 1000 ∧ rr.1.Succ.length = rr.1.Nodes.length ∧ rr.1.Pred.length = rr.1.Nodes.length) ∧ (∀ l ∈ rr.1.Succ, (l.length : Int) ≤ 3000) ∧ (∀ l ∈ rr.1.Pred, (l.length : Int) ≤ 3000) ∧ ((rr.1.Nodes.length : Int) ≤ n)) (fun g => .agg #[g.1, g.2.1, g.2.2]) (fun g => [sl g.1 rr.1.Nodes, sl g.2.1 rr.1.Succ, sl g.2.2 rr.1.Pred, Cl tP [vl ta tk tT, vi rr.2]]) := by
 refine FTi Tryz.func12 fun w0 M0 F0 => ?_
 unfold i64ok at hn_0
 refine Fb 8 1 fun _ => Fo 1 fun ho2 => KS ?_
 refine Oa (Al ze36 [.slice none 0 0, .slice none 0 0, .slice none 0 0]) fun p3 => KS ?_
 refine Oq Vm (Oq Vm ?_)
 refine letv (tp_Next tT tI n) fun rv4 hg5 => ?_
 have hc6 := fn14 tP ta tk tT tI n pre pre rv4 hg5
 refine Oc [1, 1] ca14 hc6 ?_
 rintro - ⟨he7, he8, he9⟩
 unfold i64ok at he7
 refine Oq Vadd (Oq Va (KS ?_))
 refine JK_drawK [0, 1, 0, 4, 0, 16, 63, 0, 255] fmix ?_
 refine Dv [] Vm ?_
 have hn11 := List.length_replicate (n := ((1 + rv4.1) : Int).toNat) (a := ((default : GNode) : GNode))
 refine Dx [] [] [0] (fun G => (G.g 1 0)) [fun G => os (G.g 1 0) ((List.replicate ((1 + rv4.1) : Int).toNat (default : GNode)) : List GNode)] (fun G => xA (Amk (α := GNode) sl33 sz33 (default : GNode) zrd_GNode)) (Dv [] Vm ?_)
 have hn13 := List.length_replicate (n := ((1 + rv4.1) : Int).toNat) (a := ([] : List Int))
 refine Dx [] [] [0] (fun G => (G.g 3 0)) [fun G => os (G.g 3 0) ((List.replicate ((1 + rv4.1) : Int).toNat []) : List (List Int))] (fun G => xA (Amk (α := List Int) sl34 sz34 [] (fun _ _ => ⟨_, rfl, slrd_nil⟩))) (Dv [] Vm ?_)
 have hn15 := List.length_replicate (n := ((1 + rv4.1) : Int).toNat) (a := ([] : List Int))
 refine Dx [] [] [0] (fun G => (G.g 5 0)) [fun G => os (G.g 5 0) ((List.replicate ((1 + rv4.1) : Int).toNat []) : List (List Int))] (fun G => xA (Amk (α := List Int) sl34 sz34 [] (fun _ _ => ⟨_, rfl, slrd_nil⟩))) ?_
 refine Dx [3, 4, 5] [] [0, 0, 0] (fun G => .agg #[(G.g 1 0), (G.g 3 0), (G.g 5 0)]) [] (fun G => xV (v := .agg #[(G.g 1 0), (G.g 3 0), (G.g 5 0)]) (Vo 0 rfl (isO_os _ _) fun aq16 kq17 eq18 => (by rw [eq18]; exact Vo 1 rfl (isO_os _ _) fun aq19 kq20 eq21 => (by rw [eq21]; exact Vo 2 rfl (isO_os _ _) fun aq22 kq23 eq24 => (by rw [eq24]; exact Vbd st36 [.slice aq16 (((List.replicate ((1 + rv4.1) : Int).toNat (default : GNode)) : List GNode).length) kq17, .slice aq19 (((List.replicate ((1 + rv4.1) : Int).toNat []) : List (List Int)).length) kq20, .slice aq22 (((List.replicate ((1 + rv4.1) : Int).toNat []) : List (List Int)).length) kq23]))))) (Dx [] [] [0] (fun G => (G.g 7 0)) [fun G => Cl (G.g 7 0) [.slice none 0 0, .slice none 0 0, .slice none 0 0]] (fun G => xA (Al ze36 [.slice none 0 0, .slice none 0 0, .slice none 0 0])) (Dx0 [3, 4, 5, 6] [6] [1, 1, 1, 0] [fun G => Cl (G.g 7 0) [(G.g 1 0), (G.g 3 0), (G.g 5 0)]] (fun G => x1 0 rfl os_one fun ho26 => (x1 1 rfl os_one fun ho27 => (x1 2 rfl os_one fun ho28 => (xS (Scl [3] sh36 [(G.g 1 0), (G.g 3 0), (G.g 5 0)] (v := .agg #[(G.g 1 0), (G.g 3 0), (G.g 5 0)]) (h1 := show [(G.g 1 0), (G.g 3 0), (G.g 5 0)].all (·.oneCell') = true from (by simp only [List.all_cons, List.all_nil, ho26, ho27, ho28, Bool.and_true, Bool.true_and] <;> rfl))))))) ?_))
 refine Dn ⟨by kernel_rfl, fun G => ?_⟩
 refine Jw2 [(0, tP), (4, p3), (1, vi (1 + rv4.1)), (5, (G.g 7 0))] [0, 1, 2] [os (G.g 1 0) ((List.replicate ((1 + rv4.1) : Int).toNat (default : GNode)) : List GNode), os (G.g 3 0) ((List.replicate ((1 + rv4.1) : Int).toNat []) : List (List Int)), os (G.g 5 0) ((List.replicate ((1 + rv4.1) : Int).toNat []) : List (List Int)), Cl (G.g 7 0) [(G.g 1 0), (G.g 3 0), (G.g 5 0)]] ?_
 generalize G.g 1 0 = c10, G.g 3 0 = c12, G.g 5 0 = c14, G.g 7 0 = p25
 refine Jo 3 ?_; rintro a29 k30 rfl
 refine Fb 32 3 fun _ => ?_
 refine Jo 4 ?_; rintro a32 k33 rfl
 refine Fb 24 4 fun _ => ?_
 refine Jo 5 ?_; rintro a35 k36 rfl
 refine KS ?_
 refine Oq Vm (Oq Vm (Oq Vmul (Oq Vadd ?_)))
 refine letv (tp_Next tT rv4.2 ((2 * (1 + rv4.1)) + 1)) fun rv37 hg38 => ?_
 have hc39 := fn14 tP ta tk tT rv4.2 (((2 * (1 + rv4.1)) + 1)) pre pre rv37 hg38
 refine Oc [0, 1] ca14 hc39 ?_
 rintro - ⟨he40, he41, he42⟩
 unfold i64ok at he40
 refine Oq Va (KS ?_)
 refine Kl (γ := Nat × Int × List (List Int) × List (List Int) × Int × Option Addr × Nat × Option Addr × Nat) (fun (r43, ti_44, g1_45, g2_46, k_47, a48, k49, a50, k51) => ⟨[(0, tP), (4, p3), (1, vi (1 + rv4.1)), (5, p25), (6, vi k_47)], [O a50 k51 g2_46, O a48 k49 g1_45, Cl tP [vl ta tk tT, vi ti_44], Cl p3 [.slice none 0 0, .slice none 0 0, .slice none 0 0], S ta tk tT, O a29 k30 ((List.replicate ((1 + rv4.1) : Int).toNat (default : GNode)) : List GNode), Cl p25 [vl a29 k30 (List.replicate ((1 + rv4.1) : Int).toNat (default : GNode)), vl a48 k49 g1_45, vl a50 k51 g2_46]], tp_Graph_L0 tT (1 + rv4.1) r43 ti_44 g1_45 g2_46 k_47 = tp_Graph_L0 tT (1 + rv4.1) (rv37.1.toNat) rv37.2 (List.replicate ((1 + rv4.1) : Int).toNat []) (List.replicate ((1 + rv4.1) : Int).toNat []) rv37.1 ∧ r43 = k_47.toNat ∧ k_47 ≤ (rv37.1 : Int) ∧ (-9223372036854775808 ≤ ti_44 ∧ ti_44 ≤ 9223372036854775807) ∧ (0 ≤ ti_44 ∧ ti_44 ≤ (tT.length : Int)) ∧ (-9223372036854775808 ≤ k_47 ∧ k_47 ≤ 9223372036854775807) ∧ g1_45.length = (1 + rv4.1).toNat ∧ g2_46.length = (1 + rv4.1).toNat ∧ (∀ l ∈ g1_45, (l.length : Int) ≤ 3000 - k_47) ∧ (∀ l ∈ g2_46, (l.length : Int) ≤ 3000 - k_47) ∧ (k_47 ≤ 2100), r43⟩) (rv37.1.toNat, rv37.2, (List.replicate ((1 + rv4.1) : Int).toNat []), (List.replicate ((1 + rv4.1) : Int).toNat []), rv37.1, a32, k33, a35, k36) [5, 4, 0, 0, 0, 1, 1] ⟨rfl, rfl, aM1, aM1, aM1, aM1, iv0, iv0, (fun l hl => by rw [List.eq_of_mem_replicate hl]; show (0 : Int) ≤ _; omega), (fun l hl => by rw [List.eq_of_mem_replicate hl]; show (0 : Int) ≤ _; omega), iv0⟩ ?_
 rintro ⟨r43, ti_44, g1_45, g2_46, k_47, a48, k49, a50, k51⟩ ⟨hM52, hr53, hi54, hk55, ht56, hk57, hv58, hv59, hv60, hv61, hv62⟩
 refine JJ_nx fun _ _ hL hA => ?_; dsimp only at hL hA; subst hL hA
 refine Fb 24 0 fun _ => Fb 24 1 fun _ => Fb 8 4 fun _ => Fo 4 fun ho66 => Fb 32 5 fun _ => KS ?_
 refine Oq Vm (Oq Vgtr (KS ?_))
 refine Kc ?_ ?_
 ·intro h68
  have g69 := dt h68
  obtain ⟨r70, rfl⟩ := scc (n := r43) aM1
  refine KS ?_
  refine Oq Vm (Oq Vm ?_)
  refine letv (tp_Next tT ti_44 (1 + rv4.1)) fun rv71 hg72 => ?_
  have hc73 := fn14 tP ta tk tT ti_44 ((1 + rv4.1)) pre pre rv71 hg72
  refine Oc [2, 3] ca14 hc73 ?_
  rintro - ⟨he74, he75, he76⟩
  unfold i64ok at he74
  refine Oq Vm (Oq Vm ?_)
  refine letv (tp_Next tT rv71.2 (1 + rv4.1)) fun rv77 hg78 => ?_
  have hc79 := fn14 tP ta tk tT rv71.2 ((1 + rv4.1)) pre pre rv77 hg78
  refine Oc [0, 3] ca14 hc79 ?_
  rintro - ⟨he80, he81, he82⟩
  unfold i64ok at he80
  refine Oq Va (Oq Va (KS ?_))
  refine Jp 6 fun hp83 => ?_
  refine JJ_peekOL rv71.1.toNat 3 rfl rng fun a84 k85 => ?_
  refine Fb 8 1 fun _ => Fo 1 fun ho87 => ?_
  refine JJ_peekOL rv77.1.toNat 4 rfl rng fun a88 k89 => ?_
  refine Fb 8 1 fun _ => Fo 1 fun ho91 => ?_
  refine JK_drawK [0, 1, 0, 0, 8, 0, 0, 64, 0, 448, 960, 0, 4032, 0, 8192, 0, 57344, 122880, 0, 524224, 1048519, 2097095, 4194303, 8388607] fmix ?_
  refine Dv [4] (Vfa fo36_1 0) (Dv [9] (VldF sh34 0) (Dv [] Vm (Dv [4] (Vfa fo36_2 0) (Dv [9] (VldF sh34 0) (Dv [] Vm (Dv [4] (Vfa fo36_1 0) (Dv [9] (VldF sh34 0) (Dv [] Vm (Dv [2] (Vi sl34 0) ?_)))))))))
  refine Dv [2] (Vld sh22 0) (Dv [] Vm ?_)
  refine letv (r7_Insert (g1_45.getD rv71.1.toNat []) rv77.1) fun rv93 hg94 => ?_
  refine Dx [3] [] [2, 0, 1] (fun G => (G.g 12 0)) [fun G => SP.fact ((rv93.length ≤ (g1_45.getD rv71.1.toNat []).length + 1)), fun G => sl (G.g 12 0) rv93] (fun G => xC [0] ca29 (fn29 ((g1_45.getD rv71.1.toNat [])) a84 k85 rv77.1 pre (lenS_1 (by assumption) aM1) rv93 hg94)) (Dv [4] (Vfa fo36_2 0) (Dv [9] (VldF sh34 0) (Dv [] Vm (Dv [0] (Vi sl34 0) (Dv [0] (Vld sh22 0) (Dv [] Vm ?_))))))
  refine letv (r7_Insert (g2_46.getD rv77.1.toNat []) rv71.1) fun rv96 hg97 => ?_
  refine Dx [1, 10] [] [2, 3, 0, 1] (fun G => (G.g 19 0)) [fun G => SP.fact ((rv96.length ≤ (g2_46.getD rv77.1.toNat []).length + 1)), fun G => sl (G.g 19 0) rv96] (fun G => by refine xf 1 rfl ?_; rintro he98; exact xC [0] ca29 (fn29 ((g2_46.getD rv77.1.toNat [])) a88 k89 rv71.1 pre (lenS_1 (by assumption) aM1) rv96 hg97)) ?_
  refine Dx [2, 10] [] [0, 0] (fun G => (eptr 1 (vl a48 k49 g1_45) rv71.1.toNat)) [] (fun G => by refine xf 1 rfl ?_; rintro he99; exact xV (Vi sl34 0)) ?_
  refine Dx0 [2, 10, 11] [2] [2, 1, 0] [fun G => os (vl a48 k49 g1_45) (g1_45.set rv71.1.toNat rv93)] (fun G => by refine xf 1 rfl ?_; rintro he100; exact xp [0] rfl (Ent.oread _ _ _ _) (x1 2 rfl sl_one fun ho101 => (xS (OpS.frame [0, 1] rfl (OpS.storeOs' (Rs := [sl (G.g 12 0) rv93]) rv93 [(G.g 12 0)] rfl rfl rfl sh22 (cells_of_one ho101) rfl (fun h => ⟨_, rfl, sepAll_get (i := 0) rfl h⟩) rng))))) ?_
  refine Dx [0, 12] [] [0, 0] (fun G => (eptr 1 (vl a50 k51 g2_46) rv77.1.toNat)) [] (fun G => by refine xf 1 rfl ?_; rintro he102; exact xV (Vi sl34 0)) ?_
  refine Dx0 [0, 12, 13] [0] [2, 1, 0] [fun G => os (vl a50 k51 g2_46) (g2_46.set rv77.1.toNat rv96)] (fun G => by refine xf 1 rfl ?_; rintro he103; exact xp [0] rfl (Ent.oread _ _ _ _) (x1 2 rfl sl_one fun ho104 => (xS (OpS.frame [0, 1] rfl (OpS.storeOs' (Rs := [sl (G.g 19 0) rv96]) rv96 [(G.g 19 0)] rfl rfl rfl sh22 (cells_of_one ho104) rfl (fun h => ⟨_, rfl, sepAll_get (i := 0) rfl h⟩) rng))))) ?_
  refine Dn ⟨by kernel_rfl, fun G => ?_⟩
  refine Jw2 [(0, tP), (4, p3), (1, vi (1 + rv4.1)), (5, p25), (6, vi k_47)] [1, 3, 4, 5, 6, 7, 8, 9] [SP.fact ((rv93.length ≤ (g1_45.getD rv71.1.toNat []).length + 1)), sl (G.g 12 0) rv93, SP.fact ((rv96.length ≤ (g2_46.getD rv77.1.toNat []).length + 1)), sl (G.g 19 0) rv96, os (vl a48 k49 g1_45) (g1_45.set rv71.1.toNat rv93), os (vl a50 k51 g2_46) (g2_46.set rv77.1.toNat rv96)] ?_
  generalize G.g 12 0 = c92, G.g 19 0 = c95
  refine Jf 8 rfl ?_; rintro he105
  refine Jf 10 rfl ?_; rintro he106
  refine Jk [0, 1, 3, 3, 3, 4, 4, 5, 7, 8, 8] ?_
  refine Jo 7 ?_; rintro a107 k108 rfl
  refine Fb 8 7 fun _ => Fo 7 fun ho110 => ?_
  refine Jo 8 ?_; rintro a111 k112 rfl
  refine Fb 8 8 fun _ => Fo 8 fun ho114 => KS ?_
  refine Oq Vm (Oq Vsub (Oq Va (KS ?_)))
  refine Fl 9 fun hn115 => ?_; (try unfold vl); rw [← hn115]
  refine Fl 10 fun hn116 => ?_; (try unfold vl); rw [← hn116]
  exact Kg (r70, rv77.2, (g1_45.set rv71.1.toNat rv93), (g2_46.set rv77.1.toNat rv96), (k_47 - 1), a48, k49, a50, k51) [10, 9, 2, 2, 2, 3, 3] ⟨(q3 hM52 (by simp only [tp_Graph_L0, h68, hg72, hg78, hg94, hg97, cs4])), aM1, aM1, aM1, aM1, aM1, iv1, iv1, (lenS_set (by assumption) (by assumption) aM1 aM1), (lenS_set (by assumption) (by assumption) aM1 aM1), iv1⟩
 intro h68
 have g117 := df h68
 obtain rfl : r43 = 0 := by omega
 refine Ke ?_
 have hR118 := q2 hM52 (ti_44, g1_45, g2_46) (by simp only [tp_Graph_L0, h68, cs4])
 refine KS ?_
 refine Oq (VldA sh36 6) (Ost (Scl [3] sh36 [vl a29 k30 (List.replicate ((1 + rv4.1) : Int).toNat (default : GNode)), vl a48 k49 g1_45, vl a50 k51 g2_46]) (KS ?_))
 refine Jl [5] (Ent.freeze _ _) ?_
 refine Jl [3] (Ent.freeze _ _) ?_
 refine Jl [3] (Ent.freeze _ _) ?_
 have hq := q4 hrr ((GGraph.mk (List.replicate ((1 + rv4.1) : Int).toNat (default : GNode)) g1_45 g2_46), ti_44) (by simp only [tp_Graph, h68, hg5, hg38, hR118, cs4]); subst hq
 exact Kr (vl a29 k30 (List.replicate ((1 + rv4.1) : Int).toNat (default : GNode)), vl a48 k49 g1_45, vl a50 k51 g2_46) rfl (.cellN 3 rfl sh36 rfl (reads_Cl _ _) rfl .nil) [2, 1, 0, 4] ⟨en, (by have hTG := TG_len hrr hn1; omega), ((TG_ll hrr hn1).1), ((TG_ll hrr hn1).2), ((TG_len hrr hn1).2.1)⟩
theorem fn35 (s : List GNode) (sa0 : Option Addr) (sk0 : Nat) (rr : List GNode) (hrr : sc_Clone_Node s = rr) : FT Tryz.prog 35 #[vl sa0 sk0 s] [S sa0 sk0 s] (fun g : Value => (rr.length = s.length)) (fun g => g) (fun g => [os g rr]) := by
 have hm : sc_Clone_Node s = s := rfl
 rw [hm] at hrr
 subst hrr
 refine FTi Tryz.func35 fun w0 M0 F0 => ?_
 refine KS ?_
 refine Oq Va ?_
 refine KS ?_
 refine Oq Vm ?_
 refine Oq (VeqN un33) ?_
 refine KS ?_
 refine Kc ?_ ?_
 ·intro h
  refine Jnil 0 h ?_
  intro h0
  subst h0
  refine KS ?_
  refine Oq Va ?_
  refine KS ?_
  refine Jl [] (Ent.osNil (α := GNode)) ?_
  exact Kr (.slice none 0 0) rfl (.tmp rfl .nil) [0] rfl
 ·intro _
  refine KS ?_
  refine Oa (As0 sl33) fun c1 => ?_
  refine Jo 0 ?_; rintro a2 k3 rfl
  refine Oq Vm ?_
  refine Fb 32 1 fun hl => ?_
  refine Jl [0] (Ent.crNil (α := GNode) _) ?_
  refine Oa (Ap0 [0, 0] sl33 sl33 sz33) fun c4 => ?_
  refine Oq Va ?_
  refine KS ?_
  exact Kr c4 rfl (.tmp rfl .nil) [0] rfl
theorem fn36 (l : List (List Int)) (la0 : Option Addr) (lk0 : Nat) (rr : List (List Int)) (hrr : gh_lists l = rr) : FT Tryz.prog 36 #[vl la0 lk0 l] [S la0 lk0 l] (fun g : Value => (rr.length = l.length)) (fun g => g) (fun g => [sl g rr]) := by
 refine FTi Tryz.func36 fun w0 M0 F0 => Fb 24 0 fun _ => ?_
 refine KS ?_
 refine Oq Va (KS ?_)
 refine Oq Va (KS ?_)
 refine Oq Vm (Oq (Vlen sl34) (Oq Vm (KS ?_)))
 refine Jl [] (Ent.osNil (α := (List Int))) ?_
 refine Kl (γ := Nat × List (List Int) × Int × Option Addr × Nat) (fun (r2, out_3, v8_4, a5, k6) => ⟨[(3, vl a5 k6 out_3), (6, vl la0 lk0 l), (7, vi (l.length : Int)), (8, vi v8_4)], [O a5 k6 out_3, S la0 lk0 l], gh_lists_L0 l r2 out_3 v8_4 = gh_lists_L0 l (((l.length : Int) - 0).toNat) [] 0 ∧ r2 = ((l.length : Int) - v8_4).toNat ∧ (0 : Int) ≤ v8_4 ∧ v8_4 ≤ (l.length : Int) ∧ (-9223372036854775808 ≤ v8_4 ∧ v8_4 ≤ 9223372036854775807) ∧ ((out_3.length : Int) = v8_4), r2⟩) (((l.length : Int) - 0).toNat, [], 0, none, 0) [0, 0] ⟨rfl, rfl, aM1, aM1, aM1, iv0⟩ ?_
 rintro ⟨r2, out_3, v8_4, a5, k6⟩ ⟨hM7, hr8, hi9, hi10, hk11, hv12⟩
 refine JJ_nx fun _ _ hL hA => ?_; dsimp only at hL hA; subst hL hA
 refine Fb 24 0 fun _ => Fb 24 1 fun _ => KS ?_
 refine Oq Vlss (KS ?_)
 refine Kc ?_ ?_
 ·intro h15
  have g16 := dt h15
  obtain ⟨r17, rfl⟩ := scc (n := r2) aM1
  refine KS ?_
  refine Oq (Vi sl34 1) ?_
  refine JJ_peekL v8_4.toNat 1 rfl rng fun a18 k19 => ?_
  refine Fb 8 1 fun _ => Fo 1 fun ho21 => ?_
  refine Oq (Vld sh22 0) (Oq Va (KS ?_))
  refine Oq Vm (Oq Vm ?_)
  refine Jl [] (Ent.osNil (α := Int)) ?_
  refine Oa (Ap0 [0, 1] sl22 sl22 sz22) fun c22 => ?_
  refine Jo 0 ?_; rintro a23 k24 rfl
  refine Oa (AsV sl34 sz34 [vl a23 k24 (l.getD v8_4.toNat [])] [vl a23 k24 (l.getD v8_4.toNat [])]) fun c25 => ?_
  refine Jo 0 ?_; rintro a26 k27 rfl
  refine Jl [1] (Ent.freeze _ _) ?_
  refine Jl [1, 0] (Ent.cr1 (α := List Int) (A := [S a23 k24 ((l.getD v8_4.toNat []) : List Int)]) _ (l.getD v8_4.toNat []) _ aB1 (fun h => ⟨_, rfl, sepAll_get (i := 0) rfl h⟩)) ?_
  refine Oa (ApO [5, 0] sl34 sl34 sz34) fun c28 => ?_
  refine Jo 0 ?_; rintro a29 k30 rfl
  refine Fb 24 0 fun _ => ?_
  have hn32 := la out_3 ([(l.getD v8_4.toNat [])] : List (List Int))
  refine Oq Va (KS ?_)
  refine Oq Vadd (Oq Vm (KS ?_))
  exact Kg (r17, (out_3 ++ [(l.getD v8_4.toNat [])]), (v8_4 + 1), a29, k30) [0, 4] ⟨(q3 hM7 (by simp only [gh_lists_L0, h15, cs4])), aM1, aM1, aM1, aM1, iv1⟩
 intro h15
 have g33 := df h15
 obtain rfl : r2 = 0 := by omega
 refine Ke ?_
 have hR34 := q2 hM7 out_3 (by simp only [gh_lists_L0, h15, cs4])
 refine KS ?_
 refine Oq Vm (Oq Va (KS ?_))
 refine Jl [0] (Ent.freeze _ _) ?_
 have hq := q4 hrr out_3 (by simp only [gh_lists, h15, hR34, cs4]); subst hq
 exact Kr (vl a5 k6 out_3) rfl (.tmp rfl .nil) [0] en
theorem fn16 (g : GGraph) (ga0 : Option Addr) (gk0 : Nat) (ga1 : Option Addr) (gk1 : Nat) (ga2 : Option Addr) (gk2 : Nat) (rr : GGraph × Int) (hrr : gh_Reverse g = rr) : FT Tryz.prog 16 #[.agg #[vl ga0 gk0 g.Nodes, vl ga1 gk1 g.Succ, vl ga2 gk2 g.Pred]] [S ga0 gk0 g.Nodes, S ga1 gk1 g.Succ, S ga2 gk2 g.Pred] (fun g : Value × Value × Value => i64ok rr.2) (fun g => .tuple #[.agg #[g.1, g.2.1, g.2.2], vi rr.2]) (fun g => [sl g.1 rr.1.Nodes, sl g.2.1 rr.1.Succ, sl g.2.2 rr.1.Pred]) := by
 refine FTi Tryz.func16 fun w0 M0 F0 => Fb 32 0 fun _ => Fb 24 1 fun _ => Fb 24 2 fun _ => ?_
 refine KS ?_
 refine Oa (Ab [vl ga0 gk0 g.Nodes, vl ga1 gk1 g.Succ, vl ga2 gk2 g.Pred]) fun p4 => Oa (Al ze36 [.slice none 0 0, .slice none 0 0, .slice none 0 0]) fun p5 => Oq Va (KS ?_)
 refine Oq (VldA sh36 1) ?_
 refine letv (gh_Valid g) fun rv6 hg7 => ?_
 have hc8 := fn31 g ga0 gk0 ga1 gk1 ga2 gk2 rv6 hg7
 refine Oc [2, 3, 4] ca31 hc8 ?_
 rintro - -
 refine Oq Vnot (KS ?_)
 refine Kc ?_ ?_
 ·intro h9
  have h11 := not_true h9
  refine KS ?_
  refine Oq (Vbd st36 [.slice none 0 0, .slice none 0 0, .slice none 0 0]) (Ost (Scl [0] sh36 [.slice none 0 0, .slice none 0 0, .slice none 0 0]) (Oq Va (KS ?_)))
  refine Jl [] (Ent.slNil (α := GNode)) ?_
  refine Jl [] (Ent.slNil (α := List Int)) ?_
  have hq := q4 hrr ((GGraph.mk [] [] []), 1) (by simp only [gh_Reverse, h9, h11, hg7, cs4]); subst hq
  exact Kr (.slice none 0 0, .slice none 0 0, .slice none 0 0) rfl (.cellN 2 rfl sh36 rfl (reads_Cl _ _) rfl (.tmp rfl .nil)) [1, 0, 0] en
 intro h9
 have h14 := not_false h9
 refine KS ?_
 refine JK_drawK [0, 1, 3, 0, 8, 31, 0, 64, 255, 511, 1023, 2047] fmix ?_
 refine Dv [1] (Vfa fo36_0 0) (Dv [1] (VldF sh33 0) ?_)
 refine letv (sc_Clone_Node g.Nodes) fun rv17 hg18 => ?_
 refine Dx [2] [] [2, 0, 1] (fun G => (G.g 2 0)) [fun G => SP.fact ((rv17.length = g.Nodes.length)), fun G => os (G.g 2 0) rv17] (fun G => xC [0] ca35 (fn35 g.Nodes ga0 gk0 rv17 hg18)) (Dv [1] (Vfa fo36_2 0) (Dv [1] (VldF sh34 0) ?_))
 refine letv (gh_lists g.Pred) fun rv20 hg21 => ?_
 refine Dx [4] [] [2, 0, 1] (fun G => (G.g 5 0)) [fun G => SP.fact ((rv20.length = g.Pred.length)), fun G => sl (G.g 5 0) rv20] (fun G => xC [0] ca36 (fn36 g.Pred ga2 gk2 rv20 hg21)) (Dv [1] (Vfa fo36_1 0) (Dv [1] (VldF sh34 0) ?_))
 refine letv (gh_lists g.Succ) fun rv23 hg24 => Dx [3] [] [2, 0, 1] (fun G => (G.g 8 0)) [fun G => SP.fact ((rv23.length = g.Succ.length)), fun G => sl (G.g 8 0) rv23] (fun G => xC [0] ca36 (fn36 g.Succ ga1 gk1 rv23 hg24)) ?_
 refine Dx [6, 8, 10] [] [0, 0, 1] (fun G => .agg #[(G.g 2 0), (G.g 5 0), (G.g 8 0)]) [] (fun G => xV (v := .agg #[(G.g 2 0), (G.g 5 0), (G.g 8 0)]) (Vo 0 rfl (isO_os _ _) fun aq25 kq26 eq27 => (by rw [eq27]; exact Vo 1 rfl (isO_sl _ _) fun aq28 kq29 eq30 => (by rw [eq30]; exact Vo 2 rfl (isO_sl _ _) fun aq31 kq32 eq33 => (by rw [eq33]; exact Vbd st36 [.slice aq25 ((rv17 : List GNode).length) kq26, .slice aq28 ((rv20 : List (List Int)).length) kq29, .slice aq31 ((rv23 : List (List Int)).length) kq32]))))) (Dx0 [0, 6, 8, 10] [0] [1, 1, 2, 0] [fun G => Cl p5 [(G.g 2 0), (G.g 5 0), (G.g 8 0)]] (fun G => x1 1 rfl os_one fun ho34 => (x1 2 rfl sl_one fun ho35 => (x1 3 rfl sl_one fun ho36 => (xS (Scl [0] sh36 [(G.g 2 0), (G.g 5 0), (G.g 8 0)] (v := .agg #[(G.g 2 0), (G.g 5 0), (G.g 8 0)]) (h1 := show [(G.g 2 0), (G.g 5 0), (G.g 8 0)].all (·.oneCell') = true from (by simp only [List.all_cons, List.all_nil, ho34, ho35, ho36, Bool.and_true, Bool.true_and] <;> rfl))))))) (Dv [] Va ?_))
 refine Dn ⟨by kernel_rfl, fun G => ?_⟩
 refine Jw2 [(2, p5), (3, vi 0)] [1, 2, 3, 4] [SP.fact ((rv17.length = g.Nodes.length)), os (G.g 2 0) rv17, SP.fact ((rv20.length = g.Pred.length)), sl (G.g 5 0) rv20, SP.fact ((rv23.length = g.Succ.length)), sl (G.g 8 0) rv23, Cl p5 [(G.g 2 0), (G.g 5 0), (G.g 8 0)]] ?_
 generalize G.g 2 0 = c16, G.g 5 0 = c19, G.g 8 0 = c22
 refine Jf 4 rfl ?_; rintro he37
 refine Jf 6 rfl ?_; rintro he38
 refine Jf 8 rfl ?_; rintro he39
 refine Jk [0, 1, 2, 3, 5, 6, 8, 9] ?_
 refine Jo 4 ?_; rintro a40 k41 rfl
 refine Fb 32 4 fun _ => ?_
 refine Jo 5 ?_; rintro a43 k44 rfl
 refine Fb 24 5 fun _ => ?_
 refine Jo 6 ?_; rintro a46 k47 rfl
 refine Fb 24 6 fun _ => ?_
 refine Jl [4] (Ent.freeze _ _) ?_
 have hq := q4 hrr ((GGraph.mk rv17 rv20 rv23), 0) (by simp only [gh_Reverse, h9, h14, hg7, hg18, hg21, hg24, cs4]); subst hq
 exact Kr (vl a40 k41 rv17, vl a43 k44 rv20, vl a46 k47 rv23) rfl (.cellN 7 rfl sh36 rfl (reads_Cl _ _) rfl (.tmp rfl .nil)) [0, 5, 6] en
theorem fn59 (s : List Int) (sa0 : Option Addr) (sk0 : Nat) (fF : FuncId) (fC : List Value) (fp : Int → Bool) (fA : List SP) (hfc : callable Tryz.prog fF = true) (hfF : ∀ x ∈ s, i64ok x → FT Tryz.prog fF ([(vi x : Value)] ++ fC).toArray ([] ++ [pAll fA]) (fun _ : Unit => True) (fun _ => .bool (fp x)) (fun _ => [])) (rr : Int) (hrr : sc_IndexFunc_int s fp = rr) : FT Tryz.prog 59 #[vl sa0 sk0 s, .func (.func fF) #[] fC.toArray] [S sa0 sk0 s, pAll fA] (fun g : Unit => i64ok rr) (fun g => vi rr) (fun g => []) := by
 refine FTi Tryz.func59 fun w0 M0 F0 => Fb 8 0 fun _ => Fo 0 fun ho2 => ?_
 refine KS ?_
 refine Oq Va (KS ?_)
 refine Oq Vm (Oq (Vlen sl22) (Oq Vm (KS ?_)))
 refine Kl (γ := Nat × Int) (fun (r3, v8_4) => ⟨[(0, vl sa0 sk0 s), (1, .func (.func fF) #[] fC.toArray), (7, vi (s.length : Int)), (8, vi v8_4)], [S sa0 sk0 s, pAll fA], sc_IndexFunc_int_L0 s fp r3 v8_4 = sc_IndexFunc_int_L0 s fp (((s.length : Int) - 0).toNat) 0 ∧ r3 = ((s.length : Int) - v8_4).toNat ∧ (0 : Int) ≤ v8_4 ∧ v8_4 ≤ (s.length : Int) ∧ (-9223372036854775808 ≤ v8_4 ∧ v8_4 ≤ 9223372036854775807), r3⟩) (((s.length : Int) - 0).toNat, 0) [0, 1] ⟨rfl, rfl, aM1, aM1, aM1⟩ ?_
 rintro ⟨r3, v8_4⟩ ⟨hM5, hr6, hi7, hi8, hk9⟩
 refine JJ_nx fun _ _ hL hA => ?_; dsimp only at hL hA; subst hL hA
 refine Fb 8 0 fun _ => Fo 0 fun ho11 => KS ?_
 refine Oq Vlss (KS ?_)
 refine Kc ?_ ?_
 ·intro h12
  have g13 := dt h12
  obtain ⟨r14, rfl⟩ := scc (n := r3) aM1
  refine KS ?_
  refine Oq Vm (Oq Va (KS ?_))
  refine Oq Vm (Oq Vm (Oq Vm (Oq (Vi sl22 0) ?_)))
  have hb15 := ok1 (i := v8_4.toNat) ho11 rng
  refine Oq (VldI sh3 0) ?_
  refine JO_call [1] rfl rfl rfl (OpC.clo («as» := [(vi (s.getD v8_4.toNat 0) : Value)] ++ fC) rfl rfl hfc rfl (by simp)) (hfF (s.getD v8_4.toNat 0) (getD_mem rng)  pre) rfl fun _ _ => ?_
  refine KS ?_
  refine Kc ?_ ?_
  ·intro h16
   refine KS ?_
   refine Oq Vm (Oq Va (KS ?_))
   have hR18 := q2 hM5 (.ret v8_4) (by simp only [sc_IndexFunc_int_L0, h12, h16, cs4])
   have hq := q4 hrr v8_4 (by simp only [sc_IndexFunc_int, h12, h16, hR18, cs4]); subst hq
   exact Kr () rfl (.tmp rfl .nil) [] en
  intro h16
  refine KS ?_
  refine Oq Vadd (Oq Vm (KS ?_))
  exact Kg (r14, (v8_4 + 1)) [0, 1] ⟨(q3 hM5 (by simp only [sc_IndexFunc_int_L0, h12, h16, cs4])), aM1, aM1, aM1, aM1⟩
 intro h12
 have g20 := df h12
 obtain rfl : r3 = 0 := by omega
 refine Ke ?_
 have hR21 := q2 hM5 (.brk ()) (by simp only [sc_IndexFunc_int_L0, h12, cs4])
 refine KS ?_
 refine Oq Va (KS ?_)
 have hq := q4 hrr (-1) (by simp only [sc_IndexFunc_int, h12, hR21, cs4]); subst hq
 exact Kr () rfl (.tmp rfl .nil) [] en
theorem fn37 (s : List Int) (sa0 : Option Addr) (sk0 : Nat) (fF : FuncId) (fC : List Value) (fp : Int → Bool) (fA : List SP) (hfc : callable Tryz.prog fF = true) (hfF : ∀ x ∈ s, i64ok x → FT Tryz.prog fF ([(vi x : Value)] ++ fC).toArray ([] ++ [pAll fA]) (fun _ : Unit => True) (fun _ => .bool (fp x)) (fun _ => [])) (rr : Bool) (hrr : sc_ContainsFunc_int s fp = rr) : FT Tryz.prog 37 #[vl sa0 sk0 s, .func (.func fF) #[] fC.toArray] [S sa0 sk0 s, pAll fA] (fun g : Unit => True) (fun g => vb rr) (fun g => []) := by
 refine FTi Tryz.func37 fun w0 M0 F0 => Fb 8 0 fun _ => Fo 0 fun ho2 => ?_
 refine KS ?_
 refine Oq Va (KS ?_)
 refine Oq Vm (Oq Vm ?_)
 refine letv (sc_IndexFunc_int s fp) fun rv3 hg4 => ?_
 have hc5 := fn59 s sa0 sk0 fF fC fp fA hfc hfF rv3 hg4
 refine Oc [0, 1] ca59 hc5 ?_
 rintro - he6
 unfold i64ok at he6
 refine Oq Vgeq (Oq Va (KS ?_))
 have hq := q4 hrr (decide (0 ≤ rv3)) (by simp only [sc_ContainsFunc_int, hg4, cs4]); subst hq
 exact Kr () rfl (.tmp rfl .nil) [] trivial
theorem fn38 (n : Int) (cap0P : Value) (cap0 : GGraph) (cap0a0 : Option Addr) (cap0k0 : Nat) (cap0a1 : Option Addr) (cap0k1 : Nat) (cap0a2 : Option Addr) (cap0k2 : Nat) (hn_0 : i64ok n) (rr : Bool) (hrr : gh_Reach_1 n cap0 = rr) : FT Tryz.prog 38 #[vi n, cap0P] [pv cap0P [vl cap0a0 cap0k0 cap0.Nodes, vl cap0a1 cap0k1 cap0.Succ, vl cap0a2 cap0k2 cap0.Pred], S cap0a0 cap0k0 cap0.Nodes, S cap0a1 cap0k1 cap0.Succ, S cap0a2 cap0k2 cap0.Pred] (fun g : Unit => True) (fun g => vb rr) (fun g => []) := by
 refine FTi Tryz.func38 fun w0 M0 F0 => ?_
 unfold i64ok at hn_0
 refine Fb 32 1 fun _ => Fb 24 2 fun _ => Fb 24 3 fun _ => KS ?_
 refine Oq Va (KS ?_)
 refine Oq Vm (Oq Vlss (Oq Vm ?_))
 refine Js 6 ?_ ?_
 ·intro h4
  have g5 := dt h4
  refine Osk (Osk (Osk (Osk (Osk (Oq Vpt (Oq Va (KS ?_)))))))
  have hq := q4 hrr true (by simp only [gh_Reach_1, h4, cs4]); subst hq
  exact Kr () rfl (.tmp rfl .nil) [] trivial
 intro h4
 have g6 := df h4
 refine Oq Vm (Oq (Vfa fo36_0 0) (Oq (VldF sh33 0) (Oq (Vlen sl33) (Oq Vgeq (Oq Vpf (Oq Va (KS ?_)))))))
 have hq := q4 hrr (decide ((cap0.Nodes.length : Int) ≤ n)) (by simp only [gh_Reach_1, h4, cs4]); subst hq
 exact Kr () rfl (.tmp rfl .nil) [] trivial
theorem fn39 (s : List Int) (sa0 : Option Addr) (sk0 : Nat) (rr : List Int) (hrr : sc_Clone_int s = rr) : FT Tryz.prog 39 #[vl sa0 sk0 s] [S sa0 sk0 s] (fun g : Value => (rr.length = s.length)) (fun g => g) (fun g => [os g rr]) := by
 have hm : sc_Clone_int s = s := rfl
 rw [hm] at hrr
 subst hrr
 refine FTi Tryz.func39 fun w0 M0 F0 => ?_
 refine KS ?_
 refine Oq Va ?_
 refine KS ?_
 refine Oq Vm ?_
 refine Oq (VeqN un22) ?_
 refine KS ?_
 refine Kc ?_ ?_
 ·intro h
  refine Jnil 0 h ?_
  intro h0
  subst h0
  refine KS ?_
  refine Oq Va ?_
  refine KS ?_
  refine Jl [] (Ent.osNil (α := Int)) ?_
  exact Kr (.slice none 0 0) rfl (.tmp rfl .nil) [0] rfl
 ·intro _
  refine KS ?_
  refine Oa (As0 sl22) fun c1 => ?_
  refine Jo 0 ?_; rintro a2 k3 rfl
  refine Oq Vm ?_
  refine Fb 8 1 fun hl => ?_
  refine Jl [0] (Ent.crNil (α := Int) _) ?_
  refine Oa (Ap0 [0, 0] sl22 sl22 sz22) fun c4 => ?_
  refine Oq Va ?_
  refine KS ?_
  exact Kr c4 rfl (.tmp rfl .nil) [0] rfl
theorem fn41 (s : List Int) (sa0 : Option Addr) (sk0 : Nat) (rr : List Int) (hrr : sc_Clip_int s = rr) : FT Tryz.prog 41 #[vl sa0 sk0 s] [S sa0 sk0 s] (fun g : Value => (rr.length = s.length)) (fun g => g) (fun g => [sl g rr]) := by
 refine FTi Tryz.func41 fun w0 M0 F0 => Fb 8 0 fun _ => Fo 0 fun ho2 => ?_
 refine KS ?_
 refine Oq Va (KS ?_)
 refine Oq Vm (Oq Vm (Oq (Vlen sl22) (Oq Vm (Oq (Vlen sl22) (Oa (OpA.frame [0] rfl (OpA.sliceSl3 0 ((s.length : Int).toNat) ((s.length : Int).toNat) rfl rfl sl22 rfl rfl ⟨_, natc rfl aM1⟩ ⟨_, natc rfl aM1⟩ rng rng rng rng)) fun c3 => ?_)))))
 refine Jo 0 ?_; rintro a4 k5 rfl
 refine Fb 8 0 fun _ => Fo 0 fun ho7 => ?_
 have hn8 : ((s.take ((s.length : Int).toNat)).drop 0).length = ((s.length : Int).toNat) - 0 := len_slice rng rng
 refine Oq Va (KS ?_)
 have hq := q4 hrr ((s.take ((s.length : Int).toNat)).drop 0) (by simp only [sc_Clip_int, cs4]); subst hq
 exact Kr (.slice a4 (((s.take ((s.length : Int).toNat)).drop 0).length) k5) rfl (.tmp rfl .nil) [0] (by rw [← hrr]; unfold sc_Clip_int; simp)
theorem fn17 (g : GGraph) (ga0 : Option Addr) (gk0 : Nat) (ga1 : Option Addr) (gk1 : Nat) (ga2 : Option Addr) (gk2 : Nat) (from_ : List Int) (from_a0 : Option Addr) (from_k0 : Nat) (hfl : from_.length ≤ 1000000) (hsm : g.Nodes.length ≤ 12) (rr : List Int) (hrr : gh_Reach g from_ = rr) : FT Tryz.prog 17 #[.agg #[vl ga0 gk0 g.Nodes, vl ga1 gk1 g.Succ, vl ga2 gk2 g.Pred], vl from_a0 from_k0 from_] [S ga0 gk0 g.Nodes, S ga1 gk1 g.Succ, S ga2 gk2 g.Pred, S from_a0 from_k0 from_] (fun g : Value => (rr.length ≤ 65535)) (fun g => g) (fun g => [sl g rr]) := by
 refine FTi Tryz.func17 fun w0 M0 F0 => Fb 32 0 fun _ => Fb 24 1 fun _ => Fb 24 2 fun _ => Fb 8 3 fun _ => Fo 3 fun ho5 => ?_
 refine KS ?_
 refine Oa (Ab [vl ga0 gk0 g.Nodes, vl ga1 gk1 g.Succ, vl ga2 gk2 g.Pred]) fun p6 => Oq Va (KS ?_)
 refine Oq (VldA sh36 0) ?_
 refine letv (gh_Valid g) fun rv7 hg8 => ?_
 have hc9 := fn31 g ga0 gk0 ga1 gk1 ga2 gk2 rv7 hg8
 refine Oc [1, 2, 3] ca31 hc9 ?_
 rintro - -
 refine Oq Vnot (Oq Vm ?_)
 refine Js 12 ?_ ?_
 ·intro h10
  have h12 := not_true h10
  try have hrf := Reach_f (by assumption) h12
  refine Osk (Osk (Osk (Oq Vpt (KS ?_))))
  refine Kt (KS ?_)
  refine Oq Va (KS ?_)
  refine Jl [] (Ent.slNil (α := Int)) ?_
  have hq := q4 hrr ([] : List Int) (by simp only [gh_Reach, h10, h12, hg8, cs4]); subst hq
  exact Kr (.slice none 0 0) rfl (.tmp rfl .nil) [0] (by first | (have hrl := RI_ol hgv (by assumption); omega) | omega | simp)
 intro h10
 have h15 := not_false h10
 have hgv := Valid_f (by assumption) h10
 have hn1 := hgv.n1
 have hsl := hgv.sl
 refine Oq Vm (Oq (Vf [p6]) ?_)
 refine JJ_ent (Ent.pall [0, 1, 2, 3] rfl rfl) ?_
 refine letv (sc_ContainsFunc_int from_ (fun x => gh_Reach_1 x g)) fun rv17 hg18 => ?_
 have hc19 := fn37 from_ from_a0 from_k0 38 [p6] (fun x => gh_Reach_1 x g) [pv p6 [vl ga0 gk0 g.Nodes, vl ga1 gk1 g.Succ, vl ga2 gk2 g.Pred], S ga0 gk0 g.Nodes, S ga1 gk1 g.Succ, S ga2 gk2 g.Pred] ca38 (fun x hx hq0 => FT_pall (A1 := _) (fn38 x  p6 g ga0 gk0 ga1 gk1 ga2 gk2 hq0 _ rfl)) rv17 hg18
 refine Oc [5, 0] ca37 hc19 ?_
 rintro - -
 refine Oq Vpf (KS ?_)
 refine Kc ?_ ?_
 ·intro h20
  refine KS ?_
  refine Oq Va (KS ?_)
  refine Jl [] (Ent.slNil (α := Int)) ?_
  have hq := q4 hrr ([] : List Int) (by simp only [gh_Reach, h10, h15, h20, hg8, hg18, cs4]); subst hq
  exact Kr (.slice none 0 0) rfl (.tmp rfl .nil) [0] (by first | (have hrl := RI_ol hgv (by assumption); omega) | omega | simp)
 intro h20
 try have hrf := Reach_f (by assumption) h20
 refine KS ?_
 refine Oq (Vfa fo36_0 1) (Oq (VldF sh33 1) (Oq (Vlen sl33) (Oa (Amk (α := Bool) sl80 sz80 false (fun _ _ => rfl)) fun c23 => ?_)))
 refine Jo 0 ?_; rintro a24 k25 rfl
 refine Fb 1 0 fun _ => ?_
 have hn27 := List.length_replicate (n := (g.Nodes.length : Int).toNat) (a := (false : Bool))
 refine Oq Va (KS ?_)
 refine Oq Vm ?_
 refine letv (sc_Clone_int from_) fun rv29 hg30 => ?_
 have hc31 := fn39 from_ from_a0 from_k0 rv29 hg30
 refine Oc [6] ca39 hc31 ?_
 rintro c28 he32
 refine Jo 0 ?_; rintro a33 k34 rfl
 refine Fb 8 0 fun _ => Fo 0 fun ho36 => ?_
 refine Oq Va (KS ?_)
 refine Oq Va (KS ?_)
 refine Jl [] (Ent.osNil (α := Int)) ?_
 have hterm47 : gh_Reach_L0 g (from_.length + (g.Succ.map List.length).sum + 1) (List.replicate (g.Nodes.length : Int).toNat false) rv29 [] ≠ LR.oof := (Reach_t0 hgv (by assumption) hrf)
 refine Kl (γ := Nat × List Bool × List Int × List Int × Option Addr × Nat × Option Addr × Nat) (fun (r37, seen_38, todo_39, out_40, a41, k42, a43, k44) => ⟨[(2, p6), (5, vl a24 k25 (List.replicate (g.Nodes.length : Int).toNat false)), (6, vl a41 k42 todo_39), (7, vl a43 k44 out_40)], [O a43 k44 out_40, O a41 k42 todo_39, os (vl a24 k25 (List.replicate (g.Nodes.length : Int).toNat false)) seen_38, pAll [pv p6 [vl ga0 gk0 g.Nodes, vl ga1 gk1 g.Succ, vl ga2 gk2 g.Pred], S ga0 gk0 g.Nodes, S ga1 gk1 g.Succ, S ga2 gk2 g.Pred], pv p6 [vl ga0 gk0 g.Nodes, vl ga1 gk1 g.Succ, vl ga2 gk2 g.Pred], S ga0 gk0 g.Nodes, S ga1 gk1 g.Succ, S ga2 gk2 g.Pred], gh_Reach_L0 g r37 seen_38 todo_39 out_40 = gh_Reach_L0 g (from_.length + (g.Succ.map List.length).sum + 1) (List.replicate (g.Nodes.length : Int).toNat false) rv29 [] ∧ RI g from_ seen_38 todo_39 out_40, r37⟩) ((from_.length + (g.Succ.map List.length).sum + 1), (List.replicate (g.Nodes.length : Int).toNat false), rv29, [], a33, k34, none, 0) [0, 0, 0, 0, 1, 2, 3, 4] ⟨rfl, (RI_init hgv (by assumption) hrf)⟩ ?_
 rintro ⟨r37, seen_38, todo_39, out_40, a41, k42, a43, k44⟩ ⟨hM45, hv46⟩
 refine JJ_nx fun _ _ hL hA => ?_; dsimp only at hL hA; subst hL hA
 refine Fb 8 0 fun _ => Fo 0 fun ho49 => Fb 8 1 fun _ => Fo 1 fun ho51 => Fb 1 2 fun _ => Fl 2 fun hn53 => ?_
 refine Fb 32 5 fun _ => Fb 24 6 fun _ => Fb 24 7 fun _ => ?_
 rcases r37 with _ | r37
 ·exact absurd (hM45.symm.trans rfl) hterm47
 refine KS ?_
 refine Oq Vm (Oq (Vlen sl22) (Oq Vgtr (KS ?_)))
 refine Kc ?_ ?_
 ·intro h57
  have g58 := dt h57
  have hrt := RI_top (td := todo_39) hgv (by assumption) aM1
  refine KS ?_
  refine Oq Vm (Oq Vm (Oq (Vlen sl22) (Oq Vsub (Oq (Vi sl22 1) ?_))))
  have hb59 := ok1 (i := (((todo_39.length : Int) - 1) : Int).toNat) ho51 rng
  refine Oq (VldI sh3 1) (Oq Va (KS ?_))
  refine Oq Vm (Oq Vm (Oq (Vlen sl22) (Oq Vsub (Oa (AslO [1] sl22 0 ((((todo_39.length : Int) - 1) : Int).toNat)) fun c60 => ?_))))
  refine Jo 0 ?_; rintro a61 k62 rfl
  refine Fb 8 0 fun _ => Fo 0 fun ho64 => ?_
  have hn65 : ((todo_39.take ((((todo_39.length : Int) - 1) : Int).toNat)).drop 0).length = ((((todo_39.length : Int) - 1) : Int).toNat) - 0 := len_slice rng rng
  refine Oq Va (KS ?_)
  refine Oq Vm (Oq Vm (Oq (Vi sl80 2) (Oq (VldB sh4 2) (Oq Vnot (KS ?_)))))
  refine Kc ?_ ?_
  ·intro h66
   have h68 := not_true h66
   refine KS ?_
   refine Oq Vm (Oq Vm (Oq (Vi sl80 2) (Ost (SoB [2] sh4) (KS ?_))))
   refine Oq Vm (Oq Vm (Oa (AsV sl22 sz22 [vi (todo_39.getD (((todo_39.length : Int) - 1) : Int).toNat 0)] [vi (todo_39.getD (((todo_39.length : Int) - 1) : Int).toNat 0)]) fun c70 => ?_))
   refine Jo 0 ?_; rintro a71 k72 rfl
   refine Jl [0] (Ent.crInt _ [(todo_39.getD (((todo_39.length : Int) - 1) : Int).toNat 0)] _ _ rfl rfl (by intro x hx; rw [List.mem_singleton] at hx; subst hx; unfold i64ok; omega) aB1) ?_
   refine Oa (ApO [3, 0] sl22 sl22 sz22) fun c73 => ?_
   refine Jo 0 ?_; rintro a74 k75 rfl
   refine Fb 8 0 fun _ => Fo 0 fun ho77 => ?_
   have hn78 := la out_40 ([(todo_39.getD (((todo_39.length : Int) - 1) : Int).toNat 0)] : List Int)
   refine Oq Va (KS ?_)
   refine Oq Vm (Oq (Vfa fo36_1 4) (Oq (VldF sh34 4) (Oq Vm (Oq (Vi sl34 6) ?_))))
   refine JJ_peekL ((todo_39.getD (((todo_39.length : Int) - 1) : Int).toNat 0) : Int).toNat 6 rfl rng fun a79 k80 => ?_
   refine Fb 8 1 fun _ => Fo 1 fun ho82 => ?_
   refine Oq (Vld sh22 0) (Oa (Ap [4, 1] sl22 sl22 sz22) fun c83 => ?_)
   refine Jo 0 ?_; rintro a84 k85 rfl
   refine Fb 8 0 fun _ => Fo 0 fun ho87 => ?_
   have hn88 := la ((todo_39.take ((((todo_39.length : Int) - 1) : Int).toNat)).drop 0) ((g.Succ.getD ((todo_39.getD (((todo_39.length : Int) - 1) : Int).toNat 0) : Int).toNat []) : List Int)
   refine Oq Va (KS ?_)
   exact Kg (r37, (seen_38.set ((todo_39.getD (((todo_39.length : Int) - 1) : Int).toNat 0) : Int).toNat true), (((todo_39.take ((((todo_39.length : Int) - 1) : Int).toNat)).drop 0) ++ (g.Succ.getD ((todo_39.getD (((todo_39.length : Int) - 1) : Int).toNat 0) : Int).toNat [])), (out_40 ++ [(todo_39.getD (((todo_39.length : Int) - 1) : Int).toNat 0)]), a84, k85, a74, k75) [3, 0, 2, 2, 3, 4, 5, 6] ⟨(q3 hM45 (by simp only [gh_Reach_L0, h57, h66, h68, cs4])), (by first | exact RI.push hgv (by assumption) aM1 aM1 (not_true (by assumption)) | exact RI.pop (by assumption))⟩
  intro h66
  have h90 := not_false h66
  refine KS ?_
  exact Kg (r37, seen_38, ((todo_39.take ((((todo_39.length : Int) - 1) : Int).toNat)).drop 0), out_40, a61, k62, a43, k44) [1, 0, 0, 0, 1, 2, 3, 4] ⟨(q3 hM45 (by simp only [gh_Reach_L0, h57, h66, h90, cs4])), (by first | exact RI.push hgv (by assumption) aM1 aM1 (not_true (by assumption)) | exact RI.pop (by assumption))⟩
 intro h57
 have g92 := df h57
 refine Ke ?_
 have hR93 := q2 hM45 (.brk out_40) (by simp only [gh_Reach_L0, h57, cs4])
 refine KS ?_
 refine Oq Vm ?_
 refine letv (sc_Sort_int out_40) fun rv94 hg95 => ?_
 have hc96 := fn40 out_40 a43 k44 (RI_ol12 hgv (by assumption) hsm) rv94 hg95
 refine Oc [0] ca40 hc96 ?_
 rintro - he97
 refine Fb 8 0 fun _ => Fo 0 fun ho99 => KS ?_
 refine Oq Vm ?_
 refine Fl 0 fun hn100 => ?_; (try unfold vl); rw [← hn100]
 refine Jl [0] (Ent.freeze _ _) ?_
 refine letv (sc_Clip_int rv94) fun rv102 hg103 => ?_
 have hc104 := fn41 rv94 a43 k44 rv102 hg103
 refine Oc [0] ca41 hc104 ?_
 rintro c101 he105
 refine Jo 0 ?_; rintro a106 k107 rfl
 refine Fb 8 0 fun _ => Fo 0 fun ho109 => ?_
 refine Oq Va (KS ?_)
 have hq := q4 hrr rv102 (by simp only [gh_Reach, h10, h15, h20, h57, hg8, hg18, hg30, hR93, hg95, hg103, cs4]); subst hq
 exact Kr (vl a106 k107 rv102) rfl (.tmp rfl .nil) [0] (by first | (have hrl := RI_ol hgv (by assumption); omega) | omega | simp)
theorem fn50 (a : List (List Int)) (aa0 : Option Addr) (ak0 : Nat) (b : List (List Int)) (ba0 : Option Addr) (bk0 : Nat) (rr : Bool) (hrr : r7_SameLists a b = rr) : FT Tryz.prog 50 #[vl aa0 ak0 a, vl ba0 bk0 b] [S aa0 ak0 a, S ba0 bk0 b] (fun g : Unit => True) (fun g => vb rr) (fun g => []) := by
 refine FTi Tryz.func50 fun w0 M0 F0 => Fb 24 0 fun _ => Fb 24 1 fun _ => ?_
 refine KS ?_
 refine Oq Va (KS ?_)
 refine Oq Vm (Oq (Vlen sl34) (Oq Vm (Oq (Vlen sl34) (Oq Vneq (KS ?_)))))
 refine Kc ?_ ?_
 ·intro h3
  have g4 := ne_of_bne h3
  refine KS ?_
  refine Oq Va (KS ?_)
  have hq := q4 hrr false (by simp only [r7_SameLists, h3, cs4]); subst hq
  exact Kr () rfl (.tmp rfl .nil) [] trivial
 intro h3
 have g5 := eq_of_bne_false h3
 refine KS ?_
 refine Oq Va (KS ?_)
 refine Kl (γ := Nat × Int) (fun (r6, i_7) => ⟨[(0, vl aa0 ak0 a), (1, vl ba0 bk0 b), (5, vi i_7)], [S aa0 ak0 a, S ba0 bk0 b], r7_SameLists_L0 a b r6 i_7 = r7_SameLists_L0 a b (((a.length : Int) - 0).toNat) 0 ∧ r6 = ((a.length : Int) - i_7).toNat ∧ (0 : Int) ≤ i_7 ∧ i_7 ≤ (a.length : Int) ∧ (-9223372036854775808 ≤ i_7 ∧ i_7 ≤ 9223372036854775807), r6⟩) (((a.length : Int) - 0).toNat, 0) [0, 1] ⟨rfl, rfl, aM1, aM1, aM1⟩ ?_
 rintro ⟨r6, i_7⟩ ⟨hM8, hr9, hi10, hi11, hk12⟩
 refine JJ_nx fun _ _ hL hA => ?_; dsimp only at hL hA; subst hL hA
 refine Fb 24 0 fun _ => Fb 24 1 fun _ => KS ?_
 refine Oq Vm (Oq Vm (Oq (Vlen sl34) (Oq Vlss (KS ?_))))
 refine Kc ?_ ?_
 ·intro h15
  have g16 := dt h15
  obtain ⟨r17, rfl⟩ := scc (n := r6) aM1
  refine KS ?_
  refine JJ_peekL i_7.toNat 0 rfl rng fun a18 k19 => ?_
  refine Fb 8 1 fun _ => Fo 1 fun ho21 => ?_
  refine JJ_peekL i_7.toNat 3 rfl rng fun a22 k23 => ?_
  refine Fb 8 1 fun _ => Fo 1 fun ho25 => ?_
  refine JK_drawK [0, 0, 3, 7, 0, 0, 48, 112, 255, 511] fmix ?_
  refine Dv [] Vm (Dv [] Vm (Dv [4] (Vi sl34 0) (Dv [2] (Vld sh22 0) (Dv [] Vm (Dv [] Vm (Dv [5] (Vi sl34 0) (Dv [0] (Vld sh22 0) ?_)))))))
  refine letv (r7_Ints (a.getD i_7.toNat []) (b.getD i_7.toNat [])) fun rv26 hg27 => ?_
  refine Dx [1, 3] [] [1, 2, 0] (fun G => vb rv26) [fun G => SP.fact (True)] (fun G => xC [1, 0] ca18 (fn18 ((a.getD i_7.toNat [])) a18 k19 ((b.getD i_7.toNat [])) a22 k23 rv26 hg27)) (Dv [] Vnot ?_)
  refine Dn ⟨by kernel_rfl, fun G => ?_⟩
  refine Jw2 [(0, vl aa0 ak0 a), (1, vl ba0 bk0 b), (5, vi i_7), (26, vb (!rv26))] [0, 1, 2, 3, 4, 5] [SP.fact (True)] ?_
  refine Jk [0, 1, 2, 3, 4, 5] ?_
  refine Kc ?_ ?_
  ·intro h28
   have h30 := not_true h28
   refine KS ?_
   refine Oq Va (KS ?_)
   have hR32 := q2 hM8 (.ret false) (by simp only [r7_SameLists_L0, h15, h28, h30, hg27, cs4])
   have hq := q4 hrr false (by simp only [r7_SameLists, h3, h15, h28, h30, hg27, hR32, cs4]); subst hq
   exact Kr () rfl (.tmp rfl .nil) [] trivial
  intro h28
  have h34 := not_false h28
  refine KS ?_
  refine Oq Vm (Oq Vadd (Oq Va (KS ?_)))
  exact Kg (r17, (i_7 + 1)) [4, 5] ⟨(q3 hM8 (by simp only [r7_SameLists_L0, h15, h28, h34, hg27, cs4])), aM1, aM1, aM1, aM1⟩
 intro h15
 have g36 := df h15
 obtain rfl : r6 = 0 := by omega
 refine Ke ?_
 have hR37 := q2 hM8 (.brk ()) (by simp only [r7_SameLists_L0, h15, cs4])
 refine KS ?_
 refine Oq Va (KS ?_)
 have hq := q4 hrr true (by simp only [r7_SameLists, h3, h15, hR37, cs4]); subst hq
 exact Kr () rfl (.tmp rfl .nil) [] trivial
theorem fn25 (a : GGraph) (aa0 : Option Addr) (ak0 : Nat) (aa1 : Option Addr) (ak1 : Nat) (aa2 : Option Addr) (ak2 : Nat) (b : GGraph) (ba0 : Option Addr) (bk0 : Nat) (ba1 : Option Addr) (bk1 : Nat) (ba2 : Option Addr) (bk2 : Nat) (rr : Bool) (hrr : r7_SameGraph a b = rr) : FT Tryz.prog 25 #[.agg #[vl aa0 ak0 a.Nodes, vl aa1 ak1 a.Succ, vl aa2 ak2 a.Pred], .agg #[vl ba0 bk0 b.Nodes, vl ba1 bk1 b.Succ, vl ba2 bk2 b.Pred]] [S aa0 ak0 a.Nodes, S aa1 ak1 a.Succ, S aa2 ak2 a.Pred, S ba0 bk0 b.Nodes, S ba1 bk1 b.Succ, S ba2 bk2 b.Pred] (fun g : Unit => True) (fun g => vb rr) (fun g => []) := by
 refine FTi Tryz.func25 fun w0 M0 F0 => Fb 32 0 fun _ => Fb 24 1 fun _ => Fb 24 2 fun _ => Fb 32 3 fun _ => Fb 24 4 fun _ => Fb 24 5 fun _ => ?_
 refine KS ?_
 refine Oa (Ab [vl aa0 ak0 a.Nodes, vl aa1 ak1 a.Succ, vl aa2 ak2 a.Pred]) fun p7 => Oa (Ab [vl ba0 bk0 b.Nodes, vl ba1 bk1 b.Succ, vl ba2 bk2 b.Pred]) fun p8 => Oq Va (KS ?_)
 refine Oq (Vfa fo36_0 1) (Oq (VldF sh33 1) (Oq (Vlen sl33) (Oq (Vfa fo36_0 0) (Oq (VldF sh33 0) (Oq (Vlen sl33) (Oq Vneq (Oq Vm ?_)))))))
 refine Js 13 ?_ ?_
 ·intro h9
  have g10 := ne_of_bne h9
  refine Osk (Osk (Osk (Osk (Osk (Osk (Oq Vpt (Oq Vm (Osk (Osk ?_)))))))))
  refine Osk (Osk (Osk (Osk (Oq Vpt (KS ?_)))))
  refine Kt (KS ?_)
  refine Oq Va (KS ?_)
  have hq := q4 hrr false (by simp only [r7_SameGraph, h9, cs4]); subst hq
  exact Kr () rfl (.tmp rfl .nil) [] trivial
 intro h9
 have g11 := eq_of_bne_false h9
 refine Oq (Vfa fo36_1 1) (Oq (VldF sh34 1) (Oq (Vfa fo36_1 0) (Oq (VldF sh34 0) ?_)))
 refine letv (r7_SameLists a.Succ b.Succ) fun rv12 hg13 => ?_
 have hc14 := fn50 a.Succ aa1 ak1 b.Succ ba1 bk1 rv12 hg13
 refine Oc [3, 6] ca50 hc14 ?_
 rintro - -
 refine Oq Vnot (Oq Vpf (Oq Vm ?_))
 refine Js 21 ?_ ?_
 ·intro h15
  have h17 := not_true h15
  refine Osk (Osk (Osk (Osk (Osk (Osk (Oq Vpt (KS ?_)))))))
  refine Kt (KS ?_)
  refine Oq Va (KS ?_)
  have hq := q4 hrr false (by simp only [r7_SameGraph, h9, h15, h17, hg13, cs4]); subst hq
  exact Kr () rfl (.tmp rfl .nil) [] trivial
 intro h15
 have h20 := not_false h15
 refine Oq (Vfa fo36_2 1) (Oq (VldF sh34 1) (Oq (Vfa fo36_2 0) (Oq (VldF sh34 0) ?_)))
 refine letv (r7_SameLists a.Pred b.Pred) fun rv22 hg23 => ?_
 have hc24 := fn50 a.Pred aa2 ak2 b.Pred ba2 bk2 rv22 hg23
 refine Oc [4, 7] ca50 hc24 ?_
 rintro - -
 refine Oq Vnot (Oq Vpf (KS ?_))
 refine Kc ?_ ?_
 ·intro h25
  have h27 := not_true h25
  refine KS ?_
  refine Oq Va (KS ?_)
  have hq := q4 hrr false (by simp only [r7_SameGraph, h9, h15, h20, h25, h27, hg13, hg23, cs4]); subst hq
  exact Kr () rfl (.tmp rfl .nil) [] trivial
 intro h25
 have h30 := not_false h25
 refine KS ?_
 refine Oq Va (KS ?_)
 refine Kl (γ := Nat × Int) (fun (r32, i_33) => ⟨[(2, p7), (3, p8), (5, vi i_33)], [pv p8 [vl ba0 bk0 b.Nodes, vl ba1 bk1 b.Succ, vl ba2 bk2 b.Pred], pv p7 [vl aa0 ak0 a.Nodes, vl aa1 ak1 a.Succ, vl aa2 ak2 a.Pred], S aa0 ak0 a.Nodes, S aa1 ak1 a.Succ, S aa2 ak2 a.Pred, S ba0 bk0 b.Nodes, S ba1 bk1 b.Succ, S ba2 bk2 b.Pred], r7_SameGraph_L0 a b r32 i_33 = r7_SameGraph_L0 a b (((a.Nodes.length : Int) - 0).toNat) 0 ∧ r32 = ((a.Nodes.length : Int) - i_33).toNat ∧ (0 : Int) ≤ i_33 ∧ i_33 ≤ (a.Nodes.length : Int) ∧ (-9223372036854775808 ≤ i_33 ∧ i_33 ≤ 9223372036854775807), r32⟩) (((a.Nodes.length : Int) - 0).toNat, 0) [0, 1, 2, 3, 4, 5, 6, 7] ⟨rfl, rfl, aM1, aM1, aM1⟩ ?_
 rintro ⟨r32, i_33⟩ ⟨hM34, hr35, hi36, hi37, hk38⟩
 refine JJ_nx fun _ _ hL hA => ?_; dsimp only at hL hA; subst hL hA
 refine Fb 32 2 fun _ => Fb 24 3 fun _ => Fb 24 4 fun _ => Fb 32 5 fun _ => Fb 24 6 fun _ => Fb 24 7 fun _ => KS ?_
 refine Oq Vm (Oq (Vfa fo36_0 1) (Oq (VldF sh33 1) (Oq (Vlen sl33) (Oq Vlss (KS ?_)))))
 refine Kc ?_ ?_
 ·intro h45
  have g46 := dt h45
  obtain ⟨r47, rfl⟩ := scc (n := r32) aM1
  refine KS ?_
  refine JJ_peek_GNode i_33.toNat 2 rfl rng fun hb48 hb49 hb50 hb51 => ?_
  unfold i64ok at hb48 hb49 hb50 hb51
  refine JJ_peek_GNode i_33.toNat 6 rfl rng fun hb52 hb53 hb54 hb55 => ?_
  unfold i64ok at hb52 hb53 hb54 hb55
  refine Kq [0, 1, 0, 7, 15, 0, 32, 0, 224, 480, 1023] fmix ?_
  refine Qv [3] (Vfa fo36_0 0) (Qv [3] (VldF sh33 0) (Qv [] Vm (Qv [4] (Vi sl33 0) (Qv [1] (VldA sh76 0) (Qv [2] (Vfa fo36_0 0) (Qv [2] (VldF sh33 0) (Qv [] Vm (Qv [7] (Vi sl33 0) (Qv [0] (VldA sh76 0) ?_)))))))))
  refine Qv [] (VneA eqi76 (l := [(a.Nodes.getD i_33.toNat default).Kind, (a.Nodes.getD i_33.toNat default).Func, (a.Nodes.getD i_33.toNat default).Block, (a.Nodes.getD i_33.toNat default).Stmt]) (m := [(b.Nodes.getD i_33.toNat default).Kind, (b.Nodes.getD i_33.toNat default).Func, (b.Nodes.getD i_33.toNat default).Block, (b.Nodes.getD i_33.toNat default).Stmt])) ?_
  refine Qn ⟨by kernel_rfl, ?_⟩
  refine Kc ?_ ?_
  ·intro h56
   have g57 := ne_of_bne h56
   refine KS ?_
   refine Oq Va (KS ?_)
   have hR58 := q2 hM34 (.ret false) (by simp only [r7_SameGraph_L0, h45, h56, cs4])
   have hq := q4 hrr false (by simp only [r7_SameGraph, h9, h15, h20, h25, h30, h45, h56, hg13, hg23, hR58, cs4]); subst hq
   exact Kr () rfl (.tmp rfl .nil) [] trivial
  intro h56
  have g59 := eq_of_bne_false h56
  refine KS ?_
  refine Oq Vm (Oq Vadd (Oq Va (KS ?_)))
  exact Kg (r47, (i_33 + 1)) [2, 3, 4, 5, 6, 7, 8, 9] ⟨(q3 hM34 (by simp only [r7_SameGraph_L0, h45, h56, cs4])), aM1, aM1, aM1, aM1⟩
 intro h45
 have g60 := df h45
 obtain rfl : r32 = 0 := by omega
 refine Ke ?_
 have hR61 := q2 hM34 (.brk ()) (by simp only [r7_SameGraph_L0, h45, cs4])
 refine KS ?_
 refine Oq Va (KS ?_)
 have hq := q4 hrr true (by simp only [r7_SameGraph, h9, h15, h20, h25, h30, h45, hg13, hg23, hR61, cs4]); subst hq
 exact Kr () rfl (.tmp rfl .nil) [] trivial
theorem fn19 (l : List Int) (la0 : Option Addr) (lk0 : Nat) (n : Int) (hn_0 : i64ok n) (rr : Bool) (hrr : r7_Has l n = rr) : FT Tryz.prog 19 #[vl la0 lk0 l, vi n] [S la0 lk0 l] (fun g : Unit => True) (fun g => vb rr) (fun g => []) := by
 refine FTi Tryz.func19 fun w0 M0 F0 => ?_
 unfold i64ok at hn_0
 refine Fb 8 0 fun _ => Fo 0 fun ho2 => KS ?_
 refine Oq Va (KS ?_)
 refine Oq Va (KS ?_)
 refine Kl (γ := Nat × Int) (fun (r3, i_4) => ⟨[(0, vl la0 lk0 l), (1, vi n), (5, vi i_4)], [S la0 lk0 l], r7_Has_L0 l n r3 i_4 = r7_Has_L0 l n (((l.length : Int) - 0).toNat) 0 ∧ r3 = ((l.length : Int) - i_4).toNat ∧ (0 : Int) ≤ i_4 ∧ i_4 ≤ (l.length : Int) ∧ (-9223372036854775808 ≤ i_4 ∧ i_4 ≤ 9223372036854775807), r3⟩) (((l.length : Int) - 0).toNat, 0) [0] ⟨rfl, rfl, aM1, aM1, aM1⟩ ?_
 rintro ⟨r3, i_4⟩ ⟨hM5, hr6, hi7, hi8, hk9⟩
 refine JJ_nx fun _ _ hL hA => ?_; dsimp only at hL hA; subst hL hA
 refine Fb 8 0 fun _ => Fo 0 fun ho11 => KS ?_
 refine Oq Vm (Oq Vm (Oq (Vlen sl22) (Oq Vlss (KS ?_))))
 refine Kc ?_ ?_
 ·intro h12
  have g13 := dt h12
  obtain ⟨r14, rfl⟩ := scc (n := r3) aM1
  refine KS ?_
  refine Oq Vm (Oq Vm (Oq (Vi sl22 0) ?_))
  have hb15 := ok1 (i := i_4.toNat) ho11 rng
  refine Oq (VldI sh3 0) (Oq Vm (Oq Veql (KS ?_)))
  refine Kc ?_ ?_
  ·intro h16
   have g17 := eq_of_beq h16
   refine KS ?_
   refine Oq Va (KS ?_)
   have hR18 := q2 hM5 (.ret true) (by simp only [r7_Has_L0, h12, h16, cs4])
   have hq := q4 hrr true (by simp only [r7_Has, h12, h16, hR18, cs4]); subst hq
   exact Kr () rfl (.tmp rfl .nil) [] trivial
  intro h16
  have g19 := ne_of_beq_false h16
  refine KS ?_
  refine Oq Vm (Oq Vadd (Oq Va (KS ?_)))
  exact Kg (r14, (i_4 + 1)) [0] ⟨(q3 hM5 (by simp only [r7_Has_L0, h12, h16, cs4])), aM1, aM1, aM1, aM1⟩
 intro h12
 have g20 := df h12
 obtain rfl : r3 = 0 := by omega
 refine Ke ?_
 have hR21 := q2 hM5 (.brk ()) (by simp only [r7_Has_L0, h12, cs4])
 refine KS ?_
 refine Oq Va (KS ?_)
 have hq := q4 hrr false (by simp only [r7_Has, h12, hR21, cs4]); subst hq
 exact Kr () rfl (.tmp rfl .nil) [] trivial
theorem fn56 (l : List (List Int)) (la0 : Option Addr) (lk0 : Nat) (limit : Int) (hlimit_0 : i64ok limit) (hlim : limit = 1024) (rr : Int) (hrr : r7_total l limit = rr) : FT Tryz.prog 56 #[vl la0 lk0 l, vi limit] [S la0 lk0 l] (fun g : Unit => i64ok rr ∧ (0 ≤ rr ∧ rr ≤ 2049)) (fun g => vi rr) (fun g => []) := by
 refine FTi Tryz.func56 fun w0 M0 F0 => ?_
 unfold i64ok at hlimit_0
 refine Fb 24 0 fun _ => KS ?_
 refine Oq Va (KS ?_)
 refine Oq Va (KS ?_)
 refine Oq Va (KS ?_)
 refine Kl (γ := Nat × Int × Int) (fun (r2, n_3, i_4) => ⟨[(0, vl la0 lk0 l), (1, vi limit), (5, vi n_3), (6, vi i_4)], [S la0 lk0 l], r7_total_L0 l limit r2 n_3 i_4 = r7_total_L0 l limit (((l.length : Int) - 0).toNat) 0 0 ∧ r2 = ((l.length : Int) - i_4).toNat ∧ (0 : Int) ≤ i_4 ∧ i_4 ≤ (l.length : Int) ∧ (-9223372036854775808 ≤ n_3 ∧ n_3 ≤ 9223372036854775807) ∧ (-9223372036854775808 ≤ i_4 ∧ i_4 ≤ 9223372036854775807) ∧ (0 ≤ n_3 ∧ n_3 ≤ 2049), r2⟩) (((l.length : Int) - 0).toNat, 0, 0) [0] ⟨rfl, rfl, aM1, aM1, aM1, aM1, iv0⟩ ?_
 rintro ⟨r2, n_3, i_4⟩ ⟨hM5, hr6, hi7, hi8, hk9, hk10, hv11⟩
 refine JJ_nx fun _ _ hL hA => ?_; dsimp only at hL hA; subst hL hA
 refine Fb 24 0 fun _ => KS ?_
 refine Oq Vm (Oq Vm (Oq (Vlen sl34) (Oq Vlss (Oq Vm ?_))))
 refine Js 11 ?_ ?_
 ·intro h13
  have g14 := dt h13
  obtain ⟨r15, rfl⟩ := scc (n := r2) aM1
  refine Oq Vm (Oq Vm (Oq Vleq (Oq Vpt (KS ?_))))
  refine Kc ?_ ?_
  ·intro h16
   have g17 := dt h16
   refine KS ?_
   refine Oq Vm (Oq Vm (Oq Vm (Oq (Vi sl34 0) ?_)))
   refine JJ_peekL i_4.toNat 0 rfl rng fun a18 k19 => ?_
   refine Fb 8 1 fun _ => Fo 1 fun ho21 => ?_
   refine Oq (Vld sh22 0) (Oq (Vlen sl22) (Oq Vm (Oq Vadd (Oq Vmin (Oq Vadd (Oq Va (KS ?_)))))))
   refine Oq Vm (Oq Vadd (Oq Va (KS ?_)))
   exact Kg (r15, (n_3 + (min ((l.getD i_4.toNat []).length : Int) (limit + 1))), (i_4 + 1)) [2] ⟨(q3 hM5 (by simp only [r7_total_L0, h13, h16, cs4])), aM1, aM1, aM1, aM1, aM1, iv1⟩
  intro h16
  have g22 := df h16
  refine Ke ?_
  have hR23 := q2 hM5 n_3 (by simp only [r7_total_L0, h13, h16, cs4])
  refine KS ?_
  refine Oq Vm (Oq Va (KS ?_))
  have hq := q4 hrr n_3 (by simp only [r7_total, h13, h16, hR23, cs4]); subst hq
  exact Kr () rfl (.tmp rfl .nil) [] en
 intro h13
 have g24 := df h13
 obtain rfl : r2 = 0 := by omega
 refine Osk (Osk (Osk (Oq Vpf (KS ?_))))
 refine Kf ?_
 refine Ke ?_
 have hR25 := q2 hM5 n_3 (by simp only [r7_total_L0, h13, cs4])
 refine KS ?_
 refine Oq Vm (Oq Va (KS ?_))
 have hq := q4 hrr n_3 (by simp only [r7_total, h13, hR25, cs4]); subst hq
 exact Kr () rfl (.tmp rfl .nil) [] en
theorem fn57 (l : List Int) (la0 : Option Addr) (lk0 : Nat) (n : Int) (hn_0 : i64ok n) (rr : Bool) (hrr : r7_Rising l n = rr) : FT Tryz.prog 57 #[vl la0 lk0 l, vi n] [S la0 lk0 l] (fun g : Unit => True) (fun g => vb rr) (fun g => []) := by
 refine FTi Tryz.func57 fun w0 M0 F0 => ?_
 unfold i64ok at hn_0
 refine Fb 8 0 fun _ => Fo 0 fun ho2 => KS ?_
 refine Oq Va (KS ?_)
 refine Oq Va (KS ?_)
 refine Kl (γ := Nat × Int) (fun (r3, i_4) => ⟨[(0, vl la0 lk0 l), (1, vi n), (5, vi i_4)], [S la0 lk0 l], r7_Rising_L0 l n r3 i_4 = r7_Rising_L0 l n (((l.length : Int) - 0).toNat) 0 ∧ r3 = ((l.length : Int) - i_4).toNat ∧ (0 : Int) ≤ i_4 ∧ i_4 ≤ (l.length : Int) ∧ (-9223372036854775808 ≤ i_4 ∧ i_4 ≤ 9223372036854775807), r3⟩) (((l.length : Int) - 0).toNat, 0) [0] ⟨rfl, rfl, aM1, aM1, aM1⟩ ?_
 rintro ⟨r3, i_4⟩ ⟨hM5, hr6, hi7, hi8, hk9⟩
 refine JJ_nx fun _ _ hL hA => ?_; dsimp only at hL hA; subst hL hA
 refine Fb 8 0 fun _ => Fo 0 fun ho11 => KS ?_
 refine Oq Vm (Oq Vm (Oq (Vlen sl22) (Oq Vlss (KS ?_))))
 refine Kc ?_ ?_
 ·intro h12
  have g13 := dt h12
  obtain ⟨r14, rfl⟩ := scc (n := r3) aM1
  refine KS ?_
  refine Kq [0, 0, 3, 7, 15, 31, 63, 63, 255, 511, 63, 2047, 4095, 8191, 16383, 32767, 65535, 131071, 131071, 393215, 1048575, 2097151, 131071, 131071, 12713983, 29491199, 67108863, 134217727, 268435455] fmix ?_
  refine Qv [] Vm (Qv [] Vm (Qv [0] (Vi sl22 0) ?_))
  have hb15 := ok1 (i := i_4.toNat) ho11 rng
  refine Qv [0] (VldI sh3 0) (Qv [] Vlss ?_)
  refine bool_split (decide ((l.getD i_4.toNat 0) < 0)) ?_ ?_
  ·intro h16
   have g17 := dt h16
   refine Qb h16 [] Vm (Qs (Qs (Qs (Qs (Qs (Qs (Qv [] Vpt (Qv [] Vm (Qs ?_)))))))))
   refine Qs (Qs (Qs (Qs (Qs (Qs (Qs (Qs (Qs (Qs ?_)))))))))
   refine Qs (Qs (Qs (Qv [] Vpt ?_)))
   refine Qn ⟨by kernel_rfl, ?_⟩
   refine Kt (KS ?_)
   refine Oq Va (KS ?_)
   have hR18 := q2 hM5 (.ret false) (by simp only [r7_Rising_L0, h12, h16, cs4])
   have hq := q4 hrr false (by simp only [r7_Rising, h12, h16, hR18, cs4]); subst hq
   exact Kr () rfl (.tmp rfl .nil) [] trivial
  intro h16
  have g19 := df h16
  refine Qb h16 [] Vm (Qv [] Vm (Qv [] Vm (Qv [0] (Vi sl22 0) ?_)))
  have hb20 := ok1 (i := i_4.toNat) ho11 rng
  refine Qv [0] (VldI sh3 0) (Qv [] Vm (Qv [] Vgeq (Qv [] Vpf ?_)))
  refine bool_split (decide (n ≤ (l.getD i_4.toNat 0))) ?_ ?_
  ·intro h21
   have g22 := dt h21
   refine Qb h21 [] Vm (Qs (Qs (Qs (Qs (Qs (Qs (Qs (Qs (Qs ?_)))))))))
   refine Qs (Qs (Qs (Qs (Qs (Qv [] Vpt ?_)))))
   refine Qn ⟨by kernel_rfl, ?_⟩
   refine Kt (KS ?_)
   refine Oq Va (KS ?_)
   have hR23 := q2 hM5 (.ret false) (by simp only [r7_Rising_L0, h12, h16, h21, cs4])
   have hq := q4 hrr false (by simp only [r7_Rising, h12, h16, h21, hR23, cs4]); subst hq
   exact Kr () rfl (.tmp rfl .nil) [] trivial
  intro h21
  have g24 := df h21
  refine Qb h21 [] Vm (Qv [] Vm (Qv [] Vgtr ?_))
  refine bool_split (decide (0 < i_4)) ?_ ?_
  ·intro h25
   have g26 := dt h25
   refine Qb h25 [] Vm (Qv [] Vm (Qv [] Vm (Qv [] Vsub (Qv [0] (Vi sl22 0) ?_))))
   have hb27 := ok1 (i := ((i_4 - 1) : Int).toNat) ho11 rng
   refine Qv [0] (VldI sh3 0) (Qv [] Vm (Qv [] Vm (Qv [0] (Vi sl22 0) ?_)))
   have hb28 := ok1 (i := i_4.toNat) ho11 rng
   refine Qv [0] (VldI sh3 0) (Qv [] Vgeq (Qv [] Vpt (Qv [] Vpf ?_)))
   refine Qn ⟨by kernel_rfl, ?_⟩
   refine Kc ?_ ?_
   ·intro h29
    have g30 := dt h29
    refine KS ?_
    refine Oq Va (KS ?_)
    have hR31 := q2 hM5 (.ret false) (by simp only [r7_Rising_L0, h12, h16, h21, h25, h29, cs4])
    have hq := q4 hrr false (by simp only [r7_Rising, h12, h16, h21, h25, h29, hR31, cs4]); subst hq
    exact Kr () rfl (.tmp rfl .nil) [] trivial
   intro h29
   have g32 := df h29
   refine KS ?_
   refine Oq Vm (Oq Vadd (Oq Va (KS ?_)))
   exact Kg (r14, (i_4 + 1)) [0] ⟨(q3 hM5 (by simp only [r7_Rising_L0, h12, h16, h21, h25, h29, cs4])), aM1, aM1, aM1, aM1⟩
  intro h25
  have g33 := df h25
  refine Qb h25 [] Vm (Qs (Qs (Qs (Qs (Qs (Qs (Qs (Qs (Qs ?_)))))))))
  refine Qs (Qv [] Vpf (Qv [] Vpf ?_))
  refine Qn ⟨by kernel_rfl, ?_⟩
  refine Kf (KS ?_)
  refine Oq Vm (Oq Vadd (Oq Va (KS ?_)))
  exact Kg (r14, (i_4 + 1)) [0] ⟨(q3 hM5 (by simp only [r7_Rising_L0, h12, h16, h21, h25, cs4])), aM1, aM1, aM1, aM1⟩
 intro h12
 have g34 := df h12
 obtain rfl : r3 = 0 := by omega
 refine Ke ?_
 have hR35 := q2 hM5 (.brk ()) (by simp only [r7_Rising_L0, h12, cs4])
 refine KS ?_
 refine Oq Va (KS ?_)
 have hq := q4 hrr true (by simp only [r7_Rising, h12, hR35, cs4]); subst hq
 exact Kr () rfl (.tmp rfl .nil) [] trivial
theorem fn30 (g : GGraph) (ga0 : Option Addr) (gk0 : Nat) (ga1 : Option Addr) (gk1 : Nat) (ga2 : Option Addr) (gk2 : Nat) (rr : Bool) (hrr : r7_ValidGraph g = rr) : FT Tryz.prog 30 #[.agg #[vl ga0 gk0 g.Nodes, vl ga1 gk1 g.Succ, vl ga2 gk2 g.Pred]] [S ga0 gk0 g.Nodes, S ga1 gk1 g.Succ, S ga2 gk2 g.Pred] (fun g : Unit => True) (fun g => vb rr) (fun g => []) := by
 refine FTi Tryz.func30 fun w0 M0 F0 => Fb 32 0 fun _ => Fb 24 1 fun _ => Fb 24 2 fun _ => ?_
 refine KS ?_
 refine Oa (Ab [vl ga0 gk0 g.Nodes, vl ga1 gk1 g.Succ, vl ga2 gk2 g.Pred]) fun p4 => Oq Va (KS ?_)
 refine Oq (Vfa fo36_0 0) (Oq (VldF sh33 0) (Oq (Vlen sl33) (Oq Va (KS ?_))))
 refine Oq Vm (Oq Vlss (Oq Vm ?_))
 refine Js 13 ?_ ?_
 ·intro h5
  have g6 := dt h5
  refine Osk (Osk (Oq Vpt (Oq Vm (Osk (Osk (Osk (Osk (Osk (Oq Vpt ?_)))))))))
  refine Oq Vm (Osk (Osk (Osk (Osk (Osk (Oq Vpt (Oq Vm (Osk (Osk ?_)))))))))
  refine Osk (Osk (Oq Vpt (Oq Vm (Osk (Osk (Osk (Osk (Oq Vpt (KS ?_)))))))))
  refine Kt (KS ?_)
  refine Oq Va (KS ?_)
  have hq := q4 hrr false (by simp only [r7_ValidGraph, h5, cs4]); subst hq
  exact Kr () rfl (.tmp rfl .nil) [] trivial
 intro h5
 have g7 := df h5
 refine Oq Vm (Oq Vgtr (Oq Vpf (Oq Vm ?_)))
 refine Js 17 ?_ ?_
 ·intro h8
  have g9 := dt h8
  refine Osk (Osk (Osk (Osk (Osk (Oq Vpt (Oq Vm (Osk (Osk (Osk ?_)))))))))
  refine Osk (Osk (Oq Vpt (Oq Vm (Osk (Osk (Osk (Osk (Oq Vpt (Oq Vm ?_)))))))))
  refine Osk (Osk (Osk (Osk (Oq Vpt (KS ?_)))))
  refine Kt (KS ?_)
  refine Oq Va (KS ?_)
  have hq := q4 hrr false (by simp only [r7_ValidGraph, h5, h8, cs4]); subst hq
  exact Kr () rfl (.tmp rfl .nil) [] trivial
 intro h8
 have g10 := df h8
 refine Oq (Vfa fo36_1 0) (Oq (VldF sh34 0) (Oq (Vlen sl34) (Oq Vm (Oq Vneq (Oq Vpf (Oq Vm ?_))))))
 refine Js 24 ?_ ?_
 ·intro h11
  have g12 := ne_of_bne h11
  refine Osk (Osk (Osk (Osk (Osk (Oq Vpt (Oq Vm (Osk (Osk (Osk ?_)))))))))
  refine Osk (Oq Vpt (Oq Vm (Osk (Osk (Osk (Osk (Oq Vpt (KS ?_))))))))
  refine Kt (KS ?_)
  refine Oq Va (KS ?_)
  have hq := q4 hrr false (by simp only [r7_ValidGraph, h5, h8, h11, cs4]); subst hq
  exact Kr () rfl (.tmp rfl .nil) [] trivial
 intro h11
 have g13 := eq_of_bne_false h11
 refine Oq (Vfa fo36_2 0) (Oq (VldF sh34 0) (Oq (Vlen sl34) (Oq Vm (Oq Vneq (Oq Vpf (Oq Vm ?_))))))
 refine Js 31 ?_ ?_
 ·intro h14
  have g15 := ne_of_bne h14
  refine Osk (Osk (Osk (Osk (Oq Vpt (Oq Vm (Osk (Osk (Osk (Osk ?_)))))))))
  refine Oq Vpt (KS ?_)
  refine Kt (KS ?_)
  refine Oq Va (KS ?_)
  have hq := q4 hrr false (by simp only [r7_ValidGraph, h5, h8, h11, h14, cs4]); subst hq
  exact Kr () rfl (.tmp rfl .nil) [] trivial
 intro h14
 have g16 := eq_of_bne_false h14
 refine Oq (Vfa fo36_1 0) (Oq (VldF sh34 0) ?_)
 refine letv (r7_total g.Succ 1024) fun rv17 hg18 => ?_
 have hc19 := fn56 g.Succ ga1 gk1 1024 pre pre rv17 hg18
 refine Oc [2] ca56 hc19 ?_
 rintro - ⟨he20, he21⟩
 unfold i64ok at he20
 refine Oq Vgtr (Oq Vpf (Oq Vm ?_))
 refine Js 37 ?_ ?_
 ·intro h22
  have g23 := dt h22
  refine Osk (Osk (Osk (Osk (Oq Vpt (KS ?_)))))
  refine Kt (KS ?_)
  refine Oq Va (KS ?_)
  have hq := q4 hrr false (by simp only [r7_ValidGraph, h5, h8, h11, h14, h22, hg18, cs4]); subst hq
  exact Kr () rfl (.tmp rfl .nil) [] trivial
 intro h22
 have g24 := df h22
 refine Oq (Vfa fo36_2 0) (Oq (VldF sh34 0) ?_)
 refine letv (r7_total g.Pred 1024) fun rv25 hg26 => ?_
 have hc27 := fn56 g.Pred ga2 gk2 1024 pre pre rv25 hg26
 refine Oc [3] ca56 hc27 ?_
 rintro - ⟨he28, he29⟩
 unfold i64ok at he28
 refine Oq Vgtr (Oq Vpf (KS ?_))
 refine Kc ?_ ?_
 ·intro h30
  have g31 := dt h30
  refine KS ?_
  refine Oq Va (KS ?_)
  have hq := q4 hrr false (by simp only [r7_ValidGraph, h5, h8, h11, h14, h22, h30, hg18, hg26, cs4]); subst hq
  exact Kr () rfl (.tmp rfl .nil) [] trivial
 intro h30
 have g32 := df h30
 refine KS ?_
 refine Oq Va (KS ?_)
 refine Kl (γ := Nat × Int) (fun (r33, i_34) => ⟨[(1, p4), (3, vi (g.Nodes.length : Int)), (4, vi i_34)], [pv p4 [vl ga0 gk0 g.Nodes, vl ga1 gk1 g.Succ, vl ga2 gk2 g.Pred], S ga0 gk0 g.Nodes, S ga1 gk1 g.Succ, S ga2 gk2 g.Pred], r7_ValidGraph_L0 g r33 i_34 = r7_ValidGraph_L0 g (((g.Nodes.length : Int) - 0).toNat) 0 ∧ r33 = ((g.Nodes.length : Int) - i_34).toNat ∧ (0 : Int) ≤ i_34 ∧ i_34 ≤ (g.Nodes.length : Int) ∧ (-9223372036854775808 ≤ i_34 ∧ i_34 ≤ 9223372036854775807), r33⟩) (((g.Nodes.length : Int) - 0).toNat, 0) [0, 1, 2, 3] ⟨rfl, rfl, aM1, aM1, aM1⟩ ?_
 rintro ⟨r33, i_34⟩ ⟨hM35, hr36, hi37, hi38, hk39⟩
 refine JJ_nx fun _ _ hL hA => ?_; dsimp only at hL hA; subst hL hA
 refine Fb 32 1 fun _ => Fb 24 2 fun _ => Fb 24 3 fun _ => KS ?_
 refine Oq Vm (Oq Vm (Oq Vlss (KS ?_)))
 refine Kc ?_ ?_
 ·intro h43
  have g44 := dt h43
  obtain ⟨r45, rfl⟩ := scc (n := r33) aM1
  refine KS ?_
  refine Oq (Vfa fo36_1 0) (Oq (VldF sh34 0) (Oq Vm (Oq (Vi sl34 2) ?_)))
  refine JJ_peekL i_34.toNat 2 rfl rng fun a46 k47 => ?_
  refine Fb 8 1 fun _ => Fo 1 fun ho49 => ?_
  refine Oq (Vld sh22 0) (Oq Vm ?_)
  refine letv (r7_Rising (g.Succ.getD i_34.toNat []) (g.Nodes.length : Int)) fun rv50 hg51 => ?_
  have hc52 := fn57 ((g.Succ.getD i_34.toNat [])) a46 k47 ((g.Nodes.length : Int)) pre rv50 hg51
  refine Oc [1] ca57 hc52 ?_
  rintro - -
  refine Oq Vnot (Oq Vm ?_)
  refine Js 56 ?_ ?_
  ·intro h53
   have h55 := not_true h53
   refine Osk (Osk (Osk (Osk (Osk (Osk (Osk (Osk (Oq Vpt (KS ?_)))))))))
   refine Kt (KS ?_)
   refine Oq Va (KS ?_)
   have hR57 := q2 hM35 (.ret false) (by simp only [r7_ValidGraph_L0, h43, h53, h55, hg51, cs4])
   have hq := q4 hrr false (by simp only [r7_ValidGraph, h5, h8, h11, h14, h22, h30, h43, h53, h55, hg18, hg26, hg51, hR57, cs4]); subst hq
   exact Kr () rfl (.tmp rfl .nil) [] trivial
  intro h53
  have h59 := not_false h53
  refine Oq (Vfa fo36_2 2) (Oq (VldF sh34 2) (Oq Vm (Oq (Vi sl34 5) ?_)))
  refine JJ_peekL i_34.toNat 5 rfl rng fun a61 k62 => ?_
  refine Fb 8 1 fun _ => Fo 1 fun ho64 => ?_
  refine Oq (Vld sh22 0) (Oq Vm ?_)
  refine letv (r7_Rising (g.Pred.getD i_34.toNat []) (g.Nodes.length : Int)) fun rv65 hg66 => ?_
  have hc67 := fn57 ((g.Pred.getD i_34.toNat [])) a61 k62 ((g.Nodes.length : Int)) pre rv65 hg66
  refine Oc [1] ca57 hc67 ?_
  rintro - -
  refine Oq Vnot (Oq Vpf (KS ?_))
  refine Kc ?_ ?_
  ·intro h68
   have h70 := not_true h68
   refine KS ?_
   refine Oq Va (KS ?_)
   have hR72 := q2 hM35 (.ret false) (by simp only [r7_ValidGraph_L0, h43, h53, h59, h68, h70, hg51, hg66, cs4])
   have hq := q4 hrr false (by simp only [r7_ValidGraph, h5, h8, h11, h14, h22, h30, h43, h53, h59, h68, h70, hg18, hg26, hg51, hg66, hR72, cs4]); subst hq
   exact Kr () rfl (.tmp rfl .nil) [] trivial
  intro h68
  have h74 := not_false h68
  refine KS ?_
  refine Oq Vm (Oq Vadd (Oq Va (KS ?_)))
  exact Kg (r45, (i_34 + 1)) [4, 5, 6, 7] ⟨(q3 hM35 (by simp only [r7_ValidGraph_L0, h43, h53, h59, h68, h74, hg51, hg66, cs4])), aM1, aM1, aM1, aM1⟩
 intro h43
 have g76 := df h43
 obtain rfl : r33 = 0 := by omega
 refine Ke ?_
 have hR77 := q2 hM35 (.brk ()) (by simp only [r7_ValidGraph_L0, h43, cs4])
 refine KS ?_
 refine Oq Va (KS ?_)
 refine Kl (γ := Nat × Int) (fun (r78, i_79) => ⟨[(1, p4), (3, vi (g.Nodes.length : Int)), (5, vi i_79)], [pv p4 [vl ga0 gk0 g.Nodes, vl ga1 gk1 g.Succ, vl ga2 gk2 g.Pred], S ga0 gk0 g.Nodes, S ga1 gk1 g.Succ, S ga2 gk2 g.Pred], r7_ValidGraph_L1 g r78 i_79 = r7_ValidGraph_L1 g (((g.Nodes.length : Int) - 0).toNat) 0 ∧ r78 = ((g.Nodes.length : Int) - i_79).toNat ∧ (0 : Int) ≤ i_79 ∧ i_79 ≤ (g.Nodes.length : Int) ∧ (-9223372036854775808 ≤ i_79 ∧ i_79 ≤ 9223372036854775807), r78⟩) (((g.Nodes.length : Int) - 0).toNat, 0) [0, 1, 2, 3] ⟨rfl, rfl, aM1, aM1, aM1⟩ ?_
 rintro ⟨r78, i_79⟩ ⟨hM80, hr81, hi82, hi83, hk84⟩
 refine JJ_nx fun _ _ hL hA => ?_; dsimp only at hL hA; subst hL hA
 refine Fb 32 1 fun _ => Fb 24 2 fun _ => Fb 24 3 fun _ => KS ?_
 refine Oq Vm (Oq Vm (Oq Vlss (KS ?_)))
 refine Kc ?_ ?_
 ·intro h88
  have g89 := dt h88
  obtain ⟨r90, rfl⟩ := scc (n := r78) aM1
  refine KS ?_
  refine Oq Va (KS ?_)
  refine Kl (γ := Nat × Int) (fun (r91, k_92) => ⟨[(1, p4), (3, vi (g.Nodes.length : Int)), (5, vi i_79), (6, vi k_92)], [pv p4 [vl ga0 gk0 g.Nodes, vl ga1 gk1 g.Succ, vl ga2 gk2 g.Pred], S ga0 gk0 g.Nodes, S ga1 gk1 g.Succ, S ga2 gk2 g.Pred], r7_ValidGraph_L2 g i_79 r91 k_92 = r7_ValidGraph_L2 g i_79 (((((g.Succ.getD i_79.toNat []).length : Int) : Int) - 0).toNat) 0 ∧ r91 = ((((g.Succ.getD i_79.toNat []).length : Int) : Int) - k_92).toNat ∧ (0 : Int) ≤ k_92 ∧ (k_92 ≤ ((g.Succ.getD i_79.toNat []).length : Int) ∨ k_92 = 0) ∧ (-9223372036854775808 ≤ k_92 ∧ k_92 ≤ 9223372036854775807), r91⟩) (((((g.Succ.getD i_79.toNat []).length : Int) : Int) - 0).toNat, 0) [0, 1, 2, 3] ⟨rfl, rfl, aM1, (.inr rfl), aM1⟩ ?_
  rintro ⟨r91, k_92⟩ ⟨hM93, hr94, hi95, hi96, hk97⟩
  refine JJ_nx fun _ _ hL hA => ?_; dsimp only at hL hA; subst hL hA
  refine Fb 32 1 fun _ => Fb 24 2 fun _ => Fb 24 3 fun _ => KS ?_
  refine Oq Vm (Oq (Vfa fo36_1 0) (Oq (VldF sh34 0) (Oq Vm (Oq (Vi sl34 2) ?_))))
  refine JJ_peekL i_79.toNat 2 rfl rng fun a101 k102 => ?_
  refine Fb 8 1 fun _ => Fo 1 fun ho104 => ?_
  refine Oq (Vld sh22 0) (Oq (Vlen sl22) (Oq Vlss (KS ?_)))
  refine Kc ?_ ?_
  ·intro h105
   have g106 := dt h105
   have hbr := rVs (by assumption) (i := i_79) (k := k_92) aM1 aM1
   obtain ⟨r107, rfl⟩ := scc (n := r91) aM1
   refine KS ?_
   refine JJ_peekL (((g.Succ.getD i_79.toNat []).getD k_92.toNat 0) : Int).toNat 5 rfl rng fun a108 k109 => ?_
   refine Fb 8 1 fun _ => Fo 1 fun ho111 => ?_
   refine JK_drawK [0, 1, 0, 4, 0, 28, 60, 0, 252, 508, 1023, 2047, 0, 8191, 16383] fmix ?_
   refine Dv [4] (Vfa fo36_2 0) (Dv [4] (VldF sh34 0) (Dv [4] (Vfa fo36_1 0) (Dv [4] (VldF sh34 0) (Dv [] Vm (Dv [6] (Vi sl34 0) (Dv [2] (Vld sh22 0) (Dv [] Vm (Dv [3] (Vi sl22 0) ?_))))))))
   have hb112 := ok1 (i := k_92.toNat) ho104 rng
   refine Dv [3] (VldI sh3 0) (Dv [7] (Vi sl34 0) (Dv [0] (Vld sh22 0) (Dv [] Vm ?_)))
   refine letv (r7_Has (g.Pred.getD (((g.Succ.getD i_79.toNat []).getD k_92.toNat 0) : Int).toNat []) i_79) fun rv113 hg114 => ?_
   refine Dx [1] [] [1, 0] (fun G => vb rv113) [fun G => SP.fact (True)] (fun G => xC [0] ca19 (fn19 ((g.Pred.getD (((g.Succ.getD i_79.toNat []).getD k_92.toNat 0) : Int).toNat [])) a108 k109 i_79 pre rv113 hg114)) (Dv [] Vnot ?_)
   refine Dn ⟨by kernel_rfl, fun G => ?_⟩
   refine Jw2 [(1, p4), (3, vi (g.Nodes.length : Int)), (5, vi i_79), (6, vi k_92), (95, vb (!rv113))] [0, 1, 2, 3, 4, 5, 6, 7] [SP.fact (True)] ?_
   refine Jk [0, 1, 2, 3, 4, 5, 6, 7] ?_
   refine Kc ?_ ?_
   ·intro h115
    have h117 := not_true h115
    refine KS ?_
    refine Oq Va (KS ?_)
    have hR119 := q2 hM93 (.ret false) (by simp only [r7_ValidGraph_L2, h105, h115, h117, hg114, cs4])
    have hR120 := q2 hM80 (.ret false) (by simp only [r7_ValidGraph_L1, h88, h105, h115, h117, hg114, hR119, cs4])
    have hq := q4 hrr false (by simp only [r7_ValidGraph, h5, h8, h11, h14, h22, h30, h43, h88, h105, h115, h117, hg18, hg26, hR77, hg114, hR119, hR120, cs4]); subst hq
    exact Kr () rfl (.tmp rfl .nil) [] trivial
   intro h115
   have h122 := not_false h115
   refine KS ?_
   refine Oq Vm (Oq Vadd (Oq Va (KS ?_)))
   exact Kg (r107, (k_92 + 1)) [4, 5, 6, 7] ⟨(q3 hM93 (by simp only [r7_ValidGraph_L2, h105, h115, h122, hg114, cs4])), aM1, aM1, aM1, aM1⟩
  intro h105
  have g124 := df h105
  obtain rfl : r91 = 0 := by omega
  refine Ke ?_
  have hR125 := q2 hM93 (.brk ()) (by simp only [r7_ValidGraph_L2, h105, cs4])
  refine KS ?_
  refine Oq Va (KS ?_)
  refine Kl (γ := Nat × Int) (fun (r126, k_127) => ⟨[(1, p4), (3, vi (g.Nodes.length : Int)), (5, vi i_79), (7, vi k_127)], [pv p4 [vl ga0 gk0 g.Nodes, vl ga1 gk1 g.Succ, vl ga2 gk2 g.Pred], S ga0 gk0 g.Nodes, S ga1 gk1 g.Succ, S ga2 gk2 g.Pred], r7_ValidGraph_L3 g i_79 r126 k_127 = r7_ValidGraph_L3 g i_79 (((((g.Pred.getD i_79.toNat []).length : Int) : Int) - 0).toNat) 0 ∧ r126 = ((((g.Pred.getD i_79.toNat []).length : Int) : Int) - k_127).toNat ∧ (0 : Int) ≤ k_127 ∧ (k_127 ≤ ((g.Pred.getD i_79.toNat []).length : Int) ∨ k_127 = 0) ∧ (-9223372036854775808 ≤ k_127 ∧ k_127 ≤ 9223372036854775807), r126⟩) (((((g.Pred.getD i_79.toNat []).length : Int) : Int) - 0).toNat, 0) [2, 3, 4, 5] ⟨rfl, rfl, aM1, (.inr rfl), aM1⟩ ?_
  rintro ⟨r126, k_127⟩ ⟨hM128, hr129, hi130, hi131, hk132⟩
  refine JJ_nx fun _ _ hL hA => ?_; dsimp only at hL hA; subst hL hA
  refine Fb 32 1 fun _ => Fb 24 2 fun _ => Fb 24 3 fun _ => KS ?_
  refine Oq Vm (Oq (Vfa fo36_2 0) (Oq (VldF sh34 0) (Oq Vm (Oq (Vi sl34 3) ?_))))
  refine JJ_peekL i_79.toNat 3 rfl rng fun a136 k137 => ?_
  refine Fb 8 1 fun _ => Fo 1 fun ho139 => ?_
  refine Oq (Vld sh22 0) (Oq (Vlen sl22) (Oq Vlss (KS ?_)))
  refine Kc ?_ ?_
  ·intro h140
   have g141 := dt h140
   have hbr := rVp (by assumption) (i := i_79) (k := k_127) aM1 aM1
   obtain ⟨r142, rfl⟩ := scc (n := r126) aM1
   refine KS ?_
   refine JJ_peekL (((g.Pred.getD i_79.toNat []).getD k_127.toNat 0) : Int).toNat 4 rfl rng fun a143 k144 => ?_
   refine Fb 8 1 fun _ => Fo 1 fun ho146 => ?_
   refine JK_drawK [0, 1, 0, 4, 0, 28, 60, 0, 252, 508, 1023, 2047, 0, 8191, 16383] fmix ?_
   refine Dv [4] (Vfa fo36_1 0) (Dv [4] (VldF sh34 0) (Dv [4] (Vfa fo36_2 0) (Dv [4] (VldF sh34 0) (Dv [] Vm (Dv [7] (Vi sl34 0) (Dv [2] (Vld sh22 0) (Dv [] Vm (Dv [3] (Vi sl22 0) ?_))))))))
   have hb147 := ok1 (i := k_127.toNat) ho139 rng
   refine Dv [3] (VldI sh3 0) (Dv [6] (Vi sl34 0) (Dv [0] (Vld sh22 0) (Dv [] Vm ?_)))
   refine letv (r7_Has (g.Succ.getD (((g.Pred.getD i_79.toNat []).getD k_127.toNat 0) : Int).toNat []) i_79) fun rv148 hg149 => ?_
   refine Dx [1] [] [1, 0] (fun G => vb rv148) [fun G => SP.fact (True)] (fun G => xC [0] ca19 (fn19 ((g.Succ.getD (((g.Pred.getD i_79.toNat []).getD k_127.toNat 0) : Int).toNat [])) a143 k144 i_79 pre rv148 hg149)) (Dv [] Vnot ?_)
   refine Dn ⟨by kernel_rfl, fun G => ?_⟩
   refine Jw2 [(1, p4), (3, vi (g.Nodes.length : Int)), (5, vi i_79), (7, vi k_127), (120, vb (!rv148))] [0, 1, 2, 3, 4, 5, 6, 7] [SP.fact (True)] ?_
   refine Jk [0, 1, 2, 3, 4, 5, 6, 7] ?_
   refine Kc ?_ ?_
   ·intro h150
    have h152 := not_true h150
    refine KS ?_
    refine Oq Va (KS ?_)
    have hR154 := q2 hM128 (.ret false) (by simp only [r7_ValidGraph_L3, h140, h150, h152, hg149, cs4])
    have hR155 := q2 hM80 (.ret false) (by simp only [r7_ValidGraph_L1, h88, h105, h140, h150, h152, hR125, hg149, hR154, cs4])
    have hq := q4 hrr false (by simp only [r7_ValidGraph, h5, h8, h11, h14, h22, h30, h43, h88, h105, h140, h150, h152, hg18, hg26, hR77, hR125, hg149, hR154, hR155, cs4]); subst hq
    exact Kr () rfl (.tmp rfl .nil) [] trivial
   intro h150
   have h157 := not_false h150
   refine KS ?_
   refine Oq Vm (Oq Vadd (Oq Va (KS ?_)))
   exact Kg (r142, (k_127 + 1)) [4, 5, 6, 7] ⟨(q3 hM128 (by simp only [r7_ValidGraph_L3, h140, h150, h157, hg149, cs4])), aM1, aM1, aM1, aM1⟩
  intro h140
  have g159 := df h140
  obtain rfl : r126 = 0 := by omega
  refine Ke ?_
  have hR160 := q2 hM128 (.brk ()) (by simp only [r7_ValidGraph_L3, h140, cs4])
  refine KS ?_
  refine Oq Vm (Oq Vadd (Oq Va (KS ?_)))
  exact Kg (r90, (i_79 + 1)) [2, 3, 4, 5] ⟨(q3 hM80 (by simp only [r7_ValidGraph_L1, h88, h105, h140, hR125, hR160, cs4])), aM1, aM1, aM1, aM1⟩
 intro h88
 have g161 := df h88
 obtain rfl : r78 = 0 := by omega
 refine Ke ?_
 have hR162 := q2 hM80 (.brk ()) (by simp only [r7_ValidGraph_L1, h88, cs4])
 refine KS ?_
 refine Oq Va (KS ?_)
 have hq := q4 hrr true (by simp only [r7_ValidGraph, h5, h8, h11, h14, h22, h30, h43, h88, hg18, hg26, hR77, hR162, cs4]); subst hq
 exact Kr () rfl (.tmp rfl .nil) [] trivial
theorem fn32 (g : GGraph) (ga0 : Option Addr) (gk0 : Nat) (ga1 : Option Addr) (gk1 : Nat) (ga2 : Option Addr) (gk2 : Nat) (rr : Int) (hrr : r7_Edges g = rr) : FT Tryz.prog 32 #[.agg #[vl ga0 gk0 g.Nodes, vl ga1 gk1 g.Succ, vl ga2 gk2 g.Pred]] [S ga0 gk0 g.Nodes, S ga1 gk1 g.Succ, S ga2 gk2 g.Pred] (fun g : Unit => i64ok rr) (fun g => vi rr) (fun g => []) := by
 refine FTi Tryz.func32 fun w0 M0 F0 => Fb 32 0 fun _ => Fb 24 1 fun _ => Fb 24 2 fun _ => ?_
 refine KS ?_
 refine Oa (Ab [vl ga0 gk0 g.Nodes, vl ga1 gk1 g.Succ, vl ga2 gk2 g.Pred]) fun p4 => Oq Va (KS ?_)
 refine Oq (VldA sh36 0) ?_
 refine letv (r7_ValidGraph g) fun rv5 hg6 => ?_
 have hc7 := fn30 g ga0 gk0 ga1 gk1 ga2 gk2 rv5 hg6
 refine Oc [1, 2, 3] ca30 hc7 ?_
 rintro - -
 refine Oq Vnot (KS ?_)
 refine Kc ?_ ?_
 ·intro h8
  have h10 := not_true h8
  refine KS ?_
  refine Oq Va (KS ?_)
  have hq := q4 hrr 0 (by simp only [r7_Edges, h8, h10, hg6, cs4]); subst hq
  exact Kr () rfl (.tmp rfl .nil) [] en
 intro h8
 have h13 := not_false h8
 refine KS ?_
 refine Oq (Vfa fo36_1 0) (Oq (VldF sh34 0) ?_)
 refine letv (r7_total g.Succ 1024) fun rv15 hg16 => ?_
 have hc17 := fn56 g.Succ ga1 gk1 1024 pre pre rv15 hg16
 refine Oc [2] ca56 hc17 ?_
 rintro - ⟨he18, he19⟩
 unfold i64ok at he18
 refine Oq Va (KS ?_)
 have hq := q4 hrr rv15 (by simp only [r7_Edges, h8, h13, hg6, hg16, cs4]); subst hq
 exact Kr () rfl (.tmp rfl .nil) [] en
theorem fn33 (g : GGraph) (ga0 : Option Addr) (gk0 : Nat) (ga1 : Option Addr) (gk1 : Nat) (ga2 : Option Addr) (gk2 : Nat) (from_ : List Int) (from_a0 : Option Addr) (from_k0 : Nat) (rr : List Int) (hrr : r7_Reach g from_ = rr) : FT Tryz.prog 33 #[.agg #[vl ga0 gk0 g.Nodes, vl ga1 gk1 g.Succ, vl ga2 gk2 g.Pred], vl from_a0 from_k0 from_] [S ga0 gk0 g.Nodes, S ga1 gk1 g.Succ, S ga2 gk2 g.Pred, S from_a0 from_k0 from_] (fun g : Value => True) (fun g => g) (fun g => [sl g rr]) := by
 refine FTi Tryz.func33 fun w0 M0 F0 => Fb 32 0 fun _ => Fb 24 1 fun _ => Fb 24 2 fun _ => Fb 8 3 fun _ => Fo 3 fun ho5 => ?_
 refine KS ?_
 refine Oa (Ab [vl ga0 gk0 g.Nodes, vl ga1 gk1 g.Succ, vl ga2 gk2 g.Pred]) fun p6 => Oq Va (KS ?_)
 refine Oq (VldA sh36 0) ?_
 refine letv (r7_ValidGraph g) fun rv7 hg8 => ?_
 have hc9 := fn30 g ga0 gk0 ga1 gk1 ga2 gk2 rv7 hg8
 refine Oc [1, 2, 3] ca30 hc9 ?_
 rintro - -
 refine Oq Vnot (KS ?_)
 refine Kc ?_ ?_
 ·intro h10
  have h12 := not_true h10
  refine KS ?_
  refine Oq Va (KS ?_)
  refine Jl [] (Ent.slNil (α := Int)) ?_
  have hq := q4 hrr ([] : List Int) (by simp only [r7_Reach, h10, h12, hg8, cs4]); subst hq
  exact Kr (.slice none 0 0) rfl (.tmp rfl .nil) [0] trivial
 intro h10
 have h15 := not_false h10
 have hvr := rVt (by assumption) h10
 have hgv := rVG hvr
 have hn1 := hgv.n1
 have hsl := hgv.sl
 refine KS ?_
 refine Oq Va (KS ?_)
 refine Oq Va (KS ?_)
 refine Jl [] (Ent.slNil (α := Int)) ?_
 refine Kl (γ := Nat × List Int × Int × Option Addr × Nat) (fun (r17, out_18, i_19, a20, k21) => ⟨[(1, vl from_a0 from_k0 from_), (2, p6), (5, vl a20 k21 out_18), (6, vi i_19)], [S a20 k21 out_18, pv p6 [vl ga0 gk0 g.Nodes, vl ga1 gk1 g.Succ, vl ga2 gk2 g.Pred], S ga0 gk0 g.Nodes, S ga1 gk1 g.Succ, S ga2 gk2 g.Pred, S from_a0 from_k0 from_], r7_Reach_L0 g from_ r17 out_18 i_19 = r7_Reach_L0 g from_ (((from_.length : Int) - 0).toNat) [] 0 ∧ r17 = ((from_.length : Int) - i_19).toNat ∧ (0 : Int) ≤ i_19 ∧ i_19 ≤ (from_.length : Int) ∧ (-9223372036854775808 ≤ i_19 ∧ i_19 ≤ 9223372036854775807) ∧ Asc out_18 (g.Nodes.length : Int), r17⟩) (((from_.length : Int) - 0).toNat, [], 0, none, 0) [0, 1, 2, 3, 4, 5] ⟨rfl, rfl, aM1, aM1, aM1, (Asc_nil _)⟩ ?_
 rintro ⟨r17, out_18, i_19, a20, k21⟩ ⟨hM22, hr23, hi24, hi25, hk26, hv27⟩
 refine JJ_nx fun _ _ hL hA => ?_; dsimp only at hL hA; subst hL hA
 refine Fb 8 0 fun _ => Fo 0 fun ho29 => Fb 32 2 fun _ => Fb 24 3 fun _ => Fb 24 4 fun _ => Fb 8 5 fun _ => Fo 5 fun ho34 => KS ?_
 refine Oq Vm (Oq Vm (Oq (Vlen sl22) (Oq Vlss (KS ?_))))
 refine Kc ?_ ?_
 ·intro h35
  have g36 := dt h35
  obtain ⟨r37, rfl⟩ := scc (n := r17) aM1
  refine KS ?_
  refine Kq [0, 0, 3, 7, 15, 31, 63, 63, 255, 511, 63, 1087, 3135, 8191, 16383] fmix ?_
  refine Qv [] Vm (Qv [] Vm (Qv [5] (Vi sl22 0) ?_))
  have hb38 := ok1 (i := i_19.toNat) ho34 rng
  refine Qv [5] (VldI sh3 0) (Qv [] Vlss ?_)
  refine bool_split (decide ((from_.getD i_19.toNat 0) < 0)) ?_ ?_
  ·intro h39
   have g40 := dt h39
   refine Qb h39 [] Vm (Qs (Qs (Qs (Qs (Qs (Qs (Qs (Qs (Qv [] Vpt ?_)))))))))
   refine Qn ⟨by kernel_rfl, ?_⟩
   refine Kt (KS ?_)
   refine Oq Va (KS ?_)
   refine Jl [] (Ent.slNil (α := Int)) ?_
   have hR41 := q2 hM22 (.ret ([] : List Int)) (by simp only [r7_Reach_L0, h35, h39, cs4])
   have hq := q4 hrr ([] : List Int) (by simp only [r7_Reach, h10, h15, h35, h39, hg8, hR41, cs4]); subst hq
   exact Kr (.slice none 0 0) rfl (.tmp rfl .nil) [0] trivial
  intro h39
  have g42 := df h39
  refine Qb h39 [] Vm (Qv [] Vm (Qv [] Vm (Qv [5] (Vi sl22 0) ?_)))
  have hb43 := ok1 (i := i_19.toNat) ho34 rng
  refine Qv [5] (VldI sh3 0) (Qv [1] (Vfa fo36_0 0) (Qv [1] (VldF sh33 0) (Qv [] (Vlen sl33) (Qv [] Vgeq (Qv [] Vpf ?_)))))
  refine Qn ⟨by kernel_rfl, ?_⟩
  refine Kc ?_ ?_
  ·intro h44
   have g45 := dt h44
   refine KS ?_
   refine Oq Va (KS ?_)
   refine Jl [] (Ent.slNil (α := Int)) ?_
   have hR46 := q2 hM22 (.ret ([] : List Int)) (by simp only [r7_Reach_L0, h35, h39, h44, cs4])
   have hq := q4 hrr ([] : List Int) (by simp only [r7_Reach, h10, h15, h35, h39, h44, hg8, hR46, cs4]); subst hq
   exact Kr (.slice none 0 0) rfl (.tmp rfl .nil) [0] trivial
  intro h44
  have g47 := df h44
  refine KS ?_
  refine Oq Vm (Oq Vm (Oq Vm (Oq (Vi sl22 5) ?_)))
  have hb48 := ok1 (i := i_19.toNat) ho34 rng
  refine Oq (VldI sh3 5) ?_
  refine letv (r7_Insert out_18 (from_.getD i_19.toNat 0)) fun rv50 hg51 => ?_
  have hc52 := fn29 out_18 a20 k21 ((from_.getD i_19.toNat 0)) pre (Asc_lb (by assumption) aM1) rv50 hg51
  refine Oc [0] ca29 hc52 ?_
  rintro c49 he53
  refine Jo 0 ?_; rintro a54 k55 rfl
  refine Fb 8 0 fun _ => Fo 0 fun ho57 => ?_
  refine Oq Va (KS ?_)
  refine Oq Vm (Oq Vadd (Oq Va (KS ?_)))
  exact Kg (r37, rv50, (i_19 + 1), a54, k55) [0, 2, 3, 4, 5, 6] ⟨(q3 hM22 (by simp only [r7_Reach_L0, h35, h39, h44, hg51, cs4])), aM1, aM1, aM1, aM1, (Ins_A (by assumption) (by assumption) aM1)⟩
 intro h35
 have g58 := df h35
 obtain rfl : r17 = 0 := by omega
 refine Ke ?_
 have hR59 := q2 hM22 (.brk out_18) (by simp only [r7_Reach_L0, h35, cs4])
 refine KS ?_
 refine Oq Va (KS ?_)
 have hterm69 : r7_Reach_L1 g (g.Nodes.length + 2) out_18 (-1) ≠ LR.oof := (rRt hvr (by assumption))
 refine Kl (γ := Nat × List Int × Int × Option Addr × Nat) (fun (r60, out_61, size_62, a63, k64) => ⟨[(2, p6), (5, vl a63 k64 out_61), (7, vi size_62)], [S a63 k64 out_61, pv p6 [vl ga0 gk0 g.Nodes, vl ga1 gk1 g.Succ, vl ga2 gk2 g.Pred], S ga0 gk0 g.Nodes, S ga1 gk1 g.Succ, S ga2 gk2 g.Pred], r7_Reach_L1 g r60 out_61 size_62 = r7_Reach_L1 g (g.Nodes.length + 2) out_18 (-1) ∧ (-9223372036854775808 ≤ size_62 ∧ size_62 ≤ 9223372036854775807) ∧ Asc out_61 (g.Nodes.length : Int) ∧ (-1 ≤ size_62 ∧ size_62 ≤ 256), r60⟩) ((g.Nodes.length + 2), out_18, -1, a20, k21) [0, 1, 2, 3, 4] ⟨rfl, aM1, (by assumption), iv0⟩ ?_
 rintro ⟨r60, out_61, size_62, a63, k64⟩ ⟨hM65, hk66, hv67, hv68⟩
 refine JJ_nx fun _ _ hL hA => ?_; dsimp only at hL hA; subst hL hA
 refine Fb 8 0 fun _ => Fo 0 fun ho71 => Fb 32 2 fun _ => Fb 24 3 fun _ => Fb 24 4 fun _ => ?_
 rcases r60 with _ | r60
 ·exact absurd (hM65.symm.trans rfl) hterm69
 refine KS ?_
 refine Oq Vm (Oq Vm (Oq (Vlen sl22) (Oq Vneq (KS ?_))))
 refine Kc ?_ ?_
 ·intro h75
  have g76 := ne_of_bne h75
  have hol := Asc_l ‹Asc out_61 (g.Nodes.length : Int)› aM1
  refine KS ?_
  refine Oq Vm (Oq (Vlen sl22) (Oq Va (KS ?_)))
  refine Oa (As0 sl22) fun c77 => ?_
  refine Jo 0 ?_; rintro a78 k79 rfl
  refine Oq Vm ?_
  refine Jl [0] (Ent.crNil (α := Int) _) ?_
  refine Oa (Ap0 [0, 0] sl22 sl22 sz22) fun c80 => ?_
  refine Jo 0 ?_; rintro a81 k82 rfl
  refine Oq Va (KS ?_)
  refine Oq Va (KS ?_)
  refine Kl (γ := Nat × List Int × Int × Option Addr × Nat) (fun (r83, out_84, i_85, a86, k87) => ⟨[(2, p6), (5, vl a86 k87 out_84), (7, vi (out_61.length : Int)), (8, vl a81 k82 out_61), (9, vi i_85)], [S a86 k87 out_84, O a81 k82 out_61, pv p6 [vl ga0 gk0 g.Nodes, vl ga1 gk1 g.Succ, vl ga2 gk2 g.Pred], S ga0 gk0 g.Nodes, S ga1 gk1 g.Succ, S ga2 gk2 g.Pred], r7_Reach_L2 g out_61 r83 out_84 i_85 = r7_Reach_L2 g out_61 (((out_61.length : Int) - 0).toNat) out_61 0 ∧ r83 = ((out_61.length : Int) - i_85).toNat ∧ (0 : Int) ≤ i_85 ∧ i_85 ≤ (out_61.length : Int) ∧ (-9223372036854775808 ≤ i_85 ∧ i_85 ≤ 9223372036854775807) ∧ Asc out_84 (g.Nodes.length : Int), r83⟩) (((out_61.length : Int) - 0).toNat, out_61, 0, a63, k64) [1, 0, 1, 2, 3, 4] ⟨rfl, rfl, aM1, aM1, aM1, (by assumption)⟩ ?_
  rintro ⟨r83, out_84, i_85, a86, k87⟩ ⟨hM88, hr89, hi90, hi91, hk92, hv93⟩
  refine JJ_nx fun _ _ hL hA => ?_; dsimp only at hL hA; subst hL hA
  refine Fb 8 0 fun _ => Fo 0 fun ho95 => Fb 8 1 fun _ => Fo 1 fun ho97 => Fb 32 3 fun _ => Fb 24 4 fun _ => Fb 24 5 fun _ => KS ?_
  refine Oq Vm (Oq Vm (Oq (Vlen sl22) (Oq Vlss (KS ?_))))
  refine Kc ?_ ?_
  ·intro h101
   have g102 := dt h101
   have hnw := Asc_in ‹Asc out_61 (g.Nodes.length : Int)› (i := i_85) aM1
   obtain ⟨r103, rfl⟩ := scc (n := r83) aM1
   refine KS ?_
   refine JJ_peekL ((out_61.getD i_85.toNat 0) : Int).toNat 4 rfl rng fun a104 k105 => ?_
   refine Fb 8 1 fun _ => Fo 1 fun ho107 => ?_
   refine Kq [0, 1, 0, 0, 12, 28, 63, 127, 255] fmix ?_
   refine Qv [4] (Vfa fo36_1 0) (Qv [4] (VldF sh34 0) (Qv [] Vm (Qv [] Vm (Qv [3] (Vi sl22 0) ?_))))
   have hb108 := ok1 (i := i_85.toNat) ho97 rng
   refine Qv [3] (VldI sh3 0) (Qv [6] (Vi sl34 0) (Qv [0] (Vld sh22 0) (Qv [] Va ?_)))
   refine Qn ⟨by kernel_rfl, ?_⟩
   refine KS ?_
   refine Oq Va (KS ?_)
   refine Kl (γ := Nat × List Int × Int × Option Addr × Nat) (fun (r109, out_110, k_111, a112, k113) => ⟨[(2, p6), (5, vl a112 k113 out_110), (7, vi (out_61.length : Int)), (8, vl a81 k82 out_61), (9, vi i_85), (10, vl a104 k105 (g.Succ.getD ((out_61.getD i_85.toNat 0) : Int).toNat [])), (11, vi k_111)], [S a112 k113 out_110, S a104 k105 ((g.Succ.getD ((out_61.getD i_85.toNat 0) : Int).toNat []) : List Int), O a81 k82 out_61, pv p6 [vl ga0 gk0 g.Nodes, vl ga1 gk1 g.Succ, vl ga2 gk2 g.Pred], S ga0 gk0 g.Nodes, S ga1 gk1 g.Succ, S ga2 gk2 g.Pred], r7_Reach_L3 (g.Succ.getD ((out_61.getD i_85.toNat 0) : Int).toNat []) r109 out_110 k_111 = r7_Reach_L3 (g.Succ.getD ((out_61.getD i_85.toNat 0) : Int).toNat []) (((((g.Succ.getD ((out_61.getD i_85.toNat 0) : Int).toNat []).length : Int) : Int) - 0).toNat) out_84 0 ∧ r109 = ((((g.Succ.getD ((out_61.getD i_85.toNat 0) : Int).toNat []).length : Int) : Int) - k_111).toNat ∧ (0 : Int) ≤ k_111 ∧ (k_111 ≤ ((g.Succ.getD ((out_61.getD i_85.toNat 0) : Int).toNat []).length : Int) ∨ k_111 = 0) ∧ (-9223372036854775808 ≤ k_111 ∧ k_111 ≤ 9223372036854775807) ∧ Asc out_110 (g.Nodes.length : Int), r109⟩) (((((g.Succ.getD ((out_61.getD i_85.toNat 0) : Int).toNat []).length : Int) : Int) - 0).toNat, out_84, 0, a86, k87) [2, 1, 3, 3, 4, 5, 6] ⟨rfl, rfl, aM1, (.inr rfl), aM1, (by assumption)⟩ ?_
   rintro ⟨r109, out_110, k_111, a112, k113⟩ ⟨hM114, hr115, hi116, hi117, hk118, hv119⟩
   refine JJ_nx fun _ _ hL hA => ?_; dsimp only at hL hA; subst hL hA
   refine Fb 8 0 fun _ => Fo 0 fun ho121 => Fb 8 1 fun _ => Fo 1 fun ho123 => Fb 8 2 fun _ => Fo 2 fun ho125 => Fb 32 4 fun _ => Fb 24 5 fun _ => ?_
   refine Fb 24 6 fun _ => KS ?_
   refine Oq Vm (Oq Vm (Oq (Vlen sl22) (Oq Vlss (KS ?_))))
   refine Kc ?_ ?_
   ·intro h129
    have g130 := dt h129
    have hbr := Asc_in (hgv.sa _ hnw.1 hnw.2) (i := k_111) aM1
    obtain ⟨r131, rfl⟩ := scc (n := r109) aM1
    refine KS ?_
    refine Oq Vm (Oq Vm (Oq Vm (Oq (Vi sl22 1) ?_)))
    have hb132 := ok1 (i := k_111.toNat) ho123 rng
    refine Oq (VldI sh3 1) ?_
    refine letv (r7_Insert out_110 ((g.Succ.getD ((out_61.getD i_85.toNat 0) : Int).toNat []).getD k_111.toNat 0)) fun rv134 hg135 => ?_
    have hc136 := fn29 out_110 a112 k113 (((g.Succ.getD ((out_61.getD i_85.toNat 0) : Int).toNat []).getD k_111.toNat 0)) pre (Asc_lb (by assumption) aM1) rv134 hg135
    refine Oc [0] ca29 hc136 ?_
    rintro c133 he137
    refine Jo 0 ?_; rintro a138 k139 rfl
    refine Fb 8 0 fun _ => Fo 0 fun ho141 => ?_
    refine Oq Va (KS ?_)
    refine Oq Vm (Oq Vadd (Oq Va (KS ?_)))
    exact Kg (r131, rv134, (k_111 + 1), a138, k139) [0, 2, 3, 3, 4, 5, 6] ⟨(q3 hM114 (by simp only [r7_Reach_L3, h129, hg135, cs4])), aM1, aM1, aM1, aM1, (Ins_A (by assumption) (by assumption) aM1)⟩
   intro h129
   have g142 := df h129
   obtain rfl : r109 = 0 := by omega
   refine Ke ?_
   have hR143 := q2 hM114 out_110 (by simp only [r7_Reach_L3, h129, cs4])
   refine KS ?_
   refine Oq Vm (Oq Vadd (Oq Va (KS ?_)))
   exact Kg (r103, out_110, (i_85 + 1), a112, k113) [0, 2, 2, 3, 4, 5] ⟨(q3 hM88 (by simp only [r7_Reach_L2, h101, h129, hR143, cs4])), aM1, aM1, aM1, aM1, (by assumption)⟩
  intro h101
  have g144 := df h101
  obtain rfl : r83 = 0 := by omega
  refine Ke ?_
  have hR145 := q2 hM88 out_84 (by simp only [r7_Reach_L2, h101, cs4])
  refine KS ?_
  exact Kg (r60, out_84, (out_61.length : Int), a86, k87) [0, 2, 3, 4, 5] ⟨(q3 hM65 (by simp only [r7_Reach_L1, h75, h101, hR145, cs4])), aM1, (by assumption), iv1⟩
 intro h75
 have g146 := eq_of_bne_false h75
 refine Ke ?_
 have hR147 := q2 hM65 (.brk out_61) (by simp only [r7_Reach_L1, h75, cs4])
 refine KS ?_
 refine Oq Vm (Oq Va (KS ?_))
 have hq := q4 hrr out_61 (by simp only [r7_Reach, h10, h15, h35, h75, hg8, hR59, hR147, cs4]); subst hq
 exact Kr (vl a63 k64 out_61) rfl (.tmp rfl .nil) [0] trivial
theorem fn13 (g : GGraph) (ga0 : Option Addr) (gk0 : Nat) (ga1 : Option Addr) (gk1 : Nat) (ga2 : Option Addr) (gk2 : Nat) (from_ : List Int) (from_a0 : Option Addr) (from_k0 : Nat) (hfl : from_.length ≤ 1000000) (hgn : g.Nodes.length ≤ 12) (rr : Bool) (hrr : w8_reads g from_ = rr) : FT Tryz.prog 13 #[.agg #[vl ga0 gk0 g.Nodes, vl ga1 gk1 g.Succ, vl ga2 gk2 g.Pred], vl from_a0 from_k0 from_] [S ga0 gk0 g.Nodes, S ga1 gk1 g.Succ, S ga2 gk2 g.Pred, S from_a0 from_k0 from_] (fun g : Unit => True) (fun g => vb rr) (fun g => []) := by
 refine FTi Tryz.func13 fun w0 M0 F0 => Fb 32 0 fun _ => Fb 24 1 fun _ => Fb 24 2 fun _ => Fb 8 3 fun _ => Fo 3 fun ho5 => ?_
 refine KS ?_
 refine Oa (Ab [vl ga0 gk0 g.Nodes, vl ga1 gk1 g.Succ, vl ga2 gk2 g.Pred]) fun p6 => Oq Va (KS ?_)
 refine Oq (VldA sh36 0) ?_
 refine letv (gh_Reverse g) fun rv10 hg11 => ?_
 have hc12 := fn16 g ga0 gk0 ga1 gk1 ga2 gk2 rv10 hg11
 refine Oc [1, 2, 3] ca16 hc12 ?_
 rintro ⟨c7, c8, c9⟩ he13
 unfold i64ok at he13
 refine Jo 0 ?_; rintro a14 k15 rfl
 refine Fb 32 0 fun _ => ?_
 refine Jo 1 ?_; rintro a17 k18 rfl
 refine Fb 24 1 fun _ => ?_
 refine Jo 2 ?_; rintro a20 k21 rfl
 refine Fb 24 2 fun _ => ?_
 refine Oq Vm (Oq Vx (Oq Vx (Oa (Al ze36 [.slice none 0 0, .slice none 0 0, .slice none 0 0]) fun p23 => Ost (Scl [0] sh36 [vl a14 k15 rv10.1.Nodes, vl a17 k18 rv10.1.Succ, vl a20 k21 rv10.1.Pred]) (Oq Va (KS ?_)))))
 refine Oq Vm (Oq Veql (Oq (VldA sh36 4) ?_))
 refine letv (r7_ValidGraph g) fun rv24 hg25 => ?_
 have hc26 := fn30 g ga0 gk0 ga1 gk1 ga2 gk2 rv24 hg25
 refine Oc [5, 6, 7] ca30 hc26 ?_
 rintro - -
 refine Oq (Vnb un4) (Oq Vm ?_)
 refine Js 17 ?_ ?_
 ·intro h27
  refine Osk (Osk (Osk (Osk (Osk (Osk (Osk (Osk (Osk (Osk ?_)))))))))
  refine Osk (Osk (Oq Vpt (KS ?_)))
  refine Kt (KS ?_)
  refine Oq Va (KS ?_)
  have hq := q4 hrr false (by simp only [w8_reads, h27, hg11, hg25, cs4]); subst hq
  exact Kr () rfl (.tmp rfl .nil) [] trivial
 intro h27
 refine Oq Vm (Oq Vneq (Oq Vm ?_))
 refine Js 20 ?_ ?_
 ·intro h30
  have g31 := ne_of_bne h30
  refine Oq Vm (Oq Vneq (Oq Vm ?_))
  refine Js 23 ?_ ?_
  ·intro h32
   have g33 := ne_of_bne h32
   refine Osk (Osk (Osk (Osk (Oq Vpt (Oq Vpt (Oq Vpf (KS ?_)))))))
   refine Kt (KS ?_)
   refine Oq Va (KS ?_)
   have hq := q4 hrr false (by simp only [w8_reads, h27, h30, h32, hg11, hg25, cs4]); subst hq
   exact Kr () rfl (.tmp rfl .nil) [] trivial
  intro h32
  have g34 := eq_of_bne_false h32
  refine Oq (Vfa fo36_0 0) (Oq (VldF sh33 0) (Oq (Vlen sl33) (Oq Vgtr (Oq Vpf (Oq Vpt (Oq Vpf (KS ?_)))))))
  refine Kc ?_ ?_
  ·intro h35
   have g36 := dt h35
   refine KS ?_
   refine Oq Va (KS ?_)
   have hq := q4 hrr false (by simp only [w8_reads, h27, h30, h32, h35, hg11, hg25, cs4]); subst hq
   exact Kr () rfl (.tmp rfl .nil) [] trivial
  intro h35
  have g37 := df h35
  refine KS ?_
  refine Oq Vm (Oq Veql (Oq Vm ?_))
  refine Js 33 ?_ ?_
  ·intro h38
   exact absurd h38 (by first | (simp [h30]; done) | (simp only [bne, h30]; decide) | (simp only [bne, h30, Bool.not_true, Bool.not_false]; decide) | (exfalso; omega) | (intro hq; simp only [bne, hq, Bool.not_false, Bool.not_true, reduceCtorEq] at h30))
  intro h38
  have h40 := h27; rw [h38] at h40
  have g39 := ne_of_beq_false h38
  refine Osk (Osk (Osk (Osk (Osk (Osk (Osk (Osk (Osk (Osk ?_)))))))))
  refine Oq Vpf (KS ?_)
  refine Kf (KS ?_)
  refine JK_drawK [0, 1, 0, 7, 15, 31, 63, 127, 63, 511, 1023, 2047, 4095, 8191, 8191, 32767, 8191, 8191, 262143, 524287, 1048575, 2097151] fmix ?_
  refine Dv [4] (VldA sh36 0) ?_
  refine letv (gh_Valid g) fun rv41 hg42 => ?_
  refine Dx [5, 6, 7] [] [1, 2, 3, 0] (fun G => vb rv41) [fun G => SP.fact (True)] (fun G => xC [0, 1, 2] ca31 (fn31 g ga0 gk0 ga1 gk1 ga2 gk2 rv41 hg42)) (Dv [4] (VldA sh36 0) (Dx [5, 6, 7] [] [1, 2, 3, 0] (fun G => vb rv24) [fun G => SP.fact (True)] (fun G => xC [0, 1, 2] ca30 (fn30 g ga0 gk0 ga1 gk1 ga2 gk2 rv24 hg25)) (Dv [] (Veb un4) ?_)))
  refine bool_split (rv41 == rv24) ?_ ?_
  ·intro h43
   refine Db h43 [] Vm (Dv [4] (VldA sh36 0) ?_)
   refine letv (gh_Edges g) fun rv45 hg46 => ?_
   refine Dx [5, 6, 7] [] [1, 2, 3, 0] (fun G => vi rv45) [fun G => SP.fact (i64ok rv45)] (fun G => xC [0, 1, 2] ca28 (fn28 g ga0 gk0 ga1 gk1 ga2 gk2 rv45 hg46)) (Dv [4] (VldA sh36 0) ?_)
   refine letv (r7_Edges g) fun rv47 hg48 => ?_
   refine Dx [5, 6, 7] [] [1, 2, 3, 0] (fun G => vi rv47) [fun G => SP.fact (i64ok rv47)] (fun G => xC [0, 1, 2] ca32 (fn32 g ga0 gk0 ga1 gk1 ga2 gk2 rv47 hg48)) (Dv [] Veql (Dv [] Vpt ?_))
   refine bool_split (rv45 == rv47) ?_ ?_
   ·intro h49
    have g50 := eq_of_beq h49
    refine Db h49 [] Vm (Dv [4] (VldA sh36 0) (Dv [] Vm ?_))
    refine letv (gh_Reach g from_) fun rv52 hg53 => ?_
    refine Dx [5, 6, 7, 8] [] [2, 3, 4, 5, 0, 1] (fun G => (G.g 15 0)) [fun G => SP.fact ((rv52.length ≤ 65535)), fun G => sl (G.g 15 0) rv52] (fun G => xC [0, 1, 2, 3] ca17 (fn17 g ga0 gk0 ga1 gk1 ga2 gk2 from_ from_a0 from_k0 pre pre rv52 hg53)) (Dv [4] (VldA sh36 0) (Dv [] Vm ?_))
    refine letv (r7_Reach g from_) fun rv55 hg56 => Dx [5, 6, 7, 8] [] [2, 3, 4, 5, 0, 1] (fun G => (G.g 18 0)) [fun G => SP.fact (True), fun G => sl (G.g 18 0) rv55] (fun G => xC [0, 1, 2, 3] ca33 (fn33 g ga0 gk0 ga1 gk1 ga2 gk2 from_ from_a0 from_k0 rv55 hg56)) ?_
    refine letv (r7_Ints rv52 rv55) fun rv63 hg64 => ?_
    refine Dx [14, 16] [] [1, 2, 0] (fun G => vb rv63) [fun G => SP.fact (True)] (fun G => xD [1, 0] ca18 rfl rfl rfl (FT_open (γ := Unit) (I := fun g => True) (V := fun g => vb rv63) (B := fun g => []) (R := sl (G.g 18 0) rv55) sl_slice (fun aq60 kq61 eq62 => by rw [eq62]; exact FT_ent (Ent.take (is := [1, 0]) rfl) (FT_open (γ := Unit) (I := fun g => True) (V := fun g => vb rv63) (B := fun g => []) (R := sl (G.g 15 0) rv52) sl_slice (fun aq57 kq58 eq59 => by rw [eq59]; exact FT_ent (Ent.take (is := [0, 1]) rfl) (fn18 rv52 aq57 kq58 rv55 aq60 kq61 rv63 hg64)))))) (Dv [] Vpt (Dv [] Va ?_))
    refine Dn ⟨by kernel_rfl, fun G => ?_⟩
    refine Jw2 [(4, vb rv63)] [0, 1, 2, 3, 4, 5, 6, 7, 8] [SP.fact (True), SP.fact (True), SP.fact (i64ok rv45), SP.fact (i64ok rv47), SP.fact ((rv52.length ≤ 65535)), sl (G.g 15 0) rv52, SP.fact (True), sl (G.g 18 0) rv55, SP.fact (True)] ?_
    generalize G.g 15 0 = c51, G.g 18 0 = c54
    refine Jf 11 rfl ?_; rintro he65
    unfold i64ok at he65
    refine Jf 12 rfl ?_; rintro he66
    unfold i64ok at he66
    refine Jf 13 rfl ?_; rintro he67
    refine Jk [0, 0, 1, 2, 3, 4, 5, 6, 7, 13, 15] ?_
    refine Jo 9 ?_; rintro a68 k69 rfl
    refine Fb 8 9 fun _ => Fo 9 fun ho71 => ?_
    refine Jo 10 ?_; rintro a72 k73 rfl
    refine Fb 8 10 fun _ => Fo 10 fun ho75 => ?_
    have hq := q4 hrr rv63 (by simp only [w8_reads, h27, h30, h32, h35, h38, h43, h49, hg11, hg25, h40, hg42, hg46, hg48, hg53, hg56, hg64, cs4]); subst hq
    exact Kr () rfl (.tmp rfl .nil) [] trivial
   intro h49
   have g76 := ne_of_beq_false h49
   refine Db h49 [] Vm (Ds (Ds (Ds (Ds (Ds (Ds (Ds (Dv [] Vpf (Dv [] Va ?_)))))))))
   refine Dn ⟨by kernel_rfl, fun G => ?_⟩
   refine Jw2 [(4, vb false)] [0, 1, 2, 3, 4, 5, 6, 7, 8] [SP.fact (True), SP.fact (True), SP.fact (i64ok rv45), SP.fact (i64ok rv47)] ?_
   refine Jf 11 rfl ?_; rintro he77
   unfold i64ok at he77
   refine Jf 12 rfl ?_; rintro he78
   unfold i64ok at he78
   refine Jk [0, 0, 1, 2, 3, 4, 5, 6, 7] ?_
   have hq := q4 hrr false (by simp only [w8_reads, h27, h30, h32, h35, h38, h43, h49, hg11, hg25, h40, hg42, hg46, hg48, cs4]); subst hq
   exact Kr () rfl (.tmp rfl .nil) [] trivial
  intro h43
  refine Db h43 [] Vm (Ds (Ds (Ds (Ds (Ds (Dv [] Vpf (Dv [] Vm (Ds (Ds ?_)))))))))
  refine Ds (Ds (Ds (Ds (Ds (Dv [] Vpf (Dv [] Va ?_))))))
  refine Dn ⟨by kernel_rfl, fun G => ?_⟩
  refine Jw2 [(4, vb false)] [0, 1, 2, 3, 4, 5, 6, 7, 8] [SP.fact (True), SP.fact (True)] ?_
  refine Jk [0, 0, 1, 2, 3, 4, 5, 6, 7] ?_
  have hq := q4 hrr false (by simp only [w8_reads, h27, h30, h32, h35, h38, h43, hg11, hg25, h40, hg42, cs4]); subst hq
  exact Kr () rfl (.tmp rfl .nil) [] trivial
 intro h30
 have g80 := eq_of_bne_false h30
 refine Osk (Osk (Osk (Osk (Osk (Osk (Osk (Osk (Oq Vpf (Oq Vpf ?_)))))))))
 refine KS ?_
 refine Kf (KS ?_)
 refine Oq Vm (Oq Veql (Oq Vm ?_))
 refine Js 33 ?_ ?_
 ·intro h81
  have h83 := h27; rw [h81] at h83
  have g82 := eq_of_beq h81
  refine Oq (VldA sh36 0) (Oq (Vfa fo36_0 4) (Oq (VldF sh33 4) (Oq (Vfa fo36_2 4) (Oq (VldF sh34 4) (Oq (Vfa fo36_1 4) (Oq (VldF sh34 4) (Oq (Vbd st36 [vl ga0 gk0 g.Nodes, vl ga2 gk2 g.Pred, vl ga1 gk1 g.Succ]) ?_)))))))
  refine letv (r7_SameGraph rv10.1 (GGraph.mk g.Nodes g.Pred g.Succ)) fun rv84 hg85 => ?_
  have hc86 := fn25 rv10.1 a14 k15 a17 k18 a20 k21 ((GGraph.mk g.Nodes g.Pred g.Succ)) ga0 gk0 ga2 gk2 ga1 gk1 rv84 hg85
  refine Oc [1, 2, 3, 5, 7, 6] ca25 hc86 ?_
  rintro - -
  refine Oq Vnot (Oq Vpt (KS ?_))
  refine Kc ?_ ?_
  ·intro h87
   have h89 := not_true h87
   refine KS ?_
   refine Oq Va (KS ?_)
   have hq := q4 hrr false (by simp only [w8_reads, h27, h30, h81, h87, h89, hg11, hg25, h83, hg85, cs4]); subst hq
   exact Kr () rfl (.tmp rfl .nil) [] trivial
  intro h87
  have h92 := not_false h87
  refine KS ?_
  refine JK_drawK [0, 1, 0, 7, 15, 31, 63, 127, 63, 511, 1023, 2047, 4095, 8191, 8191, 32767, 8191, 8191, 262143, 524287, 1048575, 2097151] fmix ?_
  refine Dv [4] (VldA sh36 0) ?_
  refine letv (gh_Valid g) fun rv94 hg95 => ?_
  refine Dx [5, 6, 7] [] [1, 2, 3, 0] (fun G => vb rv94) [fun G => SP.fact (True)] (fun G => xC [0, 1, 2] ca31 (fn31 g ga0 gk0 ga1 gk1 ga2 gk2 rv94 hg95)) (Dv [4] (VldA sh36 0) (Dx [5, 6, 7] [] [1, 2, 3, 0] (fun G => vb rv24) [fun G => SP.fact (True)] (fun G => xC [0, 1, 2] ca30 (fn30 g ga0 gk0 ga1 gk1 ga2 gk2 rv24 hg25)) (Dv [] (Veb un4) ?_)))
  refine bool_split (rv94 == rv24) ?_ ?_
  ·intro h96
   refine Db h96 [] Vm (Dv [4] (VldA sh36 0) ?_)
   refine letv (gh_Edges g) fun rv98 hg99 => ?_
   refine Dx [5, 6, 7] [] [1, 2, 3, 0] (fun G => vi rv98) [fun G => SP.fact (i64ok rv98)] (fun G => xC [0, 1, 2] ca28 (fn28 g ga0 gk0 ga1 gk1 ga2 gk2 rv98 hg99)) (Dv [4] (VldA sh36 0) ?_)
   refine letv (r7_Edges g) fun rv100 hg101 => ?_
   refine Dx [5, 6, 7] [] [1, 2, 3, 0] (fun G => vi rv100) [fun G => SP.fact (i64ok rv100)] (fun G => xC [0, 1, 2] ca32 (fn32 g ga0 gk0 ga1 gk1 ga2 gk2 rv100 hg101)) (Dv [] Veql (Dv [] Vpt ?_))
   refine bool_split (rv98 == rv100) ?_ ?_
   ·intro h102
    have g103 := eq_of_beq h102
    refine Db h102 [] Vm (Dv [4] (VldA sh36 0) (Dv [] Vm ?_))
    refine letv (gh_Reach g from_) fun rv105 hg106 => ?_
    refine Dx [5, 6, 7, 8] [] [2, 3, 4, 5, 0, 1] (fun G => (G.g 15 0)) [fun G => SP.fact ((rv105.length ≤ 65535)), fun G => sl (G.g 15 0) rv105] (fun G => xC [0, 1, 2, 3] ca17 (fn17 g ga0 gk0 ga1 gk1 ga2 gk2 from_ from_a0 from_k0 pre pre rv105 hg106)) (Dv [4] (VldA sh36 0) (Dv [] Vm ?_))
    refine letv (r7_Reach g from_) fun rv108 hg109 => Dx [5, 6, 7, 8] [] [2, 3, 4, 5, 0, 1] (fun G => (G.g 18 0)) [fun G => SP.fact (True), fun G => sl (G.g 18 0) rv108] (fun G => xC [0, 1, 2, 3] ca33 (fn33 g ga0 gk0 ga1 gk1 ga2 gk2 from_ from_a0 from_k0 rv108 hg109)) ?_
    refine letv (r7_Ints rv105 rv108) fun rv116 hg117 => ?_
    refine Dx [14, 16] [] [1, 2, 0] (fun G => vb rv116) [fun G => SP.fact (True)] (fun G => xD [1, 0] ca18 rfl rfl rfl (FT_open (γ := Unit) (I := fun g => True) (V := fun g => vb rv116) (B := fun g => []) (R := sl (G.g 18 0) rv108) sl_slice (fun aq113 kq114 eq115 => by rw [eq115]; exact FT_ent (Ent.take (is := [1, 0]) rfl) (FT_open (γ := Unit) (I := fun g => True) (V := fun g => vb rv116) (B := fun g => []) (R := sl (G.g 15 0) rv105) sl_slice (fun aq110 kq111 eq112 => by rw [eq112]; exact FT_ent (Ent.take (is := [0, 1]) rfl) (fn18 rv105 aq110 kq111 rv108 aq113 kq114 rv116 hg117)))))) (Dv [] Vpt (Dv [] Va ?_))
    refine Dn ⟨by kernel_rfl, fun G => ?_⟩
    refine Jw2 [(4, vb rv116)] [0, 1, 2, 3, 4, 5, 6, 7, 8] [SP.fact (True), SP.fact (True), SP.fact (i64ok rv98), SP.fact (i64ok rv100), SP.fact ((rv105.length ≤ 65535)), sl (G.g 15 0) rv105, SP.fact (True), sl (G.g 18 0) rv108, SP.fact (True)] ?_
    generalize G.g 15 0 = c104, G.g 18 0 = c107
    refine Jf 11 rfl ?_; rintro he118
    unfold i64ok at he118
    refine Jf 12 rfl ?_; rintro he119
    unfold i64ok at he119
    refine Jf 13 rfl ?_; rintro he120
    refine Jk [0, 0, 1, 2, 3, 4, 5, 6, 7, 13, 15] ?_
    refine Jo 9 ?_; rintro a121 k122 rfl
    refine Fb 8 9 fun _ => Fo 9 fun ho124 => ?_
    refine Jo 10 ?_; rintro a125 k126 rfl
    refine Fb 8 10 fun _ => Fo 10 fun ho128 => ?_
    have hq := q4 hrr rv116 (by simp only [w8_reads, h27, h30, h81, h87, h92, h96, h102, hg11, hg25, h83, hg85, hg95, hg99, hg101, hg106, hg109, hg117, cs4]); subst hq
    exact Kr () rfl (.tmp rfl .nil) [] trivial
   intro h102
   have g129 := ne_of_beq_false h102
   refine Db h102 [] Vm (Ds (Ds (Ds (Ds (Ds (Ds (Ds (Dv [] Vpf (Dv [] Va ?_)))))))))
   refine Dn ⟨by kernel_rfl, fun G => ?_⟩
   refine Jw2 [(4, vb false)] [0, 1, 2, 3, 4, 5, 6, 7, 8] [SP.fact (True), SP.fact (True), SP.fact (i64ok rv98), SP.fact (i64ok rv100)] ?_
   refine Jf 11 rfl ?_; rintro he130
   unfold i64ok at he130
   refine Jf 12 rfl ?_; rintro he131
   unfold i64ok at he131
   refine Jk [0, 0, 1, 2, 3, 4, 5, 6, 7] ?_
   have hq := q4 hrr false (by simp only [w8_reads, h27, h30, h81, h87, h92, h96, h102, hg11, hg25, h83, hg85, hg95, hg99, hg101, cs4]); subst hq
   exact Kr () rfl (.tmp rfl .nil) [] trivial
  intro h96
  refine Db h96 [] Vm (Ds (Ds (Ds (Ds (Ds (Dv [] Vpf (Dv [] Vm (Ds (Ds ?_)))))))))
  refine Ds (Ds (Ds (Ds (Ds (Dv [] Vpf (Dv [] Va ?_))))))
  refine Dn ⟨by kernel_rfl, fun G => ?_⟩
  refine Jw2 [(4, vb false)] [0, 1, 2, 3, 4, 5, 6, 7, 8] [SP.fact (True), SP.fact (True)] ?_
  refine Jk [0, 0, 1, 2, 3, 4, 5, 6, 7] ?_
  have hq := q4 hrr false (by simp only [w8_reads, h27, h30, h81, h87, h92, h96, hg11, hg25, h83, hg85, hg95, cs4]); subst hq
  exact Kr () rfl (.tmp rfl .nil) [] trivial
 intro h81
 exact absurd h81 (by first | (simp [h30]; done) | (simp only [bne, h30]; decide) | (simp only [bne, h30, Bool.not_true, Bool.not_false]; decide) | (exfalso; omega) | (intro hq; simp only [bne, hq, Bool.not_false, Bool.not_true, reduceCtorEq] at h30))
theorem fn15 (tP : Value) (ta : Option Addr) (tk : Nat) (tT : List Int) (tI : Int) (g : GGraph) (ga0 : Option Addr) (gk0 : Nat) (ga1 : Option Addr) (gk1 : Nat) (ga2 : Option Addr) (gk2 : Nat) (htI : 0 ≤ tI ∧ tI ≤ (tT.length : Int)) (hgl : (1 ≤ g.Nodes.length ∧ g.Nodes.length ≤ 1000 ∧ g.Succ.length = g.Nodes.length ∧ g.Pred.length = g.Nodes.length)) (hgS : (∀ l ∈ g.Succ, (l.length : Int) ≤ 3000)) (hgP : (∀ l ∈ g.Pred, (l.length : Int) ≤ 3000)) (hg12 : g.Nodes.length ≤ 12) (rr : GGraph × Int) (hrr : tp_SpoilGraph tT tI g = rr) : FT Tryz.prog 15 #[tP, .agg #[vl ga0 gk0 g.Nodes, vl ga1 gk1 g.Succ, vl ga2 gk2 g.Pred]] [Cl tP [vl ta tk tT, vi tI], S ta tk tT, S ga0 gk0 g.Nodes, S ga1 gk1 g.Succ, S ga2 gk2 g.Pred] (fun g : Value × Value × Value => (0 ≤ rr.2 ∧ rr.2 ≤ (tT.length : Int)) ∧ (rr.1.Nodes.length ≤ 12)) (fun g => .agg #[g.1, g.2.1, g.2.2]) (fun g => [sl g.1 rr.1.Nodes, sl g.2.1 rr.1.Succ, sl g.2.2 rr.1.Pred, Cl tP [vl ta tk tT, vi rr.2]]) := by
 refine FTi Tryz.func15 fun w0 M0 F0 => Fb 8 1 fun _ => Fo 1 fun ho2 => Fb 32 2 fun _ => Fb 24 3 fun _ => Fb 24 4 fun _ => ?_
 refine KS ?_
 refine Oa (Ab [vl ga0 gk0 g.Nodes, vl ga1 gk1 g.Succ, vl ga2 gk2 g.Pred]) fun p6 => Oa (Al ze36 [.slice none 0 0, .slice none 0 0, .slice none 0 0]) fun p7 => KS ?_
 refine JK_drawK [0, 0, 2, 7, 0, 0, 32, 127, 0, 0, 512, 2047, 4095, 0, 16383] fmix ?_
 refine Dx [] [] [0] (fun G => (G.g 0 0)) [fun G => Cr (G.g 0 0) 0 []] (fun G => xA (As0 sl33)) (Dv [1] (Vfa fo36_0 0) (Dv [1] (VldF sh33 0) (Dx [4, 7] [7] [1, 0] (fun G => (G.g 3 0)) [fun G => os (G.g 3 0) g.Nodes] (fun G => xp [1] rfl (Ent.crNil (α := GNode) _) (xA (Ap0 [0, 0] sl33 sl33 sz33))) (Dx [] [] [0] (fun G => (G.g 4 0)) [fun G => Cr (G.g 4 0) 0 []] (fun G => xA (As0 sl34)) (Dv [1] (Vfa fo36_1 0) (Dv [1] (VldF sh34 0) (Dx [5, 9] [9] [1, 0] (fun G => (G.g 7 0)) [fun G => os (G.g 7 0) g.Succ] (fun G => xp [1] rfl (Ent.crNil (α := List Int) _) (xA (Ap0 [0, 0] sl34 sl34 sz34))) (Dx [] [] [0] (fun G => (G.g 8 0)) [fun G => Cr (G.g 8 0) 0 []] (fun G => xA (As0 sl34)) (Dv [1] (Vfa fo36_2 0) ?_)))))))))
 refine Dv [1] (VldF sh34 0) (Dx [6, 11] [11] [1, 0] (fun G => (G.g 11 0)) [fun G => os (G.g 11 0) g.Pred] (fun G => xp [1] rfl (Ent.crNil (α := List Int) _) (xA (Ap0 [0, 0] sl34 sl34 sz34))) ?_)
 refine Dx [8, 10, 12] [] [0, 0, 0] (fun G => .agg #[(G.g 3 0), (G.g 7 0), (G.g 11 0)]) [] (fun G => xV (v := .agg #[(G.g 3 0), (G.g 7 0), (G.g 11 0)]) (Vo 0 rfl (isO_os _ _) fun aq14 kq15 eq16 => (by rw [eq16]; exact Vo 1 rfl (isO_os _ _) fun aq17 kq18 eq19 => (by rw [eq19]; exact Vo 2 rfl (isO_os _ _) fun aq20 kq21 eq22 => (by rw [eq22]; exact Vbd st36 [.slice aq14 ((g.Nodes : List GNode).length) kq15, .slice aq17 ((g.Succ : List (List Int)).length) kq18, .slice aq20 ((g.Pred : List (List Int)).length) kq21]))))) (Dx [] [] [0] (fun G => (G.g 13 0)) [fun G => Cl (G.g 13 0) [.slice none 0 0, .slice none 0 0, .slice none 0 0]] (fun G => xA (Al ze36 [.slice none 0 0, .slice none 0 0, .slice none 0 0])) (Dx0 [8, 10, 12, 13] [13] [1, 1, 1, 0] [fun G => Cl (G.g 13 0) [(G.g 3 0), (G.g 7 0), (G.g 11 0)]] (fun G => x1 0 rfl os_one fun ho24 => (x1 1 rfl os_one fun ho25 => (x1 2 rfl os_one fun ho26 => (xS (Scl [3] sh36 [(G.g 3 0), (G.g 7 0), (G.g 11 0)] (v := .agg #[(G.g 3 0), (G.g 7 0), (G.g 11 0)]) (h1 := show [(G.g 3 0), (G.g 7 0), (G.g 11 0)].all (·.oneCell') = true from (by simp only [List.all_cons, List.all_nil, ho24, ho25, ho26, Bool.and_true, Bool.true_and] <;> rfl))))))) ?_))
 refine Dn ⟨by kernel_rfl, fun G => ?_⟩
 refine Jw2 [(0, tP), (4, p7), (5, (G.g 13 0))] [0, 1, 2, 3, 4, 5, 6] [os (G.g 3 0) g.Nodes, os (G.g 7 0) g.Succ, os (G.g 11 0) g.Pred, Cl (G.g 13 0) [(G.g 3 0), (G.g 7 0), (G.g 11 0)]] ?_
 generalize G.g 3 0 = c9, G.g 7 0 = c11, G.g 11 0 = c13, G.g 13 0 = p23
 refine Jo 7 ?_; rintro a27 k28 rfl
 refine Jo 8 ?_; rintro a29 k30 rfl
 refine Jo 9 ?_; rintro a31 k32 rfl
 refine KS ?_
 refine Oq Vm (Oq (Vfa fo36_0 10) (Oq (VldF sh33 10) (Oq (Vlen sl33) ?_)))
 refine letv (tp_Next tT tI (g.Nodes.length : Int)) fun rv33 hg34 => ?_
 have hPl_rv33 := lenS_at hgP aM1 rv33.1.toNat
 have hc35 := fn14 tP ta tk tT tI ((g.Nodes.length : Int)) pre pre rv33 hg34
 refine Oc [2, 2] ca14 hc35 ?_
 rintro - ⟨he36, he37, he38⟩
 unfold i64ok at he36
 refine Oq Va (KS ?_)
 refine Oq Vm ?_
 refine letv (tp_Next tT rv33.2 4) fun rv39 hg40 => ?_
 have hPl_rv39 := lenS_at hgP aM1 rv39.1.toNat
 have hc41 := fn14 tP ta tk tT rv33.2 4 pre pre rv39 hg40
 refine Oc [0, 2] ca14 hc41 ?_
 rintro - ⟨he42, he43, he44⟩
 unfold i64ok at he42
 refine KS ?_
 refine Oq Veql (Oq Va (KS ?_))
 refine Kc ?_ ?_
 ·intro h45
  have g46 := eq_of_beq h45
  refine Jp 10 fun hp47 => ?_
  refine JJ_peekOL rv33.1.toNat 9 rfl rng fun a48 k49 => ?_
  refine Fb 8 1 fun _ => Fo 1 fun ho51 => ?_
  refine JK_drawK [0, 1, 0, 0, 8, 0, 56, 120, 0, 0, 512, 1536, 3584, 7936, 16376, 32767, 65535] fmix ?_
  refine Dv [2] (Vfa fo36_1 0) (Dv [12] (VldF sh34 0) (Dv [] Vm (Dv [2] (Vfa fo36_1 0) (Dv [12] (VldF sh34 0) (Dv [] Vm (Dv [0] (Vi sl34 0) (Dv [0] (Vld sh22 0) (Dv [] Vm (Dv [2] (Vfa fo36_0 0) ?_)))))))))
  refine Dv [12] (VldF sh33 0) (Dv [] (Vlen sl33) (Dv [] Vadd ?_))
  refine letv (tp_Next tT rv39.2 ((g.Nodes.length : Int) + 1)) fun rv52 hg53 => ?_
  have hPl_rv52 := lenS_at hgP aM1 rv52.1.toNat
  refine Dx [3, 6] [3] [2, 0, 1] (fun G => vi rv52.1) [fun G => SP.fact (i64ok rv52.1 ∧ (0 ≤ rv52.2 ∧ rv52.2 ≤ (tT.length : Int)) ∧ (0 ≤ rv52.1 ∧ (rv52.1 < ((g.Nodes.length : Int) + 1) ∨ rv52.1 = 0))), fun G => Cl tP [vl ta tk tT, vi rv52.2]] (fun G => xC [0, 0] ca14 (fn14 tP ta tk tT rv39.2 (((g.Nodes.length : Int) + 1)) pre pre rv52 hg53)) ?_
  refine letv (r7_Insert (g.Succ.getD rv33.1.toNat []) rv52.1) fun rv55 hg56 => ?_
  refine Dx [1, 13] [] [2, 3, 0, 1] (fun G => (G.g 14 0)) [fun G => SP.fact ((rv55.length ≤ (g.Succ.getD rv33.1.toNat []).length + 1)), fun G => sl (G.g 14 0) rv55] (fun G => by refine xf 1 rfl ?_; rintro ⟨he57, he58, he59⟩; unfold i64ok at he57; exact xC [0] ca29 (fn29 ((g.Succ.getD rv33.1.toNat [])) a48 k49 rv52.1 pre (lenS_1 hgS aM1) rv55 hg56)) ?_
  refine Dx [0, 15] [] [0, 0] (fun G => (eptr 1 (vl a29 k30 g.Succ) rv33.1.toNat)) [] (fun G => by refine xf 1 rfl ?_; rintro he60; exact xV (Vi sl34 0)) ?_
  refine Dx0 [0, 15, 16] [0] [2, 1, 0] [fun G => os (vl a29 k30 g.Succ) (g.Succ.set rv33.1.toNat rv55)] (fun G => by refine xf 1 rfl ?_; rintro he61; exact xp [0] rfl (Ent.oread _ _ _ _) (x1 2 rfl sl_one fun ho62 => (xS (OpS.frame [0, 1] rfl (OpS.storeOs' (Rs := [sl (G.g 14 0) rv55]) rv55 [(G.g 14 0)] rfl rfl rfl sh22 (cells_of_one ho62) rfl (fun h => ⟨_, rfl, sepAll_get (i := 0) rfl h⟩) rng))))) ?_
  refine Dn ⟨by kernel_rfl, fun G => ?_⟩
  refine Jw2 [(4, p7), (5, p23)] [1, 2, 4, 5, 6, 7, 8, 9, 10, 11, 12] [SP.fact (i64ok rv52.1 ∧ (0 ≤ rv52.2 ∧ rv52.2 ≤ (tT.length : Int)) ∧ (0 ≤ rv52.1 ∧ (rv52.1 < ((g.Nodes.length : Int) + 1) ∨ rv52.1 = 0))), Cl tP [vl ta tk tT, vi rv52.2], SP.fact ((rv55.length ≤ (g.Succ.getD rv33.1.toNat []).length + 1)), sl (G.g 14 0) rv55, os (vl a29 k30 g.Succ) (g.Succ.set rv33.1.toNat rv55)] ?_
  generalize G.g 14 0 = c54
  refine Jf 11 rfl ?_; rintro ⟨he63, he64, he65⟩
  unfold i64ok at he63
  refine Jf 13 rfl ?_; rintro he66
  refine Jk [0, 2, 2, 3, 4, 5, 6, 7, 7, 7, 8, 9, 10] ?_
  refine Jo 11 ?_; rintro a67 k68 rfl
  refine Fb 8 11 fun _ => Fo 11 fun ho70 => KS ?_
  refine Oq (VldA sh36 9) (Ost (Scl [1] sh36 [vl a27 k28 g.Nodes, vl a29 k30 g.Succ, vl a31 k32 g.Pred]) (KS ?_))
  refine Jl [7] (Ent.freeze _ _) ?_
  refine Jl [12] (Ent.freeze _ _) ?_
  refine Jl [9] (Ent.freeze _ _) ?_
  have hq := q4 hrr ((GGraph.mk g.Nodes (g.Succ.set rv33.1.toNat rv55) g.Pred), rv52.2) (by simp only [tp_SpoilGraph, h45, hg34, hg40, hg53, hg56, cs4]); subst hq
  exact Kr (vl a27 k28 g.Nodes, vl a29 k30 g.Succ, vl a31 k32 g.Pred) rfl (.cellN 3 rfl sh36 rfl (reads_Cl _ _) rfl .nil) [2, 1, 0, 11] ⟨en, (Nat.le_trans (SpG_len hrr) hg12)⟩
 intro h45
 have g71 := ne_of_beq_false h45
 refine KS ?_
 refine Oq Veql (Oq Va (KS ?_))
 refine Kc ?_ ?_
 ·intro h72
  have g73 := eq_of_beq h72
  refine Jp 10 fun hp74 => ?_
  refine JJ_peekOL rv33.1.toNat 10 rfl rng fun a75 k76 => ?_
  refine Fb 8 1 fun _ => Fo 1 fun ho78 => ?_
  refine JK_drawK [0, 1, 0, 0, 0, 16, 0, 112, 240, 504, 0, 0, 2048, 6144, 16376, 32760, 65528, 131064, 262143, 524287] fmix ?_
  refine Dv [2] (Vfa fo36_2 0) (Dv [12] (VldF sh34 0) (Dv [] Vm (Dx [] [] [0] (fun G => (G.g 3 0)) [fun G => Cr (G.g 3 0) 0 []] (fun G => xA (As0 sl22)) (Dv [2] (Vfa fo36_2 0) (Dv [12] (VldF sh34 0) (Dv [] Vm (Dv [0] (Vi sl34 0) (Dv [0] (Vld sh22 0) (Dx [1, 13] [13] [1, 0] (fun G => (G.g 9 0)) [fun G => os (G.g 9 0) ((g.Pred.getD rv33.1.toNat []) : List Int)] (fun G => xp [1] rfl (Ent.crNil (α := Int) _) (xA (Ap0 [0, 0] sl22 sl22 sz22))) ?_)))))))))
  refine Dv [] Vm (Dv [2] (Vfa fo36_0 0) (Dv [12] (VldF sh33 0) (Dv [] (Vlen sl33) ?_)))
  refine letv (tp_Next tT rv39.2 (g.Nodes.length : Int)) fun rv81 hg82 => ?_
  have hPl_rv81 := lenS_at hgP aM1 rv81.1.toNat
  refine Dx [3, 6] [3] [2, 0, 1] (fun G => vi rv81.1) [fun G => SP.fact (i64ok rv81.1 ∧ (0 ≤ rv81.2 ∧ rv81.2 ≤ (tT.length : Int)) ∧ (0 ≤ rv81.1 ∧ (rv81.1 < (g.Nodes.length : Int) ∨ rv81.1 = 0))), fun G => Cl tP [vl ta tk tT, vi rv81.2]] (fun G => xC [0, 0] ca14 (fn14 tP ta tk tT rv39.2 ((g.Nodes.length : Int)) pre pre rv81 hg82)) ?_
  refine Dx [15] [] [0] (fun G => vi (rv81.1 - 1)) [] (fun G => by refine xf 0 rfl ?_; rintro ⟨he83, he84, he85⟩; unfold i64ok at he83; exact xV (Vsub)) (Dx [] [] [0] (fun G => (G.g 16 0)) [fun G => Cr (G.g 16 0) 1 [vi (rv81.1 - 1)]] (fun G => xA (AsV sl22 sz22 [vi (rv81.1 - 1)] [vi (rv81.1 - 1)])) ?_)
  have hn88 := la ((g.Pred.getD rv33.1.toNat []) : List Int) ([(rv81.1 - 1)] : List Int)
  refine Dx [14, 15, 17] [14, 17] [1, 0] (fun G => (G.g 17 0)) [fun G => os (G.g 17 0) (((g.Pred.getD rv33.1.toNat []) ++ [(rv81.1 - 1)]) : List Int)] (fun G => by refine xf 1 rfl ?_; rintro ⟨he89, he90, he91⟩; unfold i64ok at he89; exact xp [2] rfl (Ent.crInt _ [(rv81.1 - 1)] _ _ rfl rfl (by intro x hx; rw [List.mem_singleton] at hx; subst hx; unfold i64ok; omega) aB1) (xA (ApO [1, 0] sl22 sl22 sz22))) (Dv [0] (Vi sl34 0) ?_)
  refine Dx0 [0, 15, 18] [0, 18] [3, 1, 0] [fun G => sl (G.g 17 0) (((g.Pred.getD rv33.1.toNat []) ++ [(rv81.1 - 1)]) : List Int), fun G => os (vl a31 k32 g.Pred) ((g.Pred.set rv33.1.toNat ((g.Pred.getD rv33.1.toNat []) ++ [(rv81.1 - 1)])) : List (List Int))] (fun G => by refine xf 1 rfl ?_; rintro ⟨he92, he93, he94⟩; unfold i64ok at he92; exact xp [0] rfl (Ent.oread _ _ _ _) (xp [2] rfl (Ent.freeze _ _) (x1 0 rfl sl_one fun ho95 => (xS (OpS.frame [1, 0] rfl (OpS.storeOs' (Rs := [sl (G.g 17 0) (((g.Pred.getD rv33.1.toNat []) ++ [(rv81.1 - 1)]) : List Int)]) ((g.Pred.getD rv33.1.toNat []) ++ [(rv81.1 - 1)]) [(G.g 17 0)] rfl rfl rfl sh22 (cells_of_one ho95) rfl (fun h => ⟨_, rfl, sepAll_get (i := 0) rfl h⟩) rng)))))) ?_
  refine Dn ⟨by kernel_rfl, fun G => ?_⟩
  refine Jw2 [(4, p7), (5, p23)] [1, 2, 4, 5, 6, 7, 8, 9, 10, 11, 12] [SP.fact (i64ok rv81.1 ∧ (0 ≤ rv81.2 ∧ rv81.2 ≤ (tT.length : Int)) ∧ (0 ≤ rv81.1 ∧ (rv81.1 < (g.Nodes.length : Int) ∨ rv81.1 = 0))), Cl tP [vl ta tk tT, vi rv81.2], sl (G.g 17 0) (((g.Pred.getD rv33.1.toNat []) ++ [(rv81.1 - 1)]) : List Int), os (vl a31 k32 g.Pred) ((g.Pred.set rv33.1.toNat ((g.Pred.getD rv33.1.toNat []) ++ [(rv81.1 - 1)])) : List (List Int))] ?_
  generalize G.g 17 0 = c87
  refine Jf 11 rfl ?_; rintro ⟨he96, he97, he98⟩
  unfold i64ok at he96
  refine Jk [0, 2, 2, 3, 4, 5, 6, 7, 7, 7, 8, 8, 9] ?_
  refine Jo 11 ?_; rintro a99 k100 rfl
  refine Fb 8 11 fun _ => Fo 11 fun ho102 => KS ?_
  refine Oq (VldA sh36 9) (Ost (Scl [1] sh36 [vl a27 k28 g.Nodes, vl a29 k30 g.Succ, vl a31 k32 g.Pred]) (KS ?_))
  refine Jl [7] (Ent.freeze _ _) ?_
  refine Jl [8] (Ent.freeze _ _) ?_
  refine Jl [12] (Ent.freeze _ _) ?_
  have hq := q4 hrr ((GGraph.mk g.Nodes g.Succ (g.Pred.set rv33.1.toNat ((g.Pred.getD rv33.1.toNat []) ++ [(rv81.1 - 1)]))), rv81.2) (by simp only [tp_SpoilGraph, h45, h72, hg34, hg40, hg82, cs4]); subst hq
  exact Kr (vl a27 k28 g.Nodes, vl a29 k30 g.Succ, vl a31 k32 g.Pred) rfl (.cellN 3 rfl sh36 rfl (reads_Cl _ _) rfl .nil) [2, 1, 0, 11] ⟨en, (Nat.le_trans (SpG_len hrr) hg12)⟩
 intro h72
 have g103 := ne_of_beq_false h72
 refine KS ?_
 refine Oq Veql (Oq Va (KS ?_))
 refine Kc ?_ ?_
 ·intro h104
  have g105 := eq_of_beq h104
  refine KS ?_
  refine Oq (Vfa fo36_0 10) (Oq (VldF sh33 10) (Oa (AslO [7] sl33 ((1 : Int).toNat) g.Nodes.length) fun c106 => ?_))
  refine Jo 0 ?_; rintro a107 k108 rfl
  refine Fb 32 0 fun _ => ?_
  have hn110 : ((g.Nodes.take g.Nodes.length).drop ((1 : Int).toNat)).length = g.Nodes.length - ((1 : Int).toNat) := len_slice rng rng
  refine Oq (Vfa fo36_0 10) (Ost (SclF [10] sh33 [vl a107 k108 ((g.Nodes.take g.Nodes.length).drop ((1 : Int).toNat)), vl a29 k30 g.Succ, vl a31 k32 g.Pred]) (KS ?_))
  refine Oq (VldA sh36 0) (Ost (Scl [3] sh36 [vl a107 k108 ((g.Nodes.take g.Nodes.length).drop ((1 : Int).toNat)), vl a29 k30 g.Succ, vl a31 k32 g.Pred]) (KS ?_))
  refine Jl [2] (Ent.freeze _ _) ?_
  refine Jl [9] (Ent.freeze _ _) ?_
  refine Jl [10] (Ent.freeze _ _) ?_
  have hq := q4 hrr ((GGraph.mk ((g.Nodes.take g.Nodes.length).drop ((1 : Int).toNat)) g.Succ g.Pred), rv39.2) (by simp only [tp_SpoilGraph, h45, h72, h104, hg34, hg40, cs4]); subst hq
  exact Kr (vl a107 k108 ((g.Nodes.take g.Nodes.length).drop ((1 : Int).toNat)), vl a29 k30 g.Succ, vl a31 k32 g.Pred) rfl (.cellN 3 rfl sh36 rfl (reads_Cl _ _) rfl .nil) [2, 1, 0, 5] ⟨en, (Nat.le_trans (SpG_len hrr) hg12)⟩
 intro h104
 have g111 := ne_of_beq_false h104
 refine KS ?_
 refine Oq (Vfa fo36_1 10) (Oq (VldF sh34 10) (Oq Vm (Oq (Vi sl34 8) (Ost (So (Rs := []) [8] sh22 ([] : List Int) (fun _ => ⟨_, rfl, slrd_nil⟩)) (KS ?_)))))
 refine Oq (VldA sh36 10) (Ost (Scl [2] sh36 [vl a27 k28 g.Nodes, vl a29 k30 g.Succ, vl a31 k32 g.Pred]) (KS ?_))
 refine Jl [8] (Ent.freeze _ _) ?_
 refine Jl [2] (Ent.freeze _ _) ?_
 refine Jl [9] (Ent.freeze _ _) ?_
 have hq := q4 hrr ((GGraph.mk g.Nodes (g.Succ.set rv33.1.toNat ([] : List Int)) g.Pred), rv39.2) (by simp only [tp_SpoilGraph, h45, h72, h104, hg34, hg40, cs4]); subst hq
 exact Kr (vl a27 k28 g.Nodes, vl a29 k30 g.Succ, vl a31 k32 g.Pred) rfl (.cellN 3 rfl sh36 rfl (reads_Cl _ _) rfl .nil) [2, 1, 0, 4] ⟨en, (Nat.le_trans (SpG_len hrr) hg12)⟩
theorem fn6 (l : List Int) (la0 : Option Addr) (lk0 : Nat) (rr : Unit) (hrr : g_New l = rr) : FT Tryz.prog 6 #[vl la0 lk0 l] [S la0 lk0 l] (fun g : Value => True) (fun g => g) (fun g => [Cl g [vl la0 lk0 l, vi 0]]) := by
 refine FTi Tryz.func6 fun w0 M0 F0 => Fb 8 0 fun _ => Fo 0 fun ho2 => ?_
 refine KS ?_
 refine Oq Va (KS ?_)
 refine Oq Vm (Oq (Vbd st50 [vl la0 lk0 l, vi 0]) (Oa (AbO [vl la0 lk0 l, vi 0]) fun p3 => Oq Va (KS ?_)))
 have hq := q4 hrr () (by simp only [g_New, cs4]); subst hq
 exact Kr p3 rfl (.tmp rfl .nil) [0] trivial
theorem fn4 (t : List Int) (ta0 : Option Addr) (tk0 : Nat) (g : GGraph) (ga0 : Option Addr) (gk0 : Nat) (ga1 : Option Addr) (gk1 : Nat) (ga2 : Option Addr) (gk2 : Nat) (from_ : List Int) (from_a0 : Option Addr) (from_k0 : Nat) (kwLA : Option Addr) (kwLK : Nat) (rr : Bool) (hrr : w8_GraphReads t g from_ = rr) : FT Tryz.prog 4 #[vl ta0 tk0 t, .agg #[vl ga0 gk0 g.Nodes, vl ga1 gk1 g.Succ, vl ga2 gk2 g.Pred], vl from_a0 from_k0 from_] [S ta0 tk0 t, S ga0 gk0 g.Nodes, S ga1 gk1 g.Succ, S ga2 gk2 g.Pred, S from_a0 from_k0 from_, pv (gp 0) [vl kwLA kwLK kwL], S kwLA kwLK kwL] (fun g : Unit => True) (fun g => vb rr) (fun g => []) := by
 refine FTi Tryz.func4 fun w0 M0 F0 => Fb 8 0 fun _ => Fo 0 fun ho2 => Fb 32 1 fun _ => Fb 24 2 fun _ => Fb 24 3 fun _ => Fb 8 4 fun _ => Fo 4 fun ho7 => Fb 16 6 fun _ => ?_
 refine FoS 6 fun ho9 => ?_
 refine KS ?_
 refine Oa (Ab [vl ga0 gk0 g.Nodes, vl ga1 gk1 g.Succ, vl ga2 gk2 g.Pred]) fun p10 => Oq Va (KS ?_)
 refine Oq Vm ?_
 refine letv (g_New t) fun rv12 hg13 => ?_
 have hc14 := fn6 t ta0 tk0 rv12 hg13
 refine Oc [1] ca6 hc14 ?_
 rintro c11 -
 refine Oq Va (KS ?_)
 refine Oq Va (KS ?_)
 refine Kl (γ := Nat × Int × Int) (fun (r15, k1_16, i_17) => ⟨[(2, vl from_a0 from_k0 from_), (4, p10), (7, c11), (8, vi i_17)], [Cl c11 [vl ta0 tk0 t, vi k1_16], pv p10 [vl ga0 gk0 g.Nodes, vl ga1 gk1 g.Succ, vl ga2 gk2 g.Pred], S ta0 tk0 t, S ga0 gk0 g.Nodes, S ga1 gk1 g.Succ, S ga2 gk2 g.Pred, S from_a0 from_k0 from_, pv (gp 0) [vl kwLA kwLK kwL], S kwLA kwLK kwL], w8_GraphReads_L0 t from_ r15 k1_16 i_17 = w8_GraphReads_L0 t from_ 5 0 0 ∧ r15 = ((5 : Int) - i_17).toNat ∧ (0 : Int) ≤ i_17 ∧ i_17 ≤ 5 ∧ (-9223372036854775808 ≤ k1_16 ∧ k1_16 ≤ 9223372036854775807) ∧ (0 ≤ k1_16 ∧ k1_16 ≤ (t.length : Int)) ∧ (-9223372036854775808 ≤ i_17 ∧ i_17 ≤ 9223372036854775807), r15⟩) (5, 0, 0) [0, 0, 1, 2, 3, 4, 5, 6, 7] ⟨rfl, rfl, aM1, aM1, aM1, aM1, aM1⟩ ?_
 rintro ⟨r15, k1_16, i_17⟩ ⟨hM18, hr19, hi20, hi21, hk22, ht23, hk24⟩
 refine JJ_nx fun _ _ hL hA => ?_; dsimp only at hL hA; subst hL hA
 refine Fb 8 2 fun _ => Fo 2 fun ho26 => Fb 32 3 fun _ => Fb 24 4 fun _ => Fb 24 5 fun _ => Fb 8 6 fun _ => Fo 6 fun ho31 => Fb 16 8 fun _ => ?_
 refine FoS 8 fun ho33 => ?_
 refine KS ?_
 refine Oq Vm (Oq Vlss (KS ?_))
 refine Kc ?_ ?_
 ·intro h34
  have g35 := dt h34
  obtain ⟨r36, rfl⟩ := scc (n := r15) aM1
  refine KS ?_
  refine Oq Vm ?_
  refine letv (tp_Graph t k1_16 8) fun rv40 hg41 => ?_
  have hc42 := fn12 c11 ta0 tk0 t k1_16 8 pre pre pre rv40 hg41
  refine Oc [0, 1] ca12 hc42 ?_
  rintro ⟨c37, c38, c39⟩ ⟨he43, he44, he45, he46, he47⟩
  refine Jo 0 ?_; rintro a48 k49 rfl
  refine Fb 32 0 fun _ => ?_
  refine Jo 1 ?_; rintro a51 k52 rfl
  refine Fb 24 1 fun _ => ?_
  refine Jo 2 ?_; rintro a54 k55 rfl
  refine Fb 24 2 fun _ => ?_
  refine Oa (Al ze36 [.slice none 0 0, .slice none 0 0, .slice none 0 0]) fun p57 => Ost (Scl [0] sh36 [vl a48 k49 rv40.1.Nodes, vl a51 k52 rv40.1.Succ, vl a54 k55 rv40.1.Pred]) (KS ?_)
  refine Oq (Vfa fo36_0 0) (Oq (VldF sh33 0) (Oq (Vlen sl33) (Oq Va (KS ?_))))
  change JK _ _ _ [Cl p57 [vl a48 k49 rv40.1.Nodes, vl a51 k52 rv40.1.Succ, vl a54 k55 rv40.1.Pred], S a48 k49 rv40.1.Nodes, S a51 k52 rv40.1.Succ, S a54 k55 rv40.1.Pred, Cl c11 [vl ta0 tk0 t, vi rv40.2], pv p10 [vl ga0 gk0 g.Nodes, vl ga1 gk1 g.Succ, vl ga2 gk2 g.Pred], S ta0 tk0 t, S ga0 gk0 g.Nodes, S ga1 gk1 g.Succ, S ga2 gk2 g.Pred, S from_a0 from_k0 from_, pv (gp 0) [vl kwLA kwLK kwL], S kwLA kwLK kwL]
  refine JK_drawK [0, 0, 0, 6, 14, 31, 63, 127, 255, 255, 255, 1791, 255, 255, 16127, 32511, 65535, 131071, 262143, 524287, 1048575, 1048575, 4194303, 1048575, 16777215, 33554431, 67108863, 134217727, 268435455, 268435455, 268435455, 1342177279, 4026531839, 8321499135, 16911433727, 34359738367, 68719476735, 137438953471, 274877906943, 549755813887, 1099511627775, 2199023255551, 4398046511103, 8796093022207, 8796093022207, 35184372088831, 70368744177663, 140737488355327, 281474976710655] fmix ?_
  refine Dv [0] (VldA sh36 0) (Dv [] Vm (Dv [] Vm ?_))
  refine letv (tp_Next t rv40.2 (rv40.1.Nodes.length : Int)) fun rv58 hg59 => ?_
  refine Dx [4, 6] [4] [2, 0, 1] (fun G => vi rv58.1) [fun G => SP.fact (i64ok rv58.1 ∧ (0 ≤ rv58.2 ∧ rv58.2 ≤ (t.length : Int)) ∧ (0 ≤ rv58.1 ∧ (rv58.1 < (rv40.1.Nodes.length : Int) ∨ rv58.1 = 0))), fun G => Cl c11 [vl ta0 tk0 t, vi rv58.2]] (fun G => xC [0, 0] ca14 (fn14 c11 ta0 tk0 t rv40.2 ((rv40.1.Nodes.length : Int)) pre pre rv58 hg59)) (Dx [] [] [0] (fun G => (G.g 4 0)) [fun G => Cr (G.g 4 0) 1 [vi rv58.1]] (fun G => xA (AsV sl22 sz22 [vi rv58.1] [vi rv58.1])) ?_)
  refine letv (w8_reads rv40.1 [rv58.1]) fun rv64 hg65 => ?_
  refine Dx [1, 2, 3, 13, 15] [15] [2, 3, 4, 5, 1, 0] (fun G => vb rv64) [fun G => sl (G.g 4 0) ([rv58.1] : List Int), fun G => SP.fact (True)] (fun G => by refine xf 3 rfl ?_; rintro ⟨he66, he67, he68⟩; unfold i64ok at he66; exact xp [4] rfl (Ent.crInt _ [rv58.1] _ _ rfl rfl (by intro x hx; rw [List.mem_singleton] at hx; subst hx; unfold i64ok; omega) aB1) (xp [0] rfl (Ent.freeze _ _) (xD [0, 1, 2, 3] ca13 rfl rfl rfl (FT_open (γ := Unit) (I := fun g => True) (V := fun g => vb rv64) (B := fun g => []) (R := sl (G.g 4 0) ([rv58.1] : List Int)) sl_slice (fun aq61 kq62 eq63 => by rw [eq63]; exact FT_ent (Ent.take (is := [1, 2, 3, 0]) rfl) (fn13 rv40.1 a48 k49 a51 k52 a54 k55 ([rv58.1]) aq61 kq62 pre pre rv64 hg65)))))) (Dv [] Vnot ?_)
  refine bool_split (!rv64) ?_ ?_
  ·intro h69
   have h71 := not_true h69
   exact absurd h69 (by rw [← ‹w8_reads _ _ = rv64›, reads_true]; decide)
  intro h69
  have h74 := not_false h69
  refine Db h69 [] Vm (Dv [0] (VldA sh36 0) (Dv [] Vm (Dv [] Vm ?_)))
  refine letv (tp_Next t rv58.2 (rv40.1.Nodes.length : Int)) fun rv76 hg77 => ?_
  refine Dx [6, 13, 14] [14] [2, 3, 0, 1] (fun G => vi rv76.1) [fun G => SP.fact (i64ok rv76.1 ∧ (0 ≤ rv76.2 ∧ rv76.2 ≤ (t.length : Int)) ∧ (0 ≤ rv76.1 ∧ (rv76.1 < (rv40.1.Nodes.length : Int) ∨ rv76.1 = 0))), fun G => Cl c11 [vl ta0 tk0 t, vi rv76.2]] (fun G => by refine xf 1 rfl ?_; rintro ⟨he78, he79, he80⟩; unfold i64ok at he78; exact xC [2, 0] ca14 (fn14 c11 ta0 tk0 t rv58.2 ((rv40.1.Nodes.length : Int)) pre pre rv76 hg77)) (Dv [] Vm (Dv [] Vm ?_))
  refine letv (tp_Next t rv76.2 (rv40.1.Nodes.length : Int)) fun rv81 hg82 => ?_
  refine Dx [6, 13, 18, 19] [19] [2, 3, 4, 0, 1] (fun G => vi rv81.1) [fun G => SP.fact (i64ok rv81.1 ∧ (0 ≤ rv81.2 ∧ rv81.2 ≤ (t.length : Int)) ∧ (0 ≤ rv81.1 ∧ (rv81.1 < (rv40.1.Nodes.length : Int) ∨ rv81.1 = 0))), fun G => Cl c11 [vl ta0 tk0 t, vi rv81.2]] (fun G => by refine xf 1 rfl ?_; rintro ⟨he83, he84, he85⟩; unfold i64ok at he83; refine xf 2 rfl ?_; rintro ⟨he86, he87, he88⟩; unfold i64ok at he86; exact xC [3, 0] ca14 (fn14 c11 ta0 tk0 t rv76.2 ((rv40.1.Nodes.length : Int)) pre pre rv81 hg82)) (Dx [] [] [0] (fun G => (G.g 15 0)) [fun G => Cr (G.g 15 0) 2 [vi rv76.1, vi rv81.1]] (fun G => xA (AsV sl22 sz22 [vi rv76.1, vi rv81.1] [vi rv76.1, vi rv81.1])) ?_)
  refine letv (w8_reads rv40.1 [rv76.1, rv81.1]) fun rv93 hg94 => ?_
  refine Dx [1, 2, 3, 13, 18, 20, 22] [22] [2, 3, 4, 5, 6, 7, 1, 0] (fun G => vb rv93) [fun G => sl (G.g 15 0) ([rv76.1, rv81.1] : List Int), fun G => SP.fact (True)] (fun G => by refine xf 3 rfl ?_; rintro ⟨he95, he96, he97⟩; unfold i64ok at he95; refine xf 4 rfl ?_; rintro ⟨he98, he99, he100⟩; unfold i64ok at he98; refine xf 5 rfl ?_; rintro ⟨he101, he102, he103⟩; unfold i64ok at he101; exact xp [6] rfl (Ent.crInt _ [rv76.1, rv81.1] _ _ rfl rfl (by intro x hx; simp only [List.mem_cons, List.not_mem_nil, or_false] at hx; rcases hx with rfl | rfl <;> (unfold i64ok; omega)) aB1) (xp [0] rfl (Ent.freeze _ _) (xD [0, 1, 2, 3] ca13 rfl rfl rfl (FT_open (γ := Unit) (I := fun g => True) (V := fun g => vb rv93) (B := fun g => []) (R := sl (G.g 15 0) ([rv76.1, rv81.1] : List Int)) sl_slice (fun aq90 kq91 eq92 => by rw [eq92]; exact FT_ent (Ent.take (is := [1, 2, 3, 0]) rfl) (fn13 rv40.1 a48 k49 a51 k52 a54 k55 ([rv76.1, rv81.1]) aq90 kq91 pre pre rv93 hg94)))))) (Dv [] Vnot (Dv [] Vpf ?_))
  refine bool_split (!rv93) ?_ ?_
  ·intro h104
   have h106 := not_true h104
   exact absurd h104 (by rw [← ‹w8_reads _ _ = rv93›, reads_true]; decide)
  intro h104
  have h109 := not_false h104
  refine Db h104 [] Vm (Dv [] Vm (Dv [0] (VldA sh36 0) ?_))
  refine letv (tp_SpoilGraph t rv81.2 rv40.1) fun rv114 hg115 => ?_
  refine Dx [1, 2, 3, 6, 13, 18, 20, 21] [21] [5, 6, 7, 8, 9, 10, 11, 0, 1, 2, 3, 4] (fun G => .agg #[(G.g 22 0), (G.g 22 1), (G.g 22 2)]) [fun G => SP.fact ((0 ≤ rv114.2 ∧ rv114.2 ≤ (t.length : Int)) ∧ (rv114.1.Nodes.length ≤ 12)), fun G => sl (G.g 22 0) rv114.1.Nodes, fun G => sl (G.g 22 1) rv114.1.Succ, fun G => sl (G.g 22 2) rv114.1.Pred, fun G => Cl c11 [vl ta0 tk0 t, vi rv114.2]] (fun G => by refine xf 4 rfl ?_; rintro ⟨he116, he117, he118⟩; unfold i64ok at he116; refine xf 5 rfl ?_; rintro ⟨he119, he120, he121⟩; unfold i64ok at he119; refine xf 6 rfl ?_; rintro ⟨he122, he123, he124⟩; unfold i64ok at he122; exact xC [7, 3, 0, 1, 2] ca15 (fn15 c11 ta0 tk0 t rv81.2 rv40.1 a48 k49 a51 k52 a54 k55 pre pre pre pre pre rv114 hg115)) (Dx [] [] [0] (fun G => (G.g 23 0)) [fun G => Cr (G.g 23 0) 1 [vi 0]] (fun G => xA (AsV sl22 sz22 [vi 0] [vi 0])) ?_)
  refine letv (w8_reads rv114.1 [0]) fun rv138 hg139 => ?_
  refine Dx [25, 26, 27, 28, 30] [30] [2, 3, 4, 5, 1, 0] (fun G => vb rv138) [fun G => sl (G.g 23 0) ([0] : List Int), fun G => SP.fact (True)] (fun G => by refine xf 0 rfl ?_; rintro ⟨he140, he141⟩; exact xp [4] rfl (Ent.crInt _ [0] _ _ rfl rfl (by intro x hx; rw [List.mem_singleton] at hx; subst hx; unfold i64ok; omega) aB1) (xp [0] rfl (Ent.freeze _ _) (xD [0, 4, 3, 2] ca13 rfl rfl rfl (FT_open (γ := Unit) (I := fun g => True) (V := fun g => vb rv138) (B := fun g => []) (R := sl (G.g 23 0) ([0] : List Int)) sl_slice (fun aq135 kq136 eq137 => by rw [eq137]; exact FT_ent (Ent.take (is := [1, 2, 3, 0]) rfl) (FT_open (γ := Unit) (I := fun g => True) (V := fun g => vb rv138) (B := fun g => []) (R := sl (G.g 22 2) rv114.1.Pred) sl_slice (fun aq132 kq133 eq134 => by rw [eq134]; exact FT_ent (Ent.take (is := [1, 2, 0, 3]) rfl) (FT_open (γ := Unit) (I := fun g => True) (V := fun g => vb rv138) (B := fun g => []) (R := sl (G.g 22 1) rv114.1.Succ) sl_slice (fun aq129 kq130 eq131 => by rw [eq131]; exact FT_ent (Ent.take (is := [1, 0, 2, 3]) rfl) (FT_open (γ := Unit) (I := fun g => True) (V := fun g => vb rv138) (B := fun g => []) (R := sl (G.g 22 0) rv114.1.Nodes) sl_slice (fun aq126 kq127 eq128 => by rw [eq128]; exact FT_ent (Ent.take (is := [0, 1, 2, 3]) rfl) (fn13 rv114.1 aq126 kq127 aq129 kq130 aq132 kq133 ([0]) aq135 kq136 pre pre rv138 hg139)))))))))))) (Dv [] Vnot (Dv [] Vpf ?_))
  refine bool_split (!rv138) ?_ ?_
  ·intro h142
   have h144 := not_true h142
   exact absurd h142 (by rw [← ‹w8_reads _ _ = rv138›, reads_true]; decide)
  intro h142
  have h147 := not_false h142
  change JD2 _ _ _ _ _ _ [⟨none, fun _ => Cl p57 [vl a48 k49 rv40.1.Nodes, vl a51 k52 rv40.1.Succ, vl a54 k55 rv40.1.Pred]⟩, ⟨none, fun _ => S a48 k49 rv40.1.Nodes⟩, ⟨none, fun _ => S a51 k52 rv40.1.Succ⟩, ⟨none, fun _ => S a54 k55 rv40.1.Pred⟩, ⟨none, fun _ => Cl c11 [vl ta0 tk0 t, vi rv40.2]⟩, ⟨none, fun _ => pv p10 [vl ga0 gk0 g.Nodes, vl ga1 gk1 g.Succ, vl ga2 gk2 g.Pred]⟩, ⟨none, fun _ => S ta0 tk0 t⟩, ⟨none, fun _ => S ga0 gk0 g.Nodes⟩, ⟨none, fun _ => S ga1 gk1 g.Succ⟩, ⟨none, fun _ => S ga2 gk2 g.Pred⟩, ⟨none, fun _ => S from_a0 from_k0 from_⟩, ⟨none, fun _ => pv (gp 0) [vl kwLA kwLK kwL]⟩, ⟨none, fun _ => S kwLA kwLK kwL⟩, ⟨some 3, fun G => SP.fact (i64ok rv58.1 ∧ (0 ≤ rv58.2 ∧ rv58.2 ≤ (t.length : Int)) ∧ (0 ≤ rv58.1 ∧ (rv58.1 < (rv40.1.Nodes.length : Int) ∨ rv58.1 = 0)))⟩, ⟨some 3, fun G => Cl c11 [vl ta0 tk0 t, vi rv58.2]⟩, ⟨some 4, fun G => Cr (G.g 4 0) 1 [vi rv58.1]⟩, ⟨some 5, fun G => sl (G.g 4 0) ([rv58.1] : List Int)⟩, ⟨some 5, fun G => SP.fact (True)⟩, ⟨some 11, fun G => SP.fact (i64ok rv76.1 ∧ (0 ≤ rv76.2 ∧ rv76.2 ≤ (t.length : Int)) ∧ (0 ≤ rv76.1 ∧ (rv76.1 < (rv40.1.Nodes.length : Int) ∨ rv76.1 = 0)))⟩, ⟨some 11, fun G => Cl c11 [vl ta0 tk0 t, vi rv76.2]⟩, ⟨some 14, fun G => SP.fact (i64ok rv81.1 ∧ (0 ≤ rv81.2 ∧ rv81.2 ≤ (t.length : Int)) ∧ (0 ≤ rv81.1 ∧ (rv81.1 < (rv40.1.Nodes.length : Int) ∨ rv81.1 = 0)))⟩, ⟨some 14, fun G => Cl c11 [vl ta0 tk0 t, vi rv81.2]⟩, ⟨some 15, fun G => Cr (G.g 15 0) 2 [vi rv76.1, vi rv81.1]⟩, ⟨some 16, fun G => sl (G.g 15 0) ([rv76.1, rv81.1] : List Int)⟩, ⟨some 16, fun G => SP.fact (True)⟩, ⟨some 22, fun G => SP.fact ((0 ≤ rv114.2 ∧ rv114.2 ≤ (t.length : Int)) ∧ (rv114.1.Nodes.length ≤ 12))⟩, ⟨some 22, fun G => sl (G.g 22 0) rv114.1.Nodes⟩, ⟨some 22, fun G => sl (G.g 22 1) rv114.1.Succ⟩, ⟨some 22, fun G => sl (G.g 22 2) rv114.1.Pred⟩, ⟨some 22, fun G => Cl c11 [vl ta0 tk0 t, vi rv114.2]⟩, ⟨some 23, fun G => Cr (G.g 23 0) 1 [vi 0]⟩, ⟨some 24, fun G => sl (G.g 23 0) ([0] : List Int)⟩, ⟨some 24, fun G => SP.fact (True)⟩] _
  refine Db h142 [] Vm (Dv [0] (VldA sh36 0) (Dv [] Vm (Dv [] Vm ?_)))
  refine Dx [13, 18, 20] [] [0, 1, 2] (fun G => vi ((rv40.1.Nodes.length : Int) + 2)) [] (fun G => by refine xf 0 rfl ?_; rintro ⟨he149, he150, he151⟩; unfold i64ok at he149; refine xf 1 rfl ?_; rintro ⟨he152, he153, he154⟩; unfold i64ok at he152; refine xf 2 rfl ?_; rintro ⟨he155, he156, he157⟩; unfold i64ok at he155; exact xV (Vadd)) ?_
  refine letv (tp_Next t rv114.2 ((rv40.1.Nodes.length : Int) + 2)) fun rv158 hg159 => ?_
  refine Dx [6, 13, 18, 20, 25, 29] [29] [2, 3, 4, 5, 6, 0, 1] (fun G => vi rv158.1) [fun G => SP.fact (i64ok rv158.1 ∧ (0 ≤ rv158.2 ∧ rv158.2 ≤ (t.length : Int)) ∧ (0 ≤ rv158.1 ∧ (rv158.1 < ((rv40.1.Nodes.length : Int) + 2) ∨ rv158.1 = 0))), fun G => Cl c11 [vl ta0 tk0 t, vi rv158.2]] (fun G => by refine xf 1 rfl ?_; rintro ⟨he160, he161, he162⟩; unfold i64ok at he160; refine xf 2 rfl ?_; rintro ⟨he163, he164, he165⟩; unfold i64ok at he163; refine xf 3 rfl ?_; rintro ⟨he166, he167, he168⟩; unfold i64ok at he166; refine xf 4 rfl ?_; rintro ⟨he169, he170⟩; exact xC [5, 0] ca14 (fn14 c11 ta0 tk0 t rv114.2 (((rv40.1.Nodes.length : Int) + 2)) pre pre rv158 hg159)) ?_
  refine Dx [13, 18, 20, 33] [] [0, 1, 2, 3] (fun G => vi (rv158.1 - 1)) [] (fun G => by refine xf 0 rfl ?_; rintro ⟨he171, he172, he173⟩; unfold i64ok at he171; refine xf 1 rfl ?_; rintro ⟨he174, he175, he176⟩; unfold i64ok at he174; refine xf 2 rfl ?_; rintro ⟨he177, he178, he179⟩; unfold i64ok at he177; refine xf 3 rfl ?_; rintro ⟨he180, he181, he182⟩; unfold i64ok at he180; exact xV (Vsub)) (Dx [] [] [0] (fun G => (G.g 34 0)) [fun G => Cr (G.g 34 0) 1 [vi (rv158.1 - 1)]] (fun G => xA (AsV sl22 sz22 [vi (rv158.1 - 1)] [vi (rv158.1 - 1)])) ?_)
  refine letv (w8_reads rv40.1 [(rv158.1 - 1)]) fun rv187 hg188 => ?_
  refine Dx [1, 2, 3, 13, 18, 20, 33, 35] [35] [2, 3, 4, 5, 6, 7, 8, 1, 0] (fun G => vb rv187) [fun G => sl (G.g 34 0) ([(rv158.1 - 1)] : List Int), fun G => SP.fact (True)] (fun G => by refine xf 3 rfl ?_; rintro ⟨he189, he190, he191⟩; unfold i64ok at he189; refine xf 4 rfl ?_; rintro ⟨he192, he193, he194⟩; unfold i64ok at he192; refine xf 5 rfl ?_; rintro ⟨he195, he196, he197⟩; unfold i64ok at he195; refine xf 6 rfl ?_; rintro ⟨he198, he199, he200⟩; unfold i64ok at he198; exact xp [7] rfl (Ent.crInt _ [(rv158.1 - 1)] _ _ rfl rfl (by intro x hx; rw [List.mem_singleton] at hx; subst hx; unfold i64ok; omega) aB1) (xp [0] rfl (Ent.freeze _ _) (xD [0, 1, 2, 3] ca13 rfl rfl rfl (FT_open (γ := Unit) (I := fun g => True) (V := fun g => vb rv187) (B := fun g => []) (R := sl (G.g 34 0) ([(rv158.1 - 1)] : List Int)) sl_slice (fun aq184 kq185 eq186 => by rw [eq186]; exact FT_ent (Ent.take (is := [1, 2, 3, 0]) rfl) (fn13 rv40.1 a48 k49 a51 k52 a54 k55 ([(rv158.1 - 1)]) aq184 kq185 pre pre rv187 hg188)))))) (Dv [] Vnot (Dv [] Vpf ?_))
  refine bool_split (!rv187) ?_ ?_
  ·intro h201
   have h203 := not_true h201
   exact absurd h201 (by rw [← ‹w8_reads _ _ = rv187›, reads_true]; decide)
  intro h201
  have h206 := not_false h201
  change JD2 _ _ _ _ _ _ [⟨none, fun _ => Cl p57 [vl a48 k49 rv40.1.Nodes, vl a51 k52 rv40.1.Succ, vl a54 k55 rv40.1.Pred]⟩, ⟨none, fun _ => S a48 k49 rv40.1.Nodes⟩, ⟨none, fun _ => S a51 k52 rv40.1.Succ⟩, ⟨none, fun _ => S a54 k55 rv40.1.Pred⟩, ⟨none, fun _ => Cl c11 [vl ta0 tk0 t, vi rv40.2]⟩, ⟨none, fun _ => pv p10 [vl ga0 gk0 g.Nodes, vl ga1 gk1 g.Succ, vl ga2 gk2 g.Pred]⟩, ⟨none, fun _ => S ta0 tk0 t⟩, ⟨none, fun _ => S ga0 gk0 g.Nodes⟩, ⟨none, fun _ => S ga1 gk1 g.Succ⟩, ⟨none, fun _ => S ga2 gk2 g.Pred⟩, ⟨none, fun _ => S from_a0 from_k0 from_⟩, ⟨none, fun _ => pv (gp 0) [vl kwLA kwLK kwL]⟩, ⟨none, fun _ => S kwLA kwLK kwL⟩, ⟨some 3, fun G => SP.fact (i64ok rv58.1 ∧ (0 ≤ rv58.2 ∧ rv58.2 ≤ (t.length : Int)) ∧ (0 ≤ rv58.1 ∧ (rv58.1 < (rv40.1.Nodes.length : Int) ∨ rv58.1 = 0)))⟩, ⟨some 3, fun G => Cl c11 [vl ta0 tk0 t, vi rv58.2]⟩, ⟨some 4, fun G => Cr (G.g 4 0) 1 [vi rv58.1]⟩, ⟨some 5, fun G => sl (G.g 4 0) ([rv58.1] : List Int)⟩, ⟨some 5, fun G => SP.fact (True)⟩, ⟨some 11, fun G => SP.fact (i64ok rv76.1 ∧ (0 ≤ rv76.2 ∧ rv76.2 ≤ (t.length : Int)) ∧ (0 ≤ rv76.1 ∧ (rv76.1 < (rv40.1.Nodes.length : Int) ∨ rv76.1 = 0)))⟩, ⟨some 11, fun G => Cl c11 [vl ta0 tk0 t, vi rv76.2]⟩, ⟨some 14, fun G => SP.fact (i64ok rv81.1 ∧ (0 ≤ rv81.2 ∧ rv81.2 ≤ (t.length : Int)) ∧ (0 ≤ rv81.1 ∧ (rv81.1 < (rv40.1.Nodes.length : Int) ∨ rv81.1 = 0)))⟩, ⟨some 14, fun G => Cl c11 [vl ta0 tk0 t, vi rv81.2]⟩, ⟨some 15, fun G => Cr (G.g 15 0) 2 [vi rv76.1, vi rv81.1]⟩, ⟨some 16, fun G => sl (G.g 15 0) ([rv76.1, rv81.1] : List Int)⟩, ⟨some 16, fun G => SP.fact (True)⟩, ⟨some 22, fun G => SP.fact ((0 ≤ rv114.2 ∧ rv114.2 ≤ (t.length : Int)) ∧ (rv114.1.Nodes.length ≤ 12))⟩, ⟨some 22, fun G => sl (G.g 22 0) rv114.1.Nodes⟩, ⟨some 22, fun G => sl (G.g 22 1) rv114.1.Succ⟩, ⟨some 22, fun G => sl (G.g 22 2) rv114.1.Pred⟩, ⟨some 22, fun G => Cl c11 [vl ta0 tk0 t, vi rv114.2]⟩, ⟨some 23, fun G => Cr (G.g 23 0) 1 [vi 0]⟩, ⟨some 24, fun G => sl (G.g 23 0) ([0] : List Int)⟩, ⟨some 24, fun G => SP.fact (True)⟩, ⟨some 32, fun G => SP.fact (i64ok rv158.1 ∧ (0 ≤ rv158.2 ∧ rv158.2 ≤ (t.length : Int)) ∧ (0 ≤ rv158.1 ∧ (rv158.1 < ((rv40.1.Nodes.length : Int) + 2) ∨ rv158.1 = 0)))⟩, ⟨some 32, fun G => Cl c11 [vl ta0 tk0 t, vi rv158.2]⟩, ⟨some 34, fun G => Cr (G.g 34 0) 1 [vi (rv158.1 - 1)]⟩, ⟨some 35, fun G => sl (G.g 34 0) ([(rv158.1 - 1)] : List Int)⟩, ⟨some 35, fun G => SP.fact (True)⟩] _
  refine Db h201 [] Vm (Dv [] Vm (Dv [] (Vlen sl22) (Dv [] Vlss ?_)))
  refine bool_split (decide ((from_.length : Int) < 20)) ?_ ?_
  ·intro h208
   have g209 := dt h208
   refine Db h208 [] Vm (Dv [0] (VldA sh36 0) (Dv [] Vm ?_))
   refine letv (w8_reads rv40.1 from_) fun rv210 hg211 => ?_
   refine Dx [1, 2, 3, 10, 13, 18, 20, 33] [] [1, 2, 3, 4, 5, 6, 7, 8, 0] (fun G => vb rv210) [fun G => SP.fact (True)] (fun G => by refine xf 4 rfl ?_; rintro ⟨he212, he213, he214⟩; unfold i64ok at he212; refine xf 5 rfl ?_; rintro ⟨he215, he216, he217⟩; unfold i64ok at he215; refine xf 6 rfl ?_; rintro ⟨he218, he219, he220⟩; unfold i64ok at he218; refine xf 7 rfl ?_; rintro ⟨he221, he222, he223⟩; unfold i64ok at he221; exact xC [0, 1, 2, 3] ca13 (fn13 rv40.1 a48 k49 a51 k52 a54 k55 from_ from_a0 from_k0 pre pre rv210 hg211)) (Dv [] Vnot (Dv [] Vpt (Dv [] Vpf ?_)))
   refine Dn ⟨by kernel_rfl, fun G => ?_⟩
   refine Jw2 [(2, vl from_a0 from_k0 from_), (4, p10), (7, c11), (8, vi i_17), (70, vb (!rv210))] [0, 1, 2, 3, 5, 6, 7, 8, 9, 10, 11, 12] [SP.fact (i64ok rv58.1 ∧ (0 ≤ rv58.2 ∧ rv58.2 ≤ (t.length : Int)) ∧ (0 ≤ rv58.1 ∧ (rv58.1 < (rv40.1.Nodes.length : Int) ∨ rv58.1 = 0))), sl (G.g 4 0) ([rv58.1] : List Int), SP.fact (True), SP.fact (i64ok rv76.1 ∧ (0 ≤ rv76.2 ∧ rv76.2 ≤ (t.length : Int)) ∧ (0 ≤ rv76.1 ∧ (rv76.1 < (rv40.1.Nodes.length : Int) ∨ rv76.1 = 0))), SP.fact (i64ok rv81.1 ∧ (0 ≤ rv81.2 ∧ rv81.2 ≤ (t.length : Int)) ∧ (0 ≤ rv81.1 ∧ (rv81.1 < (rv40.1.Nodes.length : Int) ∨ rv81.1 = 0))), sl (G.g 15 0) ([rv76.1, rv81.1] : List Int), SP.fact (True), SP.fact ((0 ≤ rv114.2 ∧ rv114.2 ≤ (t.length : Int)) ∧ (rv114.1.Nodes.length ≤ 12)), sl (G.g 22 0) rv114.1.Nodes, sl (G.g 22 1) rv114.1.Succ, sl (G.g 22 2) rv114.1.Pred, sl (G.g 23 0) ([0] : List Int), SP.fact (True), SP.fact (i64ok rv158.1 ∧ (0 ≤ rv158.2 ∧ rv158.2 ≤ (t.length : Int)) ∧ (0 ≤ rv158.1 ∧ (rv158.1 < ((rv40.1.Nodes.length : Int) + 2) ∨ rv158.1 = 0))), Cl c11 [vl ta0 tk0 t, vi rv158.2], sl (G.g 34 0) ([(rv158.1 - 1)] : List Int), SP.fact (True), SP.fact (True)] ?_
   generalize G.g 4 0 = c60, G.g 15 0 = c89, G.g 22 0 = c111, G.g 22 1 = c112, G.g 22 2 = c113, G.g 23 0 = c125, G.g 34 0 = c183
   refine Jf 12 rfl ?_; rintro ⟨he224, he225, he226⟩
   unfold i64ok at he224
   refine Jf 15 rfl ?_; rintro ⟨he227, he228, he229⟩
   unfold i64ok at he227
   refine Jf 16 rfl ?_; rintro ⟨he230, he231, he232⟩
   unfold i64ok at he230
   refine Jf 19 rfl ?_; rintro ⟨he233, he234⟩
   refine Jf 25 rfl ?_; rintro ⟨he235, he236, he237⟩
   unfold i64ok at he235
   refine Jk [0, 0, 1, 2, 3, 4, 5, 6, 7, 8, 9, 10, 12, 16, 19, 20, 21, 22, 25, 25] ?_
   refine Jo 12 ?_; rintro a238 k239 rfl
   refine Fb 8 12 fun _ => Fo 12 fun ho241 => ?_
   refine Jo 13 ?_; rintro a242 k243 rfl
   refine Fb 8 13 fun _ => Fo 13 fun ho245 => ?_
   refine Jo 14 ?_; rintro a246 k247 rfl
   refine Fb 32 14 fun _ => ?_
   refine Jo 15 ?_; rintro a249 k250 rfl
   refine Fb 24 15 fun _ => ?_
   refine Jo 16 ?_; rintro a252 k253 rfl
   refine Fb 24 16 fun _ => ?_
   refine Jo 17 ?_; rintro a255 k256 rfl
   refine Fb 8 17 fun _ => Fo 17 fun ho258 => ?_
   refine Jo 19 ?_; rintro a259 k260 rfl
   refine Fb 8 19 fun _ => Fo 19 fun ho262 => ?_
   refine Kc ?_ ?_
   ·intro h263
    have h265 := not_true h263
    exact absurd h263 (by rw [← ‹w8_reads _ _ = rv210›, reads_true]; decide)
   intro h263
   have h268 := not_false h263
   refine KS ?_
   refine Oq Vm (Oq Vadd (Oq Va (KS ?_)))
   exact Kg (r36, rv158.2, (i_17 + 1)) [18, 4, 5, 6, 7, 8, 9, 10, 11] ⟨(q3 hM18 (by simp only [w8_GraphReads_L0, h34, h69, h74, h104, h109, h142, h147, h201, h206, h208, h263, h268, hg41, hg59, hg65, hg77, hg82, hg94, hg115, hg139, hg159, hg188, hg211, cs4])), aM1, aM1, aM1, aM1, aM1, aM1⟩
  intro h208
  have g270 := df h208
  change JD2 _ _ _ _ _ _ [⟨none, fun _ => Cl p57 [vl a48 k49 rv40.1.Nodes, vl a51 k52 rv40.1.Succ, vl a54 k55 rv40.1.Pred]⟩, ⟨none, fun _ => S a48 k49 rv40.1.Nodes⟩, ⟨none, fun _ => S a51 k52 rv40.1.Succ⟩, ⟨none, fun _ => S a54 k55 rv40.1.Pred⟩, ⟨none, fun _ => Cl c11 [vl ta0 tk0 t, vi rv40.2]⟩, ⟨none, fun _ => pv p10 [vl ga0 gk0 g.Nodes, vl ga1 gk1 g.Succ, vl ga2 gk2 g.Pred]⟩, ⟨none, fun _ => S ta0 tk0 t⟩, ⟨none, fun _ => S ga0 gk0 g.Nodes⟩, ⟨none, fun _ => S ga1 gk1 g.Succ⟩, ⟨none, fun _ => S ga2 gk2 g.Pred⟩, ⟨none, fun _ => S from_a0 from_k0 from_⟩, ⟨none, fun _ => pv (gp 0) [vl kwLA kwLK kwL]⟩, ⟨none, fun _ => S kwLA kwLK kwL⟩, ⟨some 3, fun G => SP.fact (i64ok rv58.1 ∧ (0 ≤ rv58.2 ∧ rv58.2 ≤ (t.length : Int)) ∧ (0 ≤ rv58.1 ∧ (rv58.1 < (rv40.1.Nodes.length : Int) ∨ rv58.1 = 0)))⟩, ⟨some 3, fun G => Cl c11 [vl ta0 tk0 t, vi rv58.2]⟩, ⟨some 4, fun G => Cr (G.g 4 0) 1 [vi rv58.1]⟩, ⟨some 5, fun G => sl (G.g 4 0) ([rv58.1] : List Int)⟩, ⟨some 5, fun G => SP.fact (True)⟩, ⟨some 11, fun G => SP.fact (i64ok rv76.1 ∧ (0 ≤ rv76.2 ∧ rv76.2 ≤ (t.length : Int)) ∧ (0 ≤ rv76.1 ∧ (rv76.1 < (rv40.1.Nodes.length : Int) ∨ rv76.1 = 0)))⟩, ⟨some 11, fun G => Cl c11 [vl ta0 tk0 t, vi rv76.2]⟩, ⟨some 14, fun G => SP.fact (i64ok rv81.1 ∧ (0 ≤ rv81.2 ∧ rv81.2 ≤ (t.length : Int)) ∧ (0 ≤ rv81.1 ∧ (rv81.1 < (rv40.1.Nodes.length : Int) ∨ rv81.1 = 0)))⟩, ⟨some 14, fun G => Cl c11 [vl ta0 tk0 t, vi rv81.2]⟩, ⟨some 15, fun G => Cr (G.g 15 0) 2 [vi rv76.1, vi rv81.1]⟩, ⟨some 16, fun G => sl (G.g 15 0) ([rv76.1, rv81.1] : List Int)⟩, ⟨some 16, fun G => SP.fact (True)⟩, ⟨some 22, fun G => SP.fact ((0 ≤ rv114.2 ∧ rv114.2 ≤ (t.length : Int)) ∧ (rv114.1.Nodes.length ≤ 12))⟩, ⟨some 22, fun G => sl (G.g 22 0) rv114.1.Nodes⟩, ⟨some 22, fun G => sl (G.g 22 1) rv114.1.Succ⟩, ⟨some 22, fun G => sl (G.g 22 2) rv114.1.Pred⟩, ⟨some 22, fun G => Cl c11 [vl ta0 tk0 t, vi rv114.2]⟩, ⟨some 23, fun G => Cr (G.g 23 0) 1 [vi 0]⟩, ⟨some 24, fun G => sl (G.g 23 0) ([0] : List Int)⟩, ⟨some 24, fun G => SP.fact (True)⟩, ⟨some 32, fun G => SP.fact (i64ok rv158.1 ∧ (0 ≤ rv158.2 ∧ rv158.2 ≤ (t.length : Int)) ∧ (0 ≤ rv158.1 ∧ (rv158.1 < ((rv40.1.Nodes.length : Int) + 2) ∨ rv158.1 = 0)))⟩, ⟨some 32, fun G => Cl c11 [vl ta0 tk0 t, vi rv158.2]⟩, ⟨some 34, fun G => Cr (G.g 34 0) 1 [vi (rv158.1 - 1)]⟩, ⟨some 35, fun G => sl (G.g 34 0) ([(rv158.1 - 1)] : List Int)⟩, ⟨some 35, fun G => SP.fact (True)⟩] _
  refine Db h208 [] Vm (Ds (Ds (Ds (Ds (Dv [] Vpf (Dv [] Vpf ?_))))))
  refine Dn ⟨by kernel_rfl, fun G => ?_⟩
  refine Jw2 [(2, vl from_a0 from_k0 from_), (4, p10), (7, c11), (8, vi i_17), (70, vb false)] [0, 1, 2, 3, 5, 6, 7, 8, 9, 10, 11, 12] [SP.fact (i64ok rv58.1 ∧ (0 ≤ rv58.2 ∧ rv58.2 ≤ (t.length : Int)) ∧ (0 ≤ rv58.1 ∧ (rv58.1 < (rv40.1.Nodes.length : Int) ∨ rv58.1 = 0))), sl (G.g 4 0) ([rv58.1] : List Int), SP.fact (True), SP.fact (i64ok rv76.1 ∧ (0 ≤ rv76.2 ∧ rv76.2 ≤ (t.length : Int)) ∧ (0 ≤ rv76.1 ∧ (rv76.1 < (rv40.1.Nodes.length : Int) ∨ rv76.1 = 0))), SP.fact (i64ok rv81.1 ∧ (0 ≤ rv81.2 ∧ rv81.2 ≤ (t.length : Int)) ∧ (0 ≤ rv81.1 ∧ (rv81.1 < (rv40.1.Nodes.length : Int) ∨ rv81.1 = 0))), sl (G.g 15 0) ([rv76.1, rv81.1] : List Int), SP.fact (True), SP.fact ((0 ≤ rv114.2 ∧ rv114.2 ≤ (t.length : Int)) ∧ (rv114.1.Nodes.length ≤ 12)), sl (G.g 22 0) rv114.1.Nodes, sl (G.g 22 1) rv114.1.Succ, sl (G.g 22 2) rv114.1.Pred, sl (G.g 23 0) ([0] : List Int), SP.fact (True), SP.fact (i64ok rv158.1 ∧ (0 ≤ rv158.2 ∧ rv158.2 ≤ (t.length : Int)) ∧ (0 ≤ rv158.1 ∧ (rv158.1 < ((rv40.1.Nodes.length : Int) + 2) ∨ rv158.1 = 0))), Cl c11 [vl ta0 tk0 t, vi rv158.2], sl (G.g 34 0) ([(rv158.1 - 1)] : List Int), SP.fact (True)] ?_
  generalize G.g 4 0 = c60, G.g 15 0 = c89, G.g 22 0 = c111, G.g 22 1 = c112, G.g 22 2 = c113, G.g 23 0 = c125, G.g 34 0 = c183
  refine Jf 12 rfl ?_; rintro ⟨he271, he272, he273⟩
  unfold i64ok at he271
  refine Jf 15 rfl ?_; rintro ⟨he274, he275, he276⟩
  unfold i64ok at he274
  refine Jf 16 rfl ?_; rintro ⟨he277, he278, he279⟩
  unfold i64ok at he277
  refine Jf 19 rfl ?_; rintro ⟨he280, he281⟩
  refine Jf 25 rfl ?_; rintro ⟨he282, he283, he284⟩
  unfold i64ok at he282
  refine Jk [0, 0, 1, 2, 3, 4, 5, 6, 7, 8, 9, 10, 12, 16, 19, 20, 21, 22, 25, 25] ?_
  refine Jo 12 ?_; rintro a285 k286 rfl
  refine Fb 8 12 fun _ => Fo 12 fun ho288 => ?_
  refine Jo 13 ?_; rintro a289 k290 rfl
  refine Fb 8 13 fun _ => Fo 13 fun ho292 => ?_
  refine Jo 14 ?_; rintro a293 k294 rfl
  refine Fb 32 14 fun _ => ?_
  refine Jo 15 ?_; rintro a296 k297 rfl
  refine Fb 24 15 fun _ => ?_
  refine Jo 16 ?_; rintro a299 k300 rfl
  refine Fb 24 16 fun _ => ?_
  refine Jo 17 ?_; rintro a302 k303 rfl
  refine Fb 8 17 fun _ => Fo 17 fun ho305 => ?_
  refine Jo 19 ?_; rintro a306 k307 rfl
  refine Fb 8 19 fun _ => Fo 19 fun ho309 => ?_
  refine Kf (KS ?_)
  refine Oq Vm (Oq Vadd (Oq Va (KS ?_)))
  exact Kg (r36, rv158.2, (i_17 + 1)) [18, 4, 5, 6, 7, 8, 9, 10, 11] ⟨(q3 hM18 (by simp only [w8_GraphReads_L0, h34, h69, h74, h104, h109, h142, h147, h201, h206, h208, hg41, hg59, hg65, hg77, hg82, hg94, hg115, hg139, hg159, hg188, cs4])), aM1, aM1, aM1, aM1, aM1, aM1⟩
 intro h34
 have g310 := df h34
 obtain rfl : r15 = 0 := by omega
 refine Ke ?_
 have hR311 := q2 hM18 () (by simp only [w8_GraphReads_L0, h34, cs4])
 refine KS ?_
 refine Oq (Vfa fo36_0 1) (Oq (VldF sh33 1) (Oq (Vlen sl33) (Oq Vgtr (Oq Vm ?_))))
 refine Js 75 ?_ ?_
 ·intro h312
  have g313 := dt h312
  refine Osk (Osk (Osk (Osk (Oq Vpt (Oq Vm (Osk (Osk (Osk (Osk ?_)))))))))
  refine Oq Vpt (Oq Vm (Osk (Osk (Osk (Oq Vpt (KS ?_))))))
  refine Kt (KS ?_)
  have hc314 := fn11 kwLA kwLK w8_sane rfl
  refine Oc [7, 8] ca11 hc314 ?_
  rintro - -
  refine Oq Va (KS ?_)
  have hq := q4 hrr w8_sane (by unfold w8_GraphReads; simp only [h34, h312, hg13, hR311, cs4]); subst hq
  exact Kr () rfl (.tmp rfl .nil) [] trivial
 intro h312
 have g315 := df h312
 refine Oq (Vfa fo36_1 1) (Oq (VldF sh34 1) (Oq (Vlen sl34) (Oq Vgtr (Oq Vpf (Oq Vm ?_)))))
 refine Js 81 ?_ ?_
 ·intro h316
  have g317 := dt h316
  refine Osk (Osk (Osk (Osk (Oq Vpt (Oq Vm (Osk (Osk (Osk (Oq Vpt ?_)))))))))
  refine KS ?_
  refine Kt (KS ?_)
  have hc318 := fn11 kwLA kwLK w8_sane rfl
  refine Oc [7, 8] ca11 hc318 ?_
  rintro - -
  refine Oq Va (KS ?_)
  have hq := q4 hrr w8_sane (by unfold w8_GraphReads; simp only [h34, h312, h316, hg13, hR311, cs4]); subst hq
  exact Kr () rfl (.tmp rfl .nil) [] trivial
 intro h316
 have g319 := df h316
 refine Oq (Vfa fo36_2 1) (Oq (VldF sh34 1) (Oq (Vlen sl34) (Oq Vgtr (Oq Vpf (Oq Vm ?_)))))
 refine Js 87 ?_ ?_
 ·intro h320
  have g321 := dt h320
  refine Osk (Osk (Osk (Oq Vpt (KS ?_))))
  refine Kt (KS ?_)
  have hc322 := fn11 kwLA kwLK w8_sane rfl
  refine Oc [7, 8] ca11 hc322 ?_
  rintro - -
  refine Oq Va (KS ?_)
  have hq := q4 hrr w8_sane (by unfold w8_GraphReads; simp only [h34, h312, h316, h320, hg13, hR311, cs4]); subst hq
  exact Kr () rfl (.tmp rfl .nil) [] trivial
 intro h320
 have g323 := df h320
 refine Oq Vm (Oq (Vlen sl22) (Oq Vgtr (Oq Vpf (KS ?_))))
 refine Kc ?_ ?_
 ·intro h324
  have g325 := dt h324
  refine KS ?_
  have hc326 := fn11 kwLA kwLK w8_sane rfl
  refine Oc [7, 8] ca11 hc326 ?_
  rintro - -
  refine Oq Va (KS ?_)
  have hq := q4 hrr w8_sane (by unfold w8_GraphReads; simp only [h34, h312, h316, h320, h324, hg13, hR311, cs4]); subst hq
  exact Kr () rfl (.tmp rfl .nil) [] trivial
 intro h324
 have g327 := df h324
 refine KS ?_
 refine Oq (VldA sh36 1) (Oq Vm ?_)
 refine letv (w8_reads g from_) fun rv328 hg329 => ?_
 have hc330 := fn13 g ga0 gk0 ga1 gk1 ga2 gk2 from_ from_a0 from_k0 pre pre rv328 hg329
 refine Oc [3, 4, 5, 6] ca13 hc330 ?_
 rintro - -
 refine Oq Vm ?_
 refine Js 96 ?_ ?_
 ·intro h331
  have hc333 := fn11 kwLA kwLK w8_sane rfl
  refine Oc [7, 8] ca11 hc333 ?_
  rintro - -
  refine Oq Vpt (Oq Va (KS ?_))
  have hq := q4 hrr w8_sane (by unfold w8_GraphReads; simp only [h34, h312, h316, h320, h324, h331, hg13, hR311, hg329, cs4]); subst hq
  exact Kr () rfl (.tmp rfl .nil) [] trivial
 intro h331
 refine Osk (Oq Vpf (Oq Va (KS ?_)))
 have hq := q4 hrr false (by unfold w8_GraphReads; simp only [h34, h312, h316, h320, h324, h331, hg13, hR311, hg329, cs4]); subst hq
 exact Kr () rfl (.tmp rfl .nil) [] trivial
end Go.SL.G
