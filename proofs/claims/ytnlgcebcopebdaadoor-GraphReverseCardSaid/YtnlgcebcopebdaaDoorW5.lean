/- Part 5 of the walks: mirrors, plain laws and walks used by the last text of this claim. -/
import Derived.Test.YtnlgcebcopebdaaDoorW4
import Derived.Test.YtnlgcebcopebdaaDoorProg
set_option linter.unusedVariables false
set_option linter.unusedSimpArgs false
namespace Go.SL.G
open Go Go.SL Go.Proofs
set_option maxHeartbeats 20000000
set_option maxRecDepth 100000
theorem fn82 (data : List Int) (dataa0 : Option Addr) (datak0 : Nat) (a : Int) (b : Int) (ha_0 : i64ok a) (hb_0 : i64ok b) (ha0 : 0 ≤ a ∧ a ≤ b ∧ b ≤ (data.length : Int) ∧ data.length ≤ 65535) (rr : List Int) (hrr : sc_breakPatternsOrdered_int data a b = rr) : FT Tryd.prog 82 #[vl dataa0 datak0 data, vi a, vi b] [O dataa0 datak0 data] (fun g : Unit => (rr.length = data.length)) (fun g => .tuple #[]) (fun g => [os (vl dataa0 datak0 data) rr]) := by
 refine FTi Tryd.func82 fun w0 M0 F0 => ?_
 unfold i64ok at ha_0 hb_0
 refine Fb 8 0 fun _ => Fo 0 fun ho2 => KS ?_
 refine Oq Vm (Oq Vm (Oq Vsub (Oq Va (KS ?_))))
 refine Oq Vm (Oq Vgeq (KS ?_))
 refine Kc ?_ ?_
 ·intro h3
  have g4 := dt h3
  refine KS ?_
  refine Oq Vm (Oq (VcU un3 un147) (Oa (Al ze147 [u64 (0#64)]) fun p5 => Ost (Scl [0] sh147 [u64 (BitVec.ofInt 64 (b - a))]) (KS ?_)))
  refine Oq Vm ?_
  refine letv (sc_nextPowerOfTwo (b - a)) fun rv6 hg7 => ?_
  have hmd := npt_f hg7 aM1
  have hc8 := fn106 ((b - a)) pre pre rv6 hg7
  refine Oc [] ca106 hc8 ?_
  rintro - -
  refine Oq Va (KS ?_)
  refine Oq Vm (Oq Vm (Oq Vquo (Oq Vmul (Oq Vadd (Oq Vsub (Oq Va (KS ?_)))))))
  have hterm16 : sc_breakPatternsOrdered_int_L0 a b rv6 4 data (BitVec.ofInt 64 (b - a)) ((a + (((b - a) / 4) * 2)) - 1) ≠ LR.oof := (bp_t _ _ _ _ aM1 aM1)
  refine Kl (γ := Nat × List Int × BitVec 64 × Int) (fun (r9, data_10, random0_11, idx_12) => ⟨[(0, vl dataa0 datak0 data), (1, vi a), (6, vi (b - a)), (7, p5), (8, u64 rv6), (9, vi idx_12)], [Cl p5 [u64 random0_11], os (vl dataa0 datak0 data) data_10], sc_breakPatternsOrdered_int_L0 a b rv6 r9 data_10 random0_11 idx_12 = sc_breakPatternsOrdered_int_L0 a b rv6 4 data (BitVec.ofInt 64 (b - a)) ((a + (((b - a) / 4) * 2)) - 1) ∧ (-9223372036854775808 ≤ idx_12 ∧ idx_12 ≤ 9223372036854775807) ∧ (a + (b - a) / 4 * 2 - 1 ≤ idx_12 ∧ idx_12 ≤ a + (b - a) / 4 * 2 + 2), r9⟩) (4, data, (BitVec.ofInt 64 (b - a)), ((a + (((b - a) / 4) * 2)) - 1)) [0, 0] ⟨rfl, aM1, iv0⟩ ?_
  rintro ⟨r9, data_10, random0_11, idx_12⟩ ⟨hM13, hk14, hv15⟩
  refine JJ_nx fun _ _ hL hA => ?_; dsimp only at hL hA; subst hL hA
  refine Fb 8 1 fun _ => Fo 1 fun ho18 => Fl 1 fun hn19 => ?_
  rcases r9 with _ | r9
  ·exact absurd (hM13.symm.trans rfl) hterm16
  refine KS ?_
  refine Oq Vm (Oq Vm (Oq Vm (Oq Vquo (Oq Vmul (Oq Vadd (Oq Vadd (Oq Vleq (KS ?_))))))))
  refine Kc ?_ ?_
  ·intro h20
   have g21 := dt h20
   refine KS ?_
   refine letv (xorshift_Next random0_11) fun rv22 hg23 => ?_
   have hal := and_lt (x := rv22.1) hmd.1
   have hc24 := fn107 p5 random0_11 rv22 hg23
   refine Oc [0] ca107 hc24 ?_
   rintro - -
   refine Oq Vm (Oq (VsubU (b := 1#64)) (Oq VandU (Oq (VcN un111 un3) (Oq Va (KS ?_)))))
   refine Oq Vm (Oq Vm (Oq Vgeq (KS ?_)))
   refine Kc ?_ ?_
   ·intro h25
    have g26 := dt h25
    refine KS ?_
    refine Oq Vm (Oq Vm (Oq Vsub (Oq Va (KS ?_))))
    refine JK_drawK [0, 0, 0, 0, 0, 24, 0, 0, 0, 384, 960, 1984, 0, 0, 12288, 28672, 65475, 131011, 262143, 524287] fmix ?_
    refine Dv [] Vm (Dv [] Vm (Dv [] Vm (Dv [] Vm (Dv [] Vm (Dv [] Vadd (Dv [] Vm (Dv [] Vm (Dv [] Vm (Dv [] Vadd ?_)))))))))
    refine Dv [1] (Vi sl22 0) ?_
    have hb27 := ok1 (i := ((a + (((rv22.1 &&& (rv6 - 1#64)).toNat : Int) - (b - a))) : Int).toNat) ho18 rng
    refine Dv [1] (VldI sh3 0) (Dv [] Vm (Dv [] Vm (Dv [1] (Vi sl22 0) ?_)))
    have hb28 := ok1 (i := idx_12.toNat) ho18 rng
    refine Dv [1] (VldI sh3 0) (Dv [1] (Vi sl22 0) (Dx0 [1] [1] [0] [fun G => os (vl dataa0 datak0 data) (data_10.set idx_12.toNat (data_10.getD ((a + (((rv22.1 &&& (rv6 - 1#64)).toNat : Int) - (b - a))) : Int).toNat 0))] (fun G => xS (SoI [0] sh3)) (Dv [2] (Vi sl22 0) (Dx0 [2] [2] [0] [fun G => os (vl dataa0 datak0 data) ((data_10.set idx_12.toNat (data_10.getD ((a + (((rv22.1 &&& (rv6 - 1#64)).toNat : Int) - (b - a))) : Int).toNat 0)).set ((a + (((rv22.1 &&& (rv6 - 1#64)).toNat : Int) - (b - a))) : Int).toNat (data_10.getD idx_12.toNat 0))] (fun G => xS (SoI [0] sh3)) ?_))))
    refine Dn ⟨by kernel_rfl, fun G => ?_⟩
    refine Jw2 [(0, vl dataa0 datak0 data), (1, vi a), (6, vi (b - a)), (7, p5), (8, u64 rv6), (9, vi idx_12)] [0] [os (vl dataa0 datak0 data) ((data_10.set idx_12.toNat (data_10.getD ((a + (((rv22.1 &&& (rv6 - 1#64)).toNat : Int) - (b - a))) : Int).toNat 0)).set ((a + (((rv22.1 &&& (rv6 - 1#64)).toNat : Int) - (b - a))) : Int).toNat (data_10.getD idx_12.toNat 0))] ?_
    refine KS ?_
    refine Oq Vm (Oq Vadd (Oq Va (KS ?_)))
    exact Kg (r9, ((data_10.set idx_12.toNat (data_10.getD ((a + (((rv22.1 &&& (rv6 - 1#64)).toNat : Int) - (b - a))) : Int).toNat 0)).set ((a + (((rv22.1 &&& (rv6 - 1#64)).toNat : Int) - (b - a))) : Int).toNat (data_10.getD idx_12.toNat 0)), rv22.2, (idx_12 + 1)) [0, 0] ⟨(q3 hM13 (by simp only [sc_breakPatternsOrdered_int_L0, h3, h20, h25, hg7, hg23, cs4])), aM1, iv1⟩
   intro h25
   have g29 := df h25
   refine KS ?_
   refine JK_drawK [0, 0, 0, 0, 0, 24, 0, 0, 0, 384, 960, 1984, 0, 0, 12288, 28672, 65475, 131011, 262143, 524287] fmix ?_
   refine Dv [] Vm (Dv [] Vm (Dv [] Vm (Dv [] Vm (Dv [] Vm (Dv [] Vadd (Dv [] Vm (Dv [] Vm (Dv [] Vm (Dv [] Vadd ?_)))))))))
   refine Dv [1] (Vi sl22 0) ?_
   have hb30 := ok1 (i := ((a + ((rv22.1 &&& (rv6 - 1#64)).toNat : Int)) : Int).toNat) ho18 rng
   refine Dv [1] (VldI sh3 0) (Dv [] Vm (Dv [] Vm (Dv [1] (Vi sl22 0) ?_)))
   have hb31 := ok1 (i := idx_12.toNat) ho18 rng
   refine Dv [1] (VldI sh3 0) (Dv [1] (Vi sl22 0) (Dx0 [1] [1] [0] [fun G => os (vl dataa0 datak0 data) (data_10.set idx_12.toNat (data_10.getD ((a + ((rv22.1 &&& (rv6 - 1#64)).toNat : Int)) : Int).toNat 0))] (fun G => xS (SoI [0] sh3)) (Dv [2] (Vi sl22 0) (Dx0 [2] [2] [0] [fun G => os (vl dataa0 datak0 data) ((data_10.set idx_12.toNat (data_10.getD ((a + ((rv22.1 &&& (rv6 - 1#64)).toNat : Int)) : Int).toNat 0)).set ((a + ((rv22.1 &&& (rv6 - 1#64)).toNat : Int)) : Int).toNat (data_10.getD idx_12.toNat 0))] (fun G => xS (SoI [0] sh3)) ?_))))
   refine Dn ⟨by kernel_rfl, fun G => ?_⟩
   refine Jw2 [(0, vl dataa0 datak0 data), (1, vi a), (6, vi (b - a)), (7, p5), (8, u64 rv6), (9, vi idx_12)] [0] [os (vl dataa0 datak0 data) ((data_10.set idx_12.toNat (data_10.getD ((a + ((rv22.1 &&& (rv6 - 1#64)).toNat : Int)) : Int).toNat 0)).set ((a + ((rv22.1 &&& (rv6 - 1#64)).toNat : Int)) : Int).toNat (data_10.getD idx_12.toNat 0))] ?_
   refine KS ?_
   refine Oq Vm (Oq Vadd (Oq Va (KS ?_)))
   exact Kg (r9, ((data_10.set idx_12.toNat (data_10.getD ((a + ((rv22.1 &&& (rv6 - 1#64)).toNat : Int)) : Int).toNat 0)).set ((a + ((rv22.1 &&& (rv6 - 1#64)).toNat : Int)) : Int).toNat (data_10.getD idx_12.toNat 0)), rv22.2, (idx_12 + 1)) [0, 0] ⟨(q3 hM13 (by simp only [sc_breakPatternsOrdered_int_L0, h3, h20, h25, hg7, hg23, cs4])), aM1, iv1⟩
  intro h20
  have g32 := df h20
  refine Ke ?_
  have hR33 := q2 hM13 (.brk data_10) (by simp only [sc_breakPatternsOrdered_int_L0, h3, h20, hg7, cs4])
  refine Fl 1 fun hn34 => ?_
  have hq := q4 hrr data_10 (by simp only [sc_breakPatternsOrdered_int, h3, h20, hg7, hR33, cs4]); subst hq
  exact Kz () rfl .nil [1] en
 intro h3
 have g35 := df h3
 refine KS ?_
 have hq := q4 hrr data (by simp only [sc_breakPatternsOrdered_int, h3, cs4]); subst hq
 exact Kz () rfl .nil [0] en
theorem fn116 (data : List Int) (dataa0 : Option Addr) (datak0 : Nat) (a : Int) (b : Int) (swapsP : Value) (swaps : Int) (ha_0 : i64ok a) (hb_0 : i64ok b) (hswaps_0 : i64ok swaps) (ha0 : 0 ≤ a ∧ a < (data.length : Int) ∧ 0 ≤ b ∧ b < (data.length : Int)) (hs0 : 0 ≤ swaps ∧ swaps ≤ 1000) (rr : Int × Int × Int) (hrr : sc_order2Ordered_int data a b swaps = rr) : FT Tryd.prog 116 #[vl dataa0 datak0 data, vi a, vi b, swapsP] [S dataa0 datak0 data, Cl swapsP [vi swaps]] (fun g : Unit => i64ok rr.1 ∧ i64ok rr.2.1 ∧ i64ok rr.2.2 ∧ ((rr.1 = a ∧ rr.2.1 = b) ∨ (rr.1 = b ∧ rr.2.1 = a)) ∧ (0 ≤ rr.2.2 ∧ rr.2.2 ≤ swaps + 1)) (fun g => .tuple #[vi rr.1, vi rr.2.1]) (fun g => [Cl swapsP [vi rr.2.2]]) := by
 refine FTi Tryd.func116 fun w0 M0 F0 => ?_
 unfold i64ok at ha_0 hb_0 hswaps_0
 refine Fb 8 0 fun _ => Fo 0 fun ho2 => KS ?_
 refine Oq Va (Oq Va (KS ?_))
 refine JK_drawK [0, 0, 3, 7, 0, 0, 48, 112, 255] fmix ?_
 refine Dv [] Vm (Dv [] Vm (Dv [0] (Vi sl22 0) ?_))
 have hb3 := ok1 (i := b.toNat) ho2 rng
 refine Dv [0] (VldI sh3 0) (Dv [] Vm (Dv [] Vm (Dv [0] (Vi sl22 0) ?_)))
 have hb4 := ok1 (i := a.toNat) ho2 rng
 refine Dv [0] (VldI sh3 0) ?_
 refine letv (cmp_Less_int (data.getD b.toNat 0) (data.getD a.toNat 0)) fun rv5 hg6 => Dx [] [] [0] (fun G => vb rv5) [fun G => SP.fact (True)] (fun G => xC [] ca86 (fn86 ((data.getD b.toNat 0)) ((data.getD a.toNat 0)) pre pre rv5 hg6)) ?_
 refine Dn ⟨by kernel_rfl, fun G => ?_⟩
 refine Jw2 [(1, vi a), (2, vi b), (3, swapsP), (18, vb rv5)] [0, 1] [SP.fact (True)] ?_
 refine Jk [0, 1] ?_
 refine Kc ?_ ?_
 ·intro h7
  refine KS ?_
  refine Oq Vm (Oq (Vn 1) (Oq (Vld sh3 1) (Oq Vadd (Oq (Vn 1) (Ost (Scl [1] sh3 [vi (swaps + 1)]) (KS ?_))))))
  refine Oq Vm (Oq Vm (Oq Va (Oq Va (KS ?_))))
  have hq := q4 hrr (b, a, (swaps + 1)) (by simp only [sc_order2Ordered_int, h7, hg6, cs4]); subst hq
  exact Kr () rfl (.tmp rfl (.tmp rfl .nil)) [0] en
 intro h7
 refine KS ?_
 refine Oq Vm (Oq Vm (Oq Va (Oq Va (KS ?_))))
 have hq := q4 hrr (a, b, swaps) (by simp only [sc_order2Ordered_int, h7, hg6, cs4]); subst hq
 exact Kr () rfl (.tmp rfl (.tmp rfl .nil)) [1] en
theorem fn109 (data : List Int) (dataa0 : Option Addr) (datak0 : Nat) (a : Int) (b : Int) (c : Int) (swapsP : Value) (swaps : Int) (ha_0 : i64ok a) (hb_0 : i64ok b) (hc_0 : i64ok c) (hswaps_0 : i64ok swaps) (ha0 : 0 ≤ a ∧ a < (data.length : Int) ∧ 0 ≤ b ∧ b < (data.length : Int) ∧ 0 ≤ c ∧ c < (data.length : Int)) (hs0 : 0 ≤ swaps ∧ swaps ≤ 900) (rr : Int × Int) (hrr : sc_medianOrdered_int data a b c swaps = rr) : FT Tryd.prog 109 #[vl dataa0 datak0 data, vi a, vi b, vi c, swapsP] [S dataa0 datak0 data, Cl swapsP [vi swaps]] (fun g : Unit => i64ok rr.1 ∧ i64ok rr.2 ∧ (rr.1 = a ∨ rr.1 = b ∨ rr.1 = c) ∧ (0 ≤ rr.2 ∧ rr.2 ≤ swaps + 3)) (fun g => vi rr.1) (fun g => [Cl swapsP [vi rr.2]]) := by
 refine FTi Tryd.func109 fun w0 M0 F0 => ?_
 unfold i64ok at ha_0 hb_0 hc_0 hswaps_0
 refine Fb 8 0 fun _ => Fo 0 fun ho2 => KS ?_
 refine Oq Va (KS ?_)
 refine Oq Vm (Oq Vm (Oq Vm (Oq Vm ?_)))
 refine letv (sc_order2Ordered_int data a b swaps) fun rv3 hg4 => ?_
 have hc5 := fn116 data dataa0 datak0 a b swapsP swaps pre pre pre pre pre rv3 hg4
 refine Oc [0, 1] ca116 hc5 ?_
 rintro - ⟨he6, he7, he8, he9, he10⟩
 unfold i64ok at he6 he7 he8
 refine Oq Vm (Oq Vx (Oq Vx (Oq Va (Oq Va (KS ?_)))))
 refine Oq Vm (Oq Vm (Oq Vm (Oq Vm ?_)))
 refine letv (sc_order2Ordered_int data rv3.2.1 c rv3.2.2) fun rv11 hg12 => ?_
 have hc13 := fn116 data dataa0 datak0 rv3.2.1 c swapsP rv3.2.2 pre pre pre pre pre rv11 hg12
 refine Oc [1, 0] ca116 hc13 ?_
 rintro - ⟨he14, he15, he16, he17, he18⟩
 unfold i64ok at he14 he15 he16
 refine Oq Vm (Oq Vx (Oq Vx (Oq Va (Oq Va (KS ?_)))))
 refine Oq Vm (Oq Vm (Oq Vm (Oq Vm ?_)))
 refine letv (sc_order2Ordered_int data rv3.1 rv11.1 rv11.2.2) fun rv19 hg20 => ?_
 have hc21 := fn116 data dataa0 datak0 rv3.1 rv11.1 swapsP rv11.2.2 pre pre pre pre pre rv19 hg20
 refine Oc [1, 0] ca116 hc21 ?_
 rintro - ⟨he22, he23, he24, he25, he26⟩
 unfold i64ok at he22 he23 he24
 refine Oq Vm (Oq Vx (Oq Vx (Oq Va (Oq Va (KS ?_)))))
 refine Oq Vm (Oq Va (KS ?_))
 have hq := q4 hrr (rv19.2.1, rv19.2.2) (by simp only [sc_medianOrdered_int, hg4, hg12, hg20, cs4]); subst hq
 exact Kr () rfl (.tmp rfl .nil) [0] en
theorem fn108 (data : List Int) (dataa0 : Option Addr) (datak0 : Nat) (a : Int) (swapsP : Value) (swaps : Int) (ha_0 : i64ok a) (hswaps_0 : i64ok swaps) (ha0 : 1 ≤ a ∧ a + 1 < (data.length : Int)) (hs0 : 0 ≤ swaps ∧ swaps ≤ 900) (rr : Int × Int) (hrr : sc_medianAdjacentOrdered_int data a swaps = rr) : FT Tryd.prog 108 #[vl dataa0 datak0 data, vi a, swapsP] [S dataa0 datak0 data, Cl swapsP [vi swaps]] (fun g : Unit => i64ok rr.1 ∧ i64ok rr.2 ∧ (a - 1 ≤ rr.1 ∧ rr.1 ≤ a + 1) ∧ (0 ≤ rr.2 ∧ rr.2 ≤ swaps + 3)) (fun g => vi rr.1) (fun g => [Cl swapsP [vi rr.2]]) := by
 refine FTi Tryd.func108 fun w0 M0 F0 => ?_
 unfold i64ok at ha_0 hswaps_0
 refine Fb 8 0 fun _ => Fo 0 fun ho2 => KS ?_
 refine Oq Va (KS ?_)
 refine Oq Vm (Oq Vm (Oq Vsub (Oq Vm (Oq Vm (Oq Vadd (Oq Vm ?_))))))
 refine letv (sc_medianOrdered_int data (a - 1) a (a + 1) swaps) fun rv3 hg4 => ?_
 have hc5 := fn109 data dataa0 datak0 ((a - 1)) a ((a + 1)) swapsP swaps pre pre pre pre pre pre rv3 hg4
 refine Oc [0, 1] ca109 hc5 ?_
 rintro - ⟨he6, he7, he8, he9⟩
 unfold i64ok at he6 he7
 refine Oq Va (KS ?_)
 have hq := q4 hrr (rv3.1, rv3.2) (by simp only [sc_medianAdjacentOrdered_int, hg4, cs4]); subst hq
 exact Kr () rfl (.tmp rfl .nil) [0] en
theorem fn83 (data : List Int) (dataa0 : Option Addr) (datak0 : Nat) (a : Int) (b : Int) (ha_0 : i64ok a) (hb_0 : i64ok b) (ha0 : 0 ≤ a ∧ a ≤ b ∧ b ≤ (data.length : Int) ∧ data.length ≤ 65535 ∧ 8 ≤ b - a) (rr : Int × Int) (hrr : sc_choosePivotOrdered_int data a b = rr) : FT Tryd.prog 83 #[vl dataa0 datak0 data, vi a, vi b] [S dataa0 datak0 data] (fun g : Unit => i64ok rr.1 ∧ i64ok rr.2 ∧ (a ≤ rr.1 ∧ rr.1 < b)) (fun g => .tuple #[vi rr.1, vi rr.2]) (fun g => []) := by
 refine FTi Tryd.func83 fun w0 M0 F0 => ?_
 unfold i64ok at ha_0 hb_0
 refine Fb 8 0 fun _ => Fo 0 fun ho2 => KS ?_
 refine Oq Va (Oq Va (KS ?_))
 refine Oq Vm (Oq Vm (Oq Vsub (Oq Va (KS ?_))))
 refine Oa (Al ze3 [vi 0]) fun p3 => KS ?_
 refine Oq Vm (Oq Vm (Oq Vquo (Oq Vmul (Oq Vadd (Oq Va (KS ?_))))))
 refine Oq Vm (Oq Vm (Oq Vquo (Oq Vmul (Oq Vadd (Oq Va (KS ?_))))))
 refine Oq Vm (Oq Vm (Oq Vquo (Oq Vmul (Oq Vadd (Oq Va (KS ?_))))))
 refine Oq Vm (Oq Vgeq (KS ?_))
 refine Kc ?_ ?_
 ·intro h4
  have g5 := dt h4
  refine KS ?_
  refine Oq Vm (Oq Vgeq (KS ?_))
  refine Kc ?_ ?_
  ·intro h6
   have g7 := dt h6
   refine KS ?_
   refine Oq Vm (Oq Vm ?_)
   refine letv (sc_medianAdjacentOrdered_int data (a + (((b - a) / 4) * 1)) 0) fun rv8 hg9 => ?_
   have hc10 := fn108 data dataa0 datak0 ((a + (((b - a) / 4) * 1))) p3 0 pre pre pre pre rv8 hg9
   refine Oc [1, 0] ca108 hc10 ?_
   rintro - ⟨he11, he12, he13, he14⟩
   unfold i64ok at he11 he12
   refine Oq Va (KS ?_)
   refine Oq Vm (Oq Vm ?_)
   refine letv (sc_medianAdjacentOrdered_int data (a + (((b - a) / 4) * 2)) rv8.2) fun rv15 hg16 => ?_
   have hc17 := fn108 data dataa0 datak0 ((a + (((b - a) / 4) * 2))) p3 rv8.2 pre pre pre pre rv15 hg16
   refine Oc [1, 0] ca108 hc17 ?_
   rintro - ⟨he18, he19, he20, he21⟩
   unfold i64ok at he18 he19
   refine Oq Va (KS ?_)
   refine Oq Vm (Oq Vm ?_)
   refine letv (sc_medianAdjacentOrdered_int data (a + (((b - a) / 4) * 3)) rv15.2) fun rv22 hg23 => ?_
   have hc24 := fn108 data dataa0 datak0 ((a + (((b - a) / 4) * 3))) p3 rv15.2 pre pre pre pre rv22 hg23
   refine Oc [1, 0] ca108 hc24 ?_
   rintro - ⟨he25, he26, he27, he28⟩
   unfold i64ok at he25 he26
   refine Oq Va (KS ?_)
   refine Oq Vm (Oq Vm (Oq Vm (Oq Vm ?_)))
   refine letv (sc_medianOrdered_int data rv8.1 rv15.1 rv22.1 rv22.2) fun rv29 hg30 => ?_
   have hc31 := fn109 data dataa0 datak0 rv8.1 rv15.1 rv22.1 p3 rv22.2 pre pre pre pre pre pre rv29 hg30
   refine Oc [1, 0] ca109 hc31 ?_
   rintro - ⟨he32, he33, he34, he35⟩
   unfold i64ok at he32 he33
   refine Oq Va (KS ?_)
   refine Oq (Vld sh3 0) (KS ?_)
   refine Oq Veql (Oq Va (KS ?_))
   refine Kc ?_ ?_
   ·intro h36
    have g37 := eq_of_beq h36
    refine KS ?_
    refine Oq Vm (Oq Va (Oq Va (KS ?_)))
    have hq := q4 hrr (rv29.1, 1) (by simp only [sc_choosePivotOrdered_int, h4, h6, h36, hg9, hg16, hg23, hg30, cs4]); subst hq
    exact Kr () rfl (.tmp rfl (.tmp rfl .nil)) [] ⟨en, en, (hrr ▸ cp_rng _ aM1)⟩
   intro h36
   have g38 := ne_of_beq_false h36
   refine KS ?_
   refine Oq Veql (Oq Va (KS ?_))
   refine Kc ?_ ?_
   ·intro h39
    have g40 := eq_of_beq h39
    refine KS ?_
    refine Oq Vm (Oq Va (Oq Va (KS ?_)))
    have hq := q4 hrr (rv29.1, 2) (by simp only [sc_choosePivotOrdered_int, h4, h6, h36, h39, hg9, hg16, hg23, hg30, cs4]); subst hq
    exact Kr () rfl (.tmp rfl (.tmp rfl .nil)) [] ⟨en, en, (hrr ▸ cp_rng _ aM1)⟩
   intro h39
   have g41 := ne_of_beq_false h39
   refine KS ?_
   refine Oq Vm (Oq Va (Oq Va (KS ?_)))
   have hq := q4 hrr (rv29.1, 0) (by simp only [sc_choosePivotOrdered_int, h4, h6, h36, h39, hg9, hg16, hg23, hg30, cs4]); subst hq
   exact Kr () rfl (.tmp rfl (.tmp rfl .nil)) [] ⟨en, en, (hrr ▸ cp_rng _ aM1)⟩
  intro h6
  have g42 := df h6
  refine KS ?_
  refine Oq Vm (Oq Vm (Oq Vm (Oq Vm ?_)))
  refine letv (sc_medianOrdered_int data (a + (((b - a) / 4) * 1)) (a + (((b - a) / 4) * 2)) (a + (((b - a) / 4) * 3)) 0) fun rv43 hg44 => ?_
  have hc45 := fn109 data dataa0 datak0 ((a + (((b - a) / 4) * 1))) ((a + (((b - a) / 4) * 2))) ((a + (((b - a) / 4) * 3))) p3 0 pre pre pre pre pre pre rv43 hg44
  refine Oc [1, 0] ca109 hc45 ?_
  rintro - ⟨he46, he47, he48, he49⟩
  unfold i64ok at he46 he47
  refine Oq Va (KS ?_)
  refine Oq (Vld sh3 0) (KS ?_)
  refine Oq Veql (Oq Va (KS ?_))
  refine Kc ?_ ?_
  ·intro h50
   have g51 := eq_of_beq h50
   refine KS ?_
   refine Oq Vm (Oq Va (Oq Va (KS ?_)))
   have hq := q4 hrr (rv43.1, 1) (by simp only [sc_choosePivotOrdered_int, h4, h6, h50, hg44, cs4]); subst hq
   exact Kr () rfl (.tmp rfl (.tmp rfl .nil)) [] ⟨en, en, (hrr ▸ cp_rng _ aM1)⟩
  intro h50
  have g52 := ne_of_beq_false h50
  refine KS ?_
  refine Oq Veql (Oq Va (KS ?_))
  refine Kc ?_ ?_
  ·intro h53
   have g54 := eq_of_beq h53
   refine KS ?_
   refine Oq Vm (Oq Va (Oq Va (KS ?_)))
   have hq := q4 hrr (rv43.1, 2) (by simp only [sc_choosePivotOrdered_int, h4, h6, h50, h53, hg44, cs4]); subst hq
   exact Kr () rfl (.tmp rfl (.tmp rfl .nil)) [] ⟨en, en, (hrr ▸ cp_rng _ aM1)⟩
  intro h53
  have g55 := ne_of_beq_false h53
  refine KS ?_
  refine Oq Vm (Oq Va (Oq Va (KS ?_)))
  have hq := q4 hrr (rv43.1, 0) (by simp only [sc_choosePivotOrdered_int, h4, h6, h50, h53, hg44, cs4]); subst hq
  exact Kr () rfl (.tmp rfl (.tmp rfl .nil)) [] ⟨en, en, (hrr ▸ cp_rng _ aM1)⟩
 intro h4
 have g56 := df h4
 refine KS ?_
 refine Oq (Vld sh3 0) (KS ?_)
 refine Oq Veql (Oq Va (KS ?_))
 refine Kt (KS ?_)
 refine Oq Vm (Oq Va (Oq Va (KS ?_)))
 have hq := q4 hrr ((a + (((b - a) / 4) * 2)), 1) (by simp only [sc_choosePivotOrdered_int, h4, cs4]); subst hq
 exact Kr () rfl (.tmp rfl (.tmp rfl .nil)) [] ⟨en, en, (hrr ▸ cp_rng _ aM1)⟩
theorem fn84 (data : List Int) (dataa0 : Option Addr) (datak0 : Nat) (a : Int) (b : Int) (ha_0 : i64ok a) (hb_0 : i64ok b) (ha0 : 0 ≤ a ∧ a ≤ b ∧ b ≤ (data.length : Int) ∧ data.length ≤ 65535) (rr : List Int) (hrr : sc_reverseRangeOrdered_int data a b = rr) : FT Tryd.prog 84 #[vl dataa0 datak0 data, vi a, vi b] [O dataa0 datak0 data] (fun g : Unit => (rr.length = data.length)) (fun g => .tuple #[]) (fun g => [os (vl dataa0 datak0 data) rr]) := by
 refine FTi Tryd.func84 fun w0 M0 F0 => ?_
 unfold i64ok at ha_0 hb_0
 refine Fb 8 0 fun _ => Fo 0 fun ho2 => KS ?_
 refine Oq Vm (Oq Va (KS ?_))
 refine Oq Vm (Oq Vsub (Oq Va (KS ?_)))
 have hterm11 : sc_reverseRangeOrdered_int_L0 ((b - a).toNat + 1) data a (b - 1) ≠ LR.oof := (rev_t _ _ _ _ aM1 aM1)
 refine Kl (γ := Nat × List Int × Int × Int) (fun (r3, data_4, i_5, j_6) => ⟨[(0, vl dataa0 datak0 data), (6, vi i_5), (7, vi j_6)], [os (vl dataa0 datak0 data) data_4], sc_reverseRangeOrdered_int_L0 r3 data_4 i_5 j_6 = sc_reverseRangeOrdered_int_L0 ((b - a).toNat + 1) data a (b - 1) ∧ (-9223372036854775808 ≤ i_5 ∧ i_5 ≤ 9223372036854775807) ∧ (-9223372036854775808 ≤ j_6 ∧ j_6 ≤ 9223372036854775807) ∧ (a ≤ i_5 ∧ j_6 < b ∧ -1 ≤ j_6), r3⟩) (((b - a).toNat + 1), data, a, (b - 1)) [0] ⟨rfl, aM1, aM1, iv0⟩ ?_
 rintro ⟨r3, data_4, i_5, j_6⟩ ⟨hM7, hk8, hk9, hv10⟩
 refine JJ_nx fun _ _ hL hA => ?_; dsimp only at hL hA; subst hL hA
 refine Fb 8 0 fun _ => Fo 0 fun ho13 => Fl 0 fun hn14 => ?_
 rcases r3 with _ | r3
 ·exact absurd (hM7.symm.trans rfl) hterm11
 refine KS ?_
 refine Oq Vm (Oq Vm (Oq Vlss (KS ?_)))
 refine Kc ?_ ?_
 ·intro h15
  have g16 := dt h15
  refine KS ?_
  refine JK_drawK [0, 0, 0, 0, 0, 0, 48, 112, 0, 0, 768, 1792, 4083, 8179, 16383, 32767] fmix ?_
  refine Dv [] Vm (Dv [] Vm (Dv [] Vm (Dv [] Vm (Dv [] Vm (Dv [] Vm (Dv [0] (Vi sl22 0) ?_))))))
  have hb17 := ok1 (i := j_6.toNat) ho13 rng
  refine Dv [0] (VldI sh3 0) (Dv [] Vm (Dv [] Vm (Dv [0] (Vi sl22 0) ?_)))
  have hb18 := ok1 (i := i_5.toNat) ho13 rng
  refine Dv [0] (VldI sh3 0) (Dv [0] (Vi sl22 0) (Dx0 [0] [0] [0] [fun G => os (vl dataa0 datak0 data) (data_4.set i_5.toNat (data_4.getD j_6.toNat 0))] (fun G => xS (SoI [0] sh3)) (Dv [1] (Vi sl22 0) (Dx0 [1] [1] [0] [fun G => os (vl dataa0 datak0 data) ((data_4.set i_5.toNat (data_4.getD j_6.toNat 0)).set j_6.toNat (data_4.getD i_5.toNat 0))] (fun G => xS (SoI [0] sh3)) ?_))))
  refine Dn ⟨by kernel_rfl, fun G => ?_⟩
  refine Jw2 [(0, vl dataa0 datak0 data), (6, vi i_5), (7, vi j_6)] [] [os (vl dataa0 datak0 data) ((data_4.set i_5.toNat (data_4.getD j_6.toNat 0)).set j_6.toNat (data_4.getD i_5.toNat 0))] ?_
  refine KS ?_
  refine Oq Vm (Oq Vadd (Oq Va (KS ?_)))
  refine Oq Vm (Oq Vsub (Oq Va (KS ?_)))
  exact Kg (r3, ((data_4.set i_5.toNat (data_4.getD j_6.toNat 0)).set j_6.toNat (data_4.getD i_5.toNat 0)), (i_5 + 1), (j_6 - 1)) [0] ⟨(q3 hM7 (by simp only [sc_reverseRangeOrdered_int_L0, h15, cs4])), aM1, aM1, iv1⟩
 intro h15
 have g19 := df h15
 refine Ke ?_
 have hR20 := q2 hM7 (.brk data_4) (by simp only [sc_reverseRangeOrdered_int_L0, h15, cs4])
 refine Fl 0 fun hn21 => ?_
 have hq := q4 hrr data_4 (by simp only [sc_reverseRangeOrdered_int, h15, hR20, cs4]); subst hq
 exact Kz () rfl .nil [0] en
theorem fn85 (data : List Int) (dataa0 : Option Addr) (datak0 : Nat) (a : Int) (b : Int) (ha_0 : i64ok a) (hb_0 : i64ok b) (ha0 : 0 ≤ a ∧ a ≤ b ∧ b ≤ (data.length : Int) ∧ data.length ≤ 65535 ∧ 1 ≤ b - a) (rr : Bool × List Int) (hrr : sc_partialInsertionSortOrdered_int data a b = rr) : FT Tryd.prog 85 #[vl dataa0 datak0 data, vi a, vi b] [O dataa0 datak0 data] (fun g : Unit => (rr.2.length = data.length)) (fun g => vb rr.1) (fun g => [os (vl dataa0 datak0 data) rr.2]) := by
 refine FTi Tryd.func85 fun w0 M0 F0 => ?_
 unfold i64ok at ha_0 hb_0
 refine Fb 8 0 fun _ => Fo 0 fun ho2 => KS ?_
 refine Oq Va (KS ?_)
 refine Oq Vm (Oq Vadd (Oq Va (KS ?_)))
 refine Oq Va (KS ?_)
 refine Kl (γ := Nat × List Int × Int × Int) (fun (r3, data_4, i_5, j_6) => ⟨[(0, vl dataa0 datak0 data), (1, vi a), (2, vi b), (7, vi i_5), (8, vi j_6)], [os (vl dataa0 datak0 data) data_4], sc_partialInsertionSortOrdered_int_L0 data a b r3 data_4 i_5 j_6 = sc_partialInsertionSortOrdered_int_L0 data a b 5 data (a + 1) 0 ∧ r3 = ((5 : Int) - j_6).toNat ∧ (0 : Int) ≤ j_6 ∧ j_6 ≤ 5 ∧ (-9223372036854775808 ≤ i_5 ∧ i_5 ≤ 9223372036854775807) ∧ (-9223372036854775808 ≤ j_6 ∧ j_6 ≤ 9223372036854775807) ∧ (a < i_5 ∧ i_5 ≤ b), r3⟩) (5, data, (a + 1), 0) [0] ⟨rfl, rfl, aM1, aM1, aM1, aM1, iv0⟩ ?_
 rintro ⟨r3, data_4, i_5, j_6⟩ ⟨hM7, hr8, hi9, hi10, hk11, hk12, hv13⟩
 refine JJ_nx fun _ _ hL hA => ?_; dsimp only at hL hA; subst hL hA
 refine Fb 8 0 fun _ => Fo 0 fun ho15 => Fl 0 fun hn16 => ?_
 refine KS ?_
 refine Oq Vm (Oq Vlss (KS ?_))
 refine Kc ?_ ?_
 ·intro h17
  have g18 := dt h17
  obtain ⟨r19, rfl⟩ := scc (n := r3) aM1
  refine KS ?_
  refine KjD (γ := Int) (fun i_21 => ⟨[(0, vl dataa0 datak0 data), (1, vi a), (2, vi b), (7, vi i_21), (8, vi j_6)], [os (vl dataa0 datak0 data) data_4], sc_partialInsertionSortOrdered_int_L1 data_4 (((b : Int) - i_5).toNat) i_5 = i_21 ∧ (i_5 : Int) ≤ i_21 ∧ (i_21 ≤ b ∨ i_21 = i_5) ∧ (-9223372036854775808 ≤ i_21 ∧ i_21 ≤ 9223372036854775807), 0⟩) ?_ ?_
  ·skip
   refine Kl (γ := Nat × Int) (fun (r20, i_21) => ⟨[(0, vl dataa0 datak0 data), (1, vi a), (2, vi b), (7, vi i_21), (8, vi j_6)], [os (vl dataa0 datak0 data) data_4], sc_partialInsertionSortOrdered_int_L1 data_4 r20 i_21 = sc_partialInsertionSortOrdered_int_L1 data_4 (((b : Int) - i_5).toNat) i_5 ∧ r20 = ((b : Int) - i_21).toNat ∧ (i_5 : Int) ≤ i_21 ∧ (i_21 ≤ b ∨ i_21 = i_5) ∧ (-9223372036854775808 ≤ i_21 ∧ i_21 ≤ 9223372036854775807), r20⟩) (((b : Int) - i_5).toNat, i_5) [0] ⟨rfl, rfl, aM1, (.inr rfl), aM1⟩ ?_
   rintro ⟨r20, i_21⟩ ⟨hM22, hr23, hi24, hi25, hk26⟩
   refine JJ_nx fun _ _ hL hA => ?_; dsimp only at hL hA; subst hL hA
   refine Fb 8 0 fun _ => Fo 0 fun ho29 => Fl 0 fun hn30 => ?_
   refine KS ?_
   refine JK_drawK [0, 0, 3, 7, 15, 15, 63, 127, 15, 15, 527, 1807, 3855, 8191, 16383, 32767] fmix ?_
   refine Dv [] Vm (Dv [] Vm (Dv [] Vlss ?_))
   refine bool_split (decide (i_21 < b)) ?_ ?_
   ·intro h31
    have g32 := dt h31
    obtain ⟨r33, rfl⟩ := scc (n := r20) aM1
    refine Db h31 [] Vm (Dv [] Vm (Dv [] Vm (Dv [0] (Vi sl22 0) ?_)))
    have hb34 := ok1 (i := i_21.toNat) ho29 rng
    refine Dv [0] (VldI sh3 0) (Dv [] Vm (Dv [] Vm (Dv [] Vsub (Dv [0] (Vi sl22 0) ?_))))
    have hb35 := ok1 (i := ((i_21 - 1) : Int).toNat) ho29 rng
    refine Dv [0] (VldI sh3 0) ?_
    refine letv (cmp_Less_int (data_4.getD i_21.toNat 0) (data_4.getD ((i_21 - 1) : Int).toNat 0)) fun rv36 hg37 => ?_
    refine Dx [] [] [0] (fun G => vb rv36) [fun G => SP.fact (True)] (fun G => xC [] ca86 (fn86 ((data_4.getD i_21.toNat 0)) ((data_4.getD ((i_21 - 1) : Int).toNat 0)) pre pre rv36 hg37)) (Dv [] Vnot (Dv [] Vpt ?_))
    refine Dn ⟨by kernel_rfl, fun G => ?_⟩
    refine Jw2 [(0, vl dataa0 datak0 data), (1, vi a), (2, vi b), (7, vi i_21), (8, vi j_6), (32, vb (!rv36))] [0] [SP.fact (True)] ?_
    refine Jk [0] ?_
    refine Kc ?_ ?_
    ·intro h38
     have h40 := not_true h38
     refine KS ?_
     refine Oq Vm (Oq Vadd (Oq Va (KS ?_)))
     exact Kg (r33, (i_21 + 1)) [0] ⟨(q3 hM22 (by simp only [sc_partialInsertionSortOrdered_int_L1, h17, h31, h38, h40, hg37, cs4])), aM1, aM1, aM1, aM1⟩
    intro h38
    have h43 := not_false h38
    refine Ke ?_
    have hR45 := q2 hM22 i_21 (by simp only [sc_partialInsertionSortOrdered_int_L1, h17, h31, h38, h43, hg37, cs4])
    exact Kg i_21 [0] ⟨(by assumption), (by first | assumption | omega), (by first | assumption | omega), (by first | assumption | omega)⟩
   intro h31
   have g46 := df h31
   obtain rfl : r20 = 0 := by omega
   refine Db h31 [] Vm (Ds (Ds (Ds (Ds (Ds (Ds (Ds (Ds (Ds ?_)))))))))
   refine Ds (Ds (Dv [] Vpf ?_))
   refine Dn ⟨by kernel_rfl, fun G => ?_⟩
   refine Jw2 [(0, vl dataa0 datak0 data), (1, vi a), (2, vi b), (7, vi i_21), (8, vi j_6), (32, vb false)] [0] [] ?_
   refine Kf ?_
   refine Ke ?_
   have hR47 := q2 hM22 i_21 (by simp only [sc_partialInsertionSortOrdered_int_L1, h17, h31, cs4])
   exact Kg i_21 [0] ⟨(by assumption), (by first | assumption | omega), (by first | assumption | omega), (by first | assumption | omega)⟩
  rintro i_21 ⟨hR27, hi24, hi25, hk26⟩
  refine JJ_nx fun _ _ hL hA => ?_; dsimp only at hL hA; subst hL hA
  refine Fb 8 0 fun _ => Fo 0 fun ho49 => Fl 0 fun hn50 => ?_
  refine KS ?_
  refine Oq Vm (Oq Vm (Oq Veql (KS ?_)))
  refine Kc ?_ ?_
  ·intro h51
   have g52 := eq_of_beq h51
   refine KS ?_
   refine Oq Va (KS ?_)
   refine Fl 0 fun hn53 => ?_
   have hR54 := q2 hM7 (.ret (true, data_4)) (by simp only [sc_partialInsertionSortOrdered_int_L0, h17, h51, hR27, cs4])
   have hq := q4 hrr (true, data_4) (by simp only [sc_partialInsertionSortOrdered_int, h17, h51, hR27, hR54, cs4]); subst hq
   exact Kr () rfl (.tmp rfl .nil) [0] en
  intro h51
  have g55 := ne_of_beq_false h51
  refine KS ?_
  refine Oq Vm (Oq Vm (Oq Vsub (Oq Vlss (KS ?_))))
  refine Kc ?_ ?_
  ·intro h56
   have g57 := dt h56
   refine KS ?_
   refine Oq Va (KS ?_)
   refine Fl 0 fun hn58 => ?_
   have hR59 := q2 hM7 (.ret (false, data_4)) (by simp only [sc_partialInsertionSortOrdered_int_L0, h17, h51, h56, hR27, cs4])
   have hq := q4 hrr (false, data_4) (by simp only [sc_partialInsertionSortOrdered_int, h17, h51, h56, hR27, hR59, cs4]); subst hq
   exact Kr () rfl (.tmp rfl .nil) [0] en
  intro h56
  have g60 := df h56
  refine KS ?_
  refine JK_drawK [0, 0, 0, 0, 8, 0, 0, 64, 224, 480, 0, 0, 3072, 7168, 16355, 32739, 65535, 131071] fmix ?_
  refine Dv [] Vm (Dv [] Vm (Dv [] Vm (Dv [] Vm (Dv [] Vsub (Dv [] Vm (Dv [] Vm (Dv [] Vsub (Dv [0] (Vi sl22 0) ?_))))))))
  have hb61 := ok1 (i := ((i_21 - 1) : Int).toNat) ho49 rng
  refine Dv [0] (VldI sh3 0) (Dv [] Vm (Dv [] Vm (Dv [0] (Vi sl22 0) ?_)))
  have hb62 := ok1 (i := i_21.toNat) ho49 rng
  refine Dv [0] (VldI sh3 0) (Dv [0] (Vi sl22 0) (Dx0 [0] [0] [0] [fun G => os (vl dataa0 datak0 data) (data_4.set i_21.toNat (data_4.getD ((i_21 - 1) : Int).toNat 0))] (fun G => xS (SoI [0] sh3)) (Dv [1] (Vi sl22 0) (Dx0 [1] [1] [0] [fun G => os (vl dataa0 datak0 data) ((data_4.set i_21.toNat (data_4.getD ((i_21 - 1) : Int).toNat 0)).set ((i_21 - 1) : Int).toNat (data_4.getD i_21.toNat 0))] (fun G => xS (SoI [0] sh3)) ?_))))
  refine Dn ⟨by kernel_rfl, fun G => ?_⟩
  refine Jw2 [(0, vl dataa0 datak0 data), (1, vi a), (2, vi b), (7, vi i_21), (8, vi j_6)] [] [os (vl dataa0 datak0 data) ((data_4.set i_21.toNat (data_4.getD ((i_21 - 1) : Int).toNat 0)).set ((i_21 - 1) : Int).toNat (data_4.getD i_21.toNat 0))] ?_
  refine KS ?_
  refine Oq Vm (Oq Vm (Oq Vsub (Oq Vgeq (KS ?_))))
  refine Kc ?_ ?_
  ·intro h63
   have g64 := dt h63
   refine KS ?_
   refine Oq Vm (Oq Vsub (Oq Va (KS ?_)))
   have hterm71 : sc_partialInsertionSortOrdered_int_L2 (data.length + 1) ((data_4.set i_21.toNat (data_4.getD ((i_21 - 1) : Int).toNat 0)).set ((i_21 - 1) : Int).toNat (data_4.getD i_21.toNat 0)) (i_21 - 1) ≠ LR.oof := (pin2_t _ _ _ aM1 aM1)
   refine KjD (γ := List Int × Int) (fun (data_66, j_67) => ⟨[(0, vl dataa0 datak0 data), (1, vi a), (2, vi b), (7, vi i_21), (8, vi j_6)], [os (vl dataa0 datak0 data) data_66], sc_partialInsertionSortOrdered_int_L2 (data.length + 1) ((data_4.set i_21.toNat (data_4.getD ((i_21 - 1) : Int).toNat 0)).set ((i_21 - 1) : Int).toNat (data_4.getD i_21.toNat 0)) (i_21 - 1) = .brk data_66 ∧ (-9223372036854775808 ≤ j_67 ∧ j_67 ≤ 9223372036854775807) ∧ (0 ≤ j_67 ∧ j_67 ≤ b - 1), 0⟩) ?_ ?_
   ·skip
    refine Kl (γ := Nat × List Int × Int) (fun (r65, data_66, j_67) => ⟨[(0, vl dataa0 datak0 data), (1, vi a), (2, vi b), (7, vi i_21), (8, vi j_6), (9, vi j_67)], [os (vl dataa0 datak0 data) data_66], sc_partialInsertionSortOrdered_int_L2 r65 data_66 j_67 = sc_partialInsertionSortOrdered_int_L2 (data.length + 1) ((data_4.set i_21.toNat (data_4.getD ((i_21 - 1) : Int).toNat 0)).set ((i_21 - 1) : Int).toNat (data_4.getD i_21.toNat 0)) (i_21 - 1) ∧ (-9223372036854775808 ≤ j_67 ∧ j_67 ≤ 9223372036854775807) ∧ (0 ≤ j_67 ∧ j_67 ≤ b - 1), r65⟩) ((data.length + 1), ((data_4.set i_21.toNat (data_4.getD ((i_21 - 1) : Int).toNat 0)).set ((i_21 - 1) : Int).toNat (data_4.getD i_21.toNat 0)), (i_21 - 1)) [0] ⟨rfl, aM1, iv0⟩ ?_
    rintro ⟨r65, data_66, j_67⟩ ⟨hM68, hk69, hv70⟩
    refine JJ_nx fun _ _ hL hA => ?_; dsimp only at hL hA; subst hL hA
    refine Fb 8 0 fun _ => Fo 0 fun ho74 => Fl 0 fun hn75 => ?_
    rcases r65 with _ | r65
    ·exact absurd (hM68.symm.trans rfl) hterm71
    refine KS ?_
    refine Oq Vm (Oq Vgeq (KS ?_))
    refine Kc ?_ ?_
    ·intro h76
     have g77 := dt h76
     refine KS ?_
     refine JK_drawK [0, 0, 3, 7, 0, 0, 32, 112, 240, 511, 1023] fmix ?_
     refine Dv [] Vm (Dv [] Vm (Dv [0] (Vi sl22 0) ?_))
     have hb78 := ok1 (i := j_67.toNat) ho74 rng
     refine Dv [0] (VldI sh3 0) (Dv [] Vm (Dv [] Vm (Dv [] Vsub (Dv [0] (Vi sl22 0) ?_))))
     have hb79 := ok1 (i := ((j_67 - 1) : Int).toNat) ho74 rng
     refine Dv [0] (VldI sh3 0) ?_
     refine letv (cmp_Less_int (data_66.getD j_67.toNat 0) (data_66.getD ((j_67 - 1) : Int).toNat 0)) fun rv80 hg81 => ?_
     refine Dx [] [] [0] (fun G => vb rv80) [fun G => SP.fact (True)] (fun G => xC [] ca86 (fn86 ((data_66.getD j_67.toNat 0)) ((data_66.getD ((j_67 - 1) : Int).toNat 0)) pre pre rv80 hg81)) (Dv [] Vnot ?_)
     refine Dn ⟨by kernel_rfl, fun G => ?_⟩
     refine Jw2 [(0, vl dataa0 datak0 data), (1, vi a), (2, vi b), (7, vi i_21), (8, vi j_6), (9, vi j_67), (78, vb (!rv80))] [0] [SP.fact (True)] ?_
     refine Jk [0] ?_
     refine Kc ?_ ?_
     ·intro h82
      have h84 := not_true h82
      refine Ke ?_
      have hR86 := q2 hM68 (.brk data_66) (by simp only [sc_partialInsertionSortOrdered_int_L2, h17, h51, h56, h63, h76, h82, h84, hR27, hg81, cs4])
      exact Kg (data_66, j_67) [0] ⟨(by assumption), (by first | assumption | omega), (by first | assumption | omega)⟩
     intro h82
     have h88 := not_false h82
     refine KS ?_
     refine JK_drawK [0, 0, 0, 0, 8, 0, 0, 64, 224, 480, 0, 0, 3072, 7168, 16355, 32739, 65535, 131071] fmix ?_
     refine Dv [] Vm (Dv [] Vm (Dv [] Vm (Dv [] Vm (Dv [] Vsub (Dv [] Vm (Dv [] Vm (Dv [] Vsub (Dv [0] (Vi sl22 0) ?_))))))))
     have hb90 := ok1 (i := ((j_67 - 1) : Int).toNat) ho74 rng
     refine Dv [0] (VldI sh3 0) (Dv [] Vm (Dv [] Vm (Dv [0] (Vi sl22 0) ?_)))
     have hb91 := ok1 (i := j_67.toNat) ho74 rng
     refine Dv [0] (VldI sh3 0) (Dv [0] (Vi sl22 0) (Dx0 [0] [0] [0] [fun G => os (vl dataa0 datak0 data) (data_66.set j_67.toNat (data_66.getD ((j_67 - 1) : Int).toNat 0))] (fun G => xS (SoI [0] sh3)) (Dv [1] (Vi sl22 0) (Dx0 [1] [1] [0] [fun G => os (vl dataa0 datak0 data) ((data_66.set j_67.toNat (data_66.getD ((j_67 - 1) : Int).toNat 0)).set ((j_67 - 1) : Int).toNat (data_66.getD j_67.toNat 0))] (fun G => xS (SoI [0] sh3)) ?_))))
     refine Dn ⟨by kernel_rfl, fun G => ?_⟩
     refine Jw2 [(0, vl dataa0 datak0 data), (1, vi a), (2, vi b), (7, vi i_21), (8, vi j_6), (9, vi j_67)] [] [os (vl dataa0 datak0 data) ((data_66.set j_67.toNat (data_66.getD ((j_67 - 1) : Int).toNat 0)).set ((j_67 - 1) : Int).toNat (data_66.getD j_67.toNat 0))] ?_
     refine KS ?_
     refine Oq Vm (Oq Vsub (Oq Va (KS ?_)))
     exact Kg (r65, ((data_66.set j_67.toNat (data_66.getD ((j_67 - 1) : Int).toNat 0)).set ((j_67 - 1) : Int).toNat (data_66.getD j_67.toNat 0)), (j_67 - 1)) [0] ⟨(q3 hM68 (by simp only [sc_partialInsertionSortOrdered_int_L2, h17, h51, h56, h63, h76, h82, h88, hR27, hg81, cs4])), aM1, iv1⟩
    intro h76
    have g92 := df h76
    refine Ke ?_
    have hR93 := q2 hM68 (.brk data_66) (by simp only [sc_partialInsertionSortOrdered_int_L2, h17, h51, h56, h63, h76, hR27, cs4])
    exact Kg (data_66, j_67) [0] ⟨(by assumption), (by first | assumption | omega), (by first | assumption | omega)⟩
   rintro ⟨data_66, j_67⟩ ⟨hR72, hk69, hv70⟩
   refine JJ_nx fun _ _ hL hA => ?_; dsimp only at hL hA; subst hL hA
   refine Fb 8 0 fun _ => Fo 0 fun ho95 => Fl 0 fun hn96 => ?_
   refine KS ?_
   refine Oq Vm (Oq Vm (Oq Vsub (Oq Vgeq (KS ?_))))
   refine Kc ?_ ?_
   ·intro h97
    have g98 := dt h97
    refine KS ?_
    refine Oq Vm (Oq Vadd (Oq Va (KS ?_)))
    refine KjD (γ := List Int × Int) (fun (data_100, j_101) => ⟨[(0, vl dataa0 datak0 data), (1, vi a), (2, vi b), (7, vi i_21), (8, vi j_6)], [os (vl dataa0 datak0 data) data_100], sc_partialInsertionSortOrdered_int_L3 (((b : Int) - (i_21 + 1)).toNat) data_66 (i_21 + 1) = data_100 ∧ ((i_21 + 1) : Int) ≤ j_101 ∧ (j_101 ≤ b ∨ j_101 = (i_21 + 1)) ∧ (-9223372036854775808 ≤ j_101 ∧ j_101 ≤ 9223372036854775807), 0⟩) ?_ ?_
    ·skip
     refine Kl (γ := Nat × List Int × Int) (fun (r99, data_100, j_101) => ⟨[(0, vl dataa0 datak0 data), (1, vi a), (2, vi b), (7, vi i_21), (8, vi j_6), (10, vi j_101)], [os (vl dataa0 datak0 data) data_100], sc_partialInsertionSortOrdered_int_L3 r99 data_100 j_101 = sc_partialInsertionSortOrdered_int_L3 (((b : Int) - (i_21 + 1)).toNat) data_66 (i_21 + 1) ∧ r99 = ((b : Int) - j_101).toNat ∧ ((i_21 + 1) : Int) ≤ j_101 ∧ (j_101 ≤ b ∨ j_101 = (i_21 + 1)) ∧ (-9223372036854775808 ≤ j_101 ∧ j_101 ≤ 9223372036854775807), r99⟩) (((b : Int) - (i_21 + 1)).toNat, data_66, (i_21 + 1)) [0] ⟨rfl, rfl, aM1, (.inr rfl), aM1⟩ ?_
     rintro ⟨r99, data_100, j_101⟩ ⟨hM102, hr103, hi104, hi105, hk106⟩
     refine JJ_nx fun _ _ hL hA => ?_; dsimp only at hL hA; subst hL hA
     refine Fb 8 0 fun _ => Fo 0 fun ho109 => Fl 0 fun hn110 => ?_
     refine KS ?_
     refine Oq Vm (Oq Vm (Oq Vlss (KS ?_)))
     refine Kc ?_ ?_
     ·intro h111
      have g112 := dt h111
      obtain ⟨r113, rfl⟩ := scc (n := r99) aM1
      refine KS ?_
      refine JK_drawK [0, 0, 3, 7, 0, 0, 32, 112, 240, 511, 1023] fmix ?_
      refine Dv [] Vm (Dv [] Vm (Dv [0] (Vi sl22 0) ?_))
      have hb114 := ok1 (i := j_101.toNat) ho109 rng
      refine Dv [0] (VldI sh3 0) (Dv [] Vm (Dv [] Vm (Dv [] Vsub (Dv [0] (Vi sl22 0) ?_))))
      have hb115 := ok1 (i := ((j_101 - 1) : Int).toNat) ho109 rng
      refine Dv [0] (VldI sh3 0) ?_
      refine letv (cmp_Less_int (data_100.getD j_101.toNat 0) (data_100.getD ((j_101 - 1) : Int).toNat 0)) fun rv116 hg117 => ?_
      refine Dx [] [] [0] (fun G => vb rv116) [fun G => SP.fact (True)] (fun G => xC [] ca86 (fn86 ((data_100.getD j_101.toNat 0)) ((data_100.getD ((j_101 - 1) : Int).toNat 0)) pre pre rv116 hg117)) (Dv [] Vnot ?_)
      refine Dn ⟨by kernel_rfl, fun G => ?_⟩
      refine Jw2 [(0, vl dataa0 datak0 data), (1, vi a), (2, vi b), (7, vi i_21), (8, vi j_6), (10, vi j_101), (116, vb (!rv116))] [0] [SP.fact (True)] ?_
      refine Jk [0] ?_
      refine Kc ?_ ?_
      ·intro h118
       have h120 := not_true h118
       refine Ke ?_
       have hR122 := q2 hM102 data_100 (by simp only [sc_partialInsertionSortOrdered_int_L3, h17, h51, h56, h63, h97, h111, h118, h120, hR27, hR72, hg117, cs4])
       exact Kg (data_100, j_101) [0] ⟨(by assumption), (by first | assumption | omega), (by first | assumption | omega), (by first | assumption | omega)⟩
      intro h118
      have h124 := not_false h118
      refine KS ?_
      refine JK_drawK [0, 0, 0, 0, 8, 0, 0, 64, 224, 480, 0, 0, 3072, 7168, 16355, 32739, 65535, 131071] fmix ?_
      refine Dv [] Vm (Dv [] Vm (Dv [] Vm (Dv [] Vm (Dv [] Vsub (Dv [] Vm (Dv [] Vm (Dv [] Vsub (Dv [0] (Vi sl22 0) ?_))))))))
      have hb126 := ok1 (i := ((j_101 - 1) : Int).toNat) ho109 rng
      refine Dv [0] (VldI sh3 0) (Dv [] Vm (Dv [] Vm (Dv [0] (Vi sl22 0) ?_)))
      have hb127 := ok1 (i := j_101.toNat) ho109 rng
      refine Dv [0] (VldI sh3 0) (Dv [0] (Vi sl22 0) (Dx0 [0] [0] [0] [fun G => os (vl dataa0 datak0 data) (data_100.set j_101.toNat (data_100.getD ((j_101 - 1) : Int).toNat 0))] (fun G => xS (SoI [0] sh3)) (Dv [1] (Vi sl22 0) (Dx0 [1] [1] [0] [fun G => os (vl dataa0 datak0 data) ((data_100.set j_101.toNat (data_100.getD ((j_101 - 1) : Int).toNat 0)).set ((j_101 - 1) : Int).toNat (data_100.getD j_101.toNat 0))] (fun G => xS (SoI [0] sh3)) ?_))))
      refine Dn ⟨by kernel_rfl, fun G => ?_⟩
      refine Jw2 [(0, vl dataa0 datak0 data), (1, vi a), (2, vi b), (7, vi i_21), (8, vi j_6), (10, vi j_101)] [] [os (vl dataa0 datak0 data) ((data_100.set j_101.toNat (data_100.getD ((j_101 - 1) : Int).toNat 0)).set ((j_101 - 1) : Int).toNat (data_100.getD j_101.toNat 0))] ?_
      refine KS ?_
      refine Oq Vm (Oq Vadd (Oq Va (KS ?_)))
      exact Kg (r113, ((data_100.set j_101.toNat (data_100.getD ((j_101 - 1) : Int).toNat 0)).set ((j_101 - 1) : Int).toNat (data_100.getD j_101.toNat 0)), (j_101 + 1)) [0] ⟨(q3 hM102 (by simp only [sc_partialInsertionSortOrdered_int_L3, h17, h51, h56, h63, h97, h111, h118, h124, hR27, hR72, hg117, cs4])), aM1, aM1, aM1, aM1⟩
     intro h111
     have g128 := df h111
     obtain rfl : r99 = 0 := by omega
     refine Ke ?_
     have hR129 := q2 hM102 data_100 (by simp only [sc_partialInsertionSortOrdered_int_L3, h17, h51, h56, h63, h97, h111, hR27, hR72, cs4])
     exact Kg (data_100, j_101) [0] ⟨(by assumption), (by first | assumption | omega), (by first | assumption | omega), (by first | assumption | omega)⟩
    rintro ⟨data_100, j_101⟩ ⟨hR107, hi104, hi105, hk106⟩
    refine JJ_nx fun _ _ hL hA => ?_; dsimp only at hL hA; subst hL hA
    refine Fb 8 0 fun _ => Fo 0 fun ho131 => Fl 0 fun hn132 => ?_
    refine KS ?_
    refine Oq Vm (Oq Vadd (Oq Va (KS ?_)))
    exact Kg (r19, data_100, i_21, (j_6 + 1)) [0] ⟨(q3 hM7 (by simp only [sc_partialInsertionSortOrdered_int_L0, h17, h51, h56, h63, h97, hR27, hR72, hR107, cs4])), aM1, aM1, aM1, aM1, aM1, iv1⟩
   intro h97
   have g133 := df h97
   refine KS ?_
   refine Oq Vm (Oq Vadd (Oq Va (KS ?_)))
   exact Kg (r19, data_66, i_21, (j_6 + 1)) [0] ⟨(q3 hM7 (by simp only [sc_partialInsertionSortOrdered_int_L0, h17, h51, h56, h63, h97, hR27, hR72, cs4])), aM1, aM1, aM1, aM1, aM1, iv1⟩
  intro h63
  have g134 := df h63
  refine KS ?_
  refine Oq Vm (Oq Vm (Oq Vsub (Oq Vgeq (KS ?_))))
  refine Kc ?_ ?_
  ·intro h135
   have g136 := dt h135
   refine KS ?_
   refine Oq Vm (Oq Vadd (Oq Va (KS ?_)))
   refine KjD (γ := List Int × Int) (fun (data_138, j_139) => ⟨[(0, vl dataa0 datak0 data), (1, vi a), (2, vi b), (7, vi i_21), (8, vi j_6)], [os (vl dataa0 datak0 data) data_138], sc_partialInsertionSortOrdered_int_L3 (((b : Int) - (i_21 + 1)).toNat) ((data_4.set i_21.toNat (data_4.getD ((i_21 - 1) : Int).toNat 0)).set ((i_21 - 1) : Int).toNat (data_4.getD i_21.toNat 0)) (i_21 + 1) = data_138 ∧ ((i_21 + 1) : Int) ≤ j_139 ∧ (j_139 ≤ b ∨ j_139 = (i_21 + 1)) ∧ (-9223372036854775808 ≤ j_139 ∧ j_139 ≤ 9223372036854775807), 0⟩) ?_ ?_
   ·skip
    refine Kl (γ := Nat × List Int × Int) (fun (r137, data_138, j_139) => ⟨[(0, vl dataa0 datak0 data), (1, vi a), (2, vi b), (7, vi i_21), (8, vi j_6), (10, vi j_139)], [os (vl dataa0 datak0 data) data_138], sc_partialInsertionSortOrdered_int_L3 r137 data_138 j_139 = sc_partialInsertionSortOrdered_int_L3 (((b : Int) - (i_21 + 1)).toNat) ((data_4.set i_21.toNat (data_4.getD ((i_21 - 1) : Int).toNat 0)).set ((i_21 - 1) : Int).toNat (data_4.getD i_21.toNat 0)) (i_21 + 1) ∧ r137 = ((b : Int) - j_139).toNat ∧ ((i_21 + 1) : Int) ≤ j_139 ∧ (j_139 ≤ b ∨ j_139 = (i_21 + 1)) ∧ (-9223372036854775808 ≤ j_139 ∧ j_139 ≤ 9223372036854775807), r137⟩) (((b : Int) - (i_21 + 1)).toNat, ((data_4.set i_21.toNat (data_4.getD ((i_21 - 1) : Int).toNat 0)).set ((i_21 - 1) : Int).toNat (data_4.getD i_21.toNat 0)), (i_21 + 1)) [0] ⟨rfl, rfl, aM1, (.inr rfl), aM1⟩ ?_
    rintro ⟨r137, data_138, j_139⟩ ⟨hM140, hr141, hi142, hi143, hk144⟩
    refine JJ_nx fun _ _ hL hA => ?_; dsimp only at hL hA; subst hL hA
    refine Fb 8 0 fun _ => Fo 0 fun ho147 => Fl 0 fun hn148 => ?_
    refine KS ?_
    refine Oq Vm (Oq Vm (Oq Vlss (KS ?_)))
    refine Kc ?_ ?_
    ·intro h149
     have g150 := dt h149
     obtain ⟨r151, rfl⟩ := scc (n := r137) aM1
     refine KS ?_
     refine JK_drawK [0, 0, 3, 7, 0, 0, 32, 112, 240, 511, 1023] fmix ?_
     refine Dv [] Vm (Dv [] Vm (Dv [0] (Vi sl22 0) ?_))
     have hb152 := ok1 (i := j_139.toNat) ho147 rng
     refine Dv [0] (VldI sh3 0) (Dv [] Vm (Dv [] Vm (Dv [] Vsub (Dv [0] (Vi sl22 0) ?_))))
     have hb153 := ok1 (i := ((j_139 - 1) : Int).toNat) ho147 rng
     refine Dv [0] (VldI sh3 0) ?_
     refine letv (cmp_Less_int (data_138.getD j_139.toNat 0) (data_138.getD ((j_139 - 1) : Int).toNat 0)) fun rv154 hg155 => ?_
     refine Dx [] [] [0] (fun G => vb rv154) [fun G => SP.fact (True)] (fun G => xC [] ca86 (fn86 ((data_138.getD j_139.toNat 0)) ((data_138.getD ((j_139 - 1) : Int).toNat 0)) pre pre rv154 hg155)) (Dv [] Vnot ?_)
     refine Dn ⟨by kernel_rfl, fun G => ?_⟩
     refine Jw2 [(0, vl dataa0 datak0 data), (1, vi a), (2, vi b), (7, vi i_21), (8, vi j_6), (10, vi j_139), (116, vb (!rv154))] [0] [SP.fact (True)] ?_
     refine Jk [0] ?_
     refine Kc ?_ ?_
     ·intro h156
      have h158 := not_true h156
      refine Ke ?_
      have hR160 := q2 hM140 data_138 (by simp only [sc_partialInsertionSortOrdered_int_L3, h17, h51, h56, h63, h135, h149, h156, h158, hR27, hg155, cs4])
      exact Kg (data_138, j_139) [0] ⟨(by assumption), (by first | assumption | omega), (by first | assumption | omega), (by first | assumption | omega)⟩
     intro h156
     have h162 := not_false h156
     refine KS ?_
     refine JK_drawK [0, 0, 0, 0, 8, 0, 0, 64, 224, 480, 0, 0, 3072, 7168, 16355, 32739, 65535, 131071] fmix ?_
     refine Dv [] Vm (Dv [] Vm (Dv [] Vm (Dv [] Vm (Dv [] Vsub (Dv [] Vm (Dv [] Vm (Dv [] Vsub (Dv [0] (Vi sl22 0) ?_))))))))
     have hb164 := ok1 (i := ((j_139 - 1) : Int).toNat) ho147 rng
     refine Dv [0] (VldI sh3 0) (Dv [] Vm (Dv [] Vm (Dv [0] (Vi sl22 0) ?_)))
     have hb165 := ok1 (i := j_139.toNat) ho147 rng
     refine Dv [0] (VldI sh3 0) (Dv [0] (Vi sl22 0) (Dx0 [0] [0] [0] [fun G => os (vl dataa0 datak0 data) (data_138.set j_139.toNat (data_138.getD ((j_139 - 1) : Int).toNat 0))] (fun G => xS (SoI [0] sh3)) (Dv [1] (Vi sl22 0) (Dx0 [1] [1] [0] [fun G => os (vl dataa0 datak0 data) ((data_138.set j_139.toNat (data_138.getD ((j_139 - 1) : Int).toNat 0)).set ((j_139 - 1) : Int).toNat (data_138.getD j_139.toNat 0))] (fun G => xS (SoI [0] sh3)) ?_))))
     refine Dn ⟨by kernel_rfl, fun G => ?_⟩
     refine Jw2 [(0, vl dataa0 datak0 data), (1, vi a), (2, vi b), (7, vi i_21), (8, vi j_6), (10, vi j_139)] [] [os (vl dataa0 datak0 data) ((data_138.set j_139.toNat (data_138.getD ((j_139 - 1) : Int).toNat 0)).set ((j_139 - 1) : Int).toNat (data_138.getD j_139.toNat 0))] ?_
     refine KS ?_
     refine Oq Vm (Oq Vadd (Oq Va (KS ?_)))
     exact Kg (r151, ((data_138.set j_139.toNat (data_138.getD ((j_139 - 1) : Int).toNat 0)).set ((j_139 - 1) : Int).toNat (data_138.getD j_139.toNat 0)), (j_139 + 1)) [0] ⟨(q3 hM140 (by simp only [sc_partialInsertionSortOrdered_int_L3, h17, h51, h56, h63, h135, h149, h156, h162, hR27, hg155, cs4])), aM1, aM1, aM1, aM1⟩
    intro h149
    have g166 := df h149
    obtain rfl : r137 = 0 := by omega
    refine Ke ?_
    have hR167 := q2 hM140 data_138 (by simp only [sc_partialInsertionSortOrdered_int_L3, h17, h51, h56, h63, h135, h149, hR27, cs4])
    exact Kg (data_138, j_139) [0] ⟨(by assumption), (by first | assumption | omega), (by first | assumption | omega), (by first | assumption | omega)⟩
   rintro ⟨data_138, j_139⟩ ⟨hR145, hi142, hi143, hk144⟩
   refine JJ_nx fun _ _ hL hA => ?_; dsimp only at hL hA; subst hL hA
   refine Fb 8 0 fun _ => Fo 0 fun ho169 => Fl 0 fun hn170 => ?_
   refine KS ?_
   refine Oq Vm (Oq Vadd (Oq Va (KS ?_)))
   exact Kg (r19, data_138, i_21, (j_6 + 1)) [0] ⟨(q3 hM7 (by simp only [sc_partialInsertionSortOrdered_int_L0, h17, h51, h56, h63, h135, hR27, hR145, cs4])), aM1, aM1, aM1, aM1, aM1, iv1⟩
  intro h135
  have g171 := df h135
  refine KS ?_
  refine Oq Vm (Oq Vadd (Oq Va (KS ?_)))
  exact Kg (r19, ((data_4.set i_21.toNat (data_4.getD ((i_21 - 1) : Int).toNat 0)).set ((i_21 - 1) : Int).toNat (data_4.getD i_21.toNat 0)), i_21, (j_6 + 1)) [0] ⟨(q3 hM7 (by simp only [sc_partialInsertionSortOrdered_int_L0, h17, h51, h56, h63, h135, hR27, cs4])), aM1, aM1, aM1, aM1, aM1, iv1⟩
 intro h17
 have g172 := df h17
 obtain rfl : r3 = 0 := by omega
 refine Ke ?_
 have hR173 := q2 hM7 (.brk data_4) (by simp only [sc_partialInsertionSortOrdered_int_L0, h17, cs4])
 refine KS ?_
 refine Oq Va (KS ?_)
 refine Fl 0 fun hn174 => ?_
 have hq := q4 hrr (false, data_4) (by simp only [sc_partialInsertionSortOrdered_int, h17, hR173, cs4]); subst hq
 exact Kr () rfl (.tmp rfl .nil) [0] en
theorem fn87 (data : List Int) (dataa0 : Option Addr) (datak0 : Nat) (a : Int) (b : Int) (pivot : Int) (ha_0 : i64ok a) (hb_0 : i64ok b) (hpivot_0 : i64ok pivot) (ha0 : 0 ≤ a ∧ a ≤ b ∧ b ≤ (data.length : Int) ∧ data.length ≤ 65535 ∧ a ≤ pivot ∧ pivot < b) (rr : Int × List Int) (hrr : sc_partitionEqualOrdered_int data a b pivot = rr) : FT Tryd.prog 87 #[vl dataa0 datak0 data, vi a, vi b, vi pivot] [O dataa0 datak0 data] (fun g : Unit => i64ok rr.1 ∧ (a < rr.1 ∧ rr.1 ≤ b) ∧ (rr.2.length = data.length)) (fun g => vi rr.1) (fun g => [os (vl dataa0 datak0 data) rr.2]) := by
 refine FTi Tryd.func87 fun w0 M0 F0 => ?_
 unfold i64ok at ha_0 hb_0 hpivot_0
 refine Fb 8 0 fun _ => Fo 0 fun ho2 => KS ?_
 refine Oq Va (KS ?_)
 refine JK_drawK [0, 0, 0, 0, 0, 0, 48, 112, 0, 0, 768, 1792, 4083, 8179, 16383, 32767] fmix ?_
 refine Dv [] Vm (Dv [] Vm (Dv [] Vm (Dv [] Vm (Dv [] Vm (Dv [] Vm (Dv [0] (Vi sl22 0) ?_))))))
 have hb3 := ok1 (i := pivot.toNat) ho2 rng
 refine Dv [0] (VldI sh3 0) (Dv [] Vm (Dv [] Vm (Dv [0] (Vi sl22 0) ?_)))
 have hb4 := ok1 (i := a.toNat) ho2 rng
 refine Dv [0] (VldI sh3 0) (Dv [0] (Vi sl22 0) (Dx0 [0] [0] [0] [fun G => os (vl dataa0 datak0 data) (data.set a.toNat (data.getD pivot.toNat 0))] (fun G => xS (SoI [0] sh3)) (Dv [1] (Vi sl22 0) (Dx0 [1] [1] [0] [fun G => os (vl dataa0 datak0 data) ((data.set a.toNat (data.getD pivot.toNat 0)).set pivot.toNat (data.getD a.toNat 0))] (fun G => xS (SoI [0] sh3)) ?_))))
 refine Dn ⟨by kernel_rfl, fun G => ?_⟩
 refine Jw2 [(0, vl dataa0 datak0 data), (1, vi a), (2, vi b)] [] [os (vl dataa0 datak0 data) ((data.set a.toNat (data.getD pivot.toNat 0)).set pivot.toNat (data.getD a.toNat 0))] ?_
 refine KS ?_
 refine Oq Vm (Oq Vadd (Oq Vm (Oq Vsub (Oq Va (Oq Va (KS ?_))))))
 have hterm13 : sc_partitionEqualOrdered_int_L0 a b ((b - a).toNat + 2) ((data.set a.toNat (data.getD pivot.toNat 0)).set pivot.toNat (data.getD a.toNat 0)) (a + 1) (b - 1) ≠ LR.oof := (pe0_t _ _ _ _ aM1 aM1 aM1 aM1 aM1)
 refine Kl (γ := Nat × List Int × Int × Int) (fun (r5, data_6, i_7, j_8) => ⟨[(0, vl dataa0 datak0 data), (1, vi a), (9, vi i_7), (10, vi j_8)], [os (vl dataa0 datak0 data) data_6], sc_partitionEqualOrdered_int_L0 a b r5 data_6 i_7 j_8 = sc_partitionEqualOrdered_int_L0 a b ((b - a).toNat + 2) ((data.set a.toNat (data.getD pivot.toNat 0)).set pivot.toNat (data.getD a.toNat 0)) (a + 1) (b - 1) ∧ (-9223372036854775808 ≤ i_7 ∧ i_7 ≤ 9223372036854775807) ∧ (-9223372036854775808 ≤ j_8 ∧ j_8 ≤ 9223372036854775807) ∧ (a + 1 ≤ i_7 ∧ i_7 ≤ j_8 + 2 ∧ j_8 ≤ b - 1 ∧ i_7 ≤ b), r5⟩) (((b - a).toNat + 2), ((data.set a.toNat (data.getD pivot.toNat 0)).set pivot.toNat (data.getD a.toNat 0)), (a + 1), (b - 1)) [0] ⟨rfl, aM1, aM1, iv0⟩ ?_
 rintro ⟨r5, data_6, i_7, j_8⟩ ⟨hM9, hk10, hk11, hv12⟩
 refine JJ_nx fun _ _ hL hA => ?_; dsimp only at hL hA; subst hL hA
 refine Fb 8 0 fun _ => Fo 0 fun ho15 => Fl 0 fun hn16 => ?_
 rcases r5 with _ | r5
 ·exact absurd (hM9.symm.trans rfl) hterm13
 refine KS ?_
 have hterm22 : sc_partitionEqualOrdered_int_L1 a data_6 j_8 ((b - a).toNat + 2) i_7 ≠ LR.oof := (pe1_t aM1 aM1)
 refine KjD (γ := Int) (fun i_18 => ⟨[(0, vl dataa0 datak0 data), (1, vi a), (9, vi i_18), (10, vi j_8)], [os (vl dataa0 datak0 data) data_6], sc_partitionEqualOrdered_int_L1 a data_6 j_8 ((b - a).toNat + 2) i_7 = .brk i_18 ∧ (-9223372036854775808 ≤ i_18 ∧ i_18 ≤ 9223372036854775807) ∧ (i_7 ≤ i_18 ∧ (i_18 ≤ j_8 + 1 ∨ i_18 = i_7)), 0⟩) ?_ ?_
 ·skip
  refine Kl (γ := Nat × Int) (fun (r17, i_18) => ⟨[(0, vl dataa0 datak0 data), (1, vi a), (9, vi i_18), (10, vi j_8)], [os (vl dataa0 datak0 data) data_6], sc_partitionEqualOrdered_int_L1 a data_6 j_8 r17 i_18 = sc_partitionEqualOrdered_int_L1 a data_6 j_8 ((b - a).toNat + 2) i_7 ∧ (-9223372036854775808 ≤ i_18 ∧ i_18 ≤ 9223372036854775807) ∧ (i_7 ≤ i_18 ∧ (i_18 ≤ j_8 + 1 ∨ i_18 = i_7)), r17⟩) (((b - a).toNat + 2), i_7) [0] ⟨rfl, aM1, iv0⟩ ?_
  rintro ⟨r17, i_18⟩ ⟨hM19, hk20, hv21⟩
  refine JJ_nx fun _ _ hL hA => ?_; dsimp only at hL hA; subst hL hA
  refine Fb 8 0 fun _ => Fo 0 fun ho25 => Fl 0 fun hn26 => ?_
  rcases r17 with _ | r17
  ·exact absurd (hM19.symm.trans rfl) hterm22
  refine KS ?_
  refine JK_drawK [0, 0, 3, 7, 15, 15, 63, 127, 15, 15, 783, 1807, 4095, 8191, 16383] fmix ?_
  refine Dv [] Vm (Dv [] Vm (Dv [] Vleq ?_))
  refine bool_split (decide (i_18 ≤ j_8)) ?_ ?_
  ·intro h27
   have g28 := dt h27
   refine Db h27 [] Vm (Dv [] Vm (Dv [] Vm (Dv [0] (Vi sl22 0) ?_)))
   have hb29 := ok1 (i := a.toNat) ho25 rng
   refine Dv [0] (VldI sh3 0) (Dv [] Vm (Dv [] Vm (Dv [0] (Vi sl22 0) ?_)))
   have hb30 := ok1 (i := i_18.toNat) ho25 rng
   refine Dv [0] (VldI sh3 0) ?_
   refine letv (cmp_Less_int (data_6.getD a.toNat 0) (data_6.getD i_18.toNat 0)) fun rv31 hg32 => ?_
   refine Dx [] [] [0] (fun G => vb rv31) [fun G => SP.fact (True)] (fun G => xC [] ca86 (fn86 ((data_6.getD a.toNat 0)) ((data_6.getD i_18.toNat 0)) pre pre rv31 hg32)) (Dv [] Vnot (Dv [] Vpt ?_))
   refine Dn ⟨by kernel_rfl, fun G => ?_⟩
   refine Jw2 [(0, vl dataa0 datak0 data), (1, vi a), (9, vi i_18), (10, vi j_8), (43, vb (!rv31))] [0] [SP.fact (True)] ?_
   refine Jk [0] ?_
   refine Kc ?_ ?_
   ·intro h33
    have h35 := not_true h33
    refine KS ?_
    refine Oq Vm (Oq Vadd (Oq Va (KS ?_)))
    exact Kg (r17, (i_18 + 1)) [0] ⟨(q3 hM19 (by simp only [sc_partitionEqualOrdered_int_L1, h27, h33, h35, hg32, cs4])), aM1, iv1⟩
   intro h33
   have h38 := not_false h33
   refine Ke ?_
   have hR40 := q2 hM19 (.brk i_18) (by simp only [sc_partitionEqualOrdered_int_L1, h27, h33, h38, hg32, cs4])
   exact Kg i_18 [0] ⟨(by assumption), (by first | assumption | omega), (by first | assumption | omega)⟩
  intro h27
  have g41 := df h27
  refine Db h27 [] Vm (Ds (Ds (Ds (Ds (Ds (Ds (Ds (Ds (Ds ?_)))))))))
  refine Ds (Dv [] Vpf ?_)
  refine Dn ⟨by kernel_rfl, fun G => ?_⟩
  refine Jw2 [(0, vl dataa0 datak0 data), (1, vi a), (9, vi i_18), (10, vi j_8), (43, vb false)] [0] [] ?_
  refine Kf ?_
  refine Ke ?_
  have hR42 := q2 hM19 (.brk i_18) (by simp only [sc_partitionEqualOrdered_int_L1, h27, cs4])
  exact Kg i_18 [0] ⟨(by assumption), (by first | assumption | omega), (by first | assumption | omega)⟩
 rintro i_18 ⟨hR23, hk20, hv21⟩
 refine JJ_nx fun _ _ hL hA => ?_; dsimp only at hL hA; subst hL hA
 refine Fb 8 0 fun _ => Fo 0 fun ho44 => Fl 0 fun hn45 => ?_
 refine KS ?_
 have hterm51 : sc_partitionEqualOrdered_int_L2 a data_6 i_18 ((b - a).toNat + 2) j_8 ≠ LR.oof := (pe2_t aM1 aM1)
 refine KjD (γ := Int) (fun j_47 => ⟨[(0, vl dataa0 datak0 data), (1, vi a), (9, vi i_18), (10, vi j_47)], [os (vl dataa0 datak0 data) data_6], sc_partitionEqualOrdered_int_L2 a data_6 i_18 ((b - a).toNat + 2) j_8 = .brk j_47 ∧ (-9223372036854775808 ≤ j_47 ∧ j_47 ≤ 9223372036854775807) ∧ (j_47 ≤ j_8 ∧ (i_18 - 1 ≤ j_47 ∨ j_47 = j_8)), 0⟩) ?_ ?_
 ·skip
  refine Kl (γ := Nat × Int) (fun (r46, j_47) => ⟨[(0, vl dataa0 datak0 data), (1, vi a), (9, vi i_18), (10, vi j_47)], [os (vl dataa0 datak0 data) data_6], sc_partitionEqualOrdered_int_L2 a data_6 i_18 r46 j_47 = sc_partitionEqualOrdered_int_L2 a data_6 i_18 ((b - a).toNat + 2) j_8 ∧ (-9223372036854775808 ≤ j_47 ∧ j_47 ≤ 9223372036854775807) ∧ (j_47 ≤ j_8 ∧ (i_18 - 1 ≤ j_47 ∨ j_47 = j_8)), r46⟩) (((b - a).toNat + 2), j_8) [0] ⟨rfl, aM1, iv0⟩ ?_
  rintro ⟨r46, j_47⟩ ⟨hM48, hk49, hv50⟩
  refine JJ_nx fun _ _ hL hA => ?_; dsimp only at hL hA; subst hL hA
  refine Fb 8 0 fun _ => Fo 0 fun ho54 => Fl 0 fun hn55 => ?_
  rcases r46 with _ | r46
  ·exact absurd (hM48.symm.trans rfl) hterm51
  refine KS ?_
  refine JK_drawK [0, 0, 3, 7, 15, 15, 63, 127, 15, 15, 783, 1807, 4095, 8191] fmix ?_
  refine Dv [] Vm (Dv [] Vm (Dv [] Vleq ?_))
  refine bool_split (decide (i_18 ≤ j_47)) ?_ ?_
  ·intro h56
   have g57 := dt h56
   refine Db h56 [] Vm (Dv [] Vm (Dv [] Vm (Dv [0] (Vi sl22 0) ?_)))
   have hb58 := ok1 (i := a.toNat) ho54 rng
   refine Dv [0] (VldI sh3 0) (Dv [] Vm (Dv [] Vm (Dv [0] (Vi sl22 0) ?_)))
   have hb59 := ok1 (i := j_47.toNat) ho54 rng
   refine Dv [0] (VldI sh3 0) ?_
   refine letv (cmp_Less_int (data_6.getD a.toNat 0) (data_6.getD j_47.toNat 0)) fun rv60 hg61 => ?_
   refine Dx [] [] [0] (fun G => vb rv60) [fun G => SP.fact (True)] (fun G => xC [] ca86 (fn86 ((data_6.getD a.toNat 0)) ((data_6.getD j_47.toNat 0)) pre pre rv60 hg61)) (Dv [] Vpt ?_)
   refine Dn ⟨by kernel_rfl, fun G => ?_⟩
   refine Jw2 [(0, vl dataa0 datak0 data), (1, vi a), (9, vi i_18), (10, vi j_47), (59, vb rv60)] [0] [SP.fact (True)] ?_
   refine Jk [0] ?_
   refine Kc ?_ ?_
   ·intro h62
    refine KS ?_
    refine Oq Vm (Oq Vsub (Oq Va (KS ?_)))
    exact Kg (r46, (j_47 - 1)) [0] ⟨(q3 hM48 (by simp only [sc_partitionEqualOrdered_int_L2, h56, h62, hR23, hg61, cs4])), aM1, iv1⟩
   intro h62
   refine Ke ?_
   have hR65 := q2 hM48 (.brk j_47) (by simp only [sc_partitionEqualOrdered_int_L2, h56, h62, hR23, hg61, cs4])
   exact Kg j_47 [0] ⟨(by assumption), (by first | assumption | omega), (by first | assumption | omega)⟩
  intro h56
  have g66 := df h56
  refine Db h56 [] Vm (Ds (Ds (Ds (Ds (Ds (Ds (Ds (Ds (Ds ?_)))))))))
  refine Dv [] Vpf ?_
  refine Dn ⟨by kernel_rfl, fun G => ?_⟩
  refine Jw2 [(0, vl dataa0 datak0 data), (1, vi a), (9, vi i_18), (10, vi j_47), (59, vb false)] [0] [] ?_
  refine Kf ?_
  refine Ke ?_
  have hR67 := q2 hM48 (.brk j_47) (by simp only [sc_partitionEqualOrdered_int_L2, h56, hR23, cs4])
  exact Kg j_47 [0] ⟨(by assumption), (by first | assumption | omega), (by first | assumption | omega)⟩
 rintro j_47 ⟨hR52, hk49, hv50⟩
 refine JJ_nx fun _ _ hL hA => ?_; dsimp only at hL hA; subst hL hA
 refine Fb 8 0 fun _ => Fo 0 fun ho69 => Fl 0 fun hn70 => ?_
 refine KS ?_
 refine Oq Vm (Oq Vm (Oq Vgtr (KS ?_)))
 refine Kc ?_ ?_
 ·intro h71
  have g72 := dt h71
  refine Ke ?_
  have hR73 := q2 hM9 (.brk (data_6, i_18)) (by simp only [sc_partitionEqualOrdered_int_L0, h71, hR23, hR52, cs4])
  refine KS ?_
  refine Oq Vm (Oq Va (KS ?_))
  refine Fl 0 fun hn74 => ?_
  have hq := q4 hrr (i_18, data_6) (by simp only [sc_partitionEqualOrdered_int, h71, hR23, hR52, hR73, cs4]); subst hq
  exact Kr () rfl (.tmp rfl .nil) [0] en
 intro h71
 have g75 := df h71
 refine KS ?_
 refine JK_drawK [0, 0, 0, 0, 0, 0, 48, 112, 0, 0, 768, 1792, 4083, 8179, 16383, 32767] fmix ?_
 refine Dv [] Vm (Dv [] Vm (Dv [] Vm (Dv [] Vm (Dv [] Vm (Dv [] Vm (Dv [0] (Vi sl22 0) ?_))))))
 have hb76 := ok1 (i := j_47.toNat) ho69 rng
 refine Dv [0] (VldI sh3 0) (Dv [] Vm (Dv [] Vm (Dv [0] (Vi sl22 0) ?_)))
 have hb77 := ok1 (i := i_18.toNat) ho69 rng
 refine Dv [0] (VldI sh3 0) (Dv [0] (Vi sl22 0) (Dx0 [0] [0] [0] [fun G => os (vl dataa0 datak0 data) (data_6.set i_18.toNat (data_6.getD j_47.toNat 0))] (fun G => xS (SoI [0] sh3)) (Dv [1] (Vi sl22 0) (Dx0 [1] [1] [0] [fun G => os (vl dataa0 datak0 data) ((data_6.set i_18.toNat (data_6.getD j_47.toNat 0)).set j_47.toNat (data_6.getD i_18.toNat 0))] (fun G => xS (SoI [0] sh3)) ?_))))
 refine Dn ⟨by kernel_rfl, fun G => ?_⟩
 refine Jw2 [(0, vl dataa0 datak0 data), (1, vi a), (9, vi i_18), (10, vi j_47)] [] [os (vl dataa0 datak0 data) ((data_6.set i_18.toNat (data_6.getD j_47.toNat 0)).set j_47.toNat (data_6.getD i_18.toNat 0))] ?_
 refine KS ?_
 refine Oq Vm (Oq Vadd (Oq Va (KS ?_)))
 refine Oq Vm (Oq Vsub (Oq Va (KS ?_)))
 exact Kg (r5, ((data_6.set i_18.toNat (data_6.getD j_47.toNat 0)).set j_47.toNat (data_6.getD i_18.toNat 0)), (i_18 + 1), (j_47 - 1)) [0] ⟨(q3 hM9 (by simp only [sc_partitionEqualOrdered_int_L0, h71, hR23, hR52, cs4])), aM1, aM1, iv1⟩
theorem fn88 (data : List Int) (dataa0 : Option Addr) (datak0 : Nat) (a : Int) (b : Int) (pivot : Int) (ha_0 : i64ok a) (hb_0 : i64ok b) (hpivot_0 : i64ok pivot) (ha0 : 0 ≤ a ∧ a ≤ b ∧ b ≤ (data.length : Int) ∧ data.length ≤ 65535 ∧ a ≤ pivot ∧ pivot < b) (rr : Int × Bool × List Int) (hrr : sc_partitionOrdered_int data a b pivot = rr) : FT Tryd.prog 88 #[vl dataa0 datak0 data, vi a, vi b, vi pivot] [O dataa0 datak0 data] (fun g : Unit => i64ok rr.1 ∧ (a ≤ rr.1 ∧ rr.1 < b) ∧ (rr.2.2.length = data.length)) (fun g => .tuple #[vi rr.1, vb rr.2.1]) (fun g => [os (vl dataa0 datak0 data) rr.2.2]) := by
 refine FTi Tryd.func88 fun w0 M0 F0 => ?_
 unfold i64ok at ha_0 hb_0 hpivot_0
 refine Fb 8 0 fun _ => Fo 0 fun ho2 => KS ?_
 refine Oq Va (Oq Va (KS ?_))
 refine JK_drawK [0, 0, 0, 0, 0, 0, 48, 112, 0, 0, 768, 1792, 4083, 8179, 16383, 32767] fmix ?_
 refine Dv [] Vm (Dv [] Vm (Dv [] Vm (Dv [] Vm (Dv [] Vm (Dv [] Vm (Dv [0] (Vi sl22 0) ?_))))))
 have hb3 := ok1 (i := pivot.toNat) ho2 rng
 refine Dv [0] (VldI sh3 0) (Dv [] Vm (Dv [] Vm (Dv [0] (Vi sl22 0) ?_)))
 have hb4 := ok1 (i := a.toNat) ho2 rng
 refine Dv [0] (VldI sh3 0) (Dv [0] (Vi sl22 0) (Dx0 [0] [0] [0] [fun G => os (vl dataa0 datak0 data) (data.set a.toNat (data.getD pivot.toNat 0))] (fun G => xS (SoI [0] sh3)) (Dv [1] (Vi sl22 0) (Dx0 [1] [1] [0] [fun G => os (vl dataa0 datak0 data) ((data.set a.toNat (data.getD pivot.toNat 0)).set pivot.toNat (data.getD a.toNat 0))] (fun G => xS (SoI [0] sh3)) ?_))))
 refine Dn ⟨by kernel_rfl, fun G => ?_⟩
 refine Jw2 [(0, vl dataa0 datak0 data), (1, vi a), (2, vi b)] [] [os (vl dataa0 datak0 data) ((data.set a.toNat (data.getD pivot.toNat 0)).set pivot.toNat (data.getD a.toNat 0))] ?_
 refine KS ?_
 refine Oq Vm (Oq Vadd (Oq Vm (Oq Vsub (Oq Va (Oq Va (KS ?_))))))
 have hterm10 : sc_partitionOrdered_int_L0 data a b pivot ((b - a).toNat + 2) (a + 1) ≠ LR.oof := (pt0_t aM1 aM1)
 refine KjD (γ := Int) (fun i_6 => ⟨[(0, vl dataa0 datak0 data), (1, vi a), (10, vi i_6), (11, vi (b - 1))], [os (vl dataa0 datak0 data) ((data.set a.toNat (data.getD pivot.toNat 0)).set pivot.toNat (data.getD a.toNat 0))], sc_partitionOrdered_int_L0 data a b pivot ((b - a).toNat + 2) (a + 1) = .brk i_6 ∧ (-9223372036854775808 ≤ i_6 ∧ i_6 ≤ 9223372036854775807) ∧ (a + 1 ≤ i_6 ∧ i_6 ≤ b), 0⟩) ?_ ?_
 ·skip
  refine Kl (γ := Nat × Int) (fun (r5, i_6) => ⟨[(0, vl dataa0 datak0 data), (1, vi a), (10, vi i_6), (11, vi (b - 1))], [os (vl dataa0 datak0 data) ((data.set a.toNat (data.getD pivot.toNat 0)).set pivot.toNat (data.getD a.toNat 0))], sc_partitionOrdered_int_L0 data a b pivot r5 i_6 = sc_partitionOrdered_int_L0 data a b pivot ((b - a).toNat + 2) (a + 1) ∧ (-9223372036854775808 ≤ i_6 ∧ i_6 ≤ 9223372036854775807) ∧ (a + 1 ≤ i_6 ∧ i_6 ≤ b), r5⟩) (((b - a).toNat + 2), (a + 1)) [0] ⟨rfl, aM1, iv0⟩ ?_
  rintro ⟨r5, i_6⟩ ⟨hM7, hk8, hv9⟩
  refine JJ_nx fun _ _ hL hA => ?_; dsimp only at hL hA; subst hL hA
  refine Fb 8 0 fun _ => Fo 0 fun ho13 => Fl 0 fun hn14 => ?_
  rcases r5 with _ | r5
  ·exact absurd (hM7.symm.trans rfl) hterm10
  refine KS ?_
  refine JK_drawK [0, 0, 3, 7, 15, 15, 63, 127, 15, 15, 783, 1807, 4095, 8191] fmix ?_
  refine Dv [] Vm (Dv [] Vm (Dv [] Vleq ?_))
  refine bool_split (decide (i_6 ≤ (b - 1))) ?_ ?_
  ·intro h15
   have g16 := dt h15
   refine Db h15 [] Vm (Dv [] Vm (Dv [] Vm (Dv [0] (Vi sl22 0) ?_)))
   have hb17 := ok1 (i := i_6.toNat) ho13 rng
   refine Dv [0] (VldI sh3 0) (Dv [] Vm (Dv [] Vm (Dv [0] (Vi sl22 0) ?_)))
   have hb18 := ok1 (i := a.toNat) ho13 rng
   refine Dv [0] (VldI sh3 0) ?_
   refine letv (cmp_Less_int (((data.set a.toNat (data.getD pivot.toNat 0)).set pivot.toNat (data.getD a.toNat 0)).getD i_6.toNat 0) (((data.set a.toNat (data.getD pivot.toNat 0)).set pivot.toNat (data.getD a.toNat 0)).getD a.toNat 0)) fun rv19 hg20 => ?_
   refine Dx [] [] [0] (fun G => vb rv19) [fun G => SP.fact (True)] (fun G => xC [] ca86 (fn86 ((((data.set a.toNat (data.getD pivot.toNat 0)).set pivot.toNat (data.getD a.toNat 0)).getD i_6.toNat 0)) ((((data.set a.toNat (data.getD pivot.toNat 0)).set pivot.toNat (data.getD a.toNat 0)).getD a.toNat 0)) pre pre rv19 hg20)) (Dv [] Vpt ?_)
   refine Dn ⟨by kernel_rfl, fun G => ?_⟩
   refine Jw2 [(0, vl dataa0 datak0 data), (1, vi a), (10, vi i_6), (11, vi (b - 1)), (43, vb rv19)] [0] [SP.fact (True)] ?_
   refine Jk [0] ?_
   refine Kc ?_ ?_
   ·intro h21
    refine KS ?_
    refine Oq Vm (Oq Vadd (Oq Va (KS ?_)))
    exact Kg (r5, (i_6 + 1)) [0] ⟨(q3 hM7 (by simp only [sc_partitionOrdered_int_L0, h15, h21, hg20, cs4])), aM1, iv1⟩
   intro h21
   refine Ke ?_
   have hR24 := q2 hM7 (.brk i_6) (by simp only [sc_partitionOrdered_int_L0, h15, h21, hg20, cs4])
   exact Kg i_6 [0] ⟨(by assumption), (by first | assumption | omega), (by first | assumption | omega)⟩
  intro h15
  have g25 := df h15
  refine Db h15 [] Vm (Ds (Ds (Ds (Ds (Ds (Ds (Ds (Ds (Ds ?_)))))))))
  refine Dv [] Vpf ?_
  refine Dn ⟨by kernel_rfl, fun G => ?_⟩
  refine Jw2 [(0, vl dataa0 datak0 data), (1, vi a), (10, vi i_6), (11, vi (b - 1)), (43, vb false)] [0] [] ?_
  refine Kf ?_
  refine Ke ?_
  have hR26 := q2 hM7 (.brk i_6) (by simp only [sc_partitionOrdered_int_L0, h15, cs4])
  exact Kg i_6 [0] ⟨(by assumption), (by first | assumption | omega), (by first | assumption | omega)⟩
 rintro i_6 ⟨hR11, hk8, hv9⟩
 refine JJ_nx fun _ _ hL hA => ?_; dsimp only at hL hA; subst hL hA
 refine Fb 8 0 fun _ => Fo 0 fun ho28 => Fl 0 fun hn29 => ?_
 refine KS ?_
 have hterm35 : sc_partitionOrdered_int_L1 data a pivot i_6 ((b - a).toNat + 2) (b - 1) ≠ LR.oof := (pt1_t aM1 aM1)
 refine KjD (γ := Int) (fun j_31 => ⟨[(0, vl dataa0 datak0 data), (1, vi a), (10, vi i_6), (11, vi j_31)], [os (vl dataa0 datak0 data) ((data.set a.toNat (data.getD pivot.toNat 0)).set pivot.toNat (data.getD a.toNat 0))], sc_partitionOrdered_int_L1 data a pivot i_6 ((b - a).toNat + 2) (b - 1) = .brk j_31 ∧ (-9223372036854775808 ≤ j_31 ∧ j_31 ≤ 9223372036854775807) ∧ (i_6 - 1 ≤ j_31 ∧ j_31 ≤ b - 1), 0⟩) ?_ ?_
 ·skip
  refine Kl (γ := Nat × Int) (fun (r30, j_31) => ⟨[(0, vl dataa0 datak0 data), (1, vi a), (10, vi i_6), (11, vi j_31)], [os (vl dataa0 datak0 data) ((data.set a.toNat (data.getD pivot.toNat 0)).set pivot.toNat (data.getD a.toNat 0))], sc_partitionOrdered_int_L1 data a pivot i_6 r30 j_31 = sc_partitionOrdered_int_L1 data a pivot i_6 ((b - a).toNat + 2) (b - 1) ∧ (-9223372036854775808 ≤ j_31 ∧ j_31 ≤ 9223372036854775807) ∧ (i_6 - 1 ≤ j_31 ∧ j_31 ≤ b - 1), r30⟩) (((b - a).toNat + 2), (b - 1)) [0] ⟨rfl, aM1, iv0⟩ ?_
  rintro ⟨r30, j_31⟩ ⟨hM32, hk33, hv34⟩
  refine JJ_nx fun _ _ hL hA => ?_; dsimp only at hL hA; subst hL hA
  refine Fb 8 0 fun _ => Fo 0 fun ho38 => Fl 0 fun hn39 => ?_
  rcases r30 with _ | r30
  ·exact absurd (hM32.symm.trans rfl) hterm35
  refine KS ?_
  refine JK_drawK [0, 0, 3, 7, 15, 15, 63, 127, 15, 15, 783, 1807, 4095, 8191, 16383] fmix ?_
  refine Dv [] Vm (Dv [] Vm (Dv [] Vleq ?_))
  refine bool_split (decide (i_6 ≤ j_31)) ?_ ?_
  ·intro h40
   have g41 := dt h40
   refine Db h40 [] Vm (Dv [] Vm (Dv [] Vm (Dv [0] (Vi sl22 0) ?_)))
   have hb42 := ok1 (i := j_31.toNat) ho38 rng
   refine Dv [0] (VldI sh3 0) (Dv [] Vm (Dv [] Vm (Dv [0] (Vi sl22 0) ?_)))
   have hb43 := ok1 (i := a.toNat) ho38 rng
   refine Dv [0] (VldI sh3 0) ?_
   refine letv (cmp_Less_int (((data.set a.toNat (data.getD pivot.toNat 0)).set pivot.toNat (data.getD a.toNat 0)).getD j_31.toNat 0) (((data.set a.toNat (data.getD pivot.toNat 0)).set pivot.toNat (data.getD a.toNat 0)).getD a.toNat 0)) fun rv44 hg45 => ?_
   refine Dx [] [] [0] (fun G => vb rv44) [fun G => SP.fact (True)] (fun G => xC [] ca86 (fn86 ((((data.set a.toNat (data.getD pivot.toNat 0)).set pivot.toNat (data.getD a.toNat 0)).getD j_31.toNat 0)) ((((data.set a.toNat (data.getD pivot.toNat 0)).set pivot.toNat (data.getD a.toNat 0)).getD a.toNat 0)) pre pre rv44 hg45)) (Dv [] Vnot (Dv [] Vpt ?_))
   refine Dn ⟨by kernel_rfl, fun G => ?_⟩
   refine Jw2 [(0, vl dataa0 datak0 data), (1, vi a), (10, vi i_6), (11, vi j_31), (60, vb (!rv44))] [0] [SP.fact (True)] ?_
   refine Jk [0] ?_
   refine Kc ?_ ?_
   ·intro h46
    have h48 := not_true h46
    refine KS ?_
    refine Oq Vm (Oq Vsub (Oq Va (KS ?_)))
    exact Kg (r30, (j_31 - 1)) [0] ⟨(q3 hM32 (by simp only [sc_partitionOrdered_int_L1, h40, h46, h48, hR11, hg45, cs4])), aM1, iv1⟩
   intro h46
   have h51 := not_false h46
   refine Ke ?_
   have hR53 := q2 hM32 (.brk j_31) (by simp only [sc_partitionOrdered_int_L1, h40, h46, h51, hR11, hg45, cs4])
   exact Kg j_31 [0] ⟨(by assumption), (by first | assumption | omega), (by first | assumption | omega)⟩
  intro h40
  have g54 := df h40
  refine Db h40 [] Vm (Ds (Ds (Ds (Ds (Ds (Ds (Ds (Ds (Ds ?_)))))))))
  refine Ds (Dv [] Vpf ?_)
  refine Dn ⟨by kernel_rfl, fun G => ?_⟩
  refine Jw2 [(0, vl dataa0 datak0 data), (1, vi a), (10, vi i_6), (11, vi j_31), (60, vb false)] [0] [] ?_
  refine Kf ?_
  refine Ke ?_
  have hR55 := q2 hM32 (.brk j_31) (by simp only [sc_partitionOrdered_int_L1, h40, hR11, cs4])
  exact Kg j_31 [0] ⟨(by assumption), (by first | assumption | omega), (by first | assumption | omega)⟩
 rintro j_31 ⟨hR36, hk33, hv34⟩
 refine JJ_nx fun _ _ hL hA => ?_; dsimp only at hL hA; subst hL hA
 refine Fb 8 0 fun _ => Fo 0 fun ho57 => Fl 0 fun hn58 => ?_
 refine KS ?_
 refine Oq Vm (Oq Vm (Oq Vgtr (KS ?_)))
 refine Kc ?_ ?_
 ·intro h59
  have g60 := dt h59
  refine KS ?_
  refine JK_drawK [0, 0, 0, 0, 0, 0, 48, 112, 0, 0, 768, 1792, 4083, 8179, 16383, 32767] fmix ?_
  refine Dv [] Vm (Dv [] Vm (Dv [] Vm (Dv [] Vm (Dv [] Vm (Dv [] Vm (Dv [0] (Vi sl22 0) ?_))))))
  have hb61 := ok1 (i := a.toNat) ho57 rng
  refine Dv [0] (VldI sh3 0) (Dv [] Vm (Dv [] Vm (Dv [0] (Vi sl22 0) ?_)))
  have hb62 := ok1 (i := j_31.toNat) ho57 rng
  refine Dv [0] (VldI sh3 0) (Dv [0] (Vi sl22 0) (Dx0 [0] [0] [0] [fun G => os (vl dataa0 datak0 data) (((data.set a.toNat (data.getD pivot.toNat 0)).set pivot.toNat (data.getD a.toNat 0)).set j_31.toNat (((data.set a.toNat (data.getD pivot.toNat 0)).set pivot.toNat (data.getD a.toNat 0)).getD a.toNat 0))] (fun G => xS (SoI [0] sh3)) (Dv [1] (Vi sl22 0) (Dx0 [1] [1] [0] [fun G => os (vl dataa0 datak0 data) ((((data.set a.toNat (data.getD pivot.toNat 0)).set pivot.toNat (data.getD a.toNat 0)).set j_31.toNat (((data.set a.toNat (data.getD pivot.toNat 0)).set pivot.toNat (data.getD a.toNat 0)).getD a.toNat 0)).set a.toNat (((data.set a.toNat (data.getD pivot.toNat 0)).set pivot.toNat (data.getD a.toNat 0)).getD j_31.toNat 0))] (fun G => xS (SoI [0] sh3)) ?_))))
  refine Dn ⟨by kernel_rfl, fun G => ?_⟩
  refine Jw2 [(0, vl dataa0 datak0 data), (11, vi j_31)] [] [os (vl dataa0 datak0 data) ((((data.set a.toNat (data.getD pivot.toNat 0)).set pivot.toNat (data.getD a.toNat 0)).set j_31.toNat (((data.set a.toNat (data.getD pivot.toNat 0)).set pivot.toNat (data.getD a.toNat 0)).getD a.toNat 0)).set a.toNat (((data.set a.toNat (data.getD pivot.toNat 0)).set pivot.toNat (data.getD a.toNat 0)).getD j_31.toNat 0))] ?_
  refine KS ?_
  refine Oq Vm (Oq Va (Oq Va (KS ?_)))
  refine Fl 0 fun hn63 => ?_
  have hq := q4 hrr (j_31, true, ((((data.set a.toNat (data.getD pivot.toNat 0)).set pivot.toNat (data.getD a.toNat 0)).set j_31.toNat (((data.set a.toNat (data.getD pivot.toNat 0)).set pivot.toNat (data.getD a.toNat 0)).getD a.toNat 0)).set a.toNat (((data.set a.toNat (data.getD pivot.toNat 0)).set pivot.toNat (data.getD a.toNat 0)).getD j_31.toNat 0))) (by simp only [sc_partitionOrdered_int, h59, hR11, hR36, cs4]); subst hq
  exact Kr () rfl (.tmp rfl (.tmp rfl .nil)) [0] en
 intro h59
 have g64 := df h59
 refine KS ?_
 refine JK_drawK [0, 0, 0, 0, 0, 0, 48, 112, 0, 0, 768, 1792, 4083, 8179, 16383, 32767] fmix ?_
 refine Dv [] Vm (Dv [] Vm (Dv [] Vm (Dv [] Vm (Dv [] Vm (Dv [] Vm (Dv [0] (Vi sl22 0) ?_))))))
 have hb65 := ok1 (i := j_31.toNat) ho57 rng
 refine Dv [0] (VldI sh3 0) (Dv [] Vm (Dv [] Vm (Dv [0] (Vi sl22 0) ?_)))
 have hb66 := ok1 (i := i_6.toNat) ho57 rng
 refine Dv [0] (VldI sh3 0) (Dv [0] (Vi sl22 0) (Dx0 [0] [0] [0] [fun G => os (vl dataa0 datak0 data) (((data.set a.toNat (data.getD pivot.toNat 0)).set pivot.toNat (data.getD a.toNat 0)).set i_6.toNat (((data.set a.toNat (data.getD pivot.toNat 0)).set pivot.toNat (data.getD a.toNat 0)).getD j_31.toNat 0))] (fun G => xS (SoI [0] sh3)) (Dv [1] (Vi sl22 0) (Dx0 [1] [1] [0] [fun G => os (vl dataa0 datak0 data) ((((data.set a.toNat (data.getD pivot.toNat 0)).set pivot.toNat (data.getD a.toNat 0)).set i_6.toNat (((data.set a.toNat (data.getD pivot.toNat 0)).set pivot.toNat (data.getD a.toNat 0)).getD j_31.toNat 0)).set j_31.toNat (((data.set a.toNat (data.getD pivot.toNat 0)).set pivot.toNat (data.getD a.toNat 0)).getD i_6.toNat 0))] (fun G => xS (SoI [0] sh3)) ?_))))
 refine Dn ⟨by kernel_rfl, fun G => ?_⟩
 refine Jw2 [(0, vl dataa0 datak0 data), (1, vi a), (10, vi i_6), (11, vi j_31)] [] [os (vl dataa0 datak0 data) ((((data.set a.toNat (data.getD pivot.toNat 0)).set pivot.toNat (data.getD a.toNat 0)).set i_6.toNat (((data.set a.toNat (data.getD pivot.toNat 0)).set pivot.toNat (data.getD a.toNat 0)).getD j_31.toNat 0)).set j_31.toNat (((data.set a.toNat (data.getD pivot.toNat 0)).set pivot.toNat (data.getD a.toNat 0)).getD i_6.toNat 0))] ?_
 refine KS ?_
 refine Oq Vm (Oq Vadd (Oq Va (KS ?_)))
 refine Oq Vm (Oq Vsub (Oq Va (KS ?_)))
 have hterm75 : sc_partitionOrdered_int_L2 a b ((b - a).toNat + 2) ((((data.set a.toNat (data.getD pivot.toNat 0)).set pivot.toNat (data.getD a.toNat 0)).set i_6.toNat (((data.set a.toNat (data.getD pivot.toNat 0)).set pivot.toNat (data.getD a.toNat 0)).getD j_31.toNat 0)).set j_31.toNat (((data.set a.toNat (data.getD pivot.toNat 0)).set pivot.toNat (data.getD a.toNat 0)).getD i_6.toNat 0)) (i_6 + 1) (j_31 - 1) ≠ LR.oof := (pt2_t _ _ _ _ aM1 aM1 aM1 aM1 aM1)
 refine Kl (γ := Nat × List Int × Int × Int) (fun (r67, data_68, i_69, j_70) => ⟨[(0, vl dataa0 datak0 data), (1, vi a), (10, vi i_69), (11, vi j_70)], [os (vl dataa0 datak0 data) data_68], sc_partitionOrdered_int_L2 a b r67 data_68 i_69 j_70 = sc_partitionOrdered_int_L2 a b ((b - a).toNat + 2) ((((data.set a.toNat (data.getD pivot.toNat 0)).set pivot.toNat (data.getD a.toNat 0)).set i_6.toNat (((data.set a.toNat (data.getD pivot.toNat 0)).set pivot.toNat (data.getD a.toNat 0)).getD j_31.toNat 0)).set j_31.toNat (((data.set a.toNat (data.getD pivot.toNat 0)).set pivot.toNat (data.getD a.toNat 0)).getD i_6.toNat 0)) (i_6 + 1) (j_31 - 1) ∧ (-9223372036854775808 ≤ i_69 ∧ i_69 ≤ 9223372036854775807) ∧ (-9223372036854775808 ≤ j_70 ∧ j_70 ≤ 9223372036854775807) ∧ (a + 1 ≤ i_69 ∧ i_69 ≤ j_70 + 2 ∧ j_70 ≤ b - 1 ∧ a ≤ j_70), r67⟩) (((b - a).toNat + 2), ((((data.set a.toNat (data.getD pivot.toNat 0)).set pivot.toNat (data.getD a.toNat 0)).set i_6.toNat (((data.set a.toNat (data.getD pivot.toNat 0)).set pivot.toNat (data.getD a.toNat 0)).getD j_31.toNat 0)).set j_31.toNat (((data.set a.toNat (data.getD pivot.toNat 0)).set pivot.toNat (data.getD a.toNat 0)).getD i_6.toNat 0)), (i_6 + 1), (j_31 - 1)) [0] ⟨rfl, aM1, aM1, iv0⟩ ?_
 rintro ⟨r67, data_68, i_69, j_70⟩ ⟨hM71, hk72, hk73, hv74⟩
 refine JJ_nx fun _ _ hL hA => ?_; dsimp only at hL hA; subst hL hA
 refine Fb 8 0 fun _ => Fo 0 fun ho77 => Fl 0 fun hn78 => ?_
 rcases r67 with _ | r67
 ·exact absurd (hM71.symm.trans rfl) hterm75
 refine KS ?_
 have hterm84 : sc_partitionOrdered_int_L3 a data_68 j_70 ((b - a).toNat + 2) i_69 ≠ LR.oof := (pt3_t aM1 aM1)
 refine KjD (γ := Int) (fun i_80 => ⟨[(0, vl dataa0 datak0 data), (1, vi a), (10, vi i_80), (11, vi j_70)], [os (vl dataa0 datak0 data) data_68], sc_partitionOrdered_int_L3 a data_68 j_70 ((b - a).toNat + 2) i_69 = .brk i_80 ∧ (-9223372036854775808 ≤ i_80 ∧ i_80 ≤ 9223372036854775807) ∧ (i_69 ≤ i_80 ∧ (i_80 ≤ j_70 + 1 ∨ i_80 = i_69)), 0⟩) ?_ ?_
 ·skip
  refine Kl (γ := Nat × Int) (fun (r79, i_80) => ⟨[(0, vl dataa0 datak0 data), (1, vi a), (10, vi i_80), (11, vi j_70)], [os (vl dataa0 datak0 data) data_68], sc_partitionOrdered_int_L3 a data_68 j_70 r79 i_80 = sc_partitionOrdered_int_L3 a data_68 j_70 ((b - a).toNat + 2) i_69 ∧ (-9223372036854775808 ≤ i_80 ∧ i_80 ≤ 9223372036854775807) ∧ (i_69 ≤ i_80 ∧ (i_80 ≤ j_70 + 1 ∨ i_80 = i_69)), r79⟩) (((b - a).toNat + 2), i_69) [0] ⟨rfl, aM1, iv0⟩ ?_
  rintro ⟨r79, i_80⟩ ⟨hM81, hk82, hv83⟩
  refine JJ_nx fun _ _ hL hA => ?_; dsimp only at hL hA; subst hL hA
  refine Fb 8 0 fun _ => Fo 0 fun ho87 => Fl 0 fun hn88 => ?_
  rcases r79 with _ | r79
  ·exact absurd (hM81.symm.trans rfl) hterm84
  refine KS ?_
  refine JK_drawK [0, 0, 3, 7, 15, 15, 63, 127, 15, 15, 783, 1807, 4095, 8191] fmix ?_
  refine Dv [] Vm (Dv [] Vm (Dv [] Vleq ?_))
  refine bool_split (decide (i_80 ≤ j_70)) ?_ ?_
  ·intro h89
   have g90 := dt h89
   refine Db h89 [] Vm (Dv [] Vm (Dv [] Vm (Dv [0] (Vi sl22 0) ?_)))
   have hb91 := ok1 (i := i_80.toNat) ho87 rng
   refine Dv [0] (VldI sh3 0) (Dv [] Vm (Dv [] Vm (Dv [0] (Vi sl22 0) ?_)))
   have hb92 := ok1 (i := a.toNat) ho87 rng
   refine Dv [0] (VldI sh3 0) ?_
   refine letv (cmp_Less_int (data_68.getD i_80.toNat 0) (data_68.getD a.toNat 0)) fun rv93 hg94 => ?_
   refine Dx [] [] [0] (fun G => vb rv93) [fun G => SP.fact (True)] (fun G => xC [] ca86 (fn86 ((data_68.getD i_80.toNat 0)) ((data_68.getD a.toNat 0)) pre pre rv93 hg94)) (Dv [] Vpt ?_)
   refine Dn ⟨by kernel_rfl, fun G => ?_⟩
   refine Jw2 [(0, vl dataa0 datak0 data), (1, vi a), (10, vi i_80), (11, vi j_70), (112, vb rv93)] [0] [SP.fact (True)] ?_
   refine Jk [0] ?_
   refine Kc ?_ ?_
   ·intro h95
    refine KS ?_
    refine Oq Vm (Oq Vadd (Oq Va (KS ?_)))
    exact Kg (r79, (i_80 + 1)) [0] ⟨(q3 hM81 (by simp only [sc_partitionOrdered_int_L3, h59, h89, h95, hR11, hR36, hg94, cs4])), aM1, iv1⟩
   intro h95
   refine Ke ?_
   have hR98 := q2 hM81 (.brk i_80) (by simp only [sc_partitionOrdered_int_L3, h59, h89, h95, hR11, hR36, hg94, cs4])
   exact Kg i_80 [0] ⟨(by assumption), (by first | assumption | omega), (by first | assumption | omega)⟩
  intro h89
  have g99 := df h89
  refine Db h89 [] Vm (Ds (Ds (Ds (Ds (Ds (Ds (Ds (Ds (Ds ?_)))))))))
  refine Dv [] Vpf ?_
  refine Dn ⟨by kernel_rfl, fun G => ?_⟩
  refine Jw2 [(0, vl dataa0 datak0 data), (1, vi a), (10, vi i_80), (11, vi j_70), (112, vb false)] [0] [] ?_
  refine Kf ?_
  refine Ke ?_
  have hR100 := q2 hM81 (.brk i_80) (by simp only [sc_partitionOrdered_int_L3, h59, h89, hR11, hR36, cs4])
  exact Kg i_80 [0] ⟨(by assumption), (by first | assumption | omega), (by first | assumption | omega)⟩
 rintro i_80 ⟨hR85, hk82, hv83⟩
 refine JJ_nx fun _ _ hL hA => ?_; dsimp only at hL hA; subst hL hA
 refine Fb 8 0 fun _ => Fo 0 fun ho102 => Fl 0 fun hn103 => ?_
 refine KS ?_
 have hterm109 : sc_partitionOrdered_int_L4 a data_68 i_80 ((b - a).toNat + 2) j_70 ≠ LR.oof := (pt4_t aM1 aM1)
 refine KjD (γ := Int) (fun j_105 => ⟨[(0, vl dataa0 datak0 data), (1, vi a), (10, vi i_80), (11, vi j_105)], [os (vl dataa0 datak0 data) data_68], sc_partitionOrdered_int_L4 a data_68 i_80 ((b - a).toNat + 2) j_70 = .brk j_105 ∧ (-9223372036854775808 ≤ j_105 ∧ j_105 ≤ 9223372036854775807) ∧ (j_105 ≤ j_70 ∧ (i_80 - 1 ≤ j_105 ∨ j_105 = j_70)), 0⟩) ?_ ?_
 ·skip
  refine Kl (γ := Nat × Int) (fun (r104, j_105) => ⟨[(0, vl dataa0 datak0 data), (1, vi a), (10, vi i_80), (11, vi j_105)], [os (vl dataa0 datak0 data) data_68], sc_partitionOrdered_int_L4 a data_68 i_80 r104 j_105 = sc_partitionOrdered_int_L4 a data_68 i_80 ((b - a).toNat + 2) j_70 ∧ (-9223372036854775808 ≤ j_105 ∧ j_105 ≤ 9223372036854775807) ∧ (j_105 ≤ j_70 ∧ (i_80 - 1 ≤ j_105 ∨ j_105 = j_70)), r104⟩) (((b - a).toNat + 2), j_70) [0] ⟨rfl, aM1, iv0⟩ ?_
  rintro ⟨r104, j_105⟩ ⟨hM106, hk107, hv108⟩
  refine JJ_nx fun _ _ hL hA => ?_; dsimp only at hL hA; subst hL hA
  refine Fb 8 0 fun _ => Fo 0 fun ho112 => Fl 0 fun hn113 => ?_
  rcases r104 with _ | r104
  ·exact absurd (hM106.symm.trans rfl) hterm109
  refine KS ?_
  refine JK_drawK [0, 0, 3, 7, 15, 15, 63, 127, 15, 15, 783, 1807, 4095, 8191, 16383] fmix ?_
  refine Dv [] Vm (Dv [] Vm (Dv [] Vleq ?_))
  refine bool_split (decide (i_80 ≤ j_105)) ?_ ?_
  ·intro h114
   have g115 := dt h114
   refine Db h114 [] Vm (Dv [] Vm (Dv [] Vm (Dv [0] (Vi sl22 0) ?_)))
   have hb116 := ok1 (i := j_105.toNat) ho112 rng
   refine Dv [0] (VldI sh3 0) (Dv [] Vm (Dv [] Vm (Dv [0] (Vi sl22 0) ?_)))
   have hb117 := ok1 (i := a.toNat) ho112 rng
   refine Dv [0] (VldI sh3 0) ?_
   refine letv (cmp_Less_int (data_68.getD j_105.toNat 0) (data_68.getD a.toNat 0)) fun rv118 hg119 => ?_
   refine Dx [] [] [0] (fun G => vb rv118) [fun G => SP.fact (True)] (fun G => xC [] ca86 (fn86 ((data_68.getD j_105.toNat 0)) ((data_68.getD a.toNat 0)) pre pre rv118 hg119)) (Dv [] Vnot (Dv [] Vpt ?_))
   refine Dn ⟨by kernel_rfl, fun G => ?_⟩
   refine Jw2 [(0, vl dataa0 datak0 data), (1, vi a), (10, vi i_80), (11, vi j_105), (129, vb (!rv118))] [0] [SP.fact (True)] ?_
   refine Jk [0] ?_
   refine Kc ?_ ?_
   ·intro h120
    have h122 := not_true h120
    refine KS ?_
    refine Oq Vm (Oq Vsub (Oq Va (KS ?_)))
    exact Kg (r104, (j_105 - 1)) [0] ⟨(q3 hM106 (by simp only [sc_partitionOrdered_int_L4, h59, h114, h120, h122, hR11, hR36, hR85, hg119, cs4])), aM1, iv1⟩
   intro h120
   have h125 := not_false h120
   refine Ke ?_
   have hR127 := q2 hM106 (.brk j_105) (by simp only [sc_partitionOrdered_int_L4, h59, h114, h120, h125, hR11, hR36, hR85, hg119, cs4])
   exact Kg j_105 [0] ⟨(by assumption), (by first | assumption | omega), (by first | assumption | omega)⟩
  intro h114
  have g128 := df h114
  refine Db h114 [] Vm (Ds (Ds (Ds (Ds (Ds (Ds (Ds (Ds (Ds ?_)))))))))
  refine Ds (Dv [] Vpf ?_)
  refine Dn ⟨by kernel_rfl, fun G => ?_⟩
  refine Jw2 [(0, vl dataa0 datak0 data), (1, vi a), (10, vi i_80), (11, vi j_105), (129, vb false)] [0] [] ?_
  refine Kf ?_
  refine Ke ?_
  have hR129 := q2 hM106 (.brk j_105) (by simp only [sc_partitionOrdered_int_L4, h59, h114, hR11, hR36, hR85, cs4])
  exact Kg j_105 [0] ⟨(by assumption), (by first | assumption | omega), (by first | assumption | omega)⟩
 rintro j_105 ⟨hR110, hk107, hv108⟩
 refine JJ_nx fun _ _ hL hA => ?_; dsimp only at hL hA; subst hL hA
 refine Fb 8 0 fun _ => Fo 0 fun ho131 => Fl 0 fun hn132 => ?_
 refine KS ?_
 refine Oq Vm (Oq Vm (Oq Vgtr (KS ?_)))
 refine Kc ?_ ?_
 ·intro h133
  have g134 := dt h133
  refine Ke ?_
  have hR135 := q2 hM71 (.brk (data_68, j_105)) (by simp only [sc_partitionOrdered_int_L2, h59, h133, hR11, hR36, hR85, hR110, cs4])
  refine KS ?_
  refine JK_drawK [0, 0, 0, 0, 0, 0, 48, 112, 0, 0, 768, 1792, 4083, 8179, 16383, 32767] fmix ?_
  refine Dv [] Vm (Dv [] Vm (Dv [] Vm (Dv [] Vm (Dv [] Vm (Dv [] Vm (Dv [0] (Vi sl22 0) ?_))))))
  have hb136 := ok1 (i := a.toNat) ho131 rng
  refine Dv [0] (VldI sh3 0) (Dv [] Vm (Dv [] Vm (Dv [0] (Vi sl22 0) ?_)))
  have hb137 := ok1 (i := j_105.toNat) ho131 rng
  refine Dv [0] (VldI sh3 0) (Dv [0] (Vi sl22 0) (Dx0 [0] [0] [0] [fun G => os (vl dataa0 datak0 data) (data_68.set j_105.toNat (data_68.getD a.toNat 0))] (fun G => xS (SoI [0] sh3)) (Dv [1] (Vi sl22 0) (Dx0 [1] [1] [0] [fun G => os (vl dataa0 datak0 data) ((data_68.set j_105.toNat (data_68.getD a.toNat 0)).set a.toNat (data_68.getD j_105.toNat 0))] (fun G => xS (SoI [0] sh3)) ?_))))
  refine Dn ⟨by kernel_rfl, fun G => ?_⟩
  refine Jw2 [(0, vl dataa0 datak0 data), (11, vi j_105)] [] [os (vl dataa0 datak0 data) ((data_68.set j_105.toNat (data_68.getD a.toNat 0)).set a.toNat (data_68.getD j_105.toNat 0))] ?_
  refine KS ?_
  refine Oq Vm (Oq Va (Oq Va (KS ?_)))
  refine Fl 0 fun hn138 => ?_
  have hq := q4 hrr (j_105, false, ((data_68.set j_105.toNat (data_68.getD a.toNat 0)).set a.toNat (data_68.getD j_105.toNat 0))) (by simp only [sc_partitionOrdered_int, h59, h133, hR11, hR36, hR85, hR110, hR135, cs4]); subst hq
  exact Kr () rfl (.tmp rfl (.tmp rfl .nil)) [0] en
 intro h133
 have g139 := df h133
 refine KS ?_
 refine JK_drawK [0, 0, 0, 0, 0, 0, 48, 112, 0, 0, 768, 1792, 4083, 8179, 16383, 32767] fmix ?_
 refine Dv [] Vm (Dv [] Vm (Dv [] Vm (Dv [] Vm (Dv [] Vm (Dv [] Vm (Dv [0] (Vi sl22 0) ?_))))))
 have hb140 := ok1 (i := j_105.toNat) ho131 rng
 refine Dv [0] (VldI sh3 0) (Dv [] Vm (Dv [] Vm (Dv [0] (Vi sl22 0) ?_)))
 have hb141 := ok1 (i := i_80.toNat) ho131 rng
 refine Dv [0] (VldI sh3 0) (Dv [0] (Vi sl22 0) (Dx0 [0] [0] [0] [fun G => os (vl dataa0 datak0 data) (data_68.set i_80.toNat (data_68.getD j_105.toNat 0))] (fun G => xS (SoI [0] sh3)) (Dv [1] (Vi sl22 0) (Dx0 [1] [1] [0] [fun G => os (vl dataa0 datak0 data) ((data_68.set i_80.toNat (data_68.getD j_105.toNat 0)).set j_105.toNat (data_68.getD i_80.toNat 0))] (fun G => xS (SoI [0] sh3)) ?_))))
 refine Dn ⟨by kernel_rfl, fun G => ?_⟩
 refine Jw2 [(0, vl dataa0 datak0 data), (1, vi a), (10, vi i_80), (11, vi j_105)] [] [os (vl dataa0 datak0 data) ((data_68.set i_80.toNat (data_68.getD j_105.toNat 0)).set j_105.toNat (data_68.getD i_80.toNat 0))] ?_
 refine KS ?_
 refine Oq Vm (Oq Vadd (Oq Va (KS ?_)))
 refine Oq Vm (Oq Vsub (Oq Va (KS ?_)))
 exact Kg (r67, ((data_68.set i_80.toNat (data_68.getD j_105.toNat 0)).set j_105.toNat (data_68.getD i_80.toNat 0)), (i_80 + 1), (j_105 - 1)) [0] ⟨(q3 hM71 (by simp only [sc_partitionOrdered_int_L2, h59, h133, hR11, hR36, hR85, hR110, cs4])), aM1, aM1, iv1⟩
theorem fn54F (rc : List Int → Int → Int → Int → List Int) (ms : Nat) (data : List Int) (dataa0 : Option Addr) (datak0 : Nat) (a : Int) (b : Int) (limit : Int) (hms : (b - a).toNat = ms) (hrp : ∀ (d : List Int) (a b lim : Int), 0 ≤ a → a ≤ b → b ≤ (d.length : Int) → d.length ≤ 65535 → (b - a).toNat < ms → (rc d a b lim).length = d.length) (hrc : ∀ (data : List Int) (dataa0 : Option Addr) (datak0 : Nat) (a : Int) (b : Int) (limit : Int) (ha_0 : i64ok a) (hb_0 : i64ok b) (hlimit_0 : i64ok limit) (ha0 : 0 ≤ a ∧ a ≤ b ∧ b ≤ (data.length : Int) ∧ data.length ≤ 65535) (hl0 : 0 ≤ limit ∧ limit ≤ 1000) (hfu : (b - a).toNat < ms) (rr : List Int) (hrr : rc data a b limit = rr), FT Tryd.prog 54 #[vl dataa0 datak0 data, vi a, vi b, vi limit] [O dataa0 datak0 data] (fun g : Unit => (rr.length = data.length)) (fun g => .tuple #[]) (fun g => [os (vl dataa0 datak0 data) rr])) (ha_0 : i64ok a) (hb_0 : i64ok b) (hlimit_0 : i64ok limit) (ha0 : 0 ≤ a ∧ a ≤ b ∧ b ≤ (data.length : Int) ∧ data.length ≤ 65535) (hl0 : 0 ≤ limit ∧ limit ≤ 1000) (rr : List Int) (hrr : sc_pdqsortOrdered_int_F rc data a b limit = rr) : FT Tryd.prog 54 #[vl dataa0 datak0 data, vi a, vi b, vi limit] [O dataa0 datak0 data] (fun g : Unit => (rr.length = data.length)) (fun g => .tuple #[]) (fun g => [os (vl dataa0 datak0 data) rr]) := by
 refine FTi Tryd.func54 fun w0 M0 F0 => ?_
 unfold i64ok at ha_0 hb_0 hlimit_0
 refine Fb 8 0 fun _ => Fo 0 fun ho2 => KS ?_
 refine Oq Va (KS ?_)
 refine Oq Va (KS ?_)
 have hterm15 : sc_pdqsortOrdered_int_F_L0 rc ((b - a).toNat + 1) data a b limit true true ≠ LR.oof := (pdl_t hrp aM1 aM1 aM1 aM1 aM1 aM1 aM1)
 refine Kl (γ := Nat × List Int × Int × Int × Int × Bool × Bool) (fun (r3, data_4, a_5, b_6, limit_7, wasBalanced_8, wasPartitioned_9) => ⟨[(0, vl dataa0 datak0 data), (1, vi a_5), (2, vi b_6), (3, vi limit_7), (8, vb wasBalanced_8), (9, vb wasPartitioned_9)], [os (vl dataa0 datak0 data) data_4], sc_pdqsortOrdered_int_F_L0 rc r3 data_4 a_5 b_6 limit_7 wasBalanced_8 wasPartitioned_9 = sc_pdqsortOrdered_int_F_L0 rc ((b - a).toNat + 1) data a b limit true true ∧ (-9223372036854775808 ≤ a_5 ∧ a_5 ≤ 9223372036854775807) ∧ (-9223372036854775808 ≤ b_6 ∧ b_6 ≤ 9223372036854775807) ∧ (-9223372036854775808 ≤ limit_7 ∧ limit_7 ≤ 9223372036854775807) ∧ (a ≤ a_5 ∧ a_5 ≤ b_6 ∧ b_6 ≤ b ∧ 0 ≤ limit_7 ∧ limit_7 ≤ 1000), r3⟩) (((b - a).toNat + 1), data, a, b, limit, true, true) [0] ⟨rfl, aM1, aM1, aM1, iv0⟩ ?_
 rintro ⟨r3, data_4, a_5, b_6, limit_7, wasBalanced_8, wasPartitioned_9⟩ ⟨hM10, hk11, hk12, hk13, hv14⟩
 refine JJ_nx fun _ _ hL hA => ?_; dsimp only at hL hA; subst hL hA
 refine Fb 8 0 fun _ => Fo 0 fun ho17 => Fl 0 fun hn18 => ?_
 rcases r3 with _ | r3
 ·exact absurd (hM10.symm.trans rfl) hterm15
 refine KS ?_
 refine Oq Vm (Oq Vm (Oq Vsub (Oq Va (KS ?_))))
 refine Oq Vm (Oq Vleq (KS ?_))
 refine Kc ?_ ?_
 ·intro h19
  have g20 := dt h19
  refine KS ?_
  refine Oq Vm (Oq Vm (Oq Vm ?_))
  refine Fl 0 fun hn21 => ?_; (try unfold vl); rw [← hn21]
  refine letv (sc_insertionSortOrdered_int data_4 a_5 b_6) fun rv22 hg23 => ?_
  have hc24 := fn80 data_4 dataa0 datak0 a_5 b_6 pre pre pre rv22 hg23
  refine Oc [0] ca80 hc24 ?_
  rintro - he25
  have hn26 : data_4.length = data.length := by omega
  try unfold vl
  try rw [hn26]
  refine Fb 8 0 fun _ => Fo 0 fun ho28 => KS ?_
  refine Fl 0 fun hn29 => ?_
  have hR30 := q2 hM10 (.ret rv22) (by simp only [sc_pdqsortOrdered_int_F_L0, h19, hg23, cs4])
  have hq := q4 hrr rv22 (by simp only [sc_pdqsortOrdered_int_F, h19, hg23, hR30, cs4]); subst hq
  exact Kr () rfl .nil [0] en
 intro h19
 have g31 := df h19
 refine KS ?_
 refine Oq Vm (Oq Veql (KS ?_))
 refine Kc ?_ ?_
 ·intro h32
  have g33 := eq_of_beq h32
  refine KS ?_
  refine Oq Vm (Oq Vm (Oq Vm ?_))
  refine Fl 0 fun hn34 => ?_; (try unfold vl); rw [← hn34]
  refine letv (sc_heapSortOrdered_int data_4 a_5 b_6) fun rv35 hg36 => ?_
  have hc37 := fn81 data_4 dataa0 datak0 a_5 b_6 pre pre pre rv35 hg36
  refine Oc [0] ca81 hc37 ?_
  rintro - he38
  have hn39 : data_4.length = data.length := by omega
  try unfold vl
  try rw [hn39]
  refine Fb 8 0 fun _ => Fo 0 fun ho41 => KS ?_
  refine Fl 0 fun hn42 => ?_
  have hR43 := q2 hM10 (.ret rv35) (by simp only [sc_pdqsortOrdered_int_F_L0, h19, h32, hg36, cs4])
  have hq := q4 hrr rv35 (by simp only [sc_pdqsortOrdered_int_F, h19, h32, hg36, hR43, cs4]); subst hq
  exact Kr () rfl .nil [0] en
 intro h32
 have g44 := ne_of_beq_false h32
 refine KS ?_
 refine Oq Vm (Oq Vnot (KS ?_))
 refine Kc ?_ ?_
 ·intro h45
  have h47 := not_true h45
  refine KS ?_
  refine Oq Vm (Oq Vm (Oq Vm ?_))
  refine Fl 0 fun hn49 => ?_; (try unfold vl); rw [← hn49]
  refine letv (sc_breakPatternsOrdered_int data_4 a_5 b_6) fun rv50 hg51 => ?_
  have hc52 := fn82 data_4 dataa0 datak0 a_5 b_6 pre pre pre rv50 hg51
  refine Oc [0] ca82 hc52 ?_
  rintro - he53
  have hn54 : data_4.length = data.length := by omega
  try unfold vl
  try rw [hn54]
  refine Fb 8 0 fun _ => Fo 0 fun ho56 => KS ?_
  refine Oq Vm (Oq Vsub (Oq Va (KS ?_)))
  refine Oq Vm (Oq Vm (Oq Vm ?_))
  refine Fl 0 fun hn57 => ?_; (try unfold vl); rw [← hn57]
  refine letv (sc_choosePivotOrdered_int rv50 a_5 b_6) fun rv58 hg59 => ?_
  refine Oc [0] ca83 (FT_borrow (A := _) (fun _ _ h => by cases h) (FT_ent (Ent.take (is := [0]) rfl) (fn83 rv50 dataa0 datak0 a_5 b_6 pre pre pre rv58 hg59))) ?_ (ht := rfl)
  rintro - ⟨he60, he61, he62⟩
  unfold i64ok at he60 he61
  have hn63 : rv50.length = data.length := by omega
  try unfold vl
  try rw [hn63]
  refine Oq Vm (Oq Vx (Oq Vx (Oq Va (Oq Va (KS ?_)))))
  refine Oq Vm (Oq Veql (KS ?_))
  refine Kc ?_ ?_
  ·intro h64
   have g65 := eq_of_beq h64
   refine KS ?_
   refine Oq Vm (Oq Vm (Oq Vm ?_))
   refine Fl 0 fun hn66 => ?_; (try unfold vl); rw [← hn66]
   refine letv (sc_reverseRangeOrdered_int rv50 a_5 b_6) fun rv67 hg68 => ?_
   have hc69 := fn84 rv50 dataa0 datak0 a_5 b_6 pre pre pre rv67 hg68
   refine Oc [0] ca84 hc69 ?_
   rintro - he70
   have hn71 : rv50.length = data.length := by omega
   try unfold vl
   try rw [hn71]
   refine Fb 8 0 fun _ => Fo 0 fun ho73 => KS ?_
   refine Oq Vm (Oq Vsub (Oq Vm (Oq Vm (Oq Vsub (Oq Vsub (Oq Va (KS ?_)))))))
   refine Oq Va (KS ?_)
   refine Oq Vm (Oq Vm ?_)
   refine Js 62 ?_ ?_
   ·intro h74
    exact absurd h74 (by first | (simp [h45]; done) | (simp only [bne, h45]; decide) | (simp only [bne, h45, Bool.not_true, Bool.not_false]; decide) | (exfalso; omega) | (intro hq; simp only [bne, hq, Bool.not_false, Bool.not_true, reduceCtorEq] at h45))
   intro h74
   refine Osk (Oq Vpf (Oq Vm (Osk (Osk (Oq Vpf (KS ?_))))))
   refine Kf (KS ?_)
   refine JK_drawK [0, 1, 3, 7, 7, 23, 63, 127, 7, 7, 775, 1799, 4095, 8191, 16383] fmix ?_
   refine Dv [] Vm (Dv [] Vgtr ?_)
   refine bool_split (decide (0 < a_5)) ?_ ?_
   ·intro h76
    have g77 := dt h76
    refine Db h76 [] Vm (Dv [] Vm (Dv [] Vm (Dv [] Vsub (Dv [0] (Vi sl22 0) ?_))))
    have hb78 := ok1 (i := ((a_5 - 1) : Int).toNat) ho73 rng
    refine Dv [0] (VldI sh3 0) (Dv [] Vm (Dv [] Vm (Dv [0] (Vi sl22 0) ?_)))
    have hb79 := ok1 (i := (((b_6 - 1) - (rv58.1 - a_5)) : Int).toNat) ho73 rng
    refine Dv [0] (VldI sh3 0) ?_
    refine letv (cmp_Less_int (rv67.getD ((a_5 - 1) : Int).toNat 0) (rv67.getD (((b_6 - 1) - (rv58.1 - a_5)) : Int).toNat 0)) fun rv80 hg81 => ?_
    refine Dx [] [] [0] (fun G => vb rv80) [fun G => SP.fact (True)] (fun G => xC [] ca86 (fn86 ((rv67.getD ((a_5 - 1) : Int).toNat 0)) ((rv67.getD (((b_6 - 1) - (rv58.1 - a_5)) : Int).toNat 0)) pre pre rv80 hg81)) (Dv [] Vnot (Dv [] Vpt ?_))
    refine Dn ⟨by kernel_rfl, fun G => ?_⟩
    refine Jw2 [(0, vl dataa0 datak0 data), (1, vi a_5), (2, vi b_6), (8, vb wasBalanced_8), (9, vb wasPartitioned_9), (10, vi (b_6 - a_5)), (3, vi (limit_7 - 1)), (11, vi ((b_6 - 1) - (rv58.1 - a_5))), (87, vb (!rv80))] [0] [SP.fact (True)] ?_
    refine Jk [0] ?_
    refine Kc ?_ ?_
    ·intro h82
     have h84 := not_true h82
     refine KS ?_
     refine Oq Vm (Oq Vm (Oq Vm (Oq Vm ?_)))
     refine Fl 0 fun hn86 => ?_; (try unfold vl); rw [← hn86]
     refine letv (sc_partitionEqualOrdered_int rv67 a_5 b_6 ((b_6 - 1) - (rv58.1 - a_5))) fun rv87 hg88 => ?_
     have hc89 := fn87 rv67 dataa0 datak0 a_5 b_6 (((b_6 - 1) - (rv58.1 - a_5))) pre pre pre pre rv87 hg88
     refine Oc [0] ca87 hc89 ?_
     rintro - ⟨he90, he91, he92⟩
     unfold i64ok at he90
     have hn93 : rv67.length = data.length := by omega
     try unfold vl
     try rw [hn93]
     refine Fb 8 0 fun _ => Fo 0 fun ho95 => ?_
     refine Oq Va (KS ?_)
     refine Oq Vm (Oq Va (KS ?_))
     refine Ke ?_
     exact Kg (r3, rv87.2, rv87.1, b_6, (limit_7 - 1), wasBalanced_8, wasPartitioned_9) [0] ⟨(q3 hM10 (by simp only [sc_pdqsortOrdered_int_F_L0, h19, h32, h45, h47, h64, h74, h76, h82, h84, hg51, hg59, hg68, hg81, hg88, cs4])), aM1, aM1, aM1, iv1⟩
    intro h82
    have h97 := not_false h82
    refine KS ?_
    refine Oq Vm (Oq Vm (Oq Vm (Oq Vm ?_)))
    refine Fl 0 fun hn99 => ?_; (try unfold vl); rw [← hn99]
    refine letv (sc_partitionOrdered_int rv67 a_5 b_6 ((b_6 - 1) - (rv58.1 - a_5))) fun rv100 hg101 => ?_
    have hc102 := fn88 rv67 dataa0 datak0 a_5 b_6 (((b_6 - 1) - (rv58.1 - a_5))) pre pre pre pre rv100 hg101
    refine Oc [0] ca88 hc102 ?_
    rintro - ⟨he103, he104, he105⟩
    unfold i64ok at he103
    have hn106 : rv67.length = data.length := by omega
    try unfold vl
    try rw [hn106]
    refine Fb 8 0 fun _ => Fo 0 fun ho108 => ?_
    refine Oq Vm (Oq Vx (Oq Vx (Oq Va (Oq Va (KS ?_)))))
    refine Oq Vm (Oq Va (KS ?_))
    refine Oq Vm (Oq Vm (Oq Vsub (Oq Vm (Oq Vm (Oq Vsub (Oq Va (Oq Va (KS ?_))))))))
    refine Oq Vm (Oq Vquo (Oq Va (KS ?_)))
    refine Oq Vm (Oq Vm (Oq Vlss (KS ?_)))
    refine Kc ?_ ?_
    ·intro h109
     have g110 := dt h109
     refine KS ?_
     refine Oq Vm (Oq Vm (Oq Vgeq (Oq Va (KS ?_))))
     refine Oq Vm (Oq Vm (Oq Vm (Oq Vm ?_)))
     refine Fl 0 fun hn111 => ?_; (try unfold vl); rw [← hn111]
     refine letv (rc rv100.2.2 a_5 rv100.1 (limit_7 - 1)) fun rv112 hg113 => ?_
     have hc114 := hrc rv100.2.2 dataa0 datak0 a_5 rv100.1 ((limit_7 - 1)) pre pre pre pre pre pre rv112 hg113
     refine Oc [0] ca54 hc114 ?_
     rintro - he115
     have hn116 : rv100.2.2.length = data.length := by omega
     try unfold vl
     try rw [hn116]
     refine Fb 8 0 fun _ => Fo 0 fun ho118 => KS ?_
     refine Oq Vm (Oq Vadd (Oq Va (KS ?_)))
     exact Kg (r3, rv112, (rv100.1 + 1), b_6, (limit_7 - 1), decide (((b_6 - a_5) / 8) ≤ (rv100.1 - a_5)), rv100.2.1) [0] ⟨(q3 hM10 (by simp only [sc_pdqsortOrdered_int_F_L0, h19, h32, h45, h47, h64, h74, h76, h82, h97, h109, hg51, hg59, hg68, hg81, hg101, hg113, cs4])), aM1, aM1, aM1, iv1⟩
    intro h109
    have g119 := df h109
    refine KS ?_
    refine Oq Vm (Oq Vm (Oq Vgeq (Oq Va (KS ?_))))
    refine Oq Vm (Oq Vm (Oq Vadd (Oq Vm (Oq Vm ?_))))
    refine Fl 0 fun hn120 => ?_; (try unfold vl); rw [← hn120]
    refine letv (rc rv100.2.2 (rv100.1 + 1) b_6 (limit_7 - 1)) fun rv121 hg122 => ?_
    have hc123 := hrc rv100.2.2 dataa0 datak0 ((rv100.1 + 1)) b_6 ((limit_7 - 1)) pre pre pre pre pre pre rv121 hg122
    refine Oc [0] ca54 hc123 ?_
    rintro - he124
    have hn125 : rv100.2.2.length = data.length := by omega
    try unfold vl
    try rw [hn125]
    refine Fb 8 0 fun _ => Fo 0 fun ho127 => KS ?_
    refine Oq Vm (Oq Va (KS ?_))
    exact Kg (r3, rv121, a_5, rv100.1, (limit_7 - 1), decide (((b_6 - a_5) / 8) ≤ (b_6 - rv100.1)), rv100.2.1) [0] ⟨(q3 hM10 (by simp only [sc_pdqsortOrdered_int_F_L0, h19, h32, h45, h47, h64, h74, h76, h82, h97, h109, hg51, hg59, hg68, hg81, hg101, hg122, cs4])), aM1, aM1, aM1, iv1⟩
   intro h76
   have g128 := df h76
   refine Db h76 [] Vm (Ds (Ds (Ds (Ds (Ds (Ds (Ds (Ds (Ds ?_)))))))))
   refine Ds (Ds (Dv [] Vpf ?_))
   refine Dn ⟨by kernel_rfl, fun G => ?_⟩
   refine Jw2 [(0, vl dataa0 datak0 data), (1, vi a_5), (2, vi b_6), (8, vb wasBalanced_8), (9, vb wasPartitioned_9), (10, vi (b_6 - a_5)), (3, vi (limit_7 - 1)), (11, vi ((b_6 - 1) - (rv58.1 - a_5))), (87, vb false)] [0] [] ?_
   refine Kf (KS ?_)
   refine Oq Vm (Oq Vm (Oq Vm (Oq Vm ?_)))
   refine Fl 0 fun hn129 => ?_; (try unfold vl); rw [← hn129]
   refine letv (sc_partitionOrdered_int rv67 a_5 b_6 ((b_6 - 1) - (rv58.1 - a_5))) fun rv130 hg131 => ?_
   have hc132 := fn88 rv67 dataa0 datak0 a_5 b_6 (((b_6 - 1) - (rv58.1 - a_5))) pre pre pre pre rv130 hg131
   refine Oc [0] ca88 hc132 ?_
   rintro - ⟨he133, he134, he135⟩
   unfold i64ok at he133
   have hn136 : rv67.length = data.length := by omega
   try unfold vl
   try rw [hn136]
   refine Fb 8 0 fun _ => Fo 0 fun ho138 => ?_
   refine Oq Vm (Oq Vx (Oq Vx (Oq Va (Oq Va (KS ?_)))))
   refine Oq Vm (Oq Va (KS ?_))
   refine Oq Vm (Oq Vm (Oq Vsub (Oq Vm (Oq Vm (Oq Vsub (Oq Va (Oq Va (KS ?_))))))))
   refine Oq Vm (Oq Vquo (Oq Va (KS ?_)))
   refine Oq Vm (Oq Vm (Oq Vlss (KS ?_)))
   refine Kc ?_ ?_
   ·intro h139
    have g140 := dt h139
    refine KS ?_
    refine Oq Vm (Oq Vm (Oq Vgeq (Oq Va (KS ?_))))
    refine Oq Vm (Oq Vm (Oq Vm (Oq Vm ?_)))
    refine Fl 0 fun hn141 => ?_; (try unfold vl); rw [← hn141]
    refine letv (rc rv130.2.2 a_5 rv130.1 (limit_7 - 1)) fun rv142 hg143 => ?_
    have hc144 := hrc rv130.2.2 dataa0 datak0 a_5 rv130.1 ((limit_7 - 1)) pre pre pre pre pre pre rv142 hg143
    refine Oc [0] ca54 hc144 ?_
    rintro - he145
    have hn146 : rv130.2.2.length = data.length := by omega
    try unfold vl
    try rw [hn146]
    refine Fb 8 0 fun _ => Fo 0 fun ho148 => KS ?_
    refine Oq Vm (Oq Vadd (Oq Va (KS ?_)))
    exact Kg (r3, rv142, (rv130.1 + 1), b_6, (limit_7 - 1), decide (((b_6 - a_5) / 8) ≤ (rv130.1 - a_5)), rv130.2.1) [0] ⟨(q3 hM10 (by simp only [sc_pdqsortOrdered_int_F_L0, h19, h32, h45, h47, h64, h74, h76, h139, hg51, hg59, hg68, hg131, hg143, cs4])), aM1, aM1, aM1, iv1⟩
   intro h139
   have g149 := df h139
   refine KS ?_
   refine Oq Vm (Oq Vm (Oq Vgeq (Oq Va (KS ?_))))
   refine Oq Vm (Oq Vm (Oq Vadd (Oq Vm (Oq Vm ?_))))
   refine Fl 0 fun hn150 => ?_; (try unfold vl); rw [← hn150]
   refine letv (rc rv130.2.2 (rv130.1 + 1) b_6 (limit_7 - 1)) fun rv151 hg152 => ?_
   have hc153 := hrc rv130.2.2 dataa0 datak0 ((rv130.1 + 1)) b_6 ((limit_7 - 1)) pre pre pre pre pre pre rv151 hg152
   refine Oc [0] ca54 hc153 ?_
   rintro - he154
   have hn155 : rv130.2.2.length = data.length := by omega
   try unfold vl
   try rw [hn155]
   refine Fb 8 0 fun _ => Fo 0 fun ho157 => KS ?_
   refine Oq Vm (Oq Va (KS ?_))
   exact Kg (r3, rv151, a_5, rv130.1, (limit_7 - 1), decide (((b_6 - a_5) / 8) ≤ (b_6 - rv130.1)), rv130.2.1) [0] ⟨(q3 hM10 (by simp only [sc_pdqsortOrdered_int_F_L0, h19, h32, h45, h47, h64, h74, h76, h139, hg51, hg59, hg68, hg131, hg152, cs4])), aM1, aM1, aM1, iv1⟩
  intro h64
  have g158 := ne_of_beq_false h64
  refine KS ?_
  refine Oq Vm (Oq Vm ?_)
  refine Js 62 ?_ ?_
  ·intro h159
   exact absurd h159 (by first | (simp [h45]; done) | (simp only [bne, h45]; decide) | (simp only [bne, h45, Bool.not_true, Bool.not_false]; decide) | (exfalso; omega) | (intro hq; simp only [bne, hq, Bool.not_false, Bool.not_true, reduceCtorEq] at h45))
  intro h159
  refine Osk (Oq Vpf (Oq Vm (Osk (Osk (Oq Vpf (KS ?_))))))
  refine Kf (KS ?_)
  refine JK_drawK [0, 1, 3, 7, 7, 23, 63, 127, 7, 7, 775, 1799, 4095, 8191, 16383] fmix ?_
  refine Dv [] Vm (Dv [] Vgtr ?_)
  refine bool_split (decide (0 < a_5)) ?_ ?_
  ·intro h161
   have g162 := dt h161
   refine Db h161 [] Vm (Dv [] Vm (Dv [] Vm (Dv [] Vsub (Dv [0] (Vi sl22 0) ?_))))
   have hb163 := ok1 (i := ((a_5 - 1) : Int).toNat) ho56 rng
   refine Dv [0] (VldI sh3 0) (Dv [] Vm (Dv [] Vm (Dv [0] (Vi sl22 0) ?_)))
   have hb164 := ok1 (i := rv58.1.toNat) ho56 rng
   refine Dv [0] (VldI sh3 0) ?_
   refine letv (cmp_Less_int (rv50.getD ((a_5 - 1) : Int).toNat 0) (rv50.getD rv58.1.toNat 0)) fun rv165 hg166 => ?_
   refine Dx [] [] [0] (fun G => vb rv165) [fun G => SP.fact (True)] (fun G => xC [] ca86 (fn86 ((rv50.getD ((a_5 - 1) : Int).toNat 0)) ((rv50.getD rv58.1.toNat 0)) pre pre rv165 hg166)) (Dv [] Vnot (Dv [] Vpt ?_))
   refine Dn ⟨by kernel_rfl, fun G => ?_⟩
   refine Jw2 [(0, vl dataa0 datak0 data), (1, vi a_5), (2, vi b_6), (8, vb wasBalanced_8), (9, vb wasPartitioned_9), (10, vi (b_6 - a_5)), (3, vi (limit_7 - 1)), (11, vi rv58.1), (87, vb (!rv165))] [0] [SP.fact (True)] ?_
   refine Jk [0] ?_
   refine Kc ?_ ?_
   ·intro h167
    have h169 := not_true h167
    refine KS ?_
    refine Oq Vm (Oq Vm (Oq Vm (Oq Vm ?_)))
    refine Fl 0 fun hn171 => ?_; (try unfold vl); rw [← hn171]
    refine letv (sc_partitionEqualOrdered_int rv50 a_5 b_6 rv58.1) fun rv172 hg173 => ?_
    have hc174 := fn87 rv50 dataa0 datak0 a_5 b_6 rv58.1 pre pre pre pre rv172 hg173
    refine Oc [0] ca87 hc174 ?_
    rintro - ⟨he175, he176, he177⟩
    unfold i64ok at he175
    have hn178 : rv50.length = data.length := by omega
    try unfold vl
    try rw [hn178]
    refine Fb 8 0 fun _ => Fo 0 fun ho180 => ?_
    refine Oq Va (KS ?_)
    refine Oq Vm (Oq Va (KS ?_))
    refine Ke ?_
    exact Kg (r3, rv172.2, rv172.1, b_6, (limit_7 - 1), wasBalanced_8, wasPartitioned_9) [0] ⟨(q3 hM10 (by simp only [sc_pdqsortOrdered_int_F_L0, h19, h32, h45, h47, h64, h159, h161, h167, h169, hg51, hg59, hg166, hg173, cs4])), aM1, aM1, aM1, iv1⟩
   intro h167
   have h182 := not_false h167
   refine KS ?_
   refine Oq Vm (Oq Vm (Oq Vm (Oq Vm ?_)))
   refine Fl 0 fun hn184 => ?_; (try unfold vl); rw [← hn184]
   refine letv (sc_partitionOrdered_int rv50 a_5 b_6 rv58.1) fun rv185 hg186 => ?_
   have hc187 := fn88 rv50 dataa0 datak0 a_5 b_6 rv58.1 pre pre pre pre rv185 hg186
   refine Oc [0] ca88 hc187 ?_
   rintro - ⟨he188, he189, he190⟩
   unfold i64ok at he188
   have hn191 : rv50.length = data.length := by omega
   try unfold vl
   try rw [hn191]
   refine Fb 8 0 fun _ => Fo 0 fun ho193 => ?_
   refine Oq Vm (Oq Vx (Oq Vx (Oq Va (Oq Va (KS ?_)))))
   refine Oq Vm (Oq Va (KS ?_))
   refine Oq Vm (Oq Vm (Oq Vsub (Oq Vm (Oq Vm (Oq Vsub (Oq Va (Oq Va (KS ?_))))))))
   refine Oq Vm (Oq Vquo (Oq Va (KS ?_)))
   refine Oq Vm (Oq Vm (Oq Vlss (KS ?_)))
   refine Kc ?_ ?_
   ·intro h194
    have g195 := dt h194
    refine KS ?_
    refine Oq Vm (Oq Vm (Oq Vgeq (Oq Va (KS ?_))))
    refine Oq Vm (Oq Vm (Oq Vm (Oq Vm ?_)))
    refine Fl 0 fun hn196 => ?_; (try unfold vl); rw [← hn196]
    refine letv (rc rv185.2.2 a_5 rv185.1 (limit_7 - 1)) fun rv197 hg198 => ?_
    have hc199 := hrc rv185.2.2 dataa0 datak0 a_5 rv185.1 ((limit_7 - 1)) pre pre pre pre pre pre rv197 hg198
    refine Oc [0] ca54 hc199 ?_
    rintro - he200
    have hn201 : rv185.2.2.length = data.length := by omega
    try unfold vl
    try rw [hn201]
    refine Fb 8 0 fun _ => Fo 0 fun ho203 => KS ?_
    refine Oq Vm (Oq Vadd (Oq Va (KS ?_)))
    exact Kg (r3, rv197, (rv185.1 + 1), b_6, (limit_7 - 1), decide (((b_6 - a_5) / 8) ≤ (rv185.1 - a_5)), rv185.2.1) [0] ⟨(q3 hM10 (by simp only [sc_pdqsortOrdered_int_F_L0, h19, h32, h45, h47, h64, h159, h161, h167, h182, h194, hg51, hg59, hg166, hg186, hg198, cs4])), aM1, aM1, aM1, iv1⟩
   intro h194
   have g204 := df h194
   refine KS ?_
   refine Oq Vm (Oq Vm (Oq Vgeq (Oq Va (KS ?_))))
   refine Oq Vm (Oq Vm (Oq Vadd (Oq Vm (Oq Vm ?_))))
   refine Fl 0 fun hn205 => ?_; (try unfold vl); rw [← hn205]
   refine letv (rc rv185.2.2 (rv185.1 + 1) b_6 (limit_7 - 1)) fun rv206 hg207 => ?_
   have hc208 := hrc rv185.2.2 dataa0 datak0 ((rv185.1 + 1)) b_6 ((limit_7 - 1)) pre pre pre pre pre pre rv206 hg207
   refine Oc [0] ca54 hc208 ?_
   rintro - he209
   have hn210 : rv185.2.2.length = data.length := by omega
   try unfold vl
   try rw [hn210]
   refine Fb 8 0 fun _ => Fo 0 fun ho212 => KS ?_
   refine Oq Vm (Oq Va (KS ?_))
   exact Kg (r3, rv206, a_5, rv185.1, (limit_7 - 1), decide (((b_6 - a_5) / 8) ≤ (b_6 - rv185.1)), rv185.2.1) [0] ⟨(q3 hM10 (by simp only [sc_pdqsortOrdered_int_F_L0, h19, h32, h45, h47, h64, h159, h161, h167, h182, h194, hg51, hg59, hg166, hg186, hg207, cs4])), aM1, aM1, aM1, iv1⟩
  intro h161
  have g213 := df h161
  refine Db h161 [] Vm (Ds (Ds (Ds (Ds (Ds (Ds (Ds (Ds (Ds ?_)))))))))
  refine Ds (Ds (Dv [] Vpf ?_))
  refine Dn ⟨by kernel_rfl, fun G => ?_⟩
  refine Jw2 [(0, vl dataa0 datak0 data), (1, vi a_5), (2, vi b_6), (8, vb wasBalanced_8), (9, vb wasPartitioned_9), (10, vi (b_6 - a_5)), (3, vi (limit_7 - 1)), (11, vi rv58.1), (87, vb false)] [0] [] ?_
  refine Kf (KS ?_)
  refine Oq Vm (Oq Vm (Oq Vm (Oq Vm ?_)))
  refine Fl 0 fun hn214 => ?_; (try unfold vl); rw [← hn214]
  refine letv (sc_partitionOrdered_int rv50 a_5 b_6 rv58.1) fun rv215 hg216 => ?_
  have hc217 := fn88 rv50 dataa0 datak0 a_5 b_6 rv58.1 pre pre pre pre rv215 hg216
  refine Oc [0] ca88 hc217 ?_
  rintro - ⟨he218, he219, he220⟩
  unfold i64ok at he218
  have hn221 : rv50.length = data.length := by omega
  try unfold vl
  try rw [hn221]
  refine Fb 8 0 fun _ => Fo 0 fun ho223 => ?_
  refine Oq Vm (Oq Vx (Oq Vx (Oq Va (Oq Va (KS ?_)))))
  refine Oq Vm (Oq Va (KS ?_))
  refine Oq Vm (Oq Vm (Oq Vsub (Oq Vm (Oq Vm (Oq Vsub (Oq Va (Oq Va (KS ?_))))))))
  refine Oq Vm (Oq Vquo (Oq Va (KS ?_)))
  refine Oq Vm (Oq Vm (Oq Vlss (KS ?_)))
  refine Kc ?_ ?_
  ·intro h224
   have g225 := dt h224
   refine KS ?_
   refine Oq Vm (Oq Vm (Oq Vgeq (Oq Va (KS ?_))))
   refine Oq Vm (Oq Vm (Oq Vm (Oq Vm ?_)))
   refine Fl 0 fun hn226 => ?_; (try unfold vl); rw [← hn226]
   refine letv (rc rv215.2.2 a_5 rv215.1 (limit_7 - 1)) fun rv227 hg228 => ?_
   have hc229 := hrc rv215.2.2 dataa0 datak0 a_5 rv215.1 ((limit_7 - 1)) pre pre pre pre pre pre rv227 hg228
   refine Oc [0] ca54 hc229 ?_
   rintro - he230
   have hn231 : rv215.2.2.length = data.length := by omega
   try unfold vl
   try rw [hn231]
   refine Fb 8 0 fun _ => Fo 0 fun ho233 => KS ?_
   refine Oq Vm (Oq Vadd (Oq Va (KS ?_)))
   exact Kg (r3, rv227, (rv215.1 + 1), b_6, (limit_7 - 1), decide (((b_6 - a_5) / 8) ≤ (rv215.1 - a_5)), rv215.2.1) [0] ⟨(q3 hM10 (by simp only [sc_pdqsortOrdered_int_F_L0, h19, h32, h45, h47, h64, h159, h161, h224, hg51, hg59, hg216, hg228, cs4])), aM1, aM1, aM1, iv1⟩
  intro h224
  have g234 := df h224
  refine KS ?_
  refine Oq Vm (Oq Vm (Oq Vgeq (Oq Va (KS ?_))))
  refine Oq Vm (Oq Vm (Oq Vadd (Oq Vm (Oq Vm ?_))))
  refine Fl 0 fun hn235 => ?_; (try unfold vl); rw [← hn235]
  refine letv (rc rv215.2.2 (rv215.1 + 1) b_6 (limit_7 - 1)) fun rv236 hg237 => ?_
  have hc238 := hrc rv215.2.2 dataa0 datak0 ((rv215.1 + 1)) b_6 ((limit_7 - 1)) pre pre pre pre pre pre rv236 hg237
  refine Oc [0] ca54 hc238 ?_
  rintro - he239
  have hn240 : rv215.2.2.length = data.length := by omega
  try unfold vl
  try rw [hn240]
  refine Fb 8 0 fun _ => Fo 0 fun ho242 => KS ?_
  refine Oq Vm (Oq Va (KS ?_))
  exact Kg (r3, rv236, a_5, rv215.1, (limit_7 - 1), decide (((b_6 - a_5) / 8) ≤ (b_6 - rv215.1)), rv215.2.1) [0] ⟨(q3 hM10 (by simp only [sc_pdqsortOrdered_int_F_L0, h19, h32, h45, h47, h64, h159, h161, h224, hg51, hg59, hg216, hg237, cs4])), aM1, aM1, aM1, iv1⟩
 intro h45
 have h244 := not_false h45
 refine KS ?_
 refine Oq Vm (Oq Vm (Oq Vm ?_))
 refine Fl 0 fun hn246 => ?_; (try unfold vl); rw [← hn246]
 refine letv (sc_choosePivotOrdered_int data_4 a_5 b_6) fun rv247 hg248 => ?_
 refine Oc [0] ca83 (FT_borrow (A := _) (fun _ _ h => by cases h) (FT_ent (Ent.take (is := [0]) rfl) (fn83 data_4 dataa0 datak0 a_5 b_6 pre pre pre rv247 hg248))) ?_ (ht := rfl)
 rintro - ⟨he249, he250, he251⟩
 unfold i64ok at he249 he250
 have hn252 : data_4.length = data.length := by omega
 try unfold vl
 try rw [hn252]
 refine Oq Vm (Oq Vx (Oq Vx (Oq Va (Oq Va (KS ?_)))))
 refine Oq Vm (Oq Veql (KS ?_))
 refine Kc ?_ ?_
 ·intro h253
  have g254 := eq_of_beq h253
  refine KS ?_
  refine Oq Vm (Oq Vm (Oq Vm ?_))
  refine Fl 0 fun hn255 => ?_; (try unfold vl); rw [← hn255]
  refine letv (sc_reverseRangeOrdered_int data_4 a_5 b_6) fun rv256 hg257 => ?_
  have hc258 := fn84 data_4 dataa0 datak0 a_5 b_6 pre pre pre rv256 hg257
  refine Oc [0] ca84 hc258 ?_
  rintro - he259
  have hn260 : data_4.length = data.length := by omega
  try unfold vl
  try rw [hn260]
  refine Fb 8 0 fun _ => Fo 0 fun ho262 => KS ?_
  refine Oq Vm (Oq Vsub (Oq Vm (Oq Vm (Oq Vsub (Oq Vsub (Oq Va (KS ?_)))))))
  refine Oq Va (KS ?_)
  refine Oq Vm (Oq Vm ?_)
  refine Js 62 ?_ ?_
  ·intro h263
   refine Oq Vm (Oq Vpt (Oq Vm ?_))
   refine Js 65 ?_ ?_
   ·intro h265
    refine Oq Vm (Oq Veql (Oq Vpt (KS ?_)))
    refine Kt (KS ?_)
    refine Oq Vm (Oq Vm (Oq Vm ?_))
    refine Fl 0 fun hn267 => ?_; (try unfold vl); rw [← hn267]
    refine letv (sc_partialInsertionSortOrdered_int rv256 a_5 b_6) fun rv268 hg269 => ?_
    have hc270 := fn85 rv256 dataa0 datak0 a_5 b_6 pre pre pre rv268 hg269
    refine Oc [0] ca85 hc270 ?_
    rintro - he271
    have hn272 : rv256.length = data.length := by omega
    try unfold vl
    try rw [hn272]
    refine Fb 8 0 fun _ => Fo 0 fun ho274 => KS ?_
    refine Kc ?_ ?_
    ·intro h275
     refine Fl 0 fun hn277 => ?_
     have hR278 := q2 hM10 (.ret rv268.2) (by simp only [sc_pdqsortOrdered_int_F_L0, h19, h32, h45, h244, h253, h263, h265, h275, hg248, hg257, hg269, cs4])
     have hq := q4 hrr rv268.2 (by simp only [sc_pdqsortOrdered_int_F, h19, h32, h45, h244, h253, h263, h265, h275, hg248, hg257, hg269, hR278, cs4]); subst hq
     exact Kr () rfl .nil [0] en
    intro h275
    refine KS ?_
    refine JK_drawK [0, 1, 3, 7, 7, 23, 63, 127, 7, 7, 775, 1799, 4095, 8191, 16383] fmix ?_
    refine Dv [] Vm (Dv [] Vgtr ?_)
    refine bool_split (decide (0 < a_5)) ?_ ?_
    ·intro h280
     have g281 := dt h280
     refine Db h280 [] Vm (Dv [] Vm (Dv [] Vm (Dv [] Vsub (Dv [0] (Vi sl22 0) ?_))))
     have hb282 := ok1 (i := ((a_5 - 1) : Int).toNat) ho274 rng
     refine Dv [0] (VldI sh3 0) (Dv [] Vm (Dv [] Vm (Dv [0] (Vi sl22 0) ?_)))
     have hb283 := ok1 (i := (((b_6 - 1) - (rv247.1 - a_5)) : Int).toNat) ho274 rng
     refine Dv [0] (VldI sh3 0) ?_
     refine letv (cmp_Less_int (rv268.2.getD ((a_5 - 1) : Int).toNat 0) (rv268.2.getD (((b_6 - 1) - (rv247.1 - a_5)) : Int).toNat 0)) fun rv284 hg285 => ?_
     refine Dx [] [] [0] (fun G => vb rv284) [fun G => SP.fact (True)] (fun G => xC [] ca86 (fn86 ((rv268.2.getD ((a_5 - 1) : Int).toNat 0)) ((rv268.2.getD (((b_6 - 1) - (rv247.1 - a_5)) : Int).toNat 0)) pre pre rv284 hg285)) (Dv [] Vnot (Dv [] Vpt ?_))
     refine Dn ⟨by kernel_rfl, fun G => ?_⟩
     refine Jw2 [(0, vl dataa0 datak0 data), (1, vi a_5), (2, vi b_6), (3, vi limit_7), (8, vb wasBalanced_8), (9, vb wasPartitioned_9), (10, vi (b_6 - a_5)), (11, vi ((b_6 - 1) - (rv247.1 - a_5))), (87, vb (!rv284))] [0] [SP.fact (True)] ?_
     refine Jk [0] ?_
     refine Kc ?_ ?_
     ·intro h286
      have h288 := not_true h286
      refine KS ?_
      refine Oq Vm (Oq Vm (Oq Vm (Oq Vm ?_)))
      refine Fl 0 fun hn290 => ?_; (try unfold vl); rw [← hn290]
      refine letv (sc_partitionEqualOrdered_int rv268.2 a_5 b_6 ((b_6 - 1) - (rv247.1 - a_5))) fun rv291 hg292 => ?_
      have hc293 := fn87 rv268.2 dataa0 datak0 a_5 b_6 (((b_6 - 1) - (rv247.1 - a_5))) pre pre pre pre rv291 hg292
      refine Oc [0] ca87 hc293 ?_
      rintro - ⟨he294, he295, he296⟩
      unfold i64ok at he294
      have hn297 : rv268.2.length = data.length := by omega
      try unfold vl
      try rw [hn297]
      refine Fb 8 0 fun _ => Fo 0 fun ho299 => ?_
      refine Oq Va (KS ?_)
      refine Oq Vm (Oq Va (KS ?_))
      refine Ke ?_
      exact Kg (r3, rv291.2, rv291.1, b_6, limit_7, wasBalanced_8, wasPartitioned_9) [0] ⟨(q3 hM10 (by simp only [sc_pdqsortOrdered_int_F_L0, h19, h32, h45, h244, h253, h263, h265, h275, h280, h286, h288, hg248, hg257, hg269, hg285, hg292, cs4])), aM1, aM1, aM1, iv1⟩
     intro h286
     have h301 := not_false h286
     refine KS ?_
     refine Oq Vm (Oq Vm (Oq Vm (Oq Vm ?_)))
     refine Fl 0 fun hn303 => ?_; (try unfold vl); rw [← hn303]
     refine letv (sc_partitionOrdered_int rv268.2 a_5 b_6 ((b_6 - 1) - (rv247.1 - a_5))) fun rv304 hg305 => ?_
     have hc306 := fn88 rv268.2 dataa0 datak0 a_5 b_6 (((b_6 - 1) - (rv247.1 - a_5))) pre pre pre pre rv304 hg305
     refine Oc [0] ca88 hc306 ?_
     rintro - ⟨he307, he308, he309⟩
     unfold i64ok at he307
     have hn310 : rv268.2.length = data.length := by omega
     try unfold vl
     try rw [hn310]
     refine Fb 8 0 fun _ => Fo 0 fun ho312 => ?_
     refine Oq Vm (Oq Vx (Oq Vx (Oq Va (Oq Va (KS ?_)))))
     refine Oq Vm (Oq Va (KS ?_))
     refine Oq Vm (Oq Vm (Oq Vsub (Oq Vm (Oq Vm (Oq Vsub (Oq Va (Oq Va (KS ?_))))))))
     refine Oq Vm (Oq Vquo (Oq Va (KS ?_)))
     refine Oq Vm (Oq Vm (Oq Vlss (KS ?_)))
     refine Kc ?_ ?_
     ·intro h313
      have g314 := dt h313
      refine KS ?_
      refine Oq Vm (Oq Vm (Oq Vgeq (Oq Va (KS ?_))))
      refine Oq Vm (Oq Vm (Oq Vm (Oq Vm ?_)))
      refine Fl 0 fun hn315 => ?_; (try unfold vl); rw [← hn315]
      refine letv (rc rv304.2.2 a_5 rv304.1 limit_7) fun rv316 hg317 => ?_
      have hc318 := hrc rv304.2.2 dataa0 datak0 a_5 rv304.1 limit_7 pre pre pre pre pre pre rv316 hg317
      refine Oc [0] ca54 hc318 ?_
      rintro - he319
      have hn320 : rv304.2.2.length = data.length := by omega
      try unfold vl
      try rw [hn320]
      refine Fb 8 0 fun _ => Fo 0 fun ho322 => KS ?_
      refine Oq Vm (Oq Vadd (Oq Va (KS ?_)))
      exact Kg (r3, rv316, (rv304.1 + 1), b_6, limit_7, decide (((b_6 - a_5) / 8) ≤ (rv304.1 - a_5)), rv304.2.1) [0] ⟨(q3 hM10 (by simp only [sc_pdqsortOrdered_int_F_L0, h19, h32, h45, h244, h253, h263, h265, h275, h280, h286, h301, h313, hg248, hg257, hg269, hg285, hg305, hg317, cs4])), aM1, aM1, aM1, iv1⟩
     intro h313
     have g323 := df h313
     refine KS ?_
     refine Oq Vm (Oq Vm (Oq Vgeq (Oq Va (KS ?_))))
     refine Oq Vm (Oq Vm (Oq Vadd (Oq Vm (Oq Vm ?_))))
     refine Fl 0 fun hn324 => ?_; (try unfold vl); rw [← hn324]
     refine letv (rc rv304.2.2 (rv304.1 + 1) b_6 limit_7) fun rv325 hg326 => ?_
     have hc327 := hrc rv304.2.2 dataa0 datak0 ((rv304.1 + 1)) b_6 limit_7 pre pre pre pre pre pre rv325 hg326
     refine Oc [0] ca54 hc327 ?_
     rintro - he328
     have hn329 : rv304.2.2.length = data.length := by omega
     try unfold vl
     try rw [hn329]
     refine Fb 8 0 fun _ => Fo 0 fun ho331 => KS ?_
     refine Oq Vm (Oq Va (KS ?_))
     exact Kg (r3, rv325, a_5, rv304.1, limit_7, decide (((b_6 - a_5) / 8) ≤ (b_6 - rv304.1)), rv304.2.1) [0] ⟨(q3 hM10 (by simp only [sc_pdqsortOrdered_int_F_L0, h19, h32, h45, h244, h253, h263, h265, h275, h280, h286, h301, h313, hg248, hg257, hg269, hg285, hg305, hg326, cs4])), aM1, aM1, aM1, iv1⟩
    intro h280
    have g332 := df h280
    refine Db h280 [] Vm (Ds (Ds (Ds (Ds (Ds (Ds (Ds (Ds (Ds ?_)))))))))
    refine Ds (Ds (Dv [] Vpf ?_))
    refine Dn ⟨by kernel_rfl, fun G => ?_⟩
    refine Jw2 [(0, vl dataa0 datak0 data), (1, vi a_5), (2, vi b_6), (3, vi limit_7), (8, vb wasBalanced_8), (9, vb wasPartitioned_9), (10, vi (b_6 - a_5)), (11, vi ((b_6 - 1) - (rv247.1 - a_5))), (87, vb false)] [0] [] ?_
    refine Kf (KS ?_)
    refine Oq Vm (Oq Vm (Oq Vm (Oq Vm ?_)))
    refine Fl 0 fun hn333 => ?_; (try unfold vl); rw [← hn333]
    refine letv (sc_partitionOrdered_int rv268.2 a_5 b_6 ((b_6 - 1) - (rv247.1 - a_5))) fun rv334 hg335 => ?_
    have hc336 := fn88 rv268.2 dataa0 datak0 a_5 b_6 (((b_6 - 1) - (rv247.1 - a_5))) pre pre pre pre rv334 hg335
    refine Oc [0] ca88 hc336 ?_
    rintro - ⟨he337, he338, he339⟩
    unfold i64ok at he337
    have hn340 : rv268.2.length = data.length := by omega
    try unfold vl
    try rw [hn340]
    refine Fb 8 0 fun _ => Fo 0 fun ho342 => ?_
    refine Oq Vm (Oq Vx (Oq Vx (Oq Va (Oq Va (KS ?_)))))
    refine Oq Vm (Oq Va (KS ?_))
    refine Oq Vm (Oq Vm (Oq Vsub (Oq Vm (Oq Vm (Oq Vsub (Oq Va (Oq Va (KS ?_))))))))
    refine Oq Vm (Oq Vquo (Oq Va (KS ?_)))
    refine Oq Vm (Oq Vm (Oq Vlss (KS ?_)))
    refine Kc ?_ ?_
    ·intro h343
     have g344 := dt h343
     refine KS ?_
     refine Oq Vm (Oq Vm (Oq Vgeq (Oq Va (KS ?_))))
     refine Oq Vm (Oq Vm (Oq Vm (Oq Vm ?_)))
     refine Fl 0 fun hn345 => ?_; (try unfold vl); rw [← hn345]
     refine letv (rc rv334.2.2 a_5 rv334.1 limit_7) fun rv346 hg347 => ?_
     have hc348 := hrc rv334.2.2 dataa0 datak0 a_5 rv334.1 limit_7 pre pre pre pre pre pre rv346 hg347
     refine Oc [0] ca54 hc348 ?_
     rintro - he349
     have hn350 : rv334.2.2.length = data.length := by omega
     try unfold vl
     try rw [hn350]
     refine Fb 8 0 fun _ => Fo 0 fun ho352 => KS ?_
     refine Oq Vm (Oq Vadd (Oq Va (KS ?_)))
     exact Kg (r3, rv346, (rv334.1 + 1), b_6, limit_7, decide (((b_6 - a_5) / 8) ≤ (rv334.1 - a_5)), rv334.2.1) [0] ⟨(q3 hM10 (by simp only [sc_pdqsortOrdered_int_F_L0, h19, h32, h45, h244, h253, h263, h265, h275, h280, h343, hg248, hg257, hg269, hg335, hg347, cs4])), aM1, aM1, aM1, iv1⟩
    intro h343
    have g353 := df h343
    refine KS ?_
    refine Oq Vm (Oq Vm (Oq Vgeq (Oq Va (KS ?_))))
    refine Oq Vm (Oq Vm (Oq Vadd (Oq Vm (Oq Vm ?_))))
    refine Fl 0 fun hn354 => ?_; (try unfold vl); rw [← hn354]
    refine letv (rc rv334.2.2 (rv334.1 + 1) b_6 limit_7) fun rv355 hg356 => ?_
    have hc357 := hrc rv334.2.2 dataa0 datak0 ((rv334.1 + 1)) b_6 limit_7 pre pre pre pre pre pre rv355 hg356
    refine Oc [0] ca54 hc357 ?_
    rintro - he358
    have hn359 : rv334.2.2.length = data.length := by omega
    try unfold vl
    try rw [hn359]
    refine Fb 8 0 fun _ => Fo 0 fun ho361 => KS ?_
    refine Oq Vm (Oq Va (KS ?_))
    exact Kg (r3, rv355, a_5, rv334.1, limit_7, decide (((b_6 - a_5) / 8) ≤ (b_6 - rv334.1)), rv334.2.1) [0] ⟨(q3 hM10 (by simp only [sc_pdqsortOrdered_int_F_L0, h19, h32, h45, h244, h253, h263, h265, h275, h280, h343, hg248, hg257, hg269, hg335, hg356, cs4])), aM1, aM1, aM1, iv1⟩
   intro h265
   refine Osk (Osk (Oq Vpf (KS ?_)))
   refine Kf (KS ?_)
   refine JK_drawK [0, 1, 3, 7, 7, 23, 63, 127, 7, 7, 775, 1799, 4095, 8191, 16383] fmix ?_
   refine Dv [] Vm (Dv [] Vgtr ?_)
   refine bool_split (decide (0 < a_5)) ?_ ?_
   ·intro h363
    have g364 := dt h363
    refine Db h363 [] Vm (Dv [] Vm (Dv [] Vm (Dv [] Vsub (Dv [0] (Vi sl22 0) ?_))))
    have hb365 := ok1 (i := ((a_5 - 1) : Int).toNat) ho262 rng
    refine Dv [0] (VldI sh3 0) (Dv [] Vm (Dv [] Vm (Dv [0] (Vi sl22 0) ?_)))
    have hb366 := ok1 (i := (((b_6 - 1) - (rv247.1 - a_5)) : Int).toNat) ho262 rng
    refine Dv [0] (VldI sh3 0) ?_
    refine letv (cmp_Less_int (rv256.getD ((a_5 - 1) : Int).toNat 0) (rv256.getD (((b_6 - 1) - (rv247.1 - a_5)) : Int).toNat 0)) fun rv367 hg368 => ?_
    refine Dx [] [] [0] (fun G => vb rv367) [fun G => SP.fact (True)] (fun G => xC [] ca86 (fn86 ((rv256.getD ((a_5 - 1) : Int).toNat 0)) ((rv256.getD (((b_6 - 1) - (rv247.1 - a_5)) : Int).toNat 0)) pre pre rv367 hg368)) (Dv [] Vnot (Dv [] Vpt ?_))
    refine Dn ⟨by kernel_rfl, fun G => ?_⟩
    refine Jw2 [(0, vl dataa0 datak0 data), (1, vi a_5), (2, vi b_6), (3, vi limit_7), (8, vb wasBalanced_8), (9, vb wasPartitioned_9), (10, vi (b_6 - a_5)), (11, vi ((b_6 - 1) - (rv247.1 - a_5))), (87, vb (!rv367))] [0] [SP.fact (True)] ?_
    refine Jk [0] ?_
    refine Kc ?_ ?_
    ·intro h369
     have h371 := not_true h369
     refine KS ?_
     refine Oq Vm (Oq Vm (Oq Vm (Oq Vm ?_)))
     refine Fl 0 fun hn373 => ?_; (try unfold vl); rw [← hn373]
     refine letv (sc_partitionEqualOrdered_int rv256 a_5 b_6 ((b_6 - 1) - (rv247.1 - a_5))) fun rv374 hg375 => ?_
     have hc376 := fn87 rv256 dataa0 datak0 a_5 b_6 (((b_6 - 1) - (rv247.1 - a_5))) pre pre pre pre rv374 hg375
     refine Oc [0] ca87 hc376 ?_
     rintro - ⟨he377, he378, he379⟩
     unfold i64ok at he377
     have hn380 : rv256.length = data.length := by omega
     try unfold vl
     try rw [hn380]
     refine Fb 8 0 fun _ => Fo 0 fun ho382 => ?_
     refine Oq Va (KS ?_)
     refine Oq Vm (Oq Va (KS ?_))
     refine Ke ?_
     exact Kg (r3, rv374.2, rv374.1, b_6, limit_7, wasBalanced_8, wasPartitioned_9) [0] ⟨(q3 hM10 (by simp only [sc_pdqsortOrdered_int_F_L0, h19, h32, h45, h244, h253, h263, h265, h363, h369, h371, hg248, hg257, hg368, hg375, cs4])), aM1, aM1, aM1, iv1⟩
    intro h369
    have h384 := not_false h369
    refine KS ?_
    refine Oq Vm (Oq Vm (Oq Vm (Oq Vm ?_)))
    refine Fl 0 fun hn386 => ?_; (try unfold vl); rw [← hn386]
    refine letv (sc_partitionOrdered_int rv256 a_5 b_6 ((b_6 - 1) - (rv247.1 - a_5))) fun rv387 hg388 => ?_
    have hc389 := fn88 rv256 dataa0 datak0 a_5 b_6 (((b_6 - 1) - (rv247.1 - a_5))) pre pre pre pre rv387 hg388
    refine Oc [0] ca88 hc389 ?_
    rintro - ⟨he390, he391, he392⟩
    unfold i64ok at he390
    have hn393 : rv256.length = data.length := by omega
    try unfold vl
    try rw [hn393]
    refine Fb 8 0 fun _ => Fo 0 fun ho395 => ?_
    refine Oq Vm (Oq Vx (Oq Vx (Oq Va (Oq Va (KS ?_)))))
    refine Oq Vm (Oq Va (KS ?_))
    refine Oq Vm (Oq Vm (Oq Vsub (Oq Vm (Oq Vm (Oq Vsub (Oq Va (Oq Va (KS ?_))))))))
    refine Oq Vm (Oq Vquo (Oq Va (KS ?_)))
    refine Oq Vm (Oq Vm (Oq Vlss (KS ?_)))
    refine Kc ?_ ?_
    ·intro h396
     have g397 := dt h396
     refine KS ?_
     refine Oq Vm (Oq Vm (Oq Vgeq (Oq Va (KS ?_))))
     refine Oq Vm (Oq Vm (Oq Vm (Oq Vm ?_)))
     refine Fl 0 fun hn398 => ?_; (try unfold vl); rw [← hn398]
     refine letv (rc rv387.2.2 a_5 rv387.1 limit_7) fun rv399 hg400 => ?_
     have hc401 := hrc rv387.2.2 dataa0 datak0 a_5 rv387.1 limit_7 pre pre pre pre pre pre rv399 hg400
     refine Oc [0] ca54 hc401 ?_
     rintro - he402
     have hn403 : rv387.2.2.length = data.length := by omega
     try unfold vl
     try rw [hn403]
     refine Fb 8 0 fun _ => Fo 0 fun ho405 => KS ?_
     refine Oq Vm (Oq Vadd (Oq Va (KS ?_)))
     exact Kg (r3, rv399, (rv387.1 + 1), b_6, limit_7, decide (((b_6 - a_5) / 8) ≤ (rv387.1 - a_5)), rv387.2.1) [0] ⟨(q3 hM10 (by simp only [sc_pdqsortOrdered_int_F_L0, h19, h32, h45, h244, h253, h263, h265, h363, h369, h384, h396, hg248, hg257, hg368, hg388, hg400, cs4])), aM1, aM1, aM1, iv1⟩
    intro h396
    have g406 := df h396
    refine KS ?_
    refine Oq Vm (Oq Vm (Oq Vgeq (Oq Va (KS ?_))))
    refine Oq Vm (Oq Vm (Oq Vadd (Oq Vm (Oq Vm ?_))))
    refine Fl 0 fun hn407 => ?_; (try unfold vl); rw [← hn407]
    refine letv (rc rv387.2.2 (rv387.1 + 1) b_6 limit_7) fun rv408 hg409 => ?_
    have hc410 := hrc rv387.2.2 dataa0 datak0 ((rv387.1 + 1)) b_6 limit_7 pre pre pre pre pre pre rv408 hg409
    refine Oc [0] ca54 hc410 ?_
    rintro - he411
    have hn412 : rv387.2.2.length = data.length := by omega
    try unfold vl
    try rw [hn412]
    refine Fb 8 0 fun _ => Fo 0 fun ho414 => KS ?_
    refine Oq Vm (Oq Va (KS ?_))
    exact Kg (r3, rv408, a_5, rv387.1, limit_7, decide (((b_6 - a_5) / 8) ≤ (b_6 - rv387.1)), rv387.2.1) [0] ⟨(q3 hM10 (by simp only [sc_pdqsortOrdered_int_F_L0, h19, h32, h45, h244, h253, h263, h265, h363, h369, h384, h396, hg248, hg257, hg368, hg388, hg409, cs4])), aM1, aM1, aM1, iv1⟩
   intro h363
   have g415 := df h363
   refine Db h363 [] Vm (Ds (Ds (Ds (Ds (Ds (Ds (Ds (Ds (Ds ?_)))))))))
   refine Ds (Ds (Dv [] Vpf ?_))
   refine Dn ⟨by kernel_rfl, fun G => ?_⟩
   refine Jw2 [(0, vl dataa0 datak0 data), (1, vi a_5), (2, vi b_6), (3, vi limit_7), (8, vb wasBalanced_8), (9, vb wasPartitioned_9), (10, vi (b_6 - a_5)), (11, vi ((b_6 - 1) - (rv247.1 - a_5))), (87, vb false)] [0] [] ?_
   refine Kf (KS ?_)
   refine Oq Vm (Oq Vm (Oq Vm (Oq Vm ?_)))
   refine Fl 0 fun hn416 => ?_; (try unfold vl); rw [← hn416]
   refine letv (sc_partitionOrdered_int rv256 a_5 b_6 ((b_6 - 1) - (rv247.1 - a_5))) fun rv417 hg418 => ?_
   have hc419 := fn88 rv256 dataa0 datak0 a_5 b_6 (((b_6 - 1) - (rv247.1 - a_5))) pre pre pre pre rv417 hg418
   refine Oc [0] ca88 hc419 ?_
   rintro - ⟨he420, he421, he422⟩
   unfold i64ok at he420
   have hn423 : rv256.length = data.length := by omega
   try unfold vl
   try rw [hn423]
   refine Fb 8 0 fun _ => Fo 0 fun ho425 => ?_
   refine Oq Vm (Oq Vx (Oq Vx (Oq Va (Oq Va (KS ?_)))))
   refine Oq Vm (Oq Va (KS ?_))
   refine Oq Vm (Oq Vm (Oq Vsub (Oq Vm (Oq Vm (Oq Vsub (Oq Va (Oq Va (KS ?_))))))))
   refine Oq Vm (Oq Vquo (Oq Va (KS ?_)))
   refine Oq Vm (Oq Vm (Oq Vlss (KS ?_)))
   refine Kc ?_ ?_
   ·intro h426
    have g427 := dt h426
    refine KS ?_
    refine Oq Vm (Oq Vm (Oq Vgeq (Oq Va (KS ?_))))
    refine Oq Vm (Oq Vm (Oq Vm (Oq Vm ?_)))
    refine Fl 0 fun hn428 => ?_; (try unfold vl); rw [← hn428]
    refine letv (rc rv417.2.2 a_5 rv417.1 limit_7) fun rv429 hg430 => ?_
    have hc431 := hrc rv417.2.2 dataa0 datak0 a_5 rv417.1 limit_7 pre pre pre pre pre pre rv429 hg430
    refine Oc [0] ca54 hc431 ?_
    rintro - he432
    have hn433 : rv417.2.2.length = data.length := by omega
    try unfold vl
    try rw [hn433]
    refine Fb 8 0 fun _ => Fo 0 fun ho435 => KS ?_
    refine Oq Vm (Oq Vadd (Oq Va (KS ?_)))
    exact Kg (r3, rv429, (rv417.1 + 1), b_6, limit_7, decide (((b_6 - a_5) / 8) ≤ (rv417.1 - a_5)), rv417.2.1) [0] ⟨(q3 hM10 (by simp only [sc_pdqsortOrdered_int_F_L0, h19, h32, h45, h244, h253, h263, h265, h363, h426, hg248, hg257, hg418, hg430, cs4])), aM1, aM1, aM1, iv1⟩
   intro h426
   have g436 := df h426
   refine KS ?_
   refine Oq Vm (Oq Vm (Oq Vgeq (Oq Va (KS ?_))))
   refine Oq Vm (Oq Vm (Oq Vadd (Oq Vm (Oq Vm ?_))))
   refine Fl 0 fun hn437 => ?_; (try unfold vl); rw [← hn437]
   refine letv (rc rv417.2.2 (rv417.1 + 1) b_6 limit_7) fun rv438 hg439 => ?_
   have hc440 := hrc rv417.2.2 dataa0 datak0 ((rv417.1 + 1)) b_6 limit_7 pre pre pre pre pre pre rv438 hg439
   refine Oc [0] ca54 hc440 ?_
   rintro - he441
   have hn442 : rv417.2.2.length = data.length := by omega
   try unfold vl
   try rw [hn442]
   refine Fb 8 0 fun _ => Fo 0 fun ho444 => KS ?_
   refine Oq Vm (Oq Va (KS ?_))
   exact Kg (r3, rv438, a_5, rv417.1, limit_7, decide (((b_6 - a_5) / 8) ≤ (b_6 - rv417.1)), rv417.2.1) [0] ⟨(q3 hM10 (by simp only [sc_pdqsortOrdered_int_F_L0, h19, h32, h45, h244, h253, h263, h265, h363, h426, hg248, hg257, hg418, hg439, cs4])), aM1, aM1, aM1, iv1⟩
  intro h263
  exact absurd h263 (by first | (simp [h45]; done) | (simp only [bne, h45]; decide) | (simp only [bne, h45, Bool.not_true, Bool.not_false]; decide) | (exfalso; omega) | (intro hq; simp only [bne, hq, Bool.not_false, Bool.not_true, reduceCtorEq] at h45))
 intro h253
 have g445 := ne_of_beq_false h253
 refine KS ?_
 refine Oq Vm (Oq Vm ?_)
 refine Js 62 ?_ ?_
 ·intro h446
  refine Oq Vm (Oq Vpt (Oq Vm ?_))
  refine Js 65 ?_ ?_
  ·intro h448
   refine Oq Vm (Oq Veql (Oq Vpt (KS ?_)))
   refine Kc ?_ ?_
   ·intro h450
    have g451 := eq_of_beq h450
    refine KS ?_
    refine Oq Vm (Oq Vm (Oq Vm ?_))
    refine Fl 0 fun hn452 => ?_; (try unfold vl); rw [← hn452]
    refine letv (sc_partialInsertionSortOrdered_int data_4 a_5 b_6) fun rv453 hg454 => ?_
    have hc455 := fn85 data_4 dataa0 datak0 a_5 b_6 pre pre pre rv453 hg454
    refine Oc [0] ca85 hc455 ?_
    rintro - he456
    have hn457 : data_4.length = data.length := by omega
    try unfold vl
    try rw [hn457]
    refine Fb 8 0 fun _ => Fo 0 fun ho459 => KS ?_
    refine Kc ?_ ?_
    ·intro h460
     refine Fl 0 fun hn462 => ?_
     have hR463 := q2 hM10 (.ret rv453.2) (by simp only [sc_pdqsortOrdered_int_F_L0, h19, h32, h45, h244, h253, h446, h448, h450, h460, hg248, hg454, cs4])
     have hq := q4 hrr rv453.2 (by simp only [sc_pdqsortOrdered_int_F, h19, h32, h45, h244, h253, h446, h448, h450, h460, hg248, hg454, hR463, cs4]); subst hq
     exact Kr () rfl .nil [0] en
    intro h460
    refine KS ?_
    refine JK_drawK [0, 1, 3, 7, 7, 23, 63, 127, 7, 7, 775, 1799, 4095, 8191, 16383] fmix ?_
    refine Dv [] Vm (Dv [] Vgtr ?_)
    refine bool_split (decide (0 < a_5)) ?_ ?_
    ·intro h465
     have g466 := dt h465
     refine Db h465 [] Vm (Dv [] Vm (Dv [] Vm (Dv [] Vsub (Dv [0] (Vi sl22 0) ?_))))
     have hb467 := ok1 (i := ((a_5 - 1) : Int).toNat) ho459 rng
     refine Dv [0] (VldI sh3 0) (Dv [] Vm (Dv [] Vm (Dv [0] (Vi sl22 0) ?_)))
     have hb468 := ok1 (i := rv247.1.toNat) ho459 rng
     refine Dv [0] (VldI sh3 0) ?_
     refine letv (cmp_Less_int (rv453.2.getD ((a_5 - 1) : Int).toNat 0) (rv453.2.getD rv247.1.toNat 0)) fun rv469 hg470 => ?_
     refine Dx [] [] [0] (fun G => vb rv469) [fun G => SP.fact (True)] (fun G => xC [] ca86 (fn86 ((rv453.2.getD ((a_5 - 1) : Int).toNat 0)) ((rv453.2.getD rv247.1.toNat 0)) pre pre rv469 hg470)) (Dv [] Vnot (Dv [] Vpt ?_))
     refine Dn ⟨by kernel_rfl, fun G => ?_⟩
     refine Jw2 [(0, vl dataa0 datak0 data), (1, vi a_5), (2, vi b_6), (3, vi limit_7), (8, vb wasBalanced_8), (9, vb wasPartitioned_9), (10, vi (b_6 - a_5)), (11, vi rv247.1), (87, vb (!rv469))] [0] [SP.fact (True)] ?_
     refine Jk [0] ?_
     refine Kc ?_ ?_
     ·intro h471
      have h473 := not_true h471
      refine KS ?_
      refine Oq Vm (Oq Vm (Oq Vm (Oq Vm ?_)))
      refine Fl 0 fun hn475 => ?_; (try unfold vl); rw [← hn475]
      refine letv (sc_partitionEqualOrdered_int rv453.2 a_5 b_6 rv247.1) fun rv476 hg477 => ?_
      have hc478 := fn87 rv453.2 dataa0 datak0 a_5 b_6 rv247.1 pre pre pre pre rv476 hg477
      refine Oc [0] ca87 hc478 ?_
      rintro - ⟨he479, he480, he481⟩
      unfold i64ok at he479
      have hn482 : rv453.2.length = data.length := by omega
      try unfold vl
      try rw [hn482]
      refine Fb 8 0 fun _ => Fo 0 fun ho484 => ?_
      refine Oq Va (KS ?_)
      refine Oq Vm (Oq Va (KS ?_))
      refine Ke ?_
      exact Kg (r3, rv476.2, rv476.1, b_6, limit_7, wasBalanced_8, wasPartitioned_9) [0] ⟨(q3 hM10 (by simp only [sc_pdqsortOrdered_int_F_L0, h19, h32, h45, h244, h253, h446, h448, h450, h460, h465, h471, h473, hg248, hg454, hg470, hg477, cs4])), aM1, aM1, aM1, iv1⟩
     intro h471
     have h486 := not_false h471
     refine KS ?_
     refine Oq Vm (Oq Vm (Oq Vm (Oq Vm ?_)))
     refine Fl 0 fun hn488 => ?_; (try unfold vl); rw [← hn488]
     refine letv (sc_partitionOrdered_int rv453.2 a_5 b_6 rv247.1) fun rv489 hg490 => ?_
     have hc491 := fn88 rv453.2 dataa0 datak0 a_5 b_6 rv247.1 pre pre pre pre rv489 hg490
     refine Oc [0] ca88 hc491 ?_
     rintro - ⟨he492, he493, he494⟩
     unfold i64ok at he492
     have hn495 : rv453.2.length = data.length := by omega
     try unfold vl
     try rw [hn495]
     refine Fb 8 0 fun _ => Fo 0 fun ho497 => ?_
     refine Oq Vm (Oq Vx (Oq Vx (Oq Va (Oq Va (KS ?_)))))
     refine Oq Vm (Oq Va (KS ?_))
     refine Oq Vm (Oq Vm (Oq Vsub (Oq Vm (Oq Vm (Oq Vsub (Oq Va (Oq Va (KS ?_))))))))
     refine Oq Vm (Oq Vquo (Oq Va (KS ?_)))
     refine Oq Vm (Oq Vm (Oq Vlss (KS ?_)))
     refine Kc ?_ ?_
     ·intro h498
      have g499 := dt h498
      refine KS ?_
      refine Oq Vm (Oq Vm (Oq Vgeq (Oq Va (KS ?_))))
      refine Oq Vm (Oq Vm (Oq Vm (Oq Vm ?_)))
      refine Fl 0 fun hn500 => ?_; (try unfold vl); rw [← hn500]
      refine letv (rc rv489.2.2 a_5 rv489.1 limit_7) fun rv501 hg502 => ?_
      have hc503 := hrc rv489.2.2 dataa0 datak0 a_5 rv489.1 limit_7 pre pre pre pre pre pre rv501 hg502
      refine Oc [0] ca54 hc503 ?_
      rintro - he504
      have hn505 : rv489.2.2.length = data.length := by omega
      try unfold vl
      try rw [hn505]
      refine Fb 8 0 fun _ => Fo 0 fun ho507 => KS ?_
      refine Oq Vm (Oq Vadd (Oq Va (KS ?_)))
      exact Kg (r3, rv501, (rv489.1 + 1), b_6, limit_7, decide (((b_6 - a_5) / 8) ≤ (rv489.1 - a_5)), rv489.2.1) [0] ⟨(q3 hM10 (by simp only [sc_pdqsortOrdered_int_F_L0, h19, h32, h45, h244, h253, h446, h448, h450, h460, h465, h471, h486, h498, hg248, hg454, hg470, hg490, hg502, cs4])), aM1, aM1, aM1, iv1⟩
     intro h498
     have g508 := df h498
     refine KS ?_
     refine Oq Vm (Oq Vm (Oq Vgeq (Oq Va (KS ?_))))
     refine Oq Vm (Oq Vm (Oq Vadd (Oq Vm (Oq Vm ?_))))
     refine Fl 0 fun hn509 => ?_; (try unfold vl); rw [← hn509]
     refine letv (rc rv489.2.2 (rv489.1 + 1) b_6 limit_7) fun rv510 hg511 => ?_
     have hc512 := hrc rv489.2.2 dataa0 datak0 ((rv489.1 + 1)) b_6 limit_7 pre pre pre pre pre pre rv510 hg511
     refine Oc [0] ca54 hc512 ?_
     rintro - he513
     have hn514 : rv489.2.2.length = data.length := by omega
     try unfold vl
     try rw [hn514]
     refine Fb 8 0 fun _ => Fo 0 fun ho516 => KS ?_
     refine Oq Vm (Oq Va (KS ?_))
     exact Kg (r3, rv510, a_5, rv489.1, limit_7, decide (((b_6 - a_5) / 8) ≤ (b_6 - rv489.1)), rv489.2.1) [0] ⟨(q3 hM10 (by simp only [sc_pdqsortOrdered_int_F_L0, h19, h32, h45, h244, h253, h446, h448, h450, h460, h465, h471, h486, h498, hg248, hg454, hg470, hg490, hg511, cs4])), aM1, aM1, aM1, iv1⟩
    intro h465
    have g517 := df h465
    refine Db h465 [] Vm (Ds (Ds (Ds (Ds (Ds (Ds (Ds (Ds (Ds ?_)))))))))
    refine Ds (Ds (Dv [] Vpf ?_))
    refine Dn ⟨by kernel_rfl, fun G => ?_⟩
    refine Jw2 [(0, vl dataa0 datak0 data), (1, vi a_5), (2, vi b_6), (3, vi limit_7), (8, vb wasBalanced_8), (9, vb wasPartitioned_9), (10, vi (b_6 - a_5)), (11, vi rv247.1), (87, vb false)] [0] [] ?_
    refine Kf (KS ?_)
    refine Oq Vm (Oq Vm (Oq Vm (Oq Vm ?_)))
    refine Fl 0 fun hn518 => ?_; (try unfold vl); rw [← hn518]
    refine letv (sc_partitionOrdered_int rv453.2 a_5 b_6 rv247.1) fun rv519 hg520 => ?_
    have hc521 := fn88 rv453.2 dataa0 datak0 a_5 b_6 rv247.1 pre pre pre pre rv519 hg520
    refine Oc [0] ca88 hc521 ?_
    rintro - ⟨he522, he523, he524⟩
    unfold i64ok at he522
    have hn525 : rv453.2.length = data.length := by omega
    try unfold vl
    try rw [hn525]
    refine Fb 8 0 fun _ => Fo 0 fun ho527 => ?_
    refine Oq Vm (Oq Vx (Oq Vx (Oq Va (Oq Va (KS ?_)))))
    refine Oq Vm (Oq Va (KS ?_))
    refine Oq Vm (Oq Vm (Oq Vsub (Oq Vm (Oq Vm (Oq Vsub (Oq Va (Oq Va (KS ?_))))))))
    refine Oq Vm (Oq Vquo (Oq Va (KS ?_)))
    refine Oq Vm (Oq Vm (Oq Vlss (KS ?_)))
    refine Kc ?_ ?_
    ·intro h528
     have g529 := dt h528
     refine KS ?_
     refine Oq Vm (Oq Vm (Oq Vgeq (Oq Va (KS ?_))))
     refine Oq Vm (Oq Vm (Oq Vm (Oq Vm ?_)))
     refine Fl 0 fun hn530 => ?_; (try unfold vl); rw [← hn530]
     refine letv (rc rv519.2.2 a_5 rv519.1 limit_7) fun rv531 hg532 => ?_
     have hc533 := hrc rv519.2.2 dataa0 datak0 a_5 rv519.1 limit_7 pre pre pre pre pre pre rv531 hg532
     refine Oc [0] ca54 hc533 ?_
     rintro - he534
     have hn535 : rv519.2.2.length = data.length := by omega
     try unfold vl
     try rw [hn535]
     refine Fb 8 0 fun _ => Fo 0 fun ho537 => KS ?_
     refine Oq Vm (Oq Vadd (Oq Va (KS ?_)))
     exact Kg (r3, rv531, (rv519.1 + 1), b_6, limit_7, decide (((b_6 - a_5) / 8) ≤ (rv519.1 - a_5)), rv519.2.1) [0] ⟨(q3 hM10 (by simp only [sc_pdqsortOrdered_int_F_L0, h19, h32, h45, h244, h253, h446, h448, h450, h460, h465, h528, hg248, hg454, hg520, hg532, cs4])), aM1, aM1, aM1, iv1⟩
    intro h528
    have g538 := df h528
    refine KS ?_
    refine Oq Vm (Oq Vm (Oq Vgeq (Oq Va (KS ?_))))
    refine Oq Vm (Oq Vm (Oq Vadd (Oq Vm (Oq Vm ?_))))
    refine Fl 0 fun hn539 => ?_; (try unfold vl); rw [← hn539]
    refine letv (rc rv519.2.2 (rv519.1 + 1) b_6 limit_7) fun rv540 hg541 => ?_
    have hc542 := hrc rv519.2.2 dataa0 datak0 ((rv519.1 + 1)) b_6 limit_7 pre pre pre pre pre pre rv540 hg541
    refine Oc [0] ca54 hc542 ?_
    rintro - he543
    have hn544 : rv519.2.2.length = data.length := by omega
    try unfold vl
    try rw [hn544]
    refine Fb 8 0 fun _ => Fo 0 fun ho546 => KS ?_
    refine Oq Vm (Oq Va (KS ?_))
    exact Kg (r3, rv540, a_5, rv519.1, limit_7, decide (((b_6 - a_5) / 8) ≤ (b_6 - rv519.1)), rv519.2.1) [0] ⟨(q3 hM10 (by simp only [sc_pdqsortOrdered_int_F_L0, h19, h32, h45, h244, h253, h446, h448, h450, h460, h465, h528, hg248, hg454, hg520, hg541, cs4])), aM1, aM1, aM1, iv1⟩
   intro h450
   have g547 := ne_of_beq_false h450
   refine KS ?_
   refine JK_drawK [0, 1, 3, 7, 7, 23, 63, 127, 7, 7, 775, 1799, 4095, 8191, 16383] fmix ?_
   refine Dv [] Vm (Dv [] Vgtr ?_)
   refine bool_split (decide (0 < a_5)) ?_ ?_
   ·intro h548
    have g549 := dt h548
    refine Db h548 [] Vm (Dv [] Vm (Dv [] Vm (Dv [] Vsub (Dv [0] (Vi sl22 0) ?_))))
    have hb550 := ok1 (i := ((a_5 - 1) : Int).toNat) ho17 rng
    refine Dv [0] (VldI sh3 0) (Dv [] Vm (Dv [] Vm (Dv [0] (Vi sl22 0) ?_)))
    have hb551 := ok1 (i := rv247.1.toNat) ho17 rng
    refine Dv [0] (VldI sh3 0) ?_
    refine letv (cmp_Less_int (data_4.getD ((a_5 - 1) : Int).toNat 0) (data_4.getD rv247.1.toNat 0)) fun rv552 hg553 => ?_
    refine Dx [] [] [0] (fun G => vb rv552) [fun G => SP.fact (True)] (fun G => xC [] ca86 (fn86 ((data_4.getD ((a_5 - 1) : Int).toNat 0)) ((data_4.getD rv247.1.toNat 0)) pre pre rv552 hg553)) (Dv [] Vnot (Dv [] Vpt ?_))
    refine Dn ⟨by kernel_rfl, fun G => ?_⟩
    refine Jw2 [(0, vl dataa0 datak0 data), (1, vi a_5), (2, vi b_6), (3, vi limit_7), (8, vb wasBalanced_8), (9, vb wasPartitioned_9), (10, vi (b_6 - a_5)), (11, vi rv247.1), (87, vb (!rv552))] [0] [SP.fact (True)] ?_
    refine Jk [0] ?_
    refine Kc ?_ ?_
    ·intro h554
     have h556 := not_true h554
     refine KS ?_
     refine Oq Vm (Oq Vm (Oq Vm (Oq Vm ?_)))
     refine Fl 0 fun hn558 => ?_; (try unfold vl); rw [← hn558]
     refine letv (sc_partitionEqualOrdered_int data_4 a_5 b_6 rv247.1) fun rv559 hg560 => ?_
     have hc561 := fn87 data_4 dataa0 datak0 a_5 b_6 rv247.1 pre pre pre pre rv559 hg560
     refine Oc [0] ca87 hc561 ?_
     rintro - ⟨he562, he563, he564⟩
     unfold i64ok at he562
     have hn565 : data_4.length = data.length := by omega
     try unfold vl
     try rw [hn565]
     refine Fb 8 0 fun _ => Fo 0 fun ho567 => ?_
     refine Oq Va (KS ?_)
     refine Oq Vm (Oq Va (KS ?_))
     refine Ke ?_
     exact Kg (r3, rv559.2, rv559.1, b_6, limit_7, wasBalanced_8, wasPartitioned_9) [0] ⟨(q3 hM10 (by simp only [sc_pdqsortOrdered_int_F_L0, h19, h32, h45, h244, h253, h446, h448, h450, h548, h554, h556, hg248, hg553, hg560, cs4])), aM1, aM1, aM1, iv1⟩
    intro h554
    have h569 := not_false h554
    refine KS ?_
    refine Oq Vm (Oq Vm (Oq Vm (Oq Vm ?_)))
    refine Fl 0 fun hn571 => ?_; (try unfold vl); rw [← hn571]
    refine letv (sc_partitionOrdered_int data_4 a_5 b_6 rv247.1) fun rv572 hg573 => ?_
    have hc574 := fn88 data_4 dataa0 datak0 a_5 b_6 rv247.1 pre pre pre pre rv572 hg573
    refine Oc [0] ca88 hc574 ?_
    rintro - ⟨he575, he576, he577⟩
    unfold i64ok at he575
    have hn578 : data_4.length = data.length := by omega
    try unfold vl
    try rw [hn578]
    refine Fb 8 0 fun _ => Fo 0 fun ho580 => ?_
    refine Oq Vm (Oq Vx (Oq Vx (Oq Va (Oq Va (KS ?_)))))
    refine Oq Vm (Oq Va (KS ?_))
    refine Oq Vm (Oq Vm (Oq Vsub (Oq Vm (Oq Vm (Oq Vsub (Oq Va (Oq Va (KS ?_))))))))
    refine Oq Vm (Oq Vquo (Oq Va (KS ?_)))
    refine Oq Vm (Oq Vm (Oq Vlss (KS ?_)))
    refine Kc ?_ ?_
    ·intro h581
     have g582 := dt h581
     refine KS ?_
     refine Oq Vm (Oq Vm (Oq Vgeq (Oq Va (KS ?_))))
     refine Oq Vm (Oq Vm (Oq Vm (Oq Vm ?_)))
     refine Fl 0 fun hn583 => ?_; (try unfold vl); rw [← hn583]
     refine letv (rc rv572.2.2 a_5 rv572.1 limit_7) fun rv584 hg585 => ?_
     have hc586 := hrc rv572.2.2 dataa0 datak0 a_5 rv572.1 limit_7 pre pre pre pre pre pre rv584 hg585
     refine Oc [0] ca54 hc586 ?_
     rintro - he587
     have hn588 : rv572.2.2.length = data.length := by omega
     try unfold vl
     try rw [hn588]
     refine Fb 8 0 fun _ => Fo 0 fun ho590 => KS ?_
     refine Oq Vm (Oq Vadd (Oq Va (KS ?_)))
     exact Kg (r3, rv584, (rv572.1 + 1), b_6, limit_7, decide (((b_6 - a_5) / 8) ≤ (rv572.1 - a_5)), rv572.2.1) [0] ⟨(q3 hM10 (by simp only [sc_pdqsortOrdered_int_F_L0, h19, h32, h45, h244, h253, h446, h448, h450, h548, h554, h569, h581, hg248, hg553, hg573, hg585, cs4])), aM1, aM1, aM1, iv1⟩
    intro h581
    have g591 := df h581
    refine KS ?_
    refine Oq Vm (Oq Vm (Oq Vgeq (Oq Va (KS ?_))))
    refine Oq Vm (Oq Vm (Oq Vadd (Oq Vm (Oq Vm ?_))))
    refine Fl 0 fun hn592 => ?_; (try unfold vl); rw [← hn592]
    refine letv (rc rv572.2.2 (rv572.1 + 1) b_6 limit_7) fun rv593 hg594 => ?_
    have hc595 := hrc rv572.2.2 dataa0 datak0 ((rv572.1 + 1)) b_6 limit_7 pre pre pre pre pre pre rv593 hg594
    refine Oc [0] ca54 hc595 ?_
    rintro - he596
    have hn597 : rv572.2.2.length = data.length := by omega
    try unfold vl
    try rw [hn597]
    refine Fb 8 0 fun _ => Fo 0 fun ho599 => KS ?_
    refine Oq Vm (Oq Va (KS ?_))
    exact Kg (r3, rv593, a_5, rv572.1, limit_7, decide (((b_6 - a_5) / 8) ≤ (b_6 - rv572.1)), rv572.2.1) [0] ⟨(q3 hM10 (by simp only [sc_pdqsortOrdered_int_F_L0, h19, h32, h45, h244, h253, h446, h448, h450, h548, h554, h569, h581, hg248, hg553, hg573, hg594, cs4])), aM1, aM1, aM1, iv1⟩
   intro h548
   have g600 := df h548
   refine Db h548 [] Vm (Ds (Ds (Ds (Ds (Ds (Ds (Ds (Ds (Ds ?_)))))))))
   refine Ds (Ds (Dv [] Vpf ?_))
   refine Dn ⟨by kernel_rfl, fun G => ?_⟩
   refine Jw2 [(0, vl dataa0 datak0 data), (1, vi a_5), (2, vi b_6), (3, vi limit_7), (8, vb wasBalanced_8), (9, vb wasPartitioned_9), (10, vi (b_6 - a_5)), (11, vi rv247.1), (87, vb false)] [0] [] ?_
   refine Kf (KS ?_)
   refine Oq Vm (Oq Vm (Oq Vm (Oq Vm ?_)))
   refine Fl 0 fun hn601 => ?_; (try unfold vl); rw [← hn601]
   refine letv (sc_partitionOrdered_int data_4 a_5 b_6 rv247.1) fun rv602 hg603 => ?_
   have hc604 := fn88 data_4 dataa0 datak0 a_5 b_6 rv247.1 pre pre pre pre rv602 hg603
   refine Oc [0] ca88 hc604 ?_
   rintro - ⟨he605, he606, he607⟩
   unfold i64ok at he605
   have hn608 : data_4.length = data.length := by omega
   try unfold vl
   try rw [hn608]
   refine Fb 8 0 fun _ => Fo 0 fun ho610 => ?_
   refine Oq Vm (Oq Vx (Oq Vx (Oq Va (Oq Va (KS ?_)))))
   refine Oq Vm (Oq Va (KS ?_))
   refine Oq Vm (Oq Vm (Oq Vsub (Oq Vm (Oq Vm (Oq Vsub (Oq Va (Oq Va (KS ?_))))))))
   refine Oq Vm (Oq Vquo (Oq Va (KS ?_)))
   refine Oq Vm (Oq Vm (Oq Vlss (KS ?_)))
   refine Kc ?_ ?_
   ·intro h611
    have g612 := dt h611
    refine KS ?_
    refine Oq Vm (Oq Vm (Oq Vgeq (Oq Va (KS ?_))))
    refine Oq Vm (Oq Vm (Oq Vm (Oq Vm ?_)))
    refine Fl 0 fun hn613 => ?_; (try unfold vl); rw [← hn613]
    refine letv (rc rv602.2.2 a_5 rv602.1 limit_7) fun rv614 hg615 => ?_
    have hc616 := hrc rv602.2.2 dataa0 datak0 a_5 rv602.1 limit_7 pre pre pre pre pre pre rv614 hg615
    refine Oc [0] ca54 hc616 ?_
    rintro - he617
    have hn618 : rv602.2.2.length = data.length := by omega
    try unfold vl
    try rw [hn618]
    refine Fb 8 0 fun _ => Fo 0 fun ho620 => KS ?_
    refine Oq Vm (Oq Vadd (Oq Va (KS ?_)))
    exact Kg (r3, rv614, (rv602.1 + 1), b_6, limit_7, decide (((b_6 - a_5) / 8) ≤ (rv602.1 - a_5)), rv602.2.1) [0] ⟨(q3 hM10 (by simp only [sc_pdqsortOrdered_int_F_L0, h19, h32, h45, h244, h253, h446, h448, h450, h548, h611, hg248, hg603, hg615, cs4])), aM1, aM1, aM1, iv1⟩
   intro h611
   have g621 := df h611
   refine KS ?_
   refine Oq Vm (Oq Vm (Oq Vgeq (Oq Va (KS ?_))))
   refine Oq Vm (Oq Vm (Oq Vadd (Oq Vm (Oq Vm ?_))))
   refine Fl 0 fun hn622 => ?_; (try unfold vl); rw [← hn622]
   refine letv (rc rv602.2.2 (rv602.1 + 1) b_6 limit_7) fun rv623 hg624 => ?_
   have hc625 := hrc rv602.2.2 dataa0 datak0 ((rv602.1 + 1)) b_6 limit_7 pre pre pre pre pre pre rv623 hg624
   refine Oc [0] ca54 hc625 ?_
   rintro - he626
   have hn627 : rv602.2.2.length = data.length := by omega
   try unfold vl
   try rw [hn627]
   refine Fb 8 0 fun _ => Fo 0 fun ho629 => KS ?_
   refine Oq Vm (Oq Va (KS ?_))
   exact Kg (r3, rv623, a_5, rv602.1, limit_7, decide (((b_6 - a_5) / 8) ≤ (b_6 - rv602.1)), rv602.2.1) [0] ⟨(q3 hM10 (by simp only [sc_pdqsortOrdered_int_F_L0, h19, h32, h45, h244, h253, h446, h448, h450, h548, h611, hg248, hg603, hg624, cs4])), aM1, aM1, aM1, iv1⟩
  intro h448
  refine Osk (Osk (Oq Vpf (KS ?_)))
  refine Kf (KS ?_)
  refine JK_drawK [0, 1, 3, 7, 7, 23, 63, 127, 7, 7, 775, 1799, 4095, 8191, 16383] fmix ?_
  refine Dv [] Vm (Dv [] Vgtr ?_)
  refine bool_split (decide (0 < a_5)) ?_ ?_
  ·intro h631
   have g632 := dt h631
   refine Db h631 [] Vm (Dv [] Vm (Dv [] Vm (Dv [] Vsub (Dv [0] (Vi sl22 0) ?_))))
   have hb633 := ok1 (i := ((a_5 - 1) : Int).toNat) ho17 rng
   refine Dv [0] (VldI sh3 0) (Dv [] Vm (Dv [] Vm (Dv [0] (Vi sl22 0) ?_)))
   have hb634 := ok1 (i := rv247.1.toNat) ho17 rng
   refine Dv [0] (VldI sh3 0) ?_
   refine letv (cmp_Less_int (data_4.getD ((a_5 - 1) : Int).toNat 0) (data_4.getD rv247.1.toNat 0)) fun rv635 hg636 => ?_
   refine Dx [] [] [0] (fun G => vb rv635) [fun G => SP.fact (True)] (fun G => xC [] ca86 (fn86 ((data_4.getD ((a_5 - 1) : Int).toNat 0)) ((data_4.getD rv247.1.toNat 0)) pre pre rv635 hg636)) (Dv [] Vnot (Dv [] Vpt ?_))
   refine Dn ⟨by kernel_rfl, fun G => ?_⟩
   refine Jw2 [(0, vl dataa0 datak0 data), (1, vi a_5), (2, vi b_6), (3, vi limit_7), (8, vb wasBalanced_8), (9, vb wasPartitioned_9), (10, vi (b_6 - a_5)), (11, vi rv247.1), (87, vb (!rv635))] [0] [SP.fact (True)] ?_
   refine Jk [0] ?_
   refine Kc ?_ ?_
   ·intro h637
    have h639 := not_true h637
    refine KS ?_
    refine Oq Vm (Oq Vm (Oq Vm (Oq Vm ?_)))
    refine Fl 0 fun hn641 => ?_; (try unfold vl); rw [← hn641]
    refine letv (sc_partitionEqualOrdered_int data_4 a_5 b_6 rv247.1) fun rv642 hg643 => ?_
    have hc644 := fn87 data_4 dataa0 datak0 a_5 b_6 rv247.1 pre pre pre pre rv642 hg643
    refine Oc [0] ca87 hc644 ?_
    rintro - ⟨he645, he646, he647⟩
    unfold i64ok at he645
    have hn648 : data_4.length = data.length := by omega
    try unfold vl
    try rw [hn648]
    refine Fb 8 0 fun _ => Fo 0 fun ho650 => ?_
    refine Oq Va (KS ?_)
    refine Oq Vm (Oq Va (KS ?_))
    refine Ke ?_
    exact Kg (r3, rv642.2, rv642.1, b_6, limit_7, wasBalanced_8, wasPartitioned_9) [0] ⟨(q3 hM10 (by simp only [sc_pdqsortOrdered_int_F_L0, h19, h32, h45, h244, h253, h446, h448, h631, h637, h639, hg248, hg636, hg643, cs4])), aM1, aM1, aM1, iv1⟩
   intro h637
   have h652 := not_false h637
   refine KS ?_
   refine Oq Vm (Oq Vm (Oq Vm (Oq Vm ?_)))
   refine Fl 0 fun hn654 => ?_; (try unfold vl); rw [← hn654]
   refine letv (sc_partitionOrdered_int data_4 a_5 b_6 rv247.1) fun rv655 hg656 => ?_
   have hc657 := fn88 data_4 dataa0 datak0 a_5 b_6 rv247.1 pre pre pre pre rv655 hg656
   refine Oc [0] ca88 hc657 ?_
   rintro - ⟨he658, he659, he660⟩
   unfold i64ok at he658
   have hn661 : data_4.length = data.length := by omega
   try unfold vl
   try rw [hn661]
   refine Fb 8 0 fun _ => Fo 0 fun ho663 => ?_
   refine Oq Vm (Oq Vx (Oq Vx (Oq Va (Oq Va (KS ?_)))))
   refine Oq Vm (Oq Va (KS ?_))
   refine Oq Vm (Oq Vm (Oq Vsub (Oq Vm (Oq Vm (Oq Vsub (Oq Va (Oq Va (KS ?_))))))))
   refine Oq Vm (Oq Vquo (Oq Va (KS ?_)))
   refine Oq Vm (Oq Vm (Oq Vlss (KS ?_)))
   refine Kc ?_ ?_
   ·intro h664
    have g665 := dt h664
    refine KS ?_
    refine Oq Vm (Oq Vm (Oq Vgeq (Oq Va (KS ?_))))
    refine Oq Vm (Oq Vm (Oq Vm (Oq Vm ?_)))
    refine Fl 0 fun hn666 => ?_; (try unfold vl); rw [← hn666]
    refine letv (rc rv655.2.2 a_5 rv655.1 limit_7) fun rv667 hg668 => ?_
    have hc669 := hrc rv655.2.2 dataa0 datak0 a_5 rv655.1 limit_7 pre pre pre pre pre pre rv667 hg668
    refine Oc [0] ca54 hc669 ?_
    rintro - he670
    have hn671 : rv655.2.2.length = data.length := by omega
    try unfold vl
    try rw [hn671]
    refine Fb 8 0 fun _ => Fo 0 fun ho673 => KS ?_
    refine Oq Vm (Oq Vadd (Oq Va (KS ?_)))
    exact Kg (r3, rv667, (rv655.1 + 1), b_6, limit_7, decide (((b_6 - a_5) / 8) ≤ (rv655.1 - a_5)), rv655.2.1) [0] ⟨(q3 hM10 (by simp only [sc_pdqsortOrdered_int_F_L0, h19, h32, h45, h244, h253, h446, h448, h631, h637, h652, h664, hg248, hg636, hg656, hg668, cs4])), aM1, aM1, aM1, iv1⟩
   intro h664
   have g674 := df h664
   refine KS ?_
   refine Oq Vm (Oq Vm (Oq Vgeq (Oq Va (KS ?_))))
   refine Oq Vm (Oq Vm (Oq Vadd (Oq Vm (Oq Vm ?_))))
   refine Fl 0 fun hn675 => ?_; (try unfold vl); rw [← hn675]
   refine letv (rc rv655.2.2 (rv655.1 + 1) b_6 limit_7) fun rv676 hg677 => ?_
   have hc678 := hrc rv655.2.2 dataa0 datak0 ((rv655.1 + 1)) b_6 limit_7 pre pre pre pre pre pre rv676 hg677
   refine Oc [0] ca54 hc678 ?_
   rintro - he679
   have hn680 : rv655.2.2.length = data.length := by omega
   try unfold vl
   try rw [hn680]
   refine Fb 8 0 fun _ => Fo 0 fun ho682 => KS ?_
   refine Oq Vm (Oq Va (KS ?_))
   exact Kg (r3, rv676, a_5, rv655.1, limit_7, decide (((b_6 - a_5) / 8) ≤ (b_6 - rv655.1)), rv655.2.1) [0] ⟨(q3 hM10 (by simp only [sc_pdqsortOrdered_int_F_L0, h19, h32, h45, h244, h253, h446, h448, h631, h637, h652, h664, hg248, hg636, hg656, hg677, cs4])), aM1, aM1, aM1, iv1⟩
  intro h631
  have g683 := df h631
  refine Db h631 [] Vm (Ds (Ds (Ds (Ds (Ds (Ds (Ds (Ds (Ds ?_)))))))))
  refine Ds (Ds (Dv [] Vpf ?_))
  refine Dn ⟨by kernel_rfl, fun G => ?_⟩
  refine Jw2 [(0, vl dataa0 datak0 data), (1, vi a_5), (2, vi b_6), (3, vi limit_7), (8, vb wasBalanced_8), (9, vb wasPartitioned_9), (10, vi (b_6 - a_5)), (11, vi rv247.1), (87, vb false)] [0] [] ?_
  refine Kf (KS ?_)
  refine Oq Vm (Oq Vm (Oq Vm (Oq Vm ?_)))
  refine Fl 0 fun hn684 => ?_; (try unfold vl); rw [← hn684]
  refine letv (sc_partitionOrdered_int data_4 a_5 b_6 rv247.1) fun rv685 hg686 => ?_
  have hc687 := fn88 data_4 dataa0 datak0 a_5 b_6 rv247.1 pre pre pre pre rv685 hg686
  refine Oc [0] ca88 hc687 ?_
  rintro - ⟨he688, he689, he690⟩
  unfold i64ok at he688
  have hn691 : data_4.length = data.length := by omega
  try unfold vl
  try rw [hn691]
  refine Fb 8 0 fun _ => Fo 0 fun ho693 => ?_
  refine Oq Vm (Oq Vx (Oq Vx (Oq Va (Oq Va (KS ?_)))))
  refine Oq Vm (Oq Va (KS ?_))
  refine Oq Vm (Oq Vm (Oq Vsub (Oq Vm (Oq Vm (Oq Vsub (Oq Va (Oq Va (KS ?_))))))))
  refine Oq Vm (Oq Vquo (Oq Va (KS ?_)))
  refine Oq Vm (Oq Vm (Oq Vlss (KS ?_)))
  refine Kc ?_ ?_
  ·intro h694
   have g695 := dt h694
   refine KS ?_
   refine Oq Vm (Oq Vm (Oq Vgeq (Oq Va (KS ?_))))
   refine Oq Vm (Oq Vm (Oq Vm (Oq Vm ?_)))
   refine Fl 0 fun hn696 => ?_; (try unfold vl); rw [← hn696]
   refine letv (rc rv685.2.2 a_5 rv685.1 limit_7) fun rv697 hg698 => ?_
   have hc699 := hrc rv685.2.2 dataa0 datak0 a_5 rv685.1 limit_7 pre pre pre pre pre pre rv697 hg698
   refine Oc [0] ca54 hc699 ?_
   rintro - he700
   have hn701 : rv685.2.2.length = data.length := by omega
   try unfold vl
   try rw [hn701]
   refine Fb 8 0 fun _ => Fo 0 fun ho703 => KS ?_
   refine Oq Vm (Oq Vadd (Oq Va (KS ?_)))
   exact Kg (r3, rv697, (rv685.1 + 1), b_6, limit_7, decide (((b_6 - a_5) / 8) ≤ (rv685.1 - a_5)), rv685.2.1) [0] ⟨(q3 hM10 (by simp only [sc_pdqsortOrdered_int_F_L0, h19, h32, h45, h244, h253, h446, h448, h631, h694, hg248, hg686, hg698, cs4])), aM1, aM1, aM1, iv1⟩
  intro h694
  have g704 := df h694
  refine KS ?_
  refine Oq Vm (Oq Vm (Oq Vgeq (Oq Va (KS ?_))))
  refine Oq Vm (Oq Vm (Oq Vadd (Oq Vm (Oq Vm ?_))))
  refine Fl 0 fun hn705 => ?_; (try unfold vl); rw [← hn705]
  refine letv (rc rv685.2.2 (rv685.1 + 1) b_6 limit_7) fun rv706 hg707 => ?_
  have hc708 := hrc rv685.2.2 dataa0 datak0 ((rv685.1 + 1)) b_6 limit_7 pre pre pre pre pre pre rv706 hg707
  refine Oc [0] ca54 hc708 ?_
  rintro - he709
  have hn710 : rv685.2.2.length = data.length := by omega
  try unfold vl
  try rw [hn710]
  refine Fb 8 0 fun _ => Fo 0 fun ho712 => KS ?_
  refine Oq Vm (Oq Va (KS ?_))
  exact Kg (r3, rv706, a_5, rv685.1, limit_7, decide (((b_6 - a_5) / 8) ≤ (b_6 - rv685.1)), rv685.2.1) [0] ⟨(q3 hM10 (by simp only [sc_pdqsortOrdered_int_F_L0, h19, h32, h45, h244, h253, h446, h448, h631, h694, hg248, hg686, hg707, cs4])), aM1, aM1, aM1, iv1⟩
 intro h446
 exact absurd h446 (by first | (simp [h45]; done) | (simp only [bne, h45]; decide) | (simp only [bne, h45, Bool.not_true, Bool.not_false]; decide) | (exfalso; omega) | (intro hq; simp only [bne, hq, Bool.not_false, Bool.not_true, reduceCtorEq] at h45))
theorem fn54 : ∀ (fu : Nat) (data : List Int) (dataa0 : Option Addr) (datak0 : Nat) (a : Int) (b : Int) (limit : Int) (ha_0 : i64ok a) (hb_0 : i64ok b) (hlimit_0 : i64ok limit) (ha0 : 0 ≤ a ∧ a ≤ b ∧ b ≤ (data.length : Int) ∧ data.length ≤ 65535) (hl0 : 0 ≤ limit ∧ limit ≤ 1000) (hfu : (b - a).toNat < fu) (rr : List Int) (hrr : sc_pdqsortOrdered_int fu data a b limit = rr), FT Tryd.prog 54 #[vl dataa0 datak0 data, vi a, vi b, vi limit] [O dataa0 datak0 data] (fun g : Unit => (rr.length = data.length)) (fun g => .tuple #[]) (fun g => [os (vl dataa0 datak0 data) rr])
 | 0, data, dataa0, datak0, a, b, limit, ha_0, hb_0, hlimit_0, ha0, hl0, hfu, _, _ => absurd hfu (Nat.not_lt_zero _)
 | fu + 1, data, dataa0, datak0, a, b, limit, ha_0, hb_0, hlimit_0, ha0, hl0, hfu, rr, hrr => fn54F (sc_pdqsortOrdered_int fu) _ data dataa0 datak0 a b limit rfl (fun d a b l h1 h2 h3 h4 h5 => pdq_l fu d a b l (Nat.lt_of_lt_of_le h5 (Nat.le_of_lt_succ hfu)) h1 h2 h3 h4) (fun data1 dataa01 datak01 a1 b1 limit1 ha_01 hb_01 hlimit_01 ha01 hl01 hm rr1 hrr1 => fn54 fu data1 dataa01 datak01 a1 b1 limit1 ha_01 hb_01 hlimit_01 ha01 hl01 (Nat.lt_of_lt_of_le hm (Nat.le_of_lt_succ hfu)) rr1 hrr1) ha_0 hb_0 hlimit_0 ha0 hl0 rr (by simpa only [sc_pdqsortOrdered_int] using hrr)
theorem fn28 (x : List Int) (xa0 : Option Addr) (xk0 : Nat) (ha0 : x.length ≤ 65535) (rr : List Int) (hrr : sc_Sort_int x = rr) : FT Tryd.prog 28 #[vl xa0 xk0 x] [O xa0 xk0 x] (fun g : Unit => (rr.length = x.length)) (fun g => .tuple #[]) (fun g => [os (vl xa0 xk0 x) rr]) := by
 refine FTi Tryd.func28 fun w0 M0 F0 => Fb 8 0 fun _ => Fo 0 fun ho2 => ?_
 refine KS ?_
 refine Oq Vm (Oq (Vlen sl22) (Oq Va (KS ?_)))
 refine Oq Vm (Oq Vm (Oq Vm (Oq (VcU un3 un111) ?_)))
 refine letv (bits_Len (BitVec.ofInt 64 (x.length : Int))) fun rv3 hg4 => ?_
 have hln := Len_f hg4 (by rw [ofI_nat aM1]; omega)
 have hc5 := fn55 ((BitVec.ofInt 64 (x.length : Int))) (by rw [ofI_nat aM1]; omega) rv3 hg4
 refine Oc [] ca55 hc5 ?_
 rintro - he6
 unfold i64ok at he6
 refine letv (sc_pdqsortOrdered_int (x.length + 1) x 0 (x.length : Int) rv3) fun rv7 hg8 => ?_
 have hc9 := fn54 (x.length + 1) x xa0 xk0 0 ((x.length : Int)) rv3 pre pre pre pre pre pre rv7 hg8
 refine Oc [0] ca54 hc9 ?_
 rintro - he10
 refine Fb 8 0 fun _ => Fo 0 fun ho12 => KS ?_
 refine Fl 0 fun hn13 => ?_
 have hq := q4 hrr rv7 (by simp only [sc_Sort_int, hg4, hg8, cs4]); subst hq
 exact Kz () rfl .nil [0] en
theorem fn8 (p : GProgram) (pa0 : Option Addr) (pk0 : Nat) (kwLA : Option Addr) (kwLK : Nat) (hps : PSm p = true) (rr : GGraph × Int) (hrr : gh_Build p = rr) : FT Tryd.prog 8 #[.agg #[vl pa0 pk0 p.Funcs]] [S pa0 pk0 p.Funcs, pv (gp 0) [vl kwLA kwLK kwL], S kwLA kwLK kwL] (fun g : Value × Value × Value => i64ok rr.2 ∧ (rr.1.Pred.length = rr.1.Succ.length)) (fun g => .tuple #[.agg #[g.1, g.2.1, g.2.2], vi rr.2]) (fun g => [sl g.1 rr.1.Nodes, sl g.2.1 rr.1.Succ, sl g.2.2 rr.1.Pred]) := by
 refine FTi Tryd.func8 fun w0 M0 F0 => Fb 40 0 fun _ => Fb 16 2 fun _ => ?_
 refine FoS 2 fun ho3 => ?_
 refine KS ?_
 refine Oa (Ab [vl pa0 pk0 p.Funcs]) fun p4 => Oa (Al ze32 [.slice none 0 0, .slice none 0 0, .slice none 0 0]) fun p5 => Oq Va (KS ?_)
 refine Oq (VldA sh25 1) ?_
 refine letv (vd_Check p) fun rv6 hg7 => ?_
 have hc8 := fn23 p pa0 pk0 kwLA kwLK pre rv6 hg7
 refine Oc [2, 3, 4] ca23 hc8 ?_
 rintro - ⟨he9, he10, he11, he12, he13⟩
 unfold i64ok at he9 he10 he11 he12 he13
 refine Oq Vm (Oq Vx (Oq Vx (Oa (Al ze41 [vi 0, vi 0, vi 0, vi 0]) fun p14 => Ost (Scl [0] sh41 [vi rv6.1.Kind, vi rv6.1.Func, vi rv6.1.Block, vi rv6.1.Stmt]) (Oq Va (KS ?_)))))
 refine Oq Vm (Oq Vneq (KS ?_))
 refine Kc ?_ ?_
 ·intro h15
  have g16 := ne_of_bne h15
  refine KS ?_
  refine Oq (Vbd st32 [.slice none 0 0, .slice none 0 0, .slice none 0 0]) (Oq Vm (Ost (Scl [1] sh32 [.slice none 0 0, .slice none 0 0, .slice none 0 0]) (Oq Va (KS ?_))))
  refine Jl [] (Ent.slNil (α := GNode)) ?_
  refine Jl [] (Ent.slNil (α := List Int)) ?_
  have hq := q4 hrr ((GGraph.mk [] [] []), rv6.2) (by simp only [gh_Build, h15, hg7, cs4]); subst hq
  exact Kr (.slice none 0 0, .slice none 0 0, .slice none 0 0) rfl (.cellN 2 rfl sh32 rfl (reads_Cl _ _) rfl (.tmp rfl .nil)) [1, 0, 0] ⟨en, (by first | rfl | (dsimp only at *; omega))⟩
 intro h15
 have g17 := eq_of_bne_false h15
 have hVp := CheckV (by assumption) h15
 refine KS ?_
 refine Oq (VldA sh25 2) ?_
 refine letv (nd_List p) fun rv19 hg20 => ?_
 have hlp := ListV_pos hg20 (by assumption) (by assumption)
 have hc21 := fn24 p pa0 pk0 kwLA kwLK pre rv19 hg20
 refine Oc [3, 4, 5] ca24 hc21 ?_
 rintro c18 he22
 refine Jo 0 ?_; rintro a23 k24 rfl
 refine Fb 32 0 fun _ => ?_
 refine Oq Va (KS ?_)
 refine JK_drawK [0, 0, 2, 6, 0, 16, 48, 127, 0, 511, 1023, 2047] fmix ?_
 refine Dv [] Vm (Dv [] Vm (Dv [] (Vlen sl29) ?_))
 have hn27 := List.length_replicate (n := (rv19.length : Int).toNat) (a := ([] : List Int))
 refine Dx [] [] [0] (fun G => (G.g 3 0)) [fun G => ds (G.g 3 0) ((List.replicate (rv19.length : Int).toNat []) : List (List Int))] (fun G => xA (AmkD (α := List Int) sl30 sz30 [] innL0)) (Dv [] Vm (Dv [] (Vlen sl29) ?_))
 have hn29 := List.length_replicate (n := (rv19.length : Int).toNat) (a := ([] : List Int))
 refine Dx [] [] [0] (fun G => (G.g 6 0)) [fun G => ds (G.g 6 0) ((List.replicate (rv19.length : Int).toNat []) : List (List Int))] (fun G => xA (AmkD (α := List Int) sl30 sz30 [] innL0)) ?_
 refine Dx [7, 8] [] [0, 0] (fun G => .agg #[vl a23 k24 rv19, (G.g 3 0), (G.g 6 0)]) [] (fun G => xV (v := .agg #[vl a23 k24 rv19, (G.g 3 0), (G.g 6 0)]) (Vo 0 rfl (isO_ds _ _) fun aq30 kq31 eq32 => (by rw [eq32]; exact Vo 1 rfl (isO_ds _ _) fun aq33 kq34 eq35 => (by rw [eq35]; exact Vbd st32 [vl a23 k24 rv19, .slice aq30 (((List.replicate (rv19.length : Int).toNat []) : List (List Int)).length) kq31, .slice aq33 (((List.replicate (rv19.length : Int).toNat []) : List (List Int)).length) kq34])))) (Dx [] [] [0] (fun G => (G.g 8 0)) [fun G => Mp ev_GNode vi ok_GNode (G.g 8 0) ([] : List (GNode × Int))] (fun G => xA (Amp (κ := GNode) (ν := Int) (ek := ev_GNode) (ev := vi) (ok := ok_GNode))) ?_)
 refine Dx [7, 8, 9] [] [0, 0, 0] (fun G => .agg #[vl a23 k24 rv19, (G.g 3 0), (G.g 6 0), (G.g 8 0)]) [] (fun G => xV (v := .agg #[vl a23 k24 rv19, (G.g 3 0), (G.g 6 0), (G.g 8 0)]) (Vo 0 rfl (isO_ds _ _) fun aq37 kq38 eq39 => (by rw [eq39]; exact Vo 1 rfl (isO_ds _ _) fun aq40 kq41 eq42 => (by rw [eq42]; exact VoM 2 rfl fun bq43 eq44 => (by rw [eq44]; exact Vbd st72 [vl a23 k24 rv19, .slice aq37 (((List.replicate (rv19.length : Int).toNat []) : List (List Int)).length) kq38, .slice aq40 (((List.replicate (rv19.length : Int).toNat []) : List (List Int)).length) kq41, (mv bq43)]))))) (Dx [] [] [0] (fun G => (G.g 10 0)) [fun G => Cl (G.g 10 0) [vl a23 k24 rv19, (G.g 3 0), (G.g 6 0), (G.g 8 0)]] (fun G => xA (AbO [vl a23 k24 rv19, (G.g 3 0), (G.g 6 0), (G.g 8 0)])) (Dg [] (fun G => (G.g 10 0)) (fun G => Va) ?_))
 refine Dn ⟨by kernel_rfl, fun G => ?_⟩
 refine Jw2 [(1, p4), (2, p5), (6, vl a23 k24 rv19), (7, (G.g 10 0))] [0, 1, 2, 3, 4, 5, 6] [ds (G.g 3 0) ((List.replicate (rv19.length : Int).toNat []) : List (List Int)), ds (G.g 6 0) ((List.replicate (rv19.length : Int).toNat []) : List (List Int)), Mp ev_GNode vi ok_GNode (G.g 8 0) ([] : List (GNode × Int)), Cl (G.g 10 0) [vl a23 k24 rv19, (G.g 3 0), (G.g 6 0), (G.g 8 0)]] ?_
 generalize G.g 3 0 = c26, G.g 6 0 = c28, G.g 8 0 = p36, G.g 10 0 = p45
 refine Jo 7 ?_; rintro a46 k47 rfl
 refine FbD 24 7 fun _ => ?_
 refine Jo 8 ?_; rintro a49 k50 rfl
 refine KS ?_
 refine Oq Vm (Oq (Vlen sl29) (Oq Vm (KS ?_)))
 refine Kl (γ := Nat × (List (GNode × Int)) × Int) (fun (r51, b3_52, v37_53) => ⟨[(1, p4), (2, p5), (6, vl a23 k24 rv19), (7, p45), (35, vl a23 k24 rv19), (36, vi (rv19.length : Int)), (37, vi v37_53)], [S a23 k24 rv19, Cl p5 [.slice none 0 0, .slice none 0 0, .slice none 0 0], pv p4 [vl pa0 pk0 p.Funcs], S pa0 pk0 p.Funcs, pv (gp 0) [vl kwLA kwLK kwL], S kwLA kwLK kwL, D a46 k47 ((List.replicate (rv19.length : Int).toNat []) : List (List Int)), D a49 k50 ((List.replicate (rv19.length : Int).toNat []) : List (List Int)), Mp ev_GNode vi ok_GNode p36 b3_52, Cl p45 [vl a23 k24 rv19, vl a46 k47 (List.replicate (rv19.length : Int).toNat []), vl a49 k50 (List.replicate (rv19.length : Int).toNat []), p36]], gh_Build_L0 rv19 r51 b3_52 v37_53 = gh_Build_L0 rv19 (((rv19.length : Int) - 0).toNat) [] 0 ∧ r51 = ((rv19.length : Int) - v37_53).toNat ∧ (0 : Int) ≤ v37_53 ∧ v37_53 ≤ (rv19.length : Int) ∧ (-9223372036854775808 ≤ v37_53 ∧ v37_53 ≤ 9223372036854775807), r51⟩) (((rv19.length : Int) - 0).toNat, [], 0) [0, 2, 2, 3, 4, 5, 6, 6, 6, 6] ⟨rfl, rfl, aM1, aM1, aM1⟩ ?_
 rintro ⟨r51, b3_52, v37_53⟩ ⟨hM54, hr55, hi56, hi57, hk58⟩
 refine JJ_nx fun _ _ hL hA => ?_; dsimp only at hL hA; subst hL hA
 refine Fb 32 0 fun _ => Fb 40 3 fun _ => Fb 16 5 fun _ => ?_
 refine FoS 5 fun ho62 => ?_
 refine FbD 24 6 fun _ => ?_
 refine KS ?_
 refine Oq Vlss (KS ?_)
 refine Kc ?_ ?_
 ·intro h64
  have g65 := dt h64
  obtain ⟨r66, rfl⟩ := scc (n := r51) aM1
  refine KS ?_
  refine Oq Vm (Oq (Vi sl29 0) ?_)
  refine JJ_peek_GNode v37_53.toNat 0 rfl rng fun hb67 hb68 hb69 hb70 => ?_
  unfold i64ok at hb67 hb68 hb69 hb70
  refine Oq (VldA sh41 0) (Oa (Al ze41 [vi 0, vi 0, vi 0, vi 0]) fun p71 => Oq Va (Ost (Scl [0] sh41 [vi ((rv19.getD v37_53.toNat default).Kind), vi ((rv19.getD v37_53.toNat default).Func), vi ((rv19.getD v37_53.toNat default).Block), vi ((rv19.getD v37_53.toNat default).Stmt)]) (KS ?_)))
  refine Jp 11 fun hp72 => ?_
  refine JK_drawK [0, 1, 3, 7, 0, 0, 63] fmix ?_
  refine Dv [] Vm (Dv [0] (Vn 0) (Dv [0] (Vfa fo72_1 0) (Dv [12] (VldF sh70 0) (Dv [1] (VldA sh41 0) (Dv [] Vm (Dx0 [11] [11] [0] [fun G => Mp ev_GNode vi ok_GNode p36 (mset b3_52 (rv19.getD v37_53.toNat default) v37_53)] (fun G => xS (Smp [0] mt70 kk_GNode v37_53 (ek := ev_GNode) (ev := vi) (ok := ok_GNode) (key := (rv19.getD v37_53.toNat default)) preK)) ?_))))))
  refine Dn ⟨by kernel_rfl, fun G => ?_⟩
  refine Jw2 [(1, p4), (2, p5), (6, vl a23 k24 rv19), (7, p45), (35, vl a23 k24 rv19), (36, vi (rv19.length : Int)), (37, vi v37_53)] [0, 1, 2, 3, 4, 5, 6, 7, 8, 9, 10, 12] [Mp ev_GNode vi ok_GNode p36 (mset b3_52 (rv19.getD v37_53.toNat default) v37_53)] ?_
  refine Jk [1, 1, 2, 3, 3, 4, 5, 6, 7, 7, 7, 7] ?_
  refine KS ?_
  refine Oq Vadd (Oq Vm (KS ?_))
  exact Kg (r66, (mset b3_52 (rv19.getD v37_53.toNat default) v37_53), (v37_53 + 1)) [2, 3, 3, 4, 5, 6, 7, 7, 8, 7] ⟨(q3 hM54 (by simp only [gh_Build_L0, h15, h64, hg7, hg20, cs4])), aM1, aM1, aM1, aM1⟩
 intro h64
 have g73 := df h64
 obtain rfl : r51 = 0 := by omega
 refine Ke ?_
 have hR74 := q2 hM54 b3_52 (by simp only [gh_Build_L0, h15, h64, hg7, hg20, cs4])
 refine KS ?_
 refine Oq Vm (Oq (Vlen sl29) (Oq Vm (KS ?_)))
 refine Kl (γ := Nat × List GNode × List (List Int) × List (List Int) × (List (GNode × Int)) × Int × Option Addr × Nat × Option Addr × Nat × Option Addr × Nat) (fun (r75, b0_76, b1_77, b2_78, b3_79, v51_80, a81, k82, a83, k84, a85, k86) => ⟨[(1, p4), (2, p5), (6, vl a23 k24 rv19), (7, p45), (49, vl a23 k24 rv19), (50, vi (rv19.length : Int)), (51, vi v51_80)], [D a85 k86 b2_78, D a83 k84 b1_77, S a81 k82 b0_76, S a23 k24 rv19, Cl p5 [.slice none 0 0, .slice none 0 0, .slice none 0 0], pv p4 [vl pa0 pk0 p.Funcs], S pa0 pk0 p.Funcs, pv (gp 0) [vl kwLA kwLK kwL], S kwLA kwLK kwL, Mp ev_GNode vi ok_GNode p36 b3_79, Cl p45 [vl a81 k82 b0_76, vl a83 k84 b1_77, vl a85 k86 b2_78, p36]], gh_Build_L1 p rv19 r75 b0_76 b1_77 b2_78 b3_79 v51_80 = gh_Build_L1 p rv19 (((rv19.length : Int) - 0).toNat) rv19 (List.replicate (rv19.length : Int).toNat []) (List.replicate (rv19.length : Int).toNat []) b3_52 0 ∧ r75 = ((rv19.length : Int) - v51_80).toNat ∧ (0 : Int) ≤ v51_80 ∧ v51_80 ≤ (rv19.length : Int) ∧ (-9223372036854775808 ≤ v51_80 ∧ v51_80 ≤ 9223372036854775807) ∧ BOk (Gbuilder.mk (GGraph.mk b0_76 b1_77 b2_78) b3_79) ∧ (b1_77.length = rv19.length), r75⟩) (((rv19.length : Int) - 0).toNat, rv19, (List.replicate (rv19.length : Int).toNat []), (List.replicate (rv19.length : Int).toNat []), b3_52, 0, a23, k24, a46, k47, a49, k50) [7, 6, 0, 0, 1, 1, 2, 3, 4, 5, 5] ⟨rfl, rfl, aM1, aM1, aM1, (Bk_init (by assumption) aM1 aM1), (by simp only [List.length_replicate]; omega)⟩ ?_
 rintro ⟨r75, b0_76, b1_77, b2_78, b3_79, v51_80, a81, k82, a83, k84, a85, k86⟩ ⟨hM87, hr88, hi89, hi90, hk91, hv92, hv93⟩
 refine JJ_nx fun _ _ hL hA => ?_; dsimp only at hL hA; subst hL hA
 refine FbD 24 0 fun _ => ?_
 refine FbD 24 1 fun _ => ?_
 refine Fb 32 2 fun _ => Fb 32 3 fun _ => Fb 40 6 fun _ => Fb 16 8 fun _ => ?_
 refine FoS 8 fun ho100 => ?_
 refine KS ?_
 refine Oq Vlss (KS ?_)
 refine Kc ?_ ?_
 ·intro h101
  have g102 := dt h101
  have hN := List_inN (by assumption) (i := v51_80) aM1
  obtain ⟨hN1, hN2⟩ := hN
  have hhe := (‹BOk _›).num (rv19.getD v51_80.toNat default)
  dsimp only at hhe
  obtain ⟨r103, rfl⟩ := scc (n := r75) aM1
  refine KS ?_
  refine Oq (Vi sl29 3) ?_
  refine JJ_peek_GNode v51_80.toNat 3 rfl rng fun hb104 hb105 hb106 hb107 => ?_
  unfold i64ok at hb104 hb105 hb106 hb107
  refine Oq (VldA sh41 0) (Oa (Al ze41 [vi 0, vi 0, vi 0, vi 0]) fun p108 => Ost (Scl [0] sh41 [vi ((rv19.getD v51_80.toNat default).Kind), vi ((rv19.getD v51_80.toNat default).Func), vi ((rv19.getD v51_80.toNat default).Block), vi ((rv19.getD v51_80.toNat default).Stmt)]) (KS ?_))
  refine Oq (Vfa fo41_0 0) (Oq (VldF sh3 0) (KS ?_))
  refine Oq Veql (Oq Va (KS ?_))
  refine Kc ?_ ?_
  ·intro h109
   have g110 := eq_of_beq h109
   refine Jp 12 fun hp111 => ?_
   refine Jp 1 fun hp112 => ?_
   refine JK_drawK [0, 0, 2, 6, 14, 0, 62, 0, 0, 256, 896, 2047] fmix ?_
   refine Dv [] Vm (Dv [] Vm (Dv [1] (Vn 0) (Dv [1] (Vfa fo72_1 0) (Dv [14] (VldF sh70 0) (Dv [2] (VldA sh41 0) (Dv [13] (Vmk1 0 0 mt70 kk_GNode ze3 (ek := ev_GNode) (ev := vi) (ok := ok_GNode) (key := (rv19.getD v51_80.toNat default)) preK) (Dv [] Vm (Dv [0] (Vfa fo41_1 0) (Dv [2] (VldF sh3 0) ?_)))))))))
   refine letv (bd_at (Gbuilder.mk (GGraph.mk b0_76 b1_77 b2_78) b3_79) 3 ((rv19.getD v51_80.toNat default).Func) 0 0) fun rv113 hg114 => Dx [4, 5, 6, 13, 14] [] [3, 2, 3, 2, 1, 0] (fun G => vi rv113) [fun G => SP.fact (i64ok rv113 ∧ (0 ≤ rv113 ∧ rv113 < ((Gbuilder.mk (GGraph.mk b0_76 b1_77 b2_78) b3_79).g.Succ.length : Int)))] (fun G => xC [4, 2, 1, 0, 1] ca26 (fn26 p45 (Gbuilder.mk (GGraph.mk b0_76 b1_77 b2_78) b3_79) a81 k82 a83 k84 a85 k86 p36 3 ((rv19.getD v51_80.toNat default).Func) 0 0 pre pre pre pre (by assumption) rv113 hg114)) ?_
   refine letv (bd_edge (Gbuilder.mk (GGraph.mk b0_76 b1_77 b2_78) b3_79) ((mget b3_79 (rv19.getD v51_80.toNat default)).getD 0) rv113) fun rv118 hg119 => ?_
   refine Dx [4, 5, 6, 13, 14, 15] [4, 5, 13, 14] [6, 7, 0, 1, 1, 2, 2, 2] (fun G => .tuple #[]) [fun G => SP.fact ((BOk rv118) ∧ (rv118.g.Succ.length = (Gbuilder.mk (GGraph.mk b0_76 b1_77 b2_78) b3_79).g.Succ.length)), fun G => Cl p45 [(G.g 11 0), (G.g 11 1), (G.g 11 2), p36], fun G => sl (G.g 11 0) rv118.g.Nodes, fun G => ds (G.g 11 1) rv118.g.Succ, fun G => ds (G.g 11 2) rv118.g.Pred, fun G => Mp ev_GNode vi ok_GNode p36 rv118.number] (fun G => by refine xf 5 rfl ?_; rintro ⟨he120, he121⟩; unfold i64ok at he120; exact xC [4, 2, 1, 0, 1] ca25 (fn25 p45 (Gbuilder.mk (GGraph.mk b0_76 b1_77 b2_78) b3_79) a81 k82 a83 k84 a85 k86 p36 (((mget b3_79 (rv19.getD v51_80.toNat default)).getD 0)) rv113 pre pre (by assumption) (by dsimp only at *; omega) rv118 hg119)) ?_
   refine Dn ⟨by kernel_rfl, fun G => ?_⟩
   refine Jw2 [(1, p4), (2, p5), (6, vl a23 k24 rv19), (7, p45), (49, vl a23 k24 rv19), (50, vi (rv19.length : Int)), (51, vi v51_80)] [0, 1, 2, 3, 6, 7, 8, 9, 10, 11, 12] [SP.fact (i64ok rv113 ∧ (0 ≤ rv113 ∧ rv113 < ((Gbuilder.mk (GGraph.mk b0_76 b1_77 b2_78) b3_79).g.Succ.length : Int))), SP.fact ((BOk rv118) ∧ (rv118.g.Succ.length = (Gbuilder.mk (GGraph.mk b0_76 b1_77 b2_78) b3_79).g.Succ.length)), Cl p45 [(G.g 11 0), (G.g 11 1), (G.g 11 2), p36], sl (G.g 11 0) rv118.g.Nodes, ds (G.g 11 1) rv118.g.Succ, ds (G.g 11 2) rv118.g.Pred, Mp ev_GNode vi ok_GNode p36 rv118.number] ?_
   generalize G.g 11 0 = c115, G.g 11 1 = c116, G.g 11 2 = c117
   refine Jf 11 rfl ?_; rintro ⟨he122, he123⟩
   unfold i64ok at he122
   refine Jf 12 rfl ?_; rintro ⟨he124, he125⟩
   refine Jk [2, 2, 3, 4, 5, 5, 6, 7, 8, 11, 11, 12, 12, 12] ?_
   refine Jo 10 ?_; rintro a126 k127 rfl
   refine Fb 32 10 fun _ => ?_
   refine Jo 11 ?_; rintro a129 k130 rfl
   refine FbD 24 11 fun _ => ?_
   refine Jo 12 ?_; rintro a132 k133 rfl
   refine FbD 24 12 fun _ => ?_
   refine KS ?_
   refine Oq Vadd (Oq Vm (KS ?_))
   exact Kg (r103, rv118.g.Nodes, rv118.g.Succ, rv118.g.Pred, rv118.number, (v51_80 + 1), a126, k127, a129, k130, a132, k133) [12, 11, 10, 3, 4, 4, 5, 6, 7, 10, 8] ⟨(q3 hM87 (by simp only [gh_Build_L1, h15, h64, h101, h109, hg7, hg20, hR74, hg114, hg119, cs4])), aM1, aM1, aM1, aM1, (by assumption), (by first | omega | (dsimp only at *; omega))⟩
  intro h109
  have g135 := ne_of_beq_false h109
  refine KS ?_
  refine Oq Veql (Oq Va (KS ?_))
  refine Kc ?_ ?_
  ·intro h136
   have g137 := eq_of_beq h136
   have hN3 := hN2 (by have := eq_of_beq h136; omega) (by have := eq_of_beq h136; omega)
   refine Jp 0 fun hp138 => ?_
   refine JJ_peek_GFunc ((rv19.getD v51_80.toNat default).Func : Int).toNat 9 rfl rng fun a139 k140 hb141 => ?_
   refine Fb 40 1 fun _ => ?_
   refine JJ_peek_GBlock ((rv19.getD v51_80.toNat default).Block : Int).toNat 1 rfl rng fun a143 k144 hb145 => ?_
   refine Fb 72 1 fun _ => ?_
   refine JJ_peek_GStmt ((rv19.getD v51_80.toNat default).Stmt : Int).toNat 1 rfl rng fun a147 k148 a149 k150 hb151 hb152 => ?_
   unfold i64ok at hb151
   refine Fb 16 1 fun _ => ?_
   refine FoS 1 fun ho154 => ?_
   refine Fb 16 2 fun _ => ?_
   refine FoS 2 fun ho156 => ?_
   refine JK_drawK [0, 0, 0, 0, 8, 0, 32, 120, 248, 504, 0, 1024, 4088, 8184, 16376, 0, 32768, 131064, 262136, 524287] fmix ?_
   refine Dv [] Vm (Dv [15] (VldA sh25 0) (Dv [8] (VldA sh41 0) (Dv [15] (Vfa fo25_0 0) (Dv [15] (VldF sh23 0) (Dv [7] (Vfa fo41_1 0) (Dv [8] (VldF sh3 0) (Dv [16] (Vi sl23 0) (Dv [5] (Vfa fo57_1 0) (Dv [5] (VldF sh55 0) ?_)))))))))
   refine Dv [7] (Vfa fo41_2 0) (Dv [8] (VldF sh3 0) (Dv [6] (Vi sl55 0) (Dv [3] (Vfa fo60_1 0) (Dv [3] (VldF sh58 0) (Dv [7] (Vfa fo41_3 0) (Dv [8] (VldF sh3 0) (Dv [4] (Vi sl58 0) (Dv [0] (VldA sh62 0) ?_))))))))
   refine letv (bd_stmt (Gbuilder.mk (GGraph.mk b0_76 b1_77 b2_78) b3_79) p (rv19.getD v51_80.toNat default) (((((p.Funcs.getD ((rv19.getD v51_80.toNat default).Func : Int).toNat default).Blocks).getD ((rv19.getD v51_80.toNat default).Block : Int).toNat default).Stmts).getD ((rv19.getD v51_80.toNat default).Stmt : Int).toNat default)) fun rv160 hg161 => Dx [1, 2, 10, 11, 12, 16, 19, 20] [10, 11, 19, 20] [6, 7, 8, 9, 0, 1, 1, 2, 2, 2] (fun G => .tuple #[]) [fun G => SP.fact ((BOk rv160) ∧ (rv160.g.Succ.length = (Gbuilder.mk (GGraph.mk b0_76 b1_77 b2_78) b3_79).g.Succ.length)), fun G => Cl p45 [(G.g 19 0), (G.g 19 1), (G.g 19 2), p36], fun G => sl (G.g 19 0) rv160.g.Nodes, fun G => ds (G.g 19 1) rv160.g.Succ, fun G => ds (G.g 19 2) rv160.g.Pred, fun G => Mp ev_GNode vi ok_GNode p36 rv160.number] (fun G => xC [7, 4, 3, 2, 4, 3, 0, 1] ca27 (fn27 p45 (Gbuilder.mk (GGraph.mk b0_76 b1_77 b2_78) b3_79) a81 k82 a83 k84 a85 k86 p36 p pa0 pk0 ((rv19.getD v51_80.toNat default)) ((((((p.Funcs.getD ((rv19.getD v51_80.toNat default).Func : Int).toNat default).Blocks).getD ((rv19.getD v51_80.toNat default).Block : Int).toNat default).Stmts).getD ((rv19.getD v51_80.toNat default).Stmt : Int).toNat default)) a147 k148 a149 k150 pre pre pre pre pre pre (by assumption) pre (call_T hVp _ _ _) rv160 hg161)) ?_
   refine Dn ⟨by kernel_rfl, fun G => ?_⟩
   refine Jw2 [(1, p4), (2, p5), (6, vl a23 k24 rv19), (7, p45), (49, vl a23 k24 rv19), (50, vi (rv19.length : Int)), (51, vi v51_80)] [0, 1, 2, 3, 4, 5, 6, 7, 8, 9, 12, 13, 14, 15, 16, 17, 18] [SP.fact ((BOk rv160) ∧ (rv160.g.Succ.length = (Gbuilder.mk (GGraph.mk b0_76 b1_77 b2_78) b3_79).g.Succ.length)), Cl p45 [(G.g 19 0), (G.g 19 1), (G.g 19 2), p36], sl (G.g 19 0) rv160.g.Nodes, ds (G.g 19 1) rv160.g.Succ, ds (G.g 19 2) rv160.g.Pred, Mp ev_GNode vi ok_GNode p36 rv160.number] ?_
   generalize G.g 19 0 = c157, G.g 19 1 = c158, G.g 19 2 = c159
   refine Jf 17 rfl ?_; rintro ⟨he162, he163⟩
   refine Jk [0, 1, 2, 3, 4, 5, 6, 8, 8, 9, 10, 11, 11, 12, 13, 14, 16, 16, 17, 17, 17] ?_
   refine Jo 17 ?_; rintro a164 k165 rfl
   refine Fb 32 17 fun _ => ?_
   refine Jo 18 ?_; rintro a167 k168 rfl
   refine FbD 24 18 fun _ => ?_
   refine Jo 19 ?_; rintro a170 k171 rfl
   refine FbD 24 19 fun _ => ?_
   refine KS ?_
   refine Oq Vadd (Oq Vm (KS ?_))
   exact Kg (r103, rv160.g.Nodes, rv160.g.Succ, rv160.g.Pred, rv160.number, (v51_80 + 1), a164, k165, a167, k168, a170, k171) [19, 18, 17, 10, 11, 11, 12, 13, 14, 17, 15] ⟨(q3 hM87 (by simp only [gh_Build_L1, h15, h64, h101, h109, h136, hg7, hg20, hR74, hg161, cs4])), aM1, aM1, aM1, aM1, (by assumption), (by first | omega | (dsimp only at *; omega))⟩
  intro h136
  have g173 := ne_of_beq_false h136
  refine KS ?_
  refine Oq Vadd (Oq Vm (KS ?_))
  exact Kg (r103, b0_76, b1_77, b2_78, b3_79, (v51_80 + 1), a81, k82, a83, k84, a85, k86) [2, 2, 2, 3, 4, 4, 5, 6, 7, 8, 8] ⟨(q3 hM87 (by simp only [gh_Build_L1, h15, h64, h101, h109, h136, hg7, hg20, hR74, cs4])), aM1, aM1, aM1, aM1, (by assumption), (by first | omega | (dsimp only at *; omega))⟩
 intro h101
 have g174 := df h101
 obtain rfl : r75 = 0 := by omega
 refine Ke ?_
 have hR175 := q2 hM87 (b0_76, b1_77, b2_78, b3_79) (by simp only [gh_Build_L1, h15, h64, h101, hg7, hg20, hR74, cs4])
 refine KS ?_
 refine Oq Vm (Oq (Vlen sl29) (Oq Vm (KS ?_)))
 refine Kl (γ := Nat × List (List Int) × List (List Int) × Int) (fun (r176, b1_177, b2_178, v96_179) => ⟨[(2, p5), (7, p45), (95, vi (rv19.length : Int)), (96, vi v96_179)], [ds (vl a85 k86 b2_78) b2_178, ds (vl a83 k84 b1_77) b1_177, S a81 k82 b0_76, Cl p5 [.slice none 0 0, .slice none 0 0, .slice none 0 0], pv (gp 0) [vl kwLA kwLK kwL], S kwLA kwLK kwL, Mp ev_GNode vi ok_GNode p36 b3_79, Cl p45 [vl a81 k82 b0_76, vl a83 k84 b1_77, vl a85 k86 b2_78, p36]], gh_Build_L2 r176 b1_177 b2_178 v96_179 = gh_Build_L2 (((rv19.length : Int) - 0).toNat) b1_77 b2_78 0 ∧ r176 = ((rv19.length : Int) - v96_179).toNat ∧ (0 : Int) ≤ v96_179 ∧ v96_179 ≤ (rv19.length : Int) ∧ (-9223372036854775808 ≤ v96_179 ∧ v96_179 ≤ 9223372036854775807) ∧ (b1_177.length = b1_77.length ∧ b2_178.length = b1_77.length) ∧ (∀ l ∈ b1_177, (l.length : Int) ≤ 20000) ∧ (∀ l ∈ b2_178, (l.length : Int) ≤ 20000), r176⟩) (((rv19.length : Int) - 0).toNat, b1_77, b2_78, 0) [0, 0, 0, 2, 4, 5, 6, 6] ⟨rfl, rfl, aM1, aM1, aM1, ⟨rfl, BOk_ps (by assumption)⟩, (BOk_ls (by assumption)), (BOk_lp (by assumption))⟩ ?_
 rintro ⟨r176, b1_177, b2_178, v96_179⟩ ⟨hM180, hr181, hi182, hi183, hk184, hv185, hv186, hv187⟩
 refine JJ_nx fun _ _ hL hA => ?_; dsimp only at hL hA; subst hL hA
 refine FbD 24 0 fun _ => ?_
 refine FlD 0 fun hn189 => ?_
 refine FbD 24 1 fun _ => ?_
 refine FlD 1 fun hn191 => ?_
 refine Fb 32 2 fun _ => Fb 16 5 fun _ => ?_
 refine FoS 5 fun ho194 => ?_
 refine KS ?_
 refine Oq Vlss (KS ?_)
 refine Kc ?_ ?_
 ·intro h195
  have g196 := dt h195
  obtain ⟨r197, rfl⟩ := scc (n := r176) aM1
  refine KS ?_
  refine Oq Vm (Oq Va (KS ?_))
  refine Oq Vm (Oq (Vn 7) (Oq (Vfa fo72_0 7) (Oq (VfaF fo32_1 7) (Oq (VldF sh30 7) (Oq Vm (Oq (Vi sl30 1) ?_))))))
  refine JJ_openDL v96_179.toNat 1 rfl rng fun a198 k199 => ?_
  refine Fb 8 1 fun _ => Fo 1 fun ho201 => Oq (Vld sh22 0) ?_
  refine letv (sc_Sort_int (b1_177.getD v96_179.toNat [])) fun rv202 hg203 => ?_
  have hc204 := fn28 ((b1_177.getD v96_179.toNat [])) a198 k199 (lenS_2 (by assumption)) rv202 hg203
  refine Oc [1] ca28 hc204 ?_
  rintro - he205
  refine Fb 8 0 fun _ => Fo 0 fun ho207 => KS ?_
  refine Oq Vm (Oq (Vn 8) (Oq (Vfa fo72_0 8) (Oq (VfaF fo32_2 8) (Oq (VldF sh30 8) (Oq Vm (Oq (Vi sl30 2) ?_))))))
  refine JJ_openDL v96_179.toNat 2 rfl rng fun a208 k209 => ?_
  refine Fb 8 1 fun _ => Fo 1 fun ho211 => Oq (Vld sh22 0) ?_
  refine letv (sc_Sort_int (b2_178.getD v96_179.toNat [])) fun rv212 hg213 => ?_
  have hc214 := fn28 ((b2_178.getD v96_179.toNat [])) a208 k209 (lenS_2 (by assumption)) rv212 hg213
  refine Oc [1] ca28 hc214 ?_
  rintro - he215
  refine Fb 8 0 fun _ => Fo 0 fun ho217 => KS ?_
  refine Oq Vadd (Oq Vm (KS ?_))
  refine Jl [1, 0] (Ent.closeD (A := [os (vl a208 k209 (b2_178.getD v96_179.toNat [])) rv212]) _ _ _ _ rv212 innL) ?_
  refine Jl [2, 1] (Ent.closeD (A := [os (vl a198 k199 (b1_177.getD v96_179.toNat [])) rv202]) _ _ _ _ rv202 innL) ?_
  exact Kg (r197, (b1_177.set v96_179.toNat rv202), (b2_178.set v96_179.toNat rv212), (v96_179 + 1)) [1, 0, 0, 1, 1, 2, 3, 3] ⟨(q3 hM180 (by simp only [gh_Build_L2, h15, h64, h101, h195, hg7, hg20, hR74, hR175, hg203, hg213, cs4])), aM1, aM1, aM1, aM1, (by (try simp only [List.length_set]); omega), (lenS_set0 (by assumption) (by assumption)), (lenS_set0 (by assumption) (by assumption))⟩
 intro h195
 have g218 := df h195
 obtain rfl : r176 = 0 := by omega
 refine Ke ?_
 have hR219 := q2 hM180 (b1_177, b2_178) (by simp only [gh_Build_L2, h15, h64, h101, h195, hg7, hg20, hR74, hR175, cs4])
 refine KS ?_
 refine Oq Vm (Oq (Vn 7) (Oq (Vfa fo72_0 7) (Oq (VldG sh32 7 [vl a81 k82 b0_76, vl a83 k84 b1_77, vl a85 k86 b2_78]) (Ost (Scl [3] sh32 [vl a81 k82 b0_76, vl a83 k84 b1_77, vl a85 k86 b2_78]) (Oq Va (KS ?_))))))
 refine Jl [2] (Ent.dsF _ _) ?_
 refine Jl [2] (Ent.dsF _ _) ?_
 have hq := q4 hrr ((GGraph.mk b0_76 b1_177 b2_178), 0) (by simp only [gh_Build, h15, h64, h101, h195, hg7, hg20, hR74, hR175, hR219, cs4]); subst hq
 exact Kr (vl a81 k82 b0_76, vl a83 k84 b1_77, vl a85 k86 b2_78) rfl (.cellN 2 rfl sh32 rfl (reads_Cl _ _) rfl (.tmp rfl .nil)) [3, 1, 0] ⟨en, (by first | rfl | (dsimp only at *; omega))⟩
theorem fn12 (kwLA : Option Addr) (kwLK : Nat) (rr : Bool) (hrr : w8_sane = rr) : FT Tryd.prog 12 #[] [pv (gp 0) [vl kwLA kwLK kwL], S kwLA kwLK kwL] (fun g : Unit => True) (fun g => vb rr) (fun g => []) := by
 refine FTi Tryd.func12 fun w0 M0 F0 => Fb 16 1 fun _ => ?_
 refine FoS 1 fun ho2 => ?_
 refine KS ?_
 refine Oq Va (KS ?_)
 refine letv (r4_Parse (Str.mk [102, 117, 110, 99, 32, 109, 59, 32, 98, 108, 111, 99, 107, 32, 98, 59, 32, 98, 114, 97, 110, 99, 104, 32, 120, 32, 98, 32, 98, 59, 32, 101, 110, 100])) fun rv4 hg5 => ?_
 have hc6 := fn16 ((Str.mk [102, 117, 110, 99, 32, 109, 59, 32, 98, 108, 111, 99, 107, 32, 98, 59, 32, 98, 114, 97, 110, 99, 104, 32, 120, 32, 98, 32, 98, 59, 32, 101, 110, 100])) pre rv4 hg5
 refine Oc [] ca16 hc6 ?_
 rintro c3 ⟨he7, he8, he9⟩
 unfold i64ok at he7 he8 he9
 refine Jo 0 ?_; rintro a10 k11 rfl
 refine Fb 40 0 fun _ => ?_
 refine Oq Vm (Oq Vx (Oq Vx (Oq Vx (Oq Vx (Oa (Al ze25 [.slice none 0 0]) fun p13 => Ost (Scl [0] sh25 [vl a10 k11 rv4.1.Funcs]) (Oq Va (Oq Va (Oq Va ?_))))))))
 refine KS ?_
 refine Oq (VldA sh25 0) ?_
 refine letv (gh_Build rv4.1) fun rv17 hg18 => ?_
 have hc19 := fn8 rv4.1 a10 k11 kwLA kwLK (by first | exact psm_of (by assumption) (by kernel_rfl) | exact Program_PSm' (by assumption) | exact SpP_PSm (Program_SpP (by assumption))) rv17 hg18
 refine Oc [1, 2, 3] ca8 hc19 ?_
 rintro ⟨c14, c15, c16⟩ ⟨he20, he21⟩
 unfold i64ok at he20
 refine Jo 0 ?_; rintro a22 k23 rfl
 refine Fb 32 0 fun _ => ?_
 refine Jo 1 ?_; rintro a25 k26 rfl
 refine Fb 24 1 fun _ => ?_
 refine Jo 2 ?_; rintro a28 k29 rfl
 refine Fb 24 2 fun _ => ?_
 refine Oq Vm (Oq Vx (Oq Vx (Oa (Al ze32 [.slice none 0 0, .slice none 0 0, .slice none 0 0]) fun p31 => Ost (Scl [0] sh32 [vl a22 k23 rv17.1.Nodes, vl a25 k26 rv17.1.Succ, vl a28 k29 rv17.1.Pred]) (Oq Va (KS ?_)))))
 refine Oq Vm (Oq Veql (Oq Vm ?_))
 refine Js 20 ?_ ?_
 ·intro h32
  have g33 := eq_of_beq h32
  refine Oq (Vfa fo32_1 0) (Oq (VldF sh30 0) (Oq (Vlen sl30) (Oq Veql (Oq Vpt (Oq Vm ?_)))))
  refine Js 26 ?_ ?_
  ·intro h34
   have g35 := eq_of_beq h34
   refine Oq (Vfa fo32_1 0) (Oq (VldF sh30 0) (Oq (Vi sl30 2) ?_))
   refine JJ_peekL (0 : Int).toNat 2 rfl rng fun a36 k37 => ?_
   refine Fb 8 1 fun _ => Fo 1 fun ho39 => ?_
   refine Oq (Vld sh22 0) (Oa (AsV sl22 sz22 [vi 1] [vi 1]) fun c40 => ?_)
   refine Jo 0 ?_; rintro a41 k42 rfl
   refine Jl [0] (Ent.crInt _ [1] _ _ rfl rfl (by intro x hx; rw [List.mem_singleton] at hx; subst hx; unfold i64ok; omega) aB1) ?_
   refine letv (r7_Ints (rv17.1.Succ.getD (0 : Int).toNat []) [1]) fun rv43 hg44 => ?_
   refine Oc [0, 1] ca17 (FT_borrow (A := _) (fun _ _ h => by cases h) (FT_ent (Ent.take (is := [1, 0]) rfl) (fn17 ((rv17.1.Succ.getD (0 : Int).toNat [])) a36 k37 ([1]) a41 k42 rv43 hg44))) ?_ (ht := rfl)
   rintro - -
   refine Oq Vpt (Oq Vm ?_)
   refine Js 34 ?_ ?_
   ·intro h45
    refine Oq (Vfa fo32_1 3) (Oq (VldF sh30 3) (Oq (Vi sl30 5) ?_))
    refine JJ_peekL (1 : Int).toNat 5 rfl rng fun a47 k48 => ?_
    refine Fb 8 1 fun _ => Fo 1 fun ho50 => ?_
    refine Oq (Vld sh22 0) (Oa (AsV sl22 sz22 [vi 1] [vi 1]) fun c51 => ?_)
    refine Jo 0 ?_; rintro a52 k53 rfl
    refine Jl [0] (Ent.crInt _ [1] _ _ rfl rfl (by intro x hx; rw [List.mem_singleton] at hx; subst hx; unfold i64ok; omega) aB1) ?_
    refine letv (r7_Ints (rv17.1.Succ.getD (1 : Int).toNat []) [1]) fun rv54 hg55 => ?_
    refine Oc [0, 1] ca17 (FT_borrow (A := _) (fun _ _ h => by cases h) (FT_ent (Ent.take (is := [1, 0]) rfl) (fn17 ((rv17.1.Succ.getD (1 : Int).toNat [])) a47 k48 ([1]) a52 k53 rv54 hg55))) ?_ (ht := rfl)
    rintro - -
    refine Oq Vpt (Oq Vm ?_)
    refine Js 42 ?_ ?_
    ·intro h56
     refine Oq (Vfa fo32_1 6) (Oq (VldF sh30 6) (Oq (Vi sl30 8) ?_))
     refine JJ_peekL (2 : Int).toNat 8 rfl rng fun a58 k59 => ?_
     refine Fb 8 1 fun _ => Fo 1 fun ho61 => ?_
     refine Oq (Vld sh22 0) (Oq (Vlen sl22) (Oq Veql (Oq Vpt (Oq Vm ?_))))
     refine Js 50 ?_ ?_
     ·intro h62
      have g63 := eq_of_beq h62
      refine Oq (Vfa fo32_2 8) (Oq (VldF sh30 8) (Oq (Vi sl30 11) ?_))
      refine JJ_peekL (1 : Int).toNat 11 rfl rng fun a64 k65 => ?_
      refine Fb 8 1 fun _ => Fo 1 fun ho67 => ?_
      refine Oq (Vld sh22 0) (Oa (AsV sl22 sz22 [vi 0, vi 1] [vi 0, vi 1]) fun c68 => ?_)
      refine Jo 0 ?_; rintro a69 k70 rfl
      refine Jl [0] (Ent.crInt _ [0, 1] _ _ rfl rfl (by intro x hx; simp only [List.mem_cons, List.not_mem_nil, or_false] at hx; rcases hx with rfl | rfl <;> (unfold i64ok; omega)) aB1) ?_
      refine letv (r7_Ints (rv17.1.Pred.getD (1 : Int).toNat []) [0, 1]) fun rv71 hg72 => ?_
      refine Oc [0, 1] ca17 (FT_borrow (A := _) (fun _ _ h => by cases h) (FT_ent (Ent.take (is := [1, 0]) rfl) (fn17 ((rv17.1.Pred.getD (1 : Int).toNat [])) a64 k65 ([0, 1]) a69 k70 rv71 hg72))) ?_ (ht := rfl)
      rintro - -
      refine Oq Vpt (Oq Vm ?_)
      refine Js 58 ?_ ?_
      ·intro h73
       refine Oq (VldA sh32 11) ?_
       refine letv (gh_Edges rv17.1) fun rv75 hg76 => ?_
       have hc77 := fn11 rv17.1 a22 k23 a25 k26 a28 k29 rv75 hg76
       refine Oc [12, 13, 14] ca11 hc77 ?_
       rintro - he78
       unfold i64ok at he78
       refine Oq Veql (Oq Vpt (Oq Va (KS ?_)))
       have hq := q4 hrr (rv75 == 2) (by simp only [w8_sane, h32, h34, h45, h56, h62, h73, hg5, hg18, hg44, hg55, hg72, hg76, cs4]); subst hq
       exact Kr () rfl (.tmp rfl .nil) [] trivial
      intro h73
      refine Osk (Osk (Osk (Oq Vpf (Oq Va (KS ?_)))))
      have hq := q4 hrr false (by simp only [w8_sane, h32, h34, h45, h56, h62, h73, hg5, hg18, hg44, hg55, hg72, cs4]); subst hq
      exact Kr () rfl (.tmp rfl .nil) [] trivial
     intro h62
     have g80 := ne_of_beq_false h62
     refine Osk (Osk (Osk (Osk (Osk (Osk (Oq Vpf (Oq Vm (Osk (Osk ?_)))))))))
     refine Osk (Oq Vpf (Oq Va (KS ?_)))
     have hq := q4 hrr false (by simp only [w8_sane, h32, h34, h45, h56, h62, hg5, hg18, hg44, hg55, cs4]); subst hq
     exact Kr () rfl (.tmp rfl .nil) [] trivial
    intro h56
    refine Osk (Osk (Osk (Osk (Osk (Osk (Oq Vpf (Oq Vm (Osk (Osk ?_)))))))))
    refine Osk (Osk (Osk (Osk (Oq Vpf (Oq Vm (Osk (Osk (Osk (Oq Vpf ?_)))))))))
    refine Oq Va (KS ?_)
    have hq := q4 hrr false (by simp only [w8_sane, h32, h34, h45, h56, hg5, hg18, hg44, hg55, cs4]); subst hq
    exact Kr () rfl (.tmp rfl .nil) [] trivial
   intro h45
   refine Osk (Osk (Osk (Osk (Osk (Osk (Oq Vpf (Oq Vm (Osk (Osk ?_)))))))))
   refine Osk (Osk (Osk (Osk (Oq Vpf (Oq Vm (Osk (Osk (Osk (Osk ?_)))))))))
   refine Osk (Osk (Oq Vpf (Oq Vm (Osk (Osk (Osk (Oq Vpf (Oq Va (KS ?_)))))))))
   have hq := q4 hrr false (by simp only [w8_sane, h32, h34, h45, hg5, hg18, hg44, cs4]); subst hq
   exact Kr () rfl (.tmp rfl .nil) [] trivial
  intro h34
  have g83 := ne_of_beq_false h34
  refine Osk (Osk (Osk (Osk (Osk (Osk (Oq Vpf (Oq Vm (Osk (Osk ?_)))))))))
  refine Osk (Osk (Osk (Osk (Oq Vpf (Oq Vm (Osk (Osk (Osk (Osk ?_)))))))))
  refine Osk (Osk (Oq Vpf (Oq Vm (Osk (Osk (Osk (Osk (Osk (Osk ?_)))))))))
  refine Oq Vpf (Oq Vm (Osk (Osk (Osk (Oq Vpf (Oq Va (KS ?_)))))))
  have hq := q4 hrr false (by simp only [w8_sane, h32, h34, hg5, hg18, cs4]); subst hq
  exact Kr () rfl (.tmp rfl .nil) [] trivial
 intro h32
 have g84 := ne_of_beq_false h32
 refine Osk (Osk (Osk (Osk (Oq Vpf (Oq Vm (Osk (Osk (Osk (Osk ?_)))))))))
 refine Osk (Osk (Oq Vpf (Oq Vm (Osk (Osk (Osk (Osk (Osk (Osk ?_)))))))))
 refine Oq Vpf (Oq Vm (Osk (Osk (Osk (Osk (Osk (Osk (Oq Vpf (Oq Vm ?_)))))))))
 refine Osk (Osk (Osk (Osk (Osk (Osk (Oq Vpf (Oq Vm (Osk (Osk ?_)))))))))
 refine Osk (Oq Vpf (Oq Va (KS ?_)))
 have hq := q4 hrr false (by simp only [w8_sane, h32, hg5, hg18, cs4]); subst hq
 exact Kr () rfl (.tmp rfl .nil) [] trivial
theorem fn44 (v : Int) (n : Int) (hv_0 : i64ok v) (hn_0 : i64ok n) (hn1 : 1 ≤ n) (rr : Int) (hrr : g_Mod v n = rr) : FT Tryd.prog 44 #[vi v, vi n] [] (fun g : Unit => i64ok rr ∧ (0 ≤ rr ∧ rr < n)) (fun g => vi rr) (fun g => []) := by
 refine FTi Tryd.func44 fun w0 M0 F0 => ?_
 unfold i64ok at hv_0 hn_0
 have hm := mod_range v n aM1
 refine KS ?_
 refine Oq Va (KS ?_)
 refine Oq Vm (Oq (VcU un3 un111) (Oq Vm (Oq (VcU un3 un111) (Oq (VremU (ofInt_ne n aM1)) (Oq (VcN un111 un3 (h := (mod_le v n aM1))) (Oq Va (KS ?_)))))))
 have hq := q4 hrr (((BitVec.ofInt 64 v) % (BitVec.ofInt 64 n)).toNat : Int) (by simp only [g_Mod, cs4]); subst hq
 exact Kr () rfl (.tmp rfl .nil) [] en
theorem fn19 (tP : Value) (ta : Option Addr) (tk : Nat) (tT : List Int) (tI : Int) (n : Int) (htI : 0 ≤ tI ∧ tI ≤ (tT.length : Int)) (hn_0 : i64ok n) (rr : Int × Int) (hrr : tp_Next tT tI n = rr) : FT Tryd.prog 19 #[tP, vi n] [Cl tP [vl ta tk tT, vi tI], S ta tk tT] (fun g : Unit => i64ok rr.1 ∧ (0 ≤ rr.2 ∧ rr.2 ≤ (tT.length : Int)) ∧ (0 ≤ rr.1 ∧ (rr.1 < n ∨ rr.1 = 0))) (fun g => vi rr.1) (fun g => [Cl tP [vl ta tk tT, vi rr.2]]) := by
 refine FTi Tryd.func19 fun w0 M0 F0 => ?_
 unfold i64ok at hn_0
 refine Fb 8 1 fun _ => Fo 1 fun ho2 => KS ?_
 refine Oq Va (KS ?_)
 refine Jp 0 fun hp3 => ?_
 refine Kq [0, 1, 3, 7, 15, 31, 63, 7, 135, 391, 903, 1927, 4095, 8191] fmix ?_
 refine Qv [] Vm (Qv [] Vleq ?_)
 refine bool_split (decide (n ≤ 1)) ?_ ?_
 ·intro h4
  have g5 := dt h4
  refine Qb h4 [] Vm (Qs (Qs (Qs (Qs (Qs (Qs (Qs (Qs (Qs ?_)))))))))
  refine Qs (Qv [] Vpt ?_)
  refine Qn ⟨by kernel_rfl, ?_⟩
  refine Kt (KS ?_)
  refine Oq Va (KS ?_)
  have hq := q4 hrr (0, tI) (by simp only [tp_Next, h4, cs4]); subst hq
  exact Kr () rfl (.tmp rfl .nil) [1] en
 intro h4
 have g6 := df h4
 refine Qb h4 [] Vm (Qv [] Vm (Qv [0] (Vn 0) (Qv [0] (Vfa fo52_1 0) (Qv [1] (VldF sh3 0) (Qv [] Vm (Qv [0] (Vn 0) (Qv [0] (Vfa fo52_0 0) (Qv [1] (VldF sh22 0) (Qv [] (Vlen sl22) ?_)))))))))
 refine Qv [] Vgeq (Qv [] Vpf ?_)
 refine Qn ⟨by kernel_rfl, ?_⟩
 refine Kc ?_ ?_
 ·intro h7
  have g8 := dt h7
  refine KS ?_
  refine Oq Va (KS ?_)
  have hq := q4 hrr (0, tI) (by simp only [tp_Next, h4, h7, cs4]); subst hq
  exact Kr () rfl (.tmp rfl .nil) [1] en
 intro h7
 have g9 := df h7
 refine KS ?_
 refine Oq Vm (Oq (Vn 1) (Oq (Vfa fo52_1 1) (Oq (VldF sh3 1) (Oq Vadd (Oq (Vn 1) (Oq (Vfa fo52_1 1) (Ost (SclF [1] sh3 [vl ta tk tT, vi (tI + 1)]) (KS ?_))))))))
 refine JK_drawK [0, 1, 3, 7, 0, 16, 48, 112, 240, 511, 1023, 0, 4095, 8191] fmix ?_
 refine Dv [] Vm (Dv [1] (Vn 0) (Dv [1] (Vfa fo52_0 0) (Dv [0] (VldF sh22 0) (Dv [] Vm (Dv [1] (Vn 0) (Dv [1] (Vfa fo52_1 0) (Dv [0] (VldF sh3 0) (Dv [] Vsub (Dv [2] (Vi sl22 0) ?_)))))))))
 have hb10 := ok1 (i := (((tI + 1) - 1) : Int).toNat) ho2 rng
 refine Dv [2] (VldI sh3 0) (Dv [] Vm ?_)
 refine letv (g_Mod (tT.getD (((tI + 1) - 1) : Int).toNat 0) n) fun rv11 hg12 => ?_
 refine Dx [] [] [0] (fun G => vi rv11) [fun G => SP.fact (i64ok rv11 ∧ (0 ≤ rv11 ∧ rv11 < n))] (fun G => xC [] ca44 (fn44 ((tT.getD (((tI + 1) - 1) : Int).toNat 0)) n pre pre pre rv11 hg12)) (Dv [] Va ?_)
 refine Dn ⟨by kernel_rfl, fun G => ?_⟩
 refine Jw2 [(4, vi rv11)] [0, 1, 2] [SP.fact (i64ok rv11 ∧ (0 ≤ rv11 ∧ rv11 < n))] ?_
 refine Jf 3 rfl ?_; rintro ⟨he13, he14⟩
 unfold i64ok at he13
 refine Jk [0, 1] ?_
 have hq := q4 hrr (rv11, (tI + 1)) (by simp only [tp_Next, h4, h7, hg12, cs4]); subst hq
 exact Kr () rfl (.tmp rfl .nil) [0] en
theorem fn32 (l : List Int) (la0 : Option Addr) (lk0 : Nat) (n : Int) (hn_0 : i64ok n) (hl0 : l.length ≤ 1000000000) (rr : List Int) (hrr : r7_Insert l n = rr) : FT Tryd.prog 32 #[vl la0 lk0 l, vi n] [S la0 lk0 l] (fun g : Value => (rr.length ≤ l.length + 1)) (fun g => g) (fun g => [sl g rr]) := by
 refine FTi Tryd.func32 fun w0 M0 F0 => ?_
 unfold i64ok at hn_0
 refine Fb 8 0 fun _ => Fo 0 fun ho2 => KS ?_
 refine Oq Va (KS ?_)
 refine Oq Va (KS ?_)
 refine Kl (γ := Nat × Int) (fun (r3, i_4) => ⟨[(0, vl la0 lk0 l), (1, vi n), (5, vi i_4)], [S la0 lk0 l], r7_Insert_L0 l n r3 i_4 = r7_Insert_L0 l n (((l.length : Int) - 0).toNat) 0 ∧ r3 = ((l.length : Int) - i_4).toNat ∧ (0 : Int) ≤ i_4 ∧ i_4 ≤ (l.length : Int) ∧ (-9223372036854775808 ≤ i_4 ∧ i_4 ≤ 9223372036854775807), r3⟩) (((l.length : Int) - 0).toNat, 0) [0] ⟨rfl, rfl, aM1, aM1, aM1⟩ ?_
 rintro ⟨r3, i_4⟩ ⟨hM5, hr6, hi7, hi8, hk9⟩
 refine JJ_nx fun _ _ hL hA => ?_; dsimp only at hL hA; subst hL hA
 refine Fb 8 0 fun _ => Fo 0 fun ho11 => KS ?_
 refine Oq Vm (Oq Vm (Oq (Vlen sl22) (Oq Vlss (Oq Vm ?_))))
 refine Js 11 ?_ ?_
 ·intro h12
  have g13 := dt h12
  obtain ⟨r14, rfl⟩ := scc (n := r3) aM1
  refine Oq Vm (Oq Vm (Oq (Vi sl22 0) ?_))
  have hb15 := ok1 (i := i_4.toNat) ho11 rng
  refine Oq (VldI sh3 0) (Oq Vm (Oq Vlss (Oq Vpt (KS ?_))))
  refine Kc ?_ ?_
  ·intro h16
   have g17 := dt h16
   refine KS ?_
   refine Oq Vm (Oq Vadd (Oq Va (KS ?_)))
   exact Kg (r14, (i_4 + 1)) [0] ⟨(q3 hM5 (by simp only [r7_Insert_L0, h12, h16, cs4])), aM1, aM1, aM1, aM1⟩
  intro h16
  have g18 := df h16
  refine Ke ?_
  have hR19 := q2 hM5 i_4 (by simp only [r7_Insert_L0, h12, h16, cs4])
  refine KS ?_
  refine Oq Vm (Oq Vm (Oq (Vlen sl22) (Oq Vlss (Oq Vm ?_))))
  refine Js 25 ?_ ?_
  ·intro h20
   have g21 := dt h20
   refine Oq Vm (Oq Vm (Oq (Vi sl22 0) ?_))
   have hb22 := ok1 (i := i_4.toNat) ho11 rng
   refine Oq (VldI sh3 0) (Oq Vm (Oq Veql (Oq Vpt (KS ?_))))
   refine Kc ?_ ?_
   ·intro h23
    have g24 := eq_of_beq h23
    refine KS ?_
    refine Oq Vm (Oq Va (KS ?_))
    have hq := q4 hrr l (by simp only [r7_Insert, h12, h16, h20, h23, hR19, cs4]); subst hq
    exact Kr (vl la0 lk0 l) rfl (.tmp rfl .nil) [0] en
   intro h23
   have g25 := ne_of_beq_false h23
   refine KS ?_
   refine Oa (As0 sl22) fun c26 => ?_
   refine Jo 0 ?_; rintro a27 k28 rfl
   refine Oq Vm (Oq Vm (Oa (Asl [1] sl22 0 (i_4.toNat)) fun c29 => ?_))
   refine Jo 0 ?_; rintro a30 k31 rfl
   refine Fb 8 0 fun _ => Fo 0 fun ho33 => ?_
   have hn34 : ((l.take (i_4.toNat)).drop 0).length = (i_4.toNat) - 0 := len_slice rng rng
   refine Jl [1] (Ent.crNil (α := Int) _) ?_
   refine Oa (Ap0 [0, 0] sl22 sl22 sz22) fun c35 => ?_
   refine Jo 0 ?_; rintro a36 k37 rfl
   refine Oq Va (KS ?_)
   refine Oq Vm (Oq Vm (Oa (AsV sl22 sz22 [vi n] [vi n]) fun c38 => ?_))
   refine Jo 0 ?_; rintro a39 k40 rfl
   refine Jl [0] (Ent.crInt _ [n] _ _ rfl rfl (by intro x hx; rw [List.mem_singleton] at hx; subst hx; unfold i64ok; omega) aB1) ?_
   refine Oa (ApO [1, 0] sl22 sl22 sz22) fun c41 => ?_
   refine Jo 0 ?_; rintro a42 k43 rfl
   refine Fb 8 0 fun _ => Fo 0 fun ho45 => ?_
   have hn46 := la ((l.take (i_4.toNat)).drop 0) ([n] : List Int)
   refine Oq Va (KS ?_)
   refine Oq Vm (Oq Vm (Oq Vm (Oa (Asl [2] sl22 (i_4.toNat) l.length) fun c47 => ?_)))
   refine Jo 0 ?_; rintro a48 k49 rfl
   refine Fb 8 0 fun _ => Fo 0 fun ho51 => ?_
   have hn52 : ((l.take l.length).drop (i_4.toNat)).length = l.length - (i_4.toNat) := len_slice rng rng
   refine Oa (Ap [1, 0] sl22 sl22 sz22) fun c53 => ?_
   refine Jo 0 ?_; rintro a54 k55 rfl
   refine Fb 8 0 fun _ => Fo 0 fun ho57 => ?_
   have hn58 := la ((((l.take (i_4.toNat)).drop 0) ++ [n]) : List Int) ((l.take l.length).drop (i_4.toNat))
   refine Oq Va (KS ?_)
   refine Jl [0] (Ent.freeze _ _) ?_
   have hq := q4 hrr ((((l.take (i_4.toNat)).drop 0) ++ [n]) ++ ((l.take l.length).drop (i_4.toNat))) (by simp only [r7_Insert, h12, h16, h20, h23, hR19, cs4]); subst hq
   exact Kr (.slice a54 (((((l.take (i_4.toNat)).drop 0) ++ [n]) ++ ((l.take l.length).drop (i_4.toNat))).length) k55) rfl (.tmp rfl .nil) [0] en
  intro h20
  exact absurd h20 (by first | (simp [h12]; done) | (simp only [bne, h12]; decide) | (simp only [bne, h12, Bool.not_true, Bool.not_false]; decide) | (exfalso; omega) | (intro hq; simp only [bne, hq, Bool.not_false, Bool.not_true, reduceCtorEq] at h12))
 intro h12
 have g59 := df h12
 obtain rfl : r3 = 0 := by omega
 refine Osk (Osk (Osk (Osk (Osk (Osk (Oq Vpf (KS ?_)))))))
 refine Kf ?_
 refine Ke ?_
 have hR60 := q2 hM5 i_4 (by simp only [r7_Insert_L0, h12, cs4])
 refine KS ?_
 refine Oq Vm (Oq Vm (Oq (Vlen sl22) (Oq Vlss (Oq Vm ?_))))
 refine Js 25 ?_ ?_
 ·intro h61
  exact absurd h61 (by first | (simp [h12]; done) | (simp only [bne, h12]; decide) | (simp only [bne, h12, Bool.not_true, Bool.not_false]; decide) | (exfalso; omega) | (intro hq; simp only [bne, hq, Bool.not_false, Bool.not_true, reduceCtorEq] at h12))
 intro h61
 have g62 := df h61
 refine Osk (Osk (Osk (Osk (Osk (Osk (Oq Vpf (KS ?_)))))))
 refine Kf (KS ?_)
 refine Oa (As0 sl22) fun c63 => ?_
 refine Jo 0 ?_; rintro a64 k65 rfl
 refine Oq Vm (Oq Vm (Oa (Asl [1] sl22 0 (i_4.toNat)) fun c66 => ?_))
 refine Jo 0 ?_; rintro a67 k68 rfl
 refine Fb 8 0 fun _ => Fo 0 fun ho70 => ?_
 have hn71 : ((l.take (i_4.toNat)).drop 0).length = (i_4.toNat) - 0 := len_slice rng rng
 refine Jl [1] (Ent.crNil (α := Int) _) ?_
 refine Oa (Ap0 [0, 0] sl22 sl22 sz22) fun c72 => ?_
 refine Jo 0 ?_; rintro a73 k74 rfl
 refine Oq Va (KS ?_)
 refine Oq Vm (Oq Vm (Oa (AsV sl22 sz22 [vi n] [vi n]) fun c75 => ?_))
 refine Jo 0 ?_; rintro a76 k77 rfl
 refine Jl [0] (Ent.crInt _ [n] _ _ rfl rfl (by intro x hx; rw [List.mem_singleton] at hx; subst hx; unfold i64ok; omega) aB1) ?_
 refine Oa (ApO [1, 0] sl22 sl22 sz22) fun c78 => ?_
 refine Jo 0 ?_; rintro a79 k80 rfl
 refine Fb 8 0 fun _ => Fo 0 fun ho82 => ?_
 have hn83 := la ((l.take (i_4.toNat)).drop 0) ([n] : List Int)
 refine Oq Va (KS ?_)
 refine Oq Vm (Oq Vm (Oq Vm (Oa (Asl [2] sl22 (i_4.toNat) l.length) fun c84 => ?_)))
 refine Jo 0 ?_; rintro a85 k86 rfl
 refine Fb 8 0 fun _ => Fo 0 fun ho88 => ?_
 have hn89 : ((l.take l.length).drop (i_4.toNat)).length = l.length - (i_4.toNat) := len_slice rng rng
 refine Oa (Ap [1, 0] sl22 sl22 sz22) fun c90 => ?_
 refine Jo 0 ?_; rintro a91 k92 rfl
 refine Fb 8 0 fun _ => Fo 0 fun ho94 => ?_
 have hn95 := la ((((l.take (i_4.toNat)).drop 0) ++ [n]) : List Int) ((l.take l.length).drop (i_4.toNat))
 refine Oq Va (KS ?_)
 refine Jl [0] (Ent.freeze _ _) ?_
 have hq := q4 hrr ((((l.take (i_4.toNat)).drop 0) ++ [n]) ++ ((l.take l.length).drop (i_4.toNat))) (by simp only [r7_Insert, h12, h61, hR60, cs4]); subst hq
 exact Kr (.slice a91 (((((l.take (i_4.toNat)).drop 0) ++ [n]) ++ ((l.take l.length).drop (i_4.toNat))).length) k92) rfl (.tmp rfl .nil) [0] en
theorem fn13 (tP : Value) (ta : Option Addr) (tk : Nat) (tT : List Int) (tI : Int) (n : Int) (htI : 0 ≤ tI ∧ tI ≤ (tT.length : Int)) (hn_0 : i64ok n) (hn1 : 1 ≤ n ∧ n ≤ 1000) (rr : GGraph × Int) (hrr : tp_Graph tT tI n = rr) : FT Tryd.prog 13 #[tP, vi n] [Cl tP [vl ta tk tT, vi tI], S ta tk tT] (fun g : Value × Value × Value => (0 ≤ rr.2 ∧ rr.2 ≤ (tT.length : Int))) (fun g => .agg #[g.1, g.2.1, g.2.2]) (fun g => [sl g.1 rr.1.Nodes, sl g.2.1 rr.1.Succ, sl g.2.2 rr.1.Pred, Cl tP [vl ta tk tT, vi rr.2]]) := by
 refine FTi Tryd.func13 fun w0 M0 F0 => ?_
 unfold i64ok at hn_0
 refine Fb 8 1 fun _ => Fo 1 fun ho2 => KS ?_
 refine Oa (Al ze32 [.slice none 0 0, .slice none 0 0, .slice none 0 0]) fun p3 => KS ?_
 refine Oq Vm (Oq Vm ?_)
 refine letv (tp_Next tT tI n) fun rv4 hg5 => ?_
 have hc6 := fn19 tP ta tk tT tI n pre pre rv4 hg5
 refine Oc [1, 1] ca19 hc6 ?_
 rintro - ⟨he7, he8, he9⟩
 unfold i64ok at he7
 refine Oq Vadd (Oq Va (KS ?_))
 refine JK_drawK [0, 1, 0, 4, 0, 16, 63, 0, 255] fmix ?_
 refine Dv [] Vm ?_
 have hn11 := List.length_replicate (n := ((1 + rv4.1) : Int).toNat) (a := ((default : GNode) : GNode))
 refine Dx [] [] [0] (fun G => (G.g 1 0)) [fun G => os (G.g 1 0) ((List.replicate ((1 + rv4.1) : Int).toNat (default : GNode)) : List GNode)] (fun G => xA (Amk (α := GNode) sl29 sz29 (default : GNode) zrd_GNode)) (Dv [] Vm ?_)
 have hn13 := List.length_replicate (n := ((1 + rv4.1) : Int).toNat) (a := ([] : List Int))
 refine Dx [] [] [0] (fun G => (G.g 3 0)) [fun G => os (G.g 3 0) ((List.replicate ((1 + rv4.1) : Int).toNat []) : List (List Int))] (fun G => xA (Amk (α := List Int) sl30 sz30 [] (fun _ _ => ⟨_, rfl, slrd_nil⟩))) (Dv [] Vm ?_)
 have hn15 := List.length_replicate (n := ((1 + rv4.1) : Int).toNat) (a := ([] : List Int))
 refine Dx [] [] [0] (fun G => (G.g 5 0)) [fun G => os (G.g 5 0) ((List.replicate ((1 + rv4.1) : Int).toNat []) : List (List Int))] (fun G => xA (Amk (α := List Int) sl30 sz30 [] (fun _ _ => ⟨_, rfl, slrd_nil⟩))) ?_
 refine Dx [3, 4, 5] [] [0, 0, 0] (fun G => .agg #[(G.g 1 0), (G.g 3 0), (G.g 5 0)]) [] (fun G => xV (v := .agg #[(G.g 1 0), (G.g 3 0), (G.g 5 0)]) (Vo 0 rfl (isO_os _ _) fun aq16 kq17 eq18 => (by rw [eq18]; exact Vo 1 rfl (isO_os _ _) fun aq19 kq20 eq21 => (by rw [eq21]; exact Vo 2 rfl (isO_os _ _) fun aq22 kq23 eq24 => (by rw [eq24]; exact Vbd st32 [.slice aq16 (((List.replicate ((1 + rv4.1) : Int).toNat (default : GNode)) : List GNode).length) kq17, .slice aq19 (((List.replicate ((1 + rv4.1) : Int).toNat []) : List (List Int)).length) kq20, .slice aq22 (((List.replicate ((1 + rv4.1) : Int).toNat []) : List (List Int)).length) kq23]))))) (Dx [] [] [0] (fun G => (G.g 7 0)) [fun G => Cl (G.g 7 0) [.slice none 0 0, .slice none 0 0, .slice none 0 0]] (fun G => xA (Al ze32 [.slice none 0 0, .slice none 0 0, .slice none 0 0])) (Dx0 [3, 4, 5, 6] [6] [1, 1, 1, 0] [fun G => Cl (G.g 7 0) [(G.g 1 0), (G.g 3 0), (G.g 5 0)]] (fun G => x1 0 rfl os_one fun ho26 => (x1 1 rfl os_one fun ho27 => (x1 2 rfl os_one fun ho28 => (xS (Scl [3] sh32 [(G.g 1 0), (G.g 3 0), (G.g 5 0)] (v := .agg #[(G.g 1 0), (G.g 3 0), (G.g 5 0)]) (h1 := show [(G.g 1 0), (G.g 3 0), (G.g 5 0)].all (·.oneCell') = true from (by simp only [List.all_cons, List.all_nil, ho26, ho27, ho28, Bool.and_true, Bool.true_and] <;> rfl))))))) ?_))
 refine Dn ⟨by kernel_rfl, fun G => ?_⟩
 refine Jw2 [(0, tP), (4, p3), (1, vi (1 + rv4.1)), (5, (G.g 7 0))] [0, 1, 2] [os (G.g 1 0) ((List.replicate ((1 + rv4.1) : Int).toNat (default : GNode)) : List GNode), os (G.g 3 0) ((List.replicate ((1 + rv4.1) : Int).toNat []) : List (List Int)), os (G.g 5 0) ((List.replicate ((1 + rv4.1) : Int).toNat []) : List (List Int)), Cl (G.g 7 0) [(G.g 1 0), (G.g 3 0), (G.g 5 0)]] ?_
 generalize G.g 1 0 = c10, G.g 3 0 = c12, G.g 5 0 = c14, G.g 7 0 = p25
 refine Jo 3 ?_; rintro a29 k30 rfl
 refine Fb 32 3 fun _ => ?_
 refine Jo 4 ?_; rintro a32 k33 rfl
 refine Fb 24 4 fun _ => ?_
 refine Jo 5 ?_; rintro a35 k36 rfl
 refine KS ?_
 refine Oq Vm (Oq Vm (Oq Vmul (Oq Vadd ?_)))
 refine letv (tp_Next tT rv4.2 ((2 * (1 + rv4.1)) + 1)) fun rv37 hg38 => ?_
 have hc39 := fn19 tP ta tk tT rv4.2 (((2 * (1 + rv4.1)) + 1)) pre pre rv37 hg38
 refine Oc [0, 1] ca19 hc39 ?_
 rintro - ⟨he40, he41, he42⟩
 unfold i64ok at he40
 refine Oq Va (KS ?_)
 refine Kl (γ := Nat × Int × List (List Int) × List (List Int) × Int × Option Addr × Nat × Option Addr × Nat) (fun (r43, ti_44, g1_45, g2_46, k_47, a48, k49, a50, k51) => ⟨[(0, tP), (4, p3), (1, vi (1 + rv4.1)), (5, p25), (6, vi k_47)], [O a50 k51 g2_46, O a48 k49 g1_45, Cl tP [vl ta tk tT, vi ti_44], Cl p3 [.slice none 0 0, .slice none 0 0, .slice none 0 0], S ta tk tT, O a29 k30 ((List.replicate ((1 + rv4.1) : Int).toNat (default : GNode)) : List GNode), Cl p25 [vl a29 k30 (List.replicate ((1 + rv4.1) : Int).toNat (default : GNode)), vl a48 k49 g1_45, vl a50 k51 g2_46]], tp_Graph_L0 tT (1 + rv4.1) r43 ti_44 g1_45 g2_46 k_47 = tp_Graph_L0 tT (1 + rv4.1) (rv37.1.toNat) rv37.2 (List.replicate ((1 + rv4.1) : Int).toNat []) (List.replicate ((1 + rv4.1) : Int).toNat []) rv37.1 ∧ r43 = k_47.toNat ∧ k_47 ≤ (rv37.1 : Int) ∧ (-9223372036854775808 ≤ ti_44 ∧ ti_44 ≤ 9223372036854775807) ∧ (0 ≤ ti_44 ∧ ti_44 ≤ (tT.length : Int)) ∧ (-9223372036854775808 ≤ k_47 ∧ k_47 ≤ 9223372036854775807) ∧ g1_45.length = (1 + rv4.1).toNat ∧ g2_46.length = (1 + rv4.1).toNat ∧ (∀ l ∈ g1_45, (l.length : Int) ≤ 3000 - k_47) ∧ (∀ l ∈ g2_46, (l.length : Int) ≤ 3000 - k_47) ∧ (k_47 ≤ 2100), r43⟩) (rv37.1.toNat, rv37.2, (List.replicate ((1 + rv4.1) : Int).toNat []), (List.replicate ((1 + rv4.1) : Int).toNat []), rv37.1, a32, k33, a35, k36) [5, 4, 0, 0, 0, 1, 1] ⟨rfl, rfl, aM1, aM1, aM1, aM1, iv0, iv0, (fun l hl => by rw [List.eq_of_mem_replicate hl]; show (0 : Int) ≤ _; omega), (fun l hl => by rw [List.eq_of_mem_replicate hl]; show (0 : Int) ≤ _; omega), iv0⟩ ?_
 rintro ⟨r43, ti_44, g1_45, g2_46, k_47, a48, k49, a50, k51⟩ ⟨hM52, hr53, hi54, hk55, ht56, hk57, hv58, hv59, hv60, hv61, hv62⟩
 refine JJ_nx fun _ _ hL hA => ?_; dsimp only at hL hA; subst hL hA
 refine Fb 24 0 fun _ => Fb 24 1 fun _ => Fb 8 4 fun _ => Fo 4 fun ho66 => Fb 32 5 fun _ => KS ?_
 refine Oq Vm (Oq Vgtr (KS ?_))
 refine Kc ?_ ?_
 ·intro h68
  have g69 := dt h68
  obtain ⟨r70, rfl⟩ := scc (n := r43) aM1
  refine KS ?_
  refine Oq Vm (Oq Vm ?_)
  refine letv (tp_Next tT ti_44 (1 + rv4.1)) fun rv71 hg72 => ?_
  have hc73 := fn19 tP ta tk tT ti_44 ((1 + rv4.1)) pre pre rv71 hg72
  refine Oc [2, 3] ca19 hc73 ?_
  rintro - ⟨he74, he75, he76⟩
  unfold i64ok at he74
  refine Oq Vm (Oq Vm ?_)
  refine letv (tp_Next tT rv71.2 (1 + rv4.1)) fun rv77 hg78 => ?_
  have hc79 := fn19 tP ta tk tT rv71.2 ((1 + rv4.1)) pre pre rv77 hg78
  refine Oc [0, 3] ca19 hc79 ?_
  rintro - ⟨he80, he81, he82⟩
  unfold i64ok at he80
  refine Oq Va (Oq Va (KS ?_))
  refine Jp 6 fun hp83 => ?_
  refine JJ_peekOL rv71.1.toNat 3 rfl rng fun a84 k85 => ?_
  refine Fb 8 1 fun _ => Fo 1 fun ho87 => ?_
  refine JJ_peekOL rv77.1.toNat 4 rfl rng fun a88 k89 => ?_
  refine Fb 8 1 fun _ => Fo 1 fun ho91 => ?_
  refine JK_drawK [0, 1, 0, 0, 8, 0, 0, 64, 0, 448, 960, 0, 4032, 0, 8192, 0, 57344, 122880, 0, 524224, 1048519, 2097095, 4194303, 8388607] fmix ?_
  refine Dv [4] (Vfa fo32_1 0) (Dv [9] (VldF sh30 0) (Dv [] Vm (Dv [4] (Vfa fo32_2 0) (Dv [9] (VldF sh30 0) (Dv [] Vm (Dv [4] (Vfa fo32_1 0) (Dv [9] (VldF sh30 0) (Dv [] Vm (Dv [2] (Vi sl30 0) ?_)))))))))
  refine Dv [2] (Vld sh22 0) (Dv [] Vm ?_)
  refine letv (r7_Insert (g1_45.getD rv71.1.toNat []) rv77.1) fun rv93 hg94 => ?_
  refine Dx [3] [] [2, 0, 1] (fun G => (G.g 12 0)) [fun G => SP.fact ((rv93.length ≤ (g1_45.getD rv71.1.toNat []).length + 1)), fun G => sl (G.g 12 0) rv93] (fun G => xC [0] ca32 (fn32 ((g1_45.getD rv71.1.toNat [])) a84 k85 rv77.1 pre (lenS_1 (by assumption) aM1) rv93 hg94)) (Dv [4] (Vfa fo32_2 0) (Dv [9] (VldF sh30 0) (Dv [] Vm (Dv [0] (Vi sl30 0) (Dv [0] (Vld sh22 0) (Dv [] Vm ?_))))))
  refine letv (r7_Insert (g2_46.getD rv77.1.toNat []) rv71.1) fun rv96 hg97 => ?_
  refine Dx [1, 10] [] [2, 3, 0, 1] (fun G => (G.g 19 0)) [fun G => SP.fact ((rv96.length ≤ (g2_46.getD rv77.1.toNat []).length + 1)), fun G => sl (G.g 19 0) rv96] (fun G => by refine xf 1 rfl ?_; rintro he98; exact xC [0] ca32 (fn32 ((g2_46.getD rv77.1.toNat [])) a88 k89 rv71.1 pre (lenS_1 (by assumption) aM1) rv96 hg97)) ?_
  refine Dx [2, 10] [] [0, 0] (fun G => (eptr 1 (vl a48 k49 g1_45) rv71.1.toNat)) [] (fun G => by refine xf 1 rfl ?_; rintro he99; exact xV (Vi sl30 0)) ?_
  refine Dx0 [2, 10, 11] [2] [2, 1, 0] [fun G => os (vl a48 k49 g1_45) (g1_45.set rv71.1.toNat rv93)] (fun G => by refine xf 1 rfl ?_; rintro he100; exact xp [0] rfl (Ent.oread _ _ _ _) (x1 2 rfl sl_one fun ho101 => (xS (OpS.frame [0, 1] rfl (OpS.storeOs' (Rs := [sl (G.g 12 0) rv93]) rv93 [(G.g 12 0)] rfl rfl rfl sh22 (cells_of_one ho101) rfl (fun h => ⟨_, rfl, sepAll_get (i := 0) rfl h⟩) rng))))) ?_
  refine Dx [0, 12] [] [0, 0] (fun G => (eptr 1 (vl a50 k51 g2_46) rv77.1.toNat)) [] (fun G => by refine xf 1 rfl ?_; rintro he102; exact xV (Vi sl30 0)) ?_
  refine Dx0 [0, 12, 13] [0] [2, 1, 0] [fun G => os (vl a50 k51 g2_46) (g2_46.set rv77.1.toNat rv96)] (fun G => by refine xf 1 rfl ?_; rintro he103; exact xp [0] rfl (Ent.oread _ _ _ _) (x1 2 rfl sl_one fun ho104 => (xS (OpS.frame [0, 1] rfl (OpS.storeOs' (Rs := [sl (G.g 19 0) rv96]) rv96 [(G.g 19 0)] rfl rfl rfl sh22 (cells_of_one ho104) rfl (fun h => ⟨_, rfl, sepAll_get (i := 0) rfl h⟩) rng))))) ?_
  refine Dn ⟨by kernel_rfl, fun G => ?_⟩
  refine Jw2 [(0, tP), (4, p3), (1, vi (1 + rv4.1)), (5, p25), (6, vi k_47)] [1, 3, 4, 5, 6, 7, 8, 9] [SP.fact ((rv93.length ≤ (g1_45.getD rv71.1.toNat []).length + 1)), sl (G.g 12 0) rv93, SP.fact ((rv96.length ≤ (g2_46.getD rv77.1.toNat []).length + 1)), sl (G.g 19 0) rv96, os (vl a48 k49 g1_45) (g1_45.set rv71.1.toNat rv93), os (vl a50 k51 g2_46) (g2_46.set rv77.1.toNat rv96)] ?_
  generalize G.g 12 0 = c92, G.g 19 0 = c95
  refine Jf 8 rfl ?_; rintro he105
  refine Jf 10 rfl ?_; rintro he106
  refine Jk [0, 1, 3, 3, 3, 4, 4, 5, 7, 8, 8] ?_
  refine Jo 7 ?_; rintro a107 k108 rfl
  refine Fb 8 7 fun _ => Fo 7 fun ho110 => ?_
  refine Jo 8 ?_; rintro a111 k112 rfl
  refine Fb 8 8 fun _ => Fo 8 fun ho114 => KS ?_
  refine Oq Vm (Oq Vsub (Oq Va (KS ?_)))
  refine Fl 9 fun hn115 => ?_; (try unfold vl); rw [← hn115]
  refine Fl 10 fun hn116 => ?_; (try unfold vl); rw [← hn116]
  exact Kg (r70, rv77.2, (g1_45.set rv71.1.toNat rv93), (g2_46.set rv77.1.toNat rv96), (k_47 - 1), a48, k49, a50, k51) [10, 9, 2, 2, 2, 3, 3] ⟨(q3 hM52 (by simp only [tp_Graph_L0, h68, hg5, hg38, hg72, hg78, hg94, hg97, cs4])), aM1, aM1, aM1, aM1, aM1, iv1, iv1, (lenS_set (by assumption) (by assumption) aM1 aM1), (lenS_set (by assumption) (by assumption) aM1 aM1), iv1⟩
 intro h68
 have g117 := df h68
 obtain rfl : r43 = 0 := by omega
 refine Ke ?_
 have hR118 := q2 hM52 (ti_44, g1_45, g2_46) (by simp only [tp_Graph_L0, h68, hg5, hg38, cs4])
 refine KS ?_
 refine Oq (VldA sh32 6) (Ost (Scl [3] sh32 [vl a29 k30 (List.replicate ((1 + rv4.1) : Int).toNat (default : GNode)), vl a48 k49 g1_45, vl a50 k51 g2_46]) (KS ?_))
 refine Jl [5] (Ent.freeze _ _) ?_
 refine Jl [3] (Ent.freeze _ _) ?_
 refine Jl [3] (Ent.freeze _ _) ?_
 have hq := q4 hrr ((GGraph.mk (List.replicate ((1 + rv4.1) : Int).toNat (default : GNode)) g1_45 g2_46), ti_44) (by simp only [tp_Graph, h68, hg5, hg38, hR118, cs4]); subst hq
 exact Kr (vl a29 k30 (List.replicate ((1 + rv4.1) : Int).toNat (default : GNode)), vl a48 k49 g1_45, vl a50 k51 g2_46) rfl (.cellN 3 rfl sh32 rfl (reads_Cl _ _) rfl .nil) [2, 1, 0, 4] en
theorem fn33 (s : List GNode) (sa0 : Option Addr) (sk0 : Nat) (rr : List GNode) (hrr : sc_Clone_Node s = rr) : FT Tryd.prog 33 #[vl sa0 sk0 s] [S sa0 sk0 s] (fun g : Value => (rr.length = s.length)) (fun g => g) (fun g => [os g rr]) := by
 have hm : sc_Clone_Node s = s := rfl
 rw [hm] at hrr
 subst hrr
 refine FTi Tryd.func33 fun w0 M0 F0 => ?_
 refine KS ?_
 refine Oq Va ?_
 refine KS ?_
 refine Oq Vm ?_
 refine Oq (VeqN un29) ?_
 refine KS ?_
 refine Kc ?_ ?_
 ·intro h
  refine Jnil 0 h ?_
  intro h0
  subst h0
  refine KS ?_
  refine Oq Va ?_
  refine KS ?_
  refine Jl [] (Ent.osNil (α := GNode)) ?_
  exact Kr (.slice none 0 0) rfl (.tmp rfl .nil) [0] rfl
 ·intro _
  refine KS ?_
  refine Oa (As0 sl29) fun c1 => ?_
  refine Jo 0 ?_; rintro a2 k3 rfl
  refine Oq Vm ?_
  refine Fb 32 1 fun hl => ?_
  refine Jl [0] (Ent.crNil (α := GNode) _) ?_
  refine Oa (Ap0 [0, 0] sl29 sl29 sz29) fun c4 => ?_
  refine Oq Va ?_
  refine KS ?_
  exact Kr c4 rfl (.tmp rfl .nil) [0] rfl
theorem fn34 (l : List (List Int)) (la0 : Option Addr) (lk0 : Nat) (rr : List (List Int)) (hrr : gh_lists l = rr) : FT Tryd.prog 34 #[vl la0 lk0 l] [S la0 lk0 l] (fun g : Value => (rr.length = l.length)) (fun g => g) (fun g => [sl g rr]) := by
 refine FTi Tryd.func34 fun w0 M0 F0 => Fb 24 0 fun _ => ?_
 refine KS ?_
 refine Oq Va (KS ?_)
 refine Oq Va (KS ?_)
 refine Oq Vm (Oq (Vlen sl30) (Oq Vm (KS ?_)))
 refine Jl [] (Ent.osNil (α := (List Int))) ?_
 refine Kl (γ := Nat × List (List Int) × Int × Option Addr × Nat) (fun (r2, out_3, v8_4, a5, k6) => ⟨[(3, vl a5 k6 out_3), (6, vl la0 lk0 l), (7, vi (l.length : Int)), (8, vi v8_4)], [O a5 k6 out_3, S la0 lk0 l], gh_lists_L0 l r2 out_3 v8_4 = gh_lists_L0 l (((l.length : Int) - 0).toNat) [] 0 ∧ r2 = ((l.length : Int) - v8_4).toNat ∧ (0 : Int) ≤ v8_4 ∧ v8_4 ≤ (l.length : Int) ∧ (-9223372036854775808 ≤ v8_4 ∧ v8_4 ≤ 9223372036854775807) ∧ ((out_3.length : Int) = v8_4), r2⟩) (((l.length : Int) - 0).toNat, [], 0, none, 0) [0, 0] ⟨rfl, rfl, aM1, aM1, aM1, iv0⟩ ?_
 rintro ⟨r2, out_3, v8_4, a5, k6⟩ ⟨hM7, hr8, hi9, hi10, hk11, hv12⟩
 refine JJ_nx fun _ _ hL hA => ?_; dsimp only at hL hA; subst hL hA
 refine Fb 24 0 fun _ => Fb 24 1 fun _ => KS ?_
 refine Oq Vlss (KS ?_)
 refine Kc ?_ ?_
 ·intro h15
  have g16 := dt h15
  obtain ⟨r17, rfl⟩ := scc (n := r2) aM1
  refine KS ?_
  refine Oq (Vi sl30 1) ?_
  refine JJ_peekL v8_4.toNat 1 rfl rng fun a18 k19 => ?_
  refine Fb 8 1 fun _ => Fo 1 fun ho21 => ?_
  refine Oq (Vld sh22 0) (Oq Va (KS ?_))
  refine Oq Vm (Oq Vm ?_)
  refine Jl [] (Ent.osNil (α := Int)) ?_
  refine Oa (Ap0 [0, 1] sl22 sl22 sz22) fun c22 => ?_
  refine Jo 0 ?_; rintro a23 k24 rfl
  refine Oa (AsV sl30 sz30 [vl a23 k24 (l.getD v8_4.toNat [])] [vl a23 k24 (l.getD v8_4.toNat [])]) fun c25 => ?_
  refine Jo 0 ?_; rintro a26 k27 rfl
  refine Jl [1] (Ent.freeze _ _) ?_
  refine Jl [1, 0] (Ent.cr1 (α := List Int) (A := [S a23 k24 ((l.getD v8_4.toNat []) : List Int)]) _ (l.getD v8_4.toNat []) _ aB1 (fun h => ⟨_, rfl, sepAll_get (i := 0) rfl h⟩)) ?_
  refine Oa (ApO [5, 0] sl30 sl30 sz30) fun c28 => ?_
  refine Jo 0 ?_; rintro a29 k30 rfl
  refine Fb 24 0 fun _ => ?_
  have hn32 := la out_3 ([(l.getD v8_4.toNat [])] : List (List Int))
  refine Oq Va (KS ?_)
  refine Oq Vadd (Oq Vm (KS ?_))
  exact Kg (r17, (out_3 ++ [(l.getD v8_4.toNat [])]), (v8_4 + 1), a29, k30) [0, 4] ⟨(q3 hM7 (by simp only [gh_lists_L0, h15, cs4])), aM1, aM1, aM1, aM1, iv1⟩
 intro h15
 have g33 := df h15
 obtain rfl : r2 = 0 := by omega
 refine Ke ?_
 have hR34 := q2 hM7 out_3 (by simp only [gh_lists_L0, h15, cs4])
 refine KS ?_
 refine Oq Vm (Oq Va (KS ?_))
 refine Jl [0] (Ent.freeze _ _) ?_
 have hq := q4 hrr out_3 (by simp only [gh_lists, h15, hR34, cs4]); subst hq
 exact Kr (vl a5 k6 out_3) rfl (.tmp rfl .nil) [0] en
theorem fn14 (g : GGraph) (ga0 : Option Addr) (gk0 : Nat) (ga1 : Option Addr) (gk1 : Nat) (ga2 : Option Addr) (gk2 : Nat) (rr : GGraph × Int) (hrr : gh_Reverse g = rr) : FT Tryd.prog 14 #[.agg #[vl ga0 gk0 g.Nodes, vl ga1 gk1 g.Succ, vl ga2 gk2 g.Pred]] [S ga0 gk0 g.Nodes, S ga1 gk1 g.Succ, S ga2 gk2 g.Pred] (fun g : Value × Value × Value => i64ok rr.2) (fun g => .tuple #[.agg #[g.1, g.2.1, g.2.2], vi rr.2]) (fun g => [sl g.1 rr.1.Nodes, sl g.2.1 rr.1.Succ, sl g.2.2 rr.1.Pred]) := by
 refine FTi Tryd.func14 fun w0 M0 F0 => Fb 32 0 fun _ => Fb 24 1 fun _ => Fb 24 2 fun _ => ?_
 refine KS ?_
 refine Oa (Ab [vl ga0 gk0 g.Nodes, vl ga1 gk1 g.Succ, vl ga2 gk2 g.Pred]) fun p4 => Oa (Al ze32 [.slice none 0 0, .slice none 0 0, .slice none 0 0]) fun p5 => Oq Va (KS ?_)
 refine Oq (VldA sh32 1) ?_
 refine letv (gh_Valid g) fun rv6 hg7 => ?_
 have hc8 := fn10 g ga0 gk0 ga1 gk1 ga2 gk2 rv6 hg7
 refine Oc [2, 3, 4] ca10 hc8 ?_
 rintro - -
 refine Oq Vnot (KS ?_)
 refine Kc ?_ ?_
 ·intro h9
  have h11 := not_true h9
  refine KS ?_
  refine Oq (Vbd st32 [.slice none 0 0, .slice none 0 0, .slice none 0 0]) (Ost (Scl [0] sh32 [.slice none 0 0, .slice none 0 0, .slice none 0 0]) (Oq Va (KS ?_)))
  refine Jl [] (Ent.slNil (α := GNode)) ?_
  refine Jl [] (Ent.slNil (α := List Int)) ?_
  have hq := q4 hrr ((GGraph.mk [] [] []), 1) (by simp only [gh_Reverse, h9, h11, hg7, cs4]); subst hq
  exact Kr (.slice none 0 0, .slice none 0 0, .slice none 0 0) rfl (.cellN 2 rfl sh32 rfl (reads_Cl _ _) rfl (.tmp rfl .nil)) [1, 0, 0] en
 intro h9
 have h14 := not_false h9
 refine KS ?_
 refine JK_drawK [0, 1, 3, 0, 8, 31, 0, 64, 255, 511, 1023, 2047] fmix ?_
 refine Dv [1] (Vfa fo32_0 0) (Dv [1] (VldF sh29 0) ?_)
 refine letv (sc_Clone_Node g.Nodes) fun rv17 hg18 => ?_
 refine Dx [2] [] [2, 0, 1] (fun G => (G.g 2 0)) [fun G => SP.fact ((rv17.length = g.Nodes.length)), fun G => os (G.g 2 0) rv17] (fun G => xC [0] ca33 (fn33 g.Nodes ga0 gk0 rv17 hg18)) (Dv [1] (Vfa fo32_2 0) (Dv [1] (VldF sh30 0) ?_))
 refine letv (gh_lists g.Pred) fun rv20 hg21 => ?_
 refine Dx [4] [] [2, 0, 1] (fun G => (G.g 5 0)) [fun G => SP.fact ((rv20.length = g.Pred.length)), fun G => sl (G.g 5 0) rv20] (fun G => xC [0] ca34 (fn34 g.Pred ga2 gk2 rv20 hg21)) (Dv [1] (Vfa fo32_1 0) (Dv [1] (VldF sh30 0) ?_))
 refine letv (gh_lists g.Succ) fun rv23 hg24 => Dx [3] [] [2, 0, 1] (fun G => (G.g 8 0)) [fun G => SP.fact ((rv23.length = g.Succ.length)), fun G => sl (G.g 8 0) rv23] (fun G => xC [0] ca34 (fn34 g.Succ ga1 gk1 rv23 hg24)) ?_
 refine Dx [6, 8, 10] [] [0, 0, 1] (fun G => .agg #[(G.g 2 0), (G.g 5 0), (G.g 8 0)]) [] (fun G => xV (v := .agg #[(G.g 2 0), (G.g 5 0), (G.g 8 0)]) (Vo 0 rfl (isO_os _ _) fun aq25 kq26 eq27 => (by rw [eq27]; exact Vo 1 rfl (isO_sl _ _) fun aq28 kq29 eq30 => (by rw [eq30]; exact Vo 2 rfl (isO_sl _ _) fun aq31 kq32 eq33 => (by rw [eq33]; exact Vbd st32 [.slice aq25 ((rv17 : List GNode).length) kq26, .slice aq28 ((rv20 : List (List Int)).length) kq29, .slice aq31 ((rv23 : List (List Int)).length) kq32]))))) (Dx0 [0, 6, 8, 10] [0] [1, 1, 2, 0] [fun G => Cl p5 [(G.g 2 0), (G.g 5 0), (G.g 8 0)]] (fun G => x1 1 rfl os_one fun ho34 => (x1 2 rfl sl_one fun ho35 => (x1 3 rfl sl_one fun ho36 => (xS (Scl [0] sh32 [(G.g 2 0), (G.g 5 0), (G.g 8 0)] (v := .agg #[(G.g 2 0), (G.g 5 0), (G.g 8 0)]) (h1 := show [(G.g 2 0), (G.g 5 0), (G.g 8 0)].all (·.oneCell') = true from (by simp only [List.all_cons, List.all_nil, ho34, ho35, ho36, Bool.and_true, Bool.true_and] <;> rfl))))))) (Dv [] Va ?_))
 refine Dn ⟨by kernel_rfl, fun G => ?_⟩
 refine Jw2 [(2, p5), (3, vi 0)] [1, 2, 3, 4] [SP.fact ((rv17.length = g.Nodes.length)), os (G.g 2 0) rv17, SP.fact ((rv20.length = g.Pred.length)), sl (G.g 5 0) rv20, SP.fact ((rv23.length = g.Succ.length)), sl (G.g 8 0) rv23, Cl p5 [(G.g 2 0), (G.g 5 0), (G.g 8 0)]] ?_
 generalize G.g 2 0 = c16, G.g 5 0 = c19, G.g 8 0 = c22
 refine Jf 4 rfl ?_; rintro he37
 refine Jf 6 rfl ?_; rintro he38
 refine Jf 8 rfl ?_; rintro he39
 refine Jk [0, 1, 2, 3, 5, 6, 8, 9] ?_
 refine Jo 4 ?_; rintro a40 k41 rfl
 refine Fb 32 4 fun _ => ?_
 refine Jo 5 ?_; rintro a43 k44 rfl
 refine Fb 24 5 fun _ => ?_
 refine Jo 6 ?_; rintro a46 k47 rfl
 refine Fb 24 6 fun _ => ?_
 refine Jl [4] (Ent.freeze _ _) ?_
 have hq := q4 hrr ((GGraph.mk rv17 rv20 rv23), 0) (by simp only [gh_Reverse, h9, h14, hg7, hg18, hg21, hg24, cs4]); subst hq
 exact Kr (vl a40 k41 rv17, vl a43 k44 rv20, vl a46 k47 rv23) rfl (.cellN 7 rfl sh32 rfl (reads_Cl _ _) rfl (.tmp rfl .nil)) [0, 5, 6] en
theorem fn35 (a : List (List Int)) (aa0 : Option Addr) (ak0 : Nat) (b : List (List Int)) (ba0 : Option Addr) (bk0 : Nat) (rr : Bool) (hrr : r7_SameLists a b = rr) : FT Tryd.prog 35 #[vl aa0 ak0 a, vl ba0 bk0 b] [S aa0 ak0 a, S ba0 bk0 b] (fun g : Unit => True) (fun g => vb rr) (fun g => []) := by
 refine FTi Tryd.func35 fun w0 M0 F0 => Fb 24 0 fun _ => Fb 24 1 fun _ => ?_
 refine KS ?_
 refine Oq Va (KS ?_)
 refine Oq Vm (Oq (Vlen sl30) (Oq Vm (Oq (Vlen sl30) (Oq Vneq (KS ?_)))))
 refine Kc ?_ ?_
 ·intro h3
  have g4 := ne_of_bne h3
  refine KS ?_
  refine Oq Va (KS ?_)
  have hq := q4 hrr false (by simp only [r7_SameLists, h3, cs4]); subst hq
  exact Kr () rfl (.tmp rfl .nil) [] trivial
 intro h3
 have g5 := eq_of_bne_false h3
 refine KS ?_
 refine Oq Va (KS ?_)
 refine Kl (γ := Nat × Int) (fun (r6, i_7) => ⟨[(0, vl aa0 ak0 a), (1, vl ba0 bk0 b), (5, vi i_7)], [S aa0 ak0 a, S ba0 bk0 b], r7_SameLists_L0 a b r6 i_7 = r7_SameLists_L0 a b (((a.length : Int) - 0).toNat) 0 ∧ r6 = ((a.length : Int) - i_7).toNat ∧ (0 : Int) ≤ i_7 ∧ i_7 ≤ (a.length : Int) ∧ (-9223372036854775808 ≤ i_7 ∧ i_7 ≤ 9223372036854775807), r6⟩) (((a.length : Int) - 0).toNat, 0) [0, 1] ⟨rfl, rfl, aM1, aM1, aM1⟩ ?_
 rintro ⟨r6, i_7⟩ ⟨hM8, hr9, hi10, hi11, hk12⟩
 refine JJ_nx fun _ _ hL hA => ?_; dsimp only at hL hA; subst hL hA
 refine Fb 24 0 fun _ => Fb 24 1 fun _ => KS ?_
 refine Oq Vm (Oq Vm (Oq (Vlen sl30) (Oq Vlss (KS ?_))))
 refine Kc ?_ ?_
 ·intro h15
  have g16 := dt h15
  obtain ⟨r17, rfl⟩ := scc (n := r6) aM1
  refine KS ?_
  refine JJ_peekL i_7.toNat 0 rfl rng fun a18 k19 => ?_
  refine Fb 8 1 fun _ => Fo 1 fun ho21 => ?_
  refine JJ_peekL i_7.toNat 3 rfl rng fun a22 k23 => ?_
  refine Fb 8 1 fun _ => Fo 1 fun ho25 => ?_
  refine JK_drawK [0, 0, 3, 7, 0, 0, 48, 112, 255, 511] fmix ?_
  refine Dv [] Vm (Dv [] Vm (Dv [4] (Vi sl30 0) (Dv [2] (Vld sh22 0) (Dv [] Vm (Dv [] Vm (Dv [5] (Vi sl30 0) (Dv [0] (Vld sh22 0) ?_)))))))
  refine letv (r7_Ints (a.getD i_7.toNat []) (b.getD i_7.toNat [])) fun rv26 hg27 => ?_
  refine Dx [1, 3] [] [1, 2, 0] (fun G => vb rv26) [fun G => SP.fact (True)] (fun G => xC [1, 0] ca17 (fn17 ((a.getD i_7.toNat [])) a18 k19 ((b.getD i_7.toNat [])) a22 k23 rv26 hg27)) (Dv [] Vnot ?_)
  refine Dn ⟨by kernel_rfl, fun G => ?_⟩
  refine Jw2 [(0, vl aa0 ak0 a), (1, vl ba0 bk0 b), (5, vi i_7), (26, vb (!rv26))] [0, 1, 2, 3, 4, 5] [SP.fact (True)] ?_
  refine Jk [0, 1, 2, 3, 4, 5] ?_
  refine Kc ?_ ?_
  ·intro h28
   have h30 := not_true h28
   refine KS ?_
   refine Oq Va (KS ?_)
   have hR32 := q2 hM8 (.ret false) (by simp only [r7_SameLists_L0, h3, h15, h28, h30, hg27, cs4])
   have hq := q4 hrr false (by simp only [r7_SameLists, h3, h15, h28, h30, hg27, hR32, cs4]); subst hq
   exact Kr () rfl (.tmp rfl .nil) [] trivial
  intro h28
  have h34 := not_false h28
  refine KS ?_
  refine Oq Vm (Oq Vadd (Oq Va (KS ?_)))
  exact Kg (r17, (i_7 + 1)) [4, 5] ⟨(q3 hM8 (by simp only [r7_SameLists_L0, h3, h15, h28, h34, hg27, cs4])), aM1, aM1, aM1, aM1⟩
 intro h15
 have g36 := df h15
 obtain rfl : r6 = 0 := by omega
 refine Ke ?_
 have hR37 := q2 hM8 (.brk ()) (by simp only [r7_SameLists_L0, h3, h15, cs4])
 refine KS ?_
 refine Oq Va (KS ?_)
 have hq := q4 hrr true (by simp only [r7_SameLists, h3, h15, hR37, cs4]); subst hq
 exact Kr () rfl (.tmp rfl .nil) [] trivial
theorem fn15 (a : GGraph) (aa0 : Option Addr) (ak0 : Nat) (aa1 : Option Addr) (ak1 : Nat) (aa2 : Option Addr) (ak2 : Nat) (b : GGraph) (ba0 : Option Addr) (bk0 : Nat) (ba1 : Option Addr) (bk1 : Nat) (ba2 : Option Addr) (bk2 : Nat) (rr : Bool) (hrr : r7_SameGraph a b = rr) : FT Tryd.prog 15 #[.agg #[vl aa0 ak0 a.Nodes, vl aa1 ak1 a.Succ, vl aa2 ak2 a.Pred], .agg #[vl ba0 bk0 b.Nodes, vl ba1 bk1 b.Succ, vl ba2 bk2 b.Pred]] [S aa0 ak0 a.Nodes, S aa1 ak1 a.Succ, S aa2 ak2 a.Pred, S ba0 bk0 b.Nodes, S ba1 bk1 b.Succ, S ba2 bk2 b.Pred] (fun g : Unit => True) (fun g => vb rr) (fun g => []) := by
 refine FTi Tryd.func15 fun w0 M0 F0 => Fb 32 0 fun _ => Fb 24 1 fun _ => Fb 24 2 fun _ => Fb 32 3 fun _ => Fb 24 4 fun _ => Fb 24 5 fun _ => ?_
 refine KS ?_
 refine Oa (Ab [vl aa0 ak0 a.Nodes, vl aa1 ak1 a.Succ, vl aa2 ak2 a.Pred]) fun p7 => Oa (Ab [vl ba0 bk0 b.Nodes, vl ba1 bk1 b.Succ, vl ba2 bk2 b.Pred]) fun p8 => Oq Va (KS ?_)
 refine Oq (Vfa fo32_0 1) (Oq (VldF sh29 1) (Oq (Vlen sl29) (Oq (Vfa fo32_0 0) (Oq (VldF sh29 0) (Oq (Vlen sl29) (Oq Vneq (Oq Vm ?_)))))))
 refine Js 13 ?_ ?_
 ·intro h9
  have g10 := ne_of_bne h9
  refine Osk (Osk (Osk (Osk (Osk (Osk (Oq Vpt (Oq Vm (Osk (Osk ?_)))))))))
  refine Osk (Osk (Osk (Osk (Oq Vpt (KS ?_)))))
  refine Kt (KS ?_)
  refine Oq Va (KS ?_)
  have hq := q4 hrr false (by simp only [r7_SameGraph, h9, cs4]); subst hq
  exact Kr () rfl (.tmp rfl .nil) [] trivial
 intro h9
 have g11 := eq_of_bne_false h9
 refine Oq (Vfa fo32_1 1) (Oq (VldF sh30 1) (Oq (Vfa fo32_1 0) (Oq (VldF sh30 0) ?_)))
 refine letv (r7_SameLists a.Succ b.Succ) fun rv12 hg13 => ?_
 have hc14 := fn35 a.Succ aa1 ak1 b.Succ ba1 bk1 rv12 hg13
 refine Oc [3, 6] ca35 hc14 ?_
 rintro - -
 refine Oq Vnot (Oq Vpf (Oq Vm ?_))
 refine Js 21 ?_ ?_
 ·intro h15
  have h17 := not_true h15
  refine Osk (Osk (Osk (Osk (Osk (Osk (Oq Vpt (KS ?_)))))))
  refine Kt (KS ?_)
  refine Oq Va (KS ?_)
  have hq := q4 hrr false (by simp only [r7_SameGraph, h9, h15, h17, hg13, cs4]); subst hq
  exact Kr () rfl (.tmp rfl .nil) [] trivial
 intro h15
 have h20 := not_false h15
 refine Oq (Vfa fo32_2 1) (Oq (VldF sh30 1) (Oq (Vfa fo32_2 0) (Oq (VldF sh30 0) ?_)))
 refine letv (r7_SameLists a.Pred b.Pred) fun rv22 hg23 => ?_
 have hc24 := fn35 a.Pred aa2 ak2 b.Pred ba2 bk2 rv22 hg23
 refine Oc [4, 7] ca35 hc24 ?_
 rintro - -
 refine Oq Vnot (Oq Vpf (KS ?_))
 refine Kc ?_ ?_
 ·intro h25
  have h27 := not_true h25
  refine KS ?_
  refine Oq Va (KS ?_)
  have hq := q4 hrr false (by simp only [r7_SameGraph, h9, h15, h20, h25, h27, hg13, hg23, cs4]); subst hq
  exact Kr () rfl (.tmp rfl .nil) [] trivial
 intro h25
 have h30 := not_false h25
 refine KS ?_
 refine Oq Va (KS ?_)
 refine Kl (γ := Nat × Int) (fun (r32, i_33) => ⟨[(2, p7), (3, p8), (5, vi i_33)], [pv p8 [vl ba0 bk0 b.Nodes, vl ba1 bk1 b.Succ, vl ba2 bk2 b.Pred], pv p7 [vl aa0 ak0 a.Nodes, vl aa1 ak1 a.Succ, vl aa2 ak2 a.Pred], S aa0 ak0 a.Nodes, S aa1 ak1 a.Succ, S aa2 ak2 a.Pred, S ba0 bk0 b.Nodes, S ba1 bk1 b.Succ, S ba2 bk2 b.Pred], r7_SameGraph_L0 a b r32 i_33 = r7_SameGraph_L0 a b (((a.Nodes.length : Int) - 0).toNat) 0 ∧ r32 = ((a.Nodes.length : Int) - i_33).toNat ∧ (0 : Int) ≤ i_33 ∧ i_33 ≤ (a.Nodes.length : Int) ∧ (-9223372036854775808 ≤ i_33 ∧ i_33 ≤ 9223372036854775807), r32⟩) (((a.Nodes.length : Int) - 0).toNat, 0) [0, 1, 2, 3, 4, 5, 6, 7] ⟨rfl, rfl, aM1, aM1, aM1⟩ ?_
 rintro ⟨r32, i_33⟩ ⟨hM34, hr35, hi36, hi37, hk38⟩
 refine JJ_nx fun _ _ hL hA => ?_; dsimp only at hL hA; subst hL hA
 refine Fb 32 2 fun _ => Fb 24 3 fun _ => Fb 24 4 fun _ => Fb 32 5 fun _ => Fb 24 6 fun _ => Fb 24 7 fun _ => KS ?_
 refine Oq Vm (Oq (Vfa fo32_0 1) (Oq (VldF sh29 1) (Oq (Vlen sl29) (Oq Vlss (KS ?_)))))
 refine Kc ?_ ?_
 ·intro h45
  have g46 := dt h45
  obtain ⟨r47, rfl⟩ := scc (n := r32) aM1
  refine KS ?_
  refine JJ_peek_GNode i_33.toNat 2 rfl rng fun hb48 hb49 hb50 hb51 => ?_
  unfold i64ok at hb48 hb49 hb50 hb51
  refine JJ_peek_GNode i_33.toNat 6 rfl rng fun hb52 hb53 hb54 hb55 => ?_
  unfold i64ok at hb52 hb53 hb54 hb55
  refine Kq [0, 1, 0, 7, 15, 0, 32, 0, 224, 480, 1023] fmix ?_
  refine Qv [3] (Vfa fo32_0 0) (Qv [3] (VldF sh29 0) (Qv [] Vm (Qv [4] (Vi sl29 0) (Qv [1] (VldA sh41 0) (Qv [2] (Vfa fo32_0 0) (Qv [2] (VldF sh29 0) (Qv [] Vm (Qv [7] (Vi sl29 0) (Qv [0] (VldA sh41 0) ?_)))))))))
  refine Qv [] (VneA eqi41 (l := [(a.Nodes.getD i_33.toNat default).Kind, (a.Nodes.getD i_33.toNat default).Func, (a.Nodes.getD i_33.toNat default).Block, (a.Nodes.getD i_33.toNat default).Stmt]) (m := [(b.Nodes.getD i_33.toNat default).Kind, (b.Nodes.getD i_33.toNat default).Func, (b.Nodes.getD i_33.toNat default).Block, (b.Nodes.getD i_33.toNat default).Stmt])) ?_
  refine Qn ⟨by kernel_rfl, ?_⟩
  refine Kc ?_ ?_
  ·intro h56
   have g57 := ne_of_bne h56
   refine KS ?_
   refine Oq Va (KS ?_)
   have hR58 := q2 hM34 (.ret false) (by simp only [r7_SameGraph_L0, h9, h15, h20, h25, h30, h45, h56, hg13, hg23, cs4])
   have hq := q4 hrr false (by simp only [r7_SameGraph, h9, h15, h20, h25, h30, h45, h56, hg13, hg23, hR58, cs4]); subst hq
   exact Kr () rfl (.tmp rfl .nil) [] trivial
  intro h56
  have g59 := eq_of_bne_false h56
  refine KS ?_
  refine Oq Vm (Oq Vadd (Oq Va (KS ?_)))
  exact Kg (r47, (i_33 + 1)) [2, 3, 4, 5, 6, 7, 8, 9] ⟨(q3 hM34 (by simp only [r7_SameGraph_L0, h9, h15, h20, h25, h30, h45, h56, hg13, hg23, cs4])), aM1, aM1, aM1, aM1⟩
 intro h45
 have g60 := df h45
 obtain rfl : r32 = 0 := by omega
 refine Ke ?_
 have hR61 := q2 hM34 (.brk ()) (by simp only [r7_SameGraph_L0, h9, h15, h20, h25, h30, h45, hg13, hg23, cs4])
 refine KS ?_
 refine Oq Va (KS ?_)
 have hq := q4 hrr true (by simp only [r7_SameGraph, h9, h15, h20, h25, h30, h45, hg13, hg23, hR61, cs4]); subst hq
 exact Kr () rfl (.tmp rfl .nil) [] trivial
theorem fn6 (l : List Int) (la0 : Option Addr) (lk0 : Nat) (rr : Unit) (hrr : g_New l = rr) : FT Tryd.prog 6 #[vl la0 lk0 l] [S la0 lk0 l] (fun g : Value => True) (fun g => g) (fun g => [Cl g [vl la0 lk0 l, vi 0]]) := by
 refine FTi Tryd.func6 fun w0 M0 F0 => Fb 8 0 fun _ => Fo 0 fun ho2 => ?_
 refine KS ?_
 refine Oq Va (KS ?_)
 refine Oq Vm (Oq (Vbd st52 [vl la0 lk0 l, vi 0]) (Oa (AbO [vl la0 lk0 l, vi 0]) fun p3 => Oq Va (KS ?_)))
 have hq := q4 hrr () (by simp only [g_New, cs4]); subst hq
 exact Kr p3 rfl (.tmp rfl .nil) [0] trivial
theorem fn4 (t : List Int) (ta0 : Option Addr) (tk0 : Nat) (kwLA : Option Addr) (kwLK : Nat) (rr : Bool) (hrr : w8_GraphReverse t = rr) : FT Tryd.prog 4 #[vl ta0 tk0 t] [S ta0 tk0 t, pv (gp 0) [vl kwLA kwLK kwL], S kwLA kwLK kwL] (fun g : Unit => True) (fun g => vb rr) (fun g => []) := by
 refine FTi Tryd.func4 fun w0 M0 F0 => Fb 8 0 fun _ => Fo 0 fun ho2 => Fb 16 2 fun _ => ?_
 refine FoS 2 fun ho4 => ?_
 refine KS ?_
 refine Oq Va (KS ?_)
 refine Oq Vm ?_
 refine letv (g_New t) fun rv6 hg7 => ?_
 have hc8 := fn6 t ta0 tk0 rv6 hg7
 refine Oc [0] ca6 hc8 ?_
 rintro c5 -
 refine letv (tp_Graph t 0 9) fun rv12 hg13 => ?_
 have hc14 := fn13 c5 ta0 tk0 t 0 9 pre pre pre rv12 hg13
 refine Oc [0, 0] ca13 hc14 ?_
 rintro ⟨c9, c10, c11⟩ he15
 refine Jo 0 ?_; rintro a16 k17 rfl
 refine Fb 32 0 fun _ => ?_
 refine Jo 1 ?_; rintro a19 k20 rfl
 refine Fb 24 1 fun _ => ?_
 refine Jo 2 ?_; rintro a22 k23 rfl
 refine Fb 24 2 fun _ => ?_
 refine Oa (Al ze32 [.slice none 0 0, .slice none 0 0, .slice none 0 0]) fun p25 => Ost (Scl [0] sh32 [vl a16 k17 rv12.1.Nodes, vl a19 k20 rv12.1.Succ, vl a22 k23 rv12.1.Pred]) (KS ?_)
 refine Oq (VldA sh32 0) ?_
 refine letv (gh_Reverse rv12.1) fun rv29 hg30 => ?_
 have hc31 := fn14 rv12.1 a16 k17 a19 k20 a22 k23 rv29 hg30
 refine Oc [1, 2, 3] ca14 hc31 ?_
 rintro ⟨c26, c27, c28⟩ he32
 unfold i64ok at he32
 refine Jo 0 ?_; rintro a33 k34 rfl
 refine Fb 32 0 fun _ => ?_
 refine Jo 1 ?_; rintro a36 k37 rfl
 refine Fb 24 1 fun _ => ?_
 refine Jo 2 ?_; rintro a39 k40 rfl
 refine Fb 24 2 fun _ => ?_
 refine Oq Vm (Oq Vx (Oq Vx (Oa (Al ze32 [.slice none 0 0, .slice none 0 0, .slice none 0 0]) fun p42 => Ost (Scl [0] sh32 [vl a33 k34 rv29.1.Nodes, vl a36 k37 rv29.1.Succ, vl a39 k40 rv29.1.Pred]) (Oq Va (KS ?_)))))
 refine Oq (VldA sh32 0) ?_
 refine letv (gh_Reverse rv29.1) fun rv46 hg47 => ?_
 have hc48 := fn14 rv29.1 a33 k34 a36 k37 a39 k40 rv46 hg47
 refine Oc [1, 2, 3] ca14 hc48 ?_
 rintro ⟨c43, c44, c45⟩ he49
 unfold i64ok at he49
 refine Jo 0 ?_; rintro a50 k51 rfl
 refine Fb 32 0 fun _ => ?_
 refine Jo 1 ?_; rintro a53 k54 rfl
 refine Fb 24 1 fun _ => ?_
 refine Jo 2 ?_; rintro a56 k57 rfl
 refine Fb 24 2 fun _ => ?_
 refine Oq Vm (Oq Vx (Oq Vx (Oa (Al ze32 [.slice none 0 0, .slice none 0 0, .slice none 0 0]) fun p59 => Ost (Scl [0] sh32 [vl a50 k51 rv46.1.Nodes, vl a53 k54 rv46.1.Succ, vl a56 k57 rv46.1.Pred]) (Oq Va (KS ?_)))))
 refine JK_drawK [0, 1, 3, 7, 15, 31, 63, 127, 127, 511, 1023, 2047, 4095, 8191, 4095, 32767, 65535, 131071, 262143, 524287, 1048575, 2097151, 4194303, 8388607, 16777215, 33554431] fmix ?_
 refine Dv [] Vm (Dv [] Veql ?_)
 refine bool_split (rv29.2 == 0) ?_ ?_
 ·intro h60
  have g61 := eq_of_beq h60
  refine Db h60 [] Vm (Dv [] Vm (Dv [] Veql (Dv [] Vpt ?_)))
  refine bool_split (rv46.2 == 0) ?_ ?_
  ·intro h62
   have g63 := eq_of_beq h62
   refine Db h62 [] Vm (Dv [0] (VldA sh32 0) (Dv [8] (VldA sh32 0) ?_))
   refine letv (r7_SameGraph rv46.1 rv12.1) fun rv64 hg65 => ?_
   refine Dx [1, 2, 3, 9, 10, 11] [] [1, 2, 3, 4, 5, 6, 0] (fun G => vb rv64) [fun G => SP.fact (True)] (fun G => xC [0, 1, 2, 3, 4, 5] ca15 (fn15 rv46.1 a50 k51 a53 k54 a56 k57 rv12.1 a16 k17 a19 k20 a22 k23 rv64 hg65)) (Dv [] Vpt ?_)
   refine bool_split rv64 ?_ ?_
   ·intro h66
    refine Db h66 [] Vm (Dv [4] (VldA sh32 0) ?_)
    refine letv (gh_Edges rv29.1) fun rv68 hg69 => ?_
    refine Dx [5, 6, 7] [] [1, 2, 3, 0] (fun G => vi rv68) [fun G => SP.fact (i64ok rv68)] (fun G => xC [0, 1, 2] ca11 (fn11 rv29.1 a33 k34 a36 k37 a39 k40 rv68 hg69)) (Dv [8] (VldA sh32 0) ?_)
    refine letv (gh_Edges rv12.1) fun rv70 hg71 => ?_
    refine Dx [9, 10, 11] [] [1, 2, 3, 0] (fun G => vi rv70) [fun G => SP.fact (i64ok rv70)] (fun G => xC [0, 1, 2] ca11 (fn11 rv12.1 a16 k17 a19 k20 a22 k23 rv70 hg71)) (Dv [] Veql (Dv [] Vpt ?_))
    refine bool_split (rv68 == rv70) ?_ ?_
    ·intro h72
     have g73 := eq_of_beq h72
     refine Db h72 [] Vm (Dv [4] (VldA sh32 0) ?_)
     refine letv (gh_Valid rv29.1) fun rv74 hg75 => ?_
     refine Dx [5, 6, 7] [] [1, 2, 3, 0] (fun G => vb rv74) [fun G => SP.fact (True)] (fun G => xC [0, 1, 2] ca10 (fn10 rv29.1 a33 k34 a36 k37 a39 k40 rv74 hg75)) (Dv [] Vpt ?_)
     refine bool_split rv74 ?_ ?_
     ·intro h76
      refine Db h76 [] Vm (Dx [14, 15] [] [1, 2, 0] (fun G => vb w8_sane) [fun G => SP.fact (True)] (fun G => xC [0, 1] ca12 (fn12 kwLA kwLK w8_sane rfl)) (Dv [] Vpt (Dv [] Va ?_)))
      refine Dn ⟨by kernel_rfl, fun G => ?_⟩
      refine Jw2 [(2, vb w8_sane)] [0, 1, 2, 3, 4, 5, 6, 7, 8, 9, 10, 11, 12, 13, 14, 15] [SP.fact (True), SP.fact (i64ok rv68), SP.fact (i64ok rv70), SP.fact (True), SP.fact (True)] ?_
      refine Jf 17 rfl ?_; rintro he78
      unfold i64ok at he78
      refine Jf 18 rfl ?_; rintro he79
      unfold i64ok at he79
      refine Jk [0, 0, 1, 2, 3, 3, 4, 5, 6, 6, 7, 8, 9, 9, 10, 11] ?_
      have hq := q4 hrr w8_sane (by simp only [w8_GraphReverse, h60, h62, h66, h72, h76, hg7, hg13, hg30, hg47, hg65, hg69, hg71, hg75, cs4]); subst hq
      exact Kr () rfl (.tmp rfl .nil) [] trivial
     intro h76
     refine Db h76 [] Vm (Ds (Dv [] Vpf (Dv [] Va ?_)))
     refine Dn ⟨by kernel_rfl, fun G => ?_⟩
     refine Jw2 [(2, vb false)] [0, 1, 2, 3, 4, 5, 6, 7, 8, 9, 10, 11, 12, 13, 14, 15] [SP.fact (True), SP.fact (i64ok rv68), SP.fact (i64ok rv70), SP.fact (True)] ?_
     refine Jf 17 rfl ?_; rintro he81
     unfold i64ok at he81
     refine Jf 18 rfl ?_; rintro he82
     unfold i64ok at he82
     refine Jk [0, 0, 1, 2, 3, 3, 4, 5, 6, 6, 7, 8, 9, 9, 10, 11] ?_
     have hq := q4 hrr false (by simp only [w8_GraphReverse, h60, h62, h66, h72, h76, hg7, hg13, hg30, hg47, hg65, hg69, hg71, hg75, cs4]); subst hq
     exact Kr () rfl (.tmp rfl .nil) [] trivial
    intro h72
    have g83 := ne_of_beq_false h72
    refine Db h72 [] Vm (Ds (Ds (Dv [] Vpf (Dv [] Vm (Ds (Dv [] Vpf (Dv [] Va ?_)))))))
    refine Dn ⟨by kernel_rfl, fun G => ?_⟩
    refine Jw2 [(2, vb false)] [0, 1, 2, 3, 4, 5, 6, 7, 8, 9, 10, 11, 12, 13, 14, 15] [SP.fact (True), SP.fact (i64ok rv68), SP.fact (i64ok rv70)] ?_
    refine Jf 17 rfl ?_; rintro he84
    unfold i64ok at he84
    refine Jf 18 rfl ?_; rintro he85
    unfold i64ok at he85
    refine Jk [0, 0, 1, 2, 3, 3, 4, 5, 6, 6, 7, 8, 9, 9, 10, 11] ?_
    have hq := q4 hrr false (by simp only [w8_GraphReverse, h60, h62, h66, h72, hg7, hg13, hg30, hg47, hg65, hg69, hg71, cs4]); subst hq
    exact Kr () rfl (.tmp rfl .nil) [] trivial
   intro h66
   refine Db h66 [] Vm (Ds (Ds (Ds (Ds (Ds (Dv [] Vpf (Dv [] Vm (Ds (Ds ?_)))))))))
   refine Dv [] Vpf (Dv [] Vm (Ds (Dv [] Vpf (Dv [] Va ?_))))
   refine Dn ⟨by kernel_rfl, fun G => ?_⟩
   refine Jw2 [(2, vb false)] [0, 1, 2, 3, 4, 5, 6, 7, 8, 9, 10, 11, 12, 13, 14, 15] [SP.fact (True)] ?_
   refine Jk [0, 0, 1, 2, 3, 3, 4, 5, 6, 6, 7, 8, 9, 9, 10, 11] ?_
   have hq := q4 hrr false (by simp only [w8_GraphReverse, h60, h62, h66, hg7, hg13, hg30, hg47, hg65, cs4]); subst hq
   exact Kr () rfl (.tmp rfl .nil) [] trivial
  intro h62
  have g87 := ne_of_beq_false h62
  refine Db h62 [] Vm (Ds (Ds (Ds (Dv [] Vpf (Dv [] Vm (Ds (Ds (Ds (Ds ?_)))))))))
  refine Ds (Dv [] Vpf (Dv [] Vm (Ds (Ds (Dv [] Vpf (Dv [] Vm (Ds (Dv [] Vpf (Dv [] Va ?_)))))))))
  refine Dn ⟨by kernel_rfl, fun G => ?_⟩
  refine Jw2 [(2, vb false)] [0, 1, 2, 3, 4, 5, 6, 7, 8, 9, 10, 11, 12, 13, 14, 15] [] ?_
  have hq := q4 hrr false (by simp only [w8_GraphReverse, h60, h62, hg7, hg13, hg30, hg47, cs4]); subst hq
  exact Kr () rfl (.tmp rfl .nil) [] trivial
 intro h60
 have g88 := ne_of_beq_false h60
 refine Db h60 [] Vm (Ds (Ds (Dv [] Vpf (Dv [] Vm (Ds (Ds (Ds (Dv [] Vpf (Dv [] Vm ?_)))))))))
 refine Ds (Ds (Ds (Ds (Ds (Dv [] Vpf (Dv [] Vm (Ds (Ds (Dv [] Vpf ?_)))))))))
 refine Dv [] Vm (Ds (Dv [] Vpf (Dv [] Va ?_)))
 refine Dn ⟨by kernel_rfl, fun G => ?_⟩
 refine Jw2 [(2, vb false)] [0, 1, 2, 3, 4, 5, 6, 7, 8, 9, 10, 11, 12, 13, 14, 15] [] ?_
 have hq := q4 hrr false (by simp only [w8_GraphReverse, h60, hg7, hg13, hg30, hg47, cs4]); subst hq
 exact Kr () rfl (.tmp rfl .nil) [] trivial
end Go.SL.G
