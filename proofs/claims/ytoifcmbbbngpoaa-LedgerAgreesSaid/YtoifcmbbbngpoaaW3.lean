/- Part 3 of the walks: mirrors, plain laws and walks used by the last text of this claim. -/
import Derived.Test.YtoifcmbbbngpoaaW2
import Derived.Test.YtoifcmbbbngpoaaProg
set_option linter.unusedVariables false
set_option linter.unusedSimpArgs false
namespace Go.SL.G
open Go Go.SL Go.Proofs
set_option maxHeartbeats 20000000
set_option maxRecDepth 100000
theorem fn50 (rP : Value) (r : BitVec 64) (rr : BitVec 64 × BitVec 64) (hrr : xorshift_Next r = rr) : FT Try.prog 50 #[rP] [Cl rP [u64 r]] (fun g : Unit => True) (fun g => u64 rr.1) (fun g => [Cl rP [u64 rr.2]]) := by
 refine FTi Try.func50 fun w0 M0 F0 => ?_
 refine KS ?_
 refine Oq Va (KS ?_)
 refine Jp 0 fun hp1 => ?_
 refine JK_drawK [0, 1, 3, 0, 8, 24, 56, 127, 255, 511] fmix ?_
 refine Dv [] Vm (Dv [0] (Vn 0) (Dv [1] (Vld sh69 0) (Dv [] Vm (Dv [0] (Vn 0) (Dv [1] (Vld sh69 0) (Dv [] VshlU (Dv [] VxorU (Dv [0] (Vn 0) (Dx0 [1] [1] [0] [fun G => Cl rP [u64 (r ^^^ (r <<< (((13#64).toNat : Int)).toNat))]] (fun G => xS (Scl [0] sh69 [u64 (r ^^^ (r <<< (((13#64).toNat : Int)).toNat))])) ?_)))))))))
 refine Dn ⟨by kernel_rfl, fun G => ?_⟩
 refine Jw2 [(0, rP)] [0] [Cl rP [u64 (r ^^^ (r <<< (((13#64).toNat : Int)).toNat))]] ?_
 refine Jk [1] ?_
 refine KS ?_
 refine Jp 0 fun hp2 => ?_
 refine JK_drawK [0, 1, 3, 0, 8, 24, 56, 127, 255, 511] fmix ?_
 refine Dv [] Vm (Dv [0] (Vn 0) (Dv [1] (Vld sh69 0) (Dv [] Vm (Dv [0] (Vn 0) (Dv [1] (Vld sh69 0) (Dv [] VshrU (Dv [] VxorU (Dv [0] (Vn 0) (Dx0 [1] [1] [0] [fun G => Cl rP [u64 ((r ^^^ (r <<< (((13#64).toNat : Int)).toNat)) ^^^ ((r ^^^ (r <<< (((13#64).toNat : Int)).toNat)) >>> (((7#64).toNat : Int)).toNat))]] (fun G => xS (Scl [0] sh69 [u64 ((r ^^^ (r <<< (((13#64).toNat : Int)).toNat)) ^^^ ((r ^^^ (r <<< (((13#64).toNat : Int)).toNat)) >>> (((7#64).toNat : Int)).toNat))])) ?_)))))))))
 refine Dn ⟨by kernel_rfl, fun G => ?_⟩
 refine Jw2 [(0, rP)] [0] [Cl rP [u64 ((r ^^^ (r <<< (((13#64).toNat : Int)).toNat)) ^^^ ((r ^^^ (r <<< (((13#64).toNat : Int)).toNat)) >>> (((7#64).toNat : Int)).toNat))]] ?_
 refine Jk [1] ?_
 refine KS ?_
 refine Jp 0 fun hp3 => ?_
 refine JK_drawK [0, 1, 3, 0, 8, 24, 56, 127, 255, 511] fmix ?_
 refine Dv [] Vm (Dv [0] (Vn 0) (Dv [1] (Vld sh69 0) (Dv [] Vm (Dv [0] (Vn 0) (Dv [1] (Vld sh69 0) (Dv [] VshlU (Dv [] VxorU (Dv [0] (Vn 0) (Dx0 [1] [1] [0] [fun G => Cl rP [u64 (((r ^^^ (r <<< (((13#64).toNat : Int)).toNat)) ^^^ ((r ^^^ (r <<< (((13#64).toNat : Int)).toNat)) >>> (((7#64).toNat : Int)).toNat)) ^^^ (((r ^^^ (r <<< (((13#64).toNat : Int)).toNat)) ^^^ ((r ^^^ (r <<< (((13#64).toNat : Int)).toNat)) >>> (((7#64).toNat : Int)).toNat)) <<< (((17#64).toNat : Int)).toNat))]] (fun G => xS (Scl [0] sh69 [u64 (((r ^^^ (r <<< (((13#64).toNat : Int)).toNat)) ^^^ ((r ^^^ (r <<< (((13#64).toNat : Int)).toNat)) >>> (((7#64).toNat : Int)).toNat)) ^^^ (((r ^^^ (r <<< (((13#64).toNat : Int)).toNat)) ^^^ ((r ^^^ (r <<< (((13#64).toNat : Int)).toNat)) >>> (((7#64).toNat : Int)).toNat)) <<< (((17#64).toNat : Int)).toNat))])) ?_)))))))))
 refine Dn ⟨by kernel_rfl, fun G => ?_⟩
 refine Jw2 [(0, rP)] [0] [Cl rP [u64 (((r ^^^ (r <<< (((13#64).toNat : Int)).toNat)) ^^^ ((r ^^^ (r <<< (((13#64).toNat : Int)).toNat)) >>> (((7#64).toNat : Int)).toNat)) ^^^ (((r ^^^ (r <<< (((13#64).toNat : Int)).toNat)) ^^^ ((r ^^^ (r <<< (((13#64).toNat : Int)).toNat)) >>> (((7#64).toNat : Int)).toNat)) <<< (((17#64).toNat : Int)).toNat))]] ?_
 refine Jk [1] ?_
 refine KS ?_
 refine Oq Vm (Oq (Vn 0) (Oq (Vld sh69 0) (Oq Va (KS ?_))))
 have hq := q4 hrr ((((r ^^^ (r <<< (((13#64).toNat : Int)).toNat)) ^^^ ((r ^^^ (r <<< (((13#64).toNat : Int)).toNat)) >>> (((7#64).toNat : Int)).toNat)) ^^^ (((r ^^^ (r <<< (((13#64).toNat : Int)).toNat)) ^^^ ((r ^^^ (r <<< (((13#64).toNat : Int)).toNat)) >>> (((7#64).toNat : Int)).toNat)) <<< (((17#64).toNat : Int)).toNat)), (((r ^^^ (r <<< (((13#64).toNat : Int)).toNat)) ^^^ ((r ^^^ (r <<< (((13#64).toNat : Int)).toNat)) >>> (((7#64).toNat : Int)).toNat)) ^^^ (((r ^^^ (r <<< (((13#64).toNat : Int)).toNat)) ^^^ ((r ^^^ (r <<< (((13#64).toNat : Int)).toNat)) >>> (((7#64).toNat : Int)).toNat)) <<< (((17#64).toNat : Int)).toNat))) (by simp only [xorshift_Next, cs4]); subst hq
 exact Kr () rfl (.tmp rfl .nil) [0] trivial
theorem fn39 (data : List GAccount) (dataa0 : Option Addr) (datak0 : Nat) (a : Int) (b : Int) (cmpF : FuncId) (cmpC : List Value) (cmpp : GAccount → GAccount → Int) (cmpA : List SP) (ha_0 : i64ok a) (hb_0 : i64ok b) (hcmpc : callable Try.prog cmpF = true) (hcmpF : ∀ x0 x1, i64ok x0.Query → i64ok x0.Turns → i64ok x0.Steps → i64ok x0.Cost → i64ok x1.Query → i64ok x1.Turns → i64ok x1.Steps → i64ok x1.Cost → FT Try.prog cmpF ([(.agg #[vi x0.Query, vi x0.Turns, vi x0.Steps, vi x0.Cost] : Value), (.agg #[vi x1.Query, vi x1.Turns, vi x1.Steps, vi x1.Cost] : Value)] ++ cmpC).toArray ([] ++ [pAll cmpA]) (fun _ : Unit => i64ok (cmpp x0 x1)) (fun _ => vi (cmpp x0 x1)) (fun _ => [])) (ha0 : 0 ≤ a ∧ a ≤ b ∧ b ≤ (data.length : Int) ∧ data.length ≤ 65535) (rr : List GAccount) (hrr : slices_breakPatternsCmpFunc_Account data a b cmpp = rr) : FT Try.prog 39 #[vl dataa0 datak0 data, vi a, vi b, .func (.func cmpF) #[] cmpC.toArray] [O dataa0 datak0 data, pAll cmpA] (fun g : Unit => (rr.length = data.length)) (fun g => .tuple #[]) (fun g => [os (vl dataa0 datak0 data) rr]) := by
 refine FTi Try.func39 fun w0 M0 F0 => ?_
 unfold i64ok at ha_0 hb_0
 refine Fb 32 0 fun hl1 => ?_
 refine KS ?_
 refine Oq Vm (Oq Vm (Oq Vsub (Oq Va (KS ?_))))
 refine Oq Vm (Oq Vgeq (KS ?_))
 refine Kc ?_ ?_
 · intro h2
   have g3 := of_decide_eq_true h2
   refine KS ?_
   refine Oq Vm (Oq (VcU un3 un69) (Oa (Al ze69 [u64 (0#64)]) fun p4 => Ost (Scl [0] sh69 [u64 (BitVec.ofInt 64 (b - a))]) (KS ?_)))
   refine Oq Vm ?_
   refine letv (slices_nextPowerOfTwo (b - a)) fun rv5 hg6 => ?_
   have hmd := npt_f hg6 (by omega)
   have hc7 := fn49 ((b - a)) pre pre rv5 hg6
   refine Oc [] ca49 hc7 ?_
   rintro - -
   refine Oq Va (KS ?_)
   refine Oq Vm (Oq Vm (Oq Vquo (Oq Vmul (Oq Vadd (Oq Vsub (Oq Va (KS ?_)))))))
   have hterm15 : slices_breakPatternsCmpFunc_Account_L0 a b rv5 4 data (BitVec.ofInt 64 (b - a)) ((a + (((b - a) / 4) * 2)) - 1) ≠ LR.oof := (bp_t _ _ _ _ (by omega) (by omega))
   refine Kl (γ := Nat × List GAccount × BitVec 64 × Int) (fun (r8, data_9, random0_10, idx_11) => ⟨[(0, vl dataa0 datak0 data), (1, vi a), (8, vi (b - a)), (9, p4), (10, u64 rv5), (11, vi idx_11)], [Cl p4 [u64 random0_10], os (vl dataa0 datak0 data) data_9, pAll cmpA], slices_breakPatternsCmpFunc_Account_L0 a b rv5 r8 data_9 random0_10 idx_11 = slices_breakPatternsCmpFunc_Account_L0 a b rv5 4 data (BitVec.ofInt 64 (b - a)) ((a + (((b - a) / 4) * 2)) - 1) ∧ (-9223372036854775808 ≤ idx_11 ∧ idx_11 ≤ 9223372036854775807) ∧ (a + (b - a) / 4 * 2 - 1 ≤ idx_11 ∧ idx_11 ≤ a + (b - a) / 4 * 2 + 2), r8⟩) (4, data, (BitVec.ofInt 64 (b - a)), ((a + (((b - a) / 4) * 2)) - 1)) [0, 0, 0] ⟨rfl, (by omega), iv0⟩ ?_
   rintro ⟨r8, data_9, random0_10, idx_11⟩ ⟨hM12, hk13, hv14⟩
   refine JJ_nx fun _ _ hL hA => ?_; dsimp only at hL hA; subst hL hA
   refine Fb 32 1 fun hl16 => ?_
   refine Fl 1 fun hn17 => ?_
   rcases r8 with _ | r8
   · exact absurd (hM12.symm.trans rfl) hterm15
   refine KS ?_
   refine Oq Vm (Oq Vm (Oq Vm (Oq Vquo (Oq Vmul (Oq Vadd (Oq Vadd (Oq Vleq (KS ?_))))))))
   refine Kc ?_ ?_
   · intro h18
     have g19 := of_decide_eq_true h18
     refine KS ?_
     refine letv (xorshift_Next random0_10) fun rv20 hg21 => ?_
     have hal := and_lt (x := rv20.1) hmd.1
     have hc22 := fn50 p4 random0_10 rv20 hg21
     refine Oc [0] ca50 hc22 ?_
     rintro - -
     refine Oq Vm (Oq (VsubU (b := 1#64)) (Oq VandU (Oq (VcN un54 un3) (Oq Va (KS ?_)))))
     refine Oq Vm (Oq Vm (Oq Vgeq (KS ?_)))
     refine Kc ?_ ?_
     · intro h23
       have g24 := of_decide_eq_true h23
       refine KS ?_
       refine Oq Vm (Oq Vm (Oq Vsub (Oq Va (KS ?_))))
       refine JJ_peekO_GAccount ((a + (((rv20.1 &&& (rv5 - 1#64)).toNat : Int) - (b - a))) : Int).toNat 1 rfl rng fun hb25 hb26 hb27 hb28 => ?_
       unfold i64ok at hb25 hb26 hb27 hb28
       refine JJ_peekO2_GAccount idx_11.toNat 0 rfl rng fun hb29 hb30 hb31 hb32 => ?_
       unfold i64ok at hb29 hb30 hb31 hb32
       refine JK_drawK [0, 0, 0, 0, 0, 24, 0, 0, 0, 384, 960, 1984, 0, 0, 12288, 28672, 65475, 131011, 262143, 524287] fmix ?_
       refine Dv [] Vm (Dv [] Vm (Dv [] Vm (Dv [] Vm (Dv [] Vm (Dv [] Vadd (Dv [] Vm (Dv [] Vm (Dv [] Vm (Dv [] Vadd ?_)))))))))
       refine Dv [0] (Vi sl35 0) (Dv [0] (VldA sh38 0) (Dv [] Vm (Dv [] Vm (Dv [0] (Vi sl35 0) (Dv [0] (VldA sh38 0) (Dv [0] (Vi sl35 0) ?_))))))
       refine Dx0 [0] [0] [0] [fun G => os (vl dataa0 datak0 data) (data_9.set idx_11.toNat (data_9.getD ((a + (((rv20.1 &&& (rv5 - 1#64)).toNat : Int) - (b - a))) : Int).toNat default))] (fun G => xp [0] rfl (Ent.oread2 _ _ _ _ _ _) (xS (So (Rs := []) [0] sh38 (data_9.getD ((a + (((rv20.1 &&& (rv5 - 1#64)).toNat : Int) - (b - a))) : Int).toNat default) (fun h => ⟨rfl, (by unfold i64ok; first | omega | (dsimp only; omega)), (by unfold i64ok; first | omega | (dsimp only; omega)), (by unfold i64ok; first | omega | (dsimp only; omega)), (by unfold i64ok; first | omega | (dsimp only; omega))⟩)))) (Dv [3] (Vi sl35 0) ?_)
       refine Dx0 [3] [3] [0] [fun G => os (vl dataa0 datak0 data) ((data_9.set idx_11.toNat (data_9.getD ((a + (((rv20.1 &&& (rv5 - 1#64)).toNat : Int) - (b - a))) : Int).toNat default)).set ((a + (((rv20.1 &&& (rv5 - 1#64)).toNat : Int) - (b - a))) : Int).toNat (data_9.getD idx_11.toNat default))] (fun G => xS (So (Rs := []) [0] sh38 (data_9.getD idx_11.toNat default) (fun h => ⟨rfl, (by unfold i64ok; first | omega | (dsimp only; omega)), (by unfold i64ok; first | omega | (dsimp only; omega)), (by unfold i64ok; first | omega | (dsimp only; omega)), (by unfold i64ok; first | omega | (dsimp only; omega))⟩))) ?_
       refine Dn ⟨by kernel_rfl, fun G => ?_⟩
       refine Jw2 [(0, vl dataa0 datak0 data), (1, vi a), (8, vi (b - a)), (9, p4), (10, u64 rv5), (11, vi idx_11)] [1, 2] [os (vl dataa0 datak0 data) ((data_9.set idx_11.toNat (data_9.getD ((a + (((rv20.1 &&& (rv5 - 1#64)).toNat : Int) - (b - a))) : Int).toNat default)).set ((a + (((rv20.1 &&& (rv5 - 1#64)).toNat : Int) - (b - a))) : Int).toNat (data_9.getD idx_11.toNat default))] ?_
       refine KS ?_
       refine Oq Vm (Oq Vadd (Oq Va (KS ?_)))
       exact Kg (r8, ((data_9.set idx_11.toNat (data_9.getD ((a + (((rv20.1 &&& (rv5 - 1#64)).toNat : Int) - (b - a))) : Int).toNat default)).set ((a + (((rv20.1 &&& (rv5 - 1#64)).toNat : Int) - (b - a))) : Int).toNat (data_9.getD idx_11.toNat default)), rv20.2, (idx_11 + 1)) [0, 1, 0] ⟨(q3 hM12 (by simp only [slices_breakPatternsCmpFunc_Account_L0, h18, h23, hg21, cs4])), (by omega), iv1⟩
     intro h23
     have g33 := of_decide_eq_false h23
     refine KS ?_
     refine JJ_peekO_GAccount ((a + ((rv20.1 &&& (rv5 - 1#64)).toNat : Int)) : Int).toNat 1 rfl rng fun hb34 hb35 hb36 hb37 => ?_
     unfold i64ok at hb34 hb35 hb36 hb37
     refine JJ_peekO2_GAccount idx_11.toNat 0 rfl rng fun hb38 hb39 hb40 hb41 => ?_
     unfold i64ok at hb38 hb39 hb40 hb41
     refine JK_drawK [0, 0, 0, 0, 0, 24, 0, 0, 0, 384, 960, 1984, 0, 0, 12288, 28672, 65475, 131011, 262143, 524287] fmix ?_
     refine Dv [] Vm (Dv [] Vm (Dv [] Vm (Dv [] Vm (Dv [] Vm (Dv [] Vadd (Dv [] Vm (Dv [] Vm (Dv [] Vm (Dv [] Vadd ?_)))))))))
     refine Dv [0] (Vi sl35 0) (Dv [0] (VldA sh38 0) (Dv [] Vm (Dv [] Vm (Dv [0] (Vi sl35 0) (Dv [0] (VldA sh38 0) (Dv [0] (Vi sl35 0) ?_))))))
     refine Dx0 [0] [0] [0] [fun G => os (vl dataa0 datak0 data) (data_9.set idx_11.toNat (data_9.getD ((a + ((rv20.1 &&& (rv5 - 1#64)).toNat : Int)) : Int).toNat default))] (fun G => xp [0] rfl (Ent.oread2 _ _ _ _ _ _) (xS (So (Rs := []) [0] sh38 (data_9.getD ((a + ((rv20.1 &&& (rv5 - 1#64)).toNat : Int)) : Int).toNat default) (fun h => ⟨rfl, (by unfold i64ok; first | omega | (dsimp only; omega)), (by unfold i64ok; first | omega | (dsimp only; omega)), (by unfold i64ok; first | omega | (dsimp only; omega)), (by unfold i64ok; first | omega | (dsimp only; omega))⟩)))) (Dv [3] (Vi sl35 0) ?_)
     refine Dx0 [3] [3] [0] [fun G => os (vl dataa0 datak0 data) ((data_9.set idx_11.toNat (data_9.getD ((a + ((rv20.1 &&& (rv5 - 1#64)).toNat : Int)) : Int).toNat default)).set ((a + ((rv20.1 &&& (rv5 - 1#64)).toNat : Int)) : Int).toNat (data_9.getD idx_11.toNat default))] (fun G => xS (So (Rs := []) [0] sh38 (data_9.getD idx_11.toNat default) (fun h => ⟨rfl, (by unfold i64ok; first | omega | (dsimp only; omega)), (by unfold i64ok; first | omega | (dsimp only; omega)), (by unfold i64ok; first | omega | (dsimp only; omega)), (by unfold i64ok; first | omega | (dsimp only; omega))⟩))) ?_
     refine Dn ⟨by kernel_rfl, fun G => ?_⟩
     refine Jw2 [(0, vl dataa0 datak0 data), (1, vi a), (8, vi (b - a)), (9, p4), (10, u64 rv5), (11, vi idx_11)] [1, 2] [os (vl dataa0 datak0 data) ((data_9.set idx_11.toNat (data_9.getD ((a + ((rv20.1 &&& (rv5 - 1#64)).toNat : Int)) : Int).toNat default)).set ((a + ((rv20.1 &&& (rv5 - 1#64)).toNat : Int)) : Int).toNat (data_9.getD idx_11.toNat default))] ?_
     refine KS ?_
     refine Oq Vm (Oq Vadd (Oq Va (KS ?_)))
     exact Kg (r8, ((data_9.set idx_11.toNat (data_9.getD ((a + ((rv20.1 &&& (rv5 - 1#64)).toNat : Int)) : Int).toNat default)).set ((a + ((rv20.1 &&& (rv5 - 1#64)).toNat : Int)) : Int).toNat (data_9.getD idx_11.toNat default)), rv20.2, (idx_11 + 1)) [0, 1, 0] ⟨(q3 hM12 (by simp only [slices_breakPatternsCmpFunc_Account_L0, h18, h23, hg21, cs4])), (by omega), iv1⟩
   intro h18
   have g42 := of_decide_eq_false h18
   refine Ke ?_
   have hR43 := q2 hM12 (.brk data_9) (by simp only [slices_breakPatternsCmpFunc_Account_L0, h18, cs4])
   refine Fl 1 fun hn44 => ?_
   have hq := q4 hrr data_9 (by simp only [slices_breakPatternsCmpFunc_Account, h2, h18, hg6, hR43, cs4]); subst hq
   exact Kz () rfl .nil [1] en
 intro h2
 have g45 := of_decide_eq_false h2
 refine KS ?_
 have hq := q4 hrr data (by simp only [slices_breakPatternsCmpFunc_Account, h2, cs4]); subst hq
 exact Kz () rfl .nil [0] en
theorem fn53 (data : List GAccount) (dataa0 : Option Addr) (datak0 : Nat) (a : Int) (b : Int) (swapsP : Value) (swaps : Int) (cmpF : FuncId) (cmpC : List Value) (cmpp : GAccount → GAccount → Int) (cmpA : List SP) (ha_0 : i64ok a) (hb_0 : i64ok b) (hswaps_0 : i64ok swaps) (hcmpc : callable Try.prog cmpF = true) (hcmpF : ∀ x0 x1, i64ok x0.Query → i64ok x0.Turns → i64ok x0.Steps → i64ok x0.Cost → i64ok x1.Query → i64ok x1.Turns → i64ok x1.Steps → i64ok x1.Cost → FT Try.prog cmpF ([(.agg #[vi x0.Query, vi x0.Turns, vi x0.Steps, vi x0.Cost] : Value), (.agg #[vi x1.Query, vi x1.Turns, vi x1.Steps, vi x1.Cost] : Value)] ++ cmpC).toArray ([] ++ [pAll cmpA]) (fun _ : Unit => i64ok (cmpp x0 x1)) (fun _ => vi (cmpp x0 x1)) (fun _ => [])) (ha0 : 0 ≤ a ∧ a < (data.length : Int) ∧ 0 ≤ b ∧ b < (data.length : Int)) (hs0 : 0 ≤ swaps ∧ swaps ≤ 1000) (rr : Int × Int × Int) (hrr : slices_order2CmpFunc_Account data a b swaps cmpp = rr) : FT Try.prog 53 #[vl dataa0 datak0 data, vi a, vi b, swapsP, .func (.func cmpF) #[] cmpC.toArray] [S dataa0 datak0 data, Cl swapsP [vi swaps], pAll cmpA] (fun g : Unit => i64ok rr.1 ∧ i64ok rr.2.1 ∧ i64ok rr.2.2 ∧ ((rr.1 = a ∧ rr.2.1 = b) ∨ (rr.1 = b ∧ rr.2.1 = a)) ∧ (0 ≤ rr.2.2 ∧ rr.2.2 ≤ swaps + 1)) (fun g => .tuple #[vi rr.1, vi rr.2.1]) (fun g => [Cl swapsP [vi rr.2.2]]) := by
 refine FTi Try.func53 fun w0 M0 F0 => ?_
 unfold i64ok at ha_0 hb_0 hswaps_0
 refine Fb 32 0 fun hl1 => ?_
 refine KS ?_
 refine Oq Va (Oq Va (KS ?_))
 refine JJ_peek_GAccount b.toNat 0 rfl rng fun hb2 hb3 hb4 hb5 => ?_
 unfold i64ok at hb2 hb3 hb4 hb5
 refine JJ_peek_GAccount a.toNat 1 rfl rng fun hb6 hb7 hb8 hb9 => ?_
 unfold i64ok at hb6 hb7 hb8 hb9
 refine JK_drawK [0, 0, 0, 6, 14, 0, 0, 96, 224, 511, 1023] fmix ?_
 refine Dv [] Vm (Dv [] Vm (Dv [] Vm (Dv [2] (Vi sl35 0) (Dv [1] (VldA sh38 0) (Dv [] Vm (Dv [] Vm (Dv [2] (Vi sl35 0) (Dv [0] (VldA sh38 0) (Dx [4] [] [1, 0] (fun G => vi (cmpp (data.getD b.toNat default) (data.getD a.toNat default))) [fun G => SP.fact (i64ok (cmpp (data.getD b.toNat default) (data.getD a.toNat default)))] (fun G => xE («as» := [(.agg #[vi ((data.getD b.toNat default).Query), vi ((data.getD b.toNat default).Turns), vi ((data.getD b.toNat default).Steps), vi ((data.getD b.toNat default).Cost)] : Value), (.agg #[vi ((data.getD a.toNat default).Query), vi ((data.getD a.toNat default).Turns), vi ((data.getD a.toNat default).Steps), vi ((data.getD a.toNat default).Cost)] : Value)] ++ cmpC) [0] hcmpc rfl rfl rfl (by simp) rfl (hcmpF (data.getD b.toNat default) (data.getD a.toNat default)  pre pre pre pre pre pre pre pre)) ?_)))))))))
 refine Dv [] Vlss ?_
 refine Dn ⟨by kernel_rfl, fun G => ?_⟩
 refine Jw2 [(1, vi a), (2, vi b), (3, swapsP), (22, vb (decide ((cmpp (data.getD b.toNat default) (data.getD a.toNat default)) < 0)))] [0, 1, 2, 3, 4] [SP.fact (i64ok (cmpp (data.getD b.toNat default) (data.getD a.toNat default)))] ?_
 refine Jf 5 rfl ?_; rintro he10
 unfold i64ok at he10
 refine Jk [0, 1, 2, 3, 3] ?_
 refine Kc ?_ ?_
 · intro h11
   have g12 := of_decide_eq_true h11
   refine KS ?_
   refine Oq Vm (Oq (Vn 3) (Oq (Vld sh3 3) (Oq Vadd (Oq (Vn 3) (Ost (Scl [3] sh3 [vi (swaps + 1)]) (KS ?_))))))
   refine Oq Vm (Oq Vm (Oq Va (Oq Va (KS ?_))))
   have hq := q4 hrr (b, a, (swaps + 1)) (by simp only [slices_order2CmpFunc_Account, h11, cs4]); subst hq
   exact Kr () rfl (.tmp rfl (.tmp rfl .nil)) [0] en
 intro h11
 have g13 := of_decide_eq_false h11
 refine KS ?_
 refine Oq Vm (Oq Vm (Oq Va (Oq Va (KS ?_))))
 have hq := q4 hrr (a, b, swaps) (by simp only [slices_order2CmpFunc_Account, h11, cs4]); subst hq
 exact Kr () rfl (.tmp rfl (.tmp rfl .nil)) [3] en
theorem fn52 (data : List GAccount) (dataa0 : Option Addr) (datak0 : Nat) (a : Int) (b : Int) (c : Int) (swapsP : Value) (swaps : Int) (cmpF : FuncId) (cmpC : List Value) (cmpp : GAccount → GAccount → Int) (cmpA : List SP) (ha_0 : i64ok a) (hb_0 : i64ok b) (hc_0 : i64ok c) (hswaps_0 : i64ok swaps) (hcmpc : callable Try.prog cmpF = true) (hcmpF : ∀ x0 x1, i64ok x0.Query → i64ok x0.Turns → i64ok x0.Steps → i64ok x0.Cost → i64ok x1.Query → i64ok x1.Turns → i64ok x1.Steps → i64ok x1.Cost → FT Try.prog cmpF ([(.agg #[vi x0.Query, vi x0.Turns, vi x0.Steps, vi x0.Cost] : Value), (.agg #[vi x1.Query, vi x1.Turns, vi x1.Steps, vi x1.Cost] : Value)] ++ cmpC).toArray ([] ++ [pAll cmpA]) (fun _ : Unit => i64ok (cmpp x0 x1)) (fun _ => vi (cmpp x0 x1)) (fun _ => [])) (ha0 : 0 ≤ a ∧ a < (data.length : Int) ∧ 0 ≤ b ∧ b < (data.length : Int) ∧ 0 ≤ c ∧ c < (data.length : Int)) (hs0 : 0 ≤ swaps ∧ swaps ≤ 900) (rr : Int × Int) (hrr : slices_medianCmpFunc_Account data a b c swaps cmpp = rr) : FT Try.prog 52 #[vl dataa0 datak0 data, vi a, vi b, vi c, swapsP, .func (.func cmpF) #[] cmpC.toArray] [S dataa0 datak0 data, Cl swapsP [vi swaps], pAll cmpA] (fun g : Unit => i64ok rr.1 ∧ i64ok rr.2 ∧ (rr.1 = a ∨ rr.1 = b ∨ rr.1 = c) ∧ (0 ≤ rr.2 ∧ rr.2 ≤ swaps + 3)) (fun g => vi rr.1) (fun g => [Cl swapsP [vi rr.2]]) := by
 refine FTi Try.func52 fun w0 M0 F0 => ?_
 unfold i64ok at ha_0 hb_0 hc_0 hswaps_0
 refine Fb 32 0 fun hl1 => ?_
 refine KS ?_
 refine Oq Va (KS ?_)
 refine Oq Vm (Oq Vm (Oq Vm (Oq Vm (Oq Vm ?_))))
 refine letv (slices_order2CmpFunc_Account data a b swaps cmpp) fun rv2 hg3 => ?_
 have hc4 := fn53 data dataa0 datak0 a b swapsP swaps cmpF cmpC cmpp cmpA pre pre pre hcmpc hcmpF pre pre rv2 hg3
 refine Oc [0, 1, 1] ca53 hc4 ?_
 rintro - ⟨he5, he6, he7, he8, he9⟩
 unfold i64ok at he5 he6 he7
 refine Oq Vm (Oq Vx (Oq Vx (Oq Va (Oq Va (KS ?_)))))
 refine Oq Vm (Oq Vm (Oq Vm (Oq Vm (Oq Vm ?_))))
 refine letv (slices_order2CmpFunc_Account data rv2.2.1 c rv2.2.2 cmpp) fun rv10 hg11 => ?_
 have hc12 := fn53 data dataa0 datak0 rv2.2.1 c swapsP rv2.2.2 cmpF cmpC cmpp cmpA pre pre pre hcmpc hcmpF pre pre rv10 hg11
 refine Oc [1, 0, 1] ca53 hc12 ?_
 rintro - ⟨he13, he14, he15, he16, he17⟩
 unfold i64ok at he13 he14 he15
 refine Oq Vm (Oq Vx (Oq Vx (Oq Va (Oq Va (KS ?_)))))
 refine Oq Vm (Oq Vm (Oq Vm (Oq Vm (Oq Vm ?_))))
 refine letv (slices_order2CmpFunc_Account data rv2.1 rv10.1 rv10.2.2 cmpp) fun rv18 hg19 => ?_
 have hc20 := fn53 data dataa0 datak0 rv2.1 rv10.1 swapsP rv10.2.2 cmpF cmpC cmpp cmpA pre pre pre hcmpc hcmpF pre pre rv18 hg19
 refine Oc [1, 0, 1] ca53 hc20 ?_
 rintro - ⟨he21, he22, he23, he24, he25⟩
 unfold i64ok at he21 he22 he23
 refine Oq Vm (Oq Vx (Oq Vx (Oq Va (Oq Va (KS ?_)))))
 refine Oq Vm (Oq Va (KS ?_))
 have hq := q4 hrr (rv18.2.1, rv18.2.2) (by simp only [slices_medianCmpFunc_Account, hg3, hg11, hg19, cs4]); subst hq
 exact Kr () rfl (.tmp rfl .nil) [0] en
theorem fn51 (data : List GAccount) (dataa0 : Option Addr) (datak0 : Nat) (a : Int) (swapsP : Value) (swaps : Int) (cmpF : FuncId) (cmpC : List Value) (cmpp : GAccount → GAccount → Int) (cmpA : List SP) (ha_0 : i64ok a) (hswaps_0 : i64ok swaps) (hcmpc : callable Try.prog cmpF = true) (hcmpF : ∀ x0 x1, i64ok x0.Query → i64ok x0.Turns → i64ok x0.Steps → i64ok x0.Cost → i64ok x1.Query → i64ok x1.Turns → i64ok x1.Steps → i64ok x1.Cost → FT Try.prog cmpF ([(.agg #[vi x0.Query, vi x0.Turns, vi x0.Steps, vi x0.Cost] : Value), (.agg #[vi x1.Query, vi x1.Turns, vi x1.Steps, vi x1.Cost] : Value)] ++ cmpC).toArray ([] ++ [pAll cmpA]) (fun _ : Unit => i64ok (cmpp x0 x1)) (fun _ => vi (cmpp x0 x1)) (fun _ => [])) (ha0 : 1 ≤ a ∧ a + 1 < (data.length : Int)) (hs0 : 0 ≤ swaps ∧ swaps ≤ 900) (rr : Int × Int) (hrr : slices_medianAdjacentCmpFunc_Account data a swaps cmpp = rr) : FT Try.prog 51 #[vl dataa0 datak0 data, vi a, swapsP, .func (.func cmpF) #[] cmpC.toArray] [S dataa0 datak0 data, Cl swapsP [vi swaps], pAll cmpA] (fun g : Unit => i64ok rr.1 ∧ i64ok rr.2 ∧ (a - 1 ≤ rr.1 ∧ rr.1 ≤ a + 1) ∧ (0 ≤ rr.2 ∧ rr.2 ≤ swaps + 3)) (fun g => vi rr.1) (fun g => [Cl swapsP [vi rr.2]]) := by
 refine FTi Try.func51 fun w0 M0 F0 => ?_
 unfold i64ok at ha_0 hswaps_0
 refine Fb 32 0 fun hl1 => ?_
 refine KS ?_
 refine Oq Va (KS ?_)
 refine Oq Vm (Oq Vm (Oq Vsub (Oq Vm (Oq Vm (Oq Vadd (Oq Vm (Oq Vm ?_)))))))
 refine letv (slices_medianCmpFunc_Account data (a - 1) a (a + 1) swaps cmpp) fun rv2 hg3 => ?_
 have hc4 := fn52 data dataa0 datak0 ((a - 1)) a ((a + 1)) swapsP swaps cmpF cmpC cmpp cmpA pre pre pre pre hcmpc hcmpF pre pre rv2 hg3
 refine Oc [0, 1, 1] ca52 hc4 ?_
 rintro - ⟨he5, he6, he7, he8⟩
 unfold i64ok at he5 he6
 refine Oq Va (KS ?_)
 have hq := q4 hrr (rv2.1, rv2.2) (by simp only [slices_medianAdjacentCmpFunc_Account, hg3, cs4]); subst hq
 exact Kr () rfl (.tmp rfl .nil) [0] en
theorem fn40 (data : List GAccount) (dataa0 : Option Addr) (datak0 : Nat) (a : Int) (b : Int) (cmpF : FuncId) (cmpC : List Value) (cmpp : GAccount → GAccount → Int) (cmpA : List SP) (ha_0 : i64ok a) (hb_0 : i64ok b) (hcmpc : callable Try.prog cmpF = true) (hcmpF : ∀ x0 x1, i64ok x0.Query → i64ok x0.Turns → i64ok x0.Steps → i64ok x0.Cost → i64ok x1.Query → i64ok x1.Turns → i64ok x1.Steps → i64ok x1.Cost → FT Try.prog cmpF ([(.agg #[vi x0.Query, vi x0.Turns, vi x0.Steps, vi x0.Cost] : Value), (.agg #[vi x1.Query, vi x1.Turns, vi x1.Steps, vi x1.Cost] : Value)] ++ cmpC).toArray ([] ++ [pAll cmpA]) (fun _ : Unit => i64ok (cmpp x0 x1)) (fun _ => vi (cmpp x0 x1)) (fun _ => [])) (ha0 : 0 ≤ a ∧ a ≤ b ∧ b ≤ (data.length : Int) ∧ data.length ≤ 65535 ∧ 8 ≤ b - a) (rr : Int × Int) (hrr : slices_choosePivotCmpFunc_Account data a b cmpp = rr) : FT Try.prog 40 #[vl dataa0 datak0 data, vi a, vi b, .func (.func cmpF) #[] cmpC.toArray] [S dataa0 datak0 data, pAll cmpA] (fun g : Unit => i64ok rr.1 ∧ i64ok rr.2 ∧ (a ≤ rr.1 ∧ rr.1 < b)) (fun g => .tuple #[vi rr.1, vi rr.2]) (fun g => []) := by
 refine FTi Try.func40 fun w0 M0 F0 => ?_
 unfold i64ok at ha_0 hb_0
 refine Fb 32 0 fun hl1 => ?_
 refine KS ?_
 refine Oq Va (Oq Va (KS ?_))
 refine Oq Vm (Oq Vm (Oq Vsub (Oq Va (KS ?_))))
 refine Oa (Al ze3 [vi 0]) fun p2 => KS ?_
 refine Oq Vm (Oq Vm (Oq Vquo (Oq Vmul (Oq Vadd (Oq Va (KS ?_))))))
 refine Oq Vm (Oq Vm (Oq Vquo (Oq Vmul (Oq Vadd (Oq Va (KS ?_))))))
 refine Oq Vm (Oq Vm (Oq Vquo (Oq Vmul (Oq Vadd (Oq Va (KS ?_))))))
 refine Oq Vm (Oq Vgeq (KS ?_))
 refine Kc ?_ ?_
 · intro h3
   have g4 := of_decide_eq_true h3
   refine KS ?_
   refine Oq Vm (Oq Vgeq (KS ?_))
   refine Kc ?_ ?_
   · intro h5
     have g6 := of_decide_eq_true h5
     refine KS ?_
     refine Oq Vm (Oq Vm (Oq Vm ?_))
     refine letv (slices_medianAdjacentCmpFunc_Account data (a + (((b - a) / 4) * 1)) 0 cmpp) fun rv7 hg8 => ?_
     have hc9 := fn51 data dataa0 datak0 ((a + (((b - a) / 4) * 1))) p2 0 cmpF cmpC cmpp cmpA pre pre hcmpc hcmpF pre pre rv7 hg8
     refine Oc [1, 0, 1] ca51 hc9 ?_
     rintro - ⟨he10, he11, he12, he13⟩
     unfold i64ok at he10 he11
     refine Oq Va (KS ?_)
     refine Oq Vm (Oq Vm (Oq Vm ?_))
     refine letv (slices_medianAdjacentCmpFunc_Account data (a + (((b - a) / 4) * 2)) rv7.2 cmpp) fun rv14 hg15 => ?_
     have hc16 := fn51 data dataa0 datak0 ((a + (((b - a) / 4) * 2))) p2 rv7.2 cmpF cmpC cmpp cmpA pre pre hcmpc hcmpF pre pre rv14 hg15
     refine Oc [1, 0, 1] ca51 hc16 ?_
     rintro - ⟨he17, he18, he19, he20⟩
     unfold i64ok at he17 he18
     refine Oq Va (KS ?_)
     refine Oq Vm (Oq Vm (Oq Vm ?_))
     refine letv (slices_medianAdjacentCmpFunc_Account data (a + (((b - a) / 4) * 3)) rv14.2 cmpp) fun rv21 hg22 => ?_
     have hc23 := fn51 data dataa0 datak0 ((a + (((b - a) / 4) * 3))) p2 rv14.2 cmpF cmpC cmpp cmpA pre pre hcmpc hcmpF pre pre rv21 hg22
     refine Oc [1, 0, 1] ca51 hc23 ?_
     rintro - ⟨he24, he25, he26, he27⟩
     unfold i64ok at he24 he25
     refine Oq Va (KS ?_)
     refine Oq Vm (Oq Vm (Oq Vm (Oq Vm (Oq Vm ?_))))
     refine letv (slices_medianCmpFunc_Account data rv7.1 rv14.1 rv21.1 rv21.2 cmpp) fun rv28 hg29 => ?_
     have hc30 := fn52 data dataa0 datak0 rv7.1 rv14.1 rv21.1 p2 rv21.2 cmpF cmpC cmpp cmpA pre pre pre pre hcmpc hcmpF pre pre rv28 hg29
     refine Oc [1, 0, 1] ca52 hc30 ?_
     rintro - ⟨he31, he32, he33, he34⟩
     unfold i64ok at he31 he32
     refine Oq Va (KS ?_)
     refine Oq (Vld sh3 0) (KS ?_)
     refine Oq Veql (Oq Va (KS ?_))
     refine Kc ?_ ?_
     · intro h35
       have g36 := eq_of_beq h35
       refine KS ?_
       refine Oq Vm (Oq Va (Oq Va (KS ?_)))
       have hq := q4 hrr (rv28.1, 1) (by simp only [slices_choosePivotCmpFunc_Account, h3, h5, h35, hg8, hg15, hg22, hg29, cs4]); subst hq
       exact Kr () rfl (.tmp rfl (.tmp rfl .nil)) [] ⟨en, en, (hrr ▸ cp_rng _ (by omega))⟩
     intro h35
     have g37 := ne_of_beq_false h35
     refine KS ?_
     refine Oq Veql (Oq Va (KS ?_))
     refine Kc ?_ ?_
     · intro h38
       have g39 := eq_of_beq h38
       refine KS ?_
       refine Oq Vm (Oq Va (Oq Va (KS ?_)))
       have hq := q4 hrr (rv28.1, 2) (by simp only [slices_choosePivotCmpFunc_Account, h3, h5, h35, h38, hg8, hg15, hg22, hg29, cs4]); subst hq
       exact Kr () rfl (.tmp rfl (.tmp rfl .nil)) [] ⟨en, en, (hrr ▸ cp_rng _ (by omega))⟩
     intro h38
     have g40 := ne_of_beq_false h38
     refine KS ?_
     refine Oq Vm (Oq Va (Oq Va (KS ?_)))
     have hq := q4 hrr (rv28.1, 0) (by simp only [slices_choosePivotCmpFunc_Account, h3, h5, h35, h38, hg8, hg15, hg22, hg29, cs4]); subst hq
     exact Kr () rfl (.tmp rfl (.tmp rfl .nil)) [] ⟨en, en, (hrr ▸ cp_rng _ (by omega))⟩
   intro h5
   have g41 := of_decide_eq_false h5
   refine KS ?_
   refine Oq Vm (Oq Vm (Oq Vm (Oq Vm (Oq Vm ?_))))
   refine letv (slices_medianCmpFunc_Account data (a + (((b - a) / 4) * 1)) (a + (((b - a) / 4) * 2)) (a + (((b - a) / 4) * 3)) 0 cmpp) fun rv42 hg43 => ?_
   have hc44 := fn52 data dataa0 datak0 ((a + (((b - a) / 4) * 1))) ((a + (((b - a) / 4) * 2))) ((a + (((b - a) / 4) * 3))) p2 0 cmpF cmpC cmpp cmpA pre pre pre pre hcmpc hcmpF pre pre rv42 hg43
   refine Oc [1, 0, 1] ca52 hc44 ?_
   rintro - ⟨he45, he46, he47, he48⟩
   unfold i64ok at he45 he46
   refine Oq Va (KS ?_)
   refine Oq (Vld sh3 0) (KS ?_)
   refine Oq Veql (Oq Va (KS ?_))
   refine Kc ?_ ?_
   · intro h49
     have g50 := eq_of_beq h49
     refine KS ?_
     refine Oq Vm (Oq Va (Oq Va (KS ?_)))
     have hq := q4 hrr (rv42.1, 1) (by simp only [slices_choosePivotCmpFunc_Account, h3, h5, h49, hg43, cs4]); subst hq
     exact Kr () rfl (.tmp rfl (.tmp rfl .nil)) [] ⟨en, en, (hrr ▸ cp_rng _ (by omega))⟩
   intro h49
   have g51 := ne_of_beq_false h49
   refine KS ?_
   refine Oq Veql (Oq Va (KS ?_))
   refine Kc ?_ ?_
   · intro h52
     have g53 := eq_of_beq h52
     refine KS ?_
     refine Oq Vm (Oq Va (Oq Va (KS ?_)))
     have hq := q4 hrr (rv42.1, 2) (by simp only [slices_choosePivotCmpFunc_Account, h3, h5, h49, h52, hg43, cs4]); subst hq
     exact Kr () rfl (.tmp rfl (.tmp rfl .nil)) [] ⟨en, en, (hrr ▸ cp_rng _ (by omega))⟩
   intro h52
   have g54 := ne_of_beq_false h52
   refine KS ?_
   refine Oq Vm (Oq Va (Oq Va (KS ?_)))
   have hq := q4 hrr (rv42.1, 0) (by simp only [slices_choosePivotCmpFunc_Account, h3, h5, h49, h52, hg43, cs4]); subst hq
   exact Kr () rfl (.tmp rfl (.tmp rfl .nil)) [] ⟨en, en, (hrr ▸ cp_rng _ (by omega))⟩
 intro h3
 have g55 := of_decide_eq_false h3
 refine KS ?_
 refine Oq (Vld sh3 0) (KS ?_)
 refine Oq Veql (Oq Va (KS ?_))
 refine Kt ?_
 refine KS ?_
 refine Oq Vm (Oq Va (Oq Va (KS ?_)))
 have hq := q4 hrr ((a + (((b - a) / 4) * 2)), 1) (by simp only [slices_choosePivotCmpFunc_Account, h3, cs4]); subst hq
 exact Kr () rfl (.tmp rfl (.tmp rfl .nil)) [] ⟨en, en, (hrr ▸ cp_rng _ (by omega))⟩
theorem fn41 (data : List GAccount) (dataa0 : Option Addr) (datak0 : Nat) (a : Int) (b : Int) (cmpF : FuncId) (cmpC : List Value) (cmpp : GAccount → GAccount → Int) (cmpA : List SP) (ha_0 : i64ok a) (hb_0 : i64ok b) (hcmpc : callable Try.prog cmpF = true) (hcmpF : ∀ x0 x1, i64ok x0.Query → i64ok x0.Turns → i64ok x0.Steps → i64ok x0.Cost → i64ok x1.Query → i64ok x1.Turns → i64ok x1.Steps → i64ok x1.Cost → FT Try.prog cmpF ([(.agg #[vi x0.Query, vi x0.Turns, vi x0.Steps, vi x0.Cost] : Value), (.agg #[vi x1.Query, vi x1.Turns, vi x1.Steps, vi x1.Cost] : Value)] ++ cmpC).toArray ([] ++ [pAll cmpA]) (fun _ : Unit => i64ok (cmpp x0 x1)) (fun _ => vi (cmpp x0 x1)) (fun _ => [])) (ha0 : 0 ≤ a ∧ a ≤ b ∧ b ≤ (data.length : Int) ∧ data.length ≤ 65535) (rr : List GAccount) (hrr : slices_reverseRangeCmpFunc_Account data a b cmpp = rr) : FT Try.prog 41 #[vl dataa0 datak0 data, vi a, vi b, .func (.func cmpF) #[] cmpC.toArray] [O dataa0 datak0 data, pAll cmpA] (fun g : Unit => (rr.length = data.length)) (fun g => .tuple #[]) (fun g => [os (vl dataa0 datak0 data) rr]) := by
 refine FTi Try.func41 fun w0 M0 F0 => ?_
 unfold i64ok at ha_0 hb_0
 refine Fb 32 0 fun hl1 => ?_
 refine KS ?_
 refine Oq Vm (Oq Va (KS ?_))
 refine Oq Vm (Oq Vsub (Oq Va (KS ?_)))
 have hterm10 : slices_reverseRangeCmpFunc_Account_L0 ((b - a).toNat + 1) data a (b - 1) ≠ LR.oof := (rev_t _ _ _ _ (by omega) (by omega))
 refine Kl (γ := Nat × List GAccount × Int × Int) (fun (r2, data_3, i_4, j_5) => ⟨[(0, vl dataa0 datak0 data), (8, vi i_4), (9, vi j_5)], [os (vl dataa0 datak0 data) data_3, pAll cmpA], slices_reverseRangeCmpFunc_Account_L0 r2 data_3 i_4 j_5 = slices_reverseRangeCmpFunc_Account_L0 ((b - a).toNat + 1) data a (b - 1) ∧ (-9223372036854775808 ≤ i_4 ∧ i_4 ≤ 9223372036854775807) ∧ (-9223372036854775808 ≤ j_5 ∧ j_5 ≤ 9223372036854775807) ∧ (a ≤ i_4 ∧ j_5 < b ∧ -1 ≤ j_5), r2⟩) (((b - a).toNat + 1), data, a, (b - 1)) [0, 0] ⟨rfl, (by omega), (by omega), iv0⟩ ?_
 rintro ⟨r2, data_3, i_4, j_5⟩ ⟨hM6, hk7, hk8, hv9⟩
 refine JJ_nx fun _ _ hL hA => ?_; dsimp only at hL hA; subst hL hA
 refine Fb 32 0 fun hl11 => ?_
 refine Fl 0 fun hn12 => ?_
 rcases r2 with _ | r2
 · exact absurd (hM6.symm.trans rfl) hterm10
 refine KS ?_
 refine Oq Vm (Oq Vm (Oq Vlss (KS ?_)))
 refine Kc ?_ ?_
 · intro h13
   have g14 := of_decide_eq_true h13
   refine KS ?_
   refine JJ_peekO_GAccount j_5.toNat 0 rfl rng fun hb15 hb16 hb17 hb18 => ?_
   unfold i64ok at hb15 hb16 hb17 hb18
   refine JJ_peekO2_GAccount i_4.toNat 0 rfl rng fun hb19 hb20 hb21 hb22 => ?_
   unfold i64ok at hb19 hb20 hb21 hb22
   refine JK_drawK [0, 0, 0, 0, 0, 0, 48, 112, 0, 0, 768, 1792, 4083, 8179, 16383, 32767] fmix ?_
   refine Dv [] Vm (Dv [] Vm (Dv [] Vm (Dv [] Vm (Dv [] Vm (Dv [] Vm (Dv [0] (Vi sl35 0) (Dv [0] (VldA sh38 0) (Dv [] Vm (Dv [] Vm ?_)))))))))
   refine Dv [0] (Vi sl35 0) (Dv [0] (VldA sh38 0) (Dv [0] (Vi sl35 0) ?_))
   refine Dx0 [0] [0] [0] [fun G => os (vl dataa0 datak0 data) (data_3.set i_4.toNat (data_3.getD j_5.toNat default))] (fun G => xp [0] rfl (Ent.oread2 _ _ _ _ _ _) (xS (So (Rs := []) [0] sh38 (data_3.getD j_5.toNat default) (fun h => ⟨rfl, (by unfold i64ok; first | omega | (dsimp only; omega)), (by unfold i64ok; first | omega | (dsimp only; omega)), (by unfold i64ok; first | omega | (dsimp only; omega)), (by unfold i64ok; first | omega | (dsimp only; omega))⟩)))) (Dv [2] (Vi sl35 0) ?_)
   refine Dx0 [2] [2] [0] [fun G => os (vl dataa0 datak0 data) ((data_3.set i_4.toNat (data_3.getD j_5.toNat default)).set j_5.toNat (data_3.getD i_4.toNat default))] (fun G => xS (So (Rs := []) [0] sh38 (data_3.getD i_4.toNat default) (fun h => ⟨rfl, (by unfold i64ok; first | omega | (dsimp only; omega)), (by unfold i64ok; first | omega | (dsimp only; omega)), (by unfold i64ok; first | omega | (dsimp only; omega)), (by unfold i64ok; first | omega | (dsimp only; omega))⟩))) ?_
   refine Dn ⟨by kernel_rfl, fun G => ?_⟩
   refine Jw2 [(0, vl dataa0 datak0 data), (8, vi i_4), (9, vi j_5)] [1] [os (vl dataa0 datak0 data) ((data_3.set i_4.toNat (data_3.getD j_5.toNat default)).set j_5.toNat (data_3.getD i_4.toNat default))] ?_
   refine KS ?_
   refine Oq Vm (Oq Vadd (Oq Va (KS ?_)))
   refine Oq Vm (Oq Vsub (Oq Va (KS ?_)))
   exact Kg (r2, ((data_3.set i_4.toNat (data_3.getD j_5.toNat default)).set j_5.toNat (data_3.getD i_4.toNat default)), (i_4 + 1), (j_5 - 1)) [1, 0] ⟨(q3 hM6 (by simp only [slices_reverseRangeCmpFunc_Account_L0, h13, cs4])), (by omega), (by omega), iv1⟩
 intro h13
 have g23 := of_decide_eq_false h13
 refine Ke ?_
 have hR24 := q2 hM6 (.brk data_3) (by simp only [slices_reverseRangeCmpFunc_Account_L0, h13, cs4])
 refine Fl 0 fun hn25 => ?_
 have hq := q4 hrr data_3 (by simp only [slices_reverseRangeCmpFunc_Account, h13, hR24, cs4]); subst hq
 exact Kz () rfl .nil [0] en
theorem fn42 (data : List GAccount) (dataa0 : Option Addr) (datak0 : Nat) (a : Int) (b : Int) (cmpF : FuncId) (cmpC : List Value) (cmpp : GAccount → GAccount → Int) (cmpA : List SP) (ha_0 : i64ok a) (hb_0 : i64ok b) (hcmpc : callable Try.prog cmpF = true) (hcmpF : ∀ x0 x1, i64ok x0.Query → i64ok x0.Turns → i64ok x0.Steps → i64ok x0.Cost → i64ok x1.Query → i64ok x1.Turns → i64ok x1.Steps → i64ok x1.Cost → FT Try.prog cmpF ([(.agg #[vi x0.Query, vi x0.Turns, vi x0.Steps, vi x0.Cost] : Value), (.agg #[vi x1.Query, vi x1.Turns, vi x1.Steps, vi x1.Cost] : Value)] ++ cmpC).toArray ([] ++ [pAll cmpA]) (fun _ : Unit => i64ok (cmpp x0 x1)) (fun _ => vi (cmpp x0 x1)) (fun _ => [])) (ha0 : 0 ≤ a ∧ a ≤ b ∧ b ≤ (data.length : Int) ∧ data.length ≤ 65535 ∧ 1 ≤ b - a) (rr : Bool × List GAccount) (hrr : slices_partialInsertionSortCmpFunc_Account data a b cmpp = rr) : FT Try.prog 42 #[vl dataa0 datak0 data, vi a, vi b, .func (.func cmpF) #[] cmpC.toArray] [O dataa0 datak0 data, pAll cmpA] (fun g : Unit => (rr.2.length = data.length)) (fun g => vb rr.1) (fun g => [os (vl dataa0 datak0 data) rr.2]) := by
 refine FTi Try.func42 fun w0 M0 F0 => ?_
 unfold i64ok at ha_0 hb_0
 refine Fb 32 0 fun hl1 => ?_
 refine KS ?_
 refine Oq Va (KS ?_)
 refine Oq Vm (Oq Vadd (Oq Va (KS ?_)))
 refine Oq Va (KS ?_)
 refine Kl (γ := Nat × List GAccount × Int × Int) (fun (r2, data_3, i_4, j_5) => ⟨[(0, vl dataa0 datak0 data), (1, vi a), (2, vi b), (3, .func (.func cmpF) #[] cmpC.toArray), (9, vi i_4), (10, vi j_5)], [os (vl dataa0 datak0 data) data_3, pAll cmpA], slices_partialInsertionSortCmpFunc_Account_L0 data a b cmpp r2 data_3 i_4 j_5 = slices_partialInsertionSortCmpFunc_Account_L0 data a b cmpp 5 data (a + 1) 0 ∧ r2 = ((5 : Int) - j_5).toNat ∧ (0 : Int) ≤ j_5 ∧ j_5 ≤ 5 ∧ (-9223372036854775808 ≤ i_4 ∧ i_4 ≤ 9223372036854775807) ∧ (-9223372036854775808 ≤ j_5 ∧ j_5 ≤ 9223372036854775807) ∧ (a < i_4 ∧ i_4 ≤ b), r2⟩) (5, data, (a + 1), 0) [0, 0] ⟨rfl, rfl, (by omega), (by omega), (by omega), (by omega), iv0⟩ ?_
 rintro ⟨r2, data_3, i_4, j_5⟩ ⟨hM6, hr7, hi8, hi9, hk10, hk11, hv12⟩
 refine JJ_nx fun _ _ hL hA => ?_; dsimp only at hL hA; subst hL hA
 refine Fb 32 0 fun hl13 => ?_
 refine Fl 0 fun hn14 => ?_
 refine KS ?_
 refine Oq Vm (Oq Vlss (KS ?_))
 refine Kc ?_ ?_
 · intro h15
   have g16 := of_decide_eq_true h15
   obtain ⟨r17, rfl⟩ := scc (n := r2) (by omega)
   refine KS ?_
   refine KjD (γ := Int) (fun i_19 => ⟨[(0, vl dataa0 datak0 data), (1, vi a), (2, vi b), (3, .func (.func cmpF) #[] cmpC.toArray), (9, vi i_19), (10, vi j_5)], [os (vl dataa0 datak0 data) data_3, pAll cmpA], slices_partialInsertionSortCmpFunc_Account_L1 cmpp data_3 (((b : Int) - i_4).toNat) i_4 = i_19 ∧ (i_4 : Int) ≤ i_19 ∧ (i_19 ≤ b ∨ i_19 = i_4) ∧ (-9223372036854775808 ≤ i_19 ∧ i_19 ≤ 9223372036854775807), 0⟩) ?_ ?_
   · skip
     refine Kl (γ := Nat × Int) (fun (r18, i_19) => ⟨[(0, vl dataa0 datak0 data), (1, vi a), (2, vi b), (3, .func (.func cmpF) #[] cmpC.toArray), (9, vi i_19), (10, vi j_5)], [os (vl dataa0 datak0 data) data_3, pAll cmpA], slices_partialInsertionSortCmpFunc_Account_L1 cmpp data_3 r18 i_19 = slices_partialInsertionSortCmpFunc_Account_L1 cmpp data_3 (((b : Int) - i_4).toNat) i_4 ∧ r18 = ((b : Int) - i_19).toNat ∧ (i_4 : Int) ≤ i_19 ∧ (i_19 ≤ b ∨ i_19 = i_4) ∧ (-9223372036854775808 ≤ i_19 ∧ i_19 ≤ 9223372036854775807), r18⟩) (((b : Int) - i_4).toNat, i_4) [0, 0] ⟨rfl, rfl, (by omega), (.inr rfl), (by omega)⟩ ?_
     rintro ⟨r18, i_19⟩ ⟨hM20, hr21, hi22, hi23, hk24⟩
     refine JJ_nx fun _ _ hL hA => ?_; dsimp only at hL hA; subst hL hA
     refine Fb 32 0 fun hl26 => ?_
     refine Fl 0 fun hn27 => ?_
     refine KS ?_
     refine bool_split (decide (i_19 < b)) ?_ ?_
     · intro h28
       have g29 := of_decide_eq_true h28
       obtain ⟨r30, rfl⟩ := scc (n := r18) (by omega)
       refine JJ_peekO_GAccount i_19.toNat 0 rfl rng fun hb31 hb32 hb33 hb34 => ?_
       unfold i64ok at hb31 hb32 hb33 hb34
       refine JJ_peekO2_GAccount ((i_19 - 1) : Int).toNat 0 rfl rng fun hb35 hb36 hb37 hb38 => ?_
       unfold i64ok at hb35 hb36 hb37 hb38
       refine JK_drawK [0, 0, 3, 7, 15, 15, 15, 111, 239, 15, 15, 1039, 3599, 7695, 16383, 32767, 65535, 131071] fmix ?_
       refine Dv [] Vm (Dv [] Vm (Db h28 [] Vlss (Dv [] Vm (Dv [] Vm (Dv [] Vm (Dv [] Vm (Dv [0] (Vi sl35 0) (Dv [0] (VldA sh38 0) (Dv [] Vm ?_)))))))))
       refine Dv [] Vm (Dv [] Vsub (Dv [0] (Vi sl35 0) (Dv [0] (VldA sh38 0) (Dx [1] [] [1, 0] (fun G => vi (cmpp (data_3.getD i_19.toNat default) (data_3.getD ((i_19 - 1) : Int).toNat default))) [fun G => SP.fact (i64ok (cmpp (data_3.getD i_19.toNat default) (data_3.getD ((i_19 - 1) : Int).toNat default)))] (fun G => xE («as» := [(.agg #[vi ((data_3.getD i_19.toNat default).Query), vi ((data_3.getD i_19.toNat default).Turns), vi ((data_3.getD i_19.toNat default).Steps), vi ((data_3.getD i_19.toNat default).Cost)] : Value), (.agg #[vi ((data_3.getD ((i_19 - 1) : Int).toNat default).Query), vi ((data_3.getD ((i_19 - 1) : Int).toNat default).Turns), vi ((data_3.getD ((i_19 - 1) : Int).toNat default).Steps), vi ((data_3.getD ((i_19 - 1) : Int).toNat default).Cost)] : Value)] ++ cmpC) [0] hcmpc rfl rfl rfl (by simp) rfl (hcmpF (data_3.getD i_19.toNat default) (data_3.getD ((i_19 - 1) : Int).toNat default)  pre pre pre pre pre pre pre pre)) (Dv [] Vlss (Dv [] Vnot (Dv [] Vpt ?_)))))))
       refine Dn ⟨by kernel_rfl, fun G => ?_⟩
       refine Jw2 [(0, vl dataa0 datak0 data), (1, vi a), (2, vi b), (3, .func (.func cmpF) #[] cmpC.toArray), (9, vi i_19), (10, vi j_5), (36, vb (!(decide ((cmpp (data_3.getD i_19.toNat default) (data_3.getD ((i_19 - 1) : Int).toNat default)) < 0))))] [0, 1] [SP.fact (i64ok (cmpp (data_3.getD i_19.toNat default) (data_3.getD ((i_19 - 1) : Int).toNat default)))] ?_
       refine Jf 2 rfl ?_; rintro he39
       unfold i64ok at he39
       refine Jk [0, 0] ?_
       refine Kc ?_ ?_
       · intro h40
         have h42 := not_true h40
         have g43 := of_decide_eq_false h42
         refine KS ?_
         refine Oq Vm (Oq Vadd (Oq Va (KS ?_)))
         refine Jl [0] (Ent.oread2 _ _ _ _ _ _) ?_
         exact Kg (r30, (i_19 + 1)) [0, 0] ⟨(q3 hM20 (by simp only [slices_partialInsertionSortCmpFunc_Account_L1, h28, h40, h42, cs4])), (by omega), (by omega), (by omega), (by omega)⟩
       intro h40
       have h45 := not_false h40
       have g46 := of_decide_eq_true h45
       refine Jl [0] (Ent.oread2 _ _ _ _ _ _) ?_
       refine Ke ?_
       have hR47 := q2 hM20 i_19 (by simp only [slices_partialInsertionSortCmpFunc_Account_L1, h28, h40, h45, cs4])
       exact Kg i_19 [0, 0] ⟨(by assumption), (by first | assumption | omega), (by first | assumption | omega), (by first | assumption | omega)⟩
     intro h28
     have g48 := of_decide_eq_false h28
     obtain rfl : r18 = 0 := by omega
     refine Kq [0, 0, 3, 7, 15, 15, 15, 111, 239, 15, 15, 1039, 3599, 7695, 16383, 32767, 65535, 131071] fmix ?_
     refine Qv [] Vm (Qv [] Vm (Qb h28 [] Vlss (Qv [] Vm (Qs (Qs (Qs (Qs (Qs (Qs ?_)))))))))
     refine Qs (Qs (Qs (Qs (Qs (Qs (Qs (Qv [] Vpf ?_)))))))
     refine Qn ⟨by kernel_rfl, ?_⟩
     refine Kf ?_
     refine Ke ?_
     have hR49 := q2 hM20 i_19 (by simp only [slices_partialInsertionSortCmpFunc_Account_L1, h28, cs4])
     exact Kg i_19 [0, 0] ⟨(by assumption), (by first | assumption | omega), (by first | assumption | omega), (by first | assumption | omega)⟩
   rintro i_19 ⟨hR25, hi22, hi23, hk24⟩
   refine JJ_nx fun _ _ hL hA => ?_; dsimp only at hL hA; subst hL hA
   refine Fb 32 0 fun hl50 => ?_
   refine Fl 0 fun hn51 => ?_
   refine KS ?_
   refine Oq Vm (Oq Vm (Oq Veql (KS ?_)))
   refine Kc ?_ ?_
   · intro h52
     have g53 := eq_of_beq h52
     refine KS ?_
     refine Oq Va (KS ?_)
     refine Fl 0 fun hn54 => ?_
     have hR55 := q2 hM6 (.ret (true, data_3)) (by simp only [slices_partialInsertionSortCmpFunc_Account_L0, h15, h52, hR25, cs4])
     have hq := q4 hrr (true, data_3) (by simp only [slices_partialInsertionSortCmpFunc_Account, h15, h52, hR25, hR55, cs4]); subst hq
     exact Kr () rfl (.tmp rfl .nil) [0] en
   intro h52
   have g56 := ne_of_beq_false h52
   refine KS ?_
   refine Oq Vm (Oq Vm (Oq Vsub (Oq Vlss (KS ?_))))
   refine Kc ?_ ?_
   · intro h57
     have g58 := of_decide_eq_true h57
     refine KS ?_
     refine Oq Va (KS ?_)
     refine Fl 0 fun hn59 => ?_
     have hR60 := q2 hM6 (.ret (false, data_3)) (by simp only [slices_partialInsertionSortCmpFunc_Account_L0, h15, h52, h57, hR25, cs4])
     have hq := q4 hrr (false, data_3) (by simp only [slices_partialInsertionSortCmpFunc_Account, h15, h52, h57, hR25, hR60, cs4]); subst hq
     exact Kr () rfl (.tmp rfl .nil) [0] en
   intro h57
   have g61 := of_decide_eq_false h57
   refine KS ?_
   refine JJ_peekO_GAccount ((i_19 - 1) : Int).toNat 0 rfl rng fun hb62 hb63 hb64 hb65 => ?_
   unfold i64ok at hb62 hb63 hb64 hb65
   refine JJ_peekO2_GAccount i_19.toNat 0 rfl rng fun hb66 hb67 hb68 hb69 => ?_
   unfold i64ok at hb66 hb67 hb68 hb69
   refine JK_drawK [0, 0, 0, 0, 8, 0, 0, 64, 224, 480, 0, 0, 3072, 7168, 16355, 32739, 65535, 131071] fmix ?_
   refine Dv [] Vm (Dv [] Vm (Dv [] Vm (Dv [] Vm (Dv [] Vsub (Dv [] Vm (Dv [] Vm (Dv [] Vsub (Dv [0] (Vi sl35 0) (Dv [0] (VldA sh38 0) ?_)))))))))
   refine Dv [] Vm (Dv [] Vm (Dv [0] (Vi sl35 0) (Dv [0] (VldA sh38 0) (Dv [0] (Vi sl35 0) ?_))))
   refine Dx0 [0] [0] [0] [fun G => os (vl dataa0 datak0 data) (data_3.set i_19.toNat (data_3.getD ((i_19 - 1) : Int).toNat default))] (fun G => xp [0] rfl (Ent.oread2 _ _ _ _ _ _) (xS (So (Rs := []) [0] sh38 (data_3.getD ((i_19 - 1) : Int).toNat default) (fun h => ⟨rfl, (by unfold i64ok; first | omega | (dsimp only; omega)), (by unfold i64ok; first | omega | (dsimp only; omega)), (by unfold i64ok; first | omega | (dsimp only; omega)), (by unfold i64ok; first | omega | (dsimp only; omega))⟩)))) (Dv [2] (Vi sl35 0) ?_)
   refine Dx0 [2] [2] [0] [fun G => os (vl dataa0 datak0 data) ((data_3.set i_19.toNat (data_3.getD ((i_19 - 1) : Int).toNat default)).set ((i_19 - 1) : Int).toNat (data_3.getD i_19.toNat default))] (fun G => xS (So (Rs := []) [0] sh38 (data_3.getD i_19.toNat default) (fun h => ⟨rfl, (by unfold i64ok; first | omega | (dsimp only; omega)), (by unfold i64ok; first | omega | (dsimp only; omega)), (by unfold i64ok; first | omega | (dsimp only; omega)), (by unfold i64ok; first | omega | (dsimp only; omega))⟩))) ?_
   refine Dn ⟨by kernel_rfl, fun G => ?_⟩
   refine Jw2 [(0, vl dataa0 datak0 data), (1, vi a), (2, vi b), (3, .func (.func cmpF) #[] cmpC.toArray), (9, vi i_19), (10, vi j_5)] [1] [os (vl dataa0 datak0 data) ((data_3.set i_19.toNat (data_3.getD ((i_19 - 1) : Int).toNat default)).set ((i_19 - 1) : Int).toNat (data_3.getD i_19.toNat default))] ?_
   refine KS ?_
   refine Oq Vm (Oq Vm (Oq Vsub (Oq Vgeq (KS ?_))))
   refine Kc ?_ ?_
   · intro h70
     have g71 := of_decide_eq_true h70
     refine KS ?_
     refine Oq Vm (Oq Vsub (Oq Va (KS ?_)))
     have hterm78 : slices_partialInsertionSortCmpFunc_Account_L2 cmpp (data.length + 1) ((data_3.set i_19.toNat (data_3.getD ((i_19 - 1) : Int).toNat default)).set ((i_19 - 1) : Int).toNat (data_3.getD i_19.toNat default)) (i_19 - 1) ≠ LR.oof := (pin2_t _ _ _ (by omega) (by omega))
     refine KjD (γ := List GAccount × Int) (fun (data_73, j_74) => ⟨[(0, vl dataa0 datak0 data), (1, vi a), (2, vi b), (3, .func (.func cmpF) #[] cmpC.toArray), (9, vi i_19), (10, vi j_5)], [pAll cmpA, os (vl dataa0 datak0 data) data_73], slices_partialInsertionSortCmpFunc_Account_L2 cmpp (data.length + 1) ((data_3.set i_19.toNat (data_3.getD ((i_19 - 1) : Int).toNat default)).set ((i_19 - 1) : Int).toNat (data_3.getD i_19.toNat default)) (i_19 - 1) = .brk data_73 ∧ (-9223372036854775808 ≤ j_74 ∧ j_74 ≤ 9223372036854775807) ∧ (0 ≤ j_74 ∧ j_74 ≤ b - 1), 0⟩) ?_ ?_
     · skip
       refine Kl (γ := Nat × List GAccount × Int) (fun (r72, data_73, j_74) => ⟨[(0, vl dataa0 datak0 data), (1, vi a), (2, vi b), (3, .func (.func cmpF) #[] cmpC.toArray), (9, vi i_19), (10, vi j_5), (11, vi j_74)], [pAll cmpA, os (vl dataa0 datak0 data) data_73], slices_partialInsertionSortCmpFunc_Account_L2 cmpp r72 data_73 j_74 = slices_partialInsertionSortCmpFunc_Account_L2 cmpp (data.length + 1) ((data_3.set i_19.toNat (data_3.getD ((i_19 - 1) : Int).toNat default)).set ((i_19 - 1) : Int).toNat (data_3.getD i_19.toNat default)) (i_19 - 1) ∧ (-9223372036854775808 ≤ j_74 ∧ j_74 ≤ 9223372036854775807) ∧ (0 ≤ j_74 ∧ j_74 ≤ b - 1), r72⟩) ((data.length + 1), ((data_3.set i_19.toNat (data_3.getD ((i_19 - 1) : Int).toNat default)).set ((i_19 - 1) : Int).toNat (data_3.getD i_19.toNat default)), (i_19 - 1)) [0, 1] ⟨rfl, (by omega), iv0⟩ ?_
       rintro ⟨r72, data_73, j_74⟩ ⟨hM75, hk76, hv77⟩
       refine JJ_nx fun _ _ hL hA => ?_; dsimp only at hL hA; subst hL hA
       refine Fb 32 1 fun hl80 => ?_
       refine Fl 1 fun hn81 => ?_
       rcases r72 with _ | r72
       · exact absurd (hM75.symm.trans rfl) hterm78
       refine KS ?_
       refine Oq Vm (Oq Vgeq (KS ?_))
       refine Kc ?_ ?_
       · intro h82
         have g83 := of_decide_eq_true h82
         refine KS ?_
         refine JJ_peekO_GAccount j_74.toNat 1 rfl rng fun hb84 hb85 hb86 hb87 => ?_
         unfold i64ok at hb84 hb85 hb86 hb87
         refine JJ_peekO2_GAccount ((j_74 - 1) : Int).toNat 0 rfl rng fun hb88 hb89 hb90 hb91 => ?_
         unfold i64ok at hb88 hb89 hb90 hb91
         refine JK_drawK [0, 0, 0, 6, 14, 0, 0, 64, 224, 480, 1023, 2047, 4095] fmix ?_
         refine Dv [] Vm (Dv [] Vm (Dv [] Vm (Dv [0] (Vi sl35 0) (Dv [0] (VldA sh38 0) (Dv [] Vm (Dv [] Vm (Dv [] Vsub (Dv [0] (Vi sl35 0) (Dv [0] (VldA sh38 0) ?_)))))))))
         refine Dx [1] [] [1, 0] (fun G => vi (cmpp (data_73.getD j_74.toNat default) (data_73.getD ((j_74 - 1) : Int).toNat default))) [fun G => SP.fact (i64ok (cmpp (data_73.getD j_74.toNat default) (data_73.getD ((j_74 - 1) : Int).toNat default)))] (fun G => xE («as» := [(.agg #[vi ((data_73.getD j_74.toNat default).Query), vi ((data_73.getD j_74.toNat default).Turns), vi ((data_73.getD j_74.toNat default).Steps), vi ((data_73.getD j_74.toNat default).Cost)] : Value), (.agg #[vi ((data_73.getD ((j_74 - 1) : Int).toNat default).Query), vi ((data_73.getD ((j_74 - 1) : Int).toNat default).Turns), vi ((data_73.getD ((j_74 - 1) : Int).toNat default).Steps), vi ((data_73.getD ((j_74 - 1) : Int).toNat default).Cost)] : Value)] ++ cmpC) [0] hcmpc rfl rfl rfl (by simp) rfl (hcmpF (data_73.getD j_74.toNat default) (data_73.getD ((j_74 - 1) : Int).toNat default)  pre pre pre pre pre pre pre pre)) (Dv [] Vlss (Dv [] Vnot ?_))
         refine Dn ⟨by kernel_rfl, fun G => ?_⟩
         refine Jw2 [(0, vl dataa0 datak0 data), (1, vi a), (2, vi b), (3, .func (.func cmpF) #[] cmpC.toArray), (9, vi i_19), (10, vi j_5), (11, vi j_74), (84, vb (!(decide ((cmpp (data_73.getD j_74.toNat default) (data_73.getD ((j_74 - 1) : Int).toNat default)) < 0))))] [0, 1] [SP.fact (i64ok (cmpp (data_73.getD j_74.toNat default) (data_73.getD ((j_74 - 1) : Int).toNat default)))] ?_
         refine Jf 2 rfl ?_; rintro he92
         unfold i64ok at he92
         refine Jk [0, 0] ?_
         refine Kc ?_ ?_
         · intro h93
           have h95 := not_true h93
           have g96 := of_decide_eq_false h95
           refine Jl [0] (Ent.oread2 _ _ _ _ _ _) ?_
           refine Ke ?_
           have hR97 := q2 hM75 (.brk data_73) (by simp only [slices_partialInsertionSortCmpFunc_Account_L2, h82, h93, h95, cs4])
           exact Kg (data_73, j_74) [1, 0] ⟨(by assumption), (by first | assumption | omega), (by first | assumption | omega)⟩
         intro h93
         have h99 := not_false h93
         have g100 := of_decide_eq_true h99
         refine KS ?_
         refine JK_drawK [0, 0, 0, 0, 8, 0, 0, 64, 224, 480, 0, 0, 3072, 7168, 16355, 32739, 65535, 131071] fmix ?_
         refine Dv [] Vm (Dv [] Vm (Dv [] Vm (Dv [] Vm (Dv [] Vsub (Dv [] Vm (Dv [] Vm (Dv [] Vsub (Dv [0] (Vi sl35 0) (Dv [0] (VldA sh38 0) ?_)))))))))
         refine Dv [] Vm (Dv [] Vm (Dv [0] (Vi sl35 0) (Dv [0] (VldA sh38 0) (Dv [0] (Vi sl35 0) ?_))))
         refine Dx0 [0] [0] [0] [fun G => os (vl dataa0 datak0 data) (data_73.set j_74.toNat (data_73.getD ((j_74 - 1) : Int).toNat default))] (fun G => xp [0] rfl (Ent.oread2 _ _ _ _ _ _) (xS (So (Rs := []) [0] sh38 (data_73.getD ((j_74 - 1) : Int).toNat default) (fun h => ⟨rfl, (by unfold i64ok; first | omega | (dsimp only; omega)), (by unfold i64ok; first | omega | (dsimp only; omega)), (by unfold i64ok; first | omega | (dsimp only; omega)), (by unfold i64ok; first | omega | (dsimp only; omega))⟩)))) (Dv [2] (Vi sl35 0) ?_)
         refine Dx0 [2] [2] [0] [fun G => os (vl dataa0 datak0 data) ((data_73.set j_74.toNat (data_73.getD ((j_74 - 1) : Int).toNat default)).set ((j_74 - 1) : Int).toNat (data_73.getD j_74.toNat default))] (fun G => xS (So (Rs := []) [0] sh38 (data_73.getD j_74.toNat default) (fun h => ⟨rfl, (by unfold i64ok; first | omega | (dsimp only; omega)), (by unfold i64ok; first | omega | (dsimp only; omega)), (by unfold i64ok; first | omega | (dsimp only; omega)), (by unfold i64ok; first | omega | (dsimp only; omega))⟩))) ?_
         refine Dn ⟨by kernel_rfl, fun G => ?_⟩
         refine Jw2 [(0, vl dataa0 datak0 data), (1, vi a), (2, vi b), (3, .func (.func cmpF) #[] cmpC.toArray), (9, vi i_19), (10, vi j_5), (11, vi j_74)] [1] [os (vl dataa0 datak0 data) ((data_73.set j_74.toNat (data_73.getD ((j_74 - 1) : Int).toNat default)).set ((j_74 - 1) : Int).toNat (data_73.getD j_74.toNat default))] ?_
         refine KS ?_
         refine Oq Vm (Oq Vsub (Oq Va (KS ?_)))
         exact Kg (r72, ((data_73.set j_74.toNat (data_73.getD ((j_74 - 1) : Int).toNat default)).set ((j_74 - 1) : Int).toNat (data_73.getD j_74.toNat default)), (j_74 - 1)) [0, 1] ⟨(q3 hM75 (by simp only [slices_partialInsertionSortCmpFunc_Account_L2, h82, h93, h99, cs4])), (by omega), iv1⟩
       intro h82
       have g101 := of_decide_eq_false h82
       refine Ke ?_
       have hR102 := q2 hM75 (.brk data_73) (by simp only [slices_partialInsertionSortCmpFunc_Account_L2, h82, cs4])
       exact Kg (data_73, j_74) [0, 1] ⟨(by assumption), (by first | assumption | omega), (by first | assumption | omega)⟩
     rintro ⟨data_73, j_74⟩ ⟨hR79, hk76, hv77⟩
     refine JJ_nx fun _ _ hL hA => ?_; dsimp only at hL hA; subst hL hA
     refine Fb 32 1 fun hl103 => ?_
     refine Fl 1 fun hn104 => ?_
     refine KS ?_
     refine Oq Vm (Oq Vm (Oq Vsub (Oq Vgeq (KS ?_))))
     refine Kc ?_ ?_
     · intro h105
       have g106 := of_decide_eq_true h105
       refine KS ?_
       refine Oq Vm (Oq Vadd (Oq Va (KS ?_)))
       refine KjD (γ := List GAccount × Int) (fun (data_108, j_109) => ⟨[(0, vl dataa0 datak0 data), (1, vi a), (2, vi b), (3, .func (.func cmpF) #[] cmpC.toArray), (9, vi i_19), (10, vi j_5)], [pAll cmpA, os (vl dataa0 datak0 data) data_108], slices_partialInsertionSortCmpFunc_Account_L3 cmpp (((b : Int) - (i_19 + 1)).toNat) data_73 (i_19 + 1) = data_108 ∧ ((i_19 + 1) : Int) ≤ j_109 ∧ (j_109 ≤ b ∨ j_109 = (i_19 + 1)) ∧ (-9223372036854775808 ≤ j_109 ∧ j_109 ≤ 9223372036854775807), 0⟩) ?_ ?_
       · skip
         refine Kl (γ := Nat × List GAccount × Int) (fun (r107, data_108, j_109) => ⟨[(0, vl dataa0 datak0 data), (1, vi a), (2, vi b), (3, .func (.func cmpF) #[] cmpC.toArray), (9, vi i_19), (10, vi j_5), (12, vi j_109)], [pAll cmpA, os (vl dataa0 datak0 data) data_108], slices_partialInsertionSortCmpFunc_Account_L3 cmpp r107 data_108 j_109 = slices_partialInsertionSortCmpFunc_Account_L3 cmpp (((b : Int) - (i_19 + 1)).toNat) data_73 (i_19 + 1) ∧ r107 = ((b : Int) - j_109).toNat ∧ ((i_19 + 1) : Int) ≤ j_109 ∧ (j_109 ≤ b ∨ j_109 = (i_19 + 1)) ∧ (-9223372036854775808 ≤ j_109 ∧ j_109 ≤ 9223372036854775807), r107⟩) (((b : Int) - (i_19 + 1)).toNat, data_73, (i_19 + 1)) [0, 1] ⟨rfl, rfl, (by omega), (.inr rfl), (by omega)⟩ ?_
         rintro ⟨r107, data_108, j_109⟩ ⟨hM110, hr111, hi112, hi113, hk114⟩
         refine JJ_nx fun _ _ hL hA => ?_; dsimp only at hL hA; subst hL hA
         refine Fb 32 1 fun hl116 => ?_
         refine Fl 1 fun hn117 => ?_
         refine KS ?_
         refine Oq Vm (Oq Vm (Oq Vlss (KS ?_)))
         refine Kc ?_ ?_
         · intro h118
           have g119 := of_decide_eq_true h118
           obtain ⟨r120, rfl⟩ := scc (n := r107) (by omega)
           refine KS ?_
           refine JJ_peekO_GAccount j_109.toNat 1 rfl rng fun hb121 hb122 hb123 hb124 => ?_
           unfold i64ok at hb121 hb122 hb123 hb124
           refine JJ_peekO2_GAccount ((j_109 - 1) : Int).toNat 0 rfl rng fun hb125 hb126 hb127 hb128 => ?_
           unfold i64ok at hb125 hb126 hb127 hb128
           refine JK_drawK [0, 0, 0, 6, 14, 0, 0, 64, 224, 480, 1023, 2047, 4095] fmix ?_
           refine Dv [] Vm (Dv [] Vm (Dv [] Vm (Dv [0] (Vi sl35 0) (Dv [0] (VldA sh38 0) (Dv [] Vm (Dv [] Vm (Dv [] Vsub (Dv [0] (Vi sl35 0) (Dv [0] (VldA sh38 0) ?_)))))))))
           refine Dx [1] [] [1, 0] (fun G => vi (cmpp (data_108.getD j_109.toNat default) (data_108.getD ((j_109 - 1) : Int).toNat default))) [fun G => SP.fact (i64ok (cmpp (data_108.getD j_109.toNat default) (data_108.getD ((j_109 - 1) : Int).toNat default)))] (fun G => xE («as» := [(.agg #[vi ((data_108.getD j_109.toNat default).Query), vi ((data_108.getD j_109.toNat default).Turns), vi ((data_108.getD j_109.toNat default).Steps), vi ((data_108.getD j_109.toNat default).Cost)] : Value), (.agg #[vi ((data_108.getD ((j_109 - 1) : Int).toNat default).Query), vi ((data_108.getD ((j_109 - 1) : Int).toNat default).Turns), vi ((data_108.getD ((j_109 - 1) : Int).toNat default).Steps), vi ((data_108.getD ((j_109 - 1) : Int).toNat default).Cost)] : Value)] ++ cmpC) [0] hcmpc rfl rfl rfl (by simp) rfl (hcmpF (data_108.getD j_109.toNat default) (data_108.getD ((j_109 - 1) : Int).toNat default)  pre pre pre pre pre pre pre pre)) (Dv [] Vlss (Dv [] Vnot ?_))
           refine Dn ⟨by kernel_rfl, fun G => ?_⟩
           refine Jw2 [(0, vl dataa0 datak0 data), (1, vi a), (2, vi b), (3, .func (.func cmpF) #[] cmpC.toArray), (9, vi i_19), (10, vi j_5), (12, vi j_109), (124, vb (!(decide ((cmpp (data_108.getD j_109.toNat default) (data_108.getD ((j_109 - 1) : Int).toNat default)) < 0))))] [0, 1] [SP.fact (i64ok (cmpp (data_108.getD j_109.toNat default) (data_108.getD ((j_109 - 1) : Int).toNat default)))] ?_
           refine Jf 2 rfl ?_; rintro he129
           unfold i64ok at he129
           refine Jk [0, 0] ?_
           refine Kc ?_ ?_
           · intro h130
             have h132 := not_true h130
             have g133 := of_decide_eq_false h132
             refine Jl [0] (Ent.oread2 _ _ _ _ _ _) ?_
             refine Ke ?_
             have hR134 := q2 hM110 data_108 (by simp only [slices_partialInsertionSortCmpFunc_Account_L3, h118, h130, h132, cs4])
             exact Kg (data_108, j_109) [1, 0] ⟨(by assumption), (by first | assumption | omega), (by first | assumption | omega), (by first | assumption | omega)⟩
           intro h130
           have h136 := not_false h130
           have g137 := of_decide_eq_true h136
           refine KS ?_
           refine JK_drawK [0, 0, 0, 0, 8, 0, 0, 64, 224, 480, 0, 0, 3072, 7168, 16355, 32739, 65535, 131071] fmix ?_
           refine Dv [] Vm (Dv [] Vm (Dv [] Vm (Dv [] Vm (Dv [] Vsub (Dv [] Vm (Dv [] Vm (Dv [] Vsub (Dv [0] (Vi sl35 0) (Dv [0] (VldA sh38 0) ?_)))))))))
           refine Dv [] Vm (Dv [] Vm (Dv [0] (Vi sl35 0) (Dv [0] (VldA sh38 0) (Dv [0] (Vi sl35 0) ?_))))
           refine Dx0 [0] [0] [0] [fun G => os (vl dataa0 datak0 data) (data_108.set j_109.toNat (data_108.getD ((j_109 - 1) : Int).toNat default))] (fun G => xp [0] rfl (Ent.oread2 _ _ _ _ _ _) (xS (So (Rs := []) [0] sh38 (data_108.getD ((j_109 - 1) : Int).toNat default) (fun h => ⟨rfl, (by unfold i64ok; first | omega | (dsimp only; omega)), (by unfold i64ok; first | omega | (dsimp only; omega)), (by unfold i64ok; first | omega | (dsimp only; omega)), (by unfold i64ok; first | omega | (dsimp only; omega))⟩)))) (Dv [2] (Vi sl35 0) ?_)
           refine Dx0 [2] [2] [0] [fun G => os (vl dataa0 datak0 data) ((data_108.set j_109.toNat (data_108.getD ((j_109 - 1) : Int).toNat default)).set ((j_109 - 1) : Int).toNat (data_108.getD j_109.toNat default))] (fun G => xS (So (Rs := []) [0] sh38 (data_108.getD j_109.toNat default) (fun h => ⟨rfl, (by unfold i64ok; first | omega | (dsimp only; omega)), (by unfold i64ok; first | omega | (dsimp only; omega)), (by unfold i64ok; first | omega | (dsimp only; omega)), (by unfold i64ok; first | omega | (dsimp only; omega))⟩))) ?_
           refine Dn ⟨by kernel_rfl, fun G => ?_⟩
           refine Jw2 [(0, vl dataa0 datak0 data), (1, vi a), (2, vi b), (3, .func (.func cmpF) #[] cmpC.toArray), (9, vi i_19), (10, vi j_5), (12, vi j_109)] [1] [os (vl dataa0 datak0 data) ((data_108.set j_109.toNat (data_108.getD ((j_109 - 1) : Int).toNat default)).set ((j_109 - 1) : Int).toNat (data_108.getD j_109.toNat default))] ?_
           refine KS ?_
           refine Oq Vm (Oq Vadd (Oq Va (KS ?_)))
           exact Kg (r120, ((data_108.set j_109.toNat (data_108.getD ((j_109 - 1) : Int).toNat default)).set ((j_109 - 1) : Int).toNat (data_108.getD j_109.toNat default)), (j_109 + 1)) [0, 1] ⟨(q3 hM110 (by simp only [slices_partialInsertionSortCmpFunc_Account_L3, h118, h130, h136, cs4])), (by omega), (by omega), (by omega), (by omega)⟩
         intro h118
         have g138 := of_decide_eq_false h118
         obtain rfl : r107 = 0 := by omega
         refine Ke ?_
         have hR139 := q2 hM110 data_108 (by simp only [slices_partialInsertionSortCmpFunc_Account_L3, h118, cs4])
         exact Kg (data_108, j_109) [0, 1] ⟨(by assumption), (by first | assumption | omega), (by first | assumption | omega), (by first | assumption | omega)⟩
       rintro ⟨data_108, j_109⟩ ⟨hR115, hi112, hi113, hk114⟩
       refine JJ_nx fun _ _ hL hA => ?_; dsimp only at hL hA; subst hL hA
       refine Fb 32 1 fun hl140 => ?_
       refine Fl 1 fun hn141 => ?_
       refine KS ?_
       refine Oq Vm (Oq Vadd (Oq Va (KS ?_)))
       exact Kg (r17, data_108, i_19, (j_5 + 1)) [1, 0] ⟨(q3 hM6 (by simp only [slices_partialInsertionSortCmpFunc_Account_L0, h15, h52, h57, h70, h105, hR25, hR79, hR115, cs4])), (by omega), (by omega), (by omega), (by omega), (by omega), iv1⟩
     intro h105
     have g142 := of_decide_eq_false h105
     refine KS ?_
     refine Oq Vm (Oq Vadd (Oq Va (KS ?_)))
     exact Kg (r17, data_73, i_19, (j_5 + 1)) [1, 0] ⟨(q3 hM6 (by simp only [slices_partialInsertionSortCmpFunc_Account_L0, h15, h52, h57, h70, h105, hR25, hR79, cs4])), (by omega), (by omega), (by omega), (by omega), (by omega), iv1⟩
   intro h70
   have g143 := of_decide_eq_false h70
   refine KS ?_
   refine Oq Vm (Oq Vm (Oq Vsub (Oq Vgeq (KS ?_))))
   refine Kc ?_ ?_
   · intro h144
     have g145 := of_decide_eq_true h144
     refine KS ?_
     refine Oq Vm (Oq Vadd (Oq Va (KS ?_)))
     refine KjD (γ := List GAccount × Int) (fun (data_147, j_148) => ⟨[(0, vl dataa0 datak0 data), (1, vi a), (2, vi b), (3, .func (.func cmpF) #[] cmpC.toArray), (9, vi i_19), (10, vi j_5)], [pAll cmpA, os (vl dataa0 datak0 data) data_147], slices_partialInsertionSortCmpFunc_Account_L3 cmpp (((b : Int) - (i_19 + 1)).toNat) ((data_3.set i_19.toNat (data_3.getD ((i_19 - 1) : Int).toNat default)).set ((i_19 - 1) : Int).toNat (data_3.getD i_19.toNat default)) (i_19 + 1) = data_147 ∧ ((i_19 + 1) : Int) ≤ j_148 ∧ (j_148 ≤ b ∨ j_148 = (i_19 + 1)) ∧ (-9223372036854775808 ≤ j_148 ∧ j_148 ≤ 9223372036854775807), 0⟩) ?_ ?_
     · skip
       refine Kl (γ := Nat × List GAccount × Int) (fun (r146, data_147, j_148) => ⟨[(0, vl dataa0 datak0 data), (1, vi a), (2, vi b), (3, .func (.func cmpF) #[] cmpC.toArray), (9, vi i_19), (10, vi j_5), (12, vi j_148)], [pAll cmpA, os (vl dataa0 datak0 data) data_147], slices_partialInsertionSortCmpFunc_Account_L3 cmpp r146 data_147 j_148 = slices_partialInsertionSortCmpFunc_Account_L3 cmpp (((b : Int) - (i_19 + 1)).toNat) ((data_3.set i_19.toNat (data_3.getD ((i_19 - 1) : Int).toNat default)).set ((i_19 - 1) : Int).toNat (data_3.getD i_19.toNat default)) (i_19 + 1) ∧ r146 = ((b : Int) - j_148).toNat ∧ ((i_19 + 1) : Int) ≤ j_148 ∧ (j_148 ≤ b ∨ j_148 = (i_19 + 1)) ∧ (-9223372036854775808 ≤ j_148 ∧ j_148 ≤ 9223372036854775807), r146⟩) (((b : Int) - (i_19 + 1)).toNat, ((data_3.set i_19.toNat (data_3.getD ((i_19 - 1) : Int).toNat default)).set ((i_19 - 1) : Int).toNat (data_3.getD i_19.toNat default)), (i_19 + 1)) [0, 1] ⟨rfl, rfl, (by omega), (.inr rfl), (by omega)⟩ ?_
       rintro ⟨r146, data_147, j_148⟩ ⟨hM149, hr150, hi151, hi152, hk153⟩
       refine JJ_nx fun _ _ hL hA => ?_; dsimp only at hL hA; subst hL hA
       refine Fb 32 1 fun hl155 => ?_
       refine Fl 1 fun hn156 => ?_
       refine KS ?_
       refine Oq Vm (Oq Vm (Oq Vlss (KS ?_)))
       refine Kc ?_ ?_
       · intro h157
         have g158 := of_decide_eq_true h157
         obtain ⟨r159, rfl⟩ := scc (n := r146) (by omega)
         refine KS ?_
         refine JJ_peekO_GAccount j_148.toNat 1 rfl rng fun hb160 hb161 hb162 hb163 => ?_
         unfold i64ok at hb160 hb161 hb162 hb163
         refine JJ_peekO2_GAccount ((j_148 - 1) : Int).toNat 0 rfl rng fun hb164 hb165 hb166 hb167 => ?_
         unfold i64ok at hb164 hb165 hb166 hb167
         refine JK_drawK [0, 0, 0, 6, 14, 0, 0, 64, 224, 480, 1023, 2047, 4095] fmix ?_
         refine Dv [] Vm (Dv [] Vm (Dv [] Vm (Dv [0] (Vi sl35 0) (Dv [0] (VldA sh38 0) (Dv [] Vm (Dv [] Vm (Dv [] Vsub (Dv [0] (Vi sl35 0) (Dv [0] (VldA sh38 0) ?_)))))))))
         refine Dx [1] [] [1, 0] (fun G => vi (cmpp (data_147.getD j_148.toNat default) (data_147.getD ((j_148 - 1) : Int).toNat default))) [fun G => SP.fact (i64ok (cmpp (data_147.getD j_148.toNat default) (data_147.getD ((j_148 - 1) : Int).toNat default)))] (fun G => xE («as» := [(.agg #[vi ((data_147.getD j_148.toNat default).Query), vi ((data_147.getD j_148.toNat default).Turns), vi ((data_147.getD j_148.toNat default).Steps), vi ((data_147.getD j_148.toNat default).Cost)] : Value), (.agg #[vi ((data_147.getD ((j_148 - 1) : Int).toNat default).Query), vi ((data_147.getD ((j_148 - 1) : Int).toNat default).Turns), vi ((data_147.getD ((j_148 - 1) : Int).toNat default).Steps), vi ((data_147.getD ((j_148 - 1) : Int).toNat default).Cost)] : Value)] ++ cmpC) [0] hcmpc rfl rfl rfl (by simp) rfl (hcmpF (data_147.getD j_148.toNat default) (data_147.getD ((j_148 - 1) : Int).toNat default)  pre pre pre pre pre pre pre pre)) (Dv [] Vlss (Dv [] Vnot ?_))
         refine Dn ⟨by kernel_rfl, fun G => ?_⟩
         refine Jw2 [(0, vl dataa0 datak0 data), (1, vi a), (2, vi b), (3, .func (.func cmpF) #[] cmpC.toArray), (9, vi i_19), (10, vi j_5), (12, vi j_148), (124, vb (!(decide ((cmpp (data_147.getD j_148.toNat default) (data_147.getD ((j_148 - 1) : Int).toNat default)) < 0))))] [0, 1] [SP.fact (i64ok (cmpp (data_147.getD j_148.toNat default) (data_147.getD ((j_148 - 1) : Int).toNat default)))] ?_
         refine Jf 2 rfl ?_; rintro he168
         unfold i64ok at he168
         refine Jk [0, 0] ?_
         refine Kc ?_ ?_
         · intro h169
           have h171 := not_true h169
           have g172 := of_decide_eq_false h171
           refine Jl [0] (Ent.oread2 _ _ _ _ _ _) ?_
           refine Ke ?_
           have hR173 := q2 hM149 data_147 (by simp only [slices_partialInsertionSortCmpFunc_Account_L3, h157, h169, h171, cs4])
           exact Kg (data_147, j_148) [1, 0] ⟨(by assumption), (by first | assumption | omega), (by first | assumption | omega), (by first | assumption | omega)⟩
         intro h169
         have h175 := not_false h169
         have g176 := of_decide_eq_true h175
         refine KS ?_
         refine JK_drawK [0, 0, 0, 0, 8, 0, 0, 64, 224, 480, 0, 0, 3072, 7168, 16355, 32739, 65535, 131071] fmix ?_
         refine Dv [] Vm (Dv [] Vm (Dv [] Vm (Dv [] Vm (Dv [] Vsub (Dv [] Vm (Dv [] Vm (Dv [] Vsub (Dv [0] (Vi sl35 0) (Dv [0] (VldA sh38 0) ?_)))))))))
         refine Dv [] Vm (Dv [] Vm (Dv [0] (Vi sl35 0) (Dv [0] (VldA sh38 0) (Dv [0] (Vi sl35 0) ?_))))
         refine Dx0 [0] [0] [0] [fun G => os (vl dataa0 datak0 data) (data_147.set j_148.toNat (data_147.getD ((j_148 - 1) : Int).toNat default))] (fun G => xp [0] rfl (Ent.oread2 _ _ _ _ _ _) (xS (So (Rs := []) [0] sh38 (data_147.getD ((j_148 - 1) : Int).toNat default) (fun h => ⟨rfl, (by unfold i64ok; first | omega | (dsimp only; omega)), (by unfold i64ok; first | omega | (dsimp only; omega)), (by unfold i64ok; first | omega | (dsimp only; omega)), (by unfold i64ok; first | omega | (dsimp only; omega))⟩)))) (Dv [2] (Vi sl35 0) ?_)
         refine Dx0 [2] [2] [0] [fun G => os (vl dataa0 datak0 data) ((data_147.set j_148.toNat (data_147.getD ((j_148 - 1) : Int).toNat default)).set ((j_148 - 1) : Int).toNat (data_147.getD j_148.toNat default))] (fun G => xS (So (Rs := []) [0] sh38 (data_147.getD j_148.toNat default) (fun h => ⟨rfl, (by unfold i64ok; first | omega | (dsimp only; omega)), (by unfold i64ok; first | omega | (dsimp only; omega)), (by unfold i64ok; first | omega | (dsimp only; omega)), (by unfold i64ok; first | omega | (dsimp only; omega))⟩))) ?_
         refine Dn ⟨by kernel_rfl, fun G => ?_⟩
         refine Jw2 [(0, vl dataa0 datak0 data), (1, vi a), (2, vi b), (3, .func (.func cmpF) #[] cmpC.toArray), (9, vi i_19), (10, vi j_5), (12, vi j_148)] [1] [os (vl dataa0 datak0 data) ((data_147.set j_148.toNat (data_147.getD ((j_148 - 1) : Int).toNat default)).set ((j_148 - 1) : Int).toNat (data_147.getD j_148.toNat default))] ?_
         refine KS ?_
         refine Oq Vm (Oq Vadd (Oq Va (KS ?_)))
         exact Kg (r159, ((data_147.set j_148.toNat (data_147.getD ((j_148 - 1) : Int).toNat default)).set ((j_148 - 1) : Int).toNat (data_147.getD j_148.toNat default)), (j_148 + 1)) [0, 1] ⟨(q3 hM149 (by simp only [slices_partialInsertionSortCmpFunc_Account_L3, h157, h169, h175, cs4])), (by omega), (by omega), (by omega), (by omega)⟩
       intro h157
       have g177 := of_decide_eq_false h157
       obtain rfl : r146 = 0 := by omega
       refine Ke ?_
       have hR178 := q2 hM149 data_147 (by simp only [slices_partialInsertionSortCmpFunc_Account_L3, h157, cs4])
       exact Kg (data_147, j_148) [0, 1] ⟨(by assumption), (by first | assumption | omega), (by first | assumption | omega), (by first | assumption | omega)⟩
     rintro ⟨data_147, j_148⟩ ⟨hR154, hi151, hi152, hk153⟩
     refine JJ_nx fun _ _ hL hA => ?_; dsimp only at hL hA; subst hL hA
     refine Fb 32 1 fun hl179 => ?_
     refine Fl 1 fun hn180 => ?_
     refine KS ?_
     refine Oq Vm (Oq Vadd (Oq Va (KS ?_)))
     exact Kg (r17, data_147, i_19, (j_5 + 1)) [1, 0] ⟨(q3 hM6 (by simp only [slices_partialInsertionSortCmpFunc_Account_L0, h15, h52, h57, h70, h144, hR25, hR154, cs4])), (by omega), (by omega), (by omega), (by omega), (by omega), iv1⟩
   intro h144
   have g181 := of_decide_eq_false h144
   refine KS ?_
   refine Oq Vm (Oq Vadd (Oq Va (KS ?_)))
   exact Kg (r17, ((data_3.set i_19.toNat (data_3.getD ((i_19 - 1) : Int).toNat default)).set ((i_19 - 1) : Int).toNat (data_3.getD i_19.toNat default)), i_19, (j_5 + 1)) [1, 0] ⟨(q3 hM6 (by simp only [slices_partialInsertionSortCmpFunc_Account_L0, h15, h52, h57, h70, h144, hR25, cs4])), (by omega), (by omega), (by omega), (by omega), (by omega), iv1⟩
 intro h15
 have g182 := of_decide_eq_false h15
 obtain rfl : r2 = 0 := by omega
 refine Ke ?_
 have hR183 := q2 hM6 (.brk data_3) (by simp only [slices_partialInsertionSortCmpFunc_Account_L0, h15, cs4])
 refine KS ?_
 refine Oq Va (KS ?_)
 refine Fl 0 fun hn184 => ?_
 have hq := q4 hrr (false, data_3) (by simp only [slices_partialInsertionSortCmpFunc_Account, h15, hR183, cs4]); subst hq
 exact Kr () rfl (.tmp rfl .nil) [0] en
theorem fn43 (data : List GAccount) (dataa0 : Option Addr) (datak0 : Nat) (a : Int) (b : Int) (pivot : Int) (cmpF : FuncId) (cmpC : List Value) (cmpp : GAccount → GAccount → Int) (cmpA : List SP) (ha_0 : i64ok a) (hb_0 : i64ok b) (hpivot_0 : i64ok pivot) (hcmpc : callable Try.prog cmpF = true) (hcmpF : ∀ x0 x1, i64ok x0.Query → i64ok x0.Turns → i64ok x0.Steps → i64ok x0.Cost → i64ok x1.Query → i64ok x1.Turns → i64ok x1.Steps → i64ok x1.Cost → FT Try.prog cmpF ([(.agg #[vi x0.Query, vi x0.Turns, vi x0.Steps, vi x0.Cost] : Value), (.agg #[vi x1.Query, vi x1.Turns, vi x1.Steps, vi x1.Cost] : Value)] ++ cmpC).toArray ([] ++ [pAll cmpA]) (fun _ : Unit => i64ok (cmpp x0 x1)) (fun _ => vi (cmpp x0 x1)) (fun _ => [])) (ha0 : 0 ≤ a ∧ a ≤ b ∧ b ≤ (data.length : Int) ∧ data.length ≤ 65535 ∧ a ≤ pivot ∧ pivot < b) (rr : Int × List GAccount) (hrr : slices_partitionEqualCmpFunc_Account data a b pivot cmpp = rr) : FT Try.prog 43 #[vl dataa0 datak0 data, vi a, vi b, vi pivot, .func (.func cmpF) #[] cmpC.toArray] [O dataa0 datak0 data, pAll cmpA] (fun g : Unit => i64ok rr.1 ∧ (a < rr.1 ∧ rr.1 ≤ b) ∧ (rr.2.length = data.length)) (fun g => vi rr.1) (fun g => [os (vl dataa0 datak0 data) rr.2]) := by
 refine FTi Try.func43 fun w0 M0 F0 => ?_
 unfold i64ok at ha_0 hb_0 hpivot_0
 refine Fb 32 0 fun hl1 => ?_
 refine KS ?_
 refine Oq Va (KS ?_)
 refine JJ_peekO_GAccount pivot.toNat 0 rfl rng fun hb2 hb3 hb4 hb5 => ?_
 unfold i64ok at hb2 hb3 hb4 hb5
 refine JJ_peekO2_GAccount a.toNat 0 rfl rng fun hb6 hb7 hb8 hb9 => ?_
 unfold i64ok at hb6 hb7 hb8 hb9
 refine JK_drawK [0, 0, 0, 0, 0, 0, 48, 112, 0, 0, 768, 1792, 4083, 8179, 16383, 32767] fmix ?_
 refine Dv [] Vm (Dv [] Vm (Dv [] Vm (Dv [] Vm (Dv [] Vm (Dv [] Vm (Dv [0] (Vi sl35 0) (Dv [0] (VldA sh38 0) (Dv [] Vm (Dv [] Vm ?_)))))))))
 refine Dv [0] (Vi sl35 0) (Dv [0] (VldA sh38 0) (Dv [0] (Vi sl35 0) ?_))
 refine Dx0 [0] [0] [0] [fun G => os (vl dataa0 datak0 data) (data.set a.toNat (data.getD pivot.toNat default))] (fun G => xp [0] rfl (Ent.oread2 _ _ _ _ _ _) (xS (So (Rs := []) [0] sh38 (data.getD pivot.toNat default) (fun h => ⟨rfl, (by unfold i64ok; first | omega | (dsimp only; omega)), (by unfold i64ok; first | omega | (dsimp only; omega)), (by unfold i64ok; first | omega | (dsimp only; omega)), (by unfold i64ok; first | omega | (dsimp only; omega))⟩)))) (Dv [2] (Vi sl35 0) ?_)
 refine Dx0 [2] [2] [0] [fun G => os (vl dataa0 datak0 data) ((data.set a.toNat (data.getD pivot.toNat default)).set pivot.toNat (data.getD a.toNat default))] (fun G => xS (So (Rs := []) [0] sh38 (data.getD a.toNat default) (fun h => ⟨rfl, (by unfold i64ok; first | omega | (dsimp only; omega)), (by unfold i64ok; first | omega | (dsimp only; omega)), (by unfold i64ok; first | omega | (dsimp only; omega)), (by unfold i64ok; first | omega | (dsimp only; omega))⟩))) ?_
 refine Dn ⟨by kernel_rfl, fun G => ?_⟩
 refine Jw2 [(0, vl dataa0 datak0 data), (1, vi a), (2, vi b), (4, .func (.func cmpF) #[] cmpC.toArray)] [1] [os (vl dataa0 datak0 data) ((data.set a.toNat (data.getD pivot.toNat default)).set pivot.toNat (data.getD a.toNat default))] ?_
 refine KS ?_
 refine Oq Vm (Oq Vadd (Oq Vm (Oq Vsub (Oq Va (Oq Va (KS ?_))))))
 have hterm18 : slices_partitionEqualCmpFunc_Account_L0 a b cmpp ((b - a).toNat + 2) ((data.set a.toNat (data.getD pivot.toNat default)).set pivot.toNat (data.getD a.toNat default)) (a + 1) (b - 1) ≠ LR.oof := (pe0_t _ _ _ _ (by omega) (by omega) (by omega) (by omega) (by omega))
 refine Kl (γ := Nat × List GAccount × Int × Int) (fun (r10, data_11, i_12, j_13) => ⟨[(0, vl dataa0 datak0 data), (1, vi a), (4, .func (.func cmpF) #[] cmpC.toArray), (11, vi i_12), (12, vi j_13)], [pAll cmpA, os (vl dataa0 datak0 data) data_11], slices_partitionEqualCmpFunc_Account_L0 a b cmpp r10 data_11 i_12 j_13 = slices_partitionEqualCmpFunc_Account_L0 a b cmpp ((b - a).toNat + 2) ((data.set a.toNat (data.getD pivot.toNat default)).set pivot.toNat (data.getD a.toNat default)) (a + 1) (b - 1) ∧ (-9223372036854775808 ≤ i_12 ∧ i_12 ≤ 9223372036854775807) ∧ (-9223372036854775808 ≤ j_13 ∧ j_13 ≤ 9223372036854775807) ∧ (a + 1 ≤ i_12 ∧ i_12 ≤ j_13 + 2 ∧ j_13 ≤ b - 1 ∧ i_12 ≤ b), r10⟩) (((b - a).toNat + 2), ((data.set a.toNat (data.getD pivot.toNat default)).set pivot.toNat (data.getD a.toNat default)), (a + 1), (b - 1)) [0, 1] ⟨rfl, (by omega), (by omega), iv0⟩ ?_
 rintro ⟨r10, data_11, i_12, j_13⟩ ⟨hM14, hk15, hk16, hv17⟩
 refine JJ_nx fun _ _ hL hA => ?_; dsimp only at hL hA; subst hL hA
 refine Fb 32 1 fun hl19 => ?_
 refine Fl 1 fun hn20 => ?_
 rcases r10 with _ | r10
 · exact absurd (hM14.symm.trans rfl) hterm18
 refine KS ?_
 have hterm26 : slices_partitionEqualCmpFunc_Account_L1 a cmpp data_11 j_13 ((b - a).toNat + 2) i_12 ≠ LR.oof := (pe1_t (by omega) (by omega))
 refine KjD (γ := Int) (fun i_22 => ⟨[(0, vl dataa0 datak0 data), (1, vi a), (4, .func (.func cmpF) #[] cmpC.toArray), (11, vi i_22), (12, vi j_13)], [pAll cmpA, os (vl dataa0 datak0 data) data_11], slices_partitionEqualCmpFunc_Account_L1 a cmpp data_11 j_13 ((b - a).toNat + 2) i_12 = .brk i_22 ∧ (-9223372036854775808 ≤ i_22 ∧ i_22 ≤ 9223372036854775807) ∧ (i_12 ≤ i_22 ∧ (i_22 ≤ j_13 + 1 ∨ i_22 = i_12)), 0⟩) ?_ ?_
 · skip
   refine Kl (γ := Nat × Int) (fun (r21, i_22) => ⟨[(0, vl dataa0 datak0 data), (1, vi a), (4, .func (.func cmpF) #[] cmpC.toArray), (11, vi i_22), (12, vi j_13)], [pAll cmpA, os (vl dataa0 datak0 data) data_11], slices_partitionEqualCmpFunc_Account_L1 a cmpp data_11 j_13 r21 i_22 = slices_partitionEqualCmpFunc_Account_L1 a cmpp data_11 j_13 ((b - a).toNat + 2) i_12 ∧ (-9223372036854775808 ≤ i_22 ∧ i_22 ≤ 9223372036854775807) ∧ (i_12 ≤ i_22 ∧ (i_22 ≤ j_13 + 1 ∨ i_22 = i_12)), r21⟩) (((b - a).toNat + 2), i_12) [0, 1] ⟨rfl, (by omega), iv0⟩ ?_
   rintro ⟨r21, i_22⟩ ⟨hM23, hk24, hv25⟩
   refine JJ_nx fun _ _ hL hA => ?_; dsimp only at hL hA; subst hL hA
   refine Fb 32 1 fun hl28 => ?_
   refine Fl 1 fun hn29 => ?_
   rcases r21 with _ | r21
   · exact absurd (hM23.symm.trans rfl) hterm26
   refine KS ?_
   refine bool_split (decide (i_22 ≤ j_13)) ?_ ?_
   · intro h30
     have g31 := of_decide_eq_true h30
     refine JJ_peekO_GAccount a.toNat 1 rfl rng fun hb32 hb33 hb34 hb35 => ?_
     unfold i64ok at hb32 hb33 hb34 hb35
     refine JJ_peekO2_GAccount i_22.toNat 0 rfl rng fun hb36 hb37 hb38 hb39 => ?_
     unfold i64ok at hb36 hb37 hb38 hb39
     refine JK_drawK [0, 0, 3, 7, 15, 15, 15, 111, 239, 15, 15, 1551, 3599, 8191, 16383, 32767, 65535] fmix ?_
     refine Dv [] Vm (Dv [] Vm (Db h30 [] Vleq (Dv [] Vm (Dv [] Vm (Dv [] Vm (Dv [] Vm (Dv [0] (Vi sl35 0) (Dv [0] (VldA sh38 0) (Dv [] Vm ?_)))))))))
     refine Dv [] Vm (Dv [0] (Vi sl35 0) (Dv [0] (VldA sh38 0) (Dx [1] [] [1, 0] (fun G => vi (cmpp (data_11.getD a.toNat default) (data_11.getD i_22.toNat default))) [fun G => SP.fact (i64ok (cmpp (data_11.getD a.toNat default) (data_11.getD i_22.toNat default)))] (fun G => xE («as» := [(.agg #[vi ((data_11.getD a.toNat default).Query), vi ((data_11.getD a.toNat default).Turns), vi ((data_11.getD a.toNat default).Steps), vi ((data_11.getD a.toNat default).Cost)] : Value), (.agg #[vi ((data_11.getD i_22.toNat default).Query), vi ((data_11.getD i_22.toNat default).Turns), vi ((data_11.getD i_22.toNat default).Steps), vi ((data_11.getD i_22.toNat default).Cost)] : Value)] ++ cmpC) [0] hcmpc rfl rfl rfl (by simp) rfl (hcmpF (data_11.getD a.toNat default) (data_11.getD i_22.toNat default)  pre pre pre pre pre pre pre pre)) (Dv [] Vlss (Dv [] Vnot (Dv [] Vpt ?_))))))
     refine Dn ⟨by kernel_rfl, fun G => ?_⟩
     refine Jw2 [(0, vl dataa0 datak0 data), (1, vi a), (4, .func (.func cmpF) #[] cmpC.toArray), (11, vi i_22), (12, vi j_13), (47, vb (!(decide ((cmpp (data_11.getD a.toNat default) (data_11.getD i_22.toNat default)) < 0))))] [0, 1] [SP.fact (i64ok (cmpp (data_11.getD a.toNat default) (data_11.getD i_22.toNat default)))] ?_
     refine Jf 2 rfl ?_; rintro he40
     unfold i64ok at he40
     refine Jk [0, 0] ?_
     refine Kc ?_ ?_
     · intro h41
       have h43 := not_true h41
       have g44 := of_decide_eq_false h43
       refine KS ?_
       refine Oq Vm (Oq Vadd (Oq Va (KS ?_)))
       refine Jl [0] (Ent.oread2 _ _ _ _ _ _) ?_
       exact Kg (r21, (i_22 + 1)) [1, 0] ⟨(q3 hM23 (by simp only [slices_partitionEqualCmpFunc_Account_L1, h30, h41, h43, cs4])), (by omega), iv1⟩
     intro h41
     have h46 := not_false h41
     have g47 := of_decide_eq_true h46
     refine Jl [0] (Ent.oread2 _ _ _ _ _ _) ?_
     refine Ke ?_
     have hR48 := q2 hM23 (.brk i_22) (by simp only [slices_partitionEqualCmpFunc_Account_L1, h30, h41, h46, cs4])
     exact Kg i_22 [1, 0] ⟨(by assumption), (by first | assumption | omega), (by first | assumption | omega)⟩
   intro h30
   have g49 := of_decide_eq_false h30
   refine Kq [0, 0, 3, 7, 15, 15, 15, 111, 239, 15, 15, 1551, 3599, 8191, 16383, 32767, 65535] fmix ?_
   refine Qv [] Vm (Qv [] Vm (Qb h30 [] Vleq (Qv [] Vm (Qs (Qs (Qs (Qs (Qs (Qs ?_)))))))))
   refine Qs (Qs (Qs (Qs (Qs (Qs (Qv [] Vpf ?_))))))
   refine Qn ⟨by kernel_rfl, ?_⟩
   refine Kf ?_
   refine Ke ?_
   have hR50 := q2 hM23 (.brk i_22) (by simp only [slices_partitionEqualCmpFunc_Account_L1, h30, cs4])
   exact Kg i_22 [0, 1] ⟨(by assumption), (by first | assumption | omega), (by first | assumption | omega)⟩
 rintro i_22 ⟨hR27, hk24, hv25⟩
 refine JJ_nx fun _ _ hL hA => ?_; dsimp only at hL hA; subst hL hA
 refine Fb 32 1 fun hl51 => ?_
 refine Fl 1 fun hn52 => ?_
 refine KS ?_
 have hterm58 : slices_partitionEqualCmpFunc_Account_L2 a cmpp data_11 i_22 ((b - a).toNat + 2) j_13 ≠ LR.oof := (pe2_t (by omega) (by omega))
 refine KjD (γ := Int) (fun j_54 => ⟨[(0, vl dataa0 datak0 data), (1, vi a), (4, .func (.func cmpF) #[] cmpC.toArray), (11, vi i_22), (12, vi j_54)], [pAll cmpA, os (vl dataa0 datak0 data) data_11], slices_partitionEqualCmpFunc_Account_L2 a cmpp data_11 i_22 ((b - a).toNat + 2) j_13 = .brk j_54 ∧ (-9223372036854775808 ≤ j_54 ∧ j_54 ≤ 9223372036854775807) ∧ (j_54 ≤ j_13 ∧ (i_22 - 1 ≤ j_54 ∨ j_54 = j_13)), 0⟩) ?_ ?_
 · skip
   refine Kl (γ := Nat × Int) (fun (r53, j_54) => ⟨[(0, vl dataa0 datak0 data), (1, vi a), (4, .func (.func cmpF) #[] cmpC.toArray), (11, vi i_22), (12, vi j_54)], [pAll cmpA, os (vl dataa0 datak0 data) data_11], slices_partitionEqualCmpFunc_Account_L2 a cmpp data_11 i_22 r53 j_54 = slices_partitionEqualCmpFunc_Account_L2 a cmpp data_11 i_22 ((b - a).toNat + 2) j_13 ∧ (-9223372036854775808 ≤ j_54 ∧ j_54 ≤ 9223372036854775807) ∧ (j_54 ≤ j_13 ∧ (i_22 - 1 ≤ j_54 ∨ j_54 = j_13)), r53⟩) (((b - a).toNat + 2), j_13) [0, 1] ⟨rfl, (by omega), iv0⟩ ?_
   rintro ⟨r53, j_54⟩ ⟨hM55, hk56, hv57⟩
   refine JJ_nx fun _ _ hL hA => ?_; dsimp only at hL hA; subst hL hA
   refine Fb 32 1 fun hl60 => ?_
   refine Fl 1 fun hn61 => ?_
   rcases r53 with _ | r53
   · exact absurd (hM55.symm.trans rfl) hterm58
   refine KS ?_
   refine bool_split (decide (i_22 ≤ j_54)) ?_ ?_
   · intro h62
     have g63 := of_decide_eq_true h62
     refine JJ_peekO_GAccount a.toNat 1 rfl rng fun hb64 hb65 hb66 hb67 => ?_
     unfold i64ok at hb64 hb65 hb66 hb67
     refine JJ_peekO2_GAccount j_54.toNat 0 rfl rng fun hb68 hb69 hb70 hb71 => ?_
     unfold i64ok at hb68 hb69 hb70 hb71
     refine JK_drawK [0, 0, 3, 7, 15, 15, 15, 111, 239, 15, 15, 1551, 3599, 8191, 16383, 32767] fmix ?_
     refine Dv [] Vm (Dv [] Vm (Db h62 [] Vleq (Dv [] Vm (Dv [] Vm (Dv [] Vm (Dv [] Vm (Dv [0] (Vi sl35 0) (Dv [0] (VldA sh38 0) (Dv [] Vm ?_)))))))))
     refine Dv [] Vm (Dv [0] (Vi sl35 0) (Dv [0] (VldA sh38 0) (Dx [1] [] [1, 0] (fun G => vi (cmpp (data_11.getD a.toNat default) (data_11.getD j_54.toNat default))) [fun G => SP.fact (i64ok (cmpp (data_11.getD a.toNat default) (data_11.getD j_54.toNat default)))] (fun G => xE («as» := [(.agg #[vi ((data_11.getD a.toNat default).Query), vi ((data_11.getD a.toNat default).Turns), vi ((data_11.getD a.toNat default).Steps), vi ((data_11.getD a.toNat default).Cost)] : Value), (.agg #[vi ((data_11.getD j_54.toNat default).Query), vi ((data_11.getD j_54.toNat default).Turns), vi ((data_11.getD j_54.toNat default).Steps), vi ((data_11.getD j_54.toNat default).Cost)] : Value)] ++ cmpC) [0] hcmpc rfl rfl rfl (by simp) rfl (hcmpF (data_11.getD a.toNat default) (data_11.getD j_54.toNat default)  pre pre pre pre pre pre pre pre)) (Dv [] Vlss (Dv [] Vpt ?_)))))
     refine Dn ⟨by kernel_rfl, fun G => ?_⟩
     refine Jw2 [(0, vl dataa0 datak0 data), (1, vi a), (4, .func (.func cmpF) #[] cmpC.toArray), (11, vi i_22), (12, vi j_54), (65, vb (decide ((cmpp (data_11.getD a.toNat default) (data_11.getD j_54.toNat default)) < 0)))] [0, 1] [SP.fact (i64ok (cmpp (data_11.getD a.toNat default) (data_11.getD j_54.toNat default)))] ?_
     refine Jf 2 rfl ?_; rintro he72
     unfold i64ok at he72
     refine Jk [0, 0] ?_
     refine Kc ?_ ?_
     · intro h73
       have g74 := of_decide_eq_true h73
       refine KS ?_
       refine Oq Vm (Oq Vsub (Oq Va (KS ?_)))
       refine Jl [0] (Ent.oread2 _ _ _ _ _ _) ?_
       exact Kg (r53, (j_54 - 1)) [1, 0] ⟨(q3 hM55 (by simp only [slices_partitionEqualCmpFunc_Account_L2, h62, h73, cs4])), (by omega), iv1⟩
     intro h73
     have g75 := of_decide_eq_false h73
     refine Jl [0] (Ent.oread2 _ _ _ _ _ _) ?_
     refine Ke ?_
     have hR76 := q2 hM55 (.brk j_54) (by simp only [slices_partitionEqualCmpFunc_Account_L2, h62, h73, cs4])
     exact Kg j_54 [1, 0] ⟨(by assumption), (by first | assumption | omega), (by first | assumption | omega)⟩
   intro h62
   have g77 := of_decide_eq_false h62
   refine Kq [0, 0, 3, 7, 15, 15, 15, 111, 239, 15, 15, 1551, 3599, 8191, 16383, 32767] fmix ?_
   refine Qv [] Vm (Qv [] Vm (Qb h62 [] Vleq (Qv [] Vm (Qs (Qs (Qs (Qs (Qs (Qs ?_)))))))))
   refine Qs (Qs (Qs (Qs (Qs (Qv [] Vpf ?_)))))
   refine Qn ⟨by kernel_rfl, ?_⟩
   refine Kf ?_
   refine Ke ?_
   have hR78 := q2 hM55 (.brk j_54) (by simp only [slices_partitionEqualCmpFunc_Account_L2, h62, cs4])
   exact Kg j_54 [0, 1] ⟨(by assumption), (by first | assumption | omega), (by first | assumption | omega)⟩
 rintro j_54 ⟨hR59, hk56, hv57⟩
 refine JJ_nx fun _ _ hL hA => ?_; dsimp only at hL hA; subst hL hA
 refine Fb 32 1 fun hl79 => ?_
 refine Fl 1 fun hn80 => ?_
 refine KS ?_
 refine Oq Vm (Oq Vm (Oq Vgtr (KS ?_)))
 refine Kc ?_ ?_
 · intro h81
   have g82 := of_decide_eq_true h81
   refine Ke ?_
   have hR83 := q2 hM14 (.brk (data_11, i_22)) (by simp only [slices_partitionEqualCmpFunc_Account_L0, h81, hR27, hR59, cs4])
   refine KS ?_
   refine Oq Vm (Oq Va (KS ?_))
   refine Fl 1 fun hn84 => ?_
   have hq := q4 hrr (i_22, data_11) (by simp only [slices_partitionEqualCmpFunc_Account, h81, hR27, hR59, hR83, cs4]); subst hq
   exact Kr () rfl (.tmp rfl .nil) [1] en
 intro h81
 have g85 := of_decide_eq_false h81
 refine KS ?_
 refine JJ_peekO_GAccount j_54.toNat 1 rfl rng fun hb86 hb87 hb88 hb89 => ?_
 unfold i64ok at hb86 hb87 hb88 hb89
 refine JJ_peekO2_GAccount i_22.toNat 0 rfl rng fun hb90 hb91 hb92 hb93 => ?_
 unfold i64ok at hb90 hb91 hb92 hb93
 refine JK_drawK [0, 0, 0, 0, 0, 0, 48, 112, 0, 0, 768, 1792, 4083, 8179, 16383, 32767] fmix ?_
 refine Dv [] Vm (Dv [] Vm (Dv [] Vm (Dv [] Vm (Dv [] Vm (Dv [] Vm (Dv [0] (Vi sl35 0) (Dv [0] (VldA sh38 0) (Dv [] Vm (Dv [] Vm ?_)))))))))
 refine Dv [0] (Vi sl35 0) (Dv [0] (VldA sh38 0) (Dv [0] (Vi sl35 0) ?_))
 refine Dx0 [0] [0] [0] [fun G => os (vl dataa0 datak0 data) (data_11.set i_22.toNat (data_11.getD j_54.toNat default))] (fun G => xp [0] rfl (Ent.oread2 _ _ _ _ _ _) (xS (So (Rs := []) [0] sh38 (data_11.getD j_54.toNat default) (fun h => ⟨rfl, (by unfold i64ok; first | omega | (dsimp only; omega)), (by unfold i64ok; first | omega | (dsimp only; omega)), (by unfold i64ok; first | omega | (dsimp only; omega)), (by unfold i64ok; first | omega | (dsimp only; omega))⟩)))) (Dv [2] (Vi sl35 0) ?_)
 refine Dx0 [2] [2] [0] [fun G => os (vl dataa0 datak0 data) ((data_11.set i_22.toNat (data_11.getD j_54.toNat default)).set j_54.toNat (data_11.getD i_22.toNat default))] (fun G => xS (So (Rs := []) [0] sh38 (data_11.getD i_22.toNat default) (fun h => ⟨rfl, (by unfold i64ok; first | omega | (dsimp only; omega)), (by unfold i64ok; first | omega | (dsimp only; omega)), (by unfold i64ok; first | omega | (dsimp only; omega)), (by unfold i64ok; first | omega | (dsimp only; omega))⟩))) ?_
 refine Dn ⟨by kernel_rfl, fun G => ?_⟩
 refine Jw2 [(0, vl dataa0 datak0 data), (1, vi a), (4, .func (.func cmpF) #[] cmpC.toArray), (11, vi i_22), (12, vi j_54)] [1] [os (vl dataa0 datak0 data) ((data_11.set i_22.toNat (data_11.getD j_54.toNat default)).set j_54.toNat (data_11.getD i_22.toNat default))] ?_
 refine KS ?_
 refine Oq Vm (Oq Vadd (Oq Va (KS ?_)))
 refine Oq Vm (Oq Vsub (Oq Va (KS ?_)))
 exact Kg (r10, ((data_11.set i_22.toNat (data_11.getD j_54.toNat default)).set j_54.toNat (data_11.getD i_22.toNat default)), (i_22 + 1), (j_54 - 1)) [0, 1] ⟨(q3 hM14 (by simp only [slices_partitionEqualCmpFunc_Account_L0, h81, hR27, hR59, cs4])), (by omega), (by omega), iv1⟩
theorem fn44 (data : List GAccount) (dataa0 : Option Addr) (datak0 : Nat) (a : Int) (b : Int) (pivot : Int) (cmpF : FuncId) (cmpC : List Value) (cmpp : GAccount → GAccount → Int) (cmpA : List SP) (ha_0 : i64ok a) (hb_0 : i64ok b) (hpivot_0 : i64ok pivot) (hcmpc : callable Try.prog cmpF = true) (hcmpF : ∀ x0 x1, i64ok x0.Query → i64ok x0.Turns → i64ok x0.Steps → i64ok x0.Cost → i64ok x1.Query → i64ok x1.Turns → i64ok x1.Steps → i64ok x1.Cost → FT Try.prog cmpF ([(.agg #[vi x0.Query, vi x0.Turns, vi x0.Steps, vi x0.Cost] : Value), (.agg #[vi x1.Query, vi x1.Turns, vi x1.Steps, vi x1.Cost] : Value)] ++ cmpC).toArray ([] ++ [pAll cmpA]) (fun _ : Unit => i64ok (cmpp x0 x1)) (fun _ => vi (cmpp x0 x1)) (fun _ => [])) (ha0 : 0 ≤ a ∧ a ≤ b ∧ b ≤ (data.length : Int) ∧ data.length ≤ 65535 ∧ a ≤ pivot ∧ pivot < b) (rr : Int × Bool × List GAccount) (hrr : slices_partitionCmpFunc_Account data a b pivot cmpp = rr) : FT Try.prog 44 #[vl dataa0 datak0 data, vi a, vi b, vi pivot, .func (.func cmpF) #[] cmpC.toArray] [O dataa0 datak0 data, pAll cmpA] (fun g : Unit => i64ok rr.1 ∧ (a ≤ rr.1 ∧ rr.1 < b) ∧ (rr.2.2.length = data.length)) (fun g => .tuple #[vi rr.1, vb rr.2.1]) (fun g => [os (vl dataa0 datak0 data) rr.2.2]) := by
 refine FTi Try.func44 fun w0 M0 F0 => ?_
 unfold i64ok at ha_0 hb_0 hpivot_0
 refine Fb 32 0 fun hl1 => ?_
 refine KS ?_
 refine Oq Va (Oq Va (KS ?_))
 refine JJ_peekO_GAccount pivot.toNat 0 rfl rng fun hb2 hb3 hb4 hb5 => ?_
 unfold i64ok at hb2 hb3 hb4 hb5
 refine JJ_peekO2_GAccount a.toNat 0 rfl rng fun hb6 hb7 hb8 hb9 => ?_
 unfold i64ok at hb6 hb7 hb8 hb9
 refine JK_drawK [0, 0, 0, 0, 0, 0, 48, 112, 0, 0, 768, 1792, 4083, 8179, 16383, 32767] fmix ?_
 refine Dv [] Vm (Dv [] Vm (Dv [] Vm (Dv [] Vm (Dv [] Vm (Dv [] Vm (Dv [0] (Vi sl35 0) (Dv [0] (VldA sh38 0) (Dv [] Vm (Dv [] Vm ?_)))))))))
 refine Dv [0] (Vi sl35 0) (Dv [0] (VldA sh38 0) (Dv [0] (Vi sl35 0) ?_))
 refine Dx0 [0] [0] [0] [fun G => os (vl dataa0 datak0 data) (data.set a.toNat (data.getD pivot.toNat default))] (fun G => xp [0] rfl (Ent.oread2 _ _ _ _ _ _) (xS (So (Rs := []) [0] sh38 (data.getD pivot.toNat default) (fun h => ⟨rfl, (by unfold i64ok; first | omega | (dsimp only; omega)), (by unfold i64ok; first | omega | (dsimp only; omega)), (by unfold i64ok; first | omega | (dsimp only; omega)), (by unfold i64ok; first | omega | (dsimp only; omega))⟩)))) (Dv [2] (Vi sl35 0) ?_)
 refine Dx0 [2] [2] [0] [fun G => os (vl dataa0 datak0 data) ((data.set a.toNat (data.getD pivot.toNat default)).set pivot.toNat (data.getD a.toNat default))] (fun G => xS (So (Rs := []) [0] sh38 (data.getD a.toNat default) (fun h => ⟨rfl, (by unfold i64ok; first | omega | (dsimp only; omega)), (by unfold i64ok; first | omega | (dsimp only; omega)), (by unfold i64ok; first | omega | (dsimp only; omega)), (by unfold i64ok; first | omega | (dsimp only; omega))⟩))) ?_
 refine Dn ⟨by kernel_rfl, fun G => ?_⟩
 refine Jw2 [(0, vl dataa0 datak0 data), (1, vi a), (2, vi b), (4, .func (.func cmpF) #[] cmpC.toArray)] [1] [os (vl dataa0 datak0 data) ((data.set a.toNat (data.getD pivot.toNat default)).set pivot.toNat (data.getD a.toNat default))] ?_
 refine KS ?_
 refine Oq Vm (Oq Vadd (Oq Vm (Oq Vsub (Oq Va (Oq Va (KS ?_))))))
 have hterm15 : slices_partitionCmpFunc_Account_L0 data a b pivot cmpp ((b - a).toNat + 2) (a + 1) ≠ LR.oof := (pt0_t (by omega) (by omega))
 refine KjD (γ := Int) (fun i_11 => ⟨[(0, vl dataa0 datak0 data), (1, vi a), (4, .func (.func cmpF) #[] cmpC.toArray), (12, vi i_11), (13, vi (b - 1))], [pAll cmpA, os (vl dataa0 datak0 data) ((data.set a.toNat (data.getD pivot.toNat default)).set pivot.toNat (data.getD a.toNat default))], slices_partitionCmpFunc_Account_L0 data a b pivot cmpp ((b - a).toNat + 2) (a + 1) = .brk i_11 ∧ (-9223372036854775808 ≤ i_11 ∧ i_11 ≤ 9223372036854775807) ∧ (a + 1 ≤ i_11 ∧ i_11 ≤ b), 0⟩) ?_ ?_
 · skip
   refine Kl (γ := Nat × Int) (fun (r10, i_11) => ⟨[(0, vl dataa0 datak0 data), (1, vi a), (4, .func (.func cmpF) #[] cmpC.toArray), (12, vi i_11), (13, vi (b - 1))], [pAll cmpA, os (vl dataa0 datak0 data) ((data.set a.toNat (data.getD pivot.toNat default)).set pivot.toNat (data.getD a.toNat default))], slices_partitionCmpFunc_Account_L0 data a b pivot cmpp r10 i_11 = slices_partitionCmpFunc_Account_L0 data a b pivot cmpp ((b - a).toNat + 2) (a + 1) ∧ (-9223372036854775808 ≤ i_11 ∧ i_11 ≤ 9223372036854775807) ∧ (a + 1 ≤ i_11 ∧ i_11 ≤ b), r10⟩) (((b - a).toNat + 2), (a + 1)) [0, 1] ⟨rfl, (by omega), iv0⟩ ?_
   rintro ⟨r10, i_11⟩ ⟨hM12, hk13, hv14⟩
   refine JJ_nx fun _ _ hL hA => ?_; dsimp only at hL hA; subst hL hA
   refine Fb 32 1 fun hl17 => ?_
   refine Fl 1 fun hn18 => ?_
   rcases r10 with _ | r10
   · exact absurd (hM12.symm.trans rfl) hterm15
   refine KS ?_
   refine bool_split (decide (i_11 ≤ (b - 1))) ?_ ?_
   · intro h19
     have g20 := of_decide_eq_true h19
     refine JJ_peekO_GAccount i_11.toNat 1 rfl rng fun hb21 hb22 hb23 hb24 => ?_
     unfold i64ok at hb21 hb22 hb23 hb24
     refine JJ_peekO2_GAccount a.toNat 0 rfl rng fun hb25 hb26 hb27 hb28 => ?_
     unfold i64ok at hb25 hb26 hb27 hb28
     refine JK_drawK [0, 0, 3, 7, 15, 15, 15, 111, 239, 15, 15, 1551, 3599, 8191, 16383, 32767] fmix ?_
     refine Dv [] Vm (Dv [] Vm (Db h19 [] Vleq (Dv [] Vm (Dv [] Vm (Dv [] Vm (Dv [] Vm (Dv [0] (Vi sl35 0) (Dv [0] (VldA sh38 0) (Dv [] Vm ?_)))))))))
     refine Dv [] Vm (Dv [0] (Vi sl35 0) (Dv [0] (VldA sh38 0) (Dx [1] [] [1, 0] (fun G => vi (cmpp (((data.set a.toNat (data.getD pivot.toNat default)).set pivot.toNat (data.getD a.toNat default)).getD i_11.toNat default) (((data.set a.toNat (data.getD pivot.toNat default)).set pivot.toNat (data.getD a.toNat default)).getD a.toNat default))) [fun G => SP.fact (i64ok (cmpp (((data.set a.toNat (data.getD pivot.toNat default)).set pivot.toNat (data.getD a.toNat default)).getD i_11.toNat default) (((data.set a.toNat (data.getD pivot.toNat default)).set pivot.toNat (data.getD a.toNat default)).getD a.toNat default)))] (fun G => xE («as» := [(.agg #[vi ((((data.set a.toNat (data.getD pivot.toNat default)).set pivot.toNat (data.getD a.toNat default)).getD i_11.toNat default).Query), vi ((((data.set a.toNat (data.getD pivot.toNat default)).set pivot.toNat (data.getD a.toNat default)).getD i_11.toNat default).Turns), vi ((((data.set a.toNat (data.getD pivot.toNat default)).set pivot.toNat (data.getD a.toNat default)).getD i_11.toNat default).Steps), vi ((((data.set a.toNat (data.getD pivot.toNat default)).set pivot.toNat (data.getD a.toNat default)).getD i_11.toNat default).Cost)] : Value), (.agg #[vi ((((data.set a.toNat (data.getD pivot.toNat default)).set pivot.toNat (data.getD a.toNat default)).getD a.toNat default).Query), vi ((((data.set a.toNat (data.getD pivot.toNat default)).set pivot.toNat (data.getD a.toNat default)).getD a.toNat default).Turns), vi ((((data.set a.toNat (data.getD pivot.toNat default)).set pivot.toNat (data.getD a.toNat default)).getD a.toNat default).Steps), vi ((((data.set a.toNat (data.getD pivot.toNat default)).set pivot.toNat (data.getD a.toNat default)).getD a.toNat default).Cost)] : Value)] ++ cmpC) [0] hcmpc rfl rfl rfl (by simp) rfl (hcmpF (((data.set a.toNat (data.getD pivot.toNat default)).set pivot.toNat (data.getD a.toNat default)).getD i_11.toNat default) (((data.set a.toNat (data.getD pivot.toNat default)).set pivot.toNat (data.getD a.toNat default)).getD a.toNat default)  pre pre pre pre pre pre pre pre)) (Dv [] Vlss (Dv [] Vpt ?_)))))
     refine Dn ⟨by kernel_rfl, fun G => ?_⟩
     refine Jw2 [(0, vl dataa0 datak0 data), (1, vi a), (4, .func (.func cmpF) #[] cmpC.toArray), (12, vi i_11), (13, vi (b - 1)), (47, vb (decide ((cmpp (((data.set a.toNat (data.getD pivot.toNat default)).set pivot.toNat (data.getD a.toNat default)).getD i_11.toNat default) (((data.set a.toNat (data.getD pivot.toNat default)).set pivot.toNat (data.getD a.toNat default)).getD a.toNat default)) < 0)))] [0, 1] [SP.fact (i64ok (cmpp (((data.set a.toNat (data.getD pivot.toNat default)).set pivot.toNat (data.getD a.toNat default)).getD i_11.toNat default) (((data.set a.toNat (data.getD pivot.toNat default)).set pivot.toNat (data.getD a.toNat default)).getD a.toNat default)))] ?_
     refine Jf 2 rfl ?_; rintro he29
     unfold i64ok at he29
     refine Jk [0, 0] ?_
     refine Kc ?_ ?_
     · intro h30
       have g31 := of_decide_eq_true h30
       refine KS ?_
       refine Oq Vm (Oq Vadd (Oq Va (KS ?_)))
       refine Jl [0] (Ent.oread2 _ _ _ _ _ _) ?_
       exact Kg (r10, (i_11 + 1)) [1, 0] ⟨(q3 hM12 (by simp only [slices_partitionCmpFunc_Account_L0, h19, h30, cs4])), (by omega), iv1⟩
     intro h30
     have g32 := of_decide_eq_false h30
     refine Jl [0] (Ent.oread2 _ _ _ _ _ _) ?_
     refine Ke ?_
     have hR33 := q2 hM12 (.brk i_11) (by simp only [slices_partitionCmpFunc_Account_L0, h19, h30, cs4])
     exact Kg i_11 [1, 0] ⟨(by assumption), (by first | assumption | omega), (by first | assumption | omega)⟩
   intro h19
   have g34 := of_decide_eq_false h19
   refine Kq [0, 0, 3, 7, 15, 15, 15, 111, 239, 15, 15, 1551, 3599, 8191, 16383, 32767] fmix ?_
   refine Qv [] Vm (Qv [] Vm (Qb h19 [] Vleq (Qv [] Vm (Qs (Qs (Qs (Qs (Qs (Qs ?_)))))))))
   refine Qs (Qs (Qs (Qs (Qs (Qv [] Vpf ?_)))))
   refine Qn ⟨by kernel_rfl, ?_⟩
   refine Kf ?_
   refine Ke ?_
   have hR35 := q2 hM12 (.brk i_11) (by simp only [slices_partitionCmpFunc_Account_L0, h19, cs4])
   exact Kg i_11 [0, 1] ⟨(by assumption), (by first | assumption | omega), (by first | assumption | omega)⟩
 rintro i_11 ⟨hR16, hk13, hv14⟩
 refine JJ_nx fun _ _ hL hA => ?_; dsimp only at hL hA; subst hL hA
 refine Fb 32 1 fun hl36 => ?_
 refine Fl 1 fun hn37 => ?_
 refine KS ?_
 have hterm43 : slices_partitionCmpFunc_Account_L1 data a pivot cmpp i_11 ((b - a).toNat + 2) (b - 1) ≠ LR.oof := (pt1_t (by omega) (by omega))
 refine KjD (γ := Int) (fun j_39 => ⟨[(0, vl dataa0 datak0 data), (1, vi a), (4, .func (.func cmpF) #[] cmpC.toArray), (12, vi i_11), (13, vi j_39)], [pAll cmpA, os (vl dataa0 datak0 data) ((data.set a.toNat (data.getD pivot.toNat default)).set pivot.toNat (data.getD a.toNat default))], slices_partitionCmpFunc_Account_L1 data a pivot cmpp i_11 ((b - a).toNat + 2) (b - 1) = .brk j_39 ∧ (-9223372036854775808 ≤ j_39 ∧ j_39 ≤ 9223372036854775807) ∧ (i_11 - 1 ≤ j_39 ∧ j_39 ≤ b - 1), 0⟩) ?_ ?_
 · skip
   refine Kl (γ := Nat × Int) (fun (r38, j_39) => ⟨[(0, vl dataa0 datak0 data), (1, vi a), (4, .func (.func cmpF) #[] cmpC.toArray), (12, vi i_11), (13, vi j_39)], [pAll cmpA, os (vl dataa0 datak0 data) ((data.set a.toNat (data.getD pivot.toNat default)).set pivot.toNat (data.getD a.toNat default))], slices_partitionCmpFunc_Account_L1 data a pivot cmpp i_11 r38 j_39 = slices_partitionCmpFunc_Account_L1 data a pivot cmpp i_11 ((b - a).toNat + 2) (b - 1) ∧ (-9223372036854775808 ≤ j_39 ∧ j_39 ≤ 9223372036854775807) ∧ (i_11 - 1 ≤ j_39 ∧ j_39 ≤ b - 1), r38⟩) (((b - a).toNat + 2), (b - 1)) [0, 1] ⟨rfl, (by omega), iv0⟩ ?_
   rintro ⟨r38, j_39⟩ ⟨hM40, hk41, hv42⟩
   refine JJ_nx fun _ _ hL hA => ?_; dsimp only at hL hA; subst hL hA
   refine Fb 32 1 fun hl45 => ?_
   refine Fl 1 fun hn46 => ?_
   rcases r38 with _ | r38
   · exact absurd (hM40.symm.trans rfl) hterm43
   refine KS ?_
   refine bool_split (decide (i_11 ≤ j_39)) ?_ ?_
   · intro h47
     have g48 := of_decide_eq_true h47
     refine JJ_peekO_GAccount j_39.toNat 1 rfl rng fun hb49 hb50 hb51 hb52 => ?_
     unfold i64ok at hb49 hb50 hb51 hb52
     refine JJ_peekO2_GAccount a.toNat 0 rfl rng fun hb53 hb54 hb55 hb56 => ?_
     unfold i64ok at hb53 hb54 hb55 hb56
     refine JK_drawK [0, 0, 3, 7, 15, 15, 15, 111, 239, 15, 15, 1551, 3599, 8191, 16383, 32767, 65535] fmix ?_
     refine Dv [] Vm (Dv [] Vm (Db h47 [] Vleq (Dv [] Vm (Dv [] Vm (Dv [] Vm (Dv [] Vm (Dv [0] (Vi sl35 0) (Dv [0] (VldA sh38 0) (Dv [] Vm ?_)))))))))
     refine Dv [] Vm (Dv [0] (Vi sl35 0) (Dv [0] (VldA sh38 0) (Dx [1] [] [1, 0] (fun G => vi (cmpp (((data.set a.toNat (data.getD pivot.toNat default)).set pivot.toNat (data.getD a.toNat default)).getD j_39.toNat default) (((data.set a.toNat (data.getD pivot.toNat default)).set pivot.toNat (data.getD a.toNat default)).getD a.toNat default))) [fun G => SP.fact (i64ok (cmpp (((data.set a.toNat (data.getD pivot.toNat default)).set pivot.toNat (data.getD a.toNat default)).getD j_39.toNat default) (((data.set a.toNat (data.getD pivot.toNat default)).set pivot.toNat (data.getD a.toNat default)).getD a.toNat default)))] (fun G => xE («as» := [(.agg #[vi ((((data.set a.toNat (data.getD pivot.toNat default)).set pivot.toNat (data.getD a.toNat default)).getD j_39.toNat default).Query), vi ((((data.set a.toNat (data.getD pivot.toNat default)).set pivot.toNat (data.getD a.toNat default)).getD j_39.toNat default).Turns), vi ((((data.set a.toNat (data.getD pivot.toNat default)).set pivot.toNat (data.getD a.toNat default)).getD j_39.toNat default).Steps), vi ((((data.set a.toNat (data.getD pivot.toNat default)).set pivot.toNat (data.getD a.toNat default)).getD j_39.toNat default).Cost)] : Value), (.agg #[vi ((((data.set a.toNat (data.getD pivot.toNat default)).set pivot.toNat (data.getD a.toNat default)).getD a.toNat default).Query), vi ((((data.set a.toNat (data.getD pivot.toNat default)).set pivot.toNat (data.getD a.toNat default)).getD a.toNat default).Turns), vi ((((data.set a.toNat (data.getD pivot.toNat default)).set pivot.toNat (data.getD a.toNat default)).getD a.toNat default).Steps), vi ((((data.set a.toNat (data.getD pivot.toNat default)).set pivot.toNat (data.getD a.toNat default)).getD a.toNat default).Cost)] : Value)] ++ cmpC) [0] hcmpc rfl rfl rfl (by simp) rfl (hcmpF (((data.set a.toNat (data.getD pivot.toNat default)).set pivot.toNat (data.getD a.toNat default)).getD j_39.toNat default) (((data.set a.toNat (data.getD pivot.toNat default)).set pivot.toNat (data.getD a.toNat default)).getD a.toNat default)  pre pre pre pre pre pre pre pre)) (Dv [] Vlss (Dv [] Vnot (Dv [] Vpt ?_))))))
     refine Dn ⟨by kernel_rfl, fun G => ?_⟩
     refine Jw2 [(0, vl dataa0 datak0 data), (1, vi a), (4, .func (.func cmpF) #[] cmpC.toArray), (12, vi i_11), (13, vi j_39), (66, vb (!(decide ((cmpp (((data.set a.toNat (data.getD pivot.toNat default)).set pivot.toNat (data.getD a.toNat default)).getD j_39.toNat default) (((data.set a.toNat (data.getD pivot.toNat default)).set pivot.toNat (data.getD a.toNat default)).getD a.toNat default)) < 0))))] [0, 1] [SP.fact (i64ok (cmpp (((data.set a.toNat (data.getD pivot.toNat default)).set pivot.toNat (data.getD a.toNat default)).getD j_39.toNat default) (((data.set a.toNat (data.getD pivot.toNat default)).set pivot.toNat (data.getD a.toNat default)).getD a.toNat default)))] ?_
     refine Jf 2 rfl ?_; rintro he57
     unfold i64ok at he57
     refine Jk [0, 0] ?_
     refine Kc ?_ ?_
     · intro h58
       have h60 := not_true h58
       have g61 := of_decide_eq_false h60
       refine KS ?_
       refine Oq Vm (Oq Vsub (Oq Va (KS ?_)))
       refine Jl [0] (Ent.oread2 _ _ _ _ _ _) ?_
       exact Kg (r38, (j_39 - 1)) [1, 0] ⟨(q3 hM40 (by simp only [slices_partitionCmpFunc_Account_L1, h47, h58, h60, cs4])), (by omega), iv1⟩
     intro h58
     have h63 := not_false h58
     have g64 := of_decide_eq_true h63
     refine Jl [0] (Ent.oread2 _ _ _ _ _ _) ?_
     refine Ke ?_
     have hR65 := q2 hM40 (.brk j_39) (by simp only [slices_partitionCmpFunc_Account_L1, h47, h58, h63, cs4])
     exact Kg j_39 [1, 0] ⟨(by assumption), (by first | assumption | omega), (by first | assumption | omega)⟩
   intro h47
   have g66 := of_decide_eq_false h47
   refine Kq [0, 0, 3, 7, 15, 15, 15, 111, 239, 15, 15, 1551, 3599, 8191, 16383, 32767, 65535] fmix ?_
   refine Qv [] Vm (Qv [] Vm (Qb h47 [] Vleq (Qv [] Vm (Qs (Qs (Qs (Qs (Qs (Qs ?_)))))))))
   refine Qs (Qs (Qs (Qs (Qs (Qs (Qv [] Vpf ?_))))))
   refine Qn ⟨by kernel_rfl, ?_⟩
   refine Kf ?_
   refine Ke ?_
   have hR67 := q2 hM40 (.brk j_39) (by simp only [slices_partitionCmpFunc_Account_L1, h47, cs4])
   exact Kg j_39 [0, 1] ⟨(by assumption), (by first | assumption | omega), (by first | assumption | omega)⟩
 rintro j_39 ⟨hR44, hk41, hv42⟩
 refine JJ_nx fun _ _ hL hA => ?_; dsimp only at hL hA; subst hL hA
 refine Fb 32 1 fun hl68 => ?_
 refine Fl 1 fun hn69 => ?_
 refine KS ?_
 refine Oq Vm (Oq Vm (Oq Vgtr (KS ?_)))
 refine Kc ?_ ?_
 · intro h70
   have g71 := of_decide_eq_true h70
   refine KS ?_
   refine JJ_peekO_GAccount a.toNat 1 rfl rng fun hb72 hb73 hb74 hb75 => ?_
   unfold i64ok at hb72 hb73 hb74 hb75
   refine JJ_peekO2_GAccount j_39.toNat 0 rfl rng fun hb76 hb77 hb78 hb79 => ?_
   unfold i64ok at hb76 hb77 hb78 hb79
   refine JK_drawK [0, 0, 0, 0, 0, 0, 48, 112, 0, 0, 768, 1792, 4083, 8179, 16383, 32767] fmix ?_
   refine Dv [] Vm (Dv [] Vm (Dv [] Vm (Dv [] Vm (Dv [] Vm (Dv [] Vm (Dv [0] (Vi sl35 0) (Dv [0] (VldA sh38 0) (Dv [] Vm (Dv [] Vm ?_)))))))))
   refine Dv [0] (Vi sl35 0) (Dv [0] (VldA sh38 0) (Dv [0] (Vi sl35 0) ?_))
   refine Dx0 [0] [0] [0] [fun G => os (vl dataa0 datak0 data) (((data.set a.toNat (data.getD pivot.toNat default)).set pivot.toNat (data.getD a.toNat default)).set j_39.toNat (((data.set a.toNat (data.getD pivot.toNat default)).set pivot.toNat (data.getD a.toNat default)).getD a.toNat default))] (fun G => xp [0] rfl (Ent.oread2 _ _ _ _ _ _) (xS (So (Rs := []) [0] sh38 (((data.set a.toNat (data.getD pivot.toNat default)).set pivot.toNat (data.getD a.toNat default)).getD a.toNat default) (fun h => ⟨rfl, (by unfold i64ok; first | omega | (dsimp only; omega)), (by unfold i64ok; first | omega | (dsimp only; omega)), (by unfold i64ok; first | omega | (dsimp only; omega)), (by unfold i64ok; first | omega | (dsimp only; omega))⟩)))) (Dv [2] (Vi sl35 0) ?_)
   refine Dx0 [2] [2] [0] [fun G => os (vl dataa0 datak0 data) ((((data.set a.toNat (data.getD pivot.toNat default)).set pivot.toNat (data.getD a.toNat default)).set j_39.toNat (((data.set a.toNat (data.getD pivot.toNat default)).set pivot.toNat (data.getD a.toNat default)).getD a.toNat default)).set a.toNat (((data.set a.toNat (data.getD pivot.toNat default)).set pivot.toNat (data.getD a.toNat default)).getD j_39.toNat default))] (fun G => xS (So (Rs := []) [0] sh38 (((data.set a.toNat (data.getD pivot.toNat default)).set pivot.toNat (data.getD a.toNat default)).getD j_39.toNat default) (fun h => ⟨rfl, (by unfold i64ok; first | omega | (dsimp only; omega)), (by unfold i64ok; first | omega | (dsimp only; omega)), (by unfold i64ok; first | omega | (dsimp only; omega)), (by unfold i64ok; first | omega | (dsimp only; omega))⟩))) ?_
   refine Dn ⟨by kernel_rfl, fun G => ?_⟩
   refine Jw2 [(0, vl dataa0 datak0 data), (13, vi j_39)] [1] [os (vl dataa0 datak0 data) ((((data.set a.toNat (data.getD pivot.toNat default)).set pivot.toNat (data.getD a.toNat default)).set j_39.toNat (((data.set a.toNat (data.getD pivot.toNat default)).set pivot.toNat (data.getD a.toNat default)).getD a.toNat default)).set a.toNat (((data.set a.toNat (data.getD pivot.toNat default)).set pivot.toNat (data.getD a.toNat default)).getD j_39.toNat default))] ?_
   refine KS ?_
   refine Oq Vm (Oq Va (Oq Va (KS ?_)))
   refine Fl 1 fun hn80 => ?_
   have hq := q4 hrr (j_39, true, ((((data.set a.toNat (data.getD pivot.toNat default)).set pivot.toNat (data.getD a.toNat default)).set j_39.toNat (((data.set a.toNat (data.getD pivot.toNat default)).set pivot.toNat (data.getD a.toNat default)).getD a.toNat default)).set a.toNat (((data.set a.toNat (data.getD pivot.toNat default)).set pivot.toNat (data.getD a.toNat default)).getD j_39.toNat default))) (by simp only [slices_partitionCmpFunc_Account, h70, hR16, hR44, cs4]); subst hq
   exact Kr () rfl (.tmp rfl (.tmp rfl .nil)) [1] en
 intro h70
 have g81 := of_decide_eq_false h70
 refine KS ?_
 refine JJ_peekO_GAccount j_39.toNat 1 rfl rng fun hb82 hb83 hb84 hb85 => ?_
 unfold i64ok at hb82 hb83 hb84 hb85
 refine JJ_peekO2_GAccount i_11.toNat 0 rfl rng fun hb86 hb87 hb88 hb89 => ?_
 unfold i64ok at hb86 hb87 hb88 hb89
 refine JK_drawK [0, 0, 0, 0, 0, 0, 48, 112, 0, 0, 768, 1792, 4083, 8179, 16383, 32767] fmix ?_
 refine Dv [] Vm (Dv [] Vm (Dv [] Vm (Dv [] Vm (Dv [] Vm (Dv [] Vm (Dv [0] (Vi sl35 0) (Dv [0] (VldA sh38 0) (Dv [] Vm (Dv [] Vm ?_)))))))))
 refine Dv [0] (Vi sl35 0) (Dv [0] (VldA sh38 0) (Dv [0] (Vi sl35 0) ?_))
 refine Dx0 [0] [0] [0] [fun G => os (vl dataa0 datak0 data) (((data.set a.toNat (data.getD pivot.toNat default)).set pivot.toNat (data.getD a.toNat default)).set i_11.toNat (((data.set a.toNat (data.getD pivot.toNat default)).set pivot.toNat (data.getD a.toNat default)).getD j_39.toNat default))] (fun G => xp [0] rfl (Ent.oread2 _ _ _ _ _ _) (xS (So (Rs := []) [0] sh38 (((data.set a.toNat (data.getD pivot.toNat default)).set pivot.toNat (data.getD a.toNat default)).getD j_39.toNat default) (fun h => ⟨rfl, (by unfold i64ok; first | omega | (dsimp only; omega)), (by unfold i64ok; first | omega | (dsimp only; omega)), (by unfold i64ok; first | omega | (dsimp only; omega)), (by unfold i64ok; first | omega | (dsimp only; omega))⟩)))) (Dv [2] (Vi sl35 0) ?_)
 refine Dx0 [2] [2] [0] [fun G => os (vl dataa0 datak0 data) ((((data.set a.toNat (data.getD pivot.toNat default)).set pivot.toNat (data.getD a.toNat default)).set i_11.toNat (((data.set a.toNat (data.getD pivot.toNat default)).set pivot.toNat (data.getD a.toNat default)).getD j_39.toNat default)).set j_39.toNat (((data.set a.toNat (data.getD pivot.toNat default)).set pivot.toNat (data.getD a.toNat default)).getD i_11.toNat default))] (fun G => xS (So (Rs := []) [0] sh38 (((data.set a.toNat (data.getD pivot.toNat default)).set pivot.toNat (data.getD a.toNat default)).getD i_11.toNat default) (fun h => ⟨rfl, (by unfold i64ok; first | omega | (dsimp only; omega)), (by unfold i64ok; first | omega | (dsimp only; omega)), (by unfold i64ok; first | omega | (dsimp only; omega)), (by unfold i64ok; first | omega | (dsimp only; omega))⟩))) ?_
 refine Dn ⟨by kernel_rfl, fun G => ?_⟩
 refine Jw2 [(0, vl dataa0 datak0 data), (1, vi a), (4, .func (.func cmpF) #[] cmpC.toArray), (12, vi i_11), (13, vi j_39)] [1] [os (vl dataa0 datak0 data) ((((data.set a.toNat (data.getD pivot.toNat default)).set pivot.toNat (data.getD a.toNat default)).set i_11.toNat (((data.set a.toNat (data.getD pivot.toNat default)).set pivot.toNat (data.getD a.toNat default)).getD j_39.toNat default)).set j_39.toNat (((data.set a.toNat (data.getD pivot.toNat default)).set pivot.toNat (data.getD a.toNat default)).getD i_11.toNat default))] ?_
 refine KS ?_
 refine Oq Vm (Oq Vadd (Oq Va (KS ?_)))
 refine Oq Vm (Oq Vsub (Oq Va (KS ?_)))
 have hterm98 : slices_partitionCmpFunc_Account_L2 a b cmpp ((b - a).toNat + 2) ((((data.set a.toNat (data.getD pivot.toNat default)).set pivot.toNat (data.getD a.toNat default)).set i_11.toNat (((data.set a.toNat (data.getD pivot.toNat default)).set pivot.toNat (data.getD a.toNat default)).getD j_39.toNat default)).set j_39.toNat (((data.set a.toNat (data.getD pivot.toNat default)).set pivot.toNat (data.getD a.toNat default)).getD i_11.toNat default)) (i_11 + 1) (j_39 - 1) ≠ LR.oof := (pt2_t _ _ _ _ (by omega) (by omega) (by omega) (by omega) (by omega))
 refine Kl (γ := Nat × List GAccount × Int × Int) (fun (r90, data_91, i_92, j_93) => ⟨[(0, vl dataa0 datak0 data), (1, vi a), (4, .func (.func cmpF) #[] cmpC.toArray), (12, vi i_92), (13, vi j_93)], [pAll cmpA, os (vl dataa0 datak0 data) data_91], slices_partitionCmpFunc_Account_L2 a b cmpp r90 data_91 i_92 j_93 = slices_partitionCmpFunc_Account_L2 a b cmpp ((b - a).toNat + 2) ((((data.set a.toNat (data.getD pivot.toNat default)).set pivot.toNat (data.getD a.toNat default)).set i_11.toNat (((data.set a.toNat (data.getD pivot.toNat default)).set pivot.toNat (data.getD a.toNat default)).getD j_39.toNat default)).set j_39.toNat (((data.set a.toNat (data.getD pivot.toNat default)).set pivot.toNat (data.getD a.toNat default)).getD i_11.toNat default)) (i_11 + 1) (j_39 - 1) ∧ (-9223372036854775808 ≤ i_92 ∧ i_92 ≤ 9223372036854775807) ∧ (-9223372036854775808 ≤ j_93 ∧ j_93 ≤ 9223372036854775807) ∧ (a + 1 ≤ i_92 ∧ i_92 ≤ j_93 + 2 ∧ j_93 ≤ b - 1 ∧ a ≤ j_93), r90⟩) (((b - a).toNat + 2), ((((data.set a.toNat (data.getD pivot.toNat default)).set pivot.toNat (data.getD a.toNat default)).set i_11.toNat (((data.set a.toNat (data.getD pivot.toNat default)).set pivot.toNat (data.getD a.toNat default)).getD j_39.toNat default)).set j_39.toNat (((data.set a.toNat (data.getD pivot.toNat default)).set pivot.toNat (data.getD a.toNat default)).getD i_11.toNat default)), (i_11 + 1), (j_39 - 1)) [0, 1] ⟨rfl, (by omega), (by omega), iv0⟩ ?_
 rintro ⟨r90, data_91, i_92, j_93⟩ ⟨hM94, hk95, hk96, hv97⟩
 refine JJ_nx fun _ _ hL hA => ?_; dsimp only at hL hA; subst hL hA
 refine Fb 32 1 fun hl99 => ?_
 refine Fl 1 fun hn100 => ?_
 rcases r90 with _ | r90
 · exact absurd (hM94.symm.trans rfl) hterm98
 refine KS ?_
 have hterm106 : slices_partitionCmpFunc_Account_L3 a cmpp data_91 j_93 ((b - a).toNat + 2) i_92 ≠ LR.oof := (pt3_t (by omega) (by omega))
 refine KjD (γ := Int) (fun i_102 => ⟨[(0, vl dataa0 datak0 data), (1, vi a), (4, .func (.func cmpF) #[] cmpC.toArray), (12, vi i_102), (13, vi j_93)], [pAll cmpA, os (vl dataa0 datak0 data) data_91], slices_partitionCmpFunc_Account_L3 a cmpp data_91 j_93 ((b - a).toNat + 2) i_92 = .brk i_102 ∧ (-9223372036854775808 ≤ i_102 ∧ i_102 ≤ 9223372036854775807) ∧ (i_92 ≤ i_102 ∧ (i_102 ≤ j_93 + 1 ∨ i_102 = i_92)), 0⟩) ?_ ?_
 · skip
   refine Kl (γ := Nat × Int) (fun (r101, i_102) => ⟨[(0, vl dataa0 datak0 data), (1, vi a), (4, .func (.func cmpF) #[] cmpC.toArray), (12, vi i_102), (13, vi j_93)], [pAll cmpA, os (vl dataa0 datak0 data) data_91], slices_partitionCmpFunc_Account_L3 a cmpp data_91 j_93 r101 i_102 = slices_partitionCmpFunc_Account_L3 a cmpp data_91 j_93 ((b - a).toNat + 2) i_92 ∧ (-9223372036854775808 ≤ i_102 ∧ i_102 ≤ 9223372036854775807) ∧ (i_92 ≤ i_102 ∧ (i_102 ≤ j_93 + 1 ∨ i_102 = i_92)), r101⟩) (((b - a).toNat + 2), i_92) [0, 1] ⟨rfl, (by omega), iv0⟩ ?_
   rintro ⟨r101, i_102⟩ ⟨hM103, hk104, hv105⟩
   refine JJ_nx fun _ _ hL hA => ?_; dsimp only at hL hA; subst hL hA
   refine Fb 32 1 fun hl108 => ?_
   refine Fl 1 fun hn109 => ?_
   rcases r101 with _ | r101
   · exact absurd (hM103.symm.trans rfl) hterm106
   refine KS ?_
   refine bool_split (decide (i_102 ≤ j_93)) ?_ ?_
   · intro h110
     have g111 := of_decide_eq_true h110
     refine JJ_peekO_GAccount i_102.toNat 1 rfl rng fun hb112 hb113 hb114 hb115 => ?_
     unfold i64ok at hb112 hb113 hb114 hb115
     refine JJ_peekO2_GAccount a.toNat 0 rfl rng fun hb116 hb117 hb118 hb119 => ?_
     unfold i64ok at hb116 hb117 hb118 hb119
     refine JK_drawK [0, 0, 3, 7, 15, 15, 15, 111, 239, 15, 15, 1551, 3599, 8191, 16383, 32767] fmix ?_
     refine Dv [] Vm (Dv [] Vm (Db h110 [] Vleq (Dv [] Vm (Dv [] Vm (Dv [] Vm (Dv [] Vm (Dv [0] (Vi sl35 0) (Dv [0] (VldA sh38 0) (Dv [] Vm ?_)))))))))
     refine Dv [] Vm (Dv [0] (Vi sl35 0) (Dv [0] (VldA sh38 0) (Dx [1] [] [1, 0] (fun G => vi (cmpp (data_91.getD i_102.toNat default) (data_91.getD a.toNat default))) [fun G => SP.fact (i64ok (cmpp (data_91.getD i_102.toNat default) (data_91.getD a.toNat default)))] (fun G => xE («as» := [(.agg #[vi ((data_91.getD i_102.toNat default).Query), vi ((data_91.getD i_102.toNat default).Turns), vi ((data_91.getD i_102.toNat default).Steps), vi ((data_91.getD i_102.toNat default).Cost)] : Value), (.agg #[vi ((data_91.getD a.toNat default).Query), vi ((data_91.getD a.toNat default).Turns), vi ((data_91.getD a.toNat default).Steps), vi ((data_91.getD a.toNat default).Cost)] : Value)] ++ cmpC) [0] hcmpc rfl rfl rfl (by simp) rfl (hcmpF (data_91.getD i_102.toNat default) (data_91.getD a.toNat default)  pre pre pre pre pre pre pre pre)) (Dv [] Vlss (Dv [] Vpt ?_)))))
     refine Dn ⟨by kernel_rfl, fun G => ?_⟩
     refine Jw2 [(0, vl dataa0 datak0 data), (1, vi a), (4, .func (.func cmpF) #[] cmpC.toArray), (12, vi i_102), (13, vi j_93), (120, vb (decide ((cmpp (data_91.getD i_102.toNat default) (data_91.getD a.toNat default)) < 0)))] [0, 1] [SP.fact (i64ok (cmpp (data_91.getD i_102.toNat default) (data_91.getD a.toNat default)))] ?_
     refine Jf 2 rfl ?_; rintro he120
     unfold i64ok at he120
     refine Jk [0, 0] ?_
     refine Kc ?_ ?_
     · intro h121
       have g122 := of_decide_eq_true h121
       refine KS ?_
       refine Oq Vm (Oq Vadd (Oq Va (KS ?_)))
       refine Jl [0] (Ent.oread2 _ _ _ _ _ _) ?_
       exact Kg (r101, (i_102 + 1)) [1, 0] ⟨(q3 hM103 (by simp only [slices_partitionCmpFunc_Account_L3, h110, h121, cs4])), (by omega), iv1⟩
     intro h121
     have g123 := of_decide_eq_false h121
     refine Jl [0] (Ent.oread2 _ _ _ _ _ _) ?_
     refine Ke ?_
     have hR124 := q2 hM103 (.brk i_102) (by simp only [slices_partitionCmpFunc_Account_L3, h110, h121, cs4])
     exact Kg i_102 [1, 0] ⟨(by assumption), (by first | assumption | omega), (by first | assumption | omega)⟩
   intro h110
   have g125 := of_decide_eq_false h110
   refine Kq [0, 0, 3, 7, 15, 15, 15, 111, 239, 15, 15, 1551, 3599, 8191, 16383, 32767] fmix ?_
   refine Qv [] Vm (Qv [] Vm (Qb h110 [] Vleq (Qv [] Vm (Qs (Qs (Qs (Qs (Qs (Qs ?_)))))))))
   refine Qs (Qs (Qs (Qs (Qs (Qv [] Vpf ?_)))))
   refine Qn ⟨by kernel_rfl, ?_⟩
   refine Kf ?_
   refine Ke ?_
   have hR126 := q2 hM103 (.brk i_102) (by simp only [slices_partitionCmpFunc_Account_L3, h110, cs4])
   exact Kg i_102 [0, 1] ⟨(by assumption), (by first | assumption | omega), (by first | assumption | omega)⟩
 rintro i_102 ⟨hR107, hk104, hv105⟩
 refine JJ_nx fun _ _ hL hA => ?_; dsimp only at hL hA; subst hL hA
 refine Fb 32 1 fun hl127 => ?_
 refine Fl 1 fun hn128 => ?_
 refine KS ?_
 have hterm134 : slices_partitionCmpFunc_Account_L4 a cmpp data_91 i_102 ((b - a).toNat + 2) j_93 ≠ LR.oof := (pt4_t (by omega) (by omega))
 refine KjD (γ := Int) (fun j_130 => ⟨[(0, vl dataa0 datak0 data), (1, vi a), (4, .func (.func cmpF) #[] cmpC.toArray), (12, vi i_102), (13, vi j_130)], [pAll cmpA, os (vl dataa0 datak0 data) data_91], slices_partitionCmpFunc_Account_L4 a cmpp data_91 i_102 ((b - a).toNat + 2) j_93 = .brk j_130 ∧ (-9223372036854775808 ≤ j_130 ∧ j_130 ≤ 9223372036854775807) ∧ (j_130 ≤ j_93 ∧ (i_102 - 1 ≤ j_130 ∨ j_130 = j_93)), 0⟩) ?_ ?_
 · skip
   refine Kl (γ := Nat × Int) (fun (r129, j_130) => ⟨[(0, vl dataa0 datak0 data), (1, vi a), (4, .func (.func cmpF) #[] cmpC.toArray), (12, vi i_102), (13, vi j_130)], [pAll cmpA, os (vl dataa0 datak0 data) data_91], slices_partitionCmpFunc_Account_L4 a cmpp data_91 i_102 r129 j_130 = slices_partitionCmpFunc_Account_L4 a cmpp data_91 i_102 ((b - a).toNat + 2) j_93 ∧ (-9223372036854775808 ≤ j_130 ∧ j_130 ≤ 9223372036854775807) ∧ (j_130 ≤ j_93 ∧ (i_102 - 1 ≤ j_130 ∨ j_130 = j_93)), r129⟩) (((b - a).toNat + 2), j_93) [0, 1] ⟨rfl, (by omega), iv0⟩ ?_
   rintro ⟨r129, j_130⟩ ⟨hM131, hk132, hv133⟩
   refine JJ_nx fun _ _ hL hA => ?_; dsimp only at hL hA; subst hL hA
   refine Fb 32 1 fun hl136 => ?_
   refine Fl 1 fun hn137 => ?_
   rcases r129 with _ | r129
   · exact absurd (hM131.symm.trans rfl) hterm134
   refine KS ?_
   refine bool_split (decide (i_102 ≤ j_130)) ?_ ?_
   · intro h138
     have g139 := of_decide_eq_true h138
     refine JJ_peekO_GAccount j_130.toNat 1 rfl rng fun hb140 hb141 hb142 hb143 => ?_
     unfold i64ok at hb140 hb141 hb142 hb143
     refine JJ_peekO2_GAccount a.toNat 0 rfl rng fun hb144 hb145 hb146 hb147 => ?_
     unfold i64ok at hb144 hb145 hb146 hb147
     refine JK_drawK [0, 0, 3, 7, 15, 15, 15, 111, 239, 15, 15, 1551, 3599, 8191, 16383, 32767, 65535] fmix ?_
     refine Dv [] Vm (Dv [] Vm (Db h138 [] Vleq (Dv [] Vm (Dv [] Vm (Dv [] Vm (Dv [] Vm (Dv [0] (Vi sl35 0) (Dv [0] (VldA sh38 0) (Dv [] Vm ?_)))))))))
     refine Dv [] Vm (Dv [0] (Vi sl35 0) (Dv [0] (VldA sh38 0) (Dx [1] [] [1, 0] (fun G => vi (cmpp (data_91.getD j_130.toNat default) (data_91.getD a.toNat default))) [fun G => SP.fact (i64ok (cmpp (data_91.getD j_130.toNat default) (data_91.getD a.toNat default)))] (fun G => xE («as» := [(.agg #[vi ((data_91.getD j_130.toNat default).Query), vi ((data_91.getD j_130.toNat default).Turns), vi ((data_91.getD j_130.toNat default).Steps), vi ((data_91.getD j_130.toNat default).Cost)] : Value), (.agg #[vi ((data_91.getD a.toNat default).Query), vi ((data_91.getD a.toNat default).Turns), vi ((data_91.getD a.toNat default).Steps), vi ((data_91.getD a.toNat default).Cost)] : Value)] ++ cmpC) [0] hcmpc rfl rfl rfl (by simp) rfl (hcmpF (data_91.getD j_130.toNat default) (data_91.getD a.toNat default)  pre pre pre pre pre pre pre pre)) (Dv [] Vlss (Dv [] Vnot (Dv [] Vpt ?_))))))
     refine Dn ⟨by kernel_rfl, fun G => ?_⟩
     refine Jw2 [(0, vl dataa0 datak0 data), (1, vi a), (4, .func (.func cmpF) #[] cmpC.toArray), (12, vi i_102), (13, vi j_130), (139, vb (!(decide ((cmpp (data_91.getD j_130.toNat default) (data_91.getD a.toNat default)) < 0))))] [0, 1] [SP.fact (i64ok (cmpp (data_91.getD j_130.toNat default) (data_91.getD a.toNat default)))] ?_
     refine Jf 2 rfl ?_; rintro he148
     unfold i64ok at he148
     refine Jk [0, 0] ?_
     refine Kc ?_ ?_
     · intro h149
       have h151 := not_true h149
       have g152 := of_decide_eq_false h151
       refine KS ?_
       refine Oq Vm (Oq Vsub (Oq Va (KS ?_)))
       refine Jl [0] (Ent.oread2 _ _ _ _ _ _) ?_
       exact Kg (r129, (j_130 - 1)) [1, 0] ⟨(q3 hM131 (by simp only [slices_partitionCmpFunc_Account_L4, h138, h149, h151, cs4])), (by omega), iv1⟩
     intro h149
     have h154 := not_false h149
     have g155 := of_decide_eq_true h154
     refine Jl [0] (Ent.oread2 _ _ _ _ _ _) ?_
     refine Ke ?_
     have hR156 := q2 hM131 (.brk j_130) (by simp only [slices_partitionCmpFunc_Account_L4, h138, h149, h154, cs4])
     exact Kg j_130 [1, 0] ⟨(by assumption), (by first | assumption | omega), (by first | assumption | omega)⟩
   intro h138
   have g157 := of_decide_eq_false h138
   refine Kq [0, 0, 3, 7, 15, 15, 15, 111, 239, 15, 15, 1551, 3599, 8191, 16383, 32767, 65535] fmix ?_
   refine Qv [] Vm (Qv [] Vm (Qb h138 [] Vleq (Qv [] Vm (Qs (Qs (Qs (Qs (Qs (Qs ?_)))))))))
   refine Qs (Qs (Qs (Qs (Qs (Qs (Qv [] Vpf ?_))))))
   refine Qn ⟨by kernel_rfl, ?_⟩
   refine Kf ?_
   refine Ke ?_
   have hR158 := q2 hM131 (.brk j_130) (by simp only [slices_partitionCmpFunc_Account_L4, h138, cs4])
   exact Kg j_130 [0, 1] ⟨(by assumption), (by first | assumption | omega), (by first | assumption | omega)⟩
 rintro j_130 ⟨hR135, hk132, hv133⟩
 refine JJ_nx fun _ _ hL hA => ?_; dsimp only at hL hA; subst hL hA
 refine Fb 32 1 fun hl159 => ?_
 refine Fl 1 fun hn160 => ?_
 refine KS ?_
 refine Oq Vm (Oq Vm (Oq Vgtr (KS ?_)))
 refine Kc ?_ ?_
 · intro h161
   have g162 := of_decide_eq_true h161
   refine Ke ?_
   have hR163 := q2 hM94 (.brk (data_91, j_130)) (by simp only [slices_partitionCmpFunc_Account_L2, h161, hR107, hR135, cs4])
   refine KS ?_
   refine JJ_peekO_GAccount a.toNat 1 rfl rng fun hb164 hb165 hb166 hb167 => ?_
   unfold i64ok at hb164 hb165 hb166 hb167
   refine JJ_peekO2_GAccount j_130.toNat 0 rfl rng fun hb168 hb169 hb170 hb171 => ?_
   unfold i64ok at hb168 hb169 hb170 hb171
   refine JK_drawK [0, 0, 0, 0, 0, 0, 48, 112, 0, 0, 768, 1792, 4083, 8179, 16383, 32767] fmix ?_
   refine Dv [] Vm (Dv [] Vm (Dv [] Vm (Dv [] Vm (Dv [] Vm (Dv [] Vm (Dv [0] (Vi sl35 0) (Dv [0] (VldA sh38 0) (Dv [] Vm (Dv [] Vm ?_)))))))))
   refine Dv [0] (Vi sl35 0) (Dv [0] (VldA sh38 0) (Dv [0] (Vi sl35 0) ?_))
   refine Dx0 [0] [0] [0] [fun G => os (vl dataa0 datak0 data) (data_91.set j_130.toNat (data_91.getD a.toNat default))] (fun G => xp [0] rfl (Ent.oread2 _ _ _ _ _ _) (xS (So (Rs := []) [0] sh38 (data_91.getD a.toNat default) (fun h => ⟨rfl, (by unfold i64ok; first | omega | (dsimp only; omega)), (by unfold i64ok; first | omega | (dsimp only; omega)), (by unfold i64ok; first | omega | (dsimp only; omega)), (by unfold i64ok; first | omega | (dsimp only; omega))⟩)))) (Dv [2] (Vi sl35 0) ?_)
   refine Dx0 [2] [2] [0] [fun G => os (vl dataa0 datak0 data) ((data_91.set j_130.toNat (data_91.getD a.toNat default)).set a.toNat (data_91.getD j_130.toNat default))] (fun G => xS (So (Rs := []) [0] sh38 (data_91.getD j_130.toNat default) (fun h => ⟨rfl, (by unfold i64ok; first | omega | (dsimp only; omega)), (by unfold i64ok; first | omega | (dsimp only; omega)), (by unfold i64ok; first | omega | (dsimp only; omega)), (by unfold i64ok; first | omega | (dsimp only; omega))⟩))) ?_
   refine Dn ⟨by kernel_rfl, fun G => ?_⟩
   refine Jw2 [(0, vl dataa0 datak0 data), (13, vi j_130)] [1] [os (vl dataa0 datak0 data) ((data_91.set j_130.toNat (data_91.getD a.toNat default)).set a.toNat (data_91.getD j_130.toNat default))] ?_
   refine KS ?_
   refine Oq Vm (Oq Va (Oq Va (KS ?_)))
   refine Fl 1 fun hn172 => ?_
   have hq := q4 hrr (j_130, false, ((data_91.set j_130.toNat (data_91.getD a.toNat default)).set a.toNat (data_91.getD j_130.toNat default))) (by simp only [slices_partitionCmpFunc_Account, h70, h161, hR16, hR44, hR107, hR135, hR163, cs4]); subst hq
   exact Kr () rfl (.tmp rfl (.tmp rfl .nil)) [1] en
 intro h161
 have g173 := of_decide_eq_false h161
 refine KS ?_
 refine JJ_peekO_GAccount j_130.toNat 1 rfl rng fun hb174 hb175 hb176 hb177 => ?_
 unfold i64ok at hb174 hb175 hb176 hb177
 refine JJ_peekO2_GAccount i_102.toNat 0 rfl rng fun hb178 hb179 hb180 hb181 => ?_
 unfold i64ok at hb178 hb179 hb180 hb181
 refine JK_drawK [0, 0, 0, 0, 0, 0, 48, 112, 0, 0, 768, 1792, 4083, 8179, 16383, 32767] fmix ?_
 refine Dv [] Vm (Dv [] Vm (Dv [] Vm (Dv [] Vm (Dv [] Vm (Dv [] Vm (Dv [0] (Vi sl35 0) (Dv [0] (VldA sh38 0) (Dv [] Vm (Dv [] Vm ?_)))))))))
 refine Dv [0] (Vi sl35 0) (Dv [0] (VldA sh38 0) (Dv [0] (Vi sl35 0) ?_))
 refine Dx0 [0] [0] [0] [fun G => os (vl dataa0 datak0 data) (data_91.set i_102.toNat (data_91.getD j_130.toNat default))] (fun G => xp [0] rfl (Ent.oread2 _ _ _ _ _ _) (xS (So (Rs := []) [0] sh38 (data_91.getD j_130.toNat default) (fun h => ⟨rfl, (by unfold i64ok; first | omega | (dsimp only; omega)), (by unfold i64ok; first | omega | (dsimp only; omega)), (by unfold i64ok; first | omega | (dsimp only; omega)), (by unfold i64ok; first | omega | (dsimp only; omega))⟩)))) (Dv [2] (Vi sl35 0) ?_)
 refine Dx0 [2] [2] [0] [fun G => os (vl dataa0 datak0 data) ((data_91.set i_102.toNat (data_91.getD j_130.toNat default)).set j_130.toNat (data_91.getD i_102.toNat default))] (fun G => xS (So (Rs := []) [0] sh38 (data_91.getD i_102.toNat default) (fun h => ⟨rfl, (by unfold i64ok; first | omega | (dsimp only; omega)), (by unfold i64ok; first | omega | (dsimp only; omega)), (by unfold i64ok; first | omega | (dsimp only; omega)), (by unfold i64ok; first | omega | (dsimp only; omega))⟩))) ?_
 refine Dn ⟨by kernel_rfl, fun G => ?_⟩
 refine Jw2 [(0, vl dataa0 datak0 data), (1, vi a), (4, .func (.func cmpF) #[] cmpC.toArray), (12, vi i_102), (13, vi j_130)] [1] [os (vl dataa0 datak0 data) ((data_91.set i_102.toNat (data_91.getD j_130.toNat default)).set j_130.toNat (data_91.getD i_102.toNat default))] ?_
 refine KS ?_
 refine Oq Vm (Oq Vadd (Oq Va (KS ?_)))
 refine Oq Vm (Oq Vsub (Oq Va (KS ?_)))
 exact Kg (r90, ((data_91.set i_102.toNat (data_91.getD j_130.toNat default)).set j_130.toNat (data_91.getD i_102.toNat default)), (i_102 + 1), (j_130 - 1)) [0, 1] ⟨(q3 hM94 (by simp only [slices_partitionCmpFunc_Account_L2, h161, hR107, hR135, cs4])), (by omega), (by omega), iv1⟩
theorem fn32F (rc : List GAccount → Int → Int → Int → (GAccount → GAccount → Int) → List GAccount) (ms : Nat) (data : List GAccount) (dataa0 : Option Addr) (datak0 : Nat) (a : Int) (b : Int) (limit : Int) (cmpF : FuncId) (cmpC : List Value) (cmpp : GAccount → GAccount → Int) (cmpA : List SP) (hms : (b - a).toNat = ms) (hrp : ∀ (d : List GAccount) (a b lim : Int), 0 ≤ a → a ≤ b → b ≤ (d.length : Int) → d.length ≤ 65535 → (b - a).toNat < ms → (rc d a b lim cmpp).length = d.length) (hrc : ∀ (data : List GAccount) (dataa0 : Option Addr) (datak0 : Nat) (a : Int) (b : Int) (limit : Int) (cmpF : FuncId) (cmpC : List Value) (cmpp : GAccount → GAccount → Int) (cmpA : List SP) (ha_0 : i64ok a) (hb_0 : i64ok b) (hlimit_0 : i64ok limit) (hcmpc : callable Try.prog cmpF = true) (hcmpF : ∀ x0 x1, i64ok x0.Query → i64ok x0.Turns → i64ok x0.Steps → i64ok x0.Cost → i64ok x1.Query → i64ok x1.Turns → i64ok x1.Steps → i64ok x1.Cost → FT Try.prog cmpF ([(.agg #[vi x0.Query, vi x0.Turns, vi x0.Steps, vi x0.Cost] : Value), (.agg #[vi x1.Query, vi x1.Turns, vi x1.Steps, vi x1.Cost] : Value)] ++ cmpC).toArray ([] ++ [pAll cmpA]) (fun _ : Unit => i64ok (cmpp x0 x1)) (fun _ => vi (cmpp x0 x1)) (fun _ => [])) (ha0 : 0 ≤ a ∧ a ≤ b ∧ b ≤ (data.length : Int) ∧ data.length ≤ 65535) (hl0 : 0 ≤ limit ∧ limit ≤ 1000) (hfu : (b - a).toNat < ms) (rr : List GAccount) (hrr : rc data a b limit cmpp = rr), FT Try.prog 32 #[vl dataa0 datak0 data, vi a, vi b, vi limit, .func (.func cmpF) #[] cmpC.toArray] [O dataa0 datak0 data, pAll cmpA] (fun g : Unit => (rr.length = data.length)) (fun g => .tuple #[]) (fun g => [os (vl dataa0 datak0 data) rr])) (ha_0 : i64ok a) (hb_0 : i64ok b) (hlimit_0 : i64ok limit) (hcmpc : callable Try.prog cmpF = true) (hcmpF : ∀ x0 x1, i64ok x0.Query → i64ok x0.Turns → i64ok x0.Steps → i64ok x0.Cost → i64ok x1.Query → i64ok x1.Turns → i64ok x1.Steps → i64ok x1.Cost → FT Try.prog cmpF ([(.agg #[vi x0.Query, vi x0.Turns, vi x0.Steps, vi x0.Cost] : Value), (.agg #[vi x1.Query, vi x1.Turns, vi x1.Steps, vi x1.Cost] : Value)] ++ cmpC).toArray ([] ++ [pAll cmpA]) (fun _ : Unit => i64ok (cmpp x0 x1)) (fun _ => vi (cmpp x0 x1)) (fun _ => [])) (ha0 : 0 ≤ a ∧ a ≤ b ∧ b ≤ (data.length : Int) ∧ data.length ≤ 65535) (hl0 : 0 ≤ limit ∧ limit ≤ 1000) (rr : List GAccount) (hrr : slices_pdqsortCmpFunc_Account_F rc data a b limit cmpp = rr) : FT Try.prog 32 #[vl dataa0 datak0 data, vi a, vi b, vi limit, .func (.func cmpF) #[] cmpC.toArray] [O dataa0 datak0 data, pAll cmpA] (fun g : Unit => (rr.length = data.length)) (fun g => .tuple #[]) (fun g => [os (vl dataa0 datak0 data) rr]) := by
 refine FTi Try.func32 fun w0 M0 F0 => ?_
 unfold i64ok at ha_0 hb_0 hlimit_0
 refine Fb 32 0 fun hl1 => ?_
 refine KS ?_
 refine Oq Va (KS ?_)
 refine Oq Va (KS ?_)
 have hterm14 : slices_pdqsortCmpFunc_Account_F_L0 rc cmpp ((b - a).toNat + 1) data a b limit true true ≠ LR.oof := (pdl_t hrp (by omega) (by omega) (by omega) (by omega) (by omega) (by omega) (by omega))
 refine Kl (γ := Nat × List GAccount × Int × Int × Int × Bool × Bool) (fun (r2, data_3, a_4, b_5, limit_6, wasBalanced_7, wasPartitioned_8) => ⟨[(0, vl dataa0 datak0 data), (1, vi a_4), (2, vi b_5), (3, vi limit_6), (4, .func (.func cmpF) #[] cmpC.toArray), (10, vb wasBalanced_7), (11, vb wasPartitioned_8)], [os (vl dataa0 datak0 data) data_3, pAll cmpA], slices_pdqsortCmpFunc_Account_F_L0 rc cmpp r2 data_3 a_4 b_5 limit_6 wasBalanced_7 wasPartitioned_8 = slices_pdqsortCmpFunc_Account_F_L0 rc cmpp ((b - a).toNat + 1) data a b limit true true ∧ (-9223372036854775808 ≤ a_4 ∧ a_4 ≤ 9223372036854775807) ∧ (-9223372036854775808 ≤ b_5 ∧ b_5 ≤ 9223372036854775807) ∧ (-9223372036854775808 ≤ limit_6 ∧ limit_6 ≤ 9223372036854775807) ∧ (a ≤ a_4 ∧ a_4 ≤ b_5 ∧ b_5 ≤ b ∧ 0 ≤ limit_6 ∧ limit_6 ≤ 1000), r2⟩) (((b - a).toNat + 1), data, a, b, limit, true, true) [0, 0] ⟨rfl, (by omega), (by omega), (by omega), iv0⟩ ?_
 rintro ⟨r2, data_3, a_4, b_5, limit_6, wasBalanced_7, wasPartitioned_8⟩ ⟨hM9, hk10, hk11, hk12, hv13⟩
 refine JJ_nx fun _ _ hL hA => ?_; dsimp only at hL hA; subst hL hA
 refine Fb 32 0 fun hl15 => ?_
 refine Fl 0 fun hn16 => ?_
 rcases r2 with _ | r2
 · exact absurd (hM9.symm.trans rfl) hterm14
 refine KS ?_
 refine Oq Vm (Oq Vm (Oq Vsub (Oq Va (KS ?_))))
 refine Oq Vm (Oq Vleq (KS ?_))
 refine Kc ?_ ?_
 · intro h17
   have g18 := of_decide_eq_true h17
   refine KS ?_
   refine Oq Vm (Oq Vm (Oq Vm (Oq Vm ?_)))
   refine Fl 0 fun hn19 => ?_; (try unfold vl); rw [← hn19]
   refine letv (slices_insertionSortCmpFunc_Account data_3 a_4 b_5 cmpp) fun rv20 hg21 => ?_
   have hc22 := fn37 data_3 dataa0 datak0 a_4 b_5 cmpF cmpC cmpp cmpA pre pre hcmpc hcmpF pre rv20 hg21
   refine Oc [0, 0] ca37 hc22 ?_
   rintro - he23
   have hn24 : data_3.length = data.length := by omega
   try unfold vl
   try rw [hn24]
   refine KS ?_
   refine Fl 0 fun hn25 => ?_
   have hR26 := q2 hM9 (.ret rv20) (by simp only [slices_pdqsortCmpFunc_Account_F_L0, h17, hg21, cs4])
   have hq := q4 hrr rv20 (by simp only [slices_pdqsortCmpFunc_Account_F, h17, hg21, hR26, cs4]); subst hq
   exact Kr () rfl .nil [0] en
 intro h17
 have g27 := of_decide_eq_false h17
 refine KS ?_
 refine Oq Vm (Oq Veql (KS ?_))
 refine Kc ?_ ?_
 · intro h28
   have g29 := eq_of_beq h28
   refine KS ?_
   refine Oq Vm (Oq Vm (Oq Vm (Oq Vm ?_)))
   refine Fl 0 fun hn30 => ?_; (try unfold vl); rw [← hn30]
   refine letv (slices_heapSortCmpFunc_Account data_3 a_4 b_5 cmpp) fun rv31 hg32 => ?_
   have hc33 := fn38 data_3 dataa0 datak0 a_4 b_5 cmpF cmpC cmpp cmpA pre pre hcmpc hcmpF pre rv31 hg32
   refine Oc [0, 0] ca38 hc33 ?_
   rintro - he34
   have hn35 : data_3.length = data.length := by omega
   try unfold vl
   try rw [hn35]
   refine KS ?_
   refine Fl 0 fun hn36 => ?_
   have hR37 := q2 hM9 (.ret rv31) (by simp only [slices_pdqsortCmpFunc_Account_F_L0, h17, h28, hg32, cs4])
   have hq := q4 hrr rv31 (by simp only [slices_pdqsortCmpFunc_Account_F, h17, h28, hg32, hR37, cs4]); subst hq
   exact Kr () rfl .nil [0] en
 intro h28
 have g38 := ne_of_beq_false h28
 refine KS ?_
 refine Oq Vm (Oq Vnot (KS ?_))
 refine Kc ?_ ?_
 · intro h39
   have h41 := not_true h39
   refine KS ?_
   refine Oq Vm (Oq Vm (Oq Vm (Oq Vm ?_)))
   refine Fl 0 fun hn43 => ?_; (try unfold vl); rw [← hn43]
   refine letv (slices_breakPatternsCmpFunc_Account data_3 a_4 b_5 cmpp) fun rv44 hg45 => ?_
   have hc46 := fn39 data_3 dataa0 datak0 a_4 b_5 cmpF cmpC cmpp cmpA pre pre hcmpc hcmpF pre rv44 hg45
   refine Oc [0, 0] ca39 hc46 ?_
   rintro - he47
   have hn48 : data_3.length = data.length := by omega
   try unfold vl
   try rw [hn48]
   refine KS ?_
   refine Oq Vm (Oq Vsub (Oq Va (KS ?_)))
   refine Oq Vm (Oq Vm (Oq Vm (Oq Vm ?_)))
   refine Fl 0 fun hn49 => ?_; (try unfold vl); rw [← hn49]
   refine letv (slices_choosePivotCmpFunc_Account rv44 a_4 b_5 cmpp) fun rv50 hg51 => ?_
   refine Oc [0, 0] ca40 (FT_borrow (A := _) (fun _ _ h => by cases h) (FT_ent (Ent.take (is := [0, 1]) rfl) (fn40 rv44 dataa0 datak0 a_4 b_5 cmpF cmpC cmpp cmpA pre pre hcmpc hcmpF pre rv50 hg51))) ?_ (ht := rfl)
   rintro - ⟨he52, he53, he54⟩
   unfold i64ok at he52 he53
   have hn55 : rv44.length = data.length := by omega
   try unfold vl
   try rw [hn55]
   refine Oq Vm (Oq Vx (Oq Vx (Oq Va (Oq Va (KS ?_)))))
   refine Oq Vm (Oq Veql (KS ?_))
   refine Kc ?_ ?_
   · intro h56
     have g57 := eq_of_beq h56
     refine KS ?_
     refine Oq Vm (Oq Vm (Oq Vm (Oq Vm ?_)))
     refine Fl 0 fun hn58 => ?_; (try unfold vl); rw [← hn58]
     refine letv (slices_reverseRangeCmpFunc_Account rv44 a_4 b_5 cmpp) fun rv59 hg60 => ?_
     have hc61 := fn41 rv44 dataa0 datak0 a_4 b_5 cmpF cmpC cmpp cmpA pre pre hcmpc hcmpF pre rv59 hg60
     refine Oc [0, 0] ca41 hc61 ?_
     rintro - he62
     have hn63 : rv44.length = data.length := by omega
     try unfold vl
     try rw [hn63]
     refine KS ?_
     refine Oq Vm (Oq Vsub (Oq Vm (Oq Vm (Oq Vsub (Oq Vsub (Oq Va (KS ?_)))))))
     refine Oq Va (KS ?_)
     refine Oq Vm (Oq Vm ?_)
     refine Js 69 ?_ ?_
     · intro h64
       exact absurd h64 (by first | (simp [h39]; done) | (simp only [bne, h39]; decide) | (simp only [bne, h39, Bool.not_true, Bool.not_false]; decide) | (exfalso; omega) | (intro hq; simp only [bne, hq, Bool.not_false, Bool.not_true, reduceCtorEq] at h39))
     intro h64
     refine Osk (Oq Vpf (Oq Vm (Osk (Osk (Oq Vpf (KS ?_))))))
     refine Kf ?_
     refine KS ?_
     refine bool_split (decide (0 < a_4)) ?_ ?_
     · intro h66
       have g67 := of_decide_eq_true h66
       refine JJ_peekO_GAccount ((a_4 - 1) : Int).toNat 0 rfl rng fun hb68 hb69 hb70 hb71 => ?_
       unfold i64ok at hb68 hb69 hb70 hb71
       refine JJ_peekO2_GAccount (((b_5 - 1) - (rv50.1 - a_4)) : Int).toNat 0 rfl rng fun hb72 hb73 hb74 hb75 => ?_
       unfold i64ok at hb72 hb73 hb74 hb75
       refine JK_drawK [0, 1, 3, 7, 7, 7, 39, 119, 247, 7, 7, 1543, 3591, 8191, 16383, 32767, 65535] fmix ?_
       refine Dv [] Vm (Db h66 [] Vgtr (Dv [] Vm (Dv [] Vm (Dv [] Vm (Dv [] Vm (Dv [] Vsub (Dv [0] (Vi sl35 0) (Dv [0] (VldA sh38 0) (Dv [] Vm ?_)))))))))
       refine Dv [] Vm (Dv [0] (Vi sl35 0) (Dv [0] (VldA sh38 0) (Dx [1] [] [1, 0] (fun G => vi (cmpp (rv59.getD ((a_4 - 1) : Int).toNat default) (rv59.getD (((b_5 - 1) - (rv50.1 - a_4)) : Int).toNat default))) [fun G => SP.fact (i64ok (cmpp (rv59.getD ((a_4 - 1) : Int).toNat default) (rv59.getD (((b_5 - 1) - (rv50.1 - a_4)) : Int).toNat default)))] (fun G => xE («as» := [(.agg #[vi ((rv59.getD ((a_4 - 1) : Int).toNat default).Query), vi ((rv59.getD ((a_4 - 1) : Int).toNat default).Turns), vi ((rv59.getD ((a_4 - 1) : Int).toNat default).Steps), vi ((rv59.getD ((a_4 - 1) : Int).toNat default).Cost)] : Value), (.agg #[vi ((rv59.getD (((b_5 - 1) - (rv50.1 - a_4)) : Int).toNat default).Query), vi ((rv59.getD (((b_5 - 1) - (rv50.1 - a_4)) : Int).toNat default).Turns), vi ((rv59.getD (((b_5 - 1) - (rv50.1 - a_4)) : Int).toNat default).Steps), vi ((rv59.getD (((b_5 - 1) - (rv50.1 - a_4)) : Int).toNat default).Cost)] : Value)] ++ cmpC) [0] hcmpc rfl rfl rfl (by simp) rfl (hcmpF (rv59.getD ((a_4 - 1) : Int).toNat default) (rv59.getD (((b_5 - 1) - (rv50.1 - a_4)) : Int).toNat default)  pre pre pre pre pre pre pre pre)) (Dv [] Vlss (Dv [] Vnot (Dv [] Vpt ?_))))))
       refine Dn ⟨by kernel_rfl, fun G => ?_⟩
       refine Jw2 [(0, vl dataa0 datak0 data), (1, vi a_4), (2, vi b_5), (4, .func (.func cmpF) #[] cmpC.toArray), (10, vb wasBalanced_7), (11, vb wasPartitioned_8), (12, vi (b_5 - a_4)), (3, vi (limit_6 - 1)), (13, vi ((b_5 - 1) - (rv50.1 - a_4))), (97, vb (!(decide ((cmpp (rv59.getD ((a_4 - 1) : Int).toNat default) (rv59.getD (((b_5 - 1) - (rv50.1 - a_4)) : Int).toNat default)) < 0))))] [0, 1] [SP.fact (i64ok (cmpp (rv59.getD ((a_4 - 1) : Int).toNat default) (rv59.getD (((b_5 - 1) - (rv50.1 - a_4)) : Int).toNat default)))] ?_
       refine Jf 2 rfl ?_; rintro he76
       unfold i64ok at he76
       refine Jk [0, 0] ?_
       refine Kc ?_ ?_
       · intro h77
         have h79 := not_true h77
         have g80 := of_decide_eq_false h79
         refine KS ?_
         refine Oq Vm (Oq Vm (Oq Vm (Oq Vm (Oq Vm ?_))))
         refine Jl [0] (Ent.oread2 _ _ _ _ _ _) ?_
         refine Fl 0 fun hn81 => ?_; (try unfold vl); rw [← hn81]
         refine letv (slices_partitionEqualCmpFunc_Account rv59 a_4 b_5 ((b_5 - 1) - (rv50.1 - a_4)) cmpp) fun rv82 hg83 => ?_
         have hc84 := fn43 rv59 dataa0 datak0 a_4 b_5 (((b_5 - 1) - (rv50.1 - a_4))) cmpF cmpC cmpp cmpA pre pre pre hcmpc hcmpF pre rv82 hg83
         refine Oc [0, 0] ca43 hc84 ?_
         rintro - ⟨he85, he86, he87⟩
         unfold i64ok at he85
         have hn88 : rv59.length = data.length := by omega
         try unfold vl
         try rw [hn88]
         refine Oq Va (KS ?_)
         refine Oq Vm (Oq Va (KS ?_))
         refine Ke ?_
         exact Kg (r2, rv82.2, rv82.1, b_5, (limit_6 - 1), wasBalanced_7, wasPartitioned_8) [0, 0] ⟨(q3 hM9 (by simp only [slices_pdqsortCmpFunc_Account_F_L0, h17, h28, h39, h41, h56, h64, h66, h77, h79, hg45, hg51, hg60, hg83, cs4])), (by omega), (by omega), (by omega), iv1⟩
       intro h77
       have h90 := not_false h77
       have g91 := of_decide_eq_true h90
       refine KS ?_
       refine Oq Vm (Oq Vm (Oq Vm (Oq Vm (Oq Vm ?_))))
       refine Jl [0] (Ent.oread2 _ _ _ _ _ _) ?_
       refine Fl 0 fun hn92 => ?_; (try unfold vl); rw [← hn92]
       refine letv (slices_partitionCmpFunc_Account rv59 a_4 b_5 ((b_5 - 1) - (rv50.1 - a_4)) cmpp) fun rv93 hg94 => ?_
       have hc95 := fn44 rv59 dataa0 datak0 a_4 b_5 (((b_5 - 1) - (rv50.1 - a_4))) cmpF cmpC cmpp cmpA pre pre pre hcmpc hcmpF pre rv93 hg94
       refine Oc [0, 0] ca44 hc95 ?_
       rintro - ⟨he96, he97, he98⟩
       unfold i64ok at he96
       have hn99 : rv59.length = data.length := by omega
       try unfold vl
       try rw [hn99]
       refine Oq Vm (Oq Vx (Oq Vx (Oq Va (Oq Va (KS ?_)))))
       refine Oq Vm (Oq Va (KS ?_))
       refine Oq Vm (Oq Vm (Oq Vsub (Oq Vm (Oq Vm (Oq Vsub (Oq Va (Oq Va (KS ?_))))))))
       refine Oq Vm (Oq Vquo (Oq Va (KS ?_)))
       refine Oq Vm (Oq Vm (Oq Vlss (KS ?_)))
       refine Kc ?_ ?_
       · intro h100
         have g101 := of_decide_eq_true h100
         refine KS ?_
         refine Oq Vm (Oq Vm (Oq Vgeq (Oq Va (KS ?_))))
         refine Oq Vm (Oq Vm (Oq Vm (Oq Vm (Oq Vm ?_))))
         refine Fl 0 fun hn102 => ?_; (try unfold vl); rw [← hn102]
         refine letv (rc rv93.2.2 a_4 rv93.1 (limit_6 - 1) cmpp) fun rv103 hg104 => ?_
         have hc105 := hrc rv93.2.2 dataa0 datak0 a_4 rv93.1 ((limit_6 - 1)) cmpF cmpC cmpp cmpA pre pre pre hcmpc hcmpF pre pre pre rv103 hg104
         refine Oc [0, 0] ca32 hc105 ?_
         rintro - he106
         have hn107 : rv93.2.2.length = data.length := by omega
         try unfold vl
         try rw [hn107]
         refine KS ?_
         refine Oq Vm (Oq Vadd (Oq Va (KS ?_)))
         exact Kg (r2, rv103, (rv93.1 + 1), b_5, (limit_6 - 1), decide (((b_5 - a_4) / 8) ≤ (rv93.1 - a_4)), rv93.2.1) [0, 0] ⟨(q3 hM9 (by simp only [slices_pdqsortCmpFunc_Account_F_L0, h17, h28, h39, h41, h56, h64, h66, h77, h90, h100, hg45, hg51, hg60, hg94, hg104, cs4])), (by omega), (by omega), (by omega), iv1⟩
       intro h100
       have g108 := of_decide_eq_false h100
       refine KS ?_
       refine Oq Vm (Oq Vm (Oq Vgeq (Oq Va (KS ?_))))
       refine Oq Vm (Oq Vm (Oq Vadd (Oq Vm (Oq Vm (Oq Vm ?_)))))
       refine Fl 0 fun hn109 => ?_; (try unfold vl); rw [← hn109]
       refine letv (rc rv93.2.2 (rv93.1 + 1) b_5 (limit_6 - 1) cmpp) fun rv110 hg111 => ?_
       have hc112 := hrc rv93.2.2 dataa0 datak0 ((rv93.1 + 1)) b_5 ((limit_6 - 1)) cmpF cmpC cmpp cmpA pre pre pre hcmpc hcmpF pre pre pre rv110 hg111
       refine Oc [0, 0] ca32 hc112 ?_
       rintro - he113
       have hn114 : rv93.2.2.length = data.length := by omega
       try unfold vl
       try rw [hn114]
       refine KS ?_
       refine Oq Vm (Oq Va (KS ?_))
       exact Kg (r2, rv110, a_4, rv93.1, (limit_6 - 1), decide (((b_5 - a_4) / 8) ≤ (b_5 - rv93.1)), rv93.2.1) [0, 0] ⟨(q3 hM9 (by simp only [slices_pdqsortCmpFunc_Account_F_L0, h17, h28, h39, h41, h56, h64, h66, h77, h90, h100, hg45, hg51, hg60, hg94, hg111, cs4])), (by omega), (by omega), (by omega), iv1⟩
     intro h66
     have g115 := of_decide_eq_false h66
     refine Kq [0, 1, 3, 7, 7, 7, 39, 119, 247, 7, 7, 1543, 3591, 8191, 16383, 32767, 65535] fmix ?_
     refine Qv [] Vm (Qb h66 [] Vgtr (Qv [] Vm (Qs (Qs (Qs (Qs (Qs (Qs (Qs ?_)))))))))
     refine Qs (Qs (Qs (Qs (Qs (Qs (Qv [] Vpf ?_))))))
     refine Qn ⟨by kernel_rfl, ?_⟩
     refine Kf ?_
     refine KS ?_
     refine Oq Vm (Oq Vm (Oq Vm (Oq Vm (Oq Vm ?_))))
     refine Fl 0 fun hn116 => ?_; (try unfold vl); rw [← hn116]
     refine letv (slices_partitionCmpFunc_Account rv59 a_4 b_5 ((b_5 - 1) - (rv50.1 - a_4)) cmpp) fun rv117 hg118 => ?_
     have hc119 := fn44 rv59 dataa0 datak0 a_4 b_5 (((b_5 - 1) - (rv50.1 - a_4))) cmpF cmpC cmpp cmpA pre pre pre hcmpc hcmpF pre rv117 hg118
     refine Oc [0, 0] ca44 hc119 ?_
     rintro - ⟨he120, he121, he122⟩
     unfold i64ok at he120
     have hn123 : rv59.length = data.length := by omega
     try unfold vl
     try rw [hn123]
     refine Oq Vm (Oq Vx (Oq Vx (Oq Va (Oq Va (KS ?_)))))
     refine Oq Vm (Oq Va (KS ?_))
     refine Oq Vm (Oq Vm (Oq Vsub (Oq Vm (Oq Vm (Oq Vsub (Oq Va (Oq Va (KS ?_))))))))
     refine Oq Vm (Oq Vquo (Oq Va (KS ?_)))
     refine Oq Vm (Oq Vm (Oq Vlss (KS ?_)))
     refine Kc ?_ ?_
     · intro h124
       have g125 := of_decide_eq_true h124
       refine KS ?_
       refine Oq Vm (Oq Vm (Oq Vgeq (Oq Va (KS ?_))))
       refine Oq Vm (Oq Vm (Oq Vm (Oq Vm (Oq Vm ?_))))
       refine Fl 0 fun hn126 => ?_; (try unfold vl); rw [← hn126]
       refine letv (rc rv117.2.2 a_4 rv117.1 (limit_6 - 1) cmpp) fun rv127 hg128 => ?_
       have hc129 := hrc rv117.2.2 dataa0 datak0 a_4 rv117.1 ((limit_6 - 1)) cmpF cmpC cmpp cmpA pre pre pre hcmpc hcmpF pre pre pre rv127 hg128
       refine Oc [0, 0] ca32 hc129 ?_
       rintro - he130
       have hn131 : rv117.2.2.length = data.length := by omega
       try unfold vl
       try rw [hn131]
       refine KS ?_
       refine Oq Vm (Oq Vadd (Oq Va (KS ?_)))
       exact Kg (r2, rv127, (rv117.1 + 1), b_5, (limit_6 - 1), decide (((b_5 - a_4) / 8) ≤ (rv117.1 - a_4)), rv117.2.1) [0, 0] ⟨(q3 hM9 (by simp only [slices_pdqsortCmpFunc_Account_F_L0, h17, h28, h39, h41, h56, h64, h66, h124, hg45, hg51, hg60, hg118, hg128, cs4])), (by omega), (by omega), (by omega), iv1⟩
     intro h124
     have g132 := of_decide_eq_false h124
     refine KS ?_
     refine Oq Vm (Oq Vm (Oq Vgeq (Oq Va (KS ?_))))
     refine Oq Vm (Oq Vm (Oq Vadd (Oq Vm (Oq Vm (Oq Vm ?_)))))
     refine Fl 0 fun hn133 => ?_; (try unfold vl); rw [← hn133]
     refine letv (rc rv117.2.2 (rv117.1 + 1) b_5 (limit_6 - 1) cmpp) fun rv134 hg135 => ?_
     have hc136 := hrc rv117.2.2 dataa0 datak0 ((rv117.1 + 1)) b_5 ((limit_6 - 1)) cmpF cmpC cmpp cmpA pre pre pre hcmpc hcmpF pre pre pre rv134 hg135
     refine Oc [0, 0] ca32 hc136 ?_
     rintro - he137
     have hn138 : rv117.2.2.length = data.length := by omega
     try unfold vl
     try rw [hn138]
     refine KS ?_
     refine Oq Vm (Oq Va (KS ?_))
     exact Kg (r2, rv134, a_4, rv117.1, (limit_6 - 1), decide (((b_5 - a_4) / 8) ≤ (b_5 - rv117.1)), rv117.2.1) [0, 0] ⟨(q3 hM9 (by simp only [slices_pdqsortCmpFunc_Account_F_L0, h17, h28, h39, h41, h56, h64, h66, h124, hg45, hg51, hg60, hg118, hg135, cs4])), (by omega), (by omega), (by omega), iv1⟩
   intro h56
   have g139 := ne_of_beq_false h56
   refine KS ?_
   refine Oq Vm (Oq Vm ?_)
   refine Js 69 ?_ ?_
   · intro h140
     exact absurd h140 (by first | (simp [h39]; done) | (simp only [bne, h39]; decide) | (simp only [bne, h39, Bool.not_true, Bool.not_false]; decide) | (exfalso; omega) | (intro hq; simp only [bne, hq, Bool.not_false, Bool.not_true, reduceCtorEq] at h39))
   intro h140
   refine Osk (Oq Vpf (Oq Vm (Osk (Osk (Oq Vpf (KS ?_))))))
   refine Kf ?_
   refine KS ?_
   refine bool_split (decide (0 < a_4)) ?_ ?_
   · intro h142
     have g143 := of_decide_eq_true h142
     refine JJ_peekO_GAccount ((a_4 - 1) : Int).toNat 0 rfl rng fun hb144 hb145 hb146 hb147 => ?_
     unfold i64ok at hb144 hb145 hb146 hb147
     refine JJ_peekO2_GAccount rv50.1.toNat 0 rfl rng fun hb148 hb149 hb150 hb151 => ?_
     unfold i64ok at hb148 hb149 hb150 hb151
     refine JK_drawK [0, 1, 3, 7, 7, 7, 39, 119, 247, 7, 7, 1543, 3591, 8191, 16383, 32767, 65535] fmix ?_
     refine Dv [] Vm (Db h142 [] Vgtr (Dv [] Vm (Dv [] Vm (Dv [] Vm (Dv [] Vm (Dv [] Vsub (Dv [0] (Vi sl35 0) (Dv [0] (VldA sh38 0) (Dv [] Vm ?_)))))))))
     refine Dv [] Vm (Dv [0] (Vi sl35 0) (Dv [0] (VldA sh38 0) (Dx [1] [] [1, 0] (fun G => vi (cmpp (rv44.getD ((a_4 - 1) : Int).toNat default) (rv44.getD rv50.1.toNat default))) [fun G => SP.fact (i64ok (cmpp (rv44.getD ((a_4 - 1) : Int).toNat default) (rv44.getD rv50.1.toNat default)))] (fun G => xE («as» := [(.agg #[vi ((rv44.getD ((a_4 - 1) : Int).toNat default).Query), vi ((rv44.getD ((a_4 - 1) : Int).toNat default).Turns), vi ((rv44.getD ((a_4 - 1) : Int).toNat default).Steps), vi ((rv44.getD ((a_4 - 1) : Int).toNat default).Cost)] : Value), (.agg #[vi ((rv44.getD rv50.1.toNat default).Query), vi ((rv44.getD rv50.1.toNat default).Turns), vi ((rv44.getD rv50.1.toNat default).Steps), vi ((rv44.getD rv50.1.toNat default).Cost)] : Value)] ++ cmpC) [0] hcmpc rfl rfl rfl (by simp) rfl (hcmpF (rv44.getD ((a_4 - 1) : Int).toNat default) (rv44.getD rv50.1.toNat default)  pre pre pre pre pre pre pre pre)) (Dv [] Vlss (Dv [] Vnot (Dv [] Vpt ?_))))))
     refine Dn ⟨by kernel_rfl, fun G => ?_⟩
     refine Jw2 [(0, vl dataa0 datak0 data), (1, vi a_4), (2, vi b_5), (4, .func (.func cmpF) #[] cmpC.toArray), (10, vb wasBalanced_7), (11, vb wasPartitioned_8), (12, vi (b_5 - a_4)), (3, vi (limit_6 - 1)), (13, vi rv50.1), (97, vb (!(decide ((cmpp (rv44.getD ((a_4 - 1) : Int).toNat default) (rv44.getD rv50.1.toNat default)) < 0))))] [0, 1] [SP.fact (i64ok (cmpp (rv44.getD ((a_4 - 1) : Int).toNat default) (rv44.getD rv50.1.toNat default)))] ?_
     refine Jf 2 rfl ?_; rintro he152
     unfold i64ok at he152
     refine Jk [0, 0] ?_
     refine Kc ?_ ?_
     · intro h153
       have h155 := not_true h153
       have g156 := of_decide_eq_false h155
       refine KS ?_
       refine Oq Vm (Oq Vm (Oq Vm (Oq Vm (Oq Vm ?_))))
       refine Jl [0] (Ent.oread2 _ _ _ _ _ _) ?_
       refine Fl 0 fun hn157 => ?_; (try unfold vl); rw [← hn157]
       refine letv (slices_partitionEqualCmpFunc_Account rv44 a_4 b_5 rv50.1 cmpp) fun rv158 hg159 => ?_
       have hc160 := fn43 rv44 dataa0 datak0 a_4 b_5 rv50.1 cmpF cmpC cmpp cmpA pre pre pre hcmpc hcmpF pre rv158 hg159
       refine Oc [0, 0] ca43 hc160 ?_
       rintro - ⟨he161, he162, he163⟩
       unfold i64ok at he161
       have hn164 : rv44.length = data.length := by omega
       try unfold vl
       try rw [hn164]
       refine Oq Va (KS ?_)
       refine Oq Vm (Oq Va (KS ?_))
       refine Ke ?_
       exact Kg (r2, rv158.2, rv158.1, b_5, (limit_6 - 1), wasBalanced_7, wasPartitioned_8) [0, 0] ⟨(q3 hM9 (by simp only [slices_pdqsortCmpFunc_Account_F_L0, h17, h28, h39, h41, h56, h140, h142, h153, h155, hg45, hg51, hg159, cs4])), (by omega), (by omega), (by omega), iv1⟩
     intro h153
     have h166 := not_false h153
     have g167 := of_decide_eq_true h166
     refine KS ?_
     refine Oq Vm (Oq Vm (Oq Vm (Oq Vm (Oq Vm ?_))))
     refine Jl [0] (Ent.oread2 _ _ _ _ _ _) ?_
     refine Fl 0 fun hn168 => ?_; (try unfold vl); rw [← hn168]
     refine letv (slices_partitionCmpFunc_Account rv44 a_4 b_5 rv50.1 cmpp) fun rv169 hg170 => ?_
     have hc171 := fn44 rv44 dataa0 datak0 a_4 b_5 rv50.1 cmpF cmpC cmpp cmpA pre pre pre hcmpc hcmpF pre rv169 hg170
     refine Oc [0, 0] ca44 hc171 ?_
     rintro - ⟨he172, he173, he174⟩
     unfold i64ok at he172
     have hn175 : rv44.length = data.length := by omega
     try unfold vl
     try rw [hn175]
     refine Oq Vm (Oq Vx (Oq Vx (Oq Va (Oq Va (KS ?_)))))
     refine Oq Vm (Oq Va (KS ?_))
     refine Oq Vm (Oq Vm (Oq Vsub (Oq Vm (Oq Vm (Oq Vsub (Oq Va (Oq Va (KS ?_))))))))
     refine Oq Vm (Oq Vquo (Oq Va (KS ?_)))
     refine Oq Vm (Oq Vm (Oq Vlss (KS ?_)))
     refine Kc ?_ ?_
     · intro h176
       have g177 := of_decide_eq_true h176
       refine KS ?_
       refine Oq Vm (Oq Vm (Oq Vgeq (Oq Va (KS ?_))))
       refine Oq Vm (Oq Vm (Oq Vm (Oq Vm (Oq Vm ?_))))
       refine Fl 0 fun hn178 => ?_; (try unfold vl); rw [← hn178]
       refine letv (rc rv169.2.2 a_4 rv169.1 (limit_6 - 1) cmpp) fun rv179 hg180 => ?_
       have hc181 := hrc rv169.2.2 dataa0 datak0 a_4 rv169.1 ((limit_6 - 1)) cmpF cmpC cmpp cmpA pre pre pre hcmpc hcmpF pre pre pre rv179 hg180
       refine Oc [0, 0] ca32 hc181 ?_
       rintro - he182
       have hn183 : rv169.2.2.length = data.length := by omega
       try unfold vl
       try rw [hn183]
       refine KS ?_
       refine Oq Vm (Oq Vadd (Oq Va (KS ?_)))
       exact Kg (r2, rv179, (rv169.1 + 1), b_5, (limit_6 - 1), decide (((b_5 - a_4) / 8) ≤ (rv169.1 - a_4)), rv169.2.1) [0, 0] ⟨(q3 hM9 (by simp only [slices_pdqsortCmpFunc_Account_F_L0, h17, h28, h39, h41, h56, h140, h142, h153, h166, h176, hg45, hg51, hg170, hg180, cs4])), (by omega), (by omega), (by omega), iv1⟩
     intro h176
     have g184 := of_decide_eq_false h176
     refine KS ?_
     refine Oq Vm (Oq Vm (Oq Vgeq (Oq Va (KS ?_))))
     refine Oq Vm (Oq Vm (Oq Vadd (Oq Vm (Oq Vm (Oq Vm ?_)))))
     refine Fl 0 fun hn185 => ?_; (try unfold vl); rw [← hn185]
     refine letv (rc rv169.2.2 (rv169.1 + 1) b_5 (limit_6 - 1) cmpp) fun rv186 hg187 => ?_
     have hc188 := hrc rv169.2.2 dataa0 datak0 ((rv169.1 + 1)) b_5 ((limit_6 - 1)) cmpF cmpC cmpp cmpA pre pre pre hcmpc hcmpF pre pre pre rv186 hg187
     refine Oc [0, 0] ca32 hc188 ?_
     rintro - he189
     have hn190 : rv169.2.2.length = data.length := by omega
     try unfold vl
     try rw [hn190]
     refine KS ?_
     refine Oq Vm (Oq Va (KS ?_))
     exact Kg (r2, rv186, a_4, rv169.1, (limit_6 - 1), decide (((b_5 - a_4) / 8) ≤ (b_5 - rv169.1)), rv169.2.1) [0, 0] ⟨(q3 hM9 (by simp only [slices_pdqsortCmpFunc_Account_F_L0, h17, h28, h39, h41, h56, h140, h142, h153, h166, h176, hg45, hg51, hg170, hg187, cs4])), (by omega), (by omega), (by omega), iv1⟩
   intro h142
   have g191 := of_decide_eq_false h142
   refine Kq [0, 1, 3, 7, 7, 7, 39, 119, 247, 7, 7, 1543, 3591, 8191, 16383, 32767, 65535] fmix ?_
   refine Qv [] Vm (Qb h142 [] Vgtr (Qv [] Vm (Qs (Qs (Qs (Qs (Qs (Qs (Qs ?_)))))))))
   refine Qs (Qs (Qs (Qs (Qs (Qs (Qv [] Vpf ?_))))))
   refine Qn ⟨by kernel_rfl, ?_⟩
   refine Kf ?_
   refine KS ?_
   refine Oq Vm (Oq Vm (Oq Vm (Oq Vm (Oq Vm ?_))))
   refine Fl 0 fun hn192 => ?_; (try unfold vl); rw [← hn192]
   refine letv (slices_partitionCmpFunc_Account rv44 a_4 b_5 rv50.1 cmpp) fun rv193 hg194 => ?_
   have hc195 := fn44 rv44 dataa0 datak0 a_4 b_5 rv50.1 cmpF cmpC cmpp cmpA pre pre pre hcmpc hcmpF pre rv193 hg194
   refine Oc [0, 0] ca44 hc195 ?_
   rintro - ⟨he196, he197, he198⟩
   unfold i64ok at he196
   have hn199 : rv44.length = data.length := by omega
   try unfold vl
   try rw [hn199]
   refine Oq Vm (Oq Vx (Oq Vx (Oq Va (Oq Va (KS ?_)))))
   refine Oq Vm (Oq Va (KS ?_))
   refine Oq Vm (Oq Vm (Oq Vsub (Oq Vm (Oq Vm (Oq Vsub (Oq Va (Oq Va (KS ?_))))))))
   refine Oq Vm (Oq Vquo (Oq Va (KS ?_)))
   refine Oq Vm (Oq Vm (Oq Vlss (KS ?_)))
   refine Kc ?_ ?_
   · intro h200
     have g201 := of_decide_eq_true h200
     refine KS ?_
     refine Oq Vm (Oq Vm (Oq Vgeq (Oq Va (KS ?_))))
     refine Oq Vm (Oq Vm (Oq Vm (Oq Vm (Oq Vm ?_))))
     refine Fl 0 fun hn202 => ?_; (try unfold vl); rw [← hn202]
     refine letv (rc rv193.2.2 a_4 rv193.1 (limit_6 - 1) cmpp) fun rv203 hg204 => ?_
     have hc205 := hrc rv193.2.2 dataa0 datak0 a_4 rv193.1 ((limit_6 - 1)) cmpF cmpC cmpp cmpA pre pre pre hcmpc hcmpF pre pre pre rv203 hg204
     refine Oc [0, 0] ca32 hc205 ?_
     rintro - he206
     have hn207 : rv193.2.2.length = data.length := by omega
     try unfold vl
     try rw [hn207]
     refine KS ?_
     refine Oq Vm (Oq Vadd (Oq Va (KS ?_)))
     exact Kg (r2, rv203, (rv193.1 + 1), b_5, (limit_6 - 1), decide (((b_5 - a_4) / 8) ≤ (rv193.1 - a_4)), rv193.2.1) [0, 0] ⟨(q3 hM9 (by simp only [slices_pdqsortCmpFunc_Account_F_L0, h17, h28, h39, h41, h56, h140, h142, h200, hg45, hg51, hg194, hg204, cs4])), (by omega), (by omega), (by omega), iv1⟩
   intro h200
   have g208 := of_decide_eq_false h200
   refine KS ?_
   refine Oq Vm (Oq Vm (Oq Vgeq (Oq Va (KS ?_))))
   refine Oq Vm (Oq Vm (Oq Vadd (Oq Vm (Oq Vm (Oq Vm ?_)))))
   refine Fl 0 fun hn209 => ?_; (try unfold vl); rw [← hn209]
   refine letv (rc rv193.2.2 (rv193.1 + 1) b_5 (limit_6 - 1) cmpp) fun rv210 hg211 => ?_
   have hc212 := hrc rv193.2.2 dataa0 datak0 ((rv193.1 + 1)) b_5 ((limit_6 - 1)) cmpF cmpC cmpp cmpA pre pre pre hcmpc hcmpF pre pre pre rv210 hg211
   refine Oc [0, 0] ca32 hc212 ?_
   rintro - he213
   have hn214 : rv193.2.2.length = data.length := by omega
   try unfold vl
   try rw [hn214]
   refine KS ?_
   refine Oq Vm (Oq Va (KS ?_))
   exact Kg (r2, rv210, a_4, rv193.1, (limit_6 - 1), decide (((b_5 - a_4) / 8) ≤ (b_5 - rv193.1)), rv193.2.1) [0, 0] ⟨(q3 hM9 (by simp only [slices_pdqsortCmpFunc_Account_F_L0, h17, h28, h39, h41, h56, h140, h142, h200, hg45, hg51, hg194, hg211, cs4])), (by omega), (by omega), (by omega), iv1⟩
 intro h39
 have h216 := not_false h39
 refine KS ?_
 refine Oq Vm (Oq Vm (Oq Vm (Oq Vm ?_)))
 refine Fl 0 fun hn218 => ?_; (try unfold vl); rw [← hn218]
 refine letv (slices_choosePivotCmpFunc_Account data_3 a_4 b_5 cmpp) fun rv219 hg220 => ?_
 refine Oc [0, 0] ca40 (FT_borrow (A := _) (fun _ _ h => by cases h) (FT_ent (Ent.take (is := [0, 1]) rfl) (fn40 data_3 dataa0 datak0 a_4 b_5 cmpF cmpC cmpp cmpA pre pre hcmpc hcmpF pre rv219 hg220))) ?_ (ht := rfl)
 rintro - ⟨he221, he222, he223⟩
 unfold i64ok at he221 he222
 have hn224 : data_3.length = data.length := by omega
 try unfold vl
 try rw [hn224]
 refine Oq Vm (Oq Vx (Oq Vx (Oq Va (Oq Va (KS ?_)))))
 refine Oq Vm (Oq Veql (KS ?_))
 refine Kc ?_ ?_
 · intro h225
   have g226 := eq_of_beq h225
   refine KS ?_
   refine Oq Vm (Oq Vm (Oq Vm (Oq Vm ?_)))
   refine Fl 0 fun hn227 => ?_; (try unfold vl); rw [← hn227]
   refine letv (slices_reverseRangeCmpFunc_Account data_3 a_4 b_5 cmpp) fun rv228 hg229 => ?_
   have hc230 := fn41 data_3 dataa0 datak0 a_4 b_5 cmpF cmpC cmpp cmpA pre pre hcmpc hcmpF pre rv228 hg229
   refine Oc [0, 0] ca41 hc230 ?_
   rintro - he231
   have hn232 : data_3.length = data.length := by omega
   try unfold vl
   try rw [hn232]
   refine KS ?_
   refine Oq Vm (Oq Vsub (Oq Vm (Oq Vm (Oq Vsub (Oq Vsub (Oq Va (KS ?_)))))))
   refine Oq Va (KS ?_)
   refine Oq Vm (Oq Vm ?_)
   refine Js 69 ?_ ?_
   · intro h233
     refine Oq Vm (Oq Vpt (Oq Vm ?_))
     refine Js 72 ?_ ?_
     · intro h235
       refine Oq Vm (Oq Veql (Oq Vpt (KS ?_)))
       refine Kt ?_
       refine KS ?_
       refine Oq Vm (Oq Vm (Oq Vm (Oq Vm ?_)))
       refine Fl 0 fun hn237 => ?_; (try unfold vl); rw [← hn237]
       refine letv (slices_partialInsertionSortCmpFunc_Account rv228 a_4 b_5 cmpp) fun rv238 hg239 => ?_
       have hc240 := fn42 rv228 dataa0 datak0 a_4 b_5 cmpF cmpC cmpp cmpA pre pre hcmpc hcmpF pre rv238 hg239
       refine Oc [0, 0] ca42 hc240 ?_
       rintro - he241
       have hn242 : rv228.length = data.length := by omega
       try unfold vl
       try rw [hn242]
       refine KS ?_
       refine Kc ?_ ?_
       · intro h243
         refine Fl 0 fun hn245 => ?_
         have hR246 := q2 hM9 (.ret rv238.2) (by simp only [slices_pdqsortCmpFunc_Account_F_L0, h17, h28, h39, h216, h225, h233, h235, h243, hg220, hg229, hg239, cs4])
         have hq := q4 hrr rv238.2 (by simp only [slices_pdqsortCmpFunc_Account_F, h17, h28, h39, h216, h225, h233, h235, h243, hg220, hg229, hg239, hR246, cs4]); subst hq
         exact Kr () rfl .nil [0] en
       intro h243
       refine KS ?_
       refine bool_split (decide (0 < a_4)) ?_ ?_
       · intro h248
         have g249 := of_decide_eq_true h248
         refine JJ_peekO_GAccount ((a_4 - 1) : Int).toNat 0 rfl rng fun hb250 hb251 hb252 hb253 => ?_
         unfold i64ok at hb250 hb251 hb252 hb253
         refine JJ_peekO2_GAccount (((b_5 - 1) - (rv219.1 - a_4)) : Int).toNat 0 rfl rng fun hb254 hb255 hb256 hb257 => ?_
         unfold i64ok at hb254 hb255 hb256 hb257
         refine JK_drawK [0, 1, 3, 7, 7, 7, 39, 119, 247, 7, 7, 1543, 3591, 8191, 16383, 32767, 65535] fmix ?_
         refine Dv [] Vm (Db h248 [] Vgtr (Dv [] Vm (Dv [] Vm (Dv [] Vm (Dv [] Vm (Dv [] Vsub (Dv [0] (Vi sl35 0) (Dv [0] (VldA sh38 0) (Dv [] Vm ?_)))))))))
         refine Dv [] Vm (Dv [0] (Vi sl35 0) (Dv [0] (VldA sh38 0) (Dx [1] [] [1, 0] (fun G => vi (cmpp (rv238.2.getD ((a_4 - 1) : Int).toNat default) (rv238.2.getD (((b_5 - 1) - (rv219.1 - a_4)) : Int).toNat default))) [fun G => SP.fact (i64ok (cmpp (rv238.2.getD ((a_4 - 1) : Int).toNat default) (rv238.2.getD (((b_5 - 1) - (rv219.1 - a_4)) : Int).toNat default)))] (fun G => xE («as» := [(.agg #[vi ((rv238.2.getD ((a_4 - 1) : Int).toNat default).Query), vi ((rv238.2.getD ((a_4 - 1) : Int).toNat default).Turns), vi ((rv238.2.getD ((a_4 - 1) : Int).toNat default).Steps), vi ((rv238.2.getD ((a_4 - 1) : Int).toNat default).Cost)] : Value), (.agg #[vi ((rv238.2.getD (((b_5 - 1) - (rv219.1 - a_4)) : Int).toNat default).Query), vi ((rv238.2.getD (((b_5 - 1) - (rv219.1 - a_4)) : Int).toNat default).Turns), vi ((rv238.2.getD (((b_5 - 1) - (rv219.1 - a_4)) : Int).toNat default).Steps), vi ((rv238.2.getD (((b_5 - 1) - (rv219.1 - a_4)) : Int).toNat default).Cost)] : Value)] ++ cmpC) [0] hcmpc rfl rfl rfl (by simp) rfl (hcmpF (rv238.2.getD ((a_4 - 1) : Int).toNat default) (rv238.2.getD (((b_5 - 1) - (rv219.1 - a_4)) : Int).toNat default)  pre pre pre pre pre pre pre pre)) (Dv [] Vlss (Dv [] Vnot (Dv [] Vpt ?_))))))
         refine Dn ⟨by kernel_rfl, fun G => ?_⟩
         refine Jw2 [(0, vl dataa0 datak0 data), (1, vi a_4), (2, vi b_5), (3, vi limit_6), (4, .func (.func cmpF) #[] cmpC.toArray), (10, vb wasBalanced_7), (11, vb wasPartitioned_8), (12, vi (b_5 - a_4)), (13, vi ((b_5 - 1) - (rv219.1 - a_4))), (97, vb (!(decide ((cmpp (rv238.2.getD ((a_4 - 1) : Int).toNat default) (rv238.2.getD (((b_5 - 1) - (rv219.1 - a_4)) : Int).toNat default)) < 0))))] [0, 1] [SP.fact (i64ok (cmpp (rv238.2.getD ((a_4 - 1) : Int).toNat default) (rv238.2.getD (((b_5 - 1) - (rv219.1 - a_4)) : Int).toNat default)))] ?_
         refine Jf 2 rfl ?_; rintro he258
         unfold i64ok at he258
         refine Jk [0, 0] ?_
         refine Kc ?_ ?_
         · intro h259
           have h261 := not_true h259
           have g262 := of_decide_eq_false h261
           refine KS ?_
           refine Oq Vm (Oq Vm (Oq Vm (Oq Vm (Oq Vm ?_))))
           refine Jl [0] (Ent.oread2 _ _ _ _ _ _) ?_
           refine Fl 0 fun hn263 => ?_; (try unfold vl); rw [← hn263]
           refine letv (slices_partitionEqualCmpFunc_Account rv238.2 a_4 b_5 ((b_5 - 1) - (rv219.1 - a_4)) cmpp) fun rv264 hg265 => ?_
           have hc266 := fn43 rv238.2 dataa0 datak0 a_4 b_5 (((b_5 - 1) - (rv219.1 - a_4))) cmpF cmpC cmpp cmpA pre pre pre hcmpc hcmpF pre rv264 hg265
           refine Oc [0, 0] ca43 hc266 ?_
           rintro - ⟨he267, he268, he269⟩
           unfold i64ok at he267
           have hn270 : rv238.2.length = data.length := by omega
           try unfold vl
           try rw [hn270]
           refine Oq Va (KS ?_)
           refine Oq Vm (Oq Va (KS ?_))
           refine Ke ?_
           exact Kg (r2, rv264.2, rv264.1, b_5, limit_6, wasBalanced_7, wasPartitioned_8) [0, 0] ⟨(q3 hM9 (by simp only [slices_pdqsortCmpFunc_Account_F_L0, h17, h28, h39, h216, h225, h233, h235, h243, h248, h259, h261, hg220, hg229, hg239, hg265, cs4])), (by omega), (by omega), (by omega), iv1⟩
         intro h259
         have h272 := not_false h259
         have g273 := of_decide_eq_true h272
         refine KS ?_
         refine Oq Vm (Oq Vm (Oq Vm (Oq Vm (Oq Vm ?_))))
         refine Jl [0] (Ent.oread2 _ _ _ _ _ _) ?_
         refine Fl 0 fun hn274 => ?_; (try unfold vl); rw [← hn274]
         refine letv (slices_partitionCmpFunc_Account rv238.2 a_4 b_5 ((b_5 - 1) - (rv219.1 - a_4)) cmpp) fun rv275 hg276 => ?_
         have hc277 := fn44 rv238.2 dataa0 datak0 a_4 b_5 (((b_5 - 1) - (rv219.1 - a_4))) cmpF cmpC cmpp cmpA pre pre pre hcmpc hcmpF pre rv275 hg276
         refine Oc [0, 0] ca44 hc277 ?_
         rintro - ⟨he278, he279, he280⟩
         unfold i64ok at he278
         have hn281 : rv238.2.length = data.length := by omega
         try unfold vl
         try rw [hn281]
         refine Oq Vm (Oq Vx (Oq Vx (Oq Va (Oq Va (KS ?_)))))
         refine Oq Vm (Oq Va (KS ?_))
         refine Oq Vm (Oq Vm (Oq Vsub (Oq Vm (Oq Vm (Oq Vsub (Oq Va (Oq Va (KS ?_))))))))
         refine Oq Vm (Oq Vquo (Oq Va (KS ?_)))
         refine Oq Vm (Oq Vm (Oq Vlss (KS ?_)))
         refine Kc ?_ ?_
         · intro h282
           have g283 := of_decide_eq_true h282
           refine KS ?_
           refine Oq Vm (Oq Vm (Oq Vgeq (Oq Va (KS ?_))))
           refine Oq Vm (Oq Vm (Oq Vm (Oq Vm (Oq Vm ?_))))
           refine Fl 0 fun hn284 => ?_; (try unfold vl); rw [← hn284]
           refine letv (rc rv275.2.2 a_4 rv275.1 limit_6 cmpp) fun rv285 hg286 => ?_
           have hc287 := hrc rv275.2.2 dataa0 datak0 a_4 rv275.1 limit_6 cmpF cmpC cmpp cmpA pre pre pre hcmpc hcmpF pre pre pre rv285 hg286
           refine Oc [0, 0] ca32 hc287 ?_
           rintro - he288
           have hn289 : rv275.2.2.length = data.length := by omega
           try unfold vl
           try rw [hn289]
           refine KS ?_
           refine Oq Vm (Oq Vadd (Oq Va (KS ?_)))
           exact Kg (r2, rv285, (rv275.1 + 1), b_5, limit_6, decide (((b_5 - a_4) / 8) ≤ (rv275.1 - a_4)), rv275.2.1) [0, 0] ⟨(q3 hM9 (by simp only [slices_pdqsortCmpFunc_Account_F_L0, h17, h28, h39, h216, h225, h233, h235, h243, h248, h259, h272, h282, hg220, hg229, hg239, hg276, hg286, cs4])), (by omega), (by omega), (by omega), iv1⟩
         intro h282
         have g290 := of_decide_eq_false h282
         refine KS ?_
         refine Oq Vm (Oq Vm (Oq Vgeq (Oq Va (KS ?_))))
         refine Oq Vm (Oq Vm (Oq Vadd (Oq Vm (Oq Vm (Oq Vm ?_)))))
         refine Fl 0 fun hn291 => ?_; (try unfold vl); rw [← hn291]
         refine letv (rc rv275.2.2 (rv275.1 + 1) b_5 limit_6 cmpp) fun rv292 hg293 => ?_
         have hc294 := hrc rv275.2.2 dataa0 datak0 ((rv275.1 + 1)) b_5 limit_6 cmpF cmpC cmpp cmpA pre pre pre hcmpc hcmpF pre pre pre rv292 hg293
         refine Oc [0, 0] ca32 hc294 ?_
         rintro - he295
         have hn296 : rv275.2.2.length = data.length := by omega
         try unfold vl
         try rw [hn296]
         refine KS ?_
         refine Oq Vm (Oq Va (KS ?_))
         exact Kg (r2, rv292, a_4, rv275.1, limit_6, decide (((b_5 - a_4) / 8) ≤ (b_5 - rv275.1)), rv275.2.1) [0, 0] ⟨(q3 hM9 (by simp only [slices_pdqsortCmpFunc_Account_F_L0, h17, h28, h39, h216, h225, h233, h235, h243, h248, h259, h272, h282, hg220, hg229, hg239, hg276, hg293, cs4])), (by omega), (by omega), (by omega), iv1⟩
       intro h248
       have g297 := of_decide_eq_false h248
       refine Kq [0, 1, 3, 7, 7, 7, 39, 119, 247, 7, 7, 1543, 3591, 8191, 16383, 32767, 65535] fmix ?_
       refine Qv [] Vm (Qb h248 [] Vgtr (Qv [] Vm (Qs (Qs (Qs (Qs (Qs (Qs (Qs ?_)))))))))
       refine Qs (Qs (Qs (Qs (Qs (Qs (Qv [] Vpf ?_))))))
       refine Qn ⟨by kernel_rfl, ?_⟩
       refine Kf ?_
       refine KS ?_
       refine Oq Vm (Oq Vm (Oq Vm (Oq Vm (Oq Vm ?_))))
       refine Fl 0 fun hn298 => ?_; (try unfold vl); rw [← hn298]
       refine letv (slices_partitionCmpFunc_Account rv238.2 a_4 b_5 ((b_5 - 1) - (rv219.1 - a_4)) cmpp) fun rv299 hg300 => ?_
       have hc301 := fn44 rv238.2 dataa0 datak0 a_4 b_5 (((b_5 - 1) - (rv219.1 - a_4))) cmpF cmpC cmpp cmpA pre pre pre hcmpc hcmpF pre rv299 hg300
       refine Oc [0, 0] ca44 hc301 ?_
       rintro - ⟨he302, he303, he304⟩
       unfold i64ok at he302
       have hn305 : rv238.2.length = data.length := by omega
       try unfold vl
       try rw [hn305]
       refine Oq Vm (Oq Vx (Oq Vx (Oq Va (Oq Va (KS ?_)))))
       refine Oq Vm (Oq Va (KS ?_))
       refine Oq Vm (Oq Vm (Oq Vsub (Oq Vm (Oq Vm (Oq Vsub (Oq Va (Oq Va (KS ?_))))))))
       refine Oq Vm (Oq Vquo (Oq Va (KS ?_)))
       refine Oq Vm (Oq Vm (Oq Vlss (KS ?_)))
       refine Kc ?_ ?_
       · intro h306
         have g307 := of_decide_eq_true h306
         refine KS ?_
         refine Oq Vm (Oq Vm (Oq Vgeq (Oq Va (KS ?_))))
         refine Oq Vm (Oq Vm (Oq Vm (Oq Vm (Oq Vm ?_))))
         refine Fl 0 fun hn308 => ?_; (try unfold vl); rw [← hn308]
         refine letv (rc rv299.2.2 a_4 rv299.1 limit_6 cmpp) fun rv309 hg310 => ?_
         have hc311 := hrc rv299.2.2 dataa0 datak0 a_4 rv299.1 limit_6 cmpF cmpC cmpp cmpA pre pre pre hcmpc hcmpF pre pre pre rv309 hg310
         refine Oc [0, 0] ca32 hc311 ?_
         rintro - he312
         have hn313 : rv299.2.2.length = data.length := by omega
         try unfold vl
         try rw [hn313]
         refine KS ?_
         refine Oq Vm (Oq Vadd (Oq Va (KS ?_)))
         exact Kg (r2, rv309, (rv299.1 + 1), b_5, limit_6, decide (((b_5 - a_4) / 8) ≤ (rv299.1 - a_4)), rv299.2.1) [0, 0] ⟨(q3 hM9 (by simp only [slices_pdqsortCmpFunc_Account_F_L0, h17, h28, h39, h216, h225, h233, h235, h243, h248, h306, hg220, hg229, hg239, hg300, hg310, cs4])), (by omega), (by omega), (by omega), iv1⟩
       intro h306
       have g314 := of_decide_eq_false h306
       refine KS ?_
       refine Oq Vm (Oq Vm (Oq Vgeq (Oq Va (KS ?_))))
       refine Oq Vm (Oq Vm (Oq Vadd (Oq Vm (Oq Vm (Oq Vm ?_)))))
       refine Fl 0 fun hn315 => ?_; (try unfold vl); rw [← hn315]
       refine letv (rc rv299.2.2 (rv299.1 + 1) b_5 limit_6 cmpp) fun rv316 hg317 => ?_
       have hc318 := hrc rv299.2.2 dataa0 datak0 ((rv299.1 + 1)) b_5 limit_6 cmpF cmpC cmpp cmpA pre pre pre hcmpc hcmpF pre pre pre rv316 hg317
       refine Oc [0, 0] ca32 hc318 ?_
       rintro - he319
       have hn320 : rv299.2.2.length = data.length := by omega
       try unfold vl
       try rw [hn320]
       refine KS ?_
       refine Oq Vm (Oq Va (KS ?_))
       exact Kg (r2, rv316, a_4, rv299.1, limit_6, decide (((b_5 - a_4) / 8) ≤ (b_5 - rv299.1)), rv299.2.1) [0, 0] ⟨(q3 hM9 (by simp only [slices_pdqsortCmpFunc_Account_F_L0, h17, h28, h39, h216, h225, h233, h235, h243, h248, h306, hg220, hg229, hg239, hg300, hg317, cs4])), (by omega), (by omega), (by omega), iv1⟩
     intro h235
     refine Osk (Osk (Oq Vpf (KS ?_)))
     refine Kf ?_
     refine KS ?_
     refine bool_split (decide (0 < a_4)) ?_ ?_
     · intro h322
       have g323 := of_decide_eq_true h322
       refine JJ_peekO_GAccount ((a_4 - 1) : Int).toNat 0 rfl rng fun hb324 hb325 hb326 hb327 => ?_
       unfold i64ok at hb324 hb325 hb326 hb327
       refine JJ_peekO2_GAccount (((b_5 - 1) - (rv219.1 - a_4)) : Int).toNat 0 rfl rng fun hb328 hb329 hb330 hb331 => ?_
       unfold i64ok at hb328 hb329 hb330 hb331
       refine JK_drawK [0, 1, 3, 7, 7, 7, 39, 119, 247, 7, 7, 1543, 3591, 8191, 16383, 32767, 65535] fmix ?_
       refine Dv [] Vm (Db h322 [] Vgtr (Dv [] Vm (Dv [] Vm (Dv [] Vm (Dv [] Vm (Dv [] Vsub (Dv [0] (Vi sl35 0) (Dv [0] (VldA sh38 0) (Dv [] Vm ?_)))))))))
       refine Dv [] Vm (Dv [0] (Vi sl35 0) (Dv [0] (VldA sh38 0) (Dx [1] [] [1, 0] (fun G => vi (cmpp (rv228.getD ((a_4 - 1) : Int).toNat default) (rv228.getD (((b_5 - 1) - (rv219.1 - a_4)) : Int).toNat default))) [fun G => SP.fact (i64ok (cmpp (rv228.getD ((a_4 - 1) : Int).toNat default) (rv228.getD (((b_5 - 1) - (rv219.1 - a_4)) : Int).toNat default)))] (fun G => xE («as» := [(.agg #[vi ((rv228.getD ((a_4 - 1) : Int).toNat default).Query), vi ((rv228.getD ((a_4 - 1) : Int).toNat default).Turns), vi ((rv228.getD ((a_4 - 1) : Int).toNat default).Steps), vi ((rv228.getD ((a_4 - 1) : Int).toNat default).Cost)] : Value), (.agg #[vi ((rv228.getD (((b_5 - 1) - (rv219.1 - a_4)) : Int).toNat default).Query), vi ((rv228.getD (((b_5 - 1) - (rv219.1 - a_4)) : Int).toNat default).Turns), vi ((rv228.getD (((b_5 - 1) - (rv219.1 - a_4)) : Int).toNat default).Steps), vi ((rv228.getD (((b_5 - 1) - (rv219.1 - a_4)) : Int).toNat default).Cost)] : Value)] ++ cmpC) [0] hcmpc rfl rfl rfl (by simp) rfl (hcmpF (rv228.getD ((a_4 - 1) : Int).toNat default) (rv228.getD (((b_5 - 1) - (rv219.1 - a_4)) : Int).toNat default)  pre pre pre pre pre pre pre pre)) (Dv [] Vlss (Dv [] Vnot (Dv [] Vpt ?_))))))
       refine Dn ⟨by kernel_rfl, fun G => ?_⟩
       refine Jw2 [(0, vl dataa0 datak0 data), (1, vi a_4), (2, vi b_5), (3, vi limit_6), (4, .func (.func cmpF) #[] cmpC.toArray), (10, vb wasBalanced_7), (11, vb wasPartitioned_8), (12, vi (b_5 - a_4)), (13, vi ((b_5 - 1) - (rv219.1 - a_4))), (97, vb (!(decide ((cmpp (rv228.getD ((a_4 - 1) : Int).toNat default) (rv228.getD (((b_5 - 1) - (rv219.1 - a_4)) : Int).toNat default)) < 0))))] [0, 1] [SP.fact (i64ok (cmpp (rv228.getD ((a_4 - 1) : Int).toNat default) (rv228.getD (((b_5 - 1) - (rv219.1 - a_4)) : Int).toNat default)))] ?_
       refine Jf 2 rfl ?_; rintro he332
       unfold i64ok at he332
       refine Jk [0, 0] ?_
       refine Kc ?_ ?_
       · intro h333
         have h335 := not_true h333
         have g336 := of_decide_eq_false h335
         refine KS ?_
         refine Oq Vm (Oq Vm (Oq Vm (Oq Vm (Oq Vm ?_))))
         refine Jl [0] (Ent.oread2 _ _ _ _ _ _) ?_
         refine Fl 0 fun hn337 => ?_; (try unfold vl); rw [← hn337]
         refine letv (slices_partitionEqualCmpFunc_Account rv228 a_4 b_5 ((b_5 - 1) - (rv219.1 - a_4)) cmpp) fun rv338 hg339 => ?_
         have hc340 := fn43 rv228 dataa0 datak0 a_4 b_5 (((b_5 - 1) - (rv219.1 - a_4))) cmpF cmpC cmpp cmpA pre pre pre hcmpc hcmpF pre rv338 hg339
         refine Oc [0, 0] ca43 hc340 ?_
         rintro - ⟨he341, he342, he343⟩
         unfold i64ok at he341
         have hn344 : rv228.length = data.length := by omega
         try unfold vl
         try rw [hn344]
         refine Oq Va (KS ?_)
         refine Oq Vm (Oq Va (KS ?_))
         refine Ke ?_
         exact Kg (r2, rv338.2, rv338.1, b_5, limit_6, wasBalanced_7, wasPartitioned_8) [0, 0] ⟨(q3 hM9 (by simp only [slices_pdqsortCmpFunc_Account_F_L0, h17, h28, h39, h216, h225, h233, h235, h322, h333, h335, hg220, hg229, hg339, cs4])), (by omega), (by omega), (by omega), iv1⟩
       intro h333
       have h346 := not_false h333
       have g347 := of_decide_eq_true h346
       refine KS ?_
       refine Oq Vm (Oq Vm (Oq Vm (Oq Vm (Oq Vm ?_))))
       refine Jl [0] (Ent.oread2 _ _ _ _ _ _) ?_
       refine Fl 0 fun hn348 => ?_; (try unfold vl); rw [← hn348]
       refine letv (slices_partitionCmpFunc_Account rv228 a_4 b_5 ((b_5 - 1) - (rv219.1 - a_4)) cmpp) fun rv349 hg350 => ?_
       have hc351 := fn44 rv228 dataa0 datak0 a_4 b_5 (((b_5 - 1) - (rv219.1 - a_4))) cmpF cmpC cmpp cmpA pre pre pre hcmpc hcmpF pre rv349 hg350
       refine Oc [0, 0] ca44 hc351 ?_
       rintro - ⟨he352, he353, he354⟩
       unfold i64ok at he352
       have hn355 : rv228.length = data.length := by omega
       try unfold vl
       try rw [hn355]
       refine Oq Vm (Oq Vx (Oq Vx (Oq Va (Oq Va (KS ?_)))))
       refine Oq Vm (Oq Va (KS ?_))
       refine Oq Vm (Oq Vm (Oq Vsub (Oq Vm (Oq Vm (Oq Vsub (Oq Va (Oq Va (KS ?_))))))))
       refine Oq Vm (Oq Vquo (Oq Va (KS ?_)))
       refine Oq Vm (Oq Vm (Oq Vlss (KS ?_)))
       refine Kc ?_ ?_
       · intro h356
         have g357 := of_decide_eq_true h356
         refine KS ?_
         refine Oq Vm (Oq Vm (Oq Vgeq (Oq Va (KS ?_))))
         refine Oq Vm (Oq Vm (Oq Vm (Oq Vm (Oq Vm ?_))))
         refine Fl 0 fun hn358 => ?_; (try unfold vl); rw [← hn358]
         refine letv (rc rv349.2.2 a_4 rv349.1 limit_6 cmpp) fun rv359 hg360 => ?_
         have hc361 := hrc rv349.2.2 dataa0 datak0 a_4 rv349.1 limit_6 cmpF cmpC cmpp cmpA pre pre pre hcmpc hcmpF pre pre pre rv359 hg360
         refine Oc [0, 0] ca32 hc361 ?_
         rintro - he362
         have hn363 : rv349.2.2.length = data.length := by omega
         try unfold vl
         try rw [hn363]
         refine KS ?_
         refine Oq Vm (Oq Vadd (Oq Va (KS ?_)))
         exact Kg (r2, rv359, (rv349.1 + 1), b_5, limit_6, decide (((b_5 - a_4) / 8) ≤ (rv349.1 - a_4)), rv349.2.1) [0, 0] ⟨(q3 hM9 (by simp only [slices_pdqsortCmpFunc_Account_F_L0, h17, h28, h39, h216, h225, h233, h235, h322, h333, h346, h356, hg220, hg229, hg350, hg360, cs4])), (by omega), (by omega), (by omega), iv1⟩
       intro h356
       have g364 := of_decide_eq_false h356
       refine KS ?_
       refine Oq Vm (Oq Vm (Oq Vgeq (Oq Va (KS ?_))))
       refine Oq Vm (Oq Vm (Oq Vadd (Oq Vm (Oq Vm (Oq Vm ?_)))))
       refine Fl 0 fun hn365 => ?_; (try unfold vl); rw [← hn365]
       refine letv (rc rv349.2.2 (rv349.1 + 1) b_5 limit_6 cmpp) fun rv366 hg367 => ?_
       have hc368 := hrc rv349.2.2 dataa0 datak0 ((rv349.1 + 1)) b_5 limit_6 cmpF cmpC cmpp cmpA pre pre pre hcmpc hcmpF pre pre pre rv366 hg367
       refine Oc [0, 0] ca32 hc368 ?_
       rintro - he369
       have hn370 : rv349.2.2.length = data.length := by omega
       try unfold vl
       try rw [hn370]
       refine KS ?_
       refine Oq Vm (Oq Va (KS ?_))
       exact Kg (r2, rv366, a_4, rv349.1, limit_6, decide (((b_5 - a_4) / 8) ≤ (b_5 - rv349.1)), rv349.2.1) [0, 0] ⟨(q3 hM9 (by simp only [slices_pdqsortCmpFunc_Account_F_L0, h17, h28, h39, h216, h225, h233, h235, h322, h333, h346, h356, hg220, hg229, hg350, hg367, cs4])), (by omega), (by omega), (by omega), iv1⟩
     intro h322
     have g371 := of_decide_eq_false h322
     refine Kq [0, 1, 3, 7, 7, 7, 39, 119, 247, 7, 7, 1543, 3591, 8191, 16383, 32767, 65535] fmix ?_
     refine Qv [] Vm (Qb h322 [] Vgtr (Qv [] Vm (Qs (Qs (Qs (Qs (Qs (Qs (Qs ?_)))))))))
     refine Qs (Qs (Qs (Qs (Qs (Qs (Qv [] Vpf ?_))))))
     refine Qn ⟨by kernel_rfl, ?_⟩
     refine Kf ?_
     refine KS ?_
     refine Oq Vm (Oq Vm (Oq Vm (Oq Vm (Oq Vm ?_))))
     refine Fl 0 fun hn372 => ?_; (try unfold vl); rw [← hn372]
     refine letv (slices_partitionCmpFunc_Account rv228 a_4 b_5 ((b_5 - 1) - (rv219.1 - a_4)) cmpp) fun rv373 hg374 => ?_
     have hc375 := fn44 rv228 dataa0 datak0 a_4 b_5 (((b_5 - 1) - (rv219.1 - a_4))) cmpF cmpC cmpp cmpA pre pre pre hcmpc hcmpF pre rv373 hg374
     refine Oc [0, 0] ca44 hc375 ?_
     rintro - ⟨he376, he377, he378⟩
     unfold i64ok at he376
     have hn379 : rv228.length = data.length := by omega
     try unfold vl
     try rw [hn379]
     refine Oq Vm (Oq Vx (Oq Vx (Oq Va (Oq Va (KS ?_)))))
     refine Oq Vm (Oq Va (KS ?_))
     refine Oq Vm (Oq Vm (Oq Vsub (Oq Vm (Oq Vm (Oq Vsub (Oq Va (Oq Va (KS ?_))))))))
     refine Oq Vm (Oq Vquo (Oq Va (KS ?_)))
     refine Oq Vm (Oq Vm (Oq Vlss (KS ?_)))
     refine Kc ?_ ?_
     · intro h380
       have g381 := of_decide_eq_true h380
       refine KS ?_
       refine Oq Vm (Oq Vm (Oq Vgeq (Oq Va (KS ?_))))
       refine Oq Vm (Oq Vm (Oq Vm (Oq Vm (Oq Vm ?_))))
       refine Fl 0 fun hn382 => ?_; (try unfold vl); rw [← hn382]
       refine letv (rc rv373.2.2 a_4 rv373.1 limit_6 cmpp) fun rv383 hg384 => ?_
       have hc385 := hrc rv373.2.2 dataa0 datak0 a_4 rv373.1 limit_6 cmpF cmpC cmpp cmpA pre pre pre hcmpc hcmpF pre pre pre rv383 hg384
       refine Oc [0, 0] ca32 hc385 ?_
       rintro - he386
       have hn387 : rv373.2.2.length = data.length := by omega
       try unfold vl
       try rw [hn387]
       refine KS ?_
       refine Oq Vm (Oq Vadd (Oq Va (KS ?_)))
       exact Kg (r2, rv383, (rv373.1 + 1), b_5, limit_6, decide (((b_5 - a_4) / 8) ≤ (rv373.1 - a_4)), rv373.2.1) [0, 0] ⟨(q3 hM9 (by simp only [slices_pdqsortCmpFunc_Account_F_L0, h17, h28, h39, h216, h225, h233, h235, h322, h380, hg220, hg229, hg374, hg384, cs4])), (by omega), (by omega), (by omega), iv1⟩
     intro h380
     have g388 := of_decide_eq_false h380
     refine KS ?_
     refine Oq Vm (Oq Vm (Oq Vgeq (Oq Va (KS ?_))))
     refine Oq Vm (Oq Vm (Oq Vadd (Oq Vm (Oq Vm (Oq Vm ?_)))))
     refine Fl 0 fun hn389 => ?_; (try unfold vl); rw [← hn389]
     refine letv (rc rv373.2.2 (rv373.1 + 1) b_5 limit_6 cmpp) fun rv390 hg391 => ?_
     have hc392 := hrc rv373.2.2 dataa0 datak0 ((rv373.1 + 1)) b_5 limit_6 cmpF cmpC cmpp cmpA pre pre pre hcmpc hcmpF pre pre pre rv390 hg391
     refine Oc [0, 0] ca32 hc392 ?_
     rintro - he393
     have hn394 : rv373.2.2.length = data.length := by omega
     try unfold vl
     try rw [hn394]
     refine KS ?_
     refine Oq Vm (Oq Va (KS ?_))
     exact Kg (r2, rv390, a_4, rv373.1, limit_6, decide (((b_5 - a_4) / 8) ≤ (b_5 - rv373.1)), rv373.2.1) [0, 0] ⟨(q3 hM9 (by simp only [slices_pdqsortCmpFunc_Account_F_L0, h17, h28, h39, h216, h225, h233, h235, h322, h380, hg220, hg229, hg374, hg391, cs4])), (by omega), (by omega), (by omega), iv1⟩
   intro h233
   exact absurd h233 (by first | (simp [h39]; done) | (simp only [bne, h39]; decide) | (simp only [bne, h39, Bool.not_true, Bool.not_false]; decide) | (exfalso; omega) | (intro hq; simp only [bne, hq, Bool.not_false, Bool.not_true, reduceCtorEq] at h39))
 intro h225
 have g395 := ne_of_beq_false h225
 refine KS ?_
 refine Oq Vm (Oq Vm ?_)
 refine Js 69 ?_ ?_
 · intro h396
   refine Oq Vm (Oq Vpt (Oq Vm ?_))
   refine Js 72 ?_ ?_
   · intro h398
     refine Oq Vm (Oq Veql (Oq Vpt (KS ?_)))
     refine Kc ?_ ?_
     · intro h400
       have g401 := eq_of_beq h400
       refine KS ?_
       refine Oq Vm (Oq Vm (Oq Vm (Oq Vm ?_)))
       refine Fl 0 fun hn402 => ?_; (try unfold vl); rw [← hn402]
       refine letv (slices_partialInsertionSortCmpFunc_Account data_3 a_4 b_5 cmpp) fun rv403 hg404 => ?_
       have hc405 := fn42 data_3 dataa0 datak0 a_4 b_5 cmpF cmpC cmpp cmpA pre pre hcmpc hcmpF pre rv403 hg404
       refine Oc [0, 0] ca42 hc405 ?_
       rintro - he406
       have hn407 : data_3.length = data.length := by omega
       try unfold vl
       try rw [hn407]
       refine KS ?_
       refine Kc ?_ ?_
       · intro h408
         refine Fl 0 fun hn410 => ?_
         have hR411 := q2 hM9 (.ret rv403.2) (by simp only [slices_pdqsortCmpFunc_Account_F_L0, h17, h28, h39, h216, h225, h396, h398, h400, h408, hg220, hg404, cs4])
         have hq := q4 hrr rv403.2 (by simp only [slices_pdqsortCmpFunc_Account_F, h17, h28, h39, h216, h225, h396, h398, h400, h408, hg220, hg404, hR411, cs4]); subst hq
         exact Kr () rfl .nil [0] en
       intro h408
       refine KS ?_
       refine bool_split (decide (0 < a_4)) ?_ ?_
       · intro h413
         have g414 := of_decide_eq_true h413
         refine JJ_peekO_GAccount ((a_4 - 1) : Int).toNat 0 rfl rng fun hb415 hb416 hb417 hb418 => ?_
         unfold i64ok at hb415 hb416 hb417 hb418
         refine JJ_peekO2_GAccount rv219.1.toNat 0 rfl rng fun hb419 hb420 hb421 hb422 => ?_
         unfold i64ok at hb419 hb420 hb421 hb422
         refine JK_drawK [0, 1, 3, 7, 7, 7, 39, 119, 247, 7, 7, 1543, 3591, 8191, 16383, 32767, 65535] fmix ?_
         refine Dv [] Vm (Db h413 [] Vgtr (Dv [] Vm (Dv [] Vm (Dv [] Vm (Dv [] Vm (Dv [] Vsub (Dv [0] (Vi sl35 0) (Dv [0] (VldA sh38 0) (Dv [] Vm ?_)))))))))
         refine Dv [] Vm (Dv [0] (Vi sl35 0) (Dv [0] (VldA sh38 0) (Dx [1] [] [1, 0] (fun G => vi (cmpp (rv403.2.getD ((a_4 - 1) : Int).toNat default) (rv403.2.getD rv219.1.toNat default))) [fun G => SP.fact (i64ok (cmpp (rv403.2.getD ((a_4 - 1) : Int).toNat default) (rv403.2.getD rv219.1.toNat default)))] (fun G => xE («as» := [(.agg #[vi ((rv403.2.getD ((a_4 - 1) : Int).toNat default).Query), vi ((rv403.2.getD ((a_4 - 1) : Int).toNat default).Turns), vi ((rv403.2.getD ((a_4 - 1) : Int).toNat default).Steps), vi ((rv403.2.getD ((a_4 - 1) : Int).toNat default).Cost)] : Value), (.agg #[vi ((rv403.2.getD rv219.1.toNat default).Query), vi ((rv403.2.getD rv219.1.toNat default).Turns), vi ((rv403.2.getD rv219.1.toNat default).Steps), vi ((rv403.2.getD rv219.1.toNat default).Cost)] : Value)] ++ cmpC) [0] hcmpc rfl rfl rfl (by simp) rfl (hcmpF (rv403.2.getD ((a_4 - 1) : Int).toNat default) (rv403.2.getD rv219.1.toNat default)  pre pre pre pre pre pre pre pre)) (Dv [] Vlss (Dv [] Vnot (Dv [] Vpt ?_))))))
         refine Dn ⟨by kernel_rfl, fun G => ?_⟩
         refine Jw2 [(0, vl dataa0 datak0 data), (1, vi a_4), (2, vi b_5), (3, vi limit_6), (4, .func (.func cmpF) #[] cmpC.toArray), (10, vb wasBalanced_7), (11, vb wasPartitioned_8), (12, vi (b_5 - a_4)), (13, vi rv219.1), (97, vb (!(decide ((cmpp (rv403.2.getD ((a_4 - 1) : Int).toNat default) (rv403.2.getD rv219.1.toNat default)) < 0))))] [0, 1] [SP.fact (i64ok (cmpp (rv403.2.getD ((a_4 - 1) : Int).toNat default) (rv403.2.getD rv219.1.toNat default)))] ?_
         refine Jf 2 rfl ?_; rintro he423
         unfold i64ok at he423
         refine Jk [0, 0] ?_
         refine Kc ?_ ?_
         · intro h424
           have h426 := not_true h424
           have g427 := of_decide_eq_false h426
           refine KS ?_
           refine Oq Vm (Oq Vm (Oq Vm (Oq Vm (Oq Vm ?_))))
           refine Jl [0] (Ent.oread2 _ _ _ _ _ _) ?_
           refine Fl 0 fun hn428 => ?_; (try unfold vl); rw [← hn428]
           refine letv (slices_partitionEqualCmpFunc_Account rv403.2 a_4 b_5 rv219.1 cmpp) fun rv429 hg430 => ?_
           have hc431 := fn43 rv403.2 dataa0 datak0 a_4 b_5 rv219.1 cmpF cmpC cmpp cmpA pre pre pre hcmpc hcmpF pre rv429 hg430
           refine Oc [0, 0] ca43 hc431 ?_
           rintro - ⟨he432, he433, he434⟩
           unfold i64ok at he432
           have hn435 : rv403.2.length = data.length := by omega
           try unfold vl
           try rw [hn435]
           refine Oq Va (KS ?_)
           refine Oq Vm (Oq Va (KS ?_))
           refine Ke ?_
           exact Kg (r2, rv429.2, rv429.1, b_5, limit_6, wasBalanced_7, wasPartitioned_8) [0, 0] ⟨(q3 hM9 (by simp only [slices_pdqsortCmpFunc_Account_F_L0, h17, h28, h39, h216, h225, h396, h398, h400, h408, h413, h424, h426, hg220, hg404, hg430, cs4])), (by omega), (by omega), (by omega), iv1⟩
         intro h424
         have h437 := not_false h424
         have g438 := of_decide_eq_true h437
         refine KS ?_
         refine Oq Vm (Oq Vm (Oq Vm (Oq Vm (Oq Vm ?_))))
         refine Jl [0] (Ent.oread2 _ _ _ _ _ _) ?_
         refine Fl 0 fun hn439 => ?_; (try unfold vl); rw [← hn439]
         refine letv (slices_partitionCmpFunc_Account rv403.2 a_4 b_5 rv219.1 cmpp) fun rv440 hg441 => ?_
         have hc442 := fn44 rv403.2 dataa0 datak0 a_4 b_5 rv219.1 cmpF cmpC cmpp cmpA pre pre pre hcmpc hcmpF pre rv440 hg441
         refine Oc [0, 0] ca44 hc442 ?_
         rintro - ⟨he443, he444, he445⟩
         unfold i64ok at he443
         have hn446 : rv403.2.length = data.length := by omega
         try unfold vl
         try rw [hn446]
         refine Oq Vm (Oq Vx (Oq Vx (Oq Va (Oq Va (KS ?_)))))
         refine Oq Vm (Oq Va (KS ?_))
         refine Oq Vm (Oq Vm (Oq Vsub (Oq Vm (Oq Vm (Oq Vsub (Oq Va (Oq Va (KS ?_))))))))
         refine Oq Vm (Oq Vquo (Oq Va (KS ?_)))
         refine Oq Vm (Oq Vm (Oq Vlss (KS ?_)))
         refine Kc ?_ ?_
         · intro h447
           have g448 := of_decide_eq_true h447
           refine KS ?_
           refine Oq Vm (Oq Vm (Oq Vgeq (Oq Va (KS ?_))))
           refine Oq Vm (Oq Vm (Oq Vm (Oq Vm (Oq Vm ?_))))
           refine Fl 0 fun hn449 => ?_; (try unfold vl); rw [← hn449]
           refine letv (rc rv440.2.2 a_4 rv440.1 limit_6 cmpp) fun rv450 hg451 => ?_
           have hc452 := hrc rv440.2.2 dataa0 datak0 a_4 rv440.1 limit_6 cmpF cmpC cmpp cmpA pre pre pre hcmpc hcmpF pre pre pre rv450 hg451
           refine Oc [0, 0] ca32 hc452 ?_
           rintro - he453
           have hn454 : rv440.2.2.length = data.length := by omega
           try unfold vl
           try rw [hn454]
           refine KS ?_
           refine Oq Vm (Oq Vadd (Oq Va (KS ?_)))
           exact Kg (r2, rv450, (rv440.1 + 1), b_5, limit_6, decide (((b_5 - a_4) / 8) ≤ (rv440.1 - a_4)), rv440.2.1) [0, 0] ⟨(q3 hM9 (by simp only [slices_pdqsortCmpFunc_Account_F_L0, h17, h28, h39, h216, h225, h396, h398, h400, h408, h413, h424, h437, h447, hg220, hg404, hg441, hg451, cs4])), (by omega), (by omega), (by omega), iv1⟩
         intro h447
         have g455 := of_decide_eq_false h447
         refine KS ?_
         refine Oq Vm (Oq Vm (Oq Vgeq (Oq Va (KS ?_))))
         refine Oq Vm (Oq Vm (Oq Vadd (Oq Vm (Oq Vm (Oq Vm ?_)))))
         refine Fl 0 fun hn456 => ?_; (try unfold vl); rw [← hn456]
         refine letv (rc rv440.2.2 (rv440.1 + 1) b_5 limit_6 cmpp) fun rv457 hg458 => ?_
         have hc459 := hrc rv440.2.2 dataa0 datak0 ((rv440.1 + 1)) b_5 limit_6 cmpF cmpC cmpp cmpA pre pre pre hcmpc hcmpF pre pre pre rv457 hg458
         refine Oc [0, 0] ca32 hc459 ?_
         rintro - he460
         have hn461 : rv440.2.2.length = data.length := by omega
         try unfold vl
         try rw [hn461]
         refine KS ?_
         refine Oq Vm (Oq Va (KS ?_))
         exact Kg (r2, rv457, a_4, rv440.1, limit_6, decide (((b_5 - a_4) / 8) ≤ (b_5 - rv440.1)), rv440.2.1) [0, 0] ⟨(q3 hM9 (by simp only [slices_pdqsortCmpFunc_Account_F_L0, h17, h28, h39, h216, h225, h396, h398, h400, h408, h413, h424, h437, h447, hg220, hg404, hg441, hg458, cs4])), (by omega), (by omega), (by omega), iv1⟩
       intro h413
       have g462 := of_decide_eq_false h413
       refine Kq [0, 1, 3, 7, 7, 7, 39, 119, 247, 7, 7, 1543, 3591, 8191, 16383, 32767, 65535] fmix ?_
       refine Qv [] Vm (Qb h413 [] Vgtr (Qv [] Vm (Qs (Qs (Qs (Qs (Qs (Qs (Qs ?_)))))))))
       refine Qs (Qs (Qs (Qs (Qs (Qs (Qv [] Vpf ?_))))))
       refine Qn ⟨by kernel_rfl, ?_⟩
       refine Kf ?_
       refine KS ?_
       refine Oq Vm (Oq Vm (Oq Vm (Oq Vm (Oq Vm ?_))))
       refine Fl 0 fun hn463 => ?_; (try unfold vl); rw [← hn463]
       refine letv (slices_partitionCmpFunc_Account rv403.2 a_4 b_5 rv219.1 cmpp) fun rv464 hg465 => ?_
       have hc466 := fn44 rv403.2 dataa0 datak0 a_4 b_5 rv219.1 cmpF cmpC cmpp cmpA pre pre pre hcmpc hcmpF pre rv464 hg465
       refine Oc [0, 0] ca44 hc466 ?_
       rintro - ⟨he467, he468, he469⟩
       unfold i64ok at he467
       have hn470 : rv403.2.length = data.length := by omega
       try unfold vl
       try rw [hn470]
       refine Oq Vm (Oq Vx (Oq Vx (Oq Va (Oq Va (KS ?_)))))
       refine Oq Vm (Oq Va (KS ?_))
       refine Oq Vm (Oq Vm (Oq Vsub (Oq Vm (Oq Vm (Oq Vsub (Oq Va (Oq Va (KS ?_))))))))
       refine Oq Vm (Oq Vquo (Oq Va (KS ?_)))
       refine Oq Vm (Oq Vm (Oq Vlss (KS ?_)))
       refine Kc ?_ ?_
       · intro h471
         have g472 := of_decide_eq_true h471
         refine KS ?_
         refine Oq Vm (Oq Vm (Oq Vgeq (Oq Va (KS ?_))))
         refine Oq Vm (Oq Vm (Oq Vm (Oq Vm (Oq Vm ?_))))
         refine Fl 0 fun hn473 => ?_; (try unfold vl); rw [← hn473]
         refine letv (rc rv464.2.2 a_4 rv464.1 limit_6 cmpp) fun rv474 hg475 => ?_
         have hc476 := hrc rv464.2.2 dataa0 datak0 a_4 rv464.1 limit_6 cmpF cmpC cmpp cmpA pre pre pre hcmpc hcmpF pre pre pre rv474 hg475
         refine Oc [0, 0] ca32 hc476 ?_
         rintro - he477
         have hn478 : rv464.2.2.length = data.length := by omega
         try unfold vl
         try rw [hn478]
         refine KS ?_
         refine Oq Vm (Oq Vadd (Oq Va (KS ?_)))
         exact Kg (r2, rv474, (rv464.1 + 1), b_5, limit_6, decide (((b_5 - a_4) / 8) ≤ (rv464.1 - a_4)), rv464.2.1) [0, 0] ⟨(q3 hM9 (by simp only [slices_pdqsortCmpFunc_Account_F_L0, h17, h28, h39, h216, h225, h396, h398, h400, h408, h413, h471, hg220, hg404, hg465, hg475, cs4])), (by omega), (by omega), (by omega), iv1⟩
       intro h471
       have g479 := of_decide_eq_false h471
       refine KS ?_
       refine Oq Vm (Oq Vm (Oq Vgeq (Oq Va (KS ?_))))
       refine Oq Vm (Oq Vm (Oq Vadd (Oq Vm (Oq Vm (Oq Vm ?_)))))
       refine Fl 0 fun hn480 => ?_; (try unfold vl); rw [← hn480]
       refine letv (rc rv464.2.2 (rv464.1 + 1) b_5 limit_6 cmpp) fun rv481 hg482 => ?_
       have hc483 := hrc rv464.2.2 dataa0 datak0 ((rv464.1 + 1)) b_5 limit_6 cmpF cmpC cmpp cmpA pre pre pre hcmpc hcmpF pre pre pre rv481 hg482
       refine Oc [0, 0] ca32 hc483 ?_
       rintro - he484
       have hn485 : rv464.2.2.length = data.length := by omega
       try unfold vl
       try rw [hn485]
       refine KS ?_
       refine Oq Vm (Oq Va (KS ?_))
       exact Kg (r2, rv481, a_4, rv464.1, limit_6, decide (((b_5 - a_4) / 8) ≤ (b_5 - rv464.1)), rv464.2.1) [0, 0] ⟨(q3 hM9 (by simp only [slices_pdqsortCmpFunc_Account_F_L0, h17, h28, h39, h216, h225, h396, h398, h400, h408, h413, h471, hg220, hg404, hg465, hg482, cs4])), (by omega), (by omega), (by omega), iv1⟩
     intro h400
     have g486 := ne_of_beq_false h400
     refine KS ?_
     refine bool_split (decide (0 < a_4)) ?_ ?_
     · intro h487
       have g488 := of_decide_eq_true h487
       refine JJ_peekO_GAccount ((a_4 - 1) : Int).toNat 0 rfl rng fun hb489 hb490 hb491 hb492 => ?_
       unfold i64ok at hb489 hb490 hb491 hb492
       refine JJ_peekO2_GAccount rv219.1.toNat 0 rfl rng fun hb493 hb494 hb495 hb496 => ?_
       unfold i64ok at hb493 hb494 hb495 hb496
       refine JK_drawK [0, 1, 3, 7, 7, 7, 39, 119, 247, 7, 7, 1543, 3591, 8191, 16383, 32767, 65535] fmix ?_
       refine Dv [] Vm (Db h487 [] Vgtr (Dv [] Vm (Dv [] Vm (Dv [] Vm (Dv [] Vm (Dv [] Vsub (Dv [0] (Vi sl35 0) (Dv [0] (VldA sh38 0) (Dv [] Vm ?_)))))))))
       refine Dv [] Vm (Dv [0] (Vi sl35 0) (Dv [0] (VldA sh38 0) (Dx [1] [] [1, 0] (fun G => vi (cmpp (data_3.getD ((a_4 - 1) : Int).toNat default) (data_3.getD rv219.1.toNat default))) [fun G => SP.fact (i64ok (cmpp (data_3.getD ((a_4 - 1) : Int).toNat default) (data_3.getD rv219.1.toNat default)))] (fun G => xE («as» := [(.agg #[vi ((data_3.getD ((a_4 - 1) : Int).toNat default).Query), vi ((data_3.getD ((a_4 - 1) : Int).toNat default).Turns), vi ((data_3.getD ((a_4 - 1) : Int).toNat default).Steps), vi ((data_3.getD ((a_4 - 1) : Int).toNat default).Cost)] : Value), (.agg #[vi ((data_3.getD rv219.1.toNat default).Query), vi ((data_3.getD rv219.1.toNat default).Turns), vi ((data_3.getD rv219.1.toNat default).Steps), vi ((data_3.getD rv219.1.toNat default).Cost)] : Value)] ++ cmpC) [0] hcmpc rfl rfl rfl (by simp) rfl (hcmpF (data_3.getD ((a_4 - 1) : Int).toNat default) (data_3.getD rv219.1.toNat default)  pre pre pre pre pre pre pre pre)) (Dv [] Vlss (Dv [] Vnot (Dv [] Vpt ?_))))))
       refine Dn ⟨by kernel_rfl, fun G => ?_⟩
       refine Jw2 [(0, vl dataa0 datak0 data), (1, vi a_4), (2, vi b_5), (3, vi limit_6), (4, .func (.func cmpF) #[] cmpC.toArray), (10, vb wasBalanced_7), (11, vb wasPartitioned_8), (12, vi (b_5 - a_4)), (13, vi rv219.1), (97, vb (!(decide ((cmpp (data_3.getD ((a_4 - 1) : Int).toNat default) (data_3.getD rv219.1.toNat default)) < 0))))] [0, 1] [SP.fact (i64ok (cmpp (data_3.getD ((a_4 - 1) : Int).toNat default) (data_3.getD rv219.1.toNat default)))] ?_
       refine Jf 2 rfl ?_; rintro he497
       unfold i64ok at he497
       refine Jk [0, 0] ?_
       refine Kc ?_ ?_
       · intro h498
         have h500 := not_true h498
         have g501 := of_decide_eq_false h500
         refine KS ?_
         refine Oq Vm (Oq Vm (Oq Vm (Oq Vm (Oq Vm ?_))))
         refine Jl [0] (Ent.oread2 _ _ _ _ _ _) ?_
         refine Fl 0 fun hn502 => ?_; (try unfold vl); rw [← hn502]
         refine letv (slices_partitionEqualCmpFunc_Account data_3 a_4 b_5 rv219.1 cmpp) fun rv503 hg504 => ?_
         have hc505 := fn43 data_3 dataa0 datak0 a_4 b_5 rv219.1 cmpF cmpC cmpp cmpA pre pre pre hcmpc hcmpF pre rv503 hg504
         refine Oc [0, 0] ca43 hc505 ?_
         rintro - ⟨he506, he507, he508⟩
         unfold i64ok at he506
         have hn509 : data_3.length = data.length := by omega
         try unfold vl
         try rw [hn509]
         refine Oq Va (KS ?_)
         refine Oq Vm (Oq Va (KS ?_))
         refine Ke ?_
         exact Kg (r2, rv503.2, rv503.1, b_5, limit_6, wasBalanced_7, wasPartitioned_8) [0, 0] ⟨(q3 hM9 (by simp only [slices_pdqsortCmpFunc_Account_F_L0, h17, h28, h39, h216, h225, h396, h398, h400, h487, h498, h500, hg220, hg504, cs4])), (by omega), (by omega), (by omega), iv1⟩
       intro h498
       have h511 := not_false h498
       have g512 := of_decide_eq_true h511
       refine KS ?_
       refine Oq Vm (Oq Vm (Oq Vm (Oq Vm (Oq Vm ?_))))
       refine Jl [0] (Ent.oread2 _ _ _ _ _ _) ?_
       refine Fl 0 fun hn513 => ?_; (try unfold vl); rw [← hn513]
       refine letv (slices_partitionCmpFunc_Account data_3 a_4 b_5 rv219.1 cmpp) fun rv514 hg515 => ?_
       have hc516 := fn44 data_3 dataa0 datak0 a_4 b_5 rv219.1 cmpF cmpC cmpp cmpA pre pre pre hcmpc hcmpF pre rv514 hg515
       refine Oc [0, 0] ca44 hc516 ?_
       rintro - ⟨he517, he518, he519⟩
       unfold i64ok at he517
       have hn520 : data_3.length = data.length := by omega
       try unfold vl
       try rw [hn520]
       refine Oq Vm (Oq Vx (Oq Vx (Oq Va (Oq Va (KS ?_)))))
       refine Oq Vm (Oq Va (KS ?_))
       refine Oq Vm (Oq Vm (Oq Vsub (Oq Vm (Oq Vm (Oq Vsub (Oq Va (Oq Va (KS ?_))))))))
       refine Oq Vm (Oq Vquo (Oq Va (KS ?_)))
       refine Oq Vm (Oq Vm (Oq Vlss (KS ?_)))
       refine Kc ?_ ?_
       · intro h521
         have g522 := of_decide_eq_true h521
         refine KS ?_
         refine Oq Vm (Oq Vm (Oq Vgeq (Oq Va (KS ?_))))
         refine Oq Vm (Oq Vm (Oq Vm (Oq Vm (Oq Vm ?_))))
         refine Fl 0 fun hn523 => ?_; (try unfold vl); rw [← hn523]
         refine letv (rc rv514.2.2 a_4 rv514.1 limit_6 cmpp) fun rv524 hg525 => ?_
         have hc526 := hrc rv514.2.2 dataa0 datak0 a_4 rv514.1 limit_6 cmpF cmpC cmpp cmpA pre pre pre hcmpc hcmpF pre pre pre rv524 hg525
         refine Oc [0, 0] ca32 hc526 ?_
         rintro - he527
         have hn528 : rv514.2.2.length = data.length := by omega
         try unfold vl
         try rw [hn528]
         refine KS ?_
         refine Oq Vm (Oq Vadd (Oq Va (KS ?_)))
         exact Kg (r2, rv524, (rv514.1 + 1), b_5, limit_6, decide (((b_5 - a_4) / 8) ≤ (rv514.1 - a_4)), rv514.2.1) [0, 0] ⟨(q3 hM9 (by simp only [slices_pdqsortCmpFunc_Account_F_L0, h17, h28, h39, h216, h225, h396, h398, h400, h487, h498, h511, h521, hg220, hg515, hg525, cs4])), (by omega), (by omega), (by omega), iv1⟩
       intro h521
       have g529 := of_decide_eq_false h521
       refine KS ?_
       refine Oq Vm (Oq Vm (Oq Vgeq (Oq Va (KS ?_))))
       refine Oq Vm (Oq Vm (Oq Vadd (Oq Vm (Oq Vm (Oq Vm ?_)))))
       refine Fl 0 fun hn530 => ?_; (try unfold vl); rw [← hn530]
       refine letv (rc rv514.2.2 (rv514.1 + 1) b_5 limit_6 cmpp) fun rv531 hg532 => ?_
       have hc533 := hrc rv514.2.2 dataa0 datak0 ((rv514.1 + 1)) b_5 limit_6 cmpF cmpC cmpp cmpA pre pre pre hcmpc hcmpF pre pre pre rv531 hg532
       refine Oc [0, 0] ca32 hc533 ?_
       rintro - he534
       have hn535 : rv514.2.2.length = data.length := by omega
       try unfold vl
       try rw [hn535]
       refine KS ?_
       refine Oq Vm (Oq Va (KS ?_))
       exact Kg (r2, rv531, a_4, rv514.1, limit_6, decide (((b_5 - a_4) / 8) ≤ (b_5 - rv514.1)), rv514.2.1) [0, 0] ⟨(q3 hM9 (by simp only [slices_pdqsortCmpFunc_Account_F_L0, h17, h28, h39, h216, h225, h396, h398, h400, h487, h498, h511, h521, hg220, hg515, hg532, cs4])), (by omega), (by omega), (by omega), iv1⟩
     intro h487
     have g536 := of_decide_eq_false h487
     refine Kq [0, 1, 3, 7, 7, 7, 39, 119, 247, 7, 7, 1543, 3591, 8191, 16383, 32767, 65535] fmix ?_
     refine Qv [] Vm (Qb h487 [] Vgtr (Qv [] Vm (Qs (Qs (Qs (Qs (Qs (Qs (Qs ?_)))))))))
     refine Qs (Qs (Qs (Qs (Qs (Qs (Qv [] Vpf ?_))))))
     refine Qn ⟨by kernel_rfl, ?_⟩
     refine Kf ?_
     refine KS ?_
     refine Oq Vm (Oq Vm (Oq Vm (Oq Vm (Oq Vm ?_))))
     refine Fl 0 fun hn537 => ?_; (try unfold vl); rw [← hn537]
     refine letv (slices_partitionCmpFunc_Account data_3 a_4 b_5 rv219.1 cmpp) fun rv538 hg539 => ?_
     have hc540 := fn44 data_3 dataa0 datak0 a_4 b_5 rv219.1 cmpF cmpC cmpp cmpA pre pre pre hcmpc hcmpF pre rv538 hg539
     refine Oc [0, 0] ca44 hc540 ?_
     rintro - ⟨he541, he542, he543⟩
     unfold i64ok at he541
     have hn544 : data_3.length = data.length := by omega
     try unfold vl
     try rw [hn544]
     refine Oq Vm (Oq Vx (Oq Vx (Oq Va (Oq Va (KS ?_)))))
     refine Oq Vm (Oq Va (KS ?_))
     refine Oq Vm (Oq Vm (Oq Vsub (Oq Vm (Oq Vm (Oq Vsub (Oq Va (Oq Va (KS ?_))))))))
     refine Oq Vm (Oq Vquo (Oq Va (KS ?_)))
     refine Oq Vm (Oq Vm (Oq Vlss (KS ?_)))
     refine Kc ?_ ?_
     · intro h545
       have g546 := of_decide_eq_true h545
       refine KS ?_
       refine Oq Vm (Oq Vm (Oq Vgeq (Oq Va (KS ?_))))
       refine Oq Vm (Oq Vm (Oq Vm (Oq Vm (Oq Vm ?_))))
       refine Fl 0 fun hn547 => ?_; (try unfold vl); rw [← hn547]
       refine letv (rc rv538.2.2 a_4 rv538.1 limit_6 cmpp) fun rv548 hg549 => ?_
       have hc550 := hrc rv538.2.2 dataa0 datak0 a_4 rv538.1 limit_6 cmpF cmpC cmpp cmpA pre pre pre hcmpc hcmpF pre pre pre rv548 hg549
       refine Oc [0, 0] ca32 hc550 ?_
       rintro - he551
       have hn552 : rv538.2.2.length = data.length := by omega
       try unfold vl
       try rw [hn552]
       refine KS ?_
       refine Oq Vm (Oq Vadd (Oq Va (KS ?_)))
       exact Kg (r2, rv548, (rv538.1 + 1), b_5, limit_6, decide (((b_5 - a_4) / 8) ≤ (rv538.1 - a_4)), rv538.2.1) [0, 0] ⟨(q3 hM9 (by simp only [slices_pdqsortCmpFunc_Account_F_L0, h17, h28, h39, h216, h225, h396, h398, h400, h487, h545, hg220, hg539, hg549, cs4])), (by omega), (by omega), (by omega), iv1⟩
     intro h545
     have g553 := of_decide_eq_false h545
     refine KS ?_
     refine Oq Vm (Oq Vm (Oq Vgeq (Oq Va (KS ?_))))
     refine Oq Vm (Oq Vm (Oq Vadd (Oq Vm (Oq Vm (Oq Vm ?_)))))
     refine Fl 0 fun hn554 => ?_; (try unfold vl); rw [← hn554]
     refine letv (rc rv538.2.2 (rv538.1 + 1) b_5 limit_6 cmpp) fun rv555 hg556 => ?_
     have hc557 := hrc rv538.2.2 dataa0 datak0 ((rv538.1 + 1)) b_5 limit_6 cmpF cmpC cmpp cmpA pre pre pre hcmpc hcmpF pre pre pre rv555 hg556
     refine Oc [0, 0] ca32 hc557 ?_
     rintro - he558
     have hn559 : rv538.2.2.length = data.length := by omega
     try unfold vl
     try rw [hn559]
     refine KS ?_
     refine Oq Vm (Oq Va (KS ?_))
     exact Kg (r2, rv555, a_4, rv538.1, limit_6, decide (((b_5 - a_4) / 8) ≤ (b_5 - rv538.1)), rv538.2.1) [0, 0] ⟨(q3 hM9 (by simp only [slices_pdqsortCmpFunc_Account_F_L0, h17, h28, h39, h216, h225, h396, h398, h400, h487, h545, hg220, hg539, hg556, cs4])), (by omega), (by omega), (by omega), iv1⟩
   intro h398
   refine Osk (Osk (Oq Vpf (KS ?_)))
   refine Kf ?_
   refine KS ?_
   refine bool_split (decide (0 < a_4)) ?_ ?_
   · intro h561
     have g562 := of_decide_eq_true h561
     refine JJ_peekO_GAccount ((a_4 - 1) : Int).toNat 0 rfl rng fun hb563 hb564 hb565 hb566 => ?_
     unfold i64ok at hb563 hb564 hb565 hb566
     refine JJ_peekO2_GAccount rv219.1.toNat 0 rfl rng fun hb567 hb568 hb569 hb570 => ?_
     unfold i64ok at hb567 hb568 hb569 hb570
     refine JK_drawK [0, 1, 3, 7, 7, 7, 39, 119, 247, 7, 7, 1543, 3591, 8191, 16383, 32767, 65535] fmix ?_
     refine Dv [] Vm (Db h561 [] Vgtr (Dv [] Vm (Dv [] Vm (Dv [] Vm (Dv [] Vm (Dv [] Vsub (Dv [0] (Vi sl35 0) (Dv [0] (VldA sh38 0) (Dv [] Vm ?_)))))))))
     refine Dv [] Vm (Dv [0] (Vi sl35 0) (Dv [0] (VldA sh38 0) (Dx [1] [] [1, 0] (fun G => vi (cmpp (data_3.getD ((a_4 - 1) : Int).toNat default) (data_3.getD rv219.1.toNat default))) [fun G => SP.fact (i64ok (cmpp (data_3.getD ((a_4 - 1) : Int).toNat default) (data_3.getD rv219.1.toNat default)))] (fun G => xE («as» := [(.agg #[vi ((data_3.getD ((a_4 - 1) : Int).toNat default).Query), vi ((data_3.getD ((a_4 - 1) : Int).toNat default).Turns), vi ((data_3.getD ((a_4 - 1) : Int).toNat default).Steps), vi ((data_3.getD ((a_4 - 1) : Int).toNat default).Cost)] : Value), (.agg #[vi ((data_3.getD rv219.1.toNat default).Query), vi ((data_3.getD rv219.1.toNat default).Turns), vi ((data_3.getD rv219.1.toNat default).Steps), vi ((data_3.getD rv219.1.toNat default).Cost)] : Value)] ++ cmpC) [0] hcmpc rfl rfl rfl (by simp) rfl (hcmpF (data_3.getD ((a_4 - 1) : Int).toNat default) (data_3.getD rv219.1.toNat default)  pre pre pre pre pre pre pre pre)) (Dv [] Vlss (Dv [] Vnot (Dv [] Vpt ?_))))))
     refine Dn ⟨by kernel_rfl, fun G => ?_⟩
     refine Jw2 [(0, vl dataa0 datak0 data), (1, vi a_4), (2, vi b_5), (3, vi limit_6), (4, .func (.func cmpF) #[] cmpC.toArray), (10, vb wasBalanced_7), (11, vb wasPartitioned_8), (12, vi (b_5 - a_4)), (13, vi rv219.1), (97, vb (!(decide ((cmpp (data_3.getD ((a_4 - 1) : Int).toNat default) (data_3.getD rv219.1.toNat default)) < 0))))] [0, 1] [SP.fact (i64ok (cmpp (data_3.getD ((a_4 - 1) : Int).toNat default) (data_3.getD rv219.1.toNat default)))] ?_
     refine Jf 2 rfl ?_; rintro he571
     unfold i64ok at he571
     refine Jk [0, 0] ?_
     refine Kc ?_ ?_
     · intro h572
       have h574 := not_true h572
       have g575 := of_decide_eq_false h574
       refine KS ?_
       refine Oq Vm (Oq Vm (Oq Vm (Oq Vm (Oq Vm ?_))))
       refine Jl [0] (Ent.oread2 _ _ _ _ _ _) ?_
       refine Fl 0 fun hn576 => ?_; (try unfold vl); rw [← hn576]
       refine letv (slices_partitionEqualCmpFunc_Account data_3 a_4 b_5 rv219.1 cmpp) fun rv577 hg578 => ?_
       have hc579 := fn43 data_3 dataa0 datak0 a_4 b_5 rv219.1 cmpF cmpC cmpp cmpA pre pre pre hcmpc hcmpF pre rv577 hg578
       refine Oc [0, 0] ca43 hc579 ?_
       rintro - ⟨he580, he581, he582⟩
       unfold i64ok at he580
       have hn583 : data_3.length = data.length := by omega
       try unfold vl
       try rw [hn583]
       refine Oq Va (KS ?_)
       refine Oq Vm (Oq Va (KS ?_))
       refine Ke ?_
       exact Kg (r2, rv577.2, rv577.1, b_5, limit_6, wasBalanced_7, wasPartitioned_8) [0, 0] ⟨(q3 hM9 (by simp only [slices_pdqsortCmpFunc_Account_F_L0, h17, h28, h39, h216, h225, h396, h398, h561, h572, h574, hg220, hg578, cs4])), (by omega), (by omega), (by omega), iv1⟩
     intro h572
     have h585 := not_false h572
     have g586 := of_decide_eq_true h585
     refine KS ?_
     refine Oq Vm (Oq Vm (Oq Vm (Oq Vm (Oq Vm ?_))))
     refine Jl [0] (Ent.oread2 _ _ _ _ _ _) ?_
     refine Fl 0 fun hn587 => ?_; (try unfold vl); rw [← hn587]
     refine letv (slices_partitionCmpFunc_Account data_3 a_4 b_5 rv219.1 cmpp) fun rv588 hg589 => ?_
     have hc590 := fn44 data_3 dataa0 datak0 a_4 b_5 rv219.1 cmpF cmpC cmpp cmpA pre pre pre hcmpc hcmpF pre rv588 hg589
     refine Oc [0, 0] ca44 hc590 ?_
     rintro - ⟨he591, he592, he593⟩
     unfold i64ok at he591
     have hn594 : data_3.length = data.length := by omega
     try unfold vl
     try rw [hn594]
     refine Oq Vm (Oq Vx (Oq Vx (Oq Va (Oq Va (KS ?_)))))
     refine Oq Vm (Oq Va (KS ?_))
     refine Oq Vm (Oq Vm (Oq Vsub (Oq Vm (Oq Vm (Oq Vsub (Oq Va (Oq Va (KS ?_))))))))
     refine Oq Vm (Oq Vquo (Oq Va (KS ?_)))
     refine Oq Vm (Oq Vm (Oq Vlss (KS ?_)))
     refine Kc ?_ ?_
     · intro h595
       have g596 := of_decide_eq_true h595
       refine KS ?_
       refine Oq Vm (Oq Vm (Oq Vgeq (Oq Va (KS ?_))))
       refine Oq Vm (Oq Vm (Oq Vm (Oq Vm (Oq Vm ?_))))
       refine Fl 0 fun hn597 => ?_; (try unfold vl); rw [← hn597]
       refine letv (rc rv588.2.2 a_4 rv588.1 limit_6 cmpp) fun rv598 hg599 => ?_
       have hc600 := hrc rv588.2.2 dataa0 datak0 a_4 rv588.1 limit_6 cmpF cmpC cmpp cmpA pre pre pre hcmpc hcmpF pre pre pre rv598 hg599
       refine Oc [0, 0] ca32 hc600 ?_
       rintro - he601
       have hn602 : rv588.2.2.length = data.length := by omega
       try unfold vl
       try rw [hn602]
       refine KS ?_
       refine Oq Vm (Oq Vadd (Oq Va (KS ?_)))
       exact Kg (r2, rv598, (rv588.1 + 1), b_5, limit_6, decide (((b_5 - a_4) / 8) ≤ (rv588.1 - a_4)), rv588.2.1) [0, 0] ⟨(q3 hM9 (by simp only [slices_pdqsortCmpFunc_Account_F_L0, h17, h28, h39, h216, h225, h396, h398, h561, h572, h585, h595, hg220, hg589, hg599, cs4])), (by omega), (by omega), (by omega), iv1⟩
     intro h595
     have g603 := of_decide_eq_false h595
     refine KS ?_
     refine Oq Vm (Oq Vm (Oq Vgeq (Oq Va (KS ?_))))
     refine Oq Vm (Oq Vm (Oq Vadd (Oq Vm (Oq Vm (Oq Vm ?_)))))
     refine Fl 0 fun hn604 => ?_; (try unfold vl); rw [← hn604]
     refine letv (rc rv588.2.2 (rv588.1 + 1) b_5 limit_6 cmpp) fun rv605 hg606 => ?_
     have hc607 := hrc rv588.2.2 dataa0 datak0 ((rv588.1 + 1)) b_5 limit_6 cmpF cmpC cmpp cmpA pre pre pre hcmpc hcmpF pre pre pre rv605 hg606
     refine Oc [0, 0] ca32 hc607 ?_
     rintro - he608
     have hn609 : rv588.2.2.length = data.length := by omega
     try unfold vl
     try rw [hn609]
     refine KS ?_
     refine Oq Vm (Oq Va (KS ?_))
     exact Kg (r2, rv605, a_4, rv588.1, limit_6, decide (((b_5 - a_4) / 8) ≤ (b_5 - rv588.1)), rv588.2.1) [0, 0] ⟨(q3 hM9 (by simp only [slices_pdqsortCmpFunc_Account_F_L0, h17, h28, h39, h216, h225, h396, h398, h561, h572, h585, h595, hg220, hg589, hg606, cs4])), (by omega), (by omega), (by omega), iv1⟩
   intro h561
   have g610 := of_decide_eq_false h561
   refine Kq [0, 1, 3, 7, 7, 7, 39, 119, 247, 7, 7, 1543, 3591, 8191, 16383, 32767, 65535] fmix ?_
   refine Qv [] Vm (Qb h561 [] Vgtr (Qv [] Vm (Qs (Qs (Qs (Qs (Qs (Qs (Qs ?_)))))))))
   refine Qs (Qs (Qs (Qs (Qs (Qs (Qv [] Vpf ?_))))))
   refine Qn ⟨by kernel_rfl, ?_⟩
   refine Kf ?_
   refine KS ?_
   refine Oq Vm (Oq Vm (Oq Vm (Oq Vm (Oq Vm ?_))))
   refine Fl 0 fun hn611 => ?_; (try unfold vl); rw [← hn611]
   refine letv (slices_partitionCmpFunc_Account data_3 a_4 b_5 rv219.1 cmpp) fun rv612 hg613 => ?_
   have hc614 := fn44 data_3 dataa0 datak0 a_4 b_5 rv219.1 cmpF cmpC cmpp cmpA pre pre pre hcmpc hcmpF pre rv612 hg613
   refine Oc [0, 0] ca44 hc614 ?_
   rintro - ⟨he615, he616, he617⟩
   unfold i64ok at he615
   have hn618 : data_3.length = data.length := by omega
   try unfold vl
   try rw [hn618]
   refine Oq Vm (Oq Vx (Oq Vx (Oq Va (Oq Va (KS ?_)))))
   refine Oq Vm (Oq Va (KS ?_))
   refine Oq Vm (Oq Vm (Oq Vsub (Oq Vm (Oq Vm (Oq Vsub (Oq Va (Oq Va (KS ?_))))))))
   refine Oq Vm (Oq Vquo (Oq Va (KS ?_)))
   refine Oq Vm (Oq Vm (Oq Vlss (KS ?_)))
   refine Kc ?_ ?_
   · intro h619
     have g620 := of_decide_eq_true h619
     refine KS ?_
     refine Oq Vm (Oq Vm (Oq Vgeq (Oq Va (KS ?_))))
     refine Oq Vm (Oq Vm (Oq Vm (Oq Vm (Oq Vm ?_))))
     refine Fl 0 fun hn621 => ?_; (try unfold vl); rw [← hn621]
     refine letv (rc rv612.2.2 a_4 rv612.1 limit_6 cmpp) fun rv622 hg623 => ?_
     have hc624 := hrc rv612.2.2 dataa0 datak0 a_4 rv612.1 limit_6 cmpF cmpC cmpp cmpA pre pre pre hcmpc hcmpF pre pre pre rv622 hg623
     refine Oc [0, 0] ca32 hc624 ?_
     rintro - he625
     have hn626 : rv612.2.2.length = data.length := by omega
     try unfold vl
     try rw [hn626]
     refine KS ?_
     refine Oq Vm (Oq Vadd (Oq Va (KS ?_)))
     exact Kg (r2, rv622, (rv612.1 + 1), b_5, limit_6, decide (((b_5 - a_4) / 8) ≤ (rv612.1 - a_4)), rv612.2.1) [0, 0] ⟨(q3 hM9 (by simp only [slices_pdqsortCmpFunc_Account_F_L0, h17, h28, h39, h216, h225, h396, h398, h561, h619, hg220, hg613, hg623, cs4])), (by omega), (by omega), (by omega), iv1⟩
   intro h619
   have g627 := of_decide_eq_false h619
   refine KS ?_
   refine Oq Vm (Oq Vm (Oq Vgeq (Oq Va (KS ?_))))
   refine Oq Vm (Oq Vm (Oq Vadd (Oq Vm (Oq Vm (Oq Vm ?_)))))
   refine Fl 0 fun hn628 => ?_; (try unfold vl); rw [← hn628]
   refine letv (rc rv612.2.2 (rv612.1 + 1) b_5 limit_6 cmpp) fun rv629 hg630 => ?_
   have hc631 := hrc rv612.2.2 dataa0 datak0 ((rv612.1 + 1)) b_5 limit_6 cmpF cmpC cmpp cmpA pre pre pre hcmpc hcmpF pre pre pre rv629 hg630
   refine Oc [0, 0] ca32 hc631 ?_
   rintro - he632
   have hn633 : rv612.2.2.length = data.length := by omega
   try unfold vl
   try rw [hn633]
   refine KS ?_
   refine Oq Vm (Oq Va (KS ?_))
   exact Kg (r2, rv629, a_4, rv612.1, limit_6, decide (((b_5 - a_4) / 8) ≤ (b_5 - rv612.1)), rv612.2.1) [0, 0] ⟨(q3 hM9 (by simp only [slices_pdqsortCmpFunc_Account_F_L0, h17, h28, h39, h216, h225, h396, h398, h561, h619, hg220, hg613, hg630, cs4])), (by omega), (by omega), (by omega), iv1⟩
 intro h396
 exact absurd h396 (by first | (simp [h39]; done) | (simp only [bne, h39]; decide) | (simp only [bne, h39, Bool.not_true, Bool.not_false]; decide) | (exfalso; omega) | (intro hq; simp only [bne, hq, Bool.not_false, Bool.not_true, reduceCtorEq] at h39))
theorem fn32 : ∀ (fu : Nat) (data : List GAccount) (dataa0 : Option Addr) (datak0 : Nat) (a : Int) (b : Int) (limit : Int) (cmpF : FuncId) (cmpC : List Value) (cmpp : GAccount → GAccount → Int) (cmpA : List SP) (ha_0 : i64ok a) (hb_0 : i64ok b) (hlimit_0 : i64ok limit) (hcmpc : callable Try.prog cmpF = true) (hcmpF : ∀ x0 x1, i64ok x0.Query → i64ok x0.Turns → i64ok x0.Steps → i64ok x0.Cost → i64ok x1.Query → i64ok x1.Turns → i64ok x1.Steps → i64ok x1.Cost → FT Try.prog cmpF ([(.agg #[vi x0.Query, vi x0.Turns, vi x0.Steps, vi x0.Cost] : Value), (.agg #[vi x1.Query, vi x1.Turns, vi x1.Steps, vi x1.Cost] : Value)] ++ cmpC).toArray ([] ++ [pAll cmpA]) (fun _ : Unit => i64ok (cmpp x0 x1)) (fun _ => vi (cmpp x0 x1)) (fun _ => [])) (ha0 : 0 ≤ a ∧ a ≤ b ∧ b ≤ (data.length : Int) ∧ data.length ≤ 65535) (hl0 : 0 ≤ limit ∧ limit ≤ 1000) (hfu : (b - a).toNat < fu) (rr : List GAccount) (hrr : slices_pdqsortCmpFunc_Account fu data a b limit cmpp = rr), FT Try.prog 32 #[vl dataa0 datak0 data, vi a, vi b, vi limit, .func (.func cmpF) #[] cmpC.toArray] [O dataa0 datak0 data, pAll cmpA] (fun g : Unit => (rr.length = data.length)) (fun g => .tuple #[]) (fun g => [os (vl dataa0 datak0 data) rr])
  | 0, data, dataa0, datak0, a, b, limit, cmpF, cmpC, cmpp, cmpA, ha_0, hb_0, hlimit_0, hcmpc, hcmpF, ha0, hl0, hfu, _, _ => absurd hfu (Nat.not_lt_zero _)
  | fu + 1, data, dataa0, datak0, a, b, limit, cmpF, cmpC, cmpp, cmpA, ha_0, hb_0, hlimit_0, hcmpc, hcmpF, ha0, hl0, hfu, rr, hrr => fn32F (slices_pdqsortCmpFunc_Account fu) _ data dataa0 datak0 a b limit cmpF cmpC cmpp cmpA rfl (fun d a b l h1 h2 h3 h4 h5 => pdq_l fu d a b l (Nat.lt_of_lt_of_le h5 (Nat.le_of_lt_succ hfu)) h1 h2 h3 h4) (fun data1 dataa01 datak01 a1 b1 limit1 cmpF1 cmpC1 cmpp1 cmpA1 ha_01 hb_01 hlimit_01 hcmpc1 hcmpF1 ha01 hl01 hm rr1 hrr1 => fn32 fu data1 dataa01 datak01 a1 b1 limit1 cmpF1 cmpC1 cmpp1 cmpA1 ha_01 hb_01 hlimit_01 hcmpc1 hcmpF1 ha01 hl01 (Nat.lt_of_lt_of_le hm (Nat.le_of_lt_succ hfu)) rr1 hrr1) ha_0 hb_0 hlimit_0 hcmpc hcmpF ha0 hl0 rr (by simpa only [slices_pdqsortCmpFunc_Account] using hrr)
theorem fn24 (x : List GAccount) (xa0 : Option Addr) (xk0 : Nat) (cmpF : FuncId) (cmpC : List Value) (cmpp : GAccount → GAccount → Int) (cmpA : List SP) (hcmpc : callable Try.prog cmpF = true) (hcmpF : ∀ x0 x1, i64ok x0.Query → i64ok x0.Turns → i64ok x0.Steps → i64ok x0.Cost → i64ok x1.Query → i64ok x1.Turns → i64ok x1.Steps → i64ok x1.Cost → FT Try.prog cmpF ([(.agg #[vi x0.Query, vi x0.Turns, vi x0.Steps, vi x0.Cost] : Value), (.agg #[vi x1.Query, vi x1.Turns, vi x1.Steps, vi x1.Cost] : Value)] ++ cmpC).toArray ([] ++ [pAll cmpA]) (fun _ : Unit => i64ok (cmpp x0 x1)) (fun _ => vi (cmpp x0 x1)) (fun _ => [])) (ha0 : x.length ≤ 65535) (rr : List GAccount) (hrr : slices_SortFunc_Account x cmpp = rr) : FT Try.prog 24 #[vl xa0 xk0 x, .func (.func cmpF) #[] cmpC.toArray] [O xa0 xk0 x, pAll cmpA] (fun g : Unit => True) (fun g => .tuple #[]) (fun g => [os (vl xa0 xk0 x) rr]) := by
 refine FTi Try.func24 fun w0 M0 F0 => ?_
 refine Fb 32 0 fun hl1 => ?_
 refine KS ?_
 refine Oq Vm (Oq (Vlen sl35) (Oq Va (KS ?_)))
 refine Oq Vm (Oq Vm (Oq Vm (Oq (VcU un3 un54) ?_)))
 refine letv (bits_Len (BitVec.ofInt 64 (x.length : Int))) fun rv2 hg3 => ?_
 have hln := Len_f hg3 (by rw [ofI_nat (by omega)]; omega)
 have hc4 := fn33 ((BitVec.ofInt 64 (x.length : Int))) (by rw [ofI_nat (by omega)]; omega) rv2 hg3
 refine Oc [] ca33 hc4 ?_
 rintro - he5
 unfold i64ok at he5
 refine Oq Vm ?_
 refine letv (slices_pdqsortCmpFunc_Account (x.length + 1) x 0 (x.length : Int) rv2 cmpp) fun rv6 hg7 => ?_
 have hc8 := fn32 (x.length + 1) x xa0 xk0 0 ((x.length : Int)) rv2 cmpF cmpC cmpp cmpA pre pre pre hcmpc hcmpF pre pre pre rv6 hg7
 refine Oc [0, 0] ca32 hc8 ?_
 rintro - he9
 refine KS ?_
 refine Fl 0 fun hn10 => ?_
 have hq := q4 hrr rv6 (by simp only [slices_SortFunc_Account, hg3, hg7, cs4]); subst hq
 exact Kz () rfl .nil [0] trivial
theorem fn34 (x : Int) (hx_0 : i64ok x) (rr : Bool) (hrr : cmp_isNaN_int x = rr) : FT Try.prog 34 #[vi x] [] (fun g : Unit => True) (fun g => vb rr) (fun g => []) := by
 refine FTi Try.func34 fun w0 M0 F0 => ?_
 unfold i64ok at hx_0
 refine KS ?_
 refine Oq Va (KS ?_)
 refine Oq Vm (Oq Vm (Oq Vneq (Oq Va (KS ?_))))
 have hq := q4 hrr (x != x) (by simp only [cmp_isNaN_int, cs4]); subst hq
 exact Kr () rfl (.tmp rfl .nil) [] trivial
theorem fn26 (x : Int) (y : Int) (hx_0 : i64ok x) (hy_0 : i64ok y) (rr : Int) (hrr : cmp_Compare_int x y = rr) : FT Try.prog 26 #[vi x, vi y] [] (fun g : Unit => i64ok rr) (fun g => vi rr) (fun g => []) := by
 refine FTi Try.func26 fun w0 M0 F0 => ?_
 unfold i64ok at hx_0 hy_0
 refine KS ?_
 refine Oq Va (KS ?_)
 refine Oq Vm ?_
 refine letv (cmp_isNaN_int x) fun rv1 hg2 => ?_
 have hc3 := fn34 x pre rv1 hg2
 refine Oc [] ca34 hc3 ?_
 rintro - -
 refine Oq Va (KS ?_)
 refine Oq Vm ?_
 refine letv (cmp_isNaN_int y) fun rv4 hg5 => ?_
 have hc6 := fn34 y pre rv4 hg5
 refine Oc [] ca34 hc6 ?_
 rintro - -
 refine Oq Va (KS ?_)
 refine Oq Vm (KS ?_)
 refine Kc ?_ ?_
 · intro h7
   refine KS ?_
   refine Oq Vm (KS ?_)
   refine Kc ?_ ?_
   · intro h9
     refine KS ?_
     refine Oq Va (KS ?_)
     have hq := q4 hrr 0 (by simp only [cmp_Compare_int, h7, h9, hg2, hg5, cs4]); subst hq
     exact Kr () rfl (.tmp rfl .nil) [] en
   intro h9
   refine KS ?_
   refine Oq Va (KS ?_)
   have hq := q4 hrr (-1) (by simp only [cmp_Compare_int, h7, h9, hg2, hg5, cs4]); subst hq
   exact Kr () rfl (.tmp rfl .nil) [] en
 intro h7
 refine KS ?_
 refine Oq Vm (KS ?_)
 refine Kc ?_ ?_
 · intro h13
   refine KS ?_
   refine Oq Va (KS ?_)
   have hq := q4 hrr 1 (by simp only [cmp_Compare_int, h7, h13, hg2, hg5, cs4]); subst hq
   exact Kr () rfl (.tmp rfl .nil) [] en
 intro h13
 refine KS ?_
 refine Oq Vm (Oq Vm (Oq Vlss (KS ?_)))
 refine Kc ?_ ?_
 · intro h16
   have g17 := of_decide_eq_true h16
   refine KS ?_
   refine Oq Va (KS ?_)
   have hq := q4 hrr (-1) (by simp only [cmp_Compare_int, h7, h13, h16, hg2, hg5, cs4]); subst hq
   exact Kr () rfl (.tmp rfl .nil) [] en
 intro h16
 have g18 := of_decide_eq_false h16
 refine KS ?_
 refine Oq Vm (Oq Vm (Oq Vgtr (KS ?_)))
 refine Kc ?_ ?_
 · intro h19
   have g20 := of_decide_eq_true h19
   refine KS ?_
   refine Oq Va (KS ?_)
   have hq := q4 hrr 1 (by simp only [cmp_Compare_int, h7, h13, h16, h19, hg2, hg5, cs4]); subst hq
   exact Kr () rfl (.tmp rfl .nil) [] en
 intro h19
 have g21 := of_decide_eq_false h19
 refine KS ?_
 refine Oq Va (KS ?_)
 have hq := q4 hrr 0 (by simp only [cmp_Compare_int, h7, h13, h16, h19, hg2, hg5, cs4]); subst hq
 exact Kr () rfl (.tmp rfl .nil) [] en
theorem fn25 (a : GAccount) (b : GAccount) (ha_0 : i64ok a.Query) (ha_1 : i64ok a.Turns) (ha_2 : i64ok a.Steps) (ha_3 : i64ok a.Cost) (hb_0 : i64ok b.Query) (hb_1 : i64ok b.Turns) (hb_2 : i64ok b.Steps) (hb_3 : i64ok b.Cost) (rr : Int) (hrr : ledger_Accounts_1 a b = rr) : FT Try.prog 25 #[.agg #[vi a.Query, vi a.Turns, vi a.Steps, vi a.Cost], .agg #[vi b.Query, vi b.Turns, vi b.Steps, vi b.Cost]] [] (fun g : Unit => i64ok rr) (fun g => vi rr) (fun g => []) := by
 refine FTi Try.func25 fun w0 M0 F0 => ?_
 unfold i64ok at ha_0 ha_1 ha_2 ha_3 hb_0 hb_1 hb_2 hb_3
 refine KS ?_
 refine Oa (Ab [vi a.Query, vi a.Turns, vi a.Steps, vi a.Cost]) fun p1 => Oa (Ab [vi b.Query, vi b.Turns, vi b.Steps, vi b.Cost]) fun p2 => Oq Va (KS ?_)
 refine Oq (Vfa fo38_0 1) (Oq (VldF sh3 1) (Oq (Vfa fo38_0 0) (Oq (VldF sh3 0) ?_)))
 refine letv (cmp_Compare_int a.Query b.Query) fun rv3 hg4 => ?_
 have hc5 := fn26 a.Query b.Query pre pre rv3 hg4
 refine Oc [] ca26 hc5 ?_
 rintro - he6
 unfold i64ok at he6
 refine Oq Va (KS ?_)
 have hq := q4 hrr rv3 (by simp only [ledger_Accounts_1, hg4, cs4]); subst hq
 exact Kr () rfl (.tmp rfl .nil) [] en
theorem fn21 (n : Int) (least : Int) (most : Int) (hn_0 : i64ok n) (hleast_0 : i64ok least) (hmost_0 : i64ok most) (rr : Bool) (hrr : ledger_between n least most = rr) : FT Try.prog 21 #[vi n, vi least, vi most] [] (fun g : Unit => True) (fun g => vb rr) (fun g => []) := by
 refine FTi Try.func21 fun w0 M0 F0 => ?_
 unfold i64ok at hn_0 hleast_0 hmost_0
 refine KS ?_
 refine Oq Va (KS ?_)
 refine Oq Vm (Oq Vm (Oq Vgeq (Oq Vm ?_)))
 refine Js 10 ?_ ?_
 · intro h1
   have g2 := of_decide_eq_true h1
   refine Oq Vm (Oq Vm (Oq Vleq (Oq Vpt (Oq Va (KS ?_)))))
   have hq := q4 hrr (decide (n ≤ most)) (by simp only [ledger_between, h1, cs4]); subst hq
   exact Kr () rfl (.tmp rfl .nil) [] trivial
 intro h1
 have g3 := of_decide_eq_false h1
 refine Osk (Osk (Osk (Oq Vpf (Oq Va (KS ?_)))))
 have hq := q4 hrr false (by simp only [ledger_between, h1, cs4]); subst hq
 exact Kr () rfl (.tmp rfl .nil) [] trivial
theorem fn9 (l : List GTurn) (la0 : Option Addr) (lk0 : Nat) (rr : Bool) (hrr : ledger_Valid l = rr) : FT Try.prog 9 #[vl la0 lk0 l] [S la0 lk0 l] (fun g : Unit => True) (fun g => vb rr) (fun g => []) := by
 refine FTi Try.func9 fun w0 M0 F0 => ?_
 refine Fb 40 0 fun hl1 => ?_
 refine KS ?_
 refine Oq Va (KS ?_)
 refine Oq Vm (Oq (Vlen sl23) (Oq Vgtr (KS ?_)))
 refine Kc ?_ ?_
 · intro h2
   have g3 := of_decide_eq_true h2
   refine KS ?_
   refine Oq Va (KS ?_)
   have hq := q4 hrr false (by simp only [ledger_Valid, h2, cs4]); subst hq
   exact Kr () rfl (.tmp rfl .nil) [] trivial
 intro h2
 have g4 := of_decide_eq_false h2
 refine KS ?_
 refine Oa (Amp (κ := Int) (ν := Bool) (ek := vi) (ev := vb) (ok := i64ok)) fun p5 => ?_
 refine Jom 0 ?_; rintro b6 rfl
 refine Oq Va (KS ?_)
 refine Oq Vm (Oq (Vlen sl23) (Oq Vm (KS ?_)))
 refine Kl (γ := Nat × (List (Int × Bool)) × Int) (fun (r7, finished_8, v12_9) => ⟨[(3, (mv b6)), (10, vl la0 lk0 l), (11, vi (l.length : Int)), (12, vi v12_9)], [Mp vi vb i64ok (mv b6) finished_8, S la0 lk0 l], ledger_Valid_L0 l r7 finished_8 v12_9 = ledger_Valid_L0 l (((l.length : Int) - 0).toNat) [] 0 ∧ r7 = ((l.length : Int) - v12_9).toNat ∧ (0 : Int) ≤ v12_9 ∧ v12_9 ≤ (l.length : Int) ∧ (-9223372036854775808 ≤ v12_9 ∧ v12_9 ≤ 9223372036854775807), r7⟩) (((l.length : Int) - 0).toNat, [], 0) [0, 0] ⟨rfl, rfl, (by omega), (by omega), (by omega)⟩ ?_
 rintro ⟨r7, finished_8, v12_9⟩ ⟨hM10, hr11, hi12, hi13, hk14⟩
 refine JJ_nx fun _ _ hL hA => ?_; dsimp only at hL hA; subst hL hA
 refine Fb 40 1 fun hl15 => ?_
 refine KS ?_
 refine Oq Vlss (KS ?_)
 refine Kc ?_ ?_
 · intro h16
   have g17 := of_decide_eq_true h16
   obtain ⟨r18, rfl⟩ := scc (n := r7) (by omega)
   refine KS ?_
   refine Oq (Vi sl23 1) ?_
   refine JJ_peek_GTurn v12_9.toNat 1 rfl rng fun hb19 hb20 hb21 hb22 => ?_
   unfold i64ok at hb19 hb20 hb21 hb22
   refine Oq (VldA sh43 0) (Oa (Al ze43 [vi 0, vi 0, vi 0, vi 0, vb false]) fun p23 => Ost (Scl [0] sh43 [vi ((l.getD v12_9.toNat default).Query), vi ((l.getD v12_9.toNat default).Quantum), vi ((l.getD v12_9.toNat default).Steps), vi ((l.getD v12_9.toNat default).Cost), vb ((l.getD v12_9.toNat default).Finished)]) (KS ?_))
   refine Oq (Vfa fo43_0 0) (Oq (VldF sh3 0) ?_)
   refine letv (ledger_between ((l.getD v12_9.toNat default).Query) 0 1073741824) fun rv24 hg25 => ?_
   have hc26 := fn21 ((l.getD v12_9.toNat default).Query) 0 1073741824 pre pre pre rv24 hg25
   refine Oc [] ca21 hc26 ?_
   rintro - -
   refine Oq Vnot (Oq Vm ?_)
   refine Js 20 ?_ ?_
   · intro h27
     have h29 := not_true h27
     refine Osk (Osk (Osk (Osk (Oq Vpt (Oq Vm (Osk (Osk (Osk (Osk ?_)))))))))
     refine Oq Vpt (Oq Vm (Osk (Osk (Osk (Osk (Osk (Osk (Osk (Osk ?_)))))))))
     refine Osk (Osk (Oq Vpt (Oq Vm (Osk (Osk (Osk (Osk (Oq Vpt (KS ?_)))))))))
     refine Kt ?_
     refine KS ?_
     refine Oq Va (KS ?_)
     have hR31 := q2 hM10 (.ret false) (by simp only [ledger_Valid_L0, h16, h27, h29, hg25, cs4])
     have hq := q4 hrr false (by simp only [ledger_Valid, h2, h16, h27, h29, hg25, hR31, cs4]); subst hq
     exact Kr () rfl (.tmp rfl .nil) [] trivial
   intro h27
   have h33 := not_false h27
   try have hbt24 := between_b (by assumption : ledger_between _ _ _ = rv24) h33
   refine Oq (Vfa fo43_1 0) (Oq (VldF sh3 0) ?_)
   refine letv (ledger_between ((l.getD v12_9.toNat default).Quantum) 0 64) fun rv35 hg36 => ?_
   have hc37 := fn21 ((l.getD v12_9.toNat default).Quantum) 0 64 pre pre pre rv35 hg36
   refine Oc [] ca21 hc37 ?_
   rintro - -
   refine Oq Vnot (Oq Vpf (Oq Vm ?_))
   refine Js 26 ?_ ?_
   · intro h38
     have h40 := not_true h38
     refine Osk (Osk (Osk (Osk (Oq Vpt (Oq Vm (Osk (Osk (Osk (Osk ?_)))))))))
     refine Osk (Osk (Osk (Osk (Osk (Osk (Oq Vpt (Oq Vm (Osk (Osk ?_)))))))))
     refine Osk (Osk (Oq Vpt (KS ?_)))
     refine Kt ?_
     refine KS ?_
     refine Oq Va (KS ?_)
     have hR42 := q2 hM10 (.ret false) (by simp only [ledger_Valid_L0, h16, h27, h33, h38, h40, hg25, hg36, cs4])
     have hq := q4 hrr false (by simp only [ledger_Valid, h2, h16, h27, h33, h38, h40, hg25, hg36, hR42, cs4]); subst hq
     exact Kr () rfl (.tmp rfl .nil) [] trivial
   intro h38
   have h44 := not_false h38
   try have hbt35 := between_b (by assumption : ledger_between _ _ _ = rv35) h44
   refine Oq (Vfa fo43_2 0) (Oq (VldF sh3 0) ?_)
   refine letv (ledger_between ((l.getD v12_9.toNat default).Steps) 0 1073741824) fun rv46 hg47 => ?_
   have hc48 := fn21 ((l.getD v12_9.toNat default).Steps) 0 1073741824 pre pre pre rv46 hg47
   refine Oc [] ca21 hc48 ?_
   rintro - -
   refine Oq Vnot (Oq Vpf (Oq Vm ?_))
   refine Js 32 ?_ ?_
   · intro h49
     have h51 := not_true h49
     refine Osk (Osk (Osk (Osk (Osk (Osk (Osk (Osk (Osk (Osk ?_)))))))))
     refine Oq Vpt (Oq Vm (Osk (Osk (Osk (Osk (Oq Vpt (KS ?_)))))))
     refine Kt ?_
     refine KS ?_
     refine Oq Va (KS ?_)
     have hR53 := q2 hM10 (.ret false) (by simp only [ledger_Valid_L0, h16, h27, h33, h38, h44, h49, h51, hg25, hg36, hg47, cs4])
     have hq := q4 hrr false (by simp only [ledger_Valid, h2, h16, h27, h33, h38, h44, h49, h51, hg25, hg36, hg47, hR53, cs4]); subst hq
     exact Kr () rfl (.tmp rfl .nil) [] trivial
   intro h49
   have h55 := not_false h49
   try have hbt46 := between_b (by assumption : ledger_between _ _ _ = rv46) h55
   refine Oq (Vfa fo43_3 0) (Oq (VldF sh3 0) (Oq (Vfa fo43_2 0) (Oq (VldF sh3 0) (Oq (Vfa fo43_2 0) (Oq (VldF sh3 0) (Oq Vmul (Oq Vmin ?_)))))))
   refine letv (ledger_between ((l.getD v12_9.toNat default).Cost) ((l.getD v12_9.toNat default).Steps) (min (8 * (l.getD v12_9.toNat default).Steps) 1073741824)) fun rv57 hg58 => ?_
   have hc59 := fn21 ((l.getD v12_9.toNat default).Cost) ((l.getD v12_9.toNat default).Steps) ((min (8 * (l.getD v12_9.toNat default).Steps) 1073741824)) pre pre pre rv57 hg58
   refine Oc [] ca21 hc59 ?_
   rintro - -
   refine Oq Vnot (Oq Vpf (Oq Vm ?_))
   refine Js 44 ?_ ?_
   · intro h60
     have h62 := not_true h60
     refine Osk (Osk (Osk (Osk (Oq Vpt (KS ?_)))))
     refine Kt ?_
     refine KS ?_
     refine Oq Va (KS ?_)
     have hR64 := q2 hM10 (.ret false) (by simp only [ledger_Valid_L0, h16, h27, h33, h38, h44, h49, h55, h60, h62, hg25, hg36, hg47, hg58, cs4])
     have hq := q4 hrr false (by simp only [ledger_Valid, h2, h16, h27, h33, h38, h44, h49, h55, h60, h62, hg25, hg36, hg47, hg58, hR64, cs4]); subst hq
     exact Kr () rfl (.tmp rfl .nil) [] trivial
   intro h60
   have h66 := not_false h60
   try have hbt57 := between_b (by assumption : ledger_between _ _ _ = rv57) h66
   refine Oq Vm (Oq (Vfa fo43_0 0) (Oq (VldF sh3 0) (Oq (Vmk1 2 false mt45 (kInt un3) ze4 (ek := vi) (ev := vb) (ok := i64ok) (key := ((l.getD v12_9.toNat default).Query)) pre) (Oq Vpf (KS ?_)))))
   refine Kc ?_ ?_
   · intro h68
     refine KS ?_
     refine Oq Va (KS ?_)
     have hR70 := q2 hM10 (.ret false) (by simp only [ledger_Valid_L0, h16, h27, h33, h38, h44, h49, h55, h60, h66, h68, hg25, hg36, hg47, hg58, cs4])
     have hq := q4 hrr false (by simp only [ledger_Valid, h2, h16, h27, h33, h38, h44, h49, h55, h60, h66, h68, hg25, hg36, hg47, hg58, hR70, cs4]); subst hq
     exact Kr () rfl (.tmp rfl .nil) [] trivial
   intro h68
   refine KS ?_
   refine Oq Vm (Oq (Vfa fo43_0 0) (Oq (VldF sh3 0) (Oq (Vfa fo43_4 0) (Oq (VldF sh4 0) (Ost (Smp [2] mt45 (kInt un3) ((l.getD v12_9.toNat default).Finished) (ek := vi) (ev := vb) (ok := i64ok) (key := ((l.getD v12_9.toNat default).Query)) pre) (KS ?_))))))
   refine Oq Vadd (Oq Vm (KS ?_))
   exact Kg (r18, (mset finished_8 ((l.getD v12_9.toNat default).Query) ((l.getD v12_9.toNat default).Finished)), (v12_9 + 1)) [0, 2] ⟨(q3 hM10 (by simp only [ledger_Valid_L0, h16, h27, h33, h38, h44, h49, h55, h60, h66, h68, hg25, hg36, hg47, hg58, cs4])), (by omega), (by omega), (by omega), (by omega)⟩
 intro h16
 have g72 := of_decide_eq_false h16
 obtain rfl : r7 = 0 := by omega
 refine Ke ?_
 have hR73 := q2 hM10 (.brk ()) (by simp only [ledger_Valid_L0, h16, cs4])
 refine KS ?_
 refine Oq Va (KS ?_)
 have hq := q4 hrr true (by simp only [ledger_Valid, h2, h16, hR73, cs4]); subst hq
 exact Kr () rfl (.tmp rfl .nil) [] trivial
theorem fn12 (l : List GTurn) (la0 : Option Addr) (lk0 : Nat) (rr : List GAccount) (hrr : ledger_Accounts l = rr) : FT Try.prog 12 #[vl la0 lk0 l] [S la0 lk0 l] (fun g : Value => True) (fun g => g) (fun g => [sl g rr]) := by
 refine FTi Try.func12 fun w0 M0 F0 => ?_
 refine Fb 40 0 fun hl1 => ?_
 refine KS ?_
 refine Oq Va (KS ?_)
 refine Oq Vm ?_
 refine letv (ledger_Valid l) fun rv2 hg3 => ?_
 have hc4 := fn9 l la0 lk0 rv2 hg3
 refine Oc [0] ca9 hc4 ?_
 rintro - -
 refine Oq Vnot (KS ?_)
 refine Kc ?_ ?_
 · intro h5
   have h7 := not_true h5
   refine KS ?_
   refine Oq Va (KS ?_)
   refine Jl [] (Ent.slNil (α := GAccount)) ?_
   have hq := q4 hrr ([] : List GAccount) (by simp only [ledger_Accounts, h5, h7, hg3, cs4]); subst hq
   exact Kr (.slice none 0 0) rfl (.tmp rfl .nil) [0] trivial
 intro h5
 have h10 := not_false h5
 try have hvl := LValid_len (l := l) (by simp only [h5, h10, hg3])
 try have hvk := LValid_ok (l := l) (by simp only [h5, h10, hg3])
 refine KS ?_
 refine Oa (Amp (κ := Int) (ν := GAccount) (ek := vi) (ev := ev_GAccount) (ok := i64ok)) fun p12 => ?_
 refine Jom 0 ?_; rintro b13 rfl
 refine Oq Va (KS ?_)
 refine Oq Vm (Oq (Vlen sl23) (Oq Vm (KS ?_)))
 refine Kl (γ := Nat × (List (Int × GAccount)) × Int) (fun (r14, of_15, v16_16) => ⟨[(3, (mv b13)), (14, vl la0 lk0 l), (15, vi (l.length : Int)), (16, vi v16_16)], [Mp vi ev_GAccount i64ok (mv b13) of_15, S la0 lk0 l], ledger_Accounts_L0 l r14 of_15 v16_16 = ledger_Accounts_L0 l (((l.length : Int) - 0).toNat) [] 0 ∧ r14 = ((l.length : Int) - v16_16).toNat ∧ (0 : Int) ≤ v16_16 ∧ v16_16 ≤ (l.length : Int) ∧ (-9223372036854775808 ≤ v16_16 ∧ v16_16 ≤ 9223372036854775807) ∧ ((of_15.length : Int) ≤ v16_16) ∧ AccM of_15 v16_16, r14⟩) (((l.length : Int) - 0).toNat, [], 0) [0, 0] ⟨rfl, rfl, (by omega), (by omega), (by omega), (by simp only [List.length_nil]; omega), (AccM_nil _)⟩ ?_
 rintro ⟨r14, of_15, v16_16⟩ ⟨hM17, hr18, hi19, hi20, hk21, hv22, hv23⟩
 refine JJ_nx fun _ _ hL hA => ?_; dsimp only at hL hA; subst hL hA
 refine Fb 40 1 fun hl24 => ?_
 refine KS ?_
 refine Oq Vlss (KS ?_)
 refine Kc ?_ ?_
 · intro h25
   have g26 := of_decide_eq_true h25
   have hq := (hvk _ (getD_mem (xs := l) (i := v16_16.toNat) (d := default) (by omega))).q
   obtain ⟨r27, rfl⟩ := scc (n := r14) (by omega)
   refine KS ?_
   refine Oq (Vi sl23 1) ?_
   refine JJ_peek_GTurn v16_16.toNat 1 rfl rng fun hb28 hb29 hb30 hb31 => ?_
   unfold i64ok at hb28 hb29 hb30 hb31
   refine Oq (VldA sh43 0) (Oa (Al ze43 [vi 0, vi 0, vi 0, vi 0, vb false]) fun p32 => Ost (Scl [0] sh43 [vi ((l.getD v16_16.toNat default).Query), vi ((l.getD v16_16.toNat default).Quantum), vi ((l.getD v16_16.toNat default).Steps), vi ((l.getD v16_16.toNat default).Cost), vb ((l.getD v16_16.toNat default).Finished)]) (KS ?_))
   refine Oq Vm (Oq (Vfa fo43_0 0) (Oq (VldF sh3 0) (Oq (Vmk1 2 (default : GAccount) mt48 (kInt un3) ze38 (ek := vi) (ev := ev_GAccount) (ok := i64ok) (key := ((l.getD v16_16.toNat default).Query)) pre) ?_)))
   have hgt := AccM_get (of := of_15) (by assumption) (by omega) ((l.getD v16_16.toNat default).Query); unfold i64ok at hgt
   refine Oa (Al ze38 [vi 0, vi 0, vi 0, vi 0]) fun p33 => Ost (Scl [0] sh38 [vi (((mget of_15 ((l.getD v16_16.toNat default).Query)).getD (default : GAccount)).Query), vi (((mget of_15 ((l.getD v16_16.toNat default).Query)).getD (default : GAccount)).Turns), vi (((mget of_15 ((l.getD v16_16.toNat default).Query)).getD (default : GAccount)).Steps), vi (((mget of_15 ((l.getD v16_16.toNat default).Query)).getD (default : GAccount)).Cost)]) (KS ?_)
   refine Oq (Vfa fo43_0 1) (Oq (VldF sh3 1) (Oq (Vfa fo38_0 0) (Ost (SclF [0] sh3 [vi ((l.getD v16_16.toNat default).Query), vi (((mget of_15 ((l.getD v16_16.toNat default).Query)).getD (default : GAccount)).Turns), vi (((mget of_15 ((l.getD v16_16.toNat default).Query)).getD (default : GAccount)).Steps), vi (((mget of_15 ((l.getD v16_16.toNat default).Query)).getD (default : GAccount)).Cost)]) (KS ?_))))
   refine Jp 1 fun hp34 => ?_
   refine JK_drawK [0, 0, 2, 0, 0, 24, 63] fmix ?_
   refine Dv [] Vm (Dv [0] (Vfa fo43_0 0) (Dv [2] (VldF sh3 0) (Dv [1] (VldA sh38 0) (Dv [2] (VldA sh43 0) ?_))))
   refine letv (ledger_add (GAccount.mk ((l.getD v16_16.toNat default).Query) (((mget of_15 ((l.getD v16_16.toNat default).Query)).getD (default : GAccount)).Turns) (((mget of_15 ((l.getD v16_16.toNat default).Query)).getD (default : GAccount)).Steps) (((mget of_15 ((l.getD v16_16.toNat default).Query)).getD (default : GAccount)).Cost)) (l.getD v16_16.toNat default)) fun rv35 hg36 => ?_
   refine Dx [] [] [0] (fun G => .agg #[vi rv35.Query, vi rv35.Turns, vi rv35.Steps, vi rv35.Cost]) [fun G => SP.fact (i64ok rv35.Query ∧ i64ok rv35.Turns ∧ i64ok rv35.Steps ∧ i64ok rv35.Cost ∧ (rv35.Query = (GAccount.mk ((l.getD v16_16.toNat default).Query) (((mget of_15 ((l.getD v16_16.toNat default).Query)).getD (default : GAccount)).Turns) (((mget of_15 ((l.getD v16_16.toNat default).Query)).getD (default : GAccount)).Steps) (((mget of_15 ((l.getD v16_16.toNat default).Query)).getD (default : GAccount)).Cost)).Query ∧ 0 ≤ rv35.Turns ∧ rv35.Turns ≤ (GAccount.mk ((l.getD v16_16.toNat default).Query) (((mget of_15 ((l.getD v16_16.toNat default).Query)).getD (default : GAccount)).Turns) (((mget of_15 ((l.getD v16_16.toNat default).Query)).getD (default : GAccount)).Steps) (((mget of_15 ((l.getD v16_16.toNat default).Query)).getD (default : GAccount)).Cost)).Turns + 1 ∧ 0 ≤ rv35.Steps ∧ rv35.Steps ≤ 1073741824 ∧ 0 ≤ rv35.Cost ∧ rv35.Cost ≤ 1073741824))] (fun G => xC [] ca23 (fn23 ((GAccount.mk ((l.getD v16_16.toNat default).Query) (((mget of_15 ((l.getD v16_16.toNat default).Query)).getD (default : GAccount)).Turns) (((mget of_15 ((l.getD v16_16.toNat default).Query)).getD (default : GAccount)).Steps) (((mget of_15 ((l.getD v16_16.toNat default).Query)).getD (default : GAccount)).Cost))) ((l.getD v16_16.toNat default)) pre pre pre pre pre pre pre pre pre rv35 hg36)) ?_
   refine Dx0 [4, 6] [4] [1, 0] [fun G => Mp vi ev_GAccount i64ok (mv b13) (mset of_15 ((l.getD v16_16.toNat default).Query) rv35)] (fun G => by refine xf 1 rfl ?_; rintro ⟨he37, he38, he39, he40, he41⟩; unfold i64ok at he37 he38 he39 he40; exact xS (Smp [0] mt48 (kInt un3) rv35 (ek := vi) (ev := ev_GAccount) (ok := i64ok) (key := ((l.getD v16_16.toNat default).Query)) pre)) ?_
   refine Dn ⟨by kernel_rfl, fun G => ?_⟩
   refine Jw2 [(3, (mv b13)), (14, vl la0 lk0 l), (15, vi (l.length : Int)), (16, vi v16_16)] [0, 1, 2, 3, 5] [SP.fact (i64ok rv35.Query ∧ i64ok rv35.Turns ∧ i64ok rv35.Steps ∧ i64ok rv35.Cost ∧ (rv35.Query = (GAccount.mk ((l.getD v16_16.toNat default).Query) (((mget of_15 ((l.getD v16_16.toNat default).Query)).getD (default : GAccount)).Turns) (((mget of_15 ((l.getD v16_16.toNat default).Query)).getD (default : GAccount)).Steps) (((mget of_15 ((l.getD v16_16.toNat default).Query)).getD (default : GAccount)).Cost)).Query ∧ 0 ≤ rv35.Turns ∧ rv35.Turns ≤ (GAccount.mk ((l.getD v16_16.toNat default).Query) (((mget of_15 ((l.getD v16_16.toNat default).Query)).getD (default : GAccount)).Turns) (((mget of_15 ((l.getD v16_16.toNat default).Query)).getD (default : GAccount)).Steps) (((mget of_15 ((l.getD v16_16.toNat default).Query)).getD (default : GAccount)).Cost)).Turns + 1 ∧ 0 ≤ rv35.Steps ∧ rv35.Steps ≤ 1073741824 ∧ 0 ≤ rv35.Cost ∧ rv35.Cost ≤ 1073741824)), Mp vi ev_GAccount i64ok (mv b13) (mset of_15 ((l.getD v16_16.toNat default).Query) rv35)] ?_
   refine Jf 5 rfl ?_; rintro ⟨he42, he43, he44, he45, he46⟩
   unfold i64ok at he42 he43 he44 he45
   refine Jk [1, 1, 1, 2, 4] ?_
   refine KS ?_
   refine Oq Vadd (Oq Vm (KS ?_))
   exact Kg (r27, (mset of_15 ((l.getD v16_16.toNat default).Query) rv35), (v16_16 + 1)) [4, 3] ⟨(q3 hM17 (by simp only [ledger_Accounts_L0, h25, hg36, cs4])), (by omega), (by omega), (by omega), (by omega), (msetl (by assumption)), (AccM_set (by assumption) (by omega) (by (try dsimp only at *); omega))⟩
 intro h25
 have g47 := of_decide_eq_false h25
 obtain rfl : r14 = 0 := by omega
 refine Ke ?_
 have hR48 := q2 hM17 of_15 (by simp only [ledger_Accounts_L0, h25, cs4])
 refine KS ?_
 refine Oq Va (KS ?_)
 refine Oq Vm (Oa (Arg [0] mt48) fun p49 => KS ?_)
 refine Jl [] (Ent.osNil (α := GAccount)) ?_
 refine Kl (γ := (List (Int × GAccount)) × (List (Int × GAccount)) × List GAccount × Option Addr × Nat) (fun (dn54, rs55, out_51, a52, k53) => ⟨[(7, vl a52 k53 out_51), (35, p49)], [O a52 k53 out_51, MpI vi ev_GAccount i64ok (mv b13) p49 of_15 (dn54 : List (Int × GAccount)) (rs55 : List (Int × GAccount))], ledger_Accounts_L1 dn54 [] = out_51 ∧ (out_51.length + rs55.length = of_15.length) ∧ (∀ e ∈ rs55, e ∈ of_15), rs55.length⟩) ([], of_15, [], none, 0) [0, 0] ⟨rfl, (by simp), (fun _ h => h)⟩ ?_
 rintro ⟨dn54, rs55, out_51, a52, k53⟩ ⟨hM56, hv57, hv58⟩
 refine JJ_nx fun _ _ hL hA => ?_; dsimp only at hL hA; subst hL hA
 refine Fb 32 0 fun hl59 => ?_
 refine KS ?_
 refine Onx [1] ?_ ?_
 · intro hz60
   have hz60l := congrArg List.length hz60
   refine Oq Vx (KS ?_)
   refine Kf ?_
   refine Ke ?_
   refine Jl [0] Ent.mdone ?_
   refine Jf 0 rfl ?_; intro hpm
   refine Jl [1] (Ent.mperm hpm) ?_
   refine Jk [0, 1] ?_
   refine Jl [0] Ent.mfacts ?_
   refine Jf 0 rfl ?_; intro hmf
   refine Jk [1, 1] ?_
   have hrn := hM56
   refine KS ?_
   refine Oq Vm ?_
   refine JJ_ent (Ent.pall [] rfl rfl) ?_
   refine letv (slices_SortFunc_Account out_51 (fun x0 x1 => ledger_Accounts_1 x0 x1)) fun rv61 hg62 => ?_
   have hc63 := fn24 out_51 a52 k53 25 [] (fun x0 x1 => ledger_Accounts_1 x0 x1) [] ca25 (fun x0 x1 hq0 hq1 hq2 hq3 hq4 hq5 hq6 hq7 => FT_pall (A1 := []) (fn25 x0 x1  hq0 hq1 hq2 hq3 hq4 hq5 hq6 hq7 _ rfl)) pre rv61 hg62
   refine Oc [2, 0] ca24 hc63 ?_
   rintro - -
   have hgs := (Acc_sort (by assumption) hmf.1 hpm (by omega) hrn).trans (by assumption : slices_SortFunc_Account out_51 (fun x0 x1 => ledger_Accounts_1 x0 x1) = rv61)
   refine KS ?_
   refine Oq Vm (Oq Va (KS ?_))
   refine Jl [0] (Ent.freeze _ _) ?_
   have hq := q4 hrr rv61 (by simp only [ledger_Accounts, h5, h10, h25, hg3, hR48, hg62, hgs, cs4]); subst hq
   exact Kr (vl a52 k53 out_51) rfl (.tmp rfl .nil) [0] trivial
 intro en64 r65 r66 hz67
 have hz67l := nxe hz67
 have hne := AccM_ent (by assumption) (by omega) (by assumption) hz67; unfold i64ok at hne
 refine Oq Vx (KS ?_)
 refine Kt ?_
 refine KS ?_
 refine Oq (Ven 0) (Oq Vx (Oa (Al ze38 [vi 0, vi 0, vi 0, vi 0]) fun p68 => Ost (Scl [0] sh38 [vi en64.2.Query, vi en64.2.Turns, vi en64.2.Steps, vi en64.2.Cost]) (KS ?_)))
 refine Oq Vm (Oq (VldA sh38 0) (Oa (AsV sl35 sz35 [.agg #[vi en64.2.Query, vi en64.2.Turns, vi en64.2.Steps, vi en64.2.Cost]] [vi en64.2.Query, vi en64.2.Turns, vi en64.2.Steps, vi en64.2.Cost]) fun c69 => ?_))
 refine Jo 0 ?_; rintro a70 k71 rfl
 refine Jl [0] (Ent.cr1 (α := GAccount) (A := []) _ en64.2 _ (Nat.le_of_ble_eq_true rfl) (fun h => ⟨rfl, (by unfold i64ok; first | omega | (dsimp only; omega)), (by unfold i64ok; first | omega | (dsimp only; omega)), (by unfold i64ok; first | omega | (dsimp only; omega)), (by unfold i64ok; first | omega | (dsimp only; omega))⟩)) ?_
 refine Oa (ApO [3, 0] sl35 sl35 sz35) fun c72 => ?_
 refine Jo 0 ?_; rintro a73 k74 rfl
 refine Fb 32 0 fun hl75 => ?_
 have hn76 := la out_51 ([en64.2] : List GAccount)
 refine Oq Va (KS ?_)
 exact Kg ((dn54 ++ [en64]), (r65 ++ r66), (out_51 ++ [en64.2]), a73, k74) [0, 1] ⟨(by rw [ledger_Accounts_L1_app, hM56]; simp only [ledger_Accounts_L1, cs4]), (by simp only [List.length_cons, List.length_nil, List.length_append] at *; omega), (nx_sub (by assumption) (by assumption))⟩ (hm := nxl hz67)
theorem fn47 (a : Int) (ha_0 : i64ok a) (rr : Int) (hrr : flqref1_Clamp a = rr) : FT Try.prog 47 #[vi a] [] (fun g : Unit => i64ok rr ∧ (0 ≤ rr ∧ rr ≤ 1073741824)) (fun g => vi rr) (fun g => []) := by
 refine FTi Try.func47 fun w0 M0 F0 => ?_
 unfold i64ok at ha_0
 refine KS ?_
 refine Oq Va (KS ?_)
 refine Oq Vm (Oq Vmin (Oq Vmax (Oq Va (KS ?_))))
 have hq := q4 hrr (max 0 (min a 1073741824)) (by simp only [flqref1_Clamp, cs4]); subst hq
 exact Kr () rfl (.tmp rfl .nil) [] en
theorem fn35 (a : Int) (b : Int) (ha_0 : i64ok a) (hb_0 : i64ok b) (rr : Int) (hrr : flqref1_Add a b = rr) : FT Try.prog 35 #[vi a, vi b] [] (fun g : Unit => i64ok rr ∧ (0 ≤ rr ∧ rr ≤ 1073741824)) (fun g => vi rr) (fun g => []) := by
 refine FTi Try.func35 fun w0 M0 F0 => ?_
 unfold i64ok at ha_0 hb_0
 refine KS ?_
 refine Oq Va (KS ?_)
 refine Oq Vm ?_
 refine letv (flqref1_Clamp a) fun rv1 hg2 => ?_
 have hc3 := fn47 a pre rv1 hg2
 refine Oc [] ca47 hc3 ?_
 rintro - ⟨he4, he5⟩
 unfold i64ok at he4
 refine Oq Vm ?_
 refine letv (flqref1_Clamp b) fun rv6 hg7 => ?_
 have hc8 := fn47 b pre rv6 hg7
 refine Oc [] ca47 hc8 ?_
 rintro - ⟨he9, he10⟩
 unfold i64ok at he9
 refine Oq Vadd ?_
 refine letv (flqref1_Clamp (rv1 + rv6)) fun rv11 hg12 => ?_
 have hc13 := fn47 ((rv1 + rv6)) pre rv11 hg12
 refine Oc [] ca47 hc13 ?_
 rintro - ⟨he14, he15⟩
 unfold i64ok at he14
 refine Oq Va (KS ?_)
 have hq := q4 hrr rv11 (by simp only [flqref1_Add, hg2, hg7, hg12, cs4]); subst hq
 exact Kr () rfl (.tmp rfl .nil) [] en
theorem fn27 (a : GAccount) (t : GTurn) (ha_0 : i64ok a.Query) (ha_1 : i64ok a.Turns) (ha_2 : i64ok a.Steps) (ha_3 : i64ok a.Cost) (ht_0 : i64ok t.Query) (ht_1 : i64ok t.Quantum) (ht_2 : i64ok t.Steps) (ht_3 : i64ok t.Cost) (ht0 : 0 ≤ a.Turns ∧ a.Turns ≤ 1000000) (rr : GAccount) (hrr : flqref19_add a t = rr) : FT Try.prog 27 #[.agg #[vi a.Query, vi a.Turns, vi a.Steps, vi a.Cost], .agg #[vi t.Query, vi t.Quantum, vi t.Steps, vi t.Cost, vb t.Finished]] [] (fun g : Unit => i64ok rr.Query ∧ i64ok rr.Turns ∧ i64ok rr.Steps ∧ i64ok rr.Cost ∧ (rr.Query = a.Query ∧ 0 ≤ rr.Turns ∧ rr.Turns ≤ a.Turns + 1)) (fun g => .agg #[vi rr.Query, vi rr.Turns, vi rr.Steps, vi rr.Cost]) (fun g => []) := by
 refine FTi Try.func27 fun w0 M0 F0 => ?_
 unfold i64ok at ha_0 ha_1 ha_2 ha_3 ht_0 ht_1 ht_2 ht_3
 refine KS ?_
 refine Oa (AbO [vi a.Query, vi a.Turns, vi a.Steps, vi a.Cost]) fun p1 => Oa (Ab [vi t.Query, vi t.Quantum, vi t.Steps, vi t.Cost, vb t.Finished]) fun p2 => Oa (Al ze38 [vi 0, vi 0, vi 0, vi 0]) fun p3 => KS ?_
 refine Oq (Vfa fo43_1 1) (Oq (VldF sh3 1) (Oq Vgtr (KS ?_)))
 refine Kc ?_ ?_
 · intro h4
   have g5 := of_decide_eq_true h4
   refine KS ?_
   refine Oq (Vfa fo38_1 2) (Oq (VldF sh3 2) (Oq Vadd (Oq (Vfa fo38_1 2) (Ost (SclF [2] sh3 [vi a.Query, vi (a.Turns + 1), vi a.Steps, vi a.Cost]) (KS ?_)))))
   refine Jp 0 fun hp6 => ?_
   refine JK_drawK [0, 1, 0, 4, 15, 0, 32, 0, 128, 511, 127, 2047, 4095, 8191] fmix ?_
   refine Dv [0] (Vfa fo38_2 0) (Dv [1] (VldF sh3 0) (Dv [3] (Vfa fo43_2 0) (Dv [3] (VldF sh3 0) ?_)))
   refine letv (flqref1_Add a.Steps t.Steps) fun rv7 hg8 => ?_
   refine Dx [] [] [0] (fun G => vi rv7) [fun G => SP.fact (i64ok rv7 ∧ (0 ≤ rv7 ∧ rv7 ≤ 1073741824))] (fun G => xC [] ca35 (fn35 a.Steps t.Steps pre pre rv7 hg8)) (Dv [0] (Vfa fo38_3 0) (Dv [1] (VldF sh3 0) (Dv [3] (Vfa fo43_3 0) (Dv [3] (VldF sh3 0) ?_))))
   refine letv (flqref1_Add a.Cost t.Cost) fun rv9 hg10 => ?_
   refine Dx [] [] [0] (fun G => vi rv9) [fun G => SP.fact (i64ok rv9 ∧ (0 ≤ rv9 ∧ rv9 ≤ 1073741824))] (fun G => xC [] ca35 (fn35 a.Cost t.Cost pre pre rv9 hg10)) (Dv [0] (Vfa fo38_2 0) (Dx0 [1] [1] [0] [fun G => Cl p1 [vi a.Query, vi (a.Turns + 1), vi rv7, vi a.Cost]] (fun G => xS (SclF [0] sh3 [vi a.Query, vi (a.Turns + 1), vi rv7, vi a.Cost])) (Dv [0] (Vfa fo38_3 0) (Dx0 [6] [6] [0] [fun G => Cl p1 [vi a.Query, vi (a.Turns + 1), vi rv7, vi rv9]] (fun G => xS (SclF [0] sh3 [vi a.Query, vi (a.Turns + 1), vi rv7, vi rv9])) ?_))))
   refine Dn ⟨by kernel_rfl, fun G => ?_⟩
   refine Jw2 [(2, p1), (4, p3)] [0, 2, 3] [SP.fact (i64ok rv7 ∧ (0 ≤ rv7 ∧ rv7 ≤ 1073741824)), SP.fact (i64ok rv9 ∧ (0 ≤ rv9 ∧ rv9 ≤ 1073741824)), Cl p1 [vi a.Query, vi (a.Turns + 1), vi rv7, vi rv9]] ?_
   refine Jf 3 rfl ?_; rintro ⟨he11, he12⟩
   unfold i64ok at he11
   refine Jf 4 rfl ?_; rintro ⟨he13, he14⟩
   unfold i64ok at he13
   refine Jk [1, 1, 4] ?_
   refine KS ?_
   refine Oq (VldA sh38 2) (Ost (Scl [0] sh38 [vi a.Query, vi (a.Turns + 1), vi rv7, vi rv9]) (KS ?_))
   have hq := q4 hrr (GAccount.mk a.Query (a.Turns + 1) rv7 rv9) (by simp only [flqref19_add, h4, hg8, hg10, cs4]); subst hq
   exact Kr () rfl (.cellN 0 rfl sh38 rfl (reads_Cl _ _) rfl .nil) [] en
 intro h4
 have g15 := of_decide_eq_false h4
 refine KS ?_
 refine Jp 2 fun hp16 => ?_
 refine JK_drawK [0, 1, 0, 4, 15, 0, 32, 0, 128, 511, 127, 2047, 4095, 8191] fmix ?_
 refine Dv [0] (Vfa fo38_2 0) (Dv [3] (VldF sh3 0) (Dv [2] (Vfa fo43_2 0) (Dv [2] (VldF sh3 0) ?_)))
 refine letv (flqref1_Add a.Steps t.Steps) fun rv17 hg18 => ?_
 refine Dx [] [] [0] (fun G => vi rv17) [fun G => SP.fact (i64ok rv17 ∧ (0 ≤ rv17 ∧ rv17 ≤ 1073741824))] (fun G => xC [] ca35 (fn35 a.Steps t.Steps pre pre rv17 hg18)) (Dv [0] (Vfa fo38_3 0) (Dv [3] (VldF sh3 0) (Dv [2] (Vfa fo43_3 0) (Dv [2] (VldF sh3 0) ?_))))
 refine letv (flqref1_Add a.Cost t.Cost) fun rv19 hg20 => ?_
 refine Dx [] [] [0] (fun G => vi rv19) [fun G => SP.fact (i64ok rv19 ∧ (0 ≤ rv19 ∧ rv19 ≤ 1073741824))] (fun G => xC [] ca35 (fn35 a.Cost t.Cost pre pre rv19 hg20)) (Dv [0] (Vfa fo38_2 0) (Dx0 [3] [3] [0] [fun G => Cl p1 [vi a.Query, vi a.Turns, vi rv17, vi a.Cost]] (fun G => xS (SclF [0] sh3 [vi a.Query, vi a.Turns, vi rv17, vi a.Cost])) (Dv [0] (Vfa fo38_3 0) (Dx0 [6] [6] [0] [fun G => Cl p1 [vi a.Query, vi a.Turns, vi rv17, vi rv19]] (fun G => xS (SclF [0] sh3 [vi a.Query, vi a.Turns, vi rv17, vi rv19])) ?_))))
 refine Dn ⟨by kernel_rfl, fun G => ?_⟩
 refine Jw2 [(2, p1), (4, p3)] [0, 1, 2] [SP.fact (i64ok rv17 ∧ (0 ≤ rv17 ∧ rv17 ≤ 1073741824)), SP.fact (i64ok rv19 ∧ (0 ≤ rv19 ∧ rv19 ≤ 1073741824)), Cl p1 [vi a.Query, vi a.Turns, vi rv17, vi rv19]] ?_
 refine Jf 3 rfl ?_; rintro ⟨he21, he22⟩
 unfold i64ok at he21
 refine Jf 4 rfl ?_; rintro ⟨he23, he24⟩
 unfold i64ok at he23
 refine Jk [1, 1, 4] ?_
 refine KS ?_
 refine Oq (VldA sh38 2) (Ost (Scl [0] sh38 [vi a.Query, vi a.Turns, vi rv17, vi rv19]) (KS ?_))
 have hq := q4 hrr (GAccount.mk a.Query a.Turns rv17 rv19) (by simp only [flqref19_add, h4, hg18, hg20, cs4]); subst hq
 exact Kr () rfl (.cellN 0 rfl sh38 rfl (reads_Cl _ _) rfl .nil) [] en
end Go.SL.G
