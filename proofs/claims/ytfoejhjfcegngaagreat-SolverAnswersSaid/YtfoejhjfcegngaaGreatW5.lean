/- Part 5 of the walks: mirrors, plain laws and walks used by the last text of this claim. -/
import Derived.Test.YtfoejhjfcegngaaGreatW4
import Derived.Test.YtfoejhjfcegngaaGreatProg
set_option linter.unusedVariables false
set_option linter.unusedSimpArgs false
namespace Go.SL.G
open Go Go.SL Go.Proofs
set_option maxHeartbeats 20000000
set_option maxRecDepth 100000
theorem fn294 (s : GSet) (sa1 : Option Addr) (sk1 : Nat) (b : Int) (member : Bool) (hs_0 : i64ok s.Width) (hb_0 : i64ok b) (rr : GSet × Int) (hrr : bitset_changed s b member = rr) : FT Tryz.prog 294 #[.agg #[vi s.Width, vl sa1 sk1 s.Words], vi b, vb member] [S sa1 sk1 s.Words] (fun g : Value => i64ok rr.1.Width ∧ i64ok rr.2) (fun g => .tuple #[.agg #[vi rr.1.Width, g], vi rr.2]) (fun g => [sl g rr.1.Words]) := by
 refine FTi Tryz.func294 fun w0 M0 F0 => ?_
 unfold i64ok at hs_0 hb_0
 refine Fb 8 0 fun hl1 => ?_
 refine KS ?_
 refine Oa (Ab [vi s.Width, vl sa1 sk1 s.Words]) fun p2 => Oa (Al ze42 [vi 0, .slice none 0 0]) fun p3 => Oq Va (KS ?_)
 refine Oq (VldA sh42 1) ?_
 refine letv (bitset_Valid s) fun rv4 hg5 => ?_
 have hc6 := fn123 s sa1 sk1 pre rv4 hg5
 refine Oc [2] ca123 hc6 ?_
 rintro - -
 refine Oq Vnot (Oq Va (KS ?_))
 refine Kc ?_ ?_
 · intro h7
   have h9 := not_true h7
   refine KS ?_
   refine Oq (Vbd st42 [vi 0, .slice none 0 0]) (Ost (Scl [0] sh42 [vi 0, .slice none 0 0]) (Oq Va (KS ?_)))
   refine Jl [] (Ent.slNil (α := BitVec 64)) ?_
   have hq := q4 hrr ((GSet.mk 0 []), 1) (by simp only [bitset_changed, h7, h9, hg5, cs4]); subst hq
   exact Kr (.slice none 0 0) rfl (.cellN 1 rfl sh42 rfl (reads_Cl _ _) rfl (.tmp rfl .nil)) [0] en
 intro h7
 have h12 := not_false h7
 try have hrg := PV_w (s := s) (by simp only [h7, h12, hg5])
 try have hwi := within_iff (s := s) (b := b) (by simp only [h7, h12, hg5])
 refine KS ?_
 refine Oq (VldA sh42 1) (Oq Vm ?_)
 refine letv (bitset_within s b) fun rv14 hg15 => ?_
 have hc16 := fn160 s sa1 sk1 b pre pre rv14 hg15
 refine Oc [2] ca160 hc16 ?_
 rintro - -
 refine Oq Vnot (Oq Va (KS ?_))
 refine Kc ?_ ?_
 · intro h17
   have h19 := not_true h17
   refine KS ?_
   refine Oq (Vbd st42 [vi 0, .slice none 0 0]) (Ost (Scl [0] sh42 [vi 0, .slice none 0 0]) (Oq Va (KS ?_)))
   refine Jl [] (Ent.slNil (α := BitVec 64)) ?_
   have hq := q4 hrr ((GSet.mk 0 []), 3) (by simp only [bitset_changed, h7, h12, h17, h19, hg5, hg15, cs4]); subst hq
   exact Kr (.slice none 0 0) rfl (.cellN 1 rfl sh42 rfl (reads_Cl _ _) rfl (.tmp rfl .nil)) [0] en
 intro h17
 have h22 := not_false h17
 try have hrg := PV_w (s := s) (by simp only [h7, h12, h17, h22, hg5, hg15])
 try have hwi := within_iff (s := s) (b := b) (by simp only [h7, h12, h17, h22, hg5, hg15])
 refine KS ?_
 refine JK_drawK [0, 1, 0, 4, 12, 31, 0, 127] fmix ?_
 refine Dv [1] (Vfa fo42_0 0) (Dv [1] (VldF sh3 0) (Dv [1] (Vfa fo42_1 0) (Dv [1] (VldF sh40 0) ?_)))
 refine letv (slices_Clone_uint64 s.Words) fun rv25 hg26 => ?_
 refine Dx [2] [] [2, 0, 1] (fun G => (G.g 4 0)) [fun G => SP.fact ((rv25.length = s.Words.length)), fun G => os (G.g 4 0) rv25] (fun G => xC [0] ca184 (fn184 s.Words sa1 sk1 rv25 hg26)) ?_
 refine Dx [4] [] [0] (fun G => .agg #[vi s.Width, (G.g 4 0)]) [] (fun G => xV (v := .agg #[vi s.Width, (G.g 4 0)]) (Vo 0 rfl (isO_os _ _) fun aq27 kq28 eq29 => (by rw [eq29]; exact Vbd st42 [vi s.Width, .slice aq27 ((rv25 : List (BitVec 64)).length) kq28]))) (Dx [] [] [0] (fun G => (G.g 6 0)) [fun G => Cl (G.g 6 0) [vi 0, .slice none 0 0]] (fun G => xA (Al ze42 [vi 0, .slice none 0 0])) (Dx0 [4, 5] [5] [1, 0] [fun G => Cl (G.g 6 0) [vi s.Width, (G.g 4 0)]] (fun G => x1 0 rfl os_one fun ho31 => (xS (Scl [1] sh42 [vi s.Width, (G.g 4 0)] (v := .agg #[vi s.Width, (G.g 4 0)]) (h1 := show [vi s.Width, (G.g 4 0)].all (·.oneCell') = true from (by simp only [List.all_cons, List.all_nil, ho31, Bool.and_true, Bool.true_and] <;> rfl))))) ?_))
 refine Dn ⟨by kernel_rfl, fun G => ?_⟩
 refine Jw2 [(1, vi b), (2, vb member), (6, p3), (8, (G.g 6 0))] [0, 1, 2] [SP.fact ((rv25.length = s.Words.length)), os (G.g 4 0) rv25, Cl (G.g 6 0) [vi s.Width, (G.g 4 0)]] ?_
 generalize G.g 4 0 = c24, G.g 6 0 = p30
 refine Jf 3 rfl ?_; rintro he32
 refine Jk [0, 0, 1, 3, 3] ?_
 refine Jo 3 ?_; rintro a33 k34 rfl
 refine Fb 8 3 fun hl35 => ?_
 refine KS ?_
 refine Oq (Vfa fo42_1 4) (Oq (VldF sh40 4) (Oq Vm (Oq Vquo (Oq (Vi sl40 3) (Oq (VldU sh122 3) (Oq Vm (Oq (VcU un3 un123) (Oq (VremU (b := 64#64) (by simp)) (Oq (VshlU (a := 1#64)) ?_)))))))))
 refine Oq VandNotU (Oq (Vi sl40 3) (Ost (SoU [3] sh122) (KS ?_)))
 refine Oq Vm (KS ?_)
 refine Kc ?_ ?_
 · intro h36
   refine KS ?_
   refine Oq (VldA sh42 4) (Oq Vm ?_)
   refine Fl 0 fun hn38 => ?_; try unfold vl; rw [← hn38]
   refine letv (bitset_put (GSet.mk s.Width (rv25.set ((b / 64) : Int).toNat ((rv25.getD ((b / 64) : Int).toNat 0#64) &&& ~~~(1#64 <<< ((((BitVec.ofInt 64 b) % 64#64).toNat : Int)).toNat)))) b) fun rv39 hg40 => ?_
   have hc41 := fn299 ((GSet.mk s.Width (rv25.set ((b / 64) : Int).toNat ((rv25.getD ((b / 64) : Int).toNat 0#64) &&& ~~~(1#64 <<< ((((BitVec.ofInt 64 b) % 64#64).toNat : Int)).toNat))))) a33 k34 b pre pre pre rv39 hg40
   refine Oc [0] ca299 hc41 ?_
   rintro - -
   refine KS ?_
   refine Oq (VldA sh42 4) (Ost (Scl [1] sh42 [vi s.Width, .slice a33 ((rv25.set ((b / 64) : Int).toNat ((rv25.getD ((b / 64) : Int).toNat 0#64) &&& ~~~(1#64 <<< ((((BitVec.ofInt 64 b) % 64#64).toNat : Int)).toNat))).length) k34]) (Oq Va (KS ?_)))
   refine Jl [1] (Ent.freeze _ _) ?_
   have hq := q4 hrr ((GSet.mk s.Width rv39), 0) (by simp only [bitset_changed, h7, h12, h17, h22, h36, hg5, hg15, hg26, hg40, cs4]); subst hq
   exact Kr (.slice a33 ((rv25.set ((b / 64) : Int).toNat ((rv25.getD ((b / 64) : Int).toNat 0#64) &&& ~~~(1#64 <<< ((((BitVec.ofInt 64 b) % 64#64).toNat : Int)).toNat))).length) k34) rfl (.cellN 1 rfl sh42 rfl (reads_Cl _ _) rfl (.tmp rfl .nil)) [0] en
 intro h36
 refine KS ?_
 refine Oq (VldA sh42 4) (Ost (Scl [1] sh42 [vi s.Width, vl a33 k34 rv25]) (Oq Va (KS ?_)))
 refine Jl [1] (Ent.freeze _ _) ?_
 have hq := q4 hrr ((GSet.mk s.Width (rv25.set ((b / 64) : Int).toNat ((rv25.getD ((b / 64) : Int).toNat 0#64) &&& ~~~(1#64 <<< ((((BitVec.ofInt 64 b) % 64#64).toNat : Int)).toNat)))), 0) (by simp only [bitset_changed, h7, h12, h17, h22, h36, hg5, hg15, hg26, cs4]); subst hq
 exact Kr (vl a33 k34 rv25) rfl (.cellN 1 rfl sh42 rfl (reads_Cl _ _) rfl (.tmp rfl .nil)) [0] en
theorem fn280 (s : GSet) (sa1 : Option Addr) (sk1 : Nat) (b : Int) (hs_0 : i64ok s.Width) (hb_0 : i64ok b) (rr : GSet × Int) (hrr : bitset_With s b = rr) : FT Tryz.prog 280 #[.agg #[vi s.Width, vl sa1 sk1 s.Words], vi b] [S sa1 sk1 s.Words] (fun g : Value => i64ok rr.1.Width ∧ i64ok rr.2) (fun g => .tuple #[.agg #[vi rr.1.Width, g], vi rr.2]) (fun g => [sl g rr.1.Words]) := by
 refine FTi Tryz.func280 fun w0 M0 F0 => ?_
 unfold i64ok at hs_0 hb_0
 refine Fb 8 0 fun hl1 => ?_
 refine KS ?_
 refine Oa (Ab [vi s.Width, vl sa1 sk1 s.Words]) fun p2 => Oa (Al ze42 [vi 0, .slice none 0 0]) fun p3 => Oq Va (KS ?_)
 refine Oq (VldA sh42 1) (Oq Vm ?_)
 refine letv (bitset_changed s b true) fun rv5 hg6 => ?_
 have hc7 := fn294 s sa1 sk1 b true pre pre rv5 hg6
 refine Oc [2] ca294 hc7 ?_
 rintro c4 ⟨he8, he9⟩
 unfold i64ok at he8 he9
 refine Jo 0 ?_; rintro a10 k11 rfl
 refine Fb 8 0 fun hl12 => ?_
 refine Oq Vx (Oq Vx (Ost (Scl [1] sh42 [vi rv5.1.Width, vl a10 k11 rv5.1.Words]) (Oq Va (KS ?_))))
 have hq := q4 hrr (rv5.1, rv5.2) (by simp only [bitset_With, hg6, cs4]); subst hq
 exact Kr (vl a10 k11 rv5.1.Words) rfl (.cellN 0 rfl sh42 rfl (reads_Cl _ _) rfl (.tmp rfl .nil)) [1] en
theorem fn234 (t : GTransfer) (ta1 : Option Addr) (tk1 : Nat) (ta3 : Option Addr) (tk3 : Nat) (ta4 : Option Addr) (tk4 : Nat) (s : GSet) (sa1 : Option Addr) (sk1 : Nat) (ht_0 : i64ok t.Gen.Width) (ht_2 : i64ok t.Kill.Width) (hs_0 : i64ok s.Width) (rr : GSet) (hrr : transfer_apply t s = rr) : FT Tryz.prog 234 #[.agg #[vi t.Gen.Width, vl ta1 tk1 t.Gen.Words, vi t.Kill.Width, vl ta3 tk3 t.Kill.Words, vl ta4 tk4 t.Copies], .agg #[vi s.Width, vl sa1 sk1 s.Words]] [S ta1 tk1 t.Gen.Words, S ta3 tk3 t.Kill.Words, S ta4 tk4 t.Copies, S sa1 sk1 s.Words] (fun g : Value => i64ok rr.Width) (fun g => .agg #[vi rr.Width, g]) (fun g => [sl g rr.Words]) := by
 refine FTi Tryz.func234 fun w0 M0 F0 => ?_
 unfold i64ok at ht_0 ht_2 hs_0
 refine Fb 8 0 fun hl1 => ?_
 refine Fb 8 1 fun hl2 => ?_
 refine Fb 16 2 fun hl3 => ?_
 refine Fb 8 3 fun hl4 => ?_
 refine KS ?_
 refine Oa (Ab [vi t.Gen.Width, vl ta1 tk1 t.Gen.Words, vi t.Kill.Width, vl ta3 tk3 t.Kill.Words, vl ta4 tk4 t.Copies]) fun p5 => Oa (Ab [vi s.Width, vl sa1 sk1 s.Words]) fun p6 => Oa (Al ze42 [vi 0, .slice none 0 0]) fun p7 => KS ?_
 refine Oq (VldA sh42 1) (Oq (Vfa fo98_1 2) (Oq (VldG sh42 2 [vi t.Kill.Width, vl ta3 tk3 t.Kill.Words]) ?_))
 refine letv (bitset_Diff s t.Kill) fun rv9 hg10 => ?_
 have hc11 := fn214 s sa1 sk1 t.Kill ta3 tk3 pre pre rv9 hg10
 refine Oc [6, 4] ca214 hc11 ?_
 rintro c8 ⟨he12, he13⟩
 unfold i64ok at he12 he13
 refine Jo 0 ?_; rintro a14 k15 rfl
 refine Fb 8 0 fun hl16 => ?_
 refine Oq Vm (Oq Vx (Oq Vx (Oa (Al ze42 [vi 0, .slice none 0 0]) fun p17 => Ost (Scl [0] sh42 [vi rv9.1.Width, vl a14 k15 rv9.1.Words]) (Oq Va (KS ?_)))))
 refine Oq (VldA sh42 0) (Oq (Vfa fo98_0 4) (Oq (VldG sh42 4 [vi t.Gen.Width, vl ta1 tk1 t.Gen.Words]) ?_))
 refine letv (bitset_Union rv9.1 t.Gen) fun rv19 hg20 => ?_
 have hc21 := fn180 rv9.1 a14 k15 t.Gen ta1 tk1 pre pre rv19 hg20
 refine Oc [1, 5] ca180 hc21 ?_
 rintro c18 ⟨he22, he23⟩
 unfold i64ok at he22 he23
 refine Jo 0 ?_; rintro a24 k25 rfl
 refine Fb 8 0 fun hl26 => ?_
 refine Oq Vm (Oq Vx (Oq Vx (Ost (Scl [1] sh42 [vi rv19.1.Width, vl a24 k25 rv19.1.Words]) (KS ?_))))
 refine Oq (Vfa fo98_2 5) (Oq (VldF sh96 5) (Oq (Vlen sl96) (Oq Vm (KS ?_))))
 refine Kl (γ := Nat × Int × List (BitVec 64) × Int × Option Addr × Nat) (fun (r27, out0_28, out1_29, v26_30, a31, k32) => ⟨[(3, p6), (4, p7), (5, p17), (24, vl ta4 tk4 t.Copies), (25, vi (t.Copies.length : Int)), (26, vi v26_30)], [S a31 k32 out1_29, Cl p17 [vi out0_28, vl a31 k32 out1_29], Cl p7 [vi 0, .slice none 0 0], pv p6 [vi s.Width, vl sa1 sk1 s.Words], S ta4 tk4 t.Copies, S sa1 sk1 s.Words], transfer_apply_L0 t s r27 out0_28 out1_29 v26_30 = transfer_apply_L0 t s (((t.Copies.length : Int) - 0).toNat) rv19.1.Width rv19.1.Words 0 ∧ r27 = ((t.Copies.length : Int) - v26_30).toNat ∧ (0 : Int) ≤ v26_30 ∧ v26_30 ≤ (t.Copies.length : Int) ∧ (-9223372036854775808 ≤ out0_28 ∧ out0_28 ≤ 9223372036854775807) ∧ (-9223372036854775808 ≤ v26_30 ∧ v26_30 ≤ 9223372036854775807), r27⟩) (((t.Copies.length : Int) - 0).toNat, rv19.1.Width, rv19.1.Words, 0, a24, k25) [1, 0, 2, 2, 6, 7] ⟨rfl, rfl, (by omega), (by omega), (by omega), (by omega)⟩ ?_
 rintro ⟨r27, out0_28, out1_29, v26_30, a31, k32⟩ ⟨hM33, hr34, hi35, hi36, hk37, hk38⟩
 refine JJ_nx fun _ _ hL hA => ?_; dsimp only at hL hA; subst hL hA
 refine Fb 8 0 fun hl39 => ?_
 refine Fb 16 4 fun hl40 => ?_
 refine Fb 8 5 fun hl41 => ?_
 refine KS ?_
 refine Oq Vlss (KS ?_)
 refine Kc ?_ ?_
 · intro h42
   have g43 := of_decide_eq_true h42
   obtain ⟨r44, rfl⟩ := scc (n := r27) (by omega)
   refine KS ?_
   refine Oq (Vi sl96 4) ?_
   refine JJ_peek_GCopy v26_30.toNat 4 rfl rng fun hb45 hb46 => ?_
   unfold i64ok at hb45 hb46
   refine Oq (VldA sh147 0) (Oa (Al ze147 [vi 0, vi 0]) fun p47 => Ost (Scl [0] sh147 [vi ((t.Copies.getD v26_30.toNat default).From), vi ((t.Copies.getD v26_30.toNat default).To)]) (KS ?_))
   refine Oq (VldA sh42 5) (Oq (Vfa fo147_0 0) (Oq (VldF sh3 0) ?_))
   refine letv (bitset_Has s ((t.Copies.getD v26_30.toNat default).From)) fun rv48 hg49 => ?_
   have hc50 := fn85 s sa1 sk1 ((t.Copies.getD v26_30.toNat default).From) pre pre rv48 hg49
   refine Oc [7] ca85 hc50 ?_
   rintro - -
   refine KS ?_
   refine Kc ?_ ?_
   · intro h51
     refine KS ?_
     refine Oq (VldA sh42 3) (Oq (Vfa fo147_1 0) (Oq (VldF sh3 0) ?_))
     refine letv (bitset_With (GSet.mk out0_28 out1_29) ((t.Copies.getD v26_30.toNat default).To)) fun rv54 hg55 => ?_
     have hc56 := fn280 ((GSet.mk out0_28 out1_29)) a31 k32 ((t.Copies.getD v26_30.toNat default).To) pre pre rv54 hg55
     refine Oc [2] ca280 hc56 ?_
     rintro c53 ⟨he57, he58⟩
     unfold i64ok at he57 he58
     refine Jo 0 ?_; rintro a59 k60 rfl
     refine Fb 8 0 fun hl61 => ?_
     refine Oq Vm (Oq Vx (Oq Vx (Ost (Scl [4] sh42 [vi rv54.1.Width, vl a59 k60 rv54.1.Words]) (KS ?_))))
     refine Oq Vadd (Oq Vm (KS ?_))
     exact Kg (r44, rv54.1.Width, rv54.1.Words, (v26_30 + 1), a59, k60) [1, 0, 4, 4, 5, 6] ⟨(q3 hM33 (by simp only [transfer_apply_L0, h42, h51, hg10, hg20, hg49, hg55, cs4])), (by omega), (by omega), (by omega), (by omega), (by omega)⟩
   intro h51
   refine KS ?_
   refine Oq Vadd (Oq Vm (KS ?_))
   exact Kg (r44, out0_28, out1_29, (v26_30 + 1), a31, k32) [2, 3, 3, 3, 4, 5] ⟨(q3 hM33 (by simp only [transfer_apply_L0, h42, h51, hg10, hg20, hg49, cs4])), (by omega), (by omega), (by omega), (by omega), (by omega)⟩
 intro h42
 have g63 := of_decide_eq_false h42
 obtain rfl : r27 = 0 := by omega
 refine Ke ?_
 have hR64 := q2 hM33 (out0_28, out1_29) (by simp only [transfer_apply_L0, h42, hg10, hg20, cs4])
 refine KS ?_
 refine Oq (VldA sh42 1) (Ost (Scl [2] sh42 [vi out0_28, vl a31 k32 out1_29]) (KS ?_))
 have hq := q4 hrr (GSet.mk out0_28 out1_29) (by simp only [transfer_apply, h42, hg10, hg20, hR64, cs4]); subst hq
 exact Kr (vl a31 k32 out1_29) rfl (.cellN 0 rfl sh42 rfl (reads_Cl _ _) rfl .nil) [1] en
theorem fn179 (t : GTransfer) (ta1 : Option Addr) (tk1 : Nat) (ta3 : Option Addr) (tk3 : Nat) (ta4 : Option Addr) (tk4 : Nat) (s : GSet) (sa1 : Option Addr) (sk1 : Nat) (ht_0 : i64ok t.Gen.Width) (ht_2 : i64ok t.Kill.Width) (hs_0 : i64ok s.Width) (rr : GSet × Int) (hrr : transfer_Apply t s = rr) : FT Tryz.prog 179 #[.agg #[vi t.Gen.Width, vl ta1 tk1 t.Gen.Words, vi t.Kill.Width, vl ta3 tk3 t.Kill.Words, vl ta4 tk4 t.Copies], .agg #[vi s.Width, vl sa1 sk1 s.Words]] [S ta1 tk1 t.Gen.Words, S ta3 tk3 t.Kill.Words, S ta4 tk4 t.Copies, S sa1 sk1 s.Words] (fun g : Value => i64ok rr.1.Width ∧ i64ok rr.2) (fun g => .tuple #[.agg #[vi rr.1.Width, g], vi rr.2]) (fun g => [sl g rr.1.Words]) := by
 refine FTi Tryz.func179 fun w0 M0 F0 => ?_
 unfold i64ok at ht_0 ht_2 hs_0
 refine Fb 8 0 fun hl1 => ?_
 refine Fb 8 1 fun hl2 => ?_
 refine Fb 16 2 fun hl3 => ?_
 refine Fb 8 3 fun hl4 => ?_
 refine KS ?_
 refine Oa (Ab [vi t.Gen.Width, vl ta1 tk1 t.Gen.Words, vi t.Kill.Width, vl ta3 tk3 t.Kill.Words, vl ta4 tk4 t.Copies]) fun p5 => Oa (Ab [vi s.Width, vl sa1 sk1 s.Words]) fun p6 => Oa (Al ze42 [vi 0, .slice none 0 0]) fun p7 => Oq Va (KS ?_)
 refine Oq (VldA sh98 2) ?_
 refine letv (transfer_Valid t) fun rv8 hg9 => ?_
 have hc10 := fn156 t ta1 tk1 ta3 tk3 ta4 tk4 pre pre rv8 hg9
 refine Oc [3, 4, 5] ca156 hc10 ?_
 rintro - -
 refine Oq Vnot (Oq Vm ?_)
 refine Js 10 ?_ ?_
 · intro h11
   have h13 := not_true h11
   refine Osk (Osk (Osk (Oq Vpt (Oq Va (KS ?_)))))
   refine Kt ?_
   refine KS ?_
   refine Oq (Vbd st42 [vi 0, .slice none 0 0]) (Ost (Scl [0] sh42 [vi 0, .slice none 0 0]) (Oq Va (KS ?_)))
   refine Jl [] (Ent.slNil (α := BitVec 64)) ?_
   have hq := q4 hrr ((GSet.mk 0 []), 1) (by simp only [transfer_Apply, h11, h13, hg9, cs4]); subst hq
   exact Kr (.slice none 0 0) rfl (.cellN 1 rfl sh42 rfl (reads_Cl _ _) rfl (.tmp rfl .nil)) [0] en
 intro h11
 have h16 := not_false h11
 refine Oq (VldA sh42 1) ?_
 refine letv (bitset_Valid s) fun rv18 hg19 => ?_
 have hc20 := fn123 s sa1 sk1 pre rv18 hg19
 refine Oc [6] ca123 hc20 ?_
 rintro - -
 refine Oq Vnot (Oq Vpf (Oq Va (KS ?_)))
 refine Kc ?_ ?_
 · intro h21
   have h23 := not_true h21
   refine KS ?_
   refine Oq (Vbd st42 [vi 0, .slice none 0 0]) (Ost (Scl [0] sh42 [vi 0, .slice none 0 0]) (Oq Va (KS ?_)))
   refine Jl [] (Ent.slNil (α := BitVec 64)) ?_
   have hq := q4 hrr ((GSet.mk 0 []), 1) (by simp only [transfer_Apply, h11, h16, h21, h23, hg9, hg19, cs4]); subst hq
   exact Kr (.slice none 0 0) rfl (.cellN 1 rfl sh42 rfl (reads_Cl _ _) rfl (.tmp rfl .nil)) [0] en
 intro h21
 have h26 := not_false h21
 refine KS ?_
 refine Oq (Vfa fo98_0 2) (Oq (VfaF fo42_0 2) (Oq (VldF sh3 2) (Oq (Vfa fo42_0 1) (Oq (VldF sh3 1) (Oq Vneq (Oq Va (KS ?_)))))))
 refine Kc ?_ ?_
 · intro h28
   have g29 := ne_of_bne h28
   refine KS ?_
   refine Oq (Vbd st42 [vi 0, .slice none 0 0]) (Ost (Scl [0] sh42 [vi 0, .slice none 0 0]) (Oq Va (KS ?_)))
   refine Jl [] (Ent.slNil (α := BitVec 64)) ?_
   have hq := q4 hrr ((GSet.mk 0 []), 2) (by simp only [transfer_Apply, h11, h16, h21, h26, h28, hg9, hg19, cs4]); subst hq
   exact Kr (.slice none 0 0) rfl (.cellN 1 rfl sh42 rfl (reads_Cl _ _) rfl (.tmp rfl .nil)) [0] en
 intro h28
 have g30 := eq_of_bne_false h28
 refine KS ?_
 refine Oq (VldA sh98 2) (Oq (VldA sh42 1) ?_)
 refine letv (transfer_apply t s) fun rv32 hg33 => ?_
 have hc34 := fn234 t ta1 tk1 ta3 tk3 ta4 tk4 s sa1 sk1 pre pre pre rv32 hg33
 refine Oc [3, 4, 5, 6] ca234 hc34 ?_
 rintro c31 he35
 unfold i64ok at he35
 refine Jo 0 ?_; rintro a36 k37 rfl
 refine Fb 8 0 fun hl38 => ?_
 refine Ost (Scl [1] sh42 [vi rv32.Width, vl a36 k37 rv32.Words]) (Oq Va (KS ?_))
 have hq := q4 hrr (rv32, 0) (by simp only [transfer_Apply, h11, h16, h21, h26, h28, hg9, hg19, hg33, cs4]); subst hq
 exact Kr (vl a36 k37 rv32.Words) rfl (.cellN 0 rfl sh42 rfl (reads_Cl _ _) rfl (.tmp rfl .nil)) [1] en
theorem fn237 (s1 : List (BitVec 64)) (s1a0 : Option Addr) (s1k0 : Nat) (s2 : List (BitVec 64)) (s2a0 : Option Addr) (s2k0 : Nat) (rr : Bool) (hrr : slices_Equal_uint64 s1 s2 = rr) : FT Tryz.prog 237 #[vl s1a0 s1k0 s1, vl s2a0 s2k0 s2] [S s1a0 s1k0 s1, S s2a0 s2k0 s2] (fun g : Unit => True) (fun g => vb rr) (fun g => []) := by
 refine FTi Tryz.func237 fun w0 M0 F0 => ?_
 refine Fb 8 0 fun hl1 => ?_
 refine Fb 8 1 fun hl2 => ?_
 refine KS ?_
 refine Oq Va (KS ?_)
 refine Oq Vm (Oq (Vlen sl40) (Oq Vm (Oq (Vlen sl40) (Oq Vneq (KS ?_)))))
 refine Kc ?_ ?_
 · intro h3
   have g4 := ne_of_bne h3
   refine KS ?_
   refine Oq Va (KS ?_)
   have hq := q4 hrr false (by simp only [slices_Equal_uint64, h3, cs4]); subst hq
   exact Kr () rfl (.tmp rfl .nil) [] trivial
 intro h3
 have g5 := eq_of_bne_false h3
 refine KS ?_
 refine Oq Vm (Oq (Vlen sl40) (Oq Vm (KS ?_)))
 refine Kl (γ := Nat × Int) (fun (r6, v13_7) => ⟨[(0, vl s1a0 s1k0 s1), (1, vl s2a0 s2k0 s2), (12, vi (s1.length : Int)), (13, vi v13_7)], [S s1a0 s1k0 s1, S s2a0 s2k0 s2], slices_Equal_uint64_L0 s1 s2 r6 v13_7 = slices_Equal_uint64_L0 s1 s2 (((s1.length : Int) - 0).toNat) 0 ∧ r6 = ((s1.length : Int) - v13_7).toNat ∧ (0 : Int) ≤ v13_7 ∧ v13_7 ≤ (s1.length : Int) ∧ (-9223372036854775808 ≤ v13_7 ∧ v13_7 ≤ 9223372036854775807), r6⟩) (((s1.length : Int) - 0).toNat, 0) [0, 1] ⟨rfl, rfl, (by omega), (by omega), (by omega)⟩ ?_
 rintro ⟨r6, v13_7⟩ ⟨hM8, hr9, hi10, hi11, hk12⟩
 refine JJ_nx fun _ _ hL hA => ?_; dsimp only at hL hA; subst hL hA
 refine Fb 8 0 fun hl13 => ?_
 refine Fb 8 1 fun hl14 => ?_
 refine KS ?_
 refine Oq Vlss (KS ?_)
 refine Kc ?_ ?_
 · intro h15
   have g16 := of_decide_eq_true h15
   obtain ⟨r17, rfl⟩ := scc (n := r6) (by omega)
   refine KS ?_
   refine Oq Vm (Oq Va (KS ?_))
   refine Kq [0, 0, 3, 7, 0, 0, 48, 112, 255] fmix ?_
   refine Qv [] Vm (Qv [] Vm (Qv [0] (Vi sl40 0) (Qv [0] (VldU sh122 0) (Qv [] Vm (Qv [] Vm (Qv [1] (Vi sl40 0) (Qv [1] (VldU sh122 0) (Qv [] VneqU ?_))))))))
   refine Qn ⟨by kernel_rfl, ?_⟩
   refine Kc ?_ ?_
   · intro h18
     have g19 := ne_of_bne h18
     refine KS ?_
     refine Oq Va (KS ?_)
     have hR20 := q2 hM8 (.ret false) (by simp only [slices_Equal_uint64_L0, h3, h15, h18, cs4])
     have hq := q4 hrr false (by simp only [slices_Equal_uint64, h3, h15, h18, hR20, cs4]); subst hq
     exact Kr () rfl (.tmp rfl .nil) [] trivial
   intro h18
   have g21 := eq_of_bne_false h18
   refine KS ?_
   refine Oq Vadd (Oq Vm (KS ?_))
   exact Kg (r17, (v13_7 + 1)) [0, 1] ⟨(q3 hM8 (by simp only [slices_Equal_uint64_L0, h3, h15, h18, cs4])), (by omega), (by omega), (by omega), (by omega)⟩
 intro h15
 have g22 := of_decide_eq_false h15
 obtain rfl : r6 = 0 := by omega
 refine Ke ?_
 have hR23 := q2 hM8 (.brk ()) (by simp only [slices_Equal_uint64_L0, h3, h15, cs4])
 refine KS ?_
 refine Oq Va (KS ?_)
 have hq := q4 hrr true (by simp only [slices_Equal_uint64, h3, h15, hR23, cs4]); subst hq
 exact Kr () rfl (.tmp rfl .nil) [] trivial
theorem fn181 (a : GSet) (aa1 : Option Addr) (ak1 : Nat) (b : GSet) (ba1 : Option Addr) (bk1 : Nat) (ha_0 : i64ok a.Width) (hb_0 : i64ok b.Width) (rr : Bool) (hrr : bitset_Equal a b = rr) : FT Tryz.prog 181 #[.agg #[vi a.Width, vl aa1 ak1 a.Words], .agg #[vi b.Width, vl ba1 bk1 b.Words]] [S aa1 ak1 a.Words, S ba1 bk1 b.Words] (fun g : Unit => True) (fun g => vb rr) (fun g => []) := by
 refine FTi Tryz.func181 fun w0 M0 F0 => ?_
 unfold i64ok at ha_0 hb_0
 refine Fb 8 0 fun hl1 => ?_
 refine Fb 8 1 fun hl2 => ?_
 refine KS ?_
 refine Oa (Ab [vi a.Width, vl aa1 ak1 a.Words]) fun p3 => Oa (Ab [vi b.Width, vl ba1 bk1 b.Words]) fun p4 => Oq Va (KS ?_)
 refine Oq (VldA sh42 1) ?_
 refine letv (bitset_Valid a) fun rv5 hg6 => ?_
 have hc7 := fn123 a aa1 ak1 pre rv5 hg6
 refine Oc [2] ca123 hc7 ?_
 rintro - -
 refine Oq Vm ?_
 refine Js 7 ?_ ?_
 · intro h8
   refine Oq (VldA sh42 0) ?_
   refine letv (bitset_Valid b) fun rv10 hg11 => ?_
   have hc12 := fn123 b ba1 bk1 pre rv10 hg11
   refine Oc [3] ca123 hc12 ?_
   rintro - -
   refine Oq Vpt (Oq Vm ?_)
   refine Js 11 ?_ ?_
   · intro h13
     refine Oq (Vfa fo42_0 1) (Oq (VldF sh3 1) (Oq (Vfa fo42_0 0) (Oq (VldF sh3 0) (Oq Veql (Oq Vpt (Oq Vm ?_))))))
     refine Js 18 ?_ ?_
     · intro h15
       have g16 := eq_of_beq h15
       refine Oq (Vfa fo42_1 1) (Oq (VldF sh40 1) (Oq (Vfa fo42_1 0) (Oq (VldF sh40 0) ?_)))
       refine letv (slices_Equal_uint64 a.Words b.Words) fun rv17 hg18 => ?_
       have hc19 := fn237 a.Words aa1 ak1 b.Words ba1 bk1 rv17 hg18
       refine Oc [2, 3] ca237 hc19 ?_
       rintro - -
       refine Oq Vpt (Oq Va (KS ?_))
       have hq := q4 hrr rv17 (by simp only [bitset_Equal, h8, h13, h15, hg6, hg11, hg18, cs4]); subst hq
       exact Kr () rfl (.tmp rfl .nil) [] trivial
     intro h15
     have g20 := ne_of_beq_false h15
     refine Osk (Osk (Osk (Osk (Osk (Oq Vpf (Oq Va (KS ?_)))))))
     have hq := q4 hrr false (by simp only [bitset_Equal, h8, h13, h15, hg6, hg11, cs4]); subst hq
     exact Kr () rfl (.tmp rfl .nil) [] trivial
   intro h13
   refine Osk (Osk (Osk (Osk (Osk (Oq Vpf (Oq Vm (Osk (Osk (Osk ?_)))))))))
   refine Osk (Osk (Oq Vpf (Oq Va (KS ?_))))
   have hq := q4 hrr false (by simp only [bitset_Equal, h8, h13, hg6, hg11, cs4]); subst hq
   exact Kr () rfl (.tmp rfl .nil) [] trivial
 intro h8
 refine Osk (Osk (Oq Vpf (Oq Vm (Osk (Osk (Osk (Osk (Osk (Oq Vpf ?_)))))))))
 refine Oq Vm (Osk (Osk (Osk (Osk (Osk (Oq Vpf (Oq Va (KS ?_))))))))
 have hq := q4 hrr false (by simp only [bitset_Equal, h8, hg6, cs4]); subst hq
 exact Kr () rfl (.tmp rfl .nil) [] trivial
theorem fn95 (s : GSystem) (sa1 : Option Addr) (sk1 : Nat) (sa2 : Option Addr) (sk2 : Nat) (sa3 : Option Addr) (sk3 : Nat) (stP : Value) (st : GState) (sta1 : Option Addr) (stk1 : Nat) (sta2 : Option Addr) (stk2 : Nat) (sta5 : Option Addr) (stk5 : Nat) (sta6 : Option Addr) (stk6 : Nat) (hs_0 : i64ok s.Width) (hst_0 : i64ok st.Phase) (hst_3 : i64ok st.At) (hst_4 : i64ok st.Edge) (hst_7 : i64ok st.Steps) (hv : VSys s) (hp : POk s st) (rr : Int × GState) (hrr : solver_push s st = rr) : FT Tryz.prog 95 #[.agg #[vi s.Width, vl sa1 sk1 s.Deps, vl sa2 sk2 s.Transfers, vl sa3 sk3 s.Boundary], stP] [S sa1 sk1 s.Deps, S sa2 sk2 s.Transfers, S sa3 sk3 s.Boundary, Cl stP [vi st.Phase, vl sta1 stk1 st.Cone, vl sta2 stk2 st.Leaf, vi st.At, vi st.Edge, vl sta5 stk5 st.Values, vl sta6 stk6 st.Queue, vi st.Steps], O sta1 stk1 st.Cone, O sta2 stk2 st.Leaf, O sta5 stk5 st.Values, O sta6 stk6 st.Queue] (fun g : Value × Value × Value × Value => i64ok rr.1 ∧ i64ok rr.2.Phase ∧ i64ok rr.2.At ∧ i64ok rr.2.Edge ∧ i64ok rr.2.Steps ∧ (0 ≤ rr.1 ∧ rr.1 ≤ 8)) (fun g => vi rr.1) (fun g => [Cl stP [vi rr.2.Phase, g.1, g.2.1, vi rr.2.At, vi rr.2.Edge, g.2.2.1, g.2.2.2, vi rr.2.Steps], os g.1 rr.2.Cone, os g.2.1 rr.2.Leaf, os g.2.2.1 rr.2.Values, os g.2.2.2 rr.2.Queue]) := by
 refine FTi Tryz.func95 fun w0 M0 F0 => ?_
 unfold i64ok at hs_0 hst_0 hst_3 hst_4 hst_7
 refine Fb 24 0 fun hl1 => ?_
 refine Fb 88 1 fun hl2 => ?_
 refine Fb 32 2 fun hl3 => ?_
 refine Fb 8 4 fun hl4 => ?_
 refine Fo 4 fun ho5 => ?_
 refine Fb 1 5 fun hl6 => ?_
 refine Fb 32 6 fun hl7 => ?_
 refine Fb 8 7 fun hl8 => ?_
 refine Fo 7 fun ho9 => ?_
 have hv1 := hv.n
 have hv2 := hv.tl
 have hv3 := hv.bl
 have hv4 := hv.w
 have hv5 := hv.dep_len
 have hp1 := hp.lf
 have hp2 := hp.cl
 have hp3 := hp.vl
 have hp4 := hp.qn
 have hp5 := hp.ql
 have hpi := hp.qr _ (getD_mem (xs := st.Queue) (i := (0 : Int).toNat) (d := 0) (by show 0 < _; omega))
 have hpc := hp.cr _ (getD_mem (xs := st.Cone) (i := ((st.Queue.getD (0 : Int).toNat 0) : Int).toNat) (d := 0) (by omega))
 refine KS ?_
 refine Oa (Ab [vi s.Width, vl sa1 sk1 s.Deps, vl sa2 sk2 s.Transfers, vl sa3 sk3 s.Boundary]) fun p10 => Oq Va (KS ?_)
 refine Oq Vm (Oq (Vn 4) (Oq (Vfa fo59_6 4) (Oq (VldF sh22 4) (Oq (Vi sl22 8) ?_))))
 have hb11 := ok1 (i := (0 : Int).toNat) ho9 rng
 refine Oq (VldI sh3 8) (Oq Va (KS ?_))
 refine Oq Vm (Oq Vm (Oq (Vn 4) (Oq (Vfa fo59_6 4) (Oq (VldF sh22 4) (Oa (AslO [8] sl22 ((1 : Int).toNat) st.Queue.length) fun c12 => ?_)))))
 refine Jo 0 ?_; rintro a13 k14 rfl
 refine Fb 8 0 fun hl15 => ?_
 refine Fo 0 fun ho16 => ?_
 have hn17 : ((st.Queue.take st.Queue.length).drop ((1 : Int).toNat)).length = st.Queue.length - ((1 : Int).toNat) := len_slice rng rng
 refine Oq (Vn 5) (Oq (Vfa fo59_6 5) (Ost (SclF [5] sh22 [vi st.Phase, vl sta1 stk1 st.Cone, vl sta2 stk2 st.Leaf, vi st.At, vi st.Edge, vl sta5 stk5 st.Values, vl a13 k14 ((st.Queue.take st.Queue.length).drop ((1 : Int).toNat)), vi st.Steps]) (KS ?_)))
 refine Jp 0 fun hp18 => ?_
 refine JK_drawK [0, 0, 2, 6, 14, 0, 32, 96, 224, 0, 1023, 2047] fmix ?_
 refine Dv [3] (VldA sh27 0) (Dv [] Vm (Dv [0] (Vn 0) (Dv [0] (Vfa fo59_1 0) (Dv [1] (VldF sh22 0) (Dv [] Vm (Dv [0] (Vn 0) (Dv [0] (Vfa fo59_2 0) (Dv [1] (VldF sh57 0) (Dv [] Vm ?_)))))))))
 refine letv (cone_Dependents s st.Cone st.Leaf (st.Queue.getD (0 : Int).toNat 0)) fun rv20 hg21 => ?_
 refine Dx [4, 5, 6, 7, 8] [7, 8] [4, 5, 6, 0, 1, 1, 1] (fun G => (G.g 10 0)) [fun G => SP.fact ((rv20.length ≤ st.Cone.length)), fun G => O sta2 stk2 st.Leaf, fun G => O sta1 stk1 st.Cone, fun G => os (G.g 10 0) rv20] (fun G => xC [4, 3, 0, 1, 2] ca57 (FT_borrow (A := _) hlx (FT_ent (Ent.take (is := [1, 1, 2, 3, 0]) rfl) (FT_borrow (A := _) hlx (FT_ent (Ent.take (is := [1, 2, 3, 0, 4]) rfl) (fn57 s sa1 sk1 sa2 sk2 sa3 sk3 st.Cone sta1 stk1 st.Leaf sta2 stk2 ((st.Queue.getD (0 : Int).toNat 0)) pre pre rv20 hg21))))) (ht := rfl)) (Dg [] (fun G => (G.g 10 0)) (fun G => Va) ?_)
 refine Dn ⟨by kernel_rfl, fun G => ?_⟩
 refine Jw2 [(1, stP), (2, p10), (5, vi (st.Queue.getD (0 : Int).toNat 0)), (6, (G.g 10 0))] [0, 1, 2, 3, 4, 5, 6, 9] [SP.fact ((rv20.length ≤ st.Cone.length)), O sta2 stk2 st.Leaf, O sta1 stk1 st.Cone, os (G.g 10 0) rv20] ?_
 generalize G.g 10 0 = c19
 refine Jf 8 rfl ?_; rintro he22
 refine Jk [1, 1, 1, 2, 3, 4, 5, 6, 6, 6] ?_
 refine Jo 9 ?_; rintro a23 k24 rfl
 refine Fb 8 9 fun hl25 => ?_
 refine Fo 9 fun ho26 => ?_
 refine KS ?_
 refine Oq Vm (Oq (Vlen sl22) (Oq Vm (KS ?_)))
 refine Kl (γ := Nat × List GSet × List Int × Int × Option Addr × Nat) (fun (r27, st5_28, st6_29, v38_30, a31, k32) => ⟨[(1, stP), (2, p10), (5, vi (st.Queue.getD (0 : Int).toNat 0)), (6, vl a23 k24 rv20), (36, vl a23 k24 rv20), (37, vi (rv20.length : Int)), (38, vi v38_30)], [O a31 k32 st6_29, Cl stP [vi st.Phase, vl sta1 stk1 st.Cone, vl sta2 stk2 st.Leaf, vi st.At, vi st.Edge, vl sta5 stk5 st.Values, vl a31 k32 st6_29, vi st.Steps], pv p10 [vi s.Width, vl sa1 sk1 s.Deps, vl sa2 sk2 s.Transfers, vl sa3 sk3 s.Boundary], S sa1 sk1 s.Deps, S sa2 sk2 s.Transfers, S sa3 sk3 s.Boundary, os (vl sta5 stk5 st.Values) st5_28, O sta2 stk2 st.Leaf, O sta1 stk1 st.Cone, O a23 k24 rv20], solver_push_L0 s st rv20 r27 st5_28 st6_29 v38_30 = solver_push_L0 s st rv20 (((rv20.length : Int) - 0).toNat) st.Values ((st.Queue.take st.Queue.length).drop ((1 : Int).toNat)) 0 ∧ r27 = ((rv20.length : Int) - v38_30).toNat ∧ (0 : Int) ≤ v38_30 ∧ v38_30 ≤ (rv20.length : Int) ∧ (-9223372036854775808 ≤ v38_30 ∧ v38_30 ≤ 9223372036854775807) ∧ (st5_28.length : Int) = (st.Cone.length : Int) ∧ (st6_29.length : Int) ≤ 256 + v38_30, r27⟩) (((rv20.length : Int) - 0).toNat, st.Values, ((st.Queue.take st.Queue.length).drop ((1 : Int).toNat)), 0, a13, k14) [1, 0, 0, 1, 2, 3, 4, 4, 4, 4] ⟨rfl, rfl, (by omega), (by omega), (by omega), iv0, iv0⟩ ?_
 rintro ⟨r27, st5_28, st6_29, v38_30, a31, k32⟩ ⟨hM33, hr34, hi35, hi36, hk37, hv38, hv39⟩
 refine JJ_nx fun _ _ hL hA => ?_; dsimp only at hL hA; subst hL hA
 refine Fb 8 0 fun hl40 => ?_
 refine Fo 0 fun ho41 => ?_
 refine Fb 24 3 fun hl42 => ?_
 refine Fb 88 4 fun hl43 => ?_
 refine Fb 32 5 fun hl44 => ?_
 refine Fb 32 6 fun hl45 => ?_
 refine Fl 6 fun hn46 => ?_
 refine Fb 1 7 fun hl47 => ?_
 refine Fb 8 8 fun hl48 => ?_
 refine Fo 8 fun ho49 => ?_
 refine Fb 8 9 fun hl50 => ?_
 refine Fo 9 fun ho51 => ?_
 refine KS ?_
 refine Oq Vlss (KS ?_)
 refine Kc ?_ ?_
 · intro h52
   have g53 := of_decide_eq_true h52
   have hqd := PDep_mem (r := rv20) (by assumption) _ (getD_mem (xs := rv20) (i := v38_30.toNat) (d := 0) (by omega))
   obtain ⟨r54, rfl⟩ := scc (n := r27) (by omega)
   refine KS ?_
   refine Oq (Vi sl22 9) ?_
   have hb55 := ok1 (i := v38_30.toNat) ho51 rng
   refine Oq (VldI sh3 9) (Oq Va (KS ?_))
   refine Jp 1 fun hp56 => ?_
   refine JJ_peek_GTransfer ((st.Cone.getD ((st.Queue.getD (0 : Int).toNat 0) : Int).toNat 0) : Int).toNat 5 rfl rng fun a57 k58 a59 k60 a61 k62 hb63 hb64 => ?_
   unfold i64ok at hb63 hb64
   refine Fb 8 1 fun hl65 => ?_
   refine Fb 8 2 fun hl66 => ?_
   refine Fb 16 3 fun hl67 => ?_
   refine JJ_peekO_GSet ((st.Queue.getD (0 : Int).toNat 0) : Int).toNat 11 rfl rng fun a68 k69 hb70 => ?_
   unfold i64ok at hb70
   refine Fb 8 1 fun hl71 => ?_
   refine JK_drawK [0, 1, 0, 4, 12, 28, 0, 124, 252, 511, 1023, 0, 2048, 6144, 14336, 0, 63488, 129024, 262143, 524287, 1048575, 1048575, 0, 6291455, 16777215] fmix ?_
   refine Dv [9] (Vfa fo27_2 0) (Dv [9] (VldF sh24 0) (Dv [] Vm (Dv [6] (Vn 0) (Dv [6] (Vfa fo59_1 0) (Dv [8] (VldF sh22 0) (Dv [] Vm (Dv [14] (Vi sl22 0) ?_)))))))
   have hb72 := ok1 (i := ((st.Queue.getD (0 : Int).toNat 0) : Int).toNat) ho49 rng
   refine Dv [14] (VldI sh3 0) (Dv [11] (Vi sl24 0) (Dv [2] (VldA sh98 0) (Dv [] Vm (Dv [6] (Vn 0) (Dv [6] (Vfa fo59_5 0) (Dv [8] (VldF sh25 0) (Dv [] Vm (Dv [0] (Vi sl25 0) (Dv [0] (VldA sh42 0) ?_)))))))))
   refine letv (transfer_Apply (s.Transfers.getD ((st.Cone.getD ((st.Queue.getD (0 : Int).toNat 0) : Int).toNat 0) : Int).toNat default) (st5_28.getD ((st.Queue.getD (0 : Int).toNat 0) : Int).toNat default)) fun rv74 hg75 => ?_
   refine Dx [1, 3, 4, 5] [] [2, 3, 4, 5, 0, 1] (fun G => .tuple #[.agg #[vi rv74.1.Width, (G.g 18 0)], vi rv74.2]) [fun G => SP.fact (i64ok rv74.1.Width ∧ i64ok rv74.2), fun G => sl (G.g 18 0) rv74.1.Words] (fun G => xC [1, 2, 3, 0] ca179 (fn179 ((s.Transfers.getD ((st.Cone.getD ((st.Queue.getD (0 : Int).toNat 0) : Int).toNat 0) : Int).toNat default)) a57 k58 a59 k60 a61 k62 ((st5_28.getD ((st.Queue.getD (0 : Int).toNat 0) : Int).toNat default)) a68 k69 pre pre pre rv74 hg75)) (Dg [] (fun G => .tuple #[.agg #[vi rv74.1.Width, (G.g 18 0)], vi rv74.2]) (fun G => Vm) (Dg [] (fun G => .agg #[vi rv74.1.Width, (G.g 18 0)]) (fun G => Vx) (Dv [] Vx (Dx [] [] [0] (fun G => (G.g 22 0)) [fun G => Cl (G.g 22 0) [vi 0, .slice none 0 0]] (fun G => xA (Al ze42 [vi 0, .slice none 0 0])) (Dx0 [17, 18] [18] [1, 0] [fun G => Cl (G.g 22 0) [vi rv74.1.Width, (G.g 18 0)]] (fun G => x1 0 rfl sl_one fun ho77 => (xS (Scl [1] sh42 [vi rv74.1.Width, (G.g 18 0)] (v := .agg #[vi rv74.1.Width, (G.g 18 0)]) (h1 := show [vi rv74.1.Width, (G.g 18 0)].all (·.oneCell') = true from (by simp only [List.all_cons, List.all_nil, ho77, Bool.and_true, Bool.true_and] <;> rfl))))) (Dv [] Va ?_))))))
   refine Dn ⟨by kernel_rfl, fun G => ?_⟩
   refine Jw2 [(1, stP), (2, p10), (5, vi (st.Queue.getD (0 : Int).toNat 0)), (6, vl a23 k24 rv20), (36, vl a23 k24 rv20), (37, vi (rv20.length : Int)), (38, vi v38_30), (8, vi (rv20.getD v38_30.toNat 0)), (9, (G.g 22 0))] [0, 1, 2, 3, 4, 5, 6, 7, 8, 9, 10, 11, 12, 13, 14, 15] [SP.fact (i64ok rv74.1.Width ∧ i64ok rv74.2), sl (G.g 18 0) rv74.1.Words, Cl (G.g 22 0) [vi rv74.1.Width, (G.g 18 0)]] ?_
   generalize G.g 18 0 = c73, G.g 22 0 = p76
   refine Jf 16 rfl ?_; rintro ⟨he78, he79⟩
   unfold i64ok at he78 he79
   refine Jk [0, 0, 1, 2, 3, 4, 6, 6, 6, 7, 8, 9, 10, 10, 10, 11, 12] ?_
   refine Jo 15 ?_; rintro a80 k81 rfl
   refine Fb 8 15 fun hl82 => ?_
   refine KS ?_
   refine Jp 7 fun hp83 => ?_
   refine JJ_peekO2_GSet ((rv20.getD v38_30.toNat 0) : Int).toNat 1 rfl rng fun a84 k85 hb86 => ?_
   unfold i64ok at hb86
   refine Fb 8 1 fun hl87 => ?_
   refine JK_drawK [0, 1, 3, 7, 0, 31, 63, 0, 255, 511, 1023, 1023, 2047] fmix ?_
   refine Dv [] Vm (Dv [2] (Vn 0) (Dv [2] (Vfa fo59_5 0) (Dv [9] (VldF sh25 0) (Dv [] Vm (Dv [0] (Vi sl25 0) (Dv [0] (VldA sh42 0) (Dv [18] (VldA sh42 0) ?_)))))))
   refine letv (bitset_Union (st5_28.getD ((rv20.getD v38_30.toNat 0) : Int).toNat default) rv74.1) fun rv89 hg90 => ?_
   refine Dx [1, 17] [] [2, 3, 0, 1] (fun G => .tuple #[.agg #[vi rv89.1.Width, (G.g 8 0)], vi rv89.2]) [fun G => SP.fact (i64ok rv89.1.Width ∧ i64ok rv89.2), fun G => sl (G.g 8 0) rv89.1.Words] (fun G => xC [0, 1] ca180 (fn180 ((st5_28.getD ((rv20.getD v38_30.toNat 0) : Int).toNat default)) a84 k85 rv74.1 a80 k81 pre pre rv89 hg90)) (Dg [] (fun G => .tuple #[.agg #[vi rv89.1.Width, (G.g 8 0)], vi rv89.2]) (fun G => Vm) (Dg [] (fun G => .agg #[vi rv89.1.Width, (G.g 8 0)]) (fun G => Vx) (Dv [] Vx (Dx0 [18, 20] [18] [1, 0] [fun G => Cl p76 [vi rv89.1.Width, (G.g 8 0)]] (fun G => x1 1 rfl sl_one fun ho91 => (xS (Scl [0] sh42 [vi rv89.1.Width, (G.g 8 0)] (v := .agg #[vi rv89.1.Width, (G.g 8 0)]) (h1 := show [vi rv89.1.Width, (G.g 8 0)].all (·.oneCell') = true from (by simp only [List.all_cons, List.all_nil, ho91, Bool.and_true, Bool.true_and] <;> rfl))))) ?_))))
   refine Dn ⟨by kernel_rfl, fun G => ?_⟩
   refine Jw2 [(1, stP), (2, p10), (5, vi (st.Queue.getD (0 : Int).toNat 0)), (6, vl a23 k24 rv20), (36, vl a23 k24 rv20), (37, vi (rv20.length : Int)), (38, vi v38_30), (8, vi (rv20.getD v38_30.toNat 0)), (9, p76)] [0, 1, 2, 3, 4, 5, 6, 7, 8, 9, 10, 11, 12, 13, 14, 15, 16, 17] [SP.fact (i64ok rv89.1.Width ∧ i64ok rv89.2), sl (G.g 8 0) rv89.1.Words, Cl p76 [vi rv89.1.Width, (G.g 8 0)]] ?_
   generalize G.g 8 0 = c88
   refine Jf 18 rfl ?_; rintro ⟨he92, he93⟩
   unfold i64ok at he92 he93
   refine Jk [0, 0, 2, 3, 4, 5, 6, 7, 7, 7, 8, 9, 10, 11, 11, 11, 11, 13, 14] ?_
   refine Jo 17 ?_; rintro a94 k95 rfl
   refine Fb 8 17 fun hl96 => ?_
   refine KS ?_
   refine Jp 8 fun hp97 => ?_
   refine JK_drawK [0, 0, 2, 6, 14, 0, 62, 126, 255] fmix ?_
   refine Dv [19] (VldA sh42 0) (Dv [] Vm (Dv [0] (Vn 0) (Dv [0] (Vfa fo59_5 0) (Dv [9] (VldF sh25 0) (Dv [] Vm (Dv [1] (Vi sl25 0) (Dv [1] (VldA sh42 0) ?_)))))))
   refine letv (bitset_Equal rv89.1 (st5_28.getD ((rv20.getD v38_30.toNat 0) : Int).toNat default)) fun rv98 hg99 => ?_
   refine Dx [2, 18] [] [1, 2, 0] (fun G => vb rv98) [fun G => SP.fact (True)] (fun G => xC [1, 0] ca181 (fn181 rv89.1 a94 k95 ((st5_28.getD ((rv20.getD v38_30.toNat 0) : Int).toNat default)) a84 k85 pre pre rv98 hg99)) ?_
   refine Dn ⟨by kernel_rfl, fun G => ?_⟩
   refine Jw2 [(1, stP), (2, p10), (5, vi (st.Queue.getD (0 : Int).toNat 0)), (6, vl a23 k24 rv20), (36, vl a23 k24 rv20), (37, vi (rv20.length : Int)), (38, vi v38_30), (8, vi (rv20.getD v38_30.toNat 0)), (9, p76), (84, vb rv98)] [0, 1, 2, 3, 4, 5, 6, 7, 8, 9, 10, 11, 12, 13, 14, 15, 16, 17, 18, 19] [SP.fact (True)] ?_
   refine Jk [1, 1, 2, 3, 4, 5, 6, 7, 7, 7, 8, 9, 10, 11, 11, 11, 11, 12, 13] ?_
   refine Kc ?_ ?_
   · intro h100
     refine Jl [0] (Ent.oread2 _ _ _ _ _ _) ?_
     refine Ke ?_
     refine KS ?_
     refine Oq Vadd (Oq Vm (KS ?_))
     exact Kg (r54, st5_28, st6_29, (v38_30 + 1), a31, k32) [7, 7, 7, 8, 9, 10, 0, 10, 10, 10] ⟨(q3 hM33 (by simp only [solver_push_L0, h52, h100, hg21, hg75, hg90, hg99, cs4])), (by omega), (by omega), (by omega), (by omega), iv1, iv1⟩
   intro h100
   refine KS ?_
   refine Jp 8 fun hp103 => ?_
   refine JK_drawK [0, 1, 3, 7, 0, 0, 63, 127] fmix ?_
   refine Dv [] Vm (Dv [0] (Vn 0) (Dv [0] (Vfa fo59_5 0) (Dv [9] (VldF sh25 0) (Dv [] Vm (Dv [19] (VldA sh42 0) (Dv [1] (Vi sl25 0) ?_))))))
   refine Dx0 [1, 18] [1] [1, 0] [fun G => os (vl sta5 stk5 st.Values) (st5_28.set ((rv20.getD v38_30.toNat 0) : Int).toNat rv89.1)] (fun G => xp [0] rfl (Ent.oread2 _ _ _ _ _ _) (xS (So (Rs := [S a94 k95 rv89.1.Words]) [0, 0] sh42 rv89.1 (fun h => ⟨_, rfl, (by unfold i64ok; first | omega | (dsimp only; omega)), sepAll_get (i := 0) rfl h⟩)))) ?_
   refine Dn ⟨by kernel_rfl, fun G => ?_⟩
   refine Jw2 [(1, stP), (2, p10), (5, vi (st.Queue.getD (0 : Int).toNat 0)), (6, vl a23 k24 rv20), (36, vl a23 k24 rv20), (37, vi (rv20.length : Int)), (38, vi v38_30), (8, vi (rv20.getD v38_30.toNat 0))] [0, 2, 3, 4, 5, 6, 7, 8, 9, 10, 11, 12, 13, 14, 15, 16, 17, 18, 19] [os (vl sta5 stk5 st.Values) (st5_28.set ((rv20.getD v38_30.toNat 0) : Int).toNat rv89.1)] ?_
   refine Jk [1, 2, 3, 4, 5, 6, 7, 7, 7, 8, 9, 10, 11, 11, 11, 11, 12, 13, 13] ?_
   refine KS ?_
   refine Oq Vm (Oq (Vn 7) (Oq (Vfa fo59_6 7) (Oq (VldF sh22 7) (Oq Vm ?_))))
   refine letv (slices_Contains_int st6_29 (rv20.getD v38_30.toNat 0)) fun rv104 hg105 => ?_
   refine Oc [6] ca82 (FT_borrow (A := _) (fun _ _ h => by cases h) (FT_ent (Ent.take (is := [0]) rfl) (fn82 st6_29 a31 k32 ((rv20.getD v38_30.toNat 0)) pre rv104 hg105))) ?_ (ht := rfl)
   rintro - -
   refine Oq Vnot (KS ?_)
   refine Kc ?_ ?_
   · intro h106
     have h108 := not_true h106
     refine KS ?_
     refine Oq Vm (Oq Vm (Oq (Vn 7) (Oq (Vfa fo59_6 7) (Oq (VldF sh22 7) (Oq Vm (Oa (AsV sl22 sz22 [vi (rv20.getD v38_30.toNat 0)] [vi (rv20.getD v38_30.toNat 0)]) fun c110 => ?_))))))
     refine Jo 0 ?_; rintro a111 k112 rfl
     refine Jl [0] (Ent.crInt _ [(rv20.getD v38_30.toNat 0)] _ _ rfl rfl (by intro x hx; rw [List.mem_singleton] at hx; subst hx; unfold i64ok; omega) (Nat.le_of_ble_eq_true rfl)) ?_
     refine Oa (ApO [1, 0] sl22 sl22 sz22) fun c113 => ?_
     refine Jo 0 ?_; rintro a114 k115 rfl
     refine Fb 8 0 fun hl116 => ?_
     refine Fo 0 fun ho117 => ?_
     have hn118 := la st6_29 ([(rv20.getD v38_30.toNat 0)] : List Int)
     refine Oq (Vn 7) (Oq (Vfa fo59_6 7) (Ost (SclF [7] sh22 [vi st.Phase, vl sta1 stk1 st.Cone, vl sta2 stk2 st.Leaf, vi st.At, vi st.Edge, vl sta5 stk5 st.Values, vl a114 k115 (st6_29 ++ [(rv20.getD v38_30.toNat 0)]), vi st.Steps]) (KS ?_)))
     refine Oq Vadd (Oq Vm (KS ?_))
     exact Kg (r54, (st5_28.set ((rv20.getD v38_30.toNat 0) : Int).toNat rv89.1), (st6_29 ++ [(rv20.getD v38_30.toNat 0)]), (v38_30 + 1), a114, k115) [1, 0, 6, 7, 8, 9, 16, 10, 10, 10] ⟨(q3 hM33 (by simp only [solver_push_L0, h52, h100, h106, h108, hg21, hg75, hg90, hg99, hg105, cs4])), (by omega), (by omega), (by omega), (by omega), iv1, iv1⟩
   intro h106
   have h120 := not_false h106
   refine KS ?_
   refine Oq Vadd (Oq Vm (KS ?_))
   exact Kg (r54, (st5_28.set ((rv20.getD v38_30.toNat 0) : Int).toNat rv89.1), st6_29, (v38_30 + 1), a31, k32) [0, 6, 6, 7, 8, 9, 16, 10, 10, 10] ⟨(q3 hM33 (by simp only [solver_push_L0, h52, h100, h106, h120, hg21, hg75, hg90, hg99, hg105, cs4])), (by omega), (by omega), (by omega), (by omega), iv1, iv1⟩
 intro h52
 have g122 := of_decide_eq_false h52
 obtain rfl : r27 = 0 := by omega
 refine Ke ?_
 have hR123 := q2 hM33 (st5_28, st6_29) (by simp only [solver_push_L0, h52, hg21, cs4])
 refine KS ?_
 refine Oq Vm (Oq (Vn 1) (Oq (Vfa fo59_6 1) (Oq (VldF sh22 1) (Oq (Vlen sl22) (Oq Veql (KS ?_))))))
 refine Kc ?_ ?_
 · intro h124
   have g125 := eq_of_beq h124
   refine KS ?_
   refine Oq Vm (Oq (Vn 1) (Oq (Vfa fo59_0 1) (Ost (SclF [1] sh3 [vi 3, vl sta1 stk1 st.Cone, vl sta2 stk2 st.Leaf, vi st.At, vi st.Edge, vl sta5 stk5 st.Values, vl a31 k32 st6_29, vi st.Steps]) (KS ?_))))
   refine Oq Vm (Oq (Vlen sl22) (Oq Vadd (Oq Vmin (Oq Va (KS ?_)))))
   have hq := q4 hrr ((min (1 + (rv20.length : Int)) 8), (GState.mk 3 st.Cone st.Leaf st.At st.Edge st5_28 st6_29 st.Steps)) (by simp only [solver_push, h52, h124, hg21, hR123, cs4]); subst hq
   exact Kr (vl sta1 stk1 st.Cone, vl sta2 stk2 st.Leaf, vl sta5 stk5 st.Values, vl a31 k32 st6_29) rfl (.tmp rfl .nil) [0, 7, 6, 5, 0] en
 intro h124
 have g126 := ne_of_beq_false h124
 refine KS ?_
 refine Oq Vm (Oq (Vlen sl22) (Oq Vadd (Oq Vmin (Oq Va (KS ?_)))))
 have hq := q4 hrr ((min (1 + (rv20.length : Int)) 8), (GState.mk st.Phase st.Cone st.Leaf st.At st.Edge st5_28 st6_29 st.Steps)) (by simp only [solver_push, h52, h124, hg21, hR123, cs4]); subst hq
 exact Kr (vl sta1 stk1 st.Cone, vl sta2 stk2 st.Leaf, vl sta5 stk5 st.Values, vl a31 k32 st6_29) rfl (.tmp rfl .nil) [1, 7, 6, 5, 0] en
theorem fn35 (s : GSystem) (sa1 : Option Addr) (sk1 : Nat) (sa2 : Option Addr) (sk2 : Nat) (sa3 : Option Addr) (sk3 : Nat) (k : List GKnown) (ka0 : Option Addr) (kk0 : Nat) (st : GState) (sta1 : Option Addr) (stk1 : Nat) (sta2 : Option Addr) (stk2 : Nat) (sta5 : Option Addr) (stk5 : Nat) (sta6 : Option Addr) (stk6 : Nat) (steps : Int) (hs_0 : i64ok s.Width) (hst_0 : i64ok st.Phase) (hst_3 : i64ok st.At) (hst_4 : i64ok st.Edge) (hst_7 : i64ok st.Steps) (hsteps_0 : i64ok steps) (hs0 : steps ≤ 1000000000) (rr : GState × Int × Int) (hrr : solver_Run s k st steps = rr) : FT Tryz.prog 35 #[.agg #[vi s.Width, vl sa1 sk1 s.Deps, vl sa2 sk2 s.Transfers, vl sa3 sk3 s.Boundary], vl ka0 kk0 k, .agg #[vi st.Phase, vl sta1 stk1 st.Cone, vl sta2 stk2 st.Leaf, vi st.At, vi st.Edge, vl sta5 stk5 st.Values, vl sta6 stk6 st.Queue, vi st.Steps], vi steps] [S sa1 sk1 s.Deps, S sa2 sk2 s.Transfers, S sa3 sk3 s.Boundary, S ka0 kk0 k, S sta1 stk1 st.Cone, S sta2 stk2 st.Leaf, S sta5 stk5 st.Values, S sta6 stk6 st.Queue] (fun g : Value × Value × Value × Value => i64ok rr.1.Phase ∧ i64ok rr.1.At ∧ i64ok rr.1.Edge ∧ i64ok rr.1.Steps ∧ i64ok rr.2.1 ∧ i64ok rr.2.2 ∧ (0 ≤ rr.2.1 ∧ rr.2.1 ≤ 8000000000) ∧ (rr.1.Cone.length ≤ 256)) (fun g => .tuple #[.agg #[vi rr.1.Phase, g.1, g.2.1, vi rr.1.At, vi rr.1.Edge, g.2.2.1, g.2.2.2, vi rr.1.Steps], vi rr.2.1, vi rr.2.2]) (fun g => [sl g.1 rr.1.Cone, sl g.2.1 rr.1.Leaf, sl g.2.2.1 rr.1.Values, sl g.2.2.2 rr.1.Queue]) := by
 refine FTi Tryz.func35 fun w0 M0 F0 => ?_
 unfold i64ok at hs_0 hst_0 hst_3 hst_4 hst_7 hsteps_0
 refine Fb 24 0 fun hl1 => ?_
 refine Fb 88 1 fun hl2 => ?_
 refine Fb 32 2 fun hl3 => ?_
 refine Fb 40 3 fun hl4 => ?_
 refine Fb 8 4 fun hl5 => ?_
 refine Fo 4 fun ho6 => ?_
 refine Fb 1 5 fun hl7 => ?_
 refine Fb 32 6 fun hl8 => ?_
 refine Fb 8 7 fun hl9 => ?_
 refine Fo 7 fun ho10 => ?_
 refine KS ?_
 refine Oa (Ab [vi s.Width, vl sa1 sk1 s.Deps, vl sa2 sk2 s.Transfers, vl sa3 sk3 s.Boundary]) fun p11 => Oa (Ab [vi st.Phase, vl sta1 stk1 st.Cone, vl sta2 stk2 st.Leaf, vi st.At, vi st.Edge, vl sta5 stk5 st.Values, vl sta6 stk6 st.Queue, vi st.Steps]) fun p12 => Oa (Al ze59 [vi 0, .slice none 0 0, .slice none 0 0, vi 0, vi 0, .slice none 0 0, .slice none 0 0, vi 0]) fun p13 => Oq Va (Oq Va (KS ?_))
 refine Ksc ?_
 refine KS ?_
 refine Oq (VldA sh27 2) (Oq Vm (Oq (VldA sh59 1) ?_))
 refine letv (solver_Valid s k st) fun rv14 hg15 => ?_
 have hc16 := fn42 s sa1 sk1 sa2 sk2 sa3 sk3 k ka0 kk0 st sta1 stk1 sta2 stk2 sta5 stk5 sta6 stk6 pre pre pre pre pre rv14 hg15
 refine Oc [3, 4, 5, 6, 7, 8, 9, 10] ca42 hc16 ?_
 rintro - -
 refine Oq Vnot (Oq Vm ?_)
 refine Js 18 ?_ ?_
 · intro h17
   have h19 := not_true h17
   refine Osk (Osk (Oq Vpt (KS ?_)))
   refine Kt ?_
   refine KS ?_
   refine Oq (Vbd st59 [vi 0, .slice none 0 0, .slice none 0 0, vi 0, vi 0, .slice none 0 0, .slice none 0 0, vi 0]) (Ost (Scl [0] sh59 [vi 0, .slice none 0 0, .slice none 0 0, vi 0, vi 0, .slice none 0 0, .slice none 0 0, vi 0]) (Oq Va (Oq Va (KS ?_))))
   refine Jl [] (Ent.slNil (α := Int)) ?_
   refine Jl [] (Ent.slNil (α := Bool)) ?_
   refine Jl [] (Ent.slNil (α := GSet)) ?_
   have hq := q4 hrr ((GState.mk 0 [] [] 0 0 [] [] 0), 0, 1) (by simp only [solver_Run, h17, h19, hg15, cs4]); subst hq
   exact Kr (.slice none 0 0, .slice none 0 0, .slice none 0 0, .slice none 0 0) rfl (.cellN 3 rfl sh59 rfl (reads_Cl _ _) rfl (.tmp rfl (.tmp rfl .nil))) [2, 1, 0, 2] ⟨en, en, en, en, en, en, en, (by first | exact Nat.zero_le _ | exact PV_cone (by assumption))⟩
 intro h17
 have h22 := not_false h17
 refine Oq Vm (Oq Vlss (Oq Vpf (KS ?_)))
 refine Kc ?_ ?_
 · intro h24
   have g25 := of_decide_eq_true h24
   refine KS ?_
   refine Oq (Vbd st59 [vi 0, .slice none 0 0, .slice none 0 0, vi 0, vi 0, .slice none 0 0, .slice none 0 0, vi 0]) (Ost (Scl [0] sh59 [vi 0, .slice none 0 0, .slice none 0 0, vi 0, vi 0, .slice none 0 0, .slice none 0 0, vi 0]) (Oq Va (Oq Va (KS ?_))))
   refine Jl [] (Ent.slNil (α := Int)) ?_
   refine Jl [] (Ent.slNil (α := Bool)) ?_
   refine Jl [] (Ent.slNil (α := GSet)) ?_
   have hq := q4 hrr ((GState.mk 0 [] [] 0 0 [] [] 0), 0, 1) (by simp only [solver_Run, h17, h22, h24, hg15, cs4]); subst hq
   exact Kr (.slice none 0 0, .slice none 0 0, .slice none 0 0, .slice none 0 0) rfl (.cellN 3 rfl sh59 rfl (reads_Cl _ _) rfl (.tmp rfl (.tmp rfl .nil))) [2, 1, 0, 2] ⟨en, en, en, en, en, en, en, (by first | exact Nat.zero_le _ | exact PV_cone (by assumption))⟩
 intro h24
 have g26 := of_decide_eq_false h24
 refine KS ?_
 refine Oq (VldA sh59 1) ?_
 refine letv (solver_copied st) fun rv31 hg32 => ?_
 have hc33 := fn93 st sta1 stk1 sta2 stk2 sta5 stk5 sta6 stk6 pre pre pre pre rv31 hg32
 refine Oc [7, 8, 9, 10] ca93 hc33 ?_
 rintro ⟨c27, c28, c29, c30⟩ ⟨he34, he35, he36, he37⟩
 unfold i64ok at he34 he35 he36 he37
 refine Jo 0 ?_; rintro a38 k39 rfl
 refine Fb 8 0 fun hl40 => ?_
 refine Fo 0 fun ho41 => ?_
 refine Jo 1 ?_; rintro a42 k43 rfl
 refine Fb 1 1 fun hl44 => ?_
 refine Jo 2 ?_; rintro a45 k46 rfl
 refine Fb 32 2 fun hl47 => ?_
 refine Jo 3 ?_; rintro a48 k49 rfl
 refine Fb 8 3 fun hl50 => ?_
 refine Fo 3 fun ho51 => ?_
 have hcs : rv31 = st := (by assumption : solver_copied st = rv31).symm.trans (copied_eq st)
 have hvi : solver_Valid s k rv31 = true := by rw [hcs]; simp only [h17, h22, h24, hg15, hg32]
 refine Oa (Al ze59 [vi 0, .slice none 0 0, .slice none 0 0, vi 0, vi 0, .slice none 0 0, .slice none 0 0, vi 0]) fun p52 => Ost (Scl [0] sh59 [vi rv31.Phase, vl a38 k39 rv31.Cone, vl a42 k43 rv31.Leaf, vi rv31.At, vi rv31.Edge, vl a45 k46 rv31.Values, vl a48 k49 rv31.Queue, vi rv31.Steps]) (KS ?_)
 refine Oq Va (KS ?_)
 refine Klb ?_
 refine KS ?_
 refine Oq Vm (Oq Vm (KS ?_))
 refine Kl (γ := Nat × Int × List Int × List Bool × Int × Int × List GSet × List Int × Int × Int × Int × Option Addr × Nat × Option Addr × Nat × Option Addr × Nat × Option Addr × Nat) (fun (r53, out0_54, out1_55, out2_56, out3_57, out4_58, out5_59, out6_60, out7_61, cost_62, v26_63, a64, k65, a66, k67, a68, k69, a70, k71) => ⟨[(1, vl ka0 kk0 k), (4, p11), (8, p13), (11, p52), (12, vi cost_62), (25, vi steps), (26, vi v26_63)], [O a70 k71 out6_60, O a68 k69 out5_59, O a66 k67 out2_56, O a64 k65 out1_55, Cl p52 [vi out0_54, vl a64 k65 out1_55, vl a66 k67 out2_56, vi out3_57, vi out4_58, vl a68 k69 out5_59, vl a70 k71 out6_60, vi out7_61], Cl p13 [vi 0, .slice none 0 0, .slice none 0 0, vi 0, vi 0, .slice none 0 0, .slice none 0 0, vi 0], pv p11 [vi s.Width, vl sa1 sk1 s.Deps, vl sa2 sk2 s.Transfers, vl sa3 sk3 s.Boundary], S sa1 sk1 s.Deps, S sa2 sk2 s.Transfers, S sa3 sk3 s.Boundary, S ka0 kk0 k], solver_Run_L0 s k r53 out0_54 out1_55 out2_56 out3_57 out4_58 out5_59 out6_60 out7_61 cost_62 v26_63 = solver_Run_L0 s k (((steps : Int) - 0).toNat) rv31.Phase rv31.Cone rv31.Leaf rv31.At rv31.Edge rv31.Values rv31.Queue rv31.Steps 0 0 ∧ r53 = ((steps : Int) - v26_63).toNat ∧ (0 : Int) ≤ v26_63 ∧ (v26_63 ≤ steps ∨ v26_63 = 0) ∧ (-9223372036854775808 ≤ out0_54 ∧ out0_54 ≤ 9223372036854775807) ∧ (-9223372036854775808 ≤ out3_57 ∧ out3_57 ≤ 9223372036854775807) ∧ (-9223372036854775808 ≤ out4_58 ∧ out4_58 ≤ 9223372036854775807) ∧ (-9223372036854775808 ≤ out7_61 ∧ out7_61 ≤ 9223372036854775807) ∧ (-9223372036854775808 ≤ cost_62 ∧ cost_62 ≤ 9223372036854775807) ∧ (-9223372036854775808 ≤ v26_63 ∧ v26_63 ≤ 9223372036854775807) ∧ solver_Valid s k (GState.mk out0_54 out1_55 out2_56 out3_57 out4_58 out5_59 out6_60 out7_61) = true ∧ 0 ≤ cost_62 ∧ cost_62 ≤ 8 * v26_63, r53⟩) (((steps : Int) - 0).toNat, rv31.Phase, rv31.Cone, rv31.Leaf, rv31.At, rv31.Edge, rv31.Values, rv31.Queue, rv31.Steps, 0, 0, a38, k39, a42, k43, a45, k46, a48, k49) [4, 3, 2, 1, 0, 0, 1, 2, 3, 4, 5] ⟨rfl, rfl, (by omega), (.inr rfl), (by omega), (by omega), (by omega), (by omega), (by omega), (by omega), hvi, iv0⟩ ?_
 rintro ⟨r53, out0_54, out1_55, out2_56, out3_57, out4_58, out5_59, out6_60, out7_61, cost_62, v26_63, a64, k65, a66, k67, a68, k69, a70, k71⟩ ⟨hM72, hr73, hi74, hi75, hk76, hk77, hk78, hk79, hk80, hk81, hv82, hv83⟩
 refine JJ_nx fun _ _ hL hA => ?_; dsimp only at hL hA; subst hL hA
 refine Fb 8 0 fun hl84 => ?_
 refine Fo 0 fun ho85 => ?_
 refine Fb 32 1 fun hl86 => ?_
 refine Fb 1 2 fun hl87 => ?_
 refine Fb 8 3 fun hl88 => ?_
 refine Fo 3 fun ho89 => ?_
 refine Fb 24 7 fun hl90 => ?_
 refine Fb 88 8 fun hl91 => ?_
 refine Fb 32 9 fun hl92 => ?_
 refine Fb 40 10 fun hl93 => ?_
 refine KS ?_
 refine Oq Vlss (KS ?_)
 refine Kc ?_ ?_
 · intro h94
   have g95 := of_decide_eq_true h94
   obtain ⟨r96, rfl⟩ := scc (n := r53) (by omega)
   refine KS ?_
   refine Oq (Vfa fo59_0 4) (Oq (VldF sh3 4) (KS ?_))
   refine Oq Veql (Oq Va (KS ?_))
   refine Kc ?_ ?_
   · intro h97
     have g98 := eq_of_beq h97
     refine KS ?_
     refine Oq (VldA sh27 6) (Oq Vm ?_)
     refine letv (solver_expand s k (GState.mk out0_54 out1_55 out2_56 out3_57 out4_58 out5_59 out6_60 out7_61)) fun rv103 hg104 => ?_
     have hc105 := fn94 s sa1 sk1 sa2 sk2 sa3 sk3 k ka0 kk0 p52 (GState.mk out0_54 out1_55 out2_56 out3_57 out4_58 out5_59 out6_60 out7_61) a64 k65 a66 k67 a68 k69 a70 k71 pre pre pre pre pre (PV_facts (by assumption)).1 ((PV_facts (by assumption)).2.1 (by show _ = _; omega)) rv103 hg104
     refine Oc [7, 8, 9, 10, 4, 3, 2, 1, 0] ca94 hc105 ?_
     rintro ⟨c99, c100, c101, c102⟩ ⟨he106, he107, he108, he109⟩
     unfold i64ok at he106 he107 he108 he109
     refine Jo 1 ?_; rintro a110 k111 rfl
     refine Fb 8 1 fun hl112 => ?_
     refine Fo 1 fun ho113 => ?_
     refine Jo 2 ?_; rintro a114 k115 rfl
     refine Fb 1 2 fun hl116 => ?_
     refine Jo 3 ?_; rintro a117 k118 rfl
     refine Fb 32 3 fun hl119 => ?_
     refine Jo 4 ?_; rintro a120 k121 rfl
     refine Fb 8 4 fun hl122 => ?_
     refine Fo 4 fun ho123 => ?_
     have hst := expand_steps (by assumption : solver_expand s k (GState.mk out0_54 out1_55 out2_56 out3_57 out4_58 out5_59 out6_60 out7_61) = rv103)
     have hsb := PV_steps (s := s) (k := k) (st := (GState.mk out0_54 out1_55 out2_56 out3_57 out4_58 out5_59 out6_60 out7_61)) (by assumption)
     dsimp only at hst hsb
     refine KS ?_
     refine Oq Vm (Oq Vadd (Oq Va (KS ?_)))
     refine Oq (Vfa fo59_7 0) (Oq (VldF sh3 0) (Oq Vadd (Oq Vmin (Oq (Vfa fo59_7 0) (Ost (SclF [0] sh3 [vi rv103.Phase, vl a110 k111 rv103.Cone, vl a114 k115 rv103.Leaf, vi rv103.At, vi rv103.Edge, vl a117 k118 rv103.Values, vl a120 k121 rv103.Queue, vi (min (rv103.Steps + 1) 1073741824)]) (KS ?_))))))
     refine Oq Vadd (Oq Vm (KS ?_))
     exact Kg (r96, rv103.Phase, rv103.Cone, rv103.Leaf, rv103.At, rv103.Edge, rv103.Values, rv103.Queue, (min (rv103.Steps + 1) 1073741824), (cost_62 + 1), (v26_63 + 1), a110, k111, a114, k115, a117, k118, a120, k121) [4, 3, 2, 1, 0, 0, 0, 1, 2, 3, 4] ⟨(q3 hM72 (by simp only [solver_Run_L0, h17, h22, h24, h94, h97, hg15, hg32, hg104, cs4])), (by omega), (by omega), (by omega), (by omega), (by omega), (by omega), (by omega), (by omega), (by omega), (by first | exact expand_V (by assumption) (by show _ = _; omega) _ (by assumption) | exact push_V (by assumption) (by show _ = _; omega) _ (by assumption)), iv1⟩
   intro h97
   have g124 := ne_of_beq_false h97
   refine KS ?_
   refine Oq Veql (Oq Va (KS ?_))
   refine Kc ?_ ?_
   · intro h125
     have g126 := eq_of_beq h125
     refine KS ?_
     refine Oq Vm (Oq (VldA sh27 6) ?_)
     refine letv (solver_push s (GState.mk out0_54 out1_55 out2_56 out3_57 out4_58 out5_59 out6_60 out7_61)) fun rv131 hg132 => ?_
     have hc133 := fn95 s sa1 sk1 sa2 sk2 sa3 sk3 p52 (GState.mk out0_54 out1_55 out2_56 out3_57 out4_58 out5_59 out6_60 out7_61) a64 k65 a66 k67 a68 k69 a70 k71 pre pre pre pre pre (PV_facts (by assumption)).1 ((PV_facts (by assumption)).2.2.1 (by show _ = _; omega)) rv131 hg132
     refine Oc [7, 8, 9, 4, 3, 2, 1, 0] ca95 hc133 ?_
     rintro ⟨c127, c128, c129, c130⟩ ⟨he134, he135, he136, he137, he138, he139⟩
     unfold i64ok at he134 he135 he136 he137 he138
     refine Jo 1 ?_; rintro a140 k141 rfl
     refine Fb 8 1 fun hl142 => ?_
     refine Fo 1 fun ho143 => ?_
     refine Jo 2 ?_; rintro a144 k145 rfl
     refine Fb 1 2 fun hl146 => ?_
     refine Jo 3 ?_; rintro a147 k148 rfl
     refine Fb 32 3 fun hl149 => ?_
     refine Jo 4 ?_; rintro a150 k151 rfl
     refine Fb 8 4 fun hl152 => ?_
     refine Fo 4 fun ho153 => ?_
     have hst := push_steps (by assumption : solver_push s (GState.mk out0_54 out1_55 out2_56 out3_57 out4_58 out5_59 out6_60 out7_61) = rv131)
     have hsb := PV_steps (s := s) (k := k) (st := (GState.mk out0_54 out1_55 out2_56 out3_57 out4_58 out5_59 out6_60 out7_61)) (by assumption)
     dsimp only at hst hsb
     refine Oq Vadd (Oq Va (KS ?_))
     refine Oq (Vfa fo59_7 0) (Oq (VldF sh3 0) (Oq Vadd (Oq Vmin (Oq (Vfa fo59_7 0) (Ost (SclF [0] sh3 [vi rv131.2.Phase, vl a140 k141 rv131.2.Cone, vl a144 k145 rv131.2.Leaf, vi rv131.2.At, vi rv131.2.Edge, vl a147 k148 rv131.2.Values, vl a150 k151 rv131.2.Queue, vi (min (rv131.2.Steps + 1) 1073741824)]) (KS ?_))))))
     refine Oq Vadd (Oq Vm (KS ?_))
     exact Kg (r96, rv131.2.Phase, rv131.2.Cone, rv131.2.Leaf, rv131.2.At, rv131.2.Edge, rv131.2.Values, rv131.2.Queue, (min (rv131.2.Steps + 1) 1073741824), (cost_62 + rv131.1), (v26_63 + 1), a140, k141, a144, k145, a147, k148, a150, k151) [4, 3, 2, 1, 0, 0, 0, 1, 2, 3, 4] ⟨(q3 hM72 (by simp only [solver_Run_L0, h17, h22, h24, h94, h97, h125, hg15, hg32, hg132, cs4])), (by omega), (by omega), (by omega), (by omega), (by omega), (by omega), (by omega), (by omega), (by omega), (by first | exact expand_V (by assumption) (by show _ = _; omega) _ (by assumption) | exact push_V (by assumption) (by show _ = _; omega) _ (by assumption)), iv1⟩
   intro h125
   have g154 := ne_of_beq_false h125
   refine Ke ?_
   have hR155 := q2 hM72 (out0_54, out1_55, out2_56, out3_57, out4_58, out5_59, out6_60, out7_61, cost_62) (by simp only [solver_Run_L0, h17, h22, h24, h94, h97, h125, hg15, hg32, cs4])
   refine KS ?_
   refine Oq (VldA sh59 4) (Oq Vm (Ost (Scl [5] sh59 [vi out0_54, vl a64 k65 out1_55, vl a66 k67 out2_56, vi out3_57, vi out4_58, vl a68 k69 out5_59, vl a70 k71 out6_60, vi out7_61]) (Oq Va (Oq Va (KS ?_)))))
   refine Jl [4] (Ent.freeze _ _) ?_
   refine Jl [4] (Ent.freeze _ _) ?_
   refine Jl [4] (Ent.freeze _ _) ?_
   refine Jl [4] (Ent.freeze _ _) ?_
   have hq := q4 hrr ((GState.mk out0_54 out1_55 out2_56 out3_57 out4_58 out5_59 out6_60 out7_61), cost_62, 0) (by simp only [solver_Run, h17, h22, h24, h94, h97, h125, hg15, hg32, hR155, cs4]); subst hq
   exact Kr (vl a64 k65 out1_55, vl a66 k67 out2_56, vl a68 k69 out5_59, vl a70 k71 out6_60) rfl (.cellN 4 rfl sh59 rfl (reads_Cl _ _) rfl (.tmp rfl (.tmp rfl .nil))) [3, 2, 1, 0] ⟨en, en, en, en, en, en, en, (by first | exact Nat.zero_le _ | exact PV_cone (by assumption))⟩
 intro h94
 have g156 := of_decide_eq_false h94
 obtain rfl : r53 = 0 := by omega
 refine Ke ?_
 have hR157 := q2 hM72 (out0_54, out1_55, out2_56, out3_57, out4_58, out5_59, out6_60, out7_61, cost_62) (by simp only [solver_Run_L0, h17, h22, h24, h94, hg15, hg32, cs4])
 refine KS ?_
 refine Oq (VldA sh59 4) (Oq Vm (Ost (Scl [5] sh59 [vi out0_54, vl a64 k65 out1_55, vl a66 k67 out2_56, vi out3_57, vi out4_58, vl a68 k69 out5_59, vl a70 k71 out6_60, vi out7_61]) (Oq Va (Oq Va (KS ?_)))))
 refine Jl [4] (Ent.freeze _ _) ?_
 refine Jl [4] (Ent.freeze _ _) ?_
 refine Jl [4] (Ent.freeze _ _) ?_
 refine Jl [4] (Ent.freeze _ _) ?_
 have hq := q4 hrr ((GState.mk out0_54 out1_55 out2_56 out3_57 out4_58 out5_59 out6_60 out7_61), cost_62, 0) (by simp only [solver_Run, h17, h22, h24, h94, hg15, hg32, hR157, cs4]); subst hq
 exact Kr (vl a64 k65 out1_55, vl a66 k67 out2_56, vl a68 k69 out5_59, vl a70 k71 out6_60) rfl (.cellN 4 rfl sh59 rfl (reads_Cl _ _) rfl (.tmp rfl (.tmp rfl .nil))) [3, 2, 1, 0] ⟨en, en, en, en, en, en, en, (by first | exact Nat.zero_le _ | exact PV_cone (by assumption))⟩
theorem fn38 (root : Int) (hroot_0 : i64ok root) (rr : GState) (hrr : solver_Start root = rr) : FT Tryz.prog 38 #[vi root] [] (fun g : Value × Value × Value × Value => i64ok rr.Phase ∧ i64ok rr.At ∧ i64ok rr.Edge ∧ i64ok rr.Steps) (fun g => .agg #[vi rr.Phase, g.1, g.2.1, vi rr.At, vi rr.Edge, g.2.2.1, g.2.2.2, vi rr.Steps]) (fun g => [sl g.1 rr.Cone, sl g.2.1 rr.Leaf, sl g.2.2.1 rr.Values, sl g.2.2.2 rr.Queue]) := by
 refine FTi Tryz.func38 fun w0 M0 F0 => ?_
 unfold i64ok at hroot_0
 refine KS ?_
 refine Oa (Al ze59 [vi 0, .slice none 0 0, .slice none 0 0, vi 0, vi 0, .slice none 0 0, .slice none 0 0, vi 0]) fun p1 => KS ?_
 refine Oq Vm (Oa (AsV sl22 sz22 [vi root] [vi root]) fun c2 => ?_)
 refine Jo 0 ?_; rintro a3 k4 rfl
 refine Oa (AsV sl57 sz57 [vb false] [vb false]) fun c5 => ?_
 refine Jo 0 ?_; rintro a6 k7 rfl
 refine Oq (Vbd st59 [vi 1, .slice a3 1 k4, .slice a6 1 k7, vi 0, vi 0, .slice none 0 0, .slice none 0 0, vi 0]) (Ost (Scl [2] sh59 [vi 1, .slice a3 1 k4, .slice a6 1 k7, vi 0, vi 0, .slice none 0 0, .slice none 0 0, vi 0]) (KS ?_))
 refine Jl [2] (Ent.crInt _ [root] _ _ rfl rfl (by intro x hx; rw [List.mem_singleton] at hx; subst hx; unfold i64ok; omega) (Nat.le_of_ble_eq_true rfl)) ?_
 refine Jl [0] (Ent.freeze _ _) ?_
 refine Jl [2] (Ent.cr1 (α := Bool) (A := []) _ false _ (Nat.le_of_ble_eq_true rfl) (fun _ => rfl)) ?_
 refine Jl [0] (Ent.freeze _ _) ?_
 refine Jl [] (Ent.slNil (α := GSet)) ?_
 refine Jl [] (Ent.slNil (α := Int)) ?_
 have hq := q4 hrr (GState.mk 1 [root] [false] 0 0 [] [] 0) (by simp only [solver_Start, cs4]); subst hq
 exact Kr (.slice a3 1 k4, .slice a6 1 k7, .slice none 0 0, .slice none 0 0) rfl (.cellN 4 rfl sh59 rfl (reads_Cl _ _) rfl .nil) [3, 2, 1, 0] en
theorem fn41 (s : GSystem) (sa1 : Option Addr) (sk1 : Nat) (sa2 : Option Addr) (sk2 : Nat) (sa3 : Option Addr) (sk3 : Nat) (k : List GKnown) (ka0 : Option Addr) (kk0 : Nat) (st : GState) (sta1 : Option Addr) (stk1 : Nat) (sta2 : Option Addr) (stk2 : Nat) (sta5 : Option Addr) (stk5 : Nat) (sta6 : Option Addr) (stk6 : Nat) (hs_0 : i64ok s.Width) (hst_0 : i64ok st.Phase) (hst_3 : i64ok st.At) (hst_4 : i64ok st.Edge) (hst_7 : i64ok st.Steps) (rr : GState × Int × Int) (hrr : solver_Step s k st = rr) : FT Tryz.prog 41 #[.agg #[vi s.Width, vl sa1 sk1 s.Deps, vl sa2 sk2 s.Transfers, vl sa3 sk3 s.Boundary], vl ka0 kk0 k, .agg #[vi st.Phase, vl sta1 stk1 st.Cone, vl sta2 stk2 st.Leaf, vi st.At, vi st.Edge, vl sta5 stk5 st.Values, vl sta6 stk6 st.Queue, vi st.Steps]] [S sa1 sk1 s.Deps, S sa2 sk2 s.Transfers, S sa3 sk3 s.Boundary, S ka0 kk0 k, S sta1 stk1 st.Cone, S sta2 stk2 st.Leaf, S sta5 stk5 st.Values, S sta6 stk6 st.Queue] (fun g : Value × Value × Value × Value => i64ok rr.1.Phase ∧ i64ok rr.1.At ∧ i64ok rr.1.Edge ∧ i64ok rr.1.Steps ∧ i64ok rr.2.1 ∧ i64ok rr.2.2) (fun g => .tuple #[.agg #[vi rr.1.Phase, g.1, g.2.1, vi rr.1.At, vi rr.1.Edge, g.2.2.1, g.2.2.2, vi rr.1.Steps], vi rr.2.1, vi rr.2.2]) (fun g => [sl g.1 rr.1.Cone, sl g.2.1 rr.1.Leaf, sl g.2.2.1 rr.1.Values, sl g.2.2.2 rr.1.Queue]) := by
 refine FTi Tryz.func41 fun w0 M0 F0 => ?_
 unfold i64ok at hs_0 hst_0 hst_3 hst_4 hst_7
 refine Fb 24 0 fun hl1 => ?_
 refine Fb 88 1 fun hl2 => ?_
 refine Fb 32 2 fun hl3 => ?_
 refine Fb 40 3 fun hl4 => ?_
 refine Fb 8 4 fun hl5 => ?_
 refine Fo 4 fun ho6 => ?_
 refine Fb 1 5 fun hl7 => ?_
 refine Fb 32 6 fun hl8 => ?_
 refine Fb 8 7 fun hl9 => ?_
 refine Fo 7 fun ho10 => ?_
 refine KS ?_
 refine Oa (Ab [vi s.Width, vl sa1 sk1 s.Deps, vl sa2 sk2 s.Transfers, vl sa3 sk3 s.Boundary]) fun p11 => Oa (Ab [vi st.Phase, vl sta1 stk1 st.Cone, vl sta2 stk2 st.Leaf, vi st.At, vi st.Edge, vl sta5 stk5 st.Values, vl sta6 stk6 st.Queue, vi st.Steps]) fun p12 => Oa (Al ze59 [vi 0, .slice none 0 0, .slice none 0 0, vi 0, vi 0, .slice none 0 0, .slice none 0 0, vi 0]) fun p13 => Oq Va (Oq Va (KS ?_))
 refine Oq (VldA sh27 2) (Oq Vm (Oq (VldA sh59 1) ?_))
 refine letv (solver_Valid s k st) fun rv14 hg15 => ?_
 have hc16 := fn42 s sa1 sk1 sa2 sk2 sa3 sk3 k ka0 kk0 st sta1 stk1 sta2 stk2 sta5 stk5 sta6 stk6 pre pre pre pre pre rv14 hg15
 refine Oc [3, 4, 5, 6, 7, 8, 9, 10] ca42 hc16 ?_
 rintro - -
 refine Oq Vnot (Oq Va (KS ?_))
 refine Kc ?_ ?_
 · intro h17
   have h19 := not_true h17
   refine KS ?_
   refine Oq (Vbd st59 [vi 0, .slice none 0 0, .slice none 0 0, vi 0, vi 0, .slice none 0 0, .slice none 0 0, vi 0]) (Ost (Scl [0] sh59 [vi 0, .slice none 0 0, .slice none 0 0, vi 0, vi 0, .slice none 0 0, .slice none 0 0, vi 0]) (Oq Va (Oq Va (KS ?_))))
   refine Jl [] (Ent.slNil (α := Int)) ?_
   refine Jl [] (Ent.slNil (α := Bool)) ?_
   refine Jl [] (Ent.slNil (α := GSet)) ?_
   have hq := q4 hrr ((GState.mk 0 [] [] 0 0 [] [] 0), 0, 1) (by simp only [solver_Step, h17, h19, hg15, cs4]); subst hq
   exact Kr (.slice none 0 0, .slice none 0 0, .slice none 0 0, .slice none 0 0) rfl (.cellN 3 rfl sh59 rfl (reads_Cl _ _) rfl (.tmp rfl (.tmp rfl .nil))) [2, 1, 0, 2] en
 intro h17
 have h22 := not_false h17
 refine KS ?_
 refine Oq (Vfa fo59_0 1) (Oq (VldF sh3 1) (Oq Veql (Oq Va (KS ?_))))
 refine Kc ?_ ?_
 · intro h24
   have g25 := eq_of_beq h24
   refine KS ?_
   refine Oq (Vbd st59 [vi 0, .slice none 0 0, .slice none 0 0, vi 0, vi 0, .slice none 0 0, .slice none 0 0, vi 0]) (Ost (Scl [0] sh59 [vi 0, .slice none 0 0, .slice none 0 0, vi 0, vi 0, .slice none 0 0, .slice none 0 0, vi 0]) (Oq Va (Oq Va (KS ?_))))
   refine Jl [] (Ent.slNil (α := Int)) ?_
   refine Jl [] (Ent.slNil (α := Bool)) ?_
   refine Jl [] (Ent.slNil (α := GSet)) ?_
   have hq := q4 hrr ((GState.mk 0 [] [] 0 0 [] [] 0), 0, 10) (by simp only [solver_Step, h17, h22, h24, hg15, cs4]); subst hq
   exact Kr (.slice none 0 0, .slice none 0 0, .slice none 0 0, .slice none 0 0) rfl (.cellN 3 rfl sh59 rfl (reads_Cl _ _) rfl (.tmp rfl (.tmp rfl .nil))) [2, 1, 0, 2] en
 intro h24
 have g26 := ne_of_beq_false h24
 refine KS ?_
 refine Oq (VldA sh27 2) (Oq Vm (Oq (VldA sh59 1) ?_))
 refine letv (solver_Run s k st 1) fun rv31 hg32 => ?_
 have hc33 := fn35 s sa1 sk1 sa2 sk2 sa3 sk3 k ka0 kk0 st sta1 stk1 sta2 stk2 sta5 stk5 sta6 stk6 1 pre pre pre pre pre pre pre rv31 hg32
 refine Oc [3, 4, 5, 6, 7, 8, 9, 10] ca35 hc33 ?_
 rintro ⟨c27, c28, c29, c30⟩ ⟨he34, he35, he36, he37, he38, he39, he40, he41⟩
 unfold i64ok at he34 he35 he36 he37 he38 he39
 refine Jo 0 ?_; rintro a42 k43 rfl
 refine Fb 8 0 fun hl44 => ?_
 refine Fo 0 fun ho45 => ?_
 refine Jo 1 ?_; rintro a46 k47 rfl
 refine Fb 1 1 fun hl48 => ?_
 refine Jo 2 ?_; rintro a49 k50 rfl
 refine Fb 32 2 fun hl51 => ?_
 refine Jo 3 ?_; rintro a52 k53 rfl
 refine Fb 8 3 fun hl54 => ?_
 refine Fo 3 fun ho55 => ?_
 refine Oq Vm (Oq Vx (Oq Vx (Oq Vx (Oa (Al ze59 [vi 0, .slice none 0 0, .slice none 0 0, vi 0, vi 0, .slice none 0 0, .slice none 0 0, vi 0]) fun p56 => Ost (Scl [0] sh59 [vi rv31.1.Phase, vl a42 k43 rv31.1.Cone, vl a46 k47 rv31.1.Leaf, vi rv31.1.At, vi rv31.1.Edge, vl a49 k50 rv31.1.Values, vl a52 k53 rv31.1.Queue, vi rv31.1.Steps]) (Oq Va (Oq Va (KS ?_)))))))
 refine Oq (VldA sh59 0) (Oq Vm (Ost (Scl [5] sh59 [vi rv31.1.Phase, vl a42 k43 rv31.1.Cone, vl a46 k47 rv31.1.Leaf, vi rv31.1.At, vi rv31.1.Edge, vl a49 k50 rv31.1.Values, vl a52 k53 rv31.1.Queue, vi rv31.1.Steps]) (Oq Va (Oq Va (KS ?_)))))
 have hq := q4 hrr (rv31.1, rv31.2.1, 0) (by simp only [solver_Step, h17, h22, h24, hg15, hg32, cs4]); subst hq
 exact Kr (vl a42 k43 rv31.1.Cone, vl a46 k47 rv31.1.Leaf, vl a49 k50 rv31.1.Values, vl a52 k53 rv31.1.Queue) rfl (.cellN 0 rfl sh59 rfl (reads_Cl _ _) rfl (.tmp rfl (.tmp rfl .nil))) [2, 3, 4, 5] en
theorem fn44 (st : GState) (sta1 : Option Addr) (stk1 : Nat) (sta2 : Option Addr) (stk2 : Nat) (sta5 : Option Addr) (stk5 : Nat) (sta6 : Option Addr) (stk6 : Nat) (hst_0 : i64ok st.Phase) (hst_3 : i64ok st.At) (hst_4 : i64ok st.Edge) (hst_7 : i64ok st.Steps) (rr : GSet × Bool) (hrr : solver_Answer st = rr) : FT Tryz.prog 44 #[.agg #[vi st.Phase, vl sta1 stk1 st.Cone, vl sta2 stk2 st.Leaf, vi st.At, vi st.Edge, vl sta5 stk5 st.Values, vl sta6 stk6 st.Queue, vi st.Steps]] [S sta1 stk1 st.Cone, S sta2 stk2 st.Leaf, S sta5 stk5 st.Values, S sta6 stk6 st.Queue] (fun g : Value => i64ok rr.1.Width) (fun g => .tuple #[.agg #[vi rr.1.Width, g], vb rr.2]) (fun g => [sl g rr.1.Words]) := by
 refine FTi Tryz.func44 fun w0 M0 F0 => ?_
 unfold i64ok at hst_0 hst_3 hst_4 hst_7
 refine Fb 8 0 fun hl1 => ?_
 refine Fo 0 fun ho2 => ?_
 refine Fb 1 1 fun hl3 => ?_
 refine Fb 32 2 fun hl4 => ?_
 refine Fb 8 3 fun hl5 => ?_
 refine Fo 3 fun ho6 => ?_
 refine KS ?_
 refine Oa (Ab [vi st.Phase, vl sta1 stk1 st.Cone, vl sta2 stk2 st.Leaf, vi st.At, vi st.Edge, vl sta5 stk5 st.Values, vl sta6 stk6 st.Queue, vi st.Steps]) fun p7 => Oa (Al ze42 [vi 0, .slice none 0 0]) fun p8 => Oq Va (KS ?_)
 refine Oq (Vfa fo59_0 1) (Oq (VldF sh3 1) (Oq Vneq (Oq Vm ?_)))
 refine Js 7 ?_ ?_
 · intro h9
   have g10 := ne_of_bne h9
   refine Osk (Osk (Osk (Osk (Oq Vpt (KS ?_)))))
   refine Kt ?_
   refine KS ?_
   refine Oq (Vbd st42 [vi 0, .slice none 0 0]) (Ost (Scl [0] sh42 [vi 0, .slice none 0 0]) (Oq Va (KS ?_)))
   refine Jl [] (Ent.slNil (α := BitVec 64)) ?_
   have hq := q4 hrr ((GSet.mk 0 []), false) (by simp only [solver_Answer, h9, cs4]); subst hq
   exact Kr (.slice none 0 0) rfl (.cellN 1 rfl sh42 rfl (reads_Cl _ _) rfl (.tmp rfl .nil)) [0] en
 intro h9
 have g11 := eq_of_bne_false h9
 refine Oq (Vfa fo59_5 1) (Oq (VldF sh25 1) (Oq (Vlen sl25) (Oq Veql (Oq Vpf (KS ?_)))))
 refine Kc ?_ ?_
 · intro h12
   have g13 := eq_of_beq h12
   refine KS ?_
   refine Oq (Vbd st42 [vi 0, .slice none 0 0]) (Ost (Scl [0] sh42 [vi 0, .slice none 0 0]) (Oq Va (KS ?_)))
   refine Jl [] (Ent.slNil (α := BitVec 64)) ?_
   have hq := q4 hrr ((GSet.mk 0 []), false) (by simp only [solver_Answer, h9, h12, cs4]); subst hq
   exact Kr (.slice none 0 0) rfl (.cellN 1 rfl sh42 rfl (reads_Cl _ _) rfl (.tmp rfl .nil)) [0] en
 intro h12
 have g14 := ne_of_beq_false h12
 refine KS ?_
 refine Oq (Vfa fo59_5 1) (Oq (VldF sh25 1) (Oq (Vi sl25 4) ?_))
 refine JJ_peek_GSet (0 : Int).toNat 4 rfl rng fun a15 k16 hb17 => ?_
 unfold i64ok at hb17
 refine Fb 8 1 fun hl18 => ?_
 refine Oq (VldA sh42 0) ?_
 refine letv (solver_clone (st.Values.getD (0 : Int).toNat default)) fun rv20 hg21 => ?_
 have hc22 := fn106 ((st.Values.getD (0 : Int).toNat default)) a15 k16 pre rv20 hg21
 refine Oc [1] ca106 hc22 ?_
 rintro c19 he23
 unfold i64ok at he23
 refine Jo 0 ?_; rintro a24 k25 rfl
 refine Fb 8 0 fun hl26 => ?_
 refine Ost (Scl [3] sh42 [vi rv20.Width, vl a24 k25 rv20.Words]) (Oq Va (KS ?_))
 refine Jl [1] (Ent.freeze _ _) ?_
 have hq := q4 hrr (rv20, true) (by simp only [solver_Answer, h9, h12, hg21, cs4]); subst hq
 exact Kr (vl a24 k25 rv20.Words) rfl (.cellN 1 rfl sh42 rfl (reads_Cl _ _) rfl (.tmp rfl .nil)) [0] en
theorem fn96 (width : Int) (hwidth_0 : i64ok width) (hw0 : 0 ≤ width ∧ width ≤ 1000000) (rr : GTransfer) (hrr : flqref1_Identity width = rr) : FT Tryz.prog 96 #[vi width] [] (fun g : Value × Value × Value => i64ok rr.Gen.Width ∧ i64ok rr.Kill.Width) (fun g => .agg #[vi rr.Gen.Width, g.1, vi rr.Kill.Width, g.2.1, g.2.2]) (fun g => [sl g.1 rr.Gen.Words, sl g.2.1 rr.Kill.Words, sl g.2.2 rr.Copies]) := by
 refine FTi Tryz.func96 fun w0 M0 F0 => ?_
 unfold i64ok at hwidth_0
 refine KS ?_
 refine Oa (Al ze98 [vi 0, .slice none 0 0, vi 0, .slice none 0 0, .slice none 0 0]) fun p1 => KS ?_
 refine Oq Vm ?_
 refine letv (flqref1_Empty width) fun rv3 hg4 => ?_
 have hc5 := fn67 width pre pre rv3 hg4
 refine Oc [] ca67 hc5 ?_
 rintro c2 ⟨he6, he7, he8⟩
 unfold i64ok at he6
 refine Jo 0 ?_; rintro a9 k10 rfl
 refine Fb 8 0 fun hl11 => ?_
 refine Oq Vm ?_
 have hc13 := fn67 width pre pre rv3 hg4
 refine Oc [] ca67 hc13 ?_
 rintro c12 ⟨he14, he15, he16⟩
 unfold i64ok at he14
 refine Jo 0 ?_; rintro a17 k18 rfl
 refine Oq (Vbd st98 [vi rv3.Width, vl a9 k10 rv3.Words, vi rv3.Width, vl a17 k18 rv3.Words, .slice none 0 0]) (Ost (Scl [2] sh98 [vi rv3.Width, vl a9 k10 rv3.Words, vi rv3.Width, vl a17 k18 rv3.Words, .slice none 0 0]) (KS ?_))
 refine Jl [2] (Ent.freeze _ _) ?_
 refine Jl [2] (Ent.freeze _ _) ?_
 refine Jl [] (Ent.slNil (α := GCopy)) ?_
 have hq := q4 hrr (GTransfer.mk rv3 rv3 []) (by simp only [flqref1_Identity, hg4, cs4]); subst hq
 exact Kr (vl a9 k10 rv3.Words, vl a17 k18 rv3.Words, .slice none 0 0) rfl (.cellN 3 rfl sh98 rfl (reads_Cl _ _) rfl .nil) [2, 1, 0] en
theorem fn97 (width : Int) (hwidth_0 : i64ok width) (hw0 : 0 ≤ width ∧ width ≤ 1000) (rr : GSet) (hrr : flqref1_Full width = rr) : FT Tryz.prog 97 #[vi width] [] (fun g : Value => i64ok rr.Width) (fun g => .agg #[vi rr.Width, g]) (fun g => [sl g rr.Words]) := by
 refine FTi Tryz.func97 fun w0 M0 F0 => ?_
 unfold i64ok at hwidth_0
 refine KS ?_
 refine Oa (Al ze42 [vi 0, .slice none 0 0]) fun p1 => KS ?_
 refine Oq Vm ?_
 refine letv (flqref1_Empty width) fun rv3 hg4 => ?_
 have hc5 := fn67 width pre pre rv3 hg4
 refine Oc [] ca67 hc5 ?_
 rintro c2 ⟨he6, he7, he8⟩
 unfold i64ok at he6
 refine Jo 0 ?_; rintro a9 k10 rfl
 refine Fb 8 0 fun hl11 => ?_
 refine Oa (Al ze42 [vi 0, .slice none 0 0]) fun p12 => Ost (Scl [0] sh42 [vi rv3.Width, vl a9 k10 rv3.Words]) (KS ?_)
 refine Oq Va (KS ?_)
 refine Kl (γ := Nat × Int × List (BitVec 64) × Int × Option Addr × Nat) (fun (r13, s0_14, s1_15, b_16, a17, k18) => ⟨[(0, vi width), (2, p1), (3, p12), (4, vi b_16)], [O a17 k18 s1_15, Cl p12 [vi s0_14, vl a17 k18 s1_15], Cl p1 [vi 0, .slice none 0 0]], flqref1_Full_L0 r13 s0_14 s1_15 b_16 = flqref1_Full_L0 (((width : Int) - 0).toNat) rv3.Width rv3.Words 0 ∧ r13 = ((width : Int) - b_16).toNat ∧ (0 : Int) ≤ b_16 ∧ (b_16 ≤ width ∨ b_16 = 0) ∧ (-9223372036854775808 ≤ s0_14 ∧ s0_14 ≤ 9223372036854775807) ∧ (-9223372036854775808 ≤ b_16 ∧ b_16 ≤ 9223372036854775807) ∧ s0_14 = width, r13⟩) (((width : Int) - 0).toNat, rv3.Width, rv3.Words, 0, a9, k10) [1, 0, 0] ⟨rfl, rfl, (by omega), (.inr rfl), (by omega), (by omega), iv0⟩ ?_
 rintro ⟨r13, s0_14, s1_15, b_16, a17, k18⟩ ⟨hM19, hr20, hi21, hi22, hk23, hk24, hv25⟩
 refine JJ_nx fun _ _ hL hA => ?_; dsimp only at hL hA; subst hL hA
 refine Fb 8 0 fun hl26 => ?_
 refine KS ?_
 refine Oq Vm (Oq Vm (Oq Vlss (KS ?_)))
 refine Kc ?_ ?_
 · intro h27
   have g28 := of_decide_eq_true h27
   obtain ⟨r29, rfl⟩ := scc (n := r13) (by omega)
   refine KS ?_
   refine Oq (VldA sh42 1) (Oq Vm ?_)
   refine letv (flqref1_Put (GSet.mk s0_14 s1_15) b_16) fun rv31 hg32 => ?_
   refine Oc [0] ca79 (FT_borrow (A := _) hlx (FT_ent (Ent.take (is := [0]) rfl) (fn79 ((GSet.mk s0_14 s1_15)) a17 k18 b_16 pre pre pre pre rv31 hg32))) ?_ (ht := rfl)
   rintro c30 ⟨he33, he34, he35⟩
   unfold i64ok at he33
   have he34 : (rv31.Width = s0_14) := he34
   have he35 : (rv31.Words.length = ((s0_14 + 63) / 64).toNat) := he35
   refine Jo 1 ?_; rintro a36 k37 rfl
   refine Fb 8 1 fun hl38 => ?_
   refine Ost (Scl [2] sh42 [vi rv31.Width, vl a36 k37 rv31.Words]) (KS ?_)
   refine Oq Vm (Oq Vadd (Oq Va (KS ?_)))
   exact Kg (r29, rv31.Width, rv31.Words, (b_16 + 1), a36, k37) [2, 0, 1] ⟨(q3 hM19 (by simp only [flqref1_Full_L0, h27, hg4, hg32, cs4])), (by omega), (by omega), (by omega), (by omega), (by omega), iv1⟩
 intro h27
 have g39 := of_decide_eq_false h27
 obtain rfl : r13 = 0 := by omega
 refine Ke ?_
 have hR40 := q2 hM19 (s0_14, s1_15) (by simp only [flqref1_Full_L0, h27, hg4, cs4])
 refine KS ?_
 refine Oq (VldA sh42 1) (Ost (Scl [2] sh42 [vi s0_14, vl a17 k18 s1_15]) (KS ?_))
 refine Jl [1] (Ent.freeze _ _) ?_
 have hq := q4 hrr (GSet.mk s0_14 s1_15) (by simp only [flqref1_Full, h27, hg4, hR40, cs4]); subst hq
 exact Kr (vl a17 k18 s1_15) rfl (.cellN 1 rfl sh42 rfl (reads_Cl _ _) rfl .nil) [0] en
theorem fn37  (rr : Bool) (hrr : flqlaw15_sane = rr) : FT Tryz.prog 37 #[] [] (fun g : Unit => True) (fun g => vb rr) (fun g => []) := by
 refine FTi Tryz.func37 fun w0 M0 F0 => ?_
 refine KS ?_
 refine Oq Va (KS ?_)
 refine Oa (AsV sl23 sz23 [.slice none 0 0] [.slice none 0 0]) fun c1 => ?_
 refine Jo 0 ?_; rintro a2 k3 rfl
 refine letv (flqref1_Identity 1) fun rv7 hg8 => ?_
 have hc9 := fn96 1 pre pre rv7 hg8
 refine Oc [] ca96 hc9 ?_
 rintro ⟨c4, c5, c6⟩ ⟨he10, he11⟩
 unfold i64ok at he10 he11
 refine Jo 0 ?_; rintro a12 k13 rfl
 refine Fb 8 0 fun hl14 => ?_
 refine Jo 1 ?_; rintro a15 k16 rfl
 refine Fb 8 1 fun hl17 => ?_
 refine Jo 2 ?_; rintro a18 k19 rfl
 refine Fb 16 2 fun hl20 => ?_
 refine Oa (AsV sl24 sz24 [.agg #[vi rv7.Gen.Width, vl a12 k13 rv7.Gen.Words, vi rv7.Kill.Width, vl a15 k16 rv7.Kill.Words, vl a18 k19 rv7.Copies]] [vi rv7.Gen.Width, vl a12 k13 rv7.Gen.Words, vi rv7.Kill.Width, vl a15 k16 rv7.Kill.Words, vl a18 k19 rv7.Copies]) fun c21 => ?_
 refine Jo 0 ?_; rintro a22 k23 rfl
 refine letv (flqref1_Full 1) fun rv25 hg26 => ?_
 have hc27 := fn97 1 pre pre rv25 hg26
 refine Oc [] ca97 hc27 ?_
 rintro c24 he28
 unfold i64ok at he28
 refine Jo 0 ?_; rintro a29 k30 rfl
 refine Fb 8 0 fun hl31 => ?_
 refine Oa (AsV sl25 sz25 [.agg #[vi rv25.Width, vl a29 k30 rv25.Words]] [vi rv25.Width, vl a29 k30 rv25.Words]) fun c32 => ?_
 refine Jo 0 ?_; rintro a33 k34 rfl
 refine Oq (Vbd st27 [vi 1, .slice a2 1 k3, .slice a22 1 k23, .slice a33 1 k34]) (Oa (Al ze27 [vi 0, .slice none 0 0, .slice none 0 0, .slice none 0 0]) fun p35 => Ost (Scl [0] sh27 [vi 1, .slice a2 1 k3, .slice a22 1 k23, .slice a33 1 k34]) (KS ?_))
 refine JK_drawK [0, 0, 3, 7, 15, 15, 15, 0, 159, 447, 1023] fmix ?_
 refine Dv [0] (VldA sh27 0) ?_
 refine letv (solver_Start 0) fun rv40 hg41 => ?_
 refine Dx [] [] [0, 1, 2, 3, 4] (fun G => .agg #[vi rv40.Phase, (G.g 1 0), (G.g 1 1), vi rv40.At, vi rv40.Edge, (G.g 1 2), (G.g 1 3), vi rv40.Steps]) [fun G => SP.fact (i64ok rv40.Phase ∧ i64ok rv40.At ∧ i64ok rv40.Edge ∧ i64ok rv40.Steps), fun G => sl (G.g 1 0) rv40.Cone, fun G => sl (G.g 1 1) rv40.Leaf, fun G => sl (G.g 1 2) rv40.Values, fun G => sl (G.g 1 3) rv40.Queue] (fun G => xC [] ca38 (fn38 0 pre rv40 hg41)) ?_
 refine letv (solver_Step (GSystem.mk 1 [([] : List Int)] [rv7] [rv25]) [] rv40) fun rv58 hg59 => ?_
 refine Dx [1, 2, 3, 4, 5, 6, 7, 8, 9, 10, 11, 12] [1, 3, 7] [7, 9, 10, 11, 17, 18, 19, 20, 21, 12, 8, 6, 5, 0, 1, 2, 3, 4] (fun G => .tuple #[.agg #[vi rv58.1.Phase, (G.g 2 0), (G.g 2 1), vi rv58.1.At, vi rv58.1.Edge, (G.g 2 2), (G.g 2 3), vi rv58.1.Steps], vi rv58.2.1, vi rv58.2.2]) [fun G => sl (.slice a2 1 k3) ([([] : List Int)] : List (List Int)), fun G => sl (.slice a22 1 k23) ([rv7] : List GTransfer), fun G => sl (.slice a33 1 k34) ([rv25] : List GSet), fun G => sl (.slice none 0 0) ([] : List GKnown), fun G => SP.fact (i64ok rv58.1.Phase ∧ i64ok rv58.1.At ∧ i64ok rv58.1.Edge ∧ i64ok rv58.1.Steps ∧ i64ok rv58.2.1 ∧ i64ok rv58.2.2), fun G => sl (G.g 2 0) rv58.1.Cone, fun G => sl (G.g 2 1) rv58.1.Leaf, fun G => sl (G.g 2 2) rv58.1.Values, fun G => sl (G.g 2 3) rv58.1.Queue] (fun G => by refine xf 7 rfl ?_; rintro ⟨he60, he61, he62, he63⟩; unfold i64ok at he60 he61 he62 he63; exact xp [6] rfl (Ent.cr1 (α := List Int) (A := []) _ [] _ (Nat.le_of_ble_eq_true rfl) (fun _ => ⟨_, rfl, slrd_nil⟩)) (xp [0] rfl (Ent.freeze _ _) (xp [3, 3, 4, 5] rfl (Ent.cr1 (α := GTransfer) (A := [S a12 k13 rv7.Gen.Words, S a15 k16 rv7.Kill.Words, S a18 k19 rv7.Copies]) _ rv7 _ (Nat.le_of_ble_eq_true rfl) (fun h => ⟨_, _, _, rfl, (by unfold i64ok; first | omega | (dsimp only; omega)), sepAll_get (i := 0) rfl h, (by unfold i64ok; first | omega | (dsimp only; omega)), sepAll_get (i := 1) rfl h, sepAll_get (i := 2) rfl h⟩)) (xp [0] rfl (Ent.freeze _ _) (xp [5, 5] rfl (Ent.cr1 (α := GSet) (A := [S a29 k30 rv25.Words]) _ rv25 _ (Nat.le_of_ble_eq_true rfl) (fun h => ⟨_, rfl, (by unfold i64ok; first | omega | (dsimp only; omega)), sepAll_get (i := 0) rfl h⟩)) (xp [0] rfl (Ent.freeze _ _) (xp [] rfl (Ent.slNil (α := GKnown)) (xD [16, 15, 14, 13, 7, 3, 1, 0] ca41 rfl rfl rfl (FT_open (γ := Value × Value × Value × Value) (I := fun g => i64ok rv58.1.Phase ∧ i64ok rv58.1.At ∧ i64ok rv58.1.Edge ∧ i64ok rv58.1.Steps ∧ i64ok rv58.2.1 ∧ i64ok rv58.2.2) (V := fun g => .tuple #[.agg #[vi rv58.1.Phase, g.1, g.2.1, vi rv58.1.At, vi rv58.1.Edge, g.2.2.1, g.2.2.2, vi rv58.1.Steps], vi rv58.2.1, vi rv58.2.2]) (B := fun g => [sl g.1 rv58.1.Cone, sl g.2.1 rv58.1.Leaf, sl g.2.2.1 rv58.1.Values, sl g.2.2.2 rv58.1.Queue]) (R := sl (G.g 1 3) rv40.Queue) sl_slice (fun aq51 kq52 eq53 => by rw [eq53]; exact FT_ent (Ent.take (is := [1, 2, 3, 4, 5, 6, 7, 0]) rfl) (FT_open (γ := Value × Value × Value × Value) (I := fun g => i64ok rv58.1.Phase ∧ i64ok rv58.1.At ∧ i64ok rv58.1.Edge ∧ i64ok rv58.1.Steps ∧ i64ok rv58.2.1 ∧ i64ok rv58.2.2) (V := fun g => .tuple #[.agg #[vi rv58.1.Phase, g.1, g.2.1, vi rv58.1.At, vi rv58.1.Edge, g.2.2.1, g.2.2.2, vi rv58.1.Steps], vi rv58.2.1, vi rv58.2.2]) (B := fun g => [sl g.1 rv58.1.Cone, sl g.2.1 rv58.1.Leaf, sl g.2.2.1 rv58.1.Values, sl g.2.2.2 rv58.1.Queue]) (R := sl (G.g 1 2) rv40.Values) sl_slice (fun aq48 kq49 eq50 => by rw [eq50]; exact FT_ent (Ent.take (is := [1, 2, 3, 4, 5, 6, 0, 7]) rfl) (FT_open (γ := Value × Value × Value × Value) (I := fun g => i64ok rv58.1.Phase ∧ i64ok rv58.1.At ∧ i64ok rv58.1.Edge ∧ i64ok rv58.1.Steps ∧ i64ok rv58.2.1 ∧ i64ok rv58.2.2) (V := fun g => .tuple #[.agg #[vi rv58.1.Phase, g.1, g.2.1, vi rv58.1.At, vi rv58.1.Edge, g.2.2.1, g.2.2.2, vi rv58.1.Steps], vi rv58.2.1, vi rv58.2.2]) (B := fun g => [sl g.1 rv58.1.Cone, sl g.2.1 rv58.1.Leaf, sl g.2.2.1 rv58.1.Values, sl g.2.2.2 rv58.1.Queue]) (R := sl (G.g 1 1) rv40.Leaf) sl_slice (fun aq45 kq46 eq47 => by rw [eq47]; exact FT_ent (Ent.take (is := [1, 2, 3, 4, 5, 0, 6, 7]) rfl) (FT_open (γ := Value × Value × Value × Value) (I := fun g => i64ok rv58.1.Phase ∧ i64ok rv58.1.At ∧ i64ok rv58.1.Edge ∧ i64ok rv58.1.Steps ∧ i64ok rv58.2.1 ∧ i64ok rv58.2.2) (V := fun g => .tuple #[.agg #[vi rv58.1.Phase, g.1, g.2.1, vi rv58.1.At, vi rv58.1.Edge, g.2.2.1, g.2.2.2, vi rv58.1.Steps], vi rv58.2.1, vi rv58.2.2]) (B := fun g => [sl g.1 rv58.1.Cone, sl g.2.1 rv58.1.Leaf, sl g.2.2.1 rv58.1.Values, sl g.2.2.2 rv58.1.Queue]) (R := sl (G.g 1 0) rv40.Cone) sl_slice (fun aq42 kq43 eq44 => by rw [eq44]; exact FT_ent (Ent.take (is := [1, 2, 3, 4, 0, 5, 6, 7]) rfl) (fn41 ((GSystem.mk 1 [([] : List Int)] [rv7] [rv25])) a2 k3 a22 k23 a33 k34 ([]) none 0 rv40 aq42 kq43 aq45 kq46 aq48 kq49 aq51 kq52 pre pre pre pre pre rv58 hg59))))))))))))))))) (Dg [] (fun G => .tuple #[.agg #[vi rv58.1.Phase, (G.g 2 0), (G.g 2 1), vi rv58.1.At, vi rv58.1.Edge, (G.g 2 2), (G.g 2 3), vi rv58.1.Steps], vi rv58.2.1, vi rv58.2.2]) (fun G => Vm) (Dg [] (fun G => .agg #[vi rv58.1.Phase, (G.g 2 0), (G.g 2 1), vi rv58.1.At, vi rv58.1.Edge, (G.g 2 2), (G.g 2 3), vi rv58.1.Steps]) (fun G => Vx) (Dv [] Vx (Dv [] Vx (Dx [] [] [0] (fun G => (G.g 7 0)) [fun G => Cl (G.g 7 0) [vi 0, .slice none 0 0, .slice none 0 0, vi 0, vi 0, .slice none 0 0, .slice none 0 0, vi 0]] (fun G => xA (Al ze59 [vi 0, .slice none 0 0, .slice none 0 0, vi 0, vi 0, .slice none 0 0, .slice none 0 0, vi 0])) (Dx0 [18, 19, 20, 21, 22] [22] [1, 2, 3, 4, 0] [fun G => Cl (G.g 7 0) [vi rv58.1.Phase, (G.g 2 0), (G.g 2 1), vi rv58.1.At, vi rv58.1.Edge, (G.g 2 2), (G.g 2 3), vi rv58.1.Steps]] (fun G => x1 0 rfl sl_one fun ho65 => (x1 1 rfl sl_one fun ho66 => (x1 2 rfl sl_one fun ho67 => (x1 3 rfl sl_one fun ho68 => (xS (Scl [4] sh59 [vi rv58.1.Phase, (G.g 2 0), (G.g 2 1), vi rv58.1.At, vi rv58.1.Edge, (G.g 2 2), (G.g 2 3), vi rv58.1.Steps] (v := .agg #[vi rv58.1.Phase, (G.g 2 0), (G.g 2 1), vi rv58.1.At, vi rv58.1.Edge, (G.g 2 2), (G.g 2 3), vi rv58.1.Steps]) (h1 := show [vi rv58.1.Phase, (G.g 2 0), (G.g 2 1), vi rv58.1.At, vi rv58.1.Edge, (G.g 2 2), (G.g 2 3), vi rv58.1.Steps].all (·.oneCell') = true from (by simp only [List.all_cons, List.all_nil, ho65, ho66, ho67, ho68, Bool.and_true, Bool.true_and] <;> rfl)))))))) (Dv [] Va (Dv [] Va ?_))))))))
 refine Dn ⟨by kernel_rfl, fun G => ?_⟩
 refine Jw2 [(1, p35), (2, (G.g 7 0)), (3, vi rv58.2.1), (4, vi rv58.2.2)] [0, 2, 4, 5, 6] [SP.fact (i64ok rv40.Phase ∧ i64ok rv40.At ∧ i64ok rv40.Edge ∧ i64ok rv40.Steps), sl (G.g 1 0) rv40.Cone, sl (G.g 1 1) rv40.Leaf, sl (G.g 1 2) rv40.Values, sl (G.g 1 3) rv40.Queue, sl (.slice a2 1 k3) ([([] : List Int)] : List (List Int)), sl (.slice a22 1 k23) ([rv7] : List GTransfer), sl (.slice a33 1 k34) ([rv25] : List GSet), sl (.slice none 0 0) ([] : List GKnown), SP.fact (i64ok rv58.1.Phase ∧ i64ok rv58.1.At ∧ i64ok rv58.1.Edge ∧ i64ok rv58.1.Steps ∧ i64ok rv58.2.1 ∧ i64ok rv58.2.2), sl (G.g 2 0) rv58.1.Cone, sl (G.g 2 1) rv58.1.Leaf, sl (G.g 2 2) rv58.1.Values, sl (G.g 2 3) rv58.1.Queue, Cl (G.g 7 0) [vi rv58.1.Phase, (G.g 2 0), (G.g 2 1), vi rv58.1.At, vi rv58.1.Edge, (G.g 2 2), (G.g 2 3), vi rv58.1.Steps]] ?_
 generalize G.g 1 0 = c36, G.g 1 1 = c37, G.g 1 2 = c38, G.g 1 3 = c39, G.g 2 0 = c54, G.g 2 1 = c55, G.g 2 2 = c56, G.g 2 3 = c57, G.g 7 0 = p64
 refine Jf 5 rfl ?_; rintro ⟨he69, he70, he71, he72⟩
 unfold i64ok at he69 he70 he71 he72
 refine Jf 14 rfl ?_; rintro ⟨he73, he74, he75, he76, he77, he78⟩
 unfold i64ok at he73 he74 he75 he76 he77 he78
 refine Jk [0, 0, 1, 2, 3, 5, 6, 7, 8, 9, 10, 11, 12, 14, 15, 16, 17, 18] ?_
 refine Jo 5 ?_; rintro a79 k80 rfl
 refine Fb 8 5 fun hl81 => ?_
 refine Fo 5 fun ho82 => ?_
 refine Jo 6 ?_; rintro a83 k84 rfl
 refine Fb 1 6 fun hl85 => ?_
 refine Jo 7 ?_; rintro a86 k87 rfl
 refine Fb 32 7 fun hl88 => ?_
 refine Jo 8 ?_; rintro a89 k90 rfl
 refine Fb 8 8 fun hl91 => ?_
 refine Fo 8 fun ho92 => ?_
 refine Jo 13 ?_; rintro a93 k94 rfl
 refine Fb 8 13 fun hl95 => ?_
 refine Fo 13 fun ho96 => ?_
 refine Jo 14 ?_; rintro a97 k98 rfl
 refine Fb 1 14 fun hl99 => ?_
 refine Jo 15 ?_; rintro a100 k101 rfl
 refine Fb 32 15 fun hl102 => ?_
 refine Jo 16 ?_; rintro a103 k104 rfl
 refine Fb 8 16 fun hl105 => ?_
 refine Fo 16 fun ho106 => ?_
 refine KS ?_
 refine Oq (VldA sh27 0) (Oq (VldA sh59 17) ?_)
 refine Fl 9 fun hn107 => ?_; try unfold vl; rw [← hn107]
 refine Fl 10 fun hn108 => ?_; try unfold vl; rw [← hn108]
 refine Fl 11 fun hn109 => ?_; try unfold vl; rw [← hn109]
 refine letv (solver_Step (GSystem.mk 1 [([] : List Int)] [rv7] [rv25]) [] rv58.1) fun rv114 hg115 => ?_
 have hc116 := fn41 ((GSystem.mk 1 [([] : List Int)] [rv7] [rv25])) a2 k3 a22 k23 a33 k34 ([]) none 0 rv58.1 a93 k94 a97 k98 a100 k101 a103 k104 pre pre pre pre pre rv114 hg115
 refine Oc [9, 10, 11, 12, 13, 14, 15, 16] ca41 hc116 ?_
 rintro ⟨c110, c111, c112, c113⟩ ⟨he117, he118, he119, he120, he121, he122⟩
 unfold i64ok at he117 he118 he119 he120 he121 he122
 refine Jo 0 ?_; rintro a123 k124 rfl
 refine Fb 8 0 fun hl125 => ?_
 refine Fo 0 fun ho126 => ?_
 refine Jo 1 ?_; rintro a127 k128 rfl
 refine Fb 1 1 fun hl129 => ?_
 refine Jo 2 ?_; rintro a130 k131 rfl
 refine Fb 32 2 fun hl132 => ?_
 refine Jo 3 ?_; rintro a133 k134 rfl
 refine Fb 8 3 fun hl135 => ?_
 refine Fo 3 fun ho136 => ?_
 refine Oq Vm (Oq Vx (Oq Vx (Oq Vx (Oa (Al ze59 [vi 0, .slice none 0 0, .slice none 0 0, vi 0, vi 0, .slice none 0 0, .slice none 0 0, vi 0]) fun p137 => Ost (Scl [0] sh59 [vi rv114.1.Phase, vl a123 k124 rv114.1.Cone, vl a127 k128 rv114.1.Leaf, vi rv114.1.At, vi rv114.1.Edge, vl a130 k131 rv114.1.Values, vl a133 k134 rv114.1.Queue, vi rv114.1.Steps]) (Oq Va (Oq Va (KS ?_)))))))
 refine Oq (VldA sh59 0) ?_
 refine letv (solver_Answer rv114.1) fun rv139 hg140 => ?_
 have hc141 := fn44 rv114.1 a123 k124 a127 k128 a130 k131 a133 k134 pre pre pre pre rv139 hg140
 refine Oc [1, 2, 3, 4] ca44 hc141 ?_
 rintro c138 he142
 unfold i64ok at he142
 refine Jo 0 ?_; rintro a143 k144 rfl
 refine Fb 8 0 fun hl145 => ?_
 refine Oq Vm (Oq Vx (Oq Vx (Oa (Al ze42 [vi 0, .slice none 0 0]) fun p146 => Ost (Scl [0] sh42 [vi rv139.1.Width, vl a143 k144 rv139.1.Words]) (Oq Va (KS ?_)))))
 refine Oq (VldA sh27 7) (Oq (VldA sh59 2) ?_)
 refine letv (solver_Step (GSystem.mk 1 [([] : List Int)] [rv7] [rv25]) [] rv114.1) fun rv151 hg152 => ?_
 have hc153 := fn41 ((GSystem.mk 1 [([] : List Int)] [rv7] [rv25])) a2 k3 a22 k23 a33 k34 ([]) none 0 rv114.1 a123 k124 a127 k128 a130 k131 a133 k134 pre pre pre pre pre rv151 hg152
 refine Oc [16, 17, 18, 19, 3, 4, 5, 6] ca41 hc153 ?_
 rintro ⟨c147, c148, c149, c150⟩ ⟨he154, he155, he156, he157, he158, he159⟩
 unfold i64ok at he154 he155 he156 he157 he158 he159
 refine Jo 0 ?_; rintro a160 k161 rfl
 refine Fb 8 0 fun hl162 => ?_
 refine Fo 0 fun ho163 => ?_
 refine Jo 1 ?_; rintro a164 k165 rfl
 refine Fb 1 1 fun hl166 => ?_
 refine Jo 2 ?_; rintro a167 k168 rfl
 refine Fb 32 2 fun hl169 => ?_
 refine Jo 3 ?_; rintro a170 k171 rfl
 refine Fb 8 3 fun hl172 => ?_
 refine Fo 3 fun ho173 => ?_
 refine Oq Vm (Oq Vx (Oq Vx (Oq Vx (Oa (Al ze59 [vi 0, .slice none 0 0, .slice none 0 0, vi 0, vi 0, .slice none 0 0, .slice none 0 0, vi 0]) fun p174 => Ost (Scl [0] sh59 [vi rv151.1.Phase, vl a160 k161 rv151.1.Cone, vl a164 k165 rv151.1.Leaf, vi rv151.1.At, vi rv151.1.Edge, vl a167 k168 rv151.1.Values, vl a170 k171 rv151.1.Queue, vi rv151.1.Steps]) (Oq Va (Oq Va (KS ?_)))))))
 refine Jp 29 fun hp175 => ?_
 refine Jp 8 fun hp176 => ?_
 refine JK_drawK [0, 1, 3, 7, 15, 31, 63, 127, 255, 511, 1023, 2047, 4095, 8191, 16383, 32767, 65535, 131071, 262143, 524287, 1048575, 2097151, 4194303, 8388607, 16777215, 33554431, 67108863, 134217727, 268435455, 268435455, 1073741823, 2147483647, 4294967295, 8589934591, 17179869183, 34359738367, 68719476735] fmix ?_
 refine Dv [] Vm (Dv [] Veql ?_)
 refine bool_split (rv58.2.2 == 0) ?_ ?_
 · intro h177
   have g178 := eq_of_beq h177
   refine Db h177 [] Vm (Dv [] Vm (Dv [] Veql (Dv [] Vpt ?_)))
   refine bool_split (rv114.2.2 == 0) ?_ ?_
   · intro h179
     have g180 := eq_of_beq h179
     refine Db h179 [] Vm (Dv [] Vm (Dv [] Veql (Dv [] Vpt ?_)))
     refine bool_split (rv58.2.1 == 1) ?_ ?_
     · intro h181
       have g182 := eq_of_beq h181
       refine Db h181 [] Vm (Dv [] Vm (Dv [] Veql (Dv [] Vpt ?_)))
       refine bool_split (rv114.2.1 == 1) ?_ ?_
       · intro h183
         have g184 := eq_of_beq h183
         refine Db h183 [] Vm (Dv [1] (Vfa fo59_0 0) (Dv [31] (VldF sh3 0) (Dv [] Veql (Dv [] Vpt ?_))))
         refine bool_split (rv58.1.Phase == 2) ?_ ?_
         · intro h185
           have g186 := eq_of_beq h185
           refine Db h185 [] Vm (Dv [0] (Vfa fo59_0 0) (Dv [9] (VldF sh3 0) (Dv [] Veql (Dv [] Vpt ?_))))
           refine bool_split (rv114.1.Phase == 3) ?_ ?_
           · intro h187
             have g188 := eq_of_beq h187
             refine Db h187 [] Vm (Dv [] Vm (Dv [] Vpt ?_))
             refine bool_split rv139.2 ?_ ?_
             · intro h189
               refine Db h189 [] Vm (Dv [7] (VldA sh42 0) (Dx [] [] [0, 1] (fun G => .agg #[vi rv25.Width, (G.g 29 0)]) [fun G => SP.fact (i64ok rv25.Width), fun G => sl (G.g 29 0) rv25.Words] (fun G => xC [] ca97 (fn97 1 pre pre rv25 hg26)) ?_))
               refine letv (flqref1_Same rv139.1 rv25) fun rv195 hg196 => ?_
               refine Dx [8, 32, 33] [] [1, 2, 3, 0] (fun G => vb rv195) [fun G => SP.fact (True)] (fun G => by refine xf 1 rfl ?_; rintro he197; unfold i64ok at he197; exact xD [2, 0] ca45 rfl rfl rfl (FT_open (γ := Unit) (I := fun g => True) (V := fun g => vb rv195) (B := fun g => []) (R := sl (G.g 29 0) rv25.Words) sl_slice (fun aq192 kq193 eq194 => by rw [eq194]; exact FT_ent (Ent.take (is := [1, 0]) rfl) (fn45 rv139.1 a143 k144 rv25 aq192 kq193 pre pre rv195 hg196)))) (Dv [] Vpt ?_)
               refine bool_split rv195 ?_ ?_
               · intro h198
                 refine Db h198 [] Vm (Dv [] Vm (Dv [] Veql (Dv [] Vpt (Dv [] Va ?_))))
                 refine Dn ⟨by kernel_rfl, fun G => ?_⟩
                 refine Jw2 [(0, vb (rv151.2.2 == 10))] [0, 1, 2, 3, 4, 5, 6, 7, 8, 9, 10, 11, 12, 13, 14, 15, 16, 17, 18, 19, 20, 21, 22, 23, 24, 25, 26, 27, 28, 29, 30, 31] [SP.fact (i64ok rv25.Width), sl (G.g 29 0) rv25.Words, SP.fact (True)] ?_
                 generalize G.g 29 0 = c191
                 refine Jf 32 rfl ?_; rintro he200
                 unfold i64ok at he200
                 refine Jk [2, 2, 3, 4, 5, 6, 6, 7, 7, 8, 9, 10, 11, 11, 12, 13, 14, 15, 16, 17, 18, 19, 20, 21, 22, 23, 24, 25, 26, 27, 28] ?_
                 refine Jo 30 ?_; rintro a201 k202 rfl
                 have hq := q4 hrr (rv151.2.2 == 10) (by simp only [flqlaw15_sane, h177, h179, h181, h183, h185, h187, h189, h198, hg8, hg26, hg41, hg59, hg115, hg140, hg152, hg196, cs4]); subst hq
                 exact Kr () rfl (.tmp rfl .nil) [] trivial
               intro h198
               refine Db h198 [] Vm (Ds (Ds (Dv [] Vpf (Dv [] Va ?_))))
               refine Dn ⟨by kernel_rfl, fun G => ?_⟩
               refine Jw2 [(0, vb false)] [0, 1, 2, 3, 4, 5, 6, 7, 8, 9, 10, 11, 12, 13, 14, 15, 16, 17, 18, 19, 20, 21, 22, 23, 24, 25, 26, 27, 28, 29, 30, 31] [SP.fact (i64ok rv25.Width), sl (G.g 29 0) rv25.Words, SP.fact (True)] ?_
               generalize G.g 29 0 = c191
               refine Jf 32 rfl ?_; rintro he204
               unfold i64ok at he204
               refine Jk [2, 2, 3, 4, 5, 6, 6, 7, 7, 8, 9, 10, 11, 11, 12, 13, 14, 15, 16, 17, 18, 19, 20, 21, 22, 23, 24, 25, 26, 27, 28] ?_
               refine Jo 30 ?_; rintro a205 k206 rfl
               have hq := q4 hrr false (by simp only [flqlaw15_sane, h177, h179, h181, h183, h185, h187, h189, h198, hg8, hg26, hg41, hg59, hg115, hg140, hg152, hg196, cs4]); subst hq
               exact Kr () rfl (.tmp rfl .nil) [] trivial
             intro h189
             refine Db h189 [] Vm (Ds (Ds (Ds (Dv [] Vpf (Dv [] Vm (Ds (Ds (Dv [] Vpf (Dv [] Va ?_)))))))))
             refine Dn ⟨by kernel_rfl, fun G => ?_⟩
             refine Jw2 [(0, vb false)] [0, 1, 2, 3, 4, 5, 6, 7, 8, 9, 10, 11, 12, 13, 14, 15, 16, 17, 18, 19, 20, 21, 22, 23, 24, 25, 26, 27, 28, 29, 30, 31] [] ?_
             refine Jk [2, 2, 3, 4, 5, 6, 6, 7, 7, 8, 9, 10, 11, 11, 12, 13, 14, 15, 16, 17, 18, 19, 20, 21, 22, 23, 24, 25, 26, 27] ?_
             have hq := q4 hrr false (by simp only [flqlaw15_sane, h177, h179, h181, h183, h185, h187, h189, hg8, hg26, hg41, hg59, hg115, hg140, hg152, cs4]); subst hq
             exact Kr () rfl (.tmp rfl .nil) [] trivial
           intro h187
           have g208 := ne_of_beq_false h187
           refine Db h187 [] Vm (Ds (Dv [] Vpf (Dv [] Vm (Ds (Ds (Ds (Dv [] Vpf (Dv [] Vm (Ds ?_)))))))))
           refine Ds (Dv [] Vpf (Dv [] Va ?_))
           refine Dn ⟨by kernel_rfl, fun G => ?_⟩
           refine Jw2 [(0, vb false)] [0, 1, 2, 3, 4, 5, 6, 7, 8, 9, 10, 11, 12, 13, 14, 15, 16, 17, 18, 19, 20, 21, 22, 23, 24, 25, 26, 27, 28, 29, 30, 31] [] ?_
           refine Jk [2, 2, 3, 4, 5, 6, 6, 7, 7, 8, 9, 10, 11, 11, 12, 13, 14, 15, 16, 17, 18, 19, 20, 21, 22, 23, 24, 25, 26, 27] ?_
           have hq := q4 hrr false (by simp only [flqlaw15_sane, h177, h179, h181, h183, h185, h187, hg8, hg26, hg41, hg59, hg115, hg140, hg152, cs4]); subst hq
           exact Kr () rfl (.tmp rfl .nil) [] trivial
         intro h185
         have g209 := ne_of_beq_false h185
         refine Db h185 [] Vm (Ds (Ds (Ds (Dv [] Vpf (Dv [] Vm (Ds (Dv [] Vpf (Dv [] Vm (Ds ?_)))))))))
         refine Ds (Ds (Dv [] Vpf (Dv [] Vm (Ds (Ds (Dv [] Vpf (Dv [] Va ?_)))))))
         refine Dn ⟨by kernel_rfl, fun G => ?_⟩
         refine Jw2 [(0, vb false)] [0, 1, 2, 3, 4, 5, 6, 7, 8, 9, 10, 11, 12, 13, 14, 15, 16, 17, 18, 19, 20, 21, 22, 23, 24, 25, 26, 27, 28, 29, 30, 31] [] ?_
         refine Jk [2, 2, 3, 4, 5, 6, 6, 7, 7, 8, 9, 10, 11, 11, 12, 13, 14, 15, 16, 17, 18, 19, 20, 21, 22, 23, 24, 25, 26, 27] ?_
         have hq := q4 hrr false (by simp only [flqlaw15_sane, h177, h179, h181, h183, h185, hg8, hg26, hg41, hg59, hg115, hg140, hg152, cs4]); subst hq
         exact Kr () rfl (.tmp rfl .nil) [] trivial
       intro h183
       have g210 := ne_of_beq_false h183
       refine Db h183 [] Vm (Ds (Ds (Ds (Dv [] Vpf (Dv [] Vm (Ds (Ds (Ds (Dv [] Vpf ?_)))))))))
       refine Dv [] Vm (Ds (Dv [] Vpf (Dv [] Vm (Ds (Ds (Ds (Dv [] Vpf (Dv [] Vm (Ds ?_)))))))))
       refine Ds (Dv [] Vpf (Dv [] Va ?_))
       refine Dn ⟨by kernel_rfl, fun G => ?_⟩
       refine Jw2 [(0, vb false)] [0, 1, 2, 3, 4, 5, 6, 7, 8, 9, 10, 11, 12, 13, 14, 15, 16, 17, 18, 19, 20, 21, 22, 23, 24, 25, 26, 27, 28, 29, 30, 31] [] ?_
       refine Jk [2, 2, 3, 4, 5, 6, 6, 7, 7, 8, 9, 10, 11, 11, 12, 13, 14, 15, 16, 17, 18, 19, 20, 21, 22, 23, 24, 25, 26, 27] ?_
       have hq := q4 hrr false (by simp only [flqlaw15_sane, h177, h179, h181, h183, hg8, hg26, hg41, hg59, hg115, hg140, hg152, cs4]); subst hq
       exact Kr () rfl (.tmp rfl .nil) [] trivial
     intro h181
     have g211 := ne_of_beq_false h181
     refine Db h181 [] Vm (Ds (Ds (Dv [] Vpf (Dv [] Vm (Ds (Ds (Ds (Dv [] Vpf (Dv [] Vm ?_)))))))))
     refine Ds (Ds (Ds (Dv [] Vpf (Dv [] Vm (Ds (Dv [] Vpf (Dv [] Vm (Ds (Ds ?_)))))))))
     refine Ds (Dv [] Vpf (Dv [] Vm (Ds (Ds (Dv [] Vpf (Dv [] Va ?_))))))
     refine Dn ⟨by kernel_rfl, fun G => ?_⟩
     refine Jw2 [(0, vb false)] [0, 1, 2, 3, 4, 5, 6, 7, 8, 9, 10, 11, 12, 13, 14, 15, 16, 17, 18, 19, 20, 21, 22, 23, 24, 25, 26, 27, 28, 29, 30, 31] [] ?_
     refine Jk [2, 2, 3, 4, 5, 6, 6, 7, 7, 8, 9, 10, 11, 11, 12, 13, 14, 15, 16, 17, 18, 19, 20, 21, 22, 23, 24, 25, 26, 27] ?_
     have hq := q4 hrr false (by simp only [flqlaw15_sane, h177, h179, h181, hg8, hg26, hg41, hg59, hg115, hg140, hg152, cs4]); subst hq
     exact Kr () rfl (.tmp rfl .nil) [] trivial
   intro h179
   have g212 := ne_of_beq_false h179
   refine Db h179 [] Vm (Ds (Ds (Dv [] Vpf (Dv [] Vm (Ds (Ds (Dv [] Vpf (Dv [] Vm (Ds ?_)))))))))
   refine Ds (Ds (Dv [] Vpf (Dv [] Vm (Ds (Ds (Ds (Dv [] Vpf (Dv [] Vm (Ds ?_)))))))))
   refine Dv [] Vpf (Dv [] Vm (Ds (Ds (Ds (Dv [] Vpf (Dv [] Vm (Ds (Ds (Dv [] Vpf ?_)))))))))
   refine Dv [] Va ?_
   refine Dn ⟨by kernel_rfl, fun G => ?_⟩
   refine Jw2 [(0, vb false)] [0, 1, 2, 3, 4, 5, 6, 7, 8, 9, 10, 11, 12, 13, 14, 15, 16, 17, 18, 19, 20, 21, 22, 23, 24, 25, 26, 27, 28, 29, 30, 31] [] ?_
   refine Jk [2, 2, 3, 4, 5, 6, 6, 7, 7, 8, 9, 10, 11, 11, 12, 13, 14, 15, 16, 17, 18, 19, 20, 21, 22, 23, 24, 25, 26, 27] ?_
   have hq := q4 hrr false (by simp only [flqlaw15_sane, h177, h179, hg8, hg26, hg41, hg59, hg115, hg140, hg152, cs4]); subst hq
   exact Kr () rfl (.tmp rfl .nil) [] trivial
 intro h177
 have g213 := ne_of_beq_false h177
 refine Db h177 [] Vm (Ds (Ds (Dv [] Vpf (Dv [] Vm (Ds (Ds (Dv [] Vpf (Dv [] Vm (Ds ?_)))))))))
 refine Ds (Dv [] Vpf (Dv [] Vm (Ds (Ds (Ds (Dv [] Vpf (Dv [] Vm (Ds (Ds ?_)))))))))
 refine Ds (Dv [] Vpf (Dv [] Vm (Ds (Dv [] Vpf (Dv [] Vm (Ds (Ds (Ds (Dv [] Vpf ?_)))))))))
 refine Dv [] Vm (Ds (Ds (Dv [] Vpf (Dv [] Va ?_))))
 refine Dn ⟨by kernel_rfl, fun G => ?_⟩
 refine Jw2 [(0, vb false)] [0, 1, 2, 3, 4, 5, 6, 7, 8, 9, 10, 11, 12, 13, 14, 15, 16, 17, 18, 19, 20, 21, 22, 23, 24, 25, 26, 27, 28, 29, 30, 31] [] ?_
 refine Jk [2, 2, 3, 4, 5, 6, 6, 7, 7, 8, 9, 10, 11, 11, 12, 13, 14, 15, 16, 17, 18, 19, 20, 21, 22, 23, 24, 25, 26, 27] ?_
 have hq := q4 hrr false (by simp only [flqlaw15_sane, h177, hg8, hg26, hg41, hg59, hg115, hg140, hg152, cs4]); subst hq
 exact Kr () rfl (.tmp rfl .nil) [] trivial
theorem fn242 (width : Int) (hwidth_0 : i64ok width) (rr : GSet × Int) (hrr : bitset_Empty width = rr) : FT Tryz.prog 242 #[vi width] [] (fun g : Value => i64ok rr.1.Width ∧ i64ok rr.2) (fun g => .tuple #[.agg #[vi rr.1.Width, g], vi rr.2]) (fun g => [sl g rr.1.Words]) := by
 refine FTi Tryz.func242 fun w0 M0 F0 => ?_
 unfold i64ok at hwidth_0
 refine KS ?_
 refine Oa (Al ze42 [vi 0, .slice none 0 0]) fun p1 => Oq Va (KS ?_)
 refine Oq Vm ?_
 refine letv (bitset_ranged width) fun rv2 hg3 => ?_
 have hc4 := fn200 width pre rv2 hg3
 refine Oc [] ca200 hc4 ?_
 rintro - -
 refine Oq Vnot (KS ?_)
 refine Kc ?_ ?_
 · intro h5
   have h7 := not_true h5
   refine KS ?_
   refine Oq (Vbd st42 [vi 0, .slice none 0 0]) (Ost (Scl [0] sh42 [vi 0, .slice none 0 0]) (Oq Va (KS ?_)))
   refine Jl [] (Ent.slNil (α := BitVec 64)) ?_
   have hq := q4 hrr ((GSet.mk 0 []), 3) (by simp only [bitset_Empty, h5, h7, hg3, cs4]); subst hq
   exact Kr (.slice none 0 0) rfl (.cellN 1 rfl sh42 rfl (reads_Cl _ _) rfl (.tmp rfl .nil)) [0] en
 intro h5
 have h10 := not_false h5
 have hrg := ranged_iff (w := width) (by simp only [h5, h10, hg3])
 refine KS ?_
 refine Oq Vm (Oq Vm ?_)
 refine letv (bitset_words width) fun rv12 hg13 => ?_
 have hc14 := fn201 width pre pre rv12 hg13
 refine Oc [] ca201 hc14 ?_
 rintro - ⟨he15, he16⟩
 unfold i64ok at he15
 refine Oa (Amk (α := BitVec 64) sl40 sz40 0#64 (fun _ _ => rfl)) fun c17 => ?_
 refine Jo 0 ?_; rintro a18 k19 rfl
 refine Fb 8 0 fun hl20 => ?_
 have hn21 := List.length_replicate (n := rv12.toNat) (a := 0#64)
 refine Oq (Vbd st42 [vi width, vl a18 k19 (List.replicate rv12.toNat 0#64)]) (Ost (Scl [1] sh42 [vi width, vl a18 k19 (List.replicate rv12.toNat 0#64)]) (Oq Va (KS ?_)))
 refine Jl [1] (Ent.freeze _ _) ?_
 have hq := q4 hrr ((GSet.mk width (List.replicate rv12.toNat 0#64)), 0) (by simp only [bitset_Empty, h5, h10, hg3, hg13, cs4]); subst hq
 exact Kr (vl a18 k19 (List.replicate rv12.toNat 0#64)) rfl (.cellN 1 rfl sh42 rfl (reads_Cl _ _) rfl (.tmp rfl .nil)) [0] en
theorem fn191 (width : Int) (n : Int) (hwidth_0 : i64ok width) (hn_0 : i64ok n) (hn0 : 0 ≤ n ∧ n ≤ 256 ∧ 0 ≤ width ∧ width ≤ 256) (rr : List GSet) (hrr : fixpoint_empty width n = rr) : FT Tryz.prog 191 #[vi width, vi n] [] (fun g : Value => True) (fun g => g) (fun g => [sl g rr]) := by
 refine FTi Tryz.func191 fun w0 M0 F0 => ?_
 unfold i64ok at hwidth_0 hn_0
 refine KS ?_
 refine Oq Va (KS ?_)
 refine Oq Vm (Oa (Amk (α := GSet) sl25 sz25 (default : GSet) zrd_GSet) fun c1 => ?_)
 refine Jo 0 ?_; rintro a2 k3 rfl
 refine Fb 32 0 fun hl4 => ?_
 have hn5 := List.length_replicate (n := n.toNat) (a := (default : GSet))
 refine Oq Va (KS ?_)
 refine Oq Vm (Oq (Vlen sl25) (Oq Vm (KS ?_)))
 refine Kl (γ := Nat × List GSet × Int) (fun (r6, out_7, v11_8) => ⟨[(0, vi width), (5, vl a2 k3 (List.replicate n.toNat (default : GSet))), (10, vi ((List.replicate n.toNat (default : GSet)).length : Int)), (11, vi v11_8)], [os (vl a2 k3 (List.replicate n.toNat (default : GSet))) out_7], fixpoint_empty_L0 width r6 out_7 v11_8 = fixpoint_empty_L0 width (((((List.replicate n.toNat (default : GSet)).length : Int) : Int) - 0).toNat) (List.replicate n.toNat (default : GSet)) 0 ∧ r6 = ((((List.replicate n.toNat (default : GSet)).length : Int) : Int) - v11_8).toNat ∧ (0 : Int) ≤ v11_8 ∧ (v11_8 ≤ ((List.replicate n.toNat (default : GSet)).length : Int) ∨ v11_8 = 0) ∧ (-9223372036854775808 ≤ v11_8 ∧ v11_8 ≤ 9223372036854775807) ∧ (out_7.length : Int) = n, r6⟩) (((((List.replicate n.toNat (default : GSet)).length : Int) : Int) - 0).toNat, (List.replicate n.toNat (default : GSet)), 0) [0] ⟨rfl, rfl, (by omega), (.inr rfl), (by omega), iv0⟩ ?_
 rintro ⟨r6, out_7, v11_8⟩ ⟨hM9, hr10, hi11, hi12, hk13, hv14⟩
 refine JJ_nx fun _ _ hL hA => ?_; dsimp only at hL hA; subst hL hA
 refine Fb 32 0 fun hl15 => ?_
 refine Fl 0 fun hn16 => ?_
 refine KS ?_
 refine Oq Vlss (KS ?_)
 refine Kc ?_ ?_
 · intro h17
   have g18 := of_decide_eq_true h17
   obtain ⟨r19, rfl⟩ := scc (n := r6) (by omega)
   refine KS ?_
   refine Oq Vm (Oq Va (KS ?_))
   refine Oq Vm (Oq Vm (Oq Vm ?_))
   refine letv (bitset_Empty width) fun rv21 hg22 => ?_
   have hc23 := fn242 width pre rv21 hg22
   refine Oc [] ca242 hc23 ?_
   rintro c20 ⟨he24, he25⟩
   unfold i64ok at he24 he25
   refine Jo 0 ?_; rintro a26 k27 rfl
   refine Fb 8 0 fun hl28 => ?_
   refine Oq Vm (Oq Vx (Oq Vx (Oq (Vi sl25 1) ?_)))
   refine Ost (So (Rs := [S a26 k27 rv21.1.Words]) [1, 0] sh42 rv21.1 (fun h => ⟨_, rfl, (by unfold i64ok; first | omega | (dsimp only; omega)), sepAll_get (i := 0) rfl h⟩)) (KS ?_)
   refine Oq Vadd (Oq Vm (KS ?_))
   exact Kg (r19, (out_7.set v11_8.toNat rv21.1), (v11_8 + 1)) [0] ⟨(q3 hM9 (by simp only [fixpoint_empty_L0, h17, hg22, cs4])), (by omega), (by omega), (by omega), (by omega), iv1⟩
 intro h17
 have g29 := of_decide_eq_false h17
 obtain rfl : r6 = 0 := by omega
 refine Ke ?_
 have hR30 := q2 hM9 out_7 (by simp only [fixpoint_empty_L0, h17, cs4])
 refine KS ?_
 refine Oq Vm (Oq Va (KS ?_))
 refine Jl [0] (Ent.freeze _ _) ?_
 have hq := q4 hrr out_7 (by simp only [fixpoint_empty, h17, hR30, cs4]); subst hq
 exact Kr (vl a2 k3 (List.replicate n.toNat (default : GSet))) rfl (.tmp rfl .nil) [0] trivial
theorem fn243 (s1 : List GSet) (s1a0 : Option Addr) (s1k0 : Nat) (s2 : List GSet) (s2a0 : Option Addr) (s2k0 : Nat) (eqF : FuncId) (eqC : List Value) (eqp : GSet → GSet → Bool) (eqA : List SP) (heqc : callable Tryz.prog eqF = true) (heqF : ∀ x0 x1, ∀ (a0 : Option Addr) (k0 : Nat) (a2 : Option Addr) (k2 : Nat), i64ok x0.Width → i64ok x1.Width → FT Tryz.prog eqF ([(.agg #[vi x0.Width, vl a0 k0 x0.Words] : Value), (.agg #[vi x1.Width, vl a2 k2 x1.Words] : Value)] ++ eqC).toArray ([S a0 k0 x0.Words, S a2 k2 x1.Words] ++ [pAll eqA]) (fun _ : Unit => True) (fun _ => vb (eqp x0 x1)) (fun _ => [])) (rr : Bool) (hrr : slices_EqualFunc_Set s1 s2 eqp = rr) : FT Tryz.prog 243 #[vl s1a0 s1k0 s1, vl s2a0 s2k0 s2, .func (.func eqF) #[] eqC.toArray] [S s1a0 s1k0 s1, S s2a0 s2k0 s2, pAll eqA] (fun g : Unit => True) (fun g => vb rr) (fun g => []) := by
 refine FTi Tryz.func243 fun w0 M0 F0 => ?_
 refine Fb 32 0 fun hl1 => ?_
 refine Fb 32 1 fun hl2 => ?_
 refine KS ?_
 refine Oq Va (KS ?_)
 refine Oq Vm (Oq (Vlen sl25) (Oq Vm (Oq (Vlen sl25) (Oq Vneq (KS ?_)))))
 refine Kc ?_ ?_
 · intro h3
   have g4 := ne_of_bne h3
   refine KS ?_
   refine Oq Va (KS ?_)
   have hq := q4 hrr false (by simp only [slices_EqualFunc_Set, h3, cs4]); subst hq
   exact Kr () rfl (.tmp rfl .nil) [] trivial
 intro h3
 have g5 := eq_of_bne_false h3
 refine KS ?_
 refine Oq Vm (Oq (Vlen sl25) (Oq Vm (KS ?_)))
 refine Kl (γ := Nat × Int) (fun (r6, v17_7) => ⟨[(1, vl s2a0 s2k0 s2), (2, .func (.func eqF) #[] eqC.toArray), (15, vl s1a0 s1k0 s1), (16, vi (s1.length : Int)), (17, vi v17_7)], [S s1a0 s1k0 s1, S s2a0 s2k0 s2, pAll eqA], slices_EqualFunc_Set_L0 s1 s2 eqp r6 v17_7 = slices_EqualFunc_Set_L0 s1 s2 eqp (((s1.length : Int) - 0).toNat) 0 ∧ r6 = ((s1.length : Int) - v17_7).toNat ∧ (0 : Int) ≤ v17_7 ∧ v17_7 ≤ (s1.length : Int) ∧ (-9223372036854775808 ≤ v17_7 ∧ v17_7 ≤ 9223372036854775807), r6⟩) (((s1.length : Int) - 0).toNat, 0) [0, 1, 2] ⟨rfl, rfl, (by omega), (by omega), (by omega)⟩ ?_
 rintro ⟨r6, v17_7⟩ ⟨hM8, hr9, hi10, hi11, hk12⟩
 refine JJ_nx fun _ _ hL hA => ?_; dsimp only at hL hA; subst hL hA
 refine Fb 32 0 fun hl13 => ?_
 refine Fb 32 1 fun hl14 => ?_
 refine KS ?_
 refine Oq Vlss (KS ?_)
 refine Kc ?_ ?_
 · intro h15
   have g16 := of_decide_eq_true h15
   obtain ⟨r17, rfl⟩ := scc (n := r6) (by omega)
   refine KS ?_
   refine Oq Vm (Oq (Vi sl25 0) ?_)
   refine JJ_peek_GSet v17_7.toNat 0 rfl rng fun a18 k19 hb20 => ?_
   unfold i64ok at hb20
   refine Fb 8 1 fun hl21 => ?_
   refine Oq (VldA sh42 0) (Oa (Al ze42 [vi 0, .slice none 0 0]) fun p22 => Oq Va (Ost (Scl [0] sh42 [vi ((s1.getD v17_7.toNat default).Width), vl a18 k19 ((s1.getD v17_7.toNat default).Words)]) (KS ?_)))
   refine Oq Vm (Oq Vm (Oq (Vi sl25 4) ?_))
   refine JJ_peek_GSet v17_7.toNat 4 rfl rng fun a23 k24 hb25 => ?_
   unfold i64ok at hb25
   refine Fb 8 1 fun hl26 => ?_
   refine Oq (VldA sh42 0) (Oa (Al ze42 [vi 0, .slice none 0 0]) fun p27 => Ost (Scl [0] sh42 [vi ((s2.getD v17_7.toNat default).Width), vl a23 k24 ((s2.getD v17_7.toNat default).Words)]) (KS ?_))
   refine Oq Vm (Oq (VldA sh42 3) (Oq (VldA sh42 0) ?_))
   refine JO_call [5, 2, 8] rfl rfl rfl (OpC.clo («as» := [(.agg #[vi ((s1.getD v17_7.toNat default).Width), vl a18 k19 ((s1.getD v17_7.toNat default).Words)] : Value), (.agg #[vi ((s2.getD v17_7.toNat default).Width), vl a23 k24 ((s2.getD v17_7.toNat default).Words)] : Value)] ++ eqC) rfl rfl heqc rfl (by simp)) (heqF (s1.getD v17_7.toNat default) (s2.getD v17_7.toNat default) a18 k19 a23 k24 pre pre) rfl fun _ _ => ?_
   refine Oq Vnot (KS ?_)
   refine Kc ?_ ?_
   · intro h29
     have h31 := not_true h29
     refine KS ?_
     refine Oq Va (KS ?_)
     have hR33 := q2 hM8 (.ret false) (by simp only [slices_EqualFunc_Set_L0, h3, h15, h29, h31, cs4])
     have hq := q4 hrr false (by simp only [slices_EqualFunc_Set, h3, h15, h29, h31, hR33, cs4]); subst hq
     exact Kr () rfl (.tmp rfl .nil) [] trivial
   intro h29
   have h35 := not_false h29
   refine KS ?_
   refine Oq Vadd (Oq Vm (KS ?_))
   exact Kg (r17, (v17_7 + 1)) [6, 7, 8] ⟨(q3 hM8 (by simp only [slices_EqualFunc_Set_L0, h3, h15, h29, h35, cs4])), (by omega), (by omega), (by omega), (by omega)⟩
 intro h15
 have g37 := of_decide_eq_false h15
 obtain rfl : r6 = 0 := by omega
 refine Ke ?_
 have hR38 := q2 hM8 (.brk ()) (by simp only [slices_EqualFunc_Set_L0, h3, h15, cs4])
 refine KS ?_
 refine Oq Va (KS ?_)
 have hq := q4 hrr true (by simp only [slices_EqualFunc_Set, h3, h15, hR38, cs4]); subst hq
 exact Kr () rfl (.tmp rfl .nil) [] trivial
theorem fn192 (a : List GSet) (aa0 : Option Addr) (ak0 : Nat) (b : List GSet) (ba0 : Option Addr) (bk0 : Nat) (rr : Bool) (hrr : fixpoint_equal a b = rr) : FT Tryz.prog 192 #[vl aa0 ak0 a, vl ba0 bk0 b] [S aa0 ak0 a, S ba0 bk0 b] (fun g : Unit => True) (fun g => vb rr) (fun g => []) := by
 refine FTi Tryz.func192 fun w0 M0 F0 => ?_
 refine Fb 32 0 fun hl1 => ?_
 refine Fb 32 1 fun hl2 => ?_
 refine KS ?_
 refine Oq Va (KS ?_)
 refine Oq Vm (Oq Vm ?_)
 refine JJ_ent (Ent.pall [] rfl rfl) ?_
 refine letv (slices_EqualFunc_Set a b (fun x0 x1 => bitset_Equal x0 x1)) fun rv3 hg4 => ?_
 have hc5 := fn243 a aa0 ak0 b ba0 bk0 181 [] (fun x0 x1 => bitset_Equal x0 x1) [] ca181 (fun x0 x1 a0 k0 a2 k2 hq0 hq1 => FT_pall (A1 := _) (fn181 x0 a0 k0 x1 a2 k2  hq0 hq1 _ rfl)) rv3 hg4
 refine Oc [1, 2, 0] ca243 hc5 ?_
 rintro - -
 refine Oq Va (KS ?_)
 have hq := q4 hrr rv3 (by simp only [fixpoint_equal, hg4, cs4]); subst hq
 exact Kr () rfl (.tmp rfl .nil) [] trivial
theorem fn110 (width : Int) (n : Int) (stepF : FuncId) (stepC : List Value) (stepp : (List GSet) → (List GSet)) (stepA : List SP) (hwidth_0 : i64ok width) (hn_0 : i64ok n) (hstepc : callable Tryz.prog stepF = true) (hstepF : ∀ x0, ∀ (a0 : Option Addr) (k0 : Nat), FT Tryz.prog stepF ([(vl a0 k0 x0 : Value)] ++ stepC).toArray ([S a0 k0 x0] ++ [pAll stepA]) (fun g : Value => True) (fun g => g) (fun g => [sl g (stepp x0)])) (hw0 : 0 ≤ width ∧ width ≤ 256 ∧ 0 ≤ n ∧ n ≤ 256) (hst : RoundsOk width n stepp) (rr : List GSet × Int) (hrr : fixpoint_rounds width n stepp = rr) : FT Tryz.prog 110 #[vi width, vi n, .func (.func stepF) #[] stepC.toArray] [pAll stepA] (fun g : Value => i64ok rr.2) (fun g => .tuple #[g, vi rr.2]) (fun g => [sl g rr.1]) := by
 refine FTi Tryz.func110 fun w0 M0 F0 => ?_
 unfold i64ok at hwidth_0 hn_0
 have hbb : n.toNat * width.toNat ≤ 256 * 256 := Nat.mul_le_mul (by omega) (by omega)
 refine KS ?_
 refine Oq Va (Oq Va (KS ?_))
 refine Oq Vm (Oq Vm ?_)
 refine letv (fixpoint_empty width n) fun rv2 hg3 => ?_
 have hc4 := fn191 width n pre pre pre rv2 hg3
 refine Oc [] ca191 hc4 ?_
 rintro c1 -
 refine Jo 0 ?_; rintro a5 k6 rfl
 refine Fb 32 0 fun hl7 => ?_
 refine Oq Va (KS ?_)
 refine Oq Vm (Oq Vm ?_)
 refine JO_call [0, 1] rfl rfl rfl (OpC.clo («as» := [(vl a5 k6 rv2 : Value)] ++ stepC) rfl rfl hstepc rfl (by simp)) (hstepF rv2 a5 k6 ) rfl fun c9 _ => ?_
 refine Jo 0 ?_; rintro a10 k11 rfl
 refine Fb 32 0 fun hl12 => ?_
 refine Oq Va (KS ?_)
 refine Oq Va (KS ?_)
 have hterm24 : fixpoint_rounds_L0 stepp (n.toNat * width.toNat + 2) rv2 (stepp rv2) 0 ≠ LR.oof := (by have h := hst; unfold RoundsOk at h; simp only [hg3] at h; exact h)
 refine Kl (γ := Nat × List GSet × List GSet × Int × Option Addr × Nat × Option Addr × Nat) (fun (r13, now_14, next_15, round_16, a17, k18, a19, k20) => ⟨[(2, .func (.func stepF) #[] stepC.toArray), (8, vl a17 k18 now_14), (9, vl a19 k20 next_15), (10, vi round_16)], [S a19 k20 next_15, S a17 k18 now_14, pAll stepA], fixpoint_rounds_L0 stepp r13 now_14 next_15 round_16 = fixpoint_rounds_L0 stepp (n.toNat * width.toNat + 2) rv2 (stepp rv2) 0 ∧ (-9223372036854775808 ≤ round_16 ∧ round_16 ≤ 9223372036854775807) ∧ 0 ≤ round_16 ∧ round_16 + (r13 : Int) = ((n.toNat * width.toNat + 2 : Nat) : Int), r13⟩) ((n.toNat * width.toNat + 2), rv2, (stepp rv2), 0, a5, k6, a10, k11) [0, 1, 2] ⟨rfl, (by omega), iv0⟩ ?_
 rintro ⟨r13, now_14, next_15, round_16, a17, k18, a19, k20⟩ ⟨hM21, hk22, hv23⟩
 refine JJ_nx fun _ _ hL hA => ?_; dsimp only at hL hA; subst hL hA
 refine Fb 32 0 fun hl25 => ?_
 refine Fb 32 1 fun hl26 => ?_
 rcases r13 with _ | r13
 · exact absurd (hM21.symm.trans rfl) hterm24
 refine KS ?_
 refine Oq Vm (Oq Vm ?_)
 refine letv (fixpoint_equal now_14 next_15) fun rv27 hg28 => ?_
 have hc29 := fn192 now_14 a17 k18 next_15 a19 k20 rv27 hg28
 refine Oc [1, 0] ca192 hc29 ?_
 rintro - -
 refine Oq Vnot (KS ?_)
 refine Kc ?_ ?_
 · intro h30
   have h32 := not_true h30
   refine KS ?_
   refine Oq Vm (Oq Vm (Oq Vm ?_))
   refine JO_call [0, 2] rfl rfl rfl (OpC.clo («as» := [(vl a19 k20 next_15 : Value)] ++ stepC) rfl rfl hstepc rfl (by simp)) (hstepF next_15 a19 k20 ) rfl fun c35 _ => ?_
   refine Jo 0 ?_; rintro a36 k37 rfl
   refine Fb 32 0 fun hl38 => ?_
   refine Oq Vm (Oq Vadd (Oq Va (Oq Va (Oq Va (KS ?_)))))
   exact Kg (r13, next_15, (stepp next_15), (round_16 + 1), a19, k20, a36, k37) [0, 1, 3] ⟨(q3 hM21 (by simp only [fixpoint_rounds_L0, h30, h32, hg3, hg28, cs4])), (by omega), iv1⟩
 intro h30
 have h40 := not_false h30
 refine Ke ?_
 have hR42 := q2 hM21 (.brk (now_14, round_16)) (by simp only [fixpoint_rounds_L0, h30, h40, hg3, hg28, cs4])
 refine KS ?_
 refine Oq Vm (Oq Vm (Oq Va (Oq Va (KS ?_))))
 have hq := q4 hrr (now_14, round_16) (by simp only [fixpoint_rounds, h30, h40, hg3, hg28, hR42, cs4]); subst hq
 exact Kr (vl a17 k18 now_14) rfl (.tmp rfl (.tmp rfl .nil)) [1] en
theorem fn244 (v : GSet) (va1 : Option Addr) (vk1 : Nat) (hv_0 : i64ok v.Width) (rr : Bool) (hrr : equations_Right_1 v = rr) : FT Tryz.prog 244 #[.agg #[vi v.Width, vl va1 vk1 v.Words]] [S va1 vk1 v.Words] (fun g : Unit => True) (fun g => vb rr) (fun g => []) := by
 refine FTi Tryz.func244 fun w0 M0 F0 => ?_
 unfold i64ok at hv_0
 refine Fb 8 0 fun hl1 => ?_
 refine KS ?_
 refine Oa (Ab [vi v.Width, vl va1 vk1 v.Words]) fun p2 => Oq Va (KS ?_)
 refine Oq (VldA sh42 0) ?_
 refine letv (bitset_Valid v) fun rv3 hg4 => ?_
 have hc5 := fn123 v va1 vk1 pre rv3 hg4
 refine Oc [1] ca123 hc5 ?_
 rintro - -
 refine Oq Vnot (Oq Va (KS ?_))
 have hq := q4 hrr (!rv3) (by simp only [equations_Right_1, hg4, cs4]); subst hq
 exact Kr () rfl (.tmp rfl .nil) [] trivial
theorem fn193 (s : GSystem) (sa1 : Option Addr) (sk1 : Nat) (sa2 : Option Addr) (sk2 : Nat) (sa3 : Option Addr) (sk3 : Nat) (values : List GSet) (valuesa0 : Option Addr) (valuesk0 : Nat) (n : Int) (hs_0 : i64ok s.Width) (hn_0 : i64ok n) (rr : GSet × Int) (hrr : equations_Right s values n = rr) : FT Tryz.prog 193 #[.agg #[vi s.Width, vl sa1 sk1 s.Deps, vl sa2 sk2 s.Transfers, vl sa3 sk3 s.Boundary], vl valuesa0 valuesk0 values, vi n] [S sa1 sk1 s.Deps, S sa2 sk2 s.Transfers, S sa3 sk3 s.Boundary, S valuesa0 valuesk0 values] (fun g : Value => i64ok rr.1.Width ∧ i64ok rr.2) (fun g => .tuple #[.agg #[vi rr.1.Width, g], vi rr.2]) (fun g => [sl g rr.1.Words]) := by
 refine FTi Tryz.func193 fun w0 M0 F0 => ?_
 unfold i64ok at hs_0 hn_0
 refine Fb 24 0 fun hl1 => ?_
 refine Fb 88 1 fun hl2 => ?_
 refine Fb 32 2 fun hl3 => ?_
 refine Fb 32 3 fun hl4 => ?_
 refine KS ?_
 refine Oa (Ab [vi s.Width, vl sa1 sk1 s.Deps, vl sa2 sk2 s.Transfers, vl sa3 sk3 s.Boundary]) fun p5 => Oa (Al ze42 [vi 0, .slice none 0 0]) fun p6 => Oq Va (KS ?_)
 refine Oq (VldA sh27 1) ?_
 refine letv (equations_Valid s) fun rv7 hg8 => ?_
 have hc9 := fn109 s sa1 sk1 sa2 sk2 sa3 sk3 pre rv7 hg8
 refine Oc [2, 3, 4] ca109 hc9 ?_
 rintro - -
 refine Oq Vnot (Oq Va (KS ?_))
 refine Kc ?_ ?_
 · intro h10
   have h12 := not_true h10
   refine KS ?_
   refine Oq (Vbd st42 [vi 0, .slice none 0 0]) (Ost (Scl [0] sh42 [vi 0, .slice none 0 0]) (Oq Va (KS ?_)))
   refine Jl [] (Ent.slNil (α := BitVec 64)) ?_
   have hq := q4 hrr ((GSet.mk 0 []), 1) (by simp only [equations_Right, h10, h12, hg8, cs4]); subst hq
   exact Kr (.slice none 0 0) rfl (.cellN 1 rfl sh42 rfl (reads_Cl _ _) rfl (.tmp rfl .nil)) [0] en
 intro h10
 have h15 := not_false h10
 try (have hvs := (EValid_iff s).1 (by simp only [h10, h15, hg8]); have hv1 := hvs.n; have hv2 := hvs.tl; have hv3 := hvs.bl; have hv4 := hvs.w; have hv5 := hvs.dep_len)
 refine KS ?_
 refine Oq Vm (Oq Vlss (Oq Vm ?_))
 refine Js 21 ?_ ?_
 · intro h17
   have g18 := of_decide_eq_true h17
   refine Osk (Osk (Osk (Osk (Osk (Oq Vpt (Oq Va (KS ?_)))))))
   refine Kt ?_
   refine KS ?_
   refine Oq (Vbd st42 [vi 0, .slice none 0 0]) (Ost (Scl [0] sh42 [vi 0, .slice none 0 0]) (Oq Va (KS ?_)))
   refine Jl [] (Ent.slNil (α := BitVec 64)) ?_
   have hq := q4 hrr ((GSet.mk 0 []), 9) (by simp only [equations_Right, h10, h15, h17, hg8, cs4]); subst hq
   exact Kr (.slice none 0 0) rfl (.cellN 1 rfl sh42 rfl (reads_Cl _ _) rfl (.tmp rfl .nil)) [0] en
 intro h17
 have g19 := of_decide_eq_false h17
 refine Oq Vm (Oq (Vfa fo27_1 1) (Oq (VldF sh23 1) (Oq (Vlen sl23) (Oq Vgeq (Oq Vpf (Oq Va (KS ?_)))))))
 refine Kc ?_ ?_
 · intro h20
   have g21 := of_decide_eq_true h20
   refine KS ?_
   refine Oq (Vbd st42 [vi 0, .slice none 0 0]) (Ost (Scl [0] sh42 [vi 0, .slice none 0 0]) (Oq Va (KS ?_)))
   refine Jl [] (Ent.slNil (α := BitVec 64)) ?_
   have hq := q4 hrr ((GSet.mk 0 []), 9) (by simp only [equations_Right, h10, h15, h17, h20, hg8, cs4]); subst hq
   exact Kr (.slice none 0 0) rfl (.cellN 1 rfl sh42 rfl (reads_Cl _ _) rfl (.tmp rfl .nil)) [0] en
 intro h20
 have g22 := of_decide_eq_false h20
 refine KS ?_
 refine Oq Vm (Oq (Vlen sl25) (Oq (Vfa fo27_1 1) (Oq (VldF sh23 1) (Oq (Vlen sl23) (Oq Vneq (Oq Vm ?_))))))
 refine Js 36 ?_ ?_
 · intro h23
   have g24 := ne_of_bne h23
   refine Osk (Osk (Oq Vpt (Oq Va (KS ?_))))
   refine Kt ?_
   refine KS ?_
   refine Oq (Vbd st42 [vi 0, .slice none 0 0]) (Ost (Scl [0] sh42 [vi 0, .slice none 0 0]) (Oq Va (KS ?_)))
   refine Jl [] (Ent.slNil (α := BitVec 64)) ?_
   have hq := q4 hrr ((GSet.mk 0 []), 1) (by simp only [equations_Right, h10, h15, h17, h20, h23, hg8, cs4]); subst hq
   exact Kr (.slice none 0 0) rfl (.cellN 1 rfl sh42 rfl (reads_Cl _ _) rfl (.tmp rfl .nil)) [0] en
 intro h23
 have g25 := eq_of_bne_false h23
 refine Oq Vm ?_
 refine JJ_ent (Ent.pall [] rfl rfl) ?_
 refine letv (slices_ContainsFunc_Set values (fun x => equations_Right_1 x)) fun rv26 hg27 => ?_
 have hc28 := fn239 values valuesa0 valuesk0 244 [] (fun x => equations_Right_1 x) [] ca244 (fun x hx a1 k1 hq0 => FT_pall (A1 := _) (fn244 x a1 k1  hq0 _ rfl)) rv26 hg27
 refine Oc [6, 0] ca239 hc28 ?_
 rintro - -
 refine Oq Vpf (Oq Va (KS ?_))
 refine Kc ?_ ?_
 · intro h29
   try (have hvs := (EValid_iff s).1 (by simp only [h10, h15, h17, h20, h23, h29, hg8, hg27]); have hv1 := hvs.n; have hv2 := hvs.tl; have hv3 := hvs.bl; have hv4 := hvs.w; have hv5 := hvs.dep_len)
   refine KS ?_
   refine Oq (Vbd st42 [vi 0, .slice none 0 0]) (Ost (Scl [1] sh42 [vi 0, .slice none 0 0]) (Oq Va (KS ?_)))
   refine Jl [] (Ent.slNil (α := BitVec 64)) ?_
   have hq := q4 hrr ((GSet.mk 0 []), 1) (by simp only [equations_Right, h10, h15, h17, h20, h23, h29, hg8, hg27, cs4]); subst hq
   exact Kr (.slice none 0 0) rfl (.cellN 1 rfl sh42 rfl (reads_Cl _ _) rfl (.tmp rfl .nil)) [0] en
 intro h29
 refine KS ?_
 refine Oq (Vfa fo27_0 2) (Oq (VldF sh3 2) (Oq Vm ?_))
 refine letv (equations_sets s.Width values) fun rv32 hg33 => ?_
 have hc34 := fn187 s.Width values valuesa0 valuesk0 pre rv32 hg33
 refine Oc [6] ca187 hc34 ?_
 rintro - -
 refine Oq Vnot (Oq Va (KS ?_))
 refine Kc ?_ ?_
 · intro h35
   have h37 := not_true h35
   refine KS ?_
   refine Oq (Vbd st42 [vi 0, .slice none 0 0]) (Ost (Scl [1] sh42 [vi 0, .slice none 0 0]) (Oq Va (KS ?_)))
   refine Jl [] (Ent.slNil (α := BitVec 64)) ?_
   have hq := q4 hrr ((GSet.mk 0 []), 2) (by simp only [equations_Right, h10, h15, h17, h20, h23, h29, h35, h37, hg8, hg27, hg33, cs4]); subst hq
   exact Kr (.slice none 0 0) rfl (.cellN 1 rfl sh42 rfl (reads_Cl _ _) rfl (.tmp rfl .nil)) [0] en
 intro h35
 have h40 := not_false h35
 try (have hvs := (EValid_iff s).1 (by simp only [h10, h15, h17, h20, h23, h29, h35, h40, hg8, hg27, hg33]); have hv1 := hvs.n; have hv2 := hvs.tl; have hv3 := hvs.bl; have hv4 := hvs.w; have hv5 := hvs.dep_len)
 refine KS ?_
 refine JJ_peek_GSet n.toNat 5 rfl rng fun a42 k43 hb44 => ?_
 unfold i64ok at hb44
 refine Fb 8 1 fun hl45 => ?_
 refine JK_drawK [0, 1, 0, 4, 0, 28, 60, 124, 252, 511, 0, 2047] fmix ?_
 refine Dv [4] (Vfa fo27_0 0) (Dv [4] (VldF sh3 0) (Dv [4] (Vfa fo27_3 0) (Dv [4] (VldF sh25 0) (Dv [] Vm (Dv [7] (Vi sl25 0) (Dv [0] (Vfa fo42_1 0) (Dv [0] (VldF sh40 0) ?_)))))))
 refine letv (slices_Clone_uint64 ((s.Boundary.getD n.toNat default).Words)) fun rv47 hg48 => ?_
 refine Dx [1] [] [2, 0, 1] (fun G => (G.g 8 0)) [fun G => SP.fact ((rv47.length = ((s.Boundary.getD n.toNat default).Words).length)), fun G => os (G.g 8 0) rv47] (fun G => xC [0] ca184 (fn184 ((s.Boundary.getD n.toNat default).Words) a42 k43 rv47 hg48)) ?_
 refine Dx [10] [] [0] (fun G => .agg #[vi s.Width, (G.g 8 0)]) [] (fun G => xV (v := .agg #[vi s.Width, (G.g 8 0)]) (Vo 0 rfl (isO_os _ _) fun aq49 kq50 eq51 => (by rw [eq51]; exact Vbd st42 [vi s.Width, .slice aq49 ((rv47 : List (BitVec 64)).length) kq50]))) (Dx [] [] [0] (fun G => (G.g 10 0)) [fun G => Cl (G.g 10 0) [vi 0, .slice none 0 0]] (fun G => xA (Al ze42 [vi 0, .slice none 0 0])) (Dx0 [10, 11] [11] [1, 0] [fun G => Cl (G.g 10 0) [vi s.Width, (G.g 8 0)]] (fun G => x1 0 rfl os_one fun ho53 => (xS (Scl [1] sh42 [vi s.Width, (G.g 8 0)] (v := .agg #[vi s.Width, (G.g 8 0)]) (h1 := show [vi s.Width, (G.g 8 0)].all (·.oneCell') = true from (by simp only [List.all_cons, List.all_nil, ho53, Bool.and_true, Bool.true_and] <;> rfl))))) ?_))
 refine Dn ⟨by kernel_rfl, fun G => ?_⟩
 refine Jw2 [(1, vl valuesa0 valuesk0 values), (2, vi n), (3, p5), (6, p6), (8, (G.g 10 0))] [0, 1, 2, 3, 4, 5, 6, 7, 8] [SP.fact ((rv47.length = ((s.Boundary.getD n.toNat default).Words).length)), os (G.g 8 0) rv47, Cl (G.g 10 0) [vi s.Width, (G.g 8 0)]] ?_
 generalize G.g 8 0 = c46, G.g 10 0 = p52
 refine Jf 9 rfl ?_; rintro he54
 refine Jk [0, 1, 2, 3, 3, 4, 5, 6, 7, 9, 9] ?_
 refine Jo 9 ?_; rintro a55 k56 rfl
 refine Fb 8 9 fun hl57 => ?_
 refine KS ?_
 refine Oq (Vfa fo27_1 4) (Oq (VldF sh23 4) (Oq Vm (Oq (Vi sl23 5) ?_)))
 refine JJ_peekL n.toNat 5 rfl rng fun a58 k59 => ?_
 refine Fb 8 1 fun hl60 => ?_
 refine Fo 1 fun ho61 => ?_
 refine Oq (Vld sh22 0) (Oq (Vlen sl22) (Oq Vm (KS ?_)))
 refine Jl [11] (Ent.freeze _ _) ?_
 refine Kl (γ := Nat × Int × List (BitVec 64) × Int × Option Addr × Nat) (fun (r62, out0_63, out1_64, v64_65, a66, k67) => ⟨[(1, vl valuesa0 valuesk0 values), (3, p5), (6, p6), (8, p52), (62, vl a58 k59 (s.Deps.getD n.toNat [])), (63, vi ((s.Deps.getD n.toNat []).length : Int)), (64, vi v64_65)], [S a66 k67 out1_64, S a58 k59 ((s.Deps.getD n.toNat []) : List Int), pAll [], Cl p6 [vi 0, .slice none 0 0], pv p5 [vi s.Width, vl sa1 sk1 s.Deps, vl sa2 sk2 s.Transfers, vl sa3 sk3 s.Boundary], S sa1 sk1 s.Deps, S sa2 sk2 s.Transfers, S sa3 sk3 s.Boundary, S valuesa0 valuesk0 values, Cl p52 [vi out0_63, vl a66 k67 out1_64]], equations_Right_L0 s values n r62 out0_63 out1_64 v64_65 = equations_Right_L0 s values n (((((s.Deps.getD n.toNat []).length : Int) : Int) - 0).toNat) s.Width rv47 0 ∧ r62 = ((((s.Deps.getD n.toNat []).length : Int) : Int) - v64_65).toNat ∧ (0 : Int) ≤ v64_65 ∧ (v64_65 ≤ ((s.Deps.getD n.toNat []).length : Int) ∨ v64_65 = 0) ∧ (-9223372036854775808 ≤ out0_63 ∧ out0_63 ≤ 9223372036854775807) ∧ (-9223372036854775808 ≤ v64_65 ∧ v64_65 ≤ 9223372036854775807), r62⟩) (((((s.Deps.getD n.toNat []).length : Int) : Int) - 0).toNat, s.Width, rv47, 0, a55, k56) [0, 2, 5, 6, 6, 7, 8, 9, 10, 11] ⟨rfl, rfl, (by omega), (.inr rfl), (by omega), (by omega)⟩ ?_
 rintro ⟨r62, out0_63, out1_64, v64_65, a66, k67⟩ ⟨hM68, hr69, hi70, hi71, hk72, hk73⟩
 refine JJ_nx fun _ _ hL hA => ?_; dsimp only at hL hA; subst hL hA
 refine Fb 8 0 fun hl74 => ?_
 refine Fb 8 1 fun hl75 => ?_
 refine Fo 1 fun ho76 => ?_
 refine Fb 24 5 fun hl77 => ?_
 refine Fb 88 6 fun hl78 => ?_
 refine Fb 32 7 fun hl79 => ?_
 refine Fb 32 8 fun hl80 => ?_
 refine KS ?_
 refine Oq Vlss (KS ?_)
 refine Kc ?_ ?_
 · intro h81
   have g82 := of_decide_eq_true h81
   have hq := hvs.dep_mem (j := n) (by omega) (by omega) _ (getD_mem (xs := s.Deps.getD n.toNat []) (i := v64_65.toNat) (d := 0) (by omega))
   obtain ⟨r83, rfl⟩ := scc (n := r62) (by omega)
   refine KS ?_
   refine Oq (Vi sl22 1) ?_
   have hb84 := ok1 (i := v64_65.toNat) ho76 rng
   refine Oq (VldI sh3 1) (Oq Va (KS ?_))
   refine JJ_peek_GTransfer (((s.Deps.getD n.toNat []).getD v64_65.toNat 0) : Int).toNat 6 rfl rng fun a85 k86 a87 k88 a89 k90 hb91 hb92 => ?_
   unfold i64ok at hb91 hb92
   refine Fb 8 1 fun hl93 => ?_
   refine Fb 8 2 fun hl94 => ?_
   refine Fb 16 3 fun hl95 => ?_
   refine JJ_peek_GSet (((s.Deps.getD n.toNat []).getD v64_65.toNat 0) : Int).toNat 12 rfl rng fun a96 k97 hb98 => ?_
   unfold i64ok at hb98
   refine Fb 8 1 fun hl99 => ?_
   refine JK_drawK [0, 1, 0, 7, 15, 0, 0, 96, 224, 511, 1023, 2047, 2047, 0, 12287, 32767] fmix ?_
   refine Dv [10] (Vfa fo27_2 0) (Dv [10] (VldF sh24 0) (Dv [] Vm (Dv [12] (Vi sl24 0) (Dv [2] (VldA sh98 0) (Dv [] Vm (Dv [] Vm (Dv [14] (Vi sl25 0) (Dv [0] (VldA sh42 0) ?_))))))))
   refine letv (transfer_Apply (s.Transfers.getD (((s.Deps.getD n.toNat []).getD v64_65.toNat 0) : Int).toNat default) (values.getD (((s.Deps.getD n.toNat []).getD v64_65.toNat 0) : Int).toNat default)) fun rv101 hg102 => ?_
   refine Dx [1, 3, 4, 5] [] [2, 3, 4, 5, 0, 1] (fun G => .tuple #[.agg #[vi rv101.1.Width, (G.g 9 0)], vi rv101.2]) [fun G => SP.fact (i64ok rv101.1.Width ∧ i64ok rv101.2), fun G => sl (G.g 9 0) rv101.1.Words] (fun G => xC [1, 2, 3, 0] ca179 (fn179 ((s.Transfers.getD (((s.Deps.getD n.toNat []).getD v64_65.toNat 0) : Int).toNat default)) a85 k86 a87 k88 a89 k90 ((values.getD (((s.Deps.getD n.toNat []).getD v64_65.toNat 0) : Int).toNat default)) a96 k97 pre pre pre rv101 hg102)) (Dg [] (fun G => .tuple #[.agg #[vi rv101.1.Width, (G.g 9 0)], vi rv101.2]) (fun G => Vm) (Dg [] (fun G => .agg #[vi rv101.1.Width, (G.g 9 0)]) (fun G => Vx) (Dv [] Vx (Dx [] [] [0] (fun G => (G.g 13 0)) [fun G => Cl (G.g 13 0) [vi 0, .slice none 0 0]] (fun G => xA (Al ze42 [vi 0, .slice none 0 0])) (Dx0 [17, 18] [18] [1, 0] [fun G => Cl (G.g 13 0) [vi rv101.1.Width, (G.g 9 0)]] (fun G => x1 0 rfl sl_one fun ho104 => (xS (Scl [1] sh42 [vi rv101.1.Width, (G.g 9 0)] (v := .agg #[vi rv101.1.Width, (G.g 9 0)]) (h1 := show [vi rv101.1.Width, (G.g 9 0)].all (·.oneCell') = true from (by simp only [List.all_cons, List.all_nil, ho104, Bool.and_true, Bool.true_and] <;> rfl))))) (Dv [] Va ?_))))))
   refine Dn ⟨by kernel_rfl, fun G => ?_⟩
   refine Jw2 [(1, vl valuesa0 valuesk0 values), (3, p5), (6, p6), (8, p52), (62, vl a58 k59 (s.Deps.getD n.toNat [])), (63, vi ((s.Deps.getD n.toNat []).length : Int)), (64, vi v64_65), (11, (G.g 13 0))] [0, 1, 2, 3, 4, 5, 6, 7, 8, 9, 10, 11, 12, 13, 14, 15] [SP.fact (i64ok rv101.1.Width ∧ i64ok rv101.2), sl (G.g 9 0) rv101.1.Words, Cl (G.g 13 0) [vi rv101.1.Width, (G.g 9 0)]] ?_
   generalize G.g 9 0 = c100, G.g 13 0 = p103
   refine Jf 16 rfl ?_; rintro ⟨he105, he106⟩
   unfold i64ok at he105 he106
   refine Jk [0, 1, 2, 3, 4, 5, 6, 7, 8, 9, 9, 10, 11, 12, 13, 14, 15, 16] ?_
   refine Jo 16 ?_; rintro a107 k108 rfl
   refine Fb 8 16 fun hl109 => ?_
   refine KS ?_
   refine Oq (VldA sh42 15) (Oq (VldA sh42 17) ?_)
   refine letv (bitset_Union (GSet.mk out0_63 out1_64) rv101.1) fun rv111 hg112 => ?_
   have hc113 := fn180 ((GSet.mk out0_63 out1_64)) a66 k67 rv101.1 a107 k108 pre pre rv111 hg112
   refine Oc [6, 16] ca180 hc113 ?_
   rintro c110 ⟨he114, he115⟩
   unfold i64ok at he114 he115
   refine Jo 0 ?_; rintro a116 k117 rfl
   refine Fb 8 0 fun hl118 => ?_
   refine Oq Vm (Oq Vx (Oq Vx (Ost (Scl [16] sh42 [vi rv111.1.Width, vl a116 k117 rv111.1.Words]) (KS ?_))))
   refine Oq Vadd (Oq Vm (KS ?_))
   exact Kg (r83, rv111.1.Width, rv111.1.Words, (v64_65 + 1), a116, k117) [1, 9, 10, 11, 11, 12, 13, 14, 15, 0] ⟨(q3 hM68 (by simp only [equations_Right_L0, h10, h15, h17, h20, h23, h29, h35, h40, h81, hg8, hg27, hg33, hg48, hg102, hg112, cs4])), (by omega), (by omega), (by omega), (by omega), (by omega)⟩
 intro h81
 have g119 := of_decide_eq_false h81
 obtain rfl : r62 = 0 := by omega
 refine Ke ?_
 have hR120 := q2 hM68 (out0_63, out1_64) (by simp only [equations_Right_L0, h10, h15, h17, h20, h23, h29, h35, h40, h81, hg8, hg27, hg33, hg48, cs4])
 refine KS ?_
 refine Oq (VldA sh42 9) (Ost (Scl [3] sh42 [vi out0_63, vl a66 k67 out1_64]) (Oq Va (KS ?_)))
 have hq := q4 hrr ((GSet.mk out0_63 out1_64), 0) (by simp only [equations_Right, h10, h15, h17, h20, h23, h29, h35, h40, h81, hg8, hg27, hg33, hg48, hR120, cs4]); subst hq
 exact Kr (vl a66 k67 out1_64) rfl (.cellN 0 rfl sh42 rfl (reads_Cl _ _) rfl (.tmp rfl .nil)) [1] en
theorem fn112 (s : GSystem) (sa1 : Option Addr) (sk1 : Nat) (sa2 : Option Addr) (sk2 : Nat) (sa3 : Option Addr) (sk3 : Nat) (values : List GSet) (valuesa0 : Option Addr) (valuesk0 : Nat) (hs_0 : i64ok s.Width) (rr : List GSet × Int) (hrr : fixpoint_Next s values = rr) : FT Tryz.prog 112 #[.agg #[vi s.Width, vl sa1 sk1 s.Deps, vl sa2 sk2 s.Transfers, vl sa3 sk3 s.Boundary], vl valuesa0 valuesk0 values] [S sa1 sk1 s.Deps, S sa2 sk2 s.Transfers, S sa3 sk3 s.Boundary, S valuesa0 valuesk0 values] (fun g : Value => i64ok rr.2) (fun g => .tuple #[g, vi rr.2]) (fun g => [sl g rr.1]) := by
 refine FTi Tryz.func112 fun w0 M0 F0 => ?_
 unfold i64ok at hs_0
 refine Fb 24 0 fun hl1 => ?_
 refine Fb 88 1 fun hl2 => ?_
 refine Fb 32 2 fun hl3 => ?_
 refine Fb 32 3 fun hl4 => ?_
 refine KS ?_
 refine Oa (Ab [vi s.Width, vl sa1 sk1 s.Deps, vl sa2 sk2 s.Transfers, vl sa3 sk3 s.Boundary]) fun p5 => Oq Va (Oq Va (KS ?_))
 refine Oq (VldA sh27 0) ?_
 refine letv (equations_Valid s) fun rv6 hg7 => ?_
 have hc8 := fn109 s sa1 sk1 sa2 sk2 sa3 sk3 pre rv6 hg7
 refine Oc [1, 2, 3] ca109 hc8 ?_
 rintro - -
 refine Oq Vnot (KS ?_)
 refine Kc ?_ ?_
 · intro h9
   have h11 := not_true h9
   refine KS ?_
   refine Oq Va (Oq Va (KS ?_))
   refine Jl [] (Ent.slNil (α := GSet)) ?_
   have hq := q4 hrr ([], 1) (by simp only [fixpoint_Next, h9, h11, hg7, cs4]); subst hq
   exact Kr (.slice none 0 0) rfl (.tmp rfl (.tmp rfl .nil)) [0] en
 intro h9
 have h14 := not_false h9
 try (have hvs := (EValid_iff s).1 (by simp only [h9, h14, hg7]); have hv1 := hvs.n)
 refine KS ?_
 refine Oq Va (KS ?_)
 refine Oq (Vfa fo27_1 0) (Oq (VldF sh23 0) (Oq (Vlen sl23) (Oq Vm (KS ?_))))
 refine Jl [] (Ent.osNil (α := GSet)) ?_
 refine Kl (γ := Nat × List GSet × Int × Option Addr × Nat) (fun (r16, out_17, v16_18, a19, k20) => ⟨[(1, vl valuesa0 valuesk0 values), (2, p5), (6, vl a19 k20 out_17), (15, vi (s.Deps.length : Int)), (16, vi v16_18)], [O a19 k20 out_17, pv p5 [vi s.Width, vl sa1 sk1 s.Deps, vl sa2 sk2 s.Transfers, vl sa3 sk3 s.Boundary], S sa1 sk1 s.Deps, S sa2 sk2 s.Transfers, S sa3 sk3 s.Boundary, S valuesa0 valuesk0 values], fixpoint_Next_L0 s values r16 out_17 v16_18 = fixpoint_Next_L0 s values (((s.Deps.length : Int) - 0).toNat) [] 0 ∧ r16 = ((s.Deps.length : Int) - v16_18).toNat ∧ (0 : Int) ≤ v16_18 ∧ v16_18 ≤ (s.Deps.length : Int) ∧ (-9223372036854775808 ≤ v16_18 ∧ v16_18 ≤ 9223372036854775807) ∧ (out_17.length : Int) ≤ v16_18, r16⟩) (((s.Deps.length : Int) - 0).toNat, [], 0, none, 0) [0, 0, 1, 2, 3, 4] ⟨rfl, rfl, (by omega), (by omega), (by omega), iv0⟩ ?_
 rintro ⟨r16, out_17, v16_18, a19, k20⟩ ⟨hM21, hr22, hi23, hi24, hk25, hv26⟩
 refine JJ_nx fun _ _ hL hA => ?_; dsimp only at hL hA; subst hL hA
 refine Fb 32 0 fun hl27 => ?_
 refine Fb 24 2 fun hl28 => ?_
 refine Fb 88 3 fun hl29 => ?_
 refine Fb 32 4 fun hl30 => ?_
 refine Fb 32 5 fun hl31 => ?_
 refine KS ?_
 refine Oq Vlss (KS ?_)
 refine Kc ?_ ?_
 · intro h32
   have g33 := of_decide_eq_true h32
   obtain ⟨r34, rfl⟩ := scc (n := r16) (by omega)
   refine KS ?_
   refine Oq Vm (Oq Va (KS ?_))
   refine Oq (VldA sh27 1) (Oq Vm (Oq Vm ?_))
   refine letv (equations_Right s values v16_18) fun rv36 hg37 => ?_
   have hc38 := fn193 s sa1 sk1 sa2 sk2 sa3 sk3 values valuesa0 valuesk0 v16_18 pre pre rv36 hg37
   refine Oc [2, 3, 4, 5] ca193 hc38 ?_
   rintro c35 ⟨he39, he40⟩
   unfold i64ok at he39 he40
   refine Jo 0 ?_; rintro a41 k42 rfl
   refine Fb 8 0 fun hl43 => ?_
   refine Oq Vm (Oq Vx (Oq Vx (Oa (Al ze42 [vi 0, .slice none 0 0]) fun p44 => Ost (Scl [0] sh42 [vi rv36.1.Width, vl a41 k42 rv36.1.Words]) (Oq Va (KS ?_)))))
   refine Oq Vm (Oq Vneq (KS ?_))
   refine Kc ?_ ?_
   · intro h45
     have g46 := ne_of_bne h45
     refine KS ?_
     refine Oq Vm (Oq Va (Oq Va (KS ?_)))
     refine Jl [] (Ent.slNil (α := GSet)) ?_
     have hR47 := q2 hM21 (.ret ([], rv36.2)) (by simp only [fixpoint_Next_L0, h9, h14, h32, h45, hg7, hg37, cs4])
     have hq := q4 hrr ([], rv36.2) (by simp only [fixpoint_Next, h9, h14, h32, h45, hg7, hg37, hR47, cs4]); subst hq
     exact Kr (.slice none 0 0) rfl (.tmp rfl (.tmp rfl .nil)) [0] en
   intro h45
   have g48 := eq_of_bne_false h45
   refine KS ?_
   refine Oq Vm (Oq (VldA sh42 0) (Oa (AsV sl25 sz25 [.agg #[vi rv36.1.Width, vl a41 k42 rv36.1.Words]] [vi rv36.1.Width, vl a41 k42 rv36.1.Words]) fun c49 => ?_))
   refine Jo 0 ?_; rintro a50 k51 rfl
   refine Jl [0, 1] (Ent.cr1 (α := GSet) (A := [S a41 k42 rv36.1.Words]) _ rv36.1 _ (Nat.le_of_ble_eq_true rfl) (fun h => ⟨_, rfl, (by unfold i64ok; first | omega | (dsimp only; omega)), sepAll_get (i := 0) rfl h⟩)) ?_
   refine Oa (ApO [4, 0] sl25 sl25 sz25) fun c52 => ?_
   refine Jo 0 ?_; rintro a53 k54 rfl
   refine Fb 32 0 fun hl55 => ?_
   have hn56 := la out_17 ([rv36.1] : List GSet)
   refine Oq Va (KS ?_)
   refine Oq Vadd (Oq Vm (KS ?_))
   exact Kg (r34, (out_17 ++ [rv36.1]), (v16_18 + 1), a53, k54) [0, 3, 4, 5, 6, 7] ⟨(q3 hM21 (by simp only [fixpoint_Next_L0, h9, h14, h32, h45, hg7, hg37, cs4])), (by omega), (by omega), (by omega), (by omega), iv1⟩
 intro h32
 have g57 := of_decide_eq_false h32
 obtain rfl : r16 = 0 := by omega
 refine Ke ?_
 have hR58 := q2 hM21 (.brk out_17) (by simp only [fixpoint_Next_L0, h9, h14, h32, hg7, cs4])
 refine KS ?_
 refine Oq Vm (Oq Va (Oq Va (KS ?_)))
 refine Jl [0] (Ent.freeze _ _) ?_
 have hq := q4 hrr (out_17, 0) (by simp only [fixpoint_Next, h9, h14, h32, hg7, hR58, cs4]); subst hq
 exact Kr (vl a19 k20 out_17) rfl (.tmp rfl (.tmp rfl .nil)) [0] en
theorem fn111 (now : List GSet) (nowa0 : Option Addr) (nowk0 : Nat) (cap0P : Value) (cap0 : GSystem) (cap0a1 : Option Addr) (cap0k1 : Nat) (cap0a2 : Option Addr) (cap0k2 : Nat) (cap0a3 : Option Addr) (cap0k3 : Nat) (hcap0_0 : i64ok cap0.Width) (rr : List GSet) (hrr : fixpoint_Solve_1 now cap0 = rr) : FT Tryz.prog 111 #[vl nowa0 nowk0 now, cap0P] [S nowa0 nowk0 now, pv cap0P [vi cap0.Width, vl cap0a1 cap0k1 cap0.Deps, vl cap0a2 cap0k2 cap0.Transfers, vl cap0a3 cap0k3 cap0.Boundary], S cap0a1 cap0k1 cap0.Deps, S cap0a2 cap0k2 cap0.Transfers, S cap0a3 cap0k3 cap0.Boundary] (fun g : Value => True) (fun g => g) (fun g => [sl g rr]) := by
 refine FTi Tryz.func111 fun w0 M0 F0 => ?_
 unfold i64ok at hcap0_0
 refine Fb 32 0 fun hl1 => ?_
 refine Fb 24 2 fun hl2 => ?_
 refine Fb 88 3 fun hl3 => ?_
 refine Fb 32 4 fun hl4 => ?_
 refine KS ?_
 refine Oq Va (KS ?_)
 refine Oq (VldA sh27 1) (Oq Vm ?_)
 refine letv (fixpoint_Next cap0 now) fun rv6 hg7 => ?_
 have hc8 := fn112 cap0 cap0a1 cap0k1 cap0a2 cap0k2 cap0a3 cap0k3 now nowa0 nowk0 pre rv6 hg7
 refine Oc [2, 3, 4, 0] ca112 hc8 ?_
 rintro c5 he9
 unfold i64ok at he9
 refine Jo 0 ?_; rintro a10 k11 rfl
 refine Fb 32 0 fun hl12 => ?_
 refine Oq Vm (Oq Vx (Oq Vx (Oq Va (Oq Va (KS ?_)))))
 refine Oq Vm (Oq Va (KS ?_))
 have hq := q4 hrr rv6.1 (by simp only [fixpoint_Solve_1, hg7, cs4]); subst hq
 exact Kr (vl a10 k11 rv6.1) rfl (.tmp rfl .nil) [0] trivial
theorem fn49 (s : GSystem) (sa1 : Option Addr) (sk1 : Nat) (sa2 : Option Addr) (sk2 : Nat) (sa3 : Option Addr) (sk3 : Nat) (hs_0 : i64ok s.Width) (rr : List GSet × Int × Int) (hrr : fixpoint_Solve s = rr) : FT Tryz.prog 49 #[.agg #[vi s.Width, vl sa1 sk1 s.Deps, vl sa2 sk2 s.Transfers, vl sa3 sk3 s.Boundary]] [S sa1 sk1 s.Deps, S sa2 sk2 s.Transfers, S sa3 sk3 s.Boundary] (fun g : Value => i64ok rr.2.1 ∧ i64ok rr.2.2) (fun g => .tuple #[g, vi rr.2.1, vi rr.2.2]) (fun g => [sl g rr.1]) := by
 refine FTi Tryz.func49 fun w0 M0 F0 => ?_
 unfold i64ok at hs_0
 refine Fb 24 0 fun hl1 => ?_
 refine Fb 88 1 fun hl2 => ?_
 refine Fb 32 2 fun hl3 => ?_
 refine KS ?_
 refine Oa (Ab [vi s.Width, vl sa1 sk1 s.Deps, vl sa2 sk2 s.Transfers, vl sa3 sk3 s.Boundary]) fun p4 => Oq Va (Oq Va (Oq Va (KS ?_)))
 refine Oq (VldA sh27 0) ?_
 refine letv (equations_Valid s) fun rv5 hg6 => ?_
 have hc7 := fn109 s sa1 sk1 sa2 sk2 sa3 sk3 pre rv5 hg6
 refine Oc [1, 2, 3] ca109 hc7 ?_
 rintro - -
 refine Oq Vnot (KS ?_)
 refine Kc ?_ ?_
 · intro h8
   have h10 := not_true h8
   refine KS ?_
   refine Oq Va (Oq Va (Oq Va (KS ?_)))
   refine Jl [] (Ent.slNil (α := GSet)) ?_
   have hq := q4 hrr ([], 0, 1) (by simp only [fixpoint_Solve, h8, h10, hg6, cs4]); subst hq
   exact Kr (.slice none 0 0) rfl (.tmp rfl (.tmp rfl (.tmp rfl .nil))) [0] en
 intro h8
 have h13 := not_false h8
 try (have hvs := (EValid_iff s).1 (by simp only [h8, h13, hg6]); have hv1 := hvs.n; have hv4 := hvs.w)
 refine KS ?_
 refine Oq (Vfa fo27_0 0) (Oq (VldF sh3 0) (Oq (Vfa fo27_1 0) (Oq (VldF sh23 0) (Oq (Vlen sl23) (Oq (Vf [p4]) ?_)))))
 refine JJ_ent (Ent.pall [0, 1, 2, 3] rfl rfl) ?_
 refine letv (fixpoint_rounds s.Width (s.Deps.length : Int) (fun x0 => fixpoint_Solve_1 x0 s)) fun rv16 hg17 => ?_
 have hc18 := fn110 s.Width ((s.Deps.length : Int)) 111 [p4] (fun x0 => fixpoint_Solve_1 x0 s) [pv p4 [vi s.Width, vl sa1 sk1 s.Deps, vl sa2 sk2 s.Transfers, vl sa3 sk3 s.Boundary], S sa1 sk1 s.Deps, S sa2 sk2 s.Transfers, S sa3 sk3 s.Boundary] pre pre ca111 (fun x0 a0 k0 => FT_pall (A1 := _) (fn111 x0 a0 k0 p4 s sa1 sk1 sa2 sk2 sa3 sk3 pre _ rfl)) pre (rounds_ok hvs) rv16 hg17
 refine Oc [0] ca110 hc18 ?_
 rintro c15 he19
 unfold i64ok at he19
 refine Jo 0 ?_; rintro a20 k21 rfl
 refine Fb 32 0 fun hl22 => ?_
 refine Oq Vm (Oq Vx (Oq Vx (Oq Va (Oq Va (KS ?_)))))
 refine Oq Vm (Oq Vm (Oq Va (Oq Va (Oq Va (KS ?_)))))
 have hq := q4 hrr (rv16.1, rv16.2, 0) (by simp only [fixpoint_Solve, h8, h13, hg6, hg17, cs4]); subst hq
 exact Kr (vl a20 k21 rv16.1) rfl (.tmp rfl (.tmp rfl (.tmp rfl .nil))) [0] en
theorem fn257 (data : List GKnown) (dataa0 : Option Addr) (datak0 : Nat) (a : Int) (b : Int) (cmpF : FuncId) (cmpC : List Value) (cmpp : GKnown → GKnown → Int) (cmpA : List SP) (ha_0 : i64ok a) (hb_0 : i64ok b) (hcmpc : callable Tryz.prog cmpF = true) (hcmpF : ∀ x0 x1, ∀ (a0 : Option Addr) (k0 : Nat) (a2 : Option Addr) (k2 : Nat), i64ok x0.Node → i64ok x0.Value.Width → i64ok x1.Node → i64ok x1.Value.Width → FT Tryz.prog cmpF ([(.agg #[vi x0.Node, vi x0.Value.Width, vl a0 k0 x0.Value.Words] : Value), (.agg #[vi x1.Node, vi x1.Value.Width, vl a2 k2 x1.Value.Words] : Value)] ++ cmpC).toArray ([S a0 k0 x0.Value.Words, S a2 k2 x1.Value.Words] ++ [pAll cmpA]) (fun _ : Unit => i64ok (cmpp x0 x1)) (fun _ => vi (cmpp x0 x1)) (fun _ => [])) (ha0 : 0 ≤ a ∧ a ≤ b ∧ b ≤ (data.length : Int)) (rr : List GKnown) (hrr : slices_insertionSortCmpFunc_Known data a b cmpp = rr) : FT Tryz.prog 257 #[vl dataa0 datak0 data, vi a, vi b, .func (.func cmpF) #[] cmpC.toArray] [O dataa0 datak0 data, pAll cmpA] (fun g : Unit => True) (fun g => .tuple #[]) (fun g => [os (vl dataa0 datak0 data) rr]) := by
 refine FTi Tryz.func257 fun w0 M0 F0 => ?_
 unfold i64ok at ha_0 hb_0
 refine Fb 40 0 fun hl1 => ?_
 refine KS ?_
 refine Oq Vm (Oq Vadd (Oq Va (KS ?_)))
 refine Kl (γ := Nat × List GKnown × Int) (fun (r2, data_3, i_4) => ⟨[(0, vl dataa0 datak0 data), (1, vi a), (2, vi b), (3, .func (.func cmpF) #[] cmpC.toArray), (8, vi i_4)], [os (vl dataa0 datak0 data) data_3, pAll cmpA], slices_insertionSortCmpFunc_Known_L0 a cmpp r2 data_3 i_4 = slices_insertionSortCmpFunc_Known_L0 a cmpp (((b : Int) - (a + 1)).toNat) data (a + 1) ∧ r2 = ((b : Int) - i_4).toNat ∧ ((a + 1) : Int) ≤ i_4 ∧ (i_4 ≤ b ∨ i_4 = (a + 1)) ∧ (-9223372036854775808 ≤ i_4 ∧ i_4 ≤ 9223372036854775807), r2⟩) (((b : Int) - (a + 1)).toNat, data, (a + 1)) [0, 0] ⟨rfl, rfl, (by omega), (.inr rfl), (by omega)⟩ ?_
 rintro ⟨r2, data_3, i_4⟩ ⟨hM5, hr6, hi7, hi8, hk9⟩
 refine JJ_nx fun _ _ hL hA => ?_; dsimp only at hL hA; subst hL hA
 refine Fb 40 0 fun hl10 => ?_
 refine Fl 0 fun hn11 => ?_
 refine KS ?_
 refine Oq Vm (Oq Vm (Oq Vlss (KS ?_)))
 refine Kc ?_ ?_
 · intro h12
   have g13 := of_decide_eq_true h12
   obtain ⟨r14, rfl⟩ := scc (n := r2) (by omega)
   refine KS ?_
   refine Oq Vm (Oq Va (KS ?_))
   refine Kl (γ := Nat × List GKnown × Int) (fun (r15, data_16, j_17) => ⟨[(0, vl dataa0 datak0 data), (1, vi a), (2, vi b), (3, .func (.func cmpF) #[] cmpC.toArray), (8, vi i_4), (9, vi j_17)], [os (vl dataa0 datak0 data) data_16, pAll cmpA], slices_insertionSortCmpFunc_Known_L1 cmpp r15 data_16 j_17 = slices_insertionSortCmpFunc_Known_L1 cmpp (((i_4 : Int) - a).toNat) data_3 i_4 ∧ r15 = ((j_17 : Int) - a).toNat ∧ j_17 ≤ (i_4 : Int) ∧ (-9223372036854775808 ≤ j_17 ∧ j_17 ≤ 9223372036854775807), r15⟩) (((i_4 : Int) - a).toNat, data_3, i_4) [0, 0] ⟨rfl, rfl, (by omega), (by omega)⟩ ?_
   rintro ⟨r15, data_16, j_17⟩ ⟨hM18, hr19, hi20, hk21⟩
   refine JJ_nx fun _ _ hL hA => ?_; dsimp only at hL hA; subst hL hA
   refine Fb 40 0 fun hl22 => ?_
   refine Fl 0 fun hn23 => ?_
   refine KS ?_
   refine bool_split (decide (a < j_17)) ?_ ?_
   · intro h24
     have g25 := of_decide_eq_true h24
     obtain ⟨r26, rfl⟩ := scc (n := r15) (by omega)
     refine JJ_peekO_GKnown j_17.toNat 0 rfl rng fun a27 k28 hb29 hb30 => ?_
     unfold i64ok at hb29 hb30
     refine Fb 8 1 fun hl31 => ?_
     refine JJ_peekO2_GKnown ((j_17 - 1) : Int).toNat 0 rfl rng fun a32 k33 hb34 hb35 => ?_
     unfold i64ok at hb34 hb35
     refine Fb 8 1 fun hl36 => ?_
     refine JK_drawK [0, 0, 3, 7, 15, 15, 15, 111, 239, 15, 15, 1039, 3599, 7695, 16383, 32767, 65535] fmix ?_
     refine Dv [] Vm (Dv [] Vm (Db h24 [] Vgtr (Dv [] Vm (Dv [] Vm (Dv [] Vm (Dv [] Vm (Dv [0] (Vi sl53 0) (Dv [0] (VldA sh67 0) (Dv [] Vm ?_)))))))))
     refine Dv [] Vm (Dv [] Vsub (Dv [0] (Vi sl53 0) (Dv [0] (VldA sh67 0) (Dx [1, 2, 3] [] [1, 2, 3, 0] (fun G => vi (cmpp (data_16.getD j_17.toNat default) (data_16.getD ((j_17 - 1) : Int).toNat default))) [fun G => SP.fact (i64ok (cmpp (data_16.getD j_17.toNat default) (data_16.getD ((j_17 - 1) : Int).toNat default)))] (fun G => xE («as» := [(.agg #[vi ((data_16.getD j_17.toNat default).Node), vi (((data_16.getD j_17.toNat default).Value).Width), vl a27 k28 (((data_16.getD j_17.toNat default).Value).Words)] : Value), (.agg #[vi ((data_16.getD ((j_17 - 1) : Int).toNat default).Node), vi (((data_16.getD ((j_17 - 1) : Int).toNat default).Value).Width), .slice a32 ((((data_16.getD ((j_17 - 1) : Int).toNat default).Value).Words).length) k33] : Value)] ++ cmpC) [1, 0, 2] hcmpc rfl rfl rfl (by simp) rfl (hcmpF (data_16.getD j_17.toNat default) (data_16.getD ((j_17 - 1) : Int).toNat default) a27 k28 a32 k33 pre pre pre pre)) (Dv [] Vlss (Dv [] Vpt ?_))))))
     refine Dn ⟨by kernel_rfl, fun G => ?_⟩
     refine Jw2 [(0, vl dataa0 datak0 data), (1, vi a), (2, vi b), (3, .func (.func cmpF) #[] cmpC.toArray), (8, vi i_4), (9, vi j_17), (34, vb (decide ((cmpp (data_16.getD j_17.toNat default) (data_16.getD ((j_17 - 1) : Int).toNat default)) < 0)))] [0, 1, 2, 3] [SP.fact (i64ok (cmpp (data_16.getD j_17.toNat default) (data_16.getD ((j_17 - 1) : Int).toNat default)))] ?_
     refine Jf 4 rfl ?_; rintro he37
     unfold i64ok at he37
     refine Jk [0, 0, 1, 2] ?_
     refine Kc ?_ ?_
     · intro h38
       have g39 := of_decide_eq_true h38
       refine KS ?_
       refine JK_drawK [0, 0, 0, 0, 8, 0, 0, 64, 224, 480, 0, 0, 3072, 7168, 16355, 32739, 65535, 131071] fmix ?_
       refine Dv [] Vm (Dv [] Vm (Dv [] Vm (Dv [] Vm (Dv [] Vsub (Dv [] Vm (Dv [] Vm (Dv [] Vsub (Dv [0] (Vi sl53 0) (Dv [0] (VldA sh67 0) ?_)))))))))
       refine Dv [] Vm (Dv [] Vm (Dv [0] (Vi sl53 0) (Dv [0] (VldA sh67 0) (Dv [0] (Vi sl53 0) ?_))))
       refine Dx0 [0, 1] [0] [1, 0] [fun G => os (vl dataa0 datak0 data) (data_16.set j_17.toNat (data_16.getD ((j_17 - 1) : Int).toNat default))] (fun G => xp [0] rfl (Ent.oread2 _ _ _ _ _ _) (xS (So (Rs := [S a32 k33 (((data_16.getD ((j_17 - 1) : Int).toNat default).Value).Words)]) [0, 0] sh67 (data_16.getD ((j_17 - 1) : Int).toNat default) (fun h => ⟨_, rfl, (by unfold i64ok; first | omega | (dsimp only; omega)), (by unfold i64ok; first | omega | (dsimp only; omega)), sepAll_get (i := 0) rfl h⟩)))) (Dv [4] (Vi sl53 0) ?_)
       refine Dx0 [2, 4] [4] [1, 0] [fun G => os (vl dataa0 datak0 data) ((data_16.set j_17.toNat (data_16.getD ((j_17 - 1) : Int).toNat default)).set ((j_17 - 1) : Int).toNat (data_16.getD j_17.toNat default))] (fun G => xS (So (Rs := [S a27 k28 (((data_16.getD j_17.toNat default).Value).Words)]) [1, 0] sh67 (data_16.getD j_17.toNat default) (fun h => ⟨_, rfl, (by unfold i64ok; first | omega | (dsimp only; omega)), (by unfold i64ok; first | omega | (dsimp only; omega)), sepAll_get (i := 0) rfl h⟩))) ?_
       refine Dn ⟨by kernel_rfl, fun G => ?_⟩
       refine Jw2 [(0, vl dataa0 datak0 data), (1, vi a), (2, vi b), (3, .func (.func cmpF) #[] cmpC.toArray), (8, vi i_4), (9, vi j_17)] [1, 2, 3] [os (vl dataa0 datak0 data) ((data_16.set j_17.toNat (data_16.getD ((j_17 - 1) : Int).toNat default)).set ((j_17 - 1) : Int).toNat (data_16.getD j_17.toNat default))] ?_
       refine KS ?_
       refine Oq Vm (Oq Vsub (Oq Va (KS ?_)))
       exact Kg (r26, ((data_16.set j_17.toNat (data_16.getD ((j_17 - 1) : Int).toNat default)).set ((j_17 - 1) : Int).toNat (data_16.getD j_17.toNat default)), (j_17 - 1)) [3, 2] ⟨(q3 hM18 (by simp only [slices_insertionSortCmpFunc_Known_L1, h12, h24, h38, cs4])), (by omega), (by omega), (by omega)⟩
     intro h38
     have g40 := of_decide_eq_false h38
     refine Jl [0] (Ent.oread2 _ _ _ _ _ _) ?_
     refine Ke ?_
     have hR41 := q2 hM18 data_16 (by simp only [slices_insertionSortCmpFunc_Known_L1, h12, h24, h38, cs4])
     refine KS ?_
     refine Oq Vm (Oq Vadd (Oq Va (KS ?_)))
     exact Kg (r14, data_16, (i_4 + 1)) [0, 2] ⟨(q3 hM5 (by simp only [slices_insertionSortCmpFunc_Known_L0, h12, h24, h38, hR41, cs4])), (by omega), (by omega), (by omega), (by omega)⟩
   intro h24
   have g42 := of_decide_eq_false h24
   obtain rfl : r15 = 0 := by omega
   refine Kq [0, 0, 3, 7, 15, 15, 15, 111, 239, 15, 15, 1039, 3599, 7695, 16383, 32767, 65535] fmix ?_
   refine Qv [] Vm (Qv [] Vm (Qb h24 [] Vgtr (Qv [] Vm (Qs (Qs (Qs (Qs (Qs (Qs ?_)))))))))
   refine Qs (Qs (Qs (Qs (Qs (Qs (Qv [] Vpf ?_))))))
   refine Qn ⟨by kernel_rfl, ?_⟩
   refine Kf ?_
   refine Ke ?_
   have hR43 := q2 hM18 data_16 (by simp only [slices_insertionSortCmpFunc_Known_L1, h12, h24, cs4])
   refine KS ?_
   refine Oq Vm (Oq Vadd (Oq Va (KS ?_)))
   exact Kg (r14, data_16, (i_4 + 1)) [0, 0] ⟨(q3 hM5 (by simp only [slices_insertionSortCmpFunc_Known_L0, h12, h24, hR43, cs4])), (by omega), (by omega), (by omega), (by omega)⟩
 intro h12
 have g44 := of_decide_eq_false h12
 obtain rfl : r2 = 0 := by omega
 refine Ke ?_
 have hR45 := q2 hM5 data_3 (by simp only [slices_insertionSortCmpFunc_Known_L0, h12, cs4])
 have hq := q4 hrr data_3 (by simp only [slices_insertionSortCmpFunc_Known, h12, hR45, cs4]); subst hq
 exact Kz () rfl .nil [0] trivial
theorem fn207 (data : List GKnown) (dataa0 : Option Addr) (datak0 : Nat) (n : Int) (cmpF : FuncId) (cmpC : List Value) (cmpp : GKnown → GKnown → Int) (cmpA : List SP) (hn_0 : i64ok n) (hcmpc : callable Tryz.prog cmpF = true) (hcmpF : ∀ x0 x1, ∀ (a0 : Option Addr) (k0 : Nat) (a2 : Option Addr) (k2 : Nat), i64ok x0.Node → i64ok x0.Value.Width → i64ok x1.Node → i64ok x1.Value.Width → FT Tryz.prog cmpF ([(.agg #[vi x0.Node, vi x0.Value.Width, vl a0 k0 x0.Value.Words] : Value), (.agg #[vi x1.Node, vi x1.Value.Width, vl a2 k2 x1.Value.Words] : Value)] ++ cmpC).toArray ([S a0 k0 x0.Value.Words, S a2 k2 x1.Value.Words] ++ [pAll cmpA]) (fun _ : Unit => i64ok (cmpp x0 x1)) (fun _ => vi (cmpp x0 x1)) (fun _ => [])) (ha0 : (data.length : Int) = n ∧ n ≤ 12) (rr : List GKnown) (hrr : slices_stableCmpFunc_Known data n cmpp = rr) : FT Tryz.prog 207 #[vl dataa0 datak0 data, vi n, .func (.func cmpF) #[] cmpC.toArray] [O dataa0 datak0 data, pAll cmpA] (fun g : Unit => True) (fun g => .tuple #[]) (fun g => [os (vl dataa0 datak0 data) rr]) := by
 refine FTi Tryz.func207 fun w0 M0 F0 => ?_
 unfold i64ok at hn_0
 refine Fb 40 0 fun hl1 => ?_
 refine KS ?_
 refine Oq Va (KS ?_)
 refine Oq Vm (Oq Va (Oq Va (KS ?_)))
 have hterm4 : slices_stableCmpFunc_Known_L0 1 ≠ LR.oof := (by unfold slices_stableCmpFunc_Known_L0; intro h; simp only [Bool.cond_eq_ite] at h; (repeat' split at h) <;> cases h)
 refine Kl (γ := Nat) (fun r2 => ⟨[(0, vl dataa0 datak0 data), (1, vi n), (2, .func (.func cmpF) #[] cmpC.toArray), (6, vi 20), (7, vi 0), (8, vi 20)], [O dataa0 datak0 data, pAll cmpA], slices_stableCmpFunc_Known_L0 r2 = slices_stableCmpFunc_Known_L0 1, r2⟩) 1 [0, 0] rfl ?_
 rintro r2 hM3
 refine JJ_nx fun _ _ hL hA => ?_; dsimp only at hL hA; subst hL hA
 refine Fb 40 0 fun hl5 => ?_
 rcases r2 with _ | r2
 · exact absurd (hM3.symm.trans rfl) hterm4
 refine KS ?_
 refine Oq Vm (Oq Vm (Oq Vleq (KS ?_)))
 refine Kc ?_ ?_
 · intro h6
   have g7 := of_decide_eq_true h6
   exfalso; omega
 intro h6
 have g8 := of_decide_eq_false h6
 refine Ke ?_
 have hR9 := q2 hM3 (.brk ()) (by simp only [slices_stableCmpFunc_Known_L0, h6, cs4])
 refine KS ?_
 refine Oq Vm (Oq Vm (Oq Vm (Oq Vm ?_)))
 refine letv (slices_insertionSortCmpFunc_Known data 0 n cmpp) fun rv10 hg11 => ?_
 have hc12 := fn257 data dataa0 datak0 0 n cmpF cmpC cmpp cmpA pre pre hcmpc hcmpF pre rv10 hg11
 refine Oc [0, 0] ca257 hc12 ?_
 rintro - -
 refine KS ?_
 have hterm15 : slices_stableCmpFunc_Known_L1 1 ≠ LR.oof := (by unfold slices_stableCmpFunc_Known_L1; intro h; simp only [Bool.cond_eq_ite] at h; (repeat' split at h) <;> cases h)
 refine Kl (γ := Nat) (fun r13 => ⟨[(0, vl dataa0 datak0 data), (1, vi n), (2, .func (.func cmpF) #[] cmpC.toArray), (6, vi 20)], [os (vl dataa0 datak0 data) rv10, pAll cmpA], slices_stableCmpFunc_Known_L1 r13 = slices_stableCmpFunc_Known_L1 1, r13⟩) 1 [0, 0] rfl ?_
 rintro r13 hM14
 refine JJ_nx fun _ _ hL hA => ?_; dsimp only at hL hA; subst hL hA
 refine Fb 40 0 fun hl16 => ?_
 refine Fl 0 fun hn17 => ?_
 rcases r13 with _ | r13
 · exact absurd (hM14.symm.trans rfl) hterm15
 refine KS ?_
 refine Oq Vm (Oq Vm (Oq Vlss (KS ?_)))
 refine Kc ?_ ?_
 · intro h18
   have g19 := of_decide_eq_true h18
   exfalso; omega
 intro h18
 have g20 := of_decide_eq_false h18
 refine Ke ?_
 have hR21 := q2 hM14 (.brk ()) (by simp only [slices_stableCmpFunc_Known_L1, h6, h18, hR9, hg11, cs4])
 have hq := q4 hrr rv10 (by simp only [slices_stableCmpFunc_Known, h6, h18, hR9, hg11, hR21, cs4]); subst hq
 exact Kz () rfl .nil [0] trivial
theorem fn146 (x : List GKnown) (xa0 : Option Addr) (xk0 : Nat) (cmpF : FuncId) (cmpC : List Value) (cmpp : GKnown → GKnown → Int) (cmpA : List SP) (hcmpc : callable Tryz.prog cmpF = true) (hcmpF : ∀ x0 x1, ∀ (a0 : Option Addr) (k0 : Nat) (a2 : Option Addr) (k2 : Nat), i64ok x0.Node → i64ok x0.Value.Width → i64ok x1.Node → i64ok x1.Value.Width → FT Tryz.prog cmpF ([(.agg #[vi x0.Node, vi x0.Value.Width, vl a0 k0 x0.Value.Words] : Value), (.agg #[vi x1.Node, vi x1.Value.Width, vl a2 k2 x1.Value.Words] : Value)] ++ cmpC).toArray ([S a0 k0 x0.Value.Words, S a2 k2 x1.Value.Words] ++ [pAll cmpA]) (fun _ : Unit => i64ok (cmpp x0 x1)) (fun _ => vi (cmpp x0 x1)) (fun _ => [])) (ha0 : x.length ≤ 12) (rr : List GKnown) (hrr : slices_SortStableFunc_Known x cmpp = rr) : FT Tryz.prog 146 #[vl xa0 xk0 x, .func (.func cmpF) #[] cmpC.toArray] [O xa0 xk0 x, pAll cmpA] (fun g : Unit => True) (fun g => .tuple #[]) (fun g => [os (vl xa0 xk0 x) rr]) := by
 refine FTi Tryz.func146 fun w0 M0 F0 => ?_
 refine Fb 40 0 fun hl1 => ?_
 refine KS ?_
 refine Oq Vm (Oq Vm (Oq (Vlen sl53) (Oq Vm ?_)))
 refine letv (slices_stableCmpFunc_Known x (x.length : Int) cmpp) fun rv2 hg3 => ?_
 have hc4 := fn207 x xa0 xk0 ((x.length : Int)) cmpF cmpC cmpp cmpA pre hcmpc hcmpF pre rv2 hg3
 refine Oc [0, 0] ca207 hc4 ?_
 rintro - -
 refine KS ?_
 have hq := q4 hrr rv2 (by simp only [slices_SortStableFunc_Known, hg3, cs4]); subst hq
 exact Kz () rfl .nil [0] trivial
theorem fn147 (a : GKnown) (aa2 : Option Addr) (ak2 : Nat) (b : GKnown) (ba2 : Option Addr) (bk2 : Nat) (ha_0 : i64ok a.Node) (ha_1 : i64ok a.Value.Width) (hb_0 : i64ok b.Node) (hb_1 : i64ok b.Value.Width) (rr : Int) (hrr : solver_Final_1 a b = rr) : FT Tryz.prog 147 #[.agg #[vi a.Node, vi a.Value.Width, vl aa2 ak2 a.Value.Words], .agg #[vi b.Node, vi b.Value.Width, vl ba2 bk2 b.Value.Words]] [S aa2 ak2 a.Value.Words, S ba2 bk2 b.Value.Words] (fun g : Unit => i64ok rr) (fun g => vi rr) (fun g => []) := by
 refine FTi Tryz.func147 fun w0 M0 F0 => ?_
 unfold i64ok at ha_0 ha_1 hb_0 hb_1
 refine Fb 8 0 fun hl1 => ?_
 refine Fb 8 1 fun hl2 => ?_
 refine KS ?_
 refine Oa (Ab [vi a.Node, vi a.Value.Width, vl aa2 ak2 a.Value.Words]) fun p3 => Oa (Ab [vi b.Node, vi b.Value.Width, vl ba2 bk2 b.Value.Words]) fun p4 => Oq Va (KS ?_)
 refine Oq (Vfa fo67_0 1) (Oq (VldF sh3 1) (Oq (Vfa fo67_0 0) (Oq (VldF sh3 0) ?_)))
 refine letv (cmp_Compare_int a.Node b.Node) fun rv5 hg6 => ?_
 have hc7 := fn148 a.Node b.Node pre pre rv5 hg6
 refine Oc [] ca148 hc7 ?_
 rintro - he8
 unfold i64ok at he8
 refine Oq Va (KS ?_)
 have hq := q4 hrr rv5 (by simp only [solver_Final_1, hg6, cs4]); subst hq
 exact Kr () rfl (.tmp rfl .nil) [] en
theorem fn63 (st : GState) (sta1 : Option Addr) (stk1 : Nat) (sta2 : Option Addr) (stk2 : Nat) (sta5 : Option Addr) (stk5 : Nat) (sta6 : Option Addr) (stk6 : Nat) (hst_0 : i64ok st.Phase) (hst_3 : i64ok st.At) (hst_4 : i64ok st.Edge) (hst_7 : i64ok st.Steps) (hc12 : st.Cone.length ≤ 12) (rr : List GKnown) (hrr : solver_Final st = rr) : FT Tryz.prog 63 #[.agg #[vi st.Phase, vl sta1 stk1 st.Cone, vl sta2 stk2 st.Leaf, vi st.At, vi st.Edge, vl sta5 stk5 st.Values, vl sta6 stk6 st.Queue, vi st.Steps]] [S sta1 stk1 st.Cone, S sta2 stk2 st.Leaf, S sta5 stk5 st.Values, S sta6 stk6 st.Queue] (fun g : Value => True) (fun g => g) (fun g => [sl g rr]) := by
 refine FTi Tryz.func63 fun w0 M0 F0 => ?_
 unfold i64ok at hst_0 hst_3 hst_4 hst_7
 refine Fb 8 0 fun hl1 => ?_
 refine Fo 0 fun ho2 => ?_
 refine Fb 1 1 fun hl3 => ?_
 refine Fb 32 2 fun hl4 => ?_
 refine Fb 8 3 fun hl5 => ?_
 refine Fo 3 fun ho6 => ?_
 refine KS ?_
 refine Oa (Ab [vi st.Phase, vl sta1 stk1 st.Cone, vl sta2 stk2 st.Leaf, vi st.At, vi st.Edge, vl sta5 stk5 st.Values, vl sta6 stk6 st.Queue, vi st.Steps]) fun p7 => Oq Va (KS ?_)
 refine Oq Va (KS ?_)
 refine Oq Va (KS ?_)
 refine Jl [] (Ent.osNil (α := GKnown)) ?_
 have hterm16 : solver_Final_L0 st (st.Cone.length + 1) [] 0 ≠ LR.oof := (pFinal_term _ _ _ _ (by omega))
 refine Kl (γ := Nat × List GKnown × Int × Option Addr × Nat) (fun (r8, out_9, i_10, a11, k12) => ⟨[(1, p7), (3, vl a11 k12 out_9), (4, vi i_10)], [O a11 k12 out_9, pv p7 [vi st.Phase, vl sta1 stk1 st.Cone, vl sta2 stk2 st.Leaf, vi st.At, vi st.Edge, vl sta5 stk5 st.Values, vl sta6 stk6 st.Queue, vi st.Steps], S sta1 stk1 st.Cone, S sta2 stk2 st.Leaf, S sta5 stk5 st.Values, S sta6 stk6 st.Queue], solver_Final_L0 st r8 out_9 i_10 = solver_Final_L0 st (st.Cone.length + 1) [] 0 ∧ (-9223372036854775808 ≤ i_10 ∧ i_10 ≤ 9223372036854775807) ∧ (i_10 ≤ (st.Cone.length : Int) ∧ (out_9.length : Int) ≤ i_10 ∧ 0 ≤ i_10), r8⟩) ((st.Cone.length + 1), [], 0, none, 0) [0, 0, 1, 2, 3, 4] ⟨rfl, (by omega), iv0⟩ ?_
 rintro ⟨r8, out_9, i_10, a11, k12⟩ ⟨hM13, hk14, hv15⟩
 refine JJ_nx fun _ _ hL hA => ?_; dsimp only at hL hA; subst hL hA
 refine Fb 40 0 fun hl17 => ?_
 refine Fb 8 2 fun hl18 => ?_
 refine Fo 2 fun ho19 => ?_
 refine Fb 1 3 fun hl20 => ?_
 refine Fb 32 4 fun hl21 => ?_
 refine Fb 8 5 fun hl22 => ?_
 refine Fo 5 fun ho23 => ?_
 rcases r8 with _ | r8
 · exact absurd (hM13.symm.trans rfl) hterm16
 refine KS ?_
 refine Oq (Vfa fo59_0 1) (Oq (VldF sh3 1) (Oq Veql (Oq Vm ?_)))
 refine Js 8 ?_ ?_
 · intro h24
   have g25 := eq_of_beq h24
   refine Oq Vm (Oq (Vfa fo59_1 1) (Oq (VldF sh22 1) (Oq (Vlen sl22) (Oq (Vfa fo59_2 1) (Oq (VldF sh57 1) (Oq (Vlen sl57) (Oq (Vfa fo59_5 1) (Oq (VldF sh25 1) (Oq (Vlen sl25) ?_)))))))))
   refine Oq Vmin3 (Oq Vlss (Oq Vpt (KS ?_)))
   refine Kc ?_ ?_
   · intro h26
     have g27 := of_decide_eq_true h26
     refine KS ?_
     refine Oq (Vfa fo59_2 1) (Oq (VldF sh57 1) (Oq Vm (Oq (Vi sl57 3) (Oq (VldB sh4 3) (Oq Vnot (KS ?_))))))
     refine Kc ?_ ?_
     · intro h28
       have h30 := not_true h28
       refine JJ_peek_GSet i_10.toNat 4 rfl rng fun a32 k33 hb34 => ?_
       unfold i64ok at hb34
       refine Fb 8 1 fun hl35 => ?_
       refine JK_drawK [0, 0, 2, 0, 14, 30, 0, 64, 0, 448, 960, 1984, 4094, 8190, 16383, 32767] fmix ?_
       refine Dv [] Vm (Dv [3] (Vfa fo59_1 0) (Dv [3] (VldF sh22 0) (Dv [] Vm (Dv [4] (Vi sl22 0) ?_))))
       have hb36 := ok1 (i := i_10.toNat) ho19 rng
       refine Dv [4] (VldI sh3 0) (Dv [3] (Vfa fo59_5 0) (Dv [3] (VldF sh25 0) (Dv [] Vm (Dv [6] (Vi sl25 0) (Dv [0] (VldA sh42 0) ?_)))))
       refine letv (solver_clone (st.Values.getD i_10.toNat default)) fun rv38 hg39 => ?_
       refine Dx [1] [] [2, 0, 1] (fun G => .agg #[vi rv38.Width, (G.g 11 0)]) [fun G => SP.fact (i64ok rv38.Width), fun G => os (G.g 11 0) rv38.Words] (fun G => xC [0] ca106 (fn106 ((st.Values.getD i_10.toNat default)) a32 k33 pre rv38 hg39)) ?_
       refine Dx [9] [] [0] (fun G => .agg #[vi (st.Cone.getD i_10.toNat 0), vi rv38.Width, (G.g 11 0)]) [] (fun G => xV (v := .agg #[vi (st.Cone.getD i_10.toNat 0), vi rv38.Width, (G.g 11 0)]) (Vo 0 rfl (isO_os _ _) fun aq40 kq41 eq42 => (by rw [eq42]; exact Vbd st67 [vi (st.Cone.getD i_10.toNat 0), vi rv38.Width, .slice aq40 ((rv38.Words : List (BitVec 64)).length) kq41]))) (Dx [] [] [0] (fun G => (G.g 13 0)) [fun G => Cr (G.g 13 0) 1 [vi (st.Cone.getD i_10.toNat 0), vi rv38.Width, (G.g 11 0)]] (fun G => xA (AsV sl53 sz53 [.agg #[vi (st.Cone.getD i_10.toNat 0), vi rv38.Width, (G.g 11 0)]] [vi (st.Cone.getD i_10.toNat 0), vi rv38.Width, (G.g 11 0)])) ?_)
       have hn45 := la out_9 ([(GKnown.mk (st.Cone.getD i_10.toNat 0) rv38)] : List GKnown)
       refine Dx [2, 8, 9, 10] [2, 9, 10] [3, 1, 0] (fun G => (G.g 14 0)) [fun G => sl (G.g 11 0) rv38.Words, fun G => os (G.g 14 0) ((out_9 ++ [(GKnown.mk (st.Cone.getD i_10.toNat 0) rv38)]) : List GKnown)] (fun G => by refine xf 1 rfl ?_; rintro he46; unfold i64ok at he46; exact xp [2] rfl (Ent.freeze _ _) (xp [3, 0] rfl (Ent.cr1 (α := GKnown) (A := [sl (G.g 11 0) rv38.Words]) _ (GKnown.mk (st.Cone.getD i_10.toNat 0) rv38) _ (Nat.le_of_ble_eq_true rfl) (fun h => ⟨_, rfl, (by unfold i64ok; first | omega | (dsimp only; omega)), (by unfold i64ok; first | omega | (dsimp only; omega)), sepAll_get (i := 0) rfl h⟩)) (xA (ApO [3, 0] sl53 sl53 sz53)))) (Dg [] (fun G => (G.g 14 0)) (fun G => Va) ?_)
       refine Dn ⟨by kernel_rfl, fun G => ?_⟩
       refine Jw2 [(1, p7), (4, vi i_10), (3, (G.g 14 0))] [0, 1, 3, 4, 5, 6, 7] [SP.fact (i64ok rv38.Width), sl (G.g 11 0) rv38.Words, os (G.g 14 0) ((out_9 ++ [(GKnown.mk (st.Cone.getD i_10.toNat 0) rv38)]) : List GKnown)] ?_
       generalize G.g 11 0 = c37, G.g 14 0 = c44
       refine Jf 7 rfl ?_; rintro he47
       unfold i64ok at he47
       refine Jk [0, 1, 2, 3, 4, 5, 6, 8, 9] ?_
       refine Jo 7 ?_; rintro a48 k49 rfl
       refine Fb 8 7 fun hl50 => ?_
       refine Jo 8 ?_; rintro a51 k52 rfl
       refine Fb 40 8 fun hl53 => ?_
       refine KS ?_
       refine Oq Vm (Oq Vadd (Oq Va (KS ?_)))
       exact Kg (r8, (out_9 ++ [(GKnown.mk (st.Cone.getD i_10.toNat 0) rv38)]), (i_10 + 1), a51, k52) [8, 2, 3, 4, 5, 6] ⟨(q3 hM13 (by simp only [solver_Final_L0, h24, h26, h28, h30, hg39, cs4])), (by omega), iv1⟩
     intro h28
     have h55 := not_false h28
     refine KS ?_
     refine Oq Vm (Oq Vadd (Oq Va (KS ?_)))
     exact Kg (r8, out_9, (i_10 + 1), a11, k12) [0, 0, 1, 2, 3, 4] ⟨(q3 hM13 (by simp only [solver_Final_L0, h24, h26, h28, h55, cs4])), (by omega), iv1⟩
   intro h26
   have g57 := of_decide_eq_false h26
   refine Ke ?_
   have hR58 := q2 hM13 (.brk out_9) (by simp only [solver_Final_L0, h24, h26, cs4])
   refine KS ?_
   refine Oq Vm ?_
   refine JJ_ent (Ent.pall [] rfl rfl) ?_
   refine letv (slices_SortStableFunc_Known out_9 (fun x0 x1 => solver_Final_1 x0 x1)) fun rv59 hg60 => ?_
   have hc61 := fn146 out_9 a11 k12 147 [] (fun x0 x1 => solver_Final_1 x0 x1) [] ca147 (fun x0 x1 a0 k0 a2 k2 hq0 hq1 hq2 hq3 => FT_pall (A1 := _) (fn147 x0 a0 k0 x1 a2 k2  hq0 hq1 hq2 hq3 _ rfl)) pre rv59 hg60
   refine Oc [1, 0] ca146 hc61 ?_
   rintro - -
   refine KS ?_
   refine Oq Vm (Oq Va (KS ?_))
   refine Jl [0] (Ent.freeze _ _) ?_
   have hq := q4 hrr rv59 (by simp only [solver_Final, h24, h26, hR58, hg60, cs4]); subst hq
   exact Kr (vl a11 k12 out_9) rfl (.tmp rfl .nil) [0] trivial
 intro h24
 have g62 := ne_of_beq_false h24
 refine Osk (Osk (Osk (Osk (Osk (Osk (Osk (Osk (Osk (Osk ?_)))))))))
 refine Osk (Osk (Oq Vpf (KS ?_)))
 refine Kf ?_
 refine Ke ?_
 have hR63 := q2 hM13 (.brk out_9) (by simp only [solver_Final_L0, h24, cs4])
 refine KS ?_
 refine Oq Vm ?_
 refine JJ_ent (Ent.pall [] rfl rfl) ?_
 refine letv (slices_SortStableFunc_Known out_9 (fun x0 x1 => solver_Final_1 x0 x1)) fun rv64 hg65 => ?_
 have hc66 := fn146 out_9 a11 k12 147 [] (fun x0 x1 => solver_Final_1 x0 x1) [] ca147 (fun x0 x1 a0 k0 a2 k2 hq0 hq1 hq2 hq3 => FT_pall (A1 := _) (fn147 x0 a0 k0 x1 a2 k2  hq0 hq1 hq2 hq3 _ rfl)) pre rv64 hg65
 refine Oc [1, 0] ca146 hc66 ?_
 rintro - -
 refine KS ?_
 refine Oq Vm (Oq Va (KS ?_))
 refine Jl [0] (Ent.freeze _ _) ?_
 have hq := q4 hrr rv64 (by simp only [solver_Final, h24, hR63, hg65, cs4]); subst hq
 exact Kr (vl a11 k12 out_9) rfl (.tmp rfl .nil) [0] trivial
theorem fn252 (x : Int) (y : Int) (hx_0 : i64ok x) (hy_0 : i64ok y) (rr : Bool) (hrr : cmp_Less_int x y = rr) : FT Tryz.prog 252 #[vi x, vi y] [] (fun g : Unit => True) (fun g => vb rr) (fun g => []) := by
 refine FTi Tryz.func252 fun w0 M0 F0 => ?_
 unfold i64ok at hx_0 hy_0
 refine KS ?_
 refine Oq Va (KS ?_)
 refine Oq Vm ?_
 refine letv (cmp_isNaN_int x) fun rv1 hg2 => ?_
 have hc3 := fn208 x pre rv1 hg2
 refine Oc [] ca208 hc3 ?_
 rintro - -
 refine Oq Vm ?_
 refine Js 7 ?_ ?_
 · intro h4
   refine Oq Vm ?_
   refine letv (cmp_isNaN_int y) fun rv6 hg7 => ?_
   have hc8 := fn208 y pre rv6 hg7
   refine Oc [] ca208 hc8 ?_
   rintro - -
   refine Oq Vnot (Oq Vpt (Oq Vm ?_))
   refine Js 12 ?_ ?_
   · intro h9
     have h11 := not_true h9
     refine Osk (Osk (Osk (Oq Vpt (Oq Va (KS ?_)))))
     have hq := q4 hrr true (by simp only [cmp_Less_int, h4, h9, h11, hg2, hg7, cs4]); subst hq
     exact Kr () rfl (.tmp rfl .nil) [] trivial
   intro h9
   have h14 := not_false h9
   refine Oq Vm (Oq Vm (Oq Vlss (Oq Vpf (Oq Va (KS ?_)))))
   have hq := q4 hrr (decide (x < y)) (by simp only [cmp_Less_int, h4, h9, h14, hg2, hg7, cs4]); subst hq
   exact Kr () rfl (.tmp rfl .nil) [] trivial
 intro h4
 refine Osk (Osk (Osk (Oq Vpf (Oq Vm (Oq Vm (Oq Vm (Oq Vlss (Oq Vpf (Oq Va ?_)))))))))
 refine KS ?_
 have hq := q4 hrr (decide (x < y)) (by simp only [cmp_Less_int, h4, hg2, cs4]); subst hq
 exact Kr () rfl (.tmp rfl .nil) [] trivial
theorem fn246 (data : List Int) (dataa0 : Option Addr) (datak0 : Nat) (a : Int) (b : Int) (ha_0 : i64ok a) (hb_0 : i64ok b) (ha0 : 0 ≤ a ∧ a ≤ b ∧ b ≤ (data.length : Int)) (rr : List Int) (hrr : slices_insertionSortOrdered_int data a b = rr) : FT Tryz.prog 246 #[vl dataa0 datak0 data, vi a, vi b] [O dataa0 datak0 data] (fun g : Unit => True) (fun g => .tuple #[]) (fun g => [os (vl dataa0 datak0 data) rr]) := by
 refine FTi Tryz.func246 fun w0 M0 F0 => ?_
 unfold i64ok at ha_0 hb_0
 refine Fb 8 0 fun hl1 => ?_
 refine Fo 0 fun ho2 => ?_
 refine KS ?_
 refine Oq Vm (Oq Vadd (Oq Va (KS ?_)))
 refine Kl (γ := Nat × List Int × Int) (fun (r3, data_4, i_5) => ⟨[(0, vl dataa0 datak0 data), (1, vi a), (2, vi b), (6, vi i_5)], [os (vl dataa0 datak0 data) data_4], slices_insertionSortOrdered_int_L0 a r3 data_4 i_5 = slices_insertionSortOrdered_int_L0 a (((b : Int) - (a + 1)).toNat) data (a + 1) ∧ r3 = ((b : Int) - i_5).toNat ∧ ((a + 1) : Int) ≤ i_5 ∧ (i_5 ≤ b ∨ i_5 = (a + 1)) ∧ (-9223372036854775808 ≤ i_5 ∧ i_5 ≤ 9223372036854775807), r3⟩) (((b : Int) - (a + 1)).toNat, data, (a + 1)) [0] ⟨rfl, rfl, (by omega), (.inr rfl), (by omega)⟩ ?_
 rintro ⟨r3, data_4, i_5⟩ ⟨hM6, hr7, hi8, hi9, hk10⟩
 refine JJ_nx fun _ _ hL hA => ?_; dsimp only at hL hA; subst hL hA
 refine Fb 8 0 fun hl11 => ?_
 refine Fo 0 fun ho12 => ?_
 refine Fl 0 fun hn13 => ?_
 refine KS ?_
 refine Oq Vm (Oq Vm (Oq Vlss (KS ?_)))
 refine Kc ?_ ?_
 · intro h14
   have g15 := of_decide_eq_true h14
   obtain ⟨r16, rfl⟩ := scc (n := r3) (by omega)
   refine KS ?_
   refine Oq Vm (Oq Va (KS ?_))
   refine Kl (γ := Nat × List Int × Int) (fun (r17, data_18, j_19) => ⟨[(0, vl dataa0 datak0 data), (1, vi a), (2, vi b), (6, vi i_5), (7, vi j_19)], [os (vl dataa0 datak0 data) data_18], slices_insertionSortOrdered_int_L1 r17 data_18 j_19 = slices_insertionSortOrdered_int_L1 (((i_5 : Int) - a).toNat) data_4 i_5 ∧ r17 = ((j_19 : Int) - a).toNat ∧ j_19 ≤ (i_5 : Int) ∧ (-9223372036854775808 ≤ j_19 ∧ j_19 ≤ 9223372036854775807), r17⟩) (((i_5 : Int) - a).toNat, data_4, i_5) [0] ⟨rfl, rfl, (by omega), (by omega)⟩ ?_
   rintro ⟨r17, data_18, j_19⟩ ⟨hM20, hr21, hi22, hk23⟩
   refine JJ_nx fun _ _ hL hA => ?_; dsimp only at hL hA; subst hL hA
   refine Fb 8 0 fun hl24 => ?_
   refine Fo 0 fun ho25 => ?_
   refine Fl 0 fun hn26 => ?_
   refine KS ?_
   refine JK_drawK [0, 0, 3, 7, 15, 15, 63, 127, 15, 15, 527, 1807, 3855, 8191, 16383] fmix ?_
   refine Dv [] Vm (Dv [] Vm (Dv [] Vgtr ?_))
   refine bool_split (decide (a < j_19)) ?_ ?_
   · intro h27
     have g28 := of_decide_eq_true h27
     obtain ⟨r29, rfl⟩ := scc (n := r17) (by omega)
     refine Db h27 [] Vm (Dv [] Vm (Dv [] Vm (Dv [0] (Vi sl22 0) ?_)))
     have hb30 := ok1 (i := j_19.toNat) ho25 rng
     refine Dv [0] (VldI sh3 0) (Dv [] Vm (Dv [] Vm (Dv [] Vsub (Dv [0] (Vi sl22 0) ?_))))
     have hb31 := ok1 (i := ((j_19 - 1) : Int).toNat) ho25 rng
     refine Dv [0] (VldI sh3 0) ?_
     refine letv (cmp_Less_int (data_18.getD j_19.toNat 0) (data_18.getD ((j_19 - 1) : Int).toNat 0)) fun rv32 hg33 => ?_
     refine Dx [] [] [0] (fun G => vb rv32) [fun G => SP.fact (True)] (fun G => xC [] ca252 (fn252 ((data_18.getD j_19.toNat 0)) ((data_18.getD ((j_19 - 1) : Int).toNat 0)) pre pre rv32 hg33)) (Dv [] Vpt ?_)
     refine Dn ⟨by kernel_rfl, fun G => ?_⟩
     refine Jw2 [(0, vl dataa0 datak0 data), (1, vi a), (2, vi b), (6, vi i_5), (7, vi j_19), (30, vb rv32)] [0] [SP.fact (True)] ?_
     refine Jk [0] ?_
     refine Kc ?_ ?_
     · intro h34
       refine KS ?_
       refine JK_drawK [0, 0, 0, 0, 8, 0, 0, 64, 224, 480, 0, 0, 3072, 7168, 16355, 32739, 65535, 131071] fmix ?_
       refine Dv [] Vm (Dv [] Vm (Dv [] Vm (Dv [] Vm (Dv [] Vsub (Dv [] Vm (Dv [] Vm (Dv [] Vsub (Dv [0] (Vi sl22 0) ?_))))))))
       have hb36 := ok1 (i := ((j_19 - 1) : Int).toNat) ho25 rng
       refine Dv [0] (VldI sh3 0) (Dv [] Vm (Dv [] Vm (Dv [0] (Vi sl22 0) ?_)))
       have hb37 := ok1 (i := j_19.toNat) ho25 rng
       refine Dv [0] (VldI sh3 0) (Dv [0] (Vi sl22 0) (Dx0 [0] [0] [0] [fun G => os (vl dataa0 datak0 data) (data_18.set j_19.toNat (data_18.getD ((j_19 - 1) : Int).toNat 0))] (fun G => xS (SoI [0] sh3)) (Dv [1] (Vi sl22 0) (Dx0 [1] [1] [0] [fun G => os (vl dataa0 datak0 data) ((data_18.set j_19.toNat (data_18.getD ((j_19 - 1) : Int).toNat 0)).set ((j_19 - 1) : Int).toNat (data_18.getD j_19.toNat 0))] (fun G => xS (SoI [0] sh3)) ?_))))
       refine Dn ⟨by kernel_rfl, fun G => ?_⟩
       refine Jw2 [(0, vl dataa0 datak0 data), (1, vi a), (2, vi b), (6, vi i_5), (7, vi j_19)] [] [os (vl dataa0 datak0 data) ((data_18.set j_19.toNat (data_18.getD ((j_19 - 1) : Int).toNat 0)).set ((j_19 - 1) : Int).toNat (data_18.getD j_19.toNat 0))] ?_
       refine KS ?_
       refine Oq Vm (Oq Vsub (Oq Va (KS ?_)))
       exact Kg (r29, ((data_18.set j_19.toNat (data_18.getD ((j_19 - 1) : Int).toNat 0)).set ((j_19 - 1) : Int).toNat (data_18.getD j_19.toNat 0)), (j_19 - 1)) [0] ⟨(q3 hM20 (by simp only [slices_insertionSortOrdered_int_L1, h14, h27, h34, hg33, cs4])), (by omega), (by omega), (by omega)⟩
     intro h34
     refine Ke ?_
     have hR39 := q2 hM20 data_18 (by simp only [slices_insertionSortOrdered_int_L1, h14, h27, h34, hg33, cs4])
     refine KS ?_
     refine Oq Vm (Oq Vadd (Oq Va (KS ?_)))
     exact Kg (r16, data_18, (i_5 + 1)) [0] ⟨(q3 hM6 (by simp only [slices_insertionSortOrdered_int_L0, h14, h27, h34, hg33, hR39, cs4])), (by omega), (by omega), (by omega), (by omega)⟩
   intro h27
   have g40 := of_decide_eq_false h27
   obtain rfl : r17 = 0 := by omega
   refine Db h27 [] Vm (Ds (Ds (Ds (Ds (Ds (Ds (Ds (Ds (Ds ?_)))))))))
   refine Ds (Dv [] Vpf ?_)
   refine Dn ⟨by kernel_rfl, fun G => ?_⟩
   refine Jw2 [(0, vl dataa0 datak0 data), (1, vi a), (2, vi b), (6, vi i_5), (7, vi j_19), (30, vb false)] [0] [] ?_
   refine Kf ?_
   refine Ke ?_
   have hR41 := q2 hM20 data_18 (by simp only [slices_insertionSortOrdered_int_L1, h14, h27, cs4])
   refine KS ?_
   refine Oq Vm (Oq Vadd (Oq Va (KS ?_)))
   exact Kg (r16, data_18, (i_5 + 1)) [0] ⟨(q3 hM6 (by simp only [slices_insertionSortOrdered_int_L0, h14, h27, hR41, cs4])), (by omega), (by omega), (by omega), (by omega)⟩
 intro h14
 have g42 := of_decide_eq_false h14
 obtain rfl : r3 = 0 := by omega
 refine Ke ?_
 have hR43 := q2 hM6 data_4 (by simp only [slices_insertionSortOrdered_int_L0, h14, cs4])
 have hq := q4 hrr data_4 (by simp only [slices_insertionSortOrdered_int, h14, hR43, cs4]); subst hq
 exact Kz () rfl .nil [0] trivial
theorem fn203 (data : List Int) (dataa0 : Option Addr) (datak0 : Nat) (a : Int) (b : Int) (limit : Int) (ha_0 : i64ok a) (hb_0 : i64ok b) (hlimit_0 : i64ok limit) (ha0 : 0 ≤ a ∧ a ≤ b ∧ b ≤ (data.length : Int) ∧ b - a ≤ 12) (rr : List Int) (hrr : slices_pdqsortOrdered_int data a b limit = rr) : FT Tryz.prog 203 #[vl dataa0 datak0 data, vi a, vi b, vi limit] [O dataa0 datak0 data] (fun g : Unit => True) (fun g => .tuple #[]) (fun g => [os (vl dataa0 datak0 data) rr]) := by
 refine FTi Tryz.func203 fun w0 M0 F0 => ?_
 unfold i64ok at ha_0 hb_0 hlimit_0
 refine Fb 8 0 fun hl1 => ?_
 refine Fo 0 fun ho2 => ?_
 refine KS ?_
 refine Oq Va (KS ?_)
 refine Oq Va (KS ?_)
 have hterm5 : slices_pdqsortOrdered_int_L0 data a b 1 ≠ LR.oof := (by unfold slices_pdqsortOrdered_int_L0; intro h; simp only [Bool.cond_eq_ite] at h; (repeat' split at h) <;> cases h)
 refine Kl (γ := Nat) (fun r3 => ⟨[(0, vl dataa0 datak0 data), (1, vi a), (2, vi b), (3, vi limit), (8, vb true), (9, vb true)], [O dataa0 datak0 data], slices_pdqsortOrdered_int_L0 data a b r3 = slices_pdqsortOrdered_int_L0 data a b 1, r3⟩) 1 [0] rfl ?_
 rintro r3 hM4
 refine JJ_nx fun _ _ hL hA => ?_; dsimp only at hL hA; subst hL hA
 refine Fb 8 0 fun hl6 => ?_
 refine Fo 0 fun ho7 => ?_
 rcases r3 with _ | r3
 · exact absurd (hM4.symm.trans rfl) hterm5
 refine KS ?_
 refine Oq Vm (Oq Vm (Oq Vsub (Oq Va (KS ?_))))
 refine Oq Vm (Oq Vleq (KS ?_))
 refine Kc ?_ ?_
 · intro h8
   have g9 := of_decide_eq_true h8
   refine KS ?_
   refine Oq Vm (Oq Vm (Oq Vm ?_))
   refine letv (slices_insertionSortOrdered_int data a b) fun rv10 hg11 => ?_
   have hc12 := fn246 data dataa0 datak0 a b pre pre pre rv10 hg11
   refine Oc [0] ca246 hc12 ?_
   rintro - -
   refine KS ?_
   have hR13 := q2 hM4 (.ret rv10) (by simp only [slices_pdqsortOrdered_int_L0, h8, hg11, cs4])
   have hq := q4 hrr rv10 (by simp only [slices_pdqsortOrdered_int, h8, hg11, hR13, cs4]); subst hq
   exact Kr () rfl .nil [0] trivial
 intro h8
 have g14 := of_decide_eq_false h8
 exfalso; omega
theorem fn256 (x : BitVec 64) (hx0 : x.toNat ≤ 255) (rr : Int) (hrr : bits_Len64 x = rr) : FT Tryz.prog 256 #[u64 x] [] (fun g : Unit => i64ok rr) (fun g => vi rr) (fun g => []) := by
 refine FTi Tryz.func256 fun w0 M0 F0 => ?_
 refine KS ?_
 refine Oq Va (KS ?_)
 refine Oq Vm (Oq (Vgeq (a := (x.toNat : Int)) (b := 4294967296)) (KS ?_))
 refine Kc ?_ ?_
 · intro h1
   have g2 := of_decide_eq_true h1
   exfalso; omega
 intro h1
 have g3 := of_decide_eq_false h1
 refine KS ?_
 refine Oq Vm (Oq (Vgeq (a := (x.toNat : Int)) (b := 65536)) (KS ?_))
 refine Kc ?_ ?_
 · intro h4
   have g5 := of_decide_eq_true h4
   exfalso; omega
 intro h4
 have g6 := of_decide_eq_false h4
 refine KS ?_
 refine Oq Vm (Oq (Vgeq (a := (x.toNat : Int)) (b := 256)) (KS ?_))
 refine Kc ?_ ?_
 · intro h7
   have g8 := of_decide_eq_true h7
   exfalso; omega
 intro h7
 have g9 := of_decide_eq_false h7
 refine KS ?_
 refine Oq Vm (Oq Vm (Oq (VcU8 un122 un5) ?_))
 refine Oq (Vix un9 (l := tab0) (h := ⟨by omega, by rw [show tab0.length = 256 from rfl]; omega⟩)) ?_
 have hb10 := u8b (tab0.getD ((x.toNat : Int) : Int).toNat 0)
 refine Oq (VcK un5 un3) (Oq Vadd (Oq Va (KS ?_)))
 have hq := q4 hrr (0 + ((tab0.getD ((x.toNat : Int) : Int).toNat 0).toNat : Int)) (by simp only [bits_Len64, h1, h4, h7, cs4]); subst hq
 exact Kr () rfl (.tmp rfl .nil) [] en
theorem fn204 (x : BitVec 64) (hx0 : x.toNat ≤ 255) (rr : Int) (hrr : bits_Len x = rr) : FT Tryz.prog 204 #[u64 x] [] (fun g : Unit => i64ok rr) (fun g => vi rr) (fun g => []) := by
 refine FTi Tryz.func204 fun w0 M0 F0 => ?_
 refine KS ?_
 refine Oq Va (KS ?_)
 refine Kf ?_
 refine KS ?_
 refine Oq Vm ?_
 refine letv (bits_Len64 x) fun rv1 hg2 => ?_
 have hc3 := fn256 x pre rv1 hg2
 refine Oc [] ca256 hc3 ?_
 rintro - he4
 unfold i64ok at he4
 refine Oq Va (KS ?_)
 have hq := q4 hrr rv1 (by simp only [bits_Len, hg2, cs4]); subst hq
 exact Kr () rfl (.tmp rfl .nil) [] en
theorem fn130 (x : List Int) (xa0 : Option Addr) (xk0 : Nat) (ha0 : x.length ≤ 12) (rr : List Int) (hrr : slices_Sort_int x = rr) : FT Tryz.prog 130 #[vl xa0 xk0 x] [O xa0 xk0 x] (fun g : Unit => True) (fun g => .tuple #[]) (fun g => [os (vl xa0 xk0 x) rr]) := by
 refine FTi Tryz.func130 fun w0 M0 F0 => ?_
 refine Fb 8 0 fun hl1 => ?_
 refine Fo 0 fun ho2 => ?_
 refine KS ?_
 refine Oq Vm (Oq (Vlen sl22) (Oq Va (KS ?_)))
 refine Oq Vm (Oq Vm (Oq Vm (Oq (VcU un3 un123) ?_)))
 refine letv (bits_Len (BitVec.ofInt 64 (x.length : Int))) fun rv3 hg4 => ?_
 have hc5 := fn204 ((BitVec.ofInt 64 (x.length : Int))) (ofInt_le (by omega)) rv3 hg4
 refine Oc [] ca204 hc5 ?_
 rintro - he6
 unfold i64ok at he6
 refine letv (slices_pdqsortOrdered_int x 0 (x.length : Int) rv3) fun rv7 hg8 => ?_
 have hc9 := fn203 x xa0 xk0 0 ((x.length : Int)) rv3 pre pre pre pre rv7 hg8
 refine Oc [0] ca203 hc9 ?_
 rintro - -
 refine KS ?_
 have hq := q4 hrr rv7 (by simp only [slices_Sort_int, hg4, hg8, cs4]); subst hq
 exact Kz () rfl .nil [0] trivial
theorem fn64 (st : GState) (sta1 : Option Addr) (stk1 : Nat) (sta2 : Option Addr) (stk2 : Nat) (sta5 : Option Addr) (stk5 : Nat) (sta6 : Option Addr) (stk6 : Nat) (hst_0 : i64ok st.Phase) (hst_3 : i64ok st.At) (hst_4 : i64ok st.Edge) (hst_7 : i64ok st.Steps) (hc12 : st.Cone.length ≤ 12) (rr : List Int) (hrr : solver_Used st = rr) : FT Tryz.prog 64 #[.agg #[vi st.Phase, vl sta1 stk1 st.Cone, vl sta2 stk2 st.Leaf, vi st.At, vi st.Edge, vl sta5 stk5 st.Values, vl sta6 stk6 st.Queue, vi st.Steps]] [S sta1 stk1 st.Cone, S sta2 stk2 st.Leaf, S sta5 stk5 st.Values, S sta6 stk6 st.Queue] (fun g : Value => True) (fun g => g) (fun g => [sl g rr]) := by
 refine FTi Tryz.func64 fun w0 M0 F0 => ?_
 unfold i64ok at hst_0 hst_3 hst_4 hst_7
 refine Fb 8 0 fun hl1 => ?_
 refine Fo 0 fun ho2 => ?_
 refine Fb 1 1 fun hl3 => ?_
 refine Fb 32 2 fun hl4 => ?_
 refine Fb 8 3 fun hl5 => ?_
 refine Fo 3 fun ho6 => ?_
 refine KS ?_
 refine Oa (Ab [vi st.Phase, vl sta1 stk1 st.Cone, vl sta2 stk2 st.Leaf, vi st.At, vi st.Edge, vl sta5 stk5 st.Values, vl sta6 stk6 st.Queue, vi st.Steps]) fun p7 => Oq Va (KS ?_)
 refine Oq Va (KS ?_)
 refine Oq Va (KS ?_)
 refine Jl [] (Ent.osNil (α := Int)) ?_
 have hterm16 : solver_Used_L0 st (st.Cone.length + 1) [] 0 ≠ LR.oof := (pUsed_term _ _ _ _ (by omega))
 refine Kl (γ := Nat × List Int × Int × Option Addr × Nat) (fun (r8, out_9, i_10, a11, k12) => ⟨[(1, p7), (3, vl a11 k12 out_9), (4, vi i_10)], [O a11 k12 out_9, pv p7 [vi st.Phase, vl sta1 stk1 st.Cone, vl sta2 stk2 st.Leaf, vi st.At, vi st.Edge, vl sta5 stk5 st.Values, vl sta6 stk6 st.Queue, vi st.Steps], S sta1 stk1 st.Cone, S sta2 stk2 st.Leaf, S sta5 stk5 st.Values, S sta6 stk6 st.Queue], solver_Used_L0 st r8 out_9 i_10 = solver_Used_L0 st (st.Cone.length + 1) [] 0 ∧ (-9223372036854775808 ≤ i_10 ∧ i_10 ≤ 9223372036854775807) ∧ (i_10 ≤ (st.Cone.length : Int) ∧ (out_9.length : Int) ≤ i_10 ∧ 0 ≤ i_10), r8⟩) ((st.Cone.length + 1), [], 0, none, 0) [0, 0, 1, 2, 3, 4] ⟨rfl, (by omega), iv0⟩ ?_
 rintro ⟨r8, out_9, i_10, a11, k12⟩ ⟨hM13, hk14, hv15⟩
 refine JJ_nx fun _ _ hL hA => ?_; dsimp only at hL hA; subst hL hA
 refine Fb 8 0 fun hl17 => ?_
 refine Fo 0 fun ho18 => ?_
 refine Fb 8 2 fun hl19 => ?_
 refine Fo 2 fun ho20 => ?_
 refine Fb 1 3 fun hl21 => ?_
 refine Fb 32 4 fun hl22 => ?_
 refine Fb 8 5 fun hl23 => ?_
 refine Fo 5 fun ho24 => ?_
 rcases r8 with _ | r8
 · exact absurd (hM13.symm.trans rfl) hterm16
 refine KS ?_
 refine Oq (Vfa fo59_0 1) (Oq (VldF sh3 1) (Oq Veql (Oq Vm ?_)))
 refine Js 8 ?_ ?_
 · intro h25
   have g26 := eq_of_beq h25
   refine Oq Vm (Oq (Vfa fo59_1 1) (Oq (VldF sh22 1) (Oq (Vlen sl22) (Oq (Vfa fo59_2 1) (Oq (VldF sh57 1) (Oq (Vlen sl57) (Oq Vmin (Oq Vlss (Oq Vpt ?_)))))))))
   refine KS ?_
   refine Kc ?_ ?_
   · intro h27
     have g28 := of_decide_eq_true h27
     refine KS ?_
     refine Oq (Vfa fo59_2 1) (Oq (VldF sh57 1) (Oq Vm (Oq (Vi sl57 3) (Oq (VldB sh4 3) (KS ?_)))))
     refine Kc ?_ ?_
     · intro h29
       refine KS ?_
       refine Oq Vm (Oq (Vfa fo59_1 1) (Oq (VldF sh22 1) (Oq Vm (Oq (Vi sl22 2) ?_))))
       have hb31 := ok1 (i := i_10.toNat) ho20 rng
       refine Oq (VldI sh3 2) (Oa (AsV sl22 sz22 [vi (st.Cone.getD i_10.toNat 0)] [vi (st.Cone.getD i_10.toNat 0)]) fun c32 => ?_)
       refine Jo 0 ?_; rintro a33 k34 rfl
       refine Jl [0] (Ent.crInt _ [(st.Cone.getD i_10.toNat 0)] _ _ rfl rfl (by intro x hx; rw [List.mem_singleton] at hx; subst hx; unfold i64ok; omega) (Nat.le_of_ble_eq_true rfl)) ?_
       refine Oa (ApO [1, 0] sl22 sl22 sz22) fun c35 => ?_
       refine Jo 0 ?_; rintro a36 k37 rfl
       refine Fb 8 0 fun hl38 => ?_
       refine Fo 0 fun ho39 => ?_
       have hn40 := la out_9 ([(st.Cone.getD i_10.toNat 0)] : List Int)
       refine Oq Va (KS ?_)
       refine Oq Vm (Oq Vadd (Oq Va (KS ?_)))
       exact Kg (r8, (out_9 ++ [(st.Cone.getD i_10.toNat 0)]), (i_10 + 1), a36, k37) [0, 0, 1, 2, 3, 4] ⟨(q3 hM13 (by simp only [solver_Used_L0, h25, h27, h29, cs4])), (by omega), iv1⟩
     intro h29
     refine KS ?_
     refine Oq Vm (Oq Vadd (Oq Va (KS ?_)))
     exact Kg (r8, out_9, (i_10 + 1), a11, k12) [0, 0, 1, 2, 3, 4] ⟨(q3 hM13 (by simp only [solver_Used_L0, h25, h27, h29, cs4])), (by omega), iv1⟩
   intro h27
   have g42 := of_decide_eq_false h27
   refine Ke ?_
   have hR43 := q2 hM13 (.brk out_9) (by simp only [solver_Used_L0, h25, h27, cs4])
   refine KS ?_
   refine Oq Vm ?_
   refine letv (slices_Sort_int out_9) fun rv44 hg45 => ?_
   have hc46 := fn130 out_9 a11 k12 pre rv44 hg45
   refine Oc [0] ca130 hc46 ?_
   rintro - -
   refine KS ?_
   refine Oq Vm (Oq Va (KS ?_))
   refine Jl [0] (Ent.freeze _ _) ?_
   have hq := q4 hrr rv44 (by simp only [solver_Used, h25, h27, hR43, hg45, cs4]); subst hq
   exact Kr (vl a11 k12 out_9) rfl (.tmp rfl .nil) [0] trivial
 intro h25
 have g47 := ne_of_beq_false h25
 refine Osk (Osk (Osk (Osk (Osk (Osk (Osk (Osk (Osk (Oq Vpf ?_)))))))))
 refine KS ?_
 refine Kf ?_
 refine Ke ?_
 have hR48 := q2 hM13 (.brk out_9) (by simp only [solver_Used_L0, h25, cs4])
 refine KS ?_
 refine Oq Vm ?_
 refine letv (slices_Sort_int out_9) fun rv49 hg50 => ?_
 have hc51 := fn130 out_9 a11 k12 pre rv49 hg50
 refine Oc [0] ca130 hc51 ?_
 rintro - -
 refine KS ?_
 refine Oq Vm (Oq Va (KS ?_))
 refine Jl [0] (Ent.freeze _ _) ?_
 have hq := q4 hrr rv49 (by simp only [solver_Used, h25, hR48, hg50, cs4]); subst hq
 exact Kr (vl a11 k12 out_9) rfl (.tmp rfl .nil) [0] trivial
theorem fn65 (s : GSystem) (sa1 : Option Addr) (sk1 : Nat) (sa2 : Option Addr) (sk2 : Nat) (sa3 : Option Addr) (sk3 : Nat) (hs_0 : i64ok s.Width) (rr : Int) (hrr : flqref10_Edges s = rr) : FT Tryz.prog 65 #[.agg #[vi s.Width, vl sa1 sk1 s.Deps, vl sa2 sk2 s.Transfers, vl sa3 sk3 s.Boundary]] [S sa1 sk1 s.Deps, S sa2 sk2 s.Transfers, S sa3 sk3 s.Boundary] (fun g : Unit => i64ok rr ∧ (0 ≤ rr ∧ rr ≤ 262400)) (fun g => vi rr) (fun g => []) := by
 refine FTi Tryz.func65 fun w0 M0 F0 => ?_
 unfold i64ok at hs_0
 refine Fb 24 0 fun hl1 => ?_
 refine Fb 88 1 fun hl2 => ?_
 refine Fb 32 2 fun hl3 => ?_
 refine KS ?_
 refine Oa (Ab [vi s.Width, vl sa1 sk1 s.Deps, vl sa2 sk2 s.Transfers, vl sa3 sk3 s.Boundary]) fun p4 => Oq Va (KS ?_)
 refine Oq Va (KS ?_)
 refine Oq Va (KS ?_)
 have hterm12 : flqref10_Edges_L0 s (s.Deps.length + 1) 0 0 ≠ LR.oof := (Edges_term _ _ _ _ (by omega))
 refine Kl (γ := Nat × Int × Int) (fun (r5, n_6, i_7) => ⟨[(1, p4), (3, vi n_6), (4, vi i_7)], [pv p4 [vi s.Width, vl sa1 sk1 s.Deps, vl sa2 sk2 s.Transfers, vl sa3 sk3 s.Boundary], S sa1 sk1 s.Deps, S sa2 sk2 s.Transfers, S sa3 sk3 s.Boundary], flqref10_Edges_L0 s r5 n_6 i_7 = flqref10_Edges_L0 s (s.Deps.length + 1) 0 0 ∧ (-9223372036854775808 ≤ n_6 ∧ n_6 ≤ 9223372036854775807) ∧ (-9223372036854775808 ≤ i_7 ∧ i_7 ≤ 9223372036854775807) ∧ (0 ≤ i_7 ∧ i_7 ≤ 256 ∧ 0 ≤ n_6 ∧ n_6 ≤ 1025 * i_7), r5⟩) ((s.Deps.length + 1), 0, 0) [0, 1, 2, 3] ⟨rfl, (by omega), (by omega), iv0⟩ ?_
 rintro ⟨r5, n_6, i_7⟩ ⟨hM8, hk9, hk10, hv11⟩
 refine JJ_nx fun _ _ hL hA => ?_; dsimp only at hL hA; subst hL hA
 refine Fb 24 1 fun hl13 => ?_
 refine Fb 88 2 fun hl14 => ?_
 refine Fb 32 3 fun hl15 => ?_
 rcases r5 with _ | r5
 · exact absurd (hM8.symm.trans rfl) hterm12
 refine KS ?_
 refine Oq (VldA sh27 0) ?_
 refine letv (flqref10_Valid s) fun rv16 hg17 => ?_
 have hc18 := fn74 s sa1 sk1 sa2 sk2 sa3 sk3 pre rv16 hg17
 refine Oc [1, 2, 3] ca74 hc18 ?_
 rintro - -
 refine Oq Vm ?_
 refine Js 7 ?_ ?_
 · intro h19
   have hvs := (RefValid_iff s).1 (by simp only [h19, hg17]); have hv1 := hvs.n; have hv5 := hvs.dep_len
   refine Oq Vm (Oq (Vfa fo27_1 0) (Oq (VldF sh23 0) (Oq (Vlen sl23) (Oq Vlss (Oq Vpt (KS ?_))))))
   refine Kc ?_ ?_
   · intro h21
     have g22 := of_decide_eq_true h21
     have hqd := hvs.dep_any i_7.toNat
     refine KS ?_
     refine Oq Vm (Oq (Vfa fo27_1 0) (Oq (VldF sh23 0) (Oq Vm (Oq (Vi sl23 1) ?_))))
     refine JJ_peekL i_7.toNat 1 rfl rng fun a23 k24 => ?_
     refine Fb 8 1 fun hl25 => ?_
     refine Fo 1 fun ho26 => ?_
     refine Oq (Vld sh22 0) (Oq (Vlen sl22) (Oq Vadd (Oq Va (KS ?_))))
     refine Oq Vm (Oq Vadd (Oq Va (KS ?_)))
     exact Kg (r5, (n_6 + ((s.Deps.getD i_7.toNat []).length : Int)), (i_7 + 1)) [2, 3, 4, 5] ⟨(q3 hM8 (by simp only [flqref10_Edges_L0, h19, h21, hg17, cs4])), (by omega), (by omega), iv1⟩
   intro h21
   have g27 := of_decide_eq_false h21
   refine Ke ?_
   have hR28 := q2 hM8 (.brk n_6) (by simp only [flqref10_Edges_L0, h19, h21, hg17, cs4])
   refine KS ?_
   refine Oq Vm (Oq Va (KS ?_))
   have hq := q4 hrr n_6 (by simp only [flqref10_Edges, h19, h21, hg17, hR28, cs4]); subst hq
   exact Kr () rfl (.tmp rfl .nil) [] en
 intro h19
 refine Osk (Osk (Osk (Osk (Osk (Oq Vpf (KS ?_))))))
 refine Kf ?_
 refine Ke ?_
 have hR30 := q2 hM8 (.brk n_6) (by simp only [flqref10_Edges_L0, h19, hg17, cs4])
 refine KS ?_
 refine Oq Vm (Oq Va (KS ?_))
 have hq := q4 hrr n_6 (by simp only [flqref10_Edges, h19, hg17, hR30, cs4]); subst hq
 exact Kr () rfl (.tmp rfl .nil) [] en
theorem fn16 (t : List Int) (ta0 : Option Addr) (tk0 : Nat) (rr : Bool) (hrr : flqlaw15_SolverAnswers t = rr) : FT Tryz.prog 16 #[vl ta0 tk0 t] [S ta0 tk0 t] (fun g : Unit => True) (fun g => vb rr) (fun g => []) := by
 refine FTi Tryz.func16 fun w0 M0 F0 => ?_
 refine Fb 8 0 fun hl1 => ?_
 refine Fo 0 fun ho2 => ?_
 refine KS ?_
 refine Oq Va (KS ?_)
 refine Oq Vm ?_
 refine letv (flqgen_New t) fun rv4 hg5 => ?_
 have hc6 := fn17 t ta0 tk0 rv4 hg5
 refine Oc [0] ca17 hc6 ?_
 rintro c3 -
 refine Oq Va (KS ?_)
 refine Oq Va (KS ?_)
 refine Kl (γ := Nat × Int × Int) (fun (r7, k1_8, i_9) => ⟨[(3, c3), (4, vi i_9)], [Cl c3 [vl ta0 tk0 t, vi k1_8], S ta0 tk0 t], flqlaw15_SolverAnswers_L0 t r7 k1_8 i_9 = flqlaw15_SolverAnswers_L0 t 3 0 0 ∧ r7 = ((3 : Int) - i_9).toNat ∧ (0 : Int) ≤ i_9 ∧ i_9 ≤ 3 ∧ (-9223372036854775808 ≤ k1_8 ∧ k1_8 ≤ 9223372036854775807) ∧ (0 ≤ k1_8 ∧ k1_8 ≤ (t.length : Int)) ∧ (-9223372036854775808 ≤ i_9 ∧ i_9 ≤ 9223372036854775807), r7⟩) (3, 0, 0) [0, 0] ⟨rfl, rfl, (by omega), (by omega), (by omega), (by omega), (by omega)⟩ ?_
 rintro ⟨r7, k1_8, i_9⟩ ⟨hM10, hr11, hi12, hi13, hk14, ht15, hk16⟩
 refine JJ_nx fun _ _ hL hA => ?_; dsimp only at hL hA; subst hL hA
 refine Fb 8 1 fun hl17 => ?_
 refine Fo 1 fun ho18 => ?_
 refine KS ?_
 refine Oq Vm (Oq Vlss (KS ?_))
 refine Kc ?_ ?_
 · intro h19
   have g20 := of_decide_eq_true h19
   obtain ⟨r21, rfl⟩ := scc (n := r7) (by omega)
   refine KS ?_
   refine Oq Vm ?_
   refine letv (flqlaw15_draw t k1_8) fun rv26 hg27 => ?_
   have hc28 := fn32 c3 ta0 tk0 t k1_8 pre rv26 hg27
   refine Oc [0, 0] ca32 hc28 ?_
   rintro ⟨c22, c23, c24, c25⟩ ⟨he29, he30, he31⟩
   unfold i64ok at he29 he30
   refine Jo 0 ?_; rintro a32 k33 rfl
   refine Fb 24 0 fun hl34 => ?_
   refine Jo 1 ?_; rintro a35 k36 rfl
   refine Fb 88 1 fun hl37 => ?_
   refine Jo 2 ?_; rintro a38 k39 rfl
   refine Fb 32 2 fun hl40 => ?_
   refine Jo 3 ?_; rintro a41 k42 rfl
   refine Fb 40 3 fun hl43 => ?_
   have hdf := draw_facts (by assumption : flqlaw15_draw t k1_8 = rv26)
   obtain ⟨hd1, hd2, hd3, hd4⟩ := hdf
   have hv1 := hd1.n
   have hv2 := hd1.tl
   have hv3 := hd1.bl
   have hv4 := hd1.w
   have hv5 := hd1.dep_len
   have hds := draw_start (by assumption : flqlaw15_draw t k1_8 = rv26)
   have hml := mul_small (a := (rv26.1.S.Deps.length : Int)) (w := rv26.1.S.Width) (by omega) (by omega)
   refine Oa (Al ze55 [vi 0, .slice none 0 0, .slice none 0 0, .slice none 0 0, .slice none 0 0, vi 0]) fun p44 => Ost (Scl [0] sh55 [vi rv26.1.S.Width, vl a32 k33 rv26.1.S.Deps, vl a35 k36 rv26.1.S.Transfers, vl a38 k39 rv26.1.S.Boundary, vl a41 k42 rv26.1.K, vi rv26.1.Root]) (KS ?_)
   refine Oq (Vfa fo55_0 0) (Oq (VldG sh27 0 [vi rv26.1.S.Width, vl a32 k33 rv26.1.S.Deps, vl a35 k36 rv26.1.S.Transfers, vl a38 k39 rv26.1.S.Boundary]) ?_)
   refine letv (fixpoint_Solve rv26.1.S) fun rv46 hg47 => ?_
   have hc48 := fn49 rv26.1.S a32 k33 a35 k36 a38 k39 pre rv46 hg47
   refine Oc [1, 2, 3] ca49 hc48 ?_
   rintro c45 ⟨he49, he50⟩
   unfold i64ok at he49 he50
   refine Jo 0 ?_; rintro a51 k52 rfl
   refine Fb 32 0 fun hl53 => ?_
   have hsl := pSolve_len (by assumption : fixpoint_Solve rv26.1.S = rv46) hd1
   refine Oq Vm (Oq Vx (Oq Vx (Oq Vx (Oq Va (Oq Va (Oq Va (KS ?_)))))))
   refine Jp 1 fun hp54 => ?_
   refine JK_drawK [0, 1, 3, 7, 0, 16, 48, 127, 255] fmix ?_
   refine Dv [0] (Vfa fo55_0 0) (Dv [0] (VfaF fo27_1 0) (Dv [2] (VldF sh23 0) (Dv [] (Vlen sl23) (Dv [0] (Vfa fo55_0 0) (Dv [2] (VldG sh27 0 [vi rv26.1.S.Width, vl a32 k33 rv26.1.S.Deps, vl a35 k36 rv26.1.S.Transfers, vl a38 k39 rv26.1.S.Boundary]) ?_)))))
   refine letv (flqref10_Edges rv26.1.S) fun rv55 hg56 => ?_
   refine Dx [3, 4, 5] [] [1, 2, 3, 0] (fun G => vi rv55) [fun G => SP.fact (i64ok rv55 ∧ (0 ≤ rv55 ∧ rv55 ≤ 262400))] (fun G => xC [0, 1, 2] ca65 (fn65 rv26.1.S a32 k33 a35 k36 a38 k39 pre rv55 hg56)) (Dv [] Va (Dv [] Va ?_))
   refine Dn ⟨by kernel_rfl, fun G => ?_⟩
   refine Jw2 [(3, c3), (4, vi i_9), (5, p44), (6, vl a51 k52 rv46.1), (8, vi rv46.2.2), (9, vi (rv26.1.S.Deps.length : Int)), (10, vi rv55)] [0, 1, 2, 3, 4, 5, 6, 7, 8] [SP.fact (i64ok rv55 ∧ (0 ≤ rv55 ∧ rv55 ≤ 262400))] ?_
   refine Jf 9 rfl ?_; rintro ⟨he57, he58⟩
   unfold i64ok at he57
   refine Jk [1, 2, 2, 3, 4, 5, 6, 6] ?_
   refine KS ?_
   refine Jp 1 fun hp59 => ?_
   refine JK_drawK [0, 1, 0, 4, 0, 16, 48, 0, 0, 384, 0, 0, 2048, 6144, 14336, 31744, 65408, 131071, 262143, 524287, 524287, 524287, 0, 5242879, 14680063, 33554431] fmix ?_
   refine Dv [0] (Vfa fo55_0 0) (Dv [2] (VldG sh27 0 [vi rv26.1.S.Width, vl a32 k33 rv26.1.S.Deps, vl a35 k36 rv26.1.S.Transfers, vl a38 k39 rv26.1.S.Boundary]) (Dv [0] (Vfa fo55_1 0) (Dv [2] (VldF sh53 0) (Dv [0] (Vfa fo55_2 0) (Dv [2] (VldF sh3 0) ?_)))))
   refine letv (solver_Start rv26.1.Root) fun rv64 hg65 => ?_
   refine Dx [] [] [0, 1, 2, 3, 4] (fun G => .agg #[vi rv64.Phase, (G.g 6 0), (G.g 6 1), vi rv64.At, vi rv64.Edge, (G.g 6 2), (G.g 6 3), vi rv64.Steps]) [fun G => SP.fact (i64ok rv64.Phase ∧ i64ok rv64.At ∧ i64ok rv64.Edge ∧ i64ok rv64.Steps), fun G => sl (G.g 6 0) rv64.Cone, fun G => sl (G.g 6 1) rv64.Leaf, fun G => sl (G.g 6 2) rv64.Values, fun G => sl (G.g 6 3) rv64.Queue] (fun G => xC [] ca38 (fn38 rv26.1.Root pre rv64 hg65)) (Dv [] Vm (Dv [] Vm (Dv [] Vadd (Dv [] Vm (Dv [0] (Vfa fo55_0 0) (Dv [0] (VfaF fo27_0 0) (Dv [2] (VldF sh3 0) (Dv [] Vadd (Dv [] Vmul ?_)))))))))
   refine Dv [] Vadd ?_
   refine letv (solver_Run rv26.1.S rv26.1.K rv64 (((rv26.1.S.Deps.length : Int) + rv55) + ((rv26.1.S.Deps.length : Int) * (rv26.1.S.Width + 1)))) fun rv82 hg83 => ?_
   refine Dx [3, 4, 5, 6, 9, 10, 11, 12, 13] [] [5, 6, 7, 8, 9, 10, 11, 12, 13, 0, 1, 2, 3, 4] (fun G => .tuple #[.agg #[vi rv82.1.Phase, (G.g 17 0), (G.g 17 1), vi rv82.1.At, vi rv82.1.Edge, (G.g 17 2), (G.g 17 3), vi rv82.1.Steps], vi rv82.2.1, vi rv82.2.2]) [fun G => SP.fact (i64ok rv82.1.Phase ∧ i64ok rv82.1.At ∧ i64ok rv82.1.Edge ∧ i64ok rv82.1.Steps ∧ i64ok rv82.2.1 ∧ i64ok rv82.2.2 ∧ (0 ≤ rv82.2.1 ∧ rv82.2.1 ≤ 8000000000) ∧ (rv82.1.Cone.length ≤ 256)), fun G => sl (G.g 17 0) rv82.1.Cone, fun G => sl (G.g 17 1) rv82.1.Leaf, fun G => sl (G.g 17 2) rv82.1.Values, fun G => sl (G.g 17 3) rv82.1.Queue] (fun G => by refine xf 4 rfl ?_; rintro ⟨he84, he85, he86, he87⟩; unfold i64ok at he84 he85 he86 he87; exact xD [8, 7, 6, 5, 0, 1, 2, 3] ca35 rfl rfl rfl (FT_open (γ := Value × Value × Value × Value) (I := fun g => i64ok rv82.1.Phase ∧ i64ok rv82.1.At ∧ i64ok rv82.1.Edge ∧ i64ok rv82.1.Steps ∧ i64ok rv82.2.1 ∧ i64ok rv82.2.2 ∧ (0 ≤ rv82.2.1 ∧ rv82.2.1 ≤ 8000000000) ∧ (rv82.1.Cone.length ≤ 256)) (V := fun g => .tuple #[.agg #[vi rv82.1.Phase, g.1, g.2.1, vi rv82.1.At, vi rv82.1.Edge, g.2.2.1, g.2.2.2, vi rv82.1.Steps], vi rv82.2.1, vi rv82.2.2]) (B := fun g => [sl g.1 rv82.1.Cone, sl g.2.1 rv82.1.Leaf, sl g.2.2.1 rv82.1.Values, sl g.2.2.2 rv82.1.Queue]) (R := sl (G.g 6 3) rv64.Queue) sl_slice (fun aq75 kq76 eq77 => by rw [eq77]; exact FT_ent (Ent.take (is := [1, 2, 3, 4, 5, 6, 7, 0]) rfl) (FT_open (γ := Value × Value × Value × Value) (I := fun g => i64ok rv82.1.Phase ∧ i64ok rv82.1.At ∧ i64ok rv82.1.Edge ∧ i64ok rv82.1.Steps ∧ i64ok rv82.2.1 ∧ i64ok rv82.2.2 ∧ (0 ≤ rv82.2.1 ∧ rv82.2.1 ≤ 8000000000) ∧ (rv82.1.Cone.length ≤ 256)) (V := fun g => .tuple #[.agg #[vi rv82.1.Phase, g.1, g.2.1, vi rv82.1.At, vi rv82.1.Edge, g.2.2.1, g.2.2.2, vi rv82.1.Steps], vi rv82.2.1, vi rv82.2.2]) (B := fun g => [sl g.1 rv82.1.Cone, sl g.2.1 rv82.1.Leaf, sl g.2.2.1 rv82.1.Values, sl g.2.2.2 rv82.1.Queue]) (R := sl (G.g 6 2) rv64.Values) sl_slice (fun aq72 kq73 eq74 => by rw [eq74]; exact FT_ent (Ent.take (is := [1, 2, 3, 4, 5, 6, 0, 7]) rfl) (FT_open (γ := Value × Value × Value × Value) (I := fun g => i64ok rv82.1.Phase ∧ i64ok rv82.1.At ∧ i64ok rv82.1.Edge ∧ i64ok rv82.1.Steps ∧ i64ok rv82.2.1 ∧ i64ok rv82.2.2 ∧ (0 ≤ rv82.2.1 ∧ rv82.2.1 ≤ 8000000000) ∧ (rv82.1.Cone.length ≤ 256)) (V := fun g => .tuple #[.agg #[vi rv82.1.Phase, g.1, g.2.1, vi rv82.1.At, vi rv82.1.Edge, g.2.2.1, g.2.2.2, vi rv82.1.Steps], vi rv82.2.1, vi rv82.2.2]) (B := fun g => [sl g.1 rv82.1.Cone, sl g.2.1 rv82.1.Leaf, sl g.2.2.1 rv82.1.Values, sl g.2.2.2 rv82.1.Queue]) (R := sl (G.g 6 1) rv64.Leaf) sl_slice (fun aq69 kq70 eq71 => by rw [eq71]; exact FT_ent (Ent.take (is := [1, 2, 3, 4, 5, 0, 6, 7]) rfl) (FT_open (γ := Value × Value × Value × Value) (I := fun g => i64ok rv82.1.Phase ∧ i64ok rv82.1.At ∧ i64ok rv82.1.Edge ∧ i64ok rv82.1.Steps ∧ i64ok rv82.2.1 ∧ i64ok rv82.2.2 ∧ (0 ≤ rv82.2.1 ∧ rv82.2.1 ≤ 8000000000) ∧ (rv82.1.Cone.length ≤ 256)) (V := fun g => .tuple #[.agg #[vi rv82.1.Phase, g.1, g.2.1, vi rv82.1.At, vi rv82.1.Edge, g.2.2.1, g.2.2.2, vi rv82.1.Steps], vi rv82.2.1, vi rv82.2.2]) (B := fun g => [sl g.1 rv82.1.Cone, sl g.2.1 rv82.1.Leaf, sl g.2.2.1 rv82.1.Values, sl g.2.2.2 rv82.1.Queue]) (R := sl (G.g 6 0) rv64.Cone) sl_slice (fun aq66 kq67 eq68 => by rw [eq68]; exact FT_ent (Ent.take (is := [1, 2, 3, 4, 0, 5, 6, 7]) rfl) (fn35 rv26.1.S a32 k33 a35 k36 a38 k39 rv26.1.K a41 k42 rv64 aq66 kq67 aq69 kq70 aq72 kq73 aq75 kq76 ((((rv26.1.S.Deps.length : Int) + rv55) + ((rv26.1.S.Deps.length : Int) * (rv26.1.S.Width + 1)))) pre pre pre pre pre pre pre rv82 hg83)))))))))) (Dg [] (fun G => .tuple #[.agg #[vi rv82.1.Phase, (G.g 17 0), (G.g 17 1), vi rv82.1.At, vi rv82.1.Edge, (G.g 17 2), (G.g 17 3), vi rv82.1.Steps], vi rv82.2.1, vi rv82.2.2]) (fun G => Vm) (Dg [] (fun G => .agg #[vi rv82.1.Phase, (G.g 17 0), (G.g 17 1), vi rv82.1.At, vi rv82.1.Edge, (G.g 17 2), (G.g 17 3), vi rv82.1.Steps]) (fun G => Vx) (Dv [] Vx (Dv [] Vx (Dx [] [] [0] (fun G => (G.g 22 0)) [fun G => Cl (G.g 22 0) [vi 0, .slice none 0 0, .slice none 0 0, vi 0, vi 0, .slice none 0 0, .slice none 0 0, vi 0]] (fun G => xA (Al ze59 [vi 0, .slice none 0 0, .slice none 0 0, vi 0, vi 0, .slice none 0 0, .slice none 0 0, vi 0])) (Dx0 [15, 16, 17, 18, 19] [19] [1, 2, 3, 4, 0] [fun G => Cl (G.g 22 0) [vi rv82.1.Phase, (G.g 17 0), (G.g 17 1), vi rv82.1.At, vi rv82.1.Edge, (G.g 17 2), (G.g 17 3), vi rv82.1.Steps]] (fun G => x1 0 rfl sl_one fun ho89 => (x1 1 rfl sl_one fun ho90 => (x1 2 rfl sl_one fun ho91 => (x1 3 rfl sl_one fun ho92 => (xS (Scl [4] sh59 [vi rv82.1.Phase, (G.g 17 0), (G.g 17 1), vi rv82.1.At, vi rv82.1.Edge, (G.g 17 2), (G.g 17 3), vi rv82.1.Steps] (v := .agg #[vi rv82.1.Phase, (G.g 17 0), (G.g 17 1), vi rv82.1.At, vi rv82.1.Edge, (G.g 17 2), (G.g 17 3), vi rv82.1.Steps]) (h1 := show [vi rv82.1.Phase, (G.g 17 0), (G.g 17 1), vi rv82.1.At, vi rv82.1.Edge, (G.g 17 2), (G.g 17 3), vi rv82.1.Steps].all (·.oneCell') = true from (by simp only [List.all_cons, List.all_nil, ho89, ho90, ho91, ho92, Bool.and_true, Bool.true_and] <;> rfl)))))))) (Dv [] Va (Dv [] Va ?_))))))))
   refine Dn ⟨by kernel_rfl, fun G => ?_⟩
   refine Jw2 [(3, c3), (4, vi i_9), (5, p44), (6, vl a51 k52 rv46.1), (8, vi rv46.2.2), (9, vi (rv26.1.S.Deps.length : Int)), (11, (G.g 22 0)), (12, vi rv82.2.1), (13, vi rv82.2.2)] [0, 1, 2, 3, 4, 5, 6, 7, 8] [SP.fact (i64ok rv64.Phase ∧ i64ok rv64.At ∧ i64ok rv64.Edge ∧ i64ok rv64.Steps), sl (G.g 6 0) rv64.Cone, sl (G.g 6 1) rv64.Leaf, sl (G.g 6 2) rv64.Values, sl (G.g 6 3) rv64.Queue, SP.fact (i64ok rv82.1.Phase ∧ i64ok rv82.1.At ∧ i64ok rv82.1.Edge ∧ i64ok rv82.1.Steps ∧ i64ok rv82.2.1 ∧ i64ok rv82.2.2 ∧ (0 ≤ rv82.2.1 ∧ rv82.2.1 ≤ 8000000000) ∧ (rv82.1.Cone.length ≤ 256)), sl (G.g 17 0) rv82.1.Cone, sl (G.g 17 1) rv82.1.Leaf, sl (G.g 17 2) rv82.1.Values, sl (G.g 17 3) rv82.1.Queue, Cl (G.g 22 0) [vi rv82.1.Phase, (G.g 17 0), (G.g 17 1), vi rv82.1.At, vi rv82.1.Edge, (G.g 17 2), (G.g 17 3), vi rv82.1.Steps]] ?_
   generalize G.g 6 0 = c60, G.g 6 1 = c61, G.g 6 2 = c62, G.g 6 3 = c63, G.g 17 0 = c78, G.g 17 1 = c79, G.g 17 2 = c80, G.g 17 3 = c81, G.g 22 0 = p88
   refine Jf 9 rfl ?_; rintro ⟨he93, he94, he95, he96⟩
   unfold i64ok at he93 he94 he95 he96
   refine Jf 14 rfl ?_; rintro ⟨he97, he98, he99, he100, he101, he102, he103, he104⟩
   unfold i64ok at he97 he98 he99 he100 he101 he102
   refine Jk [1, 2, 2, 3, 4, 5, 6, 6, 8, 9, 10, 11, 13, 14, 15, 16, 17] ?_
   refine Jo 8 ?_; rintro a105 k106 rfl
   refine Fb 8 8 fun hl107 => ?_
   refine Fo 8 fun ho108 => ?_
   refine Jo 9 ?_; rintro a109 k110 rfl
   refine Fb 1 9 fun hl111 => ?_
   refine Jo 10 ?_; rintro a112 k113 rfl
   refine Fb 32 10 fun hl114 => ?_
   refine Jo 11 ?_; rintro a115 k116 rfl
   refine Fb 8 11 fun hl117 => ?_
   refine Fo 11 fun ho118 => ?_
   refine Jo 12 ?_; rintro a119 k120 rfl
   refine Fb 8 12 fun hl121 => ?_
   refine Fo 12 fun ho122 => ?_
   refine Jo 13 ?_; rintro a123 k124 rfl
   refine Fb 1 13 fun hl125 => ?_
   refine Jo 14 ?_; rintro a126 k127 rfl
   refine Fb 32 14 fun hl128 => ?_
   refine Jo 15 ?_; rintro a129 k130 rfl
   refine Fb 8 15 fun hl131 => ?_
   refine Fo 15 fun ho132 => ?_
   refine KS ?_
   refine Oq (VldA sh59 16) ?_
   refine letv (solver_Answer rv82.1) fun rv134 hg135 => ?_
   have hc136 := fn44 rv82.1 a119 k120 a123 k124 a126 k127 a129 k130 pre pre pre pre rv134 hg135
   refine Oc [12, 13, 14, 15] ca44 hc136 ?_
   rintro c133 he137
   unfold i64ok at he137
   refine Jo 0 ?_; rintro a138 k139 rfl
   refine Fb 8 0 fun hl140 => ?_
   refine Oq Vm (Oq Vx (Oq Vx (Oa (Al ze42 [vi 0, .slice none 0 0]) fun p141 => Ost (Scl [0] sh42 [vi rv134.1.Width, vl a138 k139 rv134.1.Words]) (Oq Va (KS ?_)))))
   refine Jp 18 fun hp142 => ?_
   refine Jp 4 fun hp143 => ?_
   refine bool_split (rv46.2.2 != 0) ?_ ?_
   · intro h144
     have g145 := ne_of_bne h144
     refine Kq [0, 1, 3, 7, 15, 31, 63, 127, 255, 511, 1023, 2047, 4095, 8191, 16383, 32767, 65535, 65535, 65535, 327679, 983039, 2031615, 4194303, 8388607, 16777215, 33554431, 67108863, 67108863, 201326591, 536870911, 1073741823, 2147483647, 4294967295, 4294967295, 12884901887, 30064771071, 68719476735, 137438953471] fmix ?_
     refine Qv [] Vm (Qb h144 [] Vneq (Qv [] Vm (Qs (Qs (Qv [] Vpt (Qv [] Vm (Qs (Qs (Qv [] Vpt ?_)))))))))
     refine Qv [] Vm (Qs (Qs (Qs (Qv [] Vpt (Qv [] Vm (Qs (Qs (Qs (Qs ?_)))))))))
     refine Qs (Qs (Qs (Qs (Qv [] Vpt (Qv [] Vm (Qs (Qs (Qs (Qs ?_)))))))))
     refine Qv [] Vpt (Qv [] Vm (Qs (Qs (Qs (Qs (Qs (Qv [] Vpt ?_)))))))
     refine Qn ⟨by kernel_rfl, ?_⟩
     refine Kt ?_
     refine KS ?_
     refine Oq Va (KS ?_)
     have hR146 := q2 hM10 (.ret false) (by simp only [flqlaw15_SolverAnswers_L0, h19, h144, hg5, hg27, hg47, hg56, hg65, hg83, hg135, cs4])
     have hq := q4 hrr false (by unfold flqlaw15_SolverAnswers; simp only [h19, h144, hg5, hg27, hg47, hg56, hg65, hg83, hg135, hR146, cs4]); subst hq
     exact Kr () rfl (.tmp rfl .nil) [] trivial
   intro h144
   have g147 := eq_of_bne_false h144
   refine bool_split (rv82.2.2 != 0) ?_ ?_
   · intro h148
     have g149 := ne_of_bne h148
     refine Kq [0, 1, 3, 7, 15, 31, 63, 127, 255, 511, 1023, 2047, 4095, 8191, 16383, 32767, 65535, 65535, 65535, 327679, 983039, 2031615, 4194303, 8388607, 16777215, 33554431, 67108863, 67108863, 201326591, 536870911, 1073741823, 2147483647, 4294967295, 4294967295, 12884901887, 30064771071, 68719476735, 137438953471] fmix ?_
     refine Qv [] Vm (Qb h144 [] Vneq (Qv [] Vm (Qv [] Vm (Qb h148 [] Vneq (Qv [] Vpf (Qv [] Vm (Qs (Qs (Qv [] Vpt ?_)))))))))
     refine Qv [] Vm (Qs (Qs (Qs (Qv [] Vpt (Qv [] Vm (Qs (Qs (Qs (Qs ?_)))))))))
     refine Qs (Qs (Qs (Qs (Qv [] Vpt (Qv [] Vm (Qs (Qs (Qs (Qs ?_)))))))))
     refine Qv [] Vpt (Qv [] Vm (Qs (Qs (Qs (Qs (Qs (Qv [] Vpt ?_)))))))
     refine Qn ⟨by kernel_rfl, ?_⟩
     refine Kt ?_
     refine KS ?_
     refine Oq Va (KS ?_)
     have hR150 := q2 hM10 (.ret false) (by simp only [flqlaw15_SolverAnswers_L0, h19, h144, h148, hg5, hg27, hg47, hg56, hg65, hg83, hg135, cs4])
     have hq := q4 hrr false (by unfold flqlaw15_SolverAnswers; simp only [h19, h144, h148, hg5, hg27, hg47, hg56, hg65, hg83, hg135, hR150, cs4]); subst hq
     exact Kr () rfl (.tmp rfl .nil) [] trivial
   intro h148
   have g151 := eq_of_bne_false h148
   refine bool_split (!rv134.2) ?_ ?_
   · intro h152
     have h154 := not_true h152
     refine Kq [0, 1, 3, 7, 15, 31, 63, 127, 255, 511, 1023, 2047, 4095, 8191, 16383, 32767, 65535, 65535, 65535, 327679, 983039, 2031615, 4194303, 8388607, 16777215, 33554431, 67108863, 67108863, 201326591, 536870911, 1073741823, 2147483647, 4294967295, 4294967295, 12884901887, 30064771071, 68719476735, 137438953471] fmix ?_
     refine Qv [] Vm (Qb h144 [] Vneq (Qv [] Vm (Qv [] Vm (Qb h148 [] Vneq (Qv [] Vpf (Qv [] Vm (Qv [] Vm (Qb h152 [] Vnot (Qv [] Vpf ?_)))))))))
     refine Qv [] Vm (Qs (Qs (Qs (Qv [] Vpt (Qv [] Vm (Qs (Qs (Qs (Qs ?_)))))))))
     refine Qs (Qs (Qs (Qs (Qv [] Vpt (Qv [] Vm (Qs (Qs (Qs (Qs ?_)))))))))
     refine Qv [] Vpt (Qv [] Vm (Qs (Qs (Qs (Qs (Qs (Qv [] Vpt ?_)))))))
     refine Qn ⟨by kernel_rfl, ?_⟩
     refine Kt ?_
     refine KS ?_
     refine Oq Va (KS ?_)
     have hR156 := q2 hM10 (.ret false) (by simp only [flqlaw15_SolverAnswers_L0, h19, h144, h148, h152, h154, hg5, hg27, hg47, hg56, hg65, hg83, hg135, cs4])
     have hq := q4 hrr false (by unfold flqlaw15_SolverAnswers; simp only [h19, h144, h148, h152, h154, hg5, hg27, hg47, hg56, hg65, hg83, hg135, hR156, cs4]); subst hq
     exact Kr () rfl (.tmp rfl .nil) [] trivial
   intro h152
   have h158 := not_false h152
   refine bool_split (rv82.1.Phase != 3) ?_ ?_
   · intro h160
     have g161 := ne_of_bne h160
     refine Kq [0, 1, 3, 7, 15, 31, 63, 127, 255, 511, 1023, 2047, 4095, 8191, 16383, 32767, 65535, 65535, 65535, 327679, 983039, 2031615, 4194303, 8388607, 16777215, 33554431, 67108863, 67108863, 201326591, 536870911, 1073741823, 2147483647, 4294967295, 4294967295, 12884901887, 30064771071, 68719476735, 137438953471] fmix ?_
     refine Qv [] Vm (Qb h144 [] Vneq (Qv [] Vm (Qv [] Vm (Qb h148 [] Vneq (Qv [] Vpf (Qv [] Vm (Qv [] Vm (Qb h152 [] Vnot (Qv [] Vpf ?_)))))))))
     refine Qv [] Vm (Qv [1] (Vfa fo59_0 0) (Qv [20] (VldF sh3 0) (Qb h160 [] Vneq (Qv [] Vpf (Qv [] Vm (Qs (Qs (Qs (Qs ?_)))))))))
     refine Qs (Qs (Qs (Qs (Qv [] Vpt (Qv [] Vm (Qs (Qs (Qs (Qs ?_)))))))))
     refine Qv [] Vpt (Qv [] Vm (Qs (Qs (Qs (Qs (Qs (Qv [] Vpt ?_)))))))
     refine Qn ⟨by kernel_rfl, ?_⟩
     refine Kt ?_
     refine KS ?_
     refine Oq Va (KS ?_)
     have hR162 := q2 hM10 (.ret false) (by simp only [flqlaw15_SolverAnswers_L0, h19, h144, h148, h152, h158, h160, hg5, hg27, hg47, hg56, hg65, hg83, hg135, cs4])
     have hq := q4 hrr false (by unfold flqlaw15_SolverAnswers; simp only [h19, h144, h148, h152, h158, h160, hg5, hg27, hg47, hg56, hg65, hg83, hg135, hR162, cs4]); subst hq
     exact Kr () rfl (.tmp rfl .nil) [] trivial
   intro h160
   have g163 := eq_of_bne_false h160
   refine JJ_peek_GSet rv26.1.Root.toNat 4 rfl rng fun a164 k165 hb166 => ?_
   unfold i64ok at hb166
   refine Fb 8 1 fun hl167 => ?_
   refine JK_drawK [0, 1, 3, 7, 15, 31, 63, 127, 255, 511, 1023, 2047, 4095, 8191, 16383, 32767, 65535, 65535, 65535, 327679, 983039, 2031615, 4194303, 8388607, 16777215, 33554431, 67108863, 67108863, 201326591, 536870911, 1073741823, 2147483647, 4294967295, 4294967295, 12884901887, 30064771071, 68719476735, 137438953471] fmix ?_
   refine Dv [] Vm (Db h144 [] Vneq (Dv [] Vm (Dv [] Vm (Db h148 [] Vneq (Dv [] Vpf (Dv [] Vm (Dv [] Vm (Db h152 [] Vnot (Dv [] Vpf ?_)))))))))
   refine Dv [] Vm (Dv [3] (Vfa fo59_0 0) (Dv [22] (VldF sh3 0) (Db h160 [] Vneq (Dv [] Vpf (Dv [] Vm (Dv [4] (VldA sh42 0) (Dv [] Vm (Dv [2] (Vfa fo55_2 0) (Dv [7] (VldF sh3 0) ?_)))))))))
   refine Dv [6] (Vi sl25 0) (Dv [0] (VldA sh42 0) ?_)
   refine letv (flqref1_Same rv134.1 (rv46.1.getD rv26.1.Root.toNat default)) fun rv168 hg169 => ?_
   refine Dx [1, 5] [] [1, 2, 0] (fun G => vb rv168) [fun G => SP.fact (True)] (fun G => xC [1, 0] ca45 (fn45 rv134.1 a138 k139 ((rv46.1.getD rv26.1.Root.toNat default)) a164 k165 pre pre rv168 hg169)) (Dv [] Vnot (Dv [] Vpf ?_))
   refine bool_split (!rv168) ?_ ?_
   · intro h170
     have h172 := not_true h170
     refine Db h170 [] Vm (Ds (Ds (Ds (Ds (Dv [] Vpt (Dv [] Vm (Ds (Ds (Ds ?_)))))))))
     refine Ds (Ds (Dv [] Vpt ?_))
     refine Dn ⟨by kernel_rfl, fun G => ?_⟩
     refine Jw2 [(3, c3), (4, vi i_9), (6, vl a51 k52 rv46.1), (9, vi (rv26.1.S.Deps.length : Int)), (11, p88), (104, vb true)] [0, 1, 2, 3, 4, 5, 6, 7, 8, 9, 10, 11, 12, 13, 14, 15, 16, 17, 18, 19, 20, 21, 22] [SP.fact (True)] ?_
     refine Jk [0, 1, 4, 4, 5, 6, 6, 7, 8, 9, 10, 10, 11, 12, 13, 14, 15, 16, 17, 18, 19] ?_
     refine Kt ?_
     refine KS ?_
     refine Oq Va (KS ?_)
     have hR174 := q2 hM10 (.ret false) (by simp only [flqlaw15_SolverAnswers_L0, h19, h144, h148, h152, h158, h160, h170, h172, hg5, hg27, hg47, hg56, hg65, hg83, hg135, hg169, cs4])
     have hq := q4 hrr false (by unfold flqlaw15_SolverAnswers; simp only [h19, h144, h148, h152, h158, h160, h170, h172, hg5, hg27, hg47, hg56, hg65, hg83, hg135, hg169, hR174, cs4]); subst hq
     exact Kr () rfl (.tmp rfl .nil) [] trivial
   intro h170
   have h176 := not_false h170
   refine Db h170 [] Vm (Dv [] Vm (Dv [3] (Vfa fo59_7 0) (Dv [22] (VldF sh3 0) (Dv [] Vlss (Dv [] Vpf ?_)))))
   refine bool_split (decide (rv82.2.1 < rv82.1.Steps)) ?_ ?_
   · intro h178
     have g179 := of_decide_eq_true h178
     refine Db h178 [] Vm (Ds (Ds (Ds (Ds (Ds (Dv [] Vpt ?_))))))
     refine Dn ⟨by kernel_rfl, fun G => ?_⟩
     refine Jw2 [(3, c3), (4, vi i_9), (6, vl a51 k52 rv46.1), (9, vi (rv26.1.S.Deps.length : Int)), (11, p88), (104, vb true)] [0, 1, 2, 3, 4, 5, 6, 7, 8, 9, 10, 11, 12, 13, 14, 15, 16, 17, 18, 19, 20, 21, 22] [SP.fact (True)] ?_
     refine Jk [0, 1, 4, 4, 5, 6, 6, 7, 8, 9, 10, 10, 11, 12, 13, 14, 15, 16, 17, 18, 19] ?_
     refine Kt ?_
     refine KS ?_
     refine Oq Va (KS ?_)
     have hR180 := q2 hM10 (.ret false) (by simp only [flqlaw15_SolverAnswers_L0, h19, h144, h148, h152, h158, h160, h170, h176, h178, hg5, hg27, hg47, hg56, hg65, hg83, hg135, hg169, cs4])
     have hq := q4 hrr false (by unfold flqlaw15_SolverAnswers; simp only [h19, h144, h148, h152, h158, h160, h170, h176, h178, hg5, hg27, hg47, hg56, hg65, hg83, hg135, hg169, hR180, cs4]); subst hq
     exact Kr () rfl (.tmp rfl .nil) [] trivial
   intro h178
   have g181 := of_decide_eq_false h178
   refine Db h178 [] Vm (Dv [] Vm (Dv [3] (Vfa fo59_7 0) (Dv [22] (VldF sh3 0) ?_)))
   refine Dv [] (Vmul (h := (by have h3 := Run_steps (by assumption : solver_Run _ _ _ _ = _); unfold i64ok; omega))) (Dv [] Vgtr (Dv [] Vpf ?_))
   refine Dn ⟨by kernel_rfl, fun G => ?_⟩
   refine Jw2 [(3, c3), (4, vi i_9), (6, vl a51 k52 rv46.1), (9, vi (rv26.1.S.Deps.length : Int)), (11, p88), (104, vb (decide ((8 * rv82.1.Steps) < rv82.2.1)))] [0, 1, 2, 3, 4, 5, 6, 7, 8, 9, 10, 11, 12, 13, 14, 15, 16, 17, 18, 19, 20, 21, 22] [SP.fact (True)] ?_
   refine Jk [0, 1, 4, 4, 5, 6, 6, 7, 8, 9, 10, 10, 11, 12, 13, 14, 15, 16, 17, 18, 19] ?_
   refine Kc ?_ ?_
   · intro h182
     have g183 := of_decide_eq_true h182
     refine KS ?_
     refine Oq Va (KS ?_)
     have hR184 := q2 hM10 (.ret false) (by simp only [flqlaw15_SolverAnswers_L0, h19, h144, h148, h152, h158, h160, h170, h176, h178, h182, hg5, hg27, hg47, hg56, hg65, hg83, hg135, hg169, cs4])
     have hq := q4 hrr false (by unfold flqlaw15_SolverAnswers; simp only [h19, h144, h148, h152, h158, h160, h170, h176, h178, h182, hg5, hg27, hg47, hg56, hg65, hg83, hg135, hg169, hR184, cs4]); subst hq
     exact Kr () rfl (.tmp rfl .nil) [] trivial
   intro h182
   have g185 := of_decide_eq_false h182
   refine KS ?_
   refine Oq (VldA sh59 20) ?_
   refine letv (solver_Final rv82.1) fun rv187 hg188 => ?_
   have hc189 := fn63 rv82.1 a119 k120 a123 k124 a126 k127 a129 k130 pre pre pre pre (Run_small (by assumption) (by omega)) rv187 hg188
   refine Oc [16, 17, 18, 19] ca63 hc189 ?_
   rintro c186 -
   refine Jo 0 ?_; rintro a190 k191 rfl
   refine Fb 40 0 fun hl192 => ?_
   refine Oq Va (KS ?_)
   refine Jp 21 fun hp193 => ?_
   refine JK_drawK [0, 1, 0, 4, 12, 31, 0, 64, 192, 511] fmix ?_
   refine Dv [] Vm (Dv [] (Vlen sl53) (Dv [22] (VldA sh59 0) ?_))
   refine letv (solver_Used rv82.1) fun rv195 hg196 => ?_
   refine Dx [18, 19, 20, 21] [] [2, 3, 4, 5, 0, 1] (fun G => (G.g 3 0)) [fun G => SP.fact (True), fun G => sl (G.g 3 0) rv195] (fun G => xC [0, 1, 2, 3] ca64 (fn64 rv82.1 a119 k120 a123 k124 a126 k127 a129 k130 pre pre pre pre (Run_small (by assumption) (by omega)) rv195 hg196)) ?_
   refine Dv [24] (VlR (sz := 1) sl22 0) ?_
   refine Dv [] (Vadd (h := (by have h1 := Final_len (by assumption : solver_Final _ = _); have h2 := Used_len (by assumption : solver_Used _ = _); have h3 := Run_small (by assumption : solver_Run _ _ _ _ = _) (by omega); unfold i64ok; omega))) (Dv [0] (Vfa fo59_1 0) (Dv [22] (VldF sh22 0) (Dv [] (Vlen sl22) (Dv [] Vneq ?_))))
   refine Dn ⟨by kernel_rfl, fun G => ?_⟩
   refine Jw2 [(3, c3), (4, vi i_9), (6, vl a51 k52 rv46.1), (9, vi (rv26.1.S.Deps.length : Int)), (16, vl a190 k191 rv187), (116, vb (((rv187.length : Int) + (rv195.length : Int)) != (rv82.1.Cone.length : Int)))] [0, 1, 2, 3, 4, 5, 6, 7, 8, 9, 10, 11, 12, 13, 14, 15, 16, 17, 18, 19, 20, 21, 22] [SP.fact (True), sl (G.g 3 0) rv195] ?_
   generalize G.g 3 0 = c194
   refine Jk [1, 2, 3, 4, 4, 5, 6, 6, 7, 8, 9, 10, 10, 11, 12, 13, 14, 15, 16, 17, 18, 19, 20] ?_
   refine Jo 22 ?_; rintro a197 k198 rfl
   refine Fb 8 22 fun hl199 => ?_
   refine Fo 22 fun ho200 => ?_
   refine Kc ?_ ?_
   · intro h201
     have g202 := ne_of_bne h201
     refine KS ?_
     refine Oq Va (KS ?_)
     have hR203 := q2 hM10 (.ret false) (by simp only [flqlaw15_SolverAnswers_L0, h19, h144, h148, h152, h158, h160, h170, h176, h178, h182, h201, hg5, hg27, hg47, hg56, hg65, hg83, hg135, hg169, hg188, hg196, cs4])
     have hq := q4 hrr false (by unfold flqlaw15_SolverAnswers; simp only [h19, h144, h148, h152, h158, h160, h170, h176, h178, h182, h201, hg5, hg27, hg47, hg56, hg65, hg83, hg135, hg169, hg188, hg196, hR203, cs4]); subst hq
     exact Kr () rfl (.tmp rfl .nil) [] trivial
   intro h201
   have g204 := eq_of_bne_false h201
   refine KS ?_
   refine Oq Va (KS ?_)
   refine Kl (γ := Nat × Int) (fun (r205, j_206) => ⟨[(3, c3), (4, vi i_9), (6, vl a51 k52 rv46.1), (9, vi (rv26.1.S.Deps.length : Int)), (16, vl a190 k191 rv187), (17, vi j_206)], [S a190 k191 rv187, S a51 k52 rv46.1, Cl c3 [vl ta0 tk0 t, vi rv26.2], S ta0 tk0 t], flqlaw15_SolverAnswers_L1 rv46.1 (rv26.1.S.Deps.length : Int) rv187 r205 j_206 = flqlaw15_SolverAnswers_L1 rv46.1 (rv26.1.S.Deps.length : Int) rv187 (((rv187.length : Int) - 0).toNat) 0 ∧ r205 = ((rv187.length : Int) - j_206).toNat ∧ (0 : Int) ≤ j_206 ∧ j_206 ≤ (rv187.length : Int) ∧ (-9223372036854775808 ≤ j_206 ∧ j_206 ≤ 9223372036854775807), r205⟩) (((rv187.length : Int) - 0).toNat, 0) [0, 5, 11, 11] ⟨rfl, rfl, (by omega), (by omega), (by omega)⟩ ?_
   rintro ⟨r205, j_206⟩ ⟨hM207, hr208, hi209, hi210, hk211⟩
   refine JJ_nx fun _ _ hL hA => ?_; dsimp only at hL hA; subst hL hA
   refine Fb 40 0 fun hl212 => ?_
   refine Fb 32 1 fun hl213 => ?_
   refine Fb 8 3 fun hl214 => ?_
   refine Fo 3 fun ho215 => ?_
   refine KS ?_
   refine Oq Vm (Oq Vm (Oq (Vlen sl53) (Oq Vlss (KS ?_))))
   refine Kc ?_ ?_
   · intro h216
     have g217 := of_decide_eq_true h216
     obtain ⟨r218, rfl⟩ := scc (n := r205) (by omega)
     refine KS ?_
     refine JJ_peek_GKnown j_206.toNat 0 rfl rng fun a219 k220 hb221 hb222 => ?_
     unfold i64ok at hb221 hb222
     refine Fb 8 1 fun hl223 => ?_
     refine bool_split (decide ((rv187.getD j_206.toNat default).Node < 0)) ?_ ?_
     · intro h224
       have g225 := of_decide_eq_true h224
       refine Kq [0, 0, 3, 7, 15, 31, 63, 127, 127, 511, 1023, 2047, 127, 8191, 16383, 32767, 65535, 65535, 262143, 524287, 1048575, 65535, 65535, 65535, 12648447, 29425663, 62980095, 132186111, 266403839, 536870911, 1073741823, 2147483647] fmix ?_
       refine Qv [] Vm (Qv [] Vm (Qv [2] (Vi sl53 0) (Qv [0] (Vfa fo67_0 0) (Qv [0] (VldF sh3 0) (Qb h224 [] Vlss (Qv [] Vm (Qs (Qs (Qs ?_)))))))))
       refine Qs (Qs (Qs (Qs (Qv [] Vpt (Qv [] Vm (Qs (Qs (Qs (Qs ?_)))))))))
       refine Qs (Qs (Qs (Qs (Qs (Qs (Qs (Qs (Qs (Qs ?_)))))))))
       refine Qs (Qv [] Vpt ?_)
       refine Qn ⟨by kernel_rfl, ?_⟩
       refine Kt ?_
       refine KS ?_
       refine Oq Va (KS ?_)
       have hR226 := q2 hM207 (.ret false) (by simp only [flqlaw15_SolverAnswers_L1, h19, h144, h148, h152, h158, h160, h170, h176, h178, h182, h201, h216, h224, hg5, hg27, hg47, hg56, hg65, hg83, hg135, hg169, hg188, hg196, cs4])
       have hR227 := q2 hM10 (.ret false) (by simp only [flqlaw15_SolverAnswers_L0, h19, h144, h148, h152, h158, h160, h170, h176, h178, h182, h201, h216, h224, hg5, hg27, hg47, hg56, hg65, hg83, hg135, hg169, hg188, hg196, hR226, cs4])
       have hq := q4 hrr false (by unfold flqlaw15_SolverAnswers; simp only [h19, h144, h148, h152, h158, h160, h170, h176, h178, h182, h201, h216, h224, hg5, hg27, hg47, hg56, hg65, hg83, hg135, hg169, hg188, hg196, hR226, hR227, cs4]); subst hq
       exact Kr () rfl (.tmp rfl .nil) [] trivial
     intro h224
     have g228 := of_decide_eq_false h224
     refine bool_split (decide ((rv26.1.S.Deps.length : Int) ≤ (rv187.getD j_206.toNat default).Node)) ?_ ?_
     · intro h229
       have g230 := of_decide_eq_true h229
       refine Kq [0, 0, 3, 7, 15, 31, 63, 127, 127, 511, 1023, 2047, 127, 8191, 16383, 32767, 65535, 65535, 262143, 524287, 1048575, 65535, 65535, 65535, 12648447, 29425663, 62980095, 132186111, 266403839, 536870911, 1073741823, 2147483647] fmix ?_
       refine Qv [] Vm (Qv [] Vm (Qv [2] (Vi sl53 0) (Qv [0] (Vfa fo67_0 0) (Qv [0] (VldF sh3 0) (Qb h224 [] Vlss (Qv [] Vm (Qv [] Vm (Qv [] Vm (Qv [2] (Vi sl53 0) ?_)))))))))
       refine Qv [0] (Vfa fo67_0 0) (Qv [0] (VldF sh3 0) (Qv [] Vm (Qb h229 [] Vgeq (Qv [] Vpf (Qv [] Vm (Qs (Qs (Qs (Qs ?_)))))))))
       refine Qs (Qs (Qs (Qs (Qs (Qs (Qs (Qs (Qs (Qs ?_)))))))))
       refine Qs (Qv [] Vpt ?_)
       refine Qn ⟨by kernel_rfl, ?_⟩
       refine Kt ?_
       refine KS ?_
       refine Oq Va (KS ?_)
       have hR231 := q2 hM207 (.ret false) (by simp only [flqlaw15_SolverAnswers_L1, h19, h144, h148, h152, h158, h160, h170, h176, h178, h182, h201, h216, h224, h229, hg5, hg27, hg47, hg56, hg65, hg83, hg135, hg169, hg188, hg196, cs4])
       have hR232 := q2 hM10 (.ret false) (by simp only [flqlaw15_SolverAnswers_L0, h19, h144, h148, h152, h158, h160, h170, h176, h178, h182, h201, h216, h224, h229, hg5, hg27, hg47, hg56, hg65, hg83, hg135, hg169, hg188, hg196, hR231, cs4])
       have hq := q4 hrr false (by unfold flqlaw15_SolverAnswers; simp only [h19, h144, h148, h152, h158, h160, h170, h176, h178, h182, h201, h216, h224, h229, hg5, hg27, hg47, hg56, hg65, hg83, hg135, hg169, hg188, hg196, hR231, hR232, cs4]); subst hq
       exact Kr () rfl (.tmp rfl .nil) [] trivial
     intro h229
     have g233 := of_decide_eq_false h229
     refine JJ_peek_GSet ((rv187.getD j_206.toNat default).Node : Int).toNat 3 rfl rng fun a234 k235 hb236 => ?_
     unfold i64ok at hb236
     refine Fb 8 1 fun hl237 => ?_
     refine JK_drawK [0, 0, 3, 7, 15, 31, 63, 127, 127, 511, 1023, 2047, 127, 8191, 16383, 32767, 65535, 65535, 262143, 524287, 1048575, 65535, 65535, 65535, 12648447, 29425663, 62980095, 132186111, 266403839, 536870911, 1073741823, 2147483647] fmix ?_
     refine Dv [] Vm (Dv [] Vm (Dv [4] (Vi sl53 0) (Dv [2] (Vfa fo67_0 0) (Dv [2] (VldF sh3 0) (Db h224 [] Vlss (Dv [] Vm (Dv [] Vm (Dv [] Vm (Dv [4] (Vi sl53 0) ?_)))))))))
     refine Dv [2] (Vfa fo67_0 0) (Dv [2] (VldF sh3 0) (Dv [] Vm (Db h229 [] Vgeq (Dv [] Vpf (Dv [] Vm (Dv [] Vm (Dv [] Vm (Dv [4] (Vi sl53 0) (Dv [2] (Vfa fo67_1 0) ?_)))))))))
     refine Dv [2] (VldG sh42 0 [vi (((rv187.getD j_206.toNat default).Value).Width), vl a219 k220 (((rv187.getD j_206.toNat default).Value).Words)]) (Dv [] Vm (Dv [] Vm (Dv [] Vm (Dv [4] (Vi sl53 0) (Dv [2] (Vfa fo67_0 0) (Dv [2] (VldF sh3 0) (Dv [5] (Vi sl25 0) (Dv [0] (VldA sh42 0) ?_))))))))
     refine letv (flqref1_Same ((rv187.getD j_206.toNat default).Value) (rv46.1.getD ((rv187.getD j_206.toNat default).Node : Int).toNat default)) fun rv238 hg239 => ?_
     refine Dx [1, 3] [] [1, 2, 0] (fun G => vb rv238) [fun G => SP.fact (True)] (fun G => xC [1, 0] ca45 (fn45 (((rv187.getD j_206.toNat default).Value)) a219 k220 ((rv46.1.getD ((rv187.getD j_206.toNat default).Node : Int).toNat default)) a234 k235 pre pre rv238 hg239)) (Dv [] Vnot (Dv [] Vpf ?_))
     refine Dn ⟨by kernel_rfl, fun G => ?_⟩
     refine Jw2 [(3, c3), (4, vi i_9), (6, vl a51 k52 rv46.1), (9, vi (rv26.1.S.Deps.length : Int)), (16, vl a190 k191 rv187), (17, vi j_206), (154, vb (!rv238))] [0, 1, 2, 3, 4, 5, 6, 7] [SP.fact (True)] ?_
     refine Jk [0, 1, 2, 3, 4, 5, 6, 6] ?_
     refine Kc ?_ ?_
     · intro h240
       have h242 := not_true h240
       refine KS ?_
       refine Oq Va (KS ?_)
       have hR244 := q2 hM207 (.ret false) (by simp only [flqlaw15_SolverAnswers_L1, h19, h144, h148, h152, h158, h160, h170, h176, h178, h182, h201, h216, h224, h229, h240, h242, hg5, hg27, hg47, hg56, hg65, hg83, hg135, hg169, hg188, hg196, hg239, cs4])
       have hR245 := q2 hM10 (.ret false) (by simp only [flqlaw15_SolverAnswers_L0, h19, h144, h148, h152, h158, h160, h170, h176, h178, h182, h201, h216, h224, h229, h240, h242, hg5, hg27, hg47, hg56, hg65, hg83, hg135, hg169, hg188, hg196, hg239, hR244, cs4])
       have hq := q4 hrr false (by unfold flqlaw15_SolverAnswers; simp only [h19, h144, h148, h152, h158, h160, h170, h176, h178, h182, h201, h216, h224, h229, h240, h242, hg5, hg27, hg47, hg56, hg65, hg83, hg135, hg169, hg188, hg196, hg239, hR244, hR245, cs4]); subst hq
       exact Kr () rfl (.tmp rfl .nil) [] trivial
     intro h240
     have h247 := not_false h240
     refine KS ?_
     refine Oq Vm (Oq Vadd (Oq Va (KS ?_)))
     exact Kg (r218, (j_206 + 1)) [4, 5, 6, 6] ⟨(q3 hM207 (by simp only [flqlaw15_SolverAnswers_L1, h19, h144, h148, h152, h158, h160, h170, h176, h178, h182, h201, h216, h224, h229, h240, h247, hg5, hg27, hg47, hg56, hg65, hg83, hg135, hg169, hg188, hg196, hg239, cs4])), (by omega), (by omega), (by omega), (by omega)⟩
   intro h216
   have g249 := of_decide_eq_false h216
   obtain rfl : r205 = 0 := by omega
   refine Ke ?_
   have hR250 := q2 hM207 (.brk ()) (by simp only [flqlaw15_SolverAnswers_L1, h19, h144, h148, h152, h158, h160, h170, h176, h178, h182, h201, h216, hg5, hg27, hg47, hg56, hg65, hg83, hg135, hg169, hg188, hg196, cs4])
   refine KS ?_
   refine Oq Vm (Oq Vadd (Oq Va (KS ?_)))
   exact Kg (r21, rv26.2, (i_9 + 1)) [2, 2] ⟨(q3 hM10 (by simp only [flqlaw15_SolverAnswers_L0, h19, h144, h148, h152, h158, h160, h170, h176, h178, h182, h201, h216, hg5, hg27, hg47, hg56, hg65, hg83, hg135, hg169, hg188, hg196, hR250, cs4])), (by omega), (by omega), (by omega), (by omega), (by omega), (by omega)⟩
 intro h19
 have g251 := of_decide_eq_false h19
 obtain rfl : r7 = 0 := by omega
 refine Ke ?_
 have hR252 := q2 hM10 (.brk ()) (by simp only [flqlaw15_SolverAnswers_L0, h19, hg5, cs4])
 refine KS ?_
 have hc253 := fn37  flqlaw15_sane rfl
 refine Oc [] ca37 hc253 ?_
 rintro - -
 refine Oq Va (KS ?_)
 have hq := q4 hrr flqlaw15_sane (by unfold flqlaw15_SolverAnswers; simp only [h19, hg5, hR252, cs4]); subst hq
 exact Kr () rfl (.tmp rfl .nil) [] trivial
end Go.SL.G
