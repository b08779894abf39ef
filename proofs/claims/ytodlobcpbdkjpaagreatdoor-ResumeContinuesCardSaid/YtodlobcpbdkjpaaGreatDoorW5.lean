/- Part 5 of the walks: mirrors, plain laws and walks used by the last text of this claim. -/
import Derived.Test.YtodlobcpbdkjpaaGreatDoorW4
import Derived.Test.YtodlobcpbdkjpaaGreatDoorProg
set_option linter.unusedVariables false
set_option linter.unusedSimpArgs false
namespace Go.SL.G
open Go Go.SL Go.Proofs
set_option maxHeartbeats 20000000
set_option maxRecDepth 100000
theorem fn181 (s : GSet) (sa1 : Option Addr) (sk1 : Nat) (b : Int) (hs_0 : i64ok s.Width) (hb_0 : i64ok b) (rr : Bool) (hrr : bt_Has s b = rr) : FT Tryz.prog 181 #[.agg #[vi s.Width, vl sa1 sk1 s.Words], vi b] [S sa1 sk1 s.Words] (fun g : Unit => True) (fun g => vb rr) (fun g => []) := by
 refine FTi Tryz.func181 fun w0 M0 F0 => ?_
 unfold i64ok at hs_0 hb_0
 refine Fb 8 0 fun _ => KS ?_
 refine Oa (Ab [vi s.Width, vl sa1 sk1 s.Words]) fun p2 => Oq Va (KS ?_)
 refine Oq (VldA sh39 0) ?_
 refine letv (bt_Valid s) fun rv3 hg4 => ?_
 have hc5 := fn72 s sa1 sk1 pre rv3 hg4
 refine Oc [1] ca72 hc5 ?_
 rintro - -
 refine Oq Vm ?_
 refine Js 7 ?_ ?_
 ·intro h6
  try have hrg := PV_w (s := s) (by simp only [h6, hg4])
  try have hwi := within_iff (s := s) (b := b) (by simp only [h6, hg4])
  refine Oq (VldA sh39 0) (Oq Vm ?_)
  refine letv (bt_within s b) fun rv8 hg9 => ?_
  have hc10 := fn190 s sa1 sk1 b pre pre rv8 hg9
  refine Oc [1] ca190 hc10 ?_
  rintro - -
  refine Oq Vpt (Oq Vm ?_)
  refine Js 12 ?_ ?_
  ·intro h11
   try have hrg := PV_w (s := s) (by simp only [h6, h11, hg4, hg9])
   try have hwi := within_iff (s := s) (b := b) (by simp only [h6, h11, hg4, hg9])
   refine Oq (Vfa fo39_1 0) (Oq (VldF sh37 0) (Oq Vm (Oq Vquo (Oq (Vi sl37 1) (Oq (VldU sh68 1) (Oq Vm (Oq (VcU un3 un69) (Oq (VremU (b := 64#64) (by simp)) (Oq VshrU ?_)))))))))
   refine Oq (VandU (b := 1#64)) (Oq (VeqlU (b := 1#64)) (Oq Vpt (Oq Va (KS ?_))))
   have hq := q4 hrr ((((s.Words.getD ((b / 64) : Int).toNat 0#64) >>> ((((BitVec.ofInt 64 b) % 64#64).toNat : Int)).toNat) &&& 1#64) == 1#64) (by simp only [bt_Has, h6, h11, hg4, hg9, cs4]); subst hq
   exact Kr () rfl (.tmp rfl .nil) [] trivial
  intro h11
  refine Osk (Osk (Osk (Osk (Osk (Osk (Osk (Osk (Osk (Osk ?_)))))))))
  refine Osk (Osk (Oq Vpf (Oq Va (KS ?_))))
  have hq := q4 hrr false (by simp only [bt_Has, h6, h11, hg4, hg9, cs4]); subst hq
  exact Kr () rfl (.tmp rfl .nil) [] trivial
 intro h6
 refine Osk (Osk (Osk (Oq Vpf (Oq Vm (Osk (Osk (Osk (Osk (Osk ?_)))))))))
 refine Osk (Osk (Osk (Osk (Osk (Osk (Osk (Oq Vpf (Oq Va (KS ?_)))))))))
 have hq := q4 hrr false (by simp only [bt_Has, h6, hg4, cs4]); subst hq
 exact Kr () rfl (.tmp rfl .nil) [] trivial
theorem fn191 (s : GSet) (sa1 : Option Addr) (sk1 : Nat) (b : Int) (member : Bool) (hs_0 : i64ok s.Width) (hb_0 : i64ok b) (rr : GSet × Int) (hrr : bt_changed s b member = rr) : FT Tryz.prog 191 #[.agg #[vi s.Width, vl sa1 sk1 s.Words], vi b, vb member] [S sa1 sk1 s.Words] (fun g : Value => i64ok rr.1.Width ∧ i64ok rr.2) (fun g => .tuple #[.agg #[vi rr.1.Width, g], vi rr.2]) (fun g => [sl g rr.1.Words]) := by
 refine FTi Tryz.func191 fun w0 M0 F0 => ?_
 unfold i64ok at hs_0 hb_0
 refine Fb 8 0 fun _ => KS ?_
 refine Oa (Ab [vi s.Width, vl sa1 sk1 s.Words]) fun p2 => Oa (Al ze39 [vi 0, .slice none 0 0]) fun p3 => Oq Va (KS ?_)
 refine Oq (VldA sh39 1) ?_
 refine letv (bt_Valid s) fun rv4 hg5 => ?_
 have hc6 := fn72 s sa1 sk1 pre rv4 hg5
 refine Oc [2] ca72 hc6 ?_
 rintro - -
 refine Oq Vnot (Oq Va (KS ?_))
 refine Kc ?_ ?_
 ·intro h7
  have h9 := not_true h7
  refine KS ?_
  refine Oq (Vbd st39 [vi 0, .slice none 0 0]) (Ost (Scl [0] sh39 [vi 0, .slice none 0 0]) (Oq Va (KS ?_)))
  refine Jl [] (Ent.slNil (α := BitVec 64)) ?_
  have hq := q4 hrr ((GSet.mk 0 []), 1) (by simp only [bt_changed, h7, h9, hg5, cs4]); subst hq
  exact Kr (.slice none 0 0) rfl (.cellN 1 rfl sh39 rfl (reads_Cl _ _) rfl (.tmp rfl .nil)) [0] en
 intro h7
 have h12 := not_false h7
 try have hrg := PV_w (s := s) (by simp only [h7, h12, hg5])
 try have hwi := within_iff (s := s) (b := b) (by simp only [h7, h12, hg5])
 refine KS ?_
 refine Oq (VldA sh39 1) (Oq Vm ?_)
 refine letv (bt_within s b) fun rv14 hg15 => ?_
 have hc16 := fn190 s sa1 sk1 b pre pre rv14 hg15
 refine Oc [2] ca190 hc16 ?_
 rintro - -
 refine Oq Vnot (Oq Va (KS ?_))
 refine Kc ?_ ?_
 ·intro h17
  have h19 := not_true h17
  refine KS ?_
  refine Oq (Vbd st39 [vi 0, .slice none 0 0]) (Ost (Scl [0] sh39 [vi 0, .slice none 0 0]) (Oq Va (KS ?_)))
  refine Jl [] (Ent.slNil (α := BitVec 64)) ?_
  have hq := q4 hrr ((GSet.mk 0 []), 3) (by simp only [bt_changed, h7, h12, h17, h19, hg5, hg15, cs4]); subst hq
  exact Kr (.slice none 0 0) rfl (.cellN 1 rfl sh39 rfl (reads_Cl _ _) rfl (.tmp rfl .nil)) [0] en
 intro h17
 have h22 := not_false h17
 try have hrg := PV_w (s := s) (by simp only [h7, h12, h17, h22, hg5, hg15])
 try have hwi := within_iff (s := s) (b := b) (by simp only [h7, h12, h17, h22, hg5, hg15])
 refine KS ?_
 refine JK_drawK [0, 1, 0, 4, 12, 31, 0, 127] fmix ?_
 refine Dv [1] (Vfa fo39_0 0) (Dv [1] (VldF sh3 0) (Dv [1] (Vfa fo39_1 0) (Dv [1] (VldF sh37 0) ?_)))
 refine letv (sc_Clone_uint64 s.Words) fun rv25 hg26 => Dx [2] [] [2, 0, 1] (fun G => (G.g 4 0)) [fun G => SP.fact ((rv25.length = s.Words.length)), fun G => os (G.g 4 0) rv25] (fun G => xC [0] ca85 (fn85 s.Words sa1 sk1 rv25 hg26)) ?_
 refine Dx [4] [] [0] (fun G => .agg #[vi s.Width, (G.g 4 0)]) [] (fun G => xV (v := .agg #[vi s.Width, (G.g 4 0)]) (Vo 0 rfl (isO_os _ _) fun aq27 kq28 eq29 => (by rw [eq29]; exact Vbd st39 [vi s.Width, .slice aq27 ((rv25 : List (BitVec 64)).length) kq28]))) (Dx [] [] [0] (fun G => (G.g 6 0)) [fun G => Cl (G.g 6 0) [vi 0, .slice none 0 0]] (fun G => xA (Al ze39 [vi 0, .slice none 0 0])) (Dx0 [4, 5] [5] [1, 0] [fun G => Cl (G.g 6 0) [vi s.Width, (G.g 4 0)]] (fun G => x1 0 rfl os_one fun ho31 => (xS (Scl [1] sh39 [vi s.Width, (G.g 4 0)] (v := .agg #[vi s.Width, (G.g 4 0)]) (h1 := show [vi s.Width, (G.g 4 0)].all (·.oneCell') = true from (by simp only [List.all_cons, List.all_nil, ho31, Bool.and_true, Bool.true_and] <;> rfl))))) ?_))
 refine Dn ⟨by kernel_rfl, fun G => ?_⟩
 refine Jw2 [(1, vi b), (2, vb member), (6, p3), (8, (G.g 6 0))] [0, 1, 2] [SP.fact ((rv25.length = s.Words.length)), os (G.g 4 0) rv25, Cl (G.g 6 0) [vi s.Width, (G.g 4 0)]] ?_
 generalize G.g 4 0 = c24, G.g 6 0 = p30
 refine Jf 3 rfl ?_; rintro he32
 refine Jk [0, 0, 1, 3, 3] ?_
 refine Jo 3 ?_; rintro a33 k34 rfl
 refine Fb 8 3 fun _ => KS ?_
 refine Oq (Vfa fo39_1 4) (Oq (VldF sh37 4) (Oq Vm (Oq Vquo (Oq (Vi sl37 3) (Oq (VldU sh68 3) (Oq Vm (Oq (VcU un3 un69) (Oq (VremU (b := 64#64) (by simp)) (Oq (VshlU (a := 1#64)) ?_)))))))))
 refine Oq VandNotU (Oq (Vi sl37 3) (Ost (SoU [3] sh68) (KS ?_)))
 refine Oq Vm (KS ?_)
 refine Kc ?_ ?_
 ·intro h36
  refine KS ?_
  refine Oq (VldA sh39 4) (Oq Vm ?_)
  refine Fl 0 fun hn38 => ?_; (try unfold vl); rw [← hn38]
  refine letv (bt_put (GSet.mk s.Width (rv25.set ((b / 64) : Int).toNat ((rv25.getD ((b / 64) : Int).toNat 0#64) &&& ~~~(1#64 <<< ((((BitVec.ofInt 64 b) % 64#64).toNat : Int)).toNat)))) b) fun rv39 hg40 => ?_
  have hc41 := fn146 ((GSet.mk s.Width (rv25.set ((b / 64) : Int).toNat ((rv25.getD ((b / 64) : Int).toNat 0#64) &&& ~~~(1#64 <<< ((((BitVec.ofInt 64 b) % 64#64).toNat : Int)).toNat))))) a33 k34 b pre pre pre rv39 hg40
  refine Oc [0] ca146 hc41 ?_
  rintro - -
  refine KS ?_
  refine Oq (VldA sh39 4) (Ost (Scl [1] sh39 [vi s.Width, .slice a33 ((rv25.set ((b / 64) : Int).toNat ((rv25.getD ((b / 64) : Int).toNat 0#64) &&& ~~~(1#64 <<< ((((BitVec.ofInt 64 b) % 64#64).toNat : Int)).toNat))).length) k34]) (Oq Va (KS ?_)))
  refine Jl [1] (Ent.freeze _ _) ?_
  have hq := q4 hrr ((GSet.mk s.Width rv39), 0) (by simp only [bt_changed, h7, h12, h17, h22, h36, hg5, hg15, hg26, hg40, cs4]); subst hq
  exact Kr (.slice a33 ((rv25.set ((b / 64) : Int).toNat ((rv25.getD ((b / 64) : Int).toNat 0#64) &&& ~~~(1#64 <<< ((((BitVec.ofInt 64 b) % 64#64).toNat : Int)).toNat))).length) k34) rfl (.cellN 1 rfl sh39 rfl (reads_Cl _ _) rfl (.tmp rfl .nil)) [0] en
 intro h36
 refine KS ?_
 refine Oq (VldA sh39 4) (Ost (Scl [1] sh39 [vi s.Width, vl a33 k34 rv25]) (Oq Va (KS ?_)))
 refine Jl [1] (Ent.freeze _ _) ?_
 have hq := q4 hrr ((GSet.mk s.Width (rv25.set ((b / 64) : Int).toNat ((rv25.getD ((b / 64) : Int).toNat 0#64) &&& ~~~(1#64 <<< ((((BitVec.ofInt 64 b) % 64#64).toNat : Int)).toNat)))), 0) (by simp only [bt_changed, h7, h12, h17, h22, h36, hg5, hg15, hg26, cs4]); subst hq
 exact Kr (vl a33 k34 rv25) rfl (.cellN 1 rfl sh39 rfl (reads_Cl _ _) rfl (.tmp rfl .nil)) [0] en
theorem fn182 (s : GSet) (sa1 : Option Addr) (sk1 : Nat) (b : Int) (hs_0 : i64ok s.Width) (hb_0 : i64ok b) (rr : GSet × Int) (hrr : bt_With s b = rr) : FT Tryz.prog 182 #[.agg #[vi s.Width, vl sa1 sk1 s.Words], vi b] [S sa1 sk1 s.Words] (fun g : Value => i64ok rr.1.Width ∧ i64ok rr.2) (fun g => .tuple #[.agg #[vi rr.1.Width, g], vi rr.2]) (fun g => [sl g rr.1.Words]) := by
 refine FTi Tryz.func182 fun w0 M0 F0 => ?_
 unfold i64ok at hs_0 hb_0
 refine Fb 8 0 fun _ => KS ?_
 refine Oa (Ab [vi s.Width, vl sa1 sk1 s.Words]) fun p2 => Oa (Al ze39 [vi 0, .slice none 0 0]) fun p3 => Oq Va (KS ?_)
 refine Oq (VldA sh39 1) (Oq Vm ?_)
 refine letv (bt_changed s b true) fun rv5 hg6 => ?_
 have hc7 := fn191 s sa1 sk1 b true pre pre rv5 hg6
 refine Oc [2] ca191 hc7 ?_
 rintro c4 ⟨he8, he9⟩
 unfold i64ok at he8 he9
 refine Jo 0 ?_; rintro a10 k11 rfl
 refine Fb 8 0 fun _ => ?_
 refine Oq Vx (Oq Vx (Ost (Scl [1] sh39 [vi rv5.1.Width, vl a10 k11 rv5.1.Words]) (Oq Va (KS ?_))))
 have hq := q4 hrr (rv5.1, rv5.2) (by simp only [bt_With, hg6, cs4]); subst hq
 exact Kr (vl a10 k11 rv5.1.Words) rfl (.cellN 0 rfl sh39 rfl (reads_Cl _ _) rfl (.tmp rfl .nil)) [1] en
theorem fn163 (t : GTransfer) (ta1 : Option Addr) (tk1 : Nat) (ta3 : Option Addr) (tk3 : Nat) (ta4 : Option Addr) (tk4 : Nat) (s : GSet) (sa1 : Option Addr) (sk1 : Nat) (ht_0 : i64ok t.Gen.Width) (ht_2 : i64ok t.Kill.Width) (hs_0 : i64ok s.Width) (rr : GSet) (hrr : tf_apply t s = rr) : FT Tryz.prog 163 #[.agg #[vi t.Gen.Width, vl ta1 tk1 t.Gen.Words, vi t.Kill.Width, vl ta3 tk3 t.Kill.Words, vl ta4 tk4 t.Copies], .agg #[vi s.Width, vl sa1 sk1 s.Words]] [S ta1 tk1 t.Gen.Words, S ta3 tk3 t.Kill.Words, S ta4 tk4 t.Copies, S sa1 sk1 s.Words] (fun g : Value => i64ok rr.Width) (fun g => .agg #[vi rr.Width, g]) (fun g => [sl g rr.Words]) := by
 refine FTi Tryz.func163 fun w0 M0 F0 => ?_
 unfold i64ok at ht_0 ht_2 hs_0
 refine Fb 8 0 fun _ => Fb 8 1 fun _ => Fb 16 2 fun _ => Fb 8 3 fun _ => KS ?_
 refine Oa (Ab [vi t.Gen.Width, vl ta1 tk1 t.Gen.Words, vi t.Kill.Width, vl ta3 tk3 t.Kill.Words, vl ta4 tk4 t.Copies]) fun p5 => Oa (Ab [vi s.Width, vl sa1 sk1 s.Words]) fun p6 => Oa (Al ze39 [vi 0, .slice none 0 0]) fun p7 => KS ?_
 refine Oq (VldA sh39 1) (Oq (Vfa fo85_1 2) (Oq (VldG sh39 2 [vi t.Kill.Width, vl ta3 tk3 t.Kill.Words]) ?_))
 refine letv (bt_Diff s t.Kill) fun rv9 hg10 => ?_
 have hc11 := fn180 s sa1 sk1 t.Kill ta3 tk3 pre pre rv9 hg10
 refine Oc [6, 4] ca180 hc11 ?_
 rintro c8 ⟨he12, he13⟩
 unfold i64ok at he12 he13
 refine Jo 0 ?_; rintro a14 k15 rfl
 refine Fb 8 0 fun _ => ?_
 refine Oq Vm (Oq Vx (Oq Vx (Oa (Al ze39 [vi 0, .slice none 0 0]) fun p17 => Ost (Scl [0] sh39 [vi rv9.1.Width, vl a14 k15 rv9.1.Words]) (Oq Va (KS ?_)))))
 refine Oq (VldA sh39 0) (Oq (Vfa fo85_0 4) (Oq (VldG sh39 4 [vi t.Gen.Width, vl ta1 tk1 t.Gen.Words]) ?_))
 refine letv (bt_Union rv9.1 t.Gen) fun rv19 hg20 => ?_
 have hc21 := fn127 rv9.1 a14 k15 t.Gen ta1 tk1 pre pre rv19 hg20
 refine Oc [1, 5] ca127 hc21 ?_
 rintro c18 ⟨he22, he23⟩
 unfold i64ok at he22 he23
 refine Jo 0 ?_; rintro a24 k25 rfl
 refine Fb 8 0 fun _ => ?_
 refine Oq Vm (Oq Vx (Oq Vx (Ost (Scl [1] sh39 [vi rv19.1.Width, vl a24 k25 rv19.1.Words]) (KS ?_))))
 refine Oq (Vfa fo85_2 5) (Oq (VldF sh83 5) (Oq (Vlen sl83) (Oq Vm (KS ?_))))
 refine Kl (γ := Nat × Int × List (BitVec 64) × Int × Option Addr × Nat) (fun (r27, out0_28, out1_29, v26_30, a31, k32) => ⟨[(3, p6), (4, p7), (5, p17), (24, vl ta4 tk4 t.Copies), (25, vi (t.Copies.length : Int)), (26, vi v26_30)], [S a31 k32 out1_29, Cl p17 [vi out0_28, vl a31 k32 out1_29], Cl p7 [vi 0, .slice none 0 0], pv p6 [vi s.Width, vl sa1 sk1 s.Words], S ta4 tk4 t.Copies, S sa1 sk1 s.Words], tf_apply_L0 t s r27 out0_28 out1_29 v26_30 = tf_apply_L0 t s (((t.Copies.length : Int) - 0).toNat) rv19.1.Width rv19.1.Words 0 ∧ r27 = ((t.Copies.length : Int) - v26_30).toNat ∧ (0 : Int) ≤ v26_30 ∧ v26_30 ≤ (t.Copies.length : Int) ∧ (-9223372036854775808 ≤ out0_28 ∧ out0_28 ≤ 9223372036854775807) ∧ (-9223372036854775808 ≤ v26_30 ∧ v26_30 ≤ 9223372036854775807), r27⟩) (((t.Copies.length : Int) - 0).toNat, rv19.1.Width, rv19.1.Words, 0, a24, k25) [1, 0, 2, 2, 6, 7] ⟨rfl, rfl, aM1, aM1, aM1, aM1⟩ ?_
 rintro ⟨r27, out0_28, out1_29, v26_30, a31, k32⟩ ⟨hM33, hr34, hi35, hi36, hk37, hk38⟩
 refine JJ_nx fun _ _ hL hA => ?_; dsimp only at hL hA; subst hL hA
 refine Fb 8 0 fun _ => Fb 16 4 fun _ => Fb 8 5 fun _ => KS ?_
 refine Oq Vlss (KS ?_)
 refine Kc ?_ ?_
 ·intro h42
  have g43 := dt h42
  obtain ⟨r44, rfl⟩ := scc (n := r27) aM1
  refine KS ?_
  refine Oq (Vi sl83 4) ?_
  refine JJ_peek_GCopy v26_30.toNat 4 rfl rng fun hb45 hb46 => ?_
  unfold i64ok at hb45 hb46
  refine Oq (VldA sh108 0) (Oa (Al ze108 [vi 0, vi 0]) fun p47 => Ost (Scl [0] sh108 [vi ((t.Copies.getD v26_30.toNat default).From), vi ((t.Copies.getD v26_30.toNat default).To)]) (KS ?_))
  refine Oq (VldA sh39 5) (Oq (Vfa fo108_0 0) (Oq (VldF sh3 0) ?_))
  refine letv (bt_Has s ((t.Copies.getD v26_30.toNat default).From)) fun rv48 hg49 => ?_
  have hc50 := fn181 s sa1 sk1 ((t.Copies.getD v26_30.toNat default).From) pre pre rv48 hg49
  refine Oc [7] ca181 hc50 ?_
  rintro - -
  refine KS ?_
  refine Kc ?_ ?_
  ·intro h51
   refine KS ?_
   refine Oq (VldA sh39 3) (Oq (Vfa fo108_1 0) (Oq (VldF sh3 0) ?_))
   refine letv (bt_With (GSet.mk out0_28 out1_29) ((t.Copies.getD v26_30.toNat default).To)) fun rv54 hg55 => ?_
   have hc56 := fn182 ((GSet.mk out0_28 out1_29)) a31 k32 ((t.Copies.getD v26_30.toNat default).To) pre pre rv54 hg55
   refine Oc [2] ca182 hc56 ?_
   rintro c53 ⟨he57, he58⟩
   unfold i64ok at he57 he58
   refine Jo 0 ?_; rintro a59 k60 rfl
   refine Fb 8 0 fun _ => ?_
   refine Oq Vm (Oq Vx (Oq Vx (Ost (Scl [4] sh39 [vi rv54.1.Width, vl a59 k60 rv54.1.Words]) (KS ?_))))
   refine Oq Vadd (Oq Vm (KS ?_))
   exact Kg (r44, rv54.1.Width, rv54.1.Words, (v26_30 + 1), a59, k60) [1, 0, 4, 4, 5, 6] ⟨(q3 hM33 (by simp only [tf_apply_L0, h42, h51, hg49, hg55, cs4])), aM1, aM1, aM1, aM1, aM1⟩
  intro h51
  refine KS ?_
  refine Oq Vadd (Oq Vm (KS ?_))
  exact Kg (r44, out0_28, out1_29, (v26_30 + 1), a31, k32) [2, 3, 3, 3, 4, 5] ⟨(q3 hM33 (by simp only [tf_apply_L0, h42, h51, hg49, cs4])), aM1, aM1, aM1, aM1, aM1⟩
 intro h42
 have g63 := df h42
 obtain rfl : r27 = 0 := by omega
 refine Ke ?_
 have hR64 := q2 hM33 (out0_28, out1_29) (by simp only [tf_apply_L0, h42, cs4])
 refine KS ?_
 refine Oq (VldA sh39 1) (Ost (Scl [2] sh39 [vi out0_28, vl a31 k32 out1_29]) (KS ?_))
 have hq := q4 hrr (GSet.mk out0_28 out1_29) (by simp only [tf_apply, h42, hg10, hg20, hR64, cs4]); subst hq
 exact Kr (vl a31 k32 out1_29) rfl (.cellN 0 rfl sh39 rfl (reads_Cl _ _) rfl .nil) [1] en
theorem fn126 (t : GTransfer) (ta1 : Option Addr) (tk1 : Nat) (ta3 : Option Addr) (tk3 : Nat) (ta4 : Option Addr) (tk4 : Nat) (s : GSet) (sa1 : Option Addr) (sk1 : Nat) (ht_0 : i64ok t.Gen.Width) (ht_2 : i64ok t.Kill.Width) (hs_0 : i64ok s.Width) (rr : GSet × Int) (hrr : tf_Apply t s = rr) : FT Tryz.prog 126 #[.agg #[vi t.Gen.Width, vl ta1 tk1 t.Gen.Words, vi t.Kill.Width, vl ta3 tk3 t.Kill.Words, vl ta4 tk4 t.Copies], .agg #[vi s.Width, vl sa1 sk1 s.Words]] [S ta1 tk1 t.Gen.Words, S ta3 tk3 t.Kill.Words, S ta4 tk4 t.Copies, S sa1 sk1 s.Words] (fun g : Value => i64ok rr.1.Width ∧ i64ok rr.2) (fun g => .tuple #[.agg #[vi rr.1.Width, g], vi rr.2]) (fun g => [sl g rr.1.Words]) := by
 refine FTi Tryz.func126 fun w0 M0 F0 => ?_
 unfold i64ok at ht_0 ht_2 hs_0
 refine Fb 8 0 fun _ => Fb 8 1 fun _ => Fb 16 2 fun _ => Fb 8 3 fun _ => KS ?_
 refine Oa (Ab [vi t.Gen.Width, vl ta1 tk1 t.Gen.Words, vi t.Kill.Width, vl ta3 tk3 t.Kill.Words, vl ta4 tk4 t.Copies]) fun p5 => Oa (Ab [vi s.Width, vl sa1 sk1 s.Words]) fun p6 => Oa (Al ze39 [vi 0, .slice none 0 0]) fun p7 => Oq Va (KS ?_)
 refine Oq (VldA sh85 2) ?_
 refine letv (tf_Valid t) fun rv8 hg9 => ?_
 have hc10 := fn162 t ta1 tk1 ta3 tk3 ta4 tk4 pre pre rv8 hg9
 refine Oc [3, 4, 5] ca162 hc10 ?_
 rintro - -
 refine Oq Vnot (Oq Vm ?_)
 refine Js 10 ?_ ?_
 ·intro h11
  have h13 := not_true h11
  refine Osk (Osk (Osk (Oq Vpt (Oq Va (KS ?_)))))
  refine Kt (KS ?_)
  refine Oq (Vbd st39 [vi 0, .slice none 0 0]) (Ost (Scl [0] sh39 [vi 0, .slice none 0 0]) (Oq Va (KS ?_)))
  refine Jl [] (Ent.slNil (α := BitVec 64)) ?_
  have hq := q4 hrr ((GSet.mk 0 []), 1) (by simp only [tf_Apply, h11, h13, hg9, cs4]); subst hq
  exact Kr (.slice none 0 0) rfl (.cellN 1 rfl sh39 rfl (reads_Cl _ _) rfl (.tmp rfl .nil)) [0] en
 intro h11
 have h16 := not_false h11
 refine Oq (VldA sh39 1) ?_
 refine letv (bt_Valid s) fun rv18 hg19 => ?_
 have hc20 := fn72 s sa1 sk1 pre rv18 hg19
 refine Oc [6] ca72 hc20 ?_
 rintro - -
 refine Oq Vnot (Oq Vpf (Oq Va (KS ?_)))
 refine Kc ?_ ?_
 ·intro h21
  have h23 := not_true h21
  refine KS ?_
  refine Oq (Vbd st39 [vi 0, .slice none 0 0]) (Ost (Scl [0] sh39 [vi 0, .slice none 0 0]) (Oq Va (KS ?_)))
  refine Jl [] (Ent.slNil (α := BitVec 64)) ?_
  have hq := q4 hrr ((GSet.mk 0 []), 1) (by simp only [tf_Apply, h11, h16, h21, h23, hg9, hg19, cs4]); subst hq
  exact Kr (.slice none 0 0) rfl (.cellN 1 rfl sh39 rfl (reads_Cl _ _) rfl (.tmp rfl .nil)) [0] en
 intro h21
 have h26 := not_false h21
 refine KS ?_
 refine Oq (Vfa fo85_0 2) (Oq (VfaF fo39_0 2) (Oq (VldF sh3 2) (Oq (Vfa fo39_0 1) (Oq (VldF sh3 1) (Oq Vneq (Oq Va (KS ?_)))))))
 refine Kc ?_ ?_
 ·intro h28
  have g29 := ne_of_bne h28
  refine KS ?_
  refine Oq (Vbd st39 [vi 0, .slice none 0 0]) (Ost (Scl [0] sh39 [vi 0, .slice none 0 0]) (Oq Va (KS ?_)))
  refine Jl [] (Ent.slNil (α := BitVec 64)) ?_
  have hq := q4 hrr ((GSet.mk 0 []), 2) (by simp only [tf_Apply, h11, h16, h21, h26, h28, hg9, hg19, cs4]); subst hq
  exact Kr (.slice none 0 0) rfl (.cellN 1 rfl sh39 rfl (reads_Cl _ _) rfl (.tmp rfl .nil)) [0] en
 intro h28
 have g30 := eq_of_bne_false h28
 refine KS ?_
 refine Oq (VldA sh85 2) (Oq (VldA sh39 1) ?_)
 refine letv (tf_apply t s) fun rv32 hg33 => ?_
 have hc34 := fn163 t ta1 tk1 ta3 tk3 ta4 tk4 s sa1 sk1 pre pre pre rv32 hg33
 refine Oc [3, 4, 5, 6] ca163 hc34 ?_
 rintro c31 he35
 unfold i64ok at he35
 refine Jo 0 ?_; rintro a36 k37 rfl
 refine Fb 8 0 fun _ => ?_
 refine Ost (Scl [1] sh39 [vi rv32.Width, vl a36 k37 rv32.Words]) (Oq Va (KS ?_))
 have hq := q4 hrr (rv32, 0) (by simp only [tf_Apply, h11, h16, h21, h26, h28, hg9, hg19, hg33, cs4]); subst hq
 exact Kr (vl a36 k37 rv32.Words) rfl (.cellN 0 rfl sh39 rfl (reads_Cl _ _) rfl (.tmp rfl .nil)) [1] en
theorem fn166 (s1 : List (BitVec 64)) (s1a0 : Option Addr) (s1k0 : Nat) (s2 : List (BitVec 64)) (s2a0 : Option Addr) (s2k0 : Nat) (rr : Bool) (hrr : sc_Equal_uint64 s1 s2 = rr) : FT Tryz.prog 166 #[vl s1a0 s1k0 s1, vl s2a0 s2k0 s2] [S s1a0 s1k0 s1, S s2a0 s2k0 s2] (fun g : Unit => True) (fun g => vb rr) (fun g => []) := by
 refine FTi Tryz.func166 fun w0 M0 F0 => Fb 8 0 fun _ => Fb 8 1 fun _ => ?_
 refine KS ?_
 refine Oq Va (KS ?_)
 refine Oq Vm (Oq (Vlen sl37) (Oq Vm (Oq (Vlen sl37) (Oq Vneq (KS ?_)))))
 refine Kc ?_ ?_
 ·intro h3
  have g4 := ne_of_bne h3
  refine KS ?_
  refine Oq Va (KS ?_)
  have hq := q4 hrr false (by simp only [sc_Equal_uint64, h3, cs4]); subst hq
  exact Kr () rfl (.tmp rfl .nil) [] trivial
 intro h3
 have g5 := eq_of_bne_false h3
 refine KS ?_
 refine Oq Vm (Oq (Vlen sl37) (Oq Vm (KS ?_)))
 refine Kl (γ := Nat × Int) (fun (r6, v13_7) => ⟨[(0, vl s1a0 s1k0 s1), (1, vl s2a0 s2k0 s2), (12, vi (s1.length : Int)), (13, vi v13_7)], [S s1a0 s1k0 s1, S s2a0 s2k0 s2], sc_Equal_uint64_L0 s1 s2 r6 v13_7 = sc_Equal_uint64_L0 s1 s2 (((s1.length : Int) - 0).toNat) 0 ∧ r6 = ((s1.length : Int) - v13_7).toNat ∧ (0 : Int) ≤ v13_7 ∧ v13_7 ≤ (s1.length : Int) ∧ (-9223372036854775808 ≤ v13_7 ∧ v13_7 ≤ 9223372036854775807), r6⟩) (((s1.length : Int) - 0).toNat, 0) [0, 1] ⟨rfl, rfl, aM1, aM1, aM1⟩ ?_
 rintro ⟨r6, v13_7⟩ ⟨hM8, hr9, hi10, hi11, hk12⟩
 refine JJ_nx fun _ _ hL hA => ?_; dsimp only at hL hA; subst hL hA
 refine Fb 8 0 fun _ => Fb 8 1 fun _ => KS ?_
 refine Oq Vlss (KS ?_)
 refine Kc ?_ ?_
 ·intro h15
  have g16 := dt h15
  obtain ⟨r17, rfl⟩ := scc (n := r6) aM1
  refine KS ?_
  refine Oq Vm (Oq Va (KS ?_))
  refine Kq [0, 0, 3, 7, 0, 0, 48, 112, 255] fmix ?_
  refine Qv [] Vm (Qv [] Vm (Qv [0] (Vi sl37 0) (Qv [0] (VldU sh68 0) (Qv [] Vm (Qv [] Vm (Qv [1] (Vi sl37 0) (Qv [1] (VldU sh68 0) (Qv [] VneqU ?_))))))))
  refine Qn ⟨by kernel_rfl, ?_⟩
  refine Kc ?_ ?_
  ·intro h18
   have g19 := ne_of_bne h18
   refine KS ?_
   refine Oq Va (KS ?_)
   have hR20 := q2 hM8 (.ret false) (by simp only [sc_Equal_uint64_L0, h15, h18, cs4])
   have hq := q4 hrr false (by simp only [sc_Equal_uint64, h3, h15, h18, hR20, cs4]); subst hq
   exact Kr () rfl (.tmp rfl .nil) [] trivial
  intro h18
  have g21 := eq_of_bne_false h18
  refine KS ?_
  refine Oq Vadd (Oq Vm (KS ?_))
  exact Kg (r17, (v13_7 + 1)) [0, 1] ⟨(q3 hM8 (by simp only [sc_Equal_uint64_L0, h15, h18, cs4])), aM1, aM1, aM1, aM1⟩
 intro h15
 have g22 := df h15
 obtain rfl : r6 = 0 := by omega
 refine Ke ?_
 have hR23 := q2 hM8 (.brk ()) (by simp only [sc_Equal_uint64_L0, h15, cs4])
 refine KS ?_
 refine Oq Va (KS ?_)
 have hq := q4 hrr true (by simp only [sc_Equal_uint64, h3, h15, hR23, cs4]); subst hq
 exact Kr () rfl (.tmp rfl .nil) [] trivial
theorem fn128 (a : GSet) (aa1 : Option Addr) (ak1 : Nat) (b : GSet) (ba1 : Option Addr) (bk1 : Nat) (ha_0 : i64ok a.Width) (hb_0 : i64ok b.Width) (rr : Bool) (hrr : bt_Equal a b = rr) : FT Tryz.prog 128 #[.agg #[vi a.Width, vl aa1 ak1 a.Words], .agg #[vi b.Width, vl ba1 bk1 b.Words]] [S aa1 ak1 a.Words, S ba1 bk1 b.Words] (fun g : Unit => True) (fun g => vb rr) (fun g => []) := by
 refine FTi Tryz.func128 fun w0 M0 F0 => ?_
 unfold i64ok at ha_0 hb_0
 refine Fb 8 0 fun _ => Fb 8 1 fun _ => KS ?_
 refine Oa (Ab [vi a.Width, vl aa1 ak1 a.Words]) fun p3 => Oa (Ab [vi b.Width, vl ba1 bk1 b.Words]) fun p4 => Oq Va (KS ?_)
 refine Oq (VldA sh39 1) ?_
 refine letv (bt_Valid a) fun rv5 hg6 => ?_
 have hc7 := fn72 a aa1 ak1 pre rv5 hg6
 refine Oc [2] ca72 hc7 ?_
 rintro - -
 refine Oq Vm ?_
 refine Js 7 ?_ ?_
 ·intro h8
  refine Oq (VldA sh39 0) ?_
  refine letv (bt_Valid b) fun rv10 hg11 => ?_
  have hc12 := fn72 b ba1 bk1 pre rv10 hg11
  refine Oc [3] ca72 hc12 ?_
  rintro - -
  refine Oq Vpt (Oq Vm ?_)
  refine Js 11 ?_ ?_
  ·intro h13
   refine Oq (Vfa fo39_0 1) (Oq (VldF sh3 1) (Oq (Vfa fo39_0 0) (Oq (VldF sh3 0) (Oq Veql (Oq Vpt (Oq Vm ?_))))))
   refine Js 18 ?_ ?_
   ·intro h15
    have g16 := eq_of_beq h15
    refine Oq (Vfa fo39_1 1) (Oq (VldF sh37 1) (Oq (Vfa fo39_1 0) (Oq (VldF sh37 0) ?_)))
    refine letv (sc_Equal_uint64 a.Words b.Words) fun rv17 hg18 => ?_
    have hc19 := fn166 a.Words aa1 ak1 b.Words ba1 bk1 rv17 hg18
    refine Oc [2, 3] ca166 hc19 ?_
    rintro - -
    refine Oq Vpt (Oq Va (KS ?_))
    have hq := q4 hrr rv17 (by simp only [bt_Equal, h8, h13, h15, hg6, hg11, hg18, cs4]); subst hq
    exact Kr () rfl (.tmp rfl .nil) [] trivial
   intro h15
   have g20 := ne_of_beq_false h15
   refine Osk (Osk (Osk (Osk (Osk (Oq Vpf (Oq Va (KS ?_)))))))
   have hq := q4 hrr false (by simp only [bt_Equal, h8, h13, h15, hg6, hg11, cs4]); subst hq
   exact Kr () rfl (.tmp rfl .nil) [] trivial
  intro h13
  refine Osk (Osk (Osk (Osk (Osk (Oq Vpf (Oq Vm (Osk (Osk (Osk ?_)))))))))
  refine Osk (Osk (Oq Vpf (Oq Va (KS ?_))))
  have hq := q4 hrr false (by simp only [bt_Equal, h8, h13, hg6, hg11, cs4]); subst hq
  exact Kr () rfl (.tmp rfl .nil) [] trivial
 intro h8
 refine Osk (Osk (Oq Vpf (Oq Vm (Osk (Osk (Osk (Osk (Osk (Oq Vpf ?_)))))))))
 refine Oq Vm (Osk (Osk (Osk (Osk (Osk (Oq Vpf (Oq Va (KS ?_))))))))
 have hq := q4 hrr false (by simp only [bt_Equal, h8, hg6, cs4]); subst hq
 exact Kr () rfl (.tmp rfl .nil) [] trivial
theorem fn84 (s : GSystem) (sa1 : Option Addr) (sk1 : Nat) (sa2 : Option Addr) (sk2 : Nat) (sa3 : Option Addr) (sk3 : Nat) (stP : Value) (st : GState) (sta1 : Option Addr) (stk1 : Nat) (sta2 : Option Addr) (stk2 : Nat) (sta5 : Option Addr) (stk5 : Nat) (sta6 : Option Addr) (stk6 : Nat) (hs_0 : i64ok s.Width) (hst_0 : i64ok st.Phase) (hst_3 : i64ok st.At) (hst_4 : i64ok st.Edge) (hst_7 : i64ok st.Steps) (hv : VSys s) (hp : POk s st) (rr : Int × GState) (hrr : so_push s st = rr) : FT Tryz.prog 84 #[.agg #[vi s.Width, vl sa1 sk1 s.Deps, vl sa2 sk2 s.Transfers, vl sa3 sk3 s.Boundary], stP] [S sa1 sk1 s.Deps, S sa2 sk2 s.Transfers, S sa3 sk3 s.Boundary, Cl stP [vi st.Phase, vl sta1 stk1 st.Cone, vl sta2 stk2 st.Leaf, vi st.At, vi st.Edge, vl sta5 stk5 st.Values, vl sta6 stk6 st.Queue, vi st.Steps], O sta1 stk1 st.Cone, O sta2 stk2 st.Leaf, O sta5 stk5 st.Values, O sta6 stk6 st.Queue] (fun g : Value × Value × Value × Value => i64ok rr.1 ∧ i64ok rr.2.Phase ∧ i64ok rr.2.At ∧ i64ok rr.2.Edge ∧ i64ok rr.2.Steps ∧ (0 ≤ rr.1 ∧ rr.1 ≤ 8)) (fun g => vi rr.1) (fun g => [Cl stP [vi rr.2.Phase, g.1, g.2.1, vi rr.2.At, vi rr.2.Edge, g.2.2.1, g.2.2.2, vi rr.2.Steps], os g.1 rr.2.Cone, os g.2.1 rr.2.Leaf, os g.2.2.1 rr.2.Values, os g.2.2.2 rr.2.Queue]) := by
 refine FTi Tryz.func84 fun w0 M0 F0 => ?_
 unfold i64ok at hs_0 hst_0 hst_3 hst_4 hst_7
 refine Fb 24 0 fun _ => Fb 88 1 fun _ => Fb 32 2 fun _ => Fb 8 4 fun _ => Fo 4 fun ho5 => Fb 1 5 fun _ => Fb 32 6 fun _ => Fb 8 7 fun _ => ?_
 refine Fo 7 fun ho9 => ?_
 have hv1 := hv.n
 have hv2 := hv.tl
 have hv3 := hv.bl
 have hv4 := hv.w
 have hv5 := hv.dep_len
 have hp1 := hp.lf
 have hp2 := hp.cl
 have hp3 := hp.vl
 have hp4 := hp.qn
 have hp5 := hp.ql
 have hpi := hp.qr _ (getD_mem (xs := st.Queue) (i := (0 : Int).toNat) (d := 0) (by show 0 < _; omega))
 have hpc := hp.cr _ (getD_mem (xs := st.Cone) (i := ((st.Queue.getD (0 : Int).toNat 0) : Int).toNat) (d := 0) aM1)
 refine KS ?_
 refine Oa (Ab [vi s.Width, vl sa1 sk1 s.Deps, vl sa2 sk2 s.Transfers, vl sa3 sk3 s.Boundary]) fun p10 => Oq Va (KS ?_)
 refine Oq Vm (Oq (Vn 4) (Oq (Vfa fo26_6 4) (Oq (VldF sh22 4) (Oq (Vi sl22 8) ?_))))
 have hb11 := ok1 (i := (0 : Int).toNat) ho9 rng
 refine Oq (VldI sh3 8) (Oq Va (KS ?_))
 refine Oq Vm (Oq Vm (Oq (Vn 4) (Oq (Vfa fo26_6 4) (Oq (VldF sh22 4) (Oa (AslO [8] sl22 ((1 : Int).toNat) st.Queue.length) fun c12 => ?_)))))
 refine Jo 0 ?_; rintro a13 k14 rfl
 refine Fb 8 0 fun _ => Fo 0 fun ho16 => ?_
 have hn17 : ((st.Queue.take st.Queue.length).drop ((1 : Int).toNat)).length = st.Queue.length - ((1 : Int).toNat) := len_slice rng rng
 refine Oq (Vn 5) (Oq (Vfa fo26_6 5) (Ost (SclF [5] sh22 [vi st.Phase, vl sta1 stk1 st.Cone, vl sta2 stk2 st.Leaf, vi st.At, vi st.Edge, vl sta5 stk5 st.Values, vl a13 k14 ((st.Queue.take st.Queue.length).drop ((1 : Int).toNat)), vi st.Steps]) (KS ?_)))
 refine Jp 0 fun hp18 => ?_
 refine JK_drawK [0, 0, 2, 6, 14, 0, 32, 96, 224, 0, 1023, 2047] fmix ?_
 refine Dv [3] (VldA sh32 0) (Dv [] Vm (Dv [0] (Vn 0) (Dv [0] (Vfa fo26_1 0) (Dv [1] (VldF sh22 0) (Dv [] Vm (Dv [0] (Vn 0) (Dv [0] (Vfa fo26_2 0) (Dv [1] (VldF sh23 0) (Dv [] Vm ?_)))))))))
 refine letv (cn_Dependents s st.Cone st.Leaf (st.Queue.getD (0 : Int).toNat 0)) fun rv20 hg21 => ?_
 refine Dx [4, 5, 6, 7, 8] [] [4, 5, 6, 2, 1, 0, 1] (fun G => (G.g 10 0)) [fun G => SP.fact ((rv20.length ≤ st.Cone.length)), fun G => os (G.g 10 0) rv20] (fun G => xC [4, 3, 0, 1, 2] ca125 (FT_borrow (A := _) hlx (FT_ent (Ent.take (is := [1, 1, 2, 3, 0]) rfl) (FT_borrow (A := _) hlx (FT_ent (Ent.take (is := [1, 2, 3, 0, 4]) rfl) (fn125 s sa1 sk1 sa2 sk2 sa3 sk3 st.Cone sta1 stk1 st.Leaf sta2 stk2 ((st.Queue.getD (0 : Int).toNat 0)) pre pre rv20 hg21))))) (ht := rfl)) (Dg [] (fun G => (G.g 10 0)) (fun G => Va) ?_)
 refine Dn ⟨by kernel_rfl, fun G => ?_⟩
 refine Jw2 [(1, stP), (2, p10), (5, vi (st.Queue.getD (0 : Int).toNat 0)), (6, (G.g 10 0))] [0, 1, 2, 3, 4, 5, 6, 7, 8, 9] [SP.fact ((rv20.length ≤ st.Cone.length)), os (G.g 10 0) rv20] ?_
 generalize G.g 10 0 = c19
 refine Jf 10 rfl ?_; rintro he22
 refine Jk [1, 1, 1, 2, 3, 4, 5, 5, 5, 6] ?_
 refine Jo 9 ?_; rintro a23 k24 rfl
 refine Fb 8 9 fun _ => Fo 9 fun ho26 => KS ?_
 refine Oq Vm (Oq (Vlen sl22) (Oq Vm (KS ?_)))
 refine Kl (γ := Nat × List GSet × List Int × Int × Option Addr × Nat) (fun (r27, st5_28, st6_29, v38_30, a31, k32) => ⟨[(1, stP), (2, p10), (5, vi (st.Queue.getD (0 : Int).toNat 0)), (6, vl a23 k24 rv20), (36, vl a23 k24 rv20), (37, vi (rv20.length : Int)), (38, vi v38_30)], [O a31 k32 st6_29, Cl stP [vi st.Phase, vl sta1 stk1 st.Cone, vl sta2 stk2 st.Leaf, vi st.At, vi st.Edge, vl sta5 stk5 st.Values, vl a31 k32 st6_29, vi st.Steps], pv p10 [vi s.Width, vl sa1 sk1 s.Deps, vl sa2 sk2 s.Transfers, vl sa3 sk3 s.Boundary], S sa1 sk1 s.Deps, S sa2 sk2 s.Transfers, S sa3 sk3 s.Boundary, O sta1 stk1 st.Cone, O sta2 stk2 st.Leaf, os (vl sta5 stk5 st.Values) st5_28, O a23 k24 rv20], so_push_L0 s st rv20 r27 st5_28 st6_29 v38_30 = so_push_L0 s st rv20 (((rv20.length : Int) - 0).toNat) st.Values ((st.Queue.take st.Queue.length).drop ((1 : Int).toNat)) 0 ∧ r27 = ((rv20.length : Int) - v38_30).toNat ∧ (0 : Int) ≤ v38_30 ∧ v38_30 ≤ (rv20.length : Int) ∧ (-9223372036854775808 ≤ v38_30 ∧ v38_30 ≤ 9223372036854775807) ∧ (st5_28.length : Int) = (st.Cone.length : Int) ∧ (st6_29.length : Int) ≤ 256 + v38_30, r27⟩) (((rv20.length : Int) - 0).toNat, st.Values, ((st.Queue.take st.Queue.length).drop ((1 : Int).toNat)), 0, a13, k14) [1, 0, 0, 1, 2, 3, 4, 4, 4, 4] ⟨rfl, rfl, aM1, aM1, aM1, iv0, iv0⟩ ?_
 rintro ⟨r27, st5_28, st6_29, v38_30, a31, k32⟩ ⟨hM33, hr34, hi35, hi36, hk37, hv38, hv39⟩
 refine JJ_nx fun _ _ hL hA => ?_; dsimp only at hL hA; subst hL hA
 refine Fb 8 0 fun _ => Fo 0 fun ho41 => Fb 24 3 fun _ => Fb 88 4 fun _ => Fb 32 5 fun _ => Fb 8 6 fun _ => Fo 6 fun ho46 => Fb 1 7 fun _ => ?_
 refine Fb 32 8 fun _ => Fl 8 fun hn49 => ?_
 refine Fb 8 9 fun _ => Fo 9 fun ho51 => KS ?_
 refine Oq Vlss (KS ?_)
 refine Kc ?_ ?_
 ·intro h52
  have g53 := dt h52
  have hqd := PDep_mem (r := rv20) (by assumption) _ (getD_mem (xs := rv20) (i := v38_30.toNat) (d := 0) aM1)
  obtain ⟨r54, rfl⟩ := scc (n := r27) aM1
  refine KS ?_
  refine Oq (Vi sl22 9) ?_
  have hb55 := ok1 (i := v38_30.toNat) ho51 rng
  refine Oq (VldI sh3 9) (Oq Va (KS ?_))
  refine Jp 1 fun hp56 => ?_
  refine JJ_peek_GTransfer ((st.Cone.getD ((st.Queue.getD (0 : Int).toNat 0) : Int).toNat 0) : Int).toNat 5 rfl rng fun a57 k58 a59 k60 a61 k62 hb63 hb64 => ?_
  unfold i64ok at hb63 hb64
  refine Fb 8 1 fun _ => Fb 8 2 fun _ => Fb 16 3 fun _ => ?_
  refine JJ_peekO_GSet ((st.Queue.getD (0 : Int).toNat 0) : Int).toNat 13 rfl rng fun a68 k69 hb70 => ?_
  unfold i64ok at hb70
  refine Fb 8 1 fun _ => ?_
  refine JK_drawK [0, 1, 0, 4, 12, 28, 0, 124, 252, 511, 1023, 0, 2048, 6144, 14336, 0, 63488, 129024, 262143, 524287, 1048575, 1048575, 0, 6291455, 16777215] fmix ?_
  refine Dv [9] (Vfa fo32_2 0) (Dv [9] (VldF sh30 0) (Dv [] Vm (Dv [6] (Vn 0) (Dv [6] (Vfa fo26_1 0) (Dv [8] (VldF sh22 0) (Dv [] Vm (Dv [13] (Vi sl22 0) ?_)))))))
  have hb72 := ok1 (i := ((st.Queue.getD (0 : Int).toNat 0) : Int).toNat) ho46 rng
  refine Dv [13] (VldI sh3 0) (Dv [11] (Vi sl30 0) (Dv [2] (VldA sh85 0) (Dv [] Vm (Dv [6] (Vn 0) (Dv [6] (Vfa fo26_5 0) (Dv [8] (VldF sh24 0) (Dv [] Vm (Dv [0] (Vi sl24 0) (Dv [0] (VldA sh39 0) ?_)))))))))
  refine letv (tf_Apply (s.Transfers.getD ((st.Cone.getD ((st.Queue.getD (0 : Int).toNat 0) : Int).toNat 0) : Int).toNat default) (st5_28.getD ((st.Queue.getD (0 : Int).toNat 0) : Int).toNat default)) fun rv74 hg75 => ?_
  refine Dx [1, 3, 4, 5] [] [2, 3, 4, 5, 0, 1] (fun G => .tuple #[.agg #[vi rv74.1.Width, (G.g 18 0)], vi rv74.2]) [fun G => SP.fact (i64ok rv74.1.Width ∧ i64ok rv74.2), fun G => sl (G.g 18 0) rv74.1.Words] (fun G => xC [1, 2, 3, 0] ca126 (fn126 ((s.Transfers.getD ((st.Cone.getD ((st.Queue.getD (0 : Int).toNat 0) : Int).toNat 0) : Int).toNat default)) a57 k58 a59 k60 a61 k62 ((st5_28.getD ((st.Queue.getD (0 : Int).toNat 0) : Int).toNat default)) a68 k69 pre pre pre rv74 hg75)) (Dg [] (fun G => .tuple #[.agg #[vi rv74.1.Width, (G.g 18 0)], vi rv74.2]) (fun G => Vm) (Dg [] (fun G => .agg #[vi rv74.1.Width, (G.g 18 0)]) (fun G => Vx) (Dv [] Vx (Dx [] [] [0] (fun G => (G.g 22 0)) [fun G => Cl (G.g 22 0) [vi 0, .slice none 0 0]] (fun G => xA (Al ze39 [vi 0, .slice none 0 0])) (Dx0 [17, 18] [18] [1, 0] [fun G => Cl (G.g 22 0) [vi rv74.1.Width, (G.g 18 0)]] (fun G => x1 0 rfl sl_one fun ho77 => (xS (Scl [1] sh39 [vi rv74.1.Width, (G.g 18 0)] (v := .agg #[vi rv74.1.Width, (G.g 18 0)]) (h1 := show [vi rv74.1.Width, (G.g 18 0)].all (·.oneCell') = true from (by simp only [List.all_cons, List.all_nil, ho77, Bool.and_true, Bool.true_and] <;> rfl))))) (Dv [] Va ?_))))))
  refine Dn ⟨by kernel_rfl, fun G => ?_⟩
  refine Jw2 [(1, stP), (2, p10), (5, vi (st.Queue.getD (0 : Int).toNat 0)), (6, vl a23 k24 rv20), (36, vl a23 k24 rv20), (37, vi (rv20.length : Int)), (38, vi v38_30), (8, vi (rv20.getD v38_30.toNat 0)), (9, (G.g 22 0))] [0, 1, 2, 3, 4, 5, 6, 7, 8, 9, 10, 11, 12, 13, 14, 15] [SP.fact (i64ok rv74.1.Width ∧ i64ok rv74.2), sl (G.g 18 0) rv74.1.Words, Cl (G.g 22 0) [vi rv74.1.Width, (G.g 18 0)]] ?_
  generalize G.g 18 0 = c73, G.g 22 0 = p76
  refine Jf 16 rfl ?_; rintro ⟨he78, he79⟩
  unfold i64ok at he78 he79
  refine Jk [0, 0, 1, 2, 3, 4, 6, 6, 6, 7, 8, 9, 10, 10, 10, 11, 12] ?_
  refine Jo 15 ?_; rintro a80 k81 rfl
  refine Fb 8 15 fun _ => KS ?_
  refine Jp 7 fun hp83 => ?_
  refine JJ_peekO2_GSet ((rv20.getD v38_30.toNat 0) : Int).toNat 1 rfl rng fun a84 k85 hb86 => ?_
  unfold i64ok at hb86
  refine Fb 8 1 fun _ => ?_
  refine JK_drawK [0, 1, 3, 7, 0, 31, 63, 0, 255, 511, 1023, 1023, 2047] fmix ?_
  refine Dv [] Vm (Dv [2] (Vn 0) (Dv [2] (Vfa fo26_5 0) (Dv [9] (VldF sh24 0) (Dv [] Vm (Dv [0] (Vi sl24 0) (Dv [0] (VldA sh39 0) (Dv [18] (VldA sh39 0) ?_)))))))
  refine letv (bt_Union (st5_28.getD ((rv20.getD v38_30.toNat 0) : Int).toNat default) rv74.1) fun rv89 hg90 => ?_
  refine Dx [1, 17] [] [2, 3, 0, 1] (fun G => .tuple #[.agg #[vi rv89.1.Width, (G.g 8 0)], vi rv89.2]) [fun G => SP.fact (i64ok rv89.1.Width ∧ i64ok rv89.2), fun G => sl (G.g 8 0) rv89.1.Words] (fun G => xC [0, 1] ca127 (fn127 ((st5_28.getD ((rv20.getD v38_30.toNat 0) : Int).toNat default)) a84 k85 rv74.1 a80 k81 pre pre rv89 hg90)) (Dg [] (fun G => .tuple #[.agg #[vi rv89.1.Width, (G.g 8 0)], vi rv89.2]) (fun G => Vm) (Dg [] (fun G => .agg #[vi rv89.1.Width, (G.g 8 0)]) (fun G => Vx) (Dv [] Vx (Dx0 [18, 20] [18] [1, 0] [fun G => Cl p76 [vi rv89.1.Width, (G.g 8 0)]] (fun G => x1 1 rfl sl_one fun ho91 => (xS (Scl [0] sh39 [vi rv89.1.Width, (G.g 8 0)] (v := .agg #[vi rv89.1.Width, (G.g 8 0)]) (h1 := show [vi rv89.1.Width, (G.g 8 0)].all (·.oneCell') = true from (by simp only [List.all_cons, List.all_nil, ho91, Bool.and_true, Bool.true_and] <;> rfl))))) ?_))))
  refine Dn ⟨by kernel_rfl, fun G => ?_⟩
  refine Jw2 [(1, stP), (2, p10), (5, vi (st.Queue.getD (0 : Int).toNat 0)), (6, vl a23 k24 rv20), (36, vl a23 k24 rv20), (37, vi (rv20.length : Int)), (38, vi v38_30), (8, vi (rv20.getD v38_30.toNat 0)), (9, p76)] [0, 1, 2, 3, 4, 5, 6, 7, 8, 9, 10, 11, 12, 13, 14, 15, 16, 17] [SP.fact (i64ok rv89.1.Width ∧ i64ok rv89.2), sl (G.g 8 0) rv89.1.Words, Cl p76 [vi rv89.1.Width, (G.g 8 0)]] ?_
  generalize G.g 8 0 = c88
  refine Jf 18 rfl ?_; rintro ⟨he92, he93⟩
  unfold i64ok at he92 he93
  refine Jk [0, 0, 2, 3, 4, 5, 6, 7, 7, 7, 8, 9, 10, 11, 11, 11, 11, 13, 14] ?_
  refine Jo 17 ?_; rintro a94 k95 rfl
  refine Fb 8 17 fun _ => KS ?_
  refine Jp 8 fun hp97 => ?_
  refine JK_drawK [0, 0, 2, 6, 14, 0, 62, 126, 255] fmix ?_
  refine Dv [19] (VldA sh39 0) (Dv [] Vm (Dv [0] (Vn 0) (Dv [0] (Vfa fo26_5 0) (Dv [9] (VldF sh24 0) (Dv [] Vm (Dv [1] (Vi sl24 0) (Dv [1] (VldA sh39 0) ?_)))))))
  refine letv (bt_Equal rv89.1 (st5_28.getD ((rv20.getD v38_30.toNat 0) : Int).toNat default)) fun rv98 hg99 => Dx [2, 18] [] [1, 2, 0] (fun G => vb rv98) [fun G => SP.fact (True)] (fun G => xC [1, 0] ca128 (fn128 rv89.1 a94 k95 ((st5_28.getD ((rv20.getD v38_30.toNat 0) : Int).toNat default)) a84 k85 pre pre rv98 hg99)) ?_
  refine Dn ⟨by kernel_rfl, fun G => ?_⟩
  refine Jw2 [(1, stP), (2, p10), (5, vi (st.Queue.getD (0 : Int).toNat 0)), (6, vl a23 k24 rv20), (36, vl a23 k24 rv20), (37, vi (rv20.length : Int)), (38, vi v38_30), (8, vi (rv20.getD v38_30.toNat 0)), (9, p76), (84, vb rv98)] [0, 1, 2, 3, 4, 5, 6, 7, 8, 9, 10, 11, 12, 13, 14, 15, 16, 17, 18, 19] [SP.fact (True)] ?_
  refine Jk [1, 1, 2, 3, 4, 5, 6, 7, 7, 7, 8, 9, 10, 11, 11, 11, 11, 12, 13] ?_
  refine Kc ?_ ?_
  ·intro h100
   refine Jl [0] (Ent.oread2 _ _ _ _ _ _) ?_
   refine Ke ?_
   refine KS ?_
   refine Oq Vadd (Oq Vm (KS ?_))
   exact Kg (r54, st5_28, st6_29, (v38_30 + 1), a31, k32) [7, 7, 7, 8, 9, 10, 11, 11, 0, 10] ⟨(q3 hM33 (by simp only [so_push_L0, h52, h100, hg75, hg90, hg99, cs4])), aM1, aM1, aM1, aM1, iv1, iv1⟩
  intro h100
  refine KS ?_
  refine Jp 8 fun hp103 => ?_
  refine JK_drawK [0, 1, 3, 7, 0, 0, 63, 127] fmix ?_
  refine Dv [] Vm (Dv [0] (Vn 0) (Dv [0] (Vfa fo26_5 0) (Dv [9] (VldF sh24 0) (Dv [] Vm (Dv [19] (VldA sh39 0) (Dv [1] (Vi sl24 0) ?_))))))
  refine Dx0 [1, 18] [1] [1, 0] [fun G => os (vl sta5 stk5 st.Values) (st5_28.set ((rv20.getD v38_30.toNat 0) : Int).toNat rv89.1)] (fun G => xp [0] rfl (Ent.oread2 _ _ _ _ _ _) (xS (So (Rs := [S a94 k95 rv89.1.Words]) [0, 0] sh39 rv89.1 (fun h => ⟨_, rfl, aL1, sepAll_get (i := 0) rfl h⟩)))) ?_
  refine Dn ⟨by kernel_rfl, fun G => ?_⟩
  refine Jw2 [(1, stP), (2, p10), (5, vi (st.Queue.getD (0 : Int).toNat 0)), (6, vl a23 k24 rv20), (36, vl a23 k24 rv20), (37, vi (rv20.length : Int)), (38, vi v38_30), (8, vi (rv20.getD v38_30.toNat 0))] [0, 2, 3, 4, 5, 6, 7, 8, 9, 10, 11, 12, 13, 14, 15, 16, 17, 18, 19] [os (vl sta5 stk5 st.Values) (st5_28.set ((rv20.getD v38_30.toNat 0) : Int).toNat rv89.1)] ?_
  refine Jk [1, 2, 3, 4, 5, 6, 7, 7, 7, 8, 9, 10, 11, 11, 11, 11, 12, 13, 13] ?_
  refine KS ?_
  refine Oq Vm (Oq (Vn 7) (Oq (Vfa fo26_6 7) (Oq (VldF sh22 7) (Oq Vm ?_))))
  refine letv (sc_Contains_int st6_29 (rv20.getD v38_30.toNat 0)) fun rv104 hg105 => ?_
  refine Oc [6] ca120 (FT_borrow (A := _) (fun _ _ h => by cases h) (FT_ent (Ent.take (is := [0]) rfl) (fn120 st6_29 a31 k32 ((rv20.getD v38_30.toNat 0)) pre rv104 hg105))) ?_ (ht := rfl)
  rintro - -
  refine Oq Vnot (KS ?_)
  refine Kc ?_ ?_
  ·intro h106
   have h108 := not_true h106
   refine KS ?_
   refine Oq Vm (Oq Vm (Oq (Vn 7) (Oq (Vfa fo26_6 7) (Oq (VldF sh22 7) (Oq Vm (Oa (AsV sl22 sz22 [vi (rv20.getD v38_30.toNat 0)] [vi (rv20.getD v38_30.toNat 0)]) fun c110 => ?_))))))
   refine Jo 0 ?_; rintro a111 k112 rfl
   refine Jl [0] (Ent.crInt _ [(rv20.getD v38_30.toNat 0)] _ _ rfl rfl (by intro x hx; rw [List.mem_singleton] at hx; subst hx; unfold i64ok; omega) aB1) ?_
   refine Oa (ApO [1, 0] sl22 sl22 sz22) fun c113 => ?_
   refine Jo 0 ?_; rintro a114 k115 rfl
   refine Fb 8 0 fun _ => Fo 0 fun ho117 => ?_
   have hn118 := la st6_29 ([(rv20.getD v38_30.toNat 0)] : List Int)
   refine Oq (Vn 7) (Oq (Vfa fo26_6 7) (Ost (SclF [7] sh22 [vi st.Phase, vl sta1 stk1 st.Cone, vl sta2 stk2 st.Leaf, vi st.At, vi st.Edge, vl sta5 stk5 st.Values, vl a114 k115 (st6_29 ++ [(rv20.getD v38_30.toNat 0)]), vi st.Steps]) (KS ?_)))
   refine Oq Vadd (Oq Vm (KS ?_))
   exact Kg (r54, (st5_28.set ((rv20.getD v38_30.toNat 0) : Int).toNat rv89.1), (st6_29 ++ [(rv20.getD v38_30.toNat 0)]), (v38_30 + 1), a114, k115) [1, 0, 6, 7, 8, 9, 10, 10, 14, 10] ⟨(q3 hM33 (by simp only [so_push_L0, h52, h100, h106, h108, hg75, hg90, hg99, hg105, cs4])), aM1, aM1, aM1, aM1, iv1, iv1⟩
  intro h106
  have h120 := not_false h106
  refine KS ?_
  refine Oq Vadd (Oq Vm (KS ?_))
  exact Kg (r54, (st5_28.set ((rv20.getD v38_30.toNat 0) : Int).toNat rv89.1), st6_29, (v38_30 + 1), a31, k32) [0, 6, 6, 7, 8, 9, 10, 10, 14, 10] ⟨(q3 hM33 (by simp only [so_push_L0, h52, h100, h106, h120, hg75, hg90, hg99, hg105, cs4])), aM1, aM1, aM1, aM1, iv1, iv1⟩
 intro h52
 have g122 := df h52
 obtain rfl : r27 = 0 := by omega
 refine Ke ?_
 have hR123 := q2 hM33 (st5_28, st6_29) (by simp only [so_push_L0, h52, cs4])
 refine KS ?_
 refine Oq Vm (Oq (Vn 1) (Oq (Vfa fo26_6 1) (Oq (VldF sh22 1) (Oq (Vlen sl22) (Oq Veql (KS ?_))))))
 refine Kc ?_ ?_
 ·intro h124
  have g125 := eq_of_beq h124
  refine KS ?_
  refine Oq Vm (Oq (Vn 1) (Oq (Vfa fo26_0 1) (Ost (SclF [1] sh3 [vi 3, vl sta1 stk1 st.Cone, vl sta2 stk2 st.Leaf, vi st.At, vi st.Edge, vl sta5 stk5 st.Values, vl a31 k32 st6_29, vi st.Steps]) (KS ?_))))
  refine Oq Vm (Oq (Vlen sl22) (Oq Vadd (Oq Vmin (Oq Va (KS ?_)))))
  have hq := q4 hrr ((min (1 + (rv20.length : Int)) 8), (GState.mk 3 st.Cone st.Leaf st.At st.Edge st5_28 st6_29 st.Steps)) (by simp only [so_push, h52, h124, hg21, hR123, cs4]); subst hq
  exact Kr (vl sta1 stk1 st.Cone, vl sta2 stk2 st.Leaf, vl sta5 stk5 st.Values, vl a31 k32 st6_29) rfl (.tmp rfl .nil) [0, 5, 5, 5, 0] en
 intro h124
 have g126 := ne_of_beq_false h124
 refine KS ?_
 refine Oq Vm (Oq (Vlen sl22) (Oq Vadd (Oq Vmin (Oq Va (KS ?_)))))
 have hq := q4 hrr ((min (1 + (rv20.length : Int)) 8), (GState.mk st.Phase st.Cone st.Leaf st.At st.Edge st5_28 st6_29 st.Steps)) (by simp only [so_push, h52, h124, hg21, hR123, cs4]); subst hq
 exact Kr (vl sta1 stk1 st.Cone, vl sta2 stk2 st.Leaf, vl sta5 stk5 st.Values, vl a31 k32 st6_29) rfl (.tmp rfl .nil) [1, 5, 5, 5, 0] en
theorem fn48 (s : GSystem) (sa1 : Option Addr) (sk1 : Nat) (sa2 : Option Addr) (sk2 : Nat) (sa3 : Option Addr) (sk3 : Nat) (k : List GKnown) (ka0 : Option Addr) (kk0 : Nat) (st : GState) (sta1 : Option Addr) (stk1 : Nat) (sta2 : Option Addr) (stk2 : Nat) (sta5 : Option Addr) (stk5 : Nat) (sta6 : Option Addr) (stk6 : Nat) (steps : Int) (hs_0 : i64ok s.Width) (hst_0 : i64ok st.Phase) (hst_3 : i64ok st.At) (hst_4 : i64ok st.Edge) (hst_7 : i64ok st.Steps) (hsteps_0 : i64ok steps) (hs0 : steps ≤ 1000000000) (rr : GState × Int × Int) (hrr : so_Run s k st steps = rr) : FT Tryz.prog 48 #[.agg #[vi s.Width, vl sa1 sk1 s.Deps, vl sa2 sk2 s.Transfers, vl sa3 sk3 s.Boundary], vl ka0 kk0 k, .agg #[vi st.Phase, vl sta1 stk1 st.Cone, vl sta2 stk2 st.Leaf, vi st.At, vi st.Edge, vl sta5 stk5 st.Values, vl sta6 stk6 st.Queue, vi st.Steps], vi steps] [S sa1 sk1 s.Deps, S sa2 sk2 s.Transfers, S sa3 sk3 s.Boundary, S ka0 kk0 k, S sta1 stk1 st.Cone, S sta2 stk2 st.Leaf, S sta5 stk5 st.Values, S sta6 stk6 st.Queue] (fun g : Value × Value × Value × Value => i64ok rr.1.Phase ∧ i64ok rr.1.At ∧ i64ok rr.1.Edge ∧ i64ok rr.1.Steps ∧ i64ok rr.2.1 ∧ i64ok rr.2.2 ∧ (0 ≤ rr.2.1 ∧ rr.2.1 ≤ 8000000000) ∧ (rr.1.Cone.length ≤ 256)) (fun g => .tuple #[.agg #[vi rr.1.Phase, g.1, g.2.1, vi rr.1.At, vi rr.1.Edge, g.2.2.1, g.2.2.2, vi rr.1.Steps], vi rr.2.1, vi rr.2.2]) (fun g => [sl g.1 rr.1.Cone, sl g.2.1 rr.1.Leaf, sl g.2.2.1 rr.1.Values, sl g.2.2.2 rr.1.Queue]) := by
 refine FTi Tryz.func48 fun w0 M0 F0 => ?_
 unfold i64ok at hs_0 hst_0 hst_3 hst_4 hst_7 hsteps_0
 refine Fb 24 0 fun _ => Fb 88 1 fun _ => Fb 32 2 fun _ => Fb 40 3 fun _ => Fb 8 4 fun _ => Fo 4 fun ho6 => Fb 1 5 fun _ => Fb 32 6 fun _ => ?_
 refine Fb 8 7 fun _ => Fo 7 fun ho10 => KS ?_
 refine Oa (Ab [vi s.Width, vl sa1 sk1 s.Deps, vl sa2 sk2 s.Transfers, vl sa3 sk3 s.Boundary]) fun p11 => Oa (Ab [vi st.Phase, vl sta1 stk1 st.Cone, vl sta2 stk2 st.Leaf, vi st.At, vi st.Edge, vl sta5 stk5 st.Values, vl sta6 stk6 st.Queue, vi st.Steps]) fun p12 => Oa (Al ze26 [vi 0, .slice none 0 0, .slice none 0 0, vi 0, vi 0, .slice none 0 0, .slice none 0 0, vi 0]) fun p13 => Oq Va (Oq Va (KS ?_))
 refine Ksc ?_
 refine KS ?_
 refine Oq (VldA sh32 2) (Oq Vm (Oq (VldA sh26 1) ?_))
 refine letv (so_Valid s k st) fun rv14 hg15 => ?_
 have hc16 := fn47 s sa1 sk1 sa2 sk2 sa3 sk3 k ka0 kk0 st sta1 stk1 sta2 stk2 sta5 stk5 sta6 stk6 pre pre pre pre pre rv14 hg15
 refine Oc [3, 4, 5, 6, 7, 8, 9, 10] ca47 hc16 ?_
 rintro - -
 refine Oq Vnot (Oq Vm ?_)
 refine Js 18 ?_ ?_
 ·intro h17
  have h19 := not_true h17
  refine Osk (Osk (Oq Vpt (KS ?_)))
  refine Kt (KS ?_)
  refine Oq (Vbd st26 [vi 0, .slice none 0 0, .slice none 0 0, vi 0, vi 0, .slice none 0 0, .slice none 0 0, vi 0]) (Ost (Scl [0] sh26 [vi 0, .slice none 0 0, .slice none 0 0, vi 0, vi 0, .slice none 0 0, .slice none 0 0, vi 0]) (Oq Va (Oq Va (KS ?_))))
  refine Jl [] (Ent.slNil (α := Int)) ?_
  refine Jl [] (Ent.slNil (α := Bool)) ?_
  refine Jl [] (Ent.slNil (α := GSet)) ?_
  have hq := q4 hrr ((GState.mk 0 [] [] 0 0 [] [] 0), 0, 1) (by simp only [so_Run, h17, h19, hg15, cs4]); subst hq
  exact Kr (.slice none 0 0, .slice none 0 0, .slice none 0 0, .slice none 0 0) rfl (.cellN 3 rfl sh26 rfl (reads_Cl _ _) rfl (.tmp rfl (.tmp rfl .nil))) [2, 1, 0, 2] ⟨en, en, en, en, en, en, en, (by first | exact Nat.zero_le _ | exact PV_cone (by assumption))⟩
 intro h17
 have h22 := not_false h17
 refine Oq Vm (Oq Vlss (Oq Vpf (KS ?_)))
 refine Kc ?_ ?_
 ·intro h24
  have g25 := dt h24
  refine KS ?_
  refine Oq (Vbd st26 [vi 0, .slice none 0 0, .slice none 0 0, vi 0, vi 0, .slice none 0 0, .slice none 0 0, vi 0]) (Ost (Scl [0] sh26 [vi 0, .slice none 0 0, .slice none 0 0, vi 0, vi 0, .slice none 0 0, .slice none 0 0, vi 0]) (Oq Va (Oq Va (KS ?_))))
  refine Jl [] (Ent.slNil (α := Int)) ?_
  refine Jl [] (Ent.slNil (α := Bool)) ?_
  refine Jl [] (Ent.slNil (α := GSet)) ?_
  have hq := q4 hrr ((GState.mk 0 [] [] 0 0 [] [] 0), 0, 1) (by simp only [so_Run, h17, h22, h24, hg15, cs4]); subst hq
  exact Kr (.slice none 0 0, .slice none 0 0, .slice none 0 0, .slice none 0 0) rfl (.cellN 3 rfl sh26 rfl (reads_Cl _ _) rfl (.tmp rfl (.tmp rfl .nil))) [2, 1, 0, 2] ⟨en, en, en, en, en, en, en, (by first | exact Nat.zero_le _ | exact PV_cone (by assumption))⟩
 intro h24
 have g26 := df h24
 refine KS ?_
 refine Oq (VldA sh26 1) ?_
 refine letv (so_copied st) fun rv31 hg32 => ?_
 have hc33 := fn82 st sta1 stk1 sta2 stk2 sta5 stk5 sta6 stk6 pre pre pre pre rv31 hg32
 refine Oc [7, 8, 9, 10] ca82 hc33 ?_
 rintro ⟨c27, c28, c29, c30⟩ ⟨he34, he35, he36, he37⟩
 unfold i64ok at he34 he35 he36 he37
 refine Jo 0 ?_; rintro a38 k39 rfl
 refine Fb 8 0 fun _ => Fo 0 fun ho41 => ?_
 refine Jo 1 ?_; rintro a42 k43 rfl
 refine Fb 1 1 fun _ => ?_
 refine Jo 2 ?_; rintro a45 k46 rfl
 refine Fb 32 2 fun _ => ?_
 refine Jo 3 ?_; rintro a48 k49 rfl
 refine Fb 8 3 fun _ => Fo 3 fun ho51 => ?_
 have hcs : rv31 = st := (by assumption : so_copied st = rv31).symm.trans (copied_eq st)
 have hvi : so_Valid s k rv31 = true := by rw [hcs]; simp only [h17, h22, h24, hg15, hg32]
 refine Oa (Al ze26 [vi 0, .slice none 0 0, .slice none 0 0, vi 0, vi 0, .slice none 0 0, .slice none 0 0, vi 0]) fun p52 => Ost (Scl [0] sh26 [vi rv31.Phase, vl a38 k39 rv31.Cone, vl a42 k43 rv31.Leaf, vi rv31.At, vi rv31.Edge, vl a45 k46 rv31.Values, vl a48 k49 rv31.Queue, vi rv31.Steps]) (KS ?_)
 refine Oq Va (KS ?_)
 refine Klb ?_
 refine KS ?_
 refine Oq Vm (Oq Vm (KS ?_))
 refine Kl (γ := Nat × Int × List Int × List Bool × Int × Int × List GSet × List Int × Int × Int × Int × Option Addr × Nat × Option Addr × Nat × Option Addr × Nat × Option Addr × Nat) (fun (r53, out0_54, out1_55, out2_56, out3_57, out4_58, out5_59, out6_60, out7_61, cost_62, v26_63, a64, k65, a66, k67, a68, k69, a70, k71) => ⟨[(1, vl ka0 kk0 k), (4, p11), (8, p13), (11, p52), (12, vi cost_62), (25, vi steps), (26, vi v26_63)], [O a70 k71 out6_60, O a68 k69 out5_59, O a66 k67 out2_56, O a64 k65 out1_55, Cl p52 [vi out0_54, vl a64 k65 out1_55, vl a66 k67 out2_56, vi out3_57, vi out4_58, vl a68 k69 out5_59, vl a70 k71 out6_60, vi out7_61], Cl p13 [vi 0, .slice none 0 0, .slice none 0 0, vi 0, vi 0, .slice none 0 0, .slice none 0 0, vi 0], pv p11 [vi s.Width, vl sa1 sk1 s.Deps, vl sa2 sk2 s.Transfers, vl sa3 sk3 s.Boundary], S sa1 sk1 s.Deps, S sa2 sk2 s.Transfers, S sa3 sk3 s.Boundary, S ka0 kk0 k], so_Run_L0 s k r53 out0_54 out1_55 out2_56 out3_57 out4_58 out5_59 out6_60 out7_61 cost_62 v26_63 = so_Run_L0 s k (((steps : Int) - 0).toNat) rv31.Phase rv31.Cone rv31.Leaf rv31.At rv31.Edge rv31.Values rv31.Queue rv31.Steps 0 0 ∧ r53 = ((steps : Int) - v26_63).toNat ∧ (0 : Int) ≤ v26_63 ∧ (v26_63 ≤ steps ∨ v26_63 = 0) ∧ (-9223372036854775808 ≤ out0_54 ∧ out0_54 ≤ 9223372036854775807) ∧ (-9223372036854775808 ≤ out3_57 ∧ out3_57 ≤ 9223372036854775807) ∧ (-9223372036854775808 ≤ out4_58 ∧ out4_58 ≤ 9223372036854775807) ∧ (-9223372036854775808 ≤ out7_61 ∧ out7_61 ≤ 9223372036854775807) ∧ (-9223372036854775808 ≤ cost_62 ∧ cost_62 ≤ 9223372036854775807) ∧ (-9223372036854775808 ≤ v26_63 ∧ v26_63 ≤ 9223372036854775807) ∧ so_Valid s k (GState.mk out0_54 out1_55 out2_56 out3_57 out4_58 out5_59 out6_60 out7_61) = true ∧ 0 ≤ cost_62 ∧ cost_62 ≤ 8 * v26_63, r53⟩) (((steps : Int) - 0).toNat, rv31.Phase, rv31.Cone, rv31.Leaf, rv31.At, rv31.Edge, rv31.Values, rv31.Queue, rv31.Steps, 0, 0, a38, k39, a42, k43, a45, k46, a48, k49) [4, 3, 2, 1, 0, 0, 1, 2, 3, 4, 5] ⟨rfl, rfl, aM1, (.inr rfl), aM1, aM1, aM1, aM1, aM1, aM1, hvi, iv0⟩ ?_
 rintro ⟨r53, out0_54, out1_55, out2_56, out3_57, out4_58, out5_59, out6_60, out7_61, cost_62, v26_63, a64, k65, a66, k67, a68, k69, a70, k71⟩ ⟨hM72, hr73, hi74, hi75, hk76, hk77, hk78, hk79, hk80, hk81, hv82, hv83⟩
 refine JJ_nx fun _ _ hL hA => ?_; dsimp only at hL hA; subst hL hA
 refine Fb 8 0 fun _ => Fo 0 fun ho85 => Fb 32 1 fun _ => Fb 1 2 fun _ => Fb 8 3 fun _ => Fo 3 fun ho89 => Fb 24 7 fun _ => Fb 88 8 fun _ => ?_
 refine Fb 32 9 fun _ => Fb 40 10 fun _ => KS ?_
 refine Oq Vlss (KS ?_)
 refine Kc ?_ ?_
 ·intro h94
  have g95 := dt h94
  obtain ⟨r96, rfl⟩ := scc (n := r53) aM1
  refine KS ?_
  refine Oq (Vfa fo26_0 4) (Oq (VldF sh3 4) (KS ?_))
  refine Oq Veql (Oq Va (KS ?_))
  refine Kc ?_ ?_
  ·intro h97
   have g98 := eq_of_beq h97
   refine KS ?_
   refine Oq (VldA sh32 6) (Oq Vm ?_)
   refine letv (so_expand s k (GState.mk out0_54 out1_55 out2_56 out3_57 out4_58 out5_59 out6_60 out7_61)) fun rv103 hg104 => ?_
   have hc105 := fn83 s sa1 sk1 sa2 sk2 sa3 sk3 k ka0 kk0 p52 (GState.mk out0_54 out1_55 out2_56 out3_57 out4_58 out5_59 out6_60 out7_61) a64 k65 a66 k67 a68 k69 a70 k71 pre pre pre pre pre (PV_facts (by assumption)).1 ((PV_facts (by assumption)).2.1 aQ1) rv103 hg104
   refine Oc [7, 8, 9, 10, 4, 3, 2, 1, 0] ca83 hc105 ?_
   rintro ⟨c99, c100, c101, c102⟩ ⟨he106, he107, he108, he109⟩
   unfold i64ok at he106 he107 he108 he109
   refine Jo 1 ?_; rintro a110 k111 rfl
   refine Fb 8 1 fun _ => Fo 1 fun ho113 => ?_
   refine Jo 2 ?_; rintro a114 k115 rfl
   refine Fb 1 2 fun _ => ?_
   refine Jo 3 ?_; rintro a117 k118 rfl
   refine Fb 32 3 fun _ => ?_
   refine Jo 4 ?_; rintro a120 k121 rfl
   refine Fb 8 4 fun _ => Fo 4 fun ho123 => ?_
   have hst := expand_steps (by assumption : so_expand s k (GState.mk out0_54 out1_55 out2_56 out3_57 out4_58 out5_59 out6_60 out7_61) = rv103)
   have hsb := PV_steps (s := s) (k := k) (st := (GState.mk out0_54 out1_55 out2_56 out3_57 out4_58 out5_59 out6_60 out7_61)) (by assumption)
   dsimp only at hst hsb
   refine KS ?_
   refine Oq Vm (Oq Vadd (Oq Va (KS ?_)))
   refine Oq (Vfa fo26_7 0) (Oq (VldF sh3 0) (Oq Vadd (Oq Vmin (Oq (Vfa fo26_7 0) (Ost (SclF [0] sh3 [vi rv103.Phase, vl a110 k111 rv103.Cone, vl a114 k115 rv103.Leaf, vi rv103.At, vi rv103.Edge, vl a117 k118 rv103.Values, vl a120 k121 rv103.Queue, vi (min (rv103.Steps + 1) 1073741824)]) (KS ?_))))))
   refine Oq Vadd (Oq Vm (KS ?_))
   exact Kg (r96, rv103.Phase, rv103.Cone, rv103.Leaf, rv103.At, rv103.Edge, rv103.Values, rv103.Queue, (min (rv103.Steps + 1) 1073741824), (cost_62 + 1), (v26_63 + 1), a110, k111, a114, k115, a117, k118, a120, k121) [4, 3, 2, 1, 0, 0, 0, 1, 2, 3, 4] ⟨(q3 hM72 (by simp only [so_Run_L0, h94, h97, hg104, cs4])), aM1, aM1, aM1, aM1, aM1, aM1, aM1, aM1, aM1, (by first | exact expand_V (by assumption) aQ1 _ (by assumption) | exact push_V (by assumption) aQ1 _ (by assumption)), iv1⟩
  intro h97
  have g124 := ne_of_beq_false h97
  refine KS ?_
  refine Oq Veql (Oq Va (KS ?_))
  refine Kc ?_ ?_
  ·intro h125
   have g126 := eq_of_beq h125
   refine KS ?_
   refine Oq Vm (Oq (VldA sh32 6) ?_)
   refine letv (so_push s (GState.mk out0_54 out1_55 out2_56 out3_57 out4_58 out5_59 out6_60 out7_61)) fun rv131 hg132 => ?_
   have hc133 := fn84 s sa1 sk1 sa2 sk2 sa3 sk3 p52 (GState.mk out0_54 out1_55 out2_56 out3_57 out4_58 out5_59 out6_60 out7_61) a64 k65 a66 k67 a68 k69 a70 k71 pre pre pre pre pre (PV_facts (by assumption)).1 ((PV_facts (by assumption)).2.2.1 aQ1) rv131 hg132
   refine Oc [7, 8, 9, 4, 3, 2, 1, 0] ca84 hc133 ?_
   rintro ⟨c127, c128, c129, c130⟩ ⟨he134, he135, he136, he137, he138, he139⟩
   unfold i64ok at he134 he135 he136 he137 he138
   refine Jo 1 ?_; rintro a140 k141 rfl
   refine Fb 8 1 fun _ => Fo 1 fun ho143 => ?_
   refine Jo 2 ?_; rintro a144 k145 rfl
   refine Fb 1 2 fun _ => ?_
   refine Jo 3 ?_; rintro a147 k148 rfl
   refine Fb 32 3 fun _ => ?_
   refine Jo 4 ?_; rintro a150 k151 rfl
   refine Fb 8 4 fun _ => Fo 4 fun ho153 => ?_
   have hst := push_steps (by assumption : so_push s (GState.mk out0_54 out1_55 out2_56 out3_57 out4_58 out5_59 out6_60 out7_61) = rv131)
   have hsb := PV_steps (s := s) (k := k) (st := (GState.mk out0_54 out1_55 out2_56 out3_57 out4_58 out5_59 out6_60 out7_61)) (by assumption)
   dsimp only at hst hsb
   refine Oq Vadd (Oq Va (KS ?_))
   refine Oq (Vfa fo26_7 0) (Oq (VldF sh3 0) (Oq Vadd (Oq Vmin (Oq (Vfa fo26_7 0) (Ost (SclF [0] sh3 [vi rv131.2.Phase, vl a140 k141 rv131.2.Cone, vl a144 k145 rv131.2.Leaf, vi rv131.2.At, vi rv131.2.Edge, vl a147 k148 rv131.2.Values, vl a150 k151 rv131.2.Queue, vi (min (rv131.2.Steps + 1) 1073741824)]) (KS ?_))))))
   refine Oq Vadd (Oq Vm (KS ?_))
   exact Kg (r96, rv131.2.Phase, rv131.2.Cone, rv131.2.Leaf, rv131.2.At, rv131.2.Edge, rv131.2.Values, rv131.2.Queue, (min (rv131.2.Steps + 1) 1073741824), (cost_62 + rv131.1), (v26_63 + 1), a140, k141, a144, k145, a147, k148, a150, k151) [4, 3, 2, 1, 0, 0, 0, 1, 2, 3, 4] ⟨(q3 hM72 (by simp only [so_Run_L0, h94, h97, h125, hg132, cs4])), aM1, aM1, aM1, aM1, aM1, aM1, aM1, aM1, aM1, (by first | exact expand_V (by assumption) aQ1 _ (by assumption) | exact push_V (by assumption) aQ1 _ (by assumption)), iv1⟩
  intro h125
  have g154 := ne_of_beq_false h125
  refine Ke ?_
  have hR155 := q2 hM72 (out0_54, out1_55, out2_56, out3_57, out4_58, out5_59, out6_60, out7_61, cost_62) (by simp only [so_Run_L0, h94, h97, h125, cs4])
  refine KS ?_
  refine Oq (VldA sh26 4) (Oq Vm (Ost (Scl [5] sh26 [vi out0_54, vl a64 k65 out1_55, vl a66 k67 out2_56, vi out3_57, vi out4_58, vl a68 k69 out5_59, vl a70 k71 out6_60, vi out7_61]) (Oq Va (Oq Va (KS ?_)))))
  refine Jl [4] (Ent.freeze _ _) ?_
  refine Jl [4] (Ent.freeze _ _) ?_
  refine Jl [4] (Ent.freeze _ _) ?_
  refine Jl [4] (Ent.freeze _ _) ?_
  have hq := q4 hrr ((GState.mk out0_54 out1_55 out2_56 out3_57 out4_58 out5_59 out6_60 out7_61), cost_62, 0) (by simp only [so_Run, h17, h22, h24, h94, h97, h125, hg15, hg32, hR155, cs4]); subst hq
  exact Kr (vl a64 k65 out1_55, vl a66 k67 out2_56, vl a68 k69 out5_59, vl a70 k71 out6_60) rfl (.cellN 4 rfl sh26 rfl (reads_Cl _ _) rfl (.tmp rfl (.tmp rfl .nil))) [3, 2, 1, 0] ⟨en, en, en, en, en, en, en, (by first | exact Nat.zero_le _ | exact PV_cone (by assumption))⟩
 intro h94
 have g156 := df h94
 obtain rfl : r53 = 0 := by omega
 refine Ke ?_
 have hR157 := q2 hM72 (out0_54, out1_55, out2_56, out3_57, out4_58, out5_59, out6_60, out7_61, cost_62) (by simp only [so_Run_L0, h94, cs4])
 refine KS ?_
 refine Oq (VldA sh26 4) (Oq Vm (Ost (Scl [5] sh26 [vi out0_54, vl a64 k65 out1_55, vl a66 k67 out2_56, vi out3_57, vi out4_58, vl a68 k69 out5_59, vl a70 k71 out6_60, vi out7_61]) (Oq Va (Oq Va (KS ?_)))))
 refine Jl [4] (Ent.freeze _ _) ?_
 refine Jl [4] (Ent.freeze _ _) ?_
 refine Jl [4] (Ent.freeze _ _) ?_
 refine Jl [4] (Ent.freeze _ _) ?_
 have hq := q4 hrr ((GState.mk out0_54 out1_55 out2_56 out3_57 out4_58 out5_59 out6_60 out7_61), cost_62, 0) (by simp only [so_Run, h17, h22, h24, h94, hg15, hg32, hR157, cs4]); subst hq
 exact Kr (vl a64 k65 out1_55, vl a66 k67 out2_56, vl a68 k69 out5_59, vl a70 k71 out6_60) rfl (.cellN 4 rfl sh26 rfl (reads_Cl _ _) rfl (.tmp rfl (.tmp rfl .nil))) [3, 2, 1, 0] ⟨en, en, en, en, en, en, en, (by first | exact Nat.zero_le _ | exact PV_cone (by assumption))⟩
theorem fn22 (s : GSystem) (sa1 : Option Addr) (sk1 : Nat) (sa2 : Option Addr) (sk2 : Nat) (sa3 : Option Addr) (sk3 : Nat) (k : List GKnown) (ka0 : Option Addr) (kk0 : Nat) (st : GState) (sta1 : Option Addr) (stk1 : Nat) (sta2 : Option Addr) (stk2 : Nat) (sta5 : Option Addr) (stk5 : Nat) (sta6 : Option Addr) (stk6 : Nat) (hs_0 : i64ok s.Width) (hst_0 : i64ok st.Phase) (hst_3 : i64ok st.At) (hst_4 : i64ok st.Edge) (hst_7 : i64ok st.Steps) (rr : GState × Int × Int) (hrr : so_Step s k st = rr) : FT Tryz.prog 22 #[.agg #[vi s.Width, vl sa1 sk1 s.Deps, vl sa2 sk2 s.Transfers, vl sa3 sk3 s.Boundary], vl ka0 kk0 k, .agg #[vi st.Phase, vl sta1 stk1 st.Cone, vl sta2 stk2 st.Leaf, vi st.At, vi st.Edge, vl sta5 stk5 st.Values, vl sta6 stk6 st.Queue, vi st.Steps]] [S sa1 sk1 s.Deps, S sa2 sk2 s.Transfers, S sa3 sk3 s.Boundary, S ka0 kk0 k, S sta1 stk1 st.Cone, S sta2 stk2 st.Leaf, S sta5 stk5 st.Values, S sta6 stk6 st.Queue] (fun g : Value × Value × Value × Value => i64ok rr.1.Phase ∧ i64ok rr.1.At ∧ i64ok rr.1.Edge ∧ i64ok rr.1.Steps ∧ i64ok rr.2.1 ∧ i64ok rr.2.2) (fun g => .tuple #[.agg #[vi rr.1.Phase, g.1, g.2.1, vi rr.1.At, vi rr.1.Edge, g.2.2.1, g.2.2.2, vi rr.1.Steps], vi rr.2.1, vi rr.2.2]) (fun g => [sl g.1 rr.1.Cone, sl g.2.1 rr.1.Leaf, sl g.2.2.1 rr.1.Values, sl g.2.2.2 rr.1.Queue]) := by
 refine FTi Tryz.func22 fun w0 M0 F0 => ?_
 unfold i64ok at hs_0 hst_0 hst_3 hst_4 hst_7
 refine Fb 24 0 fun _ => Fb 88 1 fun _ => Fb 32 2 fun _ => Fb 40 3 fun _ => Fb 8 4 fun _ => Fo 4 fun ho6 => Fb 1 5 fun _ => Fb 32 6 fun _ => ?_
 refine Fb 8 7 fun _ => Fo 7 fun ho10 => KS ?_
 refine Oa (Ab [vi s.Width, vl sa1 sk1 s.Deps, vl sa2 sk2 s.Transfers, vl sa3 sk3 s.Boundary]) fun p11 => Oa (Ab [vi st.Phase, vl sta1 stk1 st.Cone, vl sta2 stk2 st.Leaf, vi st.At, vi st.Edge, vl sta5 stk5 st.Values, vl sta6 stk6 st.Queue, vi st.Steps]) fun p12 => Oa (Al ze26 [vi 0, .slice none 0 0, .slice none 0 0, vi 0, vi 0, .slice none 0 0, .slice none 0 0, vi 0]) fun p13 => Oq Va (Oq Va (KS ?_))
 refine Oq (VldA sh32 2) (Oq Vm (Oq (VldA sh26 1) ?_))
 refine letv (so_Valid s k st) fun rv14 hg15 => ?_
 have hc16 := fn47 s sa1 sk1 sa2 sk2 sa3 sk3 k ka0 kk0 st sta1 stk1 sta2 stk2 sta5 stk5 sta6 stk6 pre pre pre pre pre rv14 hg15
 refine Oc [3, 4, 5, 6, 7, 8, 9, 10] ca47 hc16 ?_
 rintro - -
 refine Oq Vnot (Oq Va (KS ?_))
 refine Kc ?_ ?_
 ·intro h17
  have h19 := not_true h17
  refine KS ?_
  refine Oq (Vbd st26 [vi 0, .slice none 0 0, .slice none 0 0, vi 0, vi 0, .slice none 0 0, .slice none 0 0, vi 0]) (Ost (Scl [0] sh26 [vi 0, .slice none 0 0, .slice none 0 0, vi 0, vi 0, .slice none 0 0, .slice none 0 0, vi 0]) (Oq Va (Oq Va (KS ?_))))
  refine Jl [] (Ent.slNil (α := Int)) ?_
  refine Jl [] (Ent.slNil (α := Bool)) ?_
  refine Jl [] (Ent.slNil (α := GSet)) ?_
  have hq := q4 hrr ((GState.mk 0 [] [] 0 0 [] [] 0), 0, 1) (by simp only [so_Step, h17, h19, hg15, cs4]); subst hq
  exact Kr (.slice none 0 0, .slice none 0 0, .slice none 0 0, .slice none 0 0) rfl (.cellN 3 rfl sh26 rfl (reads_Cl _ _) rfl (.tmp rfl (.tmp rfl .nil))) [2, 1, 0, 2] en
 intro h17
 have h22 := not_false h17
 refine KS ?_
 refine Oq (Vfa fo26_0 1) (Oq (VldF sh3 1) (Oq Veql (Oq Va (KS ?_))))
 refine Kc ?_ ?_
 ·intro h24
  have g25 := eq_of_beq h24
  refine KS ?_
  refine Oq (Vbd st26 [vi 0, .slice none 0 0, .slice none 0 0, vi 0, vi 0, .slice none 0 0, .slice none 0 0, vi 0]) (Ost (Scl [0] sh26 [vi 0, .slice none 0 0, .slice none 0 0, vi 0, vi 0, .slice none 0 0, .slice none 0 0, vi 0]) (Oq Va (Oq Va (KS ?_))))
  refine Jl [] (Ent.slNil (α := Int)) ?_
  refine Jl [] (Ent.slNil (α := Bool)) ?_
  refine Jl [] (Ent.slNil (α := GSet)) ?_
  have hq := q4 hrr ((GState.mk 0 [] [] 0 0 [] [] 0), 0, 10) (by simp only [so_Step, h17, h22, h24, hg15, cs4]); subst hq
  exact Kr (.slice none 0 0, .slice none 0 0, .slice none 0 0, .slice none 0 0) rfl (.cellN 3 rfl sh26 rfl (reads_Cl _ _) rfl (.tmp rfl (.tmp rfl .nil))) [2, 1, 0, 2] en
 intro h24
 have g26 := ne_of_beq_false h24
 refine KS ?_
 refine Oq (VldA sh32 2) (Oq Vm (Oq (VldA sh26 1) ?_))
 refine letv (so_Run s k st 1) fun rv31 hg32 => ?_
 have hc33 := fn48 s sa1 sk1 sa2 sk2 sa3 sk3 k ka0 kk0 st sta1 stk1 sta2 stk2 sta5 stk5 sta6 stk6 1 pre pre pre pre pre pre pre rv31 hg32
 refine Oc [3, 4, 5, 6, 7, 8, 9, 10] ca48 hc33 ?_
 rintro ⟨c27, c28, c29, c30⟩ ⟨he34, he35, he36, he37, he38, he39, he40, he41⟩
 unfold i64ok at he34 he35 he36 he37 he38 he39
 refine Jo 0 ?_; rintro a42 k43 rfl
 refine Fb 8 0 fun _ => Fo 0 fun ho45 => ?_
 refine Jo 1 ?_; rintro a46 k47 rfl
 refine Fb 1 1 fun _ => ?_
 refine Jo 2 ?_; rintro a49 k50 rfl
 refine Fb 32 2 fun _ => ?_
 refine Jo 3 ?_; rintro a52 k53 rfl
 refine Fb 8 3 fun _ => Fo 3 fun ho55 => ?_
 refine Oq Vm (Oq Vx (Oq Vx (Oq Vx (Oa (Al ze26 [vi 0, .slice none 0 0, .slice none 0 0, vi 0, vi 0, .slice none 0 0, .slice none 0 0, vi 0]) fun p56 => Ost (Scl [0] sh26 [vi rv31.1.Phase, vl a42 k43 rv31.1.Cone, vl a46 k47 rv31.1.Leaf, vi rv31.1.At, vi rv31.1.Edge, vl a49 k50 rv31.1.Values, vl a52 k53 rv31.1.Queue, vi rv31.1.Steps]) (Oq Va (Oq Va (KS ?_)))))))
 refine Oq (VldA sh26 0) (Oq Vm (Ost (Scl [5] sh26 [vi rv31.1.Phase, vl a42 k43 rv31.1.Cone, vl a46 k47 rv31.1.Leaf, vi rv31.1.At, vi rv31.1.Edge, vl a49 k50 rv31.1.Values, vl a52 k53 rv31.1.Queue, vi rv31.1.Steps]) (Oq Va (Oq Va (KS ?_)))))
 have hq := q4 hrr (rv31.1, rv31.2.1, 0) (by simp only [so_Step, h17, h22, h24, hg15, hg32, cs4]); subst hq
 exact Kr (vl a42 k43 rv31.1.Cone, vl a46 k47 rv31.1.Leaf, vl a49 k50 rv31.1.Values, vl a52 k53 rv31.1.Queue) rfl (.cellN 0 rfl sh26 rfl (reads_Cl _ _) rfl (.tmp rfl (.tmp rfl .nil))) [2, 3, 4, 5] en
theorem fn23 (st : GState) (sta1 : Option Addr) (stk1 : Nat) (sta2 : Option Addr) (stk2 : Nat) (sta5 : Option Addr) (stk5 : Nat) (sta6 : Option Addr) (stk6 : Nat) (hst_0 : i64ok st.Phase) (hst_3 : i64ok st.At) (hst_4 : i64ok st.Edge) (hst_7 : i64ok st.Steps) (rr : GSet × Bool) (hrr : so_Answer st = rr) : FT Tryz.prog 23 #[.agg #[vi st.Phase, vl sta1 stk1 st.Cone, vl sta2 stk2 st.Leaf, vi st.At, vi st.Edge, vl sta5 stk5 st.Values, vl sta6 stk6 st.Queue, vi st.Steps]] [S sta1 stk1 st.Cone, S sta2 stk2 st.Leaf, S sta5 stk5 st.Values, S sta6 stk6 st.Queue] (fun g : Value => i64ok rr.1.Width) (fun g => .tuple #[.agg #[vi rr.1.Width, g], vb rr.2]) (fun g => [sl g rr.1.Words]) := by
 refine FTi Tryz.func23 fun w0 M0 F0 => ?_
 unfold i64ok at hst_0 hst_3 hst_4 hst_7
 refine Fb 8 0 fun _ => Fo 0 fun ho2 => Fb 1 1 fun _ => Fb 32 2 fun _ => Fb 8 3 fun _ => Fo 3 fun ho6 => KS ?_
 refine Oa (Ab [vi st.Phase, vl sta1 stk1 st.Cone, vl sta2 stk2 st.Leaf, vi st.At, vi st.Edge, vl sta5 stk5 st.Values, vl sta6 stk6 st.Queue, vi st.Steps]) fun p7 => Oa (Al ze39 [vi 0, .slice none 0 0]) fun p8 => Oq Va (KS ?_)
 refine Oq (Vfa fo26_0 1) (Oq (VldF sh3 1) (Oq Vneq (Oq Vm ?_)))
 refine Js 7 ?_ ?_
 ·intro h9
  have g10 := ne_of_bne h9
  refine Osk (Osk (Osk (Osk (Oq Vpt (KS ?_)))))
  refine Kt (KS ?_)
  refine Oq (Vbd st39 [vi 0, .slice none 0 0]) (Ost (Scl [0] sh39 [vi 0, .slice none 0 0]) (Oq Va (KS ?_)))
  refine Jl [] (Ent.slNil (α := BitVec 64)) ?_
  have hq := q4 hrr ((GSet.mk 0 []), false) (by simp only [so_Answer, h9, cs4]); subst hq
  exact Kr (.slice none 0 0) rfl (.cellN 1 rfl sh39 rfl (reads_Cl _ _) rfl (.tmp rfl .nil)) [0] en
 intro h9
 have g11 := eq_of_bne_false h9
 refine Oq (Vfa fo26_5 1) (Oq (VldF sh24 1) (Oq (Vlen sl24) (Oq Veql (Oq Vpf (KS ?_)))))
 refine Kc ?_ ?_
 ·intro h12
  have g13 := eq_of_beq h12
  refine KS ?_
  refine Oq (Vbd st39 [vi 0, .slice none 0 0]) (Ost (Scl [0] sh39 [vi 0, .slice none 0 0]) (Oq Va (KS ?_)))
  refine Jl [] (Ent.slNil (α := BitVec 64)) ?_
  have hq := q4 hrr ((GSet.mk 0 []), false) (by simp only [so_Answer, h9, h12, cs4]); subst hq
  exact Kr (.slice none 0 0) rfl (.cellN 1 rfl sh39 rfl (reads_Cl _ _) rfl (.tmp rfl .nil)) [0] en
 intro h12
 have g14 := ne_of_beq_false h12
 refine KS ?_
 refine Oq (Vfa fo26_5 1) (Oq (VldF sh24 1) (Oq (Vi sl24 4) ?_))
 refine JJ_peek_GSet (0 : Int).toNat 4 rfl rng fun a15 k16 hb17 => ?_
 unfold i64ok at hb17
 refine Fb 8 1 fun _ => Oq (VldA sh39 0) ?_
 refine letv (so_clone (st.Values.getD (0 : Int).toNat default)) fun rv20 hg21 => ?_
 have hc22 := fn49 ((st.Values.getD (0 : Int).toNat default)) a15 k16 pre rv20 hg21
 refine Oc [1] ca49 hc22 ?_
 rintro c19 he23
 unfold i64ok at he23
 refine Jo 0 ?_; rintro a24 k25 rfl
 refine Fb 8 0 fun _ => ?_
 refine Ost (Scl [3] sh39 [vi rv20.Width, vl a24 k25 rv20.Words]) (Oq Va (KS ?_))
 refine Jl [1] (Ent.freeze _ _) ?_
 have hq := q4 hrr (rv20, true) (by simp only [so_Answer, h9, h12, hg21, cs4]); subst hq
 exact Kr (vl a24 k25 rv20.Words) rfl (.cellN 1 rfl sh39 rfl (reads_Cl _ _) rfl (.tmp rfl .nil)) [0] en
theorem fn59 (s : GSet) (sa1 : Option Addr) (sk1 : Nat) (hs_0 : i64ok s.Width) (rr : Bool) (hrr : r1_Valid s = rr) : FT Tryz.prog 59 #[.agg #[vi s.Width, vl sa1 sk1 s.Words]] [S sa1 sk1 s.Words] (fun g : Unit => True) (fun g => vb rr) (fun g => []) := by
 refine FTi Tryz.func59 fun w0 M0 F0 => ?_
 unfold i64ok at hs_0
 refine Fb 8 0 fun _ => KS ?_
 refine Oa (Ab [vi s.Width, vl sa1 sk1 s.Words]) fun p2 => Oq Va (KS ?_)
 refine Oq (Vfa fo39_0 0) (Oq (VldF sh3 0) (Oq Vlss (Oq Vm ?_)))
 refine Js 7 ?_ ?_
 ·intro h3
  have g4 := dt h3
  refine Osk (Osk (Osk (Oq Vpt (Oq Vm (Osk (Osk (Osk (Osk (Osk ?_)))))))))
  refine Osk (Osk (Osk (Oq Vpt (KS ?_))))
  refine Kt (KS ?_)
  refine Oq Va (KS ?_)
  have hq := q4 hrr false (by simp only [r1_Valid, h3, cs4]); subst hq
  exact Kr () rfl (.tmp rfl .nil) [] trivial
 intro h3
 have g5 := df h3
 refine Oq (Vfa fo39_0 0) (Oq (VldF sh3 0) (Oq Vgtr (Oq Vpf (Oq Vm ?_))))
 refine Js 12 ?_ ?_
 ·intro h6
  have g7 := dt h6
  refine Osk (Osk (Osk (Osk (Osk (Osk (Osk (Osk (Oq Vpt (KS ?_)))))))))
  refine Kt (KS ?_)
  refine Oq Va (KS ?_)
  have hq := q4 hrr false (by simp only [r1_Valid, h3, h6, cs4]); subst hq
  exact Kr () rfl (.tmp rfl .nil) [] trivial
 intro h6
 have g8 := df h6
 refine Oq (Vfa fo39_1 0) (Oq (VldF sh37 0) (Oq (Vlen sl37) (Oq (Vfa fo39_0 0) (Oq (VldF sh3 0) (Oq Vadd (Oq Vquo (Oq Vneq (Oq Vpf (KS ?_)))))))))
 refine Kc ?_ ?_
 ·intro h9
  have g10 := ne_of_bne h9
  refine KS ?_
  refine Oq Va (KS ?_)
  have hq := q4 hrr false (by simp only [r1_Valid, h3, h6, h9, cs4]); subst hq
  exact Kr () rfl (.tmp rfl .nil) [] trivial
 intro h9
 have g11 := eq_of_bne_false h9
 refine KS ?_
 refine Oq (Vfa fo39_0 0) (Oq (VldF sh3 0) (Oq Va (KS ?_)))
 refine Kl (γ := Nat × Int) (fun (r12, b_13) => ⟨[(1, p2), (3, vi b_13)], [pv p2 [vi s.Width, vl sa1 sk1 s.Words], S sa1 sk1 s.Words], r1_Valid_L0 s r12 b_13 = r1_Valid_L0 s ((((64 * (s.Words.length : Int)) : Int) - s.Width).toNat) s.Width ∧ r12 = (((64 * (s.Words.length : Int)) : Int) - b_13).toNat ∧ (s.Width : Int) ≤ b_13 ∧ (b_13 ≤ (64 * (s.Words.length : Int)) ∨ b_13 = s.Width) ∧ (-9223372036854775808 ≤ b_13 ∧ b_13 ≤ 9223372036854775807), r12⟩) ((((64 * (s.Words.length : Int)) : Int) - s.Width).toNat, s.Width) [0, 1] ⟨rfl, rfl, aM1, (.inr rfl), aM1⟩ ?_
 rintro ⟨r12, b_13⟩ ⟨hM14, hr15, hi16, hi17, hk18⟩
 refine JJ_nx fun _ _ hL hA => ?_; dsimp only at hL hA; subst hL hA
 refine Fb 8 1 fun _ => KS ?_
 refine Oq Vm (Oq (Vfa fo39_1 0) (Oq (VldF sh37 0) (Oq (Vlen sl37) (Oq Vmul (Oq Vlss (KS ?_))))))
 refine Kc ?_ ?_
 ·intro h20
  have g21 := dt h20
  obtain ⟨r22, rfl⟩ := scc (n := r12) aM1
  refine KS ?_
  refine Oq (Vfa fo39_1 0) (Oq (VldF sh37 0) (Oq Vm (Oq Vquo (Oq (Vi sl37 1) (Oq (VldU sh68 1) (Oq Vm (Oq Vrem (Oq (VcU un3 un69) (Oq VshrU ?_)))))))))
  refine Oq (VandU (b := 1#64)) (Oq (VeqlU (b := 1#64)) (KS ?_))
  refine Kc ?_ ?_
  ·intro h23
   have g24 := eq_of_beq h23
   refine KS ?_
   refine Oq Va (KS ?_)
   have hR25 := q2 hM14 (.ret false) (by simp only [r1_Valid_L0, h20, h23, cs4])
   have hq := q4 hrr false (by simp only [r1_Valid, h3, h6, h9, h20, h23, hR25, cs4]); subst hq
   exact Kr () rfl (.tmp rfl .nil) [] trivial
  intro h23
  have g26 := ne_of_beq_false h23
  refine KS ?_
  refine Oq Vm (Oq Vadd (Oq Va (KS ?_)))
  exact Kg (r22, (b_13 + 1)) [0, 1] ⟨(q3 hM14 (by simp only [r1_Valid_L0, h20, h23, cs4])), aM1, aM1, aM1, aM1⟩
 intro h20
 have g27 := df h20
 obtain rfl : r12 = 0 := by omega
 refine Ke ?_
 have hR28 := q2 hM14 (.brk ()) (by simp only [r1_Valid_L0, h20, cs4])
 refine KS ?_
 refine Oq Va (KS ?_)
 have hq := q4 hrr true (by simp only [r1_Valid, h3, h6, h9, h20, hR28, cs4]); subst hq
 exact Kr () rfl (.tmp rfl .nil) [] trivial
theorem fn86 (l : List Int) (la0 : Option Addr) (lk0 : Nat) (n : Int) (hn_0 : i64ok n) (rr : Bool) (hrr : r7_Rising l n = rr) : FT Tryz.prog 86 #[vl la0 lk0 l, vi n] [S la0 lk0 l] (fun g : Unit => True) (fun g => vb rr) (fun g => []) := by
 refine FTi Tryz.func86 fun w0 M0 F0 => ?_
 unfold i64ok at hn_0
 refine Fb 8 0 fun _ => Fo 0 fun ho2 => KS ?_
 refine Oq Va (KS ?_)
 refine Oq Va (KS ?_)
 refine Kl (γ := Nat × Int) (fun (r3, i_4) => ⟨[(0, vl la0 lk0 l), (1, vi n), (5, vi i_4)], [S la0 lk0 l], r7_Rising_L0 l n r3 i_4 = r7_Rising_L0 l n (((l.length : Int) - 0).toNat) 0 ∧ r3 = ((l.length : Int) - i_4).toNat ∧ (0 : Int) ≤ i_4 ∧ i_4 ≤ (l.length : Int) ∧ (-9223372036854775808 ≤ i_4 ∧ i_4 ≤ 9223372036854775807), r3⟩) (((l.length : Int) - 0).toNat, 0) [0] ⟨rfl, rfl, aM1, aM1, aM1⟩ ?_
 rintro ⟨r3, i_4⟩ ⟨hM5, hr6, hi7, hi8, hk9⟩
 refine JJ_nx fun _ _ hL hA => ?_; dsimp only at hL hA; subst hL hA
 refine Fb 8 0 fun _ => Fo 0 fun ho11 => KS ?_
 refine Oq Vm (Oq Vm (Oq (Vlen sl22) (Oq Vlss (KS ?_))))
 refine Kc ?_ ?_
 ·intro h12
  have g13 := dt h12
  obtain ⟨r14, rfl⟩ := scc (n := r3) aM1
  refine KS ?_
  refine Kq [0, 0, 3, 7, 15, 31, 63, 63, 255, 511, 63, 2047, 4095, 8191, 16383, 32767, 65535, 131071, 131071, 393215, 1048575, 2097151, 131071, 131071, 12713983, 29491199, 67108863, 134217727, 268435455] fmix ?_
  refine Qv [] Vm (Qv [] Vm (Qv [0] (Vi sl22 0) ?_))
  have hb15 := ok1 (i := i_4.toNat) ho11 rng
  refine Qv [0] (VldI sh3 0) (Qv [] Vlss ?_)
  refine bool_split (decide ((l.getD i_4.toNat 0) < 0)) ?_ ?_
  ·intro h16
   have g17 := dt h16
   refine Qb h16 [] Vm (Qs (Qs (Qs (Qs (Qs (Qs (Qv [] Vpt (Qv [] Vm (Qs ?_)))))))))
   refine Qs (Qs (Qs (Qs (Qs (Qs (Qs (Qs (Qs (Qs ?_)))))))))
   refine Qs (Qs (Qs (Qv [] Vpt ?_)))
   refine Qn ⟨by kernel_rfl, ?_⟩
   refine Kt (KS ?_)
   refine Oq Va (KS ?_)
   have hR18 := q2 hM5 (.ret false) (by simp only [r7_Rising_L0, h12, h16, cs4])
   have hq := q4 hrr false (by simp only [r7_Rising, h12, h16, hR18, cs4]); subst hq
   exact Kr () rfl (.tmp rfl .nil) [] trivial
  intro h16
  have g19 := df h16
  refine Qb h16 [] Vm (Qv [] Vm (Qv [] Vm (Qv [0] (Vi sl22 0) ?_)))
  have hb20 := ok1 (i := i_4.toNat) ho11 rng
  refine Qv [0] (VldI sh3 0) (Qv [] Vm (Qv [] Vgeq (Qv [] Vpf ?_)))
  refine bool_split (decide (n ≤ (l.getD i_4.toNat 0))) ?_ ?_
  ·intro h21
   have g22 := dt h21
   refine Qb h21 [] Vm (Qs (Qs (Qs (Qs (Qs (Qs (Qs (Qs (Qs ?_)))))))))
   refine Qs (Qs (Qs (Qs (Qs (Qv [] Vpt ?_)))))
   refine Qn ⟨by kernel_rfl, ?_⟩
   refine Kt (KS ?_)
   refine Oq Va (KS ?_)
   have hR23 := q2 hM5 (.ret false) (by simp only [r7_Rising_L0, h12, h16, h21, cs4])
   have hq := q4 hrr false (by simp only [r7_Rising, h12, h16, h21, hR23, cs4]); subst hq
   exact Kr () rfl (.tmp rfl .nil) [] trivial
  intro h21
  have g24 := df h21
  refine Qb h21 [] Vm (Qv [] Vm (Qv [] Vgtr ?_))
  refine bool_split (decide (0 < i_4)) ?_ ?_
  ·intro h25
   have g26 := dt h25
   refine Qb h25 [] Vm (Qv [] Vm (Qv [] Vm (Qv [] Vsub (Qv [0] (Vi sl22 0) ?_))))
   have hb27 := ok1 (i := ((i_4 - 1) : Int).toNat) ho11 rng
   refine Qv [0] (VldI sh3 0) (Qv [] Vm (Qv [] Vm (Qv [0] (Vi sl22 0) ?_)))
   have hb28 := ok1 (i := i_4.toNat) ho11 rng
   refine Qv [0] (VldI sh3 0) (Qv [] Vgeq (Qv [] Vpt (Qv [] Vpf ?_)))
   refine Qn ⟨by kernel_rfl, ?_⟩
   refine Kc ?_ ?_
   ·intro h29
    have g30 := dt h29
    refine KS ?_
    refine Oq Va (KS ?_)
    have hR31 := q2 hM5 (.ret false) (by simp only [r7_Rising_L0, h12, h16, h21, h25, h29, cs4])
    have hq := q4 hrr false (by simp only [r7_Rising, h12, h16, h21, h25, h29, hR31, cs4]); subst hq
    exact Kr () rfl (.tmp rfl .nil) [] trivial
   intro h29
   have g32 := df h29
   refine KS ?_
   refine Oq Vm (Oq Vadd (Oq Va (KS ?_)))
   exact Kg (r14, (i_4 + 1)) [0] ⟨(q3 hM5 (by simp only [r7_Rising_L0, h12, h16, h21, h25, h29, cs4])), aM1, aM1, aM1, aM1⟩
  intro h25
  have g33 := df h25
  refine Qb h25 [] Vm (Qs (Qs (Qs (Qs (Qs (Qs (Qs (Qs (Qs ?_)))))))))
  refine Qs (Qv [] Vpf (Qv [] Vpf ?_))
  refine Qn ⟨by kernel_rfl, ?_⟩
  refine Kf (KS ?_)
  refine Oq Vm (Oq Vadd (Oq Va (KS ?_)))
  exact Kg (r14, (i_4 + 1)) [0] ⟨(q3 hM5 (by simp only [r7_Rising_L0, h12, h16, h21, h25, cs4])), aM1, aM1, aM1, aM1⟩
 intro h12
 have g34 := df h12
 obtain rfl : r3 = 0 := by omega
 refine Ke ?_
 have hR35 := q2 hM5 (.brk ()) (by simp only [r7_Rising_L0, h12, cs4])
 refine KS ?_
 refine Oq Va (KS ?_)
 have hq := q4 hrr true (by simp only [r7_Rising, h12, hR35, cs4]); subst hq
 exact Kr () rfl (.tmp rfl .nil) [] trivial
theorem fn129 (a : GCopy) (b : GCopy) (ha_0 : i64ok a.From) (ha_1 : i64ok a.To) (hb_0 : i64ok b.From) (hb_1 : i64ok b.To) (rr : Bool) (hrr : r1_Before a b = rr) : FT Tryz.prog 129 #[.agg #[vi a.From, vi a.To], .agg #[vi b.From, vi b.To]] [] (fun g : Unit => True) (fun g => vb rr) (fun g => []) := by
 refine FTi Tryz.func129 fun w0 M0 F0 => ?_
 unfold i64ok at ha_0 ha_1 hb_0 hb_1
 refine KS ?_
 refine Oa (Ab [vi a.From, vi a.To]) fun p1 => Oa (Ab [vi b.From, vi b.To]) fun p2 => Oq Va (KS ?_)
 refine Oq (Vfa fo108_0 1) (Oq (VldF sh3 1) (Oq (Vfa fo108_0 0) (Oq (VldF sh3 0) (Oq Vlss (Oq Vm ?_)))))
 refine Js 10 ?_ ?_
 ·intro h3
  have g4 := dt h3
  refine Osk (Osk (Osk (Osk (Osk (Osk (Osk (Osk (Osk (Osk ?_)))))))))
  refine Osk (Osk (Oq Vpt (Oq Va (KS ?_))))
  have hq := q4 hrr true (by simp only [r1_Before, h3, cs4]); subst hq
  exact Kr () rfl (.tmp rfl .nil) [] trivial
 intro h3
 have g5 := df h3
 refine Oq (Vfa fo108_0 1) (Oq (VldF sh3 1) (Oq (Vfa fo108_0 0) (Oq (VldF sh3 0) (Oq Veql (Oq Vm ?_)))))
 refine Js 16 ?_ ?_
 ·intro h6
  have g7 := eq_of_beq h6
  refine Oq (Vfa fo108_1 1) (Oq (VldF sh3 1) (Oq (Vfa fo108_1 0) (Oq (VldF sh3 0) (Oq Vlss (Oq Vpt (Oq Vpf (Oq Va (KS ?_))))))))
  have hq := q4 hrr (decide (a.To < b.To)) (by simp only [r1_Before, h3, h6, cs4]); subst hq
  exact Kr () rfl (.tmp rfl .nil) [] trivial
 intro h6
 have g8 := ne_of_beq_false h6
 refine Osk (Osk (Osk (Osk (Osk (Oq Vpf (Oq Vpf (Oq Va (KS ?_))))))))
 have hq := q4 hrr false (by simp only [r1_Before, h3, h6, cs4]); subst hq
 exact Kr () rfl (.tmp rfl .nil) [] trivial
theorem fn87 (t : GTransfer) (ta1 : Option Addr) (tk1 : Nat) (ta3 : Option Addr) (tk3 : Nat) (ta4 : Option Addr) (tk4 : Nat) (ht_0 : i64ok t.Gen.Width) (ht_2 : i64ok t.Kill.Width) (rr : Bool) (hrr : r1_ValidTransfer t = rr) : FT Tryz.prog 87 #[.agg #[vi t.Gen.Width, vl ta1 tk1 t.Gen.Words, vi t.Kill.Width, vl ta3 tk3 t.Kill.Words, vl ta4 tk4 t.Copies]] [S ta1 tk1 t.Gen.Words, S ta3 tk3 t.Kill.Words, S ta4 tk4 t.Copies] (fun g : Unit => True) (fun g => vb rr) (fun g => []) := by
 refine FTi Tryz.func87 fun w0 M0 F0 => ?_
 unfold i64ok at ht_0 ht_2
 refine Fb 8 0 fun _ => Fb 8 1 fun _ => Fb 16 2 fun _ => KS ?_
 refine Oa (Ab [vi t.Gen.Width, vl ta1 tk1 t.Gen.Words, vi t.Kill.Width, vl ta3 tk3 t.Kill.Words, vl ta4 tk4 t.Copies]) fun p4 => Oq Va (KS ?_)
 refine Oq (Vfa fo85_0 0) (Oq (VldG sh39 0 [vi t.Gen.Width, vl ta1 tk1 t.Gen.Words]) ?_)
 refine letv (r1_Valid t.Gen) fun rv5 hg6 => ?_
 have hc7 := fn59 t.Gen ta1 tk1 pre rv5 hg6
 refine Oc [1] ca59 hc7 ?_
 rintro - -
 refine Oq Vnot (Oq Vm ?_)
 refine Js 10 ?_ ?_
 ·intro h8
  have h10 := not_true h8
  refine Osk (Osk (Osk (Osk (Oq Vpt (Oq Vm (Osk (Osk (Osk (Osk ?_)))))))))
  refine Osk (Osk (Osk (Oq Vpt (Oq Vm (Osk (Osk (Osk (Osk (Oq Vpt ?_)))))))))
  refine KS ?_
  refine Kt (KS ?_)
  refine Oq Va (KS ?_)
  have hq := q4 hrr false (by simp only [r1_ValidTransfer, h8, h10, hg6, cs4]); subst hq
  exact Kr () rfl (.tmp rfl .nil) [] trivial
 intro h8
 have h13 := not_false h8
 refine Oq (Vfa fo85_1 0) (Oq (VldG sh39 0 [vi t.Kill.Width, vl ta3 tk3 t.Kill.Words]) ?_)
 refine letv (r1_Valid t.Kill) fun rv15 hg16 => ?_
 have hc17 := fn59 t.Kill ta3 tk3 pre rv15 hg16
 refine Oc [2] ca59 hc17 ?_
 rintro - -
 refine Oq Vnot (Oq Vpf (Oq Vm ?_))
 refine Js 16 ?_ ?_
 ·intro h18
  have h20 := not_true h18
  refine Osk (Osk (Osk (Osk (Osk (Osk (Osk (Oq Vpt (Oq Vm (Osk ?_)))))))))
  refine Osk (Osk (Osk (Oq Vpt (KS ?_))))
  refine Kt (KS ?_)
  refine Oq Va (KS ?_)
  have hq := q4 hrr false (by simp only [r1_ValidTransfer, h8, h13, h18, h20, hg6, hg16, cs4]); subst hq
  exact Kr () rfl (.tmp rfl .nil) [] trivial
 intro h18
 have h23 := not_false h18
 refine Oq (Vfa fo85_0 0) (Oq (VfaF fo39_0 0) (Oq (VldF sh3 0) (Oq (Vfa fo85_1 0) (Oq (VfaF fo39_0 0) (Oq (VldF sh3 0) (Oq Vneq (Oq Vpf (Oq Vm ?_))))))))
 refine Js 25 ?_ ?_
 ·intro h25
  have g26 := ne_of_bne h25
  refine Osk (Osk (Osk (Osk (Oq Vpt (KS ?_)))))
  refine Kt (KS ?_)
  refine Oq Va (KS ?_)
  have hq := q4 hrr false (by simp only [r1_ValidTransfer, h8, h13, h18, h23, h25, hg6, hg16, cs4]); subst hq
  exact Kr () rfl (.tmp rfl .nil) [] trivial
 intro h25
 have g27 := eq_of_bne_false h25
 refine Oq (Vfa fo85_2 0) (Oq (VldF sh83 0) (Oq (Vlen sl83) (Oq Vgtr (Oq Vpf (KS ?_)))))
 refine Kc ?_ ?_
 ·intro h28
  have g29 := dt h28
  refine KS ?_
  refine Oq Va (KS ?_)
  have hq := q4 hrr false (by simp only [r1_ValidTransfer, h8, h13, h18, h23, h25, h28, hg6, hg16, cs4]); subst hq
  exact Kr () rfl (.tmp rfl .nil) [] trivial
 intro h28
 have g30 := df h28
 refine KS ?_
 refine Oq (Vfa fo85_0 0) (Oq (VfaF fo39_0 0) (Oq (VldF sh3 0) (Oq Va (KS ?_))))
 refine Oq Va (KS ?_)
 refine Kl (γ := Nat × Int) (fun (r31, i_32) => ⟨[(1, p4), (3, vi t.Gen.Width), (4, vi i_32)], [pv p4 [vi t.Gen.Width, vl ta1 tk1 t.Gen.Words, vi t.Kill.Width, vl ta3 tk3 t.Kill.Words, vl ta4 tk4 t.Copies], S ta1 tk1 t.Gen.Words, S ta3 tk3 t.Kill.Words, S ta4 tk4 t.Copies], r1_ValidTransfer_L0 t r31 i_32 = r1_ValidTransfer_L0 t (((t.Copies.length : Int) - 0).toNat) 0 ∧ r31 = ((t.Copies.length : Int) - i_32).toNat ∧ (0 : Int) ≤ i_32 ∧ i_32 ≤ (t.Copies.length : Int) ∧ (-9223372036854775808 ≤ i_32 ∧ i_32 ≤ 9223372036854775807), r31⟩) (((t.Copies.length : Int) - 0).toNat, 0) [0, 1, 2, 3] ⟨rfl, rfl, aM1, aM1, aM1⟩ ?_
 rintro ⟨r31, i_32⟩ ⟨hM33, hr34, hi35, hi36, hk37⟩
 refine JJ_nx fun _ _ hL hA => ?_; dsimp only at hL hA; subst hL hA
 refine Fb 8 1 fun _ => Fb 8 2 fun _ => Fb 16 3 fun _ => KS ?_
 refine Oq Vm (Oq (Vfa fo85_2 0) (Oq (VldF sh83 0) (Oq (Vlen sl83) (Oq Vlss (KS ?_)))))
 refine Kc ?_ ?_
 ·intro h41
  have g42 := dt h41
  obtain ⟨r43, rfl⟩ := scc (n := r31) aM1
  refine KS ?_
  refine Oq (Vfa fo85_2 0) (Oq (VldF sh83 0) (Oq Vm (Oq (Vi sl83 3) ?_)))
  refine JJ_peek_GCopy i_32.toNat 3 rfl rng fun hb44 hb45 => ?_
  unfold i64ok at hb44 hb45
  refine Oq (VldA sh108 0) (Oa (Al ze108 [vi 0, vi 0]) fun p46 => Ost (Scl [0] sh108 [vi ((t.Copies.getD i_32.toNat default).From), vi ((t.Copies.getD i_32.toNat default).To)]) (KS ?_))
  refine Jp 0 fun hp47 => ?_
  refine bool_split (decide ((t.Copies.getD i_32.toNat default).From < 0)) ?_ ?_
  ·intro h48
   have g49 := dt h48
   refine Kq [0, 1, 3, 7, 15, 31, 15, 127, 255, 511, 1023, 2047, 4095, 8191, 16383, 32767, 65535, 32767, 262143, 524287, 1048575, 2097151, 4194303, 8388607, 16777215, 33554431, 16777215, 83886079, 268435455, 536870911, 16777215, 2147483647, 4294967295, 8589934591, 17179869183] fmix ?_
   refine Qv [0] (Vfa fo108_0 0) (Qv [1] (VldF sh3 0) (Qb h48 [] Vlss (Qv [] Vm (Qs (Qs (Qs (Qs (Qv [] Vpt (Qv [] Vm ?_)))))))))
   refine Qs (Qs (Qs (Qv [] Vpt (Qv [] Vm (Qs (Qs (Qs (Qs (Qv [] Vpt ?_)))))))))
   refine Qv [] Vm (Qs (Qs (Qs (Qs (Qs (Qs (Qs (Qs (Qs ?_)))))))))
   refine Qs (Qs (Qs (Qs (Qv [] Vpt ?_))))
   refine Qn ⟨by kernel_rfl, ?_⟩
   refine Kt (KS ?_)
   refine Oq Va (KS ?_)
   have hR50 := q2 hM33 (.ret false) (by simp only [r1_ValidTransfer_L0, h41, h48, cs4])
   have hq := q4 hrr false (by simp only [r1_ValidTransfer, h8, h13, h18, h23, h25, h28, h41, h48, hg6, hg16, hR50, cs4]); subst hq
   exact Kr () rfl (.tmp rfl .nil) [] trivial
  intro h48
  have g51 := df h48
  refine bool_split (decide (t.Gen.Width ≤ (t.Copies.getD i_32.toNat default).From)) ?_ ?_
  ·intro h52
   have g53 := dt h52
   refine Kq [0, 1, 3, 7, 15, 31, 15, 127, 255, 511, 1023, 2047, 4095, 8191, 16383, 32767, 65535, 32767, 262143, 524287, 1048575, 2097151, 4194303, 8388607, 16777215, 33554431, 16777215, 83886079, 268435455, 536870911, 16777215, 2147483647, 4294967295, 8589934591, 17179869183] fmix ?_
   refine Qv [0] (Vfa fo108_0 0) (Qv [1] (VldF sh3 0) (Qb h48 [] Vlss (Qv [] Vm (Qv [0] (Vfa fo108_0 0) (Qv [1] (VldF sh3 0) (Qv [] Vm (Qb h52 [] Vgeq (Qv [] Vpf (Qv [] Vm ?_)))))))))
   refine Qs (Qs (Qs (Qv [] Vpt (Qv [] Vm (Qs (Qs (Qs (Qs (Qv [] Vpt ?_)))))))))
   refine Qv [] Vm (Qs (Qs (Qs (Qs (Qs (Qs (Qs (Qs (Qs ?_)))))))))
   refine Qs (Qs (Qs (Qs (Qv [] Vpt ?_))))
   refine Qn ⟨by kernel_rfl, ?_⟩
   refine Kt (KS ?_)
   refine Oq Va (KS ?_)
   have hR54 := q2 hM33 (.ret false) (by simp only [r1_ValidTransfer_L0, h41, h48, h52, cs4])
   have hq := q4 hrr false (by simp only [r1_ValidTransfer, h8, h13, h18, h23, h25, h28, h41, h48, h52, hg6, hg16, hR54, cs4]); subst hq
   exact Kr () rfl (.tmp rfl .nil) [] trivial
  intro h52
  have g55 := df h52
  refine bool_split (decide ((t.Copies.getD i_32.toNat default).To < 0)) ?_ ?_
  ·intro h56
   have g57 := dt h56
   refine Kq [0, 1, 3, 7, 15, 31, 15, 127, 255, 511, 1023, 2047, 4095, 8191, 16383, 32767, 65535, 32767, 262143, 524287, 1048575, 2097151, 4194303, 8388607, 16777215, 33554431, 16777215, 83886079, 268435455, 536870911, 16777215, 2147483647, 4294967295, 8589934591, 17179869183] fmix ?_
   refine Qv [0] (Vfa fo108_0 0) (Qv [1] (VldF sh3 0) (Qb h48 [] Vlss (Qv [] Vm (Qv [0] (Vfa fo108_0 0) (Qv [1] (VldF sh3 0) (Qv [] Vm (Qb h52 [] Vgeq (Qv [] Vpf (Qv [] Vm ?_)))))))))
   refine Qv [0] (Vfa fo108_1 0) (Qv [1] (VldF sh3 0) (Qb h56 [] Vlss (Qv [] Vpf (Qv [] Vm (Qs (Qs (Qs (Qs (Qv [] Vpt ?_)))))))))
   refine Qv [] Vm (Qs (Qs (Qs (Qs (Qs (Qs (Qs (Qs (Qs ?_)))))))))
   refine Qs (Qs (Qs (Qs (Qv [] Vpt ?_))))
   refine Qn ⟨by kernel_rfl, ?_⟩
   refine Kt (KS ?_)
   refine Oq Va (KS ?_)
   have hR58 := q2 hM33 (.ret false) (by simp only [r1_ValidTransfer_L0, h41, h48, h52, h56, cs4])
   have hq := q4 hrr false (by simp only [r1_ValidTransfer, h8, h13, h18, h23, h25, h28, h41, h48, h52, h56, hg6, hg16, hR58, cs4]); subst hq
   exact Kr () rfl (.tmp rfl .nil) [] trivial
  intro h56
  have g59 := df h56
  refine bool_split (decide (t.Gen.Width ≤ (t.Copies.getD i_32.toNat default).To)) ?_ ?_
  ·intro h60
   have g61 := dt h60
   refine Kq [0, 1, 3, 7, 15, 31, 15, 127, 255, 511, 1023, 2047, 4095, 8191, 16383, 32767, 65535, 32767, 262143, 524287, 1048575, 2097151, 4194303, 8388607, 16777215, 33554431, 16777215, 83886079, 268435455, 536870911, 16777215, 2147483647, 4294967295, 8589934591, 17179869183] fmix ?_
   refine Qv [0] (Vfa fo108_0 0) (Qv [1] (VldF sh3 0) (Qb h48 [] Vlss (Qv [] Vm (Qv [0] (Vfa fo108_0 0) (Qv [1] (VldF sh3 0) (Qv [] Vm (Qb h52 [] Vgeq (Qv [] Vpf (Qv [] Vm ?_)))))))))
   refine Qv [0] (Vfa fo108_1 0) (Qv [1] (VldF sh3 0) (Qb h56 [] Vlss (Qv [] Vpf (Qv [] Vm (Qv [0] (Vfa fo108_1 0) (Qv [1] (VldF sh3 0) (Qv [] Vm (Qb h60 [] Vgeq (Qv [] Vpf ?_)))))))))
   refine Qv [] Vm (Qs (Qs (Qs (Qs (Qs (Qs (Qs (Qs (Qs ?_)))))))))
   refine Qs (Qs (Qs (Qs (Qv [] Vpt ?_))))
   refine Qn ⟨by kernel_rfl, ?_⟩
   refine Kt (KS ?_)
   refine Oq Va (KS ?_)
   have hR62 := q2 hM33 (.ret false) (by simp only [r1_ValidTransfer_L0, h41, h48, h52, h56, h60, cs4])
   have hq := q4 hrr false (by simp only [r1_ValidTransfer, h8, h13, h18, h23, h25, h28, h41, h48, h52, h56, h60, hg6, hg16, hR62, cs4]); subst hq
   exact Kr () rfl (.tmp rfl .nil) [] trivial
  intro h60
  have g63 := df h60
  refine bool_split (decide (0 < i_32)) ?_ ?_
  ·intro h64
   have g65 := dt h64
   refine JJ_peek_GCopy ((i_32 - 1) : Int).toNat 6 rfl rng fun hb66 hb67 => ?_
   unfold i64ok at hb66 hb67
   refine JK_drawK [0, 1, 3, 7, 15, 31, 15, 127, 255, 511, 1023, 2047, 4095, 8191, 16383, 32767, 65535, 32767, 262143, 524287, 1048575, 2097151, 4194303, 8388607, 16777215, 33554431, 16777215, 83886079, 268435455, 536870911, 16777215, 2147483647, 4294967295, 8589934591, 17179869183] fmix ?_
   refine Dv [1] (Vfa fo108_0 0) (Dv [2] (VldF sh3 0) (Db h48 [] Vlss (Dv [] Vm (Dv [1] (Vfa fo108_0 0) (Dv [2] (VldF sh3 0) (Dv [] Vm (Db h52 [] Vgeq (Dv [] Vpf (Dv [] Vm ?_)))))))))
   refine Dv [1] (Vfa fo108_1 0) (Dv [2] (VldF sh3 0) (Db h56 [] Vlss (Dv [] Vpf (Dv [] Vm (Dv [1] (Vfa fo108_1 0) (Dv [2] (VldF sh3 0) (Dv [] Vm (Db h60 [] Vgeq (Dv [] Vpf ?_)))))))))
   refine Dv [] Vm (Dv [] Vm (Db h64 [] Vgtr (Dv [] Vm (Dv [4] (Vfa fo85_2 0) (Dv [4] (VldF sh83 0) (Dv [] Vm (Dv [] Vsub (Dv [7] (Vi sl83 0) (Dv [0] (VldA sh108 0) ?_)))))))))
   refine Dv [2] (VldA sh108 0) ?_
   refine letv (r1_Before (t.Copies.getD ((i_32 - 1) : Int).toNat default) (t.Copies.getD i_32.toNat default)) fun rv68 hg69 => ?_
   refine Dx [] [] [0] (fun G => vb rv68) [fun G => SP.fact (True)] (fun G => xC [] ca129 (fn129 ((t.Copies.getD ((i_32 - 1) : Int).toNat default)) ((t.Copies.getD i_32.toNat default)) pre pre pre pre rv68 hg69)) (Dv [] Vnot (Dv [] Vpt (Dv [] Vpf ?_)))
   refine Dn ⟨by kernel_rfl, fun G => ?_⟩
   refine Jw2 [(1, p4), (3, vi t.Gen.Width), (4, vi i_32), (80, vb (!rv68))] [0, 1, 2, 3, 4, 5, 6, 7] [SP.fact (True)] ?_
   refine Jk [0, 2, 2, 3, 4, 5, 6] ?_
   refine Kc ?_ ?_
   ·intro h70
    have h72 := not_true h70
    refine KS ?_
    refine Oq Va (KS ?_)
    have hR74 := q2 hM33 (.ret false) (by simp only [r1_ValidTransfer_L0, h41, h48, h52, h56, h60, h64, h70, h72, hg69, cs4])
    have hq := q4 hrr false (by simp only [r1_ValidTransfer, h8, h13, h18, h23, h25, h28, h41, h48, h52, h56, h60, h64, h70, h72, hg6, hg16, hg69, hR74, cs4]); subst hq
    exact Kr () rfl (.tmp rfl .nil) [] trivial
   intro h70
   have h76 := not_false h70
   refine KS ?_
   refine Oq Vm (Oq Vadd (Oq Va (KS ?_)))
   exact Kg (r43, (i_32 + 1)) [3, 4, 5, 6] ⟨(q3 hM33 (by simp only [r1_ValidTransfer_L0, h41, h48, h52, h56, h60, h64, h70, h76, hg69, cs4])), aM1, aM1, aM1, aM1⟩
  intro h64
  have g78 := df h64
  refine Kq [0, 1, 3, 7, 15, 31, 15, 127, 255, 511, 1023, 2047, 4095, 8191, 16383, 32767, 65535, 32767, 262143, 524287, 1048575, 2097151, 4194303, 8388607, 16777215, 33554431, 16777215, 83886079, 268435455, 536870911, 16777215, 2147483647, 4294967295, 8589934591, 17179869183] fmix ?_
  refine Qv [0] (Vfa fo108_0 0) (Qv [1] (VldF sh3 0) (Qb h48 [] Vlss (Qv [] Vm (Qv [0] (Vfa fo108_0 0) (Qv [1] (VldF sh3 0) (Qv [] Vm (Qb h52 [] Vgeq (Qv [] Vpf (Qv [] Vm ?_)))))))))
  refine Qv [0] (Vfa fo108_1 0) (Qv [1] (VldF sh3 0) (Qb h56 [] Vlss (Qv [] Vpf (Qv [] Vm (Qv [0] (Vfa fo108_1 0) (Qv [1] (VldF sh3 0) (Qv [] Vm (Qb h60 [] Vgeq (Qv [] Vpf ?_)))))))))
  refine Qv [] Vm (Qv [] Vm (Qb h64 [] Vgtr (Qv [] Vm (Qs (Qs (Qs (Qs (Qs (Qs ?_)))))))))
  refine Qs (Qs (Qs (Qv [] Vpf (Qv [] Vpf ?_))))
  refine Qn ⟨by kernel_rfl, ?_⟩
  refine Kf (KS ?_)
  refine Oq Vm (Oq Vadd (Oq Va (KS ?_)))
  exact Kg (r43, (i_32 + 1)) [3, 4, 5, 6] ⟨(q3 hM33 (by simp only [r1_ValidTransfer_L0, h41, h48, h52, h56, h60, h64, cs4])), aM1, aM1, aM1, aM1⟩
 intro h41
 have g79 := df h41
 obtain rfl : r31 = 0 := by omega
 refine Ke ?_
 have hR80 := q2 hM33 (.brk ()) (by simp only [r1_ValidTransfer_L0, h41, cs4])
 refine KS ?_
 refine Oq Va (KS ?_)
 have hq := q4 hrr true (by simp only [r1_ValidTransfer, h8, h13, h18, h23, h25, h28, h41, hg6, hg16, hR80, cs4]); subst hq
 exact Kr () rfl (.tmp rfl .nil) [] trivial
theorem fn50 (s : GSystem) (sa1 : Option Addr) (sk1 : Nat) (sa2 : Option Addr) (sk2 : Nat) (sa3 : Option Addr) (sk3 : Nat) (hs_0 : i64ok s.Width) (rr : Bool) (hrr : r10_Valid s = rr) : FT Tryz.prog 50 #[.agg #[vi s.Width, vl sa1 sk1 s.Deps, vl sa2 sk2 s.Transfers, vl sa3 sk3 s.Boundary]] [S sa1 sk1 s.Deps, S sa2 sk2 s.Transfers, S sa3 sk3 s.Boundary] (fun g : Unit => True) (fun g => vb rr) (fun g => []) := by
 refine FTi Tryz.func50 fun w0 M0 F0 => ?_
 unfold i64ok at hs_0
 refine Fb 24 0 fun _ => Fb 88 1 fun _ => Fb 32 2 fun _ => KS ?_
 refine Oa (Ab [vi s.Width, vl sa1 sk1 s.Deps, vl sa2 sk2 s.Transfers, vl sa3 sk3 s.Boundary]) fun p4 => Oq Va (KS ?_)
 refine Oq (Vfa fo32_3 0) (Oq (VldF sh24 0) (Oq (Vlen sl24) (Oq Va (KS ?_))))
 refine Oq (Vfa fo32_0 0) (Oq (VldF sh3 0) (Oq Vlss (Oq Vm ?_)))
 refine Js 12 ?_ ?_
 ·intro h5
  have g6 := dt h5
  refine Osk (Osk (Osk (Oq Vpt (Oq Vm (Osk (Osk (Oq Vpt (Oq Vm (Osk ?_)))))))))
  refine Osk (Oq Vpt (Oq Vm (Osk (Osk (Osk (Osk (Osk (Oq Vpt (Oq Vm ?_)))))))))
  refine Osk (Osk (Osk (Osk (Osk (Oq Vpt (KS ?_))))))
  refine Kt (KS ?_)
  refine Oq Va (KS ?_)
  have hq := q4 hrr false (by simp only [r10_Valid, h5, cs4]); subst hq
  exact Kr () rfl (.tmp rfl .nil) [] trivial
 intro h5
 have g7 := df h5
 refine Oq (Vfa fo32_0 0) (Oq (VldF sh3 0) (Oq Vgtr (Oq Vpf (Oq Vm ?_))))
 refine Js 17 ?_ ?_
 ·intro h8
  have g9 := dt h8
  refine Osk (Osk (Oq Vpt (Oq Vm (Osk (Osk (Oq Vpt (Oq Vm (Osk (Osk ?_)))))))))
  refine Osk (Osk (Osk (Oq Vpt (Oq Vm (Osk (Osk (Osk (Osk (Osk ?_)))))))))
  refine Oq Vpt (KS ?_)
  refine Kt (KS ?_)
  refine Oq Va (KS ?_)
  have hq := q4 hrr false (by simp only [r10_Valid, h5, h8, cs4]); subst hq
  exact Kr () rfl (.tmp rfl .nil) [] trivial
 intro h8
 have g10 := df h8
 refine Oq Vm (Oq Vlss (Oq Vpf (Oq Vm ?_)))
 refine Js 21 ?_ ?_
 ·intro h11
  have g12 := dt h11
  refine Osk (Osk (Oq Vpt (Oq Vm (Osk (Osk (Osk (Osk (Osk (Oq Vpt ?_)))))))))
  refine Oq Vm (Osk (Osk (Osk (Osk (Osk (Oq Vpt (KS ?_)))))))
  refine Kt (KS ?_)
  refine Oq Va (KS ?_)
  have hq := q4 hrr false (by simp only [r10_Valid, h5, h8, h11, cs4]); subst hq
  exact Kr () rfl (.tmp rfl .nil) [] trivial
 intro h11
 have g13 := df h11
 refine Oq Vm (Oq Vgtr (Oq Vpf (Oq Vm ?_)))
 refine Js 25 ?_ ?_
 ·intro h14
  have g15 := dt h14
  refine Osk (Osk (Osk (Osk (Osk (Oq Vpt (Oq Vm (Osk (Osk (Osk ?_)))))))))
  refine Osk (Osk (Oq Vpt (KS ?_)))
  refine Kt (KS ?_)
  refine Oq Va (KS ?_)
  have hq := q4 hrr false (by simp only [r10_Valid, h5, h8, h11, h14, cs4]); subst hq
  exact Kr () rfl (.tmp rfl .nil) [] trivial
 intro h14
 have g16 := df h14
 refine Oq (Vfa fo32_1 0) (Oq (VldF sh29 0) (Oq (Vlen sl29) (Oq Vm (Oq Vneq (Oq Vpf (Oq Vm ?_))))))
 refine Js 32 ?_ ?_
 ·intro h17
  have g18 := ne_of_bne h17
  refine Osk (Osk (Osk (Osk (Osk (Oq Vpt (KS ?_))))))
  refine Kt (KS ?_)
  refine Oq Va (KS ?_)
  have hq := q4 hrr false (by simp only [r10_Valid, h5, h8, h11, h14, h17, cs4]); subst hq
  exact Kr () rfl (.tmp rfl .nil) [] trivial
 intro h17
 have g19 := eq_of_bne_false h17
 refine Oq (Vfa fo32_2 0) (Oq (VldF sh30 0) (Oq (Vlen sl30) (Oq Vm (Oq Vneq (Oq Vpf (KS ?_))))))
 refine Kc ?_ ?_
 ·intro h20
  have g21 := ne_of_bne h20
  refine KS ?_
  refine Oq Va (KS ?_)
  have hq := q4 hrr false (by simp only [r10_Valid, h5, h8, h11, h14, h17, h20, cs4]); subst hq
  exact Kr () rfl (.tmp rfl .nil) [] trivial
 intro h20
 have g22 := eq_of_bne_false h20
 refine KS ?_
 refine Oq Va (KS ?_)
 refine Oq Va (KS ?_)
 refine Kl (γ := Nat × Int × Int) (fun (r23, edges_24, i_25) => ⟨[(1, p4), (3, vi (s.Boundary.length : Int)), (4, vi edges_24), (5, vi i_25)], [pv p4 [vi s.Width, vl sa1 sk1 s.Deps, vl sa2 sk2 s.Transfers, vl sa3 sk3 s.Boundary], S sa1 sk1 s.Deps, S sa2 sk2 s.Transfers, S sa3 sk3 s.Boundary], r10_Valid_L0 s r23 edges_24 i_25 = r10_Valid_L0 s (((s.Boundary.length : Int) - 0).toNat) 0 0 ∧ r23 = ((s.Boundary.length : Int) - i_25).toNat ∧ (0 : Int) ≤ i_25 ∧ i_25 ≤ (s.Boundary.length : Int) ∧ (-9223372036854775808 ≤ edges_24 ∧ edges_24 ≤ 9223372036854775807) ∧ (-9223372036854775808 ≤ i_25 ∧ i_25 ≤ 9223372036854775807) ∧ 0 ≤ edges_24 ∧ edges_24 ≤ i_25 * 17592186044416, r23⟩) (((s.Boundary.length : Int) - 0).toNat, 0, 0) [0, 1, 2, 3] ⟨rfl, rfl, aM1, aM1, aM1, aM1, iv0⟩ ?_
 rintro ⟨r23, edges_24, i_25⟩ ⟨hM26, hr27, hi28, hi29, hk30, hk31, hv32⟩
 refine JJ_nx fun _ _ hL hA => ?_; dsimp only at hL hA; subst hL hA
 refine Fb 24 1 fun _ => Fb 88 2 fun _ => Fb 32 3 fun _ => KS ?_
 refine Oq Vm (Oq Vm (Oq Vlss (KS ?_)))
 refine Kc ?_ ?_
 ·intro h36
  have g37 := dt h36
  obtain ⟨r38, rfl⟩ := scc (n := r23) aM1
  refine KS ?_
  refine JJ_peekL i_25.toNat 1 rfl rng fun a39 k40 => ?_
  refine Fb 8 1 fun _ => Fo 1 fun ho42 => ?_
  refine letv (r7_Rising (s.Deps.getD i_25.toNat []) (s.Boundary.length : Int)) fun rv43 hg44 => ?_
  refine bool_split (!rv43) ?_ ?_
  ·intro h45
   have h47 := not_true h45
   refine JK_drawK [0, 1, 0, 7, 15, 0, 63, 127, 255, 511, 1023, 511, 4095, 8191, 16383, 32767, 65535, 131071, 262143, 524287, 262143, 2097151, 4194303, 8388607, 16777215, 262143, 33816575, 134217727, 268435455, 536870911, 1073741823, 2147483647, 1073741823, 8589934591, 17179869183, 34359738367, 68719476735, 137438953471, 274877906943, 549755813887, 1099511627775, 549755813887, 4398046511103, 8796093022207, 17592186044415, 549755813887, 35734127902719, 140737488355327, 281474976710655] fmix ?_
   refine Dv [2] (Vfa fo32_1 0) (Dv [2] (VldF sh29 0) (Dv [] Vm (Dv [3] (Vi sl29 0) (Dv [0] (Vld sh22 0) (Dv [] Vm (Dx [1] [] [1, 0] (fun G => vb rv43) [fun G => SP.fact (True)] (fun G => xC [0] ca86 (fn86 ((s.Deps.getD i_25.toNat [])) a39 k40 ((s.Boundary.length : Int)) pre rv43 hg44)) (Db h45 [] Vnot (Dv [] Vm (Ds ?_)))))))))
   refine Ds (Ds (Ds (Ds (Ds (Ds (Dv [] Vpt (Dv [] Vm (Ds (Ds ?_)))))))))
   refine Ds (Ds (Ds (Ds (Ds (Ds (Ds (Ds (Dv [] Vpt (Dv [] Vm ?_)))))))))
   refine Ds (Ds (Ds (Ds (Ds (Ds (Ds (Dv [] Vpt (Dv [] Vm (Ds ?_)))))))))
   refine Ds (Ds (Ds (Ds (Ds (Ds (Ds (Ds (Dv [] Vpt ?_))))))))
   refine Dn ⟨by kernel_rfl, fun G => ?_⟩
   refine Jw2 [(1, p4), (3, vi (s.Boundary.length : Int)), (4, vi edges_24), (5, vi i_25), (92, vb true)] [0, 1, 2, 3, 4, 5] [SP.fact (True)] ?_
   refine Jk [0, 1, 2, 3, 4, 5] (Kt ?_)
   refine KS ?_
   refine Oq Va (KS ?_)
   have hR49 := q2 hM26 (.ret false) (by simp only [r10_Valid_L0, h36, h45, h47, hg44, cs4])
   have hq := q4 hrr false (by simp only [r10_Valid, h5, h8, h11, h14, h17, h20, h36, h45, h47, hg44, hR49, cs4]); subst hq
   exact Kr () rfl (.tmp rfl .nil) [] trivial
  intro h45
  have h51 := not_false h45
  refine JJ_peek_GTransfer i_25.toNat 4 rfl rng fun a53 k54 a55 k56 a57 k58 hb59 hb60 => ?_
  unfold i64ok at hb59 hb60
  refine Fb 8 1 fun _ => Fb 8 2 fun _ => Fb 16 3 fun _ => ?_
  refine letv (r1_ValidTransfer (s.Transfers.getD i_25.toNat default)) fun rv64 hg65 => ?_
  refine bool_split (!rv64) ?_ ?_
  ·intro h66
   have h68 := not_true h66
   refine JK_drawK [0, 1, 0, 7, 15, 0, 63, 127, 255, 511, 1023, 511, 4095, 8191, 16383, 32767, 65535, 131071, 262143, 524287, 262143, 2097151, 4194303, 8388607, 16777215, 262143, 33816575, 134217727, 268435455, 536870911, 1073741823, 2147483647, 1073741823, 8589934591, 17179869183, 34359738367, 68719476735, 137438953471, 274877906943, 549755813887, 1099511627775, 549755813887, 4398046511103, 8796093022207, 17592186044415, 549755813887, 35734127902719, 140737488355327, 281474976710655] fmix ?_
   refine Dv [6] (Vfa fo32_1 0) (Dv [6] (VldF sh29 0) (Dv [] Vm (Dv [7] (Vi sl29 0) (Dv [4] (Vld sh22 0) (Dv [] Vm (Dx [5] [] [1, 0] (fun G => vb rv43) [fun G => SP.fact (True)] (fun G => xC [0] ca86 (fn86 ((s.Deps.getD i_25.toNat [])) a39 k40 ((s.Boundary.length : Int)) pre rv43 hg44)) (Db h45 [] Vnot (Dv [] Vm (Dv [6] (Vfa fo32_2 0) ?_)))))))))
   refine Dv [6] (VldF sh30 0) (Dv [] Vm (Dv [8] (Vi sl30 0) (Dv [0] (VldA sh85 0) (Dx [1, 2, 3] [] [1, 2, 3, 0] (fun G => vb rv64) [fun G => SP.fact (True)] (fun G => xC [0, 1, 2] ca87 (fn87 ((s.Transfers.getD i_25.toNat default)) a53 k54 a55 k56 a57 k58 pre pre rv64 hg65)) (Db h66 [] Vnot (Dv [] Vpf (Dv [] Vm (Ds (Ds ?_)))))))))
   refine Ds (Ds (Ds (Ds (Ds (Ds (Ds (Ds (Dv [] Vpt (Dv [] Vm ?_)))))))))
   refine Ds (Ds (Ds (Ds (Ds (Ds (Ds (Dv [] Vpt (Dv [] Vm (Ds ?_)))))))))
   refine Ds (Ds (Ds (Ds (Ds (Ds (Ds (Ds (Dv [] Vpt ?_))))))))
   refine Dn ⟨by kernel_rfl, fun G => ?_⟩
   refine Jw2 [(1, p4), (3, vi (s.Boundary.length : Int)), (4, vi edges_24), (5, vi i_25), (92, vb true)] [0, 1, 2, 3, 4, 5, 6, 7, 8, 9] [SP.fact (True), SP.fact (True)] ?_
   refine Jk [0, 1, 2, 3, 4, 5, 6, 7, 8, 9] (Kt ?_)
   refine KS ?_
   refine Oq Va (KS ?_)
   have hR70 := q2 hM26 (.ret false) (by simp only [r10_Valid_L0, h36, h45, h51, h66, h68, hg44, hg65, cs4])
   have hq := q4 hrr false (by simp only [r10_Valid, h5, h8, h11, h14, h17, h20, h36, h45, h51, h66, h68, hg44, hg65, hR70, cs4]); subst hq
   exact Kr () rfl (.tmp rfl .nil) [] trivial
  intro h66
  have h72 := not_false h66
  refine bool_split (((s.Transfers.getD i_25.toNat default).Gen).Width != s.Width) ?_ ?_
  ·intro h74
   have g75 := ne_of_bne h74
   refine JK_drawK [0, 1, 0, 7, 15, 0, 63, 127, 255, 511, 1023, 511, 4095, 8191, 16383, 32767, 65535, 131071, 262143, 524287, 262143, 2097151, 4194303, 8388607, 16777215, 262143, 33816575, 134217727, 268435455, 536870911, 1073741823, 2147483647, 1073741823, 8589934591, 17179869183, 34359738367, 68719476735, 137438953471, 274877906943, 549755813887, 1099511627775, 549755813887, 4398046511103, 8796093022207, 17592186044415, 549755813887, 35734127902719, 140737488355327, 281474976710655] fmix ?_
   refine Dv [6] (Vfa fo32_1 0) (Dv [6] (VldF sh29 0) (Dv [] Vm (Dv [7] (Vi sl29 0) (Dv [4] (Vld sh22 0) (Dv [] Vm (Dx [5] [] [1, 0] (fun G => vb rv43) [fun G => SP.fact (True)] (fun G => xC [0] ca86 (fn86 ((s.Deps.getD i_25.toNat [])) a39 k40 ((s.Boundary.length : Int)) pre rv43 hg44)) (Db h45 [] Vnot (Dv [] Vm (Dv [6] (Vfa fo32_2 0) ?_)))))))))
   refine Dv [6] (VldF sh30 0) (Dv [] Vm (Dv [8] (Vi sl30 0) (Dv [0] (VldA sh85 0) (Dx [1, 2, 3] [] [1, 2, 3, 0] (fun G => vb rv64) [fun G => SP.fact (True)] (fun G => xC [0, 1, 2] ca87 (fn87 ((s.Transfers.getD i_25.toNat default)) a53 k54 a55 k56 a57 k58 pre pre rv64 hg65)) (Db h66 [] Vnot (Dv [] Vpf (Dv [] Vm (Dv [6] (Vfa fo32_2 0) (Dv [6] (VldF sh30 0) ?_)))))))))
   refine Dv [] Vm (Dv [8] (Vi sl30 0) (Dv [0] (Vfa fo85_0 0) (Dv [0] (VfaF fo39_0 0) (Dv [0] (VldF sh3 0) (Dv [6] (Vfa fo32_0 0) (Dv [6] (VldF sh3 0) (Db h74 [] Vneq (Dv [] Vpf (Dv [] Vm ?_)))))))))
   refine Ds (Ds (Ds (Ds (Ds (Ds (Ds (Dv [] Vpt (Dv [] Vm (Ds ?_)))))))))
   refine Ds (Ds (Ds (Ds (Ds (Ds (Ds (Ds (Dv [] Vpt ?_))))))))
   refine Dn ⟨by kernel_rfl, fun G => ?_⟩
   refine Jw2 [(1, p4), (3, vi (s.Boundary.length : Int)), (4, vi edges_24), (5, vi i_25), (92, vb true)] [0, 1, 2, 3, 4, 5, 6, 7, 8, 9] [SP.fact (True), SP.fact (True)] ?_
   refine Jk [0, 1, 2, 3, 4, 5, 6, 7, 8, 9] (Kt ?_)
   refine KS ?_
   refine Oq Va (KS ?_)
   have hR76 := q2 hM26 (.ret false) (by simp only [r10_Valid_L0, h36, h45, h51, h66, h72, h74, hg44, hg65, cs4])
   have hq := q4 hrr false (by simp only [r10_Valid, h5, h8, h11, h14, h17, h20, h36, h45, h51, h66, h72, h74, hg44, hg65, hR76, cs4]); subst hq
   exact Kr () rfl (.tmp rfl .nil) [] trivial
  intro h74
  have g77 := eq_of_bne_false h74
  refine JJ_peek_GSet i_25.toNat 9 rfl rng fun a78 k79 hb80 => ?_
  unfold i64ok at hb80
  refine Fb 8 1 fun _ => ?_
  refine JK_drawK [0, 1, 0, 7, 15, 0, 63, 127, 255, 511, 1023, 511, 4095, 8191, 16383, 32767, 65535, 131071, 262143, 524287, 262143, 2097151, 4194303, 8388607, 16777215, 262143, 33816575, 134217727, 268435455, 536870911, 1073741823, 2147483647, 1073741823, 8589934591, 17179869183, 34359738367, 68719476735, 137438953471, 274877906943, 549755813887, 1099511627775, 549755813887, 4398046511103, 8796093022207, 17592186044415, 549755813887, 35734127902719, 140737488355327, 281474976710655] fmix ?_
  refine Dv [8] (Vfa fo32_1 0) (Dv [8] (VldF sh29 0) (Dv [] Vm (Dv [9] (Vi sl29 0) (Dv [6] (Vld sh22 0) (Dv [] Vm (Dx [7] [] [1, 0] (fun G => vb rv43) [fun G => SP.fact (True)] (fun G => xC [0] ca86 (fn86 ((s.Deps.getD i_25.toNat [])) a39 k40 ((s.Boundary.length : Int)) pre rv43 hg44)) (Db h45 [] Vnot (Dv [] Vm (Dv [8] (Vfa fo32_2 0) ?_)))))))))
  refine Dv [8] (VldF sh30 0) (Dv [] Vm (Dv [10] (Vi sl30 0) (Dv [2] (VldA sh85 0) (Dx [3, 4, 5] [] [1, 2, 3, 0] (fun G => vb rv64) [fun G => SP.fact (True)] (fun G => xC [0, 1, 2] ca87 (fn87 ((s.Transfers.getD i_25.toNat default)) a53 k54 a55 k56 a57 k58 pre pre rv64 hg65)) (Db h66 [] Vnot (Dv [] Vpf (Dv [] Vm (Dv [8] (Vfa fo32_2 0) (Dv [8] (VldF sh30 0) ?_)))))))))
  refine Dv [] Vm (Dv [10] (Vi sl30 0) (Dv [2] (Vfa fo85_0 0) (Dv [2] (VfaF fo39_0 0) (Dv [2] (VldF sh3 0) (Dv [8] (Vfa fo32_0 0) (Dv [8] (VldF sh3 0) (Db h74 [] Vneq (Dv [] Vpf (Dv [] Vm ?_)))))))))
  refine Dv [8] (Vfa fo32_3 0) (Dv [8] (VldF sh24 0) (Dv [] Vm (Dv [11] (Vi sl24 0) (Dv [0] (VldA sh39 0) ?_))))
  refine letv (r1_Valid (s.Boundary.getD i_25.toNat default)) fun rv82 hg83 => ?_
  refine Dx [1] [] [1, 0] (fun G => vb rv82) [fun G => SP.fact (True)] (fun G => xC [0] ca59 (fn59 ((s.Boundary.getD i_25.toNat default)) a78 k79 pre rv82 hg83)) (Dv [] Vnot (Dv [] Vpf ?_))
  refine bool_split (!rv82) ?_ ?_
  ·intro h84
   have h86 := not_true h84
   refine Db h84 [] Vm (Ds (Ds (Ds (Ds (Ds (Ds (Ds (Ds (Ds ?_)))))))))
   refine Dv [] Vpt ?_
   refine Dn ⟨by kernel_rfl, fun G => ?_⟩
   refine Jw2 [(1, p4), (3, vi (s.Boundary.length : Int)), (4, vi edges_24), (5, vi i_25), (92, vb true)] [0, 1, 2, 3, 4, 5, 6, 7, 8, 9, 10, 11] [SP.fact (True), SP.fact (True), SP.fact (True)] ?_
   refine Jk [0, 1, 2, 3, 4, 5, 6, 7, 8, 9, 10, 11] (Kt ?_)
   refine KS ?_
   refine Oq Va (KS ?_)
   have hR88 := q2 hM26 (.ret false) (by simp only [r10_Valid_L0, h36, h45, h51, h66, h72, h74, h84, h86, hg44, hg65, hg83, cs4])
   have hq := q4 hrr false (by simp only [r10_Valid, h5, h8, h11, h14, h17, h20, h36, h45, h51, h66, h72, h74, h84, h86, hg44, hg65, hg83, hR88, cs4]); subst hq
   exact Kr () rfl (.tmp rfl .nil) [] trivial
  intro h84
  have h90 := not_false h84
  refine Db h84 [] Vm (Dv [8] (Vfa fo32_3 0) (Dv [8] (VldF sh24 0) (Dv [] Vm (Dv [11] (Vi sl24 0) (Dv [0] (Vfa fo39_0 0) (Dv [0] (VldF sh3 0) (Dv [8] (Vfa fo32_0 0) (Dv [8] (VldF sh3 0) (Dv [] Vneq ?_)))))))))
  refine Dv [] Vpf ?_
  refine Dn ⟨by kernel_rfl, fun G => ?_⟩
  refine Jw2 [(1, p4), (3, vi (s.Boundary.length : Int)), (4, vi edges_24), (5, vi i_25), (92, vb ((s.Boundary.getD i_25.toNat default).Width != s.Width))] [0, 1, 2, 3, 4, 5, 6, 7, 8, 9, 10, 11] [SP.fact (True), SP.fact (True), SP.fact (True)] ?_
  refine Jk [0, 1, 2, 3, 4, 5, 6, 7, 8, 9, 10, 11] ?_
  refine Kc ?_ ?_
  ·intro h92
   have g93 := ne_of_bne h92
   refine KS ?_
   refine Oq Va (KS ?_)
   have hR94 := q2 hM26 (.ret false) (by simp only [r10_Valid_L0, h36, h45, h51, h66, h72, h74, h84, h90, h92, hg44, hg65, hg83, cs4])
   have hq := q4 hrr false (by simp only [r10_Valid, h5, h8, h11, h14, h17, h20, h36, h45, h51, h66, h72, h74, h84, h90, h92, hg44, hg65, hg83, hR94, cs4]); subst hq
   exact Kr () rfl (.tmp rfl .nil) [] trivial
  intro h92
  have g95 := eq_of_bne_false h92
  refine KS ?_
  refine Oq Vm (Oq (Vfa fo32_1 8) (Oq (VldF sh29 8) (Oq Vm (Oq (Vi sl29 9) (Oq (Vld sh22 6) (Oq (Vlen sl22) (Oq Vadd (Oq Va (KS ?_)))))))))
  refine Oq Vm (Oq Vadd (Oq Va (KS ?_)))
  exact Kg (r38, (edges_24 + ((s.Deps.getD i_25.toNat []).length : Int)), (i_25 + 1)) [8, 9, 10, 11] ⟨(q3 hM26 (by simp only [r10_Valid_L0, h36, h45, h51, h66, h72, h74, h84, h90, h92, hg44, hg65, hg83, cs4])), aM1, aM1, aM1, aM1, aM1, iv1⟩
 intro h36
 have g96 := df h36
 obtain rfl : r23 = 0 := by omega
 refine Ke ?_
 have hR97 := q2 hM26 (.brk edges_24) (by simp only [r10_Valid_L0, h36, cs4])
 refine KS ?_
 refine Oq Vm (Oq Vleq (Oq Va (KS ?_)))
 have hq := q4 hrr (decide (edges_24 ≤ 1024)) (by simp only [r10_Valid, h5, h8, h11, h14, h17, h20, h36, hR97, cs4]); subst hq
 exact Kr () rfl (.tmp rfl .nil) [] trivial
theorem fn51 (s : GSystem) (sa1 : Option Addr) (sk1 : Nat) (sa2 : Option Addr) (sk2 : Nat) (sa3 : Option Addr) (sk3 : Nat) (hs_0 : i64ok s.Width) (hw0 : 0 ≤ s.Width ∧ s.Width ≤ 1000) (rr : List GSet) (hrr : r10_Empty s = rr) : FT Tryz.prog 51 #[.agg #[vi s.Width, vl sa1 sk1 s.Deps, vl sa2 sk2 s.Transfers, vl sa3 sk3 s.Boundary]] [S sa1 sk1 s.Deps, S sa2 sk2 s.Transfers, S sa3 sk3 s.Boundary] (fun g : Value => (rr.length = s.Boundary.length)) (fun g => g) (fun g => [sl g rr]) := by
 refine FTi Tryz.func51 fun w0 M0 F0 => ?_
 unfold i64ok at hs_0
 refine Fb 24 0 fun _ => Fb 88 1 fun _ => Fb 32 2 fun _ => KS ?_
 refine Oa (Ab [vi s.Width, vl sa1 sk1 s.Deps, vl sa2 sk2 s.Transfers, vl sa3 sk3 s.Boundary]) fun p4 => Oq Va (KS ?_)
 refine Oq Va (KS ?_)
 refine Oq Va (KS ?_)
 refine Jl [] (Ent.osNil (α := GSet)) ?_
 refine Kl (γ := Nat × List GSet × Int × Option Addr × Nat) (fun (r5, out_6, n_7, a8, k9) => ⟨[(1, p4), (3, vl a8 k9 out_6), (4, vi n_7)], [O a8 k9 out_6, pv p4 [vi s.Width, vl sa1 sk1 s.Deps, vl sa2 sk2 s.Transfers, vl sa3 sk3 s.Boundary], S sa1 sk1 s.Deps, S sa2 sk2 s.Transfers, S sa3 sk3 s.Boundary], r10_Empty_L0 s r5 out_6 n_7 = r10_Empty_L0 s (((s.Boundary.length : Int) - 0).toNat) [] 0 ∧ r5 = ((s.Boundary.length : Int) - n_7).toNat ∧ (0 : Int) ≤ n_7 ∧ n_7 ≤ (s.Boundary.length : Int) ∧ (-9223372036854775808 ≤ n_7 ∧ n_7 ≤ 9223372036854775807) ∧ (out_6.length : Int) = n_7, r5⟩) (((s.Boundary.length : Int) - 0).toNat, [], 0, none, 0) [0, 0, 1, 2, 3] ⟨rfl, rfl, aM1, aM1, aM1, iv0⟩ ?_
 rintro ⟨r5, out_6, n_7, a8, k9⟩ ⟨hM10, hr11, hi12, hi13, hk14, hv15⟩
 refine JJ_nx fun _ _ hL hA => ?_; dsimp only at hL hA; subst hL hA
 refine Fb 32 0 fun _ => Fb 24 2 fun _ => Fb 88 3 fun _ => Fb 32 4 fun _ => KS ?_
 refine Oq Vm (Oq (Vfa fo32_3 1) (Oq (VldF sh24 1) (Oq (Vlen sl24) (Oq Vlss (KS ?_)))))
 refine Kc ?_ ?_
 ·intro h20
  have g21 := dt h20
  obtain ⟨r22, rfl⟩ := scc (n := r5) aM1
  refine KS ?_
  refine Oq Vm (Oq (Vfa fo32_0 1) (Oq (VldF sh3 1) ?_))
  refine letv (r1_Empty s.Width) fun rv24 hg25 => ?_
  have hc26 := fn41 s.Width pre pre rv24 hg25
  refine Oc [] ca41 hc26 ?_
  rintro c23 ⟨he27, he28, he29⟩
  unfold i64ok at he27
  refine Jo 0 ?_; rintro a30 k31 rfl
  refine Fb 8 0 fun _ => Oa (AsV sl24 sz24 [.agg #[vi rv24.Width, vl a30 k31 rv24.Words]] [vi rv24.Width, vl a30 k31 rv24.Words]) fun c33 => ?_
  refine Jo 0 ?_; rintro a34 k35 rfl
  refine Jl [1] (Ent.freeze _ _) ?_
  refine Jl [1, 0] (Ent.cr1 (α := GSet) (A := [S a30 k31 rv24.Words]) _ rv24 _ aB1 (fun h => ⟨_, rfl, aL1, sepAll_get (i := 0) rfl h⟩)) ?_
  refine Oa (ApO [3, 0] sl24 sl24 sz24) fun c36 => ?_
  refine Jo 0 ?_; rintro a37 k38 rfl
  refine Fb 32 0 fun _ => ?_
  have hn40 := la out_6 ([rv24] : List GSet)
  refine Oq Va (KS ?_)
  refine Oq Vm (Oq Vadd (Oq Va (KS ?_)))
  exact Kg (r22, (out_6 ++ [rv24]), (n_7 + 1), a37, k38) [0, 2, 3, 4, 5] ⟨(q3 hM10 (by simp only [r10_Empty_L0, h20, hg25, cs4])), aM1, aM1, aM1, aM1, iv1⟩
 intro h20
 have g41 := df h20
 obtain rfl : r5 = 0 := by omega
 refine Ke ?_
 have hR42 := q2 hM10 out_6 (by simp only [r10_Empty_L0, h20, cs4])
 refine KS ?_
 refine Oq Vm (Oq Va (KS ?_))
 refine Jl [0] (Ent.freeze _ _) ?_
 have hq := q4 hrr out_6 (by simp only [r10_Empty, h20, hR42, cs4]); subst hq
 exact Kr (vl a8 k9 out_6) rfl (.tmp rfl .nil) [0] en
theorem fn130 (s : GSystem) (sa1 : Option Addr) (sk1 : Nat) (sa2 : Option Addr) (sk2 : Nat) (sa3 : Option Addr) (sk3 : Nat) (v : List GSet) (va0 : Option Addr) (vk0 : Nat) (hs_0 : i64ok s.Width) (rr : Int) (hrr : r10_values s v = rr) : FT Tryz.prog 130 #[.agg #[vi s.Width, vl sa1 sk1 s.Deps, vl sa2 sk2 s.Transfers, vl sa3 sk3 s.Boundary], vl va0 vk0 v] [S sa1 sk1 s.Deps, S sa2 sk2 s.Transfers, S sa3 sk3 s.Boundary, S va0 vk0 v] (fun g : Unit => i64ok rr) (fun g => vi rr) (fun g => []) := by
 refine FTi Tryz.func130 fun w0 M0 F0 => ?_
 unfold i64ok at hs_0
 refine Fb 24 0 fun _ => Fb 88 1 fun _ => Fb 32 2 fun _ => Fb 32 3 fun _ => KS ?_
 refine Oa (Ab [vi s.Width, vl sa1 sk1 s.Deps, vl sa2 sk2 s.Transfers, vl sa3 sk3 s.Boundary]) fun p5 => Oq Va (KS ?_)
 refine Oq Vm (Oq (Vlen sl24) (Oq (Vfa fo32_3 0) (Oq (VldF sh24 0) (Oq (Vlen sl24) (Oq Vneq (KS ?_))))))
 refine Kc ?_ ?_
 ·intro h6
  have g7 := ne_of_bne h6
  refine KS ?_
  refine Oq Va (KS ?_)
  have hq := q4 hrr 1 (by simp only [r10_values, h6, cs4]); subst hq
  exact Kr () rfl (.tmp rfl .nil) [] en
 intro h6
 have g8 := eq_of_bne_false h6
 refine KS ?_
 refine Oq Va (KS ?_)
 refine Kl (γ := Nat × Int) (fun (r9, i_10) => ⟨[(1, vl va0 vk0 v), (2, p5), (5, vi i_10)], [pv p5 [vi s.Width, vl sa1 sk1 s.Deps, vl sa2 sk2 s.Transfers, vl sa3 sk3 s.Boundary], S sa1 sk1 s.Deps, S sa2 sk2 s.Transfers, S sa3 sk3 s.Boundary, S va0 vk0 v], r10_values_L0 v r9 i_10 = r10_values_L0 v (((v.length : Int) - 0).toNat) 0 ∧ r9 = ((v.length : Int) - i_10).toNat ∧ (0 : Int) ≤ i_10 ∧ i_10 ≤ (v.length : Int) ∧ (-9223372036854775808 ≤ i_10 ∧ i_10 ≤ 9223372036854775807), r9⟩) (((v.length : Int) - 0).toNat, 0) [0, 1, 2, 3, 4] ⟨rfl, rfl, aM1, aM1, aM1⟩ ?_
 rintro ⟨r9, i_10⟩ ⟨hM11, hr12, hi13, hi14, hk15⟩
 refine JJ_nx fun _ _ hL hA => ?_; dsimp only at hL hA; subst hL hA
 refine Fb 24 1 fun _ => Fb 88 2 fun _ => Fb 32 3 fun _ => Fb 32 4 fun _ => KS ?_
 refine Oq Vm (Oq Vm (Oq (Vlen sl24) (Oq Vlss (KS ?_))))
 refine Kc ?_ ?_
 ·intro h20
  have g21 := dt h20
  obtain ⟨r22, rfl⟩ := scc (n := r9) aM1
  refine KS ?_
  refine Oq Vm (Oq Vm (Oq (Vi sl24 4) ?_))
  refine JJ_peek_GSet i_10.toNat 4 rfl rng fun a23 k24 hb25 => ?_
  unfold i64ok at hb25
  refine Fb 8 1 fun _ => Oq (VldA sh39 0) ?_
  refine letv (r1_Valid (v.getD i_10.toNat default)) fun rv27 hg28 => ?_
  have hc29 := fn59 ((v.getD i_10.toNat default)) a23 k24 pre rv27 hg28
  refine Oc [1] ca59 hc29 ?_
  rintro - -
  refine Oq Vnot (KS ?_)
  refine Kc ?_ ?_
  ·intro h30
   have h32 := not_true h30
   refine KS ?_
   refine Oq Va (KS ?_)
   have hR34 := q2 hM11 (.ret 1) (by simp only [r10_values_L0, h20, h30, h32, hg28, cs4])
   have hq := q4 hrr 1 (by simp only [r10_values, h6, h20, h30, h32, hg28, hR34, cs4]); subst hq
   exact Kr () rfl (.tmp rfl .nil) [] en
  intro h30
  have h36 := not_false h30
  refine KS ?_
  refine Oq Vm (Oq Vadd (Oq Va (KS ?_)))
  exact Kg (r22, (i_10 + 1)) [2, 3, 4, 5, 6] ⟨(q3 hM11 (by simp only [r10_values_L0, h20, h30, h36, hg28, cs4])), aM1, aM1, aM1, aM1⟩
 intro h20
 have g38 := df h20
 obtain rfl : r9 = 0 := by omega
 refine Ke ?_
 have hR39 := q2 hM11 (.brk ()) (by simp only [r10_values_L0, h20, cs4])
 refine KS ?_
 refine Oq Va (KS ?_)
 refine Kl (γ := Nat × Int) (fun (r40, i_41) => ⟨[(1, vl va0 vk0 v), (2, p5), (6, vi i_41)], [pv p5 [vi s.Width, vl sa1 sk1 s.Deps, vl sa2 sk2 s.Transfers, vl sa3 sk3 s.Boundary], S sa1 sk1 s.Deps, S sa2 sk2 s.Transfers, S sa3 sk3 s.Boundary, S va0 vk0 v], r10_values_L1 s v r40 i_41 = r10_values_L1 s v (((v.length : Int) - 0).toNat) 0 ∧ r40 = ((v.length : Int) - i_41).toNat ∧ (0 : Int) ≤ i_41 ∧ i_41 ≤ (v.length : Int) ∧ (-9223372036854775808 ≤ i_41 ∧ i_41 ≤ 9223372036854775807), r40⟩) (((v.length : Int) - 0).toNat, 0) [0, 1, 2, 3, 4] ⟨rfl, rfl, aM1, aM1, aM1⟩ ?_
 rintro ⟨r40, i_41⟩ ⟨hM42, hr43, hi44, hi45, hk46⟩
 refine JJ_nx fun _ _ hL hA => ?_; dsimp only at hL hA; subst hL hA
 refine Fb 24 1 fun _ => Fb 88 2 fun _ => Fb 32 3 fun _ => Fb 32 4 fun _ => KS ?_
 refine Oq Vm (Oq Vm (Oq (Vlen sl24) (Oq Vlss (KS ?_))))
 refine Kc ?_ ?_
 ·intro h51
  have g52 := dt h51
  obtain ⟨r53, rfl⟩ := scc (n := r40) aM1
  refine KS ?_
  refine JJ_peek_GSet i_41.toNat 4 rfl rng fun a54 k55 hb56 => ?_
  unfold i64ok at hb56
  refine Fb 8 1 fun _ => ?_
  refine Kq [0, 0, 3, 7, 15, 0, 32, 127] fmix ?_
  refine Qv [] Vm (Qv [] Vm (Qv [6] (Vi sl24 0) (Qv [0] (Vfa fo39_0 0) (Qv [0] (VldF sh3 0) (Qv [2] (Vfa fo32_0 0) (Qv [2] (VldF sh3 0) (Qv [] Vneq ?_)))))))
  refine Qn ⟨by kernel_rfl, ?_⟩
  refine Kc ?_ ?_
  ·intro h58
   have g59 := ne_of_bne h58
   refine KS ?_
   refine Oq Va (KS ?_)
   have hR60 := q2 hM42 (.ret 2) (by simp only [r10_values_L1, h51, h58, cs4])
   have hq := q4 hrr 2 (by simp only [r10_values, h6, h20, h51, h58, hR39, hR60, cs4]); subst hq
   exact Kr () rfl (.tmp rfl .nil) [] en
  intro h58
  have g61 := eq_of_bne_false h58
  refine KS ?_
  refine Oq Vm (Oq Vadd (Oq Va (KS ?_)))
  exact Kg (r53, (i_41 + 1)) [2, 3, 4, 5, 6] ⟨(q3 hM42 (by simp only [r10_values_L1, h51, h58, cs4])), aM1, aM1, aM1, aM1⟩
 intro h51
 have g62 := df h51
 obtain rfl : r40 = 0 := by omega
 refine Ke ?_
 have hR63 := q2 hM42 (.brk ()) (by simp only [r10_values_L1, h51, cs4])
 refine KS ?_
 refine Oq Va (KS ?_)
 have hq := q4 hrr 0 (by simp only [r10_values, h6, h20, h51, hR39, hR63, cs4]); subst hq
 exact Kr () rfl (.tmp rfl .nil) [] en
theorem fn142 (s : GSet) (sa1 : Option Addr) (sk1 : Nat) (b : Int) (hs_0 : i64ok s.Width) (hb_0 : i64ok b) (rr : Bool) (hrr : r1_Has s b = rr) : FT Tryz.prog 142 #[.agg #[vi s.Width, vl sa1 sk1 s.Words], vi b] [S sa1 sk1 s.Words] (fun g : Unit => True) (fun g => vb rr) (fun g => []) := by
 refine FTi Tryz.func142 fun w0 M0 F0 => ?_
 unfold i64ok at hs_0 hb_0
 refine Fb 8 0 fun _ => KS ?_
 refine Oa (Ab [vi s.Width, vl sa1 sk1 s.Words]) fun p2 => Oq Va (KS ?_)
 refine Oq (VldA sh39 0) ?_
 refine letv (r1_Valid s) fun rv3 hg4 => ?_
 have hc5 := fn59 s sa1 sk1 pre rv3 hg4
 refine Oc [1] ca59 hc5 ?_
 rintro - -
 refine Oq Vm ?_
 refine Js 7 ?_ ?_
 ·intro h6
  try have hrg := RV_w (s := s) (by simp only [h6, hg4])
  refine Oq Vm (Oq Vgeq (Oq Vpt (Oq Vm ?_)))
  refine Js 11 ?_ ?_
  ·intro h8
   have g9 := dt h8
   refine Oq Vm (Oq (Vfa fo39_0 0) (Oq (VldF sh3 0) (Oq Vlss (Oq Vpt (Oq Vm ?_)))))
   refine Js 17 ?_ ?_
   ·intro h10
    have g11 := dt h10
    refine Oq (Vfa fo39_1 0) (Oq (VldF sh37 0) (Oq Vm (Oq Vquo (Oq (Vi sl37 1) (Oq (VldU sh68 1) (Oq Vm (Oq Vrem (Oq (VcU un3 un69) (Oq VshrU ?_)))))))))
    refine Oq (VandU (b := 1#64)) (Oq (VeqlU (b := 1#64)) (Oq Vpt (Oq Va (KS ?_))))
    have hq := q4 hrr ((((s.Words.getD ((b / 64) : Int).toNat 0#64) >>> (((BitVec.ofInt 64 (b % 64)).toNat : Int)).toNat) &&& 1#64) == 1#64) (by simp only [r1_Has, h6, h8, h10, hg4, cs4]); subst hq
    exact Kr () rfl (.tmp rfl .nil) [] trivial
   intro h10
   have g12 := df h10
   refine Osk (Osk (Osk (Osk (Osk (Osk (Osk (Osk (Osk (Osk ?_)))))))))
   refine Osk (Osk (Oq Vpf (Oq Va (KS ?_))))
   have hq := q4 hrr false (by simp only [r1_Has, h6, h8, h10, hg4, cs4]); subst hq
   exact Kr () rfl (.tmp rfl .nil) [] trivial
  intro h8
  have g13 := df h8
  refine Osk (Osk (Osk (Osk (Oq Vpf (Oq Vm (Osk (Osk (Osk (Osk ?_)))))))))
  refine Osk (Osk (Osk (Osk (Osk (Osk (Osk (Osk (Oq Vpf (Oq Va ?_)))))))))
  refine KS ?_
  have hq := q4 hrr false (by simp only [r1_Has, h6, h8, hg4, cs4]); subst hq
  exact Kr () rfl (.tmp rfl .nil) [] trivial
 intro h6
 refine Osk (Osk (Oq Vpf (Oq Vm (Osk (Osk (Osk (Osk (Oq Vpf (Oq Vm ?_)))))))))
 refine Osk (Osk (Osk (Osk (Osk (Osk (Osk (Osk (Osk (Osk ?_)))))))))
 refine Osk (Osk (Oq Vpf (Oq Va (KS ?_))))
 have hq := q4 hrr false (by simp only [r1_Has, h6, hg4, cs4]); subst hq
 exact Kr () rfl (.tmp rfl .nil) [] trivial
theorem fn167 (t : GTransfer) (ta1 : Option Addr) (tk1 : Nat) (ta3 : Option Addr) (tk3 : Nat) (ta4 : Option Addr) (tk4 : Nat) (a : Int) (b : Int) (ht_0 : i64ok t.Gen.Width) (ht_2 : i64ok t.Kill.Width) (ha_0 : i64ok a) (hb_0 : i64ok b) (rr : Bool) (hrr : r1_follows t a b = rr) : FT Tryz.prog 167 #[.agg #[vi t.Gen.Width, vl ta1 tk1 t.Gen.Words, vi t.Kill.Width, vl ta3 tk3 t.Kill.Words, vl ta4 tk4 t.Copies], vi a, vi b] [S ta1 tk1 t.Gen.Words, S ta3 tk3 t.Kill.Words, S ta4 tk4 t.Copies] (fun g : Unit => True) (fun g => vb rr) (fun g => []) := by
 refine FTi Tryz.func167 fun w0 M0 F0 => ?_
 unfold i64ok at ht_0 ht_2 ha_0 hb_0
 refine Fb 8 0 fun _ => Fb 8 1 fun _ => Fb 16 2 fun _ => KS ?_
 refine Oa (Ab [vi t.Gen.Width, vl ta1 tk1 t.Gen.Words, vi t.Kill.Width, vl ta3 tk3 t.Kill.Words, vl ta4 tk4 t.Copies]) fun p4 => Oq Va (KS ?_)
 refine Oq Vm (Oq Vm (Oq Veql (Oq Vm ?_)))
 refine Js 11 ?_ ?_
 ·intro h5
  have g6 := eq_of_beq h5
  refine Oq (Vfa fo85_1 0) (Oq (VldG sh39 0 [vi t.Kill.Width, vl ta3 tk3 t.Kill.Words]) (Oq Vm ?_))
  refine letv (r1_Has t.Kill a) fun rv7 hg8 => ?_
  have hc9 := fn142 t.Kill ta3 tk3 a pre pre rv7 hg8
  refine Oc [2] ca142 hc9 ?_
  rintro - -
  refine Oq Vnot (Oq Vpt (KS ?_))
  refine Kc ?_ ?_
  ·intro h10
   have h12 := not_true h10
   refine KS ?_
   refine Oq Va (KS ?_)
   have hq := q4 hrr true (by simp only [r1_follows, h5, h10, h12, hg8, cs4]); subst hq
   exact Kr () rfl (.tmp rfl .nil) [] trivial
  intro h10
  have h15 := not_false h10
  refine KS ?_
  refine Oq Va (KS ?_)
  refine Kl (γ := Nat × Int) (fun (r17, i_18) => ⟨[(1, vi a), (2, vi b), (3, p4), (7, vi i_18)], [pv p4 [vi t.Gen.Width, vl ta1 tk1 t.Gen.Words, vi t.Kill.Width, vl ta3 tk3 t.Kill.Words, vl ta4 tk4 t.Copies], S ta1 tk1 t.Gen.Words, S ta3 tk3 t.Kill.Words, S ta4 tk4 t.Copies], r1_follows_L0 t a b r17 i_18 = r1_follows_L0 t a b (((t.Copies.length : Int) - 0).toNat) 0 ∧ r17 = ((t.Copies.length : Int) - i_18).toNat ∧ (0 : Int) ≤ i_18 ∧ i_18 ≤ (t.Copies.length : Int) ∧ (-9223372036854775808 ≤ i_18 ∧ i_18 ≤ 9223372036854775807), r17⟩) (((t.Copies.length : Int) - 0).toNat, 0) [0, 1, 2, 3] ⟨rfl, rfl, aM1, aM1, aM1⟩ ?_
  rintro ⟨r17, i_18⟩ ⟨hM19, hr20, hi21, hi22, hk23⟩
  refine JJ_nx fun _ _ hL hA => ?_; dsimp only at hL hA; subst hL hA
  refine Fb 8 1 fun _ => Fb 8 2 fun _ => Fb 16 3 fun _ => KS ?_
  refine Oq Vm (Oq (Vfa fo85_2 0) (Oq (VldF sh83 0) (Oq (Vlen sl83) (Oq Vlss (KS ?_)))))
  refine Kc ?_ ?_
  ·intro h27
   have g28 := dt h27
   obtain ⟨r29, rfl⟩ := scc (n := r17) aM1
   refine KS ?_
   refine Oq (Vfa fo85_2 0) (Oq (VldF sh83 0) (Oq Vm (Oq (Vi sl83 3) ?_)))
   refine JJ_peek_GCopy i_18.toNat 3 rfl rng fun hb30 hb31 => ?_
   unfold i64ok at hb30 hb31
   refine Oq (Vfa fo108_0 0) (Oq (VldF sh3 0) (Oq Vm (Oq Veql (Oq Vm ?_))))
   refine Js 33 ?_ ?_
   ·intro h32
    have g33 := eq_of_beq h32
    refine Oq (Vfa fo85_2 1) (Oq (VldF sh83 1) (Oq Vm (Oq (Vi sl83 4) (Oq (Vfa fo108_1 0) (Oq (VldF sh3 0) (Oq Vm (Oq Veql (Oq Vpt (KS ?_)))))))))
    refine Kc ?_ ?_
    ·intro h34
     have g35 := eq_of_beq h34
     refine KS ?_
     refine Oq Va (KS ?_)
     have hR36 := q2 hM19 (.ret true) (by simp only [r1_follows_L0, h27, h32, h34, cs4])
     have hq := q4 hrr true (by simp only [r1_follows, h5, h10, h15, h27, h32, h34, hg8, hR36, cs4]); subst hq
     exact Kr () rfl (.tmp rfl .nil) [] trivial
    intro h34
    have g37 := ne_of_beq_false h34
    refine KS ?_
    refine Oq Vm (Oq Vadd (Oq Va (KS ?_)))
    exact Kg (r29, (i_18 + 1)) [1, 2, 3, 4] ⟨(q3 hM19 (by simp only [r1_follows_L0, h27, h32, h34, cs4])), aM1, aM1, aM1, aM1⟩
   intro h32
   have g38 := ne_of_beq_false h32
   refine Osk (Osk (Osk (Osk (Osk (Osk (Osk (Osk (Oq Vpf (KS ?_)))))))))
   refine Kf (KS ?_)
   refine Oq Vm (Oq Vadd (Oq Va (KS ?_)))
   exact Kg (r29, (i_18 + 1)) [1, 2, 3, 4] ⟨(q3 hM19 (by simp only [r1_follows_L0, h27, h32, cs4])), aM1, aM1, aM1, aM1⟩
  intro h27
  have g39 := df h27
  obtain rfl : r17 = 0 := by omega
  refine Ke ?_
  have hR40 := q2 hM19 (.brk ()) (by simp only [r1_follows_L0, h27, cs4])
  refine KS ?_
  refine Oq Va (KS ?_)
  have hq := q4 hrr false (by simp only [r1_follows, h5, h10, h15, h27, hg8, hR40, cs4]); subst hq
  exact Kr () rfl (.tmp rfl .nil) [] trivial
 intro h5
 have g41 := ne_of_beq_false h5
 refine Osk (Osk (Osk (Osk (Osk (Oq Vpf (KS ?_))))))
 refine Kf (KS ?_)
 refine Oq Va (KS ?_)
 refine Kl (γ := Nat × Int) (fun (r42, i_43) => ⟨[(1, vi a), (2, vi b), (3, p4), (7, vi i_43)], [pv p4 [vi t.Gen.Width, vl ta1 tk1 t.Gen.Words, vi t.Kill.Width, vl ta3 tk3 t.Kill.Words, vl ta4 tk4 t.Copies], S ta1 tk1 t.Gen.Words, S ta3 tk3 t.Kill.Words, S ta4 tk4 t.Copies], r1_follows_L0 t a b r42 i_43 = r1_follows_L0 t a b (((t.Copies.length : Int) - 0).toNat) 0 ∧ r42 = ((t.Copies.length : Int) - i_43).toNat ∧ (0 : Int) ≤ i_43 ∧ i_43 ≤ (t.Copies.length : Int) ∧ (-9223372036854775808 ≤ i_43 ∧ i_43 ≤ 9223372036854775807), r42⟩) (((t.Copies.length : Int) - 0).toNat, 0) [0, 1, 2, 3] ⟨rfl, rfl, aM1, aM1, aM1⟩ ?_
 rintro ⟨r42, i_43⟩ ⟨hM44, hr45, hi46, hi47, hk48⟩
 refine JJ_nx fun _ _ hL hA => ?_; dsimp only at hL hA; subst hL hA
 refine Fb 8 1 fun _ => Fb 8 2 fun _ => Fb 16 3 fun _ => KS ?_
 refine Oq Vm (Oq (Vfa fo85_2 0) (Oq (VldF sh83 0) (Oq (Vlen sl83) (Oq Vlss (KS ?_)))))
 refine Kc ?_ ?_
 ·intro h52
  have g53 := dt h52
  obtain ⟨r54, rfl⟩ := scc (n := r42) aM1
  refine KS ?_
  refine Oq (Vfa fo85_2 0) (Oq (VldF sh83 0) (Oq Vm (Oq (Vi sl83 3) ?_)))
  refine JJ_peek_GCopy i_43.toNat 3 rfl rng fun hb55 hb56 => ?_
  unfold i64ok at hb55 hb56
  refine Oq (Vfa fo108_0 0) (Oq (VldF sh3 0) (Oq Vm (Oq Veql (Oq Vm ?_))))
  refine Js 33 ?_ ?_
  ·intro h57
   have g58 := eq_of_beq h57
   refine Oq (Vfa fo85_2 1) (Oq (VldF sh83 1) (Oq Vm (Oq (Vi sl83 4) (Oq (Vfa fo108_1 0) (Oq (VldF sh3 0) (Oq Vm (Oq Veql (Oq Vpt (KS ?_)))))))))
   refine Kc ?_ ?_
   ·intro h59
    have g60 := eq_of_beq h59
    refine KS ?_
    refine Oq Va (KS ?_)
    have hR61 := q2 hM44 (.ret true) (by simp only [r1_follows_L0, h52, h57, h59, cs4])
    have hq := q4 hrr true (by simp only [r1_follows, h5, h52, h57, h59, hR61, cs4]); subst hq
    exact Kr () rfl (.tmp rfl .nil) [] trivial
   intro h59
   have g62 := ne_of_beq_false h59
   refine KS ?_
   refine Oq Vm (Oq Vadd (Oq Va (KS ?_)))
   exact Kg (r54, (i_43 + 1)) [1, 2, 3, 4] ⟨(q3 hM44 (by simp only [r1_follows_L0, h52, h57, h59, cs4])), aM1, aM1, aM1, aM1⟩
  intro h57
  have g63 := ne_of_beq_false h57
  refine Osk (Osk (Osk (Osk (Osk (Osk (Osk (Osk (Oq Vpf (KS ?_)))))))))
  refine Kf (KS ?_)
  refine Oq Vm (Oq Vadd (Oq Va (KS ?_)))
  exact Kg (r54, (i_43 + 1)) [1, 2, 3, 4] ⟨(q3 hM44 (by simp only [r1_follows_L0, h52, h57, cs4])), aM1, aM1, aM1, aM1⟩
 intro h52
 have g64 := df h52
 obtain rfl : r42 = 0 := by omega
 refine Ke ?_
 have hR65 := q2 hM44 (.brk ()) (by simp only [r1_follows_L0, h52, cs4])
 refine KS ?_
 refine Oq Va (KS ?_)
 have hq := q4 hrr false (by simp only [r1_follows, h5, h52, hR65, cs4]); subst hq
 exact Kr () rfl (.tmp rfl .nil) [] trivial
theorem fn137 (t : GTransfer) (ta1 : Option Addr) (tk1 : Nat) (ta3 : Option Addr) (tk3 : Nat) (ta4 : Option Addr) (tk4 : Nat) (s : GSet) (sa1 : Option Addr) (sk1 : Nat) (ht_0 : i64ok t.Gen.Width) (ht_2 : i64ok t.Kill.Width) (hs_0 : i64ok s.Width) (ht : r1_ValidTransfer t = true) (hw : t.Gen.Width = s.Width) (rr : GSet) (hrr : r1_value t s = rr) : FT Tryz.prog 137 #[.agg #[vi t.Gen.Width, vl ta1 tk1 t.Gen.Words, vi t.Kill.Width, vl ta3 tk3 t.Kill.Words, vl ta4 tk4 t.Copies], .agg #[vi s.Width, vl sa1 sk1 s.Words]] [S ta1 tk1 t.Gen.Words, S ta3 tk3 t.Kill.Words, S ta4 tk4 t.Copies, S sa1 sk1 s.Words] (fun g : Value => i64ok rr.Width) (fun g => .agg #[vi rr.Width, g]) (fun g => [sl g rr.Words]) := by
 refine FTi Tryz.func137 fun w0 M0 F0 => ?_
 unfold i64ok at ht_0 ht_2 hs_0
 refine Fb 8 0 fun _ => Fb 8 1 fun _ => Fb 16 2 fun _ => Fb 8 3 fun _ => ?_
 have hvt := VT_w ht
 refine KS ?_
 refine Oa (Ab [vi t.Gen.Width, vl ta1 tk1 t.Gen.Words, vi t.Kill.Width, vl ta3 tk3 t.Kill.Words, vl ta4 tk4 t.Copies]) fun p5 => Oa (Ab [vi s.Width, vl sa1 sk1 s.Words]) fun p6 => Oa (Al ze39 [vi 0, .slice none 0 0]) fun p7 => KS ?_
 refine Oq (Vfa fo85_0 2) (Oq (VldG sh39 2 [vi t.Gen.Width, vl ta1 tk1 t.Gen.Words]) (Oa (Al ze39 [vi 0, .slice none 0 0]) fun p8 => Ost (Scl [0] sh39 [vi t.Gen.Width, vl ta1 tk1 t.Gen.Words]) (KS ?_)))
 refine Oq Va (KS ?_)
 refine Kl (γ := Nat × Int × List (BitVec 64) × Int × Option Addr × Nat) (fun (r9, out0_10, out1_11, a_12, a13, k14) => ⟨[(2, p5), (3, p6), (4, p7), (5, p8), (6, vi a_12)], [S a13 k14 out1_11, Cl p8 [vi out0_10, vl a13 k14 out1_11], Cl p7 [vi 0, .slice none 0 0], pv p6 [vi s.Width, vl sa1 sk1 s.Words], pv p5 [vi t.Gen.Width, vl ta1 tk1 t.Gen.Words, vi t.Kill.Width, vl ta3 tk3 t.Kill.Words, vl ta4 tk4 t.Copies], S ta1 tk1 t.Gen.Words, S ta3 tk3 t.Kill.Words, S ta4 tk4 t.Copies, S sa1 sk1 s.Words], r1_value_L0 t s r9 out0_10 out1_11 a_12 = r1_value_L0 t s (((s.Width : Int) - 0).toNat) t.Gen.Width t.Gen.Words 0 ∧ r9 = ((s.Width : Int) - a_12).toNat ∧ (0 : Int) ≤ a_12 ∧ (a_12 ≤ s.Width ∨ a_12 = 0) ∧ (-9223372036854775808 ≤ out0_10 ∧ out0_10 ≤ 9223372036854775807) ∧ (-9223372036854775808 ≤ a_12 ∧ a_12 ≤ 9223372036854775807) ∧ out0_10 = s.Width ∧ out1_11.length = ((s.Width + 63) / 64).toNat, r9⟩) (((s.Width : Int) - 0).toNat, t.Gen.Width, t.Gen.Words, 0, ta1, tk1) [4, 0, 0, 0, 1, 2, 3, 4, 5] ⟨rfl, rfl, aM1, (.inr rfl), aM1, aM1, iv0, iv0⟩ ?_
 rintro ⟨r9, out0_10, out1_11, a_12, a13, k14⟩ ⟨hM15, hr16, hi17, hi18, hk19, hk20, hv21, hv22⟩
 refine JJ_nx fun _ _ hL hA => ?_; dsimp only at hL hA; subst hL hA
 refine Fb 8 0 fun _ => Fb 8 5 fun _ => Fb 8 6 fun _ => Fb 16 7 fun _ => Fb 8 8 fun _ => KS ?_
 refine Oq Vm (Oq (Vfa fo39_0 3) (Oq (VldF sh3 3) (Oq Vlss (KS ?_))))
 refine Kc ?_ ?_
 ·intro h28
  have g29 := dt h28
  obtain ⟨r30, rfl⟩ := scc (n := r9) aM1
  refine KS ?_
  refine Oq Va (KS ?_)
  have hterm43 : r1_value_L1 t s a_12 (s.Width.toNat + 1) out0_10 out1_11 0 ≠ LR.oof := value_L1_term _ _ _ _ _ _ _ aM1 aM1
  refine Kl (γ := Nat × Int × List (BitVec 64) × Int × Option Addr × Nat) (fun (r31, out0_32, out1_33, b_34, a35, k36) => ⟨[(2, p5), (3, p6), (4, p7), (5, p8), (6, vi a_12), (7, vi b_34)], [S a35 k36 out1_33, Cl p8 [vi out0_32, vl a35 k36 out1_33], Cl p7 [vi 0, .slice none 0 0], pv p6 [vi s.Width, vl sa1 sk1 s.Words], pv p5 [vi t.Gen.Width, vl ta1 tk1 t.Gen.Words, vi t.Kill.Width, vl ta3 tk3 t.Kill.Words, vl ta4 tk4 t.Copies], S ta1 tk1 t.Gen.Words, S ta3 tk3 t.Kill.Words, S ta4 tk4 t.Copies, S sa1 sk1 s.Words], r1_value_L1 t s a_12 r31 out0_32 out1_33 b_34 = r1_value_L1 t s a_12 (s.Width.toNat + 1) out0_10 out1_11 0 ∧ (-9223372036854775808 ≤ out0_32 ∧ out0_32 ≤ 9223372036854775807) ∧ (-9223372036854775808 ≤ b_34 ∧ b_34 ≤ 9223372036854775807) ∧ out0_32 = s.Width ∧ out1_33.length = ((s.Width + 63) / 64).toNat ∧ 0 ≤ b_34, r31⟩) ((s.Width.toNat + 1), out0_10, out1_11, 0, a13, k14) [0, 1, 1, 1, 2, 3, 4, 5, 6] ⟨rfl, aM1, aM1, iv0, iv0, iv0⟩ ?_
  rintro ⟨r31, out0_32, out1_33, b_34, a35, k36⟩ ⟨hM37, hk38, hk39, hv40, hv41, hv42⟩
  refine JJ_nx fun _ _ hL hA => ?_; dsimp only at hL hA; subst hL hA
  refine Fb 8 0 fun _ => Fb 8 5 fun _ => Fb 8 6 fun _ => Fb 16 7 fun _ => Fb 8 8 fun _ => ?_
  rcases r31 with _ | r31
  ·exact absurd (hM37.symm.trans rfl) hterm43
  refine KS ?_
  refine Oq (VldA sh39 3) (Oq Vm ?_)
  refine letv (r1_Has s a_12) fun rv49 hg50 => ?_
  have hc51 := fn142 s sa1 sk1 a_12 pre pre rv49 hg50
  refine Oc [8] ca142 hc51 ?_
  rintro - -
  refine Oq Vm ?_
  refine Js 19 ?_ ?_
  ·intro h52
   refine Oq Vm (Oq (Vfa fo39_0 3) (Oq (VldF sh3 3) (Oq Vlss (Oq Vpt (KS ?_)))))
   refine Kc ?_ ?_
   ·intro h54
    have g55 := dt h54
    refine KS ?_
    refine Oq (VldA sh85 4) (Oq Vm (Oq Vm ?_))
    refine letv (r1_follows t a_12 b_34) fun rv56 hg57 => ?_
    have hc58 := fn167 t ta1 tk1 ta3 tk3 ta4 tk4 a_12 b_34 pre pre pre pre rv56 hg57
    refine Oc [5, 6, 7] ca167 hc58 ?_
    rintro - -
    refine KS ?_
    refine Kc ?_ ?_
    ·intro h59
     refine KS ?_
     refine Oq (VldA sh39 1) (Oq Vm ?_)
     refine letv (r1_Put (GSet.mk out0_32 out1_33) b_34) fun rv62 hg63 => ?_
     have hc64 := fn68 ((GSet.mk out0_32 out1_33)) a35 k36 b_34 pre pre pre pre rv62 hg63
     refine Oc [0] ca68 hc64 ?_
     rintro c61 ⟨he65, he66, he67⟩
     unfold i64ok at he65
     have he66 : (rv62.Width = out0_32) := he66
     have he67 : (rv62.Words.length = ((out0_32 + 63) / 64).toNat) := he67
     refine Jo 0 ?_; rintro a68 k69 rfl
     refine Fb 8 0 fun _ => ?_
     refine Ost (Scl [2] sh39 [vi rv62.Width, vl a68 k69 rv62.Words]) (KS ?_)
     refine Oq Vm (Oq Vadd (Oq Va (KS ?_)))
     refine Jl [1] (Ent.freeze _ _) ?_
     exact Kg (r31, rv62.Width, rv62.Words, (b_34 + 1), a68, k69) [0, 1, 2, 2, 3, 4, 5, 6, 7] ⟨(q3 hM37 (by simp only [r1_value_L1, h52, h54, h59, hg50, hg57, hg63, cs4])), aM1, aM1, iv1, iv1, iv1⟩
    intro h59
    refine KS ?_
    refine Oq Vm (Oq Vadd (Oq Va (KS ?_)))
    exact Kg (r31, out0_32, out1_33, (b_34 + 1), a35, k36) [0, 1, 1, 1, 2, 3, 4, 5, 6] ⟨(q3 hM37 (by simp only [r1_value_L1, h52, h54, h59, hg50, hg57, cs4])), aM1, aM1, iv1, iv1, iv1⟩
   intro h54
   have g72 := df h54
   refine Ke ?_
   have hR73 := q2 hM37 (.brk (out0_32, out1_33)) (by simp only [r1_value_L1, h52, h54, hg50, cs4])
   refine KS ?_
   refine Oq Vm (Oq Vadd (Oq Va (KS ?_)))
   exact Kg (r30, out0_32, out1_33, (a_12 + 1), a35, k36) [0, 1, 1, 1, 2, 3, 4, 5, 6] ⟨(q3 hM15 (by simp only [r1_value_L0, h28, h52, h54, hg50, hR73, cs4])), aM1, aM1, aM1, aM1, aM1, iv1, iv1⟩
  intro h52
  refine Osk (Osk (Osk (Osk (Oq Vpf (KS ?_)))))
  refine Kf ?_
  refine Ke ?_
  have hR75 := q2 hM37 (.brk (out0_32, out1_33)) (by simp only [r1_value_L1, h52, hg50, cs4])
  refine KS ?_
  refine Oq Vm (Oq Vadd (Oq Va (KS ?_)))
  exact Kg (r30, out0_32, out1_33, (a_12 + 1), a35, k36) [0, 1, 1, 1, 2, 3, 4, 5, 6] ⟨(q3 hM15 (by simp only [r1_value_L0, h28, h52, hg50, hR75, cs4])), aM1, aM1, aM1, aM1, aM1, iv1, iv1⟩
 intro h28
 have g76 := df h28
 obtain rfl : r9 = 0 := by omega
 refine Ke ?_
 have hR77 := q2 hM15 (out0_10, out1_11) (by simp only [r1_value_L0, h28, cs4])
 refine KS ?_
 refine Oq (VldA sh39 1) (Ost (Scl [2] sh39 [vi out0_10, vl a13 k14 out1_11]) (KS ?_))
 have hq := q4 hrr (GSet.mk out0_10 out1_11) (by simp only [r1_value, h28, hR77, cs4]); subst hq
 exact Kr (vl a13 k14 out1_11) rfl (.cellN 0 rfl sh39 rfl (reads_Cl _ _) rfl .nil) [1] en
theorem fn97 (t : GTransfer) (ta1 : Option Addr) (tk1 : Nat) (ta3 : Option Addr) (tk3 : Nat) (ta4 : Option Addr) (tk4 : Nat) (s : GSet) (sa1 : Option Addr) (sk1 : Nat) (ht_0 : i64ok t.Gen.Width) (ht_2 : i64ok t.Kill.Width) (hs_0 : i64ok s.Width) (rr : GSet × Int) (hrr : r1_Apply t s = rr) : FT Tryz.prog 97 #[.agg #[vi t.Gen.Width, vl ta1 tk1 t.Gen.Words, vi t.Kill.Width, vl ta3 tk3 t.Kill.Words, vl ta4 tk4 t.Copies], .agg #[vi s.Width, vl sa1 sk1 s.Words]] [S ta1 tk1 t.Gen.Words, S ta3 tk3 t.Kill.Words, S ta4 tk4 t.Copies, S sa1 sk1 s.Words] (fun g : Value => i64ok rr.1.Width ∧ i64ok rr.2) (fun g => .tuple #[.agg #[vi rr.1.Width, g], vi rr.2]) (fun g => [sl g rr.1.Words]) := by
 refine FTi Tryz.func97 fun w0 M0 F0 => ?_
 unfold i64ok at ht_0 ht_2 hs_0
 refine Fb 8 0 fun _ => Fb 8 1 fun _ => Fb 16 2 fun _ => Fb 8 3 fun _ => KS ?_
 refine Oa (Ab [vi t.Gen.Width, vl ta1 tk1 t.Gen.Words, vi t.Kill.Width, vl ta3 tk3 t.Kill.Words, vl ta4 tk4 t.Copies]) fun p5 => Oa (Ab [vi s.Width, vl sa1 sk1 s.Words]) fun p6 => Oa (Al ze39 [vi 0, .slice none 0 0]) fun p7 => Oq Va (KS ?_)
 refine Oq (VldA sh85 2) ?_
 refine letv (r1_ValidTransfer t) fun rv8 hg9 => ?_
 have hc10 := fn87 t ta1 tk1 ta3 tk3 ta4 tk4 pre pre rv8 hg9
 refine Oc [3, 4, 5] ca87 hc10 ?_
 rintro - -
 refine Oq Vnot (Oq Vm ?_)
 refine Js 9 ?_ ?_
 ·intro h11
  have h13 := not_true h11
  refine Osk (Osk (Osk (Oq Vpt (KS ?_))))
  refine Kt (KS ?_)
  refine Oq (Vbd st39 [vi 0, .slice none 0 0]) (Ost (Scl [0] sh39 [vi 0, .slice none 0 0]) (Oq Va (KS ?_)))
  refine Jl [] (Ent.slNil (α := BitVec 64)) ?_
  have hq := q4 hrr ((GSet.mk 0 []), 1) (by simp only [r1_Apply, h11, h13, hg9, cs4]); subst hq
  exact Kr (.slice none 0 0) rfl (.cellN 1 rfl sh39 rfl (reads_Cl _ _) rfl (.tmp rfl .nil)) [0] en
 intro h11
 have h16 := not_false h11
 refine Oq (VldA sh39 1) ?_
 refine letv (r1_Valid s) fun rv18 hg19 => ?_
 have hc20 := fn59 s sa1 sk1 pre rv18 hg19
 refine Oc [6] ca59 hc20 ?_
 rintro - -
 refine Oq Vnot (Oq Vpf (KS ?_))
 refine Kc ?_ ?_
 ·intro h21
  have h23 := not_true h21
  refine KS ?_
  refine Oq (Vbd st39 [vi 0, .slice none 0 0]) (Ost (Scl [0] sh39 [vi 0, .slice none 0 0]) (Oq Va (KS ?_)))
  refine Jl [] (Ent.slNil (α := BitVec 64)) ?_
  have hq := q4 hrr ((GSet.mk 0 []), 1) (by simp only [r1_Apply, h11, h16, h21, h23, hg9, hg19, cs4]); subst hq
  exact Kr (.slice none 0 0) rfl (.cellN 1 rfl sh39 rfl (reads_Cl _ _) rfl (.tmp rfl .nil)) [0] en
 intro h21
 have h26 := not_false h21
 refine KS ?_
 refine Oq (Vfa fo85_0 2) (Oq (VfaF fo39_0 2) (Oq (VldF sh3 2) (Oq (Vfa fo39_0 1) (Oq (VldF sh3 1) (Oq Vneq (KS ?_))))))
 refine Kc ?_ ?_
 ·intro h28
  have g29 := ne_of_bne h28
  refine KS ?_
  refine Oq (Vbd st39 [vi 0, .slice none 0 0]) (Ost (Scl [0] sh39 [vi 0, .slice none 0 0]) (Oq Va (KS ?_)))
  refine Jl [] (Ent.slNil (α := BitVec 64)) ?_
  have hq := q4 hrr ((GSet.mk 0 []), 2) (by simp only [r1_Apply, h11, h16, h21, h26, h28, hg9, hg19, cs4]); subst hq
  exact Kr (.slice none 0 0) rfl (.cellN 1 rfl sh39 rfl (reads_Cl _ _) rfl (.tmp rfl .nil)) [0] en
 intro h28
 have g30 := eq_of_bne_false h28
 refine KS ?_
 refine Oq (VldA sh85 2) (Oq (VldA sh39 1) ?_)
 refine letv (r1_value t s) fun rv32 hg33 => ?_
 have hc34 := fn137 t ta1 tk1 ta3 tk3 ta4 tk4 s sa1 sk1 pre pre pre (by simp only [h11, h16, h21, h26, h28, hg9, hg19]) pre rv32 hg33
 refine Oc [3, 4, 5, 6] ca137 hc34 ?_
 rintro c31 he35
 unfold i64ok at he35
 refine Jo 0 ?_; rintro a36 k37 rfl
 refine Fb 8 0 fun _ => ?_
 refine Ost (Scl [1] sh39 [vi rv32.Width, vl a36 k37 rv32.Words]) (Oq Va (KS ?_))
 have hq := q4 hrr (rv32, 0) (by simp only [r1_Apply, h11, h16, h21, h26, h28, hg9, hg19, hg33, cs4]); subst hq
 exact Kr (vl a36 k37 rv32.Words) rfl (.cellN 0 rfl sh39 rfl (reads_Cl _ _) rfl (.tmp rfl .nil)) [1] en
theorem fn168 (a : GSet) (aa1 : Option Addr) (ak1 : Nat) (b : GSet) (ba1 : Option Addr) (bk1 : Nat) (one : Bool) (two : Bool) (both : Bool) (ha_0 : i64ok a.Width) (hb_0 : i64ok b.Width) (rr : GSet × Int) (hrr : r1_mix a b one two both = rr) : FT Tryz.prog 168 #[.agg #[vi a.Width, vl aa1 ak1 a.Words], .agg #[vi b.Width, vl ba1 bk1 b.Words], vb one, vb two, vb both] [S aa1 ak1 a.Words, S ba1 bk1 b.Words] (fun g : Value => i64ok rr.1.Width ∧ i64ok rr.2) (fun g => .tuple #[.agg #[vi rr.1.Width, g], vi rr.2]) (fun g => [sl g rr.1.Words]) := by
 refine FTi Tryz.func168 fun w0 M0 F0 => ?_
 unfold i64ok at ha_0 hb_0
 refine Fb 8 0 fun _ => Fb 8 1 fun _ => KS ?_
 refine Oa (Ab [vi a.Width, vl aa1 ak1 a.Words]) fun p3 => Oa (Ab [vi b.Width, vl ba1 bk1 b.Words]) fun p4 => Oa (Al ze39 [vi 0, .slice none 0 0]) fun p5 => Oq Va (KS ?_)
 refine Oq (VldA sh39 2) ?_
 refine letv (r1_Valid a) fun rv6 hg7 => ?_
 have hc8 := fn59 a aa1 ak1 pre rv6 hg7
 refine Oc [3] ca59 hc8 ?_
 rintro - -
 refine Oq Vnot (Oq Vm ?_)
 refine Js 19 ?_ ?_
 ·intro h9
  have h11 := not_true h9
  refine Osk (Osk (Osk (Oq Vpt (KS ?_))))
  refine Kt (KS ?_)
  refine Oq (Vbd st39 [vi 0, .slice none 0 0]) (Ost (Scl [0] sh39 [vi 0, .slice none 0 0]) (Oq Va (KS ?_)))
  refine Jl [] (Ent.slNil (α := BitVec 64)) ?_
  have hq := q4 hrr ((GSet.mk 0 []), 1) (by simp only [r1_mix, h9, h11, hg7, cs4]); subst hq
  exact Kr (.slice none 0 0) rfl (.cellN 1 rfl sh39 rfl (reads_Cl _ _) rfl (.tmp rfl .nil)) [0] en
 intro h9
 have h14 := not_false h9
 try have hrg := RV_w (s := a) (by simp only [h9, h14, hg7])
 refine Oq (VldA sh39 1) ?_
 refine letv (r1_Valid b) fun rv16 hg17 => ?_
 have hc18 := fn59 b ba1 bk1 pre rv16 hg17
 refine Oc [4] ca59 hc18 ?_
 rintro - -
 refine Oq Vnot (Oq Vpf (KS ?_))
 refine Kc ?_ ?_
 ·intro h19
  have h21 := not_true h19
  refine KS ?_
  refine Oq (Vbd st39 [vi 0, .slice none 0 0]) (Ost (Scl [0] sh39 [vi 0, .slice none 0 0]) (Oq Va (KS ?_)))
  refine Jl [] (Ent.slNil (α := BitVec 64)) ?_
  have hq := q4 hrr ((GSet.mk 0 []), 1) (by simp only [r1_mix, h9, h14, h19, h21, hg7, hg17, cs4]); subst hq
  exact Kr (.slice none 0 0) rfl (.cellN 1 rfl sh39 rfl (reads_Cl _ _) rfl (.tmp rfl .nil)) [0] en
 intro h19
 have h24 := not_false h19
 try have hrg := RV_w (s := a) (by simp only [h9, h14, h19, h24, hg7, hg17])
 refine KS ?_
 refine Oq (Vfa fo39_0 2) (Oq (VldF sh3 2) (Oq (Vfa fo39_0 1) (Oq (VldF sh3 1) (Oq Vneq (KS ?_)))))
 refine Kc ?_ ?_
 ·intro h26
  have g27 := ne_of_bne h26
  refine KS ?_
  refine Oq (Vbd st39 [vi 0, .slice none 0 0]) (Ost (Scl [0] sh39 [vi 0, .slice none 0 0]) (Oq Va (KS ?_)))
  refine Jl [] (Ent.slNil (α := BitVec 64)) ?_
  have hq := q4 hrr ((GSet.mk 0 []), 2) (by simp only [r1_mix, h9, h14, h19, h24, h26, hg7, hg17, cs4]); subst hq
  exact Kr (.slice none 0 0) rfl (.cellN 1 rfl sh39 rfl (reads_Cl _ _) rfl (.tmp rfl .nil)) [0] en
 intro h26
 have g28 := eq_of_bne_false h26
 refine KS ?_
 refine Oq (Vfa fo39_0 2) (Oq (VldF sh3 2) ?_)
 refine letv (r1_Empty a.Width) fun rv30 hg31 => ?_
 have hc32 := fn41 a.Width pre pre rv30 hg31
 refine Oc [] ca41 hc32 ?_
 rintro c29 ⟨he33, he34, he35⟩
 unfold i64ok at he33
 refine Jo 0 ?_; rintro a36 k37 rfl
 refine Fb 8 0 fun _ => ?_
 refine Oa (Al ze39 [vi 0, .slice none 0 0]) fun p39 => Ost (Scl [0] sh39 [vi rv30.Width, vl a36 k37 rv30.Words]) (KS ?_)
 refine Oq Va (KS ?_)
 refine Kl (γ := Nat × Int × List (BitVec 64) × Int × Option Addr × Nat) (fun (r40, s0_41, s1_42, k_43, a44, k45) => ⟨[(2, vb one), (3, vb two), (4, vb both), (5, p3), (6, p4), (10, p5), (12, p39), (13, vi k_43)], [O a44 k45 s1_42, Cl p39 [vi s0_41, vl a44 k45 s1_42], Cl p5 [vi 0, .slice none 0 0], pv p4 [vi b.Width, vl ba1 bk1 b.Words], pv p3 [vi a.Width, vl aa1 ak1 a.Words], S aa1 ak1 a.Words, S ba1 bk1 b.Words], r1_mix_L0 a b one two both r40 s0_41 s1_42 k_43 = r1_mix_L0 a b one two both (((a.Width : Int) - 0).toNat) rv30.Width rv30.Words 0 ∧ r40 = ((a.Width : Int) - k_43).toNat ∧ (0 : Int) ≤ k_43 ∧ (k_43 ≤ a.Width ∨ k_43 = 0) ∧ (-9223372036854775808 ≤ s0_41 ∧ s0_41 ≤ 9223372036854775807) ∧ (-9223372036854775808 ≤ k_43 ∧ k_43 ≤ 9223372036854775807) ∧ s0_41 = a.Width ∧ s1_42.length = ((a.Width + 63) / 64).toNat, r40⟩) (((a.Width : Int) - 0).toNat, rv30.Width, rv30.Words, 0, a36, k37) [1, 0, 0, 0, 1, 2, 3] ⟨rfl, rfl, aM1, (.inr rfl), aM1, aM1, iv0, iv0⟩ ?_
 rintro ⟨r40, s0_41, s1_42, k_43, a44, k45⟩ ⟨hM46, hr47, hi48, hi49, hk50, hk51, hv52, hv53⟩
 refine JJ_nx fun _ _ hL hA => ?_; dsimp only at hL hA; subst hL hA
 refine Fb 8 0 fun _ => Fb 8 5 fun _ => Fb 8 6 fun _ => KS ?_
 refine Oq Vm (Oq (Vfa fo39_0 4) (Oq (VldF sh3 4) (Oq Vlss (KS ?_))))
 refine Kc ?_ ?_
 ·intro h57
  have g58 := dt h57
  obtain ⟨r59, rfl⟩ := scc (n := r40) aM1
  refine KS ?_
  refine JK_drawK [0, 0, 3, 0, 0, 31, 63, 127] fmix ?_
  refine Dv [4] (VldA sh39 0) (Dv [] Vm ?_)
  refine letv (r1_Has a k_43) fun rv60 hg61 => ?_
  refine Dx [5] [] [1, 0] (fun G => vb rv60) [fun G => SP.fact (True)] (fun G => xC [0] ca142 (fn142 a aa1 ak1 k_43 pre pre rv60 hg61)) (Dv [3] (VldA sh39 0) (Dv [] Vm ?_))
  refine letv (r1_Has b k_43) fun rv62 hg63 => ?_
  refine Dx [6] [] [1, 0] (fun G => vb rv62) [fun G => SP.fact (True)] (fun G => xC [0] ca142 (fn142 b ba1 bk1 k_43 pre pre rv62 hg63)) (Dv [] Va (Dv [] Va ?_))
  refine Dn ⟨by kernel_rfl, fun G => ?_⟩
  refine Jw2 [(2, vb one), (3, vb two), (4, vb both), (5, p3), (6, p4), (10, p5), (12, p39), (13, vi k_43), (14, vb rv60), (15, vb rv62)] [0, 1, 2, 3, 4, 5, 6] [SP.fact (True), SP.fact (True)] ?_
  refine Jk [0, 0, 0, 0, 1, 2, 3] ?_
  refine KS ?_
  refine Oq Vm (Oq Vm ?_)
  refine Js 47 ?_ ?_
  ·intro h64
   try have hrg := RV_w (s := a) (by simp only [h9, h14, h19, h24, h26, h57, h64, hg7, hg17, hg31, hg61, hg63])
   refine Oq Vm (Oq Vpt (Oq Vm ?_))
   refine Js 50 ?_ ?_
   ·intro h66
    try have hrg := RV_w (s := a) (by simp only [h9, h14, h19, h24, h26, h57, h64, h66, hg7, hg17, hg31, hg61, hg63])
    refine Oq Vm (Oq Vpt (Oq Vm ?_))
    refine Js 53 ?_ ?_
    ·intro h68
     refine Osk (Osk (Osk (Osk (Osk (Osk (Osk (Osk (Oq Vpt (Oq Vm ?_)))))))))
     refine Osk (Osk (Osk (Osk (Osk (Osk (Osk (Osk (Oq Vpt (KS ?_)))))))))
     refine Kt (KS ?_)
     refine Oq (VldA sh39 1) (Oq Vm ?_)
     refine letv (r1_Put (GSet.mk s0_41 s1_42) k_43) fun rv71 hg72 => ?_
     refine Oc [0] ca68 (FT_borrow (A := _) hlx (FT_ent (Ent.take (is := [0]) rfl) (fn68 ((GSet.mk s0_41 s1_42)) a44 k45 k_43 pre pre pre pre rv71 hg72))) ?_ (ht := rfl)
     rintro c70 ⟨he73, he74, he75⟩
     unfold i64ok at he73
     have he74 : (rv71.Width = s0_41) := he74
     have he75 : (rv71.Words.length = ((s0_41 + 63) / 64).toNat) := he75
     refine Jo 1 ?_; rintro a76 k77 rfl
     refine Fb 8 1 fun _ => ?_
     refine Ost (Scl [2] sh39 [vi rv71.Width, vl a76 k77 rv71.Words]) (KS ?_)
     refine Oq Vm (Oq Vadd (Oq Va (KS ?_)))
     exact Kg (r59, rv71.Width, rv71.Words, (k_43 + 1), a76, k77) [2, 0, 1, 1, 2, 3, 4] ⟨(q3 hM46 (by simp only [r1_mix_L0, h57, h64, h66, h68, hg61, hg63, hg72, cs4])), aM1, aM1, aM1, aM1, aM1, iv1, iv1⟩
    intro h68
    refine Oq Vm (Oq Vm ?_)
    refine Js 55 ?_ ?_
    ·intro h80
     try have hrg := RV_w (s := a) (by simp only [h9, h14, h19, h24, h26, h57, h64, h66, h68, h80, hg7, hg17, hg31, hg61, hg63])
     refine Oq Vm (Oq Vnot (Oq Vpt (Oq Vm ?_)))
     refine Js 59 ?_ ?_
     ·intro h82
      exact absurd h82 (by first | (simp [h66]; done) | (simp only [bne, h66]; decide) | (simp only [bne, h66, Bool.not_true, Bool.not_false]; decide) | (exfalso; omega) | (intro hq; simp only [bne, hq, Bool.not_false, Bool.not_true, reduceCtorEq] at h66))
     intro h82
     have h84 := not_false h82
     try have hrg := RV_w (s := a) (by simp only [h9, h14, h19, h24, h26, h57, h64, h66, h68, h80, h82, h84, hg7, hg17, hg31, hg61, hg63])
     refine Osk (Oq Vpf (Oq Vpf (Oq Vm (Oq Vm (Oq Vnot (Oq Vm ?_))))))
     refine Js 66 ?_ ?_
     ·intro h86
      exact absurd h86 (by first | (simp [h80]; done) | (simp only [bne, h80]; decide) | (simp only [bne, h80, Bool.not_true, Bool.not_false]; decide) | (exfalso; omega) | (intro hq; simp only [bne, hq, Bool.not_false, Bool.not_true, reduceCtorEq] at h80))
     intro h86
     have h88 := not_false h86
     try have hrg := RV_w (s := a) (by simp only [h9, h14, h19, h24, h26, h57, h64, h66, h68, h80, h82, h84, h86, h88, hg7, hg17, hg31, hg61, hg63])
     refine Osk (Oq Vpf (Oq Vm (Osk (Oq Vpf (Oq Vpf (KS ?_))))))
     refine Kf (KS ?_)
     refine Oq Vm (Oq Vadd (Oq Va (KS ?_)))
     exact Kg (r59, s0_41, s1_42, (k_43 + 1), a44, k45) [0, 0, 0, 0, 1, 2, 3] ⟨(q3 hM46 (by simp only [r1_mix_L0, h57, h64, h66, h68, h80, h82, h84, h86, h88, hg61, hg63, cs4])), aM1, aM1, aM1, aM1, aM1, iv1, iv1⟩
    intro h80
    exact absurd h80 (by first | (simp [h64]; done) | (simp only [bne, h64]; decide) | (simp only [bne, h64, Bool.not_true, Bool.not_false]; decide) | (exfalso; omega) | (intro hq; simp only [bne, hq, Bool.not_false, Bool.not_true, reduceCtorEq] at h64))
   intro h66
   refine Osk (Oq Vpf (Oq Vm (Oq Vm (Oq Vm ?_))))
   refine Js 55 ?_ ?_
   ·intro h91
    try have hrg := RV_w (s := a) (by simp only [h9, h14, h19, h24, h26, h57, h64, h66, h91, hg7, hg17, hg31, hg61, hg63])
    refine Oq Vm (Oq Vnot (Oq Vpt (Oq Vm ?_)))
    refine Js 59 ?_ ?_
    ·intro h93
     have h95 := not_true h93
     refine Oq Vm (Oq Vpt (Oq Vpf (Oq Vm ?_)))
     refine Js 63 ?_ ?_
     ·intro h97
      refine Osk (Osk (Osk (Osk (Osk (Osk (Osk (Osk (Oq Vpt (KS ?_)))))))))
      refine Kt (KS ?_)
      refine Oq (VldA sh39 1) (Oq Vm ?_)
      refine letv (r1_Put (GSet.mk s0_41 s1_42) k_43) fun rv100 hg101 => ?_
      refine Oc [0] ca68 (FT_borrow (A := _) hlx (FT_ent (Ent.take (is := [0]) rfl) (fn68 ((GSet.mk s0_41 s1_42)) a44 k45 k_43 pre pre pre pre rv100 hg101))) ?_ (ht := rfl)
      rintro c99 ⟨he102, he103, he104⟩
      unfold i64ok at he102
      have he103 : (rv100.Width = s0_41) := he103
      have he104 : (rv100.Words.length = ((s0_41 + 63) / 64).toNat) := he104
      refine Jo 1 ?_; rintro a105 k106 rfl
      refine Fb 8 1 fun _ => ?_
      refine Ost (Scl [2] sh39 [vi rv100.Width, vl a105 k106 rv100.Words]) (KS ?_)
      refine Oq Vm (Oq Vadd (Oq Va (KS ?_)))
      exact Kg (r59, rv100.Width, rv100.Words, (k_43 + 1), a105, k106) [2, 0, 1, 1, 2, 3, 4] ⟨(q3 hM46 (by simp only [r1_mix_L0, h57, h64, h66, h91, h93, h95, h97, hg61, hg63, hg101, cs4])), aM1, aM1, aM1, aM1, aM1, iv1, iv1⟩
     intro h97
     refine Oq Vm (Oq Vnot (Oq Vm ?_))
     refine Js 66 ?_ ?_
     ·intro h109
      exact absurd h109 (by first | (simp [h91]; done) | (simp only [bne, h91]; decide) | (simp only [bne, h91, Bool.not_true, Bool.not_false]; decide) | (exfalso; omega) | (intro hq; simp only [bne, hq, Bool.not_false, Bool.not_true, reduceCtorEq] at h91))
     intro h109
     have h111 := not_false h109
     try have hrg := RV_w (s := a) (by simp only [h9, h14, h19, h24, h26, h57, h64, h66, h91, h93, h95, h97, h109, h111, hg7, hg17, hg31, hg61, hg63])
     refine Osk (Oq Vpf (Oq Vm (Osk (Oq Vpf (Oq Vpf (KS ?_))))))
     refine Kf (KS ?_)
     refine Oq Vm (Oq Vadd (Oq Va (KS ?_)))
     exact Kg (r59, s0_41, s1_42, (k_43 + 1), a44, k45) [0, 0, 0, 0, 1, 2, 3] ⟨(q3 hM46 (by simp only [r1_mix_L0, h57, h64, h66, h91, h93, h95, h97, h109, h111, hg61, hg63, cs4])), aM1, aM1, aM1, aM1, aM1, iv1, iv1⟩
    intro h93
    exact absurd h93 (by first | (simp [h66]; done) | (simp only [bne, h66]; decide) | (simp only [bne, h66, Bool.not_true, Bool.not_false]; decide) | (exfalso; omega) | (intro hq; simp only [bne, hq, Bool.not_false, Bool.not_true, reduceCtorEq] at h66))
   intro h91
   exact absurd h91 (by first | (simp [h64]; done) | (simp only [bne, h64]; decide) | (simp only [bne, h64, Bool.not_true, Bool.not_false]; decide) | (exfalso; omega) | (intro hq; simp only [bne, hq, Bool.not_false, Bool.not_true, reduceCtorEq] at h64))
  intro h64
  refine Osk (Oq Vpf (Oq Vm (Osk (Oq Vpf (Oq Vm (Oq Vm (Oq Vm ?_)))))))
  refine Js 55 ?_ ?_
  ·intro h114
   exact absurd h114 (by first | (simp [h64]; done) | (simp only [bne, h64]; decide) | (simp only [bne, h64, Bool.not_true, Bool.not_false]; decide) | (exfalso; omega) | (intro hq; simp only [bne, hq, Bool.not_false, Bool.not_true, reduceCtorEq] at h64))
  intro h114
  refine Osk (Osk (Oq Vpf (Oq Vm (Osk (Oq Vpf (Oq Vpf (Oq Vm (Oq Vm (Oq Vnot ?_)))))))))
  refine Oq Vm ?_
  refine Js 66 ?_ ?_
  ·intro h116
   have h118 := not_true h116
   refine Oq Vm (Oq Vpt (Oq Vm ?_))
   refine Js 69 ?_ ?_
   ·intro h120
    try have hrg := RV_w (s := a) (by simp only [h9, h14, h19, h24, h26, h57, h64, h114, h116, h118, h120, hg7, hg17, hg31, hg61, hg63])
    refine Oq Vm (Oq Vpt (Oq Vpf (KS ?_)))
    refine Kc ?_ ?_
    ·intro h122
     refine KS ?_
     refine Oq (VldA sh39 1) (Oq Vm ?_)
     refine letv (r1_Put (GSet.mk s0_41 s1_42) k_43) fun rv125 hg126 => ?_
     refine Oc [0] ca68 (FT_borrow (A := _) hlx (FT_ent (Ent.take (is := [0]) rfl) (fn68 ((GSet.mk s0_41 s1_42)) a44 k45 k_43 pre pre pre pre rv125 hg126))) ?_ (ht := rfl)
     rintro c124 ⟨he127, he128, he129⟩
     unfold i64ok at he127
     have he128 : (rv125.Width = s0_41) := he128
     have he129 : (rv125.Words.length = ((s0_41 + 63) / 64).toNat) := he129
     refine Jo 1 ?_; rintro a130 k131 rfl
     refine Fb 8 1 fun _ => ?_
     refine Ost (Scl [2] sh39 [vi rv125.Width, vl a130 k131 rv125.Words]) (KS ?_)
     refine Oq Vm (Oq Vadd (Oq Va (KS ?_)))
     exact Kg (r59, rv125.Width, rv125.Words, (k_43 + 1), a130, k131) [2, 0, 1, 1, 2, 3, 4] ⟨(q3 hM46 (by simp only [r1_mix_L0, h57, h64, h114, h116, h118, h120, h122, hg61, hg63, hg126, cs4])), aM1, aM1, aM1, aM1, aM1, iv1, iv1⟩
    intro h122
    refine KS ?_
    refine Oq Vm (Oq Vadd (Oq Va (KS ?_)))
    exact Kg (r59, s0_41, s1_42, (k_43 + 1), a44, k45) [0, 0, 0, 0, 1, 2, 3] ⟨(q3 hM46 (by simp only [r1_mix_L0, h57, h64, h114, h116, h118, h120, h122, hg61, hg63, cs4])), aM1, aM1, aM1, aM1, aM1, iv1, iv1⟩
   intro h120
   refine Osk (Oq Vpf (Oq Vpf (KS ?_)))
   refine Kf (KS ?_)
   refine Oq Vm (Oq Vadd (Oq Va (KS ?_)))
   exact Kg (r59, s0_41, s1_42, (k_43 + 1), a44, k45) [0, 0, 0, 0, 1, 2, 3] ⟨(q3 hM46 (by simp only [r1_mix_L0, h57, h64, h114, h116, h118, h120, hg61, hg63, cs4])), aM1, aM1, aM1, aM1, aM1, iv1, iv1⟩
  intro h116
  exact absurd h116 (by first | (simp [h114]; done) | (simp only [bne, h114]; decide) | (simp only [bne, h114, Bool.not_true, Bool.not_false]; decide) | (exfalso; omega) | (intro hq; simp only [bne, hq, Bool.not_false, Bool.not_true, reduceCtorEq] at h114))
 intro h57
 have g135 := df h57
 obtain rfl : r40 = 0 := by omega
 refine Ke ?_
 have hR136 := q2 hM46 (s0_41, s1_42) (by simp only [r1_mix_L0, h57, cs4])
 refine KS ?_
 refine Oq (VldA sh39 1) (Ost (Scl [2] sh39 [vi s0_41, vl a44 k45 s1_42]) (Oq Va (KS ?_)))
 refine Jl [1] (Ent.freeze _ _) ?_
 have hq := q4 hrr ((GSet.mk s0_41 s1_42), 0) (by simp only [r1_mix, h9, h14, h19, h24, h26, h57, hg7, hg17, hg31, hR136, cs4]); subst hq
 exact Kr (vl a44 k45 s1_42) rfl (.cellN 1 rfl sh39 rfl (reads_Cl _ _) rfl (.tmp rfl .nil)) [0] en
theorem fn138 (a : GSet) (aa1 : Option Addr) (ak1 : Nat) (b : GSet) (ba1 : Option Addr) (bk1 : Nat) (ha_0 : i64ok a.Width) (hb_0 : i64ok b.Width) (rr : GSet × Int) (hrr : r1_Union a b = rr) : FT Tryz.prog 138 #[.agg #[vi a.Width, vl aa1 ak1 a.Words], .agg #[vi b.Width, vl ba1 bk1 b.Words]] [S aa1 ak1 a.Words, S ba1 bk1 b.Words] (fun g : Value => i64ok rr.1.Width ∧ i64ok rr.2) (fun g => .tuple #[.agg #[vi rr.1.Width, g], vi rr.2]) (fun g => [sl g rr.1.Words]) := by
 refine FTi Tryz.func138 fun w0 M0 F0 => ?_
 unfold i64ok at ha_0 hb_0
 refine Fb 8 0 fun _ => Fb 8 1 fun _ => KS ?_
 refine Oa (Ab [vi a.Width, vl aa1 ak1 a.Words]) fun p3 => Oa (Ab [vi b.Width, vl ba1 bk1 b.Words]) fun p4 => Oa (Al ze39 [vi 0, .slice none 0 0]) fun p5 => Oq Va (KS ?_)
 refine Oq (VldA sh39 2) (Oq (VldA sh39 1) ?_)
 refine letv (r1_mix a b true true true) fun rv7 hg8 => ?_
 have hc9 := fn168 a aa1 ak1 b ba1 bk1 true true true pre pre rv7 hg8
 refine Oc [3, 4] ca168 hc9 ?_
 rintro c6 ⟨he10, he11⟩
 unfold i64ok at he10 he11
 refine Jo 0 ?_; rintro a12 k13 rfl
 refine Fb 8 0 fun _ => ?_
 refine Oq Vx (Oq Vx (Ost (Scl [1] sh39 [vi rv7.1.Width, vl a12 k13 rv7.1.Words]) (Oq Va (KS ?_))))
 have hq := q4 hrr (rv7.1, rv7.2) (by simp only [r1_Union, hg8, cs4]); subst hq
 exact Kr (vl a12 k13 rv7.1.Words) rfl (.cellN 0 rfl sh39 rfl (reads_Cl _ _) rfl (.tmp rfl .nil)) [1] en
theorem fn98 (a : GSet) (aa1 : Option Addr) (ak1 : Nat) (b : GSet) (ba1 : Option Addr) (bk1 : Nat) (ha_0 : i64ok a.Width) (hb_0 : i64ok b.Width) (rr : GSet) (hrr : r1_Join a b = rr) : FT Tryz.prog 98 #[.agg #[vi a.Width, vl aa1 ak1 a.Words], .agg #[vi b.Width, vl ba1 bk1 b.Words]] [S aa1 ak1 a.Words, S ba1 bk1 b.Words] (fun g : Value => i64ok rr.Width) (fun g => .agg #[vi rr.Width, g]) (fun g => [sl g rr.Words]) := by
 refine FTi Tryz.func98 fun w0 M0 F0 => ?_
 unfold i64ok at ha_0 hb_0
 refine Fb 8 0 fun _ => Fb 8 1 fun _ => KS ?_
 refine Oa (Ab [vi a.Width, vl aa1 ak1 a.Words]) fun p3 => Oa (Ab [vi b.Width, vl ba1 bk1 b.Words]) fun p4 => Oa (Al ze39 [vi 0, .slice none 0 0]) fun p5 => KS ?_
 refine Oq (VldA sh39 2) (Oq (VldA sh39 1) ?_)
 refine letv (r1_Union a b) fun rv7 hg8 => ?_
 have hc9 := fn138 a aa1 ak1 b ba1 bk1 pre pre rv7 hg8
 refine Oc [3, 4] ca138 hc9 ?_
 rintro c6 ⟨he10, he11⟩
 unfold i64ok at he10 he11
 refine Jo 0 ?_; rintro a12 k13 rfl
 refine Fb 8 0 fun _ => ?_
 refine Oq Vm (Oq Vx (Oq Vx (Oa (Al ze39 [vi 0, .slice none 0 0]) fun p15 => Ost (Scl [0] sh39 [vi rv7.1.Width, vl a12 k13 rv7.1.Words]) (Oq Va (KS ?_)))))
 refine Oq (VldA sh39 0) (Ost (Scl [2] sh39 [vi rv7.1.Width, vl a12 k13 rv7.1.Words]) (KS ?_))
 have hq := q4 hrr rv7.1 (by simp only [r1_Join, hg8, cs4]); subst hq
 exact Kr (vl a12 k13 rv7.1.Words) rfl (.cellN 0 rfl sh39 rfl (reads_Cl _ _) rfl .nil) [2] en
theorem fn131 (s : GSystem) (sa1 : Option Addr) (sk1 : Nat) (sa2 : Option Addr) (sk2 : Nat) (sa3 : Option Addr) (sk3 : Nat) (v : List GSet) (va0 : Option Addr) (vk0 : Nat) (n : Int) (hs_0 : i64ok s.Width) (hn_0 : i64ok n) (hv : VSys s) (hl : v.length = s.Boundary.length) (hn : 0 ≤ n ∧ n < (s.Boundary.length : Int)) (rr : GSet) (hrr : r10_right s v n = rr) : FT Tryz.prog 131 #[.agg #[vi s.Width, vl sa1 sk1 s.Deps, vl sa2 sk2 s.Transfers, vl sa3 sk3 s.Boundary], vl va0 vk0 v, vi n] [S sa1 sk1 s.Deps, S sa2 sk2 s.Transfers, S sa3 sk3 s.Boundary, S va0 vk0 v] (fun g : Value => i64ok rr.Width) (fun g => .agg #[vi rr.Width, g]) (fun g => [sl g rr.Words]) := by
 refine FTi Tryz.func131 fun w0 M0 F0 => ?_
 unfold i64ok at hs_0 hn_0
 refine Fb 24 0 fun _ => Fb 88 1 fun _ => Fb 32 2 fun _ => Fb 32 3 fun _ => ?_
 have hv1 := hv.n
 have hv2 := hv.tl
 have hv3 := hv.bl
 have hv4 := hv.w
 have hv5 := hv.dep_len
 refine KS ?_
 refine Oa (Ab [vi s.Width, vl sa1 sk1 s.Deps, vl sa2 sk2 s.Transfers, vl sa3 sk3 s.Boundary]) fun p5 => Oa (Al ze39 [vi 0, .slice none 0 0]) fun p6 => KS ?_
 refine Oq (Vfa fo32_3 1) (Oq (VldF sh24 1) (Oq Vm (Oq (Vi sl24 4) ?_)))
 refine JJ_peek_GSet n.toNat 4 rfl rng fun a7 k8 hb9 => ?_
 unfold i64ok at hb9
 refine Fb 8 1 fun _ => ?_
 refine Oq (VldA sh39 0) (Oa (Al ze39 [vi 0, .slice none 0 0]) fun p11 => Ost (Scl [0] sh39 [vi ((s.Boundary.getD n.toNat default).Width), vl a7 k8 ((s.Boundary.getD n.toNat default).Words)]) (KS ?_))
 refine Oq Va (KS ?_)
 refine Kl (γ := Nat × Int × List (BitVec 64) × Int × Option Addr × Nat) (fun (r12, out0_13, out1_14, i_15, a16, k17) => ⟨[(1, vl va0 vk0 v), (2, vi n), (3, p5), (6, p6), (7, p11), (8, vi i_15)], [S a16 k17 out1_14, Cl p11 [vi out0_13, vl a16 k17 out1_14], Cl p6 [vi 0, .slice none 0 0], pv p5 [vi s.Width, vl sa1 sk1 s.Deps, vl sa2 sk2 s.Transfers, vl sa3 sk3 s.Boundary], S sa1 sk1 s.Deps, S sa2 sk2 s.Transfers, S sa3 sk3 s.Boundary, S va0 vk0 v], r10_right_L0 s v n r12 out0_13 out1_14 i_15 = r10_right_L0 s v n (((((s.Deps.getD n.toNat []).length : Int) : Int) - 0).toNat) ((s.Boundary.getD n.toNat default).Width) ((s.Boundary.getD n.toNat default).Words) 0 ∧ r12 = ((((s.Deps.getD n.toNat []).length : Int) : Int) - i_15).toNat ∧ (0 : Int) ≤ i_15 ∧ (i_15 ≤ ((s.Deps.getD n.toNat []).length : Int) ∨ i_15 = 0) ∧ (-9223372036854775808 ≤ out0_13 ∧ out0_13 ≤ 9223372036854775807) ∧ (-9223372036854775808 ≤ i_15 ∧ i_15 ≤ 9223372036854775807), r12⟩) (((((s.Deps.getD n.toNat []).length : Int) : Int) - 0).toNat, (s.Boundary.getD n.toNat default).Width, (s.Boundary.getD n.toNat default).Words, 0, a7, k8) [2, 0, 2, 2, 3, 4, 5, 6] ⟨rfl, rfl, aM1, (.inr rfl), aM1, aM1⟩ ?_
 rintro ⟨r12, out0_13, out1_14, i_15, a16, k17⟩ ⟨hM18, hr19, hi20, hi21, hk22, hk23⟩
 refine JJ_nx fun _ _ hL hA => ?_; dsimp only at hL hA; subst hL hA
 refine Fb 8 0 fun _ => Fb 24 4 fun _ => Fb 88 5 fun _ => Fb 32 6 fun _ => Fb 32 7 fun _ => KS ?_
 refine Oq Vm (Oq (Vfa fo32_1 3) (Oq (VldF sh29 3) (Oq Vm (Oq (Vi sl29 4) ?_))))
 refine JJ_peekL n.toNat 4 rfl rng fun a29 k30 => ?_
 refine Fb 8 1 fun _ => Fo 1 fun ho32 => ?_
 refine Oq (Vld sh22 0) (Oq (Vlen sl22) (Oq Vlss (KS ?_)))
 refine Kc ?_ ?_
 ·intro h33
  have g34 := dt h33
  have hq := hv.dep_mem (j := n) aM1 aM1 _ (getD_mem (xs := s.Deps.getD n.toNat []) (i := i_15.toNat) (d := 0) aM1)
  obtain ⟨r35, rfl⟩ := scc (n := r12) aM1
  refine KS ?_
  refine Oq (Vfa fo32_1 5) (Oq (VldF sh29 5) (Oq Vm (Oq (Vi sl29 6) (Oq (Vld sh22 0) (Oq Vm (Oq (Vi sl22 1) ?_))))))
  have hb36 := ok1 (i := i_15.toNat) ho32 rng
  refine Oq (VldI sh3 1) (Oq Va (KS ?_))
  refine JJ_peek_GTransfer (((s.Deps.getD n.toNat []).getD i_15.toNat 0) : Int).toNat 7 rfl rng fun a37 k38 a39 k40 a41 k42 hb43 hb44 => ?_
  unfold i64ok at hb43 hb44
  refine Fb 8 1 fun _ => Fb 8 2 fun _ => Fb 16 3 fun _ => ?_
  refine JJ_peek_GSet (((s.Deps.getD n.toNat []).getD i_15.toNat 0) : Int).toNat 13 rfl rng fun a48 k49 hb50 => ?_
  unfold i64ok at hb50
  refine Fb 8 1 fun _ => ?_
  refine JK_drawK [0, 1, 0, 7, 15, 0, 0, 96, 224, 511, 1023, 2047, 2047, 0, 12287, 32767] fmix ?_
  refine Dv [11] (Vfa fo32_2 0) (Dv [11] (VldF sh30 0) (Dv [] Vm (Dv [13] (Vi sl30 0) (Dv [2] (VldA sh85 0) (Dv [] Vm (Dv [] Vm (Dv [15] (Vi sl24 0) (Dv [0] (VldA sh39 0) ?_))))))))
  refine letv (r1_Apply (s.Transfers.getD (((s.Deps.getD n.toNat []).getD i_15.toNat 0) : Int).toNat default) (v.getD (((s.Deps.getD n.toNat []).getD i_15.toNat 0) : Int).toNat default)) fun rv53 hg54 => ?_
  refine Dx [1, 3, 4, 5] [] [2, 3, 4, 5, 0, 1] (fun G => .tuple #[.agg #[vi rv53.1.Width, (G.g 9 0)], vi rv53.2]) [fun G => SP.fact (i64ok rv53.1.Width ∧ i64ok rv53.2), fun G => sl (G.g 9 0) rv53.1.Words] (fun G => xC [1, 2, 3, 0] ca97 (fn97 ((s.Transfers.getD (((s.Deps.getD n.toNat []).getD i_15.toNat 0) : Int).toNat default)) a37 k38 a39 k40 a41 k42 ((v.getD (((s.Deps.getD n.toNat []).getD i_15.toNat 0) : Int).toNat default)) a48 k49 pre pre pre rv53 hg54)) (Dg [] (fun G => .tuple #[.agg #[vi rv53.1.Width, (G.g 9 0)], vi rv53.2]) (fun G => Vm) (Dg [] (fun G => .agg #[vi rv53.1.Width, (G.g 9 0)]) (fun G => Vx) (Dv [] Vx (Dx [] [] [0] (fun G => (G.g 13 0)) [fun G => Cl (G.g 13 0) [vi 0, .slice none 0 0]] (fun G => xA (Al ze39 [vi 0, .slice none 0 0])) (Dx0 [17, 18] [18] [1, 0] [fun G => Cl (G.g 13 0) [vi rv53.1.Width, (G.g 9 0)]] (fun G => x1 0 rfl sl_one fun ho56 => (xS (Scl [1] sh39 [vi rv53.1.Width, (G.g 9 0)] (v := .agg #[vi rv53.1.Width, (G.g 9 0)]) (h1 := show [vi rv53.1.Width, (G.g 9 0)].all (·.oneCell') = true from (by simp only [List.all_cons, List.all_nil, ho56, Bool.and_true, Bool.true_and] <;> rfl))))) (Dv [] Va ?_))))))
  refine Dn ⟨by kernel_rfl, fun G => ?_⟩
  refine Jw2 [(1, vl va0 vk0 v), (2, vi n), (3, p5), (6, p6), (7, p11), (8, vi i_15), (10, (G.g 13 0))] [0, 1, 2, 3, 4, 5, 6, 7, 8, 9, 10, 11, 12, 13, 14, 15] [SP.fact (i64ok rv53.1.Width ∧ i64ok rv53.2), sl (G.g 9 0) rv53.1.Words, Cl (G.g 13 0) [vi rv53.1.Width, (G.g 9 0)]] ?_
  generalize G.g 9 0 = c52, G.g 13 0 = p55
  refine Jf 16 rfl ?_; rintro ⟨he57, he58⟩
  unfold i64ok at he57 he58
  refine Jk [0, 1, 2, 3, 4, 5, 6, 7, 8, 9, 9, 9, 10, 11, 12, 13, 15, 16] ?_
  refine Jo 16 ?_; rintro a59 k60 rfl
  refine Fb 8 16 fun _ => KS ?_
  refine Oq (VldA sh39 9) (Oq (VldA sh39 17) ?_)
  refine letv (r1_Join (GSet.mk out0_13 out1_14) rv53.1) fun rv63 hg64 => ?_
  have hc65 := fn98 ((GSet.mk out0_13 out1_14)) a16 k17 rv53.1 a59 k60 pre pre rv63 hg64
  refine Oc [8, 16] ca98 hc65 ?_
  rintro c62 he66
  unfold i64ok at he66
  refine Jo 0 ?_; rintro a67 k68 rfl
  refine Fb 8 0 fun _ => ?_
  refine Ost (Scl [10] sh39 [vi rv63.Width, vl a67 k68 rv63.Words]) (KS ?_)
  refine Oq Vm (Oq Vadd (Oq Va (KS ?_)))
  exact Kg (r35, rv63.Width, rv63.Words, (i_15 + 1), a67, k68) [1, 0, 10, 10, 11, 12, 13, 14] ⟨(q3 hM18 (by simp only [r10_right_L0, h33, hg54, hg64, cs4])), aM1, aM1, aM1, aM1, aM1⟩
 intro h33
 have g70 := df h33
 obtain rfl : r12 = 0 := by omega
 refine Ke ?_
 have hR71 := q2 hM18 (out0_13, out1_14) (by simp only [r10_right_L0, h33, cs4])
 refine KS ?_
 refine Oq (VldA sh39 3) (Ost (Scl [4] sh39 [vi out0_13, vl a16 k17 out1_14]) (KS ?_))
 have hq := q4 hrr (GSet.mk out0_13 out1_14) (by simp only [r10_right, h33, hR71, cs4]); subst hq
 exact Kr (vl a16 k17 out1_14) rfl (.cellN 0 rfl sh39 rfl (reads_Cl _ _) rfl .nil) [3] en
theorem fn88 (s : GSystem) (sa1 : Option Addr) (sk1 : Nat) (sa2 : Option Addr) (sk2 : Nat) (sa3 : Option Addr) (sk3 : Nat) (v : List GSet) (va0 : Option Addr) (vk0 : Nat) (n : Int) (hs_0 : i64ok s.Width) (hn_0 : i64ok n) (rr : GSet × Int) (hrr : r10_Right s v n = rr) : FT Tryz.prog 88 #[.agg #[vi s.Width, vl sa1 sk1 s.Deps, vl sa2 sk2 s.Transfers, vl sa3 sk3 s.Boundary], vl va0 vk0 v, vi n] [S sa1 sk1 s.Deps, S sa2 sk2 s.Transfers, S sa3 sk3 s.Boundary, S va0 vk0 v] (fun g : Value => i64ok rr.1.Width ∧ i64ok rr.2) (fun g => .tuple #[.agg #[vi rr.1.Width, g], vi rr.2]) (fun g => [sl g rr.1.Words]) := by
 refine FTi Tryz.func88 fun w0 M0 F0 => ?_
 unfold i64ok at hs_0 hn_0
 refine Fb 24 0 fun _ => Fb 88 1 fun _ => Fb 32 2 fun _ => Fb 32 3 fun _ => KS ?_
 refine Oa (Ab [vi s.Width, vl sa1 sk1 s.Deps, vl sa2 sk2 s.Transfers, vl sa3 sk3 s.Boundary]) fun p5 => Oa (Al ze39 [vi 0, .slice none 0 0]) fun p6 => Oq Va (KS ?_)
 refine Oq (VldA sh32 1) ?_
 refine letv (r10_Valid s) fun rv7 hg8 => ?_
 have hc9 := fn50 s sa1 sk1 sa2 sk2 sa3 sk3 pre rv7 hg8
 refine Oc [2, 3, 4] ca50 hc9 ?_
 rintro - -
 refine Oq Vnot (KS ?_)
 refine Kc ?_ ?_
 ·intro h10
  have h12 := not_true h10
  refine KS ?_
  refine Oq (Vbd st39 [vi 0, .slice none 0 0]) (Ost (Scl [0] sh39 [vi 0, .slice none 0 0]) (Oq Va (KS ?_)))
  refine Jl [] (Ent.slNil (α := BitVec 64)) ?_
  have hq := q4 hrr ((GSet.mk 0 []), 1) (by simp only [r10_Right, h10, h12, hg8, cs4]); subst hq
  exact Kr (.slice none 0 0) rfl (.cellN 1 rfl sh39 rfl (reads_Cl _ _) rfl (.tmp rfl .nil)) [0] en
 intro h10
 have h15 := not_false h10
 try (have hvs := (RefValid_iff s).1 (by simp only [h10, h15, hg8]); have hv1 := hvs.n; have hv2 := hvs.tl; have hv3 := hvs.bl; have hv4 := hvs.w)
 refine KS ?_
 refine Oq Vm (Oq Vlss (Oq Vm ?_))
 refine Js 15 ?_ ?_
 ·intro h17
  have g18 := dt h17
  refine Osk (Osk (Osk (Osk (Osk (Oq Vpt (KS ?_))))))
  refine Kt (KS ?_)
  refine Oq (Vbd st39 [vi 0, .slice none 0 0]) (Ost (Scl [0] sh39 [vi 0, .slice none 0 0]) (Oq Va (KS ?_)))
  refine Jl [] (Ent.slNil (α := BitVec 64)) ?_
  have hq := q4 hrr ((GSet.mk 0 []), 9) (by simp only [r10_Right, h10, h15, h17, hg8, cs4]); subst hq
  exact Kr (.slice none 0 0) rfl (.cellN 1 rfl sh39 rfl (reads_Cl _ _) rfl (.tmp rfl .nil)) [0] en
 intro h17
 have g19 := df h17
 refine Oq Vm (Oq (Vfa fo32_3 1) (Oq (VldF sh24 1) (Oq (Vlen sl24) (Oq Vgeq (Oq Vpf (KS ?_))))))
 refine Kc ?_ ?_
 ·intro h20
  have g21 := dt h20
  refine KS ?_
  refine Oq (Vbd st39 [vi 0, .slice none 0 0]) (Ost (Scl [0] sh39 [vi 0, .slice none 0 0]) (Oq Va (KS ?_)))
  refine Jl [] (Ent.slNil (α := BitVec 64)) ?_
  have hq := q4 hrr ((GSet.mk 0 []), 9) (by simp only [r10_Right, h10, h15, h17, h20, hg8, cs4]); subst hq
  exact Kr (.slice none 0 0) rfl (.cellN 1 rfl sh39 rfl (reads_Cl _ _) rfl (.tmp rfl .nil)) [0] en
 intro h20
 have g22 := df h20
 refine KS ?_
 refine Oq (VldA sh32 1) (Oq Vm ?_)
 refine letv (r10_values s v) fun rv23 hg24 => ?_
 have hc25 := fn130 s sa1 sk1 sa2 sk2 sa3 sk3 v va0 vk0 pre rv23 hg24
 refine Oc [2, 3, 4, 5] ca130 hc25 ?_
 rintro - he26
 unfold i64ok at he26
 refine Oq Va (KS ?_)
 refine Oq Vm (Oq Vneq (KS ?_))
 refine Kc ?_ ?_
 ·intro h27
  have g28 := ne_of_bne h27
  refine KS ?_
  refine Oq (Vbd st39 [vi 0, .slice none 0 0]) (Oq Vm (Ost (Scl [0] sh39 [vi 0, .slice none 0 0]) (Oq Va (KS ?_))))
  refine Jl [] (Ent.slNil (α := BitVec 64)) ?_
  have hq := q4 hrr ((GSet.mk 0 []), rv23) (by simp only [r10_Right, h10, h15, h17, h20, h27, hg8, hg24, cs4]); subst hq
  exact Kr (.slice none 0 0) rfl (.cellN 1 rfl sh39 rfl (reads_Cl _ _) rfl (.tmp rfl .nil)) [0] en
 intro h27
 have g29 := eq_of_bne_false h27
 refine KS ?_
 refine Oq (VldA sh32 1) (Oq Vm (Oq Vm ?_))
 refine letv (r10_right s v n) fun rv31 hg32 => ?_
 have hc33 := fn131 s sa1 sk1 sa2 sk2 sa3 sk3 v va0 vk0 n pre pre hvs (values_len aM1) pre rv31 hg32
 refine Oc [2, 3, 4, 5] ca131 hc33 ?_
 rintro c30 he34
 unfold i64ok at he34
 refine Jo 0 ?_; rintro a35 k36 rfl
 refine Fb 8 0 fun _ => ?_
 refine Ost (Scl [1] sh39 [vi rv31.Width, vl a35 k36 rv31.Words]) (Oq Va (KS ?_))
 have hq := q4 hrr (rv31, 0) (by simp only [r10_Right, h10, h15, h17, h20, h27, hg8, hg24, hg32, cs4]); subst hq
 exact Kr (vl a35 k36 rv31.Words) rfl (.cellN 0 rfl sh39 rfl (reads_Cl _ _) rfl (.tmp rfl .nil)) [1] en
theorem fn52 (s : GSystem) (sa1 : Option Addr) (sk1 : Nat) (sa2 : Option Addr) (sk2 : Nat) (sa3 : Option Addr) (sk3 : Nat) (v : List GSet) (va0 : Option Addr) (vk0 : Nat) (hs_0 : i64ok s.Width) (rr : List GSet × Int) (hrr : r10_Next s v = rr) : FT Tryz.prog 52 #[.agg #[vi s.Width, vl sa1 sk1 s.Deps, vl sa2 sk2 s.Transfers, vl sa3 sk3 s.Boundary], vl va0 vk0 v] [S sa1 sk1 s.Deps, S sa2 sk2 s.Transfers, S sa3 sk3 s.Boundary, S va0 vk0 v] (fun g : Value => i64ok rr.2 ∧ (rr.1.length ≤ s.Boundary.length + 1)) (fun g => .tuple #[g, vi rr.2]) (fun g => [sl g rr.1]) := by
 refine FTi Tryz.func52 fun w0 M0 F0 => ?_
 unfold i64ok at hs_0
 refine Fb 24 0 fun _ => Fb 88 1 fun _ => Fb 32 2 fun _ => Fb 32 3 fun _ => KS ?_
 refine Oa (Ab [vi s.Width, vl sa1 sk1 s.Deps, vl sa2 sk2 s.Transfers, vl sa3 sk3 s.Boundary]) fun p5 => Oq Va (Oq Va (KS ?_))
 refine Oq Va (KS ?_)
 refine Oq Va (KS ?_)
 refine Jl [] (Ent.osNil (α := GSet)) ?_
 refine Kl (γ := Nat × List GSet × Int × Option Addr × Nat) (fun (r6, out_7, n_8, a9, k10) => ⟨[(1, vl va0 vk0 v), (2, p5), (6, vl a9 k10 out_7), (7, vi n_8)], [O a9 k10 out_7, pv p5 [vi s.Width, vl sa1 sk1 s.Deps, vl sa2 sk2 s.Transfers, vl sa3 sk3 s.Boundary], S sa1 sk1 s.Deps, S sa2 sk2 s.Transfers, S sa3 sk3 s.Boundary, S va0 vk0 v], r10_Next_L0 s v r6 out_7 n_8 = r10_Next_L0 s v ((((max (s.Boundary.length : Int) 1) : Int) - 0).toNat) [] 0 ∧ r6 = (((max (s.Boundary.length : Int) 1) : Int) - n_8).toNat ∧ (0 : Int) ≤ n_8 ∧ (n_8 ≤ (max (s.Boundary.length : Int) 1) ∨ n_8 = 0) ∧ (-9223372036854775808 ≤ n_8 ∧ n_8 ≤ 9223372036854775807) ∧ (out_7.length : Int) = n_8, r6⟩) ((((max (s.Boundary.length : Int) 1) : Int) - 0).toNat, [], 0, none, 0) [0, 0, 1, 2, 3, 4] ⟨rfl, rfl, aM1, (.inr rfl), aM1, iv0⟩ ?_
 rintro ⟨r6, out_7, n_8, a9, k10⟩ ⟨hM11, hr12, hi13, hi14, hk15, hv16⟩
 refine JJ_nx fun _ _ hL hA => ?_; dsimp only at hL hA; subst hL hA
 refine Fb 32 0 fun _ => Fb 24 2 fun _ => Fb 88 3 fun _ => Fb 32 4 fun _ => Fb 32 5 fun _ => KS ?_
 refine Oq Vm (Oq (Vfa fo32_3 1) (Oq (VldF sh24 1) (Oq (Vlen sl24) (Oq Vmax (Oq Vlss (KS ?_))))))
 refine Kc ?_ ?_
 ·intro h22
  have g23 := dt h22
  obtain ⟨r24, rfl⟩ := scc (n := r6) aM1
  refine KS ?_
  refine Oq (VldA sh32 1) (Oq Vm (Oq Vm ?_))
  refine letv (r10_Right s v n_8) fun rv26 hg27 => ?_
  have hc28 := fn88 s sa1 sk1 sa2 sk2 sa3 sk3 v va0 vk0 n_8 pre pre rv26 hg27
  refine Oc [2, 3, 4, 5] ca88 hc28 ?_
  rintro c25 ⟨he29, he30⟩
  unfold i64ok at he29 he30
  refine Jo 0 ?_; rintro a31 k32 rfl
  refine Fb 8 0 fun _ => ?_
  refine Oq Vm (Oq Vx (Oq Vx (Oa (Al ze39 [vi 0, .slice none 0 0]) fun p34 => Ost (Scl [0] sh39 [vi rv26.1.Width, vl a31 k32 rv26.1.Words]) (Oq Va (KS ?_)))))
  refine Oq Vm (Oq Vneq (KS ?_))
  refine Kc ?_ ?_
  ·intro h35
   have g36 := ne_of_bne h35
   refine KS ?_
   refine Oq Vm (Oq Va (Oq Va (KS ?_)))
   refine Jl [] (Ent.slNil (α := GSet)) ?_
   have hR37 := q2 hM11 (.ret (([] : List GSet), rv26.2)) (by simp only [r10_Next_L0, h22, h35, hg27, cs4])
   have hq := q4 hrr (([] : List GSet), rv26.2) (by simp only [r10_Next, h22, h35, hg27, hR37, cs4]); subst hq
   exact Kr (.slice none 0 0) rfl (.tmp rfl (.tmp rfl .nil)) [0] en
  intro h35
  have g38 := eq_of_bne_false h35
  refine KS ?_
  refine Oq Vm (Oq (VldA sh39 0) (Oa (AsV sl24 sz24 [.agg #[vi rv26.1.Width, vl a31 k32 rv26.1.Words]] [vi rv26.1.Width, vl a31 k32 rv26.1.Words]) fun c39 => ?_))
  refine Jo 0 ?_; rintro a40 k41 rfl
  refine Jl [0, 1] (Ent.cr1 (α := GSet) (A := [S a31 k32 rv26.1.Words]) _ rv26.1 _ aB1 (fun h => ⟨_, rfl, aL1, sepAll_get (i := 0) rfl h⟩)) ?_
  refine Oa (ApO [4, 0] sl24 sl24 sz24) fun c42 => ?_
  refine Jo 0 ?_; rintro a43 k44 rfl
  refine Fb 32 0 fun _ => ?_
  have hn46 := la out_7 ([rv26.1] : List GSet)
  refine Oq Va (KS ?_)
  refine Oq Vm (Oq Vadd (Oq Va (KS ?_)))
  exact Kg (r24, (out_7 ++ [rv26.1]), (n_8 + 1), a43, k44) [0, 3, 4, 5, 6, 7] ⟨(q3 hM11 (by simp only [r10_Next_L0, h22, h35, hg27, cs4])), aM1, aM1, aM1, aM1, iv1⟩
 intro h22
 have g47 := df h22
 obtain rfl : r6 = 0 := by omega
 refine Ke ?_
 have hR48 := q2 hM11 (.brk out_7) (by simp only [r10_Next_L0, h22, cs4])
 refine KS ?_
 refine Oq Vm (Oq Va (Oq Va (KS ?_)))
 refine Jl [0] (Ent.freeze _ _) ?_
 have hq := q4 hrr (out_7, 0) (by simp only [r10_Next, h22, hR48, cs4]); subst hq
 exact Kr (vl a9 k10 out_7) rfl (.tmp rfl (.tmp rfl .nil)) [0] en
theorem fn24 (s : GSystem) (sa1 : Option Addr) (sk1 : Nat) (sa2 : Option Addr) (sk2 : Nat) (sa3 : Option Addr) (sk3 : Nat) (hs_0 : i64ok s.Width) (rr : List GSet × Int × Int) (hrr : r10_Solve s = rr) : FT Tryz.prog 24 #[.agg #[vi s.Width, vl sa1 sk1 s.Deps, vl sa2 sk2 s.Transfers, vl sa3 sk3 s.Boundary]] [S sa1 sk1 s.Deps, S sa2 sk2 s.Transfers, S sa3 sk3 s.Boundary] (fun g : Value => i64ok rr.2.1 ∧ i64ok rr.2.2 ∧ (rr.1.length ≤ 257)) (fun g => .tuple #[g, vi rr.2.1, vi rr.2.2]) (fun g => [sl g rr.1]) := by
 refine FTi Tryz.func24 fun w0 M0 F0 => ?_
 unfold i64ok at hs_0
 refine Fb 24 0 fun _ => Fb 88 1 fun _ => Fb 32 2 fun _ => KS ?_
 refine Oa (Ab [vi s.Width, vl sa1 sk1 s.Deps, vl sa2 sk2 s.Transfers, vl sa3 sk3 s.Boundary]) fun p4 => Oq Va (Oq Va (Oq Va (KS ?_)))
 refine Oq (VldA sh32 0) ?_
 refine letv (r10_Valid s) fun rv5 hg6 => ?_
 have hc7 := fn50 s sa1 sk1 sa2 sk2 sa3 sk3 pre rv5 hg6
 refine Oc [1, 2, 3] ca50 hc7 ?_
 rintro - -
 refine Oq Vnot (KS ?_)
 refine Kc ?_ ?_
 ·intro h8
  have h10 := not_true h8
  refine KS ?_
  refine Oq Va (Oq Va (Oq Va (KS ?_)))
  refine Jl [] (Ent.slNil (α := GSet)) ?_
  have hq := q4 hrr (([] : List GSet), 0, 1) (by simp only [r10_Solve, h8, h10, hg6, cs4]); subst hq
  exact Kr (.slice none 0 0) rfl (.tmp rfl (.tmp rfl (.tmp rfl .nil))) [0] en
 intro h8
 have h13 := not_false h8
 try (have hvs := (RefValid_iff s).1 (by simp only [h8, h13, hg6]); have hv1 := hvs.n; have hv3 := hvs.bl; have hv4 := hvs.w; have hbb : s.Boundary.length * s.Width.toNat ≤ 256 * 256 := Nat.mul_le_mul aM1 aM1)
 refine KS ?_
 refine Oq (VldA sh32 0) ?_
 refine letv (r10_Empty s) fun rv16 hg17 => ?_
 have hc18 := fn51 s sa1 sk1 sa2 sk2 sa3 sk3 pre pre rv16 hg17
 refine Oc [1, 2, 3] ca51 hc18 ?_
 rintro c15 he19
 refine Jo 0 ?_; rintro a20 k21 rfl
 refine Fb 32 0 fun _ => ?_
 refine Oq Va (KS ?_)
 refine Oq Va (KS ?_)
 have hterm32 : r10_Solve_L0 s (s.Boundary.length * s.Width.toNat + 2) rv16 0 ≠ LR.oof := (Solve_term (by simp only [h8, h13, hg6, hg17]) (by assumption))
 refine Kl (γ := Nat × List GSet × Int × Option Addr × Nat) (fun (r23, v_24, round_25, a26, k27) => ⟨[(1, p4), (5, vl a26 k27 v_24), (6, vi round_25)], [S a26 k27 v_24, pv p4 [vi s.Width, vl sa1 sk1 s.Deps, vl sa2 sk2 s.Transfers, vl sa3 sk3 s.Boundary], S sa1 sk1 s.Deps, S sa2 sk2 s.Transfers, S sa3 sk3 s.Boundary], r10_Solve_L0 s r23 v_24 round_25 = r10_Solve_L0 s (s.Boundary.length * s.Width.toNat + 2) rv16 0 ∧ (-9223372036854775808 ≤ round_25 ∧ round_25 ≤ 9223372036854775807) ∧ 0 ≤ round_25 ∧ round_25 + (r23 : Int) = ((s.Boundary.length * s.Width.toNat + 2 : Nat) : Int) ∧ v_24.length ≤ s.Boundary.length + 1, r23⟩) ((s.Boundary.length * s.Width.toNat + 2), rv16, 0, a20, k21) [0, 1, 2, 3, 4] ⟨rfl, aM1, iv0, iv0⟩ ?_
 rintro ⟨r23, v_24, round_25, a26, k27⟩ ⟨hM28, hk29, hv30, hv31⟩
 refine JJ_nx fun _ _ hL hA => ?_; dsimp only at hL hA; subst hL hA
 refine Fb 32 0 fun _ => Fb 24 2 fun _ => Fb 88 3 fun _ => Fb 32 4 fun _ => ?_
 rcases r23 with _ | r23
 ·exact absurd (hM28.symm.trans rfl) hterm32
 refine KS ?_
 refine Oq (VldA sh32 1) (Oq Vm ?_)
 refine letv (r10_Next s v_24) fun rv38 hg39 => ?_
 have hc40 := fn52 s sa1 sk1 sa2 sk2 sa3 sk3 v_24 a26 k27 pre rv38 hg39
 refine Oc [2, 3, 4, 0] ca52 hc40 ?_
 rintro c37 ⟨he41, he42⟩
 unfold i64ok at he41
 refine Jo 0 ?_; rintro a43 k44 rfl
 refine Fb 32 0 fun _ => ?_
 refine Oq Vm (Oq Vx (Oq Vx (Oq Va (Oq Va (KS ?_)))))
 refine Oq Vm (Oq Vm ?_)
 refine letv (r10_SameSets rv38.1 v_24) fun rv46 hg47 => ?_
 have hc48 := fn37 rv38.1 a43 k44 v_24 a26 k27 rv46 hg47
 refine Oc [0, 1] ca37 hc48 ?_
 rintro - -
 refine KS ?_
 refine Kc ?_ ?_
 ·intro h49
  try (have hvs := (RefValid_iff s).1 (by simp only [h8, h13, h49, hg6, hg17, hg39, hg47]); have hv1 := hvs.n; have hv3 := hvs.bl; have hv4 := hvs.w; have hbb : s.Boundary.length * s.Width.toNat ≤ 256 * 256 := Nat.mul_le_mul aM1 aM1)
  refine KS ?_
  refine Oq Vm (Oq Vm (Oq Va (Oq Va (Oq Va (KS ?_)))))
  have hR51 := q2 hM28 (.ret (v_24, round_25, 0)) (by simp only [r10_Solve_L0, h49, hg39, hg47, cs4])
  have hq := q4 hrr (v_24, round_25, 0) (by simp only [r10_Solve, h8, h13, h49, hg6, hg17, hg39, hg47, hR51, cs4]); subst hq
  exact Kr (vl a26 k27 v_24) rfl (.tmp rfl (.tmp rfl (.tmp rfl .nil))) [1] en
 intro h49
 refine KS ?_
 refine Oq Vm (Oq Va (KS ?_))
 refine Oq Vm (Oq Vadd (Oq Va (KS ?_)))
 exact Kg (r23, rv38.1, (round_25 + 1), a43, k44) [0, 2, 3, 4, 5] ⟨(q3 hM28 (by simp only [r10_Solve_L0, h49, hg39, hg47, cs4])), aM1, iv1, iv1⟩
theorem fn6 (l : List Int) (la0 : Option Addr) (lk0 : Nat) (rr : Unit) (hrr : g_New l = rr) : FT Tryz.prog 6 #[vl la0 lk0 l] [S la0 lk0 l] (fun g : Value => True) (fun g => g) (fun g => [Cl g [vl la0 lk0 l, vi 0]]) := by
 refine FTi Tryz.func6 fun w0 M0 F0 => Fb 8 0 fun _ => Fo 0 fun ho2 => ?_
 refine KS ?_
 refine Oq Va (KS ?_)
 refine Oq Vm (Oq (Vbd st65 [vl la0 lk0 l, vi 0]) (Oa (AbO [vl la0 lk0 l, vi 0]) fun p3 => Oq Va (KS ?_)))
 have hq := q4 hrr () (by simp only [g_New, cs4]); subst hq
 exact Kr p3 rfl (.tmp rfl .nil) [0] trivial
theorem fn5 (t : List Int) (ta0 : Option Addr) (tk0 : Nat) (rr : Bool) (hrr : w18_ResumeContinues t = rr) : FT Tryz.prog 5 #[vl ta0 tk0 t] [S ta0 tk0 t, pv (gp 0) (tabV .u8 tzT), tbx 2 (tabV .u64 pw10)] (fun g : Unit => True) (fun g => vb rr) (fun g => []) := by
 refine FTi Tryz.func5 fun w0 M0 F0 => Fb 8 0 fun _ => Fo 0 fun ho2 => ?_
 refine KS ?_
 refine Oq Va (KS ?_)
 refine Oq Vm ?_
 refine letv (g_New t) fun rv4 hg5 => ?_
 have hc6 := fn6 t ta0 tk0 rv4 hg5
 refine Oc [0] ca6 hc6 ?_
 rintro c3 -
 refine Oq Va (KS ?_)
 refine Oq Vm ?_
 refine letv (tp_System t 0 5) fun rv10 hg11 => ?_
 have hc12 := fn19 c3 ta0 tk0 t 0 5 pre pre pre rv10 hg11
 refine Oc [0, 0] ca19 hc12 ?_
 rintro ⟨c7, c8, c9⟩ ⟨he13, he14, he15⟩
 unfold i64ok at he13
 refine Jo 0 ?_; rintro a16 k17 rfl
 refine Fb 24 0 fun _ => ?_
 refine Jo 1 ?_; rintro a19 k20 rfl
 refine Fb 88 1 fun _ => ?_
 refine Jo 2 ?_; rintro a22 k23 rfl
 refine Fb 32 2 fun _ => ?_
 have hds := System_facts (by assumption : tp_System t 0 5 = rv10) aM1
 obtain ⟨hd1, hd2, hd3⟩ := hds
 have hv1 := hd1.n
 have hv2 := hd1.tl
 have hv3 := hd1.bl
 have hv4 := hd1.w
 have hv5 := hd1.dep_len
 refine Oa (Al ze32 [vi 0, .slice none 0 0, .slice none 0 0, .slice none 0 0]) fun p25 => Ost (Scl [0] sh32 [vi rv10.1.Width, vl a16 k17 rv10.1.Deps, vl a19 k20 rv10.1.Transfers, vl a22 k23 rv10.1.Boundary]) (KS ?_)
 refine Oq Vm (Oq (Vfa fo32_1 0) (Oq (VldF sh29 0) (Oq (Vlen sl29) ?_)))
 refine letv (tp_Next t rv10.2 (rv10.1.Deps.length : Int)) fun rv26 hg27 => ?_
 have hnx := Next_g hg27
 have hc28 := fn9 c3 ta0 tk0 t rv10.2 ((rv10.1.Deps.length : Int)) pre pre rv26 hg27
 refine Oc [4, 4] ca9 hc28 ?_
 rintro - ⟨he29, he30, he31⟩
 unfold i64ok at he29
 refine Oq Va (KS ?_)
 refine Oq Vm ?_
 refine letv (so_Start rv26.1) fun rv36 hg37 => ?_
 have hc38 := fn20 rv26.1 pre rv36 hg37
 refine Oc [] ca20 hc38 ?_
 rintro ⟨c32, c33, c34, c35⟩ ⟨he39, he40, he41, he42⟩
 unfold i64ok at he39 he40 he41 he42
 refine Jo 0 ?_; rintro a43 k44 rfl
 refine Fb 8 0 fun _ => Fo 0 fun ho46 => ?_
 refine Jo 1 ?_; rintro a47 k48 rfl
 refine Fb 1 1 fun _ => ?_
 refine Jo 2 ?_; rintro a50 k51 rfl
 refine Fb 32 2 fun _ => ?_
 refine Jo 3 ?_; rintro a53 k54 rfl
 refine Fb 8 3 fun _ => Fo 3 fun ho56 => Oq Vm ?_
 have hc61 := fn20 rv26.1 pre rv36 hg37
 refine Oc [] ca20 hc61 ?_
 rintro ⟨c57, c58, c59, c60⟩ ⟨he62, he63, he64, he65⟩
 unfold i64ok at he62 he63 he64 he65
 refine Jo 0 ?_; rintro a66 k67 rfl
 refine Jo 1 ?_; rintro a68 k69 rfl
 refine Jo 2 ?_; rintro a70 k71 rfl
 refine Jo 3 ?_; rintro a72 k73 rfl
 refine Oa (Al ze26 [vi 0, .slice none 0 0, .slice none 0 0, vi 0, vi 0, .slice none 0 0, .slice none 0 0, vi 0]) fun p74 => Oa (Al ze26 [vi 0, .slice none 0 0, .slice none 0 0, vi 0, vi 0, .slice none 0 0, .slice none 0 0, vi 0]) fun p75 => Ost (Scl [1] sh26 [vi rv36.Phase, vl a43 k44 rv36.Cone, vl a47 k48 rv36.Leaf, vi rv36.At, vi rv36.Edge, vl a50 k51 rv36.Values, vl a53 k54 rv36.Queue, vi rv36.Steps]) (Ost (Scl [1] sh26 [vi rv36.Phase, vl a66 k67 rv36.Cone, vl a68 k69 rv36.Leaf, vi rv36.At, vi rv36.Edge, vl a70 k71 rv36.Values, vl a72 k73 rv36.Queue, vi rv36.Steps]) (KS ?_))
 refine Oq Va (KS ?_)
 refine Kl (γ := Nat × Int × List Int × List Bool × Int × Int × List GSet × List Int × Int × Int × List Int × List Bool × Int × Int × List GSet × List Int × Int × Int × Option Addr × Nat × Option Addr × Nat × Option Addr × Nat × Option Addr × Nat × Option Addr × Nat × Option Addr × Nat × Option Addr × Nat × Option Addr × Nat) (fun (r76, a0_77, a1_78, a2_79, a3_80, a4_81, a5_82, a6_83, a7_84, b0_85, b1_86, b2_87, b3_88, b4_89, b5_90, b6_91, b7_92, n_93, a94, k95, a96, k97, a98, k99, a100, k101, a102, k103, a104, k105, a106, k107, a108, k109) => ⟨[(4, p25), (5, vi rv26.1), (6, p74), (7, p75), (8, vi n_93)], [S a108 k109 b6_91, S a106 k107 b5_90, S a104 k105 b2_87, S a102 k103 b1_86, S a100 k101 a6_83, S a98 k99 a5_82, S a96 k97 a2_79, S a94 k95 a1_78, Cl p75 [vi b0_85, vl a102 k103 b1_86, vl a104 k105 b2_87, vi b3_88, vi b4_89, vl a106 k107 b5_90, vl a108 k109 b6_91, vi b7_92], Cl p74 [vi a0_77, vl a94 k95 a1_78, vl a96 k97 a2_79, vi a3_80, vi a4_81, vl a98 k99 a5_82, vl a100 k101 a6_83, vi a7_84], Cl p25 [vi rv10.1.Width, vl a16 k17 rv10.1.Deps, vl a19 k20 rv10.1.Transfers, vl a22 k23 rv10.1.Boundary], S a16 k17 rv10.1.Deps, S a19 k20 rv10.1.Transfers, S a22 k23 rv10.1.Boundary, pv (gp 0) (tabV .u8 tzT), tbx 2 (tabV .u64 pw10)], w18_ResumeContinues_L0 rv10.1.Width rv10.1.Deps rv10.1.Transfers rv10.1.Boundary r76 a0_77 a1_78 a2_79 a3_80 a4_81 a5_82 a6_83 a7_84 b0_85 b1_86 b2_87 b3_88 b4_89 b5_90 b6_91 b7_92 n_93 = w18_ResumeContinues_L0 rv10.1.Width rv10.1.Deps rv10.1.Transfers rv10.1.Boundary 80 rv36.Phase rv36.Cone rv36.Leaf rv36.At rv36.Edge rv36.Values rv36.Queue rv36.Steps rv36.Phase rv36.Cone rv36.Leaf rv36.At rv36.Edge rv36.Values rv36.Queue rv36.Steps 0 ∧ r76 = ((80 : Int) - n_93).toNat ∧ (0 : Int) ≤ n_93 ∧ n_93 ≤ 80 ∧ (-9223372036854775808 ≤ a0_77 ∧ a0_77 ≤ 9223372036854775807) ∧ (-9223372036854775808 ≤ a3_80 ∧ a3_80 ≤ 9223372036854775807) ∧ (-9223372036854775808 ≤ a4_81 ∧ a4_81 ≤ 9223372036854775807) ∧ (-9223372036854775808 ≤ a7_84 ∧ a7_84 ≤ 9223372036854775807) ∧ (-9223372036854775808 ≤ b0_85 ∧ b0_85 ≤ 9223372036854775807) ∧ (-9223372036854775808 ≤ b3_88 ∧ b3_88 ≤ 9223372036854775807) ∧ (-9223372036854775808 ≤ b4_89 ∧ b4_89 ≤ 9223372036854775807) ∧ (-9223372036854775808 ≤ b7_92 ∧ b7_92 ≤ 9223372036854775807) ∧ (-9223372036854775808 ≤ n_93 ∧ n_93 ≤ 9223372036854775807), r76⟩) (80, rv36.Phase, rv36.Cone, rv36.Leaf, rv36.At, rv36.Edge, rv36.Values, rv36.Queue, rv36.Steps, rv36.Phase, rv36.Cone, rv36.Leaf, rv36.At, rv36.Edge, rv36.Values, rv36.Queue, rv36.Steps, 0, a43, k44, a47, k48, a50, k51, a53, k54, a66, k67, a68, k69, a70, k71, a72, k73) [5, 4, 3, 2, 9, 8, 7, 6, 0, 0, 9, 9, 10, 11, 13, 14] ⟨rfl, rfl, aM1, aM1, aM1, aM1, aM1, aM1, aM1, aM1, aM1, aM1, aM1⟩ ?_
 rintro ⟨r76, a0_77, a1_78, a2_79, a3_80, a4_81, a5_82, a6_83, a7_84, b0_85, b1_86, b2_87, b3_88, b4_89, b5_90, b6_91, b7_92, n_93, a94, k95, a96, k97, a98, k99, a100, k101, a102, k103, a104, k105, a106, k107, a108, k109⟩ ⟨hM110, hr111, hi112, hi113, hk114, hk115, hk116, hk117, hk118, hk119, hk120, hk121, hk122⟩
 refine JJ_nx fun _ _ hL hA => ?_; dsimp only at hL hA; subst hL hA
 refine Fb 8 0 fun _ => Fo 0 fun ho124 => Fb 32 1 fun _ => Fb 1 2 fun _ => Fb 8 3 fun _ => Fo 3 fun ho128 => Fb 8 4 fun _ => Fo 4 fun ho130 => ?_
 refine Fb 32 5 fun _ => Fb 1 6 fun _ => Fb 8 7 fun _ => Fo 7 fun ho134 => Fb 24 11 fun _ => Fb 88 12 fun _ => Fb 32 13 fun _ => KS ?_
 refine Oq Vm (Oq Vlss (Oq Vm ?_))
 refine Js 41 ?_ ?_
 ·intro h138
  have g139 := dt h138
  obtain ⟨r140, rfl⟩ := scc (n := r76) aM1
  refine Oq (Vfa fo26_0 9) (Oq (VldF sh3 9) (Oq Vneq (Oq Vpt (KS ?_))))
  refine Kc ?_ ?_
  ·intro h141
   have g142 := ne_of_bne h141
   refine KS ?_
   refine Oq (VldA sh26 8) ?_
   refine letv (resume_Encode (GState.mk b0_85 b1_86 b2_87 b3_88 b4_89 b5_90 b6_91 b7_92)) fun rv144 hg145 => ?_
   have hc146 := fn21 ((GState.mk b0_85 b1_86 b2_87 b3_88 b4_89 b5_90 b6_91 b7_92)) a102 k103 a104 k105 a106 k107 a108 k109 pre pre pre pre rv144 hg145
   refine Oc [3, 2, 1, 0, 14] ca21 hc146 ?_
   rintro c143 ⟨he147, he148⟩
   unfold i64ok at he147
   refine Jo 0 ?_; rintro a149 k150 rfl
   refine Fb 1 0 fun _ => ?_
   refine Oq Vm (Oq Vx (Oq Vx (Oq Va (Oq Va (KS ?_)))))
   refine Oq Vm ?_
   refine Jl [0] (Ent.freeze _ _) ?_
   refine letv (resume_Decode rv144.1) fun rv156 hg157 => ?_
   have hc158 := fn14 rv144.1 a149 k150 pre rv156 hg157
   refine Oc [0] ca14 hc158 ?_
   rintro ⟨c152, c153, c154, c155⟩ ⟨he159, he160, he161, he162, he163⟩
   unfold i64ok at he159 he160 he161 he162 he163
   refine Jo 0 ?_; rintro a164 k165 rfl
   refine Fb 8 0 fun _ => Fo 0 fun ho167 => ?_
   refine Jo 1 ?_; rintro a168 k169 rfl
   refine Fb 1 1 fun _ => ?_
   refine Jo 2 ?_; rintro a171 k172 rfl
   refine Fb 32 2 fun _ => ?_
   refine Jo 3 ?_; rintro a174 k175 rfl
   refine Fb 8 3 fun _ => Fo 3 fun ho177 => ?_
   refine Oq Vm (Oq Vx (Oq Vx (Oa (Al ze26 [vi 0, .slice none 0 0, .slice none 0 0, vi 0, vi 0, .slice none 0 0, .slice none 0 0, vi 0]) fun p178 => Ost (Scl [0] sh26 [vi rv156.1.Phase, vl a164 k165 rv156.1.Cone, vl a168 k169 rv156.1.Leaf, vi rv156.1.At, vi rv156.1.Edge, vl a171 k172 rv156.1.Values, vl a174 k175 rv156.1.Queue, vi rv156.1.Steps]) (Oq Va (KS ?_)))))
   refine Oq (VldA sh32 16) (Oq (VldA sh26 15) ?_)
   refine Jl [] (Ent.slNil (α := GKnown)) ?_
   refine letv (so_Step rv10.1 ([] : List GKnown) (GState.mk a0_77 a1_78 a2_79 a3_80 a4_81 a5_82 a6_83 a7_84)) fun rv183 hg184 => ?_
   have hc185 := fn22 rv10.1 a16 k17 a19 k20 a22 k23 (([] : List GKnown)) none 0 ((GState.mk a0_77 a1_78 a2_79 a3_80 a4_81 a5_82 a6_83 a7_84)) a94 k95 a96 k97 a98 k99 a100 k101 pre pre pre pre pre rv183 hg184
   refine Oc [18, 19, 20, 0, 14, 13, 12, 11] ca22 hc185 ?_
   rintro ⟨c179, c180, c181, c182⟩ ⟨he186, he187, he188, he189, he190, he191⟩
   unfold i64ok at he186 he187 he188 he189 he190 he191
   refine Jo 0 ?_; rintro a192 k193 rfl
   refine Fb 8 0 fun _ => Fo 0 fun ho195 => ?_
   refine Jo 1 ?_; rintro a196 k197 rfl
   refine Fb 1 1 fun _ => ?_
   refine Jo 2 ?_; rintro a199 k200 rfl
   refine Fb 32 2 fun _ => ?_
   refine Jo 3 ?_; rintro a202 k203 rfl
   refine Fb 8 3 fun _ => Fo 3 fun ho205 => ?_
   refine Oq Vm (Oq Vx (Oq Vx (Oq Vx (Oa (Al ze26 [vi 0, .slice none 0 0, .slice none 0 0, vi 0, vi 0, .slice none 0 0, .slice none 0 0, vi 0]) fun p206 => Ost (Scl [0] sh26 [vi rv183.1.Phase, vl a192 k193 rv183.1.Cone, vl a196 k197 rv183.1.Leaf, vi rv183.1.At, vi rv183.1.Edge, vl a199 k200 rv183.1.Values, vl a202 k203 rv183.1.Queue, vi rv183.1.Steps]) (Oq Va (Oq Va (KS ?_)))))))
   refine Oq (VldA sh32 22) (Oq (VldA sh26 6) ?_)
   refine letv (so_Step rv10.1 ([] : List GKnown) rv156.1) fun rv211 hg212 => ?_
   have hc213 := fn22 rv10.1 a16 k17 a19 k20 a22 k23 (([] : List GKnown)) none 0 rv156.1 a164 k165 a168 k169 a171 k172 a174 k175 pre pre pre pre pre rv211 hg212
   refine Oc [23, 24, 25, 5, 7, 8, 9, 10] ca22 hc213 ?_
   rintro ⟨c207, c208, c209, c210⟩ ⟨he214, he215, he216, he217, he218, he219⟩
   unfold i64ok at he214 he215 he216 he217 he218 he219
   refine Jo 0 ?_; rintro a220 k221 rfl
   refine Fb 8 0 fun _ => Fo 0 fun ho223 => ?_
   refine Jo 1 ?_; rintro a224 k225 rfl
   refine Fb 1 1 fun _ => ?_
   refine Jo 2 ?_; rintro a227 k228 rfl
   refine Fb 32 2 fun _ => ?_
   refine Jo 3 ?_; rintro a230 k231 rfl
   refine Fb 8 3 fun _ => Fo 3 fun ho233 => ?_
   refine Oq Vm (Oq Vx (Oq Vx (Oq Vx (Oa (Al ze26 [vi 0, .slice none 0 0, .slice none 0 0, vi 0, vi 0, .slice none 0 0, .slice none 0 0, vi 0]) fun p234 => Ost (Scl [0] sh26 [vi rv211.1.Phase, vl a220 k221 rv211.1.Cone, vl a224 k225 rv211.1.Leaf, vi rv211.1.At, vi rv211.1.Edge, vl a227 k228 rv211.1.Values, vl a230 k231 rv211.1.Queue, vi rv211.1.Steps]) (Oq Va (Oq Va (KS ?_)))))))
   refine Oq Vm (Oq Vneq (Oq Vm ?_))
   refine Js 74 ?_ ?_
   ·intro h235
    have g236 := ne_of_bne h235
    refine Osk (Osk (Oq Vpt (Oq Vm (Osk (Osk (Oq Vpt (Oq Vm (Osk (Osk ?_)))))))))
    refine Oq Vpt (Oq Vm (Osk (Osk (Osk (Osk (Oq Vpt (KS ?_)))))))
    refine Kt (KS ?_)
    refine Oq Va (KS ?_)
    have hR237 := q2 hM110 (.ret false) (by simp only [w18_ResumeContinues_L0, h138, h141, h235, hg145, hg157, hg184, hg212, cs4])
    have hq := q4 hrr false (by unfold w18_ResumeContinues; simp only [h138, h141, h235, hg5, hg11, hg27, hg37, hg145, hg157, hg184, hg212, hR237, cs4]); subst hq
    exact Kr () rfl (.tmp rfl .nil) [] trivial
   intro h235
   have g238 := eq_of_bne_false h235
   refine Oq Vm (Oq Vneq (Oq Vpf (Oq Vm ?_)))
   refine Js 78 ?_ ?_
   ·intro h239
    have g240 := ne_of_bne h239
    refine Osk (Osk (Oq Vpt (Oq Vm (Osk (Osk (Oq Vpt (Oq Vm (Osk (Osk ?_)))))))))
    refine Osk (Osk (Oq Vpt (KS ?_)))
    refine Kt (KS ?_)
    refine Oq Va (KS ?_)
    have hR241 := q2 hM110 (.ret false) (by simp only [w18_ResumeContinues_L0, h138, h141, h235, h239, hg145, hg157, hg184, hg212, cs4])
    have hq := q4 hrr false (by unfold w18_ResumeContinues; simp only [h138, h141, h235, h239, hg5, hg11, hg27, hg37, hg145, hg157, hg184, hg212, hR241, cs4]); subst hq
    exact Kr () rfl (.tmp rfl .nil) [] trivial
   intro h239
   have g242 := eq_of_bne_false h239
   refine Oq Vm (Oq Vneq (Oq Vpf (Oq Vm ?_)))
   refine Js 82 ?_ ?_
   ·intro h243
    have g244 := ne_of_bne h243
    refine Osk (Osk (Oq Vpt (Oq Vm (Osk (Osk (Osk (Osk (Oq Vpt (KS ?_)))))))))
    refine Kt (KS ?_)
    refine Oq Va (KS ?_)
    have hR245 := q2 hM110 (.ret false) (by simp only [w18_ResumeContinues_L0, h138, h141, h235, h239, h243, hg145, hg157, hg184, hg212, cs4])
    have hq := q4 hrr false (by unfold w18_ResumeContinues; simp only [h138, h141, h235, h239, h243, hg5, hg11, hg27, hg37, hg145, hg157, hg184, hg212, hR245, cs4]); subst hq
    exact Kr () rfl (.tmp rfl .nil) [] trivial
   intro h243
   have g246 := eq_of_bne_false h243
   refine Oq Vm (Oq Vneq (Oq Vpf (Oq Vm ?_)))
   refine Js 86 ?_ ?_
   ·intro h247
    have g248 := ne_of_bne h247
    refine Osk (Osk (Osk (Osk (Oq Vpt (KS ?_)))))
    refine Kt (KS ?_)
    refine Oq Va (KS ?_)
    have hR249 := q2 hM110 (.ret false) (by simp only [w18_ResumeContinues_L0, h138, h141, h235, h239, h243, h247, hg145, hg157, hg184, hg212, cs4])
    have hq := q4 hrr false (by unfold w18_ResumeContinues; simp only [h138, h141, h235, h239, h243, h247, hg5, hg11, hg27, hg37, hg145, hg157, hg184, hg212, hR249, cs4]); subst hq
    exact Kr () rfl (.tmp rfl .nil) [] trivial
   intro h247
   have g250 := eq_of_bne_false h247
   refine Oq (VldA sh26 5) (Oq (VldA sh26 0) ?_)
   refine letv (r14_SameState rv183.1 rv211.1) fun rv251 hg252 => ?_
   have hc253 := fn15 rv183.1 a192 k193 a196 k197 a199 k200 a202 k203 rv211.1 a220 k221 a224 k225 a227 k228 a230 k231 pre pre pre pre pre pre pre pre rv251 hg252
   refine Oc [6, 7, 8, 9, 1, 2, 3, 4] ca15 hc253 ?_
   rintro - -
   refine Oq Vnot (Oq Vpf (KS ?_))
   refine Kc ?_ ?_
   ·intro h254
    have h256 := not_true h254
    refine KS ?_
    refine Oq Va (KS ?_)
    have hR258 := q2 hM110 (.ret false) (by simp only [w18_ResumeContinues_L0, h138, h141, h235, h239, h243, h247, h254, h256, hg145, hg157, hg184, hg212, hg252, cs4])
    have hq := q4 hrr false (by unfold w18_ResumeContinues; simp only [h138, h141, h235, h239, h243, h247, h254, h256, hg5, hg11, hg27, hg37, hg145, hg157, hg184, hg212, hg252, hR258, cs4]); subst hq
    exact Kr () rfl (.tmp rfl .nil) [] trivial
   intro h254
   have h260 := not_false h254
   refine KS ?_
   refine JK_drawK [0, 0, 1, 7] fmix ?_
   refine Dv [5] (VldA sh26 0) (Dv [0] (VldA sh26 0) (Dx0 [26] [26] [0] [fun G => Cl p74 [vi rv183.1.Phase, vl a192 k193 rv183.1.Cone, vl a196 k197 rv183.1.Leaf, vi rv183.1.At, vi rv183.1.Edge, vl a199 k200 rv183.1.Values, vl a202 k203 rv183.1.Queue, vi rv183.1.Steps]] (fun G => xS (Scl [0] sh26 [vi rv183.1.Phase, vl a192 k193 rv183.1.Cone, vl a196 k197 rv183.1.Leaf, vi rv183.1.At, vi rv183.1.Edge, vl a199 k200 rv183.1.Values, vl a202 k203 rv183.1.Queue, vi rv183.1.Steps])) (Dx0 [25] [25] [0] [fun G => Cl p75 [vi rv211.1.Phase, vl a220 k221 rv211.1.Cone, vl a224 k225 rv211.1.Leaf, vi rv211.1.At, vi rv211.1.Edge, vl a227 k228 rv211.1.Values, vl a230 k231 rv211.1.Queue, vi rv211.1.Steps]] (fun G => xS (Scl [0] sh26 [vi rv211.1.Phase, vl a220 k221 rv211.1.Cone, vl a224 k225 rv211.1.Leaf, vi rv211.1.At, vi rv211.1.Edge, vl a227 k228 rv211.1.Values, vl a230 k231 rv211.1.Queue, vi rv211.1.Steps])) ?_)))
   refine Dn ⟨by kernel_rfl, fun G => ?_⟩
   refine Jw2 [(4, p25), (5, vi rv26.1), (6, p74), (7, p75), (8, vi n_93)] [0, 1, 2, 3, 4, 5, 6, 7, 8, 9, 10, 11, 12, 13, 14, 15, 16, 17, 18, 19, 20, 21, 22, 23, 24, 27, 28, 29, 30, 31, 32] [Cl p74 [vi rv183.1.Phase, vl a192 k193 rv183.1.Cone, vl a196 k197 rv183.1.Leaf, vi rv183.1.At, vi rv183.1.Edge, vl a199 k200 rv183.1.Values, vl a202 k203 rv183.1.Queue, vi rv183.1.Steps], Cl p75 [vi rv211.1.Phase, vl a220 k221 rv211.1.Cone, vl a224 k225 rv211.1.Leaf, vi rv211.1.At, vi rv211.1.Edge, vl a227 k228 rv211.1.Values, vl a230 k231 rv211.1.Queue, vi rv211.1.Steps]] ?_
   refine KS ?_
   refine Oq Vm (Oq Vadd (Oq Va (KS ?_)))
   exact Kg (r140, rv183.1.Phase, rv183.1.Cone, rv183.1.Leaf, rv183.1.At, rv183.1.Edge, rv183.1.Values, rv183.1.Queue, rv183.1.Steps, rv211.1.Phase, rv211.1.Cone, rv211.1.Leaf, rv211.1.At, rv211.1.Edge, rv211.1.Values, rv211.1.Queue, rv211.1.Steps, (n_93 + 1), a192, k193, a196, k197, a199, k200, a202, k203, a220, k221, a224, k225, a227, k228, a230, k231) [4, 3, 2, 1, 9, 8, 7, 6, 32, 31, 25, 25, 26, 27, 28, 29] ⟨(q3 hM110 (by simp only [w18_ResumeContinues_L0, h138, h141, h235, h239, h243, h247, h254, h260, hg145, hg157, hg184, hg212, hg252, cs4])), aM1, aM1, aM1, aM1, aM1, aM1, aM1, aM1, aM1, aM1, aM1, aM1⟩
  intro h141
  have g262 := eq_of_bne_false h141
  refine Ke ?_
  have hR263 := q2 hM110 (.brk (a0_77, a1_78, a2_79, a3_80, a4_81, a5_82, a6_83, a7_84, b0_85, b1_86, b2_87, b3_88, b4_89, b5_90, b6_91, b7_92)) (by simp only [w18_ResumeContinues_L0, h138, h141, cs4])
  refine KS ?_
  refine Oq (VldA sh26 9) ?_
  refine letv (so_Answer (GState.mk a0_77 a1_78 a2_79 a3_80 a4_81 a5_82 a6_83 a7_84)) fun rv265 hg266 => ?_
  have hc267 := fn23 ((GState.mk a0_77 a1_78 a2_79 a3_80 a4_81 a5_82 a6_83 a7_84)) a94 k95 a96 k97 a98 k99 a100 k101 pre pre pre pre rv265 hg266
  refine Oc [7, 6, 5, 4] ca23 hc267 ?_
  rintro c264 he268
  unfold i64ok at he268
  refine Jo 0 ?_; rintro a269 k270 rfl
  refine Fb 8 0 fun _ => ?_
  refine Oq Vm (Oq Vx (Oq Vx (Oa (Al ze39 [vi 0, .slice none 0 0]) fun p272 => Ost (Scl [0] sh39 [vi rv265.1.Width, vl a269 k270 rv265.1.Words]) (Oq Va (KS ?_)))))
  refine Oq (VldA sh26 10) ?_
  refine letv (so_Answer (GState.mk b0_85 b1_86 b2_87 b3_88 b4_89 b5_90 b6_91 b7_92)) fun rv274 hg275 => ?_
  have hc276 := fn23 ((GState.mk b0_85 b1_86 b2_87 b3_88 b4_89 b5_90 b6_91 b7_92)) a102 k103 a104 k105 a106 k107 a108 k109 pre pre pre pre rv274 hg275
  refine Oc [5, 4, 3, 2] ca23 hc276 ?_
  rintro c273 he277
  unfold i64ok at he277
  refine Jo 0 ?_; rintro a278 k279 rfl
  refine Fb 8 0 fun _ => ?_
  refine Oq Vm (Oq Vx (Oq Vx (Oa (Al ze39 [vi 0, .slice none 0 0]) fun p281 => Ost (Scl [0] sh39 [vi rv274.1.Width, vl a278 k279 rv274.1.Words]) (Oq Va (KS ?_)))))
  refine Oq (VldA sh32 14) ?_
  refine letv (r10_Solve rv10.1) fun rv283 hg284 => ?_
  have hc285 := fn24 rv10.1 a16 k17 a19 k20 a22 k23 pre rv283 hg284
  refine Oc [15, 16, 17] ca24 hc285 ?_
  rintro c282 ⟨he286, he287, he288⟩
  unfold i64ok at he286 he287
  refine Jo 0 ?_; rintro a289 k290 rfl
  refine Fb 32 0 fun _ => ?_
  have hsl := rSolve_len (by assumption : r10_Solve rv10.1 = rv283) hd1
  refine Oq Vm (Oq Vx (Oq Vx (Oq Vx (Oq Va (Oq Va (Oq Va (KS ?_)))))))
  refine bool_split (rv265.2 == rv274.2) ?_ ?_
  ·intro h292
   refine letv (r1_Same rv274.1 rv265.1) fun rv294 hg295 => ?_
   refine bool_split rv294 ?_ ?_
   ·intro h296
    refine bool_split (!rv265.2) ?_ ?_
    ·intro h298
     have h300 := not_true h298
     have h302 := h292; rw [h300] at h302
     refine JK_drawK [0, 0, 3, 7, 15, 15, 63, 127, 255, 511, 1023, 2047, 4095, 4095, 4095, 28671, 61439, 131071, 262143, 524287, 1048575, 2097151, 4194303, 8388607] fmix ?_
     refine Dv [] Vm (Dv [] Vm (Db h292 [] (Veb un4) (Dv [] Vm (Dv [1] (VldA sh39 0) (Dv [3] (VldA sh39 0) ?_)))))
     refine Dx [2, 4] [] [1, 2, 0] (fun G => vb true) [fun G => SP.fact (True)] (fun G => xC [0, 1] ca25 (fn25 rv274.1 a278 k279 rv265.1 a269 k270 pre pre rv294 hg295)) ?_ (hV := fun _ _ => congrArg Value.bool h296)
     refine Dv [] Vpt (Dv [] Vm (Dv [] Vm (Db h298 [] Vnot (Dv [] Vm (Ds (Ds (Ds (Ds (Ds ?_)))))))))
     refine Ds (Dv [] Vpt (Dv [] Vpt (Dv [] Vm (Dx [19, 20] [] [1, 2, 0] (fun G => vb w18_sane) [fun G => SP.fact (True)] (fun G => xC [0, 1] ca12 (fn12  w18_sane rfl)) (Dv [] Vpt (Dv [] Va ?_))))))
     refine Dn ⟨by kernel_rfl, fun G => ?_⟩
     refine Jw2 [(2, vb w18_sane)] [0, 1, 2, 3, 4, 5, 6, 7, 8, 9, 10, 11, 12, 13, 14, 15, 16, 17, 18, 19, 20] [SP.fact (True), SP.fact (True)] ?_
     refine Jk [0, 1, 1, 2, 2, 3, 4, 5, 6, 7, 8, 9, 10, 11, 11, 11, 11, 12, 13, 14, 15] ?_
     have hq := q4 hrr w18_sane (by unfold w18_ResumeContinues; simp only [h138, h141, h292, h296, h298, h300, hg5, hg11, hg27, hg37, hR263, hg266, hg275, hg284, hg295, h302, cs4]); subst hq
     exact Kr () rfl (.tmp rfl .nil) [] trivial
    intro h298
    have h304 := not_false h298
    have h306 := h292; rw [h304] at h306
    refine JJ_peek_GSet rv26.1.toNat 0 rfl rng fun a307 k308 hb309 => ?_
    unfold i64ok at hb309
    refine Fb 8 1 fun _ => ?_
    refine JK_drawK [0, 0, 3, 7, 15, 15, 63, 127, 255, 511, 1023, 2047, 4095, 4095, 4095, 28671, 61439, 131071, 262143, 524287, 1048575, 2097151, 4194303, 8388607] fmix ?_
    refine Dv [] Vm (Dv [] Vm (Db h292 [] (Veb un4) (Dv [] Vm (Dv [3] (VldA sh39 0) (Dv [5] (VldA sh39 0) ?_)))))
    refine Dx [4, 6] [] [1, 2, 0] (fun G => vb true) [fun G => SP.fact (True)] (fun G => xC [0, 1] ca25 (fn25 rv274.1 a278 k279 rv265.1 a269 k270 pre pre rv294 hg295)) ?_ (hV := fun _ _ => congrArg Value.bool h296)
    refine Dv [] Vpt (Dv [] Vm (Dv [] Vm (Db h298 [] Vnot (Dv [] Vm (Dv [5] (VldA sh39 0) (Dv [] Vm (Dv [] Vm (Dv [2] (Vi sl24 0) (Dv [0] (VldA sh39 0) ?_)))))))))
    refine letv (r1_Same rv265.1 (rv283.1.getD rv26.1.toNat default)) fun rv311 hg312 => ?_
    refine Dx [1, 6] [] [1, 2, 0] (fun G => vb rv311) [fun G => SP.fact (True)] (fun G => xC [1, 0] ca25 (fn25 rv265.1 a269 k270 ((rv283.1.getD rv26.1.toNat default)) a307 k308 pre pre rv311 hg312)) (Dv [] Vpf (Dv [] Vpt ?_))
    refine bool_split rv311 ?_ ?_
    ·intro h313
     refine Db h313 [] Vm (Dx [21, 22] [] [1, 2, 0] (fun G => vb w18_sane) [fun G => SP.fact (True)] (fun G => xC [0, 1] ca12 (fn12  w18_sane rfl)) (Dv [] Vpt (Dv [] Va ?_)))
     refine Dn ⟨by kernel_rfl, fun G => ?_⟩
     refine Jw2 [(2, vb w18_sane)] [0, 1, 2, 3, 4, 5, 6, 7, 8, 9, 10, 11, 12, 13, 14, 15, 16, 17, 18, 19, 20, 21, 22] [SP.fact (True), SP.fact (True), SP.fact (True)] ?_
     refine Jk [0, 1, 2, 3, 3, 4, 4, 5, 6, 7, 8, 9, 10, 11, 12, 13, 13, 13, 13, 14, 15, 16, 17] ?_
     have hq := q4 hrr w18_sane (by unfold w18_ResumeContinues; simp only [h138, h141, h292, h296, h298, h304, h313, hg5, hg11, hg27, hg37, hR263, hg266, hg275, hg284, hg295, h306, hg312, cs4]); subst hq
     exact Kr () rfl (.tmp rfl .nil) [] trivial
    intro h313
    refine Db h313 [] Vm (Ds (Dv [] Vpf (Dv [] Va ?_)))
    refine Dn ⟨by kernel_rfl, fun G => ?_⟩
    refine Jw2 [(2, vb false)] [0, 1, 2, 3, 4, 5, 6, 7, 8, 9, 10, 11, 12, 13, 14, 15, 16, 17, 18, 19, 20, 21, 22] [SP.fact (True), SP.fact (True)] ?_
    refine Jk [0, 1, 2, 3, 3, 4, 4, 5, 6, 7, 8, 9, 10, 11, 12, 13, 13, 13, 13, 14, 15, 16, 17] ?_
    have hq := q4 hrr false (by unfold w18_ResumeContinues; simp only [h138, h141, h292, h296, h298, h304, h313, hg5, hg11, hg27, hg37, hR263, hg266, hg275, hg284, hg295, h306, hg312, cs4]); subst hq
    exact Kr () rfl (.tmp rfl .nil) [] trivial
   intro h296
   refine JK_drawK [0, 0, 3, 7, 15, 15, 63, 127, 255, 511, 1023, 2047, 4095, 4095, 4095, 28671, 61439, 131071, 262143, 524287, 1048575, 2097151, 4194303, 8388607] fmix ?_
   refine Dv [] Vm (Dv [] Vm (Db h292 [] (Veb un4) (Dv [] Vm (Dv [1] (VldA sh39 0) (Dv [3] (VldA sh39 0) ?_)))))
   refine Dx [2, 4] [] [1, 2, 0] (fun G => vb false) [fun G => SP.fact (True)] (fun G => xC [0, 1] ca25 (fn25 rv274.1 a278 k279 rv265.1 a269 k270 pre pre rv294 hg295)) ?_ (hV := fun _ _ => congrArg Value.bool h296)
   refine Dv [] Vpt (Dv [] Vm (Ds (Ds (Ds (Ds (Ds (Ds (Ds (Ds ?_)))))))))
   refine Ds (Ds (Dv [] Vpf (Dv [] Vm (Ds (Dv [] Vpf (Dv [] Va ?_))))))
   refine Dn ⟨by kernel_rfl, fun G => ?_⟩
   refine Jw2 [(2, vb false)] [0, 1, 2, 3, 4, 5, 6, 7, 8, 9, 10, 11, 12, 13, 14, 15, 16, 17, 18, 19, 20] [SP.fact (True)] ?_
   refine Jk [0, 1, 1, 2, 2, 3, 4, 5, 6, 7, 8, 9, 10, 11, 11, 11, 11, 12, 13, 14, 15] ?_
   have hq := q4 hrr false (by unfold w18_ResumeContinues; simp only [h138, h141, h292, h296, hg5, hg11, hg27, hg37, hR263, hg266, hg275, hg284, hg295, cs4]); subst hq
   exact Kr () rfl (.tmp rfl .nil) [] trivial
  intro h292
  refine Kq [0, 0, 3, 7, 15, 15, 63, 127, 255, 511, 1023, 2047, 4095, 4095, 4095, 28671, 61439, 131071, 262143, 524287, 1048575, 2097151, 4194303, 8388607] fmix ?_
  refine Qv [] Vm (Qv [] Vm (Qb h292 [] (Veb un4) (Qv [] Vm (Qs (Qs (Qs (Qv [] Vpf (Qv [] Vm (Qs ?_)))))))))
  refine Qs (Qs (Qs (Qs (Qs (Qs (Qs (Qs (Qs (Qv [] Vpf ?_)))))))))
  refine Qv [] Vm (Qs (Qv [] Vpf (Qv [] Va ?_)))
  refine Qn ⟨by kernel_rfl, ?_⟩
  have hq := q4 hrr false (by unfold w18_ResumeContinues; simp only [h138, h141, h292, hg5, hg11, hg27, hg37, hR263, hg266, hg275, hg284, cs4]); subst hq
  exact Kr () rfl (.tmp rfl .nil) [] trivial
 intro h138
 have g318 := df h138
 obtain rfl : r76 = 0 := by omega
 refine Osk (Osk (Osk (Oq Vpf (KS ?_))))
 refine Kf ?_
 refine Ke ?_
 have hR319 := q2 hM110 (.brk (a0_77, a1_78, a2_79, a3_80, a4_81, a5_82, a6_83, a7_84, b0_85, b1_86, b2_87, b3_88, b4_89, b5_90, b6_91, b7_92)) (by simp only [w18_ResumeContinues_L0, h138, cs4])
 refine KS ?_
 refine Oq (VldA sh26 9) ?_
 refine letv (so_Answer (GState.mk a0_77 a1_78 a2_79 a3_80 a4_81 a5_82 a6_83 a7_84)) fun rv321 hg322 => ?_
 have hc323 := fn23 ((GState.mk a0_77 a1_78 a2_79 a3_80 a4_81 a5_82 a6_83 a7_84)) a94 k95 a96 k97 a98 k99 a100 k101 pre pre pre pre rv321 hg322
 refine Oc [7, 6, 5, 4] ca23 hc323 ?_
 rintro c320 he324
 unfold i64ok at he324
 refine Jo 0 ?_; rintro a325 k326 rfl
 refine Fb 8 0 fun _ => ?_
 refine Oq Vm (Oq Vx (Oq Vx (Oa (Al ze39 [vi 0, .slice none 0 0]) fun p328 => Ost (Scl [0] sh39 [vi rv321.1.Width, vl a325 k326 rv321.1.Words]) (Oq Va (KS ?_)))))
 refine Oq (VldA sh26 10) ?_
 refine letv (so_Answer (GState.mk b0_85 b1_86 b2_87 b3_88 b4_89 b5_90 b6_91 b7_92)) fun rv330 hg331 => ?_
 have hc332 := fn23 ((GState.mk b0_85 b1_86 b2_87 b3_88 b4_89 b5_90 b6_91 b7_92)) a102 k103 a104 k105 a106 k107 a108 k109 pre pre pre pre rv330 hg331
 refine Oc [5, 4, 3, 2] ca23 hc332 ?_
 rintro c329 he333
 unfold i64ok at he333
 refine Jo 0 ?_; rintro a334 k335 rfl
 refine Fb 8 0 fun _ => ?_
 refine Oq Vm (Oq Vx (Oq Vx (Oa (Al ze39 [vi 0, .slice none 0 0]) fun p337 => Ost (Scl [0] sh39 [vi rv330.1.Width, vl a334 k335 rv330.1.Words]) (Oq Va (KS ?_)))))
 refine Oq (VldA sh32 14) ?_
 refine letv (r10_Solve rv10.1) fun rv339 hg340 => ?_
 have hc341 := fn24 rv10.1 a16 k17 a19 k20 a22 k23 pre rv339 hg340
 refine Oc [15, 16, 17] ca24 hc341 ?_
 rintro c338 ⟨he342, he343, he344⟩
 unfold i64ok at he342 he343
 refine Jo 0 ?_; rintro a345 k346 rfl
 refine Fb 32 0 fun _ => ?_
 have hsl := rSolve_len (by assumption : r10_Solve rv10.1 = rv339) hd1
 refine Oq Vm (Oq Vx (Oq Vx (Oq Vx (Oq Va (Oq Va (Oq Va (KS ?_)))))))
 refine bool_split (rv321.2 == rv330.2) ?_ ?_
 ·intro h348
  refine letv (r1_Same rv330.1 rv321.1) fun rv350 hg351 => ?_
  refine bool_split rv350 ?_ ?_
  ·intro h352
   refine bool_split (!rv321.2) ?_ ?_
   ·intro h354
    have h356 := not_true h354
    have h358 := h348; rw [h356] at h358
    refine JK_drawK [0, 0, 3, 7, 15, 15, 63, 127, 255, 511, 1023, 2047, 4095, 4095, 4095, 28671, 61439, 131071, 262143, 524287, 1048575, 2097151, 4194303, 8388607] fmix ?_
    refine Dv [] Vm (Dv [] Vm (Db h348 [] (Veb un4) (Dv [] Vm (Dv [1] (VldA sh39 0) (Dv [3] (VldA sh39 0) ?_)))))
    refine Dx [2, 4] [] [1, 2, 0] (fun G => vb true) [fun G => SP.fact (True)] (fun G => xC [0, 1] ca25 (fn25 rv330.1 a334 k335 rv321.1 a325 k326 pre pre rv350 hg351)) ?_ (hV := fun _ _ => congrArg Value.bool h352)
    refine Dv [] Vpt (Dv [] Vm (Dv [] Vm (Db h354 [] Vnot (Dv [] Vm (Ds (Ds (Ds (Ds (Ds ?_)))))))))
    refine Ds (Dv [] Vpt (Dv [] Vpt (Dv [] Vm (Dx [19, 20] [] [1, 2, 0] (fun G => vb w18_sane) [fun G => SP.fact (True)] (fun G => xC [0, 1] ca12 (fn12  w18_sane rfl)) (Dv [] Vpt (Dv [] Va ?_))))))
    refine Dn ⟨by kernel_rfl, fun G => ?_⟩
    refine Jw2 [(2, vb w18_sane)] [0, 1, 2, 3, 4, 5, 6, 7, 8, 9, 10, 11, 12, 13, 14, 15, 16, 17, 18, 19, 20] [SP.fact (True), SP.fact (True)] ?_
    refine Jk [0, 1, 1, 2, 2, 3, 4, 5, 6, 7, 8, 9, 10, 11, 11, 11, 11, 12, 13, 14, 15] ?_
    have hq := q4 hrr w18_sane (by unfold w18_ResumeContinues; simp only [h138, h348, h352, h354, h356, hg5, hg11, hg27, hg37, hR319, hg322, hg331, hg340, hg351, h358, cs4]); subst hq
    exact Kr () rfl (.tmp rfl .nil) [] trivial
   intro h354
   have h360 := not_false h354
   have h362 := h348; rw [h360] at h362
   refine JJ_peek_GSet rv26.1.toNat 0 rfl rng fun a363 k364 hb365 => ?_
   unfold i64ok at hb365
   refine Fb 8 1 fun _ => ?_
   refine JK_drawK [0, 0, 3, 7, 15, 15, 63, 127, 255, 511, 1023, 2047, 4095, 4095, 4095, 28671, 61439, 131071, 262143, 524287, 1048575, 2097151, 4194303, 8388607] fmix ?_
   refine Dv [] Vm (Dv [] Vm (Db h348 [] (Veb un4) (Dv [] Vm (Dv [3] (VldA sh39 0) (Dv [5] (VldA sh39 0) ?_)))))
   refine Dx [4, 6] [] [1, 2, 0] (fun G => vb true) [fun G => SP.fact (True)] (fun G => xC [0, 1] ca25 (fn25 rv330.1 a334 k335 rv321.1 a325 k326 pre pre rv350 hg351)) ?_ (hV := fun _ _ => congrArg Value.bool h352)
   refine Dv [] Vpt (Dv [] Vm (Dv [] Vm (Db h354 [] Vnot (Dv [] Vm (Dv [5] (VldA sh39 0) (Dv [] Vm (Dv [] Vm (Dv [2] (Vi sl24 0) (Dv [0] (VldA sh39 0) ?_)))))))))
   refine letv (r1_Same rv321.1 (rv339.1.getD rv26.1.toNat default)) fun rv367 hg368 => ?_
   refine Dx [1, 6] [] [1, 2, 0] (fun G => vb rv367) [fun G => SP.fact (True)] (fun G => xC [1, 0] ca25 (fn25 rv321.1 a325 k326 ((rv339.1.getD rv26.1.toNat default)) a363 k364 pre pre rv367 hg368)) (Dv [] Vpf (Dv [] Vpt ?_))
   refine bool_split rv367 ?_ ?_
   ·intro h369
    refine Db h369 [] Vm (Dx [21, 22] [] [1, 2, 0] (fun G => vb w18_sane) [fun G => SP.fact (True)] (fun G => xC [0, 1] ca12 (fn12  w18_sane rfl)) (Dv [] Vpt (Dv [] Va ?_)))
    refine Dn ⟨by kernel_rfl, fun G => ?_⟩
    refine Jw2 [(2, vb w18_sane)] [0, 1, 2, 3, 4, 5, 6, 7, 8, 9, 10, 11, 12, 13, 14, 15, 16, 17, 18, 19, 20, 21, 22] [SP.fact (True), SP.fact (True), SP.fact (True)] ?_
    refine Jk [0, 1, 2, 3, 3, 4, 4, 5, 6, 7, 8, 9, 10, 11, 12, 13, 13, 13, 13, 14, 15, 16, 17] ?_
    have hq := q4 hrr w18_sane (by unfold w18_ResumeContinues; simp only [h138, h348, h352, h354, h360, h369, hg5, hg11, hg27, hg37, hR319, hg322, hg331, hg340, hg351, h362, hg368, cs4]); subst hq
    exact Kr () rfl (.tmp rfl .nil) [] trivial
   intro h369
   refine Db h369 [] Vm (Ds (Dv [] Vpf (Dv [] Va ?_)))
   refine Dn ⟨by kernel_rfl, fun G => ?_⟩
   refine Jw2 [(2, vb false)] [0, 1, 2, 3, 4, 5, 6, 7, 8, 9, 10, 11, 12, 13, 14, 15, 16, 17, 18, 19, 20, 21, 22] [SP.fact (True), SP.fact (True)] ?_
   refine Jk [0, 1, 2, 3, 3, 4, 4, 5, 6, 7, 8, 9, 10, 11, 12, 13, 13, 13, 13, 14, 15, 16, 17] ?_
   have hq := q4 hrr false (by unfold w18_ResumeContinues; simp only [h138, h348, h352, h354, h360, h369, hg5, hg11, hg27, hg37, hR319, hg322, hg331, hg340, hg351, h362, hg368, cs4]); subst hq
   exact Kr () rfl (.tmp rfl .nil) [] trivial
  intro h352
  refine JK_drawK [0, 0, 3, 7, 15, 15, 63, 127, 255, 511, 1023, 2047, 4095, 4095, 4095, 28671, 61439, 131071, 262143, 524287, 1048575, 2097151, 4194303, 8388607] fmix ?_
  refine Dv [] Vm (Dv [] Vm (Db h348 [] (Veb un4) (Dv [] Vm (Dv [1] (VldA sh39 0) (Dv [3] (VldA sh39 0) ?_)))))
  refine Dx [2, 4] [] [1, 2, 0] (fun G => vb false) [fun G => SP.fact (True)] (fun G => xC [0, 1] ca25 (fn25 rv330.1 a334 k335 rv321.1 a325 k326 pre pre rv350 hg351)) ?_ (hV := fun _ _ => congrArg Value.bool h352)
  refine Dv [] Vpt (Dv [] Vm (Ds (Ds (Ds (Ds (Ds (Ds (Ds (Ds ?_)))))))))
  refine Ds (Ds (Dv [] Vpf (Dv [] Vm (Ds (Dv [] Vpf (Dv [] Va ?_))))))
  refine Dn ⟨by kernel_rfl, fun G => ?_⟩
  refine Jw2 [(2, vb false)] [0, 1, 2, 3, 4, 5, 6, 7, 8, 9, 10, 11, 12, 13, 14, 15, 16, 17, 18, 19, 20] [SP.fact (True)] ?_
  refine Jk [0, 1, 1, 2, 2, 3, 4, 5, 6, 7, 8, 9, 10, 11, 11, 11, 11, 12, 13, 14, 15] ?_
  have hq := q4 hrr false (by unfold w18_ResumeContinues; simp only [h138, h348, h352, hg5, hg11, hg27, hg37, hR319, hg322, hg331, hg340, hg351, cs4]); subst hq
  exact Kr () rfl (.tmp rfl .nil) [] trivial
 intro h348
 refine Kq [0, 0, 3, 7, 15, 15, 63, 127, 255, 511, 1023, 2047, 4095, 4095, 4095, 28671, 61439, 131071, 262143, 524287, 1048575, 2097151, 4194303, 8388607] fmix ?_
 refine Qv [] Vm (Qv [] Vm (Qb h348 [] (Veb un4) (Qv [] Vm (Qs (Qs (Qs (Qv [] Vpf (Qv [] Vm (Qs ?_)))))))))
 refine Qs (Qs (Qs (Qs (Qs (Qs (Qs (Qs (Qs (Qv [] Vpf ?_)))))))))
 refine Qv [] Vm (Qs (Qv [] Vpf (Qv [] Va ?_)))
 refine Qn ⟨by kernel_rfl, ?_⟩
 have hq := q4 hrr false (by unfold w18_ResumeContinues; simp only [h138, h348, hg5, hg11, hg27, hg37, hR319, hg322, hg331, hg340, cs4]); subst hq
 exact Kr () rfl (.tmp rfl .nil) [] trivial
end Go.SL.G
