/- Part 4 of the walks: mirrors, plain laws and walks used by the last text of this claim. -/
import Derived.Test.YtfoejhjfcegngaaGreatW3
import Derived.Test.YtfoejhjfcegngaaGreatProg
set_option linter.unusedVariables false
set_option linter.unusedSimpArgs false
namespace Go.SL.G
open Go Go.SL Go.Proofs
set_option maxHeartbeats 20000000
set_option maxRecDepth 100000
theorem fn57 (s : GSystem) (sa1 : Option Addr) (sk1 : Nat) (sa2 : Option Addr) (sk2 : Nat) (sa3 : Option Addr) (sk3 : Nat) (cone : List Int) (conea0 : Option Addr) (conek0 : Nat) (leaf : List Bool) (leafa0 : Option Addr) (leafk0 : Nat) (i : Int) (hs_0 : i64ok s.Width) (hi_0 : i64ok i) (rr : List Int) (hrr : cone_Dependents s cone leaf i = rr) : FT Tryz.prog 57 #[.agg #[vi s.Width, vl sa1 sk1 s.Deps, vl sa2 sk2 s.Transfers, vl sa3 sk3 s.Boundary], vl conea0 conek0 cone, vl leafa0 leafk0 leaf, vi i] [S sa1 sk1 s.Deps, S sa2 sk2 s.Transfers, S sa3 sk3 s.Boundary, S conea0 conek0 cone, S leafa0 leafk0 leaf] (fun g : Value => (rr.length ≤ cone.length)) (fun g => g) (fun g => [os g rr]) := by
 refine FTi Tryz.func57 fun w0 M0 F0 => ?_
 unfold i64ok at hs_0 hi_0
 refine Fb 24 0 fun hl1 => ?_
 refine Fb 88 1 fun hl2 => ?_
 refine Fb 32 2 fun hl3 => ?_
 refine Fb 8 3 fun hl4 => ?_
 refine Fo 3 fun ho5 => ?_
 refine Fb 1 4 fun hl6 => ?_
 refine KS ?_
 refine Oa (Ab [vi s.Width, vl sa1 sk1 s.Deps, vl sa2 sk2 s.Transfers, vl sa3 sk3 s.Boundary]) fun p7 => Oq Va (KS ?_)
 refine Oq (VldA sh27 0) ?_
 refine letv (equations_Valid s) fun rv8 hg9 => ?_
 have hc10 := fn109 s sa1 sk1 sa2 sk2 sa3 sk3 pre rv8 hg9
 refine Oc [1, 2, 3] ca109 hc10 ?_
 rintro - -
 refine Oq Vnot (Oq Vm ?_)
 refine Js 15 ?_ ?_
 · intro h11
   have h13 := not_true h11
   refine Osk (Osk (Osk (Osk (Oq Vpt (Oq Vm (Osk (Osk (Osk (Osk ?_)))))))))
   refine Osk (Oq Vpt (Oq Vm (Osk (Osk (Oq Vpt (Oq Vm (Osk (Osk (Osk ?_)))))))))
   refine Osk (Oq Vpt (KS ?_))
   refine Kt ?_
   refine KS ?_
   refine Oq Va (KS ?_)
   refine Jl [] (Ent.osNil (α := Int)) ?_
   have hq := q4 hrr [] (by simp only [cone_Dependents, h11, h13, hg9, cs4]); subst hq
   exact Kr (.slice none 0 0) rfl (.tmp rfl .nil) [0] en
 intro h11
 have h16 := not_false h11
 try (have hvs := (EValid_iff s).1 (by simp only [h11, h16, hg9]))
 try (have hcr := (unknowns_iff s cone).1 (by simp only [h11, h16, hg9]))
 refine Oq (VldA sh27 0) (Oq Vm ?_)
 refine letv (cone_unknowns s cone) fun rv18 hg19 => ?_
 have hc20 := fn118 s sa1 sk1 sa2 sk2 sa3 sk3 cone conea0 conek0 pre rv18 hg19
 refine Oc [1, 2, 3, 4] ca118 hc20 ?_
 rintro - -
 refine Oq Vnot (Oq Vpf (Oq Vm ?_))
 refine Js 21 ?_ ?_
 · intro h21
   have h23 := not_true h21
   refine Osk (Osk (Osk (Osk (Osk (Oq Vpt (Oq Vm (Osk (Osk (Oq Vpt ?_)))))))))
   refine Oq Vm (Osk (Osk (Osk (Osk (Oq Vpt (KS ?_))))))
   refine Kt ?_
   refine KS ?_
   refine Oq Va (KS ?_)
   refine Jl [] (Ent.osNil (α := Int)) ?_
   have hq := q4 hrr [] (by simp only [cone_Dependents, h11, h16, h21, h23, hg9, hg19, cs4]); subst hq
   exact Kr (.slice none 0 0) rfl (.tmp rfl .nil) [0] en
 intro h21
 have h26 := not_false h21
 try (have hvs := (EValid_iff s).1 (by simp only [h11, h16, h21, h26, hg9, hg19]))
 try (have hcr := (unknowns_iff s cone).1 (by simp only [h11, h16, h21, h26, hg9, hg19]))
 refine Oq Vm (Oq (Vlen sl57) (Oq Vm (Oq (Vlen sl22) (Oq Vneq (Oq Vpf (Oq Vm ?_))))))
 refine Js 28 ?_ ?_
 · intro h28
   have g29 := ne_of_bne h28
   refine Osk (Osk (Oq Vpt (Oq Vm (Osk (Osk (Osk (Osk (Oq Vpt (KS ?_)))))))))
   refine Kt ?_
   refine KS ?_
   refine Oq Va (KS ?_)
   refine Jl [] (Ent.osNil (α := Int)) ?_
   have hq := q4 hrr [] (by simp only [cone_Dependents, h11, h16, h21, h26, h28, hg9, hg19, cs4]); subst hq
   exact Kr (.slice none 0 0) rfl (.tmp rfl .nil) [0] en
 intro h28
 have g30 := eq_of_bne_false h28
 refine Oq Vm (Oq Vlss (Oq Vpf (Oq Vm ?_)))
 refine Js 32 ?_ ?_
 · intro h31
   have g32 := of_decide_eq_true h31
   refine Osk (Osk (Osk (Osk (Oq Vpt (KS ?_)))))
   refine Kt ?_
   refine KS ?_
   refine Oq Va (KS ?_)
   refine Jl [] (Ent.osNil (α := Int)) ?_
   have hq := q4 hrr [] (by simp only [cone_Dependents, h11, h16, h21, h26, h28, h31, hg9, hg19, cs4]); subst hq
   exact Kr (.slice none 0 0) rfl (.tmp rfl .nil) [0] en
 intro h31
 have g33 := of_decide_eq_false h31
 refine Oq Vm (Oq Vm (Oq (Vlen sl22) (Oq Vgeq (Oq Vpf (KS ?_)))))
 refine Kc ?_ ?_
 · intro h34
   have g35 := of_decide_eq_true h34
   refine KS ?_
   refine Oq Va (KS ?_)
   refine Jl [] (Ent.osNil (α := Int)) ?_
   have hq := q4 hrr [] (by simp only [cone_Dependents, h11, h16, h21, h26, h28, h31, h34, hg9, hg19, cs4]); subst hq
   exact Kr (.slice none 0 0) rfl (.tmp rfl .nil) [0] en
 intro h34
 have g36 := of_decide_eq_false h34
 refine KS ?_
 refine Oq Va (KS ?_)
 refine Oq Vm (Oq (Vlen sl22) (Oq Vm (KS ?_)))
 refine Jl [] (Ent.osNil (α := Int)) ?_
 refine Kl (γ := Nat × List Int × Int × Option Addr × Nat) (fun (r37, out_38, v40_39, a40, k41) => ⟨[(1, vl conea0 conek0 cone), (2, vl leafa0 leafk0 leaf), (3, vi i), (4, p7), (9, vl a40 k41 out_38), (38, vl conea0 conek0 cone), (39, vi (cone.length : Int)), (40, vi v40_39)], [O a40 k41 out_38, pv p7 [vi s.Width, vl sa1 sk1 s.Deps, vl sa2 sk2 s.Transfers, vl sa3 sk3 s.Boundary], S sa1 sk1 s.Deps, S sa2 sk2 s.Transfers, S sa3 sk3 s.Boundary, S conea0 conek0 cone, S leafa0 leafk0 leaf], cone_Dependents_L0 s cone leaf i r37 out_38 v40_39 = cone_Dependents_L0 s cone leaf i (((cone.length : Int) - 0).toNat) [] 0 ∧ r37 = ((cone.length : Int) - v40_39).toNat ∧ (0 : Int) ≤ v40_39 ∧ v40_39 ≤ (cone.length : Int) ∧ (-9223372036854775808 ≤ v40_39 ∧ v40_39 ≤ 9223372036854775807) ∧ (out_38.length : Int) ≤ v40_39, r37⟩) (((cone.length : Int) - 0).toNat, [], 0, none, 0) [0, 0, 1, 2, 3, 4, 5] ⟨rfl, rfl, (by omega), (by omega), (by omega), iv0⟩ ?_
 rintro ⟨r37, out_38, v40_39, a40, k41⟩ ⟨hM42, hr43, hi44, hi45, hk46, hv47⟩
 refine JJ_nx fun _ _ hL hA => ?_; dsimp only at hL hA; subst hL hA
 refine Fb 8 0 fun hl48 => ?_
 refine Fo 0 fun ho49 => ?_
 refine Fb 24 2 fun hl50 => ?_
 refine Fb 88 3 fun hl51 => ?_
 refine Fb 32 4 fun hl52 => ?_
 refine Fb 8 5 fun hl53 => ?_
 refine Fo 5 fun ho54 => ?_
 refine Fb 1 6 fun hl55 => ?_
 refine KS ?_
 refine Oq Vlss (KS ?_)
 refine Kc ?_ ?_
 · intro h56
   have g57 := of_decide_eq_true h56
   have hq := hcr _ (getD_mem (xs := cone) (i := v40_39.toNat) (d := 0) (by omega))
   obtain ⟨r58, rfl⟩ := scc (n := r37) (by omega)
   refine KS ?_
   refine Oq Vm (Oq (Vi sl22 5) ?_)
   have hb59 := ok1 (i := v40_39.toNat) ho54 rng
   refine Oq (VldI sh3 5) (Oq Va (Oq Va (KS ?_)))
   refine bool_split (!(leaf.getD v40_39.toNat false)) ?_ ?_
   · intro h60
     have h62 := not_true h60
     refine JJ_peekL ((cone.getD v40_39.toNat 0) : Int).toNat 2 rfl rng fun a64 k65 => ?_
     refine Fb 8 1 fun hl66 => ?_
     refine Fo 1 fun ho67 => ?_
     refine JK_drawK [0, 0, 3, 7, 15, 31, 63, 127, 63, 511, 1023, 63, 63, 6207, 14399, 32767, 65535] fmix ?_
     refine Dv [] Vm (Dv [] Vm (Dv [8] (Vi sl57 0) (Dv [8] (VldB sh4 0) (Db h60 [] Vnot (Dv [] Vm (Dv [3] (Vfa fo27_1 0) (Dv [3] (VldF sh23 0) (Dv [] Vm (Dv [4] (Vi sl23 0) ?_)))))))))
     refine Dv [0] (Vld sh22 0) (Dv [] Vm (Dv [] Vm (Dv [7] (Vi sl22 0) ?_)))
     have hb68 := ok1 (i := i.toNat) ho54 rng
     refine Dv [7] (VldI sh3 0) ?_
     refine letv (slices_Contains_int (s.Deps.getD ((cone.getD v40_39.toNat 0) : Int).toNat []) (cone.getD i.toNat 0)) fun rv69 hg70 => ?_
     refine Dx [1] [] [1, 0] (fun G => vb rv69) [fun G => SP.fact (True)] (fun G => xC [0] ca82 (fn82 ((s.Deps.getD ((cone.getD v40_39.toNat 0) : Int).toNat [])) a64 k65 ((cone.getD i.toNat 0)) pre rv69 hg70)) (Dv [] Vpt ?_)
     refine Dn ⟨by kernel_rfl, fun G => ?_⟩
     refine Jw2 [(1, vl conea0 conek0 cone), (2, vl leafa0 leafk0 leaf), (3, vi i), (4, p7), (9, vl a40 k41 out_38), (38, vl conea0 conek0 cone), (39, vi (cone.length : Int)), (40, vi v40_39), (10, vi v40_39), (61, vb rv69)] [0, 1, 2, 3, 4, 5, 6, 7, 8] [SP.fact (True)] ?_
     refine Jk [0, 1, 2, 2, 3, 4, 5, 6, 7] ?_
     refine Kc ?_ ?_
     · intro h71
       try (have hvs := (EValid_iff s).1 (by simp only [h11, h16, h21, h26, h28, h31, h34, h56, h60, h62, h71, hg9, hg19, hg70]))
       try (have hcr := (unknowns_iff s cone).1 (by simp only [h11, h16, h21, h26, h28, h31, h34, h56, h60, h62, h71, hg9, hg19, hg70]))
       refine KS ?_
       refine Oq Vm (Oq Vm (Oa (AsV sl22 sz22 [vi v40_39] [vi v40_39]) fun c73 => ?_))
       refine Jo 0 ?_; rintro a74 k75 rfl
       refine Jl [0] (Ent.crInt _ [v40_39] _ _ rfl rfl (by intro x hx; rw [List.mem_singleton] at hx; subst hx; unfold i64ok; omega) (Nat.le_of_ble_eq_true rfl)) ?_
       refine Oa (ApO [3, 0] sl22 sl22 sz22) fun c76 => ?_
       refine Jo 0 ?_; rintro a77 k78 rfl
       refine Fb 8 0 fun hl79 => ?_
       refine Fo 0 fun ho80 => ?_
       have hn81 := la out_38 ([v40_39] : List Int)
       refine Oq Va (KS ?_)
       refine Oq Vadd (Oq Vm (KS ?_))
       exact Kg (r58, (out_38 ++ [v40_39]), (v40_39 + 1), a77, k78) [0, 2, 3, 4, 5, 6, 7] ⟨(q3 hM42 (by simp only [cone_Dependents_L0, h11, h16, h21, h26, h28, h31, h34, h56, h60, h62, h71, hg9, hg19, hg70, cs4])), (by omega), (by omega), (by omega), (by omega), iv1⟩
     intro h71
     refine KS ?_
     refine Oq Vadd (Oq Vm (KS ?_))
     exact Kg (r58, out_38, (v40_39 + 1), a40, k41) [2, 2, 3, 4, 5, 6, 7] ⟨(q3 hM42 (by simp only [cone_Dependents_L0, h11, h16, h21, h26, h28, h31, h34, h56, h60, h62, h71, hg9, hg19, hg70, cs4])), (by omega), (by omega), (by omega), (by omega), iv1⟩
   intro h60
   have h84 := not_false h60
   refine Kq [0, 0, 3, 7, 15, 31, 63, 127, 63, 511, 1023, 63, 63, 6207, 14399, 32767, 65535] fmix ?_
   refine Qv [] Vm (Qv [] Vm (Qv [6] (Vi sl57 0) (Qv [6] (VldB sh4 0) (Qb h60 [] Vnot (Qv [] Vm (Qs (Qs (Qs (Qs ?_)))))))))
   refine Qs (Qs (Qs (Qs (Qs (Qs (Qv [] Vpf ?_))))))
   refine Qn ⟨by kernel_rfl, ?_⟩
   refine Kf ?_
   refine KS ?_
   refine Oq Vadd (Oq Vm (KS ?_))
   exact Kg (r58, out_38, (v40_39 + 1), a40, k41) [0, 0, 1, 2, 3, 4, 5] ⟨(q3 hM42 (by simp only [cone_Dependents_L0, h11, h16, h21, h26, h28, h31, h34, h56, h60, h84, hg9, hg19, cs4])), (by omega), (by omega), (by omega), (by omega), iv1⟩
 intro h56
 have g86 := of_decide_eq_false h56
 obtain rfl : r37 = 0 := by omega
 refine Ke ?_
 have hR87 := q2 hM42 out_38 (by simp only [cone_Dependents_L0, h11, h16, h21, h26, h28, h31, h34, h56, hg9, hg19, cs4])
 refine KS ?_
 refine Oq Vm (Oq Va (KS ?_))
 have hq := q4 hrr out_38 (by simp only [cone_Dependents, h11, h16, h21, h26, h28, h31, h34, h56, hg9, hg19, hR87, cs4]); subst hq
 exact Kr (vl a40 k41 out_38) rfl (.tmp rfl .nil) [0] en
theorem fn160 (s : GSet) (sa1 : Option Addr) (sk1 : Nat) (b : Int) (hs_0 : i64ok s.Width) (hb_0 : i64ok b) (rr : Bool) (hrr : bitset_within s b = rr) : FT Tryz.prog 160 #[.agg #[vi s.Width, vl sa1 sk1 s.Words], vi b] [S sa1 sk1 s.Words] (fun g : Unit => True) (fun g => vb rr) (fun g => []) := by
 refine FTi Tryz.func160 fun w0 M0 F0 => ?_
 unfold i64ok at hs_0 hb_0
 refine Fb 8 0 fun hl1 => ?_
 refine KS ?_
 refine Oa (Ab [vi s.Width, vl sa1 sk1 s.Words]) fun p2 => Oq Va (KS ?_)
 refine Oq Vm (Oq Vgeq (Oq Vm ?_))
 refine Js 7 ?_ ?_
 · intro h3
   have g4 := of_decide_eq_true h3
   refine Oq Vm (Oq (Vfa fo42_0 0) (Oq (VldF sh3 0) (Oq Vlss (Oq Vpt (Oq Va (KS ?_))))))
   have hq := q4 hrr (decide (b < s.Width)) (by simp only [bitset_within, h3, cs4]); subst hq
   exact Kr () rfl (.tmp rfl .nil) [] trivial
 intro h3
 have g5 := of_decide_eq_false h3
 refine Osk (Osk (Osk (Osk (Oq Vpf (Oq Va (KS ?_))))))
 have hq := q4 hrr false (by simp only [bitset_within, h3, cs4]); subst hq
 exact Kr () rfl (.tmp rfl .nil) [] trivial
theorem fn85 (s : GSet) (sa1 : Option Addr) (sk1 : Nat) (b : Int) (hs_0 : i64ok s.Width) (hb_0 : i64ok b) (rr : Bool) (hrr : bitset_Has s b = rr) : FT Tryz.prog 85 #[.agg #[vi s.Width, vl sa1 sk1 s.Words], vi b] [S sa1 sk1 s.Words] (fun g : Unit => True) (fun g => vb rr) (fun g => []) := by
 refine FTi Tryz.func85 fun w0 M0 F0 => ?_
 unfold i64ok at hs_0 hb_0
 refine Fb 8 0 fun hl1 => ?_
 refine KS ?_
 refine Oa (Ab [vi s.Width, vl sa1 sk1 s.Words]) fun p2 => Oq Va (KS ?_)
 refine Oq (VldA sh42 0) ?_
 refine letv (bitset_Valid s) fun rv3 hg4 => ?_
 have hc5 := fn123 s sa1 sk1 pre rv3 hg4
 refine Oc [1] ca123 hc5 ?_
 rintro - -
 refine Oq Vm ?_
 refine Js 7 ?_ ?_
 · intro h6
   try have hrg := PV_w (s := s) (by simp only [h6, hg4])
   try have hwi := within_iff (s := s) (b := b) (by simp only [h6, hg4])
   refine Oq (VldA sh42 0) (Oq Vm ?_)
   refine letv (bitset_within s b) fun rv8 hg9 => ?_
   have hc10 := fn160 s sa1 sk1 b pre pre rv8 hg9
   refine Oc [1] ca160 hc10 ?_
   rintro - -
   refine Oq Vpt (Oq Vm ?_)
   refine Js 12 ?_ ?_
   · intro h11
     try have hrg := PV_w (s := s) (by simp only [h6, h11, hg4, hg9])
     try have hwi := within_iff (s := s) (b := b) (by simp only [h6, h11, hg4, hg9])
     refine Oq (Vfa fo42_1 0) (Oq (VldF sh40 0) (Oq Vm (Oq Vquo (Oq (Vi sl40 1) (Oq (VldU sh122 1) (Oq Vm (Oq (VcU un3 un123) (Oq (VremU (b := 64#64) (by simp)) (Oq VshrU ?_)))))))))
     refine Oq (VandU (b := 1#64)) (Oq (VeqlU (b := 1#64)) (Oq Vpt (Oq Va (KS ?_))))
     have hq := q4 hrr ((((s.Words.getD ((b / 64) : Int).toNat 0#64) >>> ((((BitVec.ofInt 64 b) % 64#64).toNat : Int)).toNat) &&& 1#64) == 1#64) (by simp only [bitset_Has, h6, h11, hg4, hg9, cs4]); subst hq
     exact Kr () rfl (.tmp rfl .nil) [] trivial
   intro h11
   refine Osk (Osk (Osk (Osk (Osk (Osk (Osk (Osk (Osk (Osk ?_)))))))))
   refine Osk (Osk (Oq Vpf (Oq Va (KS ?_))))
   have hq := q4 hrr false (by simp only [bitset_Has, h6, h11, hg4, hg9, cs4]); subst hq
   exact Kr () rfl (.tmp rfl .nil) [] trivial
 intro h6
 refine Osk (Osk (Osk (Oq Vpf (Oq Vm (Osk (Osk (Osk (Osk (Osk ?_)))))))))
 refine Osk (Osk (Osk (Osk (Osk (Osk (Osk (Oq Vpf (Oq Va (KS ?_)))))))))
 have hq := q4 hrr false (by simp only [bitset_Has, h6, hg4, cs4]); subst hq
 exact Kr () rfl (.tmp rfl .nil) [] trivial
theorem fn235 (a : GSet) (aa1 : Option Addr) (ak1 : Nat) (b : GSet) (ba1 : Option Addr) (bk1 : Nat) (combineF : FuncId) (combineC : List Value) (combinep : (BitVec 64) → (BitVec 64) → (BitVec 64)) (combineA : List SP) (ha_0 : i64ok a.Width) (hb_0 : i64ok b.Width) (hcombinec : callable Tryz.prog combineF = true) (hcombineF : ∀ x0 x1, FT Tryz.prog combineF ([u64 x0, u64 x1] ++ combineC).toArray ([] ++ [pAll combineA]) (fun _ : Unit => True) (fun _ => u64 (combinep x0 x1)) (fun _ => [])) (rr : GSet × Int) (hrr : bitset_merge a b combinep = rr) : FT Tryz.prog 235 #[.agg #[vi a.Width, vl aa1 ak1 a.Words], .agg #[vi b.Width, vl ba1 bk1 b.Words], .func (.func combineF) #[] combineC.toArray] [S aa1 ak1 a.Words, S ba1 bk1 b.Words, pAll combineA] (fun g : Value => i64ok rr.1.Width ∧ i64ok rr.2) (fun g => .tuple #[.agg #[vi rr.1.Width, g], vi rr.2]) (fun g => [sl g rr.1.Words]) := by
 refine FTi Tryz.func235 fun w0 M0 F0 => ?_
 unfold i64ok at ha_0 hb_0
 refine Fb 8 0 fun hl1 => ?_
 refine Fb 8 1 fun hl2 => ?_
 refine KS ?_
 refine Oa (Ab [vi a.Width, vl aa1 ak1 a.Words]) fun p3 => Oa (Ab [vi b.Width, vl ba1 bk1 b.Words]) fun p4 => Oa (Al ze42 [vi 0, .slice none 0 0]) fun p5 => Oq Va (KS ?_)
 refine Oq (VldA sh42 2) ?_
 refine letv (bitset_Valid a) fun rv6 hg7 => ?_
 have hc8 := fn123 a aa1 ak1 pre rv6 hg7
 refine Oc [3] ca123 hc8 ?_
 rintro - -
 refine Oq Vnot (Oq Vm ?_)
 refine Js 14 ?_ ?_
 · intro h9
   have h11 := not_true h9
   refine Osk (Osk (Osk (Oq Vpt (Oq Va (KS ?_)))))
   refine Kt ?_
   refine KS ?_
   refine Oq (Vbd st42 [vi 0, .slice none 0 0]) (Ost (Scl [0] sh42 [vi 0, .slice none 0 0]) (Oq Va (KS ?_)))
   refine Jl [] (Ent.slNil (α := BitVec 64)) ?_
   have hq := q4 hrr ((GSet.mk 0 []), 1) (by simp only [bitset_merge, h9, h11, hg7, cs4]); subst hq
   exact Kr (.slice none 0 0) rfl (.cellN 1 rfl sh42 rfl (reads_Cl _ _) rfl (.tmp rfl .nil)) [0] en
 intro h9
 have h14 := not_false h9
 try have hra := PV_w (s := a) (by simp only [h9, h14, hg7])
 try have hrb := PV_w (s := b) (by simp only [h9, h14, hg7])
 refine Oq (VldA sh42 1) ?_
 refine letv (bitset_Valid b) fun rv16 hg17 => ?_
 have hc18 := fn123 b ba1 bk1 pre rv16 hg17
 refine Oc [4] ca123 hc18 ?_
 rintro - -
 refine Oq Vnot (Oq Vpf (Oq Va (KS ?_)))
 refine Kc ?_ ?_
 · intro h19
   have h21 := not_true h19
   refine KS ?_
   refine Oq (Vbd st42 [vi 0, .slice none 0 0]) (Ost (Scl [0] sh42 [vi 0, .slice none 0 0]) (Oq Va (KS ?_)))
   refine Jl [] (Ent.slNil (α := BitVec 64)) ?_
   have hq := q4 hrr ((GSet.mk 0 []), 1) (by simp only [bitset_merge, h9, h14, h19, h21, hg7, hg17, cs4]); subst hq
   exact Kr (.slice none 0 0) rfl (.cellN 1 rfl sh42 rfl (reads_Cl _ _) rfl (.tmp rfl .nil)) [0] en
 intro h19
 have h24 := not_false h19
 try have hra := PV_w (s := a) (by simp only [h9, h14, h19, h24, hg7, hg17])
 try have hrb := PV_w (s := b) (by simp only [h9, h14, h19, h24, hg7, hg17])
 refine KS ?_
 refine Oq (Vfa fo42_0 2) (Oq (VldF sh3 2) (Oq (Vfa fo42_0 1) (Oq (VldF sh3 1) (Oq Vneq (Oq Va (KS ?_))))))
 refine Kc ?_ ?_
 · intro h26
   have g27 := ne_of_bne h26
   refine KS ?_
   refine Oq (Vbd st42 [vi 0, .slice none 0 0]) (Ost (Scl [0] sh42 [vi 0, .slice none 0 0]) (Oq Va (KS ?_)))
   refine Jl [] (Ent.slNil (α := BitVec 64)) ?_
   have hq := q4 hrr ((GSet.mk 0 []), 2) (by simp only [bitset_merge, h9, h14, h19, h24, h26, hg7, hg17, cs4]); subst hq
   exact Kr (.slice none 0 0) rfl (.cellN 1 rfl sh42 rfl (reads_Cl _ _) rfl (.tmp rfl .nil)) [0] en
 intro h26
 have g28 := eq_of_bne_false h26
 refine KS ?_
 refine JK_drawK [0, 1, 0, 4, 12, 28, 63, 0, 255] fmix ?_
 refine Dv [2] (Vfa fo42_0 0) (Dv [2] (VldF sh3 0) (Dv [2] (Vfa fo42_1 0) (Dv [2] (VldF sh40 0) (Dv [] (Vlen sl40) ?_))))
 have hn30 := List.length_replicate (n := (a.Words.length : Int).toNat) (a := 0#64)
 refine Dx [] [] [0] (fun G => (G.g 5 0)) [fun G => os (G.g 5 0) ((List.replicate (a.Words.length : Int).toNat 0#64) : List (BitVec 64))] (fun G => xA (Amk (α := BitVec 64) sl40 sz40 0#64 (fun _ _ => rfl))) ?_
 refine Dx [6] [] [0] (fun G => .agg #[vi a.Width, (G.g 5 0)]) [] (fun G => xV (v := .agg #[vi a.Width, (G.g 5 0)]) (Vo 0 rfl (isO_os _ _) fun aq31 kq32 eq33 => (by rw [eq33]; exact Vbd st42 [vi a.Width, .slice aq31 (((List.replicate (a.Words.length : Int).toNat 0#64) : List (BitVec 64)).length) kq32]))) (Dx [] [] [0] (fun G => (G.g 7 0)) [fun G => Cl (G.g 7 0) [vi 0, .slice none 0 0]] (fun G => xA (Al ze42 [vi 0, .slice none 0 0])) (Dx0 [6, 7] [7] [1, 0] [fun G => Cl (G.g 7 0) [vi a.Width, (G.g 5 0)]] (fun G => x1 0 rfl os_one fun ho35 => (xS (Scl [1] sh42 [vi a.Width, (G.g 5 0)] (v := .agg #[vi a.Width, (G.g 5 0)]) (h1 := show [vi a.Width, (G.g 5 0)].all (·.oneCell') = true from (by simp only [List.all_cons, List.all_nil, ho35, Bool.and_true, Bool.true_and] <;> rfl))))) ?_))
 refine Dn ⟨by kernel_rfl, fun G => ?_⟩
 refine Jw2 [(2, .func (.func combineF) #[] combineC.toArray), (3, p3), (4, p4), (6, p5), (8, (G.g 7 0))] [0, 1, 2, 3, 4, 5] [os (G.g 5 0) ((List.replicate (a.Words.length : Int).toNat 0#64) : List (BitVec 64)), Cl (G.g 7 0) [vi a.Width, (G.g 5 0)]] ?_
 generalize G.g 5 0 = c29, G.g 7 0 = p34
 refine Jo 6 ?_; rintro a36 k37 rfl
 refine Fb 8 6 fun hl38 => ?_
 refine KS ?_
 refine Oq (Vfa fo42_1 7) (Oq (VldF sh40 7) (Oq (Vlen sl40) (Oq Vm (KS ?_))))
 refine Kl (γ := Nat × List (BitVec 64) × Int) (fun (r39, out1_40, v37_41) => ⟨[(2, .func (.func combineF) #[] combineC.toArray), (3, p3), (4, p4), (6, p5), (8, p34), (36, vi (((List.replicate (a.Words.length : Int).toNat 0#64).length : Nat) : Int)), (37, vi v37_41)], [Cl p5 [vi 0, .slice none 0 0], pv p4 [vi b.Width, vl ba1 bk1 b.Words], pv p3 [vi a.Width, vl aa1 ak1 a.Words], S aa1 ak1 a.Words, S ba1 bk1 b.Words, pAll combineA, os (vl a36 k37 (List.replicate (a.Words.length : Int).toNat 0#64)) out1_40, Cl p34 [vi a.Width, vl a36 k37 (List.replicate (a.Words.length : Int).toNat 0#64)]], bitset_merge_L0 a b combinep r39 out1_40 v37_41 = bitset_merge_L0 a b combinep ((((((List.replicate (a.Words.length : Int).toNat 0#64).length : Nat) : Int) : Int) - 0).toNat) (List.replicate (a.Words.length : Int).toNat 0#64) 0 ∧ r39 = (((((List.replicate (a.Words.length : Int).toNat 0#64).length : Nat) : Int) : Int) - v37_41).toNat ∧ (0 : Int) ≤ v37_41 ∧ (v37_41 ≤ (((List.replicate (a.Words.length : Int).toNat 0#64).length : Nat) : Int) ∨ v37_41 = 0) ∧ (-9223372036854775808 ≤ v37_41 ∧ v37_41 ≤ 9223372036854775807) ∧ out1_40.length = a.Words.length, r39⟩) ((((((List.replicate (a.Words.length : Int).toNat 0#64).length : Nat) : Int) : Int) - 0).toNat, (List.replicate (a.Words.length : Int).toNat 0#64), 0) [0, 0, 1, 2, 3, 4, 5, 5] ⟨rfl, rfl, (by omega), (.inr rfl), (by omega), iv0⟩ ?_
 rintro ⟨r39, out1_40, v37_41⟩ ⟨hM42, hr43, hi44, hi45, hk46, hv47⟩
 refine JJ_nx fun _ _ hL hA => ?_; dsimp only at hL hA; subst hL hA
 refine Fb 8 3 fun hl48 => ?_
 refine Fb 8 4 fun hl49 => ?_
 refine Fb 8 6 fun hl50 => ?_
 refine Fl 6 fun hn51 => ?_
 refine KS ?_
 refine Oq Vlss (KS ?_)
 refine Kc ?_ ?_
 · intro h52
   have g53 := of_decide_eq_true h52
   obtain ⟨r54, rfl⟩ := scc (n := r39) (by omega)
   refine KS ?_
   refine Oq Vm (Oq Va (KS ?_))
   refine Jp 7 fun hp55 => ?_
   refine JK_drawK [0, 1, 0, 0, 0, 16, 0, 112, 240, 0, 512, 0, 3584, 7680, 16376, 32767, 65535] fmix ?_
   refine Dv [0] (Vfa fo42_1 0) (Dv [8] (VldF sh40 0) (Dv [] Vm (Dv [] Vm (Dv [3] (Vfa fo42_1 0) (Dv [3] (VldF sh40 0) (Dv [] Vm (Dv [4] (Vi sl40 0) (Dv [4] (VldU sh122 0) (Dv [2] (Vfa fo42_1 0) ?_)))))))))
   refine Dv [2] (VldF sh40 0) (Dv [] Vm (Dv [5] (Vi sl40 0) (Dv [5] (VldU sh122 0) (Dx [6] [] [1, 0] (fun G => u64 (combinep (a.Words.getD v37_41.toNat 0#64) (b.Words.getD v37_41.toNat 0#64))) [fun G => SP.fact (True)] (fun G => xE («as» := [(u64 (a.Words.getD v37_41.toNat 0#64) : Value), (u64 (b.Words.getD v37_41.toNat 0#64) : Value)] ++ combineC) [0] hcombinec rfl rfl rfl (by simp) rfl (hcombineF (a.Words.getD v37_41.toNat 0#64) (b.Words.getD v37_41.toNat 0#64)  )) (Dv [7] (Vi sl40 0) (Dx0 [7] [7] [0] [fun G => os (vl a36 k37 (List.replicate (a.Words.length : Int).toNat 0#64)) (out1_40.set v37_41.toNat (combinep (a.Words.getD v37_41.toNat 0#64) (b.Words.getD v37_41.toNat 0#64)))] (fun G => xS (SoU [0] sh122)) ?_))))))
   refine Dn ⟨by kernel_rfl, fun G => ?_⟩
   refine Jw2 [(2, .func (.func combineF) #[] combineC.toArray), (3, p3), (4, p4), (6, p5), (8, p34), (36, vi (((List.replicate (a.Words.length : Int).toNat 0#64).length : Nat) : Int)), (37, vi v37_41)] [0, 1, 2, 3, 4, 5, 6, 8] [SP.fact (True), os (vl a36 k37 (List.replicate (a.Words.length : Int).toNat 0#64)) (out1_40.set v37_41.toNat (combinep (a.Words.getD v37_41.toNat 0#64) (b.Words.getD v37_41.toNat 0#64)))] ?_
   refine Jk [1, 1, 2, 3, 4, 5, 6, 7] ?_
   refine KS ?_
   refine Oq Vadd (Oq Vm (KS ?_))
   exact Kg (r54, (out1_40.set v37_41.toNat (combinep (a.Words.getD v37_41.toNat 0#64) (b.Words.getD v37_41.toNat 0#64))), (v37_41 + 1)) [0, 0, 1, 2, 3, 4, 6, 5] ⟨(q3 hM42 (by simp only [bitset_merge_L0, h9, h14, h19, h24, h26, h52, hg7, hg17, cs4])), (by omega), (by omega), (by omega), (by omega), iv1⟩
 intro h52
 have g56 := of_decide_eq_false h52
 obtain rfl : r39 = 0 := by omega
 refine Ke ?_
 have hR57 := q2 hM42 out1_40 (by simp only [bitset_merge_L0, h9, h14, h19, h24, h26, h52, hg7, hg17, cs4])
 refine KS ?_
 refine Oq (VldA sh42 7) (Ost (Scl [0] sh42 [vi a.Width, vl a36 k37 (List.replicate (a.Words.length : Int).toNat 0#64)]) (Oq Va (KS ?_)))
 refine Jl [6] (Ent.freeze _ _) ?_
 have hq := q4 hrr ((GSet.mk a.Width out1_40), 0) (by simp only [bitset_merge, h9, h14, h19, h24, h26, h52, hg7, hg17, hR57, cs4]); subst hq
 exact Kr (vl a36 k37 (List.replicate (a.Words.length : Int).toNat 0#64)) rfl (.cellN 1 rfl sh42 rfl (reads_Cl _ _) rfl (.tmp rfl .nil)) [0] en
theorem fn236 (x : BitVec 64) (y : BitVec 64) (rr : BitVec 64) (hrr : bitset_Union_1 x y = rr) : FT Tryz.prog 236 #[u64 x, u64 y] [] (fun g : Unit => True) (fun g => u64 rr) (fun g => []) := by
 refine FTi Tryz.func236 fun w0 M0 F0 => ?_
 refine KS ?_
 refine Oq Va (KS ?_)
 refine Oq Vm (Oq Vm (Oq VorU (Oq Va (KS ?_))))
 have hq := q4 hrr (x ||| y) (by simp only [bitset_Union_1, cs4]); subst hq
 exact Kr () rfl (.tmp rfl .nil) [] trivial
theorem fn180 (a : GSet) (aa1 : Option Addr) (ak1 : Nat) (b : GSet) (ba1 : Option Addr) (bk1 : Nat) (ha_0 : i64ok a.Width) (hb_0 : i64ok b.Width) (rr : GSet × Int) (hrr : bitset_Union a b = rr) : FT Tryz.prog 180 #[.agg #[vi a.Width, vl aa1 ak1 a.Words], .agg #[vi b.Width, vl ba1 bk1 b.Words]] [S aa1 ak1 a.Words, S ba1 bk1 b.Words] (fun g : Value => i64ok rr.1.Width ∧ i64ok rr.2) (fun g => .tuple #[.agg #[vi rr.1.Width, g], vi rr.2]) (fun g => [sl g rr.1.Words]) := by
 refine FTi Tryz.func180 fun w0 M0 F0 => ?_
 unfold i64ok at ha_0 hb_0
 refine Fb 8 0 fun hl1 => ?_
 refine Fb 8 1 fun hl2 => ?_
 refine KS ?_
 refine Oa (Ab [vi a.Width, vl aa1 ak1 a.Words]) fun p3 => Oa (Ab [vi b.Width, vl ba1 bk1 b.Words]) fun p4 => Oa (Al ze42 [vi 0, .slice none 0 0]) fun p5 => Oq Va (KS ?_)
 refine Oq (VldA sh42 2) (Oq (VldA sh42 1) ?_)
 refine JJ_ent (Ent.pall [] rfl rfl) ?_
 refine letv (bitset_merge a b (fun x0 x1 => bitset_Union_1 x0 x1)) fun rv7 hg8 => ?_
 have hc9 := fn235 a aa1 ak1 b ba1 bk1 236 [] (fun x0 x1 => bitset_Union_1 x0 x1) [] pre pre ca236 (fun x0 x1 => FT_pall (A1 := []) (fn236 x0 x1   _ rfl)) rv7 hg8
 refine Oc [4, 5, 0] ca235 hc9 ?_
 rintro c6 ⟨he10, he11⟩
 unfold i64ok at he10 he11
 refine Jo 0 ?_; rintro a12 k13 rfl
 refine Fb 8 0 fun hl14 => ?_
 refine Oq Vx (Oq Vx (Ost (Scl [2] sh42 [vi rv7.1.Width, vl a12 k13 rv7.1.Words]) (Oq Va (KS ?_))))
 have hq := q4 hrr (rv7.1, rv7.2) (by simp only [bitset_Union, hg8, cs4]); subst hq
 exact Kr (vl a12 k13 rv7.1.Words) rfl (.cellN 0 rfl sh42 rfl (reads_Cl _ _) rfl (.tmp rfl .nil)) [1] en
theorem fn262 (x : BitVec 64) (y : BitVec 64) (rr : BitVec 64) (hrr : bitset_Diff_1 x y = rr) : FT Tryz.prog 262 #[u64 x, u64 y] [] (fun g : Unit => True) (fun g => u64 rr) (fun g => []) := by
 refine FTi Tryz.func262 fun w0 M0 F0 => ?_
 refine KS ?_
 refine Oq Va (KS ?_)
 refine Oq Vm (Oq Vm (Oq VandNotU (Oq Va (KS ?_))))
 have hq := q4 hrr (x &&& ~~~y) (by simp only [bitset_Diff_1, cs4]); subst hq
 exact Kr () rfl (.tmp rfl .nil) [] trivial
theorem fn214 (a : GSet) (aa1 : Option Addr) (ak1 : Nat) (b : GSet) (ba1 : Option Addr) (bk1 : Nat) (ha_0 : i64ok a.Width) (hb_0 : i64ok b.Width) (rr : GSet × Int) (hrr : bitset_Diff a b = rr) : FT Tryz.prog 214 #[.agg #[vi a.Width, vl aa1 ak1 a.Words], .agg #[vi b.Width, vl ba1 bk1 b.Words]] [S aa1 ak1 a.Words, S ba1 bk1 b.Words] (fun g : Value => i64ok rr.1.Width ∧ i64ok rr.2) (fun g => .tuple #[.agg #[vi rr.1.Width, g], vi rr.2]) (fun g => [sl g rr.1.Words]) := by
 refine FTi Tryz.func214 fun w0 M0 F0 => ?_
 unfold i64ok at ha_0 hb_0
 refine Fb 8 0 fun hl1 => ?_
 refine Fb 8 1 fun hl2 => ?_
 refine KS ?_
 refine Oa (Ab [vi a.Width, vl aa1 ak1 a.Words]) fun p3 => Oa (Ab [vi b.Width, vl ba1 bk1 b.Words]) fun p4 => Oa (Al ze42 [vi 0, .slice none 0 0]) fun p5 => Oq Va (KS ?_)
 refine Oq (VldA sh42 2) (Oq (VldA sh42 1) ?_)
 refine JJ_ent (Ent.pall [] rfl rfl) ?_
 refine letv (bitset_merge a b (fun x0 x1 => bitset_Diff_1 x0 x1)) fun rv7 hg8 => ?_
 have hc9 := fn235 a aa1 ak1 b ba1 bk1 262 [] (fun x0 x1 => bitset_Diff_1 x0 x1) [] pre pre ca262 (fun x0 x1 => FT_pall (A1 := []) (fn262 x0 x1   _ rfl)) rv7 hg8
 refine Oc [4, 5, 0] ca235 hc9 ?_
 rintro c6 ⟨he10, he11⟩
 unfold i64ok at he10 he11
 refine Jo 0 ?_; rintro a12 k13 rfl
 refine Fb 8 0 fun hl14 => ?_
 refine Oq Vx (Oq Vx (Ost (Scl [2] sh42 [vi rv7.1.Width, vl a12 k13 rv7.1.Words]) (Oq Va (KS ?_))))
 have hq := q4 hrr (rv7.1, rv7.2) (by simp only [bitset_Diff, hg8, cs4]); subst hq
 exact Kr (vl a12 k13 rv7.1.Words) rfl (.cellN 0 rfl sh42 rfl (reads_Cl _ _) rfl (.tmp rfl .nil)) [1] en
theorem fn299 (s : GSet) (sa1 : Option Addr) (sk1 : Nat) (b : Int) (hs_0 : i64ok s.Width) (hb_0 : i64ok b) (hb0 : 0 ≤ b ∧ b / 64 < (s.Words.length : Int)) (rr : List (BitVec 64)) (hrr : bitset_put s b = rr) : FT Tryz.prog 299 #[.agg #[vi s.Width, vl sa1 sk1 s.Words], vi b] [O sa1 sk1 s.Words] (fun g : Unit => True) (fun g => .tuple #[]) (fun g => [os (vl sa1 sk1 s.Words) rr]) := by
 refine FTi Tryz.func299 fun w0 M0 F0 => ?_
 unfold i64ok at hs_0 hb_0
 refine Fb 8 0 fun hl1 => ?_
 refine KS ?_
 refine Oa (Ab [vi s.Width, vl sa1 sk1 s.Words]) fun p2 => KS ?_
 refine Oq (Vfa fo42_1 0) (Oq (VldF sh40 0) (Oq Vm (Oq Vquo (Oq (Vi sl40 1) (Oq (VldU sh122 1) (Oq Vm (Oq (VcU un3 un123) (Oq (VremU (b := 64#64) (by simp)) (Oq (VshlU (a := 1#64)) ?_)))))))))
 refine Oq VorU (Oq (Vi sl40 1) (Ost (SoU [1] sh122) (KS ?_)))
 have hq := q4 hrr (s.Words.set ((b / 64) : Int).toNat ((s.Words.getD ((b / 64) : Int).toNat 0#64) ||| (1#64 <<< ((((BitVec.ofInt 64 b) % 64#64).toNat : Int)).toNat))) (by simp only [bitset_put, cs4]); subst hq
 exact Kz () rfl .nil [0] trivial
theorem fn294 (s : GSet) (sa1 : Option Addr) (sk1 : Nat) (b : Int) (member : Bool) (hs_0 : i64ok s.Width) (hb_0 : i64ok b) (rr : GSet × Int) (hrr : bitset_changed s b member = rr) : FT Tryz.prog 294 #[.agg #[vi s.Width, vl sa1 sk1 s.Words], vi b, vb member] [S sa1 sk1 s.Words] (fun g : Value => i64ok rr.1.Width ∧ i64ok rr.2) (fun g => .tuple #[.agg #[vi rr.1.Width, g], vi rr.2]) (fun g => [sl g rr.1.Words]) := by
 refine FTi Tryz.func294 fun w0 M0 F0 => ?_
 unfold i64ok at hs_0 hb_0
 refine Fb 8 0 fun hl1 => ?_
 refine KS ?_
 refine Oa (Ab [vi s.Width, vl sa1 sk1 s.Words]) fun p2 => Oa (Al ze42 [vi 0, .slice none 0 0]) fun p3 => Oq Va (KS ?_)
 refine Oq (VldA sh42 1) ?_
 refine letv (bitset_Valid s) fun rv4 hg5 => ?_
 have hc6 := fn123 s sa1 sk1 pre rv4 hg5
 refine Oc [2] ca123 hc6 ?_
 rintro - -
 refine Oq Vnot (Oq Va (KS ?_))
 refine Kc ?_ ?_
 · intro h7
   have h9 := not_true h7
   refine KS ?_
   refine Oq (Vbd st42 [vi 0, .slice none 0 0]) (Ost (Scl [0] sh42 [vi 0, .slice none 0 0]) (Oq Va (KS ?_)))
   refine Jl [] (Ent.slNil (α := BitVec 64)) ?_
   have hq := q4 hrr ((GSet.mk 0 []), 1) (by simp only [bitset_changed, h7, h9, hg5, cs4]); subst hq
   exact Kr (.slice none 0 0) rfl (.cellN 1 rfl sh42 rfl (reads_Cl _ _) rfl (.tmp rfl .nil)) [0] en
 intro h7
 have h12 := not_false h7
 try have hrg := PV_w (s := s) (by simp only [h7, h12, hg5])
 try have hwi := within_iff (s := s) (b := b) (by simp only [h7, h12, hg5])
 refine KS ?_
 refine Oq (VldA sh42 1) (Oq Vm ?_)
 refine letv (bitset_within s b) fun rv14 hg15 => ?_
 have hc16 := fn160 s sa1 sk1 b pre pre rv14 hg15
 refine Oc [2] ca160 hc16 ?_
 rintro - -
 refine Oq Vnot (Oq Va (KS ?_))
 refine Kc ?_ ?_
 · intro h17
   have h19 := not_true h17
   refine KS ?_
   refine Oq (Vbd st42 [vi 0, .slice none 0 0]) (Ost (Scl [0] sh42 [vi 0, .slice none 0 0]) (Oq Va (KS ?_)))
   refine Jl [] (Ent.slNil (α := BitVec 64)) ?_
   have hq := q4 hrr ((GSet.mk 0 []), 3) (by simp only [bitset_changed, h7, h12, h17, h19, hg5, hg15, cs4]); subst hq
   exact Kr (.slice none 0 0) rfl (.cellN 1 rfl sh42 rfl (reads_Cl _ _) rfl (.tmp rfl .nil)) [0] en
 intro h17
 have h22 := not_false h17
 try have hrg := PV_w (s := s) (by simp only [h7, h12, h17, h22, hg5, hg15])
 try have hwi := within_iff (s := s) (b := b) (by simp only [h7, h12, h17, h22, hg5, hg15])
 refine KS ?_
 refine JK_drawK [0, 1, 0, 4, 12, 31, 0, 127] fmix ?_
 refine Dv [1] (Vfa fo42_0 0) (Dv [1] (VldF sh3 0) (Dv [1] (Vfa fo42_1 0) (Dv [1] (VldF sh40 0) ?_)))
 refine letv (slices_Clone_uint64 s.Words) fun rv25 hg26 => ?_
 refine Dx [2] [] [2, 0, 1] (fun G => (G.g 4 0)) [fun G => SP.fact ((rv25.length = s.Words.length)), fun G => os (G.g 4 0) rv25] (fun G => xC [0] ca184 (fn184 s.Words sa1 sk1 rv25 hg26)) ?_
 refine Dx [4] [] [0] (fun G => .agg #[vi s.Width, (G.g 4 0)]) [] (fun G => xV (v := .agg #[vi s.Width, (G.g 4 0)]) (Vo 0 rfl (isO_os _ _) fun aq27 kq28 eq29 => (by rw [eq29]; exact Vbd st42 [vi s.Width, .slice aq27 ((rv25 : List (BitVec 64)).length) kq28]))) (Dx [] [] [0] (fun G => (G.g 6 0)) [fun G => Cl (G.g 6 0) [vi 0, .slice none 0 0]] (fun G => xA (Al ze42 [vi 0, .slice none 0 0])) (Dx0 [4, 5] [5] [1, 0] [fun G => Cl (G.g 6 0) [vi s.Width, (G.g 4 0)]] (fun G => x1 0 rfl os_one fun ho31 => (xS (Scl [1] sh42 [vi s.Width, (G.g 4 0)] (v := .agg #[vi s.Width, (G.g 4 0)]) (h1 := show [vi s.Width, (G.g 4 0)].all (·.oneCell') = true from (by simp only [List.all_cons, List.all_nil, ho31, Bool.and_true, Bool.true_and] <;> rfl))))) ?_))
 refine Dn ⟨by kernel_rfl, fun G => ?_⟩
 refine Jw2 [(1, vi b), (2, vb member), (6, p3), (8, (G.g 6 0))] [0, 1, 2] [SP.fact ((rv25.length = s.Words.length)), os (G.g 4 0) rv25, Cl (G.g 6 0) [vi s.Width, (G.g 4 0)]] ?_
 generalize G.g 4 0 = c24, G.g 6 0 = p30
 refine Jf 3 rfl ?_; rintro he32
 refine Jk [0, 0, 1, 3, 3] ?_
 refine Jo 3 ?_; rintro a33 k34 rfl
 refine Fb 8 3 fun hl35 => ?_
 refine KS ?_
 refine Oq (Vfa fo42_1 4) (Oq (VldF sh40 4) (Oq Vm (Oq Vquo (Oq (Vi sl40 3) (Oq (VldU sh122 3) (Oq Vm (Oq (VcU un3 un123) (Oq (VremU (b := 64#64) (by simp)) (Oq (VshlU (a := 1#64)) ?_)))))))))
 refine Oq VandNotU (Oq (Vi sl40 3) (Ost (SoU [3] sh122) (KS ?_)))
 refine Oq Vm (KS ?_)
 refine Kc ?_ ?_
 · intro h36
   refine KS ?_
   refine Oq (VldA sh42 4) (Oq Vm ?_)
   refine Fl 0 fun hn38 => ?_; try unfold vl; rw [← hn38]
   refine letv (bitset_put (GSet.mk s.Width (rv25.set ((b / 64) : Int).toNat ((rv25.getD ((b / 64) : Int).toNat 0#64) &&& ~~~(1#64 <<< ((((BitVec.ofInt 64 b) % 64#64).toNat : Int)).toNat)))) b) fun rv39 hg40 => ?_
   have hc41 := fn299 ((GSet.mk s.Width (rv25.set ((b / 64) : Int).toNat ((rv25.getD ((b / 64) : Int).toNat 0#64) &&& ~~~(1#64 <<< ((((BitVec.ofInt 64 b) % 64#64).toNat : Int)).toNat))))) a33 k34 b pre pre pre rv39 hg40
   refine Oc [0] ca299 hc41 ?_
   rintro - -
   refine KS ?_
   refine Oq (VldA sh42 4) (Ost (Scl [1] sh42 [vi s.Width, .slice a33 ((rv25.set ((b / 64) : Int).toNat ((rv25.getD ((b / 64) : Int).toNat 0#64) &&& ~~~(1#64 <<< ((((BitVec.ofInt 64 b) % 64#64).toNat : Int)).toNat))).length) k34]) (Oq Va (KS ?_)))
   refine Jl [1] (Ent.freeze _ _) ?_
   have hq := q4 hrr ((GSet.mk s.Width rv39), 0) (by simp only [bitset_changed, h7, h12, h17, h22, h36, hg5, hg15, hg26, hg40, cs4]); subst hq
   exact Kr (.slice a33 ((rv25.set ((b / 64) : Int).toNat ((rv25.getD ((b / 64) : Int).toNat 0#64) &&& ~~~(1#64 <<< ((((BitVec.ofInt 64 b) % 64#64).toNat : Int)).toNat))).length) k34) rfl (.cellN 1 rfl sh42 rfl (reads_Cl _ _) rfl (.tmp rfl .nil)) [0] en
 intro h36
 refine KS ?_
 refine Oq (VldA sh42 4) (Ost (Scl [1] sh42 [vi s.Width, vl a33 k34 rv25]) (Oq Va (KS ?_)))
 refine Jl [1] (Ent.freeze _ _) ?_
 have hq := q4 hrr ((GSet.mk s.Width (rv25.set ((b / 64) : Int).toNat ((rv25.getD ((b / 64) : Int).toNat 0#64) &&& ~~~(1#64 <<< ((((BitVec.ofInt 64 b) % 64#64).toNat : Int)).toNat)))), 0) (by simp only [bitset_changed, h7, h12, h17, h22, h36, hg5, hg15, hg26, cs4]); subst hq
 exact Kr (vl a33 k34 rv25) rfl (.cellN 1 rfl sh42 rfl (reads_Cl _ _) rfl (.tmp rfl .nil)) [0] en
theorem fn280 (s : GSet) (sa1 : Option Addr) (sk1 : Nat) (b : Int) (hs_0 : i64ok s.Width) (hb_0 : i64ok b) (rr : GSet × Int) (hrr : bitset_With s b = rr) : FT Tryz.prog 280 #[.agg #[vi s.Width, vl sa1 sk1 s.Words], vi b] [S sa1 sk1 s.Words] (fun g : Value => i64ok rr.1.Width ∧ i64ok rr.2) (fun g => .tuple #[.agg #[vi rr.1.Width, g], vi rr.2]) (fun g => [sl g rr.1.Words]) := by
 refine FTi Tryz.func280 fun w0 M0 F0 => ?_
 unfold i64ok at hs_0 hb_0
 refine Fb 8 0 fun hl1 => ?_
 refine KS ?_
 refine Oa (Ab [vi s.Width, vl sa1 sk1 s.Words]) fun p2 => Oa (Al ze42 [vi 0, .slice none 0 0]) fun p3 => Oq Va (KS ?_)
 refine Oq (VldA sh42 1) (Oq Vm ?_)
 refine letv (bitset_changed s b true) fun rv5 hg6 => ?_
 have hc7 := fn294 s sa1 sk1 b true pre pre rv5 hg6
 refine Oc [2] ca294 hc7 ?_
 rintro c4 ⟨he8, he9⟩
 unfold i64ok at he8 he9
 refine Jo 0 ?_; rintro a10 k11 rfl
 refine Fb 8 0 fun hl12 => ?_
 refine Oq Vx (Oq Vx (Ost (Scl [1] sh42 [vi rv5.1.Width, vl a10 k11 rv5.1.Words]) (Oq Va (KS ?_))))
 have hq := q4 hrr (rv5.1, rv5.2) (by simp only [bitset_With, hg6, cs4]); subst hq
 exact Kr (vl a10 k11 rv5.1.Words) rfl (.cellN 0 rfl sh42 rfl (reads_Cl _ _) rfl (.tmp rfl .nil)) [1] en
theorem fn234 (t : GTransfer) (ta1 : Option Addr) (tk1 : Nat) (ta3 : Option Addr) (tk3 : Nat) (ta4 : Option Addr) (tk4 : Nat) (s : GSet) (sa1 : Option Addr) (sk1 : Nat) (ht_0 : i64ok t.Gen.Width) (ht_2 : i64ok t.Kill.Width) (hs_0 : i64ok s.Width) (rr : GSet) (hrr : transfer_apply t s = rr) : FT Tryz.prog 234 #[.agg #[vi t.Gen.Width, vl ta1 tk1 t.Gen.Words, vi t.Kill.Width, vl ta3 tk3 t.Kill.Words, vl ta4 tk4 t.Copies], .agg #[vi s.Width, vl sa1 sk1 s.Words]] [S ta1 tk1 t.Gen.Words, S ta3 tk3 t.Kill.Words, S ta4 tk4 t.Copies, S sa1 sk1 s.Words] (fun g : Value => i64ok rr.Width) (fun g => .agg #[vi rr.Width, g]) (fun g => [sl g rr.Words]) := by
 refine FTi Tryz.func234 fun w0 M0 F0 => ?_
 unfold i64ok at ht_0 ht_2 hs_0
 refine Fb 8 0 fun hl1 => ?_
 refine Fb 8 1 fun hl2 => ?_
 refine Fb 16 2 fun hl3 => ?_
 refine Fb 8 3 fun hl4 => ?_
 refine KS ?_
 refine Oa (Ab [vi t.Gen.Width, vl ta1 tk1 t.Gen.Words, vi t.Kill.Width, vl ta3 tk3 t.Kill.Words, vl ta4 tk4 t.Copies]) fun p5 => Oa (Ab [vi s.Width, vl sa1 sk1 s.Words]) fun p6 => Oa (Al ze42 [vi 0, .slice none 0 0]) fun p7 => KS ?_
 refine Oq (VldA sh42 1) (Oq (Vfa fo98_1 2) (Oq (VldG sh42 2 [vi t.Kill.Width, vl ta3 tk3 t.Kill.Words]) ?_))
 refine letv (bitset_Diff s t.Kill) fun rv9 hg10 => ?_
 have hc11 := fn214 s sa1 sk1 t.Kill ta3 tk3 pre pre rv9 hg10
 refine Oc [6, 4] ca214 hc11 ?_
 rintro c8 ⟨he12, he13⟩
 unfold i64ok at he12 he13
 refine Jo 0 ?_; rintro a14 k15 rfl
 refine Fb 8 0 fun hl16 => ?_
 refine Oq Vm (Oq Vx (Oq Vx (Oa (Al ze42 [vi 0, .slice none 0 0]) fun p17 => Ost (Scl [0] sh42 [vi rv9.1.Width, vl a14 k15 rv9.1.Words]) (Oq Va (KS ?_)))))
 refine Oq (VldA sh42 0) (Oq (Vfa fo98_0 4) (Oq (VldG sh42 4 [vi t.Gen.Width, vl ta1 tk1 t.Gen.Words]) ?_))
 refine letv (bitset_Union rv9.1 t.Gen) fun rv19 hg20 => ?_
 have hc21 := fn180 rv9.1 a14 k15 t.Gen ta1 tk1 pre pre rv19 hg20
 refine Oc [1, 5] ca180 hc21 ?_
 rintro c18 ⟨he22, he23⟩
 unfold i64ok at he22 he23
 refine Jo 0 ?_; rintro a24 k25 rfl
 refine Fb 8 0 fun hl26 => ?_
 refine Oq Vm (Oq Vx (Oq Vx (Ost (Scl [1] sh42 [vi rv19.1.Width, vl a24 k25 rv19.1.Words]) (KS ?_))))
 refine Oq (Vfa fo98_2 5) (Oq (VldF sh96 5) (Oq (Vlen sl96) (Oq Vm (KS ?_))))
 refine Kl (γ := Nat × Int × List (BitVec 64) × Int × Option Addr × Nat) (fun (r27, out0_28, out1_29, v26_30, a31, k32) => ⟨[(3, p6), (4, p7), (5, p17), (24, vl ta4 tk4 t.Copies), (25, vi (t.Copies.length : Int)), (26, vi v26_30)], [S a31 k32 out1_29, Cl p17 [vi out0_28, vl a31 k32 out1_29], Cl p7 [vi 0, .slice none 0 0], pv p6 [vi s.Width, vl sa1 sk1 s.Words], S ta4 tk4 t.Copies, S sa1 sk1 s.Words], transfer_apply_L0 t s r27 out0_28 out1_29 v26_30 = transfer_apply_L0 t s (((t.Copies.length : Int) - 0).toNat) rv19.1.Width rv19.1.Words 0 ∧ r27 = ((t.Copies.length : Int) - v26_30).toNat ∧ (0 : Int) ≤ v26_30 ∧ v26_30 ≤ (t.Copies.length : Int) ∧ (-9223372036854775808 ≤ out0_28 ∧ out0_28 ≤ 9223372036854775807) ∧ (-9223372036854775808 ≤ v26_30 ∧ v26_30 ≤ 9223372036854775807), r27⟩) (((t.Copies.length : Int) - 0).toNat, rv19.1.Width, rv19.1.Words, 0, a24, k25) [1, 0, 2, 2, 6, 7] ⟨rfl, rfl, (by omega), (by omega), (by omega), (by omega)⟩ ?_
 rintro ⟨r27, out0_28, out1_29, v26_30, a31, k32⟩ ⟨hM33, hr34, hi35, hi36, hk37, hk38⟩
 refine JJ_nx fun _ _ hL hA => ?_; dsimp only at hL hA; subst hL hA
 refine Fb 8 0 fun hl39 => ?_
 refine Fb 16 4 fun hl40 => ?_
 refine Fb 8 5 fun hl41 => ?_
 refine KS ?_
 refine Oq Vlss (KS ?_)
 refine Kc ?_ ?_
 · intro h42
   have g43 := of_decide_eq_true h42
   obtain ⟨r44, rfl⟩ := scc (n := r27) (by omega)
   refine KS ?_
   refine Oq (Vi sl96 4) ?_
   refine JJ_peek_GCopy v26_30.toNat 4 rfl rng fun hb45 hb46 => ?_
   unfold i64ok at hb45 hb46
   refine Oq (VldA sh147 0) (Oa (Al ze147 [vi 0, vi 0]) fun p47 => Ost (Scl [0] sh147 [vi ((t.Copies.getD v26_30.toNat default).From), vi ((t.Copies.getD v26_30.toNat default).To)]) (KS ?_))
   refine Oq (VldA sh42 5) (Oq (Vfa fo147_0 0) (Oq (VldF sh3 0) ?_))
   refine letv (bitset_Has s ((t.Copies.getD v26_30.toNat default).From)) fun rv48 hg49 => ?_
   have hc50 := fn85 s sa1 sk1 ((t.Copies.getD v26_30.toNat default).From) pre pre rv48 hg49
   refine Oc [7] ca85 hc50 ?_
   rintro - -
   refine KS ?_
   refine Kc ?_ ?_
   · intro h51
     refine KS ?_
     refine Oq (VldA sh42 3) (Oq (Vfa fo147_1 0) (Oq (VldF sh3 0) ?_))
     refine letv (bitset_With (GSet.mk out0_28 out1_29) ((t.Copies.getD v26_30.toNat default).To)) fun rv54 hg55 => ?_
     have hc56 := fn280 ((GSet.mk out0_28 out1_29)) a31 k32 ((t.Copies.getD v26_30.toNat default).To) pre pre rv54 hg55
     refine Oc [2] ca280 hc56 ?_
     rintro c53 ⟨he57, he58⟩
     unfold i64ok at he57 he58
     refine Jo 0 ?_; rintro a59 k60 rfl
     refine Fb 8 0 fun hl61 => ?_
     refine Oq Vm (Oq Vx (Oq Vx (Ost (Scl [4] sh42 [vi rv54.1.Width, vl a59 k60 rv54.1.Words]) (KS ?_))))
     refine Oq Vadd (Oq Vm (KS ?_))
     exact Kg (r44, rv54.1.Width, rv54.1.Words, (v26_30 + 1), a59, k60) [1, 0, 4, 4, 5, 6] ⟨(q3 hM33 (by simp only [transfer_apply_L0, h42, h51, hg10, hg20, hg49, hg55, cs4])), (by omega), (by omega), (by omega), (by omega), (by omega)⟩
   intro h51
   refine KS ?_
   refine Oq Vadd (Oq Vm (KS ?_))
   exact Kg (r44, out0_28, out1_29, (v26_30 + 1), a31, k32) [2, 3, 3, 3, 4, 5] ⟨(q3 hM33 (by simp only [transfer_apply_L0, h42, h51, hg10, hg20, hg49, cs4])), (by omega), (by omega), (by omega), (by omega), (by omega)⟩
 intro h42
 have g63 := of_decide_eq_false h42
 obtain rfl : r27 = 0 := by omega
 refine Ke ?_
 have hR64 := q2 hM33 (out0_28, out1_29) (by simp only [transfer_apply_L0, h42, hg10, hg20, cs4])
 refine KS ?_
 refine Oq (VldA sh42 1) (Ost (Scl [2] sh42 [vi out0_28, vl a31 k32 out1_29]) (KS ?_))
 have hq := q4 hrr (GSet.mk out0_28 out1_29) (by simp only [transfer_apply, h42, hg10, hg20, hR64, cs4]); subst hq
 exact Kr (vl a31 k32 out1_29) rfl (.cellN 0 rfl sh42 rfl (reads_Cl _ _) rfl .nil) [1] en
theorem fn179 (t : GTransfer) (ta1 : Option Addr) (tk1 : Nat) (ta3 : Option Addr) (tk3 : Nat) (ta4 : Option Addr) (tk4 : Nat) (s : GSet) (sa1 : Option Addr) (sk1 : Nat) (ht_0 : i64ok t.Gen.Width) (ht_2 : i64ok t.Kill.Width) (hs_0 : i64ok s.Width) (rr : GSet × Int) (hrr : transfer_Apply t s = rr) : FT Tryz.prog 179 #[.agg #[vi t.Gen.Width, vl ta1 tk1 t.Gen.Words, vi t.Kill.Width, vl ta3 tk3 t.Kill.Words, vl ta4 tk4 t.Copies], .agg #[vi s.Width, vl sa1 sk1 s.Words]] [S ta1 tk1 t.Gen.Words, S ta3 tk3 t.Kill.Words, S ta4 tk4 t.Copies, S sa1 sk1 s.Words] (fun g : Value => i64ok rr.1.Width ∧ i64ok rr.2) (fun g => .tuple #[.agg #[vi rr.1.Width, g], vi rr.2]) (fun g => [sl g rr.1.Words]) := by
 refine FTi Tryz.func179 fun w0 M0 F0 => ?_
 unfold i64ok at ht_0 ht_2 hs_0
 refine Fb 8 0 fun hl1 => ?_
 refine Fb 8 1 fun hl2 => ?_
 refine Fb 16 2 fun hl3 => ?_
 refine Fb 8 3 fun hl4 => ?_
 refine KS ?_
 refine Oa (Ab [vi t.Gen.Width, vl ta1 tk1 t.Gen.Words, vi t.Kill.Width, vl ta3 tk3 t.Kill.Words, vl ta4 tk4 t.Copies]) fun p5 => Oa (Ab [vi s.Width, vl sa1 sk1 s.Words]) fun p6 => Oa (Al ze42 [vi 0, .slice none 0 0]) fun p7 => Oq Va (KS ?_)
 refine Oq (VldA sh98 2) ?_
 refine letv (transfer_Valid t) fun rv8 hg9 => ?_
 have hc10 := fn156 t ta1 tk1 ta3 tk3 ta4 tk4 pre pre rv8 hg9
 refine Oc [3, 4, 5] ca156 hc10 ?_
 rintro - -
 refine Oq Vnot (Oq Vm ?_)
 refine Js 10 ?_ ?_
 · intro h11
   have h13 := not_true h11
   refine Osk (Osk (Osk (Oq Vpt (Oq Va (KS ?_)))))
   refine Kt ?_
   refine KS ?_
   refine Oq (Vbd st42 [vi 0, .slice none 0 0]) (Ost (Scl [0] sh42 [vi 0, .slice none 0 0]) (Oq Va (KS ?_)))
   refine Jl [] (Ent.slNil (α := BitVec 64)) ?_
   have hq := q4 hrr ((GSet.mk 0 []), 1) (by simp only [transfer_Apply, h11, h13, hg9, cs4]); subst hq
   exact Kr (.slice none 0 0) rfl (.cellN 1 rfl sh42 rfl (reads_Cl _ _) rfl (.tmp rfl .nil)) [0] en
 intro h11
 have h16 := not_false h11
 refine Oq (VldA sh42 1) ?_
 refine letv (bitset_Valid s) fun rv18 hg19 => ?_
 have hc20 := fn123 s sa1 sk1 pre rv18 hg19
 refine Oc [6] ca123 hc20 ?_
 rintro - -
 refine Oq Vnot (Oq Vpf (Oq Va (KS ?_)))
 refine Kc ?_ ?_
 · intro h21
   have h23 := not_true h21
   refine KS ?_
   refine Oq (Vbd st42 [vi 0, .slice none 0 0]) (Ost (Scl [0] sh42 [vi 0, .slice none 0 0]) (Oq Va (KS ?_)))
   refine Jl [] (Ent.slNil (α := BitVec 64)) ?_
   have hq := q4 hrr ((GSet.mk 0 []), 1) (by simp only [transfer_Apply, h11, h16, h21, h23, hg9, hg19, cs4]); subst hq
   exact Kr (.slice none 0 0) rfl (.cellN 1 rfl sh42 rfl (reads_Cl _ _) rfl (.tmp rfl .nil)) [0] en
 intro h21
 have h26 := not_false h21
 refine KS ?_
 refine Oq (Vfa fo98_0 2) (Oq (VfaF fo42_0 2) (Oq (VldF sh3 2) (Oq (Vfa fo42_0 1) (Oq (VldF sh3 1) (Oq Vneq (Oq Va (KS ?_)))))))
 refine Kc ?_ ?_
 · intro h28
   have g29 := ne_of_bne h28
   refine KS ?_
   refine Oq (Vbd st42 [vi 0, .slice none 0 0]) (Ost (Scl [0] sh42 [vi 0, .slice none 0 0]) (Oq Va (KS ?_)))
   refine Jl [] (Ent.slNil (α := BitVec 64)) ?_
   have hq := q4 hrr ((GSet.mk 0 []), 2) (by simp only [transfer_Apply, h11, h16, h21, h26, h28, hg9, hg19, cs4]); subst hq
   exact Kr (.slice none 0 0) rfl (.cellN 1 rfl sh42 rfl (reads_Cl _ _) rfl (.tmp rfl .nil)) [0] en
 intro h28
 have g30 := eq_of_bne_false h28
 refine KS ?_
 refine Oq (VldA sh98 2) (Oq (VldA sh42 1) ?_)
 refine letv (transfer_apply t s) fun rv32 hg33 => ?_
 have hc34 := fn234 t ta1 tk1 ta3 tk3 ta4 tk4 s sa1 sk1 pre pre pre rv32 hg33
 refine Oc [3, 4, 5, 6] ca234 hc34 ?_
 rintro c31 he35
 unfold i64ok at he35
 refine Jo 0 ?_; rintro a36 k37 rfl
 refine Fb 8 0 fun hl38 => ?_
 refine Ost (Scl [1] sh42 [vi rv32.Width, vl a36 k37 rv32.Words]) (Oq Va (KS ?_))
 have hq := q4 hrr (rv32, 0) (by simp only [transfer_Apply, h11, h16, h21, h26, h28, hg9, hg19, hg33, cs4]); subst hq
 exact Kr (vl a36 k37 rv32.Words) rfl (.cellN 0 rfl sh42 rfl (reads_Cl _ _) rfl (.tmp rfl .nil)) [1] en
theorem fn237 (s1 : List (BitVec 64)) (s1a0 : Option Addr) (s1k0 : Nat) (s2 : List (BitVec 64)) (s2a0 : Option Addr) (s2k0 : Nat) (rr : Bool) (hrr : slices_Equal_uint64 s1 s2 = rr) : FT Tryz.prog 237 #[vl s1a0 s1k0 s1, vl s2a0 s2k0 s2] [S s1a0 s1k0 s1, S s2a0 s2k0 s2] (fun g : Unit => True) (fun g => vb rr) (fun g => []) := by
 refine FTi Tryz.func237 fun w0 M0 F0 => ?_
 refine Fb 8 0 fun hl1 => ?_
 refine Fb 8 1 fun hl2 => ?_
 refine KS ?_
 refine Oq Va (KS ?_)
 refine Oq Vm (Oq (Vlen sl40) (Oq Vm (Oq (Vlen sl40) (Oq Vneq (KS ?_)))))
 refine Kc ?_ ?_
 · intro h3
   have g4 := ne_of_bne h3
   refine KS ?_
   refine Oq Va (KS ?_)
   have hq := q4 hrr false (by simp only [slices_Equal_uint64, h3, cs4]); subst hq
   exact Kr () rfl (.tmp rfl .nil) [] trivial
 intro h3
 have g5 := eq_of_bne_false h3
 refine KS ?_
 refine Oq Vm (Oq (Vlen sl40) (Oq Vm (KS ?_)))
 refine Kl (γ := Nat × Int) (fun (r6, v13_7) => ⟨[(0, vl s1a0 s1k0 s1), (1, vl s2a0 s2k0 s2), (12, vi (s1.length : Int)), (13, vi v13_7)], [S s1a0 s1k0 s1, S s2a0 s2k0 s2], slices_Equal_uint64_L0 s1 s2 r6 v13_7 = slices_Equal_uint64_L0 s1 s2 (((s1.length : Int) - 0).toNat) 0 ∧ r6 = ((s1.length : Int) - v13_7).toNat ∧ (0 : Int) ≤ v13_7 ∧ v13_7 ≤ (s1.length : Int) ∧ (-9223372036854775808 ≤ v13_7 ∧ v13_7 ≤ 9223372036854775807), r6⟩) (((s1.length : Int) - 0).toNat, 0) [0, 1] ⟨rfl, rfl, (by omega), (by omega), (by omega)⟩ ?_
 rintro ⟨r6, v13_7⟩ ⟨hM8, hr9, hi10, hi11, hk12⟩
 refine JJ_nx fun _ _ hL hA => ?_; dsimp only at hL hA; subst hL hA
 refine Fb 8 0 fun hl13 => ?_
 refine Fb 8 1 fun hl14 => ?_
 refine KS ?_
 refine Oq Vlss (KS ?_)
 refine Kc ?_ ?_
 · intro h15
   have g16 := of_decide_eq_true h15
   obtain ⟨r17, rfl⟩ := scc (n := r6) (by omega)
   refine KS ?_
   refine Oq Vm (Oq Va (KS ?_))
   refine Kq [0, 0, 3, 7, 0, 0, 48, 112, 255] fmix ?_
   refine Qv [] Vm (Qv [] Vm (Qv [0] (Vi sl40 0) (Qv [0] (VldU sh122 0) (Qv [] Vm (Qv [] Vm (Qv [1] (Vi sl40 0) (Qv [1] (VldU sh122 0) (Qv [] VneqU ?_))))))))
   refine Qn ⟨by kernel_rfl, ?_⟩
   refine Kc ?_ ?_
   · intro h18
     have g19 := ne_of_bne h18
     refine KS ?_
     refine Oq Va (KS ?_)
     have hR20 := q2 hM8 (.ret false) (by simp only [slices_Equal_uint64_L0, h3, h15, h18, cs4])
     have hq := q4 hrr false (by simp only [slices_Equal_uint64, h3, h15, h18, hR20, cs4]); subst hq
     exact Kr () rfl (.tmp rfl .nil) [] trivial
   intro h18
   have g21 := eq_of_bne_false h18
   refine KS ?_
   refine Oq Vadd (Oq Vm (KS ?_))
   exact Kg (r17, (v13_7 + 1)) [0, 1] ⟨(q3 hM8 (by simp only [slices_Equal_uint64_L0, h3, h15, h18, cs4])), (by omega), (by omega), (by omega), (by omega)⟩
 intro h15
 have g22 := of_decide_eq_false h15
 obtain rfl : r6 = 0 := by omega
 refine Ke ?_
 have hR23 := q2 hM8 (.brk ()) (by simp only [slices_Equal_uint64_L0, h3, h15, cs4])
 refine KS ?_
 refine Oq Va (KS ?_)
 have hq := q4 hrr true (by simp only [slices_Equal_uint64, h3, h15, hR23, cs4]); subst hq
 exact Kr () rfl (.tmp rfl .nil) [] trivial
theorem fn181 (a : GSet) (aa1 : Option Addr) (ak1 : Nat) (b : GSet) (ba1 : Option Addr) (bk1 : Nat) (ha_0 : i64ok a.Width) (hb_0 : i64ok b.Width) (rr : Bool) (hrr : bitset_Equal a b = rr) : FT Tryz.prog 181 #[.agg #[vi a.Width, vl aa1 ak1 a.Words], .agg #[vi b.Width, vl ba1 bk1 b.Words]] [S aa1 ak1 a.Words, S ba1 bk1 b.Words] (fun g : Unit => True) (fun g => vb rr) (fun g => []) := by
 refine FTi Tryz.func181 fun w0 M0 F0 => ?_
 unfold i64ok at ha_0 hb_0
 refine Fb 8 0 fun hl1 => ?_
 refine Fb 8 1 fun hl2 => ?_
 refine KS ?_
 refine Oa (Ab [vi a.Width, vl aa1 ak1 a.Words]) fun p3 => Oa (Ab [vi b.Width, vl ba1 bk1 b.Words]) fun p4 => Oq Va (KS ?_)
 refine Oq (VldA sh42 1) ?_
 refine letv (bitset_Valid a) fun rv5 hg6 => ?_
 have hc7 := fn123 a aa1 ak1 pre rv5 hg6
 refine Oc [2] ca123 hc7 ?_
 rintro - -
 refine Oq Vm ?_
 refine Js 7 ?_ ?_
 · intro h8
   refine Oq (VldA sh42 0) ?_
   refine letv (bitset_Valid b) fun rv10 hg11 => ?_
   have hc12 := fn123 b ba1 bk1 pre rv10 hg11
   refine Oc [3] ca123 hc12 ?_
   rintro - -
   refine Oq Vpt (Oq Vm ?_)
   refine Js 11 ?_ ?_
   · intro h13
     refine Oq (Vfa fo42_0 1) (Oq (VldF sh3 1) (Oq (Vfa fo42_0 0) (Oq (VldF sh3 0) (Oq Veql (Oq Vpt (Oq Vm ?_))))))
     refine Js 18 ?_ ?_
     · intro h15
       have g16 := eq_of_beq h15
       refine Oq (Vfa fo42_1 1) (Oq (VldF sh40 1) (Oq (Vfa fo42_1 0) (Oq (VldF sh40 0) ?_)))
       refine letv (slices_Equal_uint64 a.Words b.Words) fun rv17 hg18 => ?_
       have hc19 := fn237 a.Words aa1 ak1 b.Words ba1 bk1 rv17 hg18
       refine Oc [2, 3] ca237 hc19 ?_
       rintro - -
       refine Oq Vpt (Oq Va (KS ?_))
       have hq := q4 hrr rv17 (by simp only [bitset_Equal, h8, h13, h15, hg6, hg11, hg18, cs4]); subst hq
       exact Kr () rfl (.tmp rfl .nil) [] trivial
     intro h15
     have g20 := ne_of_beq_false h15
     refine Osk (Osk (Osk (Osk (Osk (Oq Vpf (Oq Va (KS ?_)))))))
     have hq := q4 hrr false (by simp only [bitset_Equal, h8, h13, h15, hg6, hg11, cs4]); subst hq
     exact Kr () rfl (.tmp rfl .nil) [] trivial
   intro h13
   refine Osk (Osk (Osk (Osk (Osk (Oq Vpf (Oq Vm (Osk (Osk (Osk ?_)))))))))
   refine Osk (Osk (Oq Vpf (Oq Va (KS ?_))))
   have hq := q4 hrr false (by simp only [bitset_Equal, h8, h13, hg6, hg11, cs4]); subst hq
   exact Kr () rfl (.tmp rfl .nil) [] trivial
 intro h8
 refine Osk (Osk (Oq Vpf (Oq Vm (Osk (Osk (Osk (Osk (Osk (Oq Vpf ?_)))))))))
 refine Oq Vm (Osk (Osk (Osk (Osk (Osk (Oq Vpf (Oq Va (KS ?_))))))))
 have hq := q4 hrr false (by simp only [bitset_Equal, h8, hg6, cs4]); subst hq
 exact Kr () rfl (.tmp rfl .nil) [] trivial
theorem fn95 (s : GSystem) (sa1 : Option Addr) (sk1 : Nat) (sa2 : Option Addr) (sk2 : Nat) (sa3 : Option Addr) (sk3 : Nat) (stP : Value) (st : GState) (sta1 : Option Addr) (stk1 : Nat) (sta2 : Option Addr) (stk2 : Nat) (sta5 : Option Addr) (stk5 : Nat) (sta6 : Option Addr) (stk6 : Nat) (hs_0 : i64ok s.Width) (hst_0 : i64ok st.Phase) (hst_3 : i64ok st.At) (hst_4 : i64ok st.Edge) (hst_7 : i64ok st.Steps) (hv : VSys s) (hp : POk s st) (rr : Int × GState) (hrr : solver_push s st = rr) : FT Tryz.prog 95 #[.agg #[vi s.Width, vl sa1 sk1 s.Deps, vl sa2 sk2 s.Transfers, vl sa3 sk3 s.Boundary], stP] [S sa1 sk1 s.Deps, S sa2 sk2 s.Transfers, S sa3 sk3 s.Boundary, Cl stP [vi st.Phase, vl sta1 stk1 st.Cone, vl sta2 stk2 st.Leaf, vi st.At, vi st.Edge, vl sta5 stk5 st.Values, vl sta6 stk6 st.Queue, vi st.Steps], O sta1 stk1 st.Cone, O sta2 stk2 st.Leaf, O sta5 stk5 st.Values, O sta6 stk6 st.Queue] (fun g : Value × Value × Value × Value => i64ok rr.1 ∧ i64ok rr.2.Phase ∧ i64ok rr.2.At ∧ i64ok rr.2.Edge ∧ i64ok rr.2.Steps ∧ (0 ≤ rr.1 ∧ rr.1 ≤ 8)) (fun g => vi rr.1) (fun g => [Cl stP [vi rr.2.Phase, g.1, g.2.1, vi rr.2.At, vi rr.2.Edge, g.2.2.1, g.2.2.2, vi rr.2.Steps], os g.1 rr.2.Cone, os g.2.1 rr.2.Leaf, os g.2.2.1 rr.2.Values, os g.2.2.2 rr.2.Queue]) := by
 refine FTi Tryz.func95 fun w0 M0 F0 => ?_
 unfold i64ok at hs_0 hst_0 hst_3 hst_4 hst_7
 refine Fb 24 0 fun hl1 => ?_
 refine Fb 88 1 fun hl2 => ?_
 refine Fb 32 2 fun hl3 => ?_
 refine Fb 8 4 fun hl4 => ?_
 refine Fo 4 fun ho5 => ?_
 refine Fb 1 5 fun hl6 => ?_
 refine Fb 32 6 fun hl7 => ?_
 refine Fb 8 7 fun hl8 => ?_
 refine Fo 7 fun ho9 => ?_
 have hv1 := hv.n
 have hv2 := hv.tl
 have hv3 := hv.bl
 have hv4 := hv.w
 have hv5 := hv.dep_len
 have hp1 := hp.lf
 have hp2 := hp.cl
 have hp3 := hp.vl
 have hp4 := hp.qn
 have hp5 := hp.ql
 have hpi := hp.qr _ (getD_mem (xs := st.Queue) (i := (0 : Int).toNat) (d := 0) (by show 0 < _; omega))
 have hpc := hp.cr _ (getD_mem (xs := st.Cone) (i := ((st.Queue.getD (0 : Int).toNat 0) : Int).toNat) (d := 0) (by omega))
 refine KS ?_
 refine Oa (Ab [vi s.Width, vl sa1 sk1 s.Deps, vl sa2 sk2 s.Transfers, vl sa3 sk3 s.Boundary]) fun p10 => Oq Va (KS ?_)
 refine Oq Vm (Oq (Vn 4) (Oq (Vfa fo59_6 4) (Oq (VldF sh22 4) (Oq (Vi sl22 8) ?_))))
 have hb11 := ok1 (i := (0 : Int).toNat) ho9 rng
 refine Oq (VldI sh3 8) (Oq Va (KS ?_))
 refine Oq Vm (Oq Vm (Oq (Vn 4) (Oq (Vfa fo59_6 4) (Oq (VldF sh22 4) (Oa (AslO [8] sl22 ((1 : Int).toNat) st.Queue.length) fun c12 => ?_)))))
 refine Jo 0 ?_; rintro a13 k14 rfl
 refine Fb 8 0 fun hl15 => ?_
 refine Fo 0 fun ho16 => ?_
 have hn17 : ((st.Queue.take st.Queue.length).drop ((1 : Int).toNat)).length = st.Queue.length - ((1 : Int).toNat) := len_slice rng rng
 refine Oq (Vn 5) (Oq (Vfa fo59_6 5) (Ost (SclF [5] sh22 [vi st.Phase, vl sta1 stk1 st.Cone, vl sta2 stk2 st.Leaf, vi st.At, vi st.Edge, vl sta5 stk5 st.Values, vl a13 k14 ((st.Queue.take st.Queue.length).drop ((1 : Int).toNat)), vi st.Steps]) (KS ?_)))
 refine Jp 0 fun hp18 => ?_
 refine JK_drawK [0, 0, 2, 6, 14, 0, 32, 96, 224, 0, 1023, 2047] fmix ?_
 refine Dv [3] (VldA sh27 0) (Dv [] Vm (Dv [0] (Vn 0) (Dv [0] (Vfa fo59_1 0) (Dv [1] (VldF sh22 0) (Dv [] Vm (Dv [0] (Vn 0) (Dv [0] (Vfa fo59_2 0) (Dv [1] (VldF sh57 0) (Dv [] Vm ?_)))))))))
 refine letv (cone_Dependents s st.Cone st.Leaf (st.Queue.getD (0 : Int).toNat 0)) fun rv20 hg21 => ?_
 refine Dx [4, 5, 6, 7, 8] [7, 8] [4, 5, 6, 0, 1, 1, 1] (fun G => (G.g 10 0)) [fun G => SP.fact ((rv20.length ≤ st.Cone.length)), fun G => O sta2 stk2 st.Leaf, fun G => O sta1 stk1 st.Cone, fun G => os (G.g 10 0) rv20] (fun G => xC [4, 3, 0, 1, 2] ca57 (FT_borrow (A := _) hlx (FT_ent (Ent.take (is := [1, 1, 2, 3, 0]) rfl) (FT_borrow (A := _) hlx (FT_ent (Ent.take (is := [1, 2, 3, 0, 4]) rfl) (fn57 s sa1 sk1 sa2 sk2 sa3 sk3 st.Cone sta1 stk1 st.Leaf sta2 stk2 ((st.Queue.getD (0 : Int).toNat 0)) pre pre rv20 hg21))))) (ht := rfl)) (Dg [] (fun G => (G.g 10 0)) (fun G => Va) ?_)
 refine Dn ⟨by kernel_rfl, fun G => ?_⟩
 refine Jw2 [(1, stP), (2, p10), (5, vi (st.Queue.getD (0 : Int).toNat 0)), (6, (G.g 10 0))] [0, 1, 2, 3, 4, 5, 6, 9] [SP.fact ((rv20.length ≤ st.Cone.length)), O sta2 stk2 st.Leaf, O sta1 stk1 st.Cone, os (G.g 10 0) rv20] ?_
 generalize G.g 10 0 = c19
 refine Jf 8 rfl ?_; rintro he22
 refine Jk [1, 1, 1, 2, 3, 4, 5, 6, 6, 6] ?_
 refine Jo 9 ?_; rintro a23 k24 rfl
 refine Fb 8 9 fun hl25 => ?_
 refine Fo 9 fun ho26 => ?_
 refine KS ?_
 refine Oq Vm (Oq (Vlen sl22) (Oq Vm (KS ?_)))
 refine Kl (γ := Nat × List GSet × List Int × Int × Option Addr × Nat) (fun (r27, st5_28, st6_29, v38_30, a31, k32) => ⟨[(1, stP), (2, p10), (5, vi (st.Queue.getD (0 : Int).toNat 0)), (6, vl a23 k24 rv20), (36, vl a23 k24 rv20), (37, vi (rv20.length : Int)), (38, vi v38_30)], [O a31 k32 st6_29, Cl stP [vi st.Phase, vl sta1 stk1 st.Cone, vl sta2 stk2 st.Leaf, vi st.At, vi st.Edge, vl sta5 stk5 st.Values, vl a31 k32 st6_29, vi st.Steps], pv p10 [vi s.Width, vl sa1 sk1 s.Deps, vl sa2 sk2 s.Transfers, vl sa3 sk3 s.Boundary], S sa1 sk1 s.Deps, S sa2 sk2 s.Transfers, S sa3 sk3 s.Boundary, os (vl sta5 stk5 st.Values) st5_28, O sta2 stk2 st.Leaf, O sta1 stk1 st.Cone, O a23 k24 rv20], solver_push_L0 s st rv20 r27 st5_28 st6_29 v38_30 = solver_push_L0 s st rv20 (((rv20.length : Int) - 0).toNat) st.Values ((st.Queue.take st.Queue.length).drop ((1 : Int).toNat)) 0 ∧ r27 = ((rv20.length : Int) - v38_30).toNat ∧ (0 : Int) ≤ v38_30 ∧ v38_30 ≤ (rv20.length : Int) ∧ (-9223372036854775808 ≤ v38_30 ∧ v38_30 ≤ 9223372036854775807) ∧ (st5_28.length : Int) = (st.Cone.length : Int) ∧ (st6_29.length : Int) ≤ 256 + v38_30, r27⟩) (((rv20.length : Int) - 0).toNat, st.Values, ((st.Queue.take st.Queue.length).drop ((1 : Int).toNat)), 0, a13, k14) [1, 0, 0, 1, 2, 3, 4, 4, 4, 4] ⟨rfl, rfl, (by omega), (by omega), (by omega), iv0, iv0⟩ ?_
 rintro ⟨r27, st5_28, st6_29, v38_30, a31, k32⟩ ⟨hM33, hr34, hi35, hi36, hk37, hv38, hv39⟩
 refine JJ_nx fun _ _ hL hA => ?_; dsimp only at hL hA; subst hL hA
 refine Fb 8 0 fun hl40 => ?_
 refine Fo 0 fun ho41 => ?_
 refine Fb 24 3 fun hl42 => ?_
 refine Fb 88 4 fun hl43 => ?_
 refine Fb 32 5 fun hl44 => ?_
 refine Fb 32 6 fun hl45 => ?_
 refine Fl 6 fun hn46 => ?_
 refine Fb 1 7 fun hl47 => ?_
 refine Fb 8 8 fun hl48 => ?_
 refine Fo 8 fun ho49 => ?_
 refine Fb 8 9 fun hl50 => ?_
 refine Fo 9 fun ho51 => ?_
 refine KS ?_
 refine Oq Vlss (KS ?_)
 refine Kc ?_ ?_
 · intro h52
   have g53 := of_decide_eq_true h52
   have hqd := PDep_mem (r := rv20) (by assumption) _ (getD_mem (xs := rv20) (i := v38_30.toNat) (d := 0) (by omega))
   obtain ⟨r54, rfl⟩ := scc (n := r27) (by omega)
   refine KS ?_
   refine Oq (Vi sl22 9) ?_
   have hb55 := ok1 (i := v38_30.toNat) ho51 rng
   refine Oq (VldI sh3 9) (Oq Va (KS ?_))
   refine Jp 1 fun hp56 => ?_
   refine JJ_peek_GTransfer ((st.Cone.getD ((st.Queue.getD (0 : Int).toNat 0) : Int).toNat 0) : Int).toNat 5 rfl rng fun a57 k58 a59 k60 a61 k62 hb63 hb64 => ?_
   unfold i64ok at hb63 hb64
   refine Fb 8 1 fun hl65 => ?_
   refine Fb 8 2 fun hl66 => ?_
   refine Fb 16 3 fun hl67 => ?_
   refine JJ_peekO_GSet ((st.Queue.getD (0 : Int).toNat 0) : Int).toNat 11 rfl rng fun a68 k69 hb70 => ?_
   unfold i64ok at hb70
   refine Fb 8 1 fun hl71 => ?_
   refine JK_drawK [0, 1, 0, 4, 12, 28, 0, 124, 252, 511, 1023, 0, 2048, 6144, 14336, 0, 63488, 129024, 262143, 524287, 1048575, 1048575, 0, 6291455, 16777215] fmix ?_
   refine Dv [9] (Vfa fo27_2 0) (Dv [9] (VldF sh24 0) (Dv [] Vm (Dv [6] (Vn 0) (Dv [6] (Vfa fo59_1 0) (Dv [8] (VldF sh22 0) (Dv [] Vm (Dv [14] (Vi sl22 0) ?_)))))))
   have hb72 := ok1 (i := ((st.Queue.getD (0 : Int).toNat 0) : Int).toNat) ho49 rng
   refine Dv [14] (VldI sh3 0) (Dv [11] (Vi sl24 0) (Dv [2] (VldA sh98 0) (Dv [] Vm (Dv [6] (Vn 0) (Dv [6] (Vfa fo59_5 0) (Dv [8] (VldF sh25 0) (Dv [] Vm (Dv [0] (Vi sl25 0) (Dv [0] (VldA sh42 0) ?_)))))))))
   refine letv (transfer_Apply (s.Transfers.getD ((st.Cone.getD ((st.Queue.getD (0 : Int).toNat 0) : Int).toNat 0) : Int).toNat default) (st5_28.getD ((st.Queue.getD (0 : Int).toNat 0) : Int).toNat default)) fun rv74 hg75 => ?_
   refine Dx [1, 3, 4, 5] [] [2, 3, 4, 5, 0, 1] (fun G => .tuple #[.agg #[vi rv74.1.Width, (G.g 18 0)], vi rv74.2]) [fun G => SP.fact (i64ok rv74.1.Width ∧ i64ok rv74.2), fun G => sl (G.g 18 0) rv74.1.Words] (fun G => xC [1, 2, 3, 0] ca179 (fn179 ((s.Transfers.getD ((st.Cone.getD ((st.Queue.getD (0 : Int).toNat 0) : Int).toNat 0) : Int).toNat default)) a57 k58 a59 k60 a61 k62 ((st5_28.getD ((st.Queue.getD (0 : Int).toNat 0) : Int).toNat default)) a68 k69 pre pre pre rv74 hg75)) (Dg [] (fun G => .tuple #[.agg #[vi rv74.1.Width, (G.g 18 0)], vi rv74.2]) (fun G => Vm) (Dg [] (fun G => .agg #[vi rv74.1.Width, (G.g 18 0)]) (fun G => Vx) (Dv [] Vx (Dx [] [] [0] (fun G => (G.g 22 0)) [fun G => Cl (G.g 22 0) [vi 0, .slice none 0 0]] (fun G => xA (Al ze42 [vi 0, .slice none 0 0])) (Dx0 [17, 18] [18] [1, 0] [fun G => Cl (G.g 22 0) [vi rv74.1.Width, (G.g 18 0)]] (fun G => x1 0 rfl sl_one fun ho77 => (xS (Scl [1] sh42 [vi rv74.1.Width, (G.g 18 0)] (v := .agg #[vi rv74.1.Width, (G.g 18 0)]) (h1 := show [vi rv74.1.Width, (G.g 18 0)].all (·.oneCell') = true from (by simp only [List.all_cons, List.all_nil, ho77, Bool.and_true, Bool.true_and] <;> rfl))))) (Dv [] Va ?_))))))
   refine Dn ⟨by kernel_rfl, fun G => ?_⟩
   refine Jw2 [(1, stP), (2, p10), (5, vi (st.Queue.getD (0 : Int).toNat 0)), (6, vl a23 k24 rv20), (36, vl a23 k24 rv20), (37, vi (rv20.length : Int)), (38, vi v38_30), (8, vi (rv20.getD v38_30.toNat 0)), (9, (G.g 22 0))] [0, 1, 2, 3, 4, 5, 6, 7, 8, 9, 10, 11, 12, 13, 14, 15] [SP.fact (i64ok rv74.1.Width ∧ i64ok rv74.2), sl (G.g 18 0) rv74.1.Words, Cl (G.g 22 0) [vi rv74.1.Width, (G.g 18 0)]] ?_
   generalize G.g 18 0 = c73, G.g 22 0 = p76
   refine Jf 16 rfl ?_; rintro ⟨he78, he79⟩
   unfold i64ok at he78 he79
   refine Jk [0, 0, 1, 2, 3, 4, 6, 6, 6, 7, 8, 9, 10, 10, 10, 11, 12] ?_
   refine Jo 15 ?_; rintro a80 k81 rfl
   refine Fb 8 15 fun hl82 => ?_
   refine KS ?_
   refine Jp 7 fun hp83 => ?_
   refine JJ_peekO2_GSet ((rv20.getD v38_30.toNat 0) : Int).toNat 1 rfl rng fun a84 k85 hb86 => ?_
   unfold i64ok at hb86
   refine Fb 8 1 fun hl87 => ?_
   refine JK_drawK [0, 1, 3, 7, 0, 31, 63, 0, 255, 511, 1023, 1023, 2047] fmix ?_
   refine Dv [] Vm (Dv [2] (Vn 0) (Dv [2] (Vfa fo59_5 0) (Dv [9] (VldF sh25 0) (Dv [] Vm (Dv [0] (Vi sl25 0) (Dv [0] (VldA sh42 0) (Dv [18] (VldA sh42 0) ?_)))))))
   refine letv (bitset_Union (st5_28.getD ((rv20.getD v38_30.toNat 0) : Int).toNat default) rv74.1) fun rv89 hg90 => ?_
   refine Dx [1, 17] [] [2, 3, 0, 1] (fun G => .tuple #[.agg #[vi rv89.1.Width, (G.g 8 0)], vi rv89.2]) [fun G => SP.fact (i64ok rv89.1.Width ∧ i64ok rv89.2), fun G => sl (G.g 8 0) rv89.1.Words] (fun G => xC [0, 1] ca180 (fn180 ((st5_28.getD ((rv20.getD v38_30.toNat 0) : Int).toNat default)) a84 k85 rv74.1 a80 k81 pre pre rv89 hg90)) (Dg [] (fun G => .tuple #[.agg #[vi rv89.1.Width, (G.g 8 0)], vi rv89.2]) (fun G => Vm) (Dg [] (fun G => .agg #[vi rv89.1.Width, (G.g 8 0)]) (fun G => Vx) (Dv [] Vx (Dx0 [18, 20] [18] [1, 0] [fun G => Cl p76 [vi rv89.1.Width, (G.g 8 0)]] (fun G => x1 1 rfl sl_one fun ho91 => (xS (Scl [0] sh42 [vi rv89.1.Width, (G.g 8 0)] (v := .agg #[vi rv89.1.Width, (G.g 8 0)]) (h1 := show [vi rv89.1.Width, (G.g 8 0)].all (·.oneCell') = true from (by simp only [List.all_cons, List.all_nil, ho91, Bool.and_true, Bool.true_and] <;> rfl))))) ?_))))
   refine Dn ⟨by kernel_rfl, fun G => ?_⟩
   refine Jw2 [(1, stP), (2, p10), (5, vi (st.Queue.getD (0 : Int).toNat 0)), (6, vl a23 k24 rv20), (36, vl a23 k24 rv20), (37, vi (rv20.length : Int)), (38, vi v38_30), (8, vi (rv20.getD v38_30.toNat 0)), (9, p76)] [0, 1, 2, 3, 4, 5, 6, 7, 8, 9, 10, 11, 12, 13, 14, 15, 16, 17] [SP.fact (i64ok rv89.1.Width ∧ i64ok rv89.2), sl (G.g 8 0) rv89.1.Words, Cl p76 [vi rv89.1.Width, (G.g 8 0)]] ?_
   generalize G.g 8 0 = c88
   refine Jf 18 rfl ?_; rintro ⟨he92, he93⟩
   unfold i64ok at he92 he93
   refine Jk [0, 0, 2, 3, 4, 5, 6, 7, 7, 7, 8, 9, 10, 11, 11, 11, 11, 13, 14] ?_
   refine Jo 17 ?_; rintro a94 k95 rfl
   refine Fb 8 17 fun hl96 => ?_
   refine KS ?_
   refine Jp 8 fun hp97 => ?_
   refine JK_drawK [0, 0, 2, 6, 14, 0, 62, 126, 255] fmix ?_
   refine Dv [19] (VldA sh42 0) (Dv [] Vm (Dv [0] (Vn 0) (Dv [0] (Vfa fo59_5 0) (Dv [9] (VldF sh25 0) (Dv [] Vm (Dv [1] (Vi sl25 0) (Dv [1] (VldA sh42 0) ?_)))))))
   refine letv (bitset_Equal rv89.1 (st5_28.getD ((rv20.getD v38_30.toNat 0) : Int).toNat default)) fun rv98 hg99 => ?_
   refine Dx [2, 18] [] [1, 2, 0] (fun G => vb rv98) [fun G => SP.fact (True)] (fun G => xC [1, 0] ca181 (fn181 rv89.1 a94 k95 ((st5_28.getD ((rv20.getD v38_30.toNat 0) : Int).toNat default)) a84 k85 pre pre rv98 hg99)) ?_
   refine Dn ⟨by kernel_rfl, fun G => ?_⟩
   refine Jw2 [(1, stP), (2, p10), (5, vi (st.Queue.getD (0 : Int).toNat 0)), (6, vl a23 k24 rv20), (36, vl a23 k24 rv20), (37, vi (rv20.length : Int)), (38, vi v38_30), (8, vi (rv20.getD v38_30.toNat 0)), (9, p76), (84, vb rv98)] [0, 1, 2, 3, 4, 5, 6, 7, 8, 9, 10, 11, 12, 13, 14, 15, 16, 17, 18, 19] [SP.fact (True)] ?_
   refine Jk [1, 1, 2, 3, 4, 5, 6, 7, 7, 7, 8, 9, 10, 11, 11, 11, 11, 12, 13] ?_
   refine Kc ?_ ?_
   · intro h100
     refine Jl [0] (Ent.oread2 _ _ _ _ _ _) ?_
     refine Ke ?_
     refine KS ?_
     refine Oq Vadd (Oq Vm (KS ?_))
     exact Kg (r54, st5_28, st6_29, (v38_30 + 1), a31, k32) [7, 7, 7, 8, 9, 10, 0, 10, 10, 10] ⟨(q3 hM33 (by simp only [solver_push_L0, h52, h100, hg21, hg75, hg90, hg99, cs4])), (by omega), (by omega), (by omega), (by omega), iv1, iv1⟩
   intro h100
   refine KS ?_
   refine Jp 8 fun hp103 => ?_
   refine JK_drawK [0, 1, 3, 7, 0, 0, 63, 127] fmix ?_
   refine Dv [] Vm (Dv [0] (Vn 0) (Dv [0] (Vfa fo59_5 0) (Dv [9] (VldF sh25 0) (Dv [] Vm (Dv [19] (VldA sh42 0) (Dv [1] (Vi sl25 0) ?_))))))
   refine Dx0 [1, 18] [1] [1, 0] [fun G => os (vl sta5 stk5 st.Values) (st5_28.set ((rv20.getD v38_30.toNat 0) : Int).toNat rv89.1)] (fun G => xp [0] rfl (Ent.oread2 _ _ _ _ _ _) (xS (So (Rs := [S a94 k95 rv89.1.Words]) [0, 0] sh42 rv89.1 (fun h => ⟨_, rfl, (by unfold i64ok; first | omega | (dsimp only; omega)), sepAll_get (i := 0) rfl h⟩)))) ?_
   refine Dn ⟨by kernel_rfl, fun G => ?_⟩
   refine Jw2 [(1, stP), (2, p10), (5, vi (st.Queue.getD (0 : Int).toNat 0)), (6, vl a23 k24 rv20), (36, vl a23 k24 rv20), (37, vi (rv20.length : Int)), (38, vi v38_30), (8, vi (rv20.getD v38_30.toNat 0))] [0, 2, 3, 4, 5, 6, 7, 8, 9, 10, 11, 12, 13, 14, 15, 16, 17, 18, 19] [os (vl sta5 stk5 st.Values) (st5_28.set ((rv20.getD v38_30.toNat 0) : Int).toNat rv89.1)] ?_
   refine Jk [1, 2, 3, 4, 5, 6, 7, 7, 7, 8, 9, 10, 11, 11, 11, 11, 12, 13, 13] ?_
   refine KS ?_
   refine Oq Vm (Oq (Vn 7) (Oq (Vfa fo59_6 7) (Oq (VldF sh22 7) (Oq Vm ?_))))
   refine letv (slices_Contains_int st6_29 (rv20.getD v38_30.toNat 0)) fun rv104 hg105 => ?_
   refine Oc [6] ca82 (FT_borrow (A := _) (fun _ _ h => by cases h) (FT_ent (Ent.take (is := [0]) rfl) (fn82 st6_29 a31 k32 ((rv20.getD v38_30.toNat 0)) pre rv104 hg105))) ?_ (ht := rfl)
   rintro - -
   refine Oq Vnot (KS ?_)
   refine Kc ?_ ?_
   · intro h106
     have h108 := not_true h106
     refine KS ?_
     refine Oq Vm (Oq Vm (Oq (Vn 7) (Oq (Vfa fo59_6 7) (Oq (VldF sh22 7) (Oq Vm (Oa (AsV sl22 sz22 [vi (rv20.getD v38_30.toNat 0)] [vi (rv20.getD v38_30.toNat 0)]) fun c110 => ?_))))))
     refine Jo 0 ?_; rintro a111 k112 rfl
     refine Jl [0] (Ent.crInt _ [(rv20.getD v38_30.toNat 0)] _ _ rfl rfl (by intro x hx; rw [List.mem_singleton] at hx; subst hx; unfold i64ok; omega) (Nat.le_of_ble_eq_true rfl)) ?_
     refine Oa (ApO [1, 0] sl22 sl22 sz22) fun c113 => ?_
     refine Jo 0 ?_; rintro a114 k115 rfl
     refine Fb 8 0 fun hl116 => ?_
     refine Fo 0 fun ho117 => ?_
     have hn118 := la st6_29 ([(rv20.getD v38_30.toNat 0)] : List Int)
     refine Oq (Vn 7) (Oq (Vfa fo59_6 7) (Ost (SclF [7] sh22 [vi st.Phase, vl sta1 stk1 st.Cone, vl sta2 stk2 st.Leaf, vi st.At, vi st.Edge, vl sta5 stk5 st.Values, vl a114 k115 (st6_29 ++ [(rv20.getD v38_30.toNat 0)]), vi st.Steps]) (KS ?_)))
     refine Oq Vadd (Oq Vm (KS ?_))
     exact Kg (r54, (st5_28.set ((rv20.getD v38_30.toNat 0) : Int).toNat rv89.1), (st6_29 ++ [(rv20.getD v38_30.toNat 0)]), (v38_30 + 1), a114, k115) [1, 0, 6, 7, 8, 9, 16, 10, 10, 10] ⟨(q3 hM33 (by simp only [solver_push_L0, h52, h100, h106, h108, hg21, hg75, hg90, hg99, hg105, cs4])), (by omega), (by omega), (by omega), (by omega), iv1, iv1⟩
   intro h106
   have h120 := not_false h106
   refine KS ?_
   refine Oq Vadd (Oq Vm (KS ?_))
   exact Kg (r54, (st5_28.set ((rv20.getD v38_30.toNat 0) : Int).toNat rv89.1), st6_29, (v38_30 + 1), a31, k32) [0, 6, 6, 7, 8, 9, 16, 10, 10, 10] ⟨(q3 hM33 (by simp only [solver_push_L0, h52, h100, h106, h120, hg21, hg75, hg90, hg99, hg105, cs4])), (by omega), (by omega), (by omega), (by omega), iv1, iv1⟩
 intro h52
 have g122 := of_decide_eq_false h52
 obtain rfl : r27 = 0 := by omega
 refine Ke ?_
 have hR123 := q2 hM33 (st5_28, st6_29) (by simp only [solver_push_L0, h52, hg21, cs4])
 refine KS ?_
 refine Oq Vm (Oq (Vn 1) (Oq (Vfa fo59_6 1) (Oq (VldF sh22 1) (Oq (Vlen sl22) (Oq Veql (KS ?_))))))
 refine Kc ?_ ?_
 · intro h124
   have g125 := eq_of_beq h124
   refine KS ?_
   refine Oq Vm (Oq (Vn 1) (Oq (Vfa fo59_0 1) (Ost (SclF [1] sh3 [vi 3, vl sta1 stk1 st.Cone, vl sta2 stk2 st.Leaf, vi st.At, vi st.Edge, vl sta5 stk5 st.Values, vl a31 k32 st6_29, vi st.Steps]) (KS ?_))))
   refine Oq Vm (Oq (Vlen sl22) (Oq Vadd (Oq Vmin (Oq Va (KS ?_)))))
   have hq := q4 hrr ((min (1 + (rv20.length : Int)) 8), (GState.mk 3 st.Cone st.Leaf st.At st.Edge st5_28 st6_29 st.Steps)) (by simp only [solver_push, h52, h124, hg21, hR123, cs4]); subst hq
   exact Kr (vl sta1 stk1 st.Cone, vl sta2 stk2 st.Leaf, vl sta5 stk5 st.Values, vl a31 k32 st6_29) rfl (.tmp rfl .nil) [0, 7, 6, 5, 0] en
 intro h124
 have g126 := ne_of_beq_false h124
 refine KS ?_
 refine Oq Vm (Oq (Vlen sl22) (Oq Vadd (Oq Vmin (Oq Va (KS ?_)))))
 have hq := q4 hrr ((min (1 + (rv20.length : Int)) 8), (GState.mk st.Phase st.Cone st.Leaf st.At st.Edge st5_28 st6_29 st.Steps)) (by simp only [solver_push, h52, h124, hg21, hR123, cs4]); subst hq
 exact Kr (vl sta1 stk1 st.Cone, vl sta2 stk2 st.Leaf, vl sta5 stk5 st.Values, vl a31 k32 st6_29) rfl (.tmp rfl .nil) [1, 7, 6, 5, 0] en
theorem fn35 (s : GSystem) (sa1 : Option Addr) (sk1 : Nat) (sa2 : Option Addr) (sk2 : Nat) (sa3 : Option Addr) (sk3 : Nat) (k : List GKnown) (ka0 : Option Addr) (kk0 : Nat) (st : GState) (sta1 : Option Addr) (stk1 : Nat) (sta2 : Option Addr) (stk2 : Nat) (sta5 : Option Addr) (stk5 : Nat) (sta6 : Option Addr) (stk6 : Nat) (steps : Int) (hs_0 : i64ok s.Width) (hst_0 : i64ok st.Phase) (hst_3 : i64ok st.At) (hst_4 : i64ok st.Edge) (hst_7 : i64ok st.Steps) (hsteps_0 : i64ok steps) (hs0 : steps ≤ 1000000000) (rr : GState × Int × Int) (hrr : solver_Run s k st steps = rr) : FT Tryz.prog 35 #[.agg #[vi s.Width, vl sa1 sk1 s.Deps, vl sa2 sk2 s.Transfers, vl sa3 sk3 s.Boundary], vl ka0 kk0 k, .agg #[vi st.Phase, vl sta1 stk1 st.Cone, vl sta2 stk2 st.Leaf, vi st.At, vi st.Edge, vl sta5 stk5 st.Values, vl sta6 stk6 st.Queue, vi st.Steps], vi steps] [S sa1 sk1 s.Deps, S sa2 sk2 s.Transfers, S sa3 sk3 s.Boundary, S ka0 kk0 k, S sta1 stk1 st.Cone, S sta2 stk2 st.Leaf, S sta5 stk5 st.Values, S sta6 stk6 st.Queue] (fun g : Value × Value × Value × Value => i64ok rr.1.Phase ∧ i64ok rr.1.At ∧ i64ok rr.1.Edge ∧ i64ok rr.1.Steps ∧ i64ok rr.2.1 ∧ i64ok rr.2.2 ∧ (0 ≤ rr.2.1 ∧ rr.2.1 ≤ 8000000000) ∧ (rr.1.Cone.length ≤ 256)) (fun g => .tuple #[.agg #[vi rr.1.Phase, g.1, g.2.1, vi rr.1.At, vi rr.1.Edge, g.2.2.1, g.2.2.2, vi rr.1.Steps], vi rr.2.1, vi rr.2.2]) (fun g => [sl g.1 rr.1.Cone, sl g.2.1 rr.1.Leaf, sl g.2.2.1 rr.1.Values, sl g.2.2.2 rr.1.Queue]) := by
 refine FTi Tryz.func35 fun w0 M0 F0 => ?_
 unfold i64ok at hs_0 hst_0 hst_3 hst_4 hst_7 hsteps_0
 refine Fb 24 0 fun hl1 => ?_
 refine Fb 88 1 fun hl2 => ?_
 refine Fb 32 2 fun hl3 => ?_
 refine Fb 40 3 fun hl4 => ?_
 refine Fb 8 4 fun hl5 => ?_
 refine Fo 4 fun ho6 => ?_
 refine Fb 1 5 fun hl7 => ?_
 refine Fb 32 6 fun hl8 => ?_
 refine Fb 8 7 fun hl9 => ?_
 refine Fo 7 fun ho10 => ?_
 refine KS ?_
 refine Oa (Ab [vi s.Width, vl sa1 sk1 s.Deps, vl sa2 sk2 s.Transfers, vl sa3 sk3 s.Boundary]) fun p11 => Oa (Ab [vi st.Phase, vl sta1 stk1 st.Cone, vl sta2 stk2 st.Leaf, vi st.At, vi st.Edge, vl sta5 stk5 st.Values, vl sta6 stk6 st.Queue, vi st.Steps]) fun p12 => Oa (Al ze59 [vi 0, .slice none 0 0, .slice none 0 0, vi 0, vi 0, .slice none 0 0, .slice none 0 0, vi 0]) fun p13 => Oq Va (Oq Va (KS ?_))
 refine Ksc ?_
 refine KS ?_
 refine Oq (VldA sh27 2) (Oq Vm (Oq (VldA sh59 1) ?_))
 refine letv (solver_Valid s k st) fun rv14 hg15 => ?_
 have hc16 := fn42 s sa1 sk1 sa2 sk2 sa3 sk3 k ka0 kk0 st sta1 stk1 sta2 stk2 sta5 stk5 sta6 stk6 pre pre pre pre pre rv14 hg15
 refine Oc [3, 4, 5, 6, 7, 8, 9, 10] ca42 hc16 ?_
 rintro - -
 refine Oq Vnot (Oq Vm ?_)
 refine Js 18 ?_ ?_
 · intro h17
   have h19 := not_true h17
   refine Osk (Osk (Oq Vpt (KS ?_)))
   refine Kt ?_
   refine KS ?_
   refine Oq (Vbd st59 [vi 0, .slice none 0 0, .slice none 0 0, vi 0, vi 0, .slice none 0 0, .slice none 0 0, vi 0]) (Ost (Scl [0] sh59 [vi 0, .slice none 0 0, .slice none 0 0, vi 0, vi 0, .slice none 0 0, .slice none 0 0, vi 0]) (Oq Va (Oq Va (KS ?_))))
   refine Jl [] (Ent.slNil (α := Int)) ?_
   refine Jl [] (Ent.slNil (α := Bool)) ?_
   refine Jl [] (Ent.slNil (α := GSet)) ?_
   have hq := q4 hrr ((GState.mk 0 [] [] 0 0 [] [] 0), 0, 1) (by simp only [solver_Run, h17, h19, hg15, cs4]); subst hq
   exact Kr (.slice none 0 0, .slice none 0 0, .slice none 0 0, .slice none 0 0) rfl (.cellN 3 rfl sh59 rfl (reads_Cl _ _) rfl (.tmp rfl (.tmp rfl .nil))) [2, 1, 0, 2] ⟨en, en, en, en, en, en, en, (by first | exact Nat.zero_le _ | exact PV_cone (by assumption))⟩
 intro h17
 have h22 := not_false h17
 refine Oq Vm (Oq Vlss (Oq Vpf (KS ?_)))
 refine Kc ?_ ?_
 · intro h24
   have g25 := of_decide_eq_true h24
   refine KS ?_
   refine Oq (Vbd st59 [vi 0, .slice none 0 0, .slice none 0 0, vi 0, vi 0, .slice none 0 0, .slice none 0 0, vi 0]) (Ost (Scl [0] sh59 [vi 0, .slice none 0 0, .slice none 0 0, vi 0, vi 0, .slice none 0 0, .slice none 0 0, vi 0]) (Oq Va (Oq Va (KS ?_))))
   refine Jl [] (Ent.slNil (α := Int)) ?_
   refine Jl [] (Ent.slNil (α := Bool)) ?_
   refine Jl [] (Ent.slNil (α := GSet)) ?_
   have hq := q4 hrr ((GState.mk 0 [] [] 0 0 [] [] 0), 0, 1) (by simp only [solver_Run, h17, h22, h24, hg15, cs4]); subst hq
   exact Kr (.slice none 0 0, .slice none 0 0, .slice none 0 0, .slice none 0 0) rfl (.cellN 3 rfl sh59 rfl (reads_Cl _ _) rfl (.tmp rfl (.tmp rfl .nil))) [2, 1, 0, 2] ⟨en, en, en, en, en, en, en, (by first | exact Nat.zero_le _ | exact PV_cone (by assumption))⟩
 intro h24
 have g26 := of_decide_eq_false h24
 refine KS ?_
 refine Oq (VldA sh59 1) ?_
 refine letv (solver_copied st) fun rv31 hg32 => ?_
 have hc33 := fn93 st sta1 stk1 sta2 stk2 sta5 stk5 sta6 stk6 pre pre pre pre rv31 hg32
 refine Oc [7, 8, 9, 10] ca93 hc33 ?_
 rintro ⟨c27, c28, c29, c30⟩ ⟨he34, he35, he36, he37⟩
 unfold i64ok at he34 he35 he36 he37
 refine Jo 0 ?_; rintro a38 k39 rfl
 refine Fb 8 0 fun hl40 => ?_
 refine Fo 0 fun ho41 => ?_
 refine Jo 1 ?_; rintro a42 k43 rfl
 refine Fb 1 1 fun hl44 => ?_
 refine Jo 2 ?_; rintro a45 k46 rfl
 refine Fb 32 2 fun hl47 => ?_
 refine Jo 3 ?_; rintro a48 k49 rfl
 refine Fb 8 3 fun hl50 => ?_
 refine Fo 3 fun ho51 => ?_
 have hcs : rv31 = st := (by assumption : solver_copied st = rv31).symm.trans (copied_eq st)
 have hvi : solver_Valid s k rv31 = true := by rw [hcs]; simp only [h17, h22, h24, hg15, hg32]
 refine Oa (Al ze59 [vi 0, .slice none 0 0, .slice none 0 0, vi 0, vi 0, .slice none 0 0, .slice none 0 0, vi 0]) fun p52 => Ost (Scl [0] sh59 [vi rv31.Phase, vl a38 k39 rv31.Cone, vl a42 k43 rv31.Leaf, vi rv31.At, vi rv31.Edge, vl a45 k46 rv31.Values, vl a48 k49 rv31.Queue, vi rv31.Steps]) (KS ?_)
 refine Oq Va (KS ?_)
 refine Klb ?_
 refine KS ?_
 refine Oq Vm (Oq Vm (KS ?_))
 refine Kl (γ := Nat × Int × List Int × List Bool × Int × Int × List GSet × List Int × Int × Int × Int × Option Addr × Nat × Option Addr × Nat × Option Addr × Nat × Option Addr × Nat) (fun (r53, out0_54, out1_55, out2_56, out3_57, out4_58, out5_59, out6_60, out7_61, cost_62, v26_63, a64, k65, a66, k67, a68, k69, a70, k71) => ⟨[(1, vl ka0 kk0 k), (4, p11), (8, p13), (11, p52), (12, vi cost_62), (25, vi steps), (26, vi v26_63)], [O a70 k71 out6_60, O a68 k69 out5_59, O a66 k67 out2_56, O a64 k65 out1_55, Cl p52 [vi out0_54, vl a64 k65 out1_55, vl a66 k67 out2_56, vi out3_57, vi out4_58, vl a68 k69 out5_59, vl a70 k71 out6_60, vi out7_61], Cl p13 [vi 0, .slice none 0 0, .slice none 0 0, vi 0, vi 0, .slice none 0 0, .slice none 0 0, vi 0], pv p11 [vi s.Width, vl sa1 sk1 s.Deps, vl sa2 sk2 s.Transfers, vl sa3 sk3 s.Boundary], S sa1 sk1 s.Deps, S sa2 sk2 s.Transfers, S sa3 sk3 s.Boundary, S ka0 kk0 k], solver_Run_L0 s k r53 out0_54 out1_55 out2_56 out3_57 out4_58 out5_59 out6_60 out7_61 cost_62 v26_63 = solver_Run_L0 s k (((steps : Int) - 0).toNat) rv31.Phase rv31.Cone rv31.Leaf rv31.At rv31.Edge rv31.Values rv31.Queue rv31.Steps 0 0 ∧ r53 = ((steps : Int) - v26_63).toNat ∧ (0 : Int) ≤ v26_63 ∧ (v26_63 ≤ steps ∨ v26_63 = 0) ∧ (-9223372036854775808 ≤ out0_54 ∧ out0_54 ≤ 9223372036854775807) ∧ (-9223372036854775808 ≤ out3_57 ∧ out3_57 ≤ 9223372036854775807) ∧ (-9223372036854775808 ≤ out4_58 ∧ out4_58 ≤ 9223372036854775807) ∧ (-9223372036854775808 ≤ out7_61 ∧ out7_61 ≤ 9223372036854775807) ∧ (-9223372036854775808 ≤ cost_62 ∧ cost_62 ≤ 9223372036854775807) ∧ (-9223372036854775808 ≤ v26_63 ∧ v26_63 ≤ 9223372036854775807) ∧ solver_Valid s k (GState.mk out0_54 out1_55 out2_56 out3_57 out4_58 out5_59 out6_60 out7_61) = true ∧ 0 ≤ cost_62 ∧ cost_62 ≤ 8 * v26_63, r53⟩) (((steps : Int) - 0).toNat, rv31.Phase, rv31.Cone, rv31.Leaf, rv31.At, rv31.Edge, rv31.Values, rv31.Queue, rv31.Steps, 0, 0, a38, k39, a42, k43, a45, k46, a48, k49) [4, 3, 2, 1, 0, 0, 1, 2, 3, 4, 5] ⟨rfl, rfl, (by omega), (.inr rfl), (by omega), (by omega), (by omega), (by omega), (by omega), (by omega), hvi, iv0⟩ ?_
 rintro ⟨r53, out0_54, out1_55, out2_56, out3_57, out4_58, out5_59, out6_60, out7_61, cost_62, v26_63, a64, k65, a66, k67, a68, k69, a70, k71⟩ ⟨hM72, hr73, hi74, hi75, hk76, hk77, hk78, hk79, hk80, hk81, hv82, hv83⟩
 refine JJ_nx fun _ _ hL hA => ?_; dsimp only at hL hA; subst hL hA
 refine Fb 8 0 fun hl84 => ?_
 refine Fo 0 fun ho85 => ?_
 refine Fb 32 1 fun hl86 => ?_
 refine Fb 1 2 fun hl87 => ?_
 refine Fb 8 3 fun hl88 => ?_
 refine Fo 3 fun ho89 => ?_
 refine Fb 24 7 fun hl90 => ?_
 refine Fb 88 8 fun hl91 => ?_
 refine Fb 32 9 fun hl92 => ?_
 refine Fb 40 10 fun hl93 => ?_
 refine KS ?_
 refine Oq Vlss (KS ?_)
 refine Kc ?_ ?_
 · intro h94
   have g95 := of_decide_eq_true h94
   obtain ⟨r96, rfl⟩ := scc (n := r53) (by omega)
   refine KS ?_
   refine Oq (Vfa fo59_0 4) (Oq (VldF sh3 4) (KS ?_))
   refine Oq Veql (Oq Va (KS ?_))
   refine Kc ?_ ?_
   · intro h97
     have g98 := eq_of_beq h97
     refine KS ?_
     refine Oq (VldA sh27 6) (Oq Vm ?_)
     refine letv (solver_expand s k (GState.mk out0_54 out1_55 out2_56 out3_57 out4_58 out5_59 out6_60 out7_61)) fun rv103 hg104 => ?_
     have hc105 := fn94 s sa1 sk1 sa2 sk2 sa3 sk3 k ka0 kk0 p52 (GState.mk out0_54 out1_55 out2_56 out3_57 out4_58 out5_59 out6_60 out7_61) a64 k65 a66 k67 a68 k69 a70 k71 pre pre pre pre pre (PV_facts (by assumption)).1 ((PV_facts (by assumption)).2.1 (by show _ = _; omega)) rv103 hg104
     refine Oc [7, 8, 9, 10, 4, 3, 2, 1, 0] ca94 hc105 ?_
     rintro ⟨c99, c100, c101, c102⟩ ⟨he106, he107, he108, he109⟩
     unfold i64ok at he106 he107 he108 he109
     refine Jo 1 ?_; rintro a110 k111 rfl
     refine Fb 8 1 fun hl112 => ?_
     refine Fo 1 fun ho113 => ?_
     refine Jo 2 ?_; rintro a114 k115 rfl
     refine Fb 1 2 fun hl116 => ?_
     refine Jo 3 ?_; rintro a117 k118 rfl
     refine Fb 32 3 fun hl119 => ?_
     refine Jo 4 ?_; rintro a120 k121 rfl
     refine Fb 8 4 fun hl122 => ?_
     refine Fo 4 fun ho123 => ?_
     have hst := expand_steps (by assumption : solver_expand s k (GState.mk out0_54 out1_55 out2_56 out3_57 out4_58 out5_59 out6_60 out7_61) = rv103)
     have hsb := PV_steps (s := s) (k := k) (st := (GState.mk out0_54 out1_55 out2_56 out3_57 out4_58 out5_59 out6_60 out7_61)) (by assumption)
     dsimp only at hst hsb
     refine KS ?_
     refine Oq Vm (Oq Vadd (Oq Va (KS ?_)))
     refine Oq (Vfa fo59_7 0) (Oq (VldF sh3 0) (Oq Vadd (Oq Vmin (Oq (Vfa fo59_7 0) (Ost (SclF [0] sh3 [vi rv103.Phase, vl a110 k111 rv103.Cone, vl a114 k115 rv103.Leaf, vi rv103.At, vi rv103.Edge, vl a117 k118 rv103.Values, vl a120 k121 rv103.Queue, vi (min (rv103.Steps + 1) 1073741824)]) (KS ?_))))))
     refine Oq Vadd (Oq Vm (KS ?_))
     exact Kg (r96, rv103.Phase, rv103.Cone, rv103.Leaf, rv103.At, rv103.Edge, rv103.Values, rv103.Queue, (min (rv103.Steps + 1) 1073741824), (cost_62 + 1), (v26_63 + 1), a110, k111, a114, k115, a117, k118, a120, k121) [4, 3, 2, 1, 0, 0, 0, 1, 2, 3, 4] ⟨(q3 hM72 (by simp only [solver_Run_L0, h17, h22, h24, h94, h97, hg15, hg32, hg104, cs4])), (by omega), (by omega), (by omega), (by omega), (by omega), (by omega), (by omega), (by omega), (by omega), (by first | exact expand_V (by assumption) (by show _ = _; omega) _ (by assumption) | exact push_V (by assumption) (by show _ = _; omega) _ (by assumption)), iv1⟩
   intro h97
   have g124 := ne_of_beq_false h97
   refine KS ?_
   refine Oq Veql (Oq Va (KS ?_))
   refine Kc ?_ ?_
   · intro h125
     have g126 := eq_of_beq h125
     refine KS ?_
     refine Oq Vm (Oq (VldA sh27 6) ?_)
     refine letv (solver_push s (GState.mk out0_54 out1_55 out2_56 out3_57 out4_58 out5_59 out6_60 out7_61)) fun rv131 hg132 => ?_
     have hc133 := fn95 s sa1 sk1 sa2 sk2 sa3 sk3 p52 (GState.mk out0_54 out1_55 out2_56 out3_57 out4_58 out5_59 out6_60 out7_61) a64 k65 a66 k67 a68 k69 a70 k71 pre pre pre pre pre (PV_facts (by assumption)).1 ((PV_facts (by assumption)).2.2.1 (by show _ = _; omega)) rv131 hg132
     refine Oc [7, 8, 9, 4, 3, 2, 1, 0] ca95 hc133 ?_
     rintro ⟨c127, c128, c129, c130⟩ ⟨he134, he135, he136, he137, he138, he139⟩
     unfold i64ok at he134 he135 he136 he137 he138
     refine Jo 1 ?_; rintro a140 k141 rfl
     refine Fb 8 1 fun hl142 => ?_
     refine Fo 1 fun ho143 => ?_
     refine Jo 2 ?_; rintro a144 k145 rfl
     refine Fb 1 2 fun hl146 => ?_
     refine Jo 3 ?_; rintro a147 k148 rfl
     refine Fb 32 3 fun hl149 => ?_
     refine Jo 4 ?_; rintro a150 k151 rfl
     refine Fb 8 4 fun hl152 => ?_
     refine Fo 4 fun ho153 => ?_
     have hst := push_steps (by assumption : solver_push s (GState.mk out0_54 out1_55 out2_56 out3_57 out4_58 out5_59 out6_60 out7_61) = rv131)
     have hsb := PV_steps (s := s) (k := k) (st := (GState.mk out0_54 out1_55 out2_56 out3_57 out4_58 out5_59 out6_60 out7_61)) (by assumption)
     dsimp only at hst hsb
     refine Oq Vadd (Oq Va (KS ?_))
     refine Oq (Vfa fo59_7 0) (Oq (VldF sh3 0) (Oq Vadd (Oq Vmin (Oq (Vfa fo59_7 0) (Ost (SclF [0] sh3 [vi rv131.2.Phase, vl a140 k141 rv131.2.Cone, vl a144 k145 rv131.2.Leaf, vi rv131.2.At, vi rv131.2.Edge, vl a147 k148 rv131.2.Values, vl a150 k151 rv131.2.Queue, vi (min (rv131.2.Steps + 1) 1073741824)]) (KS ?_))))))
     refine Oq Vadd (Oq Vm (KS ?_))
     exact Kg (r96, rv131.2.Phase, rv131.2.Cone, rv131.2.Leaf, rv131.2.At, rv131.2.Edge, rv131.2.Values, rv131.2.Queue, (min (rv131.2.Steps + 1) 1073741824), (cost_62 + rv131.1), (v26_63 + 1), a140, k141, a144, k145, a147, k148, a150, k151) [4, 3, 2, 1, 0, 0, 0, 1, 2, 3, 4] ⟨(q3 hM72 (by simp only [solver_Run_L0, h17, h22, h24, h94, h97, h125, hg15, hg32, hg132, cs4])), (by omega), (by omega), (by omega), (by omega), (by omega), (by omega), (by omega), (by omega), (by omega), (by first | exact expand_V (by assumption) (by show _ = _; omega) _ (by assumption) | exact push_V (by assumption) (by show _ = _; omega) _ (by assumption)), iv1⟩
   intro h125
   have g154 := ne_of_beq_false h125
   refine Ke ?_
   have hR155 := q2 hM72 (out0_54, out1_55, out2_56, out3_57, out4_58, out5_59, out6_60, out7_61, cost_62) (by simp only [solver_Run_L0, h17, h22, h24, h94, h97, h125, hg15, hg32, cs4])
   refine KS ?_
   refine Oq (VldA sh59 4) (Oq Vm (Ost (Scl [5] sh59 [vi out0_54, vl a64 k65 out1_55, vl a66 k67 out2_56, vi out3_57, vi out4_58, vl a68 k69 out5_59, vl a70 k71 out6_60, vi out7_61]) (Oq Va (Oq Va (KS ?_)))))
   refine Jl [4] (Ent.freeze _ _) ?_
   refine Jl [4] (Ent.freeze _ _) ?_
   refine Jl [4] (Ent.freeze _ _) ?_
   refine Jl [4] (Ent.freeze _ _) ?_
   have hq := q4 hrr ((GState.mk out0_54 out1_55 out2_56 out3_57 out4_58 out5_59 out6_60 out7_61), cost_62, 0) (by simp only [solver_Run, h17, h22, h24, h94, h97, h125, hg15, hg32, hR155, cs4]); subst hq
   exact Kr (vl a64 k65 out1_55, vl a66 k67 out2_56, vl a68 k69 out5_59, vl a70 k71 out6_60) rfl (.cellN 4 rfl sh59 rfl (reads_Cl _ _) rfl (.tmp rfl (.tmp rfl .nil))) [3, 2, 1, 0] ⟨en, en, en, en, en, en, en, (by first | exact Nat.zero_le _ | exact PV_cone (by assumption))⟩
 intro h94
 have g156 := of_decide_eq_false h94
 obtain rfl : r53 = 0 := by omega
 refine Ke ?_
 have hR157 := q2 hM72 (out0_54, out1_55, out2_56, out3_57, out4_58, out5_59, out6_60, out7_61, cost_62) (by simp only [solver_Run_L0, h17, h22, h24, h94, hg15, hg32, cs4])
 refine KS ?_
 refine Oq (VldA sh59 4) (Oq Vm (Ost (Scl [5] sh59 [vi out0_54, vl a64 k65 out1_55, vl a66 k67 out2_56, vi out3_57, vi out4_58, vl a68 k69 out5_59, vl a70 k71 out6_60, vi out7_61]) (Oq Va (Oq Va (KS ?_)))))
 refine Jl [4] (Ent.freeze _ _) ?_
 refine Jl [4] (Ent.freeze _ _) ?_
 refine Jl [4] (Ent.freeze _ _) ?_
 refine Jl [4] (Ent.freeze _ _) ?_
 have hq := q4 hrr ((GState.mk out0_54 out1_55 out2_56 out3_57 out4_58 out5_59 out6_60 out7_61), cost_62, 0) (by simp only [solver_Run, h17, h22, h24, h94, hg15, hg32, hR157, cs4]); subst hq
 exact Kr (vl a64 k65 out1_55, vl a66 k67 out2_56, vl a68 k69 out5_59, vl a70 k71 out6_60) rfl (.cellN 4 rfl sh59 rfl (reads_Cl _ _) rfl (.tmp rfl (.tmp rfl .nil))) [3, 2, 1, 0] ⟨en, en, en, en, en, en, en, (by first | exact Nat.zero_le _ | exact PV_cone (by assumption))⟩
theorem fn38 (root : Int) (hroot_0 : i64ok root) (rr : GState) (hrr : solver_Start root = rr) : FT Tryz.prog 38 #[vi root] [] (fun g : Value × Value × Value × Value => i64ok rr.Phase ∧ i64ok rr.At ∧ i64ok rr.Edge ∧ i64ok rr.Steps) (fun g => .agg #[vi rr.Phase, g.1, g.2.1, vi rr.At, vi rr.Edge, g.2.2.1, g.2.2.2, vi rr.Steps]) (fun g => [sl g.1 rr.Cone, sl g.2.1 rr.Leaf, sl g.2.2.1 rr.Values, sl g.2.2.2 rr.Queue]) := by
 refine FTi Tryz.func38 fun w0 M0 F0 => ?_
 unfold i64ok at hroot_0
 refine KS ?_
 refine Oa (Al ze59 [vi 0, .slice none 0 0, .slice none 0 0, vi 0, vi 0, .slice none 0 0, .slice none 0 0, vi 0]) fun p1 => KS ?_
 refine Oq Vm (Oa (AsV sl22 sz22 [vi root] [vi root]) fun c2 => ?_)
 refine Jo 0 ?_; rintro a3 k4 rfl
 refine Oa (AsV sl57 sz57 [vb false] [vb false]) fun c5 => ?_
 refine Jo 0 ?_; rintro a6 k7 rfl
 refine Oq (Vbd st59 [vi 1, .slice a3 1 k4, .slice a6 1 k7, vi 0, vi 0, .slice none 0 0, .slice none 0 0, vi 0]) (Ost (Scl [2] sh59 [vi 1, .slice a3 1 k4, .slice a6 1 k7, vi 0, vi 0, .slice none 0 0, .slice none 0 0, vi 0]) (KS ?_))
 refine Jl [2] (Ent.crInt _ [root] _ _ rfl rfl (by intro x hx; rw [List.mem_singleton] at hx; subst hx; unfold i64ok; omega) (Nat.le_of_ble_eq_true rfl)) ?_
 refine Jl [0] (Ent.freeze _ _) ?_
 refine Jl [2] (Ent.cr1 (α := Bool) (A := []) _ false _ (Nat.le_of_ble_eq_true rfl) (fun _ => rfl)) ?_
 refine Jl [0] (Ent.freeze _ _) ?_
 refine Jl [] (Ent.slNil (α := GSet)) ?_
 refine Jl [] (Ent.slNil (α := Int)) ?_
 have hq := q4 hrr (GState.mk 1 [root] [false] 0 0 [] [] 0) (by simp only [solver_Start, cs4]); subst hq
 exact Kr (.slice a3 1 k4, .slice a6 1 k7, .slice none 0 0, .slice none 0 0) rfl (.cellN 4 rfl sh59 rfl (reads_Cl _ _) rfl .nil) [3, 2, 1, 0] en
theorem fn41 (s : GSystem) (sa1 : Option Addr) (sk1 : Nat) (sa2 : Option Addr) (sk2 : Nat) (sa3 : Option Addr) (sk3 : Nat) (k : List GKnown) (ka0 : Option Addr) (kk0 : Nat) (st : GState) (sta1 : Option Addr) (stk1 : Nat) (sta2 : Option Addr) (stk2 : Nat) (sta5 : Option Addr) (stk5 : Nat) (sta6 : Option Addr) (stk6 : Nat) (hs_0 : i64ok s.Width) (hst_0 : i64ok st.Phase) (hst_3 : i64ok st.At) (hst_4 : i64ok st.Edge) (hst_7 : i64ok st.Steps) (rr : GState × Int × Int) (hrr : solver_Step s k st = rr) : FT Tryz.prog 41 #[.agg #[vi s.Width, vl sa1 sk1 s.Deps, vl sa2 sk2 s.Transfers, vl sa3 sk3 s.Boundary], vl ka0 kk0 k, .agg #[vi st.Phase, vl sta1 stk1 st.Cone, vl sta2 stk2 st.Leaf, vi st.At, vi st.Edge, vl sta5 stk5 st.Values, vl sta6 stk6 st.Queue, vi st.Steps]] [S sa1 sk1 s.Deps, S sa2 sk2 s.Transfers, S sa3 sk3 s.Boundary, S ka0 kk0 k, S sta1 stk1 st.Cone, S sta2 stk2 st.Leaf, S sta5 stk5 st.Values, S sta6 stk6 st.Queue] (fun g : Value × Value × Value × Value => i64ok rr.1.Phase ∧ i64ok rr.1.At ∧ i64ok rr.1.Edge ∧ i64ok rr.1.Steps ∧ i64ok rr.2.1 ∧ i64ok rr.2.2) (fun g => .tuple #[.agg #[vi rr.1.Phase, g.1, g.2.1, vi rr.1.At, vi rr.1.Edge, g.2.2.1, g.2.2.2, vi rr.1.Steps], vi rr.2.1, vi rr.2.2]) (fun g => [sl g.1 rr.1.Cone, sl g.2.1 rr.1.Leaf, sl g.2.2.1 rr.1.Values, sl g.2.2.2 rr.1.Queue]) := by
 refine FTi Tryz.func41 fun w0 M0 F0 => ?_
 unfold i64ok at hs_0 hst_0 hst_3 hst_4 hst_7
 refine Fb 24 0 fun hl1 => ?_
 refine Fb 88 1 fun hl2 => ?_
 refine Fb 32 2 fun hl3 => ?_
 refine Fb 40 3 fun hl4 => ?_
 refine Fb 8 4 fun hl5 => ?_
 refine Fo 4 fun ho6 => ?_
 refine Fb 1 5 fun hl7 => ?_
 refine Fb 32 6 fun hl8 => ?_
 refine Fb 8 7 fun hl9 => ?_
 refine Fo 7 fun ho10 => ?_
 refine KS ?_
 refine Oa (Ab [vi s.Width, vl sa1 sk1 s.Deps, vl sa2 sk2 s.Transfers, vl sa3 sk3 s.Boundary]) fun p11 => Oa (Ab [vi st.Phase, vl sta1 stk1 st.Cone, vl sta2 stk2 st.Leaf, vi st.At, vi st.Edge, vl sta5 stk5 st.Values, vl sta6 stk6 st.Queue, vi st.Steps]) fun p12 => Oa (Al ze59 [vi 0, .slice none 0 0, .slice none 0 0, vi 0, vi 0, .slice none 0 0, .slice none 0 0, vi 0]) fun p13 => Oq Va (Oq Va (KS ?_))
 refine Oq (VldA sh27 2) (Oq Vm (Oq (VldA sh59 1) ?_))
 refine letv (solver_Valid s k st) fun rv14 hg15 => ?_
 have hc16 := fn42 s sa1 sk1 sa2 sk2 sa3 sk3 k ka0 kk0 st sta1 stk1 sta2 stk2 sta5 stk5 sta6 stk6 pre pre pre pre pre rv14 hg15
 refine Oc [3, 4, 5, 6, 7, 8, 9, 10] ca42 hc16 ?_
 rintro - -
 refine Oq Vnot (Oq Va (KS ?_))
 refine Kc ?_ ?_
 · intro h17
   have h19 := not_true h17
   refine KS ?_
   refine Oq (Vbd st59 [vi 0, .slice none 0 0, .slice none 0 0, vi 0, vi 0, .slice none 0 0, .slice none 0 0, vi 0]) (Ost (Scl [0] sh59 [vi 0, .slice none 0 0, .slice none 0 0, vi 0, vi 0, .slice none 0 0, .slice none 0 0, vi 0]) (Oq Va (Oq Va (KS ?_))))
   refine Jl [] (Ent.slNil (α := Int)) ?_
   refine Jl [] (Ent.slNil (α := Bool)) ?_
   refine Jl [] (Ent.slNil (α := GSet)) ?_
   have hq := q4 hrr ((GState.mk 0 [] [] 0 0 [] [] 0), 0, 1) (by simp only [solver_Step, h17, h19, hg15, cs4]); subst hq
   exact Kr (.slice none 0 0, .slice none 0 0, .slice none 0 0, .slice none 0 0) rfl (.cellN 3 rfl sh59 rfl (reads_Cl _ _) rfl (.tmp rfl (.tmp rfl .nil))) [2, 1, 0, 2] en
 intro h17
 have h22 := not_false h17
 refine KS ?_
 refine Oq (Vfa fo59_0 1) (Oq (VldF sh3 1) (Oq Veql (Oq Va (KS ?_))))
 refine Kc ?_ ?_
 · intro h24
   have g25 := eq_of_beq h24
   refine KS ?_
   refine Oq (Vbd st59 [vi 0, .slice none 0 0, .slice none 0 0, vi 0, vi 0, .slice none 0 0, .slice none 0 0, vi 0]) (Ost (Scl [0] sh59 [vi 0, .slice none 0 0, .slice none 0 0, vi 0, vi 0, .slice none 0 0, .slice none 0 0, vi 0]) (Oq Va (Oq Va (KS ?_))))
   refine Jl [] (Ent.slNil (α := Int)) ?_
   refine Jl [] (Ent.slNil (α := Bool)) ?_
   refine Jl [] (Ent.slNil (α := GSet)) ?_
   have hq := q4 hrr ((GState.mk 0 [] [] 0 0 [] [] 0), 0, 10) (by simp only [solver_Step, h17, h22, h24, hg15, cs4]); subst hq
   exact Kr (.slice none 0 0, .slice none 0 0, .slice none 0 0, .slice none 0 0) rfl (.cellN 3 rfl sh59 rfl (reads_Cl _ _) rfl (.tmp rfl (.tmp rfl .nil))) [2, 1, 0, 2] en
 intro h24
 have g26 := ne_of_beq_false h24
 refine KS ?_
 refine Oq (VldA sh27 2) (Oq Vm (Oq (VldA sh59 1) ?_))
 refine letv (solver_Run s k st 1) fun rv31 hg32 => ?_
 have hc33 := fn35 s sa1 sk1 sa2 sk2 sa3 sk3 k ka0 kk0 st sta1 stk1 sta2 stk2 sta5 stk5 sta6 stk6 1 pre pre pre pre pre pre pre rv31 hg32
 refine Oc [3, 4, 5, 6, 7, 8, 9, 10] ca35 hc33 ?_
 rintro ⟨c27, c28, c29, c30⟩ ⟨he34, he35, he36, he37, he38, he39, he40, he41⟩
 unfold i64ok at he34 he35 he36 he37 he38 he39
 refine Jo 0 ?_; rintro a42 k43 rfl
 refine Fb 8 0 fun hl44 => ?_
 refine Fo 0 fun ho45 => ?_
 refine Jo 1 ?_; rintro a46 k47 rfl
 refine Fb 1 1 fun hl48 => ?_
 refine Jo 2 ?_; rintro a49 k50 rfl
 refine Fb 32 2 fun hl51 => ?_
 refine Jo 3 ?_; rintro a52 k53 rfl
 refine Fb 8 3 fun hl54 => ?_
 refine Fo 3 fun ho55 => ?_
 refine Oq Vm (Oq Vx (Oq Vx (Oq Vx (Oa (Al ze59 [vi 0, .slice none 0 0, .slice none 0 0, vi 0, vi 0, .slice none 0 0, .slice none 0 0, vi 0]) fun p56 => Ost (Scl [0] sh59 [vi rv31.1.Phase, vl a42 k43 rv31.1.Cone, vl a46 k47 rv31.1.Leaf, vi rv31.1.At, vi rv31.1.Edge, vl a49 k50 rv31.1.Values, vl a52 k53 rv31.1.Queue, vi rv31.1.Steps]) (Oq Va (Oq Va (KS ?_)))))))
 refine Oq (VldA sh59 0) (Oq Vm (Ost (Scl [5] sh59 [vi rv31.1.Phase, vl a42 k43 rv31.1.Cone, vl a46 k47 rv31.1.Leaf, vi rv31.1.At, vi rv31.1.Edge, vl a49 k50 rv31.1.Values, vl a52 k53 rv31.1.Queue, vi rv31.1.Steps]) (Oq Va (Oq Va (KS ?_)))))
 have hq := q4 hrr (rv31.1, rv31.2.1, 0) (by simp only [solver_Step, h17, h22, h24, hg15, hg32, cs4]); subst hq
 exact Kr (vl a42 k43 rv31.1.Cone, vl a46 k47 rv31.1.Leaf, vl a49 k50 rv31.1.Values, vl a52 k53 rv31.1.Queue) rfl (.cellN 0 rfl sh59 rfl (reads_Cl _ _) rfl (.tmp rfl (.tmp rfl .nil))) [2, 3, 4, 5] en
theorem fn44 (st : GState) (sta1 : Option Addr) (stk1 : Nat) (sta2 : Option Addr) (stk2 : Nat) (sta5 : Option Addr) (stk5 : Nat) (sta6 : Option Addr) (stk6 : Nat) (hst_0 : i64ok st.Phase) (hst_3 : i64ok st.At) (hst_4 : i64ok st.Edge) (hst_7 : i64ok st.Steps) (rr : GSet × Bool) (hrr : solver_Answer st = rr) : FT Tryz.prog 44 #[.agg #[vi st.Phase, vl sta1 stk1 st.Cone, vl sta2 stk2 st.Leaf, vi st.At, vi st.Edge, vl sta5 stk5 st.Values, vl sta6 stk6 st.Queue, vi st.Steps]] [S sta1 stk1 st.Cone, S sta2 stk2 st.Leaf, S sta5 stk5 st.Values, S sta6 stk6 st.Queue] (fun g : Value => i64ok rr.1.Width) (fun g => .tuple #[.agg #[vi rr.1.Width, g], vb rr.2]) (fun g => [sl g rr.1.Words]) := by
 refine FTi Tryz.func44 fun w0 M0 F0 => ?_
 unfold i64ok at hst_0 hst_3 hst_4 hst_7
 refine Fb 8 0 fun hl1 => ?_
 refine Fo 0 fun ho2 => ?_
 refine Fb 1 1 fun hl3 => ?_
 refine Fb 32 2 fun hl4 => ?_
 refine Fb 8 3 fun hl5 => ?_
 refine Fo 3 fun ho6 => ?_
 refine KS ?_
 refine Oa (Ab [vi st.Phase, vl sta1 stk1 st.Cone, vl sta2 stk2 st.Leaf, vi st.At, vi st.Edge, vl sta5 stk5 st.Values, vl sta6 stk6 st.Queue, vi st.Steps]) fun p7 => Oa (Al ze42 [vi 0, .slice none 0 0]) fun p8 => Oq Va (KS ?_)
 refine Oq (Vfa fo59_0 1) (Oq (VldF sh3 1) (Oq Vneq (Oq Vm ?_)))
 refine Js 7 ?_ ?_
 · intro h9
   have g10 := ne_of_bne h9
   refine Osk (Osk (Osk (Osk (Oq Vpt (KS ?_)))))
   refine Kt ?_
   refine KS ?_
   refine Oq (Vbd st42 [vi 0, .slice none 0 0]) (Ost (Scl [0] sh42 [vi 0, .slice none 0 0]) (Oq Va (KS ?_)))
   refine Jl [] (Ent.slNil (α := BitVec 64)) ?_
   have hq := q4 hrr ((GSet.mk 0 []), false) (by simp only [solver_Answer, h9, cs4]); subst hq
   exact Kr (.slice none 0 0) rfl (.cellN 1 rfl sh42 rfl (reads_Cl _ _) rfl (.tmp rfl .nil)) [0] en
 intro h9
 have g11 := eq_of_bne_false h9
 refine Oq (Vfa fo59_5 1) (Oq (VldF sh25 1) (Oq (Vlen sl25) (Oq Veql (Oq Vpf (KS ?_)))))
 refine Kc ?_ ?_
 · intro h12
   have g13 := eq_of_beq h12
   refine KS ?_
   refine Oq (Vbd st42 [vi 0, .slice none 0 0]) (Ost (Scl [0] sh42 [vi 0, .slice none 0 0]) (Oq Va (KS ?_)))
   refine Jl [] (Ent.slNil (α := BitVec 64)) ?_
   have hq := q4 hrr ((GSet.mk 0 []), false) (by simp only [solver_Answer, h9, h12, cs4]); subst hq
   exact Kr (.slice none 0 0) rfl (.cellN 1 rfl sh42 rfl (reads_Cl _ _) rfl (.tmp rfl .nil)) [0] en
 intro h12
 have g14 := ne_of_beq_false h12
 refine KS ?_
 refine Oq (Vfa fo59_5 1) (Oq (VldF sh25 1) (Oq (Vi sl25 4) ?_))
 refine JJ_peek_GSet (0 : Int).toNat 4 rfl rng fun a15 k16 hb17 => ?_
 unfold i64ok at hb17
 refine Fb 8 1 fun hl18 => ?_
 refine Oq (VldA sh42 0) ?_
 refine letv (solver_clone (st.Values.getD (0 : Int).toNat default)) fun rv20 hg21 => ?_
 have hc22 := fn106 ((st.Values.getD (0 : Int).toNat default)) a15 k16 pre rv20 hg21
 refine Oc [1] ca106 hc22 ?_
 rintro c19 he23
 unfold i64ok at he23
 refine Jo 0 ?_; rintro a24 k25 rfl
 refine Fb 8 0 fun hl26 => ?_
 refine Ost (Scl [3] sh42 [vi rv20.Width, vl a24 k25 rv20.Words]) (Oq Va (KS ?_))
 refine Jl [1] (Ent.freeze _ _) ?_
 have hq := q4 hrr (rv20, true) (by simp only [solver_Answer, h9, h12, hg21, cs4]); subst hq
 exact Kr (vl a24 k25 rv20.Words) rfl (.cellN 1 rfl sh42 rfl (reads_Cl _ _) rfl (.tmp rfl .nil)) [0] en
theorem fn45 (a : GSet) (aa1 : Option Addr) (ak1 : Nat) (b : GSet) (ba1 : Option Addr) (bk1 : Nat) (ha_0 : i64ok a.Width) (hb_0 : i64ok b.Width) (rr : Bool) (hrr : flqref1_Same a b = rr) : FT Tryz.prog 45 #[.agg #[vi a.Width, vl aa1 ak1 a.Words], .agg #[vi b.Width, vl ba1 bk1 b.Words]] [S aa1 ak1 a.Words, S ba1 bk1 b.Words] (fun g : Unit => True) (fun g => vb rr) (fun g => []) := by
 refine FTi Tryz.func45 fun w0 M0 F0 => ?_
 unfold i64ok at ha_0 hb_0
 refine Fb 8 0 fun hl1 => ?_
 refine Fb 8 1 fun hl2 => ?_
 refine KS ?_
 refine Oa (Ab [vi a.Width, vl aa1 ak1 a.Words]) fun p3 => Oa (Ab [vi b.Width, vl ba1 bk1 b.Words]) fun p4 => Oq Va (KS ?_)
 refine Oq (Vfa fo42_0 1) (Oq (VldF sh3 1) (Oq (Vfa fo42_0 0) (Oq (VldF sh3 0) (Oq Vneq (Oq Vm ?_)))))
 refine Js 11 ?_ ?_
 · intro h5
   have g6 := ne_of_bne h5
   refine Osk (Osk (Osk (Osk (Osk (Osk (Osk (Oq Vpt (KS ?_))))))))
   refine Kt ?_
   refine KS ?_
   refine Oq Va (KS ?_)
   have hq := q4 hrr false (by simp only [flqref1_Same, h5, cs4]); subst hq
   exact Kr () rfl (.tmp rfl .nil) [] trivial
 intro h5
 have g7 := eq_of_bne_false h5
 refine Oq (Vfa fo42_1 1) (Oq (VldF sh40 1) (Oq (Vlen sl40) (Oq (Vfa fo42_1 0) (Oq (VldF sh40 0) (Oq (Vlen sl40) (Oq Vneq (Oq Vpf (KS ?_))))))))
 refine Kc ?_ ?_
 · intro h8
   have g9 := ne_of_bne h8
   refine KS ?_
   refine Oq Va (KS ?_)
   have hq := q4 hrr false (by simp only [flqref1_Same, h5, h8, cs4]); subst hq
   exact Kr () rfl (.tmp rfl .nil) [] trivial
 intro h8
 have g10 := eq_of_bne_false h8
 refine KS ?_
 refine Oq Va (KS ?_)
 refine Kl (γ := Nat × Int) (fun (r11, i_12) => ⟨[(2, p3), (3, p4), (5, vi i_12)], [pv p4 [vi b.Width, vl ba1 bk1 b.Words], pv p3 [vi a.Width, vl aa1 ak1 a.Words], S aa1 ak1 a.Words, S ba1 bk1 b.Words], flqref1_Same_L0 a b r11 i_12 = flqref1_Same_L0 a b (((a.Words.length : Int) - 0).toNat) 0 ∧ r11 = ((a.Words.length : Int) - i_12).toNat ∧ (0 : Int) ≤ i_12 ∧ i_12 ≤ (a.Words.length : Int) ∧ (-9223372036854775808 ≤ i_12 ∧ i_12 ≤ 9223372036854775807), r11⟩) (((a.Words.length : Int) - 0).toNat, 0) [0, 1, 2, 3] ⟨rfl, rfl, (by omega), (by omega), (by omega)⟩ ?_
 rintro ⟨r11, i_12⟩ ⟨hM13, hr14, hi15, hi16, hk17⟩
 refine JJ_nx fun _ _ hL hA => ?_; dsimp only at hL hA; subst hL hA
 refine Fb 8 2 fun hl18 => ?_
 refine Fb 8 3 fun hl19 => ?_
 refine KS ?_
 refine Oq Vm (Oq (Vfa fo42_1 1) (Oq (VldF sh40 1) (Oq (Vlen sl40) (Oq Vlss (KS ?_)))))
 refine Kc ?_ ?_
 · intro h20
   have g21 := of_decide_eq_true h20
   obtain ⟨r22, rfl⟩ := scc (n := r11) (by omega)
   refine KS ?_
   refine Kq [0, 1, 0, 7, 15, 0, 32, 0, 224, 480, 1023] fmix ?_
   refine Qv [1] (Vfa fo42_1 0) (Qv [1] (VldF sh40 0) (Qv [] Vm (Qv [2] (Vi sl40 0) (Qv [2] (VldU sh122 0) (Qv [0] (Vfa fo42_1 0) (Qv [0] (VldF sh40 0) (Qv [] Vm (Qv [3] (Vi sl40 0) (Qv [3] (VldU sh122 0) ?_)))))))))
   refine Qv [] VneqU ?_
   refine Qn ⟨by kernel_rfl, ?_⟩
   refine Kc ?_ ?_
   · intro h23
     have g24 := ne_of_bne h23
     refine KS ?_
     refine Oq Va (KS ?_)
     have hR25 := q2 hM13 (.ret false) (by simp only [flqref1_Same_L0, h5, h8, h20, h23, cs4])
     have hq := q4 hrr false (by simp only [flqref1_Same, h5, h8, h20, h23, hR25, cs4]); subst hq
     exact Kr () rfl (.tmp rfl .nil) [] trivial
   intro h23
   have g26 := eq_of_bne_false h23
   refine KS ?_
   refine Oq Vm (Oq Vadd (Oq Va (KS ?_)))
   exact Kg (r22, (i_12 + 1)) [0, 1, 2, 3] ⟨(q3 hM13 (by simp only [flqref1_Same_L0, h5, h8, h20, h23, cs4])), (by omega), (by omega), (by omega), (by omega)⟩
 intro h20
 have g27 := of_decide_eq_false h20
 obtain rfl : r11 = 0 := by omega
 refine Ke ?_
 have hR28 := q2 hM13 (.brk ()) (by simp only [flqref1_Same_L0, h5, h8, h20, cs4])
 refine KS ?_
 refine Oq Va (KS ?_)
 have hq := q4 hrr true (by simp only [flqref1_Same, h5, h8, h20, hR28, cs4]); subst hq
 exact Kr () rfl (.tmp rfl .nil) [] trivial
theorem fn96 (width : Int) (hwidth_0 : i64ok width) (hw0 : 0 ≤ width ∧ width ≤ 1000000) (rr : GTransfer) (hrr : flqref1_Identity width = rr) : FT Tryz.prog 96 #[vi width] [] (fun g : Value × Value × Value => i64ok rr.Gen.Width ∧ i64ok rr.Kill.Width) (fun g => .agg #[vi rr.Gen.Width, g.1, vi rr.Kill.Width, g.2.1, g.2.2]) (fun g => [sl g.1 rr.Gen.Words, sl g.2.1 rr.Kill.Words, sl g.2.2 rr.Copies]) := by
 refine FTi Tryz.func96 fun w0 M0 F0 => ?_
 unfold i64ok at hwidth_0
 refine KS ?_
 refine Oa (Al ze98 [vi 0, .slice none 0 0, vi 0, .slice none 0 0, .slice none 0 0]) fun p1 => KS ?_
 refine Oq Vm ?_
 refine letv (flqref1_Empty width) fun rv3 hg4 => ?_
 have hc5 := fn67 width pre pre rv3 hg4
 refine Oc [] ca67 hc5 ?_
 rintro c2 ⟨he6, he7, he8⟩
 unfold i64ok at he6
 refine Jo 0 ?_; rintro a9 k10 rfl
 refine Fb 8 0 fun hl11 => ?_
 refine Oq Vm ?_
 have hc13 := fn67 width pre pre rv3 hg4
 refine Oc [] ca67 hc13 ?_
 rintro c12 ⟨he14, he15, he16⟩
 unfold i64ok at he14
 refine Jo 0 ?_; rintro a17 k18 rfl
 refine Oq (Vbd st98 [vi rv3.Width, vl a9 k10 rv3.Words, vi rv3.Width, vl a17 k18 rv3.Words, .slice none 0 0]) (Ost (Scl [2] sh98 [vi rv3.Width, vl a9 k10 rv3.Words, vi rv3.Width, vl a17 k18 rv3.Words, .slice none 0 0]) (KS ?_))
 refine Jl [2] (Ent.freeze _ _) ?_
 refine Jl [2] (Ent.freeze _ _) ?_
 refine Jl [] (Ent.slNil (α := GCopy)) ?_
 have hq := q4 hrr (GTransfer.mk rv3 rv3 []) (by simp only [flqref1_Identity, hg4, cs4]); subst hq
 exact Kr (vl a9 k10 rv3.Words, vl a17 k18 rv3.Words, .slice none 0 0) rfl (.cellN 3 rfl sh98 rfl (reads_Cl _ _) rfl .nil) [2, 1, 0] en
theorem fn97 (width : Int) (hwidth_0 : i64ok width) (hw0 : 0 ≤ width ∧ width ≤ 1000) (rr : GSet) (hrr : flqref1_Full width = rr) : FT Tryz.prog 97 #[vi width] [] (fun g : Value => i64ok rr.Width) (fun g => .agg #[vi rr.Width, g]) (fun g => [sl g rr.Words]) := by
 refine FTi Tryz.func97 fun w0 M0 F0 => ?_
 unfold i64ok at hwidth_0
 refine KS ?_
 refine Oa (Al ze42 [vi 0, .slice none 0 0]) fun p1 => KS ?_
 refine Oq Vm ?_
 refine letv (flqref1_Empty width) fun rv3 hg4 => ?_
 have hc5 := fn67 width pre pre rv3 hg4
 refine Oc [] ca67 hc5 ?_
 rintro c2 ⟨he6, he7, he8⟩
 unfold i64ok at he6
 refine Jo 0 ?_; rintro a9 k10 rfl
 refine Fb 8 0 fun hl11 => ?_
 refine Oa (Al ze42 [vi 0, .slice none 0 0]) fun p12 => Ost (Scl [0] sh42 [vi rv3.Width, vl a9 k10 rv3.Words]) (KS ?_)
 refine Oq Va (KS ?_)
 refine Kl (γ := Nat × Int × List (BitVec 64) × Int × Option Addr × Nat) (fun (r13, s0_14, s1_15, b_16, a17, k18) => ⟨[(0, vi width), (2, p1), (3, p12), (4, vi b_16)], [O a17 k18 s1_15, Cl p12 [vi s0_14, vl a17 k18 s1_15], Cl p1 [vi 0, .slice none 0 0]], flqref1_Full_L0 r13 s0_14 s1_15 b_16 = flqref1_Full_L0 (((width : Int) - 0).toNat) rv3.Width rv3.Words 0 ∧ r13 = ((width : Int) - b_16).toNat ∧ (0 : Int) ≤ b_16 ∧ (b_16 ≤ width ∨ b_16 = 0) ∧ (-9223372036854775808 ≤ s0_14 ∧ s0_14 ≤ 9223372036854775807) ∧ (-9223372036854775808 ≤ b_16 ∧ b_16 ≤ 9223372036854775807) ∧ s0_14 = width, r13⟩) (((width : Int) - 0).toNat, rv3.Width, rv3.Words, 0, a9, k10) [1, 0, 0] ⟨rfl, rfl, (by omega), (.inr rfl), (by omega), (by omega), iv0⟩ ?_
 rintro ⟨r13, s0_14, s1_15, b_16, a17, k18⟩ ⟨hM19, hr20, hi21, hi22, hk23, hk24, hv25⟩
 refine JJ_nx fun _ _ hL hA => ?_; dsimp only at hL hA; subst hL hA
 refine Fb 8 0 fun hl26 => ?_
 refine KS ?_
 refine Oq Vm (Oq Vm (Oq Vlss (KS ?_)))
 refine Kc ?_ ?_
 · intro h27
   have g28 := of_decide_eq_true h27
   obtain ⟨r29, rfl⟩ := scc (n := r13) (by omega)
   refine KS ?_
   refine Oq (VldA sh42 1) (Oq Vm ?_)
   refine letv (flqref1_Put (GSet.mk s0_14 s1_15) b_16) fun rv31 hg32 => ?_
   refine Oc [0] ca79 (FT_borrow (A := _) hlx (FT_ent (Ent.take (is := [0]) rfl) (fn79 ((GSet.mk s0_14 s1_15)) a17 k18 b_16 pre pre pre pre rv31 hg32))) ?_ (ht := rfl)
   rintro c30 ⟨he33, he34, he35⟩
   unfold i64ok at he33
   have he34 : (rv31.Width = s0_14) := he34
   have he35 : (rv31.Words.length = ((s0_14 + 63) / 64).toNat) := he35
   refine Jo 1 ?_; rintro a36 k37 rfl
   refine Fb 8 1 fun hl38 => ?_
   refine Ost (Scl [2] sh42 [vi rv31.Width, vl a36 k37 rv31.Words]) (KS ?_)
   refine Oq Vm (Oq Vadd (Oq Va (KS ?_)))
   exact Kg (r29, rv31.Width, rv31.Words, (b_16 + 1), a36, k37) [2, 0, 1] ⟨(q3 hM19 (by simp only [flqref1_Full_L0, h27, hg4, hg32, cs4])), (by omega), (by omega), (by omega), (by omega), (by omega), iv1⟩
 intro h27
 have g39 := of_decide_eq_false h27
 obtain rfl : r13 = 0 := by omega
 refine Ke ?_
 have hR40 := q2 hM19 (s0_14, s1_15) (by simp only [flqref1_Full_L0, h27, hg4, cs4])
 refine KS ?_
 refine Oq (VldA sh42 1) (Ost (Scl [2] sh42 [vi s0_14, vl a17 k18 s1_15]) (KS ?_))
 refine Jl [1] (Ent.freeze _ _) ?_
 have hq := q4 hrr (GSet.mk s0_14 s1_15) (by simp only [flqref1_Full, h27, hg4, hR40, cs4]); subst hq
 exact Kr (vl a17 k18 s1_15) rfl (.cellN 1 rfl sh42 rfl (reads_Cl _ _) rfl .nil) [0] en
theorem fn37  (rr : Bool) (hrr : flqlaw15_sane = rr) : FT Tryz.prog 37 #[] [] (fun g : Unit => True) (fun g => vb rr) (fun g => []) := by
 refine FTi Tryz.func37 fun w0 M0 F0 => ?_
 refine KS ?_
 refine Oq Va (KS ?_)
 refine Oa (AsV sl23 sz23 [.slice none 0 0] [.slice none 0 0]) fun c1 => ?_
 refine Jo 0 ?_; rintro a2 k3 rfl
 refine letv (flqref1_Identity 1) fun rv7 hg8 => ?_
 have hc9 := fn96 1 pre pre rv7 hg8
 refine Oc [] ca96 hc9 ?_
 rintro ⟨c4, c5, c6⟩ ⟨he10, he11⟩
 unfold i64ok at he10 he11
 refine Jo 0 ?_; rintro a12 k13 rfl
 refine Fb 8 0 fun hl14 => ?_
 refine Jo 1 ?_; rintro a15 k16 rfl
 refine Fb 8 1 fun hl17 => ?_
 refine Jo 2 ?_; rintro a18 k19 rfl
 refine Fb 16 2 fun hl20 => ?_
 refine Oa (AsV sl24 sz24 [.agg #[vi rv7.Gen.Width, vl a12 k13 rv7.Gen.Words, vi rv7.Kill.Width, vl a15 k16 rv7.Kill.Words, vl a18 k19 rv7.Copies]] [vi rv7.Gen.Width, vl a12 k13 rv7.Gen.Words, vi rv7.Kill.Width, vl a15 k16 rv7.Kill.Words, vl a18 k19 rv7.Copies]) fun c21 => ?_
 refine Jo 0 ?_; rintro a22 k23 rfl
 refine letv (flqref1_Full 1) fun rv25 hg26 => ?_
 have hc27 := fn97 1 pre pre rv25 hg26
 refine Oc [] ca97 hc27 ?_
 rintro c24 he28
 unfold i64ok at he28
 refine Jo 0 ?_; rintro a29 k30 rfl
 refine Fb 8 0 fun hl31 => ?_
 refine Oa (AsV sl25 sz25 [.agg #[vi rv25.Width, vl a29 k30 rv25.Words]] [vi rv25.Width, vl a29 k30 rv25.Words]) fun c32 => ?_
 refine Jo 0 ?_; rintro a33 k34 rfl
 refine Oq (Vbd st27 [vi 1, .slice a2 1 k3, .slice a22 1 k23, .slice a33 1 k34]) (Oa (Al ze27 [vi 0, .slice none 0 0, .slice none 0 0, .slice none 0 0]) fun p35 => Ost (Scl [0] sh27 [vi 1, .slice a2 1 k3, .slice a22 1 k23, .slice a33 1 k34]) (KS ?_))
 refine JK_drawK [0, 0, 3, 7, 15, 15, 15, 0, 159, 447, 1023] fmix ?_
 refine Dv [0] (VldA sh27 0) ?_
 refine letv (solver_Start 0) fun rv40 hg41 => ?_
 refine Dx [] [] [0, 1, 2, 3, 4] (fun G => .agg #[vi rv40.Phase, (G.g 1 0), (G.g 1 1), vi rv40.At, vi rv40.Edge, (G.g 1 2), (G.g 1 3), vi rv40.Steps]) [fun G => SP.fact (i64ok rv40.Phase ∧ i64ok rv40.At ∧ i64ok rv40.Edge ∧ i64ok rv40.Steps), fun G => sl (G.g 1 0) rv40.Cone, fun G => sl (G.g 1 1) rv40.Leaf, fun G => sl (G.g 1 2) rv40.Values, fun G => sl (G.g 1 3) rv40.Queue] (fun G => xC [] ca38 (fn38 0 pre rv40 hg41)) ?_
 refine letv (solver_Step (GSystem.mk 1 [([] : List Int)] [rv7] [rv25]) [] rv40) fun rv58 hg59 => ?_
 refine Dx [1, 2, 3, 4, 5, 6, 7, 8, 9, 10, 11, 12] [1, 3, 7] [7, 9, 10, 11, 17, 18, 19, 20, 21, 12, 8, 6, 5, 0, 1, 2, 3, 4] (fun G => .tuple #[.agg #[vi rv58.1.Phase, (G.g 2 0), (G.g 2 1), vi rv58.1.At, vi rv58.1.Edge, (G.g 2 2), (G.g 2 3), vi rv58.1.Steps], vi rv58.2.1, vi rv58.2.2]) [fun G => sl (.slice a2 1 k3) ([([] : List Int)] : List (List Int)), fun G => sl (.slice a22 1 k23) ([rv7] : List GTransfer), fun G => sl (.slice a33 1 k34) ([rv25] : List GSet), fun G => sl (.slice none 0 0) ([] : List GKnown), fun G => SP.fact (i64ok rv58.1.Phase ∧ i64ok rv58.1.At ∧ i64ok rv58.1.Edge ∧ i64ok rv58.1.Steps ∧ i64ok rv58.2.1 ∧ i64ok rv58.2.2), fun G => sl (G.g 2 0) rv58.1.Cone, fun G => sl (G.g 2 1) rv58.1.Leaf, fun G => sl (G.g 2 2) rv58.1.Values, fun G => sl (G.g 2 3) rv58.1.Queue] (fun G => by refine xf 7 rfl ?_; rintro ⟨he60, he61, he62, he63⟩; unfold i64ok at he60 he61 he62 he63; exact xp [6] rfl (Ent.cr1 (α := List Int) (A := []) _ [] _ (Nat.le_of_ble_eq_true rfl) (fun _ => ⟨_, rfl, slrd_nil⟩)) (xp [0] rfl (Ent.freeze _ _) (xp [3, 3, 4, 5] rfl (Ent.cr1 (α := GTransfer) (A := [S a12 k13 rv7.Gen.Words, S a15 k16 rv7.Kill.Words, S a18 k19 rv7.Copies]) _ rv7 _ (Nat.le_of_ble_eq_true rfl) (fun h => ⟨_, _, _, rfl, (by unfold i64ok; first | omega | (dsimp only; omega)), sepAll_get (i := 0) rfl h, (by unfold i64ok; first | omega | (dsimp only; omega)), sepAll_get (i := 1) rfl h, sepAll_get (i := 2) rfl h⟩)) (xp [0] rfl (Ent.freeze _ _) (xp [5, 5] rfl (Ent.cr1 (α := GSet) (A := [S a29 k30 rv25.Words]) _ rv25 _ (Nat.le_of_ble_eq_true rfl) (fun h => ⟨_, rfl, (by unfold i64ok; first | omega | (dsimp only; omega)), sepAll_get (i := 0) rfl h⟩)) (xp [0] rfl (Ent.freeze _ _) (xp [] rfl (Ent.slNil (α := GKnown)) (xD [16, 15, 14, 13, 7, 3, 1, 0] ca41 rfl rfl rfl (FT_open (γ := Value × Value × Value × Value) (I := fun g => i64ok rv58.1.Phase ∧ i64ok rv58.1.At ∧ i64ok rv58.1.Edge ∧ i64ok rv58.1.Steps ∧ i64ok rv58.2.1 ∧ i64ok rv58.2.2) (V := fun g => .tuple #[.agg #[vi rv58.1.Phase, g.1, g.2.1, vi rv58.1.At, vi rv58.1.Edge, g.2.2.1, g.2.2.2, vi rv58.1.Steps], vi rv58.2.1, vi rv58.2.2]) (B := fun g => [sl g.1 rv58.1.Cone, sl g.2.1 rv58.1.Leaf, sl g.2.2.1 rv58.1.Values, sl g.2.2.2 rv58.1.Queue]) (R := sl (G.g 1 3) rv40.Queue) sl_slice (fun aq51 kq52 eq53 => by rw [eq53]; exact FT_ent (Ent.take (is := [1, 2, 3, 4, 5, 6, 7, 0]) rfl) (FT_open (γ := Value × Value × Value × Value) (I := fun g => i64ok rv58.1.Phase ∧ i64ok rv58.1.At ∧ i64ok rv58.1.Edge ∧ i64ok rv58.1.Steps ∧ i64ok rv58.2.1 ∧ i64ok rv58.2.2) (V := fun g => .tuple #[.agg #[vi rv58.1.Phase, g.1, g.2.1, vi rv58.1.At, vi rv58.1.Edge, g.2.2.1, g.2.2.2, vi rv58.1.Steps], vi rv58.2.1, vi rv58.2.2]) (B := fun g => [sl g.1 rv58.1.Cone, sl g.2.1 rv58.1.Leaf, sl g.2.2.1 rv58.1.Values, sl g.2.2.2 rv58.1.Queue]) (R := sl (G.g 1 2) rv40.Values) sl_slice (fun aq48 kq49 eq50 => by rw [eq50]; exact FT_ent (Ent.take (is := [1, 2, 3, 4, 5, 6, 0, 7]) rfl) (FT_open (γ := Value × Value × Value × Value) (I := fun g => i64ok rv58.1.Phase ∧ i64ok rv58.1.At ∧ i64ok rv58.1.Edge ∧ i64ok rv58.1.Steps ∧ i64ok rv58.2.1 ∧ i64ok rv58.2.2) (V := fun g => .tuple #[.agg #[vi rv58.1.Phase, g.1, g.2.1, vi rv58.1.At, vi rv58.1.Edge, g.2.2.1, g.2.2.2, vi rv58.1.Steps], vi rv58.2.1, vi rv58.2.2]) (B := fun g => [sl g.1 rv58.1.Cone, sl g.2.1 rv58.1.Leaf, sl g.2.2.1 rv58.1.Values, sl g.2.2.2 rv58.1.Queue]) (R := sl (G.g 1 1) rv40.Leaf) sl_slice (fun aq45 kq46 eq47 => by rw [eq47]; exact FT_ent (Ent.take (is := [1, 2, 3, 4, 5, 0, 6, 7]) rfl) (FT_open (γ := Value × Value × Value × Value) (I := fun g => i64ok rv58.1.Phase ∧ i64ok rv58.1.At ∧ i64ok rv58.1.Edge ∧ i64ok rv58.1.Steps ∧ i64ok rv58.2.1 ∧ i64ok rv58.2.2) (V := fun g => .tuple #[.agg #[vi rv58.1.Phase, g.1, g.2.1, vi rv58.1.At, vi rv58.1.Edge, g.2.2.1, g.2.2.2, vi rv58.1.Steps], vi rv58.2.1, vi rv58.2.2]) (B := fun g => [sl g.1 rv58.1.Cone, sl g.2.1 rv58.1.Leaf, sl g.2.2.1 rv58.1.Values, sl g.2.2.2 rv58.1.Queue]) (R := sl (G.g 1 0) rv40.Cone) sl_slice (fun aq42 kq43 eq44 => by rw [eq44]; exact FT_ent (Ent.take (is := [1, 2, 3, 4, 0, 5, 6, 7]) rfl) (fn41 ((GSystem.mk 1 [([] : List Int)] [rv7] [rv25])) a2 k3 a22 k23 a33 k34 ([]) none 0 rv40 aq42 kq43 aq45 kq46 aq48 kq49 aq51 kq52 pre pre pre pre pre rv58 hg59))))))))))))))))) (Dg [] (fun G => .tuple #[.agg #[vi rv58.1.Phase, (G.g 2 0), (G.g 2 1), vi rv58.1.At, vi rv58.1.Edge, (G.g 2 2), (G.g 2 3), vi rv58.1.Steps], vi rv58.2.1, vi rv58.2.2]) (fun G => Vm) (Dg [] (fun G => .agg #[vi rv58.1.Phase, (G.g 2 0), (G.g 2 1), vi rv58.1.At, vi rv58.1.Edge, (G.g 2 2), (G.g 2 3), vi rv58.1.Steps]) (fun G => Vx) (Dv [] Vx (Dv [] Vx (Dx [] [] [0] (fun G => (G.g 7 0)) [fun G => Cl (G.g 7 0) [vi 0, .slice none 0 0, .slice none 0 0, vi 0, vi 0, .slice none 0 0, .slice none 0 0, vi 0]] (fun G => xA (Al ze59 [vi 0, .slice none 0 0, .slice none 0 0, vi 0, vi 0, .slice none 0 0, .slice none 0 0, vi 0])) (Dx0 [18, 19, 20, 21, 22] [22] [1, 2, 3, 4, 0] [fun G => Cl (G.g 7 0) [vi rv58.1.Phase, (G.g 2 0), (G.g 2 1), vi rv58.1.At, vi rv58.1.Edge, (G.g 2 2), (G.g 2 3), vi rv58.1.Steps]] (fun G => x1 0 rfl sl_one fun ho65 => (x1 1 rfl sl_one fun ho66 => (x1 2 rfl sl_one fun ho67 => (x1 3 rfl sl_one fun ho68 => (xS (Scl [4] sh59 [vi rv58.1.Phase, (G.g 2 0), (G.g 2 1), vi rv58.1.At, vi rv58.1.Edge, (G.g 2 2), (G.g 2 3), vi rv58.1.Steps] (v := .agg #[vi rv58.1.Phase, (G.g 2 0), (G.g 2 1), vi rv58.1.At, vi rv58.1.Edge, (G.g 2 2), (G.g 2 3), vi rv58.1.Steps]) (h1 := show [vi rv58.1.Phase, (G.g 2 0), (G.g 2 1), vi rv58.1.At, vi rv58.1.Edge, (G.g 2 2), (G.g 2 3), vi rv58.1.Steps].all (·.oneCell') = true from (by simp only [List.all_cons, List.all_nil, ho65, ho66, ho67, ho68, Bool.and_true, Bool.true_and] <;> rfl)))))))) (Dv [] Va (Dv [] Va ?_))))))))
 refine Dn ⟨by kernel_rfl, fun G => ?_⟩
 refine Jw2 [(1, p35), (2, (G.g 7 0)), (3, vi rv58.2.1), (4, vi rv58.2.2)] [0, 2, 4, 5, 6] [SP.fact (i64ok rv40.Phase ∧ i64ok rv40.At ∧ i64ok rv40.Edge ∧ i64ok rv40.Steps), sl (G.g 1 0) rv40.Cone, sl (G.g 1 1) rv40.Leaf, sl (G.g 1 2) rv40.Values, sl (G.g 1 3) rv40.Queue, sl (.slice a2 1 k3) ([([] : List Int)] : List (List Int)), sl (.slice a22 1 k23) ([rv7] : List GTransfer), sl (.slice a33 1 k34) ([rv25] : List GSet), sl (.slice none 0 0) ([] : List GKnown), SP.fact (i64ok rv58.1.Phase ∧ i64ok rv58.1.At ∧ i64ok rv58.1.Edge ∧ i64ok rv58.1.Steps ∧ i64ok rv58.2.1 ∧ i64ok rv58.2.2), sl (G.g 2 0) rv58.1.Cone, sl (G.g 2 1) rv58.1.Leaf, sl (G.g 2 2) rv58.1.Values, sl (G.g 2 3) rv58.1.Queue, Cl (G.g 7 0) [vi rv58.1.Phase, (G.g 2 0), (G.g 2 1), vi rv58.1.At, vi rv58.1.Edge, (G.g 2 2), (G.g 2 3), vi rv58.1.Steps]] ?_
 generalize G.g 1 0 = c36, G.g 1 1 = c37, G.g 1 2 = c38, G.g 1 3 = c39, G.g 2 0 = c54, G.g 2 1 = c55, G.g 2 2 = c56, G.g 2 3 = c57, G.g 7 0 = p64
 refine Jf 5 rfl ?_; rintro ⟨he69, he70, he71, he72⟩
 unfold i64ok at he69 he70 he71 he72
 refine Jf 14 rfl ?_; rintro ⟨he73, he74, he75, he76, he77, he78⟩
 unfold i64ok at he73 he74 he75 he76 he77 he78
 refine Jk [0, 0, 1, 2, 3, 5, 6, 7, 8, 9, 10, 11, 12, 14, 15, 16, 17, 18] ?_
 refine Jo 5 ?_; rintro a79 k80 rfl
 refine Fb 8 5 fun hl81 => ?_
 refine Fo 5 fun ho82 => ?_
 refine Jo 6 ?_; rintro a83 k84 rfl
 refine Fb 1 6 fun hl85 => ?_
 refine Jo 7 ?_; rintro a86 k87 rfl
 refine Fb 32 7 fun hl88 => ?_
 refine Jo 8 ?_; rintro a89 k90 rfl
 refine Fb 8 8 fun hl91 => ?_
 refine Fo 8 fun ho92 => ?_
 refine Jo 13 ?_; rintro a93 k94 rfl
 refine Fb 8 13 fun hl95 => ?_
 refine Fo 13 fun ho96 => ?_
 refine Jo 14 ?_; rintro a97 k98 rfl
 refine Fb 1 14 fun hl99 => ?_
 refine Jo 15 ?_; rintro a100 k101 rfl
 refine Fb 32 15 fun hl102 => ?_
 refine Jo 16 ?_; rintro a103 k104 rfl
 refine Fb 8 16 fun hl105 => ?_
 refine Fo 16 fun ho106 => ?_
 refine KS ?_
 refine Oq (VldA sh27 0) (Oq (VldA sh59 17) ?_)
 refine Fl 9 fun hn107 => ?_; try unfold vl; rw [← hn107]
 refine Fl 10 fun hn108 => ?_; try unfold vl; rw [← hn108]
 refine Fl 11 fun hn109 => ?_; try unfold vl; rw [← hn109]
 refine letv (solver_Step (GSystem.mk 1 [([] : List Int)] [rv7] [rv25]) [] rv58.1) fun rv114 hg115 => ?_
 have hc116 := fn41 ((GSystem.mk 1 [([] : List Int)] [rv7] [rv25])) a2 k3 a22 k23 a33 k34 ([]) none 0 rv58.1 a93 k94 a97 k98 a100 k101 a103 k104 pre pre pre pre pre rv114 hg115
 refine Oc [9, 10, 11, 12, 13, 14, 15, 16] ca41 hc116 ?_
 rintro ⟨c110, c111, c112, c113⟩ ⟨he117, he118, he119, he120, he121, he122⟩
 unfold i64ok at he117 he118 he119 he120 he121 he122
 refine Jo 0 ?_; rintro a123 k124 rfl
 refine Fb 8 0 fun hl125 => ?_
 refine Fo 0 fun ho126 => ?_
 refine Jo 1 ?_; rintro a127 k128 rfl
 refine Fb 1 1 fun hl129 => ?_
 refine Jo 2 ?_; rintro a130 k131 rfl
 refine Fb 32 2 fun hl132 => ?_
 refine Jo 3 ?_; rintro a133 k134 rfl
 refine Fb 8 3 fun hl135 => ?_
 refine Fo 3 fun ho136 => ?_
 refine Oq Vm (Oq Vx (Oq Vx (Oq Vx (Oa (Al ze59 [vi 0, .slice none 0 0, .slice none 0 0, vi 0, vi 0, .slice none 0 0, .slice none 0 0, vi 0]) fun p137 => Ost (Scl [0] sh59 [vi rv114.1.Phase, vl a123 k124 rv114.1.Cone, vl a127 k128 rv114.1.Leaf, vi rv114.1.At, vi rv114.1.Edge, vl a130 k131 rv114.1.Values, vl a133 k134 rv114.1.Queue, vi rv114.1.Steps]) (Oq Va (Oq Va (KS ?_)))))))
 refine Oq (VldA sh59 0) ?_
 refine letv (solver_Answer rv114.1) fun rv139 hg140 => ?_
 have hc141 := fn44 rv114.1 a123 k124 a127 k128 a130 k131 a133 k134 pre pre pre pre rv139 hg140
 refine Oc [1, 2, 3, 4] ca44 hc141 ?_
 rintro c138 he142
 unfold i64ok at he142
 refine Jo 0 ?_; rintro a143 k144 rfl
 refine Fb 8 0 fun hl145 => ?_
 refine Oq Vm (Oq Vx (Oq Vx (Oa (Al ze42 [vi 0, .slice none 0 0]) fun p146 => Ost (Scl [0] sh42 [vi rv139.1.Width, vl a143 k144 rv139.1.Words]) (Oq Va (KS ?_)))))
 refine Oq (VldA sh27 7) (Oq (VldA sh59 2) ?_)
 refine letv (solver_Step (GSystem.mk 1 [([] : List Int)] [rv7] [rv25]) [] rv114.1) fun rv151 hg152 => ?_
 have hc153 := fn41 ((GSystem.mk 1 [([] : List Int)] [rv7] [rv25])) a2 k3 a22 k23 a33 k34 ([]) none 0 rv114.1 a123 k124 a127 k128 a130 k131 a133 k134 pre pre pre pre pre rv151 hg152
 refine Oc [16, 17, 18, 19, 3, 4, 5, 6] ca41 hc153 ?_
 rintro ⟨c147, c148, c149, c150⟩ ⟨he154, he155, he156, he157, he158, he159⟩
 unfold i64ok at he154 he155 he156 he157 he158 he159
 refine Jo 0 ?_; rintro a160 k161 rfl
 refine Fb 8 0 fun hl162 => ?_
 refine Fo 0 fun ho163 => ?_
 refine Jo 1 ?_; rintro a164 k165 rfl
 refine Fb 1 1 fun hl166 => ?_
 refine Jo 2 ?_; rintro a167 k168 rfl
 refine Fb 32 2 fun hl169 => ?_
 refine Jo 3 ?_; rintro a170 k171 rfl
 refine Fb 8 3 fun hl172 => ?_
 refine Fo 3 fun ho173 => ?_
 refine Oq Vm (Oq Vx (Oq Vx (Oq Vx (Oa (Al ze59 [vi 0, .slice none 0 0, .slice none 0 0, vi 0, vi 0, .slice none 0 0, .slice none 0 0, vi 0]) fun p174 => Ost (Scl [0] sh59 [vi rv151.1.Phase, vl a160 k161 rv151.1.Cone, vl a164 k165 rv151.1.Leaf, vi rv151.1.At, vi rv151.1.Edge, vl a167 k168 rv151.1.Values, vl a170 k171 rv151.1.Queue, vi rv151.1.Steps]) (Oq Va (Oq Va (KS ?_)))))))
 refine Jp 29 fun hp175 => ?_
 refine Jp 8 fun hp176 => ?_
 refine JK_drawK [0, 1, 3, 7, 15, 31, 63, 127, 255, 511, 1023, 2047, 4095, 8191, 16383, 32767, 65535, 131071, 262143, 524287, 1048575, 2097151, 4194303, 8388607, 16777215, 33554431, 67108863, 134217727, 268435455, 268435455, 1073741823, 2147483647, 4294967295, 8589934591, 17179869183, 34359738367, 68719476735] fmix ?_
 refine Dv [] Vm (Dv [] Veql ?_)
 refine bool_split (rv58.2.2 == 0) ?_ ?_
 · intro h177
   have g178 := eq_of_beq h177
   refine Db h177 [] Vm (Dv [] Vm (Dv [] Veql (Dv [] Vpt ?_)))
   refine bool_split (rv114.2.2 == 0) ?_ ?_
   · intro h179
     have g180 := eq_of_beq h179
     refine Db h179 [] Vm (Dv [] Vm (Dv [] Veql (Dv [] Vpt ?_)))
     refine bool_split (rv58.2.1 == 1) ?_ ?_
     · intro h181
       have g182 := eq_of_beq h181
       refine Db h181 [] Vm (Dv [] Vm (Dv [] Veql (Dv [] Vpt ?_)))
       refine bool_split (rv114.2.1 == 1) ?_ ?_
       · intro h183
         have g184 := eq_of_beq h183
         refine Db h183 [] Vm (Dv [1] (Vfa fo59_0 0) (Dv [31] (VldF sh3 0) (Dv [] Veql (Dv [] Vpt ?_))))
         refine bool_split (rv58.1.Phase == 2) ?_ ?_
         · intro h185
           have g186 := eq_of_beq h185
           refine Db h185 [] Vm (Dv [0] (Vfa fo59_0 0) (Dv [9] (VldF sh3 0) (Dv [] Veql (Dv [] Vpt ?_))))
           refine bool_split (rv114.1.Phase == 3) ?_ ?_
           · intro h187
             have g188 := eq_of_beq h187
             refine Db h187 [] Vm (Dv [] Vm (Dv [] Vpt ?_))
             refine bool_split rv139.2 ?_ ?_
             · intro h189
               refine Db h189 [] Vm (Dv [7] (VldA sh42 0) (Dx [] [] [0, 1] (fun G => .agg #[vi rv25.Width, (G.g 29 0)]) [fun G => SP.fact (i64ok rv25.Width), fun G => sl (G.g 29 0) rv25.Words] (fun G => xC [] ca97 (fn97 1 pre pre rv25 hg26)) ?_))
               refine letv (flqref1_Same rv139.1 rv25) fun rv195 hg196 => ?_
               refine Dx [8, 32, 33] [] [1, 2, 3, 0] (fun G => vb rv195) [fun G => SP.fact (True)] (fun G => by refine xf 1 rfl ?_; rintro he197; unfold i64ok at he197; exact xD [2, 0] ca45 rfl rfl rfl (FT_open (γ := Unit) (I := fun g => True) (V := fun g => vb rv195) (B := fun g => []) (R := sl (G.g 29 0) rv25.Words) sl_slice (fun aq192 kq193 eq194 => by rw [eq194]; exact FT_ent (Ent.take (is := [1, 0]) rfl) (fn45 rv139.1 a143 k144 rv25 aq192 kq193 pre pre rv195 hg196)))) (Dv [] Vpt ?_)
               refine bool_split rv195 ?_ ?_
               · intro h198
                 refine Db h198 [] Vm (Dv [] Vm (Dv [] Veql (Dv [] Vpt (Dv [] Va ?_))))
                 refine Dn ⟨by kernel_rfl, fun G => ?_⟩
                 refine Jw2 [(0, vb (rv151.2.2 == 10))] [0, 1, 2, 3, 4, 5, 6, 7, 8, 9, 10, 11, 12, 13, 14, 15, 16, 17, 18, 19, 20, 21, 22, 23, 24, 25, 26, 27, 28, 29, 30, 31] [SP.fact (i64ok rv25.Width), sl (G.g 29 0) rv25.Words, SP.fact (True)] ?_
                 generalize G.g 29 0 = c191
                 refine Jf 32 rfl ?_; rintro he200
                 unfold i64ok at he200
                 refine Jk [2, 2, 3, 4, 5, 6, 6, 7, 7, 8, 9, 10, 11, 11, 12, 13, 14, 15, 16, 17, 18, 19, 20, 21, 22, 23, 24, 25, 26, 27, 28] ?_
                 refine Jo 30 ?_; rintro a201 k202 rfl
                 have hq := q4 hrr (rv151.2.2 == 10) (by simp only [flqlaw15_sane, h177, h179, h181, h183, h185, h187, h189, h198, hg8, hg26, hg41, hg59, hg115, hg140, hg152, hg196, cs4]); subst hq
                 exact Kr () rfl (.tmp rfl .nil) [] trivial
               intro h198
               refine Db h198 [] Vm (Ds (Ds (Dv [] Vpf (Dv [] Va ?_))))
               refine Dn ⟨by kernel_rfl, fun G => ?_⟩
               refine Jw2 [(0, vb false)] [0, 1, 2, 3, 4, 5, 6, 7, 8, 9, 10, 11, 12, 13, 14, 15, 16, 17, 18, 19, 20, 21, 22, 23, 24, 25, 26, 27, 28, 29, 30, 31] [SP.fact (i64ok rv25.Width), sl (G.g 29 0) rv25.Words, SP.fact (True)] ?_
               generalize G.g 29 0 = c191
               refine Jf 32 rfl ?_; rintro he204
               unfold i64ok at he204
               refine Jk [2, 2, 3, 4, 5, 6, 6, 7, 7, 8, 9, 10, 11, 11, 12, 13, 14, 15, 16, 17, 18, 19, 20, 21, 22, 23, 24, 25, 26, 27, 28] ?_
               refine Jo 30 ?_; rintro a205 k206 rfl
               have hq := q4 hrr false (by simp only [flqlaw15_sane, h177, h179, h181, h183, h185, h187, h189, h198, hg8, hg26, hg41, hg59, hg115, hg140, hg152, hg196, cs4]); subst hq
               exact Kr () rfl (.tmp rfl .nil) [] trivial
             intro h189
             refine Db h189 [] Vm (Ds (Ds (Ds (Dv [] Vpf (Dv [] Vm (Ds (Ds (Dv [] Vpf (Dv [] Va ?_)))))))))
             refine Dn ⟨by kernel_rfl, fun G => ?_⟩
             refine Jw2 [(0, vb false)] [0, 1, 2, 3, 4, 5, 6, 7, 8, 9, 10, 11, 12, 13, 14, 15, 16, 17, 18, 19, 20, 21, 22, 23, 24, 25, 26, 27, 28, 29, 30, 31] [] ?_
             refine Jk [2, 2, 3, 4, 5, 6, 6, 7, 7, 8, 9, 10, 11, 11, 12, 13, 14, 15, 16, 17, 18, 19, 20, 21, 22, 23, 24, 25, 26, 27] ?_
             have hq := q4 hrr false (by simp only [flqlaw15_sane, h177, h179, h181, h183, h185, h187, h189, hg8, hg26, hg41, hg59, hg115, hg140, hg152, cs4]); subst hq
             exact Kr () rfl (.tmp rfl .nil) [] trivial
           intro h187
           have g208 := ne_of_beq_false h187
           refine Db h187 [] Vm (Ds (Dv [] Vpf (Dv [] Vm (Ds (Ds (Ds (Dv [] Vpf (Dv [] Vm (Ds ?_)))))))))
           refine Ds (Dv [] Vpf (Dv [] Va ?_))
           refine Dn ⟨by kernel_rfl, fun G => ?_⟩
           refine Jw2 [(0, vb false)] [0, 1, 2, 3, 4, 5, 6, 7, 8, 9, 10, 11, 12, 13, 14, 15, 16, 17, 18, 19, 20, 21, 22, 23, 24, 25, 26, 27, 28, 29, 30, 31] [] ?_
           refine Jk [2, 2, 3, 4, 5, 6, 6, 7, 7, 8, 9, 10, 11, 11, 12, 13, 14, 15, 16, 17, 18, 19, 20, 21, 22, 23, 24, 25, 26, 27] ?_
           have hq := q4 hrr false (by simp only [flqlaw15_sane, h177, h179, h181, h183, h185, h187, hg8, hg26, hg41, hg59, hg115, hg140, hg152, cs4]); subst hq
           exact Kr () rfl (.tmp rfl .nil) [] trivial
         intro h185
         have g209 := ne_of_beq_false h185
         refine Db h185 [] Vm (Ds (Ds (Ds (Dv [] Vpf (Dv [] Vm (Ds (Dv [] Vpf (Dv [] Vm (Ds ?_)))))))))
         refine Ds (Ds (Dv [] Vpf (Dv [] Vm (Ds (Ds (Dv [] Vpf (Dv [] Va ?_)))))))
         refine Dn ⟨by kernel_rfl, fun G => ?_⟩
         refine Jw2 [(0, vb false)] [0, 1, 2, 3, 4, 5, 6, 7, 8, 9, 10, 11, 12, 13, 14, 15, 16, 17, 18, 19, 20, 21, 22, 23, 24, 25, 26, 27, 28, 29, 30, 31] [] ?_
         refine Jk [2, 2, 3, 4, 5, 6, 6, 7, 7, 8, 9, 10, 11, 11, 12, 13, 14, 15, 16, 17, 18, 19, 20, 21, 22, 23, 24, 25, 26, 27] ?_
         have hq := q4 hrr false (by simp only [flqlaw15_sane, h177, h179, h181, h183, h185, hg8, hg26, hg41, hg59, hg115, hg140, hg152, cs4]); subst hq
         exact Kr () rfl (.tmp rfl .nil) [] trivial
       intro h183
       have g210 := ne_of_beq_false h183
       refine Db h183 [] Vm (Ds (Ds (Ds (Dv [] Vpf (Dv [] Vm (Ds (Ds (Ds (Dv [] Vpf ?_)))))))))
       refine Dv [] Vm (Ds (Dv [] Vpf (Dv [] Vm (Ds (Ds (Ds (Dv [] Vpf (Dv [] Vm (Ds ?_)))))))))
       refine Ds (Dv [] Vpf (Dv [] Va ?_))
       refine Dn ⟨by kernel_rfl, fun G => ?_⟩
       refine Jw2 [(0, vb false)] [0, 1, 2, 3, 4, 5, 6, 7, 8, 9, 10, 11, 12, 13, 14, 15, 16, 17, 18, 19, 20, 21, 22, 23, 24, 25, 26, 27, 28, 29, 30, 31] [] ?_
       refine Jk [2, 2, 3, 4, 5, 6, 6, 7, 7, 8, 9, 10, 11, 11, 12, 13, 14, 15, 16, 17, 18, 19, 20, 21, 22, 23, 24, 25, 26, 27] ?_
       have hq := q4 hrr false (by simp only [flqlaw15_sane, h177, h179, h181, h183, hg8, hg26, hg41, hg59, hg115, hg140, hg152, cs4]); subst hq
       exact Kr () rfl (.tmp rfl .nil) [] trivial
     intro h181
     have g211 := ne_of_beq_false h181
     refine Db h181 [] Vm (Ds (Ds (Dv [] Vpf (Dv [] Vm (Ds (Ds (Ds (Dv [] Vpf (Dv [] Vm ?_)))))))))
     refine Ds (Ds (Ds (Dv [] Vpf (Dv [] Vm (Ds (Dv [] Vpf (Dv [] Vm (Ds (Ds ?_)))))))))
     refine Ds (Dv [] Vpf (Dv [] Vm (Ds (Ds (Dv [] Vpf (Dv [] Va ?_))))))
     refine Dn ⟨by kernel_rfl, fun G => ?_⟩
     refine Jw2 [(0, vb false)] [0, 1, 2, 3, 4, 5, 6, 7, 8, 9, 10, 11, 12, 13, 14, 15, 16, 17, 18, 19, 20, 21, 22, 23, 24, 25, 26, 27, 28, 29, 30, 31] [] ?_
     refine Jk [2, 2, 3, 4, 5, 6, 6, 7, 7, 8, 9, 10, 11, 11, 12, 13, 14, 15, 16, 17, 18, 19, 20, 21, 22, 23, 24, 25, 26, 27] ?_
     have hq := q4 hrr false (by simp only [flqlaw15_sane, h177, h179, h181, hg8, hg26, hg41, hg59, hg115, hg140, hg152, cs4]); subst hq
     exact Kr () rfl (.tmp rfl .nil) [] trivial
   intro h179
   have g212 := ne_of_beq_false h179
   refine Db h179 [] Vm (Ds (Ds (Dv [] Vpf (Dv [] Vm (Ds (Ds (Dv [] Vpf (Dv [] Vm (Ds ?_)))))))))
   refine Ds (Ds (Dv [] Vpf (Dv [] Vm (Ds (Ds (Ds (Dv [] Vpf (Dv [] Vm (Ds ?_)))))))))
   refine Dv [] Vpf (Dv [] Vm (Ds (Ds (Ds (Dv [] Vpf (Dv [] Vm (Ds (Ds (Dv [] Vpf ?_)))))))))
   refine Dv [] Va ?_
   refine Dn ⟨by kernel_rfl, fun G => ?_⟩
   refine Jw2 [(0, vb false)] [0, 1, 2, 3, 4, 5, 6, 7, 8, 9, 10, 11, 12, 13, 14, 15, 16, 17, 18, 19, 20, 21, 22, 23, 24, 25, 26, 27, 28, 29, 30, 31] [] ?_
   refine Jk [2, 2, 3, 4, 5, 6, 6, 7, 7, 8, 9, 10, 11, 11, 12, 13, 14, 15, 16, 17, 18, 19, 20, 21, 22, 23, 24, 25, 26, 27] ?_
   have hq := q4 hrr false (by simp only [flqlaw15_sane, h177, h179, hg8, hg26, hg41, hg59, hg115, hg140, hg152, cs4]); subst hq
   exact Kr () rfl (.tmp rfl .nil) [] trivial
 intro h177
 have g213 := ne_of_beq_false h177
 refine Db h177 [] Vm (Ds (Ds (Dv [] Vpf (Dv [] Vm (Ds (Ds (Dv [] Vpf (Dv [] Vm (Ds ?_)))))))))
 refine Ds (Dv [] Vpf (Dv [] Vm (Ds (Ds (Ds (Dv [] Vpf (Dv [] Vm (Ds (Ds ?_)))))))))
 refine Ds (Dv [] Vpf (Dv [] Vm (Ds (Dv [] Vpf (Dv [] Vm (Ds (Ds (Ds (Dv [] Vpf ?_)))))))))
 refine Dv [] Vm (Ds (Ds (Dv [] Vpf (Dv [] Va ?_))))
 refine Dn ⟨by kernel_rfl, fun G => ?_⟩
 refine Jw2 [(0, vb false)] [0, 1, 2, 3, 4, 5, 6, 7, 8, 9, 10, 11, 12, 13, 14, 15, 16, 17, 18, 19, 20, 21, 22, 23, 24, 25, 26, 27, 28, 29, 30, 31] [] ?_
 refine Jk [2, 2, 3, 4, 5, 6, 6, 7, 7, 8, 9, 10, 11, 11, 12, 13, 14, 15, 16, 17, 18, 19, 20, 21, 22, 23, 24, 25, 26, 27] ?_
 have hq := q4 hrr false (by simp only [flqlaw15_sane, h177, hg8, hg26, hg41, hg59, hg115, hg140, hg152, cs4]); subst hq
 exact Kr () rfl (.tmp rfl .nil) [] trivial
theorem fn40 (a : List Int) (aa0 : Option Addr) (ak0 : Nat) (b : List Int) (ba0 : Option Addr) (bk0 : Nat) (rr : Bool) (hrr : flqref7_Ints a b = rr) : FT Tryz.prog 40 #[vl aa0 ak0 a, vl ba0 bk0 b] [S aa0 ak0 a, S ba0 bk0 b] (fun g : Unit => True) (fun g => vb rr) (fun g => []) := by
 refine FTi Tryz.func40 fun w0 M0 F0 => ?_
 refine Fb 8 0 fun hl1 => ?_
 refine Fo 0 fun ho2 => ?_
 refine Fb 8 1 fun hl3 => ?_
 refine Fo 1 fun ho4 => ?_
 refine KS ?_
 refine Oq Va (KS ?_)
 refine Oq Vm (Oq (Vlen sl22) (Oq Vm (Oq (Vlen sl22) (Oq Vneq (KS ?_)))))
 refine Kc ?_ ?_
 · intro h5
   have g6 := ne_of_bne h5
   refine KS ?_
   refine Oq Va (KS ?_)
   have hq := q4 hrr false (by simp only [flqref7_Ints, h5, cs4]); subst hq
   exact Kr () rfl (.tmp rfl .nil) [] trivial
 intro h5
 have g7 := eq_of_bne_false h5
 refine KS ?_
 refine Oq Va (KS ?_)
 refine Kl (γ := Nat × Int) (fun (r8, i_9) => ⟨[(0, vl aa0 ak0 a), (1, vl ba0 bk0 b), (5, vi i_9)], [S aa0 ak0 a, S ba0 bk0 b], flqref7_Ints_L0 a b r8 i_9 = flqref7_Ints_L0 a b (((a.length : Int) - 0).toNat) 0 ∧ r8 = ((a.length : Int) - i_9).toNat ∧ (0 : Int) ≤ i_9 ∧ i_9 ≤ (a.length : Int) ∧ (-9223372036854775808 ≤ i_9 ∧ i_9 ≤ 9223372036854775807), r8⟩) (((a.length : Int) - 0).toNat, 0) [0, 1] ⟨rfl, rfl, (by omega), (by omega), (by omega)⟩ ?_
 rintro ⟨r8, i_9⟩ ⟨hM10, hr11, hi12, hi13, hk14⟩
 refine JJ_nx fun _ _ hL hA => ?_; dsimp only at hL hA; subst hL hA
 refine Fb 8 0 fun hl15 => ?_
 refine Fo 0 fun ho16 => ?_
 refine Fb 8 1 fun hl17 => ?_
 refine Fo 1 fun ho18 => ?_
 refine KS ?_
 refine Oq Vm (Oq Vm (Oq (Vlen sl22) (Oq Vlss (KS ?_))))
 refine Kc ?_ ?_
 · intro h19
   have g20 := of_decide_eq_true h19
   obtain ⟨r21, rfl⟩ := scc (n := r8) (by omega)
   refine KS ?_
   refine Kq [0, 0, 3, 7, 0, 0, 48, 112, 255] fmix ?_
   refine Qv [] Vm (Qv [] Vm (Qv [0] (Vi sl22 0) ?_))
   have hb22 := ok1 (i := i_9.toNat) ho16 rng
   refine Qv [0] (VldI sh3 0) (Qv [] Vm (Qv [] Vm (Qv [1] (Vi sl22 0) ?_)))
   have hb23 := ok1 (i := i_9.toNat) ho18 rng
   refine Qv [1] (VldI sh3 0) (Qv [] Vneq ?_)
   refine Qn ⟨by kernel_rfl, ?_⟩
   refine Kc ?_ ?_
   · intro h24
     have g25 := ne_of_bne h24
     refine KS ?_
     refine Oq Va (KS ?_)
     have hR26 := q2 hM10 (.ret false) (by simp only [flqref7_Ints_L0, h5, h19, h24, cs4])
     have hq := q4 hrr false (by simp only [flqref7_Ints, h5, h19, h24, hR26, cs4]); subst hq
     exact Kr () rfl (.tmp rfl .nil) [] trivial
   intro h24
   have g27 := eq_of_bne_false h24
   refine KS ?_
   refine Oq Vm (Oq Vadd (Oq Va (KS ?_)))
   exact Kg (r21, (i_9 + 1)) [0, 1] ⟨(q3 hM10 (by simp only [flqref7_Ints_L0, h5, h19, h24, cs4])), (by omega), (by omega), (by omega), (by omega)⟩
 intro h19
 have g28 := of_decide_eq_false h19
 obtain rfl : r8 = 0 := by omega
 refine Ke ?_
 have hR29 := q2 hM10 (.brk ()) (by simp only [flqref7_Ints_L0, h5, h19, cs4])
 refine KS ?_
 refine Oq Va (KS ?_)
 have hq := q4 hrr true (by simp only [flqref7_Ints, h5, h19, hR29, cs4]); subst hq
 exact Kr () rfl (.tmp rfl .nil) [] trivial
theorem fn257 (data : List GKnown) (dataa0 : Option Addr) (datak0 : Nat) (a : Int) (b : Int) (cmpF : FuncId) (cmpC : List Value) (cmpp : GKnown → GKnown → Int) (cmpA : List SP) (ha_0 : i64ok a) (hb_0 : i64ok b) (hcmpc : callable Tryz.prog cmpF = true) (hcmpF : ∀ x0 x1, ∀ (a0 : Option Addr) (k0 : Nat) (a2 : Option Addr) (k2 : Nat), i64ok x0.Node → i64ok x0.Value.Width → i64ok x1.Node → i64ok x1.Value.Width → FT Tryz.prog cmpF ([(.agg #[vi x0.Node, vi x0.Value.Width, vl a0 k0 x0.Value.Words] : Value), (.agg #[vi x1.Node, vi x1.Value.Width, vl a2 k2 x1.Value.Words] : Value)] ++ cmpC).toArray ([S a0 k0 x0.Value.Words, S a2 k2 x1.Value.Words] ++ [pAll cmpA]) (fun _ : Unit => i64ok (cmpp x0 x1)) (fun _ => vi (cmpp x0 x1)) (fun _ => [])) (ha0 : 0 ≤ a ∧ a ≤ b ∧ b ≤ (data.length : Int)) (rr : List GKnown) (hrr : slices_insertionSortCmpFunc_Known data a b cmpp = rr) : FT Tryz.prog 257 #[vl dataa0 datak0 data, vi a, vi b, .func (.func cmpF) #[] cmpC.toArray] [O dataa0 datak0 data, pAll cmpA] (fun g : Unit => True) (fun g => .tuple #[]) (fun g => [os (vl dataa0 datak0 data) rr]) := by
 refine FTi Tryz.func257 fun w0 M0 F0 => ?_
 unfold i64ok at ha_0 hb_0
 refine Fb 40 0 fun hl1 => ?_
 refine KS ?_
 refine Oq Vm (Oq Vadd (Oq Va (KS ?_)))
 refine Kl (γ := Nat × List GKnown × Int) (fun (r2, data_3, i_4) => ⟨[(0, vl dataa0 datak0 data), (1, vi a), (2, vi b), (3, .func (.func cmpF) #[] cmpC.toArray), (8, vi i_4)], [os (vl dataa0 datak0 data) data_3, pAll cmpA], slices_insertionSortCmpFunc_Known_L0 a cmpp r2 data_3 i_4 = slices_insertionSortCmpFunc_Known_L0 a cmpp (((b : Int) - (a + 1)).toNat) data (a + 1) ∧ r2 = ((b : Int) - i_4).toNat ∧ ((a + 1) : Int) ≤ i_4 ∧ (i_4 ≤ b ∨ i_4 = (a + 1)) ∧ (-9223372036854775808 ≤ i_4 ∧ i_4 ≤ 9223372036854775807), r2⟩) (((b : Int) - (a + 1)).toNat, data, (a + 1)) [0, 0] ⟨rfl, rfl, (by omega), (.inr rfl), (by omega)⟩ ?_
 rintro ⟨r2, data_3, i_4⟩ ⟨hM5, hr6, hi7, hi8, hk9⟩
 refine JJ_nx fun _ _ hL hA => ?_; dsimp only at hL hA; subst hL hA
 refine Fb 40 0 fun hl10 => ?_
 refine Fl 0 fun hn11 => ?_
 refine KS ?_
 refine Oq Vm (Oq Vm (Oq Vlss (KS ?_)))
 refine Kc ?_ ?_
 · intro h12
   have g13 := of_decide_eq_true h12
   obtain ⟨r14, rfl⟩ := scc (n := r2) (by omega)
   refine KS ?_
   refine Oq Vm (Oq Va (KS ?_))
   refine Kl (γ := Nat × List GKnown × Int) (fun (r15, data_16, j_17) => ⟨[(0, vl dataa0 datak0 data), (1, vi a), (2, vi b), (3, .func (.func cmpF) #[] cmpC.toArray), (8, vi i_4), (9, vi j_17)], [os (vl dataa0 datak0 data) data_16, pAll cmpA], slices_insertionSortCmpFunc_Known_L1 cmpp r15 data_16 j_17 = slices_insertionSortCmpFunc_Known_L1 cmpp (((i_4 : Int) - a).toNat) data_3 i_4 ∧ r15 = ((j_17 : Int) - a).toNat ∧ j_17 ≤ (i_4 : Int) ∧ (-9223372036854775808 ≤ j_17 ∧ j_17 ≤ 9223372036854775807), r15⟩) (((i_4 : Int) - a).toNat, data_3, i_4) [0, 0] ⟨rfl, rfl, (by omega), (by omega)⟩ ?_
   rintro ⟨r15, data_16, j_17⟩ ⟨hM18, hr19, hi20, hk21⟩
   refine JJ_nx fun _ _ hL hA => ?_; dsimp only at hL hA; subst hL hA
   refine Fb 40 0 fun hl22 => ?_
   refine Fl 0 fun hn23 => ?_
   refine KS ?_
   refine bool_split (decide (a < j_17)) ?_ ?_
   · intro h24
     have g25 := of_decide_eq_true h24
     obtain ⟨r26, rfl⟩ := scc (n := r15) (by omega)
     refine JJ_peekO_GKnown j_17.toNat 0 rfl rng fun a27 k28 hb29 hb30 => ?_
     unfold i64ok at hb29 hb30
     refine Fb 8 1 fun hl31 => ?_
     refine JJ_peekO2_GKnown ((j_17 - 1) : Int).toNat 0 rfl rng fun a32 k33 hb34 hb35 => ?_
     unfold i64ok at hb34 hb35
     refine Fb 8 1 fun hl36 => ?_
     refine JK_drawK [0, 0, 3, 7, 15, 15, 15, 111, 239, 15, 15, 1039, 3599, 7695, 16383, 32767, 65535] fmix ?_
     refine Dv [] Vm (Dv [] Vm (Db h24 [] Vgtr (Dv [] Vm (Dv [] Vm (Dv [] Vm (Dv [] Vm (Dv [0] (Vi sl53 0) (Dv [0] (VldA sh67 0) (Dv [] Vm ?_)))))))))
     refine Dv [] Vm (Dv [] Vsub (Dv [0] (Vi sl53 0) (Dv [0] (VldA sh67 0) (Dx [1, 2, 3] [] [1, 2, 3, 0] (fun G => vi (cmpp (data_16.getD j_17.toNat default) (data_16.getD ((j_17 - 1) : Int).toNat default))) [fun G => SP.fact (i64ok (cmpp (data_16.getD j_17.toNat default) (data_16.getD ((j_17 - 1) : Int).toNat default)))] (fun G => xE («as» := [(.agg #[vi ((data_16.getD j_17.toNat default).Node), vi (((data_16.getD j_17.toNat default).Value).Width), vl a27 k28 (((data_16.getD j_17.toNat default).Value).Words)] : Value), (.agg #[vi ((data_16.getD ((j_17 - 1) : Int).toNat default).Node), vi (((data_16.getD ((j_17 - 1) : Int).toNat default).Value).Width), .slice a32 ((((data_16.getD ((j_17 - 1) : Int).toNat default).Value).Words).length) k33] : Value)] ++ cmpC) [1, 0, 2] hcmpc rfl rfl rfl (by simp) rfl (hcmpF (data_16.getD j_17.toNat default) (data_16.getD ((j_17 - 1) : Int).toNat default) a27 k28 a32 k33 pre pre pre pre)) (Dv [] Vlss (Dv [] Vpt ?_))))))
     refine Dn ⟨by kernel_rfl, fun G => ?_⟩
     refine Jw2 [(0, vl dataa0 datak0 data), (1, vi a), (2, vi b), (3, .func (.func cmpF) #[] cmpC.toArray), (8, vi i_4), (9, vi j_17), (34, vb (decide ((cmpp (data_16.getD j_17.toNat default) (data_16.getD ((j_17 - 1) : Int).toNat default)) < 0)))] [0, 1, 2, 3] [SP.fact (i64ok (cmpp (data_16.getD j_17.toNat default) (data_16.getD ((j_17 - 1) : Int).toNat default)))] ?_
     refine Jf 4 rfl ?_; rintro he37
     unfold i64ok at he37
     refine Jk [0, 0, 1, 2] ?_
     refine Kc ?_ ?_
     · intro h38
       have g39 := of_decide_eq_true h38
       refine KS ?_
       refine JK_drawK [0, 0, 0, 0, 8, 0, 0, 64, 224, 480, 0, 0, 3072, 7168, 16355, 32739, 65535, 131071] fmix ?_
       refine Dv [] Vm (Dv [] Vm (Dv [] Vm (Dv [] Vm (Dv [] Vsub (Dv [] Vm (Dv [] Vm (Dv [] Vsub (Dv [0] (Vi sl53 0) (Dv [0] (VldA sh67 0) ?_)))))))))
       refine Dv [] Vm (Dv [] Vm (Dv [0] (Vi sl53 0) (Dv [0] (VldA sh67 0) (Dv [0] (Vi sl53 0) ?_))))
       refine Dx0 [0, 1] [0] [1, 0] [fun G => os (vl dataa0 datak0 data) (data_16.set j_17.toNat (data_16.getD ((j_17 - 1) : Int).toNat default))] (fun G => xp [0] rfl (Ent.oread2 _ _ _ _ _ _) (xS (So (Rs := [S a32 k33 (((data_16.getD ((j_17 - 1) : Int).toNat default).Value).Words)]) [0, 0] sh67 (data_16.getD ((j_17 - 1) : Int).toNat default) (fun h => ⟨_, rfl, (by unfold i64ok; first | omega | (dsimp only; omega)), (by unfold i64ok; first | omega | (dsimp only; omega)), sepAll_get (i := 0) rfl h⟩)))) (Dv [4] (Vi sl53 0) ?_)
       refine Dx0 [2, 4] [4] [1, 0] [fun G => os (vl dataa0 datak0 data) ((data_16.set j_17.toNat (data_16.getD ((j_17 - 1) : Int).toNat default)).set ((j_17 - 1) : Int).toNat (data_16.getD j_17.toNat default))] (fun G => xS (So (Rs := [S a27 k28 (((data_16.getD j_17.toNat default).Value).Words)]) [1, 0] sh67 (data_16.getD j_17.toNat default) (fun h => ⟨_, rfl, (by unfold i64ok; first | omega | (dsimp only; omega)), (by unfold i64ok; first | omega | (dsimp only; omega)), sepAll_get (i := 0) rfl h⟩))) ?_
       refine Dn ⟨by kernel_rfl, fun G => ?_⟩
       refine Jw2 [(0, vl dataa0 datak0 data), (1, vi a), (2, vi b), (3, .func (.func cmpF) #[] cmpC.toArray), (8, vi i_4), (9, vi j_17)] [1, 2, 3] [os (vl dataa0 datak0 data) ((data_16.set j_17.toNat (data_16.getD ((j_17 - 1) : Int).toNat default)).set ((j_17 - 1) : Int).toNat (data_16.getD j_17.toNat default))] ?_
       refine KS ?_
       refine Oq Vm (Oq Vsub (Oq Va (KS ?_)))
       exact Kg (r26, ((data_16.set j_17.toNat (data_16.getD ((j_17 - 1) : Int).toNat default)).set ((j_17 - 1) : Int).toNat (data_16.getD j_17.toNat default)), (j_17 - 1)) [3, 2] ⟨(q3 hM18 (by simp only [slices_insertionSortCmpFunc_Known_L1, h12, h24, h38, cs4])), (by omega), (by omega), (by omega)⟩
     intro h38
     have g40 := of_decide_eq_false h38
     refine Jl [0] (Ent.oread2 _ _ _ _ _ _) ?_
     refine Ke ?_
     have hR41 := q2 hM18 data_16 (by simp only [slices_insertionSortCmpFunc_Known_L1, h12, h24, h38, cs4])
     refine KS ?_
     refine Oq Vm (Oq Vadd (Oq Va (KS ?_)))
     exact Kg (r14, data_16, (i_4 + 1)) [0, 2] ⟨(q3 hM5 (by simp only [slices_insertionSortCmpFunc_Known_L0, h12, h24, h38, hR41, cs4])), (by omega), (by omega), (by omega), (by omega)⟩
   intro h24
   have g42 := of_decide_eq_false h24
   obtain rfl : r15 = 0 := by omega
   refine Kq [0, 0, 3, 7, 15, 15, 15, 111, 239, 15, 15, 1039, 3599, 7695, 16383, 32767, 65535] fmix ?_
   refine Qv [] Vm (Qv [] Vm (Qb h24 [] Vgtr (Qv [] Vm (Qs (Qs (Qs (Qs (Qs (Qs ?_)))))))))
   refine Qs (Qs (Qs (Qs (Qs (Qs (Qv [] Vpf ?_))))))
   refine Qn ⟨by kernel_rfl, ?_⟩
   refine Kf ?_
   refine Ke ?_
   have hR43 := q2 hM18 data_16 (by simp only [slices_insertionSortCmpFunc_Known_L1, h12, h24, cs4])
   refine KS ?_
   refine Oq Vm (Oq Vadd (Oq Va (KS ?_)))
   exact Kg (r14, data_16, (i_4 + 1)) [0, 0] ⟨(q3 hM5 (by simp only [slices_insertionSortCmpFunc_Known_L0, h12, h24, hR43, cs4])), (by omega), (by omega), (by omega), (by omega)⟩
 intro h12
 have g44 := of_decide_eq_false h12
 obtain rfl : r2 = 0 := by omega
 refine Ke ?_
 have hR45 := q2 hM5 data_3 (by simp only [slices_insertionSortCmpFunc_Known_L0, h12, cs4])
 have hq := q4 hrr data_3 (by simp only [slices_insertionSortCmpFunc_Known, h12, hR45, cs4]); subst hq
 exact Kz () rfl .nil [0] trivial
theorem fn207 (data : List GKnown) (dataa0 : Option Addr) (datak0 : Nat) (n : Int) (cmpF : FuncId) (cmpC : List Value) (cmpp : GKnown → GKnown → Int) (cmpA : List SP) (hn_0 : i64ok n) (hcmpc : callable Tryz.prog cmpF = true) (hcmpF : ∀ x0 x1, ∀ (a0 : Option Addr) (k0 : Nat) (a2 : Option Addr) (k2 : Nat), i64ok x0.Node → i64ok x0.Value.Width → i64ok x1.Node → i64ok x1.Value.Width → FT Tryz.prog cmpF ([(.agg #[vi x0.Node, vi x0.Value.Width, vl a0 k0 x0.Value.Words] : Value), (.agg #[vi x1.Node, vi x1.Value.Width, vl a2 k2 x1.Value.Words] : Value)] ++ cmpC).toArray ([S a0 k0 x0.Value.Words, S a2 k2 x1.Value.Words] ++ [pAll cmpA]) (fun _ : Unit => i64ok (cmpp x0 x1)) (fun _ => vi (cmpp x0 x1)) (fun _ => [])) (ha0 : (data.length : Int) = n ∧ n ≤ 12) (rr : List GKnown) (hrr : slices_stableCmpFunc_Known data n cmpp = rr) : FT Tryz.prog 207 #[vl dataa0 datak0 data, vi n, .func (.func cmpF) #[] cmpC.toArray] [O dataa0 datak0 data, pAll cmpA] (fun g : Unit => True) (fun g => .tuple #[]) (fun g => [os (vl dataa0 datak0 data) rr]) := by
 refine FTi Tryz.func207 fun w0 M0 F0 => ?_
 unfold i64ok at hn_0
 refine Fb 40 0 fun hl1 => ?_
 refine KS ?_
 refine Oq Va (KS ?_)
 refine Oq Vm (Oq Va (Oq Va (KS ?_)))
 have hterm4 : slices_stableCmpFunc_Known_L0 1 ≠ LR.oof := (by unfold slices_stableCmpFunc_Known_L0; intro h; simp only [Bool.cond_eq_ite] at h; (repeat' split at h) <;> cases h)
 refine Kl (γ := Nat) (fun r2 => ⟨[(0, vl dataa0 datak0 data), (1, vi n), (2, .func (.func cmpF) #[] cmpC.toArray), (6, vi 20), (7, vi 0), (8, vi 20)], [O dataa0 datak0 data, pAll cmpA], slices_stableCmpFunc_Known_L0 r2 = slices_stableCmpFunc_Known_L0 1, r2⟩) 1 [0, 0] rfl ?_
 rintro r2 hM3
 refine JJ_nx fun _ _ hL hA => ?_; dsimp only at hL hA; subst hL hA
 refine Fb 40 0 fun hl5 => ?_
 rcases r2 with _ | r2
 · exact absurd (hM3.symm.trans rfl) hterm4
 refine KS ?_
 refine Oq Vm (Oq Vm (Oq Vleq (KS ?_)))
 refine Kc ?_ ?_
 · intro h6
   have g7 := of_decide_eq_true h6
   exfalso; omega
 intro h6
 have g8 := of_decide_eq_false h6
 refine Ke ?_
 have hR9 := q2 hM3 (.brk ()) (by simp only [slices_stableCmpFunc_Known_L0, h6, cs4])
 refine KS ?_
 refine Oq Vm (Oq Vm (Oq Vm (Oq Vm ?_)))
 refine letv (slices_insertionSortCmpFunc_Known data 0 n cmpp) fun rv10 hg11 => ?_
 have hc12 := fn257 data dataa0 datak0 0 n cmpF cmpC cmpp cmpA pre pre hcmpc hcmpF pre rv10 hg11
 refine Oc [0, 0] ca257 hc12 ?_
 rintro - -
 refine KS ?_
 have hterm15 : slices_stableCmpFunc_Known_L1 1 ≠ LR.oof := (by unfold slices_stableCmpFunc_Known_L1; intro h; simp only [Bool.cond_eq_ite] at h; (repeat' split at h) <;> cases h)
 refine Kl (γ := Nat) (fun r13 => ⟨[(0, vl dataa0 datak0 data), (1, vi n), (2, .func (.func cmpF) #[] cmpC.toArray), (6, vi 20)], [os (vl dataa0 datak0 data) rv10, pAll cmpA], slices_stableCmpFunc_Known_L1 r13 = slices_stableCmpFunc_Known_L1 1, r13⟩) 1 [0, 0] rfl ?_
 rintro r13 hM14
 refine JJ_nx fun _ _ hL hA => ?_; dsimp only at hL hA; subst hL hA
 refine Fb 40 0 fun hl16 => ?_
 refine Fl 0 fun hn17 => ?_
 rcases r13 with _ | r13
 · exact absurd (hM14.symm.trans rfl) hterm15
 refine KS ?_
 refine Oq Vm (Oq Vm (Oq Vlss (KS ?_)))
 refine Kc ?_ ?_
 · intro h18
   have g19 := of_decide_eq_true h18
   exfalso; omega
 intro h18
 have g20 := of_decide_eq_false h18
 refine Ke ?_
 have hR21 := q2 hM14 (.brk ()) (by simp only [slices_stableCmpFunc_Known_L1, h6, h18, hR9, hg11, cs4])
 have hq := q4 hrr rv10 (by simp only [slices_stableCmpFunc_Known, h6, h18, hR9, hg11, hR21, cs4]); subst hq
 exact Kz () rfl .nil [0] trivial
theorem fn146 (x : List GKnown) (xa0 : Option Addr) (xk0 : Nat) (cmpF : FuncId) (cmpC : List Value) (cmpp : GKnown → GKnown → Int) (cmpA : List SP) (hcmpc : callable Tryz.prog cmpF = true) (hcmpF : ∀ x0 x1, ∀ (a0 : Option Addr) (k0 : Nat) (a2 : Option Addr) (k2 : Nat), i64ok x0.Node → i64ok x0.Value.Width → i64ok x1.Node → i64ok x1.Value.Width → FT Tryz.prog cmpF ([(.agg #[vi x0.Node, vi x0.Value.Width, vl a0 k0 x0.Value.Words] : Value), (.agg #[vi x1.Node, vi x1.Value.Width, vl a2 k2 x1.Value.Words] : Value)] ++ cmpC).toArray ([S a0 k0 x0.Value.Words, S a2 k2 x1.Value.Words] ++ [pAll cmpA]) (fun _ : Unit => i64ok (cmpp x0 x1)) (fun _ => vi (cmpp x0 x1)) (fun _ => [])) (ha0 : x.length ≤ 12) (rr : List GKnown) (hrr : slices_SortStableFunc_Known x cmpp = rr) : FT Tryz.prog 146 #[vl xa0 xk0 x, .func (.func cmpF) #[] cmpC.toArray] [O xa0 xk0 x, pAll cmpA] (fun g : Unit => True) (fun g => .tuple #[]) (fun g => [os (vl xa0 xk0 x) rr]) := by
 refine FTi Tryz.func146 fun w0 M0 F0 => ?_
 refine Fb 40 0 fun hl1 => ?_
 refine KS ?_
 refine Oq Vm (Oq Vm (Oq (Vlen sl53) (Oq Vm ?_)))
 refine letv (slices_stableCmpFunc_Known x (x.length : Int) cmpp) fun rv2 hg3 => ?_
 have hc4 := fn207 x xa0 xk0 ((x.length : Int)) cmpF cmpC cmpp cmpA pre hcmpc hcmpF pre rv2 hg3
 refine Oc [0, 0] ca207 hc4 ?_
 rintro - -
 refine KS ?_
 have hq := q4 hrr rv2 (by simp only [slices_SortStableFunc_Known, hg3, cs4]); subst hq
 exact Kz () rfl .nil [0] trivial
theorem fn147 (a : GKnown) (aa2 : Option Addr) (ak2 : Nat) (b : GKnown) (ba2 : Option Addr) (bk2 : Nat) (ha_0 : i64ok a.Node) (ha_1 : i64ok a.Value.Width) (hb_0 : i64ok b.Node) (hb_1 : i64ok b.Value.Width) (rr : Int) (hrr : solver_Final_1 a b = rr) : FT Tryz.prog 147 #[.agg #[vi a.Node, vi a.Value.Width, vl aa2 ak2 a.Value.Words], .agg #[vi b.Node, vi b.Value.Width, vl ba2 bk2 b.Value.Words]] [S aa2 ak2 a.Value.Words, S ba2 bk2 b.Value.Words] (fun g : Unit => i64ok rr) (fun g => vi rr) (fun g => []) := by
 refine FTi Tryz.func147 fun w0 M0 F0 => ?_
 unfold i64ok at ha_0 ha_1 hb_0 hb_1
 refine Fb 8 0 fun hl1 => ?_
 refine Fb 8 1 fun hl2 => ?_
 refine KS ?_
 refine Oa (Ab [vi a.Node, vi a.Value.Width, vl aa2 ak2 a.Value.Words]) fun p3 => Oa (Ab [vi b.Node, vi b.Value.Width, vl ba2 bk2 b.Value.Words]) fun p4 => Oq Va (KS ?_)
 refine Oq (Vfa fo67_0 1) (Oq (VldF sh3 1) (Oq (Vfa fo67_0 0) (Oq (VldF sh3 0) ?_)))
 refine letv (cmp_Compare_int a.Node b.Node) fun rv5 hg6 => ?_
 have hc7 := fn148 a.Node b.Node pre pre rv5 hg6
 refine Oc [] ca148 hc7 ?_
 rintro - he8
 unfold i64ok at he8
 refine Oq Va (KS ?_)
 have hq := q4 hrr rv5 (by simp only [solver_Final_1, hg6, cs4]); subst hq
 exact Kr () rfl (.tmp rfl .nil) [] en
theorem fn63 (st : GState) (sta1 : Option Addr) (stk1 : Nat) (sta2 : Option Addr) (stk2 : Nat) (sta5 : Option Addr) (stk5 : Nat) (sta6 : Option Addr) (stk6 : Nat) (hst_0 : i64ok st.Phase) (hst_3 : i64ok st.At) (hst_4 : i64ok st.Edge) (hst_7 : i64ok st.Steps) (hc12 : st.Cone.length ≤ 12) (rr : List GKnown) (hrr : solver_Final st = rr) : FT Tryz.prog 63 #[.agg #[vi st.Phase, vl sta1 stk1 st.Cone, vl sta2 stk2 st.Leaf, vi st.At, vi st.Edge, vl sta5 stk5 st.Values, vl sta6 stk6 st.Queue, vi st.Steps]] [S sta1 stk1 st.Cone, S sta2 stk2 st.Leaf, S sta5 stk5 st.Values, S sta6 stk6 st.Queue] (fun g : Value => True) (fun g => g) (fun g => [sl g rr]) := by
 refine FTi Tryz.func63 fun w0 M0 F0 => ?_
 unfold i64ok at hst_0 hst_3 hst_4 hst_7
 refine Fb 8 0 fun hl1 => ?_
 refine Fo 0 fun ho2 => ?_
 refine Fb 1 1 fun hl3 => ?_
 refine Fb 32 2 fun hl4 => ?_
 refine Fb 8 3 fun hl5 => ?_
 refine Fo 3 fun ho6 => ?_
 refine KS ?_
 refine Oa (Ab [vi st.Phase, vl sta1 stk1 st.Cone, vl sta2 stk2 st.Leaf, vi st.At, vi st.Edge, vl sta5 stk5 st.Values, vl sta6 stk6 st.Queue, vi st.Steps]) fun p7 => Oq Va (KS ?_)
 refine Oq Va (KS ?_)
 refine Oq Va (KS ?_)
 refine Jl [] (Ent.osNil (α := GKnown)) ?_
 have hterm16 : solver_Final_L0 st (st.Cone.length + 1) [] 0 ≠ LR.oof := (pFinal_term _ _ _ _ (by omega))
 refine Kl (γ := Nat × List GKnown × Int × Option Addr × Nat) (fun (r8, out_9, i_10, a11, k12) => ⟨[(1, p7), (3, vl a11 k12 out_9), (4, vi i_10)], [O a11 k12 out_9, pv p7 [vi st.Phase, vl sta1 stk1 st.Cone, vl sta2 stk2 st.Leaf, vi st.At, vi st.Edge, vl sta5 stk5 st.Values, vl sta6 stk6 st.Queue, vi st.Steps], S sta1 stk1 st.Cone, S sta2 stk2 st.Leaf, S sta5 stk5 st.Values, S sta6 stk6 st.Queue], solver_Final_L0 st r8 out_9 i_10 = solver_Final_L0 st (st.Cone.length + 1) [] 0 ∧ (-9223372036854775808 ≤ i_10 ∧ i_10 ≤ 9223372036854775807) ∧ (i_10 ≤ (st.Cone.length : Int) ∧ (out_9.length : Int) ≤ i_10 ∧ 0 ≤ i_10), r8⟩) ((st.Cone.length + 1), [], 0, none, 0) [0, 0, 1, 2, 3, 4] ⟨rfl, (by omega), iv0⟩ ?_
 rintro ⟨r8, out_9, i_10, a11, k12⟩ ⟨hM13, hk14, hv15⟩
 refine JJ_nx fun _ _ hL hA => ?_; dsimp only at hL hA; subst hL hA
 refine Fb 40 0 fun hl17 => ?_
 refine Fb 8 2 fun hl18 => ?_
 refine Fo 2 fun ho19 => ?_
 refine Fb 1 3 fun hl20 => ?_
 refine Fb 32 4 fun hl21 => ?_
 refine Fb 8 5 fun hl22 => ?_
 refine Fo 5 fun ho23 => ?_
 rcases r8 with _ | r8
 · exact absurd (hM13.symm.trans rfl) hterm16
 refine KS ?_
 refine Oq (Vfa fo59_0 1) (Oq (VldF sh3 1) (Oq Veql (Oq Vm ?_)))
 refine Js 8 ?_ ?_
 · intro h24
   have g25 := eq_of_beq h24
   refine Oq Vm (Oq (Vfa fo59_1 1) (Oq (VldF sh22 1) (Oq (Vlen sl22) (Oq (Vfa fo59_2 1) (Oq (VldF sh57 1) (Oq (Vlen sl57) (Oq (Vfa fo59_5 1) (Oq (VldF sh25 1) (Oq (Vlen sl25) ?_)))))))))
   refine Oq Vmin3 (Oq Vlss (Oq Vpt (KS ?_)))
   refine Kc ?_ ?_
   · intro h26
     have g27 := of_decide_eq_true h26
     refine KS ?_
     refine Oq (Vfa fo59_2 1) (Oq (VldF sh57 1) (Oq Vm (Oq (Vi sl57 3) (Oq (VldB sh4 3) (Oq Vnot (KS ?_))))))
     refine Kc ?_ ?_
     · intro h28
       have h30 := not_true h28
       refine JJ_peek_GSet i_10.toNat 4 rfl rng fun a32 k33 hb34 => ?_
       unfold i64ok at hb34
       refine Fb 8 1 fun hl35 => ?_
       refine JK_drawK [0, 0, 2, 0, 14, 30, 0, 64, 0, 448, 960, 1984, 4094, 8190, 16383, 32767] fmix ?_
       refine Dv [] Vm (Dv [3] (Vfa fo59_1 0) (Dv [3] (VldF sh22 0) (Dv [] Vm (Dv [4] (Vi sl22 0) ?_))))
       have hb36 := ok1 (i := i_10.toNat) ho19 rng
       refine Dv [4] (VldI sh3 0) (Dv [3] (Vfa fo59_5 0) (Dv [3] (VldF sh25 0) (Dv [] Vm (Dv [6] (Vi sl25 0) (Dv [0] (VldA sh42 0) ?_)))))
       refine letv (solver_clone (st.Values.getD i_10.toNat default)) fun rv38 hg39 => ?_
       refine Dx [1] [] [2, 0, 1] (fun G => .agg #[vi rv38.Width, (G.g 11 0)]) [fun G => SP.fact (i64ok rv38.Width), fun G => os (G.g 11 0) rv38.Words] (fun G => xC [0] ca106 (fn106 ((st.Values.getD i_10.toNat default)) a32 k33 pre rv38 hg39)) ?_
       refine Dx [9] [] [0] (fun G => .agg #[vi (st.Cone.getD i_10.toNat 0), vi rv38.Width, (G.g 11 0)]) [] (fun G => xV (v := .agg #[vi (st.Cone.getD i_10.toNat 0), vi rv38.Width, (G.g 11 0)]) (Vo 0 rfl (isO_os _ _) fun aq40 kq41 eq42 => (by rw [eq42]; exact Vbd st67 [vi (st.Cone.getD i_10.toNat 0), vi rv38.Width, .slice aq40 ((rv38.Words : List (BitVec 64)).length) kq41]))) (Dx [] [] [0] (fun G => (G.g 13 0)) [fun G => Cr (G.g 13 0) 1 [vi (st.Cone.getD i_10.toNat 0), vi rv38.Width, (G.g 11 0)]] (fun G => xA (AsV sl53 sz53 [.agg #[vi (st.Cone.getD i_10.toNat 0), vi rv38.Width, (G.g 11 0)]] [vi (st.Cone.getD i_10.toNat 0), vi rv38.Width, (G.g 11 0)])) ?_)
       have hn45 := la out_9 ([(GKnown.mk (st.Cone.getD i_10.toNat 0) rv38)] : List GKnown)
       refine Dx [2, 8, 9, 10] [2, 9, 10] [3, 1, 0] (fun G => (G.g 14 0)) [fun G => sl (G.g 11 0) rv38.Words, fun G => os (G.g 14 0) ((out_9 ++ [(GKnown.mk (st.Cone.getD i_10.toNat 0) rv38)]) : List GKnown)] (fun G => by refine xf 1 rfl ?_; rintro he46; unfold i64ok at he46; exact xp [2] rfl (Ent.freeze _ _) (xp [3, 0] rfl (Ent.cr1 (α := GKnown) (A := [sl (G.g 11 0) rv38.Words]) _ (GKnown.mk (st.Cone.getD i_10.toNat 0) rv38) _ (Nat.le_of_ble_eq_true rfl) (fun h => ⟨_, rfl, (by unfold i64ok; first | omega | (dsimp only; omega)), (by unfold i64ok; first | omega | (dsimp only; omega)), sepAll_get (i := 0) rfl h⟩)) (xA (ApO [3, 0] sl53 sl53 sz53)))) (Dg [] (fun G => (G.g 14 0)) (fun G => Va) ?_)
       refine Dn ⟨by kernel_rfl, fun G => ?_⟩
       refine Jw2 [(1, p7), (4, vi i_10), (3, (G.g 14 0))] [0, 1, 3, 4, 5, 6, 7] [SP.fact (i64ok rv38.Width), sl (G.g 11 0) rv38.Words, os (G.g 14 0) ((out_9 ++ [(GKnown.mk (st.Cone.getD i_10.toNat 0) rv38)]) : List GKnown)] ?_
       generalize G.g 11 0 = c37, G.g 14 0 = c44
       refine Jf 7 rfl ?_; rintro he47
       unfold i64ok at he47
       refine Jk [0, 1, 2, 3, 4, 5, 6, 8, 9] ?_
       refine Jo 7 ?_; rintro a48 k49 rfl
       refine Fb 8 7 fun hl50 => ?_
       refine Jo 8 ?_; rintro a51 k52 rfl
       refine Fb 40 8 fun hl53 => ?_
       refine KS ?_
       refine Oq Vm (Oq Vadd (Oq Va (KS ?_)))
       exact Kg (r8, (out_9 ++ [(GKnown.mk (st.Cone.getD i_10.toNat 0) rv38)]), (i_10 + 1), a51, k52) [8, 2, 3, 4, 5, 6] ⟨(q3 hM13 (by simp only [solver_Final_L0, h24, h26, h28, h30, hg39, cs4])), (by omega), iv1⟩
     intro h28
     have h55 := not_false h28
     refine KS ?_
     refine Oq Vm (Oq Vadd (Oq Va (KS ?_)))
     exact Kg (r8, out_9, (i_10 + 1), a11, k12) [0, 0, 1, 2, 3, 4] ⟨(q3 hM13 (by simp only [solver_Final_L0, h24, h26, h28, h55, cs4])), (by omega), iv1⟩
   intro h26
   have g57 := of_decide_eq_false h26
   refine Ke ?_
   have hR58 := q2 hM13 (.brk out_9) (by simp only [solver_Final_L0, h24, h26, cs4])
   refine KS ?_
   refine Oq Vm ?_
   refine JJ_ent (Ent.pall [] rfl rfl) ?_
   refine letv (slices_SortStableFunc_Known out_9 (fun x0 x1 => solver_Final_1 x0 x1)) fun rv59 hg60 => ?_
   have hc61 := fn146 out_9 a11 k12 147 [] (fun x0 x1 => solver_Final_1 x0 x1) [] ca147 (fun x0 x1 a0 k0 a2 k2 hq0 hq1 hq2 hq3 => FT_pall (A1 := _) (fn147 x0 a0 k0 x1 a2 k2  hq0 hq1 hq2 hq3 _ rfl)) pre rv59 hg60
   refine Oc [1, 0] ca146 hc61 ?_
   rintro - -
   refine KS ?_
   refine Oq Vm (Oq Va (KS ?_))
   refine Jl [0] (Ent.freeze _ _) ?_
   have hq := q4 hrr rv59 (by simp only [solver_Final, h24, h26, hR58, hg60, cs4]); subst hq
   exact Kr (vl a11 k12 out_9) rfl (.tmp rfl .nil) [0] trivial
 intro h24
 have g62 := ne_of_beq_false h24
 refine Osk (Osk (Osk (Osk (Osk (Osk (Osk (Osk (Osk (Osk ?_)))))))))
 refine Osk (Osk (Oq Vpf (KS ?_)))
 refine Kf ?_
 refine Ke ?_
 have hR63 := q2 hM13 (.brk out_9) (by simp only [solver_Final_L0, h24, cs4])
 refine KS ?_
 refine Oq Vm ?_
 refine JJ_ent (Ent.pall [] rfl rfl) ?_
 refine letv (slices_SortStableFunc_Known out_9 (fun x0 x1 => solver_Final_1 x0 x1)) fun rv64 hg65 => ?_
 have hc66 := fn146 out_9 a11 k12 147 [] (fun x0 x1 => solver_Final_1 x0 x1) [] ca147 (fun x0 x1 a0 k0 a2 k2 hq0 hq1 hq2 hq3 => FT_pall (A1 := _) (fn147 x0 a0 k0 x1 a2 k2  hq0 hq1 hq2 hq3 _ rfl)) pre rv64 hg65
 refine Oc [1, 0] ca146 hc66 ?_
 rintro - -
 refine KS ?_
 refine Oq Vm (Oq Va (KS ?_))
 refine Jl [0] (Ent.freeze _ _) ?_
 have hq := q4 hrr rv64 (by simp only [solver_Final, h24, hR63, hg65, cs4]); subst hq
 exact Kr (vl a11 k12 out_9) rfl (.tmp rfl .nil) [0] trivial
theorem fn252 (x : Int) (y : Int) (hx_0 : i64ok x) (hy_0 : i64ok y) (rr : Bool) (hrr : cmp_Less_int x y = rr) : FT Tryz.prog 252 #[vi x, vi y] [] (fun g : Unit => True) (fun g => vb rr) (fun g => []) := by
 refine FTi Tryz.func252 fun w0 M0 F0 => ?_
 unfold i64ok at hx_0 hy_0
 refine KS ?_
 refine Oq Va (KS ?_)
 refine Oq Vm ?_
 refine letv (cmp_isNaN_int x) fun rv1 hg2 => ?_
 have hc3 := fn208 x pre rv1 hg2
 refine Oc [] ca208 hc3 ?_
 rintro - -
 refine Oq Vm ?_
 refine Js 7 ?_ ?_
 · intro h4
   refine Oq Vm ?_
   refine letv (cmp_isNaN_int y) fun rv6 hg7 => ?_
   have hc8 := fn208 y pre rv6 hg7
   refine Oc [] ca208 hc8 ?_
   rintro - -
   refine Oq Vnot (Oq Vpt (Oq Vm ?_))
   refine Js 12 ?_ ?_
   · intro h9
     have h11 := not_true h9
     refine Osk (Osk (Osk (Oq Vpt (Oq Va (KS ?_)))))
     have hq := q4 hrr true (by simp only [cmp_Less_int, h4, h9, h11, hg2, hg7, cs4]); subst hq
     exact Kr () rfl (.tmp rfl .nil) [] trivial
   intro h9
   have h14 := not_false h9
   refine Oq Vm (Oq Vm (Oq Vlss (Oq Vpf (Oq Va (KS ?_)))))
   have hq := q4 hrr (decide (x < y)) (by simp only [cmp_Less_int, h4, h9, h14, hg2, hg7, cs4]); subst hq
   exact Kr () rfl (.tmp rfl .nil) [] trivial
 intro h4
 refine Osk (Osk (Osk (Oq Vpf (Oq Vm (Oq Vm (Oq Vm (Oq Vlss (Oq Vpf (Oq Va ?_)))))))))
 refine KS ?_
 have hq := q4 hrr (decide (x < y)) (by simp only [cmp_Less_int, h4, hg2, cs4]); subst hq
 exact Kr () rfl (.tmp rfl .nil) [] trivial
theorem fn246 (data : List Int) (dataa0 : Option Addr) (datak0 : Nat) (a : Int) (b : Int) (ha_0 : i64ok a) (hb_0 : i64ok b) (ha0 : 0 ≤ a ∧ a ≤ b ∧ b ≤ (data.length : Int)) (rr : List Int) (hrr : slices_insertionSortOrdered_int data a b = rr) : FT Tryz.prog 246 #[vl dataa0 datak0 data, vi a, vi b] [O dataa0 datak0 data] (fun g : Unit => True) (fun g => .tuple #[]) (fun g => [os (vl dataa0 datak0 data) rr]) := by
 refine FTi Tryz.func246 fun w0 M0 F0 => ?_
 unfold i64ok at ha_0 hb_0
 refine Fb 8 0 fun hl1 => ?_
 refine Fo 0 fun ho2 => ?_
 refine KS ?_
 refine Oq Vm (Oq Vadd (Oq Va (KS ?_)))
 refine Kl (γ := Nat × List Int × Int) (fun (r3, data_4, i_5) => ⟨[(0, vl dataa0 datak0 data), (1, vi a), (2, vi b), (6, vi i_5)], [os (vl dataa0 datak0 data) data_4], slices_insertionSortOrdered_int_L0 a r3 data_4 i_5 = slices_insertionSortOrdered_int_L0 a (((b : Int) - (a + 1)).toNat) data (a + 1) ∧ r3 = ((b : Int) - i_5).toNat ∧ ((a + 1) : Int) ≤ i_5 ∧ (i_5 ≤ b ∨ i_5 = (a + 1)) ∧ (-9223372036854775808 ≤ i_5 ∧ i_5 ≤ 9223372036854775807), r3⟩) (((b : Int) - (a + 1)).toNat, data, (a + 1)) [0] ⟨rfl, rfl, (by omega), (.inr rfl), (by omega)⟩ ?_
 rintro ⟨r3, data_4, i_5⟩ ⟨hM6, hr7, hi8, hi9, hk10⟩
 refine JJ_nx fun _ _ hL hA => ?_; dsimp only at hL hA; subst hL hA
 refine Fb 8 0 fun hl11 => ?_
 refine Fo 0 fun ho12 => ?_
 refine Fl 0 fun hn13 => ?_
 refine KS ?_
 refine Oq Vm (Oq Vm (Oq Vlss (KS ?_)))
 refine Kc ?_ ?_
 · intro h14
   have g15 := of_decide_eq_true h14
   obtain ⟨r16, rfl⟩ := scc (n := r3) (by omega)
   refine KS ?_
   refine Oq Vm (Oq Va (KS ?_))
   refine Kl (γ := Nat × List Int × Int) (fun (r17, data_18, j_19) => ⟨[(0, vl dataa0 datak0 data), (1, vi a), (2, vi b), (6, vi i_5), (7, vi j_19)], [os (vl dataa0 datak0 data) data_18], slices_insertionSortOrdered_int_L1 r17 data_18 j_19 = slices_insertionSortOrdered_int_L1 (((i_5 : Int) - a).toNat) data_4 i_5 ∧ r17 = ((j_19 : Int) - a).toNat ∧ j_19 ≤ (i_5 : Int) ∧ (-9223372036854775808 ≤ j_19 ∧ j_19 ≤ 9223372036854775807), r17⟩) (((i_5 : Int) - a).toNat, data_4, i_5) [0] ⟨rfl, rfl, (by omega), (by omega)⟩ ?_
   rintro ⟨r17, data_18, j_19⟩ ⟨hM20, hr21, hi22, hk23⟩
   refine JJ_nx fun _ _ hL hA => ?_; dsimp only at hL hA; subst hL hA
   refine Fb 8 0 fun hl24 => ?_
   refine Fo 0 fun ho25 => ?_
   refine Fl 0 fun hn26 => ?_
   refine KS ?_
   refine JK_drawK [0, 0, 3, 7, 15, 15, 63, 127, 15, 15, 527, 1807, 3855, 8191, 16383] fmix ?_
   refine Dv [] Vm (Dv [] Vm (Dv [] Vgtr ?_))
   refine bool_split (decide (a < j_19)) ?_ ?_
   · intro h27
     have g28 := of_decide_eq_true h27
     obtain ⟨r29, rfl⟩ := scc (n := r17) (by omega)
     refine Db h27 [] Vm (Dv [] Vm (Dv [] Vm (Dv [0] (Vi sl22 0) ?_)))
     have hb30 := ok1 (i := j_19.toNat) ho25 rng
     refine Dv [0] (VldI sh3 0) (Dv [] Vm (Dv [] Vm (Dv [] Vsub (Dv [0] (Vi sl22 0) ?_))))
     have hb31 := ok1 (i := ((j_19 - 1) : Int).toNat) ho25 rng
     refine Dv [0] (VldI sh3 0) ?_
     refine letv (cmp_Less_int (data_18.getD j_19.toNat 0) (data_18.getD ((j_19 - 1) : Int).toNat 0)) fun rv32 hg33 => ?_
     refine Dx [] [] [0] (fun G => vb rv32) [fun G => SP.fact (True)] (fun G => xC [] ca252 (fn252 ((data_18.getD j_19.toNat 0)) ((data_18.getD ((j_19 - 1) : Int).toNat 0)) pre pre rv32 hg33)) (Dv [] Vpt ?_)
     refine Dn ⟨by kernel_rfl, fun G => ?_⟩
     refine Jw2 [(0, vl dataa0 datak0 data), (1, vi a), (2, vi b), (6, vi i_5), (7, vi j_19), (30, vb rv32)] [0] [SP.fact (True)] ?_
     refine Jk [0] ?_
     refine Kc ?_ ?_
     · intro h34
       refine KS ?_
       refine JK_drawK [0, 0, 0, 0, 8, 0, 0, 64, 224, 480, 0, 0, 3072, 7168, 16355, 32739, 65535, 131071] fmix ?_
       refine Dv [] Vm (Dv [] Vm (Dv [] Vm (Dv [] Vm (Dv [] Vsub (Dv [] Vm (Dv [] Vm (Dv [] Vsub (Dv [0] (Vi sl22 0) ?_))))))))
       have hb36 := ok1 (i := ((j_19 - 1) : Int).toNat) ho25 rng
       refine Dv [0] (VldI sh3 0) (Dv [] Vm (Dv [] Vm (Dv [0] (Vi sl22 0) ?_)))
       have hb37 := ok1 (i := j_19.toNat) ho25 rng
       refine Dv [0] (VldI sh3 0) (Dv [0] (Vi sl22 0) (Dx0 [0] [0] [0] [fun G => os (vl dataa0 datak0 data) (data_18.set j_19.toNat (data_18.getD ((j_19 - 1) : Int).toNat 0))] (fun G => xS (SoI [0] sh3)) (Dv [1] (Vi sl22 0) (Dx0 [1] [1] [0] [fun G => os (vl dataa0 datak0 data) ((data_18.set j_19.toNat (data_18.getD ((j_19 - 1) : Int).toNat 0)).set ((j_19 - 1) : Int).toNat (data_18.getD j_19.toNat 0))] (fun G => xS (SoI [0] sh3)) ?_))))
       refine Dn ⟨by kernel_rfl, fun G => ?_⟩
       refine Jw2 [(0, vl dataa0 datak0 data), (1, vi a), (2, vi b), (6, vi i_5), (7, vi j_19)] [] [os (vl dataa0 datak0 data) ((data_18.set j_19.toNat (data_18.getD ((j_19 - 1) : Int).toNat 0)).set ((j_19 - 1) : Int).toNat (data_18.getD j_19.toNat 0))] ?_
       refine KS ?_
       refine Oq Vm (Oq Vsub (Oq Va (KS ?_)))
       exact Kg (r29, ((data_18.set j_19.toNat (data_18.getD ((j_19 - 1) : Int).toNat 0)).set ((j_19 - 1) : Int).toNat (data_18.getD j_19.toNat 0)), (j_19 - 1)) [0] ⟨(q3 hM20 (by simp only [slices_insertionSortOrdered_int_L1, h14, h27, h34, hg33, cs4])), (by omega), (by omega), (by omega)⟩
     intro h34
     refine Ke ?_
     have hR39 := q2 hM20 data_18 (by simp only [slices_insertionSortOrdered_int_L1, h14, h27, h34, hg33, cs4])
     refine KS ?_
     refine Oq Vm (Oq Vadd (Oq Va (KS ?_)))
     exact Kg (r16, data_18, (i_5 + 1)) [0] ⟨(q3 hM6 (by simp only [slices_insertionSortOrdered_int_L0, h14, h27, h34, hg33, hR39, cs4])), (by omega), (by omega), (by omega), (by omega)⟩
   intro h27
   have g40 := of_decide_eq_false h27
   obtain rfl : r17 = 0 := by omega
   refine Db h27 [] Vm (Ds (Ds (Ds (Ds (Ds (Ds (Ds (Ds (Ds ?_)))))))))
   refine Ds (Dv [] Vpf ?_)
   refine Dn ⟨by kernel_rfl, fun G => ?_⟩
   refine Jw2 [(0, vl dataa0 datak0 data), (1, vi a), (2, vi b), (6, vi i_5), (7, vi j_19), (30, vb false)] [0] [] ?_
   refine Kf ?_
   refine Ke ?_
   have hR41 := q2 hM20 data_18 (by simp only [slices_insertionSortOrdered_int_L1, h14, h27, cs4])
   refine KS ?_
   refine Oq Vm (Oq Vadd (Oq Va (KS ?_)))
   exact Kg (r16, data_18, (i_5 + 1)) [0] ⟨(q3 hM6 (by simp only [slices_insertionSortOrdered_int_L0, h14, h27, hR41, cs4])), (by omega), (by omega), (by omega), (by omega)⟩
 intro h14
 have g42 := of_decide_eq_false h14
 obtain rfl : r3 = 0 := by omega
 refine Ke ?_
 have hR43 := q2 hM6 data_4 (by simp only [slices_insertionSortOrdered_int_L0, h14, cs4])
 have hq := q4 hrr data_4 (by simp only [slices_insertionSortOrdered_int, h14, hR43, cs4]); subst hq
 exact Kz () rfl .nil [0] trivial
theorem fn203 (data : List Int) (dataa0 : Option Addr) (datak0 : Nat) (a : Int) (b : Int) (limit : Int) (ha_0 : i64ok a) (hb_0 : i64ok b) (hlimit_0 : i64ok limit) (ha0 : 0 ≤ a ∧ a ≤ b ∧ b ≤ (data.length : Int) ∧ b - a ≤ 12) (rr : List Int) (hrr : slices_pdqsortOrdered_int data a b limit = rr) : FT Tryz.prog 203 #[vl dataa0 datak0 data, vi a, vi b, vi limit] [O dataa0 datak0 data] (fun g : Unit => True) (fun g => .tuple #[]) (fun g => [os (vl dataa0 datak0 data) rr]) := by
 refine FTi Tryz.func203 fun w0 M0 F0 => ?_
 unfold i64ok at ha_0 hb_0 hlimit_0
 refine Fb 8 0 fun hl1 => ?_
 refine Fo 0 fun ho2 => ?_
 refine KS ?_
 refine Oq Va (KS ?_)
 refine Oq Va (KS ?_)
 have hterm5 : slices_pdqsortOrdered_int_L0 data a b 1 ≠ LR.oof := (by unfold slices_pdqsortOrdered_int_L0; intro h; simp only [Bool.cond_eq_ite] at h; (repeat' split at h) <;> cases h)
 refine Kl (γ := Nat) (fun r3 => ⟨[(0, vl dataa0 datak0 data), (1, vi a), (2, vi b), (3, vi limit), (8, vb true), (9, vb true)], [O dataa0 datak0 data], slices_pdqsortOrdered_int_L0 data a b r3 = slices_pdqsortOrdered_int_L0 data a b 1, r3⟩) 1 [0] rfl ?_
 rintro r3 hM4
 refine JJ_nx fun _ _ hL hA => ?_; dsimp only at hL hA; subst hL hA
 refine Fb 8 0 fun hl6 => ?_
 refine Fo 0 fun ho7 => ?_
 rcases r3 with _ | r3
 · exact absurd (hM4.symm.trans rfl) hterm5
 refine KS ?_
 refine Oq Vm (Oq Vm (Oq Vsub (Oq Va (KS ?_))))
 refine Oq Vm (Oq Vleq (KS ?_))
 refine Kc ?_ ?_
 · intro h8
   have g9 := of_decide_eq_true h8
   refine KS ?_
   refine Oq Vm (Oq Vm (Oq Vm ?_))
   refine letv (slices_insertionSortOrdered_int data a b) fun rv10 hg11 => ?_
   have hc12 := fn246 data dataa0 datak0 a b pre pre pre rv10 hg11
   refine Oc [0] ca246 hc12 ?_
   rintro - -
   refine KS ?_
   have hR13 := q2 hM4 (.ret rv10) (by simp only [slices_pdqsortOrdered_int_L0, h8, hg11, cs4])
   have hq := q4 hrr rv10 (by simp only [slices_pdqsortOrdered_int, h8, hg11, hR13, cs4]); subst hq
   exact Kr () rfl .nil [0] trivial
 intro h8
 have g14 := of_decide_eq_false h8
 exfalso; omega
theorem fn256 (x : BitVec 64) (hx0 : x.toNat ≤ 255) (rr : Int) (hrr : bits_Len64 x = rr) : FT Tryz.prog 256 #[u64 x] [] (fun g : Unit => i64ok rr) (fun g => vi rr) (fun g => []) := by
 refine FTi Tryz.func256 fun w0 M0 F0 => ?_
 refine KS ?_
 refine Oq Va (KS ?_)
 refine Oq Vm (Oq (Vgeq (a := (x.toNat : Int)) (b := 4294967296)) (KS ?_))
 refine Kc ?_ ?_
 · intro h1
   have g2 := of_decide_eq_true h1
   exfalso; omega
 intro h1
 have g3 := of_decide_eq_false h1
 refine KS ?_
 refine Oq Vm (Oq (Vgeq (a := (x.toNat : Int)) (b := 65536)) (KS ?_))
 refine Kc ?_ ?_
 · intro h4
   have g5 := of_decide_eq_true h4
   exfalso; omega
 intro h4
 have g6 := of_decide_eq_false h4
 refine KS ?_
 refine Oq Vm (Oq (Vgeq (a := (x.toNat : Int)) (b := 256)) (KS ?_))
 refine Kc ?_ ?_
 · intro h7
   have g8 := of_decide_eq_true h7
   exfalso; omega
 intro h7
 have g9 := of_decide_eq_false h7
 refine KS ?_
 refine Oq Vm (Oq Vm (Oq (VcU8 un122 un5) ?_))
 refine Oq (Vix un9 (l := tab0) (h := ⟨by omega, by rw [show tab0.length = 256 from rfl]; omega⟩)) ?_
 have hb10 := u8b (tab0.getD ((x.toNat : Int) : Int).toNat 0)
 refine Oq (VcK un5 un3) (Oq Vadd (Oq Va (KS ?_)))
 have hq := q4 hrr (0 + ((tab0.getD ((x.toNat : Int) : Int).toNat 0).toNat : Int)) (by simp only [bits_Len64, h1, h4, h7, cs4]); subst hq
 exact Kr () rfl (.tmp rfl .nil) [] en
theorem fn204 (x : BitVec 64) (hx0 : x.toNat ≤ 255) (rr : Int) (hrr : bits_Len x = rr) : FT Tryz.prog 204 #[u64 x] [] (fun g : Unit => i64ok rr) (fun g => vi rr) (fun g => []) := by
 refine FTi Tryz.func204 fun w0 M0 F0 => ?_
 refine KS ?_
 refine Oq Va (KS ?_)
 refine Kf ?_
 refine KS ?_
 refine Oq Vm ?_
 refine letv (bits_Len64 x) fun rv1 hg2 => ?_
 have hc3 := fn256 x pre rv1 hg2
 refine Oc [] ca256 hc3 ?_
 rintro - he4
 unfold i64ok at he4
 refine Oq Va (KS ?_)
 have hq := q4 hrr rv1 (by simp only [bits_Len, hg2, cs4]); subst hq
 exact Kr () rfl (.tmp rfl .nil) [] en
theorem fn130 (x : List Int) (xa0 : Option Addr) (xk0 : Nat) (ha0 : x.length ≤ 12) (rr : List Int) (hrr : slices_Sort_int x = rr) : FT Tryz.prog 130 #[vl xa0 xk0 x] [O xa0 xk0 x] (fun g : Unit => True) (fun g => .tuple #[]) (fun g => [os (vl xa0 xk0 x) rr]) := by
 refine FTi Tryz.func130 fun w0 M0 F0 => ?_
 refine Fb 8 0 fun hl1 => ?_
 refine Fo 0 fun ho2 => ?_
 refine KS ?_
 refine Oq Vm (Oq (Vlen sl22) (Oq Va (KS ?_)))
 refine Oq Vm (Oq Vm (Oq Vm (Oq (VcU un3 un123) ?_)))
 refine letv (bits_Len (BitVec.ofInt 64 (x.length : Int))) fun rv3 hg4 => ?_
 have hc5 := fn204 ((BitVec.ofInt 64 (x.length : Int))) (ofInt_le (by omega)) rv3 hg4
 refine Oc [] ca204 hc5 ?_
 rintro - he6
 unfold i64ok at he6
 refine letv (slices_pdqsortOrdered_int x 0 (x.length : Int) rv3) fun rv7 hg8 => ?_
 have hc9 := fn203 x xa0 xk0 0 ((x.length : Int)) rv3 pre pre pre pre rv7 hg8
 refine Oc [0] ca203 hc9 ?_
 rintro - -
 refine KS ?_
 have hq := q4 hrr rv7 (by simp only [slices_Sort_int, hg4, hg8, cs4]); subst hq
 exact Kz () rfl .nil [0] trivial
theorem fn64 (st : GState) (sta1 : Option Addr) (stk1 : Nat) (sta2 : Option Addr) (stk2 : Nat) (sta5 : Option Addr) (stk5 : Nat) (sta6 : Option Addr) (stk6 : Nat) (hst_0 : i64ok st.Phase) (hst_3 : i64ok st.At) (hst_4 : i64ok st.Edge) (hst_7 : i64ok st.Steps) (hc12 : st.Cone.length ≤ 12) (rr : List Int) (hrr : solver_Used st = rr) : FT Tryz.prog 64 #[.agg #[vi st.Phase, vl sta1 stk1 st.Cone, vl sta2 stk2 st.Leaf, vi st.At, vi st.Edge, vl sta5 stk5 st.Values, vl sta6 stk6 st.Queue, vi st.Steps]] [S sta1 stk1 st.Cone, S sta2 stk2 st.Leaf, S sta5 stk5 st.Values, S sta6 stk6 st.Queue] (fun g : Value => True) (fun g => g) (fun g => [sl g rr]) := by
 refine FTi Tryz.func64 fun w0 M0 F0 => ?_
 unfold i64ok at hst_0 hst_3 hst_4 hst_7
 refine Fb 8 0 fun hl1 => ?_
 refine Fo 0 fun ho2 => ?_
 refine Fb 1 1 fun hl3 => ?_
 refine Fb 32 2 fun hl4 => ?_
 refine Fb 8 3 fun hl5 => ?_
 refine Fo 3 fun ho6 => ?_
 refine KS ?_
 refine Oa (Ab [vi st.Phase, vl sta1 stk1 st.Cone, vl sta2 stk2 st.Leaf, vi st.At, vi st.Edge, vl sta5 stk5 st.Values, vl sta6 stk6 st.Queue, vi st.Steps]) fun p7 => Oq Va (KS ?_)
 refine Oq Va (KS ?_)
 refine Oq Va (KS ?_)
 refine Jl [] (Ent.osNil (α := Int)) ?_
 have hterm16 : solver_Used_L0 st (st.Cone.length + 1) [] 0 ≠ LR.oof := (pUsed_term _ _ _ _ (by omega))
 refine Kl (γ := Nat × List Int × Int × Option Addr × Nat) (fun (r8, out_9, i_10, a11, k12) => ⟨[(1, p7), (3, vl a11 k12 out_9), (4, vi i_10)], [O a11 k12 out_9, pv p7 [vi st.Phase, vl sta1 stk1 st.Cone, vl sta2 stk2 st.Leaf, vi st.At, vi st.Edge, vl sta5 stk5 st.Values, vl sta6 stk6 st.Queue, vi st.Steps], S sta1 stk1 st.Cone, S sta2 stk2 st.Leaf, S sta5 stk5 st.Values, S sta6 stk6 st.Queue], solver_Used_L0 st r8 out_9 i_10 = solver_Used_L0 st (st.Cone.length + 1) [] 0 ∧ (-9223372036854775808 ≤ i_10 ∧ i_10 ≤ 9223372036854775807) ∧ (i_10 ≤ (st.Cone.length : Int) ∧ (out_9.length : Int) ≤ i_10 ∧ 0 ≤ i_10), r8⟩) ((st.Cone.length + 1), [], 0, none, 0) [0, 0, 1, 2, 3, 4] ⟨rfl, (by omega), iv0⟩ ?_
 rintro ⟨r8, out_9, i_10, a11, k12⟩ ⟨hM13, hk14, hv15⟩
 refine JJ_nx fun _ _ hL hA => ?_; dsimp only at hL hA; subst hL hA
 refine Fb 8 0 fun hl17 => ?_
 refine Fo 0 fun ho18 => ?_
 refine Fb 8 2 fun hl19 => ?_
 refine Fo 2 fun ho20 => ?_
 refine Fb 1 3 fun hl21 => ?_
 refine Fb 32 4 fun hl22 => ?_
 refine Fb 8 5 fun hl23 => ?_
 refine Fo 5 fun ho24 => ?_
 rcases r8 with _ | r8
 · exact absurd (hM13.symm.trans rfl) hterm16
 refine KS ?_
 refine Oq (Vfa fo59_0 1) (Oq (VldF sh3 1) (Oq Veql (Oq Vm ?_)))
 refine Js 8 ?_ ?_
 · intro h25
   have g26 := eq_of_beq h25
   refine Oq Vm (Oq (Vfa fo59_1 1) (Oq (VldF sh22 1) (Oq (Vlen sl22) (Oq (Vfa fo59_2 1) (Oq (VldF sh57 1) (Oq (Vlen sl57) (Oq Vmin (Oq Vlss (Oq Vpt ?_)))))))))
   refine KS ?_
   refine Kc ?_ ?_
   · intro h27
     have g28 := of_decide_eq_true h27
     refine KS ?_
     refine Oq (Vfa fo59_2 1) (Oq (VldF sh57 1) (Oq Vm (Oq (Vi sl57 3) (Oq (VldB sh4 3) (KS ?_)))))
     refine Kc ?_ ?_
     · intro h29
       refine KS ?_
       refine Oq Vm (Oq (Vfa fo59_1 1) (Oq (VldF sh22 1) (Oq Vm (Oq (Vi sl22 2) ?_))))
       have hb31 := ok1 (i := i_10.toNat) ho20 rng
       refine Oq (VldI sh3 2) (Oa (AsV sl22 sz22 [vi (st.Cone.getD i_10.toNat 0)] [vi (st.Cone.getD i_10.toNat 0)]) fun c32 => ?_)
       refine Jo 0 ?_; rintro a33 k34 rfl
       refine Jl [0] (Ent.crInt _ [(st.Cone.getD i_10.toNat 0)] _ _ rfl rfl (by intro x hx; rw [List.mem_singleton] at hx; subst hx; unfold i64ok; omega) (Nat.le_of_ble_eq_true rfl)) ?_
       refine Oa (ApO [1, 0] sl22 sl22 sz22) fun c35 => ?_
       refine Jo 0 ?_; rintro a36 k37 rfl
       refine Fb 8 0 fun hl38 => ?_
       refine Fo 0 fun ho39 => ?_
       have hn40 := la out_9 ([(st.Cone.getD i_10.toNat 0)] : List Int)
       refine Oq Va (KS ?_)
       refine Oq Vm (Oq Vadd (Oq Va (KS ?_)))
       exact Kg (r8, (out_9 ++ [(st.Cone.getD i_10.toNat 0)]), (i_10 + 1), a36, k37) [0, 0, 1, 2, 3, 4] ⟨(q3 hM13 (by simp only [solver_Used_L0, h25, h27, h29, cs4])), (by omega), iv1⟩
     intro h29
     refine KS ?_
     refine Oq Vm (Oq Vadd (Oq Va (KS ?_)))
     exact Kg (r8, out_9, (i_10 + 1), a11, k12) [0, 0, 1, 2, 3, 4] ⟨(q3 hM13 (by simp only [solver_Used_L0, h25, h27, h29, cs4])), (by omega), iv1⟩
   intro h27
   have g42 := of_decide_eq_false h27
   refine Ke ?_
   have hR43 := q2 hM13 (.brk out_9) (by simp only [solver_Used_L0, h25, h27, cs4])
   refine KS ?_
   refine Oq Vm ?_
   refine letv (slices_Sort_int out_9) fun rv44 hg45 => ?_
   have hc46 := fn130 out_9 a11 k12 pre rv44 hg45
   refine Oc [0] ca130 hc46 ?_
   rintro - -
   refine KS ?_
   refine Oq Vm (Oq Va (KS ?_))
   refine Jl [0] (Ent.freeze _ _) ?_
   have hq := q4 hrr rv44 (by simp only [solver_Used, h25, h27, hR43, hg45, cs4]); subst hq
   exact Kr (vl a11 k12 out_9) rfl (.tmp rfl .nil) [0] trivial
 intro h25
 have g47 := ne_of_beq_false h25
 refine Osk (Osk (Osk (Osk (Osk (Osk (Osk (Osk (Osk (Oq Vpf ?_)))))))))
 refine KS ?_
 refine Kf ?_
 refine Ke ?_
 have hR48 := q2 hM13 (.brk out_9) (by simp only [solver_Used_L0, h25, cs4])
 refine KS ?_
 refine Oq Vm ?_
 refine letv (slices_Sort_int out_9) fun rv49 hg50 => ?_
 have hc51 := fn130 out_9 a11 k12 pre rv49 hg50
 refine Oc [0] ca130 hc51 ?_
 rintro - -
 refine KS ?_
 refine Oq Vm (Oq Va (KS ?_))
 refine Jl [0] (Ent.freeze _ _) ?_
 have hq := q4 hrr rv49 (by simp only [solver_Used, h25, hR48, hg50, cs4]); subst hq
 exact Kr (vl a11 k12 out_9) rfl (.tmp rfl .nil) [0] trivial
theorem fn15 (t : List Int) (ta0 : Option Addr) (tk0 : Nat) (rr : Bool) (hrr : flqlaw15_SolverLeaf t = rr) : FT Tryz.prog 15 #[vl ta0 tk0 t] [S ta0 tk0 t] (fun g : Unit => True) (fun g => vb rr) (fun g => []) := by
 refine FTi Tryz.func15 fun w0 M0 F0 => ?_
 refine Fb 8 0 fun hl1 => ?_
 refine Fo 0 fun ho2 => ?_
 refine KS ?_
 refine Oq Va (KS ?_)
 refine Oq Vm ?_
 refine letv (flqgen_New t) fun rv4 hg5 => ?_
 have hc6 := fn17 t ta0 tk0 rv4 hg5
 refine Oc [0] ca17 hc6 ?_
 rintro c3 -
 refine Oq Va (KS ?_)
 refine Oq Vm ?_
 refine letv (Tape_System t 0 6) fun rv10 hg11 => ?_
 have hc12 := fn18 c3 ta0 tk0 t 0 6 pre pre pre rv10 hg11
 refine Oc [0, 0] ca18 hc12 ?_
 rintro ⟨c7, c8, c9⟩ ⟨he13, he14, he15⟩
 unfold i64ok at he13
 refine Jo 0 ?_; rintro a16 k17 rfl
 refine Fb 24 0 fun hl18 => ?_
 refine Jo 1 ?_; rintro a19 k20 rfl
 refine Fb 88 1 fun hl21 => ?_
 refine Jo 2 ?_; rintro a22 k23 rfl
 refine Fb 32 2 fun hl24 => ?_
 have hds := System_facts (by assumption : Tape_System t 0 6 = rv10) (by omega)
 obtain ⟨hd1, hd2, hd3⟩ := hds
 have hv1 := hd1.n
 have hv2 := hd1.tl
 have hv3 := hd1.bl
 have hv4 := hd1.w
 have hv5 := hd1.dep_len
 refine Oa (Al ze27 [vi 0, .slice none 0 0, .slice none 0 0, .slice none 0 0]) fun p25 => Ost (Scl [0] sh27 [vi rv10.1.Width, vl a16 k17 rv10.1.Deps, vl a19 k20 rv10.1.Transfers, vl a22 k23 rv10.1.Boundary]) (KS ?_)
 refine Oq Vm (Oq (Vfa fo27_1 0) (Oq (VldF sh23 0) (Oq (Vlen sl23) ?_)))
 refine letv (Tape_Next t rv10.2 (rv10.1.Deps.length : Int)) fun rv26 hg27 => ?_
 have hc28 := fn19 c3 ta0 tk0 t rv10.2 ((rv10.1.Deps.length : Int)) pre pre rv26 hg27
 refine Oc [4, 4] ca19 hc28 ?_
 rintro - ⟨he29, he30, he31⟩
 unfold i64ok at he29
 refine Oq Va (KS ?_)
 refine Oq Vm (Oq (Vfa fo27_0 1) (Oq (VldF sh3 1) ?_))
 refine letv (Tape_Set t rv26.2 rv10.1.Width) fun rv33 hg34 => ?_
 have hc35 := fn23 c3 ta0 tk0 t rv26.2 rv10.1.Width pre pre pre rv33 hg34
 refine Oc [0, 4] ca23 hc35 ?_
 rintro c32 ⟨he36, he37, he38, he39⟩
 unfold i64ok at he36
 refine Jo 0 ?_; rintro a40 k41 rfl
 refine Fb 8 0 fun hl42 => ?_
 refine Oa (Al ze42 [vi 0, .slice none 0 0]) fun p43 => Ost (Scl [0] sh42 [vi rv33.1.Width, vl a40 k41 rv33.1.Words]) (KS ?_)
 refine JK_drawK [0, 0, 0, 6, 14, 0, 32, 127, 255, 511, 511, 511, 0, 5119, 14335, 32767] fmix ?_
 refine Dv [3] (VldA sh27 0) (Dv [] Vm (Dv [0] (VldA sh42 0) (Dv [] (Vbd st67 [vi rv26.1, vi rv33.1.Width, vl a40 k41 rv33.1.Words]) (Dx [] [] [0] (fun G => (G.g 4 0)) [fun G => Cr (G.g 4 0) 1 [vi rv26.1, vi rv33.1.Width, vl a40 k41 rv33.1.Words]] (fun G => xA (AsV sl53 sz53 [.agg #[vi rv26.1, vi rv33.1.Width, vl a40 k41 rv33.1.Words]] [vi rv26.1, vi rv33.1.Width, vl a40 k41 rv33.1.Words])) (Dv [] Vm ?_)))))
 refine letv (solver_Start rv26.1) fun rv49 hg50 => ?_
 refine Dx [] [] [0, 1, 2, 3, 4] (fun G => .agg #[vi rv49.Phase, (G.g 6 0), (G.g 6 1), vi rv49.At, vi rv49.Edge, (G.g 6 2), (G.g 6 3), vi rv49.Steps]) [fun G => SP.fact (i64ok rv49.Phase ∧ i64ok rv49.At ∧ i64ok rv49.Edge ∧ i64ok rv49.Steps), fun G => sl (G.g 6 0) rv49.Cone, fun G => sl (G.g 6 1) rv49.Leaf, fun G => sl (G.g 6 2) rv49.Values, fun G => sl (G.g 6 3) rv49.Queue] (fun G => xC [] ca38 (fn38 rv26.1 pre rv49 hg50)) ?_
 refine letv (solver_Run rv10.1 [(GKnown.mk rv26.1 rv33.1)] rv49 2) fun rv70 hg71 => ?_
 refine Dx [1, 4, 5, 6, 8, 9, 10, 11, 12, 13] [1, 8] [8, 9, 10, 11, 12, 13, 14, 15, 6, 5, 0, 1, 2, 3, 4] (fun G => .tuple #[.agg #[vi rv70.1.Phase, (G.g 7 0), (G.g 7 1), vi rv70.1.At, vi rv70.1.Edge, (G.g 7 2), (G.g 7 3), vi rv70.1.Steps], vi rv70.2.1, vi rv70.2.2]) [fun G => S a40 k41 rv33.1.Words, fun G => sl (G.g 4 0) ([(GKnown.mk rv26.1 rv33.1)] : List GKnown), fun G => SP.fact (i64ok rv70.1.Phase ∧ i64ok rv70.1.At ∧ i64ok rv70.1.Edge ∧ i64ok rv70.1.Steps ∧ i64ok rv70.2.1 ∧ i64ok rv70.2.2 ∧ (0 ≤ rv70.2.1 ∧ rv70.2.1 ≤ 8000000000) ∧ (rv70.1.Cone.length ≤ 256)), fun G => sl (G.g 7 0) rv70.1.Cone, fun G => sl (G.g 7 1) rv70.1.Leaf, fun G => sl (G.g 7 2) rv70.1.Values, fun G => sl (G.g 7 3) rv70.1.Queue] (fun G => by refine xf 5 rfl ?_; rintro ⟨he72, he73, he74, he75⟩; unfold i64ok at he72 he73 he74 he75; exact xp [0] rfl (Ent.freeze _ _) (xp [4, 0] rfl (Ent.cr1 (α := GKnown) (A := [S a40 k41 rv33.1.Words]) _ (GKnown.mk rv26.1 rv33.1) _ (Nat.le_of_ble_eq_true rfl) (fun h => ⟨_, rfl, (by unfold i64ok; first | omega | (dsimp only; omega)), (by unfold i64ok; first | omega | (dsimp only; omega)), sepAll_get (i := 0) rfl h⟩)) (xp [0] rfl (Ent.freeze _ _) (xD [10, 9, 8, 7, 0, 3, 4, 5] ca35 rfl rfl rfl (FT_open (γ := Value × Value × Value × Value) (I := fun g => i64ok rv70.1.Phase ∧ i64ok rv70.1.At ∧ i64ok rv70.1.Edge ∧ i64ok rv70.1.Steps ∧ i64ok rv70.2.1 ∧ i64ok rv70.2.2 ∧ (0 ≤ rv70.2.1 ∧ rv70.2.1 ≤ 8000000000) ∧ (rv70.1.Cone.length ≤ 256)) (V := fun g => .tuple #[.agg #[vi rv70.1.Phase, g.1, g.2.1, vi rv70.1.At, vi rv70.1.Edge, g.2.2.1, g.2.2.2, vi rv70.1.Steps], vi rv70.2.1, vi rv70.2.2]) (B := fun g => [sl g.1 rv70.1.Cone, sl g.2.1 rv70.1.Leaf, sl g.2.2.1 rv70.1.Values, sl g.2.2.2 rv70.1.Queue]) (R := sl (G.g 6 3) rv49.Queue) sl_slice (fun aq63 kq64 eq65 => by rw [eq65]; exact FT_ent (Ent.take (is := [1, 2, 3, 4, 5, 6, 7, 0]) rfl) (FT_open (γ := Value × Value × Value × Value) (I := fun g => i64ok rv70.1.Phase ∧ i64ok rv70.1.At ∧ i64ok rv70.1.Edge ∧ i64ok rv70.1.Steps ∧ i64ok rv70.2.1 ∧ i64ok rv70.2.2 ∧ (0 ≤ rv70.2.1 ∧ rv70.2.1 ≤ 8000000000) ∧ (rv70.1.Cone.length ≤ 256)) (V := fun g => .tuple #[.agg #[vi rv70.1.Phase, g.1, g.2.1, vi rv70.1.At, vi rv70.1.Edge, g.2.2.1, g.2.2.2, vi rv70.1.Steps], vi rv70.2.1, vi rv70.2.2]) (B := fun g => [sl g.1 rv70.1.Cone, sl g.2.1 rv70.1.Leaf, sl g.2.2.1 rv70.1.Values, sl g.2.2.2 rv70.1.Queue]) (R := sl (G.g 6 2) rv49.Values) sl_slice (fun aq60 kq61 eq62 => by rw [eq62]; exact FT_ent (Ent.take (is := [1, 2, 3, 4, 5, 6, 0, 7]) rfl) (FT_open (γ := Value × Value × Value × Value) (I := fun g => i64ok rv70.1.Phase ∧ i64ok rv70.1.At ∧ i64ok rv70.1.Edge ∧ i64ok rv70.1.Steps ∧ i64ok rv70.2.1 ∧ i64ok rv70.2.2 ∧ (0 ≤ rv70.2.1 ∧ rv70.2.1 ≤ 8000000000) ∧ (rv70.1.Cone.length ≤ 256)) (V := fun g => .tuple #[.agg #[vi rv70.1.Phase, g.1, g.2.1, vi rv70.1.At, vi rv70.1.Edge, g.2.2.1, g.2.2.2, vi rv70.1.Steps], vi rv70.2.1, vi rv70.2.2]) (B := fun g => [sl g.1 rv70.1.Cone, sl g.2.1 rv70.1.Leaf, sl g.2.2.1 rv70.1.Values, sl g.2.2.2 rv70.1.Queue]) (R := sl (G.g 6 1) rv49.Leaf) sl_slice (fun aq57 kq58 eq59 => by rw [eq59]; exact FT_ent (Ent.take (is := [1, 2, 3, 4, 5, 0, 6, 7]) rfl) (FT_open (γ := Value × Value × Value × Value) (I := fun g => i64ok rv70.1.Phase ∧ i64ok rv70.1.At ∧ i64ok rv70.1.Edge ∧ i64ok rv70.1.Steps ∧ i64ok rv70.2.1 ∧ i64ok rv70.2.2 ∧ (0 ≤ rv70.2.1 ∧ rv70.2.1 ≤ 8000000000) ∧ (rv70.1.Cone.length ≤ 256)) (V := fun g => .tuple #[.agg #[vi rv70.1.Phase, g.1, g.2.1, vi rv70.1.At, vi rv70.1.Edge, g.2.2.1, g.2.2.2, vi rv70.1.Steps], vi rv70.2.1, vi rv70.2.2]) (B := fun g => [sl g.1 rv70.1.Cone, sl g.2.1 rv70.1.Leaf, sl g.2.2.1 rv70.1.Values, sl g.2.2.2 rv70.1.Queue]) (R := sl (G.g 6 0) rv49.Cone) sl_slice (fun aq54 kq55 eq56 => by rw [eq56]; exact FT_ent (Ent.take (is := [1, 2, 3, 4, 0, 5, 6, 7]) rfl) (FT_open (γ := Value × Value × Value × Value) (I := fun g => i64ok rv70.1.Phase ∧ i64ok rv70.1.At ∧ i64ok rv70.1.Edge ∧ i64ok rv70.1.Steps ∧ i64ok rv70.2.1 ∧ i64ok rv70.2.2 ∧ (0 ≤ rv70.2.1 ∧ rv70.2.1 ≤ 8000000000) ∧ (rv70.1.Cone.length ≤ 256)) (V := fun g => .tuple #[.agg #[vi rv70.1.Phase, g.1, g.2.1, vi rv70.1.At, vi rv70.1.Edge, g.2.2.1, g.2.2.2, vi rv70.1.Steps], vi rv70.2.1, vi rv70.2.2]) (B := fun g => [sl g.1 rv70.1.Cone, sl g.2.1 rv70.1.Leaf, sl g.2.2.1 rv70.1.Values, sl g.2.2.2 rv70.1.Queue]) (R := sl (G.g 4 0) ([(GKnown.mk rv26.1 rv33.1)] : List GKnown)) sl_slice (fun aq51 kq52 eq53 => by rw [eq53]; exact FT_ent (Ent.take (is := [1, 2, 3, 0, 4, 5, 6, 7]) rfl) (fn35 rv10.1 a16 k17 a19 k20 a22 k23 ([(GKnown.mk rv26.1 rv33.1)]) aq51 kq52 rv49 aq54 kq55 aq57 kq58 aq60 kq61 aq63 kq64 2 pre pre pre pre pre pre pre rv70 hg71))))))))))))))) (Dg [] (fun G => .tuple #[.agg #[vi rv70.1.Phase, (G.g 7 0), (G.g 7 1), vi rv70.1.At, vi rv70.1.Edge, (G.g 7 2), (G.g 7 3), vi rv70.1.Steps], vi rv70.2.1, vi rv70.2.2]) (fun G => Vm) (Dg [] (fun G => .agg #[vi rv70.1.Phase, (G.g 7 0), (G.g 7 1), vi rv70.1.At, vi rv70.1.Edge, (G.g 7 2), (G.g 7 3), vi rv70.1.Steps]) (fun G => Vx) (Dv [] Vx (Dv [] Vx (Dx [] [] [0] (fun G => (G.g 12 0)) [fun G => Cl (G.g 12 0) [vi 0, .slice none 0 0, .slice none 0 0, vi 0, vi 0, .slice none 0 0, .slice none 0 0, vi 0]] (fun G => xA (Al ze59 [vi 0, .slice none 0 0, .slice none 0 0, vi 0, vi 0, .slice none 0 0, .slice none 0 0, vi 0])) (Dx0 [17, 18, 19, 20, 21] [21] [1, 2, 3, 4, 0] [fun G => Cl (G.g 12 0) [vi rv70.1.Phase, (G.g 7 0), (G.g 7 1), vi rv70.1.At, vi rv70.1.Edge, (G.g 7 2), (G.g 7 3), vi rv70.1.Steps]] (fun G => x1 0 rfl sl_one fun ho77 => (x1 1 rfl sl_one fun ho78 => (x1 2 rfl sl_one fun ho79 => (x1 3 rfl sl_one fun ho80 => (xS (Scl [4] sh59 [vi rv70.1.Phase, (G.g 7 0), (G.g 7 1), vi rv70.1.At, vi rv70.1.Edge, (G.g 7 2), (G.g 7 3), vi rv70.1.Steps] (v := .agg #[vi rv70.1.Phase, (G.g 7 0), (G.g 7 1), vi rv70.1.At, vi rv70.1.Edge, (G.g 7 2), (G.g 7 3), vi rv70.1.Steps]) (h1 := show [vi rv70.1.Phase, (G.g 7 0), (G.g 7 1), vi rv70.1.At, vi rv70.1.Edge, (G.g 7 2), (G.g 7 3), vi rv70.1.Steps].all (·.oneCell') = true from (by simp only [List.all_cons, List.all_nil, ho77, ho78, ho79, ho80, Bool.and_true, Bool.true_and] <;> rfl)))))))) (Dv [] Va (Dv [] Va ?_))))))))
 refine Dn ⟨by kernel_rfl, fun G => ?_⟩
 refine Jw2 [(5, vi rv26.1), (6, p43), (7, (G.g 12 0)), (8, vi rv70.2.1), (9, vi rv70.2.2)] [0, 2, 3, 4, 5, 6, 7] [SP.fact (i64ok rv49.Phase ∧ i64ok rv49.At ∧ i64ok rv49.Edge ∧ i64ok rv49.Steps), sl (G.g 6 0) rv49.Cone, sl (G.g 6 1) rv49.Leaf, sl (G.g 6 2) rv49.Values, sl (G.g 6 3) rv49.Queue, S a40 k41 rv33.1.Words, sl (G.g 4 0) ([(GKnown.mk rv26.1 rv33.1)] : List GKnown), SP.fact (i64ok rv70.1.Phase ∧ i64ok rv70.1.At ∧ i64ok rv70.1.Edge ∧ i64ok rv70.1.Steps ∧ i64ok rv70.2.1 ∧ i64ok rv70.2.2 ∧ (0 ≤ rv70.2.1 ∧ rv70.2.1 ≤ 8000000000) ∧ (rv70.1.Cone.length ≤ 256)), sl (G.g 7 0) rv70.1.Cone, sl (G.g 7 1) rv70.1.Leaf, sl (G.g 7 2) rv70.1.Values, sl (G.g 7 3) rv70.1.Queue, Cl (G.g 12 0) [vi rv70.1.Phase, (G.g 7 0), (G.g 7 1), vi rv70.1.At, vi rv70.1.Edge, (G.g 7 2), (G.g 7 3), vi rv70.1.Steps]] ?_
 generalize G.g 4 0 = c44, G.g 6 0 = c45, G.g 6 1 = c46, G.g 6 2 = c47, G.g 6 3 = c48, G.g 7 0 = c66, G.g 7 1 = c67, G.g 7 2 = c68, G.g 7 3 = c69, G.g 12 0 = p76
 refine Jf 7 rfl ?_; rintro ⟨he81, he82, he83, he84⟩
 unfold i64ok at he81 he82 he83 he84
 refine Jf 14 rfl ?_; rintro ⟨he85, he86, he87, he88, he89, he90, he91, he92⟩
 unfold i64ok at he85 he86 he87 he88 he89 he90
 refine Jk [0, 0, 0, 0, 1, 2, 3, 5, 6, 7, 8, 9, 10, 12, 13, 14, 15, 16] ?_
 refine Jo 7 ?_; rintro a93 k94 rfl
 refine Fb 8 7 fun hl95 => ?_
 refine Fo 7 fun ho96 => ?_
 refine Jo 8 ?_; rintro a97 k98 rfl
 refine Fb 1 8 fun hl99 => ?_
 refine Jo 9 ?_; rintro a100 k101 rfl
 refine Fb 32 9 fun hl102 => ?_
 refine Jo 10 ?_; rintro a103 k104 rfl
 refine Fb 8 10 fun hl105 => ?_
 refine Fo 10 fun ho106 => ?_
 refine Jo 12 ?_; rintro a107 k108 rfl
 refine Fb 40 12 fun hl109 => ?_
 refine Jo 13 ?_; rintro a110 k111 rfl
 refine Fb 8 13 fun hl112 => ?_
 refine Fo 13 fun ho113 => ?_
 refine Jo 14 ?_; rintro a114 k115 rfl
 refine Fb 1 14 fun hl116 => ?_
 refine Jo 15 ?_; rintro a117 k118 rfl
 refine Fb 32 15 fun hl119 => ?_
 refine Jo 16 ?_; rintro a120 k121 rfl
 refine Fb 8 16 fun hl122 => ?_
 refine Fo 16 fun ho123 => ?_
 refine KS ?_
 refine Oq (VldA sh59 17) ?_
 refine letv (solver_Answer rv70.1) fun rv125 hg126 => ?_
 have hc127 := fn44 rv70.1 a110 k111 a114 k115 a117 k118 a120 k121 pre pre pre pre rv125 hg126
 refine Oc [13, 14, 15, 16] ca44 hc127 ?_
 rintro c124 he128
 unfold i64ok at he128
 refine Jo 0 ?_; rintro a129 k130 rfl
 refine Fb 8 0 fun hl131 => ?_
 refine Oq Vm (Oq Vx (Oq Vx (Oa (Al ze42 [vi 0, .slice none 0 0]) fun p132 => Ost (Scl [0] sh42 [vi rv125.1.Width, vl a129 k130 rv125.1.Words]) (Oq Va (KS ?_)))))
 refine Oq Vm (Oq Veql (Oq Vm ?_))
 refine Js 44 ?_ ?_
 · intro h133
   have g134 := eq_of_beq h133
   refine Oq Vm (Oq Veql (Oq Vpt (Oq Vm ?_)))
   refine Js 48 ?_ ?_
   · intro h135
     have g136 := eq_of_beq h135
     refine Oq Vm (Oq Vpt (Oq Vm ?_))
     refine Js 51 ?_ ?_
     · intro h137
       refine Oq (VldA sh42 0) (Oq (VldA sh42 2) ?_)
       refine letv (flqref1_Same rv125.1 rv33.1) fun rv139 hg140 => ?_
       have hc141 := fn45 rv125.1 a129 k130 rv33.1 a40 k41 pre pre rv139 hg140
       refine Oc [1, 13] ca45 hc141 ?_
       rintro - -
       refine Oq Vpt (Oq Vm ?_)
       refine Js 56 ?_ ?_
       · intro h142
         refine Oq (VldA sh59 19) ?_
         refine letv (solver_Final rv70.1) fun rv145 hg146 => ?_
         have hc147 := fn63 rv70.1 a110 k111 a114 k115 a117 k118 a120 k121 pre pre pre pre (Run_small (by assumption) (by omega)) rv145 hg146
         refine Oc [15, 16, 17, 18] ca63 hc147 ?_
         rintro c144 -
         refine Jo 0 ?_; rintro a148 k149 rfl
         refine Fb 40 0 fun hl150 => ?_
         refine Oq (Vlen sl53) (Oq Veql (Oq Vpt (Oq Vm ?_)))
         refine Js 62 ?_ ?_
         · intro h151
           have g152 := eq_of_beq h151
           refine Oq (VldA sh59 20) ?_
           refine letv (solver_Used rv70.1) fun rv154 hg155 => ?_
           have hc156 := fn64 rv70.1 a110 k111 a114 k115 a117 k118 a120 k121 pre pre pre pre (Run_small (by assumption) (by omega)) rv154 hg155
           refine Oc [16, 17, 18, 19] ca64 hc156 ?_
           rintro c153 -
           refine Jo 0 ?_; rintro a157 k158 rfl
           refine Fb 8 0 fun hl159 => ?_
           refine Fo 0 fun ho160 => ?_
           refine Oq Vm (Oa (AsV sl22 sz22 [vi rv26.1] [vi rv26.1]) fun c161 => ?_)
           refine Jo 0 ?_; rintro a162 k163 rfl
           refine Jl [0] (Ent.crInt _ [rv26.1] _ _ rfl rfl (by intro x hx; rw [List.mem_singleton] at hx; subst hx; unfold i64ok; omega) (Nat.le_of_ble_eq_true rfl)) ?_
           refine letv (flqref7_Ints rv154 [rv26.1]) fun rv164 hg165 => ?_
           refine Oc [0, 0] ca40 (FT_borrow (A := _) (fun _ _ h => by cases h) (FT_ent (Ent.take (is := [1, 0]) rfl) (fn40 rv154 a157 k158 ([rv26.1]) a162 k163 rv164 hg165))) ?_ (ht := rfl)
           rintro - -
           refine Oq Vpt (Oq Vm ?_)
           refine Js 69 ?_ ?_
           · intro h166
             have hc168 := fn37  flqlaw15_sane rfl
             refine Oc [] ca37 hc168 ?_
             rintro - -
             refine Oq Vpt (Oq Va (KS ?_))
             have hq := q4 hrr flqlaw15_sane (by unfold flqlaw15_SolverLeaf; simp only [h133, h135, h137, h142, h151, h166, hg5, hg11, hg27, hg34, hg50, hg71, hg126, hg140, hg146, hg155, hg165, cs4]); subst hq
             exact Kr () rfl (.tmp rfl .nil) [] trivial
           intro h166
           refine Osk (Oq Vpf (Oq Va (KS ?_)))
           have hq := q4 hrr false (by unfold flqlaw15_SolverLeaf; simp only [h133, h135, h137, h142, h151, h166, hg5, hg11, hg27, hg34, hg50, hg71, hg126, hg140, hg146, hg155, hg165, cs4]); subst hq
           exact Kr () rfl (.tmp rfl .nil) [] trivial
         intro h151
         have g170 := ne_of_beq_false h151
         refine Osk (Osk (Osk (Osk (Osk (Oq Vpf (Oq Vm (Osk (Oq Vpf (Oq Va ?_)))))))))
         refine KS ?_
         have hq := q4 hrr false (by unfold flqlaw15_SolverLeaf; simp only [h133, h135, h137, h142, h151, hg5, hg11, hg27, hg34, hg50, hg71, hg126, hg140, hg146, cs4]); subst hq
         exact Kr () rfl (.tmp rfl .nil) [] trivial
       intro h142
       refine Osk (Osk (Osk (Osk (Oq Vpf (Oq Vm (Osk (Osk (Osk (Osk ?_)))))))))
       refine Osk (Oq Vpf (Oq Vm (Osk (Oq Vpf (Oq Va (KS ?_))))))
       have hq := q4 hrr false (by unfold flqlaw15_SolverLeaf; simp only [h133, h135, h137, h142, hg5, hg11, hg27, hg34, hg50, hg71, hg126, hg140, cs4]); subst hq
       exact Kr () rfl (.tmp rfl .nil) [] trivial
     intro h137
     refine Osk (Osk (Osk (Oq Vpf (Oq Vm (Osk (Osk (Osk (Osk (Oq Vpf ?_)))))))))
     refine Oq Vm (Osk (Osk (Osk (Osk (Osk (Oq Vpf (Oq Vm (Osk (Oq Vpf ?_)))))))))
     refine Oq Va (KS ?_)
     have hq := q4 hrr false (by unfold flqlaw15_SolverLeaf; simp only [h133, h135, h137, hg5, hg11, hg27, hg34, hg50, hg71, hg126, cs4]); subst hq
     exact Kr () rfl (.tmp rfl .nil) [] trivial
   intro h135
   have g173 := ne_of_beq_false h135
   refine Osk (Oq Vpf (Oq Vm (Osk (Osk (Osk (Oq Vpf (Oq Vm (Osk (Osk ?_)))))))))
   refine Osk (Osk (Oq Vpf (Oq Vm (Osk (Osk (Osk (Osk (Osk (Oq Vpf ?_)))))))))
   refine Oq Vm (Osk (Oq Vpf (Oq Va (KS ?_))))
   have hq := q4 hrr false (by unfold flqlaw15_SolverLeaf; simp only [h133, h135, hg5, hg11, hg27, hg34, hg50, hg71, hg126, cs4]); subst hq
   exact Kr () rfl (.tmp rfl .nil) [] trivial
 intro h133
 have g174 := ne_of_beq_false h133
 refine Osk (Osk (Oq Vpf (Oq Vm (Osk (Oq Vpf (Oq Vm (Osk (Osk (Osk ?_)))))))))
 refine Oq Vpf (Oq Vm (Osk (Osk (Osk (Osk (Oq Vpf (Oq Vm (Osk (Osk ?_)))))))))
 refine Osk (Osk (Osk (Oq Vpf (Oq Vm (Osk (Oq Vpf (Oq Va (KS ?_))))))))
 have hq := q4 hrr false (by unfold flqlaw15_SolverLeaf; simp only [h133, hg5, hg11, hg27, hg34, hg50, hg71, hg126, cs4]); subst hq
 exact Kr () rfl (.tmp rfl .nil) [] trivial
end Go.SL.G
