/- Part 5 of the walks: mirrors, plain laws and walks used by the last text of this claim. -/
import Derived.Test.YtfoejhjfcegngaaGreatW4
import Derived.Test.YtfoejhjfcegngaaGreatProg
set_option linter.unusedVariables false
set_option linter.unusedSimpArgs false
namespace Go.SL.G
open Go Go.SL Go.Proofs
set_option maxHeartbeats 20000000
set_option maxRecDepth 100000
theorem fn181 (a : GSet) (aa1 : Option Addr) (ak1 : Nat) (b : GSet) (ba1 : Option Addr) (bk1 : Nat) (ha_0 : i64ok a.Width) (hb_0 : i64ok b.Width) (rr : Bool) (hrr : bitset_Equal a b = rr) : FT Tryz.prog 181 #[.agg #[vi a.Width, vl aa1 ak1 a.Words], .agg #[vi b.Width, vl ba1 bk1 b.Words]] [S aa1 ak1 a.Words, S ba1 bk1 b.Words] (fun g : Unit => True) (fun g => vb rr) (fun g => []) := by
 refine FTi Tryz.func181 fun w0 M0 F0 => ?_
 unfold i64ok at ha_0 hb_0
 refine Fb 8 0 fun hl1 => ?_
 refine Fb 8 1 fun hl2 => ?_
 refine KS ?_
 refine Oa (Ab [vi a.Width, vl aa1 ak1 a.Words]) fun p3 => Oa (Ab [vi b.Width, vl ba1 bk1 b.Words]) fun p4 => Oq Va (KS ?_)
 refine Oq (VldA sh42 1) ?_
 refine letv (bitset_Valid a) fun rv5 hg6 => ?_
 have hc7 := fn123 a aa1 ak1 pre rv5 hg6
 refine Oc [2] ca123 hc7 ?_
 rintro - -
 refine Oq Vm ?_
 refine Js 7 ?_ ?_
 · intro h8
   refine Oq (VldA sh42 0) ?_
   refine letv (bitset_Valid b) fun rv10 hg11 => ?_
   have hc12 := fn123 b ba1 bk1 pre rv10 hg11
   refine Oc [3] ca123 hc12 ?_
   rintro - -
   refine Oq Vpt (Oq Vm ?_)
   refine Js 11 ?_ ?_
   · intro h13
     refine Oq (Vfa fo42_0 1) (Oq (VldF sh3 1) (Oq (Vfa fo42_0 0) (Oq (VldF sh3 0) (Oq Veql (Oq Vpt (Oq Vm ?_))))))
     refine Js 18 ?_ ?_
     · intro h15
       have g16 := eq_of_beq h15
       refine Oq (Vfa fo42_1 1) (Oq (VldF sh40 1) (Oq (Vfa fo42_1 0) (Oq (VldF sh40 0) ?_)))
       refine letv (slices_Equal_uint64 a.Words b.Words) fun rv17 hg18 => ?_
       have hc19 := fn237 a.Words aa1 ak1 b.Words ba1 bk1 rv17 hg18
       refine Oc [2, 3] ca237 hc19 ?_
       rintro - -
       refine Oq Vpt (Oq Va (KS ?_))
       have hq := q4 hrr rv17 (by simp only [bitset_Equal, h8, h13, h15, hg6, hg11, hg18, cs4]); subst hq
       exact Kr () rfl (.tmp rfl .nil) [] trivial
     intro h15
     have g20 := ne_of_beq_false h15
     refine Osk (Osk (Osk (Osk (Osk (Oq Vpf (Oq Va (KS ?_)))))))
     have hq := q4 hrr false (by simp only [bitset_Equal, h8, h13, h15, hg6, hg11, cs4]); subst hq
     exact Kr () rfl (.tmp rfl .nil) [] trivial
   intro h13
   refine Osk (Osk (Osk (Osk (Osk (Oq Vpf (Oq Vm (Osk (Osk (Osk ?_)))))))))
   refine Osk (Osk (Oq Vpf (Oq Va (KS ?_))))
   have hq := q4 hrr false (by simp only [bitset_Equal, h8, h13, hg6, hg11, cs4]); subst hq
   exact Kr () rfl (.tmp rfl .nil) [] trivial
 intro h8
 refine Osk (Osk (Oq Vpf (Oq Vm (Osk (Osk (Osk (Osk (Osk (Oq Vpf ?_)))))))))
 refine Oq Vm (Osk (Osk (Osk (Osk (Osk (Oq Vpf (Oq Va (KS ?_))))))))
 have hq := q4 hrr false (by simp only [bitset_Equal, h8, hg6, cs4]); subst hq
 exact Kr () rfl (.tmp rfl .nil) [] trivial
theorem fn95 (s : GSystem) (sa1 : Option Addr) (sk1 : Nat) (sa2 : Option Addr) (sk2 : Nat) (sa3 : Option Addr) (sk3 : Nat) (stP : Value) (st : GState) (sta1 : Option Addr) (stk1 : Nat) (sta2 : Option Addr) (stk2 : Nat) (sta5 : Option Addr) (stk5 : Nat) (sta6 : Option Addr) (stk6 : Nat) (hs_0 : i64ok s.Width) (hst_0 : i64ok st.Phase) (hst_3 : i64ok st.At) (hst_4 : i64ok st.Edge) (hst_7 : i64ok st.Steps) (hv : VSys s) (hp : POk s st) (rr : Int × GState) (hrr : solver_push s st = rr) : FT Tryz.prog 95 #[.agg #[vi s.Width, vl sa1 sk1 s.Deps, vl sa2 sk2 s.Transfers, vl sa3 sk3 s.Boundary], stP] [S sa1 sk1 s.Deps, S sa2 sk2 s.Transfers, S sa3 sk3 s.Boundary, Cl stP [vi st.Phase, vl sta1 stk1 st.Cone, vl sta2 stk2 st.Leaf, vi st.At, vi st.Edge, vl sta5 stk5 st.Values, vl sta6 stk6 st.Queue, vi st.Steps], O sta1 stk1 st.Cone, O sta2 stk2 st.Leaf, O sta5 stk5 st.Values, O sta6 stk6 st.Queue] (fun g : Value × Value × Value × Value => i64ok rr.1 ∧ i64ok rr.2.Phase ∧ i64ok rr.2.At ∧ i64ok rr.2.Edge ∧ i64ok rr.2.Steps ∧ (0 ≤ rr.1 ∧ rr.1 ≤ 8)) (fun g => vi rr.1) (fun g => [Cl stP [vi rr.2.Phase, g.1, g.2.1, vi rr.2.At, vi rr.2.Edge, g.2.2.1, g.2.2.2, vi rr.2.Steps], os g.1 rr.2.Cone, os g.2.1 rr.2.Leaf, os g.2.2.1 rr.2.Values, os g.2.2.2 rr.2.Queue]) := by
 refine FTi Tryz.func95 fun w0 M0 F0 => ?_
 unfold i64ok at hs_0 hst_0 hst_3 hst_4 hst_7
 refine Fb 24 0 fun hl1 => ?_
 refine Fb 88 1 fun hl2 => ?_
 refine Fb 32 2 fun hl3 => ?_
 refine Fb 8 4 fun hl4 => ?_
 refine Fo 4 fun ho5 => ?_
 refine Fb 1 5 fun hl6 => ?_
 refine Fb 32 6 fun hl7 => ?_
 refine Fb 8 7 fun hl8 => ?_
 refine Fo 7 fun ho9 => ?_
 have hv1 := hv.n
 have hv2 := hv.tl
 have hv3 := hv.bl
 have hv4 := hv.w
 have hv5 := hv.dep_len
 have hp1 := hp.lf
 have hp2 := hp.cl
 have hp3 := hp.vl
 have hp4 := hp.qn
 have hp5 := hp.ql
 have hpi := hp.qr _ (getD_mem (xs := st.Queue) (i := (0 : Int).toNat) (d := 0) (by show 0 < _; omega))
 have hpc := hp.cr _ (getD_mem (xs := st.Cone) (i := ((st.Queue.getD (0 : Int).toNat 0) : Int).toNat) (d := 0) (by omega))
 refine KS ?_
 refine Oa (Ab [vi s.Width, vl sa1 sk1 s.Deps, vl sa2 sk2 s.Transfers, vl sa3 sk3 s.Boundary]) fun p10 => Oq Va (KS ?_)
 refine Oq Vm (Oq (Vn 4) (Oq (Vfa fo59_6 4) (Oq (VldF sh22 4) (Oq (Vi sl22 8) ?_))))
 have hb11 := ok1 (i := (0 : Int).toNat) ho9 rng
 refine Oq (VldI sh3 8) (Oq Va (KS ?_))
 refine Oq Vm (Oq Vm (Oq (Vn 4) (Oq (Vfa fo59_6 4) (Oq (VldF sh22 4) (Oa (AslO [8] sl22 ((1 : Int).toNat) st.Queue.length) fun c12 => ?_)))))
 refine Jo 0 ?_; rintro a13 k14 rfl
 refine Fb 8 0 fun hl15 => ?_
 refine Fo 0 fun ho16 => ?_
 have hn17 : ((st.Queue.take st.Queue.length).drop ((1 : Int).toNat)).length = st.Queue.length - ((1 : Int).toNat) := len_slice rng rng
 refine Oq (Vn 5) (Oq (Vfa fo59_6 5) (Ost (SclF [5] sh22 [vi st.Phase, vl sta1 stk1 st.Cone, vl sta2 stk2 st.Leaf, vi st.At, vi st.Edge, vl sta5 stk5 st.Values, vl a13 k14 ((st.Queue.take st.Queue.length).drop ((1 : Int).toNat)), vi st.Steps]) (KS ?_)))
 refine Jp 0 fun hp18 => ?_
 refine JK_drawK [0, 0, 2, 6, 14, 0, 32, 96, 224, 0, 1023, 2047] fmix ?_
 refine Dv [3] (VldA sh27 0) (Dv [] Vm (Dv [0] (Vn 0) (Dv [0] (Vfa fo59_1 0) (Dv [1] (VldF sh22 0) (Dv [] Vm (Dv [0] (Vn 0) (Dv [0] (Vfa fo59_2 0) (Dv [1] (VldF sh57 0) (Dv [] Vm ?_)))))))))
 refine letv (cone_Dependents s st.Cone st.Leaf (st.Queue.getD (0 : Int).toNat 0)) fun rv20 hg21 => ?_
 refine Dx [4, 5, 6, 7, 8] [7, 8] [4, 5, 6, 0, 1, 1, 1] (fun G => (G.g 10 0)) [fun G => SP.fact ((rv20.length ≤ st.Cone.length)), fun G => O sta2 stk2 st.Leaf, fun G => O sta1 stk1 st.Cone, fun G => os (G.g 10 0) rv20] (fun G => xC [4, 3, 0, 1, 2] ca57 (FT_borrow (A := _) hlx (FT_ent (Ent.take (is := [1, 1, 2, 3, 0]) rfl) (FT_borrow (A := _) hlx (FT_ent (Ent.take (is := [1, 2, 3, 0, 4]) rfl) (fn57 s sa1 sk1 sa2 sk2 sa3 sk3 st.Cone sta1 stk1 st.Leaf sta2 stk2 ((st.Queue.getD (0 : Int).toNat 0)) pre pre rv20 hg21))))) (ht := rfl)) (Dg [] (fun G => (G.g 10 0)) (fun G => Va) ?_)
 refine Dn ⟨by kernel_rfl, fun G => ?_⟩
 refine Jw2 [(1, stP), (2, p10), (5, vi (st.Queue.getD (0 : Int).toNat 0)), (6, (G.g 10 0))] [0, 1, 2, 3, 4, 5, 6, 9] [SP.fact ((rv20.length ≤ st.Cone.length)), O sta2 stk2 st.Leaf, O sta1 stk1 st.Cone, os (G.g 10 0) rv20] ?_
 generalize G.g 10 0 = c19
 refine Jf 8 rfl ?_; rintro he22
 refine Jk [1, 1, 1, 2, 3, 4, 5, 6, 6, 6] ?_
 refine Jo 9 ?_; rintro a23 k24 rfl
 refine Fb 8 9 fun hl25 => ?_
 refine Fo 9 fun ho26 => ?_
 refine KS ?_
 refine Oq Vm (Oq (Vlen sl22) (Oq Vm (KS ?_)))
 refine Kl (γ := Nat × List GSet × List Int × Int × Option Addr × Nat) (fun (r27, st5_28, st6_29, v38_30, a31, k32) => ⟨[(1, stP), (2, p10), (5, vi (st.Queue.getD (0 : Int).toNat 0)), (6, vl a23 k24 rv20), (36, vl a23 k24 rv20), (37, vi (rv20.length : Int)), (38, vi v38_30)], [O a31 k32 st6_29, Cl stP [vi st.Phase, vl sta1 stk1 st.Cone, vl sta2 stk2 st.Leaf, vi st.At, vi st.Edge, vl sta5 stk5 st.Values, vl a31 k32 st6_29, vi st.Steps], pv p10 [vi s.Width, vl sa1 sk1 s.Deps, vl sa2 sk2 s.Transfers, vl sa3 sk3 s.Boundary], S sa1 sk1 s.Deps, S sa2 sk2 s.Transfers, S sa3 sk3 s.Boundary, os (vl sta5 stk5 st.Values) st5_28, O sta2 stk2 st.Leaf, O sta1 stk1 st.Cone, O a23 k24 rv20], solver_push_L0 s st rv20 r27 st5_28 st6_29 v38_30 = solver_push_L0 s st rv20 (((rv20.length : Int) - 0).toNat) st.Values ((st.Queue.take st.Queue.length).drop ((1 : Int).toNat)) 0 ∧ r27 = ((rv20.length : Int) - v38_30).toNat ∧ (0 : Int) ≤ v38_30 ∧ v38_30 ≤ (rv20.length : Int) ∧ (-9223372036854775808 ≤ v38_30 ∧ v38_30 ≤ 9223372036854775807) ∧ (st5_28.length : Int) = (st.Cone.length : Int) ∧ (st6_29.length : Int) ≤ 256 + v38_30, r27⟩) (((rv20.length : Int) - 0).toNat, st.Values, ((st.Queue.take st.Queue.length).drop ((1 : Int).toNat)), 0, a13, k14) [1, 0, 0, 1, 2, 3, 4, 4, 4, 4] ⟨rfl, rfl, (by omega), (by omega), (by omega), iv0, iv0⟩ ?_
 rintro ⟨r27, st5_28, st6_29, v38_30, a31, k32⟩ ⟨hM33, hr34, hi35, hi36, hk37, hv38, hv39⟩
 refine JJ_nx fun _ _ hL hA => ?_; dsimp only at hL hA; subst hL hA
 refine Fb 8 0 fun hl40 => ?_
 refine Fo 0 fun ho41 => ?_
 refine Fb 24 3 fun hl42 => ?_
 refine Fb 88 4 fun hl43 => ?_
 refine Fb 32 5 fun hl44 => ?_
 refine Fb 32 6 fun hl45 => ?_
 refine Fl 6 fun hn46 => ?_
 refine Fb 1 7 fun hl47 => ?_
 refine Fb 8 8 fun hl48 => ?_
 refine Fo 8 fun ho49 => ?_
 refine Fb 8 9 fun hl50 => ?_
 refine Fo 9 fun ho51 => ?_
 refine KS ?_
 refine Oq Vlss (KS ?_)
 refine Kc ?_ ?_
 · intro h52
   have g53 := of_decide_eq_true h52
   have hqd := PDep_mem (r := rv20) (by assumption) _ (getD_mem (xs := rv20) (i := v38_30.toNat) (d := 0) (by omega))
   obtain ⟨r54, rfl⟩ := scc (n := r27) (by omega)
   refine KS ?_
   refine Oq (Vi sl22 9) ?_
   have hb55 := ok1 (i := v38_30.toNat) ho51 rng
   refine Oq (VldI sh3 9) (Oq Va (KS ?_))
   refine Jp 1 fun hp56 => ?_
   refine JJ_peek_GTransfer ((st.Cone.getD ((st.Queue.getD (0 : Int).toNat 0) : Int).toNat 0) : Int).toNat 5 rfl rng fun a57 k58 a59 k60 a61 k62 hb63 hb64 => ?_
   unfold i64ok at hb63 hb64
   refine Fb 8 1 fun hl65 => ?_
   refine Fb 8 2 fun hl66 => ?_
   refine Fb 16 3 fun hl67 => ?_
   refine JJ_peekO_GSet ((st.Queue.getD (0 : Int).toNat 0) : Int).toNat 11 rfl rng fun a68 k69 hb70 => ?_
   unfold i64ok at hb70
   refine Fb 8 1 fun hl71 => ?_
   refine JK_drawK [0, 1, 0, 4, 12, 28, 0, 124, 252, 511, 1023, 0, 2048, 6144, 14336, 0, 63488, 129024, 262143, 524287, 1048575, 1048575, 0, 6291455, 16777215] fmix ?_
   refine Dv [9] (Vfa fo27_2 0) (Dv [9] (VldF sh24 0) (Dv [] Vm (Dv [6] (Vn 0) (Dv [6] (Vfa fo59_1 0) (Dv [8] (VldF sh22 0) (Dv [] Vm (Dv [14] (Vi sl22 0) ?_)))))))
   have hb72 := ok1 (i := ((st.Queue.getD (0 : Int).toNat 0) : Int).toNat) ho49 rng
   refine Dv [14] (VldI sh3 0) (Dv [11] (Vi sl24 0) (Dv [2] (VldA sh98 0) (Dv [] Vm (Dv [6] (Vn 0) (Dv [6] (Vfa fo59_5 0) (Dv [8] (VldF sh25 0) (Dv [] Vm (Dv [0] (Vi sl25 0) (Dv [0] (VldA sh42 0) ?_)))))))))
   refine letv (transfer_Apply (s.Transfers.getD ((st.Cone.getD ((st.Queue.getD (0 : Int).toNat 0) : Int).toNat 0) : Int).toNat default) (st5_28.getD ((st.Queue.getD (0 : Int).toNat 0) : Int).toNat default)) fun rv74 hg75 => ?_
   refine Dx [1, 3, 4, 5] [] [2, 3, 4, 5, 0, 1] (fun G => .tuple #[.agg #[vi rv74.1.Width, (G.g 18 0)], vi rv74.2]) [fun G => SP.fact (i64ok rv74.1.Width ∧ i64ok rv74.2), fun G => sl (G.g 18 0) rv74.1.Words] (fun G => xC [1, 2, 3, 0] ca179 (fn179 ((s.Transfers.getD ((st.Cone.getD ((st.Queue.getD (0 : Int).toNat 0) : Int).toNat 0) : Int).toNat default)) a57 k58 a59 k60 a61 k62 ((st5_28.getD ((st.Queue.getD (0 : Int).toNat 0) : Int).toNat default)) a68 k69 pre pre pre rv74 hg75)) (Dg [] (fun G => .tuple #[.agg #[vi rv74.1.Width, (G.g 18 0)], vi rv74.2]) (fun G => Vm) (Dg [] (fun G => .agg #[vi rv74.1.Width, (G.g 18 0)]) (fun G => Vx) (Dv [] Vx (Dx [] [] [0] (fun G => (G.g 22 0)) [fun G => Cl (G.g 22 0) [vi 0, .slice none 0 0]] (fun G => xA (Al ze42 [vi 0, .slice none 0 0])) (Dx0 [17, 18] [18] [1, 0] [fun G => Cl (G.g 22 0) [vi rv74.1.Width, (G.g 18 0)]] (fun G => x1 0 rfl sl_one fun ho77 => (xS (Scl [1] sh42 [vi rv74.1.Width, (G.g 18 0)] (v := .agg #[vi rv74.1.Width, (G.g 18 0)]) (h1 := show [vi rv74.1.Width, (G.g 18 0)].all (·.oneCell') = true from (by simp only [List.all_cons, List.all_nil, ho77, Bool.and_true, Bool.true_and] <;> rfl))))) (Dv [] Va ?_))))))
   refine Dn ⟨by kernel_rfl, fun G => ?_⟩
   refine Jw2 [(1, stP), (2, p10), (5, vi (st.Queue.getD (0 : Int).toNat 0)), (6, vl a23 k24 rv20), (36, vl a23 k24 rv20), (37, vi (rv20.length : Int)), (38, vi v38_30), (8, vi (rv20.getD v38_30.toNat 0)), (9, (G.g 22 0))] [0, 1, 2, 3, 4, 5, 6, 7, 8, 9, 10, 11, 12, 13, 14, 15] [SP.fact (i64ok rv74.1.Width ∧ i64ok rv74.2), sl (G.g 18 0) rv74.1.Words, Cl (G.g 22 0) [vi rv74.1.Width, (G.g 18 0)]] ?_
   generalize G.g 18 0 = c73, G.g 22 0 = p76
   refine Jf 16 rfl ?_; rintro ⟨he78, he79⟩
   unfold i64ok at he78 he79
   refine Jk [0, 0, 1, 2, 3, 4, 6, 6, 6, 7, 8, 9, 10, 10, 10, 11, 12] ?_
   refine Jo 15 ?_; rintro a80 k81 rfl
   refine Fb 8 15 fun hl82 => ?_
   refine KS ?_
   refine Jp 7 fun hp83 => ?_
   refine Jl [1] (Ent.oread _ _ _ _) ?_
   refine JJ_peekO_GSet ((rv20.getD v38_30.toNat 0) : Int).toNat 0 rfl rng fun a84 k85 hb86 => ?_
   unfold i64ok at hb86
   refine Fb 8 1 fun hl87 => ?_
   refine JK_drawK [0, 1, 3, 7, 0, 31, 63, 0, 255, 511, 1023, 1023, 2047] fmix ?_
   refine Dv [] Vm (Dv [2] (Vn 0) (Dv [2] (Vfa fo59_5 0) (Dv [9] (VldF sh25 0) (Dv [] Vm (Dv [0] (Vi sl25 0) (Dv [0] (VldA sh42 0) (Dv [18] (VldA sh42 0) ?_)))))))
   refine letv (bitset_Union (st5_28.getD ((rv20.getD v38_30.toNat 0) : Int).toNat default) rv74.1) fun rv89 hg90 => ?_
   refine Dx [1, 17] [] [2, 3, 0, 1] (fun G => .tuple #[.agg #[vi rv89.1.Width, (G.g 8 0)], vi rv89.2]) [fun G => SP.fact (i64ok rv89.1.Width ∧ i64ok rv89.2), fun G => sl (G.g 8 0) rv89.1.Words] (fun G => xC [0, 1] ca180 (fn180 ((st5_28.getD ((rv20.getD v38_30.toNat 0) : Int).toNat default)) a84 k85 rv74.1 a80 k81 pre pre rv89 hg90)) (Dg [] (fun G => .tuple #[.agg #[vi rv89.1.Width, (G.g 8 0)], vi rv89.2]) (fun G => Vm) (Dg [] (fun G => .agg #[vi rv89.1.Width, (G.g 8 0)]) (fun G => Vx) (Dv [] Vx (Dx0 [18, 20] [18] [1, 0] [fun G => Cl p76 [vi rv89.1.Width, (G.g 8 0)]] (fun G => x1 1 rfl sl_one fun ho91 => (xS (Scl [0] sh42 [vi rv89.1.Width, (G.g 8 0)] (v := .agg #[vi rv89.1.Width, (G.g 8 0)]) (h1 := show [vi rv89.1.Width, (G.g 8 0)].all (·.oneCell') = true from (by simp only [List.all_cons, List.all_nil, ho91, Bool.and_true, Bool.true_and] <;> rfl))))) ?_))))
   refine Dn ⟨by kernel_rfl, fun G => ?_⟩
   refine Jw2 [(1, stP), (2, p10), (5, vi (st.Queue.getD (0 : Int).toNat 0)), (6, vl a23 k24 rv20), (36, vl a23 k24 rv20), (37, vi (rv20.length : Int)), (38, vi v38_30), (8, vi (rv20.getD v38_30.toNat 0)), (9, p76)] [0, 1, 2, 3, 4, 5, 6, 7, 8, 9, 10, 11, 12, 13, 14, 15, 16, 17] [SP.fact (i64ok rv89.1.Width ∧ i64ok rv89.2), sl (G.g 8 0) rv89.1.Words, Cl p76 [vi rv89.1.Width, (G.g 8 0)]] ?_
   generalize G.g 8 0 = c88
   refine Jf 18 rfl ?_; rintro ⟨he92, he93⟩
   unfold i64ok at he92 he93
   refine Jk [0, 0, 2, 3, 4, 5, 6, 7, 7, 7, 8, 9, 10, 11, 11, 11, 11, 13, 14] ?_
   refine Jo 17 ?_; rintro a94 k95 rfl
   refine Fb 8 17 fun hl96 => ?_
   refine KS ?_
   refine Jp 8 fun hp97 => ?_
   refine JK_drawK [0, 0, 2, 6, 14, 0, 62, 126, 255] fmix ?_
   refine Dv [19] (VldA sh42 0) (Dv [] Vm (Dv [0] (Vn 0) (Dv [0] (Vfa fo59_5 0) (Dv [9] (VldF sh25 0) (Dv [] Vm (Dv [1] (Vi sl25 0) (Dv [1] (VldA sh42 0) ?_)))))))
   refine letv (bitset_Equal rv89.1 (st5_28.getD ((rv20.getD v38_30.toNat 0) : Int).toNat default)) fun rv98 hg99 => ?_
   refine Dx [2, 18] [] [1, 2, 0] (fun G => vb rv98) [fun G => SP.fact (True)] (fun G => xC [1, 0] ca181 (fn181 rv89.1 a94 k95 ((st5_28.getD ((rv20.getD v38_30.toNat 0) : Int).toNat default)) a84 k85 pre pre rv98 hg99)) ?_
   refine Dn ⟨by kernel_rfl, fun G => ?_⟩
   refine Jw2 [(1, stP), (2, p10), (5, vi (st.Queue.getD (0 : Int).toNat 0)), (6, vl a23 k24 rv20), (36, vl a23 k24 rv20), (37, vi (rv20.length : Int)), (38, vi v38_30), (8, vi (rv20.getD v38_30.toNat 0)), (9, p76), (84, vb rv98)] [0, 1, 2, 3, 4, 5, 6, 7, 8, 9, 10, 11, 12, 13, 14, 15, 16, 17, 18, 19] [SP.fact (True)] ?_
   refine Jk [1, 1, 2, 3, 4, 5, 6, 7, 7, 7, 8, 9, 10, 11, 11, 11, 11, 12, 13] ?_
   refine Kc ?_ ?_
   · intro h100
     refine Jl [0] (Ent.oread _ _ _ _) ?_
     refine Ke ?_
     refine KS ?_
     refine Oq Vadd (Oq Vm (KS ?_))
     exact Kg (r54, st5_28, st6_29, (v38_30 + 1), a31, k32) [7, 7, 7, 8, 9, 10, 0, 10, 10, 10] ⟨(q3 hM33 (by simp only [solver_push_L0, h52, h100, hg21, hg75, hg90, hg99, cs4])), (by omega), (by omega), (by omega), (by omega), iv1, iv1⟩
   intro h100
   refine KS ?_
   refine Jp 8 fun hp103 => ?_
   refine JK_drawK [0, 1, 3, 7, 0, 0, 63, 127] fmix ?_
   refine Dv [] Vm (Dv [0] (Vn 0) (Dv [0] (Vfa fo59_5 0) (Dv [9] (VldF sh25 0) (Dv [] Vm (Dv [19] (VldA sh42 0) (Dv [1] (Vi sl25 0) ?_))))))
   refine Dx0 [1, 18] [1] [1, 0] [fun G => os (vl sta5 stk5 st.Values) (st5_28.set ((rv20.getD v38_30.toNat 0) : Int).toNat rv89.1)] (fun G => xp [0] rfl (Ent.oread _ _ _ _) (xS (So (Rs := [S a94 k95 rv89.1.Words]) [0, 0] sh42 rv89.1 (fun h => ⟨_, rfl, (by unfold i64ok; first | omega | (dsimp only; omega)), sepAll_get (i := 0) rfl h⟩)))) ?_
   refine Dn ⟨by kernel_rfl, fun G => ?_⟩
   refine Jw2 [(1, stP), (2, p10), (5, vi (st.Queue.getD (0 : Int).toNat 0)), (6, vl a23 k24 rv20), (36, vl a23 k24 rv20), (37, vi (rv20.length : Int)), (38, vi v38_30), (8, vi (rv20.getD v38_30.toNat 0))] [0, 2, 3, 4, 5, 6, 7, 8, 9, 10, 11, 12, 13, 14, 15, 16, 17, 18, 19] [os (vl sta5 stk5 st.Values) (st5_28.set ((rv20.getD v38_30.toNat 0) : Int).toNat rv89.1)] ?_
   refine Jk [1, 2, 3, 4, 5, 6, 7, 7, 7, 8, 9, 10, 11, 11, 11, 11, 12, 13, 13] ?_
   refine KS ?_
   refine Oq Vm (Oq (Vn 7) (Oq (Vfa fo59_6 7) (Oq (VldF sh22 7) (Oq Vm ?_))))
   refine letv (slices_Contains_int st6_29 (rv20.getD v38_30.toNat 0)) fun rv104 hg105 => ?_
   refine Oc [6] ca82 (FT_borrow (A := _) (fun _ _ h => by cases h) (FT_ent (Ent.take (is := [0]) rfl) (fn82 st6_29 a31 k32 ((rv20.getD v38_30.toNat 0)) pre rv104 hg105))) ?_ (ht := rfl)
   rintro - -
   refine Oq Vnot (KS ?_)
   refine Kc ?_ ?_
   · intro h106
     have h108 := not_true h106
     refine KS ?_
     refine Oq Vm (Oq Vm (Oq (Vn 7) (Oq (Vfa fo59_6 7) (Oq (VldF sh22 7) (Oq Vm (Oa (AsV sl22 sz22 [vi (rv20.getD v38_30.toNat 0)] [vi (rv20.getD v38_30.toNat 0)]) fun c110 => ?_))))))
     refine Jo 0 ?_; rintro a111 k112 rfl
     refine Jl [0] (Ent.crInt _ [(rv20.getD v38_30.toNat 0)] _ _ rfl rfl (by intro x hx; rw [List.mem_singleton] at hx; subst hx; unfold i64ok; omega) (Nat.le_of_ble_eq_true rfl)) ?_
     refine Oa (ApO [1, 0] sl22 sl22 sz22) fun c113 => ?_
     refine Jo 0 ?_; rintro a114 k115 rfl
     refine Fb 8 0 fun hl116 => ?_
     refine Fo 0 fun ho117 => ?_
     have hn118 := la st6_29 ([(rv20.getD v38_30.toNat 0)] : List Int)
     refine Oq (Vn 7) (Oq (Vfa fo59_6 7) (Ost (SclF [7] sh22 [vi st.Phase, vl sta1 stk1 st.Cone, vl sta2 stk2 st.Leaf, vi st.At, vi st.Edge, vl sta5 stk5 st.Values, vl a114 k115 (st6_29 ++ [(rv20.getD v38_30.toNat 0)]), vi st.Steps]) (KS ?_)))
     refine Oq Vadd (Oq Vm (KS ?_))
     exact Kg (r54, (st5_28.set ((rv20.getD v38_30.toNat 0) : Int).toNat rv89.1), (st6_29 ++ [(rv20.getD v38_30.toNat 0)]), (v38_30 + 1), a114, k115) [1, 0, 6, 7, 8, 9, 16, 10, 10, 10] ⟨(q3 hM33 (by simp only [solver_push_L0, h52, h100, h106, h108, hg21, hg75, hg90, hg99, hg105, cs4])), (by omega), (by omega), (by omega), (by omega), iv1, iv1⟩
   intro h106
   have h120 := not_false h106
   refine KS ?_
   refine Oq Vadd (Oq Vm (KS ?_))
   exact Kg (r54, (st5_28.set ((rv20.getD v38_30.toNat 0) : Int).toNat rv89.1), st6_29, (v38_30 + 1), a31, k32) [0, 6, 6, 7, 8, 9, 16, 10, 10, 10] ⟨(q3 hM33 (by simp only [solver_push_L0, h52, h100, h106, h120, hg21, hg75, hg90, hg99, hg105, cs4])), (by omega), (by omega), (by omega), (by omega), iv1, iv1⟩
 intro h52
 have g122 := of_decide_eq_false h52
 obtain rfl : r27 = 0 := by omega
 refine Ke ?_
 have hR123 := q2 hM33 (st5_28, st6_29) (by simp only [solver_push_L0, h52, hg21, cs4])
 refine KS ?_
 refine Oq Vm (Oq (Vn 1) (Oq (Vfa fo59_6 1) (Oq (VldF sh22 1) (Oq (Vlen sl22) (Oq Veql (KS ?_))))))
 refine Kc ?_ ?_
 · intro h124
   have g125 := eq_of_beq h124
   refine KS ?_
   refine Oq Vm (Oq (Vn 1) (Oq (Vfa fo59_0 1) (Ost (SclF [1] sh3 [vi 3, vl sta1 stk1 st.Cone, vl sta2 stk2 st.Leaf, vi st.At, vi st.Edge, vl sta5 stk5 st.Values, vl a31 k32 st6_29, vi st.Steps]) (KS ?_))))
   refine Oq Vm (Oq (Vlen sl22) (Oq Vadd (Oq Vmin (Oq Va (KS ?_)))))
   have hq := q4 hrr ((min (1 + (rv20.length : Int)) 8), (GState.mk 3 st.Cone st.Leaf st.At st.Edge st5_28 st6_29 st.Steps)) (by simp only [solver_push, h52, h124, hg21, hR123, cs4]); subst hq
   exact Kr (vl sta1 stk1 st.Cone, vl sta2 stk2 st.Leaf, vl sta5 stk5 st.Values, vl a31 k32 st6_29) rfl (.tmp rfl .nil) [0, 7, 6, 5, 0] en
 intro h124
 have g126 := ne_of_beq_false h124
 refine KS ?_
 refine Oq Vm (Oq (Vlen sl22) (Oq Vadd (Oq Vmin (Oq Va (KS ?_)))))
 have hq := q4 hrr ((min (1 + (rv20.length : Int)) 8), (GState.mk st.Phase st.Cone st.Leaf st.At st.Edge st5_28 st6_29 st.Steps)) (by simp only [solver_push, h52, h124, hg21, hR123, cs4]); subst hq
 exact Kr (vl sta1 stk1 st.Cone, vl sta2 stk2 st.Leaf, vl sta5 stk5 st.Values, vl a31 k32 st6_29) rfl (.tmp rfl .nil) [1, 7, 6, 5, 0] en
theorem fn35 (s : GSystem) (sa1 : Option Addr) (sk1 : Nat) (sa2 : Option Addr) (sk2 : Nat) (sa3 : Option Addr) (sk3 : Nat) (k : List GKnown) (ka0 : Option Addr) (kk0 : Nat) (st : GState) (sta1 : Option Addr) (stk1 : Nat) (sta2 : Option Addr) (stk2 : Nat) (sta5 : Option Addr) (stk5 : Nat) (sta6 : Option Addr) (stk6 : Nat) (steps : Int) (hs_0 : i64ok s.Width) (hst_0 : i64ok st.Phase) (hst_3 : i64ok st.At) (hst_4 : i64ok st.Edge) (hst_7 : i64ok st.Steps) (hsteps_0 : i64ok steps) (hs0 : steps ≤ 1000000000) (rr : GState × Int × Int) (hrr : solver_Run s k st steps = rr) : FT Tryz.prog 35 #[.agg #[vi s.Width, vl sa1 sk1 s.Deps, vl sa2 sk2 s.Transfers, vl sa3 sk3 s.Boundary], vl ka0 kk0 k, .agg #[vi st.Phase, vl sta1 stk1 st.Cone, vl sta2 stk2 st.Leaf, vi st.At, vi st.Edge, vl sta5 stk5 st.Values, vl sta6 stk6 st.Queue, vi st.Steps], vi steps] [S sa1 sk1 s.Deps, S sa2 sk2 s.Transfers, S sa3 sk3 s.Boundary, S ka0 kk0 k, S sta1 stk1 st.Cone, S sta2 stk2 st.Leaf, S sta5 stk5 st.Values, S sta6 stk6 st.Queue] (fun g : Value × Value × Value × Value => i64ok rr.1.Phase ∧ i64ok rr.1.At ∧ i64ok rr.1.Edge ∧ i64ok rr.1.Steps ∧ i64ok rr.2.1 ∧ i64ok rr.2.2 ∧ (0 ≤ rr.2.1 ∧ rr.2.1 ≤ 8000000000) ∧ (rr.1.Cone.length ≤ 256)) (fun g => .tuple #[.agg #[vi rr.1.Phase, g.1, g.2.1, vi rr.1.At, vi rr.1.Edge, g.2.2.1, g.2.2.2, vi rr.1.Steps], vi rr.2.1, vi rr.2.2]) (fun g => [sl g.1 rr.1.Cone, sl g.2.1 rr.1.Leaf, sl g.2.2.1 rr.1.Values, sl g.2.2.2 rr.1.Queue]) := by
 refine FTi Tryz.func35 fun w0 M0 F0 => ?_
 unfold i64ok at hs_0 hst_0 hst_3 hst_4 hst_7 hsteps_0
 refine Fb 24 0 fun hl1 => ?_
 refine Fb 88 1 fun hl2 => ?_
 refine Fb 32 2 fun hl3 => ?_
 refine Fb 40 3 fun hl4 => ?_
 refine Fb 8 4 fun hl5 => ?_
 refine Fo 4 fun ho6 => ?_
 refine Fb 1 5 fun hl7 => ?_
 refine Fb 32 6 fun hl8 => ?_
 refine Fb 8 7 fun hl9 => ?_
 refine Fo 7 fun ho10 => ?_
 refine KS ?_
 refine Oa (Ab [vi s.Width, vl sa1 sk1 s.Deps, vl sa2 sk2 s.Transfers, vl sa3 sk3 s.Boundary]) fun p11 => Oa (Ab [vi st.Phase, vl sta1 stk1 st.Cone, vl sta2 stk2 st.Leaf, vi st.At, vi st.Edge, vl sta5 stk5 st.Values, vl sta6 stk6 st.Queue, vi st.Steps]) fun p12 => Oa (Al ze59 [vi 0, .slice none 0 0, .slice none 0 0, vi 0, vi 0, .slice none 0 0, .slice none 0 0, vi 0]) fun p13 => Oq Va (Oq Va (KS ?_))
 refine Ksc ?_
 refine KS ?_
 refine Oq (VldA sh27 2) (Oq Vm (Oq (VldA sh59 1) ?_))
 refine letv (solver_Valid s k st) fun rv14 hg15 => ?_
 have hc16 := fn42 s sa1 sk1 sa2 sk2 sa3 sk3 k ka0 kk0 st sta1 stk1 sta2 stk2 sta5 stk5 sta6 stk6 pre pre pre pre pre rv14 hg15
 refine Oc [3, 4, 5, 6, 7, 8, 9, 10] ca42 hc16 ?_
 rintro - -
 refine Oq Vnot (Oq Vm ?_)
 refine Js 18 ?_ ?_
 · intro h17
   have h19 := not_true h17
   refine Osk (Osk (Oq Vpt (KS ?_)))
   refine Kt ?_
   refine KS ?_
   refine Oq (Vbd st59 [vi 0, .slice none 0 0, .slice none 0 0, vi 0, vi 0, .slice none 0 0, .slice none 0 0, vi 0]) (Ost (Scl [0] sh59 [vi 0, .slice none 0 0, .slice none 0 0, vi 0, vi 0, .slice none 0 0, .slice none 0 0, vi 0]) (Oq Va (Oq Va (KS ?_))))
   refine Jl [] (Ent.slNil (α := Int)) ?_
   refine Jl [] (Ent.slNil (α := Bool)) ?_
   refine Jl [] (Ent.slNil (α := GSet)) ?_
   have hq := q4 hrr ((GState.mk 0 [] [] 0 0 [] [] 0), 0, 1) (by simp only [solver_Run, h17, h19, hg15, cs4]); subst hq
   exact Kr (.slice none 0 0, .slice none 0 0, .slice none 0 0, .slice none 0 0) rfl (.cellN 3 rfl sh59 rfl (reads_Cl _ _) rfl (.tmp rfl (.tmp rfl .nil))) [2, 1, 0, 2] ⟨en, en, en, en, en, en, en, (by first | exact Nat.zero_le _ | exact PV_cone (by assumption))⟩
 intro h17
 have h22 := not_false h17
 refine Oq Vm (Oq Vlss (Oq Vpf (KS ?_)))
 refine Kc ?_ ?_
 · intro h24
   have g25 := of_decide_eq_true h24
   refine KS ?_
   refine Oq (Vbd st59 [vi 0, .slice none 0 0, .slice none 0 0, vi 0, vi 0, .slice none 0 0, .slice none 0 0, vi 0]) (Ost (Scl [0] sh59 [vi 0, .slice none 0 0, .slice none 0 0, vi 0, vi 0, .slice none 0 0, .slice none 0 0, vi 0]) (Oq Va (Oq Va (KS ?_))))
   refine Jl [] (Ent.slNil (α := Int)) ?_
   refine Jl [] (Ent.slNil (α := Bool)) ?_
   refine Jl [] (Ent.slNil (α := GSet)) ?_
   have hq := q4 hrr ((GState.mk 0 [] [] 0 0 [] [] 0), 0, 1) (by simp only [solver_Run, h17, h22, h24, hg15, cs4]); subst hq
   exact Kr (.slice none 0 0, .slice none 0 0, .slice none 0 0, .slice none 0 0) rfl (.cellN 3 rfl sh59 rfl (reads_Cl _ _) rfl (.tmp rfl (.tmp rfl .nil))) [2, 1, 0, 2] ⟨en, en, en, en, en, en, en, (by first | exact Nat.zero_le _ | exact PV_cone (by assumption))⟩
 intro h24
 have g26 := of_decide_eq_false h24
 refine KS ?_
 refine Oq (VldA sh59 1) ?_
 refine letv (solver_copied st) fun rv31 hg32 => ?_
 have hc33 := fn93 st sta1 stk1 sta2 stk2 sta5 stk5 sta6 stk6 pre pre pre pre rv31 hg32
 refine Oc [7, 8, 9, 10] ca93 hc33 ?_
 rintro ⟨c27, c28, c29, c30⟩ ⟨he34, he35, he36, he37⟩
 unfold i64ok at he34 he35 he36 he37
 refine Jo 0 ?_; rintro a38 k39 rfl
 refine Fb 8 0 fun hl40 => ?_
 refine Fo 0 fun ho41 => ?_
 refine Jo 1 ?_; rintro a42 k43 rfl
 refine Fb 1 1 fun hl44 => ?_
 refine Jo 2 ?_; rintro a45 k46 rfl
 refine Fb 32 2 fun hl47 => ?_
 refine Jo 3 ?_; rintro a48 k49 rfl
 refine Fb 8 3 fun hl50 => ?_
 refine Fo 3 fun ho51 => ?_
 have hcs : rv31 = st := (by assumption : solver_copied st = rv31).symm.trans (copied_eq st)
 have hvi : solver_Valid s k rv31 = true := by rw [hcs]; simp only [h17, h22, h24, hg15, hg32]
 refine Oa (Al ze59 [vi 0, .slice none 0 0, .slice none 0 0, vi 0, vi 0, .slice none 0 0, .slice none 0 0, vi 0]) fun p52 => Ost (Scl [0] sh59 [vi rv31.Phase, vl a38 k39 rv31.Cone, vl a42 k43 rv31.Leaf, vi rv31.At, vi rv31.Edge, vl a45 k46 rv31.Values, vl a48 k49 rv31.Queue, vi rv31.Steps]) (KS ?_)
 refine Oq Va (KS ?_)
 refine Klb ?_
 refine KS ?_
 refine Oq Vm (Oq Vm (KS ?_))
 refine Kl (γ := Nat × Int × List Int × List Bool × Int × Int × List GSet × List Int × Int × Int × Int × Option Addr × Nat × Option Addr × Nat × Option Addr × Nat × Option Addr × Nat) (fun (r53, out0_54, out1_55, out2_56, out3_57, out4_58, out5_59, out6_60, out7_61, cost_62, v26_63, a64, k65, a66, k67, a68, k69, a70, k71) => ⟨[(1, vl ka0 kk0 k), (4, p11), (8, p13), (11, p52), (12, vi cost_62), (25, vi steps), (26, vi v26_63)], [O a70 k71 out6_60, O a68 k69 out5_59, O a66 k67 out2_56, O a64 k65 out1_55, Cl p52 [vi out0_54, vl a64 k65 out1_55, vl a66 k67 out2_56, vi out3_57, vi out4_58, vl a68 k69 out5_59, vl a70 k71 out6_60, vi out7_61], Cl p13 [vi 0, .slice none 0 0, .slice none 0 0, vi 0, vi 0, .slice none 0 0, .slice none 0 0, vi 0], pv p11 [vi s.Width, vl sa1 sk1 s.Deps, vl sa2 sk2 s.Transfers, vl sa3 sk3 s.Boundary], S sa1 sk1 s.Deps, S sa2 sk2 s.Transfers, S sa3 sk3 s.Boundary, S ka0 kk0 k], solver_Run_L0 s k r53 out0_54 out1_55 out2_56 out3_57 out4_58 out5_59 out6_60 out7_61 cost_62 v26_63 = solver_Run_L0 s k (((steps : Int) - 0).toNat) rv31.Phase rv31.Cone rv31.Leaf rv31.At rv31.Edge rv31.Values rv31.Queue rv31.Steps 0 0 ∧ r53 = ((steps : Int) - v26_63).toNat ∧ (0 : Int) ≤ v26_63 ∧ (v26_63 ≤ steps ∨ v26_63 = 0) ∧ (-9223372036854775808 ≤ out0_54 ∧ out0_54 ≤ 9223372036854775807) ∧ (-9223372036854775808 ≤ out3_57 ∧ out3_57 ≤ 9223372036854775807) ∧ (-9223372036854775808 ≤ out4_58 ∧ out4_58 ≤ 9223372036854775807) ∧ (-9223372036854775808 ≤ out7_61 ∧ out7_61 ≤ 9223372036854775807) ∧ (-9223372036854775808 ≤ cost_62 ∧ cost_62 ≤ 9223372036854775807) ∧ (-9223372036854775808 ≤ v26_63 ∧ v26_63 ≤ 9223372036854775807) ∧ solver_Valid s k (GState.mk out0_54 out1_55 out2_56 out3_57 out4_58 out5_59 out6_60 out7_61) = true ∧ 0 ≤ cost_62 ∧ cost_62 ≤ 8 * v26_63, r53⟩) (((steps : Int) - 0).toNat, rv31.Phase, rv31.Cone, rv31.Leaf, rv31.At, rv31.Edge, rv31.Values, rv31.Queue, rv31.Steps, 0, 0, a38, k39, a42, k43, a45, k46, a48, k49) [4, 3, 2, 1, 0, 0, 1, 2, 3, 4, 5] ⟨rfl, rfl, (by omega), (.inr rfl), (by omega), (by omega), (by omega), (by omega), (by omega), (by omega), hvi, iv0⟩ ?_
 rintro ⟨r53, out0_54, out1_55, out2_56, out3_57, out4_58, out5_59, out6_60, out7_61, cost_62, v26_63, a64, k65, a66, k67, a68, k69, a70, k71⟩ ⟨hM72, hr73, hi74, hi75, hk76, hk77, hk78, hk79, hk80, hk81, hv82, hv83⟩
 refine JJ_nx fun _ _ hL hA => ?_; dsimp only at hL hA; subst hL hA
 refine Fb 8 0 fun hl84 => ?_
 refine Fo 0 fun ho85 => ?_
 refine Fb 32 1 fun hl86 => ?_
 refine Fb 1 2 fun hl87 => ?_
 refine Fb 8 3 fun hl88 => ?_
 refine Fo 3 fun ho89 => ?_
 refine Fb 24 7 fun hl90 => ?_
 refine Fb 88 8 fun hl91 => ?_
 refine Fb 32 9 fun hl92 => ?_
 refine Fb 40 10 fun hl93 => ?_
 refine KS ?_
 refine Oq Vlss (KS ?_)
 refine Kc ?_ ?_
 · intro h94
   have g95 := of_decide_eq_true h94
   obtain ⟨r96, rfl⟩ := scc (n := r53) (by omega)
   refine KS ?_
   refine Oq (Vfa fo59_0 4) (Oq (VldF sh3 4) (KS ?_))
   refine Oq Veql (Oq Va (KS ?_))
   refine Kc ?_ ?_
   · intro h97
     have g98 := eq_of_beq h97
     refine KS ?_
     refine Oq (VldA sh27 6) (Oq Vm ?_)
     refine letv (solver_expand s k (GState.mk out0_54 out1_55 out2_56 out3_57 out4_58 out5_59 out6_60 out7_61)) fun rv103 hg104 => ?_
     have hc105 := fn94 s sa1 sk1 sa2 sk2 sa3 sk3 k ka0 kk0 p52 (GState.mk out0_54 out1_55 out2_56 out3_57 out4_58 out5_59 out6_60 out7_61) a64 k65 a66 k67 a68 k69 a70 k71 pre pre pre pre pre (PV_facts (by assumption)).1 ((PV_facts (by assumption)).2.1 (by show _ = _; omega)) rv103 hg104
     refine Oc [7, 8, 9, 10, 4, 3, 2, 1, 0] ca94 hc105 ?_
     rintro ⟨c99, c100, c101, c102⟩ ⟨he106, he107, he108, he109⟩
     unfold i64ok at he106 he107 he108 he109
     refine Jo 1 ?_; rintro a110 k111 rfl
     refine Fb 8 1 fun hl112 => ?_
     refine Fo 1 fun ho113 => ?_
     refine Jo 2 ?_; rintro a114 k115 rfl
     refine Fb 1 2 fun hl116 => ?_
     refine Jo 3 ?_; rintro a117 k118 rfl
     refine Fb 32 3 fun hl119 => ?_
     refine Jo 4 ?_; rintro a120 k121 rfl
     refine Fb 8 4 fun hl122 => ?_
     refine Fo 4 fun ho123 => ?_
     have hst := expand_steps (by assumption : solver_expand s k (GState.mk out0_54 out1_55 out2_56 out3_57 out4_58 out5_59 out6_60 out7_61) = rv103)
     have hsb := PV_steps (s := s) (k := k) (st := (GState.mk out0_54 out1_55 out2_56 out3_57 out4_58 out5_59 out6_60 out7_61)) (by assumption)
     dsimp only at hst hsb
     refine KS ?_
     refine Oq Vm (Oq Vadd (Oq Va (KS ?_)))
     refine Oq (Vfa fo59_7 0) (Oq (VldF sh3 0) (Oq Vadd (Oq Vmin (Oq (Vfa fo59_7 0) (Ost (SclF [0] sh3 [vi rv103.Phase, vl a110 k111 rv103.Cone, vl a114 k115 rv103.Leaf, vi rv103.At, vi rv103.Edge, vl a117 k118 rv103.Values, vl a120 k121 rv103.Queue, vi (min (rv103.Steps + 1) 1073741824)]) (KS ?_))))))
     refine Oq Vadd (Oq Vm (KS ?_))
     exact Kg (r96, rv103.Phase, rv103.Cone, rv103.Leaf, rv103.At, rv103.Edge, rv103.Values, rv103.Queue, (min (rv103.Steps + 1) 1073741824), (cost_62 + 1), (v26_63 + 1), a110, k111, a114, k115, a117, k118, a120, k121) [4, 3, 2, 1, 0, 0, 0, 1, 2, 3, 4] ⟨(q3 hM72 (by simp only [solver_Run_L0, h17, h22, h24, h94, h97, hg15, hg32, hg104, cs4])), (by omega), (by omega), (by omega), (by omega), (by omega), (by omega), (by omega), (by omega), (by omega), (by first | exact expand_V (by assumption) (by show _ = _; omega) _ (by assumption) | exact push_V (by assumption) (by show _ = _; omega) _ (by assumption)), iv1⟩
   intro h97
   have g124 := ne_of_beq_false h97
   refine KS ?_
   refine Oq Veql (Oq Va (KS ?_))
   refine Kc ?_ ?_
   · intro h125
     have g126 := eq_of_beq h125
     refine KS ?_
     refine Oq Vm (Oq (VldA sh27 6) ?_)
     refine letv (solver_push s (GState.mk out0_54 out1_55 out2_56 out3_57 out4_58 out5_59 out6_60 out7_61)) fun rv131 hg132 => ?_
     have hc133 := fn95 s sa1 sk1 sa2 sk2 sa3 sk3 p52 (GState.mk out0_54 out1_55 out2_56 out3_57 out4_58 out5_59 out6_60 out7_61) a64 k65 a66 k67 a68 k69 a70 k71 pre pre pre pre pre (PV_facts (by assumption)).1 ((PV_facts (by assumption)).2.2.1 (by show _ = _; omega)) rv131 hg132
     refine Oc [7, 8, 9, 4, 3, 2, 1, 0] ca95 hc133 ?_
     rintro ⟨c127, c128, c129, c130⟩ ⟨he134, he135, he136, he137, he138, he139⟩
     unfold i64ok at he134 he135 he136 he137 he138
     refine Jo 1 ?_; rintro a140 k141 rfl
     refine Fb 8 1 fun hl142 => ?_
     refine Fo 1 fun ho143 => ?_
     refine Jo 2 ?_; rintro a144 k145 rfl
     refine Fb 1 2 fun hl146 => ?_
     refine Jo 3 ?_; rintro a147 k148 rfl
     refine Fb 32 3 fun hl149 => ?_
     refine Jo 4 ?_; rintro a150 k151 rfl
     refine Fb 8 4 fun hl152 => ?_
     refine Fo 4 fun ho153 => ?_
     have hst := push_steps (by assumption : solver_push s (GState.mk out0_54 out1_55 out2_56 out3_57 out4_58 out5_59 out6_60 out7_61) = rv131)
     have hsb := PV_steps (s := s) (k := k) (st := (GState.mk out0_54 out1_55 out2_56 out3_57 out4_58 out5_59 out6_60 out7_61)) (by assumption)
     dsimp only at hst hsb
     refine Oq Vadd (Oq Va (KS ?_))
     refine Oq (Vfa fo59_7 0) (Oq (VldF sh3 0) (Oq Vadd (Oq Vmin (Oq (Vfa fo59_7 0) (Ost (SclF [0] sh3 [vi rv131.2.Phase, vl a140 k141 rv131.2.Cone, vl a144 k145 rv131.2.Leaf, vi rv131.2.At, vi rv131.2.Edge, vl a147 k148 rv131.2.Values, vl a150 k151 rv131.2.Queue, vi (min (rv131.2.Steps + 1) 1073741824)]) (KS ?_))))))
     refine Oq Vadd (Oq Vm (KS ?_))
     exact Kg (r96, rv131.2.Phase, rv131.2.Cone, rv131.2.Leaf, rv131.2.At, rv131.2.Edge, rv131.2.Values, rv131.2.Queue, (min (rv131.2.Steps + 1) 1073741824), (cost_62 + rv131.1), (v26_63 + 1), a140, k141, a144, k145, a147, k148, a150, k151) [4, 3, 2, 1, 0, 0, 0, 1, 2, 3, 4] ⟨(q3 hM72 (by simp only [solver_Run_L0, h17, h22, h24, h94, h97, h125, hg15, hg32, hg132, cs4])), (by omega), (by omega), (by omega), (by omega), (by omega), (by omega), (by omega), (by omega), (by omega), (by first | exact expand_V (by assumption) (by show _ = _; omega) _ (by assumption) | exact push_V (by assumption) (by show _ = _; omega) _ (by assumption)), iv1⟩
   intro h125
   have g154 := ne_of_beq_false h125
   refine Ke ?_
   have hR155 := q2 hM72 (out0_54, out1_55, out2_56, out3_57, out4_58, out5_59, out6_60, out7_61, cost_62) (by simp only [solver_Run_L0, h17, h22, h24, h94, h97, h125, hg15, hg32, cs4])
   refine KS ?_
   refine Oq (VldA sh59 4) (Oq Vm (Ost (Scl [5] sh59 [vi out0_54, vl a64 k65 out1_55, vl a66 k67 out2_56, vi out3_57, vi out4_58, vl a68 k69 out5_59, vl a70 k71 out6_60, vi out7_61]) (Oq Va (Oq Va (KS ?_)))))
   refine Jl [4] (Ent.freeze _ _) ?_
   refine Jl [4] (Ent.freeze _ _) ?_
   refine Jl [4] (Ent.freeze _ _) ?_
   refine Jl [4] (Ent.freeze _ _) ?_
   have hq := q4 hrr ((GState.mk out0_54 out1_55 out2_56 out3_57 out4_58 out5_59 out6_60 out7_61), cost_62, 0) (by simp only [solver_Run, h17, h22, h24, h94, h97, h125, hg15, hg32, hR155, cs4]); subst hq
   exact Kr (vl a64 k65 out1_55, vl a66 k67 out2_56, vl a68 k69 out5_59, vl a70 k71 out6_60) rfl (.cellN 4 rfl sh59 rfl (reads_Cl _ _) rfl (.tmp rfl (.tmp rfl .nil))) [3, 2, 1, 0] ⟨en, en, en, en, en, en, en, (by first | exact Nat.zero_le _ | exact PV_cone (by assumption))⟩
 intro h94
 have g156 := of_decide_eq_false h94
 obtain rfl : r53 = 0 := by omega
 refine Ke ?_
 have hR157 := q2 hM72 (out0_54, out1_55, out2_56, out3_57, out4_58, out5_59, out6_60, out7_61, cost_62) (by simp only [solver_Run_L0, h17, h22, h24, h94, hg15, hg32, cs4])
 refine KS ?_
 refine Oq (VldA sh59 4) (Oq Vm (Ost (Scl [5] sh59 [vi out0_54, vl a64 k65 out1_55, vl a66 k67 out2_56, vi out3_57, vi out4_58, vl a68 k69 out5_59, vl a70 k71 out6_60, vi out7_61]) (Oq Va (Oq Va (KS ?_)))))
 refine Jl [4] (Ent.freeze _ _) ?_
 refine Jl [4] (Ent.freeze _ _) ?_
 refine Jl [4] (Ent.freeze _ _) ?_
 refine Jl [4] (Ent.freeze _ _) ?_
 have hq := q4 hrr ((GState.mk out0_54 out1_55 out2_56 out3_57 out4_58 out5_59 out6_60 out7_61), cost_62, 0) (by simp only [solver_Run, h17, h22, h24, h94, hg15, hg32, hR157, cs4]); subst hq
 exact Kr (vl a64 k65 out1_55, vl a66 k67 out2_56, vl a68 k69 out5_59, vl a70 k71 out6_60) rfl (.cellN 4 rfl sh59 rfl (reads_Cl _ _) rfl (.tmp rfl (.tmp rfl .nil))) [3, 2, 1, 0] ⟨en, en, en, en, en, en, en, (by first | exact Nat.zero_le _ | exact PV_cone (by assumption))⟩
theorem fn38 (root : Int) (hroot_0 : i64ok root) (rr : GState) (hrr : solver_Start root = rr) : FT Tryz.prog 38 #[vi root] [] (fun g : Value × Value × Value × Value => i64ok rr.Phase ∧ i64ok rr.At ∧ i64ok rr.Edge ∧ i64ok rr.Steps) (fun g => .agg #[vi rr.Phase, g.1, g.2.1, vi rr.At, vi rr.Edge, g.2.2.1, g.2.2.2, vi rr.Steps]) (fun g => [sl g.1 rr.Cone, sl g.2.1 rr.Leaf, sl g.2.2.1 rr.Values, sl g.2.2.2 rr.Queue]) := by
 refine FTi Tryz.func38 fun w0 M0 F0 => ?_
 unfold i64ok at hroot_0
 refine KS ?_
 refine Oa (Al ze59 [vi 0, .slice none 0 0, .slice none 0 0, vi 0, vi 0, .slice none 0 0, .slice none 0 0, vi 0]) fun p1 => KS ?_
 refine Oq Vm (Oa (AsV sl22 sz22 [vi root] [vi root]) fun c2 => ?_)
 refine Jo 0 ?_; rintro a3 k4 rfl
 refine Oa (AsV sl57 sz57 [vb false] [vb false]) fun c5 => ?_
 refine Jo 0 ?_; rintro a6 k7 rfl
 refine Oq (Vbd st59 [vi 1, .slice a3 1 k4, .slice a6 1 k7, vi 0, vi 0, .slice none 0 0, .slice none 0 0, vi 0]) (Ost (Scl [2] sh59 [vi 1, .slice a3 1 k4, .slice a6 1 k7, vi 0, vi 0, .slice none 0 0, .slice none 0 0, vi 0]) (KS ?_))
 refine Jl [2] (Ent.crInt _ [root] _ _ rfl rfl (by intro x hx; rw [List.mem_singleton] at hx; subst hx; unfold i64ok; omega) (Nat.le_of_ble_eq_true rfl)) ?_
 refine Jl [0] (Ent.freeze _ _) ?_
 refine Jl [2] (Ent.cr1 (α := Bool) (A := []) _ false _ (Nat.le_of_ble_eq_true rfl) (fun _ => rfl)) ?_
 refine Jl [0] (Ent.freeze _ _) ?_
 refine Jl [] (Ent.slNil (α := GSet)) ?_
 refine Jl [] (Ent.slNil (α := Int)) ?_
 have hq := q4 hrr (GState.mk 1 [root] [false] 0 0 [] [] 0) (by simp only [solver_Start, cs4]); subst hq
 exact Kr (.slice a3 1 k4, .slice a6 1 k7, .slice none 0 0, .slice none 0 0) rfl (.cellN 4 rfl sh59 rfl (reads_Cl _ _) rfl .nil) [3, 2, 1, 0] en
theorem fn41 (s : GSystem) (sa1 : Option Addr) (sk1 : Nat) (sa2 : Option Addr) (sk2 : Nat) (sa3 : Option Addr) (sk3 : Nat) (k : List GKnown) (ka0 : Option Addr) (kk0 : Nat) (st : GState) (sta1 : Option Addr) (stk1 : Nat) (sta2 : Option Addr) (stk2 : Nat) (sta5 : Option Addr) (stk5 : Nat) (sta6 : Option Addr) (stk6 : Nat) (hs_0 : i64ok s.Width) (hst_0 : i64ok st.Phase) (hst_3 : i64ok st.At) (hst_4 : i64ok st.Edge) (hst_7 : i64ok st.Steps) (rr : GState × Int × Int) (hrr : solver_Step s k st = rr) : FT Tryz.prog 41 #[.agg #[vi s.Width, vl sa1 sk1 s.Deps, vl sa2 sk2 s.Transfers, vl sa3 sk3 s.Boundary], vl ka0 kk0 k, .agg #[vi st.Phase, vl sta1 stk1 st.Cone, vl sta2 stk2 st.Leaf, vi st.At, vi st.Edge, vl sta5 stk5 st.Values, vl sta6 stk6 st.Queue, vi st.Steps]] [S sa1 sk1 s.Deps, S sa2 sk2 s.Transfers, S sa3 sk3 s.Boundary, S ka0 kk0 k, S sta1 stk1 st.Cone, S sta2 stk2 st.Leaf, S sta5 stk5 st.Values, S sta6 stk6 st.Queue] (fun g : Value × Value × Value × Value => i64ok rr.1.Phase ∧ i64ok rr.1.At ∧ i64ok rr.1.Edge ∧ i64ok rr.1.Steps ∧ i64ok rr.2.1 ∧ i64ok rr.2.2) (fun g => .tuple #[.agg #[vi rr.1.Phase, g.1, g.2.1, vi rr.1.At, vi rr.1.Edge, g.2.2.1, g.2.2.2, vi rr.1.Steps], vi rr.2.1, vi rr.2.2]) (fun g => [sl g.1 rr.1.Cone, sl g.2.1 rr.1.Leaf, sl g.2.2.1 rr.1.Values, sl g.2.2.2 rr.1.Queue]) := by
 refine FTi Tryz.func41 fun w0 M0 F0 => ?_
 unfold i64ok at hs_0 hst_0 hst_3 hst_4 hst_7
 refine Fb 24 0 fun hl1 => ?_
 refine Fb 88 1 fun hl2 => ?_
 refine Fb 32 2 fun hl3 => ?_
 refine Fb 40 3 fun hl4 => ?_
 refine Fb 8 4 fun hl5 => ?_
 refine Fo 4 fun ho6 => ?_
 refine Fb 1 5 fun hl7 => ?_
 refine Fb 32 6 fun hl8 => ?_
 refine Fb 8 7 fun hl9 => ?_
 refine Fo 7 fun ho10 => ?_
 refine KS ?_
 refine Oa (Ab [vi s.Width, vl sa1 sk1 s.Deps, vl sa2 sk2 s.Transfers, vl sa3 sk3 s.Boundary]) fun p11 => Oa (Ab [vi st.Phase, vl sta1 stk1 st.Cone, vl sta2 stk2 st.Leaf, vi st.At, vi st.Edge, vl sta5 stk5 st.Values, vl sta6 stk6 st.Queue, vi st.Steps]) fun p12 => Oa (Al ze59 [vi 0, .slice none 0 0, .slice none 0 0, vi 0, vi 0, .slice none 0 0, .slice none 0 0, vi 0]) fun p13 => Oq Va (Oq Va (KS ?_))
 refine Oq (VldA sh27 2) (Oq Vm (Oq (VldA sh59 1) ?_))
 refine letv (solver_Valid s k st) fun rv14 hg15 => ?_
 have hc16 := fn42 s sa1 sk1 sa2 sk2 sa3 sk3 k ka0 kk0 st sta1 stk1 sta2 stk2 sta5 stk5 sta6 stk6 pre pre pre pre pre rv14 hg15
 refine Oc [3, 4, 5, 6, 7, 8, 9, 10] ca42 hc16 ?_
 rintro - -
 refine Oq Vnot (Oq Va (KS ?_))
 refine Kc ?_ ?_
 · intro h17
   have h19 := not_true h17
   refine KS ?_
   refine Oq (Vbd st59 [vi 0, .slice none 0 0, .slice none 0 0, vi 0, vi 0, .slice none 0 0, .slice none 0 0, vi 0]) (Ost (Scl [0] sh59 [vi 0, .slice none 0 0, .slice none 0 0, vi 0, vi 0, .slice none 0 0, .slice none 0 0, vi 0]) (Oq Va (Oq Va (KS ?_))))
   refine Jl [] (Ent.slNil (α := Int)) ?_
   refine Jl [] (Ent.slNil (α := Bool)) ?_
   refine Jl [] (Ent.slNil (α := GSet)) ?_
   have hq := q4 hrr ((GState.mk 0 [] [] 0 0 [] [] 0), 0, 1) (by simp only [solver_Step, h17, h19, hg15, cs4]); subst hq
   exact Kr (.slice none 0 0, .slice none 0 0, .slice none 0 0, .slice none 0 0) rfl (.cellN 3 rfl sh59 rfl (reads_Cl _ _) rfl (.tmp rfl (.tmp rfl .nil))) [2, 1, 0, 2] en
 intro h17
 have h22 := not_false h17
 refine KS ?_
 refine Oq (Vfa fo59_0 1) (Oq (VldF sh3 1) (Oq Veql (Oq Va (KS ?_))))
 refine Kc ?_ ?_
 · intro h24
   have g25 := eq_of_beq h24
   refine KS ?_
   refine Oq (Vbd st59 [vi 0, .slice none 0 0, .slice none 0 0, vi 0, vi 0, .slice none 0 0, .slice none 0 0, vi 0]) (Ost (Scl [0] sh59 [vi 0, .slice none 0 0, .slice none 0 0, vi 0, vi 0, .slice none 0 0, .slice none 0 0, vi 0]) (Oq Va (Oq Va (KS ?_))))
   refine Jl [] (Ent.slNil (α := Int)) ?_
   refine Jl [] (Ent.slNil (α := Bool)) ?_
   refine Jl [] (Ent.slNil (α := GSet)) ?_
   have hq := q4 hrr ((GState.mk 0 [] [] 0 0 [] [] 0), 0, 10) (by simp only [solver_Step, h17, h22, h24, hg15, cs4]); subst hq
   exact Kr (.slice none 0 0, .slice none 0 0, .slice none 0 0, .slice none 0 0) rfl (.cellN 3 rfl sh59 rfl (reads_Cl _ _) rfl (.tmp rfl (.tmp rfl .nil))) [2, 1, 0, 2] en
 intro h24
 have g26 := ne_of_beq_false h24
 refine KS ?_
 refine Oq (VldA sh27 2) (Oq Vm (Oq (VldA sh59 1) ?_))
 refine letv (solver_Run s k st 1) fun rv31 hg32 => ?_
 have hc33 := fn35 s sa1 sk1 sa2 sk2 sa3 sk3 k ka0 kk0 st sta1 stk1 sta2 stk2 sta5 stk5 sta6 stk6 1 pre pre pre pre pre pre pre rv31 hg32
 refine Oc [3, 4, 5, 6, 7, 8, 9, 10] ca35 hc33 ?_
 rintro ⟨c27, c28, c29, c30⟩ ⟨he34, he35, he36, he37, he38, he39, he40, he41⟩
 unfold i64ok at he34 he35 he36 he37 he38 he39
 refine Jo 0 ?_; rintro a42 k43 rfl
 refine Fb 8 0 fun hl44 => ?_
 refine Fo 0 fun ho45 => ?_
 refine Jo 1 ?_; rintro a46 k47 rfl
 refine Fb 1 1 fun hl48 => ?_
 refine Jo 2 ?_; rintro a49 k50 rfl
 refine Fb 32 2 fun hl51 => ?_
 refine Jo 3 ?_; rintro a52 k53 rfl
 refine Fb 8 3 fun hl54 => ?_
 refine Fo 3 fun ho55 => ?_
 refine Oq Vm (Oq Vx (Oq Vx (Oq Vx (Oa (Al ze59 [vi 0, .slice none 0 0, .slice none 0 0, vi 0, vi 0, .slice none 0 0, .slice none 0 0, vi 0]) fun p56 => Ost (Scl [0] sh59 [vi rv31.1.Phase, vl a42 k43 rv31.1.Cone, vl a46 k47 rv31.1.Leaf, vi rv31.1.At, vi rv31.1.Edge, vl a49 k50 rv31.1.Values, vl a52 k53 rv31.1.Queue, vi rv31.1.Steps]) (Oq Va (Oq Va (KS ?_)))))))
 refine Oq (VldA sh59 0) (Oq Vm (Ost (Scl [5] sh59 [vi rv31.1.Phase, vl a42 k43 rv31.1.Cone, vl a46 k47 rv31.1.Leaf, vi rv31.1.At, vi rv31.1.Edge, vl a49 k50 rv31.1.Values, vl a52 k53 rv31.1.Queue, vi rv31.1.Steps]) (Oq Va (Oq Va (KS ?_)))))
 have hq := q4 hrr (rv31.1, rv31.2.1, 0) (by simp only [solver_Step, h17, h22, h24, hg15, hg32, cs4]); subst hq
 exact Kr (vl a42 k43 rv31.1.Cone, vl a46 k47 rv31.1.Leaf, vl a49 k50 rv31.1.Values, vl a52 k53 rv31.1.Queue) rfl (.cellN 0 rfl sh59 rfl (reads_Cl _ _) rfl (.tmp rfl (.tmp rfl .nil))) [2, 3, 4, 5] en
theorem fn44 (st : GState) (sta1 : Option Addr) (stk1 : Nat) (sta2 : Option Addr) (stk2 : Nat) (sta5 : Option Addr) (stk5 : Nat) (sta6 : Option Addr) (stk6 : Nat) (hst_0 : i64ok st.Phase) (hst_3 : i64ok st.At) (hst_4 : i64ok st.Edge) (hst_7 : i64ok st.Steps) (rr : GSet × Bool) (hrr : solver_Answer st = rr) : FT Tryz.prog 44 #[.agg #[vi st.Phase, vl sta1 stk1 st.Cone, vl sta2 stk2 st.Leaf, vi st.At, vi st.Edge, vl sta5 stk5 st.Values, vl sta6 stk6 st.Queue, vi st.Steps]] [S sta1 stk1 st.Cone, S sta2 stk2 st.Leaf, S sta5 stk5 st.Values, S sta6 stk6 st.Queue] (fun g : Value => i64ok rr.1.Width) (fun g => .tuple #[.agg #[vi rr.1.Width, g], vb rr.2]) (fun g => [sl g rr.1.Words]) := by
 refine FTi Tryz.func44 fun w0 M0 F0 => ?_
 unfold i64ok at hst_0 hst_3 hst_4 hst_7
 refine Fb 8 0 fun hl1 => ?_
 refine Fo 0 fun ho2 => ?_
 refine Fb 1 1 fun hl3 => ?_
 refine Fb 32 2 fun hl4 => ?_
 refine Fb 8 3 fun hl5 => ?_
 refine Fo 3 fun ho6 => ?_
 refine KS ?_
 refine Oa (Ab [vi st.Phase, vl sta1 stk1 st.Cone, vl sta2 stk2 st.Leaf, vi st.At, vi st.Edge, vl sta5 stk5 st.Values, vl sta6 stk6 st.Queue, vi st.Steps]) fun p7 => Oa (Al ze42 [vi 0, .slice none 0 0]) fun p8 => Oq Va (KS ?_)
 refine Oq (Vfa fo59_0 1) (Oq (VldF sh3 1) (Oq Vneq (Oq Vm ?_)))
 refine Js 7 ?_ ?_
 · intro h9
   have g10 := ne_of_bne h9
   refine Osk (Osk (Osk (Osk (Oq Vpt (KS ?_)))))
   refine Kt ?_
   refine KS ?_
   refine Oq (Vbd st42 [vi 0, .slice none 0 0]) (Ost (Scl [0] sh42 [vi 0, .slice none 0 0]) (Oq Va (KS ?_)))
   refine Jl [] (Ent.slNil (α := BitVec 64)) ?_
   have hq := q4 hrr ((GSet.mk 0 []), false) (by simp only [solver_Answer, h9, cs4]); subst hq
   exact Kr (.slice none 0 0) rfl (.cellN 1 rfl sh42 rfl (reads_Cl _ _) rfl (.tmp rfl .nil)) [0] en
 intro h9
 have g11 := eq_of_bne_false h9
 refine Oq (Vfa fo59_5 1) (Oq (VldF sh25 1) (Oq (Vlen sl25) (Oq Veql (Oq Vpf (KS ?_)))))
 refine Kc ?_ ?_
 · intro h12
   have g13 := eq_of_beq h12
   refine KS ?_
   refine Oq (Vbd st42 [vi 0, .slice none 0 0]) (Ost (Scl [0] sh42 [vi 0, .slice none 0 0]) (Oq Va (KS ?_)))
   refine Jl [] (Ent.slNil (α := BitVec 64)) ?_
   have hq := q4 hrr ((GSet.mk 0 []), false) (by simp only [solver_Answer, h9, h12, cs4]); subst hq
   exact Kr (.slice none 0 0) rfl (.cellN 1 rfl sh42 rfl (reads_Cl _ _) rfl (.tmp rfl .nil)) [0] en
 intro h12
 have g14 := ne_of_beq_false h12
 refine KS ?_
 refine Oq (Vfa fo59_5 1) (Oq (VldF sh25 1) (Oq (Vi sl25 4) ?_))
 refine JJ_peek_GSet (0 : Int).toNat 4 rfl rng fun a15 k16 hb17 => ?_
 unfold i64ok at hb17
 refine Fb 8 1 fun hl18 => ?_
 refine Oq (VldA sh42 0) ?_
 refine letv (solver_clone (st.Values.getD (0 : Int).toNat default)) fun rv20 hg21 => ?_
 have hc22 := fn106 ((st.Values.getD (0 : Int).toNat default)) a15 k16 pre rv20 hg21
 refine Oc [1] ca106 hc22 ?_
 rintro c19 he23
 unfold i64ok at he23
 refine Jo 0 ?_; rintro a24 k25 rfl
 refine Fb 8 0 fun hl26 => ?_
 refine Ost (Scl [3] sh42 [vi rv20.Width, vl a24 k25 rv20.Words]) (Oq Va (KS ?_))
 refine Jl [1] (Ent.freeze _ _) ?_
 have hq := q4 hrr (rv20, true) (by simp only [solver_Answer, h9, h12, hg21, cs4]); subst hq
 exact Kr (vl a24 k25 rv20.Words) rfl (.cellN 1 rfl sh42 rfl (reads_Cl _ _) rfl (.tmp rfl .nil)) [0] en
theorem fn96 (width : Int) (hwidth_0 : i64ok width) (hw0 : 0 ≤ width ∧ width ≤ 1000000) (rr : GTransfer) (hrr : flqref1_Identity width = rr) : FT Tryz.prog 96 #[vi width] [] (fun g : Value × Value × Value => i64ok rr.Gen.Width ∧ i64ok rr.Kill.Width) (fun g => .agg #[vi rr.Gen.Width, g.1, vi rr.Kill.Width, g.2.1, g.2.2]) (fun g => [sl g.1 rr.Gen.Words, sl g.2.1 rr.Kill.Words, sl g.2.2 rr.Copies]) := by
 refine FTi Tryz.func96 fun w0 M0 F0 => ?_
 unfold i64ok at hwidth_0
 refine KS ?_
 refine Oa (Al ze98 [vi 0, .slice none 0 0, vi 0, .slice none 0 0, .slice none 0 0]) fun p1 => KS ?_
 refine Oq Vm ?_
 refine letv (flqref1_Empty width) fun rv3 hg4 => ?_
 have hc5 := fn67 width pre pre rv3 hg4
 refine Oc [] ca67 hc5 ?_
 rintro c2 ⟨he6, he7, he8⟩
 unfold i64ok at he6
 refine Jo 0 ?_; rintro a9 k10 rfl
 refine Fb 8 0 fun hl11 => ?_
 refine Oq Vm ?_
 have hc13 := fn67 width pre pre rv3 hg4
 refine Oc [] ca67 hc13 ?_
 rintro c12 ⟨he14, he15, he16⟩
 unfold i64ok at he14
 refine Jo 0 ?_; rintro a17 k18 rfl
 refine Oq (Vbd st98 [vi rv3.Width, vl a9 k10 rv3.Words, vi rv3.Width, vl a17 k18 rv3.Words, .slice none 0 0]) (Ost (Scl [2] sh98 [vi rv3.Width, vl a9 k10 rv3.Words, vi rv3.Width, vl a17 k18 rv3.Words, .slice none 0 0]) (KS ?_))
 refine Jl [2] (Ent.freeze _ _) ?_
 refine Jl [2] (Ent.freeze _ _) ?_
 refine Jl [] (Ent.slNil (α := GCopy)) ?_
 have hq := q4 hrr (GTransfer.mk rv3 rv3 []) (by simp only [flqref1_Identity, hg4, cs4]); subst hq
 exact Kr (vl a9 k10 rv3.Words, vl a17 k18 rv3.Words, .slice none 0 0) rfl (.cellN 3 rfl sh98 rfl (reads_Cl _ _) rfl .nil) [2, 1, 0] en
theorem fn97 (width : Int) (hwidth_0 : i64ok width) (hw0 : 0 ≤ width ∧ width ≤ 1000) (rr : GSet) (hrr : flqref1_Full width = rr) : FT Tryz.prog 97 #[vi width] [] (fun g : Value => i64ok rr.Width) (fun g => .agg #[vi rr.Width, g]) (fun g => [sl g rr.Words]) := by
 refine FTi Tryz.func97 fun w0 M0 F0 => ?_
 unfold i64ok at hwidth_0
 refine KS ?_
 refine Oa (Al ze42 [vi 0, .slice none 0 0]) fun p1 => KS ?_
 refine Oq Vm ?_
 refine letv (flqref1_Empty width) fun rv3 hg4 => ?_
 have hc5 := fn67 width pre pre rv3 hg4
 refine Oc [] ca67 hc5 ?_
 rintro c2 ⟨he6, he7, he8⟩
 unfold i64ok at he6
 refine Jo 0 ?_; rintro a9 k10 rfl
 refine Fb 8 0 fun hl11 => ?_
 refine Oa (Al ze42 [vi 0, .slice none 0 0]) fun p12 => Ost (Scl [0] sh42 [vi rv3.Width, vl a9 k10 rv3.Words]) (KS ?_)
 refine Oq Va (KS ?_)
 refine Kl (γ := Nat × Int × List (BitVec 64) × Int × Option Addr × Nat) (fun (r13, s0_14, s1_15, b_16, a17, k18) => ⟨[(0, vi width), (2, p1), (3, p12), (4, vi b_16)], [O a17 k18 s1_15, Cl p12 [vi s0_14, vl a17 k18 s1_15], Cl p1 [vi 0, .slice none 0 0]], flqref1_Full_L0 r13 s0_14 s1_15 b_16 = flqref1_Full_L0 (((width : Int) - 0).toNat) rv3.Width rv3.Words 0 ∧ r13 = ((width : Int) - b_16).toNat ∧ (0 : Int) ≤ b_16 ∧ (b_16 ≤ width ∨ b_16 = 0) ∧ (-9223372036854775808 ≤ s0_14 ∧ s0_14 ≤ 9223372036854775807) ∧ (-9223372036854775808 ≤ b_16 ∧ b_16 ≤ 9223372036854775807) ∧ s0_14 = width, r13⟩) (((width : Int) - 0).toNat, rv3.Width, rv3.Words, 0, a9, k10) [1, 0, 0] ⟨rfl, rfl, (by omega), (.inr rfl), (by omega), (by omega), iv0⟩ ?_
 rintro ⟨r13, s0_14, s1_15, b_16, a17, k18⟩ ⟨hM19, hr20, hi21, hi22, hk23, hk24, hv25⟩
 refine JJ_nx fun _ _ hL hA => ?_; dsimp only at hL hA; subst hL hA
 refine Fb 8 0 fun hl26 => ?_
 refine KS ?_
 refine Oq Vm (Oq Vm (Oq Vlss (KS ?_)))
 refine Kc ?_ ?_
 · intro h27
   have g28 := of_decide_eq_true h27
   obtain ⟨r29, rfl⟩ := scc (n := r13) (by omega)
   refine KS ?_
   refine Oq (VldA sh42 1) (Oq Vm ?_)
   refine letv (flqref1_Put (GSet.mk s0_14 s1_15) b_16) fun rv31 hg32 => ?_
   refine Oc [0] ca79 (FT_borrow (A := _) hlx (FT_ent (Ent.take (is := [0]) rfl) (fn79 ((GSet.mk s0_14 s1_15)) a17 k18 b_16 pre pre pre pre rv31 hg32))) ?_ (ht := rfl)
   rintro c30 ⟨he33, he34, he35⟩
   unfold i64ok at he33
   have he34 : (rv31.Width = s0_14) := he34
   have he35 : (rv31.Words.length = ((s0_14 + 63) / 64).toNat) := he35
   refine Jo 1 ?_; rintro a36 k37 rfl
   refine Fb 8 1 fun hl38 => ?_
   refine Ost (Scl [2] sh42 [vi rv31.Width, vl a36 k37 rv31.Words]) (KS ?_)
   refine Oq Vm (Oq Vadd (Oq Va (KS ?_)))
   exact Kg (r29, rv31.Width, rv31.Words, (b_16 + 1), a36, k37) [2, 0, 1] ⟨(q3 hM19 (by simp only [flqref1_Full_L0, h27, hg4, hg32, cs4])), (by omega), (by omega), (by omega), (by omega), (by omega), iv1⟩
 intro h27
 have g39 := of_decide_eq_false h27
 obtain rfl : r13 = 0 := by omega
 refine Ke ?_
 have hR40 := q2 hM19 (s0_14, s1_15) (by simp only [flqref1_Full_L0, h27, hg4, cs4])
 refine KS ?_
 refine Oq (VldA sh42 1) (Ost (Scl [2] sh42 [vi s0_14, vl a17 k18 s1_15]) (KS ?_))
 refine Jl [1] (Ent.freeze _ _) ?_
 have hq := q4 hrr (GSet.mk s0_14 s1_15) (by simp only [flqref1_Full, h27, hg4, hR40, cs4]); subst hq
 exact Kr (vl a17 k18 s1_15) rfl (.cellN 1 rfl sh42 rfl (reads_Cl _ _) rfl .nil) [0] en
theorem fn37  (rr : Bool) (hrr : flqlaw15_sane = rr) : FT Tryz.prog 37 #[] [] (fun g : Unit => True) (fun g => vb rr) (fun g => []) := by
 refine FTi Tryz.func37 fun w0 M0 F0 => ?_
 refine KS ?_
 refine Oq Va (KS ?_)
 refine Oa (AsV sl23 sz23 [.slice none 0 0] [.slice none 0 0]) fun c1 => ?_
 refine Jo 0 ?_; rintro a2 k3 rfl
 refine letv (flqref1_Identity 1) fun rv7 hg8 => ?_
 have hc9 := fn96 1 pre pre rv7 hg8
 refine Oc [] ca96 hc9 ?_
 rintro ⟨c4, c5, c6⟩ ⟨he10, he11⟩
 unfold i64ok at he10 he11
 refine Jo 0 ?_; rintro a12 k13 rfl
 refine Fb 8 0 fun hl14 => ?_
 refine Jo 1 ?_; rintro a15 k16 rfl
 refine Fb 8 1 fun hl17 => ?_
 refine Jo 2 ?_; rintro a18 k19 rfl
 refine Fb 16 2 fun hl20 => ?_
 refine Oa (AsV sl24 sz24 [.agg #[vi rv7.Gen.Width, vl a12 k13 rv7.Gen.Words, vi rv7.Kill.Width, vl a15 k16 rv7.Kill.Words, vl a18 k19 rv7.Copies]] [vi rv7.Gen.Width, vl a12 k13 rv7.Gen.Words, vi rv7.Kill.Width, vl a15 k16 rv7.Kill.Words, vl a18 k19 rv7.Copies]) fun c21 => ?_
 refine Jo 0 ?_; rintro a22 k23 rfl
 refine letv (flqref1_Full 1) fun rv25 hg26 => ?_
 have hc27 := fn97 1 pre pre rv25 hg26
 refine Oc [] ca97 hc27 ?_
 rintro c24 he28
 unfold i64ok at he28
 refine Jo 0 ?_; rintro a29 k30 rfl
 refine Fb 8 0 fun hl31 => ?_
 refine Oa (AsV sl25 sz25 [.agg #[vi rv25.Width, vl a29 k30 rv25.Words]] [vi rv25.Width, vl a29 k30 rv25.Words]) fun c32 => ?_
 refine Jo 0 ?_; rintro a33 k34 rfl
 refine Oq (Vbd st27 [vi 1, .slice a2 1 k3, .slice a22 1 k23, .slice a33 1 k34]) (Oa (Al ze27 [vi 0, .slice none 0 0, .slice none 0 0, .slice none 0 0]) fun p35 => Ost (Scl [0] sh27 [vi 1, .slice a2 1 k3, .slice a22 1 k23, .slice a33 1 k34]) (KS ?_))
 refine JK_drawK [0, 0, 3, 7, 15, 15, 15, 0, 159, 447, 1023] fmix ?_
 refine Dv [0] (VldA sh27 0) ?_
 refine letv (solver_Start 0) fun rv40 hg41 => ?_
 refine Dx [] [] [0, 1, 2, 3, 4] (fun G => .agg #[vi rv40.Phase, (G.g 1 0), (G.g 1 1), vi rv40.At, vi rv40.Edge, (G.g 1 2), (G.g 1 3), vi rv40.Steps]) [fun G => SP.fact (i64ok rv40.Phase ∧ i64ok rv40.At ∧ i64ok rv40.Edge ∧ i64ok rv40.Steps), fun G => sl (G.g 1 0) rv40.Cone, fun G => sl (G.g 1 1) rv40.Leaf, fun G => sl (G.g 1 2) rv40.Values, fun G => sl (G.g 1 3) rv40.Queue] (fun G => xC [] ca38 (fn38 0 pre rv40 hg41)) ?_
 refine letv (solver_Step (GSystem.mk 1 [([] : List Int)] [rv7] [rv25]) [] rv40) fun rv58 hg59 => ?_
 refine Dx [1, 2, 3, 4, 5, 6, 7, 8, 9, 10, 11, 12] [1, 3, 7] [7, 9, 10, 11, 17, 18, 19, 20, 21, 12, 8, 6, 5, 0, 1, 2, 3, 4] (fun G => .tuple #[.agg #[vi rv58.1.Phase, (G.g 2 0), (G.g 2 1), vi rv58.1.At, vi rv58.1.Edge, (G.g 2 2), (G.g 2 3), vi rv58.1.Steps], vi rv58.2.1, vi rv58.2.2]) [fun G => sl (.slice a2 1 k3) ([([] : List Int)] : List (List Int)), fun G => sl (.slice a22 1 k23) ([rv7] : List GTransfer), fun G => sl (.slice a33 1 k34) ([rv25] : List GSet), fun G => sl (.slice none 0 0) ([] : List GKnown), fun G => SP.fact (i64ok rv58.1.Phase ∧ i64ok rv58.1.At ∧ i64ok rv58.1.Edge ∧ i64ok rv58.1.Steps ∧ i64ok rv58.2.1 ∧ i64ok rv58.2.2), fun G => sl (G.g 2 0) rv58.1.Cone, fun G => sl (G.g 2 1) rv58.1.Leaf, fun G => sl (G.g 2 2) rv58.1.Values, fun G => sl (G.g 2 3) rv58.1.Queue] (fun G => by refine xf 7 rfl ?_; rintro ⟨he60, he61, he62, he63⟩; unfold i64ok at he60 he61 he62 he63; exact xp [6] rfl (Ent.cr1 (α := List Int) (A := []) _ [] _ (Nat.le_of_ble_eq_true rfl) (fun _ => ⟨_, rfl, slrd_nil⟩)) (xp [0] rfl (Ent.freeze _ _) (xp [3, 3, 4, 5] rfl (Ent.cr1 (α := GTransfer) (A := [S a12 k13 rv7.Gen.Words, S a15 k16 rv7.Kill.Words, S a18 k19 rv7.Copies]) _ rv7 _ (Nat.le_of_ble_eq_true rfl) (fun h => ⟨_, _, _, rfl, (by unfold i64ok; first | omega | (dsimp only; omega)), sepAll_get (i := 0) rfl h, (by unfold i64ok; first | omega | (dsimp only; omega)), sepAll_get (i := 1) rfl h, sepAll_get (i := 2) rfl h⟩)) (xp [0] rfl (Ent.freeze _ _) (xp [5, 5] rfl (Ent.cr1 (α := GSet) (A := [S a29 k30 rv25.Words]) _ rv25 _ (Nat.le_of_ble_eq_true rfl) (fun h => ⟨_, rfl, (by unfold i64ok; first | omega | (dsimp only; omega)), sepAll_get (i := 0) rfl h⟩)) (xp [0] rfl (Ent.freeze _ _) (xp [] rfl (Ent.slNil (α := GKnown)) (xD [16, 15, 14, 13, 7, 3, 1, 0] ca41 rfl rfl rfl (FT_open (γ := Value × Value × Value × Value) (I := fun g => i64ok rv58.1.Phase ∧ i64ok rv58.1.At ∧ i64ok rv58.1.Edge ∧ i64ok rv58.1.Steps ∧ i64ok rv58.2.1 ∧ i64ok rv58.2.2) (V := fun g => .tuple #[.agg #[vi rv58.1.Phase, g.1, g.2.1, vi rv58.1.At, vi rv58.1.Edge, g.2.2.1, g.2.2.2, vi rv58.1.Steps], vi rv58.2.1, vi rv58.2.2]) (B := fun g => [sl g.1 rv58.1.Cone, sl g.2.1 rv58.1.Leaf, sl g.2.2.1 rv58.1.Values, sl g.2.2.2 rv58.1.Queue]) (R := sl (G.g 1 3) rv40.Queue) sl_slice (fun aq51 kq52 eq53 => by rw [eq53]; exact FT_ent (Ent.take (is := [1, 2, 3, 4, 5, 6, 7, 0]) rfl) (FT_open (γ := Value × Value × Value × Value) (I := fun g => i64ok rv58.1.Phase ∧ i64ok rv58.1.At ∧ i64ok rv58.1.Edge ∧ i64ok rv58.1.Steps ∧ i64ok rv58.2.1 ∧ i64ok rv58.2.2) (V := fun g => .tuple #[.agg #[vi rv58.1.Phase, g.1, g.2.1, vi rv58.1.At, vi rv58.1.Edge, g.2.2.1, g.2.2.2, vi rv58.1.Steps], vi rv58.2.1, vi rv58.2.2]) (B := fun g => [sl g.1 rv58.1.Cone, sl g.2.1 rv58.1.Leaf, sl g.2.2.1 rv58.1.Values, sl g.2.2.2 rv58.1.Queue]) (R := sl (G.g 1 2) rv40.Values) sl_slice (fun aq48 kq49 eq50 => by rw [eq50]; exact FT_ent (Ent.take (is := [1, 2, 3, 4, 5, 6, 0, 7]) rfl) (FT_open (γ := Value × Value × Value × Value) (I := fun g => i64ok rv58.1.Phase ∧ i64ok rv58.1.At ∧ i64ok rv58.1.Edge ∧ i64ok rv58.1.Steps ∧ i64ok rv58.2.1 ∧ i64ok rv58.2.2) (V := fun g => .tuple #[.agg #[vi rv58.1.Phase, g.1, g.2.1, vi rv58.1.At, vi rv58.1.Edge, g.2.2.1, g.2.2.2, vi rv58.1.Steps], vi rv58.2.1, vi rv58.2.2]) (B := fun g => [sl g.1 rv58.1.Cone, sl g.2.1 rv58.1.Leaf, sl g.2.2.1 rv58.1.Values, sl g.2.2.2 rv58.1.Queue]) (R := sl (G.g 1 1) rv40.Leaf) sl_slice (fun aq45 kq46 eq47 => by rw [eq47]; exact FT_ent (Ent.take (is := [1, 2, 3, 4, 5, 0, 6, 7]) rfl) (FT_open (γ := Value × Value × Value × Value) (I := fun g => i64ok rv58.1.Phase ∧ i64ok rv58.1.At ∧ i64ok rv58.1.Edge ∧ i64ok rv58.1.Steps ∧ i64ok rv58.2.1 ∧ i64ok rv58.2.2) (V := fun g => .tuple #[.agg #[vi rv58.1.Phase, g.1, g.2.1, vi rv58.1.At, vi rv58.1.Edge, g.2.2.1, g.2.2.2, vi rv58.1.Steps], vi rv58.2.1, vi rv58.2.2]) (B := fun g => [sl g.1 rv58.1.Cone, sl g.2.1 rv58.1.Leaf, sl g.2.2.1 rv58.1.Values, sl g.2.2.2 rv58.1.Queue]) (R := sl (G.g 1 0) rv40.Cone) sl_slice (fun aq42 kq43 eq44 => by rw [eq44]; exact FT_ent (Ent.take (is := [1, 2, 3, 4, 0, 5, 6, 7]) rfl) (fn41 ((GSystem.mk 1 [([] : List Int)] [rv7] [rv25])) a2 k3 a22 k23 a33 k34 ([]) none 0 rv40 aq42 kq43 aq45 kq46 aq48 kq49 aq51 kq52 pre pre pre pre pre rv58 hg59))))))))))))))))) (Dg [] (fun G => .tuple #[.agg #[vi rv58.1.Phase, (G.g 2 0), (G.g 2 1), vi rv58.1.At, vi rv58.1.Edge, (G.g 2 2), (G.g 2 3), vi rv58.1.Steps], vi rv58.2.1, vi rv58.2.2]) (fun G => Vm) (Dg [] (fun G => .agg #[vi rv58.1.Phase, (G.g 2 0), (G.g 2 1), vi rv58.1.At, vi rv58.1.Edge, (G.g 2 2), (G.g 2 3), vi rv58.1.Steps]) (fun G => Vx) (Dv [] Vx (Dv [] Vx (Dx [] [] [0] (fun G => (G.g 7 0)) [fun G => Cl (G.g 7 0) [vi 0, .slice none 0 0, .slice none 0 0, vi 0, vi 0, .slice none 0 0, .slice none 0 0, vi 0]] (fun G => xA (Al ze59 [vi 0, .slice none 0 0, .slice none 0 0, vi 0, vi 0, .slice none 0 0, .slice none 0 0, vi 0])) (Dx0 [18, 19, 20, 21, 22] [22] [1, 2, 3, 4, 0] [fun G => Cl (G.g 7 0) [vi rv58.1.Phase, (G.g 2 0), (G.g 2 1), vi rv58.1.At, vi rv58.1.Edge, (G.g 2 2), (G.g 2 3), vi rv58.1.Steps]] (fun G => x1 0 rfl sl_one fun ho65 => (x1 1 rfl sl_one fun ho66 => (x1 2 rfl sl_one fun ho67 => (x1 3 rfl sl_one fun ho68 => (xS (Scl [4] sh59 [vi rv58.1.Phase, (G.g 2 0), (G.g 2 1), vi rv58.1.At, vi rv58.1.Edge, (G.g 2 2), (G.g 2 3), vi rv58.1.Steps] (v := .agg #[vi rv58.1.Phase, (G.g 2 0), (G.g 2 1), vi rv58.1.At, vi rv58.1.Edge, (G.g 2 2), (G.g 2 3), vi rv58.1.Steps]) (h1 := show [vi rv58.1.Phase, (G.g 2 0), (G.g 2 1), vi rv58.1.At, vi rv58.1.Edge, (G.g 2 2), (G.g 2 3), vi rv58.1.Steps].all (·.oneCell') = true from (by simp only [List.all_cons, List.all_nil, ho65, ho66, ho67, ho68, Bool.and_true, Bool.true_and] <;> rfl)))))))) (Dv [] Va (Dv [] Va ?_))))))))
 refine Dn ⟨by kernel_rfl, fun G => ?_⟩
 refine Jw2 [(1, p35), (2, (G.g 7 0)), (3, vi rv58.2.1), (4, vi rv58.2.2)] [0, 2, 4, 5, 6] [SP.fact (i64ok rv40.Phase ∧ i64ok rv40.At ∧ i64ok rv40.Edge ∧ i64ok rv40.Steps), sl (G.g 1 0) rv40.Cone, sl (G.g 1 1) rv40.Leaf, sl (G.g 1 2) rv40.Values, sl (G.g 1 3) rv40.Queue, sl (.slice a2 1 k3) ([([] : List Int)] : List (List Int)), sl (.slice a22 1 k23) ([rv7] : List GTransfer), sl (.slice a33 1 k34) ([rv25] : List GSet), sl (.slice none 0 0) ([] : List GKnown), SP.fact (i64ok rv58.1.Phase ∧ i64ok rv58.1.At ∧ i64ok rv58.1.Edge ∧ i64ok rv58.1.Steps ∧ i64ok rv58.2.1 ∧ i64ok rv58.2.2), sl (G.g 2 0) rv58.1.Cone, sl (G.g 2 1) rv58.1.Leaf, sl (G.g 2 2) rv58.1.Values, sl (G.g 2 3) rv58.1.Queue, Cl (G.g 7 0) [vi rv58.1.Phase, (G.g 2 0), (G.g 2 1), vi rv58.1.At, vi rv58.1.Edge, (G.g 2 2), (G.g 2 3), vi rv58.1.Steps]] ?_
 generalize G.g 1 0 = c36, G.g 1 1 = c37, G.g 1 2 = c38, G.g 1 3 = c39, G.g 2 0 = c54, G.g 2 1 = c55, G.g 2 2 = c56, G.g 2 3 = c57, G.g 7 0 = p64
 refine Jf 5 rfl ?_; rintro ⟨he69, he70, he71, he72⟩
 unfold i64ok at he69 he70 he71 he72
 refine Jf 14 rfl ?_; rintro ⟨he73, he74, he75, he76, he77, he78⟩
 unfold i64ok at he73 he74 he75 he76 he77 he78
 refine Jk [0, 0, 1, 2, 3, 5, 6, 7, 8, 9, 10, 11, 12, 14, 15, 16, 17, 18] ?_
 refine Jo 5 ?_; rintro a79 k80 rfl
 refine Fb 8 5 fun hl81 => ?_
 refine Fo 5 fun ho82 => ?_
 refine Jo 6 ?_; rintro a83 k84 rfl
 refine Fb 1 6 fun hl85 => ?_
 refine Jo 7 ?_; rintro a86 k87 rfl
 refine Fb 32 7 fun hl88 => ?_
 refine Jo 8 ?_; rintro a89 k90 rfl
 refine Fb 8 8 fun hl91 => ?_
 refine Fo 8 fun ho92 => ?_
 refine Jo 13 ?_; rintro a93 k94 rfl
 refine Fb 8 13 fun hl95 => ?_
 refine Fo 13 fun ho96 => ?_
 refine Jo 14 ?_; rintro a97 k98 rfl
 refine Fb 1 14 fun hl99 => ?_
 refine Jo 15 ?_; rintro a100 k101 rfl
 refine Fb 32 15 fun hl102 => ?_
 refine Jo 16 ?_; rintro a103 k104 rfl
 refine Fb 8 16 fun hl105 => ?_
 refine Fo 16 fun ho106 => ?_
 refine KS ?_
 refine Oq (VldA sh27 0) (Oq (VldA sh59 17) ?_)
 refine Fl 9 fun hn107 => ?_; try unfold vl; rw [← hn107]
 refine Fl 10 fun hn108 => ?_; try unfold vl; rw [← hn108]
 refine Fl 11 fun hn109 => ?_; try unfold vl; rw [← hn109]
 refine letv (solver_Step (GSystem.mk 1 [([] : List Int)] [rv7] [rv25]) [] rv58.1) fun rv114 hg115 => ?_
 have hc116 := fn41 ((GSystem.mk 1 [([] : List Int)] [rv7] [rv25])) a2 k3 a22 k23 a33 k34 ([]) none 0 rv58.1 a93 k94 a97 k98 a100 k101 a103 k104 pre pre pre pre pre rv114 hg115
 refine Oc [9, 10, 11, 12, 13, 14, 15, 16] ca41 hc116 ?_
 rintro ⟨c110, c111, c112, c113⟩ ⟨he117, he118, he119, he120, he121, he122⟩
 unfold i64ok at he117 he118 he119 he120 he121 he122
 refine Jo 0 ?_; rintro a123 k124 rfl
 refine Fb 8 0 fun hl125 => ?_
 refine Fo 0 fun ho126 => ?_
 refine Jo 1 ?_; rintro a127 k128 rfl
 refine Fb 1 1 fun hl129 => ?_
 refine Jo 2 ?_; rintro a130 k131 rfl
 refine Fb 32 2 fun hl132 => ?_
 refine Jo 3 ?_; rintro a133 k134 rfl
 refine Fb 8 3 fun hl135 => ?_
 refine Fo 3 fun ho136 => ?_
 refine Oq Vm (Oq Vx (Oq Vx (Oq Vx (Oa (Al ze59 [vi 0, .slice none 0 0, .slice none 0 0, vi 0, vi 0, .slice none 0 0, .slice none 0 0, vi 0]) fun p137 => Ost (Scl [0] sh59 [vi rv114.1.Phase, vl a123 k124 rv114.1.Cone, vl a127 k128 rv114.1.Leaf, vi rv114.1.At, vi rv114.1.Edge, vl a130 k131 rv114.1.Values, vl a133 k134 rv114.1.Queue, vi rv114.1.Steps]) (Oq Va (Oq Va (KS ?_)))))))
 refine Oq (VldA sh59 0) ?_
 refine letv (solver_Answer rv114.1) fun rv139 hg140 => ?_
 have hc141 := fn44 rv114.1 a123 k124 a127 k128 a130 k131 a133 k134 pre pre pre pre rv139 hg140
 refine Oc [1, 2, 3, 4] ca44 hc141 ?_
 rintro c138 he142
 unfold i64ok at he142
 refine Jo 0 ?_; rintro a143 k144 rfl
 refine Fb 8 0 fun hl145 => ?_
 refine Oq Vm (Oq Vx (Oq Vx (Oa (Al ze42 [vi 0, .slice none 0 0]) fun p146 => Ost (Scl [0] sh42 [vi rv139.1.Width, vl a143 k144 rv139.1.Words]) (Oq Va (KS ?_)))))
 refine Oq (VldA sh27 7) (Oq (VldA sh59 2) ?_)
 refine letv (solver_Step (GSystem.mk 1 [([] : List Int)] [rv7] [rv25]) [] rv114.1) fun rv151 hg152 => ?_
 have hc153 := fn41 ((GSystem.mk 1 [([] : List Int)] [rv7] [rv25])) a2 k3 a22 k23 a33 k34 ([]) none 0 rv114.1 a123 k124 a127 k128 a130 k131 a133 k134 pre pre pre pre pre rv151 hg152
 refine Oc [16, 17, 18, 19, 3, 4, 5, 6] ca41 hc153 ?_
 rintro ⟨c147, c148, c149, c150⟩ ⟨he154, he155, he156, he157, he158, he159⟩
 unfold i64ok at he154 he155 he156 he157 he158 he159
 refine Jo 0 ?_; rintro a160 k161 rfl
 refine Fb 8 0 fun hl162 => ?_
 refine Fo 0 fun ho163 => ?_
 refine Jo 1 ?_; rintro a164 k165 rfl
 refine Fb 1 1 fun hl166 => ?_
 refine Jo 2 ?_; rintro a167 k168 rfl
 refine Fb 32 2 fun hl169 => ?_
 refine Jo 3 ?_; rintro a170 k171 rfl
 refine Fb 8 3 fun hl172 => ?_
 refine Fo 3 fun ho173 => ?_
 refine Oq Vm (Oq Vx (Oq Vx (Oq Vx (Oa (Al ze59 [vi 0, .slice none 0 0, .slice none 0 0, vi 0, vi 0, .slice none 0 0, .slice none 0 0, vi 0]) fun p174 => Ost (Scl [0] sh59 [vi rv151.1.Phase, vl a160 k161 rv151.1.Cone, vl a164 k165 rv151.1.Leaf, vi rv151.1.At, vi rv151.1.Edge, vl a167 k168 rv151.1.Values, vl a170 k171 rv151.1.Queue, vi rv151.1.Steps]) (Oq Va (Oq Va (KS ?_)))))))
 refine Jp 29 fun hp175 => ?_
 refine Jp 8 fun hp176 => ?_
 refine JK_drawK [0, 1, 3, 7, 15, 31, 63, 127, 255, 511, 1023, 2047, 4095, 8191, 16383, 32767, 65535, 131071, 262143, 524287, 1048575, 2097151, 4194303, 8388607, 16777215, 33554431, 67108863, 134217727, 268435455, 268435455, 1073741823, 2147483647, 4294967295, 8589934591, 17179869183, 34359738367, 68719476735] fmix ?_
 refine Dv [] Vm (Dv [] Veql ?_)
 refine bool_split (rv58.2.2 == 0) ?_ ?_
 · intro h177
   have g178 := eq_of_beq h177
   refine Db h177 [] Vm (Dv [] Vm (Dv [] Veql (Dv [] Vpt ?_)))
   refine bool_split (rv114.2.2 == 0) ?_ ?_
   · intro h179
     have g180 := eq_of_beq h179
     refine Db h179 [] Vm (Dv [] Vm (Dv [] Veql (Dv [] Vpt ?_)))
     refine bool_split (rv58.2.1 == 1) ?_ ?_
     · intro h181
       have g182 := eq_of_beq h181
       refine Db h181 [] Vm (Dv [] Vm (Dv [] Veql (Dv [] Vpt ?_)))
       refine bool_split (rv114.2.1 == 1) ?_ ?_
       · intro h183
         have g184 := eq_of_beq h183
         refine Db h183 [] Vm (Dv [1] (Vfa fo59_0 0) (Dv [31] (VldF sh3 0) (Dv [] Veql (Dv [] Vpt ?_))))
         refine bool_split (rv58.1.Phase == 2) ?_ ?_
         · intro h185
           have g186 := eq_of_beq h185
           refine Db h185 [] Vm (Dv [0] (Vfa fo59_0 0) (Dv [9] (VldF sh3 0) (Dv [] Veql (Dv [] Vpt ?_))))
           refine bool_split (rv114.1.Phase == 3) ?_ ?_
           · intro h187
             have g188 := eq_of_beq h187
             refine Db h187 [] Vm (Dv [] Vm (Dv [] Vpt ?_))
             refine bool_split rv139.2 ?_ ?_
             · intro h189
               refine Db h189 [] Vm (Dv [7] (VldA sh42 0) (Dx [] [] [0, 1] (fun G => .agg #[vi rv25.Width, (G.g 29 0)]) [fun G => SP.fact (i64ok rv25.Width), fun G => sl (G.g 29 0) rv25.Words] (fun G => xC [] ca97 (fn97 1 pre pre rv25 hg26)) ?_))
               refine letv (flqref1_Same rv139.1 rv25) fun rv195 hg196 => ?_
               refine Dx [8, 32, 33] [] [1, 2, 3, 0] (fun G => vb rv195) [fun G => SP.fact (True)] (fun G => by refine xf 1 rfl ?_; rintro he197; unfold i64ok at he197; exact xD [2, 0] ca45 rfl rfl rfl (FT_open (γ := Unit) (I := fun g => True) (V := fun g => vb rv195) (B := fun g => []) (R := sl (G.g 29 0) rv25.Words) sl_slice (fun aq192 kq193 eq194 => by rw [eq194]; exact FT_ent (Ent.take (is := [1, 0]) rfl) (fn45 rv139.1 a143 k144 rv25 aq192 kq193 pre pre rv195 hg196)))) (Dv [] Vpt ?_)
               refine bool_split rv195 ?_ ?_
               · intro h198
                 refine Db h198 [] Vm (Dv [] Vm (Dv [] Veql (Dv [] Vpt (Dv [] Va ?_))))
                 refine Dn ⟨by kernel_rfl, fun G => ?_⟩
                 refine Jw2 [(0, vb (rv151.2.2 == 10))] [0, 1, 2, 3, 4, 5, 6, 7, 8, 9, 10, 11, 12, 13, 14, 15, 16, 17, 18, 19, 20, 21, 22, 23, 24, 25, 26, 27, 28, 29, 30, 31] [SP.fact (i64ok rv25.Width), sl (G.g 29 0) rv25.Words, SP.fact (True)] ?_
                 generalize G.g 29 0 = c191
                 refine Jf 32 rfl ?_; rintro he200
                 unfold i64ok at he200
                 refine Jk [2, 2, 3, 4, 5, 6, 6, 7, 7, 8, 9, 10, 11, 11, 12, 13, 14, 15, 16, 17, 18, 19, 20, 21, 22, 23, 24, 25, 26, 27, 28] ?_
                 refine Jo 30 ?_; rintro a201 k202 rfl
                 have hq := q4 hrr (rv151.2.2 == 10) (by simp only [flqlaw15_sane, h177, h179, h181, h183, h185, h187, h189, h198, hg8, hg26, hg41, hg59, hg115, hg140, hg152, hg196, cs4]); subst hq
                 exact Kr () rfl (.tmp rfl .nil) [] trivial
               intro h198
               refine Db h198 [] Vm (Ds (Ds (Dv [] Vpf (Dv [] Va ?_))))
               refine Dn ⟨by kernel_rfl, fun G => ?_⟩
               refine Jw2 [(0, vb false)] [0, 1, 2, 3, 4, 5, 6, 7, 8, 9, 10, 11, 12, 13, 14, 15, 16, 17, 18, 19, 20, 21, 22, 23, 24, 25, 26, 27, 28, 29, 30, 31] [SP.fact (i64ok rv25.Width), sl (G.g 29 0) rv25.Words, SP.fact (True)] ?_
               generalize G.g 29 0 = c191
               refine Jf 32 rfl ?_; rintro he204
               unfold i64ok at he204
               refine Jk [2, 2, 3, 4, 5, 6, 6, 7, 7, 8, 9, 10, 11, 11, 12, 13, 14, 15, 16, 17, 18, 19, 20, 21, 22, 23, 24, 25, 26, 27, 28] ?_
               refine Jo 30 ?_; rintro a205 k206 rfl
               have hq := q4 hrr false (by simp only [flqlaw15_sane, h177, h179, h181, h183, h185, h187, h189, h198, hg8, hg26, hg41, hg59, hg115, hg140, hg152, hg196, cs4]); subst hq
               exact Kr () rfl (.tmp rfl .nil) [] trivial
             intro h189
             refine Db h189 [] Vm (Ds (Ds (Ds (Dv [] Vpf (Dv [] Vm (Ds (Ds (Dv [] Vpf (Dv [] Va ?_)))))))))
             refine Dn ⟨by kernel_rfl, fun G => ?_⟩
             refine Jw2 [(0, vb false)] [0, 1, 2, 3, 4, 5, 6, 7, 8, 9, 10, 11, 12, 13, 14, 15, 16, 17, 18, 19, 20, 21, 22, 23, 24, 25, 26, 27, 28, 29, 30, 31] [] ?_
             refine Jk [2, 2, 3, 4, 5, 6, 6, 7, 7, 8, 9, 10, 11, 11, 12, 13, 14, 15, 16, 17, 18, 19, 20, 21, 22, 23, 24, 25, 26, 27] ?_
             have hq := q4 hrr false (by simp only [flqlaw15_sane, h177, h179, h181, h183, h185, h187, h189, hg8, hg26, hg41, hg59, hg115, hg140, hg152, cs4]); subst hq
             exact Kr () rfl (.tmp rfl .nil) [] trivial
           intro h187
           have g208 := ne_of_beq_false h187
           refine Db h187 [] Vm (Ds (Dv [] Vpf (Dv [] Vm (Ds (Ds (Ds (Dv [] Vpf (Dv [] Vm (Ds ?_)))))))))
           refine Ds (Dv [] Vpf (Dv [] Va ?_))
           refine Dn ⟨by kernel_rfl, fun G => ?_⟩
           refine Jw2 [(0, vb false)] [0, 1, 2, 3, 4, 5, 6, 7, 8, 9, 10, 11, 12, 13, 14, 15, 16, 17, 18, 19, 20, 21, 22, 23, 24, 25, 26, 27, 28, 29, 30, 31] [] ?_
           refine Jk [2, 2, 3, 4, 5, 6, 6, 7, 7, 8, 9, 10, 11, 11, 12, 13, 14, 15, 16, 17, 18, 19, 20, 21, 22, 23, 24, 25, 26, 27] ?_
           have hq := q4 hrr false (by simp only [flqlaw15_sane, h177, h179, h181, h183, h185, h187, hg8, hg26, hg41, hg59, hg115, hg140, hg152, cs4]); subst hq
           exact Kr () rfl (.tmp rfl .nil) [] trivial
         intro h185
         have g209 := ne_of_beq_false h185
         refine Db h185 [] Vm (Ds (Ds (Ds (Dv [] Vpf (Dv [] Vm (Ds (Dv [] Vpf (Dv [] Vm (Ds ?_)))))))))
         refine Ds (Ds (Dv [] Vpf (Dv [] Vm (Ds (Ds (Dv [] Vpf (Dv [] Va ?_)))))))
         refine Dn ⟨by kernel_rfl, fun G => ?_⟩
         refine Jw2 [(0, vb false)] [0, 1, 2, 3, 4, 5, 6, 7, 8, 9, 10, 11, 12, 13, 14, 15, 16, 17, 18, 19, 20, 21, 22, 23, 24, 25, 26, 27, 28, 29, 30, 31] [] ?_
         refine Jk [2, 2, 3, 4, 5, 6, 6, 7, 7, 8, 9, 10, 11, 11, 12, 13, 14, 15, 16, 17, 18, 19, 20, 21, 22, 23, 24, 25, 26, 27] ?_
         have hq := q4 hrr false (by simp only [flqlaw15_sane, h177, h179, h181, h183, h185, hg8, hg26, hg41, hg59, hg115, hg140, hg152, cs4]); subst hq
         exact Kr () rfl (.tmp rfl .nil) [] trivial
       intro h183
       have g210 := ne_of_beq_false h183
       refine Db h183 [] Vm (Ds (Ds (Ds (Dv [] Vpf (Dv [] Vm (Ds (Ds (Ds (Dv [] Vpf ?_)))))))))
       refine Dv [] Vm (Ds (Dv [] Vpf (Dv [] Vm (Ds (Ds (Ds (Dv [] Vpf (Dv [] Vm (Ds ?_)))))))))
       refine Ds (Dv [] Vpf (Dv [] Va ?_))
       refine Dn ⟨by kernel_rfl, fun G => ?_⟩
       refine Jw2 [(0, vb false)] [0, 1, 2, 3, 4, 5, 6, 7, 8, 9, 10, 11, 12, 13, 14, 15, 16, 17, 18, 19, 20, 21, 22, 23, 24, 25, 26, 27, 28, 29, 30, 31] [] ?_
       refine Jk [2, 2, 3, 4, 5, 6, 6, 7, 7, 8, 9, 10, 11, 11, 12, 13, 14, 15, 16, 17, 18, 19, 20, 21, 22, 23, 24, 25, 26, 27] ?_
       have hq := q4 hrr false (by simp only [flqlaw15_sane, h177, h179, h181, h183, hg8, hg26, hg41, hg59, hg115, hg140, hg152, cs4]); subst hq
       exact Kr () rfl (.tmp rfl .nil) [] trivial
     intro h181
     have g211 := ne_of_beq_false h181
     refine Db h181 [] Vm (Ds (Ds (Dv [] Vpf (Dv [] Vm (Ds (Ds (Ds (Dv [] Vpf (Dv [] Vm ?_)))))))))
     refine Ds (Ds (Ds (Dv [] Vpf (Dv [] Vm (Ds (Dv [] Vpf (Dv [] Vm (Ds (Ds ?_)))))))))
     refine Ds (Dv [] Vpf (Dv [] Vm (Ds (Ds (Dv [] Vpf (Dv [] Va ?_))))))
     refine Dn ⟨by kernel_rfl, fun G => ?_⟩
     refine Jw2 [(0, vb false)] [0, 1, 2, 3, 4, 5, 6, 7, 8, 9, 10, 11, 12, 13, 14, 15, 16, 17, 18, 19, 20, 21, 22, 23, 24, 25, 26, 27, 28, 29, 30, 31] [] ?_
     refine Jk [2, 2, 3, 4, 5, 6, 6, 7, 7, 8, 9, 10, 11, 11, 12, 13, 14, 15, 16, 17, 18, 19, 20, 21, 22, 23, 24, 25, 26, 27] ?_
     have hq := q4 hrr false (by simp only [flqlaw15_sane, h177, h179, h181, hg8, hg26, hg41, hg59, hg115, hg140, hg152, cs4]); subst hq
     exact Kr () rfl (.tmp rfl .nil) [] trivial
   intro h179
   have g212 := ne_of_beq_false h179
   refine Db h179 [] Vm (Ds (Ds (Dv [] Vpf (Dv [] Vm (Ds (Ds (Dv [] Vpf (Dv [] Vm (Ds ?_)))))))))
   refine Ds (Ds (Dv [] Vpf (Dv [] Vm (Ds (Ds (Ds (Dv [] Vpf (Dv [] Vm (Ds ?_)))))))))
   refine Dv [] Vpf (Dv [] Vm (Ds (Ds (Ds (Dv [] Vpf (Dv [] Vm (Ds (Ds (Dv [] Vpf ?_)))))))))
   refine Dv [] Va ?_
   refine Dn ⟨by kernel_rfl, fun G => ?_⟩
   refine Jw2 [(0, vb false)] [0, 1, 2, 3, 4, 5, 6, 7, 8, 9, 10, 11, 12, 13, 14, 15, 16, 17, 18, 19, 20, 21, 22, 23, 24, 25, 26, 27, 28, 29, 30, 31] [] ?_
   refine Jk [2, 2, 3, 4, 5, 6, 6, 7, 7, 8, 9, 10, 11, 11, 12, 13, 14, 15, 16, 17, 18, 19, 20, 21, 22, 23, 24, 25, 26, 27] ?_
   have hq := q4 hrr false (by simp only [flqlaw15_sane, h177, h179, hg8, hg26, hg41, hg59, hg115, hg140, hg152, cs4]); subst hq
   exact Kr () rfl (.tmp rfl .nil) [] trivial
 intro h177
 have g213 := ne_of_beq_false h177
 refine Db h177 [] Vm (Ds (Ds (Dv [] Vpf (Dv [] Vm (Ds (Ds (Dv [] Vpf (Dv [] Vm (Ds ?_)))))))))
 refine Ds (Dv [] Vpf (Dv [] Vm (Ds (Ds (Ds (Dv [] Vpf (Dv [] Vm (Ds (Ds ?_)))))))))
 refine Ds (Dv [] Vpf (Dv [] Vm (Ds (Dv [] Vpf (Dv [] Vm (Ds (Ds (Ds (Dv [] Vpf ?_)))))))))
 refine Dv [] Vm (Ds (Ds (Dv [] Vpf (Dv [] Va ?_))))
 refine Dn ⟨by kernel_rfl, fun G => ?_⟩
 refine Jw2 [(0, vb false)] [0, 1, 2, 3, 4, 5, 6, 7, 8, 9, 10, 11, 12, 13, 14, 15, 16, 17, 18, 19, 20, 21, 22, 23, 24, 25, 26, 27, 28, 29, 30, 31] [] ?_
 refine Jk [2, 2, 3, 4, 5, 6, 6, 7, 7, 8, 9, 10, 11, 11, 12, 13, 14, 15, 16, 17, 18, 19, 20, 21, 22, 23, 24, 25, 26, 27] ?_
 have hq := q4 hrr false (by simp only [flqlaw15_sane, h177, hg8, hg26, hg41, hg59, hg115, hg140, hg152, cs4]); subst hq
 exact Kr () rfl (.tmp rfl .nil) [] trivial
theorem fn40 (a : List Int) (aa0 : Option Addr) (ak0 : Nat) (b : List Int) (ba0 : Option Addr) (bk0 : Nat) (rr : Bool) (hrr : flqref7_Ints a b = rr) : FT Tryz.prog 40 #[vl aa0 ak0 a, vl ba0 bk0 b] [S aa0 ak0 a, S ba0 bk0 b] (fun g : Unit => True) (fun g => vb rr) (fun g => []) := by
 refine FTi Tryz.func40 fun w0 M0 F0 => ?_
 refine Fb 8 0 fun hl1 => ?_
 refine Fo 0 fun ho2 => ?_
 refine Fb 8 1 fun hl3 => ?_
 refine Fo 1 fun ho4 => ?_
 refine KS ?_
 refine Oq Va (KS ?_)
 refine Oq Vm (Oq (Vlen sl22) (Oq Vm (Oq (Vlen sl22) (Oq Vneq (KS ?_)))))
 refine Kc ?_ ?_
 · intro h5
   have g6 := ne_of_bne h5
   refine KS ?_
   refine Oq Va (KS ?_)
   have hq := q4 hrr false (by simp only [flqref7_Ints, h5, cs4]); subst hq
   exact Kr () rfl (.tmp rfl .nil) [] trivial
 intro h5
 have g7 := eq_of_bne_false h5
 refine KS ?_
 refine Oq Va (KS ?_)
 refine Kl (γ := Nat × Int) (fun (r8, i_9) => ⟨[(0, vl aa0 ak0 a), (1, vl ba0 bk0 b), (5, vi i_9)], [S aa0 ak0 a, S ba0 bk0 b], flqref7_Ints_L0 a b r8 i_9 = flqref7_Ints_L0 a b (((a.length : Int) - 0).toNat) 0 ∧ r8 = ((a.length : Int) - i_9).toNat ∧ (0 : Int) ≤ i_9 ∧ i_9 ≤ (a.length : Int) ∧ (-9223372036854775808 ≤ i_9 ∧ i_9 ≤ 9223372036854775807), r8⟩) (((a.length : Int) - 0).toNat, 0) [0, 1] ⟨rfl, rfl, (by omega), (by omega), (by omega)⟩ ?_
 rintro ⟨r8, i_9⟩ ⟨hM10, hr11, hi12, hi13, hk14⟩
 refine JJ_nx fun _ _ hL hA => ?_; dsimp only at hL hA; subst hL hA
 refine Fb 8 0 fun hl15 => ?_
 refine Fo 0 fun ho16 => ?_
 refine Fb 8 1 fun hl17 => ?_
 refine Fo 1 fun ho18 => ?_
 refine KS ?_
 refine Oq Vm (Oq Vm (Oq (Vlen sl22) (Oq Vlss (KS ?_))))
 refine Kc ?_ ?_
 · intro h19
   have g20 := of_decide_eq_true h19
   obtain ⟨r21, rfl⟩ := scc (n := r8) (by omega)
   refine KS ?_
   refine Kq [0, 0, 3, 7, 0, 0, 48, 112, 255] fmix ?_
   refine Qv [] Vm (Qv [] Vm (Qv [0] (Vi sl22 0) ?_))
   have hb22 := ok1 (i := i_9.toNat) ho16 rng
   refine Qv [0] (VldI sh3 0) (Qv [] Vm (Qv [] Vm (Qv [1] (Vi sl22 0) ?_)))
   have hb23 := ok1 (i := i_9.toNat) ho18 rng
   refine Qv [1] (VldI sh3 0) (Qv [] Vneq ?_)
   refine Qn ⟨by kernel_rfl, ?_⟩
   refine Kc ?_ ?_
   · intro h24
     have g25 := ne_of_bne h24
     refine KS ?_
     refine Oq Va (KS ?_)
     have hR26 := q2 hM10 (.ret false) (by simp only [flqref7_Ints_L0, h5, h19, h24, cs4])
     have hq := q4 hrr false (by simp only [flqref7_Ints, h5, h19, h24, hR26, cs4]); subst hq
     exact Kr () rfl (.tmp rfl .nil) [] trivial
   intro h24
   have g27 := eq_of_bne_false h24
   refine KS ?_
   refine Oq Vm (Oq Vadd (Oq Va (KS ?_)))
   exact Kg (r21, (i_9 + 1)) [0, 1] ⟨(q3 hM10 (by simp only [flqref7_Ints_L0, h5, h19, h24, cs4])), (by omega), (by omega), (by omega), (by omega)⟩
 intro h19
 have g28 := of_decide_eq_false h19
 obtain rfl : r8 = 0 := by omega
 refine Ke ?_
 have hR29 := q2 hM10 (.brk ()) (by simp only [flqref7_Ints_L0, h5, h19, cs4])
 refine KS ?_
 refine Oq Va (KS ?_)
 have hq := q4 hrr true (by simp only [flqref7_Ints, h5, h19, hR29, cs4]); subst hq
 exact Kr () rfl (.tmp rfl .nil) [] trivial
theorem fn9 (t : List Int) (ta0 : Option Addr) (tk0 : Nat) (rr : Bool) (hrr : flqlaw15_SolverKnown t = rr) : FT Tryz.prog 9 #[vl ta0 tk0 t] [S ta0 tk0 t] (fun g : Unit => True) (fun g => vb rr) (fun g => []) := by
 refine FTi Tryz.func9 fun w0 M0 F0 => ?_
 refine Fb 8 0 fun hl1 => ?_
 refine Fo 0 fun ho2 => ?_
 refine KS ?_
 refine Oq Va (KS ?_)
 refine Oq Vm ?_
 refine letv (flqgen_New t) fun rv4 hg5 => ?_
 have hc6 := fn17 t ta0 tk0 rv4 hg5
 refine Oc [0] ca17 hc6 ?_
 rintro c3 -
 refine Oq Va (KS ?_)
 refine Oq Vm ?_
 refine letv (flqlaw15_draw t 0) fun rv11 hg12 => ?_
 have hc13 := fn32 c3 ta0 tk0 t 0 pre rv11 hg12
 refine Oc [0, 0] ca32 hc13 ?_
 rintro ⟨c7, c8, c9, c10⟩ ⟨he14, he15, he16⟩
 unfold i64ok at he14 he15
 refine Jo 0 ?_; rintro a17 k18 rfl
 refine Fb 24 0 fun hl19 => ?_
 refine Jo 1 ?_; rintro a20 k21 rfl
 refine Fb 88 1 fun hl22 => ?_
 refine Jo 2 ?_; rintro a23 k24 rfl
 refine Fb 32 2 fun hl25 => ?_
 refine Jo 3 ?_; rintro a26 k27 rfl
 refine Fb 40 3 fun hl28 => ?_
 have hdf := draw_facts (by assumption : flqlaw15_draw t 0 = rv11)
 obtain ⟨hd1, hd2, hd3, hd4⟩ := hdf
 have hv1 := hd1.n
 have hv2 := hd1.tl
 have hv3 := hd1.bl
 have hv4 := hd1.w
 have hv5 := hd1.dep_len
 refine Oa (Al ze55 [vi 0, .slice none 0 0, .slice none 0 0, .slice none 0 0, .slice none 0 0, vi 0]) fun p29 => Ost (Scl [0] sh55 [vi rv11.1.S.Width, vl a17 k18 rv11.1.S.Deps, vl a20 k21 rv11.1.S.Transfers, vl a23 k24 rv11.1.S.Boundary, vl a26 k27 rv11.1.K, vi rv11.1.Root]) (KS ?_)
 refine Oq (Vfa fo55_0 0) (Oq (VldG sh27 0 [vi rv11.1.S.Width, vl a17 k18 rv11.1.S.Deps, vl a20 k21 rv11.1.S.Transfers, vl a23 k24 rv11.1.S.Boundary]) ?_)
 refine letv (flqref10_Solve rv11.1.S) fun rv31 hg32 => ?_
 have hc33 := fn21 rv11.1.S a17 k18 a20 k21 a23 k24 pre rv31 hg32
 refine Oc [1, 2, 3] ca21 hc33 ?_
 rintro c30 ⟨he34, he35, he36⟩
 unfold i64ok at he34 he35
 refine Jo 0 ?_; rintro a37 k38 rfl
 refine Fb 32 0 fun hl39 => ?_
 refine Oq Vm (Oq Vx (Oq Vx (Oq Vx (Oq Va (Oq Va (Oq Va (KS ?_)))))))
 refine Oq Va (KS ?_)
 refine Oq Va (KS ?_)
 refine Jl [] (Ent.osNil (α := GKnown)) ?_
 refine Kl (γ := Nat × List GKnown × Int × Option Addr × Nat) (fun (r40, all_41, i_42, a43, k44) => ⟨[(4, p29), (5, vl a37 k38 rv31.1), (8, vl a43 k44 all_41), (9, vi i_42)], [O a43 k44 all_41, S a37 k38 rv31.1, Cl p29 [vi rv11.1.S.Width, vl a17 k18 rv11.1.S.Deps, vl a20 k21 rv11.1.S.Transfers, vl a23 k24 rv11.1.S.Boundary, vl a26 k27 rv11.1.K, vi rv11.1.Root], S a17 k18 rv11.1.S.Deps, S a20 k21 rv11.1.S.Transfers, S a23 k24 rv11.1.S.Boundary, S a26 k27 rv11.1.K], flqlaw15_SolverKnown_L0 rv11.1.Root rv31.1 r40 all_41 i_42 = flqlaw15_SolverKnown_L0 rv11.1.Root rv31.1 (((rv31.1.length : Int) - 0).toNat) [] 0 ∧ r40 = ((rv31.1.length : Int) - i_42).toNat ∧ (0 : Int) ≤ i_42 ∧ i_42 ≤ (rv31.1.length : Int) ∧ (-9223372036854775808 ≤ i_42 ∧ i_42 ≤ 9223372036854775807) ∧ (all_41.length : Int) ≤ i_42, r40⟩) (((rv31.1.length : Int) - 0).toNat, [], 0, none, 0) [0, 0, 1, 1, 2, 3, 4] ⟨rfl, rfl, (by omega), (by omega), (by omega), iv0⟩ ?_
 rintro ⟨r40, all_41, i_42, a43, k44⟩ ⟨hM45, hr46, hi47, hi48, hk49, hv50⟩
 refine JJ_nx fun _ _ hL hA => ?_; dsimp only at hL hA; subst hL hA
 refine Fb 40 0 fun hl51 => ?_
 refine Fb 32 1 fun hl52 => ?_
 refine Fb 24 3 fun hl53 => ?_
 refine Fb 88 4 fun hl54 => ?_
 refine Fb 32 5 fun hl55 => ?_
 refine Fb 40 6 fun hl56 => ?_
 refine KS ?_
 refine Oq Vm (Oq Vm (Oq (Vlen sl25) (Oq Vlss (KS ?_))))
 refine Kc ?_ ?_
 · intro h57
   have g58 := of_decide_eq_true h57
   obtain ⟨r59, rfl⟩ := scc (n := r40) (by omega)
   refine KS ?_
   refine Oq Vm (Oq (Vfa fo55_2 2) (Oq (VldF sh3 2) (Oq Vneq (KS ?_))))
   refine Kc ?_ ?_
   · intro h60
     have g61 := ne_of_bne h60
     refine KS ?_
     refine Oq Vm (Oq Vm (Oq Vm (Oq Vm (Oq (Vi sl25 1) ?_))))
     refine JJ_peek_GSet i_42.toNat 1 rfl rng fun a62 k63 hb64 => ?_
     unfold i64ok at hb64
     refine Fb 8 1 fun hl65 => ?_
     refine Oq (VldA sh42 0) (Oq (Vbd st67 [vi i_42, vi ((rv31.1.getD i_42.toNat default).Width), vl a62 k63 ((rv31.1.getD i_42.toNat default).Words)]) (Oa (AsV sl53 sz53 [.agg #[vi i_42, vi ((rv31.1.getD i_42.toNat default).Width), vl a62 k63 ((rv31.1.getD i_42.toNat default).Words)]] [vi i_42, vi ((rv31.1.getD i_42.toNat default).Width), vl a62 k63 ((rv31.1.getD i_42.toNat default).Words)]) fun c66 => ?_))
     refine Jo 0 ?_; rintro a67 k68 rfl
     refine Jl [0, 1] (Ent.cr1 (α := GKnown) (A := [S a62 k63 ((rv31.1.getD i_42.toNat default).Words)]) _ (GKnown.mk i_42 (rv31.1.getD i_42.toNat default)) _ (Nat.le_of_ble_eq_true rfl) (fun h => ⟨_, rfl, (by unfold i64ok; first | omega | (dsimp only; omega)), (by unfold i64ok; first | omega | (dsimp only; omega)), sepAll_get (i := 0) rfl h⟩)) ?_
     refine Oa (ApO [4, 0] sl53 sl53 sz53) fun c69 => ?_
     refine Jo 0 ?_; rintro a70 k71 rfl
     refine Fb 40 0 fun hl72 => ?_
     have hn73 := la all_41 ([(GKnown.mk i_42 (rv31.1.getD i_42.toNat default))] : List GKnown)
     refine Oq Va (KS ?_)
     refine Oq Vm (Oq Vadd (Oq Va (KS ?_)))
     exact Kg (r59, (all_41 ++ [(GKnown.mk i_42 (rv31.1.getD i_42.toNat default))]), (i_42 + 1), a70, k71) [0, 3, 4, 4, 5, 6, 7] ⟨(q3 hM45 (by simp only [flqlaw15_SolverKnown_L0, h57, h60, hg5, hg12, hg32, cs4])), (by omega), (by omega), (by omega), (by omega), iv1⟩
   intro h60
   have g74 := eq_of_bne_false h60
   refine KS ?_
   refine Oq Vm (Oq Vadd (Oq Va (KS ?_)))
   exact Kg (r59, all_41, (i_42 + 1), a43, k44) [0, 0, 1, 1, 2, 3, 4] ⟨(q3 hM45 (by simp only [flqlaw15_SolverKnown_L0, h57, h60, hg5, hg12, hg32, cs4])), (by omega), (by omega), (by omega), (by omega), iv1⟩
 intro h57
 have g75 := of_decide_eq_false h57
 obtain rfl : r40 = 0 := by omega
 refine Ke ?_
 have hR76 := q2 hM45 all_41 (by simp only [flqlaw15_SolverKnown_L0, h57, hg5, hg12, hg32, cs4])
 refine KS ?_
 refine Jp 2 fun hp77 => ?_
 refine JK_drawK [0, 1, 0, 4, 0, 16, 48, 127, 255, 511, 511, 511, 0, 5119, 14335, 32767] fmix ?_
 refine Dv [0] (Vfa fo55_0 0) (Dv [3] (VldG sh27 0 [vi rv11.1.S.Width, vl a17 k18 rv11.1.S.Deps, vl a20 k21 rv11.1.S.Transfers, vl a23 k24 rv11.1.S.Boundary]) (Dv [0] (Vfa fo55_1 0) (Dv [3] (VldF sh53 0) (Dv [0] (Vfa fo55_2 0) (Dv [3] (VldF sh3 0) ?_)))))
 refine letv (solver_Start rv11.1.Root) fun rv82 hg83 => ?_
 refine Dx [] [] [0, 1, 2, 3, 4] (fun G => .agg #[vi rv82.Phase, (G.g 6 0), (G.g 6 1), vi rv82.At, vi rv82.Edge, (G.g 6 2), (G.g 6 3), vi rv82.Steps]) [fun G => SP.fact (i64ok rv82.Phase ∧ i64ok rv82.At ∧ i64ok rv82.Edge ∧ i64ok rv82.Steps), fun G => sl (G.g 6 0) rv82.Cone, fun G => sl (G.g 6 1) rv82.Leaf, fun G => sl (G.g 6 2) rv82.Values, fun G => sl (G.g 6 3) rv82.Queue] (fun G => xC [] ca38 (fn38 rv11.1.Root pre rv82 hg83)) ?_
 refine letv (solver_Run rv11.1.S rv11.1.K rv82 1000) fun rv100 hg101 => ?_
 refine Dx [4, 5, 6, 7, 8, 9, 10, 11, 12] [] [5, 6, 7, 8, 9, 10, 11, 12, 13, 0, 1, 2, 3, 4] (fun G => .tuple #[.agg #[vi rv100.1.Phase, (G.g 7 0), (G.g 7 1), vi rv100.1.At, vi rv100.1.Edge, (G.g 7 2), (G.g 7 3), vi rv100.1.Steps], vi rv100.2.1, vi rv100.2.2]) [fun G => SP.fact (i64ok rv100.1.Phase ∧ i64ok rv100.1.At ∧ i64ok rv100.1.Edge ∧ i64ok rv100.1.Steps ∧ i64ok rv100.2.1 ∧ i64ok rv100.2.2 ∧ (0 ≤ rv100.2.1 ∧ rv100.2.1 ≤ 8000000000) ∧ (rv100.1.Cone.length ≤ 256)), fun G => sl (G.g 7 0) rv100.1.Cone, fun G => sl (G.g 7 1) rv100.1.Leaf, fun G => sl (G.g 7 2) rv100.1.Values, fun G => sl (G.g 7 3) rv100.1.Queue] (fun G => by refine xf 4 rfl ?_; rintro ⟨he102, he103, he104, he105⟩; unfold i64ok at he102 he103 he104 he105; exact xD [8, 7, 6, 5, 0, 1, 2, 3] ca35 rfl rfl rfl (FT_open (γ := Value × Value × Value × Value) (I := fun g => i64ok rv100.1.Phase ∧ i64ok rv100.1.At ∧ i64ok rv100.1.Edge ∧ i64ok rv100.1.Steps ∧ i64ok rv100.2.1 ∧ i64ok rv100.2.2 ∧ (0 ≤ rv100.2.1 ∧ rv100.2.1 ≤ 8000000000) ∧ (rv100.1.Cone.length ≤ 256)) (V := fun g => .tuple #[.agg #[vi rv100.1.Phase, g.1, g.2.1, vi rv100.1.At, vi rv100.1.Edge, g.2.2.1, g.2.2.2, vi rv100.1.Steps], vi rv100.2.1, vi rv100.2.2]) (B := fun g => [sl g.1 rv100.1.Cone, sl g.2.1 rv100.1.Leaf, sl g.2.2.1 rv100.1.Values, sl g.2.2.2 rv100.1.Queue]) (R := sl (G.g 6 3) rv82.Queue) sl_slice (fun aq93 kq94 eq95 => by rw [eq95]; exact FT_ent (Ent.take (is := [1, 2, 3, 4, 5, 6, 7, 0]) rfl) (FT_open (γ := Value × Value × Value × Value) (I := fun g => i64ok rv100.1.Phase ∧ i64ok rv100.1.At ∧ i64ok rv100.1.Edge ∧ i64ok rv100.1.Steps ∧ i64ok rv100.2.1 ∧ i64ok rv100.2.2 ∧ (0 ≤ rv100.2.1 ∧ rv100.2.1 ≤ 8000000000) ∧ (rv100.1.Cone.length ≤ 256)) (V := fun g => .tuple #[.agg #[vi rv100.1.Phase, g.1, g.2.1, vi rv100.1.At, vi rv100.1.Edge, g.2.2.1, g.2.2.2, vi rv100.1.Steps], vi rv100.2.1, vi rv100.2.2]) (B := fun g => [sl g.1 rv100.1.Cone, sl g.2.1 rv100.1.Leaf, sl g.2.2.1 rv100.1.Values, sl g.2.2.2 rv100.1.Queue]) (R := sl (G.g 6 2) rv82.Values) sl_slice (fun aq90 kq91 eq92 => by rw [eq92]; exact FT_ent (Ent.take (is := [1, 2, 3, 4, 5, 6, 0, 7]) rfl) (FT_open (γ := Value × Value × Value × Value) (I := fun g => i64ok rv100.1.Phase ∧ i64ok rv100.1.At ∧ i64ok rv100.1.Edge ∧ i64ok rv100.1.Steps ∧ i64ok rv100.2.1 ∧ i64ok rv100.2.2 ∧ (0 ≤ rv100.2.1 ∧ rv100.2.1 ≤ 8000000000) ∧ (rv100.1.Cone.length ≤ 256)) (V := fun g => .tuple #[.agg #[vi rv100.1.Phase, g.1, g.2.1, vi rv100.1.At, vi rv100.1.Edge, g.2.2.1, g.2.2.2, vi rv100.1.Steps], vi rv100.2.1, vi rv100.2.2]) (B := fun g => [sl g.1 rv100.1.Cone, sl g.2.1 rv100.1.Leaf, sl g.2.2.1 rv100.1.Values, sl g.2.2.2 rv100.1.Queue]) (R := sl (G.g 6 1) rv82.Leaf) sl_slice (fun aq87 kq88 eq89 => by rw [eq89]; exact FT_ent (Ent.take (is := [1, 2, 3, 4, 5, 0, 6, 7]) rfl) (FT_open (γ := Value × Value × Value × Value) (I := fun g => i64ok rv100.1.Phase ∧ i64ok rv100.1.At ∧ i64ok rv100.1.Edge ∧ i64ok rv100.1.Steps ∧ i64ok rv100.2.1 ∧ i64ok rv100.2.2 ∧ (0 ≤ rv100.2.1 ∧ rv100.2.1 ≤ 8000000000) ∧ (rv100.1.Cone.length ≤ 256)) (V := fun g => .tuple #[.agg #[vi rv100.1.Phase, g.1, g.2.1, vi rv100.1.At, vi rv100.1.Edge, g.2.2.1, g.2.2.2, vi rv100.1.Steps], vi rv100.2.1, vi rv100.2.2]) (B := fun g => [sl g.1 rv100.1.Cone, sl g.2.1 rv100.1.Leaf, sl g.2.2.1 rv100.1.Values, sl g.2.2.2 rv100.1.Queue]) (R := sl (G.g 6 0) rv82.Cone) sl_slice (fun aq84 kq85 eq86 => by rw [eq86]; exact FT_ent (Ent.take (is := [1, 2, 3, 4, 0, 5, 6, 7]) rfl) (fn35 rv11.1.S a17 k18 a20 k21 a23 k24 rv11.1.K a26 k27 rv82 aq84 kq85 aq87 kq88 aq90 kq91 aq93 kq94 1000 pre pre pre pre pre pre pre rv100 hg101)))))))))) (Dg [] (fun G => .tuple #[.agg #[vi rv100.1.Phase, (G.g 7 0), (G.g 7 1), vi rv100.1.At, vi rv100.1.Edge, (G.g 7 2), (G.g 7 3), vi rv100.1.Steps], vi rv100.2.1, vi rv100.2.2]) (fun G => Vm) (Dg [] (fun G => .agg #[vi rv100.1.Phase, (G.g 7 0), (G.g 7 1), vi rv100.1.At, vi rv100.1.Edge, (G.g 7 2), (G.g 7 3), vi rv100.1.Steps]) (fun G => Vx) (Dv [] Vx (Dv [] Vx (Dx [] [] [0] (fun G => (G.g 12 0)) [fun G => Cl (G.g 12 0) [vi 0, .slice none 0 0, .slice none 0 0, vi 0, vi 0, .slice none 0 0, .slice none 0 0, vi 0]] (fun G => xA (Al ze59 [vi 0, .slice none 0 0, .slice none 0 0, vi 0, vi 0, .slice none 0 0, .slice none 0 0, vi 0])) (Dx0 [14, 15, 16, 17, 18] [18] [1, 2, 3, 4, 0] [fun G => Cl (G.g 12 0) [vi rv100.1.Phase, (G.g 7 0), (G.g 7 1), vi rv100.1.At, vi rv100.1.Edge, (G.g 7 2), (G.g 7 3), vi rv100.1.Steps]] (fun G => x1 0 rfl sl_one fun ho107 => (x1 1 rfl sl_one fun ho108 => (x1 2 rfl sl_one fun ho109 => (x1 3 rfl sl_one fun ho110 => (xS (Scl [4] sh59 [vi rv100.1.Phase, (G.g 7 0), (G.g 7 1), vi rv100.1.At, vi rv100.1.Edge, (G.g 7 2), (G.g 7 3), vi rv100.1.Steps] (v := .agg #[vi rv100.1.Phase, (G.g 7 0), (G.g 7 1), vi rv100.1.At, vi rv100.1.Edge, (G.g 7 2), (G.g 7 3), vi rv100.1.Steps]) (h1 := show [vi rv100.1.Phase, (G.g 7 0), (G.g 7 1), vi rv100.1.At, vi rv100.1.Edge, (G.g 7 2), (G.g 7 3), vi rv100.1.Steps].all (·.oneCell') = true from (by simp only [List.all_cons, List.all_nil, ho107, ho108, ho109, ho110, Bool.and_true, Bool.true_and] <;> rfl)))))))) (Dv [] Va (Dv [] Va ?_))))))))
 refine Dn ⟨by kernel_rfl, fun G => ?_⟩
 refine Jw2 [(4, p29), (8, vl a43 k44 all_41), (10, (G.g 12 0)), (12, vi rv100.2.2)] [0, 1, 2, 3, 4, 5, 6, 7] [SP.fact (i64ok rv82.Phase ∧ i64ok rv82.At ∧ i64ok rv82.Edge ∧ i64ok rv82.Steps), sl (G.g 6 0) rv82.Cone, sl (G.g 6 1) rv82.Leaf, sl (G.g 6 2) rv82.Values, sl (G.g 6 3) rv82.Queue, SP.fact (i64ok rv100.1.Phase ∧ i64ok rv100.1.At ∧ i64ok rv100.1.Edge ∧ i64ok rv100.1.Steps ∧ i64ok rv100.2.1 ∧ i64ok rv100.2.2 ∧ (0 ≤ rv100.2.1 ∧ rv100.2.1 ≤ 8000000000) ∧ (rv100.1.Cone.length ≤ 256)), sl (G.g 7 0) rv100.1.Cone, sl (G.g 7 1) rv100.1.Leaf, sl (G.g 7 2) rv100.1.Values, sl (G.g 7 3) rv100.1.Queue, Cl (G.g 12 0) [vi rv100.1.Phase, (G.g 7 0), (G.g 7 1), vi rv100.1.At, vi rv100.1.Edge, (G.g 7 2), (G.g 7 3), vi rv100.1.Steps]] ?_
 generalize G.g 6 0 = c78, G.g 6 1 = c79, G.g 6 2 = c80, G.g 6 3 = c81, G.g 7 0 = c96, G.g 7 1 = c97, G.g 7 2 = c98, G.g 7 3 = c99, G.g 12 0 = p106
 refine Jf 8 rfl ?_; rintro ⟨he111, he112, he113, he114⟩
 unfold i64ok at he111 he112 he113 he114
 refine Jf 13 rfl ?_; rintro ⟨he115, he116, he117, he118, he119, he120, he121, he122⟩
 unfold i64ok at he115 he116 he117 he118 he119 he120
 refine Jk [1, 1, 2, 2, 3, 4, 5, 7, 8, 9, 10, 12, 13, 14, 15, 16] ?_
 refine Jo 7 ?_; rintro a123 k124 rfl
 refine Fb 8 7 fun hl125 => ?_
 refine Fo 7 fun ho126 => ?_
 refine Jo 8 ?_; rintro a127 k128 rfl
 refine Fb 1 8 fun hl129 => ?_
 refine Jo 9 ?_; rintro a130 k131 rfl
 refine Fb 32 9 fun hl132 => ?_
 refine Jo 10 ?_; rintro a133 k134 rfl
 refine Fb 8 10 fun hl135 => ?_
 refine Fo 10 fun ho136 => ?_
 refine Jo 11 ?_; rintro a137 k138 rfl
 refine Fb 8 11 fun hl139 => ?_
 refine Fo 11 fun ho140 => ?_
 refine Jo 12 ?_; rintro a141 k142 rfl
 refine Fb 1 12 fun hl143 => ?_
 refine Jo 13 ?_; rintro a144 k145 rfl
 refine Fb 32 13 fun hl146 => ?_
 refine Jo 14 ?_; rintro a147 k148 rfl
 refine Fb 8 14 fun hl149 => ?_
 refine Fo 14 fun ho150 => ?_
 refine KS ?_
 refine Jp 2 fun hp151 => ?_
 refine JK_drawK [0, 1, 0, 0, 8, 24, 63, 127, 255, 255, 255, 0, 2559, 7167, 16383] fmix ?_
 refine Dv [0] (Vfa fo55_0 0) (Dv [3] (VldG sh27 0 [vi rv11.1.S.Width, vl a17 k18 rv11.1.S.Deps, vl a20 k21 rv11.1.S.Transfers, vl a23 k24 rv11.1.S.Boundary]) (Dv [] Vm (Dv [0] (Vfa fo55_2 0) (Dv [3] (VldF sh3 0) (Dx [] [] [0, 1, 2, 3, 4] (fun G => .agg #[vi rv82.Phase, (G.g 5 0), (G.g 5 1), vi rv82.At, vi rv82.Edge, (G.g 5 2), (G.g 5 3), vi rv82.Steps]) [fun G => SP.fact (i64ok rv82.Phase ∧ i64ok rv82.At ∧ i64ok rv82.Edge ∧ i64ok rv82.Steps), fun G => sl (G.g 5 0) rv82.Cone, fun G => sl (G.g 5 1) rv82.Leaf, fun G => sl (G.g 5 2) rv82.Values, fun G => sl (G.g 5 3) rv82.Queue] (fun G => xC [] ca38 (fn38 rv11.1.Root pre rv82 hg83)) ?_)))))
 refine letv (solver_Run rv11.1.S all_41 rv82 1000) fun rv172 hg173 => ?_
 refine Dx [1, 4, 5, 6, 17, 18, 19, 20, 21] [1] [6, 7, 8, 9, 10, 11, 12, 13, 5, 0, 1, 2, 3, 4] (fun G => .tuple #[.agg #[vi rv172.1.Phase, (G.g 6 0), (G.g 6 1), vi rv172.1.At, vi rv172.1.Edge, (G.g 6 2), (G.g 6 3), vi rv172.1.Steps], vi rv172.2.1, vi rv172.2.2]) [fun G => S a43 k44 all_41, fun G => SP.fact (i64ok rv172.1.Phase ∧ i64ok rv172.1.At ∧ i64ok rv172.1.Edge ∧ i64ok rv172.1.Steps ∧ i64ok rv172.2.1 ∧ i64ok rv172.2.2 ∧ (0 ≤ rv172.2.1 ∧ rv172.2.1 ≤ 8000000000) ∧ (rv172.1.Cone.length ≤ 256)), fun G => sl (G.g 6 0) rv172.1.Cone, fun G => sl (G.g 6 1) rv172.1.Leaf, fun G => sl (G.g 6 2) rv172.1.Values, fun G => sl (G.g 6 3) rv172.1.Queue] (fun G => by refine xf 4 rfl ?_; rintro ⟨he174, he175, he176, he177⟩; unfold i64ok at he174 he175 he176 he177; exact xp [0] rfl (Ent.freeze _ _) (xD [8, 7, 6, 5, 1, 2, 3, 0] ca35 rfl rfl rfl (FT_open (γ := Value × Value × Value × Value) (I := fun g => i64ok rv172.1.Phase ∧ i64ok rv172.1.At ∧ i64ok rv172.1.Edge ∧ i64ok rv172.1.Steps ∧ i64ok rv172.2.1 ∧ i64ok rv172.2.2 ∧ (0 ≤ rv172.2.1 ∧ rv172.2.1 ≤ 8000000000) ∧ (rv172.1.Cone.length ≤ 256)) (V := fun g => .tuple #[.agg #[vi rv172.1.Phase, g.1, g.2.1, vi rv172.1.At, vi rv172.1.Edge, g.2.2.1, g.2.2.2, vi rv172.1.Steps], vi rv172.2.1, vi rv172.2.2]) (B := fun g => [sl g.1 rv172.1.Cone, sl g.2.1 rv172.1.Leaf, sl g.2.2.1 rv172.1.Values, sl g.2.2.2 rv172.1.Queue]) (R := sl (G.g 5 3) rv82.Queue) sl_slice (fun aq165 kq166 eq167 => by rw [eq167]; exact FT_ent (Ent.take (is := [1, 2, 3, 4, 5, 6, 7, 0]) rfl) (FT_open (γ := Value × Value × Value × Value) (I := fun g => i64ok rv172.1.Phase ∧ i64ok rv172.1.At ∧ i64ok rv172.1.Edge ∧ i64ok rv172.1.Steps ∧ i64ok rv172.2.1 ∧ i64ok rv172.2.2 ∧ (0 ≤ rv172.2.1 ∧ rv172.2.1 ≤ 8000000000) ∧ (rv172.1.Cone.length ≤ 256)) (V := fun g => .tuple #[.agg #[vi rv172.1.Phase, g.1, g.2.1, vi rv172.1.At, vi rv172.1.Edge, g.2.2.1, g.2.2.2, vi rv172.1.Steps], vi rv172.2.1, vi rv172.2.2]) (B := fun g => [sl g.1 rv172.1.Cone, sl g.2.1 rv172.1.Leaf, sl g.2.2.1 rv172.1.Values, sl g.2.2.2 rv172.1.Queue]) (R := sl (G.g 5 2) rv82.Values) sl_slice (fun aq162 kq163 eq164 => by rw [eq164]; exact FT_ent (Ent.take (is := [1, 2, 3, 4, 5, 6, 0, 7]) rfl) (FT_open (γ := Value × Value × Value × Value) (I := fun g => i64ok rv172.1.Phase ∧ i64ok rv172.1.At ∧ i64ok rv172.1.Edge ∧ i64ok rv172.1.Steps ∧ i64ok rv172.2.1 ∧ i64ok rv172.2.2 ∧ (0 ≤ rv172.2.1 ∧ rv172.2.1 ≤ 8000000000) ∧ (rv172.1.Cone.length ≤ 256)) (V := fun g => .tuple #[.agg #[vi rv172.1.Phase, g.1, g.2.1, vi rv172.1.At, vi rv172.1.Edge, g.2.2.1, g.2.2.2, vi rv172.1.Steps], vi rv172.2.1, vi rv172.2.2]) (B := fun g => [sl g.1 rv172.1.Cone, sl g.2.1 rv172.1.Leaf, sl g.2.2.1 rv172.1.Values, sl g.2.2.2 rv172.1.Queue]) (R := sl (G.g 5 1) rv82.Leaf) sl_slice (fun aq159 kq160 eq161 => by rw [eq161]; exact FT_ent (Ent.take (is := [1, 2, 3, 4, 5, 0, 6, 7]) rfl) (FT_open (γ := Value × Value × Value × Value) (I := fun g => i64ok rv172.1.Phase ∧ i64ok rv172.1.At ∧ i64ok rv172.1.Edge ∧ i64ok rv172.1.Steps ∧ i64ok rv172.2.1 ∧ i64ok rv172.2.2 ∧ (0 ≤ rv172.2.1 ∧ rv172.2.1 ≤ 8000000000) ∧ (rv172.1.Cone.length ≤ 256)) (V := fun g => .tuple #[.agg #[vi rv172.1.Phase, g.1, g.2.1, vi rv172.1.At, vi rv172.1.Edge, g.2.2.1, g.2.2.2, vi rv172.1.Steps], vi rv172.2.1, vi rv172.2.2]) (B := fun g => [sl g.1 rv172.1.Cone, sl g.2.1 rv172.1.Leaf, sl g.2.2.1 rv172.1.Values, sl g.2.2.2 rv172.1.Queue]) (R := sl (G.g 5 0) rv82.Cone) sl_slice (fun aq156 kq157 eq158 => by rw [eq158]; exact FT_ent (Ent.take (is := [1, 2, 3, 4, 0, 5, 6, 7]) rfl) (fn35 rv11.1.S a17 k18 a20 k21 a23 k24 all_41 a43 k44 rv82 aq156 kq157 aq159 kq160 aq162 kq163 aq165 kq166 1000 pre pre pre pre pre pre pre rv172 hg173))))))))))) (Dg [] (fun G => .tuple #[.agg #[vi rv172.1.Phase, (G.g 6 0), (G.g 6 1), vi rv172.1.At, vi rv172.1.Edge, (G.g 6 2), (G.g 6 3), vi rv172.1.Steps], vi rv172.2.1, vi rv172.2.2]) (fun G => Vm) (Dg [] (fun G => .agg #[vi rv172.1.Phase, (G.g 6 0), (G.g 6 1), vi rv172.1.At, vi rv172.1.Edge, (G.g 6 2), (G.g 6 3), vi rv172.1.Steps]) (fun G => Vx) (Dv [] Vx (Dv [] Vx (Dx [] [] [0] (fun G => (G.g 11 0)) [fun G => Cl (G.g 11 0) [vi 0, .slice none 0 0, .slice none 0 0, vi 0, vi 0, .slice none 0 0, .slice none 0 0, vi 0]] (fun G => xA (Al ze59 [vi 0, .slice none 0 0, .slice none 0 0, vi 0, vi 0, .slice none 0 0, .slice none 0 0, vi 0])) (Dx0 [24, 25, 26, 27, 28] [28] [1, 2, 3, 4, 0] [fun G => Cl (G.g 11 0) [vi rv172.1.Phase, (G.g 6 0), (G.g 6 1), vi rv172.1.At, vi rv172.1.Edge, (G.g 6 2), (G.g 6 3), vi rv172.1.Steps]] (fun G => x1 0 rfl sl_one fun ho179 => (x1 1 rfl sl_one fun ho180 => (x1 2 rfl sl_one fun ho181 => (x1 3 rfl sl_one fun ho182 => (xS (Scl [4] sh59 [vi rv172.1.Phase, (G.g 6 0), (G.g 6 1), vi rv172.1.At, vi rv172.1.Edge, (G.g 6 2), (G.g 6 3), vi rv172.1.Steps] (v := .agg #[vi rv172.1.Phase, (G.g 6 0), (G.g 6 1), vi rv172.1.At, vi rv172.1.Edge, (G.g 6 2), (G.g 6 3), vi rv172.1.Steps]) (h1 := show [vi rv172.1.Phase, (G.g 6 0), (G.g 6 1), vi rv172.1.At, vi rv172.1.Edge, (G.g 6 2), (G.g 6 3), vi rv172.1.Steps].all (·.oneCell') = true from (by simp only [List.all_cons, List.all_nil, ho179, ho180, ho181, ho182, Bool.and_true, Bool.true_and] <;> rfl)))))))) (Dv [] Va (Dv [] Va ?_))))))))
 refine Dn ⟨by kernel_rfl, fun G => ?_⟩
 refine Jw2 [(4, p29), (10, p106), (12, vi rv100.2.2), (13, (G.g 11 0)), (15, vi rv172.2.2)] [0, 2, 3, 4, 5, 6, 7, 8, 9, 10, 11, 12, 13, 14, 15, 16] [SP.fact (i64ok rv82.Phase ∧ i64ok rv82.At ∧ i64ok rv82.Edge ∧ i64ok rv82.Steps), sl (G.g 5 0) rv82.Cone, sl (G.g 5 1) rv82.Leaf, sl (G.g 5 2) rv82.Values, sl (G.g 5 3) rv82.Queue, S a43 k44 all_41, SP.fact (i64ok rv172.1.Phase ∧ i64ok rv172.1.At ∧ i64ok rv172.1.Edge ∧ i64ok rv172.1.Steps ∧ i64ok rv172.2.1 ∧ i64ok rv172.2.2 ∧ (0 ≤ rv172.2.1 ∧ rv172.2.1 ≤ 8000000000) ∧ (rv172.1.Cone.length ≤ 256)), sl (G.g 6 0) rv172.1.Cone, sl (G.g 6 1) rv172.1.Leaf, sl (G.g 6 2) rv172.1.Values, sl (G.g 6 3) rv172.1.Queue, Cl (G.g 11 0) [vi rv172.1.Phase, (G.g 6 0), (G.g 6 1), vi rv172.1.At, vi rv172.1.Edge, (G.g 6 2), (G.g 6 3), vi rv172.1.Steps]] ?_
 generalize G.g 5 0 = c152, G.g 5 1 = c153, G.g 5 2 = c154, G.g 5 3 = c155, G.g 6 0 = c168, G.g 6 1 = c169, G.g 6 2 = c170, G.g 6 3 = c171, G.g 11 0 = p178
 refine Jf 16 rfl ?_; rintro ⟨he183, he184, he185, he186⟩
 unfold i64ok at he183 he184 he185 he186
 refine Jf 22 rfl ?_; rintro ⟨he187, he188, he189, he190, he191, he192, he193, he194⟩
 unfold i64ok at he187 he188 he189 he190 he191 he192
 refine Jk [1, 2, 2, 3, 4, 5, 6, 7, 8, 9, 10, 11, 12, 13, 14, 15, 16, 17, 18, 19, 21, 22, 23, 24, 25] ?_
 refine Jo 15 ?_; rintro a195 k196 rfl
 refine Jo 16 ?_; rintro a197 k198 rfl
 refine Jo 17 ?_; rintro a199 k200 rfl
 refine Jo 18 ?_; rintro a201 k202 rfl
 refine Jo 20 ?_; rintro a203 k204 rfl
 refine Fb 8 20 fun hl205 => ?_
 refine Fo 20 fun ho206 => ?_
 refine Jo 21 ?_; rintro a207 k208 rfl
 refine Fb 1 21 fun hl209 => ?_
 refine Jo 22 ?_; rintro a210 k211 rfl
 refine Fb 32 22 fun hl212 => ?_
 refine Jo 23 ?_; rintro a213 k214 rfl
 refine Fb 8 23 fun hl215 => ?_
 refine Fo 23 fun ho216 => ?_
 refine KS ?_
 refine Oq (VldA sh59 14) ?_
 refine letv (solver_Answer rv100.1) fun rv218 hg219 => ?_
 have hc220 := fn44 rv100.1 a137 k138 a141 k142 a144 k145 a147 k148 pre pre pre pre rv218 hg219
 refine Oc [10, 11, 12, 13] ca44 hc220 ?_
 rintro c217 he221
 unfold i64ok at he221
 refine Jo 0 ?_; rintro a222 k223 rfl
 refine Fb 8 0 fun hl224 => ?_
 refine Oq Vm (Oq Vx (Oq Vx (Oa (Al ze42 [vi 0, .slice none 0 0]) fun p225 => Ost (Scl [0] sh42 [vi rv218.1.Width, vl a222 k223 rv218.1.Words]) (Oq Va (KS ?_)))))
 refine Oq (VldA sh59 26) ?_
 refine letv (solver_Answer rv172.1) fun rv227 hg228 => ?_
 have hc229 := fn44 rv172.1 a203 k204 a207 k208 a210 k211 a213 k214 pre pre pre pre rv227 hg228
 refine Oc [22, 23, 24, 25] ca44 hc229 ?_
 rintro c226 he230
 unfold i64ok at he230
 refine Jo 0 ?_; rintro a231 k232 rfl
 refine Fb 8 0 fun hl233 => ?_
 refine Oq Vm (Oq Vx (Oq Vx (Oa (Al ze42 [vi 0, .slice none 0 0]) fun p234 => Ost (Scl [0] sh42 [vi rv227.1.Width, vl a231 k232 rv227.1.Words]) (Oq Va (KS ?_)))))
 refine Oq Vm (Oq Vneq (Oq Vm ?_))
 refine Js 87 ?_ ?_
 · intro h235
   have g236 := ne_of_bne h235
   refine Osk (Osk (Oq Vpt (Oq Vm (Osk (Osk (Oq Vpt (Oq Vm (Osk (Osk ?_)))))))))
   refine Oq Vpt (Oq Vm (Osk (Osk (Osk (Osk (Oq Vpt (KS ?_)))))))
   refine Kt ?_
   refine KS ?_
   refine Oq Va (KS ?_)
   have hq := q4 hrr false (by unfold flqlaw15_SolverKnown; simp only [h57, h235, hg5, hg12, hg32, hR76, hg83, hg101, hg173, hg219, hg228, cs4]); subst hq
   exact Kr () rfl (.tmp rfl .nil) [] trivial
 intro h235
 have g237 := eq_of_bne_false h235
 refine Oq Vm (Oq Vneq (Oq Vpf (Oq Vm ?_)))
 refine Js 91 ?_ ?_
 · intro h238
   have g239 := ne_of_bne h238
   refine Osk (Osk (Oq Vpt (Oq Vm (Osk (Osk (Oq Vpt (Oq Vm (Osk (Osk ?_)))))))))
   refine Osk (Osk (Oq Vpt (KS ?_)))
   refine Kt ?_
   refine KS ?_
   refine Oq Va (KS ?_)
   have hq := q4 hrr false (by unfold flqlaw15_SolverKnown; simp only [h57, h235, h238, hg5, hg12, hg32, hR76, hg83, hg101, hg173, hg219, hg228, cs4]); subst hq
   exact Kr () rfl (.tmp rfl .nil) [] trivial
 intro h238
 have g240 := eq_of_bne_false h238
 refine Oq Vm (Oq Vnot (Oq Vpf (Oq Vm ?_)))
 refine Js 95 ?_ ?_
 · intro h241
   have h243 := not_true h241
   refine Osk (Osk (Oq Vpt (Oq Vm (Osk (Osk (Osk (Osk (Oq Vpt (KS ?_)))))))))
   refine Kt ?_
   refine KS ?_
   refine Oq Va (KS ?_)
   have hq := q4 hrr false (by unfold flqlaw15_SolverKnown; simp only [h57, h235, h238, h241, h243, hg5, hg12, hg32, hR76, hg83, hg101, hg173, hg219, hg228, cs4]); subst hq
   exact Kr () rfl (.tmp rfl .nil) [] trivial
 intro h241
 have h246 := not_false h241
 refine Oq Vm (Oq Vnot (Oq Vpf (Oq Vm ?_)))
 refine Js 99 ?_ ?_
 · intro h248
   have h250 := not_true h248
   refine Osk (Osk (Osk (Osk (Oq Vpt (KS ?_)))))
   refine Kt ?_
   refine KS ?_
   refine Oq Va (KS ?_)
   have hq := q4 hrr false (by unfold flqlaw15_SolverKnown; simp only [h57, h235, h238, h241, h246, h248, h250, hg5, hg12, hg32, hR76, hg83, hg101, hg173, hg219, hg228, cs4]); subst hq
   exact Kr () rfl (.tmp rfl .nil) [] trivial
 intro h248
 have h253 := not_false h248
 refine Oq (VldA sh42 2) (Oq (VldA sh42 0) ?_)
 refine letv (flqref1_Same rv218.1 rv227.1) fun rv255 hg256 => ?_
 have hc257 := fn45 rv218.1 a222 k223 rv227.1 a231 k232 pre pre rv255 hg256
 refine Oc [3, 1] ca45 hc257 ?_
 rintro - -
 refine Oq Vnot (Oq Vpf (KS ?_))
 refine Kc ?_ ?_
 · intro h258
   have h260 := not_true h258
   refine KS ?_
   refine Oq Va (KS ?_)
   have hq := q4 hrr false (by unfold flqlaw15_SolverKnown; simp only [h57, h235, h238, h241, h246, h248, h253, h258, h260, hg5, hg12, hg32, hR76, hg83, hg101, hg173, hg219, hg228, hg256, cs4]); subst hq
   exact Kr () rfl (.tmp rfl .nil) [] trivial
 intro h258
 have h263 := not_false h258
 refine KS ?_
 refine Oq Va (KS ?_)
 refine Oq Va (KS ?_)
 refine Jl [] (Ent.slNil (α := Int)) ?_
 refine Kl (γ := Nat × List Int × Int × Option Addr × Nat) (fun (r265, want_266, i_267, a268, k269) => ⟨[(4, p29), (13, p178), (20, vl a268 k269 want_266), (21, vi i_267)], [S a268 k269 want_266, Cl p29 [vi rv11.1.S.Width, vl a17 k18 rv11.1.S.Deps, vl a20 k21 rv11.1.S.Transfers, vl a23 k24 rv11.1.S.Boundary, vl a26 k27 rv11.1.K, vi rv11.1.Root], S a17 k18 rv11.1.S.Deps, S a20 k21 rv11.1.S.Transfers, S a23 k24 rv11.1.S.Boundary, S a26 k27 rv11.1.K, S a203 k204 rv172.1.Cone, S a207 k208 rv172.1.Leaf, S a210 k211 rv172.1.Values, S a213 k214 rv172.1.Queue, Cl p178 [vi rv172.1.Phase, vl a203 k204 rv172.1.Cone, vl a207 k208 rv172.1.Leaf, vi rv172.1.At, vi rv172.1.Edge, vl a210 k211 rv172.1.Values, vl a213 k214 rv172.1.Queue, vi rv172.1.Steps]], flqlaw15_SolverKnown_L1 rv172.1.Cone r265 want_266 i_267 = flqlaw15_SolverKnown_L1 rv172.1.Cone (((rv172.1.Cone.length : Int) - 0).toNat) [] 0 ∧ r265 = ((rv172.1.Cone.length : Int) - i_267).toNat ∧ (0 : Int) ≤ i_267 ∧ i_267 ≤ (rv172.1.Cone.length : Int) ∧ (-9223372036854775808 ≤ i_267 ∧ i_267 ≤ 9223372036854775807) ∧ (want_266.length : Int) ≤ i_267, r265⟩) (((rv172.1.Cone.length : Int) - 0).toNat, [], 0, none, 0) [0, 6, 6, 7, 8, 9, 24, 25, 26, 27, 28] ⟨rfl, rfl, (by omega), (by omega), (by omega), iv0⟩ ?_
 rintro ⟨r265, want_266, i_267, a268, k269⟩ ⟨hM270, hr271, hi272, hi273, hk274, hv275⟩
 refine JJ_nx fun _ _ hL hA => ?_; dsimp only at hL hA; subst hL hA
 refine Fb 8 0 fun hl276 => ?_
 refine Fo 0 fun ho277 => ?_
 refine Fb 24 2 fun hl278 => ?_
 refine Fb 88 3 fun hl279 => ?_
 refine Fb 32 4 fun hl280 => ?_
 refine Fb 40 5 fun hl281 => ?_
 refine Fb 8 6 fun hl282 => ?_
 refine Fo 6 fun ho283 => ?_
 refine Fb 1 7 fun hl284 => ?_
 refine Fb 32 8 fun hl285 => ?_
 refine Fb 8 9 fun hl286 => ?_
 refine Fo 9 fun ho287 => ?_
 refine KS ?_
 refine Oq Vm (Oq (Vfa fo59_1 10) (Oq (VldF sh22 10) (Oq (Vlen sl22) (Oq Vlss (KS ?_)))))
 refine Kc ?_ ?_
 · intro h288
   have g289 := of_decide_eq_true h288
   obtain ⟨r290, rfl⟩ := scc (n := r265) (by omega)
   refine KS ?_
   refine Oq Vm (Oq (Vfa fo59_1 10) (Oq (VldF sh22 10) (Oq Vm (Oq (Vi sl22 6) ?_))))
   have hb291 := ok1 (i := i_267.toNat) ho283 rng
   refine Oq (VldI sh3 6) ?_
   refine letv (flqref7_Insert want_266 (rv172.1.Cone.getD i_267.toNat 0)) fun rv293 hg294 => ?_
   have hc295 := fn46 want_266 a268 k269 ((rv172.1.Cone.getD i_267.toNat 0)) pre (by first | omega | exact Nat.le_trans (hd1.dep_any _) (by decide)) rv293 hg294
   refine Oc [0] ca46 hc295 ?_
   rintro c292 he296
   refine Jo 0 ?_; rintro a297 k298 rfl
   refine Fb 8 0 fun hl299 => ?_
   refine Fo 0 fun ho300 => ?_
   refine Oq Va (KS ?_)
   refine Oq Vm (Oq Vadd (Oq Va (KS ?_)))
   exact Kg (r290, rv293, (i_267 + 1), a297, k298) [0, 2, 2, 3, 4, 5, 6, 7, 8, 9, 10] ⟨(q3 hM270 (by simp only [flqlaw15_SolverKnown_L1, h57, h235, h238, h241, h246, h248, h253, h258, h263, h288, hg5, hg12, hg32, hR76, hg83, hg101, hg173, hg219, hg228, hg256, hg294, cs4])), (by omega), (by omega), (by omega), (by omega), iv1⟩
 intro h288
 have g301 := of_decide_eq_false h288
 obtain rfl : r265 = 0 := by omega
 refine Ke ?_
 have hR302 := q2 hM270 want_266 (by simp only [flqlaw15_SolverKnown_L1, h57, h235, h238, h241, h246, h248, h253, h258, h263, h288, hg5, hg12, hg32, hR76, hg83, hg101, hg173, hg219, hg228, hg256, cs4])
 refine KS ?_
 refine Jp 1 fun hp303 => ?_
 refine JJ_peekL rv11.1.Root.toNat 3 rfl rng fun a304 k305 => ?_
 refine Fb 8 1 fun hl306 => ?_
 refine Fo 1 fun ho307 => ?_
 refine JK_drawK [0, 0, 0, 4, 12, 0, 32, 124, 252, 510, 0, 1024, 4094, 8191, 16383, 32767, 65535, 131071] fmix ?_
 refine Dv [] Vm (Dx [] [] [0] (fun G => (G.g 1 0)) [fun G => Cr (G.g 1 0) 0 []] (fun G => xA (As0 sl22)) (Dv [2] (Vfa fo55_0 0) (Dv [2] (VfaF fo27_1 0) (Dv [4] (VldF sh23 0) (Dv [2] (Vfa fo55_2 0) (Dv [4] (VldF sh3 0) (Dv [5] (Vi sl23 0) (Dv [0] (Vld sh22 0) (Dx [1, 14] [14] [1, 0] (fun G => (G.g 9 0)) [fun G => os (G.g 9 0) ((rv11.1.S.Deps.getD rv11.1.Root.toNat []) : List Int)] (fun G => xp [1] rfl (Ent.crNil (α := Int) _) (xA (Ap0 [0, 0] sl22 sl22 sz22))) ?_)))))))))
 refine Dv [2] (Vfa fo55_2 0) (Dv [4] (VldF sh3 0) ?_)
 refine letv (flqref7_Insert (rv11.1.S.Deps.getD rv11.1.Root.toNat []) rv11.1.Root) fun rv314 hg315 => ?_
 refine Dx [15] [15] [2, 0, 1] (fun G => (G.g 12 0)) [fun G => sl (G.g 9 0) ((rv11.1.S.Deps.getD rv11.1.Root.toNat []) : List Int), fun G => SP.fact ((rv314.length ≤ (rv11.1.S.Deps.getD rv11.1.Root.toNat []).length + 1)), fun G => sl (G.g 12 0) rv314] (fun G => xp [0] rfl (Ent.freeze _ _) (xD [0] ca46 rfl rfl rfl (FT_open (γ := Value) (I := fun g => (rv314.length ≤ (rv11.1.S.Deps.getD rv11.1.Root.toNat []).length + 1)) (V := fun g => g) (B := fun g => [sl g rv314]) (R := sl (G.g 9 0) ((rv11.1.S.Deps.getD rv11.1.Root.toNat []) : List Int)) sl_slice (fun aq310 kq311 eq312 => by rw [eq312]; exact FT_ent (Ent.take (is := [0]) rfl) (fn46 ((rv11.1.S.Deps.getD rv11.1.Root.toNat [])) aq310 kq311 rv11.1.Root pre (by first | omega | exact Nat.le_trans (hd1.dep_any _) (by decide)) rv314 hg315))))) ?_
 refine letv (flqref7_Ints want_266 rv314) fun rv319 hg320 => ?_
 refine Dx [3, 18] [] [1, 2, 0] (fun G => vb rv319) [fun G => SP.fact (True)] (fun G => xD [1, 0] ca40 rfl rfl rfl (FT_open (γ := Unit) (I := fun g => True) (V := fun g => vb rv319) (B := fun g => []) (R := sl (G.g 12 0) rv314) sl_slice (fun aq316 kq317 eq318 => by rw [eq318]; exact FT_ent (Ent.take (is := [1, 0]) rfl) (fn40 want_266 a268 k269 rv314 aq316 kq317 rv319 hg320)))) ?_
 refine bool_split rv319 ?_ ?_
 · intro h321
   refine Db h321 [] Vm (Dx [] [] [0] (fun G => vb flqlaw15_sane) [fun G => SP.fact (True)] (fun G => xC [] ca37 (fn37  flqlaw15_sane rfl)) (Dv [] Vpt (Dv [] Va ?_)))
   refine Dn ⟨by kernel_rfl, fun G => ?_⟩
   refine Jw2 [(2, vb flqlaw15_sane)] [0, 1, 2, 3, 4, 5, 6, 7, 8, 9, 10, 11, 12, 13] [sl (G.g 9 0) ((rv11.1.S.Deps.getD rv11.1.Root.toNat []) : List Int), SP.fact ((rv314.length ≤ (rv11.1.S.Deps.getD rv11.1.Root.toNat []).length + 1)), sl (G.g 12 0) rv314, SP.fact (True), SP.fact (True)] ?_
   generalize G.g 9 0 = c309, G.g 12 0 = c313
   refine Jf 15 rfl ?_; rintro he323
   refine Jk [0, 1, 3, 4, 4, 5, 6, 7, 8, 9, 10, 11, 12, 12, 14] ?_
   refine Jo 13 ?_; rintro a324 k325 rfl
   refine Jo 14 ?_; rintro a326 k327 rfl
   refine Fb 8 14 fun hl328 => ?_
   refine Fo 14 fun ho329 => ?_
   have hq := q4 hrr flqlaw15_sane (by unfold flqlaw15_SolverKnown; simp only [h57, h235, h238, h241, h246, h248, h253, h258, h263, h288, h321, hg5, hg12, hg32, hR76, hg83, hg101, hg173, hg219, hg228, hg256, hR302, hg315, hg320, cs4]); subst hq
   exact Kr () rfl (.tmp rfl .nil) [] trivial
 intro h321
 refine Db h321 [] Vm (Ds (Dv [] Vpf (Dv [] Va ?_)))
 refine Dn ⟨by kernel_rfl, fun G => ?_⟩
 refine Jw2 [(2, vb false)] [0, 1, 2, 3, 4, 5, 6, 7, 8, 9, 10, 11, 12, 13] [sl (G.g 9 0) ((rv11.1.S.Deps.getD rv11.1.Root.toNat []) : List Int), SP.fact ((rv314.length ≤ (rv11.1.S.Deps.getD rv11.1.Root.toNat []).length + 1)), sl (G.g 12 0) rv314, SP.fact (True)] ?_
 generalize G.g 9 0 = c309, G.g 12 0 = c313
 refine Jf 15 rfl ?_; rintro he331
 refine Jk [0, 1, 3, 4, 4, 5, 6, 7, 8, 9, 10, 11, 12, 12, 14] ?_
 refine Jo 13 ?_; rintro a332 k333 rfl
 refine Jo 14 ?_; rintro a334 k335 rfl
 refine Fb 8 14 fun hl336 => ?_
 refine Fo 14 fun ho337 => ?_
 have hq := q4 hrr false (by unfold flqlaw15_SolverKnown; simp only [h57, h235, h238, h241, h246, h248, h253, h258, h263, h288, h321, hg5, hg12, hg32, hR76, hg83, hg101, hg173, hg219, hg228, hg256, hR302, hg315, hg320, cs4]); subst hq
 exact Kr () rfl (.tmp rfl .nil) [] trivial
end Go.SL.G
