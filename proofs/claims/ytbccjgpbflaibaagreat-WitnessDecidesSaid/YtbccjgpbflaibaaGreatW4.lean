/- Part 4 of the walks: mirrors, plain laws and walks used by the last text of this claim. -/
import Derived.Test.YtbccjgpbflaibaaGreatW3
import Derived.Test.YtbccjgpbflaibaaGreatProg
set_option linter.unusedVariables false
set_option linter.unusedSimpArgs false
namespace Go.SL.G
open Go Go.SL Go.Proofs
set_option maxHeartbeats 20000000
set_option maxRecDepth 100000
theorem fn64 (s : GSystem) (sa1 : Option Addr) (sk1 : Nat) (sa2 : Option Addr) (sk2 : Nat) (sa3 : Option Addr) (sk3 : Nat) (h : GHop) (hs_0 : i64ok s.Width) (hh_0 : i64ok h.Node) (hh_1 : i64ok h.Bit) (hv0 : VSys s) (hn0 : 0 ≤ h.Node ∧ h.Node < (s.Deps.length : Int)) (rr : List GHop) (hrr : wt_before s h = rr) : FT Tryz.prog 64 #[.agg #[vi s.Width, vl sa1 sk1 s.Deps, vl sa2 sk2 s.Transfers, vl sa3 sk3 s.Boundary], .agg #[vi h.Node, vi h.Bit]] [S sa1 sk1 s.Deps, S sa2 sk2 s.Transfers, S sa3 sk3 s.Boundary] (fun g : Value => ((rr.length : Int) ≤ 65536)) (fun g => g) (fun g => [sl g rr]) := by
 refine FTi Tryz.func64 fun w0 M0 F0 => ?_
 unfold i64ok at hs_0 hh_0 hh_1
 refine Fb 24 0 fun _ => Fb 88 1 fun _ => Fb 32 2 fun _ => ?_
 have hv2 := hv0.tl
 have hv3 := hv0.bl
 have hv4 := hv0.w
 have hv1 := hv0.n
 have hv5 := hv0.dep_n hn0.1 hn0.2
 refine KS ?_
 refine Oa (Ab [vi s.Width, vl sa1 sk1 s.Deps, vl sa2 sk2 s.Transfers, vl sa3 sk3 s.Boundary]) fun p4 => Oa (Ab [vi h.Node, vi h.Bit]) fun p5 => Oq Va (KS ?_)
 refine Oq Va (KS ?_)
 refine Oq (Vfa fo27_1 1) (Oq (VldF sh23 1) (Oq (Vfa fo37_0 0) (Oq (VldF sh3 0) (Oq (Vi sl23 2) ?_))))
 refine JJ_peekL h.Node.toNat 2 rfl rng fun a6 k7 => ?_
 refine Fb 8 1 fun _ => Fo 1 fun ho9 => ?_
 refine Oq (Vld sh22 0) (Oq (Vlen sl22) (Oq Vm (KS ?_)))
 refine Jl [] (Ent.osNil (α := GHop)) ?_
 refine Kl (γ := Nat × List GHop × Int × Option Addr × Nat) (fun (r10, out_11, v17_12, a13, k14) => ⟨[(2, p4), (3, p5), (5, vl a13 k14 out_11), (15, vl a6 k7 (s.Deps.getD h.Node.toNat [])), (16, vi ((s.Deps.getD h.Node.toNat []).length : Int)), (17, vi v17_12)], [O a13 k14 out_11, S a6 k7 ((s.Deps.getD h.Node.toNat []) : List Int), pv p5 [vi h.Node, vi h.Bit], pv p4 [vi s.Width, vl sa1 sk1 s.Deps, vl sa2 sk2 s.Transfers, vl sa3 sk3 s.Boundary], S sa1 sk1 s.Deps, S sa2 sk2 s.Transfers, S sa3 sk3 s.Boundary], wt_before_L0 s h r10 out_11 v17_12 = wt_before_L0 s h (((((s.Deps.getD h.Node.toNat []).length : Int) : Int) - 0).toNat) [] 0 ∧ r10 = ((((s.Deps.getD h.Node.toNat []).length : Int) : Int) - v17_12).toNat ∧ (0 : Int) ≤ v17_12 ∧ (v17_12 ≤ ((s.Deps.getD h.Node.toNat []).length : Int) ∨ v17_12 = 0) ∧ (-9223372036854775808 ≤ v17_12 ∧ v17_12 ≤ 9223372036854775807) ∧ ((out_11.length : Int) ≤ 256 * v17_12), r10⟩) (((((s.Deps.getD h.Node.toNat []).length : Int) : Int) - 0).toNat, [], 0, none, 0) [0, 1, 2, 3, 4, 5, 6] ⟨rfl, rfl, aM1, (.inr rfl), aM1, iv0⟩ ?_
 rintro ⟨r10, out_11, v17_12, a13, k14⟩ ⟨hM15, hr16, hi17, hi18, hk19, hv20⟩
 refine JJ_nx fun _ _ hL hA => ?_; dsimp only at hL hA; subst hL hA
 refine Fb 16 0 fun _ => Fb 8 1 fun _ => Fo 1 fun ho23 => Fb 24 4 fun _ => Fb 88 5 fun _ => Fb 32 6 fun _ => KS ?_
 refine Oq Vlss (KS ?_)
 refine Kc ?_ ?_
 ·intro h27
  have g28 := dt h27
  have hq := hv0.dep_mem hn0.1 hn0.2 _ (getD_mem (xs := s.Deps.getD h.Node.toNat []) (i := v17_12.toNat) (d := 0) aM1)
  obtain ⟨r29, rfl⟩ := scc (n := r10) aM1
  refine KS ?_
  refine Oq (Vi sl22 1) ?_
  have hb30 := ok1 (i := v17_12.toNat) ho23 rng
  refine Oq (VldI sh3 1) (Oq Va (KS ?_))
  refine Oq (Vfa fo27_2 3) (Oq (VldF sh24 3) (Oq Vm (Oq (Vi sl24 5) ?_)))
  refine JJ_peek_GTransfer (((s.Deps.getD h.Node.toNat []).getD v17_12.toNat 0) : Int).toNat 5 rfl rng fun a31 k32 a33 k34 a35 k36 hb37 hb38 => ?_
  unfold i64ok at hb37 hb38
  refine Fb 8 1 fun _ => Fb 8 2 fun _ => Fb 16 3 fun _ => ?_
  refine Oq (VldA sh65 0) (Oa (Al ze65 [vi 0, .slice none 0 0, vi 0, .slice none 0 0, .slice none 0 0]) fun p42 => Ost (Scl [0] sh65 [vi (((s.Transfers.getD (((s.Deps.getD h.Node.toNat []).getD v17_12.toNat 0) : Int).toNat default).Gen).Width), .slice a31 ((((s.Transfers.getD (((s.Deps.getD h.Node.toNat []).getD v17_12.toNat 0) : Int).toNat default).Gen).Words).length) k32, vi (((s.Transfers.getD (((s.Deps.getD h.Node.toNat []).getD v17_12.toNat 0) : Int).toNat default).Kill).Width), .slice a33 ((((s.Transfers.getD (((s.Deps.getD h.Node.toNat []).getD v17_12.toNat 0) : Int).toNat default).Kill).Words).length) k34, .slice a35 (((s.Transfers.getD (((s.Deps.getD h.Node.toNat []).getD v17_12.toNat 0) : Int).toNat default).Copies).length) k36]) (KS ?_))
  refine Oq (Vfa fo27_0 8) (Oq (VldF sh3 8) (Oq Vm (KS ?_)))
  refine Kl (γ := Nat × List GHop × Int × Option Addr × Nat) (fun (r43, out_44, v28_45, a46, k47) => ⟨[(2, p4), (3, p5), (5, vl a46 k47 out_44), (15, vl a6 k7 (s.Deps.getD h.Node.toNat [])), (16, vi ((s.Deps.getD h.Node.toNat []).length : Int)), (17, vi v17_12), (7, vi ((s.Deps.getD h.Node.toNat []).getD v17_12.toNat 0)), (8, p42), (27, vi s.Width), (28, vi v28_45)], [O a46 k47 out_44, Cl p42 [vi (((s.Transfers.getD (((s.Deps.getD h.Node.toNat []).getD v17_12.toNat 0) : Int).toNat default).Gen).Width), .slice a31 ((((s.Transfers.getD (((s.Deps.getD h.Node.toNat []).getD v17_12.toNat 0) : Int).toNat default).Gen).Words).length) k32, vi (((s.Transfers.getD (((s.Deps.getD h.Node.toNat []).getD v17_12.toNat 0) : Int).toNat default).Kill).Width), .slice a33 ((((s.Transfers.getD (((s.Deps.getD h.Node.toNat []).getD v17_12.toNat 0) : Int).toNat default).Kill).Words).length) k34, .slice a35 (((s.Transfers.getD (((s.Deps.getD h.Node.toNat []).getD v17_12.toNat 0) : Int).toNat default).Copies).length) k36], S a31 k32 (((s.Transfers.getD (((s.Deps.getD h.Node.toNat []).getD v17_12.toNat 0) : Int).toNat default).Gen).Words : List (BitVec 64)), S a33 k34 (((s.Transfers.getD (((s.Deps.getD h.Node.toNat []).getD v17_12.toNat 0) : Int).toNat default).Kill).Words : List (BitVec 64)), S a35 k36 ((s.Transfers.getD (((s.Deps.getD h.Node.toNat []).getD v17_12.toNat 0) : Int).toNat default).Copies : List GCopy), S a6 k7 ((s.Deps.getD h.Node.toNat []) : List Int), pv p5 [vi h.Node, vi h.Bit], pv p4 [vi s.Width, vl sa1 sk1 s.Deps, vl sa2 sk2 s.Transfers, vl sa3 sk3 s.Boundary], S sa1 sk1 s.Deps, S sa2 sk2 s.Transfers, S sa3 sk3 s.Boundary], wt_before_L1 h ((s.Deps.getD h.Node.toNat []).getD v17_12.toNat 0) (((s.Transfers.getD (((s.Deps.getD h.Node.toNat []).getD v17_12.toNat 0) : Int).toNat default).Kill).Width) (((s.Transfers.getD (((s.Deps.getD h.Node.toNat []).getD v17_12.toNat 0) : Int).toNat default).Kill).Words) ((s.Transfers.getD (((s.Deps.getD h.Node.toNat []).getD v17_12.toNat 0) : Int).toNat default).Copies) r43 out_44 v28_45 = wt_before_L1 h ((s.Deps.getD h.Node.toNat []).getD v17_12.toNat 0) (((s.Transfers.getD (((s.Deps.getD h.Node.toNat []).getD v17_12.toNat 0) : Int).toNat default).Kill).Width) (((s.Transfers.getD (((s.Deps.getD h.Node.toNat []).getD v17_12.toNat 0) : Int).toNat default).Kill).Words) ((s.Transfers.getD (((s.Deps.getD h.Node.toNat []).getD v17_12.toNat 0) : Int).toNat default).Copies) (((s.Width : Int) - 0).toNat) out_11 0 ∧ r43 = ((s.Width : Int) - v28_45).toNat ∧ (0 : Int) ≤ v28_45 ∧ (v28_45 ≤ s.Width ∨ v28_45 = 0) ∧ (-9223372036854775808 ≤ v28_45 ∧ v28_45 ≤ 9223372036854775807) ∧ ((out_44.length : Int) ≤ 256 * v17_12 + v28_45), r43⟩) (((s.Width : Int) - 0).toNat, out_11, 0, a13, k14) [5, 0, 1, 2, 3, 4, 5, 6, 7, 8, 9] ⟨rfl, rfl, aM1, (.inr rfl), aM1, iv0⟩ ?_
  rintro ⟨r43, out_44, v28_45, a46, k47⟩ ⟨hM48, hr49, hi50, hi51, hk52, hv53⟩
  refine JJ_nx fun _ _ hL hA => ?_; dsimp only at hL hA; subst hL hA
  refine Fb 16 0 fun _ => Fb 8 2 fun _ => Fb 8 3 fun _ => Fb 16 4 fun _ => Fb 8 5 fun _ => Fo 5 fun ho59 => Fb 24 8 fun _ => Fb 88 9 fun _ => ?_
  refine Fb 32 10 fun _ => KS ?_
  refine Oq Vlss (KS ?_)
  refine Kc ?_ ?_
  ·intro h63
   have g64 := dt h63
   obtain ⟨r65, rfl⟩ := scc (n := r43) aM1
   refine KS ?_
   refine Oq Vm (Oq Va (KS ?_))
   refine Oq Vm (Oq (Vfa fo37_1 6) (Oq (VldF sh3 6) (Oq Veql (Oq Vm ?_))))
   refine Js 35 ?_ ?_
   ·intro h66
    have g67 := eq_of_beq h66
    refine Oq (Vfa fo65_1 1) (Oq (VldG sh42 1 [vi (((s.Transfers.getD (((s.Deps.getD h.Node.toNat []).getD v17_12.toNat 0) : Int).toNat default).Kill).Width), .slice a33 ((((s.Transfers.getD (((s.Deps.getD h.Node.toNat []).getD v17_12.toNat 0) : Int).toNat default).Kill).Words).length) k34]) (Oq Vm ?_))
    refine letv (bt_Has ((s.Transfers.getD (((s.Deps.getD h.Node.toNat []).getD v17_12.toNat 0) : Int).toNat default).Kill) v28_45) fun rv68 hg69 => ?_
    have hc70 := fn47 (((s.Transfers.getD (((s.Deps.getD h.Node.toNat []).getD v17_12.toNat 0) : Int).toNat default).Kill)) a33 k34 v28_45 pre pre rv68 hg69
    refine Oc [3] ca47 hc70 ?_
    rintro - -
    refine Oq Vnot (Oq Vpt (Oq Vm ?_))
    refine Js 42 ?_ ?_
    ·intro h71
     have h73 := not_true h71
     refine Osk (Osk (Osk (Osk (Osk (Osk (Osk (Oq Vpt (KS ?_))))))))
     refine Kt (KS ?_)
     refine Oq Vm (Oq Vm (Oq Vm (Oq (Vbd st37 [vi ((s.Deps.getD h.Node.toNat []).getD v17_12.toNat 0), vi v28_45]) (Oa (AsV sl28 sz28 [.agg #[vi ((s.Deps.getD h.Node.toNat []).getD v17_12.toNat 0), vi v28_45]] [vi ((s.Deps.getD h.Node.toNat []).getD v17_12.toNat 0), vi v28_45]) fun c75 => ?_))))
     refine Jo 0 ?_; rintro a76 k77 rfl
     refine Jl [0] (Ent.cr1 (α := GHop) (A := []) _ (GHop.mk ((s.Deps.getD h.Node.toNat []).getD v17_12.toNat 0) v28_45) _ aB1 (fun h => ⟨rfl, aL1, aL1⟩)) ?_
     refine Oa (ApO [1, 0] sl28 sl28 sz28) fun c78 => ?_
     refine Jo 0 ?_; rintro a79 k80 rfl
     refine Fb 16 0 fun _ => ?_
     have hn82 := la out_44 ([(GHop.mk ((s.Deps.getD h.Node.toNat []).getD v17_12.toNat 0) v28_45)] : List GHop)
     refine Oq Va (KS ?_)
     refine Oq Vadd (Oq Vm (KS ?_))
     exact Kg (r65, (out_44 ++ [(GHop.mk ((s.Deps.getD h.Node.toNat []).getD v17_12.toNat 0) v28_45)]), (v28_45 + 1), a79, k80) [0, 0, 0, 1, 2, 3, 4, 5, 6, 7, 8] ⟨(q3 hM48 (by simp only [wt_before_L1, h63, h66, h71, h73, hg69, cs4])), aM1, aM1, aM1, aM1, iv1⟩
    intro h71
    have h84 := not_false h71
    refine Oq (Vfa fo65_2 1) (Oq (VldF sh63 1) (Oq Vm (Oq (Vfa fo37_1 6) (Oq (VldF sh3 6) (Oq (Vbd st105 [vi v28_45, vi h.Bit]) ?_)))))
    refine letv (sc_Contains_Copy ((s.Transfers.getD (((s.Deps.getD h.Node.toNat []).getD v17_12.toNat 0) : Int).toNat default).Copies) (GCopy.mk v28_45 h.Bit)) fun rv86 hg87 => ?_
    have hc88 := fn105 ((s.Transfers.getD (((s.Deps.getD h.Node.toNat []).getD v17_12.toNat 0) : Int).toNat default).Copies) a35 k36 ((GCopy.mk v28_45 h.Bit)) pre pre rv86 hg87
    refine Oc [4] ca105 hc88 ?_
    rintro - -
    refine Oq Vpf (KS ?_)
    refine Kc ?_ ?_
    ·intro h89
     refine KS ?_
     refine Oq Vm (Oq Vm (Oq Vm (Oq (Vbd st37 [vi ((s.Deps.getD h.Node.toNat []).getD v17_12.toNat 0), vi v28_45]) (Oa (AsV sl28 sz28 [.agg #[vi ((s.Deps.getD h.Node.toNat []).getD v17_12.toNat 0), vi v28_45]] [vi ((s.Deps.getD h.Node.toNat []).getD v17_12.toNat 0), vi v28_45]) fun c91 => ?_))))
     refine Jo 0 ?_; rintro a92 k93 rfl
     refine Jl [0] (Ent.cr1 (α := GHop) (A := []) _ (GHop.mk ((s.Deps.getD h.Node.toNat []).getD v17_12.toNat 0) v28_45) _ aB1 (fun h => ⟨rfl, aL1, aL1⟩)) ?_
     refine Oa (ApO [1, 0] sl28 sl28 sz28) fun c94 => ?_
     refine Jo 0 ?_; rintro a95 k96 rfl
     refine Fb 16 0 fun _ => ?_
     have hn98 := la out_44 ([(GHop.mk ((s.Deps.getD h.Node.toNat []).getD v17_12.toNat 0) v28_45)] : List GHop)
     refine Oq Va (KS ?_)
     refine Oq Vadd (Oq Vm (KS ?_))
     exact Kg (r65, (out_44 ++ [(GHop.mk ((s.Deps.getD h.Node.toNat []).getD v17_12.toNat 0) v28_45)]), (v28_45 + 1), a95, k96) [0, 0, 0, 1, 2, 3, 4, 5, 6, 7, 8] ⟨(q3 hM48 (by simp only [wt_before_L1, h63, h66, h71, h84, h89, hg69, hg87, cs4])), aM1, aM1, aM1, aM1, iv1⟩
    intro h89
    refine KS ?_
    refine Oq Vadd (Oq Vm (KS ?_))
    exact Kg (r65, out_44, (v28_45 + 1), a46, k47) [0, 0, 0, 1, 2, 3, 4, 5, 6, 7, 8] ⟨(q3 hM48 (by simp only [wt_before_L1, h63, h66, h71, h84, h89, hg69, hg87, cs4])), aM1, aM1, aM1, aM1, iv1⟩
   intro h66
   have g100 := ne_of_beq_false h66
   refine Osk (Osk (Osk (Osk (Osk (Oq Vpf (Oq Vm (Oq (Vfa fo65_2 1) (Oq (VldF sh63 1) (Oq Vm ?_)))))))))
   refine Oq (Vfa fo37_1 6) (Oq (VldF sh3 6) (Oq (Vbd st105 [vi v28_45, vi h.Bit]) ?_))
   refine letv (sc_Contains_Copy ((s.Transfers.getD (((s.Deps.getD h.Node.toNat []).getD v17_12.toNat 0) : Int).toNat default).Copies) (GCopy.mk v28_45 h.Bit)) fun rv101 hg102 => ?_
   have hc103 := fn105 ((s.Transfers.getD (((s.Deps.getD h.Node.toNat []).getD v17_12.toNat 0) : Int).toNat default).Copies) a35 k36 ((GCopy.mk v28_45 h.Bit)) pre pre rv101 hg102
   refine Oc [4] ca105 hc103 ?_
   rintro - -
   refine Oq Vpf (KS ?_)
   refine Kc ?_ ?_
   ·intro h104
    refine KS ?_
    refine Oq Vm (Oq Vm (Oq Vm (Oq (Vbd st37 [vi ((s.Deps.getD h.Node.toNat []).getD v17_12.toNat 0), vi v28_45]) (Oa (AsV sl28 sz28 [.agg #[vi ((s.Deps.getD h.Node.toNat []).getD v17_12.toNat 0), vi v28_45]] [vi ((s.Deps.getD h.Node.toNat []).getD v17_12.toNat 0), vi v28_45]) fun c106 => ?_))))
    refine Jo 0 ?_; rintro a107 k108 rfl
    refine Jl [0] (Ent.cr1 (α := GHop) (A := []) _ (GHop.mk ((s.Deps.getD h.Node.toNat []).getD v17_12.toNat 0) v28_45) _ aB1 (fun h => ⟨rfl, aL1, aL1⟩)) ?_
    refine Oa (ApO [1, 0] sl28 sl28 sz28) fun c109 => ?_
    refine Jo 0 ?_; rintro a110 k111 rfl
    refine Fb 16 0 fun _ => ?_
    have hn113 := la out_44 ([(GHop.mk ((s.Deps.getD h.Node.toNat []).getD v17_12.toNat 0) v28_45)] : List GHop)
    refine Oq Va (KS ?_)
    refine Oq Vadd (Oq Vm (KS ?_))
    exact Kg (r65, (out_44 ++ [(GHop.mk ((s.Deps.getD h.Node.toNat []).getD v17_12.toNat 0) v28_45)]), (v28_45 + 1), a110, k111) [0, 0, 0, 1, 2, 3, 4, 5, 6, 7, 8] ⟨(q3 hM48 (by simp only [wt_before_L1, h63, h66, h104, hg102, cs4])), aM1, aM1, aM1, aM1, iv1⟩
   intro h104
   refine KS ?_
   refine Oq Vadd (Oq Vm (KS ?_))
   exact Kg (r65, out_44, (v28_45 + 1), a46, k47) [0, 0, 0, 1, 2, 3, 4, 5, 6, 7, 8] ⟨(q3 hM48 (by simp only [wt_before_L1, h63, h66, h104, hg102, cs4])), aM1, aM1, aM1, aM1, iv1⟩
  intro h63
  have g115 := df h63
  obtain rfl : r43 = 0 := by omega
  refine Ke ?_
  have hR116 := q2 hM48 out_44 (by simp only [wt_before_L1, h63, cs4])
  refine KS ?_
  refine Oq Vadd (Oq Vm (KS ?_))
  exact Kg (r29, out_44, (v17_12 + 1), a46, k47) [0, 4, 5, 6, 7, 8, 9] ⟨(q3 hM15 (by simp only [wt_before_L0, h27, h63, hR116, cs4])), aM1, aM1, aM1, aM1, iv1⟩
 intro h27
 have g117 := df h27
 obtain rfl : r10 = 0 := by omega
 refine Ke ?_
 have hR118 := q2 hM15 out_11 (by simp only [wt_before_L0, h27, cs4])
 refine KS ?_
 refine Oq Vm (Oq Va (KS ?_))
 refine Jl [0] (Ent.freeze _ _) ?_
 have hq := q4 hrr out_11 (by simp only [wt_before, h27, hR118, cs4]); subst hq
 exact Kr (vl a13 k14 out_11) rfl (.tmp rfl .nil) [0] en
theorem fn25 (s : GSystem) (sa1 : Option Addr) (sk1 : Nat) (sa2 : Option Addr) (sk2 : Nat) (sa3 : Option Addr) (sk3 : Nat) (n : Int) (bit : Int) (hs_0 : i64ok s.Width) (hn_0 : i64ok n) (hbit_0 : i64ok bit) (rr : List GHop × Bool × Int) (hrr : wt_Find s n bit = rr) : FT Tryz.prog 25 #[.agg #[vi s.Width, vl sa1 sk1 s.Deps, vl sa2 sk2 s.Transfers, vl sa3 sk3 s.Boundary], vi n, vi bit] [S sa1 sk1 s.Deps, S sa2 sk2 s.Transfers, S sa3 sk3 s.Boundary] (fun g : Value => i64ok rr.2.2) (fun g => .tuple #[g, vb rr.2.1, vi rr.2.2]) (fun g => [sl g rr.1]) := by
 refine FTi Tryz.func25 fun w0 M0 F0 => ?_
 unfold i64ok at hs_0 hn_0 hbit_0
 refine Fb 24 0 fun _ => Fb 88 1 fun _ => Fb 32 2 fun _ => KS ?_
 refine Oa (Ab [vi s.Width, vl sa1 sk1 s.Deps, vl sa2 sk2 s.Transfers, vl sa3 sk3 s.Boundary]) fun p4 => Oq Va (Oq Va (Oq Va (KS ?_)))
 refine Oq (VldA sh27 0) (Oq Vm (Oq Vm ?_))
 refine letv (wt_arguments s n bit) fun rv5 hg6 => ?_
 have hc7 := fn42 s sa1 sk1 sa2 sk2 sa3 sk3 n bit pre pre pre rv5 hg6
 refine Oc [1, 2, 3] ca42 hc7 ?_
 rintro - he8
 unfold i64ok at he8
 refine Oq Va (KS ?_)
 refine Oq Vm (Oq Vneq (KS ?_))
 refine Kc ?_ ?_
 ·intro h9
  have g10 := ne_of_bne h9
  refine KS ?_
  refine Oq Vm (Oq Va (Oq Va (Oq Va (KS ?_))))
  refine Jl [] (Ent.slNil (α := GHop)) ?_
  have hq := q4 hrr (([] : List GHop), false, rv5) (by simp only [wt_Find, h9, hg6, cs4]); subst hq
  exact Kr (.slice none 0 0) rfl (.tmp rfl (.tmp rfl (.tmp rfl .nil))) [0] en
 intro h9
 have g11 := eq_of_bne_false h9
 have hwa := wargs_0 (by assumption : wt_arguments s _ _ = rv5) h9; have hwb := hwa.1.bl; have hww := hwa.1.w; have hwn := hwa.1.n; have hwt := hwa.1.tl; have hdw := dw_le hwa.1; have hwr : HopR s (GHop.mk n bit) := hwa.2
 refine KS ?_
 refine Oq Vm (Oq Vm (Oq (Vbd st37 [vi n, vi bit]) (Oa (Al ze37 [vi 0, vi 0]) fun p12 => Ost (Scl [0] sh37 [vi n, vi bit]) (KS ?_))))
 refine Oa (Amps (κ := GHop) (α := GHop) (ek := ev_GHop) (ok := ok_GHop)) fun p13 => ?_
 refine Joms (ks := []) 0 ?_; rintro b14 rfl
 refine Oq (VldA sh37 1) ?_
 refine Jl [] (Ent.slNil (α := GHop)) ?_
 refine Ost (Smpi [1, 0] mt97 kk_GHop ([] : List GHop) (key := (GHop.mk n bit)) preK) (Oq Vm (Oq Va (KS ?_)))
 refine Oq (VldA sh37 2) (Oa (AsV sl28 sz28 [.agg #[vi n, vi bit]] [vi n, vi bit]) fun c15 => ?_)
 refine Jo 0 ?_; rintro a16 k17 rfl
 refine Oq Va (KS ?_)
 refine Jl [0] (Ent.cr1 (α := GHop) (A := []) _ (GHop.mk n bit) _ aB1 (fun h => ⟨rfl, aL1, aL1⟩)) ?_
 refine Fb 16 0 fun _ => ?_
 have hterm26 : wt_Find_L0 s ((s.Deps.length * s.Width.toNat : Nat) + 2) (mset ([] : List (GHop × List GHop)) (GHop.mk n bit) ([] : List GHop)) [(GHop.mk n bit)] ≠ LR.oof := (Find_t hwa.1 hwa.2.1 hwa.2.2)
 refine Kl (γ := Nat × (List (GHop × List GHop)) × List GHop × Option Addr × Nat) (fun (r19, next_20, level_21, a22, k23) => ⟨[(3, p4), (11, (mv b14)), (12, vl a22 k23 level_21)], [O a22 k23 level_21, MS GHop ev_GHop ok_GHop (mv b14) next_20, pv p4 [vi s.Width, vl sa1 sk1 s.Deps, vl sa2 sk2 s.Transfers, vl sa3 sk3 s.Boundary], S sa1 sk1 s.Deps, S sa2 sk2 s.Transfers, S sa3 sk3 s.Boundary], wt_Find_L0 s r19 next_20 level_21 = wt_Find_L0 s ((s.Deps.length * s.Width.toNat : Nat) + 2) (mset ([] : List (GHop × List GHop)) (GHop.mk n bit) ([] : List GHop)) [(GHop.mk n bit)] ∧ (∃ k, BInv s (GHop.mk n bit) k next_20 level_21), r19⟩) (((s.Deps.length * s.Width.toNat : Nat) + 2), (mset ([] : List (GHop × List GHop)) (GHop.mk n bit) ([] : List GHop)), [(GHop.mk n bit)], a16, k17) [0, 0, 2, 3, 4, 5] ⟨rfl, ⟨0, BInv_0 _ _⟩⟩ ?_
 rintro ⟨r19, next_20, level_21, a22, k23⟩ ⟨hM24, hv25⟩
 refine JJ_nx fun _ _ hL hA => ?_; dsimp only at hL hA; subst hL hA
 refine Fb 16 0 fun _ => Fb 24 3 fun _ => Fb 88 4 fun _ => Fb 32 5 fun _ => ?_
 rcases r19 with _ | r19
 ·exact absurd (hM24.symm.trans rfl) hterm26
 refine KS ?_
 refine Oq Vm ?_
 refine Jl [0] (Ent.freeze _ _) ?_
 refine letv (sc_Clone_Hop level_21) fun rv32 hg33 => ?_
 have hc34 := fn61 level_21 a22 k23 rv32 hg33
 refine Oc [0] ca61 hc34 ?_
 rintro c31 he35
 refine Jo 0 ?_; rintro a36 k37 rfl
 refine Fb 16 0 fun _ => Oq (Vf [p4]) ?_
 refine JJ_ent (Ent.pall [3, 4, 5, 6] rfl rfl) ?_
 refine letv (sc_DeleteFunc_Hop rv32 (fun x => wt_Find_1 x s)) fun rv40 hg41 => ?_
 have hc42 := fn60 rv32 a36 k37 62 [p4] (fun x => wt_Find_1 x s) [pv p4 [vi s.Width, vl sa1 sk1 s.Deps, vl sa2 sk2 s.Transfers, vl sa3 sk3 s.Boundary], S sa1 sk1 s.Deps, S sa2 sk2 s.Transfers, S sa3 sk3 s.Boundary] ca62 (fun x hx hq0 hq1 => FT_pall (A1 := _) (fn62 x  p4 s sa1 sk1 sa2 sk2 sa3 sk3 hq0 hq1 pre hwa.1 (BInv_rng hwa.1 hwr (by assumption : ∃ k, BInv s _ k _ _) _ (Clone_mem (by assumption) hx)).1 _ rfl)) rv40 hg41
 refine Oc [1, 0] ca60 hc42 ?_
 rintro c39 -
 refine Jo 0 ?_; rintro a43 k44 rfl
 refine Fb 16 0 fun _ => ?_
 refine Oq Va (KS ?_)
 refine Oq Vm (Oq (Vlen sl28) (Oq Vgtr (KS ?_)))
 refine Kc ?_ ?_
 ·intro h46
  have g47 := dt h46
  refine KS ?_
  refine Oq Vm (Oq Vm ?_)
  refine Jl [0] (Ent.freeze _ _) ?_
  refine letv (wt_first rv40 next_20) fun rv49 hg50 => ?_
  have hc51 := fn63 rv40 a43 k44 (mv b14) next_20 (starts_B hwa.1 hwr (by assumption : ∃ k, BInv s _ k _ _) (by assumption) (by assumption)) (vals_B hwa.1 hwr (by assumption : ∃ k, BInv s _ k _ _)) (by have := BInv_len hwa.1 hwr (by assumption : ∃ k, BInv s _ k _ _); omega) (first_t (by assumption : ∃ k, BInv s _ k _ _) (by assumption) (by assumption) aM1) rv49 hg50
  refine Oc [0, 3] ca63 hc51 ?_
  rintro c48 -
  refine Jo 0 ?_; rintro a52 k53 rfl
  refine Fb 16 0 fun _ => ?_
  refine Oq Va (Oq Va (Oq Va (KS ?_)))
  have hR55 := q2 hM24 (.ret (rv49, true, 0)) (by simp only [wt_Find_L0, h46, hg33, hg41, hg50, cs4])
  have hq := q4 hrr (rv49, true, 0) (by simp only [wt_Find, h9, h46, hg6, hg33, hg41, hg50, hR55, cs4]); subst hq
  exact Kr (vl a52 k53 rv49) rfl (.tmp rfl (.tmp rfl (.tmp rfl .nil))) [0] en
 intro h46
 have g56 := df h46
 refine KS ?_
 refine Oa (Ampo (κ := GHop) (α := GHop) (ek := ev_GHop) (ok := ok_GHop)) fun p57 => ?_
 refine Jomo 0 ?_; rintro b58 rfl
 refine Oq Va (KS ?_)
 refine Oq Va (KS ?_)
 refine Oq Vm (Oq (Vlen sl28) (Oq Vm (KS ?_)))
 refine Jl [] (Ent.osNil (α := GHop)) ?_
 refine Kl (γ := Nat × (List (GHop × List GHop)) × List GHop × Int × Option Addr × Nat) (fun (r59, found_60, further_61, v52_62, a63, k64) => ⟨[(3, p4), (11, (mv b14)), (14, (mv b58)), (15, vl a63 k64 further_61), (50, vl a22 k23 level_21), (51, vi (level_21.length : Int)), (52, vi v52_62)], [O a63 k64 further_61, MO GHop ev_GHop ok_GHop (mv b58) found_60, pAll [pv p4 [vi s.Width, vl sa1 sk1 s.Deps, vl sa2 sk2 s.Transfers, vl sa3 sk3 s.Boundary], S sa1 sk1 s.Deps, S sa2 sk2 s.Transfers, S sa3 sk3 s.Boundary], S a22 k23 level_21, MS GHop ev_GHop ok_GHop (mv b14) next_20, pv p4 [vi s.Width, vl sa1 sk1 s.Deps, vl sa2 sk2 s.Transfers, vl sa3 sk3 s.Boundary], S sa1 sk1 s.Deps, S sa2 sk2 s.Transfers, S sa3 sk3 s.Boundary], wt_Find_L1 s next_20 level_21 r59 found_60 further_61 v52_62 = wt_Find_L1 s next_20 level_21 (((level_21.length : Int) - 0).toNat) [] [] 0 ∧ r59 = ((level_21.length : Int) - v52_62).toNat ∧ (0 : Int) ≤ v52_62 ∧ v52_62 ≤ (level_21.length : Int) ∧ (-9223372036854775808 ≤ v52_62 ∧ v52_62 ≤ 9223372036854775807) ∧ (∀ e ∈ found_60, e.2 ≠ []) ∧ (∀ e ∈ found_60, (e.2.length : Int) ≤ 70000 * v52_62) ∧ ((further_61.length : Int) ≤ 70000 * v52_62), r59⟩) (((level_21.length : Int) - 0).toNat, [], [], 0, none, 0) [0, 0, 1, 2, 3, 3, 4, 5, 6] ⟨rfl, rfl, aM1, aM1, aM1, (fun e h => (by cases h)), (fun e h => (by cases h)), iv0⟩ ?_
 rintro ⟨r59, found_60, further_61, v52_62, a63, k64⟩ ⟨hM65, hr66, hi67, hi68, hk69, hv70, hv71, hv72⟩
 refine JJ_nx fun _ _ hL hA => ?_; dsimp only at hL hA; subst hL hA
 refine Fb 16 0 fun _ => Fb 16 3 fun _ => Fb 24 6 fun _ => Fb 88 7 fun _ => Fb 32 8 fun _ => KS ?_
 refine Oq Vlss (KS ?_)
 refine Kc ?_ ?_
 ·intro h78
  have g79 := dt h78
  have hlr := BInv_rng hwa.1 hwr (by assumption : ∃ k, BInv s _ k _ _) _ (getD_mem (xs := level_21) (i := v52_62.toNat) (d := default) aM1)
  have hlq := BInv_lvl' hwa.1 hwr (by assumption : ∃ k, BInv s _ k _ _)
  obtain ⟨r80, rfl⟩ := scc (n := r59) aM1
  refine KS ?_
  refine Oq (Vi sl28 3) ?_
  refine JJ_peek_GHop v52_62.toNat 3 rfl rng fun hb81 hb82 => ?_
  unfold i64ok at hb81 hb82
  refine Oq (VldA sh37 0) (Oa (Al ze37 [vi 0, vi 0]) fun p83 => Ost (Scl [0] sh37 [vi ((level_21.getD v52_62.toNat default).Node), vi ((level_21.getD v52_62.toNat default).Bit)]) (KS ?_))
  refine Oq (VldA sh27 7) (Oq (VldA sh37 0) ?_)
  refine letv (wt_before s (level_21.getD v52_62.toNat default)) fun rv85 hg86 => ?_
  have hc87 := fn64 s sa1 sk1 sa2 sk2 sa3 sk3 ((level_21.getD v52_62.toNat default)) pre pre pre hwa.1 hlr.1 rv85 hg86
  refine Oc [8, 9, 10] ca64 hc87 ?_
  rintro c84 he88
  refine Jo 0 ?_; rintro a89 k90 rfl
  refine Fb 16 0 fun _ => ?_
  refine Oq (Vlen sl28) (Oq Vm (KS ?_))
  refine Kl (γ := Nat × (List (GHop × List GHop)) × List GHop × Int × Option Addr × Nat) (fun (r92, found_93, further_94, v60_95, a96, k97) => ⟨[(3, p4), (11, (mv b14)), (14, (mv b58)), (15, vl a96 k97 further_94), (50, vl a22 k23 level_21), (51, vi (level_21.length : Int)), (52, vi v52_62), (17, p83), (58, vl a89 k90 rv85), (59, vi (rv85.length : Int)), (60, vi v60_95)], [O a96 k97 further_94, S a89 k90 rv85, Cl p83 [vi ((level_21.getD v52_62.toNat default).Node), vi ((level_21.getD v52_62.toNat default).Bit)], MO GHop ev_GHop ok_GHop (mv b58) found_93, pAll [pv p4 [vi s.Width, vl sa1 sk1 s.Deps, vl sa2 sk2 s.Transfers, vl sa3 sk3 s.Boundary], S sa1 sk1 s.Deps, S sa2 sk2 s.Transfers, S sa3 sk3 s.Boundary], S a22 k23 level_21, MS GHop ev_GHop ok_GHop (mv b14) next_20, pv p4 [vi s.Width, vl sa1 sk1 s.Deps, vl sa2 sk2 s.Transfers, vl sa3 sk3 s.Boundary], S sa1 sk1 s.Deps, S sa2 sk2 s.Transfers, S sa3 sk3 s.Boundary], wt_Find_L2 next_20 ((level_21.getD v52_62.toNat default).Node) ((level_21.getD v52_62.toNat default).Bit) rv85 r92 found_93 further_94 v60_95 = wt_Find_L2 next_20 ((level_21.getD v52_62.toNat default).Node) ((level_21.getD v52_62.toNat default).Bit) rv85 (((rv85.length : Int) - 0).toNat) found_60 further_61 0 ∧ r92 = ((rv85.length : Int) - v60_95).toNat ∧ (0 : Int) ≤ v60_95 ∧ v60_95 ≤ (rv85.length : Int) ∧ (-9223372036854775808 ≤ v60_95 ∧ v60_95 ≤ 9223372036854775807) ∧ (∀ e ∈ found_93, e.2 ≠ []) ∧ (∀ e ∈ found_93, (e.2.length : Int) ≤ 70000 * v52_62 + v60_95) ∧ ((further_94.length : Int) ≤ 70000 * v52_62 + v60_95), r92⟩) (((rv85.length : Int) - 0).toNat, found_60, further_61, 0, a63, k64) [3, 0, 1, 2, 2, 3, 4, 4, 5, 6, 7] ⟨rfl, rfl, aM1, aM1, aM1, (by assumption), (fun e h => Int.le_trans ((by assumption : ∀ e ∈ _, (e.2.length : Int) ≤ _) e h) aM1), iv0⟩ ?_
  rintro ⟨r92, found_93, further_94, v60_95, a96, k97⟩ ⟨hM98, hr99, hi100, hi101, hk102, hv103, hv104, hv105⟩
  refine JJ_nx fun _ _ hL hA => ?_; dsimp only at hL hA; subst hL hA
  refine Fb 16 0 fun _ => Fb 16 1 fun _ => Fb 16 5 fun _ => Fb 24 8 fun _ => Fb 88 9 fun _ => Fb 32 10 fun _ => KS ?_
  refine Oq Vlss (KS ?_)
  refine Kc ?_ ?_
  ·intro h112
   have g113 := dt h112
   obtain ⟨r114, rfl⟩ := scc (n := r92) aM1
   refine KS ?_
   refine Oq (Vi sl28 1) ?_
   refine JJ_peek_GHop v60_95.toNat 1 rfl rng fun hb115 hb116 => ?_
   unfold i64ok at hb115 hb116
   refine Oq (VldA sh37 0) (Oa (Al ze37 [vi 0, vi 0]) fun p117 => Ost (Scl [0] sh37 [vi ((rv85.getD v60_95.toNat default).Node), vi ((rv85.getD v60_95.toNat default).Bit)]) (KS ?_))
   refine Oq Vm (Oq (VldA sh37 0) (Oa (Amlk2 8 mt97 kk_GHop ze28 (key := (rv85.getD v60_95.toNat default)) preK) fun c118 => ?_))
   refine Jo 0 ?_; rintro a119 k120 rfl
   refine Fb 16 0 fun _ => ?_
   refine Oq Vm (Oq Vx (Oq Vx (Oq Va (Oq Va (KS ?_)))))
   refine Oq Vm (KS ?_)
   refine Kc ?_ ?_
   ·intro h122
    refine Ke ?_
    refine KS ?_
    refine Oq Vadd (Oq Vm (KS ?_))
    exact Kg (r114, found_93, further_94, (v60_95 + 1), a96, k97) [3, 3, 4, 4, 4, 5, 6, 6, 7, 8, 9] ⟨(q3 hM98 (by simp only [wt_Find_L2, h112, h122, cs4])), aM1, aM1, aM1, aM1, (by first | assumption | exact found_ne (by assumption)), (by first | exact found_len (by assumption) aM1 aM1 | exact fun e h => Int.le_trans ((by assumption : ∀ e ∈ _, (e.2.length : Int) ≤ _) e h) aM1), iv1⟩
   intro h122
   refine KS ?_
   refine Oq Vm (Oq (VldA sh37 1) ?_)
   refine JO_mlo (key := (rv85.getD v60_95.toNat default)) 6 mt97 kk_GHop ze28 preK (fun h => mgne (by assumption) h) ?_ ?_
   ·intro h125
    refine Oq (VeqN un28) (KS ?_)
    refine Kt (KS ?_)
    refine Oq Vm (Oq (VldA sh37 1) (Oa (AsV sl28 sz28 [.agg #[vi ((rv85.getD v60_95.toNat default).Node), vi ((rv85.getD v60_95.toNat default).Bit)]] [vi ((rv85.getD v60_95.toNat default).Node), vi ((rv85.getD v60_95.toNat default).Bit)]) fun c130 => ?_))
    refine Jo 0 ?_; rintro a131 k132 rfl
    refine Jl [0] (Ent.cr1 (α := GHop) (A := []) _ (rv85.getD v60_95.toNat default) _ aB1 (fun h => ⟨rfl, aL1, aL1⟩)) ?_
    refine Oa (ApO [4, 0] sl28 sl28 sz28) fun c133 => ?_
    refine Jo 0 ?_; rintro a134 k135 rfl
    refine Fb 16 0 fun _ => ?_
    have hn137 := la further_94 ([(rv85.getD v60_95.toNat default)] : List GHop)
    refine Oq Va (KS ?_)
    refine Oq Vm (Oq (VldA sh37 2) (Oq (VldA sh37 5) (Oa (AsV sl28 sz28 [.agg #[vi ((level_21.getD v52_62.toNat default).Node), vi ((level_21.getD v52_62.toNat default).Bit)]] [vi ((level_21.getD v52_62.toNat default).Node), vi ((level_21.getD v52_62.toNat default).Bit)]) fun c138 => ?_)))
    refine Jo 0 ?_; rintro a139 k140 rfl
    refine Oa (Amo [7] mt97 kk_GHop ze28 (key := (rv85.getD v60_95.toNat default)) preK) fun ⟨c141, st142⟩ => ?_
    refine Jo 0 ?_; rintro a143 k144 rfl
    refine Fb 16 0 fun _ => ?_
    have hml := mlen_le (m := found_93) (by assumption : ∀ e ∈ found_93, (e.2.length : Int) ≤ _) aM1 (rv85.getD v60_95.toNat default)
    refine Oq Vx ?_
    refine Jl [2] (Ent.cr1 (α := GHop) (A := []) _ (level_21.getD v52_62.toNat default) _ aB1 (fun h => ⟨rfl, aL1, aL1⟩)) ?_
    refine Oa (ApO [1, 0] sl28 sl28 sz28) fun c146 => ?_
    refine Jo 0 ?_; rintro a147 k148 rfl
    refine Fb 16 0 fun _ => ?_
    have hn150 := la (((mget found_93 (rv85.getD v60_95.toNat default)).getD []) : List GHop) ([(level_21.getD v52_62.toNat default)] : List GHop)
    refine Oq Vx (Ost (Seo [1, 0]) (KS ?_))
    refine Oq Vadd (Oq Vm (KS ?_))
    exact Kg (r114, (mset ((mset found_93 (rv85.getD v60_95.toNat default) ((mget found_93 (rv85.getD v60_95.toNat default)).getD [])) : List (GHop × List GHop)) (rv85.getD v60_95.toNat default) ((((mget found_93 (rv85.getD v60_95.toNat default)).getD []) ++ [(level_21.getD v52_62.toNat default)]) : List GHop)), (further_94 ++ [(rv85.getD v60_95.toNat default)]), (v60_95 + 1), a134, k135) [1, 4, 5, 0, 4, 5, 6, 6, 7, 8, 9] ⟨(q3 hM98 (by simp only [wt_Find_L2, h112, h122, h125, cs4])), aM1, aM1, aM1, aM1, (by first | assumption | exact found_ne (by assumption)), (by first | exact found_len (by assumption) aM1 aM1 | exact fun e h => Int.le_trans ((by assumption : ∀ e ∈ _, (e.2.length : Int) ≤ _) e h) aM1), iv1⟩
   intro ad126 n127 k128 h125
   refine Oq (VeqN un28) (KS ?_)
   refine Kf (KS ?_)
   refine Oq Vm (Oq (VldA sh37 1) (Oq (VldA sh37 5) (Oa (AsV sl28 sz28 [.agg #[vi ((level_21.getD v52_62.toNat default).Node), vi ((level_21.getD v52_62.toNat default).Bit)]] [vi ((level_21.getD v52_62.toNat default).Node), vi ((level_21.getD v52_62.toNat default).Bit)]) fun c152 => ?_)))
   refine Jo 0 ?_; rintro a153 k154 rfl
   refine Oa (Amo [7] mt97 kk_GHop ze28 (key := (rv85.getD v60_95.toNat default)) preK) fun ⟨c155, st156⟩ => ?_
   refine Jo 0 ?_; rintro a157 k158 rfl
   refine Fb 16 0 fun _ => ?_
   have hml := mlen_le (m := found_93) (by assumption : ∀ e ∈ found_93, (e.2.length : Int) ≤ _) aM1 (rv85.getD v60_95.toNat default)
   refine Oq Vx ?_
   refine Jl [2] (Ent.cr1 (α := GHop) (A := []) _ (level_21.getD v52_62.toNat default) _ aB1 (fun h => ⟨rfl, aL1, aL1⟩)) ?_
   refine Oa (ApO [1, 0] sl28 sl28 sz28) fun c160 => ?_
   refine Jo 0 ?_; rintro a161 k162 rfl
   refine Fb 16 0 fun _ => ?_
   have hn164 := la (((mget found_93 (rv85.getD v60_95.toNat default)).getD []) : List GHop) ([(level_21.getD v52_62.toNat default)] : List GHop)
   refine Oq Vx (Ost (Seo [1, 0]) (KS ?_))
   refine Oq Vadd (Oq Vm (KS ?_))
   exact Kg (r114, (mset ((mset found_93 (rv85.getD v60_95.toNat default) ((mget found_93 (rv85.getD v60_95.toNat default)).getD [])) : List (GHop × List GHop)) (rv85.getD v60_95.toNat default) ((((mget found_93 (rv85.getD v60_95.toNat default)).getD []) ++ [(level_21.getD v52_62.toNat default)]) : List GHop)), further_94, (v60_95 + 1), a96, k97) [4, 4, 5, 0, 4, 5, 6, 6, 7, 8, 9] ⟨(q3 hM98 (by simp only [wt_Find_L2, h112, h122, h125, cs4])), aM1, aM1, aM1, aM1, (by first | assumption | exact found_ne (by assumption)), (by first | exact found_len (by assumption) aM1 aM1 | exact fun e h => Int.le_trans ((by assumption : ∀ e ∈ _, (e.2.length : Int) ≤ _) e h) aM1), iv1⟩
  intro h112
  have g165 := df h112
  obtain rfl : r92 = 0 := by omega
  refine Ke ?_
  have hR166 := q2 hM98 (found_93, further_94) (by simp only [wt_Find_L2, h112, cs4])
  refine KS ?_
  refine Oq Vadd (Oq Vm (KS ?_))
  exact Kg (r80, found_93, further_94, (v52_62 + 1), a96, k97) [0, 2, 2, 3, 4, 4, 5, 6, 7] ⟨(q3 hM65 (by simp only [wt_Find_L1, h78, h112, hg86, hR166, cs4])), aM1, aM1, aM1, aM1, (by assumption), (fun e h => Int.le_trans ((by assumption : ∀ e ∈ _, (e.2.length : Int) ≤ _) e h) aM1), iv1⟩
 intro h78
 have g167 := df h78
 obtain rfl : r59 = 0 := by omega
 refine Ke ?_
 have hR168 := q2 hM65 (found_60, further_61) (by simp only [wt_Find_L1, h78, cs4])
 refine KS ?_
 refine Oq Vm (Oq (Vlen sl28) (Oq Veql (KS ?_)))
 refine Kc ?_ ?_
 ·intro h169
  have g170 := eq_of_beq h169
  refine KS ?_
  refine Oq Va (Oq Va (Oq Va (KS ?_)))
  refine Jl [] (Ent.slNil (α := GHop)) ?_
  have hR171 := q2 hM24 (.ret (([] : List GHop), false, 0)) (by simp only [wt_Find_L0, h46, h78, h169, hg33, hg41, hR168, cs4])
  have hq := q4 hrr (([] : List GHop), false, 0) (by simp only [wt_Find, h9, h46, h78, h169, hg6, hg33, hg41, hR168, hR171, cs4]); subst hq
  exact Kr (.slice none 0 0) rfl (.tmp rfl (.tmp rfl (.tmp rfl .nil))) [0] en
 intro h169
 have g172 := ne_of_beq_false h169
 refine KS ?_
 refine Oq Vm ?_
 refine Jl [1] Ent.moF ?_
 refine Jl [0] Ent.msfacts ?_
 refine Jf 0 rfl ?_; intro hmf174
 refine Jk [1, 1, 1, 2, 3, 3, 4, 5, 6] ?_
 refine Oa (Args [0] mt97) fun p173 => KS ?_
 refine Kl (γ := (List (GHop × List GHop)) × (List (GHop × List GHop)) × (List (GHop × List GHop))) (fun (dn177, rs178, next_176) => ⟨[(3, p4), (11, (mv b14)), (15, vl a63 k64 further_61), (93, p173)], [MSI GHop ev_GHop ok_GHop (mv b58) p173 found_60 (dn177 : List (GHop × List GHop)) (rs178 : List (GHop × List GHop)), O a63 k64 further_61, pAll [pv p4 [vi s.Width, vl sa1 sk1 s.Deps, vl sa2 sk2 s.Transfers, vl sa3 sk3 s.Boundary], S sa1 sk1 s.Deps, S sa2 sk2 s.Transfers, S sa3 sk3 s.Boundary], MS GHop ev_GHop ok_GHop (mv b14) next_176, pv p4 [vi s.Width, vl sa1 sk1 s.Deps, vl sa2 sk2 s.Transfers, vl sa3 sk3 s.Boundary], S sa1 sk1 s.Deps, S sa2 sk2 s.Transfers, S sa3 sk3 s.Boundary], wt_Find_L3 dn177 next_20 = next_176 ∧ (∀ e ∈ rs178, ok_GHop e.1), rs178.length⟩) ([], found_60, next_20) [0, 0, 0, 2, 2, 3, 4, 5] ⟨rfl, hmf174.2⟩ ?_
 rintro ⟨dn177, rs178, next_176⟩ ⟨hM179, hv180⟩
 refine JJ_nx fun _ _ hL hA => ?_; dsimp only at hL hA; subst hL hA
 refine Fb 16 1 fun _ => Fb 24 5 fun _ => Fb 88 6 fun _ => Fb 32 7 fun _ => KS ?_
 refine Onxs [0] ?_ ?_
 ·intro hz185
  have hz185l := congrArg List.length hz185
  refine Oq Vx (KS ?_)
  refine Kf ?_
  refine Ke ?_
  refine Jl [0] Ent.msdone ?_
  refine Jf 0 rfl ?_; intro hpm
  refine Jl [1] (Ent.msperm hpm) ?_
  refine Jk [0, 1, 1, 2, 2, 3, 4, 5] ?_
  refine Jl [0] Ent.msfacts ?_
  refine Jf 0 rfl ?_; intro hmf
  refine Jk [1, 1, 1, 2, 2, 3, 4, 5] ?_
  have hrn := hM179
  refine Jl [3] Ent.msfacts ?_
  refine Jf 0 rfl ?_; intro hmg
  refine Jk [1, 1, 1, 1, 2, 3, 4, 5] ?_
  refine letv (wt_Find_L3 found_60 next_20) fun rv186 hg187 => ?_
  refine Jl [0] (Ent.msperm (m' := rv186) (mrange_perm (f := wt_Find_L3) (fun _ => rfl) (fun _ _ _ => rfl) hpm hmf.1 hmg.1 hrn hg187)) ?_
  refine KS ?_
  refine Oq Vm (Oq Va (KS ?_))
  exact Kg (r19, rv186, further_61, a63, k64) [2, 0, 2, 3, 4, 5] ⟨(q3 hM24 (by simp only [wt_Find_L0, h46, h78, h169, hg33, hg41, hR168, hg187, cs4])), (Find_step (by assumption : ∃ k, BInv s _ k _ _) (by assumption) (by assumption) aM1 (by assumption) aM1 (by assumption))⟩
 intro en188 c192 r189 r190 hz191
 have hz191l := nxe hz191
 refine Jo 0 ?_; rintro a193 k194 rfl
 refine Fb 16 0 fun _ => ?_
 have hb196k := hv180 en188 (by rw [hz191]; simp)
 obtain ⟨hb196, hb197⟩ := hb196k
 unfold i64ok at hb196 hb197
 refine Oq Vx (KS ?_)
 refine Kt (KS ?_)
 refine Oa (Aens 1) fun c198 => ?_
 refine Jo 0 ?_; rintro a199 k200 rfl
 refine Oq Vx (Oq Vx (Oa (Al ze37 [vi 0, vi 0]) fun p201 => Ost (Scl [0] sh37 [vi en188.1.Node, vi en188.1.Bit]) (Oq Va (KS ?_))))
 refine Oq Vm (Oq (VldA sh37 0) (Oq Vm (Ost (Smps [6, 1] mt97 kk_GHop en188.2 (key := en188.1) preK) (KS ?_))))
 exact Kg ((dn177 ++ [en188]), (r189 ++ r190), (mset next_176 en188.1 en188.2)) [4, 4, 4, 0, 4, 5, 6, 7] ⟨(by (try show _ = _); rw [wt_Find_L3_app, hM179]; simp only [wt_Find_L3, cs4]), (fun e he => hv180 e (hz191.symm ▸ (List.mem_append.1 he).elim (List.mem_append_left _) (fun h => List.mem_append_right _ (List.mem_cons_of_mem _ h))))⟩ (hm := nxl hz191)
theorem fn119 (c : Int) (hc_0 : 0 ≤ c ∧ c ≤ 255) (rr : Bool) (hrr : r4_letter c = .ret rr) : FT Tryz.prog 119 #[.int .u8 c] [] (fun g : Unit => True) (fun g => vb rr) (fun g => []) := by
 refine FTi Tryz.func119 fun w0 M0 F0 => ?_
 have hx0 := lrn rr; have H := hrr; unfold r4_letter at H
 refine KS ?_
 refine Oq Va (KS ?_)
 refine Oq Vm (Oq Vgeq (Oq Vm ?_))
 refine JsH 5 H ?_ ?_
 ·intro h1 H
  have g2 := dt h1
  refine Oq Vm (Oq Vleq (Oq Vpt (Oq Vm ?_)))
  refine pT H hx0 fun h3 H => ?_
  refine JsT 9 h3 ?_
  have g4 := dt h3
  refine Osk (Osk (Osk (Osk (Osk (Osk (Oq Vpt (Oq Vm (Osk (Osk ?_)))))))))
  refine Oq Vpt (Oq Va (KS ?_))
  have hq := rI H; subst hq
  exact Kr () rfl (.tmp rfl .nil) [] trivial
 intro h1 H
 have g5 := df h1
 refine Osk (Osk (Oq Vpf (Oq Vm (Oq Vm (Oq Vgeq (Oq Vm ?_))))))
 refine pF H hx0 fun h6 H => ?_
 refine JsF 12 h6 ?_
 have g7 := df h6
 refine Osk (Osk (Oq Vpf (Oq Vpf (Oq Vm (Oq Vm (Oq Veql (Oq Vpf (Oq Va (KS ?_)))))))))
 have hq := rI H; subst hq
 exact Kr () rfl (.tmp rfl .nil) [] trivial
theorem fn120 (c : Int) (hc_0 : 0 ≤ c ∧ c ≤ 255) (rr : Bool) (hrr : r4_digit c = .ret rr) : FT Tryz.prog 120 #[.int .u8 c] [] (fun g : Unit => True) (fun g => vb rr) (fun g => []) := by
 refine FTi Tryz.func120 fun w0 M0 F0 => ?_
 have hx0 := lrn rr; have H := hrr; unfold r4_digit at H
 refine KS ?_
 refine Oq Va (KS ?_)
 refine Oq Vm (Oq Vgeq (Oq Vm ?_))
 refine JsH 5 H ?_ ?_
 ·intro h1 H
  have g2 := dt h1
  refine Oq Vm (Oq Vleq (Oq Vpt (Oq Va (KS ?_))))
  have hq := rI H; subst hq
  exact Kr () rfl (.tmp rfl .nil) [] trivial
 intro h1 H
 have g3 := df h1
 refine Osk (Osk (Oq Vpf (Oq Va (KS ?_))))
 have hq := rI H; subst hq
 exact Kr () rfl (.tmp rfl .nil) [] trivial
theorem fn84 (text : Str) (htext_0 : text.b.length ≤ 140737488355328) (rr : List GToken × Int × Int × Int) (hrr : r4_Scan text = .ret rr) : FT Tryz.prog 84 #[.string (bs text)] [] (fun g : Value => i64ok rr.2.1 ∧ i64ok rr.2.2.1 ∧ i64ok rr.2.2.2) (fun g => .tuple #[g, vi rr.2.1, vi rr.2.2.1, vi rr.2.2.2]) (fun g => [sl g rr.1]) := by
 refine FTi Tryz.func84 fun w0 M0 F0 => ?_
 have hx0 := lrn rr; have H := hrr; unfold r4_Scan at H
 refine KS ?_
 refine Oq Va (Oq Va (Oq Va (Oq Va (KS ?_))))
 refine Oq Vm (Oq (VlS un9 (l := text)) (Oq Vgtr (KS ?_)))
 refine pF H hx0 fun h1 H => ?_
 refine KcF h1 ?_
 have g2 := df h1
 refine KS ?_
 refine Oq Va (KS ?_)
 refine Oq Va (Oq Va (Oq Va (KS ?_)))
 refine Oq Va (KS ?_)
 refine Jl [] (Ent.osNil (α := GToken)) ?_
 refine llH H hx0 fun X13 hX14 hx15 HL16 => ?_
 refine Kl (γ := Nat × List GToken × Int × Bool × Int × Option Addr × Nat) (fun (r3, out_4, col_5, open__6, i_7, a8, k9) => ⟨[(0, .string (bs text)), (6, vl a8 k9 out_4), (7, vi 1), (8, vi col_5), (9, vb open__6), (10, vi i_7)], [O a8 k9 out_4], r4_Scan_L0 text r3 out_4 col_5 open__6 i_7 = X13 ∧ (-9223372036854775808 ≤ col_5 ∧ col_5 ≤ 9223372036854775807) ∧ (-9223372036854775808 ≤ i_7 ∧ i_7 ≤ 9223372036854775807), r3⟩) (100000, [], 1, false, 0, none, 0) [0] ⟨hX14, aM1, aM1⟩ ?_
 rintro ⟨r3, out_4, col_5, open__6, i_7, a8, k9⟩ ⟨hM10, hk11, hk12⟩
 refine JJ_nx fun _ _ hL hA => ?_; dsimp only at hL hA; subst hL hA
 refine Fb 40 0 fun _ => ?_
 rcases r3 with _ | r3
 ·exact absurd (hM10.symm.trans rfl) hx15
 have H := hM10; (try dsimp only at H); rw [r4_Scan_L0] at H
 refine KS ?_
 refine Oq Vm (Oq Vm (Oq (VlS un9 (l := text)) (Oq Vlss (KS ?_))))
 refine KcH H ?_ ?_
 ·intro h18 H
  have g19 := dt h18
  refine KS ?_
  refine Oq Vm (Oq Vm ?_)
  refine pC H hx15 fun hc20 H => ?_
  refine Oq (Vix un9 (l := text)) ?_
  have hb21 := u8b (text.b.getD i_7.toNat 0)
  refine Oq Va (KS ?_)
  refine Oq Vm (Oq Veql (Oq Vm ?_))
  refine JsH 28 H ?_ ?_
  ·intro h22 H
   have g23 := eq_of_beq h22
   refine Osk (Osk (Oq Vpt (Oq Va (KS ?_))))
   refine Kt (KS ?_)
   refine Oq Vm ?_
   refine pC H hx15 fun hc24 H => ?_
   refine Oq Vadd (Oq Vm ?_)
   refine pC H hx15 fun hc25 H => ?_
   refine Oq Vadd (Oq Va (Oq Va (KS ?_)))
   exact Kg (r3, out_4, (col_5 + 1), open__6, (i_7 + 1), a8, k9) [0] ⟨H, aM1, aM1⟩
  intro h22 H
  have g26 := ne_of_beq_false h22
  refine Oq Vm (Oq Veql (Oq Vpf (Oq Va (KS ?_))))
  refine pF H hx15 fun h27 H => ?_
  refine KcF h27 ?_
  have g28 := ne_of_beq_false h27
  refine KS ?_
  refine Oq Vm (Oq Veql (Oq Vm ?_))
  refine pF H hx15 fun h29 H => ?_
  refine JsF 39 h29 ?_
  have g30 := ne_of_beq_false h29
  refine Oq Vm (Oq Veql (Oq Vpf (Oq Vm ?_)))
  refine JsH 43 H ?_ ?_
  ·intro h31 H
   have g32 := eq_of_beq h31
   refine Osk (Osk (Oq Vpt (Oq Va (KS ?_))))
   refine Kt (KS ?_)
   refine Oq Vm (KS ?_)
   refine pT H hx15 fun h33 H => ?_
   refine KcT h33 ?_
   refine KS ?_
   refine Oq Vm (Oq Vm (Oq Vm (Oq (Vbd st129 [vi 3, .string (bs (Str.mk [])), vi 1, vi col_5]) (Oa (AsV sl116 sz116 [.agg #[vi 3, .string (bs (Str.mk [])), vi 1, vi col_5]] [vi 3, .string (bs (Str.mk [])), vi 1, vi col_5]) fun c35 => ?_))))
   refine Jo 0 ?_; rintro a36 k37 rfl
   refine Jl [0] (Ent.cr1 (α := GToken) (A := []) _ (GToken.mk 3 (Str.mk []) 1 col_5) _ aB1 (fun h => ⟨rfl, aL1, aS1, aL1, aL1⟩)) ?_
   refine pC H hx15 fun hc38 H => ?_
   refine Oa (ApO [1, 0] sl116 sl116 sz116) fun c39 => ?_
   refine Jo 0 ?_; rintro a40 k41 rfl
   refine Fb 40 0 fun _ => ?_
   have hn43 := la out_4 ([(GToken.mk 3 (Str.mk []) 1 col_5)] : List GToken)
   refine Oq Va (KS ?_)
   refine Oq Va (KS ?_)
   refine llH H hx15 fun X46 hX47 hx48 HL49 => ?_
   refine Kl (γ := Nat) (fun r44 => ⟨[(0, .string (bs text)), (7, vi 1), (8, vi col_5), (10, vi i_7), (11, .int .u8 ((text.b.getD i_7.toNat 0).toNat : Int)), (6, vl a40 k41 (out_4 ++ [(GToken.mk 3 (Str.mk []) 1 col_5)])), (9, vb false)], [O a40 k41 ((out_4 ++ [(GToken.mk 3 (Str.mk []) 1 col_5)]) : List GToken)], r4_Scan_L1 ((text.b.getD i_7.toNat 0).toNat : Int) r44 = X46, r44⟩) 1 [0] hX47 ?_
   rintro r44 hM45
   refine JJ_nx fun _ _ hL hA => ?_; dsimp only at hL hA; subst hL hA
   refine Fb 40 0 fun _ => ?_
   rcases r44 with _ | r44
   ·exact absurd (hM45.symm.trans rfl) hx48
   have H := hM45; (try dsimp only at H); rw [r4_Scan_L1] at H
   refine KS ?_
   refine Oq Vm (Oq Veql (Oq Vm ?_))
   refine pF H hx48 fun h51 H => ?_
   refine JsF 56 h51 ?_
   have g52 := ne_of_beq_false h51
   refine Osk (Osk (Osk (Osk (Oq Vpf (Oq Vm (Osk (Osk (Osk (Osk ?_)))))))))
   refine Oq Vpf (KS ?_)
   refine Kf ?_
   refine Ke ?_
   have H := llB H HL49
   refine KS ?_
   refine Oq Vm (Oq Veql (KS ?_))
   refine Kc ?_ ?_
   ·intro h53
    have g54 := eq_of_beq h53
    refine KS ?_
    refine Oq Vm ?_
    refine pC H hx15 fun hc55 H => ?_
    refine Oq Vadd (Oq Vm ?_)
    refine pC H hx15 fun hc56 H => ?_
    refine Oq Vadd (Oq Va (Oq Va (KS ?_)))
    refine Oq Vm (Oq Vm (Oq (VlS un9 (l := text)) (Oq Vlss (Oq Vm ?_))))
    refine pT H hx15 fun h57 H => ?_
    refine JsT 82 h57 ?_
    have g58 := dt h57
    refine Oq Vm (Oq Vm ?_)
    refine pC H hx15 fun hc59 H => ?_
    refine Oq (Vix un9 (l := text)) ?_
    have hb60 := u8b (text.b.getD ((i_7 + 1) : Int).toNat 0)
    refine Oq Veql (Oq Vpt (Oq Vm ?_))
    refine pF H hx15 fun h61 H => ?_
    refine JsF 88 h61 ?_
    have g62 := ne_of_beq_false h61
    refine Osk (Osk (Oq Vpf (KS ?_)))
    refine Kf (KS ?_)
    exact Kg (r3, (out_4 ++ [(GToken.mk 3 (Str.mk []) 1 col_5)]), (col_5 + 1), false, (i_7 + 1), a40, k41) [0] ⟨H, aM1, aM1⟩
   intro h53
   exact absurd h53 (by first | (simp [h31]; done) | (simp only [bne, h31]; decide) | (simp only [bne, h31, Bool.not_true, Bool.not_false]; decide) | (exfalso; omega) | (intro hq; simp only [bne, hq, Bool.not_false, Bool.not_true, reduceCtorEq] at h31))
  intro h31 H
  have g63 := ne_of_beq_false h31
  refine Oq Vm (Oq Veql (Oq Vpf (Oq Va (KS ?_))))
  refine pF H hx15 fun h64 H => ?_
  refine KcF h64 ?_
  have g65 := ne_of_beq_false h64
  refine KS ?_
  refine Oq Vm (Oq Veql (Oq Va (KS ?_)))
  refine KcH H ?_ ?_
  ·intro h66 H
   have g67 := eq_of_beq h66
   refine KS ?_
   refine Oq Vm (Oq Vm (Oq Vm (Oq (Vbd st129 [vi 2, .string (bs (Str.mk [61])), vi 1, vi col_5]) (Oa (AsV sl116 sz116 [.agg #[vi 2, .string (bs (Str.mk [61])), vi 1, vi col_5]] [vi 2, .string (bs (Str.mk [61])), vi 1, vi col_5]) fun c68 => ?_))))
   refine Jo 0 ?_; rintro a69 k70 rfl
   refine Jl [0] (Ent.cr1 (α := GToken) (A := []) _ (GToken.mk 2 (Str.mk [61]) 1 col_5) _ aB1 (fun h => ⟨rfl, aL1, aS1, aL1, aL1⟩)) ?_
   refine pC H hx15 fun hc71 H => ?_
   refine Oa (ApO [1, 0] sl116 sl116 sz116) fun c72 => ?_
   refine Jo 0 ?_; rintro a73 k74 rfl
   refine Fb 40 0 fun _ => ?_
   have hn76 := la out_4 ([(GToken.mk 2 (Str.mk [61]) 1 col_5)] : List GToken)
   refine Oq Va (KS ?_)
   refine Oq Vm ?_
   refine pC H hx15 fun hc77 H => ?_
   refine Oq Vadd (Oq Vm ?_)
   refine pC H hx15 fun hc78 H => ?_
   refine Oq Vadd (Oq Va (Oq Va (Oq Va (KS ?_))))
   exact Kg (r3, (out_4 ++ [(GToken.mk 2 (Str.mk [61]) 1 col_5)]), (col_5 + 1), true, (i_7 + 1), a73, k74) [0] ⟨H, aM1, aM1⟩
  intro h66 H
  have g79 := ne_of_beq_false h66
  refine KS ?_
  refine Oq Vm ?_
  refine lbH H hx15 fun rv80 hg81 H => ?_
  have hc82 := fn119 (((text.b.getD i_7.toNat 0).toNat : Int)) pre rv80 hg81
  refine Oc [] ca119 hc82 ?_
  rintro - -
  refine Oq Vm ?_
  refine pT H hx15 fun h83 H => ?_
  refine JsT 112 h83 ?_
  refine Osk (Osk (Oq Vpt (Oq Va (KS ?_))))
  refine Kt (KS ?_)
  refine Oq Va (KS ?_)
  refine llH H hx15 fun X89 hX90 hx91 HL92 => ?_
  refine Kl (γ := Nat × Int) (fun (r85, n_86) => ⟨[(0, .string (bs text)), (6, vl a8 k9 out_4), (7, vi 1), (8, vi col_5), (10, vi i_7), (11, .int .u8 ((text.b.getD i_7.toNat 0).toNat : Int)), (12, vi n_86)], [O a8 k9 out_4], r4_Scan_L2 text i_7 r85 n_86 = X89 ∧ (-9223372036854775808 ≤ n_86 ∧ n_86 ≤ 9223372036854775807), r85⟩) (100000, 0) [0] ⟨hX90, aM1⟩ ?_
  rintro ⟨r85, n_86⟩ ⟨hM87, hk88⟩
  refine JJ_nx fun _ _ hL hA => ?_; dsimp only at hL hA; subst hL hA
  refine Fb 40 0 fun _ => ?_
  rcases r85 with _ | r85
  ·exact absurd (hM87.symm.trans rfl) hx91
  have H := hM87; (try dsimp only at H); rw [r4_Scan_L2] at H
  refine KS ?_
  refine Oq Vm (Oq Vm ?_)
  refine pC H hx91 fun hc94 H => ?_
  refine Oq Vadd (Oq Vm (Oq (VlS un9 (l := text)) (Oq Vlss (Oq Vm ?_))))
  refine JsH 122 H ?_ ?_
  ·intro h95 H
   have g96 := dt h95
   refine Oq Vm (Oq Vm (Oq Vm (Oq Vadd ?_)))
   refine pC H hx91 fun hc97 H => ?_
   refine pC H hx91 fun hc98 H => ?_
   refine Oq (Vix un9 (l := text)) ?_
   have hb99 := u8b (text.b.getD ((i_7 + n_86) : Int).toNat 0)
   refine lbH H hx91 fun rv100 hg101 H => ?_
   have hc102 := fn119 (((text.b.getD ((i_7 + n_86) : Int).toNat 0).toNat : Int)) pre rv100 hg101
   refine Oc [] ca119 hc102 ?_
   rintro - -
   refine Oq Vm ?_
   refine JsH 129 H ?_ ?_
   ·intro h103 H
    refine Osk (Osk (Osk (Osk (Osk (Osk (Oq Vpt (Oq Vpt (KS ?_))))))))
    refine Kt (KS ?_)
    refine Oq Vm ?_
    refine pC H hx91 fun hc105 H => ?_
    refine Oq Vadd (Oq Va (KS ?_))
    exact Kg (r85, (n_86 + 1)) [0] ⟨H, aM1⟩
   intro h103 H
   refine Oq Vm (Oq Vm (Oq Vm (Oq Vadd (Oq (Vix un9 (l := text)) ?_))))
   have hb107 := u8b (text.b.getD ((i_7 + n_86) : Int).toNat 0)
   refine pC H hx91 fun hc110 H => ?_
   refine pC H hx91 fun hc111 H => ?_
   refine lbH H hx91 fun rv108 hg109 H => ?_
   have hc112 := fn120 (((text.b.getD ((i_7 + n_86) : Int).toNat 0).toNat : Int)) pre rv108 hg109
   refine Oc [] ca120 hc112 ?_
   rintro - -
   refine Oq Vpf (Oq Vpt (KS ?_))
   refine pF H hx91 fun h113 H => ?_
   refine KcF h113 ?_
   refine Ke ?_
   have H := llB H HL92
   refine KS ?_
   refine Oq Vm ?_
   refine lbH H hx15 fun rv115 hg116 H => ?_
   have hc117 := fn120 (((text.b.getD i_7.toNat 0).toNat : Int)) pre rv115 hg116
   refine Oc [] ca120 hc117 ?_
   rintro - -
   refine KS ?_
   refine pF H hx15 fun h118 H => ?_
   refine KcF h118 ?_
   refine KS ?_
   refine Oq Vm (Oq Vgtr (KS ?_))
   refine pF H hx15 fun h120 H => ?_
   refine KcF h120 ?_
   have g121 := df h120
   refine KS ?_
   refine Oq Vm (Oq Vm (Oq Vm (Oq Vm (Oq Vm (Oq Vadd ?_)))))
   refine pC H hx15 fun hc122 H => ?_
   refine pC H hx15 fun hc123 H => ?_
   refine Oq (VslS un9 (l := text)) ?_
   have hb124 := sub_len3 text i_7.toNat ((i_7 + n_86) : Int).toNat
   refine Oq Vm (Oq Vm (Oq (Vbd st129 [vi 1, .string (bs (text.sub i_7.toNat ((i_7 + n_86) : Int).toNat)), vi 1, vi col_5]) (Oa (AsV sl116 sz116 [.agg #[vi 1, .string (bs (text.sub i_7.toNat ((i_7 + n_86) : Int).toNat)), vi 1, vi col_5]] [vi 1, .string (bs (text.sub i_7.toNat ((i_7 + n_86) : Int).toNat)), vi 1, vi col_5]) fun c125 => ?_)))
   refine Jo 0 ?_; rintro a126 k127 rfl
   refine Jl [0] (Ent.cr1 (α := GToken) (A := []) _ (GToken.mk 1 (text.sub i_7.toNat ((i_7 + n_86) : Int).toNat) 1 col_5) _ aB1 (fun h => ⟨rfl, aL1, aS1, aL1, aL1⟩)) ?_
   refine pC H hx15 fun hc128 H => ?_
   refine Oa (ApO [1, 0] sl116 sl116 sz116) fun c129 => ?_
   refine Jo 0 ?_; rintro a130 k131 rfl
   refine Fb 40 0 fun _ => ?_
   have hn133 := la out_4 ([(GToken.mk 1 (text.sub i_7.toNat ((i_7 + n_86) : Int).toNat) 1 col_5)] : List GToken)
   refine Oq Va (KS ?_)
   refine Oq Vm (Oq Vm (Oq Vadd (Oq Vm (Oq Vm ?_))))
   refine pC H hx15 fun hc134 H => ?_
   refine pC H hx15 fun hc135 H => ?_
   refine Oq Vadd (Oq Va (Oq Va (Oq Va (KS ?_))))
   exact Kg (r3, (out_4 ++ [(GToken.mk 1 (text.sub i_7.toNat ((i_7 + n_86) : Int).toNat) 1 col_5)]), (col_5 + n_86), true, (i_7 + n_86), a130, k131) [0] ⟨H, aM1, aM1⟩
  intro h95 H
  have g136 := df h95
  refine Osk (Osk (Osk (Osk (Osk (Osk (Osk (Osk (Osk (Osk ?_)))))))))
  refine Osk (Osk (Osk (Osk (Oq Vpf (KS ?_)))))
  refine Kf ?_
  refine Ke ?_
  have H := llB H HL92
  refine KS ?_
  refine Oq Vm ?_
  refine lbH H hx15 fun rv137 hg138 H => ?_
  have hc139 := fn120 (((text.b.getD i_7.toNat 0).toNat : Int)) pre rv137 hg138
  refine Oc [] ca120 hc139 ?_
  rintro - -
  refine KS ?_
  refine pF H hx15 fun h140 H => ?_
  refine KcF h140 ?_
  refine KS ?_
  refine Oq Vm (Oq Vgtr (KS ?_))
  refine pF H hx15 fun h142 H => ?_
  refine KcF h142 ?_
  have g143 := df h142
  refine KS ?_
  refine Oq Vm (Oq Vm (Oq Vm (Oq Vm (Oq Vm (Oq Vadd ?_)))))
  refine pC H hx15 fun hc144 H => ?_
  refine pC H hx15 fun hc145 H => ?_
  refine Oq (VslS un9 (l := text)) ?_
  have hb146 := sub_len3 text i_7.toNat ((i_7 + n_86) : Int).toNat
  refine Oq Vm (Oq Vm (Oq (Vbd st129 [vi 1, .string (bs (text.sub i_7.toNat ((i_7 + n_86) : Int).toNat)), vi 1, vi col_5]) (Oa (AsV sl116 sz116 [.agg #[vi 1, .string (bs (text.sub i_7.toNat ((i_7 + n_86) : Int).toNat)), vi 1, vi col_5]] [vi 1, .string (bs (text.sub i_7.toNat ((i_7 + n_86) : Int).toNat)), vi 1, vi col_5]) fun c147 => ?_)))
  refine Jo 0 ?_; rintro a148 k149 rfl
  refine Jl [0] (Ent.cr1 (α := GToken) (A := []) _ (GToken.mk 1 (text.sub i_7.toNat ((i_7 + n_86) : Int).toNat) 1 col_5) _ aB1 (fun h => ⟨rfl, aL1, aS1, aL1, aL1⟩)) ?_
  refine pC H hx15 fun hc150 H => ?_
  refine Oa (ApO [1, 0] sl116 sl116 sz116) fun c151 => ?_
  refine Jo 0 ?_; rintro a152 k153 rfl
  refine Fb 40 0 fun _ => ?_
  have hn155 := la out_4 ([(GToken.mk 1 (text.sub i_7.toNat ((i_7 + n_86) : Int).toNat) 1 col_5)] : List GToken)
  refine Oq Va (KS ?_)
  refine Oq Vm (Oq Vm (Oq Vadd (Oq Vm (Oq Vm ?_))))
  refine pC H hx15 fun hc156 H => ?_
  refine pC H hx15 fun hc157 H => ?_
  refine Oq Vadd (Oq Va (Oq Va (Oq Va (KS ?_))))
  exact Kg (r3, (out_4 ++ [(GToken.mk 1 (text.sub i_7.toNat ((i_7 + n_86) : Int).toNat) 1 col_5)]), (col_5 + n_86), true, (i_7 + n_86), a152, k153) [0] ⟨H, aM1, aM1⟩
 intro h18 H
 have g158 := df h18
 refine Ke ?_
 have H := llB H HL16
 dsimp only at H
 refine KS ?_
 refine Oq Vm (KS ?_)
 refine pT H hx0 fun h159 H => ?_
 refine KcT h159 ?_
 refine KS ?_
 refine Oq Vm (Oq Vm (Oq Vm (Oq (Vbd st129 [vi 3, .string (bs (Str.mk [])), vi 1, vi col_5]) (Oa (AsV sl116 sz116 [.agg #[vi 3, .string (bs (Str.mk [])), vi 1, vi col_5]] [vi 3, .string (bs (Str.mk [])), vi 1, vi col_5]) fun c161 => ?_))))
 refine Jo 0 ?_; rintro a162 k163 rfl
 refine Jl [0] (Ent.cr1 (α := GToken) (A := []) _ (GToken.mk 3 (Str.mk []) 1 col_5) _ aB1 (fun h => ⟨rfl, aL1, aS1, aL1, aL1⟩)) ?_
 refine pC H hx0 fun hc164 H => ?_
 refine Oa (ApO [1, 0] sl116 sl116 sz116) fun c165 => ?_
 refine Jo 0 ?_; rintro a166 k167 rfl
 refine Fb 40 0 fun _ => ?_
 have hn169 := la out_4 ([(GToken.mk 3 (Str.mk []) 1 col_5)] : List GToken)
 refine Oq Va (KS ?_)
 refine Oq Vm (Oq Va (Oq Va (Oq Va (Oq Va (KS ?_)))))
 refine Jl [0] (Ent.freeze _ _) ?_
 have hq := rI H; subst hq
 exact Kr (vl a166 k167 (out_4 ++ [(GToken.mk 3 (Str.mk []) 1 col_5)])) rfl (.tmp rfl (.tmp rfl (.tmp rfl (.tmp rfl .nil)))) [0] en
theorem fn85 (pP : Value) (p : Gparser) (pa0 : Option Addr) (pk0 : Nat) (word : Str) (hp_1 : i64ok p.at_) (hp_2 : i64ok p.Err) (hword_0 : word.b.length ≤ 140737488355328) (rr : Bool) (hrr : pz_is p word = .ret rr) : FT Tryz.prog 85 #[pP, .string (bs word)] [Cl pP [vl pa0 pk0 p.l, vi p.at_, vi p.Err], S pa0 pk0 p.l] (fun g : Unit => True) (fun g => vb rr) (fun g => [Cl pP [vl pa0 pk0 p.l, vi p.at_, vi p.Err]]) := by
 refine FTi Tryz.func85 fun w0 M0 F0 => ?_
 unfold i64ok at hp_1 hp_2
 refine Fb 40 1 fun _ => ?_
 have hx0 := lrn rr; have H := hrr; unfold pz_is at H
 refine KS ?_
 refine Oq Va (KS ?_)
 refine Jp 0 fun hp2 => ?_
 refine pT H hx0 fun h3 H => ?_
 have g4 := eq_of_beq h3
 refine pS H ?_ ?_
 ·intro h5 H
  have g6 := dt h5
  refine pC H hx0 fun hc7 H => ?_
  refine JJ_peek_GToken p.at_.toNat 2 rfl rng fun hb8 hb9 hb10 hb11 => ?_
  unfold i64ok at hb8 hb10 hb11
  refine Kq [0, 1, 3, 7, 15, 31, 63, 127, 255, 511, 63, 1087, 3135, 7231, 15423, 32767, 65535, 131071, 262143, 524287, 1048575, 2097151, 262143, 4456447, 12845055, 29622271, 67108863, 134217727, 268435455, 536870911, 1073741823, 2147483647, 4294967295, 8589934591, 17179869183, 34359738367, 4294967295, 73014444031, 210453397503, 485331304447, 1099511627775, 2199023255551, 4398046511103, 4294967295, 17592186044415, 35184372088831, 70368744177663] fmix ?_
  refine Qv [] Vm (Qv [1] (Vn 0) (Qv [1] (Vfa fo121_2 0) (Qv [2] (VldF sh33 0) (Qb h3 [] Veql (Qv [] Vm (Qv [] Vm (Qv [1] (Vn 0) (Qv [1] (Vfa fo121_1 0) (Qv [2] (VldF sh3 0) ?_)))))))))
  refine Qv [] Vm (Qv [1] (Vn 0) (Qv [1] (Vfa fo121_0 0) (Qv [2] (VldF sh116 0) (Qv [] (Vlen sl116) (Qb h5 [] Vlss (Qv [] Vpt (Qv [] Vm (Qv [] Vm (Qv [1] (Vn 0) ?_)))))))))
  refine Qv [1] (Vfa fo121_0 0) (Qv [2] (VldF sh116 0) (Qv [] Vm (Qv [1] (Vn 0) (Qv [1] (Vfa fo121_1 0) (Qv [2] (VldF sh3 0) (Qv [3] (Vi sl116 0) (Qv [0] (Vfa fo129_0 0) (Qv [0] (VldF sh3 0) (Qv [] Veql ?_)))))))))
  refine Qv [] Vpt ?_
  refine pC H hx0 fun hc13 H => ?_
  refine pT H hx0 fun h12 H => ?_
  have g14 := eq_of_beq h12
  refine Qb h12 [] Vm (Qv [] Vm (Qv [1] (Vn 0) (Qv [1] (Vfa fo121_0 0) (Qv [2] (VldF sh116 0) (Qv [] Vm (Qv [1] (Vn 0) (Qv [1] (Vfa fo121_1 0) (Qv [2] (VldF sh3 0) (Qv [3] (Vi sl116 0) ?_)))))))))
  refine Qv [0] (Vfa fo129_1 0) (Qv [0] (VldF sh9 0) (Qv [] Vm (Qv [] (VeqS (l := (p.l.getD p.at_.toNat default).Text) (m := word)) (Qv [] Vpt (Qv [] Va ?_)))))
  refine Qn ⟨by kernel_rfl, ?_⟩
  refine pC H hx0 fun hc15 H => ?_
  have hq := rI H; subst hq
  exact Kr () rfl (.tmp rfl .nil) [2] trivial
 intro h5 H
 have g16 := df h5
 refine Kq [0, 1, 3, 7, 15, 31, 63, 127, 255, 511, 63, 1087, 3135, 7231, 15423, 32767, 65535, 131071, 262143, 524287, 1048575, 2097151, 262143, 4456447, 12845055, 29622271, 67108863, 134217727, 268435455, 536870911, 1073741823, 2147483647, 4294967295, 8589934591, 17179869183, 34359738367, 4294967295, 73014444031, 210453397503, 485331304447, 1099511627775, 2199023255551, 4398046511103, 4294967295, 17592186044415, 35184372088831, 70368744177663] fmix ?_
 refine Qv [] Vm (Qv [0] (Vn 0) (Qv [0] (Vfa fo121_2 0) (Qv [1] (VldF sh33 0) (Qb h3 [] Veql (Qv [] Vm (Qv [] Vm (Qv [0] (Vn 0) (Qv [0] (Vfa fo121_1 0) (Qv [1] (VldF sh3 0) ?_)))))))))
 refine Qv [] Vm (Qv [0] (Vn 0) (Qv [0] (Vfa fo121_0 0) (Qv [1] (VldF sh116 0) (Qv [] (Vlen sl116) (Qb h5 [] Vlss (Qv [] Vpt (Qv [] Vm (Qs (Qs ?_)))))))))
 refine Qs (Qs (Qs (Qs (Qs (Qs (Qs (Qs (Qs (Qs ?_)))))))))
 refine Qv [] Vpf (Qv [] Vm (Qs (Qs (Qs (Qs (Qs (Qs (Qs (Qs ?_)))))))))
 refine Qs (Qs (Qs (Qs (Qs (Qv [] Vpf (Qv [] Va ?_))))))
 refine Qn ⟨by kernel_rfl, ?_⟩
 have hq := rI H; subst hq
 exact Kr () rfl (.tmp rfl .nil) [1] trivial
theorem fn121 (pP : Value) (p : Gparser) (pa0 : Option Addr) (pk0 : Nat) (w : Str) (hp_1 : i64ok p.at_) (hp_2 : i64ok p.Err) (hw_0 : w.b.length ≤ 140737488355328) (rr : Gparser) (hrr : pz_word p w = .ret rr) : FT Tryz.prog 121 #[pP, .string (bs w)] [Cl pP [vl pa0 pk0 p.l, vi p.at_, vi p.Err], S pa0 pk0 p.l] (fun g : Unit => i64ok rr.at_ ∧ i64ok rr.Err) (fun g => .tuple #[]) (fun g => [Cl pP [vl pa0 pk0 p.l, vi rr.at_, vi rr.Err]]) := by
 refine FTi Tryz.func121 fun w0 M0 F0 => ?_
 unfold i64ok at hp_1 hp_2
 refine Fb 40 1 fun _ => ?_
 have hx0 := lrn rr; have H := hrr; unfold pz_word at H
 refine KS ?_
 refine Oq Vm (Oq Vm ?_)
 refine lbH H hx0 fun rv2 hg3 H => ?_
 have hc4 := fn85 pP p pa0 pk0 w pre pre pre rv2 hg3
 refine Oc [0, 0] ca85 hc4 ?_
 rintro - -
 refine Oq Vnot (KS ?_)
 refine pF H hx0 fun h5 H => ?_
 refine KcF h5 ?_
 have h7 := not_false h5
 refine KS ?_
 refine Oq Vm (Oq (Vn 0) (Oq (Vfa fo121_1 0) (Oq (VldF sh3 0) ?_)))
 refine pC H hx0 fun hc9 H => ?_
 refine Oq Vadd (Oq (Vn 0) (Oq (Vfa fo121_1 0) (Ost (SclF [0] sh3 [vl pa0 pk0 p.l, vi (p.at_ + 1), vi p.Err]) (KS ?_))))
 have hq := rI H; subst hq
 exact Kz () rfl .nil [0] en
theorem fn182  (rr : List Str) (hrr : r4_Keywords = .ret rr) : FT Tryz.prog 182 #[] [] (fun g : Value => True) (fun g => g) (fun g => [sl g rr]) := by
 refine FTi Tryz.func182 fun w0 M0 F0 => ?_
 have hx0 := lrn rr; have H := hrr; unfold r4_Keywords at H
 refine KS ?_
 refine Oq Va (KS ?_)
 refine Oa (AsV sl138 sz138 [.string (bs (Str.mk [102, 117, 110, 99])), .string (bs (Str.mk [98, 108, 111, 99, 107])), .string (bs (Str.mk [101, 110, 100])), .string (bs (Str.mk [117, 115, 101])), .string (bs (Str.mk [99, 97, 108, 108])), .string (bs (Str.mk [115, 111, 117, 114, 99, 101])), .string (bs (Str.mk [115, 105, 110, 107])), .string (bs (Str.mk [115, 97, 110, 105, 116, 105, 122, 101])), .string (bs (Str.mk [103, 111, 116, 111])), .string (bs (Str.mk [98, 114, 97, 110, 99, 104])), .string (bs (Str.mk [114, 101, 116, 117, 114, 110]))] [.string (bs (Str.mk [102, 117, 110, 99])), .string (bs (Str.mk [98, 108, 111, 99, 107])), .string (bs (Str.mk [101, 110, 100])), .string (bs (Str.mk [117, 115, 101])), .string (bs (Str.mk [99, 97, 108, 108])), .string (bs (Str.mk [115, 111, 117, 114, 99, 101])), .string (bs (Str.mk [115, 105, 110, 107])), .string (bs (Str.mk [115, 97, 110, 105, 116, 105, 122, 101])), .string (bs (Str.mk [103, 111, 116, 111])), .string (bs (Str.mk [98, 114, 97, 110, 99, 104])), .string (bs (Str.mk [114, 101, 116, 117, 114, 110]))]) fun c1 => ?_
 refine Jo 0 ?_; rintro a2 k3 rfl
 refine Oq Va (KS ?_)
 refine Jl [0] (Ent.crOs (α := Str) (A := []) _ ([(Str.mk [102, 117, 110, 99]), (Str.mk [98, 108, 111, 99, 107]), (Str.mk [101, 110, 100]), (Str.mk [117, 115, 101]), (Str.mk [99, 97, 108, 108]), (Str.mk [115, 111, 117, 114, 99, 101]), (Str.mk [115, 105, 110, 107]), (Str.mk [115, 97, 110, 105, 116, 105, 122, 101]), (Str.mk [103, 111, 116, 111]), (Str.mk [98, 114, 97, 110, 99, 104]), (Str.mk [114, 101, 116, 117, 114, 110])] : List Str) _ aB1 (fun h => ⟨[.string (bs (Str.mk [102, 117, 110, 99]))], [.string (bs (Str.mk [98, 108, 111, 99, 107])), .string (bs (Str.mk [101, 110, 100])), .string (bs (Str.mk [117, 115, 101])), .string (bs (Str.mk [99, 97, 108, 108])), .string (bs (Str.mk [115, 111, 117, 114, 99, 101])), .string (bs (Str.mk [115, 105, 110, 107])), .string (bs (Str.mk [115, 97, 110, 105, 116, 105, 122, 101])), .string (bs (Str.mk [103, 111, 116, 111])), .string (bs (Str.mk [98, 114, 97, 110, 99, 104])), .string (bs (Str.mk [114, 101, 116, 117, 114, 110]))], rfl, (fun _ => ⟨rfl, by first | omega | (simp; done) | (dsimp only; omega) | exact lit_bl rfl⟩) h, ⟨[.string (bs (Str.mk [98, 108, 111, 99, 107]))], [.string (bs (Str.mk [101, 110, 100])), .string (bs (Str.mk [117, 115, 101])), .string (bs (Str.mk [99, 97, 108, 108])), .string (bs (Str.mk [115, 111, 117, 114, 99, 101])), .string (bs (Str.mk [115, 105, 110, 107])), .string (bs (Str.mk [115, 97, 110, 105, 116, 105, 122, 101])), .string (bs (Str.mk [103, 111, 116, 111])), .string (bs (Str.mk [98, 114, 97, 110, 99, 104])), .string (bs (Str.mk [114, 101, 116, 117, 114, 110]))], rfl, (fun _ => ⟨rfl, by first | omega | (simp; done) | (dsimp only; omega) | exact lit_bl rfl⟩) h, ⟨[.string (bs (Str.mk [101, 110, 100]))], [.string (bs (Str.mk [117, 115, 101])), .string (bs (Str.mk [99, 97, 108, 108])), .string (bs (Str.mk [115, 111, 117, 114, 99, 101])), .string (bs (Str.mk [115, 105, 110, 107])), .string (bs (Str.mk [115, 97, 110, 105, 116, 105, 122, 101])), .string (bs (Str.mk [103, 111, 116, 111])), .string (bs (Str.mk [98, 114, 97, 110, 99, 104])), .string (bs (Str.mk [114, 101, 116, 117, 114, 110]))], rfl, (fun _ => ⟨rfl, by first | omega | (simp; done) | (dsimp only; omega) | exact lit_bl rfl⟩) h, ⟨[.string (bs (Str.mk [117, 115, 101]))], [.string (bs (Str.mk [99, 97, 108, 108])), .string (bs (Str.mk [115, 111, 117, 114, 99, 101])), .string (bs (Str.mk [115, 105, 110, 107])), .string (bs (Str.mk [115, 97, 110, 105, 116, 105, 122, 101])), .string (bs (Str.mk [103, 111, 116, 111])), .string (bs (Str.mk [98, 114, 97, 110, 99, 104])), .string (bs (Str.mk [114, 101, 116, 117, 114, 110]))], rfl, (fun _ => ⟨rfl, by first | omega | (simp; done) | (dsimp only; omega) | exact lit_bl rfl⟩) h, ⟨[.string (bs (Str.mk [99, 97, 108, 108]))], [.string (bs (Str.mk [115, 111, 117, 114, 99, 101])), .string (bs (Str.mk [115, 105, 110, 107])), .string (bs (Str.mk [115, 97, 110, 105, 116, 105, 122, 101])), .string (bs (Str.mk [103, 111, 116, 111])), .string (bs (Str.mk [98, 114, 97, 110, 99, 104])), .string (bs (Str.mk [114, 101, 116, 117, 114, 110]))], rfl, (fun _ => ⟨rfl, by first | omega | (simp; done) | (dsimp only; omega) | exact lit_bl rfl⟩) h, ⟨[.string (bs (Str.mk [115, 111, 117, 114, 99, 101]))], [.string (bs (Str.mk [115, 105, 110, 107])), .string (bs (Str.mk [115, 97, 110, 105, 116, 105, 122, 101])), .string (bs (Str.mk [103, 111, 116, 111])), .string (bs (Str.mk [98, 114, 97, 110, 99, 104])), .string (bs (Str.mk [114, 101, 116, 117, 114, 110]))], rfl, (fun _ => ⟨rfl, by first | omega | (simp; done) | (dsimp only; omega) | exact lit_bl rfl⟩) h, ⟨[.string (bs (Str.mk [115, 105, 110, 107]))], [.string (bs (Str.mk [115, 97, 110, 105, 116, 105, 122, 101])), .string (bs (Str.mk [103, 111, 116, 111])), .string (bs (Str.mk [98, 114, 97, 110, 99, 104])), .string (bs (Str.mk [114, 101, 116, 117, 114, 110]))], rfl, (fun _ => ⟨rfl, by first | omega | (simp; done) | (dsimp only; omega) | exact lit_bl rfl⟩) h, ⟨[.string (bs (Str.mk [115, 97, 110, 105, 116, 105, 122, 101]))], [.string (bs (Str.mk [103, 111, 116, 111])), .string (bs (Str.mk [98, 114, 97, 110, 99, 104])), .string (bs (Str.mk [114, 101, 116, 117, 114, 110]))], rfl, (fun _ => ⟨rfl, by first | omega | (simp; done) | (dsimp only; omega) | exact lit_bl rfl⟩) h, ⟨[.string (bs (Str.mk [103, 111, 116, 111]))], [.string (bs (Str.mk [98, 114, 97, 110, 99, 104])), .string (bs (Str.mk [114, 101, 116, 117, 114, 110]))], rfl, (fun _ => ⟨rfl, by first | omega | (simp; done) | (dsimp only; omega) | exact lit_bl rfl⟩) h, ⟨[.string (bs (Str.mk [98, 114, 97, 110, 99, 104]))], [.string (bs (Str.mk [114, 101, 116, 117, 114, 110]))], rfl, (fun _ => ⟨rfl, by first | omega | (simp; done) | (dsimp only; omega) | exact lit_bl rfl⟩) h, ⟨[.string (bs (Str.mk [114, 101, 116, 117, 114, 110]))], [], rfl, (fun _ => ⟨rfl, by first | omega | (simp; done) | (dsimp only; omega) | exact lit_bl rfl⟩) h, rfl⟩⟩⟩⟩⟩⟩⟩⟩⟩⟩⟩)) ?_
 refine Jl [0] (Ent.freeze _ _) ?_
 have hq := rI H; subst hq
 exact Kr (.slice a2 11 k3) rfl (.tmp rfl .nil) [0] trivial
theorem fn176 (s : Str) (hs_0 : s.b.length ≤ 140737488355328) (rr : Bool) (hrr : r4_IsName s = .ret rr) : FT Tryz.prog 176 #[.string (bs s)] [] (fun g : Unit => True) (fun g => vb rr) (fun g => []) := by
 refine FTi Tryz.func176 fun w0 M0 F0 => ?_
 have hx0 := lrn rr; have H := hrr; unfold r4_IsName at H
 refine KS ?_
 refine Oq Va (KS ?_)
 refine Oq Vm (Oq (VlS un9 (l := s)) (Oq Veql (Oq Vm ?_)))
 refine JsH 9 H ?_ ?_
 ·intro h1 H
  have g2 := eq_of_beq h1
  refine Osk (Osk (Osk (Oq Vpt (Oq Vm (Osk (Osk (Osk (Osk (Oq Vpt ?_)))))))))
  refine Oq Vm (Osk (Osk (Osk (Oq Vpt (KS ?_)))))
  refine Kt (KS ?_)
  refine Oq Va (KS ?_)
  have hq := rI H; subst hq
  exact Kr () rfl (.tmp rfl .nil) [] trivial
 intro h1 H
 have g3 := ne_of_beq_false h1
 refine Oq Vm (Oq (VlS un9 (l := s)) (Oq Vgtr (Oq Vpf (Oq Vm ?_))))
 refine pF H hx0 fun h4 H => ?_
 refine JsF 14 h4 ?_
 have g5 := df h4
 refine Oq Vm ?_
 refine pC H hx0 fun hc6 H => ?_
 refine Oq (Vix un9 (l := s)) ?_
 have hb7 := u8b (s.b.getD (0 : Int).toNat 0)
 refine lbH H hx0 fun rv8 hg9 H => ?_
 have hc10 := fn119 (((s.b.getD (0 : Int).toNat 0).toNat : Int)) pre rv8 hg9
 refine Oc [] ca119 hc10 ?_
 rintro - -
 refine Oq Vnot (Oq Vpf (Oq Vm ?_))
 refine pF H hx0 fun h11 H => ?_
 refine JsF 20 h11 ?_
 have h13 := not_false h11
 refine Oq Vm (Oq (Vix un9 (l := s)) ?_)
 have hb15 := u8b (s.b.getD (0 : Int).toNat 0)
 refine Oq Veql (Oq Vpf (KS ?_))
 refine pC H hx0 fun hc17 H => ?_
 refine pF H hx0 fun h16 H => ?_
 refine KcF h16 ?_
 have g18 := ne_of_beq_false h16
 refine KS ?_
 refine Oq Va (KS ?_)
 refine llH H hx0 fun X26 hX27 hx28 HL29 => ?_
 refine Kl (γ := Nat × Int) (fun (r19, i_20) => ⟨[(0, .string (bs s)), (3, vi i_20)], [], r4_IsName_L0 s r19 i_20 = X26 ∧ r19 = ((s.b.length : Int) - i_20).toNat ∧ (0 : Int) ≤ i_20 ∧ i_20 ≤ (s.b.length : Int) ∧ (-9223372036854775808 ≤ i_20 ∧ i_20 ≤ 9223372036854775807), r19⟩) (((s.b.length : Int) - 0).toNat, 0) [] ⟨hX27, rfl, aM1, aM1, aM1⟩ ?_
 rintro ⟨r19, i_20⟩ ⟨hM21, hr22, hi23, hi24, hk25⟩
 refine JJ_nx fun _ _ hL hA => ?_; dsimp only at hL hA; subst hL hA
 refine KS ?_
 refine Oq Vm (Oq Vm (Oq (VlS un9 (l := s)) (Oq Vlss (KS ?_))))
 refine Kc ?_ ?_
 ·intro h30
  have g31 := dt h30
  obtain ⟨r32, rfl⟩ := scc (n := r19) aM1
  have H := hM21; (try dsimp only at H); rw [r4_IsName_L0] at H
  refine KS ?_
  refine Oq Vm (Oq Vm ?_)
  refine pC H hx28 fun hc33 H => ?_
  refine Oq (Vix un9 (l := s)) ?_
  have hb34 := u8b (s.b.getD i_20.toNat 0)
  refine lbH H hx28 fun rv35 hg36 H => ?_
  have hc37 := fn119 (((s.b.getD i_20.toNat 0).toNat : Int)) pre rv35 hg36
  refine Oc [] ca119 hc37 ?_
  rintro - -
  refine Oq Vnot (Oq Vm ?_)
  refine pF H hx28 fun h38 H => ?_
  refine JsF 36 h38 ?_
  have h40 := not_false h38
  refine Osk (Osk (Osk (Osk (Osk (Oq Vpf (KS ?_))))))
  refine Kf (KS ?_)
  refine Oq Vm (Oq Vadd (Oq Va (KS ?_)))
  refine pC H hx28 fun hc42 H => ?_
  exact Kg (r32, (i_20 + 1)) [] ⟨H, aM1, aM1, aM1, aM1⟩
 intro h30
 have g43 := df h30
 obtain rfl : r19 = 0 := by omega
 have H := hM21; (try dsimp only at H); rw [r4_IsName_L0] at H
 refine Ke ?_
 have H := llB H HL29
 refine KS ?_
 refine lbH H hx0 fun rv45 hg46 H => ?_
 have hc47 := fn182  rv45 hg46
 refine Oc [] ca182 hc47 ?_
 rintro c44 -
 refine Jo 0 ?_; rintro a48 k49 rfl
 refine Fb 16 0 fun _ => ?_
 refine FoS 0 fun ho51 => ?_
 refine Oq Va (KS ?_)
 refine Oq Va (KS ?_)
 refine llH H hx0 fun X59 hX60 hx61 HL62 => ?_
 refine Kl (γ := Nat × Int) (fun (r52, i_53) => ⟨[(0, .string (bs s)), (4, vl a48 k49 rv45), (5, vi i_53)], [S a48 k49 rv45], r4_IsName_L1 s rv45 r52 i_53 = X59 ∧ r52 = ((rv45.length : Int) - i_53).toNat ∧ (0 : Int) ≤ i_53 ∧ i_53 ≤ (rv45.length : Int) ∧ (-9223372036854775808 ≤ i_53 ∧ i_53 ≤ 9223372036854775807), r52⟩) (((rv45.length : Int) - 0).toNat, 0) [0] ⟨hX60, rfl, aM1, aM1, aM1⟩ ?_
 rintro ⟨r52, i_53⟩ ⟨hM54, hr55, hi56, hi57, hk58⟩
 refine JJ_nx fun _ _ hL hA => ?_; dsimp only at hL hA; subst hL hA
 refine Fb 16 0 fun _ => ?_
 refine FoS 0 fun ho64 => ?_
 refine KS ?_
 refine Oq Vm (Oq Vm (Oq (Vlen sl138) (Oq Vlss (KS ?_))))
 refine Kc ?_ ?_
 ·intro h65
  have g66 := dt h65
  obtain ⟨r67, rfl⟩ := scc (n := r52) aM1
  have H := hM54; (try dsimp only at H); rw [r4_IsName_L1] at H
  refine KS ?_
  refine Oq Vm (Oq Vm ?_)
  refine pC H hx61 fun hc68 H => ?_
  refine Oq (Vi sl138 0) ?_
  have hb69 := okS (i := i_53.toNat) ho64 rng
  refine Oq (VldS sh9 0) (Oq Vm (Oq (VeqS (l := (rv45.getD i_53.toNat default)) (m := s)) (KS ?_)))
  refine KcH H ?_ ?_
  ·intro h70 H
   have g71 := eq_of_beq h70
   refine KS ?_
   refine Oq Va (KS ?_)
   have H := llR H HL62
   have hq := rI H; subst hq
   exact Kr () rfl (.tmp rfl .nil) [] trivial
  intro h70 H
  have g72 := ne_of_beq_false h70
  refine KS ?_
  refine Oq Vm (Oq Vadd (Oq Va (KS ?_)))
  refine pC H hx61 fun hc73 H => ?_
  exact Kg (r67, (i_53 + 1)) [0] ⟨H, aM1, aM1, aM1, aM1⟩
 intro h65
 have g74 := df h65
 obtain rfl : r52 = 0 := by omega
 have H := hM54; (try dsimp only at H); rw [r4_IsName_L1] at H
 refine Ke ?_
 have H := llB H HL62
 refine KS ?_
 refine Oq Va (KS ?_)
 have hq := rI H; subst hq
 exact Kr () rfl (.tmp rfl .nil) [] trivial
theorem fn154 (pP : Value) (p : Gparser) (pa0 : Option Addr) (pk0 : Nat) (hp_1 : i64ok p.at_) (hp_2 : i64ok p.Err) (rr : Bool) (hrr : pz_isName p = .ret rr) : FT Tryz.prog 154 #[pP] [Cl pP [vl pa0 pk0 p.l, vi p.at_, vi p.Err], S pa0 pk0 p.l] (fun g : Unit => True) (fun g => vb rr) (fun g => [Cl pP [vl pa0 pk0 p.l, vi p.at_, vi p.Err]]) := by
 refine FTi Tryz.func154 fun w0 M0 F0 => ?_
 unfold i64ok at hp_1 hp_2
 refine Fb 40 1 fun _ => ?_
 have hx0 := lrn rr; have H := hrr; unfold pz_isName at H
 refine KS ?_
 refine Oq Va (KS ?_)
 refine Jp 0 fun hp2 => ?_
 refine pT H hx0 fun h3 H => ?_
 have g4 := eq_of_beq h3
 refine pT H hx0 fun h5 H => ?_
 have g6 := dt h5
 refine pC H hx0 fun hc7 H => ?_
 refine JJ_peek_GToken p.at_.toNat 2 rfl rng fun hb8 hb9 hb10 hb11 => ?_
 unfold i64ok at hb8 hb10 hb11
 refine JK_drawK [0, 1, 3, 7, 15, 31, 63, 127, 255, 511, 63, 1087, 3135, 7231, 15423, 32767, 65535, 131071, 262143, 524287, 1048575, 2097151, 262143, 4456447, 12845055, 29622271, 67108863, 134217727, 268435455, 536870911, 1073741823, 2147483647, 4294967295, 8589934591, 17179869183, 34359738367, 4294967295, 73014444031, 210453397503, 485331304447, 1099511627775, 2199023255551, 4398046511103, 8796093022207, 17592186044415, 35184372088831] fmix ?_
 refine Dv [] Vm (Dv [1] (Vn 0) (Dv [1] (Vfa fo121_2 0) (Dv [2] (VldF sh33 0) (Db h3 [] Veql (Dv [] Vm (Dv [] Vm (Dv [1] (Vn 0) (Dv [1] (Vfa fo121_1 0) (Dv [2] (VldF sh3 0) ?_)))))))))
 refine Dv [] Vm (Dv [1] (Vn 0) (Dv [1] (Vfa fo121_0 0) (Dv [2] (VldF sh116 0) (Dv [] (Vlen sl116) (Db h5 [] Vlss (Dv [] Vpt (Dv [] Vm (Dv [] Vm (Dv [1] (Vn 0) ?_)))))))))
 refine Dv [1] (Vfa fo121_0 0) (Dv [2] (VldF sh116 0) (Dv [] Vm (Dv [1] (Vn 0) (Dv [1] (Vfa fo121_1 0) (Dv [2] (VldF sh3 0) (Dv [3] (Vi sl116 0) (Dv [0] (Vfa fo129_0 0) (Dv [0] (VldF sh3 0) (Dv [] Veql ?_)))))))))
 refine Dv [] Vpt ?_
 refine pC H hx0 fun hc13 H => ?_
 refine pS H ?_ ?_
 ·intro h12 H
  have g14 := eq_of_beq h12
  refine Db h12 [] Vm (Dv [] Vm (Dv [1] (Vn 0) (Dv [1] (Vfa fo121_0 0) (Dv [2] (VldF sh116 0) (Dv [] Vm (Dv [1] (Vn 0) (Dv [1] (Vfa fo121_1 0) (Dv [2] (VldF sh3 0) (Dv [3] (Vi sl116 0) ?_)))))))))
  refine Dv [0] (Vfa fo129_1 0) (Dv [0] (VldF sh9 0) ?_)
  refine pC H hx0 fun hc17 H => ?_
  refine lbH H hx0 fun rv15 hg16 H => ?_
  refine Dx [] [] [0] (fun G => vb rv15) [fun G => SP.fact (True)] (fun G => xC [] ca176 (fn176 ((p.l.getD p.at_.toNat default).Text) pre rv15 hg16)) (Dv [] Vpt (Dv [] Va ?_))
  refine Dn ⟨by kernel_rfl, fun G => ?_⟩
  refine Jw2 [(2, vb rv15)] [0, 1, 2, 3] [SP.fact (True)] ?_
  refine Jk [0, 2, 2] ?_
  have hq := rI H; subst hq
  exact Kr () rfl (.tmp rfl .nil) [1] trivial
 intro h12 H
 have g18 := ne_of_beq_false h12
 refine Db h12 [] Vm (Ds (Ds (Ds (Ds (Ds (Ds (Ds (Ds (Ds ?_)))))))))
 refine Ds (Ds (Ds (Dv [] Vpf (Dv [] Va ?_))))
 refine Dn ⟨by kernel_rfl, fun G => ?_⟩
 refine Jw2 [(2, vb false)] [0, 1, 2, 3] [] ?_
 refine Jk [0, 2, 2] ?_
 have hq := rI H; subst hq
 exact Kr () rfl (.tmp rfl .nil) [1] trivial
theorem fn122 (pP : Value) (p : Gparser) (pa0 : Option Addr) (pk0 : Nat) (hp_1 : i64ok p.at_) (hp_2 : i64ok p.Err) (rr : Str × Gparser) (hrr : pz_name p = .ret rr) : FT Tryz.prog 122 #[pP] [Cl pP [vl pa0 pk0 p.l, vi p.at_, vi p.Err], S pa0 pk0 p.l] (fun g : Unit => rr.1.b.length ≤ 140737488355328 ∧ i64ok rr.2.at_ ∧ i64ok rr.2.Err) (fun g => .string (bs rr.1)) (fun g => [Cl pP [vl pa0 pk0 p.l, vi rr.2.at_, vi rr.2.Err]]) := by
 refine FTi Tryz.func122 fun w0 M0 F0 => ?_
 unfold i64ok at hp_1 hp_2
 refine Fb 40 1 fun _ => ?_
 have hx0 := lrn rr; have H := hrr; unfold pz_name at H
 refine KS ?_
 refine Oq Va (KS ?_)
 refine Oq Vm ?_
 refine lbH H hx0 fun rv2 hg3 H => ?_
 have hc4 := fn154 pP p pa0 pk0 pre pre rv2 hg3
 refine Oc [0, 0] ca154 hc4 ?_
 rintro - -
 refine Oq Vnot (KS ?_)
 refine pF H hx0 fun h5 H => ?_
 refine KcF h5 ?_
 have h7 := not_false h5
 refine KS ?_
 refine Oq Vm (Oq (Vn 0) (Oq (Vfa fo121_1 0) (Oq (VldF sh3 0) ?_)))
 refine pC H hx0 fun hc9 H => ?_
 refine Oq Vadd (Oq (Vn 0) (Oq (Vfa fo121_1 0) (Ost (SclF [0] sh3 [vl pa0 pk0 p.l, vi (p.at_ + 1), vi p.Err]) (KS ?_))))
 refine Jp 0 fun hp10 => ?_
 refine pC H hx0 fun hc11 H => ?_
 refine pC H hx0 fun hc12 H => ?_
 refine JJ_peek_GToken (((p.at_ + 1) - 1) : Int).toNat 2 rfl rng fun hb13 hb14 hb15 hb16 => ?_
 unfold i64ok at hb13 hb15 hb16
 refine Kq [0, 1, 3, 7, 0, 16, 48, 112, 240, 511, 1023, 2047, 4095] fmix ?_
 refine Qv [] Vm (Qv [1] (Vn 0) (Qv [1] (Vfa fo121_0 0) (Qv [2] (VldF sh116 0) (Qv [] Vm (Qv [1] (Vn 0) (Qv [1] (Vfa fo121_1 0) (Qv [2] (VldF sh3 0) (Qv [] Vsub (Qv [3] (Vi sl116 0) ?_)))))))))
 refine Qv [0] (Vfa fo129_1 0) (Qv [0] (VldF sh9 0) (Qv [] Va ?_))
 refine Qn ⟨by kernel_rfl, ?_⟩
 refine pC H hx0 fun hc17 H => ?_
 have hq := rI H; subst hq
 exact Kr () rfl (.tmp rfl .nil) [2] en
theorem fn155 (pP : Value) (p : Gparser) (pa0 : Option Addr) (pk0 : Nat) (k : Int) (hp_1 : i64ok p.at_) (hp_2 : i64ok p.Err) (hk_0 : i64ok k) (rr : Bool) (hrr : pz_isKind p k = .ret rr) : FT Tryz.prog 155 #[pP, vi k] [Cl pP [vl pa0 pk0 p.l, vi p.at_, vi p.Err], S pa0 pk0 p.l] (fun g : Unit => True) (fun g => vb rr) (fun g => [Cl pP [vl pa0 pk0 p.l, vi p.at_, vi p.Err]]) := by
 refine FTi Tryz.func155 fun w0 M0 F0 => ?_
 unfold i64ok at hp_1 hp_2 hk_0
 refine Fb 40 1 fun _ => ?_
 have hx0 := lrn rr; have H := hrr; unfold pz_isKind at H
 refine KS ?_
 refine Oq Va (KS ?_)
 refine Jp 0 fun hp2 => ?_
 refine pT H hx0 fun h3 H => ?_
 have g4 := eq_of_beq h3
 refine pT H hx0 fun h5 H => ?_
 have g6 := dt h5
 refine pC H hx0 fun hc7 H => ?_
 refine JJ_peek_GToken p.at_.toNat 2 rfl rng fun hb8 hb9 hb10 hb11 => ?_
 unfold i64ok at hb8 hb10 hb11
 refine Kq [0, 1, 3, 7, 15, 31, 63, 127, 255, 511, 63, 1087, 3135, 7231, 15423, 32767, 65535, 131071, 262143, 524287, 1048575, 2097151, 262143, 4456447, 12845055, 29622271, 67108863, 134217727, 268435455, 262143, 1073741823, 2147483647, 4294967295] fmix ?_
 refine Qv [] Vm (Qv [1] (Vn 0) (Qv [1] (Vfa fo121_2 0) (Qv [2] (VldF sh33 0) (Qb h3 [] Veql (Qv [] Vm (Qv [] Vm (Qv [1] (Vn 0) (Qv [1] (Vfa fo121_1 0) (Qv [2] (VldF sh3 0) ?_)))))))))
 refine Qv [] Vm (Qv [1] (Vn 0) (Qv [1] (Vfa fo121_0 0) (Qv [2] (VldF sh116 0) (Qv [] (Vlen sl116) (Qb h5 [] Vlss (Qv [] Vpt (Qv [] Vm (Qv [] Vm (Qv [1] (Vn 0) ?_)))))))))
 refine Qv [1] (Vfa fo121_0 0) (Qv [2] (VldF sh116 0) (Qv [] Vm (Qv [1] (Vn 0) (Qv [1] (Vfa fo121_1 0) (Qv [2] (VldF sh3 0) (Qv [3] (Vi sl116 0) (Qv [0] (Vfa fo129_0 0) (Qv [0] (VldF sh3 0) (Qv [] Vm ?_)))))))))
 refine Qv [] Veql (Qv [] Vpt (Qv [] Va ?_))
 refine Qn ⟨by kernel_rfl, ?_⟩
 refine pC H hx0 fun hc12 H => ?_
 have hq := rI H; subst hq
 exact Kr () rfl (.tmp rfl .nil) [2] trivial
theorem fn123 (pP : Value) (p : Gparser) (pa0 : Option Addr) (pk0 : Nat) (hp_1 : i64ok p.at_) (hp_2 : i64ok p.Err) (rr : Gparser) (hrr : pz_end p = .ret rr) : FT Tryz.prog 123 #[pP] [Cl pP [vl pa0 pk0 p.l, vi p.at_, vi p.Err], S pa0 pk0 p.l] (fun g : Unit => i64ok rr.at_ ∧ i64ok rr.Err) (fun g => .tuple #[]) (fun g => [Cl pP [vl pa0 pk0 p.l, vi rr.at_, vi rr.Err]]) := by
 refine FTi Tryz.func123 fun w0 M0 F0 => ?_
 unfold i64ok at hp_1 hp_2
 refine Fb 40 1 fun _ => ?_
 have hx0 := lrn rr; have H := hrr; unfold pz_end at H
 refine KS ?_
 refine Oq Vm ?_
 refine lbH H hx0 fun rv2 hg3 H => ?_
 have hc4 := fn155 pP p pa0 pk0 3 pre pre pre rv2 hg3
 refine Oc [0, 0] ca155 hc4 ?_
 rintro - -
 refine Oq Vnot (KS ?_)
 refine pF H hx0 fun h5 H => ?_
 refine KcF h5 ?_
 have h7 := not_false h5
 refine KS ?_
 refine Oq Vm (Oq (Vn 0) (Oq (Vfa fo121_1 0) (Oq (VldF sh3 0) ?_)))
 refine pC H hx0 fun hc9 H => ?_
 refine Oq Vadd (Oq (Vn 0) (Oq (Vfa fo121_1 0) (Ost (SclF [0] sh3 [vl pa0 pk0 p.l, vi (p.at_ + 1), vi p.Err]) (KS ?_))))
 have hq := rI H; subst hq
 exact Kz () rfl .nil [0] en
theorem fn156 (pP : Value) (p : Gparser) (pa0 : Option Addr) (pk0 : Nat) (hp_1 : i64ok p.at_) (hp_2 : i64ok p.Err) (rr : Bool) (hrr : pz_begins p = .ret rr) : FT Tryz.prog 156 #[pP] [Cl pP [vl pa0 pk0 p.l, vi p.at_, vi p.Err], S pa0 pk0 p.l] (fun g : Unit => True) (fun g => vb rr) (fun g => [Cl pP [vl pa0 pk0 p.l, vi p.at_, vi p.Err]]) := by
 refine FTi Tryz.func156 fun w0 M0 F0 => ?_
 unfold i64ok at hp_1 hp_2
 refine Fb 40 1 fun _ => ?_
 have hx0 := lrn rr; have H := hrr; unfold pz_begins at H
 refine KS ?_
 refine Oq Va (KS ?_)
 refine Oa (AsV sl138 sz138 [.string (bs (Str.mk [117, 115, 101])), .string (bs (Str.mk [99, 97, 108, 108])), .string (bs (Str.mk [115, 111, 117, 114, 99, 101])), .string (bs (Str.mk [115, 105, 110, 107])), .string (bs (Str.mk [115, 97, 110, 105, 116, 105, 122, 101])), .string (bs (Str.mk [103, 111, 116, 111])), .string (bs (Str.mk [98, 114, 97, 110, 99, 104])), .string (bs (Str.mk [114, 101, 116, 117, 114, 110]))] [.string (bs (Str.mk [117, 115, 101])), .string (bs (Str.mk [99, 97, 108, 108])), .string (bs (Str.mk [115, 111, 117, 114, 99, 101])), .string (bs (Str.mk [115, 105, 110, 107])), .string (bs (Str.mk [115, 97, 110, 105, 116, 105, 122, 101])), .string (bs (Str.mk [103, 111, 116, 111])), .string (bs (Str.mk [98, 114, 97, 110, 99, 104])), .string (bs (Str.mk [114, 101, 116, 117, 114, 110]))]) fun c2 => ?_
 refine Jo 0 ?_; rintro a3 k4 rfl
 refine Oq Va (KS ?_)
 refine Oq Va (KS ?_)
 refine Jl [0] (Ent.crOs (α := Str) (A := []) _ ([(Str.mk [117, 115, 101]), (Str.mk [99, 97, 108, 108]), (Str.mk [115, 111, 117, 114, 99, 101]), (Str.mk [115, 105, 110, 107]), (Str.mk [115, 97, 110, 105, 116, 105, 122, 101]), (Str.mk [103, 111, 116, 111]), (Str.mk [98, 114, 97, 110, 99, 104]), (Str.mk [114, 101, 116, 117, 114, 110])] : List Str) _ aB1 (fun h => ⟨[.string (bs (Str.mk [117, 115, 101]))], [.string (bs (Str.mk [99, 97, 108, 108])), .string (bs (Str.mk [115, 111, 117, 114, 99, 101])), .string (bs (Str.mk [115, 105, 110, 107])), .string (bs (Str.mk [115, 97, 110, 105, 116, 105, 122, 101])), .string (bs (Str.mk [103, 111, 116, 111])), .string (bs (Str.mk [98, 114, 97, 110, 99, 104])), .string (bs (Str.mk [114, 101, 116, 117, 114, 110]))], rfl, (fun _ => ⟨rfl, by first | omega | (simp; done) | (dsimp only; omega) | exact lit_bl rfl⟩) h, ⟨[.string (bs (Str.mk [99, 97, 108, 108]))], [.string (bs (Str.mk [115, 111, 117, 114, 99, 101])), .string (bs (Str.mk [115, 105, 110, 107])), .string (bs (Str.mk [115, 97, 110, 105, 116, 105, 122, 101])), .string (bs (Str.mk [103, 111, 116, 111])), .string (bs (Str.mk [98, 114, 97, 110, 99, 104])), .string (bs (Str.mk [114, 101, 116, 117, 114, 110]))], rfl, (fun _ => ⟨rfl, by first | omega | (simp; done) | (dsimp only; omega) | exact lit_bl rfl⟩) h, ⟨[.string (bs (Str.mk [115, 111, 117, 114, 99, 101]))], [.string (bs (Str.mk [115, 105, 110, 107])), .string (bs (Str.mk [115, 97, 110, 105, 116, 105, 122, 101])), .string (bs (Str.mk [103, 111, 116, 111])), .string (bs (Str.mk [98, 114, 97, 110, 99, 104])), .string (bs (Str.mk [114, 101, 116, 117, 114, 110]))], rfl, (fun _ => ⟨rfl, by first | omega | (simp; done) | (dsimp only; omega) | exact lit_bl rfl⟩) h, ⟨[.string (bs (Str.mk [115, 105, 110, 107]))], [.string (bs (Str.mk [115, 97, 110, 105, 116, 105, 122, 101])), .string (bs (Str.mk [103, 111, 116, 111])), .string (bs (Str.mk [98, 114, 97, 110, 99, 104])), .string (bs (Str.mk [114, 101, 116, 117, 114, 110]))], rfl, (fun _ => ⟨rfl, by first | omega | (simp; done) | (dsimp only; omega) | exact lit_bl rfl⟩) h, ⟨[.string (bs (Str.mk [115, 97, 110, 105, 116, 105, 122, 101]))], [.string (bs (Str.mk [103, 111, 116, 111])), .string (bs (Str.mk [98, 114, 97, 110, 99, 104])), .string (bs (Str.mk [114, 101, 116, 117, 114, 110]))], rfl, (fun _ => ⟨rfl, by first | omega | (simp; done) | (dsimp only; omega) | exact lit_bl rfl⟩) h, ⟨[.string (bs (Str.mk [103, 111, 116, 111]))], [.string (bs (Str.mk [98, 114, 97, 110, 99, 104])), .string (bs (Str.mk [114, 101, 116, 117, 114, 110]))], rfl, (fun _ => ⟨rfl, by first | omega | (simp; done) | (dsimp only; omega) | exact lit_bl rfl⟩) h, ⟨[.string (bs (Str.mk [98, 114, 97, 110, 99, 104]))], [.string (bs (Str.mk [114, 101, 116, 117, 114, 110]))], rfl, (fun _ => ⟨rfl, by first | omega | (simp; done) | (dsimp only; omega) | exact lit_bl rfl⟩) h, ⟨[.string (bs (Str.mk [114, 101, 116, 117, 114, 110]))], [], rfl, (fun _ => ⟨rfl, by first | omega | (simp; done) | (dsimp only; omega) | exact lit_bl rfl⟩) h, rfl⟩⟩⟩⟩⟩⟩⟩⟩)) ?_
 refine Fb 16 0 fun _ => ?_
 refine FoS 0 fun ho6 => ?_
 refine llH H hx0 fun X14 hX15 hx16 HL17 => ?_
 refine Kl (γ := Nat × Int) (fun (r7, i_8) => ⟨[(0, pP), (3, .slice a3 8 k4), (4, vi i_8)], [os (.slice a3 8 k4) ([(Str.mk [117, 115, 101]), (Str.mk [99, 97, 108, 108]), (Str.mk [115, 111, 117, 114, 99, 101]), (Str.mk [115, 105, 110, 107]), (Str.mk [115, 97, 110, 105, 116, 105, 122, 101]), (Str.mk [103, 111, 116, 111]), (Str.mk [98, 114, 97, 110, 99, 104]), (Str.mk [114, 101, 116, 117, 114, 110])] : List Str), Cl pP [vl pa0 pk0 p.l, vi p.at_, vi p.Err], S pa0 pk0 p.l], pz_begins_L0 p r7 i_8 = X14 ∧ r7 = ((((8 : Nat) : Int) : Int) - i_8).toNat ∧ (0 : Int) ≤ i_8 ∧ (i_8 ≤ ((8 : Nat) : Int) ∨ i_8 = 0) ∧ (-9223372036854775808 ≤ i_8 ∧ i_8 ≤ 9223372036854775807), r7⟩) (((((8 : Nat) : Int) : Int) - 0).toNat, 0) [0, 0, 0] ⟨hX15, rfl, aM1, (.inr rfl), aM1⟩ ?_
 rintro ⟨r7, i_8⟩ ⟨hM9, hr10, hi11, hi12, hk13⟩
 refine JJ_nx fun _ _ hL hA => ?_; dsimp only at hL hA; subst hL hA
 refine Fb 16 0 fun _ => ?_
 refine FoS 0 fun ho19 => ?_
 refine Fl 0 fun hn20 => Fb 40 2 fun _ => ?_
 refine KS ?_
 refine Oq Vm (Oq Vm (Oq (Vlen sl138) (Oq Vlss (KS ?_))))
 refine Kc ?_ ?_
 ·intro h22
  have g23 := dt h22
  obtain ⟨r24, rfl⟩ := scc (n := r7) aM1
  have H := hM9; (try dsimp only at H); rw [pz_begins_L0] at H
  refine KS ?_
  refine Oq Vm (Oq Vm (Oq Vm ?_))
  refine pC H hx16 fun hc25 H => ?_
  refine Oq (Vi sl138 0) ?_
  have hb26 := okS (i := i_8.toNat) ho19 rng
  refine Oq (VldS sh9 0) ?_
  refine lbH H hx16 fun rv27 hg28 H => ?_
  have hc29 := fn85 pP p pa0 pk0 (([(Str.mk [117, 115, 101]), (Str.mk [99, 97, 108, 108]), (Str.mk [115, 111, 117, 114, 99, 101]), (Str.mk [115, 105, 110, 107]), (Str.mk [115, 97, 110, 105, 116, 105, 122, 101]), (Str.mk [103, 111, 116, 111]), (Str.mk [98, 114, 97, 110, 99, 104]), (Str.mk [114, 101, 116, 117, 114, 110])].getD i_8.toNat default)) pre pre pre rv27 hg28
  refine Oc [1, 1] ca85 hc29 ?_
  rintro - -
  refine KS ?_
  refine KcH H ?_ ?_
  ·intro h30 H
   refine KS ?_
   refine Oq Va (KS ?_)
   have H := llR H HL17
   have hq := rI H; subst hq
   exact Kr () rfl (.tmp rfl .nil) [0] trivial
  intro h30 H
  refine KS ?_
  refine Oq Vm (Oq Vadd (Oq Va (KS ?_)))
  refine pC H hx16 fun hc33 H => ?_
  exact Kg (r24, (i_8 + 1)) [1, 0, 0] ⟨H, aM1, aM1, aM1, aM1⟩
 intro h22
 have g34 := df h22
 obtain rfl : r7 = 0 := by omega
 have H := hM9; (try dsimp only at H); rw [pz_begins_L0] at H
 refine Ke ?_
 have H := llB H HL17
 refine KS ?_
 refine Oq Vm ?_
 refine lbH H hx0 fun rv35 hg36 H => ?_
 have hc37 := fn154 pP p pa0 pk0 pre pre rv35 hg36
 refine Oc [1, 1] ca154 hc37 ?_
 rintro - -
 refine Oq Va (KS ?_)
 have hq := rI H; subst hq
 exact Kr () rfl (.tmp rfl .nil) [0] trivial
theorem fn177 (pP : Value) (p : Gparser) (pa0 : Option Addr) (pk0 : Nat) (have_ : Int) (hp_1 : i64ok p.at_) (hp_2 : i64ok p.Err) (hhave__0 : i64ok have_) (rr : List Str × Gparser) (hrr : pz_more p have_ = .ret rr) : FT Tryz.prog 177 #[pP, vi have_] [Cl pP [vl pa0 pk0 p.l, vi p.at_, vi p.Err], S pa0 pk0 p.l] (fun g : Value => i64ok rr.2.at_ ∧ i64ok rr.2.Err) (fun g => g) (fun g => [sl g rr.1, Cl pP [vl pa0 pk0 p.l, vi rr.2.at_, vi rr.2.Err]]) := by
 refine FTi Tryz.func177 fun w0 M0 F0 => ?_
 unfold i64ok at hp_1 hp_2 hhave__0
 refine Fb 40 1 fun _ => ?_
 have hx0 := lrn rr; have H := hrr; unfold pz_more at H
 refine KS ?_
 refine Oq Va (KS ?_)
 refine Oq Va (KS ?_)
 refine llH H hx0 fun X4 hX5 hx6 HL7 => ?_
 refine Kl (γ := Nat) (fun r2 => ⟨[(0, pP), (1, vi have_), (5, .slice none 0 0)], [Cl pP [vl pa0 pk0 p.l, vi p.at_, vi p.Err], S pa0 pk0 p.l], pz_more_L0 p r2 = X4, r2⟩) 1 [0, 0] hX5 ?_
 rintro r2 hM3
 refine JJ_nx fun _ _ hL hA => ?_; dsimp only at hL hA; subst hL hA
 refine Fb 40 1 fun _ => ?_
 rcases r2 with _ | r2
 ·exact absurd (hM3.symm.trans rfl) hx6
 have H := hM3; (try dsimp only at H); rw [pz_more_L0] at H
 refine KS ?_
 refine Oq Vm ?_
 refine lbH H hx6 fun rv9 hg10 H => ?_
 have hc11 := fn154 pP p pa0 pk0 pre pre rv9 hg10
 refine Oc [0, 0] ca154 hc11 ?_
 rintro - -
 refine KS ?_
 refine pF H hx6 fun h12 H => ?_
 refine KcF h12 ?_
 refine Ke ?_
 have H := llB H HL7
 refine KS ?_
 refine Oq Vm (Oq Va (KS ?_))
 refine Jl [] (Ent.slNil (α := Str)) ?_
 have hq := rI H; subst hq
 exact Kr (.slice none 0 0) rfl (.tmp rfl .nil) [0, 1] en
theorem fn178 (pP : Value) (p : Gparser) (pa0 : Option Addr) (pk0 : Nat) (hp_1 : i64ok p.at_) (hp_2 : i64ok p.Err) (rr : List Str × Gparser) (hrr : pz_names p = .ret rr) : FT Tryz.prog 178 #[pP] [Cl pP [vl pa0 pk0 p.l, vi p.at_, vi p.Err], S pa0 pk0 p.l] (fun g : Value => i64ok rr.2.at_ ∧ i64ok rr.2.Err) (fun g => g) (fun g => [sl g rr.1, Cl pP [vl pa0 pk0 p.l, vi rr.2.at_, vi rr.2.Err]]) := by
 refine FTi Tryz.func178 fun w0 M0 F0 => ?_
 unfold i64ok at hp_1 hp_2
 refine Fb 40 1 fun _ => ?_
 have hx0 := lrn rr; have H := hrr; unfold pz_names at H
 refine KS ?_
 refine Oq Va (KS ?_)
 refine Oq Va (KS ?_)
 refine Jl [] (Ent.osNil (α := Str)) ?_
 refine llH H hx0 fun X11 hX12 hx13 HL14 => ?_
 refine Kl (γ := Nat × Int × Int × List Str × Option Addr × Nat) (fun (r2, p1_3, p2_4, out_5, a6, k7) => ⟨[(0, pP), (3, vl a6 k7 out_5)], [O a6 k7 out_5, Cl pP [vl pa0 pk0 p.l, vi p1_3, vi p2_4], S pa0 pk0 p.l], pz_names_L0 p r2 p1_3 p2_4 out_5 = X11 ∧ (-9223372036854775808 ≤ p1_3 ∧ p1_3 ≤ 9223372036854775807) ∧ (-9223372036854775808 ≤ p2_4 ∧ p2_4 ≤ 9223372036854775807), r2⟩) (100000, p.at_, p.Err, [], none, 0) [0, 0, 0] ⟨hX12, aM1, aM1⟩ ?_
 rintro ⟨r2, p1_3, p2_4, out_5, a6, k7⟩ ⟨hM8, hk9, hk10⟩
 refine JJ_nx fun _ _ hL hA => ?_; dsimp only at hL hA; subst hL hA
 refine Fb 16 0 fun _ => ?_
 refine FoS 0 fun ho16 => ?_
 refine Fb 40 2 fun _ => ?_
 rcases r2 with _ | r2
 ·exact absurd (hM8.symm.trans rfl) hx13
 have H := hM8; (try dsimp only at H); rw [pz_names_L0] at H
 refine KS ?_
 refine Oq Vm ?_
 refine lbH H hx13 fun rv18 hg19 H => ?_
 have hc20 := fn154 pP (Gparser.mk p.l p1_3 p2_4) pa0 pk0 pre pre rv18 hg19
 refine Oc [1, 1] ca154 hc20 ?_
 rintro - -
 refine KS ?_
 refine KcH H ?_ ?_
 ·intro h21 H
  refine KS ?_
  refine Oq Vm (Oq (Vlen sl138) (Oq Veql (KS ?_)))
  refine pF H hx13 fun h23 H => ?_
  refine KcF h23 ?_
  have g24 := ne_of_beq_false h23
  refine KS ?_
  refine Oq Vm (Oq Vm ?_)
  refine lbH H hx13 fun rv25 hg26 H => ?_
  have hc27 := fn122 pP (Gparser.mk p.l p1_3 p2_4) pa0 pk0 pre pre rv25 hg26
  refine Oc [0, 1] ca122 hc27 ?_
  rintro - ⟨he28, he29, he30⟩
  unfold i64ok at he29 he30
  refine Oa (AsV sl138 sz138 [.string (bs rv25.1)] [.string (bs rv25.1)]) fun c31 => ?_
  refine Jo 0 ?_; rintro a32 k33 rfl
  refine Jl [0] (Ent.cr1 (α := Str) (A := []) _ rv25.1 _ aB1 (fun _ => ⟨rfl, aS1⟩)) ?_
  refine pC H hx13 fun hc34 H => ?_
  refine Oa (ApO [2, 0] sl138 sl138 sz138) fun c35 => ?_
  refine Jo 0 ?_; rintro a36 k37 rfl
  refine Fb 16 0 fun _ => ?_
  refine FoS 0 fun ho39 => ?_
  have hn40 := la out_5 ([rv25.1] : List Str)
  refine Oq Va (KS ?_)
  exact Kg (r2, rv25.2.at_, rv25.2.Err, (out_5 ++ [rv25.1]), a36, k37) [0, 0, 0] ⟨H, aM1, aM1⟩
 intro h21 H
 refine Ke ?_
 have H := llB H HL14
 dsimp only at H
 refine KS ?_
 refine Oq Vm (Oq Va (KS ?_))
 refine Jl [1] (Ent.freeze _ _) ?_
 have hq := rI H; subst hq
 exact Kr (vl a6 k7 out_5) rfl (.tmp rfl .nil) [0, 1] en
theorem fn157 (pP : Value) (p : Gparser) (pa0 : Option Addr) (pk0 : Nat) (hp_1 : i64ok p.at_) (hp_2 : i64ok p.Err) (rr : GStmt × Gparser) (hrr : pz_stmt p = .ret rr) : FT Tryz.prog 157 #[pP] [Cl pP [vl pa0 pk0 p.l, vi p.at_, vi p.Err], S pa0 pk0 p.l] (fun g : Value × Value => i64ok rr.1.Op ∧ rr.1.Def.b.length ≤ 140737488355328 ∧ i64ok rr.2.at_ ∧ i64ok rr.2.Err) (fun g => .agg #[vi rr.1.Op, .string (bs rr.1.Def), g.1, g.2]) (fun g => [sl g.1 rr.1.Uses, sl g.2 rr.1.Targets, Cl pP [vl pa0 pk0 p.l, vi rr.2.at_, vi rr.2.Err]]) := by
 refine FTi Tryz.func157 fun w0 M0 F0 => ?_
 unfold i64ok at hp_1 hp_2
 refine Fb 40 1 fun _ => ?_
 have hx0 := lrn rr; have H := hrr; unfold pz_stmt at H
 refine KS ?_
 refine Oa (Al ze140 [vi 0, .string (bs (Str.mk [])), .slice none 0 0, .slice none 0 0]) fun p2 => KS ?_
 refine Oa (Al ze140 [vi 0, .string (bs (Str.mk [])), .slice none 0 0, .slice none 0 0]) fun p3 => KS ?_
 refine Oq Va (KS ?_)
 refine Oq Vm ?_
 refine lbH H hx0 fun rv4 hg5 H => ?_
 have hc6 := fn154 pP p pa0 pk0 pre pre rv4 hg5
 refine Oc [2, 2] ca154 hc6 ?_
 rintro - -
 refine Oq Vnot (KS ?_)
 refine KcH H ?_ ?_
 ·intro h7 H
  have h9 := not_true h7
  refine KS ?_
  refine Jp 0 fun hp11 => ?_
  refine pC H hx0 fun hc12 H => ?_
  refine JJ_peek_GToken p.at_.toNat 4 rfl rng fun hb13 hb14 hb15 hb16 => ?_
  unfold i64ok at hb13 hb15 hb16
  refine Kq [0, 1, 3, 7, 0, 16, 48, 112, 255, 511, 1023, 2047] fmix ?_
  refine Qv [] Vm (Qv [1] (Vn 0) (Qv [1] (Vfa fo121_0 0) (Qv [2] (VldF sh116 0) (Qv [] Vm (Qv [1] (Vn 0) (Qv [1] (Vfa fo121_1 0) (Qv [2] (VldF sh3 0) (Qv [5] (Vi sl116 0) (Qv [0] (Vfa fo129_1 0) ?_)))))))))
  refine Qv [0] (VldF sh9 0) (Qv [] Va ?_)
  refine Qn ⟨by kernel_rfl, ?_⟩
  refine KS ?_
  refine Oq Vm (Oq (Vn 2) (Oq (Vfa fo121_1 2) (Oq (VldF sh3 2) ?_)))
  refine pC H hx0 fun hc17 H => ?_
  refine pC H hx0 fun hc18 H => ?_
  refine Oq Vadd (Oq (Vn 2) (Oq (Vfa fo121_1 2) (Ost (SclF [2] sh3 [vl pa0 pk0 p.l, vi (p.at_ + 1), vi p.Err]) (KS ?_))))
  refine Oq Vm (KS ?_)
  refine Oq (VeqS (l := (p.l.getD p.at_.toNat default).Text) (m := (Str.mk [117, 115, 101]))) (Oq Va (KS ?_))
  refine KcH H ?_ ?_
  ·intro h19 H
   have g20 := eq_of_beq h19
   refine KS ?_
   refine Oq Vm ?_
   refine lbH H hx0 fun rv21 hg22 H => ?_
   have hc23 := fn122 pP (Gparser.mk p.l (p.at_ + 1) p.Err) pa0 pk0 pre pre rv21 hg22
   refine Oc [0, 4] ca122 hc23 ?_
   rintro - ⟨he24, he25, he26⟩
   unfold i64ok at he25 he26
   refine Oa (AsV sl138 sz138 [.string (bs rv21.1)] [.string (bs rv21.1)]) fun c27 => ?_
   refine Jo 0 ?_; rintro a28 k29 rfl
   refine Oq (Vfa fo140_0 4) (Ost (SclF [4] sh3 [vi 2, .string (bs (Str.mk [])), .slice none 0 0, .slice none 0 0]) (Oq (Vfa fo140_2 0) (Ost (SclF [0] sh138 [vi 2, .string (bs (Str.mk [])), .slice a28 1 k29, .slice none 0 0]) (KS ?_))))
   refine Jp 0 fun hp30 => ?_
   refine JK_drawK [0, 1, 0, 4, 15, 31, 63] fmix ?_
   refine Dv [0] (Vfa fo140_2 0) (Dv [1] (VldF sh138 0) (Dv [] Vm ?_))
   refine lbH H hx0 fun rv32 hg33 H => ?_
   refine Dx [3, 7] [3] [3, 0, 1, 2] (fun G => (G.g 3 0)) [fun G => SP.fact (i64ok rv32.2.at_ ∧ i64ok rv32.2.Err), fun G => sl (G.g 3 0) rv32.1, fun G => Cl pP [vl pa0 pk0 p.l, vi rv32.2.at_, vi rv32.2.Err]] (fun G => xC [0, 0] ca177 (fn177 pP (Gparser.mk p.l rv21.2.at_ rv21.2.Err) pa0 pk0 1 pre pre pre rv32 hg33)) ?_
   refine pC H hx0 fun hc34 H => ?_
   have hn36 : ([rv21.1] ++ rv32.1 : List Str).length = 1 + rv32.1.length := la ([rv21.1] : List Str) rv32.1
   refine Dx [2, 8, 9] [2] [1, 2, 0] (fun G => (G.g 4 0)) [fun G => os (G.g 4 0) (([rv21.1] ++ rv32.1) : List Str)] (fun G => by refine xf 1 rfl ?_; rintro ⟨he37, he38⟩; unfold i64ok at he37 he38; exact xp [0] rfl (Ent.cr1 (α := Str) (A := []) _ rv21.1 _ aB1 (fun _ => ⟨rfl, aS1⟩)) (xA (Ap [0, 1] sl138 sl138 sz138))) (Dv [0] (Vfa fo140_2 0) (Dx0 [1, 11] [1] [1, 0] [fun G => Cl p3 [vi 2, .string (bs (Str.mk [])), (G.g 4 0), .slice none 0 0]] (fun G => x1 1 rfl os_one fun ho39 => (xS (OpS.frame [0] rfl (OpS.storeClF [(G.g 4 0)] [vi 2, .string (bs (Str.mk [])), (G.g 4 0), .slice none 0 0] rfl rfl rfl sh138 (cells_of_one ho39) rfl (by simp only [List.all_cons, List.all_nil, ho39, Bool.and_true, Bool.true_and] <;> rfl) aB1 rfl)))) ?_))
   refine Dn ⟨by kernel_rfl, fun G => ?_⟩
   refine Jw2 [(0, pP), (2, p2), (3, p3)] [0, 4, 5, 6, 7] [SP.fact (i64ok rv32.2.at_ ∧ i64ok rv32.2.Err), sl (G.g 3 0) rv32.1, Cl pP [vl pa0 pk0 p.l, vi rv32.2.at_, vi rv32.2.Err], os (G.g 4 0) (([rv21.1] ++ rv32.1) : List Str), Cl p3 [vi 2, .string (bs (Str.mk [])), (G.g 4 0), .slice none 0 0]] ?_
   generalize G.g 3 0 = c31, G.g 4 0 = c35
   refine Jf 5 rfl ?_; rintro ⟨he40, he41⟩
   unfold i64ok at he40 he41
   refine Jk [1, 3, 3, 5, 6, 6, 6] ?_
   refine Jo 3 ?_; rintro a42 k43 rfl
   refine Fb 16 3 fun _ => ?_
   refine FoS 3 fun ho45 => ?_
   refine Jo 5 ?_; rintro a46 k47 rfl
   refine Fb 16 5 fun _ => ?_
   refine FoS 5 fun ho49 => ?_
   refine KS ?_
   refine Oq Vm ?_
   refine lbH H hx0 fun rv50 hg51 H => ?_
   have hc52 := fn123 pP (Gparser.mk p.l rv32.2.at_ rv32.2.Err) pa0 pk0 pre pre rv50 hg51
   refine Oc [4, 2] ca123 hc52 ?_
   rintro - ⟨he53, he54⟩
   unfold i64ok at he53 he54
   refine KS ?_
   refine Oq (VldA sh140 6) (Ost (Scl [2] sh140 [vi 2, .string (bs (Str.mk [])), vl a46 k47 ([rv21.1] ++ rv32.1), .slice none 0 0]) (KS ?_))
   refine Jl [5] (Ent.freeze _ _) ?_
   refine Jl [] (Ent.slNil (α := Str)) ?_
   have hq := rI H; subst hq
   exact Kr (vl a46 k47 ([rv21.1] ++ rv32.1), .slice none 0 0) rfl (.cellN 2 rfl sh140 rfl (reads_Cl _ _) rfl .nil) [1, 0, 3] en
  intro h19 H
  have g55 := ne_of_beq_false h19
  refine KS ?_
  refine Oq (VeqS (l := (p.l.getD p.at_.toNat default).Text) (m := (Str.mk [99, 97, 108, 108]))) (Oq Va (KS ?_))
  refine pF H hx0 fun h56 H => ?_
  refine KcF h56 ?_
  have g57 := ne_of_beq_false h56
  refine KS ?_
  refine Oq (VeqS (l := (p.l.getD p.at_.toNat default).Text) (m := (Str.mk [115, 111, 117, 114, 99, 101]))) (Oq Va (KS ?_))
  refine pF H hx0 fun h58 H => ?_
  refine KcF h58 ?_
  have g59 := ne_of_beq_false h58
  refine KS ?_
  refine Oq (VeqS (l := (p.l.getD p.at_.toNat default).Text) (m := (Str.mk [115, 105, 110, 107]))) (Oq Va (KS ?_))
  refine pF H hx0 fun h60 H => ?_
  refine KcF h60 ?_
  have g61 := ne_of_beq_false h60
  refine KS ?_
  refine Oq (VeqS (l := (p.l.getD p.at_.toNat default).Text) (m := (Str.mk [115, 97, 110, 105, 116, 105, 122, 101]))) (Oq Va (KS ?_))
  refine pF H hx0 fun h62 H => ?_
  refine KcF h62 ?_
  have g63 := ne_of_beq_false h62
  refine KS ?_
  refine Oq (VeqS (l := (p.l.getD p.at_.toNat default).Text) (m := (Str.mk [103, 111, 116, 111]))) (Oq Va (KS ?_))
  refine pF H hx0 fun h64 H => ?_
  refine KcF h64 ?_
  have g65 := ne_of_beq_false h64
  refine KS ?_
  refine Oq (VeqS (l := (p.l.getD p.at_.toNat default).Text) (m := (Str.mk [98, 114, 97, 110, 99, 104]))) (Oq Va (KS ?_))
  refine pF H hx0 fun h66 H => ?_
  refine KcF h66 ?_
  have g67 := ne_of_beq_false h66
  refine KS ?_
  refine Oq (VeqS (l := (p.l.getD p.at_.toNat default).Text) (m := (Str.mk [114, 101, 116, 117, 114, 110]))) (Oq Va (KS ?_))
  refine KcH H ?_ ?_
  ·intro h68 H
   have g69 := eq_of_beq h68
   refine KS ?_
   refine Oq (Vfa fo140_0 3) (Ost (SclF [3] sh3 [vi 9, .string (bs (Str.mk [])), .slice none 0 0, .slice none 0 0]) (KS ?_))
   refine Oq Vm ?_
   refine lbH H hx0 fun rv70 hg71 H => ?_
   have hc72 := fn123 pP (Gparser.mk p.l (p.at_ + 1) p.Err) pa0 pk0 pre pre rv70 hg71
   refine Oc [1, 4] ca123 hc72 ?_
   rintro - ⟨he73, he74⟩
   unfold i64ok at he73 he74
   refine KS ?_
   refine Oq (VldA sh140 1) (Ost (Scl [4] sh140 [vi 9, .string (bs (Str.mk [])), .slice none 0 0, .slice none 0 0]) (KS ?_))
   refine Jl [] (Ent.slNil (α := Str)) ?_
   have hq := rI H; subst hq
   exact Kr (.slice none 0 0, .slice none 0 0) rfl (.cellN 1 rfl sh140 rfl (reads_Cl _ _) rfl .nil) [0, 0, 2] en
  intro h68 H
  have g75 := ne_of_beq_false h68
  refine KS ?_
  refine Oq Vm ?_
  refine lbH H hx0 fun rv76 hg77 H => ?_
  have hc78 := fn122 pP (Gparser.mk p.l (p.at_ + 1) p.Err) pa0 pk0 pre pre rv76 hg77
  refine Oc [0, 4] ca122 hc78 ?_
  rintro - ⟨he79, he80, he81⟩
  unfold i64ok at he80 he81
  refine Oq (Vfa fo140_0 3) (Ost (SclF [3] sh3 [vi 1, .string (bs (Str.mk [])), .slice none 0 0, .slice none 0 0]) (Oq (Vfa fo140_1 0) (Ost (SclF [0] sh9 [vi 1, .string (bs rv76.1), .slice none 0 0, .slice none 0 0]) (KS ?_))))
  refine Oq Vm ?_
  refine lbH H hx0 fun rv82 hg83 H => ?_
  have hc84 := fn155 pP (Gparser.mk p.l rv76.2.at_ rv76.2.Err) pa0 pk0 2 pre pre pre rv82 hg83
  refine Oc [1, 4] ca155 hc84 ?_
  rintro - -
  refine Oq Vnot (KS ?_)
  refine pF H hx0 fun h85 H => ?_
  refine KcF h85 ?_
  have h87 := not_false h85
  refine KS ?_
  refine Oq Vm (Oq (Vn 0) (Oq (Vfa fo121_1 0) (Oq (VldF sh3 0) ?_)))
  refine pC H hx0 fun hc89 H => ?_
  refine Oq Vadd (Oq (Vn 0) (Oq (Vfa fo121_1 0) (Ost (SclF [0] sh3 [vl pa0 pk0 p.l, vi (rv76.2.at_ + 1), vi rv76.2.Err]) (KS ?_))))
  refine Oq Vm ?_
  refine lbH H hx0 fun rv91 hg92 H => ?_
  have hc93 := fn178 pP (Gparser.mk p.l (rv76.2.at_ + 1) rv76.2.Err) pa0 pk0 pre pre rv91 hg92
  refine Oc [0, 4] ca178 hc93 ?_
  rintro c90 ⟨he94, he95⟩
  unfold i64ok at he94 he95
  refine Jo 0 ?_; rintro a96 k97 rfl
  refine Fb 16 0 fun _ => ?_
  refine FoS 0 fun ho99 => ?_
  refine Oq (Vfa fo140_2 2) (Ost (SclF [2] sh138 [vi 1, .string (bs rv76.1), vl a96 k97 rv91.1, .slice none 0 0]) (KS ?_))
  refine Oq Vm ?_
  refine lbH H hx0 fun rv100 hg101 H => ?_
  have hc102 := fn123 pP (Gparser.mk p.l rv91.2.at_ rv91.2.Err) pa0 pk0 pre pre rv100 hg101
  refine Oc [2, 5] ca123 hc102 ?_
  rintro - ⟨he103, he104⟩
  unfold i64ok at he103 he104
  refine KS ?_
  refine Oq (VldA sh140 1) (Ost (Scl [5] sh140 [vi 1, .string (bs rv76.1), vl a96 k97 rv91.1, .slice none 0 0]) (KS ?_))
  refine Jl [] (Ent.slNil (α := Str)) ?_
  have hq := rI H; subst hq
  exact Kr (vl a96 k97 rv91.1, .slice none 0 0) rfl (.cellN 1 rfl sh140 rfl (reads_Cl _ _) rfl .nil) [4, 0, 2] en
 intro h7 H
 have h106 := not_false h7
 refine KS ?_
 refine Oq Vm (KS ?_)
 refine Oq (VeqS (l := (Str.mk [])) (m := (Str.mk [117, 115, 101]))) (Oq Va (KS ?_))
 refine KcH H ?_ ?_
 ·intro h108 H
  have g109 := eq_of_beq h108
  refine KS ?_
  refine Oq Vm ?_
  refine lbH H hx0 fun rv110 hg111 H => ?_
  have hc112 := fn122 pP p pa0 pk0 pre pre rv110 hg111
  refine Oc [0, 2] ca122 hc112 ?_
  rintro - ⟨he113, he114, he115⟩
  unfold i64ok at he114 he115
  refine Oa (AsV sl138 sz138 [.string (bs rv110.1)] [.string (bs rv110.1)]) fun c116 => ?_
  refine Jo 0 ?_; rintro a117 k118 rfl
  refine Oq (Vfa fo140_0 2) (Ost (SclF [2] sh3 [vi 2, .string (bs (Str.mk [])), .slice none 0 0, .slice none 0 0]) (Oq (Vfa fo140_2 0) (Ost (SclF [0] sh138 [vi 2, .string (bs (Str.mk [])), .slice a117 1 k118, .slice none 0 0]) (KS ?_))))
  refine Jp 0 fun hp119 => ?_
  refine JK_drawK [0, 1, 0, 4, 15, 31, 63] fmix ?_
  refine Dv [0] (Vfa fo140_2 0) (Dv [1] (VldF sh138 0) (Dv [] Vm ?_))
  refine lbH H hx0 fun rv121 hg122 H => ?_
  refine Dx [3, 5] [3] [3, 0, 1, 2] (fun G => (G.g 3 0)) [fun G => SP.fact (i64ok rv121.2.at_ ∧ i64ok rv121.2.Err), fun G => sl (G.g 3 0) rv121.1, fun G => Cl pP [vl pa0 pk0 p.l, vi rv121.2.at_, vi rv121.2.Err]] (fun G => xC [0, 0] ca177 (fn177 pP (Gparser.mk p.l rv110.2.at_ rv110.2.Err) pa0 pk0 1 pre pre pre rv121 hg122)) ?_
  refine pC H hx0 fun hc123 H => ?_
  have hn125 : ([rv110.1] ++ rv121.1 : List Str).length = 1 + rv121.1.length := la ([rv110.1] : List Str) rv121.1
  refine Dx [2, 6, 7] [2] [1, 2, 0] (fun G => (G.g 4 0)) [fun G => os (G.g 4 0) (([rv110.1] ++ rv121.1) : List Str)] (fun G => by refine xf 1 rfl ?_; rintro ⟨he126, he127⟩; unfold i64ok at he126 he127; exact xp [0] rfl (Ent.cr1 (α := Str) (A := []) _ rv110.1 _ aB1 (fun _ => ⟨rfl, aS1⟩)) (xA (Ap [0, 1] sl138 sl138 sz138))) (Dv [0] (Vfa fo140_2 0) (Dx0 [1, 9] [1] [1, 0] [fun G => Cl p3 [vi 2, .string (bs (Str.mk [])), (G.g 4 0), .slice none 0 0]] (fun G => x1 1 rfl os_one fun ho128 => (xS (OpS.frame [0] rfl (OpS.storeClF [(G.g 4 0)] [vi 2, .string (bs (Str.mk [])), (G.g 4 0), .slice none 0 0] rfl rfl rfl sh138 (cells_of_one ho128) rfl (by simp only [List.all_cons, List.all_nil, ho128, Bool.and_true, Bool.true_and] <;> rfl) aB1 rfl)))) ?_))
  refine Dn ⟨by kernel_rfl, fun G => ?_⟩
  refine Jw2 [(0, pP), (2, p2), (3, p3)] [0, 4, 5] [SP.fact (i64ok rv121.2.at_ ∧ i64ok rv121.2.Err), sl (G.g 3 0) rv121.1, Cl pP [vl pa0 pk0 p.l, vi rv121.2.at_, vi rv121.2.Err], os (G.g 4 0) (([rv110.1] ++ rv121.1) : List Str), Cl p3 [vi 2, .string (bs (Str.mk [])), (G.g 4 0), .slice none 0 0]] ?_
  generalize G.g 3 0 = c120, G.g 4 0 = c124
  refine Jf 3 rfl ?_; rintro ⟨he129, he130⟩
  unfold i64ok at he129 he130
  refine Jk [1, 1, 3, 4, 4, 4] ?_
  refine Jo 2 ?_; rintro a131 k132 rfl
  refine Fb 16 2 fun _ => ?_
  refine FoS 2 fun ho134 => ?_
  refine Jo 4 ?_; rintro a135 k136 rfl
  refine Fb 16 4 fun _ => ?_
  refine FoS 4 fun ho138 => ?_
  refine KS ?_
  refine Oq Vm ?_
  refine lbH H hx0 fun rv139 hg140 H => ?_
  have hc141 := fn123 pP (Gparser.mk p.l rv121.2.at_ rv121.2.Err) pa0 pk0 pre pre rv139 hg140
  refine Oc [3, 1] ca123 hc141 ?_
  rintro - ⟨he142, he143⟩
  unfold i64ok at he142 he143
  refine KS ?_
  refine Oq (VldA sh140 5) (Ost (Scl [1] sh140 [vi 2, .string (bs (Str.mk [])), vl a135 k136 ([rv110.1] ++ rv121.1), .slice none 0 0]) (KS ?_))
  refine Jl [4] (Ent.freeze _ _) ?_
  refine Jl [] (Ent.slNil (α := Str)) ?_
  have hq := rI H; subst hq
  exact Kr (vl a135 k136 ([rv110.1] ++ rv121.1), .slice none 0 0) rfl (.cellN 2 rfl sh140 rfl (reads_Cl _ _) rfl .nil) [1, 0, 3] en
 intro h108 H
 have g144 := ne_of_beq_false h108
 refine KS ?_
 refine Oq (VeqS (l := (Str.mk [])) (m := (Str.mk [99, 97, 108, 108]))) (Oq Va (KS ?_))
 refine pF H hx0 fun h145 H => ?_
 refine KcF h145 ?_
 have g146 := ne_of_beq_false h145
 refine KS ?_
 refine Oq (VeqS (l := (Str.mk [])) (m := (Str.mk [115, 111, 117, 114, 99, 101]))) (Oq Va (KS ?_))
 refine pF H hx0 fun h147 H => ?_
 refine KcF h147 ?_
 have g148 := ne_of_beq_false h147
 refine KS ?_
 refine Oq (VeqS (l := (Str.mk [])) (m := (Str.mk [115, 105, 110, 107]))) (Oq Va (KS ?_))
 refine pF H hx0 fun h149 H => ?_
 refine KcF h149 ?_
 have g150 := ne_of_beq_false h149
 refine KS ?_
 refine Oq (VeqS (l := (Str.mk [])) (m := (Str.mk [115, 97, 110, 105, 116, 105, 122, 101]))) (Oq Va (KS ?_))
 refine pF H hx0 fun h151 H => ?_
 refine KcF h151 ?_
 have g152 := ne_of_beq_false h151
 refine KS ?_
 refine Oq (VeqS (l := (Str.mk [])) (m := (Str.mk [103, 111, 116, 111]))) (Oq Va (KS ?_))
 refine pF H hx0 fun h153 H => ?_
 refine KcF h153 ?_
 have g154 := ne_of_beq_false h153
 refine KS ?_
 refine Oq (VeqS (l := (Str.mk [])) (m := (Str.mk [98, 114, 97, 110, 99, 104]))) (Oq Va (KS ?_))
 refine pF H hx0 fun h155 H => ?_
 refine KcF h155 ?_
 have g156 := ne_of_beq_false h155
 refine KS ?_
 refine Oq (VeqS (l := (Str.mk [])) (m := (Str.mk [114, 101, 116, 117, 114, 110]))) (Oq Va (KS ?_))
 refine KcH H ?_ ?_
 ·intro h157 H
  have g158 := eq_of_beq h157
  refine KS ?_
  refine Oq (Vfa fo140_0 1) (Ost (SclF [1] sh3 [vi 9, .string (bs (Str.mk [])), .slice none 0 0, .slice none 0 0]) (KS ?_))
  refine Oq Vm ?_
  refine lbH H hx0 fun rv159 hg160 H => ?_
  have hc161 := fn123 pP p pa0 pk0 pre pre rv159 hg160
  refine Oc [1, 2] ca123 hc161 ?_
  rintro - ⟨he162, he163⟩
  unfold i64ok at he162 he163
  refine KS ?_
  refine Oq (VldA sh140 1) (Ost (Scl [2] sh140 [vi 9, .string (bs (Str.mk [])), .slice none 0 0, .slice none 0 0]) (KS ?_))
  refine Jl [] (Ent.slNil (α := Str)) ?_
  have hq := rI H; subst hq
  exact Kr (.slice none 0 0, .slice none 0 0) rfl (.cellN 1 rfl sh140 rfl (reads_Cl _ _) rfl .nil) [0, 0, 2] en
 intro h157 H
 have g164 := ne_of_beq_false h157
 refine KS ?_
 refine Oq Vm ?_
 refine lbH H hx0 fun rv165 hg166 H => ?_
 have hc167 := fn122 pP p pa0 pk0 pre pre rv165 hg166
 refine Oc [0, 2] ca122 hc167 ?_
 rintro - ⟨he168, he169, he170⟩
 unfold i64ok at he169 he170
 refine Oq (Vfa fo140_0 1) (Ost (SclF [1] sh3 [vi 1, .string (bs (Str.mk [])), .slice none 0 0, .slice none 0 0]) (Oq (Vfa fo140_1 0) (Ost (SclF [0] sh9 [vi 1, .string (bs rv165.1), .slice none 0 0, .slice none 0 0]) (KS ?_))))
 refine Oq Vm ?_
 refine lbH H hx0 fun rv171 hg172 H => ?_
 have hc173 := fn155 pP (Gparser.mk p.l rv165.2.at_ rv165.2.Err) pa0 pk0 2 pre pre pre rv171 hg172
 refine Oc [1, 2] ca155 hc173 ?_
 rintro - -
 refine Oq Vnot (KS ?_)
 refine pF H hx0 fun h174 H => ?_
 refine KcF h174 ?_
 have h176 := not_false h174
 refine KS ?_
 refine Oq Vm (Oq (Vn 0) (Oq (Vfa fo121_1 0) (Oq (VldF sh3 0) ?_)))
 refine pC H hx0 fun hc178 H => ?_
 refine Oq Vadd (Oq (Vn 0) (Oq (Vfa fo121_1 0) (Ost (SclF [0] sh3 [vl pa0 pk0 p.l, vi (rv165.2.at_ + 1), vi rv165.2.Err]) (KS ?_))))
 refine Oq Vm ?_
 refine lbH H hx0 fun rv180 hg181 H => ?_
 have hc182 := fn178 pP (Gparser.mk p.l (rv165.2.at_ + 1) rv165.2.Err) pa0 pk0 pre pre rv180 hg181
 refine Oc [0, 2] ca178 hc182 ?_
 rintro c179 ⟨he183, he184⟩
 unfold i64ok at he183 he184
 refine Jo 0 ?_; rintro a185 k186 rfl
 refine Fb 16 0 fun _ => ?_
 refine FoS 0 fun ho188 => ?_
 refine Oq (Vfa fo140_2 2) (Ost (SclF [2] sh138 [vi 1, .string (bs rv165.1), vl a185 k186 rv180.1, .slice none 0 0]) (KS ?_))
 refine Oq Vm ?_
 refine lbH H hx0 fun rv189 hg190 H => ?_
 have hc191 := fn123 pP (Gparser.mk p.l rv180.2.at_ rv180.2.Err) pa0 pk0 pre pre rv189 hg190
 refine Oc [2, 3] ca123 hc191 ?_
 rintro - ⟨he192, he193⟩
 unfold i64ok at he192 he193
 refine KS ?_
 refine Oq (VldA sh140 1) (Ost (Scl [3] sh140 [vi 1, .string (bs rv165.1), vl a185 k186 rv180.1, .slice none 0 0]) (KS ?_))
 refine Jl [] (Ent.slNil (α := Str)) ?_
 have hq := rI H; subst hq
 exact Kr (vl a185 k186 rv180.1, .slice none 0 0) rfl (.cellN 1 rfl sh140 rfl (reads_Cl _ _) rfl .nil) [4, 0, 2] en
theorem fn124 (pP : Value) (p : Gparser) (pa0 : Option Addr) (pk0 : Nat) (hp_1 : i64ok p.at_) (hp_2 : i64ok p.Err) (rr : GBlock × Gparser) (hrr : pz_block p = .ret rr) : FT Tryz.prog 124 #[pP] [Cl pP [vl pa0 pk0 p.l, vi p.at_, vi p.Err], S pa0 pk0 p.l] (fun g : Value => rr.1.Name.b.length ≤ 140737488355328 ∧ i64ok rr.2.at_ ∧ i64ok rr.2.Err) (fun g => .agg #[.string (bs rr.1.Name), g]) (fun g => [sl g rr.1.Stmts, Cl pP [vl pa0 pk0 p.l, vi rr.2.at_, vi rr.2.Err]]) := by
 refine FTi Tryz.func124 fun w0 M0 F0 => ?_
 unfold i64ok at hp_1 hp_2
 refine Fb 40 1 fun _ => ?_
 have hx0 := lrn rr; have H := hrr; unfold pz_block at H
 refine KS ?_
 refine Oa (Al ze168 [.string (bs (Str.mk [])), .slice none 0 0]) fun p2 => KS ?_
 refine Oa (Al ze168 [.string (bs (Str.mk [])), .slice none 0 0]) fun p3 => KS ?_
 refine Oq Vm ?_
 refine lbH H hx0 fun rv4 hg5 H => ?_
 have hc6 := fn121 pP p pa0 pk0 ((Str.mk [98, 108, 111, 99, 107])) pre pre pre rv4 hg5
 refine Oc [2, 2] ca121 hc6 ?_
 rintro - ⟨he7, he8⟩
 unfold i64ok at he7 he8
 refine KS ?_
 refine Oq Vm ?_
 refine lbH H hx0 fun rv9 hg10 H => ?_
 have hc11 := fn122 pP (Gparser.mk p.l rv4.at_ rv4.Err) pa0 pk0 pre pre rv9 hg10
 refine Oc [0, 2] ca122 hc11 ?_
 rintro - ⟨he12, he13, he14⟩
 unfold i64ok at he13 he14
 refine Oq (Vfa fo168_0 1) (Ost (SclF [1] sh9 [.string (bs rv9.1), .slice none 0 0]) (KS ?_))
 refine Oq Vm ?_
 refine lbH H hx0 fun rv15 hg16 H => ?_
 have hc17 := fn123 pP (Gparser.mk p.l rv9.2.at_ rv9.2.Err) pa0 pk0 pre pre rv15 hg16
 refine Oc [1, 2] ca123 hc17 ?_
 rintro - ⟨he18, he19⟩
 unfold i64ok at he18 he19
 refine KS ?_
 refine Oq Vm ?_
 refine lbH H hx0 fun rv20 hg21 H => ?_
 have hc22 := fn156 pP (Gparser.mk p.l rv15.at_ rv15.Err) pa0 pk0 pre pre rv20 hg21
 refine Oc [0, 2] ca156 hc22 ?_
 rintro - -
 refine Oq Vnot (KS ?_)
 refine pF H hx0 fun h23 H => ?_
 refine KcF h23 ?_
 have h25 := not_false h23
 refine KS ?_
 refine Jl [] (Ent.osNil (α := GStmt)) ?_
 refine llH H hx0 fun X36 hX37 hx38 HL39 => ?_
 refine Kl (γ := Nat × Int × Int × List GStmt × Option Addr × Nat) (fun (r27, p1_28, p2_29, b1_30, a31, k32) => ⟨[(0, pP), (2, p2), (3, p3)], [O a31 k32 b1_30, Cl pP [vl pa0 pk0 p.l, vi p1_28, vi p2_29], Cl p3 [.string (bs rv9.1), vl a31 k32 b1_30], Cl p2 [.string (bs (Str.mk [])), .slice none 0 0], S pa0 pk0 p.l], pz_block_L0 p r27 p1_28 p2_29 b1_30 = X36 ∧ (-9223372036854775808 ≤ p1_28 ∧ p1_28 ≤ 9223372036854775807) ∧ (-9223372036854775808 ≤ p2_29 ∧ p2_29 ≤ 9223372036854775807), r27⟩) (100000, rv15.at_, rv15.Err, [], none, 0) [0, 0, 0, 0, 0] ⟨hX37, aM1, aM1⟩ ?_
 rintro ⟨r27, p1_28, p2_29, b1_30, a31, k32⟩ ⟨hM33, hk34, hk35⟩
 refine JJ_nx fun _ _ hL hA => ?_; dsimp only at hL hA; subst hL hA
 refine Fb 72 0 fun _ => Fb 40 4 fun _ => ?_
 rcases r27 with _ | r27
 ·exact absurd (hM33.symm.trans rfl) hx38
 have H := hM33; (try dsimp only at H); rw [pz_block_L0] at H
 refine KS ?_
 refine Oq Vm ?_
 refine lbH H hx38 fun rv42 hg43 H => ?_
 have hc44 := fn156 pP (Gparser.mk p.l p1_28 p2_29) pa0 pk0 pre pre rv42 hg43
 refine Oc [1, 3] ca156 hc44 ?_
 rintro - -
 refine KS ?_
 refine KcH H ?_ ?_
 ·intro h45 H
  refine KS ?_
  refine Oq (Vfa fo168_1 2) (Oq (VldF sh166 2) (Oq (Vlen sl166) (Oq Veql (KS ?_))))
  refine pF H hx38 fun h47 H => ?_
  refine KcF h47 ?_
  have g48 := ne_of_beq_false h47
  refine KS ?_
  refine Jp 2 fun hp49 => ?_
  refine JK_drawK [0, 1, 0, 4, 12, 31, 63, 127] fmix ?_
  refine Dv [0] (Vfa fo168_1 0) (Dv [3] (VldF sh166 0) (Dv [] Vm ?_))
  refine lbH H hx38 fun rv52 hg53 H => ?_
  refine Dx [1, 5] [1] [4, 0, 1, 2, 3] (fun G => .agg #[vi rv52.1.Op, .string (bs rv52.1.Def), (G.g 3 0), (G.g 3 1)]) [fun G => SP.fact (i64ok rv52.1.Op ∧ rv52.1.Def.b.length ≤ 140737488355328 ∧ i64ok rv52.2.at_ ∧ i64ok rv52.2.Err), fun G => sl (G.g 3 0) rv52.1.Uses, fun G => sl (G.g 3 1) rv52.1.Targets, fun G => Cl pP [vl pa0 pk0 p.l, vi rv52.2.at_, vi rv52.2.Err]] (fun G => xC [0, 0] ca157 (fn157 pP (Gparser.mk p.l p1_28 p2_29) pa0 pk0 pre pre rv52 hg53)) (Dx [] [] [0] (fun G => (G.g 4 0)) [fun G => Cr (G.g 4 0) 1 [vi rv52.1.Op, .string (bs rv52.1.Def), (G.g 3 0), (G.g 3 1)]] (fun G => xA (AsV sl166 sz166 [.agg #[vi rv52.1.Op, .string (bs rv52.1.Def), (G.g 3 0), (G.g 3 1)]] [vi rv52.1.Op, .string (bs rv52.1.Def), (G.g 3 0), (G.g 3 1)])) ?_)
  refine pC H hx38 fun hc55 H => ?_
  have hn57 := la b1_30 ([rv52.1] : List GStmt)
  refine Dx [2, 6, 7, 8, 10] [2, 10] [3, 1, 2, 0] (fun G => (G.g 5 0)) [fun G => os (G.g 5 0) ((b1_30 ++ [rv52.1]) : List GStmt)] (fun G => by refine xf 1 rfl ?_; rintro ⟨he58, he59, he60, he61⟩; unfold i64ok at he58 he60 he61; exact xp [4, 2, 3] rfl (Ent.cr1 (α := GStmt) (A := [sl (G.g 3 0) rv52.1.Uses, sl (G.g 3 1) rv52.1.Targets]) _ rv52.1 _ aB1 (fun h => ⟨_, _, rfl, aL1, aS1, sepAll_get (i := 0) rfl h, sepAll_get (i := 1) rfl h⟩)) (xA (ApO [3, 0] sl166 sl166 sz166))) (Dv [0] (Vfa fo168_1 0) (Dx0 [3, 11] [3] [1, 0] [fun G => Cl p3 [.string (bs rv9.1), (G.g 5 0)]] (fun G => x1 1 rfl os_one fun ho62 => (xS (OpS.frame [0] rfl (OpS.storeClF [(G.g 5 0)] [.string (bs rv9.1), (G.g 5 0)] rfl rfl rfl sh166 (cells_of_one ho62) rfl (by simp only [List.all_cons, List.all_nil, ho62, Bool.and_true, Bool.true_and] <;> rfl) aB1 rfl)))) ?_))
  refine Dn ⟨by kernel_rfl, fun G => ?_⟩
  refine Jw2 [(0, pP), (2, p2), (3, p3)] [0, 4, 5] [SP.fact (i64ok rv52.1.Op ∧ rv52.1.Def.b.length ≤ 140737488355328 ∧ i64ok rv52.2.at_ ∧ i64ok rv52.2.Err), sl (G.g 3 0) rv52.1.Uses, sl (G.g 3 1) rv52.1.Targets, Cl pP [vl pa0 pk0 p.l, vi rv52.2.at_, vi rv52.2.Err], os (G.g 5 0) ((b1_30 ++ [rv52.1]) : List GStmt), Cl p3 [.string (bs rv9.1), (G.g 5 0)]] ?_
  generalize G.g 3 0 = c50, G.g 3 1 = c51, G.g 5 0 = c56
  refine Jf 3 rfl ?_; rintro ⟨he63, he64, he65, he66⟩
  unfold i64ok at he63 he65 he66
  refine Jk [1, 1, 3, 4, 5, 5, 5] ?_
  refine Jo 2 ?_; rintro a67 k68 rfl
  refine Fb 16 2 fun _ => ?_
  refine FoS 2 fun ho70 => ?_
  refine Jo 3 ?_; rintro a71 k72 rfl
  refine Fb 16 3 fun _ => ?_
  refine FoS 3 fun ho74 => ?_
  refine Jo 5 ?_; rintro a75 k76 rfl
  refine Fb 72 5 fun _ => KS ?_
  exact Kg (r27, rv52.2.at_, rv52.2.Err, (b1_30 ++ [rv52.1]), a75, k76) [5, 4, 4, 0, 0] ⟨H, aM1, aM1⟩
 intro h45 H
 refine Ke ?_
 have H := llB H HL39
 dsimp only at H
 refine KS ?_
 refine Oq (VldA sh168 2) (Ost (Scl [3] sh168 [.string (bs rv9.1), vl a31 k32 b1_30]) (KS ?_))
 refine Jl [2] (Ent.freeze _ _) ?_
 have hq := rI H; subst hq
 exact Kr (vl a31 k32 b1_30) rfl (.cellN 1 rfl sh168 rfl (reads_Cl _ _) rfl .nil) [0, 2] en
theorem fn87 (pP : Value) (p : Gparser) (pa0 : Option Addr) (pk0 : Nat) (hp_1 : i64ok p.at_) (hp_2 : i64ok p.Err) (rr : GFunc × Gparser) (hrr : pz_function p = .ret rr) : FT Tryz.prog 87 #[pP] [Cl pP [vl pa0 pk0 p.l, vi p.at_, vi p.Err], S pa0 pk0 p.l] (fun g : Value => rr.1.Name.b.length ≤ 140737488355328 ∧ i64ok rr.2.at_ ∧ i64ok rr.2.Err) (fun g => .agg #[.string (bs rr.1.Name), g]) (fun g => [sl g rr.1.Blocks, Cl pP [vl pa0 pk0 p.l, vi rr.2.at_, vi rr.2.Err]]) := by
 refine FTi Tryz.func87 fun w0 M0 F0 => ?_
 unfold i64ok at hp_1 hp_2
 refine Fb 40 1 fun _ => ?_
 have hx0 := lrn rr; have H := hrr; unfold pz_function at H
 refine KS ?_
 refine Oa (Al ze126 [.string (bs (Str.mk [])), .slice none 0 0]) fun p2 => KS ?_
 refine Oa (Al ze126 [.string (bs (Str.mk [])), .slice none 0 0]) fun p3 => KS ?_
 refine Oq Vm ?_
 refine lbH H hx0 fun rv4 hg5 H => ?_
 have hc6 := fn121 pP p pa0 pk0 ((Str.mk [102, 117, 110, 99])) pre pre pre rv4 hg5
 refine Oc [2, 2] ca121 hc6 ?_
 rintro - ⟨he7, he8⟩
 unfold i64ok at he7 he8
 refine KS ?_
 refine Oq Vm ?_
 refine lbH H hx0 fun rv9 hg10 H => ?_
 have hc11 := fn122 pP (Gparser.mk p.l rv4.at_ rv4.Err) pa0 pk0 pre pre rv9 hg10
 refine Oc [0, 2] ca122 hc11 ?_
 rintro - ⟨he12, he13, he14⟩
 unfold i64ok at he13 he14
 refine Oq (Vfa fo126_0 1) (Ost (SclF [1] sh9 [.string (bs rv9.1), .slice none 0 0]) (KS ?_))
 refine Oq Vm ?_
 refine lbH H hx0 fun rv15 hg16 H => ?_
 have hc17 := fn123 pP (Gparser.mk p.l rv9.2.at_ rv9.2.Err) pa0 pk0 pre pre rv15 hg16
 refine Oc [1, 2] ca123 hc17 ?_
 rintro - ⟨he18, he19⟩
 unfold i64ok at he18 he19
 refine KS ?_
 refine Oq Vm ?_
 refine lbH H hx0 fun rv20 hg21 H => ?_
 have hc22 := fn85 pP (Gparser.mk p.l rv15.at_ rv15.Err) pa0 pk0 ((Str.mk [98, 108, 111, 99, 107])) pre pre pre rv20 hg21
 refine Oc [0, 2] ca85 hc22 ?_
 rintro - -
 refine Oq Vnot (KS ?_)
 refine pF H hx0 fun h23 H => ?_
 refine KcF h23 ?_
 have h25 := not_false h23
 refine KS ?_
 refine Jl [] (Ent.osNil (α := GBlock)) ?_
 refine llH H hx0 fun X36 hX37 hx38 HL39 => ?_
 refine Kl (γ := Nat × Int × Int × List GBlock × Option Addr × Nat) (fun (r27, p1_28, p2_29, f1_30, a31, k32) => ⟨[(0, pP), (2, p2), (3, p3)], [O a31 k32 f1_30, Cl pP [vl pa0 pk0 p.l, vi p1_28, vi p2_29], Cl p3 [.string (bs rv9.1), vl a31 k32 f1_30], Cl p2 [.string (bs (Str.mk [])), .slice none 0 0], S pa0 pk0 p.l], pz_function_L0 p r27 p1_28 p2_29 f1_30 = X36 ∧ (-9223372036854775808 ≤ p1_28 ∧ p1_28 ≤ 9223372036854775807) ∧ (-9223372036854775808 ≤ p2_29 ∧ p2_29 ≤ 9223372036854775807), r27⟩) (100000, rv15.at_, rv15.Err, [], none, 0) [0, 0, 0, 0, 0] ⟨hX37, aM1, aM1⟩ ?_
 rintro ⟨r27, p1_28, p2_29, f1_30, a31, k32⟩ ⟨hM33, hk34, hk35⟩
 refine JJ_nx fun _ _ hL hA => ?_; dsimp only at hL hA; subst hL hA
 refine Fb 40 0 fun _ => Fb 40 4 fun _ => ?_
 rcases r27 with _ | r27
 ·exact absurd (hM33.symm.trans rfl) hx38
 have H := hM33; (try dsimp only at H); rw [pz_function_L0] at H
 refine KS ?_
 refine Oq Vm ?_
 refine lbH H hx38 fun rv42 hg43 H => ?_
 have hc44 := fn85 pP (Gparser.mk p.l p1_28 p2_29) pa0 pk0 ((Str.mk [98, 108, 111, 99, 107])) pre pre pre rv42 hg43
 refine Oc [1, 3] ca85 hc44 ?_
 rintro - -
 refine KS ?_
 refine KcH H ?_ ?_
 ·intro h45 H
  refine KS ?_
  refine Oq (Vfa fo126_1 2) (Oq (VldF sh124 2) (Oq (Vlen sl124) (Oq Veql (KS ?_))))
  refine pF H hx38 fun h47 H => ?_
  refine KcF h47 ?_
  have g48 := ne_of_beq_false h47
  refine KS ?_
  refine Jp 2 fun hp49 => ?_
  refine JK_drawK [0, 1, 0, 4, 12, 31, 63, 127] fmix ?_
  refine Dv [0] (Vfa fo126_1 0) (Dv [3] (VldF sh124 0) (Dv [] Vm ?_))
  refine lbH H hx38 fun rv51 hg52 H => ?_
  refine Dx [1, 5] [1] [3, 0, 1, 2] (fun G => .agg #[.string (bs rv51.1.Name), (G.g 3 0)]) [fun G => SP.fact (rv51.1.Name.b.length ≤ 140737488355328 ∧ i64ok rv51.2.at_ ∧ i64ok rv51.2.Err), fun G => sl (G.g 3 0) rv51.1.Stmts, fun G => Cl pP [vl pa0 pk0 p.l, vi rv51.2.at_, vi rv51.2.Err]] (fun G => xC [0, 0] ca124 (fn124 pP (Gparser.mk p.l p1_28 p2_29) pa0 pk0 pre pre rv51 hg52)) (Dx [] [] [0] (fun G => (G.g 4 0)) [fun G => Cr (G.g 4 0) 1 [.string (bs rv51.1.Name), (G.g 3 0)]] (fun G => xA (AsV sl124 sz124 [.agg #[.string (bs rv51.1.Name), (G.g 3 0)]] [.string (bs rv51.1.Name), (G.g 3 0)])) ?_)
  refine pC H hx38 fun hc54 H => ?_
  have hn56 := la f1_30 ([rv51.1] : List GBlock)
  refine Dx [2, 6, 7, 9] [2, 9] [2, 1, 0] (fun G => (G.g 5 0)) [fun G => os (G.g 5 0) ((f1_30 ++ [rv51.1]) : List GBlock)] (fun G => by refine xf 1 rfl ?_; rintro ⟨he57, he58, he59⟩; unfold i64ok at he58 he59; exact xp [3, 2] rfl (Ent.cr1 (α := GBlock) (A := [sl (G.g 3 0) rv51.1.Stmts]) _ rv51.1 _ aB1 (fun h => ⟨_, rfl, aS1, sepAll_get (i := 0) rfl h⟩)) (xA (ApO [2, 0] sl124 sl124 sz124))) (Dv [0] (Vfa fo126_1 0) (Dx0 [3, 10] [3] [1, 0] [fun G => Cl p3 [.string (bs rv9.1), (G.g 5 0)]] (fun G => x1 1 rfl os_one fun ho60 => (xS (OpS.frame [0] rfl (OpS.storeClF [(G.g 5 0)] [.string (bs rv9.1), (G.g 5 0)] rfl rfl rfl sh124 (cells_of_one ho60) rfl (by simp only [List.all_cons, List.all_nil, ho60, Bool.and_true, Bool.true_and] <;> rfl) aB1 rfl)))) ?_))
  refine Dn ⟨by kernel_rfl, fun G => ?_⟩
  refine Jw2 [(0, pP), (2, p2), (3, p3)] [0, 4, 5] [SP.fact (rv51.1.Name.b.length ≤ 140737488355328 ∧ i64ok rv51.2.at_ ∧ i64ok rv51.2.Err), sl (G.g 3 0) rv51.1.Stmts, Cl pP [vl pa0 pk0 p.l, vi rv51.2.at_, vi rv51.2.Err], os (G.g 5 0) ((f1_30 ++ [rv51.1]) : List GBlock), Cl p3 [.string (bs rv9.1), (G.g 5 0)]] ?_
  generalize G.g 3 0 = c50, G.g 5 0 = c55
  refine Jf 3 rfl ?_; rintro ⟨he61, he62, he63⟩
  unfold i64ok at he62 he63
  refine Jk [1, 1, 3, 4, 4, 4] ?_
  refine Jo 2 ?_; rintro a64 k65 rfl
  refine Fb 72 2 fun _ => ?_
  refine Jo 4 ?_; rintro a67 k68 rfl
  refine Fb 40 4 fun _ => KS ?_
  exact Kg (r27, rv51.2.at_, rv51.2.Err, (f1_30 ++ [rv51.1]), a67, k68) [4, 3, 3, 0, 0] ⟨H, aM1, aM1⟩
 intro h45 H
 refine Ke ?_
 have H := llB H HL39
 dsimp only at H
 refine KS ?_
 refine Oq Vm ?_
 refine lbH H hx0 fun rv71 hg72 H => ?_
 have hc73 := fn121 pP (Gparser.mk p.l p1_28 p2_29) pa0 pk0 ((Str.mk [101, 110, 100])) pre pre pre rv71 hg72
 refine Oc [0, 3] ca121 hc73 ?_
 rintro - ⟨he74, he75⟩
 unfold i64ok at he74 he75
 refine KS ?_
 refine Oq Vm ?_
 refine lbH H hx0 fun rv76 hg77 H => ?_
 have hc78 := fn123 pP (Gparser.mk p.l rv71.at_ rv71.Err) pa0 pk0 pre pre rv76 hg77
 refine Oc [0, 3] ca123 hc78 ?_
 rintro - ⟨he79, he80⟩
 unfold i64ok at he79 he80
 refine KS ?_
 refine Oq (VldA sh126 2) (Ost (Scl [3] sh126 [.string (bs rv9.1), vl a31 k32 f1_30]) (KS ?_))
 refine Jl [2] (Ent.freeze _ _) ?_
 have hq := rI H; subst hq
 exact Kr (vl a31 k32 f1_30) rfl (.cellN 1 rfl sh126 rfl (reads_Cl _ _) rfl .nil) [0, 2] en
theorem fn50 (text : Str) (htext_0 : text.b.length ≤ 140737488355328) (rr : GProgram × Int × Int × Int) (hrr : r4_Parse text = .ret rr) : FT Tryz.prog 50 #[.string (bs text)] [] (fun g : Value => i64ok rr.2.1 ∧ i64ok rr.2.2.1 ∧ i64ok rr.2.2.2) (fun g => .tuple #[.agg #[g], vi rr.2.1, vi rr.2.2.1, vi rr.2.2.2]) (fun g => [sl g rr.1.Funcs]) := by
 refine FTi Tryz.func50 fun w0 M0 F0 => ?_
 have hx0 := lrn rr; have H := hrr; unfold r4_Parse at H
 refine KS ?_
 refine Oa (Al ze84 [.slice none 0 0]) fun p1 => Oq Va (Oq Va (Oq Va (KS ?_)))
 refine Oq Vm ?_
 refine lbH H hx0 fun rv3 hg4 H => ?_
 have hc5 := fn84 text pre rv3 hg4
 refine Oc [] ca84 hc5 ?_
 rintro c2 ⟨he6, he7, he8⟩
 unfold i64ok at he6 he7 he8
 refine Jo 0 ?_; rintro a9 k10 rfl
 refine Fb 40 0 fun _ => ?_
 refine Oq Vm (Oq Vx (Oq Vx (Oq Vx (Oq Vx (Oq Va (Oq Va (Oq Va (Oq Va (KS ?_)))))))))
 refine Oq Vm (Oq Vneq (KS ?_))
 refine pF H hx0 fun h12 H => ?_
 refine KcF h12 ?_
 have g13 := eq_of_bne_false h12
 refine KS ?_
 refine Oq Vm (Oq (Vbd st121 [vl a9 k10 rv3.1, vi 0, vi 0]) (Oa (AbO [vl a9 k10 rv3.1, vi 0, vi 0]) fun p14 => Oq Va (KS ?_)))
 refine Oa (Al ze84 [.slice none 0 0]) fun p15 => KS ?_
 refine Oq Vm ?_
 refine lbH H hx0 fun rv16 hg17 H => ?_
 have hc18 := fn85 p14 (Gparser.mk rv3.1 0 0) a9 k10 ((Str.mk [102, 117, 110, 99])) pre pre pre rv16 hg17
 refine Oc [1, 1] ca85 hc18 ?_
 rintro - -
 refine Oq Vnot (KS ?_)
 refine pF H hx0 fun h19 H => ?_
 refine KcF h19 ?_
 have h21 := not_false h19
 refine KS ?_
 refine Jl [] (Ent.osNil (α := GFunc)) ?_
 refine llH H hx0 fun X32 hX33 hx34 HL35 => ?_
 refine Kl (γ := Nat × Int × Int × List GFunc × Option Addr × Nat) (fun (r23, p1_24, p2_25, out0_26, a27, k28) => ⟨[(2, p1), (6, vl a9 k10 rv3.1), (10, p14), (11, p15)], [O a27 k28 out0_26, Cl p14 [vl a9 k10 rv3.1, vi p1_24, vi p2_25], Cl p15 [vl a27 k28 out0_26], S a9 k10 rv3.1, Cl p1 [.slice none 0 0]], r4_Parse_L0 rv3.1 r23 p1_24 p2_25 out0_26 = X32 ∧ (-9223372036854775808 ≤ p1_24 ∧ p1_24 ≤ 9223372036854775807) ∧ (-9223372036854775808 ≤ p2_25 ∧ p2_25 ≤ 9223372036854775807), r23⟩) (100000, 0, 0, [], none, 0) [0, 0, 0, 0, 1] ⟨hX33, aM1, aM1⟩ ?_
 rintro ⟨r23, p1_24, p2_25, out0_26, a27, k28⟩ ⟨hM29, hk30, hk31⟩
 refine JJ_nx fun _ _ hL hA => ?_; dsimp only at hL hA; subst hL hA
 refine Fb 40 0 fun _ => Fb 40 3 fun _ => ?_
 rcases r23 with _ | r23
 ·exact absurd (hM29.symm.trans rfl) hx34
 have H := hM29; (try dsimp only at H); rw [r4_Parse_L0] at H
 refine KS ?_
 refine Oq Vm ?_
 refine lbH H hx34 fun rv38 hg39 H => ?_
 have hc40 := fn85 p14 (Gparser.mk rv3.1 p1_24 p2_25) a9 k10 ((Str.mk [102, 117, 110, 99])) pre pre pre rv38 hg39
 refine Oc [1, 2] ca85 hc40 ?_
 rintro - -
 refine KS ?_
 refine KcH H ?_ ?_
 ·intro h41 H
  refine KS ?_
  refine Oq (Vfa fo84_0 2) (Oq (VldF sh82 2) (Oq (Vlen sl82) (Oq Veql (KS ?_))))
  refine pF H hx34 fun h43 H => ?_
  refine KcF h43 ?_
  have g44 := ne_of_beq_false h43
  refine KS ?_
  refine Jp 2 fun hp45 => ?_
  refine JK_drawK [0, 1, 0, 4, 12, 31, 63, 127] fmix ?_
  refine Dv [0] (Vfa fo84_0 0) (Dv [3] (VldF sh82 0) (Dv [] Vm ?_))
  refine lbH H hx34 fun rv47 hg48 H => ?_
  refine Dx [1, 4] [1] [3, 0, 1, 2] (fun G => .agg #[.string (bs rv47.1.Name), (G.g 3 0)]) [fun G => SP.fact (rv47.1.Name.b.length ≤ 140737488355328 ∧ i64ok rv47.2.at_ ∧ i64ok rv47.2.Err), fun G => sl (G.g 3 0) rv47.1.Blocks, fun G => Cl p14 [vl a9 k10 rv3.1, vi rv47.2.at_, vi rv47.2.Err]] (fun G => xC [0, 0] ca87 (fn87 p14 (Gparser.mk rv3.1 p1_24 p2_25) a9 k10 pre pre rv47 hg48)) (Dx [] [] [0] (fun G => (G.g 4 0)) [fun G => Cr (G.g 4 0) 1 [.string (bs rv47.1.Name), (G.g 3 0)]] (fun G => xA (AsV sl82 sz82 [.agg #[.string (bs rv47.1.Name), (G.g 3 0)]] [.string (bs rv47.1.Name), (G.g 3 0)])) ?_)
  refine pC H hx34 fun hc50 H => ?_
  have hn52 := la out0_26 ([rv47.1] : List GFunc)
  refine Dx [2, 6, 7, 9] [2, 9] [2, 1, 0] (fun G => (G.g 5 0)) [fun G => os (G.g 5 0) ((out0_26 ++ [rv47.1]) : List GFunc)] (fun G => by refine xf 1 rfl ?_; rintro ⟨he53, he54, he55⟩; unfold i64ok at he54 he55; exact xp [3, 2] rfl (Ent.cr1 (α := GFunc) (A := [sl (G.g 3 0) rv47.1.Blocks]) _ rv47.1 _ aB1 (fun h => ⟨_, rfl, aS1, sepAll_get (i := 0) rfl h⟩)) (xA (ApO [2, 0] sl82 sl82 sz82))) (Dv [0] (Vfa fo84_0 0) (Dx0 [3, 10] [3] [1, 0] [fun G => Cl p15 [(G.g 5 0)]] (fun G => x1 1 rfl os_one fun ho56 => (xS (OpS.frame [0] rfl (OpS.storeClF [(G.g 5 0)] [(G.g 5 0)] rfl rfl rfl sh82 (cells_of_one ho56) rfl (by simp only [List.all_cons, List.all_nil, ho56, Bool.and_true, Bool.true_and] <;> rfl) aB1 rfl)))) ?_))
  refine Dn ⟨by kernel_rfl, fun G => ?_⟩
  refine Jw2 [(2, p1), (6, vl a9 k10 rv3.1), (10, p14), (11, p15)] [0, 4, 5] [SP.fact (rv47.1.Name.b.length ≤ 140737488355328 ∧ i64ok rv47.2.at_ ∧ i64ok rv47.2.Err), sl (G.g 3 0) rv47.1.Blocks, Cl p14 [vl a9 k10 rv3.1, vi rv47.2.at_, vi rv47.2.Err], os (G.g 5 0) ((out0_26 ++ [rv47.1]) : List GFunc), Cl p15 [(G.g 5 0)]] ?_
  generalize G.g 3 0 = c46, G.g 5 0 = c51
  refine Jf 3 rfl ?_; rintro ⟨he57, he58, he59⟩
  unfold i64ok at he58 he59
  refine Jk [1, 2, 3, 4, 4, 4] ?_
  refine Jo 2 ?_; rintro a60 k61 rfl
  refine Fb 40 2 fun _ => ?_
  refine Jo 4 ?_; rintro a63 k64 rfl
  refine Fb 40 4 fun _ => KS ?_
  exact Kg (r23, rv47.2.at_, rv47.2.Err, (out0_26 ++ [rv47.1]), a63, k64) [4, 3, 3, 0, 1] ⟨H, aM1, aM1⟩
 intro h41 H
 refine Ke ?_
 have H := llB H HL35
 dsimp only at H
 refine KS ?_
 refine Oq Vm (Oq (Vn 0) (Oq (Vfa fo121_2 0) (Oq (VldF sh33 0) (Oq Veql (Oq Vm ?_)))))
 refine pT H hx0 fun h67 H => ?_
 refine JsT 53 h67 ?_
 have g68 := eq_of_beq h67
 refine Oq Vm (Oq (Vn 0) (Oq (Vfa fo121_1 0) (Oq (VldF sh3 0) (Oq Vm (Oq (Vlen sl116) (Oq Vlss (Oq Vpt (KS ?_))))))))
 refine pF H hx0 fun h69 H => ?_
 refine KcF h69 ?_
 have g70 := df h69
 refine KS ?_
 refine Oq Vm (Oq (Vn 0) (Oq (Vfa fo121_2 0) (Oq (VldF sh33 0) (Oq Veql (KS ?_)))))
 refine Kc ?_ ?_
 ·intro h71
  have g72 := eq_of_beq h71
  refine KS ?_
  refine Oq (VldA sh84 2) (Ost (Scl [4] sh84 [vl a27 k28 out0_26]) (Oq Va (Oq Va (Oq Va (KS ?_)))))
  refine Jl [2] (Ent.freeze _ _) ?_
  have hq := rI H; subst hq
  exact Kr (vl a27 k28 out0_26) rfl (.cellN 1 rfl sh84 rfl (reads_Cl _ _) rfl (.tmp rfl (.tmp rfl (.tmp rfl .nil)))) [0] en
 intro h71
 exact absurd h71 (by first | (simp [h67]; done) | (simp only [bne, h67]; decide) | (simp only [bne, h67, Bool.not_true, Bool.not_false]; decide) | (exfalso; omega) | (intro hq; simp only [bne, hq, Bool.not_false, Bool.not_true, reduceCtorEq] at h67))
theorem fn29 (width : Int) (hwidth_0 : i64ok width) (hw0 : 0 ≤ width ∧ width ≤ 1000000) (rr : GSet) (hrr : r1_Empty width = rr) : FT Tryz.prog 29 #[vi width] [] (fun g : Value => i64ok rr.Width ∧ (rr.Width = width) ∧ (rr.Words.length = (((width : Int) + 63) / 64).toNat)) (fun g => .agg #[vi rr.Width, g]) (fun g => [os g rr.Words]) := by
 refine FTi Tryz.func29 fun w0 M0 F0 => ?_
 unfold i64ok at hwidth_0
 refine KS ?_
 refine Oa (Al ze42 [vi 0, .slice none 0 0]) fun p1 => KS ?_
 refine Oq Vm (Oq Vm (Oq Vadd (Oq Vquo (Oa (Amk (α := BitVec 64) sl40 sz40 0#64 (fun _ _ => rfl)) fun c2 => ?_))))
 refine Jo 0 ?_; rintro a3 k4 rfl
 refine Fb 8 0 fun _ => ?_
 have hn6 := List.length_replicate (n := (((width + 63) / 64) : Int).toNat) (a := (0#64 : BitVec 64))
 refine Oq (Vbd st42 [vi width, vl a3 k4 (List.replicate (((width + 63) / 64) : Int).toNat 0#64)]) (Ost (Scl [1] sh42 [vi width, vl a3 k4 (List.replicate (((width + 63) / 64) : Int).toNat 0#64)]) (KS ?_))
 have hq := q4 hrr (GSet.mk width (List.replicate (((width + 63) / 64) : Int).toNat 0#64)) (by simp only [r1_Empty, cs4]); subst hq
 exact Kr (vl a3 k4 (List.replicate (((width + 63) / 64) : Int).toNat 0#64)) rfl (.cellN 0 rfl sh42 rfl (reads_Cl _ _) rfl .nil) [1] en
theorem fn129 (l : List Str) (la0 : Option Addr) (lk0 : Nat) (s : Str) (hs_0 : s.b.length ≤ 140737488355328) (rr : Int) (hrr : r4_Place l s = .ret rr) : FT Tryz.prog 129 #[vl la0 lk0 l, .string (bs s)] [S la0 lk0 l] (fun g : Unit => i64ok rr) (fun g => vi rr) (fun g => []) := by
 refine FTi Tryz.func129 fun w0 M0 F0 => Fb 16 0 fun _ => ?_
 refine FoS 0 fun ho2 => ?_
 have hx0 := lrn rr; have H := hrr; unfold r4_Place at H
 refine KS ?_
 refine Oq Va (KS ?_)
 refine Oq Va (KS ?_)
 refine llH H hx0 fun X10 hX11 hx12 HL13 => ?_
 refine Kl (γ := Nat × Int) (fun (r3, i_4) => ⟨[(0, vl la0 lk0 l), (1, .string (bs s)), (5, vi i_4)], [S la0 lk0 l], r4_Place_L0 l s r3 i_4 = X10 ∧ r3 = ((l.length : Int) - i_4).toNat ∧ (0 : Int) ≤ i_4 ∧ i_4 ≤ (l.length : Int) ∧ (-9223372036854775808 ≤ i_4 ∧ i_4 ≤ 9223372036854775807), r3⟩) (((l.length : Int) - 0).toNat, 0) [0] ⟨hX11, rfl, aM1, aM1, aM1⟩ ?_
 rintro ⟨r3, i_4⟩ ⟨hM5, hr6, hi7, hi8, hk9⟩
 refine JJ_nx fun _ _ hL hA => ?_; dsimp only at hL hA; subst hL hA
 refine Fb 16 0 fun _ => ?_
 refine FoS 0 fun ho15 => ?_
 refine KS ?_
 refine Oq Vm (Oq Vm (Oq (Vlen sl138) (Oq Vlss (KS ?_))))
 refine Kc ?_ ?_
 ·intro h16
  have g17 := dt h16
  obtain ⟨r18, rfl⟩ := scc (n := r3) aM1
  have H := hM5; (try dsimp only at H); rw [r4_Place_L0] at H
  refine KS ?_
  refine Oq Vm (Oq Vm ?_)
  refine pC H hx12 fun hc19 H => ?_
  refine Oq (Vi sl138 0) ?_
  have hb20 := okS (i := i_4.toNat) ho15 rng
  refine Oq (VldS sh9 0) (Oq Vm (Oq (VeqS (l := (l.getD i_4.toNat default)) (m := s)) (KS ?_)))
  refine KcH H ?_ ?_
  ·intro h21 H
   have g22 := eq_of_beq h21
   refine KS ?_
   refine Oq Vm (Oq Va (KS ?_))
   have H := llR H HL13
   have hq := rI H; subst hq
   exact Kr () rfl (.tmp rfl .nil) [] en
  intro h21 H
  have g23 := ne_of_beq_false h21
  refine KS ?_
  refine Oq Vm (Oq Vadd (Oq Va (KS ?_)))
  refine pC H hx12 fun hc24 H => ?_
  exact Kg (r18, (i_4 + 1)) [0] ⟨H, aM1, aM1, aM1, aM1⟩
 intro h16
 have g25 := df h16
 obtain rfl : r3 = 0 := by omega
 have H := hM5; (try dsimp only at H); rw [r4_Place_L0] at H
 refine Ke ?_
 have H := llB H HL13
 refine KS ?_
 refine Oq Va (KS ?_)
 have hq := rI H; subst hq
 exact Kr () rfl (.tmp rfl .nil) [] en
theorem fn183 (l : List Str) (la0 : Option Addr) (lk0 : Nat) (a : Int) (b : Int) (ha_0 : i64ok a) (hb_0 : i64ok b) (rr : Bool) (hrr : r4_namesOK l a b = .ret rr) : FT Tryz.prog 183 #[vl la0 lk0 l, vi a, vi b] [S la0 lk0 l] (fun g : Unit => True) (fun g => vb rr) (fun g => []) := by
 refine FTi Tryz.func183 fun w0 M0 F0 => ?_
 unfold i64ok at ha_0 hb_0
 refine Fb 16 0 fun _ => ?_
 refine FoS 0 fun ho2 => ?_
 have hx0 := lrn rr; have H := hrr; unfold r4_namesOK at H
 refine KS ?_
 refine Oq Va (KS ?_)
 refine Oq Va (KS ?_)
 refine llH H hx0 fun X10 hX11 hx12 HL13 => ?_
 refine Kl (γ := Nat × Int) (fun (r3, i_4) => ⟨[(0, vl la0 lk0 l), (1, vi a), (2, vi b), (7, vi i_4)], [S la0 lk0 l], r4_namesOK_L0 l r3 i_4 = X10 ∧ r3 = ((l.length : Int) - i_4).toNat ∧ (0 : Int) ≤ i_4 ∧ i_4 ≤ (l.length : Int) ∧ (-9223372036854775808 ≤ i_4 ∧ i_4 ≤ 9223372036854775807), r3⟩) (((l.length : Int) - 0).toNat, 0) [0] ⟨hX11, rfl, aM1, aM1, aM1⟩ ?_
 rintro ⟨r3, i_4⟩ ⟨hM5, hr6, hi7, hi8, hk9⟩
 refine JJ_nx fun _ _ hL hA => ?_; dsimp only at hL hA; subst hL hA
 refine Fb 16 0 fun _ => ?_
 refine FoS 0 fun ho15 => ?_
 refine KS ?_
 refine Oq Vm (Oq Vm (Oq (Vlen sl138) (Oq Vlss (KS ?_))))
 refine Kc ?_ ?_
 ·intro h16
  have g17 := dt h16
  obtain ⟨r18, rfl⟩ := scc (n := r3) aM1
  have H := hM5; (try dsimp only at H); rw [r4_namesOK_L0] at H
  refine KS ?_
  refine Oq Vm (Oq Vm ?_)
  refine pC H hx12 fun hc19 H => ?_
  refine Oq (Vi sl138 0) ?_
  have hb20 := okS (i := i_4.toNat) ho15 rng
  refine Oq (VldS sh9 0) ?_
  refine lbH H hx12 fun rv21 hg22 H => ?_
  have hc23 := fn176 ((l.getD i_4.toNat default)) pre rv21 hg22
  refine Oc [] ca176 hc23 ?_
  rintro - -
  refine Oq Vnot (KS ?_)
  refine pF H hx12 fun h24 H => ?_
  refine KcF h24 ?_
  have h26 := not_false h24
  refine KS ?_
  refine Oq Vm (Oq Vadd (Oq Va (KS ?_)))
  refine pC H hx12 fun hc28 H => ?_
  exact Kg (r18, (i_4 + 1)) [0] ⟨H, aM1, aM1, aM1, aM1⟩
 intro h16
 have g29 := df h16
 obtain rfl : r3 = 0 := by omega
 have H := hM5; (try dsimp only at H); rw [r4_namesOK_L0] at H
 refine Ke ?_
 have H := llB H HL13
 refine KS ?_
 refine Oq Vm (Oq (Vlen sl138) (Oq Vm (Oq Vgeq (Oq Vm ?_))))
 refine pT H hx0 fun h30 H => ?_
 refine JsT 24 h30 ?_
 have g31 := dt h30
 refine Oq Vm (Oq (Vlen sl138) (Oq Vm (Oq Vleq (Oq Vpt (Oq Va (KS ?_))))))
 have hq := rI H; subst hq
 exact Kr () rfl (.tmp rfl .nil) [] trivial
theorem fn179 (s : GStmt) (sa2 : Option Addr) (sk2 : Nat) (sa3 : Option Addr) (sk3 : Nat) (hs_0 : i64ok s.Op) (hs_1 : s.Def.b.length ≤ 140737488355328) (rr : Bool) (hrr : r4_stmtOK s = .ret rr) : FT Tryz.prog 179 #[.agg #[vi s.Op, .string (bs s.Def), vl sa2 sk2 s.Uses, vl sa3 sk3 s.Targets]] [S sa2 sk2 s.Uses, S sa3 sk3 s.Targets] (fun g : Unit => True) (fun g => vb rr) (fun g => []) := by
 refine FTi Tryz.func179 fun w0 M0 F0 => ?_
 unfold i64ok at hs_0
 refine Fb 16 0 fun _ => ?_
 refine FoS 0 fun ho2 => ?_
 refine Fb 16 1 fun _ => ?_
 refine FoS 1 fun ho4 => ?_
 have hx0 := lrn rr; have H := hrr; unfold r4_stmtOK at H
 refine KS ?_
 refine Oa (Ab [vi s.Op, .string (bs s.Def), vl sa2 sk2 s.Uses, vl sa3 sk3 s.Targets]) fun p5 => Oq Va (KS ?_)
 refine Oq (Vfa fo140_1 0) (Oq (VldF sh9 0) ?_)
 refine lbH H hx0 fun rv6 hg7 H => ?_
 have hc8 := fn176 s.Def pre rv6 hg7
 refine Oc [] ca176 hc8 ?_
 rintro - -
 refine Oq Va (KS ?_)
 refine Kq [0, 1, 3, 0, 8, 24, 7, 127] fmix ?_
 refine Qv [0] (Vfa fo140_2 0) (Qv [0] (VldF sh138 0) (Qv [] (Vlen sl138) (Qv [0] (Vfa fo140_3 0) (Qv [0] (VldF sh138 0) (Qv [] (Vlen sl138) (Qv [] Va (Qv [] Va ?_)))))))
 refine Qn ⟨by kernel_rfl, ?_⟩
 refine KS ?_
 refine Oq (Vfa fo140_2 0) (Oq (VldF sh138 0) ?_)
 refine lbH H hx0 fun rv9 hg10 H => ?_
 have hc11 := fn183 s.Uses sa2 sk2 0 4 pre pre rv9 hg10
 refine Oc [1] ca183 hc11 ?_
 rintro - -
 refine Oq Vnot (Oq Vm ?_)
 refine pF H hx0 fun h12 H => ?_
 refine JsF 19 h12 ?_
 have h14 := not_false h12
 refine Oq (Vfa fo140_3 0) (Oq (VldF sh138 0) ?_)
 refine lbH H hx0 fun rv16 hg17 H => ?_
 have hc18 := fn183 s.Targets sa3 sk3 0 2 pre pre rv16 hg17
 refine Oc [2] ca183 hc18 ?_
 rintro - -
 refine Oq Vnot (Oq Vpf (KS ?_))
 refine pF H hx0 fun h19 H => ?_
 refine KcF h19 ?_
 have h21 := not_false h19
 refine KS ?_
 refine Oq (Vfa fo140_0 0) (Oq (VldF sh3 0) (KS ?_))
 refine Oq Veql (Oq Va (KS ?_))
 refine KcH H ?_ ?_
 ·intro h23 H
  have g24 := eq_of_beq h23
  refine KS ?_
  refine Oq Vm (Oq Vm ?_)
  refine pT H hx0 fun h25 H => ?_
  refine JsT 30 h25 ?_
  refine Oq Vm (Oq Veql (Oq Vpt (Oq Va (KS ?_))))
  have hq := rI H; subst hq
  exact Kr () rfl (.tmp rfl .nil) [] trivial
 intro h23 H
 have g27 := ne_of_beq_false h23
 refine KS ?_
 refine Oq Veql (Oq Va (KS ?_))
 refine KcH H ?_ ?_
 ·intro h28 H
  have g29 := eq_of_beq h28
  refine KS ?_
  refine Oq (Vfa fo140_1 0) (Oq (VldF sh9 0) (Oq (VeqS (l := s.Def) (m := (Str.mk []))) (Oq Vm ?_)))
  refine pT H hx0 fun h30 H => ?_
  refine JsT 39 h30 ?_
  have g31 := eq_of_beq h30
  refine Oq Vm (Oq Vgeq (Oq Vpt (Oq Vm ?_)))
  refine pT H hx0 fun h32 H => ?_
  refine JsT 43 h32 ?_
  have g33 := dt h32
  refine Oq Vm (Oq Veql (Oq Vpt (Oq Va (KS ?_))))
  have hq := rI H; subst hq
  exact Kr () rfl (.tmp rfl .nil) [] trivial
 intro h28 H
 have g34 := ne_of_beq_false h28
 refine KS ?_
 refine Oq Veql (Oq Va (KS ?_))
 refine pF H hx0 fun h35 H => ?_
 refine KcF h35 ?_
 have g36 := ne_of_beq_false h35
 refine KS ?_
 refine Oq Veql (Oq Va (KS ?_))
 refine pF H hx0 fun h37 H => ?_
 refine KcF h37 ?_
 have g38 := ne_of_beq_false h37
 refine KS ?_
 refine Oq Veql (Oq Va (KS ?_))
 refine pF H hx0 fun h39 H => ?_
 refine KcF h39 ?_
 have g40 := ne_of_beq_false h39
 refine KS ?_
 refine Oq Veql (Oq Va (KS ?_))
 refine pF H hx0 fun h41 H => ?_
 refine KcF h41 ?_
 have g42 := ne_of_beq_false h41
 refine KS ?_
 refine Oq Veql (Oq Va (KS ?_))
 refine pF H hx0 fun h43 H => ?_
 refine KcF h43 ?_
 have g44 := ne_of_beq_false h43
 refine KS ?_
 refine Oq Veql (Oq Va (KS ?_))
 refine pF H hx0 fun h45 H => ?_
 refine KcF h45 ?_
 have g46 := ne_of_beq_false h45
 refine KS ?_
 refine Oq Veql (Oq Va (KS ?_))
 refine pT H hx0 fun h47 H => ?_
 refine KcT h47 ?_
 have g48 := eq_of_beq h47
 refine KS ?_
 refine Oq (Vfa fo140_1 0) (Oq (VldF sh9 0) (Oq (VeqS (l := s.Def) (m := (Str.mk []))) (Oq Vm ?_)))
 refine pT H hx0 fun h49 H => ?_
 refine JsT 104 h49 ?_
 have g50 := eq_of_beq h49
 refine Oq Vm (Oq Veql (Oq Vpt (Oq Vm ?_)))
 refine pT H hx0 fun h51 H => ?_
 refine JsT 108 h51 ?_
 have g52 := eq_of_beq h51
 refine Oq Vm (Oq Veql (Oq Vpt (Oq Va (KS ?_))))
 have hq := rI H; subst hq
 exact Kr () rfl (.tmp rfl .nil) [] trivial
theorem fn158 (p : GProgram) (pa0 : Option Addr) (pk0 : Nat) (rr : Bool) (hrr : r4_Valid p = .ret rr) : FT Tryz.prog 158 #[.agg #[vl pa0 pk0 p.Funcs]] [S pa0 pk0 p.Funcs] (fun g : Unit => True) (fun g => vb rr) (fun g => []) := by
 refine FTi Tryz.func158 fun w0 M0 F0 => Fb 40 0 fun _ => ?_
 have hx0 := lrn rr; have H := hrr; unfold r4_Valid at H
 refine KS ?_
 refine Oa (Ab [vl pa0 pk0 p.Funcs]) fun p2 => Oq Va (KS ?_)
 refine Oq (Vfa fo84_0 0) (Oq (VldF sh82 0) (Oq (Vlen sl82) (Oq Vlss (Oq Vm ?_))))
 refine pF H hx0 fun h3 H => ?_
 refine JsF 12 h3 ?_
 have g4 := df h3
 refine Oq (Vfa fo84_0 0) (Oq (VldF sh82 0) (Oq (Vlen sl82) (Oq Vgtr (Oq Vpf (KS ?_)))))
 refine pF H hx0 fun h5 H => ?_
 refine KcF h5 ?_
 have g6 := df h5
 refine KS ?_
 refine Oq Va (KS ?_)
 refine llH H hx0 fun X14 hX15 hx16 HL17 => ?_
 refine Kl (γ := Nat × Int) (fun (r7, i_8) => ⟨[(1, p2), (3, vi i_8)], [pv p2 [vl pa0 pk0 p.Funcs], S pa0 pk0 p.Funcs], r4_Valid_L0 p r7 i_8 = X14 ∧ r7 = ((p.Funcs.length : Int) - i_8).toNat ∧ (0 : Int) ≤ i_8 ∧ i_8 ≤ (p.Funcs.length : Int) ∧ (-9223372036854775808 ≤ i_8 ∧ i_8 ≤ 9223372036854775807), r7⟩) (((p.Funcs.length : Int) - 0).toNat, 0) [0, 1] ⟨hX15, rfl, aM1, aM1, aM1⟩ ?_
 rintro ⟨r7, i_8⟩ ⟨hM9, hr10, hi11, hi12, hk13⟩
 refine JJ_nx fun _ _ hL hA => ?_; dsimp only at hL hA; subst hL hA
 refine Fb 40 1 fun _ => KS ?_
 refine Oq Vm (Oq (Vfa fo84_0 0) (Oq (VldF sh82 0) (Oq (Vlen sl82) (Oq Vlss (KS ?_)))))
 refine Kc ?_ ?_
 ·intro h19
  have g20 := dt h19
  obtain ⟨r21, rfl⟩ := scc (n := r7) aM1
  have H := hM9; (try dsimp only at H); rw [r4_Valid_L0] at H
  refine KS ?_
  refine Oq (Vfa fo84_0 0) (Oq (VldF sh82 0) (Oq Vm ?_))
  refine pC H hx16 fun hc22 H => ?_
  refine Oq (Vi sl82 1) ?_
  refine JJ_peek_GFunc i_8.toNat 1 rfl rng fun a23 k24 hb25 => ?_
  refine Fb 40 1 fun _ => ?_
  refine Oq (VldA sh126 0) (Oa (Al ze126 [.string (bs (Str.mk [])), .slice none 0 0]) fun p27 => Ost (Scl [0] sh126 [.string (bs ((p.Funcs.getD i_8.toNat default).Name)), vl a23 k24 ((p.Funcs.getD i_8.toNat default).Blocks)]) (KS ?_))
  refine Oq (Vfa fo126_0 0) (Oq (VldF sh9 0) ?_)
  refine pC H hx16 fun hc30 H => ?_
  refine lbH H hx16 fun rv28 hg29 H => ?_
  have hc31 := fn176 ((p.Funcs.getD i_8.toNat default).Name) pre rv28 hg29
  refine Oc [] ca176 hc31 ?_
  rintro - -
  refine Oq Vnot (Oq Vm ?_)
  refine pF H hx16 fun h32 H => ?_
  refine JsF 34 h32 ?_
  have h34 := not_false h32
  refine Oq (Vfa fo126_1 0) (Oq (VldF sh124 0) (Oq (Vlen sl124) (Oq Vlss (Oq Vpf (Oq Vm ?_)))))
  refine pF H hx16 fun h36 H => ?_
  refine JsF 40 h36 ?_
  have g37 := df h36
  refine Oq (Vfa fo126_1 0) (Oq (VldF sh124 0) (Oq (Vlen sl124) (Oq Vgtr (Oq Vpf (KS ?_)))))
  refine pF H hx16 fun h38 H => ?_
  refine KcF h38 ?_
  have g39 := df h38
  refine KS ?_
  refine Oq Va (KS ?_)
  refine llH H hx16 fun X47 hX48 hx49 HL50 => ?_
  refine Kl (γ := Nat × Int) (fun (r40, k_41) => ⟨[(1, p2), (3, vi i_8), (4, p27), (5, vi k_41)], [Cl p27 [.string (bs ((p.Funcs.getD i_8.toNat default).Name)), vl a23 k24 ((p.Funcs.getD i_8.toNat default).Blocks)], S a23 k24 ((p.Funcs.getD i_8.toNat default).Blocks), pv p2 [vl pa0 pk0 p.Funcs], S pa0 pk0 p.Funcs], r4_Valid_L1 ((p.Funcs.getD i_8.toNat default).Blocks) r40 k_41 = X47 ∧ r40 = (((((p.Funcs.getD i_8.toNat default).Blocks).length : Int) : Int) - k_41).toNat ∧ (0 : Int) ≤ k_41 ∧ (k_41 ≤ (((p.Funcs.getD i_8.toNat default).Blocks).length : Int) ∨ k_41 = 0) ∧ (-9223372036854775808 ≤ k_41 ∧ k_41 ≤ 9223372036854775807), r40⟩) ((((((p.Funcs.getD i_8.toNat default).Blocks).length : Int) : Int) - 0).toNat, 0) [0, 1, 2, 3] ⟨hX48, rfl, aM1, (.inr rfl), aM1⟩ ?_
  rintro ⟨r40, k_41⟩ ⟨hM42, hr43, hi44, hi45, hk46⟩
  refine JJ_nx fun _ _ hL hA => ?_; dsimp only at hL hA; subst hL hA
  refine Fb 40 1 fun _ => Fb 40 3 fun _ => KS ?_
  refine Oq Vm (Oq (Vfa fo126_1 0) (Oq (VldF sh124 0) (Oq (Vlen sl124) (Oq Vlss (KS ?_)))))
  refine Kc ?_ ?_
  ·intro h53
   have g54 := dt h53
   obtain ⟨r55, rfl⟩ := scc (n := r40) aM1
   have H := hM42; (try dsimp only at H); rw [r4_Valid_L1] at H
   refine KS ?_
   refine Oq (Vfa fo126_1 0) (Oq (VldF sh124 0) (Oq Vm ?_))
   refine pC H hx49 fun hc56 H => ?_
   refine Oq (Vi sl124 1) ?_
   refine JJ_peek_GBlock k_41.toNat 1 rfl rng fun a57 k58 hb59 => ?_
   refine Fb 72 1 fun _ => ?_
   refine Oq (VldA sh168 0) (Oa (Al ze168 [.string (bs (Str.mk [])), .slice none 0 0]) fun p61 => Ost (Scl [0] sh168 [.string (bs ((((p.Funcs.getD i_8.toNat default).Blocks).getD k_41.toNat default).Name)), .slice a57 (((((p.Funcs.getD i_8.toNat default).Blocks).getD k_41.toNat default).Stmts).length) k58]) (KS ?_))
   refine Oq (Vfa fo168_0 0) (Oq (VldF sh9 0) ?_)
   refine pC H hx49 fun hc64 H => ?_
   refine lbH H hx49 fun rv62 hg63 H => ?_
   have hc65 := fn176 ((((p.Funcs.getD i_8.toNat default).Blocks).getD k_41.toNat default).Name) pre rv62 hg63
   refine Oc [] ca176 hc65 ?_
   rintro - -
   refine Oq Vnot (Oq Vm ?_)
   refine pF H hx49 fun h66 H => ?_
   refine JsF 62 h66 ?_
   have h68 := not_false h66
   refine Oq (Vfa fo168_1 0) (Oq (VldF sh166 0) (Oq (Vlen sl166) (Oq Vlss (Oq Vpf (Oq Vm ?_)))))
   refine pF H hx49 fun h70 H => ?_
   refine JsF 68 h70 ?_
   have g71 := df h70
   refine Oq (Vfa fo168_1 0) (Oq (VldF sh166 0) (Oq (Vlen sl166) (Oq Vgtr (Oq Vpf (KS ?_)))))
   refine pF H hx49 fun h72 H => ?_
   refine KcF h72 ?_
   have g73 := df h72
   refine KS ?_
   refine Oq Va (KS ?_)
   refine llH H hx49 fun X81 hX82 hx83 HL84 => ?_
   refine Kl (γ := Nat × Int) (fun (r74, j_75) => ⟨[(1, p2), (3, vi i_8), (4, p27), (5, vi k_41), (6, p61), (7, vi j_75)], [Cl p61 [.string (bs ((((p.Funcs.getD i_8.toNat default).Blocks).getD k_41.toNat default).Name)), .slice a57 (((((p.Funcs.getD i_8.toNat default).Blocks).getD k_41.toNat default).Stmts).length) k58], S a57 k58 ((((p.Funcs.getD i_8.toNat default).Blocks).getD k_41.toNat default).Stmts), Cl p27 [.string (bs ((p.Funcs.getD i_8.toNat default).Name)), vl a23 k24 ((p.Funcs.getD i_8.toNat default).Blocks)], S a23 k24 ((p.Funcs.getD i_8.toNat default).Blocks), pv p2 [vl pa0 pk0 p.Funcs], S pa0 pk0 p.Funcs], r4_Valid_L2 ((((p.Funcs.getD i_8.toNat default).Blocks).getD k_41.toNat default).Stmts) r74 j_75 = X81 ∧ r74 = (((((((p.Funcs.getD i_8.toNat default).Blocks).getD k_41.toNat default).Stmts).length : Int) : Int) - j_75).toNat ∧ (0 : Int) ≤ j_75 ∧ (j_75 ≤ (((((p.Funcs.getD i_8.toNat default).Blocks).getD k_41.toNat default).Stmts).length : Int) ∨ j_75 = 0) ∧ (-9223372036854775808 ≤ j_75 ∧ j_75 ≤ 9223372036854775807), r74⟩) ((((((((p.Funcs.getD i_8.toNat default).Blocks).getD k_41.toNat default).Stmts).length : Int) : Int) - 0).toNat, 0) [0, 1, 2, 2, 3, 4] ⟨hX82, rfl, aM1, (.inr rfl), aM1⟩ ?_
   rintro ⟨r74, j_75⟩ ⟨hM76, hr77, hi78, hi79, hk80⟩
   refine JJ_nx fun _ _ hL hA => ?_; dsimp only at hL hA; subst hL hA
   refine Fb 72 1 fun _ => Fb 40 3 fun _ => Fb 40 5 fun _ => KS ?_
   refine Oq Vm (Oq (Vfa fo168_1 0) (Oq (VldF sh166 0) (Oq (Vlen sl166) (Oq Vlss (KS ?_)))))
   refine Kc ?_ ?_
   ·intro h88
    have g89 := dt h88
    obtain ⟨r90, rfl⟩ := scc (n := r74) aM1
    have H := hM76; (try dsimp only at H); rw [r4_Valid_L2] at H
    refine KS ?_
    refine Oq (Vfa fo168_1 0) (Oq (VldF sh166 0) (Oq Vm ?_))
    refine pC H hx83 fun hc91 H => ?_
    refine Oq (Vi sl166 1) ?_
    refine JJ_peek_GStmt j_75.toNat 1 rfl rng fun a92 k93 a94 k95 hb96 hb97 => ?_
    unfold i64ok at hb96
    refine Fb 16 1 fun _ => ?_
    refine FoS 1 fun ho99 => ?_
    refine Fb 16 2 fun _ => ?_
    refine FoS 2 fun ho101 => ?_
    refine Oq (VldA sh140 0) ?_
    refine pC H hx83 fun hc104 H => ?_
    refine lbH H hx83 fun rv102 hg103 H => ?_
    have hc105 := fn179 ((((((p.Funcs.getD i_8.toNat default).Blocks).getD k_41.toNat default).Stmts).getD j_75.toNat default)) a92 k93 a94 k95 pre pre rv102 hg103
    refine Oc [1, 2] ca179 hc105 ?_
    rintro - -
    refine Oq Vnot (KS ?_)
    refine pF H hx83 fun h106 H => ?_
    refine KcF h106 ?_
    have h108 := not_false h106
    refine KS ?_
    refine Oq Vm (Oq Vadd (Oq Va (KS ?_)))
    refine pC H hx83 fun hc110 H => ?_
    exact Kg (r90, (j_75 + 1)) [3, 3, 4, 4, 5, 6] ⟨H, aM1, aM1, aM1, aM1⟩
   intro h88
   have g111 := df h88
   obtain rfl : r74 = 0 := by omega
   have H := hM76; (try dsimp only at H); rw [r4_Valid_L2] at H
   refine Ke ?_
   have H := llB H HL84
   refine KS ?_
   refine Oq Vm (Oq Vadd (Oq Va (KS ?_)))
   refine pC H hx49 fun hc112 H => ?_
   exact Kg (r55, (k_41 + 1)) [2, 2, 3, 4] ⟨H, aM1, aM1, aM1, aM1⟩
  intro h53
  have g113 := df h53
  obtain rfl : r40 = 0 := by omega
  have H := hM42; (try dsimp only at H); rw [r4_Valid_L1] at H
  refine Ke ?_
  have H := llB H HL50
  refine KS ?_
  refine Oq Vm (Oq Vadd (Oq Va (KS ?_)))
  refine pC H hx16 fun hc114 H => ?_
  exact Kg (r21, (i_8 + 1)) [2, 3] ⟨H, aM1, aM1, aM1, aM1⟩
 intro h19
 have g115 := df h19
 obtain rfl : r7 = 0 := by omega
 have H := hM9; (try dsimp only at H); rw [r4_Valid_L0] at H
 refine Ke ?_
 have H := llB H HL17
 refine KS ?_
 refine Oq Va (KS ?_)
 have hq := rI H; subst hq
 exact Kr () rfl (.tmp rfl .nil) [] trivial
theorem fn126 (p : GProgram) (pa0 : Option Addr) (pk0 : Nat) (rr : List Str) (hrr : r4_Variables p = .ret rr) : FT Tryz.prog 126 #[.agg #[vl pa0 pk0 p.Funcs]] [S pa0 pk0 p.Funcs] (fun g : Value => True) (fun g => g) (fun g => [sl g rr]) := by
 refine FTi Tryz.func126 fun w0 M0 F0 => Fb 40 0 fun _ => ?_
 have hx0 := lrn rr; have H := hrr; unfold r4_Variables at H
 refine KS ?_
 refine Oa (Ab [vl pa0 pk0 p.Funcs]) fun p2 => Oq Va (KS ?_)
 refine Oq Va (KS ?_)
 refine Oq (VldA sh84 0) ?_
 refine lbH H hx0 fun rv3 hg4 H => ?_
 have hc5 := fn158 p pa0 pk0 rv3 hg4
 refine Oc [1] ca158 hc5 ?_
 rintro - -
 refine Oq Vnot (KS ?_)
 refine pF H hx0 fun h6 H => ?_
 refine KcF h6 ?_
 have h8 := not_false h6
 refine KS ?_
 refine Oq Va (KS ?_)
 refine Jl [] (Ent.osNil (α := Str)) ?_
 refine llH H hx0 fun X20 hX21 hx22 HL23 => ?_
 refine Kl (γ := Nat × List Str × Int × Option Addr × Nat) (fun (r10, out_11, i_12, a13, k14) => ⟨[(1, p2), (3, vl a13 k14 out_11), (4, vi i_12)], [O a13 k14 out_11, pv p2 [vl pa0 pk0 p.Funcs], S pa0 pk0 p.Funcs], r4_Variables_L0 p r10 out_11 i_12 = X20 ∧ r10 = ((p.Funcs.length : Int) - i_12).toNat ∧ (0 : Int) ≤ i_12 ∧ i_12 ≤ (p.Funcs.length : Int) ∧ (-9223372036854775808 ≤ i_12 ∧ i_12 ≤ 9223372036854775807), r10⟩) (((p.Funcs.length : Int) - 0).toNat, [], 0, none, 0) [0, 0, 1] ⟨hX21, rfl, aM1, aM1, aM1⟩ ?_
 rintro ⟨r10, out_11, i_12, a13, k14⟩ ⟨hM15, hr16, hi17, hi18, hk19⟩
 refine JJ_nx fun _ _ hL hA => ?_; dsimp only at hL hA; subst hL hA
 refine Fb 16 0 fun _ => ?_
 refine FoS 0 fun ho25 => ?_
 refine Fb 40 2 fun _ => KS ?_
 refine Oq Vm (Oq (Vfa fo84_0 1) (Oq (VldF sh82 1) (Oq (Vlen sl82) (Oq Vlss (KS ?_)))))
 refine Kc ?_ ?_
 ·intro h27
  have g28 := dt h27
  obtain ⟨r29, rfl⟩ := scc (n := r10) aM1
  have H := hM15; (try dsimp only at H); rw [r4_Variables_L0] at H
  refine KS ?_
  refine Oq Va (KS ?_)
  refine llH H hx22 fun X37 hX38 hx39 HL40 => ?_
  refine Kl (γ := Nat × List Str × Int × Option Addr × Nat) (fun (r30, out_31, k_32, a33, k34) => ⟨[(1, p2), (3, vl a33 k34 out_31), (4, vi i_12), (5, vi k_32)], [O a33 k34 out_31, pv p2 [vl pa0 pk0 p.Funcs], S pa0 pk0 p.Funcs], r4_Variables_L1 p i_12 r30 out_31 k_32 = X37 ∧ (-9223372036854775808 ≤ k_32 ∧ k_32 ≤ 9223372036854775807), r30⟩) (100000, out_11, 0, a13, k14) [0, 0, 1] ⟨hX38, aM1⟩ ?_
  rintro ⟨r30, out_31, k_32, a33, k34⟩ ⟨hM35, hk36⟩
  refine JJ_nx fun _ _ hL hA => ?_; dsimp only at hL hA; subst hL hA
  refine Fb 16 0 fun _ => ?_
  refine FoS 0 fun ho42 => ?_
  refine Fb 40 2 fun _ => ?_
  rcases r30 with _ | r30
  ·exact absurd (hM35.symm.trans rfl) hx39
  have H := hM35; (try dsimp only at H); rw [r4_Variables_L1] at H
  refine KS ?_
  refine Oq Vm (Oq (Vfa fo84_0 1) (Oq (VldF sh82 1) (Oq Vm ?_)))
  refine pC H hx39 fun hc44 H => ?_
  refine Oq (Vi sl82 2) ?_
  refine JJ_peek_GFunc i_12.toNat 2 rfl rng fun a45 k46 hb47 => ?_
  refine Fb 40 1 fun _ => ?_
  refine Oq (Vfa fo126_1 0) (Oq (VldF sh124 0) (Oq (Vlen sl124) (Oq Vlss (KS ?_))))
  refine pC H hx39 fun hc50 H => ?_
  refine KcH H ?_ ?_
  ·intro h49 H
   have g51 := dt h49
   refine KS ?_
   refine Oq (Vfa fo84_0 3) (Oq (VldF sh82 3) (Oq Vm (Oq (Vi sl82 4) (Oq (Vfa fo126_1 0) (Oq (VldF sh124 0) (Oq Vm ?_))))))
   refine pC H hx39 fun hc52 H => ?_
   refine pC H hx39 fun hc53 H => ?_
   refine Oq (Vi sl124 1) ?_
   refine JJ_peek_GBlock k_32.toNat 1 rfl rng fun a54 k55 hb56 => ?_
   refine Fb 72 1 fun _ => ?_
   refine Oq (Vfa fo168_1 0) (Oq (VldF sh166 0) (Oq Va (KS ?_)))
   refine Oq Va (KS ?_)
   refine pC H hx39 fun hc68 H => ?_
   refine llH H hx39 fun X69 hX70 hx71 HL72 => ?_
   refine Kl (γ := Nat × List Str × Int × Option Addr × Nat) (fun (r58, out_59, j_60, a61, k62) => ⟨[(1, p2), (3, vl a61 k62 out_59), (4, vi i_12), (5, vi k_32), (6, .slice a54 (((((p.Funcs.getD i_12.toNat default).Blocks).getD k_32.toNat default).Stmts).length) k55), (7, vi j_60)], [O a61 k62 out_59, S a54 k55 ((((p.Funcs.getD i_12.toNat default).Blocks).getD k_32.toNat default).Stmts), pv p2 [vl pa0 pk0 p.Funcs], S pa0 pk0 p.Funcs], r4_Variables_L2 ((((p.Funcs.getD i_12.toNat default).Blocks).getD k_32.toNat default).Stmts) r58 out_59 j_60 = X69 ∧ r58 = (((((((p.Funcs.getD i_12.toNat default).Blocks).getD k_32.toNat default).Stmts).length : Int) : Int) - j_60).toNat ∧ (0 : Int) ≤ j_60 ∧ (j_60 ≤ (((((p.Funcs.getD i_12.toNat default).Blocks).getD k_32.toNat default).Stmts).length : Int) ∨ j_60 = 0) ∧ (-9223372036854775808 ≤ j_60 ∧ j_60 ≤ 9223372036854775807), r58⟩) ((((((((p.Funcs.getD i_12.toNat default).Blocks).getD k_32.toNat default).Stmts).length : Int) : Int) - 0).toNat, out_31, 0, a33, k34) [4, 1, 4, 5] ⟨hX70, rfl, aM1, (.inr rfl), aM1⟩ ?_
   rintro ⟨r58, out_59, j_60, a61, k62⟩ ⟨hM63, hr64, hi65, hi66, hk67⟩
   refine JJ_nx fun _ _ hL hA => ?_; dsimp only at hL hA; subst hL hA
   refine Fb 16 0 fun _ => ?_
   refine FoS 0 fun ho74 => ?_
   refine Fb 72 1 fun _ => Fb 40 3 fun _ => KS ?_
   refine Oq Vm (Oq Vm (Oq (Vlen sl166) (Oq Vlss (KS ?_))))
   refine Kc ?_ ?_
   ·intro h77
    have g78 := dt h77
    obtain ⟨r79, rfl⟩ := scc (n := r58) aM1
    have H := hM63; (try dsimp only at H); rw [r4_Variables_L2] at H
    refine KS ?_
    refine Oq Vm (Oq Vm ?_)
    refine pC H hx71 fun hc80 H => ?_
    refine Oq (Vi sl166 1) ?_
    refine JJ_peek_GStmt j_60.toNat 1 rfl rng fun a81 k82 a83 k84 hb85 hb86 => ?_
    unfold i64ok at hb85
    refine Fb 16 1 fun _ => ?_
    refine FoS 1 fun ho88 => ?_
    refine Fb 16 2 fun _ => ?_
    refine FoS 2 fun ho90 => ?_
    refine Oq (Vfa fo140_2 0) (Oq (VldF sh138 0) (Oq Va (KS ?_)))
    refine Oq Vm (Oq Vm (Oq (Vi sl166 4) (Oq (Vfa fo140_1 0) (Oq (VldF sh9 0) (Oq (VneS (l := (((((p.Funcs.getD i_12.toNat default).Blocks).getD k_32.toNat default).Stmts).getD j_60.toNat default).Def) (m := (Str.mk []))) (KS ?_))))))
    refine pC H hx71 fun hc92 H => ?_
    refine pC H hx71 fun hc93 H => ?_
    refine KcH H ?_ ?_
    ·intro h91 H
     have g94 := ne_of_bne h91
     refine JK_drawK [0, 0, 3, 7, 15, 31, 0, 0, 192, 448, 960, 2047, 4095] fmix ?_
     refine Dv [] Vm (Dv [] Vm (Dv [4] (Vi sl166 0) (Dv [0] (Vfa fo140_1 0) (Dv [0] (VldF sh9 0) (Dx [] [] [0] (fun G => (G.g 5 0)) [fun G => Cr (G.g 5 0) 1 [.string (bs ((((((p.Funcs.getD i_12.toNat default).Blocks).getD k_32.toNat default).Stmts).getD j_60.toNat default).Def))]] (fun G => xA (AsV sl138 sz138 [.string (bs ((((((p.Funcs.getD i_12.toNat default).Blocks).getD k_32.toNat default).Stmts).getD j_60.toNat default).Def))] [.string (bs ((((((p.Funcs.getD i_12.toNat default).Blocks).getD k_32.toNat default).Stmts).getD j_60.toNat default).Def))])) (Dv [] Vm (Dv [] Vm (Dv [4] (Vi sl166 0) (Dv [0] (Vfa fo140_2 0) ?_)))))))))
     refine Dv [0] (VldF sh138 0) ?_
     refine pC H hx71 fun hc96 H => ?_
     refine pC H hx71 fun hc97 H => ?_
     refine pC H hx71 fun hc98 H => ?_
     have hn100 : ([(((((p.Funcs.getD i_12.toNat default).Blocks).getD k_32.toNat default).Stmts).getD j_60.toNat default).Def] ++ (((((p.Funcs.getD i_12.toNat default).Blocks).getD k_32.toNat default).Stmts).getD j_60.toNat default).Uses : List Str).length = 1 + ((((((p.Funcs.getD i_12.toNat default).Blocks).getD k_32.toNat default).Stmts).getD j_60.toNat default).Uses).length := la ([(((((p.Funcs.getD i_12.toNat default).Blocks).getD k_32.toNat default).Stmts).getD j_60.toNat default).Def] : List Str) ((((((p.Funcs.getD i_12.toNat default).Blocks).getD k_32.toNat default).Stmts).getD j_60.toNat default).Uses)
     refine Dx [1, 7] [7] [1, 0] (fun G => (G.g 11 0)) [fun G => os (G.g 11 0) (([(((((p.Funcs.getD i_12.toNat default).Blocks).getD k_32.toNat default).Stmts).getD j_60.toNat default).Def] ++ (((((p.Funcs.getD i_12.toNat default).Blocks).getD k_32.toNat default).Stmts).getD j_60.toNat default).Uses) : List Str)] (fun G => xp [1] rfl (Ent.cr1 (α := Str) (A := []) _ ((((((p.Funcs.getD i_12.toNat default).Blocks).getD k_32.toNat default).Stmts).getD j_60.toNat default).Def) _ aB1 (fun _ => ⟨rfl, aS1⟩)) (xA (Ap [0, 0] sl138 sl138 sz138))) (Dg [] (fun G => (G.g 11 0)) (fun G => Va) ?_)
     refine Dn ⟨by kernel_rfl, fun G => ?_⟩
     refine Jw2 [(1, p2), (3, vl a61 k62 out_59), (4, vi i_12), (5, vi k_32), (6, .slice a54 (((((p.Funcs.getD i_12.toNat default).Blocks).getD k_32.toNat default).Stmts).length) k55), (7, vi j_60), (8, (G.g 11 0))] [0, 1, 2, 3, 4, 5, 6] [os (G.g 11 0) (([(((((p.Funcs.getD i_12.toNat default).Blocks).getD k_32.toNat default).Stmts).getD j_60.toNat default).Def] ++ (((((p.Funcs.getD i_12.toNat default).Blocks).getD k_32.toNat default).Stmts).getD j_60.toNat default).Uses) : List Str)] ?_
     generalize G.g 11 0 = c99
     refine Jo 7 ?_; rintro a101 k102 rfl
     refine Fb 16 7 fun _ => ?_
     refine FoS 7 fun ho104 => ?_
     refine KS ?_
     refine Oq Va (KS ?_)
     refine llH H hx71 fun X115 hX116 hx117 HL118 => ?_
     refine Kl (γ := Nat × List Str × Int × Option Addr × Nat) (fun (r105, out_106, n_107, a108, k109) => ⟨[(1, p2), (3, vl a108 k109 out_106), (4, vi i_12), (5, vi k_32), (6, .slice a54 (((((p.Funcs.getD i_12.toNat default).Blocks).getD k_32.toNat default).Stmts).length) k55), (7, vi j_60), (8, .slice a101 (([(((((p.Funcs.getD i_12.toNat default).Blocks).getD k_32.toNat default).Stmts).getD j_60.toNat default).Def] ++ (((((p.Funcs.getD i_12.toNat default).Blocks).getD k_32.toNat default).Stmts).getD j_60.toNat default).Uses).length) k102), (9, vi n_107)], [O a108 k109 out_106, S a54 k55 ((((p.Funcs.getD i_12.toNat default).Blocks).getD k_32.toNat default).Stmts), pv p2 [vl pa0 pk0 p.Funcs], S pa0 pk0 p.Funcs, O a101 k102 (([(((((p.Funcs.getD i_12.toNat default).Blocks).getD k_32.toNat default).Stmts).getD j_60.toNat default).Def] ++ (((((p.Funcs.getD i_12.toNat default).Blocks).getD k_32.toNat default).Stmts).getD j_60.toNat default).Uses) : List Str)], r4_Variables_L3 ([(((((p.Funcs.getD i_12.toNat default).Blocks).getD k_32.toNat default).Stmts).getD j_60.toNat default).Def] ++ (((((p.Funcs.getD i_12.toNat default).Blocks).getD k_32.toNat default).Stmts).getD j_60.toNat default).Uses) r105 out_106 n_107 = X115 ∧ r105 = (((([(((((p.Funcs.getD i_12.toNat default).Blocks).getD k_32.toNat default).Stmts).getD j_60.toNat default).Def] ++ (((((p.Funcs.getD i_12.toNat default).Blocks).getD k_32.toNat default).Stmts).getD j_60.toNat default).Uses).length : Int) : Int) - n_107).toNat ∧ (0 : Int) ≤ n_107 ∧ (n_107 ≤ (([(((((p.Funcs.getD i_12.toNat default).Blocks).getD k_32.toNat default).Stmts).getD j_60.toNat default).Def] ++ (((((p.Funcs.getD i_12.toNat default).Blocks).getD k_32.toNat default).Stmts).getD j_60.toNat default).Uses).length : Int) ∨ n_107 = 0) ∧ (-9223372036854775808 ≤ n_107 ∧ n_107 ≤ 9223372036854775807), r105⟩) ((((([(((((p.Funcs.getD i_12.toNat default).Blocks).getD k_32.toNat default).Stmts).getD j_60.toNat default).Def] ++ (((((p.Funcs.getD i_12.toNat default).Blocks).getD k_32.toNat default).Stmts).getD j_60.toNat default).Uses).length : Int) : Int) - 0).toNat, out_59, 0, a61, k62) [3, 3, 4, 5, 6] ⟨hX116, rfl, aM1, (.inr rfl), aM1⟩ ?_
     rintro ⟨r105, out_106, n_107, a108, k109⟩ ⟨hM110, hr111, hi112, hi113, hk114⟩
     refine JJ_nx fun _ _ hL hA => ?_; dsimp only at hL hA; subst hL hA
     refine Fb 16 0 fun _ => ?_
     refine FoS 0 fun ho120 => ?_
     refine Fb 72 1 fun _ => Fb 40 3 fun _ => Fb 16 4 fun _ => ?_
     refine FoS 4 fun ho124 => ?_
     refine KS ?_
     refine Oq Vm (Oq Vm (Oq (Vlen sl138) (Oq Vlss (KS ?_))))
     refine Kc ?_ ?_
     ·intro h125
      have g126 := dt h125
      obtain ⟨r127, rfl⟩ := scc (n := r105) aM1
      have H := hM110; (try dsimp only at H); rw [r4_Variables_L3] at H
      refine KS ?_
      refine Oq Vm (Oq Vm (Oq Vm ?_))
      refine pC H hx117 fun hc128 H => ?_
      refine Oq (Vi sl138 4) ?_
      have hb129 := okS (i := n_107.toNat) ho124 rng
      refine Oq (VldS sh9 4) ?_
      refine lbH H hx117 fun rv130 hg131 H => ?_
      refine Oc [0] ca129 (FT_borrow (A := _) (fun _ _ h => by cases h) (FT_ent (Ent.take (is := [0]) rfl) (fn129 out_106 a108 k109 ((([(((((p.Funcs.getD i_12.toNat default).Blocks).getD k_32.toNat default).Stmts).getD j_60.toNat default).Def] ++ (((((p.Funcs.getD i_12.toNat default).Blocks).getD k_32.toNat default).Stmts).getD j_60.toNat default).Uses).getD n_107.toNat default)) pre rv130 hg131))) ?_ (ht := rfl)
      rintro - he132
      unfold i64ok at he132
      refine Oq Vlss (KS ?_)
      refine KcH H ?_ ?_
      ·intro h133 H
       have g134 := dt h133
       refine KS ?_
       refine Oq Vm (Oq Vm (Oq Vm (Oq (Vi sl138 4) ?_)))
       have hb135 := okS (i := n_107.toNat) ho124 rng
       refine Oq (VldS sh9 4) (Oa (AsV sl138 sz138 [.string (bs (([(((((p.Funcs.getD i_12.toNat default).Blocks).getD k_32.toNat default).Stmts).getD j_60.toNat default).Def] ++ (((((p.Funcs.getD i_12.toNat default).Blocks).getD k_32.toNat default).Stmts).getD j_60.toNat default).Uses).getD n_107.toNat default))] [.string (bs (([(((((p.Funcs.getD i_12.toNat default).Blocks).getD k_32.toNat default).Stmts).getD j_60.toNat default).Def] ++ (((((p.Funcs.getD i_12.toNat default).Blocks).getD k_32.toNat default).Stmts).getD j_60.toNat default).Uses).getD n_107.toNat default))]) fun c136 => ?_)
       refine Jo 0 ?_; rintro a137 k138 rfl
       refine Jl [0] (Ent.cr1 (α := Str) (A := []) _ (([(((((p.Funcs.getD i_12.toNat default).Blocks).getD k_32.toNat default).Stmts).getD j_60.toNat default).Def] ++ (((((p.Funcs.getD i_12.toNat default).Blocks).getD k_32.toNat default).Stmts).getD j_60.toNat default).Uses).getD n_107.toNat default) _ aB1 (fun _ => ⟨rfl, aS1⟩)) ?_
       refine pC H hx117 fun hc139 H => ?_
       refine pC H hx117 fun hc140 H => ?_
       refine Oa (ApO [1, 0] sl138 sl138 sz138) fun c141 => ?_
       refine Jo 0 ?_; rintro a142 k143 rfl
       refine Fb 16 0 fun _ => ?_
       refine FoS 0 fun ho145 => ?_
       have hn146 := la out_106 ([(([(((((p.Funcs.getD i_12.toNat default).Blocks).getD k_32.toNat default).Stmts).getD j_60.toNat default).Def] ++ (((((p.Funcs.getD i_12.toNat default).Blocks).getD k_32.toNat default).Stmts).getD j_60.toNat default).Uses).getD n_107.toNat default)] : List Str)
       refine Oq Va (KS ?_)
       refine Oq Vm (Oq Vadd (Oq Va (KS ?_)))
       refine pC H hx117 fun hc147 H => ?_
       exact Kg (r127, (out_106 ++ [(([(((((p.Funcs.getD i_12.toNat default).Blocks).getD k_32.toNat default).Stmts).getD j_60.toNat default).Def] ++ (((((p.Funcs.getD i_12.toNat default).Blocks).getD k_32.toNat default).Stmts).getD j_60.toNat default).Uses).getD n_107.toNat default)]), (n_107 + 1), a142, k143) [0, 0, 1, 2, 3] ⟨H, aM1, aM1, aM1, aM1⟩
      intro h133 H
      have g148 := df h133
      refine KS ?_
      refine Oq Vm (Oq Vadd (Oq Va (KS ?_)))
      refine pC H hx117 fun hc149 H => ?_
      exact Kg (r127, out_106, (n_107 + 1), a108, k109) [0, 0, 1, 2, 3] ⟨H, aM1, aM1, aM1, aM1⟩
     intro h125
     have g150 := df h125
     obtain rfl : r105 = 0 := by omega
     have H := hM110; (try dsimp only at H); rw [r4_Variables_L3] at H
     refine Ke ?_
     have H := llB H HL118
     refine KS ?_
     refine Oq Vm (Oq Vadd (Oq Va (KS ?_)))
     refine pC H hx71 fun hc151 H => ?_
     exact Kg (r79, out_106, (j_60 + 1), a108, k109) [0, 0, 1, 2] ⟨H, aM1, aM1, aM1, aM1⟩
    intro h91 H
    have g152 := eq_of_bne_false h91
    refine KS ?_
    refine Oq Va (KS ?_)
    refine llH H hx71 fun X163 hX164 hx165 HL166 => ?_
    refine Kl (γ := Nat × List Str × Int × Option Addr × Nat) (fun (r153, out_154, n_155, a156, k157) => ⟨[(1, p2), (3, vl a156 k157 out_154), (4, vi i_12), (5, vi k_32), (6, .slice a54 (((((p.Funcs.getD i_12.toNat default).Blocks).getD k_32.toNat default).Stmts).length) k55), (7, vi j_60), (8, .slice a81 (((((((p.Funcs.getD i_12.toNat default).Blocks).getD k_32.toNat default).Stmts).getD j_60.toNat default).Uses).length) k82), (9, vi n_155)], [O a156 k157 out_154, S a81 k82 ((((((p.Funcs.getD i_12.toNat default).Blocks).getD k_32.toNat default).Stmts).getD j_60.toNat default).Uses), S a54 k55 ((((p.Funcs.getD i_12.toNat default).Blocks).getD k_32.toNat default).Stmts), pv p2 [vl pa0 pk0 p.Funcs], S pa0 pk0 p.Funcs], r4_Variables_L3 ((((((p.Funcs.getD i_12.toNat default).Blocks).getD k_32.toNat default).Stmts).getD j_60.toNat default).Uses) r153 out_154 n_155 = X163 ∧ r153 = (((((((((p.Funcs.getD i_12.toNat default).Blocks).getD k_32.toNat default).Stmts).getD j_60.toNat default).Uses).length : Int) : Int) - n_155).toNat ∧ (0 : Int) ≤ n_155 ∧ (n_155 ≤ (((((((p.Funcs.getD i_12.toNat default).Blocks).getD k_32.toNat default).Stmts).getD j_60.toNat default).Uses).length : Int) ∨ n_155 = 0) ∧ (-9223372036854775808 ≤ n_155 ∧ n_155 ≤ 9223372036854775807), r153⟩) ((((((((((p.Funcs.getD i_12.toNat default).Blocks).getD k_32.toNat default).Stmts).getD j_60.toNat default).Uses).length : Int) : Int) - 0).toNat, out_59, 0, a61, k62) [3, 1, 3, 4, 5] ⟨hX164, rfl, aM1, (.inr rfl), aM1⟩ ?_
    rintro ⟨r153, out_154, n_155, a156, k157⟩ ⟨hM158, hr159, hi160, hi161, hk162⟩
    refine JJ_nx fun _ _ hL hA => ?_; dsimp only at hL hA; subst hL hA
    refine Fb 16 0 fun _ => ?_
    refine FoS 0 fun ho168 => ?_
    refine Fb 16 1 fun _ => ?_
    refine FoS 1 fun ho170 => ?_
    refine Fb 72 2 fun _ => Fb 40 4 fun _ => KS ?_
    refine Oq Vm (Oq Vm (Oq (Vlen sl138) (Oq Vlss (KS ?_))))
    refine Kc ?_ ?_
    ·intro h173
     have g174 := dt h173
     obtain ⟨r175, rfl⟩ := scc (n := r153) aM1
     have H := hM158; (try dsimp only at H); rw [r4_Variables_L3] at H
     refine KS ?_
     refine Oq Vm (Oq Vm (Oq Vm ?_))
     refine pC H hx165 fun hc176 H => ?_
     refine Oq (Vi sl138 1) ?_
     have hb177 := okS (i := n_155.toNat) ho170 rng
     refine Oq (VldS sh9 1) ?_
     refine lbH H hx165 fun rv178 hg179 H => ?_
     refine Oc [0] ca129 (FT_borrow (A := _) (fun _ _ h => by cases h) (FT_ent (Ent.take (is := [0]) rfl) (fn129 out_154 a156 k157 ((((((((p.Funcs.getD i_12.toNat default).Blocks).getD k_32.toNat default).Stmts).getD j_60.toNat default).Uses).getD n_155.toNat default)) pre rv178 hg179))) ?_ (ht := rfl)
     rintro - he180
     unfold i64ok at he180
     refine Oq Vlss (KS ?_)
     refine KcH H ?_ ?_
     ·intro h181 H
      have g182 := dt h181
      refine KS ?_
      refine Oq Vm (Oq Vm (Oq Vm (Oq (Vi sl138 1) ?_)))
      have hb183 := okS (i := n_155.toNat) ho170 rng
      refine Oq (VldS sh9 1) (Oa (AsV sl138 sz138 [.string (bs (((((((p.Funcs.getD i_12.toNat default).Blocks).getD k_32.toNat default).Stmts).getD j_60.toNat default).Uses).getD n_155.toNat default))] [.string (bs (((((((p.Funcs.getD i_12.toNat default).Blocks).getD k_32.toNat default).Stmts).getD j_60.toNat default).Uses).getD n_155.toNat default))]) fun c184 => ?_)
      refine Jo 0 ?_; rintro a185 k186 rfl
      refine Jl [0] (Ent.cr1 (α := Str) (A := []) _ (((((((p.Funcs.getD i_12.toNat default).Blocks).getD k_32.toNat default).Stmts).getD j_60.toNat default).Uses).getD n_155.toNat default) _ aB1 (fun _ => ⟨rfl, aS1⟩)) ?_
      refine pC H hx165 fun hc187 H => ?_
      refine pC H hx165 fun hc188 H => ?_
      refine Oa (ApO [1, 0] sl138 sl138 sz138) fun c189 => ?_
      refine Jo 0 ?_; rintro a190 k191 rfl
      refine Fb 16 0 fun _ => ?_
      refine FoS 0 fun ho193 => ?_
      have hn194 := la out_154 ([(((((((p.Funcs.getD i_12.toNat default).Blocks).getD k_32.toNat default).Stmts).getD j_60.toNat default).Uses).getD n_155.toNat default)] : List Str)
      refine Oq Va (KS ?_)
      refine Oq Vm (Oq Vadd (Oq Va (KS ?_)))
      refine pC H hx165 fun hc195 H => ?_
      exact Kg (r175, (out_154 ++ [(((((((p.Funcs.getD i_12.toNat default).Blocks).getD k_32.toNat default).Stmts).getD j_60.toNat default).Uses).getD n_155.toNat default)]), (n_155 + 1), a190, k191) [0, 0, 1, 2, 3] ⟨H, aM1, aM1, aM1, aM1⟩
     intro h181 H
     have g196 := df h181
     refine KS ?_
     refine Oq Vm (Oq Vadd (Oq Va (KS ?_)))
     refine pC H hx165 fun hc197 H => ?_
     exact Kg (r175, out_154, (n_155 + 1), a156, k157) [0, 0, 1, 2, 3] ⟨H, aM1, aM1, aM1, aM1⟩
    intro h173
    have g198 := df h173
    obtain rfl : r153 = 0 := by omega
    have H := hM158; (try dsimp only at H); rw [r4_Variables_L3] at H
    refine Ke ?_
    have H := llB H HL166
    refine KS ?_
    refine Oq Vm (Oq Vadd (Oq Va (KS ?_)))
    refine pC H hx71 fun hc199 H => ?_
    exact Kg (r79, out_154, (j_60 + 1), a156, k157) [0, 1, 2, 3] ⟨H, aM1, aM1, aM1, aM1⟩
   intro h77
   have g200 := df h77
   obtain rfl : r58 = 0 := by omega
   have H := hM63; (try dsimp only at H); rw [r4_Variables_L2] at H
   refine Ke ?_
   have H := llB H HL72
   refine KS ?_
   refine Oq Vm ?_
   refine pC H hx39 fun hc201 H => ?_
   refine Oq Vadd (Oq Va (KS ?_))
   exact Kg (r30, out_59, (k_32 + 1), a61, k62) [0, 1, 2] ⟨H, aM1⟩
  intro h49 H
  have g202 := df h49
  refine Ke ?_
  have H := llB H HL40
  refine KS ?_
  refine Oq Vm (Oq Vadd (Oq Va (KS ?_)))
  refine pC H hx22 fun hc203 H => ?_
  exact Kg (r29, out_31, (i_12 + 1), a33, k34) [2, 2, 3] ⟨H, aM1, aM1, aM1, aM1⟩
 intro h27
 have g204 := df h27
 obtain rfl : r10 = 0 := by omega
 have H := hM15; (try dsimp only at H); rw [r4_Variables_L0] at H
 refine Ke ?_
 have H := llB H HL23
 refine KS ?_
 refine Oq Vm (Oq Va (KS ?_))
 refine Jl [0] (Ent.freeze _ _) ?_
 have hq := rI H; subst hq
 exact Kr (vl a13 k14 out_11) rfl (.tmp rfl .nil) [0] trivial
theorem fn159 (l : List Str) (la0 : Option Addr) (lk0 : Nat) (rr : Int) (hrr : r4_repeated l = .ret rr) : FT Tryz.prog 159 #[vl la0 lk0 l] [S la0 lk0 l] (fun g : Unit => i64ok rr) (fun g => vi rr) (fun g => []) := by
 refine FTi Tryz.func159 fun w0 M0 F0 => Fb 16 0 fun _ => ?_
 refine FoS 0 fun ho2 => ?_
 have hx0 := lrn rr; have H := hrr; unfold r4_repeated at H
 refine KS ?_
 refine Oq Va (KS ?_)
 refine Oq Va (KS ?_)
 refine llH H hx0 fun X10 hX11 hx12 HL13 => ?_
 refine Kl (γ := Nat × Int) (fun (r3, i_4) => ⟨[(0, vl la0 lk0 l), (3, vi i_4)], [S la0 lk0 l], r4_repeated_L0 l r3 i_4 = X10 ∧ r3 = ((l.length : Int) - i_4).toNat ∧ (0 : Int) ≤ i_4 ∧ i_4 ≤ (l.length : Int) ∧ (-9223372036854775808 ≤ i_4 ∧ i_4 ≤ 9223372036854775807), r3⟩) (((l.length : Int) - 0).toNat, 0) [0] ⟨hX11, rfl, aM1, aM1, aM1⟩ ?_
 rintro ⟨r3, i_4⟩ ⟨hM5, hr6, hi7, hi8, hk9⟩
 refine JJ_nx fun _ _ hL hA => ?_; dsimp only at hL hA; subst hL hA
 refine Fb 16 0 fun _ => ?_
 refine FoS 0 fun ho15 => ?_
 refine KS ?_
 refine Oq Vm (Oq Vm (Oq (Vlen sl138) (Oq Vlss (KS ?_))))
 refine Kc ?_ ?_
 ·intro h16
  have g17 := dt h16
  obtain ⟨r18, rfl⟩ := scc (n := r3) aM1
  have H := hM5; (try dsimp only at H); rw [r4_repeated_L0] at H
  refine KS ?_
  refine JK_drawK [0, 0, 3, 0, 0, 24, 56, 127, 255] fmix ?_
  refine Dv [] Vm (Dv [] Vm ?_)
  refine pC H hx12 fun hc19 H => ?_
  refine Dx [0] [] [1, 0] (fun G => (G.g 2 0)) [fun G => sl (G.g 2 0) ((l.take (i_4.toNat)).drop 0)] (fun G => xA (Asl [0] sl138 0 (i_4.toNat))) (Dv [] Vm (Dv [] Vm ?_))
  refine pC H hx12 fun hc21 H => ?_
  refine Dv [0] (Vi sl138 0) ?_
  have hb22 := okS (i := i_4.toNat) ho15 rng
  refine Dv [0] (VldS sh9 0) ?_
  refine lbH H hx12 fun rv26 hg27 H => ?_
  refine Dx [1] [] [1, 0] (fun G => vi rv26) [fun G => SP.fact (i64ok rv26)] (fun G => xD [0] ca129 rfl rfl rfl (FT_open (γ := Unit) (I := fun g => i64ok rv26) (V := fun g => vi rv26) (B := fun g => []) (R := sl (G.g 2 0) ((l.take (i_4.toNat)).drop 0)) sl_slice (fun aq23 kq24 eq25 => by rw [eq25]; exact FT_ent (Ent.take (is := [0]) rfl) (fn129 (((l.take (i_4.toNat)).drop 0)) aq23 kq24 ((l.getD i_4.toNat default)) pre rv26 hg27)))) (Dv [] Vgeq ?_)
  refine Dn ⟨by kernel_rfl, fun G => ?_⟩
  refine Jw2 [(0, vl la0 lk0 l), (3, vi i_4), (18, vb (decide (0 ≤ rv26)))] [0] [sl (G.g 2 0) ((l.take (i_4.toNat)).drop 0), SP.fact (i64ok rv26)] ?_
  generalize G.g 2 0 = c20
  refine Jf 2 rfl ?_; rintro he28
  unfold i64ok at he28
  refine Jk [0, 1] ?_
  refine Jo 1 ?_; rintro a29 k30 rfl
  refine Fb 16 1 fun _ => ?_
  refine FoS 1 fun ho32 => ?_
  refine pF H hx12 fun h33 H => ?_
  refine KcF h33 ?_
  have g34 := df h33
  refine KS ?_
  refine Oq Vm (Oq Vadd (Oq Va (KS ?_)))
  refine pC H hx12 fun hc35 H => ?_
  exact Kg (r18, (i_4 + 1)) [0] ⟨H, aM1, aM1, aM1, aM1⟩
 intro h16
 have g36 := df h16
 obtain rfl : r3 = 0 := by omega
 have H := hM5; (try dsimp only at H); rw [r4_repeated_L0] at H
 refine Ke ?_
 have H := llB H HL13
 refine KS ?_
 refine Oq Va (KS ?_)
 have hq := rI H; subst hq
 exact Kr () rfl (.tmp rfl .nil) [] en
theorem fn160 (p : GProgram) (pa0 : Option Addr) (pk0 : Nat) (rr : List Str) (hrr : r4_funcNames p = .ret rr) : FT Tryz.prog 160 #[.agg #[vl pa0 pk0 p.Funcs]] [S pa0 pk0 p.Funcs] (fun g : Value => True) (fun g => g) (fun g => [sl g rr]) := by
 refine FTi Tryz.func160 fun w0 M0 F0 => Fb 40 0 fun _ => ?_
 have hx0 := lrn rr; have H := hrr; unfold r4_funcNames at H
 refine KS ?_
 refine Oa (Ab [vl pa0 pk0 p.Funcs]) fun p2 => Oq Va (KS ?_)
 refine Oq Va (KS ?_)
 refine Oq Va (KS ?_)
 refine Jl [] (Ent.osNil (α := Str)) ?_
 refine llH H hx0 fun X13 hX14 hx15 HL16 => ?_
 refine Kl (γ := Nat × List Str × Int × Option Addr × Nat) (fun (r3, out_4, i_5, a6, k7) => ⟨[(1, p2), (3, vl a6 k7 out_4), (4, vi i_5)], [O a6 k7 out_4, pv p2 [vl pa0 pk0 p.Funcs], S pa0 pk0 p.Funcs], r4_funcNames_L0 p r3 out_4 i_5 = X13 ∧ r3 = ((p.Funcs.length : Int) - i_5).toNat ∧ (0 : Int) ≤ i_5 ∧ i_5 ≤ (p.Funcs.length : Int) ∧ (-9223372036854775808 ≤ i_5 ∧ i_5 ≤ 9223372036854775807), r3⟩) (((p.Funcs.length : Int) - 0).toNat, [], 0, none, 0) [0, 0, 1] ⟨hX14, rfl, aM1, aM1, aM1⟩ ?_
 rintro ⟨r3, out_4, i_5, a6, k7⟩ ⟨hM8, hr9, hi10, hi11, hk12⟩
 refine JJ_nx fun _ _ hL hA => ?_; dsimp only at hL hA; subst hL hA
 refine Fb 16 0 fun _ => ?_
 refine FoS 0 fun ho18 => ?_
 refine Fb 40 2 fun _ => KS ?_
 refine Oq Vm (Oq (Vfa fo84_0 1) (Oq (VldF sh82 1) (Oq (Vlen sl82) (Oq Vlss (KS ?_)))))
 refine Kc ?_ ?_
 ·intro h20
  have g21 := dt h20
  obtain ⟨r22, rfl⟩ := scc (n := r3) aM1
  have H := hM8; (try dsimp only at H); rw [r4_funcNames_L0] at H
  refine KS ?_
  refine Oq Vm (Oq (Vfa fo84_0 1) (Oq (VldF sh82 1) (Oq Vm ?_)))
  refine pC H hx15 fun hc23 H => ?_
  refine Oq (Vi sl82 2) ?_
  refine JJ_peek_GFunc i_5.toNat 2 rfl rng fun a24 k25 hb26 => ?_
  refine Fb 40 1 fun _ => ?_
  refine Oq (Vfa fo126_0 0) (Oq (VldF sh9 0) (Oa (AsV sl138 sz138 [.string (bs ((p.Funcs.getD i_5.toNat default).Name))] [.string (bs ((p.Funcs.getD i_5.toNat default).Name))]) fun c28 => ?_))
  refine Jo 0 ?_; rintro a29 k30 rfl
  refine Jl [0] (Ent.cr1 (α := Str) (A := []) _ ((p.Funcs.getD i_5.toNat default).Name) _ aB1 (fun _ => ⟨rfl, aS1⟩)) ?_
  refine pC H hx15 fun hc31 H => ?_
  refine pC H hx15 fun hc32 H => ?_
  refine Oa (ApO [3, 0] sl138 sl138 sz138) fun c33 => ?_
  refine Jo 0 ?_; rintro a34 k35 rfl
  refine Fb 16 0 fun _ => ?_
  refine FoS 0 fun ho37 => ?_
  have hn38 := la out_4 ([(p.Funcs.getD i_5.toNat default).Name] : List Str)
  refine Oq Va (KS ?_)
  refine Oq Vm (Oq Vadd (Oq Va (KS ?_)))
  refine pC H hx15 fun hc39 H => ?_
  exact Kg (r22, (out_4 ++ [(p.Funcs.getD i_5.toNat default).Name]), (i_5 + 1), a34, k35) [0, 2, 3] ⟨H, aM1, aM1, aM1, aM1⟩
 intro h20
 have g40 := df h20
 obtain rfl : r3 = 0 := by omega
 have H := hM8; (try dsimp only at H); rw [r4_funcNames_L0] at H
 refine Ke ?_
 have H := llB H HL16
 refine KS ?_
 refine Oq Vm (Oq Va (KS ?_))
 refine Jl [0] (Ent.freeze _ _) ?_
 have hq := rI H; subst hq
 exact Kr (vl a6 k7 out_4) rfl (.tmp rfl .nil) [0] trivial
theorem fn161 (f : GFunc) (fa1 : Option Addr) (fk1 : Nat) (hf_0 : f.Name.b.length ≤ 140737488355328) (rr : List Str) (hrr : r4_BlockNames f = .ret rr) : FT Tryz.prog 161 #[.agg #[.string (bs f.Name), vl fa1 fk1 f.Blocks]] [S fa1 fk1 f.Blocks] (fun g : Value => True) (fun g => g) (fun g => [sl g rr]) := by
 refine FTi Tryz.func161 fun w0 M0 F0 => Fb 40 0 fun _ => ?_
 have hx0 := lrn rr; have H := hrr; unfold r4_BlockNames at H
 refine KS ?_
 refine Oa (Ab [.string (bs f.Name), vl fa1 fk1 f.Blocks]) fun p2 => Oq Va (KS ?_)
 refine Oq Va (KS ?_)
 refine Oq Va (KS ?_)
 refine Jl [] (Ent.osNil (α := Str)) ?_
 refine llH H hx0 fun X13 hX14 hx15 HL16 => ?_
 refine Kl (γ := Nat × List Str × Int × Option Addr × Nat) (fun (r3, out_4, k_5, a6, k7) => ⟨[(1, p2), (3, vl a6 k7 out_4), (4, vi k_5)], [O a6 k7 out_4, pv p2 [.string (bs f.Name), vl fa1 fk1 f.Blocks], S fa1 fk1 f.Blocks], r4_BlockNames_L0 f r3 out_4 k_5 = X13 ∧ r3 = ((f.Blocks.length : Int) - k_5).toNat ∧ (0 : Int) ≤ k_5 ∧ k_5 ≤ (f.Blocks.length : Int) ∧ (-9223372036854775808 ≤ k_5 ∧ k_5 ≤ 9223372036854775807), r3⟩) (((f.Blocks.length : Int) - 0).toNat, [], 0, none, 0) [0, 0, 1] ⟨hX14, rfl, aM1, aM1, aM1⟩ ?_
 rintro ⟨r3, out_4, k_5, a6, k7⟩ ⟨hM8, hr9, hi10, hi11, hk12⟩
 refine JJ_nx fun _ _ hL hA => ?_; dsimp only at hL hA; subst hL hA
 refine Fb 16 0 fun _ => ?_
 refine FoS 0 fun ho18 => ?_
 refine Fb 40 2 fun _ => KS ?_
 refine Oq Vm (Oq (Vfa fo126_1 1) (Oq (VldF sh124 1) (Oq (Vlen sl124) (Oq Vlss (KS ?_)))))
 refine Kc ?_ ?_
 ·intro h20
  have g21 := dt h20
  obtain ⟨r22, rfl⟩ := scc (n := r3) aM1
  have H := hM8; (try dsimp only at H); rw [r4_BlockNames_L0] at H
  refine KS ?_
  refine Oq Vm (Oq (Vfa fo126_1 1) (Oq (VldF sh124 1) (Oq Vm ?_)))
  refine pC H hx15 fun hc23 H => ?_
  refine Oq (Vi sl124 2) ?_
  refine JJ_peek_GBlock k_5.toNat 2 rfl rng fun a24 k25 hb26 => ?_
  refine Fb 72 1 fun _ => ?_
  refine Oq (Vfa fo168_0 0) (Oq (VldF sh9 0) (Oa (AsV sl138 sz138 [.string (bs ((f.Blocks.getD k_5.toNat default).Name))] [.string (bs ((f.Blocks.getD k_5.toNat default).Name))]) fun c28 => ?_))
  refine Jo 0 ?_; rintro a29 k30 rfl
  refine Jl [0] (Ent.cr1 (α := Str) (A := []) _ ((f.Blocks.getD k_5.toNat default).Name) _ aB1 (fun _ => ⟨rfl, aS1⟩)) ?_
  refine pC H hx15 fun hc31 H => ?_
  refine pC H hx15 fun hc32 H => ?_
  refine Oa (ApO [3, 0] sl138 sl138 sz138) fun c33 => ?_
  refine Jo 0 ?_; rintro a34 k35 rfl
  refine Fb 16 0 fun _ => ?_
  refine FoS 0 fun ho37 => ?_
  have hn38 := la out_4 ([(f.Blocks.getD k_5.toNat default).Name] : List Str)
  refine Oq Va (KS ?_)
  refine Oq Vm (Oq Vadd (Oq Va (KS ?_)))
  refine pC H hx15 fun hc39 H => ?_
  exact Kg (r22, (out_4 ++ [(f.Blocks.getD k_5.toNat default).Name]), (k_5 + 1), a34, k35) [0, 2, 3] ⟨H, aM1, aM1, aM1, aM1⟩
 intro h20
 have g40 := df h20
 obtain rfl : r3 = 0 := by omega
 have H := hM8; (try dsimp only at H); rw [r4_BlockNames_L0] at H
 refine Ke ?_
 have H := llB H HL16
 refine KS ?_
 refine Oq Vm (Oq Va (KS ?_))
 refine Jl [0] (Ent.freeze _ _) ?_
 have hq := rI H; subst hq
 exact Kr (vl a6 k7 out_4) rfl (.tmp rfl .nil) [0] trivial
theorem fn180 (op : Int) (hop_0 : i64ok op) (rr : Bool) (hrr : r4_Terminator op = .ret rr) : FT Tryz.prog 180 #[vi op] [] (fun g : Unit => True) (fun g => vb rr) (fun g => []) := by
 refine FTi Tryz.func180 fun w0 M0 F0 => ?_
 unfold i64ok at hop_0
 have hx0 := lrn rr; have H := hrr; unfold r4_Terminator at H
 refine KS ?_
 refine Oq Va (KS ?_)
 refine Oq Vm (Oq Veql (Oq Vm ?_))
 refine pF H hx0 fun h1 H => ?_
 refine JsF 5 h1 ?_
 have g2 := ne_of_beq_false h1
 refine Oq Vm (Oq Veql (Oq Vpf (Oq Vm ?_)))
 refine pF H hx0 fun h3 H => ?_
 refine JsF 9 h3 ?_
 have g4 := ne_of_beq_false h3
 refine Oq Vm (Oq Veql (Oq Vpf (Oq Va (KS ?_))))
 have hq := rI H; subst hq
 exact Kr () rfl (.tmp rfl .nil) [] trivial
theorem fn162 (p : GProgram) (pa0 : Option Addr) (pk0 : Nat) (f : GFunc) (fa1 : Option Addr) (fk1 : Nat) (s : GStmt) (sa2 : Option Addr) (sk2 : Nat) (sa3 : Option Addr) (sk3 : Nat) (last : Bool) (hf_0 : f.Name.b.length ≤ 140737488355328) (hs_0 : i64ok s.Op) (hs_1 : s.Def.b.length ≤ 140737488355328) (rr : Int) (hrr : r4_stmtErr p f s last = .ret rr) : FT Tryz.prog 162 #[.agg #[vl pa0 pk0 p.Funcs], .agg #[.string (bs f.Name), vl fa1 fk1 f.Blocks], .agg #[vi s.Op, .string (bs s.Def), vl sa2 sk2 s.Uses, vl sa3 sk3 s.Targets], vb last] [S pa0 pk0 p.Funcs, S fa1 fk1 f.Blocks, S sa2 sk2 s.Uses, S sa3 sk3 s.Targets] (fun g : Unit => i64ok rr) (fun g => vi rr) (fun g => []) := by
 refine FTi Tryz.func162 fun w0 M0 F0 => ?_
 unfold i64ok at hs_0
 refine Fb 40 0 fun _ => Fb 40 1 fun _ => Fb 16 2 fun _ => ?_
 refine FoS 2 fun ho4 => ?_
 refine Fb 16 3 fun _ => ?_
 refine FoS 3 fun ho6 => ?_
 have hx0 := lrn rr; have H := hrr; unfold r4_stmtErr at H
 refine KS ?_
 refine Oa (Ab [vl pa0 pk0 p.Funcs]) fun p7 => Oa (Ab [.string (bs f.Name), vl fa1 fk1 f.Blocks]) fun p8 => Oa (Ab [vi s.Op, .string (bs s.Def), vl sa2 sk2 s.Uses, vl sa3 sk3 s.Targets]) fun p9 => Oq Va (KS ?_)
 refine Oq (Vfa fo140_0 0) (Oq (VldF sh3 0) ?_)
 refine lbH H hx0 fun rv10 hg11 H => ?_
 have hc12 := fn180 s.Op pre rv10 hg11
 refine Oc [] ca180 hc12 ?_
 rintro - -
 refine Oq Vm (Oq (Vnb un4) (KS ?_))
 refine pF H hx0 fun h13 H => ?_
 refine KcF h13 ?_
 refine KS ?_
 refine Oq (VldA sh126 1) ?_
 refine lbH H hx0 fun rv16 hg17 H => ?_
 have hc18 := fn161 f fa1 fk1 pre rv16 hg17
 refine Oc [4] ca161 hc18 ?_
 rintro c15 -
 refine Jo 0 ?_; rintro a19 k20 rfl
 refine Fb 16 0 fun _ => ?_
 refine FoS 0 fun ho22 => ?_
 refine Oq Va (KS ?_)
 refine Oq (Vfa fo140_0 1) (Oq (VldF sh3 1) (Oq Veql (KS ?_)))
 refine pF H hx0 fun h23 H => ?_
 refine KcF h23 ?_
 have g24 := ne_of_beq_false h23
 refine KS ?_
 refine Oq Va (KS ?_)
 refine llH H hx0 fun X27 hX28 hx29 HL30 => ?_
 refine Kl (γ := Nat) (fun r25 => ⟨[(6, p9), (9, vl a19 k20 rv16), (10, vi 0)], [S a19 k20 rv16, pv p9 [vi s.Op, .string (bs s.Def), vl sa2 sk2 s.Uses, vl sa3 sk3 s.Targets], S sa2 sk2 s.Uses, S sa3 sk3 s.Targets], r4_stmtErr_L0 s r25 = X27, r25⟩) 1 [0, 1, 6, 7] hX28 ?_
 rintro r25 hM26
 refine JJ_nx fun _ _ hL hA => ?_; dsimp only at hL hA; subst hL hA
 refine Fb 16 0 fun _ => ?_
 refine FoS 0 fun ho32 => ?_
 refine Fb 16 2 fun _ => ?_
 refine FoS 2 fun ho34 => ?_
 refine Fb 16 3 fun _ => ?_
 refine FoS 3 fun ho36 => ?_
 rcases r25 with _ | r25
 ·exact absurd (hM26.symm.trans rfl) hx29
 have H := hM26; (try dsimp only at H); rw [r4_stmtErr_L0] at H
 refine KS ?_
 refine Oq Vm (Oq (Vfa fo140_3 1) (Oq (VldF sh138 1) (Oq (Vlen sl138) (Oq Vlss (KS ?_)))))
 refine pF H hx29 fun h37 H => ?_
 refine KcF h37 ?_
 have g38 := df h37
 refine Ke ?_
 have H := llB H HL30
 refine KS ?_
 refine Oq Va (KS ?_)
 have hq := rI H; subst hq
 exact Kr () rfl (.tmp rfl .nil) [] en
theorem fn163 (p : GProgram) (pa0 : Option Addr) (pk0 : Nat) (rr : Int × Int) (hrr : r4_Sizes p = .ret rr) : FT Tryz.prog 163 #[.agg #[vl pa0 pk0 p.Funcs]] [S pa0 pk0 p.Funcs] (fun g : Unit => i64ok rr.1 ∧ i64ok rr.2) (fun g => .tuple #[vi rr.1, vi rr.2]) (fun g => []) := by
 refine FTi Tryz.func163 fun w0 M0 F0 => Fb 40 0 fun _ => ?_
 have hx0 := lrn rr; have H := hrr; unfold r4_Sizes at H
 refine KS ?_
 refine Oa (Ab [vl pa0 pk0 p.Funcs]) fun p2 => Oq Va (Oq Va (KS ?_))
 refine Oq Va (Oq Va (KS ?_))
 refine Oq (VldA sh84 0) ?_
 refine lbH H hx0 fun rv3 hg4 H => ?_
 have hc5 := fn158 p pa0 pk0 rv3 hg4
 refine Oc [1] ca158 hc5 ?_
 rintro - -
 refine Oq Vnot (KS ?_)
 refine pF H hx0 fun h6 H => ?_
 refine KcF h6 ?_
 have h8 := not_false h6
 refine KS ?_
 refine Oq Va (KS ?_)
 refine llH H hx0 fun X21 hX22 hx23 HL24 => ?_
 refine Kl (γ := Nat × Int × Int × Int) (fun (r10, nd_11, edges_12, i_13) => ⟨[(1, p2), (4, vi nd_11), (5, vi edges_12), (6, vi i_13)], [pv p2 [vl pa0 pk0 p.Funcs], S pa0 pk0 p.Funcs], r4_Sizes_L0 p r10 nd_11 edges_12 i_13 = X21 ∧ r10 = ((p.Funcs.length : Int) - i_13).toNat ∧ (0 : Int) ≤ i_13 ∧ i_13 ≤ (p.Funcs.length : Int) ∧ (-9223372036854775808 ≤ nd_11 ∧ nd_11 ≤ 9223372036854775807) ∧ (-9223372036854775808 ≤ edges_12 ∧ edges_12 ≤ 9223372036854775807) ∧ (-9223372036854775808 ≤ i_13 ∧ i_13 ≤ 9223372036854775807), r10⟩) (((p.Funcs.length : Int) - 0).toNat, 0, 0, 0) [0, 1] ⟨hX22, rfl, aM1, aM1, aM1, aM1, aM1⟩ ?_
 rintro ⟨r10, nd_11, edges_12, i_13⟩ ⟨hM14, hr15, hi16, hi17, hk18, hk19, hk20⟩
 refine JJ_nx fun _ _ hL hA => ?_; dsimp only at hL hA; subst hL hA
 refine Fb 40 1 fun _ => KS ?_
 refine Oq Vm (Oq (Vfa fo84_0 0) (Oq (VldF sh82 0) (Oq (Vlen sl82) (Oq Vlss (KS ?_)))))
 refine Kc ?_ ?_
 ·intro h26
  have g27 := dt h26
  obtain ⟨r28, rfl⟩ := scc (n := r10) aM1
  have H := hM14; (try dsimp only at H); rw [r4_Sizes_L0] at H
  refine KS ?_
  refine Oq Vm ?_
  refine pC H hx23 fun hc29 H => ?_
  refine Oq Vadd (Oq Vm ?_)
  refine pC H hx23 fun hc30 H => ?_
  refine Oq Vadd (Oq Va (Oq Va (KS ?_)))
  refine Oq Va (KS ?_)
  refine llH H hx23 fun X39 hX40 hx41 HL42 => ?_
  refine Kl (γ := Nat × Int × Int × Int) (fun (r31, nd_32, edges_33, k_34) => ⟨[(1, p2), (6, vi i_13), (4, vi nd_32), (5, vi edges_33), (7, vi k_34)], [pv p2 [vl pa0 pk0 p.Funcs], S pa0 pk0 p.Funcs], r4_Sizes_L1 p i_13 r31 nd_32 edges_33 k_34 = X39 ∧ (-9223372036854775808 ≤ nd_32 ∧ nd_32 ≤ 9223372036854775807) ∧ (-9223372036854775808 ≤ edges_33 ∧ edges_33 ≤ 9223372036854775807) ∧ (-9223372036854775808 ≤ k_34 ∧ k_34 ≤ 9223372036854775807), r31⟩) (100000, (nd_11 + 2), (edges_12 + 1), 0) [0, 1] ⟨hX40, aM1, aM1, aM1⟩ ?_
  rintro ⟨r31, nd_32, edges_33, k_34⟩ ⟨hM35, hk36, hk37, hk38⟩
  refine JJ_nx fun _ _ hL hA => ?_; dsimp only at hL hA; subst hL hA
  refine Fb 40 1 fun _ => ?_
  rcases r31 with _ | r31
  ·exact absurd (hM35.symm.trans rfl) hx41
  have H := hM35; (try dsimp only at H); rw [r4_Sizes_L1] at H
  refine KS ?_
  refine Oq Vm (Oq (Vfa fo84_0 0) (Oq (VldF sh82 0) (Oq Vm ?_)))
  refine pC H hx41 fun hc44 H => ?_
  refine Oq (Vi sl82 1) ?_
  refine JJ_peek_GFunc i_13.toNat 1 rfl rng fun a45 k46 hb47 => ?_
  refine Fb 40 1 fun _ => ?_
  refine Oq (Vfa fo126_1 0) (Oq (VldF sh124 0) (Oq (Vlen sl124) (Oq Vlss (KS ?_))))
  refine pC H hx41 fun hc50 H => ?_
  refine KcH H ?_ ?_
  ·intro h49 H
   have g51 := dt h49
   refine KS ?_
   refine Oq (Vfa fo84_0 2) (Oq (VldF sh82 2) (Oq Vm (Oq (Vi sl82 3) (Oq (Vfa fo126_1 0) (Oq (VldF sh124 0) (Oq Vm ?_))))))
   refine pC H hx41 fun hc52 H => ?_
   refine pC H hx41 fun hc53 H => ?_
   refine Oq (Vi sl124 1) ?_
   refine JJ_peek_GBlock k_34.toNat 1 rfl rng fun a54 k55 hb56 => ?_
   refine Fb 72 1 fun _ => ?_
   refine Oq (Vfa fo168_1 0) (Oq (VldF sh166 0) (Oq Va (KS ?_)))
   refine Oq Va (KS ?_)
   refine pC H hx41 fun hc69 H => ?_
   refine llH H hx41 fun X70 hX71 hx72 HL73 => ?_
   refine Kl (γ := Nat × Int × Int × Int) (fun (r58, nd_59, edges_60, j_61) => ⟨[(1, p2), (6, vi i_13), (4, vi nd_59), (5, vi edges_60), (7, vi k_34), (8, .slice a54 (((((p.Funcs.getD i_13.toNat default).Blocks).getD k_34.toNat default).Stmts).length) k55), (9, vi j_61)], [S a54 k55 ((((p.Funcs.getD i_13.toNat default).Blocks).getD k_34.toNat default).Stmts), pv p2 [vl pa0 pk0 p.Funcs], S pa0 pk0 p.Funcs], r4_Sizes_L2 ((((p.Funcs.getD i_13.toNat default).Blocks).getD k_34.toNat default).Stmts) r58 nd_59 edges_60 j_61 = X70 ∧ r58 = (((((((p.Funcs.getD i_13.toNat default).Blocks).getD k_34.toNat default).Stmts).length : Int) : Int) - j_61).toNat ∧ (0 : Int) ≤ j_61 ∧ (j_61 ≤ (((((p.Funcs.getD i_13.toNat default).Blocks).getD k_34.toNat default).Stmts).length : Int) ∨ j_61 = 0) ∧ (-9223372036854775808 ≤ nd_59 ∧ nd_59 ≤ 9223372036854775807) ∧ (-9223372036854775808 ≤ edges_60 ∧ edges_60 ≤ 9223372036854775807) ∧ (-9223372036854775808 ≤ j_61 ∧ j_61 ≤ 9223372036854775807), r58⟩) ((((((((p.Funcs.getD i_13.toNat default).Blocks).getD k_34.toNat default).Stmts).length : Int) : Int) - 0).toNat, nd_32, edges_33, 0) [1, 4, 5] ⟨hX71, rfl, aM1, (.inr rfl), aM1, aM1, aM1⟩ ?_
   rintro ⟨r58, nd_59, edges_60, j_61⟩ ⟨hM62, hr63, hi64, hi65, hk66, hk67, hk68⟩
   refine JJ_nx fun _ _ hL hA => ?_; dsimp only at hL hA; subst hL hA
   refine Fb 72 0 fun _ => Fb 40 2 fun _ => KS ?_
   refine Oq Vm (Oq Vm (Oq (Vlen sl166) (Oq Vlss (KS ?_))))
   refine Kc ?_ ?_
   ·intro h76
    have g77 := dt h76
    obtain ⟨r78, rfl⟩ := scc (n := r58) aM1
    have H := hM62; (try dsimp only at H); rw [r4_Sizes_L2] at H
    refine KS ?_
    refine Oq Vm ?_
    refine pC H hx72 fun hc79 H => ?_
    refine Oq Vadd (Oq Va (KS ?_))
    refine Oq Vm (Oq Vm ?_)
    refine pC H hx72 fun hc80 H => ?_
    refine Oq (Vi sl166 0) ?_
    refine JJ_peek_GStmt j_61.toNat 0 rfl rng fun a81 k82 a83 k84 hb85 hb86 => ?_
    unfold i64ok at hb85
    refine Fb 16 1 fun _ => ?_
    refine FoS 1 fun ho88 => ?_
    refine Fb 16 2 fun _ => ?_
    refine FoS 2 fun ho90 => ?_
    refine Oq (Vfa fo140_0 0) (Oq (VldF sh3 0) (KS ?_))
    refine Oq Veql (Oq Va (KS ?_))
    refine pC H hx72 fun hc92 H => ?_
    refine pF H hx72 fun h91 H => ?_
    refine KcF h91 ?_
    have g93 := ne_of_beq_false h91
    refine KS ?_
    refine Oq Veql (Oq Va (KS ?_))
    refine pF H hx72 fun h94 H => ?_
    refine KcF h94 ?_
    have g95 := ne_of_beq_false h94
    refine KS ?_
    refine Oq Vm ?_
    refine pC H hx72 fun hc96 H => ?_
    refine Oq Vadd (Oq Va (KS ?_))
    refine Oq Vm (Oq Vadd (Oq Va (KS ?_)))
    refine pC H hx72 fun hc97 H => ?_
    exact Kg (r78, (nd_59 + 1), (edges_60 + 1), (j_61 + 1)) [3, 4, 5] ⟨H, aM1, aM1, aM1, aM1, aM1, aM1⟩
   intro h76
   have g98 := df h76
   obtain rfl : r58 = 0 := by omega
   have H := hM62; (try dsimp only at H); rw [r4_Sizes_L2] at H
   refine Ke ?_
   have H := llB H HL73
   dsimp only at H
   refine KS ?_
   refine Oq Vm ?_
   refine pC H hx41 fun hc99 H => ?_
   refine Oq Vadd (Oq Va (KS ?_))
   exact Kg (r31, nd_59, edges_60, (k_34 + 1)) [1, 2] ⟨H, aM1, aM1, aM1⟩
  intro h49 H
  have g100 := df h49
  refine Ke ?_
  have H := llB H HL42
  dsimp only at H
  refine KS ?_
  refine Oq Vm (Oq Vadd (Oq Va (KS ?_)))
  refine pC H hx23 fun hc101 H => ?_
  exact Kg (r28, nd_32, edges_33, (i_13 + 1)) [2, 3] ⟨H, aM1, aM1, aM1, aM1, aM1, aM1⟩
 intro h26
 have g102 := df h26
 obtain rfl : r10 = 0 := by omega
 have H := hM14; (try dsimp only at H); rw [r4_Sizes_L0] at H
 refine Ke ?_
 have H := llB H HL24
 dsimp only at H
 refine KS ?_
 refine Oq Vm (Oq Vm (Oq Va (Oq Va (KS ?_))))
 have hq := rI H; subst hq
 exact Kr () rfl (.tmp rfl (.tmp rfl .nil)) [] en
theorem fn125 (p : GProgram) (pa0 : Option Addr) (pk0 : Nat) (rr : GNode × Int) (hrr : r4_Check p = .ret rr) : FT Tryz.prog 125 #[.agg #[vl pa0 pk0 p.Funcs]] [S pa0 pk0 p.Funcs] (fun g : Unit => i64ok rr.1.Kind ∧ i64ok rr.1.Func ∧ i64ok rr.1.Block ∧ i64ok rr.1.Stmt ∧ i64ok rr.2) (fun g => .tuple #[.agg #[vi rr.1.Kind, vi rr.1.Func, vi rr.1.Block, vi rr.1.Stmt], vi rr.2]) (fun g => []) := by
 refine FTi Tryz.func125 fun w0 M0 F0 => Fb 40 0 fun _ => ?_
 have hx0 := lrn rr; have H := hrr; unfold r4_Check at H
 refine KS ?_
 refine Oa (Ab [vl pa0 pk0 p.Funcs]) fun p2 => Oa (Al ze142 [vi 0, vi 0, vi 0, vi 0]) fun p3 => Oq Va (KS ?_)
 refine Oq (VldA sh84 1) ?_
 refine lbH H hx0 fun rv4 hg5 H => ?_
 have hc6 := fn158 p pa0 pk0 rv4 hg5
 refine Oc [2] ca158 hc6 ?_
 rintro - -
 refine Oq Vnot (KS ?_)
 refine pF H hx0 fun h7 H => ?_
 refine KcF h7 ?_
 have h9 := not_false h7
 refine KS ?_
 refine Oq (VldA sh84 1) ?_
 refine lbH H hx0 fun rv12 hg13 H => ?_
 have hc14 := fn160 p pa0 pk0 rv12 hg13
 refine Oc [2] ca160 hc14 ?_
 rintro c11 -
 refine Jo 0 ?_; rintro a15 k16 rfl
 refine Fb 16 0 fun _ => ?_
 refine FoS 0 fun ho18 => ?_
 refine lbH H hx0 fun rv19 hg20 H => ?_
 have hc21 := fn159 rv12 a15 k16 rv19 hg20
 refine Oc [0] ca159 hc21 ?_
 rintro - he22
 unfold i64ok at he22
 refine Oq Va (KS ?_)
 refine Oq Vm (Oq Vgeq (KS ?_))
 refine pF H hx0 fun h23 H => ?_
 refine KcF h23 ?_
 have g24 := df h23
 refine KS ?_
 refine Oq Va (KS ?_)
 refine llH H hx0 fun X32 hX33 hx34 HL35 => ?_
 refine Kl (γ := Nat × Int) (fun (r25, i_26) => ⟨[(1, p2), (2, p3), (5, vi i_26)], [Cl p3 [vi 0, vi 0, vi 0, vi 0], pv p2 [vl pa0 pk0 p.Funcs], S pa0 pk0 p.Funcs], r4_Check_L0 p r25 i_26 = X32 ∧ r25 = ((p.Funcs.length : Int) - i_26).toNat ∧ (0 : Int) ≤ i_26 ∧ i_26 ≤ (p.Funcs.length : Int) ∧ (-9223372036854775808 ≤ i_26 ∧ i_26 ≤ 9223372036854775807), r25⟩) (((p.Funcs.length : Int) - 0).toNat, 0) [1, 1, 2] ⟨hX33, rfl, aM1, aM1, aM1⟩ ?_
 rintro ⟨r25, i_26⟩ ⟨hM27, hr28, hi29, hi30, hk31⟩
 refine JJ_nx fun _ _ hL hA => ?_; dsimp only at hL hA; subst hL hA
 refine Fb 40 2 fun _ => KS ?_
 refine Oq Vm (Oq (Vfa fo84_0 1) (Oq (VldF sh82 1) (Oq (Vlen sl82) (Oq Vlss (KS ?_)))))
 refine Kc ?_ ?_
 ·intro h37
  have g38 := dt h37
  obtain ⟨r39, rfl⟩ := scc (n := r25) aM1
  have H := hM27; (try dsimp only at H); rw [r4_Check_L0] at H
  refine KS ?_
  refine Oq (Vfa fo84_0 1) (Oq (VldF sh82 1) (Oq Vm ?_))
  refine pC H hx34 fun hc40 H => ?_
  refine Oq (Vi sl82 2) ?_
  refine JJ_peek_GFunc i_26.toNat 2 rfl rng fun a41 k42 hb43 => ?_
  refine Fb 40 1 fun _ => ?_
  refine Oq (VldA sh126 0) (Oa (Al ze126 [.string (bs (Str.mk [])), .slice none 0 0]) fun p45 => Ost (Scl [0] sh126 [.string (bs ((p.Funcs.getD i_26.toNat default).Name)), vl a41 k42 ((p.Funcs.getD i_26.toNat default).Blocks)]) (KS ?_))
  refine Oq (VldA sh126 0) ?_
  refine pC H hx34 fun hc49 H => ?_
  refine lbH H hx34 fun rv47 hg48 H => ?_
  have hc50 := fn161 ((p.Funcs.getD i_26.toNat default)) a41 k42 pre rv47 hg48
  refine Oc [2] ca161 hc50 ?_
  rintro c46 -
  refine Jo 0 ?_; rintro a51 k52 rfl
  refine Fb 16 0 fun _ => ?_
  refine FoS 0 fun ho54 => ?_
  refine lbH H hx34 fun rv55 hg56 H => ?_
  have hc57 := fn159 rv47 a51 k52 rv55 hg56
  refine Oc [0] ca159 hc57 ?_
  rintro - he58
  unfold i64ok at he58
  refine Oq Va (KS ?_)
  refine Oq Vm (Oq Vgeq (KS ?_))
  refine pF H hx34 fun h59 H => ?_
  refine KcF h59 ?_
  have g60 := df h59
  refine KS ?_
  refine Oq Va (KS ?_)
  refine llH H hx34 fun X68 hX69 hx70 HL71 => ?_
  refine Kl (γ := Nat × Int) (fun (r61, k_62) => ⟨[(1, p2), (2, p3), (5, vi i_26), (6, p45), (8, vi k_62)], [Cl p45 [.string (bs ((p.Funcs.getD i_26.toNat default).Name)), vl a41 k42 ((p.Funcs.getD i_26.toNat default).Blocks)], S a41 k42 ((p.Funcs.getD i_26.toNat default).Blocks), Cl p3 [vi 0, vi 0, vi 0, vi 0], pv p2 [vl pa0 pk0 p.Funcs], S pa0 pk0 p.Funcs], r4_Check_L1 p ((p.Funcs.getD i_26.toNat default).Name) ((p.Funcs.getD i_26.toNat default).Blocks) r61 k_62 = X68 ∧ r61 = (((((p.Funcs.getD i_26.toNat default).Blocks).length : Int) : Int) - k_62).toNat ∧ (0 : Int) ≤ k_62 ∧ (k_62 ≤ (((p.Funcs.getD i_26.toNat default).Blocks).length : Int) ∨ k_62 = 0) ∧ (-9223372036854775808 ≤ k_62 ∧ k_62 ≤ 9223372036854775807), r61⟩) ((((((p.Funcs.getD i_26.toNat default).Blocks).length : Int) : Int) - 0).toNat, 0) [1, 2, 3, 3, 4] ⟨hX69, rfl, aM1, (.inr rfl), aM1⟩ ?_
  rintro ⟨r61, k_62⟩ ⟨hM63, hr64, hi65, hi66, hk67⟩
  refine JJ_nx fun _ _ hL hA => ?_; dsimp only at hL hA; subst hL hA
  refine Fb 40 1 fun _ => Fb 40 4 fun _ => KS ?_
  refine Oq Vm (Oq (Vfa fo126_1 0) (Oq (VldF sh124 0) (Oq (Vlen sl124) (Oq Vlss (KS ?_)))))
  refine Kc ?_ ?_
  ·intro h74
   have g75 := dt h74
   obtain ⟨r76, rfl⟩ := scc (n := r61) aM1
   have H := hM63; (try dsimp only at H); rw [r4_Check_L1] at H
   refine KS ?_
   refine Oq (Vfa fo126_1 0) (Oq (VldF sh124 0) (Oq Vm ?_))
   refine pC H hx70 fun hc77 H => ?_
   refine Oq (Vi sl124 1) ?_
   refine JJ_peek_GBlock k_62.toNat 1 rfl rng fun a78 k79 hb80 => ?_
   refine Fb 72 1 fun _ => ?_
   refine Oq (Vfa fo168_1 0) (Oq (VldF sh166 0) (Oq Va (KS ?_)))
   refine Oq Va (KS ?_)
   refine pC H hx70 fun hc89 H => ?_
   refine llH H hx70 fun X90 hX91 hx92 HL93 => ?_
   refine Kl (γ := Nat × Int) (fun (r82, j_83) => ⟨[(1, p2), (2, p3), (5, vi i_26), (6, p45), (8, vi k_62), (9, .slice a78 (((((p.Funcs.getD i_26.toNat default).Blocks).getD k_62.toNat default).Stmts).length) k79), (10, vi j_83)], [S a78 k79 ((((p.Funcs.getD i_26.toNat default).Blocks).getD k_62.toNat default).Stmts), Cl p45 [.string (bs ((p.Funcs.getD i_26.toNat default).Name)), vl a41 k42 ((p.Funcs.getD i_26.toNat default).Blocks)], S a41 k42 ((p.Funcs.getD i_26.toNat default).Blocks), Cl p3 [vi 0, vi 0, vi 0, vi 0], pv p2 [vl pa0 pk0 p.Funcs], S pa0 pk0 p.Funcs], r4_Check_L2 p ((p.Funcs.getD i_26.toNat default).Name) ((p.Funcs.getD i_26.toNat default).Blocks) ((((p.Funcs.getD i_26.toNat default).Blocks).getD k_62.toNat default).Stmts) r82 j_83 = X90 ∧ r82 = (((((((p.Funcs.getD i_26.toNat default).Blocks).getD k_62.toNat default).Stmts).length : Int) : Int) - j_83).toNat ∧ (0 : Int) ≤ j_83 ∧ (j_83 ≤ (((((p.Funcs.getD i_26.toNat default).Blocks).getD k_62.toNat default).Stmts).length : Int) ∨ j_83 = 0) ∧ (-9223372036854775808 ≤ j_83 ∧ j_83 ≤ 9223372036854775807), r82⟩) ((((((((p.Funcs.getD i_26.toNat default).Blocks).getD k_62.toNat default).Stmts).length : Int) : Int) - 0).toNat, 0) [1, 2, 2, 3, 3, 4] ⟨hX91, rfl, aM1, (.inr rfl), aM1⟩ ?_
   rintro ⟨r82, j_83⟩ ⟨hM84, hr85, hi86, hi87, hk88⟩
   refine JJ_nx fun _ _ hL hA => ?_; dsimp only at hL hA; subst hL hA
   refine Fb 72 0 fun _ => Fb 40 2 fun _ => Fb 40 5 fun _ => KS ?_
   refine Oq Vm (Oq Vm (Oq (Vlen sl166) (Oq Vlss (KS ?_))))
   refine Kc ?_ ?_
   ·intro h97
    have g98 := dt h97
    obtain ⟨r99, rfl⟩ := scc (n := r82) aM1
    have H := hM84; (try dsimp only at H); rw [r4_Check_L2] at H
    refine KS ?_
    refine pC H hx92 fun hc100 H => ?_
    refine JJ_peek_GStmt j_83.toNat 0 rfl rng fun a101 k102 a103 k104 hb105 hb106 => ?_
    unfold i64ok at hb105
    refine Fb 16 1 fun _ => ?_
    refine FoS 1 fun ho108 => ?_
    refine Fb 16 2 fun _ => ?_
    refine FoS 2 fun ho110 => ?_
    refine JK_drawK [0, 0, 0, 0, 12, 28, 0, 0, 128, 384, 960, 2047, 4095] fmix ?_
    refine Dv [7] (VldA sh84 0) (Dv [4] (VldA sh126 0) (Dv [] Vm (Dv [] Vm (Dv [3] (Vi sl166 0) (Dv [0] (VldA sh140 0) (Dv [] Vm (Dv [] Vm (Dv [] (Vlen sl166) ?_))))))))
    refine pC H hx92 fun hc111 H => ?_
    refine pC H hx92 fun hc112 H => ?_
    refine Dv [] Vsub (Dv [] Veql ?_)
    refine lbH H hx92 fun rv113 hg114 H => ?_
    refine Dx [1, 2, 5, 8] [] [1, 2, 3, 4, 0] (fun G => vi rv113) [fun G => SP.fact (i64ok rv113)] (fun G => xC [3, 2, 0, 1] ca162 (fn162 p pa0 pk0 ((p.Funcs.getD i_26.toNat default)) a41 k42 ((((((p.Funcs.getD i_26.toNat default).Blocks).getD k_62.toNat default).Stmts).getD j_83.toNat default)) a101 k102 a103 k104 ((j_83 == ((((((p.Funcs.getD i_26.toNat default).Blocks).getD k_62.toNat default).Stmts).length : Int) - 1))) pre pre pre rv113 hg114)) (Dv [] Va ?_)
    refine Dn ⟨by kernel_rfl, fun G => ?_⟩
    refine Jw2 [(1, p2), (2, p3), (5, vi i_26), (6, p45), (8, vi k_62), (9, .slice a78 (((((p.Funcs.getD i_26.toNat default).Blocks).getD k_62.toNat default).Stmts).length) k79), (10, vi j_83), (11, vi rv113)] [0, 1, 2, 3, 4, 5, 6, 7, 8] [SP.fact (i64ok rv113)] ?_
    refine Jf 9 rfl ?_; rintro he115
    unfold i64ok at he115
    refine Jk [0, 1, 2, 3, 4, 4, 5, 5, 6] ?_
    refine KS ?_
    refine Oq Vm (Oq Vneq (KS ?_))
    refine pF H hx92 fun h116 H => ?_
    refine KcF h116 ?_
    have g117 := eq_of_bne_false h116
    refine KS ?_
    refine Oq Vm (Oq Vadd (Oq Va (KS ?_)))
    refine pC H hx92 fun hc118 H => ?_
    exact Kg (r99, (j_83 + 1)) [3, 4, 4, 5, 5, 6] ⟨H, aM1, aM1, aM1, aM1⟩
   intro h97
   have g119 := df h97
   obtain rfl : r82 = 0 := by omega
   have H := hM84; (try dsimp only at H); rw [r4_Check_L2] at H
   refine Ke ?_
   have H := llB H HL93
   refine KS ?_
   refine Oq Vm (Oq Vadd (Oq Va (KS ?_)))
   refine pC H hx70 fun hc120 H => ?_
   exact Kg (r76, (k_62 + 1)) [1, 1, 2, 2, 3] ⟨H, aM1, aM1, aM1, aM1⟩
  intro h74
  have g121 := df h74
  obtain rfl : r61 = 0 := by omega
  have H := hM63; (try dsimp only at H); rw [r4_Check_L1] at H
  refine Ke ?_
  have H := llB H HL71
  refine KS ?_
  refine Oq Vm (Oq Vadd (Oq Va (KS ?_)))
  refine pC H hx34 fun hc122 H => ?_
  exact Kg (r39, (i_26 + 1)) [2, 2, 3] ⟨H, aM1, aM1, aM1, aM1⟩
 intro h37
 have g123 := df h37
 obtain rfl : r25 = 0 := by omega
 have H := hM27; (try dsimp only at H); rw [r4_Check_L0] at H
 refine Ke ?_
 have H := llB H HL35
 refine KS ?_
 refine Oq (VldA sh84 1) ?_
 refine lbH H hx0 fun rv124 hg125 H => ?_
 have hc126 := fn163 p pa0 pk0 rv124 hg125
 refine Oc [2] ca163 hc126 ?_
 rintro - ⟨he127, he128⟩
 unfold i64ok at he127 he128
 refine Oq Vm (Oq Vx (Oq Vx (Oq Va (Oq Va (KS ?_)))))
 refine Oq (VldA sh84 1) ?_
 refine lbH H hx0 fun rv130 hg131 H => ?_
 have hc132 := fn126 p pa0 pk0 rv130 hg131
 refine Oc [2] ca126 hc132 ?_
 rintro c129 -
 refine Jo 0 ?_; rintro a133 k134 rfl
 refine Fb 16 0 fun _ => ?_
 refine FoS 0 fun ho136 => ?_
 refine Oq (Vlen sl138) (Oq Vgtr (Oq Vm ?_))
 refine pF H hx0 fun h137 H => ?_
 refine JsF 92 h137 ?_
 have g138 := df h137
 refine Oq Vm (Oq Vgtr (Oq Vpf (Oq Vm ?_)))
 refine pF H hx0 fun h139 H => ?_
 refine JsF 96 h139 ?_
 have g140 := df h139
 refine Oq Vm (Oq Vgtr (Oq Vpf (KS ?_)))
 refine pF H hx0 fun h141 H => ?_
 refine KcF h141 ?_
 have g142 := df h141
 refine KS ?_
 refine Oq (Vbd st142 [vi 0, vi 0, vi 0, vi 0]) (Ost (Scl [1] sh142 [vi 0, vi 0, vi 0, vi 0]) (Oq Va (KS ?_)))
 have hq := rI H; subst hq
 exact Kr () rfl (.cellN 0 rfl sh142 rfl (reads_Cl _ _) rfl (.tmp rfl .nil)) [] en
theorem fn127 (p : GProgram) (pa0 : Option Addr) (pk0 : Nat) (rr : List GNode) (hrr : r7_List p = .ret rr) : FT Tryz.prog 127 #[.agg #[vl pa0 pk0 p.Funcs]] [S pa0 pk0 p.Funcs] (fun g : Value => True) (fun g => g) (fun g => [sl g rr]) := by
 refine FTi Tryz.func127 fun w0 M0 F0 => Fb 40 0 fun _ => ?_
 have hx0 := lrn rr; have H := hrr; unfold r7_List at H
 refine KS ?_
 refine Oa (Ab [vl pa0 pk0 p.Funcs]) fun p2 => Oq Va (KS ?_)
 refine Oq Va (KS ?_)
 refine Oq (VldA sh84 0) ?_
 refine lbH H hx0 fun rv3 hg4 H => ?_
 have hc5 := fn125 p pa0 pk0 rv3 hg4
 refine Oc [1] ca125 hc5 ?_
 rintro - ⟨he6, he7, he8, he9, he10⟩
 unfold i64ok at he6 he7 he8 he9 he10
 refine Oq Vm (Oq Vx (Oq Vx (Oa (Al ze142 [vi 0, vi 0, vi 0, vi 0]) fun p11 => Ost (Scl [0] sh142 [vi rv3.1.Kind, vi rv3.1.Func, vi rv3.1.Block, vi rv3.1.Stmt]) (Oq Va (KS ?_)))))
 refine Oq Vm (Oq Vneq (KS ?_))
 refine pF H hx0 fun h12 H => ?_
 refine KcF h12 ?_
 have g13 := eq_of_bne_false h12
 refine KS ?_
 refine Oq Va (KS ?_)
 refine Jl [] (Ent.osNil (α := GNode)) ?_
 refine llH H hx0 fun X24 hX25 hx26 HL27 => ?_
 refine Kl (γ := Nat × List GNode × Int × Option Addr × Nat) (fun (r14, out_15, i_16, a17, k18) => ⟨[(1, p2), (3, vl a17 k18 out_15), (6, vi i_16)], [O a17 k18 out_15, pv p2 [vl pa0 pk0 p.Funcs], S pa0 pk0 p.Funcs], r7_List_L0 p r14 out_15 i_16 = X24 ∧ r14 = ((p.Funcs.length : Int) - i_16).toNat ∧ (0 : Int) ≤ i_16 ∧ i_16 ≤ (p.Funcs.length : Int) ∧ (-9223372036854775808 ≤ i_16 ∧ i_16 ≤ 9223372036854775807), r14⟩) (((p.Funcs.length : Int) - 0).toNat, [], 0, none, 0) [0, 1, 2] ⟨hX25, rfl, aM1, aM1, aM1⟩ ?_
 rintro ⟨r14, out_15, i_16, a17, k18⟩ ⟨hM19, hr20, hi21, hi22, hk23⟩
 refine JJ_nx fun _ _ hL hA => ?_; dsimp only at hL hA; subst hL hA
 refine Fb 32 0 fun _ => Fb 40 2 fun _ => KS ?_
 refine Oq Vm (Oq (Vfa fo84_0 1) (Oq (VldF sh82 1) (Oq (Vlen sl82) (Oq Vlss (KS ?_)))))
 refine Kc ?_ ?_
 ·intro h30
  have g31 := dt h30
  obtain ⟨r32, rfl⟩ := scc (n := r14) aM1
  have H := hM19; (try dsimp only at H); rw [r7_List_L0] at H
  refine KS ?_
  refine Oq Vm (Oq Vm (Oq (Vbd st142 [vi 1, vi i_16, vi (-1), vi (-1)]) (Oa (AsV sl133 sz133 [.agg #[vi 1, vi i_16, vi (-1), vi (-1)]] [vi 1, vi i_16, vi (-1), vi (-1)]) fun c33 => ?_)))
  refine Jo 0 ?_; rintro a34 k35 rfl
  refine Jl [0] (Ent.cr1 (α := GNode) (A := []) _ (GNode.mk 1 i_16 (-1) (-1)) _ aB1 (fun h => ⟨rfl, aL1, aL1, aL1, aL1⟩)) ?_
  refine pC H hx26 fun hc36 H => ?_
  refine Oa (ApO [1, 0] sl133 sl133 sz133) fun c37 => ?_
  refine Jo 0 ?_; rintro a38 k39 rfl
  refine Fb 32 0 fun _ => ?_
  have hn41 := la out_15 ([(GNode.mk 1 i_16 (-1) (-1))] : List GNode)
  refine Oq Va (KS ?_)
  refine Oq Va (KS ?_)
  refine llH H hx26 fun X49 hX50 hx51 HL52 => ?_
  refine Kl (γ := Nat × List GNode × Int × Option Addr × Nat) (fun (r42, out_43, k_44, a45, k46) => ⟨[(1, p2), (6, vi i_16), (3, vl a45 k46 out_43), (7, vi k_44)], [O a45 k46 out_43, pv p2 [vl pa0 pk0 p.Funcs], S pa0 pk0 p.Funcs], r7_List_L1 p i_16 r42 out_43 k_44 = X49 ∧ (-9223372036854775808 ≤ k_44 ∧ k_44 ≤ 9223372036854775807), r42⟩) (100000, (out_15 ++ [(GNode.mk 1 i_16 (-1) (-1))]), 0, a38, k39) [0, 0, 1] ⟨hX50, aM1⟩ ?_
  rintro ⟨r42, out_43, k_44, a45, k46⟩ ⟨hM47, hk48⟩
  refine JJ_nx fun _ _ hL hA => ?_; dsimp only at hL hA; subst hL hA
  refine Fb 32 0 fun _ => Fb 40 2 fun _ => ?_
  rcases r42 with _ | r42
  ·exact absurd (hM47.symm.trans rfl) hx51
  have H := hM47; (try dsimp only at H); rw [r7_List_L1] at H
  refine KS ?_
  refine Oq Vm (Oq (Vfa fo84_0 1) (Oq (VldF sh82 1) (Oq Vm ?_)))
  refine pC H hx51 fun hc55 H => ?_
  refine Oq (Vi sl82 2) ?_
  refine JJ_peek_GFunc i_16.toNat 2 rfl rng fun a56 k57 hb58 => ?_
  refine Fb 40 1 fun _ => ?_
  refine Oq (Vfa fo126_1 0) (Oq (VldF sh124 0) (Oq (Vlen sl124) (Oq Vlss (KS ?_))))
  refine pC H hx51 fun hc61 H => ?_
  refine KcH H ?_ ?_
  ·intro h60 H
   have g62 := dt h60
   refine KS ?_
   refine Oq (Vfa fo84_0 3) (Oq (VldF sh82 3) (Oq Vm (Oq (Vi sl82 4) (Oq (Vfa fo126_1 0) (Oq (VldF sh124 0) (Oq Vm ?_))))))
   refine pC H hx51 fun hc63 H => ?_
   refine pC H hx51 fun hc64 H => ?_
   refine Oq (Vi sl124 1) ?_
   refine JJ_peek_GBlock k_44.toNat 1 rfl rng fun a65 k66 hb67 => ?_
   refine Fb 72 1 fun _ => ?_
   refine Oq (Vfa fo168_1 0) (Oq (VldF sh166 0) (Oq Va (KS ?_)))
   refine Oq Va (KS ?_)
   refine pC H hx51 fun hc79 H => ?_
   refine llH H hx51 fun X80 hX81 hx82 HL83 => ?_
   refine Kl (γ := Nat × List GNode × Int × Option Addr × Nat) (fun (r69, out_70, j_71, a72, k73) => ⟨[(1, p2), (6, vi i_16), (3, vl a72 k73 out_70), (7, vi k_44), (8, .slice a65 (((((p.Funcs.getD i_16.toNat default).Blocks).getD k_44.toNat default).Stmts).length) k66), (9, vi j_71)], [O a72 k73 out_70, S a65 k66 ((((p.Funcs.getD i_16.toNat default).Blocks).getD k_44.toNat default).Stmts), pv p2 [vl pa0 pk0 p.Funcs], S pa0 pk0 p.Funcs], r7_List_L2 i_16 k_44 ((((p.Funcs.getD i_16.toNat default).Blocks).getD k_44.toNat default).Stmts) r69 out_70 j_71 = X80 ∧ r69 = (((((((p.Funcs.getD i_16.toNat default).Blocks).getD k_44.toNat default).Stmts).length : Int) : Int) - j_71).toNat ∧ (0 : Int) ≤ j_71 ∧ (j_71 ≤ (((((p.Funcs.getD i_16.toNat default).Blocks).getD k_44.toNat default).Stmts).length : Int) ∨ j_71 = 0) ∧ (-9223372036854775808 ≤ j_71 ∧ j_71 ≤ 9223372036854775807), r69⟩) ((((((((p.Funcs.getD i_16.toNat default).Blocks).getD k_44.toNat default).Stmts).length : Int) : Int) - 0).toNat, out_43, 0, a45, k46) [4, 1, 4, 5] ⟨hX81, rfl, aM1, (.inr rfl), aM1⟩ ?_
   rintro ⟨r69, out_70, j_71, a72, k73⟩ ⟨hM74, hr75, hi76, hi77, hk78⟩
   refine JJ_nx fun _ _ hL hA => ?_; dsimp only at hL hA; subst hL hA
   refine Fb 32 0 fun _ => Fb 72 1 fun _ => Fb 40 3 fun _ => KS ?_
   refine Oq Vm (Oq Vm (Oq (Vlen sl166) (Oq Vlss (KS ?_))))
   refine Kc ?_ ?_
   ·intro h87
    have g88 := dt h87
    obtain ⟨r89, rfl⟩ := scc (n := r69) aM1
    have H := hM74; (try dsimp only at H); rw [r7_List_L2] at H
    refine KS ?_
    refine Oq Vm (Oq Vm (Oq Vm (Oq Vm (Oq (Vbd st142 [vi 3, vi i_16, vi k_44, vi j_71]) (Oa (AsV sl133 sz133 [.agg #[vi 3, vi i_16, vi k_44, vi j_71]] [vi 3, vi i_16, vi k_44, vi j_71]) fun c90 => ?_)))))
    refine Jo 0 ?_; rintro a91 k92 rfl
    refine Jl [0] (Ent.cr1 (α := GNode) (A := []) _ (GNode.mk 3 i_16 k_44 j_71) _ aB1 (fun h => ⟨rfl, aL1, aL1, aL1, aL1⟩)) ?_
    refine pC H hx82 fun hc93 H => ?_
    refine Oa (ApO [1, 0] sl133 sl133 sz133) fun c94 => ?_
    refine Jo 0 ?_; rintro a95 k96 rfl
    refine Fb 32 0 fun _ => ?_
    have hn98 := la out_70 ([(GNode.mk 3 i_16 k_44 j_71)] : List GNode)
    refine Oq Va (KS ?_)
    refine Oq Vm (Oq Vm ?_)
    refine pC H hx82 fun hc99 H => ?_
    refine Oq (Vi sl166 1) ?_
    refine JJ_peek_GStmt j_71.toNat 1 rfl rng fun a100 k101 a102 k103 hb104 hb105 => ?_
    unfold i64ok at hb104
    refine Fb 16 1 fun _ => ?_
    refine FoS 1 fun ho107 => ?_
    refine Fb 16 2 fun _ => ?_
    refine FoS 2 fun ho109 => ?_
    refine Oq (Vfa fo140_0 0) (Oq (VldF sh3 0) (Oq Veql (KS ?_)))
    refine pC H hx82 fun hc111 H => ?_
    refine pF H hx82 fun h110 H => ?_
    refine KcF h110 ?_
    have g112 := ne_of_beq_false h110
    refine KS ?_
    refine Oq Vm (Oq Vadd (Oq Va (KS ?_)))
    refine pC H hx82 fun hc113 H => ?_
    exact Kg (r89, (out_70 ++ [(GNode.mk 3 i_16 k_44 j_71)]), (j_71 + 1), a95, k96) [3, 3, 4, 5] ⟨H, aM1, aM1, aM1, aM1⟩
   intro h87
   have g114 := df h87
   obtain rfl : r69 = 0 := by omega
   have H := hM74; (try dsimp only at H); rw [r7_List_L2] at H
   refine Ke ?_
   have H := llB H HL83
   refine KS ?_
   refine Oq Vm ?_
   refine pC H hx51 fun hc115 H => ?_
   refine Oq Vadd (Oq Va (KS ?_))
   exact Kg (r42, out_70, (k_44 + 1), a72, k73) [0, 1, 2] ⟨H, aM1⟩
  intro h60 H
  have g116 := df h60
  refine Ke ?_
  have H := llB H HL52
  refine KS ?_
  refine Oq Vm (Oq Vm (Oq (Vbd st142 [vi 2, vi i_16, vi (-1), vi (-1)]) (Oa (AsV sl133 sz133 [.agg #[vi 2, vi i_16, vi (-1), vi (-1)]] [vi 2, vi i_16, vi (-1), vi (-1)]) fun c117 => ?_)))
  refine Jo 0 ?_; rintro a118 k119 rfl
  refine Jl [0] (Ent.cr1 (α := GNode) (A := []) _ (GNode.mk 2 i_16 (-1) (-1)) _ aB1 (fun h => ⟨rfl, aL1, aL1, aL1, aL1⟩)) ?_
  refine pC H hx26 fun hc120 H => ?_
  refine Oa (ApO [3, 0] sl133 sl133 sz133) fun c121 => ?_
  refine Jo 0 ?_; rintro a122 k123 rfl
  refine Fb 32 0 fun _ => ?_
  have hn125 := la out_43 ([(GNode.mk 2 i_16 (-1) (-1))] : List GNode)
  refine Oq Va (KS ?_)
  refine Oq Vm (Oq Vadd (Oq Va (KS ?_)))
  refine pC H hx26 fun hc126 H => ?_
  exact Kg (r32, (out_43 ++ [(GNode.mk 2 i_16 (-1) (-1))]), (i_16 + 1), a122, k123) [0, 2, 3] ⟨H, aM1, aM1, aM1, aM1⟩
 intro h30
 have g127 := df h30
 obtain rfl : r14 = 0 := by omega
 have H := hM19; (try dsimp only at H); rw [r7_List_L0] at H
 refine Ke ?_
 have H := llB H HL27
 refine KS ?_
 refine Oq Vm (Oq Va (KS ?_))
 refine Jl [0] (Ent.freeze _ _) ?_
 have hq := rI H; subst hq
 exact Kr (vl a17 k18 out_15) rfl (.tmp rfl .nil) [0] trivial
theorem fn128 (s : GStmt) (sa2 : Option Addr) (sk2 : Nat) (sa3 : Option Addr) (sk3 : Nat) (hs_0 : i64ok s.Op) (hs_1 : s.Def.b.length ≤ 140737488355328) (rr : Bool) (hrr : r4_Defines s = .ret rr) : FT Tryz.prog 128 #[.agg #[vi s.Op, .string (bs s.Def), vl sa2 sk2 s.Uses, vl sa3 sk3 s.Targets]] [S sa2 sk2 s.Uses, S sa3 sk3 s.Targets] (fun g : Unit => True) (fun g => vb rr) (fun g => []) := by
 refine FTi Tryz.func128 fun w0 M0 F0 => ?_
 unfold i64ok at hs_0
 refine Fb 16 0 fun _ => ?_
 refine FoS 0 fun ho2 => ?_
 refine Fb 16 1 fun _ => ?_
 refine FoS 1 fun ho4 => ?_
 have hx0 := lrn rr; have H := hrr; unfold r4_Defines at H
 refine KS ?_
 refine Oa (Ab [vi s.Op, .string (bs s.Def), vl sa2 sk2 s.Uses, vl sa3 sk3 s.Targets]) fun p5 => Oq Va (KS ?_)
 refine Oq (Vfa fo140_0 0) (Oq (VldF sh3 0) (Oq Veql (Oq Vm ?_)))
 refine JsH 6 H ?_ ?_
 ·intro h6 H
  have g7 := eq_of_beq h6
  refine Osk (Osk (Osk (Oq Vpt (Oq Vm (Osk (Osk (Osk (Oq Vpt (Oq Va ?_)))))))))
  refine KS ?_
  have hq := rI H; subst hq
  exact Kr () rfl (.tmp rfl .nil) [] trivial
 intro h6 H
 have g8 := ne_of_beq_false h6
 refine Oq (Vfa fo140_0 0) (Oq (VldF sh3 0) (Oq Veql (Oq Vpf (Oq Vm ?_))))
 refine pF H hx0 fun h9 H => ?_
 refine JsF 11 h9 ?_
 have g10 := ne_of_beq_false h9
 refine Oq (Vfa fo140_0 0) (Oq (VldF sh3 0) (Oq Veql (Oq Vpf (Oq Va (KS ?_)))))
 have hq := rI H; subst hq
 exact Kr () rfl (.tmp rfl .nil) [] trivial
theorem fn167 (l : List GNode) (la0 : Option Addr) (lk0 : Nat) (n : GNode) (hn_0 : i64ok n.Kind) (hn_1 : i64ok n.Func) (hn_2 : i64ok n.Block) (hn_3 : i64ok n.Stmt) (rr : Int) (hrr : r7_Index l n = .ret rr) : FT Tryz.prog 167 #[vl la0 lk0 l, .agg #[vi n.Kind, vi n.Func, vi n.Block, vi n.Stmt]] [S la0 lk0 l] (fun g : Unit => i64ok rr) (fun g => vi rr) (fun g => []) := by
 refine FTi Tryz.func167 fun w0 M0 F0 => ?_
 unfold i64ok at hn_0 hn_1 hn_2 hn_3
 refine Fb 32 0 fun _ => ?_
 have hx0 := lrn rr; have H := hrr; unfold r7_Index at H
 refine KS ?_
 refine Oa (Ab [vi n.Kind, vi n.Func, vi n.Block, vi n.Stmt]) fun p2 => Oq Va (KS ?_)
 refine Oq Va (KS ?_)
 refine llH H hx0 fun X10 hX11 hx12 HL13 => ?_
 refine Kl (γ := Nat × Int) (fun (r3, i_4) => ⟨[(0, vl la0 lk0 l), (3, p2), (5, vi i_4)], [pv p2 [vi n.Kind, vi n.Func, vi n.Block, vi n.Stmt], S la0 lk0 l], r7_Index_L0 l n r3 i_4 = X10 ∧ r3 = ((l.length : Int) - i_4).toNat ∧ (0 : Int) ≤ i_4 ∧ i_4 ≤ (l.length : Int) ∧ (-9223372036854775808 ≤ i_4 ∧ i_4 ≤ 9223372036854775807), r3⟩) (((l.length : Int) - 0).toNat, 0) [0, 1] ⟨hX11, rfl, aM1, aM1, aM1⟩ ?_
 rintro ⟨r3, i_4⟩ ⟨hM5, hr6, hi7, hi8, hk9⟩
 refine JJ_nx fun _ _ hL hA => ?_; dsimp only at hL hA; subst hL hA
 refine Fb 32 1 fun _ => KS ?_
 refine Oq Vm (Oq Vm (Oq (Vlen sl133) (Oq Vlss (KS ?_))))
 refine Kc ?_ ?_
 ·intro h15
  have g16 := dt h15
  obtain ⟨r17, rfl⟩ := scc (n := r3) aM1
  have H := hM5; (try dsimp only at H); rw [r7_Index_L0] at H
  refine KS ?_
  refine pC H hx12 fun hc18 H => ?_
  refine JJ_peek_GNode i_4.toNat 1 rfl rng fun hb19 hb20 hb21 hb22 => ?_
  unfold i64ok at hb19 hb20 hb21 hb22
  refine Kq [0, 0, 3, 7, 0, 31] fmix ?_
  refine Qv [] Vm (Qv [] Vm (Qv [2] (Vi sl133 0) (Qv [0] (VldA sh142 0) (Qv [1] (VldA sh142 0) (Qv [] (VeqA eqi142 (l := [(l.getD i_4.toNat default).Kind, (l.getD i_4.toNat default).Func, (l.getD i_4.toNat default).Block, (l.getD i_4.toNat default).Stmt]) (m := [n.Kind, n.Func, n.Block, n.Stmt])) ?_)))))
  refine Qn ⟨by kernel_rfl, ?_⟩
  refine pC H hx12 fun hc24 H => ?_
  refine KcH H ?_ ?_
  ·intro h23 H
   have g25 := eq_of_beq h23
   refine KS ?_
   refine Oq Vm (Oq Va (KS ?_))
   have H := llR H HL13
   have hq := rI H; subst hq
   exact Kr () rfl (.tmp rfl .nil) [] en
  intro h23 H
  have g26 := ne_of_beq_false h23
  refine KS ?_
  refine Oq Vm (Oq Vadd (Oq Va (KS ?_)))
  refine pC H hx12 fun hc27 H => ?_
  exact Kg (r17, (i_4 + 1)) [1, 2] ⟨H, aM1, aM1, aM1, aM1⟩
 intro h15
 have g28 := df h15
 obtain rfl : r3 = 0 := by omega
 have H := hM5; (try dsimp only at H); rw [r7_Index_L0] at H
 exact absurd H.symm hx12
theorem fn131 (p : GProgram) (pa0 : Option Addr) (pk0 : Nat) (n : GNode) (hn_0 : i64ok n.Kind) (hn_1 : i64ok n.Func) (hn_2 : i64ok n.Block) (hn_3 : i64ok n.Stmt) (rr : Int) (hrr : r7_Find p n = .ret rr) : FT Tryz.prog 131 #[.agg #[vl pa0 pk0 p.Funcs], .agg #[vi n.Kind, vi n.Func, vi n.Block, vi n.Stmt]] [S pa0 pk0 p.Funcs] (fun g : Unit => i64ok rr) (fun g => vi rr) (fun g => []) := by
 refine FTi Tryz.func131 fun w0 M0 F0 => ?_
 unfold i64ok at hn_0 hn_1 hn_2 hn_3
 refine Fb 40 0 fun _ => ?_
 have hx0 := lrn rr; have H := hrr; unfold r7_Find at H
 refine KS ?_
 refine Oa (Ab [vl pa0 pk0 p.Funcs]) fun p2 => Oa (Ab [vi n.Kind, vi n.Func, vi n.Block, vi n.Stmt]) fun p3 => Oq Va (KS ?_)
 refine JK_drawK [0, 1, 0, 7, 15] fmix ?_
 refine Dv [1] (VldA sh84 0) ?_
 refine lbH H hx0 fun rv5 hg6 H => ?_
 refine Dx [2] [] [2, 0, 1] (fun G => (G.g 1 0)) [fun G => SP.fact (True), fun G => sl (G.g 1 0) rv5] (fun G => xC [0] ca127 (fn127 p pa0 pk0 rv5 hg6)) (Dv [0] (VldA sh142 0) ?_)
 refine lbH H hx0 fun rv10 hg11 H => ?_
 refine Dx [4] [] [1, 0] (fun G => vi rv10) [fun G => SP.fact (i64ok rv10)] (fun G => xD [0] ca167 rfl rfl rfl (FT_open (γ := Unit) (I := fun g => i64ok rv10) (V := fun g => vi rv10) (B := fun g => []) (R := sl (G.g 1 0) rv5) sl_slice (fun aq7 kq8 eq9 => by rw [eq9]; exact FT_ent (Ent.take (is := [0]) rfl) (fn167 rv5 aq7 kq8 n pre pre pre pre rv10 hg11)))) (Dv [] Va ?_)
 refine Dn ⟨by kernel_rfl, fun G => ?_⟩
 refine Jw2 [(4, vi rv10)] [0, 1, 2] [SP.fact (True), sl (G.g 1 0) rv5, SP.fact (i64ok rv10)] ?_
 generalize G.g 1 0 = c4
 refine Jf 5 rfl ?_; rintro he12
 unfold i64ok at he12
 refine Jk [0, 1, 2, 4] ?_
 refine Jo 3 ?_; rintro a13 k14 rfl
 refine Fb 32 3 fun _ => ?_
 have hq := rI H; subst hq
 exact Kr () rfl (.tmp rfl .nil) [] en
theorem fn90 (p : GProgram) (pa0 : Option Addr) (pk0 : Nat) (n : GNode) (hn_0 : i64ok n.Kind) (hn_1 : i64ok n.Func) (hn_2 : i64ok n.Block) (hn_3 : i64ok n.Stmt) (rr : GStmt × Bool) (hrr : r7_Stmt p n = .ret rr) : FT Tryz.prog 90 #[.agg #[vl pa0 pk0 p.Funcs], .agg #[vi n.Kind, vi n.Func, vi n.Block, vi n.Stmt]] [S pa0 pk0 p.Funcs] (fun g : Value × Value => i64ok rr.1.Op ∧ rr.1.Def.b.length ≤ 140737488355328) (fun g => .tuple #[.agg #[vi rr.1.Op, .string (bs rr.1.Def), g.1, g.2], vb rr.2]) (fun g => [sl g.1 rr.1.Uses, sl g.2 rr.1.Targets]) := by
 refine FTi Tryz.func90 fun w0 M0 F0 => ?_
 unfold i64ok at hn_0 hn_1 hn_2 hn_3
 refine Fb 40 0 fun _ => ?_
 have hx0 := lrn rr; have H := hrr; unfold r7_Stmt at H
 refine KS ?_
 refine Oa (Ab [vl pa0 pk0 p.Funcs]) fun p2 => Oa (Ab [vi n.Kind, vi n.Func, vi n.Block, vi n.Stmt]) fun p3 => Oa (Al ze140 [vi 0, .string (bs (Str.mk [])), .slice none 0 0, .slice none 0 0]) fun p4 => Oq Va (KS ?_)
 refine Oq (VldA sh84 2) (Oq (VldA sh142 1) ?_)
 refine lbH H hx0 fun rv5 hg6 H => ?_
 have hc7 := fn131 p pa0 pk0 n pre pre pre pre rv5 hg6
 refine Oc [3] ca131 hc7 ?_
 rintro - he8
 unfold i64ok at he8
 refine Oq Vlss (Oq Vm ?_)
 refine pF H hx0 fun h9 H => ?_
 refine JsF 10 h9 ?_
 have g10 := df h9
 refine Oq (Vfa fo142_0 1) (Oq (VldF sh3 1) (Oq Vneq (Oq Vm ?_)))
 refine JsH 14 H ?_ ?_
 ·intro h11 H
  have g12 := ne_of_bne h11
  refine Oq (Vfa fo142_0 1) (Oq (VldF sh3 1) (Oq Vneq (Oq Vpt (Oq Vpf (KS ?_)))))
  refine pT H hx0 fun h13 H => ?_
  refine KcT h13 ?_
  have g14 := ne_of_bne h13
  refine KS ?_
  refine Oq (Vbd st140 [vi 0, .string (bs (Str.mk [])), .slice none 0 0, .slice none 0 0]) (Ost (Scl [0] sh140 [vi 0, .string (bs (Str.mk [])), .slice none 0 0, .slice none 0 0]) (Oq Va (KS ?_)))
  refine Jl [] (Ent.slNil (α := Str)) ?_
  have hq := rI H; subst hq
  exact Kr (.slice none 0 0, .slice none 0 0) rfl (.cellN 1 rfl sh140 rfl (reads_Cl _ _) rfl (.tmp rfl .nil)) [0, 0] en
 intro h11 H
 have g15 := eq_of_bne_false h11
 refine Osk (Osk (Osk (Oq Vpf (Oq Vpf (KS ?_)))))
 refine Kf (KS ?_)
 refine pC H hx0 fun hc16 H => ?_
 refine JJ_peek_GFunc n.Func.toNat 3 rfl rng fun a17 k18 hb19 => ?_
 refine Fb 40 1 fun _ => ?_
 refine pC H hx0 fun hc21 H => ?_
 refine pC H hx0 fun hc22 H => ?_
 refine JJ_peek_GBlock n.Block.toNat 1 rfl rng fun a23 k24 hb25 => ?_
 refine Fb 72 1 fun _ => ?_
 refine pC H hx0 fun hc27 H => ?_
 refine pC H hx0 fun hc28 H => ?_
 refine JJ_peek_GStmt n.Stmt.toNat 1 rfl rng fun a29 k30 a31 k32 hb33 hb34 => ?_
 unfold i64ok at hb33
 refine Fb 16 1 fun _ => ?_
 refine FoS 1 fun ho36 => ?_
 refine Fb 16 2 fun _ => ?_
 refine FoS 2 fun ho38 => ?_
 refine JK_drawK [0, 1, 0, 4, 15, 31, 63, 0, 128, 511, 1023, 2047, 0, 4096, 16383, 32767, 65535, 131071] fmix ?_
 refine Dv [9] (Vfa fo84_0 0) (Dv [9] (VldF sh82 0) (Dv [8] (Vfa fo142_1 0) (Dv [8] (VldF sh3 0) (Dv [10] (Vi sl82 0) (Dv [5] (Vfa fo126_1 0) (Dv [5] (VldF sh124 0) (Dv [8] (Vfa fo142_2 0) (Dv [8] (VldF sh3 0) (Dv [6] (Vi sl124 0) ?_)))))))))
 refine Dv [3] (Vfa fo168_1 0) (Dv [3] (VldF sh166 0) (Dv [8] (Vfa fo142_3 0) (Dv [8] (VldF sh3 0) (Dv [4] (Vi sl166 0) (Dv [0] (VldA sh140 0) (Dx0 [7] [7] [0] [fun G => Cl p4 [vi ((((((p.Funcs.getD n.Func.toNat default).Blocks).getD n.Block.toNat default).Stmts).getD n.Stmt.toNat default).Op), .string (bs ((((((p.Funcs.getD n.Func.toNat default).Blocks).getD n.Block.toNat default).Stmts).getD n.Stmt.toNat default).Def)), .slice a29 (((((((p.Funcs.getD n.Func.toNat default).Blocks).getD n.Block.toNat default).Stmts).getD n.Stmt.toNat default).Uses).length) k30, .slice a31 (((((((p.Funcs.getD n.Func.toNat default).Blocks).getD n.Block.toNat default).Stmts).getD n.Stmt.toNat default).Targets).length) k32]] (fun G => xS (Scl [0] sh140 [vi ((((((p.Funcs.getD n.Func.toNat default).Blocks).getD n.Block.toNat default).Stmts).getD n.Stmt.toNat default).Op), .string (bs ((((((p.Funcs.getD n.Func.toNat default).Blocks).getD n.Block.toNat default).Stmts).getD n.Stmt.toNat default).Def)), .slice a29 (((((((p.Funcs.getD n.Func.toNat default).Blocks).getD n.Block.toNat default).Stmts).getD n.Stmt.toNat default).Uses).length) k30, .slice a31 (((((((p.Funcs.getD n.Func.toNat default).Blocks).getD n.Block.toNat default).Stmts).getD n.Stmt.toNat default).Targets).length) k32])) (Dv [] Va ?_)))))))
 refine Dn ⟨by kernel_rfl, fun G => ?_⟩
 refine Jw2 [(4, p4), (5, vb true)] [0, 1, 2, 3, 4, 5, 6, 8, 9, 10] [Cl p4 [vi ((((((p.Funcs.getD n.Func.toNat default).Blocks).getD n.Block.toNat default).Stmts).getD n.Stmt.toNat default).Op), .string (bs ((((((p.Funcs.getD n.Func.toNat default).Blocks).getD n.Block.toNat default).Stmts).getD n.Stmt.toNat default).Def)), .slice a29 (((((((p.Funcs.getD n.Func.toNat default).Blocks).getD n.Block.toNat default).Stmts).getD n.Stmt.toNat default).Uses).length) k30, .slice a31 (((((((p.Funcs.getD n.Func.toNat default).Blocks).getD n.Block.toNat default).Stmts).getD n.Stmt.toNat default).Targets).length) k32]] ?_
 refine pC H hx0 fun hc39 H => ?_
 have hq := rI H; subst hq
 exact Kr (.slice a29 (((((((p.Funcs.getD n.Func.toNat default).Blocks).getD n.Block.toNat default).Stmts).getD n.Stmt.toNat default).Uses).length) k30, .slice a31 (((((((p.Funcs.getD n.Func.toNat default).Blocks).getD n.Block.toNat default).Stmts).getD n.Stmt.toNat default).Targets).length) k32) rfl (.cellN 10 rfl sh140 rfl (reads_Cl _ _) rfl (.tmp rfl .nil)) [1, 2] en
theorem fn88 (p : GProgram) (pa0 : Option Addr) (pk0 : Nat) (kind : Int) (hkind_0 : i64ok kind) (rr : List GFact × Int) (hrr : r7_Facts p kind = .ret rr) : FT Tryz.prog 88 #[.agg #[vl pa0 pk0 p.Funcs], vi kind] [S pa0 pk0 p.Funcs] (fun g : Value => i64ok rr.2) (fun g => .tuple #[g, vi rr.2]) (fun g => [sl g rr.1]) := by
 refine FTi Tryz.func88 fun w0 M0 F0 => ?_
 unfold i64ok at hkind_0
 refine Fb 40 0 fun _ => ?_
 have hx0 := lrn rr; have H := hrr; unfold r7_Facts at H
 refine KS ?_
 refine Oa (Ab [vl pa0 pk0 p.Funcs]) fun p2 => Oq Va (Oq Va (KS ?_))
 refine Oq (VldA sh84 0) ?_
 refine lbH H hx0 fun rv3 hg4 H => ?_
 have hc5 := fn125 p pa0 pk0 rv3 hg4
 refine Oc [1] ca125 hc5 ?_
 rintro - ⟨he6, he7, he8, he9, he10⟩
 unfold i64ok at he6 he7 he8 he9 he10
 refine Oq Vm (Oq Vx (Oq Vx (Oa (Al ze142 [vi 0, vi 0, vi 0, vi 0]) fun p11 => Ost (Scl [0] sh142 [vi rv3.1.Kind, vi rv3.1.Func, vi rv3.1.Block, vi rv3.1.Stmt]) (Oq Va (KS ?_)))))
 refine Oq Vm (Oq Vneq (KS ?_))
 refine pF H hx0 fun h12 H => ?_
 refine KcF h12 ?_
 have g13 := eq_of_bne_false h12
 refine KS ?_
 refine Oq Vm (Oq Vlss (Oq Vm ?_))
 refine pF H hx0 fun h14 H => ?_
 refine JsF 25 h14 ?_
 have g15 := df h14
 refine Oq Vm (Oq Vgtr (Oq Vpf (KS ?_)))
 refine pF H hx0 fun h16 H => ?_
 refine KcF h16 ?_
 have g17 := df h16
 refine KS ?_
 refine Oq (VldA sh84 1) ?_
 refine lbH H hx0 fun rv19 hg20 H => ?_
 have hc21 := fn126 p pa0 pk0 rv19 hg20
 refine Oc [2] ca126 hc21 ?_
 rintro c18 -
 refine Jo 0 ?_; rintro a22 k23 rfl
 refine Fb 16 0 fun _ => ?_
 refine FoS 0 fun ho25 => ?_
 refine Oq Va (KS ?_)
 refine Oq Va (KS ?_)
 refine Oq Vm (Oq Vneq (KS ?_))
 refine pF H hx0 fun h26 H => ?_
 refine KcF h26 ?_
 have g27 := eq_of_bne_false h26
 refine KS ?_
 refine Oq (VldA sh84 2) ?_
 refine lbH H hx0 fun rv29 hg30 H => ?_
 have hc31 := fn127 p pa0 pk0 rv29 hg30
 refine Oc [3] ca127 hc31 ?_
 rintro c28 -
 refine Jo 0 ?_; rintro a32 k33 rfl
 refine Fb 32 0 fun _ => ?_
 refine Oq Va (KS ?_)
 refine Oq Va (KS ?_)
 refine Jl [] (Ent.osNil (α := GFact)) ?_
 refine llH H hx0 fun X45 hX46 hx47 HL48 => ?_
 refine Kl (γ := Nat × List GFact × Int × Option Addr × Nat) (fun (r35, out_36, i_37, a38, k39) => ⟨[(2, p2), (8, vl a22 k23 rv19), (9, vl a38 k39 out_36), (11, vl a32 k33 rv29), (12, vi i_37)], [O a38 k39 out_36, S a32 k33 rv29, S a22 k23 rv19, pv p2 [vl pa0 pk0 p.Funcs], S pa0 pk0 p.Funcs], r7_Facts_L1 p rv19 rv29 r35 out_36 i_37 = X45 ∧ r35 = ((rv29.length : Int) - i_37).toNat ∧ (0 : Int) ≤ i_37 ∧ i_37 ≤ (rv29.length : Int) ∧ (-9223372036854775808 ≤ i_37 ∧ i_37 ≤ 9223372036854775807), r35⟩) (((rv29.length : Int) - 0).toNat, [], 0, none, 0) [0, 0, 1, 3, 4] ⟨hX46, rfl, aM1, aM1, aM1⟩ ?_
 rintro ⟨r35, out_36, i_37, a38, k39⟩ ⟨hM40, hr41, hi42, hi43, hk44⟩
 refine JJ_nx fun _ _ hL hA => ?_; dsimp only at hL hA; subst hL hA
 refine Fb 16 0 fun _ => Fb 32 1 fun _ => Fb 16 2 fun _ => ?_
 refine FoS 2 fun ho52 => ?_
 refine Fb 40 4 fun _ => KS ?_
 refine Oq Vm (Oq Vm (Oq (Vlen sl133) (Oq Vlss (KS ?_))))
 refine Kc ?_ ?_
 ·intro h54
  have g55 := dt h54
  obtain ⟨r56, rfl⟩ := scc (n := r35) aM1
  have H := hM40; (try dsimp only at H); rw [r7_Facts_L1] at H
  refine KS ?_
  refine pC H hx47 fun hc57 H => ?_
  refine JJ_peek_GNode i_37.toNat 1 rfl rng fun hb58 hb59 hb60 hb61 => ?_
  unfold i64ok at hb58 hb59 hb60 hb61
  refine JK_drawK [0, 0, 0, 6, 14, 31, 63, 127, 127, 0, 767, 2047] fmix ?_
  refine Dv [4] (VldA sh84 0) (Dv [] Vm (Dv [] Vm (Dv [2] (Vi sl133 0) (Dv [0] (VldA sh142 0) ?_))))
  refine pC H hx47 fun hc66 H => ?_
  refine lbH H hx47 fun rv64 hg65 H => ?_
  refine Dx [5] [] [3, 0, 1, 2] (fun G => .tuple #[.agg #[vi rv64.1.Op, .string (bs rv64.1.Def), (G.g 5 0), (G.g 5 1)], vb rv64.2]) [fun G => SP.fact (i64ok rv64.1.Op ∧ rv64.1.Def.b.length ≤ 140737488355328), fun G => sl (G.g 5 0) rv64.1.Uses, fun G => sl (G.g 5 1) rv64.1.Targets] (fun G => xC [0] ca90 (fn90 p pa0 pk0 ((rv29.getD i_37.toNat default)) pre pre pre pre rv64 hg65)) (Dg [] (fun G => .tuple #[.agg #[vi rv64.1.Op, .string (bs rv64.1.Def), (G.g 5 0), (G.g 5 1)], vb rv64.2]) (fun G => Vm) (Dg [] (fun G => .agg #[vi rv64.1.Op, .string (bs rv64.1.Def), (G.g 5 0), (G.g 5 1)]) (fun G => Vx) (Dv [] Vx (Dx [] [] [0] (fun G => (G.g 9 0)) [fun G => Cl (G.g 9 0) [vi 0, .string (bs (Str.mk [])), .slice none 0 0, .slice none 0 0]] (fun G => xA (Al ze140 [vi 0, .string (bs (Str.mk [])), .slice none 0 0, .slice none 0 0])) (Dx0 [7, 8, 9] [9] [1, 2, 0] [fun G => Cl (G.g 9 0) [vi rv64.1.Op, .string (bs rv64.1.Def), (G.g 5 0), (G.g 5 1)]] (fun G => x1 0 rfl sl_one fun ho68 => (x1 1 rfl sl_one fun ho69 => (xS (Scl [2] sh140 [vi rv64.1.Op, .string (bs rv64.1.Def), (G.g 5 0), (G.g 5 1)] (v := .agg #[vi rv64.1.Op, .string (bs rv64.1.Def), (G.g 5 0), (G.g 5 1)]) (h1 := show [vi rv64.1.Op, .string (bs rv64.1.Def), (G.g 5 0), (G.g 5 1)].all (·.oneCell') = true from (by simp only [List.all_cons, List.all_nil, ho68, ho69, Bool.and_true, Bool.true_and] <;> rfl)))))) (Dv [] Va ?_))))))
  refine Dn ⟨by kernel_rfl, fun G => ?_⟩
  refine Jw2 [(2, p2), (8, vl a22 k23 rv19), (9, vl a38 k39 out_36), (11, vl a32 k33 rv29), (12, vi i_37), (13, (G.g 9 0)), (14, vb rv64.2)] [0, 1, 2, 3, 4, 5] [SP.fact (i64ok rv64.1.Op ∧ rv64.1.Def.b.length ≤ 140737488355328), sl (G.g 5 0) rv64.1.Uses, sl (G.g 5 1) rv64.1.Targets, Cl (G.g 9 0) [vi rv64.1.Op, .string (bs rv64.1.Def), (G.g 5 0), (G.g 5 1)]] ?_
  generalize G.g 5 0 = c62, G.g 5 1 = c63, G.g 9 0 = p67
  refine Jf 6 rfl ?_; rintro ⟨he70, he71⟩
  unfold i64ok at he70
  refine Jk [0, 1, 1, 2, 3, 4, 6, 7, 8] ?_
  refine Jo 6 ?_; rintro a72 k73 rfl
  refine Fb 16 6 fun _ => ?_
  refine FoS 6 fun ho75 => ?_
  refine Jo 7 ?_; rintro a76 k77 rfl
  refine Fb 16 7 fun _ => ?_
  refine FoS 7 fun ho79 => ?_
  refine KS ?_
  refine Oq Vm (Oq Vm ?_)
  refine JsH 62 H ?_ ?_
  ·intro h80 H
   refine Oq Vm (Oq Vm (Oq (Vi sl133 2) (Oq (Vfa fo142_0 0) (Oq (VldF sh3 0) (Oq Veql (Oq Vpt (Oq Vm ?_)))))))
   refine pC H hx47 fun hc83 H => ?_
   refine pT H hx47 fun h82 H => ?_
   refine JsT 70 h82 ?_
   have g84 := eq_of_beq h82
   refine Oq (VldA sh140 8) ?_
   refine lbH H hx47 fun rv85 hg86 H => ?_
   have hc87 := fn128 rv64.1 a72 k73 a76 k77 pre pre rv85 hg86
   refine Oc [6, 7] ca128 hc87 ?_
   rintro - -
   refine Oq Vpt (KS ?_)
   refine KcH H ?_ ?_
   ·intro h88 H
    refine KS ?_
    refine Oq Vm (Oq Vm (Oq Vm (Oq (Vfa fo140_1 8) (Oq (VldF sh9 8) ?_))))
    refine lbH H hx47 fun rv90 hg91 H => ?_
    have hc92 := fn129 rv19 a22 k23 rv64.1.Def pre rv90 hg91
    refine Oc [3] ca129 hc92 ?_
    rintro - he93
    unfold i64ok at he93
    refine Oq (Vbd st174 [vi i_37, vi rv90]) (Oa (AsV sl130 sz130 [.agg #[vi i_37, vi rv90]] [vi i_37, vi rv90]) fun c94 => ?_)
    refine Jo 0 ?_; rintro a95 k96 rfl
    refine Jl [0] (Ent.cr1 (α := GFact) (A := []) _ (GFact.mk i_37 rv90) _ aB1 (fun h => ⟨rfl, aL1, aL1⟩)) ?_
    refine pC H hx47 fun hc97 H => ?_
    refine Oa (ApO [2, 0] sl130 sl130 sz130) fun c98 => ?_
    refine Jo 0 ?_; rintro a99 k100 rfl
    refine Fb 16 0 fun _ => ?_
    have hn102 := la out_36 ([(GFact.mk i_37 rv90)] : List GFact)
    refine Oq Va (KS ?_)
    refine Oq Vm (Oq Vadd (Oq Va (KS ?_)))
    refine pC H hx47 fun hc103 H => ?_
    exact Kg (r56, (out_36 ++ [(GFact.mk i_37 rv90)]), (i_37 + 1), a99, k100) [0, 1, 2, 3, 4] ⟨H, aM1, aM1, aM1, aM1⟩
   intro h88 H
   refine KS ?_
   refine Oq Vm (Oq Vadd (Oq Va (KS ?_)))
   refine pC H hx47 fun hc105 H => ?_
   exact Kg (r56, out_36, (i_37 + 1), a38, k39) [1, 1, 2, 3, 4] ⟨H, aM1, aM1, aM1, aM1⟩
  intro h80 H
  refine Osk (Osk (Osk (Osk (Osk (Osk (Oq Vpf (Oq Vm (Osk (Osk ?_)))))))))
  refine Oq Vpf (KS ?_)
  refine Kf (KS ?_)
  refine Oq Vm (Oq Vadd (Oq Va (KS ?_)))
  refine pC H hx47 fun hc107 H => ?_
  exact Kg (r56, out_36, (i_37 + 1), a38, k39) [1, 1, 2, 3, 4] ⟨H, aM1, aM1, aM1, aM1⟩
 intro h54
 have g108 := df h54
 obtain rfl : r35 = 0 := by omega
 have H := hM40; (try dsimp only at H); rw [r7_Facts_L1] at H
 refine Ke ?_
 have H := llB H HL48
 refine KS ?_
 refine Oq Vm (Oq (Vlen sl130) (Oq Vgtr (KS ?_)))
 refine pF H hx0 fun h109 H => ?_
 refine KcF h109 ?_
 have g110 := df h109
 refine KS ?_
 refine Oq Vm (Oq Va (Oq Va (KS ?_)))
 refine Jl [0] (Ent.freeze _ _) ?_
 have hq := rI H; subst hq
 exact Kr (vl a38 k39 out_36) rfl (.tmp rfl (.tmp rfl .nil)) [0] en
theorem fn164 (l : List GNode) (la0 : Option Addr) (lk0 : Nat) (f : Int) (b : Int) (s : Int) (hf_0 : i64ok f) (hb_0 : i64ok b) (hs_0 : i64ok s) (rr : Int) (hrr : r7_stmtNode l f b s = .ret rr) : FT Tryz.prog 164 #[vl la0 lk0 l, vi f, vi b, vi s] [S la0 lk0 l] (fun g : Unit => i64ok rr) (fun g => vi rr) (fun g => []) := by
 refine FTi Tryz.func164 fun w0 M0 F0 => ?_
 unfold i64ok at hf_0 hb_0 hs_0
 refine Fb 32 0 fun _ => ?_
 have hx0 := lrn rr; have H := hrr; unfold r7_stmtNode at H
 refine KS ?_
 refine Oq Va (KS ?_)
 refine Oq Vm (Oq Vm (Oq Vm (Oq Vm (Oq (Vbd st142 [vi 3, vi f, vi b, vi s]) ?_))))
 refine lbH H hx0 fun rv2 hg3 H => ?_
 have hc4 := fn167 l la0 lk0 ((GNode.mk 3 f b s)) pre pre pre pre rv2 hg3
 refine Oc [0] ca167 hc4 ?_
 rintro - he5
 unfold i64ok at he5
 refine Oq Va (KS ?_)
 have hq := rI H; subst hq
 exact Kr () rfl (.tmp rfl .nil) [] en
theorem fn165 (l : List GNode) (la0 : Option Addr) (lk0 : Nat) (f : Int) (hf_0 : i64ok f) (rr : Int × Int) (hrr : r7_ends l f = .ret rr) : FT Tryz.prog 165 #[vl la0 lk0 l, vi f] [S la0 lk0 l] (fun g : Unit => i64ok rr.1 ∧ i64ok rr.2) (fun g => .tuple #[vi rr.1, vi rr.2]) (fun g => []) := by
 refine FTi Tryz.func165 fun w0 M0 F0 => ?_
 unfold i64ok at hf_0
 refine Fb 32 0 fun _ => ?_
 have hx0 := lrn rr; have H := hrr; unfold r7_ends at H
 refine KS ?_
 refine Oq Va (Oq Va (KS ?_))
 refine Oq Vm (Oq Vm (Oq (Vbd st142 [vi 1, vi f, vi (-1), vi (-1)]) ?_))
 refine lbH H hx0 fun rv2 hg3 H => ?_
 have hc4 := fn167 l la0 lk0 ((GNode.mk 1 f (-1) (-1))) pre pre pre pre rv2 hg3
 refine Oc [0] ca167 hc4 ?_
 rintro - he5
 unfold i64ok at he5
 refine Oq Vm (Oq Vm (Oq (Vbd st142 [vi 2, vi f, vi (-1), vi (-1)]) ?_))
 refine lbH H hx0 fun rv6 hg7 H => ?_
 have hc8 := fn167 l la0 lk0 ((GNode.mk 2 f (-1) (-1))) pre pre pre pre rv6 hg7
 refine Oc [0] ca167 hc8 ?_
 rintro - he9
 unfold i64ok at he9
 refine Oq Va (Oq Va (KS ?_))
 have hq := rI H; subst hq
 exact Kr () rfl (.tmp rfl (.tmp rfl .nil)) [] en
theorem fn130 (p : GProgram) (pa0 : Option Addr) (pk0 : Nat) (l : List GNode) (la0 : Option Addr) (lk0 : Nat) (i : Int) (hi_0 : i64ok i) (rr : List Int) (hrr : r7_successors p l i = .ret rr) : FT Tryz.prog 130 #[.agg #[vl pa0 pk0 p.Funcs], vl la0 lk0 l, vi i] [S pa0 pk0 p.Funcs, S la0 lk0 l] (fun g : Value => True) (fun g => g) (fun g => [sl g rr]) := by
 refine FTi Tryz.func130 fun w0 M0 F0 => ?_
 unfold i64ok at hi_0
 refine Fb 40 0 fun _ => Fb 32 1 fun _ => ?_
 have hx0 := lrn rr; have H := hrr; unfold r7_successors at H
 refine KS ?_
 refine Oa (Ab [vl pa0 pk0 p.Funcs]) fun p3 => Oq Va (KS ?_)
 refine Oq Vm (Oq Vm ?_)
 refine pC H hx0 fun hc4 H => ?_
 refine Oq (Vi sl133 2) ?_
 refine JJ_peek_GNode i.toNat 2 rfl rng fun hb5 hb6 hb7 hb8 => ?_
 unfold i64ok at hb5 hb6 hb7 hb8
 refine Oq (VldA sh142 0) (Oa (Al ze142 [vi 0, vi 0, vi 0, vi 0]) fun p9 => Ost (Scl [0] sh142 [vi ((l.getD i.toNat default).Kind), vi ((l.getD i.toNat default).Func), vi ((l.getD i.toNat default).Block), vi ((l.getD i.toNat default).Stmt)]) (KS ?_))
 refine Oq (Vfa fo142_0 0) (Oq (VldF sh3 0) (Oq Veql (KS ?_)))
 refine pC H hx0 fun hc11 H => ?_
 refine KcH H ?_ ?_
 ·intro h10 H
  have g12 := eq_of_beq h10
  refine KS ?_
  refine Oq Vm (Oq (Vfa fo142_1 0) (Oq (VldF sh3 0) ?_))
  refine lbH H hx0 fun rv13 hg14 H => ?_
  have hc15 := fn164 l la0 lk0 ((l.getD i.toNat default).Func) 0 0 pre pre pre rv13 hg14
  refine Oc [4] ca164 hc15 ?_
  rintro - he16
  unfold i64ok at he16
  refine Oa (AsV sl22 sz22 [vi rv13] [vi rv13]) fun c17 => ?_
  refine Jo 0 ?_; rintro a18 k19 rfl
  refine Oq Va (KS ?_)
  refine Jl [0] (Ent.crInt _ [rv13] _ _ rfl rfl (by intro x hx; rw [List.mem_singleton] at hx; subst hx; unfold i64ok; omega) aB1) ?_
  refine Jl [0] (Ent.freeze _ _) ?_
  have hq := rI H; subst hq
  exact Kr (.slice a18 1 k19) rfl (.tmp rfl .nil) [0] trivial
 intro h10 H
 have g20 := ne_of_beq_false h10
 refine KS ?_
 refine Oq (Vfa fo142_0 0) (Oq (VldF sh3 0) (Oq Veql (KS ?_)))
 refine KcH H ?_ ?_
 ·intro h21 H
  have g22 := eq_of_beq h21
  refine KS ?_
  refine Oq Va (KS ?_)
  refine Oq Va (KS ?_)
  refine llH H hx0 fun X30 hX31 hx32 HL33 => ?_
  refine Kl (γ := Nat × Int) (fun (r23, k_24) => ⟨[(1, vl la0 lk0 l), (3, p3), (7, p9), (8, .slice none 0 0), (9, vi k_24)], [Cl p9 [vi ((l.getD i.toNat default).Kind), vi ((l.getD i.toNat default).Func), vi ((l.getD i.toNat default).Block), vi ((l.getD i.toNat default).Stmt)], pv p3 [vl pa0 pk0 p.Funcs], S pa0 pk0 p.Funcs, S la0 lk0 l], r7_successors_L0 l r23 k_24 = X30 ∧ r23 = ((l.length : Int) - k_24).toNat ∧ (0 : Int) ≤ k_24 ∧ k_24 ≤ (l.length : Int) ∧ (-9223372036854775808 ≤ k_24 ∧ k_24 ≤ 9223372036854775807), r23⟩) (((l.length : Int) - 0).toNat, 0) [0, 1, 2, 3] ⟨hX31, rfl, aM1, aM1, aM1⟩ ?_
  rintro ⟨r23, k_24⟩ ⟨hM25, hr26, hi27, hi28, hk29⟩
  refine JJ_nx fun _ _ hL hA => ?_; dsimp only at hL hA; subst hL hA
  refine Fb 40 2 fun _ => Fb 32 3 fun _ => KS ?_
  refine Oq Vm (Oq Vm (Oq (Vlen sl133) (Oq Vlss (KS ?_))))
  refine Kc ?_ ?_
  ·intro h36
   have g37 := dt h36
   obtain ⟨r38, rfl⟩ := scc (n := r23) aM1
   have H := hM25; (try dsimp only at H); rw [r7_successors_L0] at H
   refine KS ?_
   refine pC H hx32 fun hc39 H => ?_
   refine JJ_peek_GNode k_24.toNat 3 rfl rng fun hb40 hb41 hb42 hb43 => ?_
   unfold i64ok at hb40 hb41 hb42 hb43
   refine Kq [0, 0, 3, 7, 15, 31, 63, 127, 255, 127, 127, 1663, 3711, 7807, 16383, 32767, 65535, 127, 127, 393343, 917631, 1966207, 4194303, 8388607, 16777215, 127, 127, 100663423, 234881151, 503316607, 1073741823, 2147483647, 4294967295, 8589934591, 17179869183, 127, 34359738495, 127, 137438953599, 515396075647, 1065151889535, 2164663517311, 4398046511103, 8796093022207] fmix ?_
   refine Qv [] Vm (Qv [] Vm (Qv [4] (Vi sl133 0) (Qv [0] (Vfa fo142_0 0) (Qv [0] (VldF sh3 0) (Qv [] Veql ?_)))))
   refine pC H hx32 fun hc45 H => ?_
   refine pF H hx32 fun h44 H => ?_
   have g46 := ne_of_beq_false h44
   refine Qb h44 [] Vm (Qs (Qs (Qs (Qs (Qs (Qs (Qs (Qs (Qs ?_)))))))))
   refine Qs (Qs (Qs (Qs (Qs (Qs (Qs (Qs (Qs (Qs ?_)))))))))
   refine Qs (Qs (Qs (Qs (Qs (Qs (Qs (Qs (Qs (Qs ?_)))))))))
   refine Qs (Qs (Qs (Qs (Qs (Qs (Qs (Qv [] Vpf ?_)))))))
   refine Qn ⟨by kernel_rfl, ?_⟩
   refine Kf (KS ?_)
   refine Oq Vm (Oq Vadd (Oq Va (KS ?_)))
   refine pC H hx32 fun hc47 H => ?_
   exact Kg (r38, (k_24 + 1)) [1, 1, 2, 3] ⟨H, aM1, aM1, aM1, aM1⟩
  intro h36
  have g48 := df h36
  obtain rfl : r23 = 0 := by omega
  have H := hM25; (try dsimp only at H); rw [r7_successors_L0] at H
  refine Ke ?_
  have H := llB H HL33
  refine KS ?_
  refine Oq Vm (Oq Va (KS ?_))
  refine Jl [] (Ent.slNil (α := Int)) ?_
  have hq := rI H; subst hq
  exact Kr (.slice none 0 0) rfl (.tmp rfl .nil) [0] trivial
 intro h21 H
 have g49 := ne_of_beq_false h21
 refine KS ?_
 refine Jp 0 fun hp50 => ?_
 refine pC H hx0 fun hc51 H => ?_
 refine JJ_peek_GFunc ((l.getD i.toNat default).Func : Int).toNat 4 rfl rng fun a52 k53 hb54 => ?_
 refine Fb 40 1 fun _ => ?_
 refine pC H hx0 fun hc56 H => ?_
 refine pC H hx0 fun hc57 H => ?_
 refine JJ_peek_GBlock ((l.getD i.toNat default).Block : Int).toNat 1 rfl rng fun a58 k59 hb60 => ?_
 refine Fb 72 1 fun _ => ?_
 refine pC H hx0 fun hc62 H => ?_
 refine pC H hx0 fun hc63 H => ?_
 refine JJ_peek_GStmt ((l.getD i.toNat default).Stmt : Int).toNat 1 rfl rng fun a64 k65 a66 k67 hb68 hb69 => ?_
 unfold i64ok at hb68
 refine Fb 16 1 fun _ => ?_
 refine FoS 1 fun ho71 => ?_
 refine Fb 16 2 fun _ => ?_
 refine FoS 2 fun ho73 => ?_
 refine JK_drawK [0, 1, 0, 4, 15, 31, 63, 0, 128, 511, 1023, 2047, 0, 4096, 16383, 32767, 0, 131071] fmix ?_
 refine Dv [10] (Vfa fo84_0 0) (Dv [10] (VldF sh82 0) (Dv [7] (Vfa fo142_1 0) (Dv [8] (VldF sh3 0) (Dv [11] (Vi sl82 0) (Dv [5] (Vfa fo126_1 0) (Dv [5] (VldF sh124 0) (Dv [7] (Vfa fo142_2 0) (Dv [8] (VldF sh3 0) (Dv [6] (Vi sl124 0) ?_)))))))))
 refine Dv [3] (Vfa fo168_1 0) (Dv [3] (VldF sh166 0) (Dv [7] (Vfa fo142_3 0) (Dv [8] (VldF sh3 0) (Dv [4] (Vi sl166 0) (Dv [0] (VldA sh140 0) (Dx [] [] [0] (fun G => (G.g 16 0)) [fun G => Cl (G.g 16 0) [vi 0, .string (bs (Str.mk [])), .slice none 0 0, .slice none 0 0]] (fun G => xA (Al ze140 [vi 0, .string (bs (Str.mk [])), .slice none 0 0, .slice none 0 0])) (Dx0 [13] [13] [0] [fun G => Cl (G.g 16 0) [vi ((((((p.Funcs.getD ((l.getD i.toNat default).Func : Int).toNat default).Blocks).getD ((l.getD i.toNat default).Block : Int).toNat default).Stmts).getD ((l.getD i.toNat default).Stmt : Int).toNat default).Op), .string (bs ((((((p.Funcs.getD ((l.getD i.toNat default).Func : Int).toNat default).Blocks).getD ((l.getD i.toNat default).Block : Int).toNat default).Stmts).getD ((l.getD i.toNat default).Stmt : Int).toNat default).Def)), .slice a64 (((((((p.Funcs.getD ((l.getD i.toNat default).Func : Int).toNat default).Blocks).getD ((l.getD i.toNat default).Block : Int).toNat default).Stmts).getD ((l.getD i.toNat default).Stmt : Int).toNat default).Uses).length) k65, .slice a66 (((((((p.Funcs.getD ((l.getD i.toNat default).Func : Int).toNat default).Blocks).getD ((l.getD i.toNat default).Block : Int).toNat default).Stmts).getD ((l.getD i.toNat default).Stmt : Int).toNat default).Targets).length) k67]] (fun G => xS (Scl [0] sh140 [vi ((((((p.Funcs.getD ((l.getD i.toNat default).Func : Int).toNat default).Blocks).getD ((l.getD i.toNat default).Block : Int).toNat default).Stmts).getD ((l.getD i.toNat default).Stmt : Int).toNat default).Op), .string (bs ((((((p.Funcs.getD ((l.getD i.toNat default).Func : Int).toNat default).Blocks).getD ((l.getD i.toNat default).Block : Int).toNat default).Stmts).getD ((l.getD i.toNat default).Stmt : Int).toNat default).Def)), .slice a64 (((((((p.Funcs.getD ((l.getD i.toNat default).Func : Int).toNat default).Blocks).getD ((l.getD i.toNat default).Block : Int).toNat default).Stmts).getD ((l.getD i.toNat default).Stmt : Int).toNat default).Uses).length) k65, .slice a66 (((((((p.Funcs.getD ((l.getD i.toNat default).Func : Int).toNat default).Blocks).getD ((l.getD i.toNat default).Block : Int).toNat default).Stmts).getD ((l.getD i.toNat default).Stmt : Int).toNat default).Targets).length) k67])) ?_)))))))
 refine Dn ⟨by kernel_rfl, fun G => ?_⟩
 refine Jw2 [(1, vl la0 lk0 l), (3, p3), (7, p9), (10, (G.g 16 0))] [0, 1, 2, 3, 4, 5, 6, 7, 8, 9, 10, 11, 12] [Cl (G.g 16 0) [vi ((((((p.Funcs.getD ((l.getD i.toNat default).Func : Int).toNat default).Blocks).getD ((l.getD i.toNat default).Block : Int).toNat default).Stmts).getD ((l.getD i.toNat default).Stmt : Int).toNat default).Op), .string (bs ((((((p.Funcs.getD ((l.getD i.toNat default).Func : Int).toNat default).Blocks).getD ((l.getD i.toNat default).Block : Int).toNat default).Stmts).getD ((l.getD i.toNat default).Stmt : Int).toNat default).Def)), .slice a64 (((((((p.Funcs.getD ((l.getD i.toNat default).Func : Int).toNat default).Blocks).getD ((l.getD i.toNat default).Block : Int).toNat default).Stmts).getD ((l.getD i.toNat default).Stmt : Int).toNat default).Uses).length) k65, .slice a66 (((((((p.Funcs.getD ((l.getD i.toNat default).Func : Int).toNat default).Blocks).getD ((l.getD i.toNat default).Block : Int).toNat default).Stmts).getD ((l.getD i.toNat default).Stmt : Int).toNat default).Targets).length) k67]] ?_
 generalize G.g 16 0 = p74
 refine Jk [0, 1, 2, 3, 4, 5, 6, 8, 8, 9, 10, 11, 12] ?_
 refine KS ?_
 refine Oq Vm (Oq (Vfa fo142_1 7) (Oq (VldF sh3 7) ?_))
 refine pC H hx0 fun hc77 H => ?_
 refine lbH H hx0 fun rv75 hg76 H => ?_
 have hc78 := fn165 l la0 lk0 ((l.getD i.toNat default).Func) pre rv75 hg76
 refine Oc [11] ca165 hc78 ?_
 rintro - ⟨he79, he80⟩
 unfold i64ok at he79 he80
 refine Oq Vm (Oq Vx (Oq Vx (Oq Va (Oq Va (KS ?_)))))
 refine Oq (Vfa fo140_0 12) (Oq (VldF sh3 12) (Oq Veql (Oq Va (KS ?_))))
 refine KcH H ?_ ?_
 ·intro h81 H
  have g82 := eq_of_beq h81
  refine KS ?_
  refine Oq Vm (Oa (AsV sl22 sz22 [vi rv75.2] [vi rv75.2]) fun c83 => ?_)
  refine Jo 0 ?_; rintro a84 k85 rfl
  refine Oq Va (KS ?_)
  refine Jl [0] (Ent.crInt _ [rv75.2] _ _ rfl rfl (by intro x hx; rw [List.mem_singleton] at hx; subst hx; unfold i64ok; omega) aB1) ?_
  refine Jl [0] (Ent.freeze _ _) ?_
  have hq := rI H; subst hq
  exact Kr (.slice a84 1 k85) rfl (.tmp rfl .nil) [0] trivial
 intro h81 H
 have g86 := ne_of_beq_false h81
 refine KS ?_
 refine Oq (Vfa fo140_0 12) (Oq (VldF sh3 12) (Oq Veql (Oq Vm ?_)))
 refine pF H hx0 fun h87 H => ?_
 refine JsF 120 h87 ?_
 have g88 := ne_of_beq_false h87
 refine Osk (Osk (Osk (Oq Vpf (Oq Va (KS ?_)))))
 refine Kf (KS ?_)
 refine Oq (Vfa fo140_0 12) (Oq (VldF sh3 12) (Oq Veql (Oq Vm ?_)))
 refine pF H hx0 fun h89 H => ?_
 refine JsF 142 h89 ?_
 have g90 := ne_of_beq_false h89
 refine Oq (Vfa fo140_0 12) (Oq (VldF sh3 12) (Oq Veql (Oq Vpf (Oq Va (KS ?_)))))
 refine pF H hx0 fun h91 H => ?_
 refine KcF h91 ?_
 have g92 := ne_of_beq_false h91
 refine KS ?_
 refine Oq Vm (Oq (Vfa fo142_1 7) (Oq (VldF sh3 7) (Oq (Vfa fo142_2 7) (Oq (VldF sh3 7) (Oq (Vfa fo142_3 7) (Oq (VldF sh3 7) ?_))))))
 refine pC H hx0 fun hc93 H => ?_
 refine Oq Vadd ?_
 refine lbH H hx0 fun rv94 hg95 H => ?_
 have hc96 := fn164 l la0 lk0 ((l.getD i.toNat default).Func) ((l.getD i.toNat default).Block) (((l.getD i.toNat default).Stmt + 1)) pre pre pre rv94 hg95
 refine Oc [11] ca164 hc96 ?_
 rintro - he97
 unfold i64ok at he97
 refine Oa (AsV sl22 sz22 [vi rv94] [vi rv94]) fun c98 => ?_
 refine Jo 0 ?_; rintro a99 k100 rfl
 refine Oq Va (KS ?_)
 refine Jl [0] (Ent.crInt _ [rv94] _ _ rfl rfl (by intro x hx; rw [List.mem_singleton] at hx; subst hx; unfold i64ok; omega) aB1) ?_
 refine Jl [0] (Ent.freeze _ _) ?_
 have hq := rI H; subst hq
 exact Kr (.slice a99 1 k100) rfl (.tmp rfl .nil) [0] trivial
theorem fn28 (l : List Int) (la0 : Option Addr) (lk0 : Nat) (n : Int) (hn_0 : i64ok n) (hl0 : l.length ≤ 1000000000) (rr : List Int) (hrr : r7_Insert l n = rr) : FT Tryz.prog 28 #[vl la0 lk0 l, vi n] [S la0 lk0 l] (fun g : Value => (rr.length ≤ l.length + 1)) (fun g => g) (fun g => [sl g rr]) := by
 refine FTi Tryz.func28 fun w0 M0 F0 => ?_
 unfold i64ok at hn_0
 refine Fb 8 0 fun _ => Fo 0 fun ho2 => KS ?_
 refine Oq Va (KS ?_)
 refine Oq Va (KS ?_)
 refine Kl (γ := Nat × Int) (fun (r3, i_4) => ⟨[(0, vl la0 lk0 l), (1, vi n), (5, vi i_4)], [S la0 lk0 l], r7_Insert_L0 l n r3 i_4 = r7_Insert_L0 l n (((l.length : Int) - 0).toNat) 0 ∧ r3 = ((l.length : Int) - i_4).toNat ∧ (0 : Int) ≤ i_4 ∧ i_4 ≤ (l.length : Int) ∧ (-9223372036854775808 ≤ i_4 ∧ i_4 ≤ 9223372036854775807), r3⟩) (((l.length : Int) - 0).toNat, 0) [0] ⟨rfl, rfl, aM1, aM1, aM1⟩ ?_
 rintro ⟨r3, i_4⟩ ⟨hM5, hr6, hi7, hi8, hk9⟩
 refine JJ_nx fun _ _ hL hA => ?_; dsimp only at hL hA; subst hL hA
 refine Fb 8 0 fun _ => Fo 0 fun ho11 => KS ?_
 refine Oq Vm (Oq Vm (Oq (Vlen sl22) (Oq Vlss (Oq Vm ?_))))
 refine Js 11 ?_ ?_
 ·intro h12
  have g13 := dt h12
  obtain ⟨r14, rfl⟩ := scc (n := r3) aM1
  refine Oq Vm (Oq Vm (Oq (Vi sl22 0) ?_))
  have hb15 := ok1 (i := i_4.toNat) ho11 rng
  refine Oq (VldI sh3 0) (Oq Vm (Oq Vlss (Oq Vpt (KS ?_))))
  refine Kc ?_ ?_
  ·intro h16
   have g17 := dt h16
   refine KS ?_
   refine Oq Vm (Oq Vadd (Oq Va (KS ?_)))
   exact Kg (r14, (i_4 + 1)) [0] ⟨(q3 hM5 (by simp only [r7_Insert_L0, h12, h16, cs4])), aM1, aM1, aM1, aM1⟩
  intro h16
  have g18 := df h16
  refine Ke ?_
  have hR19 := q2 hM5 i_4 (by simp only [r7_Insert_L0, h12, h16, cs4])
  refine KS ?_
  refine Oq Vm (Oq Vm (Oq (Vlen sl22) (Oq Vlss (Oq Vm ?_))))
  refine Js 25 ?_ ?_
  ·intro h20
   have g21 := dt h20
   refine Oq Vm (Oq Vm (Oq (Vi sl22 0) ?_))
   have hb22 := ok1 (i := i_4.toNat) ho11 rng
   refine Oq (VldI sh3 0) (Oq Vm (Oq Veql (Oq Vpt (KS ?_))))
   refine Kc ?_ ?_
   ·intro h23
    have g24 := eq_of_beq h23
    refine KS ?_
    refine Oq Vm (Oq Va (KS ?_))
    have hq := q4 hrr l (by simp only [r7_Insert, h12, h16, h20, h23, hR19, cs4]); subst hq
    exact Kr (vl la0 lk0 l) rfl (.tmp rfl .nil) [0] en
   intro h23
   have g25 := ne_of_beq_false h23
   refine KS ?_
   refine Oa (As0 sl22) fun c26 => ?_
   refine Jo 0 ?_; rintro a27 k28 rfl
   refine Oq Vm (Oq Vm (Oa (Asl [1] sl22 0 (i_4.toNat)) fun c29 => ?_))
   refine Jo 0 ?_; rintro a30 k31 rfl
   refine Fb 8 0 fun _ => Fo 0 fun ho33 => ?_
   have hn34 : ((l.take (i_4.toNat)).drop 0).length = (i_4.toNat) - 0 := len_slice rng rng
   refine Jl [1] (Ent.crNil (α := Int) _) ?_
   refine Oa (Ap0 [0, 0] sl22 sl22 sz22) fun c35 => ?_
   refine Jo 0 ?_; rintro a36 k37 rfl
   refine Oq Va (KS ?_)
   refine Oq Vm (Oq Vm (Oa (AsV sl22 sz22 [vi n] [vi n]) fun c38 => ?_))
   refine Jo 0 ?_; rintro a39 k40 rfl
   refine Jl [0] (Ent.crInt _ [n] _ _ rfl rfl (by intro x hx; rw [List.mem_singleton] at hx; subst hx; unfold i64ok; omega) aB1) ?_
   refine Oa (ApO [1, 0] sl22 sl22 sz22) fun c41 => ?_
   refine Jo 0 ?_; rintro a42 k43 rfl
   refine Fb 8 0 fun _ => Fo 0 fun ho45 => ?_
   have hn46 := la ((l.take (i_4.toNat)).drop 0) ([n] : List Int)
   refine Oq Va (KS ?_)
   refine Oq Vm (Oq Vm (Oq Vm (Oa (Asl [2] sl22 (i_4.toNat) l.length) fun c47 => ?_)))
   refine Jo 0 ?_; rintro a48 k49 rfl
   refine Fb 8 0 fun _ => Fo 0 fun ho51 => ?_
   have hn52 : ((l.take l.length).drop (i_4.toNat)).length = l.length - (i_4.toNat) := len_slice rng rng
   refine Oa (Ap [1, 0] sl22 sl22 sz22) fun c53 => ?_
   refine Jo 0 ?_; rintro a54 k55 rfl
   refine Fb 8 0 fun _ => Fo 0 fun ho57 => ?_
   have hn58 := la ((((l.take (i_4.toNat)).drop 0) ++ [n]) : List Int) ((l.take l.length).drop (i_4.toNat))
   refine Oq Va (KS ?_)
   refine Jl [0] (Ent.freeze _ _) ?_
   have hq := q4 hrr ((((l.take (i_4.toNat)).drop 0) ++ [n]) ++ ((l.take l.length).drop (i_4.toNat))) (by simp only [r7_Insert, h12, h16, h20, h23, hR19, cs4]); subst hq
   exact Kr (.slice a54 (((((l.take (i_4.toNat)).drop 0) ++ [n]) ++ ((l.take l.length).drop (i_4.toNat))).length) k55) rfl (.tmp rfl .nil) [0] en
  intro h20
  exact absurd h20 (by first | (simp [h12]; done) | (simp only [bne, h12]; decide) | (simp only [bne, h12, Bool.not_true, Bool.not_false]; decide) | (exfalso; omega) | (intro hq; simp only [bne, hq, Bool.not_false, Bool.not_true, reduceCtorEq] at h12))
 intro h12
 have g59 := df h12
 obtain rfl : r3 = 0 := by omega
 refine Osk (Osk (Osk (Osk (Osk (Osk (Oq Vpf (KS ?_)))))))
 refine Kf ?_
 refine Ke ?_
 have hR60 := q2 hM5 i_4 (by simp only [r7_Insert_L0, h12, cs4])
 refine KS ?_
 refine Oq Vm (Oq Vm (Oq (Vlen sl22) (Oq Vlss (Oq Vm ?_))))
 refine Js 25 ?_ ?_
 ·intro h61
  exact absurd h61 (by first | (simp [h12]; done) | (simp only [bne, h12]; decide) | (simp only [bne, h12, Bool.not_true, Bool.not_false]; decide) | (exfalso; omega) | (intro hq; simp only [bne, hq, Bool.not_false, Bool.not_true, reduceCtorEq] at h12))
 intro h61
 have g62 := df h61
 refine Osk (Osk (Osk (Osk (Osk (Osk (Oq Vpf (KS ?_)))))))
 refine Kf (KS ?_)
 refine Oa (As0 sl22) fun c63 => ?_
 refine Jo 0 ?_; rintro a64 k65 rfl
 refine Oq Vm (Oq Vm (Oa (Asl [1] sl22 0 (i_4.toNat)) fun c66 => ?_))
 refine Jo 0 ?_; rintro a67 k68 rfl
 refine Fb 8 0 fun _ => Fo 0 fun ho70 => ?_
 have hn71 : ((l.take (i_4.toNat)).drop 0).length = (i_4.toNat) - 0 := len_slice rng rng
 refine Jl [1] (Ent.crNil (α := Int) _) ?_
 refine Oa (Ap0 [0, 0] sl22 sl22 sz22) fun c72 => ?_
 refine Jo 0 ?_; rintro a73 k74 rfl
 refine Oq Va (KS ?_)
 refine Oq Vm (Oq Vm (Oa (AsV sl22 sz22 [vi n] [vi n]) fun c75 => ?_))
 refine Jo 0 ?_; rintro a76 k77 rfl
 refine Jl [0] (Ent.crInt _ [n] _ _ rfl rfl (by intro x hx; rw [List.mem_singleton] at hx; subst hx; unfold i64ok; omega) aB1) ?_
 refine Oa (ApO [1, 0] sl22 sl22 sz22) fun c78 => ?_
 refine Jo 0 ?_; rintro a79 k80 rfl
 refine Fb 8 0 fun _ => Fo 0 fun ho82 => ?_
 have hn83 := la ((l.take (i_4.toNat)).drop 0) ([n] : List Int)
 refine Oq Va (KS ?_)
 refine Oq Vm (Oq Vm (Oq Vm (Oa (Asl [2] sl22 (i_4.toNat) l.length) fun c84 => ?_)))
 refine Jo 0 ?_; rintro a85 k86 rfl
 refine Fb 8 0 fun _ => Fo 0 fun ho88 => ?_
 have hn89 : ((l.take l.length).drop (i_4.toNat)).length = l.length - (i_4.toNat) := len_slice rng rng
 refine Oa (Ap [1, 0] sl22 sl22 sz22) fun c90 => ?_
 refine Jo 0 ?_; rintro a91 k92 rfl
 refine Fb 8 0 fun _ => Fo 0 fun ho94 => ?_
 have hn95 := la ((((l.take (i_4.toNat)).drop 0) ++ [n]) : List Int) ((l.take l.length).drop (i_4.toNat))
 refine Oq Va (KS ?_)
 refine Jl [0] (Ent.freeze _ _) ?_
 have hq := q4 hrr ((((l.take (i_4.toNat)).drop 0) ++ [n]) ++ ((l.take l.length).drop (i_4.toNat))) (by simp only [r7_Insert, h12, h61, hR60, cs4]); subst hq
 exact Kr (.slice a91 (((((l.take (i_4.toNat)).drop 0) ++ [n]) ++ ((l.take l.length).drop (i_4.toNat))).length) k92) rfl (.tmp rfl .nil) [0] en
theorem fn89 (p : GProgram) (pa0 : Option Addr) (pk0 : Nat) (rr : GGraph × Int) (hrr : r7_Build p = .ret rr) : FT Tryz.prog 89 #[.agg #[vl pa0 pk0 p.Funcs]] [S pa0 pk0 p.Funcs] (fun g : Value × Value × Value => i64ok rr.2) (fun g => .tuple #[.agg #[g.1, g.2.1, g.2.2], vi rr.2]) (fun g => [sl g.1 rr.1.Nodes, sl g.2.1 rr.1.Succ, sl g.2.2 rr.1.Pred]) := by
 refine FTi Tryz.func89 fun w0 M0 F0 => Fb 40 0 fun _ => ?_
 have hx0 := lrn rr; have H := hrr; unfold r7_Build at H
 refine KS ?_
 refine Oa (Ab [vl pa0 pk0 p.Funcs]) fun p2 => Oa (Al ze135 [.slice none 0 0, .slice none 0 0, .slice none 0 0]) fun p3 => Oq Va (KS ?_)
 refine Oq (VldA sh84 1) ?_
 refine lbH H hx0 fun rv4 hg5 H => ?_
 have hc6 := fn125 p pa0 pk0 rv4 hg5
 refine Oc [2] ca125 hc6 ?_
 rintro - ⟨he7, he8, he9, he10, he11⟩
 unfold i64ok at he7 he8 he9 he10 he11
 refine Oq Vm (Oq Vx (Oq Vx (Oa (Al ze142 [vi 0, vi 0, vi 0, vi 0]) fun p12 => Ost (Scl [0] sh142 [vi rv4.1.Kind, vi rv4.1.Func, vi rv4.1.Block, vi rv4.1.Stmt]) (Oq Va (KS ?_)))))
 refine Oq Vm (Oq Vneq (KS ?_))
 refine pF H hx0 fun h13 H => ?_
 refine KcF h13 ?_
 have g14 := eq_of_bne_false h13
 refine KS ?_
 refine Oq (VldA sh84 2) ?_
 refine lbH H hx0 fun rv16 hg17 H => ?_
 have hc18 := fn127 p pa0 pk0 rv16 hg17
 refine Oc [3] ca127 hc18 ?_
 rintro c15 -
 refine Jo 0 ?_; rintro a19 k20 rfl
 refine Fb 32 0 fun _ => ?_
 refine Oq Va (KS ?_)
 refine JK_drawK [0, 0, 2, 6, 0, 16, 48, 127, 0, 511] fmix ?_
 refine Dv [] Vm (Dv [] Vm (Dv [] (Vlen sl133) ?_))
 refine pC H hx0 fun hc22 H => ?_
 have hn24 := List.length_replicate (n := (rv16.length : Int).toNat) (a := ([] : List Int))
 refine Dx [] [] [0] (fun G => (G.g 3 0)) [fun G => os (G.g 3 0) ((List.replicate (rv16.length : Int).toNat []) : List (List Int))] (fun G => xA (Amk (α := List Int) sl23 sz23 [] (fun _ _ => ⟨_, rfl, slrd_nil⟩))) (Dv [] Vm (Dv [] (Vlen sl133) ?_))
 have hn26 := List.length_replicate (n := (rv16.length : Int).toNat) (a := ([] : List Int))
 refine Dx [] [] [0] (fun G => (G.g 6 0)) [fun G => os (G.g 6 0) ((List.replicate (rv16.length : Int).toNat []) : List (List Int))] (fun G => xA (Amk (α := List Int) sl23 sz23 [] (fun _ _ => ⟨_, rfl, slrd_nil⟩))) ?_
 refine Dx [5, 6] [] [0, 0] (fun G => .agg #[vl a19 k20 rv16, (G.g 3 0), (G.g 6 0)]) [] (fun G => xV (v := .agg #[vl a19 k20 rv16, (G.g 3 0), (G.g 6 0)]) (Vo 0 rfl (isO_os _ _) fun aq27 kq28 eq29 => (by rw [eq29]; exact Vo 1 rfl (isO_os _ _) fun aq30 kq31 eq32 => (by rw [eq32]; exact Vbd st135 [vl a19 k20 rv16, .slice aq27 (((List.replicate (rv16.length : Int).toNat []) : List (List Int)).length) kq28, .slice aq30 (((List.replicate (rv16.length : Int).toNat []) : List (List Int)).length) kq31])))) (Dx [] [] [0] (fun G => (G.g 8 0)) [fun G => Cl (G.g 8 0) [.slice none 0 0, .slice none 0 0, .slice none 0 0]] (fun G => xA (Al ze135 [.slice none 0 0, .slice none 0 0, .slice none 0 0])) (Dx0 [5, 6, 7] [7] [1, 1, 0] [fun G => Cl (G.g 8 0) [vl a19 k20 rv16, (G.g 3 0), (G.g 6 0)]] (fun G => x1 0 rfl os_one fun ho34 => (x1 1 rfl os_one fun ho35 => (xS (Scl [2] sh135 [vl a19 k20 rv16, (G.g 3 0), (G.g 6 0)] (v := .agg #[vl a19 k20 rv16, (G.g 3 0), (G.g 6 0)]) (h1 := show [vl a19 k20 rv16, (G.g 3 0), (G.g 6 0)].all (·.oneCell') = true from (by simp only [List.all_cons, List.all_nil, ho34, ho35, Bool.and_true, Bool.true_and] <;> rfl)))))) ?_))
 refine Dn ⟨by kernel_rfl, fun G => ?_⟩
 refine Jw2 [(1, p2), (2, p3), (6, vl a19 k20 rv16), (7, (G.g 8 0))] [0, 1, 2, 3, 4] [os (G.g 3 0) ((List.replicate (rv16.length : Int).toNat []) : List (List Int)), os (G.g 6 0) ((List.replicate (rv16.length : Int).toNat []) : List (List Int)), Cl (G.g 8 0) [vl a19 k20 rv16, (G.g 3 0), (G.g 6 0)]] ?_
 generalize G.g 3 0 = c23, G.g 6 0 = c25, G.g 8 0 = p33
 refine Jo 5 ?_; rintro a36 k37 rfl
 refine Fb 24 5 fun _ => ?_
 refine Jo 6 ?_; rintro a39 k40 rfl
 refine KS ?_
 refine Oq Va (KS ?_)
 refine pC H hx0 fun hc54 H => ?_
 refine llH H hx0 fun X55 hX56 hx57 HL58 => ?_
 refine Kl (γ := Nat × List (List Int) × List (List Int) × Int × Option Addr × Nat × Option Addr × Nat) (fun (r41, g1_42, g2_43, i_44, a45, k46, a47, k48) => ⟨[(1, p2), (2, p3), (6, vl a19 k20 rv16), (7, p33), (8, vi i_44)], [O a47 k48 g2_43, O a45 k46 g1_42, S a19 k20 rv16, Cl p3 [.slice none 0 0, .slice none 0 0, .slice none 0 0], pv p2 [vl pa0 pk0 p.Funcs], S pa0 pk0 p.Funcs, Cl p33 [vl a19 k20 rv16, vl a45 k46 g1_42, vl a47 k48 g2_43]], r7_Build_L0 p rv16 r41 g1_42 g2_43 i_44 = X55 ∧ r41 = ((rv16.length : Int) - i_44).toNat ∧ (0 : Int) ≤ i_44 ∧ i_44 ≤ (rv16.length : Int) ∧ (-9223372036854775808 ≤ i_44 ∧ i_44 ≤ 9223372036854775807), r41⟩) (((rv16.length : Int) - 0).toNat, (List.replicate (rv16.length : Int).toNat []), (List.replicate (rv16.length : Int).toNat []), 0, a36, k37, a39, k40) [6, 5, 0, 2, 2, 3, 4] ⟨hX56, rfl, aM1, aM1, aM1⟩ ?_
 rintro ⟨r41, g1_42, g2_43, i_44, a45, k46, a47, k48⟩ ⟨hM49, hr50, hi51, hi52, hk53⟩
 refine JJ_nx fun _ _ hL hA => ?_; dsimp only at hL hA; subst hL hA
 refine Fb 24 0 fun _ => Fb 24 1 fun _ => Fb 32 2 fun _ => Fb 40 5 fun _ => KS ?_
 refine Oq Vm (Oq Vm (Oq (Vlen sl133) (Oq Vlss (KS ?_))))
 refine Kc ?_ ?_
 ·intro h63
  have g64 := dt h63
  obtain ⟨r65, rfl⟩ := scc (n := r41) aM1
  have H := hM49; (try dsimp only at H); rw [r7_Build_L0] at H
  refine KS ?_
  refine Oq (VldA sh84 4) (Oq Vm (Oq Vm ?_))
  refine lbH H hx57 fun rv67 hg68 H => ?_
  have hc69 := fn130 p pa0 pk0 rv16 a19 k20 i_44 pre rv67 hg68
  refine Oc [5, 2] ca130 hc69 ?_
  rintro c66 -
  refine Jo 0 ?_; rintro a70 k71 rfl
  refine Fb 8 0 fun _ => Fo 0 fun ho73 => ?_
  refine Oq Va (KS ?_)
  refine Oq Va (KS ?_)
  refine llH H hx57 fun X83 hX84 hx85 HL86 => ?_
  refine Kl (γ := Nat × List (List Int) × List (List Int) × Int) (fun (r74, g1_75, g2_76, k_77) => ⟨[(1, p2), (2, p3), (6, vl a19 k20 rv16), (7, p33), (8, vi i_44), (9, vl a70 k71 rv67), (10, vi k_77)], [S a70 k71 rv67, os (vl a47 k48 g2_43) g2_76, os (vl a45 k46 g1_42) g1_75, S a19 k20 rv16, Cl p3 [.slice none 0 0, .slice none 0 0, .slice none 0 0], pv p2 [vl pa0 pk0 p.Funcs], S pa0 pk0 p.Funcs, Cl p33 [vl a19 k20 rv16, vl a45 k46 g1_42, vl a47 k48 g2_43]], r7_Build_L1 i_44 rv67 r74 g1_75 g2_76 k_77 = X83 ∧ r74 = ((rv67.length : Int) - k_77).toNat ∧ (0 : Int) ≤ k_77 ∧ k_77 ≤ (rv67.length : Int) ∧ (-9223372036854775808 ≤ k_77 ∧ k_77 ≤ 9223372036854775807), r74⟩) (((rv67.length : Int) - 0).toNat, g1_42, g2_43, 0) [0, 1, 1, 1, 2, 2, 3, 4] ⟨hX84, rfl, aM1, aM1, aM1⟩ ?_
  rintro ⟨r74, g1_75, g2_76, k_77⟩ ⟨hM78, hr79, hi80, hi81, hk82⟩
  refine JJ_nx fun _ _ hL hA => ?_; dsimp only at hL hA; subst hL hA
  refine Fb 8 0 fun _ => Fo 0 fun ho88 => Fb 24 1 fun _ => Fl 1 fun hn90 => ?_
  refine Fb 24 2 fun _ => Fl 2 fun hn92 => ?_
  refine Fb 32 3 fun _ => Fb 40 6 fun _ => KS ?_
  refine Oq Vm (Oq Vm (Oq (Vlen sl22) (Oq Vlss (KS ?_))))
  refine Kc ?_ ?_
  ·intro h95
   have g96 := dt h95
   obtain ⟨r97, rfl⟩ := scc (n := r74) aM1
   have H := hM78; (try dsimp only at H); rw [r7_Build_L1] at H
   refine KS ?_
   refine Jp 7 fun hp98 => ?_
   refine pC H hx85 fun hc99 H => ?_
   refine JJ_peekOL i_44.toNat 3 rfl rng fun a100 k101 => ?_
   refine Fb 8 1 fun _ => Fo 1 fun ho103 => ?_
   refine JK_drawK [0, 1, 0, 0, 8, 0, 56, 120, 0, 0, 768, 1792, 4088, 8191, 16383] fmix ?_
   refine Dv [2] (Vfa fo135_1 0) (Dv [9] (VldF sh23 0) (Dv [] Vm (Dv [2] (Vfa fo135_1 0) (Dv [9] (VldF sh23 0) (Dv [] Vm (Dv [0] (Vi sl23 0) (Dv [0] (Vld sh22 0) (Dv [] Vm (Dv [] Vm ?_)))))))))
   refine pC H hx85 fun hc104 H => ?_
   refine pC H hx85 fun hc105 H => ?_
   refine Dv [3] (Vi sl22 0) ?_
   have hb106 := ok1 (i := k_77.toNat) ho88 rng
   refine Dv [3] (VldI sh3 0) ?_
   refine pC H hx85 fun hc107 H => ?_
   refine lvH H fun rv109 hg110 H => ?_
   refine Dx [1] [] [2, 0, 1] (fun G => (G.g 12 0)) [fun G => SP.fact ((rv109.length ≤ (g1_75.getD i_44.toNat []).length + 1)), fun G => sl (G.g 12 0) rv109] (fun G => xC [0] ca28 (fn28 ((g1_75.getD i_44.toNat [])) a100 k101 ((rv67.getD k_77.toNat 0)) pre pre rv109 hg110)) (Dv [0] (Vi sl23 0) ?_)
   refine Dx0 [0, 10, 11] [0] [2, 1, 0] [fun G => os (vl a45 k46 g1_42) (g1_75.set i_44.toNat rv109)] (fun G => by refine xf 1 rfl ?_; rintro he111; exact xp [0] rfl (Ent.oread _ _ _ _) (x1 2 rfl sl_one fun ho112 => (xS (OpS.frame [0, 1] rfl (OpS.storeOs' (Rs := [sl (G.g 12 0) rv109]) rv109 [(G.g 12 0)] rfl rfl rfl sh22 (cells_of_one ho112) rfl (fun h => ⟨_, rfl, sepAll_get (i := 0) rfl h⟩) rng))))) ?_
   refine Dn ⟨by kernel_rfl, fun G => ?_⟩
   refine Jw2 [(1, p2), (2, p3), (6, vl a19 k20 rv16), (7, p33), (8, vi i_44), (9, vl a70 k71 rv67), (10, vi k_77)] [1, 2, 3, 4, 5, 6, 7, 8, 9] [SP.fact ((rv109.length ≤ (g1_75.getD i_44.toNat []).length + 1)), sl (G.g 12 0) rv109, os (vl a45 k46 g1_42) (g1_75.set i_44.toNat rv109)] ?_
   generalize G.g 12 0 = c108
   refine Jf 9 rfl ?_; rintro he113
   refine Jk [0, 2, 3, 3, 4, 4, 5, 6, 7, 8] ?_
   refine Jo 8 ?_; rintro a114 k115 rfl
   refine Fb 8 8 fun _ => Fo 8 fun ho117 => ?_
   refine Jp 7 fun hp118 => ?_
   refine pC H hx85 fun hc119 H => ?_
   refine pC H hx85 fun hc120 H => ?_
   refine pC H hx85 fun hc121 H => ?_
   refine pC H hx85 fun hc122 H => ?_
   refine JJ_peekOL ((rv67.getD k_77.toNat 0) : Int).toNat 3 rfl rng fun a123 k124 => ?_
   refine Fb 8 1 fun _ => Fo 1 fun ho126 => ?_
   refine JK_drawK [0, 1, 0, 0, 12, 28, 0, 64, 0, 0, 768, 1792, 4032, 8128, 0, 32704, 65535, 131071] fmix ?_
   refine Dv [2] (Vfa fo135_2 0) (Dv [9] (VldF sh23 0) (Dv [] Vm (Dv [] Vm (Dv [4] (Vi sl22 0) ?_))))
   have hb127 := ok1 (i := k_77.toNat) ho88 rng
   refine Dv [4] (VldI sh3 0) (Dv [2] (Vfa fo135_2 0) (Dv [9] (VldF sh23 0) (Dv [] Vm (Dv [] Vm (Dv [4] (Vi sl22 0) ?_)))))
   have hb128 := ok1 (i := k_77.toNat) ho88 rng
   refine Dv [4] (VldI sh3 0) (Dv [0] (Vi sl23 0) (Dv [0] (Vld sh22 0) (Dv [] Vm ?_)))
   refine pC H hx85 fun hc129 H => ?_
   refine pC H hx85 fun hc130 H => ?_
   refine lvH H fun rv132 hg133 H => ?_
   refine Dx [1] [] [2, 0, 1] (fun G => (G.g 15 0)) [fun G => SP.fact ((rv132.length ≤ (g2_76.getD ((rv67.getD k_77.toNat 0) : Int).toNat []).length + 1)), fun G => sl (G.g 15 0) rv132] (fun G => xC [0] ca28 (fn28 ((g2_76.getD ((rv67.getD k_77.toNat 0) : Int).toNat [])) a123 k124 i_44 pre pre rv132 hg133)) ?_
   refine Dx [0, 12] [] [0, 0] (fun G => (eptr 1 (vl a47 k48 g2_43) ((rv67.getD k_77.toNat 0) : Int).toNat)) [] (fun G => by refine xf 1 rfl ?_; rintro he134; exact xV (Vi sl23 0)) ?_
   refine Dx0 [0, 12, 13] [0] [2, 1, 0] [fun G => os (vl a47 k48 g2_43) (g2_76.set ((rv67.getD k_77.toNat 0) : Int).toNat rv132)] (fun G => by refine xf 1 rfl ?_; rintro he135; exact xp [0] rfl (Ent.oread _ _ _ _) (x1 2 rfl sl_one fun ho136 => (xS (OpS.frame [0, 1] rfl (OpS.storeOs' (Rs := [sl (G.g 15 0) rv132]) rv132 [(G.g 15 0)] rfl rfl rfl sh22 (cells_of_one ho136) rfl (fun h => ⟨_, rfl, sepAll_get (i := 0) rfl h⟩) rng))))) ?_
   refine Dn ⟨by kernel_rfl, fun G => ?_⟩
   refine Jw2 [(1, p2), (2, p3), (6, vl a19 k20 rv16), (7, p33), (8, vi i_44), (9, vl a70 k71 rv67), (10, vi k_77)] [1, 2, 3, 4, 5, 6, 7, 8, 9, 10, 11] [SP.fact ((rv132.length ≤ (g2_76.getD ((rv67.getD k_77.toNat 0) : Int).toNat []).length + 1)), sl (G.g 15 0) rv132, os (vl a47 k48 g2_43) (g2_76.set ((rv67.getD k_77.toNat 0) : Int).toNat rv132)] ?_
   generalize G.g 15 0 = c131
   refine Jf 11 rfl ?_; rintro he137
   refine Jk [0, 2, 3, 4, 5, 5, 6, 7, 7, 8, 9, 10] ?_
   refine Jo 10 ?_; rintro a138 k139 rfl
   refine Fb 8 10 fun _ => Fo 10 fun ho141 => KS ?_
   refine Oq Vm (Oq Vadd (Oq Va (KS ?_)))
   refine pC H hx85 fun hc142 H => ?_
   refine pC H hx85 fun hc143 H => ?_
   exact Kg (r97, (g1_75.set i_44.toNat rv109), (g2_76.set ((rv67.getD k_77.toNat 0) : Int).toNat rv132), (k_77 + 1)) [2, 11, 9, 3, 4, 4, 5, 6] ⟨H, aM1, aM1, aM1, aM1⟩
  intro h95
  have g144 := df h95
  obtain rfl : r74 = 0 := by omega
  have H := hM78; (try dsimp only at H); rw [r7_Build_L1] at H
  refine Ke ?_
  have H := llB H HL86
  dsimp only at H
  refine KS ?_
  refine Oq Vm (Oq Vadd (Oq Va (KS ?_)))
  refine Fl 2 fun hn145 => ?_; (try unfold vl); rw [← hn145]
  refine Fl 1 fun hn146 => ?_; (try unfold vl); rw [← hn146]
  refine pC H hx57 fun hc147 H => ?_
  exact Kg (r65, g1_75, g2_76, (i_44 + 1), a45, k46, a47, k48) [1, 1, 1, 2, 2, 3, 4] ⟨H, aM1, aM1, aM1, aM1⟩
 intro h63
 have g148 := df h63
 obtain rfl : r41 = 0 := by omega
 have H := hM49; (try dsimp only at H); rw [r7_Build_L0] at H
 refine Ke ?_
 have H := llB H HL58
 dsimp only at H
 refine KS ?_
 refine Oq (VldA sh135 6) (Ost (Scl [3] sh135 [vl a19 k20 rv16, vl a45 k46 g1_42, vl a47 k48 g2_43]) (Oq Va (KS ?_)))
 refine Jl [2] (Ent.freeze _ _) ?_
 refine Jl [2] (Ent.freeze _ _) ?_
 have hq := rI H; subst hq
 exact Kr (vl a19 k20 rv16, vl a45 k46 g1_42, vl a47 k48 g2_43) rfl (.cellN 2 rfl sh135 rfl (reads_Cl _ _) rfl (.tmp rfl .nil)) [3, 1, 0] en
theorem fn132 (width : Int) (hwidth_0 : i64ok width) (rr : GTransfer) (hrr : r1_Identity width = .ret rr) : FT Tryz.prog 132 #[vi width] [] (fun g : Value × Value × Value => i64ok rr.Gen.Width ∧ i64ok rr.Kill.Width) (fun g => .agg #[vi rr.Gen.Width, g.1, vi rr.Kill.Width, g.2.1, g.2.2]) (fun g => [sl g.1 rr.Gen.Words, sl g.2.1 rr.Kill.Words, os g.2.2 rr.Copies]) := by
 refine FTi Tryz.func132 fun w0 M0 F0 => ?_
 unfold i64ok at hwidth_0
 have hx0 := lrn rr; have H := hrr; unfold r1_Identity at H
 refine KS ?_
 refine Oa (Al ze65 [vi 0, .slice none 0 0, vi 0, .slice none 0 0, .slice none 0 0]) fun p1 => KS ?_
 refine Oq Vm ?_
 refine pC H hx0 fun hc2 H => ?_
 refine lvH H fun rv4 hg5 H => ?_
 have hc6 := fn29 width pre pre rv4 hg5
 refine Oc [] ca29 hc6 ?_
 rintro c3 ⟨he7, he8, he9⟩
 unfold i64ok at he7
 refine Jo 0 ?_; rintro a10 k11 rfl
 refine Fb 8 0 fun _ => Oq Vm ?_
 have hc14 := fn29 width pre pre rv4 hg5
 refine Oc [] ca29 hc14 ?_
 rintro c13 ⟨he15, he16, he17⟩
 unfold i64ok at he15
 refine Jo 0 ?_; rintro a18 k19 rfl
 refine Oq (Vbd st65 [vi rv4.Width, vl a10 k11 rv4.Words, vi rv4.Width, vl a18 k19 rv4.Words, .slice none 0 0]) (Ost (Scl [2] sh65 [vi rv4.Width, vl a10 k11 rv4.Words, vi rv4.Width, vl a18 k19 rv4.Words, .slice none 0 0]) (KS ?_))
 refine Jl [] (Ent.osNil (α := GCopy)) ?_
 refine Jl [3] (Ent.freeze _ _) ?_
 refine Jl [3] (Ent.freeze _ _) ?_
 refine pC H hx0 fun hc20 H => ?_
 have hq := rI H; subst hq
 exact Kr (vl a10 k11 rv4.Words, vl a18 k19 rv4.Words, .slice none 0 0) rfl (.cellN 3 rfl sh65 rfl (reads_Cl _ _) rfl .nil) [1, 0, 2] en
theorem fn53 (s : GSet) (sa1 : Option Addr) (sk1 : Nat) (hs_0 : i64ok s.Width) (rr : Bool) (hrr : r1_Valid s = rr) : FT Tryz.prog 53 #[.agg #[vi s.Width, vl sa1 sk1 s.Words]] [S sa1 sk1 s.Words] (fun g : Unit => True) (fun g => vb rr) (fun g => []) := by
 refine FTi Tryz.func53 fun w0 M0 F0 => ?_
 unfold i64ok at hs_0
 refine Fb 8 0 fun _ => KS ?_
 refine Oa (Ab [vi s.Width, vl sa1 sk1 s.Words]) fun p2 => Oq Va (KS ?_)
 refine Oq (Vfa fo42_0 0) (Oq (VldF sh3 0) (Oq Vlss (Oq Vm ?_)))
 refine Js 7 ?_ ?_
 ·intro h3
  have g4 := dt h3
  refine Osk (Osk (Osk (Oq Vpt (Oq Vm (Osk (Osk (Osk (Osk (Osk ?_)))))))))
  refine Osk (Osk (Osk (Oq Vpt (KS ?_))))
  refine Kt (KS ?_)
  refine Oq Va (KS ?_)
  have hq := q4 hrr false (by simp only [r1_Valid, h3, cs4]); subst hq
  exact Kr () rfl (.tmp rfl .nil) [] trivial
 intro h3
 have g5 := df h3
 refine Oq (Vfa fo42_0 0) (Oq (VldF sh3 0) (Oq Vgtr (Oq Vpf (Oq Vm ?_))))
 refine Js 12 ?_ ?_
 ·intro h6
  have g7 := dt h6
  refine Osk (Osk (Osk (Osk (Osk (Osk (Osk (Osk (Oq Vpt (KS ?_)))))))))
  refine Kt (KS ?_)
  refine Oq Va (KS ?_)
  have hq := q4 hrr false (by simp only [r1_Valid, h3, h6, cs4]); subst hq
  exact Kr () rfl (.tmp rfl .nil) [] trivial
 intro h6
 have g8 := df h6
 refine Oq (Vfa fo42_1 0) (Oq (VldF sh40 0) (Oq (Vlen sl40) (Oq (Vfa fo42_0 0) (Oq (VldF sh3 0) (Oq Vadd (Oq Vquo (Oq Vneq (Oq Vpf (KS ?_)))))))))
 refine Kc ?_ ?_
 ·intro h9
  have g10 := ne_of_bne h9
  refine KS ?_
  refine Oq Va (KS ?_)
  have hq := q4 hrr false (by simp only [r1_Valid, h3, h6, h9, cs4]); subst hq
  exact Kr () rfl (.tmp rfl .nil) [] trivial
 intro h9
 have g11 := eq_of_bne_false h9
 refine KS ?_
 refine Oq (Vfa fo42_0 0) (Oq (VldF sh3 0) (Oq Va (KS ?_)))
 refine Kl (γ := Nat × Int) (fun (r12, b_13) => ⟨[(1, p2), (3, vi b_13)], [pv p2 [vi s.Width, vl sa1 sk1 s.Words], S sa1 sk1 s.Words], r1_Valid_L0 s r12 b_13 = r1_Valid_L0 s ((((64 * (s.Words.length : Int)) : Int) - s.Width).toNat) s.Width ∧ r12 = (((64 * (s.Words.length : Int)) : Int) - b_13).toNat ∧ (s.Width : Int) ≤ b_13 ∧ (b_13 ≤ (64 * (s.Words.length : Int)) ∨ b_13 = s.Width) ∧ (-9223372036854775808 ≤ b_13 ∧ b_13 ≤ 9223372036854775807), r12⟩) ((((64 * (s.Words.length : Int)) : Int) - s.Width).toNat, s.Width) [0, 1] ⟨rfl, rfl, aM1, (.inr rfl), aM1⟩ ?_
 rintro ⟨r12, b_13⟩ ⟨hM14, hr15, hi16, hi17, hk18⟩
 refine JJ_nx fun _ _ hL hA => ?_; dsimp only at hL hA; subst hL hA
 refine Fb 8 1 fun _ => KS ?_
 refine Oq Vm (Oq (Vfa fo42_1 0) (Oq (VldF sh40 0) (Oq (Vlen sl40) (Oq Vmul (Oq Vlss (KS ?_))))))
 refine Kc ?_ ?_
 ·intro h20
  have g21 := dt h20
  obtain ⟨r22, rfl⟩ := scc (n := r12) aM1
  refine KS ?_
  refine Oq (Vfa fo42_1 0) (Oq (VldF sh40 0) (Oq Vm (Oq Vquo (Oq (Vi sl40 1) (Oq (VldU sh91 1) (Oq Vm (Oq Vrem (Oq (VcU un3 un92) (Oq VshrU ?_)))))))))
  refine Oq (VandU (b := 1#64)) (Oq (VeqlU (b := 1#64)) (KS ?_))
  refine Kc ?_ ?_
  ·intro h23
   have g24 := eq_of_beq h23
   refine KS ?_
   refine Oq Va (KS ?_)
   have hR25 := q2 hM14 (.ret false) (by simp only [r1_Valid_L0, h20, h23, cs4])
   have hq := q4 hrr false (by simp only [r1_Valid, h3, h6, h9, h20, h23, hR25, cs4]); subst hq
   exact Kr () rfl (.tmp rfl .nil) [] trivial
  intro h23
  have g26 := ne_of_beq_false h23
  refine KS ?_
  refine Oq Vm (Oq Vadd (Oq Va (KS ?_)))
  exact Kg (r22, (b_13 + 1)) [0, 1] ⟨(q3 hM14 (by simp only [r1_Valid_L0, h20, h23, cs4])), aM1, aM1, aM1, aM1⟩
 intro h20
 have g27 := df h20
 obtain rfl : r12 = 0 := by omega
 refine Ke ?_
 have hR28 := q2 hM14 (.brk ()) (by simp only [r1_Valid_L0, h20, cs4])
 refine KS ?_
 refine Oq Va (KS ?_)
 have hq := q4 hrr true (by simp only [r1_Valid, h3, h6, h9, h20, hR28, cs4]); subst hq
 exact Kr () rfl (.tmp rfl .nil) [] trivial
theorem fn21 (s : GSet) (sa1 : Option Addr) (sk1 : Nat) (b : Int) (hs_0 : i64ok s.Width) (hb_0 : i64ok b) (rr : Bool) (hrr : r1_Has s b = rr) : FT Tryz.prog 21 #[.agg #[vi s.Width, vl sa1 sk1 s.Words], vi b] [S sa1 sk1 s.Words] (fun g : Unit => True) (fun g => vb rr) (fun g => []) := by
 refine FTi Tryz.func21 fun w0 M0 F0 => ?_
 unfold i64ok at hs_0 hb_0
 refine Fb 8 0 fun _ => KS ?_
 refine Oa (Ab [vi s.Width, vl sa1 sk1 s.Words]) fun p2 => Oq Va (KS ?_)
 refine Oq (VldA sh42 0) ?_
 refine letv (r1_Valid s) fun rv3 hg4 => ?_
 have hc5 := fn53 s sa1 sk1 pre rv3 hg4
 refine Oc [1] ca53 hc5 ?_
 rintro - -
 refine Oq Vm ?_
 refine Js 7 ?_ ?_
 ·intro h6
  try have hrg := RV_w (s := s) (by simp only [h6, hg4])
  refine Oq Vm (Oq Vgeq (Oq Vpt (Oq Vm ?_)))
  refine Js 11 ?_ ?_
  ·intro h8
   have g9 := dt h8
   refine Oq Vm (Oq (Vfa fo42_0 0) (Oq (VldF sh3 0) (Oq Vlss (Oq Vpt (Oq Vm ?_)))))
   refine Js 17 ?_ ?_
   ·intro h10
    have g11 := dt h10
    refine Oq (Vfa fo42_1 0) (Oq (VldF sh40 0) (Oq Vm (Oq Vquo (Oq (Vi sl40 1) (Oq (VldU sh91 1) (Oq Vm (Oq Vrem (Oq (VcU un3 un92) (Oq VshrU ?_)))))))))
    refine Oq (VandU (b := 1#64)) (Oq (VeqlU (b := 1#64)) (Oq Vpt (Oq Va (KS ?_))))
    have hq := q4 hrr ((((s.Words.getD ((b / 64) : Int).toNat 0#64) >>> (((BitVec.ofInt 64 (b % 64)).toNat : Int)).toNat) &&& 1#64) == 1#64) (by simp only [r1_Has, h6, h8, h10, hg4, cs4]); subst hq
    exact Kr () rfl (.tmp rfl .nil) [] trivial
   intro h10
   have g12 := df h10
   refine Osk (Osk (Osk (Osk (Osk (Osk (Osk (Osk (Osk (Osk ?_)))))))))
   refine Osk (Osk (Oq Vpf (Oq Va (KS ?_))))
   have hq := q4 hrr false (by simp only [r1_Has, h6, h8, h10, hg4, cs4]); subst hq
   exact Kr () rfl (.tmp rfl .nil) [] trivial
  intro h8
  have g13 := df h8
  refine Osk (Osk (Osk (Osk (Oq Vpf (Oq Vm (Osk (Osk (Osk (Osk ?_)))))))))
  refine Osk (Osk (Osk (Osk (Osk (Osk (Osk (Osk (Oq Vpf (Oq Va ?_)))))))))
  refine KS ?_
  have hq := q4 hrr false (by simp only [r1_Has, h6, h8, hg4, cs4]); subst hq
  exact Kr () rfl (.tmp rfl .nil) [] trivial
 intro h6
 refine Osk (Osk (Oq Vpf (Oq Vm (Osk (Osk (Osk (Osk (Oq Vpf (Oq Vm ?_)))))))))
 refine Osk (Osk (Osk (Osk (Osk (Osk (Osk (Osk (Osk (Osk ?_)))))))))
 refine Osk (Osk (Oq Vpf (Oq Va (KS ?_))))
 have hq := q4 hrr false (by simp only [r1_Has, h6, hg4, cs4]); subst hq
 exact Kr () rfl (.tmp rfl .nil) [] trivial
theorem fn41 (s : GSet) (sa1 : Option Addr) (sk1 : Nat) (b : Int) (hs_0 : i64ok s.Width) (hb_0 : i64ok b) (hb0 : 0 ≤ b ∧ b < s.Width) (hw0 : s.Width ≤ 1000000) (rr : GSet) (hrr : r1_Put s b = rr) : FT Tryz.prog 41 #[.agg #[vi s.Width, vl sa1 sk1 s.Words], vi b] [S sa1 sk1 s.Words] (fun g : Value => i64ok rr.Width ∧ (rr.Width = s.Width) ∧ (rr.Words.length = ((s.Width + 63) / 64).toNat)) (fun g => .agg #[vi rr.Width, g]) (fun g => [os g rr.Words]) := by
 refine FTi Tryz.func41 fun w0 M0 F0 => ?_
 unfold i64ok at hs_0 hb_0
 refine Fb 8 0 fun _ => KS ?_
 refine Oa (Ab [vi s.Width, vl sa1 sk1 s.Words]) fun p2 => Oa (Al ze42 [vi 0, .slice none 0 0]) fun p3 => KS ?_
 refine Oq (Vfa fo42_0 1) (Oq (VldF sh3 1) ?_)
 refine letv (r1_Empty s.Width) fun rv5 hg6 => ?_
 have hc7 := fn29 s.Width pre pre rv5 hg6
 refine Oc [] ca29 hc7 ?_
 rintro c4 ⟨he8, he9, he10⟩
 unfold i64ok at he8
 refine Jo 0 ?_; rintro a11 k12 rfl
 refine Fb 8 0 fun _ => ?_
 refine Oa (Al ze42 [vi 0, .slice none 0 0]) fun p14 => Ost (Scl [0] sh42 [vi rv5.Width, vl a11 k12 rv5.Words]) (KS ?_)
 refine Oq (Vfa fo42_1 0) (Oq (VldF sh40 0) (Oq (Vfa fo42_1 3) (Oq (VldF sh40 3) (Oa (OpA.frame [1, 3] rfl (OpA.copyS (α := BitVec 64) rfl rfl rfl sl40 rfl)) fun u15 => ?_))))
 have hn16 : (s.Words.take rv5.Words.length ++ rv5.Words.drop s.Words.length).length = rv5.Words.length := len_copy _ _
 refine KS ?_
 refine Oq (Vfa fo42_1 1) (Oq (VldF sh40 1) (Oq Vm (Oq Vquo (Oq (Vi sl40 0) (Oq (VldU sh91 0) (Oq Vm (Oq Vrem (Oq (VcU un3 un92) (Oq (VshlU (a := 1#64)) ?_)))))))))
 refine Oq VorU (Oq (Vi sl40 0) (Ost (SoU [0] sh91) (KS ?_)))
 refine Oq (VldA sh42 1) (Ost (Scl [2] sh42 [vi rv5.Width, vl a11 k12 rv5.Words]) (KS ?_))
 have hq := q4 hrr (GSet.mk rv5.Width ((s.Words.take rv5.Words.length ++ rv5.Words.drop s.Words.length).set ((b / 64) : Int).toNat (((s.Words.take rv5.Words.length ++ rv5.Words.drop s.Words.length).getD ((b / 64) : Int).toNat 0#64) ||| (1#64 <<< (((BitVec.ofInt 64 (b % 64)).toNat : Int)).toNat)))) (by simp only [r1_Put, hg6, cs4]); subst hq
 exact Kr (vl a11 k12 rv5.Words) rfl (.cellN 0 rfl sh42 rfl (reads_Cl _ _) rfl .nil) [1] en
theorem fn168 (x : GTable) (xa1 : Option Addr) (xk1 : Nat) (xa2 : Option Addr) (xk2 : Nat) (hx_0 : i64ok x.Zero.Width) (rr : GTransfer × Bool) (hrr : r1_function x = .ret rr) : FT Tryz.prog 168 #[.agg #[vi x.Zero.Width, vl xa1 xk1 x.Zero.Words, vl xa2 xk2 x.One]] [S xa1 xk1 x.Zero.Words, S xa2 xk2 x.One] (fun g : Value × Value × Value => i64ok rr.1.Gen.Width ∧ i64ok rr.1.Kill.Width) (fun g => .tuple #[.agg #[vi rr.1.Gen.Width, g.1, vi rr.1.Kill.Width, g.2.1, g.2.2], vb rr.2]) (fun g => [sl g.1 rr.1.Gen.Words, sl g.2.1 rr.1.Kill.Words, sl g.2.2 rr.1.Copies]) := by
 refine FTi Tryz.func168 fun w0 M0 F0 => ?_
 unfold i64ok at hx_0
 refine Fb 8 0 fun _ => Fb 32 1 fun _ => ?_
 have hx0 := lrn rr; have H := hrr; unfold r1_function at H
 refine KS ?_
 refine Oa (Ab [vi x.Zero.Width, vl xa1 xk1 x.Zero.Words, vl xa2 xk2 x.One]) fun p3 => Oa (Al ze65 [vi 0, .slice none 0 0, vi 0, .slice none 0 0, .slice none 0 0]) fun p4 => Oq Va (KS ?_)
 refine Oq (Vfa fo210_0 1) (Oq (VfaF fo42_0 1) (Oq (VldF sh3 1) (Oq Va (KS ?_))))
 refine JK_drawK [0, 1, 0, 4, 15, 0, 63] fmix ?_
 refine Dv [1] (Vfa fo210_0 0) (Dv [1] (VldG sh42 0 [vi x.Zero.Width, vl xa1 xk1 x.Zero.Words]) (Dv [] Vm ?_))
 refine pC H hx0 fun hc5 H => ?_
 refine lvH H fun rv7 hg8 H => ?_
 refine Dx [] [] [0, 1] (fun G => .agg #[vi rv7.Width, (G.g 3 0)]) [fun G => SP.fact (i64ok rv7.Width ∧ (rv7.Width = x.Zero.Width) ∧ (rv7.Words.length = (((x.Zero.Width : Int) + 63) / 64).toNat)), fun G => os (G.g 3 0) rv7.Words] (fun G => xC [] ca29 (fn29 x.Zero.Width pre pre rv7 hg8)) ?_
 refine Dx [5] [] [0] (fun G => .agg #[vi x.Zero.Width, vl xa1 xk1 x.Zero.Words, vi rv7.Width, (G.g 3 0), .slice none 0 0]) [] (fun G => xV (v := .agg #[vi x.Zero.Width, vl xa1 xk1 x.Zero.Words, vi rv7.Width, (G.g 3 0), .slice none 0 0]) (Vo 0 rfl (isO_os _ _) fun aq9 kq10 eq11 => (by rw [eq11]; exact Vbd st65 [vi x.Zero.Width, vl xa1 xk1 x.Zero.Words, vi rv7.Width, .slice aq9 ((rv7.Words : List (BitVec 64)).length) kq10, .slice none 0 0]))) (Dx [] [] [0] (fun G => (G.g 5 0)) [fun G => Cl (G.g 5 0) [vi 0, .slice none 0 0, vi 0, .slice none 0 0, .slice none 0 0]] (fun G => xA (Al ze65 [vi 0, .slice none 0 0, vi 0, .slice none 0 0, .slice none 0 0])) (Dx0 [5, 6] [6] [1, 0] [fun G => Cl (G.g 5 0) [vi x.Zero.Width, vl xa1 xk1 x.Zero.Words, vi rv7.Width, (G.g 3 0), .slice none 0 0]] (fun G => x1 0 rfl os_one fun ho13 => (xS (Scl [1] sh65 [vi x.Zero.Width, vl xa1 xk1 x.Zero.Words, vi rv7.Width, (G.g 3 0), .slice none 0 0] (v := .agg #[vi x.Zero.Width, vl xa1 xk1 x.Zero.Words, vi rv7.Width, (G.g 3 0), .slice none 0 0]) (h1 := show [vi x.Zero.Width, vl xa1 xk1 x.Zero.Words, vi rv7.Width, (G.g 3 0), .slice none 0 0].all (·.oneCell') = true from (by simp only [List.all_cons, List.all_nil, ho13, Bool.and_true, Bool.true_and] <;> rfl))))) ?_))
 refine Dn ⟨by kernel_rfl, fun G => ?_⟩
 refine Jw2 [(1, p3), (2, p4), (4, vi x.Zero.Width), (5, (G.g 5 0))] [0, 1, 2, 3] [SP.fact (i64ok rv7.Width ∧ (rv7.Width = x.Zero.Width) ∧ (rv7.Words.length = (((x.Zero.Width : Int) + 63) / 64).toNat)), os (G.g 3 0) rv7.Words, Cl (G.g 5 0) [vi x.Zero.Width, vl xa1 xk1 x.Zero.Words, vi rv7.Width, (G.g 3 0), .slice none 0 0]] ?_
 generalize G.g 3 0 = c6, G.g 5 0 = p12
 refine Jf 4 rfl ?_; rintro ⟨he14, he15, he16⟩
 unfold i64ok at he14
 refine Jk [0, 0, 1, 2, 4, 4] ?_
 refine Jo 4 ?_; rintro a17 k18 rfl
 refine Fb 8 4 fun _ => KS ?_
 refine Oq Va (KS ?_)
 refine llH H hx0 fun X32 hX33 hx34 HL35 => ?_
 refine Kl (γ := Nat × Int × List (BitVec 64) × Int × Option Addr × Nat) (fun (r20, t2_21, t3_22, a_23, a24, k25) => ⟨[(1, p3), (2, p4), (4, vi x.Zero.Width), (5, p12), (6, vi a_23)], [O a24 k25 t3_22, Cl p4 [vi 0, .slice none 0 0, vi 0, .slice none 0 0, .slice none 0 0], pv p3 [vi x.Zero.Width, vl xa1 xk1 x.Zero.Words, vl xa2 xk2 x.One], S xa1 xk1 x.Zero.Words, S xa2 xk2 x.One, Cl p12 [vi x.Zero.Width, vl xa1 xk1 x.Zero.Words, vi t2_21, vl a24 k25 t3_22, .slice none 0 0]], r1_function_L0 x r20 t2_21 t3_22 a_23 = X32 ∧ r20 = ((x.Zero.Width : Int) - a_23).toNat ∧ (0 : Int) ≤ a_23 ∧ (a_23 ≤ x.Zero.Width ∨ a_23 = 0) ∧ (-9223372036854775808 ≤ t2_21 ∧ t2_21 ≤ 9223372036854775807) ∧ (-9223372036854775808 ≤ a_23 ∧ a_23 ≤ 9223372036854775807), r20⟩) (((x.Zero.Width : Int) - 0).toNat, rv7.Width, rv7.Words, 0, a17, k18) [4, 0, 0, 1, 2, 3] ⟨hX33, rfl, aM1, (.inr rfl), aM1, aM1⟩ ?_
 rintro ⟨r20, t2_21, t3_22, a_23, a24, k25⟩ ⟨hM26, hr27, hi28, hi29, hk30, hk31⟩
 refine JJ_nx fun _ _ hL hA => ?_; dsimp only at hL hA; subst hL hA
 refine Fb 8 0 fun _ => Fb 8 3 fun _ => Fb 32 4 fun _ => KS ?_
 refine Oq Vm (Oq Vm (Oq Vlss (KS ?_)))
 refine Kc ?_ ?_
 ·intro h39
  have g40 := dt h39
  obtain ⟨r41, rfl⟩ := scc (n := r20) aM1
  have H := hM26; (try dsimp only at H); rw [r1_function_L0] at H
  refine KS ?_
  refine Oq (Vfa fo210_1 2) (Oq (VldF sh25 2) (Oq Vm ?_))
  refine pC H hx34 fun hc42 H => ?_
  refine Oq (Vi sl25 4) ?_
  refine JJ_peek_GSet a_23.toNat 4 rfl rng fun a43 k44 hb45 => ?_
  unfold i64ok at hb45
  refine Fb 8 1 fun _ => ?_
  refine Oq (VldA sh42 0) (Oq Vm ?_)
  refine pC H hx34 fun hc49 H => ?_
  refine lvH H fun rv47 hg48 H => ?_
  have hc50 := fn21 ((x.One.getD a_23.toNat default)) a43 k44 a_23 pre pre rv47 hg48
  refine Oc [1] ca21 hc50 ?_
  rintro - -
  refine Oq Vnot (Oq Vm ?_)
  refine pF H hx34 fun h51 H => ?_
  refine JsF 29 h51 ?_
  have h53 := not_false h51
  refine Oq (Vfa fo210_0 4) (Oq (VldG sh42 4 [vi x.Zero.Width, vl xa1 xk1 x.Zero.Words]) (Oq Vm ?_))
  refine lvH H fun rv55 hg56 H => ?_
  have hc57 := fn21 x.Zero xa1 xk1 a_23 pre pre rv55 hg56
  refine Oc [5] ca21 hc57 ?_
  rintro - -
  refine Oq Vpf (KS ?_)
  refine KcH H ?_ ?_
  ·intro h58 H
   refine KS ?_
   refine Oq (Vfa fo65_1 7) (Oq (VldG sh42 7 [vi t2_21, vl a24 k25 t3_22]) (Oq Vm ?_))
   refine pC H hx34 fun hc60 H => ?_
   refine pC H hx34 fun hc61 H => ?_
   refine lvH H fun rv63 hg64 H => ?_
   refine Oc [2] ca41 (FT_borrow (A := _) hlx (FT_ent (Ent.take (is := [0]) rfl) (fn41 ((GSet.mk t2_21 t3_22)) a24 k25 a_23 pre pre pre pre rv63 hg64))) ?_ (ht := rfl)
   rintro c62 ⟨he65, he66, he67⟩
   unfold i64ok at he65
   have he66 : (rv63.Width = t2_21) := he66
   have he67 : (rv63.Words.length = ((t2_21 + 63) / 64).toNat) := he67
   refine Jo 1 ?_; rintro a68 k69 rfl
   refine Fb 8 1 fun _ => ?_
   refine Oq (Vfa fo65_1 8) (Ost (SclF [8] sh42 [vi x.Zero.Width, vl xa1 xk1 x.Zero.Words, vi rv63.Width, vl a68 k69 rv63.Words, .slice none 0 0]) (KS ?_))
   refine Oq Va (KS ?_)
   refine llH H hx34 fun X78 hX79 hx80 HL81 => ?_
   refine Kl (γ := Nat × Int) (fun (r71, b_72) => ⟨[(1, p3), (2, p4), (4, vi x.Zero.Width), (5, p12), (6, vi a_23), (7, vi b_72)], [Cl p12 [vi x.Zero.Width, vl xa1 xk1 x.Zero.Words, vi rv63.Width, vl a68 k69 rv63.Words, .slice none 0 0], O a68 k69 rv63.Words, Cl p4 [vi 0, .slice none 0 0, vi 0, .slice none 0 0, .slice none 0 0], pv p3 [vi x.Zero.Width, vl xa1 xk1 x.Zero.Words, vl xa2 xk2 x.One], S xa1 xk1 x.Zero.Words, S xa2 xk2 x.One], r1_function_L1 a_23 r71 b_72 = X78 ∧ r71 = ((x.Zero.Width : Int) - b_72).toNat ∧ (0 : Int) ≤ b_72 ∧ (b_72 ≤ x.Zero.Width ∨ b_72 = 0) ∧ (-9223372036854775808 ≤ b_72 ∧ b_72 ≤ 9223372036854775807), r71⟩) (((x.Zero.Width : Int) - 0).toNat, 0) [0, 1, 3, 3, 4, 5] ⟨hX79, rfl, aM1, (.inr rfl), aM1⟩ ?_
   rintro ⟨r71, b_72⟩ ⟨hM73, hr74, hi75, hi76, hk77⟩
   refine JJ_nx fun _ _ hL hA => ?_; dsimp only at hL hA; subst hL hA
   refine Fb 8 1 fun _ => Fb 8 4 fun _ => Fb 32 5 fun _ => KS ?_
   refine Oq Vm (Oq Vm (Oq Vlss (KS ?_)))
   refine Kc ?_ ?_
   ·intro h85
    have g86 := dt h85
    obtain ⟨r87, rfl⟩ := scc (n := r71) aM1
    have H := hM73; (try dsimp only at H); rw [r1_function_L1] at H
    refine KS ?_
    refine Oq Vm (Oq Vm (Oq Vneq (Oq Vm ?_)))
    refine pF H hx80 fun h88 H => ?_
    refine JsF 48 h88 ?_
    have g89 := eq_of_bne_false h88
    refine Osk (Osk (Osk (Osk (Osk (Osk (Osk (Oq Vpf (Oq Vm (Osk ?_)))))))))
    refine Osk (Osk (Osk (Osk (Oq Vpf (KS ?_)))))
    refine Kf (KS ?_)
    refine Oq Vm (Oq Vadd (Oq Va (KS ?_)))
    refine pC H hx80 fun hc90 H => ?_
    exact Kg (r87, (b_72 + 1)) [0, 0, 0, 0, 1, 2] ⟨H, aM1, aM1, aM1, aM1⟩
   intro h85
   have g91 := df h85
   obtain rfl : r71 = 0 := by omega
   have H := hM73; (try dsimp only at H); rw [r1_function_L1] at H
   refine Ke ?_
   have H := llB H HL81
   refine KS ?_
   refine Oq Vm (Oq Vadd (Oq Va (KS ?_)))
   refine pC H hx34 fun hc92 H => ?_
   exact Kg (r41, rv63.Width, rv63.Words, (a_23 + 1), a68, k69) [1, 1, 1, 2, 3, 0] ⟨H, aM1, aM1, aM1, aM1, aM1⟩
  intro h58 H
  refine KS ?_
  refine Oq Va (KS ?_)
  refine llH H hx34 fun X101 hX102 hx103 HL104 => ?_
  refine Kl (γ := Nat × Int) (fun (r94, b_95) => ⟨[(1, p3), (2, p4), (4, vi x.Zero.Width), (5, p12), (6, vi a_23), (7, vi b_95)], [O a24 k25 t3_22, Cl p4 [vi 0, .slice none 0 0, vi 0, .slice none 0 0, .slice none 0 0], pv p3 [vi x.Zero.Width, vl xa1 xk1 x.Zero.Words, vl xa2 xk2 x.One], S xa1 xk1 x.Zero.Words, S xa2 xk2 x.One, Cl p12 [vi x.Zero.Width, vl xa1 xk1 x.Zero.Words, vi t2_21, vl a24 k25 t3_22, .slice none 0 0]], r1_function_L1 a_23 r94 b_95 = X101 ∧ r94 = ((x.Zero.Width : Int) - b_95).toNat ∧ (0 : Int) ≤ b_95 ∧ (b_95 ≤ x.Zero.Width ∨ b_95 = 0) ∧ (-9223372036854775808 ≤ b_95 ∧ b_95 ≤ 9223372036854775807), r94⟩) (((x.Zero.Width : Int) - 0).toNat, 0) [2, 2, 2, 3, 4, 5] ⟨hX102, rfl, aM1, (.inr rfl), aM1⟩ ?_
  rintro ⟨r94, b_95⟩ ⟨hM96, hr97, hi98, hi99, hk100⟩
  refine JJ_nx fun _ _ hL hA => ?_; dsimp only at hL hA; subst hL hA
  refine Fb 8 0 fun _ => Fb 8 3 fun _ => Fb 32 4 fun _ => KS ?_
  refine Oq Vm (Oq Vm (Oq Vlss (KS ?_)))
  refine Kc ?_ ?_
  ·intro h108
   have g109 := dt h108
   obtain ⟨r110, rfl⟩ := scc (n := r94) aM1
   have H := hM96; (try dsimp only at H); rw [r1_function_L1] at H
   refine KS ?_
   refine Oq Vm (Oq Vm (Oq Vneq (Oq Vm ?_)))
   refine pF H hx103 fun h111 H => ?_
   refine JsF 48 h111 ?_
   have g112 := eq_of_bne_false h111
   refine Osk (Osk (Osk (Osk (Osk (Osk (Osk (Oq Vpf (Oq Vm (Osk ?_)))))))))
   refine Osk (Osk (Osk (Osk (Oq Vpf (KS ?_)))))
   refine Kf (KS ?_)
   refine Oq Vm (Oq Vadd (Oq Va (KS ?_)))
   refine pC H hx103 fun hc113 H => ?_
   exact Kg (r110, (b_95 + 1)) [0, 0, 0, 1, 2, 3] ⟨H, aM1, aM1, aM1, aM1⟩
  intro h108
  have g114 := df h108
  obtain rfl : r94 = 0 := by omega
  have H := hM96; (try dsimp only at H); rw [r1_function_L1] at H
  refine Ke ?_
  have H := llB H HL104
  refine KS ?_
  refine Oq Vm (Oq Vadd (Oq Va (KS ?_)))
  refine pC H hx34 fun hc115 H => ?_
  exact Kg (r41, t2_21, t3_22, (a_23 + 1), a24, k25) [0, 0, 0, 1, 2, 3] ⟨H, aM1, aM1, aM1, aM1, aM1⟩
 intro h39
 have g116 := df h39
 obtain rfl : r20 = 0 := by omega
 have H := hM26; (try dsimp only at H); rw [r1_function_L0] at H
 refine Ke ?_
 have H := llB H HL35
 dsimp only at H
 refine KS ?_
 refine Jp 5 fun hp117 => ?_
 refine JK_drawK [0, 0, 2, 6, 14, 1, 63] fmix ?_
 refine Dv [6] (VldA sh65 0) (Dv [0] (Vfa fo65_2 0) (Dv [6] (VldF sh63 0) (Dv [] (Vlen sl63) (Dv [] Vleq (Dx0 [2] [2] [0] [fun G => Cl p4 [vi x.Zero.Width, vl xa1 xk1 x.Zero.Words, vi t2_21, vl a24 k25 t3_22, .slice none 0 0]] (fun G => xS (Scl [0] sh65 [vi x.Zero.Width, vl xa1 xk1 x.Zero.Words, vi t2_21, vl a24 k25 t3_22, .slice none 0 0])) (Dv [] Va ?_))))))
 refine Dn ⟨by kernel_rfl, fun G => ?_⟩
 refine Jw2 [(2, p4), (3, vb (decide (((0 : Nat) : Int) ≤ 64)))] [0, 1, 3, 4, 5, 6] [Cl p4 [vi x.Zero.Width, vl xa1 xk1 x.Zero.Words, vi t2_21, vl a24 k25 t3_22, .slice none 0 0]] ?_
 refine Jk [1, 1, 2, 3, 4, 4] ?_
 refine Jl [0] (Ent.freeze _ _) ?_
 refine Jl [] (Ent.slNil (α := GCopy)) ?_
 have hq := rI H; subst hq
 exact Kr (vl xa1 xk1 x.Zero.Words, vl a24 k25 t3_22, .slice none 0 0) rfl (.cellN 6 rfl sh65 rfl (reads_Cl _ _) rfl (.tmp rfl .nil)) [3, 1, 0] en
end Go.SL.G
