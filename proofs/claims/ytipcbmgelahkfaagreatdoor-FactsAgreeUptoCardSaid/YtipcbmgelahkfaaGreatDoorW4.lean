/- Part 4 of the walks: mirrors, plain laws and walks used by the last text of this claim. -/
import Derived.Test.YtipcbmgelahkfaaGreatDoorW3
import Derived.Test.YtipcbmgelahkfaaGreatDoorProg
set_option linter.unusedVariables false
set_option linter.unusedSimpArgs false
namespace Go.SL.G
open Go Go.SL Go.Proofs
set_option maxHeartbeats 20000000
set_option maxRecDepth 100000
theorem fn20 (p : GProgram) (pa0 : Option Addr) (pk0 : Nat) (kwLA : Option Addr) (kwLK : Nat) (hps : PSm p = true) (rr : GNode × Int) (hrr : vd_Check p = rr) : FT Tryz.prog 20 #[.agg #[vl pa0 pk0 p.Funcs]] [S pa0 pk0 p.Funcs, pv (gp 0) [vl kwLA kwLK kwL], S kwLA kwLK kwL] (fun g : Unit => i64ok rr.1.Kind ∧ i64ok rr.1.Func ∧ i64ok rr.1.Block ∧ i64ok rr.1.Stmt ∧ i64ok rr.2) (fun g => .tuple #[.agg #[vi rr.1.Kind, vi rr.1.Func, vi rr.1.Block, vi rr.1.Stmt], vi rr.2]) (fun g => []) := by
 refine FTi Tryz.func20 fun w0 M0 F0 => Fb 40 0 fun _ => Fb 16 2 fun _ => ?_
 refine FoS 2 fun ho3 => ?_
 refine KS ?_
 refine Oa (Ab [vl pa0 pk0 p.Funcs]) fun p4 => Oa (Al ze63 [vi 0, vi 0, vi 0, vi 0]) fun p5 => Oq Va (KS ?_)
 refine Oq (VldA sh25 1) ?_
 refine letv (sx_Valid p) fun rv6 hg7 => ?_
 have hc8 := fn39 p pa0 pk0 kwLA kwLK pre rv6 hg7
 refine Oc [2, 3, 4] ca39 hc8 ?_
 rintro - -
 refine Oq Vnot (KS ?_)
 refine Kc ?_ ?_
 ·intro h9
  have h11 := not_true h9
  refine KS ?_
  refine Oq (Vbd st63 [vi 0, vi 0, vi 0, vi 0]) (Ost (Scl [0] sh63 [vi 0, vi 0, vi 0, vi 0]) (Oq Va (KS ?_)))
  have hq := q4 hrr ((GNode.mk 0 0 0 0), 1) (by simp only [vd_Check, h9, h11, hg7, cs4]); subst hq
  exact Kr () rfl (.cellN 0 rfl sh63 rfl (reads_Cl _ _) rfl (.tmp rfl .nil)) [] en
 intro h9
 have h14 := not_false h9
 refine KS ?_
 refine Oq (Vfa fo25_0 1) (Oq (VldF sh23 1) ?_)
 refine JJ_ent (Ent.pall [] rfl rfl) ?_
 refine letv (vd_duplicate_Func p.Funcs (fun x0 => vd_Check_1 x0)) fun rv17 hg18 => ?_
 have hc19 := fn40 p.Funcs pa0 pk0 41 [] (fun x0 => vd_Check_1 x0) [] ca41 (fun x0 a0 k0 hq0 => FT_pall (A1 := _) (fn41 x0 a0 k0  hq0 _ rfl)) rv17 hg18
 refine Oc [3, 0] ca40 hc19 ?_
 rintro c16 he20
 unfold i64ok at he20
 refine Jom 0 ?_; rintro b21 rfl
 refine Oq Vm (Oq Vx (Oq Vx (Oq Va (Oq Va (KS ?_)))))
 refine Oq Vm (Oq Vgeq (KS ?_))
 refine Kc ?_ ?_
 ·intro h22
  have g23 := dt h22
  refine KS ?_
  refine Oq Vm (Oq (Vbd st63 [vi 1, vi rv17.1, vi (-1), vi (-1)]) (Ost (Scl [2] sh63 [vi 1, vi rv17.1, vi (-1), vi (-1)]) (Oq Va (KS ?_))))
  have hq := q4 hrr ((GNode.mk 1 rv17.1 (-1) (-1)), 6) (by simp only [vd_Check, h9, h14, h22, hg7, hg18, cs4]); subst hq
  exact Kr () rfl (.cellN 0 rfl sh63 rfl (reads_Cl _ _) rfl (.tmp rfl .nil)) [] en
 intro h22
 have g24 := df h22
 refine KS ?_
 refine Oq (Vfa fo25_0 3) (Oq (VldF sh23 3) (Oq (Vlen sl23) (Oq Vm (KS ?_))))
 refine Kl (γ := Nat × Int) (fun (r25, v29_26) => ⟨[(1, p4), (2, p5), (5, (mv b21)), (27, vl pa0 pk0 p.Funcs), (28, vi (p.Funcs.length : Int)), (29, vi v29_26)], [Mp vstr vb okStr (mv b21) rv17.2, pAll [], Cl p5 [vi 0, vi 0, vi 0, vi 0], pv p4 [vl pa0 pk0 p.Funcs], S pa0 pk0 p.Funcs, pv (gp 0) [vl kwLA kwLK kwL], S kwLA kwLK kwL], vd_Check_L0 p rv17.2 r25 v29_26 = vd_Check_L0 p rv17.2 (((p.Funcs.length : Int) - 0).toNat) 0 ∧ r25 = ((p.Funcs.length : Int) - v29_26).toNat ∧ (0 : Int) ≤ v29_26 ∧ v29_26 ≤ (p.Funcs.length : Int) ∧ (-9223372036854775808 ≤ v29_26 ∧ v29_26 ≤ 9223372036854775807), r25⟩) (((p.Funcs.length : Int) - 0).toNat, 0) [0, 0, 1, 1, 2, 3, 4] ⟨rfl, rfl, aM1, aM1, aM1⟩ ?_
 rintro ⟨r25, v29_26⟩ ⟨hM27, hr28, hi29, hi30, hk31⟩
 refine JJ_nx fun _ _ hL hA => ?_; dsimp only at hL hA; subst hL hA
 refine Fb 40 4 fun _ => Fb 16 6 fun _ => ?_
 refine FoS 6 fun ho34 => ?_
 refine KS ?_
 refine Oq Vlss (KS ?_)
 refine Kc ?_ ?_
 ·intro h35
  have g36 := dt h35
  obtain ⟨r37, rfl⟩ := scc (n := r25) aM1
  refine KS ?_
  refine Oq Vm (Oq (Vi sl23 4) ?_)
  refine JJ_peek_GFunc v29_26.toNat 4 rfl rng fun a38 k39 hb40 => ?_
  refine Fb 40 1 fun _ => ?_
  refine Oq (VldA sh31 0) (Oa (Al ze31 [.string (bs (Str.mk [])), .slice none 0 0]) fun p42 => Oq Va (Ost (Scl [0] sh31 [.string (bs ((p.Funcs.getD v29_26.toNat default).Name)), vl a38 k39 ((p.Funcs.getD v29_26.toNat default).Blocks)]) (KS ?_)))
  refine Oq (VldA sh31 0) (Oq Vm (Oq Vm ?_))
  refine letv (vd_function (p.Funcs.getD v29_26.toNat default) v29_26 rv17.2) fun rv43 hg44 => ?_
  have hc45 := fn42 ((p.Funcs.getD v29_26.toNat default)) a38 k39 v29_26 (mv b21) rv17.2 pre pre rv43 hg44
  refine Oc [2, 3] ca42 hc45 ?_
  rintro - ⟨he46, he47, he48, he49, he50⟩
  unfold i64ok at he46 he47 he48 he49 he50
  refine Oq Vm (Oq Vx (Oq Vx (Oa (Al ze63 [vi 0, vi 0, vi 0, vi 0]) fun p51 => Ost (Scl [0] sh63 [vi rv43.1.Kind, vi rv43.1.Func, vi rv43.1.Block, vi rv43.1.Stmt]) (Oq Va (KS ?_)))))
  refine Oq Vm (Oq Vneq (KS ?_))
  refine Kc ?_ ?_
  ·intro h52
   have g53 := ne_of_bne h52
   refine KS ?_
   refine Oq (VldA sh63 0) (Oq Vm (Ost (Scl [6] sh63 [vi rv43.1.Kind, vi rv43.1.Func, vi rv43.1.Block, vi rv43.1.Stmt]) (Oq Va (KS ?_))))
   have hR54 := q2 hM27 (.ret (rv43.1, rv43.2)) (by simp only [vd_Check_L0, h35, h52, hg44, cs4])
   have hq := q4 hrr (rv43.1, rv43.2) (by simp only [vd_Check, h9, h14, h22, h35, h52, hg7, hg18, hg44, hR54, cs4]); subst hq
   exact Kr () rfl (.cellN 0 rfl sh63 rfl (reads_Cl _ _) rfl (.tmp rfl .nil)) [] en
  intro h52
  have g55 := eq_of_bne_false h52
  refine KS ?_
  refine Oq Vadd (Oq Vm (KS ?_))
  exact Kg (r37, (v29_26 + 1)) [1, 4, 5, 5, 6, 7, 8] ⟨(q3 hM27 (by simp only [vd_Check_L0, h35, h52, hg44, cs4])), aM1, aM1, aM1, aM1⟩
 intro h35
 have g56 := df h35
 obtain rfl : r25 = 0 := by omega
 refine Ke ?_
 have hR57 := q2 hM27 (.brk ()) (by simp only [vd_Check_L0, h35, cs4])
 refine KS ?_
 refine Oq (VldA sh25 3) ?_
 refine letv (vd_Sizes p) fun rv58 hg59 => ?_
 have hc60 := fn43 p pa0 pk0 kwLA kwLK pre rv58 hg59
 refine Oc [4, 5, 6] ca43 hc60 ?_
 rintro - ⟨he61, he62, he63⟩
 unfold i64ok at he61 he62
 refine Oq Vm (Oq Vx (Oq Vx (Oq Va (Oq Va (KS ?_)))))
 refine Oq (VldA sh25 3) ?_
 refine letv (vd_Variables p) fun rv65 hg66 => ?_
 have hc67 := fn21 p pa0 pk0 kwLA kwLK pre rv65 hg66
 refine Oc [4, 5, 6] ca21 hc67 ?_
 rintro c64 he68
 refine Jo 0 ?_; rintro a69 k70 rfl
 refine Fb 16 0 fun _ => ?_
 refine FoS 0 fun ho72 => ?_
 refine Oq (Vlen sl35) (Oq Vgtr (Oq Vm ?_))
 refine Js 55 ?_ ?_
 ·intro h73
  have g74 := dt h73
  refine Osk (Osk (Oq Vpt (Oq Vm (Osk (Osk (Oq Vpt (KS ?_)))))))
  refine Kt (KS ?_)
  refine Oq (Vbd st63 [vi 0, vi 0, vi 0, vi 0]) (Ost (Scl [3] sh63 [vi 0, vi 0, vi 0, vi 0]) (Oq Va (KS ?_)))
  have hq := q4 hrr ((GNode.mk 0 0 0 0), 7) (by simp only [vd_Check, h9, h14, h22, h35, h73, hg7, hg18, hR57, hg59, hg66, cs4]); subst hq
  exact Kr () rfl (.cellN 0 rfl sh63 rfl (reads_Cl _ _) rfl (.tmp rfl .nil)) [] en
 intro h73
 have g75 := df h73
 refine Oq Vm (Oq Vgtr (Oq Vpf (Oq Vm ?_)))
 refine Js 59 ?_ ?_
 ·intro h76
  have g77 := dt h76
  refine Osk (Osk (Oq Vpt (KS ?_)))
  refine Kt (KS ?_)
  refine Oq (Vbd st63 [vi 0, vi 0, vi 0, vi 0]) (Ost (Scl [3] sh63 [vi 0, vi 0, vi 0, vi 0]) (Oq Va (KS ?_)))
  have hq := q4 hrr ((GNode.mk 0 0 0 0), 7) (by simp only [vd_Check, h9, h14, h22, h35, h73, h76, hg7, hg18, hR57, hg59, hg66, cs4]); subst hq
  exact Kr () rfl (.cellN 0 rfl sh63 rfl (reads_Cl _ _) rfl (.tmp rfl .nil)) [] en
 intro h76
 have g78 := df h76
 refine Oq Vm (Oq Vgtr (Oq Vpf (KS ?_)))
 refine Kc ?_ ?_
 ·intro h79
  have g80 := dt h79
  refine KS ?_
  refine Oq (Vbd st63 [vi 0, vi 0, vi 0, vi 0]) (Ost (Scl [3] sh63 [vi 0, vi 0, vi 0, vi 0]) (Oq Va (KS ?_)))
  have hq := q4 hrr ((GNode.mk 0 0 0 0), 7) (by simp only [vd_Check, h9, h14, h22, h35, h73, h76, h79, hg7, hg18, hR57, hg59, hg66, cs4]); subst hq
  exact Kr () rfl (.cellN 0 rfl sh63 rfl (reads_Cl _ _) rfl (.tmp rfl .nil)) [] en
 intro h79
 have g81 := df h79
 refine KS ?_
 refine Oq (Vbd st63 [vi 0, vi 0, vi 0, vi 0]) (Ost (Scl [3] sh63 [vi 0, vi 0, vi 0, vi 0]) (Oq Va (KS ?_)))
 have hq := q4 hrr ((GNode.mk 0 0 0 0), 0) (by simp only [vd_Check, h9, h14, h22, h35, h73, h76, h79, hg7, hg18, hR57, hg59, hg66, cs4]); subst hq
 exact Kr () rfl (.cellN 0 rfl sh63 rfl (reads_Cl _ _) rfl (.tmp rfl .nil)) [] en
theorem fn47 (p : GProgram) (pa0 : Option Addr) (pk0 : Nat) (kwLA : Option Addr) (kwLK : Nat) (hps : PSm p = true) (rr : List GNode) (hrr : nd_List p = rr) : FT Tryz.prog 47 #[.agg #[vl pa0 pk0 p.Funcs]] [S pa0 pk0 p.Funcs, pv (gp 0) [vl kwLA kwLK kwL], S kwLA kwLK kwL] (fun g : Value => (rr.length ≤ 20000)) (fun g => g) (fun g => [sl g rr]) := by
 refine FTi Tryz.func47 fun w0 M0 F0 => Fb 40 0 fun _ => Fb 16 2 fun _ => ?_
 refine FoS 2 fun ho3 => ?_
 refine KS ?_
 refine Oa (Ab [vl pa0 pk0 p.Funcs]) fun p4 => Oq Va (KS ?_)
 refine Oq (VldA sh25 0) ?_
 refine letv (vd_Check p) fun rv5 hg6 => ?_
 have hc7 := fn20 p pa0 pk0 kwLA kwLK pre rv5 hg6
 refine Oc [1, 2, 3] ca20 hc7 ?_
 rintro - ⟨he8, he9, he10, he11, he12⟩
 unfold i64ok at he8 he9 he10 he11 he12
 refine Oq Vm (Oq Vx (Oq Vx (Oa (Al ze63 [vi 0, vi 0, vi 0, vi 0]) fun p13 => Ost (Scl [0] sh63 [vi rv5.1.Kind, vi rv5.1.Func, vi rv5.1.Block, vi rv5.1.Stmt]) (Oq Va (KS ?_)))))
 refine Oq Vm (Oq Vneq (KS ?_))
 refine Kc ?_ ?_
 ·intro h14
  have g15 := ne_of_bne h14
  refine KS ?_
  refine Oq Va (KS ?_)
  refine Jl [] (Ent.slNil (α := GNode)) ?_
  have hq := q4 hrr ([] : List GNode) (by simp only [nd_List, h14, hg6, cs4]); subst hq
  exact Kr (.slice none 0 0) rfl (.tmp rfl .nil) [0] en
 intro h14
 have g16 := eq_of_bne_false h14
 have hVb := SVal_b (p := p) (Check_b (by assumption) (by assumption))
 refine KS ?_
 refine Oq Va (KS ?_)
 refine Oq (Vfa fo25_0 1) (Oq (VldF sh23 1) (Oq (Vlen sl23) (Oq Vm (KS ?_))))
 refine Jl [] (Ent.osNil (α := GNode)) ?_
 refine Kl (γ := Nat × List GNode × Int × Option Addr × Nat) (fun (r17, out_18, v22_19, a20, k21) => ⟨[(5, vl a20 k21 out_18), (20, vl pa0 pk0 p.Funcs), (21, vi (p.Funcs.length : Int)), (22, vi v22_19)], [O a20 k21 out_18, S pa0 pk0 p.Funcs, pv (gp 0) [vl kwLA kwLK kwL], S kwLA kwLK kwL], nd_List_L0 p r17 out_18 v22_19 = nd_List_L0 p (((p.Funcs.length : Int) - 0).toNat) [] 0 ∧ r17 = ((p.Funcs.length : Int) - v22_19).toNat ∧ (0 : Int) ≤ v22_19 ∧ v22_19 ≤ (p.Funcs.length : Int) ∧ (-9223372036854775808 ≤ v22_19 ∧ v22_19 ≤ 9223372036854775807) ∧ ((out_18.length : Int) ≤ 1100 * v22_19), r17⟩) (((p.Funcs.length : Int) - 0).toNat, [], 0, none, 0) [0, 2, 3, 4] ⟨rfl, rfl, aM1, aM1, aM1, iv0⟩ ?_
 rintro ⟨r17, out_18, v22_19, a20, k21⟩ ⟨hM22, hr23, hi24, hi25, hk26, hv27⟩
 refine JJ_nx fun _ _ hL hA => ?_; dsimp only at hL hA; subst hL hA
 refine Fb 32 0 fun _ => Fb 40 1 fun _ => Fb 16 3 fun _ => ?_
 refine FoS 3 fun ho31 => ?_
 refine KS ?_
 refine Oq Vlss (KS ?_)
 refine Kc ?_ ?_
 ·intro h32
  have g33 := dt h32
  have hVf := hVb.2 v22_19.toNat
  have hb8 : v22_19 ≤ 7 := by have := hVb.1; omega
  obtain ⟨r34, rfl⟩ := scc (n := r17) aM1
  refine KS ?_
  refine Oq Vm (Oq (Vi sl23 1) ?_)
  refine JJ_peek_GFunc v22_19.toNat 1 rfl rng fun a35 k36 hb37 => ?_
  refine Fb 40 1 fun _ => ?_
  refine Oq (VldA sh31 0) (Oa (Al ze31 [.string (bs (Str.mk [])), .slice none 0 0]) fun p39 => Oq Va (Ost (Scl [0] sh31 [.string (bs ((p.Funcs.getD v22_19.toNat default).Name)), vl a35 k36 ((p.Funcs.getD v22_19.toNat default).Blocks)]) (KS ?_)))
  refine Oq Vm (Oq Vm (Oq (Vbd st63 [vi 1, vi v22_19, vi (-1), vi (-1)]) (Oa (AsV sl71 sz71 [.agg #[vi 1, vi v22_19, vi (-1), vi (-1)]] [vi 1, vi v22_19, vi (-1), vi (-1)]) fun c40 => ?_)))
  refine Jo 0 ?_; rintro a41 k42 rfl
  refine Jl [0] (Ent.cr1 (α := GNode) (A := []) _ (GNode.mk 1 v22_19 (-1) (-1)) _ aB1 (fun h => ⟨rfl, aL1, aL1, aL1, aL1⟩)) ?_
  refine Oa (ApO [4, 0] sl71 sl71 sz71) fun c43 => ?_
  refine Jo 0 ?_; rintro a44 k45 rfl
  refine Fb 32 0 fun _ => ?_
  have hn47 := la out_18 ([(GNode.mk 1 v22_19 (-1) (-1))] : List GNode)
  refine Oq Va (KS ?_)
  refine Oq (Vfa fo31_1 1) (Oq (VldF sh29 1) (Oq (Vlen sl29) (Oq Vm (KS ?_))))
  refine Kl (γ := Nat × List GNode × Int × Option Addr × Nat) (fun (r48, out_49, v35_50, a51, k52) => ⟨[(20, vl pa0 pk0 p.Funcs), (21, vi (p.Funcs.length : Int)), (22, vi v22_19), (6, vi v22_19), (5, vl a51 k52 out_49), (33, vl a35 k36 ((p.Funcs.getD v22_19.toNat default).Blocks)), (34, vi (((p.Funcs.getD v22_19.toNat default).Blocks).length : Int)), (35, vi v35_50)], [O a51 k52 out_49, S a35 k36 ((p.Funcs.getD v22_19.toNat default).Blocks), S pa0 pk0 p.Funcs, pv (gp 0) [vl kwLA kwLK kwL], S kwLA kwLK kwL], nd_List_L1 v22_19 ((p.Funcs.getD v22_19.toNat default).Blocks) r48 out_49 v35_50 = nd_List_L1 v22_19 ((p.Funcs.getD v22_19.toNat default).Blocks) ((((((p.Funcs.getD v22_19.toNat default).Blocks).length : Int) : Int) - 0).toNat) (out_18 ++ [(GNode.mk 1 v22_19 (-1) (-1))]) 0 ∧ r48 = (((((p.Funcs.getD v22_19.toNat default).Blocks).length : Int) : Int) - v35_50).toNat ∧ (0 : Int) ≤ v35_50 ∧ (v35_50 ≤ (((p.Funcs.getD v22_19.toNat default).Blocks).length : Int) ∨ v35_50 = 0) ∧ (-9223372036854775808 ≤ v35_50 ∧ v35_50 ≤ 9223372036854775807) ∧ ((out_49.length : Int) ≤ 1100 * v22_19 + 1 + 66 * v35_50), r48⟩) ((((((p.Funcs.getD v22_19.toNat default).Blocks).length : Int) : Int) - 0).toNat, (out_18 ++ [(GNode.mk 1 v22_19 (-1) (-1))]), 0, a44, k45) [0, 2, 3, 4, 5] ⟨rfl, rfl, aM1, (.inr rfl), aM1, iv0⟩ ?_
  rintro ⟨r48, out_49, v35_50, a51, k52⟩ ⟨hM53, hr54, hi55, hi56, hk57, hv58⟩
  refine JJ_nx fun _ _ hL hA => ?_; dsimp only at hL hA; subst hL hA
  refine Fb 32 0 fun _ => Fb 40 1 fun _ => Fb 40 2 fun _ => Fb 16 4 fun _ => ?_
  refine FoS 4 fun ho63 => ?_
  refine KS ?_
  refine Oq Vlss (KS ?_)
  refine Kc ?_ ?_
  ·intro h64
   have g65 := dt h64
   have hVk := hVf.2 v35_50.toNat
   have hb16 : v35_50 ≤ 15 := by have := hVf.1; omega
   obtain ⟨r66, rfl⟩ := scc (n := r48) aM1
   refine KS ?_
   refine Oq Vm (Oq (Vi sl29 1) ?_)
   refine JJ_peek_GBlock v35_50.toNat 1 rfl rng fun a67 k68 hb69 => ?_
   refine Fb 72 1 fun _ => ?_
   refine Oq (VldA sh34 0) (Oa (Al ze34 [.string (bs (Str.mk [])), .slice none 0 0]) fun p71 => Oq Va (Ost (Scl [0] sh34 [.string (bs ((((p.Funcs.getD v22_19.toNat default).Blocks).getD v35_50.toNat default).Name)), .slice a67 (((((p.Funcs.getD v22_19.toNat default).Blocks).getD v35_50.toNat default).Stmts).length) k68]) (KS ?_)))
   refine Oq (Vfa fo34_1 0) (Oq (VldF sh32 0) (Oq (Vlen sl32) (Oq Vm (KS ?_))))
   refine Kl (γ := Nat × List GNode × Int × Option Addr × Nat) (fun (r72, out_73, v43_74, a75, k76) => ⟨[(20, vl pa0 pk0 p.Funcs), (21, vi (p.Funcs.length : Int)), (22, vi v22_19), (6, vi v22_19), (5, vl a75 k76 out_73), (33, vl a35 k36 ((p.Funcs.getD v22_19.toNat default).Blocks)), (34, vi (((p.Funcs.getD v22_19.toNat default).Blocks).length : Int)), (35, vi v35_50), (8, vi v35_50), (41, .slice a67 (((((p.Funcs.getD v22_19.toNat default).Blocks).getD v35_50.toNat default).Stmts).length) k68), (42, vi (((((p.Funcs.getD v22_19.toNat default).Blocks).getD v35_50.toNat default).Stmts).length : Int)), (43, vi v43_74)], [O a75 k76 out_73, S a67 k68 ((((p.Funcs.getD v22_19.toNat default).Blocks).getD v35_50.toNat default).Stmts), S a35 k36 ((p.Funcs.getD v22_19.toNat default).Blocks), S pa0 pk0 p.Funcs, pv (gp 0) [vl kwLA kwLK kwL], S kwLA kwLK kwL], nd_List_L2 v22_19 v35_50 ((((p.Funcs.getD v22_19.toNat default).Blocks).getD v35_50.toNat default).Stmts) r72 out_73 v43_74 = nd_List_L2 v22_19 v35_50 ((((p.Funcs.getD v22_19.toNat default).Blocks).getD v35_50.toNat default).Stmts) ((((((((p.Funcs.getD v22_19.toNat default).Blocks).getD v35_50.toNat default).Stmts).length : Int) : Int) - 0).toNat) out_49 0 ∧ r72 = (((((((p.Funcs.getD v22_19.toNat default).Blocks).getD v35_50.toNat default).Stmts).length : Int) : Int) - v43_74).toNat ∧ (0 : Int) ≤ v43_74 ∧ (v43_74 ≤ (((((p.Funcs.getD v22_19.toNat default).Blocks).getD v35_50.toNat default).Stmts).length : Int) ∨ v43_74 = 0) ∧ (-9223372036854775808 ≤ v43_74 ∧ v43_74 ≤ 9223372036854775807) ∧ ((out_73.length : Int) ≤ 1100 * v22_19 + 1 + 66 * v35_50 + 2 * v43_74), r72⟩) ((((((((p.Funcs.getD v22_19.toNat default).Blocks).getD v35_50.toNat default).Stmts).length : Int) : Int) - 0).toNat, out_49, 0, a51, k52) [3, 2, 3, 4, 5, 6] ⟨rfl, rfl, aM1, (.inr rfl), aM1, iv0⟩ ?_
   rintro ⟨r72, out_73, v43_74, a75, k76⟩ ⟨hM77, hr78, hi79, hi80, hk81, hv82⟩
   refine JJ_nx fun _ _ hL hA => ?_; dsimp only at hL hA; subst hL hA
   refine Fb 32 0 fun _ => Fb 72 1 fun _ => Fb 40 2 fun _ => Fb 40 3 fun _ => Fb 16 5 fun _ => ?_
   refine FoS 5 fun ho88 => ?_
   refine KS ?_
   refine Oq Vlss (KS ?_)
   refine Kc ?_ ?_
   ·intro h89
    have g90 := dt h89
    have hb32 : v43_74 ≤ 31 := by have := hVk.1; omega
    obtain ⟨r91, rfl⟩ := scc (n := r72) aM1
    refine KS ?_
    refine Oq Vm (Oq (Vi sl32 1) ?_)
    refine JJ_peek_GStmt v43_74.toNat 1 rfl rng fun a92 k93 a94 k95 hb96 hb97 => ?_
    unfold i64ok at hb96
    refine Fb 16 1 fun _ => ?_
    refine FoS 1 fun ho99 => ?_
    refine Fb 16 2 fun _ => ?_
    refine FoS 2 fun ho101 => ?_
    refine Oq (VldA sh37 0) (Oa (Al ze37 [vi 0, .string (bs (Str.mk [])), .slice none 0 0, .slice none 0 0]) fun p102 => Oq Va (Ost (Scl [0] sh37 [vi ((((((p.Funcs.getD v22_19.toNat default).Blocks).getD v35_50.toNat default).Stmts).getD v43_74.toNat default).Op), .string (bs ((((((p.Funcs.getD v22_19.toNat default).Blocks).getD v35_50.toNat default).Stmts).getD v43_74.toNat default).Def)), .slice a92 (((((((p.Funcs.getD v22_19.toNat default).Blocks).getD v35_50.toNat default).Stmts).getD v43_74.toNat default).Uses).length) k93, .slice a94 (((((((p.Funcs.getD v22_19.toNat default).Blocks).getD v35_50.toNat default).Stmts).getD v43_74.toNat default).Targets).length) k95]) (KS ?_)))
    refine Oq Vm (Oq Vm (Oq Vm (Oq Vm (Oq (Vbd st63 [vi 3, vi v22_19, vi v35_50, vi v43_74]) (Oa (AsV sl71 sz71 [.agg #[vi 3, vi v22_19, vi v35_50, vi v43_74]] [vi 3, vi v22_19, vi v35_50, vi v43_74]) fun c103 => ?_)))))
    refine Jo 0 ?_; rintro a104 k105 rfl
    refine Jl [0] (Ent.cr1 (α := GNode) (A := []) _ (GNode.mk 3 v22_19 v35_50 v43_74) _ aB1 (fun h => ⟨rfl, aL1, aL1, aL1, aL1⟩)) ?_
    refine Oa (ApO [5, 0] sl71 sl71 sz71) fun c106 => ?_
    refine Jo 0 ?_; rintro a107 k108 rfl
    refine Fb 32 0 fun _ => ?_
    have hn110 := la out_73 ([(GNode.mk 3 v22_19 v35_50 v43_74)] : List GNode)
    refine Oq Va (KS ?_)
    refine Oq (Vfa fo37_0 1) (Oq (VldF sh3 1) (Oq Veql (KS ?_)))
    refine Kc ?_ ?_
    ·intro h111
     have g112 := eq_of_beq h111
     refine KS ?_
     refine Oq Vm (Oq Vm (Oq Vm (Oq Vm (Oq (Vbd st63 [vi 4, vi v22_19, vi v35_50, vi v43_74]) (Oa (AsV sl71 sz71 [.agg #[vi 4, vi v22_19, vi v35_50, vi v43_74]] [vi 4, vi v22_19, vi v35_50, vi v43_74]) fun c113 => ?_)))))
     refine Jo 0 ?_; rintro a114 k115 rfl
     refine Jl [0] (Ent.cr1 (α := GNode) (A := []) _ (GNode.mk 4 v22_19 v35_50 v43_74) _ aB1 (fun h => ⟨rfl, aL1, aL1, aL1, aL1⟩)) ?_
     refine Oa (ApO [1, 0] sl71 sl71 sz71) fun c116 => ?_
     refine Jo 0 ?_; rintro a117 k118 rfl
     refine Fb 32 0 fun _ => ?_
     have hn120 := la ((out_73 ++ [(GNode.mk 3 v22_19 v35_50 v43_74)]) : List GNode) ([(GNode.mk 4 v22_19 v35_50 v43_74)] : List GNode)
     refine Oq Va (KS ?_)
     refine Oq Vadd (Oq Vm (KS ?_))
     exact Kg (r91, ((out_73 ++ [(GNode.mk 3 v22_19 v35_50 v43_74)]) ++ [(GNode.mk 4 v22_19 v35_50 v43_74)]), (v43_74 + 1), a117, k118) [0, 4, 5, 6, 7, 8] ⟨(q3 hM77 (by simp only [nd_List_L2, h89, h111, cs4])), aM1, aM1, aM1, aM1, iv1⟩
    intro h111
    have g121 := ne_of_beq_false h111
    refine KS ?_
    refine Oq Vadd (Oq Vm (KS ?_))
    exact Kg (r91, (out_73 ++ [(GNode.mk 3 v22_19 v35_50 v43_74)]), (v43_74 + 1), a107, k108) [0, 4, 5, 6, 7, 8] ⟨(q3 hM77 (by simp only [nd_List_L2, h89, h111, cs4])), aM1, aM1, aM1, aM1, iv1⟩
   intro h89
   have g122 := df h89
   obtain rfl : r72 = 0 := by omega
   refine Ke ?_
   have hR123 := q2 hM77 out_73 (by simp only [nd_List_L2, h89, cs4])
   refine KS ?_
   refine Oq Vadd (Oq Vm (KS ?_))
   exact Kg (r66, out_73, (v35_50 + 1), a75, k76) [0, 1, 2, 3, 4] ⟨(q3 hM53 (by simp only [nd_List_L1, h64, h89, hR123, cs4])), aM1, aM1, aM1, aM1, iv1⟩
  intro h64
  have g124 := df h64
  obtain rfl : r48 = 0 := by omega
  refine Ke ?_
  have hR125 := q2 hM53 out_49 (by simp only [nd_List_L1, h64, cs4])
  refine KS ?_
  refine Oq Vm (Oq Vm (Oq (Vbd st63 [vi 2, vi v22_19, vi (-1), vi (-1)]) (Oa (AsV sl71 sz71 [.agg #[vi 2, vi v22_19, vi (-1), vi (-1)]] [vi 2, vi v22_19, vi (-1), vi (-1)]) fun c126 => ?_)))
  refine Jo 0 ?_; rintro a127 k128 rfl
  refine Jl [0] (Ent.cr1 (α := GNode) (A := []) _ (GNode.mk 2 v22_19 (-1) (-1)) _ aB1 (fun h => ⟨rfl, aL1, aL1, aL1, aL1⟩)) ?_
  refine Oa (ApO [1, 0] sl71 sl71 sz71) fun c129 => ?_
  refine Jo 0 ?_; rintro a130 k131 rfl
  refine Fb 32 0 fun _ => ?_
  have hn133 := la out_49 ([(GNode.mk 2 v22_19 (-1) (-1))] : List GNode)
  refine Oq Va (KS ?_)
  refine Oq Vadd (Oq Vm (KS ?_))
  exact Kg (r34, (out_49 ++ [(GNode.mk 2 v22_19 (-1) (-1))]), (v22_19 + 1), a130, k131) [0, 1, 2, 3] ⟨(q3 hM22 (by simp only [nd_List_L0, h32, h64, hR125, cs4])), aM1, aM1, aM1, aM1, iv1⟩
 intro h32
 have g134 := df h32
 obtain rfl : r17 = 0 := by omega
 refine Ke ?_
 have hR135 := q2 hM22 out_18 (by simp only [nd_List_L0, h32, cs4])
 refine KS ?_
 refine Oq Vm (Oq Va (KS ?_))
 refine Jl [0] (Ent.freeze _ _) ?_
 have hq := q4 hrr out_18 (by simp only [nd_List, h14, h32, hg6, hR135, cs4]); subst hq
 exact Kr (vl a20 k21 out_18) rfl (.tmp rfl .nil) [0] en
theorem fn86 (width : Int) (hwidth_0 : i64ok width) (rr : Bool) (hrr : bt_ranged width = rr) : FT Tryz.prog 86 #[vi width] [] (fun g : Unit => True) (fun g => vb rr) (fun g => []) := by
 refine FTi Tryz.func86 fun w0 M0 F0 => ?_
 unfold i64ok at hwidth_0
 refine KS ?_
 refine Oq Va (KS ?_)
 refine Oq Vm (Oq Vgeq (Oq Vm ?_))
 refine Js 5 ?_ ?_
 ·intro h1
  have g2 := dt h1
  refine Oq Vm (Oq Vleq (Oq Vpt (Oq Va (KS ?_))))
  have hq := q4 hrr (decide (width ≤ 256)) (by simp only [bt_ranged, h1, cs4]); subst hq
  exact Kr () rfl (.tmp rfl .nil) [] trivial
 intro h1
 have g3 := df h1
 refine Osk (Osk (Oq Vpf (Oq Va (KS ?_))))
 have hq := q4 hrr false (by simp only [bt_ranged, h1, cs4]); subst hq
 exact Kr () rfl (.tmp rfl .nil) [] trivial
theorem fn87 (width : Int) (hwidth_0 : i64ok width) (hw0 : 0 ≤ width ∧ width ≤ 1000000) (rr : Int) (hrr : bt_words width = rr) : FT Tryz.prog 87 #[vi width] [] (fun g : Unit => i64ok rr ∧ (rr = (width + 63) / 64)) (fun g => vi rr) (fun g => []) := by
 refine FTi Tryz.func87 fun w0 M0 F0 => ?_
 unfold i64ok at hwidth_0
 refine KS ?_
 refine Oq Va (KS ?_)
 refine Oq Vm (Oq Vadd (Oq Vsub (Oq Vquo (Oq Va (KS ?_)))))
 have hq := q4 hrr (((width + 64) - 1) / 64) (by simp only [bt_words, cs4]); subst hq
 exact Kr () rfl (.tmp rfl .nil) [] en
theorem fn88 (width : Int) (hwidth_0 : i64ok width) (rr : BitVec 64) (hrr : bt_spare width = rr) : FT Tryz.prog 88 #[vi width] [] (fun g : Unit => True) (fun g => u64 rr) (fun g => []) := by
 refine FTi Tryz.func88 fun w0 M0 F0 => ?_
 unfold i64ok at hwidth_0
 refine KS ?_
 refine Oq Va (KS ?_)
 refine Oq Vm (Oq (VcU un3 un79) (Oq (VremU (b := 64#64) (by simp)) (Oq (VshlU (a := 18446744073709551615#64)) (Oq Va (KS ?_)))))
 have hq := q4 hrr (18446744073709551615#64 <<< ((((BitVec.ofInt 64 width) % 64#64).toNat : Int)).toNat) (by simp only [bt_spare, cs4]); subst hq
 exact Kr () rfl (.tmp rfl .nil) [] trivial
theorem fn54 (s : GSet) (sa1 : Option Addr) (sk1 : Nat) (hs_0 : i64ok s.Width) (rr : Bool) (hrr : bt_Valid s = rr) : FT Tryz.prog 54 #[.agg #[vi s.Width, vl sa1 sk1 s.Words]] [S sa1 sk1 s.Words] (fun g : Unit => True) (fun g => vb rr) (fun g => []) := by
 refine FTi Tryz.func54 fun w0 M0 F0 => ?_
 unfold i64ok at hs_0
 refine Fb 8 0 fun _ => KS ?_
 refine Oa (Ab [vi s.Width, vl sa1 sk1 s.Words]) fun p2 => Oq Va (KS ?_)
 refine JK_drawK [0, 1, 3, 7, 15, 31, 63, 127, 31, 287, 799, 2047, 4095] fmix ?_
 refine Dv [0] (Vfa fo47_0 0) (Dv [0] (VldF sh3 0) ?_)
 refine letv (bt_ranged s.Width) fun rv3 hg4 => ?_
 refine Dx [] [] [0] (fun G => vb rv3) [fun G => SP.fact (True)] (fun G => xC [] ca86 (fn86 s.Width pre rv3 hg4)) (Dv [] Vnot ?_)
 refine bool_split (!rv3) ?_ ?_
 ·intro h5
  have h7 := not_true h5
  refine Db h5 [] Vm (Ds (Ds (Ds (Ds (Ds (Ds (Ds (Dv [] Vpt ?_))))))))
  refine Dn ⟨by kernel_rfl, fun G => ?_⟩
  refine Jw2 [(1, p2), (15, vb true)] [0, 1] [SP.fact (True)] ?_
  refine Jk [0, 1] (Kt ?_)
  refine KS ?_
  refine Oq Va (KS ?_)
  have hq := q4 hrr false (by simp only [bt_Valid, h5, h7, hg4, cs4]); subst hq
  exact Kr () rfl (.tmp rfl .nil) [] trivial
 intro h5
 have h10 := not_false h5
 try have hrg := ranged_iff (w := s.Width) (by simp only [h5, h10, hg4])
 refine Db h5 [] Vm (Dv [0] (Vfa fo47_1 0) (Dv [0] (VldF sh45 0) (Dv [] (Vlen sl45) (Dv [0] (Vfa fo47_0 0) (Dv [0] (VldF sh3 0) ?_)))))
 refine letv (bt_words s.Width) fun rv12 hg13 => ?_
 refine Dx [] [] [0] (fun G => vi rv12) [fun G => SP.fact (i64ok rv12 ∧ (rv12 = (s.Width + 63) / 64))] (fun G => xC [] ca87 (fn87 s.Width pre pre rv12 hg13)) (Dv [] Vneq (Dv [] Vpf ?_))
 refine Dn ⟨by kernel_rfl, fun G => ?_⟩
 refine Jw2 [(1, p2), (15, vb ((s.Words.length : Int) != rv12))] [0, 1] [SP.fact (True), SP.fact (i64ok rv12 ∧ (rv12 = (s.Width + 63) / 64))] ?_
 refine Jf 3 rfl ?_; rintro ⟨he14, he15⟩
 unfold i64ok at he14
 refine Jk [0, 1] ?_
 refine Kc ?_ ?_
 ·intro h16
  have g17 := ne_of_bne h16
  refine KS ?_
  refine Oq Va (KS ?_)
  have hq := q4 hrr false (by simp only [bt_Valid, h5, h10, h16, hg4, hg13, cs4]); subst hq
  exact Kr () rfl (.tmp rfl .nil) [] trivial
 intro h16
 have g18 := eq_of_bne_false h16
 refine KS ?_
 refine JK_drawK [0, 1, 3, 7, 15, 31, 63, 31, 159, 415, 927, 2047, 4095, 31, 8223, 24607, 65535, 131071, 262143, 524287] fmix ?_
 refine Dv [0] (Vfa fo47_0 0) (Dv [0] (VldF sh3 0) (Dv [] Vrem (Dv [] Veql ?_)))
 refine bool_split ((s.Width % 64) == 0) ?_ ?_
 ·intro h19
  have g20 := eq_of_beq h19
  refine Db h19 [] Vm (Ds (Ds (Ds (Ds (Ds (Ds (Ds (Ds (Ds ?_)))))))))
  refine Ds (Ds (Ds (Ds (Dv [] Vpt (Dv [] Va ?_)))))
  refine Dn ⟨by kernel_rfl, fun G => ?_⟩
  refine Jw2 [(2, vb true)] [0, 1] [] ?_
  have hq := q4 hrr true (by simp only [bt_Valid, h5, h10, h16, h19, hg4, hg13, cs4]); subst hq
  exact Kr () rfl (.tmp rfl .nil) [] trivial
 intro h19
 have g21 := ne_of_beq_false h19
 refine Db h19 [] Vm (Dv [0] (Vfa fo47_1 0) (Dv [0] (VldF sh45 0) (Dv [0] (Vfa fo47_1 0) (Dv [0] (VldF sh45 0) (Dv [] (Vlen sl45) (Dv [] Vsub (Dv [1] (Vi sl45 0) (Dv [1] (VldU sh78 0) (Dv [0] (Vfa fo47_0 0) ?_)))))))))
 refine Dv [0] (VldF sh3 0) ?_
 refine letv (bt_spare s.Width) fun rv22 hg23 => ?_
 refine Dx [] [] [0] (fun G => u64 rv22) [fun G => SP.fact (True)] (fun G => xC [] ca88 (fn88 s.Width pre rv22 hg23)) (Dv [] VandU (Dv [] (VeqlU (b := 0#64)) (Dv [] Vpf (Dv [] Va ?_))))
 refine Dn ⟨by kernel_rfl, fun G => ?_⟩
 refine Jw2 [(2, vb (((s.Words.getD (((s.Words.length : Int) - 1) : Int).toNat 0#64) &&& rv22) == 0#64))] [0, 1] [SP.fact (True)] ?_
 refine Jk [0, 1] ?_
 have hq := q4 hrr (((s.Words.getD (((s.Words.length : Int) - 1) : Int).toNat 0#64) &&& rv22) == 0#64) (by simp only [bt_Valid, h5, h10, h16, h19, hg4, hg13, hg23, cs4]); subst hq
 exact Kr () rfl (.tmp rfl .nil) [] trivial
theorem fn89 (x : BitVec 64) (rr : Int) (hrr : bits_TrailingZeros64 x = rr) : FT Tryz.prog 89 #[u64 x] [pv (gp 1) (tabV .u8 tzT)] (fun g : Unit => i64ok rr ∧ (0 ≤ rr ∧ rr ≤ 255)) (fun g => vi rr) (fun g => []) := by
 refine FTi Tryz.func89 fun w0 M0 F0 => ?_
 refine KS ?_
 refine Oq Va (KS ?_)
 refine Oq Vm (Oq (VeqlU (b := 0#64)) (KS ?_))
 refine Kc ?_ ?_
 ·intro h1
  have g2 := eq_of_beq h1
  refine KS ?_
  refine Oq Va (KS ?_)
  have hq := q4 hrr 64 (by simp only [bits_TrailingZeros64, h1, cs4]); subst hq
  exact Kr () rfl (.tmp rfl .nil) [] en
 intro h1
 have g3 := ne_of_beq_false h1
 refine KS ?_
 refine Oq Vm (Oq Vm (Oq VnegU (Oq VandU (Oq (VmulU (b := 285870213051353865#64)) (Oq VshrU ?_)))))
 have hb4 := shr58 ((x &&& (-x)) * 285870213051353865#64)
 refine Oq (VixG un145 (b := (((x &&& (-x)) * 285870213051353865#64) >>> (((58#64).toNat : Int)).toNat)) (h := hb4)) ?_
 have hb5 := tab_ok (t := tzT) (m := 255) (by decide) (by decide) ((((x &&& (-x)) * 285870213051353865#64) >>> (((58#64).toNat : Int)).toNat).toNat)
 refine Oq (VldT sh5 0 (hm := hb4)) (Oq (VcK un5 un3) (Oq Va (KS ?_)))
 have hq := q4 hrr (tzT.getD ((((x &&& (-x)) * 285870213051353865#64) >>> (((58#64).toNat : Int)).toNat).toNat) 0) (by simp only [bits_TrailingZeros64, h1, cs4]); subst hq
 exact Kr () rfl (.tmp rfl .nil) [] en
theorem fn90 (s : List Int) (sa0 : Option Addr) (sk0 : Nat) (rr : List Int) (hrr : sc_Clip_int s = rr) : FT Tryz.prog 90 #[vl sa0 sk0 s] [S sa0 sk0 s] (fun g : Value => (rr.length = s.length)) (fun g => g) (fun g => [sl g rr]) := by
 refine FTi Tryz.func90 fun w0 M0 F0 => Fb 8 0 fun _ => Fo 0 fun ho2 => ?_
 refine KS ?_
 refine Oq Va (KS ?_)
 refine Oq Vm (Oq Vm (Oq (Vlen sl22) (Oq Vm (Oq (Vlen sl22) (Oa (OpA.frame [0] rfl (OpA.sliceSl3 0 ((s.length : Int).toNat) ((s.length : Int).toNat) rfl rfl sl22 rfl rfl ⟨_, natc rfl aM1⟩ ⟨_, natc rfl aM1⟩ rng rng rng rng)) fun c3 => ?_)))))
 refine Jo 0 ?_; rintro a4 k5 rfl
 refine Fb 8 0 fun _ => Fo 0 fun ho7 => ?_
 have hn8 : ((s.take ((s.length : Int).toNat)).drop 0).length = ((s.length : Int).toNat) - 0 := len_slice rng rng
 refine Oq Va (KS ?_)
 have hq := q4 hrr ((s.take ((s.length : Int).toNat)).drop 0) (by simp only [sc_Clip_int, cs4]); subst hq
 exact Kr (.slice a4 (((s.take ((s.length : Int).toNat)).drop 0).length) k5) rfl (.tmp rfl .nil) [0] (by rw [← hrr]; unfold sc_Clip_int; simp)
theorem fn55 (s : GSet) (sa1 : Option Addr) (sk1 : Nat) (hs_0 : i64ok s.Width) (rr : List Int) (hrr : bt_Members s = rr) : FT Tryz.prog 55 #[.agg #[vi s.Width, vl sa1 sk1 s.Words]] [S sa1 sk1 s.Words, pv (gp 1) (tabV .u8 tzT)] (fun g : Value => True) (fun g => g) (fun g => [sl g rr]) := by
 refine FTi Tryz.func55 fun w0 M0 F0 => ?_
 unfold i64ok at hs_0
 refine Fb 8 0 fun _ => KS ?_
 refine Oa (Ab [vi s.Width, vl sa1 sk1 s.Words]) fun p2 => Oq Va (KS ?_)
 refine Oq (VldA sh47 0) ?_
 refine letv (bt_Valid s) fun rv3 hg4 => ?_
 have hc5 := fn54 s sa1 sk1 pre rv3 hg4
 refine Oc [1] ca54 hc5 ?_
 rintro - -
 refine Oq Vnot (KS ?_)
 refine Kc ?_ ?_
 ·intro h6
  have h8 := not_true h6
  refine KS ?_
  refine Oq Va (KS ?_)
  refine Jl [] (Ent.slNil (α := Int)) ?_
  have hq := q4 hrr ([] : List Int) (by simp only [bt_Members, h6, h8, hg4, cs4]); subst hq
  exact Kr (.slice none 0 0) rfl (.tmp rfl .nil) [0] trivial
 intro h6
 have h11 := not_false h6
 have hpw := PV_w (s := s) (by simp only [h6, h11, hg4])
 refine KS ?_
 refine Oq Va (KS ?_)
 refine Oq (Vfa fo47_1 0) (Oq (VldF sh45 0) (Oq (Vlen sl45) (Oq Vm (KS ?_))))
 refine Jl [] (Ent.osNil (α := Int)) ?_
 refine Kl (γ := Nat × List Int × Int × Option Addr × Nat) (fun (r13, out_14, v12_15, a16, k17) => ⟨[(3, vl a16 k17 out_14), (10, vl sa1 sk1 s.Words), (11, vi (s.Words.length : Int)), (12, vi v12_15)], [O a16 k17 out_14, S sa1 sk1 s.Words, pv (gp 1) (tabV .u8 tzT)], bt_Members_L0 s r13 out_14 v12_15 = bt_Members_L0 s (((s.Words.length : Int) - 0).toNat) [] 0 ∧ r13 = ((s.Words.length : Int) - v12_15).toNat ∧ (0 : Int) ≤ v12_15 ∧ v12_15 ≤ (s.Words.length : Int) ∧ (-9223372036854775808 ≤ v12_15 ∧ v12_15 ≤ 9223372036854775807) ∧ ((out_14.length : Int) ≤ 66 * v12_15), r13⟩) (((s.Words.length : Int) - 0).toNat, [], 0, none, 0) [0, 1, 2] ⟨rfl, rfl, aM1, aM1, aM1, iv0⟩ ?_
 rintro ⟨r13, out_14, v12_15, a16, k17⟩ ⟨hM18, hr19, hi20, hi21, hk22, hv23⟩
 refine JJ_nx fun _ _ hL hA => ?_; dsimp only at hL hA; subst hL hA
 refine Fb 8 0 fun _ => Fo 0 fun ho25 => Fb 8 1 fun _ => KS ?_
 refine Oq Vlss (KS ?_)
 refine Kc ?_ ?_
 ·intro h27
  have g28 := dt h27
  obtain ⟨r29, rfl⟩ := scc (n := r13) aM1
  refine KS ?_
  refine Oq Vm (Oq (Vi sl45 1) (Oq (VldU sh78 1) (Oq Va (Oq Va (KS ?_)))))
  have hterm37 : bt_Members_L1 v12_15 66 out_14 (s.Words.getD v12_15.toNat 0#64) ≠ LR.oof := (Mem_t _ _)
  refine Kl (γ := Nat × List Int × BitVec 64 × Option Addr × Nat) (fun (r30, out_31, w_32, a33, k34) => ⟨[(3, vl a33 k34 out_31), (10, vl sa1 sk1 s.Words), (11, vi (s.Words.length : Int)), (12, vi v12_15), (4, vi v12_15), (5, u64 w_32)], [O a33 k34 out_31, S sa1 sk1 s.Words, pv (gp 1) (tabV .u8 tzT)], bt_Members_L1 v12_15 r30 out_31 w_32 = bt_Members_L1 v12_15 66 out_14 (s.Words.getD v12_15.toNat 0#64) ∧ ((out_31.length : Int) + (r30 : Int) ≤ 66 * v12_15 + 66), r30⟩) (66, out_14, (s.Words.getD v12_15.toNat 0#64), a16, k17) [0, 0, 1] ⟨rfl, iv0⟩ ?_
  rintro ⟨r30, out_31, w_32, a33, k34⟩ ⟨hM35, hv36⟩
  refine JJ_nx fun _ _ hL hA => ?_; dsimp only at hL hA; subst hL hA
  refine Fb 8 0 fun _ => Fo 0 fun ho39 => Fb 8 1 fun _ => ?_
  rcases r30 with _ | r30
  ·exact absurd (hM35.symm.trans rfl) hterm37
  refine KS ?_
  refine Oq Vm (Oq (VneqU (b := 0#64)) (KS ?_))
  refine Kc ?_ ?_
  ·intro h41
   have g42 := ne_of_bne h41
   refine KS ?_
   refine Oq Vm (Oq Vm (Oq Vmul (Oq Vm ?_)))
   refine letv (bits_TrailingZeros64 w_32) fun rv43 hg44 => ?_
   have hc45 := fn89 w_32 rv43 hg44
   refine Oc [2] ca89 hc45 ?_
   rintro - ⟨he46, he47⟩
   unfold i64ok at he46
   refine Oq Vadd (Oa (AsV sl22 sz22 [vi ((v12_15 * 64) + rv43)] [vi ((v12_15 * 64) + rv43)]) fun c48 => ?_)
   refine Jo 0 ?_; rintro a49 k50 rfl
   refine Jl [0] (Ent.crInt _ [((v12_15 * 64) + rv43)] _ _ rfl rfl (by intro x hx; rw [List.mem_singleton] at hx; subst hx; unfold i64ok; omega) aB1) ?_
   refine Oa (ApO [1, 0] sl22 sl22 sz22) fun c51 => ?_
   refine Jo 0 ?_; rintro a52 k53 rfl
   refine Fb 8 0 fun _ => Fo 0 fun ho55 => ?_
   have hn56 := la out_31 ([((v12_15 * 64) + rv43)] : List Int)
   refine Oq Va (KS ?_)
   refine Oq Vm (Oq Vm (Oq (VsubU (b := 1#64)) (Oq VandU (Oq Va (KS ?_)))))
   exact Kg (r30, (out_31 ++ [((v12_15 * 64) + rv43)]), (w_32 &&& (w_32 - 1#64)), a52, k53) [0, 0, 1] ⟨(q3 hM35 (by simp only [bt_Members_L1, h41, hg44, cs4])), iv1⟩
  intro h41
  have g57 := eq_of_bne_false h41
  refine Ke ?_
  have hR58 := q2 hM35 (.brk out_31) (by simp only [bt_Members_L1, h41, cs4])
  refine KS ?_
  refine Oq Vadd (Oq Vm (KS ?_))
  exact Kg (r29, out_31, (v12_15 + 1), a33, k34) [0, 0, 1] ⟨(q3 hM18 (by simp only [bt_Members_L0, h27, h41, hR58, cs4])), aM1, aM1, aM1, aM1, iv1⟩
 intro h27
 have g59 := df h27
 obtain rfl : r13 = 0 := by omega
 refine Ke ?_
 have hR60 := q2 hM18 out_14 (by simp only [bt_Members_L0, h27, cs4])
 refine KS ?_
 refine Oq Vm ?_
 refine Jl [0] (Ent.freeze _ _) ?_
 refine letv (sc_Clip_int out_14) fun rv62 hg63 => ?_
 have hc64 := fn90 out_14 a16 k17 rv62 hg63
 refine Oc [0] ca90 hc64 ?_
 rintro c61 he65
 refine Jo 0 ?_; rintro a66 k67 rfl
 refine Fb 8 0 fun _ => Fo 0 fun ho69 => ?_
 refine Oq Va (KS ?_)
 have hq := q4 hrr rv62 (by simp only [bt_Members, h6, h11, h27, hg4, hR60, hg63, cs4]); subst hq
 exact Kr (vl a66 k67 rv62) rfl (.tmp rfl .nil) [0] trivial
theorem fn77 (p : GProgram) (pa0 : Option Addr) (pk0 : Nat) (n : GNode) (kwLA : Option Addr) (kwLK : Nat) (hn_0 : i64ok n.Kind) (hn_1 : i64ok n.Func) (hn_2 : i64ok n.Block) (hn_3 : i64ok n.Stmt) (hps : PSm p = true) (rr : Int) (hrr : nd_Find p n = rr) : FT Tryz.prog 77 #[.agg #[vl pa0 pk0 p.Funcs], .agg #[vi n.Kind, vi n.Func, vi n.Block, vi n.Stmt]] [S pa0 pk0 p.Funcs, pv (gp 0) [vl kwLA kwLK kwL], S kwLA kwLK kwL] (fun g : Unit => i64ok rr ∧ (-1 ≤ rr ∧ rr ≤ 20000)) (fun g => vi rr) (fun g => []) := by
 refine FTi Tryz.func77 fun w0 M0 F0 => ?_
 unfold i64ok at hn_0 hn_1 hn_2 hn_3
 refine Fb 40 0 fun _ => Fb 16 2 fun _ => ?_
 refine FoS 2 fun ho3 => ?_
 refine KS ?_
 refine Oa (Ab [vl pa0 pk0 p.Funcs]) fun p4 => Oa (Ab [vi n.Kind, vi n.Func, vi n.Block, vi n.Stmt]) fun p5 => Oq Va (KS ?_)
 refine Oq (VldA sh25 1) ?_
 refine letv (nd_List p) fun rv7 hg8 => ?_
 have hc9 := fn47 p pa0 pk0 kwLA kwLK pre rv7 hg8
 refine Oc [2, 3, 4] ca47 hc9 ?_
 rintro c6 he10
 refine Jo 0 ?_; rintro a11 k12 rfl
 refine Fb 32 0 fun _ => ?_
 refine Oq (Vlen sl71) (Oq Vm (KS ?_))
 refine Kl (γ := Nat × Int) (fun (r14, v10_15) => ⟨[(3, p5), (8, vl a11 k12 rv7), (9, vi (rv7.length : Int)), (10, vi v10_15)], [S a11 k12 rv7, pv p5 [vi n.Kind, vi n.Func, vi n.Block, vi n.Stmt], pv (gp 0) [vl kwLA kwLK kwL], S kwLA kwLK kwL], nd_Find_L0 n rv7 r14 v10_15 = nd_Find_L0 n rv7 (((rv7.length : Int) - 0).toNat) 0 ∧ r14 = ((rv7.length : Int) - v10_15).toNat ∧ (0 : Int) ≤ v10_15 ∧ v10_15 ≤ (rv7.length : Int) ∧ (-9223372036854775808 ≤ v10_15 ∧ v10_15 ≤ 9223372036854775807), r14⟩) (((rv7.length : Int) - 0).toNat, 0) [0, 1, 4, 5] ⟨rfl, rfl, aM1, aM1, aM1⟩ ?_
 rintro ⟨r14, v10_15⟩ ⟨hM16, hr17, hi18, hi19, hk20⟩
 refine JJ_nx fun _ _ hL hA => ?_; dsimp only at hL hA; subst hL hA
 refine Fb 32 0 fun _ => Fb 16 3 fun _ => ?_
 refine FoS 3 fun ho23 => ?_
 refine KS ?_
 refine Oq Vlss (KS ?_)
 refine Kc ?_ ?_
 ·intro h24
  have g25 := dt h24
  obtain ⟨r26, rfl⟩ := scc (n := r14) aM1
  refine KS ?_
  refine Oq Vm (Oq (Vi sl71 0) ?_)
  refine JJ_peek_GNode v10_15.toNat 0 rfl rng fun hb27 hb28 hb29 hb30 => ?_
  unfold i64ok at hb27 hb28 hb29 hb30
  refine Oq (VldA sh63 0) (Oa (Al ze63 [vi 0, vi 0, vi 0, vi 0]) fun p31 => Oq Va (Ost (Scl [0] sh63 [vi ((rv7.getD v10_15.toNat default).Kind), vi ((rv7.getD v10_15.toNat default).Func), vi ((rv7.getD v10_15.toNat default).Block), vi ((rv7.getD v10_15.toNat default).Stmt)]) (KS ?_)))
  refine Oq (VldA sh63 0) (Oq (VldA sh63 3) (Oq (VeqA eqi63 (l := [(rv7.getD v10_15.toNat default).Kind, (rv7.getD v10_15.toNat default).Func, (rv7.getD v10_15.toNat default).Block, (rv7.getD v10_15.toNat default).Stmt]) (m := [n.Kind, n.Func, n.Block, n.Stmt])) (KS ?_)))
  refine Kc ?_ ?_
  ·intro h32
   have g33 := eq_of_beq h32
   refine KS ?_
   refine Oq Vm (Oq Va (KS ?_))
   have hR34 := q2 hM16 (.ret v10_15) (by simp only [nd_Find_L0, h24, h32, cs4])
   have hq := q4 hrr v10_15 (by simp only [nd_Find, h24, h32, hg8, hR34, cs4]); subst hq
   exact Kr () rfl (.tmp rfl .nil) [] en
  intro h32
  have g35 := ne_of_beq_false h32
  refine KS ?_
  refine Oq Vadd (Oq Vm (KS ?_))
  exact Kg (r26, (v10_15 + 1)) [2, 3, 4, 5] ⟨(q3 hM16 (by simp only [nd_Find_L0, h24, h32, cs4])), aM1, aM1, aM1, aM1⟩
 intro h24
 have g36 := df h24
 obtain rfl : r14 = 0 := by omega
 refine Ke ?_
 have hR37 := q2 hM16 (.brk ()) (by simp only [nd_Find_L0, h24, cs4])
 refine KS ?_
 refine Oq Va (KS ?_)
 have hq := q4 hrr (-1) (by simp only [nd_Find, h24, hg8, hR37, cs4]); subst hq
 exact Kr () rfl (.tmp rfl .nil) [] en
theorem fn127 (i : Int) (hi_0 : i64ok i) (hi : 0 ≤ i ∧ i < 100) (rr : Str) (hrr : ic_small i = rr) : FT Tryz.prog 127 #[vi i] [] (fun g : Unit => rr.b.length ≤ 140737488355328 ∧ (rr.b.length ≤ 2)) (fun g => .string (bs rr)) (fun g => []) := by
 refine FTi Tryz.func127 fun w0 M0 F0 => ?_
 unfold i64ok at hi_0
 refine KS ?_
 refine Oq Va (KS ?_)
 refine Oq Vm (Oq Vlss (KS ?_))
 refine Kc ?_ ?_
 ·intro h1
  have g2 := dt h1
  refine KS ?_
  refine Oq Vm (Oq Vm (Oq Vadd ?_))
  have hb3 : tab0.b.length = 36 := rfl
  refine Oq (VslS un9 (l := tab0)) ?_
  have hb4 := sub_len3 tab0 i.toNat ((i + 1) : Int).toNat
  refine Oq Va (KS ?_)
  have hq := q4 hrr (tab0.sub i.toNat ((i + 1) : Int).toNat) (by simp only [ic_small, h1, cs4]); subst hq
  exact Kr () rfl (.tmp rfl .nil) [] en
 intro h1
 have g5 := df h1
 refine KS ?_
 refine Oq Vm (Oq Vmul (Oq Vm (Oq Vmul (Oq Vadd ?_))))
 have hb6 : tab1.b.length = 200 := rfl
 refine Oq (VslS un9 (l := tab1)) ?_
 have hb7 := sub_len3 tab1 ((i * 2) : Int).toNat (((i * 2) + 2) : Int).toNat
 refine Oq Va (KS ?_)
 have hq := q4 hrr (tab1.sub ((i * 2) : Int).toNat (((i * 2) + 2) : Int).toNat) (by simp only [ic_small, h1, cs4]); subst hq
 exact Kr () rfl (.tmp rfl .nil) [] en
theorem fn121 (i : Int) (base : Int) (hi_0 : i64ok i) (hbase_0 : i64ok base) (hi : 0 ≤ i ∧ i < 100 ∧ base = 10) (rr : Str) (hrr : ic_FormatInt i base = rr) : FT Tryz.prog 121 #[vi i, vi base] [] (fun g : Unit => rr.b.length ≤ 140737488355328 ∧ (rr.b.length ≤ 2)) (fun g => .string (bs rr)) (fun g => []) := by
 refine FTi Tryz.func121 fun w0 M0 F0 => ?_
 unfold i64ok at hi_0 hbase_0
 refine KS ?_
 refine Oq Va (KS ?_)
 refine Oq Vm (Oq Veql (KS ?_))
 refine Kc ?_ ?_
 ·intro h1
  have g2 := eq_of_beq h1
  refine KS ?_
  refine Oq Vm (Oq Vleq (Oq Vm ?_))
  refine Js 14 ?_ ?_
  ·intro h3
   have g4 := dt h3
   refine Oq Vm (Oq Vlss (Oq Vpt (KS ?_)))
   refine Kc ?_ ?_
   ·intro h5
    have g6 := dt h5
    refine KS ?_
    refine Oq Vm ?_
    refine letv (ic_small i) fun rv7 hg8 => ?_
    have hc9 := fn127 i pre pre rv7 hg8
    refine Oc [] ca127 hc9 ?_
    rintro - ⟨he10, he11⟩
    refine Oq Va (KS ?_)
    have hq := q4 hrr rv7 (by simp only [ic_FormatInt, h1, h3, h5, hg8, cs4]); subst hq
    exact Kr () rfl (.tmp rfl .nil) [] en
   intro h5
   have g12 := df h5
   exfalso; omega
  intro h3
  have g13 := df h3
  exfalso; omega
 intro h1
 have g14 := ne_of_beq_false h1
 exfalso; omega
theorem fn111 (i : Int) (hi_0 : i64ok i) (hi : 0 ≤ i ∧ i < 100) (rr : Str) (hrr : ic_Itoa i = rr) : FT Tryz.prog 111 #[vi i] [] (fun g : Unit => rr.b.length ≤ 140737488355328 ∧ (rr.b.length ≤ 2)) (fun g => .string (bs rr)) (fun g => []) := by
 refine FTi Tryz.func111 fun w0 M0 F0 => ?_
 unfold i64ok at hi_0
 refine KS ?_
 refine Oq Va (KS ?_)
 refine Oq Vm ?_
 refine letv (ic_FormatInt i 10) fun rv1 hg2 => ?_
 have hc3 := fn121 i 10 pre pre pre rv1 hg2
 refine Oc [] ca121 hc3 ?_
 rintro - ⟨he4, he5⟩
 refine Oq Va (KS ?_)
 have hq := q4 hrr rv1 (by simp only [ic_Itoa, hg2, cs4]); subst hq
 exact Kr () rfl (.tmp rfl .nil) [] en
theorem fn91 (i : Int) (hi_0 : i64ok i) (hi : 0 ≤ i ∧ i < 100) (rr : Str) (hrr : st_Itoa i = rr) : FT Tryz.prog 91 #[vi i] [] (fun g : Unit => rr.b.length ≤ 140737488355328 ∧ (rr.b.length ≤ 2)) (fun g => .string (bs rr)) (fun g => []) := by
 refine FTi Tryz.func91 fun w0 M0 F0 => ?_
 unfold i64ok at hi_0
 refine KS ?_
 refine Oq Va (KS ?_)
 refine Oq Vm ?_
 refine letv (ic_Itoa i) fun rv1 hg2 => ?_
 have hc3 := fn111 i pre pre rv1 hg2
 refine Oc [] ca111 hc3 ?_
 rintro - ⟨he4, he5⟩
 refine Oq Va (KS ?_)
 have hq := q4 hrr rv1 (by simp only [st_Itoa, hg2, cs4]); subst hq
 exact Kr () rfl (.tmp rfl .nil) [] en
theorem fn56 (p : GProgram) (pa0 : Option Addr) (pk0 : Nat) (n : GNode) (kwLA : Option Addr) (kwLK : Nat) (hn_0 : i64ok n.Kind) (hn_1 : i64ok n.Func) (hn_2 : i64ok n.Block) (hn_3 : i64ok n.Stmt) (hps : PSm p = true) (rr : Str) (hrr : nd_Label p n = rr) : FT Tryz.prog 56 #[.agg #[vl pa0 pk0 p.Funcs], .agg #[vi n.Kind, vi n.Func, vi n.Block, vi n.Stmt]] [S pa0 pk0 p.Funcs, pv (gp 0) [vl kwLA kwLK kwL], S kwLA kwLK kwL] (fun g : Unit => rr.b.length ≤ 140737488355328 ∧ (rr.b.length ≤ 5000)) (fun g => .string (bs rr)) (fun g => []) := by
 refine FTi Tryz.func56 fun w0 M0 F0 => ?_
 unfold i64ok at hn_0 hn_1 hn_2 hn_3
 refine Fb 40 0 fun _ => Fb 16 2 fun _ => ?_
 refine FoS 2 fun ho3 => ?_
 refine KS ?_
 refine Oa (Ab [vl pa0 pk0 p.Funcs]) fun p4 => Oa (Ab [vi n.Kind, vi n.Func, vi n.Block, vi n.Stmt]) fun p5 => Oq Va (KS ?_)
 refine Oq (VldA sh25 1) (Oq (VldA sh63 0) ?_)
 refine letv (nd_Find p n) fun rv6 hg7 => ?_
 have hc8 := fn77 p pa0 pk0 n kwLA kwLK pre pre pre pre pre rv6 hg7
 refine Oc [2, 3, 4] ca77 hc8 ?_
 rintro - ⟨he9, he10⟩
 unfold i64ok at he9
 refine Oq Vlss (KS ?_)
 refine Kc ?_ ?_
 ·intro h11
  have g12 := dt h11
  refine KS ?_
  refine Oq Va (KS ?_)
  have hq := q4 hrr (Str.mk []) (by simp only [nd_Label, h11, hg7, cs4]); subst hq
  exact Kr () rfl (.tmp rfl .nil) [] en
 intro h11
 have g13 := df h11
 have hN := Find_in (by assumption) h11
 have hsm := Valid_SmP (Find_V (by assumption) h11)
 obtain ⟨hN1, hN2⟩ := hN
 have hf1 := (SmP_f hsm n.Func.toNat).1
 have hb1 := ((SmP_f hsm n.Func.toNat).2 n.Block.toNat aM1).1
 refine KS ?_
 refine Oq (Vfa fo25_0 1) (Oq (VldF sh23 1) (Oq (Vfa fo63_1 0) (Oq (VldF sh3 0) (Oq (Vi sl23 2) ?_))))
 refine JJ_peek_GFunc n.Func.toNat 2 rfl rng fun a14 k15 hb16 => ?_
 refine Fb 40 1 fun _ => ?_
 refine Oq (VldA sh31 0) (Oa (Al ze31 [.string (bs (Str.mk [])), .slice none 0 0]) fun p18 => Ost (Scl [0] sh31 [.string (bs ((p.Funcs.getD n.Func.toNat default).Name)), vl a14 k15 ((p.Funcs.getD n.Func.toNat default).Blocks)]) (KS ?_))
 refine Oq (Vfa fo63_0 3) (Oq (VldF sh3 3) (KS ?_))
 refine Oq Veql (Oq Va (KS ?_))
 refine Kc ?_ ?_
 ·intro h19
  have g20 := eq_of_beq h19
  refine KS ?_
  refine Oq (Vfa fo31_0 0) (Oq (VldF sh9 0) ?_)
  have hb21 := sadd_len ((p.Funcs.getD n.Func.toNat default).Name) (Str.mk [46, 101, 110, 116, 114, 121])
  have hb22 : (Str.mk [46, 101, 110, 116, 114, 121]).b.length = 6 := rfl
  refine Oq (VadS (l := (p.Funcs.getD n.Func.toNat default).Name) (m := (Str.mk [46, 101, 110, 116, 114, 121]))) (Oq Va (KS ?_))
  have hq := q4 hrr ((p.Funcs.getD n.Func.toNat default).Name ++ (Str.mk [46, 101, 110, 116, 114, 121])) (by simp only [nd_Label, h11, h19, hg7, cs4]); subst hq
  exact Kr () rfl (.tmp rfl .nil) [] en
 intro h19
 have g23 := ne_of_beq_false h19
 refine KS ?_
 refine Oq Veql (Oq Va (KS ?_))
 refine Kc ?_ ?_
 ·intro h24
  have g25 := eq_of_beq h24
  refine KS ?_
  refine Oq (Vfa fo31_0 0) (Oq (VldF sh9 0) ?_)
  have hb26 := sadd_len ((p.Funcs.getD n.Func.toNat default).Name) (Str.mk [46, 101, 120, 105, 116])
  have hb27 : (Str.mk [46, 101, 120, 105, 116]).b.length = 5 := rfl
  refine Oq (VadS (l := (p.Funcs.getD n.Func.toNat default).Name) (m := (Str.mk [46, 101, 120, 105, 116]))) (Oq Va (KS ?_))
  have hq := q4 hrr ((p.Funcs.getD n.Func.toNat default).Name ++ (Str.mk [46, 101, 120, 105, 116])) (by simp only [nd_Label, h11, h19, h24, hg7, cs4]); subst hq
  exact Kr () rfl (.tmp rfl .nil) [] en
 intro h24
 have g28 := ne_of_beq_false h24
 have hN3 := hN2 (by assumption) (by simpa using h24)
 refine KS ?_
 refine Jp 0 fun hp29 => ?_
 refine JJ_peek_GBlock n.Block.toNat 3 rfl rng fun a30 k31 hb32 => ?_
 refine Fb 72 1 fun _ => ?_
 refine JK_drawK [0, 1, 3, 0, 8, 0, 32, 120, 248, 504, 1023, 2047, 0, 4096, 12288, 32767, 65535] fmix ?_
 refine Dv [2] (Vfa fo31_0 0) (Dv [3] (VldF sh9 0) ?_)
 have hb34 := sadd_len ((p.Funcs.getD n.Func.toNat default).Name) (Str.mk [46])
 have hb35 : (Str.mk [46]).b.length = 1 := rfl
 refine Dv [] (VadS (l := (p.Funcs.getD n.Func.toNat default).Name) (m := (Str.mk [46]))) (Dv [2] (Vfa fo31_1 0) (Dv [3] (VldF sh29 0) (Dv [6] (Vfa fo63_2 0) (Dv [6] (VldF sh3 0) (Dv [5] (Vi sl29 0) (Dv [0] (Vfa fo34_0 0) (Dv [0] (VldF sh9 0) ?_)))))))
 have hb36 := sadd_len ((p.Funcs.getD n.Func.toNat default).Name ++ (Str.mk [46])) ((((p.Funcs.getD n.Func.toNat default).Blocks).getD n.Block.toNat default).Name)
 refine Dv [] (VadS (l := ((p.Funcs.getD n.Func.toNat default).Name ++ (Str.mk [46]))) (m := (((p.Funcs.getD n.Func.toNat default).Blocks).getD n.Block.toNat default).Name)) ?_
 have hb37 := sadd_len (((p.Funcs.getD n.Func.toNat default).Name ++ (Str.mk [46])) ++ (((p.Funcs.getD n.Func.toNat default).Blocks).getD n.Block.toNat default).Name) (Str.mk [46])
 have hb38 : (Str.mk [46]).b.length = 1 := rfl
 refine Dv [] (VadS (l := (((p.Funcs.getD n.Func.toNat default).Name ++ (Str.mk [46])) ++ (((p.Funcs.getD n.Func.toNat default).Blocks).getD n.Block.toNat default).Name)) (m := (Str.mk [46]))) (Dv [6] (Vfa fo63_3 0) (Dv [6] (VldF sh3 0) ?_))
 refine letv (st_Itoa n.Stmt) fun rv39 hg40 => ?_
 have hI := Itoa_len hg40 aM1
 refine Dx [] [] [0] (fun G => .string (bs rv39)) [fun G => SP.fact (rv39.b.length ≤ 140737488355328 ∧ (rv39.b.length ≤ 2))] (fun G => xC [] ca91 (fn91 n.Stmt pre pre rv39 hg40)) ?_
 have hb41 := sadd_len ((((p.Funcs.getD n.Func.toNat default).Name ++ (Str.mk [46])) ++ (((p.Funcs.getD n.Func.toNat default).Blocks).getD n.Block.toNat default).Name) ++ (Str.mk [46])) rv39
 refine Dv [] (VadS (l := ((((p.Funcs.getD n.Func.toNat default).Name ++ (Str.mk [46])) ++ (((p.Funcs.getD n.Func.toNat default).Blocks).getD n.Block.toNat default).Name) ++ (Str.mk [46]))) (m := rv39)) (Dv [] Va ?_)
 refine Dn ⟨by kernel_rfl, fun G => ?_⟩
 refine Jw2 [(3, p5), (6, .string (bs (((((p.Funcs.getD n.Func.toNat default).Name ++ (Str.mk [46])) ++ (((p.Funcs.getD n.Func.toNat default).Blocks).getD n.Block.toNat default).Name) ++ (Str.mk [46])) ++ rv39)))] [0, 1, 2, 3, 4, 5, 6, 7, 8, 9, 10] [SP.fact (rv39.b.length ≤ 140737488355328 ∧ (rv39.b.length ≤ 2))] ?_
 refine Jf 11 rfl ?_; rintro ⟨he42, he43⟩
 refine Jk [0, 1, 3, 3, 4, 5, 6, 7, 8, 9] ?_
 refine KS ?_
 refine Oq (Vfa fo63_0 5) (Oq (VldF sh3 5) (Oq Veql (KS ?_)))
 refine Kc ?_ ?_
 ·intro h44
  have g45 := eq_of_beq h44
  refine KS ?_
  refine Oq Vm ?_
  have hb46 := sadd_len (((((p.Funcs.getD n.Func.toNat default).Name ++ (Str.mk [46])) ++ (((p.Funcs.getD n.Func.toNat default).Blocks).getD n.Block.toNat default).Name) ++ (Str.mk [46])) ++ rv39) (Str.mk [43])
  have hb47 : (Str.mk [43]).b.length = 1 := rfl
  refine Oq (VadS (l := (((((p.Funcs.getD n.Func.toNat default).Name ++ (Str.mk [46])) ++ (((p.Funcs.getD n.Func.toNat default).Blocks).getD n.Block.toNat default).Name) ++ (Str.mk [46])) ++ rv39)) (m := (Str.mk [43]))) (Oq Va (KS ?_))
  refine Oq Vm (Oq Va (KS ?_))
  have hq := q4 hrr ((((((p.Funcs.getD n.Func.toNat default).Name ++ (Str.mk [46])) ++ (((p.Funcs.getD n.Func.toNat default).Blocks).getD n.Block.toNat default).Name) ++ (Str.mk [46])) ++ rv39) ++ (Str.mk [43])) (by simp only [nd_Label, h11, h19, h24, h44, hg7, hg40, cs4]); subst hq
  exact Kr () rfl (.tmp rfl .nil) [] en
 intro h44
 have g48 := ne_of_beq_false h44
 refine KS ?_
 refine Oq Vm (Oq Va (KS ?_))
 have hq := q4 hrr (((((p.Funcs.getD n.Func.toNat default).Name ++ (Str.mk [46])) ++ (((p.Funcs.getD n.Func.toNat default).Blocks).getD n.Block.toNat default).Name) ++ (Str.mk [46])) ++ rv39) (by simp only [nd_Label, h11, h19, h24, h44, hg7, hg40, cs4]); subst hq
 exact Kr () rfl (.tmp rfl .nil) [] en
def lay156_ren : Go.Shelf.Ren := ⟨(fun n => match n with | 156 => 57 | 165 => 92 | 166 => 93 | 169 => 94 | 240 => 112 | 241 => 113 | 276 => 122 | 277 => 123 | _ => 0), (fun n => match n with | 0 => 0 | 3 => 3 | 4 => 4 | 5 => 5 | 9 => 9 | 20 => 20 | 31 => 35 | 37 => 129 | 70 => 128 | 72 => 131 | 75 => 134 | 76 => 135 | 80 => 61 | 127 => 146 | 164 => 150 | _ => 0), (fun _ => 0)⟩
theorem lay156 : Go.Proofs.Lays.n156 Tryz.prog lay156_ren where
 mixed := by kernel_rfl
 f156 := by kernel_rfl
 f165 := by kernel_rfl
 f166 := by kernel_rfl
 f169 := by kernel_rfl
 f240 := by kernel_rfl
 f241 := by kernel_rfl
 f276 := by kernel_rfl
 f277 := by kernel_rfl
 t0 := by kernel_rfl
 a0 := fun w => rfl
 z0 := fun w => rfl
 v0 := fun w => rfl
 t3 := by kernel_rfl
 a3 := fun w => rfl
 z3 := fun w => rfl
 v3 := fun w => rfl
 t4 := by kernel_rfl
 a4 := fun w => rfl
 z4 := fun w => rfl
 v4 := fun w => rfl
 t9 := by kernel_rfl
 a9 := fun w => rfl
 z9 := fun w => rfl
 v9 := fun w => rfl
 t20 := by kernel_rfl
 a20 := fun w => rfl
 z20 := fun w => rfl
 v20 := fun w => rfl
 t31 := by kernel_rfl
 a31 := fun w => rfl
 z31 := fun w => rfl
 v31 := fun w => rfl
 t37 := by kernel_rfl
 a37 := fun w => rfl
 z37 := fun w => rfl
 v37 := fun w => rfl
 t70 := by kernel_rfl
 a70 := fun w => rfl
 z70 := fun w => rfl
 v70 := fun w => rfl
 t72 := by kernel_rfl
 a72 := fun w => rfl
 z72 := fun w => rfl
 v72 := fun w => rfl
 t75 := by kernel_rfl
 a75 := fun w => rfl
 z75 := fun w => rfl
 v75 := fun w => rfl
 t76 := by kernel_rfl
 a76 := fun w => rfl
 z76 := fun w => rfl
 v76 := fun w => rfl
 t127 := by kernel_rfl
 a127 := fun w => rfl
 z127 := fun w => rfl
 v127 := fun w => rfl
 t164 := by kernel_rfl
 a164 := fun w => rfl
 z164 := fun w => rfl
 v164 := fun w => rfl
theorem lay156x : Go.Proofs.Builder.Extra Tryz.prog lay156_ren where
 sizeBuilder := by kernel_rfl
 liesBuilder := by kernel_rfl
 t5 := by kernel_rfl
 a5 := fun w => rfl
 z5 := fun w => rfl
 v5 := fun w => rfl
 infoByte := by kernel_rfl
 cellsByte := by kernel_rfl
 sizeByte := by kernel_rfl
 neB5 := by decide
theorem fn57 (elems : List Str) (elemsa0 : Option Addr) (elemsk0 : Nat) (sep : Str) (hsep_0 : sep.b.length ≤ 140737488355328) (hj0 : (joinS elems sep).b.length ≤ 140737488355328) (rr : Str) (hrr : strings_Join elems sep = rr) : FT Tryz.prog 57 #[vl elemsa0 elemsk0 elems, .string (bs sep)] [S elemsa0 elemsk0 elems] (fun g : Unit => rr.b.length ≤ 140737488355328) (fun g => .string (bs rr)) (fun g => []) := by
 have hm : strings_Join elems sep = joinS elems sep := rfl
 rw [hm] at hrr
 subst hrr
 exact FT_join (fun bk o c xs sep w h1 h2 h3 h4 h5 => Go.Proofs.Any.strings_Join lay156 lay156x bk o c xs sep w h1 h2 h3 h4 h5) (fun a c sep w => Go.Proofs.Any.strings_Join_none lay156 lay156x a c sep w) elemsa0 elemsk0 elems sep hj0
theorem fn76 (n : GNode) (hn_0 : i64ok n.Kind) (hn_1 : i64ok n.Func) (hn_2 : i64ok n.Block) (hn_3 : i64ok n.Stmt) (rr : Bool) (hrr : nd_inside n = rr) : FT Tryz.prog 76 #[.agg #[vi n.Kind, vi n.Func, vi n.Block, vi n.Stmt]] [] (fun g : Unit => True) (fun g => vb rr) (fun g => []) := by
 refine FTi Tryz.func76 fun w0 M0 F0 => ?_
 unfold i64ok at hn_0 hn_1 hn_2 hn_3
 refine KS ?_
 refine Oa (Ab [vi n.Kind, vi n.Func, vi n.Block, vi n.Stmt]) fun p1 => Oq Va (KS ?_)
 refine Oq (Vfa fo63_0 0) (Oq (VldF sh3 0) (Oq Veql (Oq Vm ?_)))
 refine Js 6 ?_ ?_
 ·intro h2
  have g3 := eq_of_beq h2
  refine Osk (Osk (Osk (Oq Vpt (Oq Va (KS ?_)))))
  have hq := q4 hrr true (by simp only [nd_inside, h2, cs4]); subst hq
  exact Kr () rfl (.tmp rfl .nil) [] trivial
 intro h2
 have g4 := ne_of_beq_false h2
 refine Oq (Vfa fo63_0 0) (Oq (VldF sh3 0) (Oq Veql (Oq Vpf (Oq Va (KS ?_)))))
 have hq := q4 hrr (n.Kind == 4) (by simp only [nd_inside, h2, cs4]); subst hq
 exact Kr () rfl (.tmp rfl .nil) [] trivial
theorem fn48 (p : GProgram) (pa0 : Option Addr) (pk0 : Nat) (n : GNode) (kwLA : Option Addr) (kwLK : Nat) (hn_0 : i64ok n.Kind) (hn_1 : i64ok n.Func) (hn_2 : i64ok n.Block) (hn_3 : i64ok n.Stmt) (hps : PSm p = true) (rr : GStmt × Bool) (hrr : nd_Stmt p n = rr) : FT Tryz.prog 48 #[.agg #[vl pa0 pk0 p.Funcs], .agg #[vi n.Kind, vi n.Func, vi n.Block, vi n.Stmt]] [S pa0 pk0 p.Funcs, pv (gp 0) [vl kwLA kwLK kwL], S kwLA kwLK kwL] (fun g : Value × Value => i64ok rr.1.Op ∧ rr.1.Def.b.length ≤ 140737488355328) (fun g => .tuple #[.agg #[vi rr.1.Op, .string (bs rr.1.Def), g.1, g.2], vb rr.2]) (fun g => [sl g.1 rr.1.Uses, sl g.2 rr.1.Targets]) := by
 refine FTi Tryz.func48 fun w0 M0 F0 => ?_
 unfold i64ok at hn_0 hn_1 hn_2 hn_3
 refine Fb 40 0 fun _ => Fb 16 2 fun _ => ?_
 refine FoS 2 fun ho3 => ?_
 refine KS ?_
 refine Oa (Ab [vl pa0 pk0 p.Funcs]) fun p4 => Oa (Ab [vi n.Kind, vi n.Func, vi n.Block, vi n.Stmt]) fun p5 => Oa (Al ze37 [vi 0, .string (bs (Str.mk [])), .slice none 0 0, .slice none 0 0]) fun p6 => Oq Va (KS ?_)
 refine Oq (VldA sh63 1) ?_
 refine letv (nd_inside n) fun rv7 hg8 => ?_
 have hc9 := fn76 n pre pre pre pre rv7 hg8
 refine Oc [] ca76 hc9 ?_
 rintro - -
 refine Oq Vnot (Oq Vm ?_)
 refine Js 9 ?_ ?_
 ·intro h10
  have h12 := not_true h10
  refine Osk (Osk (Osk (Osk (Oq Vpt (KS ?_)))))
  refine Kt (KS ?_)
  refine Oq (Vbd st37 [vi 0, .string (bs (Str.mk [])), .slice none 0 0, .slice none 0 0]) (Ost (Scl [0] sh37 [vi 0, .string (bs (Str.mk [])), .slice none 0 0, .slice none 0 0]) (Oq Va (KS ?_)))
  refine Jl [] (Ent.slNil (α := Str)) ?_
  have hq := q4 hrr ((GStmt.mk 0 (Str.mk []) [] []), false) (by simp only [nd_Stmt, h10, h12, hg8, cs4]); subst hq
  exact Kr (.slice none 0 0, .slice none 0 0) rfl (.cellN 1 rfl sh37 rfl (reads_Cl _ _) rfl (.tmp rfl .nil)) [0, 0] en
 intro h10
 have h15 := not_false h10
 refine Oq (VldA sh25 2) (Oq (VldA sh63 1) ?_)
 refine letv (nd_Find p n) fun rv17 hg18 => ?_
 have hc19 := fn77 p pa0 pk0 n kwLA kwLK pre pre pre pre pre rv17 hg18
 refine Oc [3, 4, 5] ca77 hc19 ?_
 rintro - ⟨he20, he21⟩
 unfold i64ok at he20
 refine Oq Vlss (Oq Vpf (KS ?_))
 refine Kc ?_ ?_
 ·intro h22
  have g23 := dt h22
  refine KS ?_
  refine Oq (Vbd st37 [vi 0, .string (bs (Str.mk [])), .slice none 0 0, .slice none 0 0]) (Ost (Scl [0] sh37 [vi 0, .string (bs (Str.mk [])), .slice none 0 0, .slice none 0 0]) (Oq Va (KS ?_)))
  refine Jl [] (Ent.slNil (α := Str)) ?_
  have hq := q4 hrr ((GStmt.mk 0 (Str.mk []) [] []), false) (by simp only [nd_Stmt, h10, h15, h22, hg8, hg18, cs4]); subst hq
  exact Kr (.slice none 0 0, .slice none 0 0) rfl (.cellN 1 rfl sh37 rfl (reads_Cl _ _) rfl (.tmp rfl .nil)) [0, 0] en
 intro h22
 have g24 := df h22
 have hN := Find_in (by assumption) h22
 obtain ⟨hN1, hN2⟩ := hN
 have hk := inside_k (by assumption) (by assumption)
 have hN3 := hN2 aM1 aM1
 refine KS ?_
 refine JJ_peek_GFunc n.Func.toNat 3 rfl rng fun a25 k26 hb27 => ?_
 refine Fb 40 1 fun _ => ?_
 refine JJ_peek_GBlock n.Block.toNat 1 rfl rng fun a29 k30 hb31 => ?_
 refine Fb 72 1 fun _ => ?_
 refine JJ_peek_GStmt n.Stmt.toNat 1 rfl rng fun a33 k34 a35 k36 hb37 hb38 => ?_
 unfold i64ok at hb37
 refine Fb 16 1 fun _ => ?_
 refine FoS 1 fun ho40 => ?_
 refine Fb 16 2 fun _ => ?_
 refine FoS 2 fun ho42 => ?_
 refine JK_drawK [0, 1, 0, 4, 15, 31, 63, 0, 128, 511, 1023, 2047, 0, 4096, 16383, 32767, 65535, 131071] fmix ?_
 refine Dv [9] (Vfa fo25_0 0) (Dv [9] (VldF sh23 0) (Dv [8] (Vfa fo63_1 0) (Dv [8] (VldF sh3 0) (Dv [10] (Vi sl23 0) (Dv [5] (Vfa fo31_1 0) (Dv [5] (VldF sh29 0) (Dv [8] (Vfa fo63_2 0) (Dv [8] (VldF sh3 0) (Dv [6] (Vi sl29 0) ?_)))))))))
 refine Dv [3] (Vfa fo34_1 0) (Dv [3] (VldF sh32 0) (Dv [8] (Vfa fo63_3 0) (Dv [8] (VldF sh3 0) (Dv [4] (Vi sl32 0) (Dv [0] (VldA sh37 0) (Dx0 [7] [7] [0] [fun G => Cl p6 [vi ((((((p.Funcs.getD n.Func.toNat default).Blocks).getD n.Block.toNat default).Stmts).getD n.Stmt.toNat default).Op), .string (bs ((((((p.Funcs.getD n.Func.toNat default).Blocks).getD n.Block.toNat default).Stmts).getD n.Stmt.toNat default).Def)), .slice a33 (((((((p.Funcs.getD n.Func.toNat default).Blocks).getD n.Block.toNat default).Stmts).getD n.Stmt.toNat default).Uses).length) k34, .slice a35 (((((((p.Funcs.getD n.Func.toNat default).Blocks).getD n.Block.toNat default).Stmts).getD n.Stmt.toNat default).Targets).length) k36]] (fun G => xS (Scl [0] sh37 [vi ((((((p.Funcs.getD n.Func.toNat default).Blocks).getD n.Block.toNat default).Stmts).getD n.Stmt.toNat default).Op), .string (bs ((((((p.Funcs.getD n.Func.toNat default).Blocks).getD n.Block.toNat default).Stmts).getD n.Stmt.toNat default).Def)), .slice a33 (((((((p.Funcs.getD n.Func.toNat default).Blocks).getD n.Block.toNat default).Stmts).getD n.Stmt.toNat default).Uses).length) k34, .slice a35 (((((((p.Funcs.getD n.Func.toNat default).Blocks).getD n.Block.toNat default).Stmts).getD n.Stmt.toNat default).Targets).length) k36])) (Dv [] Va ?_)))))))
 refine Dn ⟨by kernel_rfl, fun G => ?_⟩
 refine Jw2 [(4, p6), (5, vb true)] [0, 1, 2, 3, 4, 5, 6, 8, 9, 10, 11, 12] [Cl p6 [vi ((((((p.Funcs.getD n.Func.toNat default).Blocks).getD n.Block.toNat default).Stmts).getD n.Stmt.toNat default).Op), .string (bs ((((((p.Funcs.getD n.Func.toNat default).Blocks).getD n.Block.toNat default).Stmts).getD n.Stmt.toNat default).Def)), .slice a33 (((((((p.Funcs.getD n.Func.toNat default).Blocks).getD n.Block.toNat default).Stmts).getD n.Stmt.toNat default).Uses).length) k34, .slice a35 (((((((p.Funcs.getD n.Func.toNat default).Blocks).getD n.Block.toNat default).Stmts).getD n.Stmt.toNat default).Targets).length) k36]] ?_
 have hq := q4 hrr ((((((p.Funcs.getD n.Func.toNat default).Blocks).getD n.Block.toNat default).Stmts).getD n.Stmt.toNat default), true) (by simp only [nd_Stmt, h10, h15, h22, hg8, hg18, cs4]); subst hq
 exact Kr (.slice a33 (((((((p.Funcs.getD n.Func.toNat default).Blocks).getD n.Block.toNat default).Stmts).getD n.Stmt.toNat default).Uses).length) k34, .slice a35 (((((((p.Funcs.getD n.Func.toNat default).Blocks).getD n.Block.toNat default).Stmts).getD n.Stmt.toNat default).Targets).length) k36) rfl (.cellN 12 rfl sh37 rfl (reads_Cl _ _) rfl (.tmp rfl .nil)) [1, 2] en
theorem fn49 (s : GStmt) (sa2 : Option Addr) (sk2 : Nat) (sa3 : Option Addr) (sk3 : Nat) (hs_0 : i64ok s.Op) (hs_1 : s.Def.b.length ≤ 140737488355328) (rr : Bool) (hrr : vd_Defines s = rr) : FT Tryz.prog 49 #[.agg #[vi s.Op, .string (bs s.Def), vl sa2 sk2 s.Uses, vl sa3 sk3 s.Targets]] [S sa2 sk2 s.Uses, S sa3 sk3 s.Targets] (fun g : Unit => True) (fun g => vb rr) (fun g => []) := by
 refine FTi Tryz.func49 fun w0 M0 F0 => ?_
 unfold i64ok at hs_0
 refine Fb 16 0 fun _ => ?_
 refine FoS 0 fun ho2 => ?_
 refine Fb 16 1 fun _ => ?_
 refine FoS 1 fun ho4 => ?_
 refine KS ?_
 refine Oa (Ab [vi s.Op, .string (bs s.Def), vl sa2 sk2 s.Uses, vl sa3 sk3 s.Targets]) fun p5 => Oq Va (KS ?_)
 refine Oq (Vfa fo37_0 0) (Oq (VldF sh3 0) (Oq Veql (Oq Vm ?_)))
 refine Js 6 ?_ ?_
 ·intro h6
  have g7 := eq_of_beq h6
  refine Osk (Osk (Osk (Oq Vpt (Oq Vm (Osk (Osk (Osk (Oq Vpt (Oq Va ?_)))))))))
  refine KS ?_
  have hq := q4 hrr true (by simp only [vd_Defines, h6, cs4]); subst hq
  exact Kr () rfl (.tmp rfl .nil) [] trivial
 intro h6
 have g8 := ne_of_beq_false h6
 refine Oq (Vfa fo37_0 0) (Oq (VldF sh3 0) (Oq Veql (Oq Vpf (Oq Vm ?_))))
 refine Js 11 ?_ ?_
 ·intro h9
  have g10 := eq_of_beq h9
  refine Osk (Osk (Osk (Oq Vpt (Oq Va (KS ?_)))))
  have hq := q4 hrr true (by simp only [vd_Defines, h6, h9, cs4]); subst hq
  exact Kr () rfl (.tmp rfl .nil) [] trivial
 intro h9
 have g11 := ne_of_beq_false h9
 refine Oq (Vfa fo37_0 0) (Oq (VldF sh3 0) (Oq Veql (Oq Vpf (Oq Va (KS ?_)))))
 have hq := q4 hrr (s.Op == 6) (by simp only [vd_Defines, h6, h9, cs4]); subst hq
 exact Kr () rfl (.tmp rfl .nil) [] trivial
theorem fn22 (p : GProgram) (pa0 : Option Addr) (pk0 : Nat) (vars : List Str) (varsa0 : Option Addr) (varsk0 : Nat) (kwLA : Option Addr) (kwLK : Nat) (hps : PSm p = true) (rr : List GFact) (hrr : fc_definitions p vars = rr) : FT Tryz.prog 22 #[.agg #[vl pa0 pk0 p.Funcs], vl varsa0 varsk0 vars] [S pa0 pk0 p.Funcs, S varsa0 varsk0 vars, pv (gp 0) [vl kwLA kwLK kwL], S kwLA kwLK kwL] (fun g : Value => (rr.length ≤ 20000)) (fun g => g) (fun g => [sl g rr]) := by
 refine FTi Tryz.func22 fun w0 M0 F0 => Fb 40 0 fun _ => Fb 16 1 fun _ => ?_
 refine FoS 1 fun ho3 => ?_
 refine Fb 16 3 fun _ => ?_
 refine FoS 3 fun ho5 => ?_
 refine KS ?_
 refine Oa (Ab [vl pa0 pk0 p.Funcs]) fun p6 => Oq Va (KS ?_)
 refine Oq Va (KS ?_)
 refine Oq (VldA sh25 0) ?_
 refine letv (nd_List p) fun rv8 hg9 => ?_
 have hc10 := fn47 p pa0 pk0 kwLA kwLK pre rv8 hg9
 refine Oc [1, 3, 4] ca47 hc10 ?_
 rintro c7 he11
 refine Jo 0 ?_; rintro a12 k13 rfl
 refine Fb 32 0 fun _ => ?_
 refine Oq (Vlen sl71) (Oq Vm (KS ?_))
 refine Jl [] (Ent.osNil (α := GFact)) ?_
 refine Kl (γ := Nat × List GFact × Int × Option Addr × Nat) (fun (r15, out_16, v13_17, a18, k19) => ⟨[(1, vl varsa0 varsk0 vars), (2, p6), (5, vl a18 k19 out_16), (11, vl a12 k13 rv8), (12, vi (rv8.length : Int)), (13, vi v13_17)], [O a18 k19 out_16, S a12 k13 rv8, pv p6 [vl pa0 pk0 p.Funcs], S pa0 pk0 p.Funcs, S varsa0 varsk0 vars, pv (gp 0) [vl kwLA kwLK kwL], S kwLA kwLK kwL], fc_definitions_L0 p vars rv8 r15 out_16 v13_17 = fc_definitions_L0 p vars rv8 (((rv8.length : Int) - 0).toNat) [] 0 ∧ r15 = ((rv8.length : Int) - v13_17).toNat ∧ (0 : Int) ≤ v13_17 ∧ v13_17 ≤ (rv8.length : Int) ∧ (-9223372036854775808 ≤ v13_17 ∧ v13_17 ≤ 9223372036854775807) ∧ ((out_16.length : Int) ≤ v13_17), r15⟩) (((rv8.length : Int) - 0).toNat, [], 0, none, 0) [0, 0, 1, 2, 3, 4, 5] ⟨rfl, rfl, aM1, aM1, aM1, iv0⟩ ?_
 rintro ⟨r15, out_16, v13_17, a18, k19⟩ ⟨hM20, hr21, hi22, hi23, hk24, hv25⟩
 refine JJ_nx fun _ _ hL hA => ?_; dsimp only at hL hA; subst hL hA
 refine Fb 16 0 fun _ => Fb 32 1 fun _ => Fb 40 3 fun _ => Fb 16 4 fun _ => ?_
 refine FoS 4 fun ho30 => ?_
 refine Fb 16 6 fun _ => ?_
 refine FoS 6 fun ho32 => ?_
 refine KS ?_
 refine Oq Vlss (KS ?_)
 refine Kc ?_ ?_
 ·intro h33
  have g34 := dt h33
  obtain ⟨r35, rfl⟩ := scc (n := r15) aM1
  refine KS ?_
  refine Oq Vm (Oq (Vi sl71 1) ?_)
  refine JJ_peek_GNode v13_17.toNat 1 rfl rng fun hb36 hb37 hb38 hb39 => ?_
  unfold i64ok at hb36 hb37 hb38 hb39
  refine Oq (VldA sh63 0) (Oa (Al ze63 [vi 0, vi 0, vi 0, vi 0]) fun p40 => Oq Va (Ost (Scl [0] sh63 [vi ((rv8.getD v13_17.toNat default).Kind), vi ((rv8.getD v13_17.toNat default).Func), vi ((rv8.getD v13_17.toNat default).Block), vi ((rv8.getD v13_17.toNat default).Stmt)]) (KS ?_)))
  refine Oq (VldA sh25 4) (Oq (VldA sh63 0) ?_)
  refine letv (nd_Stmt p (rv8.getD v13_17.toNat default)) fun rv43 hg44 => ?_
  have hc45 := fn48 p pa0 pk0 ((rv8.getD v13_17.toNat default)) kwLA kwLK pre pre pre pre pre rv43 hg44
  refine Oc [5, 7, 8] ca48 hc45 ?_
  rintro ⟨c41, c42⟩ ⟨he46, he47⟩
  unfold i64ok at he46
  refine Jo 0 ?_; rintro a48 k49 rfl
  refine Fb 16 0 fun _ => ?_
  refine FoS 0 fun ho51 => ?_
  refine Jo 1 ?_; rintro a52 k53 rfl
  refine Fb 16 1 fun _ => ?_
  refine FoS 1 fun ho55 => ?_
  refine Oq Vm (Oq Vx (Oq Vx (Oa (Al ze37 [vi 0, .string (bs (Str.mk [])), .slice none 0 0, .slice none 0 0]) fun p56 => Ost (Scl [0] sh37 [vi rv43.1.Op, .string (bs rv43.1.Def), vl a48 k49 rv43.1.Uses, vl a52 k53 rv43.1.Targets]) (Oq Va (KS ?_)))))
  refine Oq (Vfa fo63_0 3) (Oq (VldF sh3 3) (Oq Veql (Oq Vm ?_)))
  refine Js 27 ?_ ?_
  ·intro h57
   have g58 := eq_of_beq h57
   refine Oq (VldA sh37 0) ?_
   refine letv (vd_Defines rv43.1) fun rv59 hg60 => ?_
   have hc61 := fn49 rv43.1 a48 k49 a52 k53 pre pre rv59 hg60
   refine Oc [1, 2] ca49 hc61 ?_
   rintro - -
   refine Oq Vpt (KS ?_)
   refine Kc ?_ ?_
   ·intro h62
    refine KS ?_
    refine Oq Vm (Oq Vm (Oq Vm (Oq (Vfa fo37_1 0) (Oq (VldF sh9 0) ?_))))
    refine letv (sc_Index_string vars rv43.1.Def) fun rv64 hg65 => ?_
    have hc66 := fn50 vars varsa0 varsk0 rv43.1.Def pre rv64 hg65
    refine Oc [9] ca50 hc66 ?_
    rintro - he67
    unfold i64ok at he67
    refine Oq (Vbd st49 [vi v13_17, vi rv64]) (Oa (AsV sl38 sz38 [.agg #[vi v13_17, vi rv64]] [vi v13_17, vi rv64]) fun c68 => ?_)
    refine Jo 0 ?_; rintro a69 k70 rfl
    refine Jl [0] (Ent.cr1 (α := GFact) (A := []) _ (GFact.mk v13_17 rv64) _ aB1 (fun h => ⟨rfl, aL1, aL1⟩)) ?_
    refine Oa (ApO [6, 0] sl38 sl38 sz38) fun c71 => ?_
    refine Jo 0 ?_; rintro a72 k73 rfl
    refine Fb 16 0 fun _ => ?_
    have hn75 := la out_16 ([(GFact.mk v13_17 rv64)] : List GFact)
    refine Oq Va (KS ?_)
    refine Oq Vadd (Oq Vm (KS ?_))
    exact Kg (r35, (out_16 ++ [(GFact.mk v13_17 rv64)]), (v13_17 + 1), a72, k73) [0, 5, 6, 7, 8, 9, 10] ⟨(q3 hM20 (by simp only [fc_definitions_L0, h33, h57, h62, hg44, hg60, hg65, cs4])), aM1, aM1, aM1, aM1, iv1⟩
   intro h62
   refine KS ?_
   refine Oq Vadd (Oq Vm (KS ?_))
   exact Kg (r35, out_16, (v13_17 + 1), a18, k19) [5, 5, 6, 7, 8, 9, 10] ⟨(q3 hM20 (by simp only [fc_definitions_L0, h33, h57, h62, hg44, hg60, cs4])), aM1, aM1, aM1, aM1, iv1⟩
  intro h57
  have g77 := ne_of_beq_false h57
  refine Osk (Osk (Oq Vpf (KS ?_)))
  refine Kf (KS ?_)
  refine Oq Vadd (Oq Vm (KS ?_))
  exact Kg (r35, out_16, (v13_17 + 1), a18, k19) [5, 5, 6, 7, 8, 9, 10] ⟨(q3 hM20 (by simp only [fc_definitions_L0, h33, h57, hg44, cs4])), aM1, aM1, aM1, aM1, iv1⟩
 intro h33
 have g78 := df h33
 obtain rfl : r15 = 0 := by omega
 refine Ke ?_
 have hR79 := q2 hM20 out_16 (by simp only [fc_definitions_L0, h33, cs4])
 refine KS ?_
 refine Oq Vm (Oq Va (KS ?_))
 refine Jl [0] (Ent.freeze _ _) ?_
 have hq := q4 hrr out_16 (by simp only [fc_definitions, h33, hg9, hR79, cs4]); subst hq
 exact Kr (vl a18 k19 out_16) rfl (.tmp rfl .nil) [0] en
theorem fn7 (p : GProgram) (pa0 : Option Addr) (pk0 : Nat) (kind : Int) (kwLA : Option Addr) (kwLK : Nat) (hkind_0 : i64ok kind) (hps : PSm p = true) (rr : List GFact × Int) (hrr : fc_List p kind = rr) : FT Tryz.prog 7 #[.agg #[vl pa0 pk0 p.Funcs], vi kind] [S pa0 pk0 p.Funcs, pv (gp 0) [vl kwLA kwLK kwL], S kwLA kwLK kwL] (fun g : Value => i64ok rr.2 ∧ (rr.1.length ≤ 256)) (fun g => .tuple #[g, vi rr.2]) (fun g => [sl g rr.1]) := by
 refine FTi Tryz.func7 fun w0 M0 F0 => ?_
 unfold i64ok at hkind_0
 refine Fb 40 0 fun _ => Fb 16 2 fun _ => ?_
 refine FoS 2 fun ho3 => ?_
 refine KS ?_
 refine Oa (Ab [vl pa0 pk0 p.Funcs]) fun p4 => Oq Va (Oq Va (KS ?_))
 refine Oq (VldA sh25 0) ?_
 refine letv (vd_Check p) fun rv5 hg6 => ?_
 have hc7 := fn20 p pa0 pk0 kwLA kwLK pre rv5 hg6
 refine Oc [1, 2, 3] ca20 hc7 ?_
 rintro - ⟨he8, he9, he10, he11, he12⟩
 unfold i64ok at he8 he9 he10 he11 he12
 refine Oq Vm (Oq Vx (Oq Vx (Oa (Al ze63 [vi 0, vi 0, vi 0, vi 0]) fun p13 => Ost (Scl [0] sh63 [vi rv5.1.Kind, vi rv5.1.Func, vi rv5.1.Block, vi rv5.1.Stmt]) (Oq Va (KS ?_)))))
 refine Oq Vm (Oq Vneq (KS ?_))
 refine Kc ?_ ?_
 ·intro h14
  have g15 := ne_of_bne h14
  refine KS ?_
  refine Oq Vm (Oq Va (Oq Va (KS ?_)))
  refine Jl [] (Ent.slNil (α := GFact)) ?_
  have hq := q4 hrr (([] : List GFact), rv5.2) (by simp only [fc_List, h14, hg6, cs4]); subst hq
  exact Kr (.slice none 0 0) rfl (.tmp rfl (.tmp rfl .nil)) [0] en
 intro h14
 have g16 := eq_of_bne_false h14
 refine KS ?_
 refine Oq Vm (Oq Vlss (Oq Vm ?_))
 refine Js 21 ?_ ?_
 ·intro h17
  have g18 := dt h17
  refine Osk (Osk (Oq Vpt (KS ?_)))
  refine Kt (KS ?_)
  refine Oq Va (Oq Va (KS ?_))
  refine Jl [] (Ent.slNil (α := GFact)) ?_
  have hq := q4 hrr (([] : List GFact), 3) (by simp only [fc_List, h14, h17, hg6, cs4]); subst hq
  exact Kr (.slice none 0 0) rfl (.tmp rfl (.tmp rfl .nil)) [0] en
 intro h17
 have g19 := df h17
 refine Oq Vm (Oq Vgtr (Oq Vpf (KS ?_)))
 refine Kc ?_ ?_
 ·intro h20
  have g21 := dt h20
  refine KS ?_
  refine Oq Va (Oq Va (KS ?_))
  refine Jl [] (Ent.slNil (α := GFact)) ?_
  have hq := q4 hrr (([] : List GFact), 3) (by simp only [fc_List, h14, h17, h20, hg6, cs4]); subst hq
  exact Kr (.slice none 0 0) rfl (.tmp rfl (.tmp rfl .nil)) [0] en
 intro h20
 have g22 := df h20
 refine KS ?_
 refine Oq (VldA sh25 1) ?_
 refine letv (vd_Variables p) fun rv24 hg25 => ?_
 have hc26 := fn21 p pa0 pk0 kwLA kwLK pre rv24 hg25
 refine Oc [2, 3, 4] ca21 hc26 ?_
 rintro c23 he27
 refine Jo 0 ?_; rintro a28 k29 rfl
 refine Fb 16 0 fun _ => ?_
 refine FoS 0 fun ho31 => ?_
 refine Oq Va (KS ?_)
 refine Oq Va (KS ?_)
 refine Oq Vm (Oq Veql (KS ?_))
 refine Kc ?_ ?_
 ·intro h32
  have g33 := eq_of_beq h32
  refine KS ?_
  refine Oq (VldA sh25 2) (Oq Vm ?_)
  refine letv (fc_definitions p rv24) fun rv35 hg36 => ?_
  have hc37 := fn22 p pa0 pk0 rv24 a28 k29 kwLA kwLK pre rv35 hg36
  refine Oc [3, 0, 4, 5] ca22 hc37 ?_
  rintro c34 he38
  refine Jo 0 ?_; rintro a39 k40 rfl
  refine Fb 16 0 fun _ => ?_
  refine Oq Va (KS ?_)
  refine Oq Vm (Oq (Vlen sl38) (Oq Vgtr (KS ?_)))
  refine Kc ?_ ?_
  ·intro h42
   have g43 := dt h42
   refine KS ?_
   refine Oq Va (Oq Va (KS ?_))
   refine Jl [] (Ent.slNil (α := GFact)) ?_
   have hq := q4 hrr (([] : List GFact), 7) (by simp only [fc_List, h14, h17, h20, h32, h42, hg6, hg25, hg36, cs4]); subst hq
   exact Kr (.slice none 0 0) rfl (.tmp rfl (.tmp rfl .nil)) [0] en
  intro h42
  have g44 := df h42
  refine KS ?_
  refine Oq Vm (Oq Va (Oq Va (KS ?_)))
  have hq := q4 hrr (rv35, 0) (by simp only [fc_List, h14, h17, h20, h32, h42, hg6, hg25, hg36, cs4]); subst hq
  exact Kr (vl a39 k40 rv35) rfl (.tmp rfl (.tmp rfl .nil)) [0] en
 intro h32
 have g45 := ne_of_beq_false h32
 refine KS ?_
 refine Oq Vm (Oq (Vlen sl35) (Oq Vm (KS ?_)))
 refine Jl [] (Ent.osNil (α := GFact)) ?_
 refine Kl (γ := Nat × List GFact × Int × Option Addr × Nat) (fun (r46, out_47, v34_48, a49, k50) => ⟨[(9, vl a49 k50 out_47), (33, vi (rv24.length : Int)), (34, vi v34_48)], [O a49 k50 out_47, pv (gp 0) [vl kwLA kwLK kwL], S kwLA kwLK kwL], fc_List_L0 r46 out_47 v34_48 = fc_List_L0 (((rv24.length : Int) - 0).toNat) [] 0 ∧ r46 = ((rv24.length : Int) - v34_48).toNat ∧ (0 : Int) ≤ v34_48 ∧ v34_48 ≤ (rv24.length : Int) ∧ (-9223372036854775808 ≤ v34_48 ∧ v34_48 ≤ 9223372036854775807) ∧ ((out_47.length : Int) ≤ v34_48), r46⟩) (((rv24.length : Int) - 0).toNat, [], 0, none, 0) [0, 4, 5] ⟨rfl, rfl, aM1, aM1, aM1, iv0⟩ ?_
 rintro ⟨r46, out_47, v34_48, a49, k50⟩ ⟨hM51, hr52, hi53, hi54, hk55, hv56⟩
 refine JJ_nx fun _ _ hL hA => ?_; dsimp only at hL hA; subst hL hA
 refine Fb 16 0 fun _ => Fb 16 2 fun _ => ?_
 refine FoS 2 fun ho59 => ?_
 refine KS ?_
 refine Oq Vlss (KS ?_)
 refine Kc ?_ ?_
 ·intro h60
  have g61 := dt h60
  obtain ⟨r62, rfl⟩ := scc (n := r46) aM1
  refine KS ?_
  refine Oq Vm (Oq Va (KS ?_))
  refine Oq Vm (Oq Vm (Oq (Vbd st49 [vi (-1), vi v34_48]) (Oa (AsV sl38 sz38 [.agg #[vi (-1), vi v34_48]] [vi (-1), vi v34_48]) fun c63 => ?_)))
  refine Jo 0 ?_; rintro a64 k65 rfl
  refine Jl [0] (Ent.cr1 (α := GFact) (A := []) _ (GFact.mk (-1) v34_48) _ aB1 (fun h => ⟨rfl, aL1, aL1⟩)) ?_
  refine Oa (ApO [1, 0] sl38 sl38 sz38) fun c66 => ?_
  refine Jo 0 ?_; rintro a67 k68 rfl
  refine Fb 16 0 fun _ => ?_
  have hn70 := la out_47 ([(GFact.mk (-1) v34_48)] : List GFact)
  refine Oq Va (KS ?_)
  refine Oq Vadd (Oq Vm (KS ?_))
  exact Kg (r62, (out_47 ++ [(GFact.mk (-1) v34_48)]), (v34_48 + 1), a67, k68) [0, 0, 1] ⟨(q3 hM51 (by simp only [fc_List_L0, h60, cs4])), aM1, aM1, aM1, aM1, iv1⟩
 intro h60
 have g71 := df h60
 obtain rfl : r46 = 0 := by omega
 refine Ke ?_
 have hR72 := q2 hM51 out_47 (by simp only [fc_List_L0, h60, cs4])
 refine KS ?_
 refine Oq Vm (Oq (Vlen sl38) (Oq Vgtr (KS ?_)))
 refine Kc ?_ ?_
 ·intro h73
  have g74 := dt h73
  refine KS ?_
  refine Oq Va (Oq Va (KS ?_))
  refine Jl [] (Ent.slNil (α := GFact)) ?_
  have hq := q4 hrr (([] : List GFact), 7) (by simp only [fc_List, h14, h17, h20, h32, h60, h73, hg6, hg25, hR72, cs4]); subst hq
  exact Kr (.slice none 0 0) rfl (.tmp rfl (.tmp rfl .nil)) [0] en
 intro h73
 have g75 := df h73
 refine KS ?_
 refine Oq Vm (Oq Va (Oq Va (KS ?_)))
 refine Jl [0] (Ent.freeze _ _) ?_
 have hq := q4 hrr (out_47, 0) (by simp only [fc_List, h14, h17, h20, h32, h60, h73, hg6, hg25, hR72, cs4]); subst hq
 exact Kr (vl a49 k50 out_47) rfl (.tmp rfl (.tmp rfl .nil)) [0] en
theorem fn26 (p : GProgram) (pa0 : Option Addr) (pk0 : Nat) (kind : Int) (s : GSet) (sa1 : Option Addr) (sk1 : Nat) (kwLA : Option Addr) (kwLK : Nat) (hkind_0 : i64ok kind) (hs_0 : i64ok s.Width) (hps : PSm p = true) (rr : Str × Int) (hrr : fc_Text p kind s = rr) : FT Tryz.prog 26 #[.agg #[vl pa0 pk0 p.Funcs], vi kind, .agg #[vi s.Width, vl sa1 sk1 s.Words]] [S pa0 pk0 p.Funcs, S sa1 sk1 s.Words, pv (gp 0) [vl kwLA kwLK kwL], S kwLA kwLK kwL, pv (gp 1) (tabV .u8 tzT)] (fun g : Unit => rr.1.b.length ≤ 140737488355328 ∧ i64ok rr.2) (fun g => .tuple #[.string (bs rr.1), vi rr.2]) (fun g => []) := by
 refine FTi Tryz.func26 fun w0 M0 F0 => ?_
 unfold i64ok at hkind_0 hs_0
 refine Fb 40 0 fun _ => Fb 8 1 fun _ => Fb 16 3 fun _ => ?_
 refine FoS 3 fun ho4 => ?_
 refine KS ?_
 refine Oa (Ab [vl pa0 pk0 p.Funcs]) fun p5 => Oa (Ab [vi s.Width, vl sa1 sk1 s.Words]) fun p6 => Oq Va (Oq Va (KS ?_))
 refine Oq (VldA sh25 1) (Oq Vm ?_)
 refine letv (fc_List p kind) fun rv8 hg9 => ?_
 have hFL := pFacts_ok hg9
 have hc10 := fn7 p pa0 pk0 kind kwLA kwLK pre pre rv8 hg9
 refine Oc [2, 4, 5] ca7 hc10 ?_
 rintro c7 ⟨he11, he12⟩
 unfold i64ok at he11
 refine Jo 0 ?_; rintro a13 k14 rfl
 refine Fb 16 0 fun _ => ?_
 refine Oq Vm (Oq Vx (Oq Vx (Oq Va (Oq Va (KS ?_)))))
 refine Oq Vm (Oq Vneq (Oq Va (KS ?_)))
 refine Kc ?_ ?_
 ·intro h16
  have g17 := ne_of_bne h16
  refine KS ?_
  refine Oq Vm (Oq Va (Oq Va (KS ?_)))
  have hq := q4 hrr ((Str.mk []), rv8.2) (by simp only [fc_Text, h16, hg9, cs4]); subst hq
  exact Kr () rfl (.tmp rfl (.tmp rfl .nil)) [] en
 intro h16
 have g18 := eq_of_bne_false h16
 refine KS ?_
 refine Oq (VldA sh47 1) ?_
 refine letv (bt_Valid s) fun rv19 hg20 => ?_
 have hc21 := fn54 s sa1 sk1 pre rv19 hg20
 refine Oc [4] ca54 hc21 ?_
 rintro - -
 refine Oq Vnot (Oq Va (KS ?_))
 refine Kc ?_ ?_
 ·intro h22
  have h24 := not_true h22
  refine KS ?_
  refine Oq Va (Oq Va (KS ?_))
  have hq := q4 hrr ((Str.mk []), 1) (by simp only [fc_Text, h16, h22, h24, hg9, hg20, cs4]); subst hq
  exact Kr () rfl (.tmp rfl (.tmp rfl .nil)) [] en
 intro h22
 have h27 := not_false h22
 refine KS ?_
 refine Oq (Vfa fo47_0 1) (Oq (VldF sh3 1) (Oq Vm (Oq (Vlen sl38) (Oq Vneq (Oq Va (KS ?_))))))
 refine Kc ?_ ?_
 ·intro h29
  have g30 := ne_of_bne h29
  refine KS ?_
  refine Oq Va (Oq Va (KS ?_))
  have hq := q4 hrr ((Str.mk []), 2) (by simp only [fc_Text, h16, h22, h27, h29, hg9, hg20, cs4]); subst hq
  exact Kr () rfl (.tmp rfl (.tmp rfl .nil)) [] en
 intro h29
 have g31 := eq_of_bne_false h29
 refine KS ?_
 refine JK_drawK [0, 1, 0, 7, 15, 31] fmix ?_
 refine Dv [2] (VldA sh25 0) ?_
 refine letv (vd_Variables p) fun rv33 hg34 => ?_
 have hVV := pVars_len hg34
 refine Dx [3, 5, 6] [] [2, 3, 4, 0, 1] (fun G => (G.g 1 0)) [fun G => SP.fact ((rv33.length ≤ 30000)), fun G => sl (G.g 1 0) rv33] (fun G => xC [0, 1, 2] ca21 (fn21 p pa0 pk0 kwLA kwLK pre rv33 hg34)) (Dv [2] (VldA sh25 0) ?_)
 refine letv (nd_List p) fun rv36 hg37 => ?_
 have hNN := pList_len hg37
 have hFI := FIn_two hFL hVV.1 hNN
 refine Dx [3, 5, 6] [] [2, 3, 4, 0, 1] (fun G => (G.g 3 0)) [fun G => SP.fact ((rv36.length ≤ 20000)), fun G => sl (G.g 3 0) rv36] (fun G => xC [0, 1, 2] ca47 (fn47 p pa0 pk0 kwLA kwLK pre rv36 hg37)) (Dg [] (fun G => (G.g 1 0)) (fun G => Va) (Dg [] (fun G => (G.g 3 0)) (fun G => Va) ?_))
 refine Dn ⟨by kernel_rfl, fun G => ?_⟩
 refine Jw2 [(3, p5), (5, p6), (8, vl a13 k14 rv8.1), (10, (G.g 1 0)), (11, (G.g 3 0))] [0, 1, 2, 3, 4, 5, 6, 7] [SP.fact ((rv33.length ≤ 30000)), sl (G.g 1 0) rv33, SP.fact ((rv36.length ≤ 20000)), sl (G.g 3 0) rv36] ?_
 generalize G.g 1 0 = c32, G.g 3 0 = c35
 refine Jf 8 rfl ?_; rintro he38
 refine Jf 10 rfl ?_; rintro he39
 refine Jk [0, 1, 2, 3, 4, 5, 6, 7, 9, 11] ?_
 refine Jo 8 ?_; rintro a40 k41 rfl
 refine Fb 16 8 fun _ => ?_
 refine FoS 8 fun ho43 => ?_
 refine Jo 9 ?_; rintro a44 k45 rfl
 refine Fb 32 9 fun _ => KS ?_
 refine Oq Va (KS ?_)
 refine Oq (VldA sh47 1) ?_
 refine letv (bt_Members s) fun rv48 hg49 => ?_
 have hMM := bMem_rng hg49
 have hc50 := fn55 s sa1 sk1 pre rv48 hg49
 refine Oc [4, 7] ca55 hc50 ?_
 rintro c47 -
 refine Jo 0 ?_; rintro a51 k52 rfl
 refine Fb 8 0 fun _ => Fo 0 fun ho54 => ?_
 refine Oq (Vlen sl22) (Oq Vm (KS ?_))
 refine Jl [] (Ent.osNil (α := Str)) ?_
 refine Kl (γ := Nat × List Str × Int × Option Addr × Nat) (fun (r55, words_56, v43_57, a58, k59) => ⟨[(3, p5), (8, vl a13 k14 rv8.1), (10, vl a40 k41 rv33), (11, vl a44 k45 rv36), (12, vl a58 k59 words_56), (41, vl a51 k52 rv48), (42, vi (rv48.length : Int)), (43, vi v43_57)], [O a58 k59 words_56, S a51 k52 rv48, S a13 k14 rv8.1, pv p5 [vl pa0 pk0 p.Funcs], S pa0 pk0 p.Funcs, pv (gp 0) [vl kwLA kwLK kwL], S kwLA kwLK kwL, pv (gp 1) (tabV .u8 tzT), S a40 k41 rv33, S a44 k45 rv36], fc_Text_L0 p rv8.1 rv33 rv36 rv48 r55 words_56 v43_57 = fc_Text_L0 p rv8.1 rv33 rv36 rv48 (((rv48.length : Int) - 0).toNat) [] 0 ∧ r55 = ((rv48.length : Int) - v43_57).toNat ∧ (0 : Int) ≤ v43_57 ∧ v43_57 ≤ (rv48.length : Int) ∧ (-9223372036854775808 ≤ v43_57 ∧ v43_57 ≤ 9223372036854775807) ∧ ((words_56.length : Int) ≤ v43_57) ∧ (∀ w ∈ words_56, w.b.length ≤ 6001), r55⟩) (((rv48.length : Int) - 0).toNat, [], 0, none, 0) [0, 0, 1, 3, 4, 6, 7, 8, 9, 10] ⟨rfl, rfl, aM1, aM1, aM1, iv0, (fun w h => (by cases h))⟩ ?_
 rintro ⟨r55, words_56, v43_57, a58, k59⟩ ⟨hM60, hr61, hi62, hi63, hk64, hv65, hv66⟩
 refine JJ_nx fun _ _ hL hA => ?_; dsimp only at hL hA; subst hL hA
 refine Fb 16 0 fun _ => ?_
 refine FoS 0 fun ho68 => ?_
 refine Fb 8 1 fun _ => Fo 1 fun ho70 => Fb 16 2 fun _ => Fb 40 4 fun _ => Fb 16 6 fun _ => ?_
 refine FoS 6 fun ho74 => ?_
 refine Fb 16 8 fun _ => ?_
 refine FoS 8 fun ho76 => ?_
 refine Fb 32 9 fun _ => KS ?_
 refine Oq Vlss (KS ?_)
 refine Kc ?_ ?_
 ·intro h78
  have g79 := dt h78
  have hb := hMM.2 _ (getD_mem (xs := rv48) (i := v43_57.toNat) (d := 0) aM1)
  have hf := hFI _ (getD_mem (xs := rv8.1) (i := ((rv48.getD v43_57.toNat 0) : Int).toNat) (d := default) aM1)
  have hw := hVV.2 _ (getD_mem (xs := rv33) (i := ((rv8.1.getD ((rv48.getD v43_57.toNat 0) : Int).toNat default).Var : Int).toNat) (d := default) aM1)
  obtain ⟨r80, rfl⟩ := scc (n := r55) aM1
  refine KS ?_
  refine Oq (Vi sl22 1) ?_
  have hb81 := ok1 (i := v43_57.toNat) ho70 rng
  refine Oq (VldI sh3 1) (Oq Va (KS ?_))
  refine Oq Vm (Oq Vm (Oq Vm (Oq (Vi sl38 2) ?_)))
  refine JJ_peek_GFact ((rv48.getD v43_57.toNat 0) : Int).toNat 2 rfl rng fun hb82 hb83 => ?_
  unfold i64ok at hb82 hb83
  refine Oq (Vfa fo49_1 0) (Oq (VldF sh3 0) (Oq (Vi sl35 9) ?_))
  have hb84 := okS (i := ((rv8.1.getD ((rv48.getD v43_57.toNat 0) : Int).toNat default).Var : Int).toNat) ho76 rng
  refine Oq (VldS sh9 9) (Oq Va (KS ?_))
  refine Oq Vm (Oq Vm (Oq (Vi sl38 3) (Oq (Vfa fo49_0 0) (Oq (VldF sh3 0) (Oq Vgeq (KS ?_))))))
  refine Kc ?_ ?_
  ·intro h85
   have g86 := dt h85
   refine JJ_peek_GNode ((rv8.1.getD ((rv48.getD v43_57.toNat 0) : Int).toNat default).Node : Int).toNat 10 rfl rng fun hb87 hb88 hb89 hb90 => ?_
   unfold i64ok at hb87 hb88 hb89 hb90
   refine JK_drawK [0, 0, 0, 0, 0, 24, 56, 120, 252, 508, 1022, 2046, 4095, 8191] fmix ?_
   refine Dv [] Vm (Dv [5] (VldA sh25 0) (Dv [] Vm (Dv [] Vm (Dv [] Vm (Dv [4] (Vi sl38 0) (Dv [1] (Vfa fo49_0 0) (Dv [1] (VldF sh3 0) (Dv [11] (Vi sl71 0) (Dv [0] (VldA sh63 0) ?_)))))))))
   refine letv (nd_Label p (rv36.getD ((rv8.1.getD ((rv48.getD v43_57.toNat 0) : Int).toNat default).Node : Int).toNat default)) fun rv91 hg92 => ?_
   have hll := pLabel_len hg92
   refine Dx [6, 7, 8] [] [1, 2, 3, 0] (fun G => .string (bs rv91)) [fun G => SP.fact (rv91.b.length ≤ 140737488355328 ∧ (rv91.b.length ≤ 5000))] (fun G => xC [0, 1, 2] ca56 (fn56 p pa0 pk0 ((rv36.getD ((rv8.1.getD ((rv48.getD v43_57.toNat 0) : Int).toNat default).Node : Int).toNat default)) kwLA kwLK pre pre pre pre pre rv91 hg92)) ?_
   have hb93 := sadd_len (Str.mk [64]) rv91
   have hb94 : (Str.mk [64]).b.length = 1 := rfl
   refine Dv [] (VadS (l := (Str.mk [64])) (m := rv91)) ?_
   have hb95 := sadd_len (rv33.getD ((rv8.1.getD ((rv48.getD v43_57.toNat 0) : Int).toNat default).Var : Int).toNat default) ((Str.mk [64]) ++ rv91)
   refine Dv [] (VadS (l := (rv33.getD ((rv8.1.getD ((rv48.getD v43_57.toNat 0) : Int).toNat default).Var : Int).toNat default)) (m := ((Str.mk [64]) ++ rv91))) (Dv [] Va ?_)
   refine Dn ⟨by kernel_rfl, fun G => ?_⟩
   refine Jw2 [(3, p5), (8, vl a13 k14 rv8.1), (10, vl a40 k41 rv33), (11, vl a44 k45 rv36), (12, vl a58 k59 words_56), (41, vl a51 k52 rv48), (42, vi (rv48.length : Int)), (43, vi v43_57), (15, .string (bs ((rv33.getD ((rv8.1.getD ((rv48.getD v43_57.toNat 0) : Int).toNat default).Var : Int).toNat default) ++ ((Str.mk [64]) ++ rv91))))] [0, 1, 2, 3, 4, 5, 6, 7, 8, 9, 10, 11] [SP.fact (rv91.b.length ≤ 140737488355328 ∧ (rv91.b.length ≤ 5000))] ?_
   refine Jf 12 rfl ?_; rintro ⟨he96, he97⟩
   refine Jk [0, 1, 2, 2, 3, 4, 5, 6, 7, 8, 9, 10] ?_
   refine KS ?_
   refine Oq Vm (Oq Vm (Oa (AsV sl35 sz35 [.string (bs ((rv33.getD ((rv8.1.getD ((rv48.getD v43_57.toNat 0) : Int).toNat default).Var : Int).toNat default) ++ ((Str.mk [64]) ++ rv91)))] [.string (bs ((rv33.getD ((rv8.1.getD ((rv48.getD v43_57.toNat 0) : Int).toNat default).Var : Int).toNat default) ++ ((Str.mk [64]) ++ rv91)))]) fun c98 => ?_))
   refine Jo 0 ?_; rintro a99 k100 rfl
   refine Jl [0] (Ent.cr1 (α := Str) (A := []) _ ((rv33.getD ((rv8.1.getD ((rv48.getD v43_57.toNat 0) : Int).toNat default).Var : Int).toNat default) ++ ((Str.mk [64]) ++ rv91)) _ aB1 (fun _ => ⟨rfl, aS1⟩)) ?_
   refine Oa (ApO [3, 0] sl35 sl35 sz35) fun c101 => ?_
   refine Jo 0 ?_; rintro a102 k103 rfl
   refine Fb 16 0 fun _ => ?_
   refine FoS 0 fun ho105 => ?_
   have hn106 := la words_56 ([((rv33.getD ((rv8.1.getD ((rv48.getD v43_57.toNat 0) : Int).toNat default).Var : Int).toNat default) ++ ((Str.mk [64]) ++ rv91))] : List Str)
   refine Oq Va (KS ?_)
   refine Oq Vadd (Oq Vm (KS ?_))
   exact Kg (r80, (words_56 ++ [((rv33.getD ((rv8.1.getD ((rv48.getD v43_57.toNat 0) : Int).toNat default).Var : Int).toNat default) ++ ((Str.mk [64]) ++ rv91))]), (v43_57 + 1), a102, k103) [0, 2, 3, 4, 5, 6, 7, 8, 9, 10] ⟨(q3 hM60 (by simp only [fc_Text_L0, h78, h85, hg92, cs4])), aM1, aM1, aM1, aM1, iv1, (fun w h => (List.mem_append.1 h).elim ((by assumption : ∀ w ∈ _, w.b.length ≤ 6001) w) (fun h => by rw [List.mem_singleton.1 h]; omega))⟩
  intro h85
  have g107 := df h85
  refine KS ?_
  refine Oq Vm (Oq Vm (Oa (AsV sl35 sz35 [.string (bs (rv33.getD ((rv8.1.getD ((rv48.getD v43_57.toNat 0) : Int).toNat default).Var : Int).toNat default))] [.string (bs (rv33.getD ((rv8.1.getD ((rv48.getD v43_57.toNat 0) : Int).toNat default).Var : Int).toNat default))]) fun c108 => ?_))
  refine Jo 0 ?_; rintro a109 k110 rfl
  refine Jl [0] (Ent.cr1 (α := Str) (A := []) _ (rv33.getD ((rv8.1.getD ((rv48.getD v43_57.toNat 0) : Int).toNat default).Var : Int).toNat default) _ aB1 (fun _ => ⟨rfl, aS1⟩)) ?_
  refine Oa (ApO [2, 0] sl35 sl35 sz35) fun c111 => ?_
  refine Jo 0 ?_; rintro a112 k113 rfl
  refine Fb 16 0 fun _ => ?_
  refine FoS 0 fun ho115 => ?_
  have hn116 := la words_56 ([(rv33.getD ((rv8.1.getD ((rv48.getD v43_57.toNat 0) : Int).toNat default).Var : Int).toNat default)] : List Str)
  refine Oq Va (KS ?_)
  refine Oq Vadd (Oq Vm (KS ?_))
  exact Kg (r80, (words_56 ++ [(rv33.getD ((rv8.1.getD ((rv48.getD v43_57.toNat 0) : Int).toNat default).Var : Int).toNat default)]), (v43_57 + 1), a112, k113) [0, 1, 2, 3, 4, 5, 6, 7, 8, 9] ⟨(q3 hM60 (by simp only [fc_Text_L0, h78, h85, cs4])), aM1, aM1, aM1, aM1, iv1, (fun w h => (List.mem_append.1 h).elim ((by assumption : ∀ w ∈ _, w.b.length ≤ 6001) w) (fun h => by rw [List.mem_singleton.1 h]; omega))⟩
 intro h78
 have g117 := df h78
 obtain rfl : r55 = 0 := by omega
 refine Ke ?_
 have hR118 := q2 hM60 words_56 (by simp only [fc_Text_L0, h78, cs4])
 refine KS ?_
 refine Oq Vm ?_
 refine letv (strings_Join words_56 (Str.mk [32])) fun rv119 hg120 => ?_
 refine Oc [0] ca57 (FT_borrow (A := _) (fun _ _ h => by cases h) (FT_ent (Ent.take (is := [0]) rfl) (fn57 words_56 a58 k59 ((Str.mk [32])) pre (Nat.le_trans (joinS_len (m := 6001) _ rfl _ (by assumption)) aM1) rv119 hg120))) ?_ (ht := rfl)
 rintro - he121
 refine Oq Va (Oq Va (KS ?_))
 have hq := q4 hrr (rv119, 0) (by simp only [fc_Text, h16, h22, h27, h29, h78, hg9, hg20, hg34, hg37, hg49, hR118, hg120, cs4]); subst hq
 exact Kr () rfl (.tmp rfl (.tmp rfl .nil)) [] en
theorem fn28 (a : List GFact) (aa0 : Option Addr) (ak0 : Nat) (b : List GFact) (ba0 : Option Addr) (bk0 : Nat) (rr : Bool) (hrr : r7_SameFacts a b = rr) : FT Tryz.prog 28 #[vl aa0 ak0 a, vl ba0 bk0 b] [S aa0 ak0 a, S ba0 bk0 b] (fun g : Unit => True) (fun g => vb rr) (fun g => []) := by
 refine FTi Tryz.func28 fun w0 M0 F0 => Fb 16 0 fun _ => Fb 16 1 fun _ => ?_
 refine KS ?_
 refine Oq Va (KS ?_)
 refine Oq Vm (Oq (Vlen sl38) (Oq Vm (Oq (Vlen sl38) (Oq Vneq (KS ?_)))))
 refine Kc ?_ ?_
 ·intro h3
  have g4 := ne_of_bne h3
  refine KS ?_
  refine Oq Va (KS ?_)
  have hq := q4 hrr false (by simp only [r7_SameFacts, h3, cs4]); subst hq
  exact Kr () rfl (.tmp rfl .nil) [] trivial
 intro h3
 have g5 := eq_of_bne_false h3
 refine KS ?_
 refine Oq Va (KS ?_)
 refine Kl (γ := Nat × Int) (fun (r6, i_7) => ⟨[(0, vl aa0 ak0 a), (1, vl ba0 bk0 b), (5, vi i_7)], [S aa0 ak0 a, S ba0 bk0 b], r7_SameFacts_L0 a b r6 i_7 = r7_SameFacts_L0 a b (((a.length : Int) - 0).toNat) 0 ∧ r6 = ((a.length : Int) - i_7).toNat ∧ (0 : Int) ≤ i_7 ∧ i_7 ≤ (a.length : Int) ∧ (-9223372036854775808 ≤ i_7 ∧ i_7 ≤ 9223372036854775807), r6⟩) (((a.length : Int) - 0).toNat, 0) [0, 1] ⟨rfl, rfl, aM1, aM1, aM1⟩ ?_
 rintro ⟨r6, i_7⟩ ⟨hM8, hr9, hi10, hi11, hk12⟩
 refine JJ_nx fun _ _ hL hA => ?_; dsimp only at hL hA; subst hL hA
 refine Fb 16 0 fun _ => Fb 16 1 fun _ => KS ?_
 refine Oq Vm (Oq Vm (Oq (Vlen sl38) (Oq Vlss (KS ?_))))
 refine Kc ?_ ?_
 ·intro h15
  have g16 := dt h15
  obtain ⟨r17, rfl⟩ := scc (n := r6) aM1
  refine KS ?_
  refine JJ_peek_GFact i_7.toNat 0 rfl rng fun hb18 hb19 => ?_
  unfold i64ok at hb18 hb19
  refine JJ_peek_GFact i_7.toNat 2 rfl rng fun hb20 hb21 => ?_
  unfold i64ok at hb20 hb21
  refine Kq [0, 0, 3, 7, 0, 0, 48, 112, 255] fmix ?_
  refine Qv [] Vm (Qv [] Vm (Qv [2] (Vi sl38 0) (Qv [1] (VldA sh49 0) (Qv [] Vm (Qv [] Vm (Qv [3] (Vi sl38 0) (Qv [0] (VldA sh49 0) (Qv [] (VneA eqi49 (l := [(a.getD i_7.toNat default).Node, (a.getD i_7.toNat default).Var]) (m := [(b.getD i_7.toNat default).Node, (b.getD i_7.toNat default).Var])) ?_))))))))
  refine Qn ⟨by kernel_rfl, ?_⟩
  refine Kc ?_ ?_
  ·intro h22
   have g23 := ne_of_bne h22
   refine KS ?_
   refine Oq Va (KS ?_)
   have hR24 := q2 hM8 (.ret false) (by simp only [r7_SameFacts_L0, h15, h22, cs4])
   have hq := q4 hrr false (by simp only [r7_SameFacts, h3, h15, h22, hR24, cs4]); subst hq
   exact Kr () rfl (.tmp rfl .nil) [] trivial
  intro h22
  have g25 := eq_of_bne_false h22
  refine KS ?_
  refine Oq Vm (Oq Vadd (Oq Va (KS ?_)))
  exact Kg (r17, (i_7 + 1)) [2, 3] ⟨(q3 hM8 (by simp only [r7_SameFacts_L0, h15, h22, cs4])), aM1, aM1, aM1, aM1⟩
 intro h15
 have g26 := df h15
 obtain rfl : r6 = 0 := by omega
 refine Ke ?_
 have hR27 := q2 hM8 (.brk ()) (by simp only [r7_SameFacts_L0, h15, cs4])
 refine KS ?_
 refine Oq Va (KS ?_)
 have hq := q4 hrr true (by simp only [r7_SameFacts, h3, h15, hR27, cs4]); subst hq
 exact Kr () rfl (.tmp rfl .nil) [] trivial
theorem fn64 (s : GSet) (sa1 : Option Addr) (sk1 : Nat) (hs_0 : i64ok s.Width) (rr : Bool) (hrr : r1_Valid s = rr) : FT Tryz.prog 64 #[.agg #[vi s.Width, vl sa1 sk1 s.Words]] [S sa1 sk1 s.Words] (fun g : Unit => True) (fun g => vb rr) (fun g => []) := by
 refine FTi Tryz.func64 fun w0 M0 F0 => ?_
 unfold i64ok at hs_0
 refine Fb 8 0 fun _ => KS ?_
 refine Oa (Ab [vi s.Width, vl sa1 sk1 s.Words]) fun p2 => Oq Va (KS ?_)
 refine Oq (Vfa fo47_0 0) (Oq (VldF sh3 0) (Oq Vlss (Oq Vm ?_)))
 refine Js 7 ?_ ?_
 ·intro h3
  have g4 := dt h3
  refine Osk (Osk (Osk (Oq Vpt (Oq Vm (Osk (Osk (Osk (Osk (Osk ?_)))))))))
  refine Osk (Osk (Osk (Oq Vpt (KS ?_))))
  refine Kt (KS ?_)
  refine Oq Va (KS ?_)
  have hq := q4 hrr false (by simp only [r1_Valid, h3, cs4]); subst hq
  exact Kr () rfl (.tmp rfl .nil) [] trivial
 intro h3
 have g5 := df h3
 refine Oq (Vfa fo47_0 0) (Oq (VldF sh3 0) (Oq Vgtr (Oq Vpf (Oq Vm ?_))))
 refine Js 12 ?_ ?_
 ·intro h6
  have g7 := dt h6
  refine Osk (Osk (Osk (Osk (Osk (Osk (Osk (Osk (Oq Vpt (KS ?_)))))))))
  refine Kt (KS ?_)
  refine Oq Va (KS ?_)
  have hq := q4 hrr false (by simp only [r1_Valid, h3, h6, cs4]); subst hq
  exact Kr () rfl (.tmp rfl .nil) [] trivial
 intro h6
 have g8 := df h6
 refine Oq (Vfa fo47_1 0) (Oq (VldF sh45 0) (Oq (Vlen sl45) (Oq (Vfa fo47_0 0) (Oq (VldF sh3 0) (Oq Vadd (Oq Vquo (Oq Vneq (Oq Vpf (KS ?_)))))))))
 refine Kc ?_ ?_
 ·intro h9
  have g10 := ne_of_bne h9
  refine KS ?_
  refine Oq Va (KS ?_)
  have hq := q4 hrr false (by simp only [r1_Valid, h3, h6, h9, cs4]); subst hq
  exact Kr () rfl (.tmp rfl .nil) [] trivial
 intro h9
 have g11 := eq_of_bne_false h9
 refine KS ?_
 refine Oq (Vfa fo47_0 0) (Oq (VldF sh3 0) (Oq Va (KS ?_)))
 refine Kl (γ := Nat × Int) (fun (r12, b_13) => ⟨[(1, p2), (3, vi b_13)], [pv p2 [vi s.Width, vl sa1 sk1 s.Words], S sa1 sk1 s.Words], r1_Valid_L0 s r12 b_13 = r1_Valid_L0 s ((((64 * (s.Words.length : Int)) : Int) - s.Width).toNat) s.Width ∧ r12 = (((64 * (s.Words.length : Int)) : Int) - b_13).toNat ∧ (s.Width : Int) ≤ b_13 ∧ (b_13 ≤ (64 * (s.Words.length : Int)) ∨ b_13 = s.Width) ∧ (-9223372036854775808 ≤ b_13 ∧ b_13 ≤ 9223372036854775807), r12⟩) ((((64 * (s.Words.length : Int)) : Int) - s.Width).toNat, s.Width) [0, 1] ⟨rfl, rfl, aM1, (.inr rfl), aM1⟩ ?_
 rintro ⟨r12, b_13⟩ ⟨hM14, hr15, hi16, hi17, hk18⟩
 refine JJ_nx fun _ _ hL hA => ?_; dsimp only at hL hA; subst hL hA
 refine Fb 8 1 fun _ => KS ?_
 refine Oq Vm (Oq (Vfa fo47_1 0) (Oq (VldF sh45 0) (Oq (Vlen sl45) (Oq Vmul (Oq Vlss (KS ?_))))))
 refine Kc ?_ ?_
 ·intro h20
  have g21 := dt h20
  obtain ⟨r22, rfl⟩ := scc (n := r12) aM1
  refine KS ?_
  refine Oq (Vfa fo47_1 0) (Oq (VldF sh45 0) (Oq Vm (Oq Vquo (Oq (Vi sl45 1) (Oq (VldU sh78 1) (Oq Vm (Oq Vrem (Oq (VcU un3 un79) (Oq VshrU ?_)))))))))
  refine Oq (VandU (b := 1#64)) (Oq (VeqlU (b := 1#64)) (KS ?_))
  refine Kc ?_ ?_
  ·intro h23
   have g24 := eq_of_beq h23
   refine KS ?_
   refine Oq Va (KS ?_)
   have hR25 := q2 hM14 (.ret false) (by simp only [r1_Valid_L0, h20, h23, cs4])
   have hq := q4 hrr false (by simp only [r1_Valid, h3, h6, h9, h20, h23, hR25, cs4]); subst hq
   exact Kr () rfl (.tmp rfl .nil) [] trivial
  intro h23
  have g26 := ne_of_beq_false h23
  refine KS ?_
  refine Oq Vm (Oq Vadd (Oq Va (KS ?_)))
  exact Kg (r22, (b_13 + 1)) [0, 1] ⟨(q3 hM14 (by simp only [r1_Valid_L0, h20, h23, cs4])), aM1, aM1, aM1, aM1⟩
 intro h20
 have g27 := df h20
 obtain rfl : r12 = 0 := by omega
 refine Ke ?_
 have hR28 := q2 hM14 (.brk ()) (by simp only [r1_Valid_L0, h20, cs4])
 refine KS ?_
 refine Oq Va (KS ?_)
 have hq := q4 hrr true (by simp only [r1_Valid, h3, h6, h9, h20, hR28, cs4]); subst hq
 exact Kr () rfl (.tmp rfl .nil) [] trivial
theorem fn97 (s : GSet) (sa1 : Option Addr) (sk1 : Nat) (b : Int) (hs_0 : i64ok s.Width) (hb_0 : i64ok b) (rr : Bool) (hrr : r1_Has s b = rr) : FT Tryz.prog 97 #[.agg #[vi s.Width, vl sa1 sk1 s.Words], vi b] [S sa1 sk1 s.Words] (fun g : Unit => True) (fun g => vb rr) (fun g => []) := by
 refine FTi Tryz.func97 fun w0 M0 F0 => ?_
 unfold i64ok at hs_0 hb_0
 refine Fb 8 0 fun _ => KS ?_
 refine Oa (Ab [vi s.Width, vl sa1 sk1 s.Words]) fun p2 => Oq Va (KS ?_)
 refine Oq (VldA sh47 0) ?_
 refine letv (r1_Valid s) fun rv3 hg4 => ?_
 have hc5 := fn64 s sa1 sk1 pre rv3 hg4
 refine Oc [1] ca64 hc5 ?_
 rintro - -
 refine Oq Vm ?_
 refine Js 7 ?_ ?_
 ·intro h6
  try have hrg := RV_w (s := s) (by simp only [h6, hg4])
  refine Oq Vm (Oq Vgeq (Oq Vpt (Oq Vm ?_)))
  refine Js 11 ?_ ?_
  ·intro h8
   have g9 := dt h8
   refine Oq Vm (Oq (Vfa fo47_0 0) (Oq (VldF sh3 0) (Oq Vlss (Oq Vpt (Oq Vm ?_)))))
   refine Js 17 ?_ ?_
   ·intro h10
    have g11 := dt h10
    refine Oq (Vfa fo47_1 0) (Oq (VldF sh45 0) (Oq Vm (Oq Vquo (Oq (Vi sl45 1) (Oq (VldU sh78 1) (Oq Vm (Oq Vrem (Oq (VcU un3 un79) (Oq VshrU ?_)))))))))
    refine Oq (VandU (b := 1#64)) (Oq (VeqlU (b := 1#64)) (Oq Vpt (Oq Va (KS ?_))))
    have hq := q4 hrr ((((s.Words.getD ((b / 64) : Int).toNat 0#64) >>> (((BitVec.ofInt 64 (b % 64)).toNat : Int)).toNat) &&& 1#64) == 1#64) (by simp only [r1_Has, h6, h8, h10, hg4, cs4]); subst hq
    exact Kr () rfl (.tmp rfl .nil) [] trivial
   intro h10
   have g12 := df h10
   refine Osk (Osk (Osk (Osk (Osk (Osk (Osk (Osk (Osk (Osk ?_)))))))))
   refine Osk (Osk (Oq Vpf (Oq Va (KS ?_))))
   have hq := q4 hrr false (by simp only [r1_Has, h6, h8, h10, hg4, cs4]); subst hq
   exact Kr () rfl (.tmp rfl .nil) [] trivial
  intro h8
  have g13 := df h8
  refine Osk (Osk (Osk (Osk (Oq Vpf (Oq Vm (Osk (Osk (Osk (Osk ?_)))))))))
  refine Osk (Osk (Osk (Osk (Osk (Osk (Osk (Osk (Oq Vpf (Oq Va ?_)))))))))
  refine KS ?_
  have hq := q4 hrr false (by simp only [r1_Has, h6, h8, hg4, cs4]); subst hq
  exact Kr () rfl (.tmp rfl .nil) [] trivial
 intro h6
 refine Osk (Osk (Oq Vpf (Oq Vm (Osk (Osk (Osk (Osk (Oq Vpf (Oq Vm ?_)))))))))
 refine Osk (Osk (Osk (Osk (Osk (Osk (Osk (Osk (Osk (Osk ?_)))))))))
 refine Osk (Osk (Oq Vpf (Oq Va (KS ?_))))
 have hq := q4 hrr false (by simp only [r1_Has, h6, hg4, cs4]); subst hq
 exact Kr () rfl (.tmp rfl .nil) [] trivial
theorem fn65 (s : GSet) (sa1 : Option Addr) (sk1 : Nat) (hs_0 : i64ok s.Width) (rr : List Int) (hrr : r1_Members s = rr) : FT Tryz.prog 65 #[.agg #[vi s.Width, vl sa1 sk1 s.Words]] [S sa1 sk1 s.Words] (fun g : Value => True) (fun g => g) (fun g => [sl g rr]) := by
 refine FTi Tryz.func65 fun w0 M0 F0 => ?_
 unfold i64ok at hs_0
 refine Fb 8 0 fun _ => KS ?_
 refine Oa (Ab [vi s.Width, vl sa1 sk1 s.Words]) fun p2 => Oq Va (KS ?_)
 refine Oq Va (KS ?_)
 refine Oq Va (KS ?_)
 refine Jl [] (Ent.osNil (α := Int)) ?_
 have hterm12 : r1_Members_L0 s (s.Width.toNat + 1) [] 0 ≠ LR.oof := Members_L0_term _ _ _ _ aM1 aM1
 refine Kl (γ := Nat × List Int × Int × Option Addr × Nat) (fun (r3, out_4, b_5, a6, k7) => ⟨[(1, p2), (3, vl a6 k7 out_4), (4, vi b_5)], [O a6 k7 out_4, pv p2 [vi s.Width, vl sa1 sk1 s.Words], S sa1 sk1 s.Words], r1_Members_L0 s r3 out_4 b_5 = r1_Members_L0 s (s.Width.toNat + 1) [] 0 ∧ (-9223372036854775808 ≤ b_5 ∧ b_5 ≤ 9223372036854775807) ∧ 0 ≤ b_5 ∧ (out_4.length : Int) ≤ b_5, r3⟩) ((s.Width.toNat + 1), [], 0, none, 0) [0, 0, 1] ⟨rfl, aM1, iv0, iv0⟩ ?_
 rintro ⟨r3, out_4, b_5, a6, k7⟩ ⟨hM8, hk9, hv10, hv11⟩
 refine JJ_nx fun _ _ hL hA => ?_; dsimp only at hL hA; subst hL hA
 refine Fb 8 0 fun _ => Fo 0 fun ho14 => Fb 8 2 fun _ => ?_
 rcases r3 with _ | r3
 ·exact absurd (hM8.symm.trans rfl) hterm12
 refine KS ?_
 refine Oq (VldA sh47 1) ?_
 refine letv (r1_Valid s) fun rv16 hg17 => ?_
 have hc18 := fn64 s sa1 sk1 pre rv16 hg17
 refine Oc [2] ca64 hc18 ?_
 rintro - -
 refine Oq Vm ?_
 refine Js 7 ?_ ?_
 ·intro h19
  try have hrg := RV_w (s := s) (by simp only [h19, hg17])
  refine Oq Vm (Oq (Vfa fo47_0 1) (Oq (VldF sh3 1) (Oq Vlss (Oq Vpt (KS ?_)))))
  refine Kc ?_ ?_
  ·intro h21
   have g22 := dt h21
   refine KS ?_
   refine Oq (VldA sh47 1) (Oq Vm ?_)
   refine letv (r1_Has s b_5) fun rv23 hg24 => ?_
   have hc25 := fn97 s sa1 sk1 b_5 pre pre rv23 hg24
   refine Oc [2] ca97 hc25 ?_
   rintro - -
   refine KS ?_
   refine Kc ?_ ?_
   ·intro h26
    try have hrg := RV_w (s := s) (by simp only [h19, h21, h26, hg17, hg24])
    refine KS ?_
    refine Oq Vm (Oq Vm (Oa (AsV sl22 sz22 [vi b_5] [vi b_5]) fun c28 => ?_))
    refine Jo 0 ?_; rintro a29 k30 rfl
    refine Jl [0] (Ent.crInt _ [b_5] _ _ rfl rfl (by intro x hx; rw [List.mem_singleton] at hx; subst hx; unfold i64ok; omega) aB1) ?_
    refine Oa (ApO [1, 0] sl22 sl22 sz22) fun c31 => ?_
    refine Jo 0 ?_; rintro a32 k33 rfl
    refine Fb 8 0 fun _ => Fo 0 fun ho35 => ?_
    have hn36 := la out_4 ([b_5] : List Int)
    refine Oq Va (KS ?_)
    refine Oq Vm (Oq Vadd (Oq Va (KS ?_)))
    exact Kg (r3, (out_4 ++ [b_5]), (b_5 + 1), a32, k33) [0, 0, 1] ⟨(q3 hM8 (by simp only [r1_Members_L0, h19, h21, h26, hg17, hg24, cs4])), aM1, iv1, iv1⟩
   intro h26
   refine KS ?_
   refine Oq Vm (Oq Vadd (Oq Va (KS ?_)))
   exact Kg (r3, out_4, (b_5 + 1), a6, k7) [0, 0, 1] ⟨(q3 hM8 (by simp only [r1_Members_L0, h19, h21, h26, hg17, hg24, cs4])), aM1, iv1, iv1⟩
  intro h21
  have g38 := df h21
  refine Ke ?_
  have hR39 := q2 hM8 (.brk out_4) (by simp only [r1_Members_L0, h19, h21, hg17, cs4])
  refine KS ?_
  refine Oq Vm (Oq Va (KS ?_))
  refine Jl [0] (Ent.freeze _ _) ?_
  have hq := q4 hrr out_4 (by simp only [r1_Members, h19, h21, hg17, hR39, cs4]); subst hq
  exact Kr (vl a6 k7 out_4) rfl (.tmp rfl .nil) [0] trivial
 intro h19
 refine Osk (Osk (Osk (Osk (Oq Vpf (KS ?_)))))
 refine Kf ?_
 refine Ke ?_
 have hR41 := q2 hM8 (.brk out_4) (by simp only [r1_Members_L0, h19, hg17, cs4])
 refine KS ?_
 refine Oq Vm (Oq Va (KS ?_))
 refine Jl [0] (Ent.freeze _ _) ?_
 have hq := q4 hrr out_4 (by simp only [r1_Members, h19, hg17, hR41, cs4]); subst hq
 exact Kr (vl a6 k7 out_4) rfl (.tmp rfl .nil) [0] trivial
theorem fn114 (n : Int) (hn_0 : i64ok n) (hn : 0 ≤ n ∧ n ≤ 1000000000) (rr : Str) (hrr : r1_Decimal n = rr) : FT Tryz.prog 114 #[vi n] [] (fun g : Unit => rr.b.length ≤ 140737488355328 ∧ ((rr.b.length : Int) ≤ 1 + n / 10)) (fun g => .string (bs rr)) (fun g => []) := by
 refine FTi Tryz.func114 fun w0 M0 F0 => ?_
 unfold i64ok at hn_0
 refine KS ?_
 refine Oq Va (KS ?_)
 refine Oq Vm (Oq Vrem (Oq Vm (Oq Vrem (Oq Vadd ?_))))
 have hb1 : (Str.mk [48, 49, 50, 51, 52, 53, 54, 55, 56, 57]).b.length = 10 := rfl
 refine Oq (VslS un9 (l := (Str.mk [48, 49, 50, 51, 52, 53, 54, 55, 56, 57]))) ?_
 have hb2 := sub_len3 (Str.mk [48, 49, 50, 51, 52, 53, 54, 55, 56, 57]) ((n % 10) : Int).toNat (((n % 10) + 1) : Int).toNat
 refine Oq Va (KS ?_)
 refine Oq Vm (Oq Vquo (Oq Va (KS ?_)))
 have hterm10 : r1_Decimal_L0 ((n / 10).toNat + 1) (n / 10) ((Str.mk [48, 49, 50, 51, 52, 53, 54, 55, 56, 57]).sub ((n % 10) : Int).toNat (((n % 10) + 1) : Int).toNat) ≠ LR.oof := (Decimal_term _ _ _ aM1)
 refine Kl (γ := Nat × Int × Str) (fun (r3, n_4, s_5) => ⟨[(3, .string (bs s_5)), (0, vi n_4)], [], r1_Decimal_L0 r3 n_4 s_5 = r1_Decimal_L0 ((n / 10).toNat + 1) (n / 10) ((Str.mk [48, 49, 50, 51, 52, 53, 54, 55, 56, 57]).sub ((n % 10) : Int).toNat (((n % 10) + 1) : Int).toNat) ∧ (-9223372036854775808 ≤ n_4 ∧ n_4 ≤ 9223372036854775807) ∧ s_5.b.length ≤ 140737488355328 ∧ (0 ≤ n_4 ∧ (s_5.b.length : Int) + n_4 ≤ 1 + n / 10), r3⟩) (((n / 10).toNat + 1), (n / 10), ((Str.mk [48, 49, 50, 51, 52, 53, 54, 55, 56, 57]).sub ((n % 10) : Int).toNat (((n % 10) + 1) : Int).toNat)) [] ⟨rfl, aM1, (by first | omega | (simp; done)), iv0⟩ ?_
 rintro ⟨r3, n_4, s_5⟩ ⟨hM6, hk7, hk8, hv9⟩
 refine JJ_nx fun _ _ hL hA => ?_; dsimp only at hL hA; subst hL hA
 rcases r3 with _ | r3
 ·exact absurd (hM6.symm.trans rfl) hterm10
 refine KS ?_
 refine Oq Vm (Oq Vgtr (KS ?_))
 refine Kc ?_ ?_
 ·intro h11
  have g12 := dt h11
  refine KS ?_
  refine Oq Vm (Oq Vrem (Oq Vm (Oq Vrem (Oq Vadd ?_))))
  have hb13 : (Str.mk [48, 49, 50, 51, 52, 53, 54, 55, 56, 57]).b.length = 10 := rfl
  refine Oq (VslS un9 (l := (Str.mk [48, 49, 50, 51, 52, 53, 54, 55, 56, 57]))) ?_
  have hb14 := sub_len3 (Str.mk [48, 49, 50, 51, 52, 53, 54, 55, 56, 57]) ((n_4 % 10) : Int).toNat (((n_4 % 10) + 1) : Int).toNat
  refine Oq Vm ?_
  have hb15 := sadd_len ((Str.mk [48, 49, 50, 51, 52, 53, 54, 55, 56, 57]).sub ((n_4 % 10) : Int).toNat (((n_4 % 10) + 1) : Int).toNat) s_5
  refine Oq (VadS (l := ((Str.mk [48, 49, 50, 51, 52, 53, 54, 55, 56, 57]).sub ((n_4 % 10) : Int).toNat (((n_4 % 10) + 1) : Int).toNat)) (m := s_5)) (Oq Va (KS ?_))
  refine Oq Vm (Oq Vquo (Oq Va (KS ?_)))
  exact Kg (r3, (n_4 / 10), (((Str.mk [48, 49, 50, 51, 52, 53, 54, 55, 56, 57]).sub ((n_4 % 10) : Int).toNat (((n_4 % 10) + 1) : Int).toNat) ++ s_5)) [] ⟨(q3 hM6 (by simp only [r1_Decimal_L0, h11, cs4])), aM1, aM1, iv1⟩
 intro h11
 have g16 := df h11
 refine Ke ?_
 have hR17 := q2 hM6 (.brk s_5) (by simp only [r1_Decimal_L0, h11, cs4])
 refine KS ?_
 refine Oq Vm (Oq Va (KS ?_))
 have hq := q4 hrr s_5 (by simp only [r1_Decimal, h11, hR17, cs4]); subst hq
 exact Kr () rfl (.tmp rfl .nil) [] en
theorem fn98 (p : GProgram) (pa0 : Option Addr) (pk0 : Nat) (n : GNode) (hn_0 : i64ok n.Kind) (hn_1 : i64ok n.Func) (hn_2 : i64ok n.Block) (hn_3 : i64ok n.Stmt) (rr : Str) (hrr : r7_Label p n = rr) : FT Tryz.prog 98 #[.agg #[vl pa0 pk0 p.Funcs], .agg #[vi n.Kind, vi n.Func, vi n.Block, vi n.Stmt]] [S pa0 pk0 p.Funcs] (fun g : Unit => rr.b.length ≤ 140737488355328 ∧ (rr.b.length ≤ 5000)) (fun g => .string (bs rr)) (fun g => []) := by
 refine FTi Tryz.func98 fun w0 M0 F0 => ?_
 unfold i64ok at hn_0 hn_1 hn_2 hn_3
 refine Fb 40 0 fun _ => KS ?_
 refine Oa (Ab [vl pa0 pk0 p.Funcs]) fun p2 => Oa (Ab [vi n.Kind, vi n.Func, vi n.Block, vi n.Stmt]) fun p3 => Oq Va (KS ?_)
 refine Oq (VldA sh25 1) (Oq (VldA sh63 0) ?_)
 refine letv (r7_Find p n) fun rv4 hg5 => ?_
 have hc6 := fn63 p pa0 pk0 n pre pre pre pre rv4 hg5
 refine Oc [2] ca63 hc6 ?_
 rintro - ⟨he7, he8⟩
 unfold i64ok at he7
 refine Oq Vlss (KS ?_)
 refine Kc ?_ ?_
 ·intro h9
  have g10 := dt h9
  refine KS ?_
  refine Oq Va (KS ?_)
  have hq := q4 hrr (Str.mk []) (by simp only [r7_Label, h9, hg5, cs4]); subst hq
  exact Kr () rfl (.tmp rfl .nil) [] en
 intro h9
 have g11 := df h9
 have hN0 := Find7_in (by assumption) h9
 have hsm := Valid_SmP hN0.2
 obtain ⟨hN1, hN2⟩ := hN0.1
 have hf1 := (SmP_f hsm n.Func.toNat).1
 have hb1 := ((SmP_f hsm n.Func.toNat).2 n.Block.toNat aM1).1
 refine KS ?_
 refine Oq (Vfa fo25_0 1) (Oq (VldF sh23 1) (Oq (Vfa fo63_1 0) (Oq (VldF sh3 0) (Oq (Vi sl23 2) ?_))))
 refine JJ_peek_GFunc n.Func.toNat 2 rfl rng fun a12 k13 hb14 => ?_
 refine Fb 40 1 fun _ => ?_
 refine Oq (VldA sh31 0) (Oa (Al ze31 [.string (bs (Str.mk [])), .slice none 0 0]) fun p16 => Ost (Scl [0] sh31 [.string (bs ((p.Funcs.getD n.Func.toNat default).Name)), vl a12 k13 ((p.Funcs.getD n.Func.toNat default).Blocks)]) (KS ?_))
 refine Oq (Vfa fo63_0 3) (Oq (VldF sh3 3) (KS ?_))
 refine Oq Veql (Oq Va (KS ?_))
 refine Kc ?_ ?_
 ·intro h17
  have g18 := eq_of_beq h17
  refine KS ?_
  refine Oq (Vfa fo31_0 0) (Oq (VldF sh9 0) ?_)
  have hb19 := sadd_len ((p.Funcs.getD n.Func.toNat default).Name) (Str.mk [46, 101, 110, 116, 114, 121])
  have hb20 : (Str.mk [46, 101, 110, 116, 114, 121]).b.length = 6 := rfl
  refine Oq (VadS (l := (p.Funcs.getD n.Func.toNat default).Name) (m := (Str.mk [46, 101, 110, 116, 114, 121]))) (Oq Va (KS ?_))
  have hq := q4 hrr ((p.Funcs.getD n.Func.toNat default).Name ++ (Str.mk [46, 101, 110, 116, 114, 121])) (by simp only [r7_Label, h9, h17, hg5, cs4]); subst hq
  exact Kr () rfl (.tmp rfl .nil) [] en
 intro h17
 have g21 := ne_of_beq_false h17
 refine KS ?_
 refine Oq Veql (Oq Va (KS ?_))
 refine Kc ?_ ?_
 ·intro h22
  have g23 := eq_of_beq h22
  refine KS ?_
  refine Oq (Vfa fo31_0 0) (Oq (VldF sh9 0) ?_)
  have hb24 := sadd_len ((p.Funcs.getD n.Func.toNat default).Name) (Str.mk [46, 101, 120, 105, 116])
  have hb25 : (Str.mk [46, 101, 120, 105, 116]).b.length = 5 := rfl
  refine Oq (VadS (l := (p.Funcs.getD n.Func.toNat default).Name) (m := (Str.mk [46, 101, 120, 105, 116]))) (Oq Va (KS ?_))
  have hq := q4 hrr ((p.Funcs.getD n.Func.toNat default).Name ++ (Str.mk [46, 101, 120, 105, 116])) (by simp only [r7_Label, h9, h17, h22, hg5, cs4]); subst hq
  exact Kr () rfl (.tmp rfl .nil) [] en
 intro h22
 have g26 := ne_of_beq_false h22
 have hN3 := hN2 (by assumption) (by simpa using h22)
 refine KS ?_
 refine Oq Veql (Oq Va (KS ?_))
 refine Kc ?_ ?_
 ·intro h27
  have g28 := eq_of_beq h27
  refine KS ?_
  refine Jp 0 fun hp29 => ?_
  refine JJ_peek_GBlock n.Block.toNat 3 rfl rng fun a30 k31 hb32 => ?_
  refine Fb 72 1 fun _ => ?_
  refine JK_drawK [0, 1, 3, 0, 8, 0, 32, 120, 248, 504, 1023, 2047, 0, 4096, 12288, 32767, 65535, 131071] fmix ?_
  refine Dv [2] (Vfa fo31_0 0) (Dv [3] (VldF sh9 0) ?_)
  have hb34 := sadd_len ((p.Funcs.getD n.Func.toNat default).Name) (Str.mk [46])
  have hb35 : (Str.mk [46]).b.length = 1 := rfl
  refine Dv [] (VadS (l := (p.Funcs.getD n.Func.toNat default).Name) (m := (Str.mk [46]))) (Dv [2] (Vfa fo31_1 0) (Dv [3] (VldF sh29 0) (Dv [6] (Vfa fo63_2 0) (Dv [6] (VldF sh3 0) (Dv [5] (Vi sl29 0) (Dv [0] (Vfa fo34_0 0) (Dv [0] (VldF sh9 0) ?_)))))))
  have hb36 := sadd_len ((p.Funcs.getD n.Func.toNat default).Name ++ (Str.mk [46])) ((((p.Funcs.getD n.Func.toNat default).Blocks).getD n.Block.toNat default).Name)
  refine Dv [] (VadS (l := ((p.Funcs.getD n.Func.toNat default).Name ++ (Str.mk [46]))) (m := (((p.Funcs.getD n.Func.toNat default).Blocks).getD n.Block.toNat default).Name)) ?_
  have hb37 := sadd_len (((p.Funcs.getD n.Func.toNat default).Name ++ (Str.mk [46])) ++ (((p.Funcs.getD n.Func.toNat default).Blocks).getD n.Block.toNat default).Name) (Str.mk [46])
  have hb38 : (Str.mk [46]).b.length = 1 := rfl
  refine Dv [] (VadS (l := (((p.Funcs.getD n.Func.toNat default).Name ++ (Str.mk [46])) ++ (((p.Funcs.getD n.Func.toNat default).Blocks).getD n.Block.toNat default).Name)) (m := (Str.mk [46]))) (Dv [6] (Vfa fo63_3 0) (Dv [6] (VldF sh3 0) ?_))
  refine letv (r1_Decimal n.Stmt) fun rv39 hg40 => ?_
  have hI := Dec_len hg40 aM1
  refine Dx [] [] [0] (fun G => .string (bs rv39)) [fun G => SP.fact (rv39.b.length ≤ 140737488355328 ∧ ((rv39.b.length : Int) ≤ 1 + n.Stmt / 10))] (fun G => xC [] ca114 (fn114 n.Stmt pre pre rv39 hg40)) ?_
  have hb41 := sadd_len ((((p.Funcs.getD n.Func.toNat default).Name ++ (Str.mk [46])) ++ (((p.Funcs.getD n.Func.toNat default).Blocks).getD n.Block.toNat default).Name) ++ (Str.mk [46])) rv39
  refine Dv [] (VadS (l := ((((p.Funcs.getD n.Func.toNat default).Name ++ (Str.mk [46])) ++ (((p.Funcs.getD n.Func.toNat default).Blocks).getD n.Block.toNat default).Name) ++ (Str.mk [46]))) (m := rv39)) ?_
  have hb42 := sadd_len (((((p.Funcs.getD n.Func.toNat default).Name ++ (Str.mk [46])) ++ (((p.Funcs.getD n.Func.toNat default).Blocks).getD n.Block.toNat default).Name) ++ (Str.mk [46])) ++ rv39) (Str.mk [43])
  have hb43 : (Str.mk [43]).b.length = 1 := rfl
  refine Dv [] (VadS (l := (((((p.Funcs.getD n.Func.toNat default).Name ++ (Str.mk [46])) ++ (((p.Funcs.getD n.Func.toNat default).Blocks).getD n.Block.toNat default).Name) ++ (Str.mk [46])) ++ rv39)) (m := (Str.mk [43]))) (Dv [] Va ?_)
  refine Dn ⟨by kernel_rfl, fun G => ?_⟩
  refine Jw2 [(4, .string (bs ((((((p.Funcs.getD n.Func.toNat default).Name ++ (Str.mk [46])) ++ (((p.Funcs.getD n.Func.toNat default).Blocks).getD n.Block.toNat default).Name) ++ (Str.mk [46])) ++ rv39) ++ (Str.mk [43]))))] [0, 1, 2, 3, 4, 5, 6, 7, 8] [SP.fact (rv39.b.length ≤ 140737488355328 ∧ ((rv39.b.length : Int) ≤ 1 + n.Stmt / 10))] ?_
  refine Jf 9 rfl ?_; rintro ⟨he44, he45⟩
  refine Jk [0, 1, 3, 3, 4, 5, 6, 7] ?_
  have hq := q4 hrr ((((((p.Funcs.getD n.Func.toNat default).Name ++ (Str.mk [46])) ++ (((p.Funcs.getD n.Func.toNat default).Blocks).getD n.Block.toNat default).Name) ++ (Str.mk [46])) ++ rv39) ++ (Str.mk [43])) (by simp only [r7_Label, h9, h17, h22, h27, hg5, hg40, cs4]); subst hq
  exact Kr () rfl (.tmp rfl .nil) [] en
 intro h27
 have g46 := ne_of_beq_false h27
 refine KS ?_
 refine Jp 0 fun hp47 => ?_
 refine JJ_peek_GBlock n.Block.toNat 3 rfl rng fun a48 k49 hb50 => ?_
 refine Fb 72 1 fun _ => ?_
 refine JK_drawK [0, 1, 3, 0, 8, 0, 32, 120, 248, 504, 1023, 2047, 0, 4096, 12288, 32767, 65535] fmix ?_
 refine Dv [2] (Vfa fo31_0 0) (Dv [3] (VldF sh9 0) ?_)
 have hb52 := sadd_len ((p.Funcs.getD n.Func.toNat default).Name) (Str.mk [46])
 have hb53 : (Str.mk [46]).b.length = 1 := rfl
 refine Dv [] (VadS (l := (p.Funcs.getD n.Func.toNat default).Name) (m := (Str.mk [46]))) (Dv [2] (Vfa fo31_1 0) (Dv [3] (VldF sh29 0) (Dv [6] (Vfa fo63_2 0) (Dv [6] (VldF sh3 0) (Dv [5] (Vi sl29 0) (Dv [0] (Vfa fo34_0 0) (Dv [0] (VldF sh9 0) ?_)))))))
 have hb54 := sadd_len ((p.Funcs.getD n.Func.toNat default).Name ++ (Str.mk [46])) ((((p.Funcs.getD n.Func.toNat default).Blocks).getD n.Block.toNat default).Name)
 refine Dv [] (VadS (l := ((p.Funcs.getD n.Func.toNat default).Name ++ (Str.mk [46]))) (m := (((p.Funcs.getD n.Func.toNat default).Blocks).getD n.Block.toNat default).Name)) ?_
 have hb55 := sadd_len (((p.Funcs.getD n.Func.toNat default).Name ++ (Str.mk [46])) ++ (((p.Funcs.getD n.Func.toNat default).Blocks).getD n.Block.toNat default).Name) (Str.mk [46])
 have hb56 : (Str.mk [46]).b.length = 1 := rfl
 refine Dv [] (VadS (l := (((p.Funcs.getD n.Func.toNat default).Name ++ (Str.mk [46])) ++ (((p.Funcs.getD n.Func.toNat default).Blocks).getD n.Block.toNat default).Name)) (m := (Str.mk [46]))) (Dv [6] (Vfa fo63_3 0) (Dv [6] (VldF sh3 0) ?_))
 refine letv (r1_Decimal n.Stmt) fun rv57 hg58 => ?_
 have hI := Dec_len hg58 aM1
 refine Dx [] [] [0] (fun G => .string (bs rv57)) [fun G => SP.fact (rv57.b.length ≤ 140737488355328 ∧ ((rv57.b.length : Int) ≤ 1 + n.Stmt / 10))] (fun G => xC [] ca114 (fn114 n.Stmt pre pre rv57 hg58)) ?_
 have hb59 := sadd_len ((((p.Funcs.getD n.Func.toNat default).Name ++ (Str.mk [46])) ++ (((p.Funcs.getD n.Func.toNat default).Blocks).getD n.Block.toNat default).Name) ++ (Str.mk [46])) rv57
 refine Dv [] (VadS (l := ((((p.Funcs.getD n.Func.toNat default).Name ++ (Str.mk [46])) ++ (((p.Funcs.getD n.Func.toNat default).Blocks).getD n.Block.toNat default).Name) ++ (Str.mk [46]))) (m := rv57)) (Dv [] Va ?_)
 refine Dn ⟨by kernel_rfl, fun G => ?_⟩
 refine Jw2 [(4, .string (bs (((((p.Funcs.getD n.Func.toNat default).Name ++ (Str.mk [46])) ++ (((p.Funcs.getD n.Func.toNat default).Blocks).getD n.Block.toNat default).Name) ++ (Str.mk [46])) ++ rv57)))] [0, 1, 2, 3, 4, 5, 6, 7, 8] [SP.fact (rv57.b.length ≤ 140737488355328 ∧ ((rv57.b.length : Int) ≤ 1 + n.Stmt / 10))] ?_
 refine Jf 9 rfl ?_; rintro ⟨he60, he61⟩
 refine Jk [0, 1, 3, 3, 4, 5, 6, 7] ?_
 have hq := q4 hrr (((((p.Funcs.getD n.Func.toNat default).Name ++ (Str.mk [46])) ++ (((p.Funcs.getD n.Func.toNat default).Blocks).getD n.Block.toNat default).Name) ++ (Str.mk [46])) ++ rv57) (by simp only [r7_Label, h9, h17, h22, h27, hg5, hg58, cs4]); subst hq
 exact Kr () rfl (.tmp rfl .nil) [] en
theorem fn66 (p : GProgram) (pa0 : Option Addr) (pk0 : Nat) (f : GFact) (hf_0 : i64ok f.Node) (hf_1 : i64ok f.Var) (hf0 : FIn p f) (rr : Str) (hrr : r7_FactText p f = rr) : FT Tryz.prog 66 #[.agg #[vl pa0 pk0 p.Funcs], .agg #[vi f.Node, vi f.Var]] [S pa0 pk0 p.Funcs] (fun g : Unit => rr.b.length ≤ 140737488355328 ∧ (rr.b.length ≤ 6001)) (fun g => .string (bs rr)) (fun g => []) := by
 refine FTi Tryz.func66 fun w0 M0 F0 => ?_
 unfold i64ok at hf_0 hf_1
 refine Fb 40 0 fun _ => ?_
 unfold FIn at hf0
 refine KS ?_
 refine Oa (Ab [vl pa0 pk0 p.Funcs]) fun p2 => Oa (Ab [vi f.Node, vi f.Var]) fun p3 => Oq Va (KS ?_)
 refine JK_drawK [0, 1, 0, 4, 15, 31, 63] fmix ?_
 refine Dv [1] (VldA sh25 0) ?_
 refine letv (r4_Variables p) fun rv5 hg6 => ?_
 have hVV := Vars_len hg6
 have hvl := congrArg List.length hg6
 have hw := hVV _ (getD_mem (xs := rv5) (i := f.Var.toNat) (d := default) aM1)
 refine Dx [2] [] [2, 0, 1] (fun G => (G.g 1 0)) [fun G => SP.fact (True), fun G => sl (G.g 1 0) rv5] (fun G => xC [0] ca8 (fn8 p pa0 pk0 rv5 hg6)) (Dv [0] (Vfa fo49_1 0) (Dv [0] (VldF sh3 0) (Dg [4] (fun G => (eptr 1 ((G.g 1 0)) f.Var.toNat)) (fun G => Vi sl35 0) (Dv [4] (VldS sh9 0) (Dv [] Va ?_)))))
 refine Dn ⟨by kernel_rfl, fun G => ?_⟩
 refine Jw2 [(2, p2), (3, p3), (5, .string (bs (rv5.getD f.Var.toNat default)))] [0, 1, 2] [SP.fact (True), sl (G.g 1 0) rv5] ?_
 generalize G.g 1 0 = c4
 refine Jk [0, 1, 2, 4] ?_
 refine Jo 3 ?_; rintro a7 k8 rfl
 refine Fb 16 3 fun _ => ?_
 refine FoS 3 fun ho10 => ?_
 refine KS ?_
 refine Oq (Vfa fo49_0 0) (Oq (VldF sh3 0) (Oq Vgeq (KS ?_)))
 refine Kc ?_ ?_
 ·intro h11
  have g12 := dt h11
  refine JK_drawK [0, 0, 0, 4, 0, 16, 60, 124, 254, 510, 1023, 2047] fmix ?_
  refine Dv [] Vm (Dv [1] (VldA sh25 0) (Dv [1] (VldA sh25 0) ?_))
  refine letv (r7_List p) fun rv14 hg15 => ?_
  have hvn := congrArg List.length hg15
  have hnk := List7_ok hg15 _ (getD_mem (xs := rv14) (i := f.Node.toNat) (d := default) aM1)
  refine Dx [2] [] [2, 0, 1] (fun G => (G.g 3 0)) [fun G => SP.fact ((rv14.length ≤ 20000)), fun G => sl (G.g 3 0) rv14] (fun G => xC [0] ca30 (fn30 p pa0 pk0 rv14 hg15)) (Dv [0] (Vfa fo49_0 0) (Dv [0] (VldF sh3 0) ?_))
  refine Dx [4, 5] [] [0, 1] (fun G => (eptr 4 ((G.g 3 0)) f.Node.toNat)) [] (fun G => by refine xf 0 rfl ?_; rintro he16; exact xV (Vi sl71 1)) (Dv [5] (VldE sh63 0 [vi ((rv14.getD f.Node.toNat default).Kind), vi ((rv14.getD f.Node.toNat default).Func), vi ((rv14.getD f.Node.toNat default).Block), vi ((rv14.getD f.Node.toNat default).Stmt)]) ?_)
  refine letv (r7_Label p (rv14.getD f.Node.toNat default)) fun rv17 hg18 => ?_
  have hll := Label7_len hg18
  refine Dx [2] [] [1, 0] (fun G => .string (bs rv17)) [fun G => SP.fact (rv17.b.length ≤ 140737488355328 ∧ (rv17.b.length ≤ 5000))] (fun G => xC [0] ca98 (fn98 p pa0 pk0 ((rv14.getD f.Node.toNat default)) (hnk.1) (hnk.2.1) (hnk.2.2.1) (hnk.2.2.2) rv17 hg18)) ?_
  have hb19 := sadd_len (Str.mk [64]) rv17
  have hb20 : (Str.mk [64]).b.length = 1 := rfl
  refine Dv [] (VadS (l := (Str.mk [64])) (m := rv17)) ?_
  have hb21 := sadd_len (rv5.getD f.Var.toNat default) ((Str.mk [64]) ++ rv17)
  refine Dv [] (VadS (l := (rv5.getD f.Var.toNat default)) (m := ((Str.mk [64]) ++ rv17))) (Dv [] Va ?_)
  refine Dn ⟨by kernel_rfl, fun G => ?_⟩
  refine Jw2 [(5, .string (bs ((rv5.getD f.Var.toNat default) ++ ((Str.mk [64]) ++ rv17))))] [0, 1, 2, 3] [SP.fact ((rv14.length ≤ 20000)), sl (G.g 3 0) rv14, SP.fact (rv17.b.length ≤ 140737488355328 ∧ (rv17.b.length ≤ 5000))] ?_
  generalize G.g 3 0 = c13
  refine Jf 4 rfl ?_; rintro he22
  refine Jf 6 rfl ?_; rintro ⟨he23, he24⟩
  refine Jk [0, 1, 2, 3, 5] ?_
  refine Jo 4 ?_; rintro a25 k26 rfl
  refine Fb 32 4 fun _ => KS ?_
  refine Oq Vm (Oq Va (KS ?_))
  have hq := q4 hrr ((rv5.getD f.Var.toNat default) ++ ((Str.mk [64]) ++ rv17)) (by simp only [r7_FactText, h11, hg6, hg15, hg18, cs4]); subst hq
  exact Kr () rfl (.tmp rfl .nil) [] en
 intro h11
 have g28 := df h11
 refine KS ?_
 refine Oq Vm (Oq Va (KS ?_))
 have hq := q4 hrr (rv5.getD f.Var.toNat default) (by simp only [r7_FactText, h11, hg6, cs4]); subst hq
 exact Kr () rfl (.tmp rfl .nil) [] en
theorem fn33 (p : GProgram) (pa0 : Option Addr) (pk0 : Nat) (kind : Int) (s : GSet) (sa1 : Option Addr) (sk1 : Nat) (hkind_0 : i64ok kind) (hs_0 : i64ok s.Width) (rr : Str × Int) (hrr : r7_Text p kind s = rr) : FT Tryz.prog 33 #[.agg #[vl pa0 pk0 p.Funcs], vi kind, .agg #[vi s.Width, vl sa1 sk1 s.Words]] [S pa0 pk0 p.Funcs, S sa1 sk1 s.Words] (fun g : Unit => rr.1.b.length ≤ 140737488355328 ∧ i64ok rr.2 ∧ (rr.1.b.length ≤ 100000000)) (fun g => .tuple #[.string (bs rr.1), vi rr.2]) (fun g => []) := by
 refine FTi Tryz.func33 fun w0 M0 F0 => ?_
 unfold i64ok at hkind_0 hs_0
 refine Fb 40 0 fun _ => Fb 8 1 fun _ => KS ?_
 refine Oa (Ab [vl pa0 pk0 p.Funcs]) fun p3 => Oa (Ab [vi s.Width, vl sa1 sk1 s.Words]) fun p4 => Oq Va (Oq Va (KS ?_))
 refine Oq (VldA sh25 1) (Oq Vm ?_)
 refine letv (r7_Facts p kind) fun rv6 hg7 => ?_
 have hFL := (Facts_ok hg7).2
 have hc8 := fn10 p pa0 pk0 kind pre rv6 hg7
 refine Oc [2] ca10 hc8 ?_
 rintro c5 ⟨he9, he10⟩
 unfold i64ok at he9
 refine Jo 0 ?_; rintro a11 k12 rfl
 refine Fb 16 0 fun _ => ?_
 refine Oq Vm (Oq Vx (Oq Vx (Oq Va (Oq Va (KS ?_)))))
 refine Oq Vm (Oq Vneq (KS ?_))
 refine Kc ?_ ?_
 ·intro h14
  have g15 := ne_of_bne h14
  refine KS ?_
  refine Oq Vm (Oq Va (Oq Va (KS ?_)))
  have hq := q4 hrr ((Str.mk []), rv6.2) (by simp only [r7_Text, h14, hg7, cs4]); subst hq
  exact Kr () rfl (.tmp rfl (.tmp rfl .nil)) [] en
 intro h14
 have g16 := eq_of_bne_false h14
 refine KS ?_
 refine Oq (VldA sh47 1) ?_
 refine letv (r1_Valid s) fun rv17 hg18 => ?_
 have hc19 := fn64 s sa1 sk1 pre rv17 hg18
 refine Oc [4] ca64 hc19 ?_
 rintro - -
 refine Oq Vnot (KS ?_)
 refine Kc ?_ ?_
 ·intro h20
  have h22 := not_true h20
  refine KS ?_
  refine Oq Va (Oq Va (KS ?_))
  have hq := q4 hrr ((Str.mk []), 1) (by simp only [r7_Text, h14, h20, h22, hg7, hg18, cs4]); subst hq
  exact Kr () rfl (.tmp rfl (.tmp rfl .nil)) [] en
 intro h20
 have h25 := not_false h20
 refine KS ?_
 refine Oq (Vfa fo47_0 1) (Oq (VldF sh3 1) (Oq Vm (Oq (Vlen sl38) (Oq Vneq (KS ?_)))))
 refine Kc ?_ ?_
 ·intro h27
  have g28 := ne_of_bne h27
  refine KS ?_
  refine Oq Va (Oq Va (KS ?_))
  have hq := q4 hrr ((Str.mk []), 2) (by simp only [r7_Text, h14, h20, h25, h27, hg7, hg18, cs4]); subst hq
  exact Kr () rfl (.tmp rfl (.tmp rfl .nil)) [] en
 intro h27
 have g29 := eq_of_bne_false h27
 refine KS ?_
 refine Oq Va (KS ?_)
 refine Oq (VldA sh47 1) ?_
 refine letv (r1_Members s) fun rv31 hg32 => ?_
 have hMM := rMem_rng hg32
 have hc33 := fn65 s sa1 sk1 pre rv31 hg32
 refine Oc [4] ca65 hc33 ?_
 rintro c30 -
 refine Jo 0 ?_; rintro a34 k35 rfl
 refine Fb 8 0 fun _ => Fo 0 fun ho37 => ?_
 refine Oq Va (KS ?_)
 refine Oq Va (KS ?_)
 refine Kl (γ := Nat × Str × Int) (fun (r38, out_39, i_40) => ⟨[(3, p3), (8, vl a11 k12 rv6.1), (10, .string (bs out_39)), (11, vl a34 k35 rv31), (12, vi i_40)], [S a34 k35 rv31, S a11 k12 rv6.1, pv p3 [vl pa0 pk0 p.Funcs], S pa0 pk0 p.Funcs], r7_Text_L0 p rv6.1 rv31 r38 out_39 i_40 = r7_Text_L0 p rv6.1 rv31 (((rv31.length : Int) - 0).toNat) (Str.mk []) 0 ∧ r38 = ((rv31.length : Int) - i_40).toNat ∧ (0 : Int) ≤ i_40 ∧ i_40 ≤ (rv31.length : Int) ∧ out_39.b.length ≤ 140737488355328 ∧ (-9223372036854775808 ≤ i_40 ∧ i_40 ≤ 9223372036854775807) ∧ ((out_39.b.length : Int) ≤ 6002 * i_40), r38⟩) (((rv31.length : Int) - 0).toNat, (Str.mk []), 0) [0, 1, 3, 4] ⟨rfl, rfl, aM1, aM1, (by first | omega | (simp; done)), aM1, iv0⟩ ?_
 rintro ⟨r38, out_39, i_40⟩ ⟨hM41, hr42, hi43, hi44, hk45, hk46, hv47⟩
 refine JJ_nx fun _ _ hL hA => ?_; dsimp only at hL hA; subst hL hA
 refine Fb 8 0 fun _ => Fo 0 fun ho49 => Fb 16 1 fun _ => Fb 40 3 fun _ => KS ?_
 refine Oq Vm (Oq Vm (Oq (Vlen sl22) (Oq Vlss (KS ?_))))
 refine Kc ?_ ?_
 ·intro h52
  have g53 := dt h52
  have hb := hMM.2 _ (getD_mem (xs := rv31) (i := i_40.toNat) (d := 0) aM1)
  have hf := hFL _ (getD_mem (xs := rv6.1) (i := ((rv31.getD i_40.toNat 0) : Int).toNat) (d := default) aM1)
  obtain ⟨r54, rfl⟩ := scc (n := r38) aM1
  refine KS ?_
  refine Oq Vm (Oq Vgtr (KS ?_))
  refine Kc ?_ ?_
  ·intro h55
   have g56 := dt h55
   refine KS ?_
   refine Oq Vm ?_
   have hb57 := sadd_len out_39 (Str.mk [32])
   have hb58 : (Str.mk [32]).b.length = 1 := rfl
   refine Oq (VadS (l := out_39) (m := (Str.mk [32]))) (Oq Va (KS ?_))
   refine JJ_peek_GFact ((rv31.getD i_40.toNat 0) : Int).toNat 1 rfl rng fun hb59 hb60 => ?_
   unfold i64ok at hb59 hb60
   refine JK_drawK [0, 0, 0, 0, 0, 24, 56, 124, 252, 510, 1023, 2047] fmix ?_
   refine Dv [] Vm (Dv [3] (VldA sh25 0) (Dv [] Vm (Dv [] Vm (Dv [] Vm (Dv [1] (Vi sl22 0) ?_)))))
   have hb61 := ok1 (i := i_40.toNat) ho49 rng
   refine Dv [1] (VldI sh3 0) (Dv [2] (Vi sl38 0) (Dv [0] (VldA sh49 0) ?_))
   refine letv (r7_FactText p (rv6.1.getD ((rv31.getD i_40.toNat 0) : Int).toNat default)) fun rv62 hg63 => ?_
   have htl := FactText_len hf hg63
   refine Dx [4] [] [1, 0] (fun G => .string (bs rv62)) [fun G => SP.fact (rv62.b.length ≤ 140737488355328 ∧ (rv62.b.length ≤ 6001))] (fun G => xC [0] ca66 (fn66 p pa0 pk0 ((rv6.1.getD ((rv31.getD i_40.toNat 0) : Int).toNat default)) pre pre hf rv62 hg63)) ?_
   have hb64 := sadd_len (out_39 ++ (Str.mk [32])) rv62
   refine Dv [] (VadS (l := (out_39 ++ (Str.mk [32]))) (m := rv62)) (Dv [] Va ?_)
   refine Dn ⟨by kernel_rfl, fun G => ?_⟩
   refine Jw2 [(3, p3), (8, vl a11 k12 rv6.1), (11, vl a34 k35 rv31), (12, vi i_40), (10, .string (bs ((out_39 ++ (Str.mk [32])) ++ rv62)))] [0, 1, 2, 3, 4] [SP.fact (rv62.b.length ≤ 140737488355328 ∧ (rv62.b.length ≤ 6001))] ?_
   refine Jf 5 rfl ?_; rintro ⟨he65, he66⟩
   refine Jk [0, 1, 2, 3, 4] ?_
   refine KS ?_
   refine Oq Vm (Oq Vadd (Oq Va (KS ?_)))
   exact Kg (r54, ((out_39 ++ (Str.mk [32])) ++ rv62), (i_40 + 1)) [1, 2, 3, 4] ⟨(q3 hM41 (by simp only [r7_Text_L0, h52, h55, hg63, cs4])), aM1, aM1, aM1, aM1, aM1, iv1⟩
  intro h55
  have g67 := df h55
  refine KS ?_
  refine JJ_peek_GFact ((rv31.getD i_40.toNat 0) : Int).toNat 1 rfl rng fun hb68 hb69 => ?_
  unfold i64ok at hb68 hb69
  refine JK_drawK [0, 0, 0, 0, 0, 24, 56, 124, 252, 510, 1023, 2047] fmix ?_
  refine Dv [] Vm (Dv [3] (VldA sh25 0) (Dv [] Vm (Dv [] Vm (Dv [] Vm (Dv [1] (Vi sl22 0) ?_)))))
  have hb70 := ok1 (i := i_40.toNat) ho49 rng
  refine Dv [1] (VldI sh3 0) (Dv [2] (Vi sl38 0) (Dv [0] (VldA sh49 0) ?_))
  refine letv (r7_FactText p (rv6.1.getD ((rv31.getD i_40.toNat 0) : Int).toNat default)) fun rv71 hg72 => ?_
  have htl := FactText_len hf hg72
  refine Dx [4] [] [1, 0] (fun G => .string (bs rv71)) [fun G => SP.fact (rv71.b.length ≤ 140737488355328 ∧ (rv71.b.length ≤ 6001))] (fun G => xC [0] ca66 (fn66 p pa0 pk0 ((rv6.1.getD ((rv31.getD i_40.toNat 0) : Int).toNat default)) pre pre hf rv71 hg72)) ?_
  have hb73 := sadd_len out_39 rv71
  refine Dv [] (VadS (l := out_39) (m := rv71)) (Dv [] Va ?_)
  refine Dn ⟨by kernel_rfl, fun G => ?_⟩
  refine Jw2 [(3, p3), (8, vl a11 k12 rv6.1), (11, vl a34 k35 rv31), (12, vi i_40), (10, .string (bs (out_39 ++ rv71)))] [0, 1, 2, 3, 4] [SP.fact (rv71.b.length ≤ 140737488355328 ∧ (rv71.b.length ≤ 6001))] ?_
  refine Jf 5 rfl ?_; rintro ⟨he74, he75⟩
  refine Jk [0, 1, 2, 3, 4] ?_
  refine KS ?_
  refine Oq Vm (Oq Vadd (Oq Va (KS ?_)))
  exact Kg (r54, (out_39 ++ rv71), (i_40 + 1)) [1, 2, 3, 4] ⟨(q3 hM41 (by simp only [r7_Text_L0, h52, h55, hg72, cs4])), aM1, aM1, aM1, aM1, aM1, iv1⟩
 intro h52
 have g76 := df h52
 obtain rfl : r38 = 0 := by omega
 refine Ke ?_
 have hR77 := q2 hM41 out_39 (by simp only [r7_Text_L0, h52, cs4])
 refine KS ?_
 refine Oq Vm (Oq Va (Oq Va (KS ?_)))
 have hq := q4 hrr (out_39, 0) (by simp only [r7_Text, h14, h20, h25, h27, h52, hg7, hg18, hg32, hR77, cs4]); subst hq
 exact Kr () rfl (.tmp rfl (.tmp rfl .nil)) [] en
theorem fn67 (s : List GFact) (sa0 : Option Addr) (sk0 : Nat) (v : GFact) (hv_0 : i64ok v.Node) (hv_1 : i64ok v.Var) (rr : Int) (hrr : sc_Index_Fact s v = rr) : FT Tryz.prog 67 #[vl sa0 sk0 s, .agg #[vi v.Node, vi v.Var]] [S sa0 sk0 s] (fun g : Unit => i64ok rr) (fun g => vi rr) (fun g => []) := by
 refine FTi Tryz.func67 fun w0 M0 F0 => ?_
 unfold i64ok at hv_0 hv_1
 refine Fb 16 0 fun _ => KS ?_
 refine Oa (Ab [vi v.Node, vi v.Var]) fun p2 => Oq Va (KS ?_)
 refine Oq Vm (Oq (Vlen sl38) (Oq Vm (KS ?_)))
 refine Kl (γ := Nat × Int) (fun (r3, v8_4) => ⟨[(0, vl sa0 sk0 s), (3, p2), (7, vi (s.length : Int)), (8, vi v8_4)], [pv p2 [vi v.Node, vi v.Var], S sa0 sk0 s], sc_Index_Fact_L0 s v r3 v8_4 = sc_Index_Fact_L0 s v (((s.length : Int) - 0).toNat) 0 ∧ r3 = ((s.length : Int) - v8_4).toNat ∧ (0 : Int) ≤ v8_4 ∧ v8_4 ≤ (s.length : Int) ∧ (-9223372036854775808 ≤ v8_4 ∧ v8_4 ≤ 9223372036854775807), r3⟩) (((s.length : Int) - 0).toNat, 0) [0, 1] ⟨rfl, rfl, aM1, aM1, aM1⟩ ?_
 rintro ⟨r3, v8_4⟩ ⟨hM5, hr6, hi7, hi8, hk9⟩
 refine JJ_nx fun _ _ hL hA => ?_; dsimp only at hL hA; subst hL hA
 refine Fb 16 1 fun _ => KS ?_
 refine Oq Vlss (KS ?_)
 refine Kc ?_ ?_
 ·intro h11
  have g12 := dt h11
  obtain ⟨r13, rfl⟩ := scc (n := r3) aM1
  refine KS ?_
  refine Oq Vm (Oq Va (KS ?_))
  refine JJ_peek_GFact v8_4.toNat 1 rfl rng fun hb14 hb15 => ?_
  unfold i64ok at hb14 hb15
  refine Kq [0, 0, 0, 6, 14, 31] fmix ?_
  refine Qv [1] (VldA sh49 0) (Qv [] Vm (Qv [] Vm (Qv [2] (Vi sl38 0) (Qv [0] (VldA sh49 0) (Qv [] (VeqA eqi49 (l := [v.Node, v.Var]) (m := [(s.getD v8_4.toNat default).Node, (s.getD v8_4.toNat default).Var])) ?_)))))
  refine Qn ⟨by kernel_rfl, ?_⟩
  refine Kc ?_ ?_
  ·intro h16
   have g17 := eq_of_beq h16
   refine KS ?_
   refine Oq Vm (Oq Va (KS ?_))
   have hR18 := q2 hM5 (.ret v8_4) (by simp only [sc_Index_Fact_L0, h11, h16, cs4])
   have hq := q4 hrr v8_4 (by simp only [sc_Index_Fact, h11, h16, hR18, cs4]); subst hq
   exact Kr () rfl (.tmp rfl .nil) [] en
  intro h16
  have g19 := ne_of_beq_false h16
  refine KS ?_
  refine Oq Vadd (Oq Vm (KS ?_))
  exact Kg (r13, (v8_4 + 1)) [1, 2] ⟨(q3 hM5 (by simp only [sc_Index_Fact_L0, h11, h16, cs4])), aM1, aM1, aM1, aM1⟩
 intro h11
 have g20 := df h11
 obtain rfl : r3 = 0 := by omega
 refine Ke ?_
 have hR21 := q2 hM5 (.brk ()) (by simp only [sc_Index_Fact_L0, h11, cs4])
 refine KS ?_
 refine Oq Va (KS ?_)
 have hq := q4 hrr (-1) (by simp only [sc_Index_Fact, h11, hR21, cs4]); subst hq
 exact Kr () rfl (.tmp rfl .nil) [] en
theorem fn34 (l : List GFact) (la0 : Option Addr) (lk0 : Nat) (f : GFact) (hf_0 : i64ok f.Node) (hf_1 : i64ok f.Var) (rr : Int) (hrr : fc_Index l f = rr) : FT Tryz.prog 34 #[vl la0 lk0 l, .agg #[vi f.Node, vi f.Var]] [S la0 lk0 l] (fun g : Unit => i64ok rr) (fun g => vi rr) (fun g => []) := by
 refine FTi Tryz.func34 fun w0 M0 F0 => ?_
 unfold i64ok at hf_0 hf_1
 refine Fb 16 0 fun _ => KS ?_
 refine Oa (Ab [vi f.Node, vi f.Var]) fun p2 => Oq Va (KS ?_)
 refine Oq Vm (Oq (VldA sh49 0) ?_)
 refine letv (sc_Index_Fact l f) fun rv3 hg4 => ?_
 have hc5 := fn67 l la0 lk0 f pre pre rv3 hg4
 refine Oc [1] ca67 hc5 ?_
 rintro - he6
 unfold i64ok at he6
 refine Oq Va (KS ?_)
 have hq := q4 hrr rv3 (by simp only [fc_Index, hg4, cs4]); subst hq
 exact Kr () rfl (.tmp rfl .nil) [] en
theorem fn11 (p : GProgram) (pa0 : Option Addr) (pk0 : Nat) (kind : Int) (s : GSet) (sa1 : Option Addr) (sk1 : Nat) (x : GFact) (kwLA : Option Addr) (kwLK : Nat) (hkind_0 : i64ok kind) (hs_0 : i64ok s.Width) (hx_0 : i64ok x.Node) (hx_1 : i64ok x.Var) (hps : PSm p = true) (rr : Bool) (hrr : w9_agrees p kind s x = rr) : FT Tryz.prog 11 #[.agg #[vl pa0 pk0 p.Funcs], vi kind, .agg #[vi s.Width, vl sa1 sk1 s.Words], .agg #[vi x.Node, vi x.Var]] [S pa0 pk0 p.Funcs, S sa1 sk1 s.Words, pv (gp 0) [vl kwLA kwLK kwL], S kwLA kwLK kwL, pv (gp 1) (tabV .u8 tzT)] (fun g : Unit => True) (fun g => vb rr) (fun g => []) := by
 refine FTi Tryz.func11 fun w0 M0 F0 => ?_
 unfold i64ok at hkind_0 hs_0 hx_0 hx_1
 refine Fb 40 0 fun _ => Fb 8 1 fun _ => Fb 16 3 fun _ => ?_
 refine FoS 3 fun ho4 => ?_
 refine KS ?_
 refine Oa (Ab [vl pa0 pk0 p.Funcs]) fun p5 => Oa (Ab [vi s.Width, vl sa1 sk1 s.Words]) fun p6 => Oa (Ab [vi x.Node, vi x.Var]) fun p7 => Oq Va (KS ?_)
 refine Oq (VldA sh25 2) (Oq Vm ?_)
 refine letv (fc_List p kind) fun rv9 hg10 => ?_
 have hc11 := fn7 p pa0 pk0 kind kwLA kwLK pre pre rv9 hg10
 refine Oc [3, 5, 6] ca7 hc11 ?_
 rintro c8 ⟨he12, he13⟩
 unfold i64ok at he12
 refine Jo 0 ?_; rintro a14 k15 rfl
 refine Fb 16 0 fun _ => ?_
 refine Oq Vm (Oq Vx (Oq Vx (Oq Va (Oq Va (KS ?_)))))
 refine Oq (VldA sh25 3) (Oq Vm ?_)
 refine letv (r7_Facts p kind) fun rv18 hg19 => ?_
 have hc20 := fn10 p pa0 pk0 kind pre rv18 hg19
 refine Oc [4] ca10 hc20 ?_
 rintro c17 ⟨he21, he22⟩
 unfold i64ok at he21
 refine Jo 0 ?_; rintro a23 k24 rfl
 refine Fb 16 0 fun _ => ?_
 refine Oq Vm (Oq Vx (Oq Vx (Oq Va (Oq Va (KS ?_)))))
 refine Oq (VldA sh25 4) (Oq Vm (Oq (VldA sh47 3) ?_))
 refine letv (fc_Text p kind s) fun rv26 hg27 => ?_
 have hc28 := fn26 p pa0 pk0 kind s sa1 sk1 kwLA kwLK pre pre pre rv26 hg27
 refine Oc [5, 6, 7, 8, 9] ca26 hc28 ?_
 rintro - ⟨he29, he30⟩
 unfold i64ok at he30
 refine Oq Vm (Oq Vx (Oq Vx (Oq Va (Oq Va (KS ?_)))))
 refine Oq (VldA sh25 4) (Oq Vm (Oq (VldA sh47 3) ?_))
 refine letv (r7_Text p kind s) fun rv31 hg32 => ?_
 have hc33 := fn33 p pa0 pk0 kind s sa1 sk1 pre pre rv31 hg32
 refine Oc [5, 6] ca33 hc33 ?_
 rintro - ⟨he34, he35, he36⟩
 unfold i64ok at he35
 refine Oq Vm (Oq Vx (Oq Vx (Oq Va (Oq Va (KS ?_)))))
 refine Oq Vm (Oq Vm (Oq Vneq (Oq Vm ?_)))
 refine Js 48 ?_ ?_
 ·intro h37
  have g38 := ne_of_bne h37
  refine Osk (Osk (Osk (Osk (Oq Vpt (Oq Vm (Osk (Osk (Osk (Oq Vpt ?_)))))))))
  refine Oq Vm (Osk (Osk (Osk (Oq Vpt (KS ?_)))))
  refine Kt (KS ?_)
  refine Oq Va (KS ?_)
  have hq := q4 hrr false (by simp only [w9_agrees, h37, hg10, hg19, hg27, hg32, cs4]); subst hq
  exact Kr () rfl (.tmp rfl .nil) [] trivial
 intro h37
 have g39 := eq_of_bne_false h37
 refine Oq Vm (Oq Vm ?_)
 refine letv (r7_SameFacts rv9.1 rv18.1) fun rv40 hg41 => ?_
 have hc42 := fn28 rv9.1 a14 k15 rv18.1 a23 k24 rv40 hg41
 refine Oc [1, 0] ca28 hc42 ?_
 rintro - -
 refine Oq Vnot (Oq Vpf (Oq Vm ?_))
 refine Js 54 ?_ ?_
 ·intro h43
  have h45 := not_true h43
  refine Osk (Osk (Osk (Oq Vpt (Oq Vm (Osk (Osk (Osk (Oq Vpt (KS ?_)))))))))
  refine Kt (KS ?_)
  refine Oq Va (KS ?_)
  have hq := q4 hrr false (by simp only [w9_agrees, h37, h43, h45, hg10, hg19, hg27, hg32, hg41, cs4]); subst hq
  exact Kr () rfl (.tmp rfl .nil) [] trivial
 intro h43
 have h48 := not_false h43
 refine Oq Vm (Oq Vm (Oq (VneS (l := rv26.1) (m := rv31.1)) (Oq Vpf (Oq Vm ?_))))
 refine Js 59 ?_ ?_
 ·intro h50
  have g51 := ne_of_bne h50
  refine Osk (Osk (Osk (Oq Vpt (KS ?_))))
  refine Kt (KS ?_)
  refine Oq Va (KS ?_)
  have hq := q4 hrr false (by simp only [w9_agrees, h37, h43, h48, h50, hg10, hg19, hg27, hg32, hg41, cs4]); subst hq
  exact Kr () rfl (.tmp rfl .nil) [] trivial
 intro h50
 have g52 := eq_of_bne_false h50
 refine Oq Vm (Oq Vm (Oq Vneq (Oq Vpf (KS ?_))))
 refine Kc ?_ ?_
 ·intro h53
  have g54 := ne_of_bne h53
  refine KS ?_
  refine Oq Va (KS ?_)
  have hq := q4 hrr false (by simp only [w9_agrees, h37, h43, h48, h50, h53, hg10, hg19, hg27, hg32, hg41, cs4]); subst hq
  exact Kr () rfl (.tmp rfl .nil) [] trivial
 intro h53
 have g55 := eq_of_bne_false h53
 refine KS ?_
 refine Oq Va (KS ?_)
 refine Kl (γ := Nat × Int) (fun (r56, i_57) => ⟨[(7, p7), (11, vl a23 k24 rv18.1), (17, vi i_57)], [S a23 k24 rv18.1, pv p7 [vi x.Node, vi x.Var], pv (gp 0) [vl kwLA kwLK kwL], S kwLA kwLK kwL, pv (gp 1) (tabV .u8 tzT)], w9_agrees_L0 rv18.1 r56 i_57 = w9_agrees_L0 rv18.1 (((rv18.1.length : Int) - 0).toNat) 0 ∧ r56 = ((rv18.1.length : Int) - i_57).toNat ∧ (0 : Int) ≤ i_57 ∧ i_57 ≤ (rv18.1.length : Int) ∧ (-9223372036854775808 ≤ i_57 ∧ i_57 ≤ 9223372036854775807) ∧ (0 ≤ i_57), r56⟩) (((rv18.1.length : Int) - 0).toNat, 0) [0, 2, 7, 8, 9] ⟨rfl, rfl, aM1, aM1, aM1, iv0⟩ ?_
 rintro ⟨r56, i_57⟩ ⟨hM58, hr59, hi60, hi61, hk62, hv63⟩
 refine JJ_nx fun _ _ hL hA => ?_; dsimp only at hL hA; subst hL hA
 refine Fb 16 0 fun _ => Fb 16 3 fun _ => ?_
 refine FoS 3 fun ho66 => ?_
 refine KS ?_
 refine Oq Vm (Oq Vm (Oq (Vlen sl38) (Oq Vlss (KS ?_))))
 refine Kc ?_ ?_
 ·intro h67
  have g68 := dt h67
  obtain ⟨r69, rfl⟩ := scc (n := r56) aM1
  refine KS ?_
  refine Oq Vm (Oq Vm (Oq Vm (Oq (Vi sl38 0) ?_)))
  refine JJ_peek_GFact i_57.toNat 0 rfl rng fun hb70 hb71 => ?_
  unfold i64ok at hb70 hb71
  refine Oq (VldA sh49 0) ?_
  refine letv (fc_Index rv18.1 (rv18.1.getD i_57.toNat default)) fun rv72 hg73 => ?_
  have hc74 := fn34 rv18.1 a23 k24 ((rv18.1.getD i_57.toNat default)) pre pre rv72 hg73
  refine Oc [1] ca34 hc74 ?_
  rintro - he75
  unfold i64ok at he75
  refine Oq Vm (Oq Vneq (KS ?_))
  refine Kc ?_ ?_
  ·intro h76
   have g77 := ne_of_bne h76
   refine KS ?_
   refine Oq Va (KS ?_)
   have hR78 := q2 hM58 (.ret false) (by simp only [w9_agrees_L0, h67, h76, hg73, cs4])
   have hq := q4 hrr false (by simp only [w9_agrees, h37, h43, h48, h50, h53, h67, h76, hg10, hg19, hg27, hg32, hg41, hg73, hR78, cs4]); subst hq
   exact Kr () rfl (.tmp rfl .nil) [] trivial
  intro h76
  have g79 := eq_of_bne_false h76
  refine KS ?_
  refine Oq Vm (Oq Vadd (Oq Va (KS ?_)))
  exact Kg (r69, (i_57 + 1)) [1, 2, 3, 4, 5] ⟨(q3 hM58 (by simp only [w9_agrees_L0, h67, h76, hg73, cs4])), aM1, aM1, aM1, aM1, iv1⟩
 intro h67
 have g80 := df h67
 obtain rfl : r56 = 0 := by omega
 refine Ke ?_
 have hR81 := q2 hM58 (.brk ()) (by simp only [w9_agrees_L0, h67, cs4])
 refine KS ?_
 refine Oq Vm (Oq (VldA sh49 1) ?_)
 refine letv (fc_Index rv18.1 x) fun rv82 hg83 => ?_
 have hc84 := fn34 rv18.1 a23 k24 x pre pre rv82 hg83
 refine Oc [0] ca34 hc84 ?_
 rintro - he85
 unfold i64ok at he85
 refine Oq Va (KS ?_)
 refine bool_split (decide (-1 ≤ rv82)) ?_ ?_
 ·intro h86
  have g87 := dt h86
  refine bool_split (decide (rv82 < (rv18.1.length : Int))) ?_ ?_
  ·intro h88
   have g89 := dt h88
   refine bool_split (decide (rv82 < 0)) ?_ ?_
   ·intro h90
    have g91 := dt h90
    refine Kq [0, 1, 3, 7, 7, 23, 63, 127, 255, 511, 1023, 2047, 4095, 4095, 16383, 32767, 4095, 131071, 262143, 524287, 1048575] fmix ?_
    refine Qv [] Vm (Qb h86 [] Vgeq (Qv [] Vm (Qv [] Vm (Qv [] Vm (Qv [] (Vlen sl38) (Qb h88 [] Vlss (Qv [] Vpt (Qv [] Vm (Qv [] Vm ?_)))))))))
    refine Qb h90 [] Vlss (Qv [] Vm (Qs (Qs (Qs (Qs (Qs (Qs (Qv [] Vpt (Qv [] Vpt ?_)))))))))
    refine Qv [] Va ?_
    refine Qn ⟨by kernel_rfl, ?_⟩
    have hq := q4 hrr true (by simp only [w9_agrees, h37, h43, h48, h50, h53, h67, h86, h88, h90, hg10, hg19, hg27, hg32, hg41, hR81, hg83, cs4]); subst hq
    exact Kr () rfl (.tmp rfl .nil) [] trivial
   intro h90
   have g92 := df h90
   refine JJ_peek_GFact rv82.toNat 0 rfl rng fun hb93 hb94 => ?_
   unfold i64ok at hb93 hb94
   refine Kq [0, 1, 3, 7, 7, 23, 63, 127, 255, 511, 1023, 2047, 4095, 4095, 16383, 32767, 4095, 131071, 262143, 524287, 1048575] fmix ?_
   refine Qv [] Vm (Qb h86 [] Vgeq (Qv [] Vm (Qv [] Vm (Qv [] Vm (Qv [] (Vlen sl38) (Qb h88 [] Vlss (Qv [] Vpt (Qv [] Vm (Qv [] Vm ?_)))))))))
   refine Qb h90 [] Vlss (Qv [] Vm (Qv [] Vm (Qv [] Vm (Qv [1] (Vi sl38 0) (Qv [0] (VldA sh49 0) (Qv [2] (VldA sh49 0) (Qv [] (VeqA eqi49 (l := [(rv18.1.getD rv82.toNat default).Node, (rv18.1.getD rv82.toNat default).Var]) (m := [x.Node, x.Var])) (Qv [] Vpf (Qv [] Vpt ?_)))))))))
   refine Qv [] Va ?_
   refine Qn ⟨by kernel_rfl, ?_⟩
   have hq := q4 hrr ([(rv18.1.getD rv82.toNat default).Node, (rv18.1.getD rv82.toNat default).Var] == [x.Node, x.Var]) (by simp only [w9_agrees, h37, h43, h48, h50, h53, h67, h86, h88, h90, hg10, hg19, hg27, hg32, hg41, hR81, hg83, cs4]); subst hq
   exact Kr () rfl (.tmp rfl .nil) [] trivial
  intro h88
  have g95 := df h88
  refine Kq [0, 1, 3, 7, 7, 23, 63, 127, 255, 511, 1023, 2047, 4095, 4095, 16383, 32767, 4095, 131071, 262143, 524287, 1048575] fmix ?_
  refine Qv [] Vm (Qb h86 [] Vgeq (Qv [] Vm (Qv [] Vm (Qv [] Vm (Qv [] (Vlen sl38) (Qb h88 [] Vlss (Qv [] Vpt (Qv [] Vm (Qs ?_)))))))))
  refine Qs (Qs (Qs (Qs (Qs (Qs (Qs (Qs (Qs (Qv [] Vpf ?_)))))))))
  refine Qv [] Va ?_
  refine Qn ⟨by kernel_rfl, ?_⟩
  have hq := q4 hrr false (by simp only [w9_agrees, h37, h43, h48, h50, h53, h67, h86, h88, hg10, hg19, hg27, hg32, hg41, hR81, hg83, cs4]); subst hq
  exact Kr () rfl (.tmp rfl .nil) [] trivial
 intro h86
 have g96 := df h86
 refine Kq [0, 1, 3, 7, 7, 23, 63, 127, 255, 511, 1023, 2047, 4095, 4095, 16383, 32767, 4095, 131071, 262143, 524287, 1048575] fmix ?_
 refine Qv [] Vm (Qb h86 [] Vgeq (Qv [] Vm (Qs (Qs (Qs (Qs (Qv [] Vpf (Qv [] Vm (Qs ?_)))))))))
 refine Qs (Qs (Qs (Qs (Qs (Qs (Qs (Qs (Qs (Qv [] Vpf ?_)))))))))
 refine Qv [] Va ?_
 refine Qn ⟨by kernel_rfl, ?_⟩
 have hq := q4 hrr false (by simp only [w9_agrees, h37, h43, h48, h50, h53, h67, h86, hg10, hg19, hg27, hg32, hg41, hR81, hg83, cs4]); subst hq
 exact Kr () rfl (.tmp rfl .nil) [] trivial
theorem fn38 (v : Int) (n : Int) (hv_0 : i64ok v) (hn_0 : i64ok n) (hn1 : 1 ≤ n) (rr : Int) (hrr : g_Mod v n = rr) : FT Tryz.prog 38 #[vi v, vi n] [] (fun g : Unit => i64ok rr ∧ (0 ≤ rr ∧ rr < n)) (fun g => vi rr) (fun g => []) := by
 refine FTi Tryz.func38 fun w0 M0 F0 => ?_
 unfold i64ok at hv_0 hn_0
 have hm := mod_range v n aM1
 refine KS ?_
 refine Oq Va (KS ?_)
 refine Oq Vm (Oq (VcU un3 un79) (Oq Vm (Oq (VcU un3 un79) (Oq (VremU (ofInt_ne n aM1)) (Oq (VcN un79 un3 (h := (mod_le v n aM1))) (Oq Va (KS ?_)))))))
 have hq := q4 hrr (((BitVec.ofInt 64 v) % (BitVec.ofInt 64 n)).toNat : Int) (by simp only [g_Mod, cs4]); subst hq
 exact Kr () rfl (.tmp rfl .nil) [] en
theorem fn15 (tP : Value) (ta : Option Addr) (tk : Nat) (tT : List Int) (tI : Int) (n : Int) (htI : 0 ≤ tI ∧ tI ≤ (tT.length : Int)) (hn_0 : i64ok n) (rr : Int × Int) (hrr : tp_Next tT tI n = rr) : FT Tryz.prog 15 #[tP, vi n] [Cl tP [vl ta tk tT, vi tI], S ta tk tT] (fun g : Unit => i64ok rr.1 ∧ (0 ≤ rr.2 ∧ rr.2 ≤ (tT.length : Int)) ∧ (0 ≤ rr.1 ∧ (rr.1 < n ∨ rr.1 = 0))) (fun g => vi rr.1) (fun g => [Cl tP [vl ta tk tT, vi rr.2]]) := by
 refine FTi Tryz.func15 fun w0 M0 F0 => ?_
 unfold i64ok at hn_0
 refine Fb 8 1 fun _ => Fo 1 fun ho2 => KS ?_
 refine Oq Va (KS ?_)
 refine Jp 0 fun hp3 => ?_
 refine Kq [0, 1, 3, 7, 15, 31, 63, 7, 135, 391, 903, 1927, 4095, 8191] fmix ?_
 refine Qv [] Vm (Qv [] Vleq ?_)
 refine bool_split (decide (n ≤ 1)) ?_ ?_
 ·intro h4
  have g5 := dt h4
  refine Qb h4 [] Vm (Qs (Qs (Qs (Qs (Qs (Qs (Qs (Qs (Qs ?_)))))))))
  refine Qs (Qv [] Vpt ?_)
  refine Qn ⟨by kernel_rfl, ?_⟩
  refine Kt (KS ?_)
  refine Oq Va (KS ?_)
  have hq := q4 hrr (0, tI) (by simp only [tp_Next, h4, cs4]); subst hq
  exact Kr () rfl (.tmp rfl .nil) [1] en
 intro h4
 have g6 := df h4
 refine Qb h4 [] Vm (Qv [] Vm (Qv [0] (Vn 0) (Qv [0] (Vfa fo58_1 0) (Qv [1] (VldF sh3 0) (Qv [] Vm (Qv [0] (Vn 0) (Qv [0] (Vfa fo58_0 0) (Qv [1] (VldF sh22 0) (Qv [] (Vlen sl22) ?_)))))))))
 refine Qv [] Vgeq (Qv [] Vpf ?_)
 refine Qn ⟨by kernel_rfl, ?_⟩
 refine Kc ?_ ?_
 ·intro h7
  have g8 := dt h7
  refine KS ?_
  refine Oq Va (KS ?_)
  have hq := q4 hrr (0, tI) (by simp only [tp_Next, h4, h7, cs4]); subst hq
  exact Kr () rfl (.tmp rfl .nil) [1] en
 intro h7
 have g9 := df h7
 refine KS ?_
 refine Oq Vm (Oq (Vn 1) (Oq (Vfa fo58_1 1) (Oq (VldF sh3 1) (Oq Vadd (Oq (Vn 1) (Oq (Vfa fo58_1 1) (Ost (SclF [1] sh3 [vl ta tk tT, vi (tI + 1)]) (KS ?_))))))))
 refine JK_drawK [0, 1, 3, 7, 0, 16, 48, 112, 240, 511, 1023, 0, 4095, 8191] fmix ?_
 refine Dv [] Vm (Dv [1] (Vn 0) (Dv [1] (Vfa fo58_0 0) (Dv [0] (VldF sh22 0) (Dv [] Vm (Dv [1] (Vn 0) (Dv [1] (Vfa fo58_1 0) (Dv [0] (VldF sh3 0) (Dv [] Vsub (Dv [2] (Vi sl22 0) ?_)))))))))
 have hb10 := ok1 (i := (((tI + 1) - 1) : Int).toNat) ho2 rng
 refine Dv [2] (VldI sh3 0) (Dv [] Vm ?_)
 refine letv (g_Mod (tT.getD (((tI + 1) - 1) : Int).toNat 0) n) fun rv11 hg12 => ?_
 refine Dx [] [] [0] (fun G => vi rv11) [fun G => SP.fact (i64ok rv11 ∧ (0 ≤ rv11 ∧ rv11 < n))] (fun G => xC [] ca38 (fn38 ((tT.getD (((tI + 1) - 1) : Int).toNat 0)) n pre pre pre rv11 hg12)) (Dv [] Va ?_)
 refine Dn ⟨by kernel_rfl, fun G => ?_⟩
 refine Jw2 [(4, vi rv11)] [0, 1, 2] [SP.fact (i64ok rv11 ∧ (0 ≤ rv11 ∧ rv11 < n))] ?_
 refine Jf 3 rfl ?_; rintro ⟨he13, he14⟩
 unfold i64ok at he13
 refine Jk [0, 1] ?_
 have hq := q4 hrr (rv11, (tI + 1)) (by simp only [tp_Next, h4, h7, hg12, cs4]); subst hq
 exact Kr () rfl (.tmp rfl .nil) [0] en
theorem fn35 (width : Int) (hwidth_0 : i64ok width) (hw0 : 0 ≤ width ∧ width ≤ 1000000) (rr : GSet) (hrr : r1_Empty width = rr) : FT Tryz.prog 35 #[vi width] [] (fun g : Value => i64ok rr.Width ∧ (rr.Width = width) ∧ (rr.Words.length = (((width : Int) + 63) / 64).toNat)) (fun g => .agg #[vi rr.Width, g]) (fun g => [os g rr.Words]) := by
 refine FTi Tryz.func35 fun w0 M0 F0 => ?_
 unfold i64ok at hwidth_0
 refine KS ?_
 refine Oa (Al ze47 [vi 0, .slice none 0 0]) fun p1 => KS ?_
 refine Oq Vm (Oq Vm (Oq Vadd (Oq Vquo (Oa (Amk (α := BitVec 64) sl45 sz45 0#64 (fun _ _ => rfl)) fun c2 => ?_))))
 refine Jo 0 ?_; rintro a3 k4 rfl
 refine Fb 8 0 fun _ => ?_
 have hn6 := List.length_replicate (n := (((width + 63) / 64) : Int).toNat) (a := (0#64 : BitVec 64))
 refine Oq (Vbd st47 [vi width, vl a3 k4 (List.replicate (((width + 63) / 64) : Int).toNat 0#64)]) (Ost (Scl [1] sh47 [vi width, vl a3 k4 (List.replicate (((width + 63) / 64) : Int).toNat 0#64)]) (KS ?_))
 have hq := q4 hrr (GSet.mk width (List.replicate (((width + 63) / 64) : Int).toNat 0#64)) (by simp only [r1_Empty, cs4]); subst hq
 exact Kr (vl a3 k4 (List.replicate (((width + 63) / 64) : Int).toNat 0#64)) rfl (.cellN 0 rfl sh47 rfl (reads_Cl _ _) rfl .nil) [1] en
theorem fn36 (s : GSet) (sa1 : Option Addr) (sk1 : Nat) (b : Int) (hs_0 : i64ok s.Width) (hb_0 : i64ok b) (hb0 : 0 ≤ b ∧ b < s.Width) (hw0 : s.Width ≤ 1000000) (rr : GSet) (hrr : r1_Put s b = rr) : FT Tryz.prog 36 #[.agg #[vi s.Width, vl sa1 sk1 s.Words], vi b] [S sa1 sk1 s.Words] (fun g : Value => i64ok rr.Width ∧ (rr.Width = s.Width) ∧ (rr.Words.length = ((s.Width + 63) / 64).toNat)) (fun g => .agg #[vi rr.Width, g]) (fun g => [os g rr.Words]) := by
 refine FTi Tryz.func36 fun w0 M0 F0 => ?_
 unfold i64ok at hs_0 hb_0
 refine Fb 8 0 fun _ => KS ?_
 refine Oa (Ab [vi s.Width, vl sa1 sk1 s.Words]) fun p2 => Oa (Al ze47 [vi 0, .slice none 0 0]) fun p3 => KS ?_
 refine Oq (Vfa fo47_0 1) (Oq (VldF sh3 1) ?_)
 refine letv (r1_Empty s.Width) fun rv5 hg6 => ?_
 have hc7 := fn35 s.Width pre pre rv5 hg6
 refine Oc [] ca35 hc7 ?_
 rintro c4 ⟨he8, he9, he10⟩
 unfold i64ok at he8
 refine Jo 0 ?_; rintro a11 k12 rfl
 refine Fb 8 0 fun _ => ?_
 refine Oa (Al ze47 [vi 0, .slice none 0 0]) fun p14 => Ost (Scl [0] sh47 [vi rv5.Width, vl a11 k12 rv5.Words]) (KS ?_)
 refine Oq (Vfa fo47_1 0) (Oq (VldF sh45 0) (Oq (Vfa fo47_1 3) (Oq (VldF sh45 3) (Oa (OpA.frame [1, 3] rfl (OpA.copyS (α := BitVec 64) rfl rfl rfl sl45 rfl)) fun u15 => ?_))))
 have hn16 : (s.Words.take rv5.Words.length ++ rv5.Words.drop s.Words.length).length = rv5.Words.length := len_copy _ _
 refine KS ?_
 refine Oq (Vfa fo47_1 1) (Oq (VldF sh45 1) (Oq Vm (Oq Vquo (Oq (Vi sl45 0) (Oq (VldU sh78 0) (Oq Vm (Oq Vrem (Oq (VcU un3 un79) (Oq (VshlU (a := 1#64)) ?_)))))))))
 refine Oq VorU (Oq (Vi sl45 0) (Ost (SoU [0] sh78) (KS ?_)))
 refine Oq (VldA sh47 1) (Ost (Scl [2] sh47 [vi rv5.Width, vl a11 k12 rv5.Words]) (KS ?_))
 have hq := q4 hrr (GSet.mk rv5.Width ((s.Words.take rv5.Words.length ++ rv5.Words.drop s.Words.length).set ((b / 64) : Int).toNat (((s.Words.take rv5.Words.length ++ rv5.Words.drop s.Words.length).getD ((b / 64) : Int).toNat 0#64) ||| (1#64 <<< (((BitVec.ofInt 64 (b % 64)).toNat : Int)).toNat)))) (by simp only [r1_Put, hg6, cs4]); subst hq
 exact Kr (vl a11 k12 rv5.Words) rfl (.cellN 0 rfl sh47 rfl (reads_Cl _ _) rfl .nil) [1] en
theorem fn12 (tP : Value) (ta : Option Addr) (tk : Nat) (tT : List Int) (tI : Int) (width : Int) (htI : 0 ≤ tI ∧ tI ≤ (tT.length : Int)) (hwidth_0 : i64ok width) (hw0 : 0 ≤ width ∧ width ≤ 1000) (rr : GSet × Int) (hrr : tp_Set tT tI width = rr) : FT Tryz.prog 12 #[tP, vi width] [Cl tP [vl ta tk tT, vi tI], S ta tk tT] (fun g : Value => i64ok rr.1.Width ∧ (0 ≤ rr.2 ∧ rr.2 ≤ (tT.length : Int)) ∧ (rr.1.Width = width) ∧ (rr.1.Words.length = (((width : Int) + 63) / 64).toNat)) (fun g => .agg #[vi rr.1.Width, g]) (fun g => [os g rr.1.Words, Cl tP [vl ta tk tT, vi rr.2]]) := by
 refine FTi Tryz.func12 fun w0 M0 F0 => ?_
 unfold i64ok at hwidth_0
 refine Fb 8 1 fun _ => Fo 1 fun ho2 => KS ?_
 refine Oa (Al ze47 [vi 0, .slice none 0 0]) fun p3 => KS ?_
 refine Oq Vm ?_
 refine letv (r1_Empty width) fun rv5 hg6 => ?_
 have hc7 := fn35 width pre pre rv5 hg6
 refine Oc [] ca35 hc7 ?_
 rintro c4 ⟨he8, he9, he10⟩
 unfold i64ok at he8
 refine Jo 0 ?_; rintro a11 k12 rfl
 refine Fb 8 0 fun _ => ?_
 refine Oa (Al ze47 [vi 0, .slice none 0 0]) fun p14 => Ost (Scl [0] sh47 [vi rv5.Width, vl a11 k12 rv5.Words]) (KS ?_)
 refine Oq Va (KS ?_)
 refine Kl (γ := Nat × Int × Int × List (BitVec 64) × Int × Option Addr × Nat) (fun (r15, ti_16, s0_17, s1_18, b_19, a20, k21) => ⟨[(0, tP), (1, vi width), (4, p3), (5, p14), (6, vi b_19)], [O a20 k21 s1_18, Cl p14 [vi s0_17, vl a20 k21 s1_18], Cl p3 [vi 0, .slice none 0 0], Cl tP [vl ta tk tT, vi ti_16], S ta tk tT], tp_Set_L0 tT r15 ti_16 s0_17 s1_18 b_19 = tp_Set_L0 tT (((width : Int) - 0).toNat) tI rv5.Width rv5.Words 0 ∧ r15 = ((width : Int) - b_19).toNat ∧ (0 : Int) ≤ b_19 ∧ (b_19 ≤ width ∨ b_19 = 0) ∧ (-9223372036854775808 ≤ ti_16 ∧ ti_16 ≤ 9223372036854775807) ∧ (0 ≤ ti_16 ∧ ti_16 ≤ (tT.length : Int)) ∧ (-9223372036854775808 ≤ s0_17 ∧ s0_17 ≤ 9223372036854775807) ∧ (-9223372036854775808 ≤ b_19 ∧ b_19 ≤ 9223372036854775807) ∧ s0_17 = width ∧ s1_18.length = (((width : Int) + 63) / 64).toNat, r15⟩) (((width : Int) - 0).toNat, tI, rv5.Width, rv5.Words, 0, a11, k12) [1, 0, 0, 0, 0] ⟨rfl, rfl, aM1, (.inr rfl), aM1, aM1, aM1, aM1, iv0, iv0⟩ ?_
 rintro ⟨r15, ti_16, s0_17, s1_18, b_19, a20, k21⟩ ⟨hM22, hr23, hi24, hi25, hk26, ht27, hk28, hk29, hv30, hv31⟩
 refine JJ_nx fun _ _ hL hA => ?_; dsimp only at hL hA; subst hL hA
 refine Fb 8 0 fun _ => Fb 8 4 fun _ => Fo 4 fun ho34 => KS ?_
 refine Oq Vm (Oq Vm (Oq Vlss (KS ?_)))
 refine Kc ?_ ?_
 ·intro h35
  have g36 := dt h35
  obtain ⟨r37, rfl⟩ := scc (n := r15) aM1
  refine KS ?_
  refine Oq Vm ?_
  refine letv (tp_Next tT ti_16 3) fun rv38 hg39 => ?_
  have hc40 := fn15 tP ta tk tT ti_16 3 pre pre rv38 hg39
  refine Oc [3, 3] ca15 hc40 ?_
  rintro - ⟨he41, he42, he43⟩
  unfold i64ok at he41
  refine Oq Veql (KS ?_)
  refine Kc ?_ ?_
  ·intro h44
   have g45 := eq_of_beq h44
   refine KS ?_
   refine Oq (VldA sh47 2) (Oq Vm ?_)
   refine letv (r1_Put (GSet.mk s0_17 s1_18) b_19) fun rv47 hg48 => ?_
   refine Oc [1] ca36 (FT_borrow (A := _) hlx (FT_ent (Ent.take (is := [0]) rfl) (fn36 ((GSet.mk s0_17 s1_18)) a20 k21 b_19 pre pre pre pre rv47 hg48))) ?_ (ht := rfl)
   rintro c46 ⟨he49, he50, he51⟩
   unfold i64ok at he49
   have he50 : (rv47.Width = s0_17) := he50
   have he51 : (rv47.Words.length = ((s0_17 + 63) / 64).toNat) := he51
   refine Jo 1 ?_; rintro a52 k53 rfl
   refine Fb 8 1 fun _ => ?_
   refine Ost (Scl [3] sh47 [vi rv47.Width, vl a52 k53 rv47.Words]) (KS ?_)
   refine Oq Vm (Oq Vadd (Oq Va (KS ?_)))
   exact Kg (r37, rv38.2, rv47.Width, rv47.Words, (b_19 + 1), a52, k53) [2, 0, 2, 1, 1] ⟨(q3 hM22 (by simp only [tp_Set_L0, h35, h44, hg39, hg48, cs4])), aM1, aM1, aM1, aM1, aM1, aM1, aM1, iv1, iv1⟩
  intro h44
  have g55 := ne_of_beq_false h44
  refine KS ?_
  refine Oq Vm (Oq Vadd (Oq Va (KS ?_)))
  exact Kg (r37, rv38.2, s0_17, s1_18, (b_19 + 1), a20, k21) [1, 1, 1, 0, 0] ⟨(q3 hM22 (by simp only [tp_Set_L0, h35, h44, hg39, cs4])), aM1, aM1, aM1, aM1, aM1, aM1, aM1, iv1, iv1⟩
 intro h35
 have g56 := df h35
 obtain rfl : r15 = 0 := by omega
 refine Ke ?_
 have hR57 := q2 hM22 (ti_16, s0_17, s1_18) (by simp only [tp_Set_L0, h35, cs4])
 refine KS ?_
 refine Oq (VldA sh47 1) (Ost (Scl [2] sh47 [vi s0_17, vl a20 k21 s1_18]) (KS ?_))
 have hq := q4 hrr ((GSet.mk s0_17 s1_18), ti_16) (by simp only [tp_Set, h35, hg6, hR57, cs4]); subst hq
 exact Kr (vl a20 k21 s1_18) rfl (.cellN 0 rfl sh47 rfl (reads_Cl _ _) rfl .nil) [1, 2] en
theorem fn13 (tP : Value) (ta : Option Addr) (tk : Nat) (tT : List Int) (tI : Int) (s : GSet) (sa1 : Option Addr) (sk1 : Nat) (htI : 0 ≤ tI ∧ tI ≤ (tT.length : Int)) (hs_0 : i64ok s.Width) (hs : SetOk s) (rr : GSet × Int) (hrr : tp_SpoilSet tT tI s = rr) : FT Tryz.prog 13 #[tP, .agg #[vi s.Width, vl sa1 sk1 s.Words]] [Cl tP [vl ta tk tT, vi tI], S ta tk tT, S sa1 sk1 s.Words] (fun g : Value => i64ok rr.1.Width ∧ (0 ≤ rr.2 ∧ rr.2 ≤ (tT.length : Int))) (fun g => .agg #[vi rr.1.Width, g]) (fun g => [sl g rr.1.Words, Cl tP [vl ta tk tT, vi rr.2]]) := by
 refine FTi Tryz.func13 fun w0 M0 F0 => ?_
 unfold i64ok at hs_0
 refine Fb 8 1 fun _ => Fo 1 fun ho2 => Fb 8 2 fun _ => ?_
 obtain ⟨hw0, hw1, hw2⟩ := hs
 refine KS ?_
 refine Oa (Ab [vi s.Width, vl sa1 sk1 s.Words]) fun p4 => Oa (Al ze47 [vi 0, .slice none 0 0]) fun p5 => KS ?_
 refine JK_drawK [0, 1, 0, 0, 8, 28, 63, 0, 255] fmix ?_
 refine Dv [1] (Vfa fo47_0 0) (Dv [1] (VldF sh3 0) (Dx [] [] [0] (fun G => (G.g 2 0)) [fun G => Cr (G.g 2 0) 0 []] (fun G => xA (As0 sl45)) (Dv [1] (Vfa fo47_1 0) (Dv [1] (VldF sh45 0) (Dx [4, 5] [5] [1, 0] (fun G => (G.g 5 0)) [fun G => os (G.g 5 0) s.Words] (fun G => xp [1] rfl (Ent.crNil (α := BitVec 64) _) (xA (Ap0 [0, 0] sl45 sl45 sz45))) ?_)))))
 refine Dx [6] [] [0] (fun G => .agg #[vi s.Width, (G.g 5 0)]) [] (fun G => xV (v := .agg #[vi s.Width, (G.g 5 0)]) (Vo 0 rfl (isO_os _ _) fun aq8 kq9 eq10 => (by rw [eq10]; exact Vbd st47 [vi s.Width, .slice aq8 ((s.Words : List (BitVec 64)).length) kq9]))) (Dx [] [] [0] (fun G => (G.g 7 0)) [fun G => Cl (G.g 7 0) [vi 0, .slice none 0 0]] (fun G => xA (Al ze47 [vi 0, .slice none 0 0])) (Dx0 [6, 7] [7] [1, 0] [fun G => Cl (G.g 7 0) [vi s.Width, (G.g 5 0)]] (fun G => x1 0 rfl os_one fun ho12 => (xS (Scl [1] sh47 [vi s.Width, (G.g 5 0)] (v := .agg #[vi s.Width, (G.g 5 0)]) (h1 := show [vi s.Width, (G.g 5 0)].all (·.oneCell') = true from (by simp only [List.all_cons, List.all_nil, ho12, Bool.and_true, Bool.true_and] <;> rfl))))) ?_))
 refine Dn ⟨by kernel_rfl, fun G => ?_⟩
 refine Jw2 [(0, tP), (4, p5), (5, (G.g 7 0))] [0, 1, 2, 3, 4] [os (G.g 5 0) s.Words, Cl (G.g 7 0) [vi s.Width, (G.g 5 0)]] ?_
 generalize G.g 5 0 = c7, G.g 7 0 = p11
 refine Jo 5 ?_; rintro a13 k14 rfl
 refine KS ?_
 refine Oq Vm ?_
 refine letv (tp_Next tT tI 4) fun rv15 hg16 => ?_
 have hc17 := fn15 tP ta tk tT tI 4 pre pre rv15 hg16
 refine Oc [2, 2] ca15 hc17 ?_
 rintro - ⟨he18, he19, he20⟩
 unfold i64ok at he18
 refine KS ?_
 refine Oq Veql (Oq Va (KS ?_))
 refine Kc ?_ ?_
 ·intro h21
  have g22 := eq_of_beq h21
  refine Jp 6 fun hp23 => ?_
  refine JK_drawK [0, 1, 0, 4, 12, 31, 63, 127] fmix ?_
  refine Dv [0] (Vfa fo47_0 0) (Dv [7] (VldF sh3 0) (Dv [] Vm ?_))
  refine letv (tp_Next tT rv15.2 5) fun rv24 hg25 => Dx [1, 4] [1] [2, 0, 1] (fun G => vi rv24.1) [fun G => SP.fact (i64ok rv24.1 ∧ (0 ≤ rv24.2 ∧ rv24.2 ≤ (tT.length : Int)) ∧ (0 ≤ rv24.1 ∧ (rv24.1 < 5 ∨ rv24.1 = 0))), fun G => Cl tP [vl ta tk tT, vi rv24.2]] (fun G => xC [0, 0] ca15 (fn15 tP ta tk tT rv15.2 5 pre pre rv24 hg25)) ?_
  refine Dx [8] [] [0] (fun G => vi (rv24.1 - 2)) [] (fun G => by refine xf 0 rfl ?_; rintro ⟨he26, he27, he28⟩; unfold i64ok at he26; exact xV (Vsub)) ?_
  refine Dx [8] [] [0] (fun G => vi (s.Width + (rv24.1 - 2))) [] (fun G => by refine xf 0 rfl ?_; rintro ⟨he29, he30, he31⟩; unfold i64ok at he29; exact xV (Vadd)) (Dv [0] (Vfa fo47_0 0) (Dx0 [7] [7] [0] [fun G => Cl p11 [vi (s.Width + (rv24.1 - 2)), vl a13 k14 s.Words]] (fun G => xS (SclF [0] sh3 [vi (s.Width + (rv24.1 - 2)), vl a13 k14 s.Words])) ?_))
  refine Dn ⟨by kernel_rfl, fun G => ?_⟩
  refine Jw2 [(4, p5), (5, p11)] [0, 2, 3, 4, 5, 6] [SP.fact (i64ok rv24.1 ∧ (0 ≤ rv24.2 ∧ rv24.2 ≤ (tT.length : Int)) ∧ (0 ≤ rv24.1 ∧ (rv24.1 < 5 ∨ rv24.1 = 0))), Cl tP [vl ta tk tT, vi rv24.2], Cl p11 [vi (s.Width + (rv24.1 - 2)), vl a13 k14 s.Words]] ?_
  refine Jf 6 rfl ?_; rintro ⟨he32, he33, he34⟩
  unfold i64ok at he32
  refine Jk [1, 1, 2, 3, 4, 5, 5] ?_
  refine KS ?_
  refine Oq (VldA sh47 6) (Ost (Scl [0] sh47 [vi (s.Width + (rv24.1 - 2)), vl a13 k14 s.Words]) (KS ?_))
  refine Jl [4] (Ent.freeze _ _) ?_
  have hq := q4 hrr ((GSet.mk (s.Width + (rv24.1 - 2)) s.Words), rv24.2) (by simp only [tp_SpoilSet, h21, hg16, hg25, cs4]); subst hq
  exact Kr (vl a13 k14 s.Words) rfl (.cellN 1 rfl sh47 rfl (reads_Cl _ _) rfl .nil) [0, 5] ⟨(by (try dsimp only) <;> first | (unfold i64ok; omega) | exact getD_all (p := i64ok) (by intro x hx; simp only [List.mem_cons, List.not_mem_nil, or_false] at hx; unfold i64ok; omega) aK1 _), en⟩
 intro h21
 have g35 := ne_of_beq_false h21
 refine KS ?_
 refine Oq Veql (Oq Va (KS ?_))
 refine Kc ?_ ?_
 ·intro h36
  have g37 := eq_of_beq h36
  refine Jp 6 fun hp38 => ?_
  refine JK_drawK [0, 1, 0, 4, 12, 28, 63, 127, 255] fmix ?_
  refine Dv [0] (Vfa fo47_1 0) (Dv [7] (VldF sh45 0) (Dv [] Vm ?_))
  refine letv (tp_Next tT rv15.2 2) fun rv39 hg40 => ?_
  refine Dx [1, 4] [1] [2, 0, 1] (fun G => vi rv39.1) [fun G => SP.fact (i64ok rv39.1 ∧ (0 ≤ rv39.2 ∧ rv39.2 ≤ (tT.length : Int)) ∧ (0 ≤ rv39.1 ∧ (rv39.1 < 2 ∨ rv39.1 = 0))), fun G => Cl tP [vl ta tk tT, vi rv39.2]] (fun G => xC [0, 0] ca15 (fn15 tP ta tk tT rv15.2 2 pre pre rv39 hg40)) (Dv [] (VcU un3 un78) (Dx [] [] [0] (fun G => (G.g 5 0)) [fun G => Cr (G.g 5 0) 1 [u64 (BitVec.ofInt 64 rv39.1)]] (fun G => xA (AsV sl45 sz45 [u64 (BitVec.ofInt 64 rv39.1)] [u64 (BitVec.ofInt 64 rv39.1)])) ?_))
  have hn43 := la s.Words ([(BitVec.ofInt 64 rv39.1)] : List (BitVec 64))
  refine Dx [6, 8, 10] [6, 10] [1, 0] (fun G => (G.g 6 0)) [fun G => os (G.g 6 0) ((s.Words ++ [(BitVec.ofInt 64 rv39.1)]) : List (BitVec 64))] (fun G => by refine xf 1 rfl ?_; rintro ⟨he44, he45, he46⟩; unfold i64ok at he44; exact xp [2] rfl (Ent.cr1 (α := BitVec 64) (A := []) _ (BitVec.ofInt 64 rv39.1) _ aB1 (fun _ => rfl)) (xA (ApO [1, 0] sl45 sl45 sz45))) (Dv [0] (Vfa fo47_1 0) (Dx0 [7, 11] [7] [1, 0] [fun G => Cl p11 [vi s.Width, (G.g 6 0)]] (fun G => x1 1 rfl os_one fun ho47 => (xS (OpS.frame [0] rfl (OpS.storeClF [(G.g 6 0)] [vi s.Width, (G.g 6 0)] rfl rfl rfl sh45 (cells_of_one ho47) rfl (by simp only [List.all_cons, List.all_nil, ho47, Bool.and_true, Bool.true_and] <;> rfl) aB1 rfl)))) ?_))
  refine Dn ⟨by kernel_rfl, fun G => ?_⟩
  refine Jw2 [(4, p5), (5, p11)] [0, 2, 3, 4, 5] [SP.fact (i64ok rv39.1 ∧ (0 ≤ rv39.2 ∧ rv39.2 ≤ (tT.length : Int)) ∧ (0 ≤ rv39.1 ∧ (rv39.1 < 2 ∨ rv39.1 = 0))), Cl tP [vl ta tk tT, vi rv39.2], os (G.g 6 0) ((s.Words ++ [(BitVec.ofInt 64 rv39.1)]) : List (BitVec 64)), Cl p11 [vi s.Width, (G.g 6 0)]] ?_
  generalize G.g 6 0 = c42
  refine Jf 5 rfl ?_; rintro ⟨he48, he49, he50⟩
  unfold i64ok at he48
  refine Jk [1, 1, 2, 3, 5, 5, 5] ?_
  refine Jo 5 ?_; rintro a51 k52 rfl
  refine Fb 8 5 fun _ => KS ?_
  refine Oq (VldA sh47 6) (Ost (Scl [0] sh47 [vi s.Width, vl a51 k52 (s.Words ++ [(BitVec.ofInt 64 rv39.1)])]) (KS ?_))
  refine Jl [5] (Ent.freeze _ _) ?_
  have hq := q4 hrr ((GSet.mk s.Width (s.Words ++ [(BitVec.ofInt 64 rv39.1)])), rv39.2) (by simp only [tp_SpoilSet, h21, h36, hg16, hg40, cs4]); subst hq
  exact Kr (vl a51 k52 (s.Words ++ [(BitVec.ofInt 64 rv39.1)])) rfl (.cellN 1 rfl sh47 rfl (reads_Cl _ _) rfl .nil) [0, 5] ⟨(by (try dsimp only) <;> first | (unfold i64ok; omega) | exact getD_all (p := i64ok) (by intro x hx; simp only [List.mem_cons, List.not_mem_nil, or_false] at hx; unfold i64ok; omega) aK1 _), en⟩
 intro h36
 have g54 := ne_of_beq_false h36
 refine KS ?_
 refine Oq Veql (Oq Va (KS ?_))
 refine Kc ?_ ?_
 ·intro h55
  have g56 := eq_of_beq h55
  refine KS ?_
  refine Oq (Vfa fo47_1 6) (Oq (VldF sh45 6) (Oq (Vlen sl45) (Oq Vgtr (KS ?_))))
  refine Kc ?_ ?_
  ·intro h57
   have g58 := dt h57
   refine Jp 6 fun hp59 => ?_
   refine JK_drawK [0, 1, 0, 4, 12, 28, 63, 127, 0, 256, 768, 1792, 4095, 8191, 16383] fmix ?_
   refine Dv [0] (Vfa fo47_1 0) (Dv [7] (VldF sh45 0) (Dv [0] (Vfa fo47_1 0) (Dv [7] (VldF sh45 0) (Dv [] (Vlen sl45) (Dv [] Vsub (Dv [6] (Vi sl45 0) (Dv [6] (VldU sh78 0) (Dv [] Vm ?_))))))))
   refine letv (tp_Next tT rv15.2 64) fun rv60 hg61 => ?_
   refine Dx [1, 4] [1] [2, 0, 1] (fun G => vi rv60.1) [fun G => SP.fact (i64ok rv60.1 ∧ (0 ≤ rv60.2 ∧ rv60.2 ≤ (tT.length : Int)) ∧ (0 ≤ rv60.1 ∧ (rv60.1 < 64 ∨ rv60.1 = 0))), fun G => Cl tP [vl ta tk tT, vi rv60.2]] (fun G => xC [0, 0] ca15 (fn15 tP ta tk tT rv15.2 64 pre pre rv60 hg61)) (Dv [] (VcU un3 un79) ?_)
   refine Dx [8] [] [0] (fun G => u64 (1#64 <<< (((BitVec.ofInt 64 rv60.1).toNat : Int)).toNat)) [] (fun G => by refine xf 0 rfl ?_; rintro ⟨he62, he63, he64⟩; unfold i64ok at he62; exact xV (VshlU (a := 1#64))) (Dv [] VorU (Dv [6] (Vi sl45 0) (Dx0 [6] [6] [0] [fun G => os (vl a13 k14 s.Words) (s.Words.set (((s.Words.length : Int) - 1) : Int).toNat ((s.Words.getD (((s.Words.length : Int) - 1) : Int).toNat 0#64) ||| (1#64 <<< (((BitVec.ofInt 64 rv60.1).toNat : Int)).toNat)))] (fun G => xS (SoU [0] sh78)) ?_)))
   refine Dn ⟨by kernel_rfl, fun G => ?_⟩
   refine Jw2 [(4, p5), (5, p11)] [0, 2, 3, 4, 5, 7] [SP.fact (i64ok rv60.1 ∧ (0 ≤ rv60.2 ∧ rv60.2 ≤ (tT.length : Int)) ∧ (0 ≤ rv60.1 ∧ (rv60.1 < 64 ∨ rv60.1 = 0))), Cl tP [vl ta tk tT, vi rv60.2], os (vl a13 k14 s.Words) (s.Words.set (((s.Words.length : Int) - 1) : Int).toNat ((s.Words.getD (((s.Words.length : Int) - 1) : Int).toNat 0#64) ||| (1#64 <<< (((BitVec.ofInt 64 rv60.1).toNat : Int)).toNat)))] ?_
   refine Jf 6 rfl ?_; rintro ⟨he65, he66, he67⟩
   unfold i64ok at he65
   refine Jk [1, 1, 2, 3, 4, 5, 5] ?_
   refine KS ?_
   refine Oq (VldA sh47 4) (Ost (Scl [0] sh47 [vi s.Width, vl a13 k14 s.Words]) (KS ?_))
   refine Jl [6] (Ent.freeze _ _) ?_
   have hq := q4 hrr ((GSet.mk s.Width (s.Words.set (((s.Words.length : Int) - 1) : Int).toNat ((s.Words.getD (((s.Words.length : Int) - 1) : Int).toNat 0#64) ||| (1#64 <<< (((BitVec.ofInt 64 rv60.1).toNat : Int)).toNat)))), rv60.2) (by simp only [tp_SpoilSet, h21, h36, h55, h57, hg16, hg61, cs4]); subst hq
   exact Kr (vl a13 k14 s.Words) rfl (.cellN 1 rfl sh47 rfl (reads_Cl _ _) rfl .nil) [0, 6] ⟨(by (try dsimp only) <;> first | (unfold i64ok; omega) | exact getD_all (p := i64ok) (by intro x hx; simp only [List.mem_cons, List.not_mem_nil, or_false] at hx; unfold i64ok; omega) aK1 _), en⟩
  intro h57
  have g68 := df h57
  refine KS ?_
  refine Oq (VldA sh47 6) (Ost (Scl [1] sh47 [vi s.Width, vl a13 k14 s.Words]) (KS ?_))
  refine Jl [5] (Ent.freeze _ _) ?_
  have hq := q4 hrr (s, rv15.2) (by simp only [tp_SpoilSet, h21, h36, h55, h57, hg16, cs4]); subst hq
  exact Kr (vl a13 k14 s.Words) rfl (.cellN 1 rfl sh47 rfl (reads_Cl _ _) rfl .nil) [0, 2] ⟨(by (try dsimp only) <;> first | (unfold i64ok; omega) | exact getD_all (p := i64ok) (by intro x hx; simp only [List.mem_cons, List.not_mem_nil, or_false] at hx; unfold i64ok; omega) aK1 _), en⟩
 intro h55
 have g69 := ne_of_beq_false h55
 refine KS ?_
 refine Oa (AsV sl22 sz22 [vi (-1), vi 257, vi 320, vi 0] [vi (-1), vi 257, vi 320, vi 0]) fun c70 => ?_
 refine Jo 0 ?_; rintro a71 k72 rfl
 refine Oq Vm ?_
 refine letv (tp_Next tT rv15.2 4) fun rv73 hg74 => ?_
 have hc75 := fn15 tP ta tk tT rv15.2 4 pre pre rv73 hg74
 refine Oc [1, 3] ca15 hc75 ?_
 rintro - ⟨he76, he77, he78⟩
 unfold i64ok at he76
 refine Jl [1] (Ent.crInt _ [-1, 257, 320, 0] _ _ rfl rfl (by intro x hx; simp only [List.mem_cons, List.not_mem_nil, or_false] at hx; rcases hx with rfl | rfl | rfl | rfl <;> (unfold i64ok; omega)) aB1) ?_
 refine Oq (Vi sl22 0) (Oq (VldI sh3 0) (Oq (Vfa fo47_0 7) (Ost (SclF [7] sh3 [vi ([-1, 257, 320, 0].getD rv73.1.toNat 0), vl a13 k14 s.Words]) (KS ?_))))
 refine Oq (VldA sh47 0) (Ost (Scl [3] sh47 [vi ([-1, 257, 320, 0].getD rv73.1.toNat 0), vl a13 k14 s.Words]) (KS ?_))
 refine Jl [7] (Ent.freeze _ _) ?_
 have hq := q4 hrr ((GSet.mk ([-1, 257, 320, 0].getD rv73.1.toNat 0) s.Words), rv73.2) (by simp only [tp_SpoilSet, h21, h36, h55, hg16, hg74, cs4]); subst hq
 exact Kr (vl a13 k14 s.Words) rfl (.cellN 1 rfl sh47 rfl (reads_Cl _ _) rfl .nil) [0, 4] ⟨(by (try dsimp only) <;> first | (unfold i64ok; omega) | exact getD_all (p := i64ok) (by intro x hx; simp only [List.mem_cons, List.not_mem_nil, or_false] at hx; unfold i64ok; omega) aK1 _), en⟩
theorem fn19 (tP : Value) (ta : Option Addr) (tk : Nat) (tT : List Int) (tI : Int) (htI : 0 ≤ tI ∧ tI ≤ (tT.length : Int)) (rr : Str × Int) (hrr : tp_name tT tI = rr) : FT Tryz.prog 19 #[tP] [Cl tP [vl ta tk tT, vi tI], S ta tk tT] (fun g : Unit => rr.1.b.length ≤ 140737488355328 ∧ (0 ≤ rr.2 ∧ rr.2 ≤ (tT.length : Int))) (fun g => .string (bs rr.1)) (fun g => [Cl tP [vl ta tk tT, vi rr.2]]) := by
 refine FTi Tryz.func19 fun w0 M0 F0 => Fb 8 1 fun _ => Fo 1 fun ho2 => ?_
 refine KS ?_
 refine Oq Va (KS ?_)
 refine Oa (AsV sl35 sz35 [.string (bs (Str.mk [120])), .string (bs (Str.mk [121])), .string (bs (Str.mk [122])), .string (bs (Str.mk [119]))] [.string (bs (Str.mk [120])), .string (bs (Str.mk [121])), .string (bs (Str.mk [122])), .string (bs (Str.mk [119]))]) fun c3 => ?_
 refine Jo 0 ?_; rintro a4 k5 rfl
 refine Oq Vm ?_
 refine letv (tp_Next tT tI 4) fun rv6 hg7 => ?_
 have hc8 := fn15 tP ta tk tT tI 4 pre pre rv6 hg7
 refine Oc [1, 1] ca15 hc8 ?_
 rintro - ⟨he9, he10, he11⟩
 unfold i64ok at he9
 refine Jl [1] (Ent.crOs (α := Str) (A := []) _ ([(Str.mk [120]), (Str.mk [121]), (Str.mk [122]), (Str.mk [119])] : List Str) _ aB1 (fun h => ⟨[.string (bs (Str.mk [120]))], [.string (bs (Str.mk [121])), .string (bs (Str.mk [122])), .string (bs (Str.mk [119]))], rfl, (fun _ => ⟨rfl, by first | omega | (simp; done) | (dsimp only; omega) | exact lit_bl rfl⟩) h, ⟨[.string (bs (Str.mk [121]))], [.string (bs (Str.mk [122])), .string (bs (Str.mk [119]))], rfl, (fun _ => ⟨rfl, by first | omega | (simp; done) | (dsimp only; omega) | exact lit_bl rfl⟩) h, ⟨[.string (bs (Str.mk [122]))], [.string (bs (Str.mk [119]))], rfl, (fun _ => ⟨rfl, by first | omega | (simp; done) | (dsimp only; omega) | exact lit_bl rfl⟩) h, ⟨[.string (bs (Str.mk [119]))], [], rfl, (fun _ => ⟨rfl, by first | omega | (simp; done) | (dsimp only; omega) | exact lit_bl rfl⟩) h, rfl⟩⟩⟩⟩)) ?_
 refine Oq (Vi sl35 0) ?_
 refine Fb 16 0 fun _ => ?_
 refine FoS 0 fun ho13 => ?_
 have hb14 := okS (i := rv6.1.toNat) ho13 rng
 refine Oq (VldS sh9 0) (Oq Va (KS ?_))
 have hq := q4 hrr (([(Str.mk [120]), (Str.mk [121]), (Str.mk [122]), (Str.mk [119])].getD rv6.1.toNat default), rv6.2) (by simp only [tp_name, hg7, cs4]); subst hq
 exact Kr () rfl (.tmp rfl .nil) [1] en
theorem fn17 (tP : Value) (ta : Option Addr) (tk : Nat) (tT : List Int) (tI : Int) (funcs : Int) (htI : 0 ≤ tI ∧ tI ≤ (tT.length : Int)) (hfuncs_0 : i64ok funcs) (hfu : funcs ≤ 3) (rr : GStmt × Int) (hrr : tp_stmt tT tI funcs = rr) : FT Tryz.prog 17 #[tP, vi funcs] [Cl tP [vl ta tk tT, vi tI], S ta tk tT] (fun g : Value × Value => i64ok rr.1.Op ∧ rr.1.Def.b.length ≤ 140737488355328 ∧ (0 ≤ rr.2 ∧ rr.2 ≤ (tT.length : Int))) (fun g => .agg #[vi rr.1.Op, .string (bs rr.1.Def), g.1, g.2]) (fun g => [os g.1 rr.1.Uses, os g.2 rr.1.Targets, Cl tP [vl ta tk tT, vi rr.2]]) := by
 refine FTi Tryz.func17 fun w0 M0 F0 => ?_
 unfold i64ok at hfuncs_0
 refine Fb 8 1 fun _ => Fo 1 fun ho2 => KS ?_
 refine Oa (Al ze37 [vi 0, .string (bs (Str.mk [])), .slice none 0 0, .slice none 0 0]) fun p3 => KS ?_
 refine Oq Vm ?_
 refine letv (tp_Next tT tI 9) fun rv4 hg5 => ?_
 have hc6 := fn15 tP ta tk tT tI 9 pre pre rv4 hg5
 refine Oc [1, 1] ca15 hc6 ?_
 rintro - ⟨he7, he8, he9⟩
 unfold i64ok at he7
 refine KS ?_
 refine Oq Veql (Oq Va (KS ?_))
 refine Kc ?_ ?_
 ·intro h10
  have g11 := eq_of_beq h10
  refine KS ?_
  refine Oq Vm ?_
  refine letv (tp_name tT rv4.2) fun rv12 hg13 => ?_
  have hc14 := fn19 tP ta tk tT rv4.2 pre rv12 hg13
  refine Oc [0, 1] ca19 hc14 ?_
  rintro - ⟨he15, he16⟩
  refine Oq Vm ?_
  refine letv (tp_name tT rv12.2) fun rv17 hg18 => ?_
  have hc19 := fn19 tP ta tk tT rv12.2 pre rv17 hg18
  refine Oc [0, 1] ca19 hc19 ?_
  rintro - ⟨he20, he21⟩
  refine Oa (AsV sl35 sz35 [.string (bs rv12.1), .string (bs rv17.1)] [.string (bs rv12.1), .string (bs rv17.1)]) fun c22 => ?_
  refine Jo 0 ?_; rintro a23 k24 rfl
  refine Oq Vm ?_
  refine letv (tp_Next tT rv17.2 2) fun rv25 hg26 => ?_
  have hc27 := fn15 tP ta tk tT rv17.2 2 pre pre rv25 hg26
  refine Oc [1, 2] ca15 hc27 ?_
  rintro - ⟨he28, he29, he30⟩
  unfold i64ok at he28
  refine Oq Vadd ?_
  refine Jl [1] (Ent.crOs (α := Str) (A := []) _ ([rv12.1, rv17.1] : List Str) _ aB1 (fun h => ⟨[.string (bs rv12.1)], [.string (bs rv17.1)], rfl, (fun _ => ⟨rfl, by first | omega | (simp; done) | (dsimp only; omega) | exact lit_bl rfl⟩) h, ⟨[.string (bs rv17.1)], [], rfl, (fun _ => ⟨rfl, by first | omega | (simp; done) | (dsimp only; omega) | exact lit_bl rfl⟩) h, rfl⟩⟩)) ?_
  refine Oa (AslO [0] sl35 0 (((1 + rv25.1) : Int).toNat)) fun c31 => ?_
  refine Jo 0 ?_; rintro a32 k33 rfl
  refine Fb 16 0 fun _ => ?_
  refine FoS 0 fun ho35 => ?_
  have hn36 : (([rv12.1, rv17.1].take (((1 + rv25.1) : Int).toNat)).drop 0).length = (((1 + rv25.1) : Int).toNat) - 0 := len_slice rng rng
  refine Oq (Vbd st37 [vi 2, .string (bs (Str.mk [])), .slice a32 ((([rv12.1, rv17.1].take (((1 + rv25.1) : Int).toNat)).drop 0).length) k33, .slice none 0 0]) (Ost (Scl [2] sh37 [vi 2, .string (bs (Str.mk [])), .slice a32 ((([rv12.1, rv17.1].take (((1 + rv25.1) : Int).toNat)).drop 0).length) k33, .slice none 0 0]) (KS ?_))
  refine Jl [] (Ent.osNil (α := Str)) ?_
  have hq := q4 hrr ((GStmt.mk 2 (Str.mk []) (([rv12.1, rv17.1].take (((1 + rv25.1) : Int).toNat)).drop 0) []), rv25.2) (by simp only [tp_stmt, h10, hg5, hg13, hg18, hg26, cs4]); subst hq
  exact Kr (.slice a32 ((([rv12.1, rv17.1].take (((1 + rv25.1) : Int).toNat)).drop 0).length) k33, .slice none 0 0) rfl (.cellN 1 rfl sh37 rfl (reads_Cl _ _) rfl .nil) [2, 0, 1] en
 intro h10
 have g37 := ne_of_beq_false h10
 refine KS ?_
 refine Oq Veql (Oq Va (KS ?_))
 refine Kc ?_ ?_
 ·intro h38
  have g39 := eq_of_beq h38
  refine KS ?_
  refine Oq Vm ?_
  refine letv (tp_name tT rv4.2) fun rv40 hg41 => ?_
  have hc42 := fn19 tP ta tk tT rv4.2 pre rv40 hg41
  refine Oc [0, 1] ca19 hc42 ?_
  rintro - ⟨he43, he44⟩
  refine Oq (Vbd st37 [vi 4, .string (bs rv40.1), .slice none 0 0, .slice none 0 0]) (Ost (Scl [1] sh37 [vi 4, .string (bs rv40.1), .slice none 0 0, .slice none 0 0]) (KS ?_))
  refine Jl [] (Ent.osNil (α := Str)) ?_
  refine Jl [] (Ent.osNil (α := Str)) ?_
  have hq := q4 hrr ((GStmt.mk 4 rv40.1 [] []), rv40.2) (by simp only [tp_stmt, h10, h38, hg5, hg41, cs4]); subst hq
  exact Kr (.slice none 0 0, .slice none 0 0) rfl (.cellN 2 rfl sh37 rfl (reads_Cl _ _) rfl .nil) [1, 0, 1] en
 intro h38
 have g45 := ne_of_beq_false h38
 refine KS ?_
 refine Oq Veql (Oq Va (KS ?_))
 refine Kc ?_ ?_
 ·intro h46
  have g47 := eq_of_beq h46
  refine KS ?_
  refine Oq Vm ?_
  refine letv (tp_name tT rv4.2) fun rv48 hg49 => ?_
  have hc50 := fn19 tP ta tk tT rv4.2 pre rv48 hg49
  refine Oc [0, 1] ca19 hc50 ?_
  rintro - ⟨he51, he52⟩
  refine Oa (AsV sl35 sz35 [.string (bs rv48.1)] [.string (bs rv48.1)]) fun c53 => ?_
  refine Jo 0 ?_; rintro a54 k55 rfl
  refine Oq (Vbd st37 [vi 5, .string (bs (Str.mk [])), .slice a54 1 k55, .slice none 0 0]) (Ost (Scl [2] sh37 [vi 5, .string (bs (Str.mk [])), .slice a54 1 k55, .slice none 0 0]) (KS ?_))
  refine Jl [1] (Ent.cr1 (α := Str) (A := []) _ rv48.1 _ aB1 (fun _ => ⟨rfl, aS1⟩)) ?_
  refine Jl [] (Ent.osNil (α := Str)) ?_
  have hq := q4 hrr ((GStmt.mk 5 (Str.mk []) [rv48.1] []), rv48.2) (by simp only [tp_stmt, h10, h38, h46, hg5, hg49, cs4]); subst hq
  exact Kr (.slice a54 1 k55, .slice none 0 0) rfl (.cellN 2 rfl sh37 rfl (reads_Cl _ _) rfl .nil) [1, 0, 1] en
 intro h46
 have g56 := ne_of_beq_false h46
 refine KS ?_
 refine Oq Veql (Oq Va (KS ?_))
 refine Kc ?_ ?_
 ·intro h57
  have g58 := eq_of_beq h57
  refine KS ?_
  refine Oq Vm ?_
  refine letv (tp_name tT rv4.2) fun rv59 hg60 => ?_
  have hc61 := fn19 tP ta tk tT rv4.2 pre rv59 hg60
  refine Oc [0, 1] ca19 hc61 ?_
  rintro - ⟨he62, he63⟩
  refine Oq (Vbd st37 [vi 6, .string (bs rv59.1), .slice none 0 0, .slice none 0 0]) (Ost (Scl [1] sh37 [vi 6, .string (bs rv59.1), .slice none 0 0, .slice none 0 0]) (KS ?_))
  refine Jl [] (Ent.osNil (α := Str)) ?_
  refine Jl [] (Ent.osNil (α := Str)) ?_
  have hq := q4 hrr ((GStmt.mk 6 rv59.1 [] []), rv59.2) (by simp only [tp_stmt, h10, h38, h46, h57, hg5, hg60, cs4]); subst hq
  exact Kr (.slice none 0 0, .slice none 0 0) rfl (.cellN 2 rfl sh37 rfl (reads_Cl _ _) rfl .nil) [1, 0, 1] en
 intro h57
 have g64 := ne_of_beq_false h57
 refine KS ?_
 refine Oq Veql (Oq Va (KS ?_))
 refine Kc ?_ ?_
 ·intro h65
  have g66 := eq_of_beq h65
  refine KS ?_
  refine Kc ?_ ?_
  ·intro h67
   have g68 := eq_of_beq h67
   refine KS ?_
   refine Oa (AsV sl35 sz35 [.string (bs (Str.mk [109])), .string (bs (Str.mk [102])), .string (bs (Str.mk [103]))] [.string (bs (Str.mk [109])), .string (bs (Str.mk [102])), .string (bs (Str.mk [103]))]) fun c69 => ?_
   refine Jo 0 ?_; rintro a70 k71 rfl
   refine Oq Vm (Oq Vm ?_)
   refine letv (tp_Next tT rv4.2 funcs) fun rv72 hg73 => ?_
   have hc74 := fn15 tP ta tk tT rv4.2 funcs pre pre rv72 hg73
   refine Oc [1, 2] ca15 hc74 ?_
   rintro - ⟨he75, he76, he77⟩
   unfold i64ok at he75
   refine Jl [1] (Ent.crOs (α := Str) (A := []) _ ([(Str.mk [109]), (Str.mk [102]), (Str.mk [103])] : List Str) _ aB1 (fun h => ⟨[.string (bs (Str.mk [109]))], [.string (bs (Str.mk [102])), .string (bs (Str.mk [103]))], rfl, (fun _ => ⟨rfl, by first | omega | (simp; done) | (dsimp only; omega) | exact lit_bl rfl⟩) h, ⟨[.string (bs (Str.mk [102]))], [.string (bs (Str.mk [103]))], rfl, (fun _ => ⟨rfl, by first | omega | (simp; done) | (dsimp only; omega) | exact lit_bl rfl⟩) h, ⟨[.string (bs (Str.mk [103]))], [], rfl, (fun _ => ⟨rfl, by first | omega | (simp; done) | (dsimp only; omega) | exact lit_bl rfl⟩) h, rfl⟩⟩⟩)) ?_
   refine Oq (Vi sl35 0) ?_
   refine Fb 16 0 fun _ => ?_
   refine FoS 0 fun ho79 => ?_
   have hb80 := okS (i := rv72.1.toNat) ho79 rng
   refine Oq (VldS sh9 0) (Oa (AsV sl35 sz35 [.string (bs ([(Str.mk [109]), (Str.mk [102]), (Str.mk [103])].getD rv72.1.toNat default))] [.string (bs ([(Str.mk [109]), (Str.mk [102]), (Str.mk [103])].getD rv72.1.toNat default))]) fun c81 => ?_)
   refine Jo 0 ?_; rintro a82 k83 rfl
   refine Oq (Vbd st37 [vi 3, .string (bs (Str.mk [])), .slice none 0 0, .slice a82 1 k83]) (Ost (Scl [3] sh37 [vi 3, .string (bs (Str.mk [])), .slice none 0 0, .slice a82 1 k83]) (KS ?_))
   refine Jl [] (Ent.osNil (α := Str)) ?_
   refine Jl [2] (Ent.cr1 (α := Str) (A := []) _ ([(Str.mk [109]), (Str.mk [102]), (Str.mk [103])].getD rv72.1.toNat default) _ aB1 (fun _ => ⟨rfl, aS1⟩)) ?_
   have hq := q4 hrr ((GStmt.mk 3 (Str.mk []) [] [([(Str.mk [109]), (Str.mk [102]), (Str.mk [103])].getD rv72.1.toNat default)]), rv72.2) (by simp only [tp_stmt, h10, h38, h46, h57, h65, h67, hg5, hg73, cs4]); subst hq
   exact Kr (.slice none 0 0, .slice a82 1 k83) rfl (.cellN 2 rfl sh37 rfl (reads_Cl _ _) rfl .nil) [1, 0, 2] en
  intro h67
  exact absurd h67 (by first | (simp [h65]; done) | (simp only [bne, h65]; decide) | (simp only [bne, h65, Bool.not_true, Bool.not_false]; decide) | (exfalso; omega) | (intro hq; simp only [bne, hq, Bool.not_false, Bool.not_true, reduceCtorEq] at h65))
 intro h65
 have g84 := ne_of_beq_false h65
 refine KS ?_
 refine Oq Veql (Oq Va (KS ?_))
 refine Kc ?_ ?_
 ·intro h85
  have g86 := eq_of_beq h85
  refine KS ?_
  refine Oa (AsV sl35 sz35 [.string (bs (Str.mk [109])), .string (bs (Str.mk [102])), .string (bs (Str.mk [103]))] [.string (bs (Str.mk [109])), .string (bs (Str.mk [102])), .string (bs (Str.mk [103]))]) fun c87 => ?_
  refine Jo 0 ?_; rintro a88 k89 rfl
  refine Oq Vm (Oq Vm ?_)
  refine letv (tp_Next tT rv4.2 funcs) fun rv90 hg91 => ?_
  have hc92 := fn15 tP ta tk tT rv4.2 funcs pre pre rv90 hg91
  refine Oc [1, 2] ca15 hc92 ?_
  rintro - ⟨he93, he94, he95⟩
  unfold i64ok at he93
  refine Jl [1] (Ent.crOs (α := Str) (A := []) _ ([(Str.mk [109]), (Str.mk [102]), (Str.mk [103])] : List Str) _ aB1 (fun h => ⟨[.string (bs (Str.mk [109]))], [.string (bs (Str.mk [102])), .string (bs (Str.mk [103]))], rfl, (fun _ => ⟨rfl, by first | omega | (simp; done) | (dsimp only; omega) | exact lit_bl rfl⟩) h, ⟨[.string (bs (Str.mk [102]))], [.string (bs (Str.mk [103]))], rfl, (fun _ => ⟨rfl, by first | omega | (simp; done) | (dsimp only; omega) | exact lit_bl rfl⟩) h, ⟨[.string (bs (Str.mk [103]))], [], rfl, (fun _ => ⟨rfl, by first | omega | (simp; done) | (dsimp only; omega) | exact lit_bl rfl⟩) h, rfl⟩⟩⟩)) ?_
  refine Oq (Vi sl35 0) ?_
  refine Fb 16 0 fun _ => ?_
  refine FoS 0 fun ho97 => ?_
  have hb98 := okS (i := rv90.1.toNat) ho97 rng
  refine Oq (VldS sh9 0) (Oa (AsV sl35 sz35 [.string (bs ([(Str.mk [109]), (Str.mk [102]), (Str.mk [103])].getD rv90.1.toNat default))] [.string (bs ([(Str.mk [109]), (Str.mk [102]), (Str.mk [103])].getD rv90.1.toNat default))]) fun c99 => ?_)
  refine Jo 0 ?_; rintro a100 k101 rfl
  refine Oq (Vbd st37 [vi 3, .string (bs (Str.mk [])), .slice none 0 0, .slice a100 1 k101]) (Ost (Scl [3] sh37 [vi 3, .string (bs (Str.mk [])), .slice none 0 0, .slice a100 1 k101]) (KS ?_))
  refine Jl [] (Ent.osNil (α := Str)) ?_
  refine Jl [2] (Ent.cr1 (α := Str) (A := []) _ ([(Str.mk [109]), (Str.mk [102]), (Str.mk [103])].getD rv90.1.toNat default) _ aB1 (fun _ => ⟨rfl, aS1⟩)) ?_
  have hq := q4 hrr ((GStmt.mk 3 (Str.mk []) [] [([(Str.mk [109]), (Str.mk [102]), (Str.mk [103])].getD rv90.1.toNat default)]), rv90.2) (by simp only [tp_stmt, h10, h38, h46, h57, h65, h85, hg5, hg91, cs4]); subst hq
  exact Kr (.slice none 0 0, .slice a100 1 k101) rfl (.cellN 2 rfl sh37 rfl (reads_Cl _ _) rfl .nil) [1, 0, 2] en
 intro h85
 have g102 := ne_of_beq_false h85
 refine KS ?_
 refine Oq Vm ?_
 refine letv (tp_name tT rv4.2) fun rv103 hg104 => ?_
 have hc105 := fn19 tP ta tk tT rv4.2 pre rv103 hg104
 refine Oc [0, 1] ca19 hc105 ?_
 rintro - ⟨he106, he107⟩
 refine Oq Vm ?_
 refine letv (tp_name tT rv103.2) fun rv108 hg109 => ?_
 have hc110 := fn19 tP ta tk tT rv103.2 pre rv108 hg109
 refine Oc [0, 1] ca19 hc110 ?_
 rintro - ⟨he111, he112⟩
 refine Oq Vm ?_
 refine letv (tp_name tT rv108.2) fun rv113 hg114 => ?_
 have hc115 := fn19 tP ta tk tT rv108.2 pre rv113 hg114
 refine Oc [0, 1] ca19 hc115 ?_
 rintro - ⟨he116, he117⟩
 refine Oq Vm ?_
 refine letv (tp_name tT rv113.2) fun rv118 hg119 => ?_
 have hc120 := fn19 tP ta tk tT rv113.2 pre rv118 hg119
 refine Oc [0, 1] ca19 hc120 ?_
 rintro - ⟨he121, he122⟩
 refine Oa (AsV sl35 sz35 [.string (bs rv108.1), .string (bs rv113.1), .string (bs rv118.1)] [.string (bs rv108.1), .string (bs rv113.1), .string (bs rv118.1)]) fun c123 => ?_
 refine Jo 0 ?_; rintro a124 k125 rfl
 refine Oq Vm ?_
 refine letv (tp_Next tT rv118.2 4) fun rv126 hg127 => ?_
 have hc128 := fn15 tP ta tk tT rv118.2 4 pre pre rv126 hg127
 refine Oc [1, 2] ca15 hc128 ?_
 rintro - ⟨he129, he130, he131⟩
 unfold i64ok at he129
 refine Jl [1] (Ent.crOs (α := Str) (A := []) _ ([rv108.1, rv113.1, rv118.1] : List Str) _ aB1 (fun h => ⟨[.string (bs rv108.1)], [.string (bs rv113.1), .string (bs rv118.1)], rfl, (fun _ => ⟨rfl, by first | omega | (simp; done) | (dsimp only; omega) | exact lit_bl rfl⟩) h, ⟨[.string (bs rv113.1)], [.string (bs rv118.1)], rfl, (fun _ => ⟨rfl, by first | omega | (simp; done) | (dsimp only; omega) | exact lit_bl rfl⟩) h, ⟨[.string (bs rv118.1)], [], rfl, (fun _ => ⟨rfl, by first | omega | (simp; done) | (dsimp only; omega) | exact lit_bl rfl⟩) h, rfl⟩⟩⟩)) ?_
 refine Oa (AslO [0] sl35 0 (rv126.1.toNat)) fun c132 => ?_
 refine Jo 0 ?_; rintro a133 k134 rfl
 refine Fb 16 0 fun _ => ?_
 refine FoS 0 fun ho136 => ?_
 have hn137 : (([rv108.1, rv113.1, rv118.1].take (rv126.1.toNat)).drop 0).length = (rv126.1.toNat) - 0 := len_slice rng rng
 refine Oq (Vbd st37 [vi 1, .string (bs rv103.1), vl a133 k134 (([rv108.1, rv113.1, rv118.1].take (rv126.1.toNat)).drop 0), .slice none 0 0]) (Ost (Scl [2] sh37 [vi 1, .string (bs rv103.1), vl a133 k134 (([rv108.1, rv113.1, rv118.1].take (rv126.1.toNat)).drop 0), .slice none 0 0]) (KS ?_))
 refine Jl [] (Ent.osNil (α := Str)) ?_
 have hq := q4 hrr ((GStmt.mk 1 rv103.1 (([rv108.1, rv113.1, rv118.1].take (rv126.1.toNat)).drop 0) []), rv126.2) (by simp only [tp_stmt, h10, h38, h46, h57, h65, h85, hg5, hg104, hg109, hg114, hg119, hg127, cs4]); subst hq
 exact Kr (vl a133 k134 (([rv108.1, rv113.1, rv118.1].take (rv126.1.toNat)).drop 0), .slice none 0 0) rfl (.cellN 1 rfl sh37 rfl (reads_Cl _ _) rfl .nil) [2, 0, 1] en
theorem fn37 (p : GProgram) (pa0 : Option Addr) (pk0 : Nat) (rr : GProgram) (hrr : g_CopyProgram p = rr) : FT Tryz.prog 37 #[.agg #[vl pa0 pk0 p.Funcs]] [S pa0 pk0 p.Funcs] (fun g : Value => True) (fun g => .agg #[g]) (fun g => [ds g rr.Funcs]) := by
 refine FTi Tryz.func37 fun w0 M0 F0 => Fb 40 0 fun _ => ?_
 refine KS ?_
 refine Oa (Ab [vl pa0 pk0 p.Funcs]) fun p2 => Oa (Al ze25 [.slice none 0 0]) fun p3 => KS ?_
 refine Oa (Al ze25 [.slice none 0 0]) fun p4 => KS ?_
 refine Oq Va (KS ?_)
 refine Jl [] (Ent.dsNil (α := GFunc)) ?_
 refine Kl (γ := Nat × List GFunc × Int × Option Addr × Nat) (fun (r5, q0_6, i_7, a8, k9) => ⟨[(1, p2), (2, p3), (3, p4), (4, vi i_7)], [D a8 k9 q0_6, Cl p4 [vl a8 k9 q0_6], Cl p3 [.slice none 0 0], pv p2 [vl pa0 pk0 p.Funcs], S pa0 pk0 p.Funcs], g_CopyProgram_L0 p r5 q0_6 i_7 = g_CopyProgram_L0 p (((p.Funcs.length : Int) - 0).toNat) [] 0 ∧ r5 = ((p.Funcs.length : Int) - i_7).toNat ∧ (0 : Int) ≤ i_7 ∧ i_7 ≤ (p.Funcs.length : Int) ∧ (-9223372036854775808 ≤ i_7 ∧ i_7 ≤ 9223372036854775807) ∧ (q0_6.length : Int) = i_7, r5⟩) (((p.Funcs.length : Int) - 0).toNat, [], 0, none, 0) [0, 0, 0, 0, 1] ⟨rfl, rfl, aM1, aM1, aM1, iv0⟩ ?_
 rintro ⟨r5, q0_6, i_7, a8, k9⟩ ⟨hM10, hr11, hi12, hi13, hk14, hv15⟩
 refine JJ_nx fun _ _ hL hA => ?_; dsimp only at hL hA; subst hL hA
 refine FbD 40 0 fun _ => ?_
 refine Fb 40 4 fun _ => KS ?_
 refine Oq Vm (Oq (Vfa fo25_0 3) (Oq (VldF sh23 3) (Oq (Vlen sl23) (Oq Vlss (KS ?_)))))
 refine Kc ?_ ?_
 ·intro h18
  have g19 := dt h18
  obtain ⟨r20, rfl⟩ := scc (n := r5) aM1
  refine KS ?_
  refine Oq (Vfa fo25_0 3) (Oq (VldF sh23 3) (Oq Vm (Oq (Vi sl23 4) ?_)))
  refine JJ_peek_GFunc i_7.toNat 4 rfl rng fun a21 k22 hb23 => ?_
  refine Fb 40 1 fun _ => ?_
  refine Oq (Vfa fo31_0 0) (Oq (VldF sh9 0) (Oq (Vbd st31 [.string (bs ((p.Funcs.getD i_7.toNat default).Name)), .slice none 0 0]) (Oa (Al ze31 [.string (bs (Str.mk [])), .slice none 0 0]) fun p25 => Ost (Scl [0] sh31 [.string (bs ((p.Funcs.getD i_7.toNat default).Name)), .slice none 0 0]) (KS ?_))))
  refine Oq Va (KS ?_)
  refine Jl [] (Ent.dsNil (α := GBlock)) ?_
  refine Kl (γ := Nat × List GBlock × Int × Option Addr × Nat) (fun (r26, f1_27, k_28, a29, k30) => ⟨[(1, p2), (2, p3), (3, p4), (4, vi i_7), (5, p25), (6, vi k_28)], [D a29 k30 f1_27, Cl p25 [.string (bs ((p.Funcs.getD i_7.toNat default).Name)), vl a29 k30 f1_27], D a8 k9 q0_6, Cl p4 [vl a8 k9 q0_6], Cl p3 [.slice none 0 0], pv p2 [vl pa0 pk0 p.Funcs], S pa0 pk0 p.Funcs], g_CopyProgram_L1 p i_7 r26 f1_27 k_28 = g_CopyProgram_L1 p i_7 ((((((p.Funcs.getD i_7.toNat default).Blocks).length : Int) : Int) - 0).toNat) [] 0 ∧ r26 = (((((p.Funcs.getD i_7.toNat default).Blocks).length : Int) : Int) - k_28).toNat ∧ (0 : Int) ≤ k_28 ∧ (k_28 ≤ (((p.Funcs.getD i_7.toNat default).Blocks).length : Int) ∨ k_28 = 0) ∧ (-9223372036854775808 ≤ k_28 ∧ k_28 ≤ 9223372036854775807) ∧ (f1_27.length : Int) = k_28, r26⟩) ((((((p.Funcs.getD i_7.toNat default).Blocks).length : Int) : Int) - 0).toNat, [], 0, none, 0) [0, 0, 2, 2, 2, 2, 3] ⟨rfl, rfl, aM1, (.inr rfl), aM1, iv0⟩ ?_
  rintro ⟨r26, f1_27, k_28, a29, k30⟩ ⟨hM31, hr32, hi33, hi34, hk35, hv36⟩
  refine JJ_nx fun _ _ hL hA => ?_; dsimp only at hL hA; subst hL hA
  refine FbD 40 0 fun _ => ?_
  refine FbD 40 2 fun _ => ?_
  refine Fb 40 6 fun _ => KS ?_
  refine Oq Vm (Oq (Vfa fo25_0 5) (Oq (VldF sh23 5) (Oq Vm (Oq (Vi sl23 6) ?_))))
  refine JJ_peek_GFunc i_7.toNat 6 rfl rng fun a40 k41 hb42 => ?_
  refine Fb 40 1 fun _ => ?_
  refine Oq (Vfa fo31_1 0) (Oq (VldF sh29 0) (Oq (Vlen sl29) (Oq Vlss (KS ?_))))
  refine Kc ?_ ?_
  ·intro h44
   have g45 := dt h44
   obtain ⟨r46, rfl⟩ := scc (n := r26) aM1
   refine KS ?_
   refine Oq (Vfa fo25_0 7) (Oq (VldF sh23 7) (Oq Vm (Oq (Vi sl23 8) (Oq (Vfa fo31_1 0) (Oq (VldF sh29 0) (Oq Vm (Oq (Vi sl29 1) ?_)))))))
   refine JJ_peek_GBlock k_28.toNat 1 rfl rng fun a47 k48 hb49 => ?_
   refine Fb 72 1 fun _ => ?_
   refine Oq (Vfa fo34_0 0) (Oq (VldF sh9 0) (Oq (Vbd st34 [.string (bs ((((p.Funcs.getD i_7.toNat default).Blocks).getD k_28.toNat default).Name)), .slice none 0 0]) (Oa (Al ze34 [.string (bs (Str.mk [])), .slice none 0 0]) fun p51 => Ost (Scl [0] sh34 [.string (bs ((((p.Funcs.getD i_7.toNat default).Blocks).getD k_28.toNat default).Name)), .slice none 0 0]) (KS ?_))))
   refine Oq Va (KS ?_)
   refine Jl [] (Ent.dsNil (α := GStmt)) ?_
   refine Kl (γ := Nat × List GStmt × Int × Option Addr × Nat) (fun (r52, b1_53, j_54, a55, k56) => ⟨[(1, p2), (2, p3), (3, p4), (4, vi i_7), (5, p25), (6, vi k_28), (7, p51), (8, vi j_54)], [D a55 k56 b1_53, Cl p51 [.string (bs ((((p.Funcs.getD i_7.toNat default).Blocks).getD k_28.toNat default).Name)), vl a55 k56 b1_53], D a29 k30 f1_27, Cl p25 [.string (bs ((p.Funcs.getD i_7.toNat default).Name)), vl a29 k30 f1_27], D a8 k9 q0_6, Cl p4 [vl a8 k9 q0_6], Cl p3 [.slice none 0 0], pv p2 [vl pa0 pk0 p.Funcs], S pa0 pk0 p.Funcs], g_CopyProgram_L2 p i_7 k_28 r52 b1_53 j_54 = g_CopyProgram_L2 p i_7 k_28 ((((((((p.Funcs.getD i_7.toNat default).Blocks).getD k_28.toNat default).Stmts).length : Int) : Int) - 0).toNat) [] 0 ∧ r52 = (((((((p.Funcs.getD i_7.toNat default).Blocks).getD k_28.toNat default).Stmts).length : Int) : Int) - j_54).toNat ∧ (0 : Int) ≤ j_54 ∧ (j_54 ≤ (((((p.Funcs.getD i_7.toNat default).Blocks).getD k_28.toNat default).Stmts).length : Int) ∨ j_54 = 0) ∧ (-9223372036854775808 ≤ j_54 ∧ j_54 ≤ 9223372036854775807) ∧ (b1_53.length : Int) = j_54, r52⟩) ((((((((p.Funcs.getD i_7.toNat default).Blocks).getD k_28.toNat default).Stmts).length : Int) : Int) - 0).toNat, [], 0, none, 0) [0, 0, 4, 4, 4, 4, 4, 4, 5] ⟨rfl, rfl, aM1, (.inr rfl), aM1, iv0⟩ ?_
   rintro ⟨r52, b1_53, j_54, a55, k56⟩ ⟨hM57, hr58, hi59, hi60, hk61, hv62⟩
   refine JJ_nx fun _ _ hL hA => ?_; dsimp only at hL hA; subst hL hA
   refine FbD 72 0 fun _ => ?_
   refine FbD 40 2 fun _ => ?_
   refine FbD 40 4 fun _ => ?_
   refine Fb 40 8 fun _ => KS ?_
   refine Oq Vm (Oq (Vfa fo25_0 7) (Oq (VldF sh23 7) (Oq Vm (Oq (Vi sl23 8) ?_))))
   refine JJ_peek_GFunc i_7.toNat 8 rfl rng fun a67 k68 hb69 => ?_
   refine Fb 40 1 fun _ => ?_
   refine Oq (Vfa fo31_1 0) (Oq (VldF sh29 0) (Oq Vm (Oq (Vi sl29 1) ?_)))
   refine JJ_peek_GBlock k_28.toNat 1 rfl rng fun a71 k72 hb73 => ?_
   refine Fb 72 1 fun _ => ?_
   refine Oq (Vfa fo34_1 0) (Oq (VldF sh32 0) (Oq (Vlen sl32) (Oq Vlss (KS ?_))))
   refine Kc ?_ ?_
   ·intro h75
    have g76 := dt h75
    obtain ⟨r77, rfl⟩ := scc (n := r52) aM1
    refine KS ?_
    refine Oq (Vfa fo25_0 11) (Oq (VldF sh23 11) (Oq Vm (Oq (Vi sl23 12) (Oq (Vfa fo31_1 2) (Oq (VldF sh29 2) (Oq Vm (Oq (Vi sl29 3) (Oq (Vfa fo34_1 0) (Oq (VldF sh32 0) ?_)))))))))
    refine Oq Vm (Oq (Vi sl32 1) ?_)
    refine JJ_peek_GStmt j_54.toNat 1 rfl rng fun a78 k79 a80 k81 hb82 hb83 => ?_
    unfold i64ok at hb82
    refine Fb 16 1 fun _ => ?_
    refine FoS 1 fun ho85 => ?_
    refine Fb 16 2 fun _ => ?_
    refine FoS 2 fun ho87 => ?_
    refine Oq (VldA sh37 0) (Oa (Al ze37 [vi 0, .string (bs (Str.mk [])), .slice none 0 0, .slice none 0 0]) fun p88 => Ost (Scl [0] sh37 [vi ((((((p.Funcs.getD i_7.toNat default).Blocks).getD k_28.toNat default).Stmts).getD j_54.toNat default).Op), .string (bs ((((((p.Funcs.getD i_7.toNat default).Blocks).getD k_28.toNat default).Stmts).getD j_54.toNat default).Def)), .slice a78 (((((((p.Funcs.getD i_7.toNat default).Blocks).getD k_28.toNat default).Stmts).getD j_54.toNat default).Uses).length) k79, .slice a80 (((((((p.Funcs.getD i_7.toNat default).Blocks).getD k_28.toNat default).Stmts).getD j_54.toNat default).Targets).length) k81]) (KS ?_))
    refine Jp 0 fun hp89 => ?_
    refine JK_drawK [0, 0, 2, 7, 0, 0, 32, 127, 111, 511, 1023, 2047] fmix ?_
    refine Dx [] [] [0] (fun G => (G.g 0 0)) [fun G => Cr (G.g 0 0) 0 []] (fun G => xA (As0 sl35)) (Dv [0] (Vfa fo37_2 0) (Dv [1] (VldF sh35 0) (Dx [3, 18] [18] [1, 0] (fun G => (G.g 3 0)) [fun G => os (G.g 3 0) ((((((p.Funcs.getD i_7.toNat default).Blocks).getD k_28.toNat default).Stmts).getD j_54.toNat default).Uses)] (fun G => xp [1] rfl (Ent.crNil (α := Str) _) (xA (Ap0 [0, 0] sl35 sl35 sz35))) (Dx [] [] [0] (fun G => (G.g 4 0)) [fun G => Cr (G.g 4 0) 0 []] (fun G => xA (As0 sl35)) (Dv [0] (Vfa fo37_3 0) (Dv [1] (VldF sh35 0) (Dx [4, 20] [20] [1, 0] (fun G => (G.g 7 0)) [fun G => os (G.g 7 0) ((((((p.Funcs.getD i_7.toNat default).Blocks).getD k_28.toNat default).Stmts).getD j_54.toNat default).Targets)] (fun G => xp [1] rfl (Ent.crNil (α := Str) _) (xA (Ap0 [0, 0] sl35 sl35 sz35))) (Dv [0] (Vfa fo37_2 0) (Dx0 [1, 19] [1] [1, 0] [fun G => Cl p88 [vi ((((((p.Funcs.getD i_7.toNat default).Blocks).getD k_28.toNat default).Stmts).getD j_54.toNat default).Op), .string (bs ((((((p.Funcs.getD i_7.toNat default).Blocks).getD k_28.toNat default).Stmts).getD j_54.toNat default).Def)), (G.g 3 0), .slice a80 (((((((p.Funcs.getD i_7.toNat default).Blocks).getD k_28.toNat default).Stmts).getD j_54.toNat default).Targets).length) k81]] (fun G => x1 1 rfl os_one fun ho94 => (xS (OpS.frame [0] rfl (OpS.storeClF [(G.g 3 0)] [vi ((((((p.Funcs.getD i_7.toNat default).Blocks).getD k_28.toNat default).Stmts).getD j_54.toNat default).Op), .string (bs ((((((p.Funcs.getD i_7.toNat default).Blocks).getD k_28.toNat default).Stmts).getD j_54.toNat default).Def)), (G.g 3 0), .slice a80 (((((((p.Funcs.getD i_7.toNat default).Blocks).getD k_28.toNat default).Stmts).getD j_54.toNat default).Targets).length) k81] rfl rfl rfl sh35 (cells_of_one ho94) rfl (by simp only [List.all_cons, List.all_nil, ho94, Bool.and_true, Bool.true_and] <;> rfl) aB1 rfl)))) ?_)))))))))
    refine Dv [0] (Vfa fo37_3 0) (Dx0 [21, 22] [22] [1, 0] [fun G => Cl p88 [vi ((((((p.Funcs.getD i_7.toNat default).Blocks).getD k_28.toNat default).Stmts).getD j_54.toNat default).Op), .string (bs ((((((p.Funcs.getD i_7.toNat default).Blocks).getD k_28.toNat default).Stmts).getD j_54.toNat default).Def)), (G.g 3 0), (G.g 7 0)]] (fun G => x1 0 rfl os_one fun ho95 => (xS (OpS.frame [1] rfl (OpS.storeClF [(G.g 7 0)] [vi ((((((p.Funcs.getD i_7.toNat default).Blocks).getD k_28.toNat default).Stmts).getD j_54.toNat default).Op), .string (bs ((((((p.Funcs.getD i_7.toNat default).Blocks).getD k_28.toNat default).Stmts).getD j_54.toNat default).Def)), (G.g 3 0), (G.g 7 0)] rfl rfl rfl sh35 (cells_of_one ho95) rfl (by simp only [List.all_cons, List.all_nil, ho95, Bool.and_true, Bool.true_and] <;> rfl) aB1 rfl)))) ?_)
    refine Dn ⟨by kernel_rfl, fun G => ?_⟩
    refine Jw2 [(1, p2), (2, p3), (3, p4), (4, vi i_7), (5, p25), (6, vi k_28), (7, p51), (8, vi j_54), (9, p88)] [0, 2, 3, 4, 5, 6, 7, 8, 9, 10, 11, 12, 13, 14, 15, 16, 17] [os (G.g 3 0) ((((((p.Funcs.getD i_7.toNat default).Blocks).getD k_28.toNat default).Stmts).getD j_54.toNat default).Uses), os (G.g 7 0) ((((((p.Funcs.getD i_7.toNat default).Blocks).getD k_28.toNat default).Stmts).getD j_54.toNat default).Targets), Cl p88 [vi ((((((p.Funcs.getD i_7.toNat default).Blocks).getD k_28.toNat default).Stmts).getD j_54.toNat default).Op), .string (bs ((((((p.Funcs.getD i_7.toNat default).Blocks).getD k_28.toNat default).Stmts).getD j_54.toNat default).Def)), (G.g 3 0), (G.g 7 0)]] ?_
    generalize G.g 3 0 = c91, G.g 7 0 = c93
    refine Jk [1, 2, 3, 4, 5, 6, 7, 8, 8, 8, 8, 8, 8, 8, 8, 9, 10, 10, 10] ?_
    refine Jo 16 ?_; rintro a96 k97 rfl
    refine Jo 17 ?_; rintro a98 k99 rfl
    refine KS ?_
    refine Oq (Vfa fo34_1 8) (Oq (VldF sh32 8) (Oq (VldA sh37 18) (Oa (AsV sl32 sz32 [.agg #[vi ((((((p.Funcs.getD i_7.toNat default).Blocks).getD k_28.toNat default).Stmts).getD j_54.toNat default).Op), .string (bs ((((((p.Funcs.getD i_7.toNat default).Blocks).getD k_28.toNat default).Stmts).getD j_54.toNat default).Def)), .slice a96 (((((((p.Funcs.getD i_7.toNat default).Blocks).getD k_28.toNat default).Stmts).getD j_54.toNat default).Uses).length) k97, .slice a98 (((((((p.Funcs.getD i_7.toNat default).Blocks).getD k_28.toNat default).Stmts).getD j_54.toNat default).Targets).length) k99]] [vi ((((((p.Funcs.getD i_7.toNat default).Blocks).getD k_28.toNat default).Stmts).getD j_54.toNat default).Op), .string (bs ((((((p.Funcs.getD i_7.toNat default).Blocks).getD k_28.toNat default).Stmts).getD j_54.toNat default).Def)), .slice a96 (((((((p.Funcs.getD i_7.toNat default).Blocks).getD k_28.toNat default).Stmts).getD j_54.toNat default).Uses).length) k97, .slice a98 (((((((p.Funcs.getD i_7.toNat default).Blocks).getD k_28.toNat default).Stmts).getD j_54.toNat default).Targets).length) k99]) fun c100 => ?_)))
    refine Jo 0 ?_; rintro a101 k102 rfl
    refine Jl [0, 16, 16] (Ent.crD (α := GStmt) (A := [O a96 k97 ((((((p.Funcs.getD i_7.toNat default).Blocks).getD k_28.toNat default).Stmts).getD j_54.toNat default).Uses), O a98 k99 ((((((p.Funcs.getD i_7.toNat default).Blocks).getD k_28.toNat default).Stmts).getD j_54.toNat default).Targets)]) _ (((((p.Funcs.getD i_7.toNat default).Blocks).getD k_28.toNat default).Stmts).getD j_54.toNat default) _ aB1 (innmk_GStmt (z0 := (((((p.Funcs.getD i_7.toNat default).Blocks).getD k_28.toNat default).Stmts).getD j_54.toNat default).Op) (z1 := (((((p.Funcs.getD i_7.toNat default).Blocks).getD k_28.toNat default).Stmts).getD j_54.toNat default).Def) aD1 aD1)) ?_
    refine Oa (ApD [8, 0] sl32 sl32 sz32) fun c103 => ?_
    refine Jo 0 ?_; rintro a104 k105 rfl
    refine FbD 72 0 fun _ => ?_
    have hn107 := la b1_53 ([(((((p.Funcs.getD i_7.toNat default).Blocks).getD k_28.toNat default).Stmts).getD j_54.toNat default)] : List GStmt)
    refine Oq (Vfa fo34_1 8) (Ost (SclF [8] sh32 [.string (bs ((((p.Funcs.getD i_7.toNat default).Blocks).getD k_28.toNat default).Name)), .slice a104 ((b1_53 ++ [(((((p.Funcs.getD i_7.toNat default).Blocks).getD k_28.toNat default).Stmts).getD j_54.toNat default)]).length) k105]) (KS ?_))
    refine Oq Vm (Oq Vadd (Oq Va (KS ?_)))
    exact Kg (r77, (b1_53 ++ [(((((p.Funcs.getD i_7.toNat default).Blocks).getD k_28.toNat default).Stmts).getD j_54.toNat default)]), (j_54 + 1), a104, k105) [1, 0, 7, 7, 7, 7, 7, 7, 8] ⟨(q3 hM57 (by simp only [g_CopyProgram_L2, h75, cs4])), aM1, aM1, aM1, aM1, iv1⟩
   intro h75
   have g108 := df h75
   obtain rfl : r52 = 0 := by omega
   refine Ke ?_
   have hR109 := q2 hM57 b1_53 (by simp only [g_CopyProgram_L2, h75, cs4])
   refine KS ?_
   refine Oq (Vfa fo31_1 7) (Oq (VldF sh29 7) (Oq (VldA sh34 5) (Oa (AsV sl29 sz29 [.agg #[.string (bs ((((p.Funcs.getD i_7.toNat default).Blocks).getD k_28.toNat default).Name)), vl a55 k56 b1_53]] [.string (bs ((((p.Funcs.getD i_7.toNat default).Blocks).getD k_28.toNat default).Name)), vl a55 k56 b1_53]) fun c110 => ?_)))
   refine Jo 0 ?_; rintro a111 k112 rfl
   refine Jl [0, 4] (Ent.crD (α := GBlock) (A := [D a55 k56 b1_53]) _ (GBlock.mk ((((p.Funcs.getD i_7.toNat default).Blocks).getD k_28.toNat default).Name) b1_53) _ aB1 (innmk_GBlock (z0 := (((p.Funcs.getD i_7.toNat default).Blocks).getD k_28.toNat default).Name) aD1)) ?_
   refine Oa (ApD [6, 0] sl29 sl29 sz29) fun c113 => ?_
   refine Jo 0 ?_; rintro a114 k115 rfl
   refine FbD 40 0 fun _ => ?_
   have hn117 := la f1_27 ([(GBlock.mk ((((p.Funcs.getD i_7.toNat default).Blocks).getD k_28.toNat default).Name) b1_53)] : List GBlock)
   refine Oq (Vfa fo31_1 6) (Ost (SclF [6] sh29 [.string (bs ((p.Funcs.getD i_7.toNat default).Name)), .slice a114 ((f1_27 ++ [(GBlock.mk ((((p.Funcs.getD i_7.toNat default).Blocks).getD k_28.toNat default).Name) b1_53)]).length) k115]) (KS ?_))
   refine Oq Vm (Oq Vadd (Oq Va (KS ?_)))
   exact Kg (r46, (f1_27 ++ [(GBlock.mk ((((p.Funcs.getD i_7.toNat default).Blocks).getD k_28.toNat default).Name) b1_53)]), (k_28 + 1), a114, k115) [1, 0, 5, 5, 5, 5, 6] ⟨(q3 hM31 (by simp only [g_CopyProgram_L1, h44, h75, hR109, cs4])), aM1, aM1, aM1, aM1, iv1⟩
  intro h44
  have g118 := df h44
  obtain rfl : r26 = 0 := by omega
  refine Ke ?_
  have hR119 := q2 hM31 f1_27 (by simp only [g_CopyProgram_L1, h44, cs4])
  refine KS ?_
  refine Oq (Vfa fo25_0 5) (Oq (VldF sh23 5) (Oq (VldA sh31 3) (Oa (AsV sl23 sz23 [.agg #[.string (bs ((p.Funcs.getD i_7.toNat default).Name)), vl a29 k30 f1_27]] [.string (bs ((p.Funcs.getD i_7.toNat default).Name)), vl a29 k30 f1_27]) fun c120 => ?_)))
  refine Jo 0 ?_; rintro a121 k122 rfl
  refine Jl [0, 2] (Ent.crD (α := GFunc) (A := [D a29 k30 f1_27]) _ (GFunc.mk ((p.Funcs.getD i_7.toNat default).Name) f1_27) _ aB1 (innmk_GFunc (z0 := (p.Funcs.getD i_7.toNat default).Name) aD1)) ?_
  refine Oa (ApD [4, 0] sl23 sl23 sz23) fun c123 => ?_
  refine Jo 0 ?_; rintro a124 k125 rfl
  refine FbD 40 0 fun _ => ?_
  have hn127 := la q0_6 ([(GFunc.mk ((p.Funcs.getD i_7.toNat default).Name) f1_27)] : List GFunc)
  refine Oq (Vfa fo25_0 4) (Ost (SclF [4] sh23 [.slice a124 ((q0_6 ++ [(GFunc.mk ((p.Funcs.getD i_7.toNat default).Name) f1_27)]).length) k125]) (KS ?_))
  refine Oq Vm (Oq Vadd (Oq Va (KS ?_)))
  exact Kg (r20, (q0_6 ++ [(GFunc.mk ((p.Funcs.getD i_7.toNat default).Name) f1_27)]), (i_7 + 1), a124, k125) [1, 0, 3, 3, 4] ⟨(q3 hM10 (by simp only [g_CopyProgram_L0, h18, h44, hR119, cs4])), aM1, aM1, aM1, aM1, iv1⟩
 intro h18
 have g128 := df h18
 obtain rfl : r5 = 0 := by omega
 refine Ke ?_
 have hR129 := q2 hM10 q0_6 (by simp only [g_CopyProgram_L0, h18, cs4])
 refine KS ?_
 refine Oq (VldA sh25 1) (Ost (Scl [2] sh25 [vl a8 k9 q0_6]) (KS ?_))
 have hq := q4 hrr (GProgram.mk q0_6) (by simp only [g_CopyProgram, h18, hR129, cs4]); subst hq
 exact Kr (vl a8 k9 q0_6) rfl (.cellN 0 rfl sh25 rfl (reads_Cl _ _) rfl .nil) [1] trivial
theorem fn14 (tP : Value) (ta : Option Addr) (tk : Nat) (tT : List Int) (tI : Int) (p : GProgram) (pa0 : Option Addr) (pk0 : Nat) (htI : 0 ≤ tI ∧ tI ≤ (tT.length : Int)) (hsp : SpP p) (rr : GProgram × Int) (hrr : tp_SpoilProgram tT tI p = rr) : FT Tryz.prog 14 #[tP, .agg #[vl pa0 pk0 p.Funcs]] [Cl tP [vl ta tk tT, vi tI], S ta tk tT, S pa0 pk0 p.Funcs] (fun g : Value => (0 ≤ rr.2 ∧ rr.2 ≤ (tT.length : Int))) (fun g => .agg #[g]) (fun g => [sl g rr.1.Funcs, Cl tP [vl ta tk tT, vi rr.2]]) := by
 refine FTi Tryz.func14 fun w0 M0 F0 => Fb 8 1 fun _ => Fo 1 fun ho2 => Fb 40 2 fun _ => ?_
 refine KS ?_
 refine Oa (Ab [vl pa0 pk0 p.Funcs]) fun p4 => Oa (Al ze25 [.slice none 0 0]) fun p5 => KS ?_
 refine Oq (VldA sh25 1) ?_
 refine letv (g_CopyProgram p) fun rv7 hg8 => ?_
 have hc9 := fn37 p pa0 pk0 rv7 hg8
 refine Oc [4] ca37 hc9 ?_
 rintro c6 -
 refine Jo 0 ?_; rintro a10 k11 rfl
 refine FbD 40 0 fun _ => ?_
 refine Oa (Al ze25 [.slice none 0 0]) fun p13 => Ost (Scl [0] sh25 [vl a10 k11 rv7.Funcs]) (KS ?_)
 refine Jp 0 fun hp14 => ?_
 refine JK_drawK [0, 1, 0, 0, 8, 24, 60, 127, 255] fmix ?_
 refine Dv [0] (Vfa fo25_0 0) (Dv [1] (VldF sh23 0) (Dv [] Vm (Dv [0] (Vfa fo25_0 0) (Dv [1] (VldF sh23 0) (Dv [] (Vlen sl23) ?_)))))
 refine letv (tp_Next tT tI (rv7.Funcs.length : Int)) fun rv15 hg16 => ?_
 have hs1 := spoil_1 hsp (by assumption) hg16
 refine Dx [5, 6] [5] [2, 0, 1] (fun G => vi rv15.1) [fun G => SP.fact (i64ok rv15.1 ∧ (0 ≤ rv15.2 ∧ rv15.2 ≤ (tT.length : Int)) ∧ (0 ≤ rv15.1 ∧ (rv15.1 < (rv7.Funcs.length : Int) ∨ rv15.1 = 0))), fun G => Cl tP [vl ta tk tT, vi rv15.2]] (fun G => xC [0, 0] ca15 (fn15 tP ta tk tT tI ((rv7.Funcs.length : Int)) pre pre rv15 hg16)) ?_
 refine Dx [2, 8] [] [0, 0] (fun G => (eptr 2 (vl a10 k11 rv7.Funcs) rv15.1.toNat)) [] (fun G => by refine xf 1 rfl ?_; rintro ⟨he17, he18, he19⟩; unfold i64ok at he17; exact xV (Vi sl23 0)) (Dv [] Va ?_)
 refine Dn ⟨by kernel_rfl, fun G => ?_⟩
 refine Jw2 [(0, tP), (4, p5), (5, p13), (6, (eptr 2 (vl a10 k11 rv7.Funcs) rv15.1.toNat))] [0, 1, 2, 3, 4, 6, 7] [SP.fact (i64ok rv15.1 ∧ (0 ≤ rv15.2 ∧ rv15.2 ≤ (tT.length : Int)) ∧ (0 ≤ rv15.1 ∧ (rv15.1 < (rv7.Funcs.length : Int) ∨ rv15.1 = 0))), Cl tP [vl ta tk tT, vi rv15.2]] ?_
 refine Jf 7 rfl ?_; rintro ⟨he20, he21, he22⟩
 unfold i64ok at he20
 refine Jk [1, 1, 1, 1, 2, 3, 5] ?_
 refine KS ?_
 refine JJ_openD_GFunc rv15.1.toNat 1 rfl rng fun a23 k24 hb25 => ?_
 refine FbD 40 1 fun _ => ?_
 refine JK_drawK [0, 1, 3, 7, 0, 0, 32, 96, 224, 480, 1008, 2047, 4095] fmix ?_
 refine Dv [] Vm (Dv [0] (Vn 0) (Dv [0] (Vfa fo31_1 0) (Dv [0] (VldF sh29 0) (Dv [] Vm (Dv [] Vm (Dv [0] (Vn 0) (Dv [0] (Vfa fo31_1 0) (Dv [0] (VldF sh29 0) (Dv [] (Vlen sl29) ?_)))))))))
 refine letv (tp_Next tT rv15.2 (((rv7.Funcs.getD rv15.1.toNat default).Blocks).length : Int)) fun rv27 hg28 => Dx [5, 7] [7] [2, 0, 1] (fun G => vi rv27.1) [fun G => SP.fact (i64ok rv27.1 ∧ (0 ≤ rv27.2 ∧ rv27.2 ≤ (tT.length : Int)) ∧ (0 ≤ rv27.1 ∧ (rv27.1 < (((rv7.Funcs.getD rv15.1.toNat default).Blocks).length : Int) ∨ rv27.1 = 0))), fun G => Cl tP [vl ta tk tT, vi rv27.2]] (fun G => xC [1, 0] ca15 (fn15 tP ta tk tT rv15.2 ((((rv7.Funcs.getD rv15.1.toNat default).Blocks).length : Int)) pre pre rv27 hg28)) ?_
 refine Dx [1, 8] [] [0, 0] (fun G => (eptr 2 (vl a23 k24 ((rv7.Funcs.getD rv15.1.toNat default).Blocks)) rv27.1.toNat)) [] (fun G => by refine xf 1 rfl ?_; rintro ⟨he29, he30, he31⟩; unfold i64ok at he29; exact xV (Vi sl29 0)) (Dv [] Va ?_)
 refine Dn ⟨by kernel_rfl, fun G => ?_⟩
 refine Jw2 [(0, tP), (4, p5), (5, p13), (6, (eptr 2 (vl a10 k11 rv7.Funcs) rv15.1.toNat)), (7, (eptr 2 (vl a23 k24 ((rv7.Funcs.getD rv15.1.toNat default).Blocks)) rv27.1.toNat))] [0, 1, 2, 3, 4, 5, 6] [SP.fact (i64ok rv27.1 ∧ (0 ≤ rv27.2 ∧ rv27.2 ≤ (tT.length : Int)) ∧ (0 ≤ rv27.1 ∧ (rv27.1 < (((rv7.Funcs.getD rv15.1.toNat default).Blocks).length : Int) ∨ rv27.1 = 0))), Cl tP [vl ta tk tT, vi rv27.2]] ?_
 refine Jf 7 rfl ?_; rintro ⟨he32, he33, he34⟩
 unfold i64ok at he32
 refine Jk [0, 0, 0, 0, 0, 1, 2, 4] ?_
 refine KS ?_
 refine Oq Vm ?_
 refine JJ_openD_GBlock rv27.1.toNat 1 rfl rng fun a35 k36 hb37 => ?_
 refine FbD 72 1 fun _ => ?_
 refine Oq (Vn 0) (Oq (Vfa fo34_1 0) (Oq (VldF sh32 0) (Oq (Vlen sl32) (Oq Veql (KS ?_)))))
 refine Kc ?_ ?_
 ·intro h39
  have g40 := eq_of_beq h39
  refine KS ?_
  refine JK_drawK [0, 0, 2, 6, 14, 0, 32, 96, 254, 511, 1023, 2047] fmix ?_
  refine Dv [] Vm (Dv [] Vm (Dv [0] (Vn 0) (Dv [0] (Vfa fo34_1 0) (Dv [0] (VldF sh32 0) (Dv [] Vm ?_)))))
  refine letv (tp_stmt tT rv27.2 3) fun rv43 hg44 => ?_
  refine Dx [6, 8] [8] [4, 0, 1, 1, 1] (fun G => .agg #[vi rv43.1.Op, .string (bs rv43.1.Def), (G.g 6 0), (G.g 6 1)]) [fun G => SP.fact (i64ok rv43.1.Op ∧ rv43.1.Def.b.length ≤ 140737488355328 ∧ (0 ≤ rv43.2 ∧ rv43.2 ≤ (tT.length : Int))), fun G => os (G.g 6 0) rv43.1.Uses, fun G => os (G.g 6 1) rv43.1.Targets, fun G => Cl tP [vl ta tk tT, vi rv43.2]] (fun G => xC [1, 0] ca17 (fn17 tP ta tk tT rv27.2 3 pre pre pre rv43 hg44)) (Dx [] [] [0] (fun G => (G.g 7 0)) [fun G => Cr (G.g 7 0) 1 [vi rv43.1.Op, .string (bs rv43.1.Def), (G.g 6 0), (G.g 6 1)]] (fun G => xA (AsV sl32 sz32 [.agg #[vi rv43.1.Op, .string (bs rv43.1.Def), (G.g 6 0), (G.g 6 1)]] [vi rv43.1.Op, .string (bs rv43.1.Def), (G.g 6 0), (G.g 6 1)])) ?_)
  have hn47 := la ((((rv7.Funcs.getD rv15.1.toNat default).Blocks).getD rv27.1.toNat default).Stmts) ([rv43.1] : List GStmt)
  refine Dx [1, 9, 10, 11, 13] [1, 10, 11, 13] [1, 0] (fun G => (G.g 8 0)) [fun G => ds (G.g 8 0) (((((rv7.Funcs.getD rv15.1.toNat default).Blocks).getD rv27.1.toNat default).Stmts ++ [rv43.1]) : List GStmt)] (fun G => by refine xf 1 rfl ?_; rintro ⟨he48, he49, he50⟩; unfold i64ok at he48; exact xp [4, 2, 2] rfl (Ent.crD (α := GStmt) (A := [os (G.g 6 0) rv43.1.Uses, os (G.g 6 1) rv43.1.Targets]) _ rv43.1 _ aB1 (innmk_GStmt (z0 := rv43.1.Op) (z1 := rv43.1.Def) aD1 aD1)) (xA (ApD [1, 0] sl32 sl32 sz32))) (Dv [0] (Vn 0) (Dv [0] (Vfa fo34_1 0) (Dx0 [0, 14] [0] [1, 0] [fun G => dh (vl a23 k24 ((rv7.Funcs.getD rv15.1.toNat default).Blocks)) ((rv7.Funcs.getD rv15.1.toNat default).Blocks : List GBlock) rv27.1.toNat [.string (bs ((((rv7.Funcs.getD rv15.1.toNat default).Blocks).getD rv27.1.toNat default).Name)), (G.g 8 0)]] (fun G => x1 1 rfl ds_one fun ho51 => (xS (SoHr (α := GBlock) [0] sh32 [(G.g 8 0)] [.string (bs ((((rv7.Funcs.getD rv15.1.toNat default).Blocks).getD rv27.1.toNat default).Name)), (G.g 8 0)] (cells_of_one ho51) rfl (by simp only [List.all_cons, List.all_nil, ho51, Bool.and_true, Bool.true_and] <;> rfl)))) ?_)))
  refine Dn ⟨by kernel_rfl, fun G => ?_⟩
  refine Jw2 [(4, p5), (5, p13)] [2, 3, 4, 5, 6, 7] [SP.fact (i64ok rv43.1.Op ∧ rv43.1.Def.b.length ≤ 140737488355328 ∧ (0 ≤ rv43.2 ∧ rv43.2 ≤ (tT.length : Int))), Cl tP [vl ta tk tT, vi rv43.2], ds (G.g 8 0) (((((rv7.Funcs.getD rv15.1.toNat default).Blocks).getD rv27.1.toNat default).Stmts ++ [rv43.1]) : List GStmt), dh (vl a23 k24 ((rv7.Funcs.getD rv15.1.toNat default).Blocks)) ((rv7.Funcs.getD rv15.1.toNat default).Blocks : List GBlock) rv27.1.toNat [.string (bs ((((rv7.Funcs.getD rv15.1.toNat default).Blocks).getD rv27.1.toNat default).Name)), (G.g 8 0)]] ?_
  generalize G.g 8 0 = c46
  refine Jf 6 rfl ?_; rintro ⟨he52, he53, he54⟩
  unfold i64ok at he52
  refine Jk [0, 0, 0, 0, 1, 2, 4, 4, 4] ?_
  refine Jo 7 ?_; rintro a55 k56 rfl
  refine FbD 72 7 fun _ => ?_
  refine KS ?_
  refine Oq (VldA sh25 1) (Ost (Scl [2] sh25 [vl a10 k11 rv7.Funcs]) (KS ?_))
  refine Jl [8, 7] (Ent.closeD (A := [D a55 k56 (((((rv7.Funcs.getD rv15.1.toNat default).Blocks).getD rv27.1.toNat default).Stmts ++ [rv43.1]) : List GStmt)]) _ _ _ _ (GBlock.mk ((((rv7.Funcs.getD rv15.1.toNat default).Blocks).getD rv27.1.toNat default).Name) ((((rv7.Funcs.getD rv15.1.toNat default).Blocks).getD rv27.1.toNat default).Stmts ++ [rv43.1])) (innmk_GBlock (z0 := (((rv7.Funcs.getD rv15.1.toNat default).Blocks).getD rv27.1.toNat default).Name) aD1)) ?_
  refine Jl [2, 0] (Ent.closeD (A := [ds (vl a23 k24 ((rv7.Funcs.getD rv15.1.toNat default).Blocks)) ((((rv7.Funcs.getD rv15.1.toNat default).Blocks).set rv27.1.toNat (GBlock.mk ((((rv7.Funcs.getD rv15.1.toNat default).Blocks).getD rv27.1.toNat default).Name) ((((rv7.Funcs.getD rv15.1.toNat default).Blocks).getD rv27.1.toNat default).Stmts ++ [rv43.1]))) : List GBlock)]) _ _ _ _ (GFunc.mk ((rv7.Funcs.getD rv15.1.toNat default).Name) (((rv7.Funcs.getD rv15.1.toNat default).Blocks).set rv27.1.toNat (GBlock.mk ((((rv7.Funcs.getD rv15.1.toNat default).Blocks).getD rv27.1.toNat default).Name) ((((rv7.Funcs.getD rv15.1.toNat default).Blocks).getD rv27.1.toNat default).Stmts ++ [rv43.1])))) (innmk_GFunc (z0 := (rv7.Funcs.getD rv15.1.toNat default).Name) aD1)) ?_
  refine Jl [0] (Ent.dsF _ _) ?_
  have hq := q4 hrr ((GProgram.mk (rv7.Funcs.set rv15.1.toNat (GFunc.mk ((rv7.Funcs.getD rv15.1.toNat default).Name) (((rv7.Funcs.getD rv15.1.toNat default).Blocks).set rv27.1.toNat (GBlock.mk ((((rv7.Funcs.getD rv15.1.toNat default).Blocks).getD rv27.1.toNat default).Name) ((((rv7.Funcs.getD rv15.1.toNat default).Blocks).getD rv27.1.toNat default).Stmts ++ [rv43.1])))))), rv43.2) (by simp only [tp_SpoilProgram, h39, hg8, hg16, hg28, hg44, cs4]); subst hq
  exact Kr (vl a10 k11 rv7.Funcs) rfl (.cellN 1 rfl sh25 rfl (reads_Cl _ _) rfl .nil) [0, 6] en
 intro h39
 have g58 := ne_of_beq_false h39
 refine KS ?_
 refine JK_drawK [0, 1, 3, 7, 0, 0, 32, 96, 224, 480, 1008, 2047, 4095] fmix ?_
 refine Dv [] Vm (Dv [0] (Vn 0) (Dv [0] (Vfa fo34_1 0) (Dv [0] (VldF sh32 0) (Dv [] Vm (Dv [] Vm (Dv [0] (Vn 0) (Dv [0] (Vfa fo34_1 0) (Dv [0] (VldF sh32 0) (Dv [] (Vlen sl32) ?_)))))))))
 refine letv (tp_Next tT rv27.2 (((((rv7.Funcs.getD rv15.1.toNat default).Blocks).getD rv27.1.toNat default).Stmts).length : Int)) fun rv59 hg60 => ?_
 have hs2 := spoil_2 hsp (by assumption) rv15.1.toNat rv27.1.toNat
 have hs3 := spoil_3 hsp (by assumption) rv15.1.toNat rv27.1.toNat rv59.1.toNat
 refine Dx [6, 8] [8] [2, 0, 1] (fun G => vi rv59.1) [fun G => SP.fact (i64ok rv59.1 ∧ (0 ≤ rv59.2 ∧ rv59.2 ≤ (tT.length : Int)) ∧ (0 ≤ rv59.1 ∧ (rv59.1 < (((((rv7.Funcs.getD rv15.1.toNat default).Blocks).getD rv27.1.toNat default).Stmts).length : Int) ∨ rv59.1 = 0))), fun G => Cl tP [vl ta tk tT, vi rv59.2]] (fun G => xC [1, 0] ca15 (fn15 tP ta tk tT rv27.2 ((((((rv7.Funcs.getD rv15.1.toNat default).Blocks).getD rv27.1.toNat default).Stmts).length : Int)) pre pre rv59 hg60)) ?_
 refine Dx [1, 9] [] [0, 0] (fun G => (eptr 4 (.slice a35 (((((rv7.Funcs.getD rv15.1.toNat default).Blocks).getD rv27.1.toNat default).Stmts).length) k36) rv59.1.toNat)) [] (fun G => by refine xf 1 rfl ?_; rintro ⟨he61, he62, he63⟩; unfold i64ok at he61; exact xV (Vi sl32 0)) (Dv [] Va ?_)
 refine Dn ⟨by kernel_rfl, fun G => ?_⟩
 refine Jw2 [(0, tP), (4, p5), (5, p13), (6, (eptr 2 (vl a10 k11 rv7.Funcs) rv15.1.toNat)), (7, (eptr 2 (vl a23 k24 ((rv7.Funcs.getD rv15.1.toNat default).Blocks)) rv27.1.toNat)), (8, (eptr 4 (.slice a35 (((((rv7.Funcs.getD rv15.1.toNat default).Blocks).getD rv27.1.toNat default).Stmts).length) k36) rv59.1.toNat))] [0, 1, 2, 3, 4, 5, 6, 7] [SP.fact (i64ok rv59.1 ∧ (0 ≤ rv59.2 ∧ rv59.2 ≤ (tT.length : Int)) ∧ (0 ≤ rv59.1 ∧ (rv59.1 < (((((rv7.Funcs.getD rv15.1.toNat default).Blocks).getD rv27.1.toNat default).Stmts).length : Int) ∨ rv59.1 = 0))), Cl tP [vl ta tk tT, vi rv59.2]] ?_
 refine Jf 8 rfl ?_; rintro ⟨he64, he65, he66⟩
 unfold i64ok at he64
 refine Jk [0, 0, 0, 0, 0, 0, 1, 2, 4] ?_
 refine KS ?_
 refine Oq Vm ?_
 refine letv (tp_Next tT rv59.2 10) fun rv67 hg68 => ?_
 have hs4 := Next_r hg68 aM1
 have hc69 := fn15 tP ta tk tT rv59.2 10 pre pre rv67 hg68
 refine Oc [8, 6] ca15 hc69 ?_
 rintro - ⟨he70, he71, he72⟩
 unfold i64ok at he70
 refine KS ?_
 refine Oq Veql (Oq Va (KS ?_))
 refine Kc ?_ ?_
 ·intro h73
  have g74 := eq_of_beq h73
  refine KS ?_
  refine Oq Vm (Oa (AsV sl35 sz35 [.string (bs (Str.mk [109])), .string (bs (Str.mk [102])), .string (bs (Str.mk [49])), .string (bs (Str.mk [101, 110, 100])), .string (bs (Str.mk []))] [.string (bs (Str.mk [109])), .string (bs (Str.mk [102])), .string (bs (Str.mk [49])), .string (bs (Str.mk [101, 110, 100])), .string (bs (Str.mk []))]) fun c75 => ?_)
  refine Jo 0 ?_; rintro a76 k77 rfl
  refine Oq Vm ?_
  refine letv (tp_Next tT rv67.2 5) fun rv78 hg79 => ?_
  have hs4 := Next_r hg79 aM1
  have hc80 := fn15 tP ta tk tT rv67.2 5 pre pre rv78 hg79
  refine Oc [1, 7] ca15 hc80 ?_
  rintro - ⟨he81, he82, he83⟩
  unfold i64ok at he81
  refine Jl [1] (Ent.crOs (α := Str) (A := []) _ ([(Str.mk [109]), (Str.mk [102]), (Str.mk [49]), (Str.mk [101, 110, 100]), (Str.mk [])] : List Str) _ aB1 (fun h => ⟨[.string (bs (Str.mk [109]))], [.string (bs (Str.mk [102])), .string (bs (Str.mk [49])), .string (bs (Str.mk [101, 110, 100])), .string (bs (Str.mk []))], rfl, (fun _ => ⟨rfl, by first | omega | (simp; done) | (dsimp only; omega) | exact lit_bl rfl⟩) h, ⟨[.string (bs (Str.mk [102]))], [.string (bs (Str.mk [49])), .string (bs (Str.mk [101, 110, 100])), .string (bs (Str.mk []))], rfl, (fun _ => ⟨rfl, by first | omega | (simp; done) | (dsimp only; omega) | exact lit_bl rfl⟩) h, ⟨[.string (bs (Str.mk [49]))], [.string (bs (Str.mk [101, 110, 100])), .string (bs (Str.mk []))], rfl, (fun _ => ⟨rfl, by first | omega | (simp; done) | (dsimp only; omega) | exact lit_bl rfl⟩) h, ⟨[.string (bs (Str.mk [101, 110, 100]))], [.string (bs (Str.mk []))], rfl, (fun _ => ⟨rfl, by first | omega | (simp; done) | (dsimp only; omega) | exact lit_bl rfl⟩) h, ⟨[.string (bs (Str.mk []))], [], rfl, (fun _ => ⟨rfl, by first | omega | (simp; done) | (dsimp only; omega) | exact lit_bl rfl⟩) h, rfl⟩⟩⟩⟩⟩)) ?_
  refine Oq (Vi sl35 0) ?_
  refine Fb 16 0 fun _ => ?_
  refine FoS 0 fun ho85 => ?_
  have hb86 := okS (i := rv78.1.toNat) ho85 rng
  refine Oq (VldS sh9 0) (Oq (Vn 4) (Oq (Vfa fo31_0 4) (Ost (SoH (α := GFunc) [4] sh9 [.string (bs ([(Str.mk [109]), (Str.mk [102]), (Str.mk [49]), (Str.mk [101, 110, 100]), (Str.mk [])].getD rv78.1.toNat default)), vl a23 k24 ((rv7.Funcs.getD rv15.1.toNat default).Blocks)]) (KS ?_))))
  refine Oq (VldA sh25 5) (Ost (Scl [6] sh25 [vl a10 k11 rv7.Funcs]) (KS ?_))
  refine Jl [4, 4] (Ent.closeS (A := [D a35 k36 ((((rv7.Funcs.getD rv15.1.toNat default).Blocks).getD rv27.1.toNat default).Stmts)]) _ _ _ _ default (innmk_GBlock (z0 := (((rv7.Funcs.getD rv15.1.toNat default).Blocks).getD rv27.1.toNat default).Name) aD1)) ?_
  refine Jl [2, 0] (Ent.closeD (A := [D a23 k24 ((rv7.Funcs.getD rv15.1.toNat default).Blocks)]) _ _ _ _ (GFunc.mk ([(Str.mk [109]), (Str.mk [102]), (Str.mk [49]), (Str.mk [101, 110, 100]), (Str.mk [])].getD rv78.1.toNat default) ((rv7.Funcs.getD rv15.1.toNat default).Blocks)) (innmk_GFunc (z0 := ([(Str.mk [109]), (Str.mk [102]), (Str.mk [49]), (Str.mk [101, 110, 100]), (Str.mk [])].getD rv78.1.toNat default)) aD1)) ?_
  refine Jl [0] (Ent.dsF _ _) ?_
  have hq := q4 hrr ((GProgram.mk (rv7.Funcs.set rv15.1.toNat (GFunc.mk ([(Str.mk [109]), (Str.mk [102]), (Str.mk [49]), (Str.mk [101, 110, 100]), (Str.mk [])].getD rv78.1.toNat default) ((rv7.Funcs.getD rv15.1.toNat default).Blocks)))), rv78.2) (by simp only [tp_SpoilProgram, h39, h73, hg8, hg16, hg28, hg60, hg68, hg79, cs4]); subst hq
  exact Kr (vl a10 k11 rv7.Funcs) rfl (.cellN 1 rfl sh25 rfl (reads_Cl _ _) rfl .nil) [0, 3] en
 intro h73
 have g87 := ne_of_beq_false h73
 refine KS ?_
 refine Oq Veql (Oq Va (KS ?_))
 refine Kc ?_ ?_
 ·intro h88
  have g89 := eq_of_beq h88
  refine KS ?_
  refine Oq Vm (Oa (AsV sl35 sz35 [.string (bs (Str.mk [97])), .string (bs (Str.mk [98])), .string (bs (Str.mk [114, 101, 116, 117, 114, 110])), .string (bs (Str.mk [113, 95, 49])), .string (bs (Str.mk [120, 45, 121]))] [.string (bs (Str.mk [97])), .string (bs (Str.mk [98])), .string (bs (Str.mk [114, 101, 116, 117, 114, 110])), .string (bs (Str.mk [113, 95, 49])), .string (bs (Str.mk [120, 45, 121]))]) fun c90 => ?_)
  refine Jo 0 ?_; rintro a91 k92 rfl
  refine Oq Vm ?_
  refine letv (tp_Next tT rv67.2 5) fun rv93 hg94 => ?_
  have hs4 := Next_r hg94 aM1
  have hc95 := fn15 tP ta tk tT rv67.2 5 pre pre rv93 hg94
  refine Oc [1, 7] ca15 hc95 ?_
  rintro - ⟨he96, he97, he98⟩
  unfold i64ok at he96
  refine Jl [1] (Ent.crOs (α := Str) (A := []) _ ([(Str.mk [97]), (Str.mk [98]), (Str.mk [114, 101, 116, 117, 114, 110]), (Str.mk [113, 95, 49]), (Str.mk [120, 45, 121])] : List Str) _ aB1 (fun h => ⟨[.string (bs (Str.mk [97]))], [.string (bs (Str.mk [98])), .string (bs (Str.mk [114, 101, 116, 117, 114, 110])), .string (bs (Str.mk [113, 95, 49])), .string (bs (Str.mk [120, 45, 121]))], rfl, (fun _ => ⟨rfl, by first | omega | (simp; done) | (dsimp only; omega) | exact lit_bl rfl⟩) h, ⟨[.string (bs (Str.mk [98]))], [.string (bs (Str.mk [114, 101, 116, 117, 114, 110])), .string (bs (Str.mk [113, 95, 49])), .string (bs (Str.mk [120, 45, 121]))], rfl, (fun _ => ⟨rfl, by first | omega | (simp; done) | (dsimp only; omega) | exact lit_bl rfl⟩) h, ⟨[.string (bs (Str.mk [114, 101, 116, 117, 114, 110]))], [.string (bs (Str.mk [113, 95, 49])), .string (bs (Str.mk [120, 45, 121]))], rfl, (fun _ => ⟨rfl, by first | omega | (simp; done) | (dsimp only; omega) | exact lit_bl rfl⟩) h, ⟨[.string (bs (Str.mk [113, 95, 49]))], [.string (bs (Str.mk [120, 45, 121]))], rfl, (fun _ => ⟨rfl, by first | omega | (simp; done) | (dsimp only; omega) | exact lit_bl rfl⟩) h, ⟨[.string (bs (Str.mk [120, 45, 121]))], [], rfl, (fun _ => ⟨rfl, by first | omega | (simp; done) | (dsimp only; omega) | exact lit_bl rfl⟩) h, rfl⟩⟩⟩⟩⟩)) ?_
  refine Oq (Vi sl35 0) ?_
  refine Fb 16 0 fun _ => ?_
  refine FoS 0 fun ho100 => ?_
  have hb101 := okS (i := rv93.1.toNat) ho100 rng
  refine Oq (VldS sh9 0) (Oq (Vn 2) (Oq (Vfa fo34_0 2) (Ost (SoH (α := GBlock) [2] sh9 [.string (bs ([(Str.mk [97]), (Str.mk [98]), (Str.mk [114, 101, 116, 117, 114, 110]), (Str.mk [113, 95, 49]), (Str.mk [120, 45, 121])].getD rv93.1.toNat default)), .slice a35 (((((rv7.Funcs.getD rv15.1.toNat default).Blocks).getD rv27.1.toNat default).Stmts).length) k36]) (KS ?_))))
  refine Oq (VldA sh25 5) (Ost (Scl [6] sh25 [vl a10 k11 rv7.Funcs]) (KS ?_))
  refine Jl [1, 3] (Ent.closeD (A := [D a35 k36 ((((rv7.Funcs.getD rv15.1.toNat default).Blocks).getD rv27.1.toNat default).Stmts)]) _ _ _ _ (GBlock.mk ([(Str.mk [97]), (Str.mk [98]), (Str.mk [114, 101, 116, 117, 114, 110]), (Str.mk [113, 95, 49]), (Str.mk [120, 45, 121])].getD rv93.1.toNat default) ((((rv7.Funcs.getD rv15.1.toNat default).Blocks).getD rv27.1.toNat default).Stmts)) (innmk_GBlock (z0 := ([(Str.mk [97]), (Str.mk [98]), (Str.mk [114, 101, 116, 117, 114, 110]), (Str.mk [113, 95, 49]), (Str.mk [120, 45, 121])].getD rv93.1.toNat default)) aD1)) ?_
  refine Jl [4, 0] (Ent.closeD (A := [ds (vl a23 k24 ((rv7.Funcs.getD rv15.1.toNat default).Blocks)) ((((rv7.Funcs.getD rv15.1.toNat default).Blocks).set rv27.1.toNat (GBlock.mk ([(Str.mk [97]), (Str.mk [98]), (Str.mk [114, 101, 116, 117, 114, 110]), (Str.mk [113, 95, 49]), (Str.mk [120, 45, 121])].getD rv93.1.toNat default) ((((rv7.Funcs.getD rv15.1.toNat default).Blocks).getD rv27.1.toNat default).Stmts))) : List GBlock)]) _ _ _ _ (GFunc.mk ((rv7.Funcs.getD rv15.1.toNat default).Name) (((rv7.Funcs.getD rv15.1.toNat default).Blocks).set rv27.1.toNat (GBlock.mk ([(Str.mk [97]), (Str.mk [98]), (Str.mk [114, 101, 116, 117, 114, 110]), (Str.mk [113, 95, 49]), (Str.mk [120, 45, 121])].getD rv93.1.toNat default) ((((rv7.Funcs.getD rv15.1.toNat default).Blocks).getD rv27.1.toNat default).Stmts)))) (innmk_GFunc (z0 := (rv7.Funcs.getD rv15.1.toNat default).Name) aD1)) ?_
  refine Jl [0] (Ent.dsF _ _) ?_
  have hq := q4 hrr ((GProgram.mk (rv7.Funcs.set rv15.1.toNat (GFunc.mk ((rv7.Funcs.getD rv15.1.toNat default).Name) (((rv7.Funcs.getD rv15.1.toNat default).Blocks).set rv27.1.toNat (GBlock.mk ([(Str.mk [97]), (Str.mk [98]), (Str.mk [114, 101, 116, 117, 114, 110]), (Str.mk [113, 95, 49]), (Str.mk [120, 45, 121])].getD rv93.1.toNat default) ((((rv7.Funcs.getD rv15.1.toNat default).Blocks).getD rv27.1.toNat default).Stmts)))))), rv93.2) (by simp only [tp_SpoilProgram, h39, h73, h88, hg8, hg16, hg28, hg60, hg68, hg94, cs4]); subst hq
  exact Kr (vl a10 k11 rv7.Funcs) rfl (.cellN 1 rfl sh25 rfl (reads_Cl _ _) rfl .nil) [0, 3] en
 intro h88
 have g102 := ne_of_beq_false h88
 refine KS ?_
 refine Oq Veql (Oq Va (KS ?_))
 refine Kc ?_ ?_
 ·intro h103
  have g104 := eq_of_beq h103
  refine KS ?_
  refine Oq Vm (Oq Vm ?_)
  refine letv (tp_Next tT rv67.2 11) fun rv105 hg106 => ?_
  have hs4 := Next_r hg106 aM1
  have hc107 := fn15 tP ta tk tT rv67.2 11 pre pre rv105 hg106
  refine Oc [0, 6] ca15 hc107 ?_
  rintro - ⟨he108, he109, he110⟩
  unfold i64ok at he108
  refine JJ_openD_GStmt rv59.1.toNat 2 rfl rng fun a111 k112 a113 k114 hb115 hb116 => ?_
  unfold i64ok at hb115
  refine Fb 16 1 fun _ => ?_
  refine FoS 1 fun ho118 => ?_
  refine Fb 16 2 fun _ => ?_
  refine FoS 2 fun ho120 => ?_
  refine Oq (Vn 0) (Oq (Vfa fo37_0 0) (Ost (SoH (α := GStmt) [0] sh3 [vi rv105.1, .string (bs ((((((rv7.Funcs.getD rv15.1.toNat default).Blocks).getD rv27.1.toNat default).Stmts).getD rv59.1.toNat default).Def)), .slice a111 (((((((rv7.Funcs.getD rv15.1.toNat default).Blocks).getD rv27.1.toNat default).Stmts).getD rv59.1.toNat default).Uses).length) k112, .slice a113 (((((((rv7.Funcs.getD rv15.1.toNat default).Blocks).getD rv27.1.toNat default).Stmts).getD rv59.1.toNat default).Targets).length) k114]) (KS ?_)))
  refine Oq (VldA sh25 6) (Ost (Scl [7] sh25 [vl a10 k11 rv7.Funcs]) (KS ?_))
  refine Jl [1, 1, 1] (Ent.closeD (A := [O a111 k112 ((((((rv7.Funcs.getD rv15.1.toNat default).Blocks).getD rv27.1.toNat default).Stmts).getD rv59.1.toNat default).Uses), O a113 k114 ((((((rv7.Funcs.getD rv15.1.toNat default).Blocks).getD rv27.1.toNat default).Stmts).getD rv59.1.toNat default).Targets)]) _ _ _ _ (GStmt.mk rv105.1 ((((((rv7.Funcs.getD rv15.1.toNat default).Blocks).getD rv27.1.toNat default).Stmts).getD rv59.1.toNat default).Def) ((((((rv7.Funcs.getD rv15.1.toNat default).Blocks).getD rv27.1.toNat default).Stmts).getD rv59.1.toNat default).Uses) ((((((rv7.Funcs.getD rv15.1.toNat default).Blocks).getD rv27.1.toNat default).Stmts).getD rv59.1.toNat default).Targets)) (innmk_GStmt (z0 := rv105.1) (z1 := (((((rv7.Funcs.getD rv15.1.toNat default).Blocks).getD rv27.1.toNat default).Stmts).getD rv59.1.toNat default).Def) aD1 aD1)) ?_
  refine Jl [3, 0] (Ent.closeD (A := [ds (.slice a35 (((((rv7.Funcs.getD rv15.1.toNat default).Blocks).getD rv27.1.toNat default).Stmts).length) k36) (((((rv7.Funcs.getD rv15.1.toNat default).Blocks).getD rv27.1.toNat default).Stmts).set rv59.1.toNat (GStmt.mk rv105.1 ((((((rv7.Funcs.getD rv15.1.toNat default).Blocks).getD rv27.1.toNat default).Stmts).getD rv59.1.toNat default).Def) ((((((rv7.Funcs.getD rv15.1.toNat default).Blocks).getD rv27.1.toNat default).Stmts).getD rv59.1.toNat default).Uses) ((((((rv7.Funcs.getD rv15.1.toNat default).Blocks).getD rv27.1.toNat default).Stmts).getD rv59.1.toNat default).Targets)))]) _ _ _ _ (GBlock.mk ((((rv7.Funcs.getD rv15.1.toNat default).Blocks).getD rv27.1.toNat default).Name) (((((rv7.Funcs.getD rv15.1.toNat default).Blocks).getD rv27.1.toNat default).Stmts).set rv59.1.toNat (GStmt.mk rv105.1 ((((((rv7.Funcs.getD rv15.1.toNat default).Blocks).getD rv27.1.toNat default).Stmts).getD rv59.1.toNat default).Def) ((((((rv7.Funcs.getD rv15.1.toNat default).Blocks).getD rv27.1.toNat default).Stmts).getD rv59.1.toNat default).Uses) ((((((rv7.Funcs.getD rv15.1.toNat default).Blocks).getD rv27.1.toNat default).Stmts).getD rv59.1.toNat default).Targets)))) (innmk_GBlock (z0 := (((rv7.Funcs.getD rv15.1.toNat default).Blocks).getD rv27.1.toNat default).Name) aD1)) ?_
  refine Jl [3, 0] (Ent.closeD (A := [ds (vl a23 k24 ((rv7.Funcs.getD rv15.1.toNat default).Blocks)) (((rv7.Funcs.getD rv15.1.toNat default).Blocks).set rv27.1.toNat (GBlock.mk ((((rv7.Funcs.getD rv15.1.toNat default).Blocks).getD rv27.1.toNat default).Name) (((((rv7.Funcs.getD rv15.1.toNat default).Blocks).getD rv27.1.toNat default).Stmts).set rv59.1.toNat (GStmt.mk rv105.1 ((((((rv7.Funcs.getD rv15.1.toNat default).Blocks).getD rv27.1.toNat default).Stmts).getD rv59.1.toNat default).Def) ((((((rv7.Funcs.getD rv15.1.toNat default).Blocks).getD rv27.1.toNat default).Stmts).getD rv59.1.toNat default).Uses) ((((((rv7.Funcs.getD rv15.1.toNat default).Blocks).getD rv27.1.toNat default).Stmts).getD rv59.1.toNat default).Targets)))))]) _ _ _ _ (GFunc.mk ((rv7.Funcs.getD rv15.1.toNat default).Name) (((rv7.Funcs.getD rv15.1.toNat default).Blocks).set rv27.1.toNat (GBlock.mk ((((rv7.Funcs.getD rv15.1.toNat default).Blocks).getD rv27.1.toNat default).Name) (((((rv7.Funcs.getD rv15.1.toNat default).Blocks).getD rv27.1.toNat default).Stmts).set rv59.1.toNat (GStmt.mk rv105.1 ((((((rv7.Funcs.getD rv15.1.toNat default).Blocks).getD rv27.1.toNat default).Stmts).getD rv59.1.toNat default).Def) ((((((rv7.Funcs.getD rv15.1.toNat default).Blocks).getD rv27.1.toNat default).Stmts).getD rv59.1.toNat default).Uses) ((((((rv7.Funcs.getD rv15.1.toNat default).Blocks).getD rv27.1.toNat default).Stmts).getD rv59.1.toNat default).Targets)))))) (innmk_GFunc (z0 := (rv7.Funcs.getD rv15.1.toNat default).Name) aD1)) ?_
  refine Jl [0] (Ent.dsF _ _) ?_
  have hq := q4 hrr ((GProgram.mk (rv7.Funcs.set rv15.1.toNat (GFunc.mk ((rv7.Funcs.getD rv15.1.toNat default).Name) (((rv7.Funcs.getD rv15.1.toNat default).Blocks).set rv27.1.toNat (GBlock.mk ((((rv7.Funcs.getD rv15.1.toNat default).Blocks).getD rv27.1.toNat default).Name) (((((rv7.Funcs.getD rv15.1.toNat default).Blocks).getD rv27.1.toNat default).Stmts).set rv59.1.toNat (GStmt.mk rv105.1 ((((((rv7.Funcs.getD rv15.1.toNat default).Blocks).getD rv27.1.toNat default).Stmts).getD rv59.1.toNat default).Def) ((((((rv7.Funcs.getD rv15.1.toNat default).Blocks).getD rv27.1.toNat default).Stmts).getD rv59.1.toNat default).Uses) ((((((rv7.Funcs.getD rv15.1.toNat default).Blocks).getD rv27.1.toNat default).Stmts).getD rv59.1.toNat default).Targets)))))))), rv105.2) (by simp only [tp_SpoilProgram, h39, h73, h88, h103, hg8, hg16, hg28, hg60, hg68, hg106, cs4]); subst hq
  exact Kr (vl a10 k11 rv7.Funcs) rfl (.cellN 1 rfl sh25 rfl (reads_Cl _ _) rfl .nil) [0, 2] en
 intro h103
 have g121 := ne_of_beq_false h103
 refine KS ?_
 refine Oq Veql (Oq Va (KS ?_))
 refine Kc ?_ ?_
 ·intro h122
  have g123 := eq_of_beq h122
  refine KS ?_
  refine Oq Vm (Oa (AsV sl35 sz35 [.string (bs (Str.mk [])), .string (bs (Str.mk [120])), .string (bs (Str.mk [117, 115, 101])), .string (bs (Str.mk [108, 111, 110, 103, 101, 114, 95, 116, 104, 97, 110, 95, 49, 54, 95, 98, 121, 116, 101, 115]))] [.string (bs (Str.mk [])), .string (bs (Str.mk [120])), .string (bs (Str.mk [117, 115, 101])), .string (bs (Str.mk [108, 111, 110, 103, 101, 114, 95, 116, 104, 97, 110, 95, 49, 54, 95, 98, 121, 116, 101, 115]))]) fun c124 => ?_)
  refine Jo 0 ?_; rintro a125 k126 rfl
  refine Oq Vm ?_
  refine letv (tp_Next tT rv67.2 4) fun rv127 hg128 => ?_
  have hs4 := Next_r hg128 aM1
  have hc129 := fn15 tP ta tk tT rv67.2 4 pre pre rv127 hg128
  refine Oc [1, 7] ca15 hc129 ?_
  rintro - ⟨he130, he131, he132⟩
  unfold i64ok at he130
  refine Jl [1] (Ent.crOs (α := Str) (A := []) _ ([(Str.mk []), (Str.mk [120]), (Str.mk [117, 115, 101]), (Str.mk [108, 111, 110, 103, 101, 114, 95, 116, 104, 97, 110, 95, 49, 54, 95, 98, 121, 116, 101, 115])] : List Str) _ aB1 (fun h => ⟨[.string (bs (Str.mk []))], [.string (bs (Str.mk [120])), .string (bs (Str.mk [117, 115, 101])), .string (bs (Str.mk [108, 111, 110, 103, 101, 114, 95, 116, 104, 97, 110, 95, 49, 54, 95, 98, 121, 116, 101, 115]))], rfl, (fun _ => ⟨rfl, by first | omega | (simp; done) | (dsimp only; omega) | exact lit_bl rfl⟩) h, ⟨[.string (bs (Str.mk [120]))], [.string (bs (Str.mk [117, 115, 101])), .string (bs (Str.mk [108, 111, 110, 103, 101, 114, 95, 116, 104, 97, 110, 95, 49, 54, 95, 98, 121, 116, 101, 115]))], rfl, (fun _ => ⟨rfl, by first | omega | (simp; done) | (dsimp only; omega) | exact lit_bl rfl⟩) h, ⟨[.string (bs (Str.mk [117, 115, 101]))], [.string (bs (Str.mk [108, 111, 110, 103, 101, 114, 95, 116, 104, 97, 110, 95, 49, 54, 95, 98, 121, 116, 101, 115]))], rfl, (fun _ => ⟨rfl, by first | omega | (simp; done) | (dsimp only; omega) | exact lit_bl rfl⟩) h, ⟨[.string (bs (Str.mk [108, 111, 110, 103, 101, 114, 95, 116, 104, 97, 110, 95, 49, 54, 95, 98, 121, 116, 101, 115]))], [], rfl, (fun _ => ⟨rfl, by first | omega | (simp; done) | (dsimp only; omega) | exact lit_bl rfl⟩) h, rfl⟩⟩⟩⟩)) ?_
  refine Oq (Vi sl35 0) ?_
  refine Fb 16 0 fun _ => ?_
  refine FoS 0 fun ho134 => ?_
  have hb135 := okS (i := rv127.1.toNat) ho134 rng
  refine Oq (VldS sh9 0) ?_
  refine JJ_openD_GStmt rv59.1.toNat 3 rfl rng fun a136 k137 a138 k139 hb140 hb141 => ?_
  unfold i64ok at hb140
  refine Fb 16 1 fun _ => ?_
  refine FoS 1 fun ho143 => ?_
  refine Fb 16 2 fun _ => ?_
  refine FoS 2 fun ho145 => ?_
  refine Oq (Vn 0) (Oq (Vfa fo37_1 0) (Ost (SoH (α := GStmt) [0] sh9 [vi ((((((rv7.Funcs.getD rv15.1.toNat default).Blocks).getD rv27.1.toNat default).Stmts).getD rv59.1.toNat default).Op), .string (bs ([(Str.mk []), (Str.mk [120]), (Str.mk [117, 115, 101]), (Str.mk [108, 111, 110, 103, 101, 114, 95, 116, 104, 97, 110, 95, 49, 54, 95, 98, 121, 116, 101, 115])].getD rv127.1.toNat default)), .slice a136 (((((((rv7.Funcs.getD rv15.1.toNat default).Blocks).getD rv27.1.toNat default).Stmts).getD rv59.1.toNat default).Uses).length) k137, .slice a138 (((((((rv7.Funcs.getD rv15.1.toNat default).Blocks).getD rv27.1.toNat default).Stmts).getD rv59.1.toNat default).Targets).length) k139]) (KS ?_)))
  refine Oq (VldA sh25 7) (Ost (Scl [8] sh25 [vl a10 k11 rv7.Funcs]) (KS ?_))
  refine Jl [1, 1, 1] (Ent.closeD (A := [O a136 k137 ((((((rv7.Funcs.getD rv15.1.toNat default).Blocks).getD rv27.1.toNat default).Stmts).getD rv59.1.toNat default).Uses), O a138 k139 ((((((rv7.Funcs.getD rv15.1.toNat default).Blocks).getD rv27.1.toNat default).Stmts).getD rv59.1.toNat default).Targets)]) _ _ _ _ (GStmt.mk ((((((rv7.Funcs.getD rv15.1.toNat default).Blocks).getD rv27.1.toNat default).Stmts).getD rv59.1.toNat default).Op) ([(Str.mk []), (Str.mk [120]), (Str.mk [117, 115, 101]), (Str.mk [108, 111, 110, 103, 101, 114, 95, 116, 104, 97, 110, 95, 49, 54, 95, 98, 121, 116, 101, 115])].getD rv127.1.toNat default) ((((((rv7.Funcs.getD rv15.1.toNat default).Blocks).getD rv27.1.toNat default).Stmts).getD rv59.1.toNat default).Uses) ((((((rv7.Funcs.getD rv15.1.toNat default).Blocks).getD rv27.1.toNat default).Stmts).getD rv59.1.toNat default).Targets)) (innmk_GStmt (z0 := (((((rv7.Funcs.getD rv15.1.toNat default).Blocks).getD rv27.1.toNat default).Stmts).getD rv59.1.toNat default).Op) (z1 := ([(Str.mk []), (Str.mk [120]), (Str.mk [117, 115, 101]), (Str.mk [108, 111, 110, 103, 101, 114, 95, 116, 104, 97, 110, 95, 49, 54, 95, 98, 121, 116, 101, 115])].getD rv127.1.toNat default)) aD1 aD1)) ?_
  refine Jl [4, 0] (Ent.closeD (A := [ds (.slice a35 (((((rv7.Funcs.getD rv15.1.toNat default).Blocks).getD rv27.1.toNat default).Stmts).length) k36) ((((((rv7.Funcs.getD rv15.1.toNat default).Blocks).getD rv27.1.toNat default).Stmts).set rv59.1.toNat (GStmt.mk ((((((rv7.Funcs.getD rv15.1.toNat default).Blocks).getD rv27.1.toNat default).Stmts).getD rv59.1.toNat default).Op) ([(Str.mk []), (Str.mk [120]), (Str.mk [117, 115, 101]), (Str.mk [108, 111, 110, 103, 101, 114, 95, 116, 104, 97, 110, 95, 49, 54, 95, 98, 121, 116, 101, 115])].getD rv127.1.toNat default) ((((((rv7.Funcs.getD rv15.1.toNat default).Blocks).getD rv27.1.toNat default).Stmts).getD rv59.1.toNat default).Uses) ((((((rv7.Funcs.getD rv15.1.toNat default).Blocks).getD rv27.1.toNat default).Stmts).getD rv59.1.toNat default).Targets))) : List GStmt)]) _ _ _ _ (GBlock.mk ((((rv7.Funcs.getD rv15.1.toNat default).Blocks).getD rv27.1.toNat default).Name) (((((rv7.Funcs.getD rv15.1.toNat default).Blocks).getD rv27.1.toNat default).Stmts).set rv59.1.toNat (GStmt.mk ((((((rv7.Funcs.getD rv15.1.toNat default).Blocks).getD rv27.1.toNat default).Stmts).getD rv59.1.toNat default).Op) ([(Str.mk []), (Str.mk [120]), (Str.mk [117, 115, 101]), (Str.mk [108, 111, 110, 103, 101, 114, 95, 116, 104, 97, 110, 95, 49, 54, 95, 98, 121, 116, 101, 115])].getD rv127.1.toNat default) ((((((rv7.Funcs.getD rv15.1.toNat default).Blocks).getD rv27.1.toNat default).Stmts).getD rv59.1.toNat default).Uses) ((((((rv7.Funcs.getD rv15.1.toNat default).Blocks).getD rv27.1.toNat default).Stmts).getD rv59.1.toNat default).Targets)))) (innmk_GBlock (z0 := (((rv7.Funcs.getD rv15.1.toNat default).Blocks).getD rv27.1.toNat default).Name) aD1)) ?_
  refine Jl [4, 0] (Ent.closeD (A := [ds (vl a23 k24 ((rv7.Funcs.getD rv15.1.toNat default).Blocks)) ((((rv7.Funcs.getD rv15.1.toNat default).Blocks).set rv27.1.toNat (GBlock.mk ((((rv7.Funcs.getD rv15.1.toNat default).Blocks).getD rv27.1.toNat default).Name) (((((rv7.Funcs.getD rv15.1.toNat default).Blocks).getD rv27.1.toNat default).Stmts).set rv59.1.toNat (GStmt.mk ((((((rv7.Funcs.getD rv15.1.toNat default).Blocks).getD rv27.1.toNat default).Stmts).getD rv59.1.toNat default).Op) ([(Str.mk []), (Str.mk [120]), (Str.mk [117, 115, 101]), (Str.mk [108, 111, 110, 103, 101, 114, 95, 116, 104, 97, 110, 95, 49, 54, 95, 98, 121, 116, 101, 115])].getD rv127.1.toNat default) ((((((rv7.Funcs.getD rv15.1.toNat default).Blocks).getD rv27.1.toNat default).Stmts).getD rv59.1.toNat default).Uses) ((((((rv7.Funcs.getD rv15.1.toNat default).Blocks).getD rv27.1.toNat default).Stmts).getD rv59.1.toNat default).Targets))))) : List GBlock)]) _ _ _ _ (GFunc.mk ((rv7.Funcs.getD rv15.1.toNat default).Name) (((rv7.Funcs.getD rv15.1.toNat default).Blocks).set rv27.1.toNat (GBlock.mk ((((rv7.Funcs.getD rv15.1.toNat default).Blocks).getD rv27.1.toNat default).Name) (((((rv7.Funcs.getD rv15.1.toNat default).Blocks).getD rv27.1.toNat default).Stmts).set rv59.1.toNat (GStmt.mk ((((((rv7.Funcs.getD rv15.1.toNat default).Blocks).getD rv27.1.toNat default).Stmts).getD rv59.1.toNat default).Op) ([(Str.mk []), (Str.mk [120]), (Str.mk [117, 115, 101]), (Str.mk [108, 111, 110, 103, 101, 114, 95, 116, 104, 97, 110, 95, 49, 54, 95, 98, 121, 116, 101, 115])].getD rv127.1.toNat default) ((((((rv7.Funcs.getD rv15.1.toNat default).Blocks).getD rv27.1.toNat default).Stmts).getD rv59.1.toNat default).Uses) ((((((rv7.Funcs.getD rv15.1.toNat default).Blocks).getD rv27.1.toNat default).Stmts).getD rv59.1.toNat default).Targets)))))) (innmk_GFunc (z0 := (rv7.Funcs.getD rv15.1.toNat default).Name) aD1)) ?_
  refine Jl [0] (Ent.dsF _ _) ?_
  have hq := q4 hrr ((GProgram.mk (rv7.Funcs.set rv15.1.toNat (GFunc.mk ((rv7.Funcs.getD rv15.1.toNat default).Name) (((rv7.Funcs.getD rv15.1.toNat default).Blocks).set rv27.1.toNat (GBlock.mk ((((rv7.Funcs.getD rv15.1.toNat default).Blocks).getD rv27.1.toNat default).Name) (((((rv7.Funcs.getD rv15.1.toNat default).Blocks).getD rv27.1.toNat default).Stmts).set rv59.1.toNat (GStmt.mk ((((((rv7.Funcs.getD rv15.1.toNat default).Blocks).getD rv27.1.toNat default).Stmts).getD rv59.1.toNat default).Op) ([(Str.mk []), (Str.mk [120]), (Str.mk [117, 115, 101]), (Str.mk [108, 111, 110, 103, 101, 114, 95, 116, 104, 97, 110, 95, 49, 54, 95, 98, 121, 116, 101, 115])].getD rv127.1.toNat default) ((((((rv7.Funcs.getD rv15.1.toNat default).Blocks).getD rv27.1.toNat default).Stmts).getD rv59.1.toNat default).Uses) ((((((rv7.Funcs.getD rv15.1.toNat default).Blocks).getD rv27.1.toNat default).Stmts).getD rv59.1.toNat default).Targets)))))))), rv127.2) (by simp only [tp_SpoilProgram, h39, h73, h88, h103, h122, hg8, hg16, hg28, hg60, hg68, hg128, cs4]); subst hq
  exact Kr (vl a10 k11 rv7.Funcs) rfl (.cellN 1 rfl sh25 rfl (reads_Cl _ _) rfl .nil) [0, 3] en
 intro h122
 have g146 := ne_of_beq_false h122
 refine KS ?_
 refine Oq Veql (Oq Va (KS ?_))
 refine Kc ?_ ?_
 ·intro h147
  have g148 := eq_of_beq h147
  refine JJ_openD_GStmt rv59.1.toNat 2 rfl rng fun a149 k150 a151 k152 hb153 hb154 => ?_
  unfold i64ok at hb153
  refine Fb 16 1 fun _ => ?_
  refine FoS 1 fun ho156 => ?_
  refine Fb 16 2 fun _ => ?_
  refine FoS 2 fun ho158 => ?_
  refine JK_drawK [0, 0, 2, 6, 14, 0, 62, 0, 0, 256, 768, 1792, 3840, 7936, 16382, 32766, 65534, 131071, 262143, 524287] fmix ?_
  refine Dv [] Vm (Dv [] Vm (Dv [0] (Vn 0) (Dv [0] (Vfa fo37_2 0) (Dv [0] (VldF sh35 0) (Dx [] [] [0] (fun G => (G.g 5 0)) [fun G => Cr (G.g 5 0) 2 [.string (bs (Str.mk [121])), .string (bs (Str.mk [120]))]] (fun G => xA (AsV sl35 sz35 [.string (bs (Str.mk [121])), .string (bs (Str.mk [120]))] [.string (bs (Str.mk [121])), .string (bs (Str.mk [120]))])) ?_)))))
  have hn161 := la ((((((rv7.Funcs.getD rv15.1.toNat default).Blocks).getD rv27.1.toNat default).Stmts).getD rv59.1.toNat default).Uses) ([(Str.mk [121]), (Str.mk [120])] : List Str)
  refine Dx [1, 11] [1, 11] [0] (fun G => (G.g 6 0)) [fun G => os (G.g 6 0) (((((((rv7.Funcs.getD rv15.1.toNat default).Blocks).getD rv27.1.toNat default).Stmts).getD rv59.1.toNat default).Uses ++ [(Str.mk [121]), (Str.mk [120])]) : List Str)] (fun G => xp [1] rfl (Ent.crOs (α := Str) (A := []) _ ([(Str.mk [121]), (Str.mk [120])] : List Str) _ aB1 (fun h => ⟨[.string (bs (Str.mk [121]))], [.string (bs (Str.mk [120]))], rfl, (fun _ => ⟨rfl, by first | omega | (simp; done) | (dsimp only; omega) | exact lit_bl rfl⟩) h, ⟨[.string (bs (Str.mk [120]))], [], rfl, (fun _ => ⟨rfl, by first | omega | (simp; done) | (dsimp only; omega) | exact lit_bl rfl⟩) h, rfl⟩⟩)) (xA (ApO [1, 0] sl35 sl35 sz35))) (Dv [] Vm (Dv [] Vm (Dv [0] (Vn 0) (Dv [0] (Vfa fo37_2 0) (Dv [0] (VldF sh35 0) (Dv [] (Vlen sl35) (Dv [] Vadd ?_)))))))
  refine letv (tp_Next tT rv67.2 ((((((((rv7.Funcs.getD rv15.1.toNat default).Blocks).getD rv27.1.toNat default).Stmts).getD rv59.1.toNat default).Uses).length : Int) + 2)) fun rv162 hg163 => Dx [3, 9] [3] [2, 0, 1] (fun G => vi rv162.1) [fun G => SP.fact (i64ok rv162.1 ∧ (0 ≤ rv162.2 ∧ rv162.2 ≤ (tT.length : Int)) ∧ (0 ≤ rv162.1 ∧ (rv162.1 < ((((((((rv7.Funcs.getD rv15.1.toNat default).Blocks).getD rv27.1.toNat default).Stmts).getD rv59.1.toNat default).Uses).length : Int) + 2) ∨ rv162.1 = 0))), fun G => Cl tP [vl ta tk tT, vi rv162.2]] (fun G => xC [0, 0] ca15 (fn15 tP ta tk tT rv67.2 (((((((((rv7.Funcs.getD rv15.1.toNat default).Blocks).getD rv27.1.toNat default).Stmts).getD rv59.1.toNat default).Uses).length : Int) + 2)) pre pre rv162 hg163)) ?_
  refine Dx [13] [] [0] (fun G => vi (1 + rv162.1)) [] (fun G => by refine xf 0 rfl ?_; rintro ⟨he164, he165, he166⟩; unfold i64ok at he164; exact xV (Vadd)) ?_
  refine Dx [12, 13] [12] [1, 0] (fun G => (G.g 16 0)) [fun G => os (G.g 16 0) (((((((((rv7.Funcs.getD rv15.1.toNat default).Blocks).getD rv27.1.toNat default).Stmts).getD rv59.1.toNat default).Uses ++ [(Str.mk [121]), (Str.mk [120])]).take (((1 + rv162.1) : Int).toNat)).drop 0) : List Str)] (fun G => by refine xf 1 rfl ?_; rintro ⟨he168, he169, he170⟩; unfold i64ok at he168; exact xA (AslOx [0] sl35 0 (((1 + rv162.1) : Int).toNat))) (Dv [0] (Vn 0) (Dv [0] (Vfa fo37_2 0) (Dx0 [0, 15] [0] [1, 0] [fun G => dh (.slice a35 (((((rv7.Funcs.getD rv15.1.toNat default).Blocks).getD rv27.1.toNat default).Stmts).length) k36) ((((rv7.Funcs.getD rv15.1.toNat default).Blocks).getD rv27.1.toNat default).Stmts : List GStmt) rv59.1.toNat [vi ((((((rv7.Funcs.getD rv15.1.toNat default).Blocks).getD rv27.1.toNat default).Stmts).getD rv59.1.toNat default).Op), .string (bs ((((((rv7.Funcs.getD rv15.1.toNat default).Blocks).getD rv27.1.toNat default).Stmts).getD rv59.1.toNat default).Def)), (G.g 16 0), .slice a151 (((((((rv7.Funcs.getD rv15.1.toNat default).Blocks).getD rv27.1.toNat default).Stmts).getD rv59.1.toNat default).Targets).length) k152]] (fun G => x1 1 rfl os_one fun ho171 => (xS (SoHr (α := GStmt) [0] sh35 [(G.g 16 0)] [vi ((((((rv7.Funcs.getD rv15.1.toNat default).Blocks).getD rv27.1.toNat default).Stmts).getD rv59.1.toNat default).Op), .string (bs ((((((rv7.Funcs.getD rv15.1.toNat default).Blocks).getD rv27.1.toNat default).Stmts).getD rv59.1.toNat default).Def)), (G.g 16 0), .slice a151 (((((((rv7.Funcs.getD rv15.1.toNat default).Blocks).getD rv27.1.toNat default).Stmts).getD rv59.1.toNat default).Targets).length) k152] (cells_of_one ho171) rfl (by simp only [List.all_cons, List.all_nil, ho171, Bool.and_true, Bool.true_and] <;> rfl)))) ?_)))
  refine Dn ⟨by kernel_rfl, fun G => ?_⟩
  refine Jw2 [(4, p5), (5, p13)] [2, 4, 5, 6, 7, 8, 9, 10] [SP.fact (i64ok rv162.1 ∧ (0 ≤ rv162.2 ∧ rv162.2 ≤ (tT.length : Int)) ∧ (0 ≤ rv162.1 ∧ (rv162.1 < ((((((((rv7.Funcs.getD rv15.1.toNat default).Blocks).getD rv27.1.toNat default).Stmts).getD rv59.1.toNat default).Uses).length : Int) + 2) ∨ rv162.1 = 0))), Cl tP [vl ta tk tT, vi rv162.2], os (G.g 16 0) (((((((((rv7.Funcs.getD rv15.1.toNat default).Blocks).getD rv27.1.toNat default).Stmts).getD rv59.1.toNat default).Uses ++ [(Str.mk [121]), (Str.mk [120])]).take (((1 + rv162.1) : Int).toNat)).drop 0) : List Str), dh (.slice a35 (((((rv7.Funcs.getD rv15.1.toNat default).Blocks).getD rv27.1.toNat default).Stmts).length) k36) ((((rv7.Funcs.getD rv15.1.toNat default).Blocks).getD rv27.1.toNat default).Stmts : List GStmt) rv59.1.toNat [vi ((((((rv7.Funcs.getD rv15.1.toNat default).Blocks).getD rv27.1.toNat default).Stmts).getD rv59.1.toNat default).Op), .string (bs ((((((rv7.Funcs.getD rv15.1.toNat default).Blocks).getD rv27.1.toNat default).Stmts).getD rv59.1.toNat default).Def)), (G.g 16 0), .slice a151 (((((((rv7.Funcs.getD rv15.1.toNat default).Blocks).getD rv27.1.toNat default).Stmts).getD rv59.1.toNat default).Targets).length) k152]] ?_
  generalize G.g 16 0 = c167
  refine Jf 8 rfl ?_; rintro ⟨he172, he173, he174⟩
  unfold i64ok at he172
  refine Jk [0, 0, 0, 0, 0, 0, 1, 2, 4, 4, 4] ?_
  refine Jo 9 ?_; rintro a175 k176 rfl
  refine Fb 16 9 fun _ => ?_
  refine FoS 9 fun ho178 => ?_
  refine KS ?_
  refine Oq (VldA sh25 3) (Ost (Scl [4] sh25 [vl a10 k11 rv7.Funcs]) (KS ?_))
  refine Jl [10, 9, 1] (Ent.closeD (A := [O a175 k176 (((((((((rv7.Funcs.getD rv15.1.toNat default).Blocks).getD rv27.1.toNat default).Stmts).getD rv59.1.toNat default).Uses ++ [(Str.mk [121]), (Str.mk [120])]).take (((1 + rv162.1) : Int).toNat)).drop 0) : List Str), O a151 k152 ((((((rv7.Funcs.getD rv15.1.toNat default).Blocks).getD rv27.1.toNat default).Stmts).getD rv59.1.toNat default).Targets)]) _ _ _ _ (GStmt.mk ((((((rv7.Funcs.getD rv15.1.toNat default).Blocks).getD rv27.1.toNat default).Stmts).getD rv59.1.toNat default).Op) ((((((rv7.Funcs.getD rv15.1.toNat default).Blocks).getD rv27.1.toNat default).Stmts).getD rv59.1.toNat default).Def) ((((((((rv7.Funcs.getD rv15.1.toNat default).Blocks).getD rv27.1.toNat default).Stmts).getD rv59.1.toNat default).Uses ++ [(Str.mk [121]), (Str.mk [120])]).take (((1 + rv162.1) : Int).toNat)).drop 0) ((((((rv7.Funcs.getD rv15.1.toNat default).Blocks).getD rv27.1.toNat default).Stmts).getD rv59.1.toNat default).Targets)) (innmk_GStmt (z0 := (((((rv7.Funcs.getD rv15.1.toNat default).Blocks).getD rv27.1.toNat default).Stmts).getD rv59.1.toNat default).Op) (z1 := (((((rv7.Funcs.getD rv15.1.toNat default).Blocks).getD rv27.1.toNat default).Stmts).getD rv59.1.toNat default).Def) aD1 aD1)) ?_
  refine Jl [2, 0] (Ent.closeD (A := [ds (.slice a35 (((((rv7.Funcs.getD rv15.1.toNat default).Blocks).getD rv27.1.toNat default).Stmts).length) k36) ((((((rv7.Funcs.getD rv15.1.toNat default).Blocks).getD rv27.1.toNat default).Stmts).set rv59.1.toNat (GStmt.mk ((((((rv7.Funcs.getD rv15.1.toNat default).Blocks).getD rv27.1.toNat default).Stmts).getD rv59.1.toNat default).Op) ((((((rv7.Funcs.getD rv15.1.toNat default).Blocks).getD rv27.1.toNat default).Stmts).getD rv59.1.toNat default).Def) ((((((((rv7.Funcs.getD rv15.1.toNat default).Blocks).getD rv27.1.toNat default).Stmts).getD rv59.1.toNat default).Uses ++ [(Str.mk [121]), (Str.mk [120])]).take (((1 + rv162.1) : Int).toNat)).drop 0) ((((((rv7.Funcs.getD rv15.1.toNat default).Blocks).getD rv27.1.toNat default).Stmts).getD rv59.1.toNat default).Targets))) : List GStmt)]) _ _ _ _ (GBlock.mk ((((rv7.Funcs.getD rv15.1.toNat default).Blocks).getD rv27.1.toNat default).Name) (((((rv7.Funcs.getD rv15.1.toNat default).Blocks).getD rv27.1.toNat default).Stmts).set rv59.1.toNat (GStmt.mk ((((((rv7.Funcs.getD rv15.1.toNat default).Blocks).getD rv27.1.toNat default).Stmts).getD rv59.1.toNat default).Op) ((((((rv7.Funcs.getD rv15.1.toNat default).Blocks).getD rv27.1.toNat default).Stmts).getD rv59.1.toNat default).Def) ((((((((rv7.Funcs.getD rv15.1.toNat default).Blocks).getD rv27.1.toNat default).Stmts).getD rv59.1.toNat default).Uses ++ [(Str.mk [121]), (Str.mk [120])]).take (((1 + rv162.1) : Int).toNat)).drop 0) ((((((rv7.Funcs.getD rv15.1.toNat default).Blocks).getD rv27.1.toNat default).Stmts).getD rv59.1.toNat default).Targets)))) (innmk_GBlock (z0 := (((rv7.Funcs.getD rv15.1.toNat default).Blocks).getD rv27.1.toNat default).Name) aD1)) ?_
  refine Jl [2, 0] (Ent.closeD (A := [ds (vl a23 k24 ((rv7.Funcs.getD rv15.1.toNat default).Blocks)) ((((rv7.Funcs.getD rv15.1.toNat default).Blocks).set rv27.1.toNat (GBlock.mk ((((rv7.Funcs.getD rv15.1.toNat default).Blocks).getD rv27.1.toNat default).Name) (((((rv7.Funcs.getD rv15.1.toNat default).Blocks).getD rv27.1.toNat default).Stmts).set rv59.1.toNat (GStmt.mk ((((((rv7.Funcs.getD rv15.1.toNat default).Blocks).getD rv27.1.toNat default).Stmts).getD rv59.1.toNat default).Op) ((((((rv7.Funcs.getD rv15.1.toNat default).Blocks).getD rv27.1.toNat default).Stmts).getD rv59.1.toNat default).Def) ((((((((rv7.Funcs.getD rv15.1.toNat default).Blocks).getD rv27.1.toNat default).Stmts).getD rv59.1.toNat default).Uses ++ [(Str.mk [121]), (Str.mk [120])]).take (((1 + rv162.1) : Int).toNat)).drop 0) ((((((rv7.Funcs.getD rv15.1.toNat default).Blocks).getD rv27.1.toNat default).Stmts).getD rv59.1.toNat default).Targets))))) : List GBlock)]) _ _ _ _ (GFunc.mk ((rv7.Funcs.getD rv15.1.toNat default).Name) (((rv7.Funcs.getD rv15.1.toNat default).Blocks).set rv27.1.toNat (GBlock.mk ((((rv7.Funcs.getD rv15.1.toNat default).Blocks).getD rv27.1.toNat default).Name) (((((rv7.Funcs.getD rv15.1.toNat default).Blocks).getD rv27.1.toNat default).Stmts).set rv59.1.toNat (GStmt.mk ((((((rv7.Funcs.getD rv15.1.toNat default).Blocks).getD rv27.1.toNat default).Stmts).getD rv59.1.toNat default).Op) ((((((rv7.Funcs.getD rv15.1.toNat default).Blocks).getD rv27.1.toNat default).Stmts).getD rv59.1.toNat default).Def) ((((((((rv7.Funcs.getD rv15.1.toNat default).Blocks).getD rv27.1.toNat default).Stmts).getD rv59.1.toNat default).Uses ++ [(Str.mk [121]), (Str.mk [120])]).take (((1 + rv162.1) : Int).toNat)).drop 0) ((((((rv7.Funcs.getD rv15.1.toNat default).Blocks).getD rv27.1.toNat default).Stmts).getD rv59.1.toNat default).Targets)))))) (innmk_GFunc (z0 := (rv7.Funcs.getD rv15.1.toNat default).Name) aD1)) ?_
  refine Jl [0] (Ent.dsF _ _) ?_
  have hq := q4 hrr ((GProgram.mk (rv7.Funcs.set rv15.1.toNat (GFunc.mk ((rv7.Funcs.getD rv15.1.toNat default).Name) (((rv7.Funcs.getD rv15.1.toNat default).Blocks).set rv27.1.toNat (GBlock.mk ((((rv7.Funcs.getD rv15.1.toNat default).Blocks).getD rv27.1.toNat default).Name) (((((rv7.Funcs.getD rv15.1.toNat default).Blocks).getD rv27.1.toNat default).Stmts).set rv59.1.toNat (GStmt.mk ((((((rv7.Funcs.getD rv15.1.toNat default).Blocks).getD rv27.1.toNat default).Stmts).getD rv59.1.toNat default).Op) ((((((rv7.Funcs.getD rv15.1.toNat default).Blocks).getD rv27.1.toNat default).Stmts).getD rv59.1.toNat default).Def) ((((((((rv7.Funcs.getD rv15.1.toNat default).Blocks).getD rv27.1.toNat default).Stmts).getD rv59.1.toNat default).Uses ++ [(Str.mk [121]), (Str.mk [120])]).take (((1 + rv162.1) : Int).toNat)).drop 0) ((((((rv7.Funcs.getD rv15.1.toNat default).Blocks).getD rv27.1.toNat default).Stmts).getD rv59.1.toNat default).Targets)))))))), rv162.2) (by simp only [tp_SpoilProgram, h39, h73, h88, h103, h122, h147, hg8, hg16, hg28, hg60, hg68, hg163, cs4]); subst hq
  exact Kr (vl a10 k11 rv7.Funcs) rfl (.cellN 1 rfl sh25 rfl (reads_Cl _ _) rfl .nil) [0, 6] en
 intro h147
 have g179 := ne_of_beq_false h147
 refine KS ?_
 refine Oq Veql (Oq Va (KS ?_))
 refine Kc ?_ ?_
 ·intro h180
  have g181 := eq_of_beq h180
  refine JJ_openD_GStmt rv59.1.toNat 2 rfl rng fun a182 k183 a184 k185 hb186 hb187 => ?_
  unfold i64ok at hb186
  refine Fb 16 1 fun _ => ?_
  refine FoS 1 fun ho189 => ?_
  refine Fb 16 2 fun _ => ?_
  refine FoS 2 fun ho191 => ?_
  refine JK_drawK [0, 0, 2, 6, 14, 0, 0, 64, 224, 480, 992, 2046, 4095, 8191, 16383] fmix ?_
  refine Dv [] Vm (Dv [] Vm (Dv [0] (Vn 0) (Dv [0] (Vfa fo37_3 0) (Dv [0] (VldF sh35 0) (Dx [] [] [0] (fun G => (G.g 5 0)) [fun G => Cr (G.g 5 0) 3 [.string (bs (Str.mk [97])), .string (bs (Str.mk [110, 111, 119, 104, 101, 114, 101])), .string (bs (Str.mk [109]))]] (fun G => xA (AsV sl35 sz35 [.string (bs (Str.mk [97])), .string (bs (Str.mk [110, 111, 119, 104, 101, 114, 101])), .string (bs (Str.mk [109]))] [.string (bs (Str.mk [97])), .string (bs (Str.mk [110, 111, 119, 104, 101, 114, 101])), .string (bs (Str.mk [109]))])) (Dv [] Vm ?_))))))
  refine letv (tp_Next tT rv67.2 3) fun rv193 hg194 => ?_
  have hs4 := Next_r hg194 aM1
  refine Dx [3, 9] [3] [2, 0, 1] (fun G => vi rv193.1) [fun G => SP.fact (i64ok rv193.1 ∧ (0 ≤ rv193.2 ∧ rv193.2 ≤ (tT.length : Int)) ∧ (0 ≤ rv193.1 ∧ (rv193.1 < 3 ∨ rv193.1 = 0))), fun G => Cl tP [vl ta tk tT, vi rv193.2]] (fun G => xC [0, 0] ca15 (fn15 tP ta tk tT rv67.2 3 pre pre rv193 hg194)) ?_
  refine Dx [11, 12] [11] [1, 0] (fun G => (eptr 1 ((G.g 5 0)) rv193.1.toNat)) [fun G => os (G.g 5 0) ([(Str.mk [97]), (Str.mk [110, 111, 119, 104, 101, 114, 101]), (Str.mk [109])] : List Str)] (fun G => by refine xf 1 rfl ?_; rintro ⟨he195, he196, he197⟩; unfold i64ok at he195; exact xp [0] rfl (Ent.crOs (α := Str) (A := []) _ ([(Str.mk [97]), (Str.mk [110, 111, 119, 104, 101, 114, 101]), (Str.mk [109])] : List Str) _ aB1 (fun h => ⟨[.string (bs (Str.mk [97]))], [.string (bs (Str.mk [110, 111, 119, 104, 101, 114, 101])), .string (bs (Str.mk [109]))], rfl, (fun _ => ⟨rfl, by first | omega | (simp; done) | (dsimp only; omega) | exact lit_bl rfl⟩) h, ⟨[.string (bs (Str.mk [110, 111, 119, 104, 101, 114, 101]))], [.string (bs (Str.mk [109]))], rfl, (fun _ => ⟨rfl, by first | omega | (simp; done) | (dsimp only; omega) | exact lit_bl rfl⟩) h, ⟨[.string (bs (Str.mk [109]))], [], rfl, (fun _ => ⟨rfl, by first | omega | (simp; done) | (dsimp only; omega) | exact lit_bl rfl⟩) h, rfl⟩⟩⟩)) (xV (Vi sl35 0))) (Dv [14] (VldS sh9 0) (Dx [] [] [0] (fun G => (G.g 10 0)) [fun G => Cr (G.g 10 0) 1 [.string (bs ([(Str.mk [97]), (Str.mk [110, 111, 119, 104, 101, 114, 101]), (Str.mk [109])].getD rv193.1.toNat default))]] (fun G => xA (AsV sl35 sz35 [.string (bs ([(Str.mk [97]), (Str.mk [110, 111, 119, 104, 101, 114, 101]), (Str.mk [109])].getD rv193.1.toNat default))] [.string (bs ([(Str.mk [97]), (Str.mk [110, 111, 119, 104, 101, 114, 101]), (Str.mk [109])].getD rv193.1.toNat default))])) ?_))
  have hn200 := la ((((((rv7.Funcs.getD rv15.1.toNat default).Blocks).getD rv27.1.toNat default).Stmts).getD rv59.1.toNat default).Targets) ([([(Str.mk [97]), (Str.mk [110, 111, 119, 104, 101, 114, 101]), (Str.mk [109])].getD rv193.1.toNat default)] : List Str)
  refine Dx [2, 12, 15] [2, 15] [1, 0] (fun G => (G.g 11 0)) [fun G => os (G.g 11 0) (((((((rv7.Funcs.getD rv15.1.toNat default).Blocks).getD rv27.1.toNat default).Stmts).getD rv59.1.toNat default).Targets ++ [([(Str.mk [97]), (Str.mk [110, 111, 119, 104, 101, 114, 101]), (Str.mk [109])].getD rv193.1.toNat default)]) : List Str)] (fun G => by refine xf 1 rfl ?_; rintro ⟨he201, he202, he203⟩; unfold i64ok at he201; exact xp [2] rfl (Ent.cr1 (α := Str) (A := []) _ ([(Str.mk [97]), (Str.mk [110, 111, 119, 104, 101, 114, 101]), (Str.mk [109])].getD rv193.1.toNat default) _ aB1 (fun _ => ⟨rfl, aS1⟩)) (xA (ApO [1, 0] sl35 sl35 sz35))) (Dv [0] (Vn 0) (Dv [0] (Vfa fo37_3 0) (Dx0 [0, 16] [0] [1, 0] [fun G => dh (.slice a35 (((((rv7.Funcs.getD rv15.1.toNat default).Blocks).getD rv27.1.toNat default).Stmts).length) k36) ((((rv7.Funcs.getD rv15.1.toNat default).Blocks).getD rv27.1.toNat default).Stmts : List GStmt) rv59.1.toNat [vi ((((((rv7.Funcs.getD rv15.1.toNat default).Blocks).getD rv27.1.toNat default).Stmts).getD rv59.1.toNat default).Op), .string (bs ((((((rv7.Funcs.getD rv15.1.toNat default).Blocks).getD rv27.1.toNat default).Stmts).getD rv59.1.toNat default).Def)), .slice a182 (((((((rv7.Funcs.getD rv15.1.toNat default).Blocks).getD rv27.1.toNat default).Stmts).getD rv59.1.toNat default).Uses).length) k183, (G.g 11 0)]] (fun G => x1 1 rfl os_one fun ho204 => (xS (SoHr (α := GStmt) [0] sh35 [(G.g 11 0)] [vi ((((((rv7.Funcs.getD rv15.1.toNat default).Blocks).getD rv27.1.toNat default).Stmts).getD rv59.1.toNat default).Op), .string (bs ((((((rv7.Funcs.getD rv15.1.toNat default).Blocks).getD rv27.1.toNat default).Stmts).getD rv59.1.toNat default).Def)), .slice a182 (((((((rv7.Funcs.getD rv15.1.toNat default).Blocks).getD rv27.1.toNat default).Stmts).getD rv59.1.toNat default).Uses).length) k183, (G.g 11 0)] (cells_of_one ho204) rfl (by simp only [List.all_cons, List.all_nil, ho204, Bool.and_true, Bool.true_and] <;> rfl)))) ?_)))
  refine Dn ⟨by kernel_rfl, fun G => ?_⟩
  refine Jw2 [(4, p5), (5, p13)] [1, 4, 5, 6, 7, 8, 9, 10] [SP.fact (i64ok rv193.1 ∧ (0 ≤ rv193.2 ∧ rv193.2 ≤ (tT.length : Int)) ∧ (0 ≤ rv193.1 ∧ (rv193.1 < 3 ∨ rv193.1 = 0))), Cl tP [vl ta tk tT, vi rv193.2], os (G.g 5 0) ([(Str.mk [97]), (Str.mk [110, 111, 119, 104, 101, 114, 101]), (Str.mk [109])] : List Str), os (G.g 11 0) (((((((rv7.Funcs.getD rv15.1.toNat default).Blocks).getD rv27.1.toNat default).Stmts).getD rv59.1.toNat default).Targets ++ [([(Str.mk [97]), (Str.mk [110, 111, 119, 104, 101, 114, 101]), (Str.mk [109])].getD rv193.1.toNat default)]) : List Str), dh (.slice a35 (((((rv7.Funcs.getD rv15.1.toNat default).Blocks).getD rv27.1.toNat default).Stmts).length) k36) ((((rv7.Funcs.getD rv15.1.toNat default).Blocks).getD rv27.1.toNat default).Stmts : List GStmt) rv59.1.toNat [vi ((((((rv7.Funcs.getD rv15.1.toNat default).Blocks).getD rv27.1.toNat default).Stmts).getD rv59.1.toNat default).Op), .string (bs ((((((rv7.Funcs.getD rv15.1.toNat default).Blocks).getD rv27.1.toNat default).Stmts).getD rv59.1.toNat default).Def)), .slice a182 (((((((rv7.Funcs.getD rv15.1.toNat default).Blocks).getD rv27.1.toNat default).Stmts).getD rv59.1.toNat default).Uses).length) k183, (G.g 11 0)]] ?_
  generalize G.g 5 0 = c192, G.g 11 0 = c199
  refine Jf 8 rfl ?_; rintro ⟨he205, he206, he207⟩
  unfold i64ok at he205
  refine Jk [0, 0, 0, 0, 0, 0, 1, 2, 4, 4, 4, 4] ?_
  refine Jo 9 ?_; rintro a208 k209 rfl
  refine Fb 16 9 fun _ => ?_
  refine FoS 9 fun ho211 => ?_
  refine Jo 10 ?_; rintro a212 k213 rfl
  refine Fb 16 10 fun _ => ?_
  refine FoS 10 fun ho215 => ?_
  refine KS ?_
  refine Oq (VldA sh25 3) (Ost (Scl [4] sh25 [vl a10 k11 rv7.Funcs]) (KS ?_))
  refine Jl [11, 1, 9] (Ent.closeD (A := [O a182 k183 ((((((rv7.Funcs.getD rv15.1.toNat default).Blocks).getD rv27.1.toNat default).Stmts).getD rv59.1.toNat default).Uses), O a212 k213 (((((((rv7.Funcs.getD rv15.1.toNat default).Blocks).getD rv27.1.toNat default).Stmts).getD rv59.1.toNat default).Targets ++ [([(Str.mk [97]), (Str.mk [110, 111, 119, 104, 101, 114, 101]), (Str.mk [109])].getD rv193.1.toNat default)]) : List Str)]) _ _ _ _ (GStmt.mk ((((((rv7.Funcs.getD rv15.1.toNat default).Blocks).getD rv27.1.toNat default).Stmts).getD rv59.1.toNat default).Op) ((((((rv7.Funcs.getD rv15.1.toNat default).Blocks).getD rv27.1.toNat default).Stmts).getD rv59.1.toNat default).Def) ((((((rv7.Funcs.getD rv15.1.toNat default).Blocks).getD rv27.1.toNat default).Stmts).getD rv59.1.toNat default).Uses) ((((((rv7.Funcs.getD rv15.1.toNat default).Blocks).getD rv27.1.toNat default).Stmts).getD rv59.1.toNat default).Targets ++ [([(Str.mk [97]), (Str.mk [110, 111, 119, 104, 101, 114, 101]), (Str.mk [109])].getD rv193.1.toNat default)])) (innmk_GStmt (z0 := (((((rv7.Funcs.getD rv15.1.toNat default).Blocks).getD rv27.1.toNat default).Stmts).getD rv59.1.toNat default).Op) (z1 := (((((rv7.Funcs.getD rv15.1.toNat default).Blocks).getD rv27.1.toNat default).Stmts).getD rv59.1.toNat default).Def) aD1 aD1)) ?_
  refine Jl [2, 0] (Ent.closeD (A := [ds (.slice a35 (((((rv7.Funcs.getD rv15.1.toNat default).Blocks).getD rv27.1.toNat default).Stmts).length) k36) ((((((rv7.Funcs.getD rv15.1.toNat default).Blocks).getD rv27.1.toNat default).Stmts).set rv59.1.toNat (GStmt.mk ((((((rv7.Funcs.getD rv15.1.toNat default).Blocks).getD rv27.1.toNat default).Stmts).getD rv59.1.toNat default).Op) ((((((rv7.Funcs.getD rv15.1.toNat default).Blocks).getD rv27.1.toNat default).Stmts).getD rv59.1.toNat default).Def) ((((((rv7.Funcs.getD rv15.1.toNat default).Blocks).getD rv27.1.toNat default).Stmts).getD rv59.1.toNat default).Uses) ((((((rv7.Funcs.getD rv15.1.toNat default).Blocks).getD rv27.1.toNat default).Stmts).getD rv59.1.toNat default).Targets ++ [([(Str.mk [97]), (Str.mk [110, 111, 119, 104, 101, 114, 101]), (Str.mk [109])].getD rv193.1.toNat default)]))) : List GStmt)]) _ _ _ _ (GBlock.mk ((((rv7.Funcs.getD rv15.1.toNat default).Blocks).getD rv27.1.toNat default).Name) (((((rv7.Funcs.getD rv15.1.toNat default).Blocks).getD rv27.1.toNat default).Stmts).set rv59.1.toNat (GStmt.mk ((((((rv7.Funcs.getD rv15.1.toNat default).Blocks).getD rv27.1.toNat default).Stmts).getD rv59.1.toNat default).Op) ((((((rv7.Funcs.getD rv15.1.toNat default).Blocks).getD rv27.1.toNat default).Stmts).getD rv59.1.toNat default).Def) ((((((rv7.Funcs.getD rv15.1.toNat default).Blocks).getD rv27.1.toNat default).Stmts).getD rv59.1.toNat default).Uses) ((((((rv7.Funcs.getD rv15.1.toNat default).Blocks).getD rv27.1.toNat default).Stmts).getD rv59.1.toNat default).Targets ++ [([(Str.mk [97]), (Str.mk [110, 111, 119, 104, 101, 114, 101]), (Str.mk [109])].getD rv193.1.toNat default)])))) (innmk_GBlock (z0 := (((rv7.Funcs.getD rv15.1.toNat default).Blocks).getD rv27.1.toNat default).Name) aD1)) ?_
  refine Jl [2, 0] (Ent.closeD (A := [ds (vl a23 k24 ((rv7.Funcs.getD rv15.1.toNat default).Blocks)) ((((rv7.Funcs.getD rv15.1.toNat default).Blocks).set rv27.1.toNat (GBlock.mk ((((rv7.Funcs.getD rv15.1.toNat default).Blocks).getD rv27.1.toNat default).Name) (((((rv7.Funcs.getD rv15.1.toNat default).Blocks).getD rv27.1.toNat default).Stmts).set rv59.1.toNat (GStmt.mk ((((((rv7.Funcs.getD rv15.1.toNat default).Blocks).getD rv27.1.toNat default).Stmts).getD rv59.1.toNat default).Op) ((((((rv7.Funcs.getD rv15.1.toNat default).Blocks).getD rv27.1.toNat default).Stmts).getD rv59.1.toNat default).Def) ((((((rv7.Funcs.getD rv15.1.toNat default).Blocks).getD rv27.1.toNat default).Stmts).getD rv59.1.toNat default).Uses) ((((((rv7.Funcs.getD rv15.1.toNat default).Blocks).getD rv27.1.toNat default).Stmts).getD rv59.1.toNat default).Targets ++ [([(Str.mk [97]), (Str.mk [110, 111, 119, 104, 101, 114, 101]), (Str.mk [109])].getD rv193.1.toNat default)]))))) : List GBlock)]) _ _ _ _ (GFunc.mk ((rv7.Funcs.getD rv15.1.toNat default).Name) (((rv7.Funcs.getD rv15.1.toNat default).Blocks).set rv27.1.toNat (GBlock.mk ((((rv7.Funcs.getD rv15.1.toNat default).Blocks).getD rv27.1.toNat default).Name) (((((rv7.Funcs.getD rv15.1.toNat default).Blocks).getD rv27.1.toNat default).Stmts).set rv59.1.toNat (GStmt.mk ((((((rv7.Funcs.getD rv15.1.toNat default).Blocks).getD rv27.1.toNat default).Stmts).getD rv59.1.toNat default).Op) ((((((rv7.Funcs.getD rv15.1.toNat default).Blocks).getD rv27.1.toNat default).Stmts).getD rv59.1.toNat default).Def) ((((((rv7.Funcs.getD rv15.1.toNat default).Blocks).getD rv27.1.toNat default).Stmts).getD rv59.1.toNat default).Uses) ((((((rv7.Funcs.getD rv15.1.toNat default).Blocks).getD rv27.1.toNat default).Stmts).getD rv59.1.toNat default).Targets ++ [([(Str.mk [97]), (Str.mk [110, 111, 119, 104, 101, 114, 101]), (Str.mk [109])].getD rv193.1.toNat default)])))))) (innmk_GFunc (z0 := (rv7.Funcs.getD rv15.1.toNat default).Name) aD1)) ?_
  refine Jl [0] (Ent.dsF _ _) ?_
  have hq := q4 hrr ((GProgram.mk (rv7.Funcs.set rv15.1.toNat (GFunc.mk ((rv7.Funcs.getD rv15.1.toNat default).Name) (((rv7.Funcs.getD rv15.1.toNat default).Blocks).set rv27.1.toNat (GBlock.mk ((((rv7.Funcs.getD rv15.1.toNat default).Blocks).getD rv27.1.toNat default).Name) (((((rv7.Funcs.getD rv15.1.toNat default).Blocks).getD rv27.1.toNat default).Stmts).set rv59.1.toNat (GStmt.mk ((((((rv7.Funcs.getD rv15.1.toNat default).Blocks).getD rv27.1.toNat default).Stmts).getD rv59.1.toNat default).Op) ((((((rv7.Funcs.getD rv15.1.toNat default).Blocks).getD rv27.1.toNat default).Stmts).getD rv59.1.toNat default).Def) ((((((rv7.Funcs.getD rv15.1.toNat default).Blocks).getD rv27.1.toNat default).Stmts).getD rv59.1.toNat default).Uses) ((((((rv7.Funcs.getD rv15.1.toNat default).Blocks).getD rv27.1.toNat default).Stmts).getD rv59.1.toNat default).Targets ++ [([(Str.mk [97]), (Str.mk [110, 111, 119, 104, 101, 114, 101]), (Str.mk [109])].getD rv193.1.toNat default)])))))))), rv193.2) (by simp only [tp_SpoilProgram, h39, h73, h88, h103, h122, h147, h180, hg8, hg16, hg28, hg60, hg68, hg194, cs4]); subst hq
  exact Kr (vl a10 k11 rv7.Funcs) rfl (.cellN 1 rfl sh25 rfl (reads_Cl _ _) rfl .nil) [0, 6] en
 intro h180
 have g216 := ne_of_beq_false h180
 refine KS ?_
 refine Oq Veql (Oq Va (KS ?_))
 refine Kc ?_ ?_
 ·intro h217
  have g218 := eq_of_beq h217
  refine KS ?_
  refine Oq Vm ?_
  refine JJ_openD_GStmt rv59.1.toNat 2 rfl rng fun a219 k220 a221 k222 hb223 hb224 => ?_
  unfold i64ok at hb223
  refine Fb 16 1 fun _ => ?_
  refine FoS 1 fun ho226 => ?_
  refine Fb 16 2 fun _ => ?_
  refine FoS 2 fun ho228 => ?_
  refine Oq (Vn 0) (Oq (Vfa fo37_3 0) (Oq (VldF sh35 0) (Oq (Vlen sl35) (Oq Vgtr (KS ?_)))))
  refine Kc ?_ ?_
  ·intro h229
   have g230 := dt h229
   refine JK_drawK [0, 1, 3, 7, 0, 0, 32, 112, 240, 511, 1023] fmix ?_
   refine Dv [] Vm (Dv [0] (Vn 0) (Dv [0] (Vfa fo37_3 0) (Dv [0] (VldF sh35 0) (Dx [] [] [0] (fun G => (G.g 4 0)) [fun G => Cr (G.g 4 0) 4 [.string (bs (Str.mk [110, 111, 119, 104, 101, 114, 101])), .string (bs (Str.mk [97])), .string (bs (Str.mk [99])), .string (bs (Str.mk [103]))]] (fun G => xA (AsV sl35 sz35 [.string (bs (Str.mk [110, 111, 119, 104, 101, 114, 101])), .string (bs (Str.mk [97])), .string (bs (Str.mk [99])), .string (bs (Str.mk [103]))] [.string (bs (Str.mk [110, 111, 119, 104, 101, 114, 101])), .string (bs (Str.mk [97])), .string (bs (Str.mk [99])), .string (bs (Str.mk [103]))])) (Dv [] Vm ?_)))))
   refine letv (tp_Next tT rv67.2 4) fun rv232 hg233 => ?_
   have hs4 := Next_r hg233 aM1
   refine Dx [3, 9] [3] [2, 0, 1] (fun G => vi rv232.1) [fun G => SP.fact (i64ok rv232.1 ∧ (0 ≤ rv232.2 ∧ rv232.2 ≤ (tT.length : Int)) ∧ (0 ≤ rv232.1 ∧ (rv232.1 < 4 ∨ rv232.1 = 0))), fun G => Cl tP [vl ta tk tT, vi rv232.2]] (fun G => xC [0, 0] ca15 (fn15 tP ta tk tT rv67.2 4 pre pre rv232 hg233)) ?_
   refine Dx [11, 12] [11] [1, 0] (fun G => (eptr 1 ((G.g 4 0)) rv232.1.toNat)) [fun G => os (G.g 4 0) ([(Str.mk [110, 111, 119, 104, 101, 114, 101]), (Str.mk [97]), (Str.mk [99]), (Str.mk [103])] : List Str)] (fun G => by refine xf 1 rfl ?_; rintro ⟨he234, he235, he236⟩; unfold i64ok at he234; exact xp [0] rfl (Ent.crOs (α := Str) (A := []) _ ([(Str.mk [110, 111, 119, 104, 101, 114, 101]), (Str.mk [97]), (Str.mk [99]), (Str.mk [103])] : List Str) _ aB1 (fun h => ⟨[.string (bs (Str.mk [110, 111, 119, 104, 101, 114, 101]))], [.string (bs (Str.mk [97])), .string (bs (Str.mk [99])), .string (bs (Str.mk [103]))], rfl, (fun _ => ⟨rfl, by first | omega | (simp; done) | (dsimp only; omega) | exact lit_bl rfl⟩) h, ⟨[.string (bs (Str.mk [97]))], [.string (bs (Str.mk [99])), .string (bs (Str.mk [103]))], rfl, (fun _ => ⟨rfl, by first | omega | (simp; done) | (dsimp only; omega) | exact lit_bl rfl⟩) h, ⟨[.string (bs (Str.mk [99]))], [.string (bs (Str.mk [103]))], rfl, (fun _ => ⟨rfl, by first | omega | (simp; done) | (dsimp only; omega) | exact lit_bl rfl⟩) h, ⟨[.string (bs (Str.mk [103]))], [], rfl, (fun _ => ⟨rfl, by first | omega | (simp; done) | (dsimp only; omega) | exact lit_bl rfl⟩) h, rfl⟩⟩⟩⟩)) (xV (Vi sl35 0))) (Dv [14] (VldS sh9 0) (Dv [2] (Vi sl35 0) ?_))
   refine Dx0 [2, 12] [2] [1, 0] [fun G => os (.slice a221 (((((((rv7.Funcs.getD rv15.1.toNat default).Blocks).getD rv27.1.toNat default).Stmts).getD rv59.1.toNat default).Targets).length) k222) ((((((((rv7.Funcs.getD rv15.1.toNat default).Blocks).getD rv27.1.toNat default).Stmts).getD rv59.1.toNat default).Targets).set (0 : Int).toNat ([(Str.mk [110, 111, 119, 104, 101, 114, 101]), (Str.mk [97]), (Str.mk [99]), (Str.mk [103])].getD rv232.1.toNat default)) : List Str)] (fun G => by refine xf 1 rfl ?_; rintro ⟨he237, he238, he239⟩; unfold i64ok at he237; exact xS (So (Rs := []) [0] sh9 ([(Str.mk [110, 111, 119, 104, 101, 114, 101]), (Str.mk [97]), (Str.mk [99]), (Str.mk [103])].getD rv232.1.toNat default) (fun _ => ⟨rfl, aS1⟩))) ?_
   refine Dn ⟨by kernel_rfl, fun G => ?_⟩
   refine Jw2 [(4, p5), (5, p13)] [0, 1, 4, 5, 6, 7, 8, 9, 10] [SP.fact (i64ok rv232.1 ∧ (0 ≤ rv232.2 ∧ rv232.2 ≤ (tT.length : Int)) ∧ (0 ≤ rv232.1 ∧ (rv232.1 < 4 ∨ rv232.1 = 0))), Cl tP [vl ta tk tT, vi rv232.2], os (G.g 4 0) ([(Str.mk [110, 111, 119, 104, 101, 114, 101]), (Str.mk [97]), (Str.mk [99]), (Str.mk [103])] : List Str), os (.slice a221 (((((((rv7.Funcs.getD rv15.1.toNat default).Blocks).getD rv27.1.toNat default).Stmts).getD rv59.1.toNat default).Targets).length) k222) ((((((((rv7.Funcs.getD rv15.1.toNat default).Blocks).getD rv27.1.toNat default).Stmts).getD rv59.1.toNat default).Targets).set (0 : Int).toNat ([(Str.mk [110, 111, 119, 104, 101, 114, 101]), (Str.mk [97]), (Str.mk [99]), (Str.mk [103])].getD rv232.1.toNat default)) : List Str)] ?_
   generalize G.g 4 0 = c231
   refine Jf 9 rfl ?_; rintro ⟨he240, he241, he242⟩
   unfold i64ok at he240
   refine Jk [0, 0, 0, 0, 0, 0, 0, 1, 2, 4, 4, 4] ?_
   refine Jo 10 ?_; rintro a243 k244 rfl
   refine Fb 16 10 fun _ => ?_
   refine FoS 10 fun ho246 => ?_
   refine KS ?_
   refine Oq (VldA sh25 4) (Ost (Scl [5] sh25 [vl a10 k11 rv7.Funcs]) (KS ?_))
   refine Jl [1, 1, 9] (Ent.closeD (A := [O a219 k220 ((((((rv7.Funcs.getD rv15.1.toNat default).Blocks).getD rv27.1.toNat default).Stmts).getD rv59.1.toNat default).Uses), os (.slice a221 (((((((rv7.Funcs.getD rv15.1.toNat default).Blocks).getD rv27.1.toNat default).Stmts).getD rv59.1.toNat default).Targets).length) k222) ((((((((rv7.Funcs.getD rv15.1.toNat default).Blocks).getD rv27.1.toNat default).Stmts).getD rv59.1.toNat default).Targets).set (0 : Int).toNat ([(Str.mk [110, 111, 119, 104, 101, 114, 101]), (Str.mk [97]), (Str.mk [99]), (Str.mk [103])].getD rv232.1.toNat default)) : List Str)]) _ _ _ _ (GStmt.mk ((((((rv7.Funcs.getD rv15.1.toNat default).Blocks).getD rv27.1.toNat default).Stmts).getD rv59.1.toNat default).Op) ((((((rv7.Funcs.getD rv15.1.toNat default).Blocks).getD rv27.1.toNat default).Stmts).getD rv59.1.toNat default).Def) ((((((rv7.Funcs.getD rv15.1.toNat default).Blocks).getD rv27.1.toNat default).Stmts).getD rv59.1.toNat default).Uses) (((((((rv7.Funcs.getD rv15.1.toNat default).Blocks).getD rv27.1.toNat default).Stmts).getD rv59.1.toNat default).Targets).set (0 : Int).toNat ([(Str.mk [110, 111, 119, 104, 101, 114, 101]), (Str.mk [97]), (Str.mk [99]), (Str.mk [103])].getD rv232.1.toNat default))) (innmk_GStmt (z0 := (((((rv7.Funcs.getD rv15.1.toNat default).Blocks).getD rv27.1.toNat default).Stmts).getD rv59.1.toNat default).Op) (z1 := (((((rv7.Funcs.getD rv15.1.toNat default).Blocks).getD rv27.1.toNat default).Stmts).getD rv59.1.toNat default).Def) aD1 aD1)) ?_
   refine Jl [2, 0] (Ent.closeD (A := [ds (.slice a35 (((((rv7.Funcs.getD rv15.1.toNat default).Blocks).getD rv27.1.toNat default).Stmts).length) k36) ((((((rv7.Funcs.getD rv15.1.toNat default).Blocks).getD rv27.1.toNat default).Stmts).set rv59.1.toNat (GStmt.mk ((((((rv7.Funcs.getD rv15.1.toNat default).Blocks).getD rv27.1.toNat default).Stmts).getD rv59.1.toNat default).Op) ((((((rv7.Funcs.getD rv15.1.toNat default).Blocks).getD rv27.1.toNat default).Stmts).getD rv59.1.toNat default).Def) ((((((rv7.Funcs.getD rv15.1.toNat default).Blocks).getD rv27.1.toNat default).Stmts).getD rv59.1.toNat default).Uses) (((((((rv7.Funcs.getD rv15.1.toNat default).Blocks).getD rv27.1.toNat default).Stmts).getD rv59.1.toNat default).Targets).set (0 : Int).toNat ([(Str.mk [110, 111, 119, 104, 101, 114, 101]), (Str.mk [97]), (Str.mk [99]), (Str.mk [103])].getD rv232.1.toNat default)))) : List GStmt)]) _ _ _ _ (GBlock.mk ((((rv7.Funcs.getD rv15.1.toNat default).Blocks).getD rv27.1.toNat default).Name) (((((rv7.Funcs.getD rv15.1.toNat default).Blocks).getD rv27.1.toNat default).Stmts).set rv59.1.toNat (GStmt.mk ((((((rv7.Funcs.getD rv15.1.toNat default).Blocks).getD rv27.1.toNat default).Stmts).getD rv59.1.toNat default).Op) ((((((rv7.Funcs.getD rv15.1.toNat default).Blocks).getD rv27.1.toNat default).Stmts).getD rv59.1.toNat default).Def) ((((((rv7.Funcs.getD rv15.1.toNat default).Blocks).getD rv27.1.toNat default).Stmts).getD rv59.1.toNat default).Uses) (((((((rv7.Funcs.getD rv15.1.toNat default).Blocks).getD rv27.1.toNat default).Stmts).getD rv59.1.toNat default).Targets).set (0 : Int).toNat ([(Str.mk [110, 111, 119, 104, 101, 114, 101]), (Str.mk [97]), (Str.mk [99]), (Str.mk [103])].getD rv232.1.toNat default))))) (innmk_GBlock (z0 := (((rv7.Funcs.getD rv15.1.toNat default).Blocks).getD rv27.1.toNat default).Name) aD1)) ?_
   refine Jl [2, 0] (Ent.closeD (A := [ds (vl a23 k24 ((rv7.Funcs.getD rv15.1.toNat default).Blocks)) ((((rv7.Funcs.getD rv15.1.toNat default).Blocks).set rv27.1.toNat (GBlock.mk ((((rv7.Funcs.getD rv15.1.toNat default).Blocks).getD rv27.1.toNat default).Name) (((((rv7.Funcs.getD rv15.1.toNat default).Blocks).getD rv27.1.toNat default).Stmts).set rv59.1.toNat (GStmt.mk ((((((rv7.Funcs.getD rv15.1.toNat default).Blocks).getD rv27.1.toNat default).Stmts).getD rv59.1.toNat default).Op) ((((((rv7.Funcs.getD rv15.1.toNat default).Blocks).getD rv27.1.toNat default).Stmts).getD rv59.1.toNat default).Def) ((((((rv7.Funcs.getD rv15.1.toNat default).Blocks).getD rv27.1.toNat default).Stmts).getD rv59.1.toNat default).Uses) (((((((rv7.Funcs.getD rv15.1.toNat default).Blocks).getD rv27.1.toNat default).Stmts).getD rv59.1.toNat default).Targets).set (0 : Int).toNat ([(Str.mk [110, 111, 119, 104, 101, 114, 101]), (Str.mk [97]), (Str.mk [99]), (Str.mk [103])].getD rv232.1.toNat default)))))) : List GBlock)]) _ _ _ _ (GFunc.mk ((rv7.Funcs.getD rv15.1.toNat default).Name) (((rv7.Funcs.getD rv15.1.toNat default).Blocks).set rv27.1.toNat (GBlock.mk ((((rv7.Funcs.getD rv15.1.toNat default).Blocks).getD rv27.1.toNat default).Name) (((((rv7.Funcs.getD rv15.1.toNat default).Blocks).getD rv27.1.toNat default).Stmts).set rv59.1.toNat (GStmt.mk ((((((rv7.Funcs.getD rv15.1.toNat default).Blocks).getD rv27.1.toNat default).Stmts).getD rv59.1.toNat default).Op) ((((((rv7.Funcs.getD rv15.1.toNat default).Blocks).getD rv27.1.toNat default).Stmts).getD rv59.1.toNat default).Def) ((((((rv7.Funcs.getD rv15.1.toNat default).Blocks).getD rv27.1.toNat default).Stmts).getD rv59.1.toNat default).Uses) (((((((rv7.Funcs.getD rv15.1.toNat default).Blocks).getD rv27.1.toNat default).Stmts).getD rv59.1.toNat default).Targets).set (0 : Int).toNat ([(Str.mk [110, 111, 119, 104, 101, 114, 101]), (Str.mk [97]), (Str.mk [99]), (Str.mk [103])].getD rv232.1.toNat default))))))) (innmk_GFunc (z0 := (rv7.Funcs.getD rv15.1.toNat default).Name) aD1)) ?_
   refine Jl [0] (Ent.dsF _ _) ?_
   have hq := q4 hrr ((GProgram.mk (rv7.Funcs.set rv15.1.toNat (GFunc.mk ((rv7.Funcs.getD rv15.1.toNat default).Name) (((rv7.Funcs.getD rv15.1.toNat default).Blocks).set rv27.1.toNat (GBlock.mk ((((rv7.Funcs.getD rv15.1.toNat default).Blocks).getD rv27.1.toNat default).Name) (((((rv7.Funcs.getD rv15.1.toNat default).Blocks).getD rv27.1.toNat default).Stmts).set rv59.1.toNat (GStmt.mk ((((((rv7.Funcs.getD rv15.1.toNat default).Blocks).getD rv27.1.toNat default).Stmts).getD rv59.1.toNat default).Op) ((((((rv7.Funcs.getD rv15.1.toNat default).Blocks).getD rv27.1.toNat default).Stmts).getD rv59.1.toNat default).Def) ((((((rv7.Funcs.getD rv15.1.toNat default).Blocks).getD rv27.1.toNat default).Stmts).getD rv59.1.toNat default).Uses) (((((((rv7.Funcs.getD rv15.1.toNat default).Blocks).getD rv27.1.toNat default).Stmts).getD rv59.1.toNat default).Targets).set (0 : Int).toNat ([(Str.mk [110, 111, 119, 104, 101, 114, 101]), (Str.mk [97]), (Str.mk [99]), (Str.mk [103])].getD rv232.1.toNat default))))))))), rv232.2) (by simp only [tp_SpoilProgram, h39, h73, h88, h103, h122, h147, h180, h217, h229, hg8, hg16, hg28, hg60, hg68, hg233, cs4]); subst hq
   exact Kr (vl a10 k11 rv7.Funcs) rfl (.cellN 1 rfl sh25 rfl (reads_Cl _ _) rfl .nil) [0, 6] en
  intro h229
  have g247 := df h229
  refine KS ?_
  refine Oq (VldA sh25 6) (Ost (Scl [7] sh25 [vl a10 k11 rv7.Funcs]) (KS ?_))
  refine Jl [1, 1, 1] (Ent.closeS (A := [O a219 k220 ((((((rv7.Funcs.getD rv15.1.toNat default).Blocks).getD rv27.1.toNat default).Stmts).getD rv59.1.toNat default).Uses), O a221 k222 ((((((rv7.Funcs.getD rv15.1.toNat default).Blocks).getD rv27.1.toNat default).Stmts).getD rv59.1.toNat default).Targets)]) _ _ _ _ default (innmk_GStmt (z0 := (((((rv7.Funcs.getD rv15.1.toNat default).Blocks).getD rv27.1.toNat default).Stmts).getD rv59.1.toNat default).Op) (z1 := (((((rv7.Funcs.getD rv15.1.toNat default).Blocks).getD rv27.1.toNat default).Stmts).getD rv59.1.toNat default).Def) aD1 aD1)) ?_
  refine Jl [3, 0] (Ent.closeS (A := [D a35 k36 ((((rv7.Funcs.getD rv15.1.toNat default).Blocks).getD rv27.1.toNat default).Stmts)]) _ _ _ _ default (innmk_GBlock (z0 := (((rv7.Funcs.getD rv15.1.toNat default).Blocks).getD rv27.1.toNat default).Name) aD1)) ?_
  refine Jl [3, 0] (Ent.closeS (A := [D a23 k24 ((rv7.Funcs.getD rv15.1.toNat default).Blocks)]) _ _ _ _ default (innmk_GFunc (z0 := (rv7.Funcs.getD rv15.1.toNat default).Name) aD1)) ?_
  refine Jl [0] (Ent.dsF _ _) ?_
  have hq := q4 hrr (rv7, rv67.2) (by simp only [tp_SpoilProgram, h39, h73, h88, h103, h122, h147, h180, h217, h229, hg8, hg16, hg28, hg60, hg68, cs4]); subst hq
  exact Kr (vl a10 k11 rv7.Funcs) rfl (.cellN 1 rfl sh25 rfl (reads_Cl _ _) rfl .nil) [0, 2] en
 intro h217
 have g248 := ne_of_beq_false h217
 refine KS ?_
 refine Oq Veql (Oq Va (KS ?_))
 refine Kc ?_ ?_
 ·intro h249
  have g250 := eq_of_beq h249
  refine JK_drawK [0, 0, 2, 6, 14, 0, 32, 96, 224, 480, 992, 2046, 4095, 8191, 16383] fmix ?_
  refine Dv [] Vm (Dv [] Vm (Dv [1] (Vn 0) (Dv [1] (Vfa fo34_1 0) (Dv [1] (VldF sh32 0) (Dv [] Vm (Dv [1] (Vn 0) (Dv [1] (Vfa fo34_1 0) (Dv [1] (VldF sh32 0) (Dv [] (Vlen sl32) ?_)))))))))
  refine Dv [] Vsub (Dx [2] [2] [0] (fun G => (G.g 11 0)) [fun G => ds (G.g 11 0) ((((((rv7.Funcs.getD rv15.1.toNat default).Blocks).getD rv27.1.toNat default).Stmts).take ((((((((rv7.Funcs.getD rv15.1.toNat default).Blocks).getD rv27.1.toNat default).Stmts).length : Int) - 1) : Int).toNat)).drop 0)] (fun G => xA (AslD [0] sl32 0 ((((((((rv7.Funcs.getD rv15.1.toNat default).Blocks).getD rv27.1.toNat default).Stmts).length : Int) - 1) : Int).toNat))) (Dv [1] (Vn 0) (Dv [1] (Vfa fo34_1 0) (Dx0 [1, 9] [1] [1, 0] [fun G => dh (vl a23 k24 ((rv7.Funcs.getD rv15.1.toNat default).Blocks)) ((rv7.Funcs.getD rv15.1.toNat default).Blocks : List GBlock) rv27.1.toNat [.string (bs ((((rv7.Funcs.getD rv15.1.toNat default).Blocks).getD rv27.1.toNat default).Name)), (G.g 11 0)]] (fun G => x1 1 rfl ds_one fun ho252 => (xS (SoHr (α := GBlock) [0] sh32 [(G.g 11 0)] [.string (bs ((((rv7.Funcs.getD rv15.1.toNat default).Blocks).getD rv27.1.toNat default).Name)), (G.g 11 0)] (cells_of_one ho252) rfl (by simp only [List.all_cons, List.all_nil, ho252, Bool.and_true, Bool.true_and] <;> rfl)))) ?_))))
  refine Dn ⟨by kernel_rfl, fun G => ?_⟩
  refine Jw2 [(4, p5), (5, p13)] [0, 3, 4, 5, 6, 7, 8] [ds (G.g 11 0) ((((((rv7.Funcs.getD rv15.1.toNat default).Blocks).getD rv27.1.toNat default).Stmts).take ((((((((rv7.Funcs.getD rv15.1.toNat default).Blocks).getD rv27.1.toNat default).Stmts).length : Int) - 1) : Int).toNat)).drop 0), dh (vl a23 k24 ((rv7.Funcs.getD rv15.1.toNat default).Blocks)) ((rv7.Funcs.getD rv15.1.toNat default).Blocks : List GBlock) rv27.1.toNat [.string (bs ((((rv7.Funcs.getD rv15.1.toNat default).Blocks).getD rv27.1.toNat default).Name)), (G.g 11 0)]] ?_
  generalize G.g 11 0 = c251
  refine Jo 7 ?_; rintro a253 k254 rfl
  refine FbD 72 7 fun _ => ?_
  refine KS ?_
  refine Oq (VldA sh25 2) (Ost (Scl [3] sh25 [vl a10 k11 rv7.Funcs]) (KS ?_))
  refine Jl [8, 7] (Ent.closeD (A := [D a253 k254 ((((((rv7.Funcs.getD rv15.1.toNat default).Blocks).getD rv27.1.toNat default).Stmts).take ((((((((rv7.Funcs.getD rv15.1.toNat default).Blocks).getD rv27.1.toNat default).Stmts).length : Int) - 1) : Int).toNat)).drop 0)]) _ _ _ _ (GBlock.mk ((((rv7.Funcs.getD rv15.1.toNat default).Blocks).getD rv27.1.toNat default).Name) ((((((rv7.Funcs.getD rv15.1.toNat default).Blocks).getD rv27.1.toNat default).Stmts).take ((((((((rv7.Funcs.getD rv15.1.toNat default).Blocks).getD rv27.1.toNat default).Stmts).length : Int) - 1) : Int).toNat)).drop 0)) (innmk_GBlock (z0 := (((rv7.Funcs.getD rv15.1.toNat default).Blocks).getD rv27.1.toNat default).Name) aD1)) ?_
  refine Jl [3, 0] (Ent.closeD (A := [ds (vl a23 k24 ((rv7.Funcs.getD rv15.1.toNat default).Blocks)) (((rv7.Funcs.getD rv15.1.toNat default).Blocks).set rv27.1.toNat (GBlock.mk ((((rv7.Funcs.getD rv15.1.toNat default).Blocks).getD rv27.1.toNat default).Name) ((((((rv7.Funcs.getD rv15.1.toNat default).Blocks).getD rv27.1.toNat default).Stmts).take ((((((((rv7.Funcs.getD rv15.1.toNat default).Blocks).getD rv27.1.toNat default).Stmts).length : Int) - 1) : Int).toNat)).drop 0)))]) _ _ _ _ (GFunc.mk ((rv7.Funcs.getD rv15.1.toNat default).Name) (((rv7.Funcs.getD rv15.1.toNat default).Blocks).set rv27.1.toNat (GBlock.mk ((((rv7.Funcs.getD rv15.1.toNat default).Blocks).getD rv27.1.toNat default).Name) ((((((rv7.Funcs.getD rv15.1.toNat default).Blocks).getD rv27.1.toNat default).Stmts).take ((((((((rv7.Funcs.getD rv15.1.toNat default).Blocks).getD rv27.1.toNat default).Stmts).length : Int) - 1) : Int).toNat)).drop 0)))) (innmk_GFunc (z0 := (rv7.Funcs.getD rv15.1.toNat default).Name) aD1)) ?_
  refine Jl [0] (Ent.dsF _ _) ?_
  have hq := q4 hrr ((GProgram.mk (rv7.Funcs.set rv15.1.toNat (GFunc.mk ((rv7.Funcs.getD rv15.1.toNat default).Name) (((rv7.Funcs.getD rv15.1.toNat default).Blocks).set rv27.1.toNat (GBlock.mk ((((rv7.Funcs.getD rv15.1.toNat default).Blocks).getD rv27.1.toNat default).Name) ((((((rv7.Funcs.getD rv15.1.toNat default).Blocks).getD rv27.1.toNat default).Stmts).take ((((((((rv7.Funcs.getD rv15.1.toNat default).Blocks).getD rv27.1.toNat default).Stmts).length : Int) - 1) : Int).toNat)).drop 0)))))), rv67.2) (by simp only [tp_SpoilProgram, h39, h73, h88, h103, h122, h147, h180, h217, h249, hg8, hg16, hg28, hg60, hg68, cs4]); subst hq
  exact Kr (vl a10 k11 rv7.Funcs) rfl (.cellN 1 rfl sh25 rfl (reads_Cl _ _) rfl .nil) [0, 2] en
 intro h249
 have g256 := ne_of_beq_false h249
 refine KS ?_
 refine Oq Veql (Oq Va (KS ?_))
 refine Kc ?_ ?_
 ·intro h257
  have g258 := eq_of_beq h257
  refine JK_drawK [0, 0, 2, 6, 14, 0, 32, 96, 254, 511, 1023, 2047] fmix ?_
  refine Dv [] Vm (Dv [] Vm (Dv [1] (Vn 0) (Dv [1] (Vfa fo34_1 0) (Dv [1] (VldF sh32 0) (Dv [] Vm ?_)))))
  refine letv (tp_stmt tT rv67.2 3) fun rv261 hg262 => ?_
  refine Dx [0, 7] [0] [4, 0, 1, 1, 1] (fun G => .agg #[vi rv261.1.Op, .string (bs rv261.1.Def), (G.g 6 0), (G.g 6 1)]) [fun G => SP.fact (i64ok rv261.1.Op ∧ rv261.1.Def.b.length ≤ 140737488355328 ∧ (0 ≤ rv261.2 ∧ rv261.2 ≤ (tT.length : Int))), fun G => os (G.g 6 0) rv261.1.Uses, fun G => os (G.g 6 1) rv261.1.Targets, fun G => Cl tP [vl ta tk tT, vi rv261.2]] (fun G => xC [0, 0] ca17 (fn17 tP ta tk tT rv67.2 3 pre pre pre rv261 hg262)) (Dx [] [] [0] (fun G => (G.g 7 0)) [fun G => Cr (G.g 7 0) 1 [vi rv261.1.Op, .string (bs rv261.1.Def), (G.g 6 0), (G.g 6 1)]] (fun G => xA (AsV sl32 sz32 [.agg #[vi rv261.1.Op, .string (bs rv261.1.Def), (G.g 6 0), (G.g 6 1)]] [vi rv261.1.Op, .string (bs rv261.1.Def), (G.g 6 0), (G.g 6 1)])) ?_)
  have hn265 := la ((((rv7.Funcs.getD rv15.1.toNat default).Blocks).getD rv27.1.toNat default).Stmts) ([rv261.1] : List GStmt)
  refine Dx [2, 9, 10, 11, 13] [2, 10, 11, 13] [1, 0] (fun G => (G.g 8 0)) [fun G => ds (G.g 8 0) (((((rv7.Funcs.getD rv15.1.toNat default).Blocks).getD rv27.1.toNat default).Stmts ++ [rv261.1]) : List GStmt)] (fun G => by refine xf 1 rfl ?_; rintro ⟨he266, he267, he268⟩; unfold i64ok at he266; exact xp [4, 2, 2] rfl (Ent.crD (α := GStmt) (A := [os (G.g 6 0) rv261.1.Uses, os (G.g 6 1) rv261.1.Targets]) _ rv261.1 _ aB1 (innmk_GStmt (z0 := rv261.1.Op) (z1 := rv261.1.Def) aD1 aD1)) (xA (ApD [1, 0] sl32 sl32 sz32))) (Dv [1] (Vn 0) (Dv [1] (Vfa fo34_1 0) (Dx0 [1, 14] [1] [1, 0] [fun G => dh (vl a23 k24 ((rv7.Funcs.getD rv15.1.toNat default).Blocks)) ((rv7.Funcs.getD rv15.1.toNat default).Blocks : List GBlock) rv27.1.toNat [.string (bs ((((rv7.Funcs.getD rv15.1.toNat default).Blocks).getD rv27.1.toNat default).Name)), (G.g 8 0)]] (fun G => x1 1 rfl ds_one fun ho269 => (xS (SoHr (α := GBlock) [0] sh32 [(G.g 8 0)] [.string (bs ((((rv7.Funcs.getD rv15.1.toNat default).Blocks).getD rv27.1.toNat default).Name)), (G.g 8 0)] (cells_of_one ho269) rfl (by simp only [List.all_cons, List.all_nil, ho269, Bool.and_true, Bool.true_and] <;> rfl)))) ?_)))
  refine Dn ⟨by kernel_rfl, fun G => ?_⟩
  refine Jw2 [(4, p5), (5, p13)] [3, 4, 5, 6, 7, 8] [SP.fact (i64ok rv261.1.Op ∧ rv261.1.Def.b.length ≤ 140737488355328 ∧ (0 ≤ rv261.2 ∧ rv261.2 ≤ (tT.length : Int))), Cl tP [vl ta tk tT, vi rv261.2], ds (G.g 8 0) (((((rv7.Funcs.getD rv15.1.toNat default).Blocks).getD rv27.1.toNat default).Stmts ++ [rv261.1]) : List GStmt), dh (vl a23 k24 ((rv7.Funcs.getD rv15.1.toNat default).Blocks)) ((rv7.Funcs.getD rv15.1.toNat default).Blocks : List GBlock) rv27.1.toNat [.string (bs ((((rv7.Funcs.getD rv15.1.toNat default).Blocks).getD rv27.1.toNat default).Name)), (G.g 8 0)]] ?_
  generalize G.g 8 0 = c264
  refine Jf 6 rfl ?_; rintro ⟨he270, he271, he272⟩
  unfold i64ok at he270
  refine Jk [0, 0, 0, 0, 1, 2, 4, 4, 4] ?_
  refine Jo 7 ?_; rintro a273 k274 rfl
  refine FbD 72 7 fun _ => ?_
  refine KS ?_
  refine Oq (VldA sh25 1) (Ost (Scl [2] sh25 [vl a10 k11 rv7.Funcs]) (KS ?_))
  refine Jl [8, 7] (Ent.closeD (A := [D a273 k274 (((((rv7.Funcs.getD rv15.1.toNat default).Blocks).getD rv27.1.toNat default).Stmts ++ [rv261.1]) : List GStmt)]) _ _ _ _ (GBlock.mk ((((rv7.Funcs.getD rv15.1.toNat default).Blocks).getD rv27.1.toNat default).Name) ((((rv7.Funcs.getD rv15.1.toNat default).Blocks).getD rv27.1.toNat default).Stmts ++ [rv261.1])) (innmk_GBlock (z0 := (((rv7.Funcs.getD rv15.1.toNat default).Blocks).getD rv27.1.toNat default).Name) aD1)) ?_
  refine Jl [2, 0] (Ent.closeD (A := [ds (vl a23 k24 ((rv7.Funcs.getD rv15.1.toNat default).Blocks)) ((((rv7.Funcs.getD rv15.1.toNat default).Blocks).set rv27.1.toNat (GBlock.mk ((((rv7.Funcs.getD rv15.1.toNat default).Blocks).getD rv27.1.toNat default).Name) ((((rv7.Funcs.getD rv15.1.toNat default).Blocks).getD rv27.1.toNat default).Stmts ++ [rv261.1]))) : List GBlock)]) _ _ _ _ (GFunc.mk ((rv7.Funcs.getD rv15.1.toNat default).Name) (((rv7.Funcs.getD rv15.1.toNat default).Blocks).set rv27.1.toNat (GBlock.mk ((((rv7.Funcs.getD rv15.1.toNat default).Blocks).getD rv27.1.toNat default).Name) ((((rv7.Funcs.getD rv15.1.toNat default).Blocks).getD rv27.1.toNat default).Stmts ++ [rv261.1])))) (innmk_GFunc (z0 := (rv7.Funcs.getD rv15.1.toNat default).Name) aD1)) ?_
  refine Jl [0] (Ent.dsF _ _) ?_
  have hq := q4 hrr ((GProgram.mk (rv7.Funcs.set rv15.1.toNat (GFunc.mk ((rv7.Funcs.getD rv15.1.toNat default).Name) (((rv7.Funcs.getD rv15.1.toNat default).Blocks).set rv27.1.toNat (GBlock.mk ((((rv7.Funcs.getD rv15.1.toNat default).Blocks).getD rv27.1.toNat default).Name) ((((rv7.Funcs.getD rv15.1.toNat default).Blocks).getD rv27.1.toNat default).Stmts ++ [rv261.1])))))), rv261.2) (by simp only [tp_SpoilProgram, h39, h73, h88, h103, h122, h147, h180, h217, h249, h257, hg8, hg16, hg28, hg60, hg68, hg262, cs4]); subst hq
  exact Kr (vl a10 k11 rv7.Funcs) rfl (.cellN 1 rfl sh25 rfl (reads_Cl _ _) rfl .nil) [0, 6] en
 intro h257
 have g276 := ne_of_beq_false h257
 refine Jl [1, 1] (Ent.closeS (A := [D a35 k36 ((((rv7.Funcs.getD rv15.1.toNat default).Blocks).getD rv27.1.toNat default).Stmts)]) _ _ _ _ default (innmk_GBlock (z0 := (((rv7.Funcs.getD rv15.1.toNat default).Blocks).getD rv27.1.toNat default).Name) aD1)) ?_
 refine Jl [0] (Ent.dsO _ _) ?_
 refine JJ_peekO_GBlock (0 : Int).toNat 0 rfl rng fun a277 k278 hb279 => ?_
 refine Fb 72 1 fun _ => ?_
 refine JK_drawK [0, 0, 2, 6, 14, 0, 32, 96, 224, 480, 992, 2016, 4094, 8191, 16383, 32767] fmix ?_
 refine Dv [] Vm (Dv [] Vm (Dv [3] (Vn 0) (Dv [3] (Vfa fo31_1 0) (Dv [3] (VldF sh29 0) (Dv [] Vm (Dv [3] (Vn 0) (Dv [3] (Vfa fo31_1 0) (Dv [3] (VldF sh29 0) (Dv [0] (Vi sl29 0) ?_)))))))))
 refine Dv [0] (VldA sh34 0) (Dx [] [] [0] (fun G => (G.g 11 0)) [fun G => Cr (G.g 11 0) 1 [.string (bs ((((rv7.Funcs.getD rv15.1.toNat default).Blocks).getD (0 : Int).toNat default).Name)), .slice a277 (((((rv7.Funcs.getD rv15.1.toNat default).Blocks).getD (0 : Int).toNat default).Stmts).length) k278]] (fun G => xA (AsV sl29 sz29 [.agg #[.string (bs ((((rv7.Funcs.getD rv15.1.toNat default).Blocks).getD (0 : Int).toNat default).Name)), .slice a277 (((((rv7.Funcs.getD rv15.1.toNat default).Blocks).getD (0 : Int).toNat default).Stmts).length) k278]] [.string (bs ((((rv7.Funcs.getD rv15.1.toNat default).Blocks).getD (0 : Int).toNat default).Name)), .slice a277 (((((rv7.Funcs.getD rv15.1.toNat default).Blocks).getD (0 : Int).toNat default).Stmts).length) k278])) ?_)
 have hn283 := la ((rv7.Funcs.getD rv15.1.toNat default).Blocks) ([(((rv7.Funcs.getD rv15.1.toNat default).Blocks).getD (0 : Int).toNat default)] : List GBlock)
 refine Dx [0, 1, 9] [0, 9] [1, 0] (fun G => (G.g 12 0)) [fun G => os (G.g 12 0) (((rv7.Funcs.getD rv15.1.toNat default).Blocks ++ [(((rv7.Funcs.getD rv15.1.toNat default).Blocks).getD (0 : Int).toNat default)]) : List GBlock)] (fun G => xp [0] rfl (Ent.oread _ _ _ _) (xp [2, 1] rfl (Ent.cr1 (α := GBlock) (A := [S a277 k278 ((((rv7.Funcs.getD rv15.1.toNat default).Blocks).getD (0 : Int).toNat default).Stmts)]) _ (((rv7.Funcs.getD rv15.1.toNat default).Blocks).getD (0 : Int).toNat default) _ aB1 (fun h => ⟨_, rfl, aS1, sepAll_get (i := 0) rfl h⟩)) (xA (ApO [2, 0] sl29 sl29 sz29)))) (Dv [3] (Vn 0) (Dv [3] (Vfa fo31_1 0) (Dx0 [3, 10] [3] [1, 0] [fun G => dh (vl a10 k11 rv7.Funcs) (rv7.Funcs : List GFunc) rv15.1.toNat [.string (bs ((rv7.Funcs.getD rv15.1.toNat default).Name)), (G.g 12 0)]] (fun G => x1 1 rfl os_one fun ho284 => (xS (SoHr (α := GFunc) [0] sh29 [(G.g 12 0)] [.string (bs ((rv7.Funcs.getD rv15.1.toNat default).Name)), (G.g 12 0)] (cells_of_one ho284) rfl (by simp only [List.all_cons, List.all_nil, ho284, Bool.and_true, Bool.true_and] <;> rfl)))) ?_)))
 refine Dn ⟨by kernel_rfl, fun G => ?_⟩
 refine Jw2 [(4, p5), (5, p13)] [1, 2, 4, 5, 6, 7, 8] [os (G.g 12 0) (((rv7.Funcs.getD rv15.1.toNat default).Blocks ++ [(((rv7.Funcs.getD rv15.1.toNat default).Blocks).getD (0 : Int).toNat default)]) : List GBlock), dh (vl a10 k11 rv7.Funcs) (rv7.Funcs : List GFunc) rv15.1.toNat [.string (bs ((rv7.Funcs.getD rv15.1.toNat default).Name)), (G.g 12 0)]] ?_
 generalize G.g 12 0 = c282
 refine Jo 7 ?_; rintro a285 k286 rfl
 refine Fb 40 7 fun _ => KS ?_
 refine Oq (VldA sh25 2) (Ost (Scl [3] sh25 [vl a10 k11 rv7.Funcs]) (KS ?_))
 refine Jl [7] (Ent.freeze _ _) ?_
 refine Jl [8, 0] (Ent.closeO (A := [S a285 k286 (((rv7.Funcs.getD rv15.1.toNat default).Blocks ++ [(((rv7.Funcs.getD rv15.1.toNat default).Blocks).getD (0 : Int).toNat default)]) : List GBlock)]) _ _ _ _ (GFunc.mk ((rv7.Funcs.getD rv15.1.toNat default).Name) ((rv7.Funcs.getD rv15.1.toNat default).Blocks ++ [(((rv7.Funcs.getD rv15.1.toNat default).Blocks).getD (0 : Int).toNat default)])) (fun h => ⟨_, rfl, aS1, sepAll_get (i := 0) rfl h⟩)) ?_
 refine Jl [0] (Ent.freeze _ _) ?_
 have hq := q4 hrr ((GProgram.mk (rv7.Funcs.set rv15.1.toNat (GFunc.mk ((rv7.Funcs.getD rv15.1.toNat default).Name) ((rv7.Funcs.getD rv15.1.toNat default).Blocks ++ [(((rv7.Funcs.getD rv15.1.toNat default).Blocks).getD (0 : Int).toNat default)])))), rv67.2) (by simp only [tp_SpoilProgram, h39, h73, h88, h103, h122, h147, h180, h217, h249, h257, hg8, hg16, hg28, hg60, hg68, cs4]); subst hq
 exact Kr (vl a10 k11 rv7.Funcs) rfl (.cellN 2 rfl sh25 rfl (reads_Cl _ _) rfl .nil) [0, 4] en
end Go.SL.G
