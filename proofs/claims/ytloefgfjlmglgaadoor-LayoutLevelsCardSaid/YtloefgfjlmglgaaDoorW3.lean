/- Part 3 of the walks: mirrors, plain laws and walks used by the last text of this claim. -/
import Derived.Test.YtloefgfjlmglgaaDoorW2
import Derived.Test.YtloefgfjlmglgaaDoorProg
set_option linter.unusedVariables false
set_option linter.unusedSimpArgs false
namespace Go.SL.G
open Go Go.SL Go.Proofs
set_option maxHeartbeats 20000000
set_option maxRecDepth 100000
theorem fn15 (tP : Value) (ta : Option Addr) (tk : Nat) (tT : List Int) (tI : Int) (n : Int) (htI : 0 ≤ tI ∧ tI ≤ (tT.length : Int)) (hn_0 : i64ok n) (hn1 : 1 ≤ n ∧ n ≤ 1000) (rr : GGraph × Int) (hrr : tp_Graph tT tI n = rr) : FT Tryd.prog 15 #[tP, vi n] [Cl tP [vl ta tk tT, vi tI], S ta tk tT] (fun g : Value × Value × Value => (0 ≤ rr.2 ∧ rr.2 ≤ (tT.length : Int)) ∧ (1 ≤ rr.1.Nodes.length ∧ rr.1.Nodes.length ≤ 1000 ∧ rr.1.Succ.length = rr.1.Nodes.length ∧ rr.1.Pred.length = rr.1.Nodes.length) ∧ (∀ l ∈ rr.1.Succ, (l.length : Int) ≤ 3000) ∧ (∀ l ∈ rr.1.Pred, (l.length : Int) ≤ 3000) ∧ ((rr.1.Nodes.length : Int) ≤ n)) (fun g => .agg #[g.1, g.2.1, g.2.2]) (fun g => [sl g.1 rr.1.Nodes, sl g.2.1 rr.1.Succ, sl g.2.2 rr.1.Pred, Cl tP [vl ta tk tT, vi rr.2]]) := by
 refine FTi Tryd.func15 fun w0 M0 F0 => ?_
 unfold i64ok at hn_0
 refine Fb 8 1 fun _ => Fo 1 fun ho2 => KS ?_
 refine Oa (Al ze42 [.slice none 0 0, .slice none 0 0, .slice none 0 0]) fun p3 => KS ?_
 refine Oq Vm (Oq Vm ?_)
 refine letv (tp_Next tT tI n) fun rv4 hg5 => ?_
 have hc6 := fn7 tP ta tk tT tI n pre pre rv4 hg5
 refine Oc [1, 1] ca7 hc6 ?_
 rintro - ⟨he7, he8, he9⟩
 unfold i64ok at he7
 refine Oq Vadd (Oq Va (KS ?_))
 refine JK_drawK [0, 1, 0, 4, 0, 16, 63, 0, 255] fmix ?_
 refine Dv [] Vm ?_
 have hn11 := List.length_replicate (n := ((1 + rv4.1) : Int).toNat) (a := ((default : GNode) : GNode))
 refine Dx [] [] [0] (fun G => (G.g 1 0)) [fun G => os (G.g 1 0) ((List.replicate ((1 + rv4.1) : Int).toNat (default : GNode)) : List GNode)] (fun G => xA (Amk (α := GNode) sl39 sz39 (default : GNode) zrd_GNode)) (Dv [] Vm ?_)
 have hn13 := List.length_replicate (n := ((1 + rv4.1) : Int).toNat) (a := ([] : List Int))
 refine Dx [] [] [0] (fun G => (G.g 3 0)) [fun G => os (G.g 3 0) ((List.replicate ((1 + rv4.1) : Int).toNat []) : List (List Int))] (fun G => xA (Amk (α := List Int) sl40 sz40 [] (fun _ _ => ⟨_, rfl, slrd_nil⟩))) (Dv [] Vm ?_)
 have hn15 := List.length_replicate (n := ((1 + rv4.1) : Int).toNat) (a := ([] : List Int))
 refine Dx [] [] [0] (fun G => (G.g 5 0)) [fun G => os (G.g 5 0) ((List.replicate ((1 + rv4.1) : Int).toNat []) : List (List Int))] (fun G => xA (Amk (α := List Int) sl40 sz40 [] (fun _ _ => ⟨_, rfl, slrd_nil⟩))) ?_
 refine Dx [3, 4, 5] [] [0, 0, 0] (fun G => .agg #[(G.g 1 0), (G.g 3 0), (G.g 5 0)]) [] (fun G => xV (v := .agg #[(G.g 1 0), (G.g 3 0), (G.g 5 0)]) (Vo 0 rfl (isO_os _ _) fun aq16 kq17 eq18 => (by rw [eq18]; exact Vo 1 rfl (isO_os _ _) fun aq19 kq20 eq21 => (by rw [eq21]; exact Vo 2 rfl (isO_os _ _) fun aq22 kq23 eq24 => (by rw [eq24]; exact Vbd st42 [.slice aq16 (((List.replicate ((1 + rv4.1) : Int).toNat (default : GNode)) : List GNode).length) kq17, .slice aq19 (((List.replicate ((1 + rv4.1) : Int).toNat []) : List (List Int)).length) kq20, .slice aq22 (((List.replicate ((1 + rv4.1) : Int).toNat []) : List (List Int)).length) kq23]))))) (Dx [] [] [0] (fun G => (G.g 7 0)) [fun G => Cl (G.g 7 0) [.slice none 0 0, .slice none 0 0, .slice none 0 0]] (fun G => xA (Al ze42 [.slice none 0 0, .slice none 0 0, .slice none 0 0])) (Dx0 [3, 4, 5, 6] [6] [1, 1, 1, 0] [fun G => Cl (G.g 7 0) [(G.g 1 0), (G.g 3 0), (G.g 5 0)]] (fun G => x1 0 rfl os_one fun ho26 => (x1 1 rfl os_one fun ho27 => (x1 2 rfl os_one fun ho28 => (xS (Scl [3] sh42 [(G.g 1 0), (G.g 3 0), (G.g 5 0)] (v := .agg #[(G.g 1 0), (G.g 3 0), (G.g 5 0)]) (h1 := show [(G.g 1 0), (G.g 3 0), (G.g 5 0)].all (·.oneCell') = true from (by simp only [List.all_cons, List.all_nil, ho26, ho27, ho28, Bool.and_true, Bool.true_and] <;> rfl))))))) ?_))
 refine Dn ⟨by kernel_rfl, fun G => ?_⟩
 refine Jw2 [(0, tP), (4, p3), (1, vi (1 + rv4.1)), (5, (G.g 7 0))] [0, 1, 2] [os (G.g 1 0) ((List.replicate ((1 + rv4.1) : Int).toNat (default : GNode)) : List GNode), os (G.g 3 0) ((List.replicate ((1 + rv4.1) : Int).toNat []) : List (List Int)), os (G.g 5 0) ((List.replicate ((1 + rv4.1) : Int).toNat []) : List (List Int)), Cl (G.g 7 0) [(G.g 1 0), (G.g 3 0), (G.g 5 0)]] ?_
 generalize G.g 1 0 = c10, G.g 3 0 = c12, G.g 5 0 = c14, G.g 7 0 = p25
 refine Jo 3 ?_; rintro a29 k30 rfl
 refine Fb 32 3 fun _ => ?_
 refine Jo 4 ?_; rintro a32 k33 rfl
 refine Fb 24 4 fun _ => ?_
 refine Jo 5 ?_; rintro a35 k36 rfl
 refine KS ?_
 refine Oq Vm (Oq Vm (Oq Vmul (Oq Vadd ?_)))
 refine letv (tp_Next tT rv4.2 ((2 * (1 + rv4.1)) + 1)) fun rv37 hg38 => ?_
 have hc39 := fn7 tP ta tk tT rv4.2 (((2 * (1 + rv4.1)) + 1)) pre pre rv37 hg38
 refine Oc [0, 1] ca7 hc39 ?_
 rintro - ⟨he40, he41, he42⟩
 unfold i64ok at he40
 refine Oq Va (KS ?_)
 refine Kl (γ := Nat × Int × List (List Int) × List (List Int) × Int × Option Addr × Nat × Option Addr × Nat) (fun (r43, ti_44, g1_45, g2_46, k_47, a48, k49, a50, k51) => ⟨[(0, tP), (4, p3), (1, vi (1 + rv4.1)), (5, p25), (6, vi k_47)], [O a50 k51 g2_46, O a48 k49 g1_45, Cl tP [vl ta tk tT, vi ti_44], Cl p3 [.slice none 0 0, .slice none 0 0, .slice none 0 0], S ta tk tT, O a29 k30 ((List.replicate ((1 + rv4.1) : Int).toNat (default : GNode)) : List GNode), Cl p25 [vl a29 k30 (List.replicate ((1 + rv4.1) : Int).toNat (default : GNode)), vl a48 k49 g1_45, vl a50 k51 g2_46]], tp_Graph_L0 tT (1 + rv4.1) r43 ti_44 g1_45 g2_46 k_47 = tp_Graph_L0 tT (1 + rv4.1) (rv37.1.toNat) rv37.2 (List.replicate ((1 + rv4.1) : Int).toNat []) (List.replicate ((1 + rv4.1) : Int).toNat []) rv37.1 ∧ r43 = k_47.toNat ∧ k_47 ≤ (rv37.1 : Int) ∧ (-9223372036854775808 ≤ ti_44 ∧ ti_44 ≤ 9223372036854775807) ∧ (0 ≤ ti_44 ∧ ti_44 ≤ (tT.length : Int)) ∧ (-9223372036854775808 ≤ k_47 ∧ k_47 ≤ 9223372036854775807) ∧ g1_45.length = (1 + rv4.1).toNat ∧ g2_46.length = (1 + rv4.1).toNat ∧ (∀ l ∈ g1_45, (l.length : Int) ≤ 3000 - k_47) ∧ (∀ l ∈ g2_46, (l.length : Int) ≤ 3000 - k_47) ∧ (k_47 ≤ 2100), r43⟩) (rv37.1.toNat, rv37.2, (List.replicate ((1 + rv4.1) : Int).toNat []), (List.replicate ((1 + rv4.1) : Int).toNat []), rv37.1, a32, k33, a35, k36) [5, 4, 0, 0, 0, 1, 1] ⟨rfl, rfl, aM1, aM1, aM1, aM1, iv0, iv0, (fun l hl => by rw [List.eq_of_mem_replicate hl]; show (0 : Int) ≤ _; omega), (fun l hl => by rw [List.eq_of_mem_replicate hl]; show (0 : Int) ≤ _; omega), iv0⟩ ?_
 rintro ⟨r43, ti_44, g1_45, g2_46, k_47, a48, k49, a50, k51⟩ ⟨hM52, hr53, hi54, hk55, ht56, hk57, hv58, hv59, hv60, hv61, hv62⟩
 refine JJ_nx fun _ _ hL hA => ?_; dsimp only at hL hA; subst hL hA
 refine Fb 24 0 fun _ => Fb 24 1 fun _ => Fb 8 4 fun _ => Fo 4 fun ho66 => Fb 32 5 fun _ => KS ?_
 refine Oq Vm (Oq Vgtr (KS ?_))
 refine Kc ?_ ?_
 ·intro h68
  have g69 := dt h68
  obtain ⟨r70, rfl⟩ := scc (n := r43) aM1
  refine KS ?_
  refine Oq Vm (Oq Vm ?_)
  refine letv (tp_Next tT ti_44 (1 + rv4.1)) fun rv71 hg72 => ?_
  have hc73 := fn7 tP ta tk tT ti_44 ((1 + rv4.1)) pre pre rv71 hg72
  refine Oc [2, 3] ca7 hc73 ?_
  rintro - ⟨he74, he75, he76⟩
  unfold i64ok at he74
  refine Oq Vm (Oq Vm ?_)
  refine letv (tp_Next tT rv71.2 (1 + rv4.1)) fun rv77 hg78 => ?_
  have hc79 := fn7 tP ta tk tT rv71.2 ((1 + rv4.1)) pre pre rv77 hg78
  refine Oc [0, 3] ca7 hc79 ?_
  rintro - ⟨he80, he81, he82⟩
  unfold i64ok at he80
  refine Oq Va (Oq Va (KS ?_))
  refine Jp 6 fun hp83 => ?_
  refine JJ_peekOL rv71.1.toNat 3 rfl rng fun a84 k85 => ?_
  refine Fb 8 1 fun _ => Fo 1 fun ho87 => ?_
  refine JJ_peekOL rv77.1.toNat 4 rfl rng fun a88 k89 => ?_
  refine Fb 8 1 fun _ => Fo 1 fun ho91 => ?_
  refine JK_drawK [0, 1, 0, 0, 8, 0, 0, 64, 0, 448, 960, 0, 4032, 0, 8192, 0, 57344, 122880, 0, 524224, 1048519, 2097095, 4194303, 8388607] fmix ?_
  refine Dv [4] (Vfa fo42_1 0) (Dv [9] (VldF sh40 0) (Dv [] Vm (Dv [4] (Vfa fo42_2 0) (Dv [9] (VldF sh40 0) (Dv [] Vm (Dv [4] (Vfa fo42_1 0) (Dv [9] (VldF sh40 0) (Dv [] Vm (Dv [2] (Vi sl40 0) ?_)))))))))
  refine Dv [2] (Vld sh22 0) (Dv [] Vm ?_)
  refine letv (r7_Insert (g1_45.getD rv71.1.toNat []) rv77.1) fun rv93 hg94 => ?_
  refine Dx [3] [] [2, 0, 1] (fun G => (G.g 12 0)) [fun G => SP.fact ((rv93.length ≤ (g1_45.getD rv71.1.toNat []).length + 1)), fun G => sl (G.g 12 0) rv93] (fun G => xC [0] ca26 (fn26 ((g1_45.getD rv71.1.toNat [])) a84 k85 rv77.1 pre (lenS_1 (by assumption) aM1) rv93 hg94)) (Dv [4] (Vfa fo42_2 0) (Dv [9] (VldF sh40 0) (Dv [] Vm (Dv [0] (Vi sl40 0) (Dv [0] (Vld sh22 0) (Dv [] Vm ?_))))))
  refine letv (r7_Insert (g2_46.getD rv77.1.toNat []) rv71.1) fun rv96 hg97 => ?_
  refine Dx [1, 10] [] [2, 3, 0, 1] (fun G => (G.g 19 0)) [fun G => SP.fact ((rv96.length ≤ (g2_46.getD rv77.1.toNat []).length + 1)), fun G => sl (G.g 19 0) rv96] (fun G => by refine xf 1 rfl ?_; rintro he98; exact xC [0] ca26 (fn26 ((g2_46.getD rv77.1.toNat [])) a88 k89 rv71.1 pre (lenS_1 (by assumption) aM1) rv96 hg97)) ?_
  refine Dx [2, 10] [] [0, 0] (fun G => (eptr 1 (vl a48 k49 g1_45) rv71.1.toNat)) [] (fun G => by refine xf 1 rfl ?_; rintro he99; exact xV (Vi sl40 0)) ?_
  refine Dx0 [2, 10, 11] [2] [2, 1, 0] [fun G => os (vl a48 k49 g1_45) (g1_45.set rv71.1.toNat rv93)] (fun G => by refine xf 1 rfl ?_; rintro he100; exact xp [0] rfl (Ent.oread _ _ _ _) (x1 2 rfl sl_one fun ho101 => (xS (OpS.frame [0, 1] rfl (OpS.storeOs' (Rs := [sl (G.g 12 0) rv93]) rv93 [(G.g 12 0)] rfl rfl rfl sh22 (cells_of_one ho101) rfl (fun h => ⟨_, rfl, sepAll_get (i := 0) rfl h⟩) rng))))) ?_
  refine Dx [0, 12] [] [0, 0] (fun G => (eptr 1 (vl a50 k51 g2_46) rv77.1.toNat)) [] (fun G => by refine xf 1 rfl ?_; rintro he102; exact xV (Vi sl40 0)) ?_
  refine Dx0 [0, 12, 13] [0] [2, 1, 0] [fun G => os (vl a50 k51 g2_46) (g2_46.set rv77.1.toNat rv96)] (fun G => by refine xf 1 rfl ?_; rintro he103; exact xp [0] rfl (Ent.oread _ _ _ _) (x1 2 rfl sl_one fun ho104 => (xS (OpS.frame [0, 1] rfl (OpS.storeOs' (Rs := [sl (G.g 19 0) rv96]) rv96 [(G.g 19 0)] rfl rfl rfl sh22 (cells_of_one ho104) rfl (fun h => ⟨_, rfl, sepAll_get (i := 0) rfl h⟩) rng))))) ?_
  refine Dn ⟨by kernel_rfl, fun G => ?_⟩
  refine Jw2 [(0, tP), (4, p3), (1, vi (1 + rv4.1)), (5, p25), (6, vi k_47)] [1, 3, 4, 5, 6, 7, 8, 9] [SP.fact ((rv93.length ≤ (g1_45.getD rv71.1.toNat []).length + 1)), sl (G.g 12 0) rv93, SP.fact ((rv96.length ≤ (g2_46.getD rv77.1.toNat []).length + 1)), sl (G.g 19 0) rv96, os (vl a48 k49 g1_45) (g1_45.set rv71.1.toNat rv93), os (vl a50 k51 g2_46) (g2_46.set rv77.1.toNat rv96)] ?_
  generalize G.g 12 0 = c92, G.g 19 0 = c95
  refine Jf 8 rfl ?_; rintro he105
  refine Jf 10 rfl ?_; rintro he106
  refine Jk [0, 1, 3, 3, 3, 4, 4, 5, 7, 8, 8] ?_
  refine Jo 7 ?_; rintro a107 k108 rfl
  refine Fb 8 7 fun _ => Fo 7 fun ho110 => ?_
  refine Jo 8 ?_; rintro a111 k112 rfl
  refine Fb 8 8 fun _ => Fo 8 fun ho114 => KS ?_
  refine Oq Vm (Oq Vsub (Oq Va (KS ?_)))
  refine Fl 9 fun hn115 => ?_; (try unfold vl); rw [← hn115]
  refine Fl 10 fun hn116 => ?_; (try unfold vl); rw [← hn116]
  exact Kg (r70, rv77.2, (g1_45.set rv71.1.toNat rv93), (g2_46.set rv77.1.toNat rv96), (k_47 - 1), a48, k49, a50, k51) [10, 9, 2, 2, 2, 3, 3] ⟨(q3 hM52 (by simp only [tp_Graph_L0, h68, hg72, hg78, hg94, hg97, cs4])), aM1, aM1, aM1, aM1, aM1, iv1, iv1, (lenS_set (by assumption) (by assumption) aM1 aM1), (lenS_set (by assumption) (by assumption) aM1 aM1), iv1⟩
 intro h68
 have g117 := df h68
 obtain rfl : r43 = 0 := by omega
 refine Ke ?_
 have hR118 := q2 hM52 (ti_44, g1_45, g2_46) (by simp only [tp_Graph_L0, h68, cs4])
 refine KS ?_
 refine Oq (VldA sh42 6) (Ost (Scl [3] sh42 [vl a29 k30 (List.replicate ((1 + rv4.1) : Int).toNat (default : GNode)), vl a48 k49 g1_45, vl a50 k51 g2_46]) (KS ?_))
 refine Jl [5] (Ent.freeze _ _) ?_
 refine Jl [3] (Ent.freeze _ _) ?_
 refine Jl [3] (Ent.freeze _ _) ?_
 have hq := q4 hrr ((GGraph.mk (List.replicate ((1 + rv4.1) : Int).toNat (default : GNode)) g1_45 g2_46), ti_44) (by simp only [tp_Graph, h68, hg5, hg38, hR118, cs4]); subst hq
 exact Kr (vl a29 k30 (List.replicate ((1 + rv4.1) : Int).toNat (default : GNode)), vl a48 k49 g1_45, vl a50 k51 g2_46) rfl (.cellN 3 rfl sh42 rfl (reads_Cl _ _) rfl .nil) [2, 1, 0, 4] ⟨en, (by have hTG := TG_len hrr hn1; omega), ((TG_ll hrr hn1).1), ((TG_ll hrr hn1).2), ((TG_len hrr hn1).2.1)⟩
theorem fn16 (g : GGraph) (ga0 : Option Addr) (gk0 : Nat) (ga1 : Option Addr) (gk1 : Nat) (ga2 : Option Addr) (gk2 : Nat) (root : Int) (hroot_0 : i64ok root) (hn0 : g.Nodes.length ≤ 12) (rr : List Int × Int) (hrr : layout_Levels g root = rr) : FT Tryd.prog 16 #[.agg #[vl ga0 gk0 g.Nodes, vl ga1 gk1 g.Succ, vl ga2 gk2 g.Pred], vi root] [S ga0 gk0 g.Nodes, S ga1 gk1 g.Succ, S ga2 gk2 g.Pred] (fun g : Value => i64ok rr.2 ∧ (LB rr.1)) (fun g => .tuple #[g, vi rr.2]) (fun g => [sl g rr.1]) := by
 refine FTi Tryd.func16 fun w0 M0 F0 => ?_
 unfold i64ok at hroot_0
 refine Fb 32 0 fun _ => Fb 24 1 fun _ => Fb 24 2 fun _ => KS ?_
 refine Oa (Ab [vl ga0 gk0 g.Nodes, vl ga1 gk1 g.Succ, vl ga2 gk2 g.Pred]) fun p4 => Oq Va (Oq Va (KS ?_))
 refine Oq (VldA sh42 0) (Oq Vm ?_)
 refine letv (layout_Place g root) fun rv6 hg7 => ?_
 have hc8 := fn20 g ga0 gk0 ga1 gk1 ga2 gk2 root pre hn0 rv6 hg7
 refine Oc [1, 2, 3] ca20 hc8 ?_
 rintro c5 ⟨he9, he10, he11⟩
 unfold i64ok at he9
 refine Jo 0 ?_; rintro a12 k13 rfl
 refine Fb 16 0 fun _ => ?_
 refine Oq Vm (Oq Vx (Oq Vx (Oq Va (Oq Va (KS ?_)))))
 refine Oq Vm (Oq Vneq (KS ?_))
 refine Kc ?_ ?_
 ·intro h15
  have g16 := ne_of_bne h15
  refine KS ?_
  refine Oq Vm (Oq Va (Oq Va (KS ?_)))
  refine Jl [] (Ent.slNil (α := Int)) ?_
  have hq := q4 hrr (([] : List Int), rv6.2) (by simp only [layout_Levels, h15, hg7, cs4]); subst hq
  exact Kr (.slice none 0 0) rfl (.tmp rfl (.tmp rfl .nil)) [0] ⟨en, (by first | assumption | exact LB_nil)⟩
 intro h15
 have g17 := eq_of_bne_false h15
 refine KS ?_
 refine Oq Va (KS ?_)
 refine Oq Vm (Oq (Vlen sl30) (Oq Vm (KS ?_)))
 refine Jl [] (Ent.osNil (α := Int)) ?_
 refine Kl (γ := Nat × List Int × Int × Option Addr × Nat) (fun (r18, l_19, v22_20, a21, k22) => ⟨[(8, vl a21 k22 l_19), (20, vl a12 k13 rv6.1), (21, vi (rv6.1.length : Int)), (22, vi v22_20)], [O a21 k22 l_19, S a12 k13 rv6.1], layout_Levels_L0 rv6.1 r18 l_19 v22_20 = layout_Levels_L0 rv6.1 (((rv6.1.length : Int) - 0).toNat) [] 0 ∧ r18 = ((rv6.1.length : Int) - v22_20).toNat ∧ (0 : Int) ≤ v22_20 ∧ v22_20 ≤ (rv6.1.length : Int) ∧ (-9223372036854775808 ≤ v22_20 ∧ v22_20 ≤ 9223372036854775807) ∧ (LB l_19) ∧ ((l_19.length : Int) = v22_20), r18⟩) (((rv6.1.length : Int) - 0).toNat, [], 0, none, 0) [0, 0] ⟨rfl, rfl, aM1, aM1, aM1, LB_nil, iv0⟩ ?_
 rintro ⟨r18, l_19, v22_20, a21, k22⟩ ⟨hM23, hr24, hi25, hi26, hk27, hv28, hv29⟩
 refine JJ_nx fun _ _ hL hA => ?_; dsimp only at hL hA; subst hL hA
 refine Fb 8 0 fun _ => Fo 0 fun ho31 => Fb 16 1 fun _ => KS ?_
 refine Oq Vlss (KS ?_)
 refine Kc ?_ ?_
 ·intro h33
  have g34 := dt h33
  obtain ⟨r35, rfl⟩ := scc (n := r18) aM1
  refine KS ?_
  refine Oq (Vi sl30 1) (Oq (VldCx sh37 1) (Oq Va (KS ?_)))
  refine Oq Vm (Oq (VeqC (a := (rv6.1.getD v22_20.toNat default)) (b := (Cpx.mk 13830554455654793216#64 0#64))) (KS ?_))
  refine Kc ?_ ?_
  ·intro h36
   refine KS ?_
   refine Oq Vm (Oa (AsV sl22 sz22 [vi (-1)] [vi (-1)]) fun c38 => ?_)
   refine Jo 0 ?_; rintro a39 k40 rfl
   refine Jl [0] (Ent.crInt _ [-1] _ _ rfl rfl (by intro x hx; rw [List.mem_singleton] at hx; subst hx; unfold i64ok; omega) aB1) ?_
   refine Oa (ApO [1, 0] sl22 sl22 sz22) fun c41 => ?_
   refine Jo 0 ?_; rintro a42 k43 rfl
   refine Fb 8 0 fun _ => Fo 0 fun ho45 => ?_
   have hn46 := la l_19 ([-1] : List Int)
   refine Oq Va (KS ?_)
   refine Oq Vadd (Oq Vm (KS ?_))
   exact Kg (r35, (l_19 ++ [-1]), (v22_20 + 1), a42, k43) [0, 0] ⟨(q3 hM23 (by simp only [layout_Levels_L0, h33, h36, cs4])), aM1, aM1, aM1, aM1, (by first | exact LB_app (by assumption) aM1 | exact LB_app (by assumption) (WB_toB (by assumption) rng)), iv1⟩
  intro h36
  refine KS ?_
  refine Oq Vm (Oq Vm (Oq (Vim (a := (rv6.1.getD v22_20.toNat default))) (Oq (VcFI (a := (Flo.mk (rv6.1.getD v22_20.toNat default).im)) un36 un3 (h := (WB_toI (by assumption) rng))) ?_)))
  have hb48 := ftoI_ok (Flo.mk (rv6.1.getD v22_20.toNat default).im) (WB_toI (by assumption) rng)
  refine Oa (AsV sl22 sz22 [vi (ftoI (Flo.mk (rv6.1.getD v22_20.toNat default).im))] [vi (ftoI (Flo.mk (rv6.1.getD v22_20.toNat default).im))]) fun c49 => ?_
  refine Jo 0 ?_; rintro a50 k51 rfl
  refine Jl [0] (Ent.crInt _ [(ftoI (Flo.mk (rv6.1.getD v22_20.toNat default).im))] _ _ rfl rfl (by intro x hx; rw [List.mem_singleton] at hx; subst hx; unfold i64ok; omega) aB1) ?_
  refine Oa (ApO [1, 0] sl22 sl22 sz22) fun c52 => ?_
  refine Jo 0 ?_; rintro a53 k54 rfl
  refine Fb 8 0 fun _ => Fo 0 fun ho56 => ?_
  have hn57 := la l_19 ([(ftoI (Flo.mk (rv6.1.getD v22_20.toNat default).im))] : List Int)
  refine Oq Va (KS ?_)
  refine Oq Vadd (Oq Vm (KS ?_))
  exact Kg (r35, (l_19 ++ [(ftoI (Flo.mk (rv6.1.getD v22_20.toNat default).im))]), (v22_20 + 1), a53, k54) [0, 0] ⟨(q3 hM23 (by simp only [layout_Levels_L0, h33, h36, cs4])), aM1, aM1, aM1, aM1, (by first | exact LB_app (by assumption) aM1 | exact LB_app (by assumption) (WB_toB (by assumption) rng)), iv1⟩
 intro h33
 have g58 := df h33
 obtain rfl : r18 = 0 := by omega
 refine Ke ?_
 have hR59 := q2 hM23 l_19 (by simp only [layout_Levels_L0, h33, cs4])
 refine KS ?_
 refine Oq Vm (Oq Va (Oq Va (KS ?_)))
 refine Jl [0] (Ent.freeze _ _) ?_
 have hq := q4 hrr (l_19, 0) (by simp only [layout_Levels, h15, h33, hg7, hR59, cs4]); subst hq
 exact Kr (vl a21 k22 l_19) rfl (.tmp rfl (.tmp rfl .nil)) [0] ⟨en, (by first | assumption | exact LB_nil)⟩
theorem fn6 (l : List Int) (la0 : Option Addr) (lk0 : Nat) (rr : Unit) (hrr : g_New l = rr) : FT Tryd.prog 6 #[vl la0 lk0 l] [S la0 lk0 l] (fun g : Value => True) (fun g => g) (fun g => [Cl g [vl la0 lk0 l, vi 0]]) := by
 refine FTi Tryd.func6 fun w0 M0 F0 => Fb 8 0 fun _ => Fo 0 fun ho2 => ?_
 refine KS ?_
 refine Oq Va (KS ?_)
 refine Oq Vm (Oq (Vbd st52 [vl la0 lk0 l, vi 0]) (Oa (AbO [vl la0 lk0 l, vi 0]) fun p3 => Oq Va (KS ?_)))
 have hq := q4 hrr () (by simp only [g_New, cs4]); subst hq
 exact Kr p3 rfl (.tmp rfl .nil) [0] trivial
theorem fn5 (t : List Int) (ta0 : Option Addr) (tk0 : Nat) (rr : Bool) (hrr : w33_LayoutLevels t = rr) : FT Tryd.prog 5 #[vl ta0 tk0 t] [S ta0 tk0 t] (fun g : Unit => True) (fun g => vb rr) (fun g => []) := by
 refine FTi Tryd.func5 fun w0 M0 F0 => Fb 8 0 fun _ => Fo 0 fun ho2 => ?_
 refine KS ?_
 refine Oq Va (KS ?_)
 refine Oq Vm ?_
 refine letv (g_New t) fun rv4 hg5 => ?_
 have hc6 := fn6 t ta0 tk0 rv4 hg5
 refine Oc [0] ca6 hc6 ?_
 rintro c3 -
 refine Oq Va (KS ?_)
 refine Oq Vm ?_
 refine letv (tp_Graph t 0 9) fun rv10 hg11 => ?_
 have hvf := TG_VF hg11 aM1
 have hc12 := fn15 c3 ta0 tk0 t 0 9 pre pre pre rv10 hg11
 refine Oc [0, 0] ca15 hc12 ?_
 rintro ⟨c7, c8, c9⟩ ⟨he13, he14, he15, he16, he17⟩
 refine Jo 0 ?_; rintro a18 k19 rfl
 refine Fb 32 0 fun _ => ?_
 refine Jo 1 ?_; rintro a21 k22 rfl
 refine Fb 24 1 fun _ => ?_
 refine Jo 2 ?_; rintro a24 k25 rfl
 refine Fb 24 2 fun _ => ?_
 refine Oa (Al ze42 [.slice none 0 0, .slice none 0 0, .slice none 0 0]) fun p27 => Ost (Scl [0] sh42 [vl a18 k19 rv10.1.Nodes, vl a21 k22 rv10.1.Succ, vl a24 k25 rv10.1.Pred]) (KS ?_)
 refine Oq Vm (Oq (Vfa fo42_0 0) (Oq (VldF sh39 0) (Oq (Vlen sl39) ?_)))
 refine letv (tp_Next t rv10.2 (rv10.1.Nodes.length : Int)) fun rv28 hg29 => ?_
 have hc30 := fn7 c3 ta0 tk0 t rv10.2 ((rv10.1.Nodes.length : Int)) pre pre rv28 hg29
 refine Oc [4, 4] ca7 hc30 ?_
 rintro - ⟨he31, he32, he33⟩
 unfold i64ok at he31
 refine Oq Va (KS ?_)
 refine Oq (VldA sh42 1) (Oq Vm ?_)
 refine letv (layout_Levels rv10.1 rv28.1) fun rv35 hg36 => ?_
 have hc37 := fn16 rv10.1 a18 k19 a21 k22 a24 k25 rv28.1 pre pre rv35 hg36
 refine Oc [2, 3, 4] ca16 hc37 ?_
 rintro c34 ⟨he38, he39⟩
 unfold i64ok at he38
 refine Jo 0 ?_; rintro a40 k41 rfl
 refine Fb 8 0 fun _ => Fo 0 fun ho43 => ?_
 refine Oq Vm (Oq Vx (Oq Vx (Oq Va (Oq Va (KS ?_)))))
 refine Oq Vm (Oq Vneq (Oq Vm ?_))
 refine Js 29 ?_ ?_
 ·intro h44
  have g45 := ne_of_bne h44
  refine Osk (Osk (Osk (Osk (Osk (Osk (Oq Vpt (Oq Vm (Osk (Osk ?_)))))))))
  refine Osk (Osk (Osk (Oq Vpt (KS ?_))))
  refine Kt (KS ?_)
  refine Oq Va (KS ?_)
  have hq := q4 hrr false (by unfold w33_LayoutLevels; simp only [h44, hg5, hg11, hg29, hg36, cs4]); subst hq
  exact Kr () rfl (.tmp rfl .nil) [] trivial
 intro h44
 have g46 := eq_of_bne_false h44
 refine Oq Vm (Oq (Vlen sl22) (Oq (Vfa fo42_0 2) (Oq (VldF sh39 2) (Oq (Vlen sl39) (Oq Vneq (Oq Vpf (Oq Vm ?_)))))))
 refine Js 37 ?_ ?_
 ·intro h47
  have g48 := ne_of_bne h47
  refine Osk (Osk (Osk (Osk (Osk (Oq Vpt (KS ?_))))))
  refine Kt (KS ?_)
  refine Oq Va (KS ?_)
  have hq := q4 hrr false (by unfold w33_LayoutLevels; simp only [h44, h47, hg5, hg11, hg29, hg36, cs4]); subst hq
  exact Kr () rfl (.tmp rfl .nil) [] trivial
 intro h47
 have g49 := eq_of_bne_false h47
 refine Oq Vm (Oq Vm (Oq (Vi sl22 0) ?_))
 have hb50 := ok1 (i := rv28.1.toNat) ho43 rng
 refine Oq (VldI sh3 0) (Oq Vneq (Oq Vpf (KS ?_)))
 refine Kc ?_ ?_
 ·intro h51
  have g52 := ne_of_bne h51
  refine KS ?_
  refine Oq Va (KS ?_)
  have hq := q4 hrr false (by unfold w33_LayoutLevels; simp only [h44, h47, h51, hg5, hg11, hg29, hg36, cs4]); subst hq
  exact Kr () rfl (.tmp rfl .nil) [] trivial
 intro h51
 have g53 := eq_of_bne_false h51
 refine KS ?_
 refine Oq Va (KS ?_)
 refine Kl (γ := Nat × Int) (fun (r54, i_55) => ⟨[(4, p27), (5, vi rv28.1), (6, vl a40 k41 rv35.1), (8, vi i_55)], [S a40 k41 rv35.1, Cl p27 [vl a18 k19 rv10.1.Nodes, vl a21 k22 rv10.1.Succ, vl a24 k25 rv10.1.Pred], S a18 k19 rv10.1.Nodes, S a21 k22 rv10.1.Succ, S a24 k25 rv10.1.Pred], w33_LayoutLevels_L0 rv10.1.Pred rv28.1 rv35.1 r54 i_55 = w33_LayoutLevels_L0 rv10.1.Pred rv28.1 rv35.1 (((rv35.1.length : Int) - 0).toNat) 0 ∧ r54 = ((rv35.1.length : Int) - i_55).toNat ∧ (0 : Int) ≤ i_55 ∧ i_55 ≤ (rv35.1.length : Int) ∧ (-9223372036854775808 ≤ i_55 ∧ i_55 ≤ 9223372036854775807), r54⟩) (((rv35.1.length : Int) - 0).toNat, 0) [0, 2, 2, 3, 4] ⟨rfl, rfl, aM1, aM1, aM1⟩ ?_
 rintro ⟨r54, i_55⟩ ⟨hM56, hr57, hi58, hi59, hk60⟩
 refine JJ_nx fun _ _ hL hA => ?_; dsimp only at hL hA; subst hL hA
 refine Fb 8 0 fun _ => Fo 0 fun ho62 => Fb 32 2 fun _ => Fb 24 3 fun _ => Fb 24 4 fun _ => KS ?_
 refine Oq Vm (Oq Vm (Oq (Vlen sl22) (Oq Vlss (KS ?_))))
 refine Kc ?_ ?_
 ·intro h66
  have g67 := dt h66
  have hli := LB_get (by assumption : LB _) (i := i_55.toNat) aM1
  obtain ⟨r68, rfl⟩ := scc (n := r54) aM1
  refine KS ?_
  refine Oq Vm (Oq Vm (Oq Veql (Oq Vm ?_)))
  refine Js 53 ?_ ?_
  ·intro h69
   have g70 := eq_of_beq h69
   refine Osk (Osk (Osk (Osk (Osk (Oq Vpt (Oq Va (KS ?_)))))))
   refine Oq Va (KS ?_)
   refine Kl (γ := Nat × Bool × Int) (fun (r71, found_72, j_73) => ⟨[(4, p27), (5, vi rv28.1), (6, vl a40 k41 rv35.1), (8, vi i_55), (9, vb found_72), (10, vi j_73)], [S a40 k41 rv35.1, Cl p27 [vl a18 k19 rv10.1.Nodes, vl a21 k22 rv10.1.Succ, vl a24 k25 rv10.1.Pred], S a18 k19 rv10.1.Nodes, S a21 k22 rv10.1.Succ, S a24 k25 rv10.1.Pred], w33_LayoutLevels_L1 rv10.1.Pred rv35.1 i_55 r71 found_72 j_73 = w33_LayoutLevels_L1 rv10.1.Pred rv35.1 i_55 (((((rv10.1.Pred.getD i_55.toNat []).length : Int) : Int) - 0).toNat) true 0 ∧ r71 = ((((rv10.1.Pred.getD i_55.toNat []).length : Int) : Int) - j_73).toNat ∧ (0 : Int) ≤ j_73 ∧ (j_73 ≤ ((rv10.1.Pred.getD i_55.toNat []).length : Int) ∨ j_73 = 0) ∧ (-9223372036854775808 ≤ j_73 ∧ j_73 ≤ 9223372036854775807), r71⟩) (((((rv10.1.Pred.getD i_55.toNat []).length : Int) : Int) - 0).toNat, true, 0) [0, 1, 1, 2, 3] ⟨rfl, rfl, aM1, (.inr rfl), aM1⟩ ?_
   rintro ⟨r71, found_72, j_73⟩ ⟨hM74, hr75, hi76, hi77, hk78⟩
   refine JJ_nx fun _ _ hL hA => ?_; dsimp only at hL hA; subst hL hA
   refine Fb 8 0 fun _ => Fo 0 fun ho80 => Fb 32 2 fun _ => Fb 24 3 fun _ => Fb 24 4 fun _ => KS ?_
   refine Oq Vm (Oq (Vfa fo42_2 1) (Oq (VldF sh40 1) (Oq Vm (Oq (Vi sl40 4) ?_))))
   refine JJ_peekL i_55.toNat 4 rfl rng fun a84 k85 => ?_
   refine Fb 8 1 fun _ => Fo 1 fun ho87 => ?_
   refine Oq (Vld sh22 0) (Oq (Vlen sl22) (Oq Vlss (KS ?_)))
   refine Kc ?_ ?_
   ·intro h88
    have g89 := dt h88
    have hpm := Asc_in (hvf.pa i_55.toNat aM1) (i := j_73) ⟨by omega, by omega⟩; have hlb := LB_get (by assumption : LB _) (i := ((rv10.1.Pred.getD i_55.toNat []).getD j_73.toNat 0 : Int).toNat) aM1
    obtain ⟨r90, rfl⟩ := scc (n := r71) aM1
    refine KS ?_
    refine Oq (Vfa fo42_2 3) (Oq (VldF sh40 3) (Oq Vm (Oq (Vi sl40 6) (Oq (Vld sh22 0) (Oq Vm (Oq (Vi sl22 1) ?_))))))
    have hb91 := ok1 (i := j_73.toNat) ho87 rng
    refine Oq (VldI sh3 1) (Oq Va (KS ?_))
    refine Kq [0, 0, 3, 7, 15, 31, 63, 63, 255, 511, 1023, 2047, 4095, 4095, 16383, 32767, 4095, 4095, 200703, 462847, 987135, 2097151, 4194303, 8388607] fmix ?_
    refine Qv [] Vm (Qv [] Vm (Qv [2] (Vi sl22 0) ?_))
    have hb92 := ok1 (i := (((rv10.1.Pred.getD i_55.toNat []).getD j_73.toNat 0) : Int).toNat) ho80 rng
    refine Qv [2] (VldI sh3 0) (Qv [] Vgeq ?_)
    refine bool_split (decide (0 ≤ (rv35.1.getD (((rv10.1.Pred.getD i_55.toNat []).getD j_73.toNat 0) : Int).toNat 0))) ?_ ?_
    ·intro h93
     have g94 := dt h93
     refine Qb h93 [] Vm (Qv [] Vm (Qv [] Vm (Qv [2] (Vi sl22 0) ?_)))
     have hb95 := ok1 (i := i_55.toNat) ho80 rng
     refine Qv [2] (VldI sh3 0) (Qv [] Vlss ?_)
     refine bool_split (decide ((rv35.1.getD i_55.toNat 0) < 0)) ?_ ?_
     ·intro h96
      have g97 := dt h96
      refine Qb h96 [] Vm (Qs (Qs (Qs (Qs (Qs (Qs (Qs (Qs (Qs ?_)))))))))
      refine Qs (Qv [] Vpt (Qv [] Vpt ?_))
      refine Qn ⟨by kernel_rfl, ?_⟩
      refine Kt (KS ?_)
      refine Oq Va (KS ?_)
      have hR98 := q2 hM74 (.ret false) (by simp only [w33_LayoutLevels_L1, h88, h93, h96, cs4])
      have hR99 := q2 hM56 (.ret false) (by (try simp only [h66, h69, h88, h93, h96] at hR98); simp only [w33_LayoutLevels_L0, h66, h69, h88, h93, h96, hR98, cs4])
      have hq := q4 hrr false (by unfold w33_LayoutLevels; simp only [h44, h47, h51, h66, h69, h88, h93, h96, hg5, hg11, hg29, hg36, hR98, hR99, cs4]); subst hq
      exact Kr () rfl (.tmp rfl .nil) [] trivial
     intro h96
     have g100 := df h96
     refine Qb h96 [] Vm (Qv [] Vm (Qv [] Vm (Qv [2] (Vi sl22 0) ?_)))
     have hb101 := ok1 (i := i_55.toNat) ho80 rng
     refine Qv [2] (VldI sh3 0) (Qv [] Vm (Qv [] Vm (Qv [2] (Vi sl22 0) ?_)))
     have hb102 := ok1 (i := (((rv10.1.Pred.getD i_55.toNat []).getD j_73.toNat 0) : Int).toNat) ho80 rng
     refine Qv [2] (VldI sh3 0) (Qv [] Vadd (Qv [] Vgtr (Qv [] Vpf (Qv [] Vpt ?_))))
     refine Qn ⟨by kernel_rfl, ?_⟩
     refine Kc ?_ ?_
     ·intro h103
      have g104 := dt h103
      refine KS ?_
      refine Oq Va (KS ?_)
      have hR105 := q2 hM74 (.ret false) (by simp only [w33_LayoutLevels_L1, h88, h93, h96, h103, cs4])
      have hR106 := q2 hM56 (.ret false) (by (try simp only [h66, h69, h88, h93, h96, h103] at hR105); simp only [w33_LayoutLevels_L0, h66, h69, h88, h93, h96, h103, hR105, cs4])
      have hq := q4 hrr false (by unfold w33_LayoutLevels; simp only [h44, h47, h51, h66, h69, h88, h93, h96, h103, hg5, hg11, hg29, hg36, hR105, hR106, cs4]); subst hq
      exact Kr () rfl (.tmp rfl .nil) [] trivial
     intro h103
     have g107 := df h103
     refine KS ?_
     refine Kq [0, 1, 3, 3, 15, 31, 63, 127, 255, 255, 1023, 2047, 255, 255, 12543, 28927, 61695, 131071, 262143, 524287, 1048575] fmix ?_
     refine Qv [] Vm ?_
     refine bool_split found_72 ?_ ?_
     ·intro h108
      refine Qb h108 [] Vm (Qs (Qs (Qs (Qs (Qs (Qs (Qs (Qs (Qs ?_)))))))))
      refine Qs (Qs (Qs (Qs (Qs (Qs (Qs (Qs (Qv [] Vpt (Qv [] Va ?_)))))))))
      refine Qn ⟨by kernel_rfl, ?_⟩
      refine KS ?_
      refine Oq Vm (Oq Vadd (Oq Va (KS ?_)))
      exact Kg (r90, true, (j_73 + 1)) [2, 3, 3, 4, 5] ⟨(q3 hM74 (by simp only [w33_LayoutLevels_L1, h88, h93, h96, h103, h108, cs4])), aM1, aM1, aM1, aM1⟩
     intro h108
     refine Qb h108 [] Vm (Qv [] Vm (Qv [] Vm (Qv [2] (Vi sl22 0) ?_)))
     have hb111 := ok1 (i := (((rv10.1.Pred.getD i_55.toNat []).getD j_73.toNat 0) : Int).toNat) ho80 rng
     refine Qv [2] (VldI sh3 0) (Qv [] Vgeq ?_)
     refine bool_split (decide (0 ≤ (rv35.1.getD (((rv10.1.Pred.getD i_55.toNat []).getD j_73.toNat 0) : Int).toNat 0))) ?_ ?_
     ·intro h112
      have g113 := dt h112
      refine Qb h112 [] Vm (Qv [] Vm (Qv [] Vm (Qv [2] (Vi sl22 0) ?_)))
      have hb114 := ok1 (i := (((rv10.1.Pred.getD i_55.toNat []).getD j_73.toNat 0) : Int).toNat) ho80 rng
      refine Qv [2] (VldI sh3 0) (Qv [] Vm (Qv [] Vm (Qv [2] (Vi sl22 0) ?_)))
      have hb115 := ok1 (i := i_55.toNat) ho80 rng
      refine Qv [2] (VldI sh3 0) (Qv [] Vsub (Qv [] Veql (Qv [] Vpt (Qv [] Vpf (Qv [] Va ?_)))))
      refine Qn ⟨by kernel_rfl, ?_⟩
      refine KS ?_
      refine Oq Vm (Oq Vadd (Oq Va (KS ?_)))
      exact Kg (r90, ((rv35.1.getD (((rv10.1.Pred.getD i_55.toNat []).getD j_73.toNat 0) : Int).toNat 0) == ((rv35.1.getD i_55.toNat 0) - 1)), (j_73 + 1)) [2, 3, 3, 4, 5] ⟨(q3 hM74 (by simp only [w33_LayoutLevels_L1, h88, h93, h96, h103, h108, h112, cs4])), aM1, aM1, aM1, aM1⟩
     intro h112
     exact absurd h112 (by first | (simp [h93]; done) | (simp only [bne, h93]; decide) | (simp only [bne, h93, Bool.not_true, Bool.not_false]; decide) | (exfalso; omega) | (intro hq; simp only [bne, hq, Bool.not_false, Bool.not_true, reduceCtorEq] at h93))
    intro h93
    have g116 := df h93
    refine Qb h93 [] Vm (Qs (Qs (Qs (Qs (Qs (Qs (Qs (Qs (Qs ?_)))))))))
    refine Qs (Qs (Qs (Qs (Qs (Qs (Qs (Qs (Qv [] Vpf ?_))))))))
    refine Qn ⟨by kernel_rfl, ?_⟩
    refine Kf (KS ?_)
    refine Kq [0, 1, 3, 3, 15, 31, 63, 127, 255, 255, 1023, 2047, 255, 255, 12543, 28927, 61695, 131071, 262143, 524287, 1048575] fmix ?_
    refine Qv [] Vm ?_
    refine bool_split found_72 ?_ ?_
    ·intro h117
     refine Qb h117 [] Vm (Qs (Qs (Qs (Qs (Qs (Qs (Qs (Qs (Qs ?_)))))))))
     refine Qs (Qs (Qs (Qs (Qs (Qs (Qs (Qs (Qv [] Vpt (Qv [] Va ?_)))))))))
     refine Qn ⟨by kernel_rfl, ?_⟩
     refine KS ?_
     refine Oq Vm (Oq Vadd (Oq Va (KS ?_)))
     exact Kg (r90, true, (j_73 + 1)) [2, 3, 3, 4, 5] ⟨(q3 hM74 (by simp only [w33_LayoutLevels_L1, h88, h93, h117, cs4])), aM1, aM1, aM1, aM1⟩
    intro h117
    refine Qb h117 [] Vm (Qv [] Vm (Qv [] Vm (Qv [2] (Vi sl22 0) ?_)))
    have hb120 := ok1 (i := (((rv10.1.Pred.getD i_55.toNat []).getD j_73.toNat 0) : Int).toNat) ho80 rng
    refine Qv [2] (VldI sh3 0) (Qv [] Vgeq ?_)
    refine bool_split (decide (0 ≤ (rv35.1.getD (((rv10.1.Pred.getD i_55.toNat []).getD j_73.toNat 0) : Int).toNat 0))) ?_ ?_
    ·intro h121
     exact absurd h121 (by first | (simp [h93]; done) | (simp only [bne, h93]; decide) | (simp only [bne, h93, Bool.not_true, Bool.not_false]; decide) | (exfalso; omega) | (intro hq; simp only [bne, hq, Bool.not_false, Bool.not_true, reduceCtorEq] at h93))
    intro h121
    have g122 := df h121
    refine Qb h121 [] Vm (Qs (Qs (Qs (Qs (Qs (Qs (Qs (Qs (Qs ?_)))))))))
    refine Qs (Qv [] Vpf (Qv [] Vpf (Qv [] Va ?_)))
    refine Qn ⟨by kernel_rfl, ?_⟩
    refine KS ?_
    refine Oq Vm (Oq Vadd (Oq Va (KS ?_)))
    exact Kg (r90, false, (j_73 + 1)) [2, 3, 3, 4, 5] ⟨(q3 hM74 (by simp only [w33_LayoutLevels_L1, h88, h93, h117, h121, cs4])), aM1, aM1, aM1, aM1⟩
   intro h88
   have g123 := df h88
   obtain rfl : r71 = 0 := by omega
   refine Ke ?_
   have hR124 := q2 hM74 (.brk found_72) (by simp only [w33_LayoutLevels_L1, h88, cs4])
   refine KS ?_
   refine Oq Vm (Oq Vnot (KS ?_))
   refine Kc ?_ ?_
   ·intro h125
    have h127 := not_true h125
    refine KS ?_
    refine Oq Va (KS ?_)
    have hR129 := q2 hM56 (.ret false) (by (try simp only [h66, h69, h88, h125, h127] at hR124); simp only [w33_LayoutLevels_L0, h66, h69, h88, h125, h127, hR124, cs4])
    have hq := q4 hrr false (by unfold w33_LayoutLevels; simp only [h44, h47, h51, h66, h69, h88, h125, h127, hg5, hg11, hg29, hg36, hR124, hR129, cs4]); subst hq
    exact Kr () rfl (.tmp rfl .nil) [] trivial
   intro h125
   have h131 := not_false h125
   refine KS ?_
   refine Oq Vm (Oq Vadd (Oq Va (KS ?_)))
   exact Kg (r68, (i_55 + 1)) [2, 3, 3, 4, 5] ⟨(q3 hM56 (by (try simp only [h66, h69, h88, h125, h131] at hR124); simp only [w33_LayoutLevels_L0, h66, h69, h88, h125, h131, hR124, cs4])), aM1, aM1, aM1, aM1⟩
  intro h69
  have g133 := ne_of_beq_false h69
  refine Oq Vm (Oq Vm (Oq (Vi sl22 0) ?_))
  have hb134 := ok1 (i := i_55.toNat) ho62 rng
  refine Oq (VldI sh3 0) (Oq Vlss (Oq Vpf (Oq Va (KS ?_))))
  refine Oq Va (KS ?_)
  refine Kl (γ := Nat × Bool × Int) (fun (r135, found_136, j_137) => ⟨[(4, p27), (5, vi rv28.1), (6, vl a40 k41 rv35.1), (8, vi i_55), (9, vb found_136), (10, vi j_137)], [S a40 k41 rv35.1, Cl p27 [vl a18 k19 rv10.1.Nodes, vl a21 k22 rv10.1.Succ, vl a24 k25 rv10.1.Pred], S a18 k19 rv10.1.Nodes, S a21 k22 rv10.1.Succ, S a24 k25 rv10.1.Pred], w33_LayoutLevels_L1 rv10.1.Pred rv35.1 i_55 r135 found_136 j_137 = w33_LayoutLevels_L1 rv10.1.Pred rv35.1 i_55 (((((rv10.1.Pred.getD i_55.toNat []).length : Int) : Int) - 0).toNat) (decide ((rv35.1.getD i_55.toNat 0) < 0)) 0 ∧ r135 = ((((rv10.1.Pred.getD i_55.toNat []).length : Int) : Int) - j_137).toNat ∧ (0 : Int) ≤ j_137 ∧ (j_137 ≤ ((rv10.1.Pred.getD i_55.toNat []).length : Int) ∨ j_137 = 0) ∧ (-9223372036854775808 ≤ j_137 ∧ j_137 ≤ 9223372036854775807), r135⟩) (((((rv10.1.Pred.getD i_55.toNat []).length : Int) : Int) - 0).toNat, decide ((rv35.1.getD i_55.toNat 0) < 0), 0) [0, 1, 1, 2, 3] ⟨rfl, rfl, aM1, (.inr rfl), aM1⟩ ?_
  rintro ⟨r135, found_136, j_137⟩ ⟨hM138, hr139, hi140, hi141, hk142⟩
  refine JJ_nx fun _ _ hL hA => ?_; dsimp only at hL hA; subst hL hA
  refine Fb 8 0 fun _ => Fo 0 fun ho144 => Fb 32 2 fun _ => Fb 24 3 fun _ => Fb 24 4 fun _ => KS ?_
  refine Oq Vm (Oq (Vfa fo42_2 1) (Oq (VldF sh40 1) (Oq Vm (Oq (Vi sl40 4) ?_))))
  refine JJ_peekL i_55.toNat 4 rfl rng fun a148 k149 => ?_
  refine Fb 8 1 fun _ => Fo 1 fun ho151 => ?_
  refine Oq (Vld sh22 0) (Oq (Vlen sl22) (Oq Vlss (KS ?_)))
  refine Kc ?_ ?_
  ·intro h152
   have g153 := dt h152
   have hpm := Asc_in (hvf.pa i_55.toNat aM1) (i := j_137) ⟨by omega, by omega⟩; have hlb := LB_get (by assumption : LB _) (i := ((rv10.1.Pred.getD i_55.toNat []).getD j_137.toNat 0 : Int).toNat) aM1
   obtain ⟨r154, rfl⟩ := scc (n := r135) aM1
   refine KS ?_
   refine Oq (Vfa fo42_2 3) (Oq (VldF sh40 3) (Oq Vm (Oq (Vi sl40 6) (Oq (Vld sh22 0) (Oq Vm (Oq (Vi sl22 1) ?_))))))
   have hb155 := ok1 (i := j_137.toNat) ho151 rng
   refine Oq (VldI sh3 1) (Oq Va (KS ?_))
   refine Kq [0, 0, 3, 7, 15, 31, 63, 63, 255, 511, 1023, 2047, 4095, 4095, 16383, 32767, 4095, 4095, 200703, 462847, 987135, 2097151, 4194303, 8388607] fmix ?_
   refine Qv [] Vm (Qv [] Vm (Qv [2] (Vi sl22 0) ?_))
   have hb156 := ok1 (i := (((rv10.1.Pred.getD i_55.toNat []).getD j_137.toNat 0) : Int).toNat) ho144 rng
   refine Qv [2] (VldI sh3 0) (Qv [] Vgeq ?_)
   refine bool_split (decide (0 ≤ (rv35.1.getD (((rv10.1.Pred.getD i_55.toNat []).getD j_137.toNat 0) : Int).toNat 0))) ?_ ?_
   ·intro h157
    have g158 := dt h157
    refine Qb h157 [] Vm (Qv [] Vm (Qv [] Vm (Qv [2] (Vi sl22 0) ?_)))
    have hb159 := ok1 (i := i_55.toNat) ho144 rng
    refine Qv [2] (VldI sh3 0) (Qv [] Vlss ?_)
    refine bool_split (decide ((rv35.1.getD i_55.toNat 0) < 0)) ?_ ?_
    ·intro h160
     have g161 := dt h160
     refine Qb h160 [] Vm (Qs (Qs (Qs (Qs (Qs (Qs (Qs (Qs (Qs ?_)))))))))
     refine Qs (Qv [] Vpt (Qv [] Vpt ?_))
     refine Qn ⟨by kernel_rfl, ?_⟩
     refine Kt (KS ?_)
     refine Oq Va (KS ?_)
     have hR162 := q2 hM138 (.ret false) (by simp only [w33_LayoutLevels_L1, h152, h157, h160, cs4])
     have hR163 := q2 hM56 (.ret false) (by (try simp only [h66, h69, h152, h157, h160] at hR162); simp only [w33_LayoutLevels_L0, h66, h69, h152, h157, h160, hR162, cs4])
     have hq := q4 hrr false (by unfold w33_LayoutLevels; simp only [h44, h47, h51, h66, h69, h152, h157, h160, hg5, hg11, hg29, hg36, hR162, hR163, cs4]); subst hq
     exact Kr () rfl (.tmp rfl .nil) [] trivial
    intro h160
    have g164 := df h160
    refine Qb h160 [] Vm (Qv [] Vm (Qv [] Vm (Qv [2] (Vi sl22 0) ?_)))
    have hb165 := ok1 (i := i_55.toNat) ho144 rng
    refine Qv [2] (VldI sh3 0) (Qv [] Vm (Qv [] Vm (Qv [2] (Vi sl22 0) ?_)))
    have hb166 := ok1 (i := (((rv10.1.Pred.getD i_55.toNat []).getD j_137.toNat 0) : Int).toNat) ho144 rng
    refine Qv [2] (VldI sh3 0) (Qv [] Vadd (Qv [] Vgtr (Qv [] Vpf (Qv [] Vpt ?_))))
    refine Qn ⟨by kernel_rfl, ?_⟩
    refine Kc ?_ ?_
    ·intro h167
     have g168 := dt h167
     refine KS ?_
     refine Oq Va (KS ?_)
     have hR169 := q2 hM138 (.ret false) (by simp only [w33_LayoutLevels_L1, h152, h157, h160, h167, cs4])
     have hR170 := q2 hM56 (.ret false) (by (try simp only [h66, h69, h152, h157, h160, h167] at hR169); simp only [w33_LayoutLevels_L0, h66, h69, h152, h157, h160, h167, hR169, cs4])
     have hq := q4 hrr false (by unfold w33_LayoutLevels; simp only [h44, h47, h51, h66, h69, h152, h157, h160, h167, hg5, hg11, hg29, hg36, hR169, hR170, cs4]); subst hq
     exact Kr () rfl (.tmp rfl .nil) [] trivial
    intro h167
    have g171 := df h167
    refine KS ?_
    refine Kq [0, 1, 3, 3, 15, 31, 63, 127, 255, 255, 1023, 2047, 255, 255, 12543, 28927, 61695, 131071, 262143, 524287, 1048575] fmix ?_
    refine Qv [] Vm ?_
    refine bool_split found_136 ?_ ?_
    ·intro h172
     refine Qb h172 [] Vm (Qs (Qs (Qs (Qs (Qs (Qs (Qs (Qs (Qs ?_)))))))))
     refine Qs (Qs (Qs (Qs (Qs (Qs (Qs (Qs (Qv [] Vpt (Qv [] Va ?_)))))))))
     refine Qn ⟨by kernel_rfl, ?_⟩
     refine KS ?_
     refine Oq Vm (Oq Vadd (Oq Va (KS ?_)))
     exact Kg (r154, true, (j_137 + 1)) [2, 3, 3, 4, 5] ⟨(q3 hM138 (by simp only [w33_LayoutLevels_L1, h152, h157, h160, h167, h172, cs4])), aM1, aM1, aM1, aM1⟩
    intro h172
    refine Qb h172 [] Vm (Qv [] Vm (Qv [] Vm (Qv [2] (Vi sl22 0) ?_)))
    have hb175 := ok1 (i := (((rv10.1.Pred.getD i_55.toNat []).getD j_137.toNat 0) : Int).toNat) ho144 rng
    refine Qv [2] (VldI sh3 0) (Qv [] Vgeq ?_)
    refine bool_split (decide (0 ≤ (rv35.1.getD (((rv10.1.Pred.getD i_55.toNat []).getD j_137.toNat 0) : Int).toNat 0))) ?_ ?_
    ·intro h176
     have g177 := dt h176
     refine Qb h176 [] Vm (Qv [] Vm (Qv [] Vm (Qv [2] (Vi sl22 0) ?_)))
     have hb178 := ok1 (i := (((rv10.1.Pred.getD i_55.toNat []).getD j_137.toNat 0) : Int).toNat) ho144 rng
     refine Qv [2] (VldI sh3 0) (Qv [] Vm (Qv [] Vm (Qv [2] (Vi sl22 0) ?_)))
     have hb179 := ok1 (i := i_55.toNat) ho144 rng
     refine Qv [2] (VldI sh3 0) (Qv [] Vsub (Qv [] Veql (Qv [] Vpt (Qv [] Vpf (Qv [] Va ?_)))))
     refine Qn ⟨by kernel_rfl, ?_⟩
     refine KS ?_
     refine Oq Vm (Oq Vadd (Oq Va (KS ?_)))
     exact Kg (r154, ((rv35.1.getD (((rv10.1.Pred.getD i_55.toNat []).getD j_137.toNat 0) : Int).toNat 0) == ((rv35.1.getD i_55.toNat 0) - 1)), (j_137 + 1)) [2, 3, 3, 4, 5] ⟨(q3 hM138 (by simp only [w33_LayoutLevels_L1, h152, h157, h160, h167, h172, h176, cs4])), aM1, aM1, aM1, aM1⟩
    intro h176
    exact absurd h176 (by first | (simp [h157]; done) | (simp only [bne, h157]; decide) | (simp only [bne, h157, Bool.not_true, Bool.not_false]; decide) | (exfalso; omega) | (intro hq; simp only [bne, hq, Bool.not_false, Bool.not_true, reduceCtorEq] at h157))
   intro h157
   have g180 := df h157
   refine Qb h157 [] Vm (Qs (Qs (Qs (Qs (Qs (Qs (Qs (Qs (Qs ?_)))))))))
   refine Qs (Qs (Qs (Qs (Qs (Qs (Qs (Qs (Qv [] Vpf ?_))))))))
   refine Qn ⟨by kernel_rfl, ?_⟩
   refine Kf (KS ?_)
   refine Kq [0, 1, 3, 3, 15, 31, 63, 127, 255, 255, 1023, 2047, 255, 255, 12543, 28927, 61695, 131071, 262143, 524287, 1048575] fmix ?_
   refine Qv [] Vm ?_
   refine bool_split found_136 ?_ ?_
   ·intro h181
    refine Qb h181 [] Vm (Qs (Qs (Qs (Qs (Qs (Qs (Qs (Qs (Qs ?_)))))))))
    refine Qs (Qs (Qs (Qs (Qs (Qs (Qs (Qs (Qv [] Vpt (Qv [] Va ?_)))))))))
    refine Qn ⟨by kernel_rfl, ?_⟩
    refine KS ?_
    refine Oq Vm (Oq Vadd (Oq Va (KS ?_)))
    exact Kg (r154, true, (j_137 + 1)) [2, 3, 3, 4, 5] ⟨(q3 hM138 (by simp only [w33_LayoutLevels_L1, h152, h157, h181, cs4])), aM1, aM1, aM1, aM1⟩
   intro h181
   refine Qb h181 [] Vm (Qv [] Vm (Qv [] Vm (Qv [2] (Vi sl22 0) ?_)))
   have hb184 := ok1 (i := (((rv10.1.Pred.getD i_55.toNat []).getD j_137.toNat 0) : Int).toNat) ho144 rng
   refine Qv [2] (VldI sh3 0) (Qv [] Vgeq ?_)
   refine bool_split (decide (0 ≤ (rv35.1.getD (((rv10.1.Pred.getD i_55.toNat []).getD j_137.toNat 0) : Int).toNat 0))) ?_ ?_
   ·intro h185
    exact absurd h185 (by first | (simp [h157]; done) | (simp only [bne, h157]; decide) | (simp only [bne, h157, Bool.not_true, Bool.not_false]; decide) | (exfalso; omega) | (intro hq; simp only [bne, hq, Bool.not_false, Bool.not_true, reduceCtorEq] at h157))
   intro h185
   have g186 := df h185
   refine Qb h185 [] Vm (Qs (Qs (Qs (Qs (Qs (Qs (Qs (Qs (Qs ?_)))))))))
   refine Qs (Qv [] Vpf (Qv [] Vpf (Qv [] Va ?_)))
   refine Qn ⟨by kernel_rfl, ?_⟩
   refine KS ?_
   refine Oq Vm (Oq Vadd (Oq Va (KS ?_)))
   exact Kg (r154, false, (j_137 + 1)) [2, 3, 3, 4, 5] ⟨(q3 hM138 (by simp only [w33_LayoutLevels_L1, h152, h157, h181, h185, cs4])), aM1, aM1, aM1, aM1⟩
  intro h152
  have g187 := df h152
  obtain rfl : r135 = 0 := by omega
  refine Ke ?_
  have hR188 := q2 hM138 (.brk found_136) (by simp only [w33_LayoutLevels_L1, h152, cs4])
  refine KS ?_
  refine Oq Vm (Oq Vnot (KS ?_))
  refine Kc ?_ ?_
  ·intro h189
   have h191 := not_true h189
   refine KS ?_
   refine Oq Va (KS ?_)
   have hR193 := q2 hM56 (.ret false) (by (try simp only [h66, h69, h152, h189, h191] at hR188); simp only [w33_LayoutLevels_L0, h66, h69, h152, h189, h191, hR188, cs4])
   have hq := q4 hrr false (by unfold w33_LayoutLevels; simp only [h44, h47, h51, h66, h69, h152, h189, h191, hg5, hg11, hg29, hg36, hR188, hR193, cs4]); subst hq
   exact Kr () rfl (.tmp rfl .nil) [] trivial
  intro h189
  have h195 := not_false h189
  refine KS ?_
  refine Oq Vm (Oq Vadd (Oq Va (KS ?_)))
  exact Kg (r68, (i_55 + 1)) [2, 3, 3, 4, 5] ⟨(q3 hM56 (by (try simp only [h66, h69, h152, h189, h195] at hR188); simp only [w33_LayoutLevels_L0, h66, h69, h152, h189, h195, hR188, cs4])), aM1, aM1, aM1, aM1⟩
 intro h66
 have g197 := df h66
 obtain rfl : r54 = 0 := by omega
 refine Ke ?_
 have hR198 := q2 hM56 (.brk ()) (by simp only [w33_LayoutLevels_L0, h66, cs4])
 refine KS ?_
 have hc199 := fn11  w33_sane rfl
 refine Oc [] ca11 hc199 ?_
 rintro - -
 refine Oq Va (KS ?_)
 have hq := q4 hrr w33_sane (by unfold w33_LayoutLevels; simp only [h44, h47, h51, h66, hg5, hg11, hg29, hg36, hR198, cs4]); subst hq
 exact Kr () rfl (.tmp rfl .nil) [] trivial
end Go.SL.G
