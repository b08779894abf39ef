/- Part 5 of the walks: mirrors, plain laws and walks used by the last text of this claim. -/
import Derived.Test.YtfoejhjfcegngaaGreatW4
import Derived.Test.YtfoejhjfcegngaaGreatProg
set_option linter.unusedVariables false
set_option linter.unusedSimpArgs false
namespace Go.SL.G
open Go Go.SL Go.Proofs
set_option maxHeartbeats 20000000
set_option maxRecDepth 100000
theorem fn6 (t : List Int) (ta0 : Option Addr) (tk0 : Nat) (m : Int) (n : Int) (hm_0 : 0 ≤ m ∧ m ≤ 255) (hn_0 : 0 ≤ n ∧ n ≤ 255) (rr : Bool) (hrr : flqlaw15_SolverSlices t m n = rr) : FT Tryz.prog 6 #[vl ta0 tk0 t, .int .u8 m, .int .u8 n] [S ta0 tk0 t] (fun g : Unit => True) (fun g => vb rr) (fun g => []) := by
 refine FTi Tryz.func6 fun w0 M0 F0 => ?_
 refine Fb 8 0 fun hl1 => ?_
 refine Fo 0 fun ho2 => ?_
 refine KS ?_
 refine Oq Va (KS ?_)
 refine Oq Vm ?_
 refine letv (flqgen_New t) fun rv4 hg5 => ?_
 have hc6 := fn17 t ta0 tk0 rv4 hg5
 refine Oc [0] ca17 hc6 ?_
 rintro c3 -
 refine letv (flqlaw15_draw t 0) fun rv11 hg12 => ?_
 have hc13 := fn32 c3 ta0 tk0 t 0 pre rv11 hg12
 refine Oc [0, 0] ca32 hc13 ?_
 rintro ⟨c7, c8, c9, c10⟩ ⟨he14, he15, he16⟩
 unfold i64ok at he14 he15
 refine Jo 0 ?_; rintro a17 k18 rfl
 refine Fb 24 0 fun hl19 => ?_
 refine Jo 1 ?_; rintro a20 k21 rfl
 refine Fb 88 1 fun hl22 => ?_
 refine Jo 2 ?_; rintro a23 k24 rfl
 refine Fb 32 2 fun hl25 => ?_
 refine Jo 3 ?_; rintro a26 k27 rfl
 refine Fb 40 3 fun hl28 => ?_
 have hdf := draw_facts (by assumption : flqlaw15_draw t 0 = rv11)
 obtain ⟨hd1, hd2, hd3, hd4⟩ := hdf
 have hv1 := hd1.n
 have hv2 := hd1.tl
 have hv3 := hd1.bl
 have hv4 := hd1.w
 have hv5 := hd1.dep_len
 refine Oa (Al ze55 [vi 0, .slice none 0 0, .slice none 0 0, .slice none 0 0, .slice none 0 0, vi 0]) fun p29 => Ost (Scl [0] sh55 [vi rv11.1.S.Width, vl a17 k18 rv11.1.S.Deps, vl a20 k21 rv11.1.S.Transfers, vl a23 k24 rv11.1.S.Boundary, vl a26 k27 rv11.1.K, vi rv11.1.Root]) (KS ?_)
 refine Jp 0 fun hp30 => ?_
 refine JK_drawK [0, 1, 0, 4, 0, 16, 48, 0, 128, 384, 1023, 2047, 4095, 4095, 4095, 0, 40959, 114687, 262143] fmix ?_
 refine Dv [0] (Vfa fo55_0 0) (Dv [1] (VldG sh27 0 [vi rv11.1.S.Width, vl a17 k18 rv11.1.S.Deps, vl a20 k21 rv11.1.S.Transfers, vl a23 k24 rv11.1.S.Boundary]) (Dv [0] (Vfa fo55_1 0) (Dv [1] (VldF sh53 0) (Dv [0] (Vfa fo55_2 0) (Dv [1] (VldF sh3 0) ?_)))))
 refine letv (solver_Start rv11.1.Root) fun rv35 hg36 => ?_
 refine Dx [] [] [0, 1, 2, 3, 4] (fun G => .agg #[vi rv35.Phase, (G.g 6 0), (G.g 6 1), vi rv35.At, vi rv35.Edge, (G.g 6 2), (G.g 6 3), vi rv35.Steps]) [fun G => SP.fact (i64ok rv35.Phase ∧ i64ok rv35.At ∧ i64ok rv35.Edge ∧ i64ok rv35.Steps), fun G => sl (G.g 6 0) rv35.Cone, fun G => sl (G.g 6 1) rv35.Leaf, fun G => sl (G.g 6 2) rv35.Values, fun G => sl (G.g 6 3) rv35.Queue] (fun G => xC [] ca38 (fn38 rv11.1.Root pre rv35 hg36)) (Dv [] Vm (Dv [] VremK (Dv [] (VcK un5 un3) ?_)))
 refine letv (solver_Run rv11.1.S rv11.1.K rv35 (m % 30)) fun rv53 hg54 => ?_
 refine Dx [2, 3, 4, 5, 8, 9, 10, 11, 12] [] [5, 6, 7, 8, 9, 10, 11, 12, 13, 0, 1, 2, 3, 4] (fun G => .tuple #[.agg #[vi rv53.1.Phase, (G.g 10 0), (G.g 10 1), vi rv53.1.At, vi rv53.1.Edge, (G.g 10 2), (G.g 10 3), vi rv53.1.Steps], vi rv53.2.1, vi rv53.2.2]) [fun G => SP.fact (i64ok rv53.1.Phase ∧ i64ok rv53.1.At ∧ i64ok rv53.1.Edge ∧ i64ok rv53.1.Steps ∧ i64ok rv53.2.1 ∧ i64ok rv53.2.2 ∧ (0 ≤ rv53.2.1 ∧ rv53.2.1 ≤ 8000000000) ∧ (rv53.1.Cone.length ≤ 256)), fun G => sl (G.g 10 0) rv53.1.Cone, fun G => sl (G.g 10 1) rv53.1.Leaf, fun G => sl (G.g 10 2) rv53.1.Values, fun G => sl (G.g 10 3) rv53.1.Queue] (fun G => by refine xf 4 rfl ?_; rintro ⟨he55, he56, he57, he58⟩; unfold i64ok at he55 he56 he57 he58; exact xD [8, 7, 6, 5, 0, 1, 2, 3] ca35 rfl rfl rfl (FT_open (γ := Value × Value × Value × Value) (I := fun g => i64ok rv53.1.Phase ∧ i64ok rv53.1.At ∧ i64ok rv53.1.Edge ∧ i64ok rv53.1.Steps ∧ i64ok rv53.2.1 ∧ i64ok rv53.2.2 ∧ (0 ≤ rv53.2.1 ∧ rv53.2.1 ≤ 8000000000) ∧ (rv53.1.Cone.length ≤ 256)) (V := fun g => .tuple #[.agg #[vi rv53.1.Phase, g.1, g.2.1, vi rv53.1.At, vi rv53.1.Edge, g.2.2.1, g.2.2.2, vi rv53.1.Steps], vi rv53.2.1, vi rv53.2.2]) (B := fun g => [sl g.1 rv53.1.Cone, sl g.2.1 rv53.1.Leaf, sl g.2.2.1 rv53.1.Values, sl g.2.2.2 rv53.1.Queue]) (R := sl (G.g 6 3) rv35.Queue) sl_slice (fun aq46 kq47 eq48 => by rw [eq48]; exact FT_ent (Ent.take (is := [1, 2, 3, 4, 5, 6, 7, 0]) rfl) (FT_open (γ := Value × Value × Value × Value) (I := fun g => i64ok rv53.1.Phase ∧ i64ok rv53.1.At ∧ i64ok rv53.1.Edge ∧ i64ok rv53.1.Steps ∧ i64ok rv53.2.1 ∧ i64ok rv53.2.2 ∧ (0 ≤ rv53.2.1 ∧ rv53.2.1 ≤ 8000000000) ∧ (rv53.1.Cone.length ≤ 256)) (V := fun g => .tuple #[.agg #[vi rv53.1.Phase, g.1, g.2.1, vi rv53.1.At, vi rv53.1.Edge, g.2.2.1, g.2.2.2, vi rv53.1.Steps], vi rv53.2.1, vi rv53.2.2]) (B := fun g => [sl g.1 rv53.1.Cone, sl g.2.1 rv53.1.Leaf, sl g.2.2.1 rv53.1.Values, sl g.2.2.2 rv53.1.Queue]) (R := sl (G.g 6 2) rv35.Values) sl_slice (fun aq43 kq44 eq45 => by rw [eq45]; exact FT_ent (Ent.take (is := [1, 2, 3, 4, 5, 6, 0, 7]) rfl) (FT_open (γ := Value × Value × Value × Value) (I := fun g => i64ok rv53.1.Phase ∧ i64ok rv53.1.At ∧ i64ok rv53.1.Edge ∧ i64ok rv53.1.Steps ∧ i64ok rv53.2.1 ∧ i64ok rv53.2.2 ∧ (0 ≤ rv53.2.1 ∧ rv53.2.1 ≤ 8000000000) ∧ (rv53.1.Cone.length ≤ 256)) (V := fun g => .tuple #[.agg #[vi rv53.1.Phase, g.1, g.2.1, vi rv53.1.At, vi rv53.1.Edge, g.2.2.1, g.2.2.2, vi rv53.1.Steps], vi rv53.2.1, vi rv53.2.2]) (B := fun g => [sl g.1 rv53.1.Cone, sl g.2.1 rv53.1.Leaf, sl g.2.2.1 rv53.1.Values, sl g.2.2.2 rv53.1.Queue]) (R := sl (G.g 6 1) rv35.Leaf) sl_slice (fun aq40 kq41 eq42 => by rw [eq42]; exact FT_ent (Ent.take (is := [1, 2, 3, 4, 5, 0, 6, 7]) rfl) (FT_open (γ := Value × Value × Value × Value) (I := fun g => i64ok rv53.1.Phase ∧ i64ok rv53.1.At ∧ i64ok rv53.1.Edge ∧ i64ok rv53.1.Steps ∧ i64ok rv53.2.1 ∧ i64ok rv53.2.2 ∧ (0 ≤ rv53.2.1 ∧ rv53.2.1 ≤ 8000000000) ∧ (rv53.1.Cone.length ≤ 256)) (V := fun g => .tuple #[.agg #[vi rv53.1.Phase, g.1, g.2.1, vi rv53.1.At, vi rv53.1.Edge, g.2.2.1, g.2.2.2, vi rv53.1.Steps], vi rv53.2.1, vi rv53.2.2]) (B := fun g => [sl g.1 rv53.1.Cone, sl g.2.1 rv53.1.Leaf, sl g.2.2.1 rv53.1.Values, sl g.2.2.2 rv53.1.Queue]) (R := sl (G.g 6 0) rv35.Cone) sl_slice (fun aq37 kq38 eq39 => by rw [eq39]; exact FT_ent (Ent.take (is := [1, 2, 3, 4, 0, 5, 6, 7]) rfl) (fn35 rv11.1.S a17 k18 a20 k21 a23 k24 rv11.1.K a26 k27 rv35 aq37 kq38 aq40 kq41 aq43 kq44 aq46 kq47 ((m % 30)) pre pre pre pre pre pre pre rv53 hg54)))))))))) (Dg [] (fun G => .tuple #[.agg #[vi rv53.1.Phase, (G.g 10 0), (G.g 10 1), vi rv53.1.At, vi rv53.1.Edge, (G.g 10 2), (G.g 10 3), vi rv53.1.Steps], vi rv53.2.1, vi rv53.2.2]) (fun G => Vm) (Dg [] (fun G => .agg #[vi rv53.1.Phase, (G.g 10 0), (G.g 10 1), vi rv53.1.At, vi rv53.1.Edge, (G.g 10 2), (G.g 10 3), vi rv53.1.Steps]) (fun G => Vx) (Dv [] Vx (Dv [] Vx (Dx [] [] [0] (fun G => (G.g 15 0)) [fun G => Cl (G.g 15 0) [vi 0, .slice none 0 0, .slice none 0 0, vi 0, vi 0, .slice none 0 0, .slice none 0 0, vi 0]] (fun G => xA (Al ze59 [vi 0, .slice none 0 0, .slice none 0 0, vi 0, vi 0, .slice none 0 0, .slice none 0 0, vi 0])) (Dx0 [14, 15, 16, 17, 18] [18] [1, 2, 3, 4, 0] [fun G => Cl (G.g 15 0) [vi rv53.1.Phase, (G.g 10 0), (G.g 10 1), vi rv53.1.At, vi rv53.1.Edge, (G.g 10 2), (G.g 10 3), vi rv53.1.Steps]] (fun G => x1 0 rfl sl_one fun ho60 => (x1 1 rfl sl_one fun ho61 => (x1 2 rfl sl_one fun ho62 => (x1 3 rfl sl_one fun ho63 => (xS (Scl [4] sh59 [vi rv53.1.Phase, (G.g 10 0), (G.g 10 1), vi rv53.1.At, vi rv53.1.Edge, (G.g 10 2), (G.g 10 3), vi rv53.1.Steps] (v := .agg #[vi rv53.1.Phase, (G.g 10 0), (G.g 10 1), vi rv53.1.At, vi rv53.1.Edge, (G.g 10 2), (G.g 10 3), vi rv53.1.Steps]) (h1 := show [vi rv53.1.Phase, (G.g 10 0), (G.g 10 1), vi rv53.1.At, vi rv53.1.Edge, (G.g 10 2), (G.g 10 3), vi rv53.1.Steps].all (·.oneCell') = true from (by simp only [List.all_cons, List.all_nil, ho60, ho61, ho62, ho63, Bool.and_true, Bool.true_and] <;> rfl)))))))) (Dv [] Va (Dv [] Va ?_))))))))
 refine Dn ⟨by kernel_rfl, fun G => ?_⟩
 refine Jw2 [(1, .int .u8 m), (2, .int .u8 n), (7, p29), (8, (G.g 15 0)), (9, vi rv53.2.1), (10, vi rv53.2.2)] [0, 1, 2, 3, 4, 5, 6, 7] [SP.fact (i64ok rv35.Phase ∧ i64ok rv35.At ∧ i64ok rv35.Edge ∧ i64ok rv35.Steps), sl (G.g 6 0) rv35.Cone, sl (G.g 6 1) rv35.Leaf, sl (G.g 6 2) rv35.Values, sl (G.g 6 3) rv35.Queue, SP.fact (i64ok rv53.1.Phase ∧ i64ok rv53.1.At ∧ i64ok rv53.1.Edge ∧ i64ok rv53.1.Steps ∧ i64ok rv53.2.1 ∧ i64ok rv53.2.2 ∧ (0 ≤ rv53.2.1 ∧ rv53.2.1 ≤ 8000000000) ∧ (rv53.1.Cone.length ≤ 256)), sl (G.g 10 0) rv53.1.Cone, sl (G.g 10 1) rv53.1.Leaf, sl (G.g 10 2) rv53.1.Values, sl (G.g 10 3) rv53.1.Queue, Cl (G.g 15 0) [vi rv53.1.Phase, (G.g 10 0), (G.g 10 1), vi rv53.1.At, vi rv53.1.Edge, (G.g 10 2), (G.g 10 3), vi rv53.1.Steps]] ?_
 generalize G.g 6 0 = c31, G.g 6 1 = c32, G.g 6 2 = c33, G.g 6 3 = c34, G.g 10 0 = c49, G.g 10 1 = c50, G.g 10 2 = c51, G.g 10 3 = c52, G.g 15 0 = p59
 refine Jf 8 rfl ?_; rintro ⟨he64, he65, he66, he67⟩
 unfold i64ok at he64 he65 he66 he67
 refine Jf 13 rfl ?_; rintro ⟨he68, he69, he70, he71, he72, he73, he74, he75⟩
 unfold i64ok at he68 he69 he70 he71 he72 he73
 refine Jk [1, 1, 2, 3, 4, 5, 5, 7, 8, 9, 10, 12, 13, 14, 15, 16] ?_
 refine Jo 7 ?_; rintro a76 k77 rfl
 refine Fb 8 7 fun hl78 => ?_
 refine Fo 7 fun ho79 => ?_
 refine Jo 8 ?_; rintro a80 k81 rfl
 refine Fb 1 8 fun hl82 => ?_
 refine Jo 9 ?_; rintro a83 k84 rfl
 refine Fb 32 9 fun hl85 => ?_
 refine Jo 10 ?_; rintro a86 k87 rfl
 refine Fb 8 10 fun hl88 => ?_
 refine Fo 10 fun ho89 => ?_
 refine Jo 11 ?_; rintro a90 k91 rfl
 refine Fb 8 11 fun hl92 => ?_
 refine Fo 11 fun ho93 => ?_
 refine Jo 12 ?_; rintro a94 k95 rfl
 refine Fb 1 12 fun hl96 => ?_
 refine Jo 13 ?_; rintro a97 k98 rfl
 refine Fb 32 13 fun hl99 => ?_
 refine Jo 14 ?_; rintro a100 k101 rfl
 refine Fb 8 14 fun hl102 => ?_
 refine Fo 14 fun ho103 => ?_
 refine KS ?_
 refine Oq (Vfa fo55_0 0) (Oq (VldG sh27 0 [vi rv11.1.S.Width, vl a17 k18 rv11.1.S.Deps, vl a20 k21 rv11.1.S.Transfers, vl a23 k24 rv11.1.S.Boundary]) (Oq (Vfa fo55_1 0) (Oq (VldF sh53 0) (Oq (VldA sh59 15) (Oq Vm (Oq VremK (Oq (VcK un5 un3) ?_)))))))
 refine letv (solver_Run rv11.1.S rv11.1.K rv53.1 (n % 30)) fun rv108 hg109 => ?_
 have hc110 := fn35 rv11.1.S a17 k18 a20 k21 a23 k24 rv11.1.K a26 k27 rv53.1 a90 k91 a94 k95 a97 k98 a100 k101 ((n % 30)) pre pre pre pre pre pre pre rv108 hg109
 refine Oc [1, 2, 3, 4, 11, 12, 13, 14] ca35 hc110 ?_
 rintro ⟨c104, c105, c106, c107⟩ ⟨he111, he112, he113, he114, he115, he116, he117, he118⟩
 unfold i64ok at he111 he112 he113 he114 he115 he116
 refine Jo 0 ?_; rintro a119 k120 rfl
 refine Fb 8 0 fun hl121 => ?_
 refine Fo 0 fun ho122 => ?_
 refine Jo 1 ?_; rintro a123 k124 rfl
 refine Fb 1 1 fun hl125 => ?_
 refine Jo 2 ?_; rintro a126 k127 rfl
 refine Fb 32 2 fun hl128 => ?_
 refine Jo 3 ?_; rintro a129 k130 rfl
 refine Fb 8 3 fun hl131 => ?_
 refine Fo 3 fun ho132 => ?_
 refine Oq Vm (Oq Vx (Oq Vx (Oq Vx (Oa (Al ze59 [vi 0, .slice none 0 0, .slice none 0 0, vi 0, vi 0, .slice none 0 0, .slice none 0 0, vi 0]) fun p133 => Ost (Scl [0] sh59 [vi rv108.1.Phase, vl a119 k120 rv108.1.Cone, vl a123 k124 rv108.1.Leaf, vi rv108.1.At, vi rv108.1.Edge, vl a126 k127 rv108.1.Values, vl a129 k130 rv108.1.Queue, vi rv108.1.Steps]) (Oq Va (Oq Va (KS ?_)))))))
 refine Jp 5 fun hp134 => ?_
 refine JK_drawK [0, 1, 0, 4, 0, 16, 48, 0, 128, 384, 0, 1024, 3072, 8064, 16383, 32767, 65535, 65535, 65535, 0, 655359, 1835007, 4194303] fmix ?_
 refine Dv [0] (Vfa fo55_0 0) (Dv [6] (VldG sh27 0 [vi rv11.1.S.Width, vl a17 k18 rv11.1.S.Deps, vl a20 k21 rv11.1.S.Transfers, vl a23 k24 rv11.1.S.Boundary]) (Dv [0] (Vfa fo55_1 0) (Dv [6] (VldF sh53 0) (Dv [0] (Vfa fo55_2 0) (Dv [6] (VldF sh3 0) (Dx [] [] [0, 1, 2, 3, 4] (fun G => .agg #[vi rv35.Phase, (G.g 6 0), (G.g 6 1), vi rv35.At, vi rv35.Edge, (G.g 6 2), (G.g 6 3), vi rv35.Steps]) [fun G => SP.fact (i64ok rv35.Phase ∧ i64ok rv35.At ∧ i64ok rv35.Edge ∧ i64ok rv35.Steps), fun G => sl (G.g 6 0) rv35.Cone, fun G => sl (G.g 6 1) rv35.Leaf, fun G => sl (G.g 6 2) rv35.Values, fun G => sl (G.g 6 3) rv35.Queue] (fun G => xC [] ca38 (fn38 rv11.1.Root pre rv35 hg36)) (Dv [] Vm (Dv [] VremK (Dv [] (VcK un5 un3) ?_)))))))))
 refine Dv [] Vm (Dv [] VremK (Dv [] (VcK un5 un3) (Dv [] Vadd ?_)))
 refine letv (solver_Run rv11.1.S rv11.1.K rv35 ((m % 30) + (n % 30))) fun rv155 hg156 => ?_
 refine Dx [7, 8, 9, 10, 22, 23, 24, 25, 26] [] [5, 6, 7, 8, 9, 10, 11, 12, 13, 0, 1, 2, 3, 4] (fun G => .tuple #[.agg #[vi rv155.1.Phase, (G.g 14 0), (G.g 14 1), vi rv155.1.At, vi rv155.1.Edge, (G.g 14 2), (G.g 14 3), vi rv155.1.Steps], vi rv155.2.1, vi rv155.2.2]) [fun G => SP.fact (i64ok rv155.1.Phase ∧ i64ok rv155.1.At ∧ i64ok rv155.1.Edge ∧ i64ok rv155.1.Steps ∧ i64ok rv155.2.1 ∧ i64ok rv155.2.2 ∧ (0 ≤ rv155.2.1 ∧ rv155.2.1 ≤ 8000000000) ∧ (rv155.1.Cone.length ≤ 256)), fun G => sl (G.g 14 0) rv155.1.Cone, fun G => sl (G.g 14 1) rv155.1.Leaf, fun G => sl (G.g 14 2) rv155.1.Values, fun G => sl (G.g 14 3) rv155.1.Queue] (fun G => by refine xf 4 rfl ?_; rintro ⟨he157, he158, he159, he160⟩; unfold i64ok at he157 he158 he159 he160; exact xD [8, 7, 6, 5, 0, 1, 2, 3] ca35 rfl rfl rfl (FT_open (γ := Value × Value × Value × Value) (I := fun g => i64ok rv155.1.Phase ∧ i64ok rv155.1.At ∧ i64ok rv155.1.Edge ∧ i64ok rv155.1.Steps ∧ i64ok rv155.2.1 ∧ i64ok rv155.2.2 ∧ (0 ≤ rv155.2.1 ∧ rv155.2.1 ≤ 8000000000) ∧ (rv155.1.Cone.length ≤ 256)) (V := fun g => .tuple #[.agg #[vi rv155.1.Phase, g.1, g.2.1, vi rv155.1.At, vi rv155.1.Edge, g.2.2.1, g.2.2.2, vi rv155.1.Steps], vi rv155.2.1, vi rv155.2.2]) (B := fun g => [sl g.1 rv155.1.Cone, sl g.2.1 rv155.1.Leaf, sl g.2.2.1 rv155.1.Values, sl g.2.2.2 rv155.1.Queue]) (R := sl (G.g 6 3) rv35.Queue) sl_slice (fun aq148 kq149 eq150 => by rw [eq150]; exact FT_ent (Ent.take (is := [1, 2, 3, 4, 5, 6, 7, 0]) rfl) (FT_open (γ := Value × Value × Value × Value) (I := fun g => i64ok rv155.1.Phase ∧ i64ok rv155.1.At ∧ i64ok rv155.1.Edge ∧ i64ok rv155.1.Steps ∧ i64ok rv155.2.1 ∧ i64ok rv155.2.2 ∧ (0 ≤ rv155.2.1 ∧ rv155.2.1 ≤ 8000000000) ∧ (rv155.1.Cone.length ≤ 256)) (V := fun g => .tuple #[.agg #[vi rv155.1.Phase, g.1, g.2.1, vi rv155.1.At, vi rv155.1.Edge, g.2.2.1, g.2.2.2, vi rv155.1.Steps], vi rv155.2.1, vi rv155.2.2]) (B := fun g => [sl g.1 rv155.1.Cone, sl g.2.1 rv155.1.Leaf, sl g.2.2.1 rv155.1.Values, sl g.2.2.2 rv155.1.Queue]) (R := sl (G.g 6 2) rv35.Values) sl_slice (fun aq145 kq146 eq147 => by rw [eq147]; exact FT_ent (Ent.take (is := [1, 2, 3, 4, 5, 6, 0, 7]) rfl) (FT_open (γ := Value × Value × Value × Value) (I := fun g => i64ok rv155.1.Phase ∧ i64ok rv155.1.At ∧ i64ok rv155.1.Edge ∧ i64ok rv155.1.Steps ∧ i64ok rv155.2.1 ∧ i64ok rv155.2.2 ∧ (0 ≤ rv155.2.1 ∧ rv155.2.1 ≤ 8000000000) ∧ (rv155.1.Cone.length ≤ 256)) (V := fun g => .tuple #[.agg #[vi rv155.1.Phase, g.1, g.2.1, vi rv155.1.At, vi rv155.1.Edge, g.2.2.1, g.2.2.2, vi rv155.1.Steps], vi rv155.2.1, vi rv155.2.2]) (B := fun g => [sl g.1 rv155.1.Cone, sl g.2.1 rv155.1.Leaf, sl g.2.2.1 rv155.1.Values, sl g.2.2.2 rv155.1.Queue]) (R := sl (G.g 6 1) rv35.Leaf) sl_slice (fun aq142 kq143 eq144 => by rw [eq144]; exact FT_ent (Ent.take (is := [1, 2, 3, 4, 5, 0, 6, 7]) rfl) (FT_open (γ := Value × Value × Value × Value) (I := fun g => i64ok rv155.1.Phase ∧ i64ok rv155.1.At ∧ i64ok rv155.1.Edge ∧ i64ok rv155.1.Steps ∧ i64ok rv155.2.1 ∧ i64ok rv155.2.2 ∧ (0 ≤ rv155.2.1 ∧ rv155.2.1 ≤ 8000000000) ∧ (rv155.1.Cone.length ≤ 256)) (V := fun g => .tuple #[.agg #[vi rv155.1.Phase, g.1, g.2.1, vi rv155.1.At, vi rv155.1.Edge, g.2.2.1, g.2.2.2, vi rv155.1.Steps], vi rv155.2.1, vi rv155.2.2]) (B := fun g => [sl g.1 rv155.1.Cone, sl g.2.1 rv155.1.Leaf, sl g.2.2.1 rv155.1.Values, sl g.2.2.2 rv155.1.Queue]) (R := sl (G.g 6 0) rv35.Cone) sl_slice (fun aq139 kq140 eq141 => by rw [eq141]; exact FT_ent (Ent.take (is := [1, 2, 3, 4, 0, 5, 6, 7]) rfl) (fn35 rv11.1.S a17 k18 a20 k21 a23 k24 rv11.1.K a26 k27 rv35 aq139 kq140 aq142 kq143 aq145 kq146 aq148 kq149 (((m % 30) + (n % 30))) pre pre pre pre pre pre pre rv155 hg156)))))))))) (Dg [] (fun G => .tuple #[.agg #[vi rv155.1.Phase, (G.g 14 0), (G.g 14 1), vi rv155.1.At, vi rv155.1.Edge, (G.g 14 2), (G.g 14 3), vi rv155.1.Steps], vi rv155.2.1, vi rv155.2.2]) (fun G => Vm) (Dg [] (fun G => .agg #[vi rv155.1.Phase, (G.g 14 0), (G.g 14 1), vi rv155.1.At, vi rv155.1.Edge, (G.g 14 2), (G.g 14 3), vi rv155.1.Steps]) (fun G => Vx) (Dv [] Vx (Dv [] Vx (Dx [] [] [0] (fun G => (G.g 19 0)) [fun G => Cl (G.g 19 0) [vi 0, .slice none 0 0, .slice none 0 0, vi 0, vi 0, .slice none 0 0, .slice none 0 0, vi 0]] (fun G => xA (Al ze59 [vi 0, .slice none 0 0, .slice none 0 0, vi 0, vi 0, .slice none 0 0, .slice none 0 0, vi 0])) (Dx0 [28, 29, 30, 31, 32] [32] [1, 2, 3, 4, 0] [fun G => Cl (G.g 19 0) [vi rv155.1.Phase, (G.g 14 0), (G.g 14 1), vi rv155.1.At, vi rv155.1.Edge, (G.g 14 2), (G.g 14 3), vi rv155.1.Steps]] (fun G => x1 0 rfl sl_one fun ho162 => (x1 1 rfl sl_one fun ho163 => (x1 2 rfl sl_one fun ho164 => (x1 3 rfl sl_one fun ho165 => (xS (Scl [4] sh59 [vi rv155.1.Phase, (G.g 14 0), (G.g 14 1), vi rv155.1.At, vi rv155.1.Edge, (G.g 14 2), (G.g 14 3), vi rv155.1.Steps] (v := .agg #[vi rv155.1.Phase, (G.g 14 0), (G.g 14 1), vi rv155.1.At, vi rv155.1.Edge, (G.g 14 2), (G.g 14 3), vi rv155.1.Steps]) (h1 := show [vi rv155.1.Phase, (G.g 14 0), (G.g 14 1), vi rv155.1.At, vi rv155.1.Edge, (G.g 14 2), (G.g 14 3), vi rv155.1.Steps].all (·.oneCell') = true from (by simp only [List.all_cons, List.all_nil, ho162, ho163, ho164, ho165, Bool.and_true, Bool.true_and] <;> rfl)))))))) (Dv [] Va (Dv [] Va ?_))))))))
 refine Dn ⟨by kernel_rfl, fun G => ?_⟩
 refine Jw2 [(9, vi rv53.2.1), (10, vi rv53.2.2), (11, p133), (12, vi rv108.2.1), (13, vi rv108.2.2), (14, (G.g 19 0)), (15, vi rv155.2.1), (16, vi rv155.2.2)] [0, 1, 2, 3, 4, 5, 6, 7, 8, 9, 10, 11, 12, 13, 14, 15, 16, 17, 18, 19, 20, 21] [SP.fact (i64ok rv35.Phase ∧ i64ok rv35.At ∧ i64ok rv35.Edge ∧ i64ok rv35.Steps), sl (G.g 6 0) rv35.Cone, sl (G.g 6 1) rv35.Leaf, sl (G.g 6 2) rv35.Values, sl (G.g 6 3) rv35.Queue, SP.fact (i64ok rv155.1.Phase ∧ i64ok rv155.1.At ∧ i64ok rv155.1.Edge ∧ i64ok rv155.1.Steps ∧ i64ok rv155.2.1 ∧ i64ok rv155.2.2 ∧ (0 ≤ rv155.2.1 ∧ rv155.2.1 ≤ 8000000000) ∧ (rv155.1.Cone.length ≤ 256)), sl (G.g 14 0) rv155.1.Cone, sl (G.g 14 1) rv155.1.Leaf, sl (G.g 14 2) rv155.1.Values, sl (G.g 14 3) rv155.1.Queue, Cl (G.g 19 0) [vi rv155.1.Phase, (G.g 14 0), (G.g 14 1), vi rv155.1.At, vi rv155.1.Edge, (G.g 14 2), (G.g 14 3), vi rv155.1.Steps]] ?_
 generalize G.g 6 0 = c135, G.g 6 1 = c136, G.g 6 2 = c137, G.g 6 3 = c138, G.g 14 0 = c151, G.g 14 1 = c152, G.g 14 2 = c153, G.g 14 3 = c154, G.g 19 0 = p161
 refine Jf 22 rfl ?_; rintro ⟨he166, he167, he168, he169⟩
 unfold i64ok at he166 he167 he168 he169
 refine Jf 27 rfl ?_; rintro ⟨he170, he171, he172, he173, he174, he175, he176, he177⟩
 unfold i64ok at he170 he171 he172 he173 he174 he175
 refine Jk [1, 1, 2, 3, 4, 5, 5, 6, 7, 8, 9, 9, 10, 11, 12, 13, 14, 15, 16, 17, 18, 19, 20, 21, 22, 24, 25, 26, 27, 28] ?_
 refine Jo 21 ?_; rintro a178 k179 rfl
 refine Jo 22 ?_; rintro a180 k181 rfl
 refine Jo 23 ?_; rintro a182 k183 rfl
 refine Jo 24 ?_; rintro a184 k185 rfl
 refine Jo 25 ?_; rintro a186 k187 rfl
 refine Fb 8 25 fun hl188 => ?_
 refine Fo 25 fun ho189 => ?_
 refine Jo 26 ?_; rintro a190 k191 rfl
 refine Fb 1 26 fun hl192 => ?_
 refine Jo 27 ?_; rintro a193 k194 rfl
 refine Fb 32 27 fun hl195 => ?_
 refine Jo 28 ?_; rintro a196 k197 rfl
 refine Fb 8 28 fun hl198 => ?_
 refine Fo 28 fun ho199 => ?_
 refine KS ?_
 refine Oq Vm (Oq Veql (Oq Vm ?_))
 refine Js 69 ?_ ?_
 · intro h200
   have g201 := eq_of_beq h200
   refine Oq Vm (Oq Veql (Oq Vpt (Oq Vm ?_)))
   refine Js 73 ?_ ?_
   · intro h202
     have g203 := eq_of_beq h202
     refine Oq Vm (Oq Veql (Oq Vpt (Oq Vm ?_)))
     refine Js 77 ?_ ?_
     · intro h204
       have g205 := eq_of_beq h204
       refine Oq Vm (Oq Vm (Oq Vm (Oq Vadd (Oq Veql (Oq Vpt (Oq Vm ?_))))))
       refine Js 84 ?_ ?_
       · intro h206
         have g207 := eq_of_beq h206
         refine Oq (VldA sh59 0) (Oq (VldA sh59 29) ?_)
         refine letv (flqref14_SameState rv108.1 rv155.1) fun rv208 hg209 => ?_
         have hc210 := fn36 rv108.1 a119 k120 a123 k124 a126 k127 a129 k130 rv155.1 a186 k187 a190 k191 a193 k194 a196 k197 pre pre pre pre pre pre pre pre rv208 hg209
         refine Oc [1, 2, 3, 4, 25, 26, 27, 28] ca36 hc210 ?_
         rintro - -
         refine Oq Vpt (Oq Vm ?_)
         refine Js 89 ?_ ?_
         · intro h211
           have hc213 := fn37  flqlaw15_sane rfl
           refine Oc [] ca37 hc213 ?_
           rintro - -
           refine Oq Vpt (Oq Va (KS ?_))
           have hq := q4 hrr flqlaw15_sane (by unfold flqlaw15_SolverSlices; simp only [h200, h202, h204, h206, h211, hg5, hg12, hg36, hg54, hg109, hg156, hg209, cs4]); subst hq
           exact Kr () rfl (.tmp rfl .nil) [] trivial
         intro h211
         refine Osk (Oq Vpf (Oq Va (KS ?_)))
         have hq := q4 hrr false (by unfold flqlaw15_SolverSlices; simp only [h200, h202, h204, h206, h211, hg5, hg12, hg36, hg54, hg109, hg156, hg209, cs4]); subst hq
         exact Kr () rfl (.tmp rfl .nil) [] trivial
       intro h206
       have g215 := ne_of_beq_false h206
       refine Osk (Osk (Osk (Oq Vpf (Oq Vm (Osk (Oq Vpf (Oq Va (KS ?_))))))))
       have hq := q4 hrr false (by unfold flqlaw15_SolverSlices; simp only [h200, h202, h204, h206, hg5, hg12, hg36, hg54, hg109, hg156, cs4]); subst hq
       exact Kr () rfl (.tmp rfl .nil) [] trivial
     intro h204
     have g216 := ne_of_beq_false h204
     refine Osk (Osk (Osk (Osk (Osk (Oq Vpf (Oq Vm (Osk (Osk (Osk ?_)))))))))
     refine Oq Vpf (Oq Vm (Osk (Oq Vpf (Oq Va (KS ?_)))))
     have hq := q4 hrr false (by unfold flqlaw15_SolverSlices; simp only [h200, h202, h204, hg5, hg12, hg36, hg54, hg109, hg156, cs4]); subst hq
     exact Kr () rfl (.tmp rfl .nil) [] trivial
   intro h202
   have g217 := ne_of_beq_false h202
   refine Osk (Osk (Oq Vpf (Oq Vm (Osk (Osk (Osk (Osk (Osk (Oq Vpf ?_)))))))))
   refine Oq Vm (Osk (Osk (Osk (Oq Vpf (Oq Vm (Osk (Oq Vpf (Oq Va (KS ?_)))))))))
   have hq := q4 hrr false (by unfold flqlaw15_SolverSlices; simp only [h200, h202, hg5, hg12, hg36, hg54, hg109, hg156, cs4]); subst hq
   exact Kr () rfl (.tmp rfl .nil) [] trivial
 intro h200
 have g218 := ne_of_beq_false h200
 refine Osk (Osk (Oq Vpf (Oq Vm (Osk (Osk (Oq Vpf (Oq Vm (Osk (Osk ?_)))))))))
 refine Osk (Osk (Osk (Oq Vpf (Oq Vm (Osk (Osk (Osk (Oq Vpf (Oq Vm ?_)))))))))
 refine Osk (Oq Vpf (Oq Va (KS ?_)))
 have hq := q4 hrr false (by unfold flqlaw15_SolverSlices; simp only [h200, hg5, hg12, hg36, hg54, hg109, hg156, cs4]); subst hq
 exact Kr () rfl (.tmp rfl .nil) [] trivial
end Go.SL.G
