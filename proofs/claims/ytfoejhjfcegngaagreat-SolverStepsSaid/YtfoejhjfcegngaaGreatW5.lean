/- Part 5 of the walks: mirrors, plain laws and walks used by the last text of this claim. -/
import Derived.Test.YtfoejhjfcegngaaGreatW4
import Derived.Test.YtfoejhjfcegngaaGreatProg
set_option linter.unusedVariables false
set_option linter.unusedSimpArgs false
namespace Go.SL.G
open Go Go.SL Go.Proofs
set_option maxHeartbeats 20000000
set_option maxRecDepth 100000
theorem fn37  (rr : Bool) (hrr : flqlaw15_sane = rr) : FT Tryz.prog 37 #[] [] (fun g : Unit => True) (fun g => vb rr) (fun g => []) := by
 refine FTi Tryz.func37 fun w0 M0 F0 => ?_
 refine KS ?_
 refine Oq Va (KS ?_)
 refine Oa (AsV sl23 sz23 [.slice none 0 0] [.slice none 0 0]) fun c1 => ?_
 refine Jo 0 ?_; rintro a2 k3 rfl
 refine letv (flqref1_Identity 1) fun rv7 hg8 => ?_
 have hc9 := fn96 1 pre pre rv7 hg8
 refine Oc [] ca96 hc9 ?_
 rintro ⟨c4, c5, c6⟩ ⟨he10, he11⟩
 unfold i64ok at he10 he11
 refine Jo 0 ?_; rintro a12 k13 rfl
 refine Fb 8 0 fun _ => ?_
 refine Jo 1 ?_; rintro a15 k16 rfl
 refine Fb 8 1 fun _ => ?_
 refine Jo 2 ?_; rintro a18 k19 rfl
 refine Fb 16 2 fun _ => Oa (AsV sl24 sz24 [.agg #[vi rv7.Gen.Width, vl a12 k13 rv7.Gen.Words, vi rv7.Kill.Width, vl a15 k16 rv7.Kill.Words, vl a18 k19 rv7.Copies]] [vi rv7.Gen.Width, vl a12 k13 rv7.Gen.Words, vi rv7.Kill.Width, vl a15 k16 rv7.Kill.Words, vl a18 k19 rv7.Copies]) fun c21 => ?_
 refine Jo 0 ?_; rintro a22 k23 rfl
 refine letv (flqref1_Full 1) fun rv25 hg26 => ?_
 have hc27 := fn97 1 pre pre rv25 hg26
 refine Oc [] ca97 hc27 ?_
 rintro c24 he28
 unfold i64ok at he28
 refine Jo 0 ?_; rintro a29 k30 rfl
 refine Fb 8 0 fun _ => Oa (AsV sl25 sz25 [.agg #[vi rv25.Width, vl a29 k30 rv25.Words]] [vi rv25.Width, vl a29 k30 rv25.Words]) fun c32 => ?_
 refine Jo 0 ?_; rintro a33 k34 rfl
 refine Oq (Vbd st27 [vi 1, .slice a2 1 k3, .slice a22 1 k23, .slice a33 1 k34]) (Oa (Al ze27 [vi 0, .slice none 0 0, .slice none 0 0, .slice none 0 0]) fun p35 => Ost (Scl [0] sh27 [vi 1, .slice a2 1 k3, .slice a22 1 k23, .slice a33 1 k34]) (KS ?_))
 refine JK_drawK [0, 0, 3, 7, 15, 15, 15, 0, 159, 447, 1023] fmix ?_
 refine Dv [0] (VldA sh27 0) ?_
 refine letv (solver_Start 0) fun rv40 hg41 => Dx [] [] [0, 1, 2, 3, 4] (fun G => .agg #[vi rv40.Phase, (G.g 1 0), (G.g 1 1), vi rv40.At, vi rv40.Edge, (G.g 1 2), (G.g 1 3), vi rv40.Steps]) [fun G => SP.fact (i64ok rv40.Phase ∧ i64ok rv40.At ∧ i64ok rv40.Edge ∧ i64ok rv40.Steps), fun G => sl (G.g 1 0) rv40.Cone, fun G => sl (G.g 1 1) rv40.Leaf, fun G => sl (G.g 1 2) rv40.Values, fun G => sl (G.g 1 3) rv40.Queue] (fun G => xC [] ca38 (fn38 0 pre rv40 hg41)) ?_
 refine letv (solver_Step (GSystem.mk 1 [([] : List Int)] [rv7] [rv25]) [] rv40) fun rv58 hg59 => ?_
 refine Dx [1, 2, 3, 4, 5, 6, 7, 8, 9, 10, 11, 12] [1, 3, 7] [7, 9, 10, 11, 17, 18, 19, 20, 21, 12, 8, 6, 5, 0, 1, 2, 3, 4] (fun G => .tuple #[.agg #[vi rv58.1.Phase, (G.g 2 0), (G.g 2 1), vi rv58.1.At, vi rv58.1.Edge, (G.g 2 2), (G.g 2 3), vi rv58.1.Steps], vi rv58.2.1, vi rv58.2.2]) [fun G => sl (.slice a2 1 k3) ([([] : List Int)] : List (List Int)), fun G => sl (.slice a22 1 k23) ([rv7] : List GTransfer), fun G => sl (.slice a33 1 k34) ([rv25] : List GSet), fun G => sl (.slice none 0 0) ([] : List GKnown), fun G => SP.fact (i64ok rv58.1.Phase ∧ i64ok rv58.1.At ∧ i64ok rv58.1.Edge ∧ i64ok rv58.1.Steps ∧ i64ok rv58.2.1 ∧ i64ok rv58.2.2), fun G => sl (G.g 2 0) rv58.1.Cone, fun G => sl (G.g 2 1) rv58.1.Leaf, fun G => sl (G.g 2 2) rv58.1.Values, fun G => sl (G.g 2 3) rv58.1.Queue] (fun G => by refine xf 7 rfl ?_; rintro ⟨he60, he61, he62, he63⟩; unfold i64ok at he60 he61 he62 he63; exact xp [6] rfl (Ent.cr1 (α := List Int) (A := []) _ [] _ (Nat.le_of_ble_eq_true rfl) (fun _ => ⟨_, rfl, slrd_nil⟩)) (xp [0] rfl (Ent.freeze _ _) (xp [3, 3, 4, 5] rfl (Ent.cr1 (α := GTransfer) (A := [S a12 k13 rv7.Gen.Words, S a15 k16 rv7.Kill.Words, S a18 k19 rv7.Copies]) _ rv7 _ (Nat.le_of_ble_eq_true rfl) (fun h => ⟨_, _, _, rfl, (by unfold i64ok; first | omega | (dsimp only; omega)), sepAll_get (i := 0) rfl h, (by unfold i64ok; first | omega | (dsimp only; omega)), sepAll_get (i := 1) rfl h, sepAll_get (i := 2) rfl h⟩)) (xp [0] rfl (Ent.freeze _ _) (xp [5, 5] rfl (Ent.cr1 (α := GSet) (A := [S a29 k30 rv25.Words]) _ rv25 _ (Nat.le_of_ble_eq_true rfl) (fun h => ⟨_, rfl, (by unfold i64ok; first | omega | (dsimp only; omega)), sepAll_get (i := 0) rfl h⟩)) (xp [0] rfl (Ent.freeze _ _) (xp [] rfl (Ent.slNil (α := GKnown)) (xD [16, 15, 14, 13, 7, 3, 1, 0] ca41 rfl rfl rfl (FT_open (γ := Value × Value × Value × Value) (I := fun g => i64ok rv58.1.Phase ∧ i64ok rv58.1.At ∧ i64ok rv58.1.Edge ∧ i64ok rv58.1.Steps ∧ i64ok rv58.2.1 ∧ i64ok rv58.2.2) (V := fun g => .tuple #[.agg #[vi rv58.1.Phase, g.1, g.2.1, vi rv58.1.At, vi rv58.1.Edge, g.2.2.1, g.2.2.2, vi rv58.1.Steps], vi rv58.2.1, vi rv58.2.2]) (B := fun g => [sl g.1 rv58.1.Cone, sl g.2.1 rv58.1.Leaf, sl g.2.2.1 rv58.1.Values, sl g.2.2.2 rv58.1.Queue]) (R := sl (G.g 1 3) rv40.Queue) sl_slice (fun aq51 kq52 eq53 => by rw [eq53]; exact FT_ent (Ent.take (is := [1, 2, 3, 4, 5, 6, 7, 0]) rfl) (FT_open (γ := Value × Value × Value × Value) (I := fun g => i64ok rv58.1.Phase ∧ i64ok rv58.1.At ∧ i64ok rv58.1.Edge ∧ i64ok rv58.1.Steps ∧ i64ok rv58.2.1 ∧ i64ok rv58.2.2) (V := fun g => .tuple #[.agg #[vi rv58.1.Phase, g.1, g.2.1, vi rv58.1.At, vi rv58.1.Edge, g.2.2.1, g.2.2.2, vi rv58.1.Steps], vi rv58.2.1, vi rv58.2.2]) (B := fun g => [sl g.1 rv58.1.Cone, sl g.2.1 rv58.1.Leaf, sl g.2.2.1 rv58.1.Values, sl g.2.2.2 rv58.1.Queue]) (R := sl (G.g 1 2) rv40.Values) sl_slice (fun aq48 kq49 eq50 => by rw [eq50]; exact FT_ent (Ent.take (is := [1, 2, 3, 4, 5, 6, 0, 7]) rfl) (FT_open (γ := Value × Value × Value × Value) (I := fun g => i64ok rv58.1.Phase ∧ i64ok rv58.1.At ∧ i64ok rv58.1.Edge ∧ i64ok rv58.1.Steps ∧ i64ok rv58.2.1 ∧ i64ok rv58.2.2) (V := fun g => .tuple #[.agg #[vi rv58.1.Phase, g.1, g.2.1, vi rv58.1.At, vi rv58.1.Edge, g.2.2.1, g.2.2.2, vi rv58.1.Steps], vi rv58.2.1, vi rv58.2.2]) (B := fun g => [sl g.1 rv58.1.Cone, sl g.2.1 rv58.1.Leaf, sl g.2.2.1 rv58.1.Values, sl g.2.2.2 rv58.1.Queue]) (R := sl (G.g 1 1) rv40.Leaf) sl_slice (fun aq45 kq46 eq47 => by rw [eq47]; exact FT_ent (Ent.take (is := [1, 2, 3, 4, 5, 0, 6, 7]) rfl) (FT_open (γ := Value × Value × Value × Value) (I := fun g => i64ok rv58.1.Phase ∧ i64ok rv58.1.At ∧ i64ok rv58.1.Edge ∧ i64ok rv58.1.Steps ∧ i64ok rv58.2.1 ∧ i64ok rv58.2.2) (V := fun g => .tuple #[.agg #[vi rv58.1.Phase, g.1, g.2.1, vi rv58.1.At, vi rv58.1.Edge, g.2.2.1, g.2.2.2, vi rv58.1.Steps], vi rv58.2.1, vi rv58.2.2]) (B := fun g => [sl g.1 rv58.1.Cone, sl g.2.1 rv58.1.Leaf, sl g.2.2.1 rv58.1.Values, sl g.2.2.2 rv58.1.Queue]) (R := sl (G.g 1 0) rv40.Cone) sl_slice (fun aq42 kq43 eq44 => by rw [eq44]; exact FT_ent (Ent.take (is := [1, 2, 3, 4, 0, 5, 6, 7]) rfl) (fn41 ((GSystem.mk 1 [([] : List Int)] [rv7] [rv25])) a2 k3 a22 k23 a33 k34 ([]) none 0 rv40 aq42 kq43 aq45 kq46 aq48 kq49 aq51 kq52 pre pre pre pre pre rv58 hg59))))))))))))))))) (Dg [] (fun G => .tuple #[.agg #[vi rv58.1.Phase, (G.g 2 0), (G.g 2 1), vi rv58.1.At, vi rv58.1.Edge, (G.g 2 2), (G.g 2 3), vi rv58.1.Steps], vi rv58.2.1, vi rv58.2.2]) (fun G => Vm) (Dg [] (fun G => .agg #[vi rv58.1.Phase, (G.g 2 0), (G.g 2 1), vi rv58.1.At, vi rv58.1.Edge, (G.g 2 2), (G.g 2 3), vi rv58.1.Steps]) (fun G => Vx) (Dv [] Vx (Dv [] Vx (Dx [] [] [0] (fun G => (G.g 7 0)) [fun G => Cl (G.g 7 0) [vi 0, .slice none 0 0, .slice none 0 0, vi 0, vi 0, .slice none 0 0, .slice none 0 0, vi 0]] (fun G => xA (Al ze59 [vi 0, .slice none 0 0, .slice none 0 0, vi 0, vi 0, .slice none 0 0, .slice none 0 0, vi 0])) (Dx0 [18, 19, 20, 21, 22] [22] [1, 2, 3, 4, 0] [fun G => Cl (G.g 7 0) [vi rv58.1.Phase, (G.g 2 0), (G.g 2 1), vi rv58.1.At, vi rv58.1.Edge, (G.g 2 2), (G.g 2 3), vi rv58.1.Steps]] (fun G => x1 0 rfl sl_one fun ho65 => (x1 1 rfl sl_one fun ho66 => (x1 2 rfl sl_one fun ho67 => (x1 3 rfl sl_one fun ho68 => (xS (Scl [4] sh59 [vi rv58.1.Phase, (G.g 2 0), (G.g 2 1), vi rv58.1.At, vi rv58.1.Edge, (G.g 2 2), (G.g 2 3), vi rv58.1.Steps] (v := .agg #[vi rv58.1.Phase, (G.g 2 0), (G.g 2 1), vi rv58.1.At, vi rv58.1.Edge, (G.g 2 2), (G.g 2 3), vi rv58.1.Steps]) (h1 := show [vi rv58.1.Phase, (G.g 2 0), (G.g 2 1), vi rv58.1.At, vi rv58.1.Edge, (G.g 2 2), (G.g 2 3), vi rv58.1.Steps].all (·.oneCell') = true from (by simp only [List.all_cons, List.all_nil, ho65, ho66, ho67, ho68, Bool.and_true, Bool.true_and] <;> rfl)))))))) (Dv [] Va (Dv [] Va ?_))))))))
 refine Dn ⟨by kernel_rfl, fun G => ?_⟩
 refine Jw2 [(1, p35), (2, (G.g 7 0)), (3, vi rv58.2.1), (4, vi rv58.2.2)] [0, 2, 4, 5, 6] [SP.fact (i64ok rv40.Phase ∧ i64ok rv40.At ∧ i64ok rv40.Edge ∧ i64ok rv40.Steps), sl (G.g 1 0) rv40.Cone, sl (G.g 1 1) rv40.Leaf, sl (G.g 1 2) rv40.Values, sl (G.g 1 3) rv40.Queue, sl (.slice a2 1 k3) ([([] : List Int)] : List (List Int)), sl (.slice a22 1 k23) ([rv7] : List GTransfer), sl (.slice a33 1 k34) ([rv25] : List GSet), sl (.slice none 0 0) ([] : List GKnown), SP.fact (i64ok rv58.1.Phase ∧ i64ok rv58.1.At ∧ i64ok rv58.1.Edge ∧ i64ok rv58.1.Steps ∧ i64ok rv58.2.1 ∧ i64ok rv58.2.2), sl (G.g 2 0) rv58.1.Cone, sl (G.g 2 1) rv58.1.Leaf, sl (G.g 2 2) rv58.1.Values, sl (G.g 2 3) rv58.1.Queue, Cl (G.g 7 0) [vi rv58.1.Phase, (G.g 2 0), (G.g 2 1), vi rv58.1.At, vi rv58.1.Edge, (G.g 2 2), (G.g 2 3), vi rv58.1.Steps]] ?_
 generalize G.g 1 0 = c36, G.g 1 1 = c37, G.g 1 2 = c38, G.g 1 3 = c39, G.g 2 0 = c54, G.g 2 1 = c55, G.g 2 2 = c56, G.g 2 3 = c57, G.g 7 0 = p64
 refine Jf 5 rfl ?_; rintro ⟨he69, he70, he71, he72⟩
 unfold i64ok at he69 he70 he71 he72
 refine Jf 14 rfl ?_; rintro ⟨he73, he74, he75, he76, he77, he78⟩
 unfold i64ok at he73 he74 he75 he76 he77 he78
 refine Jk [0, 0, 1, 2, 3, 5, 6, 7, 8, 9, 10, 11, 12, 14, 15, 16, 17, 18] ?_
 refine Jo 5 ?_; rintro a79 k80 rfl
 refine Fb 8 5 fun _ => Fo 5 fun ho82 => ?_
 refine Jo 6 ?_; rintro a83 k84 rfl
 refine Fb 1 6 fun _ => ?_
 refine Jo 7 ?_; rintro a86 k87 rfl
 refine Fb 32 7 fun _ => ?_
 refine Jo 8 ?_; rintro a89 k90 rfl
 refine Fb 8 8 fun _ => Fo 8 fun ho92 => ?_
 refine Jo 13 ?_; rintro a93 k94 rfl
 refine Fb 8 13 fun _ => Fo 13 fun ho96 => ?_
 refine Jo 14 ?_; rintro a97 k98 rfl
 refine Fb 1 14 fun _ => ?_
 refine Jo 15 ?_; rintro a100 k101 rfl
 refine Fb 32 15 fun _ => ?_
 refine Jo 16 ?_; rintro a103 k104 rfl
 refine Fb 8 16 fun _ => Fo 16 fun ho106 => KS ?_
 refine Oq (VldA sh27 0) (Oq (VldA sh59 17) ?_)
 refine Fl 9 fun hn107 => ?_; try unfold vl; rw [← hn107]
 refine Fl 10 fun hn108 => ?_; try unfold vl; rw [← hn108]
 refine Fl 11 fun hn109 => ?_; try unfold vl; rw [← hn109]
 refine letv (solver_Step (GSystem.mk 1 [([] : List Int)] [rv7] [rv25]) [] rv58.1) fun rv114 hg115 => ?_
 have hc116 := fn41 ((GSystem.mk 1 [([] : List Int)] [rv7] [rv25])) a2 k3 a22 k23 a33 k34 ([]) none 0 rv58.1 a93 k94 a97 k98 a100 k101 a103 k104 pre pre pre pre pre rv114 hg115
 refine Oc [9, 10, 11, 12, 13, 14, 15, 16] ca41 hc116 ?_
 rintro ⟨c110, c111, c112, c113⟩ ⟨he117, he118, he119, he120, he121, he122⟩
 unfold i64ok at he117 he118 he119 he120 he121 he122
 refine Jo 0 ?_; rintro a123 k124 rfl
 refine Fb 8 0 fun _ => Fo 0 fun ho126 => ?_
 refine Jo 1 ?_; rintro a127 k128 rfl
 refine Fb 1 1 fun _ => ?_
 refine Jo 2 ?_; rintro a130 k131 rfl
 refine Fb 32 2 fun _ => ?_
 refine Jo 3 ?_; rintro a133 k134 rfl
 refine Fb 8 3 fun _ => Fo 3 fun ho136 => ?_
 refine Oq Vm (Oq Vx (Oq Vx (Oq Vx (Oa (Al ze59 [vi 0, .slice none 0 0, .slice none 0 0, vi 0, vi 0, .slice none 0 0, .slice none 0 0, vi 0]) fun p137 => Ost (Scl [0] sh59 [vi rv114.1.Phase, vl a123 k124 rv114.1.Cone, vl a127 k128 rv114.1.Leaf, vi rv114.1.At, vi rv114.1.Edge, vl a130 k131 rv114.1.Values, vl a133 k134 rv114.1.Queue, vi rv114.1.Steps]) (Oq Va (Oq Va (KS ?_)))))))
 refine Oq (VldA sh59 0) ?_
 refine letv (solver_Answer rv114.1) fun rv139 hg140 => ?_
 have hc141 := fn44 rv114.1 a123 k124 a127 k128 a130 k131 a133 k134 pre pre pre pre rv139 hg140
 refine Oc [1, 2, 3, 4] ca44 hc141 ?_
 rintro c138 he142
 unfold i64ok at he142
 refine Jo 0 ?_; rintro a143 k144 rfl
 refine Fb 8 0 fun _ => ?_
 refine Oq Vm (Oq Vx (Oq Vx (Oa (Al ze42 [vi 0, .slice none 0 0]) fun p146 => Ost (Scl [0] sh42 [vi rv139.1.Width, vl a143 k144 rv139.1.Words]) (Oq Va (KS ?_)))))
 refine Oq (VldA sh27 7) (Oq (VldA sh59 2) ?_)
 refine letv (solver_Step (GSystem.mk 1 [([] : List Int)] [rv7] [rv25]) [] rv114.1) fun rv151 hg152 => ?_
 have hc153 := fn41 ((GSystem.mk 1 [([] : List Int)] [rv7] [rv25])) a2 k3 a22 k23 a33 k34 ([]) none 0 rv114.1 a123 k124 a127 k128 a130 k131 a133 k134 pre pre pre pre pre rv151 hg152
 refine Oc [16, 17, 18, 19, 3, 4, 5, 6] ca41 hc153 ?_
 rintro ⟨c147, c148, c149, c150⟩ ⟨he154, he155, he156, he157, he158, he159⟩
 unfold i64ok at he154 he155 he156 he157 he158 he159
 refine Jo 0 ?_; rintro a160 k161 rfl
 refine Fb 8 0 fun _ => Fo 0 fun ho163 => ?_
 refine Jo 1 ?_; rintro a164 k165 rfl
 refine Fb 1 1 fun _ => ?_
 refine Jo 2 ?_; rintro a167 k168 rfl
 refine Fb 32 2 fun _ => ?_
 refine Jo 3 ?_; rintro a170 k171 rfl
 refine Fb 8 3 fun _ => Fo 3 fun ho173 => ?_
 refine Oq Vm (Oq Vx (Oq Vx (Oq Vx (Oa (Al ze59 [vi 0, .slice none 0 0, .slice none 0 0, vi 0, vi 0, .slice none 0 0, .slice none 0 0, vi 0]) fun p174 => Ost (Scl [0] sh59 [vi rv151.1.Phase, vl a160 k161 rv151.1.Cone, vl a164 k165 rv151.1.Leaf, vi rv151.1.At, vi rv151.1.Edge, vl a167 k168 rv151.1.Values, vl a170 k171 rv151.1.Queue, vi rv151.1.Steps]) (Oq Va (Oq Va (KS ?_)))))))
 refine Jp 29 fun hp175 => ?_
 refine Jp 8 fun hp176 => ?_
 refine JK_drawK [0, 1, 3, 7, 15, 31, 63, 127, 255, 511, 1023, 2047, 4095, 8191, 16383, 32767, 65535, 131071, 262143, 524287, 1048575, 2097151, 4194303, 8388607, 16777215, 33554431, 67108863, 134217727, 268435455, 268435455, 1073741823, 2147483647, 4294967295, 8589934591, 17179869183, 34359738367, 68719476735] fmix ?_
 refine Dv [] Vm (Dv [] Veql ?_)
 refine bool_split (rv58.2.2 == 0) ?_ ?_
 ·intro h177
  have g178 := eq_of_beq h177
  refine Db h177 [] Vm (Dv [] Vm (Dv [] Veql (Dv [] Vpt ?_)))
  refine bool_split (rv114.2.2 == 0) ?_ ?_
  ·intro h179
   have g180 := eq_of_beq h179
   refine Db h179 [] Vm (Dv [] Vm (Dv [] Veql (Dv [] Vpt ?_)))
   refine bool_split (rv58.2.1 == 1) ?_ ?_
   ·intro h181
    have g182 := eq_of_beq h181
    refine Db h181 [] Vm (Dv [] Vm (Dv [] Veql (Dv [] Vpt ?_)))
    refine bool_split (rv114.2.1 == 1) ?_ ?_
    ·intro h183
     have g184 := eq_of_beq h183
     refine Db h183 [] Vm (Dv [1] (Vfa fo59_0 0) (Dv [31] (VldF sh3 0) (Dv [] Veql (Dv [] Vpt ?_))))
     refine bool_split (rv58.1.Phase == 2) ?_ ?_
     ·intro h185
      have g186 := eq_of_beq h185
      refine Db h185 [] Vm (Dv [0] (Vfa fo59_0 0) (Dv [9] (VldF sh3 0) (Dv [] Veql (Dv [] Vpt ?_))))
      refine bool_split (rv114.1.Phase == 3) ?_ ?_
      ·intro h187
       have g188 := eq_of_beq h187
       refine Db h187 [] Vm (Dv [] Vm (Dv [] Vpt ?_))
       refine bool_split rv139.2 ?_ ?_
       ·intro h189
        refine Db h189 [] Vm (Dv [7] (VldA sh42 0) (Dx [] [] [0, 1] (fun G => .agg #[vi rv25.Width, (G.g 29 0)]) [fun G => SP.fact (i64ok rv25.Width), fun G => sl (G.g 29 0) rv25.Words] (fun G => xC [] ca97 (fn97 1 pre pre rv25 hg26)) ?_))
        refine letv (flqref1_Same rv139.1 rv25) fun rv195 hg196 => ?_
        refine Dx [8, 32, 33] [] [1, 2, 3, 0] (fun G => vb rv195) [fun G => SP.fact (True)] (fun G => by refine xf 1 rfl ?_; rintro he197; unfold i64ok at he197; exact xD [2, 0] ca45 rfl rfl rfl (FT_open (γ := Unit) (I := fun g => True) (V := fun g => vb rv195) (B := fun g => []) (R := sl (G.g 29 0) rv25.Words) sl_slice (fun aq192 kq193 eq194 => by rw [eq194]; exact FT_ent (Ent.take (is := [1, 0]) rfl) (fn45 rv139.1 a143 k144 rv25 aq192 kq193 pre pre rv195 hg196)))) (Dv [] Vpt ?_)
        refine bool_split rv195 ?_ ?_
        ·intro h198
         refine Db h198 [] Vm (Dv [] Vm (Dv [] Veql (Dv [] Vpt (Dv [] Va ?_))))
         refine Dn ⟨by kernel_rfl, fun G => ?_⟩
         refine Jw2 [(0, vb (rv151.2.2 == 10))] [0, 1, 2, 3, 4, 5, 6, 7, 8, 9, 10, 11, 12, 13, 14, 15, 16, 17, 18, 19, 20, 21, 22, 23, 24, 25, 26, 27, 28, 29, 30, 31] [SP.fact (i64ok rv25.Width), sl (G.g 29 0) rv25.Words, SP.fact (True)] ?_
         generalize G.g 29 0 = c191
         refine Jf 32 rfl ?_; rintro he200
         unfold i64ok at he200
         refine Jk [2, 2, 3, 4, 5, 6, 6, 7, 7, 8, 9, 10, 11, 11, 12, 13, 14, 15, 16, 17, 18, 19, 20, 21, 22, 23, 24, 25, 26, 27, 28] ?_
         refine Jo 30 ?_; rintro a201 k202 rfl
         have hq := q4 hrr (rv151.2.2 == 10) (by simp only [flqlaw15_sane, h177, h179, h181, h183, h185, h187, h189, h198, hg8, hg26, hg41, hg59, hg115, hg140, hg152, hg196, cs4]); subst hq
         exact Kr () rfl (.tmp rfl .nil) [] trivial
        intro h198
        refine Db h198 [] Vm (Ds (Ds (Dv [] Vpf (Dv [] Va ?_))))
        refine Dn ⟨by kernel_rfl, fun G => ?_⟩
        refine Jw2 [(0, vb false)] [0, 1, 2, 3, 4, 5, 6, 7, 8, 9, 10, 11, 12, 13, 14, 15, 16, 17, 18, 19, 20, 21, 22, 23, 24, 25, 26, 27, 28, 29, 30, 31] [SP.fact (i64ok rv25.Width), sl (G.g 29 0) rv25.Words, SP.fact (True)] ?_
        generalize G.g 29 0 = c191
        refine Jf 32 rfl ?_; rintro he204
        unfold i64ok at he204
        refine Jk [2, 2, 3, 4, 5, 6, 6, 7, 7, 8, 9, 10, 11, 11, 12, 13, 14, 15, 16, 17, 18, 19, 20, 21, 22, 23, 24, 25, 26, 27, 28] ?_
        refine Jo 30 ?_; rintro a205 k206 rfl
        have hq := q4 hrr false (by simp only [flqlaw15_sane, h177, h179, h181, h183, h185, h187, h189, h198, hg8, hg26, hg41, hg59, hg115, hg140, hg152, hg196, cs4]); subst hq
        exact Kr () rfl (.tmp rfl .nil) [] trivial
       intro h189
       refine Db h189 [] Vm (Ds (Ds (Ds (Dv [] Vpf (Dv [] Vm (Ds (Ds (Dv [] Vpf (Dv [] Va ?_)))))))))
       refine Dn ⟨by kernel_rfl, fun G => ?_⟩
       refine Jw2 [(0, vb false)] [0, 1, 2, 3, 4, 5, 6, 7, 8, 9, 10, 11, 12, 13, 14, 15, 16, 17, 18, 19, 20, 21, 22, 23, 24, 25, 26, 27, 28, 29, 30, 31] [] ?_
       refine Jk [2, 2, 3, 4, 5, 6, 6, 7, 7, 8, 9, 10, 11, 11, 12, 13, 14, 15, 16, 17, 18, 19, 20, 21, 22, 23, 24, 25, 26, 27] ?_
       have hq := q4 hrr false (by simp only [flqlaw15_sane, h177, h179, h181, h183, h185, h187, h189, hg8, hg26, hg41, hg59, hg115, hg140, hg152, cs4]); subst hq
       exact Kr () rfl (.tmp rfl .nil) [] trivial
      intro h187
      have g208 := ne_of_beq_false h187
      refine Db h187 [] Vm (Ds (Dv [] Vpf (Dv [] Vm (Ds (Ds (Ds (Dv [] Vpf (Dv [] Vm (Ds ?_)))))))))
      refine Ds (Dv [] Vpf (Dv [] Va ?_))
      refine Dn ⟨by kernel_rfl, fun G => ?_⟩
      refine Jw2 [(0, vb false)] [0, 1, 2, 3, 4, 5, 6, 7, 8, 9, 10, 11, 12, 13, 14, 15, 16, 17, 18, 19, 20, 21, 22, 23, 24, 25, 26, 27, 28, 29, 30, 31] [] ?_
      refine Jk [2, 2, 3, 4, 5, 6, 6, 7, 7, 8, 9, 10, 11, 11, 12, 13, 14, 15, 16, 17, 18, 19, 20, 21, 22, 23, 24, 25, 26, 27] ?_
      have hq := q4 hrr false (by simp only [flqlaw15_sane, h177, h179, h181, h183, h185, h187, hg8, hg26, hg41, hg59, hg115, hg140, hg152, cs4]); subst hq
      exact Kr () rfl (.tmp rfl .nil) [] trivial
     intro h185
     have g209 := ne_of_beq_false h185
     refine Db h185 [] Vm (Ds (Ds (Ds (Dv [] Vpf (Dv [] Vm (Ds (Dv [] Vpf (Dv [] Vm (Ds ?_)))))))))
     refine Ds (Ds (Dv [] Vpf (Dv [] Vm (Ds (Ds (Dv [] Vpf (Dv [] Va ?_)))))))
     refine Dn ⟨by kernel_rfl, fun G => ?_⟩
     refine Jw2 [(0, vb false)] [0, 1, 2, 3, 4, 5, 6, 7, 8, 9, 10, 11, 12, 13, 14, 15, 16, 17, 18, 19, 20, 21, 22, 23, 24, 25, 26, 27, 28, 29, 30, 31] [] ?_
     refine Jk [2, 2, 3, 4, 5, 6, 6, 7, 7, 8, 9, 10, 11, 11, 12, 13, 14, 15, 16, 17, 18, 19, 20, 21, 22, 23, 24, 25, 26, 27] ?_
     have hq := q4 hrr false (by simp only [flqlaw15_sane, h177, h179, h181, h183, h185, hg8, hg26, hg41, hg59, hg115, hg140, hg152, cs4]); subst hq
     exact Kr () rfl (.tmp rfl .nil) [] trivial
    intro h183
    have g210 := ne_of_beq_false h183
    refine Db h183 [] Vm (Ds (Ds (Ds (Dv [] Vpf (Dv [] Vm (Ds (Ds (Ds (Dv [] Vpf ?_)))))))))
    refine Dv [] Vm (Ds (Dv [] Vpf (Dv [] Vm (Ds (Ds (Ds (Dv [] Vpf (Dv [] Vm (Ds ?_)))))))))
    refine Ds (Dv [] Vpf (Dv [] Va ?_))
    refine Dn ⟨by kernel_rfl, fun G => ?_⟩
    refine Jw2 [(0, vb false)] [0, 1, 2, 3, 4, 5, 6, 7, 8, 9, 10, 11, 12, 13, 14, 15, 16, 17, 18, 19, 20, 21, 22, 23, 24, 25, 26, 27, 28, 29, 30, 31] [] ?_
    refine Jk [2, 2, 3, 4, 5, 6, 6, 7, 7, 8, 9, 10, 11, 11, 12, 13, 14, 15, 16, 17, 18, 19, 20, 21, 22, 23, 24, 25, 26, 27] ?_
    have hq := q4 hrr false (by simp only [flqlaw15_sane, h177, h179, h181, h183, hg8, hg26, hg41, hg59, hg115, hg140, hg152, cs4]); subst hq
    exact Kr () rfl (.tmp rfl .nil) [] trivial
   intro h181
   have g211 := ne_of_beq_false h181
   refine Db h181 [] Vm (Ds (Ds (Dv [] Vpf (Dv [] Vm (Ds (Ds (Ds (Dv [] Vpf (Dv [] Vm ?_)))))))))
   refine Ds (Ds (Ds (Dv [] Vpf (Dv [] Vm (Ds (Dv [] Vpf (Dv [] Vm (Ds (Ds ?_)))))))))
   refine Ds (Dv [] Vpf (Dv [] Vm (Ds (Ds (Dv [] Vpf (Dv [] Va ?_))))))
   refine Dn ⟨by kernel_rfl, fun G => ?_⟩
   refine Jw2 [(0, vb false)] [0, 1, 2, 3, 4, 5, 6, 7, 8, 9, 10, 11, 12, 13, 14, 15, 16, 17, 18, 19, 20, 21, 22, 23, 24, 25, 26, 27, 28, 29, 30, 31] [] ?_
   refine Jk [2, 2, 3, 4, 5, 6, 6, 7, 7, 8, 9, 10, 11, 11, 12, 13, 14, 15, 16, 17, 18, 19, 20, 21, 22, 23, 24, 25, 26, 27] ?_
   have hq := q4 hrr false (by simp only [flqlaw15_sane, h177, h179, h181, hg8, hg26, hg41, hg59, hg115, hg140, hg152, cs4]); subst hq
   exact Kr () rfl (.tmp rfl .nil) [] trivial
  intro h179
  have g212 := ne_of_beq_false h179
  refine Db h179 [] Vm (Ds (Ds (Dv [] Vpf (Dv [] Vm (Ds (Ds (Dv [] Vpf (Dv [] Vm (Ds ?_)))))))))
  refine Ds (Ds (Dv [] Vpf (Dv [] Vm (Ds (Ds (Ds (Dv [] Vpf (Dv [] Vm (Ds ?_)))))))))
  refine Dv [] Vpf (Dv [] Vm (Ds (Ds (Ds (Dv [] Vpf (Dv [] Vm (Ds (Ds (Dv [] Vpf ?_)))))))))
  refine Dv [] Va ?_
  refine Dn ⟨by kernel_rfl, fun G => ?_⟩
  refine Jw2 [(0, vb false)] [0, 1, 2, 3, 4, 5, 6, 7, 8, 9, 10, 11, 12, 13, 14, 15, 16, 17, 18, 19, 20, 21, 22, 23, 24, 25, 26, 27, 28, 29, 30, 31] [] ?_
  refine Jk [2, 2, 3, 4, 5, 6, 6, 7, 7, 8, 9, 10, 11, 11, 12, 13, 14, 15, 16, 17, 18, 19, 20, 21, 22, 23, 24, 25, 26, 27] ?_
  have hq := q4 hrr false (by simp only [flqlaw15_sane, h177, h179, hg8, hg26, hg41, hg59, hg115, hg140, hg152, cs4]); subst hq
  exact Kr () rfl (.tmp rfl .nil) [] trivial
 intro h177
 have g213 := ne_of_beq_false h177
 refine Db h177 [] Vm (Ds (Ds (Dv [] Vpf (Dv [] Vm (Ds (Ds (Dv [] Vpf (Dv [] Vm (Ds ?_)))))))))
 refine Ds (Dv [] Vpf (Dv [] Vm (Ds (Ds (Ds (Dv [] Vpf (Dv [] Vm (Ds (Ds ?_)))))))))
 refine Ds (Dv [] Vpf (Dv [] Vm (Ds (Dv [] Vpf (Dv [] Vm (Ds (Ds (Ds (Dv [] Vpf ?_)))))))))
 refine Dv [] Vm (Ds (Ds (Dv [] Vpf (Dv [] Va ?_))))
 refine Dn ⟨by kernel_rfl, fun G => ?_⟩
 refine Jw2 [(0, vb false)] [0, 1, 2, 3, 4, 5, 6, 7, 8, 9, 10, 11, 12, 13, 14, 15, 16, 17, 18, 19, 20, 21, 22, 23, 24, 25, 26, 27, 28, 29, 30, 31] [] ?_
 refine Jk [2, 2, 3, 4, 5, 6, 6, 7, 7, 8, 9, 10, 11, 11, 12, 13, 14, 15, 16, 17, 18, 19, 20, 21, 22, 23, 24, 25, 26, 27] ?_
 have hq := q4 hrr false (by simp only [flqlaw15_sane, h177, hg8, hg26, hg41, hg59, hg115, hg140, hg152, cs4]); subst hq
 exact Kr () rfl (.tmp rfl .nil) [] trivial
theorem fn40 (a : List Int) (aa0 : Option Addr) (ak0 : Nat) (b : List Int) (ba0 : Option Addr) (bk0 : Nat) (rr : Bool) (hrr : flqref7_Ints a b = rr) : FT Tryz.prog 40 #[vl aa0 ak0 a, vl ba0 bk0 b] [S aa0 ak0 a, S ba0 bk0 b] (fun g : Unit => True) (fun g => vb rr) (fun g => []) := by
 refine FTi Tryz.func40 fun w0 M0 F0 => Fb 8 0 fun _ => Fo 0 fun ho2 => Fb 8 1 fun _ => Fo 1 fun ho4 => ?_
 refine KS ?_
 refine Oq Va (KS ?_)
 refine Oq Vm (Oq (Vlen sl22) (Oq Vm (Oq (Vlen sl22) (Oq Vneq (KS ?_)))))
 refine Kc ?_ ?_
 ·intro h5
  have g6 := ne_of_bne h5
  refine KS ?_
  refine Oq Va (KS ?_)
  have hq := q4 hrr false (by simp only [flqref7_Ints, h5, cs4]); subst hq
  exact Kr () rfl (.tmp rfl .nil) [] trivial
 intro h5
 have g7 := eq_of_bne_false h5
 refine KS ?_
 refine Oq Va (KS ?_)
 refine Kl (γ := Nat × Int) (fun (r8, i_9) => ⟨[(0, vl aa0 ak0 a), (1, vl ba0 bk0 b), (5, vi i_9)], [S aa0 ak0 a, S ba0 bk0 b], flqref7_Ints_L0 a b r8 i_9 = flqref7_Ints_L0 a b (((a.length : Int) - 0).toNat) 0 ∧ r8 = ((a.length : Int) - i_9).toNat ∧ (0 : Int) ≤ i_9 ∧ i_9 ≤ (a.length : Int) ∧ (-9223372036854775808 ≤ i_9 ∧ i_9 ≤ 9223372036854775807), r8⟩) (((a.length : Int) - 0).toNat, 0) [0, 1] ⟨rfl, rfl, (by omega), (by omega), (by omega)⟩ ?_
 rintro ⟨r8, i_9⟩ ⟨hM10, hr11, hi12, hi13, hk14⟩
 refine JJ_nx fun _ _ hL hA => ?_; dsimp only at hL hA; subst hL hA
 refine Fb 8 0 fun _ => Fo 0 fun ho16 => Fb 8 1 fun _ => Fo 1 fun ho18 => KS ?_
 refine Oq Vm (Oq Vm (Oq (Vlen sl22) (Oq Vlss (KS ?_))))
 refine Kc ?_ ?_
 ·intro h19
  have g20 := dt h19
  obtain ⟨r21, rfl⟩ := scc (n := r8) (by omega)
  refine KS ?_
  refine Kq [0, 0, 3, 7, 0, 0, 48, 112, 255] fmix ?_
  refine Qv [] Vm (Qv [] Vm (Qv [0] (Vi sl22 0) ?_))
  have hb22 := ok1 (i := i_9.toNat) ho16 rng
  refine Qv [0] (VldI sh3 0) (Qv [] Vm (Qv [] Vm (Qv [1] (Vi sl22 0) ?_)))
  have hb23 := ok1 (i := i_9.toNat) ho18 rng
  refine Qv [1] (VldI sh3 0) (Qv [] Vneq ?_)
  refine Qn ⟨by kernel_rfl, ?_⟩
  refine Kc ?_ ?_
  ·intro h24
   have g25 := ne_of_bne h24
   refine KS ?_
   refine Oq Va (KS ?_)
   have hR26 := q2 hM10 (.ret false) (by simp only [flqref7_Ints_L0, h5, h19, h24, cs4])
   have hq := q4 hrr false (by simp only [flqref7_Ints, h5, h19, h24, hR26, cs4]); subst hq
   exact Kr () rfl (.tmp rfl .nil) [] trivial
  intro h24
  have g27 := eq_of_bne_false h24
  refine KS ?_
  refine Oq Vm (Oq Vadd (Oq Va (KS ?_)))
  exact Kg (r21, (i_9 + 1)) [0, 1] ⟨(q3 hM10 (by simp only [flqref7_Ints_L0, h5, h19, h24, cs4])), (by omega), (by omega), (by omega), (by omega)⟩
 intro h19
 have g28 := df h19
 obtain rfl : r8 = 0 := by omega
 refine Ke ?_
 have hR29 := q2 hM10 (.brk ()) (by simp only [flqref7_Ints_L0, h5, h19, cs4])
 refine KS ?_
 refine Oq Va (KS ?_)
 have hq := q4 hrr true (by simp only [flqref7_Ints, h5, h19, hR29, cs4]); subst hq
 exact Kr () rfl (.tmp rfl .nil) [] trivial
theorem fn36 (a : GState) (aa1 : Option Addr) (ak1 : Nat) (aa2 : Option Addr) (ak2 : Nat) (aa5 : Option Addr) (ak5 : Nat) (aa6 : Option Addr) (ak6 : Nat) (b : GState) (ba1 : Option Addr) (bk1 : Nat) (ba2 : Option Addr) (bk2 : Nat) (ba5 : Option Addr) (bk5 : Nat) (ba6 : Option Addr) (bk6 : Nat) (ha_0 : i64ok a.Phase) (ha_3 : i64ok a.At) (ha_4 : i64ok a.Edge) (ha_7 : i64ok a.Steps) (hb_0 : i64ok b.Phase) (hb_3 : i64ok b.At) (hb_4 : i64ok b.Edge) (hb_7 : i64ok b.Steps) (rr : Bool) (hrr : flqref14_SameState a b = rr) : FT Tryz.prog 36 #[.agg #[vi a.Phase, vl aa1 ak1 a.Cone, vl aa2 ak2 a.Leaf, vi a.At, vi a.Edge, vl aa5 ak5 a.Values, vl aa6 ak6 a.Queue, vi a.Steps], .agg #[vi b.Phase, vl ba1 bk1 b.Cone, vl ba2 bk2 b.Leaf, vi b.At, vi b.Edge, vl ba5 bk5 b.Values, vl ba6 bk6 b.Queue, vi b.Steps]] [S aa1 ak1 a.Cone, S aa2 ak2 a.Leaf, S aa5 ak5 a.Values, S aa6 ak6 a.Queue, S ba1 bk1 b.Cone, S ba2 bk2 b.Leaf, S ba5 bk5 b.Values, S ba6 bk6 b.Queue] (fun g : Unit => True) (fun g => vb rr) (fun g => []) := by
 refine FTi Tryz.func36 fun w0 M0 F0 => ?_
 unfold i64ok at ha_0 ha_3 ha_4 ha_7 hb_0 hb_3 hb_4 hb_7
 refine Fb 8 0 fun _ => Fo 0 fun ho2 => Fb 1 1 fun _ => Fb 32 2 fun _ => Fb 8 3 fun _ => Fo 3 fun ho6 => Fb 8 4 fun _ => Fo 4 fun ho8 => ?_
 refine Fb 1 5 fun _ => Fb 32 6 fun _ => Fb 8 7 fun _ => Fo 7 fun ho12 => KS ?_
 refine Oa (Ab [vi a.Phase, vl aa1 ak1 a.Cone, vl aa2 ak2 a.Leaf, vi a.At, vi a.Edge, vl aa5 ak5 a.Values, vl aa6 ak6 a.Queue, vi a.Steps]) fun p13 => Oa (Ab [vi b.Phase, vl ba1 bk1 b.Cone, vl ba2 bk2 b.Leaf, vi b.At, vi b.Edge, vl ba5 bk5 b.Values, vl ba6 bk6 b.Queue, vi b.Steps]) fun p14 => Oq Va (KS ?_)
 refine Oq (Vfa fo59_0 1) (Oq (VldF sh3 1) (Oq (Vfa fo59_0 0) (Oq (VldF sh3 0) (Oq Vneq (Oq Vm ?_)))))
 refine Js 11 ?_ ?_
 ·intro h15
  have g16 := ne_of_bne h15
  refine Osk (Osk (Osk (Osk (Osk (Osk (Oq Vpt (Oq Vm (Osk (Osk ?_)))))))))
  refine Osk (Osk (Osk (Oq Vpt (Oq Vm (Osk (Osk (Osk (Osk (Osk ?_)))))))))
  refine Oq Vpt (Oq Vm (Osk (Osk (Osk (Osk (Osk (Osk (Oq Vpt (Oq Vm ?_)))))))))
  refine Osk (Osk (Osk (Osk (Osk (Osk (Oq Vpt (Oq Vm (Osk (Osk ?_)))))))))
  refine Osk (Osk (Osk (Oq Vpt (Oq Vm (Osk (Osk (Osk (Osk (Osk ?_)))))))))
  refine Osk (Osk (Oq Vpt (KS ?_)))
  refine Kt (KS ?_)
  refine Oq Va (KS ?_)
  have hq := q4 hrr false (by simp only [flqref14_SameState, h15, cs4]); subst hq
  exact Kr () rfl (.tmp rfl .nil) [] trivial
 intro h15
 have g17 := eq_of_bne_false h15
 refine Oq (Vfa fo59_1 1) (Oq (VldF sh22 1) (Oq (Vfa fo59_1 0) (Oq (VldF sh22 0) ?_)))
 refine letv (flqref7_Ints a.Cone b.Cone) fun rv18 hg19 => ?_
 have hc20 := fn40 a.Cone aa1 ak1 b.Cone ba1 bk1 rv18 hg19
 refine Oc [2, 6] ca40 hc20 ?_
 rintro - -
 refine Oq Vnot (Oq Vpf (Oq Vm ?_))
 refine Js 19 ?_ ?_
 ·intro h21
  have h23 := not_true h21
  refine Osk (Osk (Osk (Osk (Osk (Oq Vpt (Oq Vm (Osk (Osk (Osk ?_)))))))))
  refine Osk (Osk (Oq Vpt (Oq Vm (Osk (Osk (Osk (Osk (Osk (Osk ?_)))))))))
  refine Oq Vpt (Oq Vm (Osk (Osk (Osk (Osk (Osk (Osk (Oq Vpt (Oq Vm ?_)))))))))
  refine Osk (Osk (Osk (Osk (Osk (Oq Vpt (Oq Vm (Osk (Osk (Osk ?_)))))))))
  refine Osk (Osk (Osk (Osk (Oq Vpt (KS ?_)))))
  refine Kt (KS ?_)
  refine Oq Va (KS ?_)
  have hq := q4 hrr false (by simp only [flqref14_SameState, h15, h21, h23, hg19, cs4]); subst hq
  exact Kr () rfl (.tmp rfl .nil) [] trivial
 intro h21
 have h26 := not_false h21
 refine Oq (Vfa fo59_3 1) (Oq (VldF sh3 1) (Oq (Vfa fo59_3 0) (Oq (VldF sh3 0) (Oq Vneq (Oq Vpf (Oq Vm ?_))))))
 refine Js 26 ?_ ?_
 ·intro h28
  have g29 := ne_of_bne h28
  refine Osk (Osk (Osk (Osk (Osk (Oq Vpt (Oq Vm (Osk (Osk (Osk ?_)))))))))
  refine Osk (Osk (Osk (Oq Vpt (Oq Vm (Osk (Osk (Osk (Osk (Osk ?_)))))))))
  refine Osk (Oq Vpt (Oq Vm (Osk (Osk (Osk (Osk (Osk (Oq Vpt (Oq Vm ?_)))))))))
  refine Osk (Osk (Osk (Osk (Osk (Osk (Osk (Oq Vpt (KS ?_))))))))
  refine Kt (KS ?_)
  refine Oq Va (KS ?_)
  have hq := q4 hrr false (by simp only [flqref14_SameState, h15, h21, h26, h28, hg19, cs4]); subst hq
  exact Kr () rfl (.tmp rfl .nil) [] trivial
 intro h28
 have g30 := eq_of_bne_false h28
 refine Oq (Vfa fo59_4 1) (Oq (VldF sh3 1) (Oq (Vfa fo59_4 0) (Oq (VldF sh3 0) (Oq Vneq (Oq Vpf (Oq Vm ?_))))))
 refine Js 33 ?_ ?_
 ·intro h31
  have g32 := ne_of_bne h31
  refine Osk (Osk (Osk (Osk (Osk (Osk (Oq Vpt (Oq Vm (Osk (Osk ?_)))))))))
  refine Osk (Osk (Osk (Osk (Oq Vpt (Oq Vm (Osk (Osk (Osk (Osk ?_)))))))))
  refine Osk (Oq Vpt (Oq Vm (Osk (Osk (Osk (Osk (Osk (Osk (Osk ?_)))))))))
  refine Oq Vpt (KS ?_)
  refine Kt (KS ?_)
  refine Oq Va (KS ?_)
  have hq := q4 hrr false (by simp only [flqref14_SameState, h15, h21, h26, h28, h31, hg19, cs4]); subst hq
  exact Kr () rfl (.tmp rfl .nil) [] trivial
 intro h31
 have g33 := eq_of_bne_false h31
 refine Oq (Vfa fo59_5 1) (Oq (VldF sh25 1) (Oq (Vfa fo59_5 0) (Oq (VldF sh25 0) ?_)))
 refine letv (flqref10_SameSets a.Values b.Values) fun rv34 hg35 => ?_
 have hc36 := fn77 a.Values aa5 ak5 b.Values ba5 bk5 rv34 hg35
 refine Oc [4, 8] ca77 hc36 ?_
 rintro - -
 refine Oq Vnot (Oq Vpf (Oq Vm ?_))
 refine Js 41 ?_ ?_
 ·intro h37
  have h39 := not_true h37
  refine Osk (Osk (Osk (Osk (Osk (Osk (Oq Vpt (Oq Vm (Osk (Osk ?_)))))))))
  refine Osk (Osk (Osk (Oq Vpt (Oq Vm (Osk (Osk (Osk (Osk (Osk ?_)))))))))
  refine Osk (Osk (Oq Vpt (KS ?_)))
  refine Kt (KS ?_)
  refine Oq Va (KS ?_)
  have hq := q4 hrr false (by simp only [flqref14_SameState, h15, h21, h26, h28, h31, h37, h39, hg19, hg35, cs4]); subst hq
  exact Kr () rfl (.tmp rfl .nil) [] trivial
 intro h37
 have h42 := not_false h37
 refine Oq (Vfa fo59_6 1) (Oq (VldF sh22 1) (Oq (Vfa fo59_6 0) (Oq (VldF sh22 0) ?_)))
 refine letv (flqref7_Ints a.Queue b.Queue) fun rv44 hg45 => ?_
 have hc46 := fn40 a.Queue aa6 ak6 b.Queue ba6 bk6 rv44 hg45
 refine Oc [5, 9] ca40 hc46 ?_
 rintro - -
 refine Oq Vnot (Oq Vpf (Oq Vm ?_))
 refine Js 49 ?_ ?_
 ·intro h47
  have h49 := not_true h47
  refine Osk (Osk (Osk (Osk (Osk (Oq Vpt (Oq Vm (Osk (Osk (Osk ?_)))))))))
  refine Osk (Osk (Osk (Osk (Oq Vpt (KS ?_)))))
  refine Kt (KS ?_)
  refine Oq Va (KS ?_)
  have hq := q4 hrr false (by simp only [flqref14_SameState, h15, h21, h26, h28, h31, h37, h42, h47, h49, hg19, hg35, hg45, cs4]); subst hq
  exact Kr () rfl (.tmp rfl .nil) [] trivial
 intro h47
 have h52 := not_false h47
 refine Oq (Vfa fo59_7 1) (Oq (VldF sh3 1) (Oq (Vfa fo59_7 0) (Oq (VldF sh3 0) (Oq Vneq (Oq Vpf (Oq Vm ?_))))))
 refine Js 56 ?_ ?_
 ·intro h54
  have g55 := ne_of_bne h54
  refine Osk (Osk (Osk (Osk (Osk (Osk (Osk (Oq Vpt (KS ?_))))))))
  refine Kt (KS ?_)
  refine Oq Va (KS ?_)
  have hq := q4 hrr false (by simp only [flqref14_SameState, h15, h21, h26, h28, h31, h37, h42, h47, h52, h54, hg19, hg35, hg45, cs4]); subst hq
  exact Kr () rfl (.tmp rfl .nil) [] trivial
 intro h54
 have g56 := eq_of_bne_false h54
 refine Oq (Vfa fo59_2 1) (Oq (VldF sh57 1) (Oq (Vlen sl57) (Oq (Vfa fo59_2 0) (Oq (VldF sh57 0) (Oq (Vlen sl57) (Oq Vneq (Oq Vpf (KS ?_))))))))
 refine Kc ?_ ?_
 ·intro h57
  have g58 := ne_of_bne h57
  refine KS ?_
  refine Oq Va (KS ?_)
  have hq := q4 hrr false (by simp only [flqref14_SameState, h15, h21, h26, h28, h31, h37, h42, h47, h52, h54, h57, hg19, hg35, hg45, cs4]); subst hq
  exact Kr () rfl (.tmp rfl .nil) [] trivial
 intro h57
 have g59 := eq_of_bne_false h57
 refine KS ?_
 refine Oq Va (KS ?_)
 refine Kl (γ := Nat × Int) (fun (r60, i_61) => ⟨[(2, p13), (3, p14), (5, vi i_61)], [pv p14 [vi b.Phase, vl ba1 bk1 b.Cone, vl ba2 bk2 b.Leaf, vi b.At, vi b.Edge, vl ba5 bk5 b.Values, vl ba6 bk6 b.Queue, vi b.Steps], pv p13 [vi a.Phase, vl aa1 ak1 a.Cone, vl aa2 ak2 a.Leaf, vi a.At, vi a.Edge, vl aa5 ak5 a.Values, vl aa6 ak6 a.Queue, vi a.Steps], S aa1 ak1 a.Cone, S aa2 ak2 a.Leaf, S aa5 ak5 a.Values, S aa6 ak6 a.Queue, S ba1 bk1 b.Cone, S ba2 bk2 b.Leaf, S ba5 bk5 b.Values, S ba6 bk6 b.Queue], flqref14_SameState_L0 a b r60 i_61 = flqref14_SameState_L0 a b (((a.Leaf.length : Int) - 0).toNat) 0 ∧ r60 = ((a.Leaf.length : Int) - i_61).toNat ∧ (0 : Int) ≤ i_61 ∧ i_61 ≤ (a.Leaf.length : Int) ∧ (-9223372036854775808 ≤ i_61 ∧ i_61 ≤ 9223372036854775807), r60⟩) (((a.Leaf.length : Int) - 0).toNat, 0) [0, 1, 2, 3, 4, 5, 6, 7, 8, 9] ⟨rfl, rfl, (by omega), (by omega), (by omega)⟩ ?_
 rintro ⟨r60, i_61⟩ ⟨hM62, hr63, hi64, hi65, hk66⟩
 refine JJ_nx fun _ _ hL hA => ?_; dsimp only at hL hA; subst hL hA
 refine Fb 8 2 fun _ => Fo 2 fun ho68 => Fb 1 3 fun _ => Fb 32 4 fun _ => Fb 8 5 fun _ => Fo 5 fun ho72 => Fb 8 6 fun _ => Fo 6 fun ho74 => ?_
 refine Fb 1 7 fun _ => Fb 32 8 fun _ => Fb 8 9 fun _ => Fo 9 fun ho78 => KS ?_
 refine Oq Vm (Oq (Vfa fo59_2 1) (Oq (VldF sh57 1) (Oq (Vlen sl57) (Oq Vlss (KS ?_)))))
 refine Kc ?_ ?_
 ·intro h79
  have g80 := dt h79
  obtain ⟨r81, rfl⟩ := scc (n := r60) (by omega)
  refine KS ?_
  refine Kq [0, 1, 0, 7, 15, 0, 32, 0, 224, 480, 1023] fmix ?_
  refine Qv [1] (Vfa fo59_2 0) (Qv [1] (VldF sh57 0) (Qv [] Vm (Qv [3] (Vi sl57 0) (Qv [3] (VldB sh4 0) (Qv [0] (Vfa fo59_2 0) (Qv [0] (VldF sh57 0) (Qv [] Vm (Qv [7] (Vi sl57 0) (Qv [7] (VldB sh4 0) ?_)))))))))
  refine Qv [] (Vnb un4) ?_
  refine Qn ⟨by kernel_rfl, ?_⟩
  refine Kc ?_ ?_
  ·intro h82
   refine KS ?_
   refine Oq Va (KS ?_)
   have hR84 := q2 hM62 (.ret false) (by simp only [flqref14_SameState_L0, h15, h21, h26, h28, h31, h37, h42, h47, h52, h54, h57, h79, h82, hg19, hg35, hg45, cs4])
   have hq := q4 hrr false (by simp only [flqref14_SameState, h15, h21, h26, h28, h31, h37, h42, h47, h52, h54, h57, h79, h82, hg19, hg35, hg45, hR84, cs4]); subst hq
   exact Kr () rfl (.tmp rfl .nil) [] trivial
  intro h82
  refine KS ?_
  refine Oq Vm (Oq Vadd (Oq Va (KS ?_)))
  exact Kg (r81, (i_61 + 1)) [0, 1, 2, 3, 4, 5, 6, 7, 8, 9] ⟨(q3 hM62 (by simp only [flqref14_SameState_L0, h15, h21, h26, h28, h31, h37, h42, h47, h52, h54, h57, h79, h82, hg19, hg35, hg45, cs4])), (by omega), (by omega), (by omega), (by omega)⟩
 intro h79
 have g86 := df h79
 obtain rfl : r60 = 0 := by omega
 refine Ke ?_
 have hR87 := q2 hM62 (.brk ()) (by simp only [flqref14_SameState_L0, h15, h21, h26, h28, h31, h37, h42, h47, h52, h54, h57, h79, hg19, hg35, hg45, cs4])
 refine KS ?_
 refine Oq Va (KS ?_)
 have hq := q4 hrr true (by simp only [flqref14_SameState, h15, h21, h26, h28, h31, h37, h42, h47, h52, h54, h57, h79, hg19, hg35, hg45, hR87, cs4]); subst hq
 exact Kr () rfl (.tmp rfl .nil) [] trivial
theorem fn98 (s : GSystem) (sa1 : Option Addr) (sk1 : Nat) (sa2 : Option Addr) (sk2 : Nat) (sa3 : Option Addr) (sk3 : Nat) (l : List Int) (la0 : Option Addr) (lk0 : Nat) (hs_0 : i64ok s.Width) (rr : Bool) (hrr : flqref14_inside s l = rr) : FT Tryz.prog 98 #[.agg #[vi s.Width, vl sa1 sk1 s.Deps, vl sa2 sk2 s.Transfers, vl sa3 sk3 s.Boundary], vl la0 lk0 l] [S sa1 sk1 s.Deps, S sa2 sk2 s.Transfers, S sa3 sk3 s.Boundary, S la0 lk0 l] (fun g : Unit => True) (fun g => vb rr) (fun g => []) := by
 refine FTi Tryz.func98 fun w0 M0 F0 => ?_
 unfold i64ok at hs_0
 refine Fb 24 0 fun _ => Fb 88 1 fun _ => Fb 32 2 fun _ => Fb 8 3 fun _ => Fo 3 fun ho5 => KS ?_
 refine Oa (Ab [vi s.Width, vl sa1 sk1 s.Deps, vl sa2 sk2 s.Transfers, vl sa3 sk3 s.Boundary]) fun p6 => Oq Va (KS ?_)
 refine Oq Va (KS ?_)
 refine Kl (γ := Nat × Int) (fun (r7, i_8) => ⟨[(1, vl la0 lk0 l), (2, p6), (5, vi i_8)], [pv p6 [vi s.Width, vl sa1 sk1 s.Deps, vl sa2 sk2 s.Transfers, vl sa3 sk3 s.Boundary], S sa1 sk1 s.Deps, S sa2 sk2 s.Transfers, S sa3 sk3 s.Boundary, S la0 lk0 l], flqref14_inside_L0 s l r7 i_8 = flqref14_inside_L0 s l (((l.length : Int) - 0).toNat) 0 ∧ r7 = ((l.length : Int) - i_8).toNat ∧ (0 : Int) ≤ i_8 ∧ i_8 ≤ (l.length : Int) ∧ (-9223372036854775808 ≤ i_8 ∧ i_8 ≤ 9223372036854775807), r7⟩) (((l.length : Int) - 0).toNat, 0) [0, 1, 2, 3, 4] ⟨rfl, rfl, (by omega), (by omega), (by omega)⟩ ?_
 rintro ⟨r7, i_8⟩ ⟨hM9, hr10, hi11, hi12, hk13⟩
 refine JJ_nx fun _ _ hL hA => ?_; dsimp only at hL hA; subst hL hA
 refine Fb 24 1 fun _ => Fb 88 2 fun _ => Fb 32 3 fun _ => Fb 8 4 fun _ => Fo 4 fun ho18 => KS ?_
 refine Oq Vm (Oq Vm (Oq (Vlen sl22) (Oq Vlss (KS ?_))))
 refine Kc ?_ ?_
 ·intro h19
  have g20 := dt h19
  obtain ⟨r21, rfl⟩ := scc (n := r7) (by omega)
  refine KS ?_
  refine Kq [0, 0, 3, 7, 15, 31, 63, 63, 255, 511, 63, 1087, 3135, 8191, 16383] fmix ?_
  refine Qv [] Vm (Qv [] Vm (Qv [4] (Vi sl22 0) ?_))
  have hb22 := ok1 (i := i_8.toNat) ho18 rng
  refine Qv [4] (VldI sh3 0) (Qv [] Vlss ?_)
  refine bool_split (decide ((l.getD i_8.toNat 0) < 0)) ?_ ?_
  ·intro h23
   have g24 := dt h23
   refine Qb h23 [] Vm (Qs (Qs (Qs (Qs (Qs (Qs (Qs (Qs (Qv [] Vpt ?_)))))))))
   refine Qn ⟨by kernel_rfl, ?_⟩
   refine Kt (KS ?_)
   refine Oq Va (KS ?_)
   have hR25 := q2 hM9 (.ret false) (by simp only [flqref14_inside_L0, h19, h23, cs4])
   have hq := q4 hrr false (by simp only [flqref14_inside, h19, h23, hR25, cs4]); subst hq
   exact Kr () rfl (.tmp rfl .nil) [] trivial
  intro h23
  have g26 := df h23
  refine Qb h23 [] Vm (Qv [] Vm (Qv [] Vm (Qv [4] (Vi sl22 0) ?_)))
  have hb27 := ok1 (i := i_8.toNat) ho18 rng
  refine Qv [4] (VldI sh3 0) (Qv [0] (Vfa fo27_3 0) (Qv [0] (VldF sh25 0) (Qv [] (Vlen sl25) (Qv [] Vgeq (Qv [] Vpf ?_)))))
  refine Qn ⟨by kernel_rfl, ?_⟩
  refine Kc ?_ ?_
  ·intro h28
   have g29 := dt h28
   refine KS ?_
   refine Oq Va (KS ?_)
   have hR30 := q2 hM9 (.ret false) (by simp only [flqref14_inside_L0, h19, h23, h28, cs4])
   have hq := q4 hrr false (by simp only [flqref14_inside, h19, h23, h28, hR30, cs4]); subst hq
   exact Kr () rfl (.tmp rfl .nil) [] trivial
  intro h28
  have g31 := df h28
  refine KS ?_
  refine Oq Vm (Oq Vadd (Oq Va (KS ?_)))
  exact Kg (r21, (i_8 + 1)) [0, 1, 2, 3, 4] ⟨(q3 hM9 (by simp only [flqref14_inside_L0, h19, h23, h28, cs4])), (by omega), (by omega), (by omega), (by omega)⟩
 intro h19
 have g32 := df h19
 obtain rfl : r7 = 0 := by omega
 refine Ke ?_
 have hR33 := q2 hM9 (.brk ()) (by simp only [flqref14_inside_L0, h19, cs4])
 refine KS ?_
 refine Oq Va (KS ?_)
 have hq := q4 hrr true (by simp only [flqref14_inside, h19, hR33, cs4]); subst hq
 exact Kr () rfl (.tmp rfl .nil) [] trivial
theorem fn99 (l : List Int) (la0 : Option Addr) (lk0 : Nat) (n : Int) (hn_0 : i64ok n) (rr : Bool) (hrr : flqref7_Has l n = rr) : FT Tryz.prog 99 #[vl la0 lk0 l, vi n] [S la0 lk0 l] (fun g : Unit => True) (fun g => vb rr) (fun g => []) := by
 refine FTi Tryz.func99 fun w0 M0 F0 => ?_
 unfold i64ok at hn_0
 refine Fb 8 0 fun _ => Fo 0 fun ho2 => KS ?_
 refine Oq Va (KS ?_)
 refine Oq Va (KS ?_)
 refine Kl (γ := Nat × Int) (fun (r3, i_4) => ⟨[(0, vl la0 lk0 l), (1, vi n), (5, vi i_4)], [S la0 lk0 l], flqref7_Has_L0 l n r3 i_4 = flqref7_Has_L0 l n (((l.length : Int) - 0).toNat) 0 ∧ r3 = ((l.length : Int) - i_4).toNat ∧ (0 : Int) ≤ i_4 ∧ i_4 ≤ (l.length : Int) ∧ (-9223372036854775808 ≤ i_4 ∧ i_4 ≤ 9223372036854775807), r3⟩) (((l.length : Int) - 0).toNat, 0) [0] ⟨rfl, rfl, (by omega), (by omega), (by omega)⟩ ?_
 rintro ⟨r3, i_4⟩ ⟨hM5, hr6, hi7, hi8, hk9⟩
 refine JJ_nx fun _ _ hL hA => ?_; dsimp only at hL hA; subst hL hA
 refine Fb 8 0 fun _ => Fo 0 fun ho11 => KS ?_
 refine Oq Vm (Oq Vm (Oq (Vlen sl22) (Oq Vlss (KS ?_))))
 refine Kc ?_ ?_
 ·intro h12
  have g13 := dt h12
  obtain ⟨r14, rfl⟩ := scc (n := r3) (by omega)
  refine KS ?_
  refine Oq Vm (Oq Vm (Oq (Vi sl22 0) ?_))
  have hb15 := ok1 (i := i_4.toNat) ho11 rng
  refine Oq (VldI sh3 0) (Oq Vm (Oq Veql (KS ?_)))
  refine Kc ?_ ?_
  ·intro h16
   have g17 := eq_of_beq h16
   refine KS ?_
   refine Oq Va (KS ?_)
   have hR18 := q2 hM5 (.ret true) (by simp only [flqref7_Has_L0, h12, h16, cs4])
   have hq := q4 hrr true (by simp only [flqref7_Has, h12, h16, hR18, cs4]); subst hq
   exact Kr () rfl (.tmp rfl .nil) [] trivial
  intro h16
  have g19 := ne_of_beq_false h16
  refine KS ?_
  refine Oq Vm (Oq Vadd (Oq Va (KS ?_)))
  exact Kg (r14, (i_4 + 1)) [0] ⟨(q3 hM5 (by simp only [flqref7_Has_L0, h12, h16, cs4])), (by omega), (by omega), (by omega), (by omega)⟩
 intro h12
 have g20 := df h12
 obtain rfl : r3 = 0 := by omega
 refine Ke ?_
 have hR21 := q2 hM5 (.brk ()) (by simp only [flqref7_Has_L0, h12, cs4])
 refine KS ?_
 refine Oq Va (KS ?_)
 have hq := q4 hrr false (by simp only [flqref7_Has, h12, hR21, cs4]); subst hq
 exact Kr () rfl (.tmp rfl .nil) [] trivial
theorem fn58 (s : GSystem) (sa1 : Option Addr) (sk1 : Nat) (sa2 : Option Addr) (sk2 : Nat) (sa3 : Option Addr) (sk3 : Nat) (cone : List Int) (conea0 : Option Addr) (conek0 : Nat) (leaf : List Bool) (leafa0 : Option Addr) (leafk0 : Nat) (i : Int) (hs_0 : i64ok s.Width) (hi_0 : i64ok i) (rr : List Int) (hrr : flqref14_Dependents s cone leaf i = rr) : FT Tryz.prog 58 #[.agg #[vi s.Width, vl sa1 sk1 s.Deps, vl sa2 sk2 s.Transfers, vl sa3 sk3 s.Boundary], vl conea0 conek0 cone, vl leafa0 leafk0 leaf, vi i] [S sa1 sk1 s.Deps, S sa2 sk2 s.Transfers, S sa3 sk3 s.Boundary, S conea0 conek0 cone, S leafa0 leafk0 leaf] (fun g : Value => (rr.length ≤ cone.length)) (fun g => g) (fun g => [os g rr]) := by
 refine FTi Tryz.func58 fun w0 M0 F0 => ?_
 unfold i64ok at hs_0 hi_0
 refine Fb 24 0 fun _ => Fb 88 1 fun _ => Fb 32 2 fun _ => Fb 8 3 fun _ => Fo 3 fun ho5 => Fb 1 4 fun _ => KS ?_
 refine Oa (Ab [vi s.Width, vl sa1 sk1 s.Deps, vl sa2 sk2 s.Transfers, vl sa3 sk3 s.Boundary]) fun p7 => Oq Va (KS ?_)
 refine Oq Va (KS ?_)
 refine Oq (VldA sh27 0) ?_
 refine letv (flqref10_Valid s) fun rv8 hg9 => ?_
 have hc10 := fn74 s sa1 sk1 sa2 sk2 sa3 sk3 pre rv8 hg9
 refine Oc [1, 2, 3] ca74 hc10 ?_
 rintro - -
 refine Oq Vnot (Oq Vm ?_)
 refine Js 14 ?_ ?_
 ·intro h11
  have h13 := not_true h11
  refine Osk (Osk (Osk (Osk (Oq Vpt (Oq Vm (Osk (Osk (Osk (Osk ?_)))))))))
  refine Osk (Oq Vpt (Oq Vm (Osk (Osk (Oq Vpt (Oq Vm (Osk (Osk (Osk ?_)))))))))
  refine Osk (Oq Vpt (KS ?_))
  refine Kt (KS ?_)
  refine Oq Va (KS ?_)
  refine Jl [] (Ent.osNil (α := Int)) ?_
  have hq := q4 hrr [] (by simp only [flqref14_Dependents, h11, h13, hg9, cs4]); subst hq
  exact Kr (.slice none 0 0) rfl (.tmp rfl .nil) [0] en
 intro h11
 have h16 := not_false h11
 try (have hvs := (RefValid_iff s).1 (by simp only [h11, h16, hg9]); have hv3 := hvs.bl)
 try (have hcr := inside_dep hvs (l := cone) (by simp only [h11, h16, hg9]))
 refine Oq (VldA sh27 0) (Oq Vm ?_)
 refine letv (flqref14_inside s cone) fun rv18 hg19 => ?_
 have hc20 := fn98 s sa1 sk1 sa2 sk2 sa3 sk3 cone conea0 conek0 pre rv18 hg19
 refine Oc [1, 2, 3, 4] ca98 hc20 ?_
 rintro - -
 refine Oq Vnot (Oq Vpf (Oq Vm ?_))
 refine Js 20 ?_ ?_
 ·intro h21
  have h23 := not_true h21
  refine Osk (Osk (Osk (Osk (Osk (Oq Vpt (Oq Vm (Osk (Osk (Oq Vpt ?_)))))))))
  refine Oq Vm (Osk (Osk (Osk (Osk (Oq Vpt (KS ?_))))))
  refine Kt (KS ?_)
  refine Oq Va (KS ?_)
  refine Jl [] (Ent.osNil (α := Int)) ?_
  have hq := q4 hrr [] (by simp only [flqref14_Dependents, h11, h16, h21, h23, hg9, hg19, cs4]); subst hq
  exact Kr (.slice none 0 0) rfl (.tmp rfl .nil) [0] en
 intro h21
 have h26 := not_false h21
 try (have hvs := (RefValid_iff s).1 (by simp only [h11, h16, h21, h26, hg9, hg19]); have hv3 := hvs.bl)
 try (have hcr := inside_dep hvs (l := cone) (by simp only [h11, h16, h21, h26, hg9, hg19]))
 refine Oq Vm (Oq (Vlen sl57) (Oq Vm (Oq (Vlen sl22) (Oq Vneq (Oq Vpf (Oq Vm ?_))))))
 refine Js 27 ?_ ?_
 ·intro h28
  have g29 := ne_of_bne h28
  refine Osk (Osk (Oq Vpt (Oq Vm (Osk (Osk (Osk (Osk (Oq Vpt (KS ?_)))))))))
  refine Kt (KS ?_)
  refine Oq Va (KS ?_)
  refine Jl [] (Ent.osNil (α := Int)) ?_
  have hq := q4 hrr [] (by simp only [flqref14_Dependents, h11, h16, h21, h26, h28, hg9, hg19, cs4]); subst hq
  exact Kr (.slice none 0 0) rfl (.tmp rfl .nil) [0] en
 intro h28
 have g30 := eq_of_bne_false h28
 refine Oq Vm (Oq Vlss (Oq Vpf (Oq Vm ?_)))
 refine Js 31 ?_ ?_
 ·intro h31
  have g32 := dt h31
  refine Osk (Osk (Osk (Osk (Oq Vpt (KS ?_)))))
  refine Kt (KS ?_)
  refine Oq Va (KS ?_)
  refine Jl [] (Ent.osNil (α := Int)) ?_
  have hq := q4 hrr [] (by simp only [flqref14_Dependents, h11, h16, h21, h26, h28, h31, hg9, hg19, cs4]); subst hq
  exact Kr (.slice none 0 0) rfl (.tmp rfl .nil) [0] en
 intro h31
 have g33 := df h31
 refine Oq Vm (Oq Vm (Oq (Vlen sl22) (Oq Vgeq (Oq Vpf (KS ?_)))))
 refine Kc ?_ ?_
 ·intro h34
  have g35 := dt h34
  refine KS ?_
  refine Oq Va (KS ?_)
  refine Jl [] (Ent.osNil (α := Int)) ?_
  have hq := q4 hrr [] (by simp only [flqref14_Dependents, h11, h16, h21, h26, h28, h31, h34, hg9, hg19, cs4]); subst hq
  exact Kr (.slice none 0 0) rfl (.tmp rfl .nil) [0] en
 intro h34
 have g36 := df h34
 refine KS ?_
 refine Oq Va (KS ?_)
 refine Jl [] (Ent.osNil (α := Int)) ?_
 refine Kl (γ := Nat × List Int × Int × Option Addr × Nat) (fun (r37, out_38, j_39, a40, k41) => ⟨[(1, vl conea0 conek0 cone), (2, vl leafa0 leafk0 leaf), (3, vi i), (4, p7), (9, vl a40 k41 out_38), (10, vi j_39)], [O a40 k41 out_38, pv p7 [vi s.Width, vl sa1 sk1 s.Deps, vl sa2 sk2 s.Transfers, vl sa3 sk3 s.Boundary], S sa1 sk1 s.Deps, S sa2 sk2 s.Transfers, S sa3 sk3 s.Boundary, S conea0 conek0 cone, S leafa0 leafk0 leaf], flqref14_Dependents_L0 s cone leaf i r37 out_38 j_39 = flqref14_Dependents_L0 s cone leaf i (((cone.length : Int) - 0).toNat) [] 0 ∧ r37 = ((cone.length : Int) - j_39).toNat ∧ (0 : Int) ≤ j_39 ∧ j_39 ≤ (cone.length : Int) ∧ (-9223372036854775808 ≤ j_39 ∧ j_39 ≤ 9223372036854775807) ∧ (out_38.length : Int) ≤ j_39, r37⟩) (((cone.length : Int) - 0).toNat, [], 0, none, 0) [0, 0, 1, 2, 3, 4, 5] ⟨rfl, rfl, (by omega), (by omega), (by omega), iv0⟩ ?_
 rintro ⟨r37, out_38, j_39, a40, k41⟩ ⟨hM42, hr43, hi44, hi45, hk46, hv47⟩
 refine JJ_nx fun _ _ hL hA => ?_; dsimp only at hL hA; subst hL hA
 refine Fb 8 0 fun _ => Fo 0 fun ho49 => Fb 24 2 fun _ => Fb 88 3 fun _ => Fb 32 4 fun _ => Fb 8 5 fun _ => Fo 5 fun ho54 => Fb 1 6 fun _ => KS ?_
 refine Oq Vm (Oq Vm (Oq (Vlen sl22) (Oq Vlss (KS ?_))))
 refine Kc ?_ ?_
 ·intro h56
  have g57 := dt h56
  have hq := hcr _ (getD_mem (xs := cone) (i := j_39.toNat) (d := 0) (by omega))
  obtain ⟨r58, rfl⟩ := scc (n := r37) (by omega)
  refine KS ?_
  refine bool_split (!(leaf.getD j_39.toNat false)) ?_ ?_
  ·intro h59
   have h61 := not_true h59
   refine JJ_peekL ((cone.getD j_39.toNat 0) : Int).toNat 2 rfl rng fun a63 k64 => ?_
   refine Fb 8 1 fun _ => Fo 1 fun ho66 => ?_
   refine JK_drawK [0, 0, 3, 7, 15, 31, 63, 127, 63, 63, 831, 1855, 4095, 8191, 63, 63, 49215, 114751, 262143, 524287] fmix ?_
   refine Dv [] Vm (Dv [] Vm (Dv [8] (Vi sl57 0) (Dv [8] (VldB sh4 0) (Db h59 [] Vnot (Dv [] Vm (Dv [3] (Vfa fo27_1 0) (Dv [3] (VldF sh23 0) (Dv [] Vm (Dv [] Vm ?_)))))))))
   refine Dv [7] (Vi sl22 0) ?_
   have hb67 := ok1 (i := j_39.toNat) ho54 rng
   refine Dv [7] (VldI sh3 0) (Dv [4] (Vi sl23 0) (Dv [0] (Vld sh22 0) (Dv [] Vm (Dv [] Vm (Dv [7] (Vi sl22 0) ?_)))))
   have hb68 := ok1 (i := i.toNat) ho54 rng
   refine Dv [7] (VldI sh3 0) ?_
   refine letv (flqref7_Has (s.Deps.getD ((cone.getD j_39.toNat 0) : Int).toNat []) (cone.getD i.toNat 0)) fun rv69 hg70 => ?_
   refine Dx [1] [] [1, 0] (fun G => vb rv69) [fun G => SP.fact (True)] (fun G => xC [0] ca99 (fn99 ((s.Deps.getD ((cone.getD j_39.toNat 0) : Int).toNat [])) a63 k64 ((cone.getD i.toNat 0)) pre rv69 hg70)) (Dv [] Vpt ?_)
   refine Dn ⟨by kernel_rfl, fun G => ?_⟩
   refine Jw2 [(1, vl conea0 conek0 cone), (2, vl leafa0 leafk0 leaf), (3, vi i), (4, p7), (9, vl a40 k41 out_38), (10, vi j_39), (62, vb rv69)] [0, 1, 2, 3, 4, 5, 6, 7, 8] [SP.fact (True)] ?_
   refine Jk [0, 1, 2, 2, 3, 4, 5, 6, 7] ?_
   refine Kc ?_ ?_
   ·intro h71
    try (have hvs := (RefValid_iff s).1 (by simp only [h11, h16, h21, h26, h28, h31, h34, h56, h59, h61, h71, hg9, hg19, hg70]); have hv3 := hvs.bl)
    try (have hcr := inside_dep hvs (l := cone) (by simp only [h11, h16, h21, h26, h28, h31, h34, h56, h59, h61, h71, hg9, hg19, hg70]))
    refine KS ?_
    refine Oq Vm (Oq Vm (Oa (AsV sl22 sz22 [vi j_39] [vi j_39]) fun c73 => ?_))
    refine Jo 0 ?_; rintro a74 k75 rfl
    refine Jl [0] (Ent.crInt _ [j_39] _ _ rfl rfl (by intro x hx; rw [List.mem_singleton] at hx; subst hx; unfold i64ok; omega) (Nat.le_of_ble_eq_true rfl)) ?_
    refine Oa (ApO [3, 0] sl22 sl22 sz22) fun c76 => ?_
    refine Jo 0 ?_; rintro a77 k78 rfl
    refine Fb 8 0 fun _ => Fo 0 fun ho80 => ?_
    have hn81 := la out_38 ([j_39] : List Int)
    refine Oq Va (KS ?_)
    refine Oq Vm (Oq Vadd (Oq Va (KS ?_)))
    exact Kg (r58, (out_38 ++ [j_39]), (j_39 + 1), a77, k78) [0, 2, 3, 4, 5, 6, 7] ⟨(q3 hM42 (by simp only [flqref14_Dependents_L0, h11, h16, h21, h26, h28, h31, h34, h56, h59, h61, h71, hg9, hg19, hg70, cs4])), (by omega), (by omega), (by omega), (by omega), iv1⟩
   intro h71
   refine KS ?_
   refine Oq Vm (Oq Vadd (Oq Va (KS ?_)))
   exact Kg (r58, out_38, (j_39 + 1), a40, k41) [2, 2, 3, 4, 5, 6, 7] ⟨(q3 hM42 (by simp only [flqref14_Dependents_L0, h11, h16, h21, h26, h28, h31, h34, h56, h59, h61, h71, hg9, hg19, hg70, cs4])), (by omega), (by omega), (by omega), (by omega), iv1⟩
  intro h59
  have h84 := not_false h59
  refine Kq [0, 0, 3, 7, 15, 31, 63, 127, 63, 63, 831, 1855, 4095, 8191, 63, 63, 49215, 114751, 262143, 524287] fmix ?_
  refine Qv [] Vm (Qv [] Vm (Qv [6] (Vi sl57 0) (Qv [6] (VldB sh4 0) (Qb h59 [] Vnot (Qv [] Vm (Qs (Qs (Qs (Qs ?_)))))))))
  refine Qs (Qs (Qs (Qs (Qs (Qs (Qs (Qs (Qs (Qv [] Vpf ?_)))))))))
  refine Qn ⟨by kernel_rfl, ?_⟩
  refine Kf (KS ?_)
  refine Oq Vm (Oq Vadd (Oq Va (KS ?_)))
  exact Kg (r58, out_38, (j_39 + 1), a40, k41) [0, 0, 1, 2, 3, 4, 5] ⟨(q3 hM42 (by simp only [flqref14_Dependents_L0, h11, h16, h21, h26, h28, h31, h34, h56, h59, h84, hg9, hg19, cs4])), (by omega), (by omega), (by omega), (by omega), iv1⟩
 intro h56
 have g86 := df h56
 obtain rfl : r37 = 0 := by omega
 refine Ke ?_
 have hR87 := q2 hM42 out_38 (by simp only [flqref14_Dependents_L0, h11, h16, h21, h26, h28, h31, h34, h56, hg9, hg19, cs4])
 refine KS ?_
 refine Oq Vm (Oq Va (KS ?_))
 have hq := q4 hrr out_38 (by simp only [flqref14_Dependents, h11, h16, h21, h26, h28, h31, h34, h56, hg9, hg19, hR87, cs4]); subst hq
 exact Kr (vl a40 k41 out_38) rfl (.tmp rfl .nil) [0] en
theorem fn133 (l : List Int) (la0 : Option Addr) (lk0 : Nat) (n : Int) (hn_0 : i64ok n) (rr : Int) (hrr : flqref14_place l n = rr) : FT Tryz.prog 133 #[vl la0 lk0 l, vi n] [S la0 lk0 l] (fun g : Unit => i64ok rr) (fun g => vi rr) (fun g => []) := by
 refine FTi Tryz.func133 fun w0 M0 F0 => ?_
 unfold i64ok at hn_0
 refine Fb 8 0 fun _ => Fo 0 fun ho2 => KS ?_
 refine Oq Va (KS ?_)
 refine Oq Va (KS ?_)
 refine Kl (γ := Nat × Int) (fun (r3, i_4) => ⟨[(0, vl la0 lk0 l), (1, vi n), (5, vi i_4)], [S la0 lk0 l], flqref14_place_L0 l n r3 i_4 = flqref14_place_L0 l n (((l.length : Int) - 0).toNat) 0 ∧ r3 = ((l.length : Int) - i_4).toNat ∧ (0 : Int) ≤ i_4 ∧ i_4 ≤ (l.length : Int) ∧ (-9223372036854775808 ≤ i_4 ∧ i_4 ≤ 9223372036854775807), r3⟩) (((l.length : Int) - 0).toNat, 0) [0] ⟨rfl, rfl, (by omega), (by omega), (by omega)⟩ ?_
 rintro ⟨r3, i_4⟩ ⟨hM5, hr6, hi7, hi8, hk9⟩
 refine JJ_nx fun _ _ hL hA => ?_; dsimp only at hL hA; subst hL hA
 refine Fb 8 0 fun _ => Fo 0 fun ho11 => KS ?_
 refine Oq Vm (Oq Vm (Oq (Vlen sl22) (Oq Vlss (KS ?_))))
 refine Kc ?_ ?_
 ·intro h12
  have g13 := dt h12
  obtain ⟨r14, rfl⟩ := scc (n := r3) (by omega)
  refine KS ?_
  refine Oq Vm (Oq Vm (Oq (Vi sl22 0) ?_))
  have hb15 := ok1 (i := i_4.toNat) ho11 rng
  refine Oq (VldI sh3 0) (Oq Vm (Oq Veql (KS ?_)))
  refine Kc ?_ ?_
  ·intro h16
   have g17 := eq_of_beq h16
   refine KS ?_
   refine Oq Vm (Oq Va (KS ?_))
   have hR18 := q2 hM5 (.ret i_4) (by simp only [flqref14_place_L0, h12, h16, cs4])
   have hq := q4 hrr i_4 (by simp only [flqref14_place, h12, h16, hR18, cs4]); subst hq
   exact Kr () rfl (.tmp rfl .nil) [] en
  intro h16
  have g19 := ne_of_beq_false h16
  refine KS ?_
  refine Oq Vm (Oq Vadd (Oq Va (KS ?_)))
  exact Kg (r14, (i_4 + 1)) [0] ⟨(q3 hM5 (by simp only [flqref14_place_L0, h12, h16, cs4])), (by omega), (by omega), (by omega), (by omega)⟩
 intro h12
 have g20 := df h12
 obtain rfl : r3 = 0 := by omega
 refine Ke ?_
 have hR21 := q2 hM5 (.brk ()) (by simp only [flqref14_place_L0, h12, cs4])
 refine KS ?_
 refine Oq Va (KS ?_)
 have hq := q4 hrr (-1) (by simp only [flqref14_place, h12, hR21, cs4]); subst hq
 exact Kr () rfl (.tmp rfl .nil) [] en
theorem fn131 (l : List Int) (la0 : Option Addr) (lk0 : Nat) (rr : Bool) (hrr : flqref14_repeated l = rr) : FT Tryz.prog 131 #[vl la0 lk0 l] [S la0 lk0 l] (fun g : Unit => True) (fun g => vb rr) (fun g => []) := by
 refine FTi Tryz.func131 fun w0 M0 F0 => Fb 8 0 fun _ => Fo 0 fun ho2 => ?_
 refine KS ?_
 refine Oq Va (KS ?_)
 refine Oq Va (KS ?_)
 refine Kl (γ := Nat × Int) (fun (r3, i_4) => ⟨[(0, vl la0 lk0 l), (3, vi i_4)], [S la0 lk0 l], flqref14_repeated_L0 l r3 i_4 = flqref14_repeated_L0 l (((l.length : Int) - 0).toNat) 0 ∧ r3 = ((l.length : Int) - i_4).toNat ∧ (0 : Int) ≤ i_4 ∧ i_4 ≤ (l.length : Int) ∧ (-9223372036854775808 ≤ i_4 ∧ i_4 ≤ 9223372036854775807), r3⟩) (((l.length : Int) - 0).toNat, 0) [0] ⟨rfl, rfl, (by omega), (by omega), (by omega)⟩ ?_
 rintro ⟨r3, i_4⟩ ⟨hM5, hr6, hi7, hi8, hk9⟩
 refine JJ_nx fun _ _ hL hA => ?_; dsimp only at hL hA; subst hL hA
 refine Fb 8 0 fun _ => Fo 0 fun ho11 => KS ?_
 refine Oq Vm (Oq Vm (Oq (Vlen sl22) (Oq Vlss (KS ?_))))
 refine Kc ?_ ?_
 ·intro h12
  have g13 := dt h12
  obtain ⟨r14, rfl⟩ := scc (n := r3) (by omega)
  refine KS ?_
  refine Oq Vm (Oq Vm (Oq Vm (Oq (Vi sl22 0) ?_)))
  have hb15 := ok1 (i := i_4.toNat) ho11 rng
  refine Oq (VldI sh3 0) ?_
  refine letv (flqref14_place l (l.getD i_4.toNat 0)) fun rv16 hg17 => ?_
  have hc18 := fn133 l la0 lk0 ((l.getD i_4.toNat 0)) pre rv16 hg17
  refine Oc [0] ca133 hc18 ?_
  rintro - he19
  unfold i64ok at he19
  refine Oq Vm (Oq Vneq (KS ?_))
  refine Kc ?_ ?_
  ·intro h20
   have g21 := ne_of_bne h20
   refine KS ?_
   refine Oq Va (KS ?_)
   have hR22 := q2 hM5 (.ret true) (by simp only [flqref14_repeated_L0, h12, h20, hg17, cs4])
   have hq := q4 hrr true (by simp only [flqref14_repeated, h12, h20, hg17, hR22, cs4]); subst hq
   exact Kr () rfl (.tmp rfl .nil) [] trivial
  intro h20
  have g23 := eq_of_bne_false h20
  refine KS ?_
  refine Oq Vm (Oq Vadd (Oq Va (KS ?_)))
  exact Kg (r14, (i_4 + 1)) [0] ⟨(q3 hM5 (by simp only [flqref14_repeated_L0, h12, h20, hg17, cs4])), (by omega), (by omega), (by omega), (by omega)⟩
 intro h12
 have g24 := df h12
 obtain rfl : r3 = 0 := by omega
 refine Ke ?_
 have hR25 := q2 hM5 (.brk ()) (by simp only [flqref14_repeated_L0, h12, cs4])
 refine KS ?_
 refine Oq Va (KS ?_)
 have hq := q4 hrr false (by simp only [flqref14_repeated, h12, hR25, cs4]); subst hq
 exact Kr () rfl (.tmp rfl .nil) [] trivial
theorem fn171 (s : GSystem) (sa1 : Option Addr) (sk1 : Nat) (sa2 : Option Addr) (sk2 : Nat) (sa3 : Option Addr) (sk3 : Nat) (k : List GKnown) (ka0 : Option Addr) (kk0 : Nat) (hs_0 : i64ok s.Width) (rr : Bool) (hrr : fVK s k = rr) : FT Tryz.prog 171 #[.agg #[vi s.Width, vl sa1 sk1 s.Deps, vl sa2 sk2 s.Transfers, vl sa3 sk3 s.Boundary], vl ka0 kk0 k] [S sa1 sk1 s.Deps, S sa2 sk2 s.Transfers, S sa3 sk3 s.Boundary, S ka0 kk0 k] (fun g : Unit => True) (fun g => vb rr) (fun g => []) := by
 refine FTi Tryz.func171 fun w0 M0 F0 => ?_
 unfold i64ok at hs_0
 refine Fb 24 0 fun _ => Fb 88 1 fun _ => Fb 32 2 fun _ => Fb 40 3 fun _ => KS ?_
 refine Oa (Ab [vi s.Width, vl sa1 sk1 s.Deps, vl sa2 sk2 s.Transfers, vl sa3 sk3 s.Boundary]) fun p5 => Oq Va (KS ?_)
 refine Oq Va (KS ?_)
 refine Kl (γ := Nat × Int) (fun (r6, i_7) => ⟨[(1, vl ka0 kk0 k), (2, p5), (5, vi i_7)], [pv p5 [vi s.Width, vl sa1 sk1 s.Deps, vl sa2 sk2 s.Transfers, vl sa3 sk3 s.Boundary], S sa1 sk1 s.Deps, S sa2 sk2 s.Transfers, S sa3 sk3 s.Boundary, S ka0 kk0 k], fVK_L0 s k r6 i_7 = fVK_L0 s k (((k.length : Int) - 0).toNat) 0 ∧ r6 = ((k.length : Int) - i_7).toNat ∧ (0 : Int) ≤ i_7 ∧ i_7 ≤ (k.length : Int) ∧ (-9223372036854775808 ≤ i_7 ∧ i_7 ≤ 9223372036854775807), r6⟩) (((k.length : Int) - 0).toNat, 0) [0, 1, 2, 3, 4] ⟨rfl, rfl, (by omega), (by omega), (by omega)⟩ ?_
 rintro ⟨r6, i_7⟩ ⟨hM8, hr9, hi10, hi11, hk12⟩
 refine JJ_nx fun _ _ hL hA => ?_; dsimp only at hL hA; subst hL hA
 refine Fb 24 1 fun _ => Fb 88 2 fun _ => Fb 32 3 fun _ => Fb 40 4 fun _ => KS ?_
 refine Oq Vm (Oq Vm (Oq (Vlen sl53) (Oq Vlss (KS ?_))))
 refine Kc ?_ ?_
 ·intro h17
  have g18 := dt h17
  obtain ⟨r19, rfl⟩ := scc (n := r6) (by omega)
  refine KS ?_
  refine JJ_peek_GKnown i_7.toNat 4 rfl rng fun a20 k21 hb22 hb23 => ?_
  unfold i64ok at hb22 hb23
  refine Fb 8 1 fun _ => ?_
  refine bool_split (decide ((k.getD i_7.toNat default).Node < 0)) ?_ ?_
  ·intro h25
   have g26 := dt h25
   refine Kq [0, 0, 3, 7, 15, 31, 63, 127, 127, 511, 1023, 2047, 127, 4223, 12415, 32767, 65535, 131071, 262143, 524287, 1048575, 2097151, 2097151, 6291455, 16777215, 33554431, 67108863, 2097151, 2097151, 404750335, 941621247, 2015363071, 4294967295, 8589934591, 17179869183, 34359738367, 68719476735, 68719476735, 274877906943, 549755813887, 1099511627775, 2199023255551, 4398046511103, 8796093022207, 17592186044415, 35184372088831, 35184372088831, 140737488355327, 281474976710655, 562949953421311, 1125899906842623, 35184372088831, 2286984185774079, 9007199254740991, 18014398509481983] fmix ?_
   refine Qv [] Vm (Qv [] Vm (Qv [6] (Vi sl53 0) (Qv [0] (Vfa fo67_0 0) (Qv [0] (VldF sh3 0) (Qb h25 [] Vlss (Qv [] Vm (Qs (Qs (Qs ?_)))))))))
   refine Qs (Qs (Qs (Qs (Qs (Qs (Qv [] Vpt (Qv [] Vm (Qs (Qs ?_)))))))))
   refine Qs (Qs (Qs (Qs (Qs (Qs (Qs (Qs (Qs (Qs ?_)))))))))
   refine Qs (Qs (Qs (Qs (Qv [] Vpt (Qv [] Vm (Qs (Qs (Qs (Qs ?_)))))))))
   refine Qs (Qs (Qs (Qv [] Vpt (Qv [] Vm (Qs (Qs (Qs (Qs (Qs ?_)))))))))
   refine Qs (Qs (Qs (Qs (Qv [] Vpt ?_))))
   refine Qn ⟨by kernel_rfl, ?_⟩
   refine Kt (KS ?_)
   refine Oq Va (KS ?_)
   have hR27 := q2 hM8 (.ret false) (by simp only [fVK_L0, h17, h25, cs4])
   have hq := q4 hrr false (by simp only [fVK, h17, h25, hR27, cs4]); subst hq
   exact Kr () rfl (.tmp rfl .nil) [] trivial
  intro h25
  have g28 := df h25
  refine bool_split (decide ((s.Boundary.length : Int) ≤ (k.getD i_7.toNat default).Node)) ?_ ?_
  ·intro h29
   have g30 := dt h29
   refine Kq [0, 0, 3, 7, 15, 31, 63, 127, 127, 511, 1023, 2047, 127, 4223, 12415, 32767, 65535, 131071, 262143, 524287, 1048575, 2097151, 2097151, 6291455, 16777215, 33554431, 67108863, 2097151, 2097151, 404750335, 941621247, 2015363071, 4294967295, 8589934591, 17179869183, 34359738367, 68719476735, 68719476735, 274877906943, 549755813887, 1099511627775, 2199023255551, 4398046511103, 8796093022207, 17592186044415, 35184372088831, 35184372088831, 140737488355327, 281474976710655, 562949953421311, 1125899906842623, 35184372088831, 2286984185774079, 9007199254740991, 18014398509481983] fmix ?_
   refine Qv [] Vm (Qv [] Vm (Qv [6] (Vi sl53 0) (Qv [0] (Vfa fo67_0 0) (Qv [0] (VldF sh3 0) (Qb h25 [] Vlss (Qv [] Vm (Qv [] Vm (Qv [] Vm (Qv [6] (Vi sl53 0) ?_)))))))))
   refine Qv [0] (Vfa fo67_0 0) (Qv [0] (VldF sh3 0) (Qv [2] (Vfa fo27_3 0) (Qv [2] (VldF sh25 0) (Qv [] (Vlen sl25) (Qb h29 [] Vgeq (Qv [] Vpf (Qv [] Vm (Qs (Qs ?_)))))))))
   refine Qs (Qs (Qs (Qs (Qs (Qs (Qs (Qs (Qs (Qs ?_)))))))))
   refine Qs (Qs (Qs (Qs (Qv [] Vpt (Qv [] Vm (Qs (Qs (Qs (Qs ?_)))))))))
   refine Qs (Qs (Qs (Qv [] Vpt (Qv [] Vm (Qs (Qs (Qs (Qs (Qs ?_)))))))))
   refine Qs (Qs (Qs (Qs (Qv [] Vpt ?_))))
   refine Qn ⟨by kernel_rfl, ?_⟩
   refine Kt (KS ?_)
   refine Oq Va (KS ?_)
   have hR31 := q2 hM8 (.ret false) (by simp only [fVK_L0, h17, h25, h29, cs4])
   have hq := q4 hrr false (by simp only [fVK, h17, h25, h29, hR31, cs4]); subst hq
   exact Kr () rfl (.tmp rfl .nil) [] trivial
  intro h29
  have g32 := df h29
  refine bool_split (decide (0 < i_7)) ?_ ?_
  ·intro h33
   have g34 := dt h33
   refine JJ_peek_GKnown ((i_7 - 1) : Int).toNat 6 rfl rng fun a35 k36 hb37 hb38 => ?_
   unfold i64ok at hb37 hb38
   refine Fb 8 1 fun _ => ?_
   refine JK_drawK [0, 0, 3, 7, 15, 31, 63, 127, 127, 511, 1023, 2047, 127, 4223, 12415, 32767, 65535, 131071, 262143, 524287, 1048575, 2097151, 2097151, 6291455, 16777215, 33554431, 67108863, 2097151, 2097151, 404750335, 941621247, 2015363071, 4294967295, 8589934591, 17179869183, 34359738367, 68719476735, 68719476735, 274877906943, 549755813887, 1099511627775, 2199023255551, 4398046511103, 8796093022207, 17592186044415, 35184372088831, 35184372088831, 140737488355327, 281474976710655, 562949953421311, 1125899906842623, 35184372088831, 2286984185774079, 9007199254740991, 18014398509481983] fmix ?_
   refine Dv [] Vm (Dv [] Vm (Dv [8] (Vi sl53 0) (Dv [2] (Vfa fo67_0 0) (Dv [2] (VldF sh3 0) (Db h25 [] Vlss (Dv [] Vm (Dv [] Vm (Dv [] Vm (Dv [8] (Vi sl53 0) ?_)))))))))
   refine Dv [2] (Vfa fo67_0 0) (Dv [2] (VldF sh3 0) (Dv [4] (Vfa fo27_3 0) (Dv [4] (VldF sh25 0) (Dv [] (Vlen sl25) (Db h29 [] Vgeq (Dv [] Vpf (Dv [] Vm (Dv [] Vm (Db h33 [] Vgtr ?_)))))))))
   refine Dv [] Vm (Dv [] Vm (Dv [] Vm (Dv [] Vsub (Dv [8] (Vi sl53 0) (Dv [0] (Vfa fo67_0 0) (Dv [0] (VldF sh3 0) (Dv [] Vm (Dv [] Vm (Dv [8] (Vi sl53 0) ?_)))))))))
   refine Dv [2] (Vfa fo67_0 0) (Dv [2] (VldF sh3 0) (Dv [] Vgeq (Dv [] Vpt (Dv [] Vpf ?_))))
   refine bool_split (decide ((k.getD i_7.toNat default).Node ≤ (k.getD ((i_7 - 1) : Int).toNat default).Node)) ?_ ?_
   ·intro h40
    have g41 := dt h40
    refine Db h40 [] Vm (Ds (Ds (Ds (Ds (Ds (Ds (Ds (Dv [] Vpt (Dv [] Vm ?_)))))))))
    refine Ds (Ds (Ds (Ds (Ds (Ds (Ds (Ds (Ds (Dv [] Vpt ?_)))))))))
    refine Dn ⟨by kernel_rfl, fun G => ?_⟩
    refine Jw2 [(1, vl ka0 kk0 k), (2, p5), (5, vi i_7), (66, vb true)] [0, 1, 2, 3, 4, 5, 6, 7, 8] [] ?_
    refine Kt (KS ?_)
    refine Oq Va (KS ?_)
    have hR42 := q2 hM8 (.ret false) (by simp only [fVK_L0, h17, h25, h29, h33, h40, cs4])
    have hq := q4 hrr false (by simp only [fVK, h17, h25, h29, h33, h40, hR42, cs4]); subst hq
    exact Kr () rfl (.tmp rfl .nil) [] trivial
   intro h40
   have g43 := df h40
   refine Db h40 [] Vm (Dv [] Vm (Dv [] Vm (Dv [8] (Vi sl53 0) (Dv [2] (Vfa fo67_1 0) (Dv [2] (VldG sh42 0 [vi (((k.getD i_7.toNat default).Value).Width), vl a20 k21 (((k.getD i_7.toNat default).Value).Words)]) ?_)))))
   refine letv (flqref1_Valid ((k.getD i_7.toNat default).Value)) fun rv44 hg45 => ?_
   refine Dx [3] [] [1, 0] (fun G => vb rv44) [fun G => SP.fact (True)] (fun G => xC [0] ca91 (fn91 (((k.getD i_7.toNat default).Value)) a20 k21 pre rv44 hg45)) (Dv [] Vnot (Dv [] Vpf ?_))
   refine bool_split (!rv44) ?_ ?_
   ·intro h46
    have h48 := not_true h46
    refine Db h46 [] Vm (Ds (Ds (Ds (Ds (Ds (Ds (Ds (Ds (Ds ?_)))))))))
    refine Dv [] Vpt ?_
    refine Dn ⟨by kernel_rfl, fun G => ?_⟩
    refine Jw2 [(1, vl ka0 kk0 k), (2, p5), (5, vi i_7), (66, vb true)] [0, 1, 2, 3, 4, 5, 6, 7, 8] [SP.fact (True)] ?_
    refine Jk [0, 1, 2, 3, 4, 5, 6, 7, 8] (Kt ?_)
    refine KS ?_
    refine Oq Va (KS ?_)
    have hR50 := q2 hM8 (.ret false) (by simp only [fVK_L0, h17, h25, h29, h33, h40, h46, h48, hg45, cs4])
    have hq := q4 hrr false (by simp only [fVK, h17, h25, h29, h33, h40, h46, h48, hg45, hR50, cs4]); subst hq
    exact Kr () rfl (.tmp rfl .nil) [] trivial
   intro h46
   have h52 := not_false h46
   refine Db h46 [] Vm (Dv [] Vm (Dv [] Vm (Dv [8] (Vi sl53 0) (Dv [2] (Vfa fo67_1 0) (Dv [2] (VfaF fo42_0 0) (Dv [2] (VldF sh3 0) (Dv [4] (Vfa fo27_0 0) (Dv [4] (VldF sh3 0) (Dv [] Vneq ?_)))))))))
   refine Dv [] Vpf ?_
   refine Dn ⟨by kernel_rfl, fun G => ?_⟩
   refine Jw2 [(1, vl ka0 kk0 k), (2, p5), (5, vi i_7), (66, vb (((k.getD i_7.toNat default).Value).Width != s.Width))] [0, 1, 2, 3, 4, 5, 6, 7, 8] [SP.fact (True)] ?_
   refine Jk [0, 1, 2, 3, 4, 5, 6, 7, 8] ?_
   refine Kc ?_ ?_
   ·intro h54
    have g55 := ne_of_bne h54
    refine KS ?_
    refine Oq Va (KS ?_)
    have hR56 := q2 hM8 (.ret false) (by simp only [fVK_L0, h17, h25, h29, h33, h40, h46, h52, h54, hg45, cs4])
    have hq := q4 hrr false (by simp only [fVK, h17, h25, h29, h33, h40, h46, h52, h54, hg45, hR56, cs4]); subst hq
    exact Kr () rfl (.tmp rfl .nil) [] trivial
   intro h54
   have g57 := eq_of_bne_false h54
   refine KS ?_
   refine Oq Vm (Oq Vadd (Oq Va (KS ?_)))
   exact Kg (r19, (i_7 + 1)) [4, 5, 6, 7, 8] ⟨(q3 hM8 (by simp only [fVK_L0, h17, h25, h29, h33, h40, h46, h52, h54, hg45, cs4])), (by omega), (by omega), (by omega), (by omega)⟩
  intro h33
  have g58 := df h33
  refine JK_drawK [0, 0, 3, 7, 15, 31, 63, 127, 127, 511, 1023, 2047, 127, 4223, 12415, 32767, 65535, 131071, 262143, 524287, 1048575, 2097151, 2097151, 6291455, 16777215, 33554431, 67108863, 2097151, 2097151, 404750335, 941621247, 2015363071, 4294967295, 8589934591, 17179869183, 34359738367, 68719476735, 68719476735, 274877906943, 549755813887, 1099511627775, 2199023255551, 4398046511103, 8796093022207, 17592186044415, 35184372088831, 35184372088831, 140737488355327, 281474976710655, 562949953421311, 1125899906842623, 35184372088831, 2286984185774079, 9007199254740991, 18014398509481983] fmix ?_
  refine Dv [] Vm (Dv [] Vm (Dv [6] (Vi sl53 0) (Dv [0] (Vfa fo67_0 0) (Dv [0] (VldF sh3 0) (Db h25 [] Vlss (Dv [] Vm (Dv [] Vm (Dv [] Vm (Dv [6] (Vi sl53 0) ?_)))))))))
  refine Dv [0] (Vfa fo67_0 0) (Dv [0] (VldF sh3 0) (Dv [2] (Vfa fo27_3 0) (Dv [2] (VldF sh25 0) (Dv [] (Vlen sl25) (Db h29 [] Vgeq (Dv [] Vpf (Dv [] Vm (Dv [] Vm (Db h33 [] Vgtr ?_)))))))))
  refine Dv [] Vm (Ds (Ds (Ds (Ds (Ds (Ds (Ds (Ds (Ds ?_)))))))))
  refine Ds (Ds (Ds (Dv [] Vpf (Dv [] Vpf (Dv [] Vm (Dv [] Vm (Dv [] Vm (Dv [6] (Vi sl53 0) (Dv [0] (Vfa fo67_1 0) ?_)))))))))
  refine Dv [0] (VldG sh42 0 [vi (((k.getD i_7.toNat default).Value).Width), vl a20 k21 (((k.getD i_7.toNat default).Value).Words)]) ?_
  refine letv (flqref1_Valid ((k.getD i_7.toNat default).Value)) fun rv59 hg60 => ?_
  refine Dx [1] [] [1, 0] (fun G => vb rv59) [fun G => SP.fact (True)] (fun G => xC [0] ca91 (fn91 (((k.getD i_7.toNat default).Value)) a20 k21 pre rv59 hg60)) (Dv [] Vnot (Dv [] Vpf ?_))
  refine bool_split (!rv59) ?_ ?_
  ·intro h61
   have h63 := not_true h61
   refine Db h61 [] Vm (Ds (Ds (Ds (Ds (Ds (Ds (Ds (Ds (Ds ?_)))))))))
   refine Dv [] Vpt ?_
   refine Dn ⟨by kernel_rfl, fun G => ?_⟩
   refine Jw2 [(1, vl ka0 kk0 k), (2, p5), (5, vi i_7), (66, vb true)] [0, 1, 2, 3, 4, 5, 6] [SP.fact (True)] ?_
   refine Jk [0, 1, 2, 3, 4, 5, 6] (Kt ?_)
   refine KS ?_
   refine Oq Va (KS ?_)
   have hR65 := q2 hM8 (.ret false) (by simp only [fVK_L0, h17, h25, h29, h33, h61, h63, hg60, cs4])
   have hq := q4 hrr false (by simp only [fVK, h17, h25, h29, h33, h61, h63, hg60, hR65, cs4]); subst hq
   exact Kr () rfl (.tmp rfl .nil) [] trivial
  intro h61
  have h67 := not_false h61
  refine Db h61 [] Vm (Dv [] Vm (Dv [] Vm (Dv [6] (Vi sl53 0) (Dv [0] (Vfa fo67_1 0) (Dv [0] (VfaF fo42_0 0) (Dv [0] (VldF sh3 0) (Dv [2] (Vfa fo27_0 0) (Dv [2] (VldF sh3 0) (Dv [] Vneq ?_)))))))))
  refine Dv [] Vpf ?_
  refine Dn ⟨by kernel_rfl, fun G => ?_⟩
  refine Jw2 [(1, vl ka0 kk0 k), (2, p5), (5, vi i_7), (66, vb (((k.getD i_7.toNat default).Value).Width != s.Width))] [0, 1, 2, 3, 4, 5, 6] [SP.fact (True)] ?_
  refine Jk [0, 1, 2, 3, 4, 5, 6] ?_
  refine Kc ?_ ?_
  ·intro h69
   have g70 := ne_of_bne h69
   refine KS ?_
   refine Oq Va (KS ?_)
   have hR71 := q2 hM8 (.ret false) (by simp only [fVK_L0, h17, h25, h29, h33, h61, h67, h69, hg60, cs4])
   have hq := q4 hrr false (by simp only [fVK, h17, h25, h29, h33, h61, h67, h69, hg60, hR71, cs4]); subst hq
   exact Kr () rfl (.tmp rfl .nil) [] trivial
  intro h69
  have g72 := eq_of_bne_false h69
  refine KS ?_
  refine Oq Vm (Oq Vadd (Oq Va (KS ?_)))
  exact Kg (r19, (i_7 + 1)) [2, 3, 4, 5, 6] ⟨(q3 hM8 (by simp only [fVK_L0, h17, h25, h29, h33, h61, h67, h69, hg60, cs4])), (by omega), (by omega), (by omega), (by omega)⟩
 intro h17
 have g73 := df h17
 obtain rfl : r6 = 0 := by omega
 refine Ke ?_
 have hR74 := q2 hM8 (.brk ()) (by simp only [fVK_L0, h17, cs4])
 refine KS ?_
 refine Oq Va (KS ?_)
 have hq := q4 hrr true (by simp only [fVK, h17, hR74, cs4]); subst hq
 exact Kr () rfl (.tmp rfl .nil) [] trivial
theorem fn172 (n : Int) (hn_0 : i64ok n) (rr : Bool) (hrr : flqref14_counter n = rr) : FT Tryz.prog 172 #[vi n] [] (fun g : Unit => True) (fun g => vb rr) (fun g => []) := by
 refine FTi Tryz.func172 fun w0 M0 F0 => ?_
 unfold i64ok at hn_0
 refine KS ?_
 refine Oq Va (KS ?_)
 refine Oq Vm (Oq Vgeq (Oq Vm ?_))
 refine Js 5 ?_ ?_
 ·intro h1
  have g2 := dt h1
  refine Oq Vm (Oq Vleq (Oq Vpt (Oq Va (KS ?_))))
  have hq := q4 hrr (decide (n ≤ 1073741824)) (by simp only [flqref14_counter, h1, cs4]); subst hq
  exact Kr () rfl (.tmp rfl .nil) [] trivial
 intro h1
 have g3 := df h1
 refine Osk (Osk (Oq Vpf (Oq Va (KS ?_))))
 have hq := q4 hrr false (by simp only [flqref14_counter, h1, cs4]); subst hq
 exact Kr () rfl (.tmp rfl .nil) [] trivial
theorem fn132 (k : List GKnown) (ka0 : Option Addr) (kk0 : Nat) (n : Int) (hn_0 : i64ok n) (rr : Int) (hrr : flqref14_find k n = rr) : FT Tryz.prog 132 #[vl ka0 kk0 k, vi n] [S ka0 kk0 k] (fun g : Unit => i64ok rr ∧ (-1 ≤ rr ∧ rr < (k.length : Int))) (fun g => vi rr) (fun g => []) := by
 refine FTi Tryz.func132 fun w0 M0 F0 => ?_
 unfold i64ok at hn_0
 refine Fb 40 0 fun _ => KS ?_
 refine Oq Va (KS ?_)
 refine Oq Va (KS ?_)
 refine Kl (γ := Nat × Int) (fun (r2, i_3) => ⟨[(0, vl ka0 kk0 k), (1, vi n), (5, vi i_3)], [S ka0 kk0 k], flqref14_find_L0 k n r2 i_3 = flqref14_find_L0 k n (((k.length : Int) - 0).toNat) 0 ∧ r2 = ((k.length : Int) - i_3).toNat ∧ (0 : Int) ≤ i_3 ∧ i_3 ≤ (k.length : Int) ∧ (-9223372036854775808 ≤ i_3 ∧ i_3 ≤ 9223372036854775807), r2⟩) (((k.length : Int) - 0).toNat, 0) [0] ⟨rfl, rfl, (by omega), (by omega), (by omega)⟩ ?_
 rintro ⟨r2, i_3⟩ ⟨hM4, hr5, hi6, hi7, hk8⟩
 refine JJ_nx fun _ _ hL hA => ?_; dsimp only at hL hA; subst hL hA
 refine Fb 40 0 fun _ => KS ?_
 refine Oq Vm (Oq Vm (Oq (Vlen sl53) (Oq Vlss (KS ?_))))
 refine Kc ?_ ?_
 ·intro h10
  have g11 := dt h10
  obtain ⟨r12, rfl⟩ := scc (n := r2) (by omega)
  refine KS ?_
  refine Oq Vm (Oq Vm (Oq (Vi sl53 0) ?_))
  refine JJ_peek_GKnown i_3.toNat 0 rfl rng fun a13 k14 hb15 hb16 => ?_
  unfold i64ok at hb15 hb16
  refine Fb 8 1 fun _ => ?_
  refine Oq (Vfa fo67_0 0) (Oq (VldF sh3 0) (Oq Vm (Oq Veql (KS ?_))))
  refine Kc ?_ ?_
  ·intro h18
   have g19 := eq_of_beq h18
   refine KS ?_
   refine Oq Vm (Oq Va (KS ?_))
   have hR20 := q2 hM4 (.ret i_3) (by simp only [flqref14_find_L0, h10, h18, cs4])
   have hq := q4 hrr i_3 (by simp only [flqref14_find, h10, h18, hR20, cs4]); subst hq
   exact Kr () rfl (.tmp rfl .nil) [] en
  intro h18
  have g21 := ne_of_beq_false h18
  refine KS ?_
  refine Oq Vm (Oq Vadd (Oq Va (KS ?_)))
  exact Kg (r12, (i_3 + 1)) [2] ⟨(q3 hM4 (by simp only [flqref14_find_L0, h10, h18, cs4])), (by omega), (by omega), (by omega), (by omega)⟩
 intro h10
 have g22 := df h10
 obtain rfl : r2 = 0 := by omega
 refine Ke ?_
 have hR23 := q2 hM4 (.brk ()) (by simp only [flqref14_find_L0, h10, cs4])
 refine KS ?_
 refine Oq Va (KS ?_)
 have hq := q4 hrr (-1) (by simp only [flqref14_find, h10, hR23, cs4]); subst hq
 exact Kr () rfl (.tmp rfl .nil) [] en
theorem fn231 (s : GSystem) (sa1 : Option Addr) (sk1 : Nat) (sa2 : Option Addr) (sk2 : Nat) (sa3 : Option Addr) (sk3 : Nat) (cone : List Int) (conea0 : Option Addr) (conek0 : Nat) (n : Int) (count : Int) (hs_0 : i64ok s.Width) (hn_0 : i64ok n) (hcount_0 : i64ok count) (hn : 0 ≤ n ∧ n < (s.Deps.length : Int)) (hc : count ≤ ((s.Deps.getD n.toNat []).length : Int)) (rr : Bool) (hrr : flqref14_expanded s cone n count = rr) : FT Tryz.prog 231 #[.agg #[vi s.Width, vl sa1 sk1 s.Deps, vl sa2 sk2 s.Transfers, vl sa3 sk3 s.Boundary], vl conea0 conek0 cone, vi n, vi count] [S sa1 sk1 s.Deps, S sa2 sk2 s.Transfers, S sa3 sk3 s.Boundary, S conea0 conek0 cone] (fun g : Unit => True) (fun g => vb rr) (fun g => []) := by
 refine FTi Tryz.func231 fun w0 M0 F0 => ?_
 unfold i64ok at hs_0 hn_0 hcount_0
 refine Fb 24 0 fun _ => Fb 88 1 fun _ => Fb 32 2 fun _ => Fb 8 3 fun _ => Fo 3 fun ho5 => KS ?_
 refine Oa (Ab [vi s.Width, vl sa1 sk1 s.Deps, vl sa2 sk2 s.Transfers, vl sa3 sk3 s.Boundary]) fun p6 => Oq Va (KS ?_)
 refine Oq Va (KS ?_)
 refine Kl (γ := Nat × Int) (fun (r7, k_8) => ⟨[(1, vl conea0 conek0 cone), (2, vi n), (3, vi count), (4, p6), (9, vi k_8)], [pv p6 [vi s.Width, vl sa1 sk1 s.Deps, vl sa2 sk2 s.Transfers, vl sa3 sk3 s.Boundary], S sa1 sk1 s.Deps, S sa2 sk2 s.Transfers, S sa3 sk3 s.Boundary, S conea0 conek0 cone], flqref14_expanded_L0 s cone n r7 k_8 = flqref14_expanded_L0 s cone n (((count : Int) - 0).toNat) 0 ∧ r7 = ((count : Int) - k_8).toNat ∧ (0 : Int) ≤ k_8 ∧ (k_8 ≤ count ∨ k_8 = 0) ∧ (-9223372036854775808 ≤ k_8 ∧ k_8 ≤ 9223372036854775807), r7⟩) (((count : Int) - 0).toNat, 0) [0, 1, 2, 3, 4] ⟨rfl, rfl, (by omega), (.inr rfl), (by omega)⟩ ?_
 rintro ⟨r7, k_8⟩ ⟨hM9, hr10, hi11, hi12, hk13⟩
 refine JJ_nx fun _ _ hL hA => ?_; dsimp only at hL hA; subst hL hA
 refine Fb 24 1 fun _ => Fb 88 2 fun _ => Fb 32 3 fun _ => Fb 8 4 fun _ => Fo 4 fun ho18 => KS ?_
 refine Oq Vm (Oq Vm (Oq Vlss (KS ?_)))
 refine Kc ?_ ?_
 ·intro h19
  have g20 := dt h19
  obtain ⟨r21, rfl⟩ := scc (n := r7) (by omega)
  refine KS ?_
  refine Oq Vm (Oq (Vfa fo27_1 0) (Oq (VldF sh23 0) (Oq Vm (Oq (Vi sl23 1) ?_))))
  refine JJ_peekL n.toNat 1 rfl rng fun a22 k23 => ?_
  refine Fb 8 1 fun _ => Fo 1 fun ho25 => ?_
  refine Oq (Vld sh22 0) (Oq Vm (Oq (Vi sl22 1) ?_))
  have hb26 := ok1 (i := k_8.toNat) ho25 rng
  refine Oq (VldI sh3 1) ?_
  refine letv (flqref7_Has cone ((s.Deps.getD n.toNat []).getD k_8.toNat 0)) fun rv27 hg28 => ?_
  have hc29 := fn99 cone conea0 conek0 (((s.Deps.getD n.toNat []).getD k_8.toNat 0)) pre rv27 hg28
  refine Oc [6] ca99 hc29 ?_
  rintro - -
  refine Oq Vnot (KS ?_)
  refine Kc ?_ ?_
  ·intro h30
   have h32 := not_true h30
   refine KS ?_
   refine Oq Va (KS ?_)
   have hR34 := q2 hM9 (.ret false) (by simp only [flqref14_expanded_L0, h19, h30, h32, hg28, cs4])
   have hq := q4 hrr false (by simp only [flqref14_expanded, h19, h30, h32, hg28, hR34, cs4]); subst hq
   exact Kr () rfl (.tmp rfl .nil) [] trivial
  intro h30
  have h36 := not_false h30
  refine KS ?_
  refine Oq Vm (Oq Vadd (Oq Va (KS ?_)))
  exact Kg (r21, (k_8 + 1)) [2, 3, 4, 5, 6] ⟨(q3 hM9 (by simp only [flqref14_expanded_L0, h19, h30, h36, hg28, cs4])), (by omega), (by omega), (by omega), (by omega)⟩
 intro h19
 have g38 := df h19
 obtain rfl : r7 = 0 := by omega
 refine Ke ?_
 have hR39 := q2 hM9 (.brk ()) (by simp only [flqref14_expanded_L0, h19, cs4])
 refine KS ?_
 refine Oq Va (KS ?_)
 have hq := q4 hrr true (by simp only [flqref14_expanded, h19, hR39, cs4]); subst hq
 exact Kr () rfl (.tmp rfl .nil) [] trivial
theorem fn173 (s : GSystem) (sa1 : Option Addr) (sk1 : Nat) (sa2 : Option Addr) (sk2 : Nat) (sa3 : Option Addr) (sk3 : Nat) (k : List GKnown) (ka0 : Option Addr) (kk0 : Nat) (st : GState) (sta1 : Option Addr) (stk1 : Nat) (sta2 : Option Addr) (stk2 : Nat) (sta5 : Option Addr) (stk5 : Nat) (sta6 : Option Addr) (stk6 : Nat) (hs_0 : i64ok s.Width) (hst_0 : i64ok st.Phase) (hst_3 : i64ok st.At) (hst_4 : i64ok st.Edge) (hst_7 : i64ok st.Steps) (hv : VSys s) (hlf : st.Leaf.length = st.Cone.length) (hcl : st.Cone.length ≤ 256) (hcr : ∀ x ∈ st.Cone, 0 ≤ x ∧ x < (s.Deps.length : Int)) (rr : Bool) (hrr : flqref14_validDemand s k st = rr) : FT Tryz.prog 173 #[.agg #[vi s.Width, vl sa1 sk1 s.Deps, vl sa2 sk2 s.Transfers, vl sa3 sk3 s.Boundary], vl ka0 kk0 k, .agg #[vi st.Phase, vl sta1 stk1 st.Cone, vl sta2 stk2 st.Leaf, vi st.At, vi st.Edge, vl sta5 stk5 st.Values, vl sta6 stk6 st.Queue, vi st.Steps]] [S sa1 sk1 s.Deps, S sa2 sk2 s.Transfers, S sa3 sk3 s.Boundary, S ka0 kk0 k, S sta1 stk1 st.Cone, S sta2 stk2 st.Leaf, S sta5 stk5 st.Values, S sta6 stk6 st.Queue] (fun g : Unit => True) (fun g => vb rr) (fun g => []) := by
 refine FTi Tryz.func173 fun w0 M0 F0 => ?_
 unfold i64ok at hs_0 hst_0 hst_3 hst_4 hst_7
 refine Fb 24 0 fun _ => Fb 88 1 fun _ => Fb 32 2 fun _ => Fb 40 3 fun _ => Fb 8 4 fun _ => Fo 4 fun ho6 => Fb 1 5 fun _ => Fb 32 6 fun _ => ?_
 refine Fb 8 7 fun _ => Fo 7 fun ho10 => ?_
 have hv1 := hv.n
 have hv2 := hv.tl
 have hv3 := hv.bl
 have hv4 := hv.w
 have hv5 := hv.dep_len
 refine KS ?_
 refine Oa (Ab [vi s.Width, vl sa1 sk1 s.Deps, vl sa2 sk2 s.Transfers, vl sa3 sk3 s.Boundary]) fun p11 => Oa (Ab [vi st.Phase, vl sta1 stk1 st.Cone, vl sta2 stk2 st.Leaf, vi st.At, vi st.Edge, vl sta5 stk5 st.Values, vl sta6 stk6 st.Queue, vi st.Steps]) fun p12 => Oq Va (KS ?_)
 refine Oq (Vfa fo59_3 0) (Oq (VldF sh3 0) (Oq Vlss (Oq Vm ?_)))
 refine Js 13 ?_ ?_
 ·intro h13
  have g14 := dt h13
  refine Osk (Osk (Osk (Osk (Osk (Osk (Oq Vpt (Oq Vm (Osk (Osk ?_)))))))))
  refine Osk (Osk (Oq Vpt (Oq Vm (Osk (Osk (Osk (Osk (Oq Vpt (KS ?_)))))))))
  refine Kt (KS ?_)
  refine Oq Va (KS ?_)
  have hq := q4 hrr false (by simp only [flqref14_validDemand, h13, cs4]); subst hq
  exact Kr () rfl (.tmp rfl .nil) [] trivial
 intro h13
 have g15 := df h13
 refine Oq (Vfa fo59_3 0) (Oq (VldF sh3 0) (Oq (Vfa fo59_1 0) (Oq (VldF sh22 0) (Oq (Vlen sl22) (Oq Vgeq (Oq Vpf (Oq Vm ?_)))))))
 refine Js 21 ?_ ?_
 ·intro h16
  have g17 := dt h16
  refine Osk (Osk (Osk (Osk (Oq Vpt (Oq Vm (Osk (Osk (Osk (Osk ?_)))))))))
  refine Oq Vpt (KS ?_)
  refine Kt (KS ?_)
  refine Oq Va (KS ?_)
  have hq := q4 hrr false (by simp only [flqref14_validDemand, h13, h16, cs4]); subst hq
  exact Kr () rfl (.tmp rfl .nil) [] trivial
 intro h16
 have g18 := df h16
 have hq := hcr _ (getD_mem (xs := st.Cone) (i := st.At.toNat) (d := 0) (by omega))
 refine Oq (Vfa fo59_5 0) (Oq (VldF sh25 0) (Oq (Vlen sl25) (Oq Vgtr (Oq Vpf (Oq Vm ?_)))))
 refine Js 27 ?_ ?_
 ·intro h19
  have g20 := dt h19
  refine Osk (Osk (Osk (Osk (Oq Vpt (KS ?_)))))
  refine Kt (KS ?_)
  refine Oq Va (KS ?_)
  have hq := q4 hrr false (by simp only [flqref14_validDemand, h13, h16, h19, cs4]); subst hq
  exact Kr () rfl (.tmp rfl .nil) [] trivial
 intro h19
 have g21 := df h19
 refine Oq (Vfa fo59_6 0) (Oq (VldF sh22 0) (Oq (Vlen sl22) (Oq Vgtr (Oq Vpf (KS ?_)))))
 refine Kc ?_ ?_
 ·intro h22
  have g23 := dt h22
  refine KS ?_
  refine Oq Va (KS ?_)
  have hq := q4 hrr false (by simp only [flqref14_validDemand, h13, h16, h19, h22, cs4]); subst hq
  exact Kr () rfl (.tmp rfl .nil) [] trivial
 intro h22
 have g24 := df h22
 refine KS ?_
 refine Oq Va (KS ?_)
 refine Kl (γ := Nat × Int) (fun (r25, i_26) => ⟨[(1, vl ka0 kk0 k), (3, p11), (5, p12), (7, vi i_26)], [pv p12 [vi st.Phase, vl sta1 stk1 st.Cone, vl sta2 stk2 st.Leaf, vi st.At, vi st.Edge, vl sta5 stk5 st.Values, vl sta6 stk6 st.Queue, vi st.Steps], pv p11 [vi s.Width, vl sa1 sk1 s.Deps, vl sa2 sk2 s.Transfers, vl sa3 sk3 s.Boundary], S sa1 sk1 s.Deps, S sa2 sk2 s.Transfers, S sa3 sk3 s.Boundary, S ka0 kk0 k, S sta1 stk1 st.Cone, S sta2 stk2 st.Leaf, S sta5 stk5 st.Values, S sta6 stk6 st.Queue], flqref14_validDemand_L0 s k st r25 i_26 = flqref14_validDemand_L0 s k st (((st.Cone.length : Int) - 0).toNat) 0 ∧ r25 = ((st.Cone.length : Int) - i_26).toNat ∧ (0 : Int) ≤ i_26 ∧ i_26 ≤ (st.Cone.length : Int) ∧ (-9223372036854775808 ≤ i_26 ∧ i_26 ≤ 9223372036854775807), r25⟩) (((st.Cone.length : Int) - 0).toNat, 0) [0, 1, 2, 3, 4, 5, 6, 7, 8, 9] ⟨rfl, rfl, (by omega), (by omega), (by omega)⟩ ?_
 rintro ⟨r25, i_26⟩ ⟨hM27, hr28, hi29, hi30, hk31⟩
 refine JJ_nx fun _ _ hL hA => ?_; dsimp only at hL hA; subst hL hA
 refine Fb 24 2 fun _ => Fb 88 3 fun _ => Fb 32 4 fun _ => Fb 40 5 fun _ => Fb 8 6 fun _ => Fo 6 fun ho37 => Fb 1 7 fun _ => Fb 32 8 fun _ => ?_
 refine Fb 8 9 fun _ => Fo 9 fun ho41 => KS ?_
 refine Oq Vm (Oq (Vfa fo59_1 0) (Oq (VldF sh22 0) (Oq (Vlen sl22) (Oq Vlss (KS ?_)))))
 refine Kc ?_ ?_
 ·intro h42
  have g43 := dt h42
  have hq := hcr _ (getD_mem (xs := st.Cone) (i := i_26.toNat) (d := 0) (by omega))
  obtain ⟨r44, rfl⟩ := scc (n := r25) (by omega)
  refine KS ?_
  refine Oq Vm (Oq (Vfa fo59_3 0) (Oq (VldF sh3 0) (Oq Vlss (Oq Vm ?_))))
  refine Js 44 ?_ ?_
  ·intro h45
   have g46 := dt h45
   refine Oq Vm (Oq (Vfa fo59_1 0) (Oq (VldF sh22 0) (Oq Vm (Oq (Vi sl22 6) ?_))))
   have hb47 := ok1 (i := i_26.toNat) ho37 rng
   refine Oq (VldI sh3 6) ?_
   refine letv (flqref14_find k (st.Cone.getD i_26.toNat 0)) fun rv48 hg49 => ?_
   have hc50 := fn132 k ka0 kk0 ((st.Cone.getD i_26.toNat 0)) pre rv48 hg49
   refine Oc [5] ca132 hc50 ?_
   rintro - ⟨he51, he52⟩
   unfold i64ok at he51
   refine Oq Vgeq (Oq Vpt (Oq Va (KS ?_)))
   refine bool_split (!((st.Leaf.getD i_26.toNat false) == (decide (0 ≤ rv48)))) ?_ ?_
   ·intro h53
    refine Kq [0, 1, 0, 7, 15, 0, 63, 127, 255, 255, 767, 2047, 4095, 8191, 16383, 32767, 65535, 131071, 131071, 393215, 131071, 1179647, 131071, 7471103, 15859711, 131071, 33685503, 131071, 134348799, 131071, 939655167, 2013396991, 4261543935, 8556511231, 17146445823, 34359738367, 68719476735, 137438953471, 274877906943] fmix ?_
    refine Qv [0] (Vfa fo59_2 0) (Qv [0] (VldF sh57 0) (Qv [] Vm (Qv [7] (Vi sl57 0) (Qv [7] (VldB sh4 0) (Qv [] Vm (Qb h53 [] (Vnb un4) (Qv [] Vm (Qs (Qs ?_)))))))))
    refine Qs (Qs (Qs (Qs (Qs (Qs (Qs (Qs (Qs (Qs ?_)))))))))
    refine Qs (Qs (Qs (Qs (Qs (Qs (Qs (Qs (Qs (Qs ?_)))))))))
    refine Qs (Qs (Qs (Qs (Qs (Qs (Qs (Qs (Qv [] Vpt ?_))))))))
    refine Qn ⟨by kernel_rfl, ?_⟩
    refine Kt (KS ?_)
    refine Oq Va (KS ?_)
    have hR55 := q2 hM27 (.ret false) (by simp only [flqref14_validDemand_L0, h13, h16, h19, h22, h42, h45, h53, hg49, cs4])
    have hq := q4 hrr false (by simp only [flqref14_validDemand, h13, h16, h19, h22, h42, h45, h53, hg49, hR55, cs4]); subst hq
    exact Kr () rfl (.tmp rfl .nil) [] trivial
   intro h53
   refine bool_split (decide (i_26 < st.At)) ?_ ?_
   ·intro h57
    have g58 := dt h57
    refine bool_split (!(decide (0 ≤ rv48))) ?_ ?_
    ·intro h59
     have h61 := not_true h59
     have h63 := h53; rw [h61] at h63
     have g62 := df h61
     refine JJ_peekL ((st.Cone.getD i_26.toNat 0) : Int).toNat 2 rfl rng fun a64 k65 => ?_
     refine Fb 8 1 fun _ => Fo 1 fun ho67 => ?_
     refine JK_drawK [0, 1, 0, 7, 15, 0, 63, 127, 255, 255, 767, 2047, 4095, 8191, 16383, 32767, 65535, 131071, 131071, 393215, 131071, 1179647, 131071, 7471103, 15859711, 131071, 33685503, 131071, 134348799, 131071, 939655167, 2013396991, 4261543935, 8556511231, 17146445823, 34359738367, 68719476735, 137438953471, 274877906943] fmix ?_
     refine Dv [2] (Vfa fo59_2 0) (Dv [2] (VldF sh57 0) (Dv [] Vm (Dv [9] (Vi sl57 0) (Dv [9] (VldB sh4 0) (Dv [] Vm (Db h53 [] (Vnb un4) (Dv [] Vm (Dv [] Vm (Dv [2] (Vfa fo59_3 0) ?_)))))))))
     refine Dv [2] (VldF sh3 0) (Db h57 [] Vlss (Dv [] Vm (Dv [] Vm (Db h59 [] Vnot (Dv [] Vpt (Dv [] Vm (Dv [3] (VldA sh27 0) (Dv [2] (Vfa fo59_1 0) (Dv [2] (VldF sh22 0) ?_)))))))))
     refine Dv [2] (Vfa fo59_1 0) (Dv [2] (VldF sh22 0) (Dv [] Vm (Dv [8] (Vi sl22 0) ?_)))
     have hb68 := ok1 (i := i_26.toNat) ho37 rng
     refine Dv [8] (VldI sh3 0) (Dv [3] (Vfa fo27_1 0) (Dv [3] (VldF sh23 0) (Dv [2] (Vfa fo59_1 0) (Dv [2] (VldF sh22 0) (Dv [] Vm (Dv [8] (Vi sl22 0) ?_))))))
     have hb69 := ok1 (i := i_26.toNat) ho37 rng
     refine Dv [8] (VldI sh3 0) (Dv [4] (Vi sl23 0) (Dv [0] (Vld sh22 0) (Dv [] (Vlen sl22) ?_)))
     refine letv (flqref14_expanded s st.Cone (st.Cone.getD i_26.toNat 0) ((s.Deps.getD ((st.Cone.getD i_26.toNat 0) : Int).toNat []).length : Int)) fun rv70 hg71 => ?_
     refine Dx [4, 5, 6, 8] [] [1, 2, 3, 4, 0] (fun G => vb rv70) [fun G => SP.fact (True)] (fun G => xC [0, 1, 2, 3] ca231 (fn231 s sa1 sk1 sa2 sk2 sa3 sk3 st.Cone sta1 stk1 ((st.Cone.getD i_26.toNat 0)) (((s.Deps.getD ((st.Cone.getD i_26.toNat 0) : Int).toNat []).length : Int)) pre pre pre pre pre rv70 hg71)) (Dv [] Vnot (Dv [] Vpt (Dv [] Vpf ?_)))
     refine Dn ⟨by kernel_rfl, fun G => ?_⟩
     refine Jw2 [(1, vl ka0 kk0 k), (3, p11), (5, p12), (7, vi i_26), (92, vb (!rv70))] [0, 1, 2, 3, 4, 5, 6, 7, 8, 9, 10, 11] [SP.fact (True)] ?_
     refine Jk [0, 1, 2, 3, 4, 5, 6, 7, 8, 9, 10, 11] ?_
     refine Kc ?_ ?_
     ·intro h72
      have h74 := not_true h72
      refine KS ?_
      refine Oq Va (KS ?_)
      have hR76 := q2 hM27 (.ret false) (by simp only [flqref14_validDemand_L0, h13, h16, h19, h22, h42, h45, h53, h57, h59, h61, h72, h74, hg49, h63, hg71, cs4])
      have hq := q4 hrr false (by simp only [flqref14_validDemand, h13, h16, h19, h22, h42, h45, h53, h57, h59, h61, h72, h74, hg49, h63, hg71, hR76, cs4]); subst hq
      exact Kr () rfl (.tmp rfl .nil) [] trivial
     intro h72
     have h78 := not_false h72
     refine KS ?_
     refine Oq Vm (Oq Vadd (Oq Va (KS ?_)))
     exact Kg (r44, (i_26 + 1)) [2, 3, 4, 5, 6, 7, 8, 9, 10, 11] ⟨(q3 hM27 (by simp only [flqref14_validDemand_L0, h13, h16, h19, h22, h42, h45, h53, h57, h59, h61, h72, h78, hg49, h63, hg71, cs4])), (by omega), (by omega), (by omega), (by omega)⟩
    intro h59
    have h81 := not_false h59
    have h83 := h53; rw [h81] at h83
    have g82 := dt h81
    refine Kq [0, 1, 0, 7, 15, 0, 63, 127, 255, 255, 767, 2047, 4095, 8191, 16383, 32767, 65535, 131071, 131071, 393215, 131071, 1179647, 131071, 7471103, 15859711, 131071, 33685503, 131071, 134348799, 131071, 939655167, 2013396991, 4261543935, 8556511231, 17146445823, 34359738367, 68719476735, 137438953471, 274877906943] fmix ?_
    refine Qv [0] (Vfa fo59_2 0) (Qv [0] (VldF sh57 0) (Qv [] Vm (Qv [7] (Vi sl57 0) (Qv [7] (VldB sh4 0) (Qv [] Vm (Qb h53 [] (Vnb un4) (Qv [] Vm (Qv [] Vm (Qv [0] (Vfa fo59_3 0) ?_)))))))))
    refine Qv [0] (VldF sh3 0) (Qb h57 [] Vlss (Qv [] Vm (Qv [] Vm (Qb h59 [] Vnot (Qv [] Vpt (Qv [] Vm (Qs (Qs (Qs ?_)))))))))
    refine Qs (Qs (Qs (Qs (Qs (Qs (Qs (Qs (Qs (Qs ?_)))))))))
    refine Qs (Qs (Qs (Qs (Qs (Qs (Qs (Qv [] Vpf (Qv [] Vpf ?_))))))))
    refine Qn ⟨by kernel_rfl, ?_⟩
    refine Kf (KS ?_)
    refine Oq Vm (Oq Vadd (Oq Va (KS ?_)))
    exact Kg (r44, (i_26 + 1)) [0, 1, 2, 3, 4, 5, 6, 7, 8, 9] ⟨(q3 hM27 (by simp only [flqref14_validDemand_L0, h13, h16, h19, h22, h42, h45, h53, h57, h59, h81, hg49, h83, cs4])), (by omega), (by omega), (by omega), (by omega)⟩
   intro h57
   exact absurd h57 (by simp [h45])
  intro h45
  have g84 := df h45
  refine Osk (Osk (Osk (Osk (Osk (Osk (Osk (Osk (Oq Vpf (Oq Va ?_)))))))))
  refine KS ?_
  refine Kq [0, 1, 0, 7, 15, 0, 63, 127, 255, 255, 767, 2047, 4095, 8191, 16383, 32767, 65535, 131071, 131071, 393215, 131071, 1179647, 131071, 7471103, 15859711, 131071, 33685503, 131071, 134348799, 131071, 939655167, 2013396991, 4261543935, 8556511231, 17146445823, 34359738367, 68719476735, 137438953471, 274877906943] fmix ?_
  refine Qv [0] (Vfa fo59_2 0) (Qv [0] (VldF sh57 0) (Qv [] Vm (Qv [7] (Vi sl57 0) (Qv [7] (VldB sh4 0) (Qv [] Vm (Qv [] (Vnb un4) ?_))))))
  refine bool_split (!((st.Leaf.getD i_26.toNat false) == false)) ?_ ?_
  ·intro h85
   refine Qb h85 [] Vm (Qs (Qs (Qs (Qs (Qs (Qs (Qs (Qs (Qs ?_)))))))))
   refine Qs (Qs (Qs (Qs (Qs (Qs (Qs (Qs (Qs (Qs ?_)))))))))
   refine Qs (Qs (Qs (Qs (Qs (Qs (Qs (Qs (Qs (Qs ?_)))))))))
   refine Qs (Qv [] Vpt ?_)
   refine Qn ⟨by kernel_rfl, ?_⟩
   refine Kt (KS ?_)
   refine Oq Va (KS ?_)
   have hR87 := q2 hM27 (.ret false) (by simp only [flqref14_validDemand_L0, h13, h16, h19, h22, h42, h45, h85, cs4])
   have hq := q4 hrr false (by simp only [flqref14_validDemand, h13, h16, h19, h22, h42, h45, h85, hR87, cs4]); subst hq
   exact Kr () rfl (.tmp rfl .nil) [] trivial
  intro h85
  refine Qb h85 [] Vm (Qv [] Vm (Qv [0] (Vfa fo59_3 0) (Qv [0] (VldF sh3 0) (Qv [] Vlss ?_))))
  refine bool_split (decide (i_26 < st.At)) ?_ ?_
  ·intro h89
   exact absurd h89 (by simp [h45])
  intro h89
  have g90 := df h89
  refine Qb h89 [] Vm (Qs (Qs (Qv [] Vpf (Qv [] Vm (Qs (Qs (Qs (Qs (Qs ?_)))))))))
  refine Qs (Qs (Qs (Qs (Qs (Qs (Qs (Qs (Qs (Qs ?_)))))))))
  refine Qs (Qs (Qs (Qs (Qs (Qv [] Vpf (Qv [] Vpf ?_))))))
  refine Qn ⟨by kernel_rfl, ?_⟩
  refine Kf (KS ?_)
  refine Oq Vm (Oq Vadd (Oq Va (KS ?_)))
  exact Kg (r44, (i_26 + 1)) [0, 1, 2, 3, 4, 5, 6, 7, 8, 9] ⟨(q3 hM27 (by simp only [flqref14_validDemand_L0, h13, h16, h19, h22, h42, h45, h85, h89, cs4])), (by omega), (by omega), (by omega), (by omega)⟩
 intro h42
 have g91 := df h42
 obtain rfl : r25 = 0 := by omega
 refine Ke ?_
 have hR92 := q2 hM27 (.brk ()) (by simp only [flqref14_validDemand_L0, h13, h16, h19, h22, h42, cs4])
 refine KS ?_
 refine Oq (Vfa fo59_1 0) (Oq (VldF sh22 0) (Oq (Vfa fo59_3 0) (Oq (VldF sh3 0) (Oq (Vi sl22 6) ?_))))
 have hb93 := ok1 (i := st.At.toNat) ho37 rng
 refine Oq (VldI sh3 6) (Oq Va (KS ?_))
 refine bool_split (decide (0 ≤ st.Edge)) ?_ ?_
 ·intro h94
  have g95 := dt h94
  refine JJ_peekL ((st.Cone.getD st.At.toNat 0) : Int).toNat 2 rfl rng fun a96 k97 => ?_
  refine Fb 8 1 fun _ => Fo 1 fun ho99 => ?_
  refine JK_drawK [0, 1, 3, 7, 15, 31, 15, 79, 15, 463, 975, 1999, 4095, 8191, 16383, 32767, 65535, 131071, 262143, 524287, 524287, 2097151, 4194303, 8388607, 16777215, 33554431, 67108863, 67108863, 201326591, 67108863, 67108863, 1140850687, 4294967295, 8589934591, 17179869183] fmix ?_
  refine Dv [2] (Vfa fo59_4 0) (Dv [2] (VldF sh3 0) (Db h94 [] Vgeq (Dv [] Vm (Dv [2] (Vfa fo59_4 0) (Dv [2] (VldF sh3 0) (Dv [3] (Vfa fo27_1 0) (Dv [3] (VldF sh23 0) (Dv [] Vm (Dv [4] (Vi sl23 0) ?_)))))))))
  refine Dv [0] (Vld sh22 0) (Dv [] (Vlen sl22) (Dv [] Vleq (Dv [] Vpt ?_)))
  refine bool_split (decide (st.Edge ≤ ((s.Deps.getD ((st.Cone.getD st.At.toNat 0) : Int).toNat []).length : Int))) ?_ ?_
  ·intro h100
   have g101 := dt h100
   refine Db h100 [] Vm (Dv [2] (Vfa fo59_4 0) (Dv [2] (VldF sh3 0) (Dv [] Veql ?_)))
   refine bool_split (st.Edge == 0) ?_ ?_
   ·intro h102
    have g103 := eq_of_beq h102
    refine Db h102 [] Vm (Ds (Ds (Ds (Ds (Dv [] Vpt (Dv [] Vpt (Dv [] Vm (Dv [3] (VldA sh27 0) (Dv [2] (Vfa fo59_1 0) ?_)))))))))
    refine Dv [2] (VldF sh22 0) (Dv [] Vm (Dv [2] (Vfa fo59_4 0) (Dv [2] (VldF sh3 0) ?_)))
    refine letv (flqref14_expanded s st.Cone (st.Cone.getD st.At.toNat 0) st.Edge) fun rv104 hg105 => ?_
    refine Dx [4, 5, 6, 8] [] [1, 2, 3, 4, 0] (fun G => vb rv104) [fun G => SP.fact (True)] (fun G => xC [0, 1, 2, 3] ca231 (fn231 s sa1 sk1 sa2 sk2 sa3 sk3 st.Cone sta1 stk1 ((st.Cone.getD st.At.toNat 0)) st.Edge pre pre pre pre pre rv104 hg105)) (Dv [] Vpt (Dv [] Va ?_))
    refine Dn ⟨by kernel_rfl, fun G => ?_⟩
    refine Jw2 [(6, vb rv104)] [0, 1, 2, 3, 4, 5, 6, 7, 8, 9, 10, 11] [SP.fact (True)] ?_
    refine Jk [0, 1, 2, 3, 4, 5, 6, 7, 8, 9, 10, 11] ?_
    have hq := q4 hrr rv104 (by simp only [flqref14_validDemand, h13, h16, h19, h22, h42, h94, h100, h102, hR92, hg105, cs4]); subst hq
    exact Kr () rfl (.tmp rfl .nil) [] trivial
   intro h102
   have g106 := ne_of_beq_false h102
   refine Db h102 [] Vm (Dv [] Vm (Dv [] Vm ?_))
   refine letv (flqref14_find k (st.Cone.getD st.At.toNat 0)) fun rv107 hg108 => ?_
   refine Dx [7] [] [1, 0] (fun G => vi rv107) [fun G => SP.fact (i64ok rv107 ∧ (-1 ≤ rv107 ∧ rv107 < (k.length : Int)))] (fun G => xC [0] ca132 (fn132 k ka0 kk0 ((st.Cone.getD st.At.toNat 0)) pre rv107 hg108)) (Dv [] Vlss (Dv [] Vpf (Dv [] Vpt ?_)))
   refine bool_split (decide (rv107 < 0)) ?_ ?_
   ·intro h109
    have g110 := dt h109
    refine Db h109 [] Vm (Dv [3] (VldA sh27 0) (Dv [2] (Vfa fo59_1 0) (Dv [2] (VldF sh22 0) (Dv [] Vm (Dv [2] (Vfa fo59_4 0) (Dv [2] (VldF sh3 0) ?_))))))
    refine letv (flqref14_expanded s st.Cone (st.Cone.getD st.At.toNat 0) st.Edge) fun rv111 hg112 => ?_
    refine Dx [4, 5, 6, 8, 12] [] [1, 2, 3, 4, 5, 0] (fun G => vb rv111) [fun G => SP.fact (True)] (fun G => by refine xf 4 rfl ?_; rintro ⟨he113, he114⟩; unfold i64ok at he113; exact xC [0, 1, 2, 3] ca231 (fn231 s sa1 sk1 sa2 sk2 sa3 sk3 st.Cone sta1 stk1 ((st.Cone.getD st.At.toNat 0)) st.Edge pre pre pre pre pre rv111 hg112)) (Dv [] Vpt (Dv [] Va ?_))
    refine Dn ⟨by kernel_rfl, fun G => ?_⟩
    refine Jw2 [(6, vb rv111)] [0, 1, 2, 3, 4, 5, 6, 7, 8, 9, 10, 11] [SP.fact (i64ok rv107 ∧ (-1 ≤ rv107 ∧ rv107 < (k.length : Int))), SP.fact (True)] ?_
    refine Jf 12 rfl ?_; rintro ⟨he115, he116⟩
    unfold i64ok at he115
    refine Jk [0, 1, 2, 3, 4, 5, 6, 7, 8, 9, 10, 11] ?_
    have hq := q4 hrr rv111 (by simp only [flqref14_validDemand, h13, h16, h19, h22, h42, h94, h100, h102, h109, hR92, hg108, hg112, cs4]); subst hq
    exact Kr () rfl (.tmp rfl .nil) [] trivial
   intro h109
   have g117 := df h109
   refine Db h109 [] Vm (Ds (Ds (Ds (Ds (Ds (Ds (Ds (Dv [] Vpf (Dv [] Va ?_)))))))))
   refine Dn ⟨by kernel_rfl, fun G => ?_⟩
   refine Jw2 [(6, vb false)] [0, 1, 2, 3, 4, 5, 6, 7, 8, 9, 10, 11] [SP.fact (i64ok rv107 ∧ (-1 ≤ rv107 ∧ rv107 < (k.length : Int)))] ?_
   refine Jf 12 rfl ?_; rintro ⟨he118, he119⟩
   unfold i64ok at he118
   refine Jk [0, 1, 2, 3, 4, 5, 6, 7, 8, 9, 10, 11] ?_
   have hq := q4 hrr false (by simp only [flqref14_validDemand, h13, h16, h19, h22, h42, h94, h100, h102, h109, hR92, hg108, cs4]); subst hq
   exact Kr () rfl (.tmp rfl .nil) [] trivial
  intro h100
  have g120 := df h100
  refine Db h100 [] Vm (Ds (Ds (Ds (Ds (Ds (Ds (Ds (Ds (Ds ?_)))))))))
  refine Dv [] Vpf (Dv [] Vm (Ds (Ds (Ds (Ds (Ds (Ds (Ds (Dv [] Vpf ?_)))))))))
  refine Dv [] Va ?_
  refine Dn ⟨by kernel_rfl, fun G => ?_⟩
  refine Jw2 [(6, vb false)] [0, 1, 2, 3, 4, 5, 6, 7, 8, 9, 10, 11] [] ?_
  have hq := q4 hrr false (by simp only [flqref14_validDemand, h13, h16, h19, h22, h42, h94, h100, hR92, cs4]); subst hq
  exact Kr () rfl (.tmp rfl .nil) [] trivial
 intro h94
 have g121 := df h94
 refine Kq [0, 1, 3, 7, 15, 31, 15, 79, 15, 463, 975, 1999, 4095, 8191, 16383, 32767, 65535, 131071, 262143, 524287, 524287, 2097151, 4194303, 8388607, 16777215, 33554431, 67108863, 67108863, 201326591, 67108863, 67108863, 1140850687, 4294967295, 8589934591, 17179869183] fmix ?_
 refine Qv [0] (Vfa fo59_4 0) (Qv [0] (VldF sh3 0) (Qb h94 [] Vgeq (Qv [] Vm (Qs (Qs (Qs (Qs (Qs (Qs ?_)))))))))
 refine Qs (Qs (Qs (Qv [] Vpf (Qv [] Vm (Qs (Qs (Qs (Qs (Qs ?_)))))))))
 refine Qs (Qs (Qs (Qs (Qv [] Vpf (Qv [] Vm (Qs (Qs (Qs (Qs ?_)))))))))
 refine Qs (Qs (Qs (Qv [] Vpf (Qv [] Va ?_))))
 refine Qn ⟨by kernel_rfl, ?_⟩
 have hq := q4 hrr false (by simp only [flqref14_validDemand, h13, h16, h19, h22, h42, h94, hR92, cs4]); subst hq
 exact Kr () rfl (.tmp rfl .nil) [] trivial
theorem fn232 (s : GSystem) (sa1 : Option Addr) (sk1 : Nat) (sa2 : Option Addr) (sk2 : Nat) (sa3 : Option Addr) (sk3 : Nat) (set_ : List Int) (set_a0 : Option Addr) (set_k0 : Nat) (leaves : List Int) (leavesa0 : Option Addr) (leavesk0 : Nat) (hs_0 : i64ok s.Width) (hs0 : ∀ x ∈ set_, 0 ≤ x ∧ x < (s.Deps.length : Int)) (rr : Bool) (hrr : flqref14_closed s set_ leaves = rr) : FT Tryz.prog 232 #[.agg #[vi s.Width, vl sa1 sk1 s.Deps, vl sa2 sk2 s.Transfers, vl sa3 sk3 s.Boundary], vl set_a0 set_k0 set_, vl leavesa0 leavesk0 leaves] [S sa1 sk1 s.Deps, S sa2 sk2 s.Transfers, S sa3 sk3 s.Boundary, S set_a0 set_k0 set_, S leavesa0 leavesk0 leaves] (fun g : Unit => True) (fun g => vb rr) (fun g => []) := by
 refine FTi Tryz.func232 fun w0 M0 F0 => ?_
 unfold i64ok at hs_0
 refine Fb 24 0 fun _ => Fb 88 1 fun _ => Fb 32 2 fun _ => Fb 8 3 fun _ => Fo 3 fun ho5 => Fb 8 4 fun _ => Fo 4 fun ho7 => KS ?_
 refine Oa (Ab [vi s.Width, vl sa1 sk1 s.Deps, vl sa2 sk2 s.Transfers, vl sa3 sk3 s.Boundary]) fun p8 => Oq Va (KS ?_)
 refine Oq Va (KS ?_)
 refine Kl (γ := Nat × Int) (fun (r9, i_10) => ⟨[(1, vl set_a0 set_k0 set_), (2, vl leavesa0 leavesk0 leaves), (3, p8), (7, vi i_10)], [pv p8 [vi s.Width, vl sa1 sk1 s.Deps, vl sa2 sk2 s.Transfers, vl sa3 sk3 s.Boundary], S sa1 sk1 s.Deps, S sa2 sk2 s.Transfers, S sa3 sk3 s.Boundary, S set_a0 set_k0 set_, S leavesa0 leavesk0 leaves], flqref14_closed_L0 s set_ leaves r9 i_10 = flqref14_closed_L0 s set_ leaves (((set_.length : Int) - 0).toNat) 0 ∧ r9 = ((set_.length : Int) - i_10).toNat ∧ (0 : Int) ≤ i_10 ∧ i_10 ≤ (set_.length : Int) ∧ (-9223372036854775808 ≤ i_10 ∧ i_10 ≤ 9223372036854775807), r9⟩) (((set_.length : Int) - 0).toNat, 0) [0, 1, 2, 3, 4, 5] ⟨rfl, rfl, (by omega), (by omega), (by omega)⟩ ?_
 rintro ⟨r9, i_10⟩ ⟨hM11, hr12, hi13, hi14, hk15⟩
 refine JJ_nx fun _ _ hL hA => ?_; dsimp only at hL hA; subst hL hA
 refine Fb 24 1 fun _ => Fb 88 2 fun _ => Fb 32 3 fun _ => Fb 8 4 fun _ => Fo 4 fun ho20 => Fb 8 5 fun _ => Fo 5 fun ho22 => KS ?_
 refine Oq Vm (Oq Vm (Oq (Vlen sl22) (Oq Vlss (KS ?_))))
 refine Kc ?_ ?_
 ·intro h23
  have g24 := dt h23
  have hq := hs0 _ (getD_mem (xs := set_) (i := i_10.toNat) (d := 0) (by omega))
  obtain ⟨r25, rfl⟩ := scc (n := r9) (by omega)
  refine KS ?_
  refine JJ_peekL ((set_.getD i_10.toNat 0) : Int).toNat 1 rfl rng fun a26 k27 => ?_
  refine Fb 8 1 fun _ => Fo 1 fun ho29 => ?_
  refine Kq [0, 1, 0, 0, 12, 28, 63, 127, 255] fmix ?_
  refine Qv [2] (Vfa fo27_1 0) (Qv [2] (VldF sh23 0) (Qv [] Vm (Qv [] Vm (Qv [6] (Vi sl22 0) ?_))))
  have hb30 := ok1 (i := i_10.toNat) ho20 rng
  refine Qv [6] (VldI sh3 0) (Qv [3] (Vi sl23 0) (Qv [0] (Vld sh22 0) (Qv [] Va ?_)))
  refine Qn ⟨by kernel_rfl, ?_⟩
  refine KS ?_
  refine Oq Va (KS ?_)
  refine Kl (γ := Nat × Int) (fun (r31, k_32) => ⟨[(1, vl set_a0 set_k0 set_), (2, vl leavesa0 leavesk0 leaves), (3, p8), (7, vi i_10), (8, vl a26 k27 (s.Deps.getD ((set_.getD i_10.toNat 0) : Int).toNat [])), (9, vi k_32)], [S a26 k27 ((s.Deps.getD ((set_.getD i_10.toNat 0) : Int).toNat []) : List Int), pv p8 [vi s.Width, vl sa1 sk1 s.Deps, vl sa2 sk2 s.Transfers, vl sa3 sk3 s.Boundary], S sa1 sk1 s.Deps, S sa2 sk2 s.Transfers, S sa3 sk3 s.Boundary, S set_a0 set_k0 set_, S leavesa0 leavesk0 leaves], flqref14_closed_L1 set_ leaves i_10 (s.Deps.getD ((set_.getD i_10.toNat 0) : Int).toNat []) r31 k_32 = flqref14_closed_L1 set_ leaves i_10 (s.Deps.getD ((set_.getD i_10.toNat 0) : Int).toNat []) (((((s.Deps.getD ((set_.getD i_10.toNat 0) : Int).toNat []).length : Int) : Int) - 0).toNat) 0 ∧ r31 = ((((s.Deps.getD ((set_.getD i_10.toNat 0) : Int).toNat []).length : Int) : Int) - k_32).toNat ∧ (0 : Int) ≤ k_32 ∧ (k_32 ≤ ((s.Deps.getD ((set_.getD i_10.toNat 0) : Int).toNat []).length : Int) ∨ k_32 = 0) ∧ (-9223372036854775808 ≤ k_32 ∧ k_32 ≤ 9223372036854775807), r31⟩) (((((s.Deps.getD ((set_.getD i_10.toNat 0) : Int).toNat []).length : Int) : Int) - 0).toNat, 0) [1, 2, 3, 4, 5, 6, 7] ⟨rfl, rfl, (by omega), (.inr rfl), (by omega)⟩ ?_
  rintro ⟨r31, k_32⟩ ⟨hM33, hr34, hi35, hi36, hk37⟩
  refine JJ_nx fun _ _ hL hA => ?_; dsimp only at hL hA; subst hL hA
  refine Fb 8 0 fun _ => Fo 0 fun ho39 => Fb 24 2 fun _ => Fb 88 3 fun _ => Fb 32 4 fun _ => Fb 8 5 fun _ => Fo 5 fun ho44 => Fb 8 6 fun _ => ?_
  refine Fo 6 fun ho46 => KS ?_
  refine Oq Vm (Oq Vm (Oq (Vlen sl22) (Oq Vlss (KS ?_))))
  refine Kc ?_ ?_
  ·intro h47
   have g48 := dt h47
   obtain ⟨r49, rfl⟩ := scc (n := r31) (by omega)
   refine KS ?_
   refine Oq Vm (Oq Vm (Oq Vm (Oq (Vi sl22 5) ?_)))
   have hb50 := ok1 (i := i_10.toNat) ho44 rng
   refine Oq (VldI sh3 5) ?_
   refine letv (flqref7_Has leaves (set_.getD i_10.toNat 0)) fun rv51 hg52 => ?_
   have hc53 := fn99 leaves leavesa0 leavesk0 ((set_.getD i_10.toNat 0)) pre rv51 hg52
   refine Oc [6] ca99 hc53 ?_
   rintro - -
   refine Oq Vnot (Oq Vm ?_)
   refine Js 37 ?_ ?_
   ·intro h54
    have h56 := not_true h54
    refine Oq Vm (Oq Vm (Oq Vm (Oq (Vi sl22 0) ?_)))
    have hb58 := ok1 (i := k_32.toNat) ho39 rng
    refine Oq (VldI sh3 0) ?_
    refine letv (flqref7_Has set_ ((s.Deps.getD ((set_.getD i_10.toNat 0) : Int).toNat []).getD k_32.toNat 0)) fun rv59 hg60 => ?_
    have hc61 := fn99 set_ set_a0 set_k0 (((s.Deps.getD ((set_.getD i_10.toNat 0) : Int).toNat []).getD k_32.toNat 0)) pre rv59 hg60
    refine Oc [5] ca99 hc61 ?_
    rintro - -
    refine Oq Vnot (Oq Vpt (KS ?_))
    refine Kc ?_ ?_
    ·intro h62
     have h64 := not_true h62
     refine KS ?_
     refine Oq Va (KS ?_)
     have hR66 := q2 hM33 (.ret false) (by simp only [flqref14_closed_L1, h23, h47, h54, h56, h62, h64, hg52, hg60, cs4])
     have hR67 := q2 hM11 (.ret false) (by simp only [flqref14_closed_L0, h23, h47, h54, h56, h62, h64, hg52, hg60, hR66, cs4])
     have hq := q4 hrr false (by simp only [flqref14_closed, h23, h47, h54, h56, h62, h64, hg52, hg60, hR66, hR67, cs4]); subst hq
     exact Kr () rfl (.tmp rfl .nil) [] trivial
    intro h62
    have h69 := not_false h62
    refine KS ?_
    refine Oq Vm (Oq Vadd (Oq Va (KS ?_)))
    exact Kg (r49, (k_32 + 1)) [0, 1, 2, 3, 4, 5, 6] ⟨(q3 hM33 (by simp only [flqref14_closed_L1, h23, h47, h54, h56, h62, h69, hg52, hg60, cs4])), (by omega), (by omega), (by omega), (by omega)⟩
   intro h54
   have h72 := not_false h54
   refine Osk (Osk (Osk (Osk (Osk (Osk (Osk (Oq Vpf (KS ?_))))))))
   refine Kf (KS ?_)
   refine Oq Vm (Oq Vadd (Oq Va (KS ?_)))
   exact Kg (r49, (k_32 + 1)) [0, 1, 2, 3, 4, 5, 6] ⟨(q3 hM33 (by simp only [flqref14_closed_L1, h23, h47, h54, h72, hg52, cs4])), (by omega), (by omega), (by omega), (by omega)⟩
  intro h47
  have g74 := df h47
  obtain rfl : r31 = 0 := by omega
  refine Ke ?_
  have hR75 := q2 hM33 (.brk ()) (by simp only [flqref14_closed_L1, h23, h47, cs4])
  refine KS ?_
  refine Oq Vm (Oq Vadd (Oq Va (KS ?_)))
  exact Kg (r25, (i_10 + 1)) [1, 2, 3, 4, 5, 6] ⟨(q3 hM11 (by simp only [flqref14_closed_L0, h23, h47, hR75, cs4])), (by omega), (by omega), (by omega), (by omega)⟩
 intro h23
 have g76 := df h23
 obtain rfl : r9 = 0 := by omega
 refine Ke ?_
 have hR77 := q2 hM11 (.brk ()) (by simp only [flqref14_closed_L0, h23, cs4])
 refine KS ?_
 refine Oq Va (KS ?_)
 have hq := q4 hrr true (by simp only [flqref14_closed, h23, hR77, cs4]); subst hq
 exact Kr () rfl (.tmp rfl .nil) [] trivial
theorem fn174 (s : GSystem) (sa1 : Option Addr) (sk1 : Nat) (sa2 : Option Addr) (sk2 : Nat) (sa3 : Option Addr) (sk3 : Nat) (k : List GKnown) (ka0 : Option Addr) (kk0 : Nat) (st : GState) (sta1 : Option Addr) (stk1 : Nat) (sta2 : Option Addr) (stk2 : Nat) (sta5 : Option Addr) (stk5 : Nat) (sta6 : Option Addr) (stk6 : Nat) (hs_0 : i64ok s.Width) (hst_0 : i64ok st.Phase) (hst_3 : i64ok st.At) (hst_4 : i64ok st.Edge) (hst_7 : i64ok st.Steps) (hv : VSys s) (hlf : st.Leaf.length = st.Cone.length) (hcl : st.Cone.length ≤ 256) (hcr : ∀ x ∈ st.Cone, 0 ≤ x ∧ x < (s.Deps.length : Int)) (rr : Bool) (hrr : fVS s k st = rr) : FT Tryz.prog 174 #[.agg #[vi s.Width, vl sa1 sk1 s.Deps, vl sa2 sk2 s.Transfers, vl sa3 sk3 s.Boundary], vl ka0 kk0 k, .agg #[vi st.Phase, vl sta1 stk1 st.Cone, vl sta2 stk2 st.Leaf, vi st.At, vi st.Edge, vl sta5 stk5 st.Values, vl sta6 stk6 st.Queue, vi st.Steps]] [S sa1 sk1 s.Deps, S sa2 sk2 s.Transfers, S sa3 sk3 s.Boundary, S ka0 kk0 k, S sta1 stk1 st.Cone, S sta2 stk2 st.Leaf, S sta5 stk5 st.Values, S sta6 stk6 st.Queue] (fun g : Unit => True) (fun g => vb rr) (fun g => []) := by
 refine FTi Tryz.func174 fun w0 M0 F0 => ?_
 unfold i64ok at hs_0 hst_0 hst_3 hst_4 hst_7
 refine Fb 24 0 fun _ => Fb 88 1 fun _ => Fb 32 2 fun _ => Fb 40 3 fun _ => Fb 8 4 fun _ => Fo 4 fun ho6 => Fb 1 5 fun _ => Fb 32 6 fun _ => ?_
 refine Fb 8 7 fun _ => Fo 7 fun ho10 => ?_
 have hv1 := hv.n
 have hv2 := hv.tl
 have hv3 := hv.bl
 have hv4 := hv.w
 have hv5 := hv.dep_len
 refine KS ?_
 refine Oa (Ab [vi s.Width, vl sa1 sk1 s.Deps, vl sa2 sk2 s.Transfers, vl sa3 sk3 s.Boundary]) fun p11 => Oa (Ab [vi st.Phase, vl sta1 stk1 st.Cone, vl sta2 stk2 st.Leaf, vi st.At, vi st.Edge, vl sta5 stk5 st.Values, vl sta6 stk6 st.Queue, vi st.Steps]) fun p12 => Oq Va (KS ?_)
 refine Oq (Vfa fo59_3 0) (Oq (VldF sh3 0) (Oq Vneq (Oq Vm ?_)))
 refine Js 13 ?_ ?_
 ·intro h13
  have g14 := ne_of_bne h13
  refine Osk (Osk (Osk (Oq Vpt (Oq Vm (Osk (Osk (Osk (Osk (Osk ?_)))))))))
  refine Osk (Osk (Oq Vpt (Oq Vm (Osk (Osk (Osk (Osk (Osk (Osk ?_)))))))))
  refine Osk (Osk (Oq Vpt (Oq Vm (Osk (Osk (Osk (Oq Vpt (KS ?_))))))))
  refine Kt (KS ?_)
  refine Oq Va (KS ?_)
  have hq := q4 hrr false (by simp only [fVS, h13, cs4]); subst hq
  exact Kr () rfl (.tmp rfl .nil) [] trivial
 intro h13
 have g15 := eq_of_bne_false h13
 refine Oq (Vfa fo59_4 0) (Oq (VldF sh3 0) (Oq Vneq (Oq Vpf (Oq Vm ?_))))
 refine Js 18 ?_ ?_
 ·intro h16
  have g17 := ne_of_bne h16
  refine Osk (Osk (Osk (Osk (Osk (Osk (Osk (Oq Vpt (Oq Vm (Osk ?_)))))))))
  refine Osk (Osk (Osk (Osk (Osk (Osk (Osk (Oq Vpt (Oq Vm (Osk ?_)))))))))
  refine Osk (Osk (Oq Vpt (KS ?_)))
  refine Kt (KS ?_)
  refine Oq Va (KS ?_)
  have hq := q4 hrr false (by simp only [fVS, h13, h16, cs4]); subst hq
  exact Kr () rfl (.tmp rfl .nil) [] trivial
 intro h16
 have g18 := eq_of_bne_false h16
 refine Oq (Vfa fo59_5 0) (Oq (VldF sh25 0) (Oq (Vlen sl25) (Oq (Vfa fo59_1 0) (Oq (VldF sh22 0) (Oq (Vlen sl22) (Oq Vneq (Oq Vpf (Oq Vm ?_))))))))
 refine Js 27 ?_ ?_
 ·intro h19
  have g20 := ne_of_bne h19
  refine Osk (Osk (Osk (Osk (Osk (Osk (Osk (Osk (Oq Vpt (Oq Vm ?_)))))))))
  refine Osk (Osk (Osk (Oq Vpt (KS ?_))))
  refine Kt (KS ?_)
  refine Oq Va (KS ?_)
  have hq := q4 hrr false (by simp only [fVS, h13, h16, h19, cs4]); subst hq
  exact Kr () rfl (.tmp rfl .nil) [] trivial
 intro h19
 have g21 := eq_of_bne_false h19
 refine Oq (Vfa fo59_6 0) (Oq (VldF sh22 0) (Oq (Vlen sl22) (Oq Veql (Oq (Vfa fo59_0 0) (Oq (VldF sh3 0) (Oq Veql (Oq (Vnb un4) (Oq Vpf (Oq Vm ?_)))))))))
 refine Js 37 ?_ ?_
 ·intro h22
  refine Osk (Osk (Osk (Oq Vpt (KS ?_))))
  refine Kt (KS ?_)
  refine Oq Va (KS ?_)
  have hq := q4 hrr false (by simp only [fVS, h13, h16, h19, h22, cs4]); subst hq
  exact Kr () rfl (.tmp rfl .nil) [] trivial
 intro h22
 refine Oq (Vfa fo59_6 0) (Oq (VldF sh22 0) ?_)
 refine letv (flqref14_repeated st.Queue) fun rv25 hg26 => ?_
 have hc27 := fn131 st.Queue sta6 stk6 rv25 hg26
 refine Oc [9] ca131 hc27 ?_
 rintro - -
 refine Oq Vpf (KS ?_)
 refine Kc ?_ ?_
 ·intro h28
  refine KS ?_
  refine Oq Va (KS ?_)
  have hq := q4 hrr false (by simp only [fVS, h13, h16, h19, h22, h28, hg26, cs4]); subst hq
  exact Kr () rfl (.tmp rfl .nil) [] trivial
 intro h28
 refine KS ?_
 refine Oq Va (KS ?_)
 refine Oq Va (KS ?_)
 refine Jl [] (Ent.osNil (α := Int)) ?_
 refine Kl (γ := Nat × List Int × Int × Option Addr × Nat) (fun (r31, leaves_32, i_33, a34, k35) => ⟨[(1, vl ka0 kk0 k), (3, p11), (5, p12), (7, vl a34 k35 leaves_32), (8, vi i_33)], [O a34 k35 leaves_32, pv p12 [vi st.Phase, vl sta1 stk1 st.Cone, vl sta2 stk2 st.Leaf, vi st.At, vi st.Edge, vl sta5 stk5 st.Values, vl sta6 stk6 st.Queue, vi st.Steps], pv p11 [vi s.Width, vl sa1 sk1 s.Deps, vl sa2 sk2 s.Transfers, vl sa3 sk3 s.Boundary], S sa1 sk1 s.Deps, S sa2 sk2 s.Transfers, S sa3 sk3 s.Boundary, S ka0 kk0 k, S sta1 stk1 st.Cone, S sta2 stk2 st.Leaf, S sta5 stk5 st.Values, S sta6 stk6 st.Queue], fVS_L0 s k st r31 leaves_32 i_33 = fVS_L0 s k st (((st.Cone.length : Int) - 0).toNat) [] 0 ∧ r31 = ((st.Cone.length : Int) - i_33).toNat ∧ (0 : Int) ≤ i_33 ∧ i_33 ≤ (st.Cone.length : Int) ∧ (-9223372036854775808 ≤ i_33 ∧ i_33 ≤ 9223372036854775807) ∧ (leaves_32.length : Int) ≤ i_33, r31⟩) (((st.Cone.length : Int) - 0).toNat, [], 0, none, 0) [0, 0, 1, 2, 3, 4, 5, 6, 7, 8, 9] ⟨rfl, rfl, (by omega), (by omega), (by omega), iv0⟩ ?_
 rintro ⟨r31, leaves_32, i_33, a34, k35⟩ ⟨hM36, hr37, hi38, hi39, hk40, hv41⟩
 refine JJ_nx fun _ _ hL hA => ?_; dsimp only at hL hA; subst hL hA
 refine Fb 8 0 fun _ => Fo 0 fun ho43 => Fb 24 3 fun _ => Fb 88 4 fun _ => Fb 32 5 fun _ => Fb 40 6 fun _ => Fb 8 7 fun _ => Fo 7 fun ho49 => ?_
 refine Fb 1 8 fun _ => Fb 32 9 fun _ => Fb 8 10 fun _ => Fo 10 fun ho53 => KS ?_
 refine Oq Vm (Oq (Vfa fo59_1 1) (Oq (VldF sh22 1) (Oq (Vlen sl22) (Oq Vlss (KS ?_)))))
 refine Kc ?_ ?_
 ·intro h54
  have g55 := dt h54
  have hq := hcr _ (getD_mem (xs := st.Cone) (i := i_33.toNat) (d := 0) (by omega))
  obtain ⟨r56, rfl⟩ := scc (n := r31) (by omega)
  refine KS ?_
  refine letv (flqref14_find k (st.Cone.getD i_33.toNat 0)) fun rv58 hg59 => ?_
  refine bool_split (!((st.Leaf.getD i_33.toNat false) == (decide (0 ≤ rv58)))) ?_ ?_
  ·intro h60
   refine JK_drawK [0, 1, 0, 7, 15, 0, 0, 64, 0, 448, 960, 2016, 4064, 8191, 16383, 32767, 65535, 32767, 262143, 524287, 1048575, 2097151, 4194303, 8388607, 16777215, 33554431, 16777215, 134217727, 268435455, 536870911, 16777215, 1090519039, 4294967295, 8589934591] fmix ?_
   refine Dv [1] (Vfa fo59_2 0) (Dv [1] (VldF sh57 0) (Dv [] Vm (Dv [8] (Vi sl57 0) (Dv [8] (VldB sh4 0) (Dv [] Vm (Dv [1] (Vfa fo59_1 0) (Dv [1] (VldF sh22 0) (Dv [] Vm (Dv [7] (Vi sl22 0) ?_)))))))))
   have hb62 := ok1 (i := i_33.toNat) ho49 rng
   refine Dv [7] (VldI sh3 0) (Dx [6] [] [1, 0] (fun G => vi rv58) [fun G => SP.fact (i64ok rv58 ∧ (-1 ≤ rv58 ∧ rv58 < (k.length : Int)))] (fun G => xC [0] ca132 (fn132 k ka0 kk0 ((st.Cone.getD i_33.toNat 0)) pre rv58 hg59)) (Dv [] Vgeq (Db h60 [] (Vnb un4) (Dv [] Vm (Ds (Ds (Ds (Ds (Ds ?_)))))))))
   refine Ds (Ds (Dv [] Vpt (Dv [] Vm (Ds (Ds (Ds (Ds (Ds (Ds ?_)))))))))
   refine Ds (Ds (Ds (Dv [] Vpt ?_)))
   refine Dn ⟨by kernel_rfl, fun G => ?_⟩
   refine Jw2 [(1, vl ka0 kk0 k), (3, p11), (5, p12), (7, vl a34 k35 leaves_32), (8, vi i_33), (82, vb true)] [0, 1, 2, 3, 4, 5, 6, 7, 8, 9, 10] [SP.fact (i64ok rv58 ∧ (-1 ≤ rv58 ∧ rv58 < (k.length : Int)))] ?_
   refine Jf 11 rfl ?_; rintro ⟨he63, he64⟩
   unfold i64ok at he63
   refine Jk [0, 0, 1, 2, 3, 4, 5, 6, 7, 8, 9] (Kt ?_)
   refine KS ?_
   refine Oq Va (KS ?_)
   have hR65 := q2 hM36 (.ret false) (by simp only [fVS_L0, h13, h16, h19, h22, h28, h54, h60, hg26, hg59, cs4])
   have hq := q4 hrr false (by simp only [fVS, h13, h16, h19, h22, h28, h54, h60, hg26, hg59, hR65, cs4]); subst hq
   exact Kr () rfl (.tmp rfl .nil) [] trivial
  intro h60
  refine JJ_peek_GSet i_33.toNat 9 rfl rng fun a67 k68 hb69 => ?_
  unfold i64ok at hb69
  refine Fb 8 1 fun _ => ?_
  refine JK_drawK [0, 1, 0, 7, 15, 0, 0, 64, 0, 448, 960, 2016, 4064, 8191, 16383, 32767, 65535, 32767, 262143, 524287, 1048575, 2097151, 4194303, 8388607, 16777215, 33554431, 16777215, 134217727, 268435455, 536870911, 16777215, 1090519039, 4294967295, 8589934591] fmix ?_
  refine Dv [3] (Vfa fo59_2 0) (Dv [3] (VldF sh57 0) (Dv [] Vm (Dv [10] (Vi sl57 0) (Dv [10] (VldB sh4 0) (Dv [] Vm (Dv [3] (Vfa fo59_1 0) (Dv [3] (VldF sh22 0) (Dv [] Vm (Dv [9] (Vi sl22 0) ?_)))))))))
  have hb71 := ok1 (i := i_33.toNat) ho49 rng
  refine Dv [9] (VldI sh3 0) (Dx [8] [] [1, 0] (fun G => vi rv58) [fun G => SP.fact (i64ok rv58 ∧ (-1 ≤ rv58 ∧ rv58 < (k.length : Int)))] (fun G => xC [0] ca132 (fn132 k ka0 kk0 ((st.Cone.getD i_33.toNat 0)) pre rv58 hg59)) (Dv [] Vgeq (Db h60 [] (Vnb un4) (Dv [] Vm (Dv [3] (Vfa fo59_5 0) (Dv [3] (VldF sh25 0) (Dv [] Vm ?_)))))))
  refine Dx [11, 13] [] [0, 1] (fun G => (eptr 2 (vl sta5 stk5 st.Values) i_33.toNat)) [] (fun G => by refine xf 1 rfl ?_; rintro ⟨he72, he73⟩; unfold i64ok at he72; exact xV (Vi sl25 0)) (Dv [0] (VldA sh42 0) ?_)
  refine letv (flqref1_Valid (st.Values.getD i_33.toNat default)) fun rv74 hg75 => ?_
  refine Dx [1, 13] [] [1, 2, 0] (fun G => vb rv74) [fun G => SP.fact (True)] (fun G => by refine xf 1 rfl ?_; rintro ⟨he76, he77⟩; unfold i64ok at he76; exact xC [0] ca91 (fn91 ((st.Values.getD i_33.toNat default)) a67 k68 pre rv74 hg75)) (Dv [] Vnot (Dv [] Vpf ?_))
  refine bool_split (!rv74) ?_ ?_
  ·intro h78
   have h80 := not_true h78
   refine Db h78 [] Vm (Ds (Ds (Ds (Ds (Ds (Ds (Ds (Ds (Ds ?_)))))))))
   refine Dv [] Vpt ?_
   refine Dn ⟨by kernel_rfl, fun G => ?_⟩
   refine Jw2 [(1, vl ka0 kk0 k), (3, p11), (5, p12), (7, vl a34 k35 leaves_32), (8, vi i_33), (82, vb true)] [0, 1, 2, 3, 4, 5, 6, 7, 8, 9, 10, 11, 12] [SP.fact (i64ok rv58 ∧ (-1 ≤ rv58 ∧ rv58 < (k.length : Int))), SP.fact (True)] ?_
   refine Jf 13 rfl ?_; rintro ⟨he82, he83⟩
   unfold i64ok at he82
   refine Jk [0, 1, 2, 2, 3, 4, 5, 6, 7, 8, 9, 10, 11] (Kt ?_)
   refine KS ?_
   refine Oq Va (KS ?_)
   have hR84 := q2 hM36 (.ret false) (by simp only [fVS_L0, h13, h16, h19, h22, h28, h54, h60, h78, h80, hg26, hg59, hg75, cs4])
   have hq := q4 hrr false (by simp only [fVS, h13, h16, h19, h22, h28, h54, h60, h78, h80, hg26, hg59, hg75, hR84, cs4]); subst hq
   exact Kr () rfl (.tmp rfl .nil) [] trivial
  intro h78
  have h86 := not_false h78
  refine Db h78 [] Vm (Dv [3] (Vfa fo59_5 0) (Dv [3] (VldF sh25 0) (Dv [] Vm ?_)))
  refine Dx [11, 13] [] [0, 1] (fun G => (eptr 2 (vl sta5 stk5 st.Values) i_33.toNat)) [] (fun G => by refine xf 1 rfl ?_; rintro ⟨he88, he89⟩; unfold i64ok at he88; exact xV (Vi sl25 0)) (Dv [0] (Vfa fo42_0 0) (Dv [0] (VldF sh3 0) (Dv [4] (Vfa fo27_0 0) (Dv [4] (VldF sh3 0) (Dv [] Vneq (Dv [] Vpf ?_))))))
  refine Dn ⟨by kernel_rfl, fun G => ?_⟩
  refine Jw2 [(1, vl ka0 kk0 k), (3, p11), (5, p12), (7, vl a34 k35 leaves_32), (8, vi i_33), (82, vb ((st.Values.getD i_33.toNat default).Width != s.Width))] [0, 1, 2, 3, 4, 5, 6, 7, 8, 9, 10, 11, 12] [SP.fact (i64ok rv58 ∧ (-1 ≤ rv58 ∧ rv58 < (k.length : Int))), SP.fact (True)] ?_
  refine Jf 13 rfl ?_; rintro ⟨he90, he91⟩
  unfold i64ok at he90
  refine Jk [0, 1, 2, 2, 3, 4, 5, 6, 7, 8, 9, 10, 11] ?_
  refine Kc ?_ ?_
  ·intro h92
   have g93 := ne_of_bne h92
   refine KS ?_
   refine Oq Va (KS ?_)
   have hR94 := q2 hM36 (.ret false) (by simp only [fVS_L0, h13, h16, h19, h22, h28, h54, h60, h78, h86, h92, hg26, hg59, hg75, cs4])
   have hq := q4 hrr false (by simp only [fVS, h13, h16, h19, h22, h28, h54, h60, h78, h86, h92, hg26, hg59, hg75, hR94, cs4]); subst hq
   exact Kr () rfl (.tmp rfl .nil) [] trivial
  intro h92
  have g95 := eq_of_bne_false h92
  refine KS ?_
  refine Oq (Vfa fo59_2 3) (Oq (VldF sh57 3) (Oq Vm (Oq (Vi sl57 10) (Oq (VldB sh4 10) (KS ?_)))))
  refine Kc ?_ ?_
  ·intro h96
   have h98 := h60; rw [h96] at h98
   refine KS ?_
   refine Oq Vm (Oq (Vfa fo59_1 3) (Oq (VldF sh22 3) (Oq Vm (Oq (Vi sl22 9) ?_))))
   have hb99 := ok1 (i := i_33.toNat) ho49 rng
   refine Oq (VldI sh3 9) (Oa (AsV sl22 sz22 [vi (st.Cone.getD i_33.toNat 0)] [vi (st.Cone.getD i_33.toNat 0)]) fun c100 => ?_)
   refine Jo 0 ?_; rintro a101 k102 rfl
   refine Jl [0] (Ent.crInt _ [(st.Cone.getD i_33.toNat 0)] _ _ rfl rfl (by intro x hx; rw [List.mem_singleton] at hx; subst hx; unfold i64ok; omega) (Nat.le_of_ble_eq_true rfl)) ?_
   refine Oa (ApO [3, 0] sl22 sl22 sz22) fun c103 => ?_
   refine Jo 0 ?_; rintro a104 k105 rfl
   refine Fb 8 0 fun _ => Fo 0 fun ho107 => ?_
   have hn108 := la leaves_32 ([(st.Cone.getD i_33.toNat 0)] : List Int)
   refine Oq Va (KS ?_)
   refine Oq Vm (Oq Vadd (Oq Va (KS ?_)))
   exact Kg (r56, (leaves_32 ++ [(st.Cone.getD i_33.toNat 0)]), (i_33 + 1), a104, k105) [0, 2, 3, 4, 5, 6, 7, 8, 9, 10, 11] ⟨(q3 hM36 (by simp only [fVS_L0, h13, h16, h19, h22, h28, h54, h60, h78, h86, h92, h96, hg26, hg59, hg75, h98, cs4])), (by omega), (by omega), (by omega), (by omega), iv1⟩
  intro h96
  have h110 := h60; rw [h96] at h110
  refine KS ?_
  refine Oq Vm (Oq Vadd (Oq Va (KS ?_)))
  exact Kg (r56, leaves_32, (i_33 + 1), a34, k35) [2, 2, 3, 4, 5, 6, 7, 8, 9, 10, 11] ⟨(q3 hM36 (by simp only [fVS_L0, h13, h16, h19, h22, h28, h54, h60, h78, h86, h92, h96, hg26, hg59, hg75, h110, cs4])), (by omega), (by omega), (by omega), (by omega), iv1⟩
 intro h54
 have g111 := df h54
 obtain rfl : r31 = 0 := by omega
 refine Ke ?_
 have hR112 := q2 hM36 (.brk leaves_32) (by simp only [fVS_L0, h13, h16, h19, h22, h28, h54, hg26, cs4])
 refine KS ?_
 refine Oq Va (KS ?_)
 refine Kl (γ := Nat × Int) (fun (r113, i_114) => ⟨[(3, p11), (5, p12), (7, vl a34 k35 leaves_32), (9, vi i_114)], [O a34 k35 leaves_32, pv p12 [vi st.Phase, vl sta1 stk1 st.Cone, vl sta2 stk2 st.Leaf, vi st.At, vi st.Edge, vl sta5 stk5 st.Values, vl sta6 stk6 st.Queue, vi st.Steps], pv p11 [vi s.Width, vl sa1 sk1 s.Deps, vl sa2 sk2 s.Transfers, vl sa3 sk3 s.Boundary], S sa1 sk1 s.Deps, S sa2 sk2 s.Transfers, S sa3 sk3 s.Boundary, S sta1 stk1 st.Cone, S sta2 stk2 st.Leaf, S sta5 stk5 st.Values, S sta6 stk6 st.Queue], fVS_L1 st r113 i_114 = fVS_L1 st (((st.Queue.length : Int) - 0).toNat) 0 ∧ r113 = ((st.Queue.length : Int) - i_114).toNat ∧ (0 : Int) ≤ i_114 ∧ i_114 ≤ (st.Queue.length : Int) ∧ (-9223372036854775808 ≤ i_114 ∧ i_114 ≤ 9223372036854775807), r113⟩) (((st.Queue.length : Int) - 0).toNat, 0) [0, 0, 1, 2, 3, 4, 6, 7, 8, 9] ⟨rfl, rfl, (by omega), (by omega), (by omega)⟩ ?_
 rintro ⟨r113, i_114⟩ ⟨hM115, hr116, hi117, hi118, hk119⟩
 refine JJ_nx fun _ _ hL hA => ?_; dsimp only at hL hA; subst hL hA
 refine Fb 8 0 fun _ => Fo 0 fun ho121 => Fb 24 3 fun _ => Fb 88 4 fun _ => Fb 32 5 fun _ => Fb 8 6 fun _ => Fo 6 fun ho126 => Fb 1 7 fun _ => ?_
 refine Fb 32 8 fun _ => Fb 8 9 fun _ => Fo 9 fun ho130 => KS ?_
 refine Oq Vm (Oq (Vfa fo59_6 1) (Oq (VldF sh22 1) (Oq (Vlen sl22) (Oq Vlss (KS ?_)))))
 refine Kc ?_ ?_
 ·intro h131
  have g132 := dt h131
  obtain ⟨r133, rfl⟩ := scc (n := r113) (by omega)
  refine KS ?_
  refine Kq [0, 1, 0, 7, 15, 31, 63, 127, 255, 127, 1023, 2047, 127, 4223, 12415, 32767, 65535] fmix ?_
  refine Qv [1] (Vfa fo59_6 0) (Qv [1] (VldF sh22 0) (Qv [] Vm (Qv [9] (Vi sl22 0) ?_)))
  have hb134 := ok1 (i := i_114.toNat) ho130 rng
  refine Qv [9] (VldI sh3 0) (Qv [] Vlss ?_)
  refine bool_split (decide ((st.Queue.getD i_114.toNat 0) < 0)) ?_ ?_
  ·intro h135
   have g136 := dt h135
   refine Qb h135 [] Vm (Qs (Qs (Qs (Qs (Qs (Qs (Qs (Qs (Qs ?_)))))))))
   refine Qv [] Vpt ?_
   refine Qn ⟨by kernel_rfl, ?_⟩
   refine Kt (KS ?_)
   refine Oq Va (KS ?_)
   have hR137 := q2 hM115 (.ret false) (by simp only [fVS_L1, h13, h16, h19, h22, h28, h54, h131, h135, hg26, hR112, cs4])
   have hq := q4 hrr false (by simp only [fVS, h13, h16, h19, h22, h28, h54, h131, h135, hg26, hR112, hR137, cs4]); subst hq
   exact Kr () rfl (.tmp rfl .nil) [] trivial
  intro h135
  have g138 := df h135
  refine Qb h135 [] Vm (Qv [1] (Vfa fo59_6 0) (Qv [1] (VldF sh22 0) (Qv [] Vm (Qv [9] (Vi sl22 0) ?_))))
  have hb139 := ok1 (i := i_114.toNat) ho130 rng
  refine Qv [9] (VldI sh3 0) (Qv [1] (Vfa fo59_1 0) (Qv [1] (VldF sh22 0) (Qv [] (Vlen sl22) (Qv [] Vgeq (Qv [] Vpf ?_)))))
  refine Qn ⟨by kernel_rfl, ?_⟩
  refine Kc ?_ ?_
  ·intro h140
   have g141 := dt h140
   refine KS ?_
   refine Oq Va (KS ?_)
   have hR142 := q2 hM115 (.ret false) (by simp only [fVS_L1, h13, h16, h19, h22, h28, h54, h131, h135, h140, hg26, hR112, cs4])
   have hq := q4 hrr false (by simp only [fVS, h13, h16, h19, h22, h28, h54, h131, h135, h140, hg26, hR112, hR142, cs4]); subst hq
   exact Kr () rfl (.tmp rfl .nil) [] trivial
  intro h140
  have g143 := df h140
  refine KS ?_
  refine Oq Vm (Oq Vadd (Oq Va (KS ?_)))
  exact Kg (r133, (i_114 + 1)) [0, 0, 1, 2, 3, 4, 5, 6, 7, 8] ⟨(q3 hM115 (by simp only [fVS_L1, h13, h16, h19, h22, h28, h54, h131, h135, h140, hg26, hR112, cs4])), (by omega), (by omega), (by omega), (by omega)⟩
 intro h131
 have g144 := df h131
 obtain rfl : r113 = 0 := by omega
 refine Ke ?_
 have hR145 := q2 hM115 (.brk ()) (by simp only [fVS_L1, h13, h16, h19, h22, h28, h54, h131, hg26, hR112, cs4])
 refine KS ?_
 refine Oq (VldA sh27 2) (Oq (Vfa fo59_1 1) (Oq (VldF sh22 1) (Oq Vm ?_)))
 refine letv (flqref14_closed s st.Cone leaves_32) fun rv146 hg147 => ?_
 refine Oc [0, 2, 3, 4, 5] ca232 (FT_borrow (A := _) (fun _ _ h => by cases h) (FT_ent (Ent.take (is := [1, 2, 3, 4, 0]) rfl) (fn232 s sa1 sk1 sa2 sk2 sa3 sk3 st.Cone sta1 stk1 leaves_32 a34 k35 pre hcr rv146 hg147))) ?_ (ht := rfl)
 rintro - -
 refine Oq Va (KS ?_)
 have hq := q4 hrr rv146 (by simp only [fVS, h13, h16, h19, h22, h28, h54, h131, hg26, hR112, hR145, hg147, cs4]); subst hq
 exact Kr () rfl (.tmp rfl .nil) [] trivial
theorem fn92 (s : GSystem) (sa1 : Option Addr) (sk1 : Nat) (sa2 : Option Addr) (sk2 : Nat) (sa3 : Option Addr) (sk3 : Nat) (k : List GKnown) (ka0 : Option Addr) (kk0 : Nat) (st : GState) (sta1 : Option Addr) (stk1 : Nat) (sta2 : Option Addr) (stk2 : Nat) (sta5 : Option Addr) (stk5 : Nat) (sta6 : Option Addr) (stk6 : Nat) (hs_0 : i64ok s.Width) (hst_0 : i64ok st.Phase) (hst_3 : i64ok st.At) (hst_4 : i64ok st.Edge) (hst_7 : i64ok st.Steps) (rr : Bool) (hrr : flqref14_Valid s k st = rr) : FT Tryz.prog 92 #[.agg #[vi s.Width, vl sa1 sk1 s.Deps, vl sa2 sk2 s.Transfers, vl sa3 sk3 s.Boundary], vl ka0 kk0 k, .agg #[vi st.Phase, vl sta1 stk1 st.Cone, vl sta2 stk2 st.Leaf, vi st.At, vi st.Edge, vl sta5 stk5 st.Values, vl sta6 stk6 st.Queue, vi st.Steps]] [S sa1 sk1 s.Deps, S sa2 sk2 s.Transfers, S sa3 sk3 s.Boundary, S ka0 kk0 k, S sta1 stk1 st.Cone, S sta2 stk2 st.Leaf, S sta5 stk5 st.Values, S sta6 stk6 st.Queue] (fun g : Unit => True) (fun g => vb rr) (fun g => []) := by
 refine FTi Tryz.func92 fun w0 M0 F0 => ?_
 unfold i64ok at hs_0 hst_0 hst_3 hst_4 hst_7
 refine Fb 24 0 fun _ => Fb 88 1 fun _ => Fb 32 2 fun _ => Fb 40 3 fun _ => Fb 8 4 fun _ => Fo 4 fun ho6 => Fb 1 5 fun _ => Fb 32 6 fun _ => ?_
 refine Fb 8 7 fun _ => Fo 7 fun ho10 => KS ?_
 refine Oa (Ab [vi s.Width, vl sa1 sk1 s.Deps, vl sa2 sk2 s.Transfers, vl sa3 sk3 s.Boundary]) fun p11 => Oa (Ab [vi st.Phase, vl sta1 stk1 st.Cone, vl sta2 stk2 st.Leaf, vi st.At, vi st.Edge, vl sta5 stk5 st.Values, vl sta6 stk6 st.Queue, vi st.Steps]) fun p12 => Oq Va (KS ?_)
 refine Oq (VldA sh27 1) ?_
 refine letv (flqref10_Valid s) fun rv13 hg14 => ?_
 have hc15 := fn74 s sa1 sk1 sa2 sk2 sa3 sk3 pre rv13 hg14
 refine Oc [2, 3, 4] ca74 hc15 ?_
 rintro - -
 refine Oq Vnot (Oq Vm ?_)
 refine Js 10 ?_ ?_
 ·intro h16
  have h18 := not_true h16
  refine Osk (Osk (Osk (Osk (Oq Vpt (Oq Vm (Osk (Osk (Osk (Osk ?_)))))))))
  refine Oq Vpt (Oq Vm (Osk (Osk (Osk (Osk (Osk (Osk (Osk (Oq Vpt ?_)))))))))
  refine Oq Vm (Osk (Osk (Osk (Osk (Osk (Osk (Osk (Oq Vpt (Oq Vm ?_)))))))))
  refine Osk (Osk (Osk (Osk (Osk (Osk (Osk (Oq Vpt (Oq Vm (Osk ?_)))))))))
  refine Osk (Osk (Osk (Osk (Oq Vpt (Oq Vm (Osk (Osk (Osk (Oq Vpt ?_)))))))))
  refine Oq Vm (Osk (Osk (Osk (Osk (Oq Vpt (KS ?_))))))
  refine Kt (KS ?_)
  refine Oq Va (KS ?_)
  have hq := q4 hrr false (by simp only [flqref14_Valid, h16, h18, hg14, cs4]); subst hq
  exact Kr () rfl (.tmp rfl .nil) [] trivial
 intro h16
 have h21 := not_false h16
 try (have hvs := (RefValid_iff s).1 (by simp only [h16, h21, hg14]); have hv1 := hvs.n; have hv2 := hvs.tl; have hv3 := hvs.bl; have hv4 := hvs.w)
 try (have hcr := inside_dep hvs (l := st.Cone) (by simp only [h16, h21, hg14]))
 refine Oq (VldA sh27 1) (Oq Vm ?_)
 refine letv (fVK s k) fun rv23 hg24 => ?_
 have hc25 := fn171 s sa1 sk1 sa2 sk2 sa3 sk3 k ka0 kk0 pre rv23 hg24
 refine Oc [2, 3, 4, 5] ca171 hc25 ?_
 rintro - -
 refine Oq Vnot (Oq Vpf (Oq Vm ?_))
 refine Js 16 ?_ ?_
 ·intro h26
  have h28 := not_true h26
  refine Osk (Osk (Osk (Osk (Oq Vpt (Oq Vm (Osk (Osk (Osk (Osk ?_)))))))))
  refine Osk (Osk (Osk (Oq Vpt (Oq Vm (Osk (Osk (Osk (Osk (Osk ?_)))))))))
  refine Osk (Osk (Oq Vpt (Oq Vm (Osk (Osk (Osk (Osk (Osk (Osk ?_)))))))))
  refine Osk (Oq Vpt (Oq Vm (Osk (Osk (Osk (Osk (Osk (Oq Vpt (Oq Vm ?_)))))))))
  refine Osk (Osk (Osk (Oq Vpt (Oq Vm (Osk (Osk (Osk (Osk (Oq Vpt ?_)))))))))
  refine KS ?_
  refine Kt (KS ?_)
  refine Oq Va (KS ?_)
  have hq := q4 hrr false (by simp only [flqref14_Valid, h16, h21, h26, h28, hg14, hg24, cs4]); subst hq
  exact Kr () rfl (.tmp rfl .nil) [] trivial
 intro h26
 have h31 := not_false h26
 try (have hvs := (RefValid_iff s).1 (by simp only [h16, h21, h26, h31, hg14, hg24]); have hv1 := hvs.n; have hv2 := hvs.tl; have hv3 := hvs.bl; have hv4 := hvs.w)
 try (have hcr := inside_dep hvs (l := st.Cone) (by simp only [h16, h21, h26, h31, hg14, hg24]))
 refine Oq (Vfa fo59_1 0) (Oq (VldF sh22 0) (Oq (Vlen sl22) (Oq Veql (Oq Vpf (Oq Vm ?_)))))
 refine Js 22 ?_ ?_
 ·intro h33
  have g34 := eq_of_beq h33
  refine Osk (Osk (Osk (Osk (Osk (Osk (Osk (Oq Vpt (Oq Vm (Osk ?_)))))))))
  refine Osk (Osk (Osk (Osk (Osk (Osk (Oq Vpt (Oq Vm (Osk (Osk ?_)))))))))
  refine Osk (Osk (Osk (Osk (Osk (Oq Vpt (Oq Vm (Osk (Osk (Osk ?_)))))))))
  refine Osk (Osk (Oq Vpt (Oq Vm (Osk (Osk (Osk (Oq Vpt (Oq Vm (Osk ?_)))))))))
  refine Osk (Osk (Osk (Oq Vpt (KS ?_))))
  refine Kt (KS ?_)
  refine Oq Va (KS ?_)
  have hq := q4 hrr false (by simp only [flqref14_Valid, h16, h21, h26, h31, h33, hg14, hg24, cs4]); subst hq
  exact Kr () rfl (.tmp rfl .nil) [] trivial
 intro h33
 have g35 := ne_of_beq_false h33
 refine Oq (Vfa fo59_1 0) (Oq (VldF sh22 0) (Oq (Vlen sl22) (Oq (Vfa fo27_3 1) (Oq (VldF sh25 1) (Oq (Vlen sl25) (Oq Vgtr (Oq Vpf (Oq Vm ?_))))))))
 refine Js 31 ?_ ?_
 ·intro h36
  have g37 := dt h36
  refine Osk (Osk (Osk (Osk (Osk (Osk (Osk (Oq Vpt (Oq Vm (Osk ?_)))))))))
  refine Osk (Osk (Osk (Osk (Osk (Osk (Oq Vpt (Oq Vm (Osk (Osk ?_)))))))))
  refine Osk (Osk (Osk (Oq Vpt (Oq Vm (Osk (Osk (Osk (Oq Vpt (Oq Vm ?_)))))))))
  refine Osk (Osk (Osk (Osk (Oq Vpt (KS ?_)))))
  refine Kt (KS ?_)
  refine Oq Va (KS ?_)
  have hq := q4 hrr false (by simp only [flqref14_Valid, h16, h21, h26, h31, h33, h36, hg14, hg24, cs4]); subst hq
  exact Kr () rfl (.tmp rfl .nil) [] trivial
 intro h36
 have g38 := df h36
 refine Oq (Vfa fo59_2 0) (Oq (VldF sh57 0) (Oq (Vlen sl57) (Oq (Vfa fo59_1 0) (Oq (VldF sh22 0) (Oq (Vlen sl22) (Oq Vneq (Oq Vpf (Oq Vm ?_))))))))
 refine Js 40 ?_ ?_
 ·intro h39
  have g40 := ne_of_bne h39
  refine Osk (Osk (Osk (Osk (Osk (Osk (Osk (Oq Vpt (Oq Vm (Osk ?_)))))))))
  refine Osk (Osk (Osk (Osk (Oq Vpt (Oq Vm (Osk (Osk (Osk (Oq Vpt ?_)))))))))
  refine Oq Vm (Osk (Osk (Osk (Osk (Oq Vpt (KS ?_))))))
  refine Kt (KS ?_)
  refine Oq Va (KS ?_)
  have hq := q4 hrr false (by simp only [flqref14_Valid, h16, h21, h26, h31, h33, h36, h39, hg14, hg24, cs4]); subst hq
  exact Kr () rfl (.tmp rfl .nil) [] trivial
 intro h39
 have g41 := eq_of_bne_false h39
 refine Oq (Vfa fo59_6 0) (Oq (VldF sh22 0) (Oq (Vlen sl22) (Oq (Vfa fo59_1 0) (Oq (VldF sh22 0) (Oq (Vlen sl22) (Oq Vgtr (Oq Vpf (Oq Vm ?_))))))))
 refine Js 49 ?_ ?_
 ·intro h42
  have g43 := dt h42
  refine Osk (Osk (Osk (Osk (Osk (Oq Vpt (Oq Vm (Osk (Osk (Osk ?_)))))))))
  refine Oq Vpt (Oq Vm (Osk (Osk (Osk (Osk (Oq Vpt (KS ?_)))))))
  refine Kt (KS ?_)
  refine Oq Va (KS ?_)
  have hq := q4 hrr false (by simp only [flqref14_Valid, h16, h21, h26, h31, h33, h36, h39, h42, hg14, hg24, cs4]); subst hq
  exact Kr () rfl (.tmp rfl .nil) [] trivial
 intro h42
 have g44 := df h42
 refine Oq (VldA sh27 1) (Oq (Vfa fo59_1 0) (Oq (VldF sh22 0) ?_))
 refine letv (flqref14_inside s st.Cone) fun rv45 hg46 => ?_
 have hc47 := fn98 s sa1 sk1 sa2 sk2 sa3 sk3 st.Cone sta1 stk1 pre rv45 hg46
 refine Oc [2, 3, 4, 6] ca98 hc47 ?_
 rintro - -
 refine Oq Vnot (Oq Vpf (Oq Vm ?_))
 refine Js 56 ?_ ?_
 ·intro h48
  have h50 := not_true h48
  refine Osk (Osk (Osk (Oq Vpt (Oq Vm (Osk (Osk (Osk (Osk (Oq Vpt ?_)))))))))
  refine KS ?_
  refine Kt (KS ?_)
  refine Oq Va (KS ?_)
  have hq := q4 hrr false (by simp only [flqref14_Valid, h16, h21, h26, h31, h33, h36, h39, h42, h48, h50, hg14, hg24, hg46, cs4]); subst hq
  exact Kr () rfl (.tmp rfl .nil) [] trivial
 intro h48
 have h53 := not_false h48
 try (have hvs := (RefValid_iff s).1 (by simp only [h16, h21, h26, h31, h33, h36, h39, h42, h48, h53, hg14, hg24, hg46]); have hv1 := hvs.n; have hv2 := hvs.tl; have hv3 := hvs.bl; have hv4 := hvs.w)
 try (have hcr := inside_dep hvs (l := st.Cone) (by simp only [h16, h21, h26, h31, h33, h36, h39, h42, h48, h53, hg14, hg24, hg46]))
 refine Oq (Vfa fo59_1 0) (Oq (VldF sh22 0) ?_)
 refine letv (flqref14_repeated st.Cone) fun rv55 hg56 => ?_
 have hc57 := fn131 st.Cone sta1 stk1 rv55 hg56
 refine Oc [6] ca131 hc57 ?_
 rintro - -
 refine Oq Vpf (Oq Vm ?_)
 refine Js 61 ?_ ?_
 ·intro h58
  try (have hvs := (RefValid_iff s).1 (by simp only [h16, h21, h26, h31, h33, h36, h39, h42, h48, h53, h58, hg14, hg24, hg46, hg56]); have hv1 := hvs.n; have hv2 := hvs.tl; have hv3 := hvs.bl; have hv4 := hvs.w)
  try (have hcr := inside_dep hvs (l := st.Cone) (by simp only [h16, h21, h26, h31, h33, h36, h39, h42, h48, h53, h58, hg14, hg24, hg46, hg56]))
  refine Osk (Osk (Osk (Osk (Oq Vpt (KS ?_)))))
  refine Kt (KS ?_)
  refine Oq Va (KS ?_)
  have hq := q4 hrr false (by simp only [flqref14_Valid, h16, h21, h26, h31, h33, h36, h39, h42, h48, h53, h58, hg14, hg24, hg46, hg56, cs4]); subst hq
  exact Kr () rfl (.tmp rfl .nil) [] trivial
 intro h58
 refine Oq (Vfa fo59_7 0) (Oq (VldF sh3 0) ?_)
 refine letv (flqref14_counter st.Steps) fun rv61 hg62 => ?_
 have hc63 := fn172 st.Steps pre rv61 hg62
 refine Oc [] ca172 hc63 ?_
 rintro - -
 refine Oq Vnot (Oq Vpf (KS ?_))
 refine Kc ?_ ?_
 ·intro h64
  have h66 := not_true h64
  refine KS ?_
  refine Oq Va (KS ?_)
  have hq := q4 hrr false (by simp only [flqref14_Valid, h16, h21, h26, h31, h33, h36, h39, h42, h48, h53, h58, h64, h66, hg14, hg24, hg46, hg56, hg62, cs4]); subst hq
  exact Kr () rfl (.tmp rfl .nil) [] trivial
 intro h64
 have h69 := not_false h64
 try (have hvs := (RefValid_iff s).1 (by simp only [h16, h21, h26, h31, h33, h36, h39, h42, h48, h53, h58, h64, h69, hg14, hg24, hg46, hg56, hg62]); have hv1 := hvs.n; have hv2 := hvs.tl; have hv3 := hvs.bl; have hv4 := hvs.w)
 try (have hcr := inside_dep hvs (l := st.Cone) (by simp only [h16, h21, h26, h31, h33, h36, h39, h42, h48, h53, h58, h64, h69, hg14, hg24, hg46, hg56, hg62]))
 refine KS ?_
 refine Oq (Vfa fo59_0 0) (Oq (VldF sh3 0) (KS ?_))
 refine Oq Veql (Oq Va (KS ?_))
 refine Kc ?_ ?_
 ·intro h71
  have g72 := eq_of_beq h71
  refine KS ?_
  refine Oq (VldA sh27 1) (Oq Vm (Oq (VldA sh59 0) ?_))
  refine letv (flqref14_validDemand s k st) fun rv73 hg74 => ?_
  have hc75 := fn173 s sa1 sk1 sa2 sk2 sa3 sk3 k ka0 kk0 st sta1 stk1 sta2 stk2 sta5 stk5 sta6 stk6 pre pre pre pre pre hvs pre pre hcr rv73 hg74
  refine Oc [2, 3, 4, 5, 6, 7, 8, 9] ca173 hc75 ?_
  rintro - -
  refine Oq Va (KS ?_)
  have hq := q4 hrr rv73 (by simp only [flqref14_Valid, h16, h21, h26, h31, h33, h36, h39, h42, h48, h53, h58, h64, h69, h71, hg14, hg24, hg46, hg56, hg62, hg74, cs4]); subst hq
  exact Kr () rfl (.tmp rfl .nil) [] trivial
 intro h71
 have g76 := ne_of_beq_false h71
 refine KS ?_
 refine Oq Veql (Oq Va (KS ?_))
 refine Kc ?_ ?_
 ·intro h77
  have g78 := eq_of_beq h77
  refine KS ?_
  refine Kc ?_ ?_
  ·intro h79
   have g80 := eq_of_beq h79
   refine KS ?_
   refine Oq (VldA sh27 1) (Oq Vm (Oq (VldA sh59 0) ?_))
   refine letv (fVS s k st) fun rv81 hg82 => ?_
   have hc83 := fn174 s sa1 sk1 sa2 sk2 sa3 sk3 k ka0 kk0 st sta1 stk1 sta2 stk2 sta5 stk5 sta6 stk6 pre pre pre pre pre hvs pre pre hcr rv81 hg82
   refine Oc [2, 3, 4, 5, 6, 7, 8, 9] ca174 hc83 ?_
   rintro - -
   refine Oq Va (KS ?_)
   have hq := q4 hrr rv81 (by simp only [flqref14_Valid, h16, h21, h26, h31, h33, h36, h39, h42, h48, h53, h58, h64, h69, h71, h77, h79, hg14, hg24, hg46, hg56, hg62, hg82, cs4]); subst hq
   exact Kr () rfl (.tmp rfl .nil) [] trivial
  intro h79
  exact absurd h79 (by simp [h77])
 intro h77
 have g84 := ne_of_beq_false h77
 refine KS ?_
 refine Oq Veql (Oq Va (KS ?_))
 refine Kc ?_ ?_
 ·intro h85
  have g86 := eq_of_beq h85
  refine KS ?_
  refine Oq (VldA sh27 1) (Oq Vm (Oq (VldA sh59 0) ?_))
  refine letv (fVS s k st) fun rv87 hg88 => ?_
  have hc89 := fn174 s sa1 sk1 sa2 sk2 sa3 sk3 k ka0 kk0 st sta1 stk1 sta2 stk2 sta5 stk5 sta6 stk6 pre pre pre pre pre hvs pre pre hcr rv87 hg88
  refine Oc [2, 3, 4, 5, 6, 7, 8, 9] ca174 hc89 ?_
  rintro - -
  refine Oq Va (KS ?_)
  have hq := q4 hrr rv87 (by simp only [flqref14_Valid, h16, h21, h26, h31, h33, h36, h39, h42, h48, h53, h58, h64, h69, h71, h77, h85, hg14, hg24, hg46, hg56, hg62, hg88, cs4]); subst hq
  exact Kr () rfl (.tmp rfl .nil) [] trivial
 intro h85
 have g90 := ne_of_beq_false h85
 refine KS ?_
 refine Oq Va (KS ?_)
 have hq := q4 hrr false (by simp only [flqref14_Valid, h16, h21, h26, h31, h33, h36, h39, h42, h48, h53, h58, h64, h69, h71, h77, h85, hg14, hg24, hg46, hg56, hg62, cs4]); subst hq
 exact Kr () rfl (.tmp rfl .nil) [] trivial
theorem fn142 (st : GState) (sta1 : Option Addr) (stk1 : Nat) (sta2 : Option Addr) (stk2 : Nat) (sta5 : Option Addr) (stk5 : Nat) (sta6 : Option Addr) (stk6 : Nat) (hst_0 : i64ok st.Phase) (hst_3 : i64ok st.At) (hst_4 : i64ok st.Edge) (hst_7 : i64ok st.Steps) (rr : GState) (hrr : flqref14_CopyState st = rr) : FT Tryz.prog 142 #[.agg #[vi st.Phase, vl sta1 stk1 st.Cone, vl sta2 stk2 st.Leaf, vi st.At, vi st.Edge, vl sta5 stk5 st.Values, vl sta6 stk6 st.Queue, vi st.Steps]] [S sta1 stk1 st.Cone, S sta2 stk2 st.Leaf, S sta5 stk5 st.Values, S sta6 stk6 st.Queue] (fun g : Value × Value × Value × Value => i64ok rr.Phase ∧ i64ok rr.At ∧ i64ok rr.Edge ∧ i64ok rr.Steps) (fun g => .agg #[vi rr.Phase, g.1, g.2.1, vi rr.At, vi rr.Edge, g.2.2.1, g.2.2.2, vi rr.Steps]) (fun g => [os g.1 rr.Cone, os g.2.1 rr.Leaf, os g.2.2.1 rr.Values, os g.2.2.2 rr.Queue]) := by
 refine FTi Tryz.func142 fun w0 M0 F0 => ?_
 unfold i64ok at hst_0 hst_3 hst_4 hst_7
 refine Fb 8 0 fun _ => Fo 0 fun ho2 => Fb 1 1 fun _ => Fb 32 2 fun _ => Fb 8 3 fun _ => Fo 3 fun ho6 => KS ?_
 refine Oa (AbO [vi st.Phase, vl sta1 stk1 st.Cone, vl sta2 stk2 st.Leaf, vi st.At, vi st.Edge, vl sta5 stk5 st.Values, vl sta6 stk6 st.Queue, vi st.Steps]) fun p7 => Oa (Al ze59 [vi 0, .slice none 0 0, .slice none 0 0, vi 0, vi 0, .slice none 0 0, .slice none 0 0, vi 0]) fun p8 => KS ?_
 refine Oa (As0 sl22) fun c9 => ?_
 refine Jo 0 ?_; rintro a10 k11 rfl
 refine Oq (Vfa fo59_1 2) (Oq (VldF sh22 2) ?_)
 refine Jl [0] (Ent.crNil (α := Int) _) ?_
 refine Oa (Ap0 [0, 2] sl22 sl22 sz22) fun c12 => ?_
 refine Jo 0 ?_; rintro a13 k14 rfl
 refine Oq (Vfa fo59_1 2) (Ost (SclF [2] sh22 [vi st.Phase, vl a13 k14 st.Cone, vl sta2 stk2 st.Leaf, vi st.At, vi st.Edge, vl sta5 stk5 st.Values, vl sta6 stk6 st.Queue, vi st.Steps]) (KS ?_))
 refine Oa (As0 sl57) fun c15 => ?_
 refine Jo 0 ?_; rintro a16 k17 rfl
 refine Oq (Vfa fo59_2 1) (Oq (VldF sh57 1) ?_)
 refine Jl [0] (Ent.crNil (α := Bool) _) ?_
 refine Oa (Ap0 [0, 4] sl57 sl57 sz57) fun c18 => ?_
 refine Jo 0 ?_; rintro a19 k20 rfl
 refine Oq (Vfa fo59_2 1) (Ost (SclF [1] sh57 [vi st.Phase, vl a13 k14 st.Cone, vl a19 k20 st.Leaf, vi st.At, vi st.Edge, vl sta5 stk5 st.Values, vl sta6 stk6 st.Queue, vi st.Steps]) (KS ?_))
 refine Oa (As0 sl25) fun c21 => ?_
 refine Jo 0 ?_; rintro a22 k23 rfl
 refine Oq (Vfa fo59_5 1) (Oq (VldF sh25 1) ?_)
 refine Jl [0] (Ent.crNil (α := GSet) _) ?_
 refine Oa (Ap0 [0, 6] sl25 sl25 sz25) fun c24 => ?_
 refine Jo 0 ?_; rintro a25 k26 rfl
 refine Oq (Vfa fo59_5 1) (Ost (SclF [1] sh25 [vi st.Phase, vl a13 k14 st.Cone, vl a19 k20 st.Leaf, vi st.At, vi st.Edge, vl a25 k26 st.Values, vl sta6 stk6 st.Queue, vi st.Steps]) (KS ?_))
 refine Oa (As0 sl22) fun c27 => ?_
 refine Jo 0 ?_; rintro a28 k29 rfl
 refine Oq (Vfa fo59_6 1) (Oq (VldF sh22 1) ?_)
 refine Jl [0] (Ent.crNil (α := Int) _) ?_
 refine Oa (Ap0 [0, 8] sl22 sl22 sz22) fun c30 => ?_
 refine Jo 0 ?_; rintro a31 k32 rfl
 refine Oq (Vfa fo59_6 1) (Ost (SclF [1] sh22 [vi st.Phase, vl a13 k14 st.Cone, vl a19 k20 st.Leaf, vi st.At, vi st.Edge, vl a25 k26 st.Values, vl a31 k32 st.Queue, vi st.Steps]) (KS ?_))
 refine Oq (VldA sh59 0) (Ost (Scl [5] sh59 [vi st.Phase, vl a13 k14 st.Cone, vl a19 k20 st.Leaf, vi st.At, vi st.Edge, vl a25 k26 st.Values, vl a31 k32 st.Queue, vi st.Steps]) (KS ?_))
 have hq := q4 hrr st (by simp only [flqref14_CopyState, cs4]); subst hq
 exact Kr (vl a13 k14 st.Cone, vl a19 k20 st.Leaf, vl a25 k26 st.Values, vl a31 k32 st.Queue) rfl (.cellN 0 rfl sh59 rfl (reads_Cl _ _) rfl .nil) [5, 4, 3, 2] en
theorem fn205 (a : Int) (ha_0 : i64ok a) (rr : Int) (hrr : flqref1_Clamp a = rr) : FT Tryz.prog 205 #[vi a] [] (fun g : Unit => i64ok rr ∧ (0 ≤ rr ∧ rr ≤ 1073741824)) (fun g => vi rr) (fun g => []) := by
 refine FTi Tryz.func205 fun w0 M0 F0 => ?_
 unfold i64ok at ha_0
 refine KS ?_
 refine Oq Va (KS ?_)
 refine Oq Vm (Oq Vmin (Oq Vmax (Oq Va (KS ?_))))
 have hq := q4 hrr (max 0 (min a 1073741824)) (by simp only [flqref1_Clamp, cs4]); subst hq
 exact Kr () rfl (.tmp rfl .nil) [] en
theorem fn143 (a : Int) (b : Int) (ha_0 : i64ok a) (hb_0 : i64ok b) (rr : Int) (hrr : flqref1_Add a b = rr) : FT Tryz.prog 143 #[vi a, vi b] [] (fun g : Unit => i64ok rr) (fun g => vi rr) (fun g => []) := by
 refine FTi Tryz.func143 fun w0 M0 F0 => ?_
 unfold i64ok at ha_0 hb_0
 refine KS ?_
 refine Oq Va (KS ?_)
 refine Oq Vm ?_
 refine letv (flqref1_Clamp a) fun rv1 hg2 => ?_
 have hc3 := fn205 a pre rv1 hg2
 refine Oc [] ca205 hc3 ?_
 rintro - ⟨he4, he5⟩
 unfold i64ok at he4
 refine Oq Vm ?_
 refine letv (flqref1_Clamp b) fun rv6 hg7 => ?_
 have hc8 := fn205 b pre rv6 hg7
 refine Oc [] ca205 hc8 ?_
 rintro - ⟨he9, he10⟩
 unfold i64ok at he9
 refine Oq Vadd ?_
 refine letv (flqref1_Clamp (rv1 + rv6)) fun rv11 hg12 => ?_
 have hc13 := fn205 ((rv1 + rv6)) pre rv11 hg12
 refine Oc [] ca205 hc13 ?_
 rintro - ⟨he14, he15⟩
 unfold i64ok at he14
 refine Oq Va (KS ?_)
 have hq := q4 hrr rv11 (by simp only [flqref1_Add, hg2, hg7, hg12, cs4]); subst hq
 exact Kr () rfl (.tmp rfl .nil) [] en
theorem fn144 (s : GSystem) (sa1 : Option Addr) (sk1 : Nat) (sa2 : Option Addr) (sk2 : Nat) (sa3 : Option Addr) (sk3 : Nat) (k : List GKnown) (ka0 : Option Addr) (kk0 : Nat) (st : GState) (sta1 : Option Addr) (stk1 : Nat) (sta2 : Option Addr) (stk2 : Nat) (sta5 : Option Addr) (stk5 : Nat) (sta6 : Option Addr) (stk6 : Nat) (hs_0 : i64ok s.Width) (hst_0 : i64ok st.Phase) (hst_3 : i64ok st.At) (hst_4 : i64ok st.Edge) (hst_7 : i64ok st.Steps) (hv : VSys s) (hd : DOk s k st) (rr : GState) (hrr : flqref14_demand s k st = rr) : FT Tryz.prog 144 #[.agg #[vi s.Width, vl sa1 sk1 s.Deps, vl sa2 sk2 s.Transfers, vl sa3 sk3 s.Boundary], vl ka0 kk0 k, .agg #[vi st.Phase, vl sta1 stk1 st.Cone, vl sta2 stk2 st.Leaf, vi st.At, vi st.Edge, vl sta5 stk5 st.Values, vl sta6 stk6 st.Queue, vi st.Steps]] [S sa1 sk1 s.Deps, S sa2 sk2 s.Transfers, S sa3 sk3 s.Boundary, S ka0 kk0 k, O sta1 stk1 st.Cone, O sta2 stk2 st.Leaf, O sta5 stk5 st.Values, O sta6 stk6 st.Queue] (fun g : Value × Value × Value × Value => i64ok rr.Phase ∧ i64ok rr.At ∧ i64ok rr.Edge ∧ i64ok rr.Steps) (fun g => .agg #[vi rr.Phase, g.1, g.2.1, vi rr.At, vi rr.Edge, g.2.2.1, g.2.2.2, vi rr.Steps]) (fun g => [sl g.1 rr.Cone, sl g.2.1 rr.Leaf, sl g.2.2.1 rr.Values, sl g.2.2.2 rr.Queue]) := by
 refine FTi Tryz.func144 fun w0 M0 F0 => ?_
 unfold i64ok at hs_0 hst_0 hst_3 hst_4 hst_7
 refine Fb 24 0 fun _ => Fb 88 1 fun _ => Fb 32 2 fun _ => Fb 40 3 fun _ => Fb 8 4 fun _ => Fo 4 fun ho6 => Fb 1 5 fun _ => Fb 32 6 fun _ => ?_
 refine Fb 8 7 fun _ => Fo 7 fun ho10 => ?_
 have hv1 := hv.n
 have hv2 := hv.tl
 have hv3 := hv.bl
 have hv4 := hv.w
 have hv5 := hv.dep_len
 have hcr := hd.b.cr
 have hq0 := hd.at_
 have hq1 := hd.b.lf
 have hq2 := hd.b.cl
 have hq3 := hd.b.vl
 have hq4 := hd.b.ql
 have hq5 := hd.ed
 have hqa := hcr _ (getD_mem (xs := st.Cone) (i := st.At.toNat) (d := 0) (by omega))
 have hfa := rfind_eq k (st.Cone.getD st.At.toNat 0)
 refine KS ?_
 refine Oa (Ab [vi s.Width, vl sa1 sk1 s.Deps, vl sa2 sk2 s.Transfers, vl sa3 sk3 s.Boundary]) fun p11 => Oa (AbO [vi st.Phase, vl sta1 stk1 st.Cone, vl sta2 stk2 st.Leaf, vi st.At, vi st.Edge, vl sta5 stk5 st.Values, vl sta6 stk6 st.Queue, vi st.Steps]) fun p12 => Oa (Al ze59 [vi 0, .slice none 0 0, .slice none 0 0, vi 0, vi 0, .slice none 0 0, .slice none 0 0, vi 0]) fun p13 => KS ?_
 refine Oq (Vfa fo59_1 1) (Oq (VldF sh22 1) (Oq (Vfa fo59_3 1) (Oq (VldF sh3 1) (Oq (Vi sl22 7) ?_))))
 have hb14 := ok1 (i := st.At.toNat) ho6 rng
 refine Oq (VldI sh3 7) (Oq Va ?_)
 refine KT ?_
 refine KjC (γ := List Bool) (fun st2_15 => ⟨[(1, vl ka0 kk0 k), (3, p11), (5, p12), (6, p13), (7, vi (st.Cone.getD st.At.toNat 0))], [Cl p13 [vi 0, .slice none 0 0, .slice none 0 0, vi 0, vi 0, .slice none 0 0, .slice none 0 0, vi 0], Cl p12 [vi st.Phase, vl sta1 stk1 st.Cone, vl sta2 stk2 st.Leaf, vi st.At, vi st.Edge, vl sta5 stk5 st.Values, vl sta6 stk6 st.Queue, vi st.Steps], pv p11 [vi s.Width, vl sa1 sk1 s.Deps, vl sa2 sk2 s.Transfers, vl sa3 sk3 s.Boundary], S sa1 sk1 s.Deps, S sa2 sk2 s.Transfers, S sa3 sk3 s.Boundary, S ka0 kk0 k, O sta1 stk1 st.Cone, os (vl sta2 stk2 st.Leaf) st2_15, O sta5 stk5 st.Values, O sta6 stk6 st.Queue], flqref14_demand_J0 s k st st2_15 = rr ∧ BOk s k (GState.mk st.Phase st.Cone st2_15 st.At st.Edge st.Values st.Queue st.Steps), 0⟩) ?_ ?_
 ·skip
  refine KS ?_
  refine Oq (Vfa fo59_4 1) (Oq (VldF sh3 1) (Oq Veql (Oq Vm ?_)))
  refine Js 20 ?_ ?_
  ·intro h18
   have g19 := eq_of_beq h18
   refine Oq Vm (Oq Vm ?_)
   refine letv (flqref14_find k (st.Cone.getD st.At.toNat 0)) fun rv20 hg21 => ?_
   have hc22 := fn132 k ka0 kk0 ((st.Cone.getD st.At.toNat 0)) pre rv20 hg21
   refine Oc [6] ca132 hc22 ?_
   rintro - ⟨he23, he24⟩
   unfold i64ok at he23
   refine Oq Vgeq (Oq Vpt (KS ?_))
   refine Kc ?_ ?_
   ·intro h25
    have g26 := dt h25
    refine KS ?_
    refine Oq (Vfa fo59_2 1) (Oq (VldF sh57 1) (Oq (Vfa fo59_3 1) (Oq (VldF sh3 1) (Oq (Vi sl57 8) (Ost (SoB [8] sh4) (KS ?_))))))
    exact Kg (st.Leaf.set st.At.toNat true) [1, 1, 1, 2, 3, 4, 5, 6, 0, 5, 5] ⟨(q3 hrr (by simp only [flqref14_demand, h18, h25, hg21, cs4])), (by first | assumption | exact hd.b0 _ _ _ _ | exact hd.b1 _ _ _ _ (by omega))⟩
   intro h25
   have g27 := df h25
   refine KS ?_
   exact Kg st.Leaf [0, 0, 0, 1, 2, 3, 4, 5, 5, 5, 5] ⟨(q3 hrr (by simp only [flqref14_demand, h18, h25, hg21, cs4])), (by first | assumption | exact hd.b0 _ _ _ _ | exact hd.b1 _ _ _ _ (by omega))⟩
  intro h18
  have g28 := ne_of_beq_false h18
  refine Osk (Osk (Osk (Osk (Oq Vpf (KS ?_)))))
  refine Kf (KS ?_)
  exact Kg st.Leaf [0, 0, 0, 1, 2, 3, 4, 5, 5, 5, 5] ⟨(q3 hrr (by simp only [flqref14_demand, h18, cs4])), (by first | assumption | exact hd.b0 _ _ _ _ | exact hd.b1 _ _ _ _ (by omega))⟩
 rintro st2_15 ⟨hM16, hv17⟩
 refine JJ_nx fun _ _ hL hA => ?_; dsimp only at hL hA; subst hL hA
 refine Fb 24 3 fun _ => Fb 88 4 fun _ => Fb 32 5 fun _ => Fb 40 6 fun _ => Fb 8 7 fun _ => Fo 7 fun ho34 => Fb 1 8 fun _ => Fl 8 fun hn36 => ?_
 refine Fb 32 9 fun _ => Fb 8 10 fun _ => Fo 10 fun ho39 => ?_
 have hbk := hv17
 have hbl : st2_15.length = st.Cone.length := hbk.lf
 refine KT ?_
 refine KjC (γ := List Bool) (fun st2_40 => ⟨[(1, vl ka0 kk0 k), (3, p11), (5, p12), (6, p13)], [Cl p13 [vi 0, .slice none 0 0, .slice none 0 0, vi 0, vi 0, .slice none 0 0, .slice none 0 0, vi 0], Cl p12 [vi st.Phase, vl sta1 stk1 st.Cone, vl sta2 stk2 st.Leaf, vi st.At, vi st.Edge, vl sta5 stk5 st.Values, vl sta6 stk6 st.Queue, vi st.Steps], pv p11 [vi s.Width, vl sa1 sk1 s.Deps, vl sa2 sk2 s.Transfers, vl sa3 sk3 s.Boundary], S sa1 sk1 s.Deps, S sa2 sk2 s.Transfers, S sa3 sk3 s.Boundary, S ka0 kk0 k, O sta1 stk1 st.Cone, os (vl sta2 stk2 st.Leaf) st2_40, O sta5 stk5 st.Values, O sta6 stk6 st.Queue], flqref14_demand_J1 s k st st2_40 = rr ∧ BOk s k (GState.mk st.Phase st.Cone st2_40 st.At st.Edge st.Values st.Queue st.Steps), 0⟩) ?_ ?_
 ·skip
  refine Jp 1 fun hp43 => ?_
  refine bool_split (!(st2_15.getD st.At.toNat false)) ?_ ?_
  ·intro h44
   have h46 := not_true h44
   refine JJ_peekL ((st.Cone.getD st.At.toNat 0) : Int).toNat 4 rfl rng fun a48 k49 => ?_
   refine Fb 8 1 fun _ => Fo 1 fun ho51 => ?_
   refine Kq [0, 1, 0, 4, 15, 31, 63, 127, 255, 511, 255, 1279, 255, 7423, 15615, 31999, 65535, 131071] fmix ?_
   refine Qv [2] (Vfa fo59_2 0) (Qv [4] (VldF sh57 0) (Qv [2] (Vfa fo59_3 0) (Qv [4] (VldF sh3 0) (Qv [11] (Vi sl57 0) (Qv [11] (VldB sh4 0) (Qb h44 [] Vnot (Qv [] Vm (Qv [2] (Vfa fo59_4 0) (Qv [4] (VldF sh3 0) ?_)))))))))
   refine Qv [5] (Vfa fo27_1 0) (Qv [5] (VldF sh23 0) (Qv [] Vm (Qv [6] (Vi sl23 0) (Qv [0] (Vld sh22 0) (Qv [] (Vlen sl22) (Qv [] Vlss (Qv [] Vpt ?_)))))))
   refine Qn ⟨by kernel_rfl, ?_⟩
   refine Kc ?_ ?_
   ·intro h52
    have g53 := dt h52
    refine KS ?_
    refine Kq [0, 1, 0, 7, 15, 0, 32, 127, 255, 511] fmix ?_
    refine Qv [5] (Vfa fo27_1 0) (Qv [5] (VldF sh23 0) (Qv [] Vm (Qv [6] (Vi sl23 0) (Qv [0] (Vld sh22 0) (Qv [2] (Vfa fo59_4 0) (Qv [4] (VldF sh3 0) (Qv [1] (Vi sl22 0) ?_)))))))
    have hb54 := ok1 (i := st.Edge.toNat) ho51 rng
    refine Qv [1] (VldI sh3 0) (Qv [] Va ?_)
    refine Qn ⟨by kernel_rfl, ?_⟩
    refine KS ?_
    refine Oq (Vfa fo59_1 4) (Oq (VldF sh22 4) (Oq Vm ?_))
    refine letv (flqref7_Has st.Cone ((s.Deps.getD ((st.Cone.getD st.At.toNat 0) : Int).toNat []).getD st.Edge.toNat 0)) fun rv55 hg56 => ?_
    refine Oc [10] ca99 (FT_borrow (A := _) (fun _ _ h => by cases h) (FT_ent (Ent.take (is := [0]) rfl) (fn99 st.Cone sta1 stk1 (((s.Deps.getD ((st.Cone.getD st.At.toNat 0) : Int).toNat []).getD st.Edge.toNat 0)) pre rv55 hg56))) ?_ (ht := rfl)
    rintro - -
    refine Oq Vnot (KS ?_)
    refine Kc ?_ ?_
    ·intro h57
     have h59 := not_true h57
     refine KS ?_
     refine Oq (Vfa fo59_1 5) (Oq (VldF sh22 5) (Oq Vm (Oa (AsV sl22 sz22 [vi ((s.Deps.getD ((st.Cone.getD st.At.toNat 0) : Int).toNat []).getD st.Edge.toNat 0)] [vi ((s.Deps.getD ((st.Cone.getD st.At.toNat 0) : Int).toNat []).getD st.Edge.toNat 0)]) fun c61 => ?_)))
     refine Jo 0 ?_; rintro a62 k63 rfl
     refine Jl [0] (Ent.crInt _ [((s.Deps.getD ((st.Cone.getD st.At.toNat 0) : Int).toNat []).getD st.Edge.toNat 0)] _ _ rfl rfl (by intro x hx; rw [List.mem_singleton] at hx; subst hx; unfold i64ok; omega) (Nat.le_of_ble_eq_true rfl)) ?_
     refine Oa (ApO [1, 0] sl22 sl22 sz22) fun c64 => ?_
     refine Jo 0 ?_; rintro a65 k66 rfl
     refine Fb 8 0 fun _ => Fo 0 fun ho68 => ?_
     have hn69 := la st.Cone ([((s.Deps.getD ((st.Cone.getD st.At.toNat 0) : Int).toNat []).getD st.Edge.toNat 0)] : List Int)
     refine Oq (Vfa fo59_1 5) (Ost (SclF [5] sh22 [vi st.Phase, .slice a65 ((st.Cone ++ [((s.Deps.getD ((st.Cone.getD st.At.toNat 0) : Int).toNat []).getD st.Edge.toNat 0)]).length) k66, vl sta2 stk2 st.Leaf, vi st.At, vi st.Edge, vl sta5 stk5 st.Values, vl sta6 stk6 st.Queue, vi st.Steps]) (KS ?_))
     refine Oq (Vfa fo59_2 0) (Oq (VldF sh57 0) (Oa (AsV sl57 sz57 [vb false] [vb false]) fun c70 => ?_))
     refine Jo 0 ?_; rintro a71 k72 rfl
     refine Jl [0] (Ent.cr1 (α := Bool) (A := []) _ false _ (Nat.le_of_ble_eq_true rfl) (fun _ => rfl)) ?_
     refine Oa (ApO [12, 0] sl57 sl57 sz57) fun c73 => ?_
     refine Jo 0 ?_; rintro a74 k75 rfl
     refine Fb 1 0 fun _ => ?_
     have hn77 := la st2_15 ([false] : List Bool)
     refine Oq (Vfa fo59_2 1) (Ost (SclF [1] sh57 [vi st.Phase, .slice a65 ((st.Cone ++ [((s.Deps.getD ((st.Cone.getD st.At.toNat 0) : Int).toNat []).getD st.Edge.toNat 0)]).length) k66, vl a74 k75 (st2_15 ++ [false]), vi st.At, vi st.Edge, vl sta5 stk5 st.Values, vl sta6 stk6 st.Queue, vi st.Steps]) (KS ?_))
     refine Oq (Vfa fo59_4 0) (Oq (VldF sh3 0) (Oq Vadd (Oq (Vfa fo59_4 0) (Ost (SclF [0] sh3 [vi st.Phase, .slice a65 ((st.Cone ++ [((s.Deps.getD ((st.Cone.getD st.At.toNat 0) : Int).toNat []).getD st.Edge.toNat 0)]).length) k66, vl a74 k75 (st2_15 ++ [false]), vi st.At, vi (st.Edge + 1), vl sta5 stk5 st.Values, vl sta6 stk6 st.Queue, vi st.Steps]) (KS ?_)))))
     refine Oq (VldA sh59 0) (Ost (Scl [6] sh59 [vi st.Phase, .slice a65 ((st.Cone ++ [((s.Deps.getD ((st.Cone.getD st.At.toNat 0) : Int).toNat []).getD st.Edge.toNat 0)]).length) k66, vl a74 k75 (st2_15 ++ [false]), vi st.At, vi (st.Edge + 1), vl sta5 stk5 st.Values, vl sta6 stk6 st.Queue, vi st.Steps]) (KS ?_))
     refine Jl [3] (Ent.freeze _ _) ?_
     refine Jl [3] (Ent.freeze _ _) ?_
     refine Jl [12] (Ent.freeze _ _) ?_
     refine Jl [13] (Ent.freeze _ _) ?_
     have hq := q4 hM16 (GState.mk st.Phase (st.Cone ++ [((s.Deps.getD ((st.Cone.getD st.At.toNat 0) : Int).toNat []).getD st.Edge.toNat 0)]) (st2_15 ++ [false]) st.At (st.Edge + 1) st.Values st.Queue st.Steps) (by simp only [flqref14_demand_J0, h44, h46, h52, h57, h59, hg56, cs4]); subst hq
     exact Kr (.slice a65 ((st.Cone ++ [((s.Deps.getD ((st.Cone.getD st.At.toNat 0) : Int).toNat []).getD st.Edge.toNat 0)]).length) k66, vl a74 k75 (st2_15 ++ [false]), vl sta5 stk5 st.Values, vl sta6 stk6 st.Queue) rfl (.cellN 4 rfl sh59 rfl (reads_Cl _ _) rfl .nil) [3, 2, 1, 0] en
    intro h57
    have h79 := not_false h57
    refine KS ?_
    refine Oq (Vfa fo59_4 5) (Oq (VldF sh3 5) (Oq Vadd (Oq (Vfa fo59_4 5) (Ost (SclF [5] sh3 [vi st.Phase, vl sta1 stk1 st.Cone, vl sta2 stk2 st.Leaf, vi st.At, vi (st.Edge + 1), vl sta5 stk5 st.Values, vl sta6 stk6 st.Queue, vi st.Steps]) (KS ?_)))))
    refine Oq (VldA sh59 0) (Ost (Scl [5] sh59 [vi st.Phase, vl sta1 stk1 st.Cone, vl sta2 stk2 st.Leaf, vi st.At, vi (st.Edge + 1), vl sta5 stk5 st.Values, vl sta6 stk6 st.Queue, vi st.Steps]) (KS ?_))
    refine Jl [2] (Ent.freeze _ _) ?_
    refine Jl [11] (Ent.freeze _ _) ?_
    refine Jl [12] (Ent.freeze _ _) ?_
    refine Jl [13] (Ent.freeze _ _) ?_
    have hq := q4 hM16 (GState.mk st.Phase st.Cone st2_15 st.At (st.Edge + 1) st.Values st.Queue st.Steps) (by simp only [flqref14_demand_J0, h44, h46, h52, h57, h79, hg56, cs4]); subst hq
    exact Kr (vl sta1 stk1 st.Cone, vl sta2 stk2 st.Leaf, vl sta5 stk5 st.Values, vl sta6 stk6 st.Queue) rfl (.cellN 4 rfl sh59 rfl (reads_Cl _ _) rfl .nil) [3, 2, 1, 0] en
   intro h52
   have g81 := df h52
   refine KS ?_
   exact Kg st2_15 [3, 3, 3, 4, 5, 6, 7, 8, 8, 8, 8] ⟨(q3 hM16 (by simp only [flqref14_demand_J0, h44, h46, h52, cs4])), (by first | assumption | exact hd.b0 _ _ _ _ | exact hd.b1 _ _ _ _ (by omega))⟩
  intro h44
  have h83 := not_false h44
  refine Kq [0, 1, 0, 4, 15, 31, 63, 127, 255, 511, 255, 1279, 255, 7423, 15615, 31999, 65535, 131071] fmix ?_
  refine Qv [0] (Vfa fo59_2 0) (Qv [2] (VldF sh57 0) (Qv [0] (Vfa fo59_3 0) (Qv [2] (VldF sh3 0) (Qv [9] (Vi sl57 0) (Qv [9] (VldB sh4 0) (Qb h44 [] Vnot (Qv [] Vm (Qs (Qs ?_)))))))))
  refine Qs (Qs (Qs (Qs (Qs (Qs (Qs (Qv [] Vpf ?_)))))))
  refine Qn ⟨by kernel_rfl, ?_⟩
  refine Kf (KS ?_)
  exact Kg st2_15 [1, 1, 1, 2, 3, 4, 5, 6, 6, 6, 6] ⟨(q3 hM16 (by simp only [flqref14_demand_J0, h44, h83, cs4])), (by first | assumption | exact hd.b0 _ _ _ _ | exact hd.b1 _ _ _ _ (by omega))⟩
 rintro st2_40 ⟨hM41, hv42⟩
 refine JJ_nx fun _ _ hL hA => ?_; dsimp only at hL hA; subst hL hA
 refine Fb 24 3 fun _ => Fb 88 4 fun _ => Fb 32 5 fun _ => Fb 40 6 fun _ => Fb 8 7 fun _ => Fo 7 fun ho90 => Fb 1 8 fun _ => Fl 8 fun hn92 => ?_
 refine Fb 32 9 fun _ => Fb 8 10 fun _ => Fo 10 fun ho95 => ?_
 have hbk := hv42
 have hbl : st2_40.length = st.Cone.length := hbk.lf
 refine KS ?_
 refine Oq (Vfa fo59_3 1) (Oq (VldF sh3 1) (Oq Vadd (Oq (Vfa fo59_3 1) (Ost (SclF [1] sh3 [vi st.Phase, vl sta1 stk1 st.Cone, vl sta2 stk2 st.Leaf, vi (st.At + 1), vi st.Edge, vl sta5 stk5 st.Values, vl sta6 stk6 st.Queue, vi st.Steps]) (Oq (Vfa fo59_4 0) (Ost (SclF [0] sh3 [vi st.Phase, vl sta1 stk1 st.Cone, vl sta2 stk2 st.Leaf, vi (st.At + 1), vi 0, vl sta5 stk5 st.Values, vl sta6 stk6 st.Queue, vi st.Steps]) (KS ?_)))))))
 refine Oq (Vfa fo59_3 0) (Oq (VldF sh3 0) (Oq (Vfa fo59_1 0) (Oq (VldF sh22 0) (Oq (Vlen sl22) (Oq Vlss (KS ?_))))))
 refine Kc ?_ ?_
 ·intro h96
  have g97 := dt h96
  refine KS ?_
  refine Oq (VldA sh59 0) (Ost (Scl [1] sh59 [vi st.Phase, vl sta1 stk1 st.Cone, vl sta2 stk2 st.Leaf, vi (st.At + 1), vi 0, vl sta5 stk5 st.Values, vl sta6 stk6 st.Queue, vi st.Steps]) (KS ?_))
  refine Jl [7] (Ent.freeze _ _) ?_
  refine Jl [8] (Ent.freeze _ _) ?_
  refine Jl [9] (Ent.freeze _ _) ?_
  refine Jl [10] (Ent.freeze _ _) ?_
  have hq := q4 hM41 (GState.mk st.Phase st.Cone st2_40 (st.At + 1) 0 st.Values st.Queue st.Steps) (by simp only [flqref14_demand_J1, h96, cs4]); subst hq
  exact Kr (vl sta1 stk1 st.Cone, vl sta2 stk2 st.Leaf, vl sta5 stk5 st.Values, vl sta6 stk6 st.Queue) rfl (.cellN 4 rfl sh59 rfl (reads_Cl _ _) rfl .nil) [3, 2, 1, 0] en
 intro h96
 have g98 := df h96
 refine KS ?_
 refine Oq (Vfa fo59_0 0) (Ost (SclF [0] sh3 [vi 2, vl sta1 stk1 st.Cone, vl sta2 stk2 st.Leaf, vi (st.At + 1), vi 0, vl sta5 stk5 st.Values, vl sta6 stk6 st.Queue, vi st.Steps]) (Oq (Vfa fo59_3 0) (Ost (SclF [0] sh3 [vi 2, vl sta1 stk1 st.Cone, vl sta2 stk2 st.Leaf, vi 0, vi 0, vl sta5 stk5 st.Values, vl sta6 stk6 st.Queue, vi st.Steps]) (KS ?_))))
 refine Oq Va (KS ?_)
 refine Kl (γ := Nat × List GSet × List Int × Int × Option Addr × Nat × Option Addr × Nat) (fun (r99, st5_100, st6_101, i_102, a103, k104, a105, k106) => ⟨[(1, vl ka0 kk0 k), (3, p11), (5, p12), (6, p13), (9, vi i_102)], [O a105 k106 st6_101, O a103 k104 st5_100, Cl p12 [vi 2, vl sta1 stk1 st.Cone, vl sta2 stk2 st.Leaf, vi 0, vi 0, vl a103 k104 st5_100, vl a105 k106 st6_101, vi st.Steps], Cl p13 [vi 0, .slice none 0 0, .slice none 0 0, vi 0, vi 0, .slice none 0 0, .slice none 0 0, vi 0], pv p11 [vi s.Width, vl sa1 sk1 s.Deps, vl sa2 sk2 s.Transfers, vl sa3 sk3 s.Boundary], S sa1 sk1 s.Deps, S sa2 sk2 s.Transfers, S sa3 sk3 s.Boundary, S ka0 kk0 k, O sta1 stk1 st.Cone, os (vl sta2 stk2 st.Leaf) st2_40], flqref14_demand_L0 s k st st2_40 r99 st5_100 st6_101 i_102 = flqref14_demand_L0 s k st st2_40 (((st.Cone.length : Int) - 0).toNat) st.Values st.Queue 0 ∧ r99 = ((st.Cone.length : Int) - i_102).toNat ∧ (0 : Int) ≤ i_102 ∧ i_102 ≤ (st.Cone.length : Int) ∧ (-9223372036854775808 ≤ i_102 ∧ i_102 ≤ 9223372036854775807) ∧ (st5_100.length : Int) = i_102 ∧ (st6_101.length : Int) = i_102, r99⟩) (((st.Cone.length : Int) - 0).toNat, st.Values, st.Queue, 0, sta5, stk5, sta6, stk6) [10, 9, 0, 0, 0, 1, 2, 3, 4, 5, 5] ⟨rfl, rfl, (by omega), (by omega), (by omega), iv0, iv0⟩ ?_
 rintro ⟨r99, st5_100, st6_101, i_102, a103, k104, a105, k106⟩ ⟨hM107, hr108, hi109, hi110, hk111, hv112, hv113⟩
 refine JJ_nx fun _ _ hL hA => ?_; dsimp only at hL hA; subst hL hA
 refine Fb 8 0 fun _ => Fo 0 fun ho115 => Fb 32 1 fun _ => Fb 24 5 fun _ => Fb 88 6 fun _ => Fb 32 7 fun _ => Fb 40 8 fun _ => Fb 8 9 fun _ => ?_
 refine Fo 9 fun ho122 => Fb 1 10 fun _ => ?_
 refine Fl 10 fun hn124 => ?_
 refine KS ?_
 refine Oq Vm (Oq (Vfa fo59_1 2) (Oq (VldF sh22 2) (Oq (Vlen sl22) (Oq Vlss (KS ?_)))))
 refine Kc ?_ ?_
 ·intro h125
  have g126 := dt h125
  have hq := hcr _ (getD_mem (xs := st.Cone) (i := i_102.toNat) (d := 0) (by omega))
  obtain ⟨r127, rfl⟩ := scc (n := r99) (by omega)
  refine KS ?_
  refine Jp 2 fun hp128 => ?_
  refine JJ_peek_GSet ((st.Cone.getD i_102.toNat 0) : Int).toNat 8 rfl rng fun a129 k130 hb131 => ?_
  unfold i64ok at hb131
  refine Fb 8 1 fun _ => ?_
  refine JK_drawK [0, 1, 0, 4, 0, 28, 60, 127, 255, 0, 1023] fmix ?_
  refine Dv [7] (Vfa fo27_3 0) (Dv [7] (VldF sh25 0) (Dv [2] (Vfa fo59_1 0) (Dv [5] (VldF sh22 0) (Dv [] Vm (Dv [12] (Vi sl22 0) ?_)))))
  have hb133 := ok1 (i := i_102.toNat) ho122 rng
  refine Dv [12] (VldI sh3 0) (Dv [10] (Vi sl25 0) (Dv [0] (VldA sh42 0) (Dx [] [] [0] (fun G => (G.g 9 0)) [fun G => Cl (G.g 9 0) [vi 0, .slice none 0 0]] (fun G => xA (Al ze42 [vi 0, .slice none 0 0])) (Dx0 [14] [14] [0] [fun G => Cl (G.g 9 0) [vi ((s.Boundary.getD ((st.Cone.getD i_102.toNat 0) : Int).toNat default).Width), .slice a129 (((s.Boundary.getD ((st.Cone.getD i_102.toNat 0) : Int).toNat default).Words).length) k130]] (fun G => xS (Scl [0] sh42 [vi ((s.Boundary.getD ((st.Cone.getD i_102.toNat 0) : Int).toNat default).Width), .slice a129 (((s.Boundary.getD ((st.Cone.getD i_102.toNat 0) : Int).toNat default).Words).length) k130])) ?_))))
  refine Dn ⟨by kernel_rfl, fun G => ?_⟩
  refine Jw2 [(1, vl ka0 kk0 k), (3, p11), (5, p12), (6, p13), (9, vi i_102), (10, (G.g 9 0))] [0, 1, 2, 3, 4, 5, 6, 7, 8, 9, 10, 11, 12, 13] [Cl (G.g 9 0) [vi ((s.Boundary.getD ((st.Cone.getD i_102.toNat 0) : Int).toNat default).Width), .slice a129 (((s.Boundary.getD ((st.Cone.getD i_102.toNat 0) : Int).toNat default).Words).length) k130]] ?_
  generalize G.g 9 0 = p134
  refine Jk [0, 1, 3, 3, 3, 3, 3, 4, 5, 6, 7, 8, 8, 8] ?_
  refine KS ?_
  refine Oq (Vfa fo59_2 4) (Oq (VldF sh57 4) (Oq Vm (Oq (Vi sl57 12) (Oq (VldB sh4 12) (KS ?_)))))
  refine Kc ?_ ?_
  ·intro h135
   have hlf := hbk.leaf i_102.toNat (by show _ < st.Cone.length; omega) h135
   have hfe := rfind_eq k (st.Cone.getD i_102.toNat 0)
   dsimp only at hlf
   refine KS ?_
   refine Oq Vm (Oq Vm (Oq (Vfa fo59_1 4) (Oq (VldF sh22 4) (Oq Vm (Oq (Vi sl22 11) ?_)))))
   have hb137 := ok1 (i := i_102.toNat) ho122 rng
   refine Oq (VldI sh3 11) ?_
   refine letv (flqref14_find k (st.Cone.getD i_102.toNat 0)) fun rv138 hg139 => ?_
   have hc140 := fn132 k ka0 kk0 ((st.Cone.getD i_102.toNat 0)) pre rv138 hg139
   refine Oc [10] ca132 hc140 ?_
   rintro - ⟨he141, he142⟩
   unfold i64ok at he141
   refine Oq (Vi sl53 10) ?_
   refine JJ_peek_GKnown rv138.toNat 10 rfl rng fun a143 k144 hb145 hb146 => ?_
   unfold i64ok at hb145 hb146
   refine Fb 8 1 fun _ => ?_
   refine Oq (Vfa fo67_1 0) (Oq (VldG sh42 0 [vi (((k.getD rv138.toNat default).Value).Width), vl a143 k144 (((k.getD rv138.toNat default).Value).Words)]) (Ost (Scl [15] sh42 [vi (((k.getD rv138.toNat default).Value).Width), vl a143 k144 (((k.getD rv138.toNat default).Value).Words)]) (KS ?_)))
   refine Oq (Vfa fo59_5 7) (Oq (VldF sh25 7) (Oq (VldA sh42 0) (Oa (AsV sl25 sz25 [.agg #[vi (((k.getD rv138.toNat default).Value).Width), vl a143 k144 (((k.getD rv138.toNat default).Value).Words)]] [vi (((k.getD rv138.toNat default).Value).Width), vl a143 k144 (((k.getD rv138.toNat default).Value).Words)]) fun c148 => ?_)))
   refine Jo 0 ?_; rintro a149 k150 rfl
   refine Jl [0, 2] (Ent.cr1 (α := GSet) (A := [S a143 k144 (((k.getD rv138.toNat default).Value).Words)]) _ ((k.getD rv138.toNat default).Value) _ (Nat.le_of_ble_eq_true rfl) (fun h => ⟨_, rfl, (by unfold i64ok; first | omega | (dsimp only; omega)), sepAll_get (i := 0) rfl h⟩)) ?_
   refine Oa (ApO [8, 0] sl25 sl25 sz25) fun c151 => ?_
   refine Jo 0 ?_; rintro a152 k153 rfl
   refine Fb 32 0 fun _ => ?_
   have hn155 := la st5_100 ([((k.getD rv138.toNat default).Value)] : List GSet)
   refine Oq (Vfa fo59_5 8) (Ost (SclF [8] sh25 [vi 2, vl sta1 stk1 st.Cone, vl sta2 stk2 st.Leaf, vi 0, vi 0, vl a152 k153 (st5_100 ++ [((k.getD rv138.toNat default).Value)]), vl a105 k106 st6_101, vi st.Steps]) (KS ?_))
   refine Oq (Vfa fo59_6 0) (Oq (VldF sh22 0) (Oq (Vfa fo59_1 0) (Oq (VldF sh22 0) (Oq (Vlen sl22) (Oq Vsub (Oq Vm (Oq Vsub (Oa (AsV sl22 sz22 [vi (((st.Cone.length : Int) - 1) - i_102)] [vi (((st.Cone.length : Int) - 1) - i_102)]) fun c156 => ?_))))))))
   refine Jo 0 ?_; rintro a157 k158 rfl
   refine Jl [0] (Ent.crInt _ [(((st.Cone.length : Int) - 1) - i_102)] _ _ rfl rfl (by intro x hx; rw [List.mem_singleton] at hx; subst hx; unfold i64ok; omega) (Nat.le_of_ble_eq_true rfl)) ?_
   refine Oa (ApO [9, 0] sl22 sl22 sz22) fun c159 => ?_
   refine Jo 0 ?_; rintro a160 k161 rfl
   refine Fb 8 0 fun _ => Fo 0 fun ho163 => ?_
   have hn164 := la st6_101 ([(((st.Cone.length : Int) - 1) - i_102)] : List Int)
   refine Oq (Vfa fo59_6 1) (Ost (SclF [1] sh22 [vi 2, vl sta1 stk1 st.Cone, vl sta2 stk2 st.Leaf, vi 0, vi 0, vl a152 k153 (st5_100 ++ [((k.getD rv138.toNat default).Value)]), .slice a160 ((st6_101 ++ [(((st.Cone.length : Int) - 1) - i_102)]).length) k161, vi st.Steps]) (KS ?_))
   refine Oq Vm (Oq Vadd (Oq Va (KS ?_)))
   exact Kg (r127, (st5_100 ++ [((k.getD rv138.toNat default).Value)]), (st6_101 ++ [(((st.Cone.length : Int) - 1) - i_102)]), (i_102 + 1), a152, k153, a160, k161) [1, 1, 0, 6, 6, 7, 8, 9, 10, 11, 11] ⟨(q3 hM107 (by simp only [flqref14_demand_L0, h96, h125, h135, hg139, cs4])), (by omega), (by omega), (by omega), (by omega), iv1, iv1⟩
  intro h135
  refine KS ?_
  refine Oq (Vfa fo59_5 4) (Oq (VldF sh25 4) (Oq (VldA sh42 13) (Oa (AsV sl25 sz25 [.agg #[vi ((s.Boundary.getD ((st.Cone.getD i_102.toNat 0) : Int).toNat default).Width), .slice a129 (((s.Boundary.getD ((st.Cone.getD i_102.toNat 0) : Int).toNat default).Words).length) k130]] [vi ((s.Boundary.getD ((st.Cone.getD i_102.toNat 0) : Int).toNat default).Width), .slice a129 (((s.Boundary.getD ((st.Cone.getD i_102.toNat 0) : Int).toNat default).Words).length) k130]) fun c166 => ?_)))
  refine Jo 0 ?_; rintro a167 k168 rfl
  refine Jl [0, 1] (Ent.cr1 (α := GSet) (A := [S a129 k130 ((s.Boundary.getD ((st.Cone.getD i_102.toNat 0) : Int).toNat default).Words)]) _ (s.Boundary.getD ((st.Cone.getD i_102.toNat 0) : Int).toNat default) _ (Nat.le_of_ble_eq_true rfl) (fun h => ⟨_, rfl, (by unfold i64ok; first | omega | (dsimp only; omega)), sepAll_get (i := 0) rfl h⟩)) ?_
  refine Oa (ApO [5, 0] sl25 sl25 sz25) fun c169 => ?_
  refine Jo 0 ?_; rintro a170 k171 rfl
  refine Fb 32 0 fun _ => ?_
  have hn173 := la st5_100 ([(s.Boundary.getD ((st.Cone.getD i_102.toNat 0) : Int).toNat default)] : List GSet)
  refine Oq (Vfa fo59_5 5) (Ost (SclF [5] sh25 [vi 2, vl sta1 stk1 st.Cone, vl sta2 stk2 st.Leaf, vi 0, vi 0, .slice a170 ((st5_100 ++ [(s.Boundary.getD ((st.Cone.getD i_102.toNat 0) : Int).toNat default)]).length) k171, vl a105 k106 st6_101, vi st.Steps]) (KS ?_))
  refine Oq (Vfa fo59_6 0) (Oq (VldF sh22 0) (Oq (Vfa fo59_1 0) (Oq (VldF sh22 0) (Oq (Vlen sl22) (Oq Vsub (Oq Vm (Oq Vsub (Oa (AsV sl22 sz22 [vi (((st.Cone.length : Int) - 1) - i_102)] [vi (((st.Cone.length : Int) - 1) - i_102)]) fun c174 => ?_))))))))
  refine Jo 0 ?_; rintro a175 k176 rfl
  refine Jl [0] (Ent.crInt _ [(((st.Cone.length : Int) - 1) - i_102)] _ _ rfl rfl (by intro x hx; rw [List.mem_singleton] at hx; subst hx; unfold i64ok; omega) (Nat.le_of_ble_eq_true rfl)) ?_
  refine Oa (ApO [6, 0] sl22 sl22 sz22) fun c177 => ?_
  refine Jo 0 ?_; rintro a178 k179 rfl
  refine Fb 8 0 fun _ => Fo 0 fun ho181 => ?_
  have hn182 := la st6_101 ([(((st.Cone.length : Int) - 1) - i_102)] : List Int)
  refine Oq (Vfa fo59_6 1) (Ost (SclF [1] sh22 [vi 2, vl sta1 stk1 st.Cone, vl sta2 stk2 st.Leaf, vi 0, vi 0, .slice a170 ((st5_100 ++ [(s.Boundary.getD ((st.Cone.getD i_102.toNat 0) : Int).toNat default)]).length) k171, .slice a178 ((st6_101 ++ [(((st.Cone.length : Int) - 1) - i_102)]).length) k179, vi st.Steps]) (KS ?_))
  refine Oq Vm (Oq Vadd (Oq Va (KS ?_)))
  exact Kg (r127, (st5_100 ++ [(s.Boundary.getD ((st.Cone.getD i_102.toNat 0) : Int).toNat default)]), (st6_101 ++ [(((st.Cone.length : Int) - 1) - i_102)]), (i_102 + 1), a170, k171, a178, k179) [1, 1, 0, 3, 3, 4, 5, 6, 7, 8, 8] ⟨(q3 hM107 (by simp only [flqref14_demand_L0, h96, h125, h135, cs4])), (by omega), (by omega), (by omega), (by omega), iv1, iv1⟩
 intro h125
 have g183 := df h125
 obtain rfl : r99 = 0 := by omega
 refine Ke ?_
 have hR184 := q2 hM107 (st5_100, st6_101) (by simp only [flqref14_demand_L0, h96, h125, cs4])
 refine KS ?_
 refine Oq (VldA sh59 2) (Ost (Scl [3] sh59 [vi 2, vl sta1 stk1 st.Cone, vl sta2 stk2 st.Leaf, vi 0, vi 0, vl a103 k104 st5_100, vl a105 k106 st6_101, vi st.Steps]) (KS ?_))
 refine Jl [9] (Ent.freeze _ _) ?_
 refine Jl [10] (Ent.freeze _ _) ?_
 refine Jl [4] (Ent.freeze _ _) ?_
 refine Jl [4] (Ent.freeze _ _) ?_
 have hq := q4 hM41 (GState.mk 2 st.Cone st2_40 0 0 st5_100 st6_101 st.Steps) (by simp only [flqref14_demand_J1, h96, h125, hR184, cs4]); subst hq
 exact Kr (vl sta1 stk1 st.Cone, vl sta2 stk2 st.Leaf, vl a103 k104 st5_100, vl a105 k106 st6_101) rfl (.cellN 4 rfl sh59 rfl (reads_Cl _ _) rfl .nil) [3, 2, 1, 0] en
theorem fn62 (s : GSystem) (sa1 : Option Addr) (sk1 : Nat) (sa2 : Option Addr) (sk2 : Nat) (sa3 : Option Addr) (sk3 : Nat) (k : List GKnown) (ka0 : Option Addr) (kk0 : Nat) (st : GState) (sta1 : Option Addr) (stk1 : Nat) (sta2 : Option Addr) (stk2 : Nat) (sta5 : Option Addr) (stk5 : Nat) (sta6 : Option Addr) (stk6 : Nat) (hs_0 : i64ok s.Width) (hst_0 : i64ok st.Phase) (hst_3 : i64ok st.At) (hst_4 : i64ok st.Edge) (hst_7 : i64ok st.Steps) (rr : GState × Int × Int) (hrr : flqref14_Step s k st = rr) : FT Tryz.prog 62 #[.agg #[vi s.Width, vl sa1 sk1 s.Deps, vl sa2 sk2 s.Transfers, vl sa3 sk3 s.Boundary], vl ka0 kk0 k, .agg #[vi st.Phase, vl sta1 stk1 st.Cone, vl sta2 stk2 st.Leaf, vi st.At, vi st.Edge, vl sta5 stk5 st.Values, vl sta6 stk6 st.Queue, vi st.Steps]] [S sa1 sk1 s.Deps, S sa2 sk2 s.Transfers, S sa3 sk3 s.Boundary, S ka0 kk0 k, S sta1 stk1 st.Cone, S sta2 stk2 st.Leaf, S sta5 stk5 st.Values, S sta6 stk6 st.Queue] (fun g : Value × Value × Value × Value => i64ok rr.1.Phase ∧ i64ok rr.1.At ∧ i64ok rr.1.Edge ∧ i64ok rr.1.Steps ∧ i64ok rr.2.1 ∧ i64ok rr.2.2 ∧ (0 ≤ rr.2.1 ∧ rr.2.1 ≤ 8)) (fun g => .tuple #[.agg #[vi rr.1.Phase, g.1, g.2.1, vi rr.1.At, vi rr.1.Edge, g.2.2.1, g.2.2.2, vi rr.1.Steps], vi rr.2.1, vi rr.2.2]) (fun g => [sl g.1 rr.1.Cone, sl g.2.1 rr.1.Leaf, sl g.2.2.1 rr.1.Values, sl g.2.2.2 rr.1.Queue]) := by
 refine FTi Tryz.func62 fun w0 M0 F0 => ?_
 unfold i64ok at hs_0 hst_0 hst_3 hst_4 hst_7
 refine Fb 24 0 fun _ => Fb 88 1 fun _ => Fb 32 2 fun _ => Fb 40 3 fun _ => Fb 8 4 fun _ => Fo 4 fun ho6 => Fb 1 5 fun _ => Fb 32 6 fun _ => ?_
 refine Fb 8 7 fun _ => Fo 7 fun ho10 => KS ?_
 refine Oa (Ab [vi s.Width, vl sa1 sk1 s.Deps, vl sa2 sk2 s.Transfers, vl sa3 sk3 s.Boundary]) fun p11 => Oa (AbO [vi st.Phase, vl sta1 stk1 st.Cone, vl sta2 stk2 st.Leaf, vi st.At, vi st.Edge, vl sta5 stk5 st.Values, vl sta6 stk6 st.Queue, vi st.Steps]) fun p12 => Oa (Al ze59 [vi 0, .slice none 0 0, .slice none 0 0, vi 0, vi 0, .slice none 0 0, .slice none 0 0, vi 0]) fun p13 => Oq Va (Oq Va (KS ?_))
 refine Oq (VldA sh27 2) (Oq Vm (Oq (VldA sh59 1) ?_))
 refine letv (flqref14_Valid s k st) fun rv14 hg15 => ?_
 have hc16 := fn92 s sa1 sk1 sa2 sk2 sa3 sk3 k ka0 kk0 st sta1 stk1 sta2 stk2 sta5 stk5 sta6 stk6 pre pre pre pre pre rv14 hg15
 refine Oc [3, 4, 5, 6, 7, 8, 9, 10] ca92 hc16 ?_
 rintro - -
 refine Oq Vnot (KS ?_)
 refine Kc ?_ ?_
 ·intro h17
  have h19 := not_true h17
  refine KS ?_
  refine Oq (Vbd st59 [vi 0, .slice none 0 0, .slice none 0 0, vi 0, vi 0, .slice none 0 0, .slice none 0 0, vi 0]) (Ost (Scl [0] sh59 [vi 0, .slice none 0 0, .slice none 0 0, vi 0, vi 0, .slice none 0 0, .slice none 0 0, vi 0]) (Oq Va (Oq Va (KS ?_))))
  refine Jl [] (Ent.slNil (α := Int)) ?_
  refine Jl [] (Ent.slNil (α := Bool)) ?_
  refine Jl [] (Ent.slNil (α := GSet)) ?_
  have hq := q4 hrr ((GState.mk 0 [] [] 0 0 [] [] 0), 0, 1) (by simp only [flqref14_Step, h17, h19, hg15, cs4]); subst hq
  exact Kr (.slice none 0 0, .slice none 0 0, .slice none 0 0, .slice none 0 0) rfl (.cellN 3 rfl sh59 rfl (reads_Cl _ _) rfl (.tmp rfl (.tmp rfl .nil))) [2, 1, 0, 2] en
 intro h17
 have h22 := not_false h17
 refine KS ?_
 refine Oq (Vfa fo59_0 1) (Oq (VldF sh3 1) (Oq Veql (KS ?_)))
 refine Kc ?_ ?_
 ·intro h24
  have g25 := eq_of_beq h24
  refine KS ?_
  refine Oq (Vbd st59 [vi 0, .slice none 0 0, .slice none 0 0, vi 0, vi 0, .slice none 0 0, .slice none 0 0, vi 0]) (Ost (Scl [0] sh59 [vi 0, .slice none 0 0, .slice none 0 0, vi 0, vi 0, .slice none 0 0, .slice none 0 0, vi 0]) (Oq Va (Oq Va (KS ?_))))
  refine Jl [] (Ent.slNil (α := Int)) ?_
  refine Jl [] (Ent.slNil (α := Bool)) ?_
  refine Jl [] (Ent.slNil (α := GSet)) ?_
  have hq := q4 hrr ((GState.mk 0 [] [] 0 0 [] [] 0), 0, 10) (by simp only [flqref14_Step, h17, h22, h24, hg15, cs4]); subst hq
  exact Kr (.slice none 0 0, .slice none 0 0, .slice none 0 0, .slice none 0 0) rfl (.cellN 3 rfl sh59 rfl (reads_Cl _ _) rfl (.tmp rfl (.tmp rfl .nil))) [2, 1, 0, 2] en
 intro h24
 have g26 := ne_of_beq_false h24
 refine KS ?_
 refine Oq (VldA sh59 1) ?_
 refine letv (flqref14_CopyState st) fun rv31 hg32 => ?_
 have hc33 := fn142 st sta1 stk1 sta2 stk2 sta5 stk5 sta6 stk6 pre pre pre pre rv31 hg32
 refine Oc [7, 8, 9, 10] ca142 hc33 ?_
 rintro ⟨c27, c28, c29, c30⟩ ⟨he34, he35, he36, he37⟩
 unfold i64ok at he34 he35 he36 he37
 refine Jo 0 ?_; rintro a38 k39 rfl
 refine Fb 8 0 fun _ => Fo 0 fun ho41 => ?_
 refine Jo 1 ?_; rintro a42 k43 rfl
 refine Fb 1 1 fun _ => ?_
 refine Jo 2 ?_; rintro a45 k46 rfl
 refine Fb 32 2 fun _ => ?_
 refine Jo 3 ?_; rintro a48 k49 rfl
 refine Fb 8 3 fun _ => Fo 3 fun ho51 => ?_
 have hcs : rv31 = st := (by assumption : flqref14_CopyState st = rv31).symm.trans (CopyState_eq st)
 have hvf := RefV_facts (s := s) (k := k) (st := rv31) (by rw [hcs]; simp only [h17, h22, h24, hg15, hg32])
 obtain ⟨hvf1, hvf2, hvf3, hvf4⟩ := hvf
 have hv1 := hvf1.n
 have hv2 := hvf1.tl
 have hv3 := hvf1.bl
 have hv4 := hvf1.w
 have hv5 := hvf1.dep_len
 have hphe := congrArg GState.Phase hcs
 refine Ost (Scl [5] sh59 [vi rv31.Phase, vl a38 k39 rv31.Cone, vl a42 k43 rv31.Leaf, vi rv31.At, vi rv31.Edge, vl a45 k46 rv31.Values, vl a48 k49 rv31.Queue, vi rv31.Steps]) (KS ?_)
 refine Oq (Vfa fo59_7 0) (Oq (VldF sh3 0) ?_)
 refine letv (flqref1_Add rv31.Steps 1) fun rv52 hg53 => ?_
 have hc54 := fn143 rv31.Steps 1 pre pre rv52 hg53
 refine Oc [] ca143 hc54 ?_
 rintro - he55
 unfold i64ok at he55
 refine Oq (Vfa fo59_7 0) (Ost (SclF [0] sh3 [vi rv31.Phase, vl a38 k39 rv31.Cone, vl a42 k43 rv31.Leaf, vi rv31.At, vi rv31.Edge, vl a45 k46 rv31.Values, vl a48 k49 rv31.Queue, vi rv52]) (KS ?_))
 refine Oq (Vfa fo59_0 0) (Oq (VldF sh3 0) (Oq Veql (KS ?_)))
 refine Kc ?_ ?_
 ·intro h56
  have g57 := eq_of_beq h56
  refine KS ?_
  refine Oq (VldA sh27 6) (Oq Vm (Oq (VldA sh59 0) ?_))
  refine letv (flqref14_demand s k (GState.mk rv31.Phase rv31.Cone rv31.Leaf rv31.At rv31.Edge rv31.Values rv31.Queue rv52)) fun rv62 hg63 => ?_
  have hc64 := fn144 s sa1 sk1 sa2 sk2 sa3 sk3 k ka0 kk0 ((GState.mk rv31.Phase rv31.Cone rv31.Leaf rv31.At rv31.Edge rv31.Values rv31.Queue rv52)) a38 k39 a42 k43 a45 k46 a48 k49 pre pre pre pre pre hvf1 ((hvf2 (by omega)).steps _ _) rv62 hg63
  refine Oc [7, 8, 9, 10, 1, 1, 1, 1] ca144 hc64 ?_
  rintro ⟨c58, c59, c60, c61⟩ ⟨he65, he66, he67, he68⟩
  unfold i64ok at he65 he66 he67 he68
  refine Jo 0 ?_; rintro a69 k70 rfl
  refine Fb 8 0 fun _ => Fo 0 fun ho72 => ?_
  refine Jo 1 ?_; rintro a73 k74 rfl
  refine Fb 1 1 fun _ => ?_
  refine Jo 2 ?_; rintro a76 k77 rfl
  refine Fb 32 2 fun _ => ?_
  refine Jo 3 ?_; rintro a79 k80 rfl
  refine Fb 8 3 fun _ => Fo 3 fun ho82 => ?_
  refine Ost (Scl [5] sh59 [vi rv62.Phase, vl a69 k70 rv62.Cone, vl a73 k74 rv62.Leaf, vi rv62.At, vi rv62.Edge, vl a76 k77 rv62.Values, vl a79 k80 rv62.Queue, vi rv62.Steps]) (Oq Va (Oq Va (KS ?_)))
  have hq := q4 hrr (rv62, 1, 0) (by simp only [flqref14_Step, h17, h22, h24, h56, hg15, hg32, hg53, hg63, cs4]); subst hq
  exact Kr (vl a69 k70 rv62.Cone, vl a73 k74 rv62.Leaf, vl a76 k77 rv62.Values, vl a79 k80 rv62.Queue) rfl (.cellN 0 rfl sh59 rfl (reads_Cl _ _) rfl (.tmp rfl (.tmp rfl .nil))) [1, 2, 3, 4] en
 intro h56
 have g83 := ne_of_beq_false h56
 have hp := hvf3 (by omega)
 have hp1 := hp.lf
 have hp2 := hp.cl
 have hp3 := hp.vl
 have hp4 := hp.qn
 have hp5 := hp.ql
 have hpi := hp.qr _ (getD_mem (xs := rv31.Queue) (i := (0 : Int).toNat) (d := 0) (by show 0 < _; omega))
 have hpc := hp.cr _ (getD_mem (xs := rv31.Cone) (i := ((rv31.Queue.getD (0 : Int).toNat 0) : Int).toNat) (d := 0) (by omega))
 refine KS ?_
 refine Oq (Vfa fo59_6 0) (Oq (VldF sh22 0) (Oq (Vi sl22 4) ?_))
 have hb84 := ok1 (i := (0 : Int).toNat) ho51 rng
 refine Oq (VldI sh3 4) (Oq Va (KS ?_))
 refine Oq (Vfa fo59_6 0) (Oq (VldF sh22 0) (Oa (AslO [4] sl22 ((1 : Int).toNat) rv31.Queue.length) fun c85 => ?_))
 refine Jo 0 ?_; rintro a86 k87 rfl
 refine Fb 8 0 fun _ => Fo 0 fun ho89 => ?_
 have hn90 : ((rv31.Queue.take rv31.Queue.length).drop ((1 : Int).toNat)).length = rv31.Queue.length - ((1 : Int).toNat) := len_slice rng rng
 refine Oq (Vfa fo59_6 1) (Ost (SclF [1] sh22 [vi rv31.Phase, vl a38 k39 rv31.Cone, vl a42 k43 rv31.Leaf, vi rv31.At, vi rv31.Edge, vl a45 k46 rv31.Values, vl a86 k87 ((rv31.Queue.take rv31.Queue.length).drop ((1 : Int).toNat)), vi rv52]) (KS ?_))
 refine Oq (VldA sh27 6) (Oq (Vfa fo59_1 0) (Oq (VldF sh22 0) (Oq (Vfa fo59_2 0) (Oq (VldF sh57 0) (Oq Vm ?_)))))
 refine letv (flqref14_Dependents s rv31.Cone rv31.Leaf (rv31.Queue.getD (0 : Int).toNat 0)) fun rv92 hg93 => ?_
 refine Oc [3, 2, 5, 6, 7] ca58 (FT_borrow (A := _) hlx (FT_ent (Ent.take (is := [1, 1, 2, 3, 0]) rfl) (FT_borrow (A := _) hlx (FT_ent (Ent.take (is := [1, 2, 3, 0, 4]) rfl) (fn58 s sa1 sk1 sa2 sk2 sa3 sk3 rv31.Cone a38 k39 rv31.Leaf a42 k43 ((rv31.Queue.getD (0 : Int).toNat 0)) pre pre rv92 hg93))))) ?_ (ht := rfl)
 rintro c91 he94
 refine Jo 2 ?_; rintro a95 k96 rfl
 refine Fb 8 2 fun _ => Fo 2 fun ho98 => ?_
 refine Oq Va (KS ?_)
 refine Oq Va (KS ?_)
 refine Kl (γ := Nat × List GSet × List Int × Int × Option Addr × Nat) (fun (r99, st5_100, st6_101, n_102, a103, k104) => ⟨[(3, p11), (5, p12), (6, p13), (9, vi (rv31.Queue.getD (0 : Int).toNat 0)), (10, vl a95 k96 rv92), (11, vi n_102)], [O a103 k104 st6_101, O a42 k43 rv31.Leaf, O a38 k39 rv31.Cone, O a95 k96 rv92, Cl p12 [vi rv31.Phase, vl a38 k39 rv31.Cone, vl a42 k43 rv31.Leaf, vi rv31.At, vi rv31.Edge, vl a45 k46 rv31.Values, vl a103 k104 st6_101, vi rv52], os (vl a45 k46 rv31.Values) st5_100, Cl p13 [vi 0, .slice none 0 0, .slice none 0 0, vi 0, vi 0, .slice none 0 0, .slice none 0 0, vi 0], pv p11 [vi s.Width, vl sa1 sk1 s.Deps, vl sa2 sk2 s.Transfers, vl sa3 sk3 s.Boundary], S sa1 sk1 s.Deps, S sa2 sk2 s.Transfers, S sa3 sk3 s.Boundary], flqref14_Step_L0 s rv31.Cone (rv31.Queue.getD (0 : Int).toNat 0) rv92 r99 st5_100 st6_101 n_102 = flqref14_Step_L0 s rv31.Cone (rv31.Queue.getD (0 : Int).toNat 0) rv92 (((rv92.length : Int) - 0).toNat) rv31.Values ((rv31.Queue.take rv31.Queue.length).drop ((1 : Int).toNat)) 0 ∧ r99 = ((rv92.length : Int) - n_102).toNat ∧ (0 : Int) ≤ n_102 ∧ n_102 ≤ (rv92.length : Int) ∧ (-9223372036854775808 ≤ n_102 ∧ n_102 ≤ 9223372036854775807) ∧ (st5_100.length : Int) = (rv31.Cone.length : Int) ∧ (st6_101.length : Int) ≤ 256 + n_102, r99⟩) (((rv92.length : Int) - 0).toNat, rv31.Values, ((rv31.Queue.take rv31.Queue.length).drop ((1 : Int).toNat)), 0, a86, k87) [4, 0, 0, 0, 0, 0, 0, 0, 1, 2, 3] ⟨rfl, rfl, (by omega), (by omega), (by omega), iv0, iv0⟩ ?_
 rintro ⟨r99, st5_100, st6_101, n_102, a103, k104⟩ ⟨hM105, hr106, hi107, hi108, hk109, hv110, hv111⟩
 refine JJ_nx fun _ _ hL hA => ?_; dsimp only at hL hA; subst hL hA
 refine Fb 8 0 fun _ => Fo 0 fun ho113 => Fb 1 1 fun _ => Fb 8 2 fun _ => Fo 2 fun ho116 => Fb 8 3 fun _ => Fo 3 fun ho118 => Fb 32 5 fun _ => Fl 5 fun hn120 => ?_
 refine Fb 24 8 fun _ => Fb 88 9 fun _ => Fb 32 10 fun _ => KS ?_
 refine Oq Vm (Oq Vm (Oq (Vlen sl22) (Oq Vlss (KS ?_))))
 refine Kc ?_ ?_
 ·intro h124
  have g125 := dt h124
  have hqd := RDep_mem (r := rv92) (by assumption) _ (getD_mem (xs := rv92) (i := n_102.toNat) (d := 0) (by omega))
  obtain ⟨r126, rfl⟩ := scc (n := r99) (by omega)
  refine KS ?_
  refine Jp 4 fun hp127 => ?_
  refine JJ_peek_GTransfer ((rv31.Cone.getD ((rv31.Queue.getD (0 : Int).toNat 0) : Int).toNat 0) : Int).toNat 10 rfl rng fun a128 k129 a130 k131 a132 k133 hb134 hb135 => ?_
  unfold i64ok at hb134 hb135
  refine Fb 8 1 fun _ => Fb 8 2 fun _ => Fb 16 3 fun _ => ?_
  refine JJ_peekO_GSet ((rv31.Queue.getD (0 : Int).toNat 0) : Int).toNat 10 rfl rng fun a139 k140 hb141 => ?_
  unfold i64ok at hb141
  refine Fb 8 1 fun _ => ?_
  refine JK_drawK [0, 1, 0, 4, 0, 28, 60, 127, 255, 0, 512, 0, 3584, 7680, 16383, 32767, 65535, 65535, 0, 393215, 1048575] fmix ?_
  refine Dv [13] (Vfa fo27_2 0) (Dv [13] (VldF sh24 0) (Dv [6] (Vfa fo59_1 0) (Dv [11] (VldF sh22 0) (Dv [] Vm (Dv [9] (Vi sl22 0) ?_)))))
  have hb143 := ok1 (i := ((rv31.Queue.getD (0 : Int).toNat 0) : Int).toNat) ho116 rng
  refine Dv [9] (VldI sh3 0) (Dv [15] (Vi sl24 0) (Dv [2] (VldA sh98 0) (Dv [6] (Vfa fo59_5 0) (Dv [11] (VldF sh25 0) (Dv [] Vm (Dv [0] (Vi sl25 0) (Dv [0] (VldA sh42 0) ?_)))))))
  refine letv (flqref1_Apply (s.Transfers.getD ((rv31.Cone.getD ((rv31.Queue.getD (0 : Int).toNat 0) : Int).toNat 0) : Int).toNat default) (st5_100.getD ((rv31.Queue.getD (0 : Int).toNat 0) : Int).toNat default)) fun rv145 hg146 => ?_
  refine Dx [1, 3, 4, 5] [] [2, 3, 4, 5, 0, 1] (fun G => .tuple #[.agg #[vi rv145.1.Width, (G.g 14 0)], vi rv145.2]) [fun G => SP.fact (i64ok rv145.1.Width ∧ i64ok rv145.2), fun G => sl (G.g 14 0) rv145.1.Words] (fun G => xC [1, 2, 3, 0] ca145 (fn145 ((s.Transfers.getD ((rv31.Cone.getD ((rv31.Queue.getD (0 : Int).toNat 0) : Int).toNat 0) : Int).toNat default)) a128 k129 a130 k131 a132 k133 ((st5_100.getD ((rv31.Queue.getD (0 : Int).toNat 0) : Int).toNat default)) a139 k140 pre pre pre rv145 hg146)) (Dg [] (fun G => .tuple #[.agg #[vi rv145.1.Width, (G.g 14 0)], vi rv145.2]) (fun G => Vm) (Dg [] (fun G => .agg #[vi rv145.1.Width, (G.g 14 0)]) (fun G => Vx) (Dv [] Vx (Dx [] [] [0] (fun G => (G.g 18 0)) [fun G => Cl (G.g 18 0) [vi 0, .slice none 0 0]] (fun G => xA (Al ze42 [vi 0, .slice none 0 0])) (Dx0 [18, 19] [19] [1, 0] [fun G => Cl (G.g 18 0) [vi rv145.1.Width, (G.g 14 0)]] (fun G => x1 0 rfl sl_one fun ho148 => (xS (Scl [1] sh42 [vi rv145.1.Width, (G.g 14 0)] (v := .agg #[vi rv145.1.Width, (G.g 14 0)]) (h1 := show [vi rv145.1.Width, (G.g 14 0)].all (·.oneCell') = true from (by simp only [List.all_cons, List.all_nil, ho148, Bool.and_true, Bool.true_and] <;> rfl))))) (Dv [] Va ?_))))))
  refine Dn ⟨by kernel_rfl, fun G => ?_⟩
  refine Jw2 [(3, p11), (5, p12), (6, p13), (9, vi (rv31.Queue.getD (0 : Int).toNat 0)), (10, vl a95 k96 rv92), (11, vi n_102), (12, (G.g 18 0))] [0, 1, 2, 3, 4, 5, 6, 7, 8, 9, 10, 11, 12, 13, 14, 15, 16] [SP.fact (i64ok rv145.1.Width ∧ i64ok rv145.2), sl (G.g 14 0) rv145.1.Words, Cl (G.g 18 0) [vi rv145.1.Width, (G.g 14 0)]] ?_
  generalize G.g 14 0 = c144, G.g 18 0 = p147
  refine Jf 17 rfl ?_; rintro ⟨he149, he150⟩
  unfold i64ok at he149 he150
  refine Jk [0, 0, 1, 2, 3, 4, 6, 6, 6, 6, 6, 6, 6, 7, 8, 9, 11, 12] ?_
  refine Jo 16 ?_; rintro a151 k152 rfl
  refine Fb 8 16 fun _ => KS ?_
  refine Jp 10 fun hp154 => ?_
  refine JJ_peekO2_GSet ((rv92.getD n_102.toNat 0) : Int).toNat 1 rfl rng fun a155 k156 hb157 => ?_
  unfold i64ok at hb157
  refine Fb 8 1 fun _ => ?_
  refine JK_drawK [0, 1, 0, 0, 12, 28, 63, 127, 0, 511, 0, 2047] fmix ?_
  refine Dv [2] (Vfa fo59_5 0) (Dv [12] (VldF sh25 0) (Dv [] Vm (Dv [] Vm (Dv [11] (Vi sl22 0) ?_))))
  have hb159 := ok1 (i := n_102.toNat) ho118 rng
  refine Dv [11] (VldI sh3 0) (Dv [0] (Vi sl25 0) (Dv [0] (VldA sh42 0) (Dv [19] (VldA sh42 0) ?_)))
  refine letv (flqref1_Join (st5_100.getD ((rv92.getD n_102.toNat 0) : Int).toNat default) rv145.1) fun rv161 hg162 => ?_
  refine Dx [1, 18] [] [2, 3, 0, 1] (fun G => .agg #[vi rv161.Width, (G.g 9 0)]) [fun G => SP.fact (i64ok rv161.Width), fun G => sl (G.g 9 0) rv161.Words] (fun G => xC [0, 1] ca22 (fn22 ((st5_100.getD ((rv92.getD n_102.toNat 0) : Int).toNat default)) a155 k156 rv145.1 a151 k152 pre pre rv161 hg162)) (Dx [] [] [0] (fun G => (G.g 10 0)) [fun G => Cl (G.g 10 0) [vi 0, .slice none 0 0]] (fun G => xA (Al ze42 [vi 0, .slice none 0 0])) (Dx0 [21, 22] [22] [1, 0] [fun G => Cl (G.g 10 0) [vi rv161.Width, (G.g 9 0)]] (fun G => x1 0 rfl sl_one fun ho164 => (xS (Scl [1] sh42 [vi rv161.Width, (G.g 9 0)] (v := .agg #[vi rv161.Width, (G.g 9 0)]) (h1 := show [vi rv161.Width, (G.g 9 0)].all (·.oneCell') = true from (by simp only [List.all_cons, List.all_nil, ho164, Bool.and_true, Bool.true_and] <;> rfl))))) ?_))
  refine Dn ⟨by kernel_rfl, fun G => ?_⟩
  refine Jw2 [(3, p11), (5, p12), (6, p13), (9, vi (rv31.Queue.getD (0 : Int).toNat 0)), (10, vl a95 k96 rv92), (11, vi n_102), (14, (G.g 10 0))] [0, 1, 2, 3, 4, 5, 6, 7, 8, 9, 10, 11, 12, 13, 14, 15, 16, 17, 18, 19] [SP.fact (i64ok rv161.Width), sl (G.g 9 0) rv161.Words, Cl (G.g 10 0) [vi rv161.Width, (G.g 9 0)]] ?_
  generalize G.g 9 0 = c160, G.g 10 0 = p163
  refine Jf 20 rfl ?_; rintro he165
  unfold i64ok at he165
  refine Jk [0, 0, 2, 3, 4, 5, 6, 7, 7, 7, 7, 7, 7, 7, 8, 9, 10, 11, 12, 13, 14] ?_
  refine Jo 19 ?_; rintro a166 k167 rfl
  refine Fb 8 19 fun _ => KS ?_
  refine Jp 11 fun hp169 => ?_
  refine JK_drawK [0, 0, 2, 0, 0, 24, 56, 126, 254, 511] fmix ?_
  refine Dv [21] (VldA sh42 0) (Dv [0] (Vfa fo59_5 0) (Dv [12] (VldF sh25 0) (Dv [] Vm (Dv [] Vm (Dv [11] (Vi sl22 0) ?_)))))
  have hb170 := ok1 (i := n_102.toNat) ho118 rng
  refine Dv [11] (VldI sh3 0) (Dv [1] (Vi sl25 0) (Dv [1] (VldA sh42 0) ?_))
  refine letv (flqref1_Same rv161 (st5_100.getD ((rv92.getD n_102.toNat 0) : Int).toNat default)) fun rv171 hg172 => Dx [2, 20] [] [1, 2, 0] (fun G => vb rv171) [fun G => SP.fact (True)] (fun G => xC [1, 0] ca45 (fn45 rv161 a166 k167 ((st5_100.getD ((rv92.getD n_102.toNat 0) : Int).toNat default)) a155 k156 pre pre rv171 hg172)) ?_
  refine Dn ⟨by kernel_rfl, fun G => ?_⟩
  refine Jw2 [(3, p11), (5, p12), (6, p13), (9, vi (rv31.Queue.getD (0 : Int).toNat 0)), (10, vl a95 k96 rv92), (11, vi n_102), (14, p163), (96, vb rv171)] [0, 1, 2, 3, 4, 5, 6, 7, 8, 9, 10, 11, 12, 13, 14, 15, 16, 17, 18, 19, 20, 21] [SP.fact (True)] ?_
  refine Jk [1, 1, 2, 3, 4, 5, 6, 7, 7, 7, 7, 7, 7, 7, 8, 9, 10, 11, 12, 12, 13] ?_
  refine Kc ?_ ?_
  ·intro h173
   refine Jl [0] (Ent.oread2 _ _ _ _ _ _) ?_
   refine Ke ?_
   refine KS ?_
   refine Oq Vm (Oq Vadd (Oq Va (KS ?_)))
   exact Kg (r126, st5_100, st6_101, (n_102 + 1), a103, k104) [7, 7, 7, 7, 7, 0, 6, 6, 7, 8, 9] ⟨(q3 hM105 (by simp only [flqref14_Step_L0, h17, h22, h24, h56, h124, h173, hg15, hg32, hg53, hg93, hg146, hg162, hg172, cs4])), (by omega), (by omega), (by omega), (by omega), iv1, iv1⟩
  intro h173
  refine KS ?_
  refine Jp 11 fun hp176 => ?_
  refine JK_drawK [0, 1, 0, 0, 12, 28, 0, 127, 255] fmix ?_
  refine Dv [0] (Vfa fo59_5 0) (Dv [12] (VldF sh25 0) (Dv [] Vm (Dv [] Vm (Dv [11] (Vi sl22 0) ?_))))
  have hb177 := ok1 (i := n_102.toNat) ho118 rng
  refine Dv [11] (VldI sh3 0) (Dv [21] (VldA sh42 0) (Dv [1] (Vi sl25 0) ?_))
  refine Dx0 [1, 20] [1] [1, 0] [fun G => os (vl a45 k46 rv31.Values) (st5_100.set ((rv92.getD n_102.toNat 0) : Int).toNat rv161)] (fun G => xp [0] rfl (Ent.oread2 _ _ _ _ _ _) (xS (So (Rs := [S a166 k167 rv161.Words]) [0, 0] sh42 rv161 (fun h => ⟨_, rfl, (by unfold i64ok; first | omega | (dsimp only; omega)), sepAll_get (i := 0) rfl h⟩)))) ?_
  refine Dn ⟨by kernel_rfl, fun G => ?_⟩
  refine Jw2 [(3, p11), (5, p12), (6, p13), (9, vi (rv31.Queue.getD (0 : Int).toNat 0)), (10, vl a95 k96 rv92), (11, vi n_102)] [0, 2, 3, 4, 5, 6, 7, 8, 9, 10, 11, 12, 13, 14, 15, 16, 17, 18, 19, 20, 21] [os (vl a45 k46 rv31.Values) (st5_100.set ((rv92.getD n_102.toNat 0) : Int).toNat rv161)] ?_
  refine Jk [1, 2, 3, 4, 5, 6, 7, 7, 7, 7, 7, 7, 7, 8, 9, 10, 11, 12, 12, 13, 13] ?_
  refine KS ?_
  refine Jp 10 fun hp178 => ?_
  refine JK_drawK [0, 1, 0, 0, 12, 28, 63, 127] fmix ?_
  refine Dv [0] (Vfa fo59_6 0) (Dv [11] (VldF sh22 0) (Dv [] Vm (Dv [] Vm (Dv [10] (Vi sl22 0) ?_))))
  have hb179 := ok1 (i := n_102.toNat) ho118 rng
  refine Dv [10] (VldI sh3 0) ?_
  refine letv (flqref7_Has st6_101 (rv92.getD n_102.toNat 0)) fun rv180 hg181 => ?_
  refine Dx [7] [7] [0, 1] (fun G => vb rv180) [fun G => SP.fact (True), fun G => O a103 k104 st6_101] (fun G => xC [0] ca99 (FT_borrow (A := _) (fun _ _ h => by cases h) (FT_ent (Ent.take (is := [0]) rfl) (fn99 st6_101 a103 k104 ((rv92.getD n_102.toNat 0)) pre rv180 hg181))) (ht := rfl)) (Dv [] Vnot ?_)
  refine Dn ⟨by kernel_rfl, fun G => ?_⟩
  refine Jw2 [(3, p11), (5, p12), (6, p13), (9, vi (rv31.Queue.getD (0 : Int).toNat 0)), (10, vl a95 k96 rv92), (11, vi n_102), (112, vb (!rv180))] [0, 1, 2, 3, 4, 5, 6, 8, 9, 10, 11, 12, 13, 14, 15, 16, 17, 18, 19, 20, 21] [SP.fact (True), O a103 k104 st6_101] ?_
  refine Jk [1, 2, 3, 4, 5, 6, 7, 7, 7, 7, 7, 7, 8, 9, 10, 11, 12, 12, 13, 13, 14] ?_
  refine Kc ?_ ?_
  ·intro h182
   have h184 := not_true h182
   refine Jp 9 fun hp186 => ?_
   refine JK_drawK [0, 0, 2, 7, 0, 0, 48, 112, 240, 511, 1023, 2047] fmix ?_
   refine Dx [] [] [0] (fun G => (G.g 0 0)) [fun G => Cr (G.g 0 0) 0 []] (fun G => xA (As0 sl22)) (Dv [0] (Vfa fo59_6 0) (Dv [10] (VldF sh22 0) (Dx [21, 22] [21, 22] [0] (fun G => (G.g 3 0)) [fun G => os (G.g 3 0) st6_101] (fun G => xp [1] rfl (Ent.crNil (α := Int) _) (xA (ApO0 [0, 0] sl22 sl22 sz22))) (Dv [] Vm (Dv [] Vm (Dv [9] (Vi sl22 0) ?_))))))
   have hb189 := ok1 (i := n_102.toNat) ho118 rng
   refine Dv [9] (VldI sh3 0) (Dx [] [] [0] (fun G => (G.g 8 0)) [fun G => Cr (G.g 8 0) 1 [vi (rv92.getD n_102.toNat 0)]] (fun G => xA (AsV sl22 sz22 [vi (rv92.getD n_102.toNat 0)] [vi (rv92.getD n_102.toNat 0)])) ?_)
   have hn192 := la st6_101 ([(rv92.getD n_102.toNat 0)] : List Int)
   refine Dx [23, 24] [23, 24] [0] (fun G => (G.g 9 0)) [fun G => os (G.g 9 0) ((st6_101 ++ [(rv92.getD n_102.toNat 0)]) : List Int)] (fun G => xp [1] rfl (Ent.crInt _ [(rv92.getD n_102.toNat 0)] _ _ rfl rfl (by intro x hx; rw [List.mem_singleton] at hx; subst hx; unfold i64ok; omega) (Nat.le_of_ble_eq_true rfl)) (xA (ApO [1, 0] sl22 sl22 sz22))) (Dv [0] (Vfa fo59_6 0) (Dx0 [10, 25] [10] [1, 0] [fun G => Cl p12 [vi rv31.Phase, vl a38 k39 rv31.Cone, vl a42 k43 rv31.Leaf, vi rv31.At, vi rv31.Edge, vl a45 k46 rv31.Values, (G.g 9 0), vi rv52]] (fun G => x1 1 rfl os_one fun ho193 => (xS (OpS.frame [0] rfl (OpS.storeClF [(G.g 9 0)] [vi rv31.Phase, vl a38 k39 rv31.Cone, vl a42 k43 rv31.Leaf, vi rv31.At, vi rv31.Edge, vl a45 k46 rv31.Values, (G.g 9 0), vi rv52] rfl rfl rfl sh22 (cells_of_one ho193) rfl (by simp only [List.all_cons, List.all_nil, ho193, Bool.and_true, Bool.true_and] <;> rfl) (Nat.le_of_ble_eq_true rfl) rfl)))) ?_))
   refine Dn ⟨by kernel_rfl, fun G => ?_⟩
   refine Jw2 [(3, p11), (5, p12), (6, p13), (9, vi (rv31.Queue.getD (0 : Int).toNat 0)), (10, vl a95 k96 rv92), (11, vi n_102)] [0, 1, 2, 3, 4, 5, 6, 7, 8, 9, 11, 12, 13, 14, 15, 16, 17, 18, 19, 20] [os (G.g 9 0) ((st6_101 ++ [(rv92.getD n_102.toNat 0)]) : List Int), Cl p12 [vi rv31.Phase, vl a38 k39 rv31.Cone, vl a42 k43 rv31.Leaf, vi rv31.At, vi rv31.Edge, vl a45 k46 rv31.Values, (G.g 9 0), vi rv52]] ?_
   generalize G.g 9 0 = c191
   refine Jk [1, 2, 3, 4, 5, 6, 7, 7, 7, 7, 7, 8, 9, 10, 11, 12, 12, 13, 13, 13, 13] ?_
   refine Jo 19 ?_; rintro a194 k195 rfl
   refine Fb 8 19 fun _ => Fo 19 fun ho197 => KS ?_
   refine Oq Vm (Oq Vadd (Oq Va (KS ?_)))
   exact Kg (r126, (st5_100.set ((rv92.getD n_102.toNat 0) : Int).toNat rv161), (st6_101 ++ [(rv92.getD n_102.toNat 0)]), (n_102 + 1), a194, k195) [19, 6, 6, 6, 16, 15, 6, 6, 7, 8, 9] ⟨(q3 hM105 (by simp only [flqref14_Step_L0, h17, h22, h24, h56, h124, h173, h182, h184, hg15, hg32, hg53, hg93, hg146, hg162, hg172, hg181, cs4])), (by omega), (by omega), (by omega), (by omega), iv1, iv1⟩
  intro h182
  have h199 := not_false h182
  refine KS ?_
  refine Oq Vm (Oq Vadd (Oq Va (KS ?_)))
  exact Kg (r126, (st5_100.set ((rv92.getD n_102.toNat 0) : Int).toNat rv161), st6_101, (n_102 + 1), a103, k104) [20, 6, 6, 6, 6, 15, 6, 6, 7, 8, 9] ⟨(q3 hM105 (by simp only [flqref14_Step_L0, h17, h22, h24, h56, h124, h173, h182, h199, hg15, hg32, hg53, hg93, hg146, hg162, hg172, hg181, cs4])), (by omega), (by omega), (by omega), (by omega), iv1, iv1⟩
 intro h124
 have g201 := df h124
 obtain rfl : r99 = 0 := by omega
 refine Ke ?_
 have hR202 := q2 hM105 (st5_100, st6_101) (by simp only [flqref14_Step_L0, h17, h22, h24, h56, h124, hg15, hg32, hg53, hg93, cs4])
 refine KS ?_
 refine Oq (Vfa fo59_6 4) (Oq (VldF sh22 4) (Oq (Vlen sl22) (Oq Veql (KS ?_))))
 refine Kc ?_ ?_
 ·intro h203
  have g204 := eq_of_beq h203
  refine KS ?_
  refine Oq (Vfa fo59_0 4) (Ost (SclF [4] sh3 [vi 3, vl a38 k39 rv31.Cone, vl a42 k43 rv31.Leaf, vi rv31.At, vi rv31.Edge, vl a45 k46 rv31.Values, vl a103 k104 st6_101, vi rv52]) (KS ?_))
  refine Oq (VldA sh59 0) (Oq Vm (Oq (Vlen sl22) (Oq Vadd (Oq Vmin (Ost (Scl [6] sh59 [vi 3, vl a38 k39 rv31.Cone, vl a42 k43 rv31.Leaf, vi rv31.At, vi rv31.Edge, vl a45 k46 rv31.Values, vl a103 k104 st6_101, vi rv52]) (Oq Va (Oq Va (KS ?_))))))))
  refine Jl [4] (Ent.freeze _ _) ?_
  refine Jl [4] (Ent.freeze _ _) ?_
  refine Jl [6] (Ent.freeze _ _) ?_
  refine Jl [5] (Ent.freeze _ _) ?_
  have hq := q4 hrr ((GState.mk 3 rv31.Cone rv31.Leaf rv31.At rv31.Edge st5_100 st6_101 rv52), (min (1 + (rv92.length : Int)) 8), 0) (by simp only [flqref14_Step, h17, h22, h24, h56, h124, h203, hg15, hg32, hg53, hg93, hR202, cs4]); subst hq
  exact Kr (vl a38 k39 rv31.Cone, vl a42 k43 rv31.Leaf, vl a45 k46 rv31.Values, vl a103 k104 st6_101) rfl (.cellN 4 rfl sh59 rfl (reads_Cl _ _) rfl (.tmp rfl (.tmp rfl .nil))) [3, 2, 1, 0] en
 intro h203
 have g205 := ne_of_beq_false h203
 refine KS ?_
 refine Oq (VldA sh59 4) (Oq Vm (Oq (Vlen sl22) (Oq Vadd (Oq Vmin (Ost (Scl [6] sh59 [vi rv31.Phase, vl a38 k39 rv31.Cone, vl a42 k43 rv31.Leaf, vi rv31.At, vi rv31.Edge, vl a45 k46 rv31.Values, vl a103 k104 st6_101, vi rv52]) (Oq Va (Oq Va (KS ?_))))))))
 refine Jl [3] (Ent.freeze _ _) ?_
 refine Jl [3] (Ent.freeze _ _) ?_
 refine Jl [6] (Ent.freeze _ _) ?_
 refine Jl [4] (Ent.freeze _ _) ?_
 have hq := q4 hrr ((GState.mk rv31.Phase rv31.Cone rv31.Leaf rv31.At rv31.Edge st5_100 st6_101 rv52), (min (1 + (rv92.length : Int)) 8), 0) (by simp only [flqref14_Step, h17, h22, h24, h56, h124, h203, hg15, hg32, hg53, hg93, hR202, cs4]); subst hq
 exact Kr (vl a38 k39 rv31.Cone, vl a42 k43 rv31.Leaf, vl a45 k46 rv31.Values, vl a103 k104 st6_101) rfl (.cellN 4 rfl sh59 rfl (reads_Cl _ _) rfl (.tmp rfl (.tmp rfl .nil))) [3, 2, 1, 0] en
theorem fn257 (data : List GKnown) (dataa0 : Option Addr) (datak0 : Nat) (a : Int) (b : Int) (cmpF : FuncId) (cmpC : List Value) (cmpp : GKnown → GKnown → Int) (cmpA : List SP) (ha_0 : i64ok a) (hb_0 : i64ok b) (hcmpc : callable Tryz.prog cmpF = true) (hcmpF : ∀ x0 x1, ∀ (a0 : Option Addr) (k0 : Nat) (a2 : Option Addr) (k2 : Nat), i64ok x0.Node → i64ok x0.Value.Width → i64ok x1.Node → i64ok x1.Value.Width → FT Tryz.prog cmpF ([(.agg #[vi x0.Node, vi x0.Value.Width, vl a0 k0 x0.Value.Words] : Value), (.agg #[vi x1.Node, vi x1.Value.Width, vl a2 k2 x1.Value.Words] : Value)] ++ cmpC).toArray ([S a0 k0 x0.Value.Words, S a2 k2 x1.Value.Words] ++ [pAll cmpA]) (fun _ : Unit => i64ok (cmpp x0 x1)) (fun _ => vi (cmpp x0 x1)) (fun _ => [])) (ha0 : 0 ≤ a ∧ a ≤ b ∧ b ≤ (data.length : Int)) (rr : List GKnown) (hrr : slices_insertionSortCmpFunc_Known data a b cmpp = rr) : FT Tryz.prog 257 #[vl dataa0 datak0 data, vi a, vi b, .func (.func cmpF) #[] cmpC.toArray] [O dataa0 datak0 data, pAll cmpA] (fun g : Unit => True) (fun g => .tuple #[]) (fun g => [os (vl dataa0 datak0 data) rr]) := by
 refine FTi Tryz.func257 fun w0 M0 F0 => ?_
 unfold i64ok at ha_0 hb_0
 refine Fb 40 0 fun _ => KS ?_
 refine Oq Vm (Oq Vadd (Oq Va (KS ?_)))
 refine Kl (γ := Nat × List GKnown × Int) (fun (r2, data_3, i_4) => ⟨[(0, vl dataa0 datak0 data), (1, vi a), (2, vi b), (3, .func (.func cmpF) #[] cmpC.toArray), (8, vi i_4)], [os (vl dataa0 datak0 data) data_3, pAll cmpA], slices_insertionSortCmpFunc_Known_L0 a cmpp r2 data_3 i_4 = slices_insertionSortCmpFunc_Known_L0 a cmpp (((b : Int) - (a + 1)).toNat) data (a + 1) ∧ r2 = ((b : Int) - i_4).toNat ∧ ((a + 1) : Int) ≤ i_4 ∧ (i_4 ≤ b ∨ i_4 = (a + 1)) ∧ (-9223372036854775808 ≤ i_4 ∧ i_4 ≤ 9223372036854775807), r2⟩) (((b : Int) - (a + 1)).toNat, data, (a + 1)) [0, 0] ⟨rfl, rfl, (by omega), (.inr rfl), (by omega)⟩ ?_
 rintro ⟨r2, data_3, i_4⟩ ⟨hM5, hr6, hi7, hi8, hk9⟩
 refine JJ_nx fun _ _ hL hA => ?_; dsimp only at hL hA; subst hL hA
 refine Fb 40 0 fun _ => Fl 0 fun hn11 => ?_
 refine KS ?_
 refine Oq Vm (Oq Vm (Oq Vlss (KS ?_)))
 refine Kc ?_ ?_
 ·intro h12
  have g13 := dt h12
  obtain ⟨r14, rfl⟩ := scc (n := r2) (by omega)
  refine KS ?_
  refine Oq Vm (Oq Va (KS ?_))
  refine Kl (γ := Nat × List GKnown × Int) (fun (r15, data_16, j_17) => ⟨[(0, vl dataa0 datak0 data), (1, vi a), (2, vi b), (3, .func (.func cmpF) #[] cmpC.toArray), (8, vi i_4), (9, vi j_17)], [os (vl dataa0 datak0 data) data_16, pAll cmpA], slices_insertionSortCmpFunc_Known_L1 cmpp r15 data_16 j_17 = slices_insertionSortCmpFunc_Known_L1 cmpp (((i_4 : Int) - a).toNat) data_3 i_4 ∧ r15 = ((j_17 : Int) - a).toNat ∧ j_17 ≤ (i_4 : Int) ∧ (-9223372036854775808 ≤ j_17 ∧ j_17 ≤ 9223372036854775807), r15⟩) (((i_4 : Int) - a).toNat, data_3, i_4) [0, 0] ⟨rfl, rfl, (by omega), (by omega)⟩ ?_
  rintro ⟨r15, data_16, j_17⟩ ⟨hM18, hr19, hi20, hk21⟩
  refine JJ_nx fun _ _ hL hA => ?_; dsimp only at hL hA; subst hL hA
  refine Fb 40 0 fun _ => Fl 0 fun hn23 => ?_
  refine KS ?_
  refine bool_split (decide (a < j_17)) ?_ ?_
  ·intro h24
   have g25 := dt h24
   obtain ⟨r26, rfl⟩ := scc (n := r15) (by omega)
   refine JJ_peekO_GKnown j_17.toNat 0 rfl rng fun a27 k28 hb29 hb30 => ?_
   unfold i64ok at hb29 hb30
   refine Fb 8 1 fun _ => ?_
   refine JJ_peekO2_GKnown ((j_17 - 1) : Int).toNat 0 rfl rng fun a32 k33 hb34 hb35 => ?_
   unfold i64ok at hb34 hb35
   refine Fb 8 1 fun _ => ?_
   refine JK_drawK [0, 0, 3, 7, 15, 15, 15, 111, 239, 15, 15, 1039, 3599, 7695, 16383, 32767, 65535] fmix ?_
   refine Dv [] Vm (Dv [] Vm (Db h24 [] Vgtr (Dv [] Vm (Dv [] Vm (Dv [] Vm (Dv [] Vm (Dv [0] (Vi sl53 0) (Dv [0] (VldA sh67 0) (Dv [] Vm ?_)))))))))
   refine Dv [] Vm (Dv [] Vsub (Dv [0] (Vi sl53 0) (Dv [0] (VldA sh67 0) (Dx [1, 2, 3] [] [1, 2, 3, 0] (fun G => vi (cmpp (data_16.getD j_17.toNat default) (data_16.getD ((j_17 - 1) : Int).toNat default))) [fun G => SP.fact (i64ok (cmpp (data_16.getD j_17.toNat default) (data_16.getD ((j_17 - 1) : Int).toNat default)))] (fun G => xE («as» := [(.agg #[vi ((data_16.getD j_17.toNat default).Node), vi (((data_16.getD j_17.toNat default).Value).Width), vl a27 k28 (((data_16.getD j_17.toNat default).Value).Words)] : Value), (.agg #[vi ((data_16.getD ((j_17 - 1) : Int).toNat default).Node), vi (((data_16.getD ((j_17 - 1) : Int).toNat default).Value).Width), .slice a32 ((((data_16.getD ((j_17 - 1) : Int).toNat default).Value).Words).length) k33] : Value)] ++ cmpC) [1, 0, 2] hcmpc rfl rfl rfl (by simp) rfl (hcmpF (data_16.getD j_17.toNat default) (data_16.getD ((j_17 - 1) : Int).toNat default) a27 k28 a32 k33 pre pre pre pre)) (Dv [] Vlss (Dv [] Vpt ?_))))))
   refine Dn ⟨by kernel_rfl, fun G => ?_⟩
   refine Jw2 [(0, vl dataa0 datak0 data), (1, vi a), (2, vi b), (3, .func (.func cmpF) #[] cmpC.toArray), (8, vi i_4), (9, vi j_17), (34, vb (decide ((cmpp (data_16.getD j_17.toNat default) (data_16.getD ((j_17 - 1) : Int).toNat default)) < 0)))] [0, 1, 2, 3] [SP.fact (i64ok (cmpp (data_16.getD j_17.toNat default) (data_16.getD ((j_17 - 1) : Int).toNat default)))] ?_
   refine Jf 4 rfl ?_; rintro he37
   unfold i64ok at he37
   refine Jk [0, 0, 1, 2] ?_
   refine Kc ?_ ?_
   ·intro h38
    have g39 := dt h38
    refine KS ?_
    refine JK_drawK [0, 0, 0, 0, 8, 0, 0, 64, 224, 480, 0, 0, 3072, 7168, 16355, 32739, 65535, 131071] fmix ?_
    refine Dv [] Vm (Dv [] Vm (Dv [] Vm (Dv [] Vm (Dv [] Vsub (Dv [] Vm (Dv [] Vm (Dv [] Vsub (Dv [0] (Vi sl53 0) (Dv [0] (VldA sh67 0) ?_)))))))))
    refine Dv [] Vm (Dv [] Vm (Dv [0] (Vi sl53 0) (Dv [0] (VldA sh67 0) (Dv [0] (Vi sl53 0) ?_))))
    refine Dx0 [0, 1] [0] [1, 0] [fun G => os (vl dataa0 datak0 data) (data_16.set j_17.toNat (data_16.getD ((j_17 - 1) : Int).toNat default))] (fun G => xp [0] rfl (Ent.oread2 _ _ _ _ _ _) (xS (So (Rs := [S a32 k33 (((data_16.getD ((j_17 - 1) : Int).toNat default).Value).Words)]) [0, 0] sh67 (data_16.getD ((j_17 - 1) : Int).toNat default) (fun h => ⟨_, rfl, (by unfold i64ok; first | omega | (dsimp only; omega)), (by unfold i64ok; first | omega | (dsimp only; omega)), sepAll_get (i := 0) rfl h⟩)))) (Dv [4] (Vi sl53 0) ?_)
    refine Dx0 [2, 4] [4] [1, 0] [fun G => os (vl dataa0 datak0 data) ((data_16.set j_17.toNat (data_16.getD ((j_17 - 1) : Int).toNat default)).set ((j_17 - 1) : Int).toNat (data_16.getD j_17.toNat default))] (fun G => xS (So (Rs := [S a27 k28 (((data_16.getD j_17.toNat default).Value).Words)]) [1, 0] sh67 (data_16.getD j_17.toNat default) (fun h => ⟨_, rfl, (by unfold i64ok; first | omega | (dsimp only; omega)), (by unfold i64ok; first | omega | (dsimp only; omega)), sepAll_get (i := 0) rfl h⟩))) ?_
    refine Dn ⟨by kernel_rfl, fun G => ?_⟩
    refine Jw2 [(0, vl dataa0 datak0 data), (1, vi a), (2, vi b), (3, .func (.func cmpF) #[] cmpC.toArray), (8, vi i_4), (9, vi j_17)] [1, 2, 3] [os (vl dataa0 datak0 data) ((data_16.set j_17.toNat (data_16.getD ((j_17 - 1) : Int).toNat default)).set ((j_17 - 1) : Int).toNat (data_16.getD j_17.toNat default))] ?_
    refine KS ?_
    refine Oq Vm (Oq Vsub (Oq Va (KS ?_)))
    exact Kg (r26, ((data_16.set j_17.toNat (data_16.getD ((j_17 - 1) : Int).toNat default)).set ((j_17 - 1) : Int).toNat (data_16.getD j_17.toNat default)), (j_17 - 1)) [3, 2] ⟨(q3 hM18 (by simp only [slices_insertionSortCmpFunc_Known_L1, h12, h24, h38, cs4])), (by omega), (by omega), (by omega)⟩
   intro h38
   have g40 := df h38
   refine Jl [0] (Ent.oread2 _ _ _ _ _ _) ?_
   refine Ke ?_
   have hR41 := q2 hM18 data_16 (by simp only [slices_insertionSortCmpFunc_Known_L1, h12, h24, h38, cs4])
   refine KS ?_
   refine Oq Vm (Oq Vadd (Oq Va (KS ?_)))
   exact Kg (r14, data_16, (i_4 + 1)) [0, 2] ⟨(q3 hM5 (by simp only [slices_insertionSortCmpFunc_Known_L0, h12, h24, h38, hR41, cs4])), (by omega), (by omega), (by omega), (by omega)⟩
  intro h24
  have g42 := df h24
  obtain rfl : r15 = 0 := by omega
  refine Kq [0, 0, 3, 7, 15, 15, 15, 111, 239, 15, 15, 1039, 3599, 7695, 16383, 32767, 65535] fmix ?_
  refine Qv [] Vm (Qv [] Vm (Qb h24 [] Vgtr (Qv [] Vm (Qs (Qs (Qs (Qs (Qs (Qs ?_)))))))))
  refine Qs (Qs (Qs (Qs (Qs (Qs (Qv [] Vpf ?_))))))
  refine Qn ⟨by kernel_rfl, ?_⟩
  refine Kf ?_
  refine Ke ?_
  have hR43 := q2 hM18 data_16 (by simp only [slices_insertionSortCmpFunc_Known_L1, h12, h24, cs4])
  refine KS ?_
  refine Oq Vm (Oq Vadd (Oq Va (KS ?_)))
  exact Kg (r14, data_16, (i_4 + 1)) [0, 0] ⟨(q3 hM5 (by simp only [slices_insertionSortCmpFunc_Known_L0, h12, h24, hR43, cs4])), (by omega), (by omega), (by omega), (by omega)⟩
 intro h12
 have g44 := df h12
 obtain rfl : r2 = 0 := by omega
 refine Ke ?_
 have hR45 := q2 hM5 data_3 (by simp only [slices_insertionSortCmpFunc_Known_L0, h12, cs4])
 have hq := q4 hrr data_3 (by simp only [slices_insertionSortCmpFunc_Known, h12, hR45, cs4]); subst hq
 exact Kz () rfl .nil [0] trivial
theorem fn207 (data : List GKnown) (dataa0 : Option Addr) (datak0 : Nat) (n : Int) (cmpF : FuncId) (cmpC : List Value) (cmpp : GKnown → GKnown → Int) (cmpA : List SP) (hn_0 : i64ok n) (hcmpc : callable Tryz.prog cmpF = true) (hcmpF : ∀ x0 x1, ∀ (a0 : Option Addr) (k0 : Nat) (a2 : Option Addr) (k2 : Nat), i64ok x0.Node → i64ok x0.Value.Width → i64ok x1.Node → i64ok x1.Value.Width → FT Tryz.prog cmpF ([(.agg #[vi x0.Node, vi x0.Value.Width, vl a0 k0 x0.Value.Words] : Value), (.agg #[vi x1.Node, vi x1.Value.Width, vl a2 k2 x1.Value.Words] : Value)] ++ cmpC).toArray ([S a0 k0 x0.Value.Words, S a2 k2 x1.Value.Words] ++ [pAll cmpA]) (fun _ : Unit => i64ok (cmpp x0 x1)) (fun _ => vi (cmpp x0 x1)) (fun _ => [])) (ha0 : (data.length : Int) = n ∧ n ≤ 12) (rr : List GKnown) (hrr : slices_stableCmpFunc_Known data n cmpp = rr) : FT Tryz.prog 207 #[vl dataa0 datak0 data, vi n, .func (.func cmpF) #[] cmpC.toArray] [O dataa0 datak0 data, pAll cmpA] (fun g : Unit => True) (fun g => .tuple #[]) (fun g => [os (vl dataa0 datak0 data) rr]) := by
 refine FTi Tryz.func207 fun w0 M0 F0 => ?_
 unfold i64ok at hn_0
 refine Fb 40 0 fun _ => KS ?_
 refine Oq Va (KS ?_)
 refine Oq Vm (Oq Va (Oq Va (KS ?_)))
 have hterm4 : slices_stableCmpFunc_Known_L0 1 ≠ LR.oof := (by unfold slices_stableCmpFunc_Known_L0; intro h; simp only [Bool.cond_eq_ite] at h; (repeat' split at h) <;> cases h)
 refine Kl (γ := Nat) (fun r2 => ⟨[(0, vl dataa0 datak0 data), (1, vi n), (2, .func (.func cmpF) #[] cmpC.toArray), (6, vi 20), (7, vi 0), (8, vi 20)], [O dataa0 datak0 data, pAll cmpA], slices_stableCmpFunc_Known_L0 r2 = slices_stableCmpFunc_Known_L0 1, r2⟩) 1 [0, 0] rfl ?_
 rintro r2 hM3
 refine JJ_nx fun _ _ hL hA => ?_; dsimp only at hL hA; subst hL hA
 refine Fb 40 0 fun _ => ?_
 rcases r2 with _ | r2
 ·exact absurd (hM3.symm.trans rfl) hterm4
 refine KS ?_
 refine Oq Vm (Oq Vm (Oq Vleq (KS ?_)))
 refine Kc ?_ ?_
 ·intro h6
  have g7 := dt h6
  exfalso; omega
 intro h6
 have g8 := df h6
 refine Ke ?_
 have hR9 := q2 hM3 (.brk ()) (by simp only [slices_stableCmpFunc_Known_L0, h6, cs4])
 refine KS ?_
 refine Oq Vm (Oq Vm (Oq Vm (Oq Vm ?_)))
 refine letv (slices_insertionSortCmpFunc_Known data 0 n cmpp) fun rv10 hg11 => ?_
 have hc12 := fn257 data dataa0 datak0 0 n cmpF cmpC cmpp cmpA pre pre hcmpc hcmpF pre rv10 hg11
 refine Oc [0, 0] ca257 hc12 ?_
 rintro - -
 refine KS ?_
 have hterm15 : slices_stableCmpFunc_Known_L1 1 ≠ LR.oof := (by unfold slices_stableCmpFunc_Known_L1; intro h; simp only [Bool.cond_eq_ite] at h; (repeat' split at h) <;> cases h)
 refine Kl (γ := Nat) (fun r13 => ⟨[(0, vl dataa0 datak0 data), (1, vi n), (2, .func (.func cmpF) #[] cmpC.toArray), (6, vi 20)], [os (vl dataa0 datak0 data) rv10, pAll cmpA], slices_stableCmpFunc_Known_L1 r13 = slices_stableCmpFunc_Known_L1 1, r13⟩) 1 [0, 0] rfl ?_
 rintro r13 hM14
 refine JJ_nx fun _ _ hL hA => ?_; dsimp only at hL hA; subst hL hA
 refine Fb 40 0 fun _ => Fl 0 fun hn17 => ?_
 rcases r13 with _ | r13
 ·exact absurd (hM14.symm.trans rfl) hterm15
 refine KS ?_
 refine Oq Vm (Oq Vm (Oq Vlss (KS ?_)))
 refine Kc ?_ ?_
 ·intro h18
  have g19 := dt h18
  exfalso; omega
 intro h18
 have g20 := df h18
 refine Ke ?_
 have hR21 := q2 hM14 (.brk ()) (by simp only [slices_stableCmpFunc_Known_L1, h6, h18, hR9, hg11, cs4])
 have hq := q4 hrr rv10 (by simp only [slices_stableCmpFunc_Known, h6, h18, hR9, hg11, hR21, cs4]); subst hq
 exact Kz () rfl .nil [0] trivial
theorem fn146 (x : List GKnown) (xa0 : Option Addr) (xk0 : Nat) (cmpF : FuncId) (cmpC : List Value) (cmpp : GKnown → GKnown → Int) (cmpA : List SP) (hcmpc : callable Tryz.prog cmpF = true) (hcmpF : ∀ x0 x1, ∀ (a0 : Option Addr) (k0 : Nat) (a2 : Option Addr) (k2 : Nat), i64ok x0.Node → i64ok x0.Value.Width → i64ok x1.Node → i64ok x1.Value.Width → FT Tryz.prog cmpF ([(.agg #[vi x0.Node, vi x0.Value.Width, vl a0 k0 x0.Value.Words] : Value), (.agg #[vi x1.Node, vi x1.Value.Width, vl a2 k2 x1.Value.Words] : Value)] ++ cmpC).toArray ([S a0 k0 x0.Value.Words, S a2 k2 x1.Value.Words] ++ [pAll cmpA]) (fun _ : Unit => i64ok (cmpp x0 x1)) (fun _ => vi (cmpp x0 x1)) (fun _ => [])) (ha0 : x.length ≤ 12) (rr : List GKnown) (hrr : slices_SortStableFunc_Known x cmpp = rr) : FT Tryz.prog 146 #[vl xa0 xk0 x, .func (.func cmpF) #[] cmpC.toArray] [O xa0 xk0 x, pAll cmpA] (fun g : Unit => True) (fun g => .tuple #[]) (fun g => [os (vl xa0 xk0 x) rr]) := by
 refine FTi Tryz.func146 fun w0 M0 F0 => Fb 40 0 fun _ => ?_
 refine KS ?_
 refine Oq Vm (Oq Vm (Oq (Vlen sl53) (Oq Vm ?_)))
 refine letv (slices_stableCmpFunc_Known x (x.length : Int) cmpp) fun rv2 hg3 => ?_
 have hc4 := fn207 x xa0 xk0 ((x.length : Int)) cmpF cmpC cmpp cmpA pre hcmpc hcmpF pre rv2 hg3
 refine Oc [0, 0] ca207 hc4 ?_
 rintro - -
 refine KS ?_
 have hq := q4 hrr rv2 (by simp only [slices_SortStableFunc_Known, hg3, cs4]); subst hq
 exact Kz () rfl .nil [0] trivial
theorem fn147 (a : GKnown) (aa2 : Option Addr) (ak2 : Nat) (b : GKnown) (ba2 : Option Addr) (bk2 : Nat) (ha_0 : i64ok a.Node) (ha_1 : i64ok a.Value.Width) (hb_0 : i64ok b.Node) (hb_1 : i64ok b.Value.Width) (rr : Int) (hrr : solver_Final_1 a b = rr) : FT Tryz.prog 147 #[.agg #[vi a.Node, vi a.Value.Width, vl aa2 ak2 a.Value.Words], .agg #[vi b.Node, vi b.Value.Width, vl ba2 bk2 b.Value.Words]] [S aa2 ak2 a.Value.Words, S ba2 bk2 b.Value.Words] (fun g : Unit => i64ok rr) (fun g => vi rr) (fun g => []) := by
 refine FTi Tryz.func147 fun w0 M0 F0 => ?_
 unfold i64ok at ha_0 ha_1 hb_0 hb_1
 refine Fb 8 0 fun _ => Fb 8 1 fun _ => KS ?_
 refine Oa (Ab [vi a.Node, vi a.Value.Width, vl aa2 ak2 a.Value.Words]) fun p3 => Oa (Ab [vi b.Node, vi b.Value.Width, vl ba2 bk2 b.Value.Words]) fun p4 => Oq Va (KS ?_)
 refine Oq (Vfa fo67_0 1) (Oq (VldF sh3 1) (Oq (Vfa fo67_0 0) (Oq (VldF sh3 0) ?_)))
 refine letv (cmp_Compare_int a.Node b.Node) fun rv5 hg6 => ?_
 have hc7 := fn148 a.Node b.Node pre pre rv5 hg6
 refine Oc [] ca148 hc7 ?_
 rintro - he8
 unfold i64ok at he8
 refine Oq Va (KS ?_)
 have hq := q4 hrr rv5 (by simp only [solver_Final_1, hg6, cs4]); subst hq
 exact Kr () rfl (.tmp rfl .nil) [] en
theorem fn63 (st : GState) (sta1 : Option Addr) (stk1 : Nat) (sta2 : Option Addr) (stk2 : Nat) (sta5 : Option Addr) (stk5 : Nat) (sta6 : Option Addr) (stk6 : Nat) (hst_0 : i64ok st.Phase) (hst_3 : i64ok st.At) (hst_4 : i64ok st.Edge) (hst_7 : i64ok st.Steps) (hc12 : st.Cone.length ≤ 12) (rr : List GKnown) (hrr : solver_Final st = rr) : FT Tryz.prog 63 #[.agg #[vi st.Phase, vl sta1 stk1 st.Cone, vl sta2 stk2 st.Leaf, vi st.At, vi st.Edge, vl sta5 stk5 st.Values, vl sta6 stk6 st.Queue, vi st.Steps]] [S sta1 stk1 st.Cone, S sta2 stk2 st.Leaf, S sta5 stk5 st.Values, S sta6 stk6 st.Queue] (fun g : Value => True) (fun g => g) (fun g => [sl g rr]) := by
 refine FTi Tryz.func63 fun w0 M0 F0 => ?_
 unfold i64ok at hst_0 hst_3 hst_4 hst_7
 refine Fb 8 0 fun _ => Fo 0 fun ho2 => Fb 1 1 fun _ => Fb 32 2 fun _ => Fb 8 3 fun _ => Fo 3 fun ho6 => KS ?_
 refine Oa (Ab [vi st.Phase, vl sta1 stk1 st.Cone, vl sta2 stk2 st.Leaf, vi st.At, vi st.Edge, vl sta5 stk5 st.Values, vl sta6 stk6 st.Queue, vi st.Steps]) fun p7 => Oq Va (KS ?_)
 refine Oq Va (KS ?_)
 refine Oq Va (KS ?_)
 refine Jl [] (Ent.osNil (α := GKnown)) ?_
 have hterm16 : solver_Final_L0 st (st.Cone.length + 1) [] 0 ≠ LR.oof := (pFinal_term _ _ _ _ (by omega))
 refine Kl (γ := Nat × List GKnown × Int × Option Addr × Nat) (fun (r8, out_9, i_10, a11, k12) => ⟨[(1, p7), (3, vl a11 k12 out_9), (4, vi i_10)], [O a11 k12 out_9, pv p7 [vi st.Phase, vl sta1 stk1 st.Cone, vl sta2 stk2 st.Leaf, vi st.At, vi st.Edge, vl sta5 stk5 st.Values, vl sta6 stk6 st.Queue, vi st.Steps], S sta1 stk1 st.Cone, S sta2 stk2 st.Leaf, S sta5 stk5 st.Values, S sta6 stk6 st.Queue], solver_Final_L0 st r8 out_9 i_10 = solver_Final_L0 st (st.Cone.length + 1) [] 0 ∧ (-9223372036854775808 ≤ i_10 ∧ i_10 ≤ 9223372036854775807) ∧ (i_10 ≤ (st.Cone.length : Int) ∧ (out_9.length : Int) ≤ i_10 ∧ 0 ≤ i_10), r8⟩) ((st.Cone.length + 1), [], 0, none, 0) [0, 0, 1, 2, 3, 4] ⟨rfl, (by omega), iv0⟩ ?_
 rintro ⟨r8, out_9, i_10, a11, k12⟩ ⟨hM13, hk14, hv15⟩
 refine JJ_nx fun _ _ hL hA => ?_; dsimp only at hL hA; subst hL hA
 refine Fb 40 0 fun _ => Fb 8 2 fun _ => Fo 2 fun ho19 => Fb 1 3 fun _ => Fb 32 4 fun _ => Fb 8 5 fun _ => Fo 5 fun ho23 => ?_
 rcases r8 with _ | r8
 ·exact absurd (hM13.symm.trans rfl) hterm16
 refine KS ?_
 refine Oq (Vfa fo59_0 1) (Oq (VldF sh3 1) (Oq Veql (Oq Vm ?_)))
 refine Js 8 ?_ ?_
 ·intro h24
  have g25 := eq_of_beq h24
  refine Oq Vm (Oq (Vfa fo59_1 1) (Oq (VldF sh22 1) (Oq (Vlen sl22) (Oq (Vfa fo59_2 1) (Oq (VldF sh57 1) (Oq (Vlen sl57) (Oq (Vfa fo59_5 1) (Oq (VldF sh25 1) (Oq (Vlen sl25) ?_)))))))))
  refine Oq Vmin3 (Oq Vlss (Oq Vpt (KS ?_)))
  refine Kc ?_ ?_
  ·intro h26
   have g27 := dt h26
   refine KS ?_
   refine Oq (Vfa fo59_2 1) (Oq (VldF sh57 1) (Oq Vm (Oq (Vi sl57 3) (Oq (VldB sh4 3) (Oq Vnot (KS ?_))))))
   refine Kc ?_ ?_
   ·intro h28
    have h30 := not_true h28
    refine JJ_peek_GSet i_10.toNat 4 rfl rng fun a32 k33 hb34 => ?_
    unfold i64ok at hb34
    refine Fb 8 1 fun _ => ?_
    refine JK_drawK [0, 0, 2, 0, 14, 30, 0, 64, 0, 448, 960, 1984, 4094, 8190, 16383, 32767] fmix ?_
    refine Dv [] Vm (Dv [3] (Vfa fo59_1 0) (Dv [3] (VldF sh22 0) (Dv [] Vm (Dv [4] (Vi sl22 0) ?_))))
    have hb36 := ok1 (i := i_10.toNat) ho19 rng
    refine Dv [4] (VldI sh3 0) (Dv [3] (Vfa fo59_5 0) (Dv [3] (VldF sh25 0) (Dv [] Vm (Dv [6] (Vi sl25 0) (Dv [0] (VldA sh42 0) ?_)))))
    refine letv (solver_clone (st.Values.getD i_10.toNat default)) fun rv38 hg39 => Dx [1] [] [2, 0, 1] (fun G => .agg #[vi rv38.Width, (G.g 11 0)]) [fun G => SP.fact (i64ok rv38.Width), fun G => os (G.g 11 0) rv38.Words] (fun G => xC [0] ca106 (fn106 ((st.Values.getD i_10.toNat default)) a32 k33 pre rv38 hg39)) ?_
    refine Dx [9] [] [0] (fun G => .agg #[vi (st.Cone.getD i_10.toNat 0), vi rv38.Width, (G.g 11 0)]) [] (fun G => xV (v := .agg #[vi (st.Cone.getD i_10.toNat 0), vi rv38.Width, (G.g 11 0)]) (Vo 0 rfl (isO_os _ _) fun aq40 kq41 eq42 => (by rw [eq42]; exact Vbd st67 [vi (st.Cone.getD i_10.toNat 0), vi rv38.Width, .slice aq40 ((rv38.Words : List (BitVec 64)).length) kq41]))) (Dx [] [] [0] (fun G => (G.g 13 0)) [fun G => Cr (G.g 13 0) 1 [vi (st.Cone.getD i_10.toNat 0), vi rv38.Width, (G.g 11 0)]] (fun G => xA (AsV sl53 sz53 [.agg #[vi (st.Cone.getD i_10.toNat 0), vi rv38.Width, (G.g 11 0)]] [vi (st.Cone.getD i_10.toNat 0), vi rv38.Width, (G.g 11 0)])) ?_)
    have hn45 := la out_9 ([(GKnown.mk (st.Cone.getD i_10.toNat 0) rv38)] : List GKnown)
    refine Dx [2, 8, 9, 10] [2, 9, 10] [3, 1, 0] (fun G => (G.g 14 0)) [fun G => sl (G.g 11 0) rv38.Words, fun G => os (G.g 14 0) ((out_9 ++ [(GKnown.mk (st.Cone.getD i_10.toNat 0) rv38)]) : List GKnown)] (fun G => by refine xf 1 rfl ?_; rintro he46; unfold i64ok at he46; exact xp [2] rfl (Ent.freeze _ _) (xp [3, 0] rfl (Ent.cr1 (α := GKnown) (A := [sl (G.g 11 0) rv38.Words]) _ (GKnown.mk (st.Cone.getD i_10.toNat 0) rv38) _ (Nat.le_of_ble_eq_true rfl) (fun h => ⟨_, rfl, (by unfold i64ok; first | omega | (dsimp only; omega)), (by unfold i64ok; first | omega | (dsimp only; omega)), sepAll_get (i := 0) rfl h⟩)) (xA (ApO [3, 0] sl53 sl53 sz53)))) (Dg [] (fun G => (G.g 14 0)) (fun G => Va) ?_)
    refine Dn ⟨by kernel_rfl, fun G => ?_⟩
    refine Jw2 [(1, p7), (4, vi i_10), (3, (G.g 14 0))] [0, 1, 3, 4, 5, 6, 7] [SP.fact (i64ok rv38.Width), sl (G.g 11 0) rv38.Words, os (G.g 14 0) ((out_9 ++ [(GKnown.mk (st.Cone.getD i_10.toNat 0) rv38)]) : List GKnown)] ?_
    generalize G.g 11 0 = c37, G.g 14 0 = c44
    refine Jf 7 rfl ?_; rintro he47
    unfold i64ok at he47
    refine Jk [0, 1, 2, 3, 4, 5, 6, 8, 9] ?_
    refine Jo 7 ?_; rintro a48 k49 rfl
    refine Fb 8 7 fun _ => ?_
    refine Jo 8 ?_; rintro a51 k52 rfl
    refine Fb 40 8 fun _ => KS ?_
    refine Oq Vm (Oq Vadd (Oq Va (KS ?_)))
    exact Kg (r8, (out_9 ++ [(GKnown.mk (st.Cone.getD i_10.toNat 0) rv38)]), (i_10 + 1), a51, k52) [8, 2, 3, 4, 5, 6] ⟨(q3 hM13 (by simp only [solver_Final_L0, h24, h26, h28, h30, hg39, cs4])), (by omega), iv1⟩
   intro h28
   have h55 := not_false h28
   refine KS ?_
   refine Oq Vm (Oq Vadd (Oq Va (KS ?_)))
   exact Kg (r8, out_9, (i_10 + 1), a11, k12) [0, 0, 1, 2, 3, 4] ⟨(q3 hM13 (by simp only [solver_Final_L0, h24, h26, h28, h55, cs4])), (by omega), iv1⟩
  intro h26
  have g57 := df h26
  refine Ke ?_
  have hR58 := q2 hM13 (.brk out_9) (by simp only [solver_Final_L0, h24, h26, cs4])
  refine KS ?_
  refine Oq Vm ?_
  refine JJ_ent (Ent.pall [] rfl rfl) ?_
  refine letv (slices_SortStableFunc_Known out_9 (fun x0 x1 => solver_Final_1 x0 x1)) fun rv59 hg60 => ?_
  have hc61 := fn146 out_9 a11 k12 147 [] (fun x0 x1 => solver_Final_1 x0 x1) [] ca147 (fun x0 x1 a0 k0 a2 k2 hq0 hq1 hq2 hq3 => FT_pall (A1 := _) (fn147 x0 a0 k0 x1 a2 k2  hq0 hq1 hq2 hq3 _ rfl)) pre rv59 hg60
  refine Oc [1, 0] ca146 hc61 ?_
  rintro - -
  refine KS ?_
  refine Oq Vm (Oq Va (KS ?_))
  refine Jl [0] (Ent.freeze _ _) ?_
  have hq := q4 hrr rv59 (by simp only [solver_Final, h24, h26, hR58, hg60, cs4]); subst hq
  exact Kr (vl a11 k12 out_9) rfl (.tmp rfl .nil) [0] trivial
 intro h24
 have g62 := ne_of_beq_false h24
 refine Osk (Osk (Osk (Osk (Osk (Osk (Osk (Osk (Osk (Osk ?_)))))))))
 refine Osk (Osk (Oq Vpf (KS ?_)))
 refine Kf ?_
 refine Ke ?_
 have hR63 := q2 hM13 (.brk out_9) (by simp only [solver_Final_L0, h24, cs4])
 refine KS ?_
 refine Oq Vm ?_
 refine JJ_ent (Ent.pall [] rfl rfl) ?_
 refine letv (slices_SortStableFunc_Known out_9 (fun x0 x1 => solver_Final_1 x0 x1)) fun rv64 hg65 => ?_
 have hc66 := fn146 out_9 a11 k12 147 [] (fun x0 x1 => solver_Final_1 x0 x1) [] ca147 (fun x0 x1 a0 k0 a2 k2 hq0 hq1 hq2 hq3 => FT_pall (A1 := _) (fn147 x0 a0 k0 x1 a2 k2  hq0 hq1 hq2 hq3 _ rfl)) pre rv64 hg65
 refine Oc [1, 0] ca146 hc66 ?_
 rintro - -
 refine KS ?_
 refine Oq Vm (Oq Va (KS ?_))
 refine Jl [0] (Ent.freeze _ _) ?_
 have hq := q4 hrr rv64 (by simp only [solver_Final, h24, hR63, hg65, cs4]); subst hq
 exact Kr (vl a11 k12 out_9) rfl (.tmp rfl .nil) [0] trivial
theorem fn252 (x : Int) (y : Int) (hx_0 : i64ok x) (hy_0 : i64ok y) (rr : Bool) (hrr : cmp_Less_int x y = rr) : FT Tryz.prog 252 #[vi x, vi y] [] (fun g : Unit => True) (fun g => vb rr) (fun g => []) := by
 refine FTi Tryz.func252 fun w0 M0 F0 => ?_
 unfold i64ok at hx_0 hy_0
 refine KS ?_
 refine Oq Va (KS ?_)
 refine Oq Vm ?_
 refine letv (cmp_isNaN_int x) fun rv1 hg2 => ?_
 have hc3 := fn208 x pre rv1 hg2
 refine Oc [] ca208 hc3 ?_
 rintro - -
 refine Oq Vm ?_
 refine Js 7 ?_ ?_
 ·intro h4
  refine Oq Vm ?_
  refine letv (cmp_isNaN_int y) fun rv6 hg7 => ?_
  have hc8 := fn208 y pre rv6 hg7
  refine Oc [] ca208 hc8 ?_
  rintro - -
  refine Oq Vnot (Oq Vpt (Oq Vm ?_))
  refine Js 12 ?_ ?_
  ·intro h9
   have h11 := not_true h9
   refine Osk (Osk (Osk (Oq Vpt (Oq Va (KS ?_)))))
   have hq := q4 hrr true (by simp only [cmp_Less_int, h4, h9, h11, hg2, hg7, cs4]); subst hq
   exact Kr () rfl (.tmp rfl .nil) [] trivial
  intro h9
  have h14 := not_false h9
  refine Oq Vm (Oq Vm (Oq Vlss (Oq Vpf (Oq Va (KS ?_)))))
  have hq := q4 hrr (decide (x < y)) (by simp only [cmp_Less_int, h4, h9, h14, hg2, hg7, cs4]); subst hq
  exact Kr () rfl (.tmp rfl .nil) [] trivial
 intro h4
 refine Osk (Osk (Osk (Oq Vpf (Oq Vm (Oq Vm (Oq Vm (Oq Vlss (Oq Vpf (Oq Va ?_)))))))))
 refine KS ?_
 have hq := q4 hrr (decide (x < y)) (by simp only [cmp_Less_int, h4, hg2, cs4]); subst hq
 exact Kr () rfl (.tmp rfl .nil) [] trivial
theorem fn246 (data : List Int) (dataa0 : Option Addr) (datak0 : Nat) (a : Int) (b : Int) (ha_0 : i64ok a) (hb_0 : i64ok b) (ha0 : 0 ≤ a ∧ a ≤ b ∧ b ≤ (data.length : Int)) (rr : List Int) (hrr : slices_insertionSortOrdered_int data a b = rr) : FT Tryz.prog 246 #[vl dataa0 datak0 data, vi a, vi b] [O dataa0 datak0 data] (fun g : Unit => True) (fun g => .tuple #[]) (fun g => [os (vl dataa0 datak0 data) rr]) := by
 refine FTi Tryz.func246 fun w0 M0 F0 => ?_
 unfold i64ok at ha_0 hb_0
 refine Fb 8 0 fun _ => Fo 0 fun ho2 => KS ?_
 refine Oq Vm (Oq Vadd (Oq Va (KS ?_)))
 refine Kl (γ := Nat × List Int × Int) (fun (r3, data_4, i_5) => ⟨[(0, vl dataa0 datak0 data), (1, vi a), (2, vi b), (6, vi i_5)], [os (vl dataa0 datak0 data) data_4], slices_insertionSortOrdered_int_L0 a r3 data_4 i_5 = slices_insertionSortOrdered_int_L0 a (((b : Int) - (a + 1)).toNat) data (a + 1) ∧ r3 = ((b : Int) - i_5).toNat ∧ ((a + 1) : Int) ≤ i_5 ∧ (i_5 ≤ b ∨ i_5 = (a + 1)) ∧ (-9223372036854775808 ≤ i_5 ∧ i_5 ≤ 9223372036854775807), r3⟩) (((b : Int) - (a + 1)).toNat, data, (a + 1)) [0] ⟨rfl, rfl, (by omega), (.inr rfl), (by omega)⟩ ?_
 rintro ⟨r3, data_4, i_5⟩ ⟨hM6, hr7, hi8, hi9, hk10⟩
 refine JJ_nx fun _ _ hL hA => ?_; dsimp only at hL hA; subst hL hA
 refine Fb 8 0 fun _ => Fo 0 fun ho12 => Fl 0 fun hn13 => ?_
 refine KS ?_
 refine Oq Vm (Oq Vm (Oq Vlss (KS ?_)))
 refine Kc ?_ ?_
 ·intro h14
  have g15 := dt h14
  obtain ⟨r16, rfl⟩ := scc (n := r3) (by omega)
  refine KS ?_
  refine Oq Vm (Oq Va (KS ?_))
  refine Kl (γ := Nat × List Int × Int) (fun (r17, data_18, j_19) => ⟨[(0, vl dataa0 datak0 data), (1, vi a), (2, vi b), (6, vi i_5), (7, vi j_19)], [os (vl dataa0 datak0 data) data_18], slices_insertionSortOrdered_int_L1 r17 data_18 j_19 = slices_insertionSortOrdered_int_L1 (((i_5 : Int) - a).toNat) data_4 i_5 ∧ r17 = ((j_19 : Int) - a).toNat ∧ j_19 ≤ (i_5 : Int) ∧ (-9223372036854775808 ≤ j_19 ∧ j_19 ≤ 9223372036854775807), r17⟩) (((i_5 : Int) - a).toNat, data_4, i_5) [0] ⟨rfl, rfl, (by omega), (by omega)⟩ ?_
  rintro ⟨r17, data_18, j_19⟩ ⟨hM20, hr21, hi22, hk23⟩
  refine JJ_nx fun _ _ hL hA => ?_; dsimp only at hL hA; subst hL hA
  refine Fb 8 0 fun _ => Fo 0 fun ho25 => Fl 0 fun hn26 => ?_
  refine KS ?_
  refine JK_drawK [0, 0, 3, 7, 15, 15, 63, 127, 15, 15, 527, 1807, 3855, 8191, 16383] fmix ?_
  refine Dv [] Vm (Dv [] Vm (Dv [] Vgtr ?_))
  refine bool_split (decide (a < j_19)) ?_ ?_
  ·intro h27
   have g28 := dt h27
   obtain ⟨r29, rfl⟩ := scc (n := r17) (by omega)
   refine Db h27 [] Vm (Dv [] Vm (Dv [] Vm (Dv [0] (Vi sl22 0) ?_)))
   have hb30 := ok1 (i := j_19.toNat) ho25 rng
   refine Dv [0] (VldI sh3 0) (Dv [] Vm (Dv [] Vm (Dv [] Vsub (Dv [0] (Vi sl22 0) ?_))))
   have hb31 := ok1 (i := ((j_19 - 1) : Int).toNat) ho25 rng
   refine Dv [0] (VldI sh3 0) ?_
   refine letv (cmp_Less_int (data_18.getD j_19.toNat 0) (data_18.getD ((j_19 - 1) : Int).toNat 0)) fun rv32 hg33 => ?_
   refine Dx [] [] [0] (fun G => vb rv32) [fun G => SP.fact (True)] (fun G => xC [] ca252 (fn252 ((data_18.getD j_19.toNat 0)) ((data_18.getD ((j_19 - 1) : Int).toNat 0)) pre pre rv32 hg33)) (Dv [] Vpt ?_)
   refine Dn ⟨by kernel_rfl, fun G => ?_⟩
   refine Jw2 [(0, vl dataa0 datak0 data), (1, vi a), (2, vi b), (6, vi i_5), (7, vi j_19), (30, vb rv32)] [0] [SP.fact (True)] ?_
   refine Jk [0] ?_
   refine Kc ?_ ?_
   ·intro h34
    refine KS ?_
    refine JK_drawK [0, 0, 0, 0, 8, 0, 0, 64, 224, 480, 0, 0, 3072, 7168, 16355, 32739, 65535, 131071] fmix ?_
    refine Dv [] Vm (Dv [] Vm (Dv [] Vm (Dv [] Vm (Dv [] Vsub (Dv [] Vm (Dv [] Vm (Dv [] Vsub (Dv [0] (Vi sl22 0) ?_))))))))
    have hb36 := ok1 (i := ((j_19 - 1) : Int).toNat) ho25 rng
    refine Dv [0] (VldI sh3 0) (Dv [] Vm (Dv [] Vm (Dv [0] (Vi sl22 0) ?_)))
    have hb37 := ok1 (i := j_19.toNat) ho25 rng
    refine Dv [0] (VldI sh3 0) (Dv [0] (Vi sl22 0) (Dx0 [0] [0] [0] [fun G => os (vl dataa0 datak0 data) (data_18.set j_19.toNat (data_18.getD ((j_19 - 1) : Int).toNat 0))] (fun G => xS (SoI [0] sh3)) (Dv [1] (Vi sl22 0) (Dx0 [1] [1] [0] [fun G => os (vl dataa0 datak0 data) ((data_18.set j_19.toNat (data_18.getD ((j_19 - 1) : Int).toNat 0)).set ((j_19 - 1) : Int).toNat (data_18.getD j_19.toNat 0))] (fun G => xS (SoI [0] sh3)) ?_))))
    refine Dn ⟨by kernel_rfl, fun G => ?_⟩
    refine Jw2 [(0, vl dataa0 datak0 data), (1, vi a), (2, vi b), (6, vi i_5), (7, vi j_19)] [] [os (vl dataa0 datak0 data) ((data_18.set j_19.toNat (data_18.getD ((j_19 - 1) : Int).toNat 0)).set ((j_19 - 1) : Int).toNat (data_18.getD j_19.toNat 0))] ?_
    refine KS ?_
    refine Oq Vm (Oq Vsub (Oq Va (KS ?_)))
    exact Kg (r29, ((data_18.set j_19.toNat (data_18.getD ((j_19 - 1) : Int).toNat 0)).set ((j_19 - 1) : Int).toNat (data_18.getD j_19.toNat 0)), (j_19 - 1)) [0] ⟨(q3 hM20 (by simp only [slices_insertionSortOrdered_int_L1, h14, h27, h34, hg33, cs4])), (by omega), (by omega), (by omega)⟩
   intro h34
   refine Ke ?_
   have hR39 := q2 hM20 data_18 (by simp only [slices_insertionSortOrdered_int_L1, h14, h27, h34, hg33, cs4])
   refine KS ?_
   refine Oq Vm (Oq Vadd (Oq Va (KS ?_)))
   exact Kg (r16, data_18, (i_5 + 1)) [0] ⟨(q3 hM6 (by simp only [slices_insertionSortOrdered_int_L0, h14, h27, h34, hg33, hR39, cs4])), (by omega), (by omega), (by omega), (by omega)⟩
  intro h27
  have g40 := df h27
  obtain rfl : r17 = 0 := by omega
  refine Db h27 [] Vm (Ds (Ds (Ds (Ds (Ds (Ds (Ds (Ds (Ds ?_)))))))))
  refine Ds (Dv [] Vpf ?_)
  refine Dn ⟨by kernel_rfl, fun G => ?_⟩
  refine Jw2 [(0, vl dataa0 datak0 data), (1, vi a), (2, vi b), (6, vi i_5), (7, vi j_19), (30, vb false)] [0] [] ?_
  refine Kf ?_
  refine Ke ?_
  have hR41 := q2 hM20 data_18 (by simp only [slices_insertionSortOrdered_int_L1, h14, h27, cs4])
  refine KS ?_
  refine Oq Vm (Oq Vadd (Oq Va (KS ?_)))
  exact Kg (r16, data_18, (i_5 + 1)) [0] ⟨(q3 hM6 (by simp only [slices_insertionSortOrdered_int_L0, h14, h27, hR41, cs4])), (by omega), (by omega), (by omega), (by omega)⟩
 intro h14
 have g42 := df h14
 obtain rfl : r3 = 0 := by omega
 refine Ke ?_
 have hR43 := q2 hM6 data_4 (by simp only [slices_insertionSortOrdered_int_L0, h14, cs4])
 have hq := q4 hrr data_4 (by simp only [slices_insertionSortOrdered_int, h14, hR43, cs4]); subst hq
 exact Kz () rfl .nil [0] trivial
theorem fn203 (data : List Int) (dataa0 : Option Addr) (datak0 : Nat) (a : Int) (b : Int) (limit : Int) (ha_0 : i64ok a) (hb_0 : i64ok b) (hlimit_0 : i64ok limit) (ha0 : 0 ≤ a ∧ a ≤ b ∧ b ≤ (data.length : Int) ∧ b - a ≤ 12) (rr : List Int) (hrr : slices_pdqsortOrdered_int data a b limit = rr) : FT Tryz.prog 203 #[vl dataa0 datak0 data, vi a, vi b, vi limit] [O dataa0 datak0 data] (fun g : Unit => True) (fun g => .tuple #[]) (fun g => [os (vl dataa0 datak0 data) rr]) := by
 refine FTi Tryz.func203 fun w0 M0 F0 => ?_
 unfold i64ok at ha_0 hb_0 hlimit_0
 refine Fb 8 0 fun _ => Fo 0 fun ho2 => KS ?_
 refine Oq Va (KS ?_)
 refine Oq Va (KS ?_)
 have hterm5 : slices_pdqsortOrdered_int_L0 data a b 1 ≠ LR.oof := (by unfold slices_pdqsortOrdered_int_L0; intro h; simp only [Bool.cond_eq_ite] at h; (repeat' split at h) <;> cases h)
 refine Kl (γ := Nat) (fun r3 => ⟨[(0, vl dataa0 datak0 data), (1, vi a), (2, vi b), (3, vi limit), (8, vb true), (9, vb true)], [O dataa0 datak0 data], slices_pdqsortOrdered_int_L0 data a b r3 = slices_pdqsortOrdered_int_L0 data a b 1, r3⟩) 1 [0] rfl ?_
 rintro r3 hM4
 refine JJ_nx fun _ _ hL hA => ?_; dsimp only at hL hA; subst hL hA
 refine Fb 8 0 fun _ => Fo 0 fun ho7 => ?_
 rcases r3 with _ | r3
 ·exact absurd (hM4.symm.trans rfl) hterm5
 refine KS ?_
 refine Oq Vm (Oq Vm (Oq Vsub (Oq Va (KS ?_))))
 refine Oq Vm (Oq Vleq (KS ?_))
 refine Kc ?_ ?_
 ·intro h8
  have g9 := dt h8
  refine KS ?_
  refine Oq Vm (Oq Vm (Oq Vm ?_))
  refine letv (slices_insertionSortOrdered_int data a b) fun rv10 hg11 => ?_
  have hc12 := fn246 data dataa0 datak0 a b pre pre pre rv10 hg11
  refine Oc [0] ca246 hc12 ?_
  rintro - -
  refine KS ?_
  have hR13 := q2 hM4 (.ret rv10) (by simp only [slices_pdqsortOrdered_int_L0, h8, hg11, cs4])
  have hq := q4 hrr rv10 (by simp only [slices_pdqsortOrdered_int, h8, hg11, hR13, cs4]); subst hq
  exact Kr () rfl .nil [0] trivial
 intro h8
 have g14 := df h8
 exfalso; omega
theorem fn256 (x : BitVec 64) (hx0 : x.toNat ≤ 255) (rr : Int) (hrr : bits_Len64 x = rr) : FT Tryz.prog 256 #[u64 x] [] (fun g : Unit => i64ok rr) (fun g => vi rr) (fun g => []) := by
 refine FTi Tryz.func256 fun w0 M0 F0 => ?_
 refine KS ?_
 refine Oq Va (KS ?_)
 refine Oq Vm (Oq (Vgeq (a := (x.toNat : Int)) (b := 4294967296)) (KS ?_))
 refine Kc ?_ ?_
 ·intro h1
  have g2 := dt h1
  exfalso; omega
 intro h1
 have g3 := df h1
 refine KS ?_
 refine Oq Vm (Oq (Vgeq (a := (x.toNat : Int)) (b := 65536)) (KS ?_))
 refine Kc ?_ ?_
 ·intro h4
  have g5 := dt h4
  exfalso; omega
 intro h4
 have g6 := df h4
 refine KS ?_
 refine Oq Vm (Oq (Vgeq (a := (x.toNat : Int)) (b := 256)) (KS ?_))
 refine Kc ?_ ?_
 ·intro h7
  have g8 := dt h7
  exfalso; omega
 intro h7
 have g9 := df h7
 refine KS ?_
 refine Oq Vm (Oq Vm (Oq (VcU8 un122 un5) ?_))
 refine Oq (Vix un9 (l := tab0) (h := ⟨by omega, by rw [show tab0.length = 256 from rfl]; omega⟩)) ?_
 have hb10 := u8b (tab0.getD ((x.toNat : Int) : Int).toNat 0)
 refine Oq (VcK un5 un3) (Oq Vadd (Oq Va (KS ?_)))
 have hq := q4 hrr (0 + ((tab0.getD ((x.toNat : Int) : Int).toNat 0).toNat : Int)) (by simp only [bits_Len64, h1, h4, h7, cs4]); subst hq
 exact Kr () rfl (.tmp rfl .nil) [] en
theorem fn204 (x : BitVec 64) (hx0 : x.toNat ≤ 255) (rr : Int) (hrr : bits_Len x = rr) : FT Tryz.prog 204 #[u64 x] [] (fun g : Unit => i64ok rr) (fun g => vi rr) (fun g => []) := by
 refine FTi Tryz.func204 fun w0 M0 F0 => ?_
 refine KS ?_
 refine Oq Va (KS ?_)
 refine Kf (KS ?_)
 refine Oq Vm ?_
 refine letv (bits_Len64 x) fun rv1 hg2 => ?_
 have hc3 := fn256 x pre rv1 hg2
 refine Oc [] ca256 hc3 ?_
 rintro - he4
 unfold i64ok at he4
 refine Oq Va (KS ?_)
 have hq := q4 hrr rv1 (by simp only [bits_Len, hg2, cs4]); subst hq
 exact Kr () rfl (.tmp rfl .nil) [] en
theorem fn130 (x : List Int) (xa0 : Option Addr) (xk0 : Nat) (ha0 : x.length ≤ 12) (rr : List Int) (hrr : slices_Sort_int x = rr) : FT Tryz.prog 130 #[vl xa0 xk0 x] [O xa0 xk0 x] (fun g : Unit => True) (fun g => .tuple #[]) (fun g => [os (vl xa0 xk0 x) rr]) := by
 refine FTi Tryz.func130 fun w0 M0 F0 => Fb 8 0 fun _ => Fo 0 fun ho2 => ?_
 refine KS ?_
 refine Oq Vm (Oq (Vlen sl22) (Oq Va (KS ?_)))
 refine Oq Vm (Oq Vm (Oq Vm (Oq (VcU un3 un123) ?_)))
 refine letv (bits_Len (BitVec.ofInt 64 (x.length : Int))) fun rv3 hg4 => ?_
 have hc5 := fn204 ((BitVec.ofInt 64 (x.length : Int))) (ofInt_le (by omega)) rv3 hg4
 refine Oc [] ca204 hc5 ?_
 rintro - he6
 unfold i64ok at he6
 refine letv (slices_pdqsortOrdered_int x 0 (x.length : Int) rv3) fun rv7 hg8 => ?_
 have hc9 := fn203 x xa0 xk0 0 ((x.length : Int)) rv3 pre pre pre pre rv7 hg8
 refine Oc [0] ca203 hc9 ?_
 rintro - -
 refine KS ?_
 have hq := q4 hrr rv7 (by simp only [slices_Sort_int, hg4, hg8, cs4]); subst hq
 exact Kz () rfl .nil [0] trivial
theorem fn64 (st : GState) (sta1 : Option Addr) (stk1 : Nat) (sta2 : Option Addr) (stk2 : Nat) (sta5 : Option Addr) (stk5 : Nat) (sta6 : Option Addr) (stk6 : Nat) (hst_0 : i64ok st.Phase) (hst_3 : i64ok st.At) (hst_4 : i64ok st.Edge) (hst_7 : i64ok st.Steps) (hc12 : st.Cone.length ≤ 12) (rr : List Int) (hrr : solver_Used st = rr) : FT Tryz.prog 64 #[.agg #[vi st.Phase, vl sta1 stk1 st.Cone, vl sta2 stk2 st.Leaf, vi st.At, vi st.Edge, vl sta5 stk5 st.Values, vl sta6 stk6 st.Queue, vi st.Steps]] [S sta1 stk1 st.Cone, S sta2 stk2 st.Leaf, S sta5 stk5 st.Values, S sta6 stk6 st.Queue] (fun g : Value => True) (fun g => g) (fun g => [sl g rr]) := by
 refine FTi Tryz.func64 fun w0 M0 F0 => ?_
 unfold i64ok at hst_0 hst_3 hst_4 hst_7
 refine Fb 8 0 fun _ => Fo 0 fun ho2 => Fb 1 1 fun _ => Fb 32 2 fun _ => Fb 8 3 fun _ => Fo 3 fun ho6 => KS ?_
 refine Oa (Ab [vi st.Phase, vl sta1 stk1 st.Cone, vl sta2 stk2 st.Leaf, vi st.At, vi st.Edge, vl sta5 stk5 st.Values, vl sta6 stk6 st.Queue, vi st.Steps]) fun p7 => Oq Va (KS ?_)
 refine Oq Va (KS ?_)
 refine Oq Va (KS ?_)
 refine Jl [] (Ent.osNil (α := Int)) ?_
 have hterm16 : solver_Used_L0 st (st.Cone.length + 1) [] 0 ≠ LR.oof := (pUsed_term _ _ _ _ (by omega))
 refine Kl (γ := Nat × List Int × Int × Option Addr × Nat) (fun (r8, out_9, i_10, a11, k12) => ⟨[(1, p7), (3, vl a11 k12 out_9), (4, vi i_10)], [O a11 k12 out_9, pv p7 [vi st.Phase, vl sta1 stk1 st.Cone, vl sta2 stk2 st.Leaf, vi st.At, vi st.Edge, vl sta5 stk5 st.Values, vl sta6 stk6 st.Queue, vi st.Steps], S sta1 stk1 st.Cone, S sta2 stk2 st.Leaf, S sta5 stk5 st.Values, S sta6 stk6 st.Queue], solver_Used_L0 st r8 out_9 i_10 = solver_Used_L0 st (st.Cone.length + 1) [] 0 ∧ (-9223372036854775808 ≤ i_10 ∧ i_10 ≤ 9223372036854775807) ∧ (i_10 ≤ (st.Cone.length : Int) ∧ (out_9.length : Int) ≤ i_10 ∧ 0 ≤ i_10), r8⟩) ((st.Cone.length + 1), [], 0, none, 0) [0, 0, 1, 2, 3, 4] ⟨rfl, (by omega), iv0⟩ ?_
 rintro ⟨r8, out_9, i_10, a11, k12⟩ ⟨hM13, hk14, hv15⟩
 refine JJ_nx fun _ _ hL hA => ?_; dsimp only at hL hA; subst hL hA
 refine Fb 8 0 fun _ => Fo 0 fun ho18 => Fb 8 2 fun _ => Fo 2 fun ho20 => Fb 1 3 fun _ => Fb 32 4 fun _ => Fb 8 5 fun _ => Fo 5 fun ho24 => ?_
 rcases r8 with _ | r8
 ·exact absurd (hM13.symm.trans rfl) hterm16
 refine KS ?_
 refine Oq (Vfa fo59_0 1) (Oq (VldF sh3 1) (Oq Veql (Oq Vm ?_)))
 refine Js 8 ?_ ?_
 ·intro h25
  have g26 := eq_of_beq h25
  refine Oq Vm (Oq (Vfa fo59_1 1) (Oq (VldF sh22 1) (Oq (Vlen sl22) (Oq (Vfa fo59_2 1) (Oq (VldF sh57 1) (Oq (Vlen sl57) (Oq Vmin (Oq Vlss (Oq Vpt ?_)))))))))
  refine KS ?_
  refine Kc ?_ ?_
  ·intro h27
   have g28 := dt h27
   refine KS ?_
   refine Oq (Vfa fo59_2 1) (Oq (VldF sh57 1) (Oq Vm (Oq (Vi sl57 3) (Oq (VldB sh4 3) (KS ?_)))))
   refine Kc ?_ ?_
   ·intro h29
    refine KS ?_
    refine Oq Vm (Oq (Vfa fo59_1 1) (Oq (VldF sh22 1) (Oq Vm (Oq (Vi sl22 2) ?_))))
    have hb31 := ok1 (i := i_10.toNat) ho20 rng
    refine Oq (VldI sh3 2) (Oa (AsV sl22 sz22 [vi (st.Cone.getD i_10.toNat 0)] [vi (st.Cone.getD i_10.toNat 0)]) fun c32 => ?_)
    refine Jo 0 ?_; rintro a33 k34 rfl
    refine Jl [0] (Ent.crInt _ [(st.Cone.getD i_10.toNat 0)] _ _ rfl rfl (by intro x hx; rw [List.mem_singleton] at hx; subst hx; unfold i64ok; omega) (Nat.le_of_ble_eq_true rfl)) ?_
    refine Oa (ApO [1, 0] sl22 sl22 sz22) fun c35 => ?_
    refine Jo 0 ?_; rintro a36 k37 rfl
    refine Fb 8 0 fun _ => Fo 0 fun ho39 => ?_
    have hn40 := la out_9 ([(st.Cone.getD i_10.toNat 0)] : List Int)
    refine Oq Va (KS ?_)
    refine Oq Vm (Oq Vadd (Oq Va (KS ?_)))
    exact Kg (r8, (out_9 ++ [(st.Cone.getD i_10.toNat 0)]), (i_10 + 1), a36, k37) [0, 0, 1, 2, 3, 4] ⟨(q3 hM13 (by simp only [solver_Used_L0, h25, h27, h29, cs4])), (by omega), iv1⟩
   intro h29
   refine KS ?_
   refine Oq Vm (Oq Vadd (Oq Va (KS ?_)))
   exact Kg (r8, out_9, (i_10 + 1), a11, k12) [0, 0, 1, 2, 3, 4] ⟨(q3 hM13 (by simp only [solver_Used_L0, h25, h27, h29, cs4])), (by omega), iv1⟩
  intro h27
  have g42 := df h27
  refine Ke ?_
  have hR43 := q2 hM13 (.brk out_9) (by simp only [solver_Used_L0, h25, h27, cs4])
  refine KS ?_
  refine Oq Vm ?_
  refine letv (slices_Sort_int out_9) fun rv44 hg45 => ?_
  have hc46 := fn130 out_9 a11 k12 pre rv44 hg45
  refine Oc [0] ca130 hc46 ?_
  rintro - -
  refine KS ?_
  refine Oq Vm (Oq Va (KS ?_))
  refine Jl [0] (Ent.freeze _ _) ?_
  have hq := q4 hrr rv44 (by simp only [solver_Used, h25, h27, hR43, hg45, cs4]); subst hq
  exact Kr (vl a11 k12 out_9) rfl (.tmp rfl .nil) [0] trivial
 intro h25
 have g47 := ne_of_beq_false h25
 refine Osk (Osk (Osk (Osk (Osk (Osk (Osk (Osk (Osk (Oq Vpf ?_)))))))))
 refine KS ?_
 refine Kf ?_
 refine Ke ?_
 have hR48 := q2 hM13 (.brk out_9) (by simp only [solver_Used_L0, h25, cs4])
 refine KS ?_
 refine Oq Vm ?_
 refine letv (slices_Sort_int out_9) fun rv49 hg50 => ?_
 have hc51 := fn130 out_9 a11 k12 pre rv49 hg50
 refine Oc [0] ca130 hc51 ?_
 rintro - -
 refine KS ?_
 refine Oq Vm (Oq Va (KS ?_))
 refine Jl [0] (Ent.freeze _ _) ?_
 have hq := q4 hrr rv49 (by simp only [solver_Used, h25, hR48, hg50, cs4]); subst hq
 exact Kr (vl a11 k12 out_9) rfl (.tmp rfl .nil) [0] trivial
theorem fn138 (st : GState) (sta1 : Option Addr) (stk1 : Nat) (sta2 : Option Addr) (stk2 : Nat) (sta5 : Option Addr) (stk5 : Nat) (sta6 : Option Addr) (stk6 : Nat) (hst_0 : i64ok st.Phase) (hst_3 : i64ok st.At) (hst_4 : i64ok st.Edge) (hst_7 : i64ok st.Steps) (rr : GSet × Bool) (hrr : flqref14_Answer st = rr) : FT Tryz.prog 138 #[.agg #[vi st.Phase, vl sta1 stk1 st.Cone, vl sta2 stk2 st.Leaf, vi st.At, vi st.Edge, vl sta5 stk5 st.Values, vl sta6 stk6 st.Queue, vi st.Steps]] [S sta1 stk1 st.Cone, S sta2 stk2 st.Leaf, S sta5 stk5 st.Values, S sta6 stk6 st.Queue] (fun g : Value => i64ok rr.1.Width) (fun g => .tuple #[.agg #[vi rr.1.Width, g], vb rr.2]) (fun g => [sl g rr.1.Words]) := by
 refine FTi Tryz.func138 fun w0 M0 F0 => ?_
 unfold i64ok at hst_0 hst_3 hst_4 hst_7
 refine Fb 8 0 fun _ => Fo 0 fun ho2 => Fb 1 1 fun _ => Fb 32 2 fun _ => Fb 8 3 fun _ => Fo 3 fun ho6 => KS ?_
 refine Oa (Ab [vi st.Phase, vl sta1 stk1 st.Cone, vl sta2 stk2 st.Leaf, vi st.At, vi st.Edge, vl sta5 stk5 st.Values, vl sta6 stk6 st.Queue, vi st.Steps]) fun p7 => Oa (Al ze42 [vi 0, .slice none 0 0]) fun p8 => Oq Va (KS ?_)
 refine Oq (Vfa fo59_0 1) (Oq (VldF sh3 1) (Oq Vneq (Oq Vm ?_)))
 refine Js 7 ?_ ?_
 ·intro h9
  have g10 := ne_of_bne h9
  refine Osk (Osk (Osk (Osk (Oq Vpt (KS ?_)))))
  refine Kt (KS ?_)
  refine Oq (Vbd st42 [vi 0, .slice none 0 0]) (Ost (Scl [0] sh42 [vi 0, .slice none 0 0]) (Oq Va (KS ?_)))
  refine Jl [] (Ent.slNil (α := BitVec 64)) ?_
  have hq := q4 hrr ((GSet.mk 0 []), false) (by simp only [flqref14_Answer, h9, cs4]); subst hq
  exact Kr (.slice none 0 0) rfl (.cellN 1 rfl sh42 rfl (reads_Cl _ _) rfl (.tmp rfl .nil)) [0] en
 intro h9
 have g11 := eq_of_bne_false h9
 refine Oq (Vfa fo59_5 1) (Oq (VldF sh25 1) (Oq (Vlen sl25) (Oq Veql (Oq Vpf (KS ?_)))))
 refine Kc ?_ ?_
 ·intro h12
  have g13 := eq_of_beq h12
  refine KS ?_
  refine Oq (Vbd st42 [vi 0, .slice none 0 0]) (Ost (Scl [0] sh42 [vi 0, .slice none 0 0]) (Oq Va (KS ?_)))
  refine Jl [] (Ent.slNil (α := BitVec 64)) ?_
  have hq := q4 hrr ((GSet.mk 0 []), false) (by simp only [flqref14_Answer, h9, h12, cs4]); subst hq
  exact Kr (.slice none 0 0) rfl (.cellN 1 rfl sh42 rfl (reads_Cl _ _) rfl (.tmp rfl .nil)) [0] en
 intro h12
 have g14 := ne_of_beq_false h12
 refine KS ?_
 refine Oq (Vfa fo59_5 1) (Oq (VldF sh25 1) (Oq (Vi sl25 4) ?_))
 refine JJ_peek_GSet (0 : Int).toNat 4 rfl rng fun a15 k16 hb17 => ?_
 unfold i64ok at hb17
 refine Fb 8 1 fun _ => ?_
 refine Oq (VldA sh42 0) (Ost (Scl [2] sh42 [vi ((st.Values.getD (0 : Int).toNat default).Width), vl a15 k16 ((st.Values.getD (0 : Int).toNat default).Words)]) (Oq Va (KS ?_)))
 have hq := q4 hrr ((st.Values.getD (0 : Int).toNat default), true) (by simp only [flqref14_Answer, h9, h12, cs4]); subst hq
 exact Kr (vl a15 k16 ((st.Values.getD (0 : Int).toNat default).Words)) rfl (.cellN 0 rfl sh42 rfl (reads_Cl _ _) rfl (.tmp rfl .nil)) [2] en
theorem fn139 (a : List GKnown) (aa0 : Option Addr) (ak0 : Nat) (b : List GKnown) (ba0 : Option Addr) (bk0 : Nat) (rr : Bool) (hrr : flqref14_SameKnown a b = rr) : FT Tryz.prog 139 #[vl aa0 ak0 a, vl ba0 bk0 b] [S aa0 ak0 a, S ba0 bk0 b] (fun g : Unit => True) (fun g => vb rr) (fun g => []) := by
 refine FTi Tryz.func139 fun w0 M0 F0 => Fb 40 0 fun _ => Fb 40 1 fun _ => ?_
 refine KS ?_
 refine Oq Va (KS ?_)
 refine Oq Vm (Oq (Vlen sl53) (Oq Vm (Oq (Vlen sl53) (Oq Vneq (KS ?_)))))
 refine Kc ?_ ?_
 ·intro h3
  have g4 := ne_of_bne h3
  refine KS ?_
  refine Oq Va (KS ?_)
  have hq := q4 hrr false (by simp only [flqref14_SameKnown, h3, cs4]); subst hq
  exact Kr () rfl (.tmp rfl .nil) [] trivial
 intro h3
 have g5 := eq_of_bne_false h3
 refine KS ?_
 refine Oq Va (KS ?_)
 refine Kl (γ := Nat × Int) (fun (r6, i_7) => ⟨[(0, vl aa0 ak0 a), (1, vl ba0 bk0 b), (5, vi i_7)], [S aa0 ak0 a, S ba0 bk0 b], flqref14_SameKnown_L0 a b r6 i_7 = flqref14_SameKnown_L0 a b (((a.length : Int) - 0).toNat) 0 ∧ r6 = ((a.length : Int) - i_7).toNat ∧ (0 : Int) ≤ i_7 ∧ i_7 ≤ (a.length : Int) ∧ (-9223372036854775808 ≤ i_7 ∧ i_7 ≤ 9223372036854775807), r6⟩) (((a.length : Int) - 0).toNat, 0) [0, 1] ⟨rfl, rfl, (by omega), (by omega), (by omega)⟩ ?_
 rintro ⟨r6, i_7⟩ ⟨hM8, hr9, hi10, hi11, hk12⟩
 refine JJ_nx fun _ _ hL hA => ?_; dsimp only at hL hA; subst hL hA
 refine Fb 40 0 fun _ => Fb 40 1 fun _ => KS ?_
 refine Oq Vm (Oq Vm (Oq (Vlen sl53) (Oq Vlss (KS ?_))))
 refine Kc ?_ ?_
 ·intro h15
  have g16 := dt h15
  obtain ⟨r17, rfl⟩ := scc (n := r6) (by omega)
  refine KS ?_
  refine JJ_peek_GKnown i_7.toNat 0 rfl rng fun a18 k19 hb20 hb21 => ?_
  unfold i64ok at hb20 hb21
  refine Fb 8 1 fun _ => ?_
  refine JJ_peek_GKnown i_7.toNat 3 rfl rng fun a23 k24 hb25 hb26 => ?_
  unfold i64ok at hb25 hb26
  refine Fb 8 1 fun _ => ?_
  refine JK_drawK [0, 0, 3, 7, 15, 0, 0, 96, 224, 480, 1023, 2047, 4095, 4095, 16383, 32767, 65535, 4095, 4095, 397311, 921599, 1970175, 4194303, 8388607, 16777215] fmix ?_
  refine Dv [] Vm (Dv [] Vm (Dv [4] (Vi sl53 0) (Dv [2] (Vfa fo67_0 0) (Dv [2] (VldF sh3 0) (Dv [] Vm (Dv [] Vm (Dv [5] (Vi sl53 0) (Dv [0] (Vfa fo67_0 0) (Dv [0] (VldF sh3 0) ?_)))))))))
  refine Dv [] Vneq ?_
  refine bool_split ((a.getD i_7.toNat default).Node != (b.getD i_7.toNat default).Node) ?_ ?_
  ·intro h28
   have g29 := ne_of_bne h28
   refine Db h28 [] Vm (Ds (Ds (Ds (Ds (Ds (Ds (Ds (Ds (Ds ?_)))))))))
   refine Ds (Ds (Ds (Dv [] Vpt ?_)))
   refine Dn ⟨by kernel_rfl, fun G => ?_⟩
   refine Jw2 [(0, vl aa0 ak0 a), (1, vl ba0 bk0 b), (5, vi i_7), (41, vb true)] [0, 1, 2, 3, 4, 5] [] ?_
   refine Kt (KS ?_)
   refine Oq Va (KS ?_)
   have hR30 := q2 hM8 (.ret false) (by simp only [flqref14_SameKnown_L0, h3, h15, h28, cs4])
   have hq := q4 hrr false (by simp only [flqref14_SameKnown, h3, h15, h28, hR30, cs4]); subst hq
   exact Kr () rfl (.tmp rfl .nil) [] trivial
  intro h28
  have g31 := eq_of_bne_false h28
  refine Db h28 [] Vm (Dv [] Vm (Dv [] Vm (Dv [4] (Vi sl53 0) (Dv [2] (Vfa fo67_1 0) (Dv [2] (VldG sh42 0 [vi (((a.getD i_7.toNat default).Value).Width), vl a18 k19 (((a.getD i_7.toNat default).Value).Words)]) (Dv [] Vm (Dv [] Vm (Dv [5] (Vi sl53 0) (Dv [0] (Vfa fo67_1 0) ?_)))))))))
  refine Dv [0] (VldG sh42 0 [vi (((b.getD i_7.toNat default).Value).Width), vl a23 k24 (((b.getD i_7.toNat default).Value).Words)]) ?_
  refine letv (flqref1_Same ((a.getD i_7.toNat default).Value) ((b.getD i_7.toNat default).Value)) fun rv32 hg33 => ?_
  refine Dx [1, 3] [] [1, 2, 0] (fun G => vb rv32) [fun G => SP.fact (True)] (fun G => xC [1, 0] ca45 (fn45 (((a.getD i_7.toNat default).Value)) a18 k19 (((b.getD i_7.toNat default).Value)) a23 k24 pre pre rv32 hg33)) (Dv [] Vnot (Dv [] Vpf ?_))
  refine Dn ⟨by kernel_rfl, fun G => ?_⟩
  refine Jw2 [(0, vl aa0 ak0 a), (1, vl ba0 bk0 b), (5, vi i_7), (41, vb (!rv32))] [0, 1, 2, 3, 4, 5] [SP.fact (True)] ?_
  refine Jk [0, 1, 2, 3, 4, 5] ?_
  refine Kc ?_ ?_
  ·intro h34
   have h36 := not_true h34
   refine KS ?_
   refine Oq Va (KS ?_)
   have hR38 := q2 hM8 (.ret false) (by simp only [flqref14_SameKnown_L0, h3, h15, h28, h34, h36, hg33, cs4])
   have hq := q4 hrr false (by simp only [flqref14_SameKnown, h3, h15, h28, h34, h36, hg33, hR38, cs4]); subst hq
   exact Kr () rfl (.tmp rfl .nil) [] trivial
  intro h34
  have h40 := not_false h34
  refine KS ?_
  refine Oq Vm (Oq Vadd (Oq Va (KS ?_)))
  exact Kg (r17, (i_7 + 1)) [4, 5] ⟨(q3 hM8 (by simp only [flqref14_SameKnown_L0, h3, h15, h28, h34, h40, hg33, cs4])), (by omega), (by omega), (by omega), (by omega)⟩
 intro h15
 have g42 := df h15
 obtain rfl : r6 = 0 := by omega
 refine Ke ?_
 have hR43 := q2 hM8 (.brk ()) (by simp only [flqref14_SameKnown_L0, h3, h15, cs4])
 refine KS ?_
 refine Oq Va (KS ?_)
 have hq := q4 hrr true (by simp only [flqref14_SameKnown, h3, h15, hR43, cs4]); subst hq
 exact Kr () rfl (.tmp rfl .nil) [] trivial
theorem fn140 (st : GState) (sta1 : Option Addr) (stk1 : Nat) (sta2 : Option Addr) (stk2 : Nat) (sta5 : Option Addr) (stk5 : Nat) (sta6 : Option Addr) (stk6 : Nat) (hst_0 : i64ok st.Phase) (hst_3 : i64ok st.At) (hst_4 : i64ok st.Edge) (hst_7 : i64ok st.Steps) (hc12 : st.Cone.length ≤ 256) (rr : List GKnown) (hrr : flqref14_Final st = rr) : FT Tryz.prog 140 #[.agg #[vi st.Phase, vl sta1 stk1 st.Cone, vl sta2 stk2 st.Leaf, vi st.At, vi st.Edge, vl sta5 stk5 st.Values, vl sta6 stk6 st.Queue, vi st.Steps]] [S sta1 stk1 st.Cone, S sta2 stk2 st.Leaf, S sta5 stk5 st.Values, S sta6 stk6 st.Queue] (fun g : Value => True) (fun g => g) (fun g => [sl g rr]) := by
 refine FTi Tryz.func140 fun w0 M0 F0 => ?_
 unfold i64ok at hst_0 hst_3 hst_4 hst_7
 refine Fb 8 0 fun _ => Fo 0 fun ho2 => Fb 1 1 fun _ => Fb 32 2 fun _ => Fb 8 3 fun _ => Fo 3 fun ho6 => KS ?_
 refine Oa (Ab [vi st.Phase, vl sta1 stk1 st.Cone, vl sta2 stk2 st.Leaf, vi st.At, vi st.Edge, vl sta5 stk5 st.Values, vl sta6 stk6 st.Queue, vi st.Steps]) fun p7 => Oq Va (KS ?_)
 refine Oq Va (KS ?_)
 refine Oq Va (KS ?_)
 refine Jl [] (Ent.osNil (α := GKnown)) ?_
 have hterm16 : flqref14_Final_L0 st (st.Cone.length + 1) [] 0 ≠ LR.oof := (rFinal_term _ _ _ _ (by omega))
 refine Kl (γ := Nat × List GKnown × Int × Option Addr × Nat) (fun (r8, out_9, i_10, a11, k12) => ⟨[(1, p7), (3, vl a11 k12 out_9), (4, vi i_10)], [O a11 k12 out_9, pv p7 [vi st.Phase, vl sta1 stk1 st.Cone, vl sta2 stk2 st.Leaf, vi st.At, vi st.Edge, vl sta5 stk5 st.Values, vl sta6 stk6 st.Queue, vi st.Steps], S sta1 stk1 st.Cone, S sta2 stk2 st.Leaf, S sta5 stk5 st.Values, S sta6 stk6 st.Queue], flqref14_Final_L0 st r8 out_9 i_10 = flqref14_Final_L0 st (st.Cone.length + 1) [] 0 ∧ (-9223372036854775808 ≤ i_10 ∧ i_10 ≤ 9223372036854775807) ∧ (i_10 ≤ (st.Cone.length : Int) ∧ (out_9.length : Int) ≤ i_10 ∧ 0 ≤ i_10), r8⟩) ((st.Cone.length + 1), [], 0, none, 0) [0, 0, 1, 2, 3, 4] ⟨rfl, (by omega), iv0⟩ ?_
 rintro ⟨r8, out_9, i_10, a11, k12⟩ ⟨hM13, hk14, hv15⟩
 refine JJ_nx fun _ _ hL hA => ?_; dsimp only at hL hA; subst hL hA
 refine Fb 40 0 fun _ => Fb 8 2 fun _ => Fo 2 fun ho19 => Fb 1 3 fun _ => Fb 32 4 fun _ => Fb 8 5 fun _ => Fo 5 fun ho23 => ?_
 rcases r8 with _ | r8
 ·exact absurd (hM13.symm.trans rfl) hterm16
 refine KS ?_
 refine Oq (Vfa fo59_0 1) (Oq (VldF sh3 1) (Oq Veql (Oq Vm ?_)))
 refine Js 10 ?_ ?_
 ·intro h24
  have g25 := eq_of_beq h24
  refine Oq Vm (Oq (Vfa fo59_1 1) (Oq (VldF sh22 1) (Oq (Vlen sl22) (Oq Vlss (Oq Vpt (Oq Vm ?_))))))
  refine Js 17 ?_ ?_
  ·intro h26
   have g27 := dt h26
   refine Oq Vm (Oq (Vfa fo59_2 1) (Oq (VldF sh57 1) (Oq (Vlen sl57) (Oq Vlss (Oq Vpt (Oq Vm ?_))))))
   refine Js 24 ?_ ?_
   ·intro h28
    have g29 := dt h28
    refine Oq Vm (Oq (Vfa fo59_5 1) (Oq (VldF sh25 1) (Oq (Vlen sl25) (Oq Vlss (Oq Vpt (KS ?_))))))
    refine Kc ?_ ?_
    ·intro h30
     have g31 := dt h30
     refine KS ?_
     refine Oq (Vfa fo59_2 1) (Oq (VldF sh57 1) (Oq Vm (Oq (Vi sl57 3) (Oq (VldB sh4 3) (KS ?_)))))
     refine Kc ?_ ?_
     ·intro h32
      refine Ke ?_
      refine KS ?_
      refine Oq Vm (Oq Vadd (Oq Va (KS ?_)))
      exact Kg (r8, out_9, (i_10 + 1), a11, k12) [0, 0, 1, 2, 3, 4] ⟨(q3 hM13 (by simp only [flqref14_Final_L0, h24, h26, h28, h30, h32, cs4])), (by omega), iv1⟩
     intro h32
     refine KS ?_
     refine Oq Va (KS ?_)
     refine Kl (γ := Nat × Int) (fun (r35, k_36) => ⟨[(1, p7), (3, vl a11 k12 out_9), (4, vi i_10), (5, vi k_36)], [O a11 k12 out_9, pv p7 [vi st.Phase, vl sta1 stk1 st.Cone, vl sta2 stk2 st.Leaf, vi st.At, vi st.Edge, vl sta5 stk5 st.Values, vl sta6 stk6 st.Queue, vi st.Steps], S sta1 stk1 st.Cone, S sta2 stk2 st.Leaf, S sta5 stk5 st.Values, S sta6 stk6 st.Queue], flqref14_Final_L1 st out_9 i_10 r35 k_36 = flqref14_Final_L1 st out_9 i_10 (((out_9.length : Int) - 0).toNat) 0 ∧ r35 = ((out_9.length : Int) - k_36).toNat ∧ (0 : Int) ≤ k_36 ∧ k_36 ≤ (out_9.length : Int) ∧ (-9223372036854775808 ≤ k_36 ∧ k_36 ≤ 9223372036854775807), r35⟩) (((out_9.length : Int) - 0).toNat, 0) [0, 0, 1, 2, 3, 4] ⟨rfl, rfl, (by omega), (by omega), (by omega)⟩ ?_
     rintro ⟨r35, k_36⟩ ⟨hM37, hr38, hi39, hi40, hk41⟩
     refine JJ_nx fun _ _ hL hA => ?_; dsimp only at hL hA; subst hL hA
     refine Fb 40 0 fun _ => Fb 8 2 fun _ => Fo 2 fun ho44 => Fb 1 3 fun _ => Fb 32 4 fun _ => Fb 8 5 fun _ => Fo 5 fun ho48 => KS ?_
     refine bool_split (decide (k_36 < (out_9.length : Int))) ?_ ?_
     ·intro h49
      have g50 := dt h49
      obtain ⟨r51, rfl⟩ := scc (n := r35) (by omega)
      refine JJ_peekO_GKnown k_36.toNat 0 rfl rng fun a52 k53 hb54 hb55 => ?_
      unfold i64ok at hb54 hb55
      refine Fb 8 1 fun _ => ?_
      refine Kq [0, 0, 2, 7, 15, 31, 31, 127, 255, 511, 31, 1055, 31, 7199, 15391, 32767, 65535] fmix ?_
      refine Qv [] Vm (Qv [] Vm (Qv [] (Vlen sl53) (Qb h49 [] Vlss (Qv [] Vm (Qv [] Vm (Qv [] Vm (Qv [0] (Vi sl53 0) (Qv [0] (Vfa fo67_0 0) (Qv [0] (VldF sh3 0) ?_)))))))))
      refine Qv [2] (Vfa fo59_1 0) (Qv [2] (VldF sh22 0) (Qv [] Vm (Qv [3] (Vi sl22 0) ?_)))
      have hb57 := ok1 (i := i_10.toNat) ho44 rng
      refine Qv [3] (VldI sh3 0) (Qv [] Vleq (Qv [] Vpt ?_))
      refine Qn ⟨by kernel_rfl, ?_⟩
      refine Kc ?_ ?_
      ·intro h58
       have g59 := dt h58
       refine KS ?_
       refine Oq Vm (Oq Vadd (Oq Va (KS ?_)))
       refine Jl [0] (Ent.oread _ _ _ _) ?_
       exact Kg (r51, (k_36 + 1)) [0, 1, 2, 3, 4, 5] ⟨(q3 hM37 (by simp only [flqref14_Final_L1, h24, h26, h28, h30, h32, h49, h58, cs4])), (by omega), (by omega), (by omega), (by omega)⟩
      intro h58
      have g60 := df h58
      refine Jl [0] (Ent.oread _ _ _ _) ?_
      refine Ke ?_
      have hR61 := q2 hM37 k_36 (by simp only [flqref14_Final_L1, h24, h26, h28, h30, h32, h49, h58, cs4])
      refine KS ?_
      refine Oa (As0 sl53) fun c62 => ?_
      refine Jo 0 ?_; rintro a63 k64 rfl
      refine Oq Vm (Oq Vm ?_)
      refine Jl [1] (Ent.freeze _ _) ?_
      refine Oa (Asl [0] sl53 0 (k_36.toNat)) fun c65 => ?_
      refine Jo 0 ?_; rintro a66 k67 rfl
      refine Fb 40 0 fun _ => ?_
      have hn69 : ((out_9.take (k_36.toNat)).drop 0).length = (k_36.toNat) - 0 := len_slice rng rng
      refine Jl [2] (Ent.crNil (α := GKnown) _) ?_
      refine Oa (Ap0 [0, 0] sl53 sl53 sz53) fun c70 => ?_
      refine Jo 0 ?_; rintro a71 k72 rfl
      refine Oq Va (KS ?_)
      refine JJ_peek_GSet i_10.toNat 7 rfl rng fun a73 k74 hb75 => ?_
      unfold i64ok at hb75
      refine Fb 8 1 fun _ => ?_
      refine JK_drawK [0, 0, 2, 0, 14, 30, 0, 64, 0, 448, 960, 2046, 4094, 8191, 16383] fmix ?_
      refine Dv [] Vm (Dv [6] (Vfa fo59_1 0) (Dv [6] (VldF sh22 0) (Dv [] Vm (Dv [7] (Vi sl22 0) ?_))))
      have hb77 := ok1 (i := i_10.toNat) ho44 rng
      refine Dv [7] (VldI sh3 0) (Dv [6] (Vfa fo59_5 0) (Dv [6] (VldF sh25 0) (Dv [] Vm (Dv [9] (Vi sl25 0) (Dv [0] (VldA sh42 0) (Dv [] (Vbd st67 [vi (st.Cone.getD i_10.toNat 0), vi ((st.Values.getD i_10.toNat default).Width), vl a73 k74 ((st.Values.getD i_10.toNat default).Words)]) (Dx [] [] [0] (fun G => (G.g 12 0)) [fun G => Cr (G.g 12 0) 1 [vi (st.Cone.getD i_10.toNat 0), vi ((st.Values.getD i_10.toNat default).Width), vl a73 k74 ((st.Values.getD i_10.toNat default).Words)]] (fun G => xA (AsV sl53 sz53 [.agg #[vi (st.Cone.getD i_10.toNat 0), vi ((st.Values.getD i_10.toNat default).Width), vl a73 k74 ((st.Values.getD i_10.toNat default).Words)]] [vi (st.Cone.getD i_10.toNat 0), vi ((st.Values.getD i_10.toNat default).Width), vl a73 k74 ((st.Values.getD i_10.toNat default).Words)])) ?_)))))))
      have hn80 := la ((out_9.take (k_36.toNat)).drop 0) ([(GKnown.mk (st.Cone.getD i_10.toNat 0) (st.Values.getD i_10.toNat default))] : List GKnown)
      refine Dx [1, 2, 11] [2, 11] [1, 0] (fun G => (G.g 13 0)) [fun G => os (G.g 13 0) ((((out_9.take (k_36.toNat)).drop 0) ++ [(GKnown.mk (st.Cone.getD i_10.toNat 0) (st.Values.getD i_10.toNat default))]) : List GKnown)] (fun G => xp [2, 0] rfl (Ent.cr1 (α := GKnown) (A := [S a73 k74 ((st.Values.getD i_10.toNat default).Words)]) _ (GKnown.mk (st.Cone.getD i_10.toNat 0) (st.Values.getD i_10.toNat default)) _ (Nat.le_of_ble_eq_true rfl) (fun h => ⟨_, rfl, (by unfold i64ok; first | omega | (dsimp only; omega)), (by unfold i64ok; first | omega | (dsimp only; omega)), sepAll_get (i := 0) rfl h⟩)) (xA (ApO [3, 0] sl53 sl53 sz53))) (Dg [] (fun G => (G.g 13 0)) (fun G => Va) ?_)
      refine Dn ⟨by kernel_rfl, fun G => ?_⟩
      refine Jw2 [(1, p7), (3, vl a11 k12 out_9), (4, vi i_10), (5, vi k_36), (6, (G.g 13 0))] [0, 1, 3, 4, 5, 6, 7, 8, 9, 10] [os (G.g 13 0) ((((out_9.take (k_36.toNat)).drop 0) ++ [(GKnown.mk (st.Cone.getD i_10.toNat 0) (st.Values.getD i_10.toNat default))]) : List GKnown)] ?_
      generalize G.g 13 0 = c79
      refine Jo 10 ?_; rintro a81 k82 rfl
      refine Fb 40 10 fun _ => KS ?_
      refine Oq Vm (Oq Vm (Oq Vm (Oa (Asl [3] sl53 (k_36.toNat) out_9.length) fun c84 => ?_)))
      refine Jo 0 ?_; rintro a85 k86 rfl
      refine Fb 40 0 fun _ => ?_
      have hn88 : ((out_9.take out_9.length).drop (k_36.toNat)).length = out_9.length - (k_36.toNat) := len_slice rng rng
      refine Oa (Ap [11, 0] sl53 sl53 sz53) fun c89 => ?_
      refine Jo 0 ?_; rintro a90 k91 rfl
      refine Fb 40 0 fun _ => ?_
      have hn93 := la ((((out_9.take (k_36.toNat)).drop 0) ++ [(GKnown.mk (st.Cone.getD i_10.toNat 0) (st.Values.getD i_10.toNat default))]) : List GKnown) ((out_9.take out_9.length).drop (k_36.toNat))
      refine Oq Va (KS ?_)
      refine Oq Vm (Oq Vadd (Oq Va (KS ?_)))
      exact Kg (r8, ((((out_9.take (k_36.toNat)).drop 0) ++ [(GKnown.mk (st.Cone.getD i_10.toNat 0) (st.Values.getD i_10.toNat default))]) ++ ((out_9.take out_9.length).drop (k_36.toNat))), (i_10 + 1), a90, k91) [0, 6, 7, 8, 9, 10] ⟨(q3 hM13 (by simp only [flqref14_Final_L0, h24, h26, h28, h30, h32, h49, h58, hR61, cs4])), (by omega), iv1⟩
     intro h49
     have g94 := df h49
     obtain rfl : r35 = 0 := by omega
     refine Kq [0, 0, 2, 7, 15, 31, 31, 127, 255, 511, 31, 1055, 31, 7199, 15391, 32767, 65535] fmix ?_
     refine Qv [] Vm (Qv [] Vm (Qv [] (Vlen sl53) (Qb h49 [] Vlss (Qv [] Vm (Qs (Qs (Qs (Qs (Qs ?_)))))))))
     refine Qs (Qs (Qs (Qs (Qs (Qs (Qv [] Vpf ?_))))))
     refine Qn ⟨by kernel_rfl, ?_⟩
     refine Kf ?_
     refine Ke ?_
     have hR95 := q2 hM37 k_36 (by simp only [flqref14_Final_L1, h24, h26, h28, h30, h32, h49, cs4])
     refine KS ?_
     refine Oa (As0 sl53) fun c96 => ?_
     refine Jo 0 ?_; rintro a97 k98 rfl
     refine Oq Vm (Oq Vm ?_)
     refine Jl [1] (Ent.freeze _ _) ?_
     refine Oa (Asl [0] sl53 0 (k_36.toNat)) fun c99 => ?_
     refine Jo 0 ?_; rintro a100 k101 rfl
     refine Fb 40 0 fun _ => ?_
     have hn103 : ((out_9.take (k_36.toNat)).drop 0).length = (k_36.toNat) - 0 := len_slice rng rng
     refine Jl [2] (Ent.crNil (α := GKnown) _) ?_
     refine Oa (Ap0 [0, 0] sl53 sl53 sz53) fun c104 => ?_
     refine Jo 0 ?_; rintro a105 k106 rfl
     refine Oq Va (KS ?_)
     refine JJ_peek_GSet i_10.toNat 6 rfl rng fun a107 k108 hb109 => ?_
     unfold i64ok at hb109
     refine Fb 8 1 fun _ => ?_
     refine JK_drawK [0, 0, 2, 0, 14, 30, 0, 64, 0, 448, 960, 2046, 4094, 8191, 16383] fmix ?_
     refine Dv [] Vm (Dv [5] (Vfa fo59_1 0) (Dv [5] (VldF sh22 0) (Dv [] Vm (Dv [6] (Vi sl22 0) ?_))))
     have hb111 := ok1 (i := i_10.toNat) ho44 rng
     refine Dv [6] (VldI sh3 0) (Dv [5] (Vfa fo59_5 0) (Dv [5] (VldF sh25 0) (Dv [] Vm (Dv [8] (Vi sl25 0) (Dv [0] (VldA sh42 0) (Dv [] (Vbd st67 [vi (st.Cone.getD i_10.toNat 0), vi ((st.Values.getD i_10.toNat default).Width), vl a107 k108 ((st.Values.getD i_10.toNat default).Words)]) (Dx [] [] [0] (fun G => (G.g 12 0)) [fun G => Cr (G.g 12 0) 1 [vi (st.Cone.getD i_10.toNat 0), vi ((st.Values.getD i_10.toNat default).Width), vl a107 k108 ((st.Values.getD i_10.toNat default).Words)]] (fun G => xA (AsV sl53 sz53 [.agg #[vi (st.Cone.getD i_10.toNat 0), vi ((st.Values.getD i_10.toNat default).Width), vl a107 k108 ((st.Values.getD i_10.toNat default).Words)]] [vi (st.Cone.getD i_10.toNat 0), vi ((st.Values.getD i_10.toNat default).Width), vl a107 k108 ((st.Values.getD i_10.toNat default).Words)])) ?_)))))))
     have hn114 := la ((out_9.take (k_36.toNat)).drop 0) ([(GKnown.mk (st.Cone.getD i_10.toNat 0) (st.Values.getD i_10.toNat default))] : List GKnown)
     refine Dx [1, 2, 10] [2, 10] [1, 0] (fun G => (G.g 13 0)) [fun G => os (G.g 13 0) ((((out_9.take (k_36.toNat)).drop 0) ++ [(GKnown.mk (st.Cone.getD i_10.toNat 0) (st.Values.getD i_10.toNat default))]) : List GKnown)] (fun G => xp [2, 0] rfl (Ent.cr1 (α := GKnown) (A := [S a107 k108 ((st.Values.getD i_10.toNat default).Words)]) _ (GKnown.mk (st.Cone.getD i_10.toNat 0) (st.Values.getD i_10.toNat default)) _ (Nat.le_of_ble_eq_true rfl) (fun h => ⟨_, rfl, (by unfold i64ok; first | omega | (dsimp only; omega)), (by unfold i64ok; first | omega | (dsimp only; omega)), sepAll_get (i := 0) rfl h⟩)) (xA (ApO [3, 0] sl53 sl53 sz53))) (Dg [] (fun G => (G.g 13 0)) (fun G => Va) ?_)
     refine Dn ⟨by kernel_rfl, fun G => ?_⟩
     refine Jw2 [(1, p7), (3, vl a11 k12 out_9), (4, vi i_10), (5, vi k_36), (6, (G.g 13 0))] [0, 1, 3, 4, 5, 6, 7, 8, 9] [os (G.g 13 0) ((((out_9.take (k_36.toNat)).drop 0) ++ [(GKnown.mk (st.Cone.getD i_10.toNat 0) (st.Values.getD i_10.toNat default))]) : List GKnown)] ?_
     generalize G.g 13 0 = c113
     refine Jo 9 ?_; rintro a115 k116 rfl
     refine Fb 40 9 fun _ => KS ?_
     refine Oq Vm (Oq Vm (Oq Vm (Oa (Asl [3] sl53 (k_36.toNat) out_9.length) fun c118 => ?_)))
     refine Jo 0 ?_; rintro a119 k120 rfl
     refine Fb 40 0 fun _ => ?_
     have hn122 : ((out_9.take out_9.length).drop (k_36.toNat)).length = out_9.length - (k_36.toNat) := len_slice rng rng
     refine Oa (Ap [10, 0] sl53 sl53 sz53) fun c123 => ?_
     refine Jo 0 ?_; rintro a124 k125 rfl
     refine Fb 40 0 fun _ => ?_
     have hn127 := la ((((out_9.take (k_36.toNat)).drop 0) ++ [(GKnown.mk (st.Cone.getD i_10.toNat 0) (st.Values.getD i_10.toNat default))]) : List GKnown) ((out_9.take out_9.length).drop (k_36.toNat))
     refine Oq Va (KS ?_)
     refine Oq Vm (Oq Vadd (Oq Va (KS ?_)))
     exact Kg (r8, ((((out_9.take (k_36.toNat)).drop 0) ++ [(GKnown.mk (st.Cone.getD i_10.toNat 0) (st.Values.getD i_10.toNat default))]) ++ ((out_9.take out_9.length).drop (k_36.toNat))), (i_10 + 1), a124, k125) [0, 5, 6, 7, 8, 9] ⟨(q3 hM13 (by simp only [flqref14_Final_L0, h24, h26, h28, h30, h32, h49, hR95, cs4])), (by omega), iv1⟩
    intro h30
    have g128 := df h30
    refine Ke ?_
    have hR129 := q2 hM13 (.brk out_9) (by simp only [flqref14_Final_L0, h24, h26, h28, h30, cs4])
    refine KS ?_
    refine Oq Vm (Oq Va (KS ?_))
    refine Jl [0] (Ent.freeze _ _) ?_
    have hq := q4 hrr out_9 (by simp only [flqref14_Final, h24, h26, h28, h30, hR129, cs4]); subst hq
    exact Kr (vl a11 k12 out_9) rfl (.tmp rfl .nil) [0] trivial
   intro h28
   have g130 := df h28
   refine Osk (Osk (Osk (Osk (Osk (Oq Vpf (KS ?_))))))
   refine Kf ?_
   refine Ke ?_
   have hR131 := q2 hM13 (.brk out_9) (by simp only [flqref14_Final_L0, h24, h26, h28, cs4])
   refine KS ?_
   refine Oq Vm (Oq Va (KS ?_))
   refine Jl [0] (Ent.freeze _ _) ?_
   have hq := q4 hrr out_9 (by simp only [flqref14_Final, h24, h26, h28, hR131, cs4]); subst hq
   exact Kr (vl a11 k12 out_9) rfl (.tmp rfl .nil) [0] trivial
  intro h26
  have g132 := df h26
  refine Osk (Osk (Osk (Osk (Osk (Oq Vpf (Oq Vm (Osk (Osk (Osk ?_)))))))))
  refine Osk (Osk (Oq Vpf (KS ?_)))
  refine Kf ?_
  refine Ke ?_
  have hR133 := q2 hM13 (.brk out_9) (by simp only [flqref14_Final_L0, h24, h26, cs4])
  refine KS ?_
  refine Oq Vm (Oq Va (KS ?_))
  refine Jl [0] (Ent.freeze _ _) ?_
  have hq := q4 hrr out_9 (by simp only [flqref14_Final, h24, h26, hR133, cs4]); subst hq
  exact Kr (vl a11 k12 out_9) rfl (.tmp rfl .nil) [0] trivial
 intro h24
 have g134 := ne_of_beq_false h24
 refine Osk (Osk (Osk (Osk (Osk (Oq Vpf (Oq Vm (Osk (Osk (Osk ?_)))))))))
 refine Osk (Osk (Oq Vpf (Oq Vm (Osk (Osk (Osk (Osk (Osk (Oq Vpf ?_)))))))))
 refine KS ?_
 refine Kf ?_
 refine Ke ?_
 have hR135 := q2 hM13 (.brk out_9) (by simp only [flqref14_Final_L0, h24, cs4])
 refine KS ?_
 refine Oq Vm (Oq Va (KS ?_))
 refine Jl [0] (Ent.freeze _ _) ?_
 have hq := q4 hrr out_9 (by simp only [flqref14_Final, h24, hR135, cs4]); subst hq
 exact Kr (vl a11 k12 out_9) rfl (.tmp rfl .nil) [0] trivial
theorem fn141 (st : GState) (sta1 : Option Addr) (stk1 : Nat) (sta2 : Option Addr) (stk2 : Nat) (sta5 : Option Addr) (stk5 : Nat) (sta6 : Option Addr) (stk6 : Nat) (hst_0 : i64ok st.Phase) (hst_3 : i64ok st.At) (hst_4 : i64ok st.Edge) (hst_7 : i64ok st.Steps) (hc12 : st.Cone.length ≤ 256) (rr : List Int) (hrr : flqref14_Used st = rr) : FT Tryz.prog 141 #[.agg #[vi st.Phase, vl sta1 stk1 st.Cone, vl sta2 stk2 st.Leaf, vi st.At, vi st.Edge, vl sta5 stk5 st.Values, vl sta6 stk6 st.Queue, vi st.Steps]] [S sta1 stk1 st.Cone, S sta2 stk2 st.Leaf, S sta5 stk5 st.Values, S sta6 stk6 st.Queue] (fun g : Value => True) (fun g => g) (fun g => [sl g rr]) := by
 refine FTi Tryz.func141 fun w0 M0 F0 => ?_
 unfold i64ok at hst_0 hst_3 hst_4 hst_7
 refine Fb 8 0 fun _ => Fo 0 fun ho2 => Fb 1 1 fun _ => Fb 32 2 fun _ => Fb 8 3 fun _ => Fo 3 fun ho6 => KS ?_
 refine Oa (Ab [vi st.Phase, vl sta1 stk1 st.Cone, vl sta2 stk2 st.Leaf, vi st.At, vi st.Edge, vl sta5 stk5 st.Values, vl sta6 stk6 st.Queue, vi st.Steps]) fun p7 => Oq Va (KS ?_)
 refine Oq Va (KS ?_)
 refine Oq Va (KS ?_)
 refine Jl [] (Ent.osNil (α := Int)) ?_
 have hterm16 : flqref14_Used_L0 st (st.Cone.length + 1) [] 0 ≠ LR.oof := (rUsed_term _ _ _ _ (by omega))
 refine Kl (γ := Nat × List Int × Int × Option Addr × Nat) (fun (r8, out_9, i_10, a11, k12) => ⟨[(1, p7), (3, vl a11 k12 out_9), (4, vi i_10)], [O a11 k12 out_9, pv p7 [vi st.Phase, vl sta1 stk1 st.Cone, vl sta2 stk2 st.Leaf, vi st.At, vi st.Edge, vl sta5 stk5 st.Values, vl sta6 stk6 st.Queue, vi st.Steps], S sta1 stk1 st.Cone, S sta2 stk2 st.Leaf, S sta5 stk5 st.Values, S sta6 stk6 st.Queue], flqref14_Used_L0 st r8 out_9 i_10 = flqref14_Used_L0 st (st.Cone.length + 1) [] 0 ∧ (-9223372036854775808 ≤ i_10 ∧ i_10 ≤ 9223372036854775807) ∧ (i_10 ≤ (st.Cone.length : Int) ∧ (out_9.length : Int) ≤ i_10 ∧ 0 ≤ i_10), r8⟩) ((st.Cone.length + 1), [], 0, none, 0) [0, 0, 1, 2, 3, 4] ⟨rfl, (by omega), iv0⟩ ?_
 rintro ⟨r8, out_9, i_10, a11, k12⟩ ⟨hM13, hk14, hv15⟩
 refine JJ_nx fun _ _ hL hA => ?_; dsimp only at hL hA; subst hL hA
 refine Fb 8 0 fun _ => Fo 0 fun ho18 => Fb 8 2 fun _ => Fo 2 fun ho20 => Fb 1 3 fun _ => Fb 32 4 fun _ => Fb 8 5 fun _ => Fo 5 fun ho24 => ?_
 rcases r8 with _ | r8
 ·exact absurd (hM13.symm.trans rfl) hterm16
 refine KS ?_
 refine Oq (Vfa fo59_0 1) (Oq (VldF sh3 1) (Oq Veql (Oq Vm ?_)))
 refine Js 10 ?_ ?_
 ·intro h25
  have g26 := eq_of_beq h25
  refine Oq Vm (Oq (Vfa fo59_1 1) (Oq (VldF sh22 1) (Oq (Vlen sl22) (Oq Vlss (Oq Vpt (Oq Vm ?_))))))
  refine Js 17 ?_ ?_
  ·intro h27
   have g28 := dt h27
   refine Oq Vm (Oq (Vfa fo59_2 1) (Oq (VldF sh57 1) (Oq (Vlen sl57) (Oq Vlss (Oq Vpt (KS ?_))))))
   refine Kc ?_ ?_
   ·intro h29
    have g30 := dt h29
    refine KS ?_
    refine Oq (Vfa fo59_2 1) (Oq (VldF sh57 1) (Oq Vm (Oq (Vi sl57 3) (Oq (VldB sh4 3) (Oq Vnot (KS ?_))))))
    refine Kc ?_ ?_
    ·intro h31
     have h33 := not_true h31
     refine Ke ?_
     refine KS ?_
     refine Oq Vm (Oq Vadd (Oq Va (KS ?_)))
     exact Kg (r8, out_9, (i_10 + 1), a11, k12) [0, 0, 1, 2, 3, 4] ⟨(q3 hM13 (by simp only [flqref14_Used_L0, h25, h27, h29, h31, h33, cs4])), (by omega), iv1⟩
    intro h31
    have h36 := not_false h31
    refine KS ?_
    refine Oq Va (KS ?_)
    refine Kl (γ := Nat × Int) (fun (r38, k_39) => ⟨[(1, p7), (3, vl a11 k12 out_9), (4, vi i_10), (5, vi k_39)], [O a11 k12 out_9, pv p7 [vi st.Phase, vl sta1 stk1 st.Cone, vl sta2 stk2 st.Leaf, vi st.At, vi st.Edge, vl sta5 stk5 st.Values, vl sta6 stk6 st.Queue, vi st.Steps], S sta1 stk1 st.Cone, S sta2 stk2 st.Leaf, S sta5 stk5 st.Values, S sta6 stk6 st.Queue], flqref14_Used_L1 st out_9 i_10 r38 k_39 = flqref14_Used_L1 st out_9 i_10 (((out_9.length : Int) - 0).toNat) 0 ∧ r38 = ((out_9.length : Int) - k_39).toNat ∧ (0 : Int) ≤ k_39 ∧ k_39 ≤ (out_9.length : Int) ∧ (-9223372036854775808 ≤ k_39 ∧ k_39 ≤ 9223372036854775807), r38⟩) (((out_9.length : Int) - 0).toNat, 0) [0, 0, 1, 2, 3, 4] ⟨rfl, rfl, (by omega), (by omega), (by omega)⟩ ?_
    rintro ⟨r38, k_39⟩ ⟨hM40, hr41, hi42, hi43, hk44⟩
    refine JJ_nx fun _ _ hL hA => ?_; dsimp only at hL hA; subst hL hA
    refine Fb 8 0 fun _ => Fo 0 fun ho46 => Fb 8 2 fun _ => Fo 2 fun ho48 => Fb 1 3 fun _ => Fb 32 4 fun _ => Fb 8 5 fun _ => Fo 5 fun ho52 => KS ?_
    refine Kq [0, 0, 2, 7, 15, 31, 31, 127, 255, 31, 543, 31, 3615, 7711, 16383, 32767] fmix ?_
    refine Qv [] Vm (Qv [] Vm (Qv [] (Vlen sl22) (Qv [] Vlss ?_)))
    refine bool_split (decide (k_39 < (out_9.length : Int))) ?_ ?_
    ·intro h53
     have g54 := dt h53
     obtain ⟨r55, rfl⟩ := scc (n := r38) (by omega)
     refine Qb h53 [] Vm (Qv [] Vm (Qv [] Vm (Qv [0] (Vi sl22 0) ?_)))
     have hb56 := ok1 (i := k_39.toNat) ho46 rng
     refine Qv [0] (VldI sh3 0) (Qv [1] (Vfa fo59_1 0) (Qv [1] (VldF sh22 0) (Qv [] Vm (Qv [2] (Vi sl22 0) ?_))))
     have hb57 := ok1 (i := i_10.toNat) ho48 rng
     refine Qv [2] (VldI sh3 0) (Qv [] Vleq (Qv [] Vpt ?_))
     refine Qn ⟨by kernel_rfl, ?_⟩
     refine Kc ?_ ?_
     ·intro h58
      have g59 := dt h58
      refine KS ?_
      refine Oq Vm (Oq Vadd (Oq Va (KS ?_)))
      exact Kg (r55, (k_39 + 1)) [0, 0, 1, 2, 3, 4] ⟨(q3 hM40 (by simp only [flqref14_Used_L1, h25, h27, h29, h31, h36, h53, h58, cs4])), (by omega), (by omega), (by omega), (by omega)⟩
     intro h58
     have g60 := df h58
     refine Ke ?_
     have hR61 := q2 hM40 k_39 (by simp only [flqref14_Used_L1, h25, h27, h29, h31, h36, h53, h58, cs4])
     refine KS ?_
     refine Oa (As0 sl22) fun c62 => ?_
     refine Jo 0 ?_; rintro a63 k64 rfl
     refine Oq Vm (Oq Vm ?_)
     refine Jl [1] (Ent.freeze _ _) ?_
     refine Oa (Asl [0] sl22 0 (k_39.toNat)) fun c65 => ?_
     refine Jo 0 ?_; rintro a66 k67 rfl
     refine Fb 8 0 fun _ => Fo 0 fun ho69 => ?_
     have hn70 : ((out_9.take (k_39.toNat)).drop 0).length = (k_39.toNat) - 0 := len_slice rng rng
     refine Jl [2] (Ent.crNil (α := Int) _) ?_
     refine Oa (Ap0 [0, 0] sl22 sl22 sz22) fun c71 => ?_
     refine Jo 0 ?_; rintro a72 k73 rfl
     refine Oq Va (KS ?_)
     refine Oq Vm (Oq (Vfa fo59_1 3) (Oq (VldF sh22 3) (Oq Vm (Oq (Vi sl22 4) ?_))))
     have hb74 := ok1 (i := i_10.toNat) ho48 rng
     refine Oq (VldI sh3 4) (Oa (AsV sl22 sz22 [vi (st.Cone.getD i_10.toNat 0)] [vi (st.Cone.getD i_10.toNat 0)]) fun c75 => ?_)
     refine Jo 0 ?_; rintro a76 k77 rfl
     refine Jl [0] (Ent.crInt _ [(st.Cone.getD i_10.toNat 0)] _ _ rfl rfl (by intro x hx; rw [List.mem_singleton] at hx; subst hx; unfold i64ok; omega) (Nat.le_of_ble_eq_true rfl)) ?_
     refine Oa (ApO [1, 0] sl22 sl22 sz22) fun c78 => ?_
     refine Jo 0 ?_; rintro a79 k80 rfl
     refine Fb 8 0 fun _ => Fo 0 fun ho82 => ?_
     have hn83 := la ((out_9.take (k_39.toNat)).drop 0) ([(st.Cone.getD i_10.toNat 0)] : List Int)
     refine Oq Va (KS ?_)
     refine Oq Vm (Oq Vm (Oq Vm (Oa (Asl [2] sl22 (k_39.toNat) out_9.length) fun c84 => ?_)))
     refine Jo 0 ?_; rintro a85 k86 rfl
     refine Fb 8 0 fun _ => Fo 0 fun ho88 => ?_
     have hn89 : ((out_9.take out_9.length).drop (k_39.toNat)).length = out_9.length - (k_39.toNat) := len_slice rng rng
     refine Oa (Ap [1, 0] sl22 sl22 sz22) fun c90 => ?_
     refine Jo 0 ?_; rintro a91 k92 rfl
     refine Fb 8 0 fun _ => Fo 0 fun ho94 => ?_
     have hn95 := la ((((out_9.take (k_39.toNat)).drop 0) ++ [(st.Cone.getD i_10.toNat 0)]) : List Int) ((out_9.take out_9.length).drop (k_39.toNat))
     refine Oq Va (KS ?_)
     refine Oq Vm (Oq Vadd (Oq Va (KS ?_)))
     exact Kg (r8, ((((out_9.take (k_39.toNat)).drop 0) ++ [(st.Cone.getD i_10.toNat 0)]) ++ ((out_9.take out_9.length).drop (k_39.toNat))), (i_10 + 1), a91, k92) [0, 3, 4, 5, 6, 7] ⟨(q3 hM13 (by simp only [flqref14_Used_L0, h25, h27, h29, h31, h36, h53, h58, hR61, cs4])), (by omega), iv1⟩
    intro h53
    have g96 := df h53
    obtain rfl : r38 = 0 := by omega
    refine Qb h53 [] Vm (Qs (Qs (Qs (Qs (Qs (Qs (Qs (Qs (Qs ?_)))))))))
    refine Qs (Qv [] Vpf ?_)
    refine Qn ⟨by kernel_rfl, ?_⟩
    refine Kf ?_
    refine Ke ?_
    have hR97 := q2 hM40 k_39 (by simp only [flqref14_Used_L1, h25, h27, h29, h31, h36, h53, cs4])
    refine KS ?_
    refine Oa (As0 sl22) fun c98 => ?_
    refine Jo 0 ?_; rintro a99 k100 rfl
    refine Oq Vm (Oq Vm ?_)
    refine Jl [1] (Ent.freeze _ _) ?_
    refine Oa (Asl [0] sl22 0 (k_39.toNat)) fun c101 => ?_
    refine Jo 0 ?_; rintro a102 k103 rfl
    refine Fb 8 0 fun _ => Fo 0 fun ho105 => ?_
    have hn106 : ((out_9.take (k_39.toNat)).drop 0).length = (k_39.toNat) - 0 := len_slice rng rng
    refine Jl [2] (Ent.crNil (α := Int) _) ?_
    refine Oa (Ap0 [0, 0] sl22 sl22 sz22) fun c107 => ?_
    refine Jo 0 ?_; rintro a108 k109 rfl
    refine Oq Va (KS ?_)
    refine Oq Vm (Oq (Vfa fo59_1 3) (Oq (VldF sh22 3) (Oq Vm (Oq (Vi sl22 4) ?_))))
    have hb110 := ok1 (i := i_10.toNat) ho48 rng
    refine Oq (VldI sh3 4) (Oa (AsV sl22 sz22 [vi (st.Cone.getD i_10.toNat 0)] [vi (st.Cone.getD i_10.toNat 0)]) fun c111 => ?_)
    refine Jo 0 ?_; rintro a112 k113 rfl
    refine Jl [0] (Ent.crInt _ [(st.Cone.getD i_10.toNat 0)] _ _ rfl rfl (by intro x hx; rw [List.mem_singleton] at hx; subst hx; unfold i64ok; omega) (Nat.le_of_ble_eq_true rfl)) ?_
    refine Oa (ApO [1, 0] sl22 sl22 sz22) fun c114 => ?_
    refine Jo 0 ?_; rintro a115 k116 rfl
    refine Fb 8 0 fun _ => Fo 0 fun ho118 => ?_
    have hn119 := la ((out_9.take (k_39.toNat)).drop 0) ([(st.Cone.getD i_10.toNat 0)] : List Int)
    refine Oq Va (KS ?_)
    refine Oq Vm (Oq Vm (Oq Vm (Oa (Asl [2] sl22 (k_39.toNat) out_9.length) fun c120 => ?_)))
    refine Jo 0 ?_; rintro a121 k122 rfl
    refine Fb 8 0 fun _ => Fo 0 fun ho124 => ?_
    have hn125 : ((out_9.take out_9.length).drop (k_39.toNat)).length = out_9.length - (k_39.toNat) := len_slice rng rng
    refine Oa (Ap [1, 0] sl22 sl22 sz22) fun c126 => ?_
    refine Jo 0 ?_; rintro a127 k128 rfl
    refine Fb 8 0 fun _ => Fo 0 fun ho130 => ?_
    have hn131 := la ((((out_9.take (k_39.toNat)).drop 0) ++ [(st.Cone.getD i_10.toNat 0)]) : List Int) ((out_9.take out_9.length).drop (k_39.toNat))
    refine Oq Va (KS ?_)
    refine Oq Vm (Oq Vadd (Oq Va (KS ?_)))
    exact Kg (r8, ((((out_9.take (k_39.toNat)).drop 0) ++ [(st.Cone.getD i_10.toNat 0)]) ++ ((out_9.take out_9.length).drop (k_39.toNat))), (i_10 + 1), a127, k128) [0, 3, 4, 5, 6, 7] ⟨(q3 hM13 (by simp only [flqref14_Used_L0, h25, h27, h29, h31, h36, h53, hR97, cs4])), (by omega), iv1⟩
   intro h29
   have g132 := df h29
   refine Ke ?_
   have hR133 := q2 hM13 (.brk out_9) (by simp only [flqref14_Used_L0, h25, h27, h29, cs4])
   refine KS ?_
   refine Oq Vm (Oq Va (KS ?_))
   refine Jl [0] (Ent.freeze _ _) ?_
   have hq := q4 hrr out_9 (by simp only [flqref14_Used, h25, h27, h29, hR133, cs4]); subst hq
   exact Kr (vl a11 k12 out_9) rfl (.tmp rfl .nil) [0] trivial
  intro h27
  have g134 := df h27
  refine Osk (Osk (Osk (Osk (Osk (Oq Vpf (KS ?_))))))
  refine Kf ?_
  refine Ke ?_
  have hR135 := q2 hM13 (.brk out_9) (by simp only [flqref14_Used_L0, h25, h27, cs4])
  refine KS ?_
  refine Oq Vm (Oq Va (KS ?_))
  refine Jl [0] (Ent.freeze _ _) ?_
  have hq := q4 hrr out_9 (by simp only [flqref14_Used, h25, h27, hR135, cs4]); subst hq
  exact Kr (vl a11 k12 out_9) rfl (.tmp rfl .nil) [0] trivial
 intro h25
 have g136 := ne_of_beq_false h25
 refine Osk (Osk (Osk (Osk (Osk (Oq Vpf (Oq Vm (Osk (Osk (Osk ?_)))))))))
 refine Osk (Osk (Oq Vpf (KS ?_)))
 refine Kf ?_
 refine Ke ?_
 have hR137 := q2 hM13 (.brk out_9) (by simp only [flqref14_Used_L0, h25, cs4])
 refine KS ?_
 refine Oq Vm (Oq Va (KS ?_))
 refine Jl [0] (Ent.freeze _ _) ?_
 have hq := q4 hrr out_9 (by simp only [flqref14_Used, h25, hR137, cs4]); subst hq
 exact Kr (vl a11 k12 out_9) rfl (.tmp rfl .nil) [0] trivial
theorem fn61 (s : GSystem) (sa1 : Option Addr) (sk1 : Nat) (sa2 : Option Addr) (sk2 : Nat) (sa3 : Option Addr) (sk3 : Nat) (w : List GKnown) (wa0 : Option Addr) (wk0 : Nat) (st : GState) (sta1 : Option Addr) (stk1 : Nat) (sta2 : Option Addr) (stk2 : Nat) (sta5 : Option Addr) (stk5 : Nat) (sta6 : Option Addr) (stk6 : Nat) (hs_0 : i64ok s.Width) (hst_0 : i64ok st.Phase) (hst_3 : i64ok st.At) (hst_4 : i64ok st.Edge) (hst_7 : i64ok st.Steps) (hc12 : st.Cone.length ≤ 12) (rr : Bool) (hrr : flqlaw15_steps s w st = rr) : FT Tryz.prog 61 #[.agg #[vi s.Width, vl sa1 sk1 s.Deps, vl sa2 sk2 s.Transfers, vl sa3 sk3 s.Boundary], vl wa0 wk0 w, .agg #[vi st.Phase, vl sta1 stk1 st.Cone, vl sta2 stk2 st.Leaf, vi st.At, vi st.Edge, vl sta5 stk5 st.Values, vl sta6 stk6 st.Queue, vi st.Steps]] [S sa1 sk1 s.Deps, S sa2 sk2 s.Transfers, S sa3 sk3 s.Boundary, S wa0 wk0 w, S sta1 stk1 st.Cone, S sta2 stk2 st.Leaf, S sta5 stk5 st.Values, S sta6 stk6 st.Queue] (fun g : Unit => True) (fun g => vb rr) (fun g => []) := by
 refine FTi Tryz.func61 fun w0 M0 F0 => ?_
 unfold i64ok at hs_0 hst_0 hst_3 hst_4 hst_7
 refine Fb 24 0 fun _ => Fb 88 1 fun _ => Fb 32 2 fun _ => Fb 40 3 fun _ => Fb 8 4 fun _ => Fo 4 fun ho6 => Fb 1 5 fun _ => Fb 32 6 fun _ => ?_
 refine Fb 8 7 fun _ => Fo 7 fun ho10 => KS ?_
 refine Oa (Ab [vi s.Width, vl sa1 sk1 s.Deps, vl sa2 sk2 s.Transfers, vl sa3 sk3 s.Boundary]) fun p11 => Oa (Ab [vi st.Phase, vl sta1 stk1 st.Cone, vl sta2 stk2 st.Leaf, vi st.At, vi st.Edge, vl sta5 stk5 st.Values, vl sta6 stk6 st.Queue, vi st.Steps]) fun p12 => Oq Va (KS ?_)
 refine Oq (VldA sh27 1) (Oq Vm (Oq (VldA sh59 0) ?_))
 refine letv (solver_Step s w st) fun rv17 hg18 => ?_
 have hc19 := fn41 s sa1 sk1 sa2 sk2 sa3 sk3 w wa0 wk0 st sta1 stk1 sta2 stk2 sta5 stk5 sta6 stk6 pre pre pre pre pre rv17 hg18
 refine Oc [2, 3, 4, 5, 6, 7, 8, 9] ca41 hc19 ?_
 rintro ⟨c13, c14, c15, c16⟩ ⟨he20, he21, he22, he23, he24, he25⟩
 unfold i64ok at he20 he21 he22 he23 he24 he25
 refine Jo 0 ?_; rintro a26 k27 rfl
 refine Fb 8 0 fun _ => Fo 0 fun ho29 => ?_
 refine Jo 1 ?_; rintro a30 k31 rfl
 refine Fb 1 1 fun _ => ?_
 refine Jo 2 ?_; rintro a33 k34 rfl
 refine Fb 32 2 fun _ => ?_
 refine Jo 3 ?_; rintro a36 k37 rfl
 refine Fb 8 3 fun _ => Fo 3 fun ho39 => ?_
 refine Oq Vm (Oq Vx (Oq Vx (Oq Vx (Oa (Al ze59 [vi 0, .slice none 0 0, .slice none 0 0, vi 0, vi 0, .slice none 0 0, .slice none 0 0, vi 0]) fun p40 => Ost (Scl [0] sh59 [vi rv17.1.Phase, vl a26 k27 rv17.1.Cone, vl a30 k31 rv17.1.Leaf, vi rv17.1.At, vi rv17.1.Edge, vl a33 k34 rv17.1.Values, vl a36 k37 rv17.1.Queue, vi rv17.1.Steps]) (Oq Va (Oq Va (KS ?_)))))))
 refine Oq (VldA sh27 6) (Oq Vm (Oq (VldA sh59 5) ?_))
 refine letv (flqref14_Step s w st) fun rv45 hg46 => ?_
 have hc47 := fn62 s sa1 sk1 sa2 sk2 sa3 sk3 w wa0 wk0 st sta1 stk1 sta2 stk2 sta5 stk5 sta6 stk6 pre pre pre pre pre rv45 hg46
 refine Oc [7, 8, 9, 10, 11, 12, 13, 14] ca62 hc47 ?_
 rintro ⟨c41, c42, c43, c44⟩ ⟨he48, he49, he50, he51, he52, he53, he54⟩
 unfold i64ok at he48 he49 he50 he51 he52 he53
 refine Jo 0 ?_; rintro a55 k56 rfl
 refine Fb 8 0 fun _ => Fo 0 fun ho58 => ?_
 refine Jo 1 ?_; rintro a59 k60 rfl
 refine Fb 1 1 fun _ => ?_
 refine Jo 2 ?_; rintro a62 k63 rfl
 refine Fb 32 2 fun _ => ?_
 refine Jo 3 ?_; rintro a65 k66 rfl
 refine Fb 8 3 fun _ => Fo 3 fun ho68 => ?_
 refine Oq Vm (Oq Vx (Oq Vx (Oq Vx (Oa (Al ze59 [vi 0, .slice none 0 0, .slice none 0 0, vi 0, vi 0, .slice none 0 0, .slice none 0 0, vi 0]) fun p69 => Ost (Scl [0] sh59 [vi rv45.1.Phase, vl a55 k56 rv45.1.Cone, vl a59 k60 rv45.1.Leaf, vi rv45.1.At, vi rv45.1.Edge, vl a62 k63 rv45.1.Values, vl a65 k66 rv45.1.Queue, vi rv45.1.Steps]) (Oq Va (Oq Va (KS ?_)))))))
 refine Oq (VldA sh59 10) ?_
 refine letv (solver_Answer st) fun rv71 hg72 => ?_
 have hc73 := fn44 st sta1 stk1 sta2 stk2 sta5 stk5 sta6 stk6 pre pre pre pre rv71 hg72
 refine Oc [16, 17, 18, 19] ca44 hc73 ?_
 rintro c70 he74
 unfold i64ok at he74
 refine Jo 0 ?_; rintro a75 k76 rfl
 refine Fb 8 0 fun _ => ?_
 refine Oq Vm (Oq Vx (Oq Vx (Oa (Al ze42 [vi 0, .slice none 0 0]) fun p78 => Ost (Scl [0] sh42 [vi rv71.1.Width, vl a75 k76 rv71.1.Words]) (Oq Va (KS ?_)))))
 refine Oq (VldA sh59 12) ?_
 refine letv (flqref14_Answer st) fun rv80 hg81 => ?_
 have hc82 := fn138 st sta1 stk1 sta2 stk2 sta5 stk5 sta6 stk6 pre pre pre pre rv80 hg81
 refine Oc [18, 19, 20, 21] ca138 hc82 ?_
 rintro c79 he83
 unfold i64ok at he83
 refine Jo 0 ?_; rintro a84 k85 rfl
 refine Fb 8 0 fun _ => ?_
 refine Oq Vm (Oq Vx (Oq Vx (Oa (Al ze42 [vi 0, .slice none 0 0]) fun p87 => Ost (Scl [0] sh42 [vi rv80.1.Width, vl a84 k85 rv80.1.Words]) (Oq Va (KS ?_)))))
 refine JK_drawK [0, 0, 3, 7, 15, 15, 63, 127, 255, 511, 511, 2047, 4095, 8191, 16383, 16383, 16383, 131071, 16383, 16383, 16383, 2097151, 4194303, 8388607, 16777215, 33554431, 33554431, 134217727, 268435455, 536870911, 1073741823, 1073741823, 4294967295, 8589934591, 17179869183, 34359738367, 68719476735, 34359738367, 274877906943, 549755813887, 1099511627775, 2199023255551, 4398046511103, 8796093022207, 4398046511103, 35184372088831, 70368744177663, 140737488355327, 281474976710655] fmix ?_
 refine Dv [] Vm (Dv [] Vm (Dv [] Veql ?_))
 refine bool_split (rv17.2.2 == rv45.2.2) ?_ ?_
 ·intro h88
  have g89 := eq_of_beq h88
  refine Db h88 [] Vm (Dv [] Vm (Dv [] Vm (Dv [] Veql (Dv [] Vpt ?_))))
  refine bool_split (rv17.2.1 == rv45.2.1) ?_ ?_
  ·intro h90
   have g91 := eq_of_beq h90
   refine Db h90 [] Vm (Dv [9] (VldA sh59 0) (Dv [4] (VldA sh59 0) ?_))
   refine letv (flqref14_SameState rv17.1 rv45.1) fun rv92 hg93 => ?_
   refine Dx [5, 6, 7, 8, 10, 11, 12, 13] [] [1, 2, 3, 4, 5, 6, 7, 8, 0] (fun G => vb rv92) [fun G => SP.fact (True)] (fun G => xC [4, 5, 6, 7, 0, 1, 2, 3] ca36 (fn36 rv17.1 a26 k27 a30 k31 a33 k34 a36 k37 rv45.1 a55 k56 a59 k60 a62 k63 a65 k66 pre pre pre pre pre pre pre pre rv92 hg93)) (Dv [] Vpt ?_)
   refine bool_split rv92 ?_ ?_
   ·intro h94
    refine Db h94 [] Vm (Dv [15] (VldA sh27 0) (Dv [] Vm (Dv [14] (VldA sh59 0) ?_)))
    refine letv (solver_Valid s w st) fun rv96 hg97 => ?_
    refine Dx [16, 17, 18, 19, 20, 21, 22, 23] [] [1, 2, 3, 4, 5, 6, 7, 8, 0] (fun G => vb rv96) [fun G => SP.fact (True)] (fun G => xC [0, 1, 2, 3, 4, 5, 6, 7] ca42 (fn42 s sa1 sk1 sa2 sk2 sa3 sk3 w wa0 wk0 st sta1 stk1 sta2 stk2 sta5 stk5 sta6 stk6 pre pre pre pre pre rv96 hg97)) (Dv [15] (VldA sh27 0) (Dv [] Vm (Dv [14] (VldA sh59 0) ?_)))
    refine letv (flqref14_Valid s w st) fun rv98 hg99 => ?_
    refine Dx [16, 17, 18, 19, 20, 21, 22, 23] [] [1, 2, 3, 4, 5, 6, 7, 8, 0] (fun G => vb rv98) [fun G => SP.fact (True)] (fun G => xC [0, 1, 2, 3, 4, 5, 6, 7] ca92 (fn92 s sa1 sk1 sa2 sk2 sa3 sk3 w wa0 wk0 st sta1 stk1 sta2 stk2 sta5 stk5 sta6 stk6 pre pre pre pre pre rv98 hg99)) (Dv [] (Veb un4) (Dv [] Vpt ?_))
    refine bool_split (rv96 == rv98) ?_ ?_
    ·intro h100
     refine Db h100 [] Vm (Dv [] Vm (Dv [] Vm (Dv [] (Veb un4) (Dv [] Vpt ?_))))
     refine bool_split (rv71.2 == rv80.2) ?_ ?_
     ·intro h102
      refine Db h102 [] Vm (Dv [0] (VldA sh42 0) (Dv [2] (VldA sh42 0) ?_))
      refine letv (flqref1_Same rv80.1 rv71.1) fun rv104 hg105 => ?_
      refine Dx [1, 3] [] [1, 2, 0] (fun G => vb rv104) [fun G => SP.fact (True)] (fun G => xC [0, 1] ca45 (fn45 rv80.1 a84 k85 rv71.1 a75 k76 pre pre rv104 hg105)) (Dv [] Vpt ?_)
      refine bool_split rv104 ?_ ?_
      ·intro h106
       refine Db h106 [] Vm (Dv [14] (VldA sh59 0) ?_)
       refine letv (solver_Final st) fun rv109 hg110 => ?_
       refine Dx [20, 21, 22, 23] [] [2, 3, 4, 5, 0, 1] (fun G => (G.g 36 0)) [fun G => SP.fact (True), fun G => sl (G.g 36 0) rv109] (fun G => xC [0, 1, 2, 3] ca63 (fn63 st sta1 stk1 sta2 stk2 sta5 stk5 sta6 stk6 pre pre pre pre pre rv109 hg110)) (Dv [14] (VldA sh59 0) ?_)
       refine letv (flqref14_Final st) fun rv112 hg113 => Dx [20, 21, 22, 23] [] [2, 3, 4, 5, 0, 1] (fun G => (G.g 38 0)) [fun G => SP.fact (True), fun G => sl (G.g 38 0) rv112] (fun G => xC [0, 1, 2, 3] ca140 (fn140 st sta1 stk1 sta2 stk2 sta5 stk5 sta6 stk6 pre pre pre pre pre rv112 hg113)) ?_
       refine letv (flqref14_SameKnown rv109 rv112) fun rv120 hg121 => ?_
       refine Dx [29, 31] [] [1, 2, 0] (fun G => vb rv120) [fun G => SP.fact (True)] (fun G => xD [1, 0] ca139 rfl rfl rfl (FT_open (γ := Unit) (I := fun g => True) (V := fun g => vb rv120) (B := fun g => []) (R := sl (G.g 38 0) rv112) sl_slice (fun aq117 kq118 eq119 => by rw [eq119]; exact FT_ent (Ent.take (is := [1, 0]) rfl) (FT_open (γ := Unit) (I := fun g => True) (V := fun g => vb rv120) (B := fun g => []) (R := sl (G.g 36 0) rv109) sl_slice (fun aq114 kq115 eq116 => by rw [eq116]; exact FT_ent (Ent.take (is := [0, 1]) rfl) (fn139 rv109 aq114 kq115 rv112 aq117 kq118 rv120 hg121)))))) (Dv [] Vpt ?_)
       refine bool_split rv120 ?_ ?_
       ·intro h122
        refine Db h122 [] Vm (Dv [14] (VldA sh59 0) ?_)
        refine letv (solver_Used st) fun rv125 hg126 => ?_
        refine Dx [20, 21, 22, 23] [] [2, 3, 4, 5, 0, 1] (fun G => (G.g 43 0)) [fun G => SP.fact (True), fun G => sl (G.g 43 0) rv125] (fun G => xC [0, 1, 2, 3] ca64 (fn64 st sta1 stk1 sta2 stk2 sta5 stk5 sta6 stk6 pre pre pre pre pre rv125 hg126)) (Dv [14] (VldA sh59 0) ?_)
        refine letv (flqref14_Used st) fun rv128 hg129 => Dx [20, 21, 22, 23] [] [2, 3, 4, 5, 0, 1] (fun G => (G.g 45 0)) [fun G => SP.fact (True), fun G => sl (G.g 45 0) rv128] (fun G => xC [0, 1, 2, 3] ca141 (fn141 st sta1 stk1 sta2 stk2 sta5 stk5 sta6 stk6 pre pre pre pre pre rv128 hg129)) ?_
        refine letv (flqref7_Ints rv125 rv128) fun rv136 hg137 => ?_
        refine Dx [34, 36] [] [1, 2, 0] (fun G => vb rv136) [fun G => SP.fact (True)] (fun G => xD [1, 0] ca40 rfl rfl rfl (FT_open (γ := Unit) (I := fun g => True) (V := fun g => vb rv136) (B := fun g => []) (R := sl (G.g 45 0) rv128) sl_slice (fun aq133 kq134 eq135 => by rw [eq135]; exact FT_ent (Ent.take (is := [1, 0]) rfl) (FT_open (γ := Unit) (I := fun g => True) (V := fun g => vb rv136) (B := fun g => []) (R := sl (G.g 43 0) rv125) sl_slice (fun aq130 kq131 eq132 => by rw [eq132]; exact FT_ent (Ent.take (is := [0, 1]) rfl) (fn40 rv125 aq130 kq131 rv128 aq133 kq134 rv136 hg137)))))) (Dv [] Vpt (Dv [] Va ?_))
        refine Dn ⟨by kernel_rfl, fun G => ?_⟩
        refine Jw2 [(6, vb rv136)] [0, 1, 2, 3, 4, 5, 6, 7, 8, 9, 10, 11, 12, 13, 14, 15, 16, 17, 18, 19, 20, 21, 22, 23] [SP.fact (True), SP.fact (True), SP.fact (True), SP.fact (True), SP.fact (True), sl (G.g 36 0) rv109, SP.fact (True), sl (G.g 38 0) rv112, SP.fact (True), SP.fact (True), sl (G.g 43 0) rv125, SP.fact (True), sl (G.g 45 0) rv128, SP.fact (True)] ?_
        generalize G.g 36 0 = c108, G.g 38 0 = c111, G.g 43 0 = c124, G.g 45 0 = c127
        refine Jk [0, 0, 1, 1, 2, 2, 3, 4, 5, 6, 6, 7, 8, 9, 10, 11, 12, 13, 14, 15, 16, 17, 18, 19, 25, 27, 30, 32] ?_
        refine Jo 24 ?_; rintro a138 k139 rfl
        refine Fb 40 24 fun _ => ?_
        refine Jo 25 ?_; rintro a141 k142 rfl
        refine Fb 40 25 fun _ => ?_
        refine Jo 26 ?_; rintro a144 k145 rfl
        refine Fb 8 26 fun _ => Fo 26 fun ho147 => ?_
        refine Jo 27 ?_; rintro a148 k149 rfl
        refine Fb 8 27 fun _ => Fo 27 fun ho151 => ?_
        have hq := q4 hrr rv136 (by simp only [flqlaw15_steps, h88, h90, h94, h100, h102, h106, h122, hg18, hg46, hg72, hg81, hg93, hg97, hg99, hg105, hg110, hg113, hg121, hg126, hg129, hg137, cs4]); subst hq
        exact Kr () rfl (.tmp rfl .nil) [] trivial
       intro h122
       refine Db h122 [] Vm (Ds (Ds (Ds (Ds (Ds (Dv [] Vpf (Dv [] Va ?_)))))))
       refine Dn ⟨by kernel_rfl, fun G => ?_⟩
       refine Jw2 [(6, vb false)] [0, 1, 2, 3, 4, 5, 6, 7, 8, 9, 10, 11, 12, 13, 14, 15, 16, 17, 18, 19, 20, 21, 22, 23] [SP.fact (True), SP.fact (True), SP.fact (True), SP.fact (True), SP.fact (True), sl (G.g 36 0) rv109, SP.fact (True), sl (G.g 38 0) rv112, SP.fact (True)] ?_
       generalize G.g 36 0 = c108, G.g 38 0 = c111
       refine Jk [0, 0, 1, 1, 2, 2, 3, 4, 5, 6, 6, 7, 8, 9, 10, 11, 12, 13, 14, 15, 16, 17, 18, 19, 25, 27] ?_
       refine Jo 24 ?_; rintro a153 k154 rfl
       refine Fb 40 24 fun _ => ?_
       refine Jo 25 ?_; rintro a156 k157 rfl
       refine Fb 40 25 fun _ => ?_
       have hq := q4 hrr false (by simp only [flqlaw15_steps, h88, h90, h94, h100, h102, h106, h122, hg18, hg46, hg72, hg81, hg93, hg97, hg99, hg105, hg110, hg113, hg121, cs4]); subst hq
       exact Kr () rfl (.tmp rfl .nil) [] trivial
      intro h106
      refine Db h106 [] Vm (Ds (Ds (Ds (Ds (Ds (Dv [] Vpf (Dv [] Vm (Ds (Ds ?_)))))))))
      refine Ds (Ds (Ds (Dv [] Vpf (Dv [] Va ?_))))
      refine Dn ⟨by kernel_rfl, fun G => ?_⟩
      refine Jw2 [(6, vb false)] [0, 1, 2, 3, 4, 5, 6, 7, 8, 9, 10, 11, 12, 13, 14, 15, 16, 17, 18, 19, 20, 21, 22, 23] [SP.fact (True), SP.fact (True), SP.fact (True), SP.fact (True)] ?_
      refine Jk [0, 0, 1, 1, 2, 2, 3, 4, 5, 6, 6, 7, 8, 9, 10, 11, 12, 13, 14, 15, 16, 17, 18, 19] ?_
      have hq := q4 hrr false (by simp only [flqlaw15_steps, h88, h90, h94, h100, h102, h106, hg18, hg46, hg72, hg81, hg93, hg97, hg99, hg105, cs4]); subst hq
      exact Kr () rfl (.tmp rfl .nil) [] trivial
     intro h102
     refine Db h102 [] Vm (Ds (Ds (Ds (Dv [] Vpf (Dv [] Vm (Ds (Ds (Ds (Ds ?_)))))))))
     refine Ds (Dv [] Vpf (Dv [] Vm (Ds (Ds (Ds (Ds (Ds (Dv [] Vpf (Dv [] Va ?_)))))))))
     refine Dn ⟨by kernel_rfl, fun G => ?_⟩
     refine Jw2 [(6, vb false)] [0, 1, 2, 3, 4, 5, 6, 7, 8, 9, 10, 11, 12, 13, 14, 15, 16, 17, 18, 19, 20, 21, 22, 23] [SP.fact (True), SP.fact (True), SP.fact (True)] ?_
     refine Jk [0, 0, 1, 1, 2, 2, 3, 4, 5, 6, 6, 7, 8, 9, 10, 11, 12, 13, 14, 15, 16, 17, 18, 19] ?_
     have hq := q4 hrr false (by simp only [flqlaw15_steps, h88, h90, h94, h100, h102, hg18, hg46, hg72, hg81, hg93, hg97, hg99, cs4]); subst hq
     exact Kr () rfl (.tmp rfl .nil) [] trivial
    intro h100
    refine Db h100 [] Vm (Ds (Ds (Ds (Dv [] Vpf (Dv [] Vm (Ds (Ds (Ds (Dv [] Vpf ?_)))))))))
    refine Dv [] Vm (Ds (Ds (Ds (Ds (Ds (Dv [] Vpf (Dv [] Vm (Ds (Ds ?_)))))))))
    refine Ds (Ds (Ds (Dv [] Vpf (Dv [] Va ?_))))
    refine Dn ⟨by kernel_rfl, fun G => ?_⟩
    refine Jw2 [(6, vb false)] [0, 1, 2, 3, 4, 5, 6, 7, 8, 9, 10, 11, 12, 13, 14, 15, 16, 17, 18, 19, 20, 21, 22, 23] [SP.fact (True), SP.fact (True), SP.fact (True)] ?_
    refine Jk [0, 0, 1, 1, 2, 2, 3, 4, 5, 6, 6, 7, 8, 9, 10, 11, 12, 13, 14, 15, 16, 17, 18, 19] ?_
    have hq := q4 hrr false (by simp only [flqlaw15_steps, h88, h90, h94, h100, hg18, hg46, hg72, hg81, hg93, hg97, hg99, cs4]); subst hq
    exact Kr () rfl (.tmp rfl .nil) [] trivial
   intro h94
   refine Db h94 [] Vm (Ds (Ds (Ds (Ds (Ds (Ds (Ds (Ds (Ds ?_)))))))))
   refine Dv [] Vpf (Dv [] Vm (Ds (Ds (Ds (Dv [] Vpf (Dv [] Vm (Ds (Ds (Ds ?_)))))))))
   refine Dv [] Vpf (Dv [] Vm (Ds (Ds (Ds (Ds (Ds (Dv [] Vpf (Dv [] Vm (Ds ?_)))))))))
   refine Ds (Ds (Ds (Ds (Dv [] Vpf (Dv [] Va ?_)))))
   refine Dn ⟨by kernel_rfl, fun G => ?_⟩
   refine Jw2 [(6, vb false)] [0, 1, 2, 3, 4, 5, 6, 7, 8, 9, 10, 11, 12, 13, 14, 15, 16, 17, 18, 19, 20, 21, 22, 23] [SP.fact (True)] ?_
   refine Jk [0, 0, 1, 1, 2, 2, 3, 4, 5, 6, 6, 7, 8, 9, 10, 11, 12, 13, 14, 15, 16, 17, 18, 19] ?_
   have hq := q4 hrr false (by simp only [flqlaw15_steps, h88, h90, h94, hg18, hg46, hg72, hg81, hg93, cs4]); subst hq
   exact Kr () rfl (.tmp rfl .nil) [] trivial
  intro h90
  have g163 := ne_of_beq_false h90
  refine Db h90 [] Vm (Ds (Ds (Ds (Dv [] Vpf (Dv [] Vm (Ds (Ds (Ds (Ds ?_)))))))))
  refine Ds (Ds (Ds (Ds (Ds (Dv [] Vpf (Dv [] Vm (Ds (Ds (Ds ?_)))))))))
  refine Dv [] Vpf (Dv [] Vm (Ds (Ds (Ds (Dv [] Vpf (Dv [] Vm (Ds (Ds (Ds ?_)))))))))
  refine Ds (Ds (Dv [] Vpf (Dv [] Vm (Ds (Ds (Ds (Ds (Ds (Dv [] Vpf ?_)))))))))
  refine Dv [] Va ?_
  refine Dn ⟨by kernel_rfl, fun G => ?_⟩
  refine Jw2 [(6, vb false)] [0, 1, 2, 3, 4, 5, 6, 7, 8, 9, 10, 11, 12, 13, 14, 15, 16, 17, 18, 19, 20, 21, 22, 23] [] ?_
  have hq := q4 hrr false (by simp only [flqlaw15_steps, h88, h90, hg18, hg46, hg72, hg81, cs4]); subst hq
  exact Kr () rfl (.tmp rfl .nil) [] trivial
 intro h88
 have g164 := ne_of_beq_false h88
 refine Db h88 [] Vm (Ds (Ds (Ds (Dv [] Vpf (Dv [] Vm (Ds (Ds (Ds (Dv [] Vpf ?_)))))))))
 refine Dv [] Vm (Ds (Ds (Ds (Ds (Ds (Ds (Ds (Ds (Ds ?_)))))))))
 refine Dv [] Vpf (Dv [] Vm (Ds (Ds (Ds (Dv [] Vpf (Dv [] Vm (Ds (Ds (Ds ?_)))))))))
 refine Dv [] Vpf (Dv [] Vm (Ds (Ds (Ds (Ds (Ds (Dv [] Vpf (Dv [] Vm (Ds ?_)))))))))
 refine Ds (Ds (Ds (Ds (Dv [] Vpf (Dv [] Va ?_)))))
 refine Dn ⟨by kernel_rfl, fun G => ?_⟩
 refine Jw2 [(6, vb false)] [0, 1, 2, 3, 4, 5, 6, 7, 8, 9, 10, 11, 12, 13, 14, 15, 16, 17, 18, 19, 20, 21, 22, 23] [] ?_
 have hq := q4 hrr false (by simp only [flqlaw15_steps, h88, hg18, hg46, hg72, hg81, cs4]); subst hq
 exact Kr () rfl (.tmp rfl .nil) [] trivial
end Go.SL.G
