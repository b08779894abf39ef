/- Part 6 of the walks: mirrors, plain laws and walks used by the last text of this claim. -/
import Derived.Test.YtnlgcebcopebdaaDoorW5
import Derived.Test.YtnlgcebcopebdaaDoorProg
set_option linter.unusedVariables false
set_option linter.unusedSimpArgs false
namespace Go.SL.G
open Go Go.SL Go.Proofs
set_option maxHeartbeats 20000000
set_option maxRecDepth 100000
theorem QvP (tP : Value) (ta : Option Addr) (tk : Nat) (tT : List Int) (tI : Int) (funcs : Int) (htI : 0 <= tI /\ tI <= (tT.length : Int)) (QoB : Qac funcs) (hfu : funcs <= 3) (rr : Qax × Int) (hrr : QeX tT tI funcs = rr) : FT Tryd.prog 20 #[tP, vi funcs] [Cl tP [vl ta tk tT, vi tI], S ta tk tT] (fun g : Value × Value => Qac rr.1.Op /\ rr.1.Def.b.length <= 140737488355328 /\ (0 <= rr.2 /\ rr.2 <= (tT.length : Int))) (fun g => .agg #[vi rr.1.Op, .string (bs rr.1.Def), g.1, g.2]) (fun g => [os g.1 rr.1.Uses, os g.2 rr.1.Targets, Cl tP [vl ta tk tT, vi rr.2]]) := by
 refine FTi Tryd.func20 fun w0 M0 F0 => ?_
 unfold Qac at QoB
 refine Fb 8 1 fun _ => Fo 1 fun ho2 => KS ?_
 refine Oa (Al Qqr [vi 0, .string (bs (Str.mk [])), .slice none 0 0, .slice none 0 0]) fun p3 => KS ?_
 refine Oq Vm ?_
 refine QaO (QaK tT tI 9) fun rv4 hg5 => ?_
 have hc6 := Qmo tP ta tk tT tI 9 pre pre rv4 hg5
 refine Oc [1, 1] Qmm hc6 ?_
 rintro - ⟨he7, he8, he9⟩
 unfold Qac at he7
 refine KS ?_
 refine Oq Qby (Oq Va (KS ?_))
 refine Kc ?_ ?_
 ·intro h10
  have g11 := eq_of_beq h10
  refine KS ?_
  refine Oq Vm ?_
  refine QaO (Qci tT rv4.2) fun rv12 hg13 => ?_
  have hc14 := QnI tP ta tk tT rv4.2 pre rv12 hg13
  refine Oc [0, 1] QnK hc14 ?_
  rintro - ⟨he15, he16⟩
  refine Oq Vm ?_
  refine QaO (Qci tT rv12.2) fun rv17 hg18 => ?_
  have hc19 := QnI tP ta tk tT rv12.2 pre rv17 hg18
  refine Oc [0, 1] QnK hc19 ?_
  rintro - ⟨he20, he21⟩
  refine Oa (AsV Qcy Qe3 [.string (bs rv12.1), .string (bs rv17.1)] [.string (bs rv12.1), .string (bs rv17.1)]) fun c22 => ?_
  refine Jo 0 ?_; rintro a23 k24 rfl
  refine Oq Vm ?_
  refine QaO (QaK tT rv17.2 2) fun rv25 hg26 => ?_
  have hc27 := Qmo tP ta tk tT rv17.2 2 pre pre rv25 hg26
  refine Oc [1, 2] Qmm hc27 ?_
  rintro - ⟨he28, he29, he30⟩
  unfold Qac at he28
  refine Oq Qbd ?_
  refine Jl [1] (Ent.crOs (α := Str) (A := []) _ ([rv12.1, rv17.1] : List Str) _ aB1 (fun h => ⟨[.string (bs rv12.1)], [.string (bs rv17.1)], rfl, (fun _ => ⟨rfl, by first | omega | (simp; done) | (dsimp only; omega) | exact Qcf rfl⟩) h, ⟨[.string (bs rv17.1)], [], rfl, (fun _ => ⟨rfl, by first | omega | (simp; done) | (dsimp only; omega) | exact Qcf rfl⟩) h, rfl⟩⟩)) ?_
  refine Oa (Qt9 [0] Qcy 0 (((1 + rv25.1) : Int).toNat)) fun c31 => ?_
  refine Jo 0 ?_; rintro a32 k33 rfl
  refine Fb 16 0 fun _ => ?_
  refine FoS 0 fun ho35 => ?_
  have hn36 : (([rv12.1, rv17.1].take (((1 + rv25.1) : Int).toNat)).drop 0).length = (((1 + rv25.1) : Int).toNat) - 0 := QkB rng rng
  refine Oq (Vbd QnH [vi 2, .string (bs (Str.mk [])), .slice a32 ((([rv12.1, rv17.1].take (((1 + rv25.1) : Int).toNat)).drop 0).length) k33, .slice none 0 0]) (Ost (Scl [2] QdF [vi 2, .string (bs (Str.mk [])), .slice a32 ((([rv12.1, rv17.1].take (((1 + rv25.1) : Int).toNat)).drop 0).length) k33, .slice none 0 0]) (KS ?_))
  refine Jl [] (Ent.osNil (α := Str)) ?_
  have hq := q4 hrr ((Qax.mk 2 (Str.mk []) (([rv12.1, rv17.1].take (((1 + rv25.1) : Int).toNat)).drop 0) []), rv25.2) (by simp only [QeX, h10, hg5, hg13, hg18, hg26, cs4]); subst hq
  exact Kr (.slice a32 ((([rv12.1, rv17.1].take (((1 + rv25.1) : Int).toNat)).drop 0).length) k33, .slice none 0 0) rfl (.cellN 1 rfl QdF rfl (QaC _ _) rfl .nil) [2, 0, 1] en
 intro h10
 have g37 := ne_of_beq_false h10
 refine KS ?_
 refine Oq Qby (Oq Va (KS ?_))
 refine Kc ?_ ?_
 ·intro h38
  have g39 := eq_of_beq h38
  refine KS ?_
  refine Oq Vm ?_
  refine QaO (Qci tT rv4.2) fun rv40 hg41 => ?_
  have hc42 := QnI tP ta tk tT rv4.2 pre rv40 hg41
  refine Oc [0, 1] QnK hc42 ?_
  rintro - ⟨he43, he44⟩
  refine Oq (Vbd QnH [vi 4, .string (bs rv40.1), .slice none 0 0, .slice none 0 0]) (Ost (Scl [1] QdF [vi 4, .string (bs rv40.1), .slice none 0 0, .slice none 0 0]) (KS ?_))
  refine Jl [] (Ent.osNil (α := Str)) ?_
  refine Jl [] (Ent.osNil (α := Str)) ?_
  have hq := q4 hrr ((Qax.mk 4 rv40.1 [] []), rv40.2) (by simp only [QeX, h10, h38, hg5, hg41, cs4]); subst hq
  exact Kr (.slice none 0 0, .slice none 0 0) rfl (.cellN 2 rfl QdF rfl (QaC _ _) rfl .nil) [1, 0, 1] en
 intro h38
 have g45 := ne_of_beq_false h38
 refine KS ?_
 refine Oq Qby (Oq Va (KS ?_))
 refine Kc ?_ ?_
 ·intro h46
  have g47 := eq_of_beq h46
  refine KS ?_
  refine Oq Vm ?_
  refine QaO (Qci tT rv4.2) fun rv48 hg49 => ?_
  have hc50 := QnI tP ta tk tT rv4.2 pre rv48 hg49
  refine Oc [0, 1] QnK hc50 ?_
  rintro - ⟨he51, he52⟩
  refine Oa (AsV Qcy Qe3 [.string (bs rv48.1)] [.string (bs rv48.1)]) fun c53 => ?_
  refine Jo 0 ?_; rintro a54 k55 rfl
  refine Oq (Vbd QnH [vi 5, .string (bs (Str.mk [])), .slice a54 1 k55, .slice none 0 0]) (Ost (Scl [2] QdF [vi 5, .string (bs (Str.mk [])), .slice a54 1 k55, .slice none 0 0]) (KS ?_))
  refine Jl [1] (Ent.cr1 (α := Str) (A := []) _ rv48.1 _ aB1 (fun _ => ⟨rfl, aS1⟩)) ?_
  refine Jl [] (Ent.osNil (α := Str)) ?_
  have hq := q4 hrr ((Qax.mk 5 (Str.mk []) [rv48.1] []), rv48.2) (by simp only [QeX, h10, h38, h46, hg5, hg49, cs4]); subst hq
  exact Kr (.slice a54 1 k55, .slice none 0 0) rfl (.cellN 2 rfl QdF rfl (QaC _ _) rfl .nil) [1, 0, 1] en
 intro h46
 have g56 := ne_of_beq_false h46
 refine KS ?_
 refine Oq Qby (Oq Va (KS ?_))
 refine Kc ?_ ?_
 ·intro h57
  have g58 := eq_of_beq h57
  refine KS ?_
  refine Oq Vm ?_
  refine QaO (Qci tT rv4.2) fun rv59 hg60 => ?_
  have hc61 := QnI tP ta tk tT rv4.2 pre rv59 hg60
  refine Oc [0, 1] QnK hc61 ?_
  rintro - ⟨he62, he63⟩
  refine Oq (Vbd QnH [vi 6, .string (bs rv59.1), .slice none 0 0, .slice none 0 0]) (Ost (Scl [1] QdF [vi 6, .string (bs rv59.1), .slice none 0 0, .slice none 0 0]) (KS ?_))
  refine Jl [] (Ent.osNil (α := Str)) ?_
  refine Jl [] (Ent.osNil (α := Str)) ?_
  have hq := q4 hrr ((Qax.mk 6 rv59.1 [] []), rv59.2) (by simp only [QeX, h10, h38, h46, h57, hg5, hg60, cs4]); subst hq
  exact Kr (.slice none 0 0, .slice none 0 0) rfl (.cellN 2 rfl QdF rfl (QaC _ _) rfl .nil) [1, 0, 1] en
 intro h57
 have g64 := ne_of_beq_false h57
 refine KS ?_
 refine Oq Qby (Oq Va (KS ?_))
 refine Kc ?_ ?_
 ·intro h65
  have g66 := eq_of_beq h65
  refine KS ?_
  refine Kc ?_ ?_
  ·intro h67
   have g68 := eq_of_beq h67
   refine KS ?_
   refine Oa (AsV Qcy Qe3 [.string (bs (Str.mk [109])), .string (bs (Str.mk [102])), .string (bs (Str.mk [103]))] [.string (bs (Str.mk [109])), .string (bs (Str.mk [102])), .string (bs (Str.mk [103]))]) fun c69 => ?_
   refine Jo 0 ?_; rintro a70 k71 rfl
   refine Oq Vm (Oq Vm ?_)
   refine QaO (QaK tT rv4.2 funcs) fun rv72 hg73 => ?_
   have hc74 := Qmo tP ta tk tT rv4.2 funcs pre pre rv72 hg73
   refine Oc [1, 2] Qmm hc74 ?_
   rintro - ⟨he75, he76, he77⟩
   unfold Qac at he75
   refine Jl [1] (Ent.crOs (α := Str) (A := []) _ ([(Str.mk [109]), (Str.mk [102]), (Str.mk [103])] : List Str) _ aB1 (fun h => ⟨[.string (bs (Str.mk [109]))], [.string (bs (Str.mk [102])), .string (bs (Str.mk [103]))], rfl, (fun _ => ⟨rfl, by first | omega | (simp; done) | (dsimp only; omega) | exact Qcf rfl⟩) h, ⟨[.string (bs (Str.mk [102]))], [.string (bs (Str.mk [103]))], rfl, (fun _ => ⟨rfl, by first | omega | (simp; done) | (dsimp only; omega) | exact Qcf rfl⟩) h, ⟨[.string (bs (Str.mk [103]))], [], rfl, (fun _ => ⟨rfl, by first | omega | (simp; done) | (dsimp only; omega) | exact Qcf rfl⟩) h, rfl⟩⟩⟩)) ?_
   refine Oq (Vi Qcy 0) ?_
   refine Fb 16 0 fun _ => ?_
   refine FoS 0 fun ho79 => ?_
   have hb80 := okS (i := rv72.1.toNat) ho79 rng
   refine Oq (Qk5 sh9 0) (Oa (AsV Qcy Qe3 [.string (bs ([(Str.mk [109]), (Str.mk [102]), (Str.mk [103])].getD rv72.1.toNat default))] [.string (bs ([(Str.mk [109]), (Str.mk [102]), (Str.mk [103])].getD rv72.1.toNat default))]) fun c81 => ?_)
   refine Jo 0 ?_; rintro a82 k83 rfl
   refine Oq (Vbd QnH [vi 3, .string (bs (Str.mk [])), .slice none 0 0, .slice a82 1 k83]) (Ost (Scl [3] QdF [vi 3, .string (bs (Str.mk [])), .slice none 0 0, .slice a82 1 k83]) (KS ?_))
   refine Jl [] (Ent.osNil (α := Str)) ?_
   refine Jl [2] (Ent.cr1 (α := Str) (A := []) _ ([(Str.mk [109]), (Str.mk [102]), (Str.mk [103])].getD rv72.1.toNat default) _ aB1 (fun _ => ⟨rfl, aS1⟩)) ?_
   have hq := q4 hrr ((Qax.mk 3 (Str.mk []) [] [([(Str.mk [109]), (Str.mk [102]), (Str.mk [103])].getD rv72.1.toNat default)]), rv72.2) (by simp only [QeX, h10, h38, h46, h57, h65, h67, hg5, hg73, cs4]); subst hq
   exact Kr (.slice none 0 0, .slice a82 1 k83) rfl (.cellN 2 rfl QdF rfl (QaC _ _) rfl .nil) [1, 0, 2] en
  intro h67
  exact absurd h67 (by first | (simp [h65]; done) | (simp only [bne, h65]; decide) | (simp only [bne, h65, Bool.not_true, Bool.not_false]; decide) | (exfalso; omega) | (intro hq; simp only [bne, hq, Bool.not_false, Bool.not_true, reduceCtorEq] at h65))
 intro h65
 have g84 := ne_of_beq_false h65
 refine KS ?_
 refine Oq Qby (Oq Va (KS ?_))
 refine Kc ?_ ?_
 ·intro h85
  have g86 := eq_of_beq h85
  refine KS ?_
  refine Oa (AsV Qcy Qe3 [.string (bs (Str.mk [109])), .string (bs (Str.mk [102])), .string (bs (Str.mk [103]))] [.string (bs (Str.mk [109])), .string (bs (Str.mk [102])), .string (bs (Str.mk [103]))]) fun c87 => ?_
  refine Jo 0 ?_; rintro a88 k89 rfl
  refine Oq Vm (Oq Vm ?_)
  refine QaO (QaK tT rv4.2 funcs) fun rv90 hg91 => ?_
  have hc92 := Qmo tP ta tk tT rv4.2 funcs pre pre rv90 hg91
  refine Oc [1, 2] Qmm hc92 ?_
  rintro - ⟨he93, he94, he95⟩
  unfold Qac at he93
  refine Jl [1] (Ent.crOs (α := Str) (A := []) _ ([(Str.mk [109]), (Str.mk [102]), (Str.mk [103])] : List Str) _ aB1 (fun h => ⟨[.string (bs (Str.mk [109]))], [.string (bs (Str.mk [102])), .string (bs (Str.mk [103]))], rfl, (fun _ => ⟨rfl, by first | omega | (simp; done) | (dsimp only; omega) | exact Qcf rfl⟩) h, ⟨[.string (bs (Str.mk [102]))], [.string (bs (Str.mk [103]))], rfl, (fun _ => ⟨rfl, by first | omega | (simp; done) | (dsimp only; omega) | exact Qcf rfl⟩) h, ⟨[.string (bs (Str.mk [103]))], [], rfl, (fun _ => ⟨rfl, by first | omega | (simp; done) | (dsimp only; omega) | exact Qcf rfl⟩) h, rfl⟩⟩⟩)) ?_
  refine Oq (Vi Qcy 0) ?_
  refine Fb 16 0 fun _ => ?_
  refine FoS 0 fun ho97 => ?_
  have hb98 := okS (i := rv90.1.toNat) ho97 rng
  refine Oq (Qk5 sh9 0) (Oa (AsV Qcy Qe3 [.string (bs ([(Str.mk [109]), (Str.mk [102]), (Str.mk [103])].getD rv90.1.toNat default))] [.string (bs ([(Str.mk [109]), (Str.mk [102]), (Str.mk [103])].getD rv90.1.toNat default))]) fun c99 => ?_)
  refine Jo 0 ?_; rintro a100 k101 rfl
  refine Oq (Vbd QnH [vi 3, .string (bs (Str.mk [])), .slice none 0 0, .slice a100 1 k101]) (Ost (Scl [3] QdF [vi 3, .string (bs (Str.mk [])), .slice none 0 0, .slice a100 1 k101]) (KS ?_))
  refine Jl [] (Ent.osNil (α := Str)) ?_
  refine Jl [2] (Ent.cr1 (α := Str) (A := []) _ ([(Str.mk [109]), (Str.mk [102]), (Str.mk [103])].getD rv90.1.toNat default) _ aB1 (fun _ => ⟨rfl, aS1⟩)) ?_
  have hq := q4 hrr ((Qax.mk 3 (Str.mk []) [] [([(Str.mk [109]), (Str.mk [102]), (Str.mk [103])].getD rv90.1.toNat default)]), rv90.2) (by simp only [QeX, h10, h38, h46, h57, h65, h85, hg5, hg91, cs4]); subst hq
  exact Kr (.slice none 0 0, .slice a100 1 k101) rfl (.cellN 2 rfl QdF rfl (QaC _ _) rfl .nil) [1, 0, 2] en
 intro h85
 have g102 := ne_of_beq_false h85
 refine KS ?_
 refine Oq Vm ?_
 refine QaO (Qci tT rv4.2) fun rv103 hg104 => ?_
 have hc105 := QnI tP ta tk tT rv4.2 pre rv103 hg104
 refine Oc [0, 1] QnK hc105 ?_
 rintro - ⟨he106, he107⟩
 refine Oq Vm ?_
 refine QaO (Qci tT rv103.2) fun rv108 hg109 => ?_
 have hc110 := QnI tP ta tk tT rv103.2 pre rv108 hg109
 refine Oc [0, 1] QnK hc110 ?_
 rintro - ⟨he111, he112⟩
 refine Oq Vm ?_
 refine QaO (Qci tT rv108.2) fun rv113 hg114 => ?_
 have hc115 := QnI tP ta tk tT rv108.2 pre rv113 hg114
 refine Oc [0, 1] QnK hc115 ?_
 rintro - ⟨he116, he117⟩
 refine Oq Vm ?_
 refine QaO (Qci tT rv113.2) fun rv118 hg119 => ?_
 have hc120 := QnI tP ta tk tT rv113.2 pre rv118 hg119
 refine Oc [0, 1] QnK hc120 ?_
 rintro - ⟨he121, he122⟩
 refine Oa (AsV Qcy Qe3 [.string (bs rv108.1), .string (bs rv113.1), .string (bs rv118.1)] [.string (bs rv108.1), .string (bs rv113.1), .string (bs rv118.1)]) fun c123 => ?_
 refine Jo 0 ?_; rintro a124 k125 rfl
 refine Oq Vm ?_
 refine QaO (QaK tT rv118.2 4) fun rv126 hg127 => ?_
 have hc128 := Qmo tP ta tk tT rv118.2 4 pre pre rv126 hg127
 refine Oc [1, 2] Qmm hc128 ?_
 rintro - ⟨he129, he130, he131⟩
 unfold Qac at he129
 refine Jl [1] (Ent.crOs (α := Str) (A := []) _ ([rv108.1, rv113.1, rv118.1] : List Str) _ aB1 (fun h => ⟨[.string (bs rv108.1)], [.string (bs rv113.1), .string (bs rv118.1)], rfl, (fun _ => ⟨rfl, by first | omega | (simp; done) | (dsimp only; omega) | exact Qcf rfl⟩) h, ⟨[.string (bs rv113.1)], [.string (bs rv118.1)], rfl, (fun _ => ⟨rfl, by first | omega | (simp; done) | (dsimp only; omega) | exact Qcf rfl⟩) h, ⟨[.string (bs rv118.1)], [], rfl, (fun _ => ⟨rfl, by first | omega | (simp; done) | (dsimp only; omega) | exact Qcf rfl⟩) h, rfl⟩⟩⟩)) ?_
 refine Oa (Qt9 [0] Qcy 0 (rv126.1.toNat)) fun c132 => ?_
 refine Jo 0 ?_; rintro a133 k134 rfl
 refine Fb 16 0 fun _ => ?_
 refine FoS 0 fun ho136 => ?_
 have hn137 : (([rv108.1, rv113.1, rv118.1].take (rv126.1.toNat)).drop 0).length = (rv126.1.toNat) - 0 := QkB rng rng
 refine Oq (Vbd QnH [vi 1, .string (bs rv103.1), vl a133 k134 (([rv108.1, rv113.1, rv118.1].take (rv126.1.toNat)).drop 0), .slice none 0 0]) (Ost (Scl [2] QdF [vi 1, .string (bs rv103.1), vl a133 k134 (([rv108.1, rv113.1, rv118.1].take (rv126.1.toNat)).drop 0), .slice none 0 0]) (KS ?_))
 refine Jl [] (Ent.osNil (α := Str)) ?_
 have hq := q4 hrr ((Qax.mk 1 rv103.1 (([rv108.1, rv113.1, rv118.1].take (rv126.1.toNat)).drop 0) []), rv126.2) (by simp only [QeX, h10, h38, h46, h57, h65, h85, hg5, hg104, hg109, hg114, hg119, hg127, cs4]); subst hq
 exact Kr (vl a133 k134 (([rv108.1, rv113.1, rv118.1].take (rv126.1.toNat)).drop 0), .slice none 0 0) rfl (.cellN 1 rfl QdF rfl (QaC _ _) rfl .nil) [2, 0, 1] en
theorem QuG (i : Int) (Qss : Qac i) (hi2 : (0 <= i /\ i < 3)) (rr : Str) (hrr : Qgp i = rr) : FT Tryd.prog 21 #[vi i] [] (fun g : Unit => rr.b.length <= 140737488355328) (fun g => .string (bs rr)) (fun g => []) := by
 refine FTi Tryd.func21 fun w0 M0 F0 => ?_
 unfold Qac at Qss
 refine KS ?_
 refine Oq Va (KS ?_)
 refine Oa (AsV Qcy Qe3 [.string (bs (Str.mk [97])), .string (bs (Str.mk [98])), .string (bs (Str.mk [99]))] [.string (bs (Str.mk [97])), .string (bs (Str.mk [98])), .string (bs (Str.mk [99]))]) fun c1 => ?_
 refine Jo 0 ?_; rintro a2 k3 rfl
 refine Oq Vm ?_
 refine Jl [0] (Ent.crOs (α := Str) (A := []) _ ([(Str.mk [97]), (Str.mk [98]), (Str.mk [99])] : List Str) _ aB1 (fun h => ⟨[.string (bs (Str.mk [97]))], [.string (bs (Str.mk [98])), .string (bs (Str.mk [99]))], rfl, (fun _ => ⟨rfl, by first | omega | (simp; done) | (dsimp only; omega) | exact Qcf rfl⟩) h, ⟨[.string (bs (Str.mk [98]))], [.string (bs (Str.mk [99]))], rfl, (fun _ => ⟨rfl, by first | omega | (simp; done) | (dsimp only; omega) | exact Qcf rfl⟩) h, ⟨[.string (bs (Str.mk [99]))], [], rfl, (fun _ => ⟨rfl, by first | omega | (simp; done) | (dsimp only; omega) | exact Qcf rfl⟩) h, rfl⟩⟩⟩)) ?_
 refine Oq (Vi Qcy 0) ?_
 refine Fb 16 0 fun _ => ?_
 refine FoS 0 fun ho5 => ?_
 have hb6 := okS (i := i.toNat) ho5 rng
 refine Oq (Qk5 sh9 0) (Oq Va (KS ?_))
 have hq := q4 hrr ([(Str.mk [97]), (Str.mk [98]), (Str.mk [99])].getD i.toNat default) (by simp only [Qgp, cs4]); subst hq
 exact Kr () rfl (.tmp rfl .nil) [] en
theorem fn7 (tP : Value) (ta : Option Addr) (tk : Nat) (tT : List Int) (tI : Int) (htI : 0 <= tI /\ tI <= (tT.length : Int)) (rr : Qaj × Int) (hrr : Qd4 tT tI = rr) : FT Tryd.prog 7 #[tP] [Cl tP [vl ta tk tT, vi tI], S ta tk tT] (fun g : Value => (0 <= rr.2 /\ rr.2 <= (tT.length : Int))) (fun g => .agg #[g]) (fun g => [sl g rr.1.Funcs, Cl tP [vl ta tk tT, vi rr.2]]) := by
 refine FTi Tryd.func7 fun w0 M0 F0 => Fb 8 1 fun _ => Fo 1 fun ho2 => ?_
 refine KS ?_
 refine Oa (Al QqM [.slice none 0 0]) fun p3 => KS ?_
 refine Oa (Al QqM [.slice none 0 0]) fun p4 => KS ?_
 refine Oq Vm ?_
 refine QaO (QaK tT tI 3) fun rv5 hg6 => ?_
 have hc7 := Qmo tP ta tk tT tI 3 pre pre rv5 hg6
 refine Oc [2, 2] Qmm hc7 ?_
 rintro - ⟨he8, he9, he10⟩
 unfold Qac at he8
 refine Oq Qbd (Oq Va (KS ?_))
 refine Oq Va (KS ?_)
 refine Jl [] (Ent.osNil (α := Qbv)) ?_
 refine Kl (γ := Nat × Int × List Qbv × Int × Option Addr × Nat) (fun (r11, Qjx, Qhu, Qh6, a15, k16) => ⟨[(0, tP), (2, p3), (3, p4), (4, vi (1 + rv5.1)), (5, vi Qh6)], [O a15 k16 Qhu, Cl tP [vl ta tk tT, vi Qjx], Cl p4 [vl a15 k16 Qhu], Cl p3 [.slice none 0 0], S ta tk tT], QbA tT (1 + rv5.1) r11 Qjx Qhu Qh6 = QbA tT (1 + rv5.1) ((((1 + rv5.1) : Int) - 0).toNat) rv5.2 [] 0 /\ r11 = (((1 + rv5.1) : Int) - Qh6).toNat /\ (0 : Int) <= Qh6 /\ (Qh6 <= (1 + rv5.1) \/ Qh6 = 0) /\ (-9223372036854775808 <= Qjx /\ Qjx <= 9223372036854775807) /\ (0 <= Qjx /\ Qjx <= (tT.length : Int)) /\ (-9223372036854775808 <= Qh6 /\ Qh6 <= 9223372036854775807) /\ ((Qhu.length : Int) = Qh6), r11⟩) ((((1 + rv5.1) : Int) - 0).toNat, rv5.2, [], 0, none, 0) [0, 0, 0, 0, 0] ⟨rfl, rfl, aM1, (.inr rfl), aM1, aM1, aM1, iv0⟩ ?_
 rintro ⟨r11, Qjx, Qhu, Qh6, a15, k16⟩ ⟨hM17, hr18, hi19, hi20, hk21, ht22, hk23, hv24⟩
 refine QbB fun _ _ hL hA => ?_; dsimp only at hL hA; subst hL hA
 refine Fb 40 0 fun _ => Fb 8 4 fun _ => Fo 4 fun ho27 => KS ?_
 refine Oq Vm (Oq Vm (Oq Qcu (KS ?_)))
 refine Kc ?_ ?_
 ·intro h28
  have g29 := dt h28
  obtain ⟨r30, rfl⟩ := scc (n := r11) aM1
  refine KS ?_
  refine Oa (AsV Qcy Qe3 [.string (bs (Str.mk [109])), .string (bs (Str.mk [102])), .string (bs (Str.mk [103]))] [.string (bs (Str.mk [109])), .string (bs (Str.mk [102])), .string (bs (Str.mk [103]))]) fun c31 => ?_
  refine Jo 0 ?_; rintro a32 k33 rfl
  refine Oq Vm ?_
  refine Jl [0] (Ent.crOs (α := Str) (A := []) _ ([(Str.mk [109]), (Str.mk [102]), (Str.mk [103])] : List Str) _ aB1 (fun h => ⟨[.string (bs (Str.mk [109]))], [.string (bs (Str.mk [102])), .string (bs (Str.mk [103]))], rfl, (fun _ => ⟨rfl, by first | omega | (simp; done) | (dsimp only; omega) | exact Qcf rfl⟩) h, ⟨[.string (bs (Str.mk [102]))], [.string (bs (Str.mk [103]))], rfl, (fun _ => ⟨rfl, by first | omega | (simp; done) | (dsimp only; omega) | exact Qcf rfl⟩) h, ⟨[.string (bs (Str.mk [103]))], [], rfl, (fun _ => ⟨rfl, by first | omega | (simp; done) | (dsimp only; omega) | exact Qcf rfl⟩) h, rfl⟩⟩⟩)) ?_
  refine Oq (Vi Qcy 0) ?_
  refine Fb 16 0 fun _ => ?_
  refine FoS 0 fun ho35 => ?_
  have hb36 := okS (i := Qh6.toNat) ho35 rng
  refine Oq (Qk5 sh9 0) (Oq (Vbd QvW [.string (bs ([(Str.mk [109]), (Str.mk [102]), (Str.mk [103])].getD Qh6.toNat default)), .slice none 0 0]) (Oa (Al QnG [.string (bs (Str.mk [])), .slice none 0 0]) fun p37 => Ost (Scl [0] Qhk [.string (bs ([(Str.mk [109]), (Str.mk [102]), (Str.mk [103])].getD Qh6.toNat default)), .slice none 0 0]) (KS ?_)))
  refine Oq Vm ?_
  refine QaO (QaK tT Qjx 3) fun rv38 hg39 => ?_
  have hc40 := Qmo tP ta tk tT Qjx 3 pre pre rv38 hg39
  refine Oc [3, 5] Qmm hc40 ?_
  rintro - ⟨he41, he42, he43⟩
  unfold Qac at he41
  refine Oq Qbd (Oq Va (KS ?_))
  refine Oq Va (KS ?_)
  refine Jl [] (Ent.osNil (α := QaM)) ?_
  refine Kl (γ := Nat × Int × List QaM × Int × Option Addr × Nat) (fun (r44, Qjy, QfP, Qgc, a48, k49) => ⟨[(0, tP), (2, p3), (3, p4), (4, vi (1 + rv5.1)), (5, vi Qh6), (6, p37), (7, vi (1 + rv38.1)), (8, vi Qgc)], [O a48 k49 QfP, Cl tP [vl ta tk tT, vi Qjy], Cl p37 [.string (bs ([(Str.mk [109]), (Str.mk [102]), (Str.mk [103])].getD Qh6.toNat default)), vl a48 k49 QfP], O a15 k16 Qhu, Cl p4 [vl a15 k16 Qhu], Cl p3 [.slice none 0 0], S ta tk tT], Qa0 tT (1 + rv5.1) (1 + rv38.1) r44 Qjy QfP Qgc = Qa0 tT (1 + rv5.1) (1 + rv38.1) ((((1 + rv38.1) : Int) - 0).toNat) rv38.2 [] 0 /\ r44 = (((1 + rv38.1) : Int) - Qgc).toNat /\ (0 : Int) <= Qgc /\ (Qgc <= (1 + rv38.1) \/ Qgc = 0) /\ (-9223372036854775808 <= Qjy /\ Qjy <= 9223372036854775807) /\ (0 <= Qjy /\ Qjy <= (tT.length : Int)) /\ (-9223372036854775808 <= Qgc /\ Qgc <= 9223372036854775807) /\ ((QfP.length : Int) = Qgc), r44⟩) ((((1 + rv38.1) : Int) - 0).toNat, rv38.2, [], 0, none, 0) [0, 0, 0, 1, 1, 1, 1] ⟨rfl, rfl, aM1, (.inr rfl), aM1, aM1, aM1, iv0⟩ ?_
  rintro ⟨r44, Qjy, QfP, Qgc, a48, k49⟩ ⟨hM50, hr51, hi52, hi53, hk54, ht55, hk56, hv57⟩
  refine QbB fun _ _ hL hA => ?_; dsimp only at hL hA; subst hL hA
  refine Fb 40 0 fun _ => Fb 40 3 fun _ => Fb 8 6 fun _ => Fo 6 fun ho61 => KS ?_
  refine Oq Vm (Oq Vm (Oq Qcu (KS ?_)))
  refine Kc ?_ ?_
  ·intro h62
   have g63 := dt h62
   obtain ⟨r64, rfl⟩ := scc (n := r44) aM1
   refine KS ?_
   refine Oa (AsV Qcy Qe3 [.string (bs (Str.mk [97])), .string (bs (Str.mk [98])), .string (bs (Str.mk [99]))] [.string (bs (Str.mk [97])), .string (bs (Str.mk [98])), .string (bs (Str.mk [99]))]) fun c65 => ?_
   refine Jo 0 ?_; rintro a66 k67 rfl
   refine Oq Vm ?_
   refine Jl [0] (Ent.crOs (α := Str) (A := []) _ ([(Str.mk [97]), (Str.mk [98]), (Str.mk [99])] : List Str) _ aB1 (fun h => ⟨[.string (bs (Str.mk [97]))], [.string (bs (Str.mk [98])), .string (bs (Str.mk [99]))], rfl, (fun _ => ⟨rfl, by first | omega | (simp; done) | (dsimp only; omega) | exact Qcf rfl⟩) h, ⟨[.string (bs (Str.mk [98]))], [.string (bs (Str.mk [99]))], rfl, (fun _ => ⟨rfl, by first | omega | (simp; done) | (dsimp only; omega) | exact Qcf rfl⟩) h, ⟨[.string (bs (Str.mk [99]))], [], rfl, (fun _ => ⟨rfl, by first | omega | (simp; done) | (dsimp only; omega) | exact Qcf rfl⟩) h, rfl⟩⟩⟩)) ?_
   refine Oq (Vi Qcy 0) ?_
   refine Fb 16 0 fun _ => ?_
   refine FoS 0 fun ho69 => ?_
   have hb70 := okS (i := Qgc.toNat) ho69 rng
   refine Oq (Qk5 sh9 0) (Oq (Vbd Qvq [.string (bs ([(Str.mk [97]), (Str.mk [98]), (Str.mk [99])].getD Qgc.toNat default)), .slice none 0 0]) (Oa (Al QnE [.string (bs (Str.mk [])), .slice none 0 0]) fun p71 => Ost (Scl [0] Qg2 [.string (bs ([(Str.mk [97]), (Str.mk [98]), (Str.mk [99])].getD Qgc.toNat default)), .slice none 0 0]) (KS ?_)))
   refine Oq Vm ?_
   refine QaO (QaK tT Qjy 4) fun rv72 hg73 => ?_
   have hc74 := Qmo tP ta tk tT Qjy 4 pre pre rv72 hg73
   refine Oc [3, 7] Qmm hc74 ?_
   rintro - ⟨he75, he76, he77⟩
   unfold Qac at he75
   refine Oq Va (KS ?_)
   refine Jl [] (Ent.osNil (α := Qax)) ?_
   refine Kl (γ := Nat × Int × List Qax × Int × Option Addr × Nat) (fun (r78, QiI, Qc7, QnD, a82, k83) => ⟨[(0, tP), (2, p3), (3, p4), (4, vi (1 + rv5.1)), (5, vi Qh6), (6, p37), (7, vi (1 + rv38.1)), (8, vi Qgc), (9, p71), (10, vi QnD)], [O a82 k83 Qc7, Cl tP [vl ta tk tT, vi QiI], Cl p71 [.string (bs ([(Str.mk [97]), (Str.mk [98]), (Str.mk [99])].getD Qgc.toNat default)), vl a82 k83 Qc7], O a48 k49 QfP, Cl p37 [.string (bs ([(Str.mk [109]), (Str.mk [102]), (Str.mk [103])].getD Qh6.toNat default)), vl a48 k49 QfP], O a15 k16 Qhu, Cl p4 [vl a15 k16 Qhu], Cl p3 [.slice none 0 0], S ta tk tT], QbK tT (1 + rv5.1) r78 QiI Qc7 QnD = QbK tT (1 + rv5.1) (rv72.1.toNat) rv72.2 [] rv72.1 /\ r78 = QnD.toNat /\ QnD <= (rv72.1 : Int) /\ (-9223372036854775808 <= QiI /\ QiI <= 9223372036854775807) /\ (0 <= QiI /\ QiI <= (tT.length : Int)) /\ (-9223372036854775808 <= QnD /\ QnD <= 9223372036854775807) /\ ((Qc7.length : Int) + QnD <= 3 /\ 0 <= QnD), r78⟩) (rv72.1.toNat, rv72.2, [], rv72.1, none, 0) [0, 0, 0, 1, 1, 1, 1, 1, 1] ⟨rfl, rfl, aM1, aM1, aM1, aM1, iv0⟩ ?_
   rintro ⟨r78, QiI, Qc7, QnD, a82, k83⟩ ⟨hM84, hr85, hi86, hk87, ht88, hk89, hv90⟩
   refine QbB fun _ _ hL hA => ?_; dsimp only at hL hA; subst hL hA
   refine Fb 72 0 fun _ => Fb 40 3 fun _ => Fb 40 5 fun _ => Fb 8 8 fun _ => Fo 8 fun ho95 => KS ?_
   refine Oq Vm (Oq QhM (KS ?_))
   refine Kc ?_ ?_
   ·intro h96
    have g97 := dt h96
    obtain ⟨r98, rfl⟩ := scc (n := r78) aM1
    refine KS ?_
    refine Jp 2 fun hp99 => ?_
    refine Qav [0, 1, 0, 0, 12, 28, 63, 127, 255] Qc8 ?_
    refine Dv [0] (Vfa QdO 0) (Dv [3] (QaQ QhV 0) (Dv [] Vm (Dv [] Vm ?_)))
    refine QaO (QeX tT QiI (1 + rv5.1)) fun rv102 hg103 => ?_
    refine Dx [2, 9] [2] [4, 0, 1, 1, 1] (fun G => .agg #[vi rv102.1.Op, .string (bs rv102.1.Def), (G.g 4 0), (G.g 4 1)]) [fun G => SP.fact (Qac rv102.1.Op /\ rv102.1.Def.b.length <= 140737488355328 /\ (0 <= rv102.2 /\ rv102.2 <= (tT.length : Int))), fun G => os (G.g 4 0) rv102.1.Uses, fun G => os (G.g 4 1) rv102.1.Targets, fun G => Cl tP [vl ta tk tT, vi rv102.2]] (fun G => xC [0, 0] QuT (QvP tP ta tk tT QiI ((1 + rv5.1)) pre pre pre rv102 hg103)) (Dx [] [] [0] (fun G => (G.g 5 0)) [fun G => Cr (G.g 5 0) 1 [vi rv102.1.Op, .string (bs rv102.1.Def), (G.g 4 0), (G.g 4 1)]] (fun G => xA (AsV QgE Qmp [.agg #[vi rv102.1.Op, .string (bs rv102.1.Def), (G.g 4 0), (G.g 4 1)]] [vi rv102.1.Op, .string (bs rv102.1.Def), (G.g 4 0), (G.g 4 1)])) ?_)
    have hn106 := la Qc7 ([rv102.1] : List Qax)
    refine Dx [1, 10, 11, 12, 14] [1, 11, 12, 14] [5, 1, 2, 0] (fun G => (G.g 6 0)) [fun G => sl (G.g 4 0) rv102.1.Uses, fun G => sl (G.g 4 1) rv102.1.Targets, fun G => os (G.g 6 0) ((Qc7 ++ [rv102.1]) : List Qax)] (fun G => by refine xf 1 rfl ?_; rintro ⟨he107, he108, he109⟩; unfold Qac at he107; exact xp [2] rfl (Ent.freeze _ _) (xp [3] rfl (Ent.freeze _ _) (xp [4, 1, 0] rfl (Ent.cr1 (α := Qax) (A := [sl (G.g 4 0) rv102.1.Uses, sl (G.g 4 1) rv102.1.Targets]) _ rv102.1 _ aB1 (fun h => ⟨_, _, rfl, aL1, aS1, Qa7 (i := 0) rfl h, Qa7 (i := 1) rfl h⟩)) (xA (ApO [5, 0] QgE QgE Qmp))))) (Dv [0] (Vfa QdO 0) (Dx0 [3, 17] [3] [1, 0] [fun G => Cl p71 [.string (bs ([(Str.mk [97]), (Str.mk [98]), (Str.mk [99])].getD Qgc.toNat default)), (G.g 6 0)]] (fun G => x1 1 rfl Qf2 fun ho110 => (xS (OpS.frame [0] rfl (OpS.storeClF [(G.g 6 0)] [.string (bs ([(Str.mk [97]), (Str.mk [98]), (Str.mk [99])].getD Qgc.toNat default)), (G.g 6 0)] rfl rfl rfl QhV (Qcs ho110) rfl (by simp only [List.all_cons, List.all_nil, ho110, Bool.and_true, Bool.true_and] <;> rfl) aB1 rfl)))) ?_))
    refine Dn ⟨by kernel_rfl, fun G => ?_⟩
    refine Jw2 [(0, tP), (2, p3), (3, p4), (4, vi (1 + rv5.1)), (5, vi Qh6), (6, p37), (7, vi (1 + rv38.1)), (8, vi Qgc), (9, p71), (10, vi QnD)] [0, 4, 5, 6, 7, 8, 9] [SP.fact (Qac rv102.1.Op /\ rv102.1.Def.b.length <= 140737488355328 /\ (0 <= rv102.2 /\ rv102.2 <= (tT.length : Int))), Cl tP [vl ta tk tT, vi rv102.2], sl (G.g 4 0) rv102.1.Uses, sl (G.g 4 1) rv102.1.Targets, os (G.g 6 0) ((Qc7 ++ [rv102.1]) : List Qax), Cl p71 [.string (bs ([(Str.mk [97]), (Str.mk [98]), (Str.mk [99])].getD Qgc.toNat default)), (G.g 6 0)]] ?_
    generalize G.g 4 0 = c100, G.g 4 1 = c101, G.g 6 0 = c105
    refine Jf 7 rfl ?_; rintro ⟨he111, he112, he113⟩
    unfold Qac at he111
    refine Jk [1, 1, 1, 1, 1, 1, 3, 3, 4, 5, 5] ?_
    refine Jo 7 ?_; rintro a114 k115 rfl
    refine Fb 16 7 fun _ => ?_
    refine FoS 7 fun ho117 => ?_
    refine Jo 8 ?_; rintro a118 k119 rfl
    refine Fb 16 8 fun _ => ?_
    refine FoS 8 fun ho121 => ?_
    refine Jo 9 ?_; rintro a122 k123 rfl
    refine Fb 72 9 fun _ => KS ?_
    refine Oq Vm (Oq QdE (Oq Va (KS ?_)))
    exact Kg (r98, rv102.2, (Qc7 ++ [rv102.1]), (QnD - 1), a122, k123) [9, 6, 8, 0, 0, 0, 0, 0, 0] ⟨(q3 hM84 (by simp only [QbK, h28, h62, h96, hg6, hg39, hg73, hg103, cs4])), aM1, aM1, aM1, aM1, aM1, iv1⟩
   intro h96
   have g125 := df h96
   obtain rfl : r78 = 0 := by omega
   refine Ke ?_
   have hR126 := q2 hM84 (QiI, Qc7) (by simp only [QbK, h28, h62, h96, hg6, hg39, hg73, cs4])
   refine KS ?_
   refine Oq Vm (Oq Vm ?_)
   refine QaO (QaK tT QiI (1 + rv38.1)) fun rv127 hg128 => ?_
   have hc129 := Qmo tP ta tk tT QiI ((1 + rv38.1)) pre pre rv127 hg128
   refine Oc [1, 7] Qmm hc129 ?_
   rintro - ⟨he130, he131, he132⟩
   unfold Qac at he130
   refine QaO (Qgp rv127.1) fun rv133 hg134 => ?_
   have hc135 := QuG rv127.1 pre pre rv133 hg134
   refine Oc [] Quw hc135 ?_
   rintro - he136
   refine Oq Va (KS ?_)
   refine Oq Vm ?_
   refine QaO (QaK tT rv127.2 4) fun rv137 hg138 => ?_
   have hc139 := Qmo tP ta tk tT rv127.2 4 pre pre rv137 hg138
   refine Oc [0, 7] Qmm hc139 ?_
   rintro - ⟨he140, he141, he142⟩
   unfold Qac at he140
   refine KS ?_
   refine Oq Qby (Oq Va (KS ?_))
   refine Kc ?_ ?_
   ·intro h143
    have g144 := eq_of_beq h143
    refine KS ?_
    refine Oq (Vfa QdO 2) (Oq (QaQ QhV 2) (Oq (Vbd QnH [vi 9, .string (bs (Str.mk [])), .slice none 0 0, .slice none 0 0]) (Oa (AsV QgE Qmp [.agg #[vi 9, .string (bs (Str.mk [])), .slice none 0 0, .slice none 0 0]] [vi 9, .string (bs (Str.mk [])), .slice none 0 0, .slice none 0 0]) fun c145 => ?_)))
    refine Jo 0 ?_; rintro a146 k147 rfl
    refine Jl [0] (Ent.cr1 (α := Qax) (A := []) _ (Qax.mk 9 (Str.mk []) [] []) _ aB1 (fun h => ⟨_, _, rfl, aL1, aS1, QiU, QiU⟩)) ?_
    refine Oa (ApO [2, 0] QgE QgE Qmp) fun c148 => ?_
    refine Jo 0 ?_; rintro a149 k150 rfl
    refine Fb 72 0 fun _ => ?_
    have hn152 := la Qc7 ([(Qax.mk 9 (Str.mk []) [] [])] : List Qax)
    refine Oq (Vfa QdO 2) (Ost (Qfk [2] QhV [.string (bs ([(Str.mk [97]), (Str.mk [98]), (Str.mk [99])].getD Qgc.toNat default)), vl a149 k150 (Qc7 ++ [(Qax.mk 9 (Str.mk []) [] [])])]) (KS ?_))
    refine Oq (Vfa Qd0 4) (Oq (QaQ Qic 4) (Oq (Qc9 Qg2 0) (Oa (AsV QgJ QnF [.agg #[.string (bs ([(Str.mk [97]), (Str.mk [98]), (Str.mk [99])].getD Qgc.toNat default)), vl a149 k150 (Qc7 ++ [(Qax.mk 9 (Str.mk []) [] [])])]] [.string (bs ([(Str.mk [97]), (Str.mk [98]), (Str.mk [99])].getD Qgc.toNat default)), vl a149 k150 (Qc7 ++ [(Qax.mk 9 (Str.mk []) [] [])])]) fun c153 => ?_)))
    refine Jo 0 ?_; rintro a154 k155 rfl
    refine Jl [2] (Ent.freeze _ _) ?_
    refine Jl [1, 0] (Ent.cr1 (α := QaM) (A := [S a149 k150 ((Qc7 ++ [(Qax.mk 9 (Str.mk []) [] [])]) : List Qax)]) _ (QaM.mk ([(Str.mk [97]), (Str.mk [98]), (Str.mk [99])].getD Qgc.toNat default) (Qc7 ++ [(Qax.mk 9 (Str.mk []) [] [])])) _ aB1 (fun h => ⟨_, rfl, aS1, Qa7 (i := 0) rfl h⟩)) ?_
    refine Oa (ApO [5, 0] QgJ QgJ QnF) fun c156 => ?_
    refine Jo 0 ?_; rintro a157 k158 rfl
    refine Fb 40 0 fun _ => ?_
    have hn160 := la QfP ([(QaM.mk ([(Str.mk [97]), (Str.mk [98]), (Str.mk [99])].getD Qgc.toNat default) (Qc7 ++ [(Qax.mk 9 (Str.mk []) [] [])]))] : List QaM)
    refine Oq (Vfa Qd0 5) (Ost (Qfk [5] Qic [.string (bs ([(Str.mk [109]), (Str.mk [102]), (Str.mk [103])].getD Qh6.toNat default)), .slice a157 ((QfP ++ [(QaM.mk ([(Str.mk [97]), (Str.mk [98]), (Str.mk [99])].getD Qgc.toNat default) (Qc7 ++ [(Qax.mk 9 (Str.mk []) [] [])]))]).length) k158]) (KS ?_))
    refine Oq Vm (Oq Qbd (Oq Va (KS ?_)))
    exact Kg (r64, rv137.2, (QfP ++ [(QaM.mk ([(Str.mk [97]), (Str.mk [98]), (Str.mk [99])].getD Qgc.toNat default) (Qc7 ++ [(Qax.mk 9 (Str.mk []) [] [])]))]), (Qgc + 1), a157, k158) [1, 4, 0, 3, 3, 3, 3] ⟨(q3 hM50 (by simp only [Qa0, h28, h62, h96, h143, hg6, hg39, hg73, hR126, hg128, hg134, hg138, cs4])), aM1, aM1, aM1, aM1, aM1, aM1, iv1⟩
   intro h143
   have g161 := ne_of_beq_false h143
   refine KS ?_
   refine Oq Qby (Oq Va (KS ?_))
   refine Kc ?_ ?_
   ·intro h162
    have g163 := eq_of_beq h162
    refine KS ?_
    refine Oq (Vfa QdO 2) (Oq (QaQ QhV 2) (Oq Vm (Oa (AsV Qcy Qe3 [.string (bs rv133)] [.string (bs rv133)]) fun c164 => ?_)))
    refine Jo 0 ?_; rintro a165 k166 rfl
    refine Oq (Vbd QnH [vi 7, .string (bs (Str.mk [])), .slice none 0 0, .slice a165 1 k166]) (Oa (AsV QgE Qmp [.agg #[vi 7, .string (bs (Str.mk [])), .slice none 0 0, .slice a165 1 k166]] [vi 7, .string (bs (Str.mk [])), .slice none 0 0, .slice a165 1 k166]) fun c167 => ?_)
    refine Jo 0 ?_; rintro a168 k169 rfl
    refine Jl [1] (Ent.cr1 (α := Str) (A := []) _ rv133 _ aB1 (fun _ => ⟨rfl, aS1⟩)) ?_
    refine Jl [0] (Ent.freeze _ _) ?_
    refine Jl [1, 0] (Ent.cr1 (α := Qax) (A := [sl (.slice a165 1 k166) ([rv133] : List Str)]) _ (Qax.mk 7 (Str.mk []) [] [rv133]) _ aB1 (fun h => ⟨_, _, rfl, aL1, aS1, QiU, Qa7 (i := 0) rfl h⟩)) ?_
    refine Oa (ApO [4, 0] QgE QgE Qmp) fun c170 => ?_
    refine Jo 0 ?_; rintro a171 k172 rfl
    refine Fb 72 0 fun _ => ?_
    have hn174 := la Qc7 ([(Qax.mk 7 (Str.mk []) [] [rv133])] : List Qax)
    refine Oq (Vfa QdO 4) (Ost (Qfk [4] QhV [.string (bs ([(Str.mk [97]), (Str.mk [98]), (Str.mk [99])].getD Qgc.toNat default)), vl a171 k172 (Qc7 ++ [(Qax.mk 7 (Str.mk []) [] [rv133])])]) (KS ?_))
    refine Oq (Vfa Qd0 6) (Oq (QaQ Qic 6) (Oq (Qc9 Qg2 0) (Oa (AsV QgJ QnF [.agg #[.string (bs ([(Str.mk [97]), (Str.mk [98]), (Str.mk [99])].getD Qgc.toNat default)), vl a171 k172 (Qc7 ++ [(Qax.mk 7 (Str.mk []) [] [rv133])])]] [.string (bs ([(Str.mk [97]), (Str.mk [98]), (Str.mk [99])].getD Qgc.toNat default)), vl a171 k172 (Qc7 ++ [(Qax.mk 7 (Str.mk []) [] [rv133])])]) fun c175 => ?_)))
    refine Jo 0 ?_; rintro a176 k177 rfl
    refine Jl [2] (Ent.freeze _ _) ?_
    refine Jl [1, 0] (Ent.cr1 (α := QaM) (A := [S a171 k172 ((Qc7 ++ [(Qax.mk 7 (Str.mk []) [] [rv133])]) : List Qax)]) _ (QaM.mk ([(Str.mk [97]), (Str.mk [98]), (Str.mk [99])].getD Qgc.toNat default) (Qc7 ++ [(Qax.mk 7 (Str.mk []) [] [rv133])])) _ aB1 (fun h => ⟨_, rfl, aS1, Qa7 (i := 0) rfl h⟩)) ?_
    refine Oa (ApO [7, 0] QgJ QgJ QnF) fun c178 => ?_
    refine Jo 0 ?_; rintro a179 k180 rfl
    refine Fb 40 0 fun _ => ?_
    have hn182 := la QfP ([(QaM.mk ([(Str.mk [97]), (Str.mk [98]), (Str.mk [99])].getD Qgc.toNat default) (Qc7 ++ [(Qax.mk 7 (Str.mk []) [] [rv133])]))] : List QaM)
    refine Oq (Vfa Qd0 7) (Ost (Qfk [7] Qic [.string (bs ([(Str.mk [109]), (Str.mk [102]), (Str.mk [103])].getD Qh6.toNat default)), .slice a179 ((QfP ++ [(QaM.mk ([(Str.mk [97]), (Str.mk [98]), (Str.mk [99])].getD Qgc.toNat default) (Qc7 ++ [(Qax.mk 7 (Str.mk []) [] [rv133])]))]).length) k180]) (KS ?_))
    refine Oq Vm (Oq Qbd (Oq Va (KS ?_)))
    exact Kg (r64, rv137.2, (QfP ++ [(QaM.mk ([(Str.mk [97]), (Str.mk [98]), (Str.mk [99])].getD Qgc.toNat default) (Qc7 ++ [(Qax.mk 7 (Str.mk []) [] [rv133])]))]), (Qgc + 1), a179, k180) [1, 6, 0, 5, 5, 5, 5] ⟨(q3 hM50 (by simp only [Qa0, h28, h62, h96, h143, h162, hg6, hg39, hg73, hR126, hg128, hg134, hg138, cs4])), aM1, aM1, aM1, aM1, aM1, aM1, iv1⟩
   intro h162
   have g183 := ne_of_beq_false h162
   refine Jp 2 fun hp184 => ?_
   refine Qav [0, 1, 0, 4, 12, 0, 0, 0, 204, 460, 1004, 2044, 4092, 8191, 16383, 32767] Qc8 ?_
   refine Dv [0] (Vfa QdO 0) (Dv [3] (QaQ QhV 0) (Dv [] Vm ?_))
   refine QaO (Qci tT rv137.2) fun rv185 hg186 => ?_
   refine Dx [1, 9] [1] [2, 0, 1] (fun G => .string (bs rv185.1)) [fun G => SP.fact (rv185.1.b.length <= 140737488355328 /\ (0 <= rv185.2 /\ rv185.2 <= (tT.length : Int))), fun G => Cl tP [vl ta tk tT, vi rv185.2]] (fun G => xC [0, 0] QnK (QnI tP ta tk tT rv137.2 pre rv185 hg186)) (Dx [] [] [0] (fun G => (G.g 4 0)) [fun G => Cr (G.g 4 0) 1 [.string (bs rv185.1)]] (fun G => xA (AsV Qcy Qe3 [.string (bs rv185.1)] [.string (bs rv185.1)])) (Dv [] Vm (Dv [] Vm (Dv [] Vm ?_))))
   refine QaO (QaK tT rv185.2 (1 + rv38.1)) fun rv188 hg189 => ?_
   refine Dx [9, 10, 11] [11] [2, 3, 0, 1] (fun G => vi rv188.1) [fun G => SP.fact (Qac rv188.1 /\ (0 <= rv188.2 /\ rv188.2 <= (tT.length : Int)) /\ (0 <= rv188.1 /\ (rv188.1 < (1 + rv38.1) \/ rv188.1 = 0))), fun G => Cl tP [vl ta tk tT, vi rv188.2]] (fun G => by refine xf 1 rfl ?_; rintro ⟨he190, he191⟩; exact xC [2, 0] Qmm (Qmo tP ta tk tT rv185.2 ((1 + rv38.1)) pre pre rv188 hg189)) ?_
   refine QaO (Qgp rv188.1) fun rv192 hg193 => ?_
   refine Dx [13] [] [1, 0] (fun G => .string (bs rv192)) [fun G => SP.fact (rv192.b.length <= 140737488355328)] (fun G => by refine xf 0 rfl ?_; rintro ⟨he194, he195, he196⟩; unfold Qac at he194; exact xC [] Quw (QuG rv188.1 pre pre rv192 hg193)) (Dx [] [] [0] (fun G => (G.g 10 0)) [fun G => Cr (G.g 10 0) 2 [.string (bs rv133), .string (bs rv192)]] (fun G => xA (AsV Qcy Qe3 [.string (bs rv133), .string (bs rv192)] [.string (bs rv133), .string (bs rv192)])) ?_)
   refine Dx [12, 16] [] [0, 0] (fun G => .agg #[vi 8, .string (bs (Str.mk [])), (G.g 4 0), (G.g 10 0)]) [] (fun G => xV (v := .agg #[vi 8, .string (bs (Str.mk [])), (G.g 4 0), (G.g 10 0)]) (Vo 0 rfl (Qmv _ _ _) fun aq198 kq199 eq200 => (by rw [eq200]; exact Vo 1 rfl (Qmv _ _ _) fun aq201 kq202 eq203 => (by rw [eq203]; exact Vbd QnH [vi 8, .string (bs (Str.mk [])), .slice aq198 1 kq199, .slice aq201 2 kq202])))) (Dx [] [] [0] (fun G => (G.g 12 0)) [fun G => Cr (G.g 12 0) 1 [vi 8, .string (bs (Str.mk [])), (G.g 4 0), (G.g 10 0)]] (fun G => xA (AsV QgE Qmp [.agg #[vi 8, .string (bs (Str.mk [])), (G.g 4 0), (G.g 10 0)]] [vi 8, .string (bs (Str.mk [])), (G.g 4 0), (G.g 10 0)])) ?_)
   have hn206 := la Qc7 ([(Qax.mk 8 (Str.mk []) [rv185.1] [rv133, rv192])] : List Qax)
   refine Dx [2, 10, 12, 15, 16, 17] [2, 12, 16, 17] [5, 6, 1, 2, 0] (fun G => (G.g 13 0)) [fun G => sl (G.g 4 0) ([rv185.1] : List Str), fun G => sl (G.g 10 0) ([rv133, rv192] : List Str), fun G => os (G.g 13 0) ((Qc7 ++ [(Qax.mk 8 (Str.mk []) [rv185.1] [rv133, rv192])]) : List Qax)] (fun G => by refine xf 1 rfl ?_; rintro ⟨he207, he208⟩; refine xf 3 rfl ?_; rintro he209; exact xp [2] rfl (Ent.cr1 (α := Str) (A := []) _ rv185.1 _ aB1 (fun _ => ⟨rfl, aS1⟩)) (xp [0] rfl (Ent.freeze _ _) (xp [4] rfl (Ent.crOs (α := Str) (A := []) _ ([rv133, rv192] : List Str) _ aB1 (fun h => ⟨[.string (bs rv133)], [.string (bs rv192)], rfl, (fun _ => ⟨rfl, by first | omega | (simp; done) | (dsimp only; omega) | exact Qcf rfl⟩) h, ⟨[.string (bs rv192)], [], rfl, (fun _ => ⟨rfl, by first | omega | (simp; done) | (dsimp only; omega) | exact Qcf rfl⟩) h, rfl⟩⟩)) (xp [0] rfl (Ent.freeze _ _) (xp [5, 1, 0] rfl (Ent.cr1 (α := Qax) (A := [sl (G.g 4 0) ([rv185.1] : List Str), sl (G.g 10 0) ([rv133, rv192] : List Str)]) _ (Qax.mk 8 (Str.mk []) [rv185.1] [rv133, rv192]) _ aB1 (fun h => ⟨_, _, rfl, aL1, aS1, Qa7 (i := 0) rfl h, Qa7 (i := 1) rfl h⟩)) (xA (ApO [5, 0] QgE QgE Qmp))))))) (Dv [0] (Vfa QdO 0) (Dx0 [3, 20] [3] [1, 0] [fun G => Cl p71 [.string (bs ([(Str.mk [97]), (Str.mk [98]), (Str.mk [99])].getD Qgc.toNat default)), (G.g 13 0)]] (fun G => x1 1 rfl Qf2 fun ho210 => (xS (OpS.frame [0] rfl (OpS.storeClF [(G.g 13 0)] [.string (bs ([(Str.mk [97]), (Str.mk [98]), (Str.mk [99])].getD Qgc.toNat default)), (G.g 13 0)] rfl rfl rfl QhV (Qcs ho210) rfl (by simp only [List.all_cons, List.all_nil, ho210, Bool.and_true, Bool.true_and] <;> rfl) aB1 rfl)))) ?_))
   refine Dn ⟨by kernel_rfl, fun G => ?_⟩
   refine Jw2 [(0, tP), (2, p3), (3, p4), (4, vi (1 + rv5.1)), (5, vi Qh6), (6, p37), (7, vi (1 + rv38.1)), (8, vi Qgc), (9, p71)] [0, 4, 5, 6, 7, 8, 9] [SP.fact (rv185.1.b.length <= 140737488355328 /\ (0 <= rv185.2 /\ rv185.2 <= (tT.length : Int))), SP.fact (Qac rv188.1 /\ (0 <= rv188.2 /\ rv188.2 <= (tT.length : Int)) /\ (0 <= rv188.1 /\ (rv188.1 < (1 + rv38.1) \/ rv188.1 = 0))), Cl tP [vl ta tk tT, vi rv188.2], SP.fact (rv192.b.length <= 140737488355328), sl (G.g 4 0) ([rv185.1] : List Str), sl (G.g 10 0) ([rv133, rv192] : List Str), os (G.g 13 0) ((Qc7 ++ [(Qax.mk 8 (Str.mk []) [rv185.1] [rv133, rv192])]) : List Qax), Cl p71 [.string (bs ([(Str.mk [97]), (Str.mk [98]), (Str.mk [99])].getD Qgc.toNat default)), (G.g 13 0)]] ?_
   generalize G.g 4 0 = c187, G.g 10 0 = c197, G.g 13 0 = c205
   refine Jf 7 rfl ?_; rintro ⟨he211, he212⟩
   refine Jf 8 rfl ?_; rintro ⟨he213, he214, he215⟩
   unfold Qac at he213
   refine Jf 10 rfl ?_; rintro he216
   refine Jk [1, 1, 1, 1, 1, 1, 4, 5, 6, 7, 7] ?_
   refine Jo 7 ?_; rintro a217 k218 rfl
   refine Fb 16 7 fun _ => ?_
   refine FoS 7 fun ho220 => ?_
   refine Jo 8 ?_; rintro a221 k222 rfl
   refine Fb 16 8 fun _ => ?_
   refine FoS 8 fun ho224 => ?_
   refine Jo 9 ?_; rintro a225 k226 rfl
   refine Fb 72 9 fun _ => KS ?_
   refine Oq (Vfa Qd0 1) (Oq (QaQ Qic 1) (Oq (Qc9 Qg2 10) (Oa (AsV QgJ QnF [.agg #[.string (bs ([(Str.mk [97]), (Str.mk [98]), (Str.mk [99])].getD Qgc.toNat default)), vl a225 k226 (Qc7 ++ [(Qax.mk 8 (Str.mk []) [rv185.1] [rv133, rv192])])]] [.string (bs ([(Str.mk [97]), (Str.mk [98]), (Str.mk [99])].getD Qgc.toNat default)), vl a225 k226 (Qc7 ++ [(Qax.mk 8 (Str.mk []) [rv185.1] [rv133, rv192])])]) fun c228 => ?_)))
   refine Jo 0 ?_; rintro a229 k230 rfl
   refine Jl [10] (Ent.freeze _ _) ?_
   refine Jl [1, 0] (Ent.cr1 (α := QaM) (A := [S a225 k226 ((Qc7 ++ [(Qax.mk 8 (Str.mk []) [rv185.1] [rv133, rv192])]) : List Qax)]) _ (QaM.mk ([(Str.mk [97]), (Str.mk [98]), (Str.mk [99])].getD Qgc.toNat default) (Qc7 ++ [(Qax.mk 8 (Str.mk []) [rv185.1] [rv133, rv192])])) _ aB1 (fun h => ⟨_, rfl, aS1, Qa7 (i := 0) rfl h⟩)) ?_
   refine Oa (ApO [3, 0] QgJ QgJ QnF) fun c231 => ?_
   refine Jo 0 ?_; rintro a232 k233 rfl
   refine Fb 40 0 fun _ => ?_
   have hn235 := la QfP ([(QaM.mk ([(Str.mk [97]), (Str.mk [98]), (Str.mk [99])].getD Qgc.toNat default) (Qc7 ++ [(Qax.mk 8 (Str.mk []) [rv185.1] [rv133, rv192])]))] : List QaM)
   refine Oq (Vfa Qd0 3) (Ost (Qfk [3] Qic [.string (bs ([(Str.mk [109]), (Str.mk [102]), (Str.mk [103])].getD Qh6.toNat default)), .slice a232 ((QfP ++ [(QaM.mk ([(Str.mk [97]), (Str.mk [98]), (Str.mk [99])].getD Qgc.toNat default) (Qc7 ++ [(Qax.mk 8 (Str.mk []) [rv185.1] [rv133, rv192])]))]).length) k233]) (KS ?_))
   refine Oq Vm (Oq Qbd (Oq Va (KS ?_)))
   exact Kg (r64, rv188.2, (QfP ++ [(QaM.mk ([(Str.mk [97]), (Str.mk [98]), (Str.mk [99])].getD Qgc.toNat default) (Qc7 ++ [(Qax.mk 8 (Str.mk []) [rv185.1] [rv133, rv192])]))]), (Qgc + 1), a232, k233) [1, 7, 0, 2, 2, 2, 2] ⟨(q3 hM50 (by simp only [Qa0, h28, h62, h96, h143, h162, hg6, hg39, hg73, hR126, hg128, hg134, hg138, hg186, hg189, hg193, cs4])), aM1, aM1, aM1, aM1, aM1, aM1, iv1⟩
  intro h62
  have g236 := df h62
  obtain rfl : r44 = 0 := by omega
  refine Ke ?_
  have hR237 := q2 hM50 (Qjy, QfP) (by simp only [Qa0, h28, h62, hg6, hg39, cs4])
  refine KS ?_
  refine Oq (Vfa QdZ 4) (Oq (QaQ Qia 4) (Oq (Qc9 Qhk 2) (Oa (AsV QgV QqK [.agg #[.string (bs ([(Str.mk [109]), (Str.mk [102]), (Str.mk [103])].getD Qh6.toNat default)), vl a48 k49 QfP]] [.string (bs ([(Str.mk [109]), (Str.mk [102]), (Str.mk [103])].getD Qh6.toNat default)), vl a48 k49 QfP]) fun c238 => ?_)))
  refine Jo 0 ?_; rintro a239 k240 rfl
  refine Jl [1] (Ent.freeze _ _) ?_
  refine Jl [1, 0] (Ent.cr1 (α := Qbv) (A := [S a48 k49 QfP]) _ (Qbv.mk ([(Str.mk [109]), (Str.mk [102]), (Str.mk [103])].getD Qh6.toNat default) QfP) _ aB1 (fun h => ⟨_, rfl, aS1, Qa7 (i := 0) rfl h⟩)) ?_
  refine Oa (ApO [5, 0] QgV QgV QqK) fun c241 => ?_
  refine Jo 0 ?_; rintro a242 k243 rfl
  refine Fb 40 0 fun _ => ?_
  have hn245 := la Qhu ([(Qbv.mk ([(Str.mk [109]), (Str.mk [102]), (Str.mk [103])].getD Qh6.toNat default) QfP)] : List Qbv)
  refine Oq (Vfa QdZ 5) (Ost (Qfk [5] Qia [vl a242 k243 (Qhu ++ [(Qbv.mk ([(Str.mk [109]), (Str.mk [102]), (Str.mk [103])].getD Qh6.toNat default) QfP)])]) (KS ?_))
  refine Oq Vm (Oq Qbd (Oq Va (KS ?_)))
  exact Kg (r30, Qjy, (Qhu ++ [(Qbv.mk ([(Str.mk [109]), (Str.mk [102]), (Str.mk [103])].getD Qh6.toNat default) QfP)]), (Qh6 + 1), a242, k243) [1, 3, 0, 3, 3] ⟨(q3 hM17 (by simp only [QbA, h28, h62, hg6, hg39, hR237, cs4])), aM1, aM1, aM1, aM1, aM1, aM1, iv1⟩
 intro h28
 have g246 := df h28
 obtain rfl : r11 = 0 := by omega
 refine Ke ?_
 have hR247 := q2 hM17 (Qjx, Qhu) (by simp only [QbA, h28, hg6, cs4])
 refine KS ?_
 refine Oq (Qc9 Qec 2) (Ost (Scl [3] Qec [vl a15 k16 Qhu]) (KS ?_))
 refine Jl [1] (Ent.freeze _ _) ?_
 have hq := q4 hrr ((Qaj.mk Qhu), Qjx) (by simp only [Qd4, h28, hg6, hR247, cs4]); subst hq
 exact Kr (vl a15 k16 Qhu) rfl (.cellN 1 rfl Qec rfl (QaC _ _) rfl .nil) [0, 2] en
theorem QtV (l : List Str) (la0 : Option Addr) (lk0 : Nat) (a : Int) (b : Int) (QhN : Qac a) (Qh4 : Qac b) (rr : Bool) (hrr : QdJ l a b = rr) : FT Tryd.prog 92 #[vl la0 lk0 l, vi a, vi b] [S la0 lk0 l] (fun g : Unit => True) (fun g => vb rr) (fun g => []) := by
 refine FTi Tryd.func92 fun w0 M0 F0 => ?_
 unfold Qac at QhN Qh4
 refine Fb 16 0 fun _ => ?_
 refine FoS 0 fun ho2 => ?_
 refine KS ?_
 refine Oq Va (KS ?_)
 refine Oq Va (KS ?_)
 refine Kl (γ := Nat × Int) (fun (r3, i_4) => ⟨[(0, vl la0 lk0 l), (1, vi a), (2, vi b), (7, vi i_4)], [S la0 lk0 l], QcN l r3 i_4 = QcN l (((l.length : Int) - 0).toNat) 0 /\ r3 = ((l.length : Int) - i_4).toNat /\ (0 : Int) <= i_4 /\ i_4 <= (l.length : Int) /\ (-9223372036854775808 <= i_4 /\ i_4 <= 9223372036854775807), r3⟩) (((l.length : Int) - 0).toNat, 0) [0] ⟨rfl, rfl, aM1, aM1, aM1⟩ ?_
 rintro ⟨r3, i_4⟩ ⟨hM5, hr6, hi7, hi8, hk9⟩
 refine QbB fun _ _ hL hA => ?_; dsimp only at hL hA; subst hL hA
 refine Fb 16 0 fun _ => ?_
 refine FoS 0 fun ho11 => ?_
 refine KS ?_
 refine Oq Vm (Oq Vm (Oq (QcE Qcy) (Oq Qcu (KS ?_))))
 refine Kc ?_ ?_
 ·intro h12
  have g13 := dt h12
  obtain ⟨r14, rfl⟩ := scc (n := r3) aM1
  refine KS ?_
  refine Oq Vm (Oq Vm (Oq (Vi Qcy 0) ?_))
  have hb15 := okS (i := i_4.toNat) ho11 rng
  refine Oq (Qk5 sh9 0) ?_
  refine QaO (Qbc (l.getD i_4.toNat default)) fun rv16 hg17 => ?_
  have hc18 := QqZ ((l.getD i_4.toNat default)) pre rv16 hg17
  refine Oc [] Qr8 hc18 ?_
  rintro - -
  refine Oq QeP (KS ?_)
  refine Kc ?_ ?_
  ·intro h19
   have h21 := not_true h19
   refine KS ?_
   refine Oq Va (KS ?_)
   have hR23 := q2 hM5 (.ret false) (by simp only [QcN, h12, h19, h21, hg17, cs4])
   have hq := q4 hrr false (by simp only [QdJ, h12, h19, h21, hg17, hR23, cs4]); subst hq
   exact Kr () rfl (.tmp rfl .nil) [] trivial
  intro h19
  have h25 := not_false h19
  refine KS ?_
  refine Oq Vm (Oq Qbd (Oq Va (KS ?_)))
  exact Kg (r14, (i_4 + 1)) [0] ⟨(q3 hM5 (by simp only [QcN, h12, h19, h25, hg17, cs4])), aM1, aM1, aM1, aM1⟩
 intro h12
 have g27 := df h12
 obtain rfl : r3 = 0 := by omega
 refine Ke ?_
 have hR28 := q2 hM5 (.brk ()) (by simp only [QcN, h12, cs4])
 refine KS ?_
 refine Oq Vm (Oq (QcE Qcy) (Oq Vm (Oq QeU (Oq Vm ?_))))
 refine Js 24 ?_ ?_
 ·intro h29
  have g30 := dt h29
  refine Oq Vm (Oq (QcE Qcy) (Oq Vm (Oq Qh8 (Oq Vpt (Oq Va (KS ?_))))))
  have hq := q4 hrr (decide ((l.length : Int) <= b)) (by simp only [QdJ, h12, h29, hR28, cs4]); subst hq
  exact Kr () rfl (.tmp rfl .nil) [] trivial
 intro h29
 have g31 := df h29
 refine Osk (Osk (Osk (Osk (Oq Vpf (Oq Va (KS ?_))))))
 have hq := q4 hrr false (by simp only [QdJ, h12, h29, hR28, cs4]); subst hq
 exact Kr () rfl (.tmp rfl .nil) [] trivial
theorem Qwd (s : Qax) (sa2 : Option Addr) (sk2 : Nat) (sa3 : Option Addr) (sk3 : Nat) (Qkw : Qac s.Op) (QqE : s.Def.b.length <= 140737488355328) (rr : Bool) (hrr : Qaz s = rr) : FT Tryd.prog 57 #[.agg #[vi s.Op, .string (bs s.Def), vl sa2 sk2 s.Uses, vl sa3 sk3 s.Targets]] [S sa2 sk2 s.Uses, S sa3 sk3 s.Targets] (fun g : Unit => True) (fun g => vb rr) (fun g => []) := by
 refine FTi Tryd.func57 fun w0 M0 F0 => ?_
 unfold Qac at Qkw
 refine Fb 16 0 fun _ => ?_
 refine FoS 0 fun ho2 => ?_
 refine Fb 16 1 fun _ => ?_
 refine FoS 1 fun ho4 => ?_
 refine KS ?_
 refine Oa (Ab [vi s.Op, .string (bs s.Def), vl sa2 sk2 s.Uses, vl sa3 sk3 s.Targets]) fun p5 => Oq Va (KS ?_)
 refine Oq (Vfa Qet 0) (Oq (QaQ sh9 0) ?_)
 refine QaO (Qbc s.Def) fun rv6 hg7 => ?_
 have hc8 := QqZ s.Def pre rv6 hg7
 refine Oc [] Qr8 hc8 ?_
 rintro - -
 refine Oq Va (KS ?_)
 refine Kq [0, 1, 3, 0, 8, 24, 7, 127] Qc8 ?_
 refine Qv [0] (Vfa Qdg 0) (Qv [0] (QaQ Qeq 0) (Qv [] (QcE Qcy) (Qv [0] (Vfa Qdi 0) (Qv [0] (QaQ Qeq 0) (Qv [] (QcE Qcy) (Qv [] Va (Qv [] Va ?_)))))))
 refine Qn ⟨by kernel_rfl, ?_⟩
 refine KS ?_
 refine Oq (Vfa Qdg 0) (Oq (QaQ Qeq 0) ?_)
 refine QaO (QdJ s.Uses 0 4) fun rv9 hg10 => ?_
 have hc11 := QtV s.Uses sa2 sk2 0 4 pre pre rv9 hg10
 refine Oc [1] Quk hc11 ?_
 rintro - -
 refine Oq QeP (Oq Vm ?_)
 refine Js 19 ?_ ?_
 ·intro h12
  have h14 := not_true h12
  refine Osk (Osk (Osk (Osk (Oq Vpt (KS ?_)))))
  refine Kt (KS ?_)
  refine Oq Va (KS ?_)
  have hq := q4 hrr false (by simp only [Qaz, h12, h14, hg7, hg10, cs4]); subst hq
  exact Kr () rfl (.tmp rfl .nil) [] trivial
 intro h12
 have h17 := not_false h12
 refine Oq (Vfa Qdi 0) (Oq (QaQ Qeq 0) ?_)
 refine QaO (QdJ s.Targets 0 2) fun rv19 hg20 => ?_
 have hc21 := QtV s.Targets sa3 sk3 0 2 pre pre rv19 hg20
 refine Oc [2] Quk hc21 ?_
 rintro - -
 refine Oq QeP (Oq Vpf (KS ?_))
 refine Kc ?_ ?_
 ·intro h22
  have h24 := not_true h22
  refine KS ?_
  refine Oq Va (KS ?_)
  have hq := q4 hrr false (by simp only [Qaz, h12, h17, h22, h24, hg7, hg10, hg20, cs4]); subst hq
  exact Kr () rfl (.tmp rfl .nil) [] trivial
 intro h22
 have h27 := not_false h22
 refine KS ?_
 refine Oq (Vfa Qdw 0) (Oq (QaQ sh3 0) (KS ?_))
 refine Oq Qby (Oq Va (KS ?_))
 refine Kc ?_ ?_
 ·intro h29
  have g30 := eq_of_beq h29
  refine KS ?_
  refine Oq Vm (Oq Vm ?_)
  refine Js 30 ?_ ?_
  ·intro h31
   refine Oq Vm (Oq Qby (Oq Vpt (Oq Va (KS ?_))))
   have hq := q4 hrr ((s.Targets.length : Int) == 0) (by simp only [Qaz, h12, h17, h22, h27, h29, h31, hg7, hg10, hg20, cs4]); subst hq
   exact Kr () rfl (.tmp rfl .nil) [] trivial
  intro h31
  refine Osk (Osk (Oq Vpf (Oq Va (KS ?_))))
  have hq := q4 hrr false (by simp only [Qaz, h12, h17, h22, h27, h29, h31, hg7, hg10, hg20, cs4]); subst hq
  exact Kr () rfl (.tmp rfl .nil) [] trivial
 intro h29
 have g34 := ne_of_beq_false h29
 refine KS ?_
 refine Oq Qby (Oq Va (KS ?_))
 refine Kc ?_ ?_
 ·intro h35
  have g36 := eq_of_beq h35
  refine KS ?_
  refine Oq (Vfa Qet 0) (Oq (QaQ sh9 0) (Oq (Qhj (l := s.Def) (m := (Str.mk []))) (Oq Vm ?_)))
  refine Js 39 ?_ ?_
  ·intro h37
   have g38 := eq_of_beq h37
   refine Oq Vm (Oq QeU (Oq Vpt (Oq Vm ?_)))
   refine Js 43 ?_ ?_
   ·intro h39
    have g40 := dt h39
    refine Oq Vm (Oq Qby (Oq Vpt (Oq Va (KS ?_))))
    have hq := q4 hrr ((s.Targets.length : Int) == 0) (by simp only [Qaz, h12, h17, h22, h27, h29, h35, h37, h39, hg7, hg10, hg20, cs4]); subst hq
    exact Kr () rfl (.tmp rfl .nil) [] trivial
   intro h39
   have g41 := df h39
   refine Osk (Osk (Oq Vpf (Oq Va (KS ?_))))
   have hq := q4 hrr false (by simp only [Qaz, h12, h17, h22, h27, h29, h35, h37, h39, hg7, hg10, hg20, cs4]); subst hq
   exact Kr () rfl (.tmp rfl .nil) [] trivial
  intro h37
  have g42 := ne_of_beq_false h37
  refine Osk (Osk (Oq Vpf (Oq Vm (Osk (Osk (Oq Vpf (Oq Va (KS ?_))))))))
  have hq := q4 hrr false (by simp only [Qaz, h12, h17, h22, h27, h29, h35, h37, hg7, hg10, hg20, cs4]); subst hq
  exact Kr () rfl (.tmp rfl .nil) [] trivial
 intro h35
 have g43 := ne_of_beq_false h35
 refine KS ?_
 refine Oq Qby (Oq Va (KS ?_))
 refine Kc ?_ ?_
 ·intro h44
  have g45 := eq_of_beq h44
  refine KS ?_
  refine Oq (Vfa Qet 0) (Oq (QaQ sh9 0) (Oq (Qhj (l := s.Def) (m := (Str.mk []))) (Oq Vm ?_)))
  refine Js 52 ?_ ?_
  ·intro h46
   have g47 := eq_of_beq h46
   refine Oq Vm (Oq Qby (Oq Vpt (Oq Vm ?_)))
   refine Js 56 ?_ ?_
   ·intro h48
    have g49 := eq_of_beq h48
    refine Oq Vm (Oq Qby (Oq Vpt (Oq Va (KS ?_))))
    have hq := q4 hrr ((s.Targets.length : Int) == 0) (by simp only [Qaz, h12, h17, h22, h27, h29, h35, h44, h46, h48, hg7, hg10, hg20, cs4]); subst hq
    exact Kr () rfl (.tmp rfl .nil) [] trivial
   intro h48
   have g50 := ne_of_beq_false h48
   refine Osk (Osk (Oq Vpf (Oq Va (KS ?_))))
   have hq := q4 hrr false (by simp only [Qaz, h12, h17, h22, h27, h29, h35, h44, h46, h48, hg7, hg10, hg20, cs4]); subst hq
   exact Kr () rfl (.tmp rfl .nil) [] trivial
  intro h46
  have g51 := ne_of_beq_false h46
  refine Osk (Osk (Oq Vpf (Oq Vm (Osk (Osk (Oq Vpf (Oq Va (KS ?_))))))))
  have hq := q4 hrr false (by simp only [Qaz, h12, h17, h22, h27, h29, h35, h44, h46, hg7, hg10, hg20, cs4]); subst hq
  exact Kr () rfl (.tmp rfl .nil) [] trivial
 intro h44
 have g52 := ne_of_beq_false h44
 refine KS ?_
 refine Oq Qby (Oq Va (KS ?_))
 refine Kc ?_ ?_
 ·intro h53
  have g54 := eq_of_beq h53
  refine KS ?_
  refine Kc ?_ ?_
  ·intro h55
   have g56 := eq_of_beq h55
   refine KS ?_
   refine Oq (Vfa Qet 0) (Oq (QaQ sh9 0) (Oq (Qhj (l := s.Def) (m := (Str.mk []))) (Oq Vm ?_)))
   refine Js 66 ?_ ?_
   ·intro h57
    have g58 := eq_of_beq h57
    refine Oq Vm (Oq Qby (Oq Vpt (Oq Vm ?_)))
    refine Js 70 ?_ ?_
    ·intro h59
     have g60 := eq_of_beq h59
     refine Oq Vm (Oq Qby (Oq Vpt (Oq Va (KS ?_))))
     have hq := q4 hrr ((s.Targets.length : Int) == 1) (by simp only [Qaz, h12, h17, h22, h27, h29, h35, h44, h53, h55, h57, h59, hg7, hg10, hg20, cs4]); subst hq
     exact Kr () rfl (.tmp rfl .nil) [] trivial
    intro h59
    have g61 := ne_of_beq_false h59
    refine Osk (Osk (Oq Vpf (Oq Va (KS ?_))))
    have hq := q4 hrr false (by simp only [Qaz, h12, h17, h22, h27, h29, h35, h44, h53, h55, h57, h59, hg7, hg10, hg20, cs4]); subst hq
    exact Kr () rfl (.tmp rfl .nil) [] trivial
   intro h57
   have g62 := ne_of_beq_false h57
   refine Osk (Osk (Oq Vpf (Oq Vm (Osk (Osk (Oq Vpf (Oq Va (KS ?_))))))))
   have hq := q4 hrr false (by simp only [Qaz, h12, h17, h22, h27, h29, h35, h44, h53, h55, h57, hg7, hg10, hg20, cs4]); subst hq
   exact Kr () rfl (.tmp rfl .nil) [] trivial
  intro h55
  exact absurd h55 (by first | (simp [h53]; done) | (simp only [bne, h53]; decide) | (simp only [bne, h53, Bool.not_true, Bool.not_false]; decide) | (exfalso; omega) | (intro hq; simp only [bne, hq, Bool.not_false, Bool.not_true, reduceCtorEq] at h53))
 intro h53
 have g63 := ne_of_beq_false h53
 refine KS ?_
 refine Oq Qby (Oq Va (KS ?_))
 refine Kc ?_ ?_
 ·intro h64
  have g65 := eq_of_beq h64
  refine KS ?_
  refine Oq (Vfa Qet 0) (Oq (QaQ sh9 0) (Oq (Qhj (l := s.Def) (m := (Str.mk []))) (Oq Vm ?_)))
  refine Js 66 ?_ ?_
  ·intro h66
   have g67 := eq_of_beq h66
   refine Oq Vm (Oq Qby (Oq Vpt (Oq Vm ?_)))
   refine Js 70 ?_ ?_
   ·intro h68
    have g69 := eq_of_beq h68
    refine Oq Vm (Oq Qby (Oq Vpt (Oq Va (KS ?_))))
    have hq := q4 hrr ((s.Targets.length : Int) == 1) (by simp only [Qaz, h12, h17, h22, h27, h29, h35, h44, h53, h64, h66, h68, hg7, hg10, hg20, cs4]); subst hq
    exact Kr () rfl (.tmp rfl .nil) [] trivial
   intro h68
   have g70 := ne_of_beq_false h68
   refine Osk (Osk (Oq Vpf (Oq Va (KS ?_))))
   have hq := q4 hrr false (by simp only [Qaz, h12, h17, h22, h27, h29, h35, h44, h53, h64, h66, h68, hg7, hg10, hg20, cs4]); subst hq
   exact Kr () rfl (.tmp rfl .nil) [] trivial
  intro h66
  have g71 := ne_of_beq_false h66
  refine Osk (Osk (Oq Vpf (Oq Vm (Osk (Osk (Oq Vpf (Oq Va (KS ?_))))))))
  have hq := q4 hrr false (by simp only [Qaz, h12, h17, h22, h27, h29, h35, h44, h53, h64, h66, hg7, hg10, hg20, cs4]); subst hq
  exact Kr () rfl (.tmp rfl .nil) [] trivial
 intro h64
 have g72 := ne_of_beq_false h64
 refine KS ?_
 refine Oq Qby (Oq Va (KS ?_))
 refine Kc ?_ ?_
 ·intro h73
  have g74 := eq_of_beq h73
  refine KS ?_
  refine Kc ?_ ?_
  ·intro h75
   have g76 := eq_of_beq h75
   refine KS ?_
   refine Oq Vm (Oq Vm ?_)
   refine Js 78 ?_ ?_
   ·intro h77
    refine Oq Vm (Oq Qby (Oq Vpt (Oq Vm ?_)))
    refine Js 82 ?_ ?_
    ·intro h79
     have g80 := eq_of_beq h79
     refine Oq Vm (Oq Qby (Oq Vpt (Oq Va (KS ?_))))
     have hq := q4 hrr ((s.Targets.length : Int) == 0) (by simp only [Qaz, h12, h17, h22, h27, h29, h35, h44, h53, h64, h73, h75, h77, h79, hg7, hg10, hg20, cs4]); subst hq
     exact Kr () rfl (.tmp rfl .nil) [] trivial
    intro h79
    have g81 := ne_of_beq_false h79
    refine Osk (Osk (Oq Vpf (Oq Va (KS ?_))))
    have hq := q4 hrr false (by simp only [Qaz, h12, h17, h22, h27, h29, h35, h44, h53, h64, h73, h75, h77, h79, hg7, hg10, hg20, cs4]); subst hq
    exact Kr () rfl (.tmp rfl .nil) [] trivial
   intro h77
   refine Osk (Osk (Oq Vpf (Oq Vm (Osk (Osk (Oq Vpf (Oq Va (KS ?_))))))))
   have hq := q4 hrr false (by simp only [Qaz, h12, h17, h22, h27, h29, h35, h44, h53, h64, h73, h75, h77, hg7, hg10, hg20, cs4]); subst hq
   exact Kr () rfl (.tmp rfl .nil) [] trivial
  intro h75
  exact absurd h75 (by first | (simp [h73]; done) | (simp only [bne, h73]; decide) | (simp only [bne, h73, Bool.not_true, Bool.not_false]; decide) | (exfalso; omega) | (intro hq; simp only [bne, hq, Bool.not_false, Bool.not_true, reduceCtorEq] at h73))
 intro h73
 have g83 := ne_of_beq_false h73
 refine KS ?_
 refine Oq Qby (Oq Va (KS ?_))
 refine Kc ?_ ?_
 ·intro h84
  have g85 := eq_of_beq h84
  refine KS ?_
  refine Oq Vm (Oq Vm ?_)
  refine Js 78 ?_ ?_
  ·intro h86
   refine Oq Vm (Oq Qby (Oq Vpt (Oq Vm ?_)))
   refine Js 82 ?_ ?_
   ·intro h88
    have g89 := eq_of_beq h88
    refine Oq Vm (Oq Qby (Oq Vpt (Oq Va (KS ?_))))
    have hq := q4 hrr ((s.Targets.length : Int) == 0) (by simp only [Qaz, h12, h17, h22, h27, h29, h35, h44, h53, h64, h73, h84, h86, h88, hg7, hg10, hg20, cs4]); subst hq
    exact Kr () rfl (.tmp rfl .nil) [] trivial
   intro h88
   have g90 := ne_of_beq_false h88
   refine Osk (Osk (Oq Vpf (Oq Va (KS ?_))))
   have hq := q4 hrr false (by simp only [Qaz, h12, h17, h22, h27, h29, h35, h44, h53, h64, h73, h84, h86, h88, hg7, hg10, hg20, cs4]); subst hq
   exact Kr () rfl (.tmp rfl .nil) [] trivial
  intro h86
  refine Osk (Osk (Oq Vpf (Oq Vm (Osk (Osk (Oq Vpf (Oq Va (KS ?_))))))))
  have hq := q4 hrr false (by simp only [Qaz, h12, h17, h22, h27, h29, h35, h44, h53, h64, h73, h84, h86, hg7, hg10, hg20, cs4]); subst hq
  exact Kr () rfl (.tmp rfl .nil) [] trivial
 intro h84
 have g92 := ne_of_beq_false h84
 refine KS ?_
 refine Oq Qby (Oq Va (KS ?_))
 refine Kc ?_ ?_
 ·intro h93
  have g94 := eq_of_beq h93
  refine KS ?_
  refine Oq (Vfa Qet 0) (Oq (QaQ sh9 0) (Oq (Qhj (l := s.Def) (m := (Str.mk []))) (Oq Vm ?_)))
  refine Js 91 ?_ ?_
  ·intro h95
   have g96 := eq_of_beq h95
   refine Oq Vm (Oq Qby (Oq Vpt (Oq Vm ?_)))
   refine Js 95 ?_ ?_
   ·intro h97
    have g98 := eq_of_beq h97
    refine Oq Vm (Oq Qby (Oq Vpt (Oq Va (KS ?_))))
    have hq := q4 hrr ((s.Targets.length : Int) == 2) (by simp only [Qaz, h12, h17, h22, h27, h29, h35, h44, h53, h64, h73, h84, h93, h95, h97, hg7, hg10, hg20, cs4]); subst hq
    exact Kr () rfl (.tmp rfl .nil) [] trivial
   intro h97
   have g99 := ne_of_beq_false h97
   refine Osk (Osk (Oq Vpf (Oq Va (KS ?_))))
   have hq := q4 hrr false (by simp only [Qaz, h12, h17, h22, h27, h29, h35, h44, h53, h64, h73, h84, h93, h95, h97, hg7, hg10, hg20, cs4]); subst hq
   exact Kr () rfl (.tmp rfl .nil) [] trivial
  intro h95
  have g100 := ne_of_beq_false h95
  refine Osk (Osk (Oq Vpf (Oq Vm (Osk (Osk (Oq Vpf (Oq Va (KS ?_))))))))
  have hq := q4 hrr false (by simp only [Qaz, h12, h17, h22, h27, h29, h35, h44, h53, h64, h73, h84, h93, h95, hg7, hg10, hg20, cs4]); subst hq
  exact Kr () rfl (.tmp rfl .nil) [] trivial
 intro h93
 have g101 := ne_of_beq_false h93
 refine KS ?_
 refine Oq Qby (Oq Va (KS ?_))
 refine Kc ?_ ?_
 ·intro h102
  have g103 := eq_of_beq h102
  refine KS ?_
  refine Oq (Vfa Qet 0) (Oq (QaQ sh9 0) (Oq (Qhj (l := s.Def) (m := (Str.mk []))) (Oq Vm ?_)))
  refine Js 104 ?_ ?_
  ·intro h104
   have g105 := eq_of_beq h104
   refine Oq Vm (Oq Qby (Oq Vpt (Oq Vm ?_)))
   refine Js 108 ?_ ?_
   ·intro h106
    have g107 := eq_of_beq h106
    refine Oq Vm (Oq Qby (Oq Vpt (Oq Va (KS ?_))))
    have hq := q4 hrr ((s.Targets.length : Int) == 0) (by simp only [Qaz, h12, h17, h22, h27, h29, h35, h44, h53, h64, h73, h84, h93, h102, h104, h106, hg7, hg10, hg20, cs4]); subst hq
    exact Kr () rfl (.tmp rfl .nil) [] trivial
   intro h106
   have g108 := ne_of_beq_false h106
   refine Osk (Osk (Oq Vpf (Oq Va (KS ?_))))
   have hq := q4 hrr false (by simp only [Qaz, h12, h17, h22, h27, h29, h35, h44, h53, h64, h73, h84, h93, h102, h104, h106, hg7, hg10, hg20, cs4]); subst hq
   exact Kr () rfl (.tmp rfl .nil) [] trivial
  intro h104
  have g109 := ne_of_beq_false h104
  refine Osk (Osk (Oq Vpf (Oq Vm (Osk (Osk (Oq Vpf (Oq Va (KS ?_))))))))
  have hq := q4 hrr false (by simp only [Qaz, h12, h17, h22, h27, h29, h35, h44, h53, h64, h73, h84, h93, h102, h104, hg7, hg10, hg20, cs4]); subst hq
  exact Kr () rfl (.tmp rfl .nil) [] trivial
 intro h102
 have g110 := ne_of_beq_false h102
 refine KS ?_
 refine Oq Va (KS ?_)
 have hq := q4 hrr false (by simp only [Qaz, h12, h17, h22, h27, h29, h35, h44, h53, h64, h73, h84, h93, h102, hg7, hg10, hg20, cs4]); subst hq
 exact Kr () rfl (.tmp rfl .nil) [] trivial
theorem QvO (p : Qaj) (pa0 : Option Addr) (pk0 : Nat) (rr : Bool) (hrr : QcH p = rr) : FT Tryd.prog 29 #[.agg #[vl pa0 pk0 p.Funcs]] [S pa0 pk0 p.Funcs] (fun g : Unit => True) (fun g => vb rr) (fun g => []) := by
 refine FTi Tryd.func29 fun w0 M0 F0 => Fb 40 0 fun _ => ?_
 refine KS ?_
 refine Oa (Ab [vl pa0 pk0 p.Funcs]) fun p2 => Oq Va (KS ?_)
 refine Oq (Vfa QdZ 0) (Oq (QaQ Qia 0) (Oq (QcE QgV) (Oq Qcu (Oq Vm ?_))))
 refine Js 12 ?_ ?_
 ·intro h3
  have g4 := dt h3
  refine Osk (Osk (Osk (Osk (Oq Vpt (KS ?_)))))
  refine Kt (KS ?_)
  refine Oq Va (KS ?_)
  have hq := q4 hrr false (by simp only [QcH, h3, cs4]); subst hq
  exact Kr () rfl (.tmp rfl .nil) [] trivial
 intro h3
 have g5 := df h3
 refine Oq (Vfa QdZ 0) (Oq (QaQ Qia 0) (Oq (QcE QgV) (Oq QhM (Oq Vpf (KS ?_)))))
 refine Kc ?_ ?_
 ·intro h6
  have g7 := dt h6
  refine KS ?_
  refine Oq Va (KS ?_)
  have hq := q4 hrr false (by simp only [QcH, h3, h6, cs4]); subst hq
  exact Kr () rfl (.tmp rfl .nil) [] trivial
 intro h6
 have g8 := df h6
 refine KS ?_
 refine Oq Va (KS ?_)
 refine Kl (γ := Nat × Int) (fun (r9, Qgw) => ⟨[(1, p2), (3, vi Qgw)], [pv p2 [vl pa0 pk0 p.Funcs], S pa0 pk0 p.Funcs], Qb9 p r9 Qgw = Qb9 p (((p.Funcs.length : Int) - 0).toNat) 0 /\ r9 = ((p.Funcs.length : Int) - Qgw).toNat /\ (0 : Int) <= Qgw /\ Qgw <= (p.Funcs.length : Int) /\ (-9223372036854775808 <= Qgw /\ Qgw <= 9223372036854775807), r9⟩) (((p.Funcs.length : Int) - 0).toNat, 0) [0, 1] ⟨rfl, rfl, aM1, aM1, aM1⟩ ?_
 rintro ⟨r9, Qgw⟩ ⟨hM11, hr12, hi13, hi14, hk15⟩
 refine QbB fun _ _ hL hA => ?_; dsimp only at hL hA; subst hL hA
 refine Fb 40 1 fun _ => KS ?_
 refine Oq Vm (Oq (Vfa QdZ 0) (Oq (QaQ Qia 0) (Oq (QcE QgV) (Oq Qcu (KS ?_)))))
 refine Kc ?_ ?_
 ·intro h17
  have g18 := dt h17
  obtain ⟨r19, rfl⟩ := scc (n := r9) aM1
  refine KS ?_
  refine Oq (Vfa QdZ 0) (Oq (QaQ Qia 0) (Oq Vm (Oq (Vi QgV 1) ?_)))
  refine QcR Qgw.toNat 1 rfl rng fun a20 k21 hb22 => ?_
  refine Fb 40 1 fun _ => ?_
  refine Oq (Qc9 Qhk 0) (Oa (Al QnG [.string (bs (Str.mk [])), .slice none 0 0]) fun p24 => Ost (Scl [0] Qhk [.string (bs ((p.Funcs.getD Qgw.toNat default).Name)), vl a20 k21 ((p.Funcs.getD Qgw.toNat default).Blocks)]) (KS ?_))
  refine Oq (Vfa Qk4 0) (Oq (QaQ sh9 0) ?_)
  refine QaO (Qbc ((p.Funcs.getD Qgw.toNat default).Name)) fun rv25 hg26 => ?_
  have hc27 := QqZ ((p.Funcs.getD Qgw.toNat default).Name) pre rv25 hg26
  refine Oc [] Qr8 hc27 ?_
  rintro - -
  refine Oq QeP (Oq Vm ?_)
  refine Js 34 ?_ ?_
  ·intro h28
   have h30 := not_true h28
   refine Osk (Osk (Osk (Osk (Oq Vpt (Oq Vm (Osk (Osk (Osk (Osk ?_)))))))))
   refine Oq Vpt (KS ?_)
   refine Kt (KS ?_)
   refine Oq Va (KS ?_)
   have hR32 := q2 hM11 (.ret false) (by simp only [Qb9, h3, h6, h17, h28, h30, hg26, cs4])
   have hq := q4 hrr false (by simp only [QcH, h3, h6, h17, h28, h30, hg26, hR32, cs4]); subst hq
   exact Kr () rfl (.tmp rfl .nil) [] trivial
  intro h28
  have h34 := not_false h28
  refine Oq (Vfa Qd0 0) (Oq (QaQ Qic 0) (Oq (QcE QgJ) (Oq Qcu (Oq Vpf (Oq Vm ?_)))))
  refine Js 40 ?_ ?_
  ·intro h36
   have g37 := dt h36
   refine Osk (Osk (Osk (Osk (Oq Vpt (KS ?_)))))
   refine Kt (KS ?_)
   refine Oq Va (KS ?_)
   have hR38 := q2 hM11 (.ret false) (by simp only [Qb9, h3, h6, h17, h28, h34, h36, hg26, cs4])
   have hq := q4 hrr false (by simp only [QcH, h3, h6, h17, h28, h34, h36, hg26, hR38, cs4]); subst hq
   exact Kr () rfl (.tmp rfl .nil) [] trivial
  intro h36
  have g39 := df h36
  refine Oq (Vfa Qd0 0) (Oq (QaQ Qic 0) (Oq (QcE QgJ) (Oq QhM (Oq Vpf (KS ?_)))))
  refine Kc ?_ ?_
  ·intro h40
   have g41 := dt h40
   refine KS ?_
   refine Oq Va (KS ?_)
   have hR42 := q2 hM11 (.ret false) (by simp only [Qb9, h3, h6, h17, h28, h34, h36, h40, hg26, cs4])
   have hq := q4 hrr false (by simp only [QcH, h3, h6, h17, h28, h34, h36, h40, hg26, hR42, cs4]); subst hq
   exact Kr () rfl (.tmp rfl .nil) [] trivial
  intro h40
  have g43 := df h40
  refine KS ?_
  refine Oq Va (KS ?_)
  refine Kl (γ := Nat × Int) (fun (r44, Qip) => ⟨[(1, p2), (3, vi Qgw), (4, p24), (5, vi Qip)], [Cl p24 [.string (bs ((p.Funcs.getD Qgw.toNat default).Name)), vl a20 k21 ((p.Funcs.getD Qgw.toNat default).Blocks)], S a20 k21 ((p.Funcs.getD Qgw.toNat default).Blocks), pv p2 [vl pa0 pk0 p.Funcs], S pa0 pk0 p.Funcs], QcL ((p.Funcs.getD Qgw.toNat default).Blocks) r44 Qip = QcL ((p.Funcs.getD Qgw.toNat default).Blocks) ((((((p.Funcs.getD Qgw.toNat default).Blocks).length : Int) : Int) - 0).toNat) 0 /\ r44 = (((((p.Funcs.getD Qgw.toNat default).Blocks).length : Int) : Int) - Qip).toNat /\ (0 : Int) <= Qip /\ (Qip <= (((p.Funcs.getD Qgw.toNat default).Blocks).length : Int) \/ Qip = 0) /\ (-9223372036854775808 <= Qip /\ Qip <= 9223372036854775807), r44⟩) ((((((p.Funcs.getD Qgw.toNat default).Blocks).length : Int) : Int) - 0).toNat, 0) [0, 1, 2, 3] ⟨rfl, rfl, aM1, (.inr rfl), aM1⟩ ?_
  rintro ⟨r44, Qip⟩ ⟨hM46, hr47, hi48, hi49, hk50⟩
  refine QbB fun _ _ hL hA => ?_; dsimp only at hL hA; subst hL hA
  refine Fb 40 1 fun _ => Fb 40 3 fun _ => KS ?_
  refine Oq Vm (Oq (Vfa Qd0 0) (Oq (QaQ Qic 0) (Oq (QcE QgJ) (Oq Qcu (KS ?_)))))
  refine Kc ?_ ?_
  ·intro h53
   have g54 := dt h53
   obtain ⟨r55, rfl⟩ := scc (n := r44) aM1
   refine KS ?_
   refine Oq (Vfa Qd0 0) (Oq (QaQ Qic 0) (Oq Vm (Oq (Vi QgJ 1) ?_)))
   refine QcK Qip.toNat 1 rfl rng fun a56 k57 hb58 => ?_
   refine Fb 72 1 fun _ => ?_
   refine Oq (Qc9 Qg2 0) (Oa (Al QnE [.string (bs (Str.mk [])), .slice none 0 0]) fun p60 => Ost (Scl [0] Qg2 [.string (bs ((((p.Funcs.getD Qgw.toNat default).Blocks).getD Qip.toNat default).Name)), .slice a56 (((((p.Funcs.getD Qgw.toNat default).Blocks).getD Qip.toNat default).Stmts).length) k57]) (KS ?_))
   refine Oq (Vfa Qk1 0) (Oq (QaQ sh9 0) ?_)
   refine QaO (Qbc ((((p.Funcs.getD Qgw.toNat default).Blocks).getD Qip.toNat default).Name)) fun rv61 hg62 => ?_
   have hc63 := QqZ ((((p.Funcs.getD Qgw.toNat default).Blocks).getD Qip.toNat default).Name) pre rv61 hg62
   refine Oc [] Qr8 hc63 ?_
   rintro - -
   refine Oq QeP (Oq Vm ?_)
   refine Js 62 ?_ ?_
   ·intro h64
    have h66 := not_true h64
    refine Osk (Osk (Osk (Osk (Oq Vpt (Oq Vm (Osk (Osk (Osk (Osk ?_)))))))))
    refine Oq Vpt (KS ?_)
    refine Kt (KS ?_)
    refine Oq Va (KS ?_)
    have hR68 := q2 hM46 (.ret false) (by simp only [QcL, h3, h6, h17, h28, h34, h36, h40, h53, h64, h66, hg26, hg62, cs4])
    have hR69 := q2 hM11 (.ret false) (by simp only [Qb9, h3, h6, h17, h28, h34, h36, h40, h53, h64, h66, hg26, hg62, hR68, cs4])
    have hq := q4 hrr false (by simp only [QcH, h3, h6, h17, h28, h34, h36, h40, h53, h64, h66, hg26, hg62, hR68, hR69, cs4]); subst hq
    exact Kr () rfl (.tmp rfl .nil) [] trivial
   intro h64
   have h71 := not_false h64
   refine Oq (Vfa QdO 0) (Oq (QaQ QhV 0) (Oq (QcE QgE) (Oq Qcu (Oq Vpf (Oq Vm ?_)))))
   refine Js 68 ?_ ?_
   ·intro h73
    have g74 := dt h73
    refine Osk (Osk (Osk (Osk (Oq Vpt (KS ?_)))))
    refine Kt (KS ?_)
    refine Oq Va (KS ?_)
    have hR75 := q2 hM46 (.ret false) (by simp only [QcL, h3, h6, h17, h28, h34, h36, h40, h53, h64, h71, h73, hg26, hg62, cs4])
    have hR76 := q2 hM11 (.ret false) (by simp only [Qb9, h3, h6, h17, h28, h34, h36, h40, h53, h64, h71, h73, hg26, hg62, hR75, cs4])
    have hq := q4 hrr false (by simp only [QcH, h3, h6, h17, h28, h34, h36, h40, h53, h64, h71, h73, hg26, hg62, hR75, hR76, cs4]); subst hq
    exact Kr () rfl (.tmp rfl .nil) [] trivial
   intro h73
   have g77 := df h73
   refine Oq (Vfa QdO 0) (Oq (QaQ QhV 0) (Oq (QcE QgE) (Oq QhM (Oq Vpf (KS ?_)))))
   refine Kc ?_ ?_
   ·intro h78
    have g79 := dt h78
    refine KS ?_
    refine Oq Va (KS ?_)
    have hR80 := q2 hM46 (.ret false) (by simp only [QcL, h3, h6, h17, h28, h34, h36, h40, h53, h64, h71, h73, h78, hg26, hg62, cs4])
    have hR81 := q2 hM11 (.ret false) (by simp only [Qb9, h3, h6, h17, h28, h34, h36, h40, h53, h64, h71, h73, h78, hg26, hg62, hR80, cs4])
    have hq := q4 hrr false (by simp only [QcH, h3, h6, h17, h28, h34, h36, h40, h53, h64, h71, h73, h78, hg26, hg62, hR80, hR81, cs4]); subst hq
    exact Kr () rfl (.tmp rfl .nil) [] trivial
   intro h78
   have g82 := df h78
   refine KS ?_
   refine Oq Va (KS ?_)
   refine Kl (γ := Nat × Int) (fun (r83, Qml) => ⟨[(1, p2), (3, vi Qgw), (4, p24), (5, vi Qip), (6, p60), (7, vi Qml)], [Cl p60 [.string (bs ((((p.Funcs.getD Qgw.toNat default).Blocks).getD Qip.toNat default).Name)), .slice a56 (((((p.Funcs.getD Qgw.toNat default).Blocks).getD Qip.toNat default).Stmts).length) k57], S a56 k57 ((((p.Funcs.getD Qgw.toNat default).Blocks).getD Qip.toNat default).Stmts), Cl p24 [.string (bs ((p.Funcs.getD Qgw.toNat default).Name)), vl a20 k21 ((p.Funcs.getD Qgw.toNat default).Blocks)], S a20 k21 ((p.Funcs.getD Qgw.toNat default).Blocks), pv p2 [vl pa0 pk0 p.Funcs], S pa0 pk0 p.Funcs], Qdx ((((p.Funcs.getD Qgw.toNat default).Blocks).getD Qip.toNat default).Stmts) r83 Qml = Qdx ((((p.Funcs.getD Qgw.toNat default).Blocks).getD Qip.toNat default).Stmts) ((((((((p.Funcs.getD Qgw.toNat default).Blocks).getD Qip.toNat default).Stmts).length : Int) : Int) - 0).toNat) 0 /\ r83 = (((((((p.Funcs.getD Qgw.toNat default).Blocks).getD Qip.toNat default).Stmts).length : Int) : Int) - Qml).toNat /\ (0 : Int) <= Qml /\ (Qml <= (((((p.Funcs.getD Qgw.toNat default).Blocks).getD Qip.toNat default).Stmts).length : Int) \/ Qml = 0) /\ (-9223372036854775808 <= Qml /\ Qml <= 9223372036854775807), r83⟩) ((((((((p.Funcs.getD Qgw.toNat default).Blocks).getD Qip.toNat default).Stmts).length : Int) : Int) - 0).toNat, 0) [0, 1, 2, 2, 3, 4] ⟨rfl, rfl, aM1, (.inr rfl), aM1⟩ ?_
   rintro ⟨r83, Qml⟩ ⟨hM85, hr86, hi87, hi88, hk89⟩
   refine QbB fun _ _ hL hA => ?_; dsimp only at hL hA; subst hL hA
   refine Fb 72 1 fun _ => Fb 40 3 fun _ => Fb 40 5 fun _ => KS ?_
   refine Oq Vm (Oq (Vfa QdO 0) (Oq (QaQ QhV 0) (Oq (QcE QgE) (Oq Qcu (KS ?_)))))
   refine Kc ?_ ?_
   ·intro h93
    have g94 := dt h93
    obtain ⟨r95, rfl⟩ := scc (n := r83) aM1
    refine KS ?_
    refine Oq (Vfa QdO 0) (Oq (QaQ QhV 0) (Oq Vm (Oq (Vi QgE 1) ?_)))
    refine QdP Qml.toNat 1 rfl rng fun a96 k97 a98 k99 hb100 hb101 => ?_
    unfold Qac at hb100
    refine Fb 16 1 fun _ => ?_
    refine FoS 1 fun ho103 => ?_
    refine Fb 16 2 fun _ => ?_
    refine FoS 2 fun ho105 => ?_
    refine Oq (Qc9 QdF 0) ?_
    refine QaO (Qaz (((((p.Funcs.getD Qgw.toNat default).Blocks).getD Qip.toNat default).Stmts).getD Qml.toNat default)) fun rv106 hg107 => ?_
    have hc108 := Qwd ((((((p.Funcs.getD Qgw.toNat default).Blocks).getD Qip.toNat default).Stmts).getD Qml.toNat default)) a96 k97 a98 k99 pre pre rv106 hg107
    refine Oc [1, 2] Qv0 hc108 ?_
    rintro - -
    refine Oq QeP (KS ?_)
    refine Kc ?_ ?_
    ·intro h109
     have h111 := not_true h109
     refine KS ?_
     refine Oq Va (KS ?_)
     have hR113 := q2 hM85 (.ret false) (by simp only [Qdx, h3, h6, h17, h28, h34, h36, h40, h53, h64, h71, h73, h78, h93, h109, h111, hg26, hg62, hg107, cs4])
     have hR114 := q2 hM46 (.ret false) (by simp only [QcL, h3, h6, h17, h28, h34, h36, h40, h53, h64, h71, h73, h78, h93, h109, h111, hg26, hg62, hg107, hR113, cs4])
     have hR115 := q2 hM11 (.ret false) (by simp only [Qb9, h3, h6, h17, h28, h34, h36, h40, h53, h64, h71, h73, h78, h93, h109, h111, hg26, hg62, hg107, hR113, hR114, cs4])
     have hq := q4 hrr false (by simp only [QcH, h3, h6, h17, h28, h34, h36, h40, h53, h64, h71, h73, h78, h93, h109, h111, hg26, hg62, hg107, hR113, hR114, hR115, cs4]); subst hq
     exact Kr () rfl (.tmp rfl .nil) [] trivial
    intro h109
    have h117 := not_false h109
    refine KS ?_
    refine Oq Vm (Oq Qbd (Oq Va (KS ?_)))
    exact Kg (r95, (Qml + 1)) [3, 3, 4, 4, 5, 6] ⟨(q3 hM85 (by simp only [Qdx, h3, h6, h17, h28, h34, h36, h40, h53, h64, h71, h73, h78, h93, h109, h117, hg26, hg62, hg107, cs4])), aM1, aM1, aM1, aM1⟩
   intro h93
   have g119 := df h93
   obtain rfl : r83 = 0 := by omega
   refine Ke ?_
   have hR120 := q2 hM85 (.brk ()) (by simp only [Qdx, h3, h6, h17, h28, h34, h36, h40, h53, h64, h71, h73, h78, h93, hg26, hg62, cs4])
   refine KS ?_
   refine Oq Vm (Oq Qbd (Oq Va (KS ?_)))
   exact Kg (r55, (Qip + 1)) [2, 2, 3, 4] ⟨(q3 hM46 (by simp only [QcL, h3, h6, h17, h28, h34, h36, h40, h53, h64, h71, h73, h78, h93, hg26, hg62, hR120, cs4])), aM1, aM1, aM1, aM1⟩
  intro h53
  have g121 := df h53
  obtain rfl : r44 = 0 := by omega
  refine Ke ?_
  have hR122 := q2 hM46 (.brk ()) (by simp only [QcL, h3, h6, h17, h28, h34, h36, h40, h53, hg26, cs4])
  refine KS ?_
  refine Oq Vm (Oq Qbd (Oq Va (KS ?_)))
  exact Kg (r19, (Qgw + 1)) [2, 3] ⟨(q3 hM11 (by simp only [Qb9, h3, h6, h17, h28, h34, h36, h40, h53, hg26, hR122, cs4])), aM1, aM1, aM1, aM1⟩
 intro h17
 have g123 := df h17
 obtain rfl : r9 = 0 := by omega
 refine Ke ?_
 have hR124 := q2 hM11 (.brk ()) (by simp only [Qb9, h3, h6, h17, cs4])
 refine KS ?_
 refine Oq Va (KS ?_)
 have hq := q4 hrr true (by simp only [QcH, h3, h6, h17, hR124, cs4]); subst hq
 exact Kr () rfl (.tmp rfl .nil) [] trivial
theorem fn9 (p : Qaj) (pa0 : Option Addr) (pk0 : Nat) (rr : Int × Int) (hrr : Qfj p = rr) : FT Tryd.prog 9 #[.agg #[vl pa0 pk0 p.Funcs]] [S pa0 pk0 p.Funcs] (fun g : Unit => Qac rr.1 /\ Qac rr.2) (fun g => .tuple #[vi rr.1, vi rr.2]) (fun g => []) := by
 refine FTi Tryd.func9 fun w0 M0 F0 => Fb 40 0 fun _ => ?_
 refine KS ?_
 refine Oa (Ab [vl pa0 pk0 p.Funcs]) fun p2 => Oq Va (Oq Va (KS ?_))
 refine Oq Va (Oq Va (KS ?_))
 refine Oq (Qc9 Qec 0) ?_
 refine QaO (QcH p) fun rv3 hg4 => ?_
 have hc5 := QvO p pa0 pk0 rv3 hg4
 refine Oc [1] Qu4 hc5 ?_
 rintro - -
 refine Oq QeP (KS ?_)
 refine Kc ?_ ?_
 ·intro h6
  have h8 := not_true h6
  refine KS ?_
  refine Oq Va (Oq Va (KS ?_))
  have hq := q4 hrr (0, 0) (by simp only [Qfj, h6, h8, hg4, cs4]); subst hq
  exact Kr () rfl (.tmp rfl (.tmp rfl .nil)) [] en
 intro h6
 have h11 := not_false h6
 try have hVb := Qsn (p := p) (by simp only [h6, h11, hg4])
 refine KS ?_
 refine Oq Va (KS ?_)
 refine Kl (γ := Nat × Int × Int × Int) (fun (r13, QiJ, QeK, Qh7) => ⟨[(1, p2), (4, vi QiJ), (5, vi QeK), (6, vi Qh7)], [pv p2 [vl pa0 pk0 p.Funcs], S pa0 pk0 p.Funcs], QcA p r13 QiJ QeK Qh7 = QcA p (((p.Funcs.length : Int) - 0).toNat) 0 0 0 /\ r13 = ((p.Funcs.length : Int) - Qh7).toNat /\ (0 : Int) <= Qh7 /\ Qh7 <= (p.Funcs.length : Int) /\ (-9223372036854775808 <= QiJ /\ QiJ <= 9223372036854775807) /\ (-9223372036854775808 <= QeK /\ QeK <= 9223372036854775807) /\ (-9223372036854775808 <= Qh7 /\ Qh7 <= 9223372036854775807) /\ (0 <= QiJ /\ QiJ <= 1100 * Qh7 /\ 0 <= QeK /\ QeK <= 1700 * Qh7), r13⟩) (((p.Funcs.length : Int) - 0).toNat, 0, 0, 0) [0, 1] ⟨rfl, rfl, aM1, aM1, aM1, aM1, aM1, iv0⟩ ?_
 rintro ⟨r13, QiJ, QeK, Qh7⟩ ⟨hM17, hr18, hi19, hi20, hk21, hk22, hk23, hv24⟩
 refine QbB fun _ _ hL hA => ?_; dsimp only at hL hA; subst hL hA
 refine Fb 40 1 fun _ => KS ?_
 refine Oq Vm (Oq (Vfa QdZ 0) (Oq (QaQ Qia 0) (Oq (QcE QgV) (Oq Qcu (KS ?_)))))
 refine Kc ?_ ?_
 ·intro h26
  have g27 := dt h26
  have hVf := hVb.2 Qh7.toNat
  obtain ⟨r28, rfl⟩ := scc (n := r13) aM1
  refine KS ?_
  refine Oq Vm (Oq Qbd (Oq Vm (Oq Qbd (Oq Va (Oq Va (KS ?_))))))
  refine Oq Va (KS ?_)
  refine Kl (γ := Nat × Int × Int × Int) (fun (r29, QiK, QeL, Qjz) => ⟨[(1, p2), (6, vi Qh7), (4, vi QiK), (5, vi QeL), (7, vi Qjz)], [pv p2 [vl pa0 pk0 p.Funcs], S pa0 pk0 p.Funcs], Qbz p Qh7 r29 QiK QeL Qjz = Qbz p Qh7 ((((((p.Funcs.getD Qh7.toNat default).Blocks).length : Int) : Int) - 0).toNat) (QiJ + 2) (QeK + 1) 0 /\ r29 = (((((p.Funcs.getD Qh7.toNat default).Blocks).length : Int) : Int) - Qjz).toNat /\ (0 : Int) <= Qjz /\ (Qjz <= (((p.Funcs.getD Qh7.toNat default).Blocks).length : Int) \/ Qjz = 0) /\ (-9223372036854775808 <= QiK /\ QiK <= 9223372036854775807) /\ (-9223372036854775808 <= QeL /\ QeL <= 9223372036854775807) /\ (-9223372036854775808 <= Qjz /\ Qjz <= 9223372036854775807) /\ (0 <= QiK /\ QiK <= (QiJ + 2) + 66 * Qjz /\ 0 <= QeL /\ QeL <= (QeK + 1) + 98 * Qjz), r29⟩) ((((((p.Funcs.getD Qh7.toNat default).Blocks).length : Int) : Int) - 0).toNat, (QiJ + 2), (QeK + 1), 0) [0, 1] ⟨rfl, rfl, aM1, (.inr rfl), aM1, aM1, aM1, iv0⟩ ?_
  rintro ⟨r29, QiK, QeL, Qjz⟩ ⟨hM33, hr34, hi35, hi36, hk37, hk38, hk39, hv40⟩
  refine QbB fun _ _ hL hA => ?_; dsimp only at hL hA; subst hL hA
  refine Fb 40 1 fun _ => KS ?_
  refine Oq Vm (Oq (Vfa QdZ 0) (Oq (QaQ Qia 0) (Oq Vm (Oq (Vi QgV 1) ?_))))
  refine QcR Qh7.toNat 1 rfl rng fun a42 k43 hb44 => ?_
  refine Fb 40 1 fun _ => ?_
  refine Oq (Vfa Qd0 0) (Oq (QaQ Qic 0) (Oq (QcE QgJ) (Oq Qcu (KS ?_))))
  refine Kc ?_ ?_
  ·intro h46
   have g47 := dt h46
   have hVk := hVf.2 Qjz.toNat
   obtain ⟨r48, rfl⟩ := scc (n := r29) aM1
   refine KS ?_
   refine Oq (Vfa QdZ 2) (Oq (QaQ Qia 2) (Oq Vm (Oq (Vi QgV 3) (Oq (Vfa Qd0 0) (Oq (QaQ Qic 0) (Oq Vm (Oq (Vi QgJ 1) ?_)))))))
   refine QcK Qjz.toNat 1 rfl rng fun a49 k50 hb51 => ?_
   refine Fb 72 1 fun _ => ?_
   refine Oq (Vfa QdO 0) (Oq (QaQ QhV 0) (Oq Va (KS ?_)))
   refine Oq Va (KS ?_)
   refine Kl (γ := Nat × Int × Int × Int) (fun (r53, QiL, QeM, Qk7) => ⟨[(1, p2), (6, vi Qh7), (4, vi QiL), (5, vi QeM), (7, vi Qjz), (8, .slice a49 (((((p.Funcs.getD Qh7.toNat default).Blocks).getD Qjz.toNat default).Stmts).length) k50), (9, vi Qk7)], [S a49 k50 ((((p.Funcs.getD Qh7.toNat default).Blocks).getD Qjz.toNat default).Stmts), pv p2 [vl pa0 pk0 p.Funcs], S pa0 pk0 p.Funcs], Qbj ((((p.Funcs.getD Qh7.toNat default).Blocks).getD Qjz.toNat default).Stmts) r53 QiL QeM Qk7 = Qbj ((((p.Funcs.getD Qh7.toNat default).Blocks).getD Qjz.toNat default).Stmts) ((((((((p.Funcs.getD Qh7.toNat default).Blocks).getD Qjz.toNat default).Stmts).length : Int) : Int) - 0).toNat) QiK QeL 0 /\ r53 = (((((((p.Funcs.getD Qh7.toNat default).Blocks).getD Qjz.toNat default).Stmts).length : Int) : Int) - Qk7).toNat /\ (0 : Int) <= Qk7 /\ (Qk7 <= (((((p.Funcs.getD Qh7.toNat default).Blocks).getD Qjz.toNat default).Stmts).length : Int) \/ Qk7 = 0) /\ (-9223372036854775808 <= QiL /\ QiL <= 9223372036854775807) /\ (-9223372036854775808 <= QeM /\ QeM <= 9223372036854775807) /\ (-9223372036854775808 <= Qk7 /\ Qk7 <= 9223372036854775807) /\ (0 <= QiL /\ QiL <= QiK + 2 * Qk7 /\ 0 <= QeM /\ QeM <= QeL + 3 * Qk7), r53⟩) ((((((((p.Funcs.getD Qh7.toNat default).Blocks).getD Qjz.toNat default).Stmts).length : Int) : Int) - 0).toNat, QiK, QeL, 0) [1, 4, 5] ⟨rfl, rfl, aM1, (.inr rfl), aM1, aM1, aM1, iv0⟩ ?_
   rintro ⟨r53, QiL, QeM, Qk7⟩ ⟨hM57, hr58, hi59, hi60, hk61, hk62, hk63, hv64⟩
   refine QbB fun _ _ hL hA => ?_; dsimp only at hL hA; subst hL hA
   refine Fb 72 0 fun _ => Fb 40 2 fun _ => KS ?_
   refine Oq Vm (Oq Vm (Oq (QcE QgE) (Oq Qcu (KS ?_))))
   refine Kc ?_ ?_
   ·intro h67
    have g68 := dt h67
    have hVs := hVk.2 Qk7.toNat
    obtain ⟨r69, rfl⟩ := scc (n := r53) aM1
    refine KS ?_
    refine Oq Vm (Oq Qbd (Oq Va (KS ?_)))
    refine Oq Vm (Oq Vm (Oq (Vi QgE 0) ?_))
    refine QdP Qk7.toNat 0 rfl rng fun a70 k71 a72 k73 hb74 hb75 => ?_
    unfold Qac at hb74
    refine Fb 16 1 fun _ => ?_
    refine FoS 1 fun ho77 => ?_
    refine Fb 16 2 fun _ => ?_
    refine FoS 2 fun ho79 => ?_
    refine Oq (Vfa Qdw 0) (Oq (QaQ sh3 0) (KS ?_))
    refine Oq Qby (Oq Va (KS ?_))
    refine Kc ?_ ?_
    ·intro h80
     have g81 := eq_of_beq h80
     refine KS ?_
     refine Oq Vm (Oq Qbd (Oq Vm (Oq Qbd (Oq Va (Oq Va (KS ?_))))))
     refine Oq Vm (Oq Qbd (Oq Va (KS ?_)))
     exact Kg (r69, ((QiL + 1) + 1), (QeM + 3), (Qk7 + 1)) [3, 4, 5] ⟨(q3 hM57 (by simp only [Qbj, h6, h11, h26, h46, h67, h80, hg4, cs4])), aM1, aM1, aM1, aM1, aM1, aM1, iv1⟩
    intro h80
    have g82 := ne_of_beq_false h80
    refine KS ?_
    refine Oq Qby (Oq Va (KS ?_))
    refine Kc ?_ ?_
    ·intro h83
     have g84 := eq_of_beq h83
     refine KS ?_
     refine Oq Vm (Oq Qbd (Oq Va (KS ?_)))
     refine Oq Vm (Oq Qbd (Oq Va (KS ?_)))
     exact Kg (r69, (QiL + 1), (QeM + 2), (Qk7 + 1)) [3, 4, 5] ⟨(q3 hM57 (by simp only [Qbj, h6, h11, h26, h46, h67, h80, h83, hg4, cs4])), aM1, aM1, aM1, aM1, aM1, aM1, iv1⟩
    intro h83
    have g85 := ne_of_beq_false h83
    refine KS ?_
    refine Oq Vm (Oq Qbd (Oq Va (KS ?_)))
    refine Oq Vm (Oq Qbd (Oq Va (KS ?_)))
    exact Kg (r69, (QiL + 1), (QeM + 1), (Qk7 + 1)) [3, 4, 5] ⟨(q3 hM57 (by simp only [Qbj, h6, h11, h26, h46, h67, h80, h83, hg4, cs4])), aM1, aM1, aM1, aM1, aM1, aM1, iv1⟩
   intro h67
   have g86 := df h67
   obtain rfl : r53 = 0 := by omega
   refine Ke ?_
   have hR87 := q2 hM57 (QiL, QeM) (by simp only [Qbj, h6, h11, h26, h46, h67, hg4, cs4])
   refine KS ?_
   refine Oq Vm (Oq Qbd (Oq Va (KS ?_)))
   exact Kg (r48, QiL, QeM, (Qjz + 1)) [1, 2] ⟨(q3 hM33 (by simp only [Qbz, h6, h11, h26, h46, h67, hg4, hR87, cs4])), aM1, aM1, aM1, aM1, aM1, aM1, iv1⟩
  intro h46
  have g88 := df h46
  obtain rfl : r29 = 0 := by omega
  refine Ke ?_
  have hR89 := q2 hM33 (QiK, QeL) (by simp only [Qbz, h6, h11, h26, h46, hg4, cs4])
  refine KS ?_
  refine Oq Vm (Oq Qbd (Oq Va (KS ?_)))
  exact Kg (r28, QiK, QeL, (Qh7 + 1)) [2, 3] ⟨(q3 hM17 (by simp only [QcA, h6, h11, h26, h46, hg4, hR89, cs4])), aM1, aM1, aM1, aM1, aM1, aM1, iv1⟩
 intro h26
 have g90 := df h26
 obtain rfl : r13 = 0 := by omega
 refine Ke ?_
 have hR91 := q2 hM17 (QiJ, QeK) (by simp only [QcA, h6, h11, h26, hg4, cs4])
 refine KS ?_
 refine Oq Vm (Oq Vm (Oq Va (Oq Va (KS ?_))))
 have hq := q4 hrr (QiJ, QeK) (by simp only [Qfj, h6, h11, h26, hg4, hR91, cs4]); subst hq
 exact Kr () rfl (.tmp rfl (.tmp rfl .nil)) [] en
theorem fn3 (t : List Int) (ta0 : Option Addr) (tk0 : Nat) (kwLA : Option Addr) (kwLK : Nat) (rr : Bool) (hrr : Qb3 t = rr) : FT Tryd.prog 3 #[vl ta0 tk0 t] [S ta0 tk0 t, pv (gp 0) [vl kwLA kwLK kwL], S kwLA kwLK kwL] (fun g : Unit => True) (fun g => vb rr) (fun g => []) := by
 refine FTi Tryd.func3 fun w0 M0 F0 => Fb 8 0 fun _ => Fo 0 fun ho2 => Fb 16 2 fun _ => ?_
 refine FoS 2 fun ho4 => ?_
 refine KS ?_
 refine Oq Va (KS ?_)
 refine Oq Vm ?_
 refine QaO (Qn7 t) fun rv6 hg7 => ?_
 have hc8 := fn6 t ta0 tk0 rv6 hg7
 refine Oc [0] ca6 hc8 ?_
 rintro c5 -
 refine QaO (Qd4 t 0) fun rv10 hg11 => ?_
 have hc12 := fn7 c5 ta0 tk0 t 0 pre rv10 hg11
 refine Oc [0, 0] ca7 hc12 ?_
 rintro c9 he13
 refine Jo 0 ?_; rintro a14 k15 rfl
 refine Fb 40 0 fun _ => ?_
 refine Oa (Al QqM [.slice none 0 0]) fun p17 => Ost (Scl [0] Qec [vl a14 k15 rv10.1.Funcs]) (KS ?_)
 refine Oq (Qc9 Qec 0) ?_
 refine QaO (QfI rv10.1) fun rv21 hg22 => ?_
 have hc23 := fn8 rv10.1 a14 k15 kwLA kwLK (by first | exact QoX (by assumption) (by kernel_rfl) | exact Qir (by assumption) | exact Qlj (QhB (by assumption))) rv21 hg22
 refine Oc [1, 4, 5] ca8 hc23 ?_
 rintro ⟨c18, c19, c20⟩ ⟨he24, he25⟩
 unfold Qac at he24
 refine Jo 0 ?_; rintro a26 k27 rfl
 refine Fb 32 0 fun _ => ?_
 refine Jo 1 ?_; rintro a29 k30 rfl
 refine Fb 24 1 fun _ => ?_
 refine Jo 2 ?_; rintro a32 k33 rfl
 refine Fb 24 2 fun _ => ?_
 refine Oq Vm (Oq Vx (Oq Vx (Oa (Al Qtp [.slice none 0 0, .slice none 0 0, .slice none 0 0]) fun p35 => Ost (Scl [0] QmP [vl a26 k27 rv21.1.Nodes, vl a29 k30 rv21.1.Succ, vl a32 k33 rv21.1.Pred]) (Oq Va (KS ?_)))))
 refine Oq (Qc9 Qec 4) ?_
 refine QaO (Qfj rv10.1) fun rv36 hg37 => ?_
 have hc38 := fn9 rv10.1 a14 k15 rv36 hg37
 refine Oc [5] ca9 hc38 ?_
 rintro - ⟨he39, he40⟩
 unfold Qac at he39 he40
 refine Oq Vm (Oq Vx (Oq Vx (Oq Va (Oq Va (KS ?_)))))
 refine Oq Vm (Oq QgA (Oq Vm ?_))
 refine Js 24 ?_ ?_
 ·intro h41
  have g42 := QbL h41
  refine Osk (Osk (Osk (Oq Vpt (Oq Vm (Osk (Osk (Osk (Osk (Oq Vpt ?_)))))))))
  refine Oq Vm (Osk (Osk (Osk (Osk (Oq Vpt (KS ?_))))))
  refine Kt (KS ?_)
  refine Oq Va (KS ?_)
  have hq := q4 hrr false (by simp only [Qb3, h41, hg7, hg11, hg22, hg37, cs4]); subst hq
  exact Kr () rfl (.tmp rfl .nil) [] trivial
 intro h41
 have g43 := QaA h41
 refine Oq (Qc9 QmP 0) ?_
 refine QaO (Qde rv21.1) fun rv44 hg45 => ?_
 have hc46 := QuF rv21.1 a26 k27 a29 k30 a32 k33 rv44 hg45
 refine Oc [1, 2, 3] Qul hc46 ?_
 rintro - -
 refine Oq QeP (Oq Vpf (Oq Vm ?_))
 refine Js 29 ?_ ?_
 ·intro h47
  have h49 := not_true h47
  refine Osk (Osk (Osk (Osk (Oq Vpt (Oq Vm (Osk (Osk (Osk (Osk ?_)))))))))
  refine Oq Vpt (KS ?_)
  refine Kt (KS ?_)
  refine Oq Va (KS ?_)
  have hq := q4 hrr false (by simp only [Qb3, h41, h47, h49, hg7, hg11, hg22, hg37, hg45, cs4]); subst hq
  exact Kr () rfl (.tmp rfl .nil) [] trivial
 intro h47
 have h52 := not_false h47
 have hgv := Qqe (by assumption) h47
 have hn1 := hgv.n1
 have hsl := hgv.sl
 refine Oq (Qc9 QmP 0) ?_
 refine QaO (QfJ rv21.1) fun rv54 hg55 => ?_
 have hc56 := QuC rv21.1 a26 k27 a29 k30 a32 k33 rv54 hg55
 refine Oc [1, 2, 3] QtZ hc56 ?_
 rintro - he57
 unfold Qac at he57
 refine Oq Vm (Oq QhM (Oq Vpf (Oq Vm ?_)))
 refine Js 35 ?_ ?_
 ·intro h58
  have g59 := dt h58
  refine Osk (Osk (Osk (Osk (Oq Vpt (KS ?_)))))
  refine Kt (KS ?_)
  refine Oq Va (KS ?_)
  have hq := q4 hrr false (by simp only [Qb3, h41, h47, h52, h58, hg7, hg11, hg22, hg37, hg45, hg55, cs4]); subst hq
  exact Kr () rfl (.tmp rfl .nil) [] trivial
 intro h58
 have g60 := df h58
 refine Oq (Vfa Qlz 0) (Oq (QaQ QsG 0) (Oq (QcE Qjj) (Oq Qby (Oq Vpf (KS ?_)))))
 refine Kc ?_ ?_
 ·intro h61
  have g62 := eq_of_beq h61
  refine KS ?_
  refine Oq Va (KS ?_)
  have hq := q4 hrr false (by simp only [Qb3, h41, h47, h52, h58, h61, hg7, hg11, hg22, hg37, hg45, hg55, cs4]); subst hq
  exact Kr () rfl (.tmp rfl .nil) [] trivial
 intro h61
 have g63 := ne_of_beq_false h61
 refine KS ?_
 refine Oq Va (KS ?_)
 refine Kl (γ := Nat × Int) (fun (r64, Qms) => ⟨[(4, p35), (8, vi Qms)], [Cl p35 [vl a26 k27 rv21.1.Nodes, vl a29 k30 rv21.1.Succ, vl a32 k33 rv21.1.Pred], S a26 k27 rv21.1.Nodes, S a29 k30 rv21.1.Succ, S a32 k33 rv21.1.Pred, pv (gp 0) [vl kwLA kwLK kwL], S kwLA kwLK kwL], Qbm rv21.1.Nodes rv21.1.Succ r64 Qms = Qbm rv21.1.Nodes rv21.1.Succ (((rv21.1.Nodes.length : Int) - 0).toNat) 0 /\ r64 = ((rv21.1.Nodes.length : Int) - Qms).toNat /\ (0 : Int) <= Qms /\ Qms <= (rv21.1.Nodes.length : Int) /\ (-9223372036854775808 <= Qms /\ Qms <= 9223372036854775807), r64⟩) (((rv21.1.Nodes.length : Int) - 0).toNat, 0) [0, 0, 1, 2, 7, 8] ⟨rfl, rfl, aM1, aM1, aM1⟩ ?_
 rintro ⟨r64, Qms⟩ ⟨hM66, hr67, hi68, hi69, hk70⟩
 refine QbB fun _ _ hL hA => ?_; dsimp only at hL hA; subst hL hA
 refine Fb 32 1 fun _ => Fb 24 2 fun _ => Fb 24 3 fun _ => Fb 16 5 fun _ => ?_
 refine FoS 5 fun ho75 => ?_
 refine KS ?_
 refine Oq Vm (Oq (Vfa Qlz 0) (Oq (QaQ QsG 0) (Oq (QcE Qjj) (Oq Qcu (KS ?_)))))
 refine Kc ?_ ?_
 ·intro h76
  have g77 := dt h76
  obtain ⟨r78, rfl⟩ := scc (n := r64) aM1
  refine KS ?_
  refine Oq (Vfa Qgz 0) (Oq (QaQ QjR 0) (Oq Vm (Oq (Vi Qi6 2) ?_)))
  refine Qgf Qms.toNat 2 rfl rng fun a79 k80 => ?_
  refine Fb 8 1 fun _ => Fo 1 fun ho82 => ?_
  refine Oq (Vld QkW 0) (Oq (QcE Qb2) (Oq Qby (Oq Vm ?_)))
  refine Js 55 ?_ ?_
  ·intro h83
   have g84 := eq_of_beq h83
   refine Oq (Vfa Qlz 2) (Oq (QaQ QsG 2) (Oq Vm (Oq (Vi Qjj 3) ?_)))
   refine QgN Qms.toNat 3 rfl rng fun hb85 hb86 hb87 hb88 => ?_
   unfold Qac at hb85 hb86 hb87 hb88
   refine Oq (Vfa Qo9 0) (Oq (QaQ sh3 0) (Oq QgA (Oq Vpt (KS ?_))))
   refine Kc ?_ ?_
   ·intro h89
    have g90 := QbL h89
    refine KS ?_
    refine Oq Va (KS ?_)
    have hR91 := q2 hM66 (.ret false) (by simp only [Qbm, h41, h47, h52, h58, h61, h76, h83, h89, hg7, hg11, hg22, hg37, hg45, hg55, cs4])
    have hq := q4 hrr false (by simp only [Qb3, h41, h47, h52, h58, h61, h76, h83, h89, hg7, hg11, hg22, hg37, hg45, hg55, hR91, cs4]); subst hq
    exact Kr () rfl (.tmp rfl .nil) [] trivial
   intro h89
   have g92 := QaA h89
   refine KS ?_
   refine Oq Vm (Oq Qbd (Oq Va (KS ?_)))
   exact Kg (r78, (Qms + 1)) [3, 3, 4, 5, 6, 7] ⟨(q3 hM66 (by simp only [Qbm, h41, h47, h52, h58, h61, h76, h83, h89, hg7, hg11, hg22, hg37, hg45, hg55, cs4])), aM1, aM1, aM1, aM1⟩
  intro h83
  have g93 := ne_of_beq_false h83
  refine Osk (Osk (Osk (Osk (Osk (Osk (Osk (Oq Vpf (KS ?_))))))))
  refine Kf (KS ?_)
  refine Oq Vm (Oq Qbd (Oq Va (KS ?_)))
  exact Kg (r78, (Qms + 1)) [2, 2, 3, 4, 5, 6] ⟨(q3 hM66 (by simp only [Qbm, h41, h47, h52, h58, h61, h76, h83, hg7, hg11, hg22, hg37, hg45, hg55, cs4])), aM1, aM1, aM1, aM1⟩
 intro h76
 have g94 := df h76
 obtain rfl : r64 = 0 := by omega
 refine Ke ?_
 have hR95 := q2 hM66 (.brk ()) (by simp only [Qbm, h41, h47, h52, h58, h61, h76, hg7, hg11, hg22, hg37, hg45, hg55, cs4])
 refine KS ?_
 have hc96 := QvQ kwLA kwLK Qfw rfl
 refine Oc [4, 5] QvI hc96 ?_
 rintro - -
 refine Oq Va (KS ?_)
 have hq := q4 hrr Qfw (by simp only [Qb3, h41, h47, h52, h58, h61, h76, hg7, hg11, hg22, hg37, hg45, hg55, hR95, cs4]); subst hq
 exact Kr () rfl (.tmp rfl .nil) [] trivial
end Go.SL.G
