/- Part 5 of the walks: mirrors, plain laws and walks used by the last text of this claim. -/
import Derived.Test.YtadicaikmebpcaaGreatDoorW4
import Derived.Test.YtadicaikmebpcaaGreatDoorProg
set_option linter.unusedVariables false
set_option linter.unusedSimpArgs false
namespace Go.SL.G
open Go Go.SL Go.Proofs
set_option maxHeartbeats 20000000
set_option maxRecDepth 100000
theorem fn13 (kwLA : Option Addr) (kwLK : Nat) (rr : Bool) (hrr : w7_sane = rr) : FT Tryz.prog 13 #[] [pv (gp 0) [vl kwLA kwLK kwL], S kwLA kwLK kwL] (fun g : Unit => True) (fun g => vb rr) (fun g => []) := by
 refine FTi Tryz.func13 fun w0 M0 F0 => Fb 16 1 fun _ => ?_
 refine FoS 1 fun ho2 => ?_
 refine KS ?_
 refine Oq Va (KS ?_)
 have hc4 := fn35  w7_program rfl
 refine Oc [] ca35 hc4 ?_
 rintro c3 -
 refine Jo 0 ?_; rintro a5 k6 rfl
 refine Fb 40 0 fun _ => ?_
 refine letv (nd_List w7_program) fun rv9 hg10 => ?_
 have hc11 := fn25 w7_program a5 k6 kwLA kwLK (by first | exact Program_PSm' (by assumption) | exact SpP_PSm (Program_SpP (by assumption)) | kernel_rfl) rv9 hg10
 refine Oc [0, 1, 2] ca25 hc11 ?_
 rintro c8 he12
 refine Jo 0 ?_; rintro a13 k14 rfl
 refine Fb 32 0 fun _ => ?_
 refine Oq Va (KS ?_)
 refine Oa (AsV sl45 sz45 [.string (bs (Str.mk [109, 46, 101, 110, 116, 114, 121])), .string (bs (Str.mk [109, 46, 98, 46, 48])), .string (bs (Str.mk [109, 46, 98, 46, 49])), .string (bs (Str.mk [109, 46, 98, 46, 49, 43])), .string (bs (Str.mk [109, 46, 98, 46, 50])), .string (bs (Str.mk [109, 46, 101, 120, 105, 116]))] [.string (bs (Str.mk [109, 46, 101, 110, 116, 114, 121])), .string (bs (Str.mk [109, 46, 98, 46, 48])), .string (bs (Str.mk [109, 46, 98, 46, 49])), .string (bs (Str.mk [109, 46, 98, 46, 49, 43])), .string (bs (Str.mk [109, 46, 98, 46, 50])), .string (bs (Str.mk [109, 46, 101, 120, 105, 116]))]) fun c16 => ?_
 refine Jo 0 ?_; rintro a17 k18 rfl
 refine Oq Va (KS ?_)
 refine Oq Vm (Oq (Vlen sl31) (Oq Vm (Oq (Vlen sl45) (Oq Vneq (KS ?_)))))
 refine Kc ?_ ?_
 ·intro h19
  have g20 := ne_of_bne h19
  refine KS ?_
  refine Oq Va (KS ?_)
  have hq := q4 hrr false (by simp only [w7_sane, h19, hg10, cs4]); subst hq
  exact Kr () rfl (.tmp rfl .nil) [] trivial
 intro h19
 have g21 := eq_of_bne_false h19
 refine KS ?_
 refine Oq Va (KS ?_)
 refine Jl [0] (Ent.crOs (α := Str) (A := []) _ ([(Str.mk [109, 46, 101, 110, 116, 114, 121]), (Str.mk [109, 46, 98, 46, 48]), (Str.mk [109, 46, 98, 46, 49]), (Str.mk [109, 46, 98, 46, 49, 43]), (Str.mk [109, 46, 98, 46, 50]), (Str.mk [109, 46, 101, 120, 105, 116])] : List Str) _ aB1 (fun h => ⟨[.string (bs (Str.mk [109, 46, 101, 110, 116, 114, 121]))], [.string (bs (Str.mk [109, 46, 98, 46, 48])), .string (bs (Str.mk [109, 46, 98, 46, 49])), .string (bs (Str.mk [109, 46, 98, 46, 49, 43])), .string (bs (Str.mk [109, 46, 98, 46, 50])), .string (bs (Str.mk [109, 46, 101, 120, 105, 116]))], rfl, (fun _ => ⟨rfl, by first | omega | (simp; done) | (dsimp only; omega) | exact lit_bl rfl⟩) h, ⟨[.string (bs (Str.mk [109, 46, 98, 46, 48]))], [.string (bs (Str.mk [109, 46, 98, 46, 49])), .string (bs (Str.mk [109, 46, 98, 46, 49, 43])), .string (bs (Str.mk [109, 46, 98, 46, 50])), .string (bs (Str.mk [109, 46, 101, 120, 105, 116]))], rfl, (fun _ => ⟨rfl, by first | omega | (simp; done) | (dsimp only; omega) | exact lit_bl rfl⟩) h, ⟨[.string (bs (Str.mk [109, 46, 98, 46, 49]))], [.string (bs (Str.mk [109, 46, 98, 46, 49, 43])), .string (bs (Str.mk [109, 46, 98, 46, 50])), .string (bs (Str.mk [109, 46, 101, 120, 105, 116]))], rfl, (fun _ => ⟨rfl, by first | omega | (simp; done) | (dsimp only; omega) | exact lit_bl rfl⟩) h, ⟨[.string (bs (Str.mk [109, 46, 98, 46, 49, 43]))], [.string (bs (Str.mk [109, 46, 98, 46, 50])), .string (bs (Str.mk [109, 46, 101, 120, 105, 116]))], rfl, (fun _ => ⟨rfl, by first | omega | (simp; done) | (dsimp only; omega) | exact lit_bl rfl⟩) h, ⟨[.string (bs (Str.mk [109, 46, 98, 46, 50]))], [.string (bs (Str.mk [109, 46, 101, 120, 105, 116]))], rfl, (fun _ => ⟨rfl, by first | omega | (simp; done) | (dsimp only; omega) | exact lit_bl rfl⟩) h, ⟨[.string (bs (Str.mk [109, 46, 101, 120, 105, 116]))], [], rfl, (fun _ => ⟨rfl, by first | omega | (simp; done) | (dsimp only; omega) | exact lit_bl rfl⟩) h, rfl⟩⟩⟩⟩⟩⟩)) ?_
 refine Fb 16 0 fun _ => ?_
 refine FoS 0 fun ho23 => ?_
 refine Kl (γ := Nat × Int) (fun (r24, i_25) => ⟨[(1, vl a13 k14 rv9), (2, .slice a17 6 k18), (3, vi i_25)], [os (.slice a17 6 k18) ([(Str.mk [109, 46, 101, 110, 116, 114, 121]), (Str.mk [109, 46, 98, 46, 48]), (Str.mk [109, 46, 98, 46, 49]), (Str.mk [109, 46, 98, 46, 49, 43]), (Str.mk [109, 46, 98, 46, 50]), (Str.mk [109, 46, 101, 120, 105, 116])] : List Str), S a13 k14 rv9, pv (gp 0) [vl kwLA kwLK kwL], S kwLA kwLK kwL], w7_sane_L0 rv9 r24 i_25 = w7_sane_L0 rv9 (((rv9.length : Int) - 0).toNat) 0 ∧ r24 = ((rv9.length : Int) - i_25).toNat ∧ (0 : Int) ≤ i_25 ∧ i_25 ≤ (rv9.length : Int) ∧ (-9223372036854775808 ≤ i_25 ∧ i_25 ≤ 9223372036854775807), r24⟩) (((rv9.length : Int) - 0).toNat, 0) [0, 0, 2, 3] ⟨rfl, rfl, aM1, aM1, aM1⟩ ?_
 rintro ⟨r24, i_25⟩ ⟨hM26, hr27, hi28, hi29, hk30⟩
 refine JJ_nx fun _ _ hL hA => ?_; dsimp only at hL hA; subst hL hA
 refine Fb 16 0 fun _ => ?_
 refine FoS 0 fun ho32 => ?_
 refine Fl 0 fun hn33 => Fb 32 1 fun _ => Fb 16 3 fun _ => ?_
 refine FoS 3 fun ho36 => ?_
 refine KS ?_
 refine Oq Vm (Oq Vm (Oq (Vlen sl31) (Oq Vlss (KS ?_))))
 refine Kc ?_ ?_
 ·intro h37
  have g38 := dt h37
  obtain ⟨r39, rfl⟩ := scc (n := r24) aM1
  refine KS ?_
  refine JJ_peek_GNode i_25.toNat 1 rfl rng fun hb40 hb41 hb42 hb43 => ?_
  unfold i64ok at hb40 hb41 hb42 hb43
  refine JK_drawK [0, 0, 0, 6, 14, 31, 0, 0, 192, 448, 1023] fmix ?_
  refine Dx [] [] [0, 1] (fun G => .agg #[(G.g 0 0)]) [fun G => SP.fact (True), fun G => sl (G.g 0 0) w7_program.Funcs] (fun G => xC [] ca35 (fn35  w7_program rfl)) (Dv [] Vm (Dv [] Vm (Dv [2] (Vi sl31 0) (Dv [0] (VldA sh27 0) ?_))))
  refine letv (nd_Label w7_program (rv9.getD i_25.toNat default)) fun rv48 hg49 => ?_
  refine Dx [3, 4, 6] [] [1, 2, 3, 0] (fun G => .string (bs rv48)) [fun G => SP.fact (rv48.b.length ≤ 140737488355328 ∧ (rv48.b.length ≤ 5000))] (fun G => xD [2, 0, 1] ca30 rfl rfl rfl (FT_open (γ := Unit) (I := fun g => rv48.b.length ≤ 140737488355328 ∧ (rv48.b.length ≤ 5000)) (V := fun g => .string (bs rv48)) (B := fun g => []) (R := sl (G.g 0 0) w7_program.Funcs) sl_slice (fun aq45 kq46 eq47 => by rw [eq47]; exact FT_ent (Ent.take (is := [0, 1, 2]) rfl) (fn30 w7_program aq45 kq46 ((rv9.getD i_25.toNat default)) kwLA kwLK pre pre pre pre (by first | exact Program_PSm' (by assumption) | exact SpP_PSm (Program_SpP (by assumption)) | kernel_rfl) rv48 hg49)))) (Dv [] Vm (Dv [] Vm (Dv [1] (Vi sl45 0) ?_)))
  have hb50 := okS (i := i_25.toNat) ho32 rng
  refine Dv [1] (VldS sh9 0) (Dv [] (VneS (l := rv48) (m := ([(Str.mk [109, 46, 101, 110, 116, 114, 121]), (Str.mk [109, 46, 98, 46, 48]), (Str.mk [109, 46, 98, 46, 49]), (Str.mk [109, 46, 98, 46, 49, 43]), (Str.mk [109, 46, 98, 46, 50]), (Str.mk [109, 46, 101, 120, 105, 116])].getD i_25.toNat default))) ?_)
  refine Dn ⟨by kernel_rfl, fun G => ?_⟩
  refine Jw2 [(1, vl a13 k14 rv9), (2, .slice a17 6 k18), (3, vi i_25), (28, vb (rv48 != ([(Str.mk [109, 46, 101, 110, 116, 114, 121]), (Str.mk [109, 46, 98, 46, 48]), (Str.mk [109, 46, 98, 46, 49]), (Str.mk [109, 46, 98, 46, 49, 43]), (Str.mk [109, 46, 98, 46, 50]), (Str.mk [109, 46, 101, 120, 105, 116])].getD i_25.toNat default)))] [0, 1, 2, 3, 4] [SP.fact (True), sl (G.g 0 0) w7_program.Funcs, SP.fact (rv48.b.length ≤ 140737488355328 ∧ (rv48.b.length ≤ 5000))] ?_
  generalize G.g 0 0 = c44
  refine Jf 7 rfl ?_; rintro ⟨he51, he52⟩
  refine Jk [0, 1, 1, 2, 3, 5] ?_
  refine Jo 5 ?_; rintro a53 k54 rfl
  refine Fb 40 5 fun _ => ?_
  refine Kc ?_ ?_
  ·intro h56
   have g57 := ne_of_bne h56
   refine KS ?_
   refine Oq Va (KS ?_)
   have hR58 := q2 hM26 (.ret false) (by simp only [w7_sane_L0, h19, h37, h56, hg10, hg49, cs4])
   have hq := q4 hrr false (by simp only [w7_sane, h19, h37, h56, hg10, hg49, hR58, cs4]); subst hq
   exact Kr () rfl (.tmp rfl .nil) [] trivial
  intro h56
  have g59 := eq_of_bne_false h56
  refine KS ?_
  refine Oq Vm (Oq Vadd (Oq Va (KS ?_)))
  exact Kg (r39, (i_25 + 1)) [1, 1, 2, 3] ⟨(q3 hM26 (by simp only [w7_sane_L0, h19, h37, h56, hg10, hg49, cs4])), aM1, aM1, aM1, aM1⟩
 intro h37
 have g60 := df h37
 obtain rfl : r24 = 0 := by omega
 refine Ke ?_
 have hR61 := q2 hM26 (.brk ()) (by simp only [w7_sane_L0, h19, h37, hg10, cs4])
 refine KS ?_
 have hc63 := fn35  w7_program rfl
 refine Oc [] ca35 hc63 ?_
 rintro c62 -
 refine Jo 0 ?_; rintro a64 k65 rfl
 refine Fb 40 0 fun _ => Oq (Vbd st27 [vi 3, vi 3, vi 0, vi 0]) ?_
 refine letv (nd_Find w7_program (GNode.mk 3 3 0 0)) fun rv67 hg68 => ?_
 have hc69 := fn28 w7_program a64 k65 ((GNode.mk 3 3 0 0)) kwLA kwLK pre pre pre pre (by first | exact Program_PSm' (by assumption) | exact SpP_PSm (Program_SpP (by assumption)) | kernel_rfl) rv67 hg68
 refine Oc [0, 3, 4] ca28 hc69 ?_
 rintro - ⟨he70, he71⟩
 unfold i64ok at he70
 refine Oq Veql (Oq Va (KS ?_))
 have hq := q4 hrr (rv67 == -1) (by simp only [w7_sane, h19, h37, hg10, hR61, hg68, cs4]); subst hq
 exact Kr () rfl (.tmp rfl .nil) [] trivial
theorem fn6 (l : List Int) (la0 : Option Addr) (lk0 : Nat) (rr : Unit) (hrr : g_New l = rr) : FT Tryz.prog 6 #[vl la0 lk0 l] [S la0 lk0 l] (fun g : Value => True) (fun g => g) (fun g => [Cl g [vl la0 lk0 l, vi 0]]) := by
 refine FTi Tryz.func6 fun w0 M0 F0 => Fb 8 0 fun _ => Fo 0 fun ho2 => ?_
 refine KS ?_
 refine Oq Va (KS ?_)
 refine Oq Vm (Oq (Vbd st64 [vl la0 lk0 l, vi 0]) (Oa (AbO [vl la0 lk0 l, vi 0]) fun p3 => Oq Va (KS ?_)))
 have hq := q4 hrr () (by simp only [g_New, cs4]); subst hq
 exact Kr p3 rfl (.tmp rfl .nil) [0] trivial
theorem fn22 (i : Int) (hi_0 : i64ok i) (hi2 : (0 ≤ i ∧ i < 3)) (rr : Str) (hrr : g_func2 i = rr) : FT Tryz.prog 22 #[vi i] [] (fun g : Unit => rr.b.length ≤ 140737488355328) (fun g => .string (bs rr)) (fun g => []) := by
 refine FTi Tryz.func22 fun w0 M0 F0 => ?_
 unfold i64ok at hi_0
 refine KS ?_
 refine Oq Va (KS ?_)
 refine Oa (AsV sl45 sz45 [.string (bs (Str.mk [97])), .string (bs (Str.mk [98])), .string (bs (Str.mk [99]))] [.string (bs (Str.mk [97])), .string (bs (Str.mk [98])), .string (bs (Str.mk [99]))]) fun c1 => ?_
 refine Jo 0 ?_; rintro a2 k3 rfl
 refine Oq Vm ?_
 refine Jl [0] (Ent.crOs (α := Str) (A := []) _ ([(Str.mk [97]), (Str.mk [98]), (Str.mk [99])] : List Str) _ aB1 (fun h => ⟨[.string (bs (Str.mk [97]))], [.string (bs (Str.mk [98])), .string (bs (Str.mk [99]))], rfl, (fun _ => ⟨rfl, by first | omega | (simp; done) | (dsimp only; omega) | exact lit_bl rfl⟩) h, ⟨[.string (bs (Str.mk [98]))], [.string (bs (Str.mk [99]))], rfl, (fun _ => ⟨rfl, by first | omega | (simp; done) | (dsimp only; omega) | exact lit_bl rfl⟩) h, ⟨[.string (bs (Str.mk [99]))], [], rfl, (fun _ => ⟨rfl, by first | omega | (simp; done) | (dsimp only; omega) | exact lit_bl rfl⟩) h, rfl⟩⟩⟩)) ?_
 refine Oq (Vi sl45 0) ?_
 refine Fb 16 0 fun _ => ?_
 refine FoS 0 fun ho5 => ?_
 have hb6 := okS (i := i.toNat) ho5 rng
 refine Oq (VldS sh9 0) (Oq Va (KS ?_))
 have hq := q4 hrr ([(Str.mk [97]), (Str.mk [98]), (Str.mk [99])].getD i.toNat default) (by simp only [g_func2, cs4]); subst hq
 exact Kr () rfl (.tmp rfl .nil) [] en
theorem fn7 (tP : Value) (ta : Option Addr) (tk : Nat) (tT : List Int) (tI : Int) (htI : 0 ≤ tI ∧ tI ≤ (tT.length : Int)) (rr : GProgram × Int) (hrr : tp_Program tT tI = rr) : FT Tryz.prog 7 #[tP] [Cl tP [vl ta tk tT, vi tI], S ta tk tT] (fun g : Value => (0 ≤ rr.2 ∧ rr.2 ≤ (tT.length : Int))) (fun g => .agg #[g]) (fun g => [sl g rr.1.Funcs, Cl tP [vl ta tk tT, vi rr.2]]) := by
 refine FTi Tryz.func7 fun w0 M0 F0 => Fb 8 1 fun _ => Fo 1 fun ho2 => ?_
 refine KS ?_
 refine Oa (Al ze25 [.slice none 0 0]) fun p3 => KS ?_
 refine Oa (Al ze25 [.slice none 0 0]) fun p4 => KS ?_
 refine Oq Vm ?_
 refine letv (tp_Next tT tI 3) fun rv5 hg6 => ?_
 have hc7 := fn10 tP ta tk tT tI 3 pre pre rv5 hg6
 refine Oc [2, 2] ca10 hc7 ?_
 rintro - ⟨he8, he9, he10⟩
 unfold i64ok at he8
 refine Oq Vadd (Oq Va (KS ?_))
 refine Oq Va (KS ?_)
 refine Jl [] (Ent.osNil (α := GFunc)) ?_
 refine Kl (γ := Nat × Int × List GFunc × Int × Option Addr × Nat) (fun (r11, ti_12, p0_13, i_14, a15, k16) => ⟨[(0, tP), (2, p3), (3, p4), (4, vi (1 + rv5.1)), (5, vi i_14)], [O a15 k16 p0_13, Cl tP [vl ta tk tT, vi ti_12], Cl p4 [vl a15 k16 p0_13], Cl p3 [.slice none 0 0], S ta tk tT], tp_Program_L0 tT (1 + rv5.1) r11 ti_12 p0_13 i_14 = tp_Program_L0 tT (1 + rv5.1) ((((1 + rv5.1) : Int) - 0).toNat) rv5.2 [] 0 ∧ r11 = (((1 + rv5.1) : Int) - i_14).toNat ∧ (0 : Int) ≤ i_14 ∧ (i_14 ≤ (1 + rv5.1) ∨ i_14 = 0) ∧ (-9223372036854775808 ≤ ti_12 ∧ ti_12 ≤ 9223372036854775807) ∧ (0 ≤ ti_12 ∧ ti_12 ≤ (tT.length : Int)) ∧ (-9223372036854775808 ≤ i_14 ∧ i_14 ≤ 9223372036854775807) ∧ ((p0_13.length : Int) = i_14), r11⟩) ((((1 + rv5.1) : Int) - 0).toNat, rv5.2, [], 0, none, 0) [0, 0, 0, 0, 0] ⟨rfl, rfl, aM1, (.inr rfl), aM1, aM1, aM1, iv0⟩ ?_
 rintro ⟨r11, ti_12, p0_13, i_14, a15, k16⟩ ⟨hM17, hr18, hi19, hi20, hk21, ht22, hk23, hv24⟩
 refine JJ_nx fun _ _ hL hA => ?_; dsimp only at hL hA; subst hL hA
 refine Fb 40 0 fun _ => Fb 8 4 fun _ => Fo 4 fun ho27 => KS ?_
 refine Oq Vm (Oq Vm (Oq Vlss (KS ?_)))
 refine Kc ?_ ?_
 ·intro h28
  have g29 := dt h28
  obtain ⟨r30, rfl⟩ := scc (n := r11) aM1
  refine KS ?_
  refine Oa (AsV sl45 sz45 [.string (bs (Str.mk [109])), .string (bs (Str.mk [102])), .string (bs (Str.mk [103]))] [.string (bs (Str.mk [109])), .string (bs (Str.mk [102])), .string (bs (Str.mk [103]))]) fun c31 => ?_
  refine Jo 0 ?_; rintro a32 k33 rfl
  refine Oq Vm ?_
  refine Jl [0] (Ent.crOs (α := Str) (A := []) _ ([(Str.mk [109]), (Str.mk [102]), (Str.mk [103])] : List Str) _ aB1 (fun h => ⟨[.string (bs (Str.mk [109]))], [.string (bs (Str.mk [102])), .string (bs (Str.mk [103]))], rfl, (fun _ => ⟨rfl, by first | omega | (simp; done) | (dsimp only; omega) | exact lit_bl rfl⟩) h, ⟨[.string (bs (Str.mk [102]))], [.string (bs (Str.mk [103]))], rfl, (fun _ => ⟨rfl, by first | omega | (simp; done) | (dsimp only; omega) | exact lit_bl rfl⟩) h, ⟨[.string (bs (Str.mk [103]))], [], rfl, (fun _ => ⟨rfl, by first | omega | (simp; done) | (dsimp only; omega) | exact lit_bl rfl⟩) h, rfl⟩⟩⟩)) ?_
  refine Oq (Vi sl45 0) ?_
  refine Fb 16 0 fun _ => ?_
  refine FoS 0 fun ho35 => ?_
  have hb36 := okS (i := i_14.toNat) ho35 rng
  refine Oq (VldS sh9 0) (Oq (Vbd st41 [.string (bs ([(Str.mk [109]), (Str.mk [102]), (Str.mk [103])].getD i_14.toNat default)), .slice none 0 0]) (Oa (Al ze41 [.string (bs (Str.mk [])), .slice none 0 0]) fun p37 => Ost (Scl [0] sh41 [.string (bs ([(Str.mk [109]), (Str.mk [102]), (Str.mk [103])].getD i_14.toNat default)), .slice none 0 0]) (KS ?_)))
  refine Oq Vm ?_
  refine letv (tp_Next tT ti_12 3) fun rv38 hg39 => ?_
  have hc40 := fn10 tP ta tk tT ti_12 3 pre pre rv38 hg39
  refine Oc [3, 5] ca10 hc40 ?_
  rintro - ⟨he41, he42, he43⟩
  unfold i64ok at he41
  refine Oq Vadd (Oq Va (KS ?_))
  refine Oq Va (KS ?_)
  refine Jl [] (Ent.osNil (α := GBlock)) ?_
  refine Kl (γ := Nat × Int × List GBlock × Int × Option Addr × Nat) (fun (r44, ti_45, f1_46, k_47, a48, k49) => ⟨[(0, tP), (2, p3), (3, p4), (4, vi (1 + rv5.1)), (5, vi i_14), (6, p37), (7, vi (1 + rv38.1)), (8, vi k_47)], [O a48 k49 f1_46, Cl tP [vl ta tk tT, vi ti_45], Cl p37 [.string (bs ([(Str.mk [109]), (Str.mk [102]), (Str.mk [103])].getD i_14.toNat default)), vl a48 k49 f1_46], O a15 k16 p0_13, Cl p4 [vl a15 k16 p0_13], Cl p3 [.slice none 0 0], S ta tk tT], tp_Program_L1 tT (1 + rv5.1) (1 + rv38.1) r44 ti_45 f1_46 k_47 = tp_Program_L1 tT (1 + rv5.1) (1 + rv38.1) ((((1 + rv38.1) : Int) - 0).toNat) rv38.2 [] 0 ∧ r44 = (((1 + rv38.1) : Int) - k_47).toNat ∧ (0 : Int) ≤ k_47 ∧ (k_47 ≤ (1 + rv38.1) ∨ k_47 = 0) ∧ (-9223372036854775808 ≤ ti_45 ∧ ti_45 ≤ 9223372036854775807) ∧ (0 ≤ ti_45 ∧ ti_45 ≤ (tT.length : Int)) ∧ (-9223372036854775808 ≤ k_47 ∧ k_47 ≤ 9223372036854775807) ∧ ((f1_46.length : Int) = k_47), r44⟩) ((((1 + rv38.1) : Int) - 0).toNat, rv38.2, [], 0, none, 0) [0, 0, 0, 1, 1, 1, 1] ⟨rfl, rfl, aM1, (.inr rfl), aM1, aM1, aM1, iv0⟩ ?_
  rintro ⟨r44, ti_45, f1_46, k_47, a48, k49⟩ ⟨hM50, hr51, hi52, hi53, hk54, ht55, hk56, hv57⟩
  refine JJ_nx fun _ _ hL hA => ?_; dsimp only at hL hA; subst hL hA
  refine Fb 40 0 fun _ => Fb 40 3 fun _ => Fb 8 6 fun _ => Fo 6 fun ho61 => KS ?_
  refine Oq Vm (Oq Vm (Oq Vlss (KS ?_)))
  refine Kc ?_ ?_
  ·intro h62
   have g63 := dt h62
   obtain ⟨r64, rfl⟩ := scc (n := r44) aM1
   refine KS ?_
   refine Oa (AsV sl45 sz45 [.string (bs (Str.mk [97])), .string (bs (Str.mk [98])), .string (bs (Str.mk [99]))] [.string (bs (Str.mk [97])), .string (bs (Str.mk [98])), .string (bs (Str.mk [99]))]) fun c65 => ?_
   refine Jo 0 ?_; rintro a66 k67 rfl
   refine Oq Vm ?_
   refine Jl [0] (Ent.crOs (α := Str) (A := []) _ ([(Str.mk [97]), (Str.mk [98]), (Str.mk [99])] : List Str) _ aB1 (fun h => ⟨[.string (bs (Str.mk [97]))], [.string (bs (Str.mk [98])), .string (bs (Str.mk [99]))], rfl, (fun _ => ⟨rfl, by first | omega | (simp; done) | (dsimp only; omega) | exact lit_bl rfl⟩) h, ⟨[.string (bs (Str.mk [98]))], [.string (bs (Str.mk [99]))], rfl, (fun _ => ⟨rfl, by first | omega | (simp; done) | (dsimp only; omega) | exact lit_bl rfl⟩) h, ⟨[.string (bs (Str.mk [99]))], [], rfl, (fun _ => ⟨rfl, by first | omega | (simp; done) | (dsimp only; omega) | exact lit_bl rfl⟩) h, rfl⟩⟩⟩)) ?_
   refine Oq (Vi sl45 0) ?_
   refine Fb 16 0 fun _ => ?_
   refine FoS 0 fun ho69 => ?_
   have hb70 := okS (i := k_47.toNat) ho69 rng
   refine Oq (VldS sh9 0) (Oq (Vbd st44 [.string (bs ([(Str.mk [97]), (Str.mk [98]), (Str.mk [99])].getD k_47.toNat default)), .slice none 0 0]) (Oa (Al ze44 [.string (bs (Str.mk [])), .slice none 0 0]) fun p71 => Ost (Scl [0] sh44 [.string (bs ([(Str.mk [97]), (Str.mk [98]), (Str.mk [99])].getD k_47.toNat default)), .slice none 0 0]) (KS ?_)))
   refine Oq Vm ?_
   refine letv (tp_Next tT ti_45 4) fun rv72 hg73 => ?_
   have hc74 := fn10 tP ta tk tT ti_45 4 pre pre rv72 hg73
   refine Oc [3, 7] ca10 hc74 ?_
   rintro - ⟨he75, he76, he77⟩
   unfold i64ok at he75
   refine Oq Va (KS ?_)
   refine Jl [] (Ent.osNil (α := GStmt)) ?_
   refine Kl (γ := Nat × Int × List GStmt × Int × Option Addr × Nat) (fun (r78, ti_79, b1_80, n_81, a82, k83) => ⟨[(0, tP), (2, p3), (3, p4), (4, vi (1 + rv5.1)), (5, vi i_14), (6, p37), (7, vi (1 + rv38.1)), (8, vi k_47), (9, p71), (10, vi n_81)], [O a82 k83 b1_80, Cl tP [vl ta tk tT, vi ti_79], Cl p71 [.string (bs ([(Str.mk [97]), (Str.mk [98]), (Str.mk [99])].getD k_47.toNat default)), vl a82 k83 b1_80], O a48 k49 f1_46, Cl p37 [.string (bs ([(Str.mk [109]), (Str.mk [102]), (Str.mk [103])].getD i_14.toNat default)), vl a48 k49 f1_46], O a15 k16 p0_13, Cl p4 [vl a15 k16 p0_13], Cl p3 [.slice none 0 0], S ta tk tT], tp_Program_L2 tT (1 + rv5.1) r78 ti_79 b1_80 n_81 = tp_Program_L2 tT (1 + rv5.1) (rv72.1.toNat) rv72.2 [] rv72.1 ∧ r78 = n_81.toNat ∧ n_81 ≤ (rv72.1 : Int) ∧ (-9223372036854775808 ≤ ti_79 ∧ ti_79 ≤ 9223372036854775807) ∧ (0 ≤ ti_79 ∧ ti_79 ≤ (tT.length : Int)) ∧ (-9223372036854775808 ≤ n_81 ∧ n_81 ≤ 9223372036854775807) ∧ ((b1_80.length : Int) + n_81 ≤ 3 ∧ 0 ≤ n_81), r78⟩) (rv72.1.toNat, rv72.2, [], rv72.1, none, 0) [0, 0, 0, 1, 1, 1, 1, 1, 1] ⟨rfl, rfl, aM1, aM1, aM1, aM1, iv0⟩ ?_
   rintro ⟨r78, ti_79, b1_80, n_81, a82, k83⟩ ⟨hM84, hr85, hi86, hk87, ht88, hk89, hv90⟩
   refine JJ_nx fun _ _ hL hA => ?_; dsimp only at hL hA; subst hL hA
   refine Fb 72 0 fun _ => Fb 40 3 fun _ => Fb 40 5 fun _ => Fb 8 8 fun _ => Fo 8 fun ho95 => KS ?_
   refine Oq Vm (Oq Vgtr (KS ?_))
   refine Kc ?_ ?_
   ·intro h96
    have g97 := dt h96
    obtain ⟨r98, rfl⟩ := scc (n := r78) aM1
    refine KS ?_
    refine Jp 2 fun hp99 => ?_
    refine JK_drawK [0, 1, 0, 0, 12, 28, 63, 127, 255] fmix ?_
    refine Dv [0] (Vfa fo44_1 0) (Dv [3] (VldF sh42 0) (Dv [] Vm (Dv [] Vm ?_)))
    refine letv (tp_stmt tT ti_79 (1 + rv5.1)) fun rv102 hg103 => ?_
    refine Dx [2, 9] [2] [4, 0, 1, 1, 1] (fun G => .agg #[vi rv102.1.Op, .string (bs rv102.1.Def), (G.g 4 0), (G.g 4 1)]) [fun G => SP.fact (i64ok rv102.1.Op ∧ rv102.1.Def.b.length ≤ 140737488355328 ∧ (0 ≤ rv102.2 ∧ rv102.2 ≤ (tT.length : Int))), fun G => os (G.g 4 0) rv102.1.Uses, fun G => os (G.g 4 1) rv102.1.Targets, fun G => Cl tP [vl ta tk tT, vi rv102.2]] (fun G => xC [0, 0] ca21 (fn21 tP ta tk tT ti_79 ((1 + rv5.1)) pre pre pre rv102 hg103)) (Dx [] [] [0] (fun G => (G.g 5 0)) [fun G => Cr (G.g 5 0) 1 [vi rv102.1.Op, .string (bs rv102.1.Def), (G.g 4 0), (G.g 4 1)]] (fun G => xA (AsV sl42 sz42 [.agg #[vi rv102.1.Op, .string (bs rv102.1.Def), (G.g 4 0), (G.g 4 1)]] [vi rv102.1.Op, .string (bs rv102.1.Def), (G.g 4 0), (G.g 4 1)])) ?_)
    have hn106 := la b1_80 ([rv102.1] : List GStmt)
    refine Dx [1, 10, 11, 12, 14] [1, 11, 12, 14] [5, 1, 2, 0] (fun G => (G.g 6 0)) [fun G => sl (G.g 4 0) rv102.1.Uses, fun G => sl (G.g 4 1) rv102.1.Targets, fun G => os (G.g 6 0) ((b1_80 ++ [rv102.1]) : List GStmt)] (fun G => by refine xf 1 rfl ?_; rintro ⟨he107, he108, he109⟩; unfold i64ok at he107; exact xp [2] rfl (Ent.freeze _ _) (xp [3] rfl (Ent.freeze _ _) (xp [4, 1, 0] rfl (Ent.cr1 (α := GStmt) (A := [sl (G.g 4 0) rv102.1.Uses, sl (G.g 4 1) rv102.1.Targets]) _ rv102.1 _ aB1 (fun h => ⟨_, _, rfl, aL1, aS1, sepAll_get (i := 0) rfl h, sepAll_get (i := 1) rfl h⟩)) (xA (ApO [5, 0] sl42 sl42 sz42))))) (Dv [0] (Vfa fo44_1 0) (Dx0 [3, 17] [3] [1, 0] [fun G => Cl p71 [.string (bs ([(Str.mk [97]), (Str.mk [98]), (Str.mk [99])].getD k_47.toNat default)), (G.g 6 0)]] (fun G => x1 1 rfl os_one fun ho110 => (xS (OpS.frame [0] rfl (OpS.storeClF [(G.g 6 0)] [.string (bs ([(Str.mk [97]), (Str.mk [98]), (Str.mk [99])].getD k_47.toNat default)), (G.g 6 0)] rfl rfl rfl sh42 (cells_of_one ho110) rfl (by simp only [List.all_cons, List.all_nil, ho110, Bool.and_true, Bool.true_and] <;> rfl) aB1 rfl)))) ?_))
    refine Dn ⟨by kernel_rfl, fun G => ?_⟩
    refine Jw2 [(0, tP), (2, p3), (3, p4), (4, vi (1 + rv5.1)), (5, vi i_14), (6, p37), (7, vi (1 + rv38.1)), (8, vi k_47), (9, p71), (10, vi n_81)] [0, 4, 5, 6, 7, 8, 9] [SP.fact (i64ok rv102.1.Op ∧ rv102.1.Def.b.length ≤ 140737488355328 ∧ (0 ≤ rv102.2 ∧ rv102.2 ≤ (tT.length : Int))), Cl tP [vl ta tk tT, vi rv102.2], sl (G.g 4 0) rv102.1.Uses, sl (G.g 4 1) rv102.1.Targets, os (G.g 6 0) ((b1_80 ++ [rv102.1]) : List GStmt), Cl p71 [.string (bs ([(Str.mk [97]), (Str.mk [98]), (Str.mk [99])].getD k_47.toNat default)), (G.g 6 0)]] ?_
    generalize G.g 4 0 = c100, G.g 4 1 = c101, G.g 6 0 = c105
    refine Jf 7 rfl ?_; rintro ⟨he111, he112, he113⟩
    unfold i64ok at he111
    refine Jk [1, 1, 1, 1, 1, 1, 3, 3, 4, 5, 5] ?_
    refine Jo 7 ?_; rintro a114 k115 rfl
    refine Fb 16 7 fun _ => ?_
    refine FoS 7 fun ho117 => ?_
    refine Jo 8 ?_; rintro a118 k119 rfl
    refine Fb 16 8 fun _ => ?_
    refine FoS 8 fun ho121 => ?_
    refine Jo 9 ?_; rintro a122 k123 rfl
    refine Fb 72 9 fun _ => KS ?_
    refine Oq Vm (Oq Vsub (Oq Va (KS ?_)))
    exact Kg (r98, rv102.2, (b1_80 ++ [rv102.1]), (n_81 - 1), a122, k123) [9, 6, 8, 0, 0, 0, 0, 0, 0] ⟨(q3 hM84 (by simp only [tp_Program_L2, h28, h62, h96, hg6, hg39, hg73, hg103, cs4])), aM1, aM1, aM1, aM1, aM1, iv1⟩
   intro h96
   have g125 := df h96
   obtain rfl : r78 = 0 := by omega
   refine Ke ?_
   have hR126 := q2 hM84 (ti_79, b1_80) (by simp only [tp_Program_L2, h28, h62, h96, hg6, hg39, hg73, cs4])
   refine KS ?_
   refine Oq Vm (Oq Vm ?_)
   refine letv (tp_Next tT ti_79 (1 + rv38.1)) fun rv127 hg128 => ?_
   have hc129 := fn10 tP ta tk tT ti_79 ((1 + rv38.1)) pre pre rv127 hg128
   refine Oc [1, 7] ca10 hc129 ?_
   rintro - ⟨he130, he131, he132⟩
   unfold i64ok at he130
   refine letv (g_func2 rv127.1) fun rv133 hg134 => ?_
   have hc135 := fn22 rv127.1 pre pre rv133 hg134
   refine Oc [] ca22 hc135 ?_
   rintro - he136
   refine Oq Va (KS ?_)
   refine Oq Vm ?_
   refine letv (tp_Next tT rv127.2 4) fun rv137 hg138 => ?_
   have hc139 := fn10 tP ta tk tT rv127.2 4 pre pre rv137 hg138
   refine Oc [0, 7] ca10 hc139 ?_
   rintro - ⟨he140, he141, he142⟩
   unfold i64ok at he140
   refine KS ?_
   refine Oq Veql (Oq Va (KS ?_))
   refine Kc ?_ ?_
   ·intro h143
    have g144 := eq_of_beq h143
    refine KS ?_
    refine Oq (Vfa fo44_1 2) (Oq (VldF sh42 2) (Oq (Vbd st47 [vi 9, .string (bs (Str.mk [])), .slice none 0 0, .slice none 0 0]) (Oa (AsV sl42 sz42 [.agg #[vi 9, .string (bs (Str.mk [])), .slice none 0 0, .slice none 0 0]] [vi 9, .string (bs (Str.mk [])), .slice none 0 0, .slice none 0 0]) fun c145 => ?_)))
    refine Jo 0 ?_; rintro a146 k147 rfl
    refine Jl [0] (Ent.cr1 (α := GStmt) (A := []) _ (GStmt.mk 9 (Str.mk []) [] []) _ aB1 (fun h => ⟨_, _, rfl, aL1, aS1, slrd_nil, slrd_nil⟩)) ?_
    refine Oa (ApO [2, 0] sl42 sl42 sz42) fun c148 => ?_
    refine Jo 0 ?_; rintro a149 k150 rfl
    refine Fb 72 0 fun _ => ?_
    have hn152 := la b1_80 ([(GStmt.mk 9 (Str.mk []) [] [])] : List GStmt)
    refine Oq (Vfa fo44_1 2) (Ost (SclF [2] sh42 [.string (bs ([(Str.mk [97]), (Str.mk [98]), (Str.mk [99])].getD k_47.toNat default)), vl a149 k150 (b1_80 ++ [(GStmt.mk 9 (Str.mk []) [] [])])]) (KS ?_))
    refine Oq (Vfa fo41_1 4) (Oq (VldF sh39 4) (Oq (VldA sh44 0) (Oa (AsV sl39 sz39 [.agg #[.string (bs ([(Str.mk [97]), (Str.mk [98]), (Str.mk [99])].getD k_47.toNat default)), vl a149 k150 (b1_80 ++ [(GStmt.mk 9 (Str.mk []) [] [])])]] [.string (bs ([(Str.mk [97]), (Str.mk [98]), (Str.mk [99])].getD k_47.toNat default)), vl a149 k150 (b1_80 ++ [(GStmt.mk 9 (Str.mk []) [] [])])]) fun c153 => ?_)))
    refine Jo 0 ?_; rintro a154 k155 rfl
    refine Jl [2] (Ent.freeze _ _) ?_
    refine Jl [1, 0] (Ent.cr1 (α := GBlock) (A := [S a149 k150 ((b1_80 ++ [(GStmt.mk 9 (Str.mk []) [] [])]) : List GStmt)]) _ (GBlock.mk ([(Str.mk [97]), (Str.mk [98]), (Str.mk [99])].getD k_47.toNat default) (b1_80 ++ [(GStmt.mk 9 (Str.mk []) [] [])])) _ aB1 (fun h => ⟨_, rfl, aS1, sepAll_get (i := 0) rfl h⟩)) ?_
    refine Oa (ApO [5, 0] sl39 sl39 sz39) fun c156 => ?_
    refine Jo 0 ?_; rintro a157 k158 rfl
    refine Fb 40 0 fun _ => ?_
    have hn160 := la f1_46 ([(GBlock.mk ([(Str.mk [97]), (Str.mk [98]), (Str.mk [99])].getD k_47.toNat default) (b1_80 ++ [(GStmt.mk 9 (Str.mk []) [] [])]))] : List GBlock)
    refine Oq (Vfa fo41_1 5) (Ost (SclF [5] sh39 [.string (bs ([(Str.mk [109]), (Str.mk [102]), (Str.mk [103])].getD i_14.toNat default)), .slice a157 ((f1_46 ++ [(GBlock.mk ([(Str.mk [97]), (Str.mk [98]), (Str.mk [99])].getD k_47.toNat default) (b1_80 ++ [(GStmt.mk 9 (Str.mk []) [] [])]))]).length) k158]) (KS ?_))
    refine Oq Vm (Oq Vadd (Oq Va (KS ?_)))
    exact Kg (r64, rv137.2, (f1_46 ++ [(GBlock.mk ([(Str.mk [97]), (Str.mk [98]), (Str.mk [99])].getD k_47.toNat default) (b1_80 ++ [(GStmt.mk 9 (Str.mk []) [] [])]))]), (k_47 + 1), a157, k158) [1, 4, 0, 3, 3, 3, 3] ⟨(q3 hM50 (by simp only [tp_Program_L1, h28, h62, h96, h143, hg6, hg39, hg73, hR126, hg128, hg134, hg138, cs4])), aM1, aM1, aM1, aM1, aM1, aM1, iv1⟩
   intro h143
   have g161 := ne_of_beq_false h143
   refine KS ?_
   refine Oq Veql (Oq Va (KS ?_))
   refine Kc ?_ ?_
   ·intro h162
    have g163 := eq_of_beq h162
    refine KS ?_
    refine Oq (Vfa fo44_1 2) (Oq (VldF sh42 2) (Oq Vm (Oa (AsV sl45 sz45 [.string (bs rv133)] [.string (bs rv133)]) fun c164 => ?_)))
    refine Jo 0 ?_; rintro a165 k166 rfl
    refine Oq (Vbd st47 [vi 7, .string (bs (Str.mk [])), .slice none 0 0, .slice a165 1 k166]) (Oa (AsV sl42 sz42 [.agg #[vi 7, .string (bs (Str.mk [])), .slice none 0 0, .slice a165 1 k166]] [vi 7, .string (bs (Str.mk [])), .slice none 0 0, .slice a165 1 k166]) fun c167 => ?_)
    refine Jo 0 ?_; rintro a168 k169 rfl
    refine Jl [1] (Ent.cr1 (α := Str) (A := []) _ rv133 _ aB1 (fun _ => ⟨rfl, aS1⟩)) ?_
    refine Jl [0] (Ent.freeze _ _) ?_
    refine Jl [1, 0] (Ent.cr1 (α := GStmt) (A := [sl (.slice a165 1 k166) ([rv133] : List Str)]) _ (GStmt.mk 7 (Str.mk []) [] [rv133]) _ aB1 (fun h => ⟨_, _, rfl, aL1, aS1, slrd_nil, sepAll_get (i := 0) rfl h⟩)) ?_
    refine Oa (ApO [4, 0] sl42 sl42 sz42) fun c170 => ?_
    refine Jo 0 ?_; rintro a171 k172 rfl
    refine Fb 72 0 fun _ => ?_
    have hn174 := la b1_80 ([(GStmt.mk 7 (Str.mk []) [] [rv133])] : List GStmt)
    refine Oq (Vfa fo44_1 4) (Ost (SclF [4] sh42 [.string (bs ([(Str.mk [97]), (Str.mk [98]), (Str.mk [99])].getD k_47.toNat default)), vl a171 k172 (b1_80 ++ [(GStmt.mk 7 (Str.mk []) [] [rv133])])]) (KS ?_))
    refine Oq (Vfa fo41_1 6) (Oq (VldF sh39 6) (Oq (VldA sh44 0) (Oa (AsV sl39 sz39 [.agg #[.string (bs ([(Str.mk [97]), (Str.mk [98]), (Str.mk [99])].getD k_47.toNat default)), vl a171 k172 (b1_80 ++ [(GStmt.mk 7 (Str.mk []) [] [rv133])])]] [.string (bs ([(Str.mk [97]), (Str.mk [98]), (Str.mk [99])].getD k_47.toNat default)), vl a171 k172 (b1_80 ++ [(GStmt.mk 7 (Str.mk []) [] [rv133])])]) fun c175 => ?_)))
    refine Jo 0 ?_; rintro a176 k177 rfl
    refine Jl [2] (Ent.freeze _ _) ?_
    refine Jl [1, 0] (Ent.cr1 (α := GBlock) (A := [S a171 k172 ((b1_80 ++ [(GStmt.mk 7 (Str.mk []) [] [rv133])]) : List GStmt)]) _ (GBlock.mk ([(Str.mk [97]), (Str.mk [98]), (Str.mk [99])].getD k_47.toNat default) (b1_80 ++ [(GStmt.mk 7 (Str.mk []) [] [rv133])])) _ aB1 (fun h => ⟨_, rfl, aS1, sepAll_get (i := 0) rfl h⟩)) ?_
    refine Oa (ApO [7, 0] sl39 sl39 sz39) fun c178 => ?_
    refine Jo 0 ?_; rintro a179 k180 rfl
    refine Fb 40 0 fun _ => ?_
    have hn182 := la f1_46 ([(GBlock.mk ([(Str.mk [97]), (Str.mk [98]), (Str.mk [99])].getD k_47.toNat default) (b1_80 ++ [(GStmt.mk 7 (Str.mk []) [] [rv133])]))] : List GBlock)
    refine Oq (Vfa fo41_1 7) (Ost (SclF [7] sh39 [.string (bs ([(Str.mk [109]), (Str.mk [102]), (Str.mk [103])].getD i_14.toNat default)), .slice a179 ((f1_46 ++ [(GBlock.mk ([(Str.mk [97]), (Str.mk [98]), (Str.mk [99])].getD k_47.toNat default) (b1_80 ++ [(GStmt.mk 7 (Str.mk []) [] [rv133])]))]).length) k180]) (KS ?_))
    refine Oq Vm (Oq Vadd (Oq Va (KS ?_)))
    exact Kg (r64, rv137.2, (f1_46 ++ [(GBlock.mk ([(Str.mk [97]), (Str.mk [98]), (Str.mk [99])].getD k_47.toNat default) (b1_80 ++ [(GStmt.mk 7 (Str.mk []) [] [rv133])]))]), (k_47 + 1), a179, k180) [1, 6, 0, 5, 5, 5, 5] ⟨(q3 hM50 (by simp only [tp_Program_L1, h28, h62, h96, h143, h162, hg6, hg39, hg73, hR126, hg128, hg134, hg138, cs4])), aM1, aM1, aM1, aM1, aM1, aM1, iv1⟩
   intro h162
   have g183 := ne_of_beq_false h162
   refine Jp 2 fun hp184 => ?_
   refine JK_drawK [0, 1, 0, 4, 12, 0, 0, 0, 204, 460, 1004, 2044, 4092, 8191, 16383, 32767] fmix ?_
   refine Dv [0] (Vfa fo44_1 0) (Dv [3] (VldF sh42 0) (Dv [] Vm ?_))
   refine letv (tp_name tT rv137.2) fun rv185 hg186 => ?_
   refine Dx [1, 9] [1] [2, 0, 1] (fun G => .string (bs rv185.1)) [fun G => SP.fact (rv185.1.b.length ≤ 140737488355328 ∧ (0 ≤ rv185.2 ∧ rv185.2 ≤ (tT.length : Int))), fun G => Cl tP [vl ta tk tT, vi rv185.2]] (fun G => xC [0, 0] ca23 (fn23 tP ta tk tT rv137.2 pre rv185 hg186)) (Dx [] [] [0] (fun G => (G.g 4 0)) [fun G => Cr (G.g 4 0) 1 [.string (bs rv185.1)]] (fun G => xA (AsV sl45 sz45 [.string (bs rv185.1)] [.string (bs rv185.1)])) (Dv [] Vm (Dv [] Vm (Dv [] Vm ?_))))
   refine letv (tp_Next tT rv185.2 (1 + rv38.1)) fun rv188 hg189 => ?_
   refine Dx [9, 10, 11] [11] [2, 3, 0, 1] (fun G => vi rv188.1) [fun G => SP.fact (i64ok rv188.1 ∧ (0 ≤ rv188.2 ∧ rv188.2 ≤ (tT.length : Int)) ∧ (0 ≤ rv188.1 ∧ (rv188.1 < (1 + rv38.1) ∨ rv188.1 = 0))), fun G => Cl tP [vl ta tk tT, vi rv188.2]] (fun G => by refine xf 1 rfl ?_; rintro ⟨he190, he191⟩; exact xC [2, 0] ca10 (fn10 tP ta tk tT rv185.2 ((1 + rv38.1)) pre pre rv188 hg189)) ?_
   refine letv (g_func2 rv188.1) fun rv192 hg193 => ?_
   refine Dx [13] [] [1, 0] (fun G => .string (bs rv192)) [fun G => SP.fact (rv192.b.length ≤ 140737488355328)] (fun G => by refine xf 0 rfl ?_; rintro ⟨he194, he195, he196⟩; unfold i64ok at he194; exact xC [] ca22 (fn22 rv188.1 pre pre rv192 hg193)) (Dx [] [] [0] (fun G => (G.g 10 0)) [fun G => Cr (G.g 10 0) 2 [.string (bs rv133), .string (bs rv192)]] (fun G => xA (AsV sl45 sz45 [.string (bs rv133), .string (bs rv192)] [.string (bs rv133), .string (bs rv192)])) ?_)
   refine Dx [12, 16] [] [0, 0] (fun G => .agg #[vi 8, .string (bs (Str.mk [])), (G.g 4 0), (G.g 10 0)]) [] (fun G => xV (v := .agg #[vi 8, .string (bs (Str.mk [])), (G.g 4 0), (G.g 10 0)]) (Vo 0 rfl (isO_Cr _ _ _) fun aq198 kq199 eq200 => (by rw [eq200]; exact Vo 1 rfl (isO_Cr _ _ _) fun aq201 kq202 eq203 => (by rw [eq203]; exact Vbd st47 [vi 8, .string (bs (Str.mk [])), .slice aq198 1 kq199, .slice aq201 2 kq202])))) (Dx [] [] [0] (fun G => (G.g 12 0)) [fun G => Cr (G.g 12 0) 1 [vi 8, .string (bs (Str.mk [])), (G.g 4 0), (G.g 10 0)]] (fun G => xA (AsV sl42 sz42 [.agg #[vi 8, .string (bs (Str.mk [])), (G.g 4 0), (G.g 10 0)]] [vi 8, .string (bs (Str.mk [])), (G.g 4 0), (G.g 10 0)])) ?_)
   have hn206 := la b1_80 ([(GStmt.mk 8 (Str.mk []) [rv185.1] [rv133, rv192])] : List GStmt)
   refine Dx [2, 10, 12, 15, 16, 17] [2, 12, 16, 17] [5, 6, 1, 2, 0] (fun G => (G.g 13 0)) [fun G => sl (G.g 4 0) ([rv185.1] : List Str), fun G => sl (G.g 10 0) ([rv133, rv192] : List Str), fun G => os (G.g 13 0) ((b1_80 ++ [(GStmt.mk 8 (Str.mk []) [rv185.1] [rv133, rv192])]) : List GStmt)] (fun G => by refine xf 1 rfl ?_; rintro ⟨he207, he208⟩; refine xf 3 rfl ?_; rintro he209; exact xp [2] rfl (Ent.cr1 (α := Str) (A := []) _ rv185.1 _ aB1 (fun _ => ⟨rfl, aS1⟩)) (xp [0] rfl (Ent.freeze _ _) (xp [4] rfl (Ent.crOs (α := Str) (A := []) _ ([rv133, rv192] : List Str) _ aB1 (fun h => ⟨[.string (bs rv133)], [.string (bs rv192)], rfl, (fun _ => ⟨rfl, by first | omega | (simp; done) | (dsimp only; omega) | exact lit_bl rfl⟩) h, ⟨[.string (bs rv192)], [], rfl, (fun _ => ⟨rfl, by first | omega | (simp; done) | (dsimp only; omega) | exact lit_bl rfl⟩) h, rfl⟩⟩)) (xp [0] rfl (Ent.freeze _ _) (xp [5, 1, 0] rfl (Ent.cr1 (α := GStmt) (A := [sl (G.g 4 0) ([rv185.1] : List Str), sl (G.g 10 0) ([rv133, rv192] : List Str)]) _ (GStmt.mk 8 (Str.mk []) [rv185.1] [rv133, rv192]) _ aB1 (fun h => ⟨_, _, rfl, aL1, aS1, sepAll_get (i := 0) rfl h, sepAll_get (i := 1) rfl h⟩)) (xA (ApO [5, 0] sl42 sl42 sz42))))))) (Dv [0] (Vfa fo44_1 0) (Dx0 [3, 20] [3] [1, 0] [fun G => Cl p71 [.string (bs ([(Str.mk [97]), (Str.mk [98]), (Str.mk [99])].getD k_47.toNat default)), (G.g 13 0)]] (fun G => x1 1 rfl os_one fun ho210 => (xS (OpS.frame [0] rfl (OpS.storeClF [(G.g 13 0)] [.string (bs ([(Str.mk [97]), (Str.mk [98]), (Str.mk [99])].getD k_47.toNat default)), (G.g 13 0)] rfl rfl rfl sh42 (cells_of_one ho210) rfl (by simp only [List.all_cons, List.all_nil, ho210, Bool.and_true, Bool.true_and] <;> rfl) aB1 rfl)))) ?_))
   refine Dn ⟨by kernel_rfl, fun G => ?_⟩
   refine Jw2 [(0, tP), (2, p3), (3, p4), (4, vi (1 + rv5.1)), (5, vi i_14), (6, p37), (7, vi (1 + rv38.1)), (8, vi k_47), (9, p71)] [0, 4, 5, 6, 7, 8, 9] [SP.fact (rv185.1.b.length ≤ 140737488355328 ∧ (0 ≤ rv185.2 ∧ rv185.2 ≤ (tT.length : Int))), SP.fact (i64ok rv188.1 ∧ (0 ≤ rv188.2 ∧ rv188.2 ≤ (tT.length : Int)) ∧ (0 ≤ rv188.1 ∧ (rv188.1 < (1 + rv38.1) ∨ rv188.1 = 0))), Cl tP [vl ta tk tT, vi rv188.2], SP.fact (rv192.b.length ≤ 140737488355328), sl (G.g 4 0) ([rv185.1] : List Str), sl (G.g 10 0) ([rv133, rv192] : List Str), os (G.g 13 0) ((b1_80 ++ [(GStmt.mk 8 (Str.mk []) [rv185.1] [rv133, rv192])]) : List GStmt), Cl p71 [.string (bs ([(Str.mk [97]), (Str.mk [98]), (Str.mk [99])].getD k_47.toNat default)), (G.g 13 0)]] ?_
   generalize G.g 4 0 = c187, G.g 10 0 = c197, G.g 13 0 = c205
   refine Jf 7 rfl ?_; rintro ⟨he211, he212⟩
   refine Jf 8 rfl ?_; rintro ⟨he213, he214, he215⟩
   unfold i64ok at he213
   refine Jf 10 rfl ?_; rintro he216
   refine Jk [1, 1, 1, 1, 1, 1, 4, 5, 6, 7, 7] ?_
   refine Jo 7 ?_; rintro a217 k218 rfl
   refine Fb 16 7 fun _ => ?_
   refine FoS 7 fun ho220 => ?_
   refine Jo 8 ?_; rintro a221 k222 rfl
   refine Fb 16 8 fun _ => ?_
   refine FoS 8 fun ho224 => ?_
   refine Jo 9 ?_; rintro a225 k226 rfl
   refine Fb 72 9 fun _ => KS ?_
   refine Oq (Vfa fo41_1 1) (Oq (VldF sh39 1) (Oq (VldA sh44 10) (Oa (AsV sl39 sz39 [.agg #[.string (bs ([(Str.mk [97]), (Str.mk [98]), (Str.mk [99])].getD k_47.toNat default)), vl a225 k226 (b1_80 ++ [(GStmt.mk 8 (Str.mk []) [rv185.1] [rv133, rv192])])]] [.string (bs ([(Str.mk [97]), (Str.mk [98]), (Str.mk [99])].getD k_47.toNat default)), vl a225 k226 (b1_80 ++ [(GStmt.mk 8 (Str.mk []) [rv185.1] [rv133, rv192])])]) fun c228 => ?_)))
   refine Jo 0 ?_; rintro a229 k230 rfl
   refine Jl [10] (Ent.freeze _ _) ?_
   refine Jl [1, 0] (Ent.cr1 (α := GBlock) (A := [S a225 k226 ((b1_80 ++ [(GStmt.mk 8 (Str.mk []) [rv185.1] [rv133, rv192])]) : List GStmt)]) _ (GBlock.mk ([(Str.mk [97]), (Str.mk [98]), (Str.mk [99])].getD k_47.toNat default) (b1_80 ++ [(GStmt.mk 8 (Str.mk []) [rv185.1] [rv133, rv192])])) _ aB1 (fun h => ⟨_, rfl, aS1, sepAll_get (i := 0) rfl h⟩)) ?_
   refine Oa (ApO [3, 0] sl39 sl39 sz39) fun c231 => ?_
   refine Jo 0 ?_; rintro a232 k233 rfl
   refine Fb 40 0 fun _ => ?_
   have hn235 := la f1_46 ([(GBlock.mk ([(Str.mk [97]), (Str.mk [98]), (Str.mk [99])].getD k_47.toNat default) (b1_80 ++ [(GStmt.mk 8 (Str.mk []) [rv185.1] [rv133, rv192])]))] : List GBlock)
   refine Oq (Vfa fo41_1 3) (Ost (SclF [3] sh39 [.string (bs ([(Str.mk [109]), (Str.mk [102]), (Str.mk [103])].getD i_14.toNat default)), .slice a232 ((f1_46 ++ [(GBlock.mk ([(Str.mk [97]), (Str.mk [98]), (Str.mk [99])].getD k_47.toNat default) (b1_80 ++ [(GStmt.mk 8 (Str.mk []) [rv185.1] [rv133, rv192])]))]).length) k233]) (KS ?_))
   refine Oq Vm (Oq Vadd (Oq Va (KS ?_)))
   exact Kg (r64, rv188.2, (f1_46 ++ [(GBlock.mk ([(Str.mk [97]), (Str.mk [98]), (Str.mk [99])].getD k_47.toNat default) (b1_80 ++ [(GStmt.mk 8 (Str.mk []) [rv185.1] [rv133, rv192])]))]), (k_47 + 1), a232, k233) [1, 7, 0, 2, 2, 2, 2] ⟨(q3 hM50 (by simp only [tp_Program_L1, h28, h62, h96, h143, h162, hg6, hg39, hg73, hR126, hg128, hg134, hg138, hg186, hg189, hg193, cs4])), aM1, aM1, aM1, aM1, aM1, aM1, iv1⟩
  intro h62
  have g236 := df h62
  obtain rfl : r44 = 0 := by omega
  refine Ke ?_
  have hR237 := q2 hM50 (ti_45, f1_46) (by simp only [tp_Program_L1, h28, h62, hg6, hg39, cs4])
  refine KS ?_
  refine Oq (Vfa fo25_0 4) (Oq (VldF sh23 4) (Oq (VldA sh41 2) (Oa (AsV sl23 sz23 [.agg #[.string (bs ([(Str.mk [109]), (Str.mk [102]), (Str.mk [103])].getD i_14.toNat default)), vl a48 k49 f1_46]] [.string (bs ([(Str.mk [109]), (Str.mk [102]), (Str.mk [103])].getD i_14.toNat default)), vl a48 k49 f1_46]) fun c238 => ?_)))
  refine Jo 0 ?_; rintro a239 k240 rfl
  refine Jl [1] (Ent.freeze _ _) ?_
  refine Jl [1, 0] (Ent.cr1 (α := GFunc) (A := [S a48 k49 f1_46]) _ (GFunc.mk ([(Str.mk [109]), (Str.mk [102]), (Str.mk [103])].getD i_14.toNat default) f1_46) _ aB1 (fun h => ⟨_, rfl, aS1, sepAll_get (i := 0) rfl h⟩)) ?_
  refine Oa (ApO [5, 0] sl23 sl23 sz23) fun c241 => ?_
  refine Jo 0 ?_; rintro a242 k243 rfl
  refine Fb 40 0 fun _ => ?_
  have hn245 := la p0_13 ([(GFunc.mk ([(Str.mk [109]), (Str.mk [102]), (Str.mk [103])].getD i_14.toNat default) f1_46)] : List GFunc)
  refine Oq (Vfa fo25_0 5) (Ost (SclF [5] sh23 [vl a242 k243 (p0_13 ++ [(GFunc.mk ([(Str.mk [109]), (Str.mk [102]), (Str.mk [103])].getD i_14.toNat default) f1_46)])]) (KS ?_))
  refine Oq Vm (Oq Vadd (Oq Va (KS ?_)))
  exact Kg (r30, ti_45, (p0_13 ++ [(GFunc.mk ([(Str.mk [109]), (Str.mk [102]), (Str.mk [103])].getD i_14.toNat default) f1_46)]), (i_14 + 1), a242, k243) [1, 3, 0, 3, 3] ⟨(q3 hM17 (by simp only [tp_Program_L0, h28, h62, hg6, hg39, hR237, cs4])), aM1, aM1, aM1, aM1, aM1, aM1, iv1⟩
 intro h28
 have g246 := df h28
 obtain rfl : r11 = 0 := by omega
 refine Ke ?_
 have hR247 := q2 hM17 (ti_12, p0_13) (by simp only [tp_Program_L0, h28, hg6, cs4])
 refine KS ?_
 refine Oq (VldA sh25 2) (Ost (Scl [3] sh25 [vl a15 k16 p0_13]) (KS ?_))
 refine Jl [1] (Ent.freeze _ _) ?_
 have hq := q4 hrr ((GProgram.mk p0_13), ti_12) (by simp only [tp_Program, h28, hg6, hR247, cs4]); subst hq
 exact Kr (vl a15 k16 p0_13) rfl (.cellN 1 rfl sh25 rfl (reads_Cl _ _) rfl .nil) [0, 2] en
theorem fn97 (l : List Str) (la0 : Option Addr) (lk0 : Nat) (a : Int) (b : Int) (ha_0 : i64ok a) (hb_0 : i64ok b) (rr : Bool) (hrr : r4_namesOK l a b = rr) : FT Tryz.prog 97 #[vl la0 lk0 l, vi a, vi b] [S la0 lk0 l] (fun g : Unit => True) (fun g => vb rr) (fun g => []) := by
 refine FTi Tryz.func97 fun w0 M0 F0 => ?_
 unfold i64ok at ha_0 hb_0
 refine Fb 16 0 fun _ => ?_
 refine FoS 0 fun ho2 => ?_
 refine KS ?_
 refine Oq Va (KS ?_)
 refine Oq Va (KS ?_)
 refine Kl (γ := Nat × Int) (fun (r3, i_4) => ⟨[(0, vl la0 lk0 l), (1, vi a), (2, vi b), (7, vi i_4)], [S la0 lk0 l], r4_namesOK_L0 l r3 i_4 = r4_namesOK_L0 l (((l.length : Int) - 0).toNat) 0 ∧ r3 = ((l.length : Int) - i_4).toNat ∧ (0 : Int) ≤ i_4 ∧ i_4 ≤ (l.length : Int) ∧ (-9223372036854775808 ≤ i_4 ∧ i_4 ≤ 9223372036854775807), r3⟩) (((l.length : Int) - 0).toNat, 0) [0] ⟨rfl, rfl, aM1, aM1, aM1⟩ ?_
 rintro ⟨r3, i_4⟩ ⟨hM5, hr6, hi7, hi8, hk9⟩
 refine JJ_nx fun _ _ hL hA => ?_; dsimp only at hL hA; subst hL hA
 refine Fb 16 0 fun _ => ?_
 refine FoS 0 fun ho11 => ?_
 refine KS ?_
 refine Oq Vm (Oq Vm (Oq (Vlen sl45) (Oq Vlss (KS ?_))))
 refine Kc ?_ ?_
 ·intro h12
  have g13 := dt h12
  obtain ⟨r14, rfl⟩ := scc (n := r3) aM1
  refine KS ?_
  refine Oq Vm (Oq Vm (Oq (Vi sl45 0) ?_))
  have hb15 := okS (i := i_4.toNat) ho11 rng
  refine Oq (VldS sh9 0) ?_
  refine letv (r4_IsName (l.getD i_4.toNat default)) fun rv16 hg17 => ?_
  have hc18 := fn71 ((l.getD i_4.toNat default)) pre rv16 hg17
  refine Oc [] ca71 hc18 ?_
  rintro - -
  refine Oq Vnot (KS ?_)
  refine Kc ?_ ?_
  ·intro h19
   have h21 := not_true h19
   refine KS ?_
   refine Oq Va (KS ?_)
   have hR23 := q2 hM5 (.ret false) (by simp only [r4_namesOK_L0, h12, h19, h21, hg17, cs4])
   have hq := q4 hrr false (by simp only [r4_namesOK, h12, h19, h21, hg17, hR23, cs4]); subst hq
   exact Kr () rfl (.tmp rfl .nil) [] trivial
  intro h19
  have h25 := not_false h19
  refine KS ?_
  refine Oq Vm (Oq Vadd (Oq Va (KS ?_)))
  exact Kg (r14, (i_4 + 1)) [0] ⟨(q3 hM5 (by simp only [r4_namesOK_L0, h12, h19, h25, hg17, cs4])), aM1, aM1, aM1, aM1⟩
 intro h12
 have g27 := df h12
 obtain rfl : r3 = 0 := by omega
 refine Ke ?_
 have hR28 := q2 hM5 (.brk ()) (by simp only [r4_namesOK_L0, h12, cs4])
 refine KS ?_
 refine Oq Vm (Oq (Vlen sl45) (Oq Vm (Oq Vgeq (Oq Vm ?_))))
 refine Js 24 ?_ ?_
 ·intro h29
  have g30 := dt h29
  refine Oq Vm (Oq (Vlen sl45) (Oq Vm (Oq Vleq (Oq Vpt (Oq Va (KS ?_))))))
  have hq := q4 hrr (decide ((l.length : Int) ≤ b)) (by simp only [r4_namesOK, h12, h29, hR28, cs4]); subst hq
  exact Kr () rfl (.tmp rfl .nil) [] trivial
 intro h29
 have g31 := df h29
 refine Osk (Osk (Osk (Osk (Oq Vpf (Oq Va (KS ?_))))))
 have hq := q4 hrr false (by simp only [r4_namesOK, h12, h29, hR28, cs4]); subst hq
 exact Kr () rfl (.tmp rfl .nil) [] trivial
theorem fn72 (s : GStmt) (sa2 : Option Addr) (sk2 : Nat) (sa3 : Option Addr) (sk3 : Nat) (hs_0 : i64ok s.Op) (hs_1 : s.Def.b.length ≤ 140737488355328) (rr : Bool) (hrr : r4_stmtOK s = rr) : FT Tryz.prog 72 #[.agg #[vi s.Op, .string (bs s.Def), vl sa2 sk2 s.Uses, vl sa3 sk3 s.Targets]] [S sa2 sk2 s.Uses, S sa3 sk3 s.Targets] (fun g : Unit => True) (fun g => vb rr) (fun g => []) := by
 refine FTi Tryz.func72 fun w0 M0 F0 => ?_
 unfold i64ok at hs_0
 refine Fb 16 0 fun _ => ?_
 refine FoS 0 fun ho2 => ?_
 refine Fb 16 1 fun _ => ?_
 refine FoS 1 fun ho4 => ?_
 refine KS ?_
 refine Oa (Ab [vi s.Op, .string (bs s.Def), vl sa2 sk2 s.Uses, vl sa3 sk3 s.Targets]) fun p5 => Oq Va (KS ?_)
 refine Oq (Vfa fo47_1 0) (Oq (VldF sh9 0) ?_)
 refine letv (r4_IsName s.Def) fun rv6 hg7 => ?_
 have hc8 := fn71 s.Def pre rv6 hg7
 refine Oc [] ca71 hc8 ?_
 rintro - -
 refine Oq Va (KS ?_)
 refine Kq [0, 1, 3, 0, 8, 24, 7, 127] fmix ?_
 refine Qv [0] (Vfa fo47_2 0) (Qv [0] (VldF sh45 0) (Qv [] (Vlen sl45) (Qv [0] (Vfa fo47_3 0) (Qv [0] (VldF sh45 0) (Qv [] (Vlen sl45) (Qv [] Va (Qv [] Va ?_)))))))
 refine Qn ⟨by kernel_rfl, ?_⟩
 refine KS ?_
 refine Oq (Vfa fo47_2 0) (Oq (VldF sh45 0) ?_)
 refine letv (r4_namesOK s.Uses 0 4) fun rv9 hg10 => ?_
 have hc11 := fn97 s.Uses sa2 sk2 0 4 pre pre rv9 hg10
 refine Oc [1] ca97 hc11 ?_
 rintro - -
 refine Oq Vnot (Oq Vm ?_)
 refine Js 19 ?_ ?_
 ·intro h12
  have h14 := not_true h12
  refine Osk (Osk (Osk (Osk (Oq Vpt (KS ?_)))))
  refine Kt (KS ?_)
  refine Oq Va (KS ?_)
  have hq := q4 hrr false (by simp only [r4_stmtOK, h12, h14, hg7, hg10, cs4]); subst hq
  exact Kr () rfl (.tmp rfl .nil) [] trivial
 intro h12
 have h17 := not_false h12
 refine Oq (Vfa fo47_3 0) (Oq (VldF sh45 0) ?_)
 refine letv (r4_namesOK s.Targets 0 2) fun rv19 hg20 => ?_
 have hc21 := fn97 s.Targets sa3 sk3 0 2 pre pre rv19 hg20
 refine Oc [2] ca97 hc21 ?_
 rintro - -
 refine Oq Vnot (Oq Vpf (KS ?_))
 refine Kc ?_ ?_
 ·intro h22
  have h24 := not_true h22
  refine KS ?_
  refine Oq Va (KS ?_)
  have hq := q4 hrr false (by simp only [r4_stmtOK, h12, h17, h22, h24, hg7, hg10, hg20, cs4]); subst hq
  exact Kr () rfl (.tmp rfl .nil) [] trivial
 intro h22
 have h27 := not_false h22
 refine KS ?_
 refine Oq (Vfa fo47_0 0) (Oq (VldF sh3 0) (KS ?_))
 refine Oq Veql (Oq Va (KS ?_))
 refine Kc ?_ ?_
 ·intro h29
  have g30 := eq_of_beq h29
  refine KS ?_
  refine Oq Vm (Oq Vm ?_)
  refine Js 30 ?_ ?_
  ·intro h31
   refine Oq Vm (Oq Veql (Oq Vpt (Oq Va (KS ?_))))
   have hq := q4 hrr ((s.Targets.length : Int) == 0) (by simp only [r4_stmtOK, h12, h17, h22, h27, h29, h31, hg7, hg10, hg20, cs4]); subst hq
   exact Kr () rfl (.tmp rfl .nil) [] trivial
  intro h31
  refine Osk (Osk (Oq Vpf (Oq Va (KS ?_))))
  have hq := q4 hrr false (by simp only [r4_stmtOK, h12, h17, h22, h27, h29, h31, hg7, hg10, hg20, cs4]); subst hq
  exact Kr () rfl (.tmp rfl .nil) [] trivial
 intro h29
 have g34 := ne_of_beq_false h29
 refine KS ?_
 refine Oq Veql (Oq Va (KS ?_))
 refine Kc ?_ ?_
 ·intro h35
  have g36 := eq_of_beq h35
  refine KS ?_
  refine Oq (Vfa fo47_1 0) (Oq (VldF sh9 0) (Oq (VeqS (l := s.Def) (m := (Str.mk []))) (Oq Vm ?_)))
  refine Js 39 ?_ ?_
  ·intro h37
   have g38 := eq_of_beq h37
   refine Oq Vm (Oq Vgeq (Oq Vpt (Oq Vm ?_)))
   refine Js 43 ?_ ?_
   ·intro h39
    have g40 := dt h39
    refine Oq Vm (Oq Veql (Oq Vpt (Oq Va (KS ?_))))
    have hq := q4 hrr ((s.Targets.length : Int) == 0) (by simp only [r4_stmtOK, h12, h17, h22, h27, h29, h35, h37, h39, hg7, hg10, hg20, cs4]); subst hq
    exact Kr () rfl (.tmp rfl .nil) [] trivial
   intro h39
   have g41 := df h39
   refine Osk (Osk (Oq Vpf (Oq Va (KS ?_))))
   have hq := q4 hrr false (by simp only [r4_stmtOK, h12, h17, h22, h27, h29, h35, h37, h39, hg7, hg10, hg20, cs4]); subst hq
   exact Kr () rfl (.tmp rfl .nil) [] trivial
  intro h37
  have g42 := ne_of_beq_false h37
  refine Osk (Osk (Oq Vpf (Oq Vm (Osk (Osk (Oq Vpf (Oq Va (KS ?_))))))))
  have hq := q4 hrr false (by simp only [r4_stmtOK, h12, h17, h22, h27, h29, h35, h37, hg7, hg10, hg20, cs4]); subst hq
  exact Kr () rfl (.tmp rfl .nil) [] trivial
 intro h35
 have g43 := ne_of_beq_false h35
 refine KS ?_
 refine Oq Veql (Oq Va (KS ?_))
 refine Kc ?_ ?_
 ·intro h44
  have g45 := eq_of_beq h44
  refine KS ?_
  refine Oq (Vfa fo47_1 0) (Oq (VldF sh9 0) (Oq (VeqS (l := s.Def) (m := (Str.mk []))) (Oq Vm ?_)))
  refine Js 52 ?_ ?_
  ·intro h46
   have g47 := eq_of_beq h46
   refine Oq Vm (Oq Veql (Oq Vpt (Oq Vm ?_)))
   refine Js 56 ?_ ?_
   ·intro h48
    have g49 := eq_of_beq h48
    refine Oq Vm (Oq Veql (Oq Vpt (Oq Va (KS ?_))))
    have hq := q4 hrr ((s.Targets.length : Int) == 0) (by simp only [r4_stmtOK, h12, h17, h22, h27, h29, h35, h44, h46, h48, hg7, hg10, hg20, cs4]); subst hq
    exact Kr () rfl (.tmp rfl .nil) [] trivial
   intro h48
   have g50 := ne_of_beq_false h48
   refine Osk (Osk (Oq Vpf (Oq Va (KS ?_))))
   have hq := q4 hrr false (by simp only [r4_stmtOK, h12, h17, h22, h27, h29, h35, h44, h46, h48, hg7, hg10, hg20, cs4]); subst hq
   exact Kr () rfl (.tmp rfl .nil) [] trivial
  intro h46
  have g51 := ne_of_beq_false h46
  refine Osk (Osk (Oq Vpf (Oq Vm (Osk (Osk (Oq Vpf (Oq Va (KS ?_))))))))
  have hq := q4 hrr false (by simp only [r4_stmtOK, h12, h17, h22, h27, h29, h35, h44, h46, hg7, hg10, hg20, cs4]); subst hq
  exact Kr () rfl (.tmp rfl .nil) [] trivial
 intro h44
 have g52 := ne_of_beq_false h44
 refine KS ?_
 refine Oq Veql (Oq Va (KS ?_))
 refine Kc ?_ ?_
 ·intro h53
  have g54 := eq_of_beq h53
  refine KS ?_
  refine Kc ?_ ?_
  ·intro h55
   have g56 := eq_of_beq h55
   refine KS ?_
   refine Oq (Vfa fo47_1 0) (Oq (VldF sh9 0) (Oq (VeqS (l := s.Def) (m := (Str.mk []))) (Oq Vm ?_)))
   refine Js 66 ?_ ?_
   ·intro h57
    have g58 := eq_of_beq h57
    refine Oq Vm (Oq Veql (Oq Vpt (Oq Vm ?_)))
    refine Js 70 ?_ ?_
    ·intro h59
     have g60 := eq_of_beq h59
     refine Oq Vm (Oq Veql (Oq Vpt (Oq Va (KS ?_))))
     have hq := q4 hrr ((s.Targets.length : Int) == 1) (by simp only [r4_stmtOK, h12, h17, h22, h27, h29, h35, h44, h53, h55, h57, h59, hg7, hg10, hg20, cs4]); subst hq
     exact Kr () rfl (.tmp rfl .nil) [] trivial
    intro h59
    have g61 := ne_of_beq_false h59
    refine Osk (Osk (Oq Vpf (Oq Va (KS ?_))))
    have hq := q4 hrr false (by simp only [r4_stmtOK, h12, h17, h22, h27, h29, h35, h44, h53, h55, h57, h59, hg7, hg10, hg20, cs4]); subst hq
    exact Kr () rfl (.tmp rfl .nil) [] trivial
   intro h57
   have g62 := ne_of_beq_false h57
   refine Osk (Osk (Oq Vpf (Oq Vm (Osk (Osk (Oq Vpf (Oq Va (KS ?_))))))))
   have hq := q4 hrr false (by simp only [r4_stmtOK, h12, h17, h22, h27, h29, h35, h44, h53, h55, h57, hg7, hg10, hg20, cs4]); subst hq
   exact Kr () rfl (.tmp rfl .nil) [] trivial
  intro h55
  exact absurd h55 (by first | (simp [h53]; done) | (simp only [bne, h53]; decide) | (simp only [bne, h53, Bool.not_true, Bool.not_false]; decide) | (exfalso; omega) | (intro hq; simp only [bne, hq, Bool.not_false, Bool.not_true, reduceCtorEq] at h53))
 intro h53
 have g63 := ne_of_beq_false h53
 refine KS ?_
 refine Oq Veql (Oq Va (KS ?_))
 refine Kc ?_ ?_
 ·intro h64
  have g65 := eq_of_beq h64
  refine KS ?_
  refine Oq (Vfa fo47_1 0) (Oq (VldF sh9 0) (Oq (VeqS (l := s.Def) (m := (Str.mk []))) (Oq Vm ?_)))
  refine Js 66 ?_ ?_
  ·intro h66
   have g67 := eq_of_beq h66
   refine Oq Vm (Oq Veql (Oq Vpt (Oq Vm ?_)))
   refine Js 70 ?_ ?_
   ·intro h68
    have g69 := eq_of_beq h68
    refine Oq Vm (Oq Veql (Oq Vpt (Oq Va (KS ?_))))
    have hq := q4 hrr ((s.Targets.length : Int) == 1) (by simp only [r4_stmtOK, h12, h17, h22, h27, h29, h35, h44, h53, h64, h66, h68, hg7, hg10, hg20, cs4]); subst hq
    exact Kr () rfl (.tmp rfl .nil) [] trivial
   intro h68
   have g70 := ne_of_beq_false h68
   refine Osk (Osk (Oq Vpf (Oq Va (KS ?_))))
   have hq := q4 hrr false (by simp only [r4_stmtOK, h12, h17, h22, h27, h29, h35, h44, h53, h64, h66, h68, hg7, hg10, hg20, cs4]); subst hq
   exact Kr () rfl (.tmp rfl .nil) [] trivial
  intro h66
  have g71 := ne_of_beq_false h66
  refine Osk (Osk (Oq Vpf (Oq Vm (Osk (Osk (Oq Vpf (Oq Va (KS ?_))))))))
  have hq := q4 hrr false (by simp only [r4_stmtOK, h12, h17, h22, h27, h29, h35, h44, h53, h64, h66, hg7, hg10, hg20, cs4]); subst hq
  exact Kr () rfl (.tmp rfl .nil) [] trivial
 intro h64
 have g72 := ne_of_beq_false h64
 refine KS ?_
 refine Oq Veql (Oq Va (KS ?_))
 refine Kc ?_ ?_
 ·intro h73
  have g74 := eq_of_beq h73
  refine KS ?_
  refine Kc ?_ ?_
  ·intro h75
   have g76 := eq_of_beq h75
   refine KS ?_
   refine Oq Vm (Oq Vm ?_)
   refine Js 78 ?_ ?_
   ·intro h77
    refine Oq Vm (Oq Veql (Oq Vpt (Oq Vm ?_)))
    refine Js 82 ?_ ?_
    ·intro h79
     have g80 := eq_of_beq h79
     refine Oq Vm (Oq Veql (Oq Vpt (Oq Va (KS ?_))))
     have hq := q4 hrr ((s.Targets.length : Int) == 0) (by simp only [r4_stmtOK, h12, h17, h22, h27, h29, h35, h44, h53, h64, h73, h75, h77, h79, hg7, hg10, hg20, cs4]); subst hq
     exact Kr () rfl (.tmp rfl .nil) [] trivial
    intro h79
    have g81 := ne_of_beq_false h79
    refine Osk (Osk (Oq Vpf (Oq Va (KS ?_))))
    have hq := q4 hrr false (by simp only [r4_stmtOK, h12, h17, h22, h27, h29, h35, h44, h53, h64, h73, h75, h77, h79, hg7, hg10, hg20, cs4]); subst hq
    exact Kr () rfl (.tmp rfl .nil) [] trivial
   intro h77
   refine Osk (Osk (Oq Vpf (Oq Vm (Osk (Osk (Oq Vpf (Oq Va (KS ?_))))))))
   have hq := q4 hrr false (by simp only [r4_stmtOK, h12, h17, h22, h27, h29, h35, h44, h53, h64, h73, h75, h77, hg7, hg10, hg20, cs4]); subst hq
   exact Kr () rfl (.tmp rfl .nil) [] trivial
  intro h75
  exact absurd h75 (by first | (simp [h73]; done) | (simp only [bne, h73]; decide) | (simp only [bne, h73, Bool.not_true, Bool.not_false]; decide) | (exfalso; omega) | (intro hq; simp only [bne, hq, Bool.not_false, Bool.not_true, reduceCtorEq] at h73))
 intro h73
 have g83 := ne_of_beq_false h73
 refine KS ?_
 refine Oq Veql (Oq Va (KS ?_))
 refine Kc ?_ ?_
 ·intro h84
  have g85 := eq_of_beq h84
  refine KS ?_
  refine Oq Vm (Oq Vm ?_)
  refine Js 78 ?_ ?_
  ·intro h86
   refine Oq Vm (Oq Veql (Oq Vpt (Oq Vm ?_)))
   refine Js 82 ?_ ?_
   ·intro h88
    have g89 := eq_of_beq h88
    refine Oq Vm (Oq Veql (Oq Vpt (Oq Va (KS ?_))))
    have hq := q4 hrr ((s.Targets.length : Int) == 0) (by simp only [r4_stmtOK, h12, h17, h22, h27, h29, h35, h44, h53, h64, h73, h84, h86, h88, hg7, hg10, hg20, cs4]); subst hq
    exact Kr () rfl (.tmp rfl .nil) [] trivial
   intro h88
   have g90 := ne_of_beq_false h88
   refine Osk (Osk (Oq Vpf (Oq Va (KS ?_))))
   have hq := q4 hrr false (by simp only [r4_stmtOK, h12, h17, h22, h27, h29, h35, h44, h53, h64, h73, h84, h86, h88, hg7, hg10, hg20, cs4]); subst hq
   exact Kr () rfl (.tmp rfl .nil) [] trivial
  intro h86
  refine Osk (Osk (Oq Vpf (Oq Vm (Osk (Osk (Oq Vpf (Oq Va (KS ?_))))))))
  have hq := q4 hrr false (by simp only [r4_stmtOK, h12, h17, h22, h27, h29, h35, h44, h53, h64, h73, h84, h86, hg7, hg10, hg20, cs4]); subst hq
  exact Kr () rfl (.tmp rfl .nil) [] trivial
 intro h84
 have g92 := ne_of_beq_false h84
 refine KS ?_
 refine Oq Veql (Oq Va (KS ?_))
 refine Kc ?_ ?_
 ·intro h93
  have g94 := eq_of_beq h93
  refine KS ?_
  refine Oq (Vfa fo47_1 0) (Oq (VldF sh9 0) (Oq (VeqS (l := s.Def) (m := (Str.mk []))) (Oq Vm ?_)))
  refine Js 91 ?_ ?_
  ·intro h95
   have g96 := eq_of_beq h95
   refine Oq Vm (Oq Veql (Oq Vpt (Oq Vm ?_)))
   refine Js 95 ?_ ?_
   ·intro h97
    have g98 := eq_of_beq h97
    refine Oq Vm (Oq Veql (Oq Vpt (Oq Va (KS ?_))))
    have hq := q4 hrr ((s.Targets.length : Int) == 2) (by simp only [r4_stmtOK, h12, h17, h22, h27, h29, h35, h44, h53, h64, h73, h84, h93, h95, h97, hg7, hg10, hg20, cs4]); subst hq
    exact Kr () rfl (.tmp rfl .nil) [] trivial
   intro h97
   have g99 := ne_of_beq_false h97
   refine Osk (Osk (Oq Vpf (Oq Va (KS ?_))))
   have hq := q4 hrr false (by simp only [r4_stmtOK, h12, h17, h22, h27, h29, h35, h44, h53, h64, h73, h84, h93, h95, h97, hg7, hg10, hg20, cs4]); subst hq
   exact Kr () rfl (.tmp rfl .nil) [] trivial
  intro h95
  have g100 := ne_of_beq_false h95
  refine Osk (Osk (Oq Vpf (Oq Vm (Osk (Osk (Oq Vpf (Oq Va (KS ?_))))))))
  have hq := q4 hrr false (by simp only [r4_stmtOK, h12, h17, h22, h27, h29, h35, h44, h53, h64, h73, h84, h93, h95, hg7, hg10, hg20, cs4]); subst hq
  exact Kr () rfl (.tmp rfl .nil) [] trivial
 intro h93
 have g101 := ne_of_beq_false h93
 refine KS ?_
 refine Oq Veql (Oq Va (KS ?_))
 refine Kc ?_ ?_
 ·intro h102
  have g103 := eq_of_beq h102
  refine KS ?_
  refine Oq (Vfa fo47_1 0) (Oq (VldF sh9 0) (Oq (VeqS (l := s.Def) (m := (Str.mk []))) (Oq Vm ?_)))
  refine Js 104 ?_ ?_
  ·intro h104
   have g105 := eq_of_beq h104
   refine Oq Vm (Oq Veql (Oq Vpt (Oq Vm ?_)))
   refine Js 108 ?_ ?_
   ·intro h106
    have g107 := eq_of_beq h106
    refine Oq Vm (Oq Veql (Oq Vpt (Oq Va (KS ?_))))
    have hq := q4 hrr ((s.Targets.length : Int) == 0) (by simp only [r4_stmtOK, h12, h17, h22, h27, h29, h35, h44, h53, h64, h73, h84, h93, h102, h104, h106, hg7, hg10, hg20, cs4]); subst hq
    exact Kr () rfl (.tmp rfl .nil) [] trivial
   intro h106
   have g108 := ne_of_beq_false h106
   refine Osk (Osk (Oq Vpf (Oq Va (KS ?_))))
   have hq := q4 hrr false (by simp only [r4_stmtOK, h12, h17, h22, h27, h29, h35, h44, h53, h64, h73, h84, h93, h102, h104, h106, hg7, hg10, hg20, cs4]); subst hq
   exact Kr () rfl (.tmp rfl .nil) [] trivial
  intro h104
  have g109 := ne_of_beq_false h104
  refine Osk (Osk (Oq Vpf (Oq Vm (Osk (Osk (Oq Vpf (Oq Va (KS ?_))))))))
  have hq := q4 hrr false (by simp only [r4_stmtOK, h12, h17, h22, h27, h29, h35, h44, h53, h64, h73, h84, h93, h102, h104, hg7, hg10, hg20, cs4]); subst hq
  exact Kr () rfl (.tmp rfl .nil) [] trivial
 intro h102
 have g110 := ne_of_beq_false h102
 refine KS ?_
 refine Oq Va (KS ?_)
 have hq := q4 hrr false (by simp only [r4_stmtOK, h12, h17, h22, h27, h29, h35, h44, h53, h64, h73, h84, h93, h102, hg7, hg10, hg20, cs4]); subst hq
 exact Kr () rfl (.tmp rfl .nil) [] trivial
theorem fn39 (p : GProgram) (pa0 : Option Addr) (pk0 : Nat) (rr : Bool) (hrr : r4_Valid p = rr) : FT Tryz.prog 39 #[.agg #[vl pa0 pk0 p.Funcs]] [S pa0 pk0 p.Funcs] (fun g : Unit => True) (fun g => vb rr) (fun g => []) := by
 refine FTi Tryz.func39 fun w0 M0 F0 => Fb 40 0 fun _ => ?_
 refine KS ?_
 refine Oa (Ab [vl pa0 pk0 p.Funcs]) fun p2 => Oq Va (KS ?_)
 refine Oq (Vfa fo25_0 0) (Oq (VldF sh23 0) (Oq (Vlen sl23) (Oq Vlss (Oq Vm ?_))))
 refine Js 12 ?_ ?_
 ·intro h3
  have g4 := dt h3
  refine Osk (Osk (Osk (Osk (Oq Vpt (KS ?_)))))
  refine Kt (KS ?_)
  refine Oq Va (KS ?_)
  have hq := q4 hrr false (by simp only [r4_Valid, h3, cs4]); subst hq
  exact Kr () rfl (.tmp rfl .nil) [] trivial
 intro h3
 have g5 := df h3
 refine Oq (Vfa fo25_0 0) (Oq (VldF sh23 0) (Oq (Vlen sl23) (Oq Vgtr (Oq Vpf (KS ?_)))))
 refine Kc ?_ ?_
 ·intro h6
  have g7 := dt h6
  refine KS ?_
  refine Oq Va (KS ?_)
  have hq := q4 hrr false (by simp only [r4_Valid, h3, h6, cs4]); subst hq
  exact Kr () rfl (.tmp rfl .nil) [] trivial
 intro h6
 have g8 := df h6
 refine KS ?_
 refine Oq Va (KS ?_)
 refine Kl (γ := Nat × Int) (fun (r9, i_10) => ⟨[(1, p2), (3, vi i_10)], [pv p2 [vl pa0 pk0 p.Funcs], S pa0 pk0 p.Funcs], r4_Valid_L0 p r9 i_10 = r4_Valid_L0 p (((p.Funcs.length : Int) - 0).toNat) 0 ∧ r9 = ((p.Funcs.length : Int) - i_10).toNat ∧ (0 : Int) ≤ i_10 ∧ i_10 ≤ (p.Funcs.length : Int) ∧ (-9223372036854775808 ≤ i_10 ∧ i_10 ≤ 9223372036854775807), r9⟩) (((p.Funcs.length : Int) - 0).toNat, 0) [0, 1] ⟨rfl, rfl, aM1, aM1, aM1⟩ ?_
 rintro ⟨r9, i_10⟩ ⟨hM11, hr12, hi13, hi14, hk15⟩
 refine JJ_nx fun _ _ hL hA => ?_; dsimp only at hL hA; subst hL hA
 refine Fb 40 1 fun _ => KS ?_
 refine Oq Vm (Oq (Vfa fo25_0 0) (Oq (VldF sh23 0) (Oq (Vlen sl23) (Oq Vlss (KS ?_)))))
 refine Kc ?_ ?_
 ·intro h17
  have g18 := dt h17
  obtain ⟨r19, rfl⟩ := scc (n := r9) aM1
  refine KS ?_
  refine Oq (Vfa fo25_0 0) (Oq (VldF sh23 0) (Oq Vm (Oq (Vi sl23 1) ?_)))
  refine JJ_peek_GFunc i_10.toNat 1 rfl rng fun a20 k21 hb22 => ?_
  refine Fb 40 1 fun _ => ?_
  refine Oq (VldA sh41 0) (Oa (Al ze41 [.string (bs (Str.mk [])), .slice none 0 0]) fun p24 => Ost (Scl [0] sh41 [.string (bs ((p.Funcs.getD i_10.toNat default).Name)), vl a20 k21 ((p.Funcs.getD i_10.toNat default).Blocks)]) (KS ?_))
  refine Oq (Vfa fo41_0 0) (Oq (VldF sh9 0) ?_)
  refine letv (r4_IsName ((p.Funcs.getD i_10.toNat default).Name)) fun rv25 hg26 => ?_
  have hc27 := fn71 ((p.Funcs.getD i_10.toNat default).Name) pre rv25 hg26
  refine Oc [] ca71 hc27 ?_
  rintro - -
  refine Oq Vnot (Oq Vm ?_)
  refine Js 34 ?_ ?_
  ·intro h28
   have h30 := not_true h28
   refine Osk (Osk (Osk (Osk (Oq Vpt (Oq Vm (Osk (Osk (Osk (Osk ?_)))))))))
   refine Oq Vpt (KS ?_)
   refine Kt (KS ?_)
   refine Oq Va (KS ?_)
   have hR32 := q2 hM11 (.ret false) (by simp only [r4_Valid_L0, h3, h6, h17, h28, h30, hg26, cs4])
   have hq := q4 hrr false (by simp only [r4_Valid, h3, h6, h17, h28, h30, hg26, hR32, cs4]); subst hq
   exact Kr () rfl (.tmp rfl .nil) [] trivial
  intro h28
  have h34 := not_false h28
  refine Oq (Vfa fo41_1 0) (Oq (VldF sh39 0) (Oq (Vlen sl39) (Oq Vlss (Oq Vpf (Oq Vm ?_)))))
  refine Js 40 ?_ ?_
  ·intro h36
   have g37 := dt h36
   refine Osk (Osk (Osk (Osk (Oq Vpt (KS ?_)))))
   refine Kt (KS ?_)
   refine Oq Va (KS ?_)
   have hR38 := q2 hM11 (.ret false) (by simp only [r4_Valid_L0, h3, h6, h17, h28, h34, h36, hg26, cs4])
   have hq := q4 hrr false (by simp only [r4_Valid, h3, h6, h17, h28, h34, h36, hg26, hR38, cs4]); subst hq
   exact Kr () rfl (.tmp rfl .nil) [] trivial
  intro h36
  have g39 := df h36
  refine Oq (Vfa fo41_1 0) (Oq (VldF sh39 0) (Oq (Vlen sl39) (Oq Vgtr (Oq Vpf (KS ?_)))))
  refine Kc ?_ ?_
  ·intro h40
   have g41 := dt h40
   refine KS ?_
   refine Oq Va (KS ?_)
   have hR42 := q2 hM11 (.ret false) (by simp only [r4_Valid_L0, h3, h6, h17, h28, h34, h36, h40, hg26, cs4])
   have hq := q4 hrr false (by simp only [r4_Valid, h3, h6, h17, h28, h34, h36, h40, hg26, hR42, cs4]); subst hq
   exact Kr () rfl (.tmp rfl .nil) [] trivial
  intro h40
  have g43 := df h40
  refine KS ?_
  refine Oq Va (KS ?_)
  refine Kl (γ := Nat × Int) (fun (r44, k_45) => ⟨[(1, p2), (3, vi i_10), (4, p24), (5, vi k_45)], [Cl p24 [.string (bs ((p.Funcs.getD i_10.toNat default).Name)), vl a20 k21 ((p.Funcs.getD i_10.toNat default).Blocks)], S a20 k21 ((p.Funcs.getD i_10.toNat default).Blocks), pv p2 [vl pa0 pk0 p.Funcs], S pa0 pk0 p.Funcs], r4_Valid_L1 ((p.Funcs.getD i_10.toNat default).Blocks) r44 k_45 = r4_Valid_L1 ((p.Funcs.getD i_10.toNat default).Blocks) ((((((p.Funcs.getD i_10.toNat default).Blocks).length : Int) : Int) - 0).toNat) 0 ∧ r44 = (((((p.Funcs.getD i_10.toNat default).Blocks).length : Int) : Int) - k_45).toNat ∧ (0 : Int) ≤ k_45 ∧ (k_45 ≤ (((p.Funcs.getD i_10.toNat default).Blocks).length : Int) ∨ k_45 = 0) ∧ (-9223372036854775808 ≤ k_45 ∧ k_45 ≤ 9223372036854775807), r44⟩) ((((((p.Funcs.getD i_10.toNat default).Blocks).length : Int) : Int) - 0).toNat, 0) [0, 1, 2, 3] ⟨rfl, rfl, aM1, (.inr rfl), aM1⟩ ?_
  rintro ⟨r44, k_45⟩ ⟨hM46, hr47, hi48, hi49, hk50⟩
  refine JJ_nx fun _ _ hL hA => ?_; dsimp only at hL hA; subst hL hA
  refine Fb 40 1 fun _ => Fb 40 3 fun _ => KS ?_
  refine Oq Vm (Oq (Vfa fo41_1 0) (Oq (VldF sh39 0) (Oq (Vlen sl39) (Oq Vlss (KS ?_)))))
  refine Kc ?_ ?_
  ·intro h53
   have g54 := dt h53
   obtain ⟨r55, rfl⟩ := scc (n := r44) aM1
   refine KS ?_
   refine Oq (Vfa fo41_1 0) (Oq (VldF sh39 0) (Oq Vm (Oq (Vi sl39 1) ?_)))
   refine JJ_peek_GBlock k_45.toNat 1 rfl rng fun a56 k57 hb58 => ?_
   refine Fb 72 1 fun _ => ?_
   refine Oq (VldA sh44 0) (Oa (Al ze44 [.string (bs (Str.mk [])), .slice none 0 0]) fun p60 => Ost (Scl [0] sh44 [.string (bs ((((p.Funcs.getD i_10.toNat default).Blocks).getD k_45.toNat default).Name)), .slice a56 (((((p.Funcs.getD i_10.toNat default).Blocks).getD k_45.toNat default).Stmts).length) k57]) (KS ?_))
   refine Oq (Vfa fo44_0 0) (Oq (VldF sh9 0) ?_)
   refine letv (r4_IsName ((((p.Funcs.getD i_10.toNat default).Blocks).getD k_45.toNat default).Name)) fun rv61 hg62 => ?_
   have hc63 := fn71 ((((p.Funcs.getD i_10.toNat default).Blocks).getD k_45.toNat default).Name) pre rv61 hg62
   refine Oc [] ca71 hc63 ?_
   rintro - -
   refine Oq Vnot (Oq Vm ?_)
   refine Js 62 ?_ ?_
   ·intro h64
    have h66 := not_true h64
    refine Osk (Osk (Osk (Osk (Oq Vpt (Oq Vm (Osk (Osk (Osk (Osk ?_)))))))))
    refine Oq Vpt (KS ?_)
    refine Kt (KS ?_)
    refine Oq Va (KS ?_)
    have hR68 := q2 hM46 (.ret false) (by simp only [r4_Valid_L1, h3, h6, h17, h28, h34, h36, h40, h53, h64, h66, hg26, hg62, cs4])
    have hR69 := q2 hM11 (.ret false) (by simp only [r4_Valid_L0, h3, h6, h17, h28, h34, h36, h40, h53, h64, h66, hg26, hg62, hR68, cs4])
    have hq := q4 hrr false (by simp only [r4_Valid, h3, h6, h17, h28, h34, h36, h40, h53, h64, h66, hg26, hg62, hR68, hR69, cs4]); subst hq
    exact Kr () rfl (.tmp rfl .nil) [] trivial
   intro h64
   have h71 := not_false h64
   refine Oq (Vfa fo44_1 0) (Oq (VldF sh42 0) (Oq (Vlen sl42) (Oq Vlss (Oq Vpf (Oq Vm ?_)))))
   refine Js 68 ?_ ?_
   ·intro h73
    have g74 := dt h73
    refine Osk (Osk (Osk (Osk (Oq Vpt (KS ?_)))))
    refine Kt (KS ?_)
    refine Oq Va (KS ?_)
    have hR75 := q2 hM46 (.ret false) (by simp only [r4_Valid_L1, h3, h6, h17, h28, h34, h36, h40, h53, h64, h71, h73, hg26, hg62, cs4])
    have hR76 := q2 hM11 (.ret false) (by simp only [r4_Valid_L0, h3, h6, h17, h28, h34, h36, h40, h53, h64, h71, h73, hg26, hg62, hR75, cs4])
    have hq := q4 hrr false (by simp only [r4_Valid, h3, h6, h17, h28, h34, h36, h40, h53, h64, h71, h73, hg26, hg62, hR75, hR76, cs4]); subst hq
    exact Kr () rfl (.tmp rfl .nil) [] trivial
   intro h73
   have g77 := df h73
   refine Oq (Vfa fo44_1 0) (Oq (VldF sh42 0) (Oq (Vlen sl42) (Oq Vgtr (Oq Vpf (KS ?_)))))
   refine Kc ?_ ?_
   ·intro h78
    have g79 := dt h78
    refine KS ?_
    refine Oq Va (KS ?_)
    have hR80 := q2 hM46 (.ret false) (by simp only [r4_Valid_L1, h3, h6, h17, h28, h34, h36, h40, h53, h64, h71, h73, h78, hg26, hg62, cs4])
    have hR81 := q2 hM11 (.ret false) (by simp only [r4_Valid_L0, h3, h6, h17, h28, h34, h36, h40, h53, h64, h71, h73, h78, hg26, hg62, hR80, cs4])
    have hq := q4 hrr false (by simp only [r4_Valid, h3, h6, h17, h28, h34, h36, h40, h53, h64, h71, h73, h78, hg26, hg62, hR80, hR81, cs4]); subst hq
    exact Kr () rfl (.tmp rfl .nil) [] trivial
   intro h78
   have g82 := df h78
   refine KS ?_
   refine Oq Va (KS ?_)
   refine Kl (γ := Nat × Int) (fun (r83, j_84) => ⟨[(1, p2), (3, vi i_10), (4, p24), (5, vi k_45), (6, p60), (7, vi j_84)], [Cl p60 [.string (bs ((((p.Funcs.getD i_10.toNat default).Blocks).getD k_45.toNat default).Name)), .slice a56 (((((p.Funcs.getD i_10.toNat default).Blocks).getD k_45.toNat default).Stmts).length) k57], S a56 k57 ((((p.Funcs.getD i_10.toNat default).Blocks).getD k_45.toNat default).Stmts), Cl p24 [.string (bs ((p.Funcs.getD i_10.toNat default).Name)), vl a20 k21 ((p.Funcs.getD i_10.toNat default).Blocks)], S a20 k21 ((p.Funcs.getD i_10.toNat default).Blocks), pv p2 [vl pa0 pk0 p.Funcs], S pa0 pk0 p.Funcs], r4_Valid_L2 ((((p.Funcs.getD i_10.toNat default).Blocks).getD k_45.toNat default).Stmts) r83 j_84 = r4_Valid_L2 ((((p.Funcs.getD i_10.toNat default).Blocks).getD k_45.toNat default).Stmts) ((((((((p.Funcs.getD i_10.toNat default).Blocks).getD k_45.toNat default).Stmts).length : Int) : Int) - 0).toNat) 0 ∧ r83 = (((((((p.Funcs.getD i_10.toNat default).Blocks).getD k_45.toNat default).Stmts).length : Int) : Int) - j_84).toNat ∧ (0 : Int) ≤ j_84 ∧ (j_84 ≤ (((((p.Funcs.getD i_10.toNat default).Blocks).getD k_45.toNat default).Stmts).length : Int) ∨ j_84 = 0) ∧ (-9223372036854775808 ≤ j_84 ∧ j_84 ≤ 9223372036854775807), r83⟩) ((((((((p.Funcs.getD i_10.toNat default).Blocks).getD k_45.toNat default).Stmts).length : Int) : Int) - 0).toNat, 0) [0, 1, 2, 2, 3, 4] ⟨rfl, rfl, aM1, (.inr rfl), aM1⟩ ?_
   rintro ⟨r83, j_84⟩ ⟨hM85, hr86, hi87, hi88, hk89⟩
   refine JJ_nx fun _ _ hL hA => ?_; dsimp only at hL hA; subst hL hA
   refine Fb 72 1 fun _ => Fb 40 3 fun _ => Fb 40 5 fun _ => KS ?_
   refine Oq Vm (Oq (Vfa fo44_1 0) (Oq (VldF sh42 0) (Oq (Vlen sl42) (Oq Vlss (KS ?_)))))
   refine Kc ?_ ?_
   ·intro h93
    have g94 := dt h93
    obtain ⟨r95, rfl⟩ := scc (n := r83) aM1
    refine KS ?_
    refine Oq (Vfa fo44_1 0) (Oq (VldF sh42 0) (Oq Vm (Oq (Vi sl42 1) ?_)))
    refine JJ_peek_GStmt j_84.toNat 1 rfl rng fun a96 k97 a98 k99 hb100 hb101 => ?_
    unfold i64ok at hb100
    refine Fb 16 1 fun _ => ?_
    refine FoS 1 fun ho103 => ?_
    refine Fb 16 2 fun _ => ?_
    refine FoS 2 fun ho105 => ?_
    refine Oq (VldA sh47 0) ?_
    refine letv (r4_stmtOK (((((p.Funcs.getD i_10.toNat default).Blocks).getD k_45.toNat default).Stmts).getD j_84.toNat default)) fun rv106 hg107 => ?_
    have hc108 := fn72 ((((((p.Funcs.getD i_10.toNat default).Blocks).getD k_45.toNat default).Stmts).getD j_84.toNat default)) a96 k97 a98 k99 pre pre rv106 hg107
    refine Oc [1, 2] ca72 hc108 ?_
    rintro - -
    refine Oq Vnot (KS ?_)
    refine Kc ?_ ?_
    ·intro h109
     have h111 := not_true h109
     refine KS ?_
     refine Oq Va (KS ?_)
     have hR113 := q2 hM85 (.ret false) (by simp only [r4_Valid_L2, h3, h6, h17, h28, h34, h36, h40, h53, h64, h71, h73, h78, h93, h109, h111, hg26, hg62, hg107, cs4])
     have hR114 := q2 hM46 (.ret false) (by simp only [r4_Valid_L1, h3, h6, h17, h28, h34, h36, h40, h53, h64, h71, h73, h78, h93, h109, h111, hg26, hg62, hg107, hR113, cs4])
     have hR115 := q2 hM11 (.ret false) (by simp only [r4_Valid_L0, h3, h6, h17, h28, h34, h36, h40, h53, h64, h71, h73, h78, h93, h109, h111, hg26, hg62, hg107, hR113, hR114, cs4])
     have hq := q4 hrr false (by simp only [r4_Valid, h3, h6, h17, h28, h34, h36, h40, h53, h64, h71, h73, h78, h93, h109, h111, hg26, hg62, hg107, hR113, hR114, hR115, cs4]); subst hq
     exact Kr () rfl (.tmp rfl .nil) [] trivial
    intro h109
    have h117 := not_false h109
    refine KS ?_
    refine Oq Vm (Oq Vadd (Oq Va (KS ?_)))
    exact Kg (r95, (j_84 + 1)) [3, 3, 4, 4, 5, 6] ⟨(q3 hM85 (by simp only [r4_Valid_L2, h3, h6, h17, h28, h34, h36, h40, h53, h64, h71, h73, h78, h93, h109, h117, hg26, hg62, hg107, cs4])), aM1, aM1, aM1, aM1⟩
   intro h93
   have g119 := df h93
   obtain rfl : r83 = 0 := by omega
   refine Ke ?_
   have hR120 := q2 hM85 (.brk ()) (by simp only [r4_Valid_L2, h3, h6, h17, h28, h34, h36, h40, h53, h64, h71, h73, h78, h93, hg26, hg62, cs4])
   refine KS ?_
   refine Oq Vm (Oq Vadd (Oq Va (KS ?_)))
   exact Kg (r55, (k_45 + 1)) [2, 2, 3, 4] ⟨(q3 hM46 (by simp only [r4_Valid_L1, h3, h6, h17, h28, h34, h36, h40, h53, h64, h71, h73, h78, h93, hg26, hg62, hR120, cs4])), aM1, aM1, aM1, aM1⟩
  intro h53
  have g121 := df h53
  obtain rfl : r44 = 0 := by omega
  refine Ke ?_
  have hR122 := q2 hM46 (.brk ()) (by simp only [r4_Valid_L1, h3, h6, h17, h28, h34, h36, h40, h53, hg26, cs4])
  refine KS ?_
  refine Oq Vm (Oq Vadd (Oq Va (KS ?_)))
  exact Kg (r19, (i_10 + 1)) [2, 3] ⟨(q3 hM11 (by simp only [r4_Valid_L0, h3, h6, h17, h28, h34, h36, h40, h53, hg26, hR122, cs4])), aM1, aM1, aM1, aM1⟩
 intro h17
 have g123 := df h17
 obtain rfl : r9 = 0 := by omega
 refine Ke ?_
 have hR124 := q2 hM11 (.brk ()) (by simp only [r4_Valid_L0, h3, h6, h17, cs4])
 refine KS ?_
 refine Oq Va (KS ?_)
 have hq := q4 hrr true (by simp only [r4_Valid, h3, h6, h17, hR124, cs4]); subst hq
 exact Kr () rfl (.tmp rfl .nil) [] trivial
theorem fn40 (l : List Str) (la0 : Option Addr) (lk0 : Nat) (s : Str) (hs_0 : s.b.length ≤ 140737488355328) (rr : Int) (hrr : r4_Place l s = rr) : FT Tryz.prog 40 #[vl la0 lk0 l, .string (bs s)] [S la0 lk0 l] (fun g : Unit => i64ok rr) (fun g => vi rr) (fun g => []) := by
 refine FTi Tryz.func40 fun w0 M0 F0 => Fb 16 0 fun _ => ?_
 refine FoS 0 fun ho2 => ?_
 refine KS ?_
 refine Oq Va (KS ?_)
 refine Oq Va (KS ?_)
 refine Kl (γ := Nat × Int) (fun (r3, i_4) => ⟨[(0, vl la0 lk0 l), (1, .string (bs s)), (5, vi i_4)], [S la0 lk0 l], r4_Place_L0 l s r3 i_4 = r4_Place_L0 l s (((l.length : Int) - 0).toNat) 0 ∧ r3 = ((l.length : Int) - i_4).toNat ∧ (0 : Int) ≤ i_4 ∧ i_4 ≤ (l.length : Int) ∧ (-9223372036854775808 ≤ i_4 ∧ i_4 ≤ 9223372036854775807), r3⟩) (((l.length : Int) - 0).toNat, 0) [0] ⟨rfl, rfl, aM1, aM1, aM1⟩ ?_
 rintro ⟨r3, i_4⟩ ⟨hM5, hr6, hi7, hi8, hk9⟩
 refine JJ_nx fun _ _ hL hA => ?_; dsimp only at hL hA; subst hL hA
 refine Fb 16 0 fun _ => ?_
 refine FoS 0 fun ho11 => ?_
 refine KS ?_
 refine Oq Vm (Oq Vm (Oq (Vlen sl45) (Oq Vlss (KS ?_))))
 refine Kc ?_ ?_
 ·intro h12
  have g13 := dt h12
  obtain ⟨r14, rfl⟩ := scc (n := r3) aM1
  refine KS ?_
  refine Oq Vm (Oq Vm (Oq (Vi sl45 0) ?_))
  have hb15 := okS (i := i_4.toNat) ho11 rng
  refine Oq (VldS sh9 0) (Oq Vm (Oq (VeqS (l := (l.getD i_4.toNat default)) (m := s)) (KS ?_)))
  refine Kc ?_ ?_
  ·intro h16
   have g17 := eq_of_beq h16
   refine KS ?_
   refine Oq Vm (Oq Va (KS ?_))
   have hR18 := q2 hM5 (.ret i_4) (by simp only [r4_Place_L0, h12, h16, cs4])
   have hq := q4 hrr i_4 (by simp only [r4_Place, h12, h16, hR18, cs4]); subst hq
   exact Kr () rfl (.tmp rfl .nil) [] en
  intro h16
  have g19 := ne_of_beq_false h16
  refine KS ?_
  refine Oq Vm (Oq Vadd (Oq Va (KS ?_)))
  exact Kg (r14, (i_4 + 1)) [0] ⟨(q3 hM5 (by simp only [r4_Place_L0, h12, h16, cs4])), aM1, aM1, aM1, aM1⟩
 intro h12
 have g20 := df h12
 obtain rfl : r3 = 0 := by omega
 refine Ke ?_
 have hR21 := q2 hM5 (.brk ()) (by simp only [r4_Place_L0, h12, cs4])
 refine KS ?_
 refine Oq Va (KS ?_)
 have hq := q4 hrr (-1) (by simp only [r4_Place, h12, hR21, cs4]); subst hq
 exact Kr () rfl (.tmp rfl .nil) [] en
theorem fn15 (p : GProgram) (pa0 : Option Addr) (pk0 : Nat) (rr : List Str) (hrr : r4_Variables p = rr) : FT Tryz.prog 15 #[.agg #[vl pa0 pk0 p.Funcs]] [S pa0 pk0 p.Funcs] (fun g : Value => True) (fun g => g) (fun g => [sl g rr]) := by
 refine FTi Tryz.func15 fun w0 M0 F0 => Fb 40 0 fun _ => ?_
 refine KS ?_
 refine Oa (Ab [vl pa0 pk0 p.Funcs]) fun p2 => Oq Va (KS ?_)
 refine Oq Va (KS ?_)
 refine Oq (VldA sh25 0) ?_
 refine letv (r4_Valid p) fun rv3 hg4 => ?_
 have hc5 := fn39 p pa0 pk0 rv3 hg4
 refine Oc [1] ca39 hc5 ?_
 rintro - -
 refine Oq Vnot (KS ?_)
 refine Kc ?_ ?_
 ·intro h6
  have h8 := not_true h6
  refine KS ?_
  refine Oq Va (KS ?_)
  refine Jl [] (Ent.slNil (α := Str)) ?_
  have hq := q4 hrr [] (by simp only [r4_Variables, h6, h8, hg4, cs4]); subst hq
  exact Kr (.slice none 0 0) rfl (.tmp rfl .nil) [0] trivial
 intro h6
 have h11 := not_false h6
 try have hVb := PVal_b (p := p) (by simp only [h6, h11, hg4])
 refine KS ?_
 refine Oq Va (KS ?_)
 refine Jl [] (Ent.osNil (α := Str)) ?_
 refine Kl (γ := Nat × List Str × Int × Option Addr × Nat) (fun (r13, out_14, i_15, a16, k17) => ⟨[(1, p2), (3, vl a16 k17 out_14), (4, vi i_15)], [O a16 k17 out_14, pv p2 [vl pa0 pk0 p.Funcs], S pa0 pk0 p.Funcs], r4_Variables_L0 p r13 out_14 i_15 = r4_Variables_L0 p (((p.Funcs.length : Int) - 0).toNat) [] 0 ∧ r13 = ((p.Funcs.length : Int) - i_15).toNat ∧ (0 : Int) ≤ i_15 ∧ i_15 ≤ (p.Funcs.length : Int) ∧ (-9223372036854775808 ≤ i_15 ∧ i_15 ≤ 9223372036854775807) ∧ ((out_14.length : Int) ≤ 3000 * i_15), r13⟩) (((p.Funcs.length : Int) - 0).toNat, [], 0, none, 0) [0, 0, 1] ⟨rfl, rfl, aM1, aM1, aM1, iv0⟩ ?_
 rintro ⟨r13, out_14, i_15, a16, k17⟩ ⟨hM18, hr19, hi20, hi21, hk22, hv23⟩
 refine JJ_nx fun _ _ hL hA => ?_; dsimp only at hL hA; subst hL hA
 refine Fb 16 0 fun _ => ?_
 refine FoS 0 fun ho25 => ?_
 refine Fb 40 2 fun _ => KS ?_
 refine Oq Vm (Oq (Vfa fo25_0 1) (Oq (VldF sh23 1) (Oq (Vlen sl23) (Oq Vlss (KS ?_)))))
 refine Kc ?_ ?_
 ·intro h27
  have g28 := dt h27
  have hVf := hVb.2 i_15.toNat
  obtain ⟨r29, rfl⟩ := scc (n := r13) aM1
  refine KS ?_
  refine Oq Va (KS ?_)
  refine Kl (γ := Nat × List Str × Int × Option Addr × Nat) (fun (r30, out_31, k_32, a33, k34) => ⟨[(1, p2), (3, vl a33 k34 out_31), (4, vi i_15), (5, vi k_32)], [O a33 k34 out_31, pv p2 [vl pa0 pk0 p.Funcs], S pa0 pk0 p.Funcs], r4_Variables_L1 p i_15 r30 out_31 k_32 = r4_Variables_L1 p i_15 ((((((p.Funcs.getD i_15.toNat default).Blocks).length : Int) : Int) - 0).toNat) out_14 0 ∧ r30 = (((((p.Funcs.getD i_15.toNat default).Blocks).length : Int) : Int) - k_32).toNat ∧ (0 : Int) ≤ k_32 ∧ (k_32 ≤ (((p.Funcs.getD i_15.toNat default).Blocks).length : Int) ∨ k_32 = 0) ∧ (-9223372036854775808 ≤ k_32 ∧ k_32 ≤ 9223372036854775807) ∧ ((out_31.length : Int) ≤ (out_14.length : Int) + 180 * k_32), r30⟩) ((((((p.Funcs.getD i_15.toNat default).Blocks).length : Int) : Int) - 0).toNat, out_14, 0, a16, k17) [0, 0, 1] ⟨rfl, rfl, aM1, (.inr rfl), aM1, iv0⟩ ?_
  rintro ⟨r30, out_31, k_32, a33, k34⟩ ⟨hM35, hr36, hi37, hi38, hk39, hv40⟩
  refine JJ_nx fun _ _ hL hA => ?_; dsimp only at hL hA; subst hL hA
  refine Fb 16 0 fun _ => ?_
  refine FoS 0 fun ho42 => ?_
  refine Fb 40 2 fun _ => KS ?_
  refine Oq Vm (Oq (Vfa fo25_0 1) (Oq (VldF sh23 1) (Oq Vm (Oq (Vi sl23 2) ?_))))
  refine JJ_peek_GFunc i_15.toNat 2 rfl rng fun a44 k45 hb46 => ?_
  refine Fb 40 1 fun _ => ?_
  refine Oq (Vfa fo41_1 0) (Oq (VldF sh39 0) (Oq (Vlen sl39) (Oq Vlss (KS ?_))))
  refine Kc ?_ ?_
  ·intro h48
   have g49 := dt h48
   have hVk := hVf.2 k_32.toNat
   obtain ⟨r50, rfl⟩ := scc (n := r30) aM1
   refine KS ?_
   refine Oq (Vfa fo25_0 3) (Oq (VldF sh23 3) (Oq Vm (Oq (Vi sl23 4) (Oq (Vfa fo41_1 0) (Oq (VldF sh39 0) (Oq Vm (Oq (Vi sl39 1) ?_)))))))
   refine JJ_peek_GBlock k_32.toNat 1 rfl rng fun a51 k52 hb53 => ?_
   refine Fb 72 1 fun _ => ?_
   refine Oq (Vfa fo44_1 0) (Oq (VldF sh42 0) (Oq Va (KS ?_)))
   refine Oq Va (KS ?_)
   refine Kl (γ := Nat × List Str × Int × Option Addr × Nat) (fun (r55, out_56, j_57, a58, k59) => ⟨[(1, p2), (3, vl a58 k59 out_56), (4, vi i_15), (5, vi k_32), (6, .slice a51 (((((p.Funcs.getD i_15.toNat default).Blocks).getD k_32.toNat default).Stmts).length) k52), (7, vi j_57)], [O a58 k59 out_56, S a51 k52 ((((p.Funcs.getD i_15.toNat default).Blocks).getD k_32.toNat default).Stmts), pv p2 [vl pa0 pk0 p.Funcs], S pa0 pk0 p.Funcs], r4_Variables_L2 ((((p.Funcs.getD i_15.toNat default).Blocks).getD k_32.toNat default).Stmts) r55 out_56 j_57 = r4_Variables_L2 ((((p.Funcs.getD i_15.toNat default).Blocks).getD k_32.toNat default).Stmts) ((((((((p.Funcs.getD i_15.toNat default).Blocks).getD k_32.toNat default).Stmts).length : Int) : Int) - 0).toNat) out_31 0 ∧ r55 = (((((((p.Funcs.getD i_15.toNat default).Blocks).getD k_32.toNat default).Stmts).length : Int) : Int) - j_57).toNat ∧ (0 : Int) ≤ j_57 ∧ (j_57 ≤ (((((p.Funcs.getD i_15.toNat default).Blocks).getD k_32.toNat default).Stmts).length : Int) ∨ j_57 = 0) ∧ (-9223372036854775808 ≤ j_57 ∧ j_57 ≤ 9223372036854775807) ∧ ((out_56.length : Int) ≤ (out_31.length : Int) + 5 * j_57), r55⟩) ((((((((p.Funcs.getD i_15.toNat default).Blocks).getD k_32.toNat default).Stmts).length : Int) : Int) - 0).toNat, out_31, 0, a33, k34) [4, 1, 4, 5] ⟨rfl, rfl, aM1, (.inr rfl), aM1, iv0⟩ ?_
   rintro ⟨r55, out_56, j_57, a58, k59⟩ ⟨hM60, hr61, hi62, hi63, hk64, hv65⟩
   refine JJ_nx fun _ _ hL hA => ?_; dsimp only at hL hA; subst hL hA
   refine Fb 16 0 fun _ => ?_
   refine FoS 0 fun ho67 => ?_
   refine Fb 72 1 fun _ => Fb 40 3 fun _ => KS ?_
   refine Oq Vm (Oq Vm (Oq (Vlen sl42) (Oq Vlss (KS ?_))))
   refine Kc ?_ ?_
   ·intro h70
    have g71 := dt h70
    have hVs := hVk.2 j_57.toNat
    obtain ⟨r72, rfl⟩ := scc (n := r55) aM1
    refine KS ?_
    refine Oq Vm (Oq Vm (Oq (Vi sl42 1) ?_))
    refine JJ_peek_GStmt j_57.toNat 1 rfl rng fun a73 k74 a75 k76 hb77 hb78 => ?_
    unfold i64ok at hb77
    refine Fb 16 1 fun _ => ?_
    refine FoS 1 fun ho80 => ?_
    refine Fb 16 2 fun _ => ?_
    refine FoS 2 fun ho82 => ?_
    refine Oq (Vfa fo47_2 0) (Oq (VldF sh45 0) (Oq Va (KS ?_)))
    refine Oq Vm (Oq Vm (Oq (Vi sl42 4) (Oq (Vfa fo47_1 0) (Oq (VldF sh9 0) (Oq (VneS (l := (((((p.Funcs.getD i_15.toNat default).Blocks).getD k_32.toNat default).Stmts).getD j_57.toNat default).Def) (m := (Str.mk []))) (KS ?_))))))
    refine Kc ?_ ?_
    ·intro h83
     have g84 := ne_of_bne h83
     refine JK_drawK [0, 0, 3, 7, 15, 31, 0, 0, 192, 448, 960, 2047, 4095] fmix ?_
     refine Dv [] Vm (Dv [] Vm (Dv [4] (Vi sl42 0) (Dv [0] (Vfa fo47_1 0) (Dv [0] (VldF sh9 0) (Dx [] [] [0] (fun G => (G.g 5 0)) [fun G => Cr (G.g 5 0) 1 [.string (bs ((((((p.Funcs.getD i_15.toNat default).Blocks).getD k_32.toNat default).Stmts).getD j_57.toNat default).Def))]] (fun G => xA (AsV sl45 sz45 [.string (bs ((((((p.Funcs.getD i_15.toNat default).Blocks).getD k_32.toNat default).Stmts).getD j_57.toNat default).Def))] [.string (bs ((((((p.Funcs.getD i_15.toNat default).Blocks).getD k_32.toNat default).Stmts).getD j_57.toNat default).Def))])) (Dv [] Vm (Dv [] Vm (Dv [4] (Vi sl42 0) (Dv [0] (Vfa fo47_2 0) ?_)))))))))
     refine Dv [0] (VldF sh45 0) ?_
     have hn87 : ([(((((p.Funcs.getD i_15.toNat default).Blocks).getD k_32.toNat default).Stmts).getD j_57.toNat default).Def] ++ (((((p.Funcs.getD i_15.toNat default).Blocks).getD k_32.toNat default).Stmts).getD j_57.toNat default).Uses : List Str).length = 1 + ((((((p.Funcs.getD i_15.toNat default).Blocks).getD k_32.toNat default).Stmts).getD j_57.toNat default).Uses).length := la ([(((((p.Funcs.getD i_15.toNat default).Blocks).getD k_32.toNat default).Stmts).getD j_57.toNat default).Def] : List Str) ((((((p.Funcs.getD i_15.toNat default).Blocks).getD k_32.toNat default).Stmts).getD j_57.toNat default).Uses)
     refine Dx [1, 7] [7] [1, 0] (fun G => (G.g 11 0)) [fun G => os (G.g 11 0) (([(((((p.Funcs.getD i_15.toNat default).Blocks).getD k_32.toNat default).Stmts).getD j_57.toNat default).Def] ++ (((((p.Funcs.getD i_15.toNat default).Blocks).getD k_32.toNat default).Stmts).getD j_57.toNat default).Uses) : List Str)] (fun G => xp [1] rfl (Ent.cr1 (α := Str) (A := []) _ ((((((p.Funcs.getD i_15.toNat default).Blocks).getD k_32.toNat default).Stmts).getD j_57.toNat default).Def) _ aB1 (fun _ => ⟨rfl, aS1⟩)) (xA (Ap [0, 0] sl45 sl45 sz45))) (Dg [] (fun G => (G.g 11 0)) (fun G => Va) ?_)
     refine Dn ⟨by kernel_rfl, fun G => ?_⟩
     refine Jw2 [(1, p2), (3, vl a58 k59 out_56), (4, vi i_15), (5, vi k_32), (6, .slice a51 (((((p.Funcs.getD i_15.toNat default).Blocks).getD k_32.toNat default).Stmts).length) k52), (7, vi j_57), (8, (G.g 11 0))] [0, 1, 2, 3, 4, 5, 6] [os (G.g 11 0) (([(((((p.Funcs.getD i_15.toNat default).Blocks).getD k_32.toNat default).Stmts).getD j_57.toNat default).Def] ++ (((((p.Funcs.getD i_15.toNat default).Blocks).getD k_32.toNat default).Stmts).getD j_57.toNat default).Uses) : List Str)] ?_
     generalize G.g 11 0 = c86
     refine Jo 7 ?_; rintro a88 k89 rfl
     refine Fb 16 7 fun _ => ?_
     refine FoS 7 fun ho91 => ?_
     refine KS ?_
     refine Oq Va (KS ?_)
     refine Kl (γ := Nat × List Str × Int × Option Addr × Nat) (fun (r92, out_93, n_94, a95, k96) => ⟨[(1, p2), (3, vl a95 k96 out_93), (4, vi i_15), (5, vi k_32), (6, .slice a51 (((((p.Funcs.getD i_15.toNat default).Blocks).getD k_32.toNat default).Stmts).length) k52), (7, vi j_57), (8, .slice a88 (([(((((p.Funcs.getD i_15.toNat default).Blocks).getD k_32.toNat default).Stmts).getD j_57.toNat default).Def] ++ (((((p.Funcs.getD i_15.toNat default).Blocks).getD k_32.toNat default).Stmts).getD j_57.toNat default).Uses).length) k89), (9, vi n_94)], [O a95 k96 out_93, S a51 k52 ((((p.Funcs.getD i_15.toNat default).Blocks).getD k_32.toNat default).Stmts), pv p2 [vl pa0 pk0 p.Funcs], S pa0 pk0 p.Funcs, O a88 k89 (([(((((p.Funcs.getD i_15.toNat default).Blocks).getD k_32.toNat default).Stmts).getD j_57.toNat default).Def] ++ (((((p.Funcs.getD i_15.toNat default).Blocks).getD k_32.toNat default).Stmts).getD j_57.toNat default).Uses) : List Str)], r4_Variables_L3 ([(((((p.Funcs.getD i_15.toNat default).Blocks).getD k_32.toNat default).Stmts).getD j_57.toNat default).Def] ++ (((((p.Funcs.getD i_15.toNat default).Blocks).getD k_32.toNat default).Stmts).getD j_57.toNat default).Uses) r92 out_93 n_94 = r4_Variables_L3 ([(((((p.Funcs.getD i_15.toNat default).Blocks).getD k_32.toNat default).Stmts).getD j_57.toNat default).Def] ++ (((((p.Funcs.getD i_15.toNat default).Blocks).getD k_32.toNat default).Stmts).getD j_57.toNat default).Uses) ((((([(((((p.Funcs.getD i_15.toNat default).Blocks).getD k_32.toNat default).Stmts).getD j_57.toNat default).Def] ++ (((((p.Funcs.getD i_15.toNat default).Blocks).getD k_32.toNat default).Stmts).getD j_57.toNat default).Uses).length : Int) : Int) - 0).toNat) out_56 0 ∧ r92 = (((([(((((p.Funcs.getD i_15.toNat default).Blocks).getD k_32.toNat default).Stmts).getD j_57.toNat default).Def] ++ (((((p.Funcs.getD i_15.toNat default).Blocks).getD k_32.toNat default).Stmts).getD j_57.toNat default).Uses).length : Int) : Int) - n_94).toNat ∧ (0 : Int) ≤ n_94 ∧ (n_94 ≤ (([(((((p.Funcs.getD i_15.toNat default).Blocks).getD k_32.toNat default).Stmts).getD j_57.toNat default).Def] ++ (((((p.Funcs.getD i_15.toNat default).Blocks).getD k_32.toNat default).Stmts).getD j_57.toNat default).Uses).length : Int) ∨ n_94 = 0) ∧ (-9223372036854775808 ≤ n_94 ∧ n_94 ≤ 9223372036854775807) ∧ ((out_93.length : Int) ≤ (out_56.length : Int) + n_94), r92⟩) ((((([(((((p.Funcs.getD i_15.toNat default).Blocks).getD k_32.toNat default).Stmts).getD j_57.toNat default).Def] ++ (((((p.Funcs.getD i_15.toNat default).Blocks).getD k_32.toNat default).Stmts).getD j_57.toNat default).Uses).length : Int) : Int) - 0).toNat, out_56, 0, a58, k59) [3, 3, 4, 5, 6] ⟨rfl, rfl, aM1, (.inr rfl), aM1, iv0⟩ ?_
     rintro ⟨r92, out_93, n_94, a95, k96⟩ ⟨hM97, hr98, hi99, hi100, hk101, hv102⟩
     refine JJ_nx fun _ _ hL hA => ?_; dsimp only at hL hA; subst hL hA
     refine Fb 16 0 fun _ => ?_
     refine FoS 0 fun ho104 => ?_
     refine Fb 72 1 fun _ => Fb 40 3 fun _ => Fb 16 4 fun _ => ?_
     refine FoS 4 fun ho108 => ?_
     refine KS ?_
     refine Oq Vm (Oq Vm (Oq (Vlen sl45) (Oq Vlss (KS ?_))))
     refine Kc ?_ ?_
     ·intro h109
      have g110 := dt h109
      obtain ⟨r111, rfl⟩ := scc (n := r92) aM1
      refine KS ?_
      refine Oq Vm (Oq Vm (Oq Vm (Oq (Vi sl45 4) ?_)))
      have hb112 := okS (i := n_94.toNat) ho108 rng
      refine Oq (VldS sh9 4) ?_
      refine letv (r4_Place out_93 (([(((((p.Funcs.getD i_15.toNat default).Blocks).getD k_32.toNat default).Stmts).getD j_57.toNat default).Def] ++ (((((p.Funcs.getD i_15.toNat default).Blocks).getD k_32.toNat default).Stmts).getD j_57.toNat default).Uses).getD n_94.toNat default)) fun rv113 hg114 => ?_
      refine Oc [0] ca40 (FT_borrow (A := _) (fun _ _ h => by cases h) (FT_ent (Ent.take (is := [0]) rfl) (fn40 out_93 a95 k96 ((([(((((p.Funcs.getD i_15.toNat default).Blocks).getD k_32.toNat default).Stmts).getD j_57.toNat default).Def] ++ (((((p.Funcs.getD i_15.toNat default).Blocks).getD k_32.toNat default).Stmts).getD j_57.toNat default).Uses).getD n_94.toNat default)) pre rv113 hg114))) ?_ (ht := rfl)
      rintro - he115
      unfold i64ok at he115
      refine Oq Vlss (KS ?_)
      refine Kc ?_ ?_
      ·intro h116
       have g117 := dt h116
       refine KS ?_
       refine Oq Vm (Oq Vm (Oq Vm (Oq (Vi sl45 4) ?_)))
       have hb118 := okS (i := n_94.toNat) ho108 rng
       refine Oq (VldS sh9 4) (Oa (AsV sl45 sz45 [.string (bs (([(((((p.Funcs.getD i_15.toNat default).Blocks).getD k_32.toNat default).Stmts).getD j_57.toNat default).Def] ++ (((((p.Funcs.getD i_15.toNat default).Blocks).getD k_32.toNat default).Stmts).getD j_57.toNat default).Uses).getD n_94.toNat default))] [.string (bs (([(((((p.Funcs.getD i_15.toNat default).Blocks).getD k_32.toNat default).Stmts).getD j_57.toNat default).Def] ++ (((((p.Funcs.getD i_15.toNat default).Blocks).getD k_32.toNat default).Stmts).getD j_57.toNat default).Uses).getD n_94.toNat default))]) fun c119 => ?_)
       refine Jo 0 ?_; rintro a120 k121 rfl
       refine Jl [0] (Ent.cr1 (α := Str) (A := []) _ (([(((((p.Funcs.getD i_15.toNat default).Blocks).getD k_32.toNat default).Stmts).getD j_57.toNat default).Def] ++ (((((p.Funcs.getD i_15.toNat default).Blocks).getD k_32.toNat default).Stmts).getD j_57.toNat default).Uses).getD n_94.toNat default) _ aB1 (fun _ => ⟨rfl, aS1⟩)) ?_
       refine Oa (ApO [1, 0] sl45 sl45 sz45) fun c122 => ?_
       refine Jo 0 ?_; rintro a123 k124 rfl
       refine Fb 16 0 fun _ => ?_
       refine FoS 0 fun ho126 => ?_
       have hn127 := la out_93 ([(([(((((p.Funcs.getD i_15.toNat default).Blocks).getD k_32.toNat default).Stmts).getD j_57.toNat default).Def] ++ (((((p.Funcs.getD i_15.toNat default).Blocks).getD k_32.toNat default).Stmts).getD j_57.toNat default).Uses).getD n_94.toNat default)] : List Str)
       refine Oq Va (KS ?_)
       refine Oq Vm (Oq Vadd (Oq Va (KS ?_)))
       exact Kg (r111, (out_93 ++ [(([(((((p.Funcs.getD i_15.toNat default).Blocks).getD k_32.toNat default).Stmts).getD j_57.toNat default).Def] ++ (((((p.Funcs.getD i_15.toNat default).Blocks).getD k_32.toNat default).Stmts).getD j_57.toNat default).Uses).getD n_94.toNat default)]), (n_94 + 1), a123, k124) [0, 0, 1, 2, 3] ⟨(q3 hM97 (by simp only [r4_Variables_L3, h6, h11, h27, h48, h70, h83, h109, h116, hg4, hg114, cs4])), aM1, aM1, aM1, aM1, iv1⟩
      intro h116
      have g128 := df h116
      refine KS ?_
      refine Oq Vm (Oq Vadd (Oq Va (KS ?_)))
      exact Kg (r111, out_93, (n_94 + 1), a95, k96) [0, 0, 1, 2, 3] ⟨(q3 hM97 (by simp only [r4_Variables_L3, h6, h11, h27, h48, h70, h83, h109, h116, hg4, hg114, cs4])), aM1, aM1, aM1, aM1, iv1⟩
     intro h109
     have g129 := df h109
     obtain rfl : r92 = 0 := by omega
     refine Ke ?_
     have hR130 := q2 hM97 out_93 (by simp only [r4_Variables_L3, h6, h11, h27, h48, h70, h83, h109, hg4, cs4])
     refine KS ?_
     refine Oq Vm (Oq Vadd (Oq Va (KS ?_)))
     exact Kg (r72, out_93, (j_57 + 1), a95, k96) [0, 0, 1, 2] ⟨(q3 hM60 (by simp only [r4_Variables_L2, h6, h11, h27, h48, h70, h83, h109, hg4, hR130, cs4])), aM1, aM1, aM1, aM1, iv1⟩
    intro h83
    have g131 := eq_of_bne_false h83
    refine KS ?_
    refine Oq Va (KS ?_)
    refine Kl (γ := Nat × List Str × Int × Option Addr × Nat) (fun (r132, out_133, n_134, a135, k136) => ⟨[(1, p2), (3, vl a135 k136 out_133), (4, vi i_15), (5, vi k_32), (6, .slice a51 (((((p.Funcs.getD i_15.toNat default).Blocks).getD k_32.toNat default).Stmts).length) k52), (7, vi j_57), (8, .slice a73 (((((((p.Funcs.getD i_15.toNat default).Blocks).getD k_32.toNat default).Stmts).getD j_57.toNat default).Uses).length) k74), (9, vi n_134)], [O a135 k136 out_133, S a73 k74 ((((((p.Funcs.getD i_15.toNat default).Blocks).getD k_32.toNat default).Stmts).getD j_57.toNat default).Uses), S a51 k52 ((((p.Funcs.getD i_15.toNat default).Blocks).getD k_32.toNat default).Stmts), pv p2 [vl pa0 pk0 p.Funcs], S pa0 pk0 p.Funcs], r4_Variables_L3 ((((((p.Funcs.getD i_15.toNat default).Blocks).getD k_32.toNat default).Stmts).getD j_57.toNat default).Uses) r132 out_133 n_134 = r4_Variables_L3 ((((((p.Funcs.getD i_15.toNat default).Blocks).getD k_32.toNat default).Stmts).getD j_57.toNat default).Uses) ((((((((((p.Funcs.getD i_15.toNat default).Blocks).getD k_32.toNat default).Stmts).getD j_57.toNat default).Uses).length : Int) : Int) - 0).toNat) out_56 0 ∧ r132 = (((((((((p.Funcs.getD i_15.toNat default).Blocks).getD k_32.toNat default).Stmts).getD j_57.toNat default).Uses).length : Int) : Int) - n_134).toNat ∧ (0 : Int) ≤ n_134 ∧ (n_134 ≤ (((((((p.Funcs.getD i_15.toNat default).Blocks).getD k_32.toNat default).Stmts).getD j_57.toNat default).Uses).length : Int) ∨ n_134 = 0) ∧ (-9223372036854775808 ≤ n_134 ∧ n_134 ≤ 9223372036854775807) ∧ ((out_133.length : Int) ≤ (out_56.length : Int) + n_134), r132⟩) ((((((((((p.Funcs.getD i_15.toNat default).Blocks).getD k_32.toNat default).Stmts).getD j_57.toNat default).Uses).length : Int) : Int) - 0).toNat, out_56, 0, a58, k59) [3, 1, 3, 4, 5] ⟨rfl, rfl, aM1, (.inr rfl), aM1, iv0⟩ ?_
    rintro ⟨r132, out_133, n_134, a135, k136⟩ ⟨hM137, hr138, hi139, hi140, hk141, hv142⟩
    refine JJ_nx fun _ _ hL hA => ?_; dsimp only at hL hA; subst hL hA
    refine Fb 16 0 fun _ => ?_
    refine FoS 0 fun ho144 => ?_
    refine Fb 16 1 fun _ => ?_
    refine FoS 1 fun ho146 => ?_
    refine Fb 72 2 fun _ => Fb 40 4 fun _ => KS ?_
    refine Oq Vm (Oq Vm (Oq (Vlen sl45) (Oq Vlss (KS ?_))))
    refine Kc ?_ ?_
    ·intro h149
     have g150 := dt h149
     obtain ⟨r151, rfl⟩ := scc (n := r132) aM1
     refine KS ?_
     refine Oq Vm (Oq Vm (Oq Vm (Oq (Vi sl45 1) ?_)))
     have hb152 := okS (i := n_134.toNat) ho146 rng
     refine Oq (VldS sh9 1) ?_
     refine letv (r4_Place out_133 (((((((p.Funcs.getD i_15.toNat default).Blocks).getD k_32.toNat default).Stmts).getD j_57.toNat default).Uses).getD n_134.toNat default)) fun rv153 hg154 => ?_
     refine Oc [0] ca40 (FT_borrow (A := _) (fun _ _ h => by cases h) (FT_ent (Ent.take (is := [0]) rfl) (fn40 out_133 a135 k136 ((((((((p.Funcs.getD i_15.toNat default).Blocks).getD k_32.toNat default).Stmts).getD j_57.toNat default).Uses).getD n_134.toNat default)) pre rv153 hg154))) ?_ (ht := rfl)
     rintro - he155
     unfold i64ok at he155
     refine Oq Vlss (KS ?_)
     refine Kc ?_ ?_
     ·intro h156
      have g157 := dt h156
      refine KS ?_
      refine Oq Vm (Oq Vm (Oq Vm (Oq (Vi sl45 1) ?_)))
      have hb158 := okS (i := n_134.toNat) ho146 rng
      refine Oq (VldS sh9 1) (Oa (AsV sl45 sz45 [.string (bs (((((((p.Funcs.getD i_15.toNat default).Blocks).getD k_32.toNat default).Stmts).getD j_57.toNat default).Uses).getD n_134.toNat default))] [.string (bs (((((((p.Funcs.getD i_15.toNat default).Blocks).getD k_32.toNat default).Stmts).getD j_57.toNat default).Uses).getD n_134.toNat default))]) fun c159 => ?_)
      refine Jo 0 ?_; rintro a160 k161 rfl
      refine Jl [0] (Ent.cr1 (α := Str) (A := []) _ (((((((p.Funcs.getD i_15.toNat default).Blocks).getD k_32.toNat default).Stmts).getD j_57.toNat default).Uses).getD n_134.toNat default) _ aB1 (fun _ => ⟨rfl, aS1⟩)) ?_
      refine Oa (ApO [1, 0] sl45 sl45 sz45) fun c162 => ?_
      refine Jo 0 ?_; rintro a163 k164 rfl
      refine Fb 16 0 fun _ => ?_
      refine FoS 0 fun ho166 => ?_
      have hn167 := la out_133 ([(((((((p.Funcs.getD i_15.toNat default).Blocks).getD k_32.toNat default).Stmts).getD j_57.toNat default).Uses).getD n_134.toNat default)] : List Str)
      refine Oq Va (KS ?_)
      refine Oq Vm (Oq Vadd (Oq Va (KS ?_)))
      exact Kg (r151, (out_133 ++ [(((((((p.Funcs.getD i_15.toNat default).Blocks).getD k_32.toNat default).Stmts).getD j_57.toNat default).Uses).getD n_134.toNat default)]), (n_134 + 1), a163, k164) [0, 0, 1, 2, 3] ⟨(q3 hM137 (by simp only [r4_Variables_L3, h6, h11, h27, h48, h70, h83, h149, h156, hg4, hg154, cs4])), aM1, aM1, aM1, aM1, iv1⟩
     intro h156
     have g168 := df h156
     refine KS ?_
     refine Oq Vm (Oq Vadd (Oq Va (KS ?_)))
     exact Kg (r151, out_133, (n_134 + 1), a135, k136) [0, 0, 1, 2, 3] ⟨(q3 hM137 (by simp only [r4_Variables_L3, h6, h11, h27, h48, h70, h83, h149, h156, hg4, hg154, cs4])), aM1, aM1, aM1, aM1, iv1⟩
    intro h149
    have g169 := df h149
    obtain rfl : r132 = 0 := by omega
    refine Ke ?_
    have hR170 := q2 hM137 out_133 (by simp only [r4_Variables_L3, h6, h11, h27, h48, h70, h83, h149, hg4, cs4])
    refine KS ?_
    refine Oq Vm (Oq Vadd (Oq Va (KS ?_)))
    exact Kg (r72, out_133, (j_57 + 1), a135, k136) [0, 1, 2, 3] ⟨(q3 hM60 (by simp only [r4_Variables_L2, h6, h11, h27, h48, h70, h83, h149, hg4, hR170, cs4])), aM1, aM1, aM1, aM1, iv1⟩
   intro h70
   have g171 := df h70
   obtain rfl : r55 = 0 := by omega
   refine Ke ?_
   have hR172 := q2 hM60 out_56 (by simp only [r4_Variables_L2, h6, h11, h27, h48, h70, hg4, cs4])
   refine KS ?_
   refine Oq Vm (Oq Vadd (Oq Va (KS ?_)))
   exact Kg (r50, out_56, (k_32 + 1), a58, k59) [0, 1, 2] ⟨(q3 hM35 (by simp only [r4_Variables_L1, h6, h11, h27, h48, h70, hg4, hR172, cs4])), aM1, aM1, aM1, aM1, iv1⟩
  intro h48
  have g173 := df h48
  obtain rfl : r30 = 0 := by omega
  refine Ke ?_
  have hR174 := q2 hM35 out_31 (by simp only [r4_Variables_L1, h6, h11, h27, h48, hg4, cs4])
  refine KS ?_
  refine Oq Vm (Oq Vadd (Oq Va (KS ?_)))
  exact Kg (r29, out_31, (i_15 + 1), a33, k34) [2, 2, 3] ⟨(q3 hM18 (by simp only [r4_Variables_L0, h6, h11, h27, h48, hg4, hR174, cs4])), aM1, aM1, aM1, aM1, iv1⟩
 intro h27
 have g175 := df h27
 obtain rfl : r13 = 0 := by omega
 refine Ke ?_
 have hR176 := q2 hM18 out_14 (by simp only [r4_Variables_L0, h6, h11, h27, hg4, cs4])
 refine KS ?_
 refine Oq Vm (Oq Va (KS ?_))
 refine Jl [0] (Ent.freeze _ _) ?_
 have hq := q4 hrr out_14 (by simp only [r4_Variables, h6, h11, h27, hg4, hR176, cs4]); subst hq
 exact Kr (vl a16 k17 out_14) rfl (.tmp rfl .nil) [0] trivial
theorem fn50 (l : List Str) (la0 : Option Addr) (lk0 : Nat) (rr : Int) (hrr : r4_repeated l = rr) : FT Tryz.prog 50 #[vl la0 lk0 l] [S la0 lk0 l] (fun g : Unit => i64ok rr) (fun g => vi rr) (fun g => []) := by
 refine FTi Tryz.func50 fun w0 M0 F0 => Fb 16 0 fun _ => ?_
 refine FoS 0 fun ho2 => ?_
 refine KS ?_
 refine Oq Va (KS ?_)
 refine Oq Va (KS ?_)
 refine Kl (γ := Nat × Int) (fun (r3, i_4) => ⟨[(0, vl la0 lk0 l), (3, vi i_4)], [S la0 lk0 l], r4_repeated_L0 l r3 i_4 = r4_repeated_L0 l (((l.length : Int) - 0).toNat) 0 ∧ r3 = ((l.length : Int) - i_4).toNat ∧ (0 : Int) ≤ i_4 ∧ i_4 ≤ (l.length : Int) ∧ (-9223372036854775808 ≤ i_4 ∧ i_4 ≤ 9223372036854775807), r3⟩) (((l.length : Int) - 0).toNat, 0) [0] ⟨rfl, rfl, aM1, aM1, aM1⟩ ?_
 rintro ⟨r3, i_4⟩ ⟨hM5, hr6, hi7, hi8, hk9⟩
 refine JJ_nx fun _ _ hL hA => ?_; dsimp only at hL hA; subst hL hA
 refine Fb 16 0 fun _ => ?_
 refine FoS 0 fun ho11 => ?_
 refine KS ?_
 refine Oq Vm (Oq Vm (Oq (Vlen sl45) (Oq Vlss (KS ?_))))
 refine Kc ?_ ?_
 ·intro h12
  have g13 := dt h12
  obtain ⟨r14, rfl⟩ := scc (n := r3) aM1
  refine KS ?_
  refine JK_drawK [0, 0, 3, 0, 0, 24, 56, 127, 255] fmix ?_
  refine Dv [] Vm (Dv [] Vm (Dx [0] [] [1, 0] (fun G => (G.g 2 0)) [fun G => sl (G.g 2 0) ((l.take (i_4.toNat)).drop 0)] (fun G => xA (Asl [0] sl45 0 (i_4.toNat))) (Dv [] Vm (Dv [] Vm (Dv [0] (Vi sl45 0) ?_)))))
  have hb16 := okS (i := i_4.toNat) ho11 rng
  refine Dv [0] (VldS sh9 0) ?_
  refine letv (r4_Place ((l.take (i_4.toNat)).drop 0) (l.getD i_4.toNat default)) fun rv20 hg21 => ?_
  refine Dx [1] [] [1, 0] (fun G => vi rv20) [fun G => SP.fact (i64ok rv20)] (fun G => xD [0] ca40 rfl rfl rfl (FT_open (γ := Unit) (I := fun g => i64ok rv20) (V := fun g => vi rv20) (B := fun g => []) (R := sl (G.g 2 0) ((l.take (i_4.toNat)).drop 0)) sl_slice (fun aq17 kq18 eq19 => by rw [eq19]; exact FT_ent (Ent.take (is := [0]) rfl) (fn40 (((l.take (i_4.toNat)).drop 0)) aq17 kq18 ((l.getD i_4.toNat default)) pre rv20 hg21)))) (Dv [] Vgeq ?_)
  refine Dn ⟨by kernel_rfl, fun G => ?_⟩
  refine Jw2 [(0, vl la0 lk0 l), (3, vi i_4), (18, vb (decide (0 ≤ rv20)))] [0] [sl (G.g 2 0) ((l.take (i_4.toNat)).drop 0), SP.fact (i64ok rv20)] ?_
  generalize G.g 2 0 = c15
  refine Jf 2 rfl ?_; rintro he22
  unfold i64ok at he22
  refine Jk [0, 1] ?_
  refine Jo 1 ?_; rintro a23 k24 rfl
  refine Fb 16 1 fun _ => ?_
  refine FoS 1 fun ho26 => ?_
  refine Kc ?_ ?_
  ·intro h27
   have g28 := dt h27
   refine KS ?_
   refine Oq Vm (Oq Va (KS ?_))
   have hR29 := q2 hM5 (.ret i_4) (by simp only [r4_repeated_L0, h12, h27, hg21, cs4])
   have hq := q4 hrr i_4 (by simp only [r4_repeated, h12, h27, hg21, hR29, cs4]); subst hq
   exact Kr () rfl (.tmp rfl .nil) [] en
  intro h27
  have g30 := df h27
  refine KS ?_
  refine Oq Vm (Oq Vadd (Oq Va (KS ?_)))
  exact Kg (r14, (i_4 + 1)) [0] ⟨(q3 hM5 (by simp only [r4_repeated_L0, h12, h27, hg21, cs4])), aM1, aM1, aM1, aM1⟩
 intro h12
 have g31 := df h12
 obtain rfl : r3 = 0 := by omega
 refine Ke ?_
 have hR32 := q2 hM5 (.brk ()) (by simp only [r4_repeated_L0, h12, cs4])
 refine KS ?_
 refine Oq Va (KS ?_)
 have hq := q4 hrr (-1) (by simp only [r4_repeated, h12, hR32, cs4]); subst hq
 exact Kr () rfl (.tmp rfl .nil) [] en
theorem fn51 (p : GProgram) (pa0 : Option Addr) (pk0 : Nat) (rr : List Str) (hrr : r4_funcNames p = rr) : FT Tryz.prog 51 #[.agg #[vl pa0 pk0 p.Funcs]] [S pa0 pk0 p.Funcs] (fun g : Value => True) (fun g => g) (fun g => [sl g rr]) := by
 refine FTi Tryz.func51 fun w0 M0 F0 => Fb 40 0 fun _ => ?_
 refine KS ?_
 refine Oa (Ab [vl pa0 pk0 p.Funcs]) fun p2 => Oq Va (KS ?_)
 refine Oq Va (KS ?_)
 refine Oq Va (KS ?_)
 refine Jl [] (Ent.osNil (α := Str)) ?_
 refine Kl (γ := Nat × List Str × Int × Option Addr × Nat) (fun (r3, out_4, i_5, a6, k7) => ⟨[(1, p2), (3, vl a6 k7 out_4), (4, vi i_5)], [O a6 k7 out_4, pv p2 [vl pa0 pk0 p.Funcs], S pa0 pk0 p.Funcs], r4_funcNames_L0 p r3 out_4 i_5 = r4_funcNames_L0 p (((p.Funcs.length : Int) - 0).toNat) [] 0 ∧ r3 = ((p.Funcs.length : Int) - i_5).toNat ∧ (0 : Int) ≤ i_5 ∧ i_5 ≤ (p.Funcs.length : Int) ∧ (-9223372036854775808 ≤ i_5 ∧ i_5 ≤ 9223372036854775807) ∧ ((out_4.length : Int) ≤ i_5), r3⟩) (((p.Funcs.length : Int) - 0).toNat, [], 0, none, 0) [0, 0, 1] ⟨rfl, rfl, aM1, aM1, aM1, iv0⟩ ?_
 rintro ⟨r3, out_4, i_5, a6, k7⟩ ⟨hM8, hr9, hi10, hi11, hk12, hv13⟩
 refine JJ_nx fun _ _ hL hA => ?_; dsimp only at hL hA; subst hL hA
 refine Fb 16 0 fun _ => ?_
 refine FoS 0 fun ho15 => ?_
 refine Fb 40 2 fun _ => KS ?_
 refine Oq Vm (Oq (Vfa fo25_0 1) (Oq (VldF sh23 1) (Oq (Vlen sl23) (Oq Vlss (KS ?_)))))
 refine Kc ?_ ?_
 ·intro h17
  have g18 := dt h17
  obtain ⟨r19, rfl⟩ := scc (n := r3) aM1
  refine KS ?_
  refine Oq Vm (Oq (Vfa fo25_0 1) (Oq (VldF sh23 1) (Oq Vm (Oq (Vi sl23 2) ?_))))
  refine JJ_peek_GFunc i_5.toNat 2 rfl rng fun a20 k21 hb22 => ?_
  refine Fb 40 1 fun _ => ?_
  refine Oq (Vfa fo41_0 0) (Oq (VldF sh9 0) (Oa (AsV sl45 sz45 [.string (bs ((p.Funcs.getD i_5.toNat default).Name))] [.string (bs ((p.Funcs.getD i_5.toNat default).Name))]) fun c24 => ?_))
  refine Jo 0 ?_; rintro a25 k26 rfl
  refine Jl [0] (Ent.cr1 (α := Str) (A := []) _ ((p.Funcs.getD i_5.toNat default).Name) _ aB1 (fun _ => ⟨rfl, aS1⟩)) ?_
  refine Oa (ApO [3, 0] sl45 sl45 sz45) fun c27 => ?_
  refine Jo 0 ?_; rintro a28 k29 rfl
  refine Fb 16 0 fun _ => ?_
  refine FoS 0 fun ho31 => ?_
  have hn32 := la out_4 ([(p.Funcs.getD i_5.toNat default).Name] : List Str)
  refine Oq Va (KS ?_)
  refine Oq Vm (Oq Vadd (Oq Va (KS ?_)))
  exact Kg (r19, (out_4 ++ [(p.Funcs.getD i_5.toNat default).Name]), (i_5 + 1), a28, k29) [0, 2, 3] ⟨(q3 hM8 (by simp only [r4_funcNames_L0, h17, cs4])), aM1, aM1, aM1, aM1, iv1⟩
 intro h17
 have g33 := df h17
 obtain rfl : r3 = 0 := by omega
 refine Ke ?_
 have hR34 := q2 hM8 out_4 (by simp only [r4_funcNames_L0, h17, cs4])
 refine KS ?_
 refine Oq Vm (Oq Va (KS ?_))
 refine Jl [0] (Ent.freeze _ _) ?_
 have hq := q4 hrr out_4 (by simp only [r4_funcNames, h17, hR34, cs4]); subst hq
 exact Kr (vl a6 k7 out_4) rfl (.tmp rfl .nil) [0] trivial
theorem fn52 (f : GFunc) (fa1 : Option Addr) (fk1 : Nat) (hf_0 : f.Name.b.length ≤ 140737488355328) (rr : List Str) (hrr : r4_BlockNames f = rr) : FT Tryz.prog 52 #[.agg #[.string (bs f.Name), vl fa1 fk1 f.Blocks]] [S fa1 fk1 f.Blocks] (fun g : Value => True) (fun g => g) (fun g => [sl g rr]) := by
 refine FTi Tryz.func52 fun w0 M0 F0 => Fb 40 0 fun _ => ?_
 refine KS ?_
 refine Oa (Ab [.string (bs f.Name), vl fa1 fk1 f.Blocks]) fun p2 => Oq Va (KS ?_)
 refine Oq Va (KS ?_)
 refine Oq Va (KS ?_)
 refine Jl [] (Ent.osNil (α := Str)) ?_
 refine Kl (γ := Nat × List Str × Int × Option Addr × Nat) (fun (r3, out_4, k_5, a6, k7) => ⟨[(1, p2), (3, vl a6 k7 out_4), (4, vi k_5)], [O a6 k7 out_4, pv p2 [.string (bs f.Name), vl fa1 fk1 f.Blocks], S fa1 fk1 f.Blocks], r4_BlockNames_L0 f r3 out_4 k_5 = r4_BlockNames_L0 f (((f.Blocks.length : Int) - 0).toNat) [] 0 ∧ r3 = ((f.Blocks.length : Int) - k_5).toNat ∧ (0 : Int) ≤ k_5 ∧ k_5 ≤ (f.Blocks.length : Int) ∧ (-9223372036854775808 ≤ k_5 ∧ k_5 ≤ 9223372036854775807) ∧ ((out_4.length : Int) ≤ k_5), r3⟩) (((f.Blocks.length : Int) - 0).toNat, [], 0, none, 0) [0, 0, 1] ⟨rfl, rfl, aM1, aM1, aM1, iv0⟩ ?_
 rintro ⟨r3, out_4, k_5, a6, k7⟩ ⟨hM8, hr9, hi10, hi11, hk12, hv13⟩
 refine JJ_nx fun _ _ hL hA => ?_; dsimp only at hL hA; subst hL hA
 refine Fb 16 0 fun _ => ?_
 refine FoS 0 fun ho15 => ?_
 refine Fb 40 2 fun _ => KS ?_
 refine Oq Vm (Oq (Vfa fo41_1 1) (Oq (VldF sh39 1) (Oq (Vlen sl39) (Oq Vlss (KS ?_)))))
 refine Kc ?_ ?_
 ·intro h17
  have g18 := dt h17
  obtain ⟨r19, rfl⟩ := scc (n := r3) aM1
  refine KS ?_
  refine Oq Vm (Oq (Vfa fo41_1 1) (Oq (VldF sh39 1) (Oq Vm (Oq (Vi sl39 2) ?_))))
  refine JJ_peek_GBlock k_5.toNat 2 rfl rng fun a20 k21 hb22 => ?_
  refine Fb 72 1 fun _ => ?_
  refine Oq (Vfa fo44_0 0) (Oq (VldF sh9 0) (Oa (AsV sl45 sz45 [.string (bs ((f.Blocks.getD k_5.toNat default).Name))] [.string (bs ((f.Blocks.getD k_5.toNat default).Name))]) fun c24 => ?_))
  refine Jo 0 ?_; rintro a25 k26 rfl
  refine Jl [0] (Ent.cr1 (α := Str) (A := []) _ ((f.Blocks.getD k_5.toNat default).Name) _ aB1 (fun _ => ⟨rfl, aS1⟩)) ?_
  refine Oa (ApO [3, 0] sl45 sl45 sz45) fun c27 => ?_
  refine Jo 0 ?_; rintro a28 k29 rfl
  refine Fb 16 0 fun _ => ?_
  refine FoS 0 fun ho31 => ?_
  have hn32 := la out_4 ([(f.Blocks.getD k_5.toNat default).Name] : List Str)
  refine Oq Va (KS ?_)
  refine Oq Vm (Oq Vadd (Oq Va (KS ?_)))
  exact Kg (r19, (out_4 ++ [(f.Blocks.getD k_5.toNat default).Name]), (k_5 + 1), a28, k29) [0, 2, 3] ⟨(q3 hM8 (by simp only [r4_BlockNames_L0, h17, cs4])), aM1, aM1, aM1, aM1, iv1⟩
 intro h17
 have g33 := df h17
 obtain rfl : r3 = 0 := by omega
 refine Ke ?_
 have hR34 := q2 hM8 out_4 (by simp only [r4_BlockNames_L0, h17, cs4])
 refine KS ?_
 refine Oq Vm (Oq Va (KS ?_))
 refine Jl [0] (Ent.freeze _ _) ?_
 have hq := q4 hrr out_4 (by simp only [r4_BlockNames, h17, hR34, cs4]); subst hq
 exact Kr (vl a6 k7 out_4) rfl (.tmp rfl .nil) [0] trivial
theorem fn80 (op : Int) (hop_0 : i64ok op) (rr : Bool) (hrr : r4_Terminator op = rr) : FT Tryz.prog 80 #[vi op] [] (fun g : Unit => True) (fun g => vb rr) (fun g => []) := by
 refine FTi Tryz.func80 fun w0 M0 F0 => ?_
 unfold i64ok at hop_0
 refine KS ?_
 refine Oq Va (KS ?_)
 refine Oq Vm (Oq Veql (Oq Vm ?_))
 refine Js 5 ?_ ?_
 ·intro h1
  have g2 := eq_of_beq h1
  refine Osk (Osk (Oq Vpt (Oq Vm (Osk (Osk (Oq Vpt (Oq Va (KS ?_))))))))
  have hq := q4 hrr true (by simp only [r4_Terminator, h1, cs4]); subst hq
  exact Kr () rfl (.tmp rfl .nil) [] trivial
 intro h1
 have g3 := ne_of_beq_false h1
 refine Oq Vm (Oq Veql (Oq Vpf (Oq Vm ?_)))
 refine Js 9 ?_ ?_
 ·intro h4
  have g5 := eq_of_beq h4
  refine Osk (Osk (Oq Vpt (Oq Va (KS ?_))))
  have hq := q4 hrr true (by simp only [r4_Terminator, h1, h4, cs4]); subst hq
  exact Kr () rfl (.tmp rfl .nil) [] trivial
 intro h4
 have g6 := ne_of_beq_false h4
 refine Oq Vm (Oq Veql (Oq Vpf (Oq Va (KS ?_))))
 have hq := q4 hrr (op == 9) (by simp only [r4_Terminator, h1, h4, cs4]); subst hq
 exact Kr () rfl (.tmp rfl .nil) [] trivial
theorem fn53 (p : GProgram) (pa0 : Option Addr) (pk0 : Nat) (f : GFunc) (fa1 : Option Addr) (fk1 : Nat) (s : GStmt) (sa2 : Option Addr) (sk2 : Nat) (sa3 : Option Addr) (sk3 : Nat) (last : Bool) (hf_0 : f.Name.b.length ≤ 140737488355328) (hs_0 : i64ok s.Op) (hs_1 : s.Def.b.length ≤ 140737488355328) (rr : Int) (hrr : r4_stmtErr p f s last = rr) : FT Tryz.prog 53 #[.agg #[vl pa0 pk0 p.Funcs], .agg #[.string (bs f.Name), vl fa1 fk1 f.Blocks], .agg #[vi s.Op, .string (bs s.Def), vl sa2 sk2 s.Uses, vl sa3 sk3 s.Targets], vb last] [S pa0 pk0 p.Funcs, S fa1 fk1 f.Blocks, S sa2 sk2 s.Uses, S sa3 sk3 s.Targets] (fun g : Unit => i64ok rr) (fun g => vi rr) (fun g => []) := by
 refine FTi Tryz.func53 fun w0 M0 F0 => ?_
 unfold i64ok at hs_0
 refine Fb 40 0 fun _ => Fb 40 1 fun _ => Fb 16 2 fun _ => ?_
 refine FoS 2 fun ho4 => ?_
 refine Fb 16 3 fun _ => ?_
 refine FoS 3 fun ho6 => ?_
 refine KS ?_
 refine Oa (Ab [vl pa0 pk0 p.Funcs]) fun p7 => Oa (Ab [.string (bs f.Name), vl fa1 fk1 f.Blocks]) fun p8 => Oa (Ab [vi s.Op, .string (bs s.Def), vl sa2 sk2 s.Uses, vl sa3 sk3 s.Targets]) fun p9 => Oq Va (KS ?_)
 refine Oq (Vfa fo47_0 0) (Oq (VldF sh3 0) ?_)
 refine letv (r4_Terminator s.Op) fun rv10 hg11 => ?_
 have hc12 := fn80 s.Op pre rv10 hg11
 refine Oc [] ca80 hc12 ?_
 rintro - -
 refine Oq Vm (Oq (Vnb un4) (KS ?_))
 refine Kc ?_ ?_
 ·intro h13
  refine KS ?_
  refine Oq Va (KS ?_)
  have hq := q4 hrr 4 (by simp only [r4_stmtErr, h13, hg11, cs4]); subst hq
  exact Kr () rfl (.tmp rfl .nil) [] en
 intro h13
 refine KS ?_
 refine Oq (VldA sh41 1) ?_
 refine letv (r4_BlockNames f) fun rv17 hg18 => ?_
 have hc19 := fn52 f fa1 fk1 pre rv17 hg18
 refine Oc [4] ca52 hc19 ?_
 rintro c16 -
 refine Jo 0 ?_; rintro a20 k21 rfl
 refine Fb 16 0 fun _ => ?_
 refine FoS 0 fun ho23 => ?_
 refine Oq Va (KS ?_)
 refine Oq (Vfa fo47_0 1) (Oq (VldF sh3 1) (Oq Veql (KS ?_)))
 refine Kc ?_ ?_
 ·intro h24
  have g25 := eq_of_beq h24
  refine KS ?_
  refine Oq (VldA sh25 3) ?_
  refine letv (r4_funcNames p) fun rv27 hg28 => ?_
  have hc29 := fn51 p pa0 pk0 rv27 hg28
  refine Oc [4] ca51 hc29 ?_
  rintro c26 -
  refine Jo 0 ?_; rintro a30 k31 rfl
  refine Fb 16 0 fun _ => ?_
  refine FoS 0 fun ho33 => ?_
  refine Oq Va (KS ?_)
  refine Oq Va (KS ?_)
  refine Kl (γ := Nat × Int) (fun (r34, i_35) => ⟨[(6, p9), (9, vl a30 k31 rv27), (10, vi i_35)], [S a30 k31 rv27, pv p9 [vi s.Op, .string (bs s.Def), vl sa2 sk2 s.Uses, vl sa3 sk3 s.Targets], S sa2 sk2 s.Uses, S sa3 sk3 s.Targets], r4_stmtErr_L0 s rv27 r34 i_35 = r4_stmtErr_L0 s rv27 (((s.Targets.length : Int) - 0).toNat) 0 ∧ r34 = ((s.Targets.length : Int) - i_35).toNat ∧ (0 : Int) ≤ i_35 ∧ i_35 ≤ (s.Targets.length : Int) ∧ (-9223372036854775808 ≤ i_35 ∧ i_35 ≤ 9223372036854775807), r34⟩) (((s.Targets.length : Int) - 0).toNat, 0) [0, 2, 7, 8] ⟨rfl, rfl, aM1, aM1, aM1⟩ ?_
  rintro ⟨r34, i_35⟩ ⟨hM36, hr37, hi38, hi39, hk40⟩
  refine JJ_nx fun _ _ hL hA => ?_; dsimp only at hL hA; subst hL hA
  refine Fb 16 0 fun _ => ?_
  refine FoS 0 fun ho42 => ?_
  refine Fb 16 2 fun _ => ?_
  refine FoS 2 fun ho44 => ?_
  refine Fb 16 3 fun _ => ?_
  refine FoS 3 fun ho46 => ?_
  refine KS ?_
  refine Oq Vm (Oq (Vfa fo47_3 1) (Oq (VldF sh45 1) (Oq (Vlen sl45) (Oq Vlss (KS ?_)))))
  refine Kc ?_ ?_
  ·intro h47
   have g48 := dt h47
   obtain ⟨r49, rfl⟩ := scc (n := r34) aM1
   refine KS ?_
   refine Oq Vm (Oq (Vfa fo47_3 1) (Oq (VldF sh45 1) (Oq Vm (Oq (Vi sl45 3) ?_))))
   have hb50 := okS (i := i_35.toNat) ho46 rng
   refine Oq (VldS sh9 3) ?_
   refine letv (r4_Place rv27 (s.Targets.getD i_35.toNat default)) fun rv51 hg52 => ?_
   have hc53 := fn40 rv27 a30 k31 ((s.Targets.getD i_35.toNat default)) pre rv51 hg52
   refine Oc [0] ca40 hc53 ?_
   rintro - he54
   unfold i64ok at he54
   refine Oq Vlss (KS ?_)
   refine Kc ?_ ?_
   ·intro h55
    have g56 := dt h55
    refine KS ?_
    refine Oq Va (KS ?_)
    have hR57 := q2 hM36 (.ret 5) (by simp only [r4_stmtErr_L0, h13, h24, h47, h55, hg11, hg18, hg28, hg52, cs4])
    have hq := q4 hrr 5 (by simp only [r4_stmtErr, h13, h24, h47, h55, hg11, hg18, hg28, hg52, hR57, cs4]); subst hq
    exact Kr () rfl (.tmp rfl .nil) [] en
   intro h55
   have g58 := df h55
   refine KS ?_
   refine Oq Vm (Oq Vadd (Oq Va (KS ?_)))
   exact Kg (r49, (i_35 + 1)) [0, 1, 2, 3] ⟨(q3 hM36 (by simp only [r4_stmtErr_L0, h13, h24, h47, h55, hg11, hg18, hg28, hg52, cs4])), aM1, aM1, aM1, aM1⟩
  intro h47
  have g59 := df h47
  obtain rfl : r34 = 0 := by omega
  refine Ke ?_
  have hR60 := q2 hM36 (.brk ()) (by simp only [r4_stmtErr_L0, h13, h24, h47, hg11, hg18, hg28, cs4])
  refine KS ?_
  refine Oq Va (KS ?_)
  have hq := q4 hrr 0 (by simp only [r4_stmtErr, h13, h24, h47, hg11, hg18, hg28, hR60, cs4]); subst hq
  exact Kr () rfl (.tmp rfl .nil) [] en
 intro h24
 have g61 := ne_of_beq_false h24
 refine KS ?_
 refine Oq Va (KS ?_)
 refine Kl (γ := Nat × Int) (fun (r62, i_63) => ⟨[(6, p9), (9, vl a20 k21 rv17), (10, vi i_63)], [S a20 k21 rv17, pv p9 [vi s.Op, .string (bs s.Def), vl sa2 sk2 s.Uses, vl sa3 sk3 s.Targets], S sa2 sk2 s.Uses, S sa3 sk3 s.Targets], r4_stmtErr_L0 s rv17 r62 i_63 = r4_stmtErr_L0 s rv17 (((s.Targets.length : Int) - 0).toNat) 0 ∧ r62 = ((s.Targets.length : Int) - i_63).toNat ∧ (0 : Int) ≤ i_63 ∧ i_63 ≤ (s.Targets.length : Int) ∧ (-9223372036854775808 ≤ i_63 ∧ i_63 ≤ 9223372036854775807), r62⟩) (((s.Targets.length : Int) - 0).toNat, 0) [0, 1, 6, 7] ⟨rfl, rfl, aM1, aM1, aM1⟩ ?_
 rintro ⟨r62, i_63⟩ ⟨hM64, hr65, hi66, hi67, hk68⟩
 refine JJ_nx fun _ _ hL hA => ?_; dsimp only at hL hA; subst hL hA
 refine Fb 16 0 fun _ => ?_
 refine FoS 0 fun ho70 => ?_
 refine Fb 16 2 fun _ => ?_
 refine FoS 2 fun ho72 => ?_
 refine Fb 16 3 fun _ => ?_
 refine FoS 3 fun ho74 => ?_
 refine KS ?_
 refine Oq Vm (Oq (Vfa fo47_3 1) (Oq (VldF sh45 1) (Oq (Vlen sl45) (Oq Vlss (KS ?_)))))
 refine Kc ?_ ?_
 ·intro h75
  have g76 := dt h75
  obtain ⟨r77, rfl⟩ := scc (n := r62) aM1
  refine KS ?_
  refine Oq Vm (Oq (Vfa fo47_3 1) (Oq (VldF sh45 1) (Oq Vm (Oq (Vi sl45 3) ?_))))
  have hb78 := okS (i := i_63.toNat) ho74 rng
  refine Oq (VldS sh9 3) ?_
  refine letv (r4_Place rv17 (s.Targets.getD i_63.toNat default)) fun rv79 hg80 => ?_
  have hc81 := fn40 rv17 a20 k21 ((s.Targets.getD i_63.toNat default)) pre rv79 hg80
  refine Oc [0] ca40 hc81 ?_
  rintro - he82
  unfold i64ok at he82
  refine Oq Vlss (KS ?_)
  refine Kc ?_ ?_
  ·intro h83
   have g84 := dt h83
   refine KS ?_
   refine Oq Va (KS ?_)
   have hR85 := q2 hM64 (.ret 5) (by simp only [r4_stmtErr_L0, h13, h24, h75, h83, hg11, hg18, hg80, cs4])
   have hq := q4 hrr 5 (by simp only [r4_stmtErr, h13, h24, h75, h83, hg11, hg18, hg80, hR85, cs4]); subst hq
   exact Kr () rfl (.tmp rfl .nil) [] en
  intro h83
  have g86 := df h83
  refine KS ?_
  refine Oq Vm (Oq Vadd (Oq Va (KS ?_)))
  exact Kg (r77, (i_63 + 1)) [0, 1, 2, 3] ⟨(q3 hM64 (by simp only [r4_stmtErr_L0, h13, h24, h75, h83, hg11, hg18, hg80, cs4])), aM1, aM1, aM1, aM1⟩
 intro h75
 have g87 := df h75
 obtain rfl : r62 = 0 := by omega
 refine Ke ?_
 have hR88 := q2 hM64 (.brk ()) (by simp only [r4_stmtErr_L0, h13, h24, h75, hg11, hg18, cs4])
 refine KS ?_
 refine Oq Va (KS ?_)
 have hq := q4 hrr 0 (by simp only [r4_stmtErr, h13, h24, h75, hg11, hg18, hR88, cs4]); subst hq
 exact Kr () rfl (.tmp rfl .nil) [] en
theorem fn54 (p : GProgram) (pa0 : Option Addr) (pk0 : Nat) (rr : Int × Int) (hrr : r4_Sizes p = rr) : FT Tryz.prog 54 #[.agg #[vl pa0 pk0 p.Funcs]] [S pa0 pk0 p.Funcs] (fun g : Unit => i64ok rr.1 ∧ i64ok rr.2) (fun g => .tuple #[vi rr.1, vi rr.2]) (fun g => []) := by
 refine FTi Tryz.func54 fun w0 M0 F0 => Fb 40 0 fun _ => ?_
 refine KS ?_
 refine Oa (Ab [vl pa0 pk0 p.Funcs]) fun p2 => Oq Va (Oq Va (KS ?_))
 refine Oq Va (Oq Va (KS ?_))
 refine Oq (VldA sh25 0) ?_
 refine letv (r4_Valid p) fun rv3 hg4 => ?_
 have hc5 := fn39 p pa0 pk0 rv3 hg4
 refine Oc [1] ca39 hc5 ?_
 rintro - -
 refine Oq Vnot (KS ?_)
 refine Kc ?_ ?_
 ·intro h6
  have h8 := not_true h6
  refine KS ?_
  refine Oq Va (Oq Va (KS ?_))
  have hq := q4 hrr (0, 0) (by simp only [r4_Sizes, h6, h8, hg4, cs4]); subst hq
  exact Kr () rfl (.tmp rfl (.tmp rfl .nil)) [] en
 intro h6
 have h11 := not_false h6
 try have hVb := PVal_b (p := p) (by simp only [h6, h11, hg4])
 refine KS ?_
 refine Oq Va (KS ?_)
 refine Kl (γ := Nat × Int × Int × Int) (fun (r13, nd_14, edges_15, i_16) => ⟨[(1, p2), (4, vi nd_14), (5, vi edges_15), (6, vi i_16)], [pv p2 [vl pa0 pk0 p.Funcs], S pa0 pk0 p.Funcs], r4_Sizes_L0 p r13 nd_14 edges_15 i_16 = r4_Sizes_L0 p (((p.Funcs.length : Int) - 0).toNat) 0 0 0 ∧ r13 = ((p.Funcs.length : Int) - i_16).toNat ∧ (0 : Int) ≤ i_16 ∧ i_16 ≤ (p.Funcs.length : Int) ∧ (-9223372036854775808 ≤ nd_14 ∧ nd_14 ≤ 9223372036854775807) ∧ (-9223372036854775808 ≤ edges_15 ∧ edges_15 ≤ 9223372036854775807) ∧ (-9223372036854775808 ≤ i_16 ∧ i_16 ≤ 9223372036854775807) ∧ (0 ≤ nd_14 ∧ nd_14 ≤ 1100 * i_16 ∧ 0 ≤ edges_15 ∧ edges_15 ≤ 1700 * i_16), r13⟩) (((p.Funcs.length : Int) - 0).toNat, 0, 0, 0) [0, 1] ⟨rfl, rfl, aM1, aM1, aM1, aM1, aM1, iv0⟩ ?_
 rintro ⟨r13, nd_14, edges_15, i_16⟩ ⟨hM17, hr18, hi19, hi20, hk21, hk22, hk23, hv24⟩
 refine JJ_nx fun _ _ hL hA => ?_; dsimp only at hL hA; subst hL hA
 refine Fb 40 1 fun _ => KS ?_
 refine Oq Vm (Oq (Vfa fo25_0 0) (Oq (VldF sh23 0) (Oq (Vlen sl23) (Oq Vlss (KS ?_)))))
 refine Kc ?_ ?_
 ·intro h26
  have g27 := dt h26
  have hVf := hVb.2 i_16.toNat
  obtain ⟨r28, rfl⟩ := scc (n := r13) aM1
  refine KS ?_
  refine Oq Vm (Oq Vadd (Oq Vm (Oq Vadd (Oq Va (Oq Va (KS ?_))))))
  refine Oq Va (KS ?_)
  refine Kl (γ := Nat × Int × Int × Int) (fun (r29, nd_30, edges_31, k_32) => ⟨[(1, p2), (6, vi i_16), (4, vi nd_30), (5, vi edges_31), (7, vi k_32)], [pv p2 [vl pa0 pk0 p.Funcs], S pa0 pk0 p.Funcs], r4_Sizes_L1 p i_16 r29 nd_30 edges_31 k_32 = r4_Sizes_L1 p i_16 ((((((p.Funcs.getD i_16.toNat default).Blocks).length : Int) : Int) - 0).toNat) (nd_14 + 2) (edges_15 + 1) 0 ∧ r29 = (((((p.Funcs.getD i_16.toNat default).Blocks).length : Int) : Int) - k_32).toNat ∧ (0 : Int) ≤ k_32 ∧ (k_32 ≤ (((p.Funcs.getD i_16.toNat default).Blocks).length : Int) ∨ k_32 = 0) ∧ (-9223372036854775808 ≤ nd_30 ∧ nd_30 ≤ 9223372036854775807) ∧ (-9223372036854775808 ≤ edges_31 ∧ edges_31 ≤ 9223372036854775807) ∧ (-9223372036854775808 ≤ k_32 ∧ k_32 ≤ 9223372036854775807) ∧ (0 ≤ nd_30 ∧ nd_30 ≤ (nd_14 + 2) + 66 * k_32 ∧ 0 ≤ edges_31 ∧ edges_31 ≤ (edges_15 + 1) + 98 * k_32), r29⟩) ((((((p.Funcs.getD i_16.toNat default).Blocks).length : Int) : Int) - 0).toNat, (nd_14 + 2), (edges_15 + 1), 0) [0, 1] ⟨rfl, rfl, aM1, (.inr rfl), aM1, aM1, aM1, iv0⟩ ?_
  rintro ⟨r29, nd_30, edges_31, k_32⟩ ⟨hM33, hr34, hi35, hi36, hk37, hk38, hk39, hv40⟩
  refine JJ_nx fun _ _ hL hA => ?_; dsimp only at hL hA; subst hL hA
  refine Fb 40 1 fun _ => KS ?_
  refine Oq Vm (Oq (Vfa fo25_0 0) (Oq (VldF sh23 0) (Oq Vm (Oq (Vi sl23 1) ?_))))
  refine JJ_peek_GFunc i_16.toNat 1 rfl rng fun a42 k43 hb44 => ?_
  refine Fb 40 1 fun _ => ?_
  refine Oq (Vfa fo41_1 0) (Oq (VldF sh39 0) (Oq (Vlen sl39) (Oq Vlss (KS ?_))))
  refine Kc ?_ ?_
  ·intro h46
   have g47 := dt h46
   have hVk := hVf.2 k_32.toNat
   obtain ⟨r48, rfl⟩ := scc (n := r29) aM1
   refine KS ?_
   refine Oq (Vfa fo25_0 2) (Oq (VldF sh23 2) (Oq Vm (Oq (Vi sl23 3) (Oq (Vfa fo41_1 0) (Oq (VldF sh39 0) (Oq Vm (Oq (Vi sl39 1) ?_)))))))
   refine JJ_peek_GBlock k_32.toNat 1 rfl rng fun a49 k50 hb51 => ?_
   refine Fb 72 1 fun _ => ?_
   refine Oq (Vfa fo44_1 0) (Oq (VldF sh42 0) (Oq Va (KS ?_)))
   refine Oq Va (KS ?_)
   refine Kl (γ := Nat × Int × Int × Int) (fun (r53, nd_54, edges_55, j_56) => ⟨[(1, p2), (6, vi i_16), (4, vi nd_54), (5, vi edges_55), (7, vi k_32), (8, .slice a49 (((((p.Funcs.getD i_16.toNat default).Blocks).getD k_32.toNat default).Stmts).length) k50), (9, vi j_56)], [S a49 k50 ((((p.Funcs.getD i_16.toNat default).Blocks).getD k_32.toNat default).Stmts), pv p2 [vl pa0 pk0 p.Funcs], S pa0 pk0 p.Funcs], r4_Sizes_L2 ((((p.Funcs.getD i_16.toNat default).Blocks).getD k_32.toNat default).Stmts) r53 nd_54 edges_55 j_56 = r4_Sizes_L2 ((((p.Funcs.getD i_16.toNat default).Blocks).getD k_32.toNat default).Stmts) ((((((((p.Funcs.getD i_16.toNat default).Blocks).getD k_32.toNat default).Stmts).length : Int) : Int) - 0).toNat) nd_30 edges_31 0 ∧ r53 = (((((((p.Funcs.getD i_16.toNat default).Blocks).getD k_32.toNat default).Stmts).length : Int) : Int) - j_56).toNat ∧ (0 : Int) ≤ j_56 ∧ (j_56 ≤ (((((p.Funcs.getD i_16.toNat default).Blocks).getD k_32.toNat default).Stmts).length : Int) ∨ j_56 = 0) ∧ (-9223372036854775808 ≤ nd_54 ∧ nd_54 ≤ 9223372036854775807) ∧ (-9223372036854775808 ≤ edges_55 ∧ edges_55 ≤ 9223372036854775807) ∧ (-9223372036854775808 ≤ j_56 ∧ j_56 ≤ 9223372036854775807) ∧ (0 ≤ nd_54 ∧ nd_54 ≤ nd_30 + 2 * j_56 ∧ 0 ≤ edges_55 ∧ edges_55 ≤ edges_31 + 3 * j_56), r53⟩) ((((((((p.Funcs.getD i_16.toNat default).Blocks).getD k_32.toNat default).Stmts).length : Int) : Int) - 0).toNat, nd_30, edges_31, 0) [1, 4, 5] ⟨rfl, rfl, aM1, (.inr rfl), aM1, aM1, aM1, iv0⟩ ?_
   rintro ⟨r53, nd_54, edges_55, j_56⟩ ⟨hM57, hr58, hi59, hi60, hk61, hk62, hk63, hv64⟩
   refine JJ_nx fun _ _ hL hA => ?_; dsimp only at hL hA; subst hL hA
   refine Fb 72 0 fun _ => Fb 40 2 fun _ => KS ?_
   refine Oq Vm (Oq Vm (Oq (Vlen sl42) (Oq Vlss (KS ?_))))
   refine Kc ?_ ?_
   ·intro h67
    have g68 := dt h67
    have hVs := hVk.2 j_56.toNat
    obtain ⟨r69, rfl⟩ := scc (n := r53) aM1
    refine KS ?_
    refine Oq Vm (Oq Vadd (Oq Va (KS ?_)))
    refine Oq Vm (Oq Vm (Oq (Vi sl42 0) ?_))
    refine JJ_peek_GStmt j_56.toNat 0 rfl rng fun a70 k71 a72 k73 hb74 hb75 => ?_
    unfold i64ok at hb74
    refine Fb 16 1 fun _ => ?_
    refine FoS 1 fun ho77 => ?_
    refine Fb 16 2 fun _ => ?_
    refine FoS 2 fun ho79 => ?_
    refine Oq (Vfa fo47_0 0) (Oq (VldF sh3 0) (KS ?_))
    refine Oq Veql (Oq Va (KS ?_))
    refine Kc ?_ ?_
    ·intro h80
     have g81 := eq_of_beq h80
     refine KS ?_
     refine Oq Vm (Oq Vadd (Oq Vm (Oq Vadd (Oq Va (Oq Va (KS ?_))))))
     refine Oq Vm (Oq Vadd (Oq Va (KS ?_)))
     exact Kg (r69, ((nd_54 + 1) + 1), (edges_55 + 3), (j_56 + 1)) [3, 4, 5] ⟨(q3 hM57 (by simp only [r4_Sizes_L2, h6, h11, h26, h46, h67, h80, hg4, cs4])), aM1, aM1, aM1, aM1, aM1, aM1, iv1⟩
    intro h80
    have g82 := ne_of_beq_false h80
    refine KS ?_
    refine Oq Veql (Oq Va (KS ?_))
    refine Kc ?_ ?_
    ·intro h83
     have g84 := eq_of_beq h83
     refine KS ?_
     refine Oq Vm (Oq Vadd (Oq Va (KS ?_)))
     refine Oq Vm (Oq Vadd (Oq Va (KS ?_)))
     exact Kg (r69, (nd_54 + 1), (edges_55 + 2), (j_56 + 1)) [3, 4, 5] ⟨(q3 hM57 (by simp only [r4_Sizes_L2, h6, h11, h26, h46, h67, h80, h83, hg4, cs4])), aM1, aM1, aM1, aM1, aM1, aM1, iv1⟩
    intro h83
    have g85 := ne_of_beq_false h83
    refine KS ?_
    refine Oq Vm (Oq Vadd (Oq Va (KS ?_)))
    refine Oq Vm (Oq Vadd (Oq Va (KS ?_)))
    exact Kg (r69, (nd_54 + 1), (edges_55 + 1), (j_56 + 1)) [3, 4, 5] ⟨(q3 hM57 (by simp only [r4_Sizes_L2, h6, h11, h26, h46, h67, h80, h83, hg4, cs4])), aM1, aM1, aM1, aM1, aM1, aM1, iv1⟩
   intro h67
   have g86 := df h67
   obtain rfl : r53 = 0 := by omega
   refine Ke ?_
   have hR87 := q2 hM57 (nd_54, edges_55) (by simp only [r4_Sizes_L2, h6, h11, h26, h46, h67, hg4, cs4])
   refine KS ?_
   refine Oq Vm (Oq Vadd (Oq Va (KS ?_)))
   exact Kg (r48, nd_54, edges_55, (k_32 + 1)) [1, 2] ⟨(q3 hM33 (by simp only [r4_Sizes_L1, h6, h11, h26, h46, h67, hg4, hR87, cs4])), aM1, aM1, aM1, aM1, aM1, aM1, iv1⟩
  intro h46
  have g88 := df h46
  obtain rfl : r29 = 0 := by omega
  refine Ke ?_
  have hR89 := q2 hM33 (nd_30, edges_31) (by simp only [r4_Sizes_L1, h6, h11, h26, h46, hg4, cs4])
  refine KS ?_
  refine Oq Vm (Oq Vadd (Oq Va (KS ?_)))
  exact Kg (r28, nd_30, edges_31, (i_16 + 1)) [2, 3] ⟨(q3 hM17 (by simp only [r4_Sizes_L0, h6, h11, h26, h46, hg4, hR89, cs4])), aM1, aM1, aM1, aM1, aM1, aM1, iv1⟩
 intro h26
 have g90 := df h26
 obtain rfl : r13 = 0 := by omega
 refine Ke ?_
 have hR91 := q2 hM17 (nd_14, edges_15) (by simp only [r4_Sizes_L0, h6, h11, h26, hg4, cs4])
 refine KS ?_
 refine Oq Vm (Oq Vm (Oq Va (Oq Va (KS ?_))))
 have hq := q4 hrr (nd_14, edges_15) (by simp only [r4_Sizes, h6, h11, h26, hg4, hR91, cs4]); subst hq
 exact Kr () rfl (.tmp rfl (.tmp rfl .nil)) [] en
theorem fn24 (p : GProgram) (pa0 : Option Addr) (pk0 : Nat) (rr : GNode × Int) (hrr : r4_Check p = rr) : FT Tryz.prog 24 #[.agg #[vl pa0 pk0 p.Funcs]] [S pa0 pk0 p.Funcs] (fun g : Unit => i64ok rr.1.Kind ∧ i64ok rr.1.Func ∧ i64ok rr.1.Block ∧ i64ok rr.1.Stmt ∧ i64ok rr.2) (fun g => .tuple #[.agg #[vi rr.1.Kind, vi rr.1.Func, vi rr.1.Block, vi rr.1.Stmt], vi rr.2]) (fun g => []) := by
 refine FTi Tryz.func24 fun w0 M0 F0 => Fb 40 0 fun _ => ?_
 refine KS ?_
 refine Oa (Ab [vl pa0 pk0 p.Funcs]) fun p2 => Oa (Al ze27 [vi 0, vi 0, vi 0, vi 0]) fun p3 => Oq Va (KS ?_)
 refine Oq (VldA sh25 1) ?_
 refine letv (r4_Valid p) fun rv4 hg5 => ?_
 have hc6 := fn39 p pa0 pk0 rv4 hg5
 refine Oc [2] ca39 hc6 ?_
 rintro - -
 refine Oq Vnot (KS ?_)
 refine Kc ?_ ?_
 ·intro h7
  have h9 := not_true h7
  refine KS ?_
  refine Oq (Vbd st27 [vi 0, vi 0, vi 0, vi 0]) (Ost (Scl [0] sh27 [vi 0, vi 0, vi 0, vi 0]) (Oq Va (KS ?_)))
  have hq := q4 hrr ((GNode.mk 0 0 0 0), 1) (by simp only [r4_Check, h7, h9, hg5, cs4]); subst hq
  exact Kr () rfl (.cellN 0 rfl sh27 rfl (reads_Cl _ _) rfl (.tmp rfl .nil)) [] en
 intro h7
 have h12 := not_false h7
 refine KS ?_
 refine Oq (VldA sh25 1) ?_
 refine letv (r4_funcNames p) fun rv15 hg16 => ?_
 have hc17 := fn51 p pa0 pk0 rv15 hg16
 refine Oc [2] ca51 hc17 ?_
 rintro c14 -
 refine Jo 0 ?_; rintro a18 k19 rfl
 refine Fb 16 0 fun _ => ?_
 refine FoS 0 fun ho21 => ?_
 refine letv (r4_repeated rv15) fun rv22 hg23 => ?_
 have hc24 := fn50 rv15 a18 k19 rv22 hg23
 refine Oc [0] ca50 hc24 ?_
 rintro - he25
 unfold i64ok at he25
 refine Oq Va (KS ?_)
 refine Oq Vm (Oq Vgeq (KS ?_))
 refine Kc ?_ ?_
 ·intro h26
  have g27 := dt h26
  refine KS ?_
  refine Oq Vm (Oq (Vbd st27 [vi 1, vi rv22, vi (-1), vi (-1)]) (Ost (Scl [1] sh27 [vi 1, vi rv22, vi (-1), vi (-1)]) (Oq Va (KS ?_))))
  have hq := q4 hrr ((GNode.mk 1 rv22 (-1) (-1)), 6) (by simp only [r4_Check, h7, h12, h26, hg5, hg16, hg23, cs4]); subst hq
  exact Kr () rfl (.cellN 0 rfl sh27 rfl (reads_Cl _ _) rfl (.tmp rfl .nil)) [] en
 intro h26
 have g28 := df h26
 refine KS ?_
 refine Oq Va (KS ?_)
 refine Kl (γ := Nat × Int) (fun (r29, i_30) => ⟨[(1, p2), (2, p3), (5, vi i_30)], [Cl p3 [vi 0, vi 0, vi 0, vi 0], pv p2 [vl pa0 pk0 p.Funcs], S pa0 pk0 p.Funcs], r4_Check_L0 p r29 i_30 = r4_Check_L0 p (((p.Funcs.length : Int) - 0).toNat) 0 ∧ r29 = ((p.Funcs.length : Int) - i_30).toNat ∧ (0 : Int) ≤ i_30 ∧ i_30 ≤ (p.Funcs.length : Int) ∧ (-9223372036854775808 ≤ i_30 ∧ i_30 ≤ 9223372036854775807), r29⟩) (((p.Funcs.length : Int) - 0).toNat, 0) [1, 1, 2] ⟨rfl, rfl, aM1, aM1, aM1⟩ ?_
 rintro ⟨r29, i_30⟩ ⟨hM31, hr32, hi33, hi34, hk35⟩
 refine JJ_nx fun _ _ hL hA => ?_; dsimp only at hL hA; subst hL hA
 refine Fb 40 2 fun _ => KS ?_
 refine Oq Vm (Oq (Vfa fo25_0 1) (Oq (VldF sh23 1) (Oq (Vlen sl23) (Oq Vlss (KS ?_)))))
 refine Kc ?_ ?_
 ·intro h37
  have g38 := dt h37
  obtain ⟨r39, rfl⟩ := scc (n := r29) aM1
  refine KS ?_
  refine Oq (Vfa fo25_0 1) (Oq (VldF sh23 1) (Oq Vm (Oq (Vi sl23 2) ?_)))
  refine JJ_peek_GFunc i_30.toNat 2 rfl rng fun a40 k41 hb42 => ?_
  refine Fb 40 1 fun _ => ?_
  refine Oq (VldA sh41 0) (Oa (Al ze41 [.string (bs (Str.mk [])), .slice none 0 0]) fun p44 => Ost (Scl [0] sh41 [.string (bs ((p.Funcs.getD i_30.toNat default).Name)), vl a40 k41 ((p.Funcs.getD i_30.toNat default).Blocks)]) (KS ?_))
  refine Oq (VldA sh41 0) ?_
  refine letv (r4_BlockNames (p.Funcs.getD i_30.toNat default)) fun rv46 hg47 => ?_
  have hc48 := fn52 ((p.Funcs.getD i_30.toNat default)) a40 k41 pre rv46 hg47
  refine Oc [2] ca52 hc48 ?_
  rintro c45 -
  refine Jo 0 ?_; rintro a49 k50 rfl
  refine Fb 16 0 fun _ => ?_
  refine FoS 0 fun ho52 => ?_
  refine letv (r4_repeated rv46) fun rv53 hg54 => ?_
  have hc55 := fn50 rv46 a49 k50 rv53 hg54
  refine Oc [0] ca50 hc55 ?_
  rintro - he56
  unfold i64ok at he56
  refine Oq Va (KS ?_)
  refine Oq Vm (Oq Vgeq (KS ?_))
  refine Kc ?_ ?_
  ·intro h57
   have g58 := dt h57
   refine KS ?_
   refine Oq Vm (Oq Vm (Oq (Vbd st27 [vi 3, vi i_30, vi rv53, vi (-1)]) (Ost (Scl [4] sh27 [vi 3, vi i_30, vi rv53, vi (-1)]) (Oq Va (KS ?_)))))
   have hR59 := q2 hM31 (.ret ((GNode.mk 3 i_30 rv53 (-1)), 6)) (by simp only [r4_Check_L0, h7, h12, h26, h37, h57, hg5, hg16, hg23, hg47, hg54, cs4])
   have hq := q4 hrr ((GNode.mk 3 i_30 rv53 (-1)), 6) (by simp only [r4_Check, h7, h12, h26, h37, h57, hg5, hg16, hg23, hg47, hg54, hR59, cs4]); subst hq
   exact Kr () rfl (.cellN 0 rfl sh27 rfl (reads_Cl _ _) rfl (.tmp rfl .nil)) [] en
  intro h57
  have g60 := df h57
  refine KS ?_
  refine Oq Va (KS ?_)
  refine Kl (γ := Nat × Int) (fun (r61, k_62) => ⟨[(1, p2), (2, p3), (5, vi i_30), (6, p44), (8, vi k_62)], [Cl p44 [.string (bs ((p.Funcs.getD i_30.toNat default).Name)), vl a40 k41 ((p.Funcs.getD i_30.toNat default).Blocks)], S a40 k41 ((p.Funcs.getD i_30.toNat default).Blocks), Cl p3 [vi 0, vi 0, vi 0, vi 0], pv p2 [vl pa0 pk0 p.Funcs], S pa0 pk0 p.Funcs], r4_Check_L1 p i_30 ((p.Funcs.getD i_30.toNat default).Name) ((p.Funcs.getD i_30.toNat default).Blocks) r61 k_62 = r4_Check_L1 p i_30 ((p.Funcs.getD i_30.toNat default).Name) ((p.Funcs.getD i_30.toNat default).Blocks) ((((((p.Funcs.getD i_30.toNat default).Blocks).length : Int) : Int) - 0).toNat) 0 ∧ r61 = (((((p.Funcs.getD i_30.toNat default).Blocks).length : Int) : Int) - k_62).toNat ∧ (0 : Int) ≤ k_62 ∧ (k_62 ≤ (((p.Funcs.getD i_30.toNat default).Blocks).length : Int) ∨ k_62 = 0) ∧ (-9223372036854775808 ≤ k_62 ∧ k_62 ≤ 9223372036854775807), r61⟩) ((((((p.Funcs.getD i_30.toNat default).Blocks).length : Int) : Int) - 0).toNat, 0) [1, 2, 3, 3, 4] ⟨rfl, rfl, aM1, (.inr rfl), aM1⟩ ?_
  rintro ⟨r61, k_62⟩ ⟨hM63, hr64, hi65, hi66, hk67⟩
  refine JJ_nx fun _ _ hL hA => ?_; dsimp only at hL hA; subst hL hA
  refine Fb 40 1 fun _ => Fb 40 4 fun _ => KS ?_
  refine Oq Vm (Oq (Vfa fo41_1 0) (Oq (VldF sh39 0) (Oq (Vlen sl39) (Oq Vlss (KS ?_)))))
  refine Kc ?_ ?_
  ·intro h70
   have g71 := dt h70
   obtain ⟨r72, rfl⟩ := scc (n := r61) aM1
   refine KS ?_
   refine Oq (Vfa fo41_1 0) (Oq (VldF sh39 0) (Oq Vm (Oq (Vi sl39 1) ?_)))
   refine JJ_peek_GBlock k_62.toNat 1 rfl rng fun a73 k74 hb75 => ?_
   refine Fb 72 1 fun _ => ?_
   refine Oq (Vfa fo44_1 0) (Oq (VldF sh42 0) (Oq Va (KS ?_)))
   refine Oq Va (KS ?_)
   refine Kl (γ := Nat × Int) (fun (r77, j_78) => ⟨[(1, p2), (2, p3), (5, vi i_30), (6, p44), (8, vi k_62), (9, .slice a73 (((((p.Funcs.getD i_30.toNat default).Blocks).getD k_62.toNat default).Stmts).length) k74), (10, vi j_78)], [S a73 k74 ((((p.Funcs.getD i_30.toNat default).Blocks).getD k_62.toNat default).Stmts), Cl p44 [.string (bs ((p.Funcs.getD i_30.toNat default).Name)), vl a40 k41 ((p.Funcs.getD i_30.toNat default).Blocks)], S a40 k41 ((p.Funcs.getD i_30.toNat default).Blocks), Cl p3 [vi 0, vi 0, vi 0, vi 0], pv p2 [vl pa0 pk0 p.Funcs], S pa0 pk0 p.Funcs], r4_Check_L2 p i_30 ((p.Funcs.getD i_30.toNat default).Name) ((p.Funcs.getD i_30.toNat default).Blocks) k_62 ((((p.Funcs.getD i_30.toNat default).Blocks).getD k_62.toNat default).Stmts) r77 j_78 = r4_Check_L2 p i_30 ((p.Funcs.getD i_30.toNat default).Name) ((p.Funcs.getD i_30.toNat default).Blocks) k_62 ((((p.Funcs.getD i_30.toNat default).Blocks).getD k_62.toNat default).Stmts) ((((((((p.Funcs.getD i_30.toNat default).Blocks).getD k_62.toNat default).Stmts).length : Int) : Int) - 0).toNat) 0 ∧ r77 = (((((((p.Funcs.getD i_30.toNat default).Blocks).getD k_62.toNat default).Stmts).length : Int) : Int) - j_78).toNat ∧ (0 : Int) ≤ j_78 ∧ (j_78 ≤ (((((p.Funcs.getD i_30.toNat default).Blocks).getD k_62.toNat default).Stmts).length : Int) ∨ j_78 = 0) ∧ (-9223372036854775808 ≤ j_78 ∧ j_78 ≤ 9223372036854775807), r77⟩) ((((((((p.Funcs.getD i_30.toNat default).Blocks).getD k_62.toNat default).Stmts).length : Int) : Int) - 0).toNat, 0) [1, 2, 2, 3, 3, 4] ⟨rfl, rfl, aM1, (.inr rfl), aM1⟩ ?_
   rintro ⟨r77, j_78⟩ ⟨hM79, hr80, hi81, hi82, hk83⟩
   refine JJ_nx fun _ _ hL hA => ?_; dsimp only at hL hA; subst hL hA
   refine Fb 72 0 fun _ => Fb 40 2 fun _ => Fb 40 5 fun _ => KS ?_
   refine Oq Vm (Oq Vm (Oq (Vlen sl42) (Oq Vlss (KS ?_))))
   refine Kc ?_ ?_
   ·intro h87
    have g88 := dt h87
    obtain ⟨r89, rfl⟩ := scc (n := r77) aM1
    refine KS ?_
    refine JJ_peek_GStmt j_78.toNat 0 rfl rng fun a90 k91 a92 k93 hb94 hb95 => ?_
    unfold i64ok at hb94
    refine Fb 16 1 fun _ => ?_
    refine FoS 1 fun ho97 => ?_
    refine Fb 16 2 fun _ => ?_
    refine FoS 2 fun ho99 => ?_
    refine JK_drawK [0, 0, 0, 0, 12, 28, 0, 0, 128, 384, 960, 2047, 4095] fmix ?_
    refine Dv [7] (VldA sh25 0) (Dv [4] (VldA sh41 0) (Dv [] Vm (Dv [] Vm (Dv [3] (Vi sl42 0) (Dv [0] (VldA sh47 0) (Dv [] Vm (Dv [] Vm (Dv [] (Vlen sl42) (Dv [] Vsub ?_)))))))))
    refine Dv [] Veql ?_
    refine letv (r4_stmtErr p (p.Funcs.getD i_30.toNat default) (((((p.Funcs.getD i_30.toNat default).Blocks).getD k_62.toNat default).Stmts).getD j_78.toNat default) (j_78 == ((((((p.Funcs.getD i_30.toNat default).Blocks).getD k_62.toNat default).Stmts).length : Int) - 1))) fun rv100 hg101 => ?_
    refine Dx [1, 2, 5, 8] [] [1, 2, 3, 4, 0] (fun G => vi rv100) [fun G => SP.fact (i64ok rv100)] (fun G => xC [3, 2, 0, 1] ca53 (fn53 p pa0 pk0 ((p.Funcs.getD i_30.toNat default)) a40 k41 ((((((p.Funcs.getD i_30.toNat default).Blocks).getD k_62.toNat default).Stmts).getD j_78.toNat default)) a90 k91 a92 k93 ((j_78 == ((((((p.Funcs.getD i_30.toNat default).Blocks).getD k_62.toNat default).Stmts).length : Int) - 1))) pre pre pre rv100 hg101)) (Dv [] Va ?_)
    refine Dn ⟨by kernel_rfl, fun G => ?_⟩
    refine Jw2 [(1, p2), (2, p3), (5, vi i_30), (6, p44), (8, vi k_62), (9, .slice a73 (((((p.Funcs.getD i_30.toNat default).Blocks).getD k_62.toNat default).Stmts).length) k74), (10, vi j_78), (11, vi rv100)] [0, 1, 2, 3, 4, 5, 6, 7, 8] [SP.fact (i64ok rv100)] ?_
    refine Jf 9 rfl ?_; rintro he102
    unfold i64ok at he102
    refine Jk [0, 1, 2, 3, 4, 4, 5, 5, 6] ?_
    refine KS ?_
    refine Oq Vm (Oq Vneq (KS ?_))
    refine Kc ?_ ?_
    ·intro h103
     have g104 := ne_of_bne h103
     refine KS ?_
     refine Oq Vm (Oq Vm (Oq Vm (Oq (Vbd st27 [vi 3, vi i_30, vi k_62, vi j_78]) (Oq Vm (Ost (Scl [6] sh27 [vi 3, vi i_30, vi k_62, vi j_78]) (Oq Va (KS ?_)))))))
     have hR105 := q2 hM79 (.ret ((GNode.mk 3 i_30 k_62 j_78), rv100)) (by simp only [r4_Check_L2, h7, h12, h26, h37, h57, h70, h87, h103, hg5, hg16, hg23, hg47, hg54, hg101, cs4])
     have hR106 := q2 hM63 (.ret ((GNode.mk 3 i_30 k_62 j_78), rv100)) (by simp only [r4_Check_L1, h7, h12, h26, h37, h57, h70, h87, h103, hg5, hg16, hg23, hg47, hg54, hg101, hR105, cs4])
     have hR107 := q2 hM31 (.ret ((GNode.mk 3 i_30 k_62 j_78), rv100)) (by simp only [r4_Check_L0, h7, h12, h26, h37, h57, h70, h87, h103, hg5, hg16, hg23, hg47, hg54, hg101, hR105, hR106, cs4])
     have hq := q4 hrr ((GNode.mk 3 i_30 k_62 j_78), rv100) (by simp only [r4_Check, h7, h12, h26, h37, h57, h70, h87, h103, hg5, hg16, hg23, hg47, hg54, hg101, hR105, hR106, hR107, cs4]); subst hq
     exact Kr () rfl (.cellN 0 rfl sh27 rfl (reads_Cl _ _) rfl (.tmp rfl .nil)) [] en
    intro h103
    have g108 := eq_of_bne_false h103
    refine KS ?_
    refine Oq Vm (Oq Vadd (Oq Va (KS ?_)))
    exact Kg (r89, (j_78 + 1)) [3, 4, 4, 5, 5, 6] ⟨(q3 hM79 (by simp only [r4_Check_L2, h7, h12, h26, h37, h57, h70, h87, h103, hg5, hg16, hg23, hg47, hg54, hg101, cs4])), aM1, aM1, aM1, aM1⟩
   intro h87
   have g109 := df h87
   obtain rfl : r77 = 0 := by omega
   refine Ke ?_
   have hR110 := q2 hM79 (.brk ()) (by simp only [r4_Check_L2, h7, h12, h26, h37, h57, h70, h87, hg5, hg16, hg23, hg47, hg54, cs4])
   refine KS ?_
   refine Oq Vm (Oq Vadd (Oq Va (KS ?_)))
   exact Kg (r72, (k_62 + 1)) [1, 1, 2, 2, 3] ⟨(q3 hM63 (by simp only [r4_Check_L1, h7, h12, h26, h37, h57, h70, h87, hg5, hg16, hg23, hg47, hg54, hR110, cs4])), aM1, aM1, aM1, aM1⟩
  intro h70
  have g111 := df h70
  obtain rfl : r61 = 0 := by omega
  refine Ke ?_
  have hR112 := q2 hM63 (.brk ()) (by simp only [r4_Check_L1, h7, h12, h26, h37, h57, h70, hg5, hg16, hg23, hg47, hg54, cs4])
  refine KS ?_
  refine Oq Vm (Oq Vadd (Oq Va (KS ?_)))
  exact Kg (r39, (i_30 + 1)) [2, 2, 3] ⟨(q3 hM31 (by simp only [r4_Check_L0, h7, h12, h26, h37, h57, h70, hg5, hg16, hg23, hg47, hg54, hR112, cs4])), aM1, aM1, aM1, aM1⟩
 intro h37
 have g113 := df h37
 obtain rfl : r29 = 0 := by omega
 refine Ke ?_
 have hR114 := q2 hM31 (.brk ()) (by simp only [r4_Check_L0, h7, h12, h26, h37, hg5, hg16, hg23, cs4])
 refine KS ?_
 refine Oq (VldA sh25 1) ?_
 refine letv (r4_Sizes p) fun rv115 hg116 => ?_
 have hc117 := fn54 p pa0 pk0 rv115 hg116
 refine Oc [2] ca54 hc117 ?_
 rintro - ⟨he118, he119⟩
 unfold i64ok at he118 he119
 refine Oq Vm (Oq Vx (Oq Vx (Oq Va (Oq Va (KS ?_)))))
 refine Oq (VldA sh25 1) ?_
 refine letv (r4_Variables p) fun rv121 hg122 => ?_
 have hc123 := fn15 p pa0 pk0 rv121 hg122
 refine Oc [2] ca15 hc123 ?_
 rintro c120 -
 refine Jo 0 ?_; rintro a124 k125 rfl
 refine Fb 16 0 fun _ => ?_
 refine FoS 0 fun ho127 => ?_
 refine Oq (Vlen sl45) (Oq Vgtr (Oq Vm ?_))
 refine Js 92 ?_ ?_
 ·intro h128
  have g129 := dt h128
  refine Osk (Osk (Oq Vpt (Oq Vm (Osk (Osk (Oq Vpt (KS ?_)))))))
  refine Kt (KS ?_)
  refine Oq (Vbd st27 [vi 0, vi 0, vi 0, vi 0]) (Ost (Scl [1] sh27 [vi 0, vi 0, vi 0, vi 0]) (Oq Va (KS ?_)))
  have hq := q4 hrr ((GNode.mk 0 0 0 0), 7) (by simp only [r4_Check, h7, h12, h26, h37, h128, hg5, hg16, hg23, hR114, hg116, hg122, cs4]); subst hq
  exact Kr () rfl (.cellN 0 rfl sh27 rfl (reads_Cl _ _) rfl (.tmp rfl .nil)) [] en
 intro h128
 have g130 := df h128
 refine Oq Vm (Oq Vgtr (Oq Vpf (Oq Vm ?_)))
 refine Js 96 ?_ ?_
 ·intro h131
  have g132 := dt h131
  refine Osk (Osk (Oq Vpt (KS ?_)))
  refine Kt (KS ?_)
  refine Oq (Vbd st27 [vi 0, vi 0, vi 0, vi 0]) (Ost (Scl [1] sh27 [vi 0, vi 0, vi 0, vi 0]) (Oq Va (KS ?_)))
  have hq := q4 hrr ((GNode.mk 0 0 0 0), 7) (by simp only [r4_Check, h7, h12, h26, h37, h128, h131, hg5, hg16, hg23, hR114, hg116, hg122, cs4]); subst hq
  exact Kr () rfl (.cellN 0 rfl sh27 rfl (reads_Cl _ _) rfl (.tmp rfl .nil)) [] en
 intro h131
 have g133 := df h131
 refine Oq Vm (Oq Vgtr (Oq Vpf (KS ?_)))
 refine Kc ?_ ?_
 ·intro h134
  have g135 := dt h134
  refine KS ?_
  refine Oq (Vbd st27 [vi 0, vi 0, vi 0, vi 0]) (Ost (Scl [1] sh27 [vi 0, vi 0, vi 0, vi 0]) (Oq Va (KS ?_)))
  have hq := q4 hrr ((GNode.mk 0 0 0 0), 7) (by simp only [r4_Check, h7, h12, h26, h37, h128, h131, h134, hg5, hg16, hg23, hR114, hg116, hg122, cs4]); subst hq
  exact Kr () rfl (.cellN 0 rfl sh27 rfl (reads_Cl _ _) rfl (.tmp rfl .nil)) [] en
 intro h134
 have g136 := df h134
 refine KS ?_
 refine Oq (Vbd st27 [vi 0, vi 0, vi 0, vi 0]) (Ost (Scl [1] sh27 [vi 0, vi 0, vi 0, vi 0]) (Oq Va (KS ?_)))
 have hq := q4 hrr ((GNode.mk 0 0 0 0), 0) (by simp only [r4_Check, h7, h12, h26, h37, h128, h131, h134, hg5, hg16, hg23, hR114, hg116, hg122, cs4]); subst hq
 exact Kr () rfl (.cellN 0 rfl sh27 rfl (reads_Cl _ _) rfl (.tmp rfl .nil)) [] en
theorem fn8 (p : GProgram) (pa0 : Option Addr) (pk0 : Nat) (rr : List GNode) (hrr : r7_List p = rr) : FT Tryz.prog 8 #[.agg #[vl pa0 pk0 p.Funcs]] [S pa0 pk0 p.Funcs] (fun g : Value => (rr.length ≤ 20000)) (fun g => g) (fun g => [sl g rr]) := by
 refine FTi Tryz.func8 fun w0 M0 F0 => Fb 40 0 fun _ => ?_
 refine KS ?_
 refine Oa (Ab [vl pa0 pk0 p.Funcs]) fun p2 => Oq Va (KS ?_)
 refine Oq Va (KS ?_)
 refine Oq (VldA sh25 0) ?_
 refine letv (r4_Check p) fun rv3 hg4 => ?_
 have hc5 := fn24 p pa0 pk0 rv3 hg4
 refine Oc [1] ca24 hc5 ?_
 rintro - ⟨he6, he7, he8, he9, he10⟩
 unfold i64ok at he6 he7 he8 he9 he10
 refine Oq Vm (Oq Vx (Oq Vx (Oa (Al ze27 [vi 0, vi 0, vi 0, vi 0]) fun p11 => Ost (Scl [0] sh27 [vi rv3.1.Kind, vi rv3.1.Func, vi rv3.1.Block, vi rv3.1.Stmt]) (Oq Va (KS ?_)))))
 refine Oq Vm (Oq Vneq (KS ?_))
 refine Kc ?_ ?_
 ·intro h12
  have g13 := ne_of_bne h12
  refine KS ?_
  refine Oq Va (KS ?_)
  refine Jl [] (Ent.slNil (α := GNode)) ?_
  have hq := q4 hrr [] (by simp only [r7_List, h12, hg4, cs4]); subst hq
  exact Kr (.slice none 0 0) rfl (.tmp rfl .nil) [0] en
 intro h12
 have g14 := eq_of_bne_false h12
 have hVb := PVal_b (p := p) (Check7_b (by assumption) (by assumption))
 refine KS ?_
 refine Oq Va (KS ?_)
 refine Jl [] (Ent.osNil (α := GNode)) ?_
 refine Kl (γ := Nat × List GNode × Int × Option Addr × Nat) (fun (r15, out_16, i_17, a18, k19) => ⟨[(1, p2), (3, vl a18 k19 out_16), (6, vi i_17)], [O a18 k19 out_16, pv p2 [vl pa0 pk0 p.Funcs], S pa0 pk0 p.Funcs], r7_List_L0 p r15 out_16 i_17 = r7_List_L0 p (((p.Funcs.length : Int) - 0).toNat) [] 0 ∧ r15 = ((p.Funcs.length : Int) - i_17).toNat ∧ (0 : Int) ≤ i_17 ∧ i_17 ≤ (p.Funcs.length : Int) ∧ (-9223372036854775808 ≤ i_17 ∧ i_17 ≤ 9223372036854775807) ∧ ((out_16.length : Int) ≤ 1100 * i_17), r15⟩) (((p.Funcs.length : Int) - 0).toNat, [], 0, none, 0) [0, 1, 2] ⟨rfl, rfl, aM1, aM1, aM1, iv0⟩ ?_
 rintro ⟨r15, out_16, i_17, a18, k19⟩ ⟨hM20, hr21, hi22, hi23, hk24, hv25⟩
 refine JJ_nx fun _ _ hL hA => ?_; dsimp only at hL hA; subst hL hA
 refine Fb 32 0 fun _ => Fb 40 2 fun _ => KS ?_
 refine Oq Vm (Oq (Vfa fo25_0 1) (Oq (VldF sh23 1) (Oq (Vlen sl23) (Oq Vlss (KS ?_)))))
 refine Kc ?_ ?_
 ·intro h28
  have g29 := dt h28
  have hVf := hVb.2 i_17.toNat
  have hb8 : i_17 ≤ 7 := by have := hVb.1; omega
  obtain ⟨r30, rfl⟩ := scc (n := r15) aM1
  refine KS ?_
  refine Oq Vm (Oq Vm (Oq (Vbd st27 [vi 1, vi i_17, vi (-1), vi (-1)]) (Oa (AsV sl31 sz31 [.agg #[vi 1, vi i_17, vi (-1), vi (-1)]] [vi 1, vi i_17, vi (-1), vi (-1)]) fun c31 => ?_)))
  refine Jo 0 ?_; rintro a32 k33 rfl
  refine Jl [0] (Ent.cr1 (α := GNode) (A := []) _ (GNode.mk 1 i_17 (-1) (-1)) _ aB1 (fun h => ⟨rfl, aL1, aL1, aL1, aL1⟩)) ?_
  refine Oa (ApO [1, 0] sl31 sl31 sz31) fun c34 => ?_
  refine Jo 0 ?_; rintro a35 k36 rfl
  refine Fb 32 0 fun _ => ?_
  have hn38 := la out_16 ([(GNode.mk 1 i_17 (-1) (-1))] : List GNode)
  refine Oq Va (KS ?_)
  refine Oq Va (KS ?_)
  refine Kl (γ := Nat × List GNode × Int × Option Addr × Nat) (fun (r39, out_40, k_41, a42, k43) => ⟨[(1, p2), (6, vi i_17), (3, vl a42 k43 out_40), (7, vi k_41)], [O a42 k43 out_40, pv p2 [vl pa0 pk0 p.Funcs], S pa0 pk0 p.Funcs], r7_List_L1 p i_17 r39 out_40 k_41 = r7_List_L1 p i_17 ((((((p.Funcs.getD i_17.toNat default).Blocks).length : Int) : Int) - 0).toNat) (out_16 ++ [(GNode.mk 1 i_17 (-1) (-1))]) 0 ∧ r39 = (((((p.Funcs.getD i_17.toNat default).Blocks).length : Int) : Int) - k_41).toNat ∧ (0 : Int) ≤ k_41 ∧ (k_41 ≤ (((p.Funcs.getD i_17.toNat default).Blocks).length : Int) ∨ k_41 = 0) ∧ (-9223372036854775808 ≤ k_41 ∧ k_41 ≤ 9223372036854775807) ∧ ((out_40.length : Int) ≤ 1100 * i_17 + 1 + 66 * k_41), r39⟩) ((((((p.Funcs.getD i_17.toNat default).Blocks).length : Int) : Int) - 0).toNat, (out_16 ++ [(GNode.mk 1 i_17 (-1) (-1))]), 0, a35, k36) [0, 0, 1] ⟨rfl, rfl, aM1, (.inr rfl), aM1, iv0⟩ ?_
  rintro ⟨r39, out_40, k_41, a42, k43⟩ ⟨hM44, hr45, hi46, hi47, hk48, hv49⟩
  refine JJ_nx fun _ _ hL hA => ?_; dsimp only at hL hA; subst hL hA
  refine Fb 32 0 fun _ => Fb 40 2 fun _ => KS ?_
  refine Oq Vm (Oq (Vfa fo25_0 1) (Oq (VldF sh23 1) (Oq Vm (Oq (Vi sl23 2) ?_))))
  refine JJ_peek_GFunc i_17.toNat 2 rfl rng fun a52 k53 hb54 => ?_
  refine Fb 40 1 fun _ => ?_
  refine Oq (Vfa fo41_1 0) (Oq (VldF sh39 0) (Oq (Vlen sl39) (Oq Vlss (KS ?_))))
  refine Kc ?_ ?_
  ·intro h56
   have g57 := dt h56
   have hVk := hVf.2 k_41.toNat
   have hb16 : k_41 ≤ 15 := by have := hVf.1; omega
   obtain ⟨r58, rfl⟩ := scc (n := r39) aM1
   refine KS ?_
   refine Oq (Vfa fo25_0 3) (Oq (VldF sh23 3) (Oq Vm (Oq (Vi sl23 4) (Oq (Vfa fo41_1 0) (Oq (VldF sh39 0) (Oq Vm (Oq (Vi sl39 1) ?_)))))))
   refine JJ_peek_GBlock k_41.toNat 1 rfl rng fun a59 k60 hb61 => ?_
   refine Fb 72 1 fun _ => ?_
   refine Oq (Vfa fo44_1 0) (Oq (VldF sh42 0) (Oq Va (KS ?_)))
   refine Oq Va (KS ?_)
   refine Kl (γ := Nat × List GNode × Int × Option Addr × Nat) (fun (r63, out_64, j_65, a66, k67) => ⟨[(1, p2), (6, vi i_17), (3, vl a66 k67 out_64), (7, vi k_41), (8, .slice a59 (((((p.Funcs.getD i_17.toNat default).Blocks).getD k_41.toNat default).Stmts).length) k60), (9, vi j_65)], [O a66 k67 out_64, S a59 k60 ((((p.Funcs.getD i_17.toNat default).Blocks).getD k_41.toNat default).Stmts), pv p2 [vl pa0 pk0 p.Funcs], S pa0 pk0 p.Funcs], r7_List_L2 i_17 k_41 ((((p.Funcs.getD i_17.toNat default).Blocks).getD k_41.toNat default).Stmts) r63 out_64 j_65 = r7_List_L2 i_17 k_41 ((((p.Funcs.getD i_17.toNat default).Blocks).getD k_41.toNat default).Stmts) ((((((((p.Funcs.getD i_17.toNat default).Blocks).getD k_41.toNat default).Stmts).length : Int) : Int) - 0).toNat) out_40 0 ∧ r63 = (((((((p.Funcs.getD i_17.toNat default).Blocks).getD k_41.toNat default).Stmts).length : Int) : Int) - j_65).toNat ∧ (0 : Int) ≤ j_65 ∧ (j_65 ≤ (((((p.Funcs.getD i_17.toNat default).Blocks).getD k_41.toNat default).Stmts).length : Int) ∨ j_65 = 0) ∧ (-9223372036854775808 ≤ j_65 ∧ j_65 ≤ 9223372036854775807) ∧ ((out_64.length : Int) ≤ 1100 * i_17 + 1 + 66 * k_41 + 2 * j_65), r63⟩) ((((((((p.Funcs.getD i_17.toNat default).Blocks).getD k_41.toNat default).Stmts).length : Int) : Int) - 0).toNat, out_40, 0, a42, k43) [4, 1, 4, 5] ⟨rfl, rfl, aM1, (.inr rfl), aM1, iv0⟩ ?_
   rintro ⟨r63, out_64, j_65, a66, k67⟩ ⟨hM68, hr69, hi70, hi71, hk72, hv73⟩
   refine JJ_nx fun _ _ hL hA => ?_; dsimp only at hL hA; subst hL hA
   refine Fb 32 0 fun _ => Fb 72 1 fun _ => Fb 40 3 fun _ => KS ?_
   refine Oq Vm (Oq Vm (Oq (Vlen sl42) (Oq Vlss (KS ?_))))
   refine Kc ?_ ?_
   ·intro h77
    have g78 := dt h77
    have hb32 : j_65 ≤ 31 := by have := hVk.1; omega
    obtain ⟨r79, rfl⟩ := scc (n := r63) aM1
    refine KS ?_
    refine Oq Vm (Oq Vm (Oq Vm (Oq Vm (Oq (Vbd st27 [vi 3, vi i_17, vi k_41, vi j_65]) (Oa (AsV sl31 sz31 [.agg #[vi 3, vi i_17, vi k_41, vi j_65]] [vi 3, vi i_17, vi k_41, vi j_65]) fun c80 => ?_)))))
    refine Jo 0 ?_; rintro a81 k82 rfl
    refine Jl [0] (Ent.cr1 (α := GNode) (A := []) _ (GNode.mk 3 i_17 k_41 j_65) _ aB1 (fun h => ⟨rfl, aL1, aL1, aL1, aL1⟩)) ?_
    refine Oa (ApO [1, 0] sl31 sl31 sz31) fun c83 => ?_
    refine Jo 0 ?_; rintro a84 k85 rfl
    refine Fb 32 0 fun _ => ?_
    have hn87 := la out_64 ([(GNode.mk 3 i_17 k_41 j_65)] : List GNode)
    refine Oq Va (KS ?_)
    refine Oq Vm (Oq Vm (Oq (Vi sl42 1) ?_))
    refine JJ_peek_GStmt j_65.toNat 1 rfl rng fun a88 k89 a90 k91 hb92 hb93 => ?_
    unfold i64ok at hb92
    refine Fb 16 1 fun _ => ?_
    refine FoS 1 fun ho95 => ?_
    refine Fb 16 2 fun _ => ?_
    refine FoS 2 fun ho97 => ?_
    refine Oq (Vfa fo47_0 0) (Oq (VldF sh3 0) (Oq Veql (KS ?_)))
    refine Kc ?_ ?_
    ·intro h98
     have g99 := eq_of_beq h98
     refine KS ?_
     refine Oq Vm (Oq Vm (Oq Vm (Oq Vm (Oq (Vbd st27 [vi 4, vi i_17, vi k_41, vi j_65]) (Oa (AsV sl31 sz31 [.agg #[vi 4, vi i_17, vi k_41, vi j_65]] [vi 4, vi i_17, vi k_41, vi j_65]) fun c100 => ?_)))))
     refine Jo 0 ?_; rintro a101 k102 rfl
     refine Jl [0] (Ent.cr1 (α := GNode) (A := []) _ (GNode.mk 4 i_17 k_41 j_65) _ aB1 (fun h => ⟨rfl, aL1, aL1, aL1, aL1⟩)) ?_
     refine Oa (ApO [4, 0] sl31 sl31 sz31) fun c103 => ?_
     refine Jo 0 ?_; rintro a104 k105 rfl
     refine Fb 32 0 fun _ => ?_
     have hn107 := la ((out_64 ++ [(GNode.mk 3 i_17 k_41 j_65)]) : List GNode) ([(GNode.mk 4 i_17 k_41 j_65)] : List GNode)
     refine Oq Va (KS ?_)
     refine Oq Vm (Oq Vadd (Oq Va (KS ?_)))
     exact Kg (r79, ((out_64 ++ [(GNode.mk 3 i_17 k_41 j_65)]) ++ [(GNode.mk 4 i_17 k_41 j_65)]), (j_65 + 1), a104, k105) [0, 3, 4, 5] ⟨(q3 hM68 (by simp only [r7_List_L2, h12, h28, h56, h77, h98, hg4, cs4])), aM1, aM1, aM1, aM1, iv1⟩
    intro h98
    have g108 := ne_of_beq_false h98
    refine KS ?_
    refine Oq Vm (Oq Vadd (Oq Va (KS ?_)))
    exact Kg (r79, (out_64 ++ [(GNode.mk 3 i_17 k_41 j_65)]), (j_65 + 1), a84, k85) [3, 3, 4, 5] ⟨(q3 hM68 (by simp only [r7_List_L2, h12, h28, h56, h77, h98, hg4, cs4])), aM1, aM1, aM1, aM1, iv1⟩
   intro h77
   have g109 := df h77
   obtain rfl : r63 = 0 := by omega
   refine Ke ?_
   have hR110 := q2 hM68 out_64 (by simp only [r7_List_L2, h12, h28, h56, h77, hg4, cs4])
   refine KS ?_
   refine Oq Vm (Oq Vadd (Oq Va (KS ?_)))
   exact Kg (r58, out_64, (k_41 + 1), a66, k67) [0, 1, 2] ⟨(q3 hM44 (by simp only [r7_List_L1, h12, h28, h56, h77, hg4, hR110, cs4])), aM1, aM1, aM1, aM1, iv1⟩
  intro h56
  have g111 := df h56
  obtain rfl : r39 = 0 := by omega
  refine Ke ?_
  have hR112 := q2 hM44 out_40 (by simp only [r7_List_L1, h12, h28, h56, hg4, cs4])
  refine KS ?_
  refine Oq Vm (Oq Vm (Oq (Vbd st27 [vi 2, vi i_17, vi (-1), vi (-1)]) (Oa (AsV sl31 sz31 [.agg #[vi 2, vi i_17, vi (-1), vi (-1)]] [vi 2, vi i_17, vi (-1), vi (-1)]) fun c113 => ?_)))
  refine Jo 0 ?_; rintro a114 k115 rfl
  refine Jl [0] (Ent.cr1 (α := GNode) (A := []) _ (GNode.mk 2 i_17 (-1) (-1)) _ aB1 (fun h => ⟨rfl, aL1, aL1, aL1, aL1⟩)) ?_
  refine Oa (ApO [3, 0] sl31 sl31 sz31) fun c116 => ?_
  refine Jo 0 ?_; rintro a117 k118 rfl
  refine Fb 32 0 fun _ => ?_
  have hn120 := la out_40 ([(GNode.mk 2 i_17 (-1) (-1))] : List GNode)
  refine Oq Va (KS ?_)
  refine Oq Vm (Oq Vadd (Oq Va (KS ?_)))
  exact Kg (r30, (out_40 ++ [(GNode.mk 2 i_17 (-1) (-1))]), (i_17 + 1), a117, k118) [0, 2, 3] ⟨(q3 hM20 (by simp only [r7_List_L0, h12, h28, h56, hg4, hR112, cs4])), aM1, aM1, aM1, aM1, iv1⟩
 intro h28
 have g121 := df h28
 obtain rfl : r15 = 0 := by omega
 refine Ke ?_
 have hR122 := q2 hM20 out_16 (by simp only [r7_List_L0, h12, h28, hg4, cs4])
 refine KS ?_
 refine Oq Vm (Oq Va (KS ?_))
 refine Jl [0] (Ent.freeze _ _) ?_
 have hq := q4 hrr out_16 (by simp only [r7_List, h12, h28, hg4, hR122, cs4]); subst hq
 exact Kr (vl a18 k19 out_16) rfl (.tmp rfl .nil) [0] en
theorem fn55 (n : GNode) (hn_0 : i64ok n.Kind) (hn_1 : i64ok n.Func) (hn_2 : i64ok n.Block) (hn_3 : i64ok n.Stmt) (rr : Bool) (hrr : nd_inside n = rr) : FT Tryz.prog 55 #[.agg #[vi n.Kind, vi n.Func, vi n.Block, vi n.Stmt]] [] (fun g : Unit => True) (fun g => vb rr) (fun g => []) := by
 refine FTi Tryz.func55 fun w0 M0 F0 => ?_
 unfold i64ok at hn_0 hn_1 hn_2 hn_3
 refine KS ?_
 refine Oa (Ab [vi n.Kind, vi n.Func, vi n.Block, vi n.Stmt]) fun p1 => Oq Va (KS ?_)
 refine Oq (Vfa fo27_0 0) (Oq (VldF sh3 0) (Oq Veql (Oq Vm ?_)))
 refine Js 6 ?_ ?_
 ·intro h2
  have g3 := eq_of_beq h2
  refine Osk (Osk (Osk (Oq Vpt (Oq Va (KS ?_)))))
  have hq := q4 hrr true (by simp only [nd_inside, h2, cs4]); subst hq
  exact Kr () rfl (.tmp rfl .nil) [] trivial
 intro h2
 have g4 := ne_of_beq_false h2
 refine Oq (Vfa fo27_0 0) (Oq (VldF sh3 0) (Oq Veql (Oq Vpf (Oq Va (KS ?_)))))
 have hq := q4 hrr (n.Kind == 4) (by simp only [nd_inside, h2, cs4]); subst hq
 exact Kr () rfl (.tmp rfl .nil) [] trivial
theorem fn26 (p : GProgram) (pa0 : Option Addr) (pk0 : Nat) (n : GNode) (kwLA : Option Addr) (kwLK : Nat) (hn_0 : i64ok n.Kind) (hn_1 : i64ok n.Func) (hn_2 : i64ok n.Block) (hn_3 : i64ok n.Stmt) (hps : PSm p = true) (rr : GStmt × Bool) (hrr : nd_Stmt p n = rr) : FT Tryz.prog 26 #[.agg #[vl pa0 pk0 p.Funcs], .agg #[vi n.Kind, vi n.Func, vi n.Block, vi n.Stmt]] [S pa0 pk0 p.Funcs, pv (gp 0) [vl kwLA kwLK kwL], S kwLA kwLK kwL] (fun g : Value × Value => i64ok rr.1.Op ∧ rr.1.Def.b.length ≤ 140737488355328) (fun g => .tuple #[.agg #[vi rr.1.Op, .string (bs rr.1.Def), g.1, g.2], vb rr.2]) (fun g => [sl g.1 rr.1.Uses, sl g.2 rr.1.Targets]) := by
 refine FTi Tryz.func26 fun w0 M0 F0 => ?_
 unfold i64ok at hn_0 hn_1 hn_2 hn_3
 refine Fb 40 0 fun _ => Fb 16 2 fun _ => ?_
 refine FoS 2 fun ho3 => ?_
 refine KS ?_
 refine Oa (Ab [vl pa0 pk0 p.Funcs]) fun p4 => Oa (Ab [vi n.Kind, vi n.Func, vi n.Block, vi n.Stmt]) fun p5 => Oa (Al ze47 [vi 0, .string (bs (Str.mk [])), .slice none 0 0, .slice none 0 0]) fun p6 => Oq Va (KS ?_)
 refine Oq (VldA sh27 1) ?_
 refine letv (nd_inside n) fun rv7 hg8 => ?_
 have hc9 := fn55 n pre pre pre pre rv7 hg8
 refine Oc [] ca55 hc9 ?_
 rintro - -
 refine Oq Vnot (Oq Vm ?_)
 refine Js 9 ?_ ?_
 ·intro h10
  have h12 := not_true h10
  refine Osk (Osk (Osk (Osk (Oq Vpt (KS ?_)))))
  refine Kt (KS ?_)
  refine Oq (Vbd st47 [vi 0, .string (bs (Str.mk [])), .slice none 0 0, .slice none 0 0]) (Ost (Scl [0] sh47 [vi 0, .string (bs (Str.mk [])), .slice none 0 0, .slice none 0 0]) (Oq Va (KS ?_)))
  refine Jl [] (Ent.slNil (α := Str)) ?_
  have hq := q4 hrr ((GStmt.mk 0 (Str.mk []) [] []), false) (by simp only [nd_Stmt, h10, h12, hg8, cs4]); subst hq
  exact Kr (.slice none 0 0, .slice none 0 0) rfl (.cellN 1 rfl sh47 rfl (reads_Cl _ _) rfl (.tmp rfl .nil)) [0, 0] en
 intro h10
 have h15 := not_false h10
 refine Oq (VldA sh25 2) (Oq (VldA sh27 1) ?_)
 refine letv (nd_Find p n) fun rv17 hg18 => ?_
 have hc19 := fn28 p pa0 pk0 n kwLA kwLK pre pre pre pre pre rv17 hg18
 refine Oc [3, 4, 5] ca28 hc19 ?_
 rintro - ⟨he20, he21⟩
 unfold i64ok at he20
 refine Oq Vlss (Oq Vpf (KS ?_))
 refine Kc ?_ ?_
 ·intro h22
  have g23 := dt h22
  refine KS ?_
  refine Oq (Vbd st47 [vi 0, .string (bs (Str.mk [])), .slice none 0 0, .slice none 0 0]) (Ost (Scl [0] sh47 [vi 0, .string (bs (Str.mk [])), .slice none 0 0, .slice none 0 0]) (Oq Va (KS ?_)))
  refine Jl [] (Ent.slNil (α := Str)) ?_
  have hq := q4 hrr ((GStmt.mk 0 (Str.mk []) [] []), false) (by simp only [nd_Stmt, h10, h15, h22, hg8, hg18, cs4]); subst hq
  exact Kr (.slice none 0 0, .slice none 0 0) rfl (.cellN 1 rfl sh47 rfl (reads_Cl _ _) rfl (.tmp rfl .nil)) [0, 0] en
 intro h22
 have g24 := df h22
 have hN := Find_in (by assumption) h22
 obtain ⟨hN1, hN2⟩ := hN
 have hk := inside_k (by assumption) (by assumption)
 have hN3 := hN2 aM1 aM1
 refine KS ?_
 refine JJ_peek_GFunc n.Func.toNat 3 rfl rng fun a25 k26 hb27 => ?_
 refine Fb 40 1 fun _ => ?_
 refine JJ_peek_GBlock n.Block.toNat 1 rfl rng fun a29 k30 hb31 => ?_
 refine Fb 72 1 fun _ => ?_
 refine JJ_peek_GStmt n.Stmt.toNat 1 rfl rng fun a33 k34 a35 k36 hb37 hb38 => ?_
 unfold i64ok at hb37
 refine Fb 16 1 fun _ => ?_
 refine FoS 1 fun ho40 => ?_
 refine Fb 16 2 fun _ => ?_
 refine FoS 2 fun ho42 => ?_
 refine JK_drawK [0, 1, 0, 4, 15, 31, 63, 0, 128, 511, 1023, 2047, 0, 4096, 16383, 32767, 65535, 131071] fmix ?_
 refine Dv [9] (Vfa fo25_0 0) (Dv [9] (VldF sh23 0) (Dv [8] (Vfa fo27_1 0) (Dv [8] (VldF sh3 0) (Dv [10] (Vi sl23 0) (Dv [5] (Vfa fo41_1 0) (Dv [5] (VldF sh39 0) (Dv [8] (Vfa fo27_2 0) (Dv [8] (VldF sh3 0) (Dv [6] (Vi sl39 0) ?_)))))))))
 refine Dv [3] (Vfa fo44_1 0) (Dv [3] (VldF sh42 0) (Dv [8] (Vfa fo27_3 0) (Dv [8] (VldF sh3 0) (Dv [4] (Vi sl42 0) (Dv [0] (VldA sh47 0) (Dx0 [7] [7] [0] [fun G => Cl p6 [vi ((((((p.Funcs.getD n.Func.toNat default).Blocks).getD n.Block.toNat default).Stmts).getD n.Stmt.toNat default).Op), .string (bs ((((((p.Funcs.getD n.Func.toNat default).Blocks).getD n.Block.toNat default).Stmts).getD n.Stmt.toNat default).Def)), .slice a33 (((((((p.Funcs.getD n.Func.toNat default).Blocks).getD n.Block.toNat default).Stmts).getD n.Stmt.toNat default).Uses).length) k34, .slice a35 (((((((p.Funcs.getD n.Func.toNat default).Blocks).getD n.Block.toNat default).Stmts).getD n.Stmt.toNat default).Targets).length) k36]] (fun G => xS (Scl [0] sh47 [vi ((((((p.Funcs.getD n.Func.toNat default).Blocks).getD n.Block.toNat default).Stmts).getD n.Stmt.toNat default).Op), .string (bs ((((((p.Funcs.getD n.Func.toNat default).Blocks).getD n.Block.toNat default).Stmts).getD n.Stmt.toNat default).Def)), .slice a33 (((((((p.Funcs.getD n.Func.toNat default).Blocks).getD n.Block.toNat default).Stmts).getD n.Stmt.toNat default).Uses).length) k34, .slice a35 (((((((p.Funcs.getD n.Func.toNat default).Blocks).getD n.Block.toNat default).Stmts).getD n.Stmt.toNat default).Targets).length) k36])) (Dv [] Va ?_)))))))
 refine Dn ⟨by kernel_rfl, fun G => ?_⟩
 refine Jw2 [(4, p6), (5, vb true)] [0, 1, 2, 3, 4, 5, 6, 8, 9, 10, 11, 12] [Cl p6 [vi ((((((p.Funcs.getD n.Func.toNat default).Blocks).getD n.Block.toNat default).Stmts).getD n.Stmt.toNat default).Op), .string (bs ((((((p.Funcs.getD n.Func.toNat default).Blocks).getD n.Block.toNat default).Stmts).getD n.Stmt.toNat default).Def)), .slice a33 (((((((p.Funcs.getD n.Func.toNat default).Blocks).getD n.Block.toNat default).Stmts).getD n.Stmt.toNat default).Uses).length) k34, .slice a35 (((((((p.Funcs.getD n.Func.toNat default).Blocks).getD n.Block.toNat default).Stmts).getD n.Stmt.toNat default).Targets).length) k36]] ?_
 have hq := q4 hrr ((((((p.Funcs.getD n.Func.toNat default).Blocks).getD n.Block.toNat default).Stmts).getD n.Stmt.toNat default), true) (by simp only [nd_Stmt, h10, h15, h22, hg8, hg18, cs4]); subst hq
 exact Kr (.slice a33 (((((((p.Funcs.getD n.Func.toNat default).Blocks).getD n.Block.toNat default).Stmts).getD n.Stmt.toNat default).Uses).length) k34, .slice a35 (((((((p.Funcs.getD n.Func.toNat default).Blocks).getD n.Block.toNat default).Stmts).getD n.Stmt.toNat default).Targets).length) k36) rfl (.cellN 12 rfl sh47 rfl (reads_Cl _ _) rfl (.tmp rfl .nil)) [1, 2] en
theorem fn56 (l : List GNode) (la0 : Option Addr) (lk0 : Nat) (n : GNode) (hn_0 : i64ok n.Kind) (hn_1 : i64ok n.Func) (hn_2 : i64ok n.Block) (hn_3 : i64ok n.Stmt) (rr : Int) (hrr : r7_Index l n = rr) : FT Tryz.prog 56 #[vl la0 lk0 l, .agg #[vi n.Kind, vi n.Func, vi n.Block, vi n.Stmt]] [S la0 lk0 l] (fun g : Unit => i64ok rr ∧ (-1 ≤ rr ∧ rr < (l.length : Int))) (fun g => vi rr) (fun g => []) := by
 refine FTi Tryz.func56 fun w0 M0 F0 => ?_
 unfold i64ok at hn_0 hn_1 hn_2 hn_3
 refine Fb 32 0 fun _ => KS ?_
 refine Oa (Ab [vi n.Kind, vi n.Func, vi n.Block, vi n.Stmt]) fun p2 => Oq Va (KS ?_)
 refine Oq Va (KS ?_)
 refine Kl (γ := Nat × Int) (fun (r3, i_4) => ⟨[(0, vl la0 lk0 l), (3, p2), (5, vi i_4)], [pv p2 [vi n.Kind, vi n.Func, vi n.Block, vi n.Stmt], S la0 lk0 l], r7_Index_L0 l n r3 i_4 = r7_Index_L0 l n (((l.length : Int) - 0).toNat) 0 ∧ r3 = ((l.length : Int) - i_4).toNat ∧ (0 : Int) ≤ i_4 ∧ i_4 ≤ (l.length : Int) ∧ (-9223372036854775808 ≤ i_4 ∧ i_4 ≤ 9223372036854775807), r3⟩) (((l.length : Int) - 0).toNat, 0) [0, 1] ⟨rfl, rfl, aM1, aM1, aM1⟩ ?_
 rintro ⟨r3, i_4⟩ ⟨hM5, hr6, hi7, hi8, hk9⟩
 refine JJ_nx fun _ _ hL hA => ?_; dsimp only at hL hA; subst hL hA
 refine Fb 32 1 fun _ => KS ?_
 refine Oq Vm (Oq Vm (Oq (Vlen sl31) (Oq Vlss (KS ?_))))
 refine Kc ?_ ?_
 ·intro h11
  have g12 := dt h11
  obtain ⟨r13, rfl⟩ := scc (n := r3) aM1
  refine KS ?_
  refine JJ_peek_GNode i_4.toNat 1 rfl rng fun hb14 hb15 hb16 hb17 => ?_
  unfold i64ok at hb14 hb15 hb16 hb17
  refine Kq [0, 0, 3, 7, 0, 31] fmix ?_
  refine Qv [] Vm (Qv [] Vm (Qv [2] (Vi sl31 0) (Qv [0] (VldA sh27 0) (Qv [1] (VldA sh27 0) (Qv [] (VeqA eqi27 (l := [(l.getD i_4.toNat default).Kind, (l.getD i_4.toNat default).Func, (l.getD i_4.toNat default).Block, (l.getD i_4.toNat default).Stmt]) (m := [n.Kind, n.Func, n.Block, n.Stmt])) ?_)))))
  refine Qn ⟨by kernel_rfl, ?_⟩
  refine Kc ?_ ?_
  ·intro h18
   have g19 := eq_of_beq h18
   refine KS ?_
   refine Oq Vm (Oq Va (KS ?_))
   have hR20 := q2 hM5 (.ret i_4) (by simp only [r7_Index_L0, h11, h18, cs4])
   have hq := q4 hrr i_4 (by simp only [r7_Index, h11, h18, hR20, cs4]); subst hq
   exact Kr () rfl (.tmp rfl .nil) [] en
  intro h18
  have g21 := ne_of_beq_false h18
  refine KS ?_
  refine Oq Vm (Oq Vadd (Oq Va (KS ?_)))
  exact Kg (r13, (i_4 + 1)) [1, 2] ⟨(q3 hM5 (by simp only [r7_Index_L0, h11, h18, cs4])), aM1, aM1, aM1, aM1⟩
 intro h11
 have g22 := df h11
 obtain rfl : r3 = 0 := by omega
 refine Ke ?_
 have hR23 := q2 hM5 (.brk ()) (by simp only [r7_Index_L0, h11, cs4])
 refine KS ?_
 refine Oq Va (KS ?_)
 have hq := q4 hrr (-1) (by simp only [r7_Index, h11, hR23, cs4]); subst hq
 exact Kr () rfl (.tmp rfl .nil) [] en
theorem fn29 (p : GProgram) (pa0 : Option Addr) (pk0 : Nat) (n : GNode) (hn_0 : i64ok n.Kind) (hn_1 : i64ok n.Func) (hn_2 : i64ok n.Block) (hn_3 : i64ok n.Stmt) (rr : Int) (hrr : r7_Find p n = rr) : FT Tryz.prog 29 #[.agg #[vl pa0 pk0 p.Funcs], .agg #[vi n.Kind, vi n.Func, vi n.Block, vi n.Stmt]] [S pa0 pk0 p.Funcs] (fun g : Unit => i64ok rr ∧ (-1 ≤ rr ∧ rr ≤ 20000)) (fun g => vi rr) (fun g => []) := by
 refine FTi Tryz.func29 fun w0 M0 F0 => ?_
 unfold i64ok at hn_0 hn_1 hn_2 hn_3
 refine Fb 40 0 fun _ => KS ?_
 refine Oa (Ab [vl pa0 pk0 p.Funcs]) fun p2 => Oa (Ab [vi n.Kind, vi n.Func, vi n.Block, vi n.Stmt]) fun p3 => Oq Va (KS ?_)
 refine JK_drawK [0, 1, 0, 7, 15] fmix ?_
 refine Dv [1] (VldA sh25 0) ?_
 refine letv (r7_List p) fun rv5 hg6 => ?_
 refine Dx [2] [] [2, 0, 1] (fun G => (G.g 1 0)) [fun G => SP.fact ((rv5.length ≤ 20000)), fun G => sl (G.g 1 0) rv5] (fun G => xC [0] ca8 (fn8 p pa0 pk0 rv5 hg6)) (Dv [0] (VldA sh27 0) ?_)
 refine letv (r7_Index rv5 n) fun rv10 hg11 => ?_
 refine Dx [3, 4] [] [1, 2, 0] (fun G => vi rv10) [fun G => SP.fact (i64ok rv10 ∧ (-1 ≤ rv10 ∧ rv10 < (rv5.length : Int)))] (fun G => by refine xf 0 rfl ?_; rintro he12; exact xD [1] ca56 rfl rfl rfl (FT_open (γ := Unit) (I := fun g => i64ok rv10 ∧ (-1 ≤ rv10 ∧ rv10 < (rv5.length : Int))) (V := fun g => vi rv10) (B := fun g => []) (R := sl (G.g 1 0) rv5) sl_slice (fun aq7 kq8 eq9 => by rw [eq9]; exact FT_ent (Ent.take (is := [0]) rfl) (fn56 rv5 aq7 kq8 n pre pre pre pre rv10 hg11)))) (Dv [] Va ?_)
 refine Dn ⟨by kernel_rfl, fun G => ?_⟩
 refine Jw2 [(4, vi rv10)] [0, 1, 2] [SP.fact ((rv5.length ≤ 20000)), sl (G.g 1 0) rv5, SP.fact (i64ok rv10 ∧ (-1 ≤ rv10 ∧ rv10 < (rv5.length : Int)))] ?_
 generalize G.g 1 0 = c4
 refine Jf 3 rfl ?_; rintro he13
 refine Jf 5 rfl ?_; rintro ⟨he14, he15⟩
 unfold i64ok at he14
 refine Jk [0, 1, 2, 4] ?_
 refine Jo 3 ?_; rintro a16 k17 rfl
 refine Fb 32 3 fun _ => ?_
 have hq := q4 hrr rv10 (by simp only [r7_Find, hg6, hg11, cs4]); subst hq
 exact Kr () rfl (.tmp rfl .nil) [] en
theorem fn27 (p : GProgram) (pa0 : Option Addr) (pk0 : Nat) (n : GNode) (hn_0 : i64ok n.Kind) (hn_1 : i64ok n.Func) (hn_2 : i64ok n.Block) (hn_3 : i64ok n.Stmt) (rr : GStmt × Bool) (hrr : r7_Stmt p n = rr) : FT Tryz.prog 27 #[.agg #[vl pa0 pk0 p.Funcs], .agg #[vi n.Kind, vi n.Func, vi n.Block, vi n.Stmt]] [S pa0 pk0 p.Funcs] (fun g : Value × Value => i64ok rr.1.Op ∧ rr.1.Def.b.length ≤ 140737488355328) (fun g => .tuple #[.agg #[vi rr.1.Op, .string (bs rr.1.Def), g.1, g.2], vb rr.2]) (fun g => [sl g.1 rr.1.Uses, sl g.2 rr.1.Targets]) := by
 refine FTi Tryz.func27 fun w0 M0 F0 => ?_
 unfold i64ok at hn_0 hn_1 hn_2 hn_3
 refine Fb 40 0 fun _ => KS ?_
 refine Oa (Ab [vl pa0 pk0 p.Funcs]) fun p2 => Oa (Ab [vi n.Kind, vi n.Func, vi n.Block, vi n.Stmt]) fun p3 => Oa (Al ze47 [vi 0, .string (bs (Str.mk [])), .slice none 0 0, .slice none 0 0]) fun p4 => Oq Va (KS ?_)
 refine Oq (VldA sh25 2) (Oq (VldA sh27 1) ?_)
 refine letv (r7_Find p n) fun rv5 hg6 => ?_
 have hc7 := fn29 p pa0 pk0 n pre pre pre pre rv5 hg6
 refine Oc [3] ca29 hc7 ?_
 rintro - ⟨he8, he9⟩
 unfold i64ok at he8
 refine Oq Vlss (Oq Vm ?_)
 refine Js 10 ?_ ?_
 ·intro h10
  have g11 := dt h10
  refine Osk (Osk (Osk (Osk (Osk (Osk (Osk (Osk (Oq Vpt (KS ?_)))))))))
  refine Kt (KS ?_)
  refine Oq (Vbd st47 [vi 0, .string (bs (Str.mk [])), .slice none 0 0, .slice none 0 0]) (Ost (Scl [0] sh47 [vi 0, .string (bs (Str.mk [])), .slice none 0 0, .slice none 0 0]) (Oq Va (KS ?_)))
  refine Jl [] (Ent.slNil (α := Str)) ?_
  have hq := q4 hrr ((GStmt.mk 0 (Str.mk []) [] []), false) (by simp only [r7_Stmt, h10, hg6, cs4]); subst hq
  exact Kr (.slice none 0 0, .slice none 0 0) rfl (.cellN 1 rfl sh47 rfl (reads_Cl _ _) rfl (.tmp rfl .nil)) [0, 0] en
 intro h10
 have g12 := df h10
 have hN0 := Find7_in (by assumption) h10
 obtain ⟨hN1, hN2⟩ := hN0.1
 refine Oq (Vfa fo27_0 1) (Oq (VldF sh3 1) (Oq Vneq (Oq Vm ?_)))
 refine Js 14 ?_ ?_
 ·intro h13
  have g14 := ne_of_bne h13
  refine Oq (Vfa fo27_0 1) (Oq (VldF sh3 1) (Oq Vneq (Oq Vpt (Oq Vpf (KS ?_)))))
  refine Kc ?_ ?_
  ·intro h15
   have g16 := ne_of_bne h15
   refine KS ?_
   refine Oq (Vbd st47 [vi 0, .string (bs (Str.mk [])), .slice none 0 0, .slice none 0 0]) (Ost (Scl [0] sh47 [vi 0, .string (bs (Str.mk [])), .slice none 0 0, .slice none 0 0]) (Oq Va (KS ?_)))
   refine Jl [] (Ent.slNil (α := Str)) ?_
   have hq := q4 hrr ((GStmt.mk 0 (Str.mk []) [] []), false) (by simp only [r7_Stmt, h10, h13, h15, hg6, cs4]); subst hq
   exact Kr (.slice none 0 0, .slice none 0 0) rfl (.cellN 1 rfl sh47 rfl (reads_Cl _ _) rfl (.tmp rfl .nil)) [0, 0] en
  intro h15
  have g17 := eq_of_bne_false h15
  refine KS ?_
  refine JJ_peek_GFunc n.Func.toNat 3 rfl rng fun a18 k19 hb20 => ?_
  refine Fb 40 1 fun _ => ?_
  refine JJ_peek_GBlock n.Block.toNat 1 rfl rng fun a22 k23 hb24 => ?_
  refine Fb 72 1 fun _ => ?_
  refine JJ_peek_GStmt n.Stmt.toNat 1 rfl rng fun a26 k27 a28 k29 hb30 hb31 => ?_
  unfold i64ok at hb30
  refine Fb 16 1 fun _ => ?_
  refine FoS 1 fun ho33 => ?_
  refine Fb 16 2 fun _ => ?_
  refine FoS 2 fun ho35 => ?_
  refine JK_drawK [0, 1, 0, 4, 15, 31, 63, 0, 128, 511, 1023, 2047, 0, 4096, 16383, 32767, 65535, 131071] fmix ?_
  refine Dv [9] (Vfa fo25_0 0) (Dv [9] (VldF sh23 0) (Dv [8] (Vfa fo27_1 0) (Dv [8] (VldF sh3 0) (Dv [10] (Vi sl23 0) (Dv [5] (Vfa fo41_1 0) (Dv [5] (VldF sh39 0) (Dv [8] (Vfa fo27_2 0) (Dv [8] (VldF sh3 0) (Dv [6] (Vi sl39 0) ?_)))))))))
  refine Dv [3] (Vfa fo44_1 0) (Dv [3] (VldF sh42 0) (Dv [8] (Vfa fo27_3 0) (Dv [8] (VldF sh3 0) (Dv [4] (Vi sl42 0) (Dv [0] (VldA sh47 0) (Dx0 [7] [7] [0] [fun G => Cl p4 [vi ((((((p.Funcs.getD n.Func.toNat default).Blocks).getD n.Block.toNat default).Stmts).getD n.Stmt.toNat default).Op), .string (bs ((((((p.Funcs.getD n.Func.toNat default).Blocks).getD n.Block.toNat default).Stmts).getD n.Stmt.toNat default).Def)), .slice a26 (((((((p.Funcs.getD n.Func.toNat default).Blocks).getD n.Block.toNat default).Stmts).getD n.Stmt.toNat default).Uses).length) k27, .slice a28 (((((((p.Funcs.getD n.Func.toNat default).Blocks).getD n.Block.toNat default).Stmts).getD n.Stmt.toNat default).Targets).length) k29]] (fun G => xS (Scl [0] sh47 [vi ((((((p.Funcs.getD n.Func.toNat default).Blocks).getD n.Block.toNat default).Stmts).getD n.Stmt.toNat default).Op), .string (bs ((((((p.Funcs.getD n.Func.toNat default).Blocks).getD n.Block.toNat default).Stmts).getD n.Stmt.toNat default).Def)), .slice a26 (((((((p.Funcs.getD n.Func.toNat default).Blocks).getD n.Block.toNat default).Stmts).getD n.Stmt.toNat default).Uses).length) k27, .slice a28 (((((((p.Funcs.getD n.Func.toNat default).Blocks).getD n.Block.toNat default).Stmts).getD n.Stmt.toNat default).Targets).length) k29])) (Dv [] Va ?_)))))))
  refine Dn ⟨by kernel_rfl, fun G => ?_⟩
  refine Jw2 [(4, p4), (5, vb true)] [0, 1, 2, 3, 4, 5, 6, 8, 9, 10] [Cl p4 [vi ((((((p.Funcs.getD n.Func.toNat default).Blocks).getD n.Block.toNat default).Stmts).getD n.Stmt.toNat default).Op), .string (bs ((((((p.Funcs.getD n.Func.toNat default).Blocks).getD n.Block.toNat default).Stmts).getD n.Stmt.toNat default).Def)), .slice a26 (((((((p.Funcs.getD n.Func.toNat default).Blocks).getD n.Block.toNat default).Stmts).getD n.Stmt.toNat default).Uses).length) k27, .slice a28 (((((((p.Funcs.getD n.Func.toNat default).Blocks).getD n.Block.toNat default).Stmts).getD n.Stmt.toNat default).Targets).length) k29]] ?_
  have hq := q4 hrr ((((((p.Funcs.getD n.Func.toNat default).Blocks).getD n.Block.toNat default).Stmts).getD n.Stmt.toNat default), true) (by simp only [r7_Stmt, h10, h13, h15, hg6, cs4]); subst hq
  exact Kr (.slice a26 (((((((p.Funcs.getD n.Func.toNat default).Blocks).getD n.Block.toNat default).Stmts).getD n.Stmt.toNat default).Uses).length) k27, .slice a28 (((((((p.Funcs.getD n.Func.toNat default).Blocks).getD n.Block.toNat default).Stmts).getD n.Stmt.toNat default).Targets).length) k29) rfl (.cellN 10 rfl sh47 rfl (reads_Cl _ _) rfl (.tmp rfl .nil)) [1, 2] en
 intro h13
 have g36 := eq_of_bne_false h13
 refine Osk (Osk (Osk (Oq Vpf (Oq Vpf (KS ?_)))))
 refine Kf (KS ?_)
 refine JJ_peek_GFunc n.Func.toNat 3 rfl rng fun a37 k38 hb39 => ?_
 refine Fb 40 1 fun _ => ?_
 refine JJ_peek_GBlock n.Block.toNat 1 rfl rng fun a41 k42 hb43 => ?_
 refine Fb 72 1 fun _ => ?_
 refine JJ_peek_GStmt n.Stmt.toNat 1 rfl rng fun a45 k46 a47 k48 hb49 hb50 => ?_
 unfold i64ok at hb49
 refine Fb 16 1 fun _ => ?_
 refine FoS 1 fun ho52 => ?_
 refine Fb 16 2 fun _ => ?_
 refine FoS 2 fun ho54 => ?_
 refine JK_drawK [0, 1, 0, 4, 15, 31, 63, 0, 128, 511, 1023, 2047, 0, 4096, 16383, 32767, 65535, 131071] fmix ?_
 refine Dv [9] (Vfa fo25_0 0) (Dv [9] (VldF sh23 0) (Dv [8] (Vfa fo27_1 0) (Dv [8] (VldF sh3 0) (Dv [10] (Vi sl23 0) (Dv [5] (Vfa fo41_1 0) (Dv [5] (VldF sh39 0) (Dv [8] (Vfa fo27_2 0) (Dv [8] (VldF sh3 0) (Dv [6] (Vi sl39 0) ?_)))))))))
 refine Dv [3] (Vfa fo44_1 0) (Dv [3] (VldF sh42 0) (Dv [8] (Vfa fo27_3 0) (Dv [8] (VldF sh3 0) (Dv [4] (Vi sl42 0) (Dv [0] (VldA sh47 0) (Dx0 [7] [7] [0] [fun G => Cl p4 [vi ((((((p.Funcs.getD n.Func.toNat default).Blocks).getD n.Block.toNat default).Stmts).getD n.Stmt.toNat default).Op), .string (bs ((((((p.Funcs.getD n.Func.toNat default).Blocks).getD n.Block.toNat default).Stmts).getD n.Stmt.toNat default).Def)), .slice a45 (((((((p.Funcs.getD n.Func.toNat default).Blocks).getD n.Block.toNat default).Stmts).getD n.Stmt.toNat default).Uses).length) k46, .slice a47 (((((((p.Funcs.getD n.Func.toNat default).Blocks).getD n.Block.toNat default).Stmts).getD n.Stmt.toNat default).Targets).length) k48]] (fun G => xS (Scl [0] sh47 [vi ((((((p.Funcs.getD n.Func.toNat default).Blocks).getD n.Block.toNat default).Stmts).getD n.Stmt.toNat default).Op), .string (bs ((((((p.Funcs.getD n.Func.toNat default).Blocks).getD n.Block.toNat default).Stmts).getD n.Stmt.toNat default).Def)), .slice a45 (((((((p.Funcs.getD n.Func.toNat default).Blocks).getD n.Block.toNat default).Stmts).getD n.Stmt.toNat default).Uses).length) k46, .slice a47 (((((((p.Funcs.getD n.Func.toNat default).Blocks).getD n.Block.toNat default).Stmts).getD n.Stmt.toNat default).Targets).length) k48])) (Dv [] Va ?_)))))))
 refine Dn ⟨by kernel_rfl, fun G => ?_⟩
 refine Jw2 [(4, p4), (5, vb true)] [0, 1, 2, 3, 4, 5, 6, 8, 9, 10] [Cl p4 [vi ((((((p.Funcs.getD n.Func.toNat default).Blocks).getD n.Block.toNat default).Stmts).getD n.Stmt.toNat default).Op), .string (bs ((((((p.Funcs.getD n.Func.toNat default).Blocks).getD n.Block.toNat default).Stmts).getD n.Stmt.toNat default).Def)), .slice a45 (((((((p.Funcs.getD n.Func.toNat default).Blocks).getD n.Block.toNat default).Stmts).getD n.Stmt.toNat default).Uses).length) k46, .slice a47 (((((((p.Funcs.getD n.Func.toNat default).Blocks).getD n.Block.toNat default).Stmts).getD n.Stmt.toNat default).Targets).length) k48]] ?_
 have hq := q4 hrr ((((((p.Funcs.getD n.Func.toNat default).Blocks).getD n.Block.toNat default).Stmts).getD n.Stmt.toNat default), true) (by simp only [r7_Stmt, h10, h13, hg6, cs4]); subst hq
 exact Kr (.slice a45 (((((((p.Funcs.getD n.Func.toNat default).Blocks).getD n.Block.toNat default).Stmts).getD n.Stmt.toNat default).Uses).length) k46, .slice a47 (((((((p.Funcs.getD n.Func.toNat default).Blocks).getD n.Block.toNat default).Stmts).getD n.Stmt.toNat default).Targets).length) k48) rfl (.cellN 10 rfl sh47 rfl (reads_Cl _ _) rfl (.tmp rfl .nil)) [1, 2] en
theorem fn58 (n : Int) (hn_0 : i64ok n) (hn : 0 ≤ n ∧ n ≤ 1000000000) (rr : Str) (hrr : r1_Decimal n = rr) : FT Tryz.prog 58 #[vi n] [] (fun g : Unit => rr.b.length ≤ 140737488355328 ∧ ((rr.b.length : Int) ≤ 1 + n / 10)) (fun g => .string (bs rr)) (fun g => []) := by
 refine FTi Tryz.func58 fun w0 M0 F0 => ?_
 unfold i64ok at hn_0
 refine KS ?_
 refine Oq Va (KS ?_)
 refine Oq Vm (Oq Vrem (Oq Vm (Oq Vrem (Oq Vadd ?_))))
 have hb1 : (Str.mk [48, 49, 50, 51, 52, 53, 54, 55, 56, 57]).b.length = 10 := rfl
 refine Oq (VslS un9 (l := (Str.mk [48, 49, 50, 51, 52, 53, 54, 55, 56, 57]))) ?_
 have hb2 := sub_len3 (Str.mk [48, 49, 50, 51, 52, 53, 54, 55, 56, 57]) ((n % 10) : Int).toNat (((n % 10) + 1) : Int).toNat
 refine Oq Va (KS ?_)
 refine Oq Vm (Oq Vquo (Oq Va (KS ?_)))
 have hterm10 : r1_Decimal_L0 ((n / 10).toNat + 1) (n / 10) ((Str.mk [48, 49, 50, 51, 52, 53, 54, 55, 56, 57]).sub ((n % 10) : Int).toNat (((n % 10) + 1) : Int).toNat) ≠ LR.oof := (Decimal_term _ _ _ aM1)
 refine Kl (γ := Nat × Int × Str) (fun (r3, n_4, s_5) => ⟨[(3, .string (bs s_5)), (0, vi n_4)], [], r1_Decimal_L0 r3 n_4 s_5 = r1_Decimal_L0 ((n / 10).toNat + 1) (n / 10) ((Str.mk [48, 49, 50, 51, 52, 53, 54, 55, 56, 57]).sub ((n % 10) : Int).toNat (((n % 10) + 1) : Int).toNat) ∧ (-9223372036854775808 ≤ n_4 ∧ n_4 ≤ 9223372036854775807) ∧ s_5.b.length ≤ 140737488355328 ∧ (0 ≤ n_4 ∧ (s_5.b.length : Int) + n_4 ≤ 1 + n / 10), r3⟩) (((n / 10).toNat + 1), (n / 10), ((Str.mk [48, 49, 50, 51, 52, 53, 54, 55, 56, 57]).sub ((n % 10) : Int).toNat (((n % 10) + 1) : Int).toNat)) [] ⟨rfl, aM1, (by first | omega | (simp; done)), iv0⟩ ?_
 rintro ⟨r3, n_4, s_5⟩ ⟨hM6, hk7, hk8, hv9⟩
 refine JJ_nx fun _ _ hL hA => ?_; dsimp only at hL hA; subst hL hA
 rcases r3 with _ | r3
 ·exact absurd (hM6.symm.trans rfl) hterm10
 refine KS ?_
 refine Oq Vm (Oq Vgtr (KS ?_))
 refine Kc ?_ ?_
 ·intro h11
  have g12 := dt h11
  refine KS ?_
  refine Oq Vm (Oq Vrem (Oq Vm (Oq Vrem (Oq Vadd ?_))))
  have hb13 : (Str.mk [48, 49, 50, 51, 52, 53, 54, 55, 56, 57]).b.length = 10 := rfl
  refine Oq (VslS un9 (l := (Str.mk [48, 49, 50, 51, 52, 53, 54, 55, 56, 57]))) ?_
  have hb14 := sub_len3 (Str.mk [48, 49, 50, 51, 52, 53, 54, 55, 56, 57]) ((n_4 % 10) : Int).toNat (((n_4 % 10) + 1) : Int).toNat
  refine Oq Vm ?_
  have hb15 := sadd_len ((Str.mk [48, 49, 50, 51, 52, 53, 54, 55, 56, 57]).sub ((n_4 % 10) : Int).toNat (((n_4 % 10) + 1) : Int).toNat) s_5
  refine Oq (VadS (l := ((Str.mk [48, 49, 50, 51, 52, 53, 54, 55, 56, 57]).sub ((n_4 % 10) : Int).toNat (((n_4 % 10) + 1) : Int).toNat)) (m := s_5)) (Oq Va (KS ?_))
  refine Oq Vm (Oq Vquo (Oq Va (KS ?_)))
  exact Kg (r3, (n_4 / 10), (((Str.mk [48, 49, 50, 51, 52, 53, 54, 55, 56, 57]).sub ((n_4 % 10) : Int).toNat (((n_4 % 10) + 1) : Int).toNat) ++ s_5)) [] ⟨(q3 hM6 (by simp only [r1_Decimal_L0, h11, cs4])), aM1, aM1, iv1⟩
 intro h11
 have g16 := df h11
 refine Ke ?_
 have hR17 := q2 hM6 (.brk s_5) (by simp only [r1_Decimal_L0, h11, cs4])
 refine KS ?_
 refine Oq Vm (Oq Va (KS ?_))
 have hq := q4 hrr s_5 (by simp only [r1_Decimal, h11, hR17, cs4]); subst hq
 exact Kr () rfl (.tmp rfl .nil) [] en
theorem fn31 (p : GProgram) (pa0 : Option Addr) (pk0 : Nat) (n : GNode) (hn_0 : i64ok n.Kind) (hn_1 : i64ok n.Func) (hn_2 : i64ok n.Block) (hn_3 : i64ok n.Stmt) (rr : Str) (hrr : r7_Label p n = rr) : FT Tryz.prog 31 #[.agg #[vl pa0 pk0 p.Funcs], .agg #[vi n.Kind, vi n.Func, vi n.Block, vi n.Stmt]] [S pa0 pk0 p.Funcs] (fun g : Unit => rr.b.length ≤ 140737488355328 ∧ (rr.b.length ≤ 5000)) (fun g => .string (bs rr)) (fun g => []) := by
 refine FTi Tryz.func31 fun w0 M0 F0 => ?_
 unfold i64ok at hn_0 hn_1 hn_2 hn_3
 refine Fb 40 0 fun _ => KS ?_
 refine Oa (Ab [vl pa0 pk0 p.Funcs]) fun p2 => Oa (Ab [vi n.Kind, vi n.Func, vi n.Block, vi n.Stmt]) fun p3 => Oq Va (KS ?_)
 refine Oq (VldA sh25 1) (Oq (VldA sh27 0) ?_)
 refine letv (r7_Find p n) fun rv4 hg5 => ?_
 have hc6 := fn29 p pa0 pk0 n pre pre pre pre rv4 hg5
 refine Oc [2] ca29 hc6 ?_
 rintro - ⟨he7, he8⟩
 unfold i64ok at he7
 refine Oq Vlss (KS ?_)
 refine Kc ?_ ?_
 ·intro h9
  have g10 := dt h9
  refine KS ?_
  refine Oq Va (KS ?_)
  have hq := q4 hrr (Str.mk []) (by simp only [r7_Label, h9, hg5, cs4]); subst hq
  exact Kr () rfl (.tmp rfl .nil) [] en
 intro h9
 have g11 := df h9
 have hN0 := Find7_in (by assumption) h9
 have hsm := Valid_SmP hN0.2
 obtain ⟨hN1, hN2⟩ := hN0.1
 have hf1 := (SmP_f hsm n.Func.toNat).1
 have hb1 := ((SmP_f hsm n.Func.toNat).2 n.Block.toNat aM1).1
 refine KS ?_
 refine Oq (Vfa fo25_0 1) (Oq (VldF sh23 1) (Oq (Vfa fo27_1 0) (Oq (VldF sh3 0) (Oq (Vi sl23 2) ?_))))
 refine JJ_peek_GFunc n.Func.toNat 2 rfl rng fun a12 k13 hb14 => ?_
 refine Fb 40 1 fun _ => ?_
 refine Oq (VldA sh41 0) (Oa (Al ze41 [.string (bs (Str.mk [])), .slice none 0 0]) fun p16 => Ost (Scl [0] sh41 [.string (bs ((p.Funcs.getD n.Func.toNat default).Name)), vl a12 k13 ((p.Funcs.getD n.Func.toNat default).Blocks)]) (KS ?_))
 refine Oq (Vfa fo27_0 3) (Oq (VldF sh3 3) (KS ?_))
 refine Oq Veql (Oq Va (KS ?_))
 refine Kc ?_ ?_
 ·intro h17
  have g18 := eq_of_beq h17
  refine KS ?_
  refine Oq (Vfa fo41_0 0) (Oq (VldF sh9 0) ?_)
  have hb19 := sadd_len ((p.Funcs.getD n.Func.toNat default).Name) (Str.mk [46, 101, 110, 116, 114, 121])
  have hb20 : (Str.mk [46, 101, 110, 116, 114, 121]).b.length = 6 := rfl
  refine Oq (VadS (l := (p.Funcs.getD n.Func.toNat default).Name) (m := (Str.mk [46, 101, 110, 116, 114, 121]))) (Oq Va (KS ?_))
  have hq := q4 hrr ((p.Funcs.getD n.Func.toNat default).Name ++ (Str.mk [46, 101, 110, 116, 114, 121])) (by simp only [r7_Label, h9, h17, hg5, cs4]); subst hq
  exact Kr () rfl (.tmp rfl .nil) [] en
 intro h17
 have g21 := ne_of_beq_false h17
 refine KS ?_
 refine Oq Veql (Oq Va (KS ?_))
 refine Kc ?_ ?_
 ·intro h22
  have g23 := eq_of_beq h22
  refine KS ?_
  refine Oq (Vfa fo41_0 0) (Oq (VldF sh9 0) ?_)
  have hb24 := sadd_len ((p.Funcs.getD n.Func.toNat default).Name) (Str.mk [46, 101, 120, 105, 116])
  have hb25 : (Str.mk [46, 101, 120, 105, 116]).b.length = 5 := rfl
  refine Oq (VadS (l := (p.Funcs.getD n.Func.toNat default).Name) (m := (Str.mk [46, 101, 120, 105, 116]))) (Oq Va (KS ?_))
  have hq := q4 hrr ((p.Funcs.getD n.Func.toNat default).Name ++ (Str.mk [46, 101, 120, 105, 116])) (by simp only [r7_Label, h9, h17, h22, hg5, cs4]); subst hq
  exact Kr () rfl (.tmp rfl .nil) [] en
 intro h22
 have g26 := ne_of_beq_false h22
 have hN3 := hN2 (by assumption) (by simpa using h22)
 refine KS ?_
 refine Oq Veql (Oq Va (KS ?_))
 refine Kc ?_ ?_
 ·intro h27
  have g28 := eq_of_beq h27
  refine KS ?_
  refine Jp 0 fun hp29 => ?_
  refine JJ_peek_GBlock n.Block.toNat 3 rfl rng fun a30 k31 hb32 => ?_
  refine Fb 72 1 fun _ => ?_
  refine JK_drawK [0, 1, 3, 0, 8, 0, 32, 120, 248, 504, 1023, 2047, 0, 4096, 12288, 32767, 65535, 131071] fmix ?_
  refine Dv [2] (Vfa fo41_0 0) (Dv [3] (VldF sh9 0) ?_)
  have hb34 := sadd_len ((p.Funcs.getD n.Func.toNat default).Name) (Str.mk [46])
  have hb35 : (Str.mk [46]).b.length = 1 := rfl
  refine Dv [] (VadS (l := (p.Funcs.getD n.Func.toNat default).Name) (m := (Str.mk [46]))) (Dv [2] (Vfa fo41_1 0) (Dv [3] (VldF sh39 0) (Dv [6] (Vfa fo27_2 0) (Dv [6] (VldF sh3 0) (Dv [5] (Vi sl39 0) (Dv [0] (Vfa fo44_0 0) (Dv [0] (VldF sh9 0) ?_)))))))
  have hb36 := sadd_len ((p.Funcs.getD n.Func.toNat default).Name ++ (Str.mk [46])) ((((p.Funcs.getD n.Func.toNat default).Blocks).getD n.Block.toNat default).Name)
  refine Dv [] (VadS (l := ((p.Funcs.getD n.Func.toNat default).Name ++ (Str.mk [46]))) (m := (((p.Funcs.getD n.Func.toNat default).Blocks).getD n.Block.toNat default).Name)) ?_
  have hb37 := sadd_len (((p.Funcs.getD n.Func.toNat default).Name ++ (Str.mk [46])) ++ (((p.Funcs.getD n.Func.toNat default).Blocks).getD n.Block.toNat default).Name) (Str.mk [46])
  have hb38 : (Str.mk [46]).b.length = 1 := rfl
  refine Dv [] (VadS (l := (((p.Funcs.getD n.Func.toNat default).Name ++ (Str.mk [46])) ++ (((p.Funcs.getD n.Func.toNat default).Blocks).getD n.Block.toNat default).Name)) (m := (Str.mk [46]))) (Dv [6] (Vfa fo27_3 0) (Dv [6] (VldF sh3 0) ?_))
  refine letv (r1_Decimal n.Stmt) fun rv39 hg40 => ?_
  have hI := Dec_len hg40 aM1
  refine Dx [] [] [0] (fun G => .string (bs rv39)) [fun G => SP.fact (rv39.b.length ≤ 140737488355328 ∧ ((rv39.b.length : Int) ≤ 1 + n.Stmt / 10))] (fun G => xC [] ca58 (fn58 n.Stmt pre pre rv39 hg40)) ?_
  have hb41 := sadd_len ((((p.Funcs.getD n.Func.toNat default).Name ++ (Str.mk [46])) ++ (((p.Funcs.getD n.Func.toNat default).Blocks).getD n.Block.toNat default).Name) ++ (Str.mk [46])) rv39
  refine Dv [] (VadS (l := ((((p.Funcs.getD n.Func.toNat default).Name ++ (Str.mk [46])) ++ (((p.Funcs.getD n.Func.toNat default).Blocks).getD n.Block.toNat default).Name) ++ (Str.mk [46]))) (m := rv39)) ?_
  have hb42 := sadd_len (((((p.Funcs.getD n.Func.toNat default).Name ++ (Str.mk [46])) ++ (((p.Funcs.getD n.Func.toNat default).Blocks).getD n.Block.toNat default).Name) ++ (Str.mk [46])) ++ rv39) (Str.mk [43])
  have hb43 : (Str.mk [43]).b.length = 1 := rfl
  refine Dv [] (VadS (l := (((((p.Funcs.getD n.Func.toNat default).Name ++ (Str.mk [46])) ++ (((p.Funcs.getD n.Func.toNat default).Blocks).getD n.Block.toNat default).Name) ++ (Str.mk [46])) ++ rv39)) (m := (Str.mk [43]))) (Dv [] Va ?_)
  refine Dn ⟨by kernel_rfl, fun G => ?_⟩
  refine Jw2 [(4, .string (bs ((((((p.Funcs.getD n.Func.toNat default).Name ++ (Str.mk [46])) ++ (((p.Funcs.getD n.Func.toNat default).Blocks).getD n.Block.toNat default).Name) ++ (Str.mk [46])) ++ rv39) ++ (Str.mk [43]))))] [0, 1, 2, 3, 4, 5, 6, 7, 8] [SP.fact (rv39.b.length ≤ 140737488355328 ∧ ((rv39.b.length : Int) ≤ 1 + n.Stmt / 10))] ?_
  refine Jf 9 rfl ?_; rintro ⟨he44, he45⟩
  refine Jk [0, 1, 3, 3, 4, 5, 6, 7] ?_
  have hq := q4 hrr ((((((p.Funcs.getD n.Func.toNat default).Name ++ (Str.mk [46])) ++ (((p.Funcs.getD n.Func.toNat default).Blocks).getD n.Block.toNat default).Name) ++ (Str.mk [46])) ++ rv39) ++ (Str.mk [43])) (by simp only [r7_Label, h9, h17, h22, h27, hg5, hg40, cs4]); subst hq
  exact Kr () rfl (.tmp rfl .nil) [] en
 intro h27
 have g46 := ne_of_beq_false h27
 refine KS ?_
 refine Jp 0 fun hp47 => ?_
 refine JJ_peek_GBlock n.Block.toNat 3 rfl rng fun a48 k49 hb50 => ?_
 refine Fb 72 1 fun _ => ?_
 refine JK_drawK [0, 1, 3, 0, 8, 0, 32, 120, 248, 504, 1023, 2047, 0, 4096, 12288, 32767, 65535] fmix ?_
 refine Dv [2] (Vfa fo41_0 0) (Dv [3] (VldF sh9 0) ?_)
 have hb52 := sadd_len ((p.Funcs.getD n.Func.toNat default).Name) (Str.mk [46])
 have hb53 : (Str.mk [46]).b.length = 1 := rfl
 refine Dv [] (VadS (l := (p.Funcs.getD n.Func.toNat default).Name) (m := (Str.mk [46]))) (Dv [2] (Vfa fo41_1 0) (Dv [3] (VldF sh39 0) (Dv [6] (Vfa fo27_2 0) (Dv [6] (VldF sh3 0) (Dv [5] (Vi sl39 0) (Dv [0] (Vfa fo44_0 0) (Dv [0] (VldF sh9 0) ?_)))))))
 have hb54 := sadd_len ((p.Funcs.getD n.Func.toNat default).Name ++ (Str.mk [46])) ((((p.Funcs.getD n.Func.toNat default).Blocks).getD n.Block.toNat default).Name)
 refine Dv [] (VadS (l := ((p.Funcs.getD n.Func.toNat default).Name ++ (Str.mk [46]))) (m := (((p.Funcs.getD n.Func.toNat default).Blocks).getD n.Block.toNat default).Name)) ?_
 have hb55 := sadd_len (((p.Funcs.getD n.Func.toNat default).Name ++ (Str.mk [46])) ++ (((p.Funcs.getD n.Func.toNat default).Blocks).getD n.Block.toNat default).Name) (Str.mk [46])
 have hb56 : (Str.mk [46]).b.length = 1 := rfl
 refine Dv [] (VadS (l := (((p.Funcs.getD n.Func.toNat default).Name ++ (Str.mk [46])) ++ (((p.Funcs.getD n.Func.toNat default).Blocks).getD n.Block.toNat default).Name)) (m := (Str.mk [46]))) (Dv [6] (Vfa fo27_3 0) (Dv [6] (VldF sh3 0) ?_))
 refine letv (r1_Decimal n.Stmt) fun rv57 hg58 => ?_
 have hI := Dec_len hg58 aM1
 refine Dx [] [] [0] (fun G => .string (bs rv57)) [fun G => SP.fact (rv57.b.length ≤ 140737488355328 ∧ ((rv57.b.length : Int) ≤ 1 + n.Stmt / 10))] (fun G => xC [] ca58 (fn58 n.Stmt pre pre rv57 hg58)) ?_
 have hb59 := sadd_len ((((p.Funcs.getD n.Func.toNat default).Name ++ (Str.mk [46])) ++ (((p.Funcs.getD n.Func.toNat default).Blocks).getD n.Block.toNat default).Name) ++ (Str.mk [46])) rv57
 refine Dv [] (VadS (l := ((((p.Funcs.getD n.Func.toNat default).Name ++ (Str.mk [46])) ++ (((p.Funcs.getD n.Func.toNat default).Blocks).getD n.Block.toNat default).Name) ++ (Str.mk [46]))) (m := rv57)) (Dv [] Va ?_)
 refine Dn ⟨by kernel_rfl, fun G => ?_⟩
 refine Jw2 [(4, .string (bs (((((p.Funcs.getD n.Func.toNat default).Name ++ (Str.mk [46])) ++ (((p.Funcs.getD n.Func.toNat default).Blocks).getD n.Block.toNat default).Name) ++ (Str.mk [46])) ++ rv57)))] [0, 1, 2, 3, 4, 5, 6, 7, 8] [SP.fact (rv57.b.length ≤ 140737488355328 ∧ ((rv57.b.length : Int) ≤ 1 + n.Stmt / 10))] ?_
 refine Jf 9 rfl ?_; rintro ⟨he60, he61⟩
 refine Jk [0, 1, 3, 3, 4, 5, 6, 7] ?_
 have hq := q4 hrr (((((p.Funcs.getD n.Func.toNat default).Name ++ (Str.mk [46])) ++ (((p.Funcs.getD n.Func.toNat default).Blocks).getD n.Block.toNat default).Name) ++ (Str.mk [46])) ++ rv57) (by simp only [r7_Label, h9, h17, h22, h27, hg5, hg58, cs4]); subst hq
 exact Kr () rfl (.tmp rfl .nil) [] en
theorem fn59 (l : List Str) (la0 : Option Addr) (lk0 : Nat) (hw : SmT SmW l 0 ∧ l.length ≤ 600000000) (rr : Str) (hrr : r4_words l = rr) : FT Tryz.prog 59 #[vl la0 lk0 l] [S la0 lk0 l] (fun g : Unit => rr.b.length ≤ 140737488355328 ∧ (rr.b.length ≤ 600600000000)) (fun g => .string (bs rr)) (fun g => []) := by
 refine FTi Tryz.func59 fun w0 M0 F0 => Fb 16 0 fun _ => ?_
 refine FoS 0 fun ho2 => ?_
 refine KS ?_
 refine Oq Va (KS ?_)
 refine Oq Va (KS ?_)
 refine Oq Va (KS ?_)
 refine Kl (γ := Nat × Str × Int) (fun (r3, s_4, i_5) => ⟨[(0, vl la0 lk0 l), (3, .string (bs s_4)), (4, vi i_5)], [S la0 lk0 l], r4_words_L0 l r3 s_4 i_5 = r4_words_L0 l (((l.length : Int) - 0).toNat) (Str.mk []) 0 ∧ r3 = ((l.length : Int) - i_5).toNat ∧ (0 : Int) ≤ i_5 ∧ i_5 ≤ (l.length : Int) ∧ s_4.b.length ≤ 140737488355328 ∧ (-9223372036854775808 ≤ i_5 ∧ i_5 ≤ 9223372036854775807) ∧ ((s_4.b.length : Int) ≤ 1001 * i_5), r3⟩) (((l.length : Int) - 0).toNat, (Str.mk []), 0) [0] ⟨rfl, rfl, aM1, aM1, (by first | omega | (simp; done)), aM1, (by show ((0 : Nat) : Int) ≤ _; omega)⟩ ?_
 rintro ⟨r3, s_4, i_5⟩ ⟨hM6, hr7, hi8, hi9, hk10, hk11, hv12⟩
 refine JJ_nx fun _ _ hL hA => ?_; dsimp only at hL hA; subst hL hA
 refine Fb 16 0 fun _ => ?_
 refine FoS 0 fun ho14 => ?_
 refine KS ?_
 refine Oq Vm (Oq Vm (Oq (Vlen sl45) (Oq Vlss (KS ?_))))
 refine Kc ?_ ?_
 ·intro h15
  have g16 := dt h15
  have hz := hw.1 i_5.toNat aM1
  unfold SmW at hz
  obtain ⟨r17, rfl⟩ := scc (n := r3) aM1
  refine KS ?_
  refine Oq Vm (Oq Vm (Oq Vm (Oq (Vi sl45 0) ?_)))
  have hb18 := okS (i := i_5.toNat) ho14 rng
  refine Oq (VldS sh9 0) ?_
  have hb19 := sadd_len (Str.mk [32]) (l.getD i_5.toNat default)
  have hb20 : (Str.mk [32]).b.length = 1 := rfl
  refine Oq (VadS (l := (Str.mk [32])) (m := (l.getD i_5.toNat default))) ?_
  have hb21 := sadd_len s_4 ((Str.mk [32]) ++ (l.getD i_5.toNat default))
  refine Oq (VadS (l := s_4) (m := ((Str.mk [32]) ++ (l.getD i_5.toNat default)))) (Oq Va (KS ?_))
  refine Oq Vm (Oq Vadd (Oq Va (KS ?_)))
  exact Kg (r17, (s_4 ++ ((Str.mk [32]) ++ (l.getD i_5.toNat default))), (i_5 + 1)) [0] ⟨(q3 hM6 (by simp only [r4_words_L0, h15, cs4])), aM1, aM1, aM1, aM1, aM1, iv1⟩
 intro h15
 have g22 := df h15
 obtain rfl : r3 = 0 := by omega
 refine Ke ?_
 have hR23 := q2 hM6 s_4 (by simp only [r4_words_L0, h15, cs4])
 refine KS ?_
 refine Oq Vm (Oq Va (KS ?_))
 have hq := q4 hrr s_4 (by simp only [r4_words, h15, hR23, cs4]); subst hq
 exact Kr () rfl (.tmp rfl .nil) [] en
theorem fn32 (s : GStmt) (sa2 : Option Addr) (sk2 : Nat) (sa3 : Option Addr) (sk3 : Nat) (hs_0 : i64ok s.Op) (hs_1 : s.Def.b.length ≤ 140737488355328) (hs : SmS s ∧ SSm s = true) (rr : Str) (hrr : r4_Line s = rr) : FT Tryz.prog 32 #[.agg #[vi s.Op, .string (bs s.Def), vl sa2 sk2 s.Uses, vl sa3 sk3 s.Targets]] [S sa2 sk2 s.Uses, S sa3 sk3 s.Targets] (fun g : Unit => rr.b.length ≤ 140737488355328 ∧ (rr.b.length ≤ 1300000000000)) (fun g => .string (bs rr)) (fun g => []) := by
 refine FTi Tryz.func32 fun w0 M0 F0 => ?_
 unfold i64ok at hs_0
 refine Fb 16 0 fun _ => ?_
 refine FoS 0 fun ho2 => ?_
 refine Fb 16 1 fun _ => ?_
 refine FoS 1 fun ho4 => ?_
 have hsl := SSm_l hs.2
 have hsd := hs.1.1
 refine KS ?_
 refine Oa (Ab [vi s.Op, .string (bs s.Def), vl sa2 sk2 s.Uses, vl sa3 sk3 s.Targets]) fun p5 => Oq Va (KS ?_)
 refine Oq (Vfa fo47_0 0) (Oq (VldF sh3 0) (KS ?_))
 refine Oq Veql (Oq Va (KS ?_))
 refine Kc ?_ ?_
 ·intro h6
  have g7 := eq_of_beq h6
  refine KS ?_
  refine JK_drawK [0, 1, 3, 0, 8, 24, 63, 127] fmix ?_
  refine Dv [0] (Vfa fo47_1 0) (Dv [0] (VldF sh9 0) ?_)
  have hb8 := sadd_len s.Def (Str.mk [32, 61])
  have hb9 : (Str.mk [32, 61]).b.length = 2 := rfl
  refine Dv [] (VadS (l := s.Def) (m := (Str.mk [32, 61]))) (Dv [0] (Vfa fo47_2 0) (Dv [0] (VldF sh45 0) ?_))
  refine letv (r4_words s.Uses) fun rv10 hg11 => ?_
  have hW := words_len hg11 (by first | exact ⟨hs.1.2.1, hsl.1⟩ | exact ⟨hs.1.2.2, hsl.2⟩)
  refine Dx [1] [] [1, 0] (fun G => .string (bs rv10)) [fun G => SP.fact (rv10.b.length ≤ 140737488355328 ∧ (rv10.b.length ≤ 600600000000))] (fun G => xC [0] ca59 (fn59 s.Uses sa2 sk2 (by first | exact ⟨hs.1.2.1, hsl.1⟩ | exact ⟨hs.1.2.2, hsl.2⟩) rv10 hg11)) ?_
  have hb12 := sadd_len (s.Def ++ (Str.mk [32, 61])) rv10
  refine Dv [] (VadS (l := (s.Def ++ (Str.mk [32, 61]))) (m := rv10)) (Dv [] Va ?_)
  refine Dn ⟨by kernel_rfl, fun G => ?_⟩
  refine Jw2 [(2, .string (bs ((s.Def ++ (Str.mk [32, 61])) ++ rv10)))] [0, 1, 2] [SP.fact (rv10.b.length ≤ 140737488355328 ∧ (rv10.b.length ≤ 600600000000))] ?_
  refine Jf 3 rfl ?_; rintro ⟨he13, he14⟩
  refine Jk [0, 1, 2] ?_
  have hq := q4 hrr ((s.Def ++ (Str.mk [32, 61])) ++ rv10) (by simp only [r4_Line, h6, hg11, cs4]); subst hq
  exact Kr () rfl (.tmp rfl .nil) [] en
 intro h6
 have g15 := ne_of_beq_false h6
 refine KS ?_
 refine Oq Veql (Oq Va (KS ?_))
 refine Kc ?_ ?_
 ·intro h16
  have g17 := eq_of_beq h16
  refine KS ?_
  refine Oq (Vfa fo47_2 0) (Oq (VldF sh45 0) ?_)
  refine letv (r4_words s.Uses) fun rv18 hg19 => ?_
  have hW := words_len hg19 (by first | exact ⟨hs.1.2.1, hsl.1⟩ | exact ⟨hs.1.2.2, hsl.2⟩)
  have hc20 := fn59 s.Uses sa2 sk2 (by first | exact ⟨hs.1.2.1, hsl.1⟩ | exact ⟨hs.1.2.2, hsl.2⟩) rv18 hg19
  refine Oc [1] ca59 hc20 ?_
  rintro - ⟨he21, he22⟩
  have hb23 := sadd_len (Str.mk [117, 115, 101]) rv18
  have hb24 : (Str.mk [117, 115, 101]).b.length = 3 := rfl
  refine Oq (VadS (l := (Str.mk [117, 115, 101])) (m := rv18)) (Oq Va (KS ?_))
  have hq := q4 hrr ((Str.mk [117, 115, 101]) ++ rv18) (by simp only [r4_Line, h6, h16, hg19, cs4]); subst hq
  exact Kr () rfl (.tmp rfl .nil) [] en
 intro h16
 have g25 := ne_of_beq_false h16
 refine KS ?_
 refine Oq Veql (Oq Va (KS ?_))
 refine Kc ?_ ?_
 ·intro h26
  have g27 := eq_of_beq h26
  refine KS ?_
  refine Oq (Vfa fo47_3 0) (Oq (VldF sh45 0) ?_)
  refine letv (r4_words s.Targets) fun rv28 hg29 => ?_
  have hW := words_len hg29 (by first | exact ⟨hs.1.2.1, hsl.1⟩ | exact ⟨hs.1.2.2, hsl.2⟩)
  have hc30 := fn59 s.Targets sa3 sk3 (by first | exact ⟨hs.1.2.1, hsl.1⟩ | exact ⟨hs.1.2.2, hsl.2⟩) rv28 hg29
  refine Oc [2] ca59 hc30 ?_
  rintro - ⟨he31, he32⟩
  have hb33 := sadd_len (Str.mk [99, 97, 108, 108]) rv28
  have hb34 : (Str.mk [99, 97, 108, 108]).b.length = 4 := rfl
  refine Oq (VadS (l := (Str.mk [99, 97, 108, 108])) (m := rv28)) (Oq Va (KS ?_))
  have hq := q4 hrr ((Str.mk [99, 97, 108, 108]) ++ rv28) (by simp only [r4_Line, h6, h16, h26, hg29, cs4]); subst hq
  exact Kr () rfl (.tmp rfl .nil) [] en
 intro h26
 have g35 := ne_of_beq_false h26
 refine KS ?_
 refine Oq Veql (Oq Va (KS ?_))
 refine Kc ?_ ?_
 ·intro h36
  have g37 := eq_of_beq h36
  refine KS ?_
  refine Oq (Vfa fo47_1 0) (Oq (VldF sh9 0) ?_)
  have hb38 := sadd_len (Str.mk [115, 111, 117, 114, 99, 101, 32]) s.Def
  have hb39 : (Str.mk [115, 111, 117, 114, 99, 101, 32]).b.length = 7 := rfl
  refine Oq (VadS (l := (Str.mk [115, 111, 117, 114, 99, 101, 32])) (m := s.Def)) (Oq Va (KS ?_))
  have hq := q4 hrr ((Str.mk [115, 111, 117, 114, 99, 101, 32]) ++ s.Def) (by simp only [r4_Line, h6, h16, h26, h36, cs4]); subst hq
  exact Kr () rfl (.tmp rfl .nil) [] en
 intro h36
 have g40 := ne_of_beq_false h36
 refine KS ?_
 refine Oq Veql (Oq Va (KS ?_))
 refine Kc ?_ ?_
 ·intro h41
  have g42 := eq_of_beq h41
  refine KS ?_
  refine Oq (Vfa fo47_2 0) (Oq (VldF sh45 0) ?_)
  refine letv (r4_words s.Uses) fun rv43 hg44 => ?_
  have hW := words_len hg44 (by first | exact ⟨hs.1.2.1, hsl.1⟩ | exact ⟨hs.1.2.2, hsl.2⟩)
  have hc45 := fn59 s.Uses sa2 sk2 (by first | exact ⟨hs.1.2.1, hsl.1⟩ | exact ⟨hs.1.2.2, hsl.2⟩) rv43 hg44
  refine Oc [1] ca59 hc45 ?_
  rintro - ⟨he46, he47⟩
  have hb48 := sadd_len (Str.mk [115, 105, 110, 107]) rv43
  have hb49 : (Str.mk [115, 105, 110, 107]).b.length = 4 := rfl
  refine Oq (VadS (l := (Str.mk [115, 105, 110, 107])) (m := rv43)) (Oq Va (KS ?_))
  have hq := q4 hrr ((Str.mk [115, 105, 110, 107]) ++ rv43) (by simp only [r4_Line, h6, h16, h26, h36, h41, hg44, cs4]); subst hq
  exact Kr () rfl (.tmp rfl .nil) [] en
 intro h41
 have g50 := ne_of_beq_false h41
 refine KS ?_
 refine Oq Veql (Oq Va (KS ?_))
 refine Kc ?_ ?_
 ·intro h51
  have g52 := eq_of_beq h51
  refine KS ?_
  refine Oq (Vfa fo47_1 0) (Oq (VldF sh9 0) ?_)
  have hb53 := sadd_len (Str.mk [115, 97, 110, 105, 116, 105, 122, 101, 32]) s.Def
  have hb54 : (Str.mk [115, 97, 110, 105, 116, 105, 122, 101, 32]).b.length = 9 := rfl
  refine Oq (VadS (l := (Str.mk [115, 97, 110, 105, 116, 105, 122, 101, 32])) (m := s.Def)) (Oq Va (KS ?_))
  have hq := q4 hrr ((Str.mk [115, 97, 110, 105, 116, 105, 122, 101, 32]) ++ s.Def) (by simp only [r4_Line, h6, h16, h26, h36, h41, h51, cs4]); subst hq
  exact Kr () rfl (.tmp rfl .nil) [] en
 intro h51
 have g55 := ne_of_beq_false h51
 refine KS ?_
 refine Oq Veql (Oq Va (KS ?_))
 refine Kc ?_ ?_
 ·intro h56
  have g57 := eq_of_beq h56
  refine KS ?_
  refine Oq (Vfa fo47_3 0) (Oq (VldF sh45 0) ?_)
  refine letv (r4_words s.Targets) fun rv58 hg59 => ?_
  have hW := words_len hg59 (by first | exact ⟨hs.1.2.1, hsl.1⟩ | exact ⟨hs.1.2.2, hsl.2⟩)
  have hc60 := fn59 s.Targets sa3 sk3 (by first | exact ⟨hs.1.2.1, hsl.1⟩ | exact ⟨hs.1.2.2, hsl.2⟩) rv58 hg59
  refine Oc [2] ca59 hc60 ?_
  rintro - ⟨he61, he62⟩
  have hb63 := sadd_len (Str.mk [103, 111, 116, 111]) rv58
  have hb64 : (Str.mk [103, 111, 116, 111]).b.length = 4 := rfl
  refine Oq (VadS (l := (Str.mk [103, 111, 116, 111])) (m := rv58)) (Oq Va (KS ?_))
  have hq := q4 hrr ((Str.mk [103, 111, 116, 111]) ++ rv58) (by simp only [r4_Line, h6, h16, h26, h36, h41, h51, h56, hg59, cs4]); subst hq
  exact Kr () rfl (.tmp rfl .nil) [] en
 intro h56
 have g65 := ne_of_beq_false h56
 refine KS ?_
 refine Oq Veql (Oq Va (KS ?_))
 refine Kc ?_ ?_
 ·intro h66
  have g67 := eq_of_beq h66
  refine KS ?_
  refine JK_drawK [0, 1, 3, 7, 0, 16, 55, 127, 255] fmix ?_
  refine Dv [0] (Vfa fo47_2 0) (Dv [0] (VldF sh45 0) ?_)
  refine letv (r4_words s.Uses) fun rv68 hg69 => ?_
  have hW := words_len hg69 (by first | exact ⟨hs.1.2.1, hsl.1⟩ | exact ⟨hs.1.2.2, hsl.2⟩)
  refine Dx [1] [] [1, 0] (fun G => .string (bs rv68)) [fun G => SP.fact (rv68.b.length ≤ 140737488355328 ∧ (rv68.b.length ≤ 600600000000))] (fun G => xC [0] ca59 (fn59 s.Uses sa2 sk2 (by first | exact ⟨hs.1.2.1, hsl.1⟩ | exact ⟨hs.1.2.2, hsl.2⟩) rv68 hg69)) ?_
  have hb70 := sadd_len (Str.mk [98, 114, 97, 110, 99, 104]) rv68
  have hb71 : (Str.mk [98, 114, 97, 110, 99, 104]).b.length = 6 := rfl
  refine Dv [] (VadS (l := (Str.mk [98, 114, 97, 110, 99, 104])) (m := rv68)) (Dv [0] (Vfa fo47_3 0) (Dv [0] (VldF sh45 0) ?_))
  refine letv (r4_words s.Targets) fun rv72 hg73 => ?_
  have hW := words_len hg73 (by first | exact ⟨hs.1.2.1, hsl.1⟩ | exact ⟨hs.1.2.2, hsl.2⟩)
  refine Dx [2] [] [1, 0] (fun G => .string (bs rv72)) [fun G => SP.fact (rv72.b.length ≤ 140737488355328 ∧ (rv72.b.length ≤ 600600000000))] (fun G => xC [0] ca59 (fn59 s.Targets sa3 sk3 (by first | exact ⟨hs.1.2.1, hsl.1⟩ | exact ⟨hs.1.2.2, hsl.2⟩) rv72 hg73)) ?_
  have hb74 := sadd_len ((Str.mk [98, 114, 97, 110, 99, 104]) ++ rv68) rv72
  refine Dv [] (VadS (l := ((Str.mk [98, 114, 97, 110, 99, 104]) ++ rv68)) (m := rv72)) (Dv [] Va ?_)
  refine Dn ⟨by kernel_rfl, fun G => ?_⟩
  refine Jw2 [(2, .string (bs (((Str.mk [98, 114, 97, 110, 99, 104]) ++ rv68) ++ rv72)))] [0, 1, 2] [SP.fact (rv68.b.length ≤ 140737488355328 ∧ (rv68.b.length ≤ 600600000000)), SP.fact (rv72.b.length ≤ 140737488355328 ∧ (rv72.b.length ≤ 600600000000))] ?_
  refine Jf 3 rfl ?_; rintro ⟨he75, he76⟩
  refine Jf 4 rfl ?_; rintro ⟨he77, he78⟩
  refine Jk [0, 1, 2] ?_
  have hq := q4 hrr (((Str.mk [98, 114, 97, 110, 99, 104]) ++ rv68) ++ rv72) (by simp only [r4_Line, h6, h16, h26, h36, h41, h51, h56, h66, hg69, hg73, cs4]); subst hq
  exact Kr () rfl (.tmp rfl .nil) [] en
 intro h66
 have g79 := ne_of_beq_false h66
 refine KS ?_
 refine Oq Va (KS ?_)
 have hq := q4 hrr (Str.mk [114, 101, 116, 117, 114, 110]) (by simp only [r4_Line, h6, h16, h26, h36, h41, h51, h56, h66, cs4]); subst hq
 exact Kr () rfl (.tmp rfl .nil) [] en
theorem fn9 (p : GProgram) (pa0 : Option Addr) (pk0 : Nat) (n : GNode) (kwLA : Option Addr) (kwLK : Nat) (hn_0 : i64ok n.Kind) (hn_1 : i64ok n.Func) (hn_2 : i64ok n.Block) (hn_3 : i64ok n.Stmt) (hps : PSm p = true) (rr : Bool) (hrr : w7_agrees p n = rr) : FT Tryz.prog 9 #[.agg #[vl pa0 pk0 p.Funcs], .agg #[vi n.Kind, vi n.Func, vi n.Block, vi n.Stmt]] [S pa0 pk0 p.Funcs, pv (gp 0) [vl kwLA kwLK kwL], S kwLA kwLK kwL] (fun g : Unit => True) (fun g => vb rr) (fun g => []) := by
 refine FTi Tryz.func9 fun w0 M0 F0 => ?_
 unfold i64ok at hn_0 hn_1 hn_2 hn_3
 refine Fb 40 0 fun _ => Fb 16 2 fun _ => ?_
 refine FoS 2 fun ho3 => ?_
 refine KS ?_
 refine Oa (Ab [vl pa0 pk0 p.Funcs]) fun p4 => Oa (Ab [vi n.Kind, vi n.Func, vi n.Block, vi n.Stmt]) fun p5 => Oq Va (KS ?_)
 refine JK_drawK [0, 1, 0, 7, 15, 31] fmix ?_
 refine Dv [1] (VldA sh25 0) ?_
 refine letv (nd_List p) fun rv7 hg8 => ?_
 refine Dx [2, 3, 4] [] [2, 3, 4, 0, 1] (fun G => (G.g 1 0)) [fun G => SP.fact ((rv7.length ≤ 20000)), fun G => sl (G.g 1 0) rv7] (fun G => xC [0, 1, 2] ca25 (fn25 p pa0 pk0 kwLA kwLK (by first | assumption | exact Program_PSm' (by assumption) | exact SpP_PSm (Program_SpP (by assumption)) | kernel_rfl) rv7 hg8)) (Dv [1] (VldA sh25 0) ?_)
 refine letv (r7_List p) fun rv10 hg11 => ?_
 refine Dx [2] [] [2, 0, 1] (fun G => (G.g 3 0)) [fun G => SP.fact ((rv10.length ≤ 20000)), fun G => sl (G.g 3 0) rv10] (fun G => xC [0] ca8 (fn8 p pa0 pk0 rv10 hg11)) (Dg [] (fun G => (G.g 1 0)) (fun G => Va) (Dg [] (fun G => (G.g 3 0)) (fun G => Va) ?_))
 refine Dn ⟨by kernel_rfl, fun G => ?_⟩
 refine Jw2 [(2, p4), (3, p5), (5, (G.g 1 0)), (6, (G.g 3 0))] [0, 1, 2, 3, 4] [SP.fact ((rv7.length ≤ 20000)), sl (G.g 1 0) rv7, SP.fact ((rv10.length ≤ 20000)), sl (G.g 3 0) rv10] ?_
 generalize G.g 1 0 = c6, G.g 3 0 = c9
 refine Jf 5 rfl ?_; rintro he12
 refine Jf 7 rfl ?_; rintro he13
 refine Jk [0, 1, 2, 3, 4, 6, 8] ?_
 refine Jo 5 ?_; rintro a14 k15 rfl
 refine Fb 32 5 fun _ => ?_
 refine Jo 6 ?_; rintro a17 k18 rfl
 refine Fb 32 6 fun _ => KS ?_
 refine Oq Vm (Oq (Vlen sl31) (Oq Vm (Oq (Vlen sl31) (Oq Vneq (KS ?_)))))
 refine Kc ?_ ?_
 ·intro h20
  have g21 := ne_of_bne h20
  refine KS ?_
  refine Oq Va (KS ?_)
  have hq := q4 hrr false (by simp only [w7_agrees, h20, hg8, hg11, cs4]); subst hq
  exact Kr () rfl (.tmp rfl .nil) [] trivial
 intro h20
 have g22 := eq_of_bne_false h20
 refine KS ?_
 refine Oq Va (KS ?_)
 refine Kl (γ := Nat × Int) (fun (r23, i_24) => ⟨[(2, p4), (3, p5), (5, vl a14 k15 rv7), (6, vl a17 k18 rv10), (7, vi i_24)], [pv p5 [vi n.Kind, vi n.Func, vi n.Block, vi n.Stmt], pv p4 [vl pa0 pk0 p.Funcs], S pa0 pk0 p.Funcs, pv (gp 0) [vl kwLA kwLK kwL], S kwLA kwLK kwL, S a14 k15 rv7, S a17 k18 rv10], w7_agrees_L0 rv7 rv10 r23 i_24 = w7_agrees_L0 rv7 rv10 (((rv7.length : Int) - 0).toNat) 0 ∧ r23 = ((rv7.length : Int) - i_24).toNat ∧ (0 : Int) ≤ i_24 ∧ i_24 ≤ (rv7.length : Int) ∧ (-9223372036854775808 ≤ i_24 ∧ i_24 ≤ 9223372036854775807), r23⟩) (((rv7.length : Int) - 0).toNat, 0) [0, 1, 2, 3, 4, 5, 6] ⟨rfl, rfl, aM1, aM1, aM1⟩ ?_
 rintro ⟨r23, i_24⟩ ⟨hM25, hr26, hi27, hi28, hk29⟩
 refine JJ_nx fun _ _ hL hA => ?_; dsimp only at hL hA; subst hL hA
 refine Fb 40 2 fun _ => Fb 16 4 fun _ => ?_
 refine FoS 4 fun ho32 => ?_
 refine Fb 32 5 fun _ => Fb 32 6 fun _ => KS ?_
 refine Oq Vm (Oq Vm (Oq (Vlen sl31) (Oq Vlss (KS ?_))))
 refine Kc ?_ ?_
 ·intro h35
  have g36 := dt h35
  obtain ⟨r37, rfl⟩ := scc (n := r23) aM1
  refine KS ?_
  refine JJ_peek_GNode i_24.toNat 5 rfl rng fun hb38 hb39 hb40 hb41 => ?_
  unfold i64ok at hb38 hb39 hb40 hb41
  refine JJ_peek_GNode i_24.toNat 7 rfl rng fun hb42 hb43 hb44 hb45 => ?_
  unfold i64ok at hb42 hb43 hb44 hb45
  refine Kq [0, 0, 3, 7, 0, 0, 48, 112, 255] fmix ?_
  refine Qv [] Vm (Qv [] Vm (Qv [7] (Vi sl31 0) (Qv [1] (VldA sh27 0) (Qv [] Vm (Qv [] Vm (Qv [8] (Vi sl31 0) (Qv [0] (VldA sh27 0) (Qv [] (VneA eqi27 (l := [(rv7.getD i_24.toNat default).Kind, (rv7.getD i_24.toNat default).Func, (rv7.getD i_24.toNat default).Block, (rv7.getD i_24.toNat default).Stmt]) (m := [(rv10.getD i_24.toNat default).Kind, (rv10.getD i_24.toNat default).Func, (rv10.getD i_24.toNat default).Block, (rv10.getD i_24.toNat default).Stmt])) ?_))))))))
  refine Qn ⟨by kernel_rfl, ?_⟩
  refine Kc ?_ ?_
  ·intro h46
   have g47 := ne_of_bne h46
   refine KS ?_
   refine Oq Va (KS ?_)
   have hR48 := q2 hM25 (.ret false) (by simp only [w7_agrees_L0, h20, h35, h46, hg8, hg11, cs4])
   have hq := q4 hrr false (by simp only [w7_agrees, h20, h35, h46, hg8, hg11, hR48, cs4]); subst hq
   exact Kr () rfl (.tmp rfl .nil) [] trivial
  intro h46
  have g49 := eq_of_bne_false h46
  refine KS ?_
  refine Oq Vm (Oq Vadd (Oq Va (KS ?_)))
  exact Kg (r37, (i_24 + 1)) [2, 3, 4, 5, 6, 7, 8] ⟨(q3 hM25 (by simp only [w7_agrees_L0, h20, h35, h46, hg8, hg11, cs4])), aM1, aM1, aM1, aM1⟩
 intro h35
 have g50 := df h35
 obtain rfl : r23 = 0 := by omega
 refine Ke ?_
 have hR51 := q2 hM25 (.brk ()) (by simp only [w7_agrees_L0, h20, h35, hg8, hg11, cs4])
 refine KS ?_
 refine Oq (VldA sh25 1) (Oq (VldA sh27 0) ?_)
 refine letv (nd_Stmt p n) fun rv54 hg55 => ?_
 have hc56 := fn26 p pa0 pk0 n kwLA kwLK pre pre pre pre (by first | assumption | exact Program_PSm' (by assumption) | exact SpP_PSm (Program_SpP (by assumption)) | kernel_rfl) rv54 hg55
 refine Oc [2, 3, 4] ca26 hc56 ?_
 rintro ⟨c52, c53⟩ ⟨he57, he58⟩
 unfold i64ok at he57
 refine Jo 0 ?_; rintro a59 k60 rfl
 refine Fb 16 0 fun _ => ?_
 refine FoS 0 fun ho62 => ?_
 refine Jo 1 ?_; rintro a63 k64 rfl
 refine Fb 16 1 fun _ => ?_
 refine FoS 1 fun ho66 => ?_
 refine Oq Vm (Oq Vx (Oq Vx (Oa (Al ze47 [vi 0, .string (bs (Str.mk [])), .slice none 0 0, .slice none 0 0]) fun p67 => Ost (Scl [0] sh47 [vi rv54.1.Op, .string (bs rv54.1.Def), vl a59 k60 rv54.1.Uses, vl a63 k64 rv54.1.Targets]) (Oq Va (KS ?_)))))
 refine Oq (VldA sh25 4) (Oq (VldA sh27 3) ?_)
 refine letv (r7_Stmt p n) fun rv70 hg71 => ?_
 have hc72 := fn27 p pa0 pk0 n pre pre pre pre rv70 hg71
 refine Oc [5] ca27 hc72 ?_
 rintro ⟨c68, c69⟩ ⟨he73, he74⟩
 unfold i64ok at he73
 refine Jo 0 ?_; rintro a75 k76 rfl
 refine Fb 16 0 fun _ => ?_
 refine FoS 0 fun ho78 => ?_
 refine Jo 1 ?_; rintro a79 k80 rfl
 refine Fb 16 1 fun _ => ?_
 refine FoS 1 fun ho82 => ?_
 refine Oq Vm (Oq Vx (Oq Vx (Oa (Al ze47 [vi 0, .string (bs (Str.mk [])), .slice none 0 0, .slice none 0 0]) fun p83 => Ost (Scl [0] sh47 [vi rv70.1.Op, .string (bs rv70.1.Def), vl a75 k76 rv70.1.Uses, vl a79 k80 rv70.1.Targets]) (Oq Va (KS ?_)))))
 refine Jp 3 fun hp84 => ?_
 refine Jp 1 fun hp85 => ?_
 refine JK_drawK [0, 0, 3, 0, 0, 31, 63, 127, 255, 255, 1023, 255, 255, 8191, 16383, 32767, 65535, 131071, 131071, 524287, 1048575, 2097151, 4194303, 8388607, 4194303, 33554431, 67108863, 134217727, 268435455, 536870911, 1073741823, 536870911, 2684354559, 8589934591, 17179869183, 34359738367] fmix ?_
 refine Dv [9] (VldA sh25 0) (Dv [8] (VldA sh27 0) ?_)
 refine letv (nd_Find p n) fun rv86 hg87 => ?_
 refine Dx [10, 11, 12] [] [1, 2, 3, 0] (fun G => vi rv86) [fun G => SP.fact (i64ok rv86 ∧ (-1 ≤ rv86 ∧ rv86 ≤ 20000))] (fun G => xC [0, 1, 2] ca28 (fn28 p pa0 pk0 n kwLA kwLK pre pre pre pre (by first | assumption | exact Program_PSm' (by assumption) | exact SpP_PSm (Program_SpP (by assumption)) | kernel_rfl) rv86 hg87)) (Dv [9] (VldA sh25 0) (Dv [8] (VldA sh27 0) ?_))
 refine letv (r7_Find p n) fun rv88 hg89 => ?_
 refine Dx [10] [] [1, 0] (fun G => vi rv88) [fun G => SP.fact (i64ok rv88 ∧ (-1 ≤ rv88 ∧ rv88 ≤ 20000))] (fun G => xC [0] ca29 (fn29 p pa0 pk0 n pre pre pre pre rv88 hg89)) (Dv [] Veql ?_)
 refine bool_split (rv86 == rv88) ?_ ?_
 ·intro h90
  have g91 := eq_of_beq h90
  refine Db h90 [] Vm (Dv [9] (VldA sh25 0) (Dv [8] (VldA sh27 0) ?_))
  refine letv (nd_Label p n) fun rv92 hg93 => ?_
  refine Dx [10, 11, 12] [] [1, 2, 3, 0] (fun G => .string (bs rv92)) [fun G => SP.fact (rv92.b.length ≤ 140737488355328 ∧ (rv92.b.length ≤ 5000))] (fun G => xC [0, 1, 2] ca30 (fn30 p pa0 pk0 n kwLA kwLK pre pre pre pre (by first | assumption | exact Program_PSm' (by assumption) | exact SpP_PSm (Program_SpP (by assumption)) | kernel_rfl) rv92 hg93)) (Dv [9] (VldA sh25 0) (Dv [8] (VldA sh27 0) ?_))
  refine letv (r7_Label p n) fun rv94 hg95 => ?_
  refine Dx [10] [] [1, 0] (fun G => .string (bs rv94)) [fun G => SP.fact (rv94.b.length ≤ 140737488355328 ∧ (rv94.b.length ≤ 5000))] (fun G => xC [0] ca31 (fn31 p pa0 pk0 n pre pre pre pre rv94 hg95)) (Dv [] (VeqS (l := rv92) (m := rv94)) (Dv [] Vpt ?_))
  refine bool_split (rv92 == rv94) ?_ ?_
  ·intro h96
   have g97 := eq_of_beq h96
   refine Db h96 [] Vm (Dv [] Vm (Dv [] Vm (Dv [] (Veb un4) (Dv [] Vpt ?_))))
   refine bool_split (rv54.2 == rv70.2) ?_ ?_
   ·intro h98
    refine Db h98 [] Vm (Dv [5] (VldA sh47 0) ?_)
    refine letv (r4_Line rv54.1) fun rv100 hg101 => ?_
    refine Dx [6, 7] [] [1, 2, 0] (fun G => .string (bs rv100)) [fun G => SP.fact (rv100.b.length ≤ 140737488355328 ∧ (rv100.b.length ≤ 1300000000000))] (fun G => xC [0, 1] ca32 (fn32 rv54.1 a59 k60 a63 k64 pre pre (by first | exact StmtV_sm (by assumption) | exact Stmt7_sm (by assumption)) rv100 hg101)) (Dv [2] (VldA sh47 0) ?_)
    refine letv (r4_Line rv70.1) fun rv102 hg103 => ?_
    refine Dx [3, 4] [] [1, 2, 0] (fun G => .string (bs rv102)) [fun G => SP.fact (rv102.b.length ≤ 140737488355328 ∧ (rv102.b.length ≤ 1300000000000))] (fun G => xC [0, 1] ca32 (fn32 rv70.1 a75 k76 a79 k80 pre pre (by first | exact StmtV_sm (by assumption) | exact Stmt7_sm (by assumption)) rv102 hg103)) (Dv [] (VeqS (l := rv100) (m := rv102)) (Dv [] Vpt ?_))
    refine bool_split (rv100 == rv102) ?_ ?_
    ·intro h104
     have g105 := eq_of_beq h104
     refine Db h104 [] Vm (Dv [1] (Vfa fo47_0 0) (Dv [5] (VldF sh3 0) (Dv [0] (Vfa fo47_0 0) (Dv [2] (VldF sh3 0) (Dv [] Veql (Dv [] Vpt (Dv [] Va ?_)))))))
     refine Dn ⟨by kernel_rfl, fun G => ?_⟩
     refine Jw2 [(4, vb (rv54.1.Op == rv70.1.Op))] [0, 1, 2, 3, 4, 5, 6, 7, 8, 9, 10, 11, 12, 13, 14] [SP.fact (i64ok rv86 ∧ (-1 ≤ rv86 ∧ rv86 ≤ 20000)), SP.fact (i64ok rv88 ∧ (-1 ≤ rv88 ∧ rv88 ≤ 20000)), SP.fact (rv92.b.length ≤ 140737488355328 ∧ (rv92.b.length ≤ 5000)), SP.fact (rv94.b.length ≤ 140737488355328 ∧ (rv94.b.length ≤ 5000)), SP.fact (rv100.b.length ≤ 140737488355328 ∧ (rv100.b.length ≤ 1300000000000)), SP.fact (rv102.b.length ≤ 140737488355328 ∧ (rv102.b.length ≤ 1300000000000))] ?_
     refine Jf 15 rfl ?_; rintro ⟨he106, he107⟩
     unfold i64ok at he106
     refine Jf 16 rfl ?_; rintro ⟨he108, he109⟩
     unfold i64ok at he108
     refine Jf 17 rfl ?_; rintro ⟨he110, he111⟩
     refine Jf 18 rfl ?_; rintro ⟨he112, he113⟩
     refine Jf 19 rfl ?_; rintro ⟨he114, he115⟩
     refine Jf 20 rfl ?_; rintro ⟨he116, he117⟩
     refine Jk [2, 2, 3, 4, 4, 5, 6, 7, 8, 9, 10, 11, 12] ?_
     have hq := q4 hrr (rv54.1.Op == rv70.1.Op) (by simp only [w7_agrees, h20, h35, h90, h96, h98, h104, hg8, hg11, hR51, hg55, hg71, hg87, hg89, hg93, hg95, hg101, hg103, cs4]); subst hq
     exact Kr () rfl (.tmp rfl .nil) [] trivial
    intro h104
    have g118 := ne_of_beq_false h104
    refine Db h104 [] Vm (Ds (Ds (Ds (Ds (Ds (Dv [] Vpf (Dv [] Va ?_)))))))
    refine Dn ⟨by kernel_rfl, fun G => ?_⟩
    refine Jw2 [(4, vb false)] [0, 1, 2, 3, 4, 5, 6, 7, 8, 9, 10, 11, 12, 13, 14] [SP.fact (i64ok rv86 ∧ (-1 ≤ rv86 ∧ rv86 ≤ 20000)), SP.fact (i64ok rv88 ∧ (-1 ≤ rv88 ∧ rv88 ≤ 20000)), SP.fact (rv92.b.length ≤ 140737488355328 ∧ (rv92.b.length ≤ 5000)), SP.fact (rv94.b.length ≤ 140737488355328 ∧ (rv94.b.length ≤ 5000)), SP.fact (rv100.b.length ≤ 140737488355328 ∧ (rv100.b.length ≤ 1300000000000)), SP.fact (rv102.b.length ≤ 140737488355328 ∧ (rv102.b.length ≤ 1300000000000))] ?_
    refine Jf 15 rfl ?_; rintro ⟨he119, he120⟩
    unfold i64ok at he119
    refine Jf 16 rfl ?_; rintro ⟨he121, he122⟩
    unfold i64ok at he121
    refine Jf 17 rfl ?_; rintro ⟨he123, he124⟩
    refine Jf 18 rfl ?_; rintro ⟨he125, he126⟩
    refine Jf 19 rfl ?_; rintro ⟨he127, he128⟩
    refine Jf 20 rfl ?_; rintro ⟨he129, he130⟩
    refine Jk [2, 2, 3, 4, 4, 5, 6, 7, 8, 9, 10, 11, 12] ?_
    have hq := q4 hrr false (by simp only [w7_agrees, h20, h35, h90, h96, h98, h104, hg8, hg11, hR51, hg55, hg71, hg87, hg89, hg93, hg95, hg101, hg103, cs4]); subst hq
    exact Kr () rfl (.tmp rfl .nil) [] trivial
   intro h98
   refine Db h98 [] Vm (Ds (Ds (Ds (Ds (Ds (Dv [] Vpf (Dv [] Vm (Ds (Ds ?_)))))))))
   refine Ds (Ds (Ds (Dv [] Vpf (Dv [] Va ?_))))
   refine Dn ⟨by kernel_rfl, fun G => ?_⟩
   refine Jw2 [(4, vb false)] [0, 1, 2, 3, 4, 5, 6, 7, 8, 9, 10, 11, 12, 13, 14] [SP.fact (i64ok rv86 ∧ (-1 ≤ rv86 ∧ rv86 ≤ 20000)), SP.fact (i64ok rv88 ∧ (-1 ≤ rv88 ∧ rv88 ≤ 20000)), SP.fact (rv92.b.length ≤ 140737488355328 ∧ (rv92.b.length ≤ 5000)), SP.fact (rv94.b.length ≤ 140737488355328 ∧ (rv94.b.length ≤ 5000))] ?_
   refine Jf 15 rfl ?_; rintro ⟨he132, he133⟩
   unfold i64ok at he132
   refine Jf 16 rfl ?_; rintro ⟨he134, he135⟩
   unfold i64ok at he134
   refine Jf 17 rfl ?_; rintro ⟨he136, he137⟩
   refine Jf 18 rfl ?_; rintro ⟨he138, he139⟩
   refine Jk [2, 2, 3, 4, 4, 5, 6, 7, 8, 9, 10, 11, 12] ?_
   have hq := q4 hrr false (by simp only [w7_agrees, h20, h35, h90, h96, h98, hg8, hg11, hR51, hg55, hg71, hg87, hg89, hg93, hg95, cs4]); subst hq
   exact Kr () rfl (.tmp rfl .nil) [] trivial
  intro h96
  have g140 := ne_of_beq_false h96
  refine Db h96 [] Vm (Ds (Ds (Ds (Dv [] Vpf (Dv [] Vm (Ds (Ds (Ds (Ds ?_)))))))))
  refine Ds (Dv [] Vpf (Dv [] Vm (Ds (Ds (Ds (Ds (Ds (Dv [] Vpf (Dv [] Va ?_)))))))))
  refine Dn ⟨by kernel_rfl, fun G => ?_⟩
  refine Jw2 [(4, vb false)] [0, 1, 2, 3, 4, 5, 6, 7, 8, 9, 10, 11, 12, 13, 14] [SP.fact (i64ok rv86 ∧ (-1 ≤ rv86 ∧ rv86 ≤ 20000)), SP.fact (i64ok rv88 ∧ (-1 ≤ rv88 ∧ rv88 ≤ 20000)), SP.fact (rv92.b.length ≤ 140737488355328 ∧ (rv92.b.length ≤ 5000)), SP.fact (rv94.b.length ≤ 140737488355328 ∧ (rv94.b.length ≤ 5000))] ?_
  refine Jf 15 rfl ?_; rintro ⟨he141, he142⟩
  unfold i64ok at he141
  refine Jf 16 rfl ?_; rintro ⟨he143, he144⟩
  unfold i64ok at he143
  refine Jf 17 rfl ?_; rintro ⟨he145, he146⟩
  refine Jf 18 rfl ?_; rintro ⟨he147, he148⟩
  refine Jk [2, 2, 3, 4, 4, 5, 6, 7, 8, 9, 10, 11, 12] ?_
  have hq := q4 hrr false (by simp only [w7_agrees, h20, h35, h90, h96, hg8, hg11, hR51, hg55, hg71, hg87, hg89, hg93, hg95, cs4]); subst hq
  exact Kr () rfl (.tmp rfl .nil) [] trivial
 intro h90
 have g149 := ne_of_beq_false h90
 refine Db h90 [] Vm (Ds (Ds (Ds (Ds (Ds (Ds (Ds (Dv [] Vpf (Dv [] Vm ?_)))))))))
 refine Ds (Ds (Ds (Dv [] Vpf (Dv [] Vm (Ds (Ds (Ds (Ds (Ds ?_)))))))))
 refine Dv [] Vpf (Dv [] Vm (Ds (Ds (Ds (Ds (Ds (Dv [] Vpf (Dv [] Va ?_))))))))
 refine Dn ⟨by kernel_rfl, fun G => ?_⟩
 refine Jw2 [(4, vb false)] [0, 1, 2, 3, 4, 5, 6, 7, 8, 9, 10, 11, 12, 13, 14] [SP.fact (i64ok rv86 ∧ (-1 ≤ rv86 ∧ rv86 ≤ 20000)), SP.fact (i64ok rv88 ∧ (-1 ≤ rv88 ∧ rv88 ≤ 20000))] ?_
 refine Jf 15 rfl ?_; rintro ⟨he150, he151⟩
 unfold i64ok at he150
 refine Jf 16 rfl ?_; rintro ⟨he152, he153⟩
 unfold i64ok at he152
 refine Jk [2, 2, 3, 4, 4, 5, 6, 7, 8, 9, 10, 11, 12] ?_
 have hq := q4 hrr false (by simp only [w7_agrees, h20, h35, h90, hg8, hg11, hR51, hg55, hg71, hg87, hg89, cs4]); subst hq
 exact Kr () rfl (.tmp rfl .nil) [] trivial
theorem fn3 (t : List Int) (ta0 : Option Addr) (tk0 : Nat) (p : GProgram) (pa0 : Option Addr) (pk0 : Nat) (n : GNode) (kwLA : Option Addr) (kwLK : Nat) (hn_0 : i64ok n.Kind) (hn_1 : i64ok n.Func) (hn_2 : i64ok n.Block) (hn_3 : i64ok n.Stmt) (hps : PSm p = true) (rr : Bool) (hrr : w7_NodesAgree t p n = rr) : FT Tryz.prog 3 #[vl ta0 tk0 t, .agg #[vl pa0 pk0 p.Funcs], .agg #[vi n.Kind, vi n.Func, vi n.Block, vi n.Stmt]] [S ta0 tk0 t, S pa0 pk0 p.Funcs, pv (gp 0) [vl kwLA kwLK kwL], S kwLA kwLK kwL] (fun g : Unit => True) (fun g => vb rr) (fun g => []) := by
 refine FTi Tryz.func3 fun w0 M0 F0 => ?_
 unfold i64ok at hn_0 hn_1 hn_2 hn_3
 refine Fb 8 0 fun _ => Fo 0 fun ho2 => Fb 40 1 fun _ => Fb 16 3 fun _ => ?_
 refine FoS 3 fun ho5 => ?_
 refine KS ?_
 refine Oa (Ab [vl pa0 pk0 p.Funcs]) fun p6 => Oa (Ab [vi n.Kind, vi n.Func, vi n.Block, vi n.Stmt]) fun p7 => Oq Va (KS ?_)
 refine Oq Vm ?_
 refine letv (g_New t) fun rv9 hg10 => ?_
 have hc11 := fn6 t ta0 tk0 rv9 hg10
 refine Oc [2] ca6 hc11 ?_
 rintro c8 -
 refine Oq Va (KS ?_)
 refine Oq Va (KS ?_)
 refine Kl (γ := Nat × Int × Int) (fun (r12, k1_13, i_14) => ⟨[(4, p6), (5, p7), (7, c8), (8, vi i_14)], [Cl c8 [vl ta0 tk0 t, vi k1_13], pv p7 [vi n.Kind, vi n.Func, vi n.Block, vi n.Stmt], pv p6 [vl pa0 pk0 p.Funcs], S ta0 tk0 t, S pa0 pk0 p.Funcs, pv (gp 0) [vl kwLA kwLK kwL], S kwLA kwLK kwL], w7_NodesAgree_L0 t n r12 k1_13 i_14 = w7_NodesAgree_L0 t n 3 0 0 ∧ r12 = ((3 : Int) - i_14).toNat ∧ (0 : Int) ≤ i_14 ∧ i_14 ≤ 3 ∧ (-9223372036854775808 ≤ k1_13 ∧ k1_13 ≤ 9223372036854775807) ∧ (0 ≤ k1_13 ∧ k1_13 ≤ (t.length : Int)) ∧ (-9223372036854775808 ≤ i_14 ∧ i_14 ≤ 9223372036854775807), r12⟩) (3, 0, 0) [0, 0, 1, 2, 3, 4, 5] ⟨rfl, rfl, aM1, aM1, aM1, aM1, aM1⟩ ?_
 rintro ⟨r12, k1_13, i_14⟩ ⟨hM15, hr16, hi17, hi18, hk19, ht20, hk21⟩
 refine JJ_nx fun _ _ hL hA => ?_; dsimp only at hL hA; subst hL hA
 refine Fb 8 3 fun _ => Fo 3 fun ho23 => Fb 40 4 fun _ => Fb 16 6 fun _ => ?_
 refine FoS 6 fun ho26 => ?_
 refine KS ?_
 refine Oq Vm (Oq Vlss (KS ?_))
 refine Kc ?_ ?_
 ·intro h27
  have g28 := dt h27
  obtain ⟨r29, rfl⟩ := scc (n := r12) aM1
  refine KS ?_
  refine Oq Vm ?_
  refine letv (tp_Program t k1_13) fun rv31 hg32 => ?_
  have hc33 := fn7 c8 ta0 tk0 t k1_13 pre rv31 hg32
  refine Oc [0, 2] ca7 hc33 ?_
  rintro c30 he34
  refine Jo 0 ?_; rintro a35 k36 rfl
  refine Fb 40 0 fun _ => ?_
  refine Oa (Al ze25 [.slice none 0 0]) fun p38 => Ost (Scl [0] sh25 [vl a35 k36 rv31.1.Funcs]) (KS ?_)
  refine Oq (VldA sh25 0) ?_
  refine letv (r7_List rv31.1) fun rv40 hg41 => ?_
  have hlp := List7_pos (by assumption) hg41
  have hc42 := fn8 rv31.1 a35 k36 rv40 hg41
  refine Oc [1] ca8 hc42 ?_
  rintro c39 he43
  refine Jo 0 ?_; rintro a44 k45 rfl
  refine Fb 32 0 fun _ => ?_
  refine Oq Va (KS ?_)
  refine Oq Va (KS ?_)
  refine Kl (γ := Nat × Int) (fun (r47, j_48) => ⟨[(4, p6), (5, p7), (7, c8), (8, vi i_14), (9, p38), (10, vl a44 k45 rv40), (11, vi j_48)], [S a44 k45 rv40, Cl p38 [vl a35 k36 rv31.1.Funcs], S a35 k36 rv31.1.Funcs, Cl c8 [vl ta0 tk0 t, vi rv31.2], pv p7 [vi n.Kind, vi n.Func, vi n.Block, vi n.Stmt], pv p6 [vl pa0 pk0 p.Funcs], S ta0 tk0 t, S pa0 pk0 p.Funcs, pv (gp 0) [vl kwLA kwLK kwL], S kwLA kwLK kwL], w7_NodesAgree_L1 rv31.1.Funcs rv40 r47 j_48 = w7_NodesAgree_L1 rv31.1.Funcs rv40 (((rv40.length : Int) - 0).toNat) 0 ∧ r47 = ((rv40.length : Int) - j_48).toNat ∧ (0 : Int) ≤ j_48 ∧ j_48 ≤ (rv40.length : Int) ∧ (-9223372036854775808 ≤ j_48 ∧ j_48 ≤ 9223372036854775807), r47⟩) (((rv40.length : Int) - 0).toNat, 0) [0, 1, 1, 2, 2, 3, 4, 5, 6, 7] ⟨rfl, rfl, aM1, aM1, aM1⟩ ?_
  rintro ⟨r47, j_48⟩ ⟨hM49, hr50, hi51, hi52, hk53⟩
  refine JJ_nx fun _ _ hL hA => ?_; dsimp only at hL hA; subst hL hA
  refine Fb 32 0 fun _ => Fb 40 2 fun _ => Fb 8 6 fun _ => Fo 6 fun ho57 => Fb 40 7 fun _ => Fb 16 9 fun _ => ?_
  refine FoS 9 fun ho60 => ?_
  refine KS ?_
  refine Oq Vm (Oq Vm (Oq (Vlen sl31) (Oq Vlss (KS ?_))))
  refine Kc ?_ ?_
  ·intro h61
   have g62 := dt h61
   obtain ⟨r63, rfl⟩ := scc (n := r47) aM1
   refine KS ?_
   refine JJ_peek_GNode j_48.toNat 0 rfl rng fun hb64 hb65 hb66 hb67 => ?_
   unfold i64ok at hb64 hb65 hb66 hb67
   refine JK_drawK [0, 0, 0, 6, 14, 31, 63] fmix ?_
   refine Dv [2] (VldA sh25 0) (Dv [] Vm (Dv [] Vm (Dv [1] (Vi sl31 0) (Dv [0] (VldA sh27 0) ?_))))
   refine letv (w7_agrees rv31.1 (rv40.getD j_48.toNat default)) fun rv68 hg69 => ?_
   refine Dx [3, 9, 10] [] [1, 2, 3, 0] (fun G => vb rv68) [fun G => SP.fact (True)] (fun G => xC [0, 1, 2] ca9 (fn9 rv31.1 a35 k36 ((rv40.getD j_48.toNat default)) kwLA kwLK pre pre pre pre (by first | assumption | exact Spoil_PSm (by assumption) (Program_SpP (by assumption)) | exact SpP_PSm (Program_SpP (by assumption))) rv68 hg69)) (Dv [] Vnot ?_)
   refine Dn ⟨by kernel_rfl, fun G => ?_⟩
   refine Jw2 [(4, p6), (5, p7), (7, c8), (8, vi i_14), (9, p38), (10, vl a44 k45 rv40), (11, vi j_48), (34, vb (!rv68))] [0, 1, 2, 3, 4, 5, 6, 7, 8, 9, 10] [SP.fact (True)] ?_
   refine Jk [0, 1, 2, 2, 3, 3, 4, 5, 6, 7, 8] ?_
   refine Kc ?_ ?_
   ·intro h70
    have h72 := not_true h70
    refine KS ?_
    refine Oq Va (KS ?_)
    have hR74 := q2 hM49 (.ret false) (by simp only [w7_NodesAgree_L1, h27, h61, h70, h72, hg10, hg32, hg41, hg69, cs4])
    have hR75 := q2 hM15 (.ret false) (by simp only [w7_NodesAgree_L0, h27, h61, h70, h72, hg10, hg32, hg41, hg69, hR74, cs4])
    have hq := q4 hrr false (by unfold w7_NodesAgree; simp only [h27, h61, h70, h72, hg10, hg32, hg41, hg69, hR74, hR75, cs4]); subst hq
    exact Kr () rfl (.tmp rfl .nil) [] trivial
   intro h70
   have h77 := not_false h70
   refine KS ?_
   refine Oq Vm (Oq Vadd (Oq Va (KS ?_)))
   exact Kg (r63, (j_48 + 1)) [1, 2, 2, 3, 3, 4, 5, 6, 7, 8] ⟨(q3 hM49 (by simp only [w7_NodesAgree_L1, h27, h61, h70, h77, hg10, hg32, hg41, hg69, cs4])), aM1, aM1, aM1, aM1⟩
  intro h61
  have g79 := df h61
  obtain rfl : r47 = 0 := by omega
  refine Ke ?_
  have hR80 := q2 hM49 (.brk ()) (by simp only [w7_NodesAgree_L1, h27, h61, hg10, hg32, hg41, cs4])
  refine KS ?_
  refine letv (tp_Next t rv31.2 6) fun rv81 hg82 => ?_
  refine letv (tp_Next t rv81.2 4) fun rv83 hg84 => ?_
  refine letv (tp_Next t rv83.2 5) fun rv85 hg86 => ?_
  refine letv (tp_Next t rv85.2 6) fun rv87 hg88 => ?_
  refine letv (w7_agrees rv31.1 (GNode.mk rv81.1 (rv83.1 - 1) (rv85.1 - 2) (rv87.1 - 1))) fun rv89 hg90 => ?_
  refine bool_split (!rv89) ?_ ?_
  ·intro h91
   have h93 := not_true h91
   refine JK_drawK [0, 0, 2, 0, 14, 30, 0, 94, 222, 0, 734, 1758, 4094, 8191, 16383, 32767, 65535, 65535, 262143, 65535, 589823, 1638399, 4194303, 8388607, 16777215, 33554431, 67108863, 67108863, 268435455, 536870911, 1073741823] fmix ?_
   refine Dv [1] (VldA sh25 0) (Dv [] Vm (Dx [3, 6] [3] [2, 0, 1] (fun G => vi rv81.1) [fun G => SP.fact (i64ok rv81.1 ∧ (0 ≤ rv81.2 ∧ rv81.2 ≤ (t.length : Int)) ∧ (0 ≤ rv81.1 ∧ (rv81.1 < 6 ∨ rv81.1 = 0))), fun G => Cl c8 [vl ta0 tk0 t, vi rv81.2]] (fun G => xC [0, 0] ca10 (fn10 c8 ta0 tk0 t rv31.2 6 pre pre rv81 hg82)) (Dv [] Vm ?_)))
   refine Dx [6, 10, 11] [11] [2, 3, 0, 1] (fun G => vi rv83.1) [fun G => SP.fact (i64ok rv83.1 ∧ (0 ≤ rv83.2 ∧ rv83.2 ≤ (t.length : Int)) ∧ (0 ≤ rv83.1 ∧ (rv83.1 < 4 ∨ rv83.1 = 0))), fun G => Cl c8 [vl ta0 tk0 t, vi rv83.2]] (fun G => by refine xf 1 rfl ?_; rintro ⟨he95, he96, he97⟩; unfold i64ok at he95; exact xC [2, 0] ca10 (fn10 c8 ta0 tk0 t rv81.2 4 pre pre rv83 hg84)) ?_
   refine Dx [12] [] [0] (fun G => vi (rv83.1 - 1)) [] (fun G => by refine xf 0 rfl ?_; rintro ⟨he98, he99, he100⟩; unfold i64ok at he98; exact xV (Vsub)) (Dv [] Vm ?_)
   refine Dx [6, 12, 13] [13] [2, 3, 0, 1] (fun G => vi rv85.1) [fun G => SP.fact (i64ok rv85.1 ∧ (0 ≤ rv85.2 ∧ rv85.2 ≤ (t.length : Int)) ∧ (0 ≤ rv85.1 ∧ (rv85.1 < 5 ∨ rv85.1 = 0))), fun G => Cl c8 [vl ta0 tk0 t, vi rv85.2]] (fun G => by refine xf 1 rfl ?_; rintro ⟨he101, he102, he103⟩; unfold i64ok at he101; exact xC [2, 0] ca10 (fn10 c8 ta0 tk0 t rv83.2 5 pre pre rv85 hg86)) ?_
   refine Dx [14] [] [0] (fun G => vi (rv85.1 - 2)) [] (fun G => by refine xf 0 rfl ?_; rintro ⟨he104, he105, he106⟩; unfold i64ok at he104; exact xV (Vsub)) (Dv [] Vm ?_)
   refine Dx [6, 14, 15] [15] [2, 3, 0, 1] (fun G => vi rv87.1) [fun G => SP.fact (i64ok rv87.1 ∧ (0 ≤ rv87.2 ∧ rv87.2 ≤ (t.length : Int)) ∧ (0 ≤ rv87.1 ∧ (rv87.1 < 6 ∨ rv87.1 = 0))), fun G => Cl c8 [vl ta0 tk0 t, vi rv87.2]] (fun G => by refine xf 1 rfl ?_; rintro ⟨he107, he108, he109⟩; unfold i64ok at he107; exact xC [2, 0] ca10 (fn10 c8 ta0 tk0 t rv85.2 6 pre pre rv87 hg88)) ?_
   refine Dx [16] [] [0] (fun G => vi (rv87.1 - 1)) [] (fun G => by refine xf 0 rfl ?_; rintro ⟨he110, he111, he112⟩; unfold i64ok at he110; exact xV (Vsub)) (Dv [] (Vbd st27 [vi rv81.1, vi (rv83.1 - 1), vi (rv85.1 - 2), vi (rv87.1 - 1)]) ?_)
   refine Dx [2, 8, 9, 10, 12, 14, 16] [] [1, 2, 3, 4, 5, 6, 7, 0] (fun G => vb rv89) [fun G => SP.fact (True)] (fun G => by refine xf 3 rfl ?_; rintro ⟨he113, he114, he115⟩; unfold i64ok at he113; refine xf 4 rfl ?_; rintro ⟨he116, he117, he118⟩; unfold i64ok at he116; refine xf 5 rfl ?_; rintro ⟨he119, he120, he121⟩; unfold i64ok at he119; refine xf 6 rfl ?_; rintro ⟨he122, he123, he124⟩; unfold i64ok at he122; exact xC [0, 1, 2] ca9 (fn9 rv31.1 a35 k36 ((GNode.mk rv81.1 (rv83.1 - 1) (rv85.1 - 2) (rv87.1 - 1))) kwLA kwLK pre pre pre pre (by first | assumption | exact Spoil_PSm (by assumption) (Program_SpP (by assumption)) | exact SpP_PSm (Program_SpP (by assumption))) rv89 hg90)) (Db h91 [] Vnot (Dv [] Vm (Ds (Ds (Ds (Ds (Ds (Ds (Ds ?_)))))))))
   refine Ds (Dv [] Vpt (Dv [] Vm (Ds (Ds (Ds (Ds (Dv [] Vpt ?_)))))))
   refine Dn ⟨by kernel_rfl, fun G => ?_⟩
   refine Jw2 [(4, p6), (5, p7), (7, c8), (8, vi i_14), (65, vb true)] [0, 1, 2, 4, 5, 6, 7, 8, 9] [SP.fact (i64ok rv81.1 ∧ (0 ≤ rv81.2 ∧ rv81.2 ≤ (t.length : Int)) ∧ (0 ≤ rv81.1 ∧ (rv81.1 < 6 ∨ rv81.1 = 0))), SP.fact (i64ok rv83.1 ∧ (0 ≤ rv83.2 ∧ rv83.2 ≤ (t.length : Int)) ∧ (0 ≤ rv83.1 ∧ (rv83.1 < 4 ∨ rv83.1 = 0))), SP.fact (i64ok rv85.1 ∧ (0 ≤ rv85.2 ∧ rv85.2 ≤ (t.length : Int)) ∧ (0 ≤ rv85.1 ∧ (rv85.1 < 5 ∨ rv85.1 = 0))), SP.fact (i64ok rv87.1 ∧ (0 ≤ rv87.2 ∧ rv87.2 ≤ (t.length : Int)) ∧ (0 ≤ rv87.1 ∧ (rv87.1 < 6 ∨ rv87.1 = 0))), Cl c8 [vl ta0 tk0 t, vi rv87.2], SP.fact (True)] ?_
   refine Jf 9 rfl ?_; rintro ⟨he125, he126, he127⟩
   unfold i64ok at he125
   refine Jf 10 rfl ?_; rintro ⟨he128, he129, he130⟩
   unfold i64ok at he128
   refine Jf 11 rfl ?_; rintro ⟨he131, he132, he133⟩
   unfold i64ok at he131
   refine Jf 12 rfl ?_; rintro ⟨he134, he135, he136⟩
   unfold i64ok at he134
   refine Jk [0, 1, 1, 2, 3, 4, 5, 6, 7, 12] (Kt ?_)
   refine KS ?_
   refine Oq Va (KS ?_)
   have hR137 := q2 hM15 (.ret false) (by simp only [w7_NodesAgree_L0, h27, h61, h91, h93, hg10, hg32, hg41, hR80, hg82, hg84, hg86, hg88, hg90, cs4])
   have hq := q4 hrr false (by unfold w7_NodesAgree; simp only [h27, h61, h91, h93, hg10, hg32, hg41, hR80, hg82, hg84, hg86, hg88, hg90, hR137, cs4]); subst hq
   exact Kr () rfl (.tmp rfl .nil) [] trivial
  intro h91
  have h139 := not_false h91
  refine JJ_peek_GNode (0 : Int).toNat 0 rfl rng fun hb141 hb142 hb143 hb144 => ?_
  unfold i64ok at hb141 hb142 hb143 hb144
  refine JK_drawK [0, 0, 2, 0, 14, 30, 0, 94, 222, 0, 734, 1758, 4094, 8191, 16383, 32767, 65535, 65535, 262143, 65535, 589823, 1638399, 4194303, 8388607, 16777215, 33554431, 67108863, 67108863, 268435455, 536870911, 1073741823] fmix ?_
  refine Dv [2] (VldA sh25 0) (Dv [] Vm (Dx [4, 7] [4] [2, 0, 1] (fun G => vi rv81.1) [fun G => SP.fact (i64ok rv81.1 ∧ (0 ≤ rv81.2 ∧ rv81.2 ≤ (t.length : Int)) ∧ (0 ≤ rv81.1 ∧ (rv81.1 < 6 ∨ rv81.1 = 0))), fun G => Cl c8 [vl ta0 tk0 t, vi rv81.2]] (fun G => xC [0, 0] ca10 (fn10 c8 ta0 tk0 t rv31.2 6 pre pre rv81 hg82)) (Dv [] Vm ?_)))
  refine Dx [7, 11, 12] [12] [2, 3, 0, 1] (fun G => vi rv83.1) [fun G => SP.fact (i64ok rv83.1 ∧ (0 ≤ rv83.2 ∧ rv83.2 ≤ (t.length : Int)) ∧ (0 ≤ rv83.1 ∧ (rv83.1 < 4 ∨ rv83.1 = 0))), fun G => Cl c8 [vl ta0 tk0 t, vi rv83.2]] (fun G => by refine xf 1 rfl ?_; rintro ⟨he145, he146, he147⟩; unfold i64ok at he145; exact xC [2, 0] ca10 (fn10 c8 ta0 tk0 t rv81.2 4 pre pre rv83 hg84)) ?_
  refine Dx [13] [] [0] (fun G => vi (rv83.1 - 1)) [] (fun G => by refine xf 0 rfl ?_; rintro ⟨he148, he149, he150⟩; unfold i64ok at he148; exact xV (Vsub)) (Dv [] Vm ?_)
  refine Dx [7, 13, 14] [14] [2, 3, 0, 1] (fun G => vi rv85.1) [fun G => SP.fact (i64ok rv85.1 ∧ (0 ≤ rv85.2 ∧ rv85.2 ≤ (t.length : Int)) ∧ (0 ≤ rv85.1 ∧ (rv85.1 < 5 ∨ rv85.1 = 0))), fun G => Cl c8 [vl ta0 tk0 t, vi rv85.2]] (fun G => by refine xf 1 rfl ?_; rintro ⟨he151, he152, he153⟩; unfold i64ok at he151; exact xC [2, 0] ca10 (fn10 c8 ta0 tk0 t rv83.2 5 pre pre rv85 hg86)) ?_
  refine Dx [15] [] [0] (fun G => vi (rv85.1 - 2)) [] (fun G => by refine xf 0 rfl ?_; rintro ⟨he154, he155, he156⟩; unfold i64ok at he154; exact xV (Vsub)) (Dv [] Vm ?_)
  refine Dx [7, 15, 16] [16] [2, 3, 0, 1] (fun G => vi rv87.1) [fun G => SP.fact (i64ok rv87.1 ∧ (0 ≤ rv87.2 ∧ rv87.2 ≤ (t.length : Int)) ∧ (0 ≤ rv87.1 ∧ (rv87.1 < 6 ∨ rv87.1 = 0))), fun G => Cl c8 [vl ta0 tk0 t, vi rv87.2]] (fun G => by refine xf 1 rfl ?_; rintro ⟨he157, he158, he159⟩; unfold i64ok at he157; exact xC [2, 0] ca10 (fn10 c8 ta0 tk0 t rv85.2 6 pre pre rv87 hg88)) ?_
  refine Dx [17] [] [0] (fun G => vi (rv87.1 - 1)) [] (fun G => by refine xf 0 rfl ?_; rintro ⟨he160, he161, he162⟩; unfold i64ok at he160; exact xV (Vsub)) (Dv [] (Vbd st27 [vi rv81.1, vi (rv83.1 - 1), vi (rv85.1 - 2), vi (rv87.1 - 1)]) ?_)
  refine Dx [3, 9, 10, 11, 13, 15, 17] [] [1, 2, 3, 4, 5, 6, 7, 0] (fun G => vb rv89) [fun G => SP.fact (True)] (fun G => by refine xf 3 rfl ?_; rintro ⟨he163, he164, he165⟩; unfold i64ok at he163; refine xf 4 rfl ?_; rintro ⟨he166, he167, he168⟩; unfold i64ok at he166; refine xf 5 rfl ?_; rintro ⟨he169, he170, he171⟩; unfold i64ok at he169; refine xf 6 rfl ?_; rintro ⟨he172, he173, he174⟩; unfold i64ok at he172; exact xC [0, 1, 2] ca9 (fn9 rv31.1 a35 k36 ((GNode.mk rv81.1 (rv83.1 - 1) (rv85.1 - 2) (rv87.1 - 1))) kwLA kwLK pre pre pre pre (by first | assumption | exact Spoil_PSm (by assumption) (Program_SpP (by assumption)) | exact SpP_PSm (Program_SpP (by assumption))) rv89 hg90)) (Db h91 [] Vnot (Dv [] Vm (Dv [] Vm (Dv [2] (VldA sh25 0) ?_))))
  refine letv (tp_SpoilProgram t rv87.2 rv31.1) fun rv176 hg177 => ?_
  refine Dx [3, 7, 17, 18] [18] [3, 4, 5, 0, 1, 2] (fun G => .agg #[(G.g 18 0)]) [fun G => SP.fact ((0 ≤ rv176.2 ∧ rv176.2 ≤ (t.length : Int))), fun G => sl (G.g 18 0) rv176.1.Funcs, fun G => Cl c8 [vl ta0 tk0 t, vi rv176.2]] (fun G => by refine xf 2 rfl ?_; rintro ⟨he178, he179, he180⟩; unfold i64ok at he178; exact xC [3, 1, 0] ca11 (fn11 c8 ta0 tk0 t rv87.2 rv31.1 a35 k36 pre (Program_SpP (by assumption)) rv176 hg177)) (Dv [] Vm (Dv [1] (Vi sl31 0) (Dv [0] (VldA sh27 0) ?_)))
  refine letv (w7_agrees rv176.1 (rv40.getD (0 : Int).toNat default)) fun rv184 hg185 => ?_
  refine Dx [9, 10, 20, 21] [] [1, 2, 3, 4, 0] (fun G => vb rv184) [fun G => SP.fact (True)] (fun G => by refine xf 2 rfl ?_; rintro he186; exact xD [3, 0, 1] ca9 rfl rfl rfl (FT_open (γ := Unit) (I := fun g => True) (V := fun g => vb rv184) (B := fun g => []) (R := sl (G.g 18 0) rv176.1.Funcs) sl_slice (fun aq181 kq182 eq183 => by rw [eq183]; exact FT_ent (Ent.take (is := [0, 1, 2]) rfl) (fn9 rv176.1 aq181 kq182 ((rv40.getD (0 : Int).toNat default)) kwLA kwLK pre pre pre pre (by first | assumption | exact Spoil_PSm (by assumption) (Program_SpP (by assumption)) | exact SpP_PSm (Program_SpP (by assumption))) rv184 hg185)))) (Dv [] Vnot (Dv [] Vpf ?_))
  refine bool_split (!rv184) ?_ ?_
  ·intro h187
   have h189 := not_true h187
   refine Db h187 [] Vm (Ds (Ds (Ds (Ds (Dv [] Vpt ?_)))))
   refine Dn ⟨by kernel_rfl, fun G => ?_⟩
   refine Jw2 [(4, p6), (5, p7), (7, c8), (8, vi i_14), (65, vb true)] [0, 1, 2, 3, 5, 6, 7, 8, 9, 10] [SP.fact (i64ok rv81.1 ∧ (0 ≤ rv81.2 ∧ rv81.2 ≤ (t.length : Int)) ∧ (0 ≤ rv81.1 ∧ (rv81.1 < 6 ∨ rv81.1 = 0))), SP.fact (i64ok rv83.1 ∧ (0 ≤ rv83.2 ∧ rv83.2 ≤ (t.length : Int)) ∧ (0 ≤ rv83.1 ∧ (rv83.1 < 4 ∨ rv83.1 = 0))), SP.fact (i64ok rv85.1 ∧ (0 ≤ rv85.2 ∧ rv85.2 ≤ (t.length : Int)) ∧ (0 ≤ rv85.1 ∧ (rv85.1 < 5 ∨ rv85.1 = 0))), SP.fact (i64ok rv87.1 ∧ (0 ≤ rv87.2 ∧ rv87.2 ≤ (t.length : Int)) ∧ (0 ≤ rv87.1 ∧ (rv87.1 < 6 ∨ rv87.1 = 0))), SP.fact (True), SP.fact ((0 ≤ rv176.2 ∧ rv176.2 ≤ (t.length : Int))), sl (G.g 18 0) rv176.1.Funcs, Cl c8 [vl ta0 tk0 t, vi rv176.2], SP.fact (True)] ?_
   generalize G.g 18 0 = c175
   refine Jf 10 rfl ?_; rintro ⟨he191, he192, he193⟩
   unfold i64ok at he191
   refine Jf 11 rfl ?_; rintro ⟨he194, he195, he196⟩
   unfold i64ok at he194
   refine Jf 12 rfl ?_; rintro ⟨he197, he198, he199⟩
   unfold i64ok at he197
   refine Jf 13 rfl ?_; rintro ⟨he200, he201, he202⟩
   unfold i64ok at he200
   refine Jf 15 rfl ?_; rintro he203
   refine Jk [0, 1, 2, 2, 3, 4, 5, 6, 7, 8, 15, 16] ?_
   refine Jo 10 ?_; rintro a204 k205 rfl
   refine Fb 40 10 fun _ => ?_
   refine Kt (KS ?_)
   refine Oq Va (KS ?_)
   have hR207 := q2 hM15 (.ret false) (by simp only [w7_NodesAgree_L0, h27, h61, h91, h139, h187, h189, hg10, hg32, hg41, hR80, hg82, hg84, hg86, hg88, hg90, hg177, hg185, cs4])
   have hq := q4 hrr false (by unfold w7_NodesAgree; simp only [h27, h61, h91, h139, h187, h189, hg10, hg32, hg41, hR80, hg82, hg84, hg86, hg88, hg90, hg177, hg185, hR207, cs4]); subst hq
   exact Kr () rfl (.tmp rfl .nil) [] trivial
  intro h187
  have h209 := not_false h187
  refine Db h187 [] Vm (Dv [2] (VldA sh25 0) (Dv [5] (VldA sh27 0) ?_))
  refine letv (w7_agrees rv31.1 n) fun rv211 hg212 => ?_
  refine Dx [3, 9, 10] [] [1, 2, 3, 0] (fun G => vb rv211) [fun G => SP.fact (True)] (fun G => xC [0, 1, 2] ca9 (fn9 rv31.1 a35 k36 n kwLA kwLK pre pre pre pre (by first | assumption | exact Spoil_PSm (by assumption) (Program_SpP (by assumption)) | exact SpP_PSm (Program_SpP (by assumption))) rv211 hg212)) (Dv [] Vnot (Dv [] Vpf ?_))
  refine Dn ⟨by kernel_rfl, fun G => ?_⟩
  refine Jw2 [(4, p6), (5, p7), (7, c8), (8, vi i_14), (65, vb (!rv211))] [0, 1, 2, 3, 5, 6, 7, 8, 9, 10] [SP.fact (i64ok rv81.1 ∧ (0 ≤ rv81.2 ∧ rv81.2 ≤ (t.length : Int)) ∧ (0 ≤ rv81.1 ∧ (rv81.1 < 6 ∨ rv81.1 = 0))), SP.fact (i64ok rv83.1 ∧ (0 ≤ rv83.2 ∧ rv83.2 ≤ (t.length : Int)) ∧ (0 ≤ rv83.1 ∧ (rv83.1 < 4 ∨ rv83.1 = 0))), SP.fact (i64ok rv85.1 ∧ (0 ≤ rv85.2 ∧ rv85.2 ≤ (t.length : Int)) ∧ (0 ≤ rv85.1 ∧ (rv85.1 < 5 ∨ rv85.1 = 0))), SP.fact (i64ok rv87.1 ∧ (0 ≤ rv87.2 ∧ rv87.2 ≤ (t.length : Int)) ∧ (0 ≤ rv87.1 ∧ (rv87.1 < 6 ∨ rv87.1 = 0))), SP.fact (True), SP.fact ((0 ≤ rv176.2 ∧ rv176.2 ≤ (t.length : Int))), sl (G.g 18 0) rv176.1.Funcs, Cl c8 [vl ta0 tk0 t, vi rv176.2], SP.fact (True), SP.fact (True)] ?_
  generalize G.g 18 0 = c175
  refine Jf 10 rfl ?_; rintro ⟨he213, he214, he215⟩
  unfold i64ok at he213
  refine Jf 11 rfl ?_; rintro ⟨he216, he217, he218⟩
  unfold i64ok at he216
  refine Jf 12 rfl ?_; rintro ⟨he219, he220, he221⟩
  unfold i64ok at he219
  refine Jf 13 rfl ?_; rintro ⟨he222, he223, he224⟩
  unfold i64ok at he222
  refine Jf 15 rfl ?_; rintro he225
  refine Jk [0, 1, 2, 2, 3, 4, 5, 6, 7, 8, 15, 16] ?_
  refine Jo 10 ?_; rintro a226 k227 rfl
  refine Fb 40 10 fun _ => ?_
  refine Kc ?_ ?_
  ·intro h229
   have h231 := not_true h229
   refine KS ?_
   refine Oq Va (KS ?_)
   have hR233 := q2 hM15 (.ret false) (by simp only [w7_NodesAgree_L0, h27, h61, h91, h139, h187, h209, h229, h231, hg10, hg32, hg41, hR80, hg82, hg84, hg86, hg88, hg90, hg177, hg185, hg212, cs4])
   have hq := q4 hrr false (by unfold w7_NodesAgree; simp only [h27, h61, h91, h139, h187, h209, h229, h231, hg10, hg32, hg41, hR80, hg82, hg84, hg86, hg88, hg90, hg177, hg185, hg212, hR233, cs4]); subst hq
   exact Kr () rfl (.tmp rfl .nil) [] trivial
  intro h229
  have h235 := not_false h229
  refine KS ?_
  refine Oq Vm (Oq Vadd (Oq Va (KS ?_)))
  exact Kg (r29, rv176.2, (i_14 + 1)) [11, 4, 5, 6, 7, 8, 9] ⟨(q3 hM15 (by simp only [w7_NodesAgree_L0, h27, h61, h91, h139, h187, h209, h229, h235, hg10, hg32, hg41, hR80, hg82, hg84, hg86, hg88, hg90, hg177, hg185, hg212, cs4])), aM1, aM1, aM1, aM1, aM1, aM1⟩
 intro h27
 have g237 := df h27
 obtain rfl : r12 = 0 := by omega
 refine Ke ?_
 have hR238 := q2 hM15 (.brk ()) (by simp only [w7_NodesAgree_L0, h27, hg10, cs4])
 refine KS ?_
 refine Oq (VldA sh25 2) ?_
 refine letv (g_HugeProgram p) fun rv239 hg240 => ?_
 have hc241 := fn12 p pa0 pk0 rv239 hg240
 refine Oc [4] ca12 hc241 ?_
 rintro - -
 refine Oq Vm ?_
 refine Js 68 ?_ ?_
 ·intro h242
  refine Osk (Osk (Osk (Osk (Osk (Osk (Oq Vpt (Oq Va (KS ?_))))))))
  have hq := q4 hrr true (by unfold w7_NodesAgree; simp only [h27, h242, hg10, hR238, hg240, cs4]); subst hq
  exact Kr () rfl (.tmp rfl .nil) [] trivial
 intro h242
 refine Oq (VldA sh25 2) (Oq (VldA sh27 1) ?_)
 refine letv (w7_agrees p n) fun rv245 hg246 => ?_
 have hc247 := fn9 p pa0 pk0 n kwLA kwLK pre pre pre pre (by first | assumption | exact Spoil_PSm (by assumption) (Program_SpP (by assumption)) | exact SpP_PSm (Program_SpP (by assumption))) rv245 hg246
 refine Oc [4, 5, 6] ca9 hc247 ?_
 rintro - -
 refine Oq Vm ?_
 refine Js 72 ?_ ?_
 ·intro h248
  have hc250 := fn13 kwLA kwLK w7_sane rfl
  refine Oc [5, 6] ca13 hc250 ?_
  rintro - -
  refine Oq Vpt (Oq Vpf (Oq Va (KS ?_)))
  have hq := q4 hrr w7_sane (by unfold w7_NodesAgree; simp only [h27, h242, h248, hg10, hR238, hg240, hg246, cs4]); subst hq
  exact Kr () rfl (.tmp rfl .nil) [] trivial
 intro h248
 refine Osk (Oq Vpf (Oq Vpf (Oq Va (KS ?_))))
 have hq := q4 hrr false (by unfold w7_NodesAgree; simp only [h27, h242, h248, hg10, hR238, hg240, hg246, cs4]); subst hq
 exact Kr () rfl (.tmp rfl .nil) [] trivial
end Go.SL.G
