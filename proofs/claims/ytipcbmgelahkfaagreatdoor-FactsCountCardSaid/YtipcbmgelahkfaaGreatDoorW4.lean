/- Part 4 of the walks: mirrors, plain laws and walks used by the last text of this claim. -/
import Derived.Test.YtipcbmgelahkfaaGreatDoorW3
import Derived.Test.YtipcbmgelahkfaaGreatDoorProg
set_option linter.unusedVariables false
set_option linter.unusedSimpArgs false
namespace Go.SL.G
open Go Go.SL Go.Proofs
set_option maxHeartbeats 20000000
set_option maxRecDepth 100000
theorem fn119 (pP : Value) (p : Gparser) (pa0 : Option Addr) (pk0 : Nat) (hp_1 : i64ok p.at_) (hp_2 : i64ok p.Err) (rr : Bool) (hrr : pz_begins p = .ret rr) : FT Tryz.prog 119 #[pP] [Cl pP [vl pa0 pk0 p.l, vi p.at_, vi p.Err], S pa0 pk0 p.l] (fun g : Unit => True) (fun g => vb rr) (fun g => [Cl pP [vl pa0 pk0 p.l, vi p.at_, vi p.Err]]) := by
 refine FTi Tryz.func119 fun w0 M0 F0 => ?_
 unfold i64ok at hp_1 hp_2
 refine Fb 40 1 fun _ => ?_
 have hx0 := lrn rr; have H := hrr; unfold pz_begins at H
 refine KS ?_
 refine Oq Va (KS ?_)
 refine Oa (AsV sl35 sz35 [.string (bs (Str.mk [117, 115, 101])), .string (bs (Str.mk [99, 97, 108, 108])), .string (bs (Str.mk [115, 111, 117, 114, 99, 101])), .string (bs (Str.mk [115, 105, 110, 107])), .string (bs (Str.mk [115, 97, 110, 105, 116, 105, 122, 101])), .string (bs (Str.mk [103, 111, 116, 111])), .string (bs (Str.mk [98, 114, 97, 110, 99, 104])), .string (bs (Str.mk [114, 101, 116, 117, 114, 110]))] [.string (bs (Str.mk [117, 115, 101])), .string (bs (Str.mk [99, 97, 108, 108])), .string (bs (Str.mk [115, 111, 117, 114, 99, 101])), .string (bs (Str.mk [115, 105, 110, 107])), .string (bs (Str.mk [115, 97, 110, 105, 116, 105, 122, 101])), .string (bs (Str.mk [103, 111, 116, 111])), .string (bs (Str.mk [98, 114, 97, 110, 99, 104])), .string (bs (Str.mk [114, 101, 116, 117, 114, 110]))]) fun c2 => ?_
 refine Jo 0 ?_; rintro a3 k4 rfl
 refine Oq Va (KS ?_)
 refine Oq Va (KS ?_)
 refine Jl [0] (Ent.crOs (α := Str) (A := []) _ ([(Str.mk [117, 115, 101]), (Str.mk [99, 97, 108, 108]), (Str.mk [115, 111, 117, 114, 99, 101]), (Str.mk [115, 105, 110, 107]), (Str.mk [115, 97, 110, 105, 116, 105, 122, 101]), (Str.mk [103, 111, 116, 111]), (Str.mk [98, 114, 97, 110, 99, 104]), (Str.mk [114, 101, 116, 117, 114, 110])] : List Str) _ aB1 (fun h => ⟨[.string (bs (Str.mk [117, 115, 101]))], [.string (bs (Str.mk [99, 97, 108, 108])), .string (bs (Str.mk [115, 111, 117, 114, 99, 101])), .string (bs (Str.mk [115, 105, 110, 107])), .string (bs (Str.mk [115, 97, 110, 105, 116, 105, 122, 101])), .string (bs (Str.mk [103, 111, 116, 111])), .string (bs (Str.mk [98, 114, 97, 110, 99, 104])), .string (bs (Str.mk [114, 101, 116, 117, 114, 110]))], rfl, (fun _ => ⟨rfl, by first | omega | (simp; done) | (dsimp only; omega) | exact lit_bl rfl⟩) h, ⟨[.string (bs (Str.mk [99, 97, 108, 108]))], [.string (bs (Str.mk [115, 111, 117, 114, 99, 101])), .string (bs (Str.mk [115, 105, 110, 107])), .string (bs (Str.mk [115, 97, 110, 105, 116, 105, 122, 101])), .string (bs (Str.mk [103, 111, 116, 111])), .string (bs (Str.mk [98, 114, 97, 110, 99, 104])), .string (bs (Str.mk [114, 101, 116, 117, 114, 110]))], rfl, (fun _ => ⟨rfl, by first | omega | (simp; done) | (dsimp only; omega) | exact lit_bl rfl⟩) h, ⟨[.string (bs (Str.mk [115, 111, 117, 114, 99, 101]))], [.string (bs (Str.mk [115, 105, 110, 107])), .string (bs (Str.mk [115, 97, 110, 105, 116, 105, 122, 101])), .string (bs (Str.mk [103, 111, 116, 111])), .string (bs (Str.mk [98, 114, 97, 110, 99, 104])), .string (bs (Str.mk [114, 101, 116, 117, 114, 110]))], rfl, (fun _ => ⟨rfl, by first | omega | (simp; done) | (dsimp only; omega) | exact lit_bl rfl⟩) h, ⟨[.string (bs (Str.mk [115, 105, 110, 107]))], [.string (bs (Str.mk [115, 97, 110, 105, 116, 105, 122, 101])), .string (bs (Str.mk [103, 111, 116, 111])), .string (bs (Str.mk [98, 114, 97, 110, 99, 104])), .string (bs (Str.mk [114, 101, 116, 117, 114, 110]))], rfl, (fun _ => ⟨rfl, by first | omega | (simp; done) | (dsimp only; omega) | exact lit_bl rfl⟩) h, ⟨[.string (bs (Str.mk [115, 97, 110, 105, 116, 105, 122, 101]))], [.string (bs (Str.mk [103, 111, 116, 111])), .string (bs (Str.mk [98, 114, 97, 110, 99, 104])), .string (bs (Str.mk [114, 101, 116, 117, 114, 110]))], rfl, (fun _ => ⟨rfl, by first | omega | (simp; done) | (dsimp only; omega) | exact lit_bl rfl⟩) h, ⟨[.string (bs (Str.mk [103, 111, 116, 111]))], [.string (bs (Str.mk [98, 114, 97, 110, 99, 104])), .string (bs (Str.mk [114, 101, 116, 117, 114, 110]))], rfl, (fun _ => ⟨rfl, by first | omega | (simp; done) | (dsimp only; omega) | exact lit_bl rfl⟩) h, ⟨[.string (bs (Str.mk [98, 114, 97, 110, 99, 104]))], [.string (bs (Str.mk [114, 101, 116, 117, 114, 110]))], rfl, (fun _ => ⟨rfl, by first | omega | (simp; done) | (dsimp only; omega) | exact lit_bl rfl⟩) h, ⟨[.string (bs (Str.mk [114, 101, 116, 117, 114, 110]))], [], rfl, (fun _ => ⟨rfl, by first | omega | (simp; done) | (dsimp only; omega) | exact lit_bl rfl⟩) h, rfl⟩⟩⟩⟩⟩⟩⟩⟩)) ?_
 refine Fb 16 0 fun _ => ?_
 refine FoS 0 fun ho6 => ?_
 refine llH H hx0 fun X14 hX15 hx16 HL17 => ?_
 refine Kl (γ := Nat × Int) (fun (r7, i_8) => ⟨[(0, pP), (3, .slice a3 8 k4), (4, vi i_8)], [os (.slice a3 8 k4) ([(Str.mk [117, 115, 101]), (Str.mk [99, 97, 108, 108]), (Str.mk [115, 111, 117, 114, 99, 101]), (Str.mk [115, 105, 110, 107]), (Str.mk [115, 97, 110, 105, 116, 105, 122, 101]), (Str.mk [103, 111, 116, 111]), (Str.mk [98, 114, 97, 110, 99, 104]), (Str.mk [114, 101, 116, 117, 114, 110])] : List Str), Cl pP [vl pa0 pk0 p.l, vi p.at_, vi p.Err], S pa0 pk0 p.l], pz_begins_L0 p r7 i_8 = X14 ∧ r7 = ((((8 : Nat) : Int) : Int) - i_8).toNat ∧ (0 : Int) ≤ i_8 ∧ (i_8 ≤ ((8 : Nat) : Int) ∨ i_8 = 0) ∧ (-9223372036854775808 ≤ i_8 ∧ i_8 ≤ 9223372036854775807), r7⟩) (((((8 : Nat) : Int) : Int) - 0).toNat, 0) [0, 0, 0] ⟨hX15, rfl, aM1, (.inr rfl), aM1⟩ ?_
 rintro ⟨r7, i_8⟩ ⟨hM9, hr10, hi11, hi12, hk13⟩
 refine JJ_nx fun _ _ hL hA => ?_; dsimp only at hL hA; subst hL hA
 refine Fb 16 0 fun _ => ?_
 refine FoS 0 fun ho19 => ?_
 refine Fl 0 fun hn20 => Fb 40 2 fun _ => ?_
 refine KS ?_
 refine Oq Vm (Oq Vm (Oq (Vlen sl35) (Oq Vlss (KS ?_))))
 refine Kc ?_ ?_
 ·intro h22
  have g23 := dt h22
  obtain ⟨r24, rfl⟩ := scc (n := r7) aM1
  have H := hM9; (try dsimp only at H); rw [pz_begins_L0] at H
  refine KS ?_
  refine Oq Vm (Oq Vm (Oq Vm ?_))
  refine pC H hx16 fun hc25 H => ?_
  refine Oq (Vi sl35 0) ?_
  have hb26 := okS (i := i_8.toNat) ho19 rng
  refine Oq (VldS sh9 0) ?_
  refine lbH H hx16 fun rv27 hg28 H => ?_
  have hc29 := fn83 pP p pa0 pk0 (([(Str.mk [117, 115, 101]), (Str.mk [99, 97, 108, 108]), (Str.mk [115, 111, 117, 114, 99, 101]), (Str.mk [115, 105, 110, 107]), (Str.mk [115, 97, 110, 105, 116, 105, 122, 101]), (Str.mk [103, 111, 116, 111]), (Str.mk [98, 114, 97, 110, 99, 104]), (Str.mk [114, 101, 116, 117, 114, 110])].getD i_8.toNat default)) pre pre pre rv27 hg28
  refine Oc [1, 1] ca83 hc29 ?_
  rintro - -
  refine KS ?_
  refine KcH H ?_ ?_
  ·intro h30 H
   refine KS ?_
   refine Oq Va (KS ?_)
   have H := llR H HL17
   have hq := rI H; subst hq
   exact Kr () rfl (.tmp rfl .nil) [0] trivial
  intro h30 H
  refine KS ?_
  refine Oq Vm (Oq Vadd (Oq Va (KS ?_)))
  refine pC H hx16 fun hc33 H => ?_
  exact Kg (r24, (i_8 + 1)) [1, 0, 0] ⟨H, aM1, aM1, aM1, aM1⟩
 intro h22
 have g34 := df h22
 obtain rfl : r7 = 0 := by omega
 have H := hM9; (try dsimp only at H); rw [pz_begins_L0] at H
 refine Ke ?_
 have H := llB H HL17
 refine KS ?_
 refine Oq Vm ?_
 refine lbH H hx0 fun rv35 hg36 H => ?_
 have hc37 := fn117 pP p pa0 pk0 pre pre rv35 hg36
 refine Oc [1, 1] ca117 hc37 ?_
 rintro - -
 refine Oq Va (KS ?_)
 have hq := rI H; subst hq
 exact Kr () rfl (.tmp rfl .nil) [0] trivial
theorem fn126 (pP : Value) (p : Gparser) (pa0 : Option Addr) (pk0 : Nat) (hp_1 : i64ok p.at_) (hp_2 : i64ok p.Err) (rr : List Str × Gparser) (hrr : pz_names p = .ret rr) : FT Tryz.prog 126 #[pP] [Cl pP [vl pa0 pk0 p.l, vi p.at_, vi p.Err], S pa0 pk0 p.l] (fun g : Value => i64ok rr.2.at_ ∧ i64ok rr.2.Err) (fun g => g) (fun g => [sl g rr.1, Cl pP [vl pa0 pk0 p.l, vi rr.2.at_, vi rr.2.Err]]) := by
 refine FTi Tryz.func126 fun w0 M0 F0 => ?_
 unfold i64ok at hp_1 hp_2
 refine Fb 40 1 fun _ => ?_
 have hx0 := lrn rr; have H := hrr; unfold pz_names at H
 refine KS ?_
 refine Oq Va (KS ?_)
 refine Oq Va (KS ?_)
 refine Jl [] (Ent.osNil (α := Str)) ?_
 refine llH H hx0 fun X11 hX12 hx13 HL14 => ?_
 refine Kl (γ := Nat × Int × Int × List Str × Option Addr × Nat) (fun (r2, p1_3, p2_4, out_5, a6, k7) => ⟨[(0, pP), (3, vl a6 k7 out_5)], [O a6 k7 out_5, Cl pP [vl pa0 pk0 p.l, vi p1_3, vi p2_4], S pa0 pk0 p.l], pz_names_L0 p r2 p1_3 p2_4 out_5 = X11 ∧ (-9223372036854775808 ≤ p1_3 ∧ p1_3 ≤ 9223372036854775807) ∧ (-9223372036854775808 ≤ p2_4 ∧ p2_4 ≤ 9223372036854775807), r2⟩) (100000, p.at_, p.Err, [], none, 0) [0, 0, 0] ⟨hX12, aM1, aM1⟩ ?_
 rintro ⟨r2, p1_3, p2_4, out_5, a6, k7⟩ ⟨hM8, hk9, hk10⟩
 refine JJ_nx fun _ _ hL hA => ?_; dsimp only at hL hA; subst hL hA
 refine Fb 16 0 fun _ => ?_
 refine FoS 0 fun ho16 => ?_
 refine Fb 40 2 fun _ => ?_
 rcases r2 with _ | r2
 ·exact absurd (hM8.symm.trans rfl) hx13
 have H := hM8; (try dsimp only at H); rw [pz_names_L0] at H
 refine KS ?_
 refine Oq Vm ?_
 refine lbH H hx13 fun rv18 hg19 H => ?_
 have hc20 := fn117 pP (Gparser.mk p.l p1_3 p2_4) pa0 pk0 pre pre rv18 hg19
 refine Oc [1, 1] ca117 hc20 ?_
 rintro - -
 refine KS ?_
 refine KcH H ?_ ?_
 ·intro h21 H
  refine KS ?_
  refine Oq Vm (Oq (Vlen sl35) (Oq Veql (KS ?_)))
  refine pF H hx13 fun h23 H => ?_
  refine KcF h23 ?_
  have g24 := ne_of_beq_false h23
  refine KS ?_
  refine Oq Vm (Oq Vm ?_)
  refine lbH H hx13 fun rv25 hg26 H => ?_
  have hc27 := fn108 pP (Gparser.mk p.l p1_3 p2_4) pa0 pk0 pre pre rv25 hg26
  refine Oc [0, 1] ca108 hc27 ?_
  rintro - ⟨he28, he29, he30⟩
  unfold i64ok at he29 he30
  refine Oa (AsV sl35 sz35 [.string (bs rv25.1)] [.string (bs rv25.1)]) fun c31 => ?_
  refine Jo 0 ?_; rintro a32 k33 rfl
  refine Jl [0] (Ent.cr1 (α := Str) (A := []) _ rv25.1 _ aB1 (fun _ => ⟨rfl, aS1⟩)) ?_
  refine pC H hx13 fun hc34 H => ?_
  refine Oa (ApO [2, 0] sl35 sl35 sz35) fun c35 => ?_
  refine Jo 0 ?_; rintro a36 k37 rfl
  refine Fb 16 0 fun _ => ?_
  refine FoS 0 fun ho39 => ?_
  have hn40 := la out_5 ([rv25.1] : List Str)
  refine Oq Va (KS ?_)
  exact Kg (r2, rv25.2.at_, rv25.2.Err, (out_5 ++ [rv25.1]), a36, k37) [0, 0, 0] ⟨H, aM1, aM1⟩
 intro h21 H
 refine Ke ?_
 have H := llB H HL14
 dsimp only at H
 refine KS ?_
 refine Oq Vm (Oq Va (KS ?_))
 refine Jl [1] (Ent.freeze _ _) ?_
 have hq := rI H; subst hq
 exact Kr (vl a6 k7 out_5) rfl (.tmp rfl .nil) [0, 1] en
theorem fn120 (pP : Value) (p : Gparser) (pa0 : Option Addr) (pk0 : Nat) (hp_1 : i64ok p.at_) (hp_2 : i64ok p.Err) (rr : GStmt × Gparser) (hrr : pz_stmt p = .ret rr) : FT Tryz.prog 120 #[pP] [Cl pP [vl pa0 pk0 p.l, vi p.at_, vi p.Err], S pa0 pk0 p.l] (fun g : Value × Value => i64ok rr.1.Op ∧ rr.1.Def.b.length ≤ 140737488355328 ∧ i64ok rr.2.at_ ∧ i64ok rr.2.Err) (fun g => .agg #[vi rr.1.Op, .string (bs rr.1.Def), g.1, g.2]) (fun g => [sl g.1 rr.1.Uses, sl g.2 rr.1.Targets, Cl pP [vl pa0 pk0 p.l, vi rr.2.at_, vi rr.2.Err]]) := by
 refine FTi Tryz.func120 fun w0 M0 F0 => ?_
 unfold i64ok at hp_1 hp_2
 refine Fb 40 1 fun _ => ?_
 have hx0 := lrn rr; have H := hrr; unfold pz_stmt at H
 refine KS ?_
 refine Oa (Al ze37 [vi 0, .string (bs (Str.mk [])), .slice none 0 0, .slice none 0 0]) fun p2 => KS ?_
 refine Oa (Al ze37 [vi 0, .string (bs (Str.mk [])), .slice none 0 0, .slice none 0 0]) fun p3 => KS ?_
 refine Oq Va (KS ?_)
 refine Oq Vm ?_
 refine lbH H hx0 fun rv4 hg5 H => ?_
 have hc6 := fn117 pP p pa0 pk0 pre pre rv4 hg5
 refine Oc [2, 2] ca117 hc6 ?_
 rintro - -
 refine Oq Vnot (KS ?_)
 refine KcH H ?_ ?_
 ·intro h7 H
  have h9 := not_true h7
  refine KS ?_
  refine Jp 0 fun hp11 => ?_
  refine pC H hx0 fun hc12 H => ?_
  refine JJ_peek_GToken p.at_.toNat 4 rfl rng fun hb13 hb14 hb15 hb16 => ?_
  unfold i64ok at hb13 hb15 hb16
  refine Kq [0, 1, 3, 7, 0, 16, 48, 112, 255, 511, 1023, 2047] fmix ?_
  refine Qv [] Vm (Qv [1] (Vn 0) (Qv [1] (Vfa fo119_0 0) (Qv [2] (VldF sh114 0) (Qv [] Vm (Qv [1] (Vn 0) (Qv [1] (Vfa fo119_1 0) (Qv [2] (VldF sh3 0) (Qv [5] (Vi sl114 0) (Qv [0] (Vfa fo123_1 0) ?_)))))))))
  refine Qv [0] (VldF sh9 0) (Qv [] Va ?_)
  refine Qn ⟨by kernel_rfl, ?_⟩
  refine KS ?_
  refine Oq Vm (Oq (Vn 2) (Oq (Vfa fo119_1 2) (Oq (VldF sh3 2) ?_)))
  refine pC H hx0 fun hc17 H => ?_
  refine pC H hx0 fun hc18 H => ?_
  refine Oq Vadd (Oq (Vn 2) (Oq (Vfa fo119_1 2) (Ost (SclF [2] sh3 [vl pa0 pk0 p.l, vi (p.at_ + 1), vi p.Err]) (KS ?_))))
  refine Oq Vm (KS ?_)
  refine Oq (VeqS (l := (p.l.getD p.at_.toNat default).Text) (m := (Str.mk [117, 115, 101]))) (Oq Va (KS ?_))
  refine pF H hx0 fun h19 H => ?_
  refine KcF h19 ?_
  have g20 := ne_of_beq_false h19
  refine KS ?_
  refine Oq (VeqS (l := (p.l.getD p.at_.toNat default).Text) (m := (Str.mk [99, 97, 108, 108]))) (Oq Va (KS ?_))
  refine pF H hx0 fun h21 H => ?_
  refine KcF h21 ?_
  have g22 := ne_of_beq_false h21
  refine KS ?_
  refine Oq (VeqS (l := (p.l.getD p.at_.toNat default).Text) (m := (Str.mk [115, 111, 117, 114, 99, 101]))) (Oq Va (KS ?_))
  refine pF H hx0 fun h23 H => ?_
  refine KcF h23 ?_
  have g24 := ne_of_beq_false h23
  refine KS ?_
  refine Oq (VeqS (l := (p.l.getD p.at_.toNat default).Text) (m := (Str.mk [115, 105, 110, 107]))) (Oq Va (KS ?_))
  refine pF H hx0 fun h25 H => ?_
  refine KcF h25 ?_
  have g26 := ne_of_beq_false h25
  refine KS ?_
  refine Oq (VeqS (l := (p.l.getD p.at_.toNat default).Text) (m := (Str.mk [115, 97, 110, 105, 116, 105, 122, 101]))) (Oq Va (KS ?_))
  refine KcH H ?_ ?_
  ·intro h27 H
   have g28 := eq_of_beq h27
   refine KS ?_
   refine Oq Vm ?_
   refine lbH H hx0 fun rv29 hg30 H => ?_
   have hc31 := fn108 pP (Gparser.mk p.l (p.at_ + 1) p.Err) pa0 pk0 pre pre rv29 hg30
   refine Oc [0, 4] ca108 hc31 ?_
   rintro - ⟨he32, he33, he34⟩
   unfold i64ok at he33 he34
   refine Oq (Vfa fo37_0 3) (Ost (SclF [3] sh3 [vi 6, .string (bs (Str.mk [])), .slice none 0 0, .slice none 0 0]) (Oq (Vfa fo37_1 0) (Ost (SclF [0] sh9 [vi 6, .string (bs rv29.1), .slice none 0 0, .slice none 0 0]) (KS ?_))))
   refine Oq Vm ?_
   refine lbH H hx0 fun rv35 hg36 H => ?_
   have hc37 := fn109 pP (Gparser.mk p.l rv29.2.at_ rv29.2.Err) pa0 pk0 pre pre rv35 hg36
   refine Oc [1, 4] ca109 hc37 ?_
   rintro - ⟨he38, he39⟩
   unfold i64ok at he38 he39
   refine KS ?_
   refine Oq (VldA sh37 1) (Ost (Scl [4] sh37 [vi 6, .string (bs rv29.1), .slice none 0 0, .slice none 0 0]) (KS ?_))
   refine Jl [] (Ent.slNil (α := Str)) ?_
   have hq := rI H; subst hq
   exact Kr (.slice none 0 0, .slice none 0 0) rfl (.cellN 1 rfl sh37 rfl (reads_Cl _ _) rfl .nil) [0, 0, 2] en
  intro h27 H
  have g40 := ne_of_beq_false h27
  refine KS ?_
  refine Oq (VeqS (l := (p.l.getD p.at_.toNat default).Text) (m := (Str.mk [103, 111, 116, 111]))) (Oq Va (KS ?_))
  refine pF H hx0 fun h41 H => ?_
  refine KcF h41 ?_
  have g42 := ne_of_beq_false h41
  refine KS ?_
  refine Oq (VeqS (l := (p.l.getD p.at_.toNat default).Text) (m := (Str.mk [98, 114, 97, 110, 99, 104]))) (Oq Va (KS ?_))
  refine pF H hx0 fun h43 H => ?_
  refine KcF h43 ?_
  have g44 := ne_of_beq_false h43
  refine KS ?_
  refine Oq (VeqS (l := (p.l.getD p.at_.toNat default).Text) (m := (Str.mk [114, 101, 116, 117, 114, 110]))) (Oq Va (KS ?_))
  refine KcH H ?_ ?_
  ·intro h45 H
   have g46 := eq_of_beq h45
   refine KS ?_
   refine Oq (Vfa fo37_0 3) (Ost (SclF [3] sh3 [vi 9, .string (bs (Str.mk [])), .slice none 0 0, .slice none 0 0]) (KS ?_))
   refine Oq Vm ?_
   refine lbH H hx0 fun rv47 hg48 H => ?_
   have hc49 := fn109 pP (Gparser.mk p.l (p.at_ + 1) p.Err) pa0 pk0 pre pre rv47 hg48
   refine Oc [1, 4] ca109 hc49 ?_
   rintro - ⟨he50, he51⟩
   unfold i64ok at he50 he51
   refine KS ?_
   refine Oq (VldA sh37 1) (Ost (Scl [4] sh37 [vi 9, .string (bs (Str.mk [])), .slice none 0 0, .slice none 0 0]) (KS ?_))
   refine Jl [] (Ent.slNil (α := Str)) ?_
   have hq := rI H; subst hq
   exact Kr (.slice none 0 0, .slice none 0 0) rfl (.cellN 1 rfl sh37 rfl (reads_Cl _ _) rfl .nil) [0, 0, 2] en
  intro h45 H
  have g52 := ne_of_beq_false h45
  refine KS ?_
  refine Oq Vm ?_
  refine lbH H hx0 fun rv53 hg54 H => ?_
  have hc55 := fn108 pP (Gparser.mk p.l (p.at_ + 1) p.Err) pa0 pk0 pre pre rv53 hg54
  refine Oc [0, 4] ca108 hc55 ?_
  rintro - ⟨he56, he57, he58⟩
  unfold i64ok at he57 he58
  refine Oq (Vfa fo37_0 3) (Ost (SclF [3] sh3 [vi 1, .string (bs (Str.mk [])), .slice none 0 0, .slice none 0 0]) (Oq (Vfa fo37_1 0) (Ost (SclF [0] sh9 [vi 1, .string (bs rv53.1), .slice none 0 0, .slice none 0 0]) (KS ?_))))
  refine Oq Vm ?_
  refine lbH H hx0 fun rv59 hg60 H => ?_
  have hc61 := fn118 pP (Gparser.mk p.l rv53.2.at_ rv53.2.Err) pa0 pk0 2 pre pre pre rv59 hg60
  refine Oc [1, 4] ca118 hc61 ?_
  rintro - -
  refine Oq Vnot (KS ?_)
  refine pF H hx0 fun h62 H => ?_
  refine KcF h62 ?_
  have h64 := not_false h62
  refine KS ?_
  refine Oq Vm (Oq (Vn 0) (Oq (Vfa fo119_1 0) (Oq (VldF sh3 0) ?_)))
  refine pC H hx0 fun hc66 H => ?_
  refine Oq Vadd (Oq (Vn 0) (Oq (Vfa fo119_1 0) (Ost (SclF [0] sh3 [vl pa0 pk0 p.l, vi (rv53.2.at_ + 1), vi rv53.2.Err]) (KS ?_))))
  refine Oq Vm ?_
  refine lbH H hx0 fun rv68 hg69 H => ?_
  have hc70 := fn126 pP (Gparser.mk p.l (rv53.2.at_ + 1) rv53.2.Err) pa0 pk0 pre pre rv68 hg69
  refine Oc [0, 4] ca126 hc70 ?_
  rintro c67 ⟨he71, he72⟩
  unfold i64ok at he71 he72
  refine Jo 0 ?_; rintro a73 k74 rfl
  refine Fb 16 0 fun _ => ?_
  refine FoS 0 fun ho76 => ?_
  refine Oq (Vfa fo37_2 2) (Ost (SclF [2] sh35 [vi 1, .string (bs rv53.1), vl a73 k74 rv68.1, .slice none 0 0]) (KS ?_))
  refine Oq Vm ?_
  refine lbH H hx0 fun rv77 hg78 H => ?_
  have hc79 := fn109 pP (Gparser.mk p.l rv68.2.at_ rv68.2.Err) pa0 pk0 pre pre rv77 hg78
  refine Oc [2, 5] ca109 hc79 ?_
  rintro - ⟨he80, he81⟩
  unfold i64ok at he80 he81
  refine KS ?_
  refine Oq (VldA sh37 1) (Ost (Scl [5] sh37 [vi 1, .string (bs rv53.1), vl a73 k74 rv68.1, .slice none 0 0]) (KS ?_))
  refine Jl [] (Ent.slNil (α := Str)) ?_
  have hq := rI H; subst hq
  exact Kr (vl a73 k74 rv68.1, .slice none 0 0) rfl (.cellN 1 rfl sh37 rfl (reads_Cl _ _) rfl .nil) [4, 0, 2] en
 intro h7 H
 have h83 := not_false h7
 refine KS ?_
 refine Oq Vm (KS ?_)
 refine Oq (VeqS (l := (Str.mk [])) (m := (Str.mk [117, 115, 101]))) (Oq Va (KS ?_))
 refine pF H hx0 fun h85 H => ?_
 refine KcF h85 ?_
 have g86 := ne_of_beq_false h85
 refine KS ?_
 refine Oq (VeqS (l := (Str.mk [])) (m := (Str.mk [99, 97, 108, 108]))) (Oq Va (KS ?_))
 refine pF H hx0 fun h87 H => ?_
 refine KcF h87 ?_
 have g88 := ne_of_beq_false h87
 refine KS ?_
 refine Oq (VeqS (l := (Str.mk [])) (m := (Str.mk [115, 111, 117, 114, 99, 101]))) (Oq Va (KS ?_))
 refine pF H hx0 fun h89 H => ?_
 refine KcF h89 ?_
 have g90 := ne_of_beq_false h89
 refine KS ?_
 refine Oq (VeqS (l := (Str.mk [])) (m := (Str.mk [115, 105, 110, 107]))) (Oq Va (KS ?_))
 refine pF H hx0 fun h91 H => ?_
 refine KcF h91 ?_
 have g92 := ne_of_beq_false h91
 refine KS ?_
 refine Oq (VeqS (l := (Str.mk [])) (m := (Str.mk [115, 97, 110, 105, 116, 105, 122, 101]))) (Oq Va (KS ?_))
 refine KcH H ?_ ?_
 ·intro h93 H
  have g94 := eq_of_beq h93
  refine KS ?_
  refine Oq Vm ?_
  refine lbH H hx0 fun rv95 hg96 H => ?_
  have hc97 := fn108 pP p pa0 pk0 pre pre rv95 hg96
  refine Oc [0, 2] ca108 hc97 ?_
  rintro - ⟨he98, he99, he100⟩
  unfold i64ok at he99 he100
  refine Oq (Vfa fo37_0 1) (Ost (SclF [1] sh3 [vi 6, .string (bs (Str.mk [])), .slice none 0 0, .slice none 0 0]) (Oq (Vfa fo37_1 0) (Ost (SclF [0] sh9 [vi 6, .string (bs rv95.1), .slice none 0 0, .slice none 0 0]) (KS ?_))))
  refine Oq Vm ?_
  refine lbH H hx0 fun rv101 hg102 H => ?_
  have hc103 := fn109 pP (Gparser.mk p.l rv95.2.at_ rv95.2.Err) pa0 pk0 pre pre rv101 hg102
  refine Oc [1, 2] ca109 hc103 ?_
  rintro - ⟨he104, he105⟩
  unfold i64ok at he104 he105
  refine KS ?_
  refine Oq (VldA sh37 1) (Ost (Scl [2] sh37 [vi 6, .string (bs rv95.1), .slice none 0 0, .slice none 0 0]) (KS ?_))
  refine Jl [] (Ent.slNil (α := Str)) ?_
  have hq := rI H; subst hq
  exact Kr (.slice none 0 0, .slice none 0 0) rfl (.cellN 1 rfl sh37 rfl (reads_Cl _ _) rfl .nil) [0, 0, 2] en
 intro h93 H
 have g106 := ne_of_beq_false h93
 refine KS ?_
 refine Oq (VeqS (l := (Str.mk [])) (m := (Str.mk [103, 111, 116, 111]))) (Oq Va (KS ?_))
 refine pF H hx0 fun h107 H => ?_
 refine KcF h107 ?_
 have g108 := ne_of_beq_false h107
 refine KS ?_
 refine Oq (VeqS (l := (Str.mk [])) (m := (Str.mk [98, 114, 97, 110, 99, 104]))) (Oq Va (KS ?_))
 refine pF H hx0 fun h109 H => ?_
 refine KcF h109 ?_
 have g110 := ne_of_beq_false h109
 refine KS ?_
 refine Oq (VeqS (l := (Str.mk [])) (m := (Str.mk [114, 101, 116, 117, 114, 110]))) (Oq Va (KS ?_))
 refine KcH H ?_ ?_
 ·intro h111 H
  have g112 := eq_of_beq h111
  refine KS ?_
  refine Oq (Vfa fo37_0 1) (Ost (SclF [1] sh3 [vi 9, .string (bs (Str.mk [])), .slice none 0 0, .slice none 0 0]) (KS ?_))
  refine Oq Vm ?_
  refine lbH H hx0 fun rv113 hg114 H => ?_
  have hc115 := fn109 pP p pa0 pk0 pre pre rv113 hg114
  refine Oc [1, 2] ca109 hc115 ?_
  rintro - ⟨he116, he117⟩
  unfold i64ok at he116 he117
  refine KS ?_
  refine Oq (VldA sh37 1) (Ost (Scl [2] sh37 [vi 9, .string (bs (Str.mk [])), .slice none 0 0, .slice none 0 0]) (KS ?_))
  refine Jl [] (Ent.slNil (α := Str)) ?_
  have hq := rI H; subst hq
  exact Kr (.slice none 0 0, .slice none 0 0) rfl (.cellN 1 rfl sh37 rfl (reads_Cl _ _) rfl .nil) [0, 0, 2] en
 intro h111 H
 have g118 := ne_of_beq_false h111
 refine KS ?_
 refine Oq Vm ?_
 refine lbH H hx0 fun rv119 hg120 H => ?_
 have hc121 := fn108 pP p pa0 pk0 pre pre rv119 hg120
 refine Oc [0, 2] ca108 hc121 ?_
 rintro - ⟨he122, he123, he124⟩
 unfold i64ok at he123 he124
 refine Oq (Vfa fo37_0 1) (Ost (SclF [1] sh3 [vi 1, .string (bs (Str.mk [])), .slice none 0 0, .slice none 0 0]) (Oq (Vfa fo37_1 0) (Ost (SclF [0] sh9 [vi 1, .string (bs rv119.1), .slice none 0 0, .slice none 0 0]) (KS ?_))))
 refine Oq Vm ?_
 refine lbH H hx0 fun rv125 hg126 H => ?_
 have hc127 := fn118 pP (Gparser.mk p.l rv119.2.at_ rv119.2.Err) pa0 pk0 2 pre pre pre rv125 hg126
 refine Oc [1, 2] ca118 hc127 ?_
 rintro - -
 refine Oq Vnot (KS ?_)
 refine pF H hx0 fun h128 H => ?_
 refine KcF h128 ?_
 have h130 := not_false h128
 refine KS ?_
 refine Oq Vm (Oq (Vn 0) (Oq (Vfa fo119_1 0) (Oq (VldF sh3 0) ?_)))
 refine pC H hx0 fun hc132 H => ?_
 refine Oq Vadd (Oq (Vn 0) (Oq (Vfa fo119_1 0) (Ost (SclF [0] sh3 [vl pa0 pk0 p.l, vi (rv119.2.at_ + 1), vi rv119.2.Err]) (KS ?_))))
 refine Oq Vm ?_
 refine lbH H hx0 fun rv134 hg135 H => ?_
 have hc136 := fn126 pP (Gparser.mk p.l (rv119.2.at_ + 1) rv119.2.Err) pa0 pk0 pre pre rv134 hg135
 refine Oc [0, 2] ca126 hc136 ?_
 rintro c133 ⟨he137, he138⟩
 unfold i64ok at he137 he138
 refine Jo 0 ?_; rintro a139 k140 rfl
 refine Fb 16 0 fun _ => ?_
 refine FoS 0 fun ho142 => ?_
 refine Oq (Vfa fo37_2 2) (Ost (SclF [2] sh35 [vi 1, .string (bs rv119.1), vl a139 k140 rv134.1, .slice none 0 0]) (KS ?_))
 refine Oq Vm ?_
 refine lbH H hx0 fun rv143 hg144 H => ?_
 have hc145 := fn109 pP (Gparser.mk p.l rv134.2.at_ rv134.2.Err) pa0 pk0 pre pre rv143 hg144
 refine Oc [2, 3] ca109 hc145 ?_
 rintro - ⟨he146, he147⟩
 unfold i64ok at he146 he147
 refine KS ?_
 refine Oq (VldA sh37 1) (Ost (Scl [3] sh37 [vi 1, .string (bs rv119.1), vl a139 k140 rv134.1, .slice none 0 0]) (KS ?_))
 refine Jl [] (Ent.slNil (α := Str)) ?_
 have hq := rI H; subst hq
 exact Kr (vl a139 k140 rv134.1, .slice none 0 0) rfl (.cellN 1 rfl sh37 rfl (reads_Cl _ _) rfl .nil) [4, 0, 2] en
theorem fn110 (pP : Value) (p : Gparser) (pa0 : Option Addr) (pk0 : Nat) (hp_1 : i64ok p.at_) (hp_2 : i64ok p.Err) (rr : GBlock × Gparser) (hrr : pz_block p = .ret rr) : FT Tryz.prog 110 #[pP] [Cl pP [vl pa0 pk0 p.l, vi p.at_, vi p.Err], S pa0 pk0 p.l] (fun g : Value => rr.1.Name.b.length ≤ 140737488355328 ∧ i64ok rr.2.at_ ∧ i64ok rr.2.Err) (fun g => .agg #[.string (bs rr.1.Name), g]) (fun g => [sl g rr.1.Stmts, Cl pP [vl pa0 pk0 p.l, vi rr.2.at_, vi rr.2.Err]]) := by
 refine FTi Tryz.func110 fun w0 M0 F0 => ?_
 unfold i64ok at hp_1 hp_2
 refine Fb 40 1 fun _ => ?_
 have hx0 := lrn rr; have H := hrr; unfold pz_block at H
 refine KS ?_
 refine Oa (Al ze34 [.string (bs (Str.mk [])), .slice none 0 0]) fun p2 => KS ?_
 refine Oa (Al ze34 [.string (bs (Str.mk [])), .slice none 0 0]) fun p3 => KS ?_
 refine Oq Vm ?_
 refine lbH H hx0 fun rv4 hg5 H => ?_
 have hc6 := fn107 pP p pa0 pk0 ((Str.mk [98, 108, 111, 99, 107])) pre pre pre rv4 hg5
 refine Oc [2, 2] ca107 hc6 ?_
 rintro - ⟨he7, he8⟩
 unfold i64ok at he7 he8
 refine KS ?_
 refine Oq Vm ?_
 refine lbH H hx0 fun rv9 hg10 H => ?_
 have hc11 := fn108 pP (Gparser.mk p.l rv4.at_ rv4.Err) pa0 pk0 pre pre rv9 hg10
 refine Oc [0, 2] ca108 hc11 ?_
 rintro - ⟨he12, he13, he14⟩
 unfold i64ok at he13 he14
 refine Oq (Vfa fo34_0 1) (Ost (SclF [1] sh9 [.string (bs rv9.1), .slice none 0 0]) (KS ?_))
 refine Oq Vm ?_
 refine lbH H hx0 fun rv15 hg16 H => ?_
 have hc17 := fn109 pP (Gparser.mk p.l rv9.2.at_ rv9.2.Err) pa0 pk0 pre pre rv15 hg16
 refine Oc [1, 2] ca109 hc17 ?_
 rintro - ⟨he18, he19⟩
 unfold i64ok at he18 he19
 refine KS ?_
 refine Oq Vm ?_
 refine lbH H hx0 fun rv20 hg21 H => ?_
 have hc22 := fn119 pP (Gparser.mk p.l rv15.at_ rv15.Err) pa0 pk0 pre pre rv20 hg21
 refine Oc [0, 2] ca119 hc22 ?_
 rintro - -
 refine Oq Vnot (KS ?_)
 refine pF H hx0 fun h23 H => ?_
 refine KcF h23 ?_
 have h25 := not_false h23
 refine KS ?_
 refine Jl [] (Ent.osNil (α := GStmt)) ?_
 refine llH H hx0 fun X36 hX37 hx38 HL39 => ?_
 refine Kl (γ := Nat × Int × Int × List GStmt × Option Addr × Nat) (fun (r27, p1_28, p2_29, b1_30, a31, k32) => ⟨[(0, pP), (2, p2), (3, p3)], [O a31 k32 b1_30, Cl pP [vl pa0 pk0 p.l, vi p1_28, vi p2_29], Cl p3 [.string (bs rv9.1), vl a31 k32 b1_30], Cl p2 [.string (bs (Str.mk [])), .slice none 0 0], S pa0 pk0 p.l], pz_block_L0 p r27 p1_28 p2_29 b1_30 = X36 ∧ (-9223372036854775808 ≤ p1_28 ∧ p1_28 ≤ 9223372036854775807) ∧ (-9223372036854775808 ≤ p2_29 ∧ p2_29 ≤ 9223372036854775807), r27⟩) (100000, rv15.at_, rv15.Err, [], none, 0) [0, 0, 0, 0, 0] ⟨hX37, aM1, aM1⟩ ?_
 rintro ⟨r27, p1_28, p2_29, b1_30, a31, k32⟩ ⟨hM33, hk34, hk35⟩
 refine JJ_nx fun _ _ hL hA => ?_; dsimp only at hL hA; subst hL hA
 refine Fb 72 0 fun _ => Fb 40 4 fun _ => ?_
 rcases r27 with _ | r27
 ·exact absurd (hM33.symm.trans rfl) hx38
 have H := hM33; (try dsimp only at H); rw [pz_block_L0] at H
 refine KS ?_
 refine Oq Vm ?_
 refine lbH H hx38 fun rv42 hg43 H => ?_
 have hc44 := fn119 pP (Gparser.mk p.l p1_28 p2_29) pa0 pk0 pre pre rv42 hg43
 refine Oc [1, 3] ca119 hc44 ?_
 rintro - -
 refine KS ?_
 refine KcH H ?_ ?_
 ·intro h45 H
  refine KS ?_
  refine Oq (Vfa fo34_1 2) (Oq (VldF sh32 2) (Oq (Vlen sl32) (Oq Veql (KS ?_))))
  refine pF H hx38 fun h47 H => ?_
  refine KcF h47 ?_
  have g48 := ne_of_beq_false h47
  refine KS ?_
  refine Jp 2 fun hp49 => ?_
  refine JK_drawK [0, 1, 0, 4, 12, 31, 63, 127] fmix ?_
  refine Dv [0] (Vfa fo34_1 0) (Dv [3] (VldF sh32 0) (Dv [] Vm ?_))
  refine lbH H hx38 fun rv52 hg53 H => ?_
  refine Dx [1, 5] [1] [4, 0, 1, 2, 3] (fun G => .agg #[vi rv52.1.Op, .string (bs rv52.1.Def), (G.g 3 0), (G.g 3 1)]) [fun G => SP.fact (i64ok rv52.1.Op ∧ rv52.1.Def.b.length ≤ 140737488355328 ∧ i64ok rv52.2.at_ ∧ i64ok rv52.2.Err), fun G => sl (G.g 3 0) rv52.1.Uses, fun G => sl (G.g 3 1) rv52.1.Targets, fun G => Cl pP [vl pa0 pk0 p.l, vi rv52.2.at_, vi rv52.2.Err]] (fun G => xC [0, 0] ca120 (fn120 pP (Gparser.mk p.l p1_28 p2_29) pa0 pk0 pre pre rv52 hg53)) (Dx [] [] [0] (fun G => (G.g 4 0)) [fun G => Cr (G.g 4 0) 1 [vi rv52.1.Op, .string (bs rv52.1.Def), (G.g 3 0), (G.g 3 1)]] (fun G => xA (AsV sl32 sz32 [.agg #[vi rv52.1.Op, .string (bs rv52.1.Def), (G.g 3 0), (G.g 3 1)]] [vi rv52.1.Op, .string (bs rv52.1.Def), (G.g 3 0), (G.g 3 1)])) ?_)
  refine pC H hx38 fun hc55 H => ?_
  have hn57 := la b1_30 ([rv52.1] : List GStmt)
  refine Dx [2, 6, 7, 8, 10] [2, 10] [3, 1, 2, 0] (fun G => (G.g 5 0)) [fun G => os (G.g 5 0) ((b1_30 ++ [rv52.1]) : List GStmt)] (fun G => by refine xf 1 rfl ?_; rintro ⟨he58, he59, he60, he61⟩; unfold i64ok at he58 he60 he61; exact xp [4, 2, 3] rfl (Ent.cr1 (α := GStmt) (A := [sl (G.g 3 0) rv52.1.Uses, sl (G.g 3 1) rv52.1.Targets]) _ rv52.1 _ aB1 (fun h => ⟨_, _, rfl, aL1, aS1, sepAll_get (i := 0) rfl h, sepAll_get (i := 1) rfl h⟩)) (xA (ApO [3, 0] sl32 sl32 sz32))) (Dv [0] (Vfa fo34_1 0) (Dx0 [3, 11] [3] [1, 0] [fun G => Cl p3 [.string (bs rv9.1), (G.g 5 0)]] (fun G => x1 1 rfl os_one fun ho62 => (xS (OpS.frame [0] rfl (OpS.storeClF [(G.g 5 0)] [.string (bs rv9.1), (G.g 5 0)] rfl rfl rfl sh32 (cells_of_one ho62) rfl (by simp only [List.all_cons, List.all_nil, ho62, Bool.and_true, Bool.true_and] <;> rfl) aB1 rfl)))) ?_))
  refine Dn ⟨by kernel_rfl, fun G => ?_⟩
  refine Jw2 [(0, pP), (2, p2), (3, p3)] [0, 4, 5] [SP.fact (i64ok rv52.1.Op ∧ rv52.1.Def.b.length ≤ 140737488355328 ∧ i64ok rv52.2.at_ ∧ i64ok rv52.2.Err), sl (G.g 3 0) rv52.1.Uses, sl (G.g 3 1) rv52.1.Targets, Cl pP [vl pa0 pk0 p.l, vi rv52.2.at_, vi rv52.2.Err], os (G.g 5 0) ((b1_30 ++ [rv52.1]) : List GStmt), Cl p3 [.string (bs rv9.1), (G.g 5 0)]] ?_
  generalize G.g 3 0 = c50, G.g 3 1 = c51, G.g 5 0 = c56
  refine Jf 3 rfl ?_; rintro ⟨he63, he64, he65, he66⟩
  unfold i64ok at he63 he65 he66
  refine Jk [1, 1, 3, 4, 5, 5, 5] ?_
  refine Jo 2 ?_; rintro a67 k68 rfl
  refine Fb 16 2 fun _ => ?_
  refine FoS 2 fun ho70 => ?_
  refine Jo 3 ?_; rintro a71 k72 rfl
  refine Fb 16 3 fun _ => ?_
  refine FoS 3 fun ho74 => ?_
  refine Jo 5 ?_; rintro a75 k76 rfl
  refine Fb 72 5 fun _ => KS ?_
  exact Kg (r27, rv52.2.at_, rv52.2.Err, (b1_30 ++ [rv52.1]), a75, k76) [5, 4, 4, 0, 0] ⟨H, aM1, aM1⟩
 intro h45 H
 refine Ke ?_
 have H := llB H HL39
 dsimp only at H
 refine KS ?_
 refine Oq (VldA sh34 2) (Ost (Scl [3] sh34 [.string (bs rv9.1), vl a31 k32 b1_30]) (KS ?_))
 refine Jl [2] (Ent.freeze _ _) ?_
 have hq := rI H; subst hq
 exact Kr (vl a31 k32 b1_30) rfl (.cellN 1 rfl sh34 rfl (reads_Cl _ _) rfl .nil) [0, 2] en
theorem fn85 (pP : Value) (p : Gparser) (pa0 : Option Addr) (pk0 : Nat) (hp_1 : i64ok p.at_) (hp_2 : i64ok p.Err) (rr : GFunc × Gparser) (hrr : pz_function p = .ret rr) : FT Tryz.prog 85 #[pP] [Cl pP [vl pa0 pk0 p.l, vi p.at_, vi p.Err], S pa0 pk0 p.l] (fun g : Value => rr.1.Name.b.length ≤ 140737488355328 ∧ i64ok rr.2.at_ ∧ i64ok rr.2.Err) (fun g => .agg #[.string (bs rr.1.Name), g]) (fun g => [sl g rr.1.Blocks, Cl pP [vl pa0 pk0 p.l, vi rr.2.at_, vi rr.2.Err]]) := by
 refine FTi Tryz.func85 fun w0 M0 F0 => ?_
 unfold i64ok at hp_1 hp_2
 refine Fb 40 1 fun _ => ?_
 have hx0 := lrn rr; have H := hrr; unfold pz_function at H
 refine KS ?_
 refine Oa (Al ze31 [.string (bs (Str.mk [])), .slice none 0 0]) fun p2 => KS ?_
 refine Oa (Al ze31 [.string (bs (Str.mk [])), .slice none 0 0]) fun p3 => KS ?_
 refine Oq Vm ?_
 refine lbH H hx0 fun rv4 hg5 H => ?_
 have hc6 := fn107 pP p pa0 pk0 ((Str.mk [102, 117, 110, 99])) pre pre pre rv4 hg5
 refine Oc [2, 2] ca107 hc6 ?_
 rintro - ⟨he7, he8⟩
 unfold i64ok at he7 he8
 refine KS ?_
 refine Oq Vm ?_
 refine lbH H hx0 fun rv9 hg10 H => ?_
 have hc11 := fn108 pP (Gparser.mk p.l rv4.at_ rv4.Err) pa0 pk0 pre pre rv9 hg10
 refine Oc [0, 2] ca108 hc11 ?_
 rintro - ⟨he12, he13, he14⟩
 unfold i64ok at he13 he14
 refine Oq (Vfa fo31_0 1) (Ost (SclF [1] sh9 [.string (bs rv9.1), .slice none 0 0]) (KS ?_))
 refine Oq Vm ?_
 refine lbH H hx0 fun rv15 hg16 H => ?_
 have hc17 := fn109 pP (Gparser.mk p.l rv9.2.at_ rv9.2.Err) pa0 pk0 pre pre rv15 hg16
 refine Oc [1, 2] ca109 hc17 ?_
 rintro - ⟨he18, he19⟩
 unfold i64ok at he18 he19
 refine KS ?_
 refine Oq Vm ?_
 refine lbH H hx0 fun rv20 hg21 H => ?_
 have hc22 := fn83 pP (Gparser.mk p.l rv15.at_ rv15.Err) pa0 pk0 ((Str.mk [98, 108, 111, 99, 107])) pre pre pre rv20 hg21
 refine Oc [0, 2] ca83 hc22 ?_
 rintro - -
 refine Oq Vnot (KS ?_)
 refine pF H hx0 fun h23 H => ?_
 refine KcF h23 ?_
 have h25 := not_false h23
 refine KS ?_
 refine Jl [] (Ent.osNil (α := GBlock)) ?_
 refine llH H hx0 fun X36 hX37 hx38 HL39 => ?_
 refine Kl (γ := Nat × Int × Int × List GBlock × Option Addr × Nat) (fun (r27, p1_28, p2_29, f1_30, a31, k32) => ⟨[(0, pP), (2, p2), (3, p3)], [O a31 k32 f1_30, Cl pP [vl pa0 pk0 p.l, vi p1_28, vi p2_29], Cl p3 [.string (bs rv9.1), vl a31 k32 f1_30], Cl p2 [.string (bs (Str.mk [])), .slice none 0 0], S pa0 pk0 p.l], pz_function_L0 p r27 p1_28 p2_29 f1_30 = X36 ∧ (-9223372036854775808 ≤ p1_28 ∧ p1_28 ≤ 9223372036854775807) ∧ (-9223372036854775808 ≤ p2_29 ∧ p2_29 ≤ 9223372036854775807), r27⟩) (100000, rv15.at_, rv15.Err, [], none, 0) [0, 0, 0, 0, 0] ⟨hX37, aM1, aM1⟩ ?_
 rintro ⟨r27, p1_28, p2_29, f1_30, a31, k32⟩ ⟨hM33, hk34, hk35⟩
 refine JJ_nx fun _ _ hL hA => ?_; dsimp only at hL hA; subst hL hA
 refine Fb 40 0 fun _ => Fb 40 4 fun _ => ?_
 rcases r27 with _ | r27
 ·exact absurd (hM33.symm.trans rfl) hx38
 have H := hM33; (try dsimp only at H); rw [pz_function_L0] at H
 refine KS ?_
 refine Oq Vm ?_
 refine lbH H hx38 fun rv42 hg43 H => ?_
 have hc44 := fn83 pP (Gparser.mk p.l p1_28 p2_29) pa0 pk0 ((Str.mk [98, 108, 111, 99, 107])) pre pre pre rv42 hg43
 refine Oc [1, 3] ca83 hc44 ?_
 rintro - -
 refine KS ?_
 refine KcH H ?_ ?_
 ·intro h45 H
  refine KS ?_
  refine Oq (Vfa fo31_1 2) (Oq (VldF sh29 2) (Oq (Vlen sl29) (Oq Veql (KS ?_))))
  refine pF H hx38 fun h47 H => ?_
  refine KcF h47 ?_
  have g48 := ne_of_beq_false h47
  refine KS ?_
  refine Jp 2 fun hp49 => ?_
  refine JK_drawK [0, 1, 0, 4, 12, 31, 63, 127] fmix ?_
  refine Dv [0] (Vfa fo31_1 0) (Dv [3] (VldF sh29 0) (Dv [] Vm ?_))
  refine lbH H hx38 fun rv51 hg52 H => ?_
  refine Dx [1, 5] [1] [3, 0, 1, 2] (fun G => .agg #[.string (bs rv51.1.Name), (G.g 3 0)]) [fun G => SP.fact (rv51.1.Name.b.length ≤ 140737488355328 ∧ i64ok rv51.2.at_ ∧ i64ok rv51.2.Err), fun G => sl (G.g 3 0) rv51.1.Stmts, fun G => Cl pP [vl pa0 pk0 p.l, vi rv51.2.at_, vi rv51.2.Err]] (fun G => xC [0, 0] ca110 (fn110 pP (Gparser.mk p.l p1_28 p2_29) pa0 pk0 pre pre rv51 hg52)) (Dx [] [] [0] (fun G => (G.g 4 0)) [fun G => Cr (G.g 4 0) 1 [.string (bs rv51.1.Name), (G.g 3 0)]] (fun G => xA (AsV sl29 sz29 [.agg #[.string (bs rv51.1.Name), (G.g 3 0)]] [.string (bs rv51.1.Name), (G.g 3 0)])) ?_)
  refine pC H hx38 fun hc54 H => ?_
  have hn56 := la f1_30 ([rv51.1] : List GBlock)
  refine Dx [2, 6, 7, 9] [2, 9] [2, 1, 0] (fun G => (G.g 5 0)) [fun G => os (G.g 5 0) ((f1_30 ++ [rv51.1]) : List GBlock)] (fun G => by refine xf 1 rfl ?_; rintro ⟨he57, he58, he59⟩; unfold i64ok at he58 he59; exact xp [3, 2] rfl (Ent.cr1 (α := GBlock) (A := [sl (G.g 3 0) rv51.1.Stmts]) _ rv51.1 _ aB1 (fun h => ⟨_, rfl, aS1, sepAll_get (i := 0) rfl h⟩)) (xA (ApO [2, 0] sl29 sl29 sz29))) (Dv [0] (Vfa fo31_1 0) (Dx0 [3, 10] [3] [1, 0] [fun G => Cl p3 [.string (bs rv9.1), (G.g 5 0)]] (fun G => x1 1 rfl os_one fun ho60 => (xS (OpS.frame [0] rfl (OpS.storeClF [(G.g 5 0)] [.string (bs rv9.1), (G.g 5 0)] rfl rfl rfl sh29 (cells_of_one ho60) rfl (by simp only [List.all_cons, List.all_nil, ho60, Bool.and_true, Bool.true_and] <;> rfl) aB1 rfl)))) ?_))
  refine Dn ⟨by kernel_rfl, fun G => ?_⟩
  refine Jw2 [(0, pP), (2, p2), (3, p3)] [0, 4, 5] [SP.fact (rv51.1.Name.b.length ≤ 140737488355328 ∧ i64ok rv51.2.at_ ∧ i64ok rv51.2.Err), sl (G.g 3 0) rv51.1.Stmts, Cl pP [vl pa0 pk0 p.l, vi rv51.2.at_, vi rv51.2.Err], os (G.g 5 0) ((f1_30 ++ [rv51.1]) : List GBlock), Cl p3 [.string (bs rv9.1), (G.g 5 0)]] ?_
  generalize G.g 3 0 = c50, G.g 5 0 = c55
  refine Jf 3 rfl ?_; rintro ⟨he61, he62, he63⟩
  unfold i64ok at he62 he63
  refine Jk [1, 1, 3, 4, 4, 4] ?_
  refine Jo 2 ?_; rintro a64 k65 rfl
  refine Fb 72 2 fun _ => ?_
  refine Jo 4 ?_; rintro a67 k68 rfl
  refine Fb 40 4 fun _ => KS ?_
  exact Kg (r27, rv51.2.at_, rv51.2.Err, (f1_30 ++ [rv51.1]), a67, k68) [4, 3, 3, 0, 0] ⟨H, aM1, aM1⟩
 intro h45 H
 refine Ke ?_
 have H := llB H HL39
 dsimp only at H
 refine KS ?_
 refine Oq Vm ?_
 refine lbH H hx0 fun rv71 hg72 H => ?_
 have hc73 := fn107 pP (Gparser.mk p.l p1_28 p2_29) pa0 pk0 ((Str.mk [101, 110, 100])) pre pre pre rv71 hg72
 refine Oc [0, 3] ca107 hc73 ?_
 rintro - ⟨he74, he75⟩
 unfold i64ok at he74 he75
 refine KS ?_
 refine Oq Vm ?_
 refine lbH H hx0 fun rv76 hg77 H => ?_
 have hc78 := fn109 pP (Gparser.mk p.l rv71.at_ rv71.Err) pa0 pk0 pre pre rv76 hg77
 refine Oc [0, 3] ca109 hc78 ?_
 rintro - ⟨he79, he80⟩
 unfold i64ok at he79 he80
 refine KS ?_
 refine Oq (VldA sh31 2) (Ost (Scl [3] sh31 [.string (bs rv9.1), vl a31 k32 f1_30]) (KS ?_))
 refine Jl [2] (Ent.freeze _ _) ?_
 have hq := rI H; subst hq
 exact Kr (vl a31 k32 f1_30) rfl (.cellN 1 rfl sh31 rfl (reads_Cl _ _) rfl .nil) [0, 2] en
theorem fn53 (text : Str) (htext_0 : text.b.length ≤ 140737488355328) (rr : GProgram × Int × Int × Int) (hrr : r4_Parse text = .ret rr) : FT Tryz.prog 53 #[.string (bs text)] [] (fun g : Value => i64ok rr.2.1 ∧ i64ok rr.2.2.1 ∧ i64ok rr.2.2.2) (fun g => .tuple #[.agg #[g], vi rr.2.1, vi rr.2.2.1, vi rr.2.2.2]) (fun g => [sl g rr.1.Funcs]) := by
 refine FTi Tryz.func53 fun w0 M0 F0 => ?_
 have hx0 := lrn rr; have H := hrr; unfold r4_Parse at H
 refine KS ?_
 refine Oa (Al ze25 [.slice none 0 0]) fun p1 => Oq Va (Oq Va (Oq Va (KS ?_)))
 refine Oq Vm ?_
 refine lbH H hx0 fun rv3 hg4 H => ?_
 have hc5 := fn82 text pre rv3 hg4
 refine Oc [] ca82 hc5 ?_
 rintro c2 ⟨he6, he7, he8⟩
 unfold i64ok at he6 he7 he8
 refine Jo 0 ?_; rintro a9 k10 rfl
 refine Fb 40 0 fun _ => ?_
 refine Oq Vm (Oq Vx (Oq Vx (Oq Vx (Oq Vx (Oq Va (Oq Va (Oq Va (Oq Va (KS ?_)))))))))
 refine Oq Vm (Oq Vneq (KS ?_))
 refine pF H hx0 fun h12 H => ?_
 refine KcF h12 ?_
 have g13 := eq_of_bne_false h12
 refine KS ?_
 refine Oq Vm (Oq (Vbd st119 [vl a9 k10 rv3.1, vi 0, vi 0]) (Oa (AbO [vl a9 k10 rv3.1, vi 0, vi 0]) fun p14 => Oq Va (KS ?_)))
 refine Oa (Al ze25 [.slice none 0 0]) fun p15 => KS ?_
 refine Oq Vm ?_
 refine lbH H hx0 fun rv16 hg17 H => ?_
 have hc18 := fn83 p14 (Gparser.mk rv3.1 0 0) a9 k10 ((Str.mk [102, 117, 110, 99])) pre pre pre rv16 hg17
 refine Oc [1, 1] ca83 hc18 ?_
 rintro - -
 refine Oq Vnot (KS ?_)
 refine pF H hx0 fun h19 H => ?_
 refine KcF h19 ?_
 have h21 := not_false h19
 refine KS ?_
 refine Jl [] (Ent.osNil (α := GFunc)) ?_
 refine llH H hx0 fun X32 hX33 hx34 HL35 => ?_
 refine Kl (γ := Nat × Int × Int × List GFunc × Option Addr × Nat) (fun (r23, p1_24, p2_25, out0_26, a27, k28) => ⟨[(2, p1), (6, vl a9 k10 rv3.1), (10, p14), (11, p15)], [O a27 k28 out0_26, Cl p14 [vl a9 k10 rv3.1, vi p1_24, vi p2_25], Cl p15 [vl a27 k28 out0_26], S a9 k10 rv3.1, Cl p1 [.slice none 0 0]], r4_Parse_L0 rv3.1 r23 p1_24 p2_25 out0_26 = X32 ∧ (-9223372036854775808 ≤ p1_24 ∧ p1_24 ≤ 9223372036854775807) ∧ (-9223372036854775808 ≤ p2_25 ∧ p2_25 ≤ 9223372036854775807), r23⟩) (100000, 0, 0, [], none, 0) [0, 0, 0, 0, 1] ⟨hX33, aM1, aM1⟩ ?_
 rintro ⟨r23, p1_24, p2_25, out0_26, a27, k28⟩ ⟨hM29, hk30, hk31⟩
 refine JJ_nx fun _ _ hL hA => ?_; dsimp only at hL hA; subst hL hA
 refine Fb 40 0 fun _ => Fb 40 3 fun _ => ?_
 rcases r23 with _ | r23
 ·exact absurd (hM29.symm.trans rfl) hx34
 have H := hM29; (try dsimp only at H); rw [r4_Parse_L0] at H
 refine KS ?_
 refine Oq Vm ?_
 refine lbH H hx34 fun rv38 hg39 H => ?_
 have hc40 := fn83 p14 (Gparser.mk rv3.1 p1_24 p2_25) a9 k10 ((Str.mk [102, 117, 110, 99])) pre pre pre rv38 hg39
 refine Oc [1, 2] ca83 hc40 ?_
 rintro - -
 refine KS ?_
 refine KcH H ?_ ?_
 ·intro h41 H
  refine KS ?_
  refine Oq (Vfa fo25_0 2) (Oq (VldF sh23 2) (Oq (Vlen sl23) (Oq Veql (KS ?_))))
  refine pF H hx34 fun h43 H => ?_
  refine KcF h43 ?_
  have g44 := ne_of_beq_false h43
  refine KS ?_
  refine Jp 2 fun hp45 => ?_
  refine JK_drawK [0, 1, 0, 4, 12, 31, 63, 127] fmix ?_
  refine Dv [0] (Vfa fo25_0 0) (Dv [3] (VldF sh23 0) (Dv [] Vm ?_))
  refine lbH H hx34 fun rv47 hg48 H => ?_
  refine Dx [1, 4] [1] [3, 0, 1, 2] (fun G => .agg #[.string (bs rv47.1.Name), (G.g 3 0)]) [fun G => SP.fact (rv47.1.Name.b.length ≤ 140737488355328 ∧ i64ok rv47.2.at_ ∧ i64ok rv47.2.Err), fun G => sl (G.g 3 0) rv47.1.Blocks, fun G => Cl p14 [vl a9 k10 rv3.1, vi rv47.2.at_, vi rv47.2.Err]] (fun G => xC [0, 0] ca85 (fn85 p14 (Gparser.mk rv3.1 p1_24 p2_25) a9 k10 pre pre rv47 hg48)) (Dx [] [] [0] (fun G => (G.g 4 0)) [fun G => Cr (G.g 4 0) 1 [.string (bs rv47.1.Name), (G.g 3 0)]] (fun G => xA (AsV sl23 sz23 [.agg #[.string (bs rv47.1.Name), (G.g 3 0)]] [.string (bs rv47.1.Name), (G.g 3 0)])) ?_)
  refine pC H hx34 fun hc50 H => ?_
  have hn52 := la out0_26 ([rv47.1] : List GFunc)
  refine Dx [2, 6, 7, 9] [2, 9] [2, 1, 0] (fun G => (G.g 5 0)) [fun G => os (G.g 5 0) ((out0_26 ++ [rv47.1]) : List GFunc)] (fun G => by refine xf 1 rfl ?_; rintro ⟨he53, he54, he55⟩; unfold i64ok at he54 he55; exact xp [3, 2] rfl (Ent.cr1 (α := GFunc) (A := [sl (G.g 3 0) rv47.1.Blocks]) _ rv47.1 _ aB1 (fun h => ⟨_, rfl, aS1, sepAll_get (i := 0) rfl h⟩)) (xA (ApO [2, 0] sl23 sl23 sz23))) (Dv [0] (Vfa fo25_0 0) (Dx0 [3, 10] [3] [1, 0] [fun G => Cl p15 [(G.g 5 0)]] (fun G => x1 1 rfl os_one fun ho56 => (xS (OpS.frame [0] rfl (OpS.storeClF [(G.g 5 0)] [(G.g 5 0)] rfl rfl rfl sh23 (cells_of_one ho56) rfl (by simp only [List.all_cons, List.all_nil, ho56, Bool.and_true, Bool.true_and] <;> rfl) aB1 rfl)))) ?_))
  refine Dn ⟨by kernel_rfl, fun G => ?_⟩
  refine Jw2 [(2, p1), (6, vl a9 k10 rv3.1), (10, p14), (11, p15)] [0, 4, 5] [SP.fact (rv47.1.Name.b.length ≤ 140737488355328 ∧ i64ok rv47.2.at_ ∧ i64ok rv47.2.Err), sl (G.g 3 0) rv47.1.Blocks, Cl p14 [vl a9 k10 rv3.1, vi rv47.2.at_, vi rv47.2.Err], os (G.g 5 0) ((out0_26 ++ [rv47.1]) : List GFunc), Cl p15 [(G.g 5 0)]] ?_
  generalize G.g 3 0 = c46, G.g 5 0 = c51
  refine Jf 3 rfl ?_; rintro ⟨he57, he58, he59⟩
  unfold i64ok at he58 he59
  refine Jk [1, 2, 3, 4, 4, 4] ?_
  refine Jo 2 ?_; rintro a60 k61 rfl
  refine Fb 40 2 fun _ => ?_
  refine Jo 4 ?_; rintro a63 k64 rfl
  refine Fb 40 4 fun _ => KS ?_
  exact Kg (r23, rv47.2.at_, rv47.2.Err, (out0_26 ++ [rv47.1]), a63, k64) [4, 3, 3, 0, 1] ⟨H, aM1, aM1⟩
 intro h41 H
 refine Ke ?_
 have H := llB H HL35
 dsimp only at H
 refine KS ?_
 refine Oq Vm (Oq (Vn 0) (Oq (Vfa fo119_2 0) (Oq (VldF sh39 0) (Oq Veql (Oq Vm ?_)))))
 refine pT H hx0 fun h67 H => ?_
 refine JsT 53 h67 ?_
 have g68 := eq_of_beq h67
 refine Oq Vm (Oq (Vn 0) (Oq (Vfa fo119_1 0) (Oq (VldF sh3 0) (Oq Vm (Oq (Vlen sl114) (Oq Vlss (Oq Vpt (KS ?_))))))))
 refine pF H hx0 fun h69 H => ?_
 refine KcF h69 ?_
 have g70 := df h69
 refine KS ?_
 refine Oq Vm (Oq (Vn 0) (Oq (Vfa fo119_2 0) (Oq (VldF sh39 0) (Oq Veql (KS ?_)))))
 refine Kc ?_ ?_
 ·intro h71
  have g72 := eq_of_beq h71
  refine KS ?_
  refine Oq (VldA sh25 2) (Ost (Scl [4] sh25 [vl a27 k28 out0_26]) (Oq Va (Oq Va (Oq Va (KS ?_)))))
  refine Jl [2] (Ent.freeze _ _) ?_
  have hq := rI H; subst hq
  exact Kr (vl a27 k28 out0_26) rfl (.cellN 1 rfl sh25 rfl (reads_Cl _ _) rfl (.tmp rfl (.tmp rfl (.tmp rfl .nil)))) [0] en
 intro h71
 exact absurd h71 (by first | (simp [h67]; done) | (simp only [bne, h67]; decide) | (simp only [bne, h67, Bool.not_true, Bool.not_false]; decide) | (exfalso; omega) | (intro hq; simp only [bne, hq, Bool.not_false, Bool.not_true, reduceCtorEq] at h67))
theorem fn25  (rr : GProgram) (hrr : w9_program = .ret rr) : FT Tryz.prog 25 #[] [] (fun g : Value => True) (fun g => .agg #[g]) (fun g => [sl g rr.Funcs]) := by
 refine FTi Tryz.func25 fun w0 M0 F0 => ?_
 have hx0 := lrn rr; have H := hrr; unfold w9_program at H
 refine KS ?_
 refine Oa (Al ze25 [.slice none 0 0]) fun p1 => KS ?_
 refine lbH H hx0 fun rv3 hg4 H => ?_
 have hc5 := fn53 ((Str.mk [102, 117, 110, 99, 32, 109, 59, 32, 98, 108, 111, 99, 107, 32, 98, 59, 32, 120, 32, 61, 32, 121, 59, 32, 115, 97, 110, 105, 116, 105, 122, 101, 32, 120, 59, 32, 114, 101, 116, 117, 114, 110, 59, 32, 101, 110, 100])) pre rv3 hg4
 refine Oc [] ca53 hc5 ?_
 rintro c2 ⟨he6, he7, he8⟩
 unfold i64ok at he6 he7 he8
 refine Jo 0 ?_; rintro a9 k10 rfl
 refine Fb 40 0 fun _ => ?_
 refine Oq Vm (Oq Vx (Oq Vx (Oq Vx (Oq Vx (Oa (Al ze25 [.slice none 0 0]) fun p12 => Ost (Scl [0] sh25 [vl a9 k10 rv3.1.Funcs]) (Oq Va (Oq Va (Oq Va ?_))))))))
 refine KS ?_
 refine Oq (VldA sh25 0) (Ost (Scl [2] sh25 [vl a9 k10 rv3.1.Funcs]) (KS ?_))
 have hq := rI H; subst hq
 exact Kr (vl a9 k10 rv3.1.Funcs) rfl (.cellN 0 rfl sh25 rfl (reads_Cl _ _) rfl .nil) [2] trivial
theorem fn86 (width : Int) (hwidth_0 : i64ok width) (rr : Bool) (hrr : bt_ranged width = .ret rr) : FT Tryz.prog 86 #[vi width] [] (fun g : Unit => True) (fun g => vb rr) (fun g => []) := by
 refine FTi Tryz.func86 fun w0 M0 F0 => ?_
 unfold i64ok at hwidth_0
 have hx0 := lrn rr; have H := hrr; unfold bt_ranged at H
 refine KS ?_
 refine Oq Va (KS ?_)
 refine Oq Vm (Oq Vgeq (Oq Vm ?_))
 refine pT H hx0 fun h1 H => ?_
 refine JsT 5 h1 ?_
 have g2 := dt h1
 refine Oq Vm (Oq Vleq (Oq Vpt (Oq Va (KS ?_))))
 have hq := rI H; subst hq
 exact Kr () rfl (.tmp rfl .nil) [] trivial
theorem fn87 (width : Int) (hwidth_0 : i64ok width) (rr : Int) (hrr : bt_words width = .ret rr) : FT Tryz.prog 87 #[vi width] [] (fun g : Unit => i64ok rr) (fun g => vi rr) (fun g => []) := by
 refine FTi Tryz.func87 fun w0 M0 F0 => ?_
 unfold i64ok at hwidth_0
 have hx0 := lrn rr; have H := hrr; unfold bt_words at H
 refine KS ?_
 refine Oq Va (KS ?_)
 refine Oq Vm ?_
 refine pC H hx0 fun hc1 H => ?_
 refine Oq Vadd ?_
 refine pC H hx0 fun hc2 H => ?_
 refine Oq Vsub ?_
 refine pC H hx0 fun hc3 H => ?_
 refine Oq Vquo (Oq Va (KS ?_))
 have hq := rI H; subst hq
 exact Kr () rfl (.tmp rfl .nil) [] en
theorem fn88 (width : Int) (hwidth_0 : i64ok width) (rr : BitVec 64) (hrr : bt_spare width = .ret rr) : FT Tryz.prog 88 #[vi width] [] (fun g : Unit => True) (fun g => u64 rr) (fun g => []) := by
 refine FTi Tryz.func88 fun w0 M0 F0 => ?_
 unfold i64ok at hwidth_0
 have hx0 := lrn rr; have H := hrr; unfold bt_spare at H
 refine KS ?_
 refine Oq Va (KS ?_)
 refine Oq Vm (Oq (VcU un3 un79) (Oq (VremU (b := 64#64) (by simp)) (Oq (VshlU (a := 18446744073709551615#64)) (Oq Va (KS ?_)))))
 have hq := rI H; subst hq
 exact Kr () rfl (.tmp rfl .nil) [] trivial
theorem fn54 (s : GSet) (sa1 : Option Addr) (sk1 : Nat) (hs_0 : i64ok s.Width) (rr : Bool) (hrr : bt_Valid s = .ret rr) : FT Tryz.prog 54 #[.agg #[vi s.Width, vl sa1 sk1 s.Words]] [S sa1 sk1 s.Words] (fun g : Unit => True) (fun g => vb rr) (fun g => []) := by
 refine FTi Tryz.func54 fun w0 M0 F0 => ?_
 unfold i64ok at hs_0
 refine Fb 8 0 fun _ => ?_
 have hx0 := lrn rr; have H := hrr; unfold bt_Valid at H
 refine KS ?_
 refine Oa (Ab [vi s.Width, vl sa1 sk1 s.Words]) fun p2 => Oq Va (KS ?_)
 refine JK_drawK [0, 1, 3, 7, 15, 31, 63, 127, 31, 287, 799, 2047, 4095] fmix ?_
 refine Dv [0] (Vfa fo47_0 0) (Dv [0] (VldF sh3 0) ?_)
 refine lbH H hx0 fun rv3 hg4 H => ?_
 refine Dx [] [] [0] (fun G => vb rv3) [fun G => SP.fact (True)] (fun G => xC [] ca86 (fn86 s.Width pre rv3 hg4)) (Dv [] Vnot ?_)
 refine pF H hx0 fun h5 H => ?_
 have h7 := not_false h5
 refine Db h5 [] Vm (Dv [0] (Vfa fo47_1 0) (Dv [0] (VldF sh45 0) (Dv [] (Vlen sl45) (Dv [0] (Vfa fo47_0 0) (Dv [0] (VldF sh3 0) ?_)))))
 refine lbH H hx0 fun rv9 hg10 H => ?_
 refine Dx [] [] [0] (fun G => vi rv9) [fun G => SP.fact (i64ok rv9)] (fun G => xC [] ca87 (fn87 s.Width pre rv9 hg10)) (Dv [] Vneq (Dv [] Vpf ?_))
 refine Dn ⟨by kernel_rfl, fun G => ?_⟩
 refine Jw2 [(1, p2), (15, vb ((s.Words.length : Int) != rv9))] [0, 1] [SP.fact (True), SP.fact (i64ok rv9)] ?_
 refine Jf 3 rfl ?_; rintro he11
 unfold i64ok at he11
 refine Jk [0, 1] ?_
 refine pF H hx0 fun h12 H => ?_
 refine KcF h12 ?_
 have g13 := eq_of_bne_false h12
 refine KS ?_
 refine JK_drawK [0, 1, 3, 7, 15, 31, 63, 31, 159, 415, 927, 2047, 4095, 31, 8223, 24607, 65535, 131071, 262143, 524287] fmix ?_
 refine Dv [0] (Vfa fo47_0 0) (Dv [0] (VldF sh3 0) ?_)
 refine pC H hx0 fun hc14 H => ?_
 refine Dv [] Vrem (Dv [] Veql ?_)
 refine pF H hx0 fun h15 H => ?_
 have g16 := ne_of_beq_false h15
 refine Db h15 [] Vm (Dv [0] (Vfa fo47_1 0) (Dv [0] (VldF sh45 0) (Dv [0] (Vfa fo47_1 0) (Dv [0] (VldF sh45 0) (Dv [] (Vlen sl45) ?_)))))
 refine pC H hx0 fun hc17 H => ?_
 refine Dv [] Vsub ?_
 refine pC H hx0 fun hc18 H => ?_
 refine Dv [1] (Vi sl45 0) (Dv [1] (VldU sh78 0) (Dv [0] (Vfa fo47_0 0) (Dv [0] (VldF sh3 0) ?_)))
 refine lbH H hx0 fun rv19 hg20 H => ?_
 refine Dx [] [] [0] (fun G => u64 rv19) [fun G => SP.fact (True)] (fun G => xC [] ca88 (fn88 s.Width pre rv19 hg20)) (Dv [] VandU (Dv [] (VeqlU (b := 0#64)) (Dv [] Vpf (Dv [] Va ?_))))
 refine Dn ⟨by kernel_rfl, fun G => ?_⟩
 refine Jw2 [(2, vb (((s.Words.getD (((s.Words.length : Int) - 1) : Int).toNat 0#64) &&& rv19) == 0#64))] [0, 1] [SP.fact (True)] ?_
 refine Jk [0, 1] ?_
 have hq := rI H; subst hq
 exact Kr () rfl (.tmp rfl .nil) [] trivial
theorem fn89 (x : BitVec 64) (rr : Int) (hrr : bits_TrailingZeros64 x = .ret rr) : FT Tryz.prog 89 #[u64 x] [pv (gp 1) (tabV .u8 tzT)] (fun g : Unit => i64ok rr) (fun g => vi rr) (fun g => []) := by
 refine FTi Tryz.func89 fun w0 M0 F0 => ?_
 have hx0 := lrn rr; have H := hrr; unfold bits_TrailingZeros64 at H
 refine KS ?_
 refine Oq Va (KS ?_)
 refine Oq Vm (Oq (VeqlU (b := 0#64)) (KS ?_))
 refine pF H hx0 fun h1 H => ?_
 refine KcF h1 ?_
 have g2 := ne_of_beq_false h1
 refine KS ?_
 refine Oq Vm (Oq Vm (Oq VnegU (Oq VandU (Oq (VmulU (b := 285870213051353865#64)) (Oq VshrU ?_)))))
 have hb3 := shr58 ((x &&& (-x)) * 285870213051353865#64)
 refine pC H hx0 fun hc4 H => ?_
 refine Oq (VixG un145 (b := (((x &&& (-x)) * 285870213051353865#64) >>> (((58#64).toNat : Int)).toNat)) (h := hb3)) ?_
 have hb5 := tab_ok (t := tzT) (m := 255) (by decide) (by decide) ((((x &&& (-x)) * 285870213051353865#64) >>> (((58#64).toNat : Int)).toNat).toNat)
 refine Oq (VldT sh5 0 (hm := hb3)) (Oq (VcK un5 un3) (Oq Va (KS ?_)))
 have hq := rI H; subst hq
 exact Kr () rfl (.tmp rfl .nil) [] en
theorem fn90 (s : List Int) (sa0 : Option Addr) (sk0 : Nat) (rr : List Int) (hrr : sc_Clip_int s = .ret rr) : FT Tryz.prog 90 #[vl sa0 sk0 s] [S sa0 sk0 s] (fun g : Value => True) (fun g => g) (fun g => [sl g rr]) := by
 refine FTi Tryz.func90 fun w0 M0 F0 => Fb 8 0 fun _ => Fo 0 fun ho2 => ?_
 have hx0 := lrn rr; have H := hrr; unfold sc_Clip_int at H
 refine KS ?_
 refine Oq Va (KS ?_)
 refine Oq Vm (Oq Vm (Oq (Vlen sl22) (Oq Vm (Oq (Vlen sl22) ?_))))
 refine pC H hx0 fun hc3 H => ?_
 refine Oa (OpA.frame [0] rfl (OpA.sliceSl3 0 ((s.length : Int).toNat) ((s.length : Int).toNat) rfl rfl sl22 rfl rfl ⟨_, natc rfl aM1⟩ ⟨_, natc rfl aM1⟩ rng rng rng rng)) fun c4 => ?_
 refine Jo 0 ?_; rintro a5 k6 rfl
 refine Fb 8 0 fun _ => Fo 0 fun ho8 => ?_
 have hn9 : ((s.take ((s.length : Int).toNat)).drop 0).length = ((s.length : Int).toNat) - 0 := len_slice rng rng
 refine Oq Va (KS ?_)
 have hq := rI H; subst hq
 exact Kr (.slice a5 (((s.take ((s.length : Int).toNat)).drop 0).length) k6) rfl (.tmp rfl .nil) [0] trivial
theorem fn55 (s : GSet) (sa1 : Option Addr) (sk1 : Nat) (hs_0 : i64ok s.Width) (rr : List Int) (hrr : bt_Members s = .ret rr) : FT Tryz.prog 55 #[.agg #[vi s.Width, vl sa1 sk1 s.Words]] [S sa1 sk1 s.Words, pv (gp 1) (tabV .u8 tzT)] (fun g : Value => True) (fun g => g) (fun g => [sl g rr]) := by
 refine FTi Tryz.func55 fun w0 M0 F0 => ?_
 unfold i64ok at hs_0
 refine Fb 8 0 fun _ => ?_
 have hx0 := lrn rr; have H := hrr; unfold bt_Members at H
 refine KS ?_
 refine Oa (Ab [vi s.Width, vl sa1 sk1 s.Words]) fun p2 => Oq Va (KS ?_)
 refine Oq (VldA sh47 0) ?_
 refine lbH H hx0 fun rv3 hg4 H => ?_
 have hc5 := fn54 s sa1 sk1 pre rv3 hg4
 refine Oc [1] ca54 hc5 ?_
 rintro - -
 refine Oq Vnot (KS ?_)
 refine pF H hx0 fun h6 H => ?_
 refine KcF h6 ?_
 have h8 := not_false h6
 refine KS ?_
 refine Oq Va (KS ?_)
 refine Oq (Vfa fo47_1 0) (Oq (VldF sh45 0) (Oq (Vlen sl45) (Oq Vm (KS ?_))))
 refine Jl [] (Ent.osNil (α := Int)) ?_
 refine llH H hx0 fun X20 hX21 hx22 HL23 => ?_
 refine Kl (γ := Nat × List Int × Int × Option Addr × Nat) (fun (r10, out_11, v12_12, a13, k14) => ⟨[(3, vl a13 k14 out_11), (10, vl sa1 sk1 s.Words), (11, vi (s.Words.length : Int)), (12, vi v12_12)], [O a13 k14 out_11, S sa1 sk1 s.Words, pv (gp 1) (tabV .u8 tzT)], bt_Members_L0 s r10 out_11 v12_12 = X20 ∧ r10 = ((s.Words.length : Int) - v12_12).toNat ∧ (0 : Int) ≤ v12_12 ∧ v12_12 ≤ (s.Words.length : Int) ∧ (-9223372036854775808 ≤ v12_12 ∧ v12_12 ≤ 9223372036854775807), r10⟩) (((s.Words.length : Int) - 0).toNat, [], 0, none, 0) [0, 1, 2] ⟨hX21, rfl, aM1, aM1, aM1⟩ ?_
 rintro ⟨r10, out_11, v12_12, a13, k14⟩ ⟨hM15, hr16, hi17, hi18, hk19⟩
 refine JJ_nx fun _ _ hL hA => ?_; dsimp only at hL hA; subst hL hA
 refine Fb 8 0 fun _ => Fo 0 fun ho25 => Fb 8 1 fun _ => KS ?_
 refine Oq Vlss (KS ?_)
 refine Kc ?_ ?_
 ·intro h27
  have g28 := dt h27
  obtain ⟨r29, rfl⟩ := scc (n := r10) aM1
  have H := hM15; (try dsimp only at H); rw [bt_Members_L0] at H
  refine KS ?_
  refine Oq Vm ?_
  refine pC H hx22 fun hc30 H => ?_
  refine Oq (Vi sl45 1) (Oq (VldU sh78 1) (Oq Va (Oq Va (KS ?_))))
  refine llH H hx22 fun X37 hX38 hx39 HL40 => ?_
  refine Kl (γ := Nat × List Int × BitVec 64 × Option Addr × Nat) (fun (r31, out_32, w_33, a34, k35) => ⟨[(3, vl a34 k35 out_32), (10, vl sa1 sk1 s.Words), (11, vi (s.Words.length : Int)), (12, vi v12_12), (4, vi v12_12), (5, u64 w_33)], [O a34 k35 out_32, S sa1 sk1 s.Words, pv (gp 1) (tabV .u8 tzT)], bt_Members_L1 v12_12 r31 out_32 w_33 = X37, r31⟩) (100000, out_11, (s.Words.getD v12_12.toNat 0#64), a13, k14) [0, 0, 1] hX38 ?_
  rintro ⟨r31, out_32, w_33, a34, k35⟩ hM36
  refine JJ_nx fun _ _ hL hA => ?_; dsimp only at hL hA; subst hL hA
  refine Fb 8 0 fun _ => Fo 0 fun ho42 => Fb 8 1 fun _ => ?_
  rcases r31 with _ | r31
  ·exact absurd (hM36.symm.trans rfl) hx39
  have H := hM36; (try dsimp only at H); rw [bt_Members_L1] at H
  refine KS ?_
  refine Oq Vm (Oq (VneqU (b := 0#64)) (KS ?_))
  refine KcH H ?_ ?_
  ·intro h44 H
   have g45 := ne_of_bne h44
   refine KS ?_
   refine Oq Vm (Oq Vm ?_)
   refine pC H hx39 fun hc46 H => ?_
   refine Oq Vmul (Oq Vm ?_)
   refine lbH H hx39 fun rv47 hg48 H => ?_
   have hc49 := fn89 w_33 rv47 hg48
   refine Oc [2] ca89 hc49 ?_
   rintro - he50
   unfold i64ok at he50
   refine pC H hx39 fun hc51 H => ?_
   refine Oq Vadd (Oa (AsV sl22 sz22 [vi ((v12_12 * 64) + rv47)] [vi ((v12_12 * 64) + rv47)]) fun c52 => ?_)
   refine Jo 0 ?_; rintro a53 k54 rfl
   refine Jl [0] (Ent.crInt _ [((v12_12 * 64) + rv47)] _ _ rfl rfl (by intro x hx; rw [List.mem_singleton] at hx; subst hx; unfold i64ok; omega) aB1) ?_
   refine pC H hx39 fun hc55 H => ?_
   refine Oa (ApO [1, 0] sl22 sl22 sz22) fun c56 => ?_
   refine Jo 0 ?_; rintro a57 k58 rfl
   refine Fb 8 0 fun _ => Fo 0 fun ho60 => ?_
   have hn61 := la out_32 ([((v12_12 * 64) + rv47)] : List Int)
   refine Oq Va (KS ?_)
   refine Oq Vm (Oq Vm (Oq (VsubU (b := 1#64)) (Oq VandU (Oq Va (KS ?_)))))
   exact Kg (r31, (out_32 ++ [((v12_12 * 64) + rv47)]), (w_33 &&& (w_33 - 1#64)), a57, k58) [0, 0, 1] H
  intro h44 H
  have g62 := eq_of_bne_false h44
  refine Ke ?_
  have H := llB H HL40
  refine KS ?_
  refine Oq Vadd (Oq Vm (KS ?_))
  refine pC H hx22 fun hc63 H => ?_
  exact Kg (r29, out_32, (v12_12 + 1), a34, k35) [0, 0, 1] ⟨H, aM1, aM1, aM1, aM1⟩
 intro h27
 have g64 := df h27
 obtain rfl : r10 = 0 := by omega
 have H := hM15; (try dsimp only at H); rw [bt_Members_L0] at H
 refine Ke ?_
 have H := llB H HL23
 refine KS ?_
 refine Oq Vm ?_
 refine Jl [0] (Ent.freeze _ _) ?_
 refine lbH H hx0 fun rv66 hg67 H => ?_
 have hc68 := fn90 out_11 a13 k14 rv66 hg67
 refine Oc [0] ca90 hc68 ?_
 rintro c65 -
 refine Jo 0 ?_; rintro a69 k70 rfl
 refine Fb 8 0 fun _ => Fo 0 fun ho72 => ?_
 refine Oq Va (KS ?_)
 have hq := rI H; subst hq
 exact Kr (vl a69 k70 rv66) rfl (.tmp rfl .nil) [0] trivial
theorem fn127 (i : Int) (hi_0 : i64ok i) (rr : Str) (hrr : ic_small i = .ret rr) : FT Tryz.prog 127 #[vi i] [] (fun g : Unit => rr.b.length ≤ 140737488355328) (fun g => .string (bs rr)) (fun g => []) := by
 refine FTi Tryz.func127 fun w0 M0 F0 => ?_
 unfold i64ok at hi_0
 have hx0 := lrn rr; have H := hrr; unfold ic_small at H
 refine KS ?_
 refine Oq Va (KS ?_)
 refine Oq Vm (Oq Vlss (KS ?_))
 refine pT H hx0 fun h1 H => ?_
 refine KcT h1 ?_
 have g2 := dt h1
 refine KS ?_
 refine Oq Vm (Oq Vm ?_)
 refine pC H hx0 fun hc3 H => ?_
 refine Oq Vadd ?_
 refine pC H hx0 fun hc4 H => ?_
 have hb5 : tab0.b.length = 36 := rfl
 refine Oq (VslS un9 (l := tab0)) ?_
 have hb6 := sub_len3 tab0 i.toNat ((i + 1) : Int).toNat
 refine Oq Va (KS ?_)
 have hq := rI H; subst hq
 exact Kr () rfl (.tmp rfl .nil) [] en
theorem fn121 (i : Int) (base : Int) (hi_0 : i64ok i) (hbase_0 : i64ok base) (rr : Str) (hrr : ic_FormatInt i base = .ret rr) : FT Tryz.prog 121 #[vi i, vi base] [] (fun g : Unit => rr.b.length ≤ 140737488355328) (fun g => .string (bs rr)) (fun g => []) := by
 refine FTi Tryz.func121 fun w0 M0 F0 => ?_
 unfold i64ok at hi_0 hbase_0
 have hx0 := lrn rr; have H := hrr; unfold ic_FormatInt at H
 refine KS ?_
 refine Oq Va (KS ?_)
 refine Oq Vm (Oq Veql (KS ?_))
 refine pT H hx0 fun h1 H => ?_
 refine KcT h1 ?_
 have g2 := eq_of_beq h1
 refine KS ?_
 refine Oq Vm (Oq Vleq (Oq Vm ?_))
 refine pT H hx0 fun h3 H => ?_
 refine JsT 14 h3 ?_
 have g4 := dt h3
 refine Oq Vm (Oq Vlss (Oq Vpt (KS ?_)))
 refine pT H hx0 fun h5 H => ?_
 refine KcT h5 ?_
 have g6 := dt h5
 refine KS ?_
 refine Oq Vm ?_
 refine lbH H hx0 fun rv7 hg8 H => ?_
 have hc9 := fn127 i pre rv7 hg8
 refine Oc [] ca127 hc9 ?_
 rintro - he10
 refine Oq Va (KS ?_)
 have hq := rI H; subst hq
 exact Kr () rfl (.tmp rfl .nil) [] en
theorem fn111 (i : Int) (hi_0 : i64ok i) (rr : Str) (hrr : ic_Itoa i = .ret rr) : FT Tryz.prog 111 #[vi i] [] (fun g : Unit => rr.b.length ≤ 140737488355328) (fun g => .string (bs rr)) (fun g => []) := by
 refine FTi Tryz.func111 fun w0 M0 F0 => ?_
 unfold i64ok at hi_0
 have hx0 := lrn rr; have H := hrr; unfold ic_Itoa at H
 refine KS ?_
 refine Oq Va (KS ?_)
 refine Oq Vm ?_
 refine lbH H hx0 fun rv1 hg2 H => ?_
 have hc3 := fn121 i 10 pre pre rv1 hg2
 refine Oc [] ca121 hc3 ?_
 rintro - he4
 refine Oq Va (KS ?_)
 have hq := rI H; subst hq
 exact Kr () rfl (.tmp rfl .nil) [] en
theorem fn91 (i : Int) (hi_0 : i64ok i) (rr : Str) (hrr : st_Itoa i = .ret rr) : FT Tryz.prog 91 #[vi i] [] (fun g : Unit => rr.b.length ≤ 140737488355328) (fun g => .string (bs rr)) (fun g => []) := by
 refine FTi Tryz.func91 fun w0 M0 F0 => ?_
 unfold i64ok at hi_0
 have hx0 := lrn rr; have H := hrr; unfold st_Itoa at H
 refine KS ?_
 refine Oq Va (KS ?_)
 refine Oq Vm ?_
 refine lbH H hx0 fun rv1 hg2 H => ?_
 have hc3 := fn111 i pre rv1 hg2
 refine Oc [] ca111 hc3 ?_
 rintro - he4
 refine Oq Va (KS ?_)
 have hq := rI H; subst hq
 exact Kr () rfl (.tmp rfl .nil) [] en
theorem fn56 (p : GProgram) (pa0 : Option Addr) (pk0 : Nat) (n : GNode) (kwLA : Option Addr) (kwLK : Nat) (hn_0 : i64ok n.Kind) (hn_1 : i64ok n.Func) (hn_2 : i64ok n.Block) (hn_3 : i64ok n.Stmt) (rr : Str) (hrr : nd_Label p n = .ret rr) : FT Tryz.prog 56 #[.agg #[vl pa0 pk0 p.Funcs], .agg #[vi n.Kind, vi n.Func, vi n.Block, vi n.Stmt]] [S pa0 pk0 p.Funcs, pv (gp 0) [vl kwLA kwLK kwL], S kwLA kwLK kwL] (fun g : Unit => rr.b.length ≤ 140737488355328) (fun g => .string (bs rr)) (fun g => []) := by
 refine FTi Tryz.func56 fun w0 M0 F0 => ?_
 unfold i64ok at hn_0 hn_1 hn_2 hn_3
 refine Fb 40 0 fun _ => Fb 16 2 fun _ => ?_
 refine FoS 2 fun ho3 => ?_
 have hx0 := lrn rr; have H := hrr; unfold nd_Label at H
 refine KS ?_
 refine Oa (Ab [vl pa0 pk0 p.Funcs]) fun p4 => Oa (Ab [vi n.Kind, vi n.Func, vi n.Block, vi n.Stmt]) fun p5 => Oq Va (KS ?_)
 refine Oq (VldA sh25 1) (Oq (VldA sh63 0) ?_)
 refine pC H hx0 fun hc6 H => ?_
 refine lvH H fun rv7 hg8 H => ?_
 have hc9 := fn77 p pa0 pk0 n kwLA kwLK pre pre pre pre hc6 rv7 hg8
 refine Oc [2, 3, 4] ca77 hc9 ?_
 rintro - ⟨he10, he11⟩
 unfold i64ok at he10
 refine Oq Vlss (KS ?_)
 refine pF H hx0 fun h12 H => ?_
 refine KcF h12 ?_
 have g13 := df h12
 refine KS ?_
 refine Oq (Vfa fo25_0 1) (Oq (VldF sh23 1) (Oq (Vfa fo63_1 0) (Oq (VldF sh3 0) ?_)))
 refine pC H hx0 fun hc14 H => ?_
 refine Oq (Vi sl23 2) ?_
 refine JJ_peek_GFunc n.Func.toNat 2 rfl rng fun a15 k16 hb17 => ?_
 refine Fb 40 1 fun _ => ?_
 refine Oq (VldA sh31 0) (Oa (Al ze31 [.string (bs (Str.mk [])), .slice none 0 0]) fun p19 => Ost (Scl [0] sh31 [.string (bs ((p.Funcs.getD n.Func.toNat default).Name)), vl a15 k16 ((p.Funcs.getD n.Func.toNat default).Blocks)]) (KS ?_))
 refine Oq (Vfa fo63_0 3) (Oq (VldF sh3 3) (KS ?_))
 refine Oq Veql (Oq Va (KS ?_))
 refine pC H hx0 fun hc21 H => ?_
 refine pF H hx0 fun h20 H => ?_
 refine KcF h20 ?_
 have g22 := ne_of_beq_false h20
 refine KS ?_
 refine Oq Veql (Oq Va (KS ?_))
 refine pF H hx0 fun h23 H => ?_
 refine KcF h23 ?_
 have g24 := ne_of_beq_false h23
 refine KS ?_
 refine Jp 0 fun hp25 => ?_
 refine pC H hx0 fun hc26 H => ?_
 refine pC H hx0 fun hc27 H => ?_
 refine JJ_peek_GBlock n.Block.toNat 3 rfl rng fun a28 k29 hb30 => ?_
 refine Fb 72 1 fun _ => ?_
 refine JK_drawK [0, 1, 3, 0, 8, 0, 32, 120, 248, 504, 1023, 2047, 0, 4096, 12288, 32767, 65535] fmix ?_
 refine Dv [2] (Vfa fo31_0 0) (Dv [3] (VldF sh9 0) ?_)
 have hb32 := sadd_len ((p.Funcs.getD n.Func.toNat default).Name) (Str.mk [46])
 have hb33 : (Str.mk [46]).b.length = 1 := rfl
 refine Dv [] (VadS (l := (p.Funcs.getD n.Func.toNat default).Name) (m := (Str.mk [46]))) (Dv [2] (Vfa fo31_1 0) (Dv [3] (VldF sh29 0) (Dv [6] (Vfa fo63_2 0) (Dv [6] (VldF sh3 0) (Dv [5] (Vi sl29 0) (Dv [0] (Vfa fo34_0 0) (Dv [0] (VldF sh9 0) ?_)))))))
 have hb34 := sadd_len ((p.Funcs.getD n.Func.toNat default).Name ++ (Str.mk [46])) ((((p.Funcs.getD n.Func.toNat default).Blocks).getD n.Block.toNat default).Name)
 refine pC H hx0 fun hc35 H => ?_
 refine pC H hx0 fun hc36 H => ?_
 refine Dv [] (VadS (l := ((p.Funcs.getD n.Func.toNat default).Name ++ (Str.mk [46]))) (m := (((p.Funcs.getD n.Func.toNat default).Blocks).getD n.Block.toNat default).Name)) ?_
 have hb37 := sadd_len (((p.Funcs.getD n.Func.toNat default).Name ++ (Str.mk [46])) ++ (((p.Funcs.getD n.Func.toNat default).Blocks).getD n.Block.toNat default).Name) (Str.mk [46])
 have hb38 : (Str.mk [46]).b.length = 1 := rfl
 refine pC H hx0 fun hc39 H => ?_
 refine Dv [] (VadS (l := (((p.Funcs.getD n.Func.toNat default).Name ++ (Str.mk [46])) ++ (((p.Funcs.getD n.Func.toNat default).Blocks).getD n.Block.toNat default).Name)) (m := (Str.mk [46]))) (Dv [6] (Vfa fo63_3 0) (Dv [6] (VldF sh3 0) ?_))
 refine lbH H hx0 fun rv40 hg41 H => ?_
 refine Dx [] [] [0] (fun G => .string (bs rv40)) [fun G => SP.fact (rv40.b.length ≤ 140737488355328)] (fun G => xC [] ca91 (fn91 n.Stmt pre rv40 hg41)) ?_
 have hb42 := sadd_len ((((p.Funcs.getD n.Func.toNat default).Name ++ (Str.mk [46])) ++ (((p.Funcs.getD n.Func.toNat default).Blocks).getD n.Block.toNat default).Name) ++ (Str.mk [46])) rv40
 refine pC H hx0 fun hc43 H => ?_
 refine Dv [] (VadS (l := ((((p.Funcs.getD n.Func.toNat default).Name ++ (Str.mk [46])) ++ (((p.Funcs.getD n.Func.toNat default).Blocks).getD n.Block.toNat default).Name) ++ (Str.mk [46]))) (m := rv40)) (Dv [] Va ?_)
 refine Dn ⟨by kernel_rfl, fun G => ?_⟩
 refine Jw2 [(3, p5), (6, .string (bs (((((p.Funcs.getD n.Func.toNat default).Name ++ (Str.mk [46])) ++ (((p.Funcs.getD n.Func.toNat default).Blocks).getD n.Block.toNat default).Name) ++ (Str.mk [46])) ++ rv40)))] [0, 1, 2, 3, 4, 5, 6, 7, 8, 9, 10] [SP.fact (rv40.b.length ≤ 140737488355328)] ?_
 refine Jf 11 rfl ?_; rintro he44
 refine Jk [0, 1, 3, 3, 4, 5, 6, 7, 8, 9] ?_
 refine KS ?_
 refine Oq (Vfa fo63_0 5) (Oq (VldF sh3 5) (Oq Veql (KS ?_)))
 refine pF H hx0 fun h45 H => ?_
 refine KcF h45 ?_
 have g46 := ne_of_beq_false h45
 refine KS ?_
 refine Oq Vm (Oq Va (KS ?_))
 have hq := rI H; subst hq
 exact Kr () rfl (.tmp rfl .nil) [] en
def lay156_ren : Go.Shelf.Ren := ⟨(fun n => match n with | 156 => 57 | 165 => 92 | 166 => 93 | 169 => 94 | 240 => 112 | 241 => 113 | 276 => 122 | 277 => 123 | _ => 0), (fun n => match n with | 0 => 0 | 3 => 3 | 4 => 4 | 5 => 5 | 9 => 9 | 20 => 20 | 31 => 35 | 37 => 129 | 70 => 128 | 72 => 131 | 75 => 134 | 76 => 135 | 80 => 61 | 127 => 146 | 164 => 150 | _ => 0), (fun _ => 0)⟩
theorem lay156 : Go.Proofs.Lays.n156 Tryz.prog lay156_ren where
 mixed := by kernel_rfl
 f156 := by kernel_rfl
 f165 := by kernel_rfl
 f166 := by kernel_rfl
 f169 := by kernel_rfl
 f240 := by kernel_rfl
 f241 := by kernel_rfl
 f276 := by kernel_rfl
 f277 := by kernel_rfl
 t0 := by kernel_rfl
 a0 := fun w => rfl
 z0 := fun w => rfl
 v0 := fun w => rfl
 t3 := by kernel_rfl
 a3 := fun w => rfl
 z3 := fun w => rfl
 v3 := fun w => rfl
 t4 := by kernel_rfl
 a4 := fun w => rfl
 z4 := fun w => rfl
 v4 := fun w => rfl
 t9 := by kernel_rfl
 a9 := fun w => rfl
 z9 := fun w => rfl
 v9 := fun w => rfl
 t20 := by kernel_rfl
 a20 := fun w => rfl
 z20 := fun w => rfl
 v20 := fun w => rfl
 t31 := by kernel_rfl
 a31 := fun w => rfl
 z31 := fun w => rfl
 v31 := fun w => rfl
 t37 := by kernel_rfl
 a37 := fun w => rfl
 z37 := fun w => rfl
 v37 := fun w => rfl
 t70 := by kernel_rfl
 a70 := fun w => rfl
 z70 := fun w => rfl
 v70 := fun w => rfl
 t72 := by kernel_rfl
 a72 := fun w => rfl
 z72 := fun w => rfl
 v72 := fun w => rfl
 t75 := by kernel_rfl
 a75 := fun w => rfl
 z75 := fun w => rfl
 v75 := fun w => rfl
 t76 := by kernel_rfl
 a76 := fun w => rfl
 z76 := fun w => rfl
 v76 := fun w => rfl
 t127 := by kernel_rfl
 a127 := fun w => rfl
 z127 := fun w => rfl
 v127 := fun w => rfl
 t164 := by kernel_rfl
 a164 := fun w => rfl
 z164 := fun w => rfl
 v164 := fun w => rfl
theorem lay156x : Go.Proofs.Builder.Extra Tryz.prog lay156_ren where
 sizeBuilder := by kernel_rfl
 liesBuilder := by kernel_rfl
 t5 := by kernel_rfl
 a5 := fun w => rfl
 z5 := fun w => rfl
 v5 := fun w => rfl
 infoByte := by kernel_rfl
 cellsByte := by kernel_rfl
 sizeByte := by kernel_rfl
 neB5 := by decide
theorem fn57 (elems : List Str) (elemsa0 : Option Addr) (elemsk0 : Nat) (sep : Str) (hsep_0 : sep.b.length ≤ 140737488355328) (rr : Str) (hrr : strings_Join elems sep = .ret rr) : FT Tryz.prog 57 #[vl elemsa0 elemsk0 elems, .string (bs sep)] [S elemsa0 elemsk0 elems] (fun g : Unit => rr.b.length ≤ 140737488355328) (fun g => .string (bs rr)) (fun g => []) := by
 have hrr' := hrr
 unfold strings_Join at hrr'
 cases hl : decide ((joinS elems sep).b.length ≤ 140737488355328) with
 | false => rw [hl] at hrr'; cases hrr'
 | true =>
 rw [hl] at hrr'; injection hrr' with hrr'; subst hrr'
 have hj0 := of_decide_eq_true hl
 exact FT_join (fun bk o c xs sep w h1 h2 h3 h4 h5 => Go.Proofs.Any.strings_Join lay156 lay156x bk o c xs sep w h1 h2 h3 h4 h5) (fun a c sep w => Go.Proofs.Any.strings_Join_none lay156 lay156x a c sep w) elemsa0 elemsk0 elems sep hj0
theorem fn26 (p : GProgram) (pa0 : Option Addr) (pk0 : Nat) (kind : Int) (s : GSet) (sa1 : Option Addr) (sk1 : Nat) (kwLA : Option Addr) (kwLK : Nat) (hkind_0 : i64ok kind) (hs_0 : i64ok s.Width) (rr : Str × Int) (hrr : fc_Text p kind s = .ret rr) : FT Tryz.prog 26 #[.agg #[vl pa0 pk0 p.Funcs], vi kind, .agg #[vi s.Width, vl sa1 sk1 s.Words]] [S pa0 pk0 p.Funcs, S sa1 sk1 s.Words, pv (gp 0) [vl kwLA kwLK kwL], S kwLA kwLK kwL, pv (gp 1) (tabV .u8 tzT)] (fun g : Unit => rr.1.b.length ≤ 140737488355328 ∧ i64ok rr.2) (fun g => .tuple #[.string (bs rr.1), vi rr.2]) (fun g => []) := by
 refine FTi Tryz.func26 fun w0 M0 F0 => ?_
 unfold i64ok at hkind_0 hs_0
 refine Fb 40 0 fun _ => Fb 8 1 fun _ => Fb 16 3 fun _ => ?_
 refine FoS 3 fun ho4 => ?_
 have hx0 := lrn rr; have H := hrr; unfold fc_Text at H
 refine KS ?_
 refine Oa (Ab [vl pa0 pk0 p.Funcs]) fun p5 => Oa (Ab [vi s.Width, vl sa1 sk1 s.Words]) fun p6 => Oq Va (Oq Va (KS ?_))
 refine Oq (VldA sh25 1) (Oq Vm ?_)
 refine pC H hx0 fun hc7 H => ?_
 refine lvH H fun rv9 hg10 H => ?_
 have hc11 := fn7 p pa0 pk0 kind kwLA kwLK pre hc7 rv9 hg10
 refine Oc [2, 4, 5] ca7 hc11 ?_
 rintro c8 ⟨he12, he13⟩
 unfold i64ok at he12
 refine Jo 0 ?_; rintro a14 k15 rfl
 refine Fb 16 0 fun _ => ?_
 refine Oq Vm (Oq Vx (Oq Vx (Oq Va (Oq Va (KS ?_)))))
 refine Oq Vm (Oq Vneq (Oq Va (KS ?_)))
 refine pF H hx0 fun h17 H => ?_
 refine KcF h17 ?_
 have g18 := eq_of_bne_false h17
 refine KS ?_
 refine Oq (VldA sh47 1) ?_
 refine lbH H hx0 fun rv19 hg20 H => ?_
 have hc21 := fn54 s sa1 sk1 pre rv19 hg20
 refine Oc [4] ca54 hc21 ?_
 rintro - -
 refine Oq Vnot (Oq Va (KS ?_))
 refine pF H hx0 fun h22 H => ?_
 refine KcF h22 ?_
 have h24 := not_false h22
 refine KS ?_
 refine Oq (Vfa fo47_0 1) (Oq (VldF sh3 1) (Oq Vm (Oq (Vlen sl38) (Oq Vneq (Oq Va (KS ?_))))))
 refine pF H hx0 fun h26 H => ?_
 refine KcF h26 ?_
 have g27 := eq_of_bne_false h26
 refine KS ?_
 refine JK_drawK [0, 1, 0, 7, 15, 31] fmix ?_
 refine Dv [2] (VldA sh25 0) ?_
 refine pC H hx0 fun hc31 H => ?_
 refine lvH H fun rv29 hg30 H => ?_
 refine Dx [3, 5, 6] [] [2, 3, 4, 0, 1] (fun G => (G.g 1 0)) [fun G => SP.fact ((rv29.length ≤ 30000)), fun G => sl (G.g 1 0) rv29] (fun G => xC [0, 1, 2] ca21 (fn21 p pa0 pk0 kwLA kwLK hc7 rv29 hg30)) (Dv [2] (VldA sh25 0) ?_)
 refine pC H hx0 fun hc35 H => ?_
 refine lvH H fun rv33 hg34 H => ?_
 refine Dx [3, 5, 6] [] [2, 3, 4, 0, 1] (fun G => (G.g 3 0)) [fun G => SP.fact ((rv33.length ≤ 20000)), fun G => sl (G.g 3 0) rv33] (fun G => xC [0, 1, 2] ca47 (fn47 p pa0 pk0 kwLA kwLK hc31 rv33 hg34)) (Dg [] (fun G => (G.g 1 0)) (fun G => Va) (Dg [] (fun G => (G.g 3 0)) (fun G => Va) ?_))
 refine Dn ⟨by kernel_rfl, fun G => ?_⟩
 refine Jw2 [(3, p5), (5, p6), (8, vl a14 k15 rv9.1), (10, (G.g 1 0)), (11, (G.g 3 0))] [0, 1, 2, 3, 4, 5, 6, 7] [SP.fact ((rv29.length ≤ 30000)), sl (G.g 1 0) rv29, SP.fact ((rv33.length ≤ 20000)), sl (G.g 3 0) rv33] ?_
 generalize G.g 1 0 = c28, G.g 3 0 = c32
 refine Jf 8 rfl ?_; rintro he36
 refine Jf 10 rfl ?_; rintro he37
 refine Jk [0, 1, 2, 3, 4, 5, 6, 7, 9, 11] ?_
 refine Jo 8 ?_; rintro a38 k39 rfl
 refine Fb 16 8 fun _ => ?_
 refine FoS 8 fun ho41 => ?_
 refine Jo 9 ?_; rintro a42 k43 rfl
 refine Fb 32 9 fun _ => KS ?_
 refine Oq Va (KS ?_)
 refine Oq (VldA sh47 1) ?_
 refine lbH H hx0 fun rv46 hg47 H => ?_
 have hc48 := fn55 s sa1 sk1 pre rv46 hg47
 refine Oc [4, 7] ca55 hc48 ?_
 rintro c45 -
 refine Jo 0 ?_; rintro a49 k50 rfl
 refine Fb 8 0 fun _ => Fo 0 fun ho52 => ?_
 refine Oq (Vlen sl22) (Oq Vm (KS ?_))
 refine Jl [] (Ent.osNil (α := Str)) ?_
 refine llH H hx0 fun X63 hX64 hx65 HL66 => ?_
 refine Kl (γ := Nat × List Str × Int × Option Addr × Nat) (fun (r53, words_54, v43_55, a56, k57) => ⟨[(3, p5), (8, vl a14 k15 rv9.1), (10, vl a38 k39 rv29), (11, vl a42 k43 rv33), (12, vl a56 k57 words_54), (41, vl a49 k50 rv46), (42, vi (rv46.length : Int)), (43, vi v43_55)], [O a56 k57 words_54, S a49 k50 rv46, S a14 k15 rv9.1, pv p5 [vl pa0 pk0 p.Funcs], S pa0 pk0 p.Funcs, pv (gp 0) [vl kwLA kwLK kwL], S kwLA kwLK kwL, pv (gp 1) (tabV .u8 tzT), S a38 k39 rv29, S a42 k43 rv33], fc_Text_L0 p rv9.1 rv29 rv33 rv46 r53 words_54 v43_55 = X63 ∧ r53 = ((rv46.length : Int) - v43_55).toNat ∧ (0 : Int) ≤ v43_55 ∧ v43_55 ≤ (rv46.length : Int) ∧ (-9223372036854775808 ≤ v43_55 ∧ v43_55 ≤ 9223372036854775807), r53⟩) (((rv46.length : Int) - 0).toNat, [], 0, none, 0) [0, 0, 1, 3, 4, 6, 7, 8, 9, 10] ⟨hX64, rfl, aM1, aM1, aM1⟩ ?_
 rintro ⟨r53, words_54, v43_55, a56, k57⟩ ⟨hM58, hr59, hi60, hi61, hk62⟩
 refine JJ_nx fun _ _ hL hA => ?_; dsimp only at hL hA; subst hL hA
 refine Fb 16 0 fun _ => ?_
 refine FoS 0 fun ho68 => ?_
 refine Fb 8 1 fun _ => Fo 1 fun ho70 => Fb 16 2 fun _ => Fb 40 4 fun _ => Fb 16 6 fun _ => ?_
 refine FoS 6 fun ho74 => ?_
 refine Fb 16 8 fun _ => ?_
 refine FoS 8 fun ho76 => ?_
 refine Fb 32 9 fun _ => KS ?_
 refine Oq Vlss (KS ?_)
 refine Kc ?_ ?_
 ·intro h78
  have g79 := dt h78
  obtain ⟨r80, rfl⟩ := scc (n := r53) aM1
  have H := hM58; (try dsimp only at H); rw [fc_Text_L0] at H
  refine KS ?_
  refine pC H hx65 fun hc81 H => ?_
  refine Oq (Vi sl22 1) ?_
  have hb82 := ok1 (i := v43_55.toNat) ho70 rng
  refine Oq (VldI sh3 1) (Oq Va (KS ?_))
  refine Oq Vm (Oq Vm (Oq Vm ?_))
  refine pC H hx65 fun hc83 H => ?_
  refine Oq (Vi sl38 2) ?_
  refine JJ_peek_GFact ((rv46.getD v43_55.toNat 0) : Int).toNat 2 rfl rng fun hb84 hb85 => ?_
  unfold i64ok at hb84 hb85
  refine Oq (Vfa fo49_1 0) (Oq (VldF sh3 0) ?_)
  refine pC H hx65 fun hc86 H => ?_
  refine pC H hx65 fun hc87 H => ?_
  refine Oq (Vi sl35 9) ?_
  have hb88 := okS (i := ((rv9.1.getD ((rv46.getD v43_55.toNat 0) : Int).toNat default).Var : Int).toNat) ho76 rng
  refine Oq (VldS sh9 9) (Oq Va (KS ?_))
  refine Oq Vm (Oq Vm (Oq (Vi sl38 3) (Oq (Vfa fo49_0 0) (Oq (VldF sh3 0) (Oq Vgeq (KS ?_))))))
  refine pC H hx65 fun hc90 H => ?_
  refine pT H hx65 fun h89 H => ?_
  refine KcT h89 ?_
  have g91 := dt h89
  refine pC H hx65 fun hc92 H => ?_
  refine pC H hx65 fun hc93 H => ?_
  refine JJ_peek_GNode ((rv9.1.getD ((rv46.getD v43_55.toNat 0) : Int).toNat default).Node : Int).toNat 10 rfl rng fun hb94 hb95 hb96 hb97 => ?_
  unfold i64ok at hb94 hb95 hb96 hb97
  refine JK_drawK [0, 0, 0, 0, 0, 24, 56, 120, 252, 508, 1022, 2046, 4095, 8191] fmix ?_
  refine Dv [] Vm (Dv [5] (VldA sh25 0) (Dv [] Vm (Dv [] Vm (Dv [] Vm (Dv [4] (Vi sl38 0) (Dv [1] (Vfa fo49_0 0) (Dv [1] (VldF sh3 0) (Dv [11] (Vi sl71 0) (Dv [0] (VldA sh63 0) ?_)))))))))
  refine pC H hx65 fun hc100 H => ?_
  refine lbH H hx65 fun rv98 hg99 H => ?_
  refine Dx [6, 7, 8] [] [1, 2, 3, 0] (fun G => .string (bs rv98)) [fun G => SP.fact (rv98.b.length ≤ 140737488355328)] (fun G => xC [0, 1, 2] ca56 (fn56 p pa0 pk0 ((rv33.getD ((rv9.1.getD ((rv46.getD v43_55.toNat 0) : Int).toNat default).Node : Int).toNat default)) kwLA kwLK pre pre pre pre rv98 hg99)) ?_
  have hb101 := sadd_len (Str.mk [64]) rv98
  have hb102 : (Str.mk [64]).b.length = 1 := rfl
  refine pC H hx65 fun hc103 H => ?_
  refine Dv [] (VadS (l := (Str.mk [64])) (m := rv98)) ?_
  have hb104 := sadd_len (rv29.getD ((rv9.1.getD ((rv46.getD v43_55.toNat 0) : Int).toNat default).Var : Int).toNat default) ((Str.mk [64]) ++ rv98)
  refine pC H hx65 fun hc105 H => ?_
  refine Dv [] (VadS (l := (rv29.getD ((rv9.1.getD ((rv46.getD v43_55.toNat 0) : Int).toNat default).Var : Int).toNat default)) (m := ((Str.mk [64]) ++ rv98))) (Dv [] Va ?_)
  refine Dn ⟨by kernel_rfl, fun G => ?_⟩
  refine Jw2 [(3, p5), (8, vl a14 k15 rv9.1), (10, vl a38 k39 rv29), (11, vl a42 k43 rv33), (12, vl a56 k57 words_54), (41, vl a49 k50 rv46), (42, vi (rv46.length : Int)), (43, vi v43_55), (15, .string (bs ((rv29.getD ((rv9.1.getD ((rv46.getD v43_55.toNat 0) : Int).toNat default).Var : Int).toNat default) ++ ((Str.mk [64]) ++ rv98))))] [0, 1, 2, 3, 4, 5, 6, 7, 8, 9, 10, 11] [SP.fact (rv98.b.length ≤ 140737488355328)] ?_
  refine Jf 12 rfl ?_; rintro he106
  refine Jk [0, 1, 2, 2, 3, 4, 5, 6, 7, 8, 9, 10] ?_
  refine KS ?_
  refine Oq Vm (Oq Vm (Oa (AsV sl35 sz35 [.string (bs ((rv29.getD ((rv9.1.getD ((rv46.getD v43_55.toNat 0) : Int).toNat default).Var : Int).toNat default) ++ ((Str.mk [64]) ++ rv98)))] [.string (bs ((rv29.getD ((rv9.1.getD ((rv46.getD v43_55.toNat 0) : Int).toNat default).Var : Int).toNat default) ++ ((Str.mk [64]) ++ rv98)))]) fun c107 => ?_))
  refine Jo 0 ?_; rintro a108 k109 rfl
  refine Jl [0] (Ent.cr1 (α := Str) (A := []) _ ((rv29.getD ((rv9.1.getD ((rv46.getD v43_55.toNat 0) : Int).toNat default).Var : Int).toNat default) ++ ((Str.mk [64]) ++ rv98)) _ aB1 (fun _ => ⟨rfl, aS1⟩)) ?_
  refine pC H hx65 fun hc110 H => ?_
  refine Oa (ApO [3, 0] sl35 sl35 sz35) fun c111 => ?_
  refine Jo 0 ?_; rintro a112 k113 rfl
  refine Fb 16 0 fun _ => ?_
  refine FoS 0 fun ho115 => ?_
  have hn116 := la words_54 ([((rv29.getD ((rv9.1.getD ((rv46.getD v43_55.toNat 0) : Int).toNat default).Var : Int).toNat default) ++ ((Str.mk [64]) ++ rv98))] : List Str)
  refine Oq Va (KS ?_)
  refine Oq Vadd (Oq Vm (KS ?_))
  refine pC H hx65 fun hc117 H => ?_
  exact Kg (r80, (words_54 ++ [((rv29.getD ((rv9.1.getD ((rv46.getD v43_55.toNat 0) : Int).toNat default).Var : Int).toNat default) ++ ((Str.mk [64]) ++ rv98))]), (v43_55 + 1), a112, k113) [0, 2, 3, 4, 5, 6, 7, 8, 9, 10] ⟨H, aM1, aM1, aM1, aM1⟩
 intro h78
 have g118 := df h78
 obtain rfl : r53 = 0 := by omega
 have H := hM58; (try dsimp only at H); rw [fc_Text_L0] at H
 refine Ke ?_
 have H := llB H HL66
 refine KS ?_
 refine Oq Vm ?_
 refine lbH H hx0 fun rv119 hg120 H => ?_
 refine Oc [0] ca57 (FT_borrow (A := _) (fun _ _ h => by cases h) (FT_ent (Ent.take (is := [0]) rfl) (fn57 words_54 a56 k57 ((Str.mk [32])) pre rv119 hg120))) ?_ (ht := rfl)
 rintro - he121
 refine Oq Va (Oq Va (KS ?_))
 have hq := rI H; subst hq
 exact Kr () rfl (.tmp rfl (.tmp rfl .nil)) [] en
theorem fn35 (width : Int) (hwidth_0 : i64ok width) (rr : GSet) (hrr : r1_Empty width = .ret rr) : FT Tryz.prog 35 #[vi width] [] (fun g : Value => i64ok rr.Width) (fun g => .agg #[vi rr.Width, g]) (fun g => [os g rr.Words]) := by
 refine FTi Tryz.func35 fun w0 M0 F0 => ?_
 unfold i64ok at hwidth_0
 have hx0 := lrn rr; have H := hrr; unfold r1_Empty at H
 refine KS ?_
 refine Oa (Al ze47 [vi 0, .slice none 0 0]) fun p1 => KS ?_
 refine Oq Vm (Oq Vm ?_)
 refine pC H hx0 fun hc2 H => ?_
 refine Oq Vadd ?_
 refine pC H hx0 fun hc3 H => ?_
 refine Oq Vquo ?_
 refine pC H hx0 fun hc4 H => ?_
 refine Oa (Amk (α := BitVec 64) sl45 sz45 0#64 (fun _ _ => rfl)) fun c5 => ?_
 refine Jo 0 ?_; rintro a6 k7 rfl
 refine Fb 8 0 fun _ => ?_
 have hn9 := List.length_replicate (n := (((width + 63) / 64) : Int).toNat) (a := (0#64 : BitVec 64))
 refine Oq (Vbd st47 [vi width, vl a6 k7 (List.replicate (((width + 63) / 64) : Int).toNat 0#64)]) (Ost (Scl [1] sh47 [vi width, vl a6 k7 (List.replicate (((width + 63) / 64) : Int).toNat 0#64)]) (KS ?_))
 have hq := rI H; subst hq
 exact Kr (vl a6 k7 (List.replicate (((width + 63) / 64) : Int).toNat 0#64)) rfl (.cellN 0 rfl sh47 rfl (reads_Cl _ _) rfl .nil) [1] en
theorem fn36 (s : GSet) (sa1 : Option Addr) (sk1 : Nat) (b : Int) (hs_0 : i64ok s.Width) (hb_0 : i64ok b) (rr : GSet) (hrr : r1_Put s b = .ret rr) : FT Tryz.prog 36 #[.agg #[vi s.Width, vl sa1 sk1 s.Words], vi b] [S sa1 sk1 s.Words] (fun g : Value => i64ok rr.Width) (fun g => .agg #[vi rr.Width, g]) (fun g => [os g rr.Words]) := by
 refine FTi Tryz.func36 fun w0 M0 F0 => ?_
 unfold i64ok at hs_0 hb_0
 refine Fb 8 0 fun _ => ?_
 have hx0 := lrn rr; have H := hrr; unfold r1_Put at H
 refine KS ?_
 refine Oa (Ab [vi s.Width, vl sa1 sk1 s.Words]) fun p2 => Oa (Al ze47 [vi 0, .slice none 0 0]) fun p3 => KS ?_
 refine Oq (Vfa fo47_0 1) (Oq (VldF sh3 1) ?_)
 refine lbH H hx0 fun rv5 hg6 H => ?_
 have hc7 := fn35 s.Width pre rv5 hg6
 refine Oc [] ca35 hc7 ?_
 rintro c4 he8
 unfold i64ok at he8
 refine Jo 0 ?_; rintro a9 k10 rfl
 refine Fb 8 0 fun _ => ?_
 refine Oa (Al ze47 [vi 0, .slice none 0 0]) fun p12 => Ost (Scl [0] sh47 [vi rv5.Width, vl a9 k10 rv5.Words]) (KS ?_)
 refine Oq (Vfa fo47_1 0) (Oq (VldF sh45 0) (Oq (Vfa fo47_1 3) (Oq (VldF sh45 3) (Oa (OpA.frame [1, 3] rfl (OpA.copyS (α := BitVec 64) rfl rfl rfl sl45 rfl)) fun u13 => ?_))))
 have hn14 : (s.Words.take rv5.Words.length ++ rv5.Words.drop s.Words.length).length = rv5.Words.length := len_copy _ _
 refine KS ?_
 refine Oq (Vfa fo47_1 1) (Oq (VldF sh45 1) (Oq Vm ?_))
 refine pC H hx0 fun hc15 H => ?_
 refine Oq Vquo ?_
 refine pC H hx0 fun hc16 H => ?_
 refine Oq (Vi sl45 0) (Oq (VldU sh78 0) (Oq Vm (Oq Vrem (Oq (VcU un3 un79) (Oq (VshlU (a := 1#64)) (Oq VorU (Oq (Vi sl45 0) (Ost (SoU [0] sh78) (KS ?_)))))))))
 refine Oq (VldA sh47 1) (Ost (Scl [2] sh47 [vi rv5.Width, vl a9 k10 rv5.Words]) (KS ?_))
 refine pC H hx0 fun hc17 H => ?_
 refine pC H hx0 fun hc18 H => ?_
 have hq := rI H; subst hq
 exact Kr (vl a9 k10 rv5.Words) rfl (.cellN 0 rfl sh47 rfl (reads_Cl _ _) rfl .nil) [1] en
theorem fn27 (width : Int) (hwidth_0 : i64ok width) (rr : GSet) (hrr : r1_Full width = .ret rr) : FT Tryz.prog 27 #[vi width] [] (fun g : Value => i64ok rr.Width) (fun g => .agg #[vi rr.Width, g]) (fun g => [sl g rr.Words]) := by
 refine FTi Tryz.func27 fun w0 M0 F0 => ?_
 unfold i64ok at hwidth_0
 have hx0 := lrn rr; have H := hrr; unfold r1_Full at H
 refine KS ?_
 refine Oa (Al ze47 [vi 0, .slice none 0 0]) fun p1 => KS ?_
 refine Oq Vm ?_
 refine lbH H hx0 fun rv3 hg4 H => ?_
 have hc5 := fn35 width pre rv3 hg4
 refine Oc [] ca35 hc5 ?_
 rintro c2 he6
 unfold i64ok at he6
 refine Jo 0 ?_; rintro a7 k8 rfl
 refine Fb 8 0 fun _ => ?_
 refine Oa (Al ze47 [vi 0, .slice none 0 0]) fun p10 => Ost (Scl [0] sh47 [vi rv3.Width, vl a7 k8 rv3.Words]) (KS ?_)
 refine Oq Va (KS ?_)
 refine llH H hx0 fun X23 hX24 hx25 HL26 => ?_
 refine Kl (γ := Nat × Int × List (BitVec 64) × Int × Option Addr × Nat) (fun (r11, s0_12, s1_13, b_14, a15, k16) => ⟨[(0, vi width), (2, p1), (3, p10), (4, vi b_14)], [O a15 k16 s1_13, Cl p10 [vi s0_12, vl a15 k16 s1_13], Cl p1 [vi 0, .slice none 0 0]], r1_Full_L0 r11 s0_12 s1_13 b_14 = X23 ∧ r11 = ((width : Int) - b_14).toNat ∧ (0 : Int) ≤ b_14 ∧ (b_14 ≤ width ∨ b_14 = 0) ∧ (-9223372036854775808 ≤ s0_12 ∧ s0_12 ≤ 9223372036854775807) ∧ (-9223372036854775808 ≤ b_14 ∧ b_14 ≤ 9223372036854775807), r11⟩) (((width : Int) - 0).toNat, rv3.Width, rv3.Words, 0, a7, k8) [1, 0, 0] ⟨hX24, rfl, aM1, (.inr rfl), aM1, aM1⟩ ?_
 rintro ⟨r11, s0_12, s1_13, b_14, a15, k16⟩ ⟨hM17, hr18, hi19, hi20, hk21, hk22⟩
 refine JJ_nx fun _ _ hL hA => ?_; dsimp only at hL hA; subst hL hA
 refine Fb 8 0 fun _ => KS ?_
 refine Oq Vm (Oq Vm (Oq Vlss (KS ?_)))
 refine Kc ?_ ?_
 ·intro h28
  have g29 := dt h28
  obtain ⟨r30, rfl⟩ := scc (n := r11) aM1
  have H := hM17; (try dsimp only at H); rw [r1_Full_L0] at H
  refine KS ?_
  refine Oq (VldA sh47 1) (Oq Vm ?_)
  refine lbH H hx25 fun rv32 hg33 H => ?_
  refine Oc [0] ca36 (FT_borrow (A := _) hlx (FT_ent (Ent.take (is := [0]) rfl) (fn36 ((GSet.mk s0_12 s1_13)) a15 k16 b_14 pre pre rv32 hg33))) ?_ (ht := rfl)
  rintro c31 he34
  unfold i64ok at he34
  refine Jo 1 ?_; rintro a35 k36 rfl
  refine Fb 8 1 fun _ => ?_
  refine Ost (Scl [2] sh47 [vi rv32.Width, vl a35 k36 rv32.Words]) (KS ?_)
  refine Oq Vm (Oq Vadd (Oq Va (KS ?_)))
  refine pC H hx25 fun hc38 H => ?_
  exact Kg (r30, rv32.Width, rv32.Words, (b_14 + 1), a35, k36) [2, 0, 1] ⟨H, aM1, aM1, aM1, aM1, aM1⟩
 intro h28
 have g39 := df h28
 obtain rfl : r11 = 0 := by omega
 have H := hM17; (try dsimp only at H); rw [r1_Full_L0] at H
 refine Ke ?_
 have H := llB H HL26
 dsimp only at H
 refine KS ?_
 refine Oq (VldA sh47 1) (Ost (Scl [2] sh47 [vi s0_12, vl a15 k16 s1_13]) (KS ?_))
 refine Jl [1] (Ent.freeze _ _) ?_
 have hq := rI H; subst hq
 exact Kr (vl a15 k16 s1_13) rfl (.cellN 1 rfl sh47 rfl (reads_Cl _ _) rfl .nil) [0] en
theorem fn28 (a : List GFact) (aa0 : Option Addr) (ak0 : Nat) (b : List GFact) (ba0 : Option Addr) (bk0 : Nat) (rr : Bool) (hrr : r7_SameFacts a b = .ret rr) : FT Tryz.prog 28 #[vl aa0 ak0 a, vl ba0 bk0 b] [S aa0 ak0 a, S ba0 bk0 b] (fun g : Unit => True) (fun g => vb rr) (fun g => []) := by
 refine FTi Tryz.func28 fun w0 M0 F0 => Fb 16 0 fun _ => Fb 16 1 fun _ => ?_
 have hx0 := lrn rr; have H := hrr; unfold r7_SameFacts at H
 refine KS ?_
 refine Oq Va (KS ?_)
 refine Oq Vm (Oq (Vlen sl38) (Oq Vm (Oq (Vlen sl38) (Oq Vneq (KS ?_)))))
 refine pF H hx0 fun h3 H => ?_
 refine KcF h3 ?_
 have g4 := eq_of_bne_false h3
 refine KS ?_
 refine Oq Va (KS ?_)
 refine llH H hx0 fun X12 hX13 hx14 HL15 => ?_
 refine Kl (γ := Nat × Int) (fun (r5, i_6) => ⟨[(0, vl aa0 ak0 a), (1, vl ba0 bk0 b), (5, vi i_6)], [S aa0 ak0 a, S ba0 bk0 b], r7_SameFacts_L0 a b r5 i_6 = X12 ∧ r5 = ((a.length : Int) - i_6).toNat ∧ (0 : Int) ≤ i_6 ∧ i_6 ≤ (a.length : Int) ∧ (-9223372036854775808 ≤ i_6 ∧ i_6 ≤ 9223372036854775807), r5⟩) (((a.length : Int) - 0).toNat, 0) [0, 1] ⟨hX13, rfl, aM1, aM1, aM1⟩ ?_
 rintro ⟨r5, i_6⟩ ⟨hM7, hr8, hi9, hi10, hk11⟩
 refine JJ_nx fun _ _ hL hA => ?_; dsimp only at hL hA; subst hL hA
 refine Fb 16 0 fun _ => Fb 16 1 fun _ => KS ?_
 refine Oq Vm (Oq Vm (Oq (Vlen sl38) (Oq Vlss (KS ?_))))
 refine Kc ?_ ?_
 ·intro h18
  have g19 := dt h18
  obtain ⟨r20, rfl⟩ := scc (n := r5) aM1
  have H := hM7; (try dsimp only at H); rw [r7_SameFacts_L0] at H
  refine KS ?_
  refine pC H hx14 fun hc21 H => ?_
  refine JJ_peek_GFact i_6.toNat 0 rfl rng fun hb22 hb23 => ?_
  unfold i64ok at hb22 hb23
  refine pC H hx14 fun hc24 H => ?_
  refine pC H hx14 fun hc25 H => ?_
  refine JJ_peek_GFact i_6.toNat 2 rfl rng fun hb26 hb27 => ?_
  unfold i64ok at hb26 hb27
  refine Kq [0, 0, 3, 7, 0, 0, 48, 112, 255] fmix ?_
  refine Qv [] Vm (Qv [] Vm (Qv [2] (Vi sl38 0) (Qv [1] (VldA sh49 0) (Qv [] Vm (Qv [] Vm (Qv [3] (Vi sl38 0) (Qv [0] (VldA sh49 0) (Qv [] (VneA eqi49 (l := [(a.getD i_6.toNat default).Node, (a.getD i_6.toNat default).Var]) (m := [(b.getD i_6.toNat default).Node, (b.getD i_6.toNat default).Var])) ?_))))))))
  refine Qn ⟨by kernel_rfl, ?_⟩
  refine pC H hx14 fun hc29 H => ?_
  refine pF H hx14 fun h28 H => ?_
  refine KcF h28 ?_
  have g30 := eq_of_bne_false h28
  refine KS ?_
  refine Oq Vm (Oq Vadd (Oq Va (KS ?_)))
  refine pC H hx14 fun hc31 H => ?_
  exact Kg (r20, (i_6 + 1)) [2, 3] ⟨H, aM1, aM1, aM1, aM1⟩
 intro h18
 have g32 := df h18
 obtain rfl : r5 = 0 := by omega
 have H := hM7; (try dsimp only at H); rw [r7_SameFacts_L0] at H
 refine Ke ?_
 have H := llB H HL15
 refine KS ?_
 refine Oq Va (KS ?_)
 have hq := rI H; subst hq
 exact Kr () rfl (.tmp rfl .nil) [] trivial
theorem fn9O (kwLA : Option Addr) (kwLK : Nat) (rr : Bool) (hrr : w9_saneO = .ret rr) : FT Tryz.prog 9 #[] [pv (gp 0) [vl kwLA kwLK kwL], S kwLA kwLK kwL, pv (gp 1) (tabV .u8 tzT)] (fun g : Unit => True) (fun g => vb rr) (fun g => []) := by
 refine FTi Tryz.func9 fun w0 M0 F0 => Fb 16 1 fun _ => ?_
 refine FoS 1 fun ho2 => ?_
 have hx0 := lrn rr; have H := hrr; unfold w9_saneO at H
 refine KS ?_
 refine Oq Va (KS ?_)
 refine lbH H hx0 fun rv4 hg5 H => ?_
 have hc6 := fn25  rv4 hg5
 refine Oc [] ca25 hc6 ?_
 rintro c3 -
 refine Jo 0 ?_; rintro a7 k8 rfl
 refine Fb 40 0 fun _ => ?_
 refine pC H hx0 fun hc10 H => ?_
 refine lvH H fun rv12 hg13 H => ?_
 have hc14 := fn7 rv4 a7 k8 1 kwLA kwLK pre hc10 rv12 hg13
 refine Oc [0, 1, 2] ca7 hc14 ?_
 rintro c11 ⟨he15, he16⟩
 unfold i64ok at he15
 refine Jo 0 ?_; rintro a17 k18 rfl
 refine Fb 16 0 fun _ => ?_
 refine Oq Vm (Oq Vx (Oq Vx (Oq Va (Oq Va (KS ?_)))))
 have hc21 := fn25  rv4 hg5
 refine Oc [] ca25 hc21 ?_
 rintro c20 -
 refine Jo 0 ?_; rintro a22 k23 rfl
 refine pC H hx0 fun hc27 H => ?_
 refine lvH H fun rv25 hg26 H => ?_
 have hc28 := fn7 rv4 a22 k23 2 kwLA kwLK pre hc10 rv25 hg26
 refine Oc [0, 3, 4] ca7 hc28 ?_
 rintro c24 ⟨he29, he30⟩
 unfold i64ok at he29
 refine Jo 0 ?_; rintro a31 k32 rfl
 refine Fb 16 0 fun _ => ?_
 refine Oq Vm (Oq Vx (Oq Vx (Oq Va (Oq Va (KS ?_)))))
 have hc35 := fn25  rv4 hg5
 refine Oc [] ca25 hc35 ?_
 rintro c34 -
 refine Jo 0 ?_; rintro a36 k37 rfl
 refine pC H hx0 fun hc41 H => ?_
 refine lvH H fun rv39 hg40 H => ?_
 have hc42 := fn7 rv4 a36 k37 5 kwLA kwLK pre hc27 rv39 hg40
 refine Oc [0, 5, 6] ca7 hc42 ?_
 rintro c38 ⟨he43, he44⟩
 unfold i64ok at he43
 refine Jo 0 ?_; rintro a45 k46 rfl
 refine Fb 16 0 fun _ => ?_
 refine Oq Vm (Oq Vx (Oq Vx (Oq Va (Oq Va (KS ?_)))))
 have hc49 := fn25  rv4 hg5
 refine Oc [] ca25 hc49 ?_
 rintro c48 -
 refine Jo 0 ?_; rintro a50 k51 rfl
 refine lbH H hx0 fun rv53 hg54 H => ?_
 have hc55 := fn27 2 pre rv53 hg54
 refine Oc [] ca27 hc55 ?_
 rintro c52 he56
 unfold i64ok at he56
 refine Jo 0 ?_; rintro a57 k58 rfl
 refine Fb 8 0 fun _ => ?_
 refine lbH H hx0 fun rv60 hg61 H => ?_
 have hc62 := fn26 rv4 a50 k51 1 rv53 a57 k58 kwLA kwLK pre pre rv60 hg61
 refine Oc [1, 0, 8, 9, 10] ca26 hc62 ?_
 rintro - ⟨he63, he64⟩
 unfold i64ok at he64
 refine Oq Vm (Oq Vx (Oq Vx (Oq Va (Oq Va (KS ?_)))))
 refine Oq Vm (Oq Veql (Oq Vm ?_))
 refine pT H hx0 fun h65 H => ?_
 refine JsT 32 h65 ?_
 have g66 := eq_of_beq h65
 refine Oq Vm (Oq Veql (Oq Vpt (Oq Vm ?_)))
 refine pT H hx0 fun h67 H => ?_
 refine JsT 36 h67 ?_
 have g68 := eq_of_beq h67
 refine Oq Vm (Oq Veql (Oq Vpt (Oq Vm ?_)))
 refine pT H hx0 fun h69 H => ?_
 refine JsT 40 h69 ?_
 have g70 := eq_of_beq h69
 refine Oq Vm (Oq Veql (Oq Vpt (Oq Vm ?_)))
 refine pT H hx0 fun h71 H => ?_
 refine JsT 44 h71 ?_
 have g72 := eq_of_beq h71
 refine Oq Vm (Oq (Vbd st49 [vi 1, vi 0]) (Oq (Vbd st49 [vi 2, vi 0]) (Oa (AsV sl38 sz38 [.agg #[vi 1, vi 0], .agg #[vi 2, vi 0]] [vi 1, vi 0, vi 2, vi 0]) fun c73 => ?_)))
 refine Jo 0 ?_; rintro a74 k75 rfl
 refine Jl [0] (Ent.crOs (α := GFact) (A := []) _ ([(GFact.mk 1 0), (GFact.mk 2 0)] : List GFact) _ aB1 (fun h => ⟨[vi 1, vi 0], [vi 2, vi 0], rfl, (fun h => ⟨rfl, aL1, aL1⟩) h, ⟨[vi 2, vi 0], [], rfl, (fun h => ⟨rfl, aL1, aL1⟩) h, rfl⟩⟩)) ?_
 refine Jl [0] (Ent.freeze _ _) ?_
 refine lbH H hx0 fun rv76 hg77 H => ?_
 have hc78 := fn28 rv12.1 a17 k18 ([(GFact.mk 1 0), (GFact.mk 2 0)]) a74 k75 rv76 hg77
 refine Oc [7, 0] ca28 hc78 ?_
 rintro - -
 refine Oq Vpt (Oq Vm ?_)
 refine pT H hx0 fun h79 H => ?_
 refine JsT 51 h79 ?_
 refine Oq Vm (Oq (Vlen sl38) (Oq Veql (Oq Vpt (Oq Vm ?_))))
 refine pT H hx0 fun h81 H => ?_
 refine JsT 56 h81 ?_
 have g82 := eq_of_beq h81
 refine Oq Vm (Oq (VeqS (l := rv60.1) (m := (Str.mk [120, 64, 109, 46, 98, 46, 48, 32, 120, 64, 109, 46, 98, 46, 49]))) (Oq Vpt (Oq Va (KS ?_))))
 have hq := rI H; subst hq
 exact Kr () rfl (.tmp rfl .nil) [] trivial
theorem w9_sane_c : w9_saneO = .ret true := by kernel_rfl
theorem fn9 (kwLA : Option Addr) (kwLK : Nat) (rr : Bool) (hrr : w9_sane = rr) : FT Tryz.prog 9 #[] [pv (gp 0) [vl kwLA kwLK kwL], S kwLA kwLK kwL, pv (gp 1) (tabV .u8 tzT)] (fun g : Unit => True) (fun g => vb rr) (fun g => []) := by
 subst hrr; exact fn9O kwLA kwLK true w9_sane_c
theorem fn3 (t : List Int) (ta0 : Option Addr) (tk0 : Nat) (kwLA : Option Addr) (kwLK : Nat) (rr : Bool) (hrr : w9_FactsCount t = rr) : FT Tryz.prog 3 #[vl ta0 tk0 t] [S ta0 tk0 t, pv (gp 0) [vl kwLA kwLK kwL], S kwLA kwLK kwL, pv (gp 1) (tabV .u8 tzT)] (fun g : Unit => True) (fun g => vb rr) (fun g => []) := by
 refine FTi Tryz.func3 fun w0 M0 F0 => Fb 8 0 fun _ => Fo 0 fun ho2 => Fb 16 2 fun _ => ?_
 refine FoS 2 fun ho4 => ?_
 refine KS ?_
 refine Oq Va (KS ?_)
 refine Oq Vm ?_
 refine letv (g_New t) fun rv6 hg7 => ?_
 have hc8 := fn5 t ta0 tk0 rv6 hg7
 refine Oc [0] ca5 hc8 ?_
 rintro c5 -
 refine letv (tp_Program t 0) fun rv10 hg11 => ?_
 have hdr := Program_Dr hg11
 have hd3 := hdr.1
 have hc12 := fn6 c5 ta0 tk0 t 0 pre rv10 hg11
 refine Oc [0, 0] ca6 hc12 ?_
 rintro c9 he13
 refine Jo 0 ?_; rintro a14 k15 rfl
 refine Fb 40 0 fun _ => ?_
 refine Oa (Al ze25 [.slice none 0 0]) fun p17 => Ost (Scl [0] sh25 [vl a14 k15 rv10.1.Funcs]) (KS ?_)
 refine Oq Va (KS ?_)
 refine Oq Va (KS ?_)
 refine Kl (γ := Nat × Int × Int) (fun (r18, n_19, f_20) => ⟨[(3, p17), (4, vi n_19), (5, vi f_20)], [Cl p17 [vl a14 k15 rv10.1.Funcs], S a14 k15 rv10.1.Funcs, pv (gp 0) [vl kwLA kwLK kwL], S kwLA kwLK kwL, pv (gp 1) (tabV .u8 tzT)], w9_FactsCount_L0 rv10.1.Funcs r18 n_19 f_20 = w9_FactsCount_L0 rv10.1.Funcs (((rv10.1.Funcs.length : Int) - 0).toNat) 0 0 ∧ r18 = ((rv10.1.Funcs.length : Int) - f_20).toNat ∧ (0 : Int) ≤ f_20 ∧ f_20 ≤ (rv10.1.Funcs.length : Int) ∧ (-9223372036854775808 ≤ n_19 ∧ n_19 ≤ 9223372036854775807) ∧ (-9223372036854775808 ≤ f_20 ∧ f_20 ≤ 9223372036854775807) ∧ (0 ≤ n_19 ∧ n_19 ≤ 12 * f_20), r18⟩) (((rv10.1.Funcs.length : Int) - 0).toNat, 0, 0) [0, 0, 3, 4, 5] ⟨rfl, rfl, aM1, aM1, aM1, aM1, iv0⟩ ?_
 rintro ⟨r18, n_19, f_20⟩ ⟨hM21, hr22, hi23, hi24, hk25, hk26, hv27⟩
 refine JJ_nx fun _ _ hL hA => ?_; dsimp only at hL hA; subst hL hA
 refine Fb 40 1 fun _ => Fb 16 3 fun _ => ?_
 refine FoS 3 fun ho30 => ?_
 refine KS ?_
 refine Oq Vm (Oq (Vfa fo25_0 0) (Oq (VldF sh23 0) (Oq (Vlen sl23) (Oq Vlss (KS ?_)))))
 refine Kc ?_ ?_
 ·intro h31
  have g32 := dt h31
  have hFF := DrP_F hdr (k := f_20) aM1
  have hF3 := hFF.2.1
  obtain ⟨r33, rfl⟩ := scc (n := r18) aM1
  refine KS ?_
  refine Oq Va (KS ?_)
  refine Kl (γ := Nat × Int × Int) (fun (r34, n_35, b_36) => ⟨[(3, p17), (4, vi n_35), (5, vi f_20), (6, vi b_36)], [Cl p17 [vl a14 k15 rv10.1.Funcs], S a14 k15 rv10.1.Funcs, pv (gp 0) [vl kwLA kwLK kwL], S kwLA kwLK kwL, pv (gp 1) (tabV .u8 tzT)], w9_FactsCount_L1 rv10.1.Funcs f_20 r34 n_35 b_36 = w9_FactsCount_L1 rv10.1.Funcs f_20 ((((((rv10.1.Funcs.getD f_20.toNat default).Blocks).length : Int) : Int) - 0).toNat) n_19 0 ∧ r34 = (((((rv10.1.Funcs.getD f_20.toNat default).Blocks).length : Int) : Int) - b_36).toNat ∧ (0 : Int) ≤ b_36 ∧ (b_36 ≤ (((rv10.1.Funcs.getD f_20.toNat default).Blocks).length : Int) ∨ b_36 = 0) ∧ (-9223372036854775808 ≤ n_35 ∧ n_35 ≤ 9223372036854775807) ∧ (-9223372036854775808 ≤ b_36 ∧ b_36 ≤ 9223372036854775807) ∧ (0 ≤ n_35 ∧ n_35 ≤ n_19 + 4 * b_36), r34⟩) ((((((rv10.1.Funcs.getD f_20.toNat default).Blocks).length : Int) : Int) - 0).toNat, n_19, 0) [0, 0, 1, 2, 3] ⟨rfl, rfl, aM1, (.inr rfl), aM1, aM1, iv0⟩ ?_
  rintro ⟨r34, n_35, b_36⟩ ⟨hM37, hr38, hi39, hi40, hk41, hk42, hv43⟩
  refine JJ_nx fun _ _ hL hA => ?_; dsimp only at hL hA; subst hL hA
  refine Fb 40 1 fun _ => Fb 16 3 fun _ => ?_
  refine FoS 3 fun ho46 => ?_
  refine KS ?_
  refine Oq Vm (Oq (Vfa fo25_0 0) (Oq (VldF sh23 0) (Oq Vm (Oq (Vi sl23 1) ?_))))
  refine JJ_peek_GFunc f_20.toNat 1 rfl rng fun a47 k48 hb49 => ?_
  refine Fb 40 1 fun _ => ?_
  refine Oq (Vfa fo31_1 0) (Oq (VldF sh29 0) (Oq (Vlen sl29) (Oq Vlss (KS ?_))))
  refine Kc ?_ ?_
  ·intro h51
   have g52 := dt h51
   have hB4 := (DrB_s (DrF_B hFF (k := b_36) aM1)).1
   obtain ⟨r53, rfl⟩ := scc (n := r34) aM1
   refine KS ?_
   refine Oq Va (KS ?_)
   refine Kl (γ := Nat × Int × Int) (fun (r54, n_55, i_56) => ⟨[(3, p17), (4, vi n_55), (5, vi f_20), (6, vi b_36), (7, vi i_56)], [Cl p17 [vl a14 k15 rv10.1.Funcs], S a14 k15 rv10.1.Funcs, pv (gp 0) [vl kwLA kwLK kwL], S kwLA kwLK kwL, pv (gp 1) (tabV .u8 tzT)], w9_FactsCount_L2 rv10.1.Funcs f_20 b_36 r54 n_55 i_56 = w9_FactsCount_L2 rv10.1.Funcs f_20 b_36 ((((((((rv10.1.Funcs.getD f_20.toNat default).Blocks).getD b_36.toNat default).Stmts).length : Int) : Int) - 0).toNat) n_35 0 ∧ r54 = (((((((rv10.1.Funcs.getD f_20.toNat default).Blocks).getD b_36.toNat default).Stmts).length : Int) : Int) - i_56).toNat ∧ (0 : Int) ≤ i_56 ∧ (i_56 ≤ (((((rv10.1.Funcs.getD f_20.toNat default).Blocks).getD b_36.toNat default).Stmts).length : Int) ∨ i_56 = 0) ∧ (-9223372036854775808 ≤ n_55 ∧ n_55 ≤ 9223372036854775807) ∧ (-9223372036854775808 ≤ i_56 ∧ i_56 ≤ 9223372036854775807) ∧ (0 ≤ n_55 ∧ n_55 ≤ n_35 + i_56), r54⟩) ((((((((rv10.1.Funcs.getD f_20.toNat default).Blocks).getD b_36.toNat default).Stmts).length : Int) : Int) - 0).toNat, n_35, 0) [2, 2, 3, 4, 5] ⟨rfl, rfl, aM1, (.inr rfl), aM1, aM1, iv0⟩ ?_
   rintro ⟨r54, n_55, i_56⟩ ⟨hM57, hr58, hi59, hi60, hk61, hk62, hv63⟩
   refine JJ_nx fun _ _ hL hA => ?_; dsimp only at hL hA; subst hL hA
   refine Fb 40 1 fun _ => Fb 16 3 fun _ => ?_
   refine FoS 3 fun ho66 => ?_
   refine KS ?_
   refine Oq Vm (Oq (Vfa fo25_0 0) (Oq (VldF sh23 0) (Oq Vm (Oq (Vi sl23 1) ?_))))
   refine JJ_peek_GFunc f_20.toNat 1 rfl rng fun a67 k68 hb69 => ?_
   refine Fb 40 1 fun _ => ?_
   refine Oq (Vfa fo31_1 0) (Oq (VldF sh29 0) (Oq Vm (Oq (Vi sl29 1) ?_)))
   refine JJ_peek_GBlock b_36.toNat 1 rfl rng fun a71 k72 hb73 => ?_
   refine Fb 72 1 fun _ => ?_
   refine Oq (Vfa fo34_1 0) (Oq (VldF sh32 0) (Oq (Vlen sl32) (Oq Vlss (KS ?_))))
   refine Kc ?_ ?_
   ·intro h75
    have g76 := dt h75
    obtain ⟨r77, rfl⟩ := scc (n := r54) aM1
    refine KS ?_
    refine Oq (Vfa fo25_0 4) (Oq (VldF sh23 4) (Oq Vm (Oq (Vi sl23 5) (Oq (Vfa fo31_1 2) (Oq (VldF sh29 2) (Oq Vm (Oq (Vi sl29 3) (Oq (Vfa fo34_1 0) (Oq (VldF sh32 0) ?_)))))))))
    refine Oq Vm (Oq (Vi sl32 1) ?_)
    refine JJ_peek_GStmt i_56.toNat 1 rfl rng fun a78 k79 a80 k81 hb82 hb83 => ?_
    unfold i64ok at hb82
    refine Fb 16 1 fun _ => ?_
    refine FoS 1 fun ho85 => ?_
    refine Fb 16 2 fun _ => ?_
    refine FoS 2 fun ho87 => ?_
    refine Oq (Vfa fo37_1 0) (Oq (VldF sh9 0) (Oq (VneS (l := (((((rv10.1.Funcs.getD f_20.toNat default).Blocks).getD b_36.toNat default).Stmts).getD i_56.toNat default).Def) (m := (Str.mk []))) (KS ?_)))
    refine Kc ?_ ?_
    ·intro h88
     have g89 := ne_of_bne h88
     refine KS ?_
     refine Oq Vm (Oq Vadd (Oq Va (KS ?_)))
     refine Oq Vm (Oq Vadd (Oq Va (KS ?_)))
     exact Kg (r77, (n_55 + 1), (i_56 + 1)) [7, 7, 8, 9, 10] ⟨(q3 hM57 (by simp only [w9_FactsCount_L2, h75, h88, cs4])), aM1, aM1, aM1, aM1, aM1, iv1⟩
    intro h88
    have g90 := eq_of_bne_false h88
    refine KS ?_
    refine Oq Vm (Oq Vadd (Oq Va (KS ?_)))
    exact Kg (r77, n_55, (i_56 + 1)) [7, 7, 8, 9, 10] ⟨(q3 hM57 (by simp only [w9_FactsCount_L2, h75, h88, cs4])), aM1, aM1, aM1, aM1, aM1, iv1⟩
   intro h75
   have g91 := df h75
   obtain rfl : r54 = 0 := by omega
   refine Ke ?_
   have hR92 := q2 hM57 n_55 (by simp only [w9_FactsCount_L2, h75, cs4])
   refine KS ?_
   refine Oq Vm (Oq Vadd (Oq Va (KS ?_)))
   exact Kg (r53, n_55, (b_36 + 1)) [4, 4, 5, 6, 7] ⟨(q3 hM37 (by simp only [w9_FactsCount_L1, h51, h75, hR92, cs4])), aM1, aM1, aM1, aM1, aM1, iv1⟩
  intro h51
  have g93 := df h51
  obtain rfl : r34 = 0 := by omega
  refine Ke ?_
  have hR94 := q2 hM37 n_35 (by simp only [w9_FactsCount_L1, h51, cs4])
  refine KS ?_
  refine Oq Vm (Oq Vadd (Oq Va (KS ?_)))
  exact Kg (r33, n_35, (f_20 + 1)) [2, 2, 3, 4, 5] ⟨(q3 hM21 (by simp only [w9_FactsCount_L0, h31, h51, hR94, cs4])), aM1, aM1, aM1, aM1, aM1, iv1⟩
 intro h31
 have g95 := df h31
 obtain rfl : r18 = 0 := by omega
 refine Ke ?_
 have hR96 := q2 hM21 n_19 (by simp only [w9_FactsCount_L0, h31, cs4])
 refine KS ?_
 refine Oq (VldA sh25 0) ?_
 refine letv (fc_List rv10.1 1) fun rv98 hg99 => ?_
 have hc100 := fn7 rv10.1 a14 k15 1 kwLA kwLK pre (by first | assumption | exact Program_PSm' (by assumption) | exact SpP_PSm (Program_SpP (by assumption)) | kernel_rfl) rv98 hg99
 refine Oc [1, 2, 3] ca7 hc100 ?_
 rintro c97 ⟨he101, he102⟩
 unfold i64ok at he101
 refine Jo 0 ?_; rintro a103 k104 rfl
 refine Fb 16 0 fun _ => ?_
 refine Oq Vm (Oq Vx (Oq Vx (Oq Va (Oq Va (KS ?_)))))
 refine Oq Vm (Oq Vneq (Oq Vm ?_))
 refine Js 73 ?_ ?_
 ·intro h106
  have g107 := ne_of_bne h106
  refine Osk (Osk (Osk (Osk (Oq Vpt (KS ?_)))))
  refine Kt (KS ?_)
  refine Oq Va (KS ?_)
  have hq := q4 hrr false (by unfold w9_FactsCount; simp only [h31, h106, hg7, hg11, hR96, hg99, cs4]); subst hq
  exact Kr () rfl (.tmp rfl .nil) [] trivial
 intro h106
 have g108 := eq_of_bne_false h106
 refine Oq Vm (Oq (Vlen sl38) (Oq Vm (Oq Vneq (Oq Vpf (KS ?_)))))
 refine Kc ?_ ?_
 ·intro h109
  have g110 := ne_of_bne h109
  refine KS ?_
  refine Oq Va (KS ?_)
  have hq := q4 hrr false (by unfold w9_FactsCount; simp only [h31, h106, h109, hg7, hg11, hR96, hg99, cs4]); subst hq
  exact Kr () rfl (.tmp rfl .nil) [] trivial
 intro h109
 have g111 := eq_of_bne_false h109
 refine KS ?_
 refine Oq Va (KS ?_)
 have hterm116 : w9_FactsCount_L3 rv10.1.Funcs 5 2 ≠ LR.oof := (FC_term _)
 refine Kl (γ := Nat × Int) (fun (r112, kind_113) => ⟨[(3, p17), (10, vi kind_113)], [Cl p17 [vl a14 k15 rv10.1.Funcs], S a14 k15 rv10.1.Funcs, pv (gp 0) [vl kwLA kwLK kwL], S kwLA kwLK kwL, pv (gp 1) (tabV .u8 tzT)], w9_FactsCount_L3 rv10.1.Funcs r112 kind_113 = w9_FactsCount_L3 rv10.1.Funcs 5 2 ∧ (-9223372036854775808 ≤ kind_113 ∧ kind_113 ≤ 9223372036854775807), r112⟩) (5, 2) [1, 1, 2, 3, 4] ⟨rfl, aM1⟩ ?_
 rintro ⟨r112, kind_113⟩ ⟨hM114, hk115⟩
 refine JJ_nx fun _ _ hL hA => ?_; dsimp only at hL hA; subst hL hA
 refine Fb 40 1 fun _ => Fb 16 3 fun _ => ?_
 refine FoS 3 fun ho119 => ?_
 rcases r112 with _ | r112
 ·exact absurd (hM114.symm.trans rfl) hterm116
 refine KS ?_
 refine Oq Vm (Oq Vleq (KS ?_))
 refine Kc ?_ ?_
 ·intro h120
  have g121 := dt h120
  refine KS ?_
  refine Oq (VldA sh25 0) (Oq Vm ?_)
  refine letv (fc_List rv10.1 kind_113) fun rv123 hg124 => ?_
  have hc125 := fn7 rv10.1 a14 k15 kind_113 kwLA kwLK pre (by first | assumption | exact Program_PSm' (by assumption) | exact SpP_PSm (Program_SpP (by assumption)) | kernel_rfl) rv123 hg124
  refine Oc [1, 2, 3] ca7 hc125 ?_
  rintro c122 ⟨he126, he127⟩
  unfold i64ok at he126
  refine Jo 0 ?_; rintro a128 k129 rfl
  refine Fb 16 0 fun _ => ?_
  refine Oq Vm (Oq Vx (Oq Vx (Oq Va (Oq Va (KS ?_)))))
  refine Oq Vm (Oq Vneq (Oq Vm ?_))
  refine Js 91 ?_ ?_
  ·intro h131
   have g132 := ne_of_bne h131
   refine Osk (Osk (Osk (Osk (Osk (Osk (Oq Vpt (KS ?_)))))))
   refine Kt (KS ?_)
   refine Oq Va (KS ?_)
   have hR133 := q2 hM114 (.ret false) (by simp only [w9_FactsCount_L3, h120, h131, hg124, cs4])
   have hq := q4 hrr false (by unfold w9_FactsCount; simp only [h31, h106, h109, h120, h131, hg7, hg11, hR96, hg99, hg124, hR133, cs4]); subst hq
   exact Kr () rfl (.tmp rfl .nil) [] trivial
  intro h131
  have g134 := eq_of_bne_false h131
  refine Oq Vm (Oq (Vlen sl38) (Oq (VldA sh25 1) ?_))
  refine letv (r4_Variables rv10.1) fun rv136 hg137 => ?_
  have hc138 := fn8 rv10.1 a14 k15 rv136 hg137
  refine Oc [2] ca8 hc138 ?_
  rintro c135 -
  refine Jo 0 ?_; rintro a139 k140 rfl
  refine Fb 16 0 fun _ => ?_
  refine FoS 0 fun ho142 => ?_
  refine Oq (Vlen sl35) (Oq Vneq (Oq Vpf (KS ?_)))
  refine Kc ?_ ?_
  ·intro h143
   have g144 := ne_of_bne h143
   refine KS ?_
   refine Oq Va (KS ?_)
   have hR145 := q2 hM114 (.ret false) (by simp only [w9_FactsCount_L3, h120, h131, h143, hg124, hg137, cs4])
   have hq := q4 hrr false (by unfold w9_FactsCount; simp only [h31, h106, h109, h120, h131, h143, hg7, hg11, hR96, hg99, hg124, hg137, hR145, cs4]); subst hq
   exact Kr () rfl (.tmp rfl .nil) [] trivial
  intro h143
  have g146 := eq_of_bne_false h143
  refine KS ?_
  refine Oq Vm (Oq Vadd (Oq Va (KS ?_)))
  exact Kg (r112, (kind_113 + 1)) [2, 2, 3, 4, 5] ⟨(q3 hM114 (by simp only [w9_FactsCount_L3, h120, h131, h143, hg124, hg137, cs4])), aM1⟩
 intro h120
 have g147 := df h120
 refine Ke ?_
 have hR148 := q2 hM114 (.brk ()) (by simp only [w9_FactsCount_L3, h120, cs4])
 refine KS ?_
 have hc149 := fn9 kwLA kwLK w9_sane rfl
 refine Oc [2, 3, 4] ca9 hc149 ?_
 rintro - -
 refine Oq Va (KS ?_)
 have hq := q4 hrr w9_sane (by unfold w9_FactsCount; simp only [h31, h106, h109, h120, hg7, hg11, hR96, hg99, hR148, cs4]); subst hq
 exact Kr () rfl (.tmp rfl .nil) [] trivial
end Go.SL.G
