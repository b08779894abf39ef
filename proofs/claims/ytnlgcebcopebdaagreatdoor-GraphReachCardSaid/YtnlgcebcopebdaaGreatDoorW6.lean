/- Part 6 of the walks: mirrors, plain laws and walks used by the last text of this claim. -/
import Derived.Test.YtnlgcebcopebdaaGreatDoorW5
import Derived.Test.YtnlgcebcopebdaaGreatDoorProg
set_option linter.unusedVariables false
set_option linter.unusedSimpArgs false
namespace Go.SL.G
open Go Go.SL Go.Proofs
set_option maxHeartbeats 20000000
set_option maxRecDepth 100000
theorem Quy (kwLA : Option Addr) (kwLK : Nat) (rr : Bool) (hrr : QeL = rr) : FT Tryz.prog 11 #[] [pv (gp 0) [vl kwLA kwLK kwL], S kwLA kwLK kwL] (fun g : Unit => True) (fun g => vb rr) (fun g => []) := by
 refine FTi Tryz.func11 fun w0 M0 F0 => Fb 16 1 fun _ => ?_
 refine FoS 1 fun ho2 => ?_
 refine KS ?_
 refine Oq Va (KS ?_)
 refine QaK (QbN (Str.mk [102, 117, 110, 99, 32, 109, 59, 32, 98, 108, 111, 99, 107, 32, 98, 59, 32, 98, 114, 97, 110, 99, 104, 32, 120, 32, 98, 32, 98, 59, 32, 101, 110, 100])) fun rv4 hg5 => ?_
 have hc6 := Qu7 ((Str.mk [102, 117, 110, 99, 32, 109, 59, 32, 98, 108, 111, 99, 107, 32, 98, 59, 32, 98, 114, 97, 110, 99, 104, 32, 120, 32, 98, 32, 98, 59, 32, 101, 110, 100])) pre rv4 hg5
 refine Oc [] Qvl hc6 ?_
 rintro c3 ⟨he7, he8, he9⟩
 unfold Qac at he7 he8 he9
 refine Jo 0 ?_; rintro a10 k11 rfl
 refine Fb 40 0 fun _ => ?_
 refine Oq Vm (Oq Vx (Oq Vx (Oq Vx (Oq Vx (Oa (Al QsA [.slice none 0 0]) fun p13 => Ost (Scl [0] Qd3 [vl a10 k11 rv4.1.Funcs]) (Oq Va (Oq Va (Oq Va ?_))))))))
 refine KS ?_
 refine Oq (QcR Qd3 0) ?_
 refine QaK (QhH rv4.1) fun rv17 hg18 => ?_
 have hc19 := Qvk rv4.1 a10 k11 kwLA kwLK (by first | exact Qr0 (by assumption) (by kernel_rfl) | exact Program_PSm' (by assumption) | exact QoY (Program_SpP (by assumption))) rv17 hg18
 refine Oc [1, 2, 3] Qvj hc19 ?_
 rintro ⟨c14, c15, c16⟩ ⟨he20, he21⟩
 unfold Qac at he20
 refine Jo 0 ?_; rintro a22 k23 rfl
 refine Fb 32 0 fun _ => ?_
 refine Jo 1 ?_; rintro a25 k26 rfl
 refine Fb 24 1 fun _ => ?_
 refine Jo 2 ?_; rintro a28 k29 rfl
 refine Fb 24 2 fun _ => ?_
 refine Oq Vm (Oq Vx (Oq Vx (Oa (Al QpA [.slice none 0 0, .slice none 0 0, .slice none 0 0]) fun p31 => Ost (Scl [0] QiO [vl a22 k23 rv17.1.Nodes, vl a25 k26 rv17.1.Succ, vl a28 k29 rv17.1.Pred]) (Oq Va (KS ?_)))))
 refine Oq Vm (Oq QbB (Oq Vm ?_))
 refine Js 20 ?_ ?_
 ·intro h32
  have g33 := eq_of_beq h32
  refine Oq (Vfa Qfw 0) (Oq (QaV Qiq 0) (Oq (Qcn Qg8) (Oq QbB (Oq Vpt (Oq Vm ?_)))))
  refine Js 26 ?_ ?_
  ·intro h34
   have g35 := eq_of_beq h34
   refine Oq (Vfa Qfw 0) (Oq (QaV Qiq 0) (Oq (Vi Qg8 2) ?_))
   refine QfB (0 : Int).toNat 2 rfl rng fun a36 k37 => ?_
   refine Fb 8 1 fun _ => Fo 1 fun ho39 => ?_
   refine Oq (Vld Qjr 0) (Oa (AsV Qbo Qjp [vi 1] [vi 1]) fun c40 => ?_)
   refine Jo 0 ?_; rintro a41 k42 rfl
   refine Jl [0] (Ent.crInt _ [1] _ _ rfl rfl (by intro x hx; rw [List.mem_singleton] at hx; subst hx; unfold Qac; omega) aB1) ?_
   refine QaK (QeR (rv17.1.Succ.getD (0 : Int).toNat []) [1]) fun rv43 hg44 => ?_
   refine Oc [0, 1] Qsf (Qgm (A := _) (fun _ _ h => by cases h) (QhU (Ent.take (is := [1, 0]) rfl) (Qsc ((rv17.1.Succ.getD (0 : Int).toNat [])) a36 k37 ([1]) a41 k42 rv43 hg44))) ?_ (ht := rfl)
   rintro - -
   refine Oq Vpt (Oq Vm ?_)
   refine Js 34 ?_ ?_
   ·intro h45
    refine Oq (Vfa Qfw 3) (Oq (QaV Qiq 3) (Oq (Vi Qg8 5) ?_))
    refine QfB (1 : Int).toNat 5 rfl rng fun a47 k48 => ?_
    refine Fb 8 1 fun _ => Fo 1 fun ho50 => ?_
    refine Oq (Vld Qjr 0) (Oa (AsV Qbo Qjp [vi 1] [vi 1]) fun c51 => ?_)
    refine Jo 0 ?_; rintro a52 k53 rfl
    refine Jl [0] (Ent.crInt _ [1] _ _ rfl rfl (by intro x hx; rw [List.mem_singleton] at hx; subst hx; unfold Qac; omega) aB1) ?_
    refine QaK (QeR (rv17.1.Succ.getD (1 : Int).toNat []) [1]) fun rv54 hg55 => ?_
    refine Oc [0, 1] Qsf (Qgm (A := _) (fun _ _ h => by cases h) (QhU (Ent.take (is := [1, 0]) rfl) (Qsc ((rv17.1.Succ.getD (1 : Int).toNat [])) a47 k48 ([1]) a52 k53 rv54 hg55))) ?_ (ht := rfl)
    rintro - -
    refine Oq Vpt (Oq Vm ?_)
    refine Js 42 ?_ ?_
    ·intro h56
     refine Oq (Vfa Qfw 6) (Oq (QaV Qiq 6) (Oq (Vi Qg8 8) ?_))
     refine QfB (2 : Int).toNat 8 rfl rng fun a58 k59 => ?_
     refine Fb 8 1 fun _ => Fo 1 fun ho61 => ?_
     refine Oq (Vld Qjr 0) (Oq (Qcn Qbo) (Oq QbB (Oq Vpt (Oq Vm ?_))))
     refine Js 50 ?_ ?_
     ·intro h62
      have g63 := eq_of_beq h62
      refine Oq (Vfa Qhj 8) (Oq (QaV Qiq 8) (Oq (Vi Qg8 11) ?_))
      refine QfB (1 : Int).toNat 11 rfl rng fun a64 k65 => ?_
      refine Fb 8 1 fun _ => Fo 1 fun ho67 => ?_
      refine Oq (Vld Qjr 0) (Oa (AsV Qbo Qjp [vi 0, vi 1] [vi 0, vi 1]) fun c68 => ?_)
      refine Jo 0 ?_; rintro a69 k70 rfl
      refine Jl [0] (Ent.crInt _ [0, 1] _ _ rfl rfl (by intro x hx; simp only [List.mem_cons, List.not_mem_nil, or_false] at hx; rcases hx with rfl | rfl <;> (unfold Qac; omega)) aB1) ?_
      refine QaK (QeR (rv17.1.Pred.getD (1 : Int).toNat []) [0, 1]) fun rv71 hg72 => ?_
      refine Oc [0, 1] Qsf (Qgm (A := _) (fun _ _ h => by cases h) (QhU (Ent.take (is := [1, 0]) rfl) (Qsc ((rv17.1.Pred.getD (1 : Int).toNat [])) a64 k65 ([0, 1]) a69 k70 rv71 hg72))) ?_ (ht := rfl)
      rintro - -
      refine Oq Vpt (Oq Vm ?_)
      refine Js 58 ?_ ?_
      ·intro h73
       refine Oq (QcR QiO 11) ?_
       refine QaK (QhL rv17.1) fun rv75 hg76 => ?_
       have hc77 := Qvu rv17.1 a22 k23 a25 k26 a28 k29 rv75 hg76
       refine Oc [12, 13, 14] Qvg hc77 ?_
       rintro - he78
       unfold Qac at he78
       refine Oq QbB (Oq Vpt (Oq Va (KS ?_)))
       have hq := q4 hrr (rv75 == 2) (by simp only [QeL, h32, h34, h45, h56, h62, h73, hg5, hg18, hg44, hg55, hg72, hg76, cs4]); subst hq
       exact Kr () rfl (.tmp rfl .nil) [] trivial
      intro h73
      refine Osk (Osk (Osk (Oq Vpf (Oq Va (KS ?_)))))
      have hq := q4 hrr false (by simp only [QeL, h32, h34, h45, h56, h62, h73, hg5, hg18, hg44, hg55, hg72, cs4]); subst hq
      exact Kr () rfl (.tmp rfl .nil) [] trivial
     intro h62
     have g80 := ne_of_beq_false h62
     refine Osk (Osk (Osk (Osk (Osk (Osk (Oq Vpf (Oq Vm (Osk (Osk ?_)))))))))
     refine Osk (Oq Vpf (Oq Va (KS ?_)))
     have hq := q4 hrr false (by simp only [QeL, h32, h34, h45, h56, h62, hg5, hg18, hg44, hg55, cs4]); subst hq
     exact Kr () rfl (.tmp rfl .nil) [] trivial
    intro h56
    refine Osk (Osk (Osk (Osk (Osk (Osk (Oq Vpf (Oq Vm (Osk (Osk ?_)))))))))
    refine Osk (Osk (Osk (Osk (Oq Vpf (Oq Vm (Osk (Osk (Osk (Oq Vpf ?_)))))))))
    refine Oq Va (KS ?_)
    have hq := q4 hrr false (by simp only [QeL, h32, h34, h45, h56, hg5, hg18, hg44, hg55, cs4]); subst hq
    exact Kr () rfl (.tmp rfl .nil) [] trivial
   intro h45
   refine Osk (Osk (Osk (Osk (Osk (Osk (Oq Vpf (Oq Vm (Osk (Osk ?_)))))))))
   refine Osk (Osk (Osk (Osk (Oq Vpf (Oq Vm (Osk (Osk (Osk (Osk ?_)))))))))
   refine Osk (Osk (Oq Vpf (Oq Vm (Osk (Osk (Osk (Oq Vpf (Oq Va (KS ?_)))))))))
   have hq := q4 hrr false (by simp only [QeL, h32, h34, h45, hg5, hg18, hg44, cs4]); subst hq
   exact Kr () rfl (.tmp rfl .nil) [] trivial
  intro h34
  have g83 := ne_of_beq_false h34
  refine Osk (Osk (Osk (Osk (Osk (Osk (Oq Vpf (Oq Vm (Osk (Osk ?_)))))))))
  refine Osk (Osk (Osk (Osk (Oq Vpf (Oq Vm (Osk (Osk (Osk (Osk ?_)))))))))
  refine Osk (Osk (Oq Vpf (Oq Vm (Osk (Osk (Osk (Osk (Osk (Osk ?_)))))))))
  refine Oq Vpf (Oq Vm (Osk (Osk (Osk (Oq Vpf (Oq Va (KS ?_)))))))
  have hq := q4 hrr false (by simp only [QeL, h32, h34, hg5, hg18, cs4]); subst hq
  exact Kr () rfl (.tmp rfl .nil) [] trivial
 intro h32
 have g84 := ne_of_beq_false h32
 refine Osk (Osk (Osk (Osk (Oq Vpf (Oq Vm (Osk (Osk (Osk (Osk ?_)))))))))
 refine Osk (Osk (Oq Vpf (Oq Vm (Osk (Osk (Osk (Osk (Osk (Osk ?_)))))))))
 refine Oq Vpf (Oq Vm (Osk (Osk (Osk (Osk (Osk (Osk (Oq Vpf (Oq Vm ?_)))))))))
 refine Osk (Osk (Osk (Osk (Osk (Osk (Oq Vpf (Oq Vm (Osk (Osk ?_)))))))))
 refine Osk (Oq Vpf (Oq Va (KS ?_)))
 have hq := q4 hrr false (by simp only [QeL, h32, hg5, hg18, cs4]); subst hq
 exact Kr () rfl (.tmp rfl .nil) [] trivial
theorem Qvs (v : Int) (n : Int) (Qqb : Qac v) (QkY : Qac n) (hn1 : 1 <= n) (rr : Int) (hrr : Qnk v n = rr) : FT Tryz.prog 34 #[vi v, vi n] [] (fun g : Unit => Qac rr /\ (0 <= rr /\ rr < n)) (fun g => vi rr) (fun g => []) := by
 refine FTi Tryz.func34 fun w0 M0 F0 => ?_
 unfold Qac at Qqb QkY
 have hm := QiR v n aM1
 refine KS ?_
 refine Oq Va (KS ?_)
 refine Oq Vm (Oq (VcU un3 Qmb) (Oq Vm (Oq (VcU un3 Qmb) (Oq (Qtz (QnL n aM1)) (Oq (VcN Qmb un3 (h := (Qrq v n aM1))) (Oq Va (KS ?_)))))))
 have hq := q4 hrr (((BitVec.ofInt 64 v) % (BitVec.ofInt 64 n)).toNat : Int) (by simp only [Qnk, cs4]); subst hq
 exact Kr () rfl (.tmp rfl .nil) [] en
theorem Qqr (tP : Value) (ta : Option Addr) (tk : Nat) (tT : List Int) (tI : Int) (n : Int) (htI : 0 <= tI /\ tI <= (tT.length : Int)) (QkY : Qac n) (rr : Int × Int) (hrr : Qbu tT tI n = rr) : FT Tryz.prog 14 #[tP, vi n] [Cl tP [vl ta tk tT, vi tI], S ta tk tT] (fun g : Unit => Qac rr.1 /\ (0 <= rr.2 /\ rr.2 <= (tT.length : Int)) /\ (0 <= rr.1 /\ (rr.1 < n \/ rr.1 = 0))) (fun g => vi rr.1) (fun g => [Cl tP [vl ta tk tT, vi rr.2]]) := by
 refine FTi Tryz.func14 fun w0 M0 F0 => ?_
 unfold Qac at QkY
 refine Fb 8 1 fun _ => Fo 1 fun ho2 => KS ?_
 refine Oq Va (KS ?_)
 refine Jp 0 fun hp3 => ?_
 refine Kq [0, 1, 3, 7, 15, 31, 63, 7, 135, 391, 903, 1927, 4095, 8191] Qcz ?_
 refine Qv [] Vm (Qv [] Qh8 ?_)
 refine Qbl (decide (n <= 1)) ?_ ?_
 ·intro h4
  have g5 := dt h4
  refine Qb h4 [] Vm (Qs (Qs (Qs (Qs (Qs (Qs (Qs (Qs (Qs ?_)))))))))
  refine Qs (Qv [] Vpt ?_)
  refine Qn ⟨by kernel_rfl, ?_⟩
  refine Kt (KS ?_)
  refine Oq Va (KS ?_)
  have hq := q4 hrr (0, tI) (by simp only [Qbu, h4, cs4]); subst hq
  exact Kr () rfl (.tmp rfl .nil) [1] en
 intro h4
 have g6 := df h4
 refine Qb h4 [] Vm (Qv [] Vm (Qv [0] (Vn 0) (Qv [0] (Vfa QlS 0) (Qv [1] (QaV sh3 0) (Qv [] Vm (Qv [0] (Vn 0) (Qv [0] (Vfa QoG 0) (Qv [1] (QaV Qjr 0) (Qv [] (Qcn Qbo) ?_)))))))))
 refine Qv [] QeI (Qv [] Vpf ?_)
 refine Qn ⟨by kernel_rfl, ?_⟩
 refine Kc ?_ ?_
 ·intro h7
  have g8 := dt h7
  refine KS ?_
  refine Oq Va (KS ?_)
  have hq := q4 hrr (0, tI) (by simp only [Qbu, h4, h7, cs4]); subst hq
  exact Kr () rfl (.tmp rfl .nil) [1] en
 intro h7
 have g9 := df h7
 refine KS ?_
 refine Oq Vm (Oq (Vn 1) (Oq (Vfa QlS 1) (Oq (QaV sh3 1) (Oq Qbb (Oq (Vn 1) (Oq (Vfa QlS 1) (Ost (QfJ [1] sh3 [vl ta tk tT, vi (tI + 1)]) (KS ?_))))))))
 refine Qat [0, 1, 3, 7, 0, 16, 48, 112, 240, 511, 1023, 0, 4095, 8191] Qcz ?_
 refine Dv [] Vm (Dv [1] (Vn 0) (Dv [1] (Vfa QoG 0) (Dv [0] (QaV Qjr 0) (Dv [] Vm (Dv [1] (Vn 0) (Dv [1] (Vfa QlS 0) (Dv [0] (QaV sh3 0) (Dv [] Qdf (Dv [2] (Vi Qbo 0) ?_)))))))))
 have hb10 := ok1 (i := (((tI + 1) - 1) : Int).toNat) ho2 rng
 refine Dv [2] (Qc7 sh3 0) (Dv [] Vm ?_)
 refine QaK (Qnk (tT.getD (((tI + 1) - 1) : Int).toNat 0) n) fun rv11 hg12 => ?_
 refine Dx [] [] [0] (fun G => vi rv11) [fun G => SP.fact (Qac rv11 /\ (0 <= rv11 /\ rv11 < n))] (fun G => xC [] QuX (Qvs ((tT.getD (((tI + 1) - 1) : Int).toNat 0)) n pre pre pre rv11 hg12)) (Dv [] Va ?_)
 refine Dn ⟨by kernel_rfl, fun G => ?_⟩
 refine Jw2 [(4, vi rv11)] [0, 1, 2] [SP.fact (Qac rv11 /\ (0 <= rv11 /\ rv11 < n))] ?_
 refine Jf 3 rfl ?_; rintro ⟨he13, he14⟩
 unfold Qac at he13
 refine Jk [0, 1] ?_
 have hq := q4 hrr (rv11, (tI + 1)) (by simp only [Qbu, h4, h7, hg12, cs4]); subst hq
 exact Kr () rfl (.tmp rfl .nil) [0] en
theorem Qut (l : List Int) (la0 : Option Addr) (lk0 : Nat) (n : Int) (QkY : Qac n) (hl0 : l.length <= 1000000000) (rr : List Int) (hrr : QdJ l n = rr) : FT Tryz.prog 29 #[vl la0 lk0 l, vi n] [S la0 lk0 l] (fun g : Value => (rr.length <= l.length + 1)) (fun g => g) (fun g => [sl g rr]) := by
 refine FTi Tryz.func29 fun w0 M0 F0 => ?_
 unfold Qac at QkY
 refine Fb 8 0 fun _ => Fo 0 fun ho2 => KS ?_
 refine Oq Va (KS ?_)
 refine Oq Va (KS ?_)
 refine Kl (γ := Nat × Int) (fun (r3, i_4) => ⟨[(0, vl la0 lk0 l), (1, vi n), (5, vi i_4)], [S la0 lk0 l], QcY l n r3 i_4 = QcY l n (((l.length : Int) - 0).toNat) 0 /\ r3 = ((l.length : Int) - i_4).toNat /\ (0 : Int) <= i_4 /\ i_4 <= (l.length : Int) /\ (-9223372036854775808 <= i_4 /\ i_4 <= 9223372036854775807), r3⟩) (((l.length : Int) - 0).toNat, 0) [0] ⟨rfl, rfl, aM1, aM1, aM1⟩ ?_
 rintro ⟨r3, i_4⟩ ⟨hM5, hr6, hi7, hi8, hk9⟩
 refine Qbt fun _ _ hL hA => ?_; dsimp only at hL hA; subst hL hA
 refine Fb 8 0 fun _ => Fo 0 fun ho11 => KS ?_
 refine Oq Vm (Oq Vm (Oq (Qcn Qbo) (Oq Qcg (Oq Vm ?_))))
 refine Js 11 ?_ ?_
 ·intro h12
  have g13 := dt h12
  obtain ⟨r14, rfl⟩ := scc (n := r3) aM1
  refine Oq Vm (Oq Vm (Oq (Vi Qbo 0) ?_))
  have hb15 := ok1 (i := i_4.toNat) ho11 rng
  refine Oq (Qc7 sh3 0) (Oq Vm (Oq Qcg (Oq Vpt (KS ?_))))
  refine Kc ?_ ?_
  ·intro h16
   have g17 := dt h16
   refine KS ?_
   refine Oq Vm (Oq Qbb (Oq Va (KS ?_)))
   exact Kg (r14, (i_4 + 1)) [0] ⟨(q3 hM5 (by simp only [QcY, h12, h16, cs4])), aM1, aM1, aM1, aM1⟩
  intro h16
  have g18 := df h16
  refine Ke ?_
  have hR19 := q2 hM5 i_4 (by simp only [QcY, h12, h16, cs4])
  refine KS ?_
  refine Oq Vm (Oq Vm (Oq (Qcn Qbo) (Oq Qcg (Oq Vm ?_))))
  refine Js 25 ?_ ?_
  ·intro h20
   have g21 := dt h20
   refine Oq Vm (Oq Vm (Oq (Vi Qbo 0) ?_))
   have hb22 := ok1 (i := i_4.toNat) ho11 rng
   refine Oq (Qc7 sh3 0) (Oq Vm (Oq QbB (Oq Vpt (KS ?_))))
   refine Kc ?_ ?_
   ·intro h23
    have g24 := eq_of_beq h23
    refine KS ?_
    refine Oq Vm (Oq Va (KS ?_))
    have hq := q4 hrr l (by simp only [QdJ, h12, h16, h20, h23, hR19, cs4]); subst hq
    exact Kr (vl la0 lk0 l) rfl (.tmp rfl .nil) [0] en
   intro h23
   have g25 := ne_of_beq_false h23
   refine KS ?_
   refine Oa (As0 Qbo) fun c26 => ?_
   refine Jo 0 ?_; rintro a27 k28 rfl
   refine Oq Vm (Oq Vm (Oa (Asl [1] Qbo 0 (i_4.toNat)) fun c29 => ?_))
   refine Jo 0 ?_; rintro a30 k31 rfl
   refine Fb 8 0 fun _ => Fo 0 fun ho33 => ?_
   have hn34 : ((l.take (i_4.toNat)).drop 0).length = (i_4.toNat) - 0 := Qgi rng rng
   refine Jl [1] (Ent.crNil (α := Int) _) ?_
   refine Oa (Ap0 [0, 0] Qbo Qbo Qjp) fun c35 => ?_
   refine Jo 0 ?_; rintro a36 k37 rfl
   refine Oq Va (KS ?_)
   refine Oq Vm (Oq Vm (Oa (AsV Qbo Qjp [vi n] [vi n]) fun c38 => ?_))
   refine Jo 0 ?_; rintro a39 k40 rfl
   refine Jl [0] (Ent.crInt _ [n] _ _ rfl rfl (by intro x hx; rw [List.mem_singleton] at hx; subst hx; unfold Qac; omega) aB1) ?_
   refine Oa (ApO [1, 0] Qbo Qbo Qjp) fun c41 => ?_
   refine Jo 0 ?_; rintro a42 k43 rfl
   refine Fb 8 0 fun _ => Fo 0 fun ho45 => ?_
   have hn46 := la ((l.take (i_4.toNat)).drop 0) ([n] : List Int)
   refine Oq Va (KS ?_)
   refine Oq Vm (Oq Vm (Oq Vm (Oa (Asl [2] Qbo (i_4.toNat) l.length) fun c47 => ?_)))
   refine Jo 0 ?_; rintro a48 k49 rfl
   refine Fb 8 0 fun _ => Fo 0 fun ho51 => ?_
   have hn52 : ((l.take l.length).drop (i_4.toNat)).length = l.length - (i_4.toNat) := Qgi rng rng
   refine Oa (Ap [1, 0] Qbo Qbo Qjp) fun c53 => ?_
   refine Jo 0 ?_; rintro a54 k55 rfl
   refine Fb 8 0 fun _ => Fo 0 fun ho57 => ?_
   have hn58 := la ((((l.take (i_4.toNat)).drop 0) ++ [n]) : List Int) ((l.take l.length).drop (i_4.toNat))
   refine Oq Va (KS ?_)
   refine Jl [0] (Ent.freeze _ _) ?_
   have hq := q4 hrr ((((l.take (i_4.toNat)).drop 0) ++ [n]) ++ ((l.take l.length).drop (i_4.toNat))) (by simp only [QdJ, h12, h16, h20, h23, hR19, cs4]); subst hq
   exact Kr (.slice a54 (((((l.take (i_4.toNat)).drop 0) ++ [n]) ++ ((l.take l.length).drop (i_4.toNat))).length) k55) rfl (.tmp rfl .nil) [0] en
  intro h20
  exact absurd h20 (by first | (simp [h12]; done) | (simp only [bne, h12]; decide) | (simp only [bne, h12, Bool.not_true, Bool.not_false]; decide) | (exfalso; omega) | (intro hq; simp only [bne, hq, Bool.not_false, Bool.not_true, reduceCtorEq] at h12))
 intro h12
 have g59 := df h12
 obtain rfl : r3 = 0 := by omega
 refine Osk (Osk (Osk (Osk (Osk (Osk (Oq Vpf (KS ?_)))))))
 refine Kf ?_
 refine Ke ?_
 have hR60 := q2 hM5 i_4 (by simp only [QcY, h12, cs4])
 refine KS ?_
 refine Oq Vm (Oq Vm (Oq (Qcn Qbo) (Oq Qcg (Oq Vm ?_))))
 refine Js 25 ?_ ?_
 ·intro h61
  exact absurd h61 (by first | (simp [h12]; done) | (simp only [bne, h12]; decide) | (simp only [bne, h12, Bool.not_true, Bool.not_false]; decide) | (exfalso; omega) | (intro hq; simp only [bne, hq, Bool.not_false, Bool.not_true, reduceCtorEq] at h12))
 intro h61
 have g62 := df h61
 refine Osk (Osk (Osk (Osk (Osk (Osk (Oq Vpf (KS ?_)))))))
 refine Kf (KS ?_)
 refine Oa (As0 Qbo) fun c63 => ?_
 refine Jo 0 ?_; rintro a64 k65 rfl
 refine Oq Vm (Oq Vm (Oa (Asl [1] Qbo 0 (i_4.toNat)) fun c66 => ?_))
 refine Jo 0 ?_; rintro a67 k68 rfl
 refine Fb 8 0 fun _ => Fo 0 fun ho70 => ?_
 have hn71 : ((l.take (i_4.toNat)).drop 0).length = (i_4.toNat) - 0 := Qgi rng rng
 refine Jl [1] (Ent.crNil (α := Int) _) ?_
 refine Oa (Ap0 [0, 0] Qbo Qbo Qjp) fun c72 => ?_
 refine Jo 0 ?_; rintro a73 k74 rfl
 refine Oq Va (KS ?_)
 refine Oq Vm (Oq Vm (Oa (AsV Qbo Qjp [vi n] [vi n]) fun c75 => ?_))
 refine Jo 0 ?_; rintro a76 k77 rfl
 refine Jl [0] (Ent.crInt _ [n] _ _ rfl rfl (by intro x hx; rw [List.mem_singleton] at hx; subst hx; unfold Qac; omega) aB1) ?_
 refine Oa (ApO [1, 0] Qbo Qbo Qjp) fun c78 => ?_
 refine Jo 0 ?_; rintro a79 k80 rfl
 refine Fb 8 0 fun _ => Fo 0 fun ho82 => ?_
 have hn83 := la ((l.take (i_4.toNat)).drop 0) ([n] : List Int)
 refine Oq Va (KS ?_)
 refine Oq Vm (Oq Vm (Oq Vm (Oa (Asl [2] Qbo (i_4.toNat) l.length) fun c84 => ?_)))
 refine Jo 0 ?_; rintro a85 k86 rfl
 refine Fb 8 0 fun _ => Fo 0 fun ho88 => ?_
 have hn89 : ((l.take l.length).drop (i_4.toNat)).length = l.length - (i_4.toNat) := Qgi rng rng
 refine Oa (Ap [1, 0] Qbo Qbo Qjp) fun c90 => ?_
 refine Jo 0 ?_; rintro a91 k92 rfl
 refine Fb 8 0 fun _ => Fo 0 fun ho94 => ?_
 have hn95 := la ((((l.take (i_4.toNat)).drop 0) ++ [n]) : List Int) ((l.take l.length).drop (i_4.toNat))
 refine Oq Va (KS ?_)
 refine Jl [0] (Ent.freeze _ _) ?_
 have hq := q4 hrr ((((l.take (i_4.toNat)).drop 0) ++ [n]) ++ ((l.take l.length).drop (i_4.toNat))) (by simp only [QdJ, h12, h61, hR60, cs4]); subst hq
 exact Kr (.slice a91 (((((l.take (i_4.toNat)).drop 0) ++ [n]) ++ ((l.take l.length).drop (i_4.toNat))).length) k92) rfl (.tmp rfl .nil) [0] en
theorem QuZ (tP : Value) (ta : Option Addr) (tk : Nat) (tT : List Int) (tI : Int) (n : Int) (htI : 0 <= tI /\ tI <= (tT.length : Int)) (QkY : Qac n) (hn1 : 1 <= n /\ n <= 1000) (rr : QaP × Int) (hrr : Qeo tT tI n = rr) : FT Tryz.prog 12 #[tP, vi n] [Cl tP [vl ta tk tT, vi tI], S ta tk tT] (fun g : Value × Value × Value => (0 <= rr.2 /\ rr.2 <= (tT.length : Int)) /\ (1 <= rr.1.Nodes.length /\ rr.1.Nodes.length <= 1000 /\ rr.1.Succ.length = rr.1.Nodes.length /\ rr.1.Pred.length = rr.1.Nodes.length) /\ (∀ l ∈ rr.1.Succ, (l.length : Int) <= 3000) /\ (∀ l ∈ rr.1.Pred, (l.length : Int) <= 3000)) (fun g => .agg #[g.1, g.2.1, g.2.2]) (fun g => [sl g.1 rr.1.Nodes, sl g.2.1 rr.1.Succ, sl g.2.2 rr.1.Pred, Cl tP [vl ta tk tT, vi rr.2]]) := by
 refine FTi Tryz.func12 fun w0 M0 F0 => ?_
 unfold Qac at QkY
 refine Fb 8 1 fun _ => Fo 1 fun ho2 => KS ?_
 refine Oa (Al QpA [.slice none 0 0, .slice none 0 0, .slice none 0 0]) fun p3 => KS ?_
 refine Oq Vm (Oq Vm ?_)
 refine QaK (Qbu tT tI n) fun rv4 hg5 => ?_
 have hc6 := Qqr tP ta tk tT tI n pre pre rv4 hg5
 refine Oc [1, 1] Qqj hc6 ?_
 rintro - ⟨he7, he8, he9⟩
 unfold Qac at he7
 refine Oq Qbb (Oq Va (KS ?_))
 refine Qat [0, 1, 0, 4, 0, 16, 63, 0, 255] Qcz ?_
 refine Dv [] Vm ?_
 have hn11 := List.length_replicate (n := ((1 + rv4.1) : Int).toNat) (a := ((default : QaH) : QaH))
 refine Dx [] [] [0] (fun G => (G.g 1 0)) [fun G => os (G.g 1 0) ((List.replicate ((1 + rv4.1) : Int).toNat (default : QaH)) : List QaH)] (fun G => xA (Amk (α := QaH) Qh0 Qnq (default : QaH) Qmv)) (Dv [] Vm ?_)
 have hn13 := List.length_replicate (n := ((1 + rv4.1) : Int).toNat) (a := ([] : List Int))
 refine Dx [] [] [0] (fun G => (G.g 3 0)) [fun G => os (G.g 3 0) ((List.replicate ((1 + rv4.1) : Int).toNat []) : List (List Int))] (fun G => xA (Amk (α := List Int) Qg8 Qqn [] (fun _ _ => ⟨_, rfl, Qkh⟩))) (Dv [] Vm ?_)
 have hn15 := List.length_replicate (n := ((1 + rv4.1) : Int).toNat) (a := ([] : List Int))
 refine Dx [] [] [0] (fun G => (G.g 5 0)) [fun G => os (G.g 5 0) ((List.replicate ((1 + rv4.1) : Int).toNat []) : List (List Int))] (fun G => xA (Amk (α := List Int) Qg8 Qqn [] (fun _ _ => ⟨_, rfl, Qkh⟩))) ?_
 refine Dx [3, 4, 5] [] [0, 0, 0] (fun G => .agg #[(G.g 1 0), (G.g 3 0), (G.g 5 0)]) [] (fun G => xV (v := .agg #[(G.g 1 0), (G.g 3 0), (G.g 5 0)]) (Vo 0 rfl (QkV _ _) fun aq16 kq17 eq18 => (by rw [eq18]; exact Vo 1 rfl (QkV _ _) fun aq19 kq20 eq21 => (by rw [eq21]; exact Vo 2 rfl (QkV _ _) fun aq22 kq23 eq24 => (by rw [eq24]; exact Vbd QqB [.slice aq16 (((List.replicate ((1 + rv4.1) : Int).toNat (default : QaH)) : List QaH).length) kq17, .slice aq19 (((List.replicate ((1 + rv4.1) : Int).toNat []) : List (List Int)).length) kq20, .slice aq22 (((List.replicate ((1 + rv4.1) : Int).toNat []) : List (List Int)).length) kq23]))))) (Dx [] [] [0] (fun G => (G.g 7 0)) [fun G => Cl (G.g 7 0) [.slice none 0 0, .slice none 0 0, .slice none 0 0]] (fun G => xA (Al QpA [.slice none 0 0, .slice none 0 0, .slice none 0 0])) (Dx0 [3, 4, 5, 6] [6] [1, 1, 1, 0] [fun G => Cl (G.g 7 0) [(G.g 1 0), (G.g 3 0), (G.g 5 0)]] (fun G => x1 0 rfl Qfd fun ho26 => (x1 1 rfl Qfd fun ho27 => (x1 2 rfl Qfd fun ho28 => (xS (Scl [3] QiO [(G.g 1 0), (G.g 3 0), (G.g 5 0)] (v := .agg #[(G.g 1 0), (G.g 3 0), (G.g 5 0)]) (h1 := show [(G.g 1 0), (G.g 3 0), (G.g 5 0)].all (·.oneCell') = true from (by simp only [List.all_cons, List.all_nil, ho26, ho27, ho28, Bool.and_true, Bool.true_and] <;> rfl))))))) ?_))
 refine Dn ⟨by kernel_rfl, fun G => ?_⟩
 refine Jw2 [(0, tP), (4, p3), (1, vi (1 + rv4.1)), (5, (G.g 7 0))] [0, 1, 2] [os (G.g 1 0) ((List.replicate ((1 + rv4.1) : Int).toNat (default : QaH)) : List QaH), os (G.g 3 0) ((List.replicate ((1 + rv4.1) : Int).toNat []) : List (List Int)), os (G.g 5 0) ((List.replicate ((1 + rv4.1) : Int).toNat []) : List (List Int)), Cl (G.g 7 0) [(G.g 1 0), (G.g 3 0), (G.g 5 0)]] ?_
 generalize G.g 1 0 = c10, G.g 3 0 = c12, G.g 5 0 = c14, G.g 7 0 = p25
 refine Jo 3 ?_; rintro a29 k30 rfl
 refine Fb 32 3 fun _ => ?_
 refine Jo 4 ?_; rintro a32 k33 rfl
 refine Fb 24 4 fun _ => ?_
 refine Jo 5 ?_; rintro a35 k36 rfl
 refine KS ?_
 refine Oq Vm (Oq Vm (Oq Qov (Oq Qbb ?_)))
 refine QaK (Qbu tT rv4.2 ((2 * (1 + rv4.1)) + 1)) fun rv37 hg38 => ?_
 have hc39 := Qqr tP ta tk tT rv4.2 (((2 * (1 + rv4.1)) + 1)) pre pre rv37 hg38
 refine Oc [0, 1] Qqj hc39 ?_
 rintro - ⟨he40, he41, he42⟩
 unfold Qac at he40
 refine Oq Va (KS ?_)
 refine Kl (γ := Nat × Int × List (List Int) × List (List Int) × Int × Option Addr × Nat × Option Addr × Nat) (fun (r43, Qjn, Qgs, Qgt, Qmi, a48, k49, a50, k51) => ⟨[(0, tP), (4, p3), (1, vi (1 + rv4.1)), (5, p25), (6, vi Qmi)], [O a50 k51 Qgt, O a48 k49 Qgs, Cl tP [vl ta tk tT, vi Qjn], Cl p3 [.slice none 0 0, .slice none 0 0, .slice none 0 0], S ta tk tT, O a29 k30 ((List.replicate ((1 + rv4.1) : Int).toNat (default : QaH)) : List QaH), Cl p25 [vl a29 k30 (List.replicate ((1 + rv4.1) : Int).toNat (default : QaH)), vl a48 k49 Qgs, vl a50 k51 Qgt]], Qdv tT (1 + rv4.1) r43 Qjn Qgs Qgt Qmi = Qdv tT (1 + rv4.1) (rv37.1.toNat) rv37.2 (List.replicate ((1 + rv4.1) : Int).toNat []) (List.replicate ((1 + rv4.1) : Int).toNat []) rv37.1 /\ r43 = Qmi.toNat /\ Qmi <= (rv37.1 : Int) /\ (-9223372036854775808 <= Qjn /\ Qjn <= 9223372036854775807) /\ (0 <= Qjn /\ Qjn <= (tT.length : Int)) /\ (-9223372036854775808 <= Qmi /\ Qmi <= 9223372036854775807) /\ Qgs.length = (1 + rv4.1).toNat /\ Qgt.length = (1 + rv4.1).toNat /\ (∀ l ∈ Qgs, (l.length : Int) <= 3000 - Qmi) /\ (∀ l ∈ Qgt, (l.length : Int) <= 3000 - Qmi) /\ (Qmi <= 2100), r43⟩) (rv37.1.toNat, rv37.2, (List.replicate ((1 + rv4.1) : Int).toNat []), (List.replicate ((1 + rv4.1) : Int).toNat []), rv37.1, a32, k33, a35, k36) [5, 4, 0, 0, 0, 1, 1] ⟨rfl, rfl, aM1, aM1, aM1, aM1, iv0, iv0, (fun l hl => by rw [List.eq_of_mem_replicate hl]; show (0 : Int) <= _; omega), (fun l hl => by rw [List.eq_of_mem_replicate hl]; show (0 : Int) <= _; omega), iv0⟩ ?_
 rintro ⟨r43, Qjn, Qgs, Qgt, Qmi, a48, k49, a50, k51⟩ ⟨hM52, hr53, hi54, hk55, ht56, hk57, hv58, hv59, hv60, hv61, hv62⟩
 refine Qbt fun _ _ hL hA => ?_; dsimp only at hL hA; subst hL hA
 refine Fb 24 0 fun _ => Fb 24 1 fun _ => Fb 8 4 fun _ => Fo 4 fun ho66 => Fb 32 5 fun _ => KS ?_
 refine Oq Vm (Oq Qih (KS ?_))
 refine Kc ?_ ?_
 ·intro h68
  have g69 := dt h68
  obtain ⟨r70, rfl⟩ := scc (n := r43) aM1
  refine KS ?_
  refine Oq Vm (Oq Vm ?_)
  refine QaK (Qbu tT Qjn (1 + rv4.1)) fun rv71 hg72 => ?_
  have hc73 := Qqr tP ta tk tT Qjn ((1 + rv4.1)) pre pre rv71 hg72
  refine Oc [2, 3] Qqj hc73 ?_
  rintro - ⟨he74, he75, he76⟩
  unfold Qac at he74
  refine Oq Vm (Oq Vm ?_)
  refine QaK (Qbu tT rv71.2 (1 + rv4.1)) fun rv77 hg78 => ?_
  have hc79 := Qqr tP ta tk tT rv71.2 ((1 + rv4.1)) pre pre rv77 hg78
  refine Oc [0, 3] Qqj hc79 ?_
  rintro - ⟨he80, he81, he82⟩
  unfold Qac at he80
  refine Oq Va (Oq Va (KS ?_))
  refine Jp 6 fun hp83 => ?_
  refine Qky rv71.1.toNat 3 rfl rng fun a84 k85 => ?_
  refine Fb 8 1 fun _ => Fo 1 fun ho87 => ?_
  refine Qky rv77.1.toNat 4 rfl rng fun a88 k89 => ?_
  refine Fb 8 1 fun _ => Fo 1 fun ho91 => ?_
  refine Qat [0, 1, 0, 0, 8, 0, 0, 64, 0, 448, 960, 0, 4032, 0, 8192, 0, 57344, 122880, 0, 524224, 1048519, 2097095, 4194303, 8388607] Qcz ?_
  refine Dv [4] (Vfa Qfw 0) (Dv [9] (QaV Qiq 0) (Dv [] Vm (Dv [4] (Vfa Qhj 0) (Dv [9] (QaV Qiq 0) (Dv [] Vm (Dv [4] (Vfa Qfw 0) (Dv [9] (QaV Qiq 0) (Dv [] Vm (Dv [2] (Vi Qg8 0) ?_)))))))))
  refine Dv [2] (Vld Qjr 0) (Dv [] Vm ?_)
  refine QaK (QdJ (Qgs.getD rv71.1.toNat []) rv77.1) fun rv93 hg94 => ?_
  refine Dx [3] [] [2, 0, 1] (fun G => (G.g 12 0)) [fun G => SP.fact ((rv93.length <= (Qgs.getD rv71.1.toNat []).length + 1)), fun G => sl (G.g 12 0) rv93] (fun G => xC [0] Qup (Qut ((Qgs.getD rv71.1.toNat [])) a84 k85 rv77.1 pre (QoL (by assumption) aM1) rv93 hg94)) (Dv [4] (Vfa Qhj 0) (Dv [9] (QaV Qiq 0) (Dv [] Vm (Dv [0] (Vi Qg8 0) (Dv [0] (Vld Qjr 0) (Dv [] Vm ?_))))))
  refine QaK (QdJ (Qgt.getD rv77.1.toNat []) rv71.1) fun rv96 hg97 => ?_
  refine Dx [1, 10] [] [2, 3, 0, 1] (fun G => (G.g 19 0)) [fun G => SP.fact ((rv96.length <= (Qgt.getD rv77.1.toNat []).length + 1)), fun G => sl (G.g 19 0) rv96] (fun G => by refine xf 1 rfl ?_; rintro he98; exact xC [0] Qup (Qut ((Qgt.getD rv77.1.toNat [])) a88 k89 rv71.1 pre (QoL (by assumption) aM1) rv96 hg97)) ?_
  refine Dx [2, 10] [] [0, 0] (fun G => (QfO 1 (vl a48 k49 Qgs) rv71.1.toNat)) [] (fun G => by refine xf 1 rfl ?_; rintro he99; exact xV (Vi Qg8 0)) ?_
  refine Dx0 [2, 10, 11] [2] [2, 1, 0] [fun G => os (vl a48 k49 Qgs) (Qgs.set rv71.1.toNat rv93)] (fun G => by refine xf 1 rfl ?_; rintro he100; exact xp [0] rfl (Ent.oread _ _ _ _) (x1 2 rfl QlX fun ho101 => (xS (OpS.frame [0, 1] rfl (OpS.storeOs' (Rs := [sl (G.g 12 0) rv93]) rv93 [(G.g 12 0)] rfl rfl rfl Qjr (Qb9 ho101) rfl (fun h => ⟨_, rfl, Qbe (i := 0) rfl h⟩) rng))))) ?_
  refine Dx [0, 12] [] [0, 0] (fun G => (QfO 1 (vl a50 k51 Qgt) rv77.1.toNat)) [] (fun G => by refine xf 1 rfl ?_; rintro he102; exact xV (Vi Qg8 0)) ?_
  refine Dx0 [0, 12, 13] [0] [2, 1, 0] [fun G => os (vl a50 k51 Qgt) (Qgt.set rv77.1.toNat rv96)] (fun G => by refine xf 1 rfl ?_; rintro he103; exact xp [0] rfl (Ent.oread _ _ _ _) (x1 2 rfl QlX fun ho104 => (xS (OpS.frame [0, 1] rfl (OpS.storeOs' (Rs := [sl (G.g 19 0) rv96]) rv96 [(G.g 19 0)] rfl rfl rfl Qjr (Qb9 ho104) rfl (fun h => ⟨_, rfl, Qbe (i := 0) rfl h⟩) rng))))) ?_
  refine Dn ⟨by kernel_rfl, fun G => ?_⟩
  refine Jw2 [(0, tP), (4, p3), (1, vi (1 + rv4.1)), (5, p25), (6, vi Qmi)] [1, 3, 4, 5, 6, 7, 8, 9] [SP.fact ((rv93.length <= (Qgs.getD rv71.1.toNat []).length + 1)), sl (G.g 12 0) rv93, SP.fact ((rv96.length <= (Qgt.getD rv77.1.toNat []).length + 1)), sl (G.g 19 0) rv96, os (vl a48 k49 Qgs) (Qgs.set rv71.1.toNat rv93), os (vl a50 k51 Qgt) (Qgt.set rv77.1.toNat rv96)] ?_
  generalize G.g 12 0 = c92, G.g 19 0 = c95
  refine Jf 8 rfl ?_; rintro he105
  refine Jf 10 rfl ?_; rintro he106
  refine Jk [0, 1, 3, 3, 3, 4, 4, 5, 7, 8, 8] ?_
  refine Jo 7 ?_; rintro a107 k108 rfl
  refine Fb 8 7 fun _ => Fo 7 fun ho110 => ?_
  refine Jo 8 ?_; rintro a111 k112 rfl
  refine Fb 8 8 fun _ => Fo 8 fun ho114 => KS ?_
  refine Oq Vm (Oq Qdf (Oq Va (KS ?_)))
  refine Fl 9 fun hn115 => ?_; (try unfold vl); rw [<- hn115]
  refine Fl 10 fun hn116 => ?_; (try unfold vl); rw [<- hn116]
  exact Kg (r70, rv77.2, (Qgs.set rv71.1.toNat rv93), (Qgt.set rv77.1.toNat rv96), (Qmi - 1), a48, k49, a50, k51) [10, 9, 2, 2, 2, 3, 3] ⟨(q3 hM52 (by simp only [Qdv, h68, hg5, hg38, hg72, hg78, hg94, hg97, cs4])), aM1, aM1, aM1, aM1, aM1, iv1, iv1, (QlD (by assumption) (by assumption) aM1 aM1), (QlD (by assumption) (by assumption) aM1 aM1), iv1⟩
 intro h68
 have g117 := df h68
 obtain rfl : r43 = 0 := by omega
 refine Ke ?_
 have hR118 := q2 hM52 (Qjn, Qgs, Qgt) (by simp only [Qdv, h68, hg5, hg38, cs4])
 refine KS ?_
 refine Oq (QcR QiO 6) (Ost (Scl [3] QiO [vl a29 k30 (List.replicate ((1 + rv4.1) : Int).toNat (default : QaH)), vl a48 k49 Qgs, vl a50 k51 Qgt]) (KS ?_))
 refine Jl [5] (Ent.freeze _ _) ?_
 refine Jl [3] (Ent.freeze _ _) ?_
 refine Jl [3] (Ent.freeze _ _) ?_
 have hq := q4 hrr ((QaP.mk (List.replicate ((1 + rv4.1) : Int).toNat (default : QaH)) Qgs Qgt), Qjn) (by simp only [Qeo, h68, hg5, hg38, hR118, cs4]); subst hq
 exact Kr (vl a29 k30 (List.replicate ((1 + rv4.1) : Int).toNat (default : QaH)), vl a48 k49 Qgs, vl a50 k51 Qgt) rfl (.cellN 3 rfl QiO rfl (QaB _ _) rfl .nil) [2, 1, 0, 4] ⟨en, (by have hTG := QrM hrr hn1; omega), ((Qra hrr hn1).1), ((Qra hrr hn1).2)⟩
theorem Qvq (s : List QaH) (sa0 : Option Addr) (sk0 : Nat) (rr : List QaH) (hrr : QfE s = rr) : FT Tryz.prog 35 #[vl sa0 sk0 s] [S sa0 sk0 s] (fun g : Value => (rr.length = s.length)) (fun g => g) (fun g => [os g rr]) := by
 have hm : QfE s = s := rfl
 rw [hm] at hrr
 subst hrr
 refine FTi Tryz.func35 fun w0 M0 F0 => ?_
 refine KS ?_
 refine Oq Va ?_
 refine KS ?_
 refine Oq Vm ?_
 refine Oq (Qs2 Qu5) ?_
 refine KS ?_
 refine Kc ?_ ?_
 ·intro h
  refine Qsv 0 h ?_
  intro h0
  subst h0
  refine KS ?_
  refine Oq Va ?_
  refine KS ?_
  refine Jl [] (Ent.osNil (α := QaH)) ?_
  exact Kr (.slice none 0 0) rfl (.tmp rfl .nil) [0] rfl
 ·intro _
  refine KS ?_
  refine Oa (As0 Qh0) fun c1 => ?_
  refine Jo 0 ?_; rintro a2 k3 rfl
  refine Oq Vm ?_
  refine Fb 32 1 fun hl => ?_
  refine Jl [0] (Ent.crNil (α := QaH) _) ?_
  refine Oa (Ap0 [0, 0] Qh0 Qh0 Qnq) fun c4 => ?_
  refine Oq Va ?_
  refine KS ?_
  exact Kr c4 rfl (.tmp rfl .nil) [0] rfl
theorem QtX (l : List (List Int)) (la0 : Option Addr) (lk0 : Nat) (rr : List (List Int)) (hrr : Qf5 l = rr) : FT Tryz.prog 36 #[vl la0 lk0 l] [S la0 lk0 l] (fun g : Value => (rr.length = l.length)) (fun g => g) (fun g => [sl g rr]) := by
 refine FTi Tryz.func36 fun w0 M0 F0 => Fb 24 0 fun _ => ?_
 refine KS ?_
 refine Oq Va (KS ?_)
 refine Oq Va (KS ?_)
 refine Oq Vm (Oq (Qcn Qg8) (Oq Vm (KS ?_)))
 refine Jl [] (Ent.osNil (α := (List Int))) ?_
 refine Kl (γ := Nat × List (List Int) × Int × Option Addr × Nat) (fun (r2, Qjy, Qds, a5, k6) => ⟨[(3, vl a5 k6 Qjy), (6, vl la0 lk0 l), (7, vi (l.length : Int)), (8, vi Qds)], [O a5 k6 Qjy, S la0 lk0 l], QdT l r2 Qjy Qds = QdT l (((l.length : Int) - 0).toNat) [] 0 /\ r2 = ((l.length : Int) - Qds).toNat /\ (0 : Int) <= Qds /\ Qds <= (l.length : Int) /\ (-9223372036854775808 <= Qds /\ Qds <= 9223372036854775807) /\ ((Qjy.length : Int) = Qds), r2⟩) (((l.length : Int) - 0).toNat, [], 0, none, 0) [0, 0] ⟨rfl, rfl, aM1, aM1, aM1, iv0⟩ ?_
 rintro ⟨r2, Qjy, Qds, a5, k6⟩ ⟨hM7, hr8, hi9, hi10, hk11, hv12⟩
 refine Qbt fun _ _ hL hA => ?_; dsimp only at hL hA; subst hL hA
 refine Fb 24 0 fun _ => Fb 24 1 fun _ => KS ?_
 refine Oq Qcg (KS ?_)
 refine Kc ?_ ?_
 ·intro h15
  have g16 := dt h15
  obtain ⟨r17, rfl⟩ := scc (n := r2) aM1
  refine KS ?_
  refine Oq (Vi Qg8 1) ?_
  refine QfB Qds.toNat 1 rfl rng fun a18 k19 => ?_
  refine Fb 8 1 fun _ => Fo 1 fun ho21 => ?_
  refine Oq (Vld Qjr 0) (Oq Va (KS ?_))
  refine Oq Vm (Oq Vm ?_)
  refine Jl [] (Ent.osNil (α := Int)) ?_
  refine Oa (Ap0 [0, 1] Qbo Qbo Qjp) fun c22 => ?_
  refine Jo 0 ?_; rintro a23 k24 rfl
  refine Oa (AsV Qg8 Qqn [vl a23 k24 (l.getD Qds.toNat [])] [vl a23 k24 (l.getD Qds.toNat [])]) fun c25 => ?_
  refine Jo 0 ?_; rintro a26 k27 rfl
  refine Jl [1] (Ent.freeze _ _) ?_
  refine Jl [1, 0] (Ent.cr1 (α := List Int) (A := [S a23 k24 ((l.getD Qds.toNat []) : List Int)]) _ (l.getD Qds.toNat []) _ aB1 (fun h => ⟨_, rfl, Qbe (i := 0) rfl h⟩)) ?_
  refine Oa (ApO [5, 0] Qg8 Qg8 Qqn) fun c28 => ?_
  refine Jo 0 ?_; rintro a29 k30 rfl
  refine Fb 24 0 fun _ => ?_
  have hn32 := la Qjy ([(l.getD Qds.toNat [])] : List (List Int))
  refine Oq Va (KS ?_)
  refine Oq Qbb (Oq Vm (KS ?_))
  exact Kg (r17, (Qjy ++ [(l.getD Qds.toNat [])]), (Qds + 1), a29, k30) [0, 4] ⟨(q3 hM7 (by simp only [QdT, h15, cs4])), aM1, aM1, aM1, aM1, iv1⟩
 intro h15
 have g33 := df h15
 obtain rfl : r2 = 0 := by omega
 refine Ke ?_
 have hR34 := q2 hM7 Qjy (by simp only [QdT, h15, cs4])
 refine KS ?_
 refine Oq Vm (Oq Va (KS ?_))
 refine Jl [0] (Ent.freeze _ _) ?_
 have hq := q4 hrr Qjy (by simp only [Qf5, h15, hR34, cs4]); subst hq
 exact Kr (vl a5 k6 Qjy) rfl (.tmp rfl .nil) [0] en
theorem Qvb (g : QaP) (ga0 : Option Addr) (gk0 : Nat) (ga1 : Option Addr) (gk1 : Nat) (ga2 : Option Addr) (gk2 : Nat) (rr : QaP × Int) (hrr : Qe5 g = rr) : FT Tryz.prog 16 #[.agg #[vl ga0 gk0 g.Nodes, vl ga1 gk1 g.Succ, vl ga2 gk2 g.Pred]] [S ga0 gk0 g.Nodes, S ga1 gk1 g.Succ, S ga2 gk2 g.Pred] (fun g : Value × Value × Value => Qac rr.2) (fun g => .tuple #[.agg #[g.1, g.2.1, g.2.2], vi rr.2]) (fun g => [sl g.1 rr.1.Nodes, sl g.2.1 rr.1.Succ, sl g.2.2 rr.1.Pred]) := by
 refine FTi Tryz.func16 fun w0 M0 F0 => Fb 32 0 fun _ => Fb 24 1 fun _ => Fb 24 2 fun _ => ?_
 refine KS ?_
 refine Oa (Ab [vl ga0 gk0 g.Nodes, vl ga1 gk1 g.Succ, vl ga2 gk2 g.Pred]) fun p4 => Oa (Al QpA [.slice none 0 0, .slice none 0 0, .slice none 0 0]) fun p5 => Oq Va (KS ?_)
 refine Oq (QcR QiO 1) ?_
 refine QaK (Qck g) fun rv6 hg7 => ?_
 have hc8 := Qs6 g ga0 gk0 ga1 gk1 ga2 gk2 rv6 hg7
 refine Oc [2, 3, 4] Qtt hc8 ?_
 rintro - -
 refine Oq QeT (KS ?_)
 refine Kc ?_ ?_
 ·intro h9
  have h11 := not_true h9
  refine KS ?_
  refine Oq (Vbd QqB [.slice none 0 0, .slice none 0 0, .slice none 0 0]) (Ost (Scl [0] QiO [.slice none 0 0, .slice none 0 0, .slice none 0 0]) (Oq Va (KS ?_)))
  refine Jl [] (Ent.slNil (α := QaH)) ?_
  refine Jl [] (Ent.slNil (α := List Int)) ?_
  have hq := q4 hrr ((QaP.mk [] [] []), 1) (by simp only [Qe5, h9, h11, hg7, cs4]); subst hq
  exact Kr (.slice none 0 0, .slice none 0 0, .slice none 0 0) rfl (.cellN 2 rfl QiO rfl (QaB _ _) rfl (.tmp rfl .nil)) [1, 0, 0] en
 intro h9
 have h14 := not_false h9
 refine KS ?_
 refine Qat [0, 1, 3, 0, 8, 31, 0, 64, 255, 511, 1023, 2047] Qcz ?_
 refine Dv [1] (Vfa QjF 0) (Dv [1] (QaV Qqq 0) ?_)
 refine QaK (QfE g.Nodes) fun rv17 hg18 => ?_
 refine Dx [2] [] [2, 0, 1] (fun G => (G.g 2 0)) [fun G => SP.fact ((rv17.length = g.Nodes.length)), fun G => os (G.g 2 0) rv17] (fun G => xC [0] QuG (Qvq g.Nodes ga0 gk0 rv17 hg18)) (Dv [1] (Vfa Qhj 0) (Dv [1] (QaV Qiq 0) ?_))
 refine QaK (Qf5 g.Pred) fun rv20 hg21 => ?_
 refine Dx [4] [] [2, 0, 1] (fun G => (G.g 5 0)) [fun G => SP.fact ((rv20.length = g.Pred.length)), fun G => sl (G.g 5 0) rv20] (fun G => xC [0] QtY (QtX g.Pred ga2 gk2 rv20 hg21)) (Dv [1] (Vfa Qfw 0) (Dv [1] (QaV Qiq 0) ?_))
 refine QaK (Qf5 g.Succ) fun rv23 hg24 => Dx [3] [] [2, 0, 1] (fun G => (G.g 8 0)) [fun G => SP.fact ((rv23.length = g.Succ.length)), fun G => sl (G.g 8 0) rv23] (fun G => xC [0] QtY (QtX g.Succ ga1 gk1 rv23 hg24)) ?_
 refine Dx [6, 8, 10] [] [0, 0, 1] (fun G => .agg #[(G.g 2 0), (G.g 5 0), (G.g 8 0)]) [] (fun G => xV (v := .agg #[(G.g 2 0), (G.g 5 0), (G.g 8 0)]) (Vo 0 rfl (QkV _ _) fun aq25 kq26 eq27 => (by rw [eq27]; exact Vo 1 rfl (Qm1 _ _) fun aq28 kq29 eq30 => (by rw [eq30]; exact Vo 2 rfl (Qm1 _ _) fun aq31 kq32 eq33 => (by rw [eq33]; exact Vbd QqB [.slice aq25 ((rv17 : List QaH).length) kq26, .slice aq28 ((rv20 : List (List Int)).length) kq29, .slice aq31 ((rv23 : List (List Int)).length) kq32]))))) (Dx0 [0, 6, 8, 10] [0] [1, 1, 2, 0] [fun G => Cl p5 [(G.g 2 0), (G.g 5 0), (G.g 8 0)]] (fun G => x1 1 rfl Qfd fun ho34 => (x1 2 rfl QlX fun ho35 => (x1 3 rfl QlX fun ho36 => (xS (Scl [0] QiO [(G.g 2 0), (G.g 5 0), (G.g 8 0)] (v := .agg #[(G.g 2 0), (G.g 5 0), (G.g 8 0)]) (h1 := show [(G.g 2 0), (G.g 5 0), (G.g 8 0)].all (·.oneCell') = true from (by simp only [List.all_cons, List.all_nil, ho34, ho35, ho36, Bool.and_true, Bool.true_and] <;> rfl))))))) (Dv [] Va ?_))
 refine Dn ⟨by kernel_rfl, fun G => ?_⟩
 refine Jw2 [(2, p5), (3, vi 0)] [1, 2, 3, 4] [SP.fact ((rv17.length = g.Nodes.length)), os (G.g 2 0) rv17, SP.fact ((rv20.length = g.Pred.length)), sl (G.g 5 0) rv20, SP.fact ((rv23.length = g.Succ.length)), sl (G.g 8 0) rv23, Cl p5 [(G.g 2 0), (G.g 5 0), (G.g 8 0)]] ?_
 generalize G.g 2 0 = c16, G.g 5 0 = c19, G.g 8 0 = c22
 refine Jf 4 rfl ?_; rintro he37
 refine Jf 6 rfl ?_; rintro he38
 refine Jf 8 rfl ?_; rintro he39
 refine Jk [0, 1, 2, 3, 5, 6, 8, 9] ?_
 refine Jo 4 ?_; rintro a40 k41 rfl
 refine Fb 32 4 fun _ => ?_
 refine Jo 5 ?_; rintro a43 k44 rfl
 refine Fb 24 5 fun _ => ?_
 refine Jo 6 ?_; rintro a46 k47 rfl
 refine Fb 24 6 fun _ => ?_
 refine Jl [4] (Ent.freeze _ _) ?_
 have hq := q4 hrr ((QaP.mk rv17 rv20 rv23), 0) (by simp only [Qe5, h9, h14, hg7, hg18, hg21, hg24, cs4]); subst hq
 exact Kr (vl a40 k41 rv17, vl a43 k44 rv20, vl a46 k47 rv23) rfl (.cellN 7 rfl QiO rfl (QaB _ _) rfl (.tmp rfl .nil)) [0, 5, 6] en
theorem QuY (s : List Int) (sa0 : Option Addr) (sk0 : Nat) (fF : FuncId) (fC : List Value) (fp : Int -> Bool) (fA : List SP) (hfc : Qam Tryz.prog fF = true) (hfF : ∀ x ∈ s, Qac x -> FT Tryz.prog fF ([(vi x : Value)] ++ fC).toArray ([] ++ [Qhf fA]) (fun _ : Unit => True) (fun _ => .bool (fp x)) (fun _ => [])) (rr : Int) (hrr : QcL s fp = rr) : FT Tryz.prog 59 #[vl sa0 sk0 s, .func (.func fF) #[] fC.toArray] [S sa0 sk0 s, Qhf fA] (fun g : Unit => Qac rr) (fun g => vi rr) (fun g => []) := by
 refine FTi Tryz.func59 fun w0 M0 F0 => Fb 8 0 fun _ => Fo 0 fun ho2 => ?_
 refine KS ?_
 refine Oq Va (KS ?_)
 refine Oq Vm (Oq (Qcn Qbo) (Oq Vm (KS ?_)))
 refine Kl (γ := Nat × Int) (fun (r3, Qds) => ⟨[(0, vl sa0 sk0 s), (1, .func (.func fF) #[] fC.toArray), (7, vi (s.length : Int)), (8, vi Qds)], [S sa0 sk0 s, Qhf fA], QbI s fp r3 Qds = QbI s fp (((s.length : Int) - 0).toNat) 0 /\ r3 = ((s.length : Int) - Qds).toNat /\ (0 : Int) <= Qds /\ Qds <= (s.length : Int) /\ (-9223372036854775808 <= Qds /\ Qds <= 9223372036854775807), r3⟩) (((s.length : Int) - 0).toNat, 0) [0, 1] ⟨rfl, rfl, aM1, aM1, aM1⟩ ?_
 rintro ⟨r3, Qds⟩ ⟨hM5, hr6, hi7, hi8, hk9⟩
 refine Qbt fun _ _ hL hA => ?_; dsimp only at hL hA; subst hL hA
 refine Fb 8 0 fun _ => Fo 0 fun ho11 => KS ?_
 refine Oq Qcg (KS ?_)
 refine Kc ?_ ?_
 ·intro h12
  have g13 := dt h12
  obtain ⟨r14, rfl⟩ := scc (n := r3) aM1
  refine KS ?_
  refine Oq Vm (Oq Va (KS ?_))
  refine Oq Vm (Oq Vm (Oq Vm (Oq (Vi Qbo 0) ?_)))
  have hb15 := ok1 (i := Qds.toNat) ho11 rng
  refine Oq (Qc7 sh3 0) ?_
  refine Qd0 [1] rfl rfl rfl (OpC.clo («as» := [(vi (s.getD Qds.toNat 0) : Value)] ++ fC) rfl rfl hfc rfl (by simp)) (hfF (s.getD Qds.toNat 0) (Qcw rng)  pre) rfl fun _ _ => ?_
  refine KS ?_
  refine Kc ?_ ?_
  ·intro h16
   refine KS ?_
   refine Oq Vm (Oq Va (KS ?_))
   have hR18 := q2 hM5 (.ret Qds) (by simp only [QbI, h12, h16, cs4])
   have hq := q4 hrr Qds (by simp only [QcL, h12, h16, hR18, cs4]); subst hq
   exact Kr () rfl (.tmp rfl .nil) [] en
  intro h16
  refine KS ?_
  refine Oq Qbb (Oq Vm (KS ?_))
  exact Kg (r14, (Qds + 1)) [0, 1] ⟨(q3 hM5 (by simp only [QbI, h12, h16, cs4])), aM1, aM1, aM1, aM1⟩
 intro h12
 have g20 := df h12
 obtain rfl : r3 = 0 := by omega
 refine Ke ?_
 have hR21 := q2 hM5 (.brk ()) (by simp only [QbI, h12, cs4])
 refine KS ?_
 refine Oq Va (KS ?_)
 have hq := q4 hrr (-1) (by simp only [QcL, h12, hR21, cs4]); subst hq
 exact Kr () rfl (.tmp rfl .nil) [] en
theorem QuJ (s : List Int) (sa0 : Option Addr) (sk0 : Nat) (fF : FuncId) (fC : List Value) (fp : Int -> Bool) (fA : List SP) (hfc : Qam Tryz.prog fF = true) (hfF : ∀ x ∈ s, Qac x -> FT Tryz.prog fF ([(vi x : Value)] ++ fC).toArray ([] ++ [Qhf fA]) (fun _ : Unit => True) (fun _ => .bool (fp x)) (fun _ => [])) (rr : Bool) (hrr : Qby s fp = rr) : FT Tryz.prog 37 #[vl sa0 sk0 s, .func (.func fF) #[] fC.toArray] [S sa0 sk0 s, Qhf fA] (fun g : Unit => True) (fun g => vb rr) (fun g => []) := by
 refine FTi Tryz.func37 fun w0 M0 F0 => Fb 8 0 fun _ => Fo 0 fun ho2 => ?_
 refine KS ?_
 refine Oq Va (KS ?_)
 refine Oq Vm (Oq Vm ?_)
 refine QaK (QcL s fp) fun rv3 hg4 => ?_
 have hc5 := QuY s sa0 sk0 fF fC fp fA hfc hfF rv3 hg4
 refine Oc [0, 1] QvK hc5 ?_
 rintro - he6
 unfold Qac at he6
 refine Oq QeI (Oq Va (KS ?_))
 have hq := q4 hrr (decide (0 <= rv3)) (by simp only [Qby, hg4, cs4]); subst hq
 exact Kr () rfl (.tmp rfl .nil) [] trivial
theorem Qu8 (n : Int) (cap0P : Value) (cap0 : QaP) (cap0a0 : Option Addr) (cap0k0 : Nat) (cap0a1 : Option Addr) (cap0k1 : Nat) (cap0a2 : Option Addr) (cap0k2 : Nat) (QkY : Qac n) (rr : Bool) (hrr : QdE n cap0 = rr) : FT Tryz.prog 38 #[vi n, cap0P] [pv cap0P [vl cap0a0 cap0k0 cap0.Nodes, vl cap0a1 cap0k1 cap0.Succ, vl cap0a2 cap0k2 cap0.Pred], S cap0a0 cap0k0 cap0.Nodes, S cap0a1 cap0k1 cap0.Succ, S cap0a2 cap0k2 cap0.Pred] (fun g : Unit => True) (fun g => vb rr) (fun g => []) := by
 refine FTi Tryz.func38 fun w0 M0 F0 => ?_
 unfold Qac at QkY
 refine Fb 32 1 fun _ => Fb 24 2 fun _ => Fb 24 3 fun _ => KS ?_
 refine Oq Va (KS ?_)
 refine Oq Vm (Oq Qcg (Oq Vm ?_))
 refine Js 6 ?_ ?_
 ·intro h4
  have g5 := dt h4
  refine Osk (Osk (Osk (Osk (Osk (Oq Vpt (Oq Va (KS ?_)))))))
  have hq := q4 hrr true (by simp only [QdE, h4, cs4]); subst hq
  exact Kr () rfl (.tmp rfl .nil) [] trivial
 intro h4
 have g6 := df h4
 refine Oq Vm (Oq (Vfa QjF 0) (Oq (QaV Qqq 0) (Oq (Qcn Qh0) (Oq QeI (Oq Vpf (Oq Va (KS ?_)))))))
 have hq := q4 hrr (decide ((cap0.Nodes.length : Int) <= n)) (by simp only [QdE, h4, cs4]); subst hq
 exact Kr () rfl (.tmp rfl .nil) [] trivial
theorem QvF (s : List Int) (sa0 : Option Addr) (sk0 : Nat) (rr : List Int) (hrr : Qea s = rr) : FT Tryz.prog 39 #[vl sa0 sk0 s] [S sa0 sk0 s] (fun g : Value => (rr.length = s.length)) (fun g => g) (fun g => [os g rr]) := by
 have hm : Qea s = s := rfl
 rw [hm] at hrr
 subst hrr
 refine FTi Tryz.func39 fun w0 M0 F0 => ?_
 refine KS ?_
 refine Oq Va ?_
 refine KS ?_
 refine Oq Vm ?_
 refine Oq (Qs2 Qvo) ?_
 refine KS ?_
 refine Kc ?_ ?_
 ·intro h
  refine Qsv 0 h ?_
  intro h0
  subst h0
  refine KS ?_
  refine Oq Va ?_
  refine KS ?_
  refine Jl [] (Ent.osNil (α := Int)) ?_
  exact Kr (.slice none 0 0) rfl (.tmp rfl .nil) [0] rfl
 ·intro _
  refine KS ?_
  refine Oa (As0 Qbo) fun c1 => ?_
  refine Jo 0 ?_; rintro a2 k3 rfl
  refine Oq Vm ?_
  refine Fb 8 1 fun hl => ?_
  refine Jl [0] (Ent.crNil (α := Int) _) ?_
  refine Oa (Ap0 [0, 0] Qbo Qbo Qjp) fun c4 => ?_
  refine Oq Va ?_
  refine KS ?_
  exact Kr c4 rfl (.tmp rfl .nil) [0] rfl
theorem QuP (s : List Int) (sa0 : Option Addr) (sk0 : Nat) (rr : List Int) (hrr : Qey s = rr) : FT Tryz.prog 41 #[vl sa0 sk0 s] [S sa0 sk0 s] (fun g : Value => (rr.length = s.length)) (fun g => g) (fun g => [sl g rr]) := by
 refine FTi Tryz.func41 fun w0 M0 F0 => Fb 8 0 fun _ => Fo 0 fun ho2 => ?_
 refine KS ?_
 refine Oq Va (KS ?_)
 refine Oq Vm (Oq Vm (Oq (Qcn Qbo) (Oq Vm (Oq (Qcn Qbo) (Oa (OpA.frame [0] rfl (OpA.sliceSl3 0 ((s.length : Int).toNat) ((s.length : Int).toNat) rfl rfl Qbo rfl rfl ⟨_, Qqp rfl aM1⟩ ⟨_, Qqp rfl aM1⟩ rng rng rng rng)) fun c3 => ?_)))))
 refine Jo 0 ?_; rintro a4 k5 rfl
 refine Fb 8 0 fun _ => Fo 0 fun ho7 => ?_
 have hn8 : ((s.take ((s.length : Int).toNat)).drop 0).length = ((s.length : Int).toNat) - 0 := Qgi rng rng
 refine Oq Va (KS ?_)
 have hq := q4 hrr ((s.take ((s.length : Int).toNat)).drop 0) (by simp only [Qey, cs4]); subst hq
 exact Kr (.slice a4 (((s.take ((s.length : Int).toNat)).drop 0).length) k5) rfl (.tmp rfl .nil) [0] (by rw [<- hrr]; unfold Qey; simp)
theorem QtM (g : QaP) (ga0 : Option Addr) (gk0 : Nat) (ga1 : Option Addr) (gk1 : Nat) (ga2 : Option Addr) (gk2 : Nat) (from_ : List Int) (from_a0 : Option Addr) (from_k0 : Nat) (hfl : from_.length <= 1000000) (rr : List Int) (hrr : QdB g from_ = rr) : FT Tryz.prog 17 #[.agg #[vl ga0 gk0 g.Nodes, vl ga1 gk1 g.Succ, vl ga2 gk2 g.Pred], vl from_a0 from_k0 from_] [S ga0 gk0 g.Nodes, S ga1 gk1 g.Succ, S ga2 gk2 g.Pred, S from_a0 from_k0 from_] (fun g : Value => (rr.length <= 65535)) (fun g => g) (fun g => [sl g rr]) := by
 refine FTi Tryz.func17 fun w0 M0 F0 => Fb 32 0 fun _ => Fb 24 1 fun _ => Fb 24 2 fun _ => Fb 8 3 fun _ => Fo 3 fun ho5 => ?_
 refine KS ?_
 refine Oa (Ab [vl ga0 gk0 g.Nodes, vl ga1 gk1 g.Succ, vl ga2 gk2 g.Pred]) fun p6 => Oq Va (KS ?_)
 refine Oq (QcR QiO 0) ?_
 refine QaK (Qck g) fun rv7 hg8 => ?_
 have hc9 := Qs6 g ga0 gk0 ga1 gk1 ga2 gk2 rv7 hg8
 refine Oc [1, 2, 3] Qtt hc9 ?_
 rintro - -
 refine Oq QeT (Oq Vm ?_)
 refine Js 12 ?_ ?_
 ·intro h10
  have h12 := not_true h10
  try have hrf := QmS (by assumption) h12
  refine Osk (Osk (Osk (Oq Vpt (KS ?_))))
  refine Kt (KS ?_)
  refine Oq Va (KS ?_)
  refine Jl [] (Ent.slNil (α := Int)) ?_
  have hq := q4 hrr ([] : List Int) (by simp only [QdB, h10, h12, hg8, cs4]); subst hq
  exact Kr (.slice none 0 0) rfl (.tmp rfl .nil) [0] (by first | (have hrl := Qnz hgv (by assumption); omega) | omega | simp)
 intro h10
 have h15 := not_false h10
 have hgv := Qpb (by assumption) h10
 have hn1 := hgv.n1
 have hsl := hgv.sl
 refine Oq Vm (Oq (Vf [p6]) ?_)
 refine Qfe (Ent.pall [0, 1, 2, 3] rfl rfl) ?_
 refine QaK (Qby from_ (fun x => QdE x g)) fun rv17 hg18 => ?_
 have hc19 := QuJ from_ from_a0 from_k0 38 [p6] (fun x => QdE x g) [pv p6 [vl ga0 gk0 g.Nodes, vl ga1 gk1 g.Succ, vl ga2 gk2 g.Pred], S ga0 gk0 g.Nodes, S ga1 gk1 g.Succ, S ga2 gk2 g.Pred] Qu0 (fun x hx hq0 => Qex (A1 := _) (Qu8 x  p6 g ga0 gk0 ga1 gk1 ga2 gk2 hq0 _ rfl)) rv17 hg18
 refine Oc [5, 0] QvM hc19 ?_
 rintro - -
 refine Oq Vpf (KS ?_)
 refine Kc ?_ ?_
 ·intro h20
  refine KS ?_
  refine Oq Va (KS ?_)
  refine Jl [] (Ent.slNil (α := Int)) ?_
  have hq := q4 hrr ([] : List Int) (by simp only [QdB, h10, h15, h20, hg8, hg18, cs4]); subst hq
  exact Kr (.slice none 0 0) rfl (.tmp rfl .nil) [0] (by first | (have hrl := Qnz hgv (by assumption); omega) | omega | simp)
 intro h20
 try have hrf := QmS (by assumption) h20
 refine KS ?_
 refine Oq (Vfa QjF 1) (Oq (QaV Qqq 1) (Oq (Qcn Qh0) (Oa (Amk (α := Bool) QtN QvD false (fun _ _ => rfl)) fun c23 => ?_)))
 refine Jo 0 ?_; rintro a24 k25 rfl
 refine Fb 1 0 fun _ => ?_
 have hn27 := List.length_replicate (n := (g.Nodes.length : Int).toNat) (a := (false : Bool))
 refine Oq Va (KS ?_)
 refine Oq Vm ?_
 refine QaK (Qea from_) fun rv29 hg30 => ?_
 have hc31 := QvF from_ from_a0 from_k0 rv29 hg30
 refine Oc [6] Qvv hc31 ?_
 rintro c28 he32
 refine Jo 0 ?_; rintro a33 k34 rfl
 refine Fb 8 0 fun _ => Fo 0 fun ho36 => ?_
 refine Oq Va (KS ?_)
 refine Oq Va (KS ?_)
 refine Jl [] (Ent.osNil (α := Int)) ?_
 have hterm47 : Qcr g (from_.length + (g.Succ.map List.length).sum + 1) (List.replicate (g.Nodes.length : Int).toNat false) rv29 [] ≠ LR.oof := (QnP hgv (by assumption) hrf)
 refine Kl (γ := Nat × List Bool × List Int × List Int × Option Addr × Nat × Option Addr × Nat) (fun (r37, Qil, QbX, Qg6, a41, k42, a43, k44) => ⟨[(2, p6), (5, vl a24 k25 (List.replicate (g.Nodes.length : Int).toNat false)), (6, vl a41 k42 QbX), (7, vl a43 k44 Qg6)], [O a43 k44 Qg6, O a41 k42 QbX, os (vl a24 k25 (List.replicate (g.Nodes.length : Int).toNat false)) Qil, Qhf [pv p6 [vl ga0 gk0 g.Nodes, vl ga1 gk1 g.Succ, vl ga2 gk2 g.Pred], S ga0 gk0 g.Nodes, S ga1 gk1 g.Succ, S ga2 gk2 g.Pred], pv p6 [vl ga0 gk0 g.Nodes, vl ga1 gk1 g.Succ, vl ga2 gk2 g.Pred], S ga0 gk0 g.Nodes, S ga1 gk1 g.Succ, S ga2 gk2 g.Pred], Qcr g r37 Qil QbX Qg6 = Qcr g (from_.length + (g.Succ.map List.length).sum + 1) (List.replicate (g.Nodes.length : Int).toNat false) rv29 [] /\ RI g from_ Qil QbX Qg6, r37⟩) ((from_.length + (g.Succ.map List.length).sum + 1), (List.replicate (g.Nodes.length : Int).toNat false), rv29, [], a33, k34, none, 0) [0, 0, 0, 0, 1, 2, 3, 4] ⟨rfl, (Qpu hgv (by assumption) hrf)⟩ ?_
 rintro ⟨r37, Qil, QbX, Qg6, a41, k42, a43, k44⟩ ⟨hM45, hv46⟩
 refine Qbt fun _ _ hL hA => ?_; dsimp only at hL hA; subst hL hA
 refine Fb 8 0 fun _ => Fo 0 fun ho49 => Fb 8 1 fun _ => Fo 1 fun ho51 => Fb 1 2 fun _ => Fl 2 fun hn53 => ?_
 refine Fb 32 5 fun _ => Fb 24 6 fun _ => Fb 24 7 fun _ => ?_
 rcases r37 with _ | r37
 ·exact absurd (hM45.symm.trans rfl) hterm47
 refine KS ?_
 refine Oq Vm (Oq (Qcn Qbo) (Oq Qih (KS ?_)))
 refine Kc ?_ ?_
 ·intro h57
  have g58 := dt h57
  have hrt := QmE (td := QbX) hgv (by assumption) aM1
  refine KS ?_
  refine Oq Vm (Oq Vm (Oq (Qcn Qbo) (Oq Qdf (Oq (Vi Qbo 1) ?_))))
  have hb59 := ok1 (i := (((QbX.length : Int) - 1) : Int).toNat) ho51 rng
  refine Oq (Qc7 sh3 1) (Oq Va (KS ?_))
  refine Oq Vm (Oq Vm (Oq (Qcn Qbo) (Oq Qdf (Oa (QuF [1] Qbo 0 ((((QbX.length : Int) - 1) : Int).toNat)) fun c60 => ?_))))
  refine Jo 0 ?_; rintro a61 k62 rfl
  refine Fb 8 0 fun _ => Fo 0 fun ho64 => ?_
  have hn65 : ((QbX.take ((((QbX.length : Int) - 1) : Int).toNat)).drop 0).length = ((((QbX.length : Int) - 1) : Int).toNat) - 0 := Qgi rng rng
  refine Oq Va (KS ?_)
  refine Oq Vm (Oq Vm (Oq (Vi QtN 2) (Oq (Quw sh4 2) (Oq QeT (KS ?_)))))
  refine Kc ?_ ?_
  ·intro h66
   have h68 := not_true h66
   refine KS ?_
   refine Oq Vm (Oq Vm (Oq (Vi QtN 2) (Ost (SoB [2] sh4) (KS ?_))))
   refine Oq Vm (Oq Vm (Oa (AsV Qbo Qjp [vi (QbX.getD (((QbX.length : Int) - 1) : Int).toNat 0)] [vi (QbX.getD (((QbX.length : Int) - 1) : Int).toNat 0)]) fun c70 => ?_))
   refine Jo 0 ?_; rintro a71 k72 rfl
   refine Jl [0] (Ent.crInt _ [(QbX.getD (((QbX.length : Int) - 1) : Int).toNat 0)] _ _ rfl rfl (by intro x hx; rw [List.mem_singleton] at hx; subst hx; unfold Qac; omega) aB1) ?_
   refine Oa (ApO [3, 0] Qbo Qbo Qjp) fun c73 => ?_
   refine Jo 0 ?_; rintro a74 k75 rfl
   refine Fb 8 0 fun _ => Fo 0 fun ho77 => ?_
   have hn78 := la Qg6 ([(QbX.getD (((QbX.length : Int) - 1) : Int).toNat 0)] : List Int)
   refine Oq Va (KS ?_)
   refine Oq Vm (Oq (Vfa Qfw 4) (Oq (QaV Qiq 4) (Oq Vm (Oq (Vi Qg8 6) ?_))))
   refine QfB ((QbX.getD (((QbX.length : Int) - 1) : Int).toNat 0) : Int).toNat 6 rfl rng fun a79 k80 => ?_
   refine Fb 8 1 fun _ => Fo 1 fun ho82 => ?_
   refine Oq (Vld Qjr 0) (Oa (Ap [4, 1] Qbo Qbo Qjp) fun c83 => ?_)
   refine Jo 0 ?_; rintro a84 k85 rfl
   refine Fb 8 0 fun _ => Fo 0 fun ho87 => ?_
   have hn88 := la ((QbX.take ((((QbX.length : Int) - 1) : Int).toNat)).drop 0) ((g.Succ.getD ((QbX.getD (((QbX.length : Int) - 1) : Int).toNat 0) : Int).toNat []) : List Int)
   refine Oq Va (KS ?_)
   exact Kg (r37, (Qil.set ((QbX.getD (((QbX.length : Int) - 1) : Int).toNat 0) : Int).toNat true), (((QbX.take ((((QbX.length : Int) - 1) : Int).toNat)).drop 0) ++ (g.Succ.getD ((QbX.getD (((QbX.length : Int) - 1) : Int).toNat 0) : Int).toNat [])), (Qg6 ++ [(QbX.getD (((QbX.length : Int) - 1) : Int).toNat 0)]), a84, k85, a74, k75) [3, 0, 2, 2, 3, 4, 5, 6] ⟨(q3 hM45 (by simp only [Qcr, h10, h15, h20, h57, h66, h68, hg8, hg18, hg30, cs4])), (by first | exact RI.push hgv (by assumption) aM1 aM1 (not_true (by assumption)) | exact RI.pop (by assumption))⟩
  intro h66
  have h90 := not_false h66
  refine KS ?_
  exact Kg (r37, Qil, ((QbX.take ((((QbX.length : Int) - 1) : Int).toNat)).drop 0), Qg6, a61, k62, a43, k44) [1, 0, 0, 0, 1, 2, 3, 4] ⟨(q3 hM45 (by simp only [Qcr, h10, h15, h20, h57, h66, h90, hg8, hg18, hg30, cs4])), (by first | exact RI.push hgv (by assumption) aM1 aM1 (not_true (by assumption)) | exact RI.pop (by assumption))⟩
 intro h57
 have g92 := df h57
 refine Ke ?_
 have hR93 := q2 hM45 (.brk Qg6) (by simp only [Qcr, h10, h15, h20, h57, hg8, hg18, hg30, cs4])
 refine KS ?_
 refine Oq Vm ?_
 refine QaK (Qce Qg6) fun rv94 hg95 => ?_
 have hc96 := QsL Qg6 a43 k44 (Qnz hgv (by assumption)) rv94 hg95
 refine Oc [0] Qsw hc96 ?_
 rintro - he97
 refine Fb 8 0 fun _ => Fo 0 fun ho99 => KS ?_
 refine Oq Vm ?_
 refine Fl 0 fun hn100 => ?_; (try unfold vl); rw [<- hn100]
 refine Jl [0] (Ent.freeze _ _) ?_
 refine QaK (Qey rv94) fun rv102 hg103 => ?_
 have hc104 := QuP rv94 a43 k44 rv102 hg103
 refine Oc [0] QvL hc104 ?_
 rintro c101 he105
 refine Jo 0 ?_; rintro a106 k107 rfl
 refine Fb 8 0 fun _ => Fo 0 fun ho109 => ?_
 refine Oq Va (KS ?_)
 have hq := q4 hrr rv102 (by simp only [QdB, h10, h15, h20, h57, hg8, hg18, hg30, hR93, hg95, hg103, cs4]); subst hq
 exact Kr (vl a106 k107 rv102) rfl (.tmp rfl .nil) [0] (by first | (have hrl := Qnz hgv (by assumption); omega) | omega | simp)
theorem Qtp (l : List Int) (la0 : Option Addr) (lk0 : Nat) (n : Int) (QkY : Qac n) (rr : Bool) (hrr : Qf6 l n = rr) : FT Tryz.prog 19 #[vl la0 lk0 l, vi n] [S la0 lk0 l] (fun g : Unit => True) (fun g => vb rr) (fun g => []) := by
 refine FTi Tryz.func19 fun w0 M0 F0 => ?_
 unfold Qac at QkY
 refine Fb 8 0 fun _ => Fo 0 fun ho2 => KS ?_
 refine Oq Va (KS ?_)
 refine Oq Va (KS ?_)
 refine Kl (γ := Nat × Int) (fun (r3, i_4) => ⟨[(0, vl la0 lk0 l), (1, vi n), (5, vi i_4)], [S la0 lk0 l], Qfb l n r3 i_4 = Qfb l n (((l.length : Int) - 0).toNat) 0 /\ r3 = ((l.length : Int) - i_4).toNat /\ (0 : Int) <= i_4 /\ i_4 <= (l.length : Int) /\ (-9223372036854775808 <= i_4 /\ i_4 <= 9223372036854775807), r3⟩) (((l.length : Int) - 0).toNat, 0) [0] ⟨rfl, rfl, aM1, aM1, aM1⟩ ?_
 rintro ⟨r3, i_4⟩ ⟨hM5, hr6, hi7, hi8, hk9⟩
 refine Qbt fun _ _ hL hA => ?_; dsimp only at hL hA; subst hL hA
 refine Fb 8 0 fun _ => Fo 0 fun ho11 => KS ?_
 refine Oq Vm (Oq Vm (Oq (Qcn Qbo) (Oq Qcg (KS ?_))))
 refine Kc ?_ ?_
 ·intro h12
  have g13 := dt h12
  obtain ⟨r14, rfl⟩ := scc (n := r3) aM1
  refine KS ?_
  refine Oq Vm (Oq Vm (Oq (Vi Qbo 0) ?_))
  have hb15 := ok1 (i := i_4.toNat) ho11 rng
  refine Oq (Qc7 sh3 0) (Oq Vm (Oq QbB (KS ?_)))
  refine Kc ?_ ?_
  ·intro h16
   have g17 := eq_of_beq h16
   refine KS ?_
   refine Oq Va (KS ?_)
   have hR18 := q2 hM5 (.ret true) (by simp only [Qfb, h12, h16, cs4])
   have hq := q4 hrr true (by simp only [Qf6, h12, h16, hR18, cs4]); subst hq
   exact Kr () rfl (.tmp rfl .nil) [] trivial
  intro h16
  have g19 := ne_of_beq_false h16
  refine KS ?_
  refine Oq Vm (Oq Qbb (Oq Va (KS ?_)))
  exact Kg (r14, (i_4 + 1)) [0] ⟨(q3 hM5 (by simp only [Qfb, h12, h16, cs4])), aM1, aM1, aM1, aM1⟩
 intro h12
 have g20 := df h12
 obtain rfl : r3 = 0 := by omega
 refine Ke ?_
 have hR21 := q2 hM5 (.brk ()) (by simp only [Qfb, h12, cs4])
 refine KS ?_
 refine Oq Va (KS ?_)
 have hq := q4 hrr false (by simp only [Qf6, h12, hR21, cs4]); subst hq
 exact Kr () rfl (.tmp rfl .nil) [] trivial
theorem fn6 (l : List Int) (la0 : Option Addr) (lk0 : Nat) (rr : Unit) (hrr : QnO l = rr) : FT Tryz.prog 6 #[vl la0 lk0 l] [S la0 lk0 l] (fun g : Value => True) (fun g => g) (fun g => [Cl g [vl la0 lk0 l, vi 0]]) := by
 refine FTi Tryz.func6 fun w0 M0 F0 => Fb 8 0 fun _ => Fo 0 fun ho2 => ?_
 refine KS ?_
 refine Oq Va (KS ?_)
 refine Oq Vm (Oq (Vbd QuB [vl la0 lk0 l, vi 0]) (Oa (AbO [vl la0 lk0 l, vi 0]) fun p3 => Oq Va (KS ?_)))
 have hq := q4 hrr () (by simp only [QnO, cs4]); subst hq
 exact Kr p3 rfl (.tmp rfl .nil) [0] trivial
theorem fn5 (t : List Int) (ta0 : Option Addr) (tk0 : Nat) (kwLA : Option Addr) (kwLK : Nat) (rr : Bool) (hrr : Qdp t = rr) : FT Tryz.prog 5 #[vl ta0 tk0 t] [S ta0 tk0 t, pv (gp 0) [vl kwLA kwLK kwL], S kwLA kwLK kwL] (fun g : Unit => True) (fun g => vb rr) (fun g => []) := by
 refine FTi Tryz.func5 fun w0 M0 F0 => Fb 8 0 fun _ => Fo 0 fun ho2 => Fb 16 2 fun _ => ?_
 refine FoS 2 fun ho4 => ?_
 refine KS ?_
 refine Oq Va (KS ?_)
 refine Oq Vm ?_
 refine QaK (QnO t) fun rv6 hg7 => ?_
 have hc8 := fn6 t ta0 tk0 rv6 hg7
 refine Oc [0] ca6 hc8 ?_
 rintro c5 -
 refine Oq Va (KS ?_)
 refine Oq Vm ?_
 refine QaK (Qeo t 0 8) fun rv12 hg13 => ?_
 have hc14 := QuZ c5 ta0 tk0 t 0 8 pre pre pre rv12 hg13
 refine Oc [0, 0] QuQ hc14 ?_
 rintro ⟨c9, c10, c11⟩ ⟨he15, he16, he17, he18⟩
 refine Jo 0 ?_; rintro a19 k20 rfl
 refine Fb 32 0 fun _ => ?_
 refine Jo 1 ?_; rintro a22 k23 rfl
 refine Fb 24 1 fun _ => ?_
 refine Jo 2 ?_; rintro a25 k26 rfl
 refine Fb 24 2 fun _ => ?_
 refine Oa (Al QpA [.slice none 0 0, .slice none 0 0, .slice none 0 0]) fun p28 => Ost (Scl [0] QiO [vl a19 k20 rv12.1.Nodes, vl a22 k23 rv12.1.Succ, vl a25 k26 rv12.1.Pred]) (KS ?_)
 refine Oq (QcR QiO 0) ?_
 refine QaK (Qe5 rv12.1) fun rv32 hg33 => ?_
 have hc34 := Qvb rv12.1 a19 k20 a22 k23 a25 k26 rv32 hg33
 refine Oc [1, 2, 3] Qu2 hc34 ?_
 rintro ⟨c29, c30, c31⟩ he35
 unfold Qac at he35
 refine Jo 0 ?_; rintro a36 k37 rfl
 refine Fb 32 0 fun _ => ?_
 refine Jo 1 ?_; rintro a39 k40 rfl
 refine Fb 24 1 fun _ => ?_
 refine Jo 2 ?_; rintro a42 k43 rfl
 refine Fb 24 2 fun _ => ?_
 refine Oq Vm (Oq Vx (Oq Vx (Oa (Al QpA [.slice none 0 0, .slice none 0 0, .slice none 0 0]) fun p45 => Ost (Scl [0] QiO [vl a36 k37 rv32.1.Nodes, vl a39 k40 rv32.1.Succ, vl a42 k43 rv32.1.Pred]) (Oq Va (KS ?_)))))
 refine Jp 4 fun hp46 => ?_
 refine Qat [0, 0, 2, 6, 15, 0, 0, 64, 192, 511, 1023, 2047] Qcz ?_
 refine Dv [] Vm (Dv [0] (Vfa QjF 0) (Dv [5] (QaV Qqq 0) (Dv [] (Qcn Qh0) ?_)))
 refine QaK (Qbu t rv12.2 (rv12.1.Nodes.length : Int)) fun rv47 hg48 => ?_
 refine Dx [9, 10] [9] [2, 0, 1] (fun G => vi rv47.1) [fun G => SP.fact (Qac rv47.1 /\ (0 <= rv47.2 /\ rv47.2 <= (t.length : Int)) /\ (0 <= rv47.1 /\ (rv47.1 < (rv12.1.Nodes.length : Int) \/ rv47.1 = 0))), fun G => Cl c5 [vl ta0 tk0 t, vi rv47.2]] (fun G => xC [0, 0] Qqj (Qqr c5 ta0 tk0 t rv12.2 ((rv12.1.Nodes.length : Int)) pre pre rv47 hg48)) (Dv [] Vm (Dv [0] (Vfa QjF 0) (Dv [5] (QaV Qqq 0) (Dv [] (Qcn Qh0) ?_))))
 refine QaK (Qbu t rv47.2 (rv12.1.Nodes.length : Int)) fun rv49 hg50 => ?_
 refine Dx [10, 13, 14] [14] [2, 3, 0, 1] (fun G => vi rv49.1) [fun G => SP.fact (Qac rv49.1 /\ (0 <= rv49.2 /\ rv49.2 <= (t.length : Int)) /\ (0 <= rv49.1 /\ (rv49.1 < (rv12.1.Nodes.length : Int) \/ rv49.1 = 0))), fun G => Cl c5 [vl ta0 tk0 t, vi rv49.2]] (fun G => by refine xf 1 rfl ?_; rintro ⟨he51, he52, he53⟩; unfold Qac at he51; exact xC [2, 0] Qqj (Qqr c5 ta0 tk0 t rv47.2 ((rv12.1.Nodes.length : Int)) pre pre rv49 hg50)) (Dv [] Va (Dv [] Va ?_))
 refine Dn ⟨by kernel_rfl, fun G => ?_⟩
 refine Jw2 [(4, p28), (5, p45), (6, vi rv32.2), (7, vi rv47.1), (8, vi rv49.1)] [0, 1, 2, 3, 4, 5, 6, 7, 8, 10, 11, 12] [SP.fact (Qac rv47.1 /\ (0 <= rv47.2 /\ rv47.2 <= (t.length : Int)) /\ (0 <= rv47.1 /\ (rv47.1 < (rv12.1.Nodes.length : Int) \/ rv47.1 = 0))), SP.fact (Qac rv49.1 /\ (0 <= rv49.2 /\ rv49.2 <= (t.length : Int)) /\ (0 <= rv49.1 /\ (rv49.1 < (rv12.1.Nodes.length : Int) \/ rv49.1 = 0))), Cl c5 [vl ta0 tk0 t, vi rv49.2]] ?_
 refine Jf 12 rfl ?_; rintro ⟨he54, he55, he56⟩
 unfold Qac at he54
 refine Jf 13 rfl ?_; rintro ⟨he57, he58, he59⟩
 unfold Qac at he57
 refine Jk [1, 1, 2, 3, 4, 4, 5, 6, 7, 8, 9, 12] ?_
 refine KS ?_
 refine Oq (QcR QiO 4) (Oq Vm (Oa (AsV Qbo Qjp [vi rv47.1] [vi rv47.1]) fun c60 => ?_))
 refine Jo 0 ?_; rintro a61 k62 rfl
 refine Jl [0] (Ent.crInt _ [rv47.1] _ _ rfl rfl (by intro x hx; rw [List.mem_singleton] at hx; subst hx; unfold Qac; omega) aB1) ?_
 refine Jl [0] (Ent.freeze _ _) ?_
 refine QaK (QdB rv12.1 [rv47.1]) fun rv64 hg65 => ?_
 have hc66 := QtM rv12.1 a19 k20 a22 k23 a25 k26 ([rv47.1]) a61 k62 pre rv64 hg65
 refine Oc [6, 7, 8, 0] Qtr hc66 ?_
 rintro c63 he67
 refine Jo 0 ?_; rintro a68 k69 rfl
 refine Fb 8 0 fun _ => Fo 0 fun ho71 => ?_
 refine Oq Va (KS ?_)
 refine Qat [0, 1, 3, 7, 7, 31, 7, 127, 255, 511, 1023, 1023, 4095, 8191, 16383, 32767, 32767, 131071, 32767, 32767, 557055, 2097151, 32767, 8388607, 16777215, 33554431, 67108863, 134217727, 268435455, 536870911] Qcz ?_
 refine Dv [] Vm (Dv [] QbB ?_)
 refine Qbl (rv32.2 == 0) ?_ ?_
 ·intro h72
  have g73 := eq_of_beq h72
  refine Db h72 [] Vm (Dv [6] (QcR QiO 0) (Dv [] Vm ?_))
  refine QaK (QdB rv12.1 rv64) fun rv75 hg76 => ?_
  refine Dx [0, 7, 8, 9] [] [2, 3, 4, 5, 0, 1] (fun G => (G.g 5 0)) [fun G => SP.fact ((rv75.length <= 65535)), fun G => sl (G.g 5 0) rv75] (fun G => xC [1, 2, 3, 0] Qtr (QtM rv12.1 a19 k20 a22 k23 a25 k26 rv64 a68 k69 pre rv75 hg76)) (Dv [] Vm ?_)
  refine QaK (QeR rv75 rv64) fun rv80 hg81 => ?_
  refine Dx [0, 15] [] [1, 2, 0] (fun G => vb rv80) [fun G => SP.fact (True)] (fun G => xD [1, 0] Qsf rfl rfl rfl (Qk8 (γ := Unit) (I := fun g => True) (V := fun g => vb rv80) (B := fun g => []) (R := sl (G.g 5 0) rv75) QiM (fun aq77 kq78 eq79 => by rw [eq79]; exact QhU (Ent.take (is := [0, 1]) rfl) (Qsc rv75 aq77 kq78 rv64 a68 k69 rv80 hg81)))) (Dv [] Vpt ?_)
  refine Qbl rv80 ?_ ?_
  ·intro h82
   refine Db h82 [] Vm (Dv [] Vm (Dv [] Vm ?_))
   refine QaK (Qf6 rv64 rv47.1) fun rv84 hg85 => ?_
   refine Dx [0] [] [1, 0] (fun G => vb rv84) [fun G => SP.fact (True)] (fun G => xC [0] Qth (Qtp rv64 a68 k69 rv47.1 pre rv84 hg85)) (Dv [] Vpt ?_)
   refine Qbl rv84 ?_ ?_
   ·intro h86
    refine Db h86 [] Vm (Dv [] Vm (Dv [] Vm ?_))
    refine QaK (Qf6 rv64 rv49.1) fun rv88 hg89 => ?_
    refine Dx [0] [] [1, 0] (fun G => vb rv88) [fun G => SP.fact (True)] (fun G => xC [0] Qth (Qtp rv64 a68 k69 rv49.1 pre rv88 hg89)) (Dv [2] (QcR QiO 0) (Dv [] Vm (Dx [] [] [0] (fun G => (G.g 20 0)) [fun G => Cr (G.g 20 0) 1 [vi rv49.1]] (fun G => xA (AsV Qbo Qjp [vi rv49.1] [vi rv49.1])) ?_)))
    refine QaK (QdB rv32.1 [rv49.1]) fun rv95 hg96 => ?_
    refine Dx [3, 4, 5, 19] [19] [3, 4, 5, 2, 0, 1] (fun G => (G.g 21 0)) [fun G => sl (G.g 20 0) ([rv49.1] : List Int), fun G => SP.fact ((rv95.length <= 65535)), fun G => sl (G.g 21 0) rv95] (fun G => xp [3] rfl (Ent.crInt _ [rv49.1] _ _ rfl rfl (by intro x hx; rw [List.mem_singleton] at hx; subst hx; unfold Qac; omega) aB1) (xp [0] rfl (Ent.freeze _ _) (xD [0, 1, 2, 3] Qtr rfl rfl rfl (Qk8 (γ := Value) (I := fun g => (rv95.length <= 65535)) (V := fun g => g) (B := fun g => [sl g rv95]) (R := sl (G.g 20 0) ([rv49.1] : List Int)) QiM (fun aq91 kq92 eq93 => by rw [eq93]; exact QhU (Ent.take (is := [1, 2, 3, 0]) rfl) (QtM rv32.1 a36 k37 a39 k40 a42 k43 ([rv49.1]) aq91 kq92 pre rv95 hg96)))))) (Dv [] Vm ?_)
    refine QaK (Qf6 rv95 rv47.1) fun rv100 hg101 => ?_
    refine Dx [21, 22] [] [1, 2, 0] (fun G => vb rv100) [fun G => SP.fact (True)] (fun G => by refine xf 0 rfl ?_; rintro he102; exact xD [1] Qth rfl rfl rfl (Qk8 (γ := Unit) (I := fun g => True) (V := fun g => vb rv100) (B := fun g => []) (R := sl (G.g 21 0) rv95) QiM (fun aq97 kq98 eq99 => by rw [eq99]; exact QhU (Ent.take (is := [0]) rfl) (Qtp rv95 aq97 kq98 rv47.1 pre rv100 hg101)))) (Dv [] (Veb un4) (Dv [] Vpt ?_))
    refine Qbl (rv88 == rv100) ?_ ?_
    ·intro h103
     refine Db h103 [] Vm (Dx [11, 12] [] [1, 2, 0] (fun G => vb QeL) [fun G => SP.fact (True)] (fun G => xC [0, 1] QuR (Quy kwLA kwLK QeL rfl)) (Dv [] Vpt (Dv [] Va ?_)))
     refine Dn ⟨by kernel_rfl, fun G => ?_⟩
     refine Jw2 [(2, vb QeL)] [0, 1, 2, 3, 4, 5, 6, 7, 8, 9, 10, 11, 12, 13] [SP.fact ((rv75.length <= 65535)), sl (G.g 5 0) rv75, SP.fact (True), SP.fact (True), SP.fact (True), sl (G.g 20 0) ([rv49.1] : List Int), SP.fact ((rv95.length <= 65535)), sl (G.g 21 0) rv95, SP.fact (True), SP.fact (True)] ?_
     generalize G.g 5 0 = c74, G.g 20 0 = c90, G.g 21 0 = c94
     refine Jf 14 rfl ?_; rintro he105
     refine Jf 20 rfl ?_; rintro he106
     refine Jk [0, 1, 2, 2, 3, 4, 5, 5, 6, 7, 8, 9, 10, 11, 12, 16, 18] ?_
     refine Jo 14 ?_; rintro a107 k108 rfl
     refine Fb 8 14 fun _ => Fo 14 fun ho110 => ?_
     refine Jo 15 ?_; rintro a111 k112 rfl
     refine Fb 8 15 fun _ => Fo 15 fun ho114 => ?_
     refine Jo 16 ?_; rintro a115 k116 rfl
     refine Fb 8 16 fun _ => Fo 16 fun ho118 => ?_
     have hq := q4 hrr QeL (by simp only [Qdp, h72, h82, h86, h103, hg7, hg13, hg33, hg48, hg50, hg65, hg76, hg81, hg85, hg89, hg96, hg101, cs4]); subst hq
     exact Kr () rfl (.tmp rfl .nil) [] trivial
    intro h103
    refine Db h103 [] Vm (Ds (Dv [] Vpf (Dv [] Va ?_)))
    refine Dn ⟨by kernel_rfl, fun G => ?_⟩
    refine Jw2 [(2, vb false)] [0, 1, 2, 3, 4, 5, 6, 7, 8, 9, 10, 11, 12, 13] [SP.fact ((rv75.length <= 65535)), sl (G.g 5 0) rv75, SP.fact (True), SP.fact (True), SP.fact (True), sl (G.g 20 0) ([rv49.1] : List Int), SP.fact ((rv95.length <= 65535)), sl (G.g 21 0) rv95, SP.fact (True)] ?_
    generalize G.g 5 0 = c74, G.g 20 0 = c90, G.g 21 0 = c94
    refine Jf 14 rfl ?_; rintro he120
    refine Jf 20 rfl ?_; rintro he121
    refine Jk [0, 1, 2, 2, 3, 4, 5, 5, 6, 7, 8, 9, 10, 11, 12, 16, 18] ?_
    refine Jo 14 ?_; rintro a122 k123 rfl
    refine Fb 8 14 fun _ => Fo 14 fun ho125 => ?_
    refine Jo 15 ?_; rintro a126 k127 rfl
    refine Fb 8 15 fun _ => Fo 15 fun ho129 => ?_
    refine Jo 16 ?_; rintro a130 k131 rfl
    refine Fb 8 16 fun _ => Fo 16 fun ho133 => ?_
    have hq := q4 hrr false (by simp only [Qdp, h72, h82, h86, h103, hg7, hg13, hg33, hg48, hg50, hg65, hg76, hg81, hg85, hg89, hg96, hg101, cs4]); subst hq
    exact Kr () rfl (.tmp rfl .nil) [] trivial
   intro h86
   refine Db h86 [] Vm (Ds (Ds (Ds (Ds (Ds (Ds (Ds (Ds (Ds ?_)))))))))
   refine Ds (Dv [] Vpf (Dv [] Vm (Ds (Dv [] Vpf (Dv [] Va ?_)))))
   refine Dn ⟨by kernel_rfl, fun G => ?_⟩
   refine Jw2 [(2, vb false)] [0, 1, 2, 3, 4, 5, 6, 7, 8, 9, 10, 11, 12, 13] [SP.fact ((rv75.length <= 65535)), sl (G.g 5 0) rv75, SP.fact (True), SP.fact (True)] ?_
   generalize G.g 5 0 = c74
   refine Jf 14 rfl ?_; rintro he135
   refine Jk [0, 1, 2, 2, 3, 4, 5, 5, 6, 7, 8, 9, 10, 11, 12] ?_
   refine Jo 14 ?_; rintro a136 k137 rfl
   refine Fb 8 14 fun _ => Fo 14 fun ho139 => ?_
   have hq := q4 hrr false (by simp only [Qdp, h72, h82, h86, hg7, hg13, hg33, hg48, hg50, hg65, hg76, hg81, hg85, cs4]); subst hq
   exact Kr () rfl (.tmp rfl .nil) [] trivial
  intro h82
  refine Db h82 [] Vm (Ds (Ds (Ds (Dv [] Vpf (Dv [] Vm (Ds (Ds (Ds (Ds ?_)))))))))
  refine Ds (Ds (Ds (Ds (Ds (Ds (Dv [] Vpf (Dv [] Vm (Ds (Dv [] Vpf ?_)))))))))
  refine Dv [] Va ?_
  refine Dn ⟨by kernel_rfl, fun G => ?_⟩
  refine Jw2 [(2, vb false)] [0, 1, 2, 3, 4, 5, 6, 7, 8, 9, 10, 11, 12, 13] [SP.fact ((rv75.length <= 65535)), sl (G.g 5 0) rv75, SP.fact (True)] ?_
  generalize G.g 5 0 = c74
  refine Jf 14 rfl ?_; rintro he141
  refine Jk [0, 1, 2, 2, 3, 4, 5, 5, 6, 7, 8, 9, 10, 11, 12] ?_
  refine Jo 14 ?_; rintro a142 k143 rfl
  refine Fb 8 14 fun _ => Fo 14 fun ho145 => ?_
  have hq := q4 hrr false (by simp only [Qdp, h72, h82, hg7, hg13, hg33, hg48, hg50, hg65, hg76, hg81, cs4]); subst hq
  exact Kr () rfl (.tmp rfl .nil) [] trivial
 intro h72
 have g146 := ne_of_beq_false h72
 refine Db h72 [] Vm (Ds (Ds (Ds (Ds (Ds (Dv [] Vpf (Dv [] Vm (Ds (Ds ?_)))))))))
 refine Ds (Dv [] Vpf (Dv [] Vm (Ds (Ds (Ds (Ds (Ds (Ds (Ds ?_)))))))))
 refine Ds (Ds (Ds (Dv [] Vpf (Dv [] Vm (Ds (Dv [] Vpf (Dv [] Va ?_)))))))
 refine Dn ⟨by kernel_rfl, fun G => ?_⟩
 refine Jw2 [(2, vb false)] [0, 1, 2, 3, 4, 5, 6, 7, 8, 9, 10, 11, 12, 13] [] ?_
 have hq := q4 hrr false (by simp only [Qdp, h72, hg7, hg13, hg33, hg48, hg50, hg65, cs4]); subst hq
 exact Kr () rfl (.tmp rfl .nil) [] trivial
end Go.SL.G
