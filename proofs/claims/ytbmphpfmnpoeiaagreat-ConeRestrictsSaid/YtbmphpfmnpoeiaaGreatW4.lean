/- Part 4 of the walks: mirrors, plain laws and walks used by the last text of this claim. -/
import Derived.Test.YtbmphpfmnpoeiaaGreatW3
import Derived.Test.YtbmphpfmnpoeiaaGreatProg
set_option linter.unusedVariables false
set_option linter.unusedSimpArgs false
namespace Go.SL.G
open Go Go.SL Go.Proofs
set_option maxHeartbeats 20000000
set_option maxRecDepth 100000
theorem fn71F (rc : List Int → Int → Int → Int → List Int) (ms : Nat) (data : List Int) (dataa0 : Option Addr) (datak0 : Nat) (a : Int) (b : Int) (limit : Int) (hms : (b - a).toNat = ms) (hrp : ∀ (d : List Int) (a b lim : Int), 0 ≤ a → a ≤ b → b ≤ (d.length : Int) → d.length ≤ 65535 → (b - a).toNat < ms → (rc d a b lim).length = d.length) (hrc : ∀ (data : List Int) (dataa0 : Option Addr) (datak0 : Nat) (a : Int) (b : Int) (limit : Int) (ha_0 : i64ok a) (hb_0 : i64ok b) (hlimit_0 : i64ok limit) (ha0 : 0 ≤ a ∧ a ≤ b ∧ b ≤ (data.length : Int) ∧ data.length ≤ 65535) (hl0 : 0 ≤ limit ∧ limit ≤ 1000) (hfu : (b - a).toNat < ms) (rr : List Int) (hrr : rc data a b limit = rr), FT Tryz.prog 71 #[vl dataa0 datak0 data, vi a, vi b, vi limit] [O dataa0 datak0 data] (fun g : Unit => (rr.length = data.length)) (fun g => .tuple #[]) (fun g => [os (vl dataa0 datak0 data) rr])) (ha_0 : i64ok a) (hb_0 : i64ok b) (hlimit_0 : i64ok limit) (ha0 : 0 ≤ a ∧ a ≤ b ∧ b ≤ (data.length : Int) ∧ data.length ≤ 65535) (hl0 : 0 ≤ limit ∧ limit ≤ 1000) (rr : List Int) (hrr : sc_pdqsortOrdered_int_F rc data a b limit = rr) : FT Tryz.prog 71 #[vl dataa0 datak0 data, vi a, vi b, vi limit] [O dataa0 datak0 data] (fun g : Unit => (rr.length = data.length)) (fun g => .tuple #[]) (fun g => [os (vl dataa0 datak0 data) rr]) := by
 refine FTi Tryz.func71 fun w0 M0 F0 => ?_
 unfold i64ok at ha_0 hb_0 hlimit_0
 refine Fb 8 0 fun _ => Fo 0 fun ho2 => KS ?_
 refine Oq Va (KS ?_)
 refine Oq Va (KS ?_)
 have hterm15 : sc_pdqsortOrdered_int_F_L0 rc ((b - a).toNat + 1) data a b limit true true ≠ LR.oof := (pdl_t hrp aM1 aM1 aM1 aM1 aM1 aM1 aM1)
 refine Kl (γ := Nat × List Int × Int × Int × Int × Bool × Bool) (fun (r3, data_4, a_5, b_6, limit_7, wasBalanced_8, wasPartitioned_9) => ⟨[(0, vl dataa0 datak0 data), (1, vi a_5), (2, vi b_6), (3, vi limit_7), (8, vb wasBalanced_8), (9, vb wasPartitioned_9)], [os (vl dataa0 datak0 data) data_4], sc_pdqsortOrdered_int_F_L0 rc r3 data_4 a_5 b_6 limit_7 wasBalanced_8 wasPartitioned_9 = sc_pdqsortOrdered_int_F_L0 rc ((b - a).toNat + 1) data a b limit true true ∧ (-9223372036854775808 ≤ a_5 ∧ a_5 ≤ 9223372036854775807) ∧ (-9223372036854775808 ≤ b_6 ∧ b_6 ≤ 9223372036854775807) ∧ (-9223372036854775808 ≤ limit_7 ∧ limit_7 ≤ 9223372036854775807) ∧ (a ≤ a_5 ∧ a_5 ≤ b_6 ∧ b_6 ≤ b ∧ 0 ≤ limit_7 ∧ limit_7 ≤ 1000), r3⟩) (((b - a).toNat + 1), data, a, b, limit, true, true) [0] ⟨rfl, aM1, aM1, aM1, iv0⟩ ?_
 rintro ⟨r3, data_4, a_5, b_6, limit_7, wasBalanced_8, wasPartitioned_9⟩ ⟨hM10, hk11, hk12, hk13, hv14⟩
 refine JJ_nx fun _ _ hL hA => ?_; dsimp only at hL hA; subst hL hA
 refine Fb 8 0 fun _ => Fo 0 fun ho17 => Fl 0 fun hn18 => ?_
 rcases r3 with _ | r3
 ·exact absurd (hM10.symm.trans rfl) hterm15
 refine KS ?_
 refine Oq Vm (Oq Vm (Oq Vsub (Oq Va (KS ?_))))
 refine Oq Vm (Oq Vleq (KS ?_))
 refine Kc ?_ ?_
 ·intro h19
  have g20 := dt h19
  refine KS ?_
  refine Oq Vm (Oq Vm (Oq Vm ?_))
  refine Fl 0 fun hn21 => ?_; (try unfold vl); rw [← hn21]
  refine letv (sc_insertionSortOrdered_int data_4 a_5 b_6) fun rv22 hg23 => ?_
  have hc24 := fn83 data_4 dataa0 datak0 a_5 b_6 pre pre pre rv22 hg23
  refine Oc [0] ca83 hc24 ?_
  rintro - he25
  have hn26 : data_4.length = data.length := by omega
  try unfold vl
  try rw [hn26]
  refine Fb 8 0 fun _ => Fo 0 fun ho28 => KS ?_
  refine Fl 0 fun hn29 => ?_
  have hR30 := q2 hM10 (.ret rv22) (by simp only [sc_pdqsortOrdered_int_F_L0, h19, hg23, cs4])
  have hq := q4 hrr rv22 (by simp only [sc_pdqsortOrdered_int_F, h19, hg23, hR30, cs4]); subst hq
  exact Kr () rfl .nil [0] en
 intro h19
 have g31 := df h19
 refine KS ?_
 refine Oq Vm (Oq Veql (KS ?_))
 refine Kc ?_ ?_
 ·intro h32
  have g33 := eq_of_beq h32
  refine KS ?_
  refine Oq Vm (Oq Vm (Oq Vm ?_))
  refine Fl 0 fun hn34 => ?_; (try unfold vl); rw [← hn34]
  refine letv (sc_heapSortOrdered_int data_4 a_5 b_6) fun rv35 hg36 => ?_
  have hc37 := fn84 data_4 dataa0 datak0 a_5 b_6 pre pre pre rv35 hg36
  refine Oc [0] ca84 hc37 ?_
  rintro - he38
  have hn39 : data_4.length = data.length := by omega
  try unfold vl
  try rw [hn39]
  refine Fb 8 0 fun _ => Fo 0 fun ho41 => KS ?_
  refine Fl 0 fun hn42 => ?_
  have hR43 := q2 hM10 (.ret rv35) (by simp only [sc_pdqsortOrdered_int_F_L0, h19, h32, hg36, cs4])
  have hq := q4 hrr rv35 (by simp only [sc_pdqsortOrdered_int_F, h19, h32, hg36, hR43, cs4]); subst hq
  exact Kr () rfl .nil [0] en
 intro h32
 have g44 := ne_of_beq_false h32
 refine KS ?_
 refine Oq Vm (Oq Vnot (KS ?_))
 refine Kc ?_ ?_
 ·intro h45
  have h47 := not_true h45
  refine KS ?_
  refine Oq Vm (Oq Vm (Oq Vm ?_))
  refine Fl 0 fun hn49 => ?_; (try unfold vl); rw [← hn49]
  refine letv (sc_breakPatternsOrdered_int data_4 a_5 b_6) fun rv50 hg51 => ?_
  have hc52 := fn85 data_4 dataa0 datak0 a_5 b_6 pre pre pre rv50 hg51
  refine Oc [0] ca85 hc52 ?_
  rintro - he53
  have hn54 : data_4.length = data.length := by omega
  try unfold vl
  try rw [hn54]
  refine Fb 8 0 fun _ => Fo 0 fun ho56 => KS ?_
  refine Oq Vm (Oq Vsub (Oq Va (KS ?_)))
  refine Oq Vm (Oq Vm (Oq Vm ?_))
  refine Fl 0 fun hn57 => ?_; (try unfold vl); rw [← hn57]
  refine letv (sc_choosePivotOrdered_int rv50 a_5 b_6) fun rv58 hg59 => ?_
  refine Oc [0] ca86 (FT_borrow (A := _) (fun _ _ h => by cases h) (FT_ent (Ent.take (is := [0]) rfl) (fn86 rv50 dataa0 datak0 a_5 b_6 pre pre pre rv58 hg59))) ?_ (ht := rfl)
  rintro - ⟨he60, he61, he62⟩
  unfold i64ok at he60 he61
  have hn63 : rv50.length = data.length := by omega
  try unfold vl
  try rw [hn63]
  refine Oq Vm (Oq Vx (Oq Vx (Oq Va (Oq Va (KS ?_)))))
  refine Oq Vm (Oq Veql (KS ?_))
  refine Kc ?_ ?_
  ·intro h64
   have g65 := eq_of_beq h64
   refine KS ?_
   refine Oq Vm (Oq Vm (Oq Vm ?_))
   refine Fl 0 fun hn66 => ?_; (try unfold vl); rw [← hn66]
   refine letv (sc_reverseRangeOrdered_int rv50 a_5 b_6) fun rv67 hg68 => ?_
   have hc69 := fn87 rv50 dataa0 datak0 a_5 b_6 pre pre pre rv67 hg68
   refine Oc [0] ca87 hc69 ?_
   rintro - he70
   have hn71 : rv50.length = data.length := by omega
   try unfold vl
   try rw [hn71]
   refine Fb 8 0 fun _ => Fo 0 fun ho73 => KS ?_
   refine Oq Vm (Oq Vsub (Oq Vm (Oq Vm (Oq Vsub (Oq Vsub (Oq Va (KS ?_)))))))
   refine Oq Va (KS ?_)
   refine Oq Vm (Oq Vm ?_)
   refine Js 62 ?_ ?_
   ·intro h74
    exact absurd h74 (by first | (simp [h45]; done) | (simp only [bne, h45]; decide) | (simp only [bne, h45, Bool.not_true, Bool.not_false]; decide) | (exfalso; omega) | (intro hq; simp only [bne, hq, Bool.not_false, Bool.not_true, reduceCtorEq] at h45))
   intro h74
   refine Osk (Oq Vpf (Oq Vm (Osk (Osk (Oq Vpf (KS ?_))))))
   refine Kf (KS ?_)
   refine JK_drawK [0, 1, 3, 7, 7, 23, 63, 127, 7, 7, 775, 1799, 4095, 8191, 16383] fmix ?_
   refine Dv [] Vm (Dv [] Vgtr ?_)
   refine bool_split (decide (0 < a_5)) ?_ ?_
   ·intro h76
    have g77 := dt h76
    refine Db h76 [] Vm (Dv [] Vm (Dv [] Vm (Dv [] Vsub (Dv [0] (Vi sl22 0) ?_))))
    have hb78 := ok1 (i := ((a_5 - 1) : Int).toNat) ho73 rng
    refine Dv [0] (VldI sh3 0) (Dv [] Vm (Dv [] Vm (Dv [0] (Vi sl22 0) ?_)))
    have hb79 := ok1 (i := (((b_6 - 1) - (rv58.1 - a_5)) : Int).toNat) ho73 rng
    refine Dv [0] (VldI sh3 0) ?_
    refine letv (cmp_Less_int (rv67.getD ((a_5 - 1) : Int).toNat 0) (rv67.getD (((b_6 - 1) - (rv58.1 - a_5)) : Int).toNat 0)) fun rv80 hg81 => ?_
    refine Dx [] [] [0] (fun G => vb rv80) [fun G => SP.fact (True)] (fun G => xC [] ca89 (fn89 ((rv67.getD ((a_5 - 1) : Int).toNat 0)) ((rv67.getD (((b_6 - 1) - (rv58.1 - a_5)) : Int).toNat 0)) pre pre rv80 hg81)) (Dv [] Vnot (Dv [] Vpt ?_))
    refine Dn ⟨by kernel_rfl, fun G => ?_⟩
    refine Jw2 [(0, vl dataa0 datak0 data), (1, vi a_5), (2, vi b_6), (8, vb wasBalanced_8), (9, vb wasPartitioned_9), (10, vi (b_6 - a_5)), (3, vi (limit_7 - 1)), (11, vi ((b_6 - 1) - (rv58.1 - a_5))), (87, vb (!rv80))] [0] [SP.fact (True)] ?_
    refine Jk [0] ?_
    refine Kc ?_ ?_
    ·intro h82
     have h84 := not_true h82
     refine KS ?_
     refine Oq Vm (Oq Vm (Oq Vm (Oq Vm ?_)))
     refine Fl 0 fun hn86 => ?_; (try unfold vl); rw [← hn86]
     refine letv (sc_partitionEqualOrdered_int rv67 a_5 b_6 ((b_6 - 1) - (rv58.1 - a_5))) fun rv87 hg88 => ?_
     have hc89 := fn90 rv67 dataa0 datak0 a_5 b_6 (((b_6 - 1) - (rv58.1 - a_5))) pre pre pre pre rv87 hg88
     refine Oc [0] ca90 hc89 ?_
     rintro - ⟨he90, he91, he92⟩
     unfold i64ok at he90
     have hn93 : rv67.length = data.length := by omega
     try unfold vl
     try rw [hn93]
     refine Fb 8 0 fun _ => Fo 0 fun ho95 => ?_
     refine Oq Va (KS ?_)
     refine Oq Vm (Oq Va (KS ?_))
     refine Ke ?_
     exact Kg (r3, rv87.2, rv87.1, b_6, (limit_7 - 1), wasBalanced_8, wasPartitioned_9) [0] ⟨(q3 hM10 (by simp only [sc_pdqsortOrdered_int_F_L0, h19, h32, h45, h47, h64, h74, h76, h82, h84, hg51, hg59, hg68, hg81, hg88, cs4])), aM1, aM1, aM1, iv1⟩
    intro h82
    have h97 := not_false h82
    refine KS ?_
    refine Oq Vm (Oq Vm (Oq Vm (Oq Vm ?_)))
    refine Fl 0 fun hn99 => ?_; (try unfold vl); rw [← hn99]
    refine letv (sc_partitionOrdered_int rv67 a_5 b_6 ((b_6 - 1) - (rv58.1 - a_5))) fun rv100 hg101 => ?_
    have hc102 := fn91 rv67 dataa0 datak0 a_5 b_6 (((b_6 - 1) - (rv58.1 - a_5))) pre pre pre pre rv100 hg101
    refine Oc [0] ca91 hc102 ?_
    rintro - ⟨he103, he104, he105⟩
    unfold i64ok at he103
    have hn106 : rv67.length = data.length := by omega
    try unfold vl
    try rw [hn106]
    refine Fb 8 0 fun _ => Fo 0 fun ho108 => ?_
    refine Oq Vm (Oq Vx (Oq Vx (Oq Va (Oq Va (KS ?_)))))
    refine Oq Vm (Oq Va (KS ?_))
    refine Oq Vm (Oq Vm (Oq Vsub (Oq Vm (Oq Vm (Oq Vsub (Oq Va (Oq Va (KS ?_))))))))
    refine Oq Vm (Oq Vquo (Oq Va (KS ?_)))
    refine Oq Vm (Oq Vm (Oq Vlss (KS ?_)))
    refine Kc ?_ ?_
    ·intro h109
     have g110 := dt h109
     refine KS ?_
     refine Oq Vm (Oq Vm (Oq Vgeq (Oq Va (KS ?_))))
     refine Oq Vm (Oq Vm (Oq Vm (Oq Vm ?_)))
     refine Fl 0 fun hn111 => ?_; (try unfold vl); rw [← hn111]
     refine letv (rc rv100.2.2 a_5 rv100.1 (limit_7 - 1)) fun rv112 hg113 => ?_
     have hc114 := hrc rv100.2.2 dataa0 datak0 a_5 rv100.1 ((limit_7 - 1)) pre pre pre pre pre pre rv112 hg113
     refine Oc [0] ca71 hc114 ?_
     rintro - he115
     have hn116 : rv100.2.2.length = data.length := by omega
     try unfold vl
     try rw [hn116]
     refine Fb 8 0 fun _ => Fo 0 fun ho118 => KS ?_
     refine Oq Vm (Oq Vadd (Oq Va (KS ?_)))
     exact Kg (r3, rv112, (rv100.1 + 1), b_6, (limit_7 - 1), decide (((b_6 - a_5) / 8) ≤ (rv100.1 - a_5)), rv100.2.1) [0] ⟨(q3 hM10 (by simp only [sc_pdqsortOrdered_int_F_L0, h19, h32, h45, h47, h64, h74, h76, h82, h97, h109, hg51, hg59, hg68, hg81, hg101, hg113, cs4])), aM1, aM1, aM1, iv1⟩
    intro h109
    have g119 := df h109
    refine KS ?_
    refine Oq Vm (Oq Vm (Oq Vgeq (Oq Va (KS ?_))))
    refine Oq Vm (Oq Vm (Oq Vadd (Oq Vm (Oq Vm ?_))))
    refine Fl 0 fun hn120 => ?_; (try unfold vl); rw [← hn120]
    refine letv (rc rv100.2.2 (rv100.1 + 1) b_6 (limit_7 - 1)) fun rv121 hg122 => ?_
    have hc123 := hrc rv100.2.2 dataa0 datak0 ((rv100.1 + 1)) b_6 ((limit_7 - 1)) pre pre pre pre pre pre rv121 hg122
    refine Oc [0] ca71 hc123 ?_
    rintro - he124
    have hn125 : rv100.2.2.length = data.length := by omega
    try unfold vl
    try rw [hn125]
    refine Fb 8 0 fun _ => Fo 0 fun ho127 => KS ?_
    refine Oq Vm (Oq Va (KS ?_))
    exact Kg (r3, rv121, a_5, rv100.1, (limit_7 - 1), decide (((b_6 - a_5) / 8) ≤ (b_6 - rv100.1)), rv100.2.1) [0] ⟨(q3 hM10 (by simp only [sc_pdqsortOrdered_int_F_L0, h19, h32, h45, h47, h64, h74, h76, h82, h97, h109, hg51, hg59, hg68, hg81, hg101, hg122, cs4])), aM1, aM1, aM1, iv1⟩
   intro h76
   have g128 := df h76
   refine Db h76 [] Vm (Ds (Ds (Ds (Ds (Ds (Ds (Ds (Ds (Ds ?_)))))))))
   refine Ds (Ds (Dv [] Vpf ?_))
   refine Dn ⟨by kernel_rfl, fun G => ?_⟩
   refine Jw2 [(0, vl dataa0 datak0 data), (1, vi a_5), (2, vi b_6), (8, vb wasBalanced_8), (9, vb wasPartitioned_9), (10, vi (b_6 - a_5)), (3, vi (limit_7 - 1)), (11, vi ((b_6 - 1) - (rv58.1 - a_5))), (87, vb false)] [0] [] ?_
   refine Kf (KS ?_)
   refine Oq Vm (Oq Vm (Oq Vm (Oq Vm ?_)))
   refine Fl 0 fun hn129 => ?_; (try unfold vl); rw [← hn129]
   refine letv (sc_partitionOrdered_int rv67 a_5 b_6 ((b_6 - 1) - (rv58.1 - a_5))) fun rv130 hg131 => ?_
   have hc132 := fn91 rv67 dataa0 datak0 a_5 b_6 (((b_6 - 1) - (rv58.1 - a_5))) pre pre pre pre rv130 hg131
   refine Oc [0] ca91 hc132 ?_
   rintro - ⟨he133, he134, he135⟩
   unfold i64ok at he133
   have hn136 : rv67.length = data.length := by omega
   try unfold vl
   try rw [hn136]
   refine Fb 8 0 fun _ => Fo 0 fun ho138 => ?_
   refine Oq Vm (Oq Vx (Oq Vx (Oq Va (Oq Va (KS ?_)))))
   refine Oq Vm (Oq Va (KS ?_))
   refine Oq Vm (Oq Vm (Oq Vsub (Oq Vm (Oq Vm (Oq Vsub (Oq Va (Oq Va (KS ?_))))))))
   refine Oq Vm (Oq Vquo (Oq Va (KS ?_)))
   refine Oq Vm (Oq Vm (Oq Vlss (KS ?_)))
   refine Kc ?_ ?_
   ·intro h139
    have g140 := dt h139
    refine KS ?_
    refine Oq Vm (Oq Vm (Oq Vgeq (Oq Va (KS ?_))))
    refine Oq Vm (Oq Vm (Oq Vm (Oq Vm ?_)))
    refine Fl 0 fun hn141 => ?_; (try unfold vl); rw [← hn141]
    refine letv (rc rv130.2.2 a_5 rv130.1 (limit_7 - 1)) fun rv142 hg143 => ?_
    have hc144 := hrc rv130.2.2 dataa0 datak0 a_5 rv130.1 ((limit_7 - 1)) pre pre pre pre pre pre rv142 hg143
    refine Oc [0] ca71 hc144 ?_
    rintro - he145
    have hn146 : rv130.2.2.length = data.length := by omega
    try unfold vl
    try rw [hn146]
    refine Fb 8 0 fun _ => Fo 0 fun ho148 => KS ?_
    refine Oq Vm (Oq Vadd (Oq Va (KS ?_)))
    exact Kg (r3, rv142, (rv130.1 + 1), b_6, (limit_7 - 1), decide (((b_6 - a_5) / 8) ≤ (rv130.1 - a_5)), rv130.2.1) [0] ⟨(q3 hM10 (by simp only [sc_pdqsortOrdered_int_F_L0, h19, h32, h45, h47, h64, h74, h76, h139, hg51, hg59, hg68, hg131, hg143, cs4])), aM1, aM1, aM1, iv1⟩
   intro h139
   have g149 := df h139
   refine KS ?_
   refine Oq Vm (Oq Vm (Oq Vgeq (Oq Va (KS ?_))))
   refine Oq Vm (Oq Vm (Oq Vadd (Oq Vm (Oq Vm ?_))))
   refine Fl 0 fun hn150 => ?_; (try unfold vl); rw [← hn150]
   refine letv (rc rv130.2.2 (rv130.1 + 1) b_6 (limit_7 - 1)) fun rv151 hg152 => ?_
   have hc153 := hrc rv130.2.2 dataa0 datak0 ((rv130.1 + 1)) b_6 ((limit_7 - 1)) pre pre pre pre pre pre rv151 hg152
   refine Oc [0] ca71 hc153 ?_
   rintro - he154
   have hn155 : rv130.2.2.length = data.length := by omega
   try unfold vl
   try rw [hn155]
   refine Fb 8 0 fun _ => Fo 0 fun ho157 => KS ?_
   refine Oq Vm (Oq Va (KS ?_))
   exact Kg (r3, rv151, a_5, rv130.1, (limit_7 - 1), decide (((b_6 - a_5) / 8) ≤ (b_6 - rv130.1)), rv130.2.1) [0] ⟨(q3 hM10 (by simp only [sc_pdqsortOrdered_int_F_L0, h19, h32, h45, h47, h64, h74, h76, h139, hg51, hg59, hg68, hg131, hg152, cs4])), aM1, aM1, aM1, iv1⟩
  intro h64
  have g158 := ne_of_beq_false h64
  refine KS ?_
  refine Oq Vm (Oq Vm ?_)
  refine Js 62 ?_ ?_
  ·intro h159
   exact absurd h159 (by first | (simp [h45]; done) | (simp only [bne, h45]; decide) | (simp only [bne, h45, Bool.not_true, Bool.not_false]; decide) | (exfalso; omega) | (intro hq; simp only [bne, hq, Bool.not_false, Bool.not_true, reduceCtorEq] at h45))
  intro h159
  refine Osk (Oq Vpf (Oq Vm (Osk (Osk (Oq Vpf (KS ?_))))))
  refine Kf (KS ?_)
  refine JK_drawK [0, 1, 3, 7, 7, 23, 63, 127, 7, 7, 775, 1799, 4095, 8191, 16383] fmix ?_
  refine Dv [] Vm (Dv [] Vgtr ?_)
  refine bool_split (decide (0 < a_5)) ?_ ?_
  ·intro h161
   have g162 := dt h161
   refine Db h161 [] Vm (Dv [] Vm (Dv [] Vm (Dv [] Vsub (Dv [0] (Vi sl22 0) ?_))))
   have hb163 := ok1 (i := ((a_5 - 1) : Int).toNat) ho56 rng
   refine Dv [0] (VldI sh3 0) (Dv [] Vm (Dv [] Vm (Dv [0] (Vi sl22 0) ?_)))
   have hb164 := ok1 (i := rv58.1.toNat) ho56 rng
   refine Dv [0] (VldI sh3 0) ?_
   refine letv (cmp_Less_int (rv50.getD ((a_5 - 1) : Int).toNat 0) (rv50.getD rv58.1.toNat 0)) fun rv165 hg166 => ?_
   refine Dx [] [] [0] (fun G => vb rv165) [fun G => SP.fact (True)] (fun G => xC [] ca89 (fn89 ((rv50.getD ((a_5 - 1) : Int).toNat 0)) ((rv50.getD rv58.1.toNat 0)) pre pre rv165 hg166)) (Dv [] Vnot (Dv [] Vpt ?_))
   refine Dn ⟨by kernel_rfl, fun G => ?_⟩
   refine Jw2 [(0, vl dataa0 datak0 data), (1, vi a_5), (2, vi b_6), (8, vb wasBalanced_8), (9, vb wasPartitioned_9), (10, vi (b_6 - a_5)), (3, vi (limit_7 - 1)), (11, vi rv58.1), (87, vb (!rv165))] [0] [SP.fact (True)] ?_
   refine Jk [0] ?_
   refine Kc ?_ ?_
   ·intro h167
    have h169 := not_true h167
    refine KS ?_
    refine Oq Vm (Oq Vm (Oq Vm (Oq Vm ?_)))
    refine Fl 0 fun hn171 => ?_; (try unfold vl); rw [← hn171]
    refine letv (sc_partitionEqualOrdered_int rv50 a_5 b_6 rv58.1) fun rv172 hg173 => ?_
    have hc174 := fn90 rv50 dataa0 datak0 a_5 b_6 rv58.1 pre pre pre pre rv172 hg173
    refine Oc [0] ca90 hc174 ?_
    rintro - ⟨he175, he176, he177⟩
    unfold i64ok at he175
    have hn178 : rv50.length = data.length := by omega
    try unfold vl
    try rw [hn178]
    refine Fb 8 0 fun _ => Fo 0 fun ho180 => ?_
    refine Oq Va (KS ?_)
    refine Oq Vm (Oq Va (KS ?_))
    refine Ke ?_
    exact Kg (r3, rv172.2, rv172.1, b_6, (limit_7 - 1), wasBalanced_8, wasPartitioned_9) [0] ⟨(q3 hM10 (by simp only [sc_pdqsortOrdered_int_F_L0, h19, h32, h45, h47, h64, h159, h161, h167, h169, hg51, hg59, hg166, hg173, cs4])), aM1, aM1, aM1, iv1⟩
   intro h167
   have h182 := not_false h167
   refine KS ?_
   refine Oq Vm (Oq Vm (Oq Vm (Oq Vm ?_)))
   refine Fl 0 fun hn184 => ?_; (try unfold vl); rw [← hn184]
   refine letv (sc_partitionOrdered_int rv50 a_5 b_6 rv58.1) fun rv185 hg186 => ?_
   have hc187 := fn91 rv50 dataa0 datak0 a_5 b_6 rv58.1 pre pre pre pre rv185 hg186
   refine Oc [0] ca91 hc187 ?_
   rintro - ⟨he188, he189, he190⟩
   unfold i64ok at he188
   have hn191 : rv50.length = data.length := by omega
   try unfold vl
   try rw [hn191]
   refine Fb 8 0 fun _ => Fo 0 fun ho193 => ?_
   refine Oq Vm (Oq Vx (Oq Vx (Oq Va (Oq Va (KS ?_)))))
   refine Oq Vm (Oq Va (KS ?_))
   refine Oq Vm (Oq Vm (Oq Vsub (Oq Vm (Oq Vm (Oq Vsub (Oq Va (Oq Va (KS ?_))))))))
   refine Oq Vm (Oq Vquo (Oq Va (KS ?_)))
   refine Oq Vm (Oq Vm (Oq Vlss (KS ?_)))
   refine Kc ?_ ?_
   ·intro h194
    have g195 := dt h194
    refine KS ?_
    refine Oq Vm (Oq Vm (Oq Vgeq (Oq Va (KS ?_))))
    refine Oq Vm (Oq Vm (Oq Vm (Oq Vm ?_)))
    refine Fl 0 fun hn196 => ?_; (try unfold vl); rw [← hn196]
    refine letv (rc rv185.2.2 a_5 rv185.1 (limit_7 - 1)) fun rv197 hg198 => ?_
    have hc199 := hrc rv185.2.2 dataa0 datak0 a_5 rv185.1 ((limit_7 - 1)) pre pre pre pre pre pre rv197 hg198
    refine Oc [0] ca71 hc199 ?_
    rintro - he200
    have hn201 : rv185.2.2.length = data.length := by omega
    try unfold vl
    try rw [hn201]
    refine Fb 8 0 fun _ => Fo 0 fun ho203 => KS ?_
    refine Oq Vm (Oq Vadd (Oq Va (KS ?_)))
    exact Kg (r3, rv197, (rv185.1 + 1), b_6, (limit_7 - 1), decide (((b_6 - a_5) / 8) ≤ (rv185.1 - a_5)), rv185.2.1) [0] ⟨(q3 hM10 (by simp only [sc_pdqsortOrdered_int_F_L0, h19, h32, h45, h47, h64, h159, h161, h167, h182, h194, hg51, hg59, hg166, hg186, hg198, cs4])), aM1, aM1, aM1, iv1⟩
   intro h194
   have g204 := df h194
   refine KS ?_
   refine Oq Vm (Oq Vm (Oq Vgeq (Oq Va (KS ?_))))
   refine Oq Vm (Oq Vm (Oq Vadd (Oq Vm (Oq Vm ?_))))
   refine Fl 0 fun hn205 => ?_; (try unfold vl); rw [← hn205]
   refine letv (rc rv185.2.2 (rv185.1 + 1) b_6 (limit_7 - 1)) fun rv206 hg207 => ?_
   have hc208 := hrc rv185.2.2 dataa0 datak0 ((rv185.1 + 1)) b_6 ((limit_7 - 1)) pre pre pre pre pre pre rv206 hg207
   refine Oc [0] ca71 hc208 ?_
   rintro - he209
   have hn210 : rv185.2.2.length = data.length := by omega
   try unfold vl
   try rw [hn210]
   refine Fb 8 0 fun _ => Fo 0 fun ho212 => KS ?_
   refine Oq Vm (Oq Va (KS ?_))
   exact Kg (r3, rv206, a_5, rv185.1, (limit_7 - 1), decide (((b_6 - a_5) / 8) ≤ (b_6 - rv185.1)), rv185.2.1) [0] ⟨(q3 hM10 (by simp only [sc_pdqsortOrdered_int_F_L0, h19, h32, h45, h47, h64, h159, h161, h167, h182, h194, hg51, hg59, hg166, hg186, hg207, cs4])), aM1, aM1, aM1, iv1⟩
  intro h161
  have g213 := df h161
  refine Db h161 [] Vm (Ds (Ds (Ds (Ds (Ds (Ds (Ds (Ds (Ds ?_)))))))))
  refine Ds (Ds (Dv [] Vpf ?_))
  refine Dn ⟨by kernel_rfl, fun G => ?_⟩
  refine Jw2 [(0, vl dataa0 datak0 data), (1, vi a_5), (2, vi b_6), (8, vb wasBalanced_8), (9, vb wasPartitioned_9), (10, vi (b_6 - a_5)), (3, vi (limit_7 - 1)), (11, vi rv58.1), (87, vb false)] [0] [] ?_
  refine Kf (KS ?_)
  refine Oq Vm (Oq Vm (Oq Vm (Oq Vm ?_)))
  refine Fl 0 fun hn214 => ?_; (try unfold vl); rw [← hn214]
  refine letv (sc_partitionOrdered_int rv50 a_5 b_6 rv58.1) fun rv215 hg216 => ?_
  have hc217 := fn91 rv50 dataa0 datak0 a_5 b_6 rv58.1 pre pre pre pre rv215 hg216
  refine Oc [0] ca91 hc217 ?_
  rintro - ⟨he218, he219, he220⟩
  unfold i64ok at he218
  have hn221 : rv50.length = data.length := by omega
  try unfold vl
  try rw [hn221]
  refine Fb 8 0 fun _ => Fo 0 fun ho223 => ?_
  refine Oq Vm (Oq Vx (Oq Vx (Oq Va (Oq Va (KS ?_)))))
  refine Oq Vm (Oq Va (KS ?_))
  refine Oq Vm (Oq Vm (Oq Vsub (Oq Vm (Oq Vm (Oq Vsub (Oq Va (Oq Va (KS ?_))))))))
  refine Oq Vm (Oq Vquo (Oq Va (KS ?_)))
  refine Oq Vm (Oq Vm (Oq Vlss (KS ?_)))
  refine Kc ?_ ?_
  ·intro h224
   have g225 := dt h224
   refine KS ?_
   refine Oq Vm (Oq Vm (Oq Vgeq (Oq Va (KS ?_))))
   refine Oq Vm (Oq Vm (Oq Vm (Oq Vm ?_)))
   refine Fl 0 fun hn226 => ?_; (try unfold vl); rw [← hn226]
   refine letv (rc rv215.2.2 a_5 rv215.1 (limit_7 - 1)) fun rv227 hg228 => ?_
   have hc229 := hrc rv215.2.2 dataa0 datak0 a_5 rv215.1 ((limit_7 - 1)) pre pre pre pre pre pre rv227 hg228
   refine Oc [0] ca71 hc229 ?_
   rintro - he230
   have hn231 : rv215.2.2.length = data.length := by omega
   try unfold vl
   try rw [hn231]
   refine Fb 8 0 fun _ => Fo 0 fun ho233 => KS ?_
   refine Oq Vm (Oq Vadd (Oq Va (KS ?_)))
   exact Kg (r3, rv227, (rv215.1 + 1), b_6, (limit_7 - 1), decide (((b_6 - a_5) / 8) ≤ (rv215.1 - a_5)), rv215.2.1) [0] ⟨(q3 hM10 (by simp only [sc_pdqsortOrdered_int_F_L0, h19, h32, h45, h47, h64, h159, h161, h224, hg51, hg59, hg216, hg228, cs4])), aM1, aM1, aM1, iv1⟩
  intro h224
  have g234 := df h224
  refine KS ?_
  refine Oq Vm (Oq Vm (Oq Vgeq (Oq Va (KS ?_))))
  refine Oq Vm (Oq Vm (Oq Vadd (Oq Vm (Oq Vm ?_))))
  refine Fl 0 fun hn235 => ?_; (try unfold vl); rw [← hn235]
  refine letv (rc rv215.2.2 (rv215.1 + 1) b_6 (limit_7 - 1)) fun rv236 hg237 => ?_
  have hc238 := hrc rv215.2.2 dataa0 datak0 ((rv215.1 + 1)) b_6 ((limit_7 - 1)) pre pre pre pre pre pre rv236 hg237
  refine Oc [0] ca71 hc238 ?_
  rintro - he239
  have hn240 : rv215.2.2.length = data.length := by omega
  try unfold vl
  try rw [hn240]
  refine Fb 8 0 fun _ => Fo 0 fun ho242 => KS ?_
  refine Oq Vm (Oq Va (KS ?_))
  exact Kg (r3, rv236, a_5, rv215.1, (limit_7 - 1), decide (((b_6 - a_5) / 8) ≤ (b_6 - rv215.1)), rv215.2.1) [0] ⟨(q3 hM10 (by simp only [sc_pdqsortOrdered_int_F_L0, h19, h32, h45, h47, h64, h159, h161, h224, hg51, hg59, hg216, hg237, cs4])), aM1, aM1, aM1, iv1⟩
 intro h45
 have h244 := not_false h45
 refine KS ?_
 refine Oq Vm (Oq Vm (Oq Vm ?_))
 refine Fl 0 fun hn246 => ?_; (try unfold vl); rw [← hn246]
 refine letv (sc_choosePivotOrdered_int data_4 a_5 b_6) fun rv247 hg248 => ?_
 refine Oc [0] ca86 (FT_borrow (A := _) (fun _ _ h => by cases h) (FT_ent (Ent.take (is := [0]) rfl) (fn86 data_4 dataa0 datak0 a_5 b_6 pre pre pre rv247 hg248))) ?_ (ht := rfl)
 rintro - ⟨he249, he250, he251⟩
 unfold i64ok at he249 he250
 have hn252 : data_4.length = data.length := by omega
 try unfold vl
 try rw [hn252]
 refine Oq Vm (Oq Vx (Oq Vx (Oq Va (Oq Va (KS ?_)))))
 refine Oq Vm (Oq Veql (KS ?_))
 refine Kc ?_ ?_
 ·intro h253
  have g254 := eq_of_beq h253
  refine KS ?_
  refine Oq Vm (Oq Vm (Oq Vm ?_))
  refine Fl 0 fun hn255 => ?_; (try unfold vl); rw [← hn255]
  refine letv (sc_reverseRangeOrdered_int data_4 a_5 b_6) fun rv256 hg257 => ?_
  have hc258 := fn87 data_4 dataa0 datak0 a_5 b_6 pre pre pre rv256 hg257
  refine Oc [0] ca87 hc258 ?_
  rintro - he259
  have hn260 : data_4.length = data.length := by omega
  try unfold vl
  try rw [hn260]
  refine Fb 8 0 fun _ => Fo 0 fun ho262 => KS ?_
  refine Oq Vm (Oq Vsub (Oq Vm (Oq Vm (Oq Vsub (Oq Vsub (Oq Va (KS ?_)))))))
  refine Oq Va (KS ?_)
  refine Oq Vm (Oq Vm ?_)
  refine Js 62 ?_ ?_
  ·intro h263
   refine Oq Vm (Oq Vpt (Oq Vm ?_))
   refine Js 65 ?_ ?_
   ·intro h265
    refine Oq Vm (Oq Veql (Oq Vpt (KS ?_)))
    refine Kt (KS ?_)
    refine Oq Vm (Oq Vm (Oq Vm ?_))
    refine Fl 0 fun hn267 => ?_; (try unfold vl); rw [← hn267]
    refine letv (sc_partialInsertionSortOrdered_int rv256 a_5 b_6) fun rv268 hg269 => ?_
    have hc270 := fn88 rv256 dataa0 datak0 a_5 b_6 pre pre pre rv268 hg269
    refine Oc [0] ca88 hc270 ?_
    rintro - he271
    have hn272 : rv256.length = data.length := by omega
    try unfold vl
    try rw [hn272]
    refine Fb 8 0 fun _ => Fo 0 fun ho274 => KS ?_
    refine Kc ?_ ?_
    ·intro h275
     refine Fl 0 fun hn277 => ?_
     have hR278 := q2 hM10 (.ret rv268.2) (by simp only [sc_pdqsortOrdered_int_F_L0, h19, h32, h45, h244, h253, h263, h265, h275, hg248, hg257, hg269, cs4])
     have hq := q4 hrr rv268.2 (by simp only [sc_pdqsortOrdered_int_F, h19, h32, h45, h244, h253, h263, h265, h275, hg248, hg257, hg269, hR278, cs4]); subst hq
     exact Kr () rfl .nil [0] en
    intro h275
    refine KS ?_
    refine JK_drawK [0, 1, 3, 7, 7, 23, 63, 127, 7, 7, 775, 1799, 4095, 8191, 16383] fmix ?_
    refine Dv [] Vm (Dv [] Vgtr ?_)
    refine bool_split (decide (0 < a_5)) ?_ ?_
    ·intro h280
     have g281 := dt h280
     refine Db h280 [] Vm (Dv [] Vm (Dv [] Vm (Dv [] Vsub (Dv [0] (Vi sl22 0) ?_))))
     have hb282 := ok1 (i := ((a_5 - 1) : Int).toNat) ho274 rng
     refine Dv [0] (VldI sh3 0) (Dv [] Vm (Dv [] Vm (Dv [0] (Vi sl22 0) ?_)))
     have hb283 := ok1 (i := (((b_6 - 1) - (rv247.1 - a_5)) : Int).toNat) ho274 rng
     refine Dv [0] (VldI sh3 0) ?_
     refine letv (cmp_Less_int (rv268.2.getD ((a_5 - 1) : Int).toNat 0) (rv268.2.getD (((b_6 - 1) - (rv247.1 - a_5)) : Int).toNat 0)) fun rv284 hg285 => ?_
     refine Dx [] [] [0] (fun G => vb rv284) [fun G => SP.fact (True)] (fun G => xC [] ca89 (fn89 ((rv268.2.getD ((a_5 - 1) : Int).toNat 0)) ((rv268.2.getD (((b_6 - 1) - (rv247.1 - a_5)) : Int).toNat 0)) pre pre rv284 hg285)) (Dv [] Vnot (Dv [] Vpt ?_))
     refine Dn ⟨by kernel_rfl, fun G => ?_⟩
     refine Jw2 [(0, vl dataa0 datak0 data), (1, vi a_5), (2, vi b_6), (3, vi limit_7), (8, vb wasBalanced_8), (9, vb wasPartitioned_9), (10, vi (b_6 - a_5)), (11, vi ((b_6 - 1) - (rv247.1 - a_5))), (87, vb (!rv284))] [0] [SP.fact (True)] ?_
     refine Jk [0] ?_
     refine Kc ?_ ?_
     ·intro h286
      have h288 := not_true h286
      refine KS ?_
      refine Oq Vm (Oq Vm (Oq Vm (Oq Vm ?_)))
      refine Fl 0 fun hn290 => ?_; (try unfold vl); rw [← hn290]
      refine letv (sc_partitionEqualOrdered_int rv268.2 a_5 b_6 ((b_6 - 1) - (rv247.1 - a_5))) fun rv291 hg292 => ?_
      have hc293 := fn90 rv268.2 dataa0 datak0 a_5 b_6 (((b_6 - 1) - (rv247.1 - a_5))) pre pre pre pre rv291 hg292
      refine Oc [0] ca90 hc293 ?_
      rintro - ⟨he294, he295, he296⟩
      unfold i64ok at he294
      have hn297 : rv268.2.length = data.length := by omega
      try unfold vl
      try rw [hn297]
      refine Fb 8 0 fun _ => Fo 0 fun ho299 => ?_
      refine Oq Va (KS ?_)
      refine Oq Vm (Oq Va (KS ?_))
      refine Ke ?_
      exact Kg (r3, rv291.2, rv291.1, b_6, limit_7, wasBalanced_8, wasPartitioned_9) [0] ⟨(q3 hM10 (by simp only [sc_pdqsortOrdered_int_F_L0, h19, h32, h45, h244, h253, h263, h265, h275, h280, h286, h288, hg248, hg257, hg269, hg285, hg292, cs4])), aM1, aM1, aM1, iv1⟩
     intro h286
     have h301 := not_false h286
     refine KS ?_
     refine Oq Vm (Oq Vm (Oq Vm (Oq Vm ?_)))
     refine Fl 0 fun hn303 => ?_; (try unfold vl); rw [← hn303]
     refine letv (sc_partitionOrdered_int rv268.2 a_5 b_6 ((b_6 - 1) - (rv247.1 - a_5))) fun rv304 hg305 => ?_
     have hc306 := fn91 rv268.2 dataa0 datak0 a_5 b_6 (((b_6 - 1) - (rv247.1 - a_5))) pre pre pre pre rv304 hg305
     refine Oc [0] ca91 hc306 ?_
     rintro - ⟨he307, he308, he309⟩
     unfold i64ok at he307
     have hn310 : rv268.2.length = data.length := by omega
     try unfold vl
     try rw [hn310]
     refine Fb 8 0 fun _ => Fo 0 fun ho312 => ?_
     refine Oq Vm (Oq Vx (Oq Vx (Oq Va (Oq Va (KS ?_)))))
     refine Oq Vm (Oq Va (KS ?_))
     refine Oq Vm (Oq Vm (Oq Vsub (Oq Vm (Oq Vm (Oq Vsub (Oq Va (Oq Va (KS ?_))))))))
     refine Oq Vm (Oq Vquo (Oq Va (KS ?_)))
     refine Oq Vm (Oq Vm (Oq Vlss (KS ?_)))
     refine Kc ?_ ?_
     ·intro h313
      have g314 := dt h313
      refine KS ?_
      refine Oq Vm (Oq Vm (Oq Vgeq (Oq Va (KS ?_))))
      refine Oq Vm (Oq Vm (Oq Vm (Oq Vm ?_)))
      refine Fl 0 fun hn315 => ?_; (try unfold vl); rw [← hn315]
      refine letv (rc rv304.2.2 a_5 rv304.1 limit_7) fun rv316 hg317 => ?_
      have hc318 := hrc rv304.2.2 dataa0 datak0 a_5 rv304.1 limit_7 pre pre pre pre pre pre rv316 hg317
      refine Oc [0] ca71 hc318 ?_
      rintro - he319
      have hn320 : rv304.2.2.length = data.length := by omega
      try unfold vl
      try rw [hn320]
      refine Fb 8 0 fun _ => Fo 0 fun ho322 => KS ?_
      refine Oq Vm (Oq Vadd (Oq Va (KS ?_)))
      exact Kg (r3, rv316, (rv304.1 + 1), b_6, limit_7, decide (((b_6 - a_5) / 8) ≤ (rv304.1 - a_5)), rv304.2.1) [0] ⟨(q3 hM10 (by simp only [sc_pdqsortOrdered_int_F_L0, h19, h32, h45, h244, h253, h263, h265, h275, h280, h286, h301, h313, hg248, hg257, hg269, hg285, hg305, hg317, cs4])), aM1, aM1, aM1, iv1⟩
     intro h313
     have g323 := df h313
     refine KS ?_
     refine Oq Vm (Oq Vm (Oq Vgeq (Oq Va (KS ?_))))
     refine Oq Vm (Oq Vm (Oq Vadd (Oq Vm (Oq Vm ?_))))
     refine Fl 0 fun hn324 => ?_; (try unfold vl); rw [← hn324]
     refine letv (rc rv304.2.2 (rv304.1 + 1) b_6 limit_7) fun rv325 hg326 => ?_
     have hc327 := hrc rv304.2.2 dataa0 datak0 ((rv304.1 + 1)) b_6 limit_7 pre pre pre pre pre pre rv325 hg326
     refine Oc [0] ca71 hc327 ?_
     rintro - he328
     have hn329 : rv304.2.2.length = data.length := by omega
     try unfold vl
     try rw [hn329]
     refine Fb 8 0 fun _ => Fo 0 fun ho331 => KS ?_
     refine Oq Vm (Oq Va (KS ?_))
     exact Kg (r3, rv325, a_5, rv304.1, limit_7, decide (((b_6 - a_5) / 8) ≤ (b_6 - rv304.1)), rv304.2.1) [0] ⟨(q3 hM10 (by simp only [sc_pdqsortOrdered_int_F_L0, h19, h32, h45, h244, h253, h263, h265, h275, h280, h286, h301, h313, hg248, hg257, hg269, hg285, hg305, hg326, cs4])), aM1, aM1, aM1, iv1⟩
    intro h280
    have g332 := df h280
    refine Db h280 [] Vm (Ds (Ds (Ds (Ds (Ds (Ds (Ds (Ds (Ds ?_)))))))))
    refine Ds (Ds (Dv [] Vpf ?_))
    refine Dn ⟨by kernel_rfl, fun G => ?_⟩
    refine Jw2 [(0, vl dataa0 datak0 data), (1, vi a_5), (2, vi b_6), (3, vi limit_7), (8, vb wasBalanced_8), (9, vb wasPartitioned_9), (10, vi (b_6 - a_5)), (11, vi ((b_6 - 1) - (rv247.1 - a_5))), (87, vb false)] [0] [] ?_
    refine Kf (KS ?_)
    refine Oq Vm (Oq Vm (Oq Vm (Oq Vm ?_)))
    refine Fl 0 fun hn333 => ?_; (try unfold vl); rw [← hn333]
    refine letv (sc_partitionOrdered_int rv268.2 a_5 b_6 ((b_6 - 1) - (rv247.1 - a_5))) fun rv334 hg335 => ?_
    have hc336 := fn91 rv268.2 dataa0 datak0 a_5 b_6 (((b_6 - 1) - (rv247.1 - a_5))) pre pre pre pre rv334 hg335
    refine Oc [0] ca91 hc336 ?_
    rintro - ⟨he337, he338, he339⟩
    unfold i64ok at he337
    have hn340 : rv268.2.length = data.length := by omega
    try unfold vl
    try rw [hn340]
    refine Fb 8 0 fun _ => Fo 0 fun ho342 => ?_
    refine Oq Vm (Oq Vx (Oq Vx (Oq Va (Oq Va (KS ?_)))))
    refine Oq Vm (Oq Va (KS ?_))
    refine Oq Vm (Oq Vm (Oq Vsub (Oq Vm (Oq Vm (Oq Vsub (Oq Va (Oq Va (KS ?_))))))))
    refine Oq Vm (Oq Vquo (Oq Va (KS ?_)))
    refine Oq Vm (Oq Vm (Oq Vlss (KS ?_)))
    refine Kc ?_ ?_
    ·intro h343
     have g344 := dt h343
     refine KS ?_
     refine Oq Vm (Oq Vm (Oq Vgeq (Oq Va (KS ?_))))
     refine Oq Vm (Oq Vm (Oq Vm (Oq Vm ?_)))
     refine Fl 0 fun hn345 => ?_; (try unfold vl); rw [← hn345]
     refine letv (rc rv334.2.2 a_5 rv334.1 limit_7) fun rv346 hg347 => ?_
     have hc348 := hrc rv334.2.2 dataa0 datak0 a_5 rv334.1 limit_7 pre pre pre pre pre pre rv346 hg347
     refine Oc [0] ca71 hc348 ?_
     rintro - he349
     have hn350 : rv334.2.2.length = data.length := by omega
     try unfold vl
     try rw [hn350]
     refine Fb 8 0 fun _ => Fo 0 fun ho352 => KS ?_
     refine Oq Vm (Oq Vadd (Oq Va (KS ?_)))
     exact Kg (r3, rv346, (rv334.1 + 1), b_6, limit_7, decide (((b_6 - a_5) / 8) ≤ (rv334.1 - a_5)), rv334.2.1) [0] ⟨(q3 hM10 (by simp only [sc_pdqsortOrdered_int_F_L0, h19, h32, h45, h244, h253, h263, h265, h275, h280, h343, hg248, hg257, hg269, hg335, hg347, cs4])), aM1, aM1, aM1, iv1⟩
    intro h343
    have g353 := df h343
    refine KS ?_
    refine Oq Vm (Oq Vm (Oq Vgeq (Oq Va (KS ?_))))
    refine Oq Vm (Oq Vm (Oq Vadd (Oq Vm (Oq Vm ?_))))
    refine Fl 0 fun hn354 => ?_; (try unfold vl); rw [← hn354]
    refine letv (rc rv334.2.2 (rv334.1 + 1) b_6 limit_7) fun rv355 hg356 => ?_
    have hc357 := hrc rv334.2.2 dataa0 datak0 ((rv334.1 + 1)) b_6 limit_7 pre pre pre pre pre pre rv355 hg356
    refine Oc [0] ca71 hc357 ?_
    rintro - he358
    have hn359 : rv334.2.2.length = data.length := by omega
    try unfold vl
    try rw [hn359]
    refine Fb 8 0 fun _ => Fo 0 fun ho361 => KS ?_
    refine Oq Vm (Oq Va (KS ?_))
    exact Kg (r3, rv355, a_5, rv334.1, limit_7, decide (((b_6 - a_5) / 8) ≤ (b_6 - rv334.1)), rv334.2.1) [0] ⟨(q3 hM10 (by simp only [sc_pdqsortOrdered_int_F_L0, h19, h32, h45, h244, h253, h263, h265, h275, h280, h343, hg248, hg257, hg269, hg335, hg356, cs4])), aM1, aM1, aM1, iv1⟩
   intro h265
   refine Osk (Osk (Oq Vpf (KS ?_)))
   refine Kf (KS ?_)
   refine JK_drawK [0, 1, 3, 7, 7, 23, 63, 127, 7, 7, 775, 1799, 4095, 8191, 16383] fmix ?_
   refine Dv [] Vm (Dv [] Vgtr ?_)
   refine bool_split (decide (0 < a_5)) ?_ ?_
   ·intro h363
    have g364 := dt h363
    refine Db h363 [] Vm (Dv [] Vm (Dv [] Vm (Dv [] Vsub (Dv [0] (Vi sl22 0) ?_))))
    have hb365 := ok1 (i := ((a_5 - 1) : Int).toNat) ho262 rng
    refine Dv [0] (VldI sh3 0) (Dv [] Vm (Dv [] Vm (Dv [0] (Vi sl22 0) ?_)))
    have hb366 := ok1 (i := (((b_6 - 1) - (rv247.1 - a_5)) : Int).toNat) ho262 rng
    refine Dv [0] (VldI sh3 0) ?_
    refine letv (cmp_Less_int (rv256.getD ((a_5 - 1) : Int).toNat 0) (rv256.getD (((b_6 - 1) - (rv247.1 - a_5)) : Int).toNat 0)) fun rv367 hg368 => ?_
    refine Dx [] [] [0] (fun G => vb rv367) [fun G => SP.fact (True)] (fun G => xC [] ca89 (fn89 ((rv256.getD ((a_5 - 1) : Int).toNat 0)) ((rv256.getD (((b_6 - 1) - (rv247.1 - a_5)) : Int).toNat 0)) pre pre rv367 hg368)) (Dv [] Vnot (Dv [] Vpt ?_))
    refine Dn ⟨by kernel_rfl, fun G => ?_⟩
    refine Jw2 [(0, vl dataa0 datak0 data), (1, vi a_5), (2, vi b_6), (3, vi limit_7), (8, vb wasBalanced_8), (9, vb wasPartitioned_9), (10, vi (b_6 - a_5)), (11, vi ((b_6 - 1) - (rv247.1 - a_5))), (87, vb (!rv367))] [0] [SP.fact (True)] ?_
    refine Jk [0] ?_
    refine Kc ?_ ?_
    ·intro h369
     have h371 := not_true h369
     refine KS ?_
     refine Oq Vm (Oq Vm (Oq Vm (Oq Vm ?_)))
     refine Fl 0 fun hn373 => ?_; (try unfold vl); rw [← hn373]
     refine letv (sc_partitionEqualOrdered_int rv256 a_5 b_6 ((b_6 - 1) - (rv247.1 - a_5))) fun rv374 hg375 => ?_
     have hc376 := fn90 rv256 dataa0 datak0 a_5 b_6 (((b_6 - 1) - (rv247.1 - a_5))) pre pre pre pre rv374 hg375
     refine Oc [0] ca90 hc376 ?_
     rintro - ⟨he377, he378, he379⟩
     unfold i64ok at he377
     have hn380 : rv256.length = data.length := by omega
     try unfold vl
     try rw [hn380]
     refine Fb 8 0 fun _ => Fo 0 fun ho382 => ?_
     refine Oq Va (KS ?_)
     refine Oq Vm (Oq Va (KS ?_))
     refine Ke ?_
     exact Kg (r3, rv374.2, rv374.1, b_6, limit_7, wasBalanced_8, wasPartitioned_9) [0] ⟨(q3 hM10 (by simp only [sc_pdqsortOrdered_int_F_L0, h19, h32, h45, h244, h253, h263, h265, h363, h369, h371, hg248, hg257, hg368, hg375, cs4])), aM1, aM1, aM1, iv1⟩
    intro h369
    have h384 := not_false h369
    refine KS ?_
    refine Oq Vm (Oq Vm (Oq Vm (Oq Vm ?_)))
    refine Fl 0 fun hn386 => ?_; (try unfold vl); rw [← hn386]
    refine letv (sc_partitionOrdered_int rv256 a_5 b_6 ((b_6 - 1) - (rv247.1 - a_5))) fun rv387 hg388 => ?_
    have hc389 := fn91 rv256 dataa0 datak0 a_5 b_6 (((b_6 - 1) - (rv247.1 - a_5))) pre pre pre pre rv387 hg388
    refine Oc [0] ca91 hc389 ?_
    rintro - ⟨he390, he391, he392⟩
    unfold i64ok at he390
    have hn393 : rv256.length = data.length := by omega
    try unfold vl
    try rw [hn393]
    refine Fb 8 0 fun _ => Fo 0 fun ho395 => ?_
    refine Oq Vm (Oq Vx (Oq Vx (Oq Va (Oq Va (KS ?_)))))
    refine Oq Vm (Oq Va (KS ?_))
    refine Oq Vm (Oq Vm (Oq Vsub (Oq Vm (Oq Vm (Oq Vsub (Oq Va (Oq Va (KS ?_))))))))
    refine Oq Vm (Oq Vquo (Oq Va (KS ?_)))
    refine Oq Vm (Oq Vm (Oq Vlss (KS ?_)))
    refine Kc ?_ ?_
    ·intro h396
     have g397 := dt h396
     refine KS ?_
     refine Oq Vm (Oq Vm (Oq Vgeq (Oq Va (KS ?_))))
     refine Oq Vm (Oq Vm (Oq Vm (Oq Vm ?_)))
     refine Fl 0 fun hn398 => ?_; (try unfold vl); rw [← hn398]
     refine letv (rc rv387.2.2 a_5 rv387.1 limit_7) fun rv399 hg400 => ?_
     have hc401 := hrc rv387.2.2 dataa0 datak0 a_5 rv387.1 limit_7 pre pre pre pre pre pre rv399 hg400
     refine Oc [0] ca71 hc401 ?_
     rintro - he402
     have hn403 : rv387.2.2.length = data.length := by omega
     try unfold vl
     try rw [hn403]
     refine Fb 8 0 fun _ => Fo 0 fun ho405 => KS ?_
     refine Oq Vm (Oq Vadd (Oq Va (KS ?_)))
     exact Kg (r3, rv399, (rv387.1 + 1), b_6, limit_7, decide (((b_6 - a_5) / 8) ≤ (rv387.1 - a_5)), rv387.2.1) [0] ⟨(q3 hM10 (by simp only [sc_pdqsortOrdered_int_F_L0, h19, h32, h45, h244, h253, h263, h265, h363, h369, h384, h396, hg248, hg257, hg368, hg388, hg400, cs4])), aM1, aM1, aM1, iv1⟩
    intro h396
    have g406 := df h396
    refine KS ?_
    refine Oq Vm (Oq Vm (Oq Vgeq (Oq Va (KS ?_))))
    refine Oq Vm (Oq Vm (Oq Vadd (Oq Vm (Oq Vm ?_))))
    refine Fl 0 fun hn407 => ?_; (try unfold vl); rw [← hn407]
    refine letv (rc rv387.2.2 (rv387.1 + 1) b_6 limit_7) fun rv408 hg409 => ?_
    have hc410 := hrc rv387.2.2 dataa0 datak0 ((rv387.1 + 1)) b_6 limit_7 pre pre pre pre pre pre rv408 hg409
    refine Oc [0] ca71 hc410 ?_
    rintro - he411
    have hn412 : rv387.2.2.length = data.length := by omega
    try unfold vl
    try rw [hn412]
    refine Fb 8 0 fun _ => Fo 0 fun ho414 => KS ?_
    refine Oq Vm (Oq Va (KS ?_))
    exact Kg (r3, rv408, a_5, rv387.1, limit_7, decide (((b_6 - a_5) / 8) ≤ (b_6 - rv387.1)), rv387.2.1) [0] ⟨(q3 hM10 (by simp only [sc_pdqsortOrdered_int_F_L0, h19, h32, h45, h244, h253, h263, h265, h363, h369, h384, h396, hg248, hg257, hg368, hg388, hg409, cs4])), aM1, aM1, aM1, iv1⟩
   intro h363
   have g415 := df h363
   refine Db h363 [] Vm (Ds (Ds (Ds (Ds (Ds (Ds (Ds (Ds (Ds ?_)))))))))
   refine Ds (Ds (Dv [] Vpf ?_))
   refine Dn ⟨by kernel_rfl, fun G => ?_⟩
   refine Jw2 [(0, vl dataa0 datak0 data), (1, vi a_5), (2, vi b_6), (3, vi limit_7), (8, vb wasBalanced_8), (9, vb wasPartitioned_9), (10, vi (b_6 - a_5)), (11, vi ((b_6 - 1) - (rv247.1 - a_5))), (87, vb false)] [0] [] ?_
   refine Kf (KS ?_)
   refine Oq Vm (Oq Vm (Oq Vm (Oq Vm ?_)))
   refine Fl 0 fun hn416 => ?_; (try unfold vl); rw [← hn416]
   refine letv (sc_partitionOrdered_int rv256 a_5 b_6 ((b_6 - 1) - (rv247.1 - a_5))) fun rv417 hg418 => ?_
   have hc419 := fn91 rv256 dataa0 datak0 a_5 b_6 (((b_6 - 1) - (rv247.1 - a_5))) pre pre pre pre rv417 hg418
   refine Oc [0] ca91 hc419 ?_
   rintro - ⟨he420, he421, he422⟩
   unfold i64ok at he420
   have hn423 : rv256.length = data.length := by omega
   try unfold vl
   try rw [hn423]
   refine Fb 8 0 fun _ => Fo 0 fun ho425 => ?_
   refine Oq Vm (Oq Vx (Oq Vx (Oq Va (Oq Va (KS ?_)))))
   refine Oq Vm (Oq Va (KS ?_))
   refine Oq Vm (Oq Vm (Oq Vsub (Oq Vm (Oq Vm (Oq Vsub (Oq Va (Oq Va (KS ?_))))))))
   refine Oq Vm (Oq Vquo (Oq Va (KS ?_)))
   refine Oq Vm (Oq Vm (Oq Vlss (KS ?_)))
   refine Kc ?_ ?_
   ·intro h426
    have g427 := dt h426
    refine KS ?_
    refine Oq Vm (Oq Vm (Oq Vgeq (Oq Va (KS ?_))))
    refine Oq Vm (Oq Vm (Oq Vm (Oq Vm ?_)))
    refine Fl 0 fun hn428 => ?_; (try unfold vl); rw [← hn428]
    refine letv (rc rv417.2.2 a_5 rv417.1 limit_7) fun rv429 hg430 => ?_
    have hc431 := hrc rv417.2.2 dataa0 datak0 a_5 rv417.1 limit_7 pre pre pre pre pre pre rv429 hg430
    refine Oc [0] ca71 hc431 ?_
    rintro - he432
    have hn433 : rv417.2.2.length = data.length := by omega
    try unfold vl
    try rw [hn433]
    refine Fb 8 0 fun _ => Fo 0 fun ho435 => KS ?_
    refine Oq Vm (Oq Vadd (Oq Va (KS ?_)))
    exact Kg (r3, rv429, (rv417.1 + 1), b_6, limit_7, decide (((b_6 - a_5) / 8) ≤ (rv417.1 - a_5)), rv417.2.1) [0] ⟨(q3 hM10 (by simp only [sc_pdqsortOrdered_int_F_L0, h19, h32, h45, h244, h253, h263, h265, h363, h426, hg248, hg257, hg418, hg430, cs4])), aM1, aM1, aM1, iv1⟩
   intro h426
   have g436 := df h426
   refine KS ?_
   refine Oq Vm (Oq Vm (Oq Vgeq (Oq Va (KS ?_))))
   refine Oq Vm (Oq Vm (Oq Vadd (Oq Vm (Oq Vm ?_))))
   refine Fl 0 fun hn437 => ?_; (try unfold vl); rw [← hn437]
   refine letv (rc rv417.2.2 (rv417.1 + 1) b_6 limit_7) fun rv438 hg439 => ?_
   have hc440 := hrc rv417.2.2 dataa0 datak0 ((rv417.1 + 1)) b_6 limit_7 pre pre pre pre pre pre rv438 hg439
   refine Oc [0] ca71 hc440 ?_
   rintro - he441
   have hn442 : rv417.2.2.length = data.length := by omega
   try unfold vl
   try rw [hn442]
   refine Fb 8 0 fun _ => Fo 0 fun ho444 => KS ?_
   refine Oq Vm (Oq Va (KS ?_))
   exact Kg (r3, rv438, a_5, rv417.1, limit_7, decide (((b_6 - a_5) / 8) ≤ (b_6 - rv417.1)), rv417.2.1) [0] ⟨(q3 hM10 (by simp only [sc_pdqsortOrdered_int_F_L0, h19, h32, h45, h244, h253, h263, h265, h363, h426, hg248, hg257, hg418, hg439, cs4])), aM1, aM1, aM1, iv1⟩
  intro h263
  exact absurd h263 (by first | (simp [h45]; done) | (simp only [bne, h45]; decide) | (simp only [bne, h45, Bool.not_true, Bool.not_false]; decide) | (exfalso; omega) | (intro hq; simp only [bne, hq, Bool.not_false, Bool.not_true, reduceCtorEq] at h45))
 intro h253
 have g445 := ne_of_beq_false h253
 refine KS ?_
 refine Oq Vm (Oq Vm ?_)
 refine Js 62 ?_ ?_
 ·intro h446
  refine Oq Vm (Oq Vpt (Oq Vm ?_))
  refine Js 65 ?_ ?_
  ·intro h448
   refine Oq Vm (Oq Veql (Oq Vpt (KS ?_)))
   refine Kc ?_ ?_
   ·intro h450
    have g451 := eq_of_beq h450
    refine KS ?_
    refine Oq Vm (Oq Vm (Oq Vm ?_))
    refine Fl 0 fun hn452 => ?_; (try unfold vl); rw [← hn452]
    refine letv (sc_partialInsertionSortOrdered_int data_4 a_5 b_6) fun rv453 hg454 => ?_
    have hc455 := fn88 data_4 dataa0 datak0 a_5 b_6 pre pre pre rv453 hg454
    refine Oc [0] ca88 hc455 ?_
    rintro - he456
    have hn457 : data_4.length = data.length := by omega
    try unfold vl
    try rw [hn457]
    refine Fb 8 0 fun _ => Fo 0 fun ho459 => KS ?_
    refine Kc ?_ ?_
    ·intro h460
     refine Fl 0 fun hn462 => ?_
     have hR463 := q2 hM10 (.ret rv453.2) (by simp only [sc_pdqsortOrdered_int_F_L0, h19, h32, h45, h244, h253, h446, h448, h450, h460, hg248, hg454, cs4])
     have hq := q4 hrr rv453.2 (by simp only [sc_pdqsortOrdered_int_F, h19, h32, h45, h244, h253, h446, h448, h450, h460, hg248, hg454, hR463, cs4]); subst hq
     exact Kr () rfl .nil [0] en
    intro h460
    refine KS ?_
    refine JK_drawK [0, 1, 3, 7, 7, 23, 63, 127, 7, 7, 775, 1799, 4095, 8191, 16383] fmix ?_
    refine Dv [] Vm (Dv [] Vgtr ?_)
    refine bool_split (decide (0 < a_5)) ?_ ?_
    ·intro h465
     have g466 := dt h465
     refine Db h465 [] Vm (Dv [] Vm (Dv [] Vm (Dv [] Vsub (Dv [0] (Vi sl22 0) ?_))))
     have hb467 := ok1 (i := ((a_5 - 1) : Int).toNat) ho459 rng
     refine Dv [0] (VldI sh3 0) (Dv [] Vm (Dv [] Vm (Dv [0] (Vi sl22 0) ?_)))
     have hb468 := ok1 (i := rv247.1.toNat) ho459 rng
     refine Dv [0] (VldI sh3 0) ?_
     refine letv (cmp_Less_int (rv453.2.getD ((a_5 - 1) : Int).toNat 0) (rv453.2.getD rv247.1.toNat 0)) fun rv469 hg470 => ?_
     refine Dx [] [] [0] (fun G => vb rv469) [fun G => SP.fact (True)] (fun G => xC [] ca89 (fn89 ((rv453.2.getD ((a_5 - 1) : Int).toNat 0)) ((rv453.2.getD rv247.1.toNat 0)) pre pre rv469 hg470)) (Dv [] Vnot (Dv [] Vpt ?_))
     refine Dn ⟨by kernel_rfl, fun G => ?_⟩
     refine Jw2 [(0, vl dataa0 datak0 data), (1, vi a_5), (2, vi b_6), (3, vi limit_7), (8, vb wasBalanced_8), (9, vb wasPartitioned_9), (10, vi (b_6 - a_5)), (11, vi rv247.1), (87, vb (!rv469))] [0] [SP.fact (True)] ?_
     refine Jk [0] ?_
     refine Kc ?_ ?_
     ·intro h471
      have h473 := not_true h471
      refine KS ?_
      refine Oq Vm (Oq Vm (Oq Vm (Oq Vm ?_)))
      refine Fl 0 fun hn475 => ?_; (try unfold vl); rw [← hn475]
      refine letv (sc_partitionEqualOrdered_int rv453.2 a_5 b_6 rv247.1) fun rv476 hg477 => ?_
      have hc478 := fn90 rv453.2 dataa0 datak0 a_5 b_6 rv247.1 pre pre pre pre rv476 hg477
      refine Oc [0] ca90 hc478 ?_
      rintro - ⟨he479, he480, he481⟩
      unfold i64ok at he479
      have hn482 : rv453.2.length = data.length := by omega
      try unfold vl
      try rw [hn482]
      refine Fb 8 0 fun _ => Fo 0 fun ho484 => ?_
      refine Oq Va (KS ?_)
      refine Oq Vm (Oq Va (KS ?_))
      refine Ke ?_
      exact Kg (r3, rv476.2, rv476.1, b_6, limit_7, wasBalanced_8, wasPartitioned_9) [0] ⟨(q3 hM10 (by simp only [sc_pdqsortOrdered_int_F_L0, h19, h32, h45, h244, h253, h446, h448, h450, h460, h465, h471, h473, hg248, hg454, hg470, hg477, cs4])), aM1, aM1, aM1, iv1⟩
     intro h471
     have h486 := not_false h471
     refine KS ?_
     refine Oq Vm (Oq Vm (Oq Vm (Oq Vm ?_)))
     refine Fl 0 fun hn488 => ?_; (try unfold vl); rw [← hn488]
     refine letv (sc_partitionOrdered_int rv453.2 a_5 b_6 rv247.1) fun rv489 hg490 => ?_
     have hc491 := fn91 rv453.2 dataa0 datak0 a_5 b_6 rv247.1 pre pre pre pre rv489 hg490
     refine Oc [0] ca91 hc491 ?_
     rintro - ⟨he492, he493, he494⟩
     unfold i64ok at he492
     have hn495 : rv453.2.length = data.length := by omega
     try unfold vl
     try rw [hn495]
     refine Fb 8 0 fun _ => Fo 0 fun ho497 => ?_
     refine Oq Vm (Oq Vx (Oq Vx (Oq Va (Oq Va (KS ?_)))))
     refine Oq Vm (Oq Va (KS ?_))
     refine Oq Vm (Oq Vm (Oq Vsub (Oq Vm (Oq Vm (Oq Vsub (Oq Va (Oq Va (KS ?_))))))))
     refine Oq Vm (Oq Vquo (Oq Va (KS ?_)))
     refine Oq Vm (Oq Vm (Oq Vlss (KS ?_)))
     refine Kc ?_ ?_
     ·intro h498
      have g499 := dt h498
      refine KS ?_
      refine Oq Vm (Oq Vm (Oq Vgeq (Oq Va (KS ?_))))
      refine Oq Vm (Oq Vm (Oq Vm (Oq Vm ?_)))
      refine Fl 0 fun hn500 => ?_; (try unfold vl); rw [← hn500]
      refine letv (rc rv489.2.2 a_5 rv489.1 limit_7) fun rv501 hg502 => ?_
      have hc503 := hrc rv489.2.2 dataa0 datak0 a_5 rv489.1 limit_7 pre pre pre pre pre pre rv501 hg502
      refine Oc [0] ca71 hc503 ?_
      rintro - he504
      have hn505 : rv489.2.2.length = data.length := by omega
      try unfold vl
      try rw [hn505]
      refine Fb 8 0 fun _ => Fo 0 fun ho507 => KS ?_
      refine Oq Vm (Oq Vadd (Oq Va (KS ?_)))
      exact Kg (r3, rv501, (rv489.1 + 1), b_6, limit_7, decide (((b_6 - a_5) / 8) ≤ (rv489.1 - a_5)), rv489.2.1) [0] ⟨(q3 hM10 (by simp only [sc_pdqsortOrdered_int_F_L0, h19, h32, h45, h244, h253, h446, h448, h450, h460, h465, h471, h486, h498, hg248, hg454, hg470, hg490, hg502, cs4])), aM1, aM1, aM1, iv1⟩
     intro h498
     have g508 := df h498
     refine KS ?_
     refine Oq Vm (Oq Vm (Oq Vgeq (Oq Va (KS ?_))))
     refine Oq Vm (Oq Vm (Oq Vadd (Oq Vm (Oq Vm ?_))))
     refine Fl 0 fun hn509 => ?_; (try unfold vl); rw [← hn509]
     refine letv (rc rv489.2.2 (rv489.1 + 1) b_6 limit_7) fun rv510 hg511 => ?_
     have hc512 := hrc rv489.2.2 dataa0 datak0 ((rv489.1 + 1)) b_6 limit_7 pre pre pre pre pre pre rv510 hg511
     refine Oc [0] ca71 hc512 ?_
     rintro - he513
     have hn514 : rv489.2.2.length = data.length := by omega
     try unfold vl
     try rw [hn514]
     refine Fb 8 0 fun _ => Fo 0 fun ho516 => KS ?_
     refine Oq Vm (Oq Va (KS ?_))
     exact Kg (r3, rv510, a_5, rv489.1, limit_7, decide (((b_6 - a_5) / 8) ≤ (b_6 - rv489.1)), rv489.2.1) [0] ⟨(q3 hM10 (by simp only [sc_pdqsortOrdered_int_F_L0, h19, h32, h45, h244, h253, h446, h448, h450, h460, h465, h471, h486, h498, hg248, hg454, hg470, hg490, hg511, cs4])), aM1, aM1, aM1, iv1⟩
    intro h465
    have g517 := df h465
    refine Db h465 [] Vm (Ds (Ds (Ds (Ds (Ds (Ds (Ds (Ds (Ds ?_)))))))))
    refine Ds (Ds (Dv [] Vpf ?_))
    refine Dn ⟨by kernel_rfl, fun G => ?_⟩
    refine Jw2 [(0, vl dataa0 datak0 data), (1, vi a_5), (2, vi b_6), (3, vi limit_7), (8, vb wasBalanced_8), (9, vb wasPartitioned_9), (10, vi (b_6 - a_5)), (11, vi rv247.1), (87, vb false)] [0] [] ?_
    refine Kf (KS ?_)
    refine Oq Vm (Oq Vm (Oq Vm (Oq Vm ?_)))
    refine Fl 0 fun hn518 => ?_; (try unfold vl); rw [← hn518]
    refine letv (sc_partitionOrdered_int rv453.2 a_5 b_6 rv247.1) fun rv519 hg520 => ?_
    have hc521 := fn91 rv453.2 dataa0 datak0 a_5 b_6 rv247.1 pre pre pre pre rv519 hg520
    refine Oc [0] ca91 hc521 ?_
    rintro - ⟨he522, he523, he524⟩
    unfold i64ok at he522
    have hn525 : rv453.2.length = data.length := by omega
    try unfold vl
    try rw [hn525]
    refine Fb 8 0 fun _ => Fo 0 fun ho527 => ?_
    refine Oq Vm (Oq Vx (Oq Vx (Oq Va (Oq Va (KS ?_)))))
    refine Oq Vm (Oq Va (KS ?_))
    refine Oq Vm (Oq Vm (Oq Vsub (Oq Vm (Oq Vm (Oq Vsub (Oq Va (Oq Va (KS ?_))))))))
    refine Oq Vm (Oq Vquo (Oq Va (KS ?_)))
    refine Oq Vm (Oq Vm (Oq Vlss (KS ?_)))
    refine Kc ?_ ?_
    ·intro h528
     have g529 := dt h528
     refine KS ?_
     refine Oq Vm (Oq Vm (Oq Vgeq (Oq Va (KS ?_))))
     refine Oq Vm (Oq Vm (Oq Vm (Oq Vm ?_)))
     refine Fl 0 fun hn530 => ?_; (try unfold vl); rw [← hn530]
     refine letv (rc rv519.2.2 a_5 rv519.1 limit_7) fun rv531 hg532 => ?_
     have hc533 := hrc rv519.2.2 dataa0 datak0 a_5 rv519.1 limit_7 pre pre pre pre pre pre rv531 hg532
     refine Oc [0] ca71 hc533 ?_
     rintro - he534
     have hn535 : rv519.2.2.length = data.length := by omega
     try unfold vl
     try rw [hn535]
     refine Fb 8 0 fun _ => Fo 0 fun ho537 => KS ?_
     refine Oq Vm (Oq Vadd (Oq Va (KS ?_)))
     exact Kg (r3, rv531, (rv519.1 + 1), b_6, limit_7, decide (((b_6 - a_5) / 8) ≤ (rv519.1 - a_5)), rv519.2.1) [0] ⟨(q3 hM10 (by simp only [sc_pdqsortOrdered_int_F_L0, h19, h32, h45, h244, h253, h446, h448, h450, h460, h465, h528, hg248, hg454, hg520, hg532, cs4])), aM1, aM1, aM1, iv1⟩
    intro h528
    have g538 := df h528
    refine KS ?_
    refine Oq Vm (Oq Vm (Oq Vgeq (Oq Va (KS ?_))))
    refine Oq Vm (Oq Vm (Oq Vadd (Oq Vm (Oq Vm ?_))))
    refine Fl 0 fun hn539 => ?_; (try unfold vl); rw [← hn539]
    refine letv (rc rv519.2.2 (rv519.1 + 1) b_6 limit_7) fun rv540 hg541 => ?_
    have hc542 := hrc rv519.2.2 dataa0 datak0 ((rv519.1 + 1)) b_6 limit_7 pre pre pre pre pre pre rv540 hg541
    refine Oc [0] ca71 hc542 ?_
    rintro - he543
    have hn544 : rv519.2.2.length = data.length := by omega
    try unfold vl
    try rw [hn544]
    refine Fb 8 0 fun _ => Fo 0 fun ho546 => KS ?_
    refine Oq Vm (Oq Va (KS ?_))
    exact Kg (r3, rv540, a_5, rv519.1, limit_7, decide (((b_6 - a_5) / 8) ≤ (b_6 - rv519.1)), rv519.2.1) [0] ⟨(q3 hM10 (by simp only [sc_pdqsortOrdered_int_F_L0, h19, h32, h45, h244, h253, h446, h448, h450, h460, h465, h528, hg248, hg454, hg520, hg541, cs4])), aM1, aM1, aM1, iv1⟩
   intro h450
   have g547 := ne_of_beq_false h450
   refine KS ?_
   refine JK_drawK [0, 1, 3, 7, 7, 23, 63, 127, 7, 7, 775, 1799, 4095, 8191, 16383] fmix ?_
   refine Dv [] Vm (Dv [] Vgtr ?_)
   refine bool_split (decide (0 < a_5)) ?_ ?_
   ·intro h548
    have g549 := dt h548
    refine Db h548 [] Vm (Dv [] Vm (Dv [] Vm (Dv [] Vsub (Dv [0] (Vi sl22 0) ?_))))
    have hb550 := ok1 (i := ((a_5 - 1) : Int).toNat) ho17 rng
    refine Dv [0] (VldI sh3 0) (Dv [] Vm (Dv [] Vm (Dv [0] (Vi sl22 0) ?_)))
    have hb551 := ok1 (i := rv247.1.toNat) ho17 rng
    refine Dv [0] (VldI sh3 0) ?_
    refine letv (cmp_Less_int (data_4.getD ((a_5 - 1) : Int).toNat 0) (data_4.getD rv247.1.toNat 0)) fun rv552 hg553 => ?_
    refine Dx [] [] [0] (fun G => vb rv552) [fun G => SP.fact (True)] (fun G => xC [] ca89 (fn89 ((data_4.getD ((a_5 - 1) : Int).toNat 0)) ((data_4.getD rv247.1.toNat 0)) pre pre rv552 hg553)) (Dv [] Vnot (Dv [] Vpt ?_))
    refine Dn ⟨by kernel_rfl, fun G => ?_⟩
    refine Jw2 [(0, vl dataa0 datak0 data), (1, vi a_5), (2, vi b_6), (3, vi limit_7), (8, vb wasBalanced_8), (9, vb wasPartitioned_9), (10, vi (b_6 - a_5)), (11, vi rv247.1), (87, vb (!rv552))] [0] [SP.fact (True)] ?_
    refine Jk [0] ?_
    refine Kc ?_ ?_
    ·intro h554
     have h556 := not_true h554
     refine KS ?_
     refine Oq Vm (Oq Vm (Oq Vm (Oq Vm ?_)))
     refine Fl 0 fun hn558 => ?_; (try unfold vl); rw [← hn558]
     refine letv (sc_partitionEqualOrdered_int data_4 a_5 b_6 rv247.1) fun rv559 hg560 => ?_
     have hc561 := fn90 data_4 dataa0 datak0 a_5 b_6 rv247.1 pre pre pre pre rv559 hg560
     refine Oc [0] ca90 hc561 ?_
     rintro - ⟨he562, he563, he564⟩
     unfold i64ok at he562
     have hn565 : data_4.length = data.length := by omega
     try unfold vl
     try rw [hn565]
     refine Fb 8 0 fun _ => Fo 0 fun ho567 => ?_
     refine Oq Va (KS ?_)
     refine Oq Vm (Oq Va (KS ?_))
     refine Ke ?_
     exact Kg (r3, rv559.2, rv559.1, b_6, limit_7, wasBalanced_8, wasPartitioned_9) [0] ⟨(q3 hM10 (by simp only [sc_pdqsortOrdered_int_F_L0, h19, h32, h45, h244, h253, h446, h448, h450, h548, h554, h556, hg248, hg553, hg560, cs4])), aM1, aM1, aM1, iv1⟩
    intro h554
    have h569 := not_false h554
    refine KS ?_
    refine Oq Vm (Oq Vm (Oq Vm (Oq Vm ?_)))
    refine Fl 0 fun hn571 => ?_; (try unfold vl); rw [← hn571]
    refine letv (sc_partitionOrdered_int data_4 a_5 b_6 rv247.1) fun rv572 hg573 => ?_
    have hc574 := fn91 data_4 dataa0 datak0 a_5 b_6 rv247.1 pre pre pre pre rv572 hg573
    refine Oc [0] ca91 hc574 ?_
    rintro - ⟨he575, he576, he577⟩
    unfold i64ok at he575
    have hn578 : data_4.length = data.length := by omega
    try unfold vl
    try rw [hn578]
    refine Fb 8 0 fun _ => Fo 0 fun ho580 => ?_
    refine Oq Vm (Oq Vx (Oq Vx (Oq Va (Oq Va (KS ?_)))))
    refine Oq Vm (Oq Va (KS ?_))
    refine Oq Vm (Oq Vm (Oq Vsub (Oq Vm (Oq Vm (Oq Vsub (Oq Va (Oq Va (KS ?_))))))))
    refine Oq Vm (Oq Vquo (Oq Va (KS ?_)))
    refine Oq Vm (Oq Vm (Oq Vlss (KS ?_)))
    refine Kc ?_ ?_
    ·intro h581
     have g582 := dt h581
     refine KS ?_
     refine Oq Vm (Oq Vm (Oq Vgeq (Oq Va (KS ?_))))
     refine Oq Vm (Oq Vm (Oq Vm (Oq Vm ?_)))
     refine Fl 0 fun hn583 => ?_; (try unfold vl); rw [← hn583]
     refine letv (rc rv572.2.2 a_5 rv572.1 limit_7) fun rv584 hg585 => ?_
     have hc586 := hrc rv572.2.2 dataa0 datak0 a_5 rv572.1 limit_7 pre pre pre pre pre pre rv584 hg585
     refine Oc [0] ca71 hc586 ?_
     rintro - he587
     have hn588 : rv572.2.2.length = data.length := by omega
     try unfold vl
     try rw [hn588]
     refine Fb 8 0 fun _ => Fo 0 fun ho590 => KS ?_
     refine Oq Vm (Oq Vadd (Oq Va (KS ?_)))
     exact Kg (r3, rv584, (rv572.1 + 1), b_6, limit_7, decide (((b_6 - a_5) / 8) ≤ (rv572.1 - a_5)), rv572.2.1) [0] ⟨(q3 hM10 (by simp only [sc_pdqsortOrdered_int_F_L0, h19, h32, h45, h244, h253, h446, h448, h450, h548, h554, h569, h581, hg248, hg553, hg573, hg585, cs4])), aM1, aM1, aM1, iv1⟩
    intro h581
    have g591 := df h581
    refine KS ?_
    refine Oq Vm (Oq Vm (Oq Vgeq (Oq Va (KS ?_))))
    refine Oq Vm (Oq Vm (Oq Vadd (Oq Vm (Oq Vm ?_))))
    refine Fl 0 fun hn592 => ?_; (try unfold vl); rw [← hn592]
    refine letv (rc rv572.2.2 (rv572.1 + 1) b_6 limit_7) fun rv593 hg594 => ?_
    have hc595 := hrc rv572.2.2 dataa0 datak0 ((rv572.1 + 1)) b_6 limit_7 pre pre pre pre pre pre rv593 hg594
    refine Oc [0] ca71 hc595 ?_
    rintro - he596
    have hn597 : rv572.2.2.length = data.length := by omega
    try unfold vl
    try rw [hn597]
    refine Fb 8 0 fun _ => Fo 0 fun ho599 => KS ?_
    refine Oq Vm (Oq Va (KS ?_))
    exact Kg (r3, rv593, a_5, rv572.1, limit_7, decide (((b_6 - a_5) / 8) ≤ (b_6 - rv572.1)), rv572.2.1) [0] ⟨(q3 hM10 (by simp only [sc_pdqsortOrdered_int_F_L0, h19, h32, h45, h244, h253, h446, h448, h450, h548, h554, h569, h581, hg248, hg553, hg573, hg594, cs4])), aM1, aM1, aM1, iv1⟩
   intro h548
   have g600 := df h548
   refine Db h548 [] Vm (Ds (Ds (Ds (Ds (Ds (Ds (Ds (Ds (Ds ?_)))))))))
   refine Ds (Ds (Dv [] Vpf ?_))
   refine Dn ⟨by kernel_rfl, fun G => ?_⟩
   refine Jw2 [(0, vl dataa0 datak0 data), (1, vi a_5), (2, vi b_6), (3, vi limit_7), (8, vb wasBalanced_8), (9, vb wasPartitioned_9), (10, vi (b_6 - a_5)), (11, vi rv247.1), (87, vb false)] [0] [] ?_
   refine Kf (KS ?_)
   refine Oq Vm (Oq Vm (Oq Vm (Oq Vm ?_)))
   refine Fl 0 fun hn601 => ?_; (try unfold vl); rw [← hn601]
   refine letv (sc_partitionOrdered_int data_4 a_5 b_6 rv247.1) fun rv602 hg603 => ?_
   have hc604 := fn91 data_4 dataa0 datak0 a_5 b_6 rv247.1 pre pre pre pre rv602 hg603
   refine Oc [0] ca91 hc604 ?_
   rintro - ⟨he605, he606, he607⟩
   unfold i64ok at he605
   have hn608 : data_4.length = data.length := by omega
   try unfold vl
   try rw [hn608]
   refine Fb 8 0 fun _ => Fo 0 fun ho610 => ?_
   refine Oq Vm (Oq Vx (Oq Vx (Oq Va (Oq Va (KS ?_)))))
   refine Oq Vm (Oq Va (KS ?_))
   refine Oq Vm (Oq Vm (Oq Vsub (Oq Vm (Oq Vm (Oq Vsub (Oq Va (Oq Va (KS ?_))))))))
   refine Oq Vm (Oq Vquo (Oq Va (KS ?_)))
   refine Oq Vm (Oq Vm (Oq Vlss (KS ?_)))
   refine Kc ?_ ?_
   ·intro h611
    have g612 := dt h611
    refine KS ?_
    refine Oq Vm (Oq Vm (Oq Vgeq (Oq Va (KS ?_))))
    refine Oq Vm (Oq Vm (Oq Vm (Oq Vm ?_)))
    refine Fl 0 fun hn613 => ?_; (try unfold vl); rw [← hn613]
    refine letv (rc rv602.2.2 a_5 rv602.1 limit_7) fun rv614 hg615 => ?_
    have hc616 := hrc rv602.2.2 dataa0 datak0 a_5 rv602.1 limit_7 pre pre pre pre pre pre rv614 hg615
    refine Oc [0] ca71 hc616 ?_
    rintro - he617
    have hn618 : rv602.2.2.length = data.length := by omega
    try unfold vl
    try rw [hn618]
    refine Fb 8 0 fun _ => Fo 0 fun ho620 => KS ?_
    refine Oq Vm (Oq Vadd (Oq Va (KS ?_)))
    exact Kg (r3, rv614, (rv602.1 + 1), b_6, limit_7, decide (((b_6 - a_5) / 8) ≤ (rv602.1 - a_5)), rv602.2.1) [0] ⟨(q3 hM10 (by simp only [sc_pdqsortOrdered_int_F_L0, h19, h32, h45, h244, h253, h446, h448, h450, h548, h611, hg248, hg603, hg615, cs4])), aM1, aM1, aM1, iv1⟩
   intro h611
   have g621 := df h611
   refine KS ?_
   refine Oq Vm (Oq Vm (Oq Vgeq (Oq Va (KS ?_))))
   refine Oq Vm (Oq Vm (Oq Vadd (Oq Vm (Oq Vm ?_))))
   refine Fl 0 fun hn622 => ?_; (try unfold vl); rw [← hn622]
   refine letv (rc rv602.2.2 (rv602.1 + 1) b_6 limit_7) fun rv623 hg624 => ?_
   have hc625 := hrc rv602.2.2 dataa0 datak0 ((rv602.1 + 1)) b_6 limit_7 pre pre pre pre pre pre rv623 hg624
   refine Oc [0] ca71 hc625 ?_
   rintro - he626
   have hn627 : rv602.2.2.length = data.length := by omega
   try unfold vl
   try rw [hn627]
   refine Fb 8 0 fun _ => Fo 0 fun ho629 => KS ?_
   refine Oq Vm (Oq Va (KS ?_))
   exact Kg (r3, rv623, a_5, rv602.1, limit_7, decide (((b_6 - a_5) / 8) ≤ (b_6 - rv602.1)), rv602.2.1) [0] ⟨(q3 hM10 (by simp only [sc_pdqsortOrdered_int_F_L0, h19, h32, h45, h244, h253, h446, h448, h450, h548, h611, hg248, hg603, hg624, cs4])), aM1, aM1, aM1, iv1⟩
  intro h448
  refine Osk (Osk (Oq Vpf (KS ?_)))
  refine Kf (KS ?_)
  refine JK_drawK [0, 1, 3, 7, 7, 23, 63, 127, 7, 7, 775, 1799, 4095, 8191, 16383] fmix ?_
  refine Dv [] Vm (Dv [] Vgtr ?_)
  refine bool_split (decide (0 < a_5)) ?_ ?_
  ·intro h631
   have g632 := dt h631
   refine Db h631 [] Vm (Dv [] Vm (Dv [] Vm (Dv [] Vsub (Dv [0] (Vi sl22 0) ?_))))
   have hb633 := ok1 (i := ((a_5 - 1) : Int).toNat) ho17 rng
   refine Dv [0] (VldI sh3 0) (Dv [] Vm (Dv [] Vm (Dv [0] (Vi sl22 0) ?_)))
   have hb634 := ok1 (i := rv247.1.toNat) ho17 rng
   refine Dv [0] (VldI sh3 0) ?_
   refine letv (cmp_Less_int (data_4.getD ((a_5 - 1) : Int).toNat 0) (data_4.getD rv247.1.toNat 0)) fun rv635 hg636 => ?_
   refine Dx [] [] [0] (fun G => vb rv635) [fun G => SP.fact (True)] (fun G => xC [] ca89 (fn89 ((data_4.getD ((a_5 - 1) : Int).toNat 0)) ((data_4.getD rv247.1.toNat 0)) pre pre rv635 hg636)) (Dv [] Vnot (Dv [] Vpt ?_))
   refine Dn ⟨by kernel_rfl, fun G => ?_⟩
   refine Jw2 [(0, vl dataa0 datak0 data), (1, vi a_5), (2, vi b_6), (3, vi limit_7), (8, vb wasBalanced_8), (9, vb wasPartitioned_9), (10, vi (b_6 - a_5)), (11, vi rv247.1), (87, vb (!rv635))] [0] [SP.fact (True)] ?_
   refine Jk [0] ?_
   refine Kc ?_ ?_
   ·intro h637
    have h639 := not_true h637
    refine KS ?_
    refine Oq Vm (Oq Vm (Oq Vm (Oq Vm ?_)))
    refine Fl 0 fun hn641 => ?_; (try unfold vl); rw [← hn641]
    refine letv (sc_partitionEqualOrdered_int data_4 a_5 b_6 rv247.1) fun rv642 hg643 => ?_
    have hc644 := fn90 data_4 dataa0 datak0 a_5 b_6 rv247.1 pre pre pre pre rv642 hg643
    refine Oc [0] ca90 hc644 ?_
    rintro - ⟨he645, he646, he647⟩
    unfold i64ok at he645
    have hn648 : data_4.length = data.length := by omega
    try unfold vl
    try rw [hn648]
    refine Fb 8 0 fun _ => Fo 0 fun ho650 => ?_
    refine Oq Va (KS ?_)
    refine Oq Vm (Oq Va (KS ?_))
    refine Ke ?_
    exact Kg (r3, rv642.2, rv642.1, b_6, limit_7, wasBalanced_8, wasPartitioned_9) [0] ⟨(q3 hM10 (by simp only [sc_pdqsortOrdered_int_F_L0, h19, h32, h45, h244, h253, h446, h448, h631, h637, h639, hg248, hg636, hg643, cs4])), aM1, aM1, aM1, iv1⟩
   intro h637
   have h652 := not_false h637
   refine KS ?_
   refine Oq Vm (Oq Vm (Oq Vm (Oq Vm ?_)))
   refine Fl 0 fun hn654 => ?_; (try unfold vl); rw [← hn654]
   refine letv (sc_partitionOrdered_int data_4 a_5 b_6 rv247.1) fun rv655 hg656 => ?_
   have hc657 := fn91 data_4 dataa0 datak0 a_5 b_6 rv247.1 pre pre pre pre rv655 hg656
   refine Oc [0] ca91 hc657 ?_
   rintro - ⟨he658, he659, he660⟩
   unfold i64ok at he658
   have hn661 : data_4.length = data.length := by omega
   try unfold vl
   try rw [hn661]
   refine Fb 8 0 fun _ => Fo 0 fun ho663 => ?_
   refine Oq Vm (Oq Vx (Oq Vx (Oq Va (Oq Va (KS ?_)))))
   refine Oq Vm (Oq Va (KS ?_))
   refine Oq Vm (Oq Vm (Oq Vsub (Oq Vm (Oq Vm (Oq Vsub (Oq Va (Oq Va (KS ?_))))))))
   refine Oq Vm (Oq Vquo (Oq Va (KS ?_)))
   refine Oq Vm (Oq Vm (Oq Vlss (KS ?_)))
   refine Kc ?_ ?_
   ·intro h664
    have g665 := dt h664
    refine KS ?_
    refine Oq Vm (Oq Vm (Oq Vgeq (Oq Va (KS ?_))))
    refine Oq Vm (Oq Vm (Oq Vm (Oq Vm ?_)))
    refine Fl 0 fun hn666 => ?_; (try unfold vl); rw [← hn666]
    refine letv (rc rv655.2.2 a_5 rv655.1 limit_7) fun rv667 hg668 => ?_
    have hc669 := hrc rv655.2.2 dataa0 datak0 a_5 rv655.1 limit_7 pre pre pre pre pre pre rv667 hg668
    refine Oc [0] ca71 hc669 ?_
    rintro - he670
    have hn671 : rv655.2.2.length = data.length := by omega
    try unfold vl
    try rw [hn671]
    refine Fb 8 0 fun _ => Fo 0 fun ho673 => KS ?_
    refine Oq Vm (Oq Vadd (Oq Va (KS ?_)))
    exact Kg (r3, rv667, (rv655.1 + 1), b_6, limit_7, decide (((b_6 - a_5) / 8) ≤ (rv655.1 - a_5)), rv655.2.1) [0] ⟨(q3 hM10 (by simp only [sc_pdqsortOrdered_int_F_L0, h19, h32, h45, h244, h253, h446, h448, h631, h637, h652, h664, hg248, hg636, hg656, hg668, cs4])), aM1, aM1, aM1, iv1⟩
   intro h664
   have g674 := df h664
   refine KS ?_
   refine Oq Vm (Oq Vm (Oq Vgeq (Oq Va (KS ?_))))
   refine Oq Vm (Oq Vm (Oq Vadd (Oq Vm (Oq Vm ?_))))
   refine Fl 0 fun hn675 => ?_; (try unfold vl); rw [← hn675]
   refine letv (rc rv655.2.2 (rv655.1 + 1) b_6 limit_7) fun rv676 hg677 => ?_
   have hc678 := hrc rv655.2.2 dataa0 datak0 ((rv655.1 + 1)) b_6 limit_7 pre pre pre pre pre pre rv676 hg677
   refine Oc [0] ca71 hc678 ?_
   rintro - he679
   have hn680 : rv655.2.2.length = data.length := by omega
   try unfold vl
   try rw [hn680]
   refine Fb 8 0 fun _ => Fo 0 fun ho682 => KS ?_
   refine Oq Vm (Oq Va (KS ?_))
   exact Kg (r3, rv676, a_5, rv655.1, limit_7, decide (((b_6 - a_5) / 8) ≤ (b_6 - rv655.1)), rv655.2.1) [0] ⟨(q3 hM10 (by simp only [sc_pdqsortOrdered_int_F_L0, h19, h32, h45, h244, h253, h446, h448, h631, h637, h652, h664, hg248, hg636, hg656, hg677, cs4])), aM1, aM1, aM1, iv1⟩
  intro h631
  have g683 := df h631
  refine Db h631 [] Vm (Ds (Ds (Ds (Ds (Ds (Ds (Ds (Ds (Ds ?_)))))))))
  refine Ds (Ds (Dv [] Vpf ?_))
  refine Dn ⟨by kernel_rfl, fun G => ?_⟩
  refine Jw2 [(0, vl dataa0 datak0 data), (1, vi a_5), (2, vi b_6), (3, vi limit_7), (8, vb wasBalanced_8), (9, vb wasPartitioned_9), (10, vi (b_6 - a_5)), (11, vi rv247.1), (87, vb false)] [0] [] ?_
  refine Kf (KS ?_)
  refine Oq Vm (Oq Vm (Oq Vm (Oq Vm ?_)))
  refine Fl 0 fun hn684 => ?_; (try unfold vl); rw [← hn684]
  refine letv (sc_partitionOrdered_int data_4 a_5 b_6 rv247.1) fun rv685 hg686 => ?_
  have hc687 := fn91 data_4 dataa0 datak0 a_5 b_6 rv247.1 pre pre pre pre rv685 hg686
  refine Oc [0] ca91 hc687 ?_
  rintro - ⟨he688, he689, he690⟩
  unfold i64ok at he688
  have hn691 : data_4.length = data.length := by omega
  try unfold vl
  try rw [hn691]
  refine Fb 8 0 fun _ => Fo 0 fun ho693 => ?_
  refine Oq Vm (Oq Vx (Oq Vx (Oq Va (Oq Va (KS ?_)))))
  refine Oq Vm (Oq Va (KS ?_))
  refine Oq Vm (Oq Vm (Oq Vsub (Oq Vm (Oq Vm (Oq Vsub (Oq Va (Oq Va (KS ?_))))))))
  refine Oq Vm (Oq Vquo (Oq Va (KS ?_)))
  refine Oq Vm (Oq Vm (Oq Vlss (KS ?_)))
  refine Kc ?_ ?_
  ·intro h694
   have g695 := dt h694
   refine KS ?_
   refine Oq Vm (Oq Vm (Oq Vgeq (Oq Va (KS ?_))))
   refine Oq Vm (Oq Vm (Oq Vm (Oq Vm ?_)))
   refine Fl 0 fun hn696 => ?_; (try unfold vl); rw [← hn696]
   refine letv (rc rv685.2.2 a_5 rv685.1 limit_7) fun rv697 hg698 => ?_
   have hc699 := hrc rv685.2.2 dataa0 datak0 a_5 rv685.1 limit_7 pre pre pre pre pre pre rv697 hg698
   refine Oc [0] ca71 hc699 ?_
   rintro - he700
   have hn701 : rv685.2.2.length = data.length := by omega
   try unfold vl
   try rw [hn701]
   refine Fb 8 0 fun _ => Fo 0 fun ho703 => KS ?_
   refine Oq Vm (Oq Vadd (Oq Va (KS ?_)))
   exact Kg (r3, rv697, (rv685.1 + 1), b_6, limit_7, decide (((b_6 - a_5) / 8) ≤ (rv685.1 - a_5)), rv685.2.1) [0] ⟨(q3 hM10 (by simp only [sc_pdqsortOrdered_int_F_L0, h19, h32, h45, h244, h253, h446, h448, h631, h694, hg248, hg686, hg698, cs4])), aM1, aM1, aM1, iv1⟩
  intro h694
  have g704 := df h694
  refine KS ?_
  refine Oq Vm (Oq Vm (Oq Vgeq (Oq Va (KS ?_))))
  refine Oq Vm (Oq Vm (Oq Vadd (Oq Vm (Oq Vm ?_))))
  refine Fl 0 fun hn705 => ?_; (try unfold vl); rw [← hn705]
  refine letv (rc rv685.2.2 (rv685.1 + 1) b_6 limit_7) fun rv706 hg707 => ?_
  have hc708 := hrc rv685.2.2 dataa0 datak0 ((rv685.1 + 1)) b_6 limit_7 pre pre pre pre pre pre rv706 hg707
  refine Oc [0] ca71 hc708 ?_
  rintro - he709
  have hn710 : rv685.2.2.length = data.length := by omega
  try unfold vl
  try rw [hn710]
  refine Fb 8 0 fun _ => Fo 0 fun ho712 => KS ?_
  refine Oq Vm (Oq Va (KS ?_))
  exact Kg (r3, rv706, a_5, rv685.1, limit_7, decide (((b_6 - a_5) / 8) ≤ (b_6 - rv685.1)), rv685.2.1) [0] ⟨(q3 hM10 (by simp only [sc_pdqsortOrdered_int_F_L0, h19, h32, h45, h244, h253, h446, h448, h631, h694, hg248, hg686, hg707, cs4])), aM1, aM1, aM1, iv1⟩
 intro h446
 exact absurd h446 (by first | (simp [h45]; done) | (simp only [bne, h45]; decide) | (simp only [bne, h45, Bool.not_true, Bool.not_false]; decide) | (exfalso; omega) | (intro hq; simp only [bne, hq, Bool.not_false, Bool.not_true, reduceCtorEq] at h45))
theorem fn71 : ∀ (fu : Nat) (data : List Int) (dataa0 : Option Addr) (datak0 : Nat) (a : Int) (b : Int) (limit : Int) (ha_0 : i64ok a) (hb_0 : i64ok b) (hlimit_0 : i64ok limit) (ha0 : 0 ≤ a ∧ a ≤ b ∧ b ≤ (data.length : Int) ∧ data.length ≤ 65535) (hl0 : 0 ≤ limit ∧ limit ≤ 1000) (hfu : (b - a).toNat < fu) (rr : List Int) (hrr : sc_pdqsortOrdered_int fu data a b limit = rr), FT Tryz.prog 71 #[vl dataa0 datak0 data, vi a, vi b, vi limit] [O dataa0 datak0 data] (fun g : Unit => (rr.length = data.length)) (fun g => .tuple #[]) (fun g => [os (vl dataa0 datak0 data) rr])
 | 0, data, dataa0, datak0, a, b, limit, ha_0, hb_0, hlimit_0, ha0, hl0, hfu, _, _ => absurd hfu (Nat.not_lt_zero _)
 | fu + 1, data, dataa0, datak0, a, b, limit, ha_0, hb_0, hlimit_0, ha0, hl0, hfu, rr, hrr => fn71F (sc_pdqsortOrdered_int fu) _ data dataa0 datak0 a b limit rfl (fun d a b l h1 h2 h3 h4 h5 => pdq_l fu d a b l (Nat.lt_of_lt_of_le h5 (Nat.le_of_lt_succ hfu)) h1 h2 h3 h4) (fun data1 dataa01 datak01 a1 b1 limit1 ha_01 hb_01 hlimit_01 ha01 hl01 hm rr1 hrr1 => fn71 fu data1 dataa01 datak01 a1 b1 limit1 ha_01 hb_01 hlimit_01 ha01 hl01 (Nat.lt_of_lt_of_le hm (Nat.le_of_lt_succ hfu)) rr1 hrr1) ha_0 hb_0 hlimit_0 ha0 hl0 rr (by simpa only [sc_pdqsortOrdered_int] using hrr)
theorem fn41 (x : List Int) (xa0 : Option Addr) (xk0 : Nat) (ha0 : x.length ≤ 65535) (rr : List Int) (hrr : sc_Sort_int x = rr) : FT Tryz.prog 41 #[vl xa0 xk0 x] [O xa0 xk0 x] (fun g : Unit => (rr.length = x.length)) (fun g => .tuple #[]) (fun g => [os (vl xa0 xk0 x) rr]) := by
 refine FTi Tryz.func41 fun w0 M0 F0 => Fb 8 0 fun _ => Fo 0 fun ho2 => ?_
 refine KS ?_
 refine Oq Vm (Oq (Vlen sl22) (Oq Va (KS ?_)))
 refine Oq Vm (Oq Vm (Oq Vm (Oq (VcU un3 un84) ?_)))
 refine letv (bits_Len (BitVec.ofInt 64 (x.length : Int))) fun rv3 hg4 => ?_
 have hln := Len_f hg4 (by rw [ofI_nat aM1]; omega)
 have hc5 := fn72 ((BitVec.ofInt 64 (x.length : Int))) (by rw [ofI_nat aM1]; omega) rv3 hg4
 refine Oc [] ca72 hc5 ?_
 rintro - he6
 unfold i64ok at he6
 refine letv (sc_pdqsortOrdered_int (x.length + 1) x 0 (x.length : Int) rv3) fun rv7 hg8 => ?_
 have hc9 := fn71 (x.length + 1) x xa0 xk0 0 ((x.length : Int)) rv3 pre pre pre pre pre pre rv7 hg8
 refine Oc [0] ca71 hc9 ?_
 rintro - he10
 refine Fb 8 0 fun _ => Fo 0 fun ho12 => KS ?_
 refine Fl 0 fun hn13 => ?_
 have hq := q4 hrr rv7 (by simp only [sc_Sort_int, hg4, hg8, cs4]); subst hq
 exact Kz () rfl .nil [0] en
theorem fn65 (s : List Int) (sa0 : Option Addr) (sk0 : Nat) (rr : List Int) (hrr : sc_Clone_int s = rr) : FT Tryz.prog 65 #[vl sa0 sk0 s] [S sa0 sk0 s] (fun g : Value => (rr.length = s.length)) (fun g => g) (fun g => [os g rr]) := by
 have hm : sc_Clone_int s = s := rfl
 rw [hm] at hrr
 subst hrr
 refine FTi Tryz.func65 fun w0 M0 F0 => ?_
 refine KS ?_
 refine Oq Va ?_
 refine KS ?_
 refine Oq Vm ?_
 refine Oq (VeqN un22) ?_
 refine KS ?_
 refine Kc ?_ ?_
 ·intro h
  refine Jnil 0 h ?_
  intro h0
  subst h0
  refine KS ?_
  refine Oq Va ?_
  refine KS ?_
  refine Jl [] (Ent.osNil (α := Int)) ?_
  exact Kr (.slice none 0 0) rfl (.tmp rfl .nil) [0] rfl
 ·intro _
  refine KS ?_
  refine Oa (As0 sl22) fun c1 => ?_
  refine Jo 0 ?_; rintro a2 k3 rfl
  refine Oq Vm ?_
  refine Fb 8 1 fun hl => ?_
  refine Jl [0] (Ent.crNil (α := Int) _) ?_
  refine Oa (Ap0 [0, 0] sl22 sl22 sz22) fun c4 => ?_
  refine Oq Va ?_
  refine KS ?_
  exact Kr c4 rfl (.tmp rfl .nil) [0] rfl
theorem fn66 (s : List Int) (sa0 : Option Addr) (sk0 : Nat) (rr : List Int) (hrr : sc_Compact_int s = rr) : FT Tryz.prog 66 #[vl sa0 sk0 s] [O sa0 sk0 s] (fun g : Value => True) (fun g => g) (fun g => [os g rr]) := by
 refine FTi Tryz.func66 fun w0 M0 F0 => Fb 8 0 fun _ => Fo 0 fun ho2 => ?_
 refine KS ?_
 refine Oq Va (KS ?_)
 refine Oq Vm (Oq (Vlen sl22) (Oq Vlss (KS ?_)))
 refine Kc ?_ ?_
 ·intro h3
  have g4 := dt h3
  refine KS ?_
  refine Oq Vm (Oq Va (KS ?_))
  have hq := q4 hrr s (by simp only [sc_Compact_int, h3, cs4]); subst hq
  exact Kr (vl sa0 sk0 s) rfl (.tmp rfl .nil) [0] trivial
 intro h3
 have g5 := df h3
 refine KS ?_
 refine Oq Va (KS ?_)
 refine Kl (γ := Nat × Int) (fun (r6, k_7) => ⟨[(0, vl sa0 sk0 s), (3, vi k_7)], [O sa0 sk0 s], sc_Compact_int_L0 s r6 k_7 = sc_Compact_int_L0 s (((s.length : Int) - 1).toNat) 1 ∧ r6 = ((s.length : Int) - k_7).toNat ∧ (1 : Int) ≤ k_7 ∧ (k_7 ≤ (s.length : Int) ∨ k_7 = 1) ∧ (-9223372036854775808 ≤ k_7 ∧ k_7 ≤ 9223372036854775807), r6⟩) (((s.length : Int) - 1).toNat, 1) [0] ⟨rfl, rfl, aM1, (.inr rfl), aM1⟩ ?_
 rintro ⟨r6, k_7⟩ ⟨hM8, hr9, hi10, hi11, hk12⟩
 refine JJ_nx fun _ _ hL hA => ?_; dsimp only at hL hA; subst hL hA
 refine Fb 8 0 fun _ => Fo 0 fun ho14 => KS ?_
 refine Oq Vm (Oq Vm (Oq (Vlen sl22) (Oq Vlss (KS ?_))))
 refine Kc ?_ ?_
 ·intro h15
  have g16 := dt h15
  obtain ⟨r17, rfl⟩ := scc (n := r6) aM1
  refine KS ?_
  refine Kq [0, 0, 3, 7, 0, 0, 32, 112, 240, 511] fmix ?_
  refine Qv [] Vm (Qv [] Vm (Qv [0] (Vi sl22 0) ?_))
  have hb18 := ok1 (i := k_7.toNat) ho14 rng
  refine Qv [0] (VldI sh3 0) (Qv [] Vm (Qv [] Vm (Qv [] Vsub (Qv [0] (Vi sl22 0) ?_))))
  have hb19 := ok1 (i := ((k_7 - 1) : Int).toNat) ho14 rng
  refine Qv [0] (VldI sh3 0) (Qv [] Veql ?_)
  refine Qn ⟨by kernel_rfl, ?_⟩
  refine Kc ?_ ?_
  ·intro h20
   have g21 := eq_of_beq h20
   refine KS ?_
   refine Oq Vm (Oq Vm (Oq (VslA sl22 0 (k_7.toNat)) (Oq Va (KS ?_))))
   refine Oq Va (KS ?_)
   refine Kl (γ := Nat × List Int × Int × Int) (fun (r22, s_23, k_24, k2_25) => ⟨[(0, vl sa0 sk0 s), (3, vi k_24), (4, .slice ((sa0 : Option Addr).map (·.add (k_7.toNat * 1))) (s.length - k_7.toNat) (sk0 - k_7.toNat)), (5, vi k2_25)], [os (vl sa0 sk0 s) s_23], sc_Compact_int_L1 k_7 r22 s_23 k_24 k2_25 = sc_Compact_int_L1 k_7 ((((((s.length - k_7.toNat) : Nat) : Int) : Int) - 1).toNat) s k_7 1 ∧ r22 = (((((s.length - k_7.toNat) : Nat) : Int) : Int) - k2_25).toNat ∧ (1 : Int) ≤ k2_25 ∧ (k2_25 ≤ (((s.length - k_7.toNat) : Nat) : Int) ∨ k2_25 = 1) ∧ (-9223372036854775808 ≤ k_24 ∧ k_24 ≤ 9223372036854775807) ∧ (-9223372036854775808 ≤ k2_25 ∧ k2_25 ≤ 9223372036854775807) ∧ (s_23.length = s.length) ∧ (k_7 ≤ k_24 ∧ k_24 < k_7 + k2_25), r22⟩) ((((((s.length - k_7.toNat) : Nat) : Int) : Int) - 1).toNat, s, k_7, 1) [0] ⟨rfl, rfl, aM1, (.inr rfl), aM1, aM1, iv0, iv0⟩ ?_
   rintro ⟨r22, s_23, k_24, k2_25⟩ ⟨hM26, hr27, hi28, hi29, hk30, hk31, hv32, hv33⟩
   refine JJ_nx fun _ _ hL hA => ?_; dsimp only at hL hA; subst hL hA
   refine Fb 8 0 fun _ => Fo 0 fun ho35 => Fl 0 fun hn36 => ?_
   refine KS ?_
   refine Oq Vm (Oq Vm (Oq (Vlen sl22) (Oq Vlss (KS ?_))))
   refine Kc ?_ ?_
   ·intro h37
    have g38 := dt h37
    obtain ⟨r39, rfl⟩ := scc (n := r22) aM1
    refine KS ?_
    refine Kq [0, 0, 3, 7, 0, 0, 32, 112, 240, 511] fmix ?_
    refine Qv [] Vm (Qv [] Vm (Qv [0] (ViA sl22 0 (k_7.toNat)) ?_))
    have hb40 := ok1 (i := (k_7.toNat + k2_25.toNat)) ho35 rng
    refine Qv [0] (VldI sh3 0) (Qv [] Vm (Qv [] Vm (Qv [] Vsub (Qv [0] (ViA sl22 0 (k_7.toNat)) ?_))))
    have hb41 := ok1 (i := (k_7.toNat + ((k2_25 - 1) : Int).toNat)) ho35 rng
    refine Qv [0] (VldI sh3 0) (Qv [] Vneq ?_)
    refine Qn ⟨by kernel_rfl, ?_⟩
    refine Kc ?_ ?_
    ·intro h42
     have g43 := ne_of_bne h42
     refine KS ?_
     refine Oq Vm (Oq Vm (Oq Vm (Oq Vm (Oq (ViA sl22 0 (k_7.toNat)) ?_))))
     have hb44 := ok1 (i := (k_7.toNat + k2_25.toNat)) ho35 rng
     refine Oq (VldI sh3 0) (Oq (Vi sl22 0) (Ost (SoI [0] sh3) (KS ?_)))
     refine Oq Vm (Oq Vadd (Oq Va (KS ?_)))
     refine Oq Vm (Oq Vadd (Oq Va (KS ?_)))
     exact Kg (r39, (s_23.set k_24.toNat (s_23.getD (k_7.toNat + k2_25.toNat) 0)), (k_24 + 1), (k2_25 + 1)) [0] ⟨(q3 hM26 (by simp only [sc_Compact_int_L1, h37, h42, cs4])), aM1, aM1, aM1, aM1, aM1, iv1, iv1⟩
    intro h42
    have g45 := eq_of_bne_false h42
    refine KS ?_
    refine Oq Vm (Oq Vadd (Oq Va (KS ?_)))
    exact Kg (r39, s_23, k_24, (k2_25 + 1)) [0] ⟨(q3 hM26 (by simp only [sc_Compact_int_L1, h37, h42, cs4])), aM1, aM1, aM1, aM1, aM1, iv1, iv1⟩
   intro h37
   have g46 := df h37
   obtain rfl : r22 = 0 := by omega
   refine Ke ?_
   have hR47 := q2 hM26 (s_23, k_24) (by simp only [sc_Compact_int_L1, h37, cs4])
   refine KS ?_
   refine Oq Vm (Oq Vm (Oq (VslA sl22 0 (k_24.toNat)) ?_))
   refine Oan (OpA.frame [0] rfl (OpA.clearI sl22 ze3 (k_24.toNat) rfl rfl aM1)) fun _ => ?_
   have hn48 : ((s_23.take (k_24.toNat)) ++ (List.replicate (s.length - k_24.toNat) 0)).length = s_23.length := by simp only [List.length_append, List.length_take, List.length_replicate]; omega
   refine KS ?_
   refine Oq Vm (Oq Vm (Oa (AslO [0] sl22 0 (k_24.toNat)) fun c49 => ?_))
   refine Jo 0 ?_; rintro a50 k51 rfl
   refine Fb 8 0 fun _ => Fo 0 fun ho53 => ?_
   have hn54 : ((((s_23.take (k_24.toNat)) ++ (List.replicate (s.length - k_24.toNat) 0)).take (k_24.toNat)).drop 0).length = (k_24.toNat) - 0 := len_slice rng rng
   refine Oq Va (KS ?_)
   have hR55 := q2 hM8 (.ret ((((s_23.take (k_24.toNat)) ++ (List.replicate (s.length - k_24.toNat) 0)).take (k_24.toNat)).drop 0)) (by simp only [sc_Compact_int_L0, h15, h20, h37, hR47, cs4])
   have hq := q4 hrr ((((s_23.take (k_24.toNat)) ++ (List.replicate (s.length - k_24.toNat) 0)).take (k_24.toNat)).drop 0) (by simp only [sc_Compact_int, h3, h15, h20, h37, hR47, hR55, cs4]); subst hq
   exact Kr (.slice a50 (((((s_23.take (k_24.toNat)) ++ (List.replicate (s.length - k_24.toNat) 0)).take (k_24.toNat)).drop 0).length) k51) rfl (.tmp rfl .nil) [0] trivial
  intro h20
  have g56 := ne_of_beq_false h20
  refine KS ?_
  refine Oq Vm (Oq Vadd (Oq Va (KS ?_)))
  exact Kg (r17, (k_7 + 1)) [0] ⟨(q3 hM8 (by simp only [sc_Compact_int_L0, h15, h20, cs4])), aM1, aM1, aM1, aM1⟩
 intro h15
 have g57 := df h15
 obtain rfl : r6 = 0 := by omega
 refine Ke ?_
 have hR58 := q2 hM8 (.brk ()) (by simp only [sc_Compact_int_L0, h15, cs4])
 refine KS ?_
 refine Oq Vm (Oq Va (KS ?_))
 have hq := q4 hrr s (by simp only [sc_Compact_int, h3, h15, hR58, cs4]); subst hq
 exact Kr (vl sa0 sk0 s) rfl (.tmp rfl .nil) [0] trivial
theorem fn32 (l : List Int) (la0 : Option Addr) (lk0 : Nat) (hl12 : l.length ≤ 65535) (rr : Bool) (hrr : cn_distinct l = rr) : FT Tryz.prog 32 #[vl la0 lk0 l] [S la0 lk0 l] (fun g : Unit => True) (fun g => vb rr) (fun g => []) := by
 refine FTi Tryz.func32 fun w0 M0 F0 => Fb 8 0 fun _ => Fo 0 fun ho2 => ?_
 refine KS ?_
 refine Oq Va (KS ?_)
 refine Oq Vm ?_
 refine letv (sc_Clone_int l) fun rv4 hg5 => ?_
 have hc6 := fn65 l la0 lk0 rv4 hg5
 refine Oc [0] ca65 hc6 ?_
 rintro c3 he7
 refine Jo 0 ?_; rintro a8 k9 rfl
 refine Fb 8 0 fun _ => Fo 0 fun ho11 => ?_
 refine Oq Va (KS ?_)
 refine Oq Vm ?_
 refine letv (sc_Sort_int rv4) fun rv12 hg13 => ?_
 have hc14 := fn41 rv4 a8 k9 pre rv12 hg13
 refine Oc [0] ca41 hc14 ?_
 rintro - he15
 refine Fb 8 0 fun _ => Fo 0 fun ho17 => KS ?_
 refine Oq Vm (Oq (Vlen sl22) (Oq Vgtr (Oq Vm ?_)))
 refine Js 11 ?_ ?_
 ·intro h18
  have g19 := dt h18
  refine Oq Vm ?_
  refine Fl 0 fun hn20 => ?_; (try unfold vl); rw [← hn20]
  refine letv (sc_Compact_int rv12) fun rv22 hg23 => ?_
  have hc24 := fn66 rv12 a8 k9 rv22 hg23
  refine Oc [0] ca66 hc24 ?_
  rintro c21 -
  refine Jo 0 ?_; rintro a25 k26 rfl
  refine Fb 8 0 fun _ => Fo 0 fun ho28 => ?_
  refine Oq (Vlen sl22) (Oq Vm (Oq (Vlen sl22) (Oq Veql (Oq Vpt (Oq Va (KS ?_))))))
  have hq := q4 hrr ((rv22.length : Int) == (l.length : Int)) (by simp only [cn_distinct, h18, hg5, hg13, hg23, cs4]); subst hq
  exact Kr () rfl (.tmp rfl .nil) [] trivial
 intro h18
 have g29 := df h18
 refine Osk (Osk (Osk (Osk (Osk (Osk (Oq Vpf (Oq Va (KS ?_))))))))
 have hq := q4 hrr false (by simp only [cn_distinct, h18, hg5, hg13, cs4]); subst hq
 exact Kr () rfl (.tmp rfl .nil) [] trivial
theorem fn33 (k : GKnown) (ka2 : Option Addr) (kk2 : Nat) (hk_0 : i64ok k.Node) (hk_1 : i64ok k.Value.Width) (rr : Bool) (hrr : cn_Restrict_2 k = rr) : FT Tryz.prog 33 #[.agg #[vi k.Node, vi k.Value.Width, vl ka2 kk2 k.Value.Words]] [S ka2 kk2 k.Value.Words] (fun g : Unit => True) (fun g => vb rr) (fun g => []) := by
 refine FTi Tryz.func33 fun w0 M0 F0 => ?_
 unfold i64ok at hk_0 hk_1
 refine Fb 8 0 fun _ => KS ?_
 refine Oa (Ab [vi k.Node, vi k.Value.Width, vl ka2 kk2 k.Value.Words]) fun p2 => Oq Va (KS ?_)
 refine Oq (Vfa fo65_1 0) (Oq (VldG sh53 0 [vi k.Value.Width, vl ka2 kk2 k.Value.Words]) ?_)
 refine letv (bt_Valid k.Value) fun rv3 hg4 => ?_
 have hc5 := fn34 k.Value ka2 kk2 pre rv3 hg4
 refine Oc [1] ca34 hc5 ?_
 rintro - -
 refine Oq Vnot (Oq Va (KS ?_))
 have hq := q4 hrr (!rv3) (by simp only [cn_Restrict_2, hg4, cs4]); subst hq
 exact Kr () rfl (.tmp rfl .nil) [] trivial
theorem fn35 (k : GKnown) (ka2 : Option Addr) (kk2 : Nat) (cap0P : Value) (cap0 : GSystem) (cap0a1 : Option Addr) (cap0k1 : Nat) (cap0a2 : Option Addr) (cap0k2 : Nat) (cap0a3 : Option Addr) (cap0k3 : Nat) (hk_0 : i64ok k.Node) (hk_1 : i64ok k.Value.Width) (hcap0_0 : i64ok cap0.Width) (rr : Bool) (hrr : cn_Restrict_3 k cap0 = rr) : FT Tryz.prog 35 #[.agg #[vi k.Node, vi k.Value.Width, vl ka2 kk2 k.Value.Words], cap0P] [S ka2 kk2 k.Value.Words, pv cap0P [vi cap0.Width, vl cap0a1 cap0k1 cap0.Deps, vl cap0a2 cap0k2 cap0.Transfers, vl cap0a3 cap0k3 cap0.Boundary], S cap0a1 cap0k1 cap0.Deps, S cap0a2 cap0k2 cap0.Transfers, S cap0a3 cap0k3 cap0.Boundary] (fun g : Unit => True) (fun g => vb rr) (fun g => []) := by
 refine FTi Tryz.func35 fun w0 M0 F0 => ?_
 unfold i64ok at hk_0 hk_1 hcap0_0
 refine Fb 8 0 fun _ => Fb 24 2 fun _ => Fb 88 3 fun _ => Fb 32 4 fun _ => KS ?_
 refine Oa (Ab [vi k.Node, vi k.Value.Width, vl ka2 kk2 k.Value.Words]) fun p5 => Oq Va (KS ?_)
 refine Oq (Vfa fo65_1 0) (Oq (VfaF fo53_0 0) (Oq (VldF sh3 0) (Oq (Vfa fo27_0 2) (Oq (VldF sh3 2) (Oq Vneq (Oq Va (KS ?_)))))))
 have hq := q4 hrr (k.Value.Width != cap0.Width) (by simp only [cn_Restrict_3, cs4]); subst hq
 exact Kr () rfl (.tmp rfl .nil) [] trivial
theorem fn70 (s : List (BitVec 64)) (sa0 : Option Addr) (sk0 : Nat) (rr : List (BitVec 64)) (hrr : sc_Clone_uint64 s = rr) : FT Tryz.prog 70 #[vl sa0 sk0 s] [S sa0 sk0 s] (fun g : Value => (rr.length = s.length)) (fun g => g) (fun g => [os g rr]) := by
 have hm : sc_Clone_uint64 s = s := rfl
 rw [hm] at hrr
 subst hrr
 refine FTi Tryz.func70 fun w0 M0 F0 => ?_
 refine KS ?_
 refine Oq Va ?_
 refine KS ?_
 refine Oq Vm ?_
 refine Oq (VeqN un51) ?_
 refine KS ?_
 refine Kc ?_ ?_
 ·intro h
  refine Jnil 0 h ?_
  intro h0
  subst h0
  refine KS ?_
  refine Oq Va ?_
  refine KS ?_
  refine Jl [] (Ent.osNil (α := BitVec 64)) ?_
  exact Kr (.slice none 0 0) rfl (.tmp rfl .nil) [0] rfl
 ·intro _
  refine KS ?_
  refine Oa (As0 sl51) fun c1 => ?_
  refine Jo 0 ?_; rintro a2 k3 rfl
  refine Oq Vm ?_
  refine Fb 8 1 fun hl => ?_
  refine Jl [0] (Ent.crNil (α := BitVec 64) _) ?_
  refine Oa (Ap0 [0, 0] sl51 sl51 sz51) fun c4 => ?_
  refine Oq Va ?_
  refine KS ?_
  exact Kr c4 rfl (.tmp rfl .nil) [0] rfl
theorem fn36 (s : GSet) (sa1 : Option Addr) (sk1 : Nat) (hs_0 : i64ok s.Width) (rr : GSet) (hrr : cn_clone s = rr) : FT Tryz.prog 36 #[.agg #[vi s.Width, vl sa1 sk1 s.Words]] [S sa1 sk1 s.Words] (fun g : Value => i64ok rr.Width) (fun g => .agg #[vi rr.Width, g]) (fun g => [sl g rr.Words]) := by
 refine FTi Tryz.func36 fun w0 M0 F0 => ?_
 unfold i64ok at hs_0
 refine Fb 8 0 fun _ => KS ?_
 refine Oa (Ab [vi s.Width, vl sa1 sk1 s.Words]) fun p2 => Oa (Al ze53 [vi 0, .slice none 0 0]) fun p3 => KS ?_
 refine JK_drawK [0, 1, 0, 4, 12, 31, 63] fmix ?_
 refine Dv [1] (Vfa fo53_0 0) (Dv [1] (VldF sh3 0) (Dv [1] (Vfa fo53_1 0) (Dv [1] (VldF sh51 0) ?_)))
 refine letv (sc_Clone_uint64 s.Words) fun rv5 hg6 => Dx [2] [] [2, 0, 1] (fun G => (G.g 4 0)) [fun G => SP.fact ((rv5.length = s.Words.length)), fun G => os (G.g 4 0) rv5] (fun G => xC [0] ca70 (fn70 s.Words sa1 sk1 rv5 hg6)) ?_
 refine Dx [4] [] [0] (fun G => .agg #[vi s.Width, (G.g 4 0)]) [] (fun G => xV (v := .agg #[vi s.Width, (G.g 4 0)]) (Vo 0 rfl (isO_os _ _) fun aq7 kq8 eq9 => (by rw [eq9]; exact Vbd st53 [vi s.Width, .slice aq7 ((rv5 : List (BitVec 64)).length) kq8]))) (Dx0 [0, 4] [0] [1, 0] [fun G => Cl p3 [vi s.Width, (G.g 4 0)]] (fun G => x1 1 rfl os_one fun ho10 => (xS (Scl [0] sh53 [vi s.Width, (G.g 4 0)] (v := .agg #[vi s.Width, (G.g 4 0)]) (h1 := show [vi s.Width, (G.g 4 0)].all (·.oneCell') = true from (by simp only [List.all_cons, List.all_nil, ho10, Bool.and_true, Bool.true_and] <;> rfl))))) ?_)
 refine Dn ⟨by kernel_rfl, fun G => ?_⟩
 refine Jw2 [(2, p3)] [1, 2] [SP.fact ((rv5.length = s.Words.length)), os (G.g 4 0) rv5, Cl p3 [vi s.Width, (G.g 4 0)]] ?_
 generalize G.g 4 0 = c4
 refine Jf 2 rfl ?_; rintro he11
 refine Jk [0, 1, 3, 3] ?_
 refine Jo 2 ?_; rintro a12 k13 rfl
 refine Fb 8 2 fun _ => ?_
 refine Jl [2] (Ent.freeze _ _) ?_
 have hq := q4 hrr (GSet.mk s.Width rv5) (by simp only [cn_clone, hg6, cs4]); subst hq
 exact Kr (vl a12 k13 rv5) rfl (.cellN 3 rfl sh53 rfl (reads_Cl _ _) rfl .nil) [0] en
theorem fn37 (s : List GCopy) (sa0 : Option Addr) (sk0 : Nat) (rr : List GCopy) (hrr : sc_Clone_Copy s = rr) : FT Tryz.prog 37 #[vl sa0 sk0 s] [S sa0 sk0 s] (fun g : Value => (rr.length = s.length)) (fun g => g) (fun g => [os g rr]) := by
 have hm : sc_Clone_Copy s = s := rfl
 rw [hm] at hrr
 subst hrr
 refine FTi Tryz.func37 fun w0 M0 F0 => ?_
 refine KS ?_
 refine Oq Va ?_
 refine KS ?_
 refine Oq Vm ?_
 refine Oq (VeqN un55) ?_
 refine KS ?_
 refine Kc ?_ ?_
 ·intro h
  refine Jnil 0 h ?_
  intro h0
  subst h0
  refine KS ?_
  refine Oq Va ?_
  refine KS ?_
  refine Jl [] (Ent.osNil (α := GCopy)) ?_
  exact Kr (.slice none 0 0) rfl (.tmp rfl .nil) [0] rfl
 ·intro _
  refine KS ?_
  refine Oa (As0 sl55) fun c1 => ?_
  refine Jo 0 ?_; rintro a2 k3 rfl
  refine Oq Vm ?_
  refine Fb 16 1 fun hl => ?_
  refine Jl [0] (Ent.crNil (α := GCopy) _) ?_
  refine Oa (Ap0 [0, 0] sl55 sl55 sz55) fun c4 => ?_
  refine Oq Va ?_
  refine KS ?_
  exact Kr c4 rfl (.tmp rfl .nil) [0] rfl
theorem fn39 (k : GKnown) (ka2 : Option Addr) (kk2 : Nat) (cap0P : Value) (cap0 : Int) (hk_0 : i64ok k.Node) (hk_1 : i64ok k.Value.Width) (hcap0_0 : i64ok cap0) (rr : Bool) (hrr : cn_Restrict_4 k cap0 = rr) : FT Tryz.prog 39 #[.agg #[vi k.Node, vi k.Value.Width, vl ka2 kk2 k.Value.Words], cap0P] [S ka2 kk2 k.Value.Words, pv cap0P [vi cap0]] (fun g : Unit => True) (fun g => vb rr) (fun g => []) := by
 refine FTi Tryz.func39 fun w0 M0 F0 => ?_
 unfold i64ok at hk_0 hk_1 hcap0_0
 refine Fb 8 0 fun _ => KS ?_
 refine Oa (Ab [vi k.Node, vi k.Value.Width, vl ka2 kk2 k.Value.Words]) fun p2 => Oq Va (KS ?_)
 refine Oq (Vfa fo65_0 0) (Oq (VldF sh3 0) (Oq (Vld sh3 2) (Oq Veql (Oq Va (KS ?_)))))
 have hq := q4 hrr (k.Node == cap0) (by simp only [cn_Restrict_4, cs4]); subst hq
 exact Kr () rfl (.tmp rfl .nil) [] trivial
theorem fn40 (s : List Int) (sa0 : Option Addr) (sk0 : Nat) (v : Int) (hv_0 : i64ok v) (rr : Int) (hrr : sc_Index_int s v = rr) : FT Tryz.prog 40 #[vl sa0 sk0 s, vi v] [S sa0 sk0 s] (fun g : Unit => i64ok rr) (fun g => vi rr) (fun g => []) := by
 refine FTi Tryz.func40 fun w0 M0 F0 => ?_
 unfold i64ok at hv_0
 refine Fb 8 0 fun _ => Fo 0 fun ho2 => KS ?_
 refine Oq Va (KS ?_)
 refine Oq Vm (Oq (Vlen sl22) (Oq Vm (KS ?_)))
 refine Kl (γ := Nat × Int) (fun (r3, v8_4) => ⟨[(0, vl sa0 sk0 s), (1, vi v), (7, vi (s.length : Int)), (8, vi v8_4)], [S sa0 sk0 s], sc_Index_int_L0 s v r3 v8_4 = sc_Index_int_L0 s v (((s.length : Int) - 0).toNat) 0 ∧ r3 = ((s.length : Int) - v8_4).toNat ∧ (0 : Int) ≤ v8_4 ∧ v8_4 ≤ (s.length : Int) ∧ (-9223372036854775808 ≤ v8_4 ∧ v8_4 ≤ 9223372036854775807), r3⟩) (((s.length : Int) - 0).toNat, 0) [0] ⟨rfl, rfl, aM1, aM1, aM1⟩ ?_
 rintro ⟨r3, v8_4⟩ ⟨hM5, hr6, hi7, hi8, hk9⟩
 refine JJ_nx fun _ _ hL hA => ?_; dsimp only at hL hA; subst hL hA
 refine Fb 8 0 fun _ => Fo 0 fun ho11 => KS ?_
 refine Oq Vlss (KS ?_)
 refine Kc ?_ ?_
 ·intro h12
  have g13 := dt h12
  obtain ⟨r14, rfl⟩ := scc (n := r3) aM1
  refine KS ?_
  refine Oq Vm (Oq Va (KS ?_))
  refine Oq Vm (Oq Vm (Oq Vm (Oq (Vi sl22 0) ?_)))
  have hb15 := ok1 (i := v8_4.toNat) ho11 rng
  refine Oq (VldI sh3 0) (Oq Veql (KS ?_))
  refine Kc ?_ ?_
  ·intro h16
   have g17 := eq_of_beq h16
   refine KS ?_
   refine Oq Vm (Oq Va (KS ?_))
   have hR18 := q2 hM5 (.ret v8_4) (by simp only [sc_Index_int_L0, h12, h16, cs4])
   have hq := q4 hrr v8_4 (by simp only [sc_Index_int, h12, h16, hR18, cs4]); subst hq
   exact Kr () rfl (.tmp rfl .nil) [] en
  intro h16
  have g19 := ne_of_beq_false h16
  refine KS ?_
  refine Oq Vadd (Oq Vm (KS ?_))
  exact Kg (r14, (v8_4 + 1)) [0] ⟨(q3 hM5 (by simp only [sc_Index_int_L0, h12, h16, cs4])), aM1, aM1, aM1, aM1⟩
 intro h12
 have g20 := df h12
 obtain rfl : r3 = 0 := by omega
 refine Ke ?_
 have hR21 := q2 hM5 (.brk ()) (by simp only [sc_Index_int_L0, h12, cs4])
 refine KS ?_
 refine Oq Va (KS ?_)
 have hq := q4 hrr (-1) (by simp only [sc_Index_int, h12, hR21, cs4]); subst hq
 exact Kr () rfl (.tmp rfl .nil) [] en
theorem fn10 (s : GSystem) (sa1 : Option Addr) (sk1 : Nat) (sa2 : Option Addr) (sk2 : Nat) (sa3 : Option Addr) (sk3 : Nat) (cone : List Int) (conea0 : Option Addr) (conek0 : Nat) (known : List GKnown) (knowna0 : Option Addr) (knownk0 : Nat) (hs_0 : i64ok s.Width) (hc12 : cone.length ≤ 65535) (rr : GSystem × Int) (hrr : cn_Restrict s cone known = rr) : FT Tryz.prog 10 #[.agg #[vi s.Width, vl sa1 sk1 s.Deps, vl sa2 sk2 s.Transfers, vl sa3 sk3 s.Boundary], vl conea0 conek0 cone, vl knowna0 knownk0 known] [S sa1 sk1 s.Deps, S sa2 sk2 s.Transfers, S sa3 sk3 s.Boundary, S conea0 conek0 cone, S knowna0 knownk0 known] (fun g : Value × Value × Value => i64ok rr.1.Width ∧ i64ok rr.2) (fun g => .tuple #[.agg #[vi rr.1.Width, g.1, g.2.1, g.2.2], vi rr.2]) (fun g => [sl g.1 rr.1.Deps, sl g.2.1 rr.1.Transfers, sl g.2.2 rr.1.Boundary]) := by
 refine FTi Tryz.func10 fun w0 M0 F0 => ?_
 unfold i64ok at hs_0
 refine Fb 24 0 fun _ => Fb 88 1 fun _ => Fb 32 2 fun _ => Fb 8 3 fun _ => Fo 3 fun ho5 => Fb 40 4 fun _ => KS ?_
 refine Oa (Ab [vi s.Width, vl sa1 sk1 s.Deps, vl sa2 sk2 s.Transfers, vl sa3 sk3 s.Boundary]) fun p7 => Oa (Al ze27 [vi 0, .slice none 0 0, .slice none 0 0, .slice none 0 0]) fun p8 => Oq Va (KS ?_)
 refine Oq (VldA sh27 1) ?_
 refine letv (eq_Valid s) fun rv9 hg10 => ?_
 have hc11 := fn28 s sa1 sk1 sa2 sk2 sa3 sk3 pre rv9 hg10
 refine Oc [2, 3, 4] ca28 hc11 ?_
 rintro - -
 refine Oq Vnot (Oq Va (KS ?_))
 refine Kc ?_ ?_
 ·intro h12
  have h14 := not_true h12
  refine KS ?_
  refine Oq (Vbd st27 [vi 0, .slice none 0 0, .slice none 0 0, .slice none 0 0]) (Ost (Scl [0] sh27 [vi 0, .slice none 0 0, .slice none 0 0, .slice none 0 0]) (Oq Va (KS ?_)))
  refine Jl [] (Ent.slNil (α := List Int)) ?_
  refine Jl [] (Ent.slNil (α := GTransfer)) ?_
  refine Jl [] (Ent.slNil (α := GSet)) ?_
  have hq := q4 hrr ((GSystem.mk 0 [] [] []), 1) (by simp only [cn_Restrict, h12, h14, hg10, cs4]); subst hq
  exact Kr (.slice none 0 0, .slice none 0 0, .slice none 0 0) rfl (.cellN 3 rfl sh27 rfl (reads_Cl _ _) rfl (.tmp rfl .nil)) [2, 1, 0] en
 intro h12
 have h17 := not_false h12
 try (have hvs := (EValid_iff s).1 (by simp only [h12, h17, hg10]); have hv1 := hvs.n; have hv2 := hvs.tl; have hv3 := hvs.bl; have hv4 := hvs.w)
 try have hcr := (unknowns_iff s cone).1 (by simp only [h12, h17, hg10])
 refine KS ?_
 refine Oq (VldA sh27 1) (Oq Vm ?_)
 refine letv (cn_unknowns s cone) fun rv19 hg20 => ?_
 have hc21 := fn29 s sa1 sk1 sa2 sk2 sa3 sk3 cone conea0 conek0 pre rv19 hg20
 refine Oc [2, 3, 4, 5] ca29 hc21 ?_
 rintro - -
 refine Oq Vnot (Oq Vm ?_)
 refine Js 27 ?_ ?_
 ·intro h22
  have h24 := not_true h22
  refine Osk (Osk (Osk (Oq Vpt (Oq Va (KS ?_)))))
  refine Kt (KS ?_)
  refine Oq (Vbd st27 [vi 0, .slice none 0 0, .slice none 0 0, .slice none 0 0]) (Ost (Scl [0] sh27 [vi 0, .slice none 0 0, .slice none 0 0, .slice none 0 0]) (Oq Va (KS ?_)))
  refine Jl [] (Ent.slNil (α := List Int)) ?_
  refine Jl [] (Ent.slNil (α := GTransfer)) ?_
  refine Jl [] (Ent.slNil (α := GSet)) ?_
  have hq := q4 hrr ((GSystem.mk 0 [] [] []), 9) (by simp only [cn_Restrict, h12, h17, h22, h24, hg10, hg20, cs4]); subst hq
  exact Kr (.slice none 0 0, .slice none 0 0, .slice none 0 0) rfl (.cellN 3 rfl sh27 rfl (reads_Cl _ _) rfl (.tmp rfl .nil)) [2, 1, 0] en
 intro h22
 have h27 := not_false h22
 try (have hvs := (EValid_iff s).1 (by simp only [h12, h17, h22, h27, hg10, hg20]); have hv1 := hvs.n; have hv2 := hvs.tl; have hv3 := hvs.bl; have hv4 := hvs.w)
 try have hcr := (unknowns_iff s cone).1 (by simp only [h12, h17, h22, h27, hg10, hg20])
 refine Oq Vm (Oq (Vf [p7]) ?_)
 refine JJ_ent (Ent.pall [1, 2, 3, 4] rfl rfl) ?_
 refine letv (sc_ContainsFunc_Known known (fun x => cn_Restrict_1 x s)) fun rv29 hg30 => ?_
 have hc31 := fn30 known knowna0 knownk0 31 [p7] (fun x => cn_Restrict_1 x s) [pv p7 [vi s.Width, vl sa1 sk1 s.Deps, vl sa2 sk2 s.Transfers, vl sa3 sk3 s.Boundary], S sa1 sk1 s.Deps, S sa2 sk2 s.Transfers, S sa3 sk3 s.Boundary] ca31 (fun x hx a2 k2 hq0 hq1 => FT_pall (A1 := _) (fn31 x a2 k2 p7 s sa1 sk1 sa2 sk2 sa3 sk3 hq0 hq1 pre _ rfl)) rv29 hg30
 refine Oc [7, 0] ca30 hc31 ?_
 rintro - -
 refine Oq Vpf (Oq Va (KS ?_))
 refine Kc ?_ ?_
 ·intro h32
  try (have hvs := (EValid_iff s).1 (by simp only [h12, h17, h22, h27, h32, hg10, hg20, hg30]); have hv1 := hvs.n; have hv2 := hvs.tl; have hv3 := hvs.bl; have hv4 := hvs.w)
  try have hcr := (unknowns_iff s cone).1 (by simp only [h12, h17, h22, h27, h32, hg10, hg20, hg30])
  refine KS ?_
  refine Oq (Vbd st27 [vi 0, .slice none 0 0, .slice none 0 0, .slice none 0 0]) (Ost (Scl [1] sh27 [vi 0, .slice none 0 0, .slice none 0 0, .slice none 0 0]) (Oq Va (KS ?_)))
  refine Jl [] (Ent.slNil (α := List Int)) ?_
  refine Jl [] (Ent.slNil (α := GTransfer)) ?_
  refine Jl [] (Ent.slNil (α := GSet)) ?_
  have hq := q4 hrr ((GSystem.mk 0 [] [] []), 9) (by simp only [cn_Restrict, h12, h17, h22, h27, h32, hg10, hg20, hg30, cs4]); subst hq
  exact Kr (.slice none 0 0, .slice none 0 0, .slice none 0 0) rfl (.cellN 3 rfl sh27 rfl (reads_Cl _ _) rfl (.tmp rfl .nil)) [2, 1, 0] en
 intro h32
 refine KS ?_
 refine Oq Vm ?_
 refine letv (cn_distinct cone) fun rv35 hg36 => ?_
 have hc37 := fn32 cone conea0 conek0 pre rv35 hg36
 refine Oc [6] ca32 hc37 ?_
 rintro - -
 refine Oq Vnot (Oq Va (KS ?_))
 refine Kc ?_ ?_
 ·intro h38
  have h40 := not_true h38
  refine KS ?_
  refine Oq (Vbd st27 [vi 0, .slice none 0 0, .slice none 0 0, .slice none 0 0]) (Ost (Scl [1] sh27 [vi 0, .slice none 0 0, .slice none 0 0, .slice none 0 0]) (Oq Va (KS ?_)))
  refine Jl [] (Ent.slNil (α := List Int)) ?_
  refine Jl [] (Ent.slNil (α := GTransfer)) ?_
  refine Jl [] (Ent.slNil (α := GSet)) ?_
  have hq := q4 hrr ((GSystem.mk 0 [] [] []), 6) (by simp only [cn_Restrict, h12, h17, h22, h27, h32, h38, h40, hg10, hg20, hg30, hg36, cs4]); subst hq
  exact Kr (.slice none 0 0, .slice none 0 0, .slice none 0 0) rfl (.cellN 3 rfl sh27 rfl (reads_Cl _ _) rfl (.tmp rfl .nil)) [2, 1, 0] en
 intro h38
 have h43 := not_false h38
 try (have hvs := (EValid_iff s).1 (by simp only [h12, h17, h22, h27, h32, h38, h43, hg10, hg20, hg30, hg36]); have hv1 := hvs.n; have hv2 := hvs.tl; have hv3 := hvs.bl; have hv4 := hvs.w)
 try have hcr := (unknowns_iff s cone).1 (by simp only [h12, h17, h22, h27, h32, h38, h43, hg10, hg20, hg30, hg36])
 refine KS ?_
 refine Oq Vm ?_
 refine JJ_ent (Ent.pall [] rfl rfl) ?_
 refine letv (sc_ContainsFunc_Known known (fun x => cn_Restrict_2 x)) fun rv45 hg46 => ?_
 have hc47 := fn30 known knowna0 knownk0 33 [] (fun x => cn_Restrict_2 x) [] ca33 (fun x hx a2 k2 hq0 hq1 => FT_pall (A1 := _) (fn33 x a2 k2  hq0 hq1 _ rfl)) rv45 hg46
 refine Oc [8, 0] ca30 hc47 ?_
 rintro - -
 refine Oq Va (KS ?_)
 refine Kc ?_ ?_
 ·intro h48
  try (have hvs := (EValid_iff s).1 (by simp only [h12, h17, h22, h27, h32, h38, h43, h48, hg10, hg20, hg30, hg36, hg46]); have hv1 := hvs.n; have hv2 := hvs.tl; have hv3 := hvs.bl; have hv4 := hvs.w)
  try have hcr := (unknowns_iff s cone).1 (by simp only [h12, h17, h22, h27, h32, h38, h43, h48, hg10, hg20, hg30, hg36, hg46])
  refine KS ?_
  refine Oq (Vbd st27 [vi 0, .slice none 0 0, .slice none 0 0, .slice none 0 0]) (Ost (Scl [2] sh27 [vi 0, .slice none 0 0, .slice none 0 0, .slice none 0 0]) (Oq Va (KS ?_)))
  refine Jl [] (Ent.slNil (α := List Int)) ?_
  refine Jl [] (Ent.slNil (α := GTransfer)) ?_
  refine Jl [] (Ent.slNil (α := GSet)) ?_
  have hq := q4 hrr ((GSystem.mk 0 [] [] []), 1) (by simp only [cn_Restrict, h12, h17, h22, h27, h32, h38, h43, h48, hg10, hg20, hg30, hg36, hg46, cs4]); subst hq
  exact Kr (.slice none 0 0, .slice none 0 0, .slice none 0 0) rfl (.cellN 3 rfl sh27 rfl (reads_Cl _ _) rfl (.tmp rfl .nil)) [2, 1, 0] en
 intro h48
 refine KS ?_
 refine Oq Vm (Oq (Vf [p7]) ?_)
 refine JJ_ent (Ent.pall [3, 4, 5, 6] rfl rfl) ?_
 refine letv (sc_ContainsFunc_Known known (fun x => cn_Restrict_3 x s)) fun rv51 hg52 => ?_
 have hc53 := fn30 known knowna0 knownk0 35 [p7] (fun x => cn_Restrict_3 x s) [pv p7 [vi s.Width, vl sa1 sk1 s.Deps, vl sa2 sk2 s.Transfers, vl sa3 sk3 s.Boundary], S sa1 sk1 s.Deps, S sa2 sk2 s.Transfers, S sa3 sk3 s.Boundary] ca35 (fun x hx a2 k2 hq0 hq1 => FT_pall (A1 := _) (fn35 x a2 k2 p7 s sa1 sk1 sa2 sk2 sa3 sk3 hq0 hq1 pre _ rfl)) rv51 hg52
 refine Oc [9, 0] ca30 hc53 ?_
 rintro - -
 refine Oq Va (KS ?_)
 refine Kc ?_ ?_
 ·intro h54
  try (have hvs := (EValid_iff s).1 (by simp only [h12, h17, h22, h27, h32, h38, h43, h48, h54, hg10, hg20, hg30, hg36, hg46, hg52]); have hv1 := hvs.n; have hv2 := hvs.tl; have hv3 := hvs.bl; have hv4 := hvs.w)
  try have hcr := (unknowns_iff s cone).1 (by simp only [h12, h17, h22, h27, h32, h38, h43, h48, h54, hg10, hg20, hg30, hg36, hg46, hg52])
  refine KS ?_
  refine Oq (Vbd st27 [vi 0, .slice none 0 0, .slice none 0 0, .slice none 0 0]) (Ost (Scl [3] sh27 [vi 0, .slice none 0 0, .slice none 0 0, .slice none 0 0]) (Oq Va (KS ?_)))
  refine Jl [] (Ent.slNil (α := List Int)) ?_
  refine Jl [] (Ent.slNil (α := GTransfer)) ?_
  refine Jl [] (Ent.slNil (α := GSet)) ?_
  have hq := q4 hrr ((GSystem.mk 0 [] [] []), 2) (by simp only [cn_Restrict, h12, h17, h22, h27, h32, h38, h43, h48, h54, hg10, hg20, hg30, hg36, hg46, hg52, cs4]); subst hq
  exact Kr (.slice none 0 0, .slice none 0 0, .slice none 0 0) rfl (.cellN 3 rfl sh27 rfl (reads_Cl _ _) rfl (.tmp rfl .nil)) [2, 1, 0] en
 intro h54
 refine KS ?_
 refine Oq (Vfa fo27_0 4) (Oq (VldF sh3 4) (Oq (Vbd st27 [vi s.Width, .slice none 0 0, .slice none 0 0, .slice none 0 0]) (Oa (Al ze27 [vi 0, .slice none 0 0, .slice none 0 0, .slice none 0 0]) fun p57 => Ost (Scl [0] sh27 [vi s.Width, .slice none 0 0, .slice none 0 0, .slice none 0 0]) (KS ?_))))
 refine Oq Vm (Oq (Vlen sl22) (Oq Vm (KS ?_)))
 refine Jl [] (Ent.osNil (α := (List Int))) ?_
 refine Jl [] (Ent.osNil (α := GTransfer)) ?_
 refine Jl [] (Ent.osNil (α := GSet)) ?_
 refine Kl (γ := Nat × List (List Int) × List GTransfer × List GSet × Int × Option Addr × Nat × Option Addr × Nat × Option Addr × Nat) (fun (r58, out1_59, out2_60, out3_61, v52_62, a63, k64, a65, k66, a67, k68) => ⟨[(1, vl conea0 conek0 cone), (2, vl knowna0 knownk0 known), (3, p7), (6, p8), (8, p57), (50, vl conea0 conek0 cone), (51, vi (cone.length : Int)), (52, vi v52_62)], [O a67 k68 out3_61, O a65 k66 out2_60, O a63 k64 out1_59, Cl p57 [vi s.Width, vl a63 k64 out1_59, vl a65 k66 out2_60, vl a67 k68 out3_61], pAll [pv p7 [vi s.Width, vl sa1 sk1 s.Deps, vl sa2 sk2 s.Transfers, vl sa3 sk3 s.Boundary], S sa1 sk1 s.Deps, S sa2 sk2 s.Transfers, S sa3 sk3 s.Boundary], pAll [], pAll [pv p7 [vi s.Width, vl sa1 sk1 s.Deps, vl sa2 sk2 s.Transfers, vl sa3 sk3 s.Boundary], S sa1 sk1 s.Deps, S sa2 sk2 s.Transfers, S sa3 sk3 s.Boundary], Cl p8 [vi 0, .slice none 0 0, .slice none 0 0, .slice none 0 0], pv p7 [vi s.Width, vl sa1 sk1 s.Deps, vl sa2 sk2 s.Transfers, vl sa3 sk3 s.Boundary], S sa1 sk1 s.Deps, S sa2 sk2 s.Transfers, S sa3 sk3 s.Boundary, S conea0 conek0 cone, S knowna0 knownk0 known], cn_Restrict_L0 s cone known r58 out1_59 out2_60 out3_61 v52_62 = cn_Restrict_L0 s cone known (((cone.length : Int) - 0).toNat) [] [] [] 0 ∧ r58 = ((cone.length : Int) - v52_62).toNat ∧ (0 : Int) ≤ v52_62 ∧ v52_62 ≤ (cone.length : Int) ∧ (-9223372036854775808 ≤ v52_62 ∧ v52_62 ≤ 9223372036854775807) ∧ (out1_59.length : Int) ≤ v52_62 ∧ (out2_60.length : Int) ≤ v52_62 ∧ (out3_61.length : Int) ≤ v52_62, r58⟩) (((cone.length : Int) - 0).toNat, [], [], [], 0, none, 0, none, 0, none, 0) [0, 0, 0, 0, 0, 1, 0, 3, 3, 4, 5, 6, 7, 8] ⟨rfl, rfl, aM1, aM1, aM1, iv0, iv0, iv0⟩ ?_
 rintro ⟨r58, out1_59, out2_60, out3_61, v52_62, a63, k64, a65, k66, a67, k68⟩ ⟨hM69, hr70, hi71, hi72, hk73, hv74, hv75, hv76⟩
 refine JJ_nx fun _ _ hL hA => ?_; dsimp only at hL hA; subst hL hA
 refine Fb 32 0 fun _ => Fb 88 1 fun _ => Fb 24 2 fun _ => Fb 24 9 fun _ => Fb 88 10 fun _ => Fb 32 11 fun _ => Fb 8 12 fun _ => Fo 12 fun ho84 => ?_
 refine Fb 40 13 fun _ => KS ?_
 refine Oq Vlss (KS ?_)
 refine Kc ?_ ?_
 ·intro h86
  have g87 := dt h86
  have hq := hcr _ (getD_mem (xs := cone) (i := v52_62.toNat) (d := 0) aM1)
  have hqn := hvs.dep_n hq.1 hq.2
  obtain ⟨r88, rfl⟩ := scc (n := r58) aM1
  refine KS ?_
  refine Oq (Vi sl22 12) ?_
  have hb89 := ok1 (i := v52_62.toNat) ho84 rng
  refine Oq (VldI sh3 12) (Oa (Al ze3 [vi 0]) fun p90 => Ost (Scl [0] sh3 [vi (cone.getD v52_62.toNat 0)]) (KS ?_))
  refine Oq (Vfa fo27_2 9) (Oq (VldF sh24 9) (Oq (Vld sh3 0) (Oq (Vi sl24 11) ?_)))
  refine JJ_peek_GTransfer ((cone.getD v52_62.toNat 0) : Int).toNat 11 rfl rng fun a91 k92 a93 k94 a95 k96 hb97 hb98 => ?_
  unfold i64ok at hb97 hb98
  refine Fb 8 1 fun _ => Fb 8 2 fun _ => Fb 16 3 fun _ => ?_
  refine Oq (VldA sh57 0) (Oa (Al ze57 [vi 0, .slice none 0 0, vi 0, .slice none 0 0, .slice none 0 0]) fun p102 => Ost (Scl [0] sh57 [vi (((s.Transfers.getD ((cone.getD v52_62.toNat 0) : Int).toNat default).Gen).Width), .slice a91 ((((s.Transfers.getD ((cone.getD v52_62.toNat 0) : Int).toNat default).Gen).Words).length) k92, vi (((s.Transfers.getD ((cone.getD v52_62.toNat 0) : Int).toNat default).Kill).Width), .slice a93 ((((s.Transfers.getD ((cone.getD v52_62.toNat 0) : Int).toNat default).Kill).Words).length) k94, .slice a95 (((s.Transfers.getD ((cone.getD v52_62.toNat 0) : Int).toNat default).Copies).length) k96]) (KS ?_))
  refine Jp 9 fun hp103 => ?_
  refine Jp 1 fun hp104 => ?_
  refine JK_drawK [0, 1, 0, 4, 12, 0, 32, 124, 0, 256, 1020, 2044, 4092, 8191, 16383, 32767] fmix ?_
  refine Dv [1] (Vfa fo27_2 0) (Dv [11] (VldF sh24 0) (Dv [0] (Vfa fo57_0 0) (Dv [2] (VldG sh53 0 [vi (((s.Transfers.getD ((cone.getD v52_62.toNat 0) : Int).toNat default).Gen).Width), .slice a91 ((((s.Transfers.getD ((cone.getD v52_62.toNat 0) : Int).toNat default).Gen).Words).length) k92]) ?_)))
  refine letv (cn_clone ((s.Transfers.getD ((cone.getD v52_62.toNat 0) : Int).toNat default).Gen)) fun rv106 hg107 => ?_
  refine Dx [4] [] [2, 0, 1] (fun G => .agg #[vi rv106.Width, (G.g 4 0)]) [fun G => SP.fact (i64ok rv106.Width), fun G => sl (G.g 4 0) rv106.Words] (fun G => xC [0] ca36 (fn36 (((s.Transfers.getD ((cone.getD v52_62.toNat 0) : Int).toNat default).Gen)) a91 k92 pre rv106 hg107)) (Dv [0] (Vfa fo57_1 0) (Dv [2] (VldG sh53 0 [vi (((s.Transfers.getD ((cone.getD v52_62.toNat 0) : Int).toNat default).Kill).Width), .slice a93 ((((s.Transfers.getD ((cone.getD v52_62.toNat 0) : Int).toNat default).Kill).Words).length) k94]) ?_))
  refine letv (cn_clone ((s.Transfers.getD ((cone.getD v52_62.toNat 0) : Int).toNat default).Kill)) fun rv109 hg110 => ?_
  refine Dx [5] [] [2, 0, 1] (fun G => .agg #[vi rv109.Width, (G.g 7 0)]) [fun G => SP.fact (i64ok rv109.Width), fun G => sl (G.g 7 0) rv109.Words] (fun G => xC [0] ca36 (fn36 (((s.Transfers.getD ((cone.getD v52_62.toNat 0) : Int).toNat default).Kill)) a93 k94 pre rv109 hg110)) (Dv [0] (Vfa fo57_2 0) (Dv [2] (VldF sh55 0) ?_))
  refine letv (sc_Clone_Copy ((s.Transfers.getD ((cone.getD v52_62.toNat 0) : Int).toNat default).Copies)) fun rv112 hg113 => Dx [6] [] [2, 0, 1] (fun G => (G.g 10 0)) [fun G => SP.fact ((rv112.length = ((s.Transfers.getD ((cone.getD v52_62.toNat 0) : Int).toNat default).Copies).length)), fun G => os (G.g 10 0) rv112] (fun G => xC [0] ca37 (fn37 ((s.Transfers.getD ((cone.getD v52_62.toNat 0) : Int).toNat default).Copies) a95 k96 rv112 hg113)) ?_
  refine Dx [23, 25, 27] [] [0, 1, 2] (fun G => .agg #[vi rv106.Width, (G.g 4 0), vi rv109.Width, (G.g 7 0), (G.g 10 0)]) [] (fun G => xV (v := .agg #[vi rv106.Width, (G.g 4 0), vi rv109.Width, (G.g 7 0), (G.g 10 0)]) (Vo 0 rfl (isO_sl _ _) fun aq114 kq115 eq116 => (by rw [eq116]; exact Vo 1 rfl (isO_sl _ _) fun aq117 kq118 eq119 => (by rw [eq119]; exact Vo 2 rfl (isO_os _ _) fun aq120 kq121 eq122 => (by rw [eq122]; exact Vbd st57 [vi rv106.Width, .slice aq114 ((rv106.Words : List (BitVec 64)).length) kq115, vi rv109.Width, .slice aq117 ((rv109.Words : List (BitVec 64)).length) kq118, .slice aq120 ((rv112 : List GCopy).length) kq121]))))) (Dx [] [] [0] (fun G => (G.g 12 0)) [fun G => Cr (G.g 12 0) 1 [vi rv106.Width, (G.g 4 0), vi rv109.Width, (G.g 7 0), (G.g 10 0)]] (fun G => xA (AsV sl24 sz24 [.agg #[vi rv106.Width, (G.g 4 0), vi rv109.Width, (G.g 7 0), (G.g 10 0)]] [vi rv106.Width, (G.g 4 0), vi rv109.Width, (G.g 7 0), (G.g 10 0)])) ?_)
  have hn125 := la out2_60 ([(GTransfer.mk rv106 rv109 rv112)] : List GTransfer)
  refine Dx [9, 22, 23, 24, 25, 26, 27, 28] [9, 27, 28] [5, 1, 7, 2, 9, 3, 0] (fun G => (G.g 13 0)) [fun G => sl (G.g 10 0) rv112, fun G => os (G.g 13 0) ((out2_60 ++ [(GTransfer.mk rv106 rv109 rv112)]) : List GTransfer)] (fun G => by refine xf 1 rfl ?_; rintro he126; unfold i64ok at he126; refine xf 3 rfl ?_; rintro he127; unfold i64ok at he127; refine xf 5 rfl ?_; rintro he128; exact xp [6] rfl (Ent.freeze _ _) (xp [7, 3, 5, 0] rfl (Ent.cr1 (α := GTransfer) (A := [sl (G.g 4 0) rv106.Words, sl (G.g 7 0) rv109.Words, sl (G.g 10 0) rv112]) _ (GTransfer.mk rv106 rv109 rv112) _ aB1 (fun h => ⟨_, _, _, rfl, aL1, sepAll_get (i := 0) rfl h, aL1, sepAll_get (i := 1) rfl h, sepAll_get (i := 2) rfl h⟩)) (xA (ApO [5, 0] sl24 sl24 sz24)))) (Dv [1] (Vfa fo27_2 0) (Dx0 [11, 30] [11] [1, 0] [fun G => Cl p57 [vi s.Width, vl a63 k64 out1_59, (G.g 13 0), vl a67 k68 out3_61]] (fun G => x1 1 rfl os_one fun ho129 => (xS (OpS.frame [0] rfl (OpS.storeClF [(G.g 13 0)] [vi s.Width, vl a63 k64 out1_59, (G.g 13 0), vl a67 k68 out3_61] rfl rfl rfl sh24 (cells_of_one ho129) rfl (by simp only [List.all_cons, List.all_nil, ho129, Bool.and_true, Bool.true_and] <;> rfl) aB1 rfl)))) ?_))
  refine Dn ⟨by kernel_rfl, fun G => ?_⟩
  refine Jw2 [(1, vl conea0 conek0 cone), (2, vl knowna0 knownk0 known), (3, p7), (6, p8), (8, p57), (50, vl conea0 conek0 cone), (51, vi (cone.length : Int)), (52, vi v52_62), (10, p90)] [0, 1, 2, 3, 4, 5, 6, 7, 8, 10, 12, 13, 14, 15, 16, 17, 18, 19, 20, 21] [SP.fact (i64ok rv106.Width), sl (G.g 4 0) rv106.Words, SP.fact (i64ok rv109.Width), sl (G.g 7 0) rv109.Words, SP.fact ((rv112.length = ((s.Transfers.getD ((cone.getD v52_62.toNat 0) : Int).toNat default).Copies).length)), sl (G.g 10 0) rv112, os (G.g 13 0) ((out2_60 ++ [(GTransfer.mk rv106 rv109 rv112)]) : List GTransfer), Cl p57 [vi s.Width, vl a63 k64 out1_59, (G.g 13 0), vl a67 k68 out3_61]] ?_
  generalize G.g 4 0 = c105, G.g 7 0 = c108, G.g 10 0 = c111, G.g 13 0 = c124
  refine Jf 20 rfl ?_; rintro he130
  unfold i64ok at he130
  refine Jf 22 rfl ?_; rintro he131
  unfold i64ok at he131
  refine Jf 24 rfl ?_; rintro he132
  refine Jk [2, 2, 3, 4, 5, 6, 6, 6, 6, 7, 8, 9, 9, 10, 11, 12, 13, 14, 16, 18, 20, 21, 21] ?_
  refine Jo 18 ?_; rintro a133 k134 rfl
  refine Fb 8 18 fun _ => ?_
  refine Jo 19 ?_; rintro a136 k137 rfl
  refine Fb 8 19 fun _ => ?_
  refine Jo 20 ?_; rintro a139 k140 rfl
  refine Fb 16 20 fun _ => ?_
  refine Jo 21 ?_; rintro a142 k143 rfl
  refine Fb 88 21 fun _ => KS ?_
  refine Oq Vm (Oq (Vf [p90]) ?_)
  refine Jl [5] (Ent.freezeCl _ _) ?_
  refine JJ_ent (Ent.pall [0] rfl rfl) ?_
  refine letv (sc_IndexFunc_Known known (fun x => cn_Restrict_4 x (cone.getD v52_62.toNat 0))) fun rv145 hg146 => ?_
  have hc147 := fn38 known knowna0 knownk0 39 [p90] (fun x => cn_Restrict_4 x (cone.getD v52_62.toNat 0)) [pv p90 [vi (cone.getD v52_62.toNat 0)]] ca39 (fun x hx a2 k2 hq0 hq1 => FT_pall (A1 := _) (fn39 x a2 k2 p90 (cone.getD v52_62.toNat 0) hq0 hq1 pre _ rfl)) rv145 hg146
  refine Oc [18, 0] ca38 hc147 ?_
  rintro - ⟨he148, he149⟩
  unfold i64ok at he148
  refine Oq Va (KS ?_)
  refine Oq Vm (Oq Vgeq (KS ?_))
  refine Kc ?_ ?_
  ·intro h150
   have g151 := dt h150
   refine KS ?_
   refine Oq (Vfa fo27_1 23) (Oq (VldF sh23 23) (Oa (AsV sl23 sz23 [.slice none 0 0] [.slice none 0 0]) fun c152 => ?_))
   refine Jo 0 ?_; rintro a153 k154 rfl
   refine Jl [0] (Ent.cr1 (α := List Int) (A := []) _ ([] : List Int) _ aB1 (fun _ => ⟨_, rfl, slrd_nil⟩)) ?_
   refine Oa (ApO [9, 0] sl23 sl23 sz23) fun c155 => ?_
   refine Jo 0 ?_; rintro a156 k157 rfl
   refine Fb 24 0 fun _ => ?_
   have hn159 := la out1_59 ([([] : List Int)] : List (List Int))
   refine Oq (Vfa fo27_1 23) (Ost (SclF [23] sh23 [vi s.Width, vl a156 k157 (out1_59 ++ [([] : List Int)]), vl a142 k143 (out2_60 ++ [(GTransfer.mk rv106 rv109 rv112)]), vl a67 k68 out3_61]) (KS ?_))
   refine Jp 0 fun hp160 => ?_
   refine JJ_peek_GKnown rv145.toNat 20 rfl rng fun a161 k162 hb163 hb164 => ?_
   unfold i64ok at hb163 hb164
   refine Fb 8 1 fun _ => ?_
   refine JK_drawK [0, 1, 0, 0, 12, 28, 60, 124, 252, 511, 1023, 2047] fmix ?_
   refine Dv [2] (Vfa fo27_3 0) (Dv [3] (VldF sh25 0) (Dv [] Vm (Dv [] Vm (Dv [22] (Vi sl28 0) (Dv [0] (Vfa fo65_1 0) (Dv [0] (VldG sh53 0 [vi (((known.getD rv145.toNat default).Value).Width), vl a161 k162 (((known.getD rv145.toNat default).Value).Words)]) ?_))))))
   refine letv (cn_clone ((known.getD rv145.toNat default).Value)) fun rv167 hg168 => ?_
   refine Dx [1] [] [2, 0, 1] (fun G => .agg #[vi rv167.Width, (G.g 7 0)]) [fun G => SP.fact (i64ok rv167.Width), fun G => sl (G.g 7 0) rv167.Words] (fun G => xC [0] ca36 (fn36 (((known.getD rv145.toNat default).Value)) a161 k162 pre rv167 hg168)) (Dx [] [] [0] (fun G => (G.g 8 0)) [fun G => Cr (G.g 8 0) 1 [vi rv167.Width, (G.g 7 0)]] (fun G => xA (AsV sl25 sz25 [.agg #[vi rv167.Width, (G.g 7 0)]] [vi rv167.Width, (G.g 7 0)])) ?_)
   have hn171 := la out3_61 ([rv167] : List GSet)
   refine Dx [12, 27, 28, 29] [12, 29] [2, 1, 0] (fun G => (G.g 9 0)) [fun G => os (G.g 9 0) ((out3_61 ++ [rv167]) : List GSet)] (fun G => by refine xf 1 rfl ?_; rintro he172; unfold i64ok at he172; exact xp [3, 2] rfl (Ent.cr1 (α := GSet) (A := [sl (G.g 7 0) rv167.Words]) _ rv167 _ aB1 (fun h => ⟨_, rfl, aL1, sepAll_get (i := 0) rfl h⟩)) (xA (ApO [2, 0] sl25 sl25 sz25))) (Dv [2] (Vfa fo27_3 0) (Dx0 [3, 30] [3] [1, 0] [fun G => Cl p57 [vi s.Width, vl a156 k157 (out1_59 ++ [([] : List Int)]), vl a142 k143 (out2_60 ++ [(GTransfer.mk rv106 rv109 rv112)]), (G.g 9 0)]] (fun G => x1 1 rfl os_one fun ho173 => (xS (OpS.frame [0] rfl (OpS.storeClF [(G.g 9 0)] [vi s.Width, vl a156 k157 (out1_59 ++ [([] : List Int)]), vl a142 k143 (out2_60 ++ [(GTransfer.mk rv106 rv109 rv112)]), (G.g 9 0)] rfl rfl rfl sh25 (cells_of_one ho173) rfl (by simp only [List.all_cons, List.all_nil, ho173, Bool.and_true, Bool.true_and] <;> rfl) aB1 rfl)))) ?_))
   refine Dn ⟨by kernel_rfl, fun G => ?_⟩
   refine Jw2 [(1, vl conea0 conek0 cone), (2, vl knowna0 knownk0 known), (3, p7), (6, p8), (8, p57), (50, vl conea0 conek0 cone), (51, vi (cone.length : Int)), (52, vi v52_62)] [0, 1, 2, 4, 5, 6, 7, 8, 9, 10, 11, 13, 14, 15, 16, 17, 18, 19, 20, 21, 22, 23, 24, 25, 26] [SP.fact (i64ok rv167.Width), sl (G.g 7 0) rv167.Words, os (G.g 9 0) ((out3_61 ++ [rv167]) : List GSet), Cl p57 [vi s.Width, vl a156 k157 (out1_59 ++ [([] : List Int)]), vl a142 k143 (out2_60 ++ [(GTransfer.mk rv106 rv109 rv112)]), (G.g 9 0)]] ?_
   generalize G.g 7 0 = c166, G.g 9 0 = c170
   refine Jf 25 rfl ?_; rintro he174
   unfold i64ok at he174
   refine Jk [0, 1, 3, 3, 4, 5, 5, 6, 7, 8, 9, 10, 11, 12, 12, 13, 14, 15, 16, 17, 18, 19, 20, 21, 22, 23, 23] ?_
   refine Jo 24 ?_; rintro a175 k176 rfl
   refine Fb 8 24 fun _ => ?_
   refine Jo 25 ?_; rintro a178 k179 rfl
   refine Fb 32 25 fun _ => ?_
   refine Ke ?_
   refine KS ?_
   refine Oq Vadd (Oq Vm (KS ?_))
   exact Kg (r88, (out1_59 ++ [([] : List Int)]), (out2_60 ++ [(GTransfer.mk rv106 rv109 rv112)]), (out3_61 ++ [rv167]), (v52_62 + 1), a156, k157, a142, k143, a178, k179) [25, 23, 2, 23, 9, 10, 9, 12, 12, 13, 14, 15, 16, 17] ⟨(q3 hM69 (by simp only [cn_Restrict_L0, h86, h150, hg107, hg110, hg113, hg146, hg168, cs4])), aM1, aM1, aM1, aM1, iv1, iv1, iv1⟩
  intro h150
  have g181 := df h150
  refine KS ?_
  refine Oq Va (KS ?_)
  refine Oq (Vfa fo27_1 13) (Oq (VldF sh23 13) (Oq (Vld sh3 1) (Oq (Vi sl23 14) ?_)))
  refine JJ_peekL ((cone.getD v52_62.toNat 0) : Int).toNat 14 rfl rng fun a182 k183 => ?_
  refine Fb 8 1 fun _ => Fo 1 fun ho185 => ?_
  refine Oq (Vld sh22 0) (Oq (Vlen sl22) (Oq Vm (KS ?_)))
  refine Jl [] (Ent.osNil (α := Int)) ?_
  refine Kl (γ := Nat × List Int × Int × Option Addr × Nat) (fun (r186, deps_187, v103_188, a189, k190) => ⟨[(1, vl conea0 conek0 cone), (2, vl knowna0 knownk0 known), (3, p7), (6, p8), (8, p57), (50, vl conea0 conek0 cone), (51, vi (cone.length : Int)), (52, vi v52_62), (10, p90), (13, vl a189 k190 deps_187), (101, vl a182 k183 (s.Deps.getD ((cone.getD v52_62.toNat 0) : Int).toNat [])), (102, vi ((s.Deps.getD ((cone.getD v52_62.toNat 0) : Int).toNat []).length : Int)), (103, vi v103_188)], [O a189 k190 deps_187, S a182 k183 ((s.Deps.getD ((cone.getD v52_62.toNat 0) : Int).toNat []) : List Int), pAll [pv p90 [vi (cone.getD v52_62.toNat 0)]], pv p90 [vi (cone.getD v52_62.toNat 0)], O a67 k68 out3_61, O a63 k64 out1_59, pAll [pv p7 [vi s.Width, vl sa1 sk1 s.Deps, vl sa2 sk2 s.Transfers, vl sa3 sk3 s.Boundary], S sa1 sk1 s.Deps, S sa2 sk2 s.Transfers, S sa3 sk3 s.Boundary], pAll [], pAll [pv p7 [vi s.Width, vl sa1 sk1 s.Deps, vl sa2 sk2 s.Transfers, vl sa3 sk3 s.Boundary], S sa1 sk1 s.Deps, S sa2 sk2 s.Transfers, S sa3 sk3 s.Boundary], Cl p8 [vi 0, .slice none 0 0, .slice none 0 0, .slice none 0 0], pv p7 [vi s.Width, vl sa1 sk1 s.Deps, vl sa2 sk2 s.Transfers, vl sa3 sk3 s.Boundary], S sa1 sk1 s.Deps, S sa2 sk2 s.Transfers, S sa3 sk3 s.Boundary, S conea0 conek0 cone, S knowna0 knownk0 known, O a142 k143 ((out2_60 ++ [(GTransfer.mk rv106 rv109 rv112)]) : List GTransfer), Cl p57 [vi s.Width, vl a63 k64 out1_59, vl a142 k143 (out2_60 ++ [(GTransfer.mk rv106 rv109 rv112)]), vl a67 k68 out3_61]], cn_Restrict_L1 cone (s.Deps.getD ((cone.getD v52_62.toNat 0) : Int).toNat []) r186 deps_187 v103_188 = cn_Restrict_L1 cone (s.Deps.getD ((cone.getD v52_62.toNat 0) : Int).toNat []) (((((s.Deps.getD ((cone.getD v52_62.toNat 0) : Int).toNat []).length : Int) : Int) - 0).toNat) [] 0 ∧ r186 = ((((s.Deps.getD ((cone.getD v52_62.toNat 0) : Int).toNat []).length : Int) : Int) - v103_188).toNat ∧ (0 : Int) ≤ v103_188 ∧ (v103_188 ≤ ((s.Deps.getD ((cone.getD v52_62.toNat 0) : Int).toNat []).length : Int) ∨ v103_188 = 0) ∧ (-9223372036854775808 ≤ v103_188 ∧ v103_188 ≤ 9223372036854775807) ∧ (deps_187.length : Int) ≤ v103_188, r186⟩) (((((s.Deps.getD ((cone.getD v52_62.toNat 0) : Int).toNat []).length : Int) : Int) - 0).toNat, [], 0, none, 0) [0, 1, 2, 3, 9, 9, 9, 10, 9, 12, 12, 13, 14, 15, 16, 17, 21, 21] ⟨rfl, rfl, aM1, (.inr rfl), aM1, iv0⟩ ?_
  rintro ⟨r186, deps_187, v103_188, a189, k190⟩ ⟨hM191, hr192, hi193, hi194, hk195, hv196⟩
  refine JJ_nx fun _ _ hL hA => ?_; dsimp only at hL hA; subst hL hA
  refine Fb 8 0 fun _ => Fo 0 fun ho198 => Fb 8 1 fun _ => Fo 1 fun ho200 => Fb 32 4 fun _ => Fb 24 5 fun _ => Fb 24 11 fun _ => Fb 88 12 fun _ => ?_
  refine Fb 32 13 fun _ => Fb 8 14 fun _ => Fo 14 fun ho207 => Fb 40 15 fun _ => Fb 88 16 fun _ => KS ?_
  refine Oq Vlss (KS ?_)
  refine Kc ?_ ?_
  ·intro h210
   have g211 := dt h210
   obtain ⟨r212, rfl⟩ := scc (n := r186) aM1
   refine KS ?_
   refine Oq (Vi sl22 1) ?_
   have hb213 := ok1 (i := v103_188.toNat) ho200 rng
   refine Oq (VldI sh3 1) (Oq Va (KS ?_))
   refine Oq Vm (Oq Vm ?_)
   refine letv (sc_Index_int cone ((s.Deps.getD ((cone.getD v52_62.toNat 0) : Int).toNat []).getD v103_188.toNat 0)) fun rv214 hg215 => ?_
   have hc216 := fn40 cone conea0 conek0 (((s.Deps.getD ((cone.getD v52_62.toNat 0) : Int).toNat []).getD v103_188.toNat 0)) pre rv214 hg215
   refine Oc [14] ca40 hc216 ?_
   rintro - he217
   unfold i64ok at he217
   refine Oq Va (KS ?_)
   refine Oq Vm (Oq Vgeq (KS ?_))
   refine Kc ?_ ?_
   ·intro h218
    have g219 := dt h218
    refine KS ?_
    refine Oq Vm (Oq Vm (Oa (AsV sl22 sz22 [vi rv214] [vi rv214]) fun c220 => ?_))
    refine Jo 0 ?_; rintro a221 k222 rfl
    refine Jl [0] (Ent.crInt _ [rv214] _ _ rfl rfl (by intro x hx; rw [List.mem_singleton] at hx; subst hx; unfold i64ok; omega) aB1) ?_
    refine Oa (ApO [1, 0] sl22 sl22 sz22) fun c223 => ?_
    refine Jo 0 ?_; rintro a224 k225 rfl
    refine Fb 8 0 fun _ => Fo 0 fun ho227 => ?_
    have hn228 := la deps_187 ([rv214] : List Int)
    refine Oq Va (KS ?_)
    refine Oq Vadd (Oq Vm (KS ?_))
    exact Kg (r212, (deps_187 ++ [rv214]), (v103_188 + 1), a224, k225) [0, 0, 1, 2, 3, 3, 3, 4, 3, 6, 6, 7, 8, 9, 10, 11, 12, 12] ⟨(q3 hM191 (by simp only [cn_Restrict_L1, h210, h218, hg215, cs4])), aM1, aM1, aM1, aM1, iv1⟩
   intro h218
   have g229 := df h218
   refine KS ?_
   refine Oq Vadd (Oq Vm (KS ?_))
   exact Kg (r212, deps_187, (v103_188 + 1), a189, k190) [0, 0, 1, 2, 3, 3, 3, 4, 3, 6, 6, 7, 8, 9, 10, 11, 12, 12] ⟨(q3 hM191 (by simp only [cn_Restrict_L1, h210, h218, hg215, cs4])), aM1, aM1, aM1, aM1, iv1⟩
  intro h210
  have g230 := df h210
  obtain rfl : r186 = 0 := by omega
  refine Ke ?_
  have hR231 := q2 hM191 deps_187 (by simp only [cn_Restrict_L1, h210, cs4])
  refine KS ?_
  refine Oq Vm ?_
  refine letv (sc_Sort_int deps_187) fun rv232 hg233 => ?_
  have hc234 := fn41 deps_187 a189 k190 pre rv232 hg233
  refine Oc [0] ca41 hc234 ?_
  rintro - he235
  refine Fb 8 0 fun _ => Fo 0 fun ho237 => KS ?_
  refine Oq (Vfa fo27_1 17) (Oq (VldF sh23 17) (Oq Vm (Oa (AsV sl23 sz23 [vl a189 k190 deps_187] [vl a189 k190 deps_187]) fun c238 => ?_)))
  refine Jo 0 ?_; rintro a239 k240 rfl
  refine Jl [1] (Ent.freeze _ _) ?_
  refine Jl [1, 0] (Ent.cr1 (α := List Int) (A := [sl (vl a189 k190 deps_187) rv232]) _ rv232 _ aB1 (fun h => ⟨_, rfl, sepAll_get (i := 0) rfl h⟩)) ?_
  refine Oa (ApO [7, 0] sl23 sl23 sz23) fun c241 => ?_
  refine Jo 0 ?_; rintro a242 k243 rfl
  refine Fb 24 0 fun _ => ?_
  have hn245 := la out1_59 ([rv232] : List (List Int))
  refine Oq (Vfa fo27_1 18) (Ost (SclF [18] sh23 [vi s.Width, vl a242 k243 (out1_59 ++ [rv232]), vl a142 k143 (out2_60 ++ [(GTransfer.mk rv106 rv109 rv112)]), vl a67 k68 out3_61]) (KS ?_))
  refine Jp 0 fun hp246 => ?_
  refine JJ_peek_GSet ((cone.getD v52_62.toNat 0) : Int).toNat 16 rfl rng fun a247 k248 hb249 => ?_
  unfold i64ok at hb249
  refine Fb 8 1 fun _ => ?_
  refine JK_drawK [0, 1, 0, 4, 0, 28, 60, 124, 252, 511, 1023, 2047] fmix ?_
  refine Dv [2] (Vfa fo27_3 0) (Dv [3] (VldF sh25 0) (Dv [15] (Vfa fo27_3 0) (Dv [15] (VldF sh25 0) (Dv [9] (Vld sh3 0) (Dv [18] (Vi sl25 0) (Dv [0] (VldA sh53 0) ?_))))))
  refine letv (cn_clone (s.Boundary.getD ((cone.getD v52_62.toNat 0) : Int).toNat default)) fun rv252 hg253 => ?_
  refine Dx [1] [] [2, 0, 1] (fun G => .agg #[vi rv252.Width, (G.g 7 0)]) [fun G => SP.fact (i64ok rv252.Width), fun G => sl (G.g 7 0) rv252.Words] (fun G => xC [0] ca36 (fn36 ((s.Boundary.getD ((cone.getD v52_62.toNat 0) : Int).toNat default)) a247 k248 pre rv252 hg253)) (Dx [] [] [0] (fun G => (G.g 8 0)) [fun G => Cr (G.g 8 0) 1 [vi rv252.Width, (G.g 7 0)]] (fun G => xA (AsV sl25 sz25 [.agg #[vi rv252.Width, (G.g 7 0)]] [vi rv252.Width, (G.g 7 0)])) ?_)
  have hn256 := la out3_61 ([rv252] : List GSet)
  refine Dx [10, 22, 23, 24] [10, 24] [2, 1, 0] (fun G => (G.g 9 0)) [fun G => os (G.g 9 0) ((out3_61 ++ [rv252]) : List GSet)] (fun G => by refine xf 1 rfl ?_; rintro he257; unfold i64ok at he257; exact xp [3, 2] rfl (Ent.cr1 (α := GSet) (A := [sl (G.g 7 0) rv252.Words]) _ rv252 _ aB1 (fun h => ⟨_, rfl, aL1, sepAll_get (i := 0) rfl h⟩)) (xA (ApO [2, 0] sl25 sl25 sz25))) (Dv [2] (Vfa fo27_3 0) (Dx0 [3, 25] [3] [1, 0] [fun G => Cl p57 [vi s.Width, vl a242 k243 (out1_59 ++ [rv232]), vl a142 k143 (out2_60 ++ [(GTransfer.mk rv106 rv109 rv112)]), (G.g 9 0)]] (fun G => x1 1 rfl os_one fun ho258 => (xS (OpS.frame [0] rfl (OpS.storeClF [(G.g 9 0)] [vi s.Width, vl a242 k243 (out1_59 ++ [rv232]), vl a142 k143 (out2_60 ++ [(GTransfer.mk rv106 rv109 rv112)]), (G.g 9 0)] rfl rfl rfl sh25 (cells_of_one ho258) rfl (by simp only [List.all_cons, List.all_nil, ho258, Bool.and_true, Bool.true_and] <;> rfl) aB1 rfl)))) ?_))
  refine Dn ⟨by kernel_rfl, fun G => ?_⟩
  refine Jw2 [(1, vl conea0 conek0 cone), (2, vl knowna0 knownk0 known), (3, p7), (6, p8), (8, p57), (50, vl conea0 conek0 cone), (51, vi (cone.length : Int)), (52, vi v52_62)] [0, 1, 2, 4, 5, 6, 7, 8, 9, 11, 12, 13, 14, 15, 16, 17, 18, 19, 20, 21] [SP.fact (i64ok rv252.Width), sl (G.g 7 0) rv252.Words, os (G.g 9 0) ((out3_61 ++ [rv252]) : List GSet), Cl p57 [vi s.Width, vl a242 k243 (out1_59 ++ [rv232]), vl a142 k143 (out2_60 ++ [(GTransfer.mk rv106 rv109 rv112)]), (G.g 9 0)]] ?_
  generalize G.g 7 0 = c251, G.g 9 0 = c255
  refine Jf 20 rfl ?_; rintro he259
  unfold i64ok at he259
  refine Jk [0, 1, 3, 3, 4, 5, 6, 7, 8, 9, 10, 11, 11, 12, 13, 14, 15, 16, 17, 18, 19, 19] ?_
  refine Jo 19 ?_; rintro a260 k261 rfl
  refine Fb 8 19 fun _ => ?_
  refine Jo 20 ?_; rintro a263 k264 rfl
  refine Fb 32 20 fun _ => KS ?_
  refine Oq Vadd (Oq Vm (KS ?_))
  exact Kg (r88, (out1_59 ++ [rv232]), (out2_60 ++ [(GTransfer.mk rv106 rv109 rv112)]), (out3_61 ++ [rv252]), (v52_62 + 1), a242, k243, a142, k143, a263, k264) [20, 18, 2, 18, 7, 8, 7, 10, 10, 11, 12, 13, 14, 15] ⟨(q3 hM69 (by simp only [cn_Restrict_L0, h86, h150, h210, hg107, hg110, hg113, hg146, hR231, hg233, hg253, cs4])), aM1, aM1, aM1, aM1, iv1, iv1, iv1⟩
 intro h86
 have g266 := df h86
 obtain rfl : r58 = 0 := by omega
 refine Ke ?_
 have hR267 := q2 hM69 (out1_59, out2_60, out3_61) (by simp only [cn_Restrict_L0, h86, cs4])
 refine KS ?_
 refine Oq (VldA sh27 3) (Ost (Scl [7] sh27 [vi s.Width, vl a63 k64 out1_59, vl a65 k66 out2_60, vl a67 k68 out3_61]) (Oq Va (KS ?_)))
 refine Jl [3] (Ent.freeze _ _) ?_
 refine Jl [3] (Ent.freeze _ _) ?_
 refine Jl [3] (Ent.freeze _ _) ?_
 have hq := q4 hrr ((GSystem.mk s.Width out1_59 out2_60 out3_61), 0) (by simp only [cn_Restrict, h12, h17, h22, h27, h32, h38, h43, h48, h54, h86, hg10, hg20, hg30, hg36, hg46, hg52, hR267, cs4]); subst hq
 exact Kr (vl a63 k64 out1_59, vl a65 k66 out2_60, vl a67 k68 out3_61) rfl (.cellN 3 rfl sh27 rfl (reads_Cl _ _) rfl (.tmp rfl .nil)) [2, 1, 0] en
theorem fn19 (l : List Int) (la0 : Option Addr) (lk0 : Nat) (n : Int) (hn_0 : i64ok n) (hl0 : l.length ≤ 1000000000) (rr : List Int) (hrr : r7_Insert l n = rr) : FT Tryz.prog 19 #[vl la0 lk0 l, vi n] [S la0 lk0 l] (fun g : Value => (rr.length ≤ l.length + 1)) (fun g => g) (fun g => [sl g rr]) := by
 refine FTi Tryz.func19 fun w0 M0 F0 => ?_
 unfold i64ok at hn_0
 refine Fb 8 0 fun _ => Fo 0 fun ho2 => KS ?_
 refine Oq Va (KS ?_)
 refine Oq Va (KS ?_)
 refine Kl (γ := Nat × Int) (fun (r3, i_4) => ⟨[(0, vl la0 lk0 l), (1, vi n), (5, vi i_4)], [S la0 lk0 l], r7_Insert_L0 l n r3 i_4 = r7_Insert_L0 l n (((l.length : Int) - 0).toNat) 0 ∧ r3 = ((l.length : Int) - i_4).toNat ∧ (0 : Int) ≤ i_4 ∧ i_4 ≤ (l.length : Int) ∧ (-9223372036854775808 ≤ i_4 ∧ i_4 ≤ 9223372036854775807), r3⟩) (((l.length : Int) - 0).toNat, 0) [0] ⟨rfl, rfl, aM1, aM1, aM1⟩ ?_
 rintro ⟨r3, i_4⟩ ⟨hM5, hr6, hi7, hi8, hk9⟩
 refine JJ_nx fun _ _ hL hA => ?_; dsimp only at hL hA; subst hL hA
 refine Fb 8 0 fun _ => Fo 0 fun ho11 => KS ?_
 refine Oq Vm (Oq Vm (Oq (Vlen sl22) (Oq Vlss (Oq Vm ?_))))
 refine Js 11 ?_ ?_
 ·intro h12
  have g13 := dt h12
  obtain ⟨r14, rfl⟩ := scc (n := r3) aM1
  refine Oq Vm (Oq Vm (Oq (Vi sl22 0) ?_))
  have hb15 := ok1 (i := i_4.toNat) ho11 rng
  refine Oq (VldI sh3 0) (Oq Vm (Oq Vlss (Oq Vpt (KS ?_))))
  refine Kc ?_ ?_
  ·intro h16
   have g17 := dt h16
   refine KS ?_
   refine Oq Vm (Oq Vadd (Oq Va (KS ?_)))
   exact Kg (r14, (i_4 + 1)) [0] ⟨(q3 hM5 (by simp only [r7_Insert_L0, h12, h16, cs4])), aM1, aM1, aM1, aM1⟩
  intro h16
  have g18 := df h16
  refine Ke ?_
  have hR19 := q2 hM5 i_4 (by simp only [r7_Insert_L0, h12, h16, cs4])
  refine KS ?_
  refine Oq Vm (Oq Vm (Oq (Vlen sl22) (Oq Vlss (Oq Vm ?_))))
  refine Js 25 ?_ ?_
  ·intro h20
   have g21 := dt h20
   refine Oq Vm (Oq Vm (Oq (Vi sl22 0) ?_))
   have hb22 := ok1 (i := i_4.toNat) ho11 rng
   refine Oq (VldI sh3 0) (Oq Vm (Oq Veql (Oq Vpt (KS ?_))))
   refine Kc ?_ ?_
   ·intro h23
    have g24 := eq_of_beq h23
    refine KS ?_
    refine Oq Vm (Oq Va (KS ?_))
    have hq := q4 hrr l (by simp only [r7_Insert, h12, h16, h20, h23, hR19, cs4]); subst hq
    exact Kr (vl la0 lk0 l) rfl (.tmp rfl .nil) [0] en
   intro h23
   have g25 := ne_of_beq_false h23
   refine KS ?_
   refine Oa (As0 sl22) fun c26 => ?_
   refine Jo 0 ?_; rintro a27 k28 rfl
   refine Oq Vm (Oq Vm (Oa (Asl [1] sl22 0 (i_4.toNat)) fun c29 => ?_))
   refine Jo 0 ?_; rintro a30 k31 rfl
   refine Fb 8 0 fun _ => Fo 0 fun ho33 => ?_
   have hn34 : ((l.take (i_4.toNat)).drop 0).length = (i_4.toNat) - 0 := len_slice rng rng
   refine Jl [1] (Ent.crNil (α := Int) _) ?_
   refine Oa (Ap0 [0, 0] sl22 sl22 sz22) fun c35 => ?_
   refine Jo 0 ?_; rintro a36 k37 rfl
   refine Oq Va (KS ?_)
   refine Oq Vm (Oq Vm (Oa (AsV sl22 sz22 [vi n] [vi n]) fun c38 => ?_))
   refine Jo 0 ?_; rintro a39 k40 rfl
   refine Jl [0] (Ent.crInt _ [n] _ _ rfl rfl (by intro x hx; rw [List.mem_singleton] at hx; subst hx; unfold i64ok; omega) aB1) ?_
   refine Oa (ApO [1, 0] sl22 sl22 sz22) fun c41 => ?_
   refine Jo 0 ?_; rintro a42 k43 rfl
   refine Fb 8 0 fun _ => Fo 0 fun ho45 => ?_
   have hn46 := la ((l.take (i_4.toNat)).drop 0) ([n] : List Int)
   refine Oq Va (KS ?_)
   refine Oq Vm (Oq Vm (Oq Vm (Oa (Asl [2] sl22 (i_4.toNat) l.length) fun c47 => ?_)))
   refine Jo 0 ?_; rintro a48 k49 rfl
   refine Fb 8 0 fun _ => Fo 0 fun ho51 => ?_
   have hn52 : ((l.take l.length).drop (i_4.toNat)).length = l.length - (i_4.toNat) := len_slice rng rng
   refine Oa (Ap [1, 0] sl22 sl22 sz22) fun c53 => ?_
   refine Jo 0 ?_; rintro a54 k55 rfl
   refine Fb 8 0 fun _ => Fo 0 fun ho57 => ?_
   have hn58 := la ((((l.take (i_4.toNat)).drop 0) ++ [n]) : List Int) ((l.take l.length).drop (i_4.toNat))
   refine Oq Va (KS ?_)
   refine Jl [0] (Ent.freeze _ _) ?_
   have hq := q4 hrr ((((l.take (i_4.toNat)).drop 0) ++ [n]) ++ ((l.take l.length).drop (i_4.toNat))) (by simp only [r7_Insert, h12, h16, h20, h23, hR19, cs4]); subst hq
   exact Kr (.slice a54 (((((l.take (i_4.toNat)).drop 0) ++ [n]) ++ ((l.take l.length).drop (i_4.toNat))).length) k55) rfl (.tmp rfl .nil) [0] en
  intro h20
  exact absurd h20 (by first | (simp [h12]; done) | (simp only [bne, h12]; decide) | (simp only [bne, h12, Bool.not_true, Bool.not_false]; decide) | (exfalso; omega) | (intro hq; simp only [bne, hq, Bool.not_false, Bool.not_true, reduceCtorEq] at h12))
 intro h12
 have g59 := df h12
 obtain rfl : r3 = 0 := by omega
 refine Osk (Osk (Osk (Osk (Osk (Osk (Oq Vpf (KS ?_)))))))
 refine Kf ?_
 refine Ke ?_
 have hR60 := q2 hM5 i_4 (by simp only [r7_Insert_L0, h12, cs4])
 refine KS ?_
 refine Oq Vm (Oq Vm (Oq (Vlen sl22) (Oq Vlss (Oq Vm ?_))))
 refine Js 25 ?_ ?_
 ·intro h61
  exact absurd h61 (by first | (simp [h12]; done) | (simp only [bne, h12]; decide) | (simp only [bne, h12, Bool.not_true, Bool.not_false]; decide) | (exfalso; omega) | (intro hq; simp only [bne, hq, Bool.not_false, Bool.not_true, reduceCtorEq] at h12))
 intro h61
 have g62 := df h61
 refine Osk (Osk (Osk (Osk (Osk (Osk (Oq Vpf (KS ?_)))))))
 refine Kf (KS ?_)
 refine Oa (As0 sl22) fun c63 => ?_
 refine Jo 0 ?_; rintro a64 k65 rfl
 refine Oq Vm (Oq Vm (Oa (Asl [1] sl22 0 (i_4.toNat)) fun c66 => ?_))
 refine Jo 0 ?_; rintro a67 k68 rfl
 refine Fb 8 0 fun _ => Fo 0 fun ho70 => ?_
 have hn71 : ((l.take (i_4.toNat)).drop 0).length = (i_4.toNat) - 0 := len_slice rng rng
 refine Jl [1] (Ent.crNil (α := Int) _) ?_
 refine Oa (Ap0 [0, 0] sl22 sl22 sz22) fun c72 => ?_
 refine Jo 0 ?_; rintro a73 k74 rfl
 refine Oq Va (KS ?_)
 refine Oq Vm (Oq Vm (Oa (AsV sl22 sz22 [vi n] [vi n]) fun c75 => ?_))
 refine Jo 0 ?_; rintro a76 k77 rfl
 refine Jl [0] (Ent.crInt _ [n] _ _ rfl rfl (by intro x hx; rw [List.mem_singleton] at hx; subst hx; unfold i64ok; omega) aB1) ?_
 refine Oa (ApO [1, 0] sl22 sl22 sz22) fun c78 => ?_
 refine Jo 0 ?_; rintro a79 k80 rfl
 refine Fb 8 0 fun _ => Fo 0 fun ho82 => ?_
 have hn83 := la ((l.take (i_4.toNat)).drop 0) ([n] : List Int)
 refine Oq Va (KS ?_)
 refine Oq Vm (Oq Vm (Oq Vm (Oa (Asl [2] sl22 (i_4.toNat) l.length) fun c84 => ?_)))
 refine Jo 0 ?_; rintro a85 k86 rfl
 refine Fb 8 0 fun _ => Fo 0 fun ho88 => ?_
 have hn89 : ((l.take l.length).drop (i_4.toNat)).length = l.length - (i_4.toNat) := len_slice rng rng
 refine Oa (Ap [1, 0] sl22 sl22 sz22) fun c90 => ?_
 refine Jo 0 ?_; rintro a91 k92 rfl
 refine Fb 8 0 fun _ => Fo 0 fun ho94 => ?_
 have hn95 := la ((((l.take (i_4.toNat)).drop 0) ++ [n]) : List Int) ((l.take l.length).drop (i_4.toNat))
 refine Oq Va (KS ?_)
 refine Jl [0] (Ent.freeze _ _) ?_
 have hq := q4 hrr ((((l.take (i_4.toNat)).drop 0) ++ [n]) ++ ((l.take l.length).drop (i_4.toNat))) (by simp only [r7_Insert, h12, h61, hR60, cs4]); subst hq
 exact Kr (.slice a91 (((((l.take (i_4.toNat)).drop 0) ++ [n]) ++ ((l.take l.length).drop (i_4.toNat))).length) k92) rfl (.tmp rfl .nil) [0] en
theorem fn43 (s : GSet) (sa1 : Option Addr) (sk1 : Nat) (hs_0 : i64ok s.Width) (rr : Bool) (hrr : r1_Valid s = rr) : FT Tryz.prog 43 #[.agg #[vi s.Width, vl sa1 sk1 s.Words]] [S sa1 sk1 s.Words] (fun g : Unit => True) (fun g => vb rr) (fun g => []) := by
 refine FTi Tryz.func43 fun w0 M0 F0 => ?_
 unfold i64ok at hs_0
 refine Fb 8 0 fun _ => KS ?_
 refine Oa (Ab [vi s.Width, vl sa1 sk1 s.Words]) fun p2 => Oq Va (KS ?_)
 refine Oq (Vfa fo53_0 0) (Oq (VldF sh3 0) (Oq Vlss (Oq Vm ?_)))
 refine Js 7 ?_ ?_
 ·intro h3
  have g4 := dt h3
  refine Osk (Osk (Osk (Oq Vpt (Oq Vm (Osk (Osk (Osk (Osk (Osk ?_)))))))))
  refine Osk (Osk (Osk (Oq Vpt (KS ?_))))
  refine Kt (KS ?_)
  refine Oq Va (KS ?_)
  have hq := q4 hrr false (by simp only [r1_Valid, h3, cs4]); subst hq
  exact Kr () rfl (.tmp rfl .nil) [] trivial
 intro h3
 have g5 := df h3
 refine Oq (Vfa fo53_0 0) (Oq (VldF sh3 0) (Oq Vgtr (Oq Vpf (Oq Vm ?_))))
 refine Js 12 ?_ ?_
 ·intro h6
  have g7 := dt h6
  refine Osk (Osk (Osk (Osk (Osk (Osk (Osk (Osk (Oq Vpt (KS ?_)))))))))
  refine Kt (KS ?_)
  refine Oq Va (KS ?_)
  have hq := q4 hrr false (by simp only [r1_Valid, h3, h6, cs4]); subst hq
  exact Kr () rfl (.tmp rfl .nil) [] trivial
 intro h6
 have g8 := df h6
 refine Oq (Vfa fo53_1 0) (Oq (VldF sh51 0) (Oq (Vlen sl51) (Oq (Vfa fo53_0 0) (Oq (VldF sh3 0) (Oq Vadd (Oq Vquo (Oq Vneq (Oq Vpf (KS ?_)))))))))
 refine Kc ?_ ?_
 ·intro h9
  have g10 := ne_of_bne h9
  refine KS ?_
  refine Oq Va (KS ?_)
  have hq := q4 hrr false (by simp only [r1_Valid, h3, h6, h9, cs4]); subst hq
  exact Kr () rfl (.tmp rfl .nil) [] trivial
 intro h9
 have g11 := eq_of_bne_false h9
 refine KS ?_
 refine Oq (Vfa fo53_0 0) (Oq (VldF sh3 0) (Oq Va (KS ?_)))
 refine Kl (γ := Nat × Int) (fun (r12, b_13) => ⟨[(1, p2), (3, vi b_13)], [pv p2 [vi s.Width, vl sa1 sk1 s.Words], S sa1 sk1 s.Words], r1_Valid_L0 s r12 b_13 = r1_Valid_L0 s ((((64 * (s.Words.length : Int)) : Int) - s.Width).toNat) s.Width ∧ r12 = (((64 * (s.Words.length : Int)) : Int) - b_13).toNat ∧ (s.Width : Int) ≤ b_13 ∧ (b_13 ≤ (64 * (s.Words.length : Int)) ∨ b_13 = s.Width) ∧ (-9223372036854775808 ≤ b_13 ∧ b_13 ≤ 9223372036854775807), r12⟩) ((((64 * (s.Words.length : Int)) : Int) - s.Width).toNat, s.Width) [0, 1] ⟨rfl, rfl, aM1, (.inr rfl), aM1⟩ ?_
 rintro ⟨r12, b_13⟩ ⟨hM14, hr15, hi16, hi17, hk18⟩
 refine JJ_nx fun _ _ hL hA => ?_; dsimp only at hL hA; subst hL hA
 refine Fb 8 1 fun _ => KS ?_
 refine Oq Vm (Oq (Vfa fo53_1 0) (Oq (VldF sh51 0) (Oq (Vlen sl51) (Oq Vmul (Oq Vlss (KS ?_))))))
 refine Kc ?_ ?_
 ·intro h20
  have g21 := dt h20
  obtain ⟨r22, rfl⟩ := scc (n := r12) aM1
  refine KS ?_
  refine Oq (Vfa fo53_1 0) (Oq (VldF sh51 0) (Oq Vm (Oq Vquo (Oq (Vi sl51 1) (Oq (VldU sh95 1) (Oq Vm (Oq Vrem (Oq (VcU un3 un84) (Oq VshrU ?_)))))))))
  refine Oq (VandU (b := 1#64)) (Oq (VeqlU (b := 1#64)) (KS ?_))
  refine Kc ?_ ?_
  ·intro h23
   have g24 := eq_of_beq h23
   refine KS ?_
   refine Oq Va (KS ?_)
   have hR25 := q2 hM14 (.ret false) (by simp only [r1_Valid_L0, h20, h23, cs4])
   have hq := q4 hrr false (by simp only [r1_Valid, h3, h6, h9, h20, h23, hR25, cs4]); subst hq
   exact Kr () rfl (.tmp rfl .nil) [] trivial
  intro h23
  have g26 := ne_of_beq_false h23
  refine KS ?_
  refine Oq Vm (Oq Vadd (Oq Va (KS ?_)))
  exact Kg (r22, (b_13 + 1)) [0, 1] ⟨(q3 hM14 (by simp only [r1_Valid_L0, h20, h23, cs4])), aM1, aM1, aM1, aM1⟩
 intro h20
 have g27 := df h20
 obtain rfl : r12 = 0 := by omega
 refine Ke ?_
 have hR28 := q2 hM14 (.brk ()) (by simp only [r1_Valid_L0, h20, cs4])
 refine KS ?_
 refine Oq Va (KS ?_)
 have hq := q4 hrr true (by simp only [r1_Valid, h3, h6, h9, h20, hR28, cs4]); subst hq
 exact Kr () rfl (.tmp rfl .nil) [] trivial
theorem fn53 (l : List Int) (la0 : Option Addr) (lk0 : Nat) (n : Int) (hn_0 : i64ok n) (rr : Bool) (hrr : r7_Rising l n = rr) : FT Tryz.prog 53 #[vl la0 lk0 l, vi n] [S la0 lk0 l] (fun g : Unit => True) (fun g => vb rr) (fun g => []) := by
 refine FTi Tryz.func53 fun w0 M0 F0 => ?_
 unfold i64ok at hn_0
 refine Fb 8 0 fun _ => Fo 0 fun ho2 => KS ?_
 refine Oq Va (KS ?_)
 refine Oq Va (KS ?_)
 refine Kl (γ := Nat × Int) (fun (r3, i_4) => ⟨[(0, vl la0 lk0 l), (1, vi n), (5, vi i_4)], [S la0 lk0 l], r7_Rising_L0 l n r3 i_4 = r7_Rising_L0 l n (((l.length : Int) - 0).toNat) 0 ∧ r3 = ((l.length : Int) - i_4).toNat ∧ (0 : Int) ≤ i_4 ∧ i_4 ≤ (l.length : Int) ∧ (-9223372036854775808 ≤ i_4 ∧ i_4 ≤ 9223372036854775807), r3⟩) (((l.length : Int) - 0).toNat, 0) [0] ⟨rfl, rfl, aM1, aM1, aM1⟩ ?_
 rintro ⟨r3, i_4⟩ ⟨hM5, hr6, hi7, hi8, hk9⟩
 refine JJ_nx fun _ _ hL hA => ?_; dsimp only at hL hA; subst hL hA
 refine Fb 8 0 fun _ => Fo 0 fun ho11 => KS ?_
 refine Oq Vm (Oq Vm (Oq (Vlen sl22) (Oq Vlss (KS ?_))))
 refine Kc ?_ ?_
 ·intro h12
  have g13 := dt h12
  obtain ⟨r14, rfl⟩ := scc (n := r3) aM1
  refine KS ?_
  refine Kq [0, 0, 3, 7, 15, 31, 63, 63, 255, 511, 63, 2047, 4095, 8191, 16383, 32767, 65535, 131071, 131071, 393215, 1048575, 2097151, 131071, 131071, 12713983, 29491199, 67108863, 134217727, 268435455] fmix ?_
  refine Qv [] Vm (Qv [] Vm (Qv [0] (Vi sl22 0) ?_))
  have hb15 := ok1 (i := i_4.toNat) ho11 rng
  refine Qv [0] (VldI sh3 0) (Qv [] Vlss ?_)
  refine bool_split (decide ((l.getD i_4.toNat 0) < 0)) ?_ ?_
  ·intro h16
   have g17 := dt h16
   refine Qb h16 [] Vm (Qs (Qs (Qs (Qs (Qs (Qs (Qv [] Vpt (Qv [] Vm (Qs ?_)))))))))
   refine Qs (Qs (Qs (Qs (Qs (Qs (Qs (Qs (Qs (Qs ?_)))))))))
   refine Qs (Qs (Qs (Qv [] Vpt ?_)))
   refine Qn ⟨by kernel_rfl, ?_⟩
   refine Kt (KS ?_)
   refine Oq Va (KS ?_)
   have hR18 := q2 hM5 (.ret false) (by simp only [r7_Rising_L0, h12, h16, cs4])
   have hq := q4 hrr false (by simp only [r7_Rising, h12, h16, hR18, cs4]); subst hq
   exact Kr () rfl (.tmp rfl .nil) [] trivial
  intro h16
  have g19 := df h16
  refine Qb h16 [] Vm (Qv [] Vm (Qv [] Vm (Qv [0] (Vi sl22 0) ?_)))
  have hb20 := ok1 (i := i_4.toNat) ho11 rng
  refine Qv [0] (VldI sh3 0) (Qv [] Vm (Qv [] Vgeq (Qv [] Vpf ?_)))
  refine bool_split (decide (n ≤ (l.getD i_4.toNat 0))) ?_ ?_
  ·intro h21
   have g22 := dt h21
   refine Qb h21 [] Vm (Qs (Qs (Qs (Qs (Qs (Qs (Qs (Qs (Qs ?_)))))))))
   refine Qs (Qs (Qs (Qs (Qs (Qv [] Vpt ?_)))))
   refine Qn ⟨by kernel_rfl, ?_⟩
   refine Kt (KS ?_)
   refine Oq Va (KS ?_)
   have hR23 := q2 hM5 (.ret false) (by simp only [r7_Rising_L0, h12, h16, h21, cs4])
   have hq := q4 hrr false (by simp only [r7_Rising, h12, h16, h21, hR23, cs4]); subst hq
   exact Kr () rfl (.tmp rfl .nil) [] trivial
  intro h21
  have g24 := df h21
  refine Qb h21 [] Vm (Qv [] Vm (Qv [] Vgtr ?_))
  refine bool_split (decide (0 < i_4)) ?_ ?_
  ·intro h25
   have g26 := dt h25
   refine Qb h25 [] Vm (Qv [] Vm (Qv [] Vm (Qv [] Vsub (Qv [0] (Vi sl22 0) ?_))))
   have hb27 := ok1 (i := ((i_4 - 1) : Int).toNat) ho11 rng
   refine Qv [0] (VldI sh3 0) (Qv [] Vm (Qv [] Vm (Qv [0] (Vi sl22 0) ?_)))
   have hb28 := ok1 (i := i_4.toNat) ho11 rng
   refine Qv [0] (VldI sh3 0) (Qv [] Vgeq (Qv [] Vpt (Qv [] Vpf ?_)))
   refine Qn ⟨by kernel_rfl, ?_⟩
   refine Kc ?_ ?_
   ·intro h29
    have g30 := dt h29
    refine KS ?_
    refine Oq Va (KS ?_)
    have hR31 := q2 hM5 (.ret false) (by simp only [r7_Rising_L0, h12, h16, h21, h25, h29, cs4])
    have hq := q4 hrr false (by simp only [r7_Rising, h12, h16, h21, h25, h29, hR31, cs4]); subst hq
    exact Kr () rfl (.tmp rfl .nil) [] trivial
   intro h29
   have g32 := df h29
   refine KS ?_
   refine Oq Vm (Oq Vadd (Oq Va (KS ?_)))
   exact Kg (r14, (i_4 + 1)) [0] ⟨(q3 hM5 (by simp only [r7_Rising_L0, h12, h16, h21, h25, h29, cs4])), aM1, aM1, aM1, aM1⟩
  intro h25
  have g33 := df h25
  refine Qb h25 [] Vm (Qs (Qs (Qs (Qs (Qs (Qs (Qs (Qs (Qs ?_)))))))))
  refine Qs (Qv [] Vpf (Qv [] Vpf ?_))
  refine Qn ⟨by kernel_rfl, ?_⟩
  refine Kf (KS ?_)
  refine Oq Vm (Oq Vadd (Oq Va (KS ?_)))
  exact Kg (r14, (i_4 + 1)) [0] ⟨(q3 hM5 (by simp only [r7_Rising_L0, h12, h16, h21, h25, cs4])), aM1, aM1, aM1, aM1⟩
 intro h12
 have g34 := df h12
 obtain rfl : r3 = 0 := by omega
 refine Ke ?_
 have hR35 := q2 hM5 (.brk ()) (by simp only [r7_Rising_L0, h12, cs4])
 refine KS ?_
 refine Oq Va (KS ?_)
 have hq := q4 hrr true (by simp only [r7_Rising, h12, hR35, cs4]); subst hq
 exact Kr () rfl (.tmp rfl .nil) [] trivial
theorem fn76 (a : GCopy) (b : GCopy) (ha_0 : i64ok a.From) (ha_1 : i64ok a.To) (hb_0 : i64ok b.From) (hb_1 : i64ok b.To) (rr : Bool) (hrr : r1_Before a b = rr) : FT Tryz.prog 76 #[.agg #[vi a.From, vi a.To], .agg #[vi b.From, vi b.To]] [] (fun g : Unit => True) (fun g => vb rr) (fun g => []) := by
 refine FTi Tryz.func76 fun w0 M0 F0 => ?_
 unfold i64ok at ha_0 ha_1 hb_0 hb_1
 refine KS ?_
 refine Oa (Ab [vi a.From, vi a.To]) fun p1 => Oa (Ab [vi b.From, vi b.To]) fun p2 => Oq Va (KS ?_)
 refine Oq (Vfa fo74_0 1) (Oq (VldF sh3 1) (Oq (Vfa fo74_0 0) (Oq (VldF sh3 0) (Oq Vlss (Oq Vm ?_)))))
 refine Js 10 ?_ ?_
 ·intro h3
  have g4 := dt h3
  refine Osk (Osk (Osk (Osk (Osk (Osk (Osk (Osk (Osk (Osk ?_)))))))))
  refine Osk (Osk (Oq Vpt (Oq Va (KS ?_))))
  have hq := q4 hrr true (by simp only [r1_Before, h3, cs4]); subst hq
  exact Kr () rfl (.tmp rfl .nil) [] trivial
 intro h3
 have g5 := df h3
 refine Oq (Vfa fo74_0 1) (Oq (VldF sh3 1) (Oq (Vfa fo74_0 0) (Oq (VldF sh3 0) (Oq Veql (Oq Vm ?_)))))
 refine Js 16 ?_ ?_
 ·intro h6
  have g7 := eq_of_beq h6
  refine Oq (Vfa fo74_1 1) (Oq (VldF sh3 1) (Oq (Vfa fo74_1 0) (Oq (VldF sh3 0) (Oq Vlss (Oq Vpt (Oq Vpf (Oq Va (KS ?_))))))))
  have hq := q4 hrr (decide (a.To < b.To)) (by simp only [r1_Before, h3, h6, cs4]); subst hq
  exact Kr () rfl (.tmp rfl .nil) [] trivial
 intro h6
 have g8 := ne_of_beq_false h6
 refine Osk (Osk (Osk (Osk (Osk (Oq Vpf (Oq Vpf (Oq Va (KS ?_))))))))
 have hq := q4 hrr false (by simp only [r1_Before, h3, h6, cs4]); subst hq
 exact Kr () rfl (.tmp rfl .nil) [] trivial
theorem fn54 (t : GTransfer) (ta1 : Option Addr) (tk1 : Nat) (ta3 : Option Addr) (tk3 : Nat) (ta4 : Option Addr) (tk4 : Nat) (ht_0 : i64ok t.Gen.Width) (ht_2 : i64ok t.Kill.Width) (rr : Bool) (hrr : r1_ValidTransfer t = rr) : FT Tryz.prog 54 #[.agg #[vi t.Gen.Width, vl ta1 tk1 t.Gen.Words, vi t.Kill.Width, vl ta3 tk3 t.Kill.Words, vl ta4 tk4 t.Copies]] [S ta1 tk1 t.Gen.Words, S ta3 tk3 t.Kill.Words, S ta4 tk4 t.Copies] (fun g : Unit => True) (fun g => vb rr) (fun g => []) := by
 refine FTi Tryz.func54 fun w0 M0 F0 => ?_
 unfold i64ok at ht_0 ht_2
 refine Fb 8 0 fun _ => Fb 8 1 fun _ => Fb 16 2 fun _ => KS ?_
 refine Oa (Ab [vi t.Gen.Width, vl ta1 tk1 t.Gen.Words, vi t.Kill.Width, vl ta3 tk3 t.Kill.Words, vl ta4 tk4 t.Copies]) fun p4 => Oq Va (KS ?_)
 refine Oq (Vfa fo57_0 0) (Oq (VldG sh53 0 [vi t.Gen.Width, vl ta1 tk1 t.Gen.Words]) ?_)
 refine letv (r1_Valid t.Gen) fun rv5 hg6 => ?_
 have hc7 := fn43 t.Gen ta1 tk1 pre rv5 hg6
 refine Oc [1] ca43 hc7 ?_
 rintro - -
 refine Oq Vnot (Oq Vm ?_)
 refine Js 10 ?_ ?_
 ·intro h8
  have h10 := not_true h8
  refine Osk (Osk (Osk (Osk (Oq Vpt (Oq Vm (Osk (Osk (Osk (Osk ?_)))))))))
  refine Osk (Osk (Osk (Oq Vpt (Oq Vm (Osk (Osk (Osk (Osk (Oq Vpt ?_)))))))))
  refine KS ?_
  refine Kt (KS ?_)
  refine Oq Va (KS ?_)
  have hq := q4 hrr false (by simp only [r1_ValidTransfer, h8, h10, hg6, cs4]); subst hq
  exact Kr () rfl (.tmp rfl .nil) [] trivial
 intro h8
 have h13 := not_false h8
 refine Oq (Vfa fo57_1 0) (Oq (VldG sh53 0 [vi t.Kill.Width, vl ta3 tk3 t.Kill.Words]) ?_)
 refine letv (r1_Valid t.Kill) fun rv15 hg16 => ?_
 have hc17 := fn43 t.Kill ta3 tk3 pre rv15 hg16
 refine Oc [2] ca43 hc17 ?_
 rintro - -
 refine Oq Vnot (Oq Vpf (Oq Vm ?_))
 refine Js 16 ?_ ?_
 ·intro h18
  have h20 := not_true h18
  refine Osk (Osk (Osk (Osk (Osk (Osk (Osk (Oq Vpt (Oq Vm (Osk ?_)))))))))
  refine Osk (Osk (Osk (Oq Vpt (KS ?_))))
  refine Kt (KS ?_)
  refine Oq Va (KS ?_)
  have hq := q4 hrr false (by simp only [r1_ValidTransfer, h8, h13, h18, h20, hg6, hg16, cs4]); subst hq
  exact Kr () rfl (.tmp rfl .nil) [] trivial
 intro h18
 have h23 := not_false h18
 refine Oq (Vfa fo57_0 0) (Oq (VfaF fo53_0 0) (Oq (VldF sh3 0) (Oq (Vfa fo57_1 0) (Oq (VfaF fo53_0 0) (Oq (VldF sh3 0) (Oq Vneq (Oq Vpf (Oq Vm ?_))))))))
 refine Js 25 ?_ ?_
 ·intro h25
  have g26 := ne_of_bne h25
  refine Osk (Osk (Osk (Osk (Oq Vpt (KS ?_)))))
  refine Kt (KS ?_)
  refine Oq Va (KS ?_)
  have hq := q4 hrr false (by simp only [r1_ValidTransfer, h8, h13, h18, h23, h25, hg6, hg16, cs4]); subst hq
  exact Kr () rfl (.tmp rfl .nil) [] trivial
 intro h25
 have g27 := eq_of_bne_false h25
 refine Oq (Vfa fo57_2 0) (Oq (VldF sh55 0) (Oq (Vlen sl55) (Oq Vgtr (Oq Vpf (KS ?_)))))
 refine Kc ?_ ?_
 ·intro h28
  have g29 := dt h28
  refine KS ?_
  refine Oq Va (KS ?_)
  have hq := q4 hrr false (by simp only [r1_ValidTransfer, h8, h13, h18, h23, h25, h28, hg6, hg16, cs4]); subst hq
  exact Kr () rfl (.tmp rfl .nil) [] trivial
 intro h28
 have g30 := df h28
 refine KS ?_
 refine Oq (Vfa fo57_0 0) (Oq (VfaF fo53_0 0) (Oq (VldF sh3 0) (Oq Va (KS ?_))))
 refine Oq Va (KS ?_)
 refine Kl (γ := Nat × Int) (fun (r31, i_32) => ⟨[(1, p4), (3, vi t.Gen.Width), (4, vi i_32)], [pv p4 [vi t.Gen.Width, vl ta1 tk1 t.Gen.Words, vi t.Kill.Width, vl ta3 tk3 t.Kill.Words, vl ta4 tk4 t.Copies], S ta1 tk1 t.Gen.Words, S ta3 tk3 t.Kill.Words, S ta4 tk4 t.Copies], r1_ValidTransfer_L0 t r31 i_32 = r1_ValidTransfer_L0 t (((t.Copies.length : Int) - 0).toNat) 0 ∧ r31 = ((t.Copies.length : Int) - i_32).toNat ∧ (0 : Int) ≤ i_32 ∧ i_32 ≤ (t.Copies.length : Int) ∧ (-9223372036854775808 ≤ i_32 ∧ i_32 ≤ 9223372036854775807), r31⟩) (((t.Copies.length : Int) - 0).toNat, 0) [0, 1, 2, 3] ⟨rfl, rfl, aM1, aM1, aM1⟩ ?_
 rintro ⟨r31, i_32⟩ ⟨hM33, hr34, hi35, hi36, hk37⟩
 refine JJ_nx fun _ _ hL hA => ?_; dsimp only at hL hA; subst hL hA
 refine Fb 8 1 fun _ => Fb 8 2 fun _ => Fb 16 3 fun _ => KS ?_
 refine Oq Vm (Oq (Vfa fo57_2 0) (Oq (VldF sh55 0) (Oq (Vlen sl55) (Oq Vlss (KS ?_)))))
 refine Kc ?_ ?_
 ·intro h41
  have g42 := dt h41
  obtain ⟨r43, rfl⟩ := scc (n := r31) aM1
  refine KS ?_
  refine Oq (Vfa fo57_2 0) (Oq (VldF sh55 0) (Oq Vm (Oq (Vi sl55 3) ?_)))
  refine JJ_peek_GCopy i_32.toNat 3 rfl rng fun hb44 hb45 => ?_
  unfold i64ok at hb44 hb45
  refine Oq (VldA sh74 0) (Oa (Al ze74 [vi 0, vi 0]) fun p46 => Ost (Scl [0] sh74 [vi ((t.Copies.getD i_32.toNat default).From), vi ((t.Copies.getD i_32.toNat default).To)]) (KS ?_))
  refine Jp 0 fun hp47 => ?_
  refine bool_split (decide ((t.Copies.getD i_32.toNat default).From < 0)) ?_ ?_
  ·intro h48
   have g49 := dt h48
   refine Kq [0, 1, 3, 7, 15, 31, 15, 127, 255, 511, 1023, 2047, 4095, 8191, 16383, 32767, 65535, 32767, 262143, 524287, 1048575, 2097151, 4194303, 8388607, 16777215, 33554431, 16777215, 83886079, 268435455, 536870911, 16777215, 2147483647, 4294967295, 8589934591, 17179869183] fmix ?_
   refine Qv [0] (Vfa fo74_0 0) (Qv [1] (VldF sh3 0) (Qb h48 [] Vlss (Qv [] Vm (Qs (Qs (Qs (Qs (Qv [] Vpt (Qv [] Vm ?_)))))))))
   refine Qs (Qs (Qs (Qv [] Vpt (Qv [] Vm (Qs (Qs (Qs (Qs (Qv [] Vpt ?_)))))))))
   refine Qv [] Vm (Qs (Qs (Qs (Qs (Qs (Qs (Qs (Qs (Qs ?_)))))))))
   refine Qs (Qs (Qs (Qs (Qv [] Vpt ?_))))
   refine Qn ⟨by kernel_rfl, ?_⟩
   refine Kt (KS ?_)
   refine Oq Va (KS ?_)
   have hR50 := q2 hM33 (.ret false) (by simp only [r1_ValidTransfer_L0, h41, h48, cs4])
   have hq := q4 hrr false (by simp only [r1_ValidTransfer, h8, h13, h18, h23, h25, h28, h41, h48, hg6, hg16, hR50, cs4]); subst hq
   exact Kr () rfl (.tmp rfl .nil) [] trivial
  intro h48
  have g51 := df h48
  refine bool_split (decide (t.Gen.Width ≤ (t.Copies.getD i_32.toNat default).From)) ?_ ?_
  ·intro h52
   have g53 := dt h52
   refine Kq [0, 1, 3, 7, 15, 31, 15, 127, 255, 511, 1023, 2047, 4095, 8191, 16383, 32767, 65535, 32767, 262143, 524287, 1048575, 2097151, 4194303, 8388607, 16777215, 33554431, 16777215, 83886079, 268435455, 536870911, 16777215, 2147483647, 4294967295, 8589934591, 17179869183] fmix ?_
   refine Qv [0] (Vfa fo74_0 0) (Qv [1] (VldF sh3 0) (Qb h48 [] Vlss (Qv [] Vm (Qv [0] (Vfa fo74_0 0) (Qv [1] (VldF sh3 0) (Qv [] Vm (Qb h52 [] Vgeq (Qv [] Vpf (Qv [] Vm ?_)))))))))
   refine Qs (Qs (Qs (Qv [] Vpt (Qv [] Vm (Qs (Qs (Qs (Qs (Qv [] Vpt ?_)))))))))
   refine Qv [] Vm (Qs (Qs (Qs (Qs (Qs (Qs (Qs (Qs (Qs ?_)))))))))
   refine Qs (Qs (Qs (Qs (Qv [] Vpt ?_))))
   refine Qn ⟨by kernel_rfl, ?_⟩
   refine Kt (KS ?_)
   refine Oq Va (KS ?_)
   have hR54 := q2 hM33 (.ret false) (by simp only [r1_ValidTransfer_L0, h41, h48, h52, cs4])
   have hq := q4 hrr false (by simp only [r1_ValidTransfer, h8, h13, h18, h23, h25, h28, h41, h48, h52, hg6, hg16, hR54, cs4]); subst hq
   exact Kr () rfl (.tmp rfl .nil) [] trivial
  intro h52
  have g55 := df h52
  refine bool_split (decide ((t.Copies.getD i_32.toNat default).To < 0)) ?_ ?_
  ·intro h56
   have g57 := dt h56
   refine Kq [0, 1, 3, 7, 15, 31, 15, 127, 255, 511, 1023, 2047, 4095, 8191, 16383, 32767, 65535, 32767, 262143, 524287, 1048575, 2097151, 4194303, 8388607, 16777215, 33554431, 16777215, 83886079, 268435455, 536870911, 16777215, 2147483647, 4294967295, 8589934591, 17179869183] fmix ?_
   refine Qv [0] (Vfa fo74_0 0) (Qv [1] (VldF sh3 0) (Qb h48 [] Vlss (Qv [] Vm (Qv [0] (Vfa fo74_0 0) (Qv [1] (VldF sh3 0) (Qv [] Vm (Qb h52 [] Vgeq (Qv [] Vpf (Qv [] Vm ?_)))))))))
   refine Qv [0] (Vfa fo74_1 0) (Qv [1] (VldF sh3 0) (Qb h56 [] Vlss (Qv [] Vpf (Qv [] Vm (Qs (Qs (Qs (Qs (Qv [] Vpt ?_)))))))))
   refine Qv [] Vm (Qs (Qs (Qs (Qs (Qs (Qs (Qs (Qs (Qs ?_)))))))))
   refine Qs (Qs (Qs (Qs (Qv [] Vpt ?_))))
   refine Qn ⟨by kernel_rfl, ?_⟩
   refine Kt (KS ?_)
   refine Oq Va (KS ?_)
   have hR58 := q2 hM33 (.ret false) (by simp only [r1_ValidTransfer_L0, h41, h48, h52, h56, cs4])
   have hq := q4 hrr false (by simp only [r1_ValidTransfer, h8, h13, h18, h23, h25, h28, h41, h48, h52, h56, hg6, hg16, hR58, cs4]); subst hq
   exact Kr () rfl (.tmp rfl .nil) [] trivial
  intro h56
  have g59 := df h56
  refine bool_split (decide (t.Gen.Width ≤ (t.Copies.getD i_32.toNat default).To)) ?_ ?_
  ·intro h60
   have g61 := dt h60
   refine Kq [0, 1, 3, 7, 15, 31, 15, 127, 255, 511, 1023, 2047, 4095, 8191, 16383, 32767, 65535, 32767, 262143, 524287, 1048575, 2097151, 4194303, 8388607, 16777215, 33554431, 16777215, 83886079, 268435455, 536870911, 16777215, 2147483647, 4294967295, 8589934591, 17179869183] fmix ?_
   refine Qv [0] (Vfa fo74_0 0) (Qv [1] (VldF sh3 0) (Qb h48 [] Vlss (Qv [] Vm (Qv [0] (Vfa fo74_0 0) (Qv [1] (VldF sh3 0) (Qv [] Vm (Qb h52 [] Vgeq (Qv [] Vpf (Qv [] Vm ?_)))))))))
   refine Qv [0] (Vfa fo74_1 0) (Qv [1] (VldF sh3 0) (Qb h56 [] Vlss (Qv [] Vpf (Qv [] Vm (Qv [0] (Vfa fo74_1 0) (Qv [1] (VldF sh3 0) (Qv [] Vm (Qb h60 [] Vgeq (Qv [] Vpf ?_)))))))))
   refine Qv [] Vm (Qs (Qs (Qs (Qs (Qs (Qs (Qs (Qs (Qs ?_)))))))))
   refine Qs (Qs (Qs (Qs (Qv [] Vpt ?_))))
   refine Qn ⟨by kernel_rfl, ?_⟩
   refine Kt (KS ?_)
   refine Oq Va (KS ?_)
   have hR62 := q2 hM33 (.ret false) (by simp only [r1_ValidTransfer_L0, h41, h48, h52, h56, h60, cs4])
   have hq := q4 hrr false (by simp only [r1_ValidTransfer, h8, h13, h18, h23, h25, h28, h41, h48, h52, h56, h60, hg6, hg16, hR62, cs4]); subst hq
   exact Kr () rfl (.tmp rfl .nil) [] trivial
  intro h60
  have g63 := df h60
  refine bool_split (decide (0 < i_32)) ?_ ?_
  ·intro h64
   have g65 := dt h64
   refine JJ_peek_GCopy ((i_32 - 1) : Int).toNat 6 rfl rng fun hb66 hb67 => ?_
   unfold i64ok at hb66 hb67
   refine JK_drawK [0, 1, 3, 7, 15, 31, 15, 127, 255, 511, 1023, 2047, 4095, 8191, 16383, 32767, 65535, 32767, 262143, 524287, 1048575, 2097151, 4194303, 8388607, 16777215, 33554431, 16777215, 83886079, 268435455, 536870911, 16777215, 2147483647, 4294967295, 8589934591, 17179869183] fmix ?_
   refine Dv [1] (Vfa fo74_0 0) (Dv [2] (VldF sh3 0) (Db h48 [] Vlss (Dv [] Vm (Dv [1] (Vfa fo74_0 0) (Dv [2] (VldF sh3 0) (Dv [] Vm (Db h52 [] Vgeq (Dv [] Vpf (Dv [] Vm ?_)))))))))
   refine Dv [1] (Vfa fo74_1 0) (Dv [2] (VldF sh3 0) (Db h56 [] Vlss (Dv [] Vpf (Dv [] Vm (Dv [1] (Vfa fo74_1 0) (Dv [2] (VldF sh3 0) (Dv [] Vm (Db h60 [] Vgeq (Dv [] Vpf ?_)))))))))
   refine Dv [] Vm (Dv [] Vm (Db h64 [] Vgtr (Dv [] Vm (Dv [4] (Vfa fo57_2 0) (Dv [4] (VldF sh55 0) (Dv [] Vm (Dv [] Vsub (Dv [7] (Vi sl55 0) (Dv [0] (VldA sh74 0) ?_)))))))))
   refine Dv [2] (VldA sh74 0) ?_
   refine letv (r1_Before (t.Copies.getD ((i_32 - 1) : Int).toNat default) (t.Copies.getD i_32.toNat default)) fun rv68 hg69 => ?_
   refine Dx [] [] [0] (fun G => vb rv68) [fun G => SP.fact (True)] (fun G => xC [] ca76 (fn76 ((t.Copies.getD ((i_32 - 1) : Int).toNat default)) ((t.Copies.getD i_32.toNat default)) pre pre pre pre rv68 hg69)) (Dv [] Vnot (Dv [] Vpt (Dv [] Vpf ?_)))
   refine Dn ⟨by kernel_rfl, fun G => ?_⟩
   refine Jw2 [(1, p4), (3, vi t.Gen.Width), (4, vi i_32), (80, vb (!rv68))] [0, 1, 2, 3, 4, 5, 6, 7] [SP.fact (True)] ?_
   refine Jk [0, 2, 2, 3, 4, 5, 6] ?_
   refine Kc ?_ ?_
   ·intro h70
    have h72 := not_true h70
    refine KS ?_
    refine Oq Va (KS ?_)
    have hR74 := q2 hM33 (.ret false) (by simp only [r1_ValidTransfer_L0, h41, h48, h52, h56, h60, h64, h70, h72, hg69, cs4])
    have hq := q4 hrr false (by simp only [r1_ValidTransfer, h8, h13, h18, h23, h25, h28, h41, h48, h52, h56, h60, h64, h70, h72, hg6, hg16, hg69, hR74, cs4]); subst hq
    exact Kr () rfl (.tmp rfl .nil) [] trivial
   intro h70
   have h76 := not_false h70
   refine KS ?_
   refine Oq Vm (Oq Vadd (Oq Va (KS ?_)))
   exact Kg (r43, (i_32 + 1)) [3, 4, 5, 6] ⟨(q3 hM33 (by simp only [r1_ValidTransfer_L0, h41, h48, h52, h56, h60, h64, h70, h76, hg69, cs4])), aM1, aM1, aM1, aM1⟩
  intro h64
  have g78 := df h64
  refine Kq [0, 1, 3, 7, 15, 31, 15, 127, 255, 511, 1023, 2047, 4095, 8191, 16383, 32767, 65535, 32767, 262143, 524287, 1048575, 2097151, 4194303, 8388607, 16777215, 33554431, 16777215, 83886079, 268435455, 536870911, 16777215, 2147483647, 4294967295, 8589934591, 17179869183] fmix ?_
  refine Qv [0] (Vfa fo74_0 0) (Qv [1] (VldF sh3 0) (Qb h48 [] Vlss (Qv [] Vm (Qv [0] (Vfa fo74_0 0) (Qv [1] (VldF sh3 0) (Qv [] Vm (Qb h52 [] Vgeq (Qv [] Vpf (Qv [] Vm ?_)))))))))
  refine Qv [0] (Vfa fo74_1 0) (Qv [1] (VldF sh3 0) (Qb h56 [] Vlss (Qv [] Vpf (Qv [] Vm (Qv [0] (Vfa fo74_1 0) (Qv [1] (VldF sh3 0) (Qv [] Vm (Qb h60 [] Vgeq (Qv [] Vpf ?_)))))))))
  refine Qv [] Vm (Qv [] Vm (Qb h64 [] Vgtr (Qv [] Vm (Qs (Qs (Qs (Qs (Qs (Qs ?_)))))))))
  refine Qs (Qs (Qs (Qv [] Vpf (Qv [] Vpf ?_))))
  refine Qn ⟨by kernel_rfl, ?_⟩
  refine Kf (KS ?_)
  refine Oq Vm (Oq Vadd (Oq Va (KS ?_)))
  exact Kg (r43, (i_32 + 1)) [3, 4, 5, 6] ⟨(q3 hM33 (by simp only [r1_ValidTransfer_L0, h41, h48, h52, h56, h60, h64, cs4])), aM1, aM1, aM1, aM1⟩
 intro h41
 have g79 := df h41
 obtain rfl : r31 = 0 := by omega
 refine Ke ?_
 have hR80 := q2 hM33 (.brk ()) (by simp only [r1_ValidTransfer_L0, h41, cs4])
 refine KS ?_
 refine Oq Va (KS ?_)
 have hq := q4 hrr true (by simp only [r1_ValidTransfer, h8, h13, h18, h23, h25, h28, h41, hg6, hg16, hR80, cs4]); subst hq
 exact Kr () rfl (.tmp rfl .nil) [] trivial
theorem fn23 (s : GSystem) (sa1 : Option Addr) (sk1 : Nat) (sa2 : Option Addr) (sk2 : Nat) (sa3 : Option Addr) (sk3 : Nat) (hs_0 : i64ok s.Width) (rr : Bool) (hrr : r10_Valid s = rr) : FT Tryz.prog 23 #[.agg #[vi s.Width, vl sa1 sk1 s.Deps, vl sa2 sk2 s.Transfers, vl sa3 sk3 s.Boundary]] [S sa1 sk1 s.Deps, S sa2 sk2 s.Transfers, S sa3 sk3 s.Boundary] (fun g : Unit => True) (fun g => vb rr) (fun g => []) := by
 refine FTi Tryz.func23 fun w0 M0 F0 => ?_
 unfold i64ok at hs_0
 refine Fb 24 0 fun _ => Fb 88 1 fun _ => Fb 32 2 fun _ => KS ?_
 refine Oa (Ab [vi s.Width, vl sa1 sk1 s.Deps, vl sa2 sk2 s.Transfers, vl sa3 sk3 s.Boundary]) fun p4 => Oq Va (KS ?_)
 refine Oq (Vfa fo27_3 0) (Oq (VldF sh25 0) (Oq (Vlen sl25) (Oq Va (KS ?_))))
 refine Oq (Vfa fo27_0 0) (Oq (VldF sh3 0) (Oq Vlss (Oq Vm ?_)))
 refine Js 12 ?_ ?_
 ·intro h5
  have g6 := dt h5
  refine Osk (Osk (Osk (Oq Vpt (Oq Vm (Osk (Osk (Oq Vpt (Oq Vm (Osk ?_)))))))))
  refine Osk (Oq Vpt (Oq Vm (Osk (Osk (Osk (Osk (Osk (Oq Vpt (Oq Vm ?_)))))))))
  refine Osk (Osk (Osk (Osk (Osk (Oq Vpt (KS ?_))))))
  refine Kt (KS ?_)
  refine Oq Va (KS ?_)
  have hq := q4 hrr false (by simp only [r10_Valid, h5, cs4]); subst hq
  exact Kr () rfl (.tmp rfl .nil) [] trivial
 intro h5
 have g7 := df h5
 refine Oq (Vfa fo27_0 0) (Oq (VldF sh3 0) (Oq Vgtr (Oq Vpf (Oq Vm ?_))))
 refine Js 17 ?_ ?_
 ·intro h8
  have g9 := dt h8
  refine Osk (Osk (Oq Vpt (Oq Vm (Osk (Osk (Oq Vpt (Oq Vm (Osk (Osk ?_)))))))))
  refine Osk (Osk (Osk (Oq Vpt (Oq Vm (Osk (Osk (Osk (Osk (Osk ?_)))))))))
  refine Oq Vpt (KS ?_)
  refine Kt (KS ?_)
  refine Oq Va (KS ?_)
  have hq := q4 hrr false (by simp only [r10_Valid, h5, h8, cs4]); subst hq
  exact Kr () rfl (.tmp rfl .nil) [] trivial
 intro h8
 have g10 := df h8
 refine Oq Vm (Oq Vlss (Oq Vpf (Oq Vm ?_)))
 refine Js 21 ?_ ?_
 ·intro h11
  have g12 := dt h11
  refine Osk (Osk (Oq Vpt (Oq Vm (Osk (Osk (Osk (Osk (Osk (Oq Vpt ?_)))))))))
  refine Oq Vm (Osk (Osk (Osk (Osk (Osk (Oq Vpt (KS ?_)))))))
  refine Kt (KS ?_)
  refine Oq Va (KS ?_)
  have hq := q4 hrr false (by simp only [r10_Valid, h5, h8, h11, cs4]); subst hq
  exact Kr () rfl (.tmp rfl .nil) [] trivial
 intro h11
 have g13 := df h11
 refine Oq Vm (Oq Vgtr (Oq Vpf (Oq Vm ?_)))
 refine Js 25 ?_ ?_
 ·intro h14
  have g15 := dt h14
  refine Osk (Osk (Osk (Osk (Osk (Oq Vpt (Oq Vm (Osk (Osk (Osk ?_)))))))))
  refine Osk (Osk (Oq Vpt (KS ?_)))
  refine Kt (KS ?_)
  refine Oq Va (KS ?_)
  have hq := q4 hrr false (by simp only [r10_Valid, h5, h8, h11, h14, cs4]); subst hq
  exact Kr () rfl (.tmp rfl .nil) [] trivial
 intro h14
 have g16 := df h14
 refine Oq (Vfa fo27_1 0) (Oq (VldF sh23 0) (Oq (Vlen sl23) (Oq Vm (Oq Vneq (Oq Vpf (Oq Vm ?_))))))
 refine Js 32 ?_ ?_
 ·intro h17
  have g18 := ne_of_bne h17
  refine Osk (Osk (Osk (Osk (Osk (Oq Vpt (KS ?_))))))
  refine Kt (KS ?_)
  refine Oq Va (KS ?_)
  have hq := q4 hrr false (by simp only [r10_Valid, h5, h8, h11, h14, h17, cs4]); subst hq
  exact Kr () rfl (.tmp rfl .nil) [] trivial
 intro h17
 have g19 := eq_of_bne_false h17
 refine Oq (Vfa fo27_2 0) (Oq (VldF sh24 0) (Oq (Vlen sl24) (Oq Vm (Oq Vneq (Oq Vpf (KS ?_))))))
 refine Kc ?_ ?_
 ·intro h20
  have g21 := ne_of_bne h20
  refine KS ?_
  refine Oq Va (KS ?_)
  have hq := q4 hrr false (by simp only [r10_Valid, h5, h8, h11, h14, h17, h20, cs4]); subst hq
  exact Kr () rfl (.tmp rfl .nil) [] trivial
 intro h20
 have g22 := eq_of_bne_false h20
 refine KS ?_
 refine Oq Va (KS ?_)
 refine Oq Va (KS ?_)
 refine Kl (γ := Nat × Int × Int) (fun (r23, edges_24, i_25) => ⟨[(1, p4), (3, vi (s.Boundary.length : Int)), (4, vi edges_24), (5, vi i_25)], [pv p4 [vi s.Width, vl sa1 sk1 s.Deps, vl sa2 sk2 s.Transfers, vl sa3 sk3 s.Boundary], S sa1 sk1 s.Deps, S sa2 sk2 s.Transfers, S sa3 sk3 s.Boundary], r10_Valid_L0 s r23 edges_24 i_25 = r10_Valid_L0 s (((s.Boundary.length : Int) - 0).toNat) 0 0 ∧ r23 = ((s.Boundary.length : Int) - i_25).toNat ∧ (0 : Int) ≤ i_25 ∧ i_25 ≤ (s.Boundary.length : Int) ∧ (-9223372036854775808 ≤ edges_24 ∧ edges_24 ≤ 9223372036854775807) ∧ (-9223372036854775808 ≤ i_25 ∧ i_25 ≤ 9223372036854775807) ∧ 0 ≤ edges_24 ∧ edges_24 ≤ i_25 * 17592186044416, r23⟩) (((s.Boundary.length : Int) - 0).toNat, 0, 0) [0, 1, 2, 3] ⟨rfl, rfl, aM1, aM1, aM1, aM1, iv0⟩ ?_
 rintro ⟨r23, edges_24, i_25⟩ ⟨hM26, hr27, hi28, hi29, hk30, hk31, hv32⟩
 refine JJ_nx fun _ _ hL hA => ?_; dsimp only at hL hA; subst hL hA
 refine Fb 24 1 fun _ => Fb 88 2 fun _ => Fb 32 3 fun _ => KS ?_
 refine Oq Vm (Oq Vm (Oq Vlss (KS ?_)))
 refine Kc ?_ ?_
 ·intro h36
  have g37 := dt h36
  obtain ⟨r38, rfl⟩ := scc (n := r23) aM1
  refine KS ?_
  refine JJ_peekL i_25.toNat 1 rfl rng fun a39 k40 => ?_
  refine Fb 8 1 fun _ => Fo 1 fun ho42 => ?_
  refine letv (r7_Rising (s.Deps.getD i_25.toNat []) (s.Boundary.length : Int)) fun rv43 hg44 => ?_
  refine bool_split (!rv43) ?_ ?_
  ·intro h45
   have h47 := not_true h45
   refine JK_drawK [0, 1, 0, 7, 15, 0, 63, 127, 255, 511, 1023, 511, 4095, 8191, 16383, 32767, 65535, 131071, 262143, 524287, 262143, 2097151, 4194303, 8388607, 16777215, 262143, 33816575, 134217727, 268435455, 536870911, 1073741823, 2147483647, 1073741823, 8589934591, 17179869183, 34359738367, 68719476735, 137438953471, 274877906943, 549755813887, 1099511627775, 549755813887, 4398046511103, 8796093022207, 17592186044415, 549755813887, 35734127902719, 140737488355327, 281474976710655] fmix ?_
   refine Dv [2] (Vfa fo27_1 0) (Dv [2] (VldF sh23 0) (Dv [] Vm (Dv [3] (Vi sl23 0) (Dv [0] (Vld sh22 0) (Dv [] Vm (Dx [1] [] [1, 0] (fun G => vb rv43) [fun G => SP.fact (True)] (fun G => xC [0] ca53 (fn53 ((s.Deps.getD i_25.toNat [])) a39 k40 ((s.Boundary.length : Int)) pre rv43 hg44)) (Db h45 [] Vnot (Dv [] Vm (Ds ?_)))))))))
   refine Ds (Ds (Ds (Ds (Ds (Ds (Dv [] Vpt (Dv [] Vm (Ds (Ds ?_)))))))))
   refine Ds (Ds (Ds (Ds (Ds (Ds (Ds (Ds (Dv [] Vpt (Dv [] Vm ?_)))))))))
   refine Ds (Ds (Ds (Ds (Ds (Ds (Ds (Dv [] Vpt (Dv [] Vm (Ds ?_)))))))))
   refine Ds (Ds (Ds (Ds (Ds (Ds (Ds (Ds (Dv [] Vpt ?_))))))))
   refine Dn ⟨by kernel_rfl, fun G => ?_⟩
   refine Jw2 [(1, p4), (3, vi (s.Boundary.length : Int)), (4, vi edges_24), (5, vi i_25), (92, vb true)] [0, 1, 2, 3, 4, 5] [SP.fact (True)] ?_
   refine Jk [0, 1, 2, 3, 4, 5] (Kt ?_)
   refine KS ?_
   refine Oq Va (KS ?_)
   have hR49 := q2 hM26 (.ret false) (by simp only [r10_Valid_L0, h36, h45, h47, hg44, cs4])
   have hq := q4 hrr false (by simp only [r10_Valid, h5, h8, h11, h14, h17, h20, h36, h45, h47, hg44, hR49, cs4]); subst hq
   exact Kr () rfl (.tmp rfl .nil) [] trivial
  intro h45
  have h51 := not_false h45
  refine JJ_peek_GTransfer i_25.toNat 4 rfl rng fun a53 k54 a55 k56 a57 k58 hb59 hb60 => ?_
  unfold i64ok at hb59 hb60
  refine Fb 8 1 fun _ => Fb 8 2 fun _ => Fb 16 3 fun _ => ?_
  refine letv (r1_ValidTransfer (s.Transfers.getD i_25.toNat default)) fun rv64 hg65 => ?_
  refine bool_split (!rv64) ?_ ?_
  ·intro h66
   have h68 := not_true h66
   refine JK_drawK [0, 1, 0, 7, 15, 0, 63, 127, 255, 511, 1023, 511, 4095, 8191, 16383, 32767, 65535, 131071, 262143, 524287, 262143, 2097151, 4194303, 8388607, 16777215, 262143, 33816575, 134217727, 268435455, 536870911, 1073741823, 2147483647, 1073741823, 8589934591, 17179869183, 34359738367, 68719476735, 137438953471, 274877906943, 549755813887, 1099511627775, 549755813887, 4398046511103, 8796093022207, 17592186044415, 549755813887, 35734127902719, 140737488355327, 281474976710655] fmix ?_
   refine Dv [6] (Vfa fo27_1 0) (Dv [6] (VldF sh23 0) (Dv [] Vm (Dv [7] (Vi sl23 0) (Dv [4] (Vld sh22 0) (Dv [] Vm (Dx [5] [] [1, 0] (fun G => vb rv43) [fun G => SP.fact (True)] (fun G => xC [0] ca53 (fn53 ((s.Deps.getD i_25.toNat [])) a39 k40 ((s.Boundary.length : Int)) pre rv43 hg44)) (Db h45 [] Vnot (Dv [] Vm (Dv [6] (Vfa fo27_2 0) ?_)))))))))
   refine Dv [6] (VldF sh24 0) (Dv [] Vm (Dv [8] (Vi sl24 0) (Dv [0] (VldA sh57 0) (Dx [1, 2, 3] [] [1, 2, 3, 0] (fun G => vb rv64) [fun G => SP.fact (True)] (fun G => xC [0, 1, 2] ca54 (fn54 ((s.Transfers.getD i_25.toNat default)) a53 k54 a55 k56 a57 k58 pre pre rv64 hg65)) (Db h66 [] Vnot (Dv [] Vpf (Dv [] Vm (Ds (Ds ?_)))))))))
   refine Ds (Ds (Ds (Ds (Ds (Ds (Ds (Ds (Dv [] Vpt (Dv [] Vm ?_)))))))))
   refine Ds (Ds (Ds (Ds (Ds (Ds (Ds (Dv [] Vpt (Dv [] Vm (Ds ?_)))))))))
   refine Ds (Ds (Ds (Ds (Ds (Ds (Ds (Ds (Dv [] Vpt ?_))))))))
   refine Dn ⟨by kernel_rfl, fun G => ?_⟩
   refine Jw2 [(1, p4), (3, vi (s.Boundary.length : Int)), (4, vi edges_24), (5, vi i_25), (92, vb true)] [0, 1, 2, 3, 4, 5, 6, 7, 8, 9] [SP.fact (True), SP.fact (True)] ?_
   refine Jk [0, 1, 2, 3, 4, 5, 6, 7, 8, 9] (Kt ?_)
   refine KS ?_
   refine Oq Va (KS ?_)
   have hR70 := q2 hM26 (.ret false) (by simp only [r10_Valid_L0, h36, h45, h51, h66, h68, hg44, hg65, cs4])
   have hq := q4 hrr false (by simp only [r10_Valid, h5, h8, h11, h14, h17, h20, h36, h45, h51, h66, h68, hg44, hg65, hR70, cs4]); subst hq
   exact Kr () rfl (.tmp rfl .nil) [] trivial
  intro h66
  have h72 := not_false h66
  refine bool_split (((s.Transfers.getD i_25.toNat default).Gen).Width != s.Width) ?_ ?_
  ·intro h74
   have g75 := ne_of_bne h74
   refine JK_drawK [0, 1, 0, 7, 15, 0, 63, 127, 255, 511, 1023, 511, 4095, 8191, 16383, 32767, 65535, 131071, 262143, 524287, 262143, 2097151, 4194303, 8388607, 16777215, 262143, 33816575, 134217727, 268435455, 536870911, 1073741823, 2147483647, 1073741823, 8589934591, 17179869183, 34359738367, 68719476735, 137438953471, 274877906943, 549755813887, 1099511627775, 549755813887, 4398046511103, 8796093022207, 17592186044415, 549755813887, 35734127902719, 140737488355327, 281474976710655] fmix ?_
   refine Dv [6] (Vfa fo27_1 0) (Dv [6] (VldF sh23 0) (Dv [] Vm (Dv [7] (Vi sl23 0) (Dv [4] (Vld sh22 0) (Dv [] Vm (Dx [5] [] [1, 0] (fun G => vb rv43) [fun G => SP.fact (True)] (fun G => xC [0] ca53 (fn53 ((s.Deps.getD i_25.toNat [])) a39 k40 ((s.Boundary.length : Int)) pre rv43 hg44)) (Db h45 [] Vnot (Dv [] Vm (Dv [6] (Vfa fo27_2 0) ?_)))))))))
   refine Dv [6] (VldF sh24 0) (Dv [] Vm (Dv [8] (Vi sl24 0) (Dv [0] (VldA sh57 0) (Dx [1, 2, 3] [] [1, 2, 3, 0] (fun G => vb rv64) [fun G => SP.fact (True)] (fun G => xC [0, 1, 2] ca54 (fn54 ((s.Transfers.getD i_25.toNat default)) a53 k54 a55 k56 a57 k58 pre pre rv64 hg65)) (Db h66 [] Vnot (Dv [] Vpf (Dv [] Vm (Dv [6] (Vfa fo27_2 0) (Dv [6] (VldF sh24 0) ?_)))))))))
   refine Dv [] Vm (Dv [8] (Vi sl24 0) (Dv [0] (Vfa fo57_0 0) (Dv [0] (VfaF fo53_0 0) (Dv [0] (VldF sh3 0) (Dv [6] (Vfa fo27_0 0) (Dv [6] (VldF sh3 0) (Db h74 [] Vneq (Dv [] Vpf (Dv [] Vm ?_)))))))))
   refine Ds (Ds (Ds (Ds (Ds (Ds (Ds (Dv [] Vpt (Dv [] Vm (Ds ?_)))))))))
   refine Ds (Ds (Ds (Ds (Ds (Ds (Ds (Ds (Dv [] Vpt ?_))))))))
   refine Dn ⟨by kernel_rfl, fun G => ?_⟩
   refine Jw2 [(1, p4), (3, vi (s.Boundary.length : Int)), (4, vi edges_24), (5, vi i_25), (92, vb true)] [0, 1, 2, 3, 4, 5, 6, 7, 8, 9] [SP.fact (True), SP.fact (True)] ?_
   refine Jk [0, 1, 2, 3, 4, 5, 6, 7, 8, 9] (Kt ?_)
   refine KS ?_
   refine Oq Va (KS ?_)
   have hR76 := q2 hM26 (.ret false) (by simp only [r10_Valid_L0, h36, h45, h51, h66, h72, h74, hg44, hg65, cs4])
   have hq := q4 hrr false (by simp only [r10_Valid, h5, h8, h11, h14, h17, h20, h36, h45, h51, h66, h72, h74, hg44, hg65, hR76, cs4]); subst hq
   exact Kr () rfl (.tmp rfl .nil) [] trivial
  intro h74
  have g77 := eq_of_bne_false h74
  refine JJ_peek_GSet i_25.toNat 9 rfl rng fun a78 k79 hb80 => ?_
  unfold i64ok at hb80
  refine Fb 8 1 fun _ => ?_
  refine JK_drawK [0, 1, 0, 7, 15, 0, 63, 127, 255, 511, 1023, 511, 4095, 8191, 16383, 32767, 65535, 131071, 262143, 524287, 262143, 2097151, 4194303, 8388607, 16777215, 262143, 33816575, 134217727, 268435455, 536870911, 1073741823, 2147483647, 1073741823, 8589934591, 17179869183, 34359738367, 68719476735, 137438953471, 274877906943, 549755813887, 1099511627775, 549755813887, 4398046511103, 8796093022207, 17592186044415, 549755813887, 35734127902719, 140737488355327, 281474976710655] fmix ?_
  refine Dv [8] (Vfa fo27_1 0) (Dv [8] (VldF sh23 0) (Dv [] Vm (Dv [9] (Vi sl23 0) (Dv [6] (Vld sh22 0) (Dv [] Vm (Dx [7] [] [1, 0] (fun G => vb rv43) [fun G => SP.fact (True)] (fun G => xC [0] ca53 (fn53 ((s.Deps.getD i_25.toNat [])) a39 k40 ((s.Boundary.length : Int)) pre rv43 hg44)) (Db h45 [] Vnot (Dv [] Vm (Dv [8] (Vfa fo27_2 0) ?_)))))))))
  refine Dv [8] (VldF sh24 0) (Dv [] Vm (Dv [10] (Vi sl24 0) (Dv [2] (VldA sh57 0) (Dx [3, 4, 5] [] [1, 2, 3, 0] (fun G => vb rv64) [fun G => SP.fact (True)] (fun G => xC [0, 1, 2] ca54 (fn54 ((s.Transfers.getD i_25.toNat default)) a53 k54 a55 k56 a57 k58 pre pre rv64 hg65)) (Db h66 [] Vnot (Dv [] Vpf (Dv [] Vm (Dv [8] (Vfa fo27_2 0) (Dv [8] (VldF sh24 0) ?_)))))))))
  refine Dv [] Vm (Dv [10] (Vi sl24 0) (Dv [2] (Vfa fo57_0 0) (Dv [2] (VfaF fo53_0 0) (Dv [2] (VldF sh3 0) (Dv [8] (Vfa fo27_0 0) (Dv [8] (VldF sh3 0) (Db h74 [] Vneq (Dv [] Vpf (Dv [] Vm ?_)))))))))
  refine Dv [8] (Vfa fo27_3 0) (Dv [8] (VldF sh25 0) (Dv [] Vm (Dv [11] (Vi sl25 0) (Dv [0] (VldA sh53 0) ?_))))
  refine letv (r1_Valid (s.Boundary.getD i_25.toNat default)) fun rv82 hg83 => ?_
  refine Dx [1] [] [1, 0] (fun G => vb rv82) [fun G => SP.fact (True)] (fun G => xC [0] ca43 (fn43 ((s.Boundary.getD i_25.toNat default)) a78 k79 pre rv82 hg83)) (Dv [] Vnot (Dv [] Vpf ?_))
  refine bool_split (!rv82) ?_ ?_
  ·intro h84
   have h86 := not_true h84
   refine Db h84 [] Vm (Ds (Ds (Ds (Ds (Ds (Ds (Ds (Ds (Ds ?_)))))))))
   refine Dv [] Vpt ?_
   refine Dn ⟨by kernel_rfl, fun G => ?_⟩
   refine Jw2 [(1, p4), (3, vi (s.Boundary.length : Int)), (4, vi edges_24), (5, vi i_25), (92, vb true)] [0, 1, 2, 3, 4, 5, 6, 7, 8, 9, 10, 11] [SP.fact (True), SP.fact (True), SP.fact (True)] ?_
   refine Jk [0, 1, 2, 3, 4, 5, 6, 7, 8, 9, 10, 11] (Kt ?_)
   refine KS ?_
   refine Oq Va (KS ?_)
   have hR88 := q2 hM26 (.ret false) (by simp only [r10_Valid_L0, h36, h45, h51, h66, h72, h74, h84, h86, hg44, hg65, hg83, cs4])
   have hq := q4 hrr false (by simp only [r10_Valid, h5, h8, h11, h14, h17, h20, h36, h45, h51, h66, h72, h74, h84, h86, hg44, hg65, hg83, hR88, cs4]); subst hq
   exact Kr () rfl (.tmp rfl .nil) [] trivial
  intro h84
  have h90 := not_false h84
  refine Db h84 [] Vm (Dv [8] (Vfa fo27_3 0) (Dv [8] (VldF sh25 0) (Dv [] Vm (Dv [11] (Vi sl25 0) (Dv [0] (Vfa fo53_0 0) (Dv [0] (VldF sh3 0) (Dv [8] (Vfa fo27_0 0) (Dv [8] (VldF sh3 0) (Dv [] Vneq ?_)))))))))
  refine Dv [] Vpf ?_
  refine Dn ⟨by kernel_rfl, fun G => ?_⟩
  refine Jw2 [(1, p4), (3, vi (s.Boundary.length : Int)), (4, vi edges_24), (5, vi i_25), (92, vb ((s.Boundary.getD i_25.toNat default).Width != s.Width))] [0, 1, 2, 3, 4, 5, 6, 7, 8, 9, 10, 11] [SP.fact (True), SP.fact (True), SP.fact (True)] ?_
  refine Jk [0, 1, 2, 3, 4, 5, 6, 7, 8, 9, 10, 11] ?_
  refine Kc ?_ ?_
  ·intro h92
   have g93 := ne_of_bne h92
   refine KS ?_
   refine Oq Va (KS ?_)
   have hR94 := q2 hM26 (.ret false) (by simp only [r10_Valid_L0, h36, h45, h51, h66, h72, h74, h84, h90, h92, hg44, hg65, hg83, cs4])
   have hq := q4 hrr false (by simp only [r10_Valid, h5, h8, h11, h14, h17, h20, h36, h45, h51, h66, h72, h74, h84, h90, h92, hg44, hg65, hg83, hR94, cs4]); subst hq
   exact Kr () rfl (.tmp rfl .nil) [] trivial
  intro h92
  have g95 := eq_of_bne_false h92
  refine KS ?_
  refine Oq Vm (Oq (Vfa fo27_1 8) (Oq (VldF sh23 8) (Oq Vm (Oq (Vi sl23 9) (Oq (Vld sh22 6) (Oq (Vlen sl22) (Oq Vadd (Oq Va (KS ?_)))))))))
  refine Oq Vm (Oq Vadd (Oq Va (KS ?_)))
  exact Kg (r38, (edges_24 + ((s.Deps.getD i_25.toNat []).length : Int)), (i_25 + 1)) [8, 9, 10, 11] ⟨(q3 hM26 (by simp only [r10_Valid_L0, h36, h45, h51, h66, h72, h74, h84, h90, h92, hg44, hg65, hg83, cs4])), aM1, aM1, aM1, aM1, aM1, iv1⟩
 intro h36
 have g96 := df h36
 obtain rfl : r23 = 0 := by omega
 refine Ke ?_
 have hR97 := q2 hM26 (.brk edges_24) (by simp only [r10_Valid_L0, h36, cs4])
 refine KS ?_
 refine Oq Vm (Oq Vleq (Oq Va (KS ?_)))
 have hq := q4 hrr (decide (edges_24 ≤ 1024)) (by simp only [r10_Valid, h5, h8, h11, h14, h17, h20, h36, hR97, cs4]); subst hq
 exact Kr () rfl (.tmp rfl .nil) [] trivial
theorem fn24 (s : GSystem) (sa1 : Option Addr) (sk1 : Nat) (sa2 : Option Addr) (sk2 : Nat) (sa3 : Option Addr) (sk3 : Nat) (l : List Int) (la0 : Option Addr) (lk0 : Nat) (hs_0 : i64ok s.Width) (rr : Bool) (hrr : r14_inside s l = rr) : FT Tryz.prog 24 #[.agg #[vi s.Width, vl sa1 sk1 s.Deps, vl sa2 sk2 s.Transfers, vl sa3 sk3 s.Boundary], vl la0 lk0 l] [S sa1 sk1 s.Deps, S sa2 sk2 s.Transfers, S sa3 sk3 s.Boundary, S la0 lk0 l] (fun g : Unit => True) (fun g => vb rr) (fun g => []) := by
 refine FTi Tryz.func24 fun w0 M0 F0 => ?_
 unfold i64ok at hs_0
 refine Fb 24 0 fun _ => Fb 88 1 fun _ => Fb 32 2 fun _ => Fb 8 3 fun _ => Fo 3 fun ho5 => KS ?_
 refine Oa (Ab [vi s.Width, vl sa1 sk1 s.Deps, vl sa2 sk2 s.Transfers, vl sa3 sk3 s.Boundary]) fun p6 => Oq Va (KS ?_)
 refine Oq Va (KS ?_)
 refine Kl (γ := Nat × Int) (fun (r7, i_8) => ⟨[(1, vl la0 lk0 l), (2, p6), (5, vi i_8)], [pv p6 [vi s.Width, vl sa1 sk1 s.Deps, vl sa2 sk2 s.Transfers, vl sa3 sk3 s.Boundary], S sa1 sk1 s.Deps, S sa2 sk2 s.Transfers, S sa3 sk3 s.Boundary, S la0 lk0 l], r14_inside_L0 s l r7 i_8 = r14_inside_L0 s l (((l.length : Int) - 0).toNat) 0 ∧ r7 = ((l.length : Int) - i_8).toNat ∧ (0 : Int) ≤ i_8 ∧ i_8 ≤ (l.length : Int) ∧ (-9223372036854775808 ≤ i_8 ∧ i_8 ≤ 9223372036854775807), r7⟩) (((l.length : Int) - 0).toNat, 0) [0, 1, 2, 3, 4] ⟨rfl, rfl, aM1, aM1, aM1⟩ ?_
 rintro ⟨r7, i_8⟩ ⟨hM9, hr10, hi11, hi12, hk13⟩
 refine JJ_nx fun _ _ hL hA => ?_; dsimp only at hL hA; subst hL hA
 refine Fb 24 1 fun _ => Fb 88 2 fun _ => Fb 32 3 fun _ => Fb 8 4 fun _ => Fo 4 fun ho18 => KS ?_
 refine Oq Vm (Oq Vm (Oq (Vlen sl22) (Oq Vlss (KS ?_))))
 refine Kc ?_ ?_
 ·intro h19
  have g20 := dt h19
  obtain ⟨r21, rfl⟩ := scc (n := r7) aM1
  refine KS ?_
  refine Kq [0, 0, 3, 7, 15, 31, 63, 63, 255, 511, 63, 1087, 3135, 8191, 16383] fmix ?_
  refine Qv [] Vm (Qv [] Vm (Qv [4] (Vi sl22 0) ?_))
  have hb22 := ok1 (i := i_8.toNat) ho18 rng
  refine Qv [4] (VldI sh3 0) (Qv [] Vlss ?_)
  refine bool_split (decide ((l.getD i_8.toNat 0) < 0)) ?_ ?_
  ·intro h23
   have g24 := dt h23
   refine Qb h23 [] Vm (Qs (Qs (Qs (Qs (Qs (Qs (Qs (Qs (Qv [] Vpt ?_)))))))))
   refine Qn ⟨by kernel_rfl, ?_⟩
   refine Kt (KS ?_)
   refine Oq Va (KS ?_)
   have hR25 := q2 hM9 (.ret false) (by simp only [r14_inside_L0, h19, h23, cs4])
   have hq := q4 hrr false (by simp only [r14_inside, h19, h23, hR25, cs4]); subst hq
   exact Kr () rfl (.tmp rfl .nil) [] trivial
  intro h23
  have g26 := df h23
  refine Qb h23 [] Vm (Qv [] Vm (Qv [] Vm (Qv [4] (Vi sl22 0) ?_)))
  have hb27 := ok1 (i := i_8.toNat) ho18 rng
  refine Qv [4] (VldI sh3 0) (Qv [0] (Vfa fo27_3 0) (Qv [0] (VldF sh25 0) (Qv [] (Vlen sl25) (Qv [] Vgeq (Qv [] Vpf ?_)))))
  refine Qn ⟨by kernel_rfl, ?_⟩
  refine Kc ?_ ?_
  ·intro h28
   have g29 := dt h28
   refine KS ?_
   refine Oq Va (KS ?_)
   have hR30 := q2 hM9 (.ret false) (by simp only [r14_inside_L0, h19, h23, h28, cs4])
   have hq := q4 hrr false (by simp only [r14_inside, h19, h23, h28, hR30, cs4]); subst hq
   exact Kr () rfl (.tmp rfl .nil) [] trivial
  intro h28
  have g31 := df h28
  refine KS ?_
  refine Oq Vm (Oq Vadd (Oq Va (KS ?_)))
  exact Kg (r21, (i_8 + 1)) [0, 1, 2, 3, 4] ⟨(q3 hM9 (by simp only [r14_inside_L0, h19, h23, h28, cs4])), aM1, aM1, aM1, aM1⟩
 intro h19
 have g32 := df h19
 obtain rfl : r7 = 0 := by omega
 refine Ke ?_
 have hR33 := q2 hM9 (.brk ()) (by simp only [r14_inside_L0, h19, cs4])
 refine KS ?_
 refine Oq Va (KS ?_)
 have hq := q4 hrr true (by simp only [r14_inside, h19, hR33, cs4]); subst hq
 exact Kr () rfl (.tmp rfl .nil) [] trivial
theorem fn45 (l : List Int) (la0 : Option Addr) (lk0 : Nat) (n : Int) (hn_0 : i64ok n) (rr : Int) (hrr : r14_place l n = rr) : FT Tryz.prog 45 #[vl la0 lk0 l, vi n] [S la0 lk0 l] (fun g : Unit => i64ok rr) (fun g => vi rr) (fun g => []) := by
 refine FTi Tryz.func45 fun w0 M0 F0 => ?_
 unfold i64ok at hn_0
 refine Fb 8 0 fun _ => Fo 0 fun ho2 => KS ?_
 refine Oq Va (KS ?_)
 refine Oq Va (KS ?_)
 refine Kl (γ := Nat × Int) (fun (r3, i_4) => ⟨[(0, vl la0 lk0 l), (1, vi n), (5, vi i_4)], [S la0 lk0 l], r14_place_L0 l n r3 i_4 = r14_place_L0 l n (((l.length : Int) - 0).toNat) 0 ∧ r3 = ((l.length : Int) - i_4).toNat ∧ (0 : Int) ≤ i_4 ∧ i_4 ≤ (l.length : Int) ∧ (-9223372036854775808 ≤ i_4 ∧ i_4 ≤ 9223372036854775807), r3⟩) (((l.length : Int) - 0).toNat, 0) [0] ⟨rfl, rfl, aM1, aM1, aM1⟩ ?_
 rintro ⟨r3, i_4⟩ ⟨hM5, hr6, hi7, hi8, hk9⟩
 refine JJ_nx fun _ _ hL hA => ?_; dsimp only at hL hA; subst hL hA
 refine Fb 8 0 fun _ => Fo 0 fun ho11 => KS ?_
 refine Oq Vm (Oq Vm (Oq (Vlen sl22) (Oq Vlss (KS ?_))))
 refine Kc ?_ ?_
 ·intro h12
  have g13 := dt h12
  obtain ⟨r14, rfl⟩ := scc (n := r3) aM1
  refine KS ?_
  refine Oq Vm (Oq Vm (Oq (Vi sl22 0) ?_))
  have hb15 := ok1 (i := i_4.toNat) ho11 rng
  refine Oq (VldI sh3 0) (Oq Vm (Oq Veql (KS ?_)))
  refine Kc ?_ ?_
  ·intro h16
   have g17 := eq_of_beq h16
   refine KS ?_
   refine Oq Vm (Oq Va (KS ?_))
   have hR18 := q2 hM5 (.ret i_4) (by simp only [r14_place_L0, h12, h16, cs4])
   have hq := q4 hrr i_4 (by simp only [r14_place, h12, h16, hR18, cs4]); subst hq
   exact Kr () rfl (.tmp rfl .nil) [] en
  intro h16
  have g19 := ne_of_beq_false h16
  refine KS ?_
  refine Oq Vm (Oq Vadd (Oq Va (KS ?_)))
  exact Kg (r14, (i_4 + 1)) [0] ⟨(q3 hM5 (by simp only [r14_place_L0, h12, h16, cs4])), aM1, aM1, aM1, aM1⟩
 intro h12
 have g20 := df h12
 obtain rfl : r3 = 0 := by omega
 refine Ke ?_
 have hR21 := q2 hM5 (.brk ()) (by simp only [r14_place_L0, h12, cs4])
 refine KS ?_
 refine Oq Va (KS ?_)
 have hq := q4 hrr (-1) (by simp only [r14_place, h12, hR21, cs4]); subst hq
 exact Kr () rfl (.tmp rfl .nil) [] en
theorem fn42 (l : List Int) (la0 : Option Addr) (lk0 : Nat) (rr : Bool) (hrr : r14_repeated l = rr) : FT Tryz.prog 42 #[vl la0 lk0 l] [S la0 lk0 l] (fun g : Unit => True) (fun g => vb rr) (fun g => []) := by
 refine FTi Tryz.func42 fun w0 M0 F0 => Fb 8 0 fun _ => Fo 0 fun ho2 => ?_
 refine KS ?_
 refine Oq Va (KS ?_)
 refine Oq Va (KS ?_)
 refine Kl (γ := Nat × Int) (fun (r3, i_4) => ⟨[(0, vl la0 lk0 l), (3, vi i_4)], [S la0 lk0 l], r14_repeated_L0 l r3 i_4 = r14_repeated_L0 l (((l.length : Int) - 0).toNat) 0 ∧ r3 = ((l.length : Int) - i_4).toNat ∧ (0 : Int) ≤ i_4 ∧ i_4 ≤ (l.length : Int) ∧ (-9223372036854775808 ≤ i_4 ∧ i_4 ≤ 9223372036854775807), r3⟩) (((l.length : Int) - 0).toNat, 0) [0] ⟨rfl, rfl, aM1, aM1, aM1⟩ ?_
 rintro ⟨r3, i_4⟩ ⟨hM5, hr6, hi7, hi8, hk9⟩
 refine JJ_nx fun _ _ hL hA => ?_; dsimp only at hL hA; subst hL hA
 refine Fb 8 0 fun _ => Fo 0 fun ho11 => KS ?_
 refine Oq Vm (Oq Vm (Oq (Vlen sl22) (Oq Vlss (KS ?_))))
 refine Kc ?_ ?_
 ·intro h12
  have g13 := dt h12
  obtain ⟨r14, rfl⟩ := scc (n := r3) aM1
  refine KS ?_
  refine Oq Vm (Oq Vm (Oq Vm (Oq (Vi sl22 0) ?_)))
  have hb15 := ok1 (i := i_4.toNat) ho11 rng
  refine Oq (VldI sh3 0) ?_
  refine letv (r14_place l (l.getD i_4.toNat 0)) fun rv16 hg17 => ?_
  have hc18 := fn45 l la0 lk0 ((l.getD i_4.toNat 0)) pre rv16 hg17
  refine Oc [0] ca45 hc18 ?_
  rintro - he19
  unfold i64ok at he19
  refine Oq Vm (Oq Vneq (KS ?_))
  refine Kc ?_ ?_
  ·intro h20
   have g21 := ne_of_bne h20
   refine KS ?_
   refine Oq Va (KS ?_)
   have hR22 := q2 hM5 (.ret true) (by simp only [r14_repeated_L0, h12, h20, hg17, cs4])
   have hq := q4 hrr true (by simp only [r14_repeated, h12, h20, hg17, hR22, cs4]); subst hq
   exact Kr () rfl (.tmp rfl .nil) [] trivial
  intro h20
  have g23 := eq_of_bne_false h20
  refine KS ?_
  refine Oq Vm (Oq Vadd (Oq Va (KS ?_)))
  exact Kg (r14, (i_4 + 1)) [0] ⟨(q3 hM5 (by simp only [r14_repeated_L0, h12, h20, hg17, cs4])), aM1, aM1, aM1, aM1⟩
 intro h12
 have g24 := df h12
 obtain rfl : r3 = 0 := by omega
 refine Ke ?_
 have hR25 := q2 hM5 (.brk ()) (by simp only [r14_repeated_L0, h12, cs4])
 refine KS ?_
 refine Oq Va (KS ?_)
 have hq := q4 hrr false (by simp only [r14_repeated, h12, hR25, cs4]); subst hq
 exact Kr () rfl (.tmp rfl .nil) [] trivial
theorem fn44 (k : List GKnown) (ka0 : Option Addr) (kk0 : Nat) (n : Int) (hn_0 : i64ok n) (rr : Int) (hrr : r14_find k n = rr) : FT Tryz.prog 44 #[vl ka0 kk0 k, vi n] [S ka0 kk0 k] (fun g : Unit => i64ok rr ∧ (-1 ≤ rr ∧ rr < (k.length : Int))) (fun g => vi rr) (fun g => []) := by
 refine FTi Tryz.func44 fun w0 M0 F0 => ?_
 unfold i64ok at hn_0
 refine Fb 40 0 fun _ => KS ?_
 refine Oq Va (KS ?_)
 refine Oq Va (KS ?_)
 refine Kl (γ := Nat × Int) (fun (r2, i_3) => ⟨[(0, vl ka0 kk0 k), (1, vi n), (5, vi i_3)], [S ka0 kk0 k], r14_find_L0 k n r2 i_3 = r14_find_L0 k n (((k.length : Int) - 0).toNat) 0 ∧ r2 = ((k.length : Int) - i_3).toNat ∧ (0 : Int) ≤ i_3 ∧ i_3 ≤ (k.length : Int) ∧ (-9223372036854775808 ≤ i_3 ∧ i_3 ≤ 9223372036854775807), r2⟩) (((k.length : Int) - 0).toNat, 0) [0] ⟨rfl, rfl, aM1, aM1, aM1⟩ ?_
 rintro ⟨r2, i_3⟩ ⟨hM4, hr5, hi6, hi7, hk8⟩
 refine JJ_nx fun _ _ hL hA => ?_; dsimp only at hL hA; subst hL hA
 refine Fb 40 0 fun _ => KS ?_
 refine Oq Vm (Oq Vm (Oq (Vlen sl28) (Oq Vlss (KS ?_))))
 refine Kc ?_ ?_
 ·intro h10
  have g11 := dt h10
  obtain ⟨r12, rfl⟩ := scc (n := r2) aM1
  refine KS ?_
  refine Oq Vm (Oq Vm (Oq (Vi sl28 0) ?_))
  refine JJ_peek_GKnown i_3.toNat 0 rfl rng fun a13 k14 hb15 hb16 => ?_
  unfold i64ok at hb15 hb16
  refine Fb 8 1 fun _ => ?_
  refine Oq (Vfa fo65_0 0) (Oq (VldF sh3 0) (Oq Vm (Oq Veql (KS ?_))))
  refine Kc ?_ ?_
  ·intro h18
   have g19 := eq_of_beq h18
   refine KS ?_
   refine Oq Vm (Oq Va (KS ?_))
   have hR20 := q2 hM4 (.ret i_3) (by simp only [r14_find_L0, h10, h18, cs4])
   have hq := q4 hrr i_3 (by simp only [r14_find, h10, h18, hR20, cs4]); subst hq
   exact Kr () rfl (.tmp rfl .nil) [] en
  intro h18
  have g21 := ne_of_beq_false h18
  refine KS ?_
  refine Oq Vm (Oq Vadd (Oq Va (KS ?_)))
  exact Kg (r12, (i_3 + 1)) [2] ⟨(q3 hM4 (by simp only [r14_find_L0, h10, h18, cs4])), aM1, aM1, aM1, aM1⟩
 intro h10
 have g22 := df h10
 obtain rfl : r2 = 0 := by omega
 refine Ke ?_
 have hR23 := q2 hM4 (.brk ()) (by simp only [r14_find_L0, h10, cs4])
 refine KS ?_
 refine Oq Va (KS ?_)
 have hq := q4 hrr (-1) (by simp only [r14_find, h10, hR23, cs4]); subst hq
 exact Kr () rfl (.tmp rfl .nil) [] en
theorem fn11 (s : GSystem) (sa1 : Option Addr) (sk1 : Nat) (sa2 : Option Addr) (sk2 : Nat) (sa3 : Option Addr) (sk3 : Nat) (cone : List Int) (conea0 : Option Addr) (conek0 : Nat) (known : List GKnown) (knowna0 : Option Addr) (knownk0 : Nat) (hs_0 : i64ok s.Width) (hc16 : cone.length ≤ 65535) (rr : GSystem × Int) (hrr : r14_Restrict s cone known = rr) : FT Tryz.prog 11 #[.agg #[vi s.Width, vl sa1 sk1 s.Deps, vl sa2 sk2 s.Transfers, vl sa3 sk3 s.Boundary], vl conea0 conek0 cone, vl knowna0 knownk0 known] [S sa1 sk1 s.Deps, S sa2 sk2 s.Transfers, S sa3 sk3 s.Boundary, S conea0 conek0 cone, S knowna0 knownk0 known] (fun g : Value × Value × Value => i64ok rr.1.Width ∧ i64ok rr.2) (fun g => .tuple #[.agg #[vi rr.1.Width, g.1, g.2.1, g.2.2], vi rr.2]) (fun g => [sl g.1 rr.1.Deps, sl g.2.1 rr.1.Transfers, sl g.2.2 rr.1.Boundary]) := by
 refine FTi Tryz.func11 fun w0 M0 F0 => ?_
 unfold i64ok at hs_0
 refine Fb 24 0 fun _ => Fb 88 1 fun _ => Fb 32 2 fun _ => Fb 8 3 fun _ => Fo 3 fun ho5 => Fb 40 4 fun _ => KS ?_
 refine Oa (Ab [vi s.Width, vl sa1 sk1 s.Deps, vl sa2 sk2 s.Transfers, vl sa3 sk3 s.Boundary]) fun p7 => Oa (Al ze27 [vi 0, .slice none 0 0, .slice none 0 0, .slice none 0 0]) fun p8 => Oq Va (KS ?_)
 refine Oq (VldA sh27 1) ?_
 refine letv (r10_Valid s) fun rv9 hg10 => ?_
 have hc11 := fn23 s sa1 sk1 sa2 sk2 sa3 sk3 pre rv9 hg10
 refine Oc [2, 3, 4] ca23 hc11 ?_
 rintro - -
 refine Oq Vnot (KS ?_)
 refine Kc ?_ ?_
 ·intro h12
  have h14 := not_true h12
  refine KS ?_
  refine Oq (Vbd st27 [vi 0, .slice none 0 0, .slice none 0 0, .slice none 0 0]) (Ost (Scl [0] sh27 [vi 0, .slice none 0 0, .slice none 0 0, .slice none 0 0]) (Oq Va (KS ?_)))
  refine Jl [] (Ent.slNil (α := List Int)) ?_
  refine Jl [] (Ent.slNil (α := GTransfer)) ?_
  refine Jl [] (Ent.slNil (α := GSet)) ?_
  have hq := q4 hrr ((GSystem.mk 0 [] [] []), 1) (by simp only [r14_Restrict, h12, h14, hg10, cs4]); subst hq
  exact Kr (.slice none 0 0, .slice none 0 0, .slice none 0 0) rfl (.cellN 3 rfl sh27 rfl (reads_Cl _ _) rfl (.tmp rfl .nil)) [2, 1, 0] en
 intro h12
 have h17 := not_false h12
 try have hvs := (RefValid_iff s).1 (rvT (by assumption) h12)
 try have hv1 := hvs.n
 try have hv2 := hvs.tl
 try have hv3 := hvs.bl
 try have hin := (inside_iff s cone).1 (rvT (by assumption) h12)
 refine KS ?_
 refine Oq Va (KS ?_)
 refine Oq Va (KS ?_)
 refine Jl [] (Ent.osNil (α := Int)) ?_
 refine Kl (γ := Nat × List Int × Int × Option Addr × Nat) (fun (r19, nd_20, i_21, a22, k23) => ⟨[(1, vl conea0 conek0 cone), (2, vl knowna0 knownk0 known), (3, p7), (6, p8), (8, vl a22 k23 nd_20), (9, vi i_21)], [O a22 k23 nd_20, Cl p8 [vi 0, .slice none 0 0, .slice none 0 0, .slice none 0 0], pv p7 [vi s.Width, vl sa1 sk1 s.Deps, vl sa2 sk2 s.Transfers, vl sa3 sk3 s.Boundary], S sa1 sk1 s.Deps, S sa2 sk2 s.Transfers, S sa3 sk3 s.Boundary, S conea0 conek0 cone, S knowna0 knownk0 known], r14_Restrict_L0 known r19 nd_20 i_21 = r14_Restrict_L0 known (((known.length : Int) - 0).toNat) [] 0 ∧ r19 = ((known.length : Int) - i_21).toNat ∧ (0 : Int) ≤ i_21 ∧ i_21 ≤ (known.length : Int) ∧ (-9223372036854775808 ≤ i_21 ∧ i_21 ≤ 9223372036854775807) ∧ ((nd_20.length : Int) ≤ i_21), r19⟩) (((known.length : Int) - 0).toNat, [], 0, none, 0) [0, 0, 0, 1, 2, 3, 4, 5] ⟨rfl, rfl, aM1, aM1, aM1, iv0⟩ ?_
 rintro ⟨r19, nd_20, i_21, a22, k23⟩ ⟨hM24, hr25, hi26, hi27, hk28, hv29⟩
 refine JJ_nx fun _ _ hL hA => ?_; dsimp only at hL hA; subst hL hA
 refine Fb 8 0 fun _ => Fo 0 fun ho31 => Fb 24 3 fun _ => Fb 88 4 fun _ => Fb 32 5 fun _ => Fb 8 6 fun _ => Fo 6 fun ho36 => Fb 40 7 fun _ => KS ?_
 refine Oq Vm (Oq Vm (Oq (Vlen sl28) (Oq Vlss (KS ?_))))
 refine Kc ?_ ?_
 ·intro h38
  have g39 := dt h38
  obtain ⟨r40, rfl⟩ := scc (n := r19) aM1
  refine KS ?_
  refine Oq Vm (Oq Vm (Oq Vm (Oq (Vi sl28 7) ?_)))
  refine JJ_peek_GKnown i_21.toNat 7 rfl rng fun a41 k42 hb43 hb44 => ?_
  unfold i64ok at hb43 hb44
  refine Fb 8 1 fun _ => ?_
  refine Oq (Vfa fo65_0 0) (Oq (VldF sh3 0) (Oa (AsV sl22 sz22 [vi ((known.getD i_21.toNat default).Node)] [vi ((known.getD i_21.toNat default).Node)]) fun c46 => ?_))
  refine Jo 0 ?_; rintro a47 k48 rfl
  refine Jl [0] (Ent.crInt _ [(known.getD i_21.toNat default).Node] _ _ rfl rfl (by intro x hx; rw [List.mem_singleton] at hx; subst hx; unfold i64ok; omega) aB1) ?_
  refine Oa (ApO [3, 0] sl22 sl22 sz22) fun c49 => ?_
  refine Jo 0 ?_; rintro a50 k51 rfl
  refine Fb 8 0 fun _ => Fo 0 fun ho53 => ?_
  have hn54 := la nd_20 ([(known.getD i_21.toNat default).Node] : List Int)
  refine Oq Va (KS ?_)
  refine Oq Vm (Oq Vadd (Oq Va (KS ?_)))
  exact Kg (r40, (nd_20 ++ [(known.getD i_21.toNat default).Node]), (i_21 + 1), a50, k51) [0, 2, 2, 3, 4, 5, 6, 7] ⟨(q3 hM24 (by simp only [r14_Restrict_L0, h38, cs4])), aM1, aM1, aM1, aM1, iv1⟩
 intro h38
 have g55 := df h38
 obtain rfl : r19 = 0 := by omega
 refine Ke ?_
 have hR56 := q2 hM24 nd_20 (by simp only [r14_Restrict_L0, h38, cs4])
 refine KS ?_
 refine Oq (VldA sh27 2) (Oq Vm ?_)
 refine letv (r14_inside s cone) fun rv57 hg58 => ?_
 have hc59 := fn24 s sa1 sk1 sa2 sk2 sa3 sk3 cone conea0 conek0 pre rv57 hg58
 refine Oc [3, 4, 5, 6] ca24 hc59 ?_
 rintro - -
 refine Oq Vnot (Oq Vm ?_)
 refine Js 40 ?_ ?_
 ·intro h60
  have h62 := not_true h60
  refine Osk (Osk (Osk (Osk (Oq Vpt (KS ?_)))))
  refine Kt (KS ?_)
  refine Oq (Vbd st27 [vi 0, .slice none 0 0, .slice none 0 0, .slice none 0 0]) (Ost (Scl [1] sh27 [vi 0, .slice none 0 0, .slice none 0 0, .slice none 0 0]) (Oq Va (KS ?_)))
  refine Jl [] (Ent.slNil (α := List Int)) ?_
  refine Jl [] (Ent.slNil (α := GTransfer)) ?_
  refine Jl [] (Ent.slNil (α := GSet)) ?_
  have hq := q4 hrr ((GSystem.mk 0 [] [] []), 9) (by simp only [r14_Restrict, h12, h17, h38, h60, h62, hg10, hR56, hg58, cs4]); subst hq
  exact Kr (.slice none 0 0, .slice none 0 0, .slice none 0 0) rfl (.cellN 3 rfl sh27 rfl (reads_Cl _ _) rfl (.tmp rfl .nil)) [2, 1, 0] en
 intro h60
 have h65 := not_false h60
 try have hvs := (RefValid_iff s).1 (rvT (by assumption) h60)
 try have hv1 := hvs.n
 try have hv2 := hvs.tl
 try have hv3 := hvs.bl
 try have hin := (inside_iff s cone).1 (rvT (by assumption) h60)
 refine Oq (VldA sh27 2) (Oq Vm ?_)
 refine letv (r14_inside s nd_20) fun rv67 hg68 => ?_
 refine Oc [0, 2, 3, 4] ca24 (FT_borrow (A := _) (fun _ _ h => by cases h) (FT_ent (Ent.take (is := [1, 2, 3, 0]) rfl) (fn24 s sa1 sk1 sa2 sk2 sa3 sk3 nd_20 a22 k23 pre rv67 hg68))) ?_ (ht := rfl)
 rintro - -
 refine Oq Vnot (Oq Vpf (KS ?_))
 refine Kc ?_ ?_
 ·intro h69
  have h71 := not_true h69
  refine KS ?_
  refine Oq (Vbd st27 [vi 0, .slice none 0 0, .slice none 0 0, .slice none 0 0]) (Ost (Scl [1] sh27 [vi 0, .slice none 0 0, .slice none 0 0, .slice none 0 0]) (Oq Va (KS ?_)))
  refine Jl [] (Ent.slNil (α := List Int)) ?_
  refine Jl [] (Ent.slNil (α := GTransfer)) ?_
  refine Jl [] (Ent.slNil (α := GSet)) ?_
  have hq := q4 hrr ((GSystem.mk 0 [] [] []), 9) (by simp only [r14_Restrict, h12, h17, h38, h60, h65, h69, h71, hg10, hR56, hg58, hg68, cs4]); subst hq
  exact Kr (.slice none 0 0, .slice none 0 0, .slice none 0 0) rfl (.cellN 3 rfl sh27 rfl (reads_Cl _ _) rfl (.tmp rfl .nil)) [2, 1, 0] en
 intro h69
 have h74 := not_false h69
 try have hvs := (RefValid_iff s).1 (rvT (by assumption) h69)
 try have hv1 := hvs.n
 try have hv2 := hvs.tl
 try have hv3 := hvs.bl
 try have hin := (inside_iff s cone).1 (rvT (by assumption) h69)
 refine KS ?_
 refine Oq Vm (Oq (Vlen sl22) (Oq Veql (Oq Vm ?_)))
 refine Js 50 ?_ ?_
 ·intro h76
  have g77 := eq_of_beq h76
  refine Osk (Osk (Oq Vpt (KS ?_)))
  refine Kt (KS ?_)
  refine Oq (Vbd st27 [vi 0, .slice none 0 0, .slice none 0 0, .slice none 0 0]) (Ost (Scl [1] sh27 [vi 0, .slice none 0 0, .slice none 0 0, .slice none 0 0]) (Oq Va (KS ?_)))
  refine Jl [] (Ent.slNil (α := List Int)) ?_
  refine Jl [] (Ent.slNil (α := GTransfer)) ?_
  refine Jl [] (Ent.slNil (α := GSet)) ?_
  have hq := q4 hrr ((GSystem.mk 0 [] [] []), 6) (by simp only [r14_Restrict, h12, h17, h38, h60, h65, h69, h74, h76, hg10, hR56, hg58, hg68, cs4]); subst hq
  exact Kr (.slice none 0 0, .slice none 0 0, .slice none 0 0) rfl (.cellN 3 rfl sh27 rfl (reads_Cl _ _) rfl (.tmp rfl .nil)) [2, 1, 0] en
 intro h76
 have g78 := ne_of_beq_false h76
 refine Oq Vm ?_
 refine letv (r14_repeated cone) fun rv79 hg80 => ?_
 have hc81 := fn42 cone conea0 conek0 rv79 hg80
 refine Oc [6] ca42 hc81 ?_
 rintro - -
 refine Oq Vpf (KS ?_)
 refine Kc ?_ ?_
 ·intro h82
  refine KS ?_
  refine Oq (Vbd st27 [vi 0, .slice none 0 0, .slice none 0 0, .slice none 0 0]) (Ost (Scl [1] sh27 [vi 0, .slice none 0 0, .slice none 0 0, .slice none 0 0]) (Oq Va (KS ?_)))
  refine Jl [] (Ent.slNil (α := List Int)) ?_
  refine Jl [] (Ent.slNil (α := GTransfer)) ?_
  refine Jl [] (Ent.slNil (α := GSet)) ?_
  have hq := q4 hrr ((GSystem.mk 0 [] [] []), 6) (by simp only [r14_Restrict, h12, h17, h38, h60, h65, h69, h74, h76, h82, hg10, hR56, hg58, hg68, hg80, cs4]); subst hq
  exact Kr (.slice none 0 0, .slice none 0 0, .slice none 0 0) rfl (.cellN 3 rfl sh27 rfl (reads_Cl _ _) rfl (.tmp rfl .nil)) [2, 1, 0] en
 intro h82
 refine KS ?_
 refine Oq Va (KS ?_)
 refine Kl (γ := Nat × Int) (fun (r85, i_86) => ⟨[(1, vl conea0 conek0 cone), (2, vl knowna0 knownk0 known), (3, p7), (6, p8), (10, vi i_86)], [Cl p8 [vi 0, .slice none 0 0, .slice none 0 0, .slice none 0 0], pv p7 [vi s.Width, vl sa1 sk1 s.Deps, vl sa2 sk2 s.Transfers, vl sa3 sk3 s.Boundary], S sa1 sk1 s.Deps, S sa2 sk2 s.Transfers, S sa3 sk3 s.Boundary, S conea0 conek0 cone, S knowna0 knownk0 known], r14_Restrict_L1 known r85 i_86 = r14_Restrict_L1 known (((known.length : Int) - 0).toNat) 0 ∧ r85 = ((known.length : Int) - i_86).toNat ∧ (0 : Int) ≤ i_86 ∧ i_86 ≤ (known.length : Int) ∧ (-9223372036854775808 ≤ i_86 ∧ i_86 ≤ 9223372036854775807), r85⟩) (((known.length : Int) - 0).toNat, 0) [1, 1, 2, 3, 4, 5, 6] ⟨rfl, rfl, aM1, aM1, aM1⟩ ?_
 rintro ⟨r85, i_86⟩ ⟨hM87, hr88, hi89, hi90, hk91⟩
 refine JJ_nx fun _ _ hL hA => ?_; dsimp only at hL hA; subst hL hA
 refine Fb 24 2 fun _ => Fb 88 3 fun _ => Fb 32 4 fun _ => Fb 8 5 fun _ => Fo 5 fun ho96 => Fb 40 6 fun _ => KS ?_
 refine Oq Vm (Oq Vm (Oq (Vlen sl28) (Oq Vlss (KS ?_))))
 refine Kc ?_ ?_
 ·intro h98
  have g99 := dt h98
  obtain ⟨r100, rfl⟩ := scc (n := r85) aM1
  refine KS ?_
  refine Oq Vm (Oq Vm (Oq (Vi sl28 6) ?_))
  refine JJ_peek_GKnown i_86.toNat 6 rfl rng fun a101 k102 hb103 hb104 => ?_
  unfold i64ok at hb103 hb104
  refine Fb 8 1 fun _ => ?_
  refine Oq (Vfa fo65_1 0) (Oq (VldG sh53 0 [vi (((known.getD i_86.toNat default).Value).Width), vl a101 k102 (((known.getD i_86.toNat default).Value).Words)]) ?_)
  refine letv (r1_Valid ((known.getD i_86.toNat default).Value)) fun rv106 hg107 => ?_
  have hc108 := fn43 (((known.getD i_86.toNat default).Value)) a101 k102 pre rv106 hg107
  refine Oc [1] ca43 hc108 ?_
  rintro - -
  refine Oq Vnot (KS ?_)
  refine Kc ?_ ?_
  ·intro h109
   have h111 := not_true h109
   refine KS ?_
   refine Oq (Vbd st27 [vi 0, .slice none 0 0, .slice none 0 0, .slice none 0 0]) (Ost (Scl [2] sh27 [vi 0, .slice none 0 0, .slice none 0 0, .slice none 0 0]) (Oq Va (KS ?_)))
   refine Jl [] (Ent.slNil (α := List Int)) ?_
   refine Jl [] (Ent.slNil (α := GTransfer)) ?_
   refine Jl [] (Ent.slNil (α := GSet)) ?_
   have hR113 := q2 hM87 (.ret ((GSystem.mk 0 [] [] []), 1)) (by simp only [r14_Restrict_L1, h98, h109, h111, hg107, cs4])
   have hq := q4 hrr ((GSystem.mk 0 [] [] []), 1) (by simp only [r14_Restrict, h12, h17, h38, h60, h65, h69, h74, h76, h82, h98, h109, h111, hg10, hR56, hg58, hg68, hg80, hg107, hR113, cs4]); subst hq
   exact Kr (.slice none 0 0, .slice none 0 0, .slice none 0 0) rfl (.cellN 3 rfl sh27 rfl (reads_Cl _ _) rfl (.tmp rfl .nil)) [2, 1, 0] en
  intro h109
  have h115 := not_false h109
  try have hvs := (RefValid_iff s).1 (rvT (by assumption) h109)
  try have hv1 := hvs.n
  try have hv2 := hvs.tl
  try have hv3 := hvs.bl
  try have hin := (inside_iff s cone).1 (rvT (by assumption) h109)
  refine KS ?_
  refine Oq Vm (Oq Vadd (Oq Va (KS ?_)))
  exact Kg (r100, (i_86 + 1)) [2, 2, 3, 4, 5, 6, 7] ⟨(q3 hM87 (by simp only [r14_Restrict_L1, h98, h109, h115, hg107, cs4])), aM1, aM1, aM1, aM1⟩
 intro h98
 have g117 := df h98
 obtain rfl : r85 = 0 := by omega
 refine Ke ?_
 have hR118 := q2 hM87 (.brk ()) (by simp only [r14_Restrict_L1, h98, cs4])
 refine KS ?_
 refine Oq Va (KS ?_)
 refine Kl (γ := Nat × Int) (fun (r119, i_120) => ⟨[(1, vl conea0 conek0 cone), (2, vl knowna0 knownk0 known), (3, p7), (6, p8), (11, vi i_120)], [Cl p8 [vi 0, .slice none 0 0, .slice none 0 0, .slice none 0 0], pv p7 [vi s.Width, vl sa1 sk1 s.Deps, vl sa2 sk2 s.Transfers, vl sa3 sk3 s.Boundary], S sa1 sk1 s.Deps, S sa2 sk2 s.Transfers, S sa3 sk3 s.Boundary, S conea0 conek0 cone, S knowna0 knownk0 known], r14_Restrict_L2 s known r119 i_120 = r14_Restrict_L2 s known (((known.length : Int) - 0).toNat) 0 ∧ r119 = ((known.length : Int) - i_120).toNat ∧ (0 : Int) ≤ i_120 ∧ i_120 ≤ (known.length : Int) ∧ (-9223372036854775808 ≤ i_120 ∧ i_120 ≤ 9223372036854775807), r119⟩) (((known.length : Int) - 0).toNat, 0) [0, 0, 1, 2, 3, 4, 5] ⟨rfl, rfl, aM1, aM1, aM1⟩ ?_
 rintro ⟨r119, i_120⟩ ⟨hM121, hr122, hi123, hi124, hk125⟩
 refine JJ_nx fun _ _ hL hA => ?_; dsimp only at hL hA; subst hL hA
 refine Fb 24 2 fun _ => Fb 88 3 fun _ => Fb 32 4 fun _ => Fb 8 5 fun _ => Fo 5 fun ho130 => Fb 40 6 fun _ => KS ?_
 refine Oq Vm (Oq Vm (Oq (Vlen sl28) (Oq Vlss (KS ?_))))
 refine Kc ?_ ?_
 ·intro h132
  have g133 := dt h132
  obtain ⟨r134, rfl⟩ := scc (n := r119) aM1
  refine KS ?_
  refine JJ_peek_GKnown i_120.toNat 6 rfl rng fun a135 k136 hb137 hb138 => ?_
  unfold i64ok at hb137 hb138
  refine Fb 8 1 fun _ => ?_
  refine Kq [0, 0, 3, 7, 15, 31, 0, 64, 255] fmix ?_
  refine Qv [] Vm (Qv [] Vm (Qv [8] (Vi sl28 0) (Qv [0] (Vfa fo65_1 0) (Qv [0] (VfaF fo53_0 0) (Qv [0] (VldF sh3 0) (Qv [3] (Vfa fo27_0 0) (Qv [3] (VldF sh3 0) (Qv [] Vneq ?_))))))))
  refine Qn ⟨by kernel_rfl, ?_⟩
  refine Kc ?_ ?_
  ·intro h140
   have g141 := ne_of_bne h140
   refine KS ?_
   refine Oq (Vbd st27 [vi 0, .slice none 0 0, .slice none 0 0, .slice none 0 0]) (Ost (Scl [2] sh27 [vi 0, .slice none 0 0, .slice none 0 0, .slice none 0 0]) (Oq Va (KS ?_)))
   refine Jl [] (Ent.slNil (α := List Int)) ?_
   refine Jl [] (Ent.slNil (α := GTransfer)) ?_
   refine Jl [] (Ent.slNil (α := GSet)) ?_
   have hR142 := q2 hM121 (.ret ((GSystem.mk 0 [] [] []), 2)) (by simp only [r14_Restrict_L2, h132, h140, cs4])
   have hq := q4 hrr ((GSystem.mk 0 [] [] []), 2) (by simp only [r14_Restrict, h12, h17, h38, h60, h65, h69, h74, h76, h82, h98, h132, h140, hg10, hR56, hg58, hg68, hg80, hR118, hR142, cs4]); subst hq
   exact Kr (.slice none 0 0, .slice none 0 0, .slice none 0 0) rfl (.cellN 3 rfl sh27 rfl (reads_Cl _ _) rfl (.tmp rfl .nil)) [2, 1, 0] en
  intro h140
  have g143 := eq_of_bne_false h140
  refine KS ?_
  refine Oq Vm (Oq Vadd (Oq Va (KS ?_)))
  exact Kg (r134, (i_120 + 1)) [2, 2, 3, 4, 5, 6, 7] ⟨(q3 hM121 (by simp only [r14_Restrict_L2, h132, h140, cs4])), aM1, aM1, aM1, aM1⟩
 intro h132
 have g144 := df h132
 obtain rfl : r119 = 0 := by omega
 refine Ke ?_
 have hR145 := q2 hM121 (.brk ()) (by simp only [r14_Restrict_L2, h132, cs4])
 refine KS ?_
 refine Oq (Vfa fo27_0 1) (Oq (VldF sh3 1) (Oq (Vbd st27 [vi s.Width, .slice none 0 0, .slice none 0 0, .slice none 0 0]) (Oa (Al ze27 [vi 0, .slice none 0 0, .slice none 0 0, .slice none 0 0]) fun p146 => Ost (Scl [0] sh27 [vi s.Width, .slice none 0 0, .slice none 0 0, .slice none 0 0]) (KS ?_))))
 refine Oq Va (KS ?_)
 refine Jl [] (Ent.osNil (α := (List Int))) ?_
 refine Jl [] (Ent.osNil (α := GTransfer)) ?_
 refine Jl [] (Ent.osNil (α := GSet)) ?_
 refine Kl (γ := Nat × List (List Int) × List GTransfer × List GSet × Int × Option Addr × Nat × Option Addr × Nat × Option Addr × Nat) (fun (r147, q1_148, q2_149, q3_150, i_151, a152, k153, a154, k155, a156, k157) => ⟨[(1, vl conea0 conek0 cone), (2, vl knowna0 knownk0 known), (3, p7), (6, p8), (12, p146), (13, vi i_151)], [O a156 k157 q3_150, O a154 k155 q2_149, O a152 k153 q1_148, Cl p146 [vi s.Width, vl a152 k153 q1_148, vl a154 k155 q2_149, vl a156 k157 q3_150], Cl p8 [vi 0, .slice none 0 0, .slice none 0 0, .slice none 0 0], pv p7 [vi s.Width, vl sa1 sk1 s.Deps, vl sa2 sk2 s.Transfers, vl sa3 sk3 s.Boundary], S sa1 sk1 s.Deps, S sa2 sk2 s.Transfers, S sa3 sk3 s.Boundary, S conea0 conek0 cone, S knowna0 knownk0 known], r14_Restrict_L3 s cone known r147 q1_148 q2_149 q3_150 i_151 = r14_Restrict_L3 s cone known (((cone.length : Int) - 0).toNat) [] [] [] 0 ∧ r147 = ((cone.length : Int) - i_151).toNat ∧ (0 : Int) ≤ i_151 ∧ i_151 ≤ (cone.length : Int) ∧ (-9223372036854775808 ≤ i_151 ∧ i_151 ≤ 9223372036854775807) ∧ ((q1_148.length : Int) ≤ i_151 ∧ (q2_149.length : Int) ≤ i_151 ∧ (q3_150.length : Int) ≤ i_151), r147⟩) (((cone.length : Int) - 0).toNat, [], [], [], 0, none, 0, none, 0, none, 0) [0, 0, 0, 0, 0, 0, 1, 2, 3, 4, 5] ⟨rfl, rfl, aM1, aM1, aM1, iv0⟩ ?_
 rintro ⟨r147, q1_148, q2_149, q3_150, i_151, a152, k153, a154, k155, a156, k157⟩ ⟨hM158, hr159, hi160, hi161, hk162, hv163⟩
 refine JJ_nx fun _ _ hL hA => ?_; dsimp only at hL hA; subst hL hA
 refine Fb 32 0 fun _ => Fb 88 1 fun _ => Fb 24 2 fun _ => Fb 24 6 fun _ => Fb 88 7 fun _ => Fb 32 8 fun _ => Fb 8 9 fun _ => Fo 9 fun ho171 => ?_
 refine Fb 40 10 fun _ => KS ?_
 refine Oq Vm (Oq Vm (Oq (Vlen sl22) (Oq Vlss (KS ?_))))
 refine Kc ?_ ?_
 ·intro h173
  have g174 := dt h173
  try have hq := hin _ (getD_mem (xs := cone) (i := i_151.toNat) (d := 0) aM1)
  try have hqd := hvs.dep_any ((cone.getD i_151.toNat 0) : Int).toNat
  obtain ⟨r175, rfl⟩ := scc (n := r147) aM1
  refine KS ?_
  refine Jp 3 fun hp176 => ?_
  refine JJ_peek_GTransfer ((cone.getD i_151.toNat 0) : Int).toNat 8 rfl rng fun a177 k178 a179 k180 a181 k182 hb183 hb184 => ?_
  unfold i64ok at hb183 hb184
  refine Fb 8 1 fun _ => Fb 8 2 fun _ => Fb 16 3 fun _ => ?_
  refine JK_drawK [0, 1, 0, 4, 0, 0, 48, 112, 252, 508, 1020, 2047, 4095, 8191] fmix ?_
  refine Dv [4] (Vfa fo27_2 0) (Dv [8] (VldF sh24 0) (Dv [10] (Vfa fo27_2 0) (Dv [10] (VldF sh24 0) (Dv [] Vm (Dv [] Vm (Dv [14] (Vi sl22 0) ?_))))))
  have hb188 := ok1 (i := i_151.toNat) ho171 rng
  refine Dv [14] (VldI sh3 0) (Dv [12] (Vi sl24 0) (Dv [0] (VldA sh57 0) (Dx [] [] [0] (fun G => (G.g 10 0)) [fun G => Cr (G.g 10 0) 1 [vi (((s.Transfers.getD ((cone.getD i_151.toNat 0) : Int).toNat default).Gen).Width), .slice a177 ((((s.Transfers.getD ((cone.getD i_151.toNat 0) : Int).toNat default).Gen).Words).length) k178, vi (((s.Transfers.getD ((cone.getD i_151.toNat 0) : Int).toNat default).Kill).Width), .slice a179 ((((s.Transfers.getD ((cone.getD i_151.toNat 0) : Int).toNat default).Kill).Words).length) k180, .slice a181 (((s.Transfers.getD ((cone.getD i_151.toNat 0) : Int).toNat default).Copies).length) k182]] (fun G => xA (AsV sl24 sz24 [.agg #[vi (((s.Transfers.getD ((cone.getD i_151.toNat 0) : Int).toNat default).Gen).Width), .slice a177 ((((s.Transfers.getD ((cone.getD i_151.toNat 0) : Int).toNat default).Gen).Words).length) k178, vi (((s.Transfers.getD ((cone.getD i_151.toNat 0) : Int).toNat default).Kill).Width), .slice a179 ((((s.Transfers.getD ((cone.getD i_151.toNat 0) : Int).toNat default).Kill).Words).length) k180, .slice a181 (((s.Transfers.getD ((cone.getD i_151.toNat 0) : Int).toNat default).Copies).length) k182]] [vi (((s.Transfers.getD ((cone.getD i_151.toNat 0) : Int).toNat default).Gen).Width), .slice a177 ((((s.Transfers.getD ((cone.getD i_151.toNat 0) : Int).toNat default).Gen).Words).length) k178, vi (((s.Transfers.getD ((cone.getD i_151.toNat 0) : Int).toNat default).Kill).Width), .slice a179 ((((s.Transfers.getD ((cone.getD i_151.toNat 0) : Int).toNat default).Kill).Words).length) k180, .slice a181 (((s.Transfers.getD ((cone.getD i_151.toNat 0) : Int).toNat default).Copies).length) k182])) ?_)))
  have hn191 := la q2_149 ([(s.Transfers.getD ((cone.getD i_151.toNat 0) : Int).toNat default)] : List GTransfer)
  refine Dx [1, 2, 3, 6, 16] [6, 16] [1, 2, 3, 0] (fun G => (G.g 11 0)) [fun G => os (G.g 11 0) ((q2_149 ++ [(s.Transfers.getD ((cone.getD i_151.toNat 0) : Int).toNat default)]) : List GTransfer)] (fun G => xp [4, 0, 1, 2] rfl (Ent.cr1 (α := GTransfer) (A := [S a177 k178 (((s.Transfers.getD ((cone.getD i_151.toNat 0) : Int).toNat default).Gen).Words), S a179 k180 (((s.Transfers.getD ((cone.getD i_151.toNat 0) : Int).toNat default).Kill).Words), S a181 k182 ((s.Transfers.getD ((cone.getD i_151.toNat 0) : Int).toNat default).Copies)]) _ (s.Transfers.getD ((cone.getD i_151.toNat 0) : Int).toNat default) _ aB1 (fun h => ⟨_, _, _, rfl, aL1, sepAll_get (i := 0) rfl h, aL1, sepAll_get (i := 1) rfl h, sepAll_get (i := 2) rfl h⟩)) (xA (ApO [7, 0] sl24 sl24 sz24))) (Dv [4] (Vfa fo27_2 0) (Dx0 [8, 17] [8] [1, 0] [fun G => Cl p146 [vi s.Width, vl a152 k153 q1_148, (G.g 11 0), vl a156 k157 q3_150]] (fun G => x1 1 rfl os_one fun ho192 => (xS (OpS.frame [0] rfl (OpS.storeClF [(G.g 11 0)] [vi s.Width, vl a152 k153 q1_148, (G.g 11 0), vl a156 k157 q3_150] rfl rfl rfl sh24 (cells_of_one ho192) rfl (by simp only [List.all_cons, List.all_nil, ho192, Bool.and_true, Bool.true_and] <;> rfl) aB1 rfl)))) ?_))
  refine Dn ⟨by kernel_rfl, fun G => ?_⟩
  refine Jw2 [(1, vl conea0 conek0 cone), (2, vl knowna0 knownk0 known), (3, p7), (6, p8), (12, p146), (13, vi i_151)] [0, 1, 2, 3, 4, 5, 7, 9, 10, 11, 12, 13, 14, 15] [os (G.g 11 0) ((q2_149 ++ [(s.Transfers.getD ((cone.getD i_151.toNat 0) : Int).toNat default)]) : List GTransfer), Cl p146 [vi s.Width, vl a152 k153 q1_148, (G.g 11 0), vl a156 k157 q3_150]] ?_
  generalize G.g 11 0 = c190
  refine Jk [0, 1, 2, 3, 5, 5, 5, 5, 6, 7, 8, 9, 10, 11, 11] ?_
  refine Jo 13 ?_; rintro a193 k194 rfl
  refine Fb 88 13 fun _ => KS ?_
  refine Oq Vm (Oq Vm (Oq Vm (Oq (Vi sl22 11) ?_)))
  have hb196 := ok1 (i := i_151.toNat) ho171 rng
  refine Oq (VldI sh3 11) ?_
  refine letv (r14_find known (cone.getD i_151.toNat 0)) fun rv197 hg198 => ?_
  have hc199 := fn44 known knowna0 knownk0 ((cone.getD i_151.toNat 0)) pre rv197 hg198
  refine Oc [12] ca44 hc199 ?_
  rintro - ⟨he200, he201⟩
  unfold i64ok at he200
  refine Oq Va (KS ?_)
  refine Oq Vm (Oq Vgeq (KS ?_))
  refine Kc ?_ ?_
  ·intro h202
   have g203 := dt h202
   refine KS ?_
   refine Oq (Vfa fo27_1 14) (Oq (VldF sh23 14) (Oa (AsV sl23 sz23 [.slice none 0 0] [.slice none 0 0]) fun c204 => ?_))
   refine Jo 0 ?_; rintro a205 k206 rfl
   refine Jl [0] (Ent.cr1 (α := List Int) (A := []) _ ([] : List Int) _ aB1 (fun _ => ⟨_, rfl, slrd_nil⟩)) ?_
   refine Oa (ApO [6, 0] sl23 sl23 sz23) fun c207 => ?_
   refine Jo 0 ?_; rintro a208 k209 rfl
   refine Fb 24 0 fun _ => ?_
   have hn211 := la q1_148 ([([] : List Int)] : List (List Int))
   refine Oq (Vfa fo27_1 14) (Ost (SclF [14] sh23 [vi s.Width, vl a208 k209 (q1_148 ++ [([] : List Int)]), .slice a193 ((q2_149 ++ [(s.Transfers.getD ((cone.getD i_151.toNat 0) : Int).toNat default)]).length) k194, vl a156 k157 q3_150]) (KS ?_))
   refine Jp 0 fun hp212 => ?_
   refine JJ_peek_GKnown rv197.toNat 14 rfl rng fun a213 k214 hb215 hb216 => ?_
   unfold i64ok at hb215 hb216
   refine Fb 8 1 fun _ => ?_
   refine JK_drawK [0, 1, 0, 0, 12, 28, 60, 124, 255, 511, 1023] fmix ?_
   refine Dv [2] (Vfa fo27_3 0) (Dv [3] (VldF sh25 0) (Dv [] Vm (Dv [] Vm (Dv [16] (Vi sl28 0) (Dv [0] (Vfa fo65_1 0) (Dv [0] (VldG sh53 0 [vi (((known.getD rv197.toNat default).Value).Width), vl a213 k214 (((known.getD rv197.toNat default).Value).Words)]) (Dx [] [] [0] (fun G => (G.g 7 0)) [fun G => Cr (G.g 7 0) 1 [vi (((known.getD rv197.toNat default).Value).Width), vl a213 k214 (((known.getD rv197.toNat default).Value).Words)]] (fun G => xA (AsV sl25 sz25 [.agg #[vi (((known.getD rv197.toNat default).Value).Width), vl a213 k214 (((known.getD rv197.toNat default).Value).Words)]] [vi (((known.getD rv197.toNat default).Value).Width), vl a213 k214 (((known.getD rv197.toNat default).Value).Words)])) ?_)))))))
   have hn220 := la q3_150 ([((known.getD rv197.toNat default).Value)] : List GSet)
   refine Dx [1, 9, 18] [9, 18] [1, 0] (fun G => (G.g 8 0)) [fun G => os (G.g 8 0) ((q3_150 ++ [((known.getD rv197.toNat default).Value)]) : List GSet)] (fun G => xp [2, 0] rfl (Ent.cr1 (α := GSet) (A := [S a213 k214 (((known.getD rv197.toNat default).Value).Words)]) _ ((known.getD rv197.toNat default).Value) _ aB1 (fun h => ⟨_, rfl, aL1, sepAll_get (i := 0) rfl h⟩)) (xA (ApO [3, 0] sl25 sl25 sz25))) (Dv [2] (Vfa fo27_3 0) (Dx0 [3, 19] [3] [1, 0] [fun G => Cl p146 [vi s.Width, vl a208 k209 (q1_148 ++ [([] : List Int)]), .slice a193 ((q2_149 ++ [(s.Transfers.getD ((cone.getD i_151.toNat 0) : Int).toNat default)]).length) k194, (G.g 8 0)]] (fun G => x1 1 rfl os_one fun ho221 => (xS (OpS.frame [0] rfl (OpS.storeClF [(G.g 8 0)] [vi s.Width, vl a208 k209 (q1_148 ++ [([] : List Int)]), .slice a193 ((q2_149 ++ [(s.Transfers.getD ((cone.getD i_151.toNat 0) : Int).toNat default)]).length) k194, (G.g 8 0)] rfl rfl rfl sh25 (cells_of_one ho221) rfl (by simp only [List.all_cons, List.all_nil, ho221, Bool.and_true, Bool.true_and] <;> rfl) aB1 rfl)))) ?_))
   refine Dn ⟨by kernel_rfl, fun G => ?_⟩
   refine Jw2 [(1, vl conea0 conek0 cone), (2, vl knowna0 knownk0 known), (3, p7), (6, p8), (12, p146), (13, vi i_151)] [0, 1, 2, 4, 5, 6, 7, 8, 10, 11, 12, 13, 14, 15, 16, 17] [os (G.g 8 0) ((q3_150 ++ [((known.getD rv197.toNat default).Value)]) : List GSet), Cl p146 [vi s.Width, vl a208 k209 (q1_148 ++ [([] : List Int)]), .slice a193 ((q2_149 ++ [(s.Transfers.getD ((cone.getD i_151.toNat 0) : Int).toNat default)]).length) k194, (G.g 8 0)]] ?_
   generalize G.g 8 0 = c219
   refine Jk [0, 1, 3, 3, 4, 5, 6, 7, 7, 8, 9, 10, 11, 12, 13, 13, 13] ?_
   refine Jo 15 ?_; rintro a222 k223 rfl
   refine Fb 32 15 fun _ => ?_
   refine Ke ?_
   refine KS ?_
   refine Oq Vm (Oq Vadd (Oq Va (KS ?_)))
   exact Kg (r175, (q1_148 ++ [([] : List Int)]), (q2_149 ++ [(s.Transfers.getD ((cone.getD i_151.toNat 0) : Int).toNat default)]), (q3_150 ++ [((known.getD rv197.toNat default).Value)]), (i_151 + 1), a208, k209, a193, k194, a222, k223) [15, 14, 2, 13, 6, 6, 7, 8, 9, 10, 11] ⟨(q3 hM158 (by simp only [r14_Restrict_L3, h173, h202, hg198, cs4])), aM1, aM1, aM1, aM1, iv1⟩
  intro h202
  have g225 := df h202
  refine KS ?_
  refine Oq Va (KS ?_)
  refine Oq Va (KS ?_)
  refine Jl [] (Ent.slNil (α := Int)) ?_
  refine Kl (γ := Nat × List Int × Int × Option Addr × Nat) (fun (r226, d_227, j_228, a229, k230) => ⟨[(1, vl conea0 conek0 cone), (2, vl knowna0 knownk0 known), (3, p7), (6, p8), (12, p146), (13, vi i_151), (15, vl a229 k230 d_227), (16, vi j_228)], [S a229 k230 d_227, O a156 k157 q3_150, O a152 k153 q1_148, Cl p8 [vi 0, .slice none 0 0, .slice none 0 0, .slice none 0 0], pv p7 [vi s.Width, vl sa1 sk1 s.Deps, vl sa2 sk2 s.Transfers, vl sa3 sk3 s.Boundary], S sa1 sk1 s.Deps, S sa2 sk2 s.Transfers, S sa3 sk3 s.Boundary, S conea0 conek0 cone, S knowna0 knownk0 known, O a193 k194 ((q2_149 ++ [(s.Transfers.getD ((cone.getD i_151.toNat 0) : Int).toNat default)]) : List GTransfer), Cl p146 [vi s.Width, vl a152 k153 q1_148, .slice a193 ((q2_149 ++ [(s.Transfers.getD ((cone.getD i_151.toNat 0) : Int).toNat default)]).length) k194, vl a156 k157 q3_150]], r14_Restrict_L4 s cone i_151 r226 d_227 j_228 = r14_Restrict_L4 s cone i_151 (((((s.Deps.getD ((cone.getD i_151.toNat 0) : Int).toNat []).length : Int) : Int) - 0).toNat) [] 0 ∧ r226 = ((((s.Deps.getD ((cone.getD i_151.toNat 0) : Int).toNat []).length : Int) : Int) - j_228).toNat ∧ (0 : Int) ≤ j_228 ∧ (j_228 ≤ ((s.Deps.getD ((cone.getD i_151.toNat 0) : Int).toNat []).length : Int) ∨ j_228 = 0) ∧ (-9223372036854775808 ≤ j_228 ∧ j_228 ≤ 9223372036854775807) ∧ ((d_227.length : Int) ≤ j_228), r226⟩) (((((s.Deps.getD ((cone.getD i_151.toNat 0) : Int).toNat []).length : Int) : Int) - 0).toNat, [], 0, none, 0) [0, 5, 5, 5, 5, 6, 7, 8, 9, 10, 11, 11] ⟨rfl, rfl, aM1, (.inr rfl), aM1, iv0⟩ ?_
  rintro ⟨r226, d_227, j_228, a229, k230⟩ ⟨hM231, hr232, hi233, hi234, hk235, hv236⟩
  refine JJ_nx fun _ _ hL hA => ?_; dsimp only at hL hA; subst hL hA
  refine Fb 8 0 fun _ => Fo 0 fun ho238 => Fb 32 1 fun _ => Fb 24 2 fun _ => Fb 24 5 fun _ => Fb 88 6 fun _ => Fb 32 7 fun _ => Fb 8 8 fun _ => ?_
  refine Fo 8 fun ho245 => Fb 40 9 fun _ => Fb 88 10 fun _ => KS ?_
  refine JJ_peekL ((cone.getD i_151.toNat 0) : Int).toNat 5 rfl rng fun a248 k249 => ?_
  refine Fb 8 1 fun _ => Fo 1 fun ho251 => ?_
  refine Kq [0, 0, 2, 0, 0, 24, 56, 126, 254, 510, 1023] fmix ?_
  refine Qv [] Vm (Qv [6] (Vfa fo27_1 0) (Qv [6] (VldF sh23 0) (Qv [] Vm (Qv [] Vm (Qv [10] (Vi sl22 0) ?_)))))
  have hb252 := ok1 (i := i_151.toNat) ho245 rng
  refine Qv [10] (VldI sh3 0) (Qv [7] (Vi sl23 0) (Qv [0] (Vld sh22 0) (Qv [] (Vlen sl22) (Qv [] Vlss ?_))))
  refine Qn ⟨by kernel_rfl, ?_⟩
  refine Kc ?_ ?_
  ·intro h253
   have g254 := dt h253
   obtain ⟨r255, rfl⟩ := scc (n := r226) aM1
   refine KS ?_
   refine JK_drawK [0, 0, 2, 0, 0, 24, 56, 126, 254, 0, 1022, 2046, 4095, 8191] fmix ?_
   refine Dv [] Vm (Dv [6] (Vfa fo27_1 0) (Dv [6] (VldF sh23 0) (Dv [] Vm (Dv [] Vm (Dv [10] (Vi sl22 0) ?_)))))
   have hb256 := ok1 (i := i_151.toNat) ho245 rng
   refine Dv [10] (VldI sh3 0) (Dv [7] (Vi sl23 0) (Dv [0] (Vld sh22 0) (Dv [] Vm (Dv [1] (Vi sl22 0) ?_))))
   have hb257 := ok1 (i := j_228.toNat) ho251 rng
   refine Dv [1] (VldI sh3 0) ?_
   refine letv (r14_place cone ((s.Deps.getD ((cone.getD i_151.toNat 0) : Int).toNat []).getD j_228.toNat 0)) fun rv258 hg259 => ?_
   refine Dx [10] [] [1, 0] (fun G => vi rv258) [fun G => SP.fact (i64ok rv258)] (fun G => xC [0] ca45 (fn45 cone conea0 conek0 (((s.Deps.getD ((cone.getD i_151.toNat 0) : Int).toNat []).getD j_228.toNat 0)) pre rv258 hg259)) (Dv [] Va ?_)
   refine Dn ⟨by kernel_rfl, fun G => ?_⟩
   refine Jw2 [(1, vl conea0 conek0 cone), (2, vl knowna0 knownk0 known), (3, p7), (6, p8), (12, p146), (13, vi i_151), (15, vl a229 k230 d_227), (16, vi j_228), (17, vi rv258)] [0, 1, 2, 3, 4, 5, 6, 7, 8, 9, 10, 11, 12, 13] [SP.fact (i64ok rv258)] ?_
   refine Jf 14 rfl ?_; rintro he260
   unfold i64ok at he260
   refine Jk [0, 1, 2, 3, 3, 3, 3, 4, 5, 6, 7, 8, 9, 9] ?_
   refine KS ?_
   refine Oq Vm (Oq Vgeq (KS ?_))
   refine Kc ?_ ?_
   ·intro h261
    have g262 := dt h261
    refine KS ?_
    refine Oq Vm (Oq Vm ?_)
    refine letv (r7_Insert d_227 rv258) fun rv264 hg265 => ?_
    have hc266 := fn19 d_227 a229 k230 rv258 pre pre rv264 hg265
    refine Oc [2] ca19 hc266 ?_
    rintro c263 he267
    refine Jo 0 ?_; rintro a268 k269 rfl
    refine Fb 8 0 fun _ => Fo 0 fun ho271 => ?_
    refine Oq Va (KS ?_)
    refine Oq Vm (Oq Vadd (Oq Va (KS ?_)))
    exact Kg (r255, rv264, (j_228 + 1), a268, k269) [0, 4, 4, 4, 4, 5, 6, 7, 8, 9, 10, 10] ⟨(q3 hM231 (by simp only [r14_Restrict_L4, h253, h261, hg259, hg265, cs4])), aM1, aM1, aM1, aM1, iv1⟩
   intro h261
   have g272 := df h261
   refine KS ?_
   refine Oq Vm (Oq Vadd (Oq Va (KS ?_)))
   exact Kg (r255, d_227, (j_228 + 1), a229, k230) [2, 3, 3, 3, 3, 4, 5, 6, 7, 8, 9, 9] ⟨(q3 hM231 (by simp only [r14_Restrict_L4, h253, h261, hg259, cs4])), aM1, aM1, aM1, aM1, iv1⟩
  intro h253
  have g273 := df h253
  obtain rfl : r226 = 0 := by omega
  refine Ke ?_
  have hR274 := q2 hM231 d_227 (by simp only [r14_Restrict_L4, h253, cs4])
  refine KS ?_
  refine Oq (Vfa fo27_1 13) (Oq (VldF sh23 13) (Oq Vm (Oa (AsV sl23 sz23 [vl a229 k230 d_227] [vl a229 k230 d_227]) fun c275 => ?_)))
  refine Jo 0 ?_; rintro a276 k277 rfl
  refine Jl [0, 2] (Ent.cr1 (α := List Int) (A := [S a229 k230 d_227]) _ d_227 _ aB1 (fun h => ⟨_, rfl, sepAll_get (i := 0) rfl h⟩)) ?_
  refine Oa (ApO [6, 0] sl23 sl23 sz23) fun c278 => ?_
  refine Jo 0 ?_; rintro a279 k280 rfl
  refine Fb 24 0 fun _ => ?_
  have hn282 := la q1_148 ([d_227] : List (List Int))
  refine Oq (Vfa fo27_1 14) (Ost (SclF [14] sh23 [vi s.Width, vl a279 k280 (q1_148 ++ [d_227]), .slice a193 ((q2_149 ++ [(s.Transfers.getD ((cone.getD i_151.toNat 0) : Int).toNat default)]).length) k194, vl a156 k157 q3_150]) (KS ?_))
  refine Jp 0 fun hp283 => ?_
  refine JJ_peek_GSet ((cone.getD i_151.toNat 0) : Int).toNat 12 rfl rng fun a284 k285 hb286 => ?_
  unfold i64ok at hb286
  refine Fb 8 1 fun _ => ?_
  refine JK_drawK [0, 1, 0, 4, 0, 0, 48, 112, 252, 508, 1020, 2047, 4095, 8191] fmix ?_
  refine Dv [2] (Vfa fo27_3 0) (Dv [3] (VldF sh25 0) (Dv [11] (Vfa fo27_3 0) (Dv [11] (VldF sh25 0) (Dv [] Vm (Dv [] Vm (Dv [15] (Vi sl22 0) ?_))))))
  have hb288 := ok1 (i := i_151.toNat) ho245 rng
  refine Dv [15] (VldI sh3 0) (Dv [14] (Vi sl25 0) (Dv [0] (VldA sh53 0) (Dx [] [] [0] (fun G => (G.g 10 0)) [fun G => Cr (G.g 10 0) 1 [vi ((s.Boundary.getD ((cone.getD i_151.toNat 0) : Int).toNat default).Width), .slice a284 (((s.Boundary.getD ((cone.getD i_151.toNat 0) : Int).toNat default).Words).length) k285]] (fun G => xA (AsV sl25 sz25 [.agg #[vi ((s.Boundary.getD ((cone.getD i_151.toNat 0) : Int).toNat default).Width), .slice a284 (((s.Boundary.getD ((cone.getD i_151.toNat 0) : Int).toNat default).Words).length) k285]] [vi ((s.Boundary.getD ((cone.getD i_151.toNat 0) : Int).toNat default).Width), .slice a284 (((s.Boundary.getD ((cone.getD i_151.toNat 0) : Int).toNat default).Words).length) k285])) ?_)))
  have hn291 := la q3_150 ([(s.Boundary.getD ((cone.getD i_151.toNat 0) : Int).toNat default)] : List GSet)
  refine Dx [1, 9, 18] [9, 18] [1, 0] (fun G => (G.g 11 0)) [fun G => os (G.g 11 0) ((q3_150 ++ [(s.Boundary.getD ((cone.getD i_151.toNat 0) : Int).toNat default)]) : List GSet)] (fun G => xp [2, 0] rfl (Ent.cr1 (α := GSet) (A := [S a284 k285 ((s.Boundary.getD ((cone.getD i_151.toNat 0) : Int).toNat default).Words)]) _ (s.Boundary.getD ((cone.getD i_151.toNat 0) : Int).toNat default) _ aB1 (fun h => ⟨_, rfl, aL1, sepAll_get (i := 0) rfl h⟩)) (xA (ApO [3, 0] sl25 sl25 sz25))) (Dv [2] (Vfa fo27_3 0) (Dx0 [3, 19] [3] [1, 0] [fun G => Cl p146 [vi s.Width, vl a279 k280 (q1_148 ++ [d_227]), .slice a193 ((q2_149 ++ [(s.Transfers.getD ((cone.getD i_151.toNat 0) : Int).toNat default)]).length) k194, (G.g 11 0)]] (fun G => x1 1 rfl os_one fun ho292 => (xS (OpS.frame [0] rfl (OpS.storeClF [(G.g 11 0)] [vi s.Width, vl a279 k280 (q1_148 ++ [d_227]), .slice a193 ((q2_149 ++ [(s.Transfers.getD ((cone.getD i_151.toNat 0) : Int).toNat default)]).length) k194, (G.g 11 0)] rfl rfl rfl sh25 (cells_of_one ho292) rfl (by simp only [List.all_cons, List.all_nil, ho292, Bool.and_true, Bool.true_and] <;> rfl) aB1 rfl)))) ?_))
  refine Dn ⟨by kernel_rfl, fun G => ?_⟩
  refine Jw2 [(1, vl conea0 conek0 cone), (2, vl knowna0 knownk0 known), (3, p7), (6, p8), (12, p146), (13, vi i_151)] [0, 1, 2, 4, 5, 6, 7, 8, 10, 11, 12, 13, 14, 15, 16, 17] [os (G.g 11 0) ((q3_150 ++ [(s.Boundary.getD ((cone.getD i_151.toNat 0) : Int).toNat default)]) : List GSet), Cl p146 [vi s.Width, vl a279 k280 (q1_148 ++ [d_227]), .slice a193 ((q2_149 ++ [(s.Transfers.getD ((cone.getD i_151.toNat 0) : Int).toNat default)]).length) k194, (G.g 11 0)]] ?_
  generalize G.g 11 0 = c290
  refine Jk [0, 1, 3, 3, 4, 5, 6, 7, 7, 8, 9, 10, 11, 12, 13, 13, 13] ?_
  refine Jo 15 ?_; rintro a293 k294 rfl
  refine Fb 32 15 fun _ => KS ?_
  refine Oq Vm (Oq Vadd (Oq Va (KS ?_)))
  exact Kg (r175, (q1_148 ++ [d_227]), (q2_149 ++ [(s.Transfers.getD ((cone.getD i_151.toNat 0) : Int).toNat default)]), (q3_150 ++ [(s.Boundary.getD ((cone.getD i_151.toNat 0) : Int).toNat default)]), (i_151 + 1), a279, k280, a193, k194, a293, k294) [15, 14, 2, 13, 6, 6, 7, 8, 9, 10, 11] ⟨(q3 hM158 (by simp only [r14_Restrict_L3, h173, h202, h253, hg198, hR274, cs4])), aM1, aM1, aM1, aM1, iv1⟩
 intro h173
 have g296 := df h173
 obtain rfl : r147 = 0 := by omega
 refine Ke ?_
 have hR297 := q2 hM158 (q1_148, q2_149, q3_150) (by simp only [r14_Restrict_L3, h173, cs4])
 refine KS ?_
 refine Oq (VldA sh27 3) (Ost (Scl [4] sh27 [vi s.Width, vl a152 k153 q1_148, vl a154 k155 q2_149, vl a156 k157 q3_150]) (Oq Va (KS ?_)))
 refine Jl [3] (Ent.freeze _ _) ?_
 refine Jl [3] (Ent.freeze _ _) ?_
 refine Jl [3] (Ent.freeze _ _) ?_
 have hq := q4 hrr ((GSystem.mk s.Width q1_148 q2_149 q3_150), 0) (by simp only [r14_Restrict, h12, h17, h38, h60, h65, h69, h74, h76, h82, h98, h132, h173, hg10, hR56, hg58, hg68, hg80, hR118, hR145, hR297, cs4]); subst hq
 exact Kr (vl a152 k153 q1_148, vl a154 k155 q2_149, vl a156 k157 q3_150) rfl (.cellN 3 rfl sh27 rfl (reads_Cl _ _) rfl (.tmp rfl .nil)) [2, 1, 0] en
theorem fn13 (a : List Int) (aa0 : Option Addr) (ak0 : Nat) (b : List Int) (ba0 : Option Addr) (bk0 : Nat) (rr : Bool) (hrr : r7_Ints a b = rr) : FT Tryz.prog 13 #[vl aa0 ak0 a, vl ba0 bk0 b] [S aa0 ak0 a, S ba0 bk0 b] (fun g : Unit => True) (fun g => vb rr) (fun g => []) := by
 refine FTi Tryz.func13 fun w0 M0 F0 => Fb 8 0 fun _ => Fo 0 fun ho2 => Fb 8 1 fun _ => Fo 1 fun ho4 => ?_
 refine KS ?_
 refine Oq Va (KS ?_)
 refine Oq Vm (Oq (Vlen sl22) (Oq Vm (Oq (Vlen sl22) (Oq Vneq (KS ?_)))))
 refine Kc ?_ ?_
 ·intro h5
  have g6 := ne_of_bne h5
  refine KS ?_
  refine Oq Va (KS ?_)
  have hq := q4 hrr false (by simp only [r7_Ints, h5, cs4]); subst hq
  exact Kr () rfl (.tmp rfl .nil) [] trivial
 intro h5
 have g7 := eq_of_bne_false h5
 refine KS ?_
 refine Oq Va (KS ?_)
 refine Kl (γ := Nat × Int) (fun (r8, i_9) => ⟨[(0, vl aa0 ak0 a), (1, vl ba0 bk0 b), (5, vi i_9)], [S aa0 ak0 a, S ba0 bk0 b], r7_Ints_L0 a b r8 i_9 = r7_Ints_L0 a b (((a.length : Int) - 0).toNat) 0 ∧ r8 = ((a.length : Int) - i_9).toNat ∧ (0 : Int) ≤ i_9 ∧ i_9 ≤ (a.length : Int) ∧ (-9223372036854775808 ≤ i_9 ∧ i_9 ≤ 9223372036854775807), r8⟩) (((a.length : Int) - 0).toNat, 0) [0, 1] ⟨rfl, rfl, aM1, aM1, aM1⟩ ?_
 rintro ⟨r8, i_9⟩ ⟨hM10, hr11, hi12, hi13, hk14⟩
 refine JJ_nx fun _ _ hL hA => ?_; dsimp only at hL hA; subst hL hA
 refine Fb 8 0 fun _ => Fo 0 fun ho16 => Fb 8 1 fun _ => Fo 1 fun ho18 => KS ?_
 refine Oq Vm (Oq Vm (Oq (Vlen sl22) (Oq Vlss (KS ?_))))
 refine Kc ?_ ?_
 ·intro h19
  have g20 := dt h19
  obtain ⟨r21, rfl⟩ := scc (n := r8) aM1
  refine KS ?_
  refine Kq [0, 0, 3, 7, 0, 0, 48, 112, 255] fmix ?_
  refine Qv [] Vm (Qv [] Vm (Qv [0] (Vi sl22 0) ?_))
  have hb22 := ok1 (i := i_9.toNat) ho16 rng
  refine Qv [0] (VldI sh3 0) (Qv [] Vm (Qv [] Vm (Qv [1] (Vi sl22 0) ?_)))
  have hb23 := ok1 (i := i_9.toNat) ho18 rng
  refine Qv [1] (VldI sh3 0) (Qv [] Vneq ?_)
  refine Qn ⟨by kernel_rfl, ?_⟩
  refine Kc ?_ ?_
  ·intro h24
   have g25 := ne_of_bne h24
   refine KS ?_
   refine Oq Va (KS ?_)
   have hR26 := q2 hM10 (.ret false) (by simp only [r7_Ints_L0, h19, h24, cs4])
   have hq := q4 hrr false (by simp only [r7_Ints, h5, h19, h24, hR26, cs4]); subst hq
   exact Kr () rfl (.tmp rfl .nil) [] trivial
  intro h24
  have g27 := eq_of_bne_false h24
  refine KS ?_
  refine Oq Vm (Oq Vadd (Oq Va (KS ?_)))
  exact Kg (r21, (i_9 + 1)) [0, 1] ⟨(q3 hM10 (by simp only [r7_Ints_L0, h19, h24, cs4])), aM1, aM1, aM1, aM1⟩
 intro h19
 have g28 := df h19
 obtain rfl : r8 = 0 := by omega
 refine Ke ?_
 have hR29 := q2 hM10 (.brk ()) (by simp only [r7_Ints_L0, h19, cs4])
 refine KS ?_
 refine Oq Va (KS ?_)
 have hq := q4 hrr true (by simp only [r7_Ints, h5, h19, hR29, cs4]); subst hq
 exact Kr () rfl (.tmp rfl .nil) [] trivial
theorem fn46 (a : List (List Int)) (aa0 : Option Addr) (ak0 : Nat) (b : List (List Int)) (ba0 : Option Addr) (bk0 : Nat) (rr : Bool) (hrr : r7_SameLists a b = rr) : FT Tryz.prog 46 #[vl aa0 ak0 a, vl ba0 bk0 b] [S aa0 ak0 a, S ba0 bk0 b] (fun g : Unit => True) (fun g => vb rr) (fun g => []) := by
 refine FTi Tryz.func46 fun w0 M0 F0 => Fb 24 0 fun _ => Fb 24 1 fun _ => ?_
 refine KS ?_
 refine Oq Va (KS ?_)
 refine Oq Vm (Oq (Vlen sl23) (Oq Vm (Oq (Vlen sl23) (Oq Vneq (KS ?_)))))
 refine Kc ?_ ?_
 ·intro h3
  have g4 := ne_of_bne h3
  refine KS ?_
  refine Oq Va (KS ?_)
  have hq := q4 hrr false (by simp only [r7_SameLists, h3, cs4]); subst hq
  exact Kr () rfl (.tmp rfl .nil) [] trivial
 intro h3
 have g5 := eq_of_bne_false h3
 refine KS ?_
 refine Oq Va (KS ?_)
 refine Kl (γ := Nat × Int) (fun (r6, i_7) => ⟨[(0, vl aa0 ak0 a), (1, vl ba0 bk0 b), (5, vi i_7)], [S aa0 ak0 a, S ba0 bk0 b], r7_SameLists_L0 a b r6 i_7 = r7_SameLists_L0 a b (((a.length : Int) - 0).toNat) 0 ∧ r6 = ((a.length : Int) - i_7).toNat ∧ (0 : Int) ≤ i_7 ∧ i_7 ≤ (a.length : Int) ∧ (-9223372036854775808 ≤ i_7 ∧ i_7 ≤ 9223372036854775807), r6⟩) (((a.length : Int) - 0).toNat, 0) [0, 1] ⟨rfl, rfl, aM1, aM1, aM1⟩ ?_
 rintro ⟨r6, i_7⟩ ⟨hM8, hr9, hi10, hi11, hk12⟩
 refine JJ_nx fun _ _ hL hA => ?_; dsimp only at hL hA; subst hL hA
 refine Fb 24 0 fun _ => Fb 24 1 fun _ => KS ?_
 refine Oq Vm (Oq Vm (Oq (Vlen sl23) (Oq Vlss (KS ?_))))
 refine Kc ?_ ?_
 ·intro h15
  have g16 := dt h15
  obtain ⟨r17, rfl⟩ := scc (n := r6) aM1
  refine KS ?_
  refine JJ_peekL i_7.toNat 0 rfl rng fun a18 k19 => ?_
  refine Fb 8 1 fun _ => Fo 1 fun ho21 => ?_
  refine JJ_peekL i_7.toNat 3 rfl rng fun a22 k23 => ?_
  refine Fb 8 1 fun _ => Fo 1 fun ho25 => ?_
  refine JK_drawK [0, 0, 3, 7, 0, 0, 48, 112, 255, 511] fmix ?_
  refine Dv [] Vm (Dv [] Vm (Dv [4] (Vi sl23 0) (Dv [2] (Vld sh22 0) (Dv [] Vm (Dv [] Vm (Dv [5] (Vi sl23 0) (Dv [0] (Vld sh22 0) ?_)))))))
  refine letv (r7_Ints (a.getD i_7.toNat []) (b.getD i_7.toNat [])) fun rv26 hg27 => ?_
  refine Dx [1, 3] [] [1, 2, 0] (fun G => vb rv26) [fun G => SP.fact (True)] (fun G => xC [1, 0] ca13 (fn13 ((a.getD i_7.toNat [])) a18 k19 ((b.getD i_7.toNat [])) a22 k23 rv26 hg27)) (Dv [] Vnot ?_)
  refine Dn ⟨by kernel_rfl, fun G => ?_⟩
  refine Jw2 [(0, vl aa0 ak0 a), (1, vl ba0 bk0 b), (5, vi i_7), (26, vb (!rv26))] [0, 1, 2, 3, 4, 5] [SP.fact (True)] ?_
  refine Jk [0, 1, 2, 3, 4, 5] ?_
  refine Kc ?_ ?_
  ·intro h28
   have h30 := not_true h28
   refine KS ?_
   refine Oq Va (KS ?_)
   have hR32 := q2 hM8 (.ret false) (by simp only [r7_SameLists_L0, h15, h28, h30, hg27, cs4])
   have hq := q4 hrr false (by simp only [r7_SameLists, h3, h15, h28, h30, hg27, hR32, cs4]); subst hq
   exact Kr () rfl (.tmp rfl .nil) [] trivial
  intro h28
  have h34 := not_false h28
  refine KS ?_
  refine Oq Vm (Oq Vadd (Oq Va (KS ?_)))
  exact Kg (r17, (i_7 + 1)) [4, 5] ⟨(q3 hM8 (by simp only [r7_SameLists_L0, h15, h28, h34, hg27, cs4])), aM1, aM1, aM1, aM1⟩
 intro h15
 have g36 := df h15
 obtain rfl : r6 = 0 := by omega
 refine Ke ?_
 have hR37 := q2 hM8 (.brk ()) (by simp only [r7_SameLists_L0, h15, cs4])
 refine KS ?_
 refine Oq Va (KS ?_)
 have hq := q4 hrr true (by simp only [r7_SameLists, h3, h15, hR37, cs4]); subst hq
 exact Kr () rfl (.tmp rfl .nil) [] trivial
theorem fn73 (a : GSet) (aa1 : Option Addr) (ak1 : Nat) (b : GSet) (ba1 : Option Addr) (bk1 : Nat) (ha_0 : i64ok a.Width) (hb_0 : i64ok b.Width) (rr : Bool) (hrr : r1_Same a b = rr) : FT Tryz.prog 73 #[.agg #[vi a.Width, vl aa1 ak1 a.Words], .agg #[vi b.Width, vl ba1 bk1 b.Words]] [S aa1 ak1 a.Words, S ba1 bk1 b.Words] (fun g : Unit => True) (fun g => vb rr) (fun g => []) := by
 refine FTi Tryz.func73 fun w0 M0 F0 => ?_
 unfold i64ok at ha_0 hb_0
 refine Fb 8 0 fun _ => Fb 8 1 fun _ => KS ?_
 refine Oa (Ab [vi a.Width, vl aa1 ak1 a.Words]) fun p3 => Oa (Ab [vi b.Width, vl ba1 bk1 b.Words]) fun p4 => Oq Va (KS ?_)
 refine Oq (Vfa fo53_0 1) (Oq (VldF sh3 1) (Oq (Vfa fo53_0 0) (Oq (VldF sh3 0) (Oq Vneq (Oq Vm ?_)))))
 refine Js 11 ?_ ?_
 ·intro h5
  have g6 := ne_of_bne h5
  refine Osk (Osk (Osk (Osk (Osk (Osk (Osk (Oq Vpt (KS ?_))))))))
  refine Kt (KS ?_)
  refine Oq Va (KS ?_)
  have hq := q4 hrr false (by simp only [r1_Same, h5, cs4]); subst hq
  exact Kr () rfl (.tmp rfl .nil) [] trivial
 intro h5
 have g7 := eq_of_bne_false h5
 refine Oq (Vfa fo53_1 1) (Oq (VldF sh51 1) (Oq (Vlen sl51) (Oq (Vfa fo53_1 0) (Oq (VldF sh51 0) (Oq (Vlen sl51) (Oq Vneq (Oq Vpf (KS ?_))))))))
 refine Kc ?_ ?_
 ·intro h8
  have g9 := ne_of_bne h8
  refine KS ?_
  refine Oq Va (KS ?_)
  have hq := q4 hrr false (by simp only [r1_Same, h5, h8, cs4]); subst hq
  exact Kr () rfl (.tmp rfl .nil) [] trivial
 intro h8
 have g10 := eq_of_bne_false h8
 refine KS ?_
 refine Oq Va (KS ?_)
 refine Kl (γ := Nat × Int) (fun (r11, i_12) => ⟨[(2, p3), (3, p4), (5, vi i_12)], [pv p4 [vi b.Width, vl ba1 bk1 b.Words], pv p3 [vi a.Width, vl aa1 ak1 a.Words], S aa1 ak1 a.Words, S ba1 bk1 b.Words], r1_Same_L0 a b r11 i_12 = r1_Same_L0 a b (((a.Words.length : Int) - 0).toNat) 0 ∧ r11 = ((a.Words.length : Int) - i_12).toNat ∧ (0 : Int) ≤ i_12 ∧ i_12 ≤ (a.Words.length : Int) ∧ (-9223372036854775808 ≤ i_12 ∧ i_12 ≤ 9223372036854775807), r11⟩) (((a.Words.length : Int) - 0).toNat, 0) [0, 1, 2, 3] ⟨rfl, rfl, aM1, aM1, aM1⟩ ?_
 rintro ⟨r11, i_12⟩ ⟨hM13, hr14, hi15, hi16, hk17⟩
 refine JJ_nx fun _ _ hL hA => ?_; dsimp only at hL hA; subst hL hA
 refine Fb 8 2 fun _ => Fb 8 3 fun _ => KS ?_
 refine Oq Vm (Oq (Vfa fo53_1 1) (Oq (VldF sh51 1) (Oq (Vlen sl51) (Oq Vlss (KS ?_)))))
 refine Kc ?_ ?_
 ·intro h20
  have g21 := dt h20
  obtain ⟨r22, rfl⟩ := scc (n := r11) aM1
  refine KS ?_
  refine Kq [0, 1, 0, 7, 15, 0, 32, 0, 224, 480, 1023] fmix ?_
  refine Qv [1] (Vfa fo53_1 0) (Qv [1] (VldF sh51 0) (Qv [] Vm (Qv [2] (Vi sl51 0) (Qv [2] (VldU sh95 0) (Qv [0] (Vfa fo53_1 0) (Qv [0] (VldF sh51 0) (Qv [] Vm (Qv [3] (Vi sl51 0) (Qv [3] (VldU sh95 0) ?_)))))))))
  refine Qv [] VneqU ?_
  refine Qn ⟨by kernel_rfl, ?_⟩
  refine Kc ?_ ?_
  ·intro h23
   have g24 := ne_of_bne h23
   refine KS ?_
   refine Oq Va (KS ?_)
   have hR25 := q2 hM13 (.ret false) (by simp only [r1_Same_L0, h20, h23, cs4])
   have hq := q4 hrr false (by simp only [r1_Same, h5, h8, h20, h23, hR25, cs4]); subst hq
   exact Kr () rfl (.tmp rfl .nil) [] trivial
  intro h23
  have g26 := eq_of_bne_false h23
  refine KS ?_
  refine Oq Vm (Oq Vadd (Oq Va (KS ?_)))
  exact Kg (r22, (i_12 + 1)) [0, 1, 2, 3] ⟨(q3 hM13 (by simp only [r1_Same_L0, h20, h23, cs4])), aM1, aM1, aM1, aM1⟩
 intro h20
 have g27 := df h20
 obtain rfl : r11 = 0 := by omega
 refine Ke ?_
 have hR28 := q2 hM13 (.brk ()) (by simp only [r1_Same_L0, h20, cs4])
 refine KS ?_
 refine Oq Va (KS ?_)
 have hq := q4 hrr true (by simp only [r1_Same, h5, h8, h20, hR28, cs4]); subst hq
 exact Kr () rfl (.tmp rfl .nil) [] trivial
theorem fn47 (a : List GSet) (aa0 : Option Addr) (ak0 : Nat) (b : List GSet) (ba0 : Option Addr) (bk0 : Nat) (rr : Bool) (hrr : r10_SameSets a b = rr) : FT Tryz.prog 47 #[vl aa0 ak0 a, vl ba0 bk0 b] [S aa0 ak0 a, S ba0 bk0 b] (fun g : Unit => True) (fun g => vb rr) (fun g => []) := by
 refine FTi Tryz.func47 fun w0 M0 F0 => Fb 32 0 fun _ => Fb 32 1 fun _ => ?_
 refine KS ?_
 refine Oq Va (KS ?_)
 refine Oq Vm (Oq (Vlen sl25) (Oq Vm (Oq (Vlen sl25) (Oq Vneq (KS ?_)))))
 refine Kc ?_ ?_
 ·intro h3
  have g4 := ne_of_bne h3
  refine KS ?_
  refine Oq Va (KS ?_)
  have hq := q4 hrr false (by simp only [r10_SameSets, h3, cs4]); subst hq
  exact Kr () rfl (.tmp rfl .nil) [] trivial
 intro h3
 have g5 := eq_of_bne_false h3
 refine KS ?_
 refine Oq Va (KS ?_)
 refine Kl (γ := Nat × Int) (fun (r6, i_7) => ⟨[(0, vl aa0 ak0 a), (1, vl ba0 bk0 b), (5, vi i_7)], [S aa0 ak0 a, S ba0 bk0 b], r10_SameSets_L0 a b r6 i_7 = r10_SameSets_L0 a b (((a.length : Int) - 0).toNat) 0 ∧ r6 = ((a.length : Int) - i_7).toNat ∧ (0 : Int) ≤ i_7 ∧ i_7 ≤ (a.length : Int) ∧ (-9223372036854775808 ≤ i_7 ∧ i_7 ≤ 9223372036854775807), r6⟩) (((a.length : Int) - 0).toNat, 0) [0, 1] ⟨rfl, rfl, aM1, aM1, aM1⟩ ?_
 rintro ⟨r6, i_7⟩ ⟨hM8, hr9, hi10, hi11, hk12⟩
 refine JJ_nx fun _ _ hL hA => ?_; dsimp only at hL hA; subst hL hA
 refine Fb 32 0 fun _ => Fb 32 1 fun _ => KS ?_
 refine Oq Vm (Oq Vm (Oq (Vlen sl25) (Oq Vlss (KS ?_))))
 refine Kc ?_ ?_
 ·intro h15
  have g16 := dt h15
  obtain ⟨r17, rfl⟩ := scc (n := r6) aM1
  refine KS ?_
  refine JJ_peek_GSet i_7.toNat 0 rfl rng fun a18 k19 hb20 => ?_
  unfold i64ok at hb20
  refine Fb 8 1 fun _ => ?_
  refine JJ_peek_GSet i_7.toNat 3 rfl rng fun a22 k23 hb24 => ?_
  unfold i64ok at hb24
  refine Fb 8 1 fun _ => ?_
  refine JK_drawK [0, 0, 3, 7, 0, 0, 48, 112, 255, 511] fmix ?_
  refine Dv [] Vm (Dv [] Vm (Dv [4] (Vi sl25 0) (Dv [2] (VldA sh53 0) (Dv [] Vm (Dv [] Vm (Dv [5] (Vi sl25 0) (Dv [0] (VldA sh53 0) ?_)))))))
  refine letv (r1_Same (a.getD i_7.toNat default) (b.getD i_7.toNat default)) fun rv26 hg27 => ?_
  refine Dx [1, 3] [] [1, 2, 0] (fun G => vb rv26) [fun G => SP.fact (True)] (fun G => xC [1, 0] ca73 (fn73 ((a.getD i_7.toNat default)) a18 k19 ((b.getD i_7.toNat default)) a22 k23 pre pre rv26 hg27)) (Dv [] Vnot ?_)
  refine Dn ⟨by kernel_rfl, fun G => ?_⟩
  refine Jw2 [(0, vl aa0 ak0 a), (1, vl ba0 bk0 b), (5, vi i_7), (26, vb (!rv26))] [0, 1, 2, 3, 4, 5] [SP.fact (True)] ?_
  refine Jk [0, 1, 2, 3, 4, 5] ?_
  refine Kc ?_ ?_
  ·intro h28
   have h30 := not_true h28
   refine KS ?_
   refine Oq Va (KS ?_)
   have hR32 := q2 hM8 (.ret false) (by simp only [r10_SameSets_L0, h15, h28, h30, hg27, cs4])
   have hq := q4 hrr false (by simp only [r10_SameSets, h3, h15, h28, h30, hg27, hR32, cs4]); subst hq
   exact Kr () rfl (.tmp rfl .nil) [] trivial
  intro h28
  have h34 := not_false h28
  refine KS ?_
  refine Oq Vm (Oq Vadd (Oq Va (KS ?_)))
  exact Kg (r17, (i_7 + 1)) [4, 5] ⟨(q3 hM8 (by simp only [r10_SameSets_L0, h15, h28, h34, hg27, cs4])), aM1, aM1, aM1, aM1⟩
 intro h15
 have g36 := df h15
 obtain rfl : r6 = 0 := by omega
 refine Ke ?_
 have hR37 := q2 hM8 (.brk ()) (by simp only [r10_SameSets_L0, h15, cs4])
 refine KS ?_
 refine Oq Va (KS ?_)
 have hq := q4 hrr true (by simp only [r10_SameSets, h3, h15, hR37, cs4]); subst hq
 exact Kr () rfl (.tmp rfl .nil) [] trivial
theorem fn48 (f : GTransfer) (fa1 : Option Addr) (fk1 : Nat) (fa3 : Option Addr) (fk3 : Nat) (fa4 : Option Addr) (fk4 : Nat) (g : GTransfer) (ga1 : Option Addr) (gk1 : Nat) (ga3 : Option Addr) (gk3 : Nat) (ga4 : Option Addr) (gk4 : Nat) (hf_0 : i64ok f.Gen.Width) (hf_2 : i64ok f.Kill.Width) (hg_0 : i64ok g.Gen.Width) (hg_2 : i64ok g.Kill.Width) (rr : Bool) (hrr : r1_Equals f g = rr) : FT Tryz.prog 48 #[.agg #[vi f.Gen.Width, vl fa1 fk1 f.Gen.Words, vi f.Kill.Width, vl fa3 fk3 f.Kill.Words, vl fa4 fk4 f.Copies], .agg #[vi g.Gen.Width, vl ga1 gk1 g.Gen.Words, vi g.Kill.Width, vl ga3 gk3 g.Kill.Words, vl ga4 gk4 g.Copies]] [S fa1 fk1 f.Gen.Words, S fa3 fk3 f.Kill.Words, S fa4 fk4 f.Copies, S ga1 gk1 g.Gen.Words, S ga3 gk3 g.Kill.Words, S ga4 gk4 g.Copies] (fun g : Unit => True) (fun g => vb rr) (fun g => []) := by
 refine FTi Tryz.func48 fun w0 M0 F0 => ?_
 unfold i64ok at hf_0 hf_2 hg_0 hg_2
 refine Fb 8 0 fun _ => Fb 8 1 fun _ => Fb 16 2 fun _ => Fb 8 3 fun _ => Fb 8 4 fun _ => Fb 16 5 fun _ => KS ?_
 refine Oa (Ab [vi f.Gen.Width, vl fa1 fk1 f.Gen.Words, vi f.Kill.Width, vl fa3 fk3 f.Kill.Words, vl fa4 fk4 f.Copies]) fun p7 => Oa (Ab [vi g.Gen.Width, vl ga1 gk1 g.Gen.Words, vi g.Kill.Width, vl ga3 gk3 g.Kill.Words, vl ga4 gk4 g.Copies]) fun p8 => Oq Va (KS ?_)
 refine Oq (Vfa fo57_0 1) (Oq (VldG sh53 1 [vi f.Gen.Width, vl fa1 fk1 f.Gen.Words]) (Oq (Vfa fo57_0 0) (Oq (VldG sh53 0 [vi g.Gen.Width, vl ga1 gk1 g.Gen.Words]) ?_)))
 refine letv (r1_Same f.Gen g.Gen) fun rv9 hg10 => ?_
 have hc11 := fn73 f.Gen fa1 fk1 g.Gen ga1 gk1 pre pre rv9 hg10
 refine Oc [2, 5] ca73 hc11 ?_
 rintro - -
 refine Oq Vnot (Oq Vm ?_)
 refine Js 12 ?_ ?_
 ·intro h12
  have h14 := not_true h12
  refine Osk (Osk (Osk (Osk (Osk (Osk (Oq Vpt (Oq Vm (Osk (Osk ?_)))))))))
  refine Osk (Osk (Osk (Osk (Osk (Oq Vpt (KS ?_))))))
  refine Kt (KS ?_)
  refine Oq Va (KS ?_)
  have hq := q4 hrr false (by simp only [r1_Equals, h12, h14, hg10, cs4]); subst hq
  exact Kr () rfl (.tmp rfl .nil) [] trivial
 intro h12
 have h17 := not_false h12
 refine Oq (Vfa fo57_1 1) (Oq (VldG sh53 1 [vi f.Kill.Width, vl fa3 fk3 f.Kill.Words]) (Oq (Vfa fo57_1 0) (Oq (VldG sh53 0 [vi g.Kill.Width, vl ga3 gk3 g.Kill.Words]) ?_)))
 refine letv (r1_Same f.Kill g.Kill) fun rv19 hg20 => ?_
 have hc21 := fn73 f.Kill fa3 fk3 g.Kill ga3 gk3 pre pre rv19 hg20
 refine Oc [3, 6] ca73 hc21 ?_
 rintro - -
 refine Oq Vnot (Oq Vpf (Oq Vm ?_))
 refine Js 20 ?_ ?_
 ·intro h22
  have h24 := not_true h22
  refine Osk (Osk (Osk (Osk (Osk (Osk (Osk (Oq Vpt (KS ?_))))))))
  refine Kt (KS ?_)
  refine Oq Va (KS ?_)
  have hq := q4 hrr false (by simp only [r1_Equals, h12, h17, h22, h24, hg10, hg20, cs4]); subst hq
  exact Kr () rfl (.tmp rfl .nil) [] trivial
 intro h22
 have h27 := not_false h22
 refine Oq (Vfa fo57_2 1) (Oq (VldF sh55 1) (Oq (Vlen sl55) (Oq (Vfa fo57_2 0) (Oq (VldF sh55 0) (Oq (Vlen sl55) (Oq Vneq (Oq Vpf (KS ?_))))))))
 refine Kc ?_ ?_
 ·intro h29
  have g30 := ne_of_bne h29
  refine KS ?_
  refine Oq Va (KS ?_)
  have hq := q4 hrr false (by simp only [r1_Equals, h12, h17, h22, h27, h29, hg10, hg20, cs4]); subst hq
  exact Kr () rfl (.tmp rfl .nil) [] trivial
 intro h29
 have g31 := eq_of_bne_false h29
 refine KS ?_
 refine Oq Va (KS ?_)
 refine Kl (γ := Nat × Int) (fun (r32, i_33) => ⟨[(2, p7), (3, p8), (5, vi i_33)], [pv p8 [vi g.Gen.Width, vl ga1 gk1 g.Gen.Words, vi g.Kill.Width, vl ga3 gk3 g.Kill.Words, vl ga4 gk4 g.Copies], pv p7 [vi f.Gen.Width, vl fa1 fk1 f.Gen.Words, vi f.Kill.Width, vl fa3 fk3 f.Kill.Words, vl fa4 fk4 f.Copies], S fa1 fk1 f.Gen.Words, S fa3 fk3 f.Kill.Words, S fa4 fk4 f.Copies, S ga1 gk1 g.Gen.Words, S ga3 gk3 g.Kill.Words, S ga4 gk4 g.Copies], r1_Equals_L0 f g r32 i_33 = r1_Equals_L0 f g (((f.Copies.length : Int) - 0).toNat) 0 ∧ r32 = ((f.Copies.length : Int) - i_33).toNat ∧ (0 : Int) ≤ i_33 ∧ i_33 ≤ (f.Copies.length : Int) ∧ (-9223372036854775808 ≤ i_33 ∧ i_33 ≤ 9223372036854775807), r32⟩) (((f.Copies.length : Int) - 0).toNat, 0) [0, 1, 2, 3, 4, 5, 6, 7] ⟨rfl, rfl, aM1, aM1, aM1⟩ ?_
 rintro ⟨r32, i_33⟩ ⟨hM34, hr35, hi36, hi37, hk38⟩
 refine JJ_nx fun _ _ hL hA => ?_; dsimp only at hL hA; subst hL hA
 refine Fb 8 2 fun _ => Fb 8 3 fun _ => Fb 16 4 fun _ => Fb 8 5 fun _ => Fb 8 6 fun _ => Fb 16 7 fun _ => KS ?_
 refine Oq Vm (Oq (Vfa fo57_2 1) (Oq (VldF sh55 1) (Oq (Vlen sl55) (Oq Vlss (KS ?_)))))
 refine Kc ?_ ?_
 ·intro h45
  have g46 := dt h45
  obtain ⟨r47, rfl⟩ := scc (n := r32) aM1
  refine KS ?_
  refine JJ_peek_GCopy i_33.toNat 4 rfl rng fun hb48 hb49 => ?_
  unfold i64ok at hb48 hb49
  refine JJ_peek_GCopy i_33.toNat 8 rfl rng fun hb50 hb51 => ?_
  unfold i64ok at hb50 hb51
  refine Kq [0, 1, 0, 7, 15, 0, 32, 0, 224, 480, 1023] fmix ?_
  refine Qv [3] (Vfa fo57_2 0) (Qv [3] (VldF sh55 0) (Qv [] Vm (Qv [6] (Vi sl55 0) (Qv [1] (VldA sh74 0) (Qv [2] (Vfa fo57_2 0) (Qv [2] (VldF sh55 0) (Qv [] Vm (Qv [9] (Vi sl55 0) (Qv [0] (VldA sh74 0) ?_)))))))))
  refine Qv [] (VneA eqi74 (l := [(f.Copies.getD i_33.toNat default).From, (f.Copies.getD i_33.toNat default).To]) (m := [(g.Copies.getD i_33.toNat default).From, (g.Copies.getD i_33.toNat default).To])) ?_
  refine Qn ⟨by kernel_rfl, ?_⟩
  refine Kc ?_ ?_
  ·intro h52
   have g53 := ne_of_bne h52
   refine KS ?_
   refine Oq Va (KS ?_)
   have hR54 := q2 hM34 (.ret false) (by simp only [r1_Equals_L0, h45, h52, cs4])
   have hq := q4 hrr false (by simp only [r1_Equals, h12, h17, h22, h27, h29, h45, h52, hg10, hg20, hR54, cs4]); subst hq
   exact Kr () rfl (.tmp rfl .nil) [] trivial
  intro h52
  have g55 := eq_of_bne_false h52
  refine KS ?_
  refine Oq Vm (Oq Vadd (Oq Va (KS ?_)))
  exact Kg (r47, (i_33 + 1)) [2, 3, 4, 5, 6, 7, 8, 9] ⟨(q3 hM34 (by simp only [r1_Equals_L0, h45, h52, cs4])), aM1, aM1, aM1, aM1⟩
 intro h45
 have g56 := df h45
 obtain rfl : r32 = 0 := by omega
 refine Ke ?_
 have hR57 := q2 hM34 (.brk ()) (by simp only [r1_Equals_L0, h45, cs4])
 refine KS ?_
 refine Oq Va (KS ?_)
 have hq := q4 hrr true (by simp only [r1_Equals, h12, h17, h22, h27, h29, h45, hg10, hg20, hR57, cs4]); subst hq
 exact Kr () rfl (.tmp rfl .nil) [] trivial
theorem fn12 (a : GSystem) (aa1 : Option Addr) (ak1 : Nat) (aa2 : Option Addr) (ak2 : Nat) (aa3 : Option Addr) (ak3 : Nat) (b : GSystem) (ba1 : Option Addr) (bk1 : Nat) (ba2 : Option Addr) (bk2 : Nat) (ba3 : Option Addr) (bk3 : Nat) (ha_0 : i64ok a.Width) (hb_0 : i64ok b.Width) (rr : Bool) (hrr : r10_SameSystem a b = rr) : FT Tryz.prog 12 #[.agg #[vi a.Width, vl aa1 ak1 a.Deps, vl aa2 ak2 a.Transfers, vl aa3 ak3 a.Boundary], .agg #[vi b.Width, vl ba1 bk1 b.Deps, vl ba2 bk2 b.Transfers, vl ba3 bk3 b.Boundary]] [S aa1 ak1 a.Deps, S aa2 ak2 a.Transfers, S aa3 ak3 a.Boundary, S ba1 bk1 b.Deps, S ba2 bk2 b.Transfers, S ba3 bk3 b.Boundary] (fun g : Unit => True) (fun g => vb rr) (fun g => []) := by
 refine FTi Tryz.func12 fun w0 M0 F0 => ?_
 unfold i64ok at ha_0 hb_0
 refine Fb 24 0 fun _ => Fb 88 1 fun _ => Fb 32 2 fun _ => Fb 24 3 fun _ => Fb 88 4 fun _ => Fb 32 5 fun _ => KS ?_
 refine Oa (Ab [vi a.Width, vl aa1 ak1 a.Deps, vl aa2 ak2 a.Transfers, vl aa3 ak3 a.Boundary]) fun p7 => Oa (Ab [vi b.Width, vl ba1 bk1 b.Deps, vl ba2 bk2 b.Transfers, vl ba3 bk3 b.Boundary]) fun p8 => Oq Va (KS ?_)
 refine Oq (Vfa fo27_0 1) (Oq (VldF sh3 1) (Oq (Vfa fo27_0 0) (Oq (VldF sh3 0) (Oq Vneq (Oq Vm ?_)))))
 refine Js 11 ?_ ?_
 ·intro h9
  have g10 := ne_of_bne h9
  refine Osk (Osk (Osk (Osk (Osk (Osk (Oq Vpt (Oq Vm (Osk (Osk ?_)))))))))
  refine Osk (Osk (Osk (Osk (Oq Vpt (Oq Vm (Osk (Osk (Osk (Osk ?_)))))))))
  refine Osk (Osk (Osk (Oq Vpt (KS ?_))))
  refine Kt (KS ?_)
  refine Oq Va (KS ?_)
  have hq := q4 hrr false (by simp only [r10_SameSystem, h9, cs4]); subst hq
  exact Kr () rfl (.tmp rfl .nil) [] trivial
 intro h9
 have g11 := eq_of_bne_false h9
 refine Oq (Vfa fo27_1 1) (Oq (VldF sh23 1) (Oq (Vfa fo27_1 0) (Oq (VldF sh23 0) ?_)))
 refine letv (r7_SameLists a.Deps b.Deps) fun rv12 hg13 => ?_
 have hc14 := fn46 a.Deps aa1 ak1 b.Deps ba1 bk1 rv12 hg13
 refine Oc [2, 5] ca46 hc14 ?_
 rintro - -
 refine Oq Vnot (Oq Vpf (Oq Vm ?_))
 refine Js 19 ?_ ?_
 ·intro h15
  have h17 := not_true h15
  refine Osk (Osk (Osk (Osk (Osk (Osk (Oq Vpt (Oq Vm (Osk (Osk ?_)))))))))
  refine Osk (Osk (Osk (Osk (Osk (Oq Vpt (KS ?_))))))
  refine Kt (KS ?_)
  refine Oq Va (KS ?_)
  have hq := q4 hrr false (by simp only [r10_SameSystem, h9, h15, h17, hg13, cs4]); subst hq
  exact Kr () rfl (.tmp rfl .nil) [] trivial
 intro h15
 have h20 := not_false h15
 refine Oq (Vfa fo27_3 1) (Oq (VldF sh25 1) (Oq (Vfa fo27_3 0) (Oq (VldF sh25 0) ?_)))
 refine letv (r10_SameSets a.Boundary b.Boundary) fun rv22 hg23 => ?_
 have hc24 := fn47 a.Boundary aa3 ak3 b.Boundary ba3 bk3 rv22 hg23
 refine Oc [4, 7] ca47 hc24 ?_
 rintro - -
 refine Oq Vnot (Oq Vpf (Oq Vm ?_))
 refine Js 27 ?_ ?_
 ·intro h25
  have h27 := not_true h25
  refine Osk (Osk (Osk (Osk (Osk (Osk (Osk (Oq Vpt (KS ?_))))))))
  refine Kt (KS ?_)
  refine Oq Va (KS ?_)
  have hq := q4 hrr false (by simp only [r10_SameSystem, h9, h15, h20, h25, h27, hg13, hg23, cs4]); subst hq
  exact Kr () rfl (.tmp rfl .nil) [] trivial
 intro h25
 have h30 := not_false h25
 refine Oq (Vfa fo27_2 1) (Oq (VldF sh24 1) (Oq (Vlen sl24) (Oq (Vfa fo27_2 0) (Oq (VldF sh24 0) (Oq (Vlen sl24) (Oq Vneq (Oq Vpf (KS ?_))))))))
 refine Kc ?_ ?_
 ·intro h32
  have g33 := ne_of_bne h32
  refine KS ?_
  refine Oq Va (KS ?_)
  have hq := q4 hrr false (by simp only [r10_SameSystem, h9, h15, h20, h25, h30, h32, hg13, hg23, cs4]); subst hq
  exact Kr () rfl (.tmp rfl .nil) [] trivial
 intro h32
 have g34 := eq_of_bne_false h32
 refine KS ?_
 refine Oq Va (KS ?_)
 refine Kl (γ := Nat × Int) (fun (r35, i_36) => ⟨[(2, p7), (3, p8), (5, vi i_36)], [pv p8 [vi b.Width, vl ba1 bk1 b.Deps, vl ba2 bk2 b.Transfers, vl ba3 bk3 b.Boundary], pv p7 [vi a.Width, vl aa1 ak1 a.Deps, vl aa2 ak2 a.Transfers, vl aa3 ak3 a.Boundary], S aa1 ak1 a.Deps, S aa2 ak2 a.Transfers, S aa3 ak3 a.Boundary, S ba1 bk1 b.Deps, S ba2 bk2 b.Transfers, S ba3 bk3 b.Boundary], r10_SameSystem_L0 a b r35 i_36 = r10_SameSystem_L0 a b (((a.Transfers.length : Int) - 0).toNat) 0 ∧ r35 = ((a.Transfers.length : Int) - i_36).toNat ∧ (0 : Int) ≤ i_36 ∧ i_36 ≤ (a.Transfers.length : Int) ∧ (-9223372036854775808 ≤ i_36 ∧ i_36 ≤ 9223372036854775807), r35⟩) (((a.Transfers.length : Int) - 0).toNat, 0) [0, 1, 2, 3, 4, 5, 6, 7] ⟨rfl, rfl, aM1, aM1, aM1⟩ ?_
 rintro ⟨r35, i_36⟩ ⟨hM37, hr38, hi39, hi40, hk41⟩
 refine JJ_nx fun _ _ hL hA => ?_; dsimp only at hL hA; subst hL hA
 refine Fb 24 2 fun _ => Fb 88 3 fun _ => Fb 32 4 fun _ => Fb 24 5 fun _ => Fb 88 6 fun _ => Fb 32 7 fun _ => KS ?_
 refine Oq Vm (Oq (Vfa fo27_2 1) (Oq (VldF sh24 1) (Oq (Vlen sl24) (Oq Vlss (KS ?_)))))
 refine Kc ?_ ?_
 ·intro h48
  have g49 := dt h48
  obtain ⟨r50, rfl⟩ := scc (n := r35) aM1
  refine KS ?_
  refine JJ_peek_GTransfer i_36.toNat 3 rfl rng fun a51 k52 a53 k54 a55 k56 hb57 hb58 => ?_
  unfold i64ok at hb57 hb58
  refine Fb 8 1 fun _ => Fb 8 2 fun _ => Fb 16 3 fun _ => ?_
  refine JJ_peek_GTransfer i_36.toNat 10 rfl rng fun a62 k63 a64 k65 a66 k67 hb68 hb69 => ?_
  unfold i64ok at hb68 hb69
  refine Fb 8 1 fun _ => Fb 8 2 fun _ => Fb 16 3 fun _ => ?_
  refine JK_drawK [0, 1, 0, 7, 15, 0, 32, 0, 224, 480, 1023, 2047] fmix ?_
  refine Dv [9] (Vfa fo27_2 0) (Dv [9] (VldF sh24 0) (Dv [] Vm (Dv [11] (Vi sl24 0) (Dv [4] (VldA sh57 0) (Dv [8] (Vfa fo27_2 0) (Dv [8] (VldF sh24 0) (Dv [] Vm (Dv [14] (Vi sl24 0) (Dv [0] (VldA sh57 0) ?_)))))))))
  refine letv (r1_Equals (a.Transfers.getD i_36.toNat default) (b.Transfers.getD i_36.toNat default)) fun rv73 hg74 => ?_
  refine Dx [1, 2, 3, 5, 6, 7] [] [1, 2, 3, 4, 5, 6, 0] (fun G => vb rv73) [fun G => SP.fact (True)] (fun G => xC [3, 4, 5, 0, 1, 2] ca48 (fn48 ((a.Transfers.getD i_36.toNat default)) a51 k52 a53 k54 a55 k56 ((b.Transfers.getD i_36.toNat default)) a62 k63 a64 k65 a66 k67 pre pre pre pre rv73 hg74)) (Dv [] Vnot ?_)
  refine Dn ⟨by kernel_rfl, fun G => ?_⟩
  refine Jw2 [(2, p7), (3, p8), (5, vi i_36), (54, vb (!rv73))] [0, 1, 2, 3, 4, 5, 6, 7, 8, 9, 10, 11, 12, 13, 14, 15] [SP.fact (True)] ?_
  refine Jk [0, 1, 2, 3, 4, 5, 6, 7, 8, 9, 10, 11, 12, 13, 14, 15] ?_
  refine Kc ?_ ?_
  ·intro h75
   have h77 := not_true h75
   refine KS ?_
   refine Oq Va (KS ?_)
   have hR79 := q2 hM37 (.ret false) (by simp only [r10_SameSystem_L0, h48, h75, h77, hg74, cs4])
   have hq := q4 hrr false (by simp only [r10_SameSystem, h9, h15, h20, h25, h30, h32, h48, h75, h77, hg13, hg23, hg74, hR79, cs4]); subst hq
   exact Kr () rfl (.tmp rfl .nil) [] trivial
  intro h75
  have h81 := not_false h75
  refine KS ?_
  refine Oq Vm (Oq Vadd (Oq Va (KS ?_)))
  exact Kg (r50, (i_36 + 1)) [8, 9, 10, 11, 12, 13, 14, 15] ⟨(q3 hM37 (by simp only [r10_SameSystem_L0, h48, h75, h81, hg74, cs4])), aM1, aM1, aM1, aM1⟩
 intro h48
 have g83 := df h48
 obtain rfl : r35 = 0 := by omega
 refine Ke ?_
 have hR84 := q2 hM37 (.brk ()) (by simp only [r10_SameSystem_L0, h48, cs4])
 refine KS ?_
 refine Oq Va (KS ?_)
 have hq := q4 hrr true (by simp only [r10_SameSystem, h9, h15, h20, h25, h30, h32, h48, hg13, hg23, hR84, cs4]); subst hq
 exact Kr () rfl (.tmp rfl .nil) [] trivial
theorem fn49 (s : List Int) (sa0 : Option Addr) (sk0 : Nat) (v : Int) (hv_0 : i64ok v) (rr : Bool) (hrr : sc_Contains_int s v = rr) : FT Tryz.prog 49 #[vl sa0 sk0 s, vi v] [S sa0 sk0 s] (fun g : Unit => True) (fun g => vb rr) (fun g => []) := by
 refine FTi Tryz.func49 fun w0 M0 F0 => ?_
 unfold i64ok at hv_0
 refine Fb 8 0 fun _ => Fo 0 fun ho2 => KS ?_
 refine Oq Va (KS ?_)
 refine Oq Vm (Oq Vm ?_)
 refine letv (sc_Index_int s v) fun rv3 hg4 => ?_
 have hc5 := fn40 s sa0 sk0 v pre rv3 hg4
 refine Oc [0] ca40 hc5 ?_
 rintro - he6
 unfold i64ok at he6
 refine Oq Vgeq (Oq Va (KS ?_))
 have hq := q4 hrr (decide (0 ≤ rv3)) (by simp only [sc_Contains_int, hg4, cs4]); subst hq
 exact Kr () rfl (.tmp rfl .nil) [] trivial
theorem fn14 (s : GSystem) (sa1 : Option Addr) (sk1 : Nat) (sa2 : Option Addr) (sk2 : Nat) (sa3 : Option Addr) (sk3 : Nat) (cone : List Int) (conea0 : Option Addr) (conek0 : Nat) (leaf : List Bool) (leafa0 : Option Addr) (leafk0 : Nat) (i : Int) (hs_0 : i64ok s.Width) (hi_0 : i64ok i) (rr : List Int) (hrr : cn_Dependents s cone leaf i = rr) : FT Tryz.prog 14 #[.agg #[vi s.Width, vl sa1 sk1 s.Deps, vl sa2 sk2 s.Transfers, vl sa3 sk3 s.Boundary], vl conea0 conek0 cone, vl leafa0 leafk0 leaf, vi i] [S sa1 sk1 s.Deps, S sa2 sk2 s.Transfers, S sa3 sk3 s.Boundary, S conea0 conek0 cone, S leafa0 leafk0 leaf] (fun g : Value => (rr.length ≤ cone.length)) (fun g => g) (fun g => [sl g rr]) := by
 refine FTi Tryz.func14 fun w0 M0 F0 => ?_
 unfold i64ok at hs_0 hi_0
 refine Fb 24 0 fun _ => Fb 88 1 fun _ => Fb 32 2 fun _ => Fb 8 3 fun _ => Fo 3 fun ho5 => Fb 1 4 fun _ => KS ?_
 refine Oa (Ab [vi s.Width, vl sa1 sk1 s.Deps, vl sa2 sk2 s.Transfers, vl sa3 sk3 s.Boundary]) fun p7 => Oq Va (KS ?_)
 refine Oq (VldA sh27 0) ?_
 refine letv (eq_Valid s) fun rv8 hg9 => ?_
 have hc10 := fn28 s sa1 sk1 sa2 sk2 sa3 sk3 pre rv8 hg9
 refine Oc [1, 2, 3] ca28 hc10 ?_
 rintro - -
 refine Oq Vnot (Oq Vm ?_)
 refine Js 15 ?_ ?_
 ·intro h11
  have h13 := not_true h11
  refine Osk (Osk (Osk (Osk (Oq Vpt (Oq Vm (Osk (Osk (Osk (Osk ?_)))))))))
  refine Osk (Oq Vpt (Oq Vm (Osk (Osk (Oq Vpt (Oq Vm (Osk (Osk (Osk ?_)))))))))
  refine Osk (Oq Vpt (KS ?_))
  refine Kt (KS ?_)
  refine Oq Va (KS ?_)
  refine Jl [] (Ent.slNil (α := Int)) ?_
  have hq := q4 hrr ([] : List Int) (by simp only [cn_Dependents, h11, h13, hg9, cs4]); subst hq
  exact Kr (.slice none 0 0) rfl (.tmp rfl .nil) [0] en
 intro h11
 have h16 := not_false h11
 try (have hvs := (EValid_iff s).1 (by simp only [h11, h16, hg9]))
 try (have hcr := (unknowns_iff s cone).1 (by simp only [h11, h16, hg9]))
 refine Oq (VldA sh27 0) (Oq Vm ?_)
 refine letv (cn_unknowns s cone) fun rv18 hg19 => ?_
 have hc20 := fn29 s sa1 sk1 sa2 sk2 sa3 sk3 cone conea0 conek0 pre rv18 hg19
 refine Oc [1, 2, 3, 4] ca29 hc20 ?_
 rintro - -
 refine Oq Vnot (Oq Vpf (Oq Vm ?_))
 refine Js 21 ?_ ?_
 ·intro h21
  have h23 := not_true h21
  refine Osk (Osk (Osk (Osk (Osk (Oq Vpt (Oq Vm (Osk (Osk (Oq Vpt ?_)))))))))
  refine Oq Vm (Osk (Osk (Osk (Osk (Oq Vpt (KS ?_))))))
  refine Kt (KS ?_)
  refine Oq Va (KS ?_)
  refine Jl [] (Ent.slNil (α := Int)) ?_
  have hq := q4 hrr ([] : List Int) (by simp only [cn_Dependents, h11, h16, h21, h23, hg9, hg19, cs4]); subst hq
  exact Kr (.slice none 0 0) rfl (.tmp rfl .nil) [0] en
 intro h21
 have h26 := not_false h21
 try (have hvs := (EValid_iff s).1 (by simp only [h11, h16, h21, h26, hg9, hg19]))
 try (have hcr := (unknowns_iff s cone).1 (by simp only [h11, h16, h21, h26, hg9, hg19]))
 refine Oq Vm (Oq (Vlen sl40) (Oq Vm (Oq (Vlen sl22) (Oq Vneq (Oq Vpf (Oq Vm ?_))))))
 refine Js 28 ?_ ?_
 ·intro h28
  have g29 := ne_of_bne h28
  refine Osk (Osk (Oq Vpt (Oq Vm (Osk (Osk (Osk (Osk (Oq Vpt (KS ?_)))))))))
  refine Kt (KS ?_)
  refine Oq Va (KS ?_)
  refine Jl [] (Ent.slNil (α := Int)) ?_
  have hq := q4 hrr ([] : List Int) (by simp only [cn_Dependents, h11, h16, h21, h26, h28, hg9, hg19, cs4]); subst hq
  exact Kr (.slice none 0 0) rfl (.tmp rfl .nil) [0] en
 intro h28
 have g30 := eq_of_bne_false h28
 refine Oq Vm (Oq Vlss (Oq Vpf (Oq Vm ?_)))
 refine Js 32 ?_ ?_
 ·intro h31
  have g32 := dt h31
  refine Osk (Osk (Osk (Osk (Oq Vpt (KS ?_)))))
  refine Kt (KS ?_)
  refine Oq Va (KS ?_)
  refine Jl [] (Ent.slNil (α := Int)) ?_
  have hq := q4 hrr ([] : List Int) (by simp only [cn_Dependents, h11, h16, h21, h26, h28, h31, hg9, hg19, cs4]); subst hq
  exact Kr (.slice none 0 0) rfl (.tmp rfl .nil) [0] en
 intro h31
 have g33 := df h31
 refine Oq Vm (Oq Vm (Oq (Vlen sl22) (Oq Vgeq (Oq Vpf (KS ?_)))))
 refine Kc ?_ ?_
 ·intro h34
  have g35 := dt h34
  refine KS ?_
  refine Oq Va (KS ?_)
  refine Jl [] (Ent.slNil (α := Int)) ?_
  have hq := q4 hrr ([] : List Int) (by simp only [cn_Dependents, h11, h16, h21, h26, h28, h31, h34, hg9, hg19, cs4]); subst hq
  exact Kr (.slice none 0 0) rfl (.tmp rfl .nil) [0] en
 intro h34
 have g36 := df h34
 refine KS ?_
 refine Oq Va (KS ?_)
 refine Oq Vm (Oq (Vlen sl22) (Oq Vm (KS ?_)))
 refine Jl [] (Ent.osNil (α := Int)) ?_
 refine Kl (γ := Nat × List Int × Int × Option Addr × Nat) (fun (r37, out_38, v40_39, a40, k41) => ⟨[(1, vl conea0 conek0 cone), (2, vl leafa0 leafk0 leaf), (3, vi i), (4, p7), (9, vl a40 k41 out_38), (38, vl conea0 conek0 cone), (39, vi (cone.length : Int)), (40, vi v40_39)], [O a40 k41 out_38, pv p7 [vi s.Width, vl sa1 sk1 s.Deps, vl sa2 sk2 s.Transfers, vl sa3 sk3 s.Boundary], S sa1 sk1 s.Deps, S sa2 sk2 s.Transfers, S sa3 sk3 s.Boundary, S conea0 conek0 cone, S leafa0 leafk0 leaf], cn_Dependents_L0 s cone leaf i r37 out_38 v40_39 = cn_Dependents_L0 s cone leaf i (((cone.length : Int) - 0).toNat) [] 0 ∧ r37 = ((cone.length : Int) - v40_39).toNat ∧ (0 : Int) ≤ v40_39 ∧ v40_39 ≤ (cone.length : Int) ∧ (-9223372036854775808 ≤ v40_39 ∧ v40_39 ≤ 9223372036854775807) ∧ (out_38.length : Int) ≤ v40_39, r37⟩) (((cone.length : Int) - 0).toNat, [], 0, none, 0) [0, 0, 1, 2, 3, 4, 5] ⟨rfl, rfl, aM1, aM1, aM1, iv0⟩ ?_
 rintro ⟨r37, out_38, v40_39, a40, k41⟩ ⟨hM42, hr43, hi44, hi45, hk46, hv47⟩
 refine JJ_nx fun _ _ hL hA => ?_; dsimp only at hL hA; subst hL hA
 refine Fb 8 0 fun _ => Fo 0 fun ho49 => Fb 24 2 fun _ => Fb 88 3 fun _ => Fb 32 4 fun _ => Fb 8 5 fun _ => Fo 5 fun ho54 => Fb 1 6 fun _ => KS ?_
 refine Oq Vlss (KS ?_)
 refine Kc ?_ ?_
 ·intro h56
  have g57 := dt h56
  have hq := hcr _ (getD_mem (xs := cone) (i := v40_39.toNat) (d := 0) aM1)
  obtain ⟨r58, rfl⟩ := scc (n := r37) aM1
  refine KS ?_
  refine Oq Vm (Oq (Vi sl22 5) ?_)
  have hb59 := ok1 (i := v40_39.toNat) ho54 rng
  refine Oq (VldI sh3 5) (Oq Va (Oq Va (KS ?_)))
  refine bool_split (!(leaf.getD v40_39.toNat false)) ?_ ?_
  ·intro h60
   have h62 := not_true h60
   refine JJ_peekL ((cone.getD v40_39.toNat 0) : Int).toNat 2 rfl rng fun a64 k65 => ?_
   refine Fb 8 1 fun _ => Fo 1 fun ho67 => ?_
   refine JK_drawK [0, 0, 3, 7, 15, 31, 63, 127, 63, 511, 1023, 63, 63, 6207, 14399, 32767, 65535] fmix ?_
   refine Dv [] Vm (Dv [] Vm (Dv [8] (Vi sl40 0) (Dv [8] (VldB sh4 0) (Db h60 [] Vnot (Dv [] Vm (Dv [3] (Vfa fo27_1 0) (Dv [3] (VldF sh23 0) (Dv [] Vm (Dv [4] (Vi sl23 0) ?_)))))))))
   refine Dv [0] (Vld sh22 0) (Dv [] Vm (Dv [] Vm (Dv [7] (Vi sl22 0) ?_)))
   have hb68 := ok1 (i := i.toNat) ho54 rng
   refine Dv [7] (VldI sh3 0) ?_
   refine letv (sc_Contains_int (s.Deps.getD ((cone.getD v40_39.toNat 0) : Int).toNat []) (cone.getD i.toNat 0)) fun rv69 hg70 => ?_
   refine Dx [1] [] [1, 0] (fun G => vb rv69) [fun G => SP.fact (True)] (fun G => xC [0] ca49 (fn49 ((s.Deps.getD ((cone.getD v40_39.toNat 0) : Int).toNat [])) a64 k65 ((cone.getD i.toNat 0)) pre rv69 hg70)) (Dv [] Vpt ?_)
   refine Dn ⟨by kernel_rfl, fun G => ?_⟩
   refine Jw2 [(1, vl conea0 conek0 cone), (2, vl leafa0 leafk0 leaf), (3, vi i), (4, p7), (9, vl a40 k41 out_38), (38, vl conea0 conek0 cone), (39, vi (cone.length : Int)), (40, vi v40_39), (10, vi v40_39), (61, vb rv69)] [0, 1, 2, 3, 4, 5, 6, 7, 8] [SP.fact (True)] ?_
   refine Jk [0, 1, 2, 2, 3, 4, 5, 6, 7] ?_
   refine Kc ?_ ?_
   ·intro h71
    try (have hvs := (EValid_iff s).1 (by simp only [h11, h16, h21, h26, h28, h31, h34, h56, h60, h62, h71, hg9, hg19, hg70]))
    try (have hcr := (unknowns_iff s cone).1 (by simp only [h11, h16, h21, h26, h28, h31, h34, h56, h60, h62, h71, hg9, hg19, hg70]))
    refine KS ?_
    refine Oq Vm (Oq Vm (Oa (AsV sl22 sz22 [vi v40_39] [vi v40_39]) fun c73 => ?_))
    refine Jo 0 ?_; rintro a74 k75 rfl
    refine Jl [0] (Ent.crInt _ [v40_39] _ _ rfl rfl (by intro x hx; rw [List.mem_singleton] at hx; subst hx; unfold i64ok; omega) aB1) ?_
    refine Oa (ApO [3, 0] sl22 sl22 sz22) fun c76 => ?_
    refine Jo 0 ?_; rintro a77 k78 rfl
    refine Fb 8 0 fun _ => Fo 0 fun ho80 => ?_
    have hn81 := la out_38 ([v40_39] : List Int)
    refine Oq Va (KS ?_)
    refine Oq Vadd (Oq Vm (KS ?_))
    exact Kg (r58, (out_38 ++ [v40_39]), (v40_39 + 1), a77, k78) [0, 2, 3, 4, 5, 6, 7] ⟨(q3 hM42 (by simp only [cn_Dependents_L0, h56, h60, h62, h71, hg70, cs4])), aM1, aM1, aM1, aM1, iv1⟩
   intro h71
   refine KS ?_
   refine Oq Vadd (Oq Vm (KS ?_))
   exact Kg (r58, out_38, (v40_39 + 1), a40, k41) [2, 2, 3, 4, 5, 6, 7] ⟨(q3 hM42 (by simp only [cn_Dependents_L0, h56, h60, h62, h71, hg70, cs4])), aM1, aM1, aM1, aM1, iv1⟩
  intro h60
  have h84 := not_false h60
  refine Kq [0, 0, 3, 7, 15, 31, 63, 127, 63, 511, 1023, 63, 63, 6207, 14399, 32767, 65535] fmix ?_
  refine Qv [] Vm (Qv [] Vm (Qv [6] (Vi sl40 0) (Qv [6] (VldB sh4 0) (Qb h60 [] Vnot (Qv [] Vm (Qs (Qs (Qs (Qs ?_)))))))))
  refine Qs (Qs (Qs (Qs (Qs (Qs (Qv [] Vpf ?_))))))
  refine Qn ⟨by kernel_rfl, ?_⟩
  refine Kf (KS ?_)
  refine Oq Vadd (Oq Vm (KS ?_))
  exact Kg (r58, out_38, (v40_39 + 1), a40, k41) [0, 0, 1, 2, 3, 4, 5] ⟨(q3 hM42 (by simp only [cn_Dependents_L0, h56, h60, h84, cs4])), aM1, aM1, aM1, aM1, iv1⟩
 intro h56
 have g86 := df h56
 obtain rfl : r37 = 0 := by omega
 refine Ke ?_
 have hR87 := q2 hM42 out_38 (by simp only [cn_Dependents_L0, h56, cs4])
 refine KS ?_
 refine Oq Vm (Oq Va (KS ?_))
 refine Jl [0] (Ent.freeze _ _) ?_
 have hq := q4 hrr out_38 (by simp only [cn_Dependents, h11, h16, h21, h26, h28, h31, h34, h56, hg9, hg19, hR87, cs4]); subst hq
 exact Kr (vl a40 k41 out_38) rfl (.tmp rfl .nil) [0] en
theorem fn25 (l : List Int) (la0 : Option Addr) (lk0 : Nat) (n : Int) (hn_0 : i64ok n) (rr : Bool) (hrr : r7_Has l n = rr) : FT Tryz.prog 25 #[vl la0 lk0 l, vi n] [S la0 lk0 l] (fun g : Unit => True) (fun g => vb rr) (fun g => []) := by
 refine FTi Tryz.func25 fun w0 M0 F0 => ?_
 unfold i64ok at hn_0
 refine Fb 8 0 fun _ => Fo 0 fun ho2 => KS ?_
 refine Oq Va (KS ?_)
 refine Oq Va (KS ?_)
 refine Kl (γ := Nat × Int) (fun (r3, i_4) => ⟨[(0, vl la0 lk0 l), (1, vi n), (5, vi i_4)], [S la0 lk0 l], r7_Has_L0 l n r3 i_4 = r7_Has_L0 l n (((l.length : Int) - 0).toNat) 0 ∧ r3 = ((l.length : Int) - i_4).toNat ∧ (0 : Int) ≤ i_4 ∧ i_4 ≤ (l.length : Int) ∧ (-9223372036854775808 ≤ i_4 ∧ i_4 ≤ 9223372036854775807), r3⟩) (((l.length : Int) - 0).toNat, 0) [0] ⟨rfl, rfl, aM1, aM1, aM1⟩ ?_
 rintro ⟨r3, i_4⟩ ⟨hM5, hr6, hi7, hi8, hk9⟩
 refine JJ_nx fun _ _ hL hA => ?_; dsimp only at hL hA; subst hL hA
 refine Fb 8 0 fun _ => Fo 0 fun ho11 => KS ?_
 refine Oq Vm (Oq Vm (Oq (Vlen sl22) (Oq Vlss (KS ?_))))
 refine Kc ?_ ?_
 ·intro h12
  have g13 := dt h12
  obtain ⟨r14, rfl⟩ := scc (n := r3) aM1
  refine KS ?_
  refine Oq Vm (Oq Vm (Oq (Vi sl22 0) ?_))
  have hb15 := ok1 (i := i_4.toNat) ho11 rng
  refine Oq (VldI sh3 0) (Oq Vm (Oq Veql (KS ?_)))
  refine Kc ?_ ?_
  ·intro h16
   have g17 := eq_of_beq h16
   refine KS ?_
   refine Oq Va (KS ?_)
   have hR18 := q2 hM5 (.ret true) (by simp only [r7_Has_L0, h12, h16, cs4])
   have hq := q4 hrr true (by simp only [r7_Has, h12, h16, hR18, cs4]); subst hq
   exact Kr () rfl (.tmp rfl .nil) [] trivial
  intro h16
  have g19 := ne_of_beq_false h16
  refine KS ?_
  refine Oq Vm (Oq Vadd (Oq Va (KS ?_)))
  exact Kg (r14, (i_4 + 1)) [0] ⟨(q3 hM5 (by simp only [r7_Has_L0, h12, h16, cs4])), aM1, aM1, aM1, aM1⟩
 intro h12
 have g20 := df h12
 obtain rfl : r3 = 0 := by omega
 refine Ke ?_
 have hR21 := q2 hM5 (.brk ()) (by simp only [r7_Has_L0, h12, cs4])
 refine KS ?_
 refine Oq Va (KS ?_)
 have hq := q4 hrr false (by simp only [r7_Has, h12, hR21, cs4]); subst hq
 exact Kr () rfl (.tmp rfl .nil) [] trivial
theorem fn15 (s : GSystem) (sa1 : Option Addr) (sk1 : Nat) (sa2 : Option Addr) (sk2 : Nat) (sa3 : Option Addr) (sk3 : Nat) (cone : List Int) (conea0 : Option Addr) (conek0 : Nat) (leaf : List Bool) (leafa0 : Option Addr) (leafk0 : Nat) (i : Int) (hs_0 : i64ok s.Width) (hi_0 : i64ok i) (rr : List Int) (hrr : r14_Dependents s cone leaf i = rr) : FT Tryz.prog 15 #[.agg #[vi s.Width, vl sa1 sk1 s.Deps, vl sa2 sk2 s.Transfers, vl sa3 sk3 s.Boundary], vl conea0 conek0 cone, vl leafa0 leafk0 leaf, vi i] [S sa1 sk1 s.Deps, S sa2 sk2 s.Transfers, S sa3 sk3 s.Boundary, S conea0 conek0 cone, S leafa0 leafk0 leaf] (fun g : Value => (rr.length ≤ cone.length)) (fun g => g) (fun g => [sl g rr]) := by
 refine FTi Tryz.func15 fun w0 M0 F0 => ?_
 unfold i64ok at hs_0 hi_0
 refine Fb 24 0 fun _ => Fb 88 1 fun _ => Fb 32 2 fun _ => Fb 8 3 fun _ => Fo 3 fun ho5 => Fb 1 4 fun _ => KS ?_
 refine Oa (Ab [vi s.Width, vl sa1 sk1 s.Deps, vl sa2 sk2 s.Transfers, vl sa3 sk3 s.Boundary]) fun p7 => Oq Va (KS ?_)
 refine Oq Va (KS ?_)
 refine Oq (VldA sh27 0) ?_
 refine letv (r10_Valid s) fun rv8 hg9 => ?_
 have hc10 := fn23 s sa1 sk1 sa2 sk2 sa3 sk3 pre rv8 hg9
 refine Oc [1, 2, 3] ca23 hc10 ?_
 rintro - -
 refine Oq Vnot (Oq Vm ?_)
 refine Js 14 ?_ ?_
 ·intro h11
  have h13 := not_true h11
  refine Osk (Osk (Osk (Osk (Oq Vpt (Oq Vm (Osk (Osk (Osk (Osk ?_)))))))))
  refine Osk (Oq Vpt (Oq Vm (Osk (Osk (Oq Vpt (Oq Vm (Osk (Osk (Osk ?_)))))))))
  refine Osk (Oq Vpt (KS ?_))
  refine Kt (KS ?_)
  refine Oq Va (KS ?_)
  refine Jl [] (Ent.slNil (α := Int)) ?_
  have hq := q4 hrr ([] : List Int) (by simp only [r14_Dependents, h11, h13, hg9, cs4]); subst hq
  exact Kr (.slice none 0 0) rfl (.tmp rfl .nil) [0] en
 intro h11
 have h16 := not_false h11
 try (have hvs := (RefValid_iff s).1 (by simp only [h11, h16, hg9]); have hv3 := hvs.bl)
 try (have hcr := inside_dep hvs (l := cone) (by simp only [h11, h16, hg9]))
 refine Oq (VldA sh27 0) (Oq Vm ?_)
 refine letv (r14_inside s cone) fun rv18 hg19 => ?_
 have hc20 := fn24 s sa1 sk1 sa2 sk2 sa3 sk3 cone conea0 conek0 pre rv18 hg19
 refine Oc [1, 2, 3, 4] ca24 hc20 ?_
 rintro - -
 refine Oq Vnot (Oq Vpf (Oq Vm ?_))
 refine Js 20 ?_ ?_
 ·intro h21
  have h23 := not_true h21
  refine Osk (Osk (Osk (Osk (Osk (Oq Vpt (Oq Vm (Osk (Osk (Oq Vpt ?_)))))))))
  refine Oq Vm (Osk (Osk (Osk (Osk (Oq Vpt (KS ?_))))))
  refine Kt (KS ?_)
  refine Oq Va (KS ?_)
  refine Jl [] (Ent.slNil (α := Int)) ?_
  have hq := q4 hrr ([] : List Int) (by simp only [r14_Dependents, h11, h16, h21, h23, hg9, hg19, cs4]); subst hq
  exact Kr (.slice none 0 0) rfl (.tmp rfl .nil) [0] en
 intro h21
 have h26 := not_false h21
 try (have hvs := (RefValid_iff s).1 (by simp only [h11, h16, h21, h26, hg9, hg19]); have hv3 := hvs.bl)
 try (have hcr := inside_dep hvs (l := cone) (by simp only [h11, h16, h21, h26, hg9, hg19]))
 refine Oq Vm (Oq (Vlen sl40) (Oq Vm (Oq (Vlen sl22) (Oq Vneq (Oq Vpf (Oq Vm ?_))))))
 refine Js 27 ?_ ?_
 ·intro h28
  have g29 := ne_of_bne h28
  refine Osk (Osk (Oq Vpt (Oq Vm (Osk (Osk (Osk (Osk (Oq Vpt (KS ?_)))))))))
  refine Kt (KS ?_)
  refine Oq Va (KS ?_)
  refine Jl [] (Ent.slNil (α := Int)) ?_
  have hq := q4 hrr ([] : List Int) (by simp only [r14_Dependents, h11, h16, h21, h26, h28, hg9, hg19, cs4]); subst hq
  exact Kr (.slice none 0 0) rfl (.tmp rfl .nil) [0] en
 intro h28
 have g30 := eq_of_bne_false h28
 refine Oq Vm (Oq Vlss (Oq Vpf (Oq Vm ?_)))
 refine Js 31 ?_ ?_
 ·intro h31
  have g32 := dt h31
  refine Osk (Osk (Osk (Osk (Oq Vpt (KS ?_)))))
  refine Kt (KS ?_)
  refine Oq Va (KS ?_)
  refine Jl [] (Ent.slNil (α := Int)) ?_
  have hq := q4 hrr ([] : List Int) (by simp only [r14_Dependents, h11, h16, h21, h26, h28, h31, hg9, hg19, cs4]); subst hq
  exact Kr (.slice none 0 0) rfl (.tmp rfl .nil) [0] en
 intro h31
 have g33 := df h31
 refine Oq Vm (Oq Vm (Oq (Vlen sl22) (Oq Vgeq (Oq Vpf (KS ?_)))))
 refine Kc ?_ ?_
 ·intro h34
  have g35 := dt h34
  refine KS ?_
  refine Oq Va (KS ?_)
  refine Jl [] (Ent.slNil (α := Int)) ?_
  have hq := q4 hrr ([] : List Int) (by simp only [r14_Dependents, h11, h16, h21, h26, h28, h31, h34, hg9, hg19, cs4]); subst hq
  exact Kr (.slice none 0 0) rfl (.tmp rfl .nil) [0] en
 intro h34
 have g36 := df h34
 refine KS ?_
 refine Oq Va (KS ?_)
 refine Jl [] (Ent.osNil (α := Int)) ?_
 refine Kl (γ := Nat × List Int × Int × Option Addr × Nat) (fun (r37, out_38, j_39, a40, k41) => ⟨[(1, vl conea0 conek0 cone), (2, vl leafa0 leafk0 leaf), (3, vi i), (4, p7), (9, vl a40 k41 out_38), (10, vi j_39)], [O a40 k41 out_38, pv p7 [vi s.Width, vl sa1 sk1 s.Deps, vl sa2 sk2 s.Transfers, vl sa3 sk3 s.Boundary], S sa1 sk1 s.Deps, S sa2 sk2 s.Transfers, S sa3 sk3 s.Boundary, S conea0 conek0 cone, S leafa0 leafk0 leaf], r14_Dependents_L0 s cone leaf i r37 out_38 j_39 = r14_Dependents_L0 s cone leaf i (((cone.length : Int) - 0).toNat) [] 0 ∧ r37 = ((cone.length : Int) - j_39).toNat ∧ (0 : Int) ≤ j_39 ∧ j_39 ≤ (cone.length : Int) ∧ (-9223372036854775808 ≤ j_39 ∧ j_39 ≤ 9223372036854775807) ∧ (out_38.length : Int) ≤ j_39, r37⟩) (((cone.length : Int) - 0).toNat, [], 0, none, 0) [0, 0, 1, 2, 3, 4, 5] ⟨rfl, rfl, aM1, aM1, aM1, iv0⟩ ?_
 rintro ⟨r37, out_38, j_39, a40, k41⟩ ⟨hM42, hr43, hi44, hi45, hk46, hv47⟩
 refine JJ_nx fun _ _ hL hA => ?_; dsimp only at hL hA; subst hL hA
 refine Fb 8 0 fun _ => Fo 0 fun ho49 => Fb 24 2 fun _ => Fb 88 3 fun _ => Fb 32 4 fun _ => Fb 8 5 fun _ => Fo 5 fun ho54 => Fb 1 6 fun _ => KS ?_
 refine Oq Vm (Oq Vm (Oq (Vlen sl22) (Oq Vlss (KS ?_))))
 refine Kc ?_ ?_
 ·intro h56
  have g57 := dt h56
  have hq := hcr _ (getD_mem (xs := cone) (i := j_39.toNat) (d := 0) aM1)
  obtain ⟨r58, rfl⟩ := scc (n := r37) aM1
  refine KS ?_
  refine bool_split (!(leaf.getD j_39.toNat false)) ?_ ?_
  ·intro h59
   have h61 := not_true h59
   refine JJ_peekL ((cone.getD j_39.toNat 0) : Int).toNat 2 rfl rng fun a63 k64 => ?_
   refine Fb 8 1 fun _ => Fo 1 fun ho66 => ?_
   refine JK_drawK [0, 0, 3, 7, 15, 31, 63, 127, 63, 63, 831, 1855, 4095, 8191, 63, 63, 49215, 114751, 262143, 524287] fmix ?_
   refine Dv [] Vm (Dv [] Vm (Dv [8] (Vi sl40 0) (Dv [8] (VldB sh4 0) (Db h59 [] Vnot (Dv [] Vm (Dv [3] (Vfa fo27_1 0) (Dv [3] (VldF sh23 0) (Dv [] Vm (Dv [] Vm ?_)))))))))
   refine Dv [7] (Vi sl22 0) ?_
   have hb67 := ok1 (i := j_39.toNat) ho54 rng
   refine Dv [7] (VldI sh3 0) (Dv [4] (Vi sl23 0) (Dv [0] (Vld sh22 0) (Dv [] Vm (Dv [] Vm (Dv [7] (Vi sl22 0) ?_)))))
   have hb68 := ok1 (i := i.toNat) ho54 rng
   refine Dv [7] (VldI sh3 0) ?_
   refine letv (r7_Has (s.Deps.getD ((cone.getD j_39.toNat 0) : Int).toNat []) (cone.getD i.toNat 0)) fun rv69 hg70 => ?_
   refine Dx [1] [] [1, 0] (fun G => vb rv69) [fun G => SP.fact (True)] (fun G => xC [0] ca25 (fn25 ((s.Deps.getD ((cone.getD j_39.toNat 0) : Int).toNat [])) a63 k64 ((cone.getD i.toNat 0)) pre rv69 hg70)) (Dv [] Vpt ?_)
   refine Dn ⟨by kernel_rfl, fun G => ?_⟩
   refine Jw2 [(1, vl conea0 conek0 cone), (2, vl leafa0 leafk0 leaf), (3, vi i), (4, p7), (9, vl a40 k41 out_38), (10, vi j_39), (62, vb rv69)] [0, 1, 2, 3, 4, 5, 6, 7, 8] [SP.fact (True)] ?_
   refine Jk [0, 1, 2, 2, 3, 4, 5, 6, 7] ?_
   refine Kc ?_ ?_
   ·intro h71
    try (have hvs := (RefValid_iff s).1 (by simp only [h11, h16, h21, h26, h28, h31, h34, h56, h59, h61, h71, hg9, hg19, hg70]); have hv3 := hvs.bl)
    try (have hcr := inside_dep hvs (l := cone) (by simp only [h11, h16, h21, h26, h28, h31, h34, h56, h59, h61, h71, hg9, hg19, hg70]))
    refine KS ?_
    refine Oq Vm (Oq Vm (Oa (AsV sl22 sz22 [vi j_39] [vi j_39]) fun c73 => ?_))
    refine Jo 0 ?_; rintro a74 k75 rfl
    refine Jl [0] (Ent.crInt _ [j_39] _ _ rfl rfl (by intro x hx; rw [List.mem_singleton] at hx; subst hx; unfold i64ok; omega) aB1) ?_
    refine Oa (ApO [3, 0] sl22 sl22 sz22) fun c76 => ?_
    refine Jo 0 ?_; rintro a77 k78 rfl
    refine Fb 8 0 fun _ => Fo 0 fun ho80 => ?_
    have hn81 := la out_38 ([j_39] : List Int)
    refine Oq Va (KS ?_)
    refine Oq Vm (Oq Vadd (Oq Va (KS ?_)))
    exact Kg (r58, (out_38 ++ [j_39]), (j_39 + 1), a77, k78) [0, 2, 3, 4, 5, 6, 7] ⟨(q3 hM42 (by simp only [r14_Dependents_L0, h56, h59, h61, h71, hg70, cs4])), aM1, aM1, aM1, aM1, iv1⟩
   intro h71
   refine KS ?_
   refine Oq Vm (Oq Vadd (Oq Va (KS ?_)))
   exact Kg (r58, out_38, (j_39 + 1), a40, k41) [2, 2, 3, 4, 5, 6, 7] ⟨(q3 hM42 (by simp only [r14_Dependents_L0, h56, h59, h61, h71, hg70, cs4])), aM1, aM1, aM1, aM1, iv1⟩
  intro h59
  have h84 := not_false h59
  refine Kq [0, 0, 3, 7, 15, 31, 63, 127, 63, 63, 831, 1855, 4095, 8191, 63, 63, 49215, 114751, 262143, 524287] fmix ?_
  refine Qv [] Vm (Qv [] Vm (Qv [6] (Vi sl40 0) (Qv [6] (VldB sh4 0) (Qb h59 [] Vnot (Qv [] Vm (Qs (Qs (Qs (Qs ?_)))))))))
  refine Qs (Qs (Qs (Qs (Qs (Qs (Qs (Qs (Qs (Qv [] Vpf ?_)))))))))
  refine Qn ⟨by kernel_rfl, ?_⟩
  refine Kf (KS ?_)
  refine Oq Vm (Oq Vadd (Oq Va (KS ?_)))
  exact Kg (r58, out_38, (j_39 + 1), a40, k41) [0, 0, 1, 2, 3, 4, 5] ⟨(q3 hM42 (by simp only [r14_Dependents_L0, h56, h59, h84, cs4])), aM1, aM1, aM1, aM1, iv1⟩
 intro h56
 have g86 := df h56
 obtain rfl : r37 = 0 := by omega
 refine Ke ?_
 have hR87 := q2 hM42 out_38 (by simp only [r14_Dependents_L0, h56, cs4])
 refine KS ?_
 refine Oq Vm (Oq Va (KS ?_))
 refine Jl [0] (Ent.freeze _ _) ?_
 have hq := q4 hrr out_38 (by simp only [r14_Dependents, h11, h16, h21, h26, h28, h31, h34, h56, hg9, hg19, hR87, cs4]); subst hq
 exact Kr (vl a40 k41 out_38) rfl (.tmp rfl .nil) [0] en
theorem fn16 (s : GSystem) (sa1 : Option Addr) (sk1 : Nat) (sa2 : Option Addr) (sk2 : Nat) (sa3 : Option Addr) (sk3 : Nat) (hs_0 : i64ok s.Width) (rr : Bool) (hrr : g_Huge s = rr) : FT Tryz.prog 16 #[.agg #[vi s.Width, vl sa1 sk1 s.Deps, vl sa2 sk2 s.Transfers, vl sa3 sk3 s.Boundary]] [S sa1 sk1 s.Deps, S sa2 sk2 s.Transfers, S sa3 sk3 s.Boundary] (fun g : Unit => True) (fun g => vb rr) (fun g => []) := by
 refine FTi Tryz.func16 fun w0 M0 F0 => ?_
 unfold i64ok at hs_0
 refine Fb 24 0 fun _ => Fb 88 1 fun _ => Fb 32 2 fun _ => KS ?_
 refine Oa (Ab [vi s.Width, vl sa1 sk1 s.Deps, vl sa2 sk2 s.Transfers, vl sa3 sk3 s.Boundary]) fun p4 => Oq Va (KS ?_)
 refine Oq (Vfa fo27_1 0) (Oq (VldF sh23 0) (Oq (Vlen sl23) (Oq Vgtr (Oq Vm ?_))))
 refine Js 9 ?_ ?_
 ·intro h5
  have g6 := dt h5
  refine Osk (Osk (Osk (Osk (Oq Vpt (Oq Vm (Osk (Osk (Osk (Osk ?_)))))))))
  refine Oq Vpt (Oq Vm (Osk (Osk (Osk (Oq Vpt (KS ?_))))))
  refine Kt (KS ?_)
  refine Oq Va (KS ?_)
  have hq := q4 hrr true (by simp only [g_Huge, h5, cs4]); subst hq
  exact Kr () rfl (.tmp rfl .nil) [] trivial
 intro h5
 have g7 := df h5
 refine Oq (Vfa fo27_2 0) (Oq (VldF sh24 0) (Oq (Vlen sl24) (Oq Vgtr (Oq Vpf (Oq Vm ?_)))))
 refine Js 15 ?_ ?_
 ·intro h8
  have g9 := dt h8
  refine Osk (Osk (Osk (Osk (Oq Vpt (Oq Vm (Osk (Osk (Osk (Oq Vpt ?_)))))))))
  refine KS ?_
  refine Kt (KS ?_)
  refine Oq Va (KS ?_)
  have hq := q4 hrr true (by simp only [g_Huge, h5, h8, cs4]); subst hq
  exact Kr () rfl (.tmp rfl .nil) [] trivial
 intro h8
 have g10 := df h8
 refine Oq (Vfa fo27_3 0) (Oq (VldF sh25 0) (Oq (Vlen sl25) (Oq Vgtr (Oq Vpf (Oq Vm ?_)))))
 refine Js 21 ?_ ?_
 ·intro h11
  have g12 := dt h11
  refine Osk (Osk (Osk (Oq Vpt (KS ?_))))
  refine Kt (KS ?_)
  refine Oq Va (KS ?_)
  have hq := q4 hrr true (by simp only [g_Huge, h5, h8, h11, cs4]); subst hq
  exact Kr () rfl (.tmp rfl .nil) [] trivial
 intro h11
 have g13 := df h11
 refine Oq (Vfa fo27_0 0) (Oq (VldF sh3 0) (Oq Vgtr (Oq Vpf (KS ?_))))
 refine Kc ?_ ?_
 ·intro h14
  have g15 := dt h14
  refine KS ?_
  refine Oq Va (KS ?_)
  have hq := q4 hrr true (by simp only [g_Huge, h5, h8, h11, h14, cs4]); subst hq
  exact Kr () rfl (.tmp rfl .nil) [] trivial
 intro h14
 have g16 := df h14
 refine KS ?_
 refine Oq Va (KS ?_)
 refine Kl (γ := Nat × Int) (fun (r17, i_18) => ⟨[(1, p4), (3, vi i_18)], [pv p4 [vi s.Width, vl sa1 sk1 s.Deps, vl sa2 sk2 s.Transfers, vl sa3 sk3 s.Boundary], S sa1 sk1 s.Deps, S sa2 sk2 s.Transfers, S sa3 sk3 s.Boundary], g_Huge_L0 s r17 i_18 = g_Huge_L0 s (((s.Deps.length : Int) - 0).toNat) 0 ∧ r17 = ((s.Deps.length : Int) - i_18).toNat ∧ (0 : Int) ≤ i_18 ∧ i_18 ≤ (s.Deps.length : Int) ∧ (-9223372036854775808 ≤ i_18 ∧ i_18 ≤ 9223372036854775807), r17⟩) (((s.Deps.length : Int) - 0).toNat, 0) [0, 1, 2, 3] ⟨rfl, rfl, aM1, aM1, aM1⟩ ?_
 rintro ⟨r17, i_18⟩ ⟨hM19, hr20, hi21, hi22, hk23⟩
 refine JJ_nx fun _ _ hL hA => ?_; dsimp only at hL hA; subst hL hA
 refine Fb 24 1 fun _ => Fb 88 2 fun _ => Fb 32 3 fun _ => KS ?_
 refine Oq Vm (Oq (Vfa fo27_1 0) (Oq (VldF sh23 0) (Oq (Vlen sl23) (Oq Vlss (KS ?_)))))
 refine Kc ?_ ?_
 ·intro h27
  have g28 := dt h27
  obtain ⟨r29, rfl⟩ := scc (n := r17) aM1
  refine KS ?_
  refine Oq (Vfa fo27_1 0) (Oq (VldF sh23 0) (Oq Vm (Oq (Vi sl23 1) ?_)))
  refine JJ_peekL i_18.toNat 1 rfl rng fun a30 k31 => ?_
  refine Fb 8 1 fun _ => Fo 1 fun ho33 => ?_
  refine Oq (Vld sh22 0) (Oq (Vlen sl22) (Oq Vgtr (KS ?_)))
  refine Kc ?_ ?_
  ·intro h34
   have g35 := dt h34
   refine KS ?_
   refine Oq Va (KS ?_)
   have hR36 := q2 hM19 (.ret true) (by simp only [g_Huge_L0, h27, h34, cs4])
   have hq := q4 hrr true (by simp only [g_Huge, h5, h8, h11, h14, h27, h34, hR36, cs4]); subst hq
   exact Kr () rfl (.tmp rfl .nil) [] trivial
  intro h34
  have g37 := df h34
  refine KS ?_
  refine Oq Vm (Oq Vadd (Oq Va (KS ?_)))
  exact Kg (r29, (i_18 + 1)) [2, 3, 4, 5] ⟨(q3 hM19 (by simp only [g_Huge_L0, h27, h34, cs4])), aM1, aM1, aM1, aM1⟩
 intro h27
 have g38 := df h27
 obtain rfl : r17 = 0 := by omega
 refine Ke ?_
 have hR39 := q2 hM19 (.brk ()) (by simp only [g_Huge_L0, h27, cs4])
 refine KS ?_
 refine Oq Va (KS ?_)
 refine Kl (γ := Nat × Int) (fun (r40, i_41) => ⟨[(1, p4), (4, vi i_41)], [pv p4 [vi s.Width, vl sa1 sk1 s.Deps, vl sa2 sk2 s.Transfers, vl sa3 sk3 s.Boundary], S sa1 sk1 s.Deps, S sa2 sk2 s.Transfers, S sa3 sk3 s.Boundary], g_Huge_L1 s r40 i_41 = g_Huge_L1 s (((s.Transfers.length : Int) - 0).toNat) 0 ∧ r40 = ((s.Transfers.length : Int) - i_41).toNat ∧ (0 : Int) ≤ i_41 ∧ i_41 ≤ (s.Transfers.length : Int) ∧ (-9223372036854775808 ≤ i_41 ∧ i_41 ≤ 9223372036854775807), r40⟩) (((s.Transfers.length : Int) - 0).toNat, 0) [0, 1, 2, 3] ⟨rfl, rfl, aM1, aM1, aM1⟩ ?_
 rintro ⟨r40, i_41⟩ ⟨hM42, hr43, hi44, hi45, hk46⟩
 refine JJ_nx fun _ _ hL hA => ?_; dsimp only at hL hA; subst hL hA
 refine Fb 24 1 fun _ => Fb 88 2 fun _ => Fb 32 3 fun _ => KS ?_
 refine Oq Vm (Oq (Vfa fo27_2 0) (Oq (VldF sh24 0) (Oq (Vlen sl24) (Oq Vlss (KS ?_)))))
 refine Kc ?_ ?_
 ·intro h50
  have g51 := dt h50
  obtain ⟨r52, rfl⟩ := scc (n := r40) aM1
  refine KS ?_
  refine Oq (Vfa fo27_2 0) (Oq (VldF sh24 0) (Oq Vm (Oq (Vi sl24 2) ?_)))
  refine JJ_peek_GTransfer i_41.toNat 2 rfl rng fun a53 k54 a55 k56 a57 k58 hb59 hb60 => ?_
  unfold i64ok at hb59 hb60
  refine Fb 8 1 fun _ => Fb 8 2 fun _ => Fb 16 3 fun _ => ?_
  refine Oq (Vfa fo57_2 0) (Oq (VldF sh55 0) (Oq (Vlen sl55) (Oq Vgtr (KS ?_))))
  refine Kc ?_ ?_
  ·intro h64
   have g65 := dt h64
   refine KS ?_
   refine Oq Va (KS ?_)
   have hR66 := q2 hM42 (.ret true) (by simp only [g_Huge_L1, h50, h64, cs4])
   have hq := q4 hrr true (by simp only [g_Huge, h5, h8, h11, h14, h27, h50, h64, hR39, hR66, cs4]); subst hq
   exact Kr () rfl (.tmp rfl .nil) [] trivial
  intro h64
  have g67 := df h64
  refine KS ?_
  refine Oq Vm (Oq Vadd (Oq Va (KS ?_)))
  exact Kg (r52, (i_41 + 1)) [4, 5, 6, 7] ⟨(q3 hM42 (by simp only [g_Huge_L1, h50, h64, cs4])), aM1, aM1, aM1, aM1⟩
 intro h50
 have g68 := df h50
 obtain rfl : r40 = 0 := by omega
 refine Ke ?_
 have hR69 := q2 hM42 (.brk ()) (by simp only [g_Huge_L1, h50, cs4])
 refine KS ?_
 refine Oq Va (KS ?_)
 have hq := q4 hrr false (by simp only [g_Huge, h5, h8, h11, h14, h27, h50, hR39, hR69, cs4]); subst hq
 exact Kr () rfl (.tmp rfl .nil) [] trivial
theorem fn74 (s : List Int) (sa0 : Option Addr) (sk0 : Nat) (rr : List Int) (hrr : sc_Clip_int s = rr) : FT Tryz.prog 74 #[vl sa0 sk0 s] [S sa0 sk0 s] (fun g : Value => (rr.length = s.length)) (fun g => g) (fun g => [sl g rr]) := by
 refine FTi Tryz.func74 fun w0 M0 F0 => Fb 8 0 fun _ => Fo 0 fun ho2 => ?_
 refine KS ?_
 refine Oq Va (KS ?_)
 refine Oq Vm (Oq Vm (Oq (Vlen sl22) (Oq Vm (Oq (Vlen sl22) (Oa (OpA.frame [0] rfl (OpA.sliceSl3 0 ((s.length : Int).toNat) ((s.length : Int).toNat) rfl rfl sl22 rfl rfl ⟨_, natc rfl aM1⟩ ⟨_, natc rfl aM1⟩ rng rng rng rng)) fun c3 => ?_)))))
 refine Jo 0 ?_; rintro a4 k5 rfl
 refine Fb 8 0 fun _ => Fo 0 fun ho7 => ?_
 have hn8 : ((s.take ((s.length : Int).toNat)).drop 0).length = ((s.length : Int).toNat) - 0 := len_slice rng rng
 refine Oq Va (KS ?_)
 have hq := q4 hrr ((s.take ((s.length : Int).toNat)).drop 0) (by simp only [sc_Clip_int, cs4]); subst hq
 exact Kr (.slice a4 (((s.take ((s.length : Int).toNat)).drop 0).length) k5) rfl (.tmp rfl .nil) [0] (by rw [← hrr]; unfold sc_Clip_int; simp)
end Go.SL.G
