/- Part 4 of the walks: mirrors, plain laws and walks used by the last text of this claim. -/
import Derived.Test.YtfoejhjfcegngaaGreatW3
import Derived.Test.YtfoejhjfcegngaaGreatProg
set_option linter.unusedVariables false
set_option linter.unusedSimpArgs false
namespace Go.SL.G
open Go Go.SL Go.Proofs
set_option maxHeartbeats 20000000
set_option maxRecDepth 100000
theorem fn212 (a : GCopy) (b : GCopy) (ha_0 : i64ok a.From) (ha_1 : i64ok a.To) (hb_0 : i64ok b.From) (hb_1 : i64ok b.To) (rr : Int) (hrr : transfer_compare a b = rr) : FT Tryz.prog 212 #[.agg #[vi a.From, vi a.To], .agg #[vi b.From, vi b.To]] [] (fun g : Unit => i64ok rr) (fun g => vi rr) (fun g => []) := by
 refine FTi Tryz.func212 fun w0 M0 F0 => ?_
 unfold i64ok at ha_0 ha_1 hb_0 hb_1
 refine KS ?_
 refine Oa (Ab [vi a.From, vi a.To]) fun p1 => Oa (Ab [vi b.From, vi b.To]) fun p2 => Oq Va (KS ?_)
 refine JK_drawK [0, 1, 0, 4, 15, 0, 32, 0, 128, 511, 1023, 2047, 4095] fmix ?_
 refine Dv [1] (Vfa fo147_0 0) (Dv [1] (VldF sh3 0) (Dv [0] (Vfa fo147_0 0) (Dv [0] (VldF sh3 0) ?_)))
 refine letv (cmp_Compare_int a.From b.From) fun rv3 hg4 => ?_
 refine Dx [] [] [0] (fun G => vi rv3) [fun G => SP.fact (i64ok rv3)] (fun G => xC [] ca148 (fn148 a.From b.From pre pre rv3 hg4)) (Dv [1] (Vfa fo147_1 0) (Dv [1] (VldF sh3 0) (Dv [0] (Vfa fo147_1 0) (Dv [0] (VldF sh3 0) ?_))))
 refine letv (cmp_Compare_int a.To b.To) fun rv5 hg6 => ?_
 refine Dx [2] [] [1, 0] (fun G => vi rv5) [fun G => SP.fact (i64ok rv5)] (fun G => by refine xf 0 rfl ?_; rintro he7; unfold i64ok at he7; exact xC [] ca148 (fn148 a.To b.To pre pre rv5 hg6)) (Dx [] [] [0] (fun G => (G.g 10 0)) [fun G => Cr (G.g 10 0) 2 [vi rv3, vi rv5]] (fun G => xA (AsV sl22 sz22 [vi rv3, vi rv5] [vi rv3, vi rv5])) ?_)
 refine letv (cmp_Or_int [rv3, rv5]) fun rv12 hg13 => ?_
 refine Dx [2, 3, 4] [4] [2, 3, 1, 0] (fun G => vi rv12) [fun G => sl (G.g 10 0) ([rv3, rv5] : List Int), fun G => SP.fact (i64ok rv12)] (fun G => by refine xf 0 rfl ?_; rintro he14; unfold i64ok at he14; refine xf 1 rfl ?_; rintro he15; unfold i64ok at he15; exact xp [2] rfl (Ent.crInt _ [rv3, rv5] _ _ rfl rfl (by intro x hx; simp only [List.mem_cons, List.not_mem_nil, or_false] at hx; rcases hx with rfl | rfl <;> (unfold i64ok; omega)) (Nat.le_of_ble_eq_true rfl)) (xp [0] rfl (Ent.freeze _ _) (xD [0] ca259 rfl rfl rfl (FT_open (γ := Unit) (I := fun g => i64ok rv12) (V := fun g => vi rv12) (B := fun g => []) (R := sl (G.g 10 0) ([rv3, rv5] : List Int)) sl_slice (fun aq9 kq10 eq11 => by rw [eq11]; exact FT_ent (Ent.take (is := [0]) rfl) (fn259 ([rv3, rv5]) aq9 kq10 rv12 hg13)))))) (Dv [] Va ?_)
 refine Dn ⟨by kernel_rfl, fun G => ?_⟩
 refine Jw2 [(4, vi rv12)] [0, 1] [SP.fact (i64ok rv3), SP.fact (i64ok rv5), sl (G.g 10 0) ([rv3, rv5] : List Int), SP.fact (i64ok rv12)] ?_
 generalize G.g 10 0 = c8
 refine Jf 2 rfl ?_; rintro he16
 unfold i64ok at he16
 refine Jf 3 rfl ?_; rintro he17
 unfold i64ok at he17
 refine Jf 5 rfl ?_; rintro he18
 unfold i64ok at he18
 refine Jk [0, 1, 4] ?_
 refine Jo 2 ?_; rintro a19 k20 rfl
 refine Fb 8 2 fun _ => Fo 2 fun ho22 => ?_
 have hq := q4 hrr rv12 (by simp only [transfer_compare, hg4, hg6, hg13, cs4]); subst hq
 exact Kr () rfl (.tmp rfl .nil) [] en
theorem fn156 (t : GTransfer) (ta1 : Option Addr) (tk1 : Nat) (ta3 : Option Addr) (tk3 : Nat) (ta4 : Option Addr) (tk4 : Nat) (ht_0 : i64ok t.Gen.Width) (ht_2 : i64ok t.Kill.Width) (rr : Bool) (hrr : transfer_Valid t = rr) : FT Tryz.prog 156 #[.agg #[vi t.Gen.Width, vl ta1 tk1 t.Gen.Words, vi t.Kill.Width, vl ta3 tk3 t.Kill.Words, vl ta4 tk4 t.Copies]] [S ta1 tk1 t.Gen.Words, S ta3 tk3 t.Kill.Words, S ta4 tk4 t.Copies] (fun g : Unit => True) (fun g => vb rr) (fun g => []) := by
 refine FTi Tryz.func156 fun w0 M0 F0 => ?_
 unfold i64ok at ht_0 ht_2
 refine Fb 8 0 fun _ => Fb 8 1 fun _ => Fb 16 2 fun _ => KS ?_
 refine Oa (Ab [vi t.Gen.Width, vl ta1 tk1 t.Gen.Words, vi t.Kill.Width, vl ta3 tk3 t.Kill.Words, vl ta4 tk4 t.Copies]) fun p4 => Oq Va (KS ?_)
 refine Oq (Vfa fo98_0 0) (Oq (VldG sh42 0 [vi t.Gen.Width, vl ta1 tk1 t.Gen.Words]) ?_)
 refine letv (bitset_Valid t.Gen) fun rv5 hg6 => ?_
 have hc7 := fn123 t.Gen ta1 tk1 pre rv5 hg6
 refine Oc [1] ca123 hc7 ?_
 rintro - -
 refine Oq Vnot (Oq Vm ?_)
 refine Js 9 ?_ ?_
 ·intro h8
  have h10 := not_true h8
  refine Osk (Osk (Osk (Osk (Oq Vpt (Oq Vm (Osk (Osk (Osk (Osk ?_)))))))))
  refine Osk (Osk (Osk (Oq Vpt (Oq Vm (Osk (Osk (Osk (Osk (Oq Vpt ?_)))))))))
  refine KS ?_
  refine Kt (KS ?_)
  refine Oq Va (KS ?_)
  have hq := q4 hrr false (by simp only [transfer_Valid, h8, h10, hg6, cs4]); subst hq
  exact Kr () rfl (.tmp rfl .nil) [] trivial
 intro h8
 have h13 := not_false h8
 refine Oq (Vfa fo98_1 0) (Oq (VldG sh42 0 [vi t.Kill.Width, vl ta3 tk3 t.Kill.Words]) ?_)
 refine letv (bitset_Valid t.Kill) fun rv15 hg16 => ?_
 have hc17 := fn123 t.Kill ta3 tk3 pre rv15 hg16
 refine Oc [2] ca123 hc17 ?_
 rintro - -
 refine Oq Vnot (Oq Vpf (Oq Vm ?_))
 refine Js 15 ?_ ?_
 ·intro h18
  have h20 := not_true h18
  refine Osk (Osk (Osk (Osk (Osk (Osk (Osk (Oq Vpt (Oq Vm (Osk ?_)))))))))
  refine Osk (Osk (Osk (Oq Vpt (KS ?_))))
  refine Kt (KS ?_)
  refine Oq Va (KS ?_)
  have hq := q4 hrr false (by simp only [transfer_Valid, h8, h13, h18, h20, hg6, hg16, cs4]); subst hq
  exact Kr () rfl (.tmp rfl .nil) [] trivial
 intro h18
 have h23 := not_false h18
 refine Oq (Vfa fo98_0 0) (Oq (VfaF fo42_0 0) (Oq (VldF sh3 0) (Oq (Vfa fo98_1 0) (Oq (VfaF fo42_0 0) (Oq (VldF sh3 0) (Oq Vneq (Oq Vpf (Oq Vm ?_))))))))
 refine Js 24 ?_ ?_
 ·intro h25
  have g26 := ne_of_bne h25
  refine Osk (Osk (Osk (Osk (Oq Vpt (KS ?_)))))
  refine Kt (KS ?_)
  refine Oq Va (KS ?_)
  have hq := q4 hrr false (by simp only [transfer_Valid, h8, h13, h18, h23, h25, hg6, hg16, cs4]); subst hq
  exact Kr () rfl (.tmp rfl .nil) [] trivial
 intro h25
 have g27 := eq_of_bne_false h25
 refine Oq (Vfa fo98_2 0) (Oq (VldF sh96 0) (Oq (Vlen sl96) (Oq Vgtr (Oq Vpf (KS ?_)))))
 refine Kc ?_ ?_
 ·intro h28
  have g29 := dt h28
  refine KS ?_
  refine Oq Va (KS ?_)
  have hq := q4 hrr false (by simp only [transfer_Valid, h8, h13, h18, h23, h25, h28, hg6, hg16, cs4]); subst hq
  exact Kr () rfl (.tmp rfl .nil) [] trivial
 intro h28
 have g30 := df h28
 refine KS ?_
 refine Oq (Vfa fo98_2 0) (Oq (VldF sh96 0) (Oq (Vlen sl96) (Oq Vm (KS ?_))))
 refine Kl (γ := Nat × Int) (fun (r31, v33_32) => ⟨[(1, p4), (31, vl ta4 tk4 t.Copies), (32, vi (t.Copies.length : Int)), (33, vi v33_32)], [pv p4 [vi t.Gen.Width, vl ta1 tk1 t.Gen.Words, vi t.Kill.Width, vl ta3 tk3 t.Kill.Words, vl ta4 tk4 t.Copies], S ta1 tk1 t.Gen.Words, S ta3 tk3 t.Kill.Words, S ta4 tk4 t.Copies], transfer_Valid_L0 t r31 v33_32 = transfer_Valid_L0 t (((t.Copies.length : Int) - 0).toNat) 0 ∧ r31 = ((t.Copies.length : Int) - v33_32).toNat ∧ (0 : Int) ≤ v33_32 ∧ v33_32 ≤ (t.Copies.length : Int) ∧ (-9223372036854775808 ≤ v33_32 ∧ v33_32 ≤ 9223372036854775807), r31⟩) (((t.Copies.length : Int) - 0).toNat, 0) [0, 1, 2, 3] ⟨rfl, rfl, (by omega), (by omega), (by omega)⟩ ?_
 rintro ⟨r31, v33_32⟩ ⟨hM33, hr34, hi35, hi36, hk37⟩
 refine JJ_nx fun _ _ hL hA => ?_; dsimp only at hL hA; subst hL hA
 refine Fb 8 1 fun _ => Fb 8 2 fun _ => Fb 16 3 fun _ => KS ?_
 refine Oq Vlss (KS ?_)
 refine Kc ?_ ?_
 ·intro h41
  have g42 := dt h41
  obtain ⟨r43, rfl⟩ := scc (n := r31) (by omega)
  refine KS ?_
  refine Oq Vm (Oq (Vi sl96 3) ?_)
  refine JJ_peek_GCopy v33_32.toNat 3 rfl rng fun hb44 hb45 => ?_
  unfold i64ok at hb44 hb45
  refine Oq (VldA sh147 0) (Oa (Al ze147 [vi 0, vi 0]) fun p46 => Oq Va (Ost (Scl [0] sh147 [vi ((t.Copies.getD v33_32.toNat default).From), vi ((t.Copies.getD v33_32.toNat default).To)]) (KS ?_)))
  refine Jp 0 fun hp47 => ?_
  refine letv (transfer_bit t ((t.Copies.getD v33_32.toNat default).From)) fun rv48 hg49 => ?_
  refine bool_split (!rv48) ?_ ?_
  ·intro h50
   have h52 := not_true h50
   refine JK_drawK [0, 0, 2, 7, 15, 31, 63, 63, 191, 511, 1023, 2047, 4095, 8191, 16383, 32767, 65535, 131071, 65535, 327679, 1048575, 2097151, 65535, 8388607, 16777215, 33554431, 67108863] fmix ?_
   refine Dv [3] (VldA sh98 0) (Dv [0] (Vfa fo147_0 0) (Dv [1] (VldF sh3 0) (Dx [4, 5, 6] [] [1, 2, 3, 0] (fun G => vb rv48) [fun G => SP.fact (True)] (fun G => xC [0, 1, 2] ca157 (fn157 t ta1 tk1 ta3 tk3 ta4 tk4 ((t.Copies.getD v33_32.toNat default).From) pre pre pre rv48 hg49)) (Db h50 [] Vnot (Dv [] Vm (Ds (Ds (Ds (Ds ?_)))))))))
   refine Ds (Dv [] Vpt (Dv [] Vm (Ds (Ds (Ds (Ds (Ds (Ds (Ds ?_)))))))))
   refine Ds (Ds (Ds (Ds (Ds (Ds (Dv [] Vpt ?_))))))
   refine Dn ⟨by kernel_rfl, fun G => ?_⟩
   refine Jw2 [(1, p4), (31, vl ta4 tk4 t.Copies), (32, vi (t.Copies.length : Int)), (33, vi v33_32), (64, vb true)] [0, 1, 2, 3, 4, 5, 6] [SP.fact (True)] ?_
   refine Jk [1, 1, 2, 3, 4, 5] (Kt ?_)
   refine KS ?_
   refine Oq Va (KS ?_)
   have hR54 := q2 hM33 (.ret false) (by simp only [transfer_Valid_L0, h8, h13, h18, h23, h25, h28, h41, h50, h52, hg6, hg16, hg49, cs4])
   have hq := q4 hrr false (by simp only [transfer_Valid, h8, h13, h18, h23, h25, h28, h41, h50, h52, hg6, hg16, hg49, hR54, cs4]); subst hq
   exact Kr () rfl (.tmp rfl .nil) [] trivial
  intro h50
  have h56 := not_false h50
  refine letv (transfer_bit t ((t.Copies.getD v33_32.toNat default).To)) fun rv58 hg59 => ?_
  refine bool_split (!rv58) ?_ ?_
  ·intro h60
   have h62 := not_true h60
   refine JK_drawK [0, 0, 2, 7, 15, 31, 63, 63, 191, 511, 1023, 2047, 4095, 8191, 16383, 32767, 65535, 131071, 65535, 327679, 1048575, 2097151, 65535, 8388607, 16777215, 33554431, 67108863] fmix ?_
   refine Dv [3] (VldA sh98 0) (Dv [0] (Vfa fo147_0 0) (Dv [1] (VldF sh3 0) (Dx [4, 5, 6] [] [1, 2, 3, 0] (fun G => vb rv48) [fun G => SP.fact (True)] (fun G => xC [0, 1, 2] ca157 (fn157 t ta1 tk1 ta3 tk3 ta4 tk4 ((t.Copies.getD v33_32.toNat default).From) pre pre pre rv48 hg49)) (Db h50 [] Vnot (Dv [] Vm (Dv [3] (VldA sh98 0) (Dv [0] (Vfa fo147_1 0) (Dv [1] (VldF sh3 0) (Dx [4, 5, 6] [] [1, 2, 3, 0] (fun G => vb rv58) [fun G => SP.fact (True)] (fun G => xC [0, 1, 2] ca157 (fn157 t ta1 tk1 ta3 tk3 ta4 tk4 ((t.Copies.getD v33_32.toNat default).To) pre pre pre rv58 hg59)) ?_)))))))))
   refine Db h60 [] Vnot (Dv [] Vpf (Dv [] Vm (Ds (Ds (Ds (Ds (Ds (Ds (Ds ?_)))))))))
   refine Ds (Ds (Ds (Ds (Ds (Ds (Dv [] Vpt ?_))))))
   refine Dn ⟨by kernel_rfl, fun G => ?_⟩
   refine Jw2 [(1, p4), (31, vl ta4 tk4 t.Copies), (32, vi (t.Copies.length : Int)), (33, vi v33_32), (64, vb true)] [0, 1, 2, 3, 4, 5, 6] [SP.fact (True), SP.fact (True)] ?_
   refine Jk [1, 1, 2, 3, 4, 5] (Kt ?_)
   refine KS ?_
   refine Oq Va (KS ?_)
   have hR64 := q2 hM33 (.ret false) (by simp only [transfer_Valid_L0, h8, h13, h18, h23, h25, h28, h41, h50, h56, h60, h62, hg6, hg16, hg49, hg59, cs4])
   have hq := q4 hrr false (by simp only [transfer_Valid, h8, h13, h18, h23, h25, h28, h41, h50, h56, h60, h62, hg6, hg16, hg49, hg59, hR64, cs4]); subst hq
   exact Kr () rfl (.tmp rfl .nil) [] trivial
  intro h60
  have h66 := not_false h60
  refine bool_split (decide (0 < v33_32)) ?_ ?_
  ·intro h68
   have g69 := dt h68
   refine JJ_peek_GCopy ((v33_32 - 1) : Int).toNat 6 rfl rng fun hb70 hb71 => ?_
   unfold i64ok at hb70 hb71
   refine JK_drawK [0, 0, 2, 7, 15, 31, 63, 63, 191, 511, 1023, 2047, 4095, 8191, 16383, 32767, 65535, 131071, 65535, 327679, 1048575, 2097151, 65535, 8388607, 16777215, 33554431, 67108863] fmix ?_
   refine Dv [4] (VldA sh98 0) (Dv [1] (Vfa fo147_0 0) (Dv [2] (VldF sh3 0) (Dx [5, 6, 7] [] [1, 2, 3, 0] (fun G => vb rv48) [fun G => SP.fact (True)] (fun G => xC [0, 1, 2] ca157 (fn157 t ta1 tk1 ta3 tk3 ta4 tk4 ((t.Copies.getD v33_32.toNat default).From) pre pre pre rv48 hg49)) (Db h50 [] Vnot (Dv [] Vm (Dv [4] (VldA sh98 0) (Dv [1] (Vfa fo147_1 0) (Dv [2] (VldF sh3 0) (Dx [5, 6, 7] [] [1, 2, 3, 0] (fun G => vb rv58) [fun G => SP.fact (True)] (fun G => xC [0, 1, 2] ca157 (fn157 t ta1 tk1 ta3 tk3 ta4 tk4 ((t.Copies.getD v33_32.toNat default).To) pre pre pre rv58 hg59)) ?_)))))))))
   refine Db h60 [] Vnot (Dv [] Vpf (Dv [] Vm (Dv [] Vm (Db h68 [] Vgtr (Dv [] Vm (Dv [4] (Vfa fo98_2 0) (Dv [4] (VldF sh96 0) (Dv [] Vm (Dv [] Vsub ?_)))))))))
   refine Dv [7] (Vi sl96 0) (Dv [0] (VldA sh147 0) (Dv [2] (VldA sh147 0) ?_))
   refine letv (transfer_compare (t.Copies.getD ((v33_32 - 1) : Int).toNat default) (t.Copies.getD v33_32.toNat default)) fun rv72 hg73 => ?_
   refine Dx [] [] [0] (fun G => vi rv72) [fun G => SP.fact (i64ok rv72)] (fun G => xC [] ca212 (fn212 ((t.Copies.getD ((v33_32 - 1) : Int).toNat default)) ((t.Copies.getD v33_32.toNat default)) pre pre pre pre rv72 hg73)) (Dv [] Vgeq (Dv [] Vpt (Dv [] Vpf ?_)))
   refine Dn ⟨by kernel_rfl, fun G => ?_⟩
   refine Jw2 [(1, p4), (31, vl ta4 tk4 t.Copies), (32, vi (t.Copies.length : Int)), (33, vi v33_32), (64, vb (decide (0 ≤ rv72)))] [0, 1, 2, 3, 4, 5, 6, 7] [SP.fact (True), SP.fact (True), SP.fact (i64ok rv72)] ?_
   refine Jf 10 rfl ?_; rintro he74
   unfold i64ok at he74
   refine Jk [0, 2, 2, 3, 4, 5, 6] ?_
   refine Kc ?_ ?_
   ·intro h75
    have g76 := dt h75
    refine KS ?_
    refine Oq Va (KS ?_)
    have hR77 := q2 hM33 (.ret false) (by simp only [transfer_Valid_L0, h8, h13, h18, h23, h25, h28, h41, h50, h56, h60, h66, h68, h75, hg6, hg16, hg49, hg59, hg73, cs4])
    have hq := q4 hrr false (by simp only [transfer_Valid, h8, h13, h18, h23, h25, h28, h41, h50, h56, h60, h66, h68, h75, hg6, hg16, hg49, hg59, hg73, hR77, cs4]); subst hq
    exact Kr () rfl (.tmp rfl .nil) [] trivial
   intro h75
   have g78 := df h75
   refine KS ?_
   refine Oq Vadd (Oq Vm (KS ?_))
   exact Kg (r43, (v33_32 + 1)) [3, 4, 5, 6] ⟨(q3 hM33 (by simp only [transfer_Valid_L0, h8, h13, h18, h23, h25, h28, h41, h50, h56, h60, h66, h68, h75, hg6, hg16, hg49, hg59, hg73, cs4])), (by omega), (by omega), (by omega), (by omega)⟩
  intro h68
  have g79 := df h68
  refine JK_drawK [0, 0, 2, 7, 15, 31, 63, 63, 191, 511, 1023, 2047, 4095, 8191, 16383, 32767, 65535, 131071, 65535, 327679, 1048575, 2097151, 65535, 8388607, 16777215, 33554431, 67108863] fmix ?_
  refine Dv [3] (VldA sh98 0) (Dv [0] (Vfa fo147_0 0) (Dv [1] (VldF sh3 0) (Dx [4, 5, 6] [] [1, 2, 3, 0] (fun G => vb rv48) [fun G => SP.fact (True)] (fun G => xC [0, 1, 2] ca157 (fn157 t ta1 tk1 ta3 tk3 ta4 tk4 ((t.Copies.getD v33_32.toNat default).From) pre pre pre rv48 hg49)) (Db h50 [] Vnot (Dv [] Vm (Dv [3] (VldA sh98 0) (Dv [0] (Vfa fo147_1 0) (Dv [1] (VldF sh3 0) (Dx [4, 5, 6] [] [1, 2, 3, 0] (fun G => vb rv58) [fun G => SP.fact (True)] (fun G => xC [0, 1, 2] ca157 (fn157 t ta1 tk1 ta3 tk3 ta4 tk4 ((t.Copies.getD v33_32.toNat default).To) pre pre pre rv58 hg59)) ?_)))))))))
  refine Db h60 [] Vnot (Dv [] Vpf (Dv [] Vm (Dv [] Vm (Db h68 [] Vgtr (Dv [] Vm (Ds (Ds (Ds (Ds ?_)))))))))
  refine Ds (Ds (Ds (Ds (Ds (Dv [] Vpf (Dv [] Vpf ?_))))))
  refine Dn ⟨by kernel_rfl, fun G => ?_⟩
  refine Jw2 [(1, p4), (31, vl ta4 tk4 t.Copies), (32, vi (t.Copies.length : Int)), (33, vi v33_32), (64, vb false)] [0, 1, 2, 3, 4, 5, 6] [SP.fact (True), SP.fact (True)] ?_
  refine Jk [1, 1, 2, 3, 4, 5] (Kf ?_)
  refine KS ?_
  refine Oq Vadd (Oq Vm (KS ?_))
  exact Kg (r43, (v33_32 + 1)) [2, 3, 4, 5] ⟨(q3 hM33 (by simp only [transfer_Valid_L0, h8, h13, h18, h23, h25, h28, h41, h50, h56, h60, h66, h68, hg6, hg16, hg49, hg59, cs4])), (by omega), (by omega), (by omega), (by omega)⟩
 intro h41
 have g80 := df h41
 obtain rfl : r31 = 0 := by omega
 refine Ke ?_
 have hR81 := q2 hM33 (.brk ()) (by simp only [transfer_Valid_L0, h8, h13, h18, h23, h25, h28, h41, hg6, hg16, cs4])
 refine KS ?_
 refine Oq Va (KS ?_)
 have hq := q4 hrr true (by simp only [transfer_Valid, h8, h13, h18, h23, h25, h28, h41, hg6, hg16, hR81, cs4]); subst hq
 exact Kr () rfl (.tmp rfl .nil) [] trivial
theorem fn190 (width : Int) (f : GTransfer) (fa1 : Option Addr) (fk1 : Nat) (fa3 : Option Addr) (fk3 : Nat) (fa4 : Option Addr) (fk4 : Nat) (hwidth_0 : i64ok width) (hf_0 : i64ok f.Gen.Width) (hf_2 : i64ok f.Kill.Width) (rr : Bool) (hrr : equations_fits width f = rr) : FT Tryz.prog 190 #[vi width, .agg #[vi f.Gen.Width, vl fa1 fk1 f.Gen.Words, vi f.Kill.Width, vl fa3 fk3 f.Kill.Words, vl fa4 fk4 f.Copies]] [S fa1 fk1 f.Gen.Words, S fa3 fk3 f.Kill.Words, S fa4 fk4 f.Copies] (fun g : Unit => True) (fun g => vb rr) (fun g => []) := by
 refine FTi Tryz.func190 fun w0 M0 F0 => ?_
 unfold i64ok at hwidth_0 hf_0 hf_2
 refine Fb 8 0 fun _ => Fb 8 1 fun _ => Fb 16 2 fun _ => KS ?_
 refine Oa (Ab [vi f.Gen.Width, vl fa1 fk1 f.Gen.Words, vi f.Kill.Width, vl fa3 fk3 f.Kill.Words, vl fa4 fk4 f.Copies]) fun p4 => Oq Va (KS ?_)
 refine Oq (VldA sh98 0) ?_
 refine letv (transfer_Valid f) fun rv5 hg6 => ?_
 have hc7 := fn156 f fa1 fk1 fa3 fk3 fa4 fk4 pre pre rv5 hg6
 refine Oc [1, 2, 3] ca156 hc7 ?_
 rintro - -
 refine Oq Vm ?_
 refine Js 7 ?_ ?_
 ·intro h8
  refine Oq (Vfa fo98_0 0) (Oq (VfaF fo42_0 0) (Oq (VldF sh3 0) (Oq Vm (Oq Veql (Oq Vpt (Oq Va (KS ?_)))))))
  have hq := q4 hrr (f.Gen.Width == width) (by simp only [equations_fits, h8, hg6, cs4]); subst hq
  exact Kr () rfl (.tmp rfl .nil) [] trivial
 intro h8
 refine Osk (Osk (Osk (Osk (Osk (Oq Vpf (Oq Va (KS ?_)))))))
 have hq := q4 hrr false (by simp only [equations_fits, h8, hg6, cs4]); subst hq
 exact Kr () rfl (.tmp rfl .nil) [] trivial
theorem fn189 (f : GTransfer) (fa1 : Option Addr) (fk1 : Nat) (fa3 : Option Addr) (fk3 : Nat) (fa4 : Option Addr) (fk4 : Nat) (cap0P : Value) (cap0 : GSystem) (cap0a1 : Option Addr) (cap0k1 : Nat) (cap0a2 : Option Addr) (cap0k2 : Nat) (cap0a3 : Option Addr) (cap0k3 : Nat) (hf_0 : i64ok f.Gen.Width) (hf_2 : i64ok f.Kill.Width) (hcap0_0 : i64ok cap0.Width) (rr : Bool) (hrr : equations_Valid_1 f cap0 = rr) : FT Tryz.prog 189 #[.agg #[vi f.Gen.Width, vl fa1 fk1 f.Gen.Words, vi f.Kill.Width, vl fa3 fk3 f.Kill.Words, vl fa4 fk4 f.Copies], cap0P] [S fa1 fk1 f.Gen.Words, S fa3 fk3 f.Kill.Words, S fa4 fk4 f.Copies, pv cap0P [vi cap0.Width, vl cap0a1 cap0k1 cap0.Deps, vl cap0a2 cap0k2 cap0.Transfers, vl cap0a3 cap0k3 cap0.Boundary], S cap0a1 cap0k1 cap0.Deps, S cap0a2 cap0k2 cap0.Transfers, S cap0a3 cap0k3 cap0.Boundary] (fun g : Unit => True) (fun g => vb rr) (fun g => []) := by
 refine FTi Tryz.func189 fun w0 M0 F0 => ?_
 unfold i64ok at hf_0 hf_2 hcap0_0
 refine Fb 8 0 fun _ => Fb 8 1 fun _ => Fb 16 2 fun _ => Fb 24 4 fun _ => Fb 88 5 fun _ => Fb 32 6 fun _ => KS ?_
 refine Oa (Ab [vi f.Gen.Width, vl fa1 fk1 f.Gen.Words, vi f.Kill.Width, vl fa3 fk3 f.Kill.Words, vl fa4 fk4 f.Copies]) fun p7 => Oq Va (KS ?_)
 refine Oq (Vfa fo27_0 4) (Oq (VldF sh3 4) (Oq (VldA sh98 0) ?_))
 refine letv (equations_fits cap0.Width f) fun rv8 hg9 => ?_
 have hc10 := fn190 cap0.Width f fa1 fk1 fa3 fk3 fa4 fk4 pre pre pre rv8 hg9
 refine Oc [1, 2, 3] ca190 hc10 ?_
 rintro - -
 refine Oq Vnot (Oq Va (KS ?_))
 have hq := q4 hrr (!rv8) (by simp only [equations_Valid_1, hg9, cs4]); subst hq
 exact Kr () rfl (.tmp rfl .nil) [] trivial
theorem fn109 (s : GSystem) (sa1 : Option Addr) (sk1 : Nat) (sa2 : Option Addr) (sk2 : Nat) (sa3 : Option Addr) (sk3 : Nat) (hs_0 : i64ok s.Width) (rr : Bool) (hrr : equations_Valid s = rr) : FT Tryz.prog 109 #[.agg #[vi s.Width, vl sa1 sk1 s.Deps, vl sa2 sk2 s.Transfers, vl sa3 sk3 s.Boundary]] [S sa1 sk1 s.Deps, S sa2 sk2 s.Transfers, S sa3 sk3 s.Boundary] (fun g : Unit => True) (fun g => vb rr) (fun g => []) := by
 refine FTi Tryz.func109 fun w0 M0 F0 => ?_
 unfold i64ok at hs_0
 refine Fb 24 0 fun _ => Fb 88 1 fun _ => Fb 32 2 fun _ => KS ?_
 refine Oa (Ab [vi s.Width, vl sa1 sk1 s.Deps, vl sa2 sk2 s.Transfers, vl sa3 sk3 s.Boundary]) fun p4 => Oq Va (KS ?_)
 refine Oq (Vfa fo27_1 0) (Oq (VldF sh23 0) (Oq (Vlen sl23) (Oq Va (KS ?_))))
 refine Oq (Vfa fo27_0 0) (Oq (VldF sh3 0) (Oq Vm ?_))
 refine letv (equations_sized s.Width (s.Deps.length : Int)) fun rv5 hg6 => ?_
 have hc7 := fn185 s.Width ((s.Deps.length : Int)) pre pre rv5 hg6
 refine Oc [] ca185 hc7 ?_
 rintro - -
 refine Oq Vnot (Oq Vm ?_)
 refine Js 15 ?_ ?_
 ·intro h8
  have h10 := not_true h8
  refine Osk (Osk (Osk (Osk (Osk (Oq Vpt (Oq Vm (Osk (Osk (Osk ?_)))))))))
  refine Osk (Osk (Oq Vpt (KS ?_)))
  refine Kt (KS ?_)
  refine Oq Va (KS ?_)
  have hq := q4 hrr false (by simp only [equations_Valid, h8, h10, hg6, cs4]); subst hq
  exact Kr () rfl (.tmp rfl .nil) [] trivial
 intro h8
 have h13 := not_false h8
 refine Oq (Vfa fo27_2 0) (Oq (VldF sh24 0) (Oq (Vlen sl24) (Oq Vm (Oq Vneq (Oq Vpf (Oq Vm ?_))))))
 refine Js 22 ?_ ?_
 ·intro h15
  have g16 := ne_of_bne h15
  refine Osk (Osk (Osk (Osk (Osk (Oq Vpt (KS ?_))))))
  refine Kt (KS ?_)
  refine Oq Va (KS ?_)
  have hq := q4 hrr false (by simp only [equations_Valid, h8, h13, h15, hg6, cs4]); subst hq
  exact Kr () rfl (.tmp rfl .nil) [] trivial
 intro h15
 have g17 := eq_of_bne_false h15
 refine Oq (Vfa fo27_3 0) (Oq (VldF sh25 0) (Oq (Vlen sl25) (Oq Vm (Oq Vneq (Oq Vpf (KS ?_))))))
 refine Kc ?_ ?_
 ·intro h18
  have g19 := ne_of_bne h18
  refine KS ?_
  refine Oq Va (KS ?_)
  have hq := q4 hrr false (by simp only [equations_Valid, h8, h13, h15, h18, hg6, cs4]); subst hq
  exact Kr () rfl (.tmp rfl .nil) [] trivial
 intro h18
 have g20 := eq_of_bne_false h18
 refine KS ?_
 refine Oq Va (KS ?_)
 refine Oq (Vfa fo27_1 0) (Oq (VldF sh23 0) (Oq (Vlen sl23) (Oq Vm (KS ?_))))
 refine Kl (γ := Nat × Int × Int) (fun (r21, edges_22, v32_23) => ⟨[(1, p4), (3, vi (s.Deps.length : Int)), (4, vi edges_22), (30, vl sa1 sk1 s.Deps), (31, vi (s.Deps.length : Int)), (32, vi v32_23)], [pv p4 [vi s.Width, vl sa1 sk1 s.Deps, vl sa2 sk2 s.Transfers, vl sa3 sk3 s.Boundary], S sa1 sk1 s.Deps, S sa2 sk2 s.Transfers, S sa3 sk3 s.Boundary], equations_Valid_L0 s r21 edges_22 v32_23 = equations_Valid_L0 s (((s.Deps.length : Int) - 0).toNat) 0 0 ∧ r21 = ((s.Deps.length : Int) - v32_23).toNat ∧ (0 : Int) ≤ v32_23 ∧ v32_23 ≤ (s.Deps.length : Int) ∧ (-9223372036854775808 ≤ edges_22 ∧ edges_22 ≤ 9223372036854775807) ∧ (-9223372036854775808 ≤ v32_23 ∧ v32_23 ≤ 9223372036854775807) ∧ 0 ≤ edges_22 ∧ edges_22 ≤ 1024, r21⟩) (((s.Deps.length : Int) - 0).toNat, 0, 0) [0, 1, 2, 3] ⟨rfl, rfl, (by omega), (by omega), (by omega), (by omega), iv0⟩ ?_
 rintro ⟨r21, edges_22, v32_23⟩ ⟨hM24, hr25, hi26, hi27, hk28, hk29, hv30⟩
 refine JJ_nx fun _ _ hL hA => ?_; dsimp only at hL hA; subst hL hA
 refine Fb 24 1 fun _ => Fb 88 2 fun _ => Fb 32 3 fun _ => KS ?_
 refine Oq Vlss (KS ?_)
 refine Kc ?_ ?_
 ·intro h34
  have g35 := dt h34
  obtain ⟨r36, rfl⟩ := scc (n := r21) (by omega)
  refine KS ?_
  refine Oq (Vi sl23 1) ?_
  refine JJ_peekL v32_23.toNat 1 rfl rng fun a37 k38 => ?_
  refine Fb 8 1 fun _ => Fo 1 fun ho40 => ?_
  refine Oq (Vld sh22 0) (Oq Va (KS ?_))
  refine Oq Vm (Oq Vm (Oq (Vlen sl22) (Oq Vadd (Oq Va (KS ?_)))))
  refine Oq Vm (Oq Vgtr (Oq Vm ?_))
  refine Js 42 ?_ ?_
  ·intro h41
   have g42 := dt h41
   refine Osk (Osk (Osk (Osk (Oq Vpt (KS ?_)))))
   refine Kt (KS ?_)
   refine Oq Va (KS ?_)
   have hR43 := q2 hM24 (.ret false) (by simp only [equations_Valid_L0, h8, h13, h15, h18, h34, h41, hg6, cs4])
   have hq := q4 hrr false (by simp only [equations_Valid, h8, h13, h15, h18, h34, h41, hg6, hR43, cs4]); subst hq
   exact Kr () rfl (.tmp rfl .nil) [] trivial
  intro h41
  have g44 := df h41
  refine Oq Vm (Oq Vm ?_)
  refine letv (equations_ascending (s.Deps.getD v32_23.toNat []) (s.Deps.length : Int)) fun rv45 hg46 => ?_
  have hc47 := fn186 ((s.Deps.getD v32_23.toNat [])) a37 k38 ((s.Deps.length : Int)) pre rv45 hg46
  refine Oc [1] ca186 hc47 ?_
  rintro - -
  refine Oq Vnot (Oq Vpf (KS ?_))
  refine Kc ?_ ?_
  ·intro h48
   have h50 := not_true h48
   refine KS ?_
   refine Oq Va (KS ?_)
   have hR52 := q2 hM24 (.ret false) (by simp only [equations_Valid_L0, h8, h13, h15, h18, h34, h41, h48, h50, hg6, hg46, cs4])
   have hq := q4 hrr false (by simp only [equations_Valid, h8, h13, h15, h18, h34, h41, h48, h50, hg6, hg46, hR52, cs4]); subst hq
   exact Kr () rfl (.tmp rfl .nil) [] trivial
  intro h48
  have h54 := not_false h48
  refine KS ?_
  refine Oq Vadd (Oq Vm (KS ?_))
  exact Kg (r36, (edges_22 + ((s.Deps.getD v32_23.toNat []).length : Int)), (v32_23 + 1)) [2, 3, 4, 5] ⟨(q3 hM24 (by simp only [equations_Valid_L0, h8, h13, h15, h18, h34, h41, h48, h54, hg6, hg46, cs4])), (by omega), (by omega), (by omega), (by omega), (by omega), iv1⟩
 intro h34
 have g56 := df h34
 obtain rfl : r21 = 0 := by omega
 refine Ke ?_
 have hR57 := q2 hM24 (.brk ()) (by simp only [equations_Valid_L0, h8, h13, h15, h18, h34, hg6, cs4])
 refine KS ?_
 refine Oq (Vfa fo27_0 0) (Oq (VldF sh3 0) (Oq (Vfa fo27_3 0) (Oq (VldF sh25 0) ?_)))
 refine letv (equations_sets s.Width s.Boundary) fun rv58 hg59 => ?_
 have hc60 := fn187 s.Width s.Boundary sa3 sk3 pre rv58 hg59
 refine Oc [3] ca187 hc60 ?_
 rintro - -
 refine Oq Vm ?_
 refine Js 54 ?_ ?_
 ·intro h61
  refine Oq (Vfa fo27_2 0) (Oq (VldF sh24 0) (Oq (Vf [p4]) ?_))
  refine JJ_ent (Ent.pall [0, 1, 2, 3] rfl rfl) ?_
  refine letv (slices_ContainsFunc_Transfer s.Transfers (fun x => equations_Valid_1 x s)) fun rv63 hg64 => ?_
  have hc65 := fn188 s.Transfers sa2 sk2 189 [p4] (fun x => equations_Valid_1 x s) [pv p4 [vi s.Width, vl sa1 sk1 s.Deps, vl sa2 sk2 s.Transfers, vl sa3 sk3 s.Boundary], S sa1 sk1 s.Deps, S sa2 sk2 s.Transfers, S sa3 sk3 s.Boundary] ca189 (fun x hx a1 k1 a3 k3 a4 k4 hq0 hq2 => FT_pall (A1 := _) (fn189 x a1 k1 a3 k3 a4 k4 p4 s sa1 sk1 sa2 sk2 sa3 sk3 hq0 hq2 pre _ rfl)) rv63 hg64
  refine Oc [3, 0] ca188 hc65 ?_
  rintro - -
  refine Oq Vnot (Oq Vpt (Oq Va (KS ?_)))
  have hq := q4 hrr (!rv63) (by simp only [equations_Valid, h8, h13, h15, h18, h34, h61, hg6, hR57, hg59, hg64, cs4]); subst hq
  exact Kr () rfl (.tmp rfl .nil) [] trivial
 intro h61
 refine Osk (Osk (Osk (Osk (Osk (Oq Vpf (Oq Va (KS ?_)))))))
 have hq := q4 hrr false (by simp only [equations_Valid, h8, h13, h15, h18, h34, h61, hg6, hR57, hg59, cs4]); subst hq
 exact Kr () rfl (.tmp rfl .nil) [] trivial
theorem fn100 (s : GSystem) (sa1 : Option Addr) (sk1 : Nat) (sa2 : Option Addr) (sk2 : Nat) (sa3 : Option Addr) (sk3 : Nat) (k : List GKnown) (ka0 : Option Addr) (kk0 : Nat) (hs_0 : i64ok s.Width) (rr : Bool) (hrr : solver_arguments s k = rr) : FT Tryz.prog 100 #[.agg #[vi s.Width, vl sa1 sk1 s.Deps, vl sa2 sk2 s.Transfers, vl sa3 sk3 s.Boundary], vl ka0 kk0 k] [S sa1 sk1 s.Deps, S sa2 sk2 s.Transfers, S sa3 sk3 s.Boundary, S ka0 kk0 k] (fun g : Unit => True) (fun g => vb rr) (fun g => []) := by
 refine FTi Tryz.func100 fun w0 M0 F0 => ?_
 unfold i64ok at hs_0
 refine Fb 24 0 fun _ => Fb 88 1 fun _ => Fb 32 2 fun _ => Fb 40 3 fun _ => KS ?_
 refine Oa (Ab [vi s.Width, vl sa1 sk1 s.Deps, vl sa2 sk2 s.Transfers, vl sa3 sk3 s.Boundary]) fun p5 => Oq Va (KS ?_)
 refine Oq (VldA sh27 0) ?_
 refine letv (equations_Valid s) fun rv6 hg7 => ?_
 have hc8 := fn109 s sa1 sk1 sa2 sk2 sa3 sk3 pre rv6 hg7
 refine Oc [1, 2, 3] ca109 hc8 ?_
 rintro - -
 refine Oq Vnot (KS ?_)
 refine Kc ?_ ?_
 ·intro h9
  have h11 := not_true h9
  refine KS ?_
  refine Oq Va (KS ?_)
  have hq := q4 hrr false (by simp only [solver_arguments, h9, h11, hg7, cs4]); subst hq
  exact Kr () rfl (.tmp rfl .nil) [] trivial
 intro h9
 have h14 := not_false h9
 try (have hvs := (EValid_iff s).1 (by simp only [h9, h14, hg7]); have hv1 := hvs.n)
 refine KS ?_
 refine Oq Vm (Oq (Vlen sl53) (Oq Vm (KS ?_)))
 refine Kl (γ := Nat × Int) (fun (r16, v12_17) => ⟨[(1, vl ka0 kk0 k), (2, p5), (10, vl ka0 kk0 k), (11, vi (k.length : Int)), (12, vi v12_17)], [pv p5 [vi s.Width, vl sa1 sk1 s.Deps, vl sa2 sk2 s.Transfers, vl sa3 sk3 s.Boundary], S sa1 sk1 s.Deps, S sa2 sk2 s.Transfers, S sa3 sk3 s.Boundary, S ka0 kk0 k], solver_arguments_L0 s k r16 v12_17 = solver_arguments_L0 s k (((k.length : Int) - 0).toNat) 0 ∧ r16 = ((k.length : Int) - v12_17).toNat ∧ (0 : Int) ≤ v12_17 ∧ v12_17 ≤ (k.length : Int) ∧ (-9223372036854775808 ≤ v12_17 ∧ v12_17 ≤ 9223372036854775807), r16⟩) (((k.length : Int) - 0).toNat, 0) [0, 1, 2, 3, 4] ⟨rfl, rfl, (by omega), (by omega), (by omega)⟩ ?_
 rintro ⟨r16, v12_17⟩ ⟨hM18, hr19, hi20, hi21, hk22⟩
 refine JJ_nx fun _ _ hL hA => ?_; dsimp only at hL hA; subst hL hA
 refine Fb 24 1 fun _ => Fb 88 2 fun _ => Fb 32 3 fun _ => Fb 40 4 fun _ => KS ?_
 refine Oq Vlss (KS ?_)
 refine Kc ?_ ?_
 ·intro h27
  have g28 := dt h27
  obtain ⟨r29, rfl⟩ := scc (n := r16) (by omega)
  refine KS ?_
  refine Oq Vm (Oq (Vi sl53 4) ?_)
  refine JJ_peek_GKnown v12_17.toNat 4 rfl rng fun a30 k31 hb32 hb33 => ?_
  unfold i64ok at hb32 hb33
  refine Fb 8 1 fun _ => ?_
  refine Oq (VldA sh67 0) (Oa (Al ze67 [vi 0, vi 0, .slice none 0 0]) fun p35 => Oq Va (Ost (Scl [0] sh67 [vi ((k.getD v12_17.toNat default).Node), vi (((k.getD v12_17.toNat default).Value).Width), vl a30 k31 (((k.getD v12_17.toNat default).Value).Words)]) (KS ?_)))
  refine Jp 0 fun hp36 => ?_
  refine bool_split (decide ((k.getD v12_17.toNat default).Node < 0)) ?_ ?_
  ·intro h37
   have g38 := dt h37
   refine Kq [0, 1, 3, 7, 15, 31, 15, 79, 207, 511, 1023, 2047, 4095, 8191, 16383, 32767, 65535, 32767, 32767, 294911, 950271, 1998847, 4095999, 8388607, 16777215, 33554431, 67108863, 134217727, 268435455, 536870911, 1073741823, 2147483647, 4294967295, 8589934591, 17179869183, 34359738367, 8589934591, 77309411327, 274877906943, 549755813887] fmix ?_
   refine Qv [0] (Vfa fo67_0 0) (Qv [1] (VldF sh3 0) (Qb h37 [] Vlss (Qv [] Vm (Qs (Qs (Qs (Qs (Qs (Qs ?_)))))))))
   refine Qv [] Vpt (Qv [] Vm (Qs (Qs (Qs (Qs (Qs (Qs (Qs (Qs ?_)))))))))
   refine Qs (Qs (Qs (Qs (Qs (Qv [] Vpt (Qv [] Vm (Qs (Qs (Qs ?_)))))))))
   refine Qs (Qv [] Vpt (Qv [] Vm (Qs (Qs (Qs (Qs (Qs (Qs (Qv [] Vpt ?_)))))))))
   refine Qn ⟨by kernel_rfl, ?_⟩
   refine Kt (KS ?_)
   refine Oq Va (KS ?_)
   have hR39 := q2 hM18 (.ret false) (by simp only [solver_arguments_L0, h9, h14, h27, h37, hg7, cs4])
   have hq := q4 hrr false (by simp only [solver_arguments, h9, h14, h27, h37, hg7, hR39, cs4]); subst hq
   exact Kr () rfl (.tmp rfl .nil) [] trivial
  intro h37
  have g40 := df h37
  refine bool_split (decide ((s.Deps.length : Int) ≤ (k.getD v12_17.toNat default).Node)) ?_ ?_
  ·intro h41
   have g42 := dt h41
   refine Kq [0, 1, 3, 7, 15, 31, 15, 79, 207, 511, 1023, 2047, 4095, 8191, 16383, 32767, 65535, 32767, 32767, 294911, 950271, 1998847, 4095999, 8388607, 16777215, 33554431, 67108863, 134217727, 268435455, 536870911, 1073741823, 2147483647, 4294967295, 8589934591, 17179869183, 34359738367, 8589934591, 77309411327, 274877906943, 549755813887] fmix ?_
   refine Qv [0] (Vfa fo67_0 0) (Qv [1] (VldF sh3 0) (Qb h37 [] Vlss (Qv [] Vm (Qv [0] (Vfa fo67_0 0) (Qv [1] (VldF sh3 0) (Qv [4] (Vfa fo27_1 0) (Qv [4] (VldF sh23 0) (Qv [] (Vlen sl23) (Qb h41 [] Vgeq ?_)))))))))
   refine Qv [] Vpf (Qv [] Vm (Qs (Qs (Qs (Qs (Qs (Qs (Qs (Qs ?_)))))))))
   refine Qs (Qs (Qs (Qs (Qs (Qv [] Vpt (Qv [] Vm (Qs (Qs (Qs ?_)))))))))
   refine Qs (Qv [] Vpt (Qv [] Vm (Qs (Qs (Qs (Qs (Qs (Qs (Qv [] Vpt ?_)))))))))
   refine Qn ⟨by kernel_rfl, ?_⟩
   refine Kt (KS ?_)
   refine Oq Va (KS ?_)
   have hR43 := q2 hM18 (.ret false) (by simp only [solver_arguments_L0, h9, h14, h27, h37, h41, hg7, cs4])
   have hq := q4 hrr false (by simp only [solver_arguments, h9, h14, h27, h37, h41, hg7, hR43, cs4]); subst hq
   exact Kr () rfl (.tmp rfl .nil) [] trivial
  intro h41
  have g44 := df h41
  refine bool_split (decide (0 < v12_17)) ?_ ?_
  ·intro h45
   have g46 := dt h45
   refine JJ_peek_GKnown ((v12_17 - 1) : Int).toNat 8 rfl rng fun a47 k48 hb49 hb50 => ?_
   unfold i64ok at hb49 hb50
   refine Fb 8 1 fun _ => ?_
   refine JK_drawK [0, 1, 3, 7, 15, 31, 15, 79, 207, 511, 1023, 2047, 4095, 8191, 16383, 32767, 65535, 32767, 32767, 294911, 950271, 1998847, 4095999, 8388607, 16777215, 33554431, 67108863, 134217727, 268435455, 536870911, 1073741823, 2147483647, 4294967295, 8589934591, 17179869183, 34359738367, 8589934591, 77309411327, 274877906943, 549755813887] fmix ?_
   refine Dv [2] (Vfa fo67_0 0) (Dv [3] (VldF sh3 0) (Db h37 [] Vlss (Dv [] Vm (Dv [2] (Vfa fo67_0 0) (Dv [3] (VldF sh3 0) (Dv [6] (Vfa fo27_1 0) (Dv [6] (VldF sh23 0) (Dv [] (Vlen sl23) (Db h41 [] Vgeq ?_)))))))))
   refine Dv [] Vpf (Dv [] Vm (Dv [] Vm (Db h45 [] Vgtr (Dv [] Vm (Dv [2] (Vfa fo67_0 0) (Dv [3] (VldF sh3 0) (Dv [] Vm (Dv [] Vm (Dv [] Vsub ?_)))))))))
   refine Dv [10] (Vi sl53 0) (Dv [0] (Vfa fo67_0 0) (Dv [0] (VldF sh3 0) (Dv [] Vleq (Dv [] Vpt (Dv [] Vpf ?_)))))
   refine bool_split (decide ((k.getD v12_17.toNat default).Node ≤ (k.getD ((v12_17 - 1) : Int).toNat default).Node)) ?_ ?_
   ·intro h52
    have g53 := dt h52
    refine Db h52 [] Vm (Ds (Ds (Ds (Ds (Dv [] Vpt (Dv [] Vm (Ds (Ds (Ds ?_)))))))))
    refine Ds (Ds (Ds (Dv [] Vpt ?_)))
    refine Dn ⟨by kernel_rfl, fun G => ?_⟩
    refine Jw2 [(1, vl ka0 kk0 k), (2, p5), (10, vl ka0 kk0 k), (11, vi (k.length : Int)), (12, vi v12_17), (56, vb true)] [0, 1, 2, 3, 4, 5, 6, 7, 8, 9, 10] [] ?_
    refine Jk [0, 1, 3, 3, 4, 5, 6, 7, 8, 9] (Kt ?_)
    refine KS ?_
    refine Oq Va (KS ?_)
    have hR54 := q2 hM18 (.ret false) (by simp only [solver_arguments_L0, h9, h14, h27, h37, h41, h45, h52, hg7, cs4])
    have hq := q4 hrr false (by simp only [solver_arguments, h9, h14, h27, h37, h41, h45, h52, hg7, hR54, cs4]); subst hq
    exact Kr () rfl (.tmp rfl .nil) [] trivial
   intro h52
   have g55 := df h52
   refine Db h52 [] Vm (Dv [2] (Vfa fo67_1 0) (Dv [3] (VldG sh42 0 [vi (((k.getD v12_17.toNat default).Value).Width), vl a30 k31 (((k.getD v12_17.toNat default).Value).Words)]) ?_))
   refine letv (bitset_Valid ((k.getD v12_17.toNat default).Value)) fun rv56 hg57 => ?_
   refine Dx [5] [] [1, 0] (fun G => vb rv56) [fun G => SP.fact (True)] (fun G => xC [0] ca123 (fn123 (((k.getD v12_17.toNat default).Value)) a30 k31 pre rv56 hg57)) (Dv [] Vnot (Dv [] Vpf ?_))
   refine bool_split (!rv56) ?_ ?_
   ·intro h58
    have h60 := not_true h58
    refine Db h58 [] Vm (Ds (Ds (Ds (Ds (Ds (Ds (Dv [] Vpt ?_)))))))
    refine Dn ⟨by kernel_rfl, fun G => ?_⟩
    refine Jw2 [(1, vl ka0 kk0 k), (2, p5), (10, vl ka0 kk0 k), (11, vi (k.length : Int)), (12, vi v12_17), (56, vb true)] [0, 1, 2, 3, 4, 5, 6, 7, 8, 9, 10] [SP.fact (True)] ?_
    refine Jk [0, 1, 3, 3, 4, 5, 6, 7, 8, 9] (Kt ?_)
    refine KS ?_
    refine Oq Va (KS ?_)
    have hR62 := q2 hM18 (.ret false) (by simp only [solver_arguments_L0, h9, h14, h27, h37, h41, h45, h52, h58, h60, hg7, hg57, cs4])
    have hq := q4 hrr false (by simp only [solver_arguments, h9, h14, h27, h37, h41, h45, h52, h58, h60, hg7, hg57, hR62, cs4]); subst hq
    exact Kr () rfl (.tmp rfl .nil) [] trivial
   intro h58
   have h64 := not_false h58
   try (have hvs := (EValid_iff s).1 (by simp only [h9, h14, h27, h37, h41, h45, h52, h58, h64, hg7, hg57]); have hv1 := hvs.n)
   refine Db h58 [] Vm (Dv [2] (Vfa fo67_1 0) (Dv [2] (VfaF fo42_0 0) (Dv [3] (VldF sh3 0) (Dv [6] (Vfa fo27_0 0) (Dv [6] (VldF sh3 0) (Dv [] Vneq (Dv [] Vpf ?_)))))))
   refine Dn ⟨by kernel_rfl, fun G => ?_⟩
   refine Jw2 [(1, vl ka0 kk0 k), (2, p5), (10, vl ka0 kk0 k), (11, vi (k.length : Int)), (12, vi v12_17), (56, vb (((k.getD v12_17.toNat default).Value).Width != s.Width))] [0, 1, 2, 3, 4, 5, 6, 7, 8, 9, 10] [SP.fact (True)] ?_
   refine Jk [0, 1, 3, 3, 4, 5, 6, 7, 8, 9] ?_
   refine Kc ?_ ?_
   ·intro h66
    have g67 := ne_of_bne h66
    refine KS ?_
    refine Oq Va (KS ?_)
    have hR68 := q2 hM18 (.ret false) (by simp only [solver_arguments_L0, h9, h14, h27, h37, h41, h45, h52, h58, h64, h66, hg7, hg57, cs4])
    have hq := q4 hrr false (by simp only [solver_arguments, h9, h14, h27, h37, h41, h45, h52, h58, h64, h66, hg7, hg57, hR68, cs4]); subst hq
    exact Kr () rfl (.tmp rfl .nil) [] trivial
   intro h66
   have g69 := eq_of_bne_false h66
   refine KS ?_
   refine Oq Vadd (Oq Vm (KS ?_))
   exact Kg (r29, (v12_17 + 1)) [5, 6, 7, 8, 9] ⟨(q3 hM18 (by simp only [solver_arguments_L0, h9, h14, h27, h37, h41, h45, h52, h58, h64, h66, hg7, hg57, cs4])), (by omega), (by omega), (by omega), (by omega)⟩
  intro h45
  have g70 := df h45
  refine JK_drawK [0, 1, 3, 7, 15, 31, 15, 79, 207, 511, 1023, 2047, 4095, 8191, 16383, 32767, 65535, 32767, 32767, 294911, 950271, 1998847, 4095999, 8388607, 16777215, 33554431, 67108863, 134217727, 268435455, 536870911, 1073741823, 2147483647, 4294967295, 8589934591, 17179869183, 34359738367, 8589934591, 77309411327, 274877906943, 549755813887] fmix ?_
  refine Dv [0] (Vfa fo67_0 0) (Dv [1] (VldF sh3 0) (Db h37 [] Vlss (Dv [] Vm (Dv [0] (Vfa fo67_0 0) (Dv [1] (VldF sh3 0) (Dv [4] (Vfa fo27_1 0) (Dv [4] (VldF sh23 0) (Dv [] (Vlen sl23) (Db h41 [] Vgeq ?_)))))))))
  refine Dv [] Vpf (Dv [] Vm (Dv [] Vm (Db h45 [] Vgtr (Dv [] Vm (Ds (Ds (Ds (Ds (Ds ?_)))))))))
  refine Ds (Ds (Ds (Ds (Dv [] Vpf (Dv [] Vpf (Dv [] Vm (Dv [0] (Vfa fo67_1 0) (Dv [1] (VldG sh42 0 [vi (((k.getD v12_17.toNat default).Value).Width), vl a30 k31 (((k.getD v12_17.toNat default).Value).Words)]) ?_))))))))
  refine letv (bitset_Valid ((k.getD v12_17.toNat default).Value)) fun rv71 hg72 => ?_
  refine Dx [3] [] [1, 0] (fun G => vb rv71) [fun G => SP.fact (True)] (fun G => xC [0] ca123 (fn123 (((k.getD v12_17.toNat default).Value)) a30 k31 pre rv71 hg72)) (Dv [] Vnot (Dv [] Vpf ?_))
  refine bool_split (!rv71) ?_ ?_
  ·intro h73
   have h75 := not_true h73
   refine Db h73 [] Vm (Ds (Ds (Ds (Ds (Ds (Ds (Dv [] Vpt ?_)))))))
   refine Dn ⟨by kernel_rfl, fun G => ?_⟩
   refine Jw2 [(1, vl ka0 kk0 k), (2, p5), (10, vl ka0 kk0 k), (11, vi (k.length : Int)), (12, vi v12_17), (56, vb true)] [0, 1, 2, 3, 4, 5, 6, 7, 8] [SP.fact (True)] ?_
   refine Jk [1, 1, 2, 3, 4, 5, 6, 7] (Kt ?_)
   refine KS ?_
   refine Oq Va (KS ?_)
   have hR77 := q2 hM18 (.ret false) (by simp only [solver_arguments_L0, h9, h14, h27, h37, h41, h45, h73, h75, hg7, hg72, cs4])
   have hq := q4 hrr false (by simp only [solver_arguments, h9, h14, h27, h37, h41, h45, h73, h75, hg7, hg72, hR77, cs4]); subst hq
   exact Kr () rfl (.tmp rfl .nil) [] trivial
  intro h73
  have h79 := not_false h73
  try (have hvs := (EValid_iff s).1 (by simp only [h9, h14, h27, h37, h41, h45, h73, h79, hg7, hg72]); have hv1 := hvs.n)
  refine Db h73 [] Vm (Dv [0] (Vfa fo67_1 0) (Dv [0] (VfaF fo42_0 0) (Dv [1] (VldF sh3 0) (Dv [4] (Vfa fo27_0 0) (Dv [4] (VldF sh3 0) (Dv [] Vneq (Dv [] Vpf ?_)))))))
  refine Dn ⟨by kernel_rfl, fun G => ?_⟩
  refine Jw2 [(1, vl ka0 kk0 k), (2, p5), (10, vl ka0 kk0 k), (11, vi (k.length : Int)), (12, vi v12_17), (56, vb (((k.getD v12_17.toNat default).Value).Width != s.Width))] [0, 1, 2, 3, 4, 5, 6, 7, 8] [SP.fact (True)] ?_
  refine Jk [1, 1, 2, 3, 4, 5, 6, 7] ?_
  refine Kc ?_ ?_
  ·intro h81
   have g82 := ne_of_bne h81
   refine KS ?_
   refine Oq Va (KS ?_)
   have hR83 := q2 hM18 (.ret false) (by simp only [solver_arguments_L0, h9, h14, h27, h37, h41, h45, h73, h79, h81, hg7, hg72, cs4])
   have hq := q4 hrr false (by simp only [solver_arguments, h9, h14, h27, h37, h41, h45, h73, h79, h81, hg7, hg72, hR83, cs4]); subst hq
   exact Kr () rfl (.tmp rfl .nil) [] trivial
  intro h81
  have g84 := eq_of_bne_false h81
  refine KS ?_
  refine Oq Vadd (Oq Vm (KS ?_))
  exact Kg (r29, (v12_17 + 1)) [3, 4, 5, 6, 7] ⟨(q3 hM18 (by simp only [solver_arguments_L0, h9, h14, h27, h37, h41, h45, h73, h79, h81, hg7, hg72, cs4])), (by omega), (by omega), (by omega), (by omega)⟩
 intro h27
 have g85 := df h27
 obtain rfl : r16 = 0 := by omega
 refine Ke ?_
 have hR86 := q2 hM18 (.brk ()) (by simp only [solver_arguments_L0, h9, h14, h27, hg7, cs4])
 refine KS ?_
 refine Oq Va (KS ?_)
 have hq := q4 hrr true (by simp only [solver_arguments, h9, h14, h27, hg7, hR86, cs4]); subst hq
 exact Kr () rfl (.tmp rfl .nil) [] trivial
theorem fn101 (l : List Int) (la0 : Option Addr) (lk0 : Nat) (n : Int) (hn_0 : i64ok n) (hn0 : 0 ≤ n ∧ n ≤ 1000) (rr : Bool) (hrr : solver_distinct l n = rr) : FT Tryz.prog 101 #[vl la0 lk0 l, vi n] [S la0 lk0 l] (fun g : Unit => True) (fun g => vb rr) (fun g => []) := by
 refine FTi Tryz.func101 fun w0 M0 F0 => ?_
 unfold i64ok at hn_0
 refine Fb 8 0 fun _ => Fo 0 fun ho2 => KS ?_
 refine Oq Va (KS ?_)
 refine Oq Vm (Oa (Amk (α := Bool) sl57 sz57 false (fun _ _ => rfl)) fun c3 => ?_)
 refine Jo 0 ?_; rintro a4 k5 rfl
 refine Fb 1 0 fun _ => ?_
 have hn7 := List.length_replicate (n := n.toNat) (a := false)
 refine Oq Va (KS ?_)
 refine Oq Vm (Oq (Vlen sl22) (Oq Vm (KS ?_)))
 refine Kl (γ := Nat × List Bool × Int) (fun (r8, seen_9, v12_10) => ⟨[(1, vi n), (5, vl a4 k5 (List.replicate n.toNat false)), (10, vl la0 lk0 l), (11, vi (l.length : Int)), (12, vi v12_10)], [os (vl a4 k5 (List.replicate n.toNat false)) seen_9, S la0 lk0 l], solver_distinct_L0 l n r8 seen_9 v12_10 = solver_distinct_L0 l n (((l.length : Int) - 0).toNat) (List.replicate n.toNat false) 0 ∧ r8 = ((l.length : Int) - v12_10).toNat ∧ (0 : Int) ≤ v12_10 ∧ v12_10 ≤ (l.length : Int) ∧ (-9223372036854775808 ≤ v12_10 ∧ v12_10 ≤ 9223372036854775807) ∧ (seen_9.length : Int) = n, r8⟩) (((l.length : Int) - 0).toNat, (List.replicate n.toNat false), 0) [0, 0] ⟨rfl, rfl, (by omega), (by omega), (by omega), iv0⟩ ?_
 rintro ⟨r8, seen_9, v12_10⟩ ⟨hM11, hr12, hi13, hi14, hk15, hv16⟩
 refine JJ_nx fun _ _ hL hA => ?_; dsimp only at hL hA; subst hL hA
 refine Fb 1 0 fun _ => Fl 0 fun hn18 => ?_
 refine Fb 8 1 fun _ => Fo 1 fun ho20 => KS ?_
 refine Oq Vlss (KS ?_)
 refine Kc ?_ ?_
 ·intro h21
  have g22 := dt h21
  obtain ⟨r23, rfl⟩ := scc (n := r8) (by omega)
  refine KS ?_
  refine Oq (Vi sl22 1) ?_
  have hb24 := ok1 (i := v12_10.toNat) ho20 rng
  refine Oq (VldI sh3 1) (Oq Va (KS ?_))
  refine Oq Vm (Oq Vlss (Oq Vm ?_))
  refine Js 18 ?_ ?_
  ·intro h25
   have g26 := dt h25
   refine Osk (Osk (Osk (Oq Vpt (Oq Vm (Osk (Osk (Osk (Osk (Oq Vpt ?_)))))))))
   refine KS ?_
   refine Kt (KS ?_)
   refine Oq Va (KS ?_)
   have hR27 := q2 hM11 (.ret false) (by simp only [solver_distinct_L0, h21, h25, cs4])
   have hq := q4 hrr false (by simp only [solver_distinct, h21, h25, hR27, cs4]); subst hq
   exact Kr () rfl (.tmp rfl .nil) [] trivial
  intro h25
  have g28 := df h25
  refine Oq Vm (Oq Vm (Oq Vgeq (Oq Vpf (Oq Vm ?_))))
  refine Js 23 ?_ ?_
  ·intro h29
   have g30 := dt h29
   refine Osk (Osk (Osk (Osk (Oq Vpt (KS ?_)))))
   refine Kt (KS ?_)
   refine Oq Va (KS ?_)
   have hR31 := q2 hM11 (.ret false) (by simp only [solver_distinct_L0, h21, h25, h29, cs4])
   have hq := q4 hrr false (by simp only [solver_distinct, h21, h25, h29, hR31, cs4]); subst hq
   exact Kr () rfl (.tmp rfl .nil) [] trivial
  intro h29
  have g32 := df h29
  refine Oq Vm (Oq Vm (Oq (Vi sl57 0) (Oq (VldB sh4 0) (Oq Vpf (KS ?_)))))
  refine Kc ?_ ?_
  ·intro h33
   refine KS ?_
   refine Oq Va (KS ?_)
   have hR35 := q2 hM11 (.ret false) (by simp only [solver_distinct_L0, h21, h25, h29, h33, cs4])
   have hq := q4 hrr false (by simp only [solver_distinct, h21, h25, h29, h33, hR35, cs4]); subst hq
   exact Kr () rfl (.tmp rfl .nil) [] trivial
  intro h33
  refine KS ?_
  refine Oq Vm (Oq Vm (Oq (Vi sl57 0) (Ost (SoB [0] sh4) (KS ?_))))
  refine Oq Vadd (Oq Vm (KS ?_))
  exact Kg (r23, (seen_9.set ((l.getD v12_10.toNat 0) : Int).toNat true), (v12_10 + 1)) [0, 0] ⟨(q3 hM11 (by simp only [solver_distinct_L0, h21, h25, h29, h33, cs4])), (by omega), (by omega), (by omega), (by omega), iv1⟩
 intro h21
 have g37 := df h21
 obtain rfl : r8 = 0 := by omega
 refine Ke ?_
 have hR38 := q2 hM11 (.brk ()) (by simp only [solver_distinct_L0, h21, cs4])
 refine KS ?_
 refine Oq Va (KS ?_)
 have hq := q4 hrr true (by simp only [solver_distinct, h21, hR38, cs4]); subst hq
 exact Kr () rfl (.tmp rfl .nil) [] trivial
theorem fn211 (s : List Int) (sa0 : Option Addr) (sk0 : Nat) (fF : FuncId) (fC : List Value) (fp : Int → Bool) (fA : List SP) (hfc : callable Tryz.prog fF = true) (hfF : ∀ x ∈ s, i64ok x → FT Tryz.prog fF ([(vi x : Value)] ++ fC).toArray ([] ++ [pAll fA]) (fun _ : Unit => True) (fun _ => .bool (fp x)) (fun _ => [])) (rr : Int) (hrr : slices_IndexFunc_int s fp = rr) : FT Tryz.prog 211 #[vl sa0 sk0 s, .func (.func fF) #[] fC.toArray] [S sa0 sk0 s, pAll fA] (fun g : Unit => i64ok rr) (fun g => vi rr) (fun g => []) := by
 refine FTi Tryz.func211 fun w0 M0 F0 => Fb 8 0 fun _ => Fo 0 fun ho2 => ?_
 refine KS ?_
 refine Oq Va (KS ?_)
 refine Oq Vm (Oq (Vlen sl22) (Oq Vm (KS ?_)))
 refine Kl (γ := Nat × Int) (fun (r3, v8_4) => ⟨[(0, vl sa0 sk0 s), (1, .func (.func fF) #[] fC.toArray), (7, vi (s.length : Int)), (8, vi v8_4)], [S sa0 sk0 s, pAll fA], slices_IndexFunc_int_L0 s fp r3 v8_4 = slices_IndexFunc_int_L0 s fp (((s.length : Int) - 0).toNat) 0 ∧ r3 = ((s.length : Int) - v8_4).toNat ∧ (0 : Int) ≤ v8_4 ∧ v8_4 ≤ (s.length : Int) ∧ (-9223372036854775808 ≤ v8_4 ∧ v8_4 ≤ 9223372036854775807), r3⟩) (((s.length : Int) - 0).toNat, 0) [0, 1] ⟨rfl, rfl, (by omega), (by omega), (by omega)⟩ ?_
 rintro ⟨r3, v8_4⟩ ⟨hM5, hr6, hi7, hi8, hk9⟩
 refine JJ_nx fun _ _ hL hA => ?_; dsimp only at hL hA; subst hL hA
 refine Fb 8 0 fun _ => Fo 0 fun ho11 => KS ?_
 refine Oq Vlss (KS ?_)
 refine Kc ?_ ?_
 ·intro h12
  have g13 := dt h12
  obtain ⟨r14, rfl⟩ := scc (n := r3) (by omega)
  refine KS ?_
  refine Oq Vm (Oq Va (KS ?_))
  refine Oq Vm (Oq Vm (Oq Vm (Oq (Vi sl22 0) ?_)))
  have hb15 := ok1 (i := v8_4.toNat) ho11 rng
  refine Oq (VldI sh3 0) ?_
  refine JO_call [1] rfl rfl rfl (OpC.clo («as» := [(vi (s.getD v8_4.toNat 0) : Value)] ++ fC) rfl rfl hfc rfl (by simp)) (hfF (s.getD v8_4.toNat 0) (getD_mem rng)  (by unfold i64ok; omega)) rfl fun _ _ => ?_
  refine KS ?_
  refine Kc ?_ ?_
  ·intro h16
   refine KS ?_
   refine Oq Vm (Oq Va (KS ?_))
   have hR18 := q2 hM5 (.ret v8_4) (by simp only [slices_IndexFunc_int_L0, h12, h16, cs4])
   have hq := q4 hrr v8_4 (by simp only [slices_IndexFunc_int, h12, h16, hR18, cs4]); subst hq
   exact Kr () rfl (.tmp rfl .nil) [] en
  intro h16
  refine KS ?_
  refine Oq Vadd (Oq Vm (KS ?_))
  exact Kg (r14, (v8_4 + 1)) [0, 1] ⟨(q3 hM5 (by simp only [slices_IndexFunc_int_L0, h12, h16, cs4])), (by omega), (by omega), (by omega), (by omega)⟩
 intro h12
 have g20 := df h12
 obtain rfl : r3 = 0 := by omega
 refine Ke ?_
 have hR21 := q2 hM5 (.brk ()) (by simp only [slices_IndexFunc_int_L0, h12, cs4])
 refine KS ?_
 refine Oq Va (KS ?_)
 have hq := q4 hrr (-1) (by simp only [slices_IndexFunc_int, h12, hR21, cs4]); subst hq
 exact Kr () rfl (.tmp rfl .nil) [] en
theorem fn154 (s : List Int) (sa0 : Option Addr) (sk0 : Nat) (fF : FuncId) (fC : List Value) (fp : Int → Bool) (fA : List SP) (hfc : callable Tryz.prog fF = true) (hfF : ∀ x ∈ s, i64ok x → FT Tryz.prog fF ([(vi x : Value)] ++ fC).toArray ([] ++ [pAll fA]) (fun _ : Unit => True) (fun _ => .bool (fp x)) (fun _ => [])) (rr : Bool) (hrr : fCF s fp = rr) : FT Tryz.prog 154 #[vl sa0 sk0 s, .func (.func fF) #[] fC.toArray] [S sa0 sk0 s, pAll fA] (fun g : Unit => True) (fun g => vb rr) (fun g => []) := by
 refine FTi Tryz.func154 fun w0 M0 F0 => Fb 8 0 fun _ => Fo 0 fun ho2 => ?_
 refine KS ?_
 refine Oq Va (KS ?_)
 refine Oq Vm (Oq Vm ?_)
 refine letv (slices_IndexFunc_int s fp) fun rv3 hg4 => ?_
 have hc5 := fn211 s sa0 sk0 fF fC fp fA hfc hfF rv3 hg4
 refine Oc [0, 1] ca211 hc5 ?_
 rintro - he6
 unfold i64ok at he6
 refine Oq Vgeq (Oq Va (KS ?_))
 have hq := q4 hrr (decide (0 ≤ rv3)) (by simp only [fCF, hg4, cs4]); subst hq
 exact Kr () rfl (.tmp rfl .nil) [] trivial
theorem fn127 (s : List GKnown) (sa0 : Option Addr) (sk0 : Nat) (fF : FuncId) (fC : List Value) (fp : GKnown → Bool) (fA : List SP) (hfc : callable Tryz.prog fF = true) (hfF : ∀ x ∈ s, ∀ (a2 : Option Addr) (k2 : Nat), i64ok x.Node → i64ok x.Value.Width → FT Tryz.prog fF ([(.agg #[vi x.Node, vi x.Value.Width, vl a2 k2 x.Value.Words] : Value)] ++ fC).toArray ([S a2 k2 x.Value.Words] ++ [pAll fA]) (fun _ : Unit => True) (fun _ => .bool (fp x)) (fun _ => [])) (rr : Int) (hrr : slices_IndexFunc_Known s fp = rr) : FT Tryz.prog 127 #[vl sa0 sk0 s, .func (.func fF) #[] fC.toArray] [S sa0 sk0 s, pAll fA] (fun g : Unit => i64ok rr ∧ (-1 ≤ rr ∧ rr < (s.length : Int))) (fun g => vi rr) (fun g => []) := by
 refine FTi Tryz.func127 fun w0 M0 F0 => Fb 40 0 fun _ => ?_
 refine KS ?_
 refine Oq Va (KS ?_)
 refine Oq Vm (Oq (Vlen sl53) (Oq Vm (KS ?_)))
 refine Kl (γ := Nat × Int) (fun (r2, v8_3) => ⟨[(0, vl sa0 sk0 s), (1, .func (.func fF) #[] fC.toArray), (7, vi (s.length : Int)), (8, vi v8_3)], [S sa0 sk0 s, pAll fA], slices_IndexFunc_Known_L0 s fp r2 v8_3 = slices_IndexFunc_Known_L0 s fp (((s.length : Int) - 0).toNat) 0 ∧ r2 = ((s.length : Int) - v8_3).toNat ∧ (0 : Int) ≤ v8_3 ∧ v8_3 ≤ (s.length : Int) ∧ (-9223372036854775808 ≤ v8_3 ∧ v8_3 ≤ 9223372036854775807), r2⟩) (((s.length : Int) - 0).toNat, 0) [0, 1] ⟨rfl, rfl, (by omega), (by omega), (by omega)⟩ ?_
 rintro ⟨r2, v8_3⟩ ⟨hM4, hr5, hi6, hi7, hk8⟩
 refine JJ_nx fun _ _ hL hA => ?_; dsimp only at hL hA; subst hL hA
 refine Fb 40 0 fun _ => KS ?_
 refine Oq Vlss (KS ?_)
 refine Kc ?_ ?_
 ·intro h10
  have g11 := dt h10
  obtain ⟨r12, rfl⟩ := scc (n := r2) (by omega)
  refine KS ?_
  refine Oq Vm (Oq Va (KS ?_))
  refine Oq Vm (Oq Vm (Oq Vm (Oq (Vi sl53 0) ?_)))
  refine JJ_peek_GKnown v8_3.toNat 0 rfl rng fun a13 k14 hb15 hb16 => ?_
  unfold i64ok at hb15 hb16
  refine Fb 8 1 fun _ => Oq (VldA sh67 0) ?_
  refine JO_call [1, 3] rfl rfl rfl (OpC.clo («as» := [(.agg #[vi ((s.getD v8_3.toNat default).Node), vi (((s.getD v8_3.toNat default).Value).Width), vl a13 k14 (((s.getD v8_3.toNat default).Value).Words)] : Value)] ++ fC) rfl rfl hfc rfl (by simp)) (hfF (s.getD v8_3.toNat default) (getD_mem rng) a13 k14 (by unfold i64ok; omega) (by unfold i64ok; omega)) rfl fun _ _ => ?_
  refine KS ?_
  refine Kc ?_ ?_
  ·intro h18
   refine KS ?_
   refine Oq Vm (Oq Va (KS ?_))
   have hR20 := q2 hM4 (.ret v8_3) (by simp only [slices_IndexFunc_Known_L0, h10, h18, cs4])
   have hq := q4 hrr v8_3 (by simp only [slices_IndexFunc_Known, h10, h18, hR20, cs4]); subst hq
   exact Kr () rfl (.tmp rfl .nil) [] en
  intro h18
  refine KS ?_
  refine Oq Vadd (Oq Vm (KS ?_))
  exact Kg (r12, (v8_3 + 1)) [2, 3] ⟨(q3 hM4 (by simp only [slices_IndexFunc_Known_L0, h10, h18, cs4])), (by omega), (by omega), (by omega), (by omega)⟩
 intro h10
 have g22 := df h10
 obtain rfl : r2 = 0 := by omega
 refine Ke ?_
 have hR23 := q2 hM4 (.brk ()) (by simp only [slices_IndexFunc_Known_L0, h10, cs4])
 refine KS ?_
 refine Oq Va (KS ?_)
 have hq := q4 hrr (-1) (by simp only [slices_IndexFunc_Known, h10, hR23, cs4]); subst hq
 exact Kr () rfl (.tmp rfl .nil) [] en
theorem fn233 (x : GKnown) (xa2 : Option Addr) (xk2 : Nat) (cap0P : Value) (cap0 : Int) (hx_0 : i64ok x.Node) (hx_1 : i64ok x.Value.Width) (hcap0_0 : i64ok cap0) (rr : Bool) (hrr : solver_find_1 x cap0 = rr) : FT Tryz.prog 233 #[.agg #[vi x.Node, vi x.Value.Width, vl xa2 xk2 x.Value.Words], cap0P] [S xa2 xk2 x.Value.Words, pv cap0P [vi cap0]] (fun g : Unit => True) (fun g => vb rr) (fun g => []) := by
 refine FTi Tryz.func233 fun w0 M0 F0 => ?_
 unfold i64ok at hx_0 hx_1 hcap0_0
 refine Fb 8 0 fun _ => KS ?_
 refine Oa (Ab [vi x.Node, vi x.Value.Width, vl xa2 xk2 x.Value.Words]) fun p2 => Oq Va (KS ?_)
 refine Oq (Vfa fo67_0 0) (Oq (VldF sh3 0) (Oq (Vld sh3 2) (Oq Veql (Oq Va (KS ?_)))))
 have hq := q4 hrr (x.Node == cap0) (by simp only [solver_find_1, cs4]); subst hq
 exact Kr () rfl (.tmp rfl .nil) [] trivial
theorem fn177 (k : List GKnown) (ka0 : Option Addr) (kk0 : Nat) (n : Int) (hn_0 : i64ok n) (rr : Int) (hrr : solver_find k n = rr) : FT Tryz.prog 177 #[vl ka0 kk0 k, vi n] [S ka0 kk0 k] (fun g : Unit => i64ok rr ∧ (-1 ≤ rr ∧ rr < (k.length : Int))) (fun g => vi rr) (fun g => []) := by
 refine FTi Tryz.func177 fun w0 M0 F0 => ?_
 unfold i64ok at hn_0
 refine Fb 40 0 fun _ => KS ?_
 refine Oa (Ab [vi n]) fun p2 => Oq Va (KS ?_)
 refine Oq Vm (Oq (Vf [p2]) ?_)
 refine JJ_ent (Ent.pall [0] rfl rfl) ?_
 refine letv (slices_IndexFunc_Known k (fun x => solver_find_1 x n)) fun rv3 hg4 => ?_
 have hc5 := fn127 k ka0 kk0 233 [p2] (fun x => solver_find_1 x n) [pv p2 [vi n]] ca233 (fun x hx a2 k2 hq0 hq1 => FT_pall (A1 := _) (fn233 x a2 k2 p2 n hq0 hq1 pre _ rfl)) rv3 hg4
 refine Oc [2, 0] ca127 hc5 ?_
 rintro - ⟨he6, he7⟩
 unfold i64ok at he6
 refine Oq Va (KS ?_)
 have hq := q4 hrr rv3 (by simp only [solver_find, hg4, cs4]); subst hq
 exact Kr () rfl (.tmp rfl .nil) [] en
theorem fn129 (s : List Int) (sa0 : Option Addr) (sk0 : Nat) (v : Int) (hv_0 : i64ok v) (rr : Int) (hrr : slices_Index_int s v = rr) : FT Tryz.prog 129 #[vl sa0 sk0 s, vi v] [S sa0 sk0 s] (fun g : Unit => i64ok rr) (fun g => vi rr) (fun g => []) := by
 refine FTi Tryz.func129 fun w0 M0 F0 => ?_
 unfold i64ok at hv_0
 refine Fb 8 0 fun _ => Fo 0 fun ho2 => KS ?_
 refine Oq Va (KS ?_)
 refine Oq Vm (Oq (Vlen sl22) (Oq Vm (KS ?_)))
 refine Kl (γ := Nat × Int) (fun (r3, v8_4) => ⟨[(0, vl sa0 sk0 s), (1, vi v), (7, vi (s.length : Int)), (8, vi v8_4)], [S sa0 sk0 s], slices_Index_int_L0 s v r3 v8_4 = slices_Index_int_L0 s v (((s.length : Int) - 0).toNat) 0 ∧ r3 = ((s.length : Int) - v8_4).toNat ∧ (0 : Int) ≤ v8_4 ∧ v8_4 ≤ (s.length : Int) ∧ (-9223372036854775808 ≤ v8_4 ∧ v8_4 ≤ 9223372036854775807), r3⟩) (((s.length : Int) - 0).toNat, 0) [0] ⟨rfl, rfl, (by omega), (by omega), (by omega)⟩ ?_
 rintro ⟨r3, v8_4⟩ ⟨hM5, hr6, hi7, hi8, hk9⟩
 refine JJ_nx fun _ _ hL hA => ?_; dsimp only at hL hA; subst hL hA
 refine Fb 8 0 fun _ => Fo 0 fun ho11 => KS ?_
 refine Oq Vlss (KS ?_)
 refine Kc ?_ ?_
 ·intro h12
  have g13 := dt h12
  obtain ⟨r14, rfl⟩ := scc (n := r3) (by omega)
  refine KS ?_
  refine Oq Vm (Oq Va (KS ?_))
  refine Oq Vm (Oq Vm (Oq Vm (Oq (Vi sl22 0) ?_)))
  have hb15 := ok1 (i := v8_4.toNat) ho11 rng
  refine Oq (VldI sh3 0) (Oq Veql (KS ?_))
  refine Kc ?_ ?_
  ·intro h16
   have g17 := eq_of_beq h16
   refine KS ?_
   refine Oq Vm (Oq Va (KS ?_))
   have hR18 := q2 hM5 (.ret v8_4) (by simp only [slices_Index_int_L0, h12, h16, cs4])
   have hq := q4 hrr v8_4 (by simp only [slices_Index_int, h12, h16, hR18, cs4]); subst hq
   exact Kr () rfl (.tmp rfl .nil) [] en
  intro h16
  have g19 := ne_of_beq_false h16
  refine KS ?_
  refine Oq Vadd (Oq Vm (KS ?_))
  exact Kg (r14, (v8_4 + 1)) [0] ⟨(q3 hM5 (by simp only [slices_Index_int_L0, h12, h16, cs4])), (by omega), (by omega), (by omega), (by omega)⟩
 intro h12
 have g20 := df h12
 obtain rfl : r3 = 0 := by omega
 refine Ke ?_
 have hR21 := q2 hM5 (.brk ()) (by simp only [slices_Index_int_L0, h12, cs4])
 refine KS ?_
 refine Oq Va (KS ?_)
 have hq := q4 hrr (-1) (by simp only [slices_Index_int, h12, hR21, cs4]); subst hq
 exact Kr () rfl (.tmp rfl .nil) [] en
theorem fn82 (s : List Int) (sa0 : Option Addr) (sk0 : Nat) (v : Int) (hv_0 : i64ok v) (rr : Bool) (hrr : slices_Contains_int s v = rr) : FT Tryz.prog 82 #[vl sa0 sk0 s, vi v] [S sa0 sk0 s] (fun g : Unit => True) (fun g => vb rr) (fun g => []) := by
 refine FTi Tryz.func82 fun w0 M0 F0 => ?_
 unfold i64ok at hv_0
 refine Fb 8 0 fun _ => Fo 0 fun ho2 => KS ?_
 refine Oq Va (KS ?_)
 refine Oq Vm (Oq Vm ?_)
 refine letv (slices_Index_int s v) fun rv3 hg4 => ?_
 have hc5 := fn129 s sa0 sk0 v pre rv3 hg4
 refine Oc [0] ca129 hc5 ?_
 rintro - he6
 unfold i64ok at he6
 refine Oq Vgeq (Oq Va (KS ?_))
 have hq := q4 hrr (decide (0 ≤ rv3)) (by simp only [slices_Contains_int, hg4, cs4]); subst hq
 exact Kr () rfl (.tmp rfl .nil) [] trivial
theorem fn182 (m : Int) (cap0P : Value) (cap0 : GState) (cap0a1 : Option Addr) (cap0k1 : Nat) (cap0a2 : Option Addr) (cap0k2 : Nat) (cap0a5 : Option Addr) (cap0k5 : Nat) (cap0a6 : Option Addr) (cap0k6 : Nat) (hm_0 : i64ok m) (hcap0_0 : i64ok cap0.Phase) (hcap0_3 : i64ok cap0.At) (hcap0_4 : i64ok cap0.Edge) (hcap0_7 : i64ok cap0.Steps) (rr : Bool) (hrr : sDg_1 m cap0 = rr) : FT Tryz.prog 182 #[vi m, cap0P] [pv cap0P [vi cap0.Phase, vl cap0a1 cap0k1 cap0.Cone, vl cap0a2 cap0k2 cap0.Leaf, vi cap0.At, vi cap0.Edge, vl cap0a5 cap0k5 cap0.Values, vl cap0a6 cap0k6 cap0.Queue, vi cap0.Steps], S cap0a1 cap0k1 cap0.Cone, S cap0a2 cap0k2 cap0.Leaf, S cap0a5 cap0k5 cap0.Values, S cap0a6 cap0k6 cap0.Queue] (fun g : Unit => True) (fun g => vb rr) (fun g => []) := by
 refine FTi Tryz.func182 fun w0 M0 F0 => ?_
 unfold i64ok at hm_0 hcap0_0 hcap0_3 hcap0_4 hcap0_7
 refine Fb 8 1 fun _ => Fo 1 fun ho2 => Fb 1 2 fun _ => Fb 32 3 fun _ => Fb 8 4 fun _ => Fo 4 fun ho6 => KS ?_
 refine Oq Va (KS ?_)
 refine Oq (Vfa fo59_1 0) (Oq (VldF sh22 0) (Oq Vm ?_))
 refine letv (slices_Contains_int cap0.Cone m) fun rv7 hg8 => ?_
 have hc9 := fn82 cap0.Cone cap0a1 cap0k1 m pre rv7 hg8
 refine Oc [1] ca82 hc9 ?_
 rintro - -
 refine Oq Vnot (Oq Va (KS ?_))
 have hq := q4 hrr (!rv7) (by simp only [sDg_1, hg8, cs4]); subst hq
 exact Kr () rfl (.tmp rfl .nil) [] trivial
theorem fn102 (s : GSystem) (sa1 : Option Addr) (sk1 : Nat) (sa2 : Option Addr) (sk2 : Nat) (sa3 : Option Addr) (sk3 : Nat) (k : List GKnown) (ka0 : Option Addr) (kk0 : Nat) (st : GState) (sta1 : Option Addr) (stk1 : Nat) (sta2 : Option Addr) (stk2 : Nat) (sta5 : Option Addr) (stk5 : Nat) (sta6 : Option Addr) (stk6 : Nat) (hs_0 : i64ok s.Width) (hst_0 : i64ok st.Phase) (hst_3 : i64ok st.At) (hst_4 : i64ok st.Edge) (hst_7 : i64ok st.Steps) (hv : VSys s) (hlf : st.Leaf.length = st.Cone.length) (hcl : st.Cone.length ≤ 256) (hcr : ∀ x ∈ st.Cone, 0 ≤ x ∧ x < (s.Deps.length : Int)) (rr : Bool) (hrr : sDg s k st = rr) : FT Tryz.prog 102 #[.agg #[vi s.Width, vl sa1 sk1 s.Deps, vl sa2 sk2 s.Transfers, vl sa3 sk3 s.Boundary], vl ka0 kk0 k, .agg #[vi st.Phase, vl sta1 stk1 st.Cone, vl sta2 stk2 st.Leaf, vi st.At, vi st.Edge, vl sta5 stk5 st.Values, vl sta6 stk6 st.Queue, vi st.Steps]] [S sa1 sk1 s.Deps, S sa2 sk2 s.Transfers, S sa3 sk3 s.Boundary, S ka0 kk0 k, S sta1 stk1 st.Cone, S sta2 stk2 st.Leaf, S sta5 stk5 st.Values, S sta6 stk6 st.Queue] (fun g : Unit => True) (fun g => vb rr) (fun g => []) := by
 refine FTi Tryz.func102 fun w0 M0 F0 => ?_
 unfold i64ok at hs_0 hst_0 hst_3 hst_4 hst_7
 refine Fb 24 0 fun _ => Fb 88 1 fun _ => Fb 32 2 fun _ => Fb 40 3 fun _ => Fb 8 4 fun _ => Fo 4 fun ho6 => Fb 1 5 fun _ => Fb 32 6 fun _ => ?_
 refine Fb 8 7 fun _ => Fo 7 fun ho10 => ?_
 have hv1 := hv.n
 have hv2 := hv.tl
 have hv3 := hv.bl
 have hv4 := hv.w
 have hv5 := hv.dep_len
 refine KS ?_
 refine Oa (Ab [vi s.Width, vl sa1 sk1 s.Deps, vl sa2 sk2 s.Transfers, vl sa3 sk3 s.Boundary]) fun p11 => Oa (Ab [vi st.Phase, vl sta1 stk1 st.Cone, vl sta2 stk2 st.Leaf, vi st.At, vi st.Edge, vl sta5 stk5 st.Values, vl sta6 stk6 st.Queue, vi st.Steps]) fun p12 => Oq Va (KS ?_)
 refine Oq (Vfa fo59_3 0) (Oq (VldF sh3 0) (Oq Vlss (Oq Vm ?_)))
 refine Js 14 ?_ ?_
 ·intro h13
  have g14 := dt h13
  refine Osk (Osk (Osk (Osk (Osk (Osk (Oq Vpt (Oq Vm (Osk (Osk ?_)))))))))
  refine Osk (Osk (Oq Vpt (Oq Vm (Osk (Osk (Osk (Osk (Oq Vpt (KS ?_)))))))))
  refine Kt (KS ?_)
  refine Oq Va (KS ?_)
  have hq := q4 hrr false (by simp only [sDg, h13, cs4]); subst hq
  exact Kr () rfl (.tmp rfl .nil) [] trivial
 intro h13
 have g15 := df h13
 refine Oq (Vfa fo59_3 0) (Oq (VldF sh3 0) (Oq (Vfa fo59_1 0) (Oq (VldF sh22 0) (Oq (Vlen sl22) (Oq Vgeq (Oq Vpf (Oq Vm ?_)))))))
 refine Js 22 ?_ ?_
 ·intro h16
  have g17 := dt h16
  refine Osk (Osk (Osk (Osk (Oq Vpt (Oq Vm (Osk (Osk (Osk (Osk ?_)))))))))
  refine Oq Vpt (KS ?_)
  refine Kt (KS ?_)
  refine Oq Va (KS ?_)
  have hq := q4 hrr false (by simp only [sDg, h13, h16, cs4]); subst hq
  exact Kr () rfl (.tmp rfl .nil) [] trivial
 intro h16
 have g18 := df h16
 have hqa := hcr _ (getD_mem (xs := st.Cone) (i := st.At.toNat) (d := 0) (by omega))
 refine Oq (Vfa fo59_5 0) (Oq (VldF sh25 0) (Oq (Vlen sl25) (Oq Vgtr (Oq Vpf (Oq Vm ?_)))))
 refine Js 28 ?_ ?_
 ·intro h19
  have g20 := dt h19
  refine Osk (Osk (Osk (Osk (Oq Vpt (KS ?_)))))
  refine Kt (KS ?_)
  refine Oq Va (KS ?_)
  have hq := q4 hrr false (by simp only [sDg, h13, h16, h19, cs4]); subst hq
  exact Kr () rfl (.tmp rfl .nil) [] trivial
 intro h19
 have g21 := df h19
 refine Oq (Vfa fo59_6 0) (Oq (VldF sh22 0) (Oq (Vlen sl22) (Oq Vgtr (Oq Vpf (KS ?_)))))
 refine Kc ?_ ?_
 ·intro h22
  have g23 := dt h22
  refine KS ?_
  refine Oq Va (KS ?_)
  have hq := q4 hrr false (by simp only [sDg, h13, h16, h19, h22, cs4]); subst hq
  exact Kr () rfl (.tmp rfl .nil) [] trivial
 intro h22
 have g24 := df h22
 refine KS ?_
 refine Oq (Vfa fo59_1 0) (Oq (VldF sh22 0) (Oq (Vfa fo59_3 0) (Oq (VldF sh3 0) (Oq (Vi sl22 6) ?_))))
 have hb25 := ok1 (i := st.At.toNat) ho6 rng
 refine Oq (VldI sh3 6) (Oq Va ?_)
 refine KT ?_
 refine KjC (γ := Unit) (fun _ => ⟨[(1, vl ka0 kk0 k), (3, p11), (5, p12)], [pv p12 [vi st.Phase, vl sta1 stk1 st.Cone, vl sta2 stk2 st.Leaf, vi st.At, vi st.Edge, vl sta5 stk5 st.Values, vl sta6 stk6 st.Queue, vi st.Steps], pv p11 [vi s.Width, vl sa1 sk1 s.Deps, vl sa2 sk2 s.Transfers, vl sa3 sk3 s.Boundary], S sa1 sk1 s.Deps, S sa2 sk2 s.Transfers, S sa3 sk3 s.Boundary, S ka0 kk0 k, S sta1 stk1 st.Cone, S sta2 stk2 st.Leaf, S sta5 stk5 st.Values, S sta6 stk6 st.Queue], sDg_J0 s k st = rr ∧ (0 ≤ st.Edge ∧ st.Edge ≤ ((s.Deps.getD ((st.Cone.getD st.At.toNat 0) : Int).toNat []).length : Int)), 0⟩) ?_ ?_
 ·skip
  refine bool_split (decide (st.Edge < 0)) ?_ ?_
  ·intro h28
   have g29 := dt h28
   refine Kq [0, 1, 3, 7, 15, 31, 15, 79, 15, 463, 975, 1999, 4095, 8191, 16383, 32767, 65535, 131071, 262143, 524287, 524287, 2097151, 4194303, 8388607, 16777215] fmix ?_
   refine Qv [0] (Vfa fo59_4 0) (Qv [0] (VldF sh3 0) (Qb h28 [] Vlss (Qv [] Vm (Qs (Qs (Qs (Qs (Qs (Qs ?_)))))))))
   refine Qs (Qs (Qs (Qv [] Vpt (Qv [] Vm (Qs (Qs (Qs (Qs (Qs ?_)))))))))
   refine Qs (Qs (Qs (Qs (Qv [] Vpt ?_))))
   refine Qn ⟨by kernel_rfl, ?_⟩
   refine Kt (KS ?_)
   refine Oq Va (KS ?_)
   have hq := q4 hrr false (by simp only [sDg, h13, h16, h19, h22, h28, cs4]); subst hq
   exact Kr () rfl (.tmp rfl .nil) [] trivial
  intro h28
  have g30 := df h28
  refine JJ_peekL ((st.Cone.getD st.At.toNat 0) : Int).toNat 2 rfl rng fun a31 k32 => ?_
  refine Fb 8 1 fun _ => Fo 1 fun ho34 => ?_
  refine JK_drawK [0, 1, 3, 7, 15, 31, 15, 79, 15, 463, 975, 1999, 4095, 8191, 16383, 32767, 65535, 131071, 262143, 524287, 524287, 2097151, 4194303, 8388607, 16777215] fmix ?_
  refine Dv [2] (Vfa fo59_4 0) (Dv [2] (VldF sh3 0) (Db h28 [] Vlss (Dv [] Vm (Dv [2] (Vfa fo59_4 0) (Dv [2] (VldF sh3 0) (Dv [3] (Vfa fo27_1 0) (Dv [3] (VldF sh23 0) (Dv [] Vm (Dv [4] (Vi sl23 0) ?_)))))))))
  refine Dv [0] (Vld sh22 0) (Dv [] (Vlen sl22) (Dv [] Vgtr (Dv [] Vpf ?_)))
  refine bool_split (decide (((s.Deps.getD ((st.Cone.getD st.At.toNat 0) : Int).toNat []).length : Int) < st.Edge)) ?_ ?_
  ·intro h35
   have g36 := dt h35
   refine Db h35 [] Vm (Ds (Ds (Ds (Ds (Ds (Ds (Ds (Ds (Ds ?_)))))))))
   refine Dv [] Vpt ?_
   refine Dn ⟨by kernel_rfl, fun G => ?_⟩
   refine Jw2 [(1, vl ka0 kk0 k), (3, p11), (5, p12), (64, vb true)] [0, 1, 2, 3, 4, 5, 6, 7, 8, 9, 10, 11] [] ?_
   refine Kt (KS ?_)
   refine Oq Va (KS ?_)
   have hq := q4 hrr false (by simp only [sDg, h13, h16, h19, h22, h28, h35, cs4]); subst hq
   exact Kr () rfl (.tmp rfl .nil) [] trivial
  intro h35
  have g37 := df h35
  refine Db h35 [] Vm (Dv [2] (Vfa fo59_4 0) (Dv [2] (VldF sh3 0) (Dv [] Vgtr ?_)))
  refine bool_split (decide (0 < st.Edge)) ?_ ?_
  ·intro h38
   have g39 := dt h38
   refine Db h38 [] Vm (Dv [] Vm (Dv [] Vm ?_))
   refine letv (solver_find k (st.Cone.getD st.At.toNat 0)) fun rv40 hg41 => ?_
   refine Dx [7] [] [1, 0] (fun G => vi rv40) [fun G => SP.fact (i64ok rv40 ∧ (-1 ≤ rv40 ∧ rv40 < (k.length : Int)))] (fun G => xC [0] ca177 (fn177 k ka0 kk0 ((st.Cone.getD st.At.toNat 0)) pre rv40 hg41)) (Dv [] Vgeq (Dv [] Vpt (Dv [] Vpf ?_)))
   refine Dn ⟨by kernel_rfl, fun G => ?_⟩
   refine Jw2 [(1, vl ka0 kk0 k), (3, p11), (5, p12), (64, vb (decide (0 ≤ rv40)))] [0, 1, 2, 3, 4, 5, 6, 7, 8, 9, 10, 11] [SP.fact (i64ok rv40 ∧ (-1 ≤ rv40 ∧ rv40 < (k.length : Int)))] ?_
   refine Jf 12 rfl ?_; rintro ⟨he42, he43⟩
   unfold i64ok at he42
   refine Jk [0, 1, 2, 3, 4, 5, 6, 7, 8, 9, 10, 11] ?_
   refine Kc ?_ ?_
   ·intro h44
    have g45 := dt h44
    refine KS ?_
    refine Oq Va (KS ?_)
    have hq := q4 hrr false (by simp only [sDg, h13, h16, h19, h22, h28, h35, h38, h44, hg41, cs4]); subst hq
    exact Kr () rfl (.tmp rfl .nil) [] trivial
   intro h44
   have g46 := df h44
   refine KS ?_
   exact Kg () [2, 3, 4, 5, 6, 7, 8, 9, 10, 11] ⟨(q3 hrr (by simp only [sDg, h13, h16, h19, h22, h28, h35, h38, h44, hg41, cs4])), (by omega)⟩
  intro h38
  have g47 := df h38
  refine Db h38 [] Vm (Ds (Ds (Ds (Ds (Dv [] Vpf (Dv [] Vpf ?_))))))
  refine Dn ⟨by kernel_rfl, fun G => ?_⟩
  refine Jw2 [(1, vl ka0 kk0 k), (3, p11), (5, p12), (64, vb false)] [0, 1, 2, 3, 4, 5, 6, 7, 8, 9, 10, 11] [] ?_
  refine Kf (KS ?_)
  exact Kg () [2, 3, 4, 5, 6, 7, 8, 9, 10, 11] ⟨(q3 hrr (by simp only [sDg, h13, h16, h19, h22, h28, h35, h38, cs4])), (by omega)⟩
 rintro - ⟨hM26, hv27⟩
 refine JJ_nx fun _ _ hL hA => ?_; dsimp only at hL hA; subst hL hA
 refine Fb 24 2 fun _ => Fb 88 3 fun _ => Fb 32 4 fun _ => Fb 40 5 fun _ => Fb 8 6 fun _ => Fo 6 fun ho53 => Fb 1 7 fun _ => Fb 32 8 fun _ => ?_
 refine Fb 8 9 fun _ => Fo 9 fun ho57 => KS ?_
 refine Oq (Vfa fo59_1 0) (Oq (VldF sh22 0) (Oq (Vlen sl22) (Oq Vm (KS ?_))))
 refine Kl (γ := Nat × Int) (fun (r58, v68_59) => ⟨[(1, vl ka0 kk0 k), (3, p11), (5, p12), (66, vl sta1 stk1 st.Cone), (67, vi (st.Cone.length : Int)), (68, vi v68_59)], [pv p12 [vi st.Phase, vl sta1 stk1 st.Cone, vl sta2 stk2 st.Leaf, vi st.At, vi st.Edge, vl sta5 stk5 st.Values, vl sta6 stk6 st.Queue, vi st.Steps], pv p11 [vi s.Width, vl sa1 sk1 s.Deps, vl sa2 sk2 s.Transfers, vl sa3 sk3 s.Boundary], S sa1 sk1 s.Deps, S sa2 sk2 s.Transfers, S sa3 sk3 s.Boundary, S ka0 kk0 k, S sta1 stk1 st.Cone, S sta2 stk2 st.Leaf, S sta5 stk5 st.Values, S sta6 stk6 st.Queue], sDg_L0 s k st r58 v68_59 = sDg_L0 s k st (((st.Cone.length : Int) - 0).toNat) 0 ∧ r58 = ((st.Cone.length : Int) - v68_59).toNat ∧ (0 : Int) ≤ v68_59 ∧ v68_59 ≤ (st.Cone.length : Int) ∧ (-9223372036854775808 ≤ v68_59 ∧ v68_59 ≤ 9223372036854775807), r58⟩) (((st.Cone.length : Int) - 0).toNat, 0) [0, 1, 2, 3, 4, 5, 6, 7, 8, 9] ⟨rfl, rfl, (by omega), (by omega), (by omega)⟩ ?_
 rintro ⟨r58, v68_59⟩ ⟨hM60, hr61, hi62, hi63, hk64⟩
 refine JJ_nx fun _ _ hL hA => ?_; dsimp only at hL hA; subst hL hA
 refine Fb 24 2 fun _ => Fb 88 3 fun _ => Fb 32 4 fun _ => Fb 40 5 fun _ => Fb 8 6 fun _ => Fo 6 fun ho70 => Fb 1 7 fun _ => Fb 32 8 fun _ => ?_
 refine Fb 8 9 fun _ => Fo 9 fun ho74 => KS ?_
 refine Oq Vlss (KS ?_)
 refine Kc ?_ ?_
 ·intro h75
  have g76 := dt h75
  have hq := hcr _ (getD_mem (xs := st.Cone) (i := v68_59.toNat) (d := 0) (by omega))
  obtain ⟨r77, rfl⟩ := scc (n := r58) (by omega)
  refine KS ?_
  refine Oq Vm (Oq (Vi sl22 6) ?_)
  have hb78 := ok1 (i := v68_59.toNat) ho70 rng
  refine Oq (VldI sh3 6) (Oq Va (Oq Va (KS ?_)))
  refine JK_drawK [0, 1, 0, 7, 15, 0, 0, 64, 224, 480, 992, 992, 4064, 8160, 16352, 32767] fmix ?_
  refine Dv [0] (Vfa fo59_2 0) (Dv [0] (VldF sh57 0) (Dv [] Vm (Dv [7] (Vi sl57 0) (Dv [7] (VldB sh4 0) (Dv [] Vm (Dv [0] (Vfa fo59_3 0) (Dv [0] (VldF sh3 0) (Dv [] Vlss ?_))))))))
  refine bool_split (decide (v68_59 < st.At)) ?_ ?_
  ·intro h79
   have g80 := dt h79
   refine Db h79 [] Vm (Dv [] Vm (Dv [] Vm ?_))
   refine letv (solver_find k (st.Cone.getD v68_59.toNat 0)) fun rv81 hg82 => ?_
   refine Dx [5] [] [1, 0] (fun G => vi rv81) [fun G => SP.fact (i64ok rv81 ∧ (-1 ≤ rv81 ∧ rv81 < (k.length : Int)))] (fun G => xC [0] ca177 (fn177 k ka0 kk0 ((st.Cone.getD v68_59.toNat 0)) pre rv81 hg82)) (Dv [] Vgeq (Dv [] Vpt (Dv [] (Vnb un4) ?_)))
   refine Dn ⟨by kernel_rfl, fun G => ?_⟩
   refine Jw2 [(1, vl ka0 kk0 k), (3, p11), (5, p12), (66, vl sta1 stk1 st.Cone), (67, vi (st.Cone.length : Int)), (68, vi v68_59), (8, vi v68_59), (9, vi (st.Cone.getD v68_59.toNat 0)), (88, vb (!((st.Leaf.getD v68_59.toNat false) == (decide (0 ≤ rv81)))))] [0, 1, 2, 3, 4, 5, 6, 7, 8, 9] [SP.fact (i64ok rv81 ∧ (-1 ≤ rv81 ∧ rv81 < (k.length : Int)))] ?_
   refine Jf 10 rfl ?_; rintro ⟨he83, he84⟩
   unfold i64ok at he83
   refine Jk [0, 1, 2, 3, 4, 5, 6, 7, 8, 9] ?_
   refine Kc ?_ ?_
   ·intro h85
    refine KS ?_
    refine Oq Va (KS ?_)
    have hR87 := q2 hM60 (.ret false) (by simp only [sDg_L0, h13, h16, h19, h22, h75, h79, h85, hg82, cs4])
    have hq := q4 hM26 false (by simp only [sDg_J0, h13, h16, h19, h22, h75, h79, h85, hg82, hR87, cs4]); subst hq
    exact Kr () rfl (.tmp rfl .nil) [] trivial
   intro h85
   refine KS ?_
   refine Oq (Vfa fo27_1 1) (Oq (VldF sh23 1) (Oq Vm (Oq (Vi sl23 2) ?_)))
   refine JJ_peekL ((st.Cone.getD v68_59.toNat 0) : Int).toNat 2 rfl rng fun a89 k90 => ?_
   refine Fb 8 1 fun _ => Fo 1 fun ho92 => ?_
   refine Oq (Vld sh22 0) (Oq Va (KS ?_))
   refine Oq Vm (Oq (Vfa fo59_3 2) (Oq (VldF sh3 2) (Oq Veql (Oq Va (KS ?_)))))
   refine Kc ?_ ?_
   ·intro h93
    have g94 := eq_of_beq h93
    have hqe : (s.Deps.getD ((st.Cone.getD v68_59.toNat 0) : Int).toNat []).length = (s.Deps.getD ((st.Cone.getD st.At.toNat 0) : Int).toNat []).length := by rw [eq_of_beq h93]
    refine KS ?_
    refine Oq Vm (Oq (Vfa fo59_4 2) (Oq (VldF sh3 2) (Oa (Asl [1] sl22 0 (st.Edge.toNat)) fun c95 => ?_)))
    refine Jo 0 ?_; rintro a96 k97 rfl
    refine Fb 8 0 fun _ => Fo 0 fun ho99 => ?_
    have hn100 : (((s.Deps.getD ((st.Cone.getD v68_59.toNat 0) : Int).toNat []).take (st.Edge.toNat)).drop 0).length = (st.Edge.toNat) - 0 := len_slice rng rng
    refine Oq Va (KS ?_)
    refine Oq Vm (Oq (Vf [p12]) ?_)
    refine JJ_ent (Ent.pall [3, 9, 10, 11, 12] rfl rfl) ?_
    refine letv (fCF (((s.Deps.getD ((st.Cone.getD v68_59.toNat 0) : Int).toNat []).take (st.Edge.toNat)).drop 0) (fun x => sDg_1 x st)) fun rv101 hg102 => ?_
    have hc103 := fn154 ((((s.Deps.getD ((st.Cone.getD v68_59.toNat 0) : Int).toNat []).take (st.Edge.toNat)).drop 0)) a96 k97 182 [p12] (fun x => sDg_1 x st) [pv p12 [vi st.Phase, vl sta1 stk1 st.Cone, vl sta2 stk2 st.Leaf, vi st.At, vi st.Edge, vl sta5 stk5 st.Values, vl sta6 stk6 st.Queue, vi st.Steps], S sta1 stk1 st.Cone, S sta2 stk2 st.Leaf, S sta5 stk5 st.Values, S sta6 stk6 st.Queue] ca182 (fun x hx hq0 => FT_pall (A1 := _) (fn182 x  p12 st sta1 stk1 sta2 stk2 sta5 stk5 sta6 stk6 hq0 pre pre pre pre _ rfl)) rv101 hg102
    refine Oc [1, 0] ca154 hc103 ?_
    rintro - -
    refine KS ?_
    refine Kc ?_ ?_
    ·intro h104
     refine KS ?_
     refine Oq Va (KS ?_)
     have hR106 := q2 hM60 (.ret false) (by simp only [sDg_L0, h13, h16, h19, h22, h75, h79, h85, h93, h104, hg82, hg102, cs4])
     have hq := q4 hM26 false (by simp only [sDg_J0, h13, h16, h19, h22, h75, h79, h85, h93, h104, hg82, hg102, hR106, cs4]); subst hq
     exact Kr () rfl (.tmp rfl .nil) [] trivial
    intro h104
    refine KS ?_
    refine Oq Vadd (Oq Vm (KS ?_))
    exact Kg (r77, (v68_59 + 1)) [4, 5, 6, 7, 8, 9, 10, 11, 12, 13] ⟨(q3 hM60 (by simp only [sDg_L0, h13, h16, h19, h22, h75, h79, h85, h93, h104, hg82, hg102, cs4])), (by omega), (by omega), (by omega), (by omega)⟩
   intro h93
   have g108 := ne_of_beq_false h93
   refine KS ?_
   refine Oq Vm (Oq (Vfa fo59_3 2) (Oq (VldF sh3 2) (Oq Vgtr (Oq Vm ?_))))
   refine Js 108 ?_ ?_
   ·intro h109
    have g110 := dt h109
    refine Osk (Osk (Osk (Osk (Osk (Oq Vpt (Oq Va (KS ?_)))))))
    refine Kt (KS ?_)
    refine Oq Va (KS ?_)
    refine Oq Vm (Oq (Vf [p12]) ?_)
    refine Jl [] (Ent.slNil (α := Int)) ?_
    refine JJ_ent (Ent.pall [3, 9, 10, 11, 12] rfl rfl) ?_
    refine letv (fCF [] (fun x => sDg_1 x st)) fun rv111 hg112 => ?_
    have hc113 := fn154 ([]) none 0 182 [p12] (fun x => sDg_1 x st) [pv p12 [vi st.Phase, vl sta1 stk1 st.Cone, vl sta2 stk2 st.Leaf, vi st.At, vi st.Edge, vl sta5 stk5 st.Values, vl sta6 stk6 st.Queue, vi st.Steps], S sta1 stk1 st.Cone, S sta2 stk2 st.Leaf, S sta5 stk5 st.Values, S sta6 stk6 st.Queue] ca182 (fun x hx hq0 => FT_pall (A1 := _) (fn182 x  p12 st sta1 stk1 sta2 stk2 sta5 stk5 sta6 stk6 hq0 pre pre pre pre _ rfl)) rv111 hg112
    refine Oc [1, 0] ca154 hc113 ?_
    rintro - -
    refine KS ?_
    refine Kc ?_ ?_
    ·intro h114
     refine KS ?_
     refine Oq Va (KS ?_)
     have hR116 := q2 hM60 (.ret false) (by simp only [sDg_L0, h13, h16, h19, h22, h75, h79, h85, h93, h109, h114, hg82, hg112, cs4])
     have hq := q4 hM26 false (by simp only [sDg_J0, h13, h16, h19, h22, h75, h79, h85, h93, h109, h114, hg82, hg112, hR116, cs4]); subst hq
     exact Kr () rfl (.tmp rfl .nil) [] trivial
    intro h114
    refine KS ?_
    refine Oq Vadd (Oq Vm (KS ?_))
    exact Kg (r77, (v68_59 + 1)) [4, 5, 6, 7, 8, 9, 10, 11, 12, 13] ⟨(q3 hM60 (by simp only [sDg_L0, h13, h16, h19, h22, h75, h79, h85, h93, h109, h114, hg82, hg112, cs4])), (by omega), (by omega), (by omega), (by omega)⟩
   intro h109
   have g118 := df h109
   refine Oq (Vfa fo59_2 2) (Oq (VldF sh57 2) (Oq Vm (Oq (Vi sl57 9) (Oq (VldB sh4 9) (Oq Vpf (Oq Va (KS ?_)))))))
   refine Kc ?_ ?_
   ·intro h119
    have h121 := h85; rw [h119] at h121
    refine KS ?_
    refine Oq Va (KS ?_)
    refine Oq Vm (Oq (Vf [p12]) ?_)
    refine Jl [] (Ent.slNil (α := Int)) ?_
    refine JJ_ent (Ent.pall [3, 9, 10, 11, 12] rfl rfl) ?_
    refine letv (fCF [] (fun x => sDg_1 x st)) fun rv122 hg123 => ?_
    have hc124 := fn154 ([]) none 0 182 [p12] (fun x => sDg_1 x st) [pv p12 [vi st.Phase, vl sta1 stk1 st.Cone, vl sta2 stk2 st.Leaf, vi st.At, vi st.Edge, vl sta5 stk5 st.Values, vl sta6 stk6 st.Queue, vi st.Steps], S sta1 stk1 st.Cone, S sta2 stk2 st.Leaf, S sta5 stk5 st.Values, S sta6 stk6 st.Queue] ca182 (fun x hx hq0 => FT_pall (A1 := _) (fn182 x  p12 st sta1 stk1 sta2 stk2 sta5 stk5 sta6 stk6 hq0 pre pre pre pre _ rfl)) rv122 hg123
    refine Oc [1, 0] ca154 hc124 ?_
    rintro - -
    refine KS ?_
    refine Kc ?_ ?_
    ·intro h125
     refine KS ?_
     refine Oq Va (KS ?_)
     have hR127 := q2 hM60 (.ret false) (by simp only [sDg_L0, h13, h16, h19, h22, h75, h79, h85, h93, h109, h119, h125, hg82, h121, hg123, cs4])
     have hq := q4 hM26 false (by simp only [sDg_J0, h13, h16, h19, h22, h75, h79, h85, h93, h109, h119, h125, hg82, h121, hg123, hR127, cs4]); subst hq
     exact Kr () rfl (.tmp rfl .nil) [] trivial
    intro h125
    refine KS ?_
    refine Oq Vadd (Oq Vm (KS ?_))
    exact Kg (r77, (v68_59 + 1)) [4, 5, 6, 7, 8, 9, 10, 11, 12, 13] ⟨(q3 hM60 (by simp only [sDg_L0, h13, h16, h19, h22, h75, h79, h85, h93, h109, h119, h125, hg82, h121, hg123, cs4])), (by omega), (by omega), (by omega), (by omega)⟩
   intro h119
   have h130 := h85; rw [h119] at h130
   refine KS ?_
   refine Oq Vm (Oq (Vf [p12]) ?_)
   refine JJ_ent (Ent.pall [2, 8, 9, 10, 11] rfl rfl) ?_
   refine letv (fCF (s.Deps.getD ((st.Cone.getD v68_59.toNat 0) : Int).toNat []) (fun x => sDg_1 x st)) fun rv131 hg132 => ?_
   have hc133 := fn154 ((s.Deps.getD ((st.Cone.getD v68_59.toNat 0) : Int).toNat [])) a89 k90 182 [p12] (fun x => sDg_1 x st) [pv p12 [vi st.Phase, vl sta1 stk1 st.Cone, vl sta2 stk2 st.Leaf, vi st.At, vi st.Edge, vl sta5 stk5 st.Values, vl sta6 stk6 st.Queue, vi st.Steps], S sta1 stk1 st.Cone, S sta2 stk2 st.Leaf, S sta5 stk5 st.Values, S sta6 stk6 st.Queue] ca182 (fun x hx hq0 => FT_pall (A1 := _) (fn182 x  p12 st sta1 stk1 sta2 stk2 sta5 stk5 sta6 stk6 hq0 pre pre pre pre _ rfl)) rv131 hg132
   refine Oc [2, 0] ca154 hc133 ?_
   rintro - -
   refine KS ?_
   refine Kc ?_ ?_
   ·intro h134
    refine KS ?_
    refine Oq Va (KS ?_)
    have hR136 := q2 hM60 (.ret false) (by simp only [sDg_L0, h13, h16, h19, h22, h75, h79, h85, h93, h109, h119, h134, hg82, h130, hg132, cs4])
    have hq := q4 hM26 false (by simp only [sDg_J0, h13, h16, h19, h22, h75, h79, h85, h93, h109, h119, h134, hg82, h130, hg132, hR136, cs4]); subst hq
    exact Kr () rfl (.tmp rfl .nil) [] trivial
   intro h134
   refine KS ?_
   refine Oq Vadd (Oq Vm (KS ?_))
   exact Kg (r77, (v68_59 + 1)) [3, 4, 5, 6, 7, 8, 9, 10, 11, 12] ⟨(q3 hM60 (by simp only [sDg_L0, h13, h16, h19, h22, h75, h79, h85, h93, h109, h119, h134, hg82, h130, hg132, cs4])), (by omega), (by omega), (by omega), (by omega)⟩
  intro h79
  have g138 := df h79
  refine Db h79 [] Vm (Ds (Ds (Ds (Ds (Dv [] Vpf (Dv [] (Vnb un4) ?_))))))
  refine Dn ⟨by kernel_rfl, fun G => ?_⟩
  refine Jw2 [(1, vl ka0 kk0 k), (3, p11), (5, p12), (66, vl sta1 stk1 st.Cone), (67, vi (st.Cone.length : Int)), (68, vi v68_59), (8, vi v68_59), (9, vi (st.Cone.getD v68_59.toNat 0)), (88, vb (!((st.Leaf.getD v68_59.toNat false) == false)))] [0, 1, 2, 3, 4, 5, 6, 7, 8, 9] [] ?_
  refine Kc ?_ ?_
  ·intro h139
   refine KS ?_
   refine Oq Va (KS ?_)
   have hR141 := q2 hM60 (.ret false) (by simp only [sDg_L0, h13, h16, h19, h22, h75, h79, h139, cs4])
   have hq := q4 hM26 false (by simp only [sDg_J0, h13, h16, h19, h22, h75, h79, h139, hR141, cs4]); subst hq
   exact Kr () rfl (.tmp rfl .nil) [] trivial
  intro h139
  refine KS ?_
  refine Oq (Vfa fo27_1 1) (Oq (VldF sh23 1) (Oq Vm (Oq (Vi sl23 2) ?_)))
  refine JJ_peekL ((st.Cone.getD v68_59.toNat 0) : Int).toNat 2 rfl rng fun a143 k144 => ?_
  refine Fb 8 1 fun _ => Fo 1 fun ho146 => ?_
  refine Oq (Vld sh22 0) (Oq Va (KS ?_))
  refine Oq Vm (Oq (Vfa fo59_3 2) (Oq (VldF sh3 2) (Oq Veql (Oq Va (KS ?_)))))
  refine Kc ?_ ?_
  ·intro h147
   have g148 := eq_of_beq h147
   have hqe : (s.Deps.getD ((st.Cone.getD v68_59.toNat 0) : Int).toNat []).length = (s.Deps.getD ((st.Cone.getD st.At.toNat 0) : Int).toNat []).length := by rw [eq_of_beq h147]
   refine KS ?_
   refine Oq Vm (Oq (Vfa fo59_4 2) (Oq (VldF sh3 2) (Oa (Asl [1] sl22 0 (st.Edge.toNat)) fun c149 => ?_)))
   refine Jo 0 ?_; rintro a150 k151 rfl
   refine Fb 8 0 fun _ => Fo 0 fun ho153 => ?_
   have hn154 : (((s.Deps.getD ((st.Cone.getD v68_59.toNat 0) : Int).toNat []).take (st.Edge.toNat)).drop 0).length = (st.Edge.toNat) - 0 := len_slice rng rng
   refine Oq Va (KS ?_)
   refine Oq Vm (Oq (Vf [p12]) ?_)
   refine JJ_ent (Ent.pall [3, 9, 10, 11, 12] rfl rfl) ?_
   refine letv (fCF (((s.Deps.getD ((st.Cone.getD v68_59.toNat 0) : Int).toNat []).take (st.Edge.toNat)).drop 0) (fun x => sDg_1 x st)) fun rv155 hg156 => ?_
   have hc157 := fn154 ((((s.Deps.getD ((st.Cone.getD v68_59.toNat 0) : Int).toNat []).take (st.Edge.toNat)).drop 0)) a150 k151 182 [p12] (fun x => sDg_1 x st) [pv p12 [vi st.Phase, vl sta1 stk1 st.Cone, vl sta2 stk2 st.Leaf, vi st.At, vi st.Edge, vl sta5 stk5 st.Values, vl sta6 stk6 st.Queue, vi st.Steps], S sta1 stk1 st.Cone, S sta2 stk2 st.Leaf, S sta5 stk5 st.Values, S sta6 stk6 st.Queue] ca182 (fun x hx hq0 => FT_pall (A1 := _) (fn182 x  p12 st sta1 stk1 sta2 stk2 sta5 stk5 sta6 stk6 hq0 pre pre pre pre _ rfl)) rv155 hg156
   refine Oc [1, 0] ca154 hc157 ?_
   rintro - -
   refine KS ?_
   refine Kc ?_ ?_
   ·intro h158
    refine KS ?_
    refine Oq Va (KS ?_)
    have hR160 := q2 hM60 (.ret false) (by simp only [sDg_L0, h13, h16, h19, h22, h75, h79, h139, h147, h158, hg156, cs4])
    have hq := q4 hM26 false (by simp only [sDg_J0, h13, h16, h19, h22, h75, h79, h139, h147, h158, hg156, hR160, cs4]); subst hq
    exact Kr () rfl (.tmp rfl .nil) [] trivial
   intro h158
   refine KS ?_
   refine Oq Vadd (Oq Vm (KS ?_))
   exact Kg (r77, (v68_59 + 1)) [4, 5, 6, 7, 8, 9, 10, 11, 12, 13] ⟨(q3 hM60 (by simp only [sDg_L0, h13, h16, h19, h22, h75, h79, h139, h147, h158, hg156, cs4])), (by omega), (by omega), (by omega), (by omega)⟩
  intro h147
  have g162 := ne_of_beq_false h147
  refine KS ?_
  refine Oq Vm (Oq (Vfa fo59_3 2) (Oq (VldF sh3 2) (Oq Vgtr (Oq Vm ?_))))
  refine Js 108 ?_ ?_
  ·intro h163
   have g164 := dt h163
   refine Osk (Osk (Osk (Osk (Osk (Oq Vpt (Oq Va (KS ?_)))))))
   refine Kt (KS ?_)
   refine Oq Va (KS ?_)
   refine Oq Vm (Oq (Vf [p12]) ?_)
   refine Jl [] (Ent.slNil (α := Int)) ?_
   refine JJ_ent (Ent.pall [3, 9, 10, 11, 12] rfl rfl) ?_
   refine letv (fCF [] (fun x => sDg_1 x st)) fun rv165 hg166 => ?_
   have hc167 := fn154 ([]) none 0 182 [p12] (fun x => sDg_1 x st) [pv p12 [vi st.Phase, vl sta1 stk1 st.Cone, vl sta2 stk2 st.Leaf, vi st.At, vi st.Edge, vl sta5 stk5 st.Values, vl sta6 stk6 st.Queue, vi st.Steps], S sta1 stk1 st.Cone, S sta2 stk2 st.Leaf, S sta5 stk5 st.Values, S sta6 stk6 st.Queue] ca182 (fun x hx hq0 => FT_pall (A1 := _) (fn182 x  p12 st sta1 stk1 sta2 stk2 sta5 stk5 sta6 stk6 hq0 pre pre pre pre _ rfl)) rv165 hg166
   refine Oc [1, 0] ca154 hc167 ?_
   rintro - -
   refine KS ?_
   refine Kc ?_ ?_
   ·intro h168
    refine KS ?_
    refine Oq Va (KS ?_)
    have hR170 := q2 hM60 (.ret false) (by simp only [sDg_L0, h13, h16, h19, h22, h75, h79, h139, h147, h163, h168, hg166, cs4])
    have hq := q4 hM26 false (by simp only [sDg_J0, h13, h16, h19, h22, h75, h79, h139, h147, h163, h168, hg166, hR170, cs4]); subst hq
    exact Kr () rfl (.tmp rfl .nil) [] trivial
   intro h168
   refine KS ?_
   refine Oq Vadd (Oq Vm (KS ?_))
   exact Kg (r77, (v68_59 + 1)) [4, 5, 6, 7, 8, 9, 10, 11, 12, 13] ⟨(q3 hM60 (by simp only [sDg_L0, h13, h16, h19, h22, h75, h79, h139, h147, h163, h168, hg166, cs4])), (by omega), (by omega), (by omega), (by omega)⟩
  intro h163
  have g172 := df h163
  refine Oq (Vfa fo59_2 2) (Oq (VldF sh57 2) (Oq Vm (Oq (Vi sl57 9) (Oq (VldB sh4 9) (Oq Vpf (Oq Va (KS ?_)))))))
  refine Kc ?_ ?_
  ·intro h173
   have h175 := h139; rw [h173] at h175
   refine KS ?_
   refine Oq Va (KS ?_)
   refine Oq Vm (Oq (Vf [p12]) ?_)
   refine Jl [] (Ent.slNil (α := Int)) ?_
   refine JJ_ent (Ent.pall [3, 9, 10, 11, 12] rfl rfl) ?_
   refine letv (fCF [] (fun x => sDg_1 x st)) fun rv176 hg177 => ?_
   have hc178 := fn154 ([]) none 0 182 [p12] (fun x => sDg_1 x st) [pv p12 [vi st.Phase, vl sta1 stk1 st.Cone, vl sta2 stk2 st.Leaf, vi st.At, vi st.Edge, vl sta5 stk5 st.Values, vl sta6 stk6 st.Queue, vi st.Steps], S sta1 stk1 st.Cone, S sta2 stk2 st.Leaf, S sta5 stk5 st.Values, S sta6 stk6 st.Queue] ca182 (fun x hx hq0 => FT_pall (A1 := _) (fn182 x  p12 st sta1 stk1 sta2 stk2 sta5 stk5 sta6 stk6 hq0 pre pre pre pre _ rfl)) rv176 hg177
   refine Oc [1, 0] ca154 hc178 ?_
   rintro - -
   refine KS ?_
   refine Kc ?_ ?_
   ·intro h179
    refine KS ?_
    refine Oq Va (KS ?_)
    have hR181 := q2 hM60 (.ret false) (by simp only [sDg_L0, h13, h16, h19, h22, h75, h79, h139, h147, h163, h173, h179, h175, hg177, cs4])
    have hq := q4 hM26 false (by simp only [sDg_J0, h13, h16, h19, h22, h75, h79, h139, h147, h163, h173, h179, h175, hg177, hR181, cs4]); subst hq
    exact Kr () rfl (.tmp rfl .nil) [] trivial
   intro h179
   refine KS ?_
   refine Oq Vadd (Oq Vm (KS ?_))
   exact Kg (r77, (v68_59 + 1)) [4, 5, 6, 7, 8, 9, 10, 11, 12, 13] ⟨(q3 hM60 (by simp only [sDg_L0, h13, h16, h19, h22, h75, h79, h139, h147, h163, h173, h179, h175, hg177, cs4])), (by omega), (by omega), (by omega), (by omega)⟩
  intro h173
  have h184 := h139; rw [h173] at h184
  refine KS ?_
  refine Oq Vm (Oq (Vf [p12]) ?_)
  refine JJ_ent (Ent.pall [2, 8, 9, 10, 11] rfl rfl) ?_
  refine letv (fCF (s.Deps.getD ((st.Cone.getD v68_59.toNat 0) : Int).toNat []) (fun x => sDg_1 x st)) fun rv185 hg186 => ?_
  have hc187 := fn154 ((s.Deps.getD ((st.Cone.getD v68_59.toNat 0) : Int).toNat [])) a143 k144 182 [p12] (fun x => sDg_1 x st) [pv p12 [vi st.Phase, vl sta1 stk1 st.Cone, vl sta2 stk2 st.Leaf, vi st.At, vi st.Edge, vl sta5 stk5 st.Values, vl sta6 stk6 st.Queue, vi st.Steps], S sta1 stk1 st.Cone, S sta2 stk2 st.Leaf, S sta5 stk5 st.Values, S sta6 stk6 st.Queue] ca182 (fun x hx hq0 => FT_pall (A1 := _) (fn182 x  p12 st sta1 stk1 sta2 stk2 sta5 stk5 sta6 stk6 hq0 pre pre pre pre _ rfl)) rv185 hg186
  refine Oc [2, 0] ca154 hc187 ?_
  rintro - -
  refine KS ?_
  refine Kc ?_ ?_
  ·intro h188
   refine KS ?_
   refine Oq Va (KS ?_)
   have hR190 := q2 hM60 (.ret false) (by simp only [sDg_L0, h13, h16, h19, h22, h75, h79, h139, h147, h163, h173, h188, h184, hg186, cs4])
   have hq := q4 hM26 false (by simp only [sDg_J0, h13, h16, h19, h22, h75, h79, h139, h147, h163, h173, h188, h184, hg186, hR190, cs4]); subst hq
   exact Kr () rfl (.tmp rfl .nil) [] trivial
  intro h188
  refine KS ?_
  refine Oq Vadd (Oq Vm (KS ?_))
  exact Kg (r77, (v68_59 + 1)) [3, 4, 5, 6, 7, 8, 9, 10, 11, 12] ⟨(q3 hM60 (by simp only [sDg_L0, h13, h16, h19, h22, h75, h79, h139, h147, h163, h173, h188, h184, hg186, cs4])), (by omega), (by omega), (by omega), (by omega)⟩
 intro h75
 have g192 := df h75
 obtain rfl : r58 = 0 := by omega
 refine Ke ?_
 have hR193 := q2 hM60 (.brk ()) (by simp only [sDg_L0, h13, h16, h19, h22, h75, cs4])
 refine KS ?_
 refine Oq Va (KS ?_)
 have hq := q4 hM26 true (by simp only [sDg_J0, h13, h16, h19, h22, h75, hR193, cs4]); subst hq
 exact Kr () rfl (.tmp rfl .nil) [] trivial
theorem fn198 (n : Int) (cap0P : Value) (cap0 : GSystem) (cap0a1 : Option Addr) (cap0k1 : Nat) (cap0a2 : Option Addr) (cap0k2 : Nat) (cap0a3 : Option Addr) (cap0k3 : Nat) (hn_0 : i64ok n) (hcap0_0 : i64ok cap0.Width) (rr : Bool) (hrr : cone_unknowns_1 n cap0 = rr) : FT Tryz.prog 198 #[vi n, cap0P] [pv cap0P [vi cap0.Width, vl cap0a1 cap0k1 cap0.Deps, vl cap0a2 cap0k2 cap0.Transfers, vl cap0a3 cap0k3 cap0.Boundary], S cap0a1 cap0k1 cap0.Deps, S cap0a2 cap0k2 cap0.Transfers, S cap0a3 cap0k3 cap0.Boundary] (fun g : Unit => True) (fun g => vb rr) (fun g => []) := by
 refine FTi Tryz.func198 fun w0 M0 F0 => ?_
 unfold i64ok at hn_0 hcap0_0
 refine Fb 24 1 fun _ => Fb 88 2 fun _ => Fb 32 3 fun _ => KS ?_
 refine Oq Va (KS ?_)
 refine Oq Vm (Oq Vlss (Oq Vm ?_))
 refine Js 6 ?_ ?_
 ·intro h4
  have g5 := dt h4
  refine Osk (Osk (Osk (Osk (Osk (Oq Vpt (Oq Va (KS ?_)))))))
  have hq := q4 hrr true (by simp only [cone_unknowns_1, h4, cs4]); subst hq
  exact Kr () rfl (.tmp rfl .nil) [] trivial
 intro h4
 have g6 := df h4
 refine Oq Vm (Oq (Vfa fo27_1 0) (Oq (VldF sh23 0) (Oq (Vlen sl23) (Oq Vgeq (Oq Vpf (Oq Va (KS ?_)))))))
 have hq := q4 hrr (decide ((cap0.Deps.length : Int) ≤ n)) (by simp only [cone_unknowns_1, h4, cs4]); subst hq
 exact Kr () rfl (.tmp rfl .nil) [] trivial
theorem fn118 (s : GSystem) (sa1 : Option Addr) (sk1 : Nat) (sa2 : Option Addr) (sk2 : Nat) (sa3 : Option Addr) (sk3 : Nat) (l : List Int) (la0 : Option Addr) (lk0 : Nat) (hs_0 : i64ok s.Width) (rr : Bool) (hrr : cone_unknowns s l = rr) : FT Tryz.prog 118 #[.agg #[vi s.Width, vl sa1 sk1 s.Deps, vl sa2 sk2 s.Transfers, vl sa3 sk3 s.Boundary], vl la0 lk0 l] [S sa1 sk1 s.Deps, S sa2 sk2 s.Transfers, S sa3 sk3 s.Boundary, S la0 lk0 l] (fun g : Unit => True) (fun g => vb rr) (fun g => []) := by
 refine FTi Tryz.func118 fun w0 M0 F0 => ?_
 unfold i64ok at hs_0
 refine Fb 24 0 fun _ => Fb 88 1 fun _ => Fb 32 2 fun _ => Fb 8 3 fun _ => Fo 3 fun ho5 => KS ?_
 refine Oa (Ab [vi s.Width, vl sa1 sk1 s.Deps, vl sa2 sk2 s.Transfers, vl sa3 sk3 s.Boundary]) fun p6 => Oq Va (KS ?_)
 refine Oq Vm (Oq (Vf [p6]) ?_)
 refine JJ_ent (Ent.pall [0, 1, 2, 3] rfl rfl) ?_
 refine letv (fCF l (fun x => cone_unknowns_1 x s)) fun rv7 hg8 => ?_
 have hc9 := fn154 l la0 lk0 198 [p6] (fun x => cone_unknowns_1 x s) [pv p6 [vi s.Width, vl sa1 sk1 s.Deps, vl sa2 sk2 s.Transfers, vl sa3 sk3 s.Boundary], S sa1 sk1 s.Deps, S sa2 sk2 s.Transfers, S sa3 sk3 s.Boundary] ca198 (fun x hx hq0 => FT_pall (A1 := _) (fn198 x  p6 s sa1 sk1 sa2 sk2 sa3 sk3 hq0 pre _ rfl)) rv7 hg8
 refine Oc [5, 0] ca154 hc9 ?_
 rintro - -
 refine Oq Vnot (Oq Va (KS ?_))
 have hq := q4 hrr (!rv7) (by simp only [cone_unknowns, hg8, cs4]); subst hq
 exact Kr () rfl (.tmp rfl .nil) [] trivial
theorem fn238 (m : Int) (cap0P : Value) (cap0 : List Bool) (cap0a0 : Option Addr) (cap0k0 : Nat) (hm_0 : i64ok m) (hm0 : 0 ≤ m ∧ m < (cap0.length : Int)) (rr : Bool) (hrr : cone_Closed_1 m cap0 = rr) : FT Tryz.prog 238 #[vi m, cap0P] [pv cap0P [vl cap0a0 cap0k0 cap0], S cap0a0 cap0k0 cap0] (fun g : Unit => True) (fun g => vb rr) (fun g => []) := by
 refine FTi Tryz.func238 fun w0 M0 F0 => ?_
 unfold i64ok at hm_0
 refine Fb 1 1 fun _ => KS ?_
 refine Oq Va (KS ?_)
 refine Oq (Vld sh57 0) (Oq Vm (Oq (Vi sl57 1) (Oq (VldB sh4 1) (Oq Vnot (Oq Va (KS ?_))))))
 have hq := q4 hrr (!(cap0.getD m.toNat false)) (by simp only [cone_Closed_1, cs4]); subst hq
 exact Kr () rfl (.tmp rfl .nil) [] trivial
theorem fn183 (s : GSystem) (sa1 : Option Addr) (sk1 : Nat) (sa2 : Option Addr) (sk2 : Nat) (sa3 : Option Addr) (sk3 : Nat) (set_ : List Int) (set_a0 : Option Addr) (set_k0 : Nat) (leaves : List Int) (leavesa0 : Option Addr) (leavesk0 : Nat) (hs_0 : i64ok s.Width) (rr : Bool) (hrr : cone_Closed s set_ leaves = rr) : FT Tryz.prog 183 #[.agg #[vi s.Width, vl sa1 sk1 s.Deps, vl sa2 sk2 s.Transfers, vl sa3 sk3 s.Boundary], vl set_a0 set_k0 set_, vl leavesa0 leavesk0 leaves] [S sa1 sk1 s.Deps, S sa2 sk2 s.Transfers, S sa3 sk3 s.Boundary, S set_a0 set_k0 set_, S leavesa0 leavesk0 leaves] (fun g : Unit => True) (fun g => vb rr) (fun g => []) := by
 refine FTi Tryz.func183 fun w0 M0 F0 => ?_
 unfold i64ok at hs_0
 refine Fb 24 0 fun _ => Fb 88 1 fun _ => Fb 32 2 fun _ => Fb 8 3 fun _ => Fo 3 fun ho5 => Fb 8 4 fun _ => Fo 4 fun ho7 => KS ?_
 refine Oa (Ab [vi s.Width, vl sa1 sk1 s.Deps, vl sa2 sk2 s.Transfers, vl sa3 sk3 s.Boundary]) fun p8 => Oq Va (KS ?_)
 refine Oq (VldA sh27 0) ?_
 refine letv (equations_Valid s) fun rv9 hg10 => ?_
 have hc11 := fn109 s sa1 sk1 sa2 sk2 sa3 sk3 pre rv9 hg10
 refine Oc [1, 2, 3] ca109 hc11 ?_
 rintro - -
 refine Oq Vnot (Oq Vm ?_)
 refine Js 15 ?_ ?_
 ·intro h12
  have h14 := not_true h12
  refine Osk (Osk (Osk (Osk (Oq Vpt (Oq Vm (Osk (Osk (Osk (Osk ?_)))))))))
  refine Oq Vpt (KS ?_)
  refine Kt (KS ?_)
  refine Oq Va (KS ?_)
  have hq := q4 hrr false (by simp only [cone_Closed, h12, h14, hg10, cs4]); subst hq
  exact Kr () rfl (.tmp rfl .nil) [] trivial
 intro h12
 have h17 := not_false h12
 refine Oq (VldA sh27 0) (Oq Vm ?_)
 refine letv (cone_unknowns s set_) fun rv19 hg20 => ?_
 have hc21 := fn118 s sa1 sk1 sa2 sk2 sa3 sk3 set_ set_a0 set_k0 pre rv19 hg20
 refine Oc [1, 2, 3, 4] ca118 hc21 ?_
 rintro - -
 refine Oq Vnot (Oq Vpf (Oq Vm ?_))
 refine Js 21 ?_ ?_
 ·intro h22
  have h24 := not_true h22
  refine Osk (Osk (Osk (Osk (Oq Vpt (KS ?_)))))
  refine Kt (KS ?_)
  refine Oq Va (KS ?_)
  have hq := q4 hrr false (by simp only [cone_Closed, h12, h17, h22, h24, hg10, hg20, cs4]); subst hq
  exact Kr () rfl (.tmp rfl .nil) [] trivial
 intro h22
 have h27 := not_false h22
 refine Oq (VldA sh27 0) (Oq Vm ?_)
 refine letv (cone_unknowns s leaves) fun rv29 hg30 => ?_
 have hc31 := fn118 s sa1 sk1 sa2 sk2 sa3 sk3 leaves leavesa0 leavesk0 pre rv29 hg30
 refine Oc [1, 2, 3, 5] ca118 hc31 ?_
 rintro - -
 refine Oq Vnot (Oq Vpf (KS ?_))
 refine Kc ?_ ?_
 ·intro h32
  have h34 := not_true h32
  refine KS ?_
  refine Oq Va (KS ?_)
  have hq := q4 hrr false (by simp only [cone_Closed, h12, h17, h22, h27, h32, h34, hg10, hg20, hg30, cs4]); subst hq
  exact Kr () rfl (.tmp rfl .nil) [] trivial
 intro h32
 have h37 := not_false h32
 refine KS ?_
 refine Oq (Vfa fo27_1 0) (Oq (VldF sh23 0) (Oq (Vlen sl23) (Oa (Amk (α := Bool) sl57 sz57 false (fun _ _ => rfl)) fun c39 => ?_)))
 refine Jo 0 ?_; rintro a40 k41 rfl
 refine Fb 1 0 fun _ => ?_
 have hn43 := List.length_replicate (n := (s.Deps.length : Int).toNat) (a := false)
 refine Oa (Al ze57 [.slice none 0 0]) fun p44 => Ost (Scl [0] sh57 [vl a40 k41 (List.replicate (s.Deps.length : Int).toNat false)]) (KS ?_)
 refine Oq Vm (Oq (Vlen sl22) (Oq Vm (KS ?_)))
 refine Kl (γ := Nat × List Bool × Int) (fun (r45, inside0_46, v33_47) => ⟨[(1, vl set_a0 set_k0 set_), (2, vl leavesa0 leavesk0 leaves), (3, p8), (7, p44), (31, vl set_a0 set_k0 set_), (32, vi (set_.length : Int)), (33, vi v33_47)], [Cl p44 [vl a40 k41 (List.replicate (s.Deps.length : Int).toNat false)], os (vl a40 k41 (List.replicate (s.Deps.length : Int).toNat false)) inside0_46, pv p8 [vi s.Width, vl sa1 sk1 s.Deps, vl sa2 sk2 s.Transfers, vl sa3 sk3 s.Boundary], S sa1 sk1 s.Deps, S sa2 sk2 s.Transfers, S sa3 sk3 s.Boundary, S set_a0 set_k0 set_, S leavesa0 leavesk0 leaves], cone_Closed_L0 set_ r45 inside0_46 v33_47 = cone_Closed_L0 set_ (((set_.length : Int) - 0).toNat) (List.replicate (s.Deps.length : Int).toNat false) 0 ∧ r45 = ((set_.length : Int) - v33_47).toNat ∧ (0 : Int) ≤ v33_47 ∧ v33_47 ≤ (set_.length : Int) ∧ (-9223372036854775808 ≤ v33_47 ∧ v33_47 ≤ 9223372036854775807) ∧ (inside0_46.length : Int) = (s.Deps.length : Int), r45⟩) (((set_.length : Int) - 0).toNat, (List.replicate (s.Deps.length : Int).toNat false), 0) [0, 0, 0, 1, 2, 3, 4, 5] ⟨rfl, rfl, (by omega), (by omega), (by omega), iv0⟩ ?_
 rintro ⟨r45, inside0_46, v33_47⟩ ⟨hM48, hr49, hi50, hi51, hk52, hv53⟩
 refine JJ_nx fun _ _ hL hA => ?_; dsimp only at hL hA; subst hL hA
 refine Fb 1 1 fun _ => Fl 1 fun hn55 => ?_
 refine Fb 24 3 fun _ => Fb 88 4 fun _ => Fb 32 5 fun _ => Fb 8 6 fun _ => Fo 6 fun ho60 => Fb 8 7 fun _ => Fo 7 fun ho62 => KS ?_
 refine Oq Vlss (KS ?_)
 refine Kc ?_ ?_
 ·intro h63
  have g64 := dt h63
  have hv0 := EValid_deps (s := s) (by simp only [h12, h17, h22, h27, h32, h37, h63, hg10, hg20, hg30])
  have hq := (unknowns_iff s set_).1 (by simp only [h12, h17, h22, h27, h32, h37, h63, hg10, hg20, hg30]) _ (getD_mem (xs := set_) (i := v33_47.toNat) (d := 0) (by omega))
  obtain ⟨r65, rfl⟩ := scc (n := r45) (by omega)
  refine KS ?_
  refine Oq (Vi sl22 6) ?_
  have hb66 := ok1 (i := v33_47.toNat) ho60 rng
  refine Oq (VldI sh3 6) (Oq Va (KS ?_))
  refine Oq (Vld sh57 0) (Oq Vm (Oq (Vi sl57 1) (Ost (SoB [1] sh4) (KS ?_))))
  refine Oq Vadd (Oq Vm (KS ?_))
  exact Kg (r65, (inside0_46.set ((set_.getD v33_47.toNat 0) : Int).toNat true), (v33_47 + 1)) [1, 0, 0, 1, 2, 3, 4, 5] ⟨(q3 hM48 (by simp only [cone_Closed_L0, h12, h17, h22, h27, h32, h37, h63, hg10, hg20, hg30, cs4])), (by omega), (by omega), (by omega), (by omega), iv1⟩
 intro h63
 have g67 := df h63
 obtain rfl : r45 = 0 := by omega
 refine Ke ?_
 have hR68 := q2 hM48 inside0_46 (by simp only [cone_Closed_L0, h12, h17, h22, h27, h32, h37, h63, hg10, hg20, hg30, cs4])
 refine KS ?_
 refine Oq Vm (Oq (Vlen sl22) (Oq Vm (KS ?_)))
 refine Jl [0] (Ent.freezeCl _ _) ?_
 refine Jl [1] (Ent.freeze _ _) ?_
 refine Kl (γ := Nat × Int) (fun (r69, v43_70) => ⟨[(2, vl leavesa0 leavesk0 leaves), (3, p8), (7, p44), (41, vl set_a0 set_k0 set_), (42, vi (set_.length : Int)), (43, vi v43_70)], [sl (vl a40 k41 (List.replicate (s.Deps.length : Int).toNat false)) inside0_46, pv p44 [vl a40 k41 (List.replicate (s.Deps.length : Int).toNat false)], pv p8 [vi s.Width, vl sa1 sk1 s.Deps, vl sa2 sk2 s.Transfers, vl sa3 sk3 s.Boundary], S sa1 sk1 s.Deps, S sa2 sk2 s.Transfers, S sa3 sk3 s.Boundary, S set_a0 set_k0 set_, S leavesa0 leavesk0 leaves], cone_Closed_L1 s set_ leaves inside0_46 r69 v43_70 = cone_Closed_L1 s set_ leaves inside0_46 (((set_.length : Int) - 0).toNat) 0 ∧ r69 = ((set_.length : Int) - v43_70).toNat ∧ (0 : Int) ≤ v43_70 ∧ v43_70 ≤ (set_.length : Int) ∧ (-9223372036854775808 ≤ v43_70 ∧ v43_70 ≤ 9223372036854775807), r69⟩) (((set_.length : Int) - 0).toNat, 0) [0, 1, 2, 3, 4, 5, 6, 7] ⟨rfl, rfl, (by omega), (by omega), (by omega)⟩ ?_
 rintro ⟨r69, v43_70⟩ ⟨hM71, hr72, hi73, hi74, hk75⟩
 refine JJ_nx fun _ _ hL hA => ?_; dsimp only at hL hA; subst hL hA
 refine Fb 1 0 fun _ => Fl 0 fun hn77 => ?_
 refine Fb 24 3 fun _ => Fb 88 4 fun _ => Fb 32 5 fun _ => Fb 8 6 fun _ => Fo 6 fun ho82 => Fb 8 7 fun _ => Fo 7 fun ho84 => KS ?_
 refine Oq Vlss (KS ?_)
 refine Kc ?_ ?_
 ·intro h85
  have g86 := dt h85
  have hv0 := EValid_deps (s := s) (by simp only [h12, h17, h22, h27, h32, h37, h63, h85, hg10, hg20, hg30, hR68])
  have hq := (unknowns_iff s set_).1 (by simp only [h12, h17, h22, h27, h32, h37, h63, h85, hg10, hg20, hg30, hR68]) _ (getD_mem (xs := set_) (i := v43_70.toNat) (d := 0) (by omega))
  obtain ⟨r87, rfl⟩ := scc (n := r69) (by omega)
  refine KS ?_
  refine Oq (Vi sl22 6) ?_
  have hb88 := ok1 (i := v43_70.toNat) ho82 rng
  refine Oq (VldI sh3 6) (Oq Va (KS ?_))
  refine Oq Vm (Oq Vm ?_)
  refine letv (slices_Contains_int leaves (set_.getD v43_70.toNat 0)) fun rv89 hg90 => ?_
  have hc91 := fn82 leaves leavesa0 leavesk0 ((set_.getD v43_70.toNat 0)) pre rv89 hg90
  refine Oc [7] ca82 hc91 ?_
  rintro - -
  refine Oq Vnot (Oq Vm ?_)
  refine Js 51 ?_ ?_
  ·intro h92
   have h94 := not_true h92
   refine Oq (Vfa fo27_1 2) (Oq (VldF sh23 2) (Oq Vm (Oq (Vi sl23 3) ?_)))
   refine JJ_peekL ((set_.getD v43_70.toNat 0) : Int).toNat 3 rfl rng fun a96 k97 => ?_
   refine Fb 8 1 fun _ => Fo 1 fun ho99 => ?_
   refine Oq (Vld sh22 0) (Oq (Vf [p44]) ?_)
   refine Fl 2 fun hn100 => ?_; try unfold vl; rw [← hn100]
   refine JJ_ent (Ent.pall [3, 2] rfl rfl) ?_
   refine letv (fCF (s.Deps.getD ((set_.getD v43_70.toNat 0) : Int).toNat []) (fun x => cone_Closed_1 x inside0_46)) fun rv101 hg102 => ?_
   have hc103 := fn154 ((s.Deps.getD ((set_.getD v43_70.toNat 0) : Int).toNat [])) a96 k97 238 [p44] (fun x => cone_Closed_1 x inside0_46) [pv p44 [vl a40 k41 inside0_46], S a40 k41 inside0_46] ca238 (fun x hx hq0 => FT_pall (A1 := _) (fn238 x  p44 inside0_46 a40 k41 hq0 (by have hq5 := EValid_dep_mem (s := s) (by simp only [h12, h17, h22, h27, h32, h37, h63, h85, h92, h94, hg10, hg20, hg30, hR68, hg90]) hq.1 (by omega) x hx; omega) _ rfl)) rv101 hg102
   refine Oc [2, 0] ca154 hc103 ?_
   rintro - -
   refine Oq Vpt (KS ?_)
   refine Kc ?_ ?_
   ·intro h104
    refine KS ?_
    refine Oq Va (KS ?_)
    have hR106 := q2 hM71 (.ret false) (by simp only [cone_Closed_L1, h12, h17, h22, h27, h32, h37, h63, h85, h92, h94, h104, hg10, hg20, hg30, hR68, hg90, hg102, cs4])
    have hq := q4 hrr false (by simp only [cone_Closed, h12, h17, h22, h27, h32, h37, h63, h85, h92, h94, h104, hg10, hg20, hg30, hR68, hg90, hg102, hR106, cs4]); subst hq
    exact Kr () rfl (.tmp rfl .nil) [] trivial
   intro h104
   refine KS ?_
   refine Oq Vadd (Oq Vm (KS ?_))
   exact Kg (r87, (v43_70 + 1)) [3, 4, 5, 6, 7, 8, 9, 10] ⟨(q3 hM71 (by simp only [cone_Closed_L1, h12, h17, h22, h27, h32, h37, h63, h85, h92, h94, h104, hg10, hg20, hg30, hR68, hg90, hg102, cs4])), (by omega), (by omega), (by omega), (by omega)⟩
  intro h92
  have h109 := not_false h92
  refine Osk (Osk (Osk (Osk (Osk (Osk (Osk (Oq Vpf (KS ?_))))))))
  refine Kf (KS ?_)
  refine Oq Vadd (Oq Vm (KS ?_))
  exact Kg (r87, (v43_70 + 1)) [0, 1, 2, 3, 4, 5, 6, 7] ⟨(q3 hM71 (by simp only [cone_Closed_L1, h12, h17, h22, h27, h32, h37, h63, h85, h92, h109, hg10, hg20, hg30, hR68, hg90, cs4])), (by omega), (by omega), (by omega), (by omega)⟩
 intro h85
 have g111 := df h85
 obtain rfl : r69 = 0 := by omega
 refine Ke ?_
 have hR112 := q2 hM71 (.brk ()) (by simp only [cone_Closed_L1, h12, h17, h22, h27, h32, h37, h63, h85, hg10, hg20, hg30, hR68, cs4])
 refine KS ?_
 refine Oq Va (KS ?_)
 have hq := q4 hrr true (by simp only [cone_Closed, h12, h17, h22, h27, h32, h37, h63, h85, hg10, hg20, hg30, hR68, hR112, cs4]); subst hq
 exact Kr () rfl (.tmp rfl .nil) [] trivial
theorem fn103 (s : GSystem) (sa1 : Option Addr) (sk1 : Nat) (sa2 : Option Addr) (sk2 : Nat) (sa3 : Option Addr) (sk3 : Nat) (k : List GKnown) (ka0 : Option Addr) (kk0 : Nat) (st : GState) (sta1 : Option Addr) (stk1 : Nat) (sta2 : Option Addr) (stk2 : Nat) (sta5 : Option Addr) (stk5 : Nat) (sta6 : Option Addr) (stk6 : Nat) (hs_0 : i64ok s.Width) (hst_0 : i64ok st.Phase) (hst_3 : i64ok st.At) (hst_4 : i64ok st.Edge) (hst_7 : i64ok st.Steps) (hv : VSys s) (hlf : st.Leaf.length = st.Cone.length) (hcl : st.Cone.length ≤ 256) (hcr : ∀ x ∈ st.Cone, 0 ≤ x ∧ x < (s.Deps.length : Int)) (rr : Bool) (hrr : solver_solving s k st = rr) : FT Tryz.prog 103 #[.agg #[vi s.Width, vl sa1 sk1 s.Deps, vl sa2 sk2 s.Transfers, vl sa3 sk3 s.Boundary], vl ka0 kk0 k, .agg #[vi st.Phase, vl sta1 stk1 st.Cone, vl sta2 stk2 st.Leaf, vi st.At, vi st.Edge, vl sta5 stk5 st.Values, vl sta6 stk6 st.Queue, vi st.Steps]] [S sa1 sk1 s.Deps, S sa2 sk2 s.Transfers, S sa3 sk3 s.Boundary, S ka0 kk0 k, S sta1 stk1 st.Cone, S sta2 stk2 st.Leaf, S sta5 stk5 st.Values, S sta6 stk6 st.Queue] (fun g : Unit => True) (fun g => vb rr) (fun g => []) := by
 refine FTi Tryz.func103 fun w0 M0 F0 => ?_
 unfold i64ok at hs_0 hst_0 hst_3 hst_4 hst_7
 refine Fb 24 0 fun _ => Fb 88 1 fun _ => Fb 32 2 fun _ => Fb 40 3 fun _ => Fb 8 4 fun _ => Fo 4 fun ho6 => Fb 1 5 fun _ => Fb 32 6 fun _ => ?_
 refine Fb 8 7 fun _ => Fo 7 fun ho10 => ?_
 have hv1 := hv.n
 have hv2 := hv.tl
 have hv3 := hv.bl
 have hv4 := hv.w
 have hv5 := hv.dep_len
 refine KS ?_
 refine Oa (Ab [vi s.Width, vl sa1 sk1 s.Deps, vl sa2 sk2 s.Transfers, vl sa3 sk3 s.Boundary]) fun p11 => Oa (Ab [vi st.Phase, vl sta1 stk1 st.Cone, vl sta2 stk2 st.Leaf, vi st.At, vi st.Edge, vl sta5 stk5 st.Values, vl sta6 stk6 st.Queue, vi st.Steps]) fun p12 => Oq Va (KS ?_)
 refine Oq (Vfa fo59_3 0) (Oq (VldF sh3 0) (Oq Vneq (Oq Vm ?_)))
 refine Js 13 ?_ ?_
 ·intro h13
  have g14 := ne_of_bne h13
  refine Osk (Osk (Osk (Oq Vpt (Oq Vm (Osk (Osk (Osk (Osk (Osk ?_)))))))))
  refine Osk (Osk (Oq Vpt (Oq Vm (Osk (Osk (Osk (Osk (Osk (Osk ?_)))))))))
  refine Osk (Oq Vpt (Oq Vm (Osk (Osk (Osk (Osk (Osk (Osk (Osk ?_)))))))))
  refine Osk (Oq Vpt (KS ?_))
  refine Kt (KS ?_)
  refine Oq Va (KS ?_)
  have hq := q4 hrr false (by simp only [solver_solving, h13, cs4]); subst hq
  exact Kr () rfl (.tmp rfl .nil) [] trivial
 intro h13
 have g15 := eq_of_bne_false h13
 refine Oq (Vfa fo59_4 0) (Oq (VldF sh3 0) (Oq Vneq (Oq Vpf (Oq Vm ?_))))
 refine Js 18 ?_ ?_
 ·intro h16
  have g17 := ne_of_bne h16
  refine Osk (Osk (Osk (Osk (Osk (Osk (Osk (Oq Vpt (Oq Vm (Osk ?_)))))))))
  refine Osk (Osk (Osk (Osk (Osk (Osk (Oq Vpt (Oq Vm (Osk (Osk ?_)))))))))
  refine Osk (Osk (Osk (Osk (Osk (Osk (Oq Vpt (KS ?_)))))))
  refine Kt (KS ?_)
  refine Oq Va (KS ?_)
  have hq := q4 hrr false (by simp only [solver_solving, h13, h16, cs4]); subst hq
  exact Kr () rfl (.tmp rfl .nil) [] trivial
 intro h16
 have g18 := eq_of_bne_false h16
 refine Oq (Vfa fo59_5 0) (Oq (VldF sh25 0) (Oq (Vlen sl25) (Oq (Vfa fo59_1 0) (Oq (VldF sh22 0) (Oq (Vlen sl22) (Oq Vneq (Oq Vpf (Oq Vm ?_))))))))
 refine Js 27 ?_ ?_
 ·intro h19
  have g20 := ne_of_bne h19
  refine Osk (Osk (Osk (Osk (Osk (Osk (Osk (Oq Vpt (Oq Vm (Osk ?_)))))))))
  refine Osk (Osk (Osk (Osk (Osk (Osk (Osk (Oq Vpt (KS ?_))))))))
  refine Kt (KS ?_)
  refine Oq Va (KS ?_)
  have hq := q4 hrr false (by simp only [solver_solving, h13, h16, h19, cs4]); subst hq
  exact Kr () rfl (.tmp rfl .nil) [] trivial
 intro h19
 have g21 := eq_of_bne_false h19
 refine Oq (Vfa fo59_6 0) (Oq (VldF sh22 0) (Oq (Vfa fo59_1 0) (Oq (VldF sh22 0) (Oq (Vlen sl22) ?_))))
 refine letv (solver_distinct st.Queue (st.Cone.length : Int)) fun rv22 hg23 => ?_
 have hc24 := fn101 st.Queue sta6 stk6 ((st.Cone.length : Int)) pre pre rv22 hg23
 refine Oc [9] ca101 hc24 ?_
 rintro - -
 refine Oq Vnot (Oq Vpf (Oq Vm ?_))
 refine Js 36 ?_ ?_
 ·intro h25
  have h27 := not_true h25
  refine Osk (Osk (Osk (Osk (Osk (Osk (Osk (Osk (Oq Vpt (KS ?_)))))))))
  refine Kt (KS ?_)
  refine Oq Va (KS ?_)
  have hq := q4 hrr false (by simp only [solver_solving, h13, h16, h19, h25, h27, hg23, cs4]); subst hq
  exact Kr () rfl (.tmp rfl .nil) [] trivial
 intro h25
 have h30 := not_false h25
 refine Oq (Vfa fo59_6 0) (Oq (VldF sh22 0) (Oq (Vlen sl22) (Oq Veql (Oq (Vfa fo59_0 0) (Oq (VldF sh3 0) (Oq Veql (Oq (Vnb un4) (Oq Vpf (KS ?_)))))))))
 refine Kc ?_ ?_
 ·intro h32
  refine KS ?_
  refine Oq Va (KS ?_)
  have hq := q4 hrr false (by simp only [solver_solving, h13, h16, h19, h25, h30, h32, hg23, cs4]); subst hq
  exact Kr () rfl (.tmp rfl .nil) [] trivial
 intro h32
 refine KS ?_
 refine Oq Va (KS ?_)
 refine Oq (Vfa fo59_1 0) (Oq (VldF sh22 0) (Oq (Vlen sl22) (Oq Vm (KS ?_))))
 refine Jl [] (Ent.osNil (α := Int)) ?_
 refine Kl (γ := Nat × List Int × Int × Option Addr × Nat) (fun (r35, leaves_36, v49_37, a38, k39) => ⟨[(1, vl ka0 kk0 k), (3, p11), (5, p12), (7, vl a38 k39 leaves_36), (47, vl sta1 stk1 st.Cone), (48, vi (st.Cone.length : Int)), (49, vi v49_37)], [O a38 k39 leaves_36, pv p12 [vi st.Phase, vl sta1 stk1 st.Cone, vl sta2 stk2 st.Leaf, vi st.At, vi st.Edge, vl sta5 stk5 st.Values, vl sta6 stk6 st.Queue, vi st.Steps], pv p11 [vi s.Width, vl sa1 sk1 s.Deps, vl sa2 sk2 s.Transfers, vl sa3 sk3 s.Boundary], S sa1 sk1 s.Deps, S sa2 sk2 s.Transfers, S sa3 sk3 s.Boundary, S ka0 kk0 k, S sta1 stk1 st.Cone, S sta2 stk2 st.Leaf, S sta5 stk5 st.Values, S sta6 stk6 st.Queue], solver_solving_L0 s k st r35 leaves_36 v49_37 = solver_solving_L0 s k st (((st.Cone.length : Int) - 0).toNat) [] 0 ∧ r35 = ((st.Cone.length : Int) - v49_37).toNat ∧ (0 : Int) ≤ v49_37 ∧ v49_37 ≤ (st.Cone.length : Int) ∧ (-9223372036854775808 ≤ v49_37 ∧ v49_37 ≤ 9223372036854775807) ∧ (leaves_36.length : Int) ≤ v49_37, r35⟩) (((st.Cone.length : Int) - 0).toNat, [], 0, none, 0) [0, 0, 1, 2, 3, 4, 5, 6, 7, 8, 9] ⟨rfl, rfl, (by omega), (by omega), (by omega), iv0⟩ ?_
 rintro ⟨r35, leaves_36, v49_37, a38, k39⟩ ⟨hM40, hr41, hi42, hi43, hk44, hv45⟩
 refine JJ_nx fun _ _ hL hA => ?_; dsimp only at hL hA; subst hL hA
 refine Fb 8 0 fun _ => Fo 0 fun ho47 => Fb 24 3 fun _ => Fb 88 4 fun _ => Fb 32 5 fun _ => Fb 40 6 fun _ => Fb 8 7 fun _ => Fo 7 fun ho53 => ?_
 refine Fb 1 8 fun _ => Fb 32 9 fun _ => Fb 8 10 fun _ => Fo 10 fun ho57 => KS ?_
 refine Oq Vlss (KS ?_)
 refine Kc ?_ ?_
 ·intro h58
  have g59 := dt h58
  have hq := hcr _ (getD_mem (xs := st.Cone) (i := v49_37.toNat) (d := 0) (by omega))
  obtain ⟨r60, rfl⟩ := scc (n := r35) (by omega)
  refine KS ?_
  refine Oq Vm (Oq (Vi sl22 7) ?_)
  have hb61 := ok1 (i := v49_37.toNat) ho53 rng
  refine Oq (VldI sh3 7) (Oq Va (Oq Va (KS ?_)))
  refine letv (solver_find k (st.Cone.getD v49_37.toNat 0)) fun rv62 hg63 => ?_
  refine bool_split (!((st.Leaf.getD v49_37.toNat false) == (decide (0 ≤ rv62)))) ?_ ?_
  ·intro h64
   refine JK_drawK [0, 1, 0, 7, 15, 0, 0, 96, 224, 511, 1023, 2047, 4095, 2047, 16383, 32767, 65535, 131071, 262143, 524287, 1048575, 2097151, 1048575, 8388607, 16777215, 33554431, 1048575, 68157439, 268435455, 536870911] fmix ?_
   refine Dv [1] (Vfa fo59_2 0) (Dv [1] (VldF sh57 0) (Dv [] Vm (Dv [8] (Vi sl57 0) (Dv [8] (VldB sh4 0) (Dv [] Vm (Dv [] Vm (Dx [6] [] [1, 0] (fun G => vi rv62) [fun G => SP.fact (i64ok rv62 ∧ (-1 ≤ rv62 ∧ rv62 < (k.length : Int)))] (fun G => xC [0] ca177 (fn177 k ka0 kk0 ((st.Cone.getD v49_37.toNat 0)) pre rv62 hg63)) (Dv [] Vgeq (Db h64 [] (Vnb un4) ?_)))))))))
   refine Dv [] Vm (Ds (Ds (Ds (Ds (Ds (Ds (Ds (Dv [] Vpt (Dv [] Vm ?_)))))))))
   refine Ds (Ds (Ds (Ds (Ds (Ds (Ds (Ds (Ds (Dv [] Vpt ?_)))))))))
   refine Dn ⟨by kernel_rfl, fun G => ?_⟩
   refine Jw2 [(1, vl ka0 kk0 k), (3, p11), (5, p12), (7, vl a38 k39 leaves_36), (47, vl sta1 stk1 st.Cone), (48, vi (st.Cone.length : Int)), (49, vi v49_37), (8, vi v49_37), (9, vi (st.Cone.getD v49_37.toNat 0)), (83, vb true)] [0, 1, 2, 3, 4, 5, 6, 7, 8, 9, 10] [SP.fact (i64ok rv62 ∧ (-1 ≤ rv62 ∧ rv62 < (k.length : Int)))] ?_
   refine Jf 11 rfl ?_; rintro ⟨he66, he67⟩
   unfold i64ok at he66
   refine Jk [0, 0, 1, 2, 3, 4, 5, 6, 7, 8, 9] (Kt ?_)
   refine KS ?_
   refine Oq Va (KS ?_)
   have hR68 := q2 hM40 (.ret false) (by simp only [solver_solving_L0, h13, h16, h19, h25, h30, h32, h58, h64, hg23, hg63, cs4])
   have hq := q4 hrr false (by simp only [solver_solving, h13, h16, h19, h25, h30, h32, h58, h64, hg23, hg63, hR68, cs4]); subst hq
   exact Kr () rfl (.tmp rfl .nil) [] trivial
  intro h64
  refine JJ_peek_GSet v49_37.toNat 9 rfl rng fun a70 k71 hb72 => ?_
  unfold i64ok at hb72
  refine Fb 8 1 fun _ => ?_
  refine JK_drawK [0, 1, 0, 7, 15, 0, 0, 96, 224, 511, 1023, 2047, 4095, 2047, 16383, 32767, 65535, 131071, 262143, 524287, 1048575, 2097151, 1048575, 8388607, 16777215, 33554431, 1048575, 68157439, 268435455, 536870911] fmix ?_
  refine Dv [3] (Vfa fo59_2 0) (Dv [3] (VldF sh57 0) (Dv [] Vm (Dv [10] (Vi sl57 0) (Dv [10] (VldB sh4 0) (Dv [] Vm (Dv [] Vm (Dx [8] [] [1, 0] (fun G => vi rv62) [fun G => SP.fact (i64ok rv62 ∧ (-1 ≤ rv62 ∧ rv62 < (k.length : Int)))] (fun G => xC [0] ca177 (fn177 k ka0 kk0 ((st.Cone.getD v49_37.toNat 0)) pre rv62 hg63)) (Dv [] Vgeq (Db h64 [] (Vnb un4) ?_)))))))))
  refine Dv [] Vm (Dv [3] (Vfa fo59_5 0) (Dv [3] (VldF sh25 0) (Dv [] Vm ?_)))
  refine Dx [11, 13] [] [0, 1] (fun G => (eptr 2 (vl sta5 stk5 st.Values) v49_37.toNat)) [] (fun G => by refine xf 1 rfl ?_; rintro ⟨he74, he75⟩; unfold i64ok at he74; exact xV (Vi sl25 0)) (Dv [0] (VldA sh42 0) ?_)
  refine letv (bitset_Valid (st.Values.getD v49_37.toNat default)) fun rv76 hg77 => ?_
  refine Dx [1, 13] [] [1, 2, 0] (fun G => vb rv76) [fun G => SP.fact (True)] (fun G => by refine xf 1 rfl ?_; rintro ⟨he78, he79⟩; unfold i64ok at he78; exact xC [0] ca123 (fn123 ((st.Values.getD v49_37.toNat default)) a70 k71 pre rv76 hg77)) (Dv [] Vnot (Dv [] Vpf ?_))
  refine bool_split (!rv76) ?_ ?_
  ·intro h80
   have h82 := not_true h80
   refine Db h80 [] Vm (Ds (Ds (Ds (Ds (Ds (Ds (Ds (Ds (Ds ?_)))))))))
   refine Dv [] Vpt ?_
   refine Dn ⟨by kernel_rfl, fun G => ?_⟩
   refine Jw2 [(1, vl ka0 kk0 k), (3, p11), (5, p12), (7, vl a38 k39 leaves_36), (47, vl sta1 stk1 st.Cone), (48, vi (st.Cone.length : Int)), (49, vi v49_37), (8, vi v49_37), (9, vi (st.Cone.getD v49_37.toNat 0)), (83, vb true)] [0, 1, 2, 3, 4, 5, 6, 7, 8, 9, 10, 11, 12] [SP.fact (i64ok rv62 ∧ (-1 ≤ rv62 ∧ rv62 < (k.length : Int))), SP.fact (True)] ?_
   refine Jf 13 rfl ?_; rintro ⟨he84, he85⟩
   unfold i64ok at he84
   refine Jk [0, 1, 2, 2, 3, 4, 5, 6, 7, 8, 9, 10, 11] (Kt ?_)
   refine KS ?_
   refine Oq Va (KS ?_)
   have hR86 := q2 hM40 (.ret false) (by simp only [solver_solving_L0, h13, h16, h19, h25, h30, h32, h58, h64, h80, h82, hg23, hg63, hg77, cs4])
   have hq := q4 hrr false (by simp only [solver_solving, h13, h16, h19, h25, h30, h32, h58, h64, h80, h82, hg23, hg63, hg77, hR86, cs4]); subst hq
   exact Kr () rfl (.tmp rfl .nil) [] trivial
  intro h80
  have h88 := not_false h80
  refine Db h80 [] Vm (Dv [3] (Vfa fo59_5 0) (Dv [3] (VldF sh25 0) (Dv [] Vm ?_)))
  refine Dx [11, 13] [] [0, 1] (fun G => (eptr 2 (vl sta5 stk5 st.Values) v49_37.toNat)) [] (fun G => by refine xf 1 rfl ?_; rintro ⟨he90, he91⟩; unfold i64ok at he90; exact xV (Vi sl25 0)) (Dv [0] (Vfa fo42_0 0) (Dv [0] (VldF sh3 0) (Dv [4] (Vfa fo27_0 0) (Dv [4] (VldF sh3 0) (Dv [] Vneq (Dv [] Vpf ?_))))))
  refine Dn ⟨by kernel_rfl, fun G => ?_⟩
  refine Jw2 [(1, vl ka0 kk0 k), (3, p11), (5, p12), (7, vl a38 k39 leaves_36), (47, vl sta1 stk1 st.Cone), (48, vi (st.Cone.length : Int)), (49, vi v49_37), (8, vi v49_37), (9, vi (st.Cone.getD v49_37.toNat 0)), (83, vb ((st.Values.getD v49_37.toNat default).Width != s.Width))] [0, 1, 2, 3, 4, 5, 6, 7, 8, 9, 10, 11, 12] [SP.fact (i64ok rv62 ∧ (-1 ≤ rv62 ∧ rv62 < (k.length : Int))), SP.fact (True)] ?_
  refine Jf 13 rfl ?_; rintro ⟨he92, he93⟩
  unfold i64ok at he92
  refine Jk [0, 1, 2, 2, 3, 4, 5, 6, 7, 8, 9, 10, 11] ?_
  refine Kc ?_ ?_
  ·intro h94
   have g95 := ne_of_bne h94
   refine KS ?_
   refine Oq Va (KS ?_)
   have hR96 := q2 hM40 (.ret false) (by simp only [solver_solving_L0, h13, h16, h19, h25, h30, h32, h58, h64, h80, h88, h94, hg23, hg63, hg77, cs4])
   have hq := q4 hrr false (by simp only [solver_solving, h13, h16, h19, h25, h30, h32, h58, h64, h80, h88, h94, hg23, hg63, hg77, hR96, cs4]); subst hq
   exact Kr () rfl (.tmp rfl .nil) [] trivial
  intro h94
  have g97 := eq_of_bne_false h94
  refine KS ?_
  refine Oq (Vfa fo59_2 3) (Oq (VldF sh57 3) (Oq Vm (Oq (Vi sl57 10) (Oq (VldB sh4 10) (KS ?_)))))
  refine Kc ?_ ?_
  ·intro h98
   have h100 := h64; rw [h98] at h100
   refine KS ?_
   refine Oq Vm (Oq Vm (Oa (AsV sl22 sz22 [vi (st.Cone.getD v49_37.toNat 0)] [vi (st.Cone.getD v49_37.toNat 0)]) fun c101 => ?_))
   refine Jo 0 ?_; rintro a102 k103 rfl
   refine Jl [0] (Ent.crInt _ [(st.Cone.getD v49_37.toNat 0)] _ _ rfl rfl (by intro x hx; rw [List.mem_singleton] at hx; subst hx; unfold i64ok; omega) (Nat.le_of_ble_eq_true rfl)) ?_
   refine Oa (ApO [3, 0] sl22 sl22 sz22) fun c104 => ?_
   refine Jo 0 ?_; rintro a105 k106 rfl
   refine Fb 8 0 fun _ => Fo 0 fun ho108 => ?_
   have hn109 := la leaves_36 ([(st.Cone.getD v49_37.toNat 0)] : List Int)
   refine Oq Va (KS ?_)
   refine Oq Vadd (Oq Vm (KS ?_))
   exact Kg (r60, (leaves_36 ++ [(st.Cone.getD v49_37.toNat 0)]), (v49_37 + 1), a105, k106) [0, 2, 3, 4, 5, 6, 7, 8, 9, 10, 11] ⟨(q3 hM40 (by simp only [solver_solving_L0, h13, h16, h19, h25, h30, h32, h58, h64, h80, h88, h94, h98, hg23, hg63, hg77, h100, cs4])), (by omega), (by omega), (by omega), (by omega), iv1⟩
  intro h98
  have h111 := h64; rw [h98] at h111
  refine KS ?_
  refine Oq Vadd (Oq Vm (KS ?_))
  exact Kg (r60, leaves_36, (v49_37 + 1), a38, k39) [2, 2, 3, 4, 5, 6, 7, 8, 9, 10, 11] ⟨(q3 hM40 (by simp only [solver_solving_L0, h13, h16, h19, h25, h30, h32, h58, h64, h80, h88, h94, h98, hg23, hg63, hg77, h111, cs4])), (by omega), (by omega), (by omega), (by omega), iv1⟩
 intro h58
 have g112 := df h58
 obtain rfl : r35 = 0 := by omega
 refine Ke ?_
 have hR113 := q2 hM40 (.brk leaves_36) (by simp only [solver_solving_L0, h13, h16, h19, h25, h30, h32, h58, hg23, cs4])
 refine KS ?_
 refine Oq (VldA sh27 2) (Oq (Vfa fo59_1 1) (Oq (VldF sh22 1) (Oq Vm ?_)))
 refine letv (cone_Closed s st.Cone leaves_36) fun rv114 hg115 => ?_
 refine Oc [0, 2, 3, 4, 6] ca183 (FT_borrow (A := _) (fun _ _ h => by cases h) (FT_ent (Ent.take (is := [1, 2, 3, 4, 0]) rfl) (fn183 s sa1 sk1 sa2 sk2 sa3 sk3 st.Cone sta1 stk1 leaves_36 a38 k39 pre rv114 hg115))) ?_ (ht := rfl)
 rintro - -
 refine Oq Va (KS ?_)
 have hq := q4 hrr rv114 (by simp only [solver_solving, h13, h16, h19, h25, h30, h32, h58, hg23, hR113, hg115, cs4]); subst hq
 exact Kr () rfl (.tmp rfl .nil) [] trivial
theorem fn42 (s : GSystem) (sa1 : Option Addr) (sk1 : Nat) (sa2 : Option Addr) (sk2 : Nat) (sa3 : Option Addr) (sk3 : Nat) (k : List GKnown) (ka0 : Option Addr) (kk0 : Nat) (st : GState) (sta1 : Option Addr) (stk1 : Nat) (sta2 : Option Addr) (stk2 : Nat) (sta5 : Option Addr) (stk5 : Nat) (sta6 : Option Addr) (stk6 : Nat) (hs_0 : i64ok s.Width) (hst_0 : i64ok st.Phase) (hst_3 : i64ok st.At) (hst_4 : i64ok st.Edge) (hst_7 : i64ok st.Steps) (rr : Bool) (hrr : solver_Valid s k st = rr) : FT Tryz.prog 42 #[.agg #[vi s.Width, vl sa1 sk1 s.Deps, vl sa2 sk2 s.Transfers, vl sa3 sk3 s.Boundary], vl ka0 kk0 k, .agg #[vi st.Phase, vl sta1 stk1 st.Cone, vl sta2 stk2 st.Leaf, vi st.At, vi st.Edge, vl sta5 stk5 st.Values, vl sta6 stk6 st.Queue, vi st.Steps]] [S sa1 sk1 s.Deps, S sa2 sk2 s.Transfers, S sa3 sk3 s.Boundary, S ka0 kk0 k, S sta1 stk1 st.Cone, S sta2 stk2 st.Leaf, S sta5 stk5 st.Values, S sta6 stk6 st.Queue] (fun g : Unit => True) (fun g => vb rr) (fun g => []) := by
 refine FTi Tryz.func42 fun w0 M0 F0 => ?_
 unfold i64ok at hs_0 hst_0 hst_3 hst_4 hst_7
 refine Fb 24 0 fun _ => Fb 88 1 fun _ => Fb 32 2 fun _ => Fb 40 3 fun _ => Fb 8 4 fun _ => Fo 4 fun ho6 => Fb 1 5 fun _ => Fb 32 6 fun _ => ?_
 refine Fb 8 7 fun _ => Fo 7 fun ho10 => KS ?_
 refine Oa (Ab [vi s.Width, vl sa1 sk1 s.Deps, vl sa2 sk2 s.Transfers, vl sa3 sk3 s.Boundary]) fun p11 => Oa (Ab [vi st.Phase, vl sta1 stk1 st.Cone, vl sta2 stk2 st.Leaf, vi st.At, vi st.Edge, vl sta5 stk5 st.Values, vl sta6 stk6 st.Queue, vi st.Steps]) fun p12 => Oq Va (KS ?_)
 refine Oq (VldA sh27 1) (Oq Vm ?_)
 refine letv (solver_arguments s k) fun rv13 hg14 => ?_
 have hc15 := fn100 s sa1 sk1 sa2 sk2 sa3 sk3 k ka0 kk0 pre rv13 hg14
 refine Oc [2, 3, 4, 5] ca100 hc15 ?_
 rintro - -
 refine Oq Vnot (Oq Vm ?_)
 refine Js 11 ?_ ?_
 ·intro h16
  have h18 := not_true h16
  refine Osk (Osk (Osk (Osk (Oq Vpt (Oq Vm (Osk (Osk (Osk (Osk ?_)))))))))
  refine Osk (Osk (Osk (Oq Vpt (Oq Vm (Osk (Osk (Osk (Osk (Osk ?_)))))))))
  refine Osk (Osk (Oq Vpt (Oq Vm (Osk (Osk (Osk (Oq Vpt (Oq Vm (Osk ?_)))))))))
  refine Osk (Osk (Oq Vpt (KS ?_)))
  refine Kt (KS ?_)
  refine Oq Va (KS ?_)
  have hq := q4 hrr false (by simp only [solver_Valid, h16, h18, hg14, cs4]); subst hq
  exact Kr () rfl (.tmp rfl .nil) [] trivial
 intro h16
 have h21 := not_false h16
 try (have hvs := arguments_V (s := s) (k := k) (by simp only [h16, h21, hg14]); have hv1 := hvs.n; have hv4 := hvs.w)
 try (have hcr := distinct_mem (l := st.Cone) (n := (s.Deps.length : Int)) (by simp only [h16, h21, hg14]); have hcl := distinct_len (l := st.Cone) (n := (s.Deps.length : Int)) (by simp only [h16, h21, hg14]))
 refine Oq (Vfa fo59_1 0) (Oq (VldF sh22 0) (Oq (Vlen sl22) (Oq Veql (Oq Vpf (Oq Vm ?_)))))
 refine Js 17 ?_ ?_
 ·intro h23
  have g24 := eq_of_beq h23
  refine Osk (Osk (Osk (Osk (Osk (Osk (Osk (Oq Vpt (Oq Vm (Osk ?_)))))))))
  refine Osk (Osk (Osk (Osk (Osk (Osk (Oq Vpt (Oq Vm (Osk (Osk ?_)))))))))
  refine Osk (Oq Vpt (Oq Vm (Osk (Osk (Osk (Oq Vpt (KS ?_)))))))
  refine Kt (KS ?_)
  refine Oq Va (KS ?_)
  have hq := q4 hrr false (by simp only [solver_Valid, h16, h21, h23, hg14, cs4]); subst hq
  exact Kr () rfl (.tmp rfl .nil) [] trivial
 intro h23
 have g25 := ne_of_beq_false h23
 refine Oq (Vfa fo59_1 0) (Oq (VldF sh22 0) (Oq (Vfa fo27_1 1) (Oq (VldF sh23 1) (Oq (Vlen sl23) ?_))))
 refine letv (solver_distinct st.Cone (s.Deps.length : Int)) fun rv26 hg27 => ?_
 have hc28 := fn101 st.Cone sta1 stk1 ((s.Deps.length : Int)) pre pre rv26 hg27
 refine Oc [6] ca101 hc28 ?_
 rintro - -
 refine Oq Vnot (Oq Vpf (Oq Vm ?_))
 refine Js 26 ?_ ?_
 ·intro h29
  have h31 := not_true h29
  refine Osk (Osk (Osk (Osk (Osk (Osk (Osk (Oq Vpt (Oq Vm (Osk ?_)))))))))
  refine Osk (Osk (Oq Vpt (Oq Vm (Osk (Osk (Osk (Oq Vpt (KS ?_))))))))
  refine Kt (KS ?_)
  refine Oq Va (KS ?_)
  have hq := q4 hrr false (by simp only [solver_Valid, h16, h21, h23, h29, h31, hg14, hg27, cs4]); subst hq
  exact Kr () rfl (.tmp rfl .nil) [] trivial
 intro h29
 have h34 := not_false h29
 try (have hvs := arguments_V (s := s) (k := k) (by simp only [h16, h21, h23, h29, h34, hg14, hg27]); have hv1 := hvs.n; have hv4 := hvs.w)
 try (have hcr := distinct_mem (l := st.Cone) (n := (s.Deps.length : Int)) (by simp only [h16, h21, h23, h29, h34, hg14, hg27]); have hcl := distinct_len (l := st.Cone) (n := (s.Deps.length : Int)) (by simp only [h16, h21, h23, h29, h34, hg14, hg27]))
 refine Oq (Vfa fo59_2 0) (Oq (VldF sh57 0) (Oq (Vlen sl57) (Oq (Vfa fo59_1 0) (Oq (VldF sh22 0) (Oq (Vlen sl22) (Oq Vneq (Oq Vpf (Oq Vm ?_))))))))
 refine Js 35 ?_ ?_
 ·intro h36
  have g37 := ne_of_bne h36
  refine Osk (Osk (Osk (Oq Vpt (Oq Vm (Osk (Osk (Osk (Oq Vpt (KS ?_)))))))))
  refine Kt (KS ?_)
  refine Oq Va (KS ?_)
  have hq := q4 hrr false (by simp only [solver_Valid, h16, h21, h23, h29, h34, h36, hg14, hg27, cs4]); subst hq
  exact Kr () rfl (.tmp rfl .nil) [] trivial
 intro h36
 have g38 := eq_of_bne_false h36
 refine Oq (Vfa fo59_7 0) (Oq (VldF sh3 0) (Oq Vlss (Oq Vpf (Oq Vm ?_))))
 refine Js 40 ?_ ?_
 ·intro h39
  have g40 := dt h39
  refine Osk (Osk (Osk (Oq Vpt (KS ?_))))
  refine Kt (KS ?_)
  refine Oq Va (KS ?_)
  have hq := q4 hrr false (by simp only [solver_Valid, h16, h21, h23, h29, h34, h36, h39, hg14, hg27, cs4]); subst hq
  exact Kr () rfl (.tmp rfl .nil) [] trivial
 intro h39
 have g41 := df h39
 refine Oq (Vfa fo59_7 0) (Oq (VldF sh3 0) (Oq Vgtr (Oq Vpf (KS ?_))))
 refine Kc ?_ ?_
 ·intro h42
  have g43 := dt h42
  refine KS ?_
  refine Oq Va (KS ?_)
  have hq := q4 hrr false (by simp only [solver_Valid, h16, h21, h23, h29, h34, h36, h39, h42, hg14, hg27, cs4]); subst hq
  exact Kr () rfl (.tmp rfl .nil) [] trivial
 intro h42
 have g44 := df h42
 refine KS ?_
 refine Oq (Vfa fo59_0 0) (Oq (VldF sh3 0) (KS ?_))
 refine Oq Veql (Oq Va (KS ?_))
 refine Kc ?_ ?_
 ·intro h45
  have g46 := eq_of_beq h45
  refine KS ?_
  refine Oq (VldA sh27 1) (Oq Vm (Oq (VldA sh59 0) ?_))
  refine letv (sDg s k st) fun rv47 hg48 => ?_
  have hc49 := fn102 s sa1 sk1 sa2 sk2 sa3 sk3 k ka0 kk0 st sta1 stk1 sta2 stk2 sta5 stk5 sta6 stk6 pre pre pre pre pre hvs pre pre hcr rv47 hg48
  refine Oc [2, 3, 4, 5, 6, 7, 8, 9] ca102 hc49 ?_
  rintro - -
  refine Oq Va (KS ?_)
  have hq := q4 hrr rv47 (by simp only [solver_Valid, h16, h21, h23, h29, h34, h36, h39, h42, h45, hg14, hg27, hg48, cs4]); subst hq
  exact Kr () rfl (.tmp rfl .nil) [] trivial
 intro h45
 have g50 := ne_of_beq_false h45
 refine KS ?_
 refine Oq Veql (Oq Va (KS ?_))
 refine Kc ?_ ?_
 ·intro h51
  have g52 := eq_of_beq h51
  refine KS ?_
  refine Kc ?_ ?_
  ·intro h53
   have g54 := eq_of_beq h53
   refine KS ?_
   refine Oq (VldA sh27 1) (Oq Vm (Oq (VldA sh59 0) ?_))
   refine letv (solver_solving s k st) fun rv55 hg56 => ?_
   have hc57 := fn103 s sa1 sk1 sa2 sk2 sa3 sk3 k ka0 kk0 st sta1 stk1 sta2 stk2 sta5 stk5 sta6 stk6 pre pre pre pre pre hvs pre pre hcr rv55 hg56
   refine Oc [2, 3, 4, 5, 6, 7, 8, 9] ca103 hc57 ?_
   rintro - -
   refine Oq Va (KS ?_)
   have hq := q4 hrr rv55 (by simp only [solver_Valid, h16, h21, h23, h29, h34, h36, h39, h42, h45, h51, h53, hg14, hg27, hg56, cs4]); subst hq
   exact Kr () rfl (.tmp rfl .nil) [] trivial
  intro h53
  exact absurd h53 (by simp [h51])
 intro h51
 have g58 := ne_of_beq_false h51
 refine KS ?_
 refine Oq Veql (Oq Va (KS ?_))
 refine Kc ?_ ?_
 ·intro h59
  have g60 := eq_of_beq h59
  refine KS ?_
  refine Oq (VldA sh27 1) (Oq Vm (Oq (VldA sh59 0) ?_))
  refine letv (solver_solving s k st) fun rv61 hg62 => ?_
  have hc63 := fn103 s sa1 sk1 sa2 sk2 sa3 sk3 k ka0 kk0 st sta1 stk1 sta2 stk2 sta5 stk5 sta6 stk6 pre pre pre pre pre hvs pre pre hcr rv61 hg62
  refine Oc [2, 3, 4, 5, 6, 7, 8, 9] ca103 hc63 ?_
  rintro - -
  refine Oq Va (KS ?_)
  have hq := q4 hrr rv61 (by simp only [solver_Valid, h16, h21, h23, h29, h34, h36, h39, h42, h45, h51, h59, hg14, hg27, hg62, cs4]); subst hq
  exact Kr () rfl (.tmp rfl .nil) [] trivial
 intro h59
 have g64 := ne_of_beq_false h59
 refine KS ?_
 refine Oq Va (KS ?_)
 have hq := q4 hrr false (by simp only [solver_Valid, h16, h21, h23, h29, h34, h36, h39, h42, h45, h51, h59, hg14, hg27, cs4]); subst hq
 exact Kr () rfl (.tmp rfl .nil) [] trivial
theorem fn184 (s : List (BitVec 64)) (sa0 : Option Addr) (sk0 : Nat) (rr : List (BitVec 64)) (hrr : slices_Clone_uint64 s = rr) : FT Tryz.prog 184 #[vl sa0 sk0 s] [S sa0 sk0 s] (fun g : Value => (rr.length = s.length)) (fun g => g) (fun g => [os g rr]) := by
 have hm : slices_Clone_uint64 s = s := rfl
 rw [hm] at hrr
 subst hrr
 refine FTi Tryz.func184 fun w0 M0 F0 => ?_
 refine KS ?_
 refine Oq Va ?_
 refine KS ?_
 refine Oq Vm ?_
 refine Oq (VeqN un40) ?_
 refine KS ?_
 refine Kc ?_ ?_
 ·intro h
  refine Jnil 0 h ?_
  intro h0
  subst h0
  refine KS ?_
  refine Oq Va ?_
  refine KS ?_
  refine Jl [] (Ent.osNil (α := BitVec 64)) ?_
  exact Kr (.slice none 0 0) rfl (.tmp rfl .nil) [0] rfl
 ·intro _
  refine KS ?_
  refine Oa (As0 sl40) fun c1 => ?_
  refine Jo 0 ?_; rintro a2 k3 rfl
  refine Oq Vm ?_
  refine Fb 8 1 fun hl => ?_
  refine Jl [0] (Ent.crNil (α := BitVec 64) _) ?_
  refine Oa (Ap0 [0, 0] sl40 sl40 sz40) fun c4 => ?_
  refine Oq Va ?_
  refine KS ?_
  exact Kr c4 rfl (.tmp rfl .nil) [0] rfl
theorem fn106 (s : GSet) (sa1 : Option Addr) (sk1 : Nat) (hs_0 : i64ok s.Width) (rr : GSet) (hrr : solver_clone s = rr) : FT Tryz.prog 106 #[.agg #[vi s.Width, vl sa1 sk1 s.Words]] [S sa1 sk1 s.Words] (fun g : Value => i64ok rr.Width) (fun g => .agg #[vi rr.Width, g]) (fun g => [os g rr.Words]) := by
 refine FTi Tryz.func106 fun w0 M0 F0 => ?_
 unfold i64ok at hs_0
 refine Fb 8 0 fun _ => KS ?_
 refine Oa (Ab [vi s.Width, vl sa1 sk1 s.Words]) fun p2 => Oa (Al ze42 [vi 0, .slice none 0 0]) fun p3 => KS ?_
 refine JK_drawK [0, 1, 0, 4, 12, 31, 63] fmix ?_
 refine Dv [1] (Vfa fo42_0 0) (Dv [1] (VldF sh3 0) (Dv [1] (Vfa fo42_1 0) (Dv [1] (VldF sh40 0) ?_)))
 refine letv (slices_Clone_uint64 s.Words) fun rv5 hg6 => Dx [2] [] [2, 0, 1] (fun G => (G.g 4 0)) [fun G => SP.fact ((rv5.length = s.Words.length)), fun G => os (G.g 4 0) rv5] (fun G => xC [0] ca184 (fn184 s.Words sa1 sk1 rv5 hg6)) ?_
 refine Dx [4] [] [0] (fun G => .agg #[vi s.Width, (G.g 4 0)]) [] (fun G => xV (v := .agg #[vi s.Width, (G.g 4 0)]) (Vo 0 rfl (isO_os _ _) fun aq7 kq8 eq9 => (by rw [eq9]; exact Vbd st42 [vi s.Width, .slice aq7 ((rv5 : List (BitVec 64)).length) kq8]))) (Dx0 [0, 4] [0] [1, 0] [fun G => Cl p3 [vi s.Width, (G.g 4 0)]] (fun G => x1 1 rfl os_one fun ho10 => (xS (Scl [0] sh42 [vi s.Width, (G.g 4 0)] (v := .agg #[vi s.Width, (G.g 4 0)]) (h1 := show [vi s.Width, (G.g 4 0)].all (·.oneCell') = true from (by simp only [List.all_cons, List.all_nil, ho10, Bool.and_true, Bool.true_and] <;> rfl))))) ?_)
 refine Dn ⟨by kernel_rfl, fun G => ?_⟩
 refine Jw2 [(2, p3)] [1, 2] [SP.fact ((rv5.length = s.Words.length)), os (G.g 4 0) rv5, Cl p3 [vi s.Width, (G.g 4 0)]] ?_
 generalize G.g 4 0 = c4
 refine Jf 2 rfl ?_; rintro he11
 refine Jk [0, 1, 3, 3] ?_
 refine Jo 2 ?_; rintro a12 k13 rfl
 refine Fb 8 2 fun _ => ?_
 have hq := q4 hrr (GSet.mk s.Width rv5) (by simp only [solver_clone, hg6, cs4]); subst hq
 exact Kr (vl a12 k13 rv5) rfl (.cellN 3 rfl sh42 rfl (reads_Cl _ _) rfl .nil) [2] en
theorem fn175 (s : List Int) (sa0 : Option Addr) (sk0 : Nat) (rr : List Int) (hrr : slices_Clone_int s = rr) : FT Tryz.prog 175 #[vl sa0 sk0 s] [S sa0 sk0 s] (fun g : Value => (rr.length = s.length)) (fun g => g) (fun g => [os g rr]) := by
 have hm : slices_Clone_int s = s := rfl
 rw [hm] at hrr
 subst hrr
 refine FTi Tryz.func175 fun w0 M0 F0 => ?_
 refine KS ?_
 refine Oq Va ?_
 refine KS ?_
 refine Oq Vm ?_
 refine Oq (VeqN un22) ?_
 refine KS ?_
 refine Kc ?_ ?_
 ·intro h
  refine Jnil 0 h ?_
  intro h0
  subst h0
  refine KS ?_
  refine Oq Va ?_
  refine KS ?_
  refine Jl [] (Ent.osNil (α := Int)) ?_
  exact Kr (.slice none 0 0) rfl (.tmp rfl .nil) [0] rfl
 ·intro _
  refine KS ?_
  refine Oa (As0 sl22) fun c1 => ?_
  refine Jo 0 ?_; rintro a2 k3 rfl
  refine Oq Vm ?_
  refine Fb 8 1 fun hl => ?_
  refine Jl [0] (Ent.crNil (α := Int) _) ?_
  refine Oa (Ap0 [0, 0] sl22 sl22 sz22) fun c4 => ?_
  refine Oq Va ?_
  refine KS ?_
  exact Kr c4 rfl (.tmp rfl .nil) [0] rfl
theorem fn176 (s : List Bool) (sa0 : Option Addr) (sk0 : Nat) (rr : List Bool) (hrr : slices_Clone_bool s = rr) : FT Tryz.prog 176 #[vl sa0 sk0 s] [S sa0 sk0 s] (fun g : Value => (rr.length = s.length)) (fun g => g) (fun g => [os g rr]) := by
 have hm : slices_Clone_bool s = s := rfl
 rw [hm] at hrr
 subst hrr
 refine FTi Tryz.func176 fun w0 M0 F0 => ?_
 refine KS ?_
 refine Oq Va ?_
 refine KS ?_
 refine Oq Vm ?_
 refine Oq (VeqN un57) ?_
 refine KS ?_
 refine Kc ?_ ?_
 ·intro h
  refine Jnil 0 h ?_
  intro h0
  subst h0
  refine KS ?_
  refine Oq Va ?_
  refine KS ?_
  refine Jl [] (Ent.osNil (α := Bool)) ?_
  exact Kr (.slice none 0 0) rfl (.tmp rfl .nil) [0] rfl
 ·intro _
  refine KS ?_
  refine Oa (As0 sl57) fun c1 => ?_
  refine Jo 0 ?_; rintro a2 k3 rfl
  refine Oq Vm ?_
  refine Fb 1 1 fun hl => ?_
  refine Jl [0] (Ent.crNil (α := Bool) _) ?_
  refine Oa (Ap0 [0, 0] sl57 sl57 sz57) fun c4 => ?_
  refine Oq Va ?_
  refine KS ?_
  exact Kr c4 rfl (.tmp rfl .nil) [0] rfl
theorem fn93 (st : GState) (sta1 : Option Addr) (stk1 : Nat) (sta2 : Option Addr) (stk2 : Nat) (sta5 : Option Addr) (stk5 : Nat) (sta6 : Option Addr) (stk6 : Nat) (hst_0 : i64ok st.Phase) (hst_3 : i64ok st.At) (hst_4 : i64ok st.Edge) (hst_7 : i64ok st.Steps) (rr : GState) (hrr : solver_copied st = rr) : FT Tryz.prog 93 #[.agg #[vi st.Phase, vl sta1 stk1 st.Cone, vl sta2 stk2 st.Leaf, vi st.At, vi st.Edge, vl sta5 stk5 st.Values, vl sta6 stk6 st.Queue, vi st.Steps]] [S sta1 stk1 st.Cone, S sta2 stk2 st.Leaf, S sta5 stk5 st.Values, S sta6 stk6 st.Queue] (fun g : Value × Value × Value × Value => i64ok rr.Phase ∧ i64ok rr.At ∧ i64ok rr.Edge ∧ i64ok rr.Steps) (fun g => .agg #[vi rr.Phase, g.1, g.2.1, vi rr.At, vi rr.Edge, g.2.2.1, g.2.2.2, vi rr.Steps]) (fun g => [os g.1 rr.Cone, os g.2.1 rr.Leaf, os g.2.2.1 rr.Values, os g.2.2.2 rr.Queue]) := by
 refine FTi Tryz.func93 fun w0 M0 F0 => ?_
 unfold i64ok at hst_0 hst_3 hst_4 hst_7
 refine Fb 8 0 fun _ => Fo 0 fun ho2 => Fb 1 1 fun _ => Fb 32 2 fun _ => Fb 8 3 fun _ => Fo 3 fun ho6 => KS ?_
 refine Oa (Ab [vi st.Phase, vl sta1 stk1 st.Cone, vl sta2 stk2 st.Leaf, vi st.At, vi st.Edge, vl sta5 stk5 st.Values, vl sta6 stk6 st.Queue, vi st.Steps]) fun p7 => Oa (Al ze59 [vi 0, .slice none 0 0, .slice none 0 0, vi 0, vi 0, .slice none 0 0, .slice none 0 0, vi 0]) fun p8 => KS ?_
 refine Oq (VldA sh59 1) (Oa (Al ze59 [vi 0, .slice none 0 0, .slice none 0 0, vi 0, vi 0, .slice none 0 0, .slice none 0 0, vi 0]) fun p9 => Ost (Scl [0] sh59 [vi st.Phase, vl sta1 stk1 st.Cone, vl sta2 stk2 st.Leaf, vi st.At, vi st.Edge, vl sta5 stk5 st.Values, vl sta6 stk6 st.Queue, vi st.Steps]) (KS ?_))
 refine Jp 0 fun hp10 => ?_
 refine JK_drawK [0, 1, 3, 0, 8, 31, 0, 64, 255, 7, 1023, 2047, 4095, 8191, 16383] fmix ?_
 refine Dv [3] (Vfa fo59_1 0) (Dv [3] (VldF sh22 0) ?_)
 refine letv (slices_Clone_int st.Cone) fun rv12 hg13 => ?_
 refine Dx [4] [] [2, 0, 1] (fun G => (G.g 2 0)) [fun G => SP.fact ((rv12.length = st.Cone.length)), fun G => os (G.g 2 0) rv12] (fun G => xC [0] ca175 (fn175 st.Cone sta1 stk1 rv12 hg13)) (Dv [3] (Vfa fo59_2 0) (Dv [3] (VldF sh57 0) ?_))
 refine letv (slices_Clone_bool st.Leaf) fun rv15 hg16 => ?_
 refine Dx [5] [] [2, 0, 1] (fun G => (G.g 5 0)) [fun G => SP.fact ((rv15.length = st.Leaf.length)), fun G => os (G.g 5 0) rv15] (fun G => xC [0] ca176 (fn176 st.Leaf sta2 stk2 rv15 hg16)) (Dv [3] (Vfa fo59_6 0) (Dv [3] (VldF sh22 0) ?_))
 refine letv (slices_Clone_int st.Queue) fun rv18 hg19 => ?_
 refine Dx [7] [] [2, 0, 1] (fun G => (G.g 8 0)) [fun G => SP.fact ((rv18.length = st.Queue.length)), fun G => os (G.g 8 0) rv18] (fun G => xC [0] ca175 (fn175 st.Queue sta6 stk6 rv18 hg19)) (Dv [0] (Vfa fo59_1 0) (Dx0 [1, 9] [1] [1, 0] [fun G => Cl p9 [vi st.Phase, (G.g 2 0), vl sta2 stk2 st.Leaf, vi st.At, vi st.Edge, vl sta5 stk5 st.Values, vl sta6 stk6 st.Queue, vi st.Steps]] (fun G => x1 1 rfl os_one fun ho20 => (xS (OpS.frame [0] rfl (OpS.storeClF [(G.g 2 0)] [vi st.Phase, (G.g 2 0), vl sta2 stk2 st.Leaf, vi st.At, vi st.Edge, vl sta5 stk5 st.Values, vl sta6 stk6 st.Queue, vi st.Steps] rfl rfl rfl sh22 (cells_of_one ho20) rfl (by simp only [List.all_cons, List.all_nil, ho20, Bool.and_true, Bool.true_and] <;> rfl) (Nat.le_of_ble_eq_true rfl) rfl)))) (Dv [0] (Vfa fo59_2 0) (Dx0 [11, 14] [14] [1, 0] [fun G => Cl p9 [vi st.Phase, (G.g 2 0), (G.g 5 0), vi st.At, vi st.Edge, vl sta5 stk5 st.Values, vl sta6 stk6 st.Queue, vi st.Steps]] (fun G => x1 0 rfl os_one fun ho21 => (xS (OpS.frame [1] rfl (OpS.storeClF [(G.g 5 0)] [vi st.Phase, (G.g 2 0), (G.g 5 0), vi st.At, vi st.Edge, vl sta5 stk5 st.Values, vl sta6 stk6 st.Queue, vi st.Steps] rfl rfl rfl sh57 (cells_of_one ho21) rfl (by simp only [List.all_cons, List.all_nil, ho21, Bool.and_true, Bool.true_and] <;> rfl) (Nat.le_of_ble_eq_true rfl) rfl)))) (Dv [0] (Vfa fo59_6 0) (Dx0 [13, 15] [15] [1, 0] [fun G => Cl p9 [vi st.Phase, (G.g 2 0), (G.g 5 0), vi st.At, vi st.Edge, vl sta5 stk5 st.Values, (G.g 8 0), vi st.Steps]] (fun G => x1 0 rfl os_one fun ho22 => (xS (OpS.frame [1] rfl (OpS.storeClF [(G.g 8 0)] [vi st.Phase, (G.g 2 0), (G.g 5 0), vi st.At, vi st.Edge, vl sta5 stk5 st.Values, (G.g 8 0), vi st.Steps] rfl rfl rfl sh22 (cells_of_one ho22) rfl (by simp only [List.all_cons, List.all_nil, ho22, Bool.and_true, Bool.true_and] <;> rfl) (Nat.le_of_ble_eq_true rfl) rfl)))) ?_))))))
 refine Dn ⟨by kernel_rfl, fun G => ?_⟩
 refine Jw2 [(1, p7), (2, p8), (3, p9)] [0, 2, 3, 4, 5, 6, 7] [SP.fact ((rv12.length = st.Cone.length)), os (G.g 2 0) rv12, SP.fact ((rv15.length = st.Leaf.length)), os (G.g 5 0) rv15, SP.fact ((rv18.length = st.Queue.length)), os (G.g 8 0) rv18, Cl p9 [vi st.Phase, (G.g 2 0), (G.g 5 0), vi st.At, vi st.Edge, vl sta5 stk5 st.Values, (G.g 8 0), vi st.Steps]] ?_
 generalize G.g 2 0 = c11, G.g 5 0 = c14, G.g 8 0 = c17
 refine Jf 7 rfl ?_; rintro he23
 refine Jf 9 rfl ?_; rintro he24
 refine Jf 11 rfl ?_; rintro he25
 refine Jk [1, 1, 2, 3, 4, 5, 7, 8, 9, 9] ?_
 refine Jo 6 ?_; rintro a26 k27 rfl
 refine Fb 8 6 fun _ => Fo 6 fun ho29 => ?_
 refine Jo 7 ?_; rintro a30 k31 rfl
 refine Fb 1 7 fun _ => ?_
 refine Jo 8 ?_; rintro a33 k34 rfl
 refine Fb 8 8 fun _ => Fo 8 fun ho36 => KS ?_
 refine Oq (Vfa fo59_5 9) (Ost (SclF [9] sh25 [vi st.Phase, vl a26 k27 rv12, vl a30 k31 rv15, vi st.At, vi st.Edge, .slice none 0 0, vl a33 k34 rv18, vi st.Steps]) (KS ?_))
 refine Oq (Vfa fo59_5 2) (Oq (VldF sh25 2) (Oq (Vlen sl25) (Oq Vm (KS ?_))))
 refine Jl [] (Ent.osNil (α := GSet)) ?_
 refine Kl (γ := Nat × List GSet × Int × Option Addr × Nat) (fun (r37, out5_38, v23_39, a40, k41) => ⟨[(2, p8), (3, p9), (21, vl sta5 stk5 st.Values), (22, vi (st.Values.length : Int)), (23, vi v23_39)], [O a40 k41 out5_38, Cl p9 [vi st.Phase, vl a26 k27 rv12, vl a30 k31 rv15, vi st.At, vi st.Edge, vl a40 k41 out5_38, vl a33 k34 rv18, vi st.Steps], Cl p8 [vi 0, .slice none 0 0, .slice none 0 0, vi 0, vi 0, .slice none 0 0, .slice none 0 0, vi 0], S sta5 stk5 st.Values, O a26 k27 rv12, O a30 k31 rv15, O a33 k34 rv18], solver_copied_L0 st r37 out5_38 v23_39 = solver_copied_L0 st (((st.Values.length : Int) - 0).toNat) [] 0 ∧ r37 = ((st.Values.length : Int) - v23_39).toNat ∧ (0 : Int) ≤ v23_39 ∧ v23_39 ≤ (st.Values.length : Int) ∧ (-9223372036854775808 ≤ v23_39 ∧ v23_39 ≤ 9223372036854775807) ∧ (out5_38.length : Int) = v23_39, r37⟩) (((st.Values.length : Int) - 0).toNat, [], 0, none, 0) [0, 0, 0, 3, 5, 5, 5] ⟨rfl, rfl, (by omega), (by omega), (by omega), iv0⟩ ?_
 rintro ⟨r37, out5_38, v23_39, a40, k41⟩ ⟨hM42, hr43, hi44, hi45, hk46, hv47⟩
 refine JJ_nx fun _ _ hL hA => ?_; dsimp only at hL hA; subst hL hA
 refine Fb 32 0 fun _ => Fb 32 3 fun _ => Fb 8 4 fun _ => Fo 4 fun ho51 => Fb 1 5 fun _ => Fb 8 6 fun _ => Fo 6 fun ho54 => KS ?_
 refine Oq Vlss (KS ?_)
 refine Kc ?_ ?_
 ·intro h55
  have g56 := dt h55
  obtain ⟨r57, rfl⟩ := scc (n := r37) (by omega)
  refine KS ?_
  refine Oq (Vi sl25 3) ?_
  refine JJ_peek_GSet v23_39.toNat 3 rfl rng fun a58 k59 hb60 => ?_
  unfold i64ok at hb60
  refine Fb 8 1 fun _ => ?_
  refine Oq (VldA sh42 0) (Oa (Al ze42 [vi 0, .slice none 0 0]) fun p62 => Ost (Scl [0] sh42 [vi ((st.Values.getD v23_39.toNat default).Width), vl a58 k59 ((st.Values.getD v23_39.toNat default).Words)]) (KS ?_))
  refine Jp 4 fun hp63 => ?_
  refine JK_drawK [0, 1, 0, 4, 12, 31, 63, 127] fmix ?_
  refine Dv [0] (Vfa fo59_5 0) (Dv [5] (VldF sh25 0) (Dv [1] (VldA sh42 0) ?_))
  refine letv (solver_clone (st.Values.getD v23_39.toNat default)) fun rv65 hg66 => ?_
  refine Dx [3] [] [2, 0, 1] (fun G => .agg #[vi rv65.Width, (G.g 3 0)]) [fun G => SP.fact (i64ok rv65.Width), fun G => os (G.g 3 0) rv65.Words] (fun G => xC [0] ca106 (fn106 ((st.Values.getD v23_39.toNat default)) a58 k59 pre rv65 hg66)) (Dx [] [] [0] (fun G => (G.g 4 0)) [fun G => Cr (G.g 4 0) 1 [vi rv65.Width, (G.g 3 0)]] (fun G => xA (AsV sl25 sz25 [.agg #[vi rv65.Width, (G.g 3 0)]] [vi rv65.Width, (G.g 3 0)])) ?_)
  have hn69 := la out5_38 ([rv65] : List GSet)
  refine Dx [4, 11, 12, 13] [4, 12, 13] [3, 1, 0] (fun G => (G.g 5 0)) [fun G => sl (G.g 3 0) rv65.Words, fun G => os (G.g 5 0) ((out5_38 ++ [rv65]) : List GSet)] (fun G => by refine xf 1 rfl ?_; rintro he70; unfold i64ok at he70; exact xp [2] rfl (Ent.freeze _ _) (xp [3, 0] rfl (Ent.cr1 (α := GSet) (A := [sl (G.g 3 0) rv65.Words]) _ rv65 _ (Nat.le_of_ble_eq_true rfl) (fun h => ⟨_, rfl, (by unfold i64ok; first | omega | (dsimp only; omega)), sepAll_get (i := 0) rfl h⟩)) (xA (ApO [3, 0] sl25 sl25 sz25)))) (Dv [0] (Vfa fo59_5 0) (Dx0 [5, 15] [5] [1, 0] [fun G => Cl p9 [vi st.Phase, vl a26 k27 rv12, vl a30 k31 rv15, vi st.At, vi st.Edge, (G.g 5 0), vl a33 k34 rv18, vi st.Steps]] (fun G => x1 1 rfl os_one fun ho71 => (xS (OpS.frame [0] rfl (OpS.storeClF [(G.g 5 0)] [vi st.Phase, vl a26 k27 rv12, vl a30 k31 rv15, vi st.At, vi st.Edge, (G.g 5 0), vl a33 k34 rv18, vi st.Steps] rfl rfl rfl sh25 (cells_of_one ho71) rfl (by simp only [List.all_cons, List.all_nil, ho71, Bool.and_true, Bool.true_and] <;> rfl) (Nat.le_of_ble_eq_true rfl) rfl)))) ?_))
  refine Dn ⟨by kernel_rfl, fun G => ?_⟩
  refine Jw2 [(2, p8), (3, p9), (21, vl sta5 stk5 st.Values), (22, vi (st.Values.length : Int)), (23, vi v23_39)] [0, 1, 2, 3, 6, 7, 8, 9, 10] [SP.fact (i64ok rv65.Width), sl (G.g 3 0) rv65.Words, os (G.g 5 0) ((out5_38 ++ [rv65]) : List GSet), Cl p9 [vi st.Phase, vl a26 k27 rv12, vl a30 k31 rv15, vi st.At, vi st.Edge, (G.g 5 0), vl a33 k34 rv18, vi st.Steps]] ?_
  generalize G.g 3 0 = c64, G.g 5 0 = c68
  refine Jf 9 rfl ?_; rintro he72
  unfold i64ok at he72
  refine Jk [1, 1, 2, 3, 3, 4, 4, 4, 5, 6, 6] ?_
  refine Jo 8 ?_; rintro a73 k74 rfl
  refine Fb 8 8 fun _ => ?_
  refine Jo 9 ?_; rintro a76 k77 rfl
  refine Fb 32 9 fun _ => KS ?_
  refine Oq Vadd (Oq Vm (KS ?_))
  exact Kg (r57, (out5_38 ++ [rv65]), (v23_39 + 1), a76, k77) [9, 9, 3, 3, 4, 4, 4] ⟨(q3 hM42 (by simp only [solver_copied_L0, h55, hg13, hg16, hg19, hg66, cs4])), (by omega), (by omega), (by omega), (by omega), iv1⟩
 intro h55
 have g79 := df h55
 obtain rfl : r37 = 0 := by omega
 refine Ke ?_
 have hR80 := q2 hM42 out5_38 (by simp only [solver_copied_L0, h55, hg13, hg16, hg19, cs4])
 refine KS ?_
 refine Oq (VldA sh59 1) (Ost (Scl [2] sh59 [vi st.Phase, vl a26 k27 rv12, vl a30 k31 rv15, vi st.At, vi st.Edge, vl a40 k41 out5_38, vl a33 k34 rv18, vi st.Steps]) (KS ?_))
 have hq := q4 hrr (GState.mk st.Phase rv12 rv15 st.At st.Edge out5_38 rv18 st.Steps) (by simp only [solver_copied, h55, hg13, hg16, hg19, hR80, cs4]); subst hq
 exact Kr (vl a26 k27 rv12, vl a30 k31 rv15, vl a40 k41 out5_38, vl a33 k34 rv18) rfl (.cellN 0 rfl sh59 rfl (reads_Cl _ _) rfl .nil) [4, 4, 1, 3] en
theorem fn178 (s : GSystem) (sa1 : Option Addr) (sk1 : Nat) (sa2 : Option Addr) (sk2 : Nat) (sa3 : Option Addr) (sk3 : Nat) (k : List GKnown) (ka0 : Option Addr) (kk0 : Nat) (stP : Value) (st : GState) (sta1 : Option Addr) (stk1 : Nat) (sta2 : Option Addr) (stk2 : Nat) (sta5 : Option Addr) (stk5 : Nat) (sta6 : Option Addr) (stk6 : Nat) (hs_0 : i64ok s.Width) (hst_0 : i64ok st.Phase) (hst_3 : i64ok st.At) (hst_4 : i64ok st.Edge) (hst_7 : i64ok st.Steps) (hv : VSys s) (hd : BOk s k st) (rr : GState) (hrr : solver_begin s k st = rr) : FT Tryz.prog 178 #[.agg #[vi s.Width, vl sa1 sk1 s.Deps, vl sa2 sk2 s.Transfers, vl sa3 sk3 s.Boundary], vl ka0 kk0 k, stP] [S sa1 sk1 s.Deps, S sa2 sk2 s.Transfers, S sa3 sk3 s.Boundary, S ka0 kk0 k, Cl stP [vi st.Phase, vl sta1 stk1 st.Cone, vl sta2 stk2 st.Leaf, vi st.At, vi st.Edge, vl sta5 stk5 st.Values, vl sta6 stk6 st.Queue, vi st.Steps], O sta1 stk1 st.Cone, O sta2 stk2 st.Leaf, O sta5 stk5 st.Values, O sta6 stk6 st.Queue] (fun g : Value × Value × Value × Value => i64ok rr.Phase ∧ i64ok rr.At ∧ i64ok rr.Edge ∧ i64ok rr.Steps) (fun g => .tuple #[]) (fun g => [Cl stP [vi rr.Phase, g.1, g.2.1, vi rr.At, vi rr.Edge, g.2.2.1, g.2.2.2, vi rr.Steps], os g.1 rr.Cone, os g.2.1 rr.Leaf, os g.2.2.1 rr.Values, os g.2.2.2 rr.Queue]) := by
 refine FTi Tryz.func178 fun w0 M0 F0 => ?_
 unfold i64ok at hs_0 hst_0 hst_3 hst_4 hst_7
 refine Fb 24 0 fun _ => Fb 88 1 fun _ => Fb 32 2 fun _ => Fb 40 3 fun _ => Fb 8 5 fun _ => Fo 5 fun ho6 => Fb 1 6 fun _ => Fb 32 7 fun _ => ?_
 refine Fb 8 8 fun _ => Fo 8 fun ho10 => ?_
 have hv1 := hv.n
 have hv2 := hv.tl
 have hv3 := hv.bl
 have hv4 := hv.w
 have hv5 := hv.dep_len
 have hcr := hd.cr
 have hq1 := hd.lf
 have hq2 := hd.cl
 have hq3 := hd.vl
 have hq4 := hd.ql
 refine KS ?_
 refine Oa (Ab [vi s.Width, vl sa1 sk1 s.Deps, vl sa2 sk2 s.Transfers, vl sa3 sk3 s.Boundary]) fun p11 => KS ?_
 refine Oq Vm (Oq Vm (Oq (Vn 5) (Oq (Vfa fo59_0 5) (Ost (SclF [5] sh3 [vi 2, vl sta1 stk1 st.Cone, vl sta2 stk2 st.Leaf, vi st.At, vi st.Edge, vl sta5 stk5 st.Values, vl sta6 stk6 st.Queue, vi st.Steps]) (Oq (Vn 0) (Oq (Vfa fo59_3 0) (Ost (SclF [0] sh3 [vi 2, vl sta1 stk1 st.Cone, vl sta2 stk2 st.Leaf, vi 0, vi st.Edge, vl sta5 stk5 st.Values, vl sta6 stk6 st.Queue, vi st.Steps]) (KS ?_))))))))
 refine Oq Vm (Oq (Vn 0) (Oq (Vfa fo59_1 0) (Oq (VldF sh22 0) (Oq (Vlen sl22) (Oq Vm (KS ?_))))))
 refine Kl (γ := Nat × List GSet × List Int × Int × Option Addr × Nat × Option Addr × Nat) (fun (r12, st5_13, st6_14, v20_15, a16, k17, a18, k19) => ⟨[(1, vl ka0 kk0 k), (2, stP), (3, p11), (18, vl sta1 stk1 st.Cone), (19, vi (st.Cone.length : Int)), (20, vi v20_15)], [O a18 k19 st6_14, O a16 k17 st5_13, Cl stP [vi 2, vl sta1 stk1 st.Cone, vl sta2 stk2 st.Leaf, vi 0, vi st.Edge, vl a16 k17 st5_13, vl a18 k19 st6_14, vi st.Steps], pv p11 [vi s.Width, vl sa1 sk1 s.Deps, vl sa2 sk2 s.Transfers, vl sa3 sk3 s.Boundary], S sa1 sk1 s.Deps, S sa2 sk2 s.Transfers, S sa3 sk3 s.Boundary, S ka0 kk0 k, O sta1 stk1 st.Cone, O sta2 stk2 st.Leaf], solver_begin_L0 s k st r12 st5_13 st6_14 v20_15 = solver_begin_L0 s k st (((st.Cone.length : Int) - 0).toNat) st.Values st.Queue 0 ∧ r12 = ((st.Cone.length : Int) - v20_15).toNat ∧ (0 : Int) ≤ v20_15 ∧ v20_15 ≤ (st.Cone.length : Int) ∧ (-9223372036854775808 ≤ v20_15 ∧ v20_15 ≤ 9223372036854775807) ∧ (st5_13.length : Int) = v20_15 ∧ (st6_14.length : Int) = v20_15, r12⟩) (((st.Cone.length : Int) - 0).toNat, st.Values, st.Queue, 0, sta5, stk5, sta6, stk6) [9, 8, 0, 0, 1, 2, 3, 4, 5, 5] ⟨rfl, rfl, (by omega), (by omega), (by omega), iv0, iv0⟩ ?_
 rintro ⟨r12, st5_13, st6_14, v20_15, a16, k17, a18, k19⟩ ⟨hM20, hr21, hi22, hi23, hk24, hv25, hv26⟩
 refine JJ_nx fun _ _ hL hA => ?_; dsimp only at hL hA; subst hL hA
 refine Fb 8 0 fun _ => Fo 0 fun ho28 => Fb 32 1 fun _ => Fb 24 4 fun _ => Fb 88 5 fun _ => Fb 32 6 fun _ => Fb 40 7 fun _ => Fb 8 8 fun _ => ?_
 refine Fo 8 fun ho35 => Fb 1 9 fun _ => KS ?_
 refine Oq Vlss (KS ?_)
 refine Kc ?_ ?_
 ·intro h37
  have g38 := dt h37
  have hq := hcr _ (getD_mem (xs := st.Cone) (i := v20_15.toNat) (d := 0) (by omega))
  obtain ⟨r39, rfl⟩ := scc (n := r12) (by omega)
  refine KS ?_
  refine Oq Vm (Oq (Vi sl22 8) ?_)
  have hb40 := ok1 (i := v20_15.toNat) ho35 rng
  refine Oq (VldI sh3 8) (Oq Va (Oq Va (KS ?_)))
  refine Oq (Vfa fo27_3 3) (Oq (VldF sh25 3) (Oq Vm (Oq (Vi sl25 6) ?_)))
  refine JJ_peek_GSet ((st.Cone.getD v20_15.toNat 0) : Int).toNat 6 rfl rng fun a41 k42 hb43 => ?_
  unfold i64ok at hb43
  refine Fb 8 1 fun _ => ?_
  refine Oq (VldA sh42 0) (Oa (Al ze42 [vi 0, .slice none 0 0]) fun p45 => Ost (Scl [0] sh42 [vi ((s.Boundary.getD ((st.Cone.getD v20_15.toNat 0) : Int).toNat default).Width), .slice a41 (((s.Boundary.getD ((st.Cone.getD v20_15.toNat 0) : Int).toNat default).Words).length) k42]) (KS ?_))
  refine Oq Vm (Oq (Vn 5) (Oq (Vfa fo59_2 5) (Oq (VldF sh57 5) (Oq Vm (Oq (Vi sl57 12) (Oq (VldB sh4 12) (KS ?_)))))))
  refine Kc ?_ ?_
  ·intro h46
   have hlf := hd.leaf v20_15.toNat (by omega) h46
   have hfe := pfind_eq k (st.Cone.getD v20_15.toNat 0)
   refine KS ?_
   refine Oq Vm (Oq Vm (Oq Vm ?_))
   refine letv (solver_find k (st.Cone.getD v20_15.toNat 0)) fun rv48 hg49 => ?_
   have hc50 := fn177 k ka0 kk0 ((st.Cone.getD v20_15.toNat 0)) pre rv48 hg49
   refine Oc [10] ca177 hc50 ?_
   rintro - ⟨he51, he52⟩
   unfold i64ok at he51
   refine Oq (Vi sl53 10) ?_
   refine JJ_peek_GKnown rv48.toNat 10 rfl rng fun a53 k54 hb55 hb56 => ?_
   unfold i64ok at hb55 hb56
   refine Fb 8 1 fun _ => ?_
   refine Oq (Vfa fo67_1 0) (Oq (VldG sh42 0 [vi (((k.getD rv48.toNat default).Value).Width), vl a53 k54 (((k.getD rv48.toNat default).Value).Words)]) (Ost (Scl [2] sh42 [vi (((k.getD rv48.toNat default).Value).Width), vl a53 k54 (((k.getD rv48.toNat default).Value).Words)]) (KS ?_)))
   refine Jp 7 fun hp58 => ?_
   refine JK_drawK [0, 0, 2, 6, 14, 0, 32, 96, 254, 511, 1023, 2047] fmix ?_
   refine Dv [] Vm (Dv [] Vm (Dv [0] (Vn 0) (Dv [0] (Vfa fo59_5 0) (Dv [8] (VldF sh25 0) (Dv [1] (VldA sh42 0) ?_)))))
   refine letv (solver_clone ((k.getD rv48.toNat default).Value)) fun rv60 hg61 => ?_
   refine Dx [3] [] [2, 0, 1] (fun G => .agg #[vi rv60.Width, (G.g 6 0)]) [fun G => SP.fact (i64ok rv60.Width), fun G => os (G.g 6 0) rv60.Words] (fun G => xC [0] ca106 (fn106 (((k.getD rv48.toNat default).Value)) a53 k54 pre rv60 hg61)) (Dx [] [] [0] (fun G => (G.g 7 0)) [fun G => Cr (G.g 7 0) 1 [vi rv60.Width, (G.g 6 0)]] (fun G => xA (AsV sl25 sz25 [.agg #[vi rv60.Width, (G.g 6 0)]] [vi rv60.Width, (G.g 6 0)])) ?_)
   have hn64 := la st5_13 ([rv60] : List GSet)
   refine Dx [7, 16, 17, 18] [7, 17, 18] [3, 1, 0] (fun G => (G.g 8 0)) [fun G => sl (G.g 6 0) rv60.Words, fun G => os (G.g 8 0) ((st5_13 ++ [rv60]) : List GSet)] (fun G => by refine xf 1 rfl ?_; rintro he65; unfold i64ok at he65; exact xp [2] rfl (Ent.freeze _ _) (xp [3, 0] rfl (Ent.cr1 (α := GSet) (A := [sl (G.g 6 0) rv60.Words]) _ rv60 _ (Nat.le_of_ble_eq_true rfl) (fun h => ⟨_, rfl, (by unfold i64ok; first | omega | (dsimp only; omega)), sepAll_get (i := 0) rfl h⟩)) (xA (ApO [3, 0] sl25 sl25 sz25)))) (Dv [0] (Vn 0) (Dv [0] (Vfa fo59_5 0) (Dx0 [8, 20] [8] [1, 0] [fun G => Cl stP [vi 2, vl sta1 stk1 st.Cone, vl sta2 stk2 st.Leaf, vi 0, vi st.Edge, (G.g 8 0), vl a18 k19 st6_14, vi st.Steps]] (fun G => x1 1 rfl os_one fun ho66 => (xS (OpS.frame [0] rfl (OpS.storeClF [(G.g 8 0)] [vi 2, vl sta1 stk1 st.Cone, vl sta2 stk2 st.Leaf, vi 0, vi st.Edge, (G.g 8 0), vl a18 k19 st6_14, vi st.Steps] rfl rfl rfl sh25 (cells_of_one ho66) rfl (by simp only [List.all_cons, List.all_nil, ho66, Bool.and_true, Bool.true_and] <;> rfl) (Nat.le_of_ble_eq_true rfl) rfl)))) ?_)))
   refine Dn ⟨by kernel_rfl, fun G => ?_⟩
   refine Jw2 [(1, vl ka0 kk0 k), (2, stP), (3, p11), (18, vl sta1 stk1 st.Cone), (19, vi (st.Cone.length : Int)), (20, vi v20_15), (6, vi v20_15)] [0, 1, 2, 3, 4, 5, 6, 9, 10, 11, 12, 13, 14, 15] [SP.fact (i64ok rv60.Width), sl (G.g 6 0) rv60.Words, os (G.g 8 0) ((st5_13 ++ [rv60]) : List GSet), Cl stP [vi 2, vl sta1 stk1 st.Cone, vl sta2 stk2 st.Leaf, vi 0, vi st.Edge, (G.g 8 0), vl a18 k19 st6_14, vi st.Steps]] ?_
   generalize G.g 6 0 = c59, G.g 8 0 = c63
   refine Jf 14 rfl ?_; rintro he67
   unfold i64ok at he67
   refine Jk [1, 1, 2, 3, 4, 5, 5, 6, 7, 8, 9, 10, 10, 11, 12, 12] ?_
   refine Jo 13 ?_; rintro a68 k69 rfl
   refine Fb 8 13 fun _ => ?_
   refine Jo 14 ?_; rintro a71 k72 rfl
   refine Fb 32 14 fun _ => KS ?_
   refine Oq Vm (Oq Vm (Oa (AsV sl22 sz22 [vi v20_15] [vi v20_15]) fun c74 => ?_))
   refine Jo 0 ?_; rintro a75 k76 rfl
   refine Oq Vm (Oq (Vn 16) (Oq (Vfa fo59_6 16) (Oq (VldF sh22 16) ?_)))
   refine Jl [0] (Ent.crInt _ [v20_15] _ _ rfl rfl (by intro x hx; rw [List.mem_singleton] at hx; subst hx; unfold i64ok; omega) (Nat.le_of_ble_eq_true rfl)) ?_
   refine Oa (ApO [0, 5] sl22 sl22 sz22) fun c77 => ?_
   refine Jo 0 ?_; rintro a78 k79 rfl
   refine Fb 8 0 fun _ => Fo 0 fun ho81 => ?_
   have hn82 := la ([v20_15] : List Int) st6_14
   refine Oq (Vn 15) (Oq (Vfa fo59_6 15) (Ost (SclF [15] sh22 [vi 2, vl sta1 stk1 st.Cone, vl sta2 stk2 st.Leaf, vi 0, vi st.Edge, vl a71 k72 (st5_13 ++ [rv60]), vl a78 k79 ([v20_15] ++ st6_14), vi st.Steps]) (KS ?_)))
   refine Oq Vadd (Oq Vm (KS ?_))
   exact Kg (r39, (st5_13 ++ [rv60]), ([v20_15] ++ st6_14), (v20_15 + 1), a71, k72, a78, k79) [1, 14, 0, 5, 6, 7, 8, 9, 10, 10] ⟨(q3 hM20 (by simp only [solver_begin_L0, h37, h46, hg49, hg61, cs4])), (by omega), (by omega), (by omega), (by omega), iv1, iv1⟩
  intro h46
  refine KS ?_
  refine Jp 5 fun hp84 => ?_
  refine JK_drawK [0, 0, 2, 6, 14, 0, 32, 96, 254, 511, 1023, 2047] fmix ?_
  refine Dv [] Vm (Dv [] Vm (Dv [0] (Vn 0) (Dv [0] (Vfa fo59_5 0) (Dv [6] (VldF sh25 0) (Dv [1] (VldA sh42 0) ?_)))))
  refine letv (solver_clone (s.Boundary.getD ((st.Cone.getD v20_15.toNat 0) : Int).toNat default)) fun rv86 hg87 => ?_
  refine Dx [3] [] [2, 0, 1] (fun G => .agg #[vi rv86.Width, (G.g 6 0)]) [fun G => SP.fact (i64ok rv86.Width), fun G => os (G.g 6 0) rv86.Words] (fun G => xC [0] ca106 (fn106 ((s.Boundary.getD ((st.Cone.getD v20_15.toNat 0) : Int).toNat default)) a41 k42 pre rv86 hg87)) (Dx [] [] [0] (fun G => (G.g 7 0)) [fun G => Cr (G.g 7 0) 1 [vi rv86.Width, (G.g 6 0)]] (fun G => xA (AsV sl25 sz25 [.agg #[vi rv86.Width, (G.g 6 0)]] [vi rv86.Width, (G.g 6 0)])) ?_)
  have hn90 := la st5_13 ([rv86] : List GSet)
  refine Dx [5, 14, 15, 16] [5, 15, 16] [3, 1, 0] (fun G => (G.g 8 0)) [fun G => sl (G.g 6 0) rv86.Words, fun G => os (G.g 8 0) ((st5_13 ++ [rv86]) : List GSet)] (fun G => by refine xf 1 rfl ?_; rintro he91; unfold i64ok at he91; exact xp [2] rfl (Ent.freeze _ _) (xp [3, 0] rfl (Ent.cr1 (α := GSet) (A := [sl (G.g 6 0) rv86.Words]) _ rv86 _ (Nat.le_of_ble_eq_true rfl) (fun h => ⟨_, rfl, (by unfold i64ok; first | omega | (dsimp only; omega)), sepAll_get (i := 0) rfl h⟩)) (xA (ApO [3, 0] sl25 sl25 sz25)))) (Dv [0] (Vn 0) (Dv [0] (Vfa fo59_5 0) (Dx0 [6, 18] [6] [1, 0] [fun G => Cl stP [vi 2, vl sta1 stk1 st.Cone, vl sta2 stk2 st.Leaf, vi 0, vi st.Edge, (G.g 8 0), vl a18 k19 st6_14, vi st.Steps]] (fun G => x1 1 rfl os_one fun ho92 => (xS (OpS.frame [0] rfl (OpS.storeClF [(G.g 8 0)] [vi 2, vl sta1 stk1 st.Cone, vl sta2 stk2 st.Leaf, vi 0, vi st.Edge, (G.g 8 0), vl a18 k19 st6_14, vi st.Steps] rfl rfl rfl sh25 (cells_of_one ho92) rfl (by simp only [List.all_cons, List.all_nil, ho92, Bool.and_true, Bool.true_and] <;> rfl) (Nat.le_of_ble_eq_true rfl) rfl)))) ?_)))
  refine Dn ⟨by kernel_rfl, fun G => ?_⟩
  refine Jw2 [(1, vl ka0 kk0 k), (2, stP), (3, p11), (18, vl sta1 stk1 st.Cone), (19, vi (st.Cone.length : Int)), (20, vi v20_15), (6, vi v20_15)] [0, 1, 2, 3, 4, 7, 8, 9, 10, 11, 12, 13] [SP.fact (i64ok rv86.Width), sl (G.g 6 0) rv86.Words, os (G.g 8 0) ((st5_13 ++ [rv86]) : List GSet), Cl stP [vi 2, vl sta1 stk1 st.Cone, vl sta2 stk2 st.Leaf, vi 0, vi st.Edge, (G.g 8 0), vl a18 k19 st6_14, vi st.Steps]] ?_
  generalize G.g 6 0 = c85, G.g 8 0 = c89
  refine Jf 12 rfl ?_; rintro he93
  unfold i64ok at he93
  refine Jk [1, 1, 2, 3, 3, 4, 5, 6, 7, 8, 8, 9, 10, 10] ?_
  refine Jo 11 ?_; rintro a94 k95 rfl
  refine Fb 8 11 fun _ => ?_
  refine Jo 12 ?_; rintro a97 k98 rfl
  refine Fb 32 12 fun _ => KS ?_
  refine Oq Vm (Oq Vm (Oa (AsV sl22 sz22 [vi v20_15] [vi v20_15]) fun c100 => ?_))
  refine Jo 0 ?_; rintro a101 k102 rfl
  refine Oq Vm (Oq (Vn 14) (Oq (Vfa fo59_6 14) (Oq (VldF sh22 14) ?_)))
  refine Jl [0] (Ent.crInt _ [v20_15] _ _ rfl rfl (by intro x hx; rw [List.mem_singleton] at hx; subst hx; unfold i64ok; omega) (Nat.le_of_ble_eq_true rfl)) ?_
  refine Oa (ApO [0, 3] sl22 sl22 sz22) fun c103 => ?_
  refine Jo 0 ?_; rintro a104 k105 rfl
  refine Fb 8 0 fun _ => Fo 0 fun ho107 => ?_
  have hn108 := la ([v20_15] : List Int) st6_14
  refine Oq (Vn 13) (Oq (Vfa fo59_6 13) (Ost (SclF [13] sh22 [vi 2, vl sta1 stk1 st.Cone, vl sta2 stk2 st.Leaf, vi 0, vi st.Edge, vl a97 k98 (st5_13 ++ [rv86]), vl a104 k105 ([v20_15] ++ st6_14), vi st.Steps]) (KS ?_)))
  refine Oq Vadd (Oq Vm (KS ?_))
  exact Kg (r39, (st5_13 ++ [rv86]), ([v20_15] ++ st6_14), (v20_15 + 1), a97, k98, a104, k105) [1, 12, 0, 3, 4, 5, 6, 7, 8, 8] ⟨(q3 hM20 (by simp only [solver_begin_L0, h37, h46, hg87, cs4])), (by omega), (by omega), (by omega), (by omega), iv1, iv1⟩
 intro h37
 have g109 := df h37
 obtain rfl : r12 = 0 := by omega
 refine Ke ?_
 have hR110 := q2 hM20 (st5_13, st6_14) (by simp only [solver_begin_L0, h37, cs4])
 have hq := q4 hrr (GState.mk 2 st.Cone st.Leaf 0 st.Edge st5_13 st6_14 st.Steps) (by simp only [solver_begin, h37, hR110, cs4]); subst hq
 exact Kz (vl sta1 stk1 st.Cone, vl sta2 stk2 st.Leaf, vl a16 k17 st5_13, vl a18 k19 st6_14) rfl .nil [2, 7, 7, 1, 0] en
theorem fn94 (s : GSystem) (sa1 : Option Addr) (sk1 : Nat) (sa2 : Option Addr) (sk2 : Nat) (sa3 : Option Addr) (sk3 : Nat) (k : List GKnown) (ka0 : Option Addr) (kk0 : Nat) (stP : Value) (st : GState) (sta1 : Option Addr) (stk1 : Nat) (sta2 : Option Addr) (stk2 : Nat) (sta5 : Option Addr) (stk5 : Nat) (sta6 : Option Addr) (stk6 : Nat) (hs_0 : i64ok s.Width) (hst_0 : i64ok st.Phase) (hst_3 : i64ok st.At) (hst_4 : i64ok st.Edge) (hst_7 : i64ok st.Steps) (hv : VSys s) (hd : DOk s k st) (rr : GState) (hrr : solver_expand s k st = rr) : FT Tryz.prog 94 #[.agg #[vi s.Width, vl sa1 sk1 s.Deps, vl sa2 sk2 s.Transfers, vl sa3 sk3 s.Boundary], vl ka0 kk0 k, stP] [S sa1 sk1 s.Deps, S sa2 sk2 s.Transfers, S sa3 sk3 s.Boundary, S ka0 kk0 k, Cl stP [vi st.Phase, vl sta1 stk1 st.Cone, vl sta2 stk2 st.Leaf, vi st.At, vi st.Edge, vl sta5 stk5 st.Values, vl sta6 stk6 st.Queue, vi st.Steps], O sta1 stk1 st.Cone, O sta2 stk2 st.Leaf, O sta5 stk5 st.Values, O sta6 stk6 st.Queue] (fun g : Value × Value × Value × Value => i64ok rr.Phase ∧ i64ok rr.At ∧ i64ok rr.Edge ∧ i64ok rr.Steps) (fun g => .tuple #[]) (fun g => [Cl stP [vi rr.Phase, g.1, g.2.1, vi rr.At, vi rr.Edge, g.2.2.1, g.2.2.2, vi rr.Steps], os g.1 rr.Cone, os g.2.1 rr.Leaf, os g.2.2.1 rr.Values, os g.2.2.2 rr.Queue]) := by
 refine FTi Tryz.func94 fun w0 M0 F0 => ?_
 unfold i64ok at hs_0 hst_0 hst_3 hst_4 hst_7
 refine Fb 24 0 fun _ => Fb 88 1 fun _ => Fb 32 2 fun _ => Fb 40 3 fun _ => Fb 8 5 fun _ => Fo 5 fun ho6 => Fb 1 6 fun _ => Fb 32 7 fun _ => ?_
 refine Fb 8 8 fun _ => Fo 8 fun ho10 => ?_
 have hv1 := hv.n
 have hv2 := hv.tl
 have hv3 := hv.bl
 have hv4 := hv.w
 have hv5 := hv.dep_len
 have hcr := hd.b.cr
 have hq0 := hd.at_
 have hq1 := hd.b.lf
 have hq2 := hd.b.cl
 have hq3 := hd.b.vl
 have hq4 := hd.b.ql
 have hq5 := hd.ed
 have hqa := hcr _ (getD_mem (xs := st.Cone) (i := st.At.toNat) (d := 0) (by omega))
 have hfa := pfind_eq k (st.Cone.getD st.At.toNat 0)
 refine KS ?_
 refine Oa (Ab [vi s.Width, vl sa1 sk1 s.Deps, vl sa2 sk2 s.Transfers, vl sa3 sk3 s.Boundary]) fun p11 => KS ?_
 refine Jp 5 fun hp12 => ?_
 refine Kq [0, 1, 3, 7, 0, 16, 48, 112, 255, 511, 1023] fmix ?_
 refine Qv [] Vm (Qv [0] (Vn 0) (Qv [0] (Vfa fo59_1 0) (Qv [6] (VldF sh22 0) (Qv [] Vm (Qv [0] (Vn 0) (Qv [0] (Vfa fo59_3 0) (Qv [6] (VldF sh3 0) (Qv [7] (Vi sl22 0) ?_))))))))
 have hb13 := ok1 (i := st.At.toNat) ho6 rng
 refine Qv [7] (VldI sh3 0) (Qv [] Va ?_)
 refine Qn ⟨by kernel_rfl, ?_⟩
 refine KT ?_
 refine KjC (γ := List Bool) (fun st2_14 => ⟨[(1, vl ka0 kk0 k), (2, stP), (3, p11), (6, vi (st.Cone.getD st.At.toNat 0))], [pv p11 [vi s.Width, vl sa1 sk1 s.Deps, vl sa2 sk2 s.Transfers, vl sa3 sk3 s.Boundary], S sa1 sk1 s.Deps, S sa2 sk2 s.Transfers, S sa3 sk3 s.Boundary, S ka0 kk0 k, Cl stP [vi st.Phase, vl sta1 stk1 st.Cone, vl sta2 stk2 st.Leaf, vi st.At, vi st.Edge, vl sta5 stk5 st.Values, vl sta6 stk6 st.Queue, vi st.Steps], O sta1 stk1 st.Cone, os (vl sta2 stk2 st.Leaf) st2_14, O sta5 stk5 st.Values, O sta6 stk6 st.Queue], solver_expand_J0 s k st st2_14 = rr ∧ BOk s k (GState.mk st.Phase st.Cone st2_14 st.At st.Edge st.Values st.Queue st.Steps), 0⟩) ?_ ?_
 ·skip
  refine KS ?_
  refine Oq Vm (Oq (Vn 6) (Oq (Vfa fo59_4 6) (Oq (VldF sh3 6) (Oq Veql (Oq Vm ?_)))))
  refine Js 23 ?_ ?_
  ·intro h17
   have g18 := eq_of_beq h17
   refine Oq Vm (Oq Vm ?_)
   refine letv (solver_find k (st.Cone.getD st.At.toNat 0)) fun rv19 hg20 => ?_
   have hc21 := fn177 k ka0 kk0 ((st.Cone.getD st.At.toNat 0)) pre rv19 hg20
   refine Oc [5] ca177 hc21 ?_
   rintro - ⟨he22, he23⟩
   unfold i64ok at he22
   refine Oq Vgeq (Oq Vpt (KS ?_))
   refine Kc ?_ ?_
   ·intro h24
    have g25 := dt h24
    refine JK_drawK [0, 1, 3, 7, 0, 16, 48, 112, 255, 511] fmix ?_
    refine Dv [] Vm (Dv [0] (Vn 0) (Dv [0] (Vfa fo59_2 0) (Dv [6] (VldF sh57 0) (Dv [] Vm (Dv [0] (Vn 0) (Dv [0] (Vfa fo59_3 0) (Dv [6] (VldF sh3 0) (Dv [8] (Vi sl57 0) (Dx0 [8] [8] [0] [fun G => os (vl sta2 stk2 st.Leaf) (st.Leaf.set st.At.toNat true)] (fun G => xS (SoB [0] sh4)) ?_)))))))))
    refine Dn ⟨by kernel_rfl, fun G => ?_⟩
    refine Jw2 [(1, vl ka0 kk0 k), (2, stP), (3, p11), (6, vi (st.Cone.getD st.At.toNat 0))] [0, 1, 2, 3, 4, 5, 6, 7, 9, 10] [os (vl sta2 stk2 st.Leaf) (st.Leaf.set st.At.toNat true)] ?_
    refine Jk [1, 2, 3, 4, 5, 6, 6, 6, 6, 6] ?_
    exact Kg (st.Leaf.set st.At.toNat true) [0, 1, 2, 3, 4, 5, 5, 7, 5, 5] ⟨(q3 hrr (by simp only [solver_expand, h17, h24, hg20, cs4])), (by first | assumption | exact hd.b0 _ _ _ _ | exact hd.b1 _ _ _ _ (by omega))⟩
   intro h24
   have g26 := df h24
   refine KS ?_
   exact Kg st.Leaf [1, 2, 3, 4, 5, 6, 6, 6, 6, 6] ⟨(q3 hrr (by simp only [solver_expand, h17, h24, hg20, cs4])), (by first | assumption | exact hd.b0 _ _ _ _ | exact hd.b1 _ _ _ _ (by omega))⟩
  intro h17
  have g27 := ne_of_beq_false h17
  refine Osk (Osk (Osk (Osk (Oq Vpf (KS ?_)))))
  refine Kf (KS ?_)
  exact Kg st.Leaf [1, 2, 3, 4, 5, 6, 6, 6, 6, 6] ⟨(q3 hrr (by simp only [solver_expand, h17, cs4])), (by first | assumption | exact hd.b0 _ _ _ _ | exact hd.b1 _ _ _ _ (by omega))⟩
 rintro st2_14 ⟨hM15, hv16⟩
 refine JJ_nx fun _ _ hL hA => ?_; dsimp only at hL hA; subst hL hA
 refine Fb 24 1 fun _ => Fb 88 2 fun _ => Fb 32 3 fun _ => Fb 40 4 fun _ => Fb 8 6 fun _ => Fo 6 fun ho33 => Fb 1 7 fun _ => Fl 7 fun hn35 => ?_
 refine Fb 32 8 fun _ => Fb 8 9 fun _ => Fo 9 fun ho38 => ?_
 have hbk := hv16
 have hbl : st2_14.length = st.Cone.length := hbk.lf
 refine KT ?_
 refine KjC (γ := List Bool) (fun st2_39 => ⟨[(1, vl ka0 kk0 k), (2, stP), (3, p11)], [pv p11 [vi s.Width, vl sa1 sk1 s.Deps, vl sa2 sk2 s.Transfers, vl sa3 sk3 s.Boundary], S sa1 sk1 s.Deps, S sa2 sk2 s.Transfers, S sa3 sk3 s.Boundary, S ka0 kk0 k, Cl stP [vi st.Phase, vl sta1 stk1 st.Cone, vl sta2 stk2 st.Leaf, vi st.At, vi st.Edge, vl sta5 stk5 st.Values, vl sta6 stk6 st.Queue, vi st.Steps], O sta1 stk1 st.Cone, os (vl sta2 stk2 st.Leaf) st2_39, O sta5 stk5 st.Values, O sta6 stk6 st.Queue], solver_expand_J1 s k st st2_39 = rr ∧ BOk s k (GState.mk st.Phase st.Cone st2_39 st.At st.Edge st.Values st.Queue st.Steps), 0⟩) ?_ ?_
 ·skip
  refine Jp 5 fun hp42 => ?_
  refine bool_split (!(st2_14.getD st.At.toNat false)) ?_ ?_
  ·intro h43
   have h45 := not_true h43
   refine JJ_peekL ((st.Cone.getD st.At.toNat 0) : Int).toNat 2 rfl rng fun a47 k48 => ?_
   refine Fb 8 1 fun _ => Fo 1 fun ho50 => ?_
   refine Kq [0, 1, 3, 7, 0, 16, 48, 112, 255, 511, 1023, 2047, 4095, 8191, 16383, 32767, 4095, 69631, 4095, 462847, 987135, 2035711, 4194303, 8388607] fmix ?_
   refine Qv [] Vm (Qv [2] (Vn 0) (Qv [2] (Vfa fo59_2 0) (Qv [8] (VldF sh57 0) (Qv [] Vm (Qv [2] (Vn 0) (Qv [2] (Vfa fo59_3 0) (Qv [8] (VldF sh3 0) (Qv [10] (Vi sl57 0) (Qv [10] (VldB sh4 0) ?_)))))))))
   refine Qb h43 [] Vnot (Qv [] Vm (Qv [] Vm (Qv [2] (Vn 0) (Qv [2] (Vfa fo59_4 0) (Qv [8] (VldF sh3 0) (Qv [3] (Vfa fo27_1 0) (Qv [3] (VldF sh23 0) (Qv [] Vm (Qv [4] (Vi sl23 0) ?_)))))))))
   refine Qv [0] (Vld sh22 0) (Qv [] (Vlen sl22) (Qv [] Vlss (Qv [] Vpt ?_)))
   refine Qn ⟨by kernel_rfl, ?_⟩
   refine Kc ?_ ?_
   ·intro h51
    have g52 := dt h51
    refine KS ?_
    refine Kq [0, 1, 0, 7, 15, 0, 32, 96, 224, 511, 1023, 2047] fmix ?_
    refine Qv [3] (Vfa fo27_1 0) (Qv [3] (VldF sh23 0) (Qv [] Vm (Qv [4] (Vi sl23 0) (Qv [0] (Vld sh22 0) (Qv [] Vm (Qv [2] (Vn 0) (Qv [2] (Vfa fo59_4 0) (Qv [8] (VldF sh3 0) (Qv [1] (Vi sl22 0) ?_)))))))))
    have hb53 := ok1 (i := st.Edge.toNat) ho50 rng
    refine Qv [1] (VldI sh3 0) (Qv [] Va ?_)
    refine Qn ⟨by kernel_rfl, ?_⟩
    refine KS ?_
    refine Oq Vm (Oq (Vn 8) (Oq (Vfa fo59_1 8) (Oq (VldF sh22 8) (Oq Vm ?_))))
    refine letv (slices_Contains_int st.Cone ((s.Deps.getD ((st.Cone.getD st.At.toNat 0) : Int).toNat []).getD st.Edge.toNat 0)) fun rv54 hg55 => ?_
    refine Oc [9] ca82 (FT_borrow (A := _) (fun _ _ h => by cases h) (FT_ent (Ent.take (is := [0]) rfl) (fn82 st.Cone sta1 stk1 (((s.Deps.getD ((st.Cone.getD st.At.toNat 0) : Int).toNat []).getD st.Edge.toNat 0)) pre rv54 hg55))) ?_ (ht := rfl)
    rintro - -
    refine Oq Vnot (KS ?_)
    refine Kc ?_ ?_
    ·intro h56
     have h58 := not_true h56
     refine KS ?_
     refine Oq Vm (Oq Vm (Oq (Vn 9) (Oq (Vfa fo59_1 9) (Oq (VldF sh22 9) (Oq Vm (Oa (AsV sl22 sz22 [vi ((s.Deps.getD ((st.Cone.getD st.At.toNat 0) : Int).toNat []).getD st.Edge.toNat 0)] [vi ((s.Deps.getD ((st.Cone.getD st.At.toNat 0) : Int).toNat []).getD st.Edge.toNat 0)]) fun c60 => ?_))))))
     refine Jo 0 ?_; rintro a61 k62 rfl
     refine Jl [0] (Ent.crInt _ [((s.Deps.getD ((st.Cone.getD st.At.toNat 0) : Int).toNat []).getD st.Edge.toNat 0)] _ _ rfl rfl (by intro x hx; rw [List.mem_singleton] at hx; subst hx; unfold i64ok; omega) (Nat.le_of_ble_eq_true rfl)) ?_
     refine Oa (ApO [1, 0] sl22 sl22 sz22) fun c63 => ?_
     refine Jo 0 ?_; rintro a64 k65 rfl
     refine Fb 8 0 fun _ => Fo 0 fun ho67 => ?_
     have hn68 := la st.Cone ([((s.Deps.getD ((st.Cone.getD st.At.toNat 0) : Int).toNat []).getD st.Edge.toNat 0)] : List Int)
     refine Oq (Vn 9) (Oq (Vfa fo59_1 9) (Ost (SclF [9] sh22 [vi st.Phase, .slice a64 ((st.Cone ++ [((s.Deps.getD ((st.Cone.getD st.At.toNat 0) : Int).toNat []).getD st.Edge.toNat 0)]).length) k65, vl sta2 stk2 st.Leaf, vi st.At, vi st.Edge, vl sta5 stk5 st.Values, vl sta6 stk6 st.Queue, vi st.Steps]) (KS ?_)))
     refine Oq Vm (Oq Vm (Oq (Vn 0) (Oq (Vfa fo59_2 0) (Oq (VldF sh57 0) (Oa (AsV sl57 sz57 [vb false] [vb false]) fun c69 => ?_)))))
     refine Jo 0 ?_; rintro a70 k71 rfl
     refine Jl [0] (Ent.cr1 (α := Bool) (A := []) _ false _ (Nat.le_of_ble_eq_true rfl) (fun _ => rfl)) ?_
     refine Oa (ApO [11, 0] sl57 sl57 sz57) fun c72 => ?_
     refine Jo 0 ?_; rintro a73 k74 rfl
     refine Fb 1 0 fun _ => ?_
     have hn76 := la st2_14 ([false] : List Bool)
     refine Oq (Vn 1) (Oq (Vfa fo59_2 1) (Ost (SclF [1] sh57 [vi st.Phase, .slice a64 ((st.Cone ++ [((s.Deps.getD ((st.Cone.getD st.At.toNat 0) : Int).toNat []).getD st.Edge.toNat 0)]).length) k65, vl a73 k74 (st2_14 ++ [false]), vi st.At, vi st.Edge, vl sta5 stk5 st.Values, vl sta6 stk6 st.Queue, vi st.Steps]) (KS ?_)))
     refine Oq Vm (Oq (Vn 0) (Oq (Vfa fo59_4 0) (Oq (VldF sh3 0) (Oq Vadd (Oq (Vn 0) (Oq (Vfa fo59_4 0) (Ost (SclF [0] sh3 [vi st.Phase, .slice a64 ((st.Cone ++ [((s.Deps.getD ((st.Cone.getD st.At.toNat 0) : Int).toNat []).getD st.Edge.toNat 0)]).length) k65, vl a73 k74 (st2_14 ++ [false]), vi st.At, vi (st.Edge + 1), vl sta5 stk5 st.Values, vl sta6 stk6 st.Queue, vi st.Steps]) (KS ?_))))))))
     have hq := q4 hM15 (GState.mk st.Phase (st.Cone ++ [((s.Deps.getD ((st.Cone.getD st.At.toNat 0) : Int).toNat []).getD st.Edge.toNat 0)]) (st2_14 ++ [false]) st.At (st.Edge + 1) st.Values st.Queue st.Steps) (by simp only [solver_expand_J0, h43, h45, h51, h56, h58, hg55, cs4]); subst hq
     exact Kr (.slice a64 ((st.Cone ++ [((s.Deps.getD ((st.Cone.getD st.At.toNat 0) : Int).toNat []).getD st.Edge.toNat 0)]).length) k65, vl a73 k74 (st2_14 ++ [false]), vl sta5 stk5 st.Values, vl sta6 stk6 st.Queue) rfl .nil [0, 1, 0, 8, 8] en
    intro h56
    have h78 := not_false h56
    refine KS ?_
    refine Oq Vm (Oq (Vn 9) (Oq (Vfa fo59_4 9) (Oq (VldF sh3 9) (Oq Vadd (Oq (Vn 9) (Oq (Vfa fo59_4 9) (Ost (SclF [9] sh3 [vi st.Phase, vl sta1 stk1 st.Cone, vl sta2 stk2 st.Leaf, vi st.At, vi (st.Edge + 1), vl sta5 stk5 st.Values, vl sta6 stk6 st.Queue, vi st.Steps]) (KS ?_))))))))
    have hq := q4 hM15 (GState.mk st.Phase st.Cone st2_14 st.At (st.Edge + 1) st.Values st.Queue st.Steps) (by simp only [solver_expand_J0, h43, h45, h51, h56, h78, hg55, cs4]); subst hq
    exact Kr (vl sta1 stk1 st.Cone, vl sta2 stk2 st.Leaf, vl sta5 stk5 st.Values, vl sta6 stk6 st.Queue) rfl .nil [0, 0, 8, 8, 8] en
   intro h51
   have g80 := df h51
   refine KS ?_
   exact Kg st2_14 [3, 4, 5, 6, 7, 8, 8, 8, 8, 8] ⟨(q3 hM15 (by simp only [solver_expand_J0, h43, h45, h51, cs4])), (by first | assumption | exact hd.b0 _ _ _ _ | exact hd.b1 _ _ _ _ (by omega))⟩
  intro h43
  have h82 := not_false h43
  refine Kq [0, 1, 3, 7, 0, 16, 48, 112, 255, 511, 1023, 2047, 4095, 8191, 16383, 32767, 4095, 69631, 4095, 462847, 987135, 2035711, 4194303, 8388607] fmix ?_
  refine Qv [] Vm (Qv [0] (Vn 0) (Qv [0] (Vfa fo59_2 0) (Qv [6] (VldF sh57 0) (Qv [] Vm (Qv [0] (Vn 0) (Qv [0] (Vfa fo59_3 0) (Qv [6] (VldF sh3 0) (Qv [8] (Vi sl57 0) (Qv [8] (VldB sh4 0) ?_)))))))))
  refine Qb h43 [] Vnot (Qv [] Vm (Qs (Qs (Qs (Qs (Qs (Qs (Qs (Qs ?_)))))))))
  refine Qs (Qs (Qs (Qv [] Vpf ?_)))
  refine Qn ⟨by kernel_rfl, ?_⟩
  refine Kf (KS ?_)
  exact Kg st2_14 [1, 2, 3, 4, 5, 6, 6, 6, 6, 6] ⟨(q3 hM15 (by simp only [solver_expand_J0, h43, h82, cs4])), (by first | assumption | exact hd.b0 _ _ _ _ | exact hd.b1 _ _ _ _ (by omega))⟩
 rintro st2_39 ⟨hM40, hv41⟩
 refine JJ_nx fun _ _ hL hA => ?_; dsimp only at hL hA; subst hL hA
 refine Fb 24 1 fun _ => Fb 88 2 fun _ => Fb 32 3 fun _ => Fb 40 4 fun _ => Fb 8 6 fun _ => Fo 6 fun ho89 => Fb 1 7 fun _ => Fl 7 fun hn91 => ?_
 refine Fb 32 8 fun _ => Fb 8 9 fun _ => Fo 9 fun ho94 => ?_
 have hbk := hv41
 have hbl : st2_39.length = st.Cone.length := hbk.lf
 refine KS ?_
 refine Oq Vm (Oq Vm (Oq Vm (Oq (Vn 5) (Oq (Vfa fo59_3 5) (Oq (VldF sh3 5) (Oq Vadd (Oq (Vn 5) (Oq (Vfa fo59_3 5) (Ost (SclF [5] sh3 [vi st.Phase, vl sta1 stk1 st.Cone, vl sta2 stk2 st.Leaf, vi (st.At + 1), vi st.Edge, vl sta5 stk5 st.Values, vl sta6 stk6 st.Queue, vi st.Steps]) ?_)))))))))
 refine Oq (Vn 0) (Oq (Vfa fo59_4 0) (Ost (SclF [0] sh3 [vi st.Phase, vl sta1 stk1 st.Cone, vl sta2 stk2 st.Leaf, vi (st.At + 1), vi 0, vl sta5 stk5 st.Values, vl sta6 stk6 st.Queue, vi st.Steps]) (KS ?_)))
 refine Jp 0 fun hp95 => ?_
 refine Kq [0, 1, 3, 7, 0, 16, 48, 112, 240, 511] fmix ?_
 refine Qv [] Vm (Qv [0] (Vn 0) (Qv [0] (Vfa fo59_3 0) (Qv [1] (VldF sh3 0) (Qv [] Vm (Qv [0] (Vn 0) (Qv [0] (Vfa fo59_1 0) (Qv [1] (VldF sh22 0) (Qv [] (Vlen sl22) (Qv [] Veql ?_)))))))))
 refine Qn ⟨by kernel_rfl, ?_⟩
 refine Kc ?_ ?_
 ·intro h96
  have g97 := eq_of_beq h96
  refine KS ?_
  refine Oq (VldA sh27 2) (Oq Vm (Oq Vm ?_))
  refine Fl 8 fun hn98 => ?_; try unfold vl; rw [← hn98]
  refine letv (solver_begin s k (GState.mk st.Phase st.Cone st2_39 (st.At + 1) 0 st.Values st.Queue st.Steps)) fun rv103 hg104 => ?_
  have hc105 := fn178 s sa1 sk1 sa2 sk2 sa3 sk3 k ka0 kk0 stP (GState.mk st.Phase st.Cone st2_39 (st.At + 1) 0 st.Values st.Queue st.Steps) sta1 stk1 sta2 stk2 sta5 stk5 sta6 stk6 pre pre pre pre pre pre (hbk.re _ _ _ _) rv103 hg104
  refine Oc [3, 4, 5, 6, 1, 6, 6, 6, 6] ca178 hc105 ?_
  rintro ⟨c99, c100, c101, c102⟩ ⟨he106, he107, he108, he109⟩
  unfold i64ok at he106 he107 he108 he109
  refine Jo 1 ?_; rintro a110 k111 rfl
  refine Fb 8 1 fun _ => Fo 1 fun ho113 => ?_
  refine Jo 2 ?_; rintro a114 k115 rfl
  refine Fb 1 2 fun _ => ?_
  refine Jo 3 ?_; rintro a117 k118 rfl
  refine Fb 32 3 fun _ => ?_
  refine Jo 4 ?_; rintro a120 k121 rfl
  refine Fb 8 4 fun _ => Fo 4 fun ho123 => KS ?_
  have hq := q4 hM40 rv103 (by simp only [solver_expand_J1, h96, hg104, cs4]); subst hq
  exact Kz (vl a110 k111 rv103.Cone, vl a114 k115 rv103.Leaf, vl a117 k118 rv103.Values, vl a120 k121 rv103.Queue) rfl .nil [0, 0, 0, 0, 0] en
 intro h96
 have g124 := ne_of_beq_false h96
 refine KS ?_
 have hq := q4 hM40 (GState.mk st.Phase st.Cone st2_39 (st.At + 1) 0 st.Values st.Queue st.Steps) (by simp only [solver_expand_J1, h96, cs4]); subst hq
 exact Kz (vl sta1 stk1 st.Cone, vl sta2 stk2 st.Leaf, vl sta5 stk5 st.Values, vl sta6 stk6 st.Queue) rfl .nil [1, 6, 6, 6, 6] en
theorem fn57 (s : GSystem) (sa1 : Option Addr) (sk1 : Nat) (sa2 : Option Addr) (sk2 : Nat) (sa3 : Option Addr) (sk3 : Nat) (cone : List Int) (conea0 : Option Addr) (conek0 : Nat) (leaf : List Bool) (leafa0 : Option Addr) (leafk0 : Nat) (i : Int) (hs_0 : i64ok s.Width) (hi_0 : i64ok i) (rr : List Int) (hrr : cone_Dependents s cone leaf i = rr) : FT Tryz.prog 57 #[.agg #[vi s.Width, vl sa1 sk1 s.Deps, vl sa2 sk2 s.Transfers, vl sa3 sk3 s.Boundary], vl conea0 conek0 cone, vl leafa0 leafk0 leaf, vi i] [S sa1 sk1 s.Deps, S sa2 sk2 s.Transfers, S sa3 sk3 s.Boundary, S conea0 conek0 cone, S leafa0 leafk0 leaf] (fun g : Value => (rr.length ≤ cone.length)) (fun g => g) (fun g => [os g rr]) := by
 refine FTi Tryz.func57 fun w0 M0 F0 => ?_
 unfold i64ok at hs_0 hi_0
 refine Fb 24 0 fun _ => Fb 88 1 fun _ => Fb 32 2 fun _ => Fb 8 3 fun _ => Fo 3 fun ho5 => Fb 1 4 fun _ => KS ?_
 refine Oa (Ab [vi s.Width, vl sa1 sk1 s.Deps, vl sa2 sk2 s.Transfers, vl sa3 sk3 s.Boundary]) fun p7 => Oq Va (KS ?_)
 refine Oq (VldA sh27 0) ?_
 refine letv (equations_Valid s) fun rv8 hg9 => ?_
 have hc10 := fn109 s sa1 sk1 sa2 sk2 sa3 sk3 pre rv8 hg9
 refine Oc [1, 2, 3] ca109 hc10 ?_
 rintro - -
 refine Oq Vnot (Oq Vm ?_)
 refine Js 15 ?_ ?_
 ·intro h11
  have h13 := not_true h11
  refine Osk (Osk (Osk (Osk (Oq Vpt (Oq Vm (Osk (Osk (Osk (Osk ?_)))))))))
  refine Osk (Oq Vpt (Oq Vm (Osk (Osk (Oq Vpt (Oq Vm (Osk (Osk (Osk ?_)))))))))
  refine Osk (Oq Vpt (KS ?_))
  refine Kt (KS ?_)
  refine Oq Va (KS ?_)
  refine Jl [] (Ent.osNil (α := Int)) ?_
  have hq := q4 hrr [] (by simp only [cone_Dependents, h11, h13, hg9, cs4]); subst hq
  exact Kr (.slice none 0 0) rfl (.tmp rfl .nil) [0] en
 intro h11
 have h16 := not_false h11
 try (have hvs := (EValid_iff s).1 (by simp only [h11, h16, hg9]))
 try (have hcr := (unknowns_iff s cone).1 (by simp only [h11, h16, hg9]))
 refine Oq (VldA sh27 0) (Oq Vm ?_)
 refine letv (cone_unknowns s cone) fun rv18 hg19 => ?_
 have hc20 := fn118 s sa1 sk1 sa2 sk2 sa3 sk3 cone conea0 conek0 pre rv18 hg19
 refine Oc [1, 2, 3, 4] ca118 hc20 ?_
 rintro - -
 refine Oq Vnot (Oq Vpf (Oq Vm ?_))
 refine Js 21 ?_ ?_
 ·intro h21
  have h23 := not_true h21
  refine Osk (Osk (Osk (Osk (Osk (Oq Vpt (Oq Vm (Osk (Osk (Oq Vpt ?_)))))))))
  refine Oq Vm (Osk (Osk (Osk (Osk (Oq Vpt (KS ?_))))))
  refine Kt (KS ?_)
  refine Oq Va (KS ?_)
  refine Jl [] (Ent.osNil (α := Int)) ?_
  have hq := q4 hrr [] (by simp only [cone_Dependents, h11, h16, h21, h23, hg9, hg19, cs4]); subst hq
  exact Kr (.slice none 0 0) rfl (.tmp rfl .nil) [0] en
 intro h21
 have h26 := not_false h21
 try (have hvs := (EValid_iff s).1 (by simp only [h11, h16, h21, h26, hg9, hg19]))
 try (have hcr := (unknowns_iff s cone).1 (by simp only [h11, h16, h21, h26, hg9, hg19]))
 refine Oq Vm (Oq (Vlen sl57) (Oq Vm (Oq (Vlen sl22) (Oq Vneq (Oq Vpf (Oq Vm ?_))))))
 refine Js 28 ?_ ?_
 ·intro h28
  have g29 := ne_of_bne h28
  refine Osk (Osk (Oq Vpt (Oq Vm (Osk (Osk (Osk (Osk (Oq Vpt (KS ?_)))))))))
  refine Kt (KS ?_)
  refine Oq Va (KS ?_)
  refine Jl [] (Ent.osNil (α := Int)) ?_
  have hq := q4 hrr [] (by simp only [cone_Dependents, h11, h16, h21, h26, h28, hg9, hg19, cs4]); subst hq
  exact Kr (.slice none 0 0) rfl (.tmp rfl .nil) [0] en
 intro h28
 have g30 := eq_of_bne_false h28
 refine Oq Vm (Oq Vlss (Oq Vpf (Oq Vm ?_)))
 refine Js 32 ?_ ?_
 ·intro h31
  have g32 := dt h31
  refine Osk (Osk (Osk (Osk (Oq Vpt (KS ?_)))))
  refine Kt (KS ?_)
  refine Oq Va (KS ?_)
  refine Jl [] (Ent.osNil (α := Int)) ?_
  have hq := q4 hrr [] (by simp only [cone_Dependents, h11, h16, h21, h26, h28, h31, hg9, hg19, cs4]); subst hq
  exact Kr (.slice none 0 0) rfl (.tmp rfl .nil) [0] en
 intro h31
 have g33 := df h31
 refine Oq Vm (Oq Vm (Oq (Vlen sl22) (Oq Vgeq (Oq Vpf (KS ?_)))))
 refine Kc ?_ ?_
 ·intro h34
  have g35 := dt h34
  refine KS ?_
  refine Oq Va (KS ?_)
  refine Jl [] (Ent.osNil (α := Int)) ?_
  have hq := q4 hrr [] (by simp only [cone_Dependents, h11, h16, h21, h26, h28, h31, h34, hg9, hg19, cs4]); subst hq
  exact Kr (.slice none 0 0) rfl (.tmp rfl .nil) [0] en
 intro h34
 have g36 := df h34
 refine KS ?_
 refine Oq Va (KS ?_)
 refine Oq Vm (Oq (Vlen sl22) (Oq Vm (KS ?_)))
 refine Jl [] (Ent.osNil (α := Int)) ?_
 refine Kl (γ := Nat × List Int × Int × Option Addr × Nat) (fun (r37, out_38, v40_39, a40, k41) => ⟨[(1, vl conea0 conek0 cone), (2, vl leafa0 leafk0 leaf), (3, vi i), (4, p7), (9, vl a40 k41 out_38), (38, vl conea0 conek0 cone), (39, vi (cone.length : Int)), (40, vi v40_39)], [O a40 k41 out_38, pv p7 [vi s.Width, vl sa1 sk1 s.Deps, vl sa2 sk2 s.Transfers, vl sa3 sk3 s.Boundary], S sa1 sk1 s.Deps, S sa2 sk2 s.Transfers, S sa3 sk3 s.Boundary, S conea0 conek0 cone, S leafa0 leafk0 leaf], cone_Dependents_L0 s cone leaf i r37 out_38 v40_39 = cone_Dependents_L0 s cone leaf i (((cone.length : Int) - 0).toNat) [] 0 ∧ r37 = ((cone.length : Int) - v40_39).toNat ∧ (0 : Int) ≤ v40_39 ∧ v40_39 ≤ (cone.length : Int) ∧ (-9223372036854775808 ≤ v40_39 ∧ v40_39 ≤ 9223372036854775807) ∧ (out_38.length : Int) ≤ v40_39, r37⟩) (((cone.length : Int) - 0).toNat, [], 0, none, 0) [0, 0, 1, 2, 3, 4, 5] ⟨rfl, rfl, (by omega), (by omega), (by omega), iv0⟩ ?_
 rintro ⟨r37, out_38, v40_39, a40, k41⟩ ⟨hM42, hr43, hi44, hi45, hk46, hv47⟩
 refine JJ_nx fun _ _ hL hA => ?_; dsimp only at hL hA; subst hL hA
 refine Fb 8 0 fun _ => Fo 0 fun ho49 => Fb 24 2 fun _ => Fb 88 3 fun _ => Fb 32 4 fun _ => Fb 8 5 fun _ => Fo 5 fun ho54 => Fb 1 6 fun _ => KS ?_
 refine Oq Vlss (KS ?_)
 refine Kc ?_ ?_
 ·intro h56
  have g57 := dt h56
  have hq := hcr _ (getD_mem (xs := cone) (i := v40_39.toNat) (d := 0) (by omega))
  obtain ⟨r58, rfl⟩ := scc (n := r37) (by omega)
  refine KS ?_
  refine Oq Vm (Oq (Vi sl22 5) ?_)
  have hb59 := ok1 (i := v40_39.toNat) ho54 rng
  refine Oq (VldI sh3 5) (Oq Va (Oq Va (KS ?_)))
  refine bool_split (!(leaf.getD v40_39.toNat false)) ?_ ?_
  ·intro h60
   have h62 := not_true h60
   refine JJ_peekL ((cone.getD v40_39.toNat 0) : Int).toNat 2 rfl rng fun a64 k65 => ?_
   refine Fb 8 1 fun _ => Fo 1 fun ho67 => ?_
   refine JK_drawK [0, 0, 3, 7, 15, 31, 63, 127, 63, 511, 1023, 63, 63, 6207, 14399, 32767, 65535] fmix ?_
   refine Dv [] Vm (Dv [] Vm (Dv [8] (Vi sl57 0) (Dv [8] (VldB sh4 0) (Db h60 [] Vnot (Dv [] Vm (Dv [3] (Vfa fo27_1 0) (Dv [3] (VldF sh23 0) (Dv [] Vm (Dv [4] (Vi sl23 0) ?_)))))))))
   refine Dv [0] (Vld sh22 0) (Dv [] Vm (Dv [] Vm (Dv [7] (Vi sl22 0) ?_)))
   have hb68 := ok1 (i := i.toNat) ho54 rng
   refine Dv [7] (VldI sh3 0) ?_
   refine letv (slices_Contains_int (s.Deps.getD ((cone.getD v40_39.toNat 0) : Int).toNat []) (cone.getD i.toNat 0)) fun rv69 hg70 => ?_
   refine Dx [1] [] [1, 0] (fun G => vb rv69) [fun G => SP.fact (True)] (fun G => xC [0] ca82 (fn82 ((s.Deps.getD ((cone.getD v40_39.toNat 0) : Int).toNat [])) a64 k65 ((cone.getD i.toNat 0)) pre rv69 hg70)) (Dv [] Vpt ?_)
   refine Dn ⟨by kernel_rfl, fun G => ?_⟩
   refine Jw2 [(1, vl conea0 conek0 cone), (2, vl leafa0 leafk0 leaf), (3, vi i), (4, p7), (9, vl a40 k41 out_38), (38, vl conea0 conek0 cone), (39, vi (cone.length : Int)), (40, vi v40_39), (10, vi v40_39), (61, vb rv69)] [0, 1, 2, 3, 4, 5, 6, 7, 8] [SP.fact (True)] ?_
   refine Jk [0, 1, 2, 2, 3, 4, 5, 6, 7] ?_
   refine Kc ?_ ?_
   ·intro h71
    try (have hvs := (EValid_iff s).1 (by simp only [h11, h16, h21, h26, h28, h31, h34, h56, h60, h62, h71, hg9, hg19, hg70]))
    try (have hcr := (unknowns_iff s cone).1 (by simp only [h11, h16, h21, h26, h28, h31, h34, h56, h60, h62, h71, hg9, hg19, hg70]))
    refine KS ?_
    refine Oq Vm (Oq Vm (Oa (AsV sl22 sz22 [vi v40_39] [vi v40_39]) fun c73 => ?_))
    refine Jo 0 ?_; rintro a74 k75 rfl
    refine Jl [0] (Ent.crInt _ [v40_39] _ _ rfl rfl (by intro x hx; rw [List.mem_singleton] at hx; subst hx; unfold i64ok; omega) (Nat.le_of_ble_eq_true rfl)) ?_
    refine Oa (ApO [3, 0] sl22 sl22 sz22) fun c76 => ?_
    refine Jo 0 ?_; rintro a77 k78 rfl
    refine Fb 8 0 fun _ => Fo 0 fun ho80 => ?_
    have hn81 := la out_38 ([v40_39] : List Int)
    refine Oq Va (KS ?_)
    refine Oq Vadd (Oq Vm (KS ?_))
    exact Kg (r58, (out_38 ++ [v40_39]), (v40_39 + 1), a77, k78) [0, 2, 3, 4, 5, 6, 7] ⟨(q3 hM42 (by simp only [cone_Dependents_L0, h11, h16, h21, h26, h28, h31, h34, h56, h60, h62, h71, hg9, hg19, hg70, cs4])), (by omega), (by omega), (by omega), (by omega), iv1⟩
   intro h71
   refine KS ?_
   refine Oq Vadd (Oq Vm (KS ?_))
   exact Kg (r58, out_38, (v40_39 + 1), a40, k41) [2, 2, 3, 4, 5, 6, 7] ⟨(q3 hM42 (by simp only [cone_Dependents_L0, h11, h16, h21, h26, h28, h31, h34, h56, h60, h62, h71, hg9, hg19, hg70, cs4])), (by omega), (by omega), (by omega), (by omega), iv1⟩
  intro h60
  have h84 := not_false h60
  refine Kq [0, 0, 3, 7, 15, 31, 63, 127, 63, 511, 1023, 63, 63, 6207, 14399, 32767, 65535] fmix ?_
  refine Qv [] Vm (Qv [] Vm (Qv [6] (Vi sl57 0) (Qv [6] (VldB sh4 0) (Qb h60 [] Vnot (Qv [] Vm (Qs (Qs (Qs (Qs ?_)))))))))
  refine Qs (Qs (Qs (Qs (Qs (Qs (Qv [] Vpf ?_))))))
  refine Qn ⟨by kernel_rfl, ?_⟩
  refine Kf (KS ?_)
  refine Oq Vadd (Oq Vm (KS ?_))
  exact Kg (r58, out_38, (v40_39 + 1), a40, k41) [0, 0, 1, 2, 3, 4, 5] ⟨(q3 hM42 (by simp only [cone_Dependents_L0, h11, h16, h21, h26, h28, h31, h34, h56, h60, h84, hg9, hg19, cs4])), (by omega), (by omega), (by omega), (by omega), iv1⟩
 intro h56
 have g86 := df h56
 obtain rfl : r37 = 0 := by omega
 refine Ke ?_
 have hR87 := q2 hM42 out_38 (by simp only [cone_Dependents_L0, h11, h16, h21, h26, h28, h31, h34, h56, hg9, hg19, cs4])
 refine KS ?_
 refine Oq Vm (Oq Va (KS ?_))
 have hq := q4 hrr out_38 (by simp only [cone_Dependents, h11, h16, h21, h26, h28, h31, h34, h56, hg9, hg19, hR87, cs4]); subst hq
 exact Kr (vl a40 k41 out_38) rfl (.tmp rfl .nil) [0] en
theorem fn160 (s : GSet) (sa1 : Option Addr) (sk1 : Nat) (b : Int) (hs_0 : i64ok s.Width) (hb_0 : i64ok b) (rr : Bool) (hrr : bitset_within s b = rr) : FT Tryz.prog 160 #[.agg #[vi s.Width, vl sa1 sk1 s.Words], vi b] [S sa1 sk1 s.Words] (fun g : Unit => True) (fun g => vb rr) (fun g => []) := by
 refine FTi Tryz.func160 fun w0 M0 F0 => ?_
 unfold i64ok at hs_0 hb_0
 refine Fb 8 0 fun _ => KS ?_
 refine Oa (Ab [vi s.Width, vl sa1 sk1 s.Words]) fun p2 => Oq Va (KS ?_)
 refine Oq Vm (Oq Vgeq (Oq Vm ?_))
 refine Js 7 ?_ ?_
 ·intro h3
  have g4 := dt h3
  refine Oq Vm (Oq (Vfa fo42_0 0) (Oq (VldF sh3 0) (Oq Vlss (Oq Vpt (Oq Va (KS ?_))))))
  have hq := q4 hrr (decide (b < s.Width)) (by simp only [bitset_within, h3, cs4]); subst hq
  exact Kr () rfl (.tmp rfl .nil) [] trivial
 intro h3
 have g5 := df h3
 refine Osk (Osk (Osk (Osk (Oq Vpf (Oq Va (KS ?_))))))
 have hq := q4 hrr false (by simp only [bitset_within, h3, cs4]); subst hq
 exact Kr () rfl (.tmp rfl .nil) [] trivial
theorem fn85 (s : GSet) (sa1 : Option Addr) (sk1 : Nat) (b : Int) (hs_0 : i64ok s.Width) (hb_0 : i64ok b) (rr : Bool) (hrr : bitset_Has s b = rr) : FT Tryz.prog 85 #[.agg #[vi s.Width, vl sa1 sk1 s.Words], vi b] [S sa1 sk1 s.Words] (fun g : Unit => True) (fun g => vb rr) (fun g => []) := by
 refine FTi Tryz.func85 fun w0 M0 F0 => ?_
 unfold i64ok at hs_0 hb_0
 refine Fb 8 0 fun _ => KS ?_
 refine Oa (Ab [vi s.Width, vl sa1 sk1 s.Words]) fun p2 => Oq Va (KS ?_)
 refine Oq (VldA sh42 0) ?_
 refine letv (bitset_Valid s) fun rv3 hg4 => ?_
 have hc5 := fn123 s sa1 sk1 pre rv3 hg4
 refine Oc [1] ca123 hc5 ?_
 rintro - -
 refine Oq Vm ?_
 refine Js 7 ?_ ?_
 ·intro h6
  try have hrg := PV_w (s := s) (by simp only [h6, hg4])
  try have hwi := within_iff (s := s) (b := b) (by simp only [h6, hg4])
  refine Oq (VldA sh42 0) (Oq Vm ?_)
  refine letv (bitset_within s b) fun rv8 hg9 => ?_
  have hc10 := fn160 s sa1 sk1 b pre pre rv8 hg9
  refine Oc [1] ca160 hc10 ?_
  rintro - -
  refine Oq Vpt (Oq Vm ?_)
  refine Js 12 ?_ ?_
  ·intro h11
   try have hrg := PV_w (s := s) (by simp only [h6, h11, hg4, hg9])
   try have hwi := within_iff (s := s) (b := b) (by simp only [h6, h11, hg4, hg9])
   refine Oq (Vfa fo42_1 0) (Oq (VldF sh40 0) (Oq Vm (Oq Vquo (Oq (Vi sl40 1) (Oq (VldU sh122 1) (Oq Vm (Oq (VcU un3 un123) (Oq (VremU (b := 64#64) (by simp)) (Oq VshrU ?_)))))))))
   refine Oq (VandU (b := 1#64)) (Oq (VeqlU (b := 1#64)) (Oq Vpt (Oq Va (KS ?_))))
   have hq := q4 hrr ((((s.Words.getD ((b / 64) : Int).toNat 0#64) >>> ((((BitVec.ofInt 64 b) % 64#64).toNat : Int)).toNat) &&& 1#64) == 1#64) (by simp only [bitset_Has, h6, h11, hg4, hg9, cs4]); subst hq
   exact Kr () rfl (.tmp rfl .nil) [] trivial
  intro h11
  refine Osk (Osk (Osk (Osk (Osk (Osk (Osk (Osk (Osk (Osk ?_)))))))))
  refine Osk (Osk (Oq Vpf (Oq Va (KS ?_))))
  have hq := q4 hrr false (by simp only [bitset_Has, h6, h11, hg4, hg9, cs4]); subst hq
  exact Kr () rfl (.tmp rfl .nil) [] trivial
 intro h6
 refine Osk (Osk (Osk (Oq Vpf (Oq Vm (Osk (Osk (Osk (Osk (Osk ?_)))))))))
 refine Osk (Osk (Osk (Osk (Osk (Osk (Osk (Oq Vpf (Oq Va (KS ?_)))))))))
 have hq := q4 hrr false (by simp only [bitset_Has, h6, hg4, cs4]); subst hq
 exact Kr () rfl (.tmp rfl .nil) [] trivial
theorem fn235 (a : GSet) (aa1 : Option Addr) (ak1 : Nat) (b : GSet) (ba1 : Option Addr) (bk1 : Nat) (combineF : FuncId) (combineC : List Value) (combinep : (BitVec 64) → (BitVec 64) → (BitVec 64)) (combineA : List SP) (ha_0 : i64ok a.Width) (hb_0 : i64ok b.Width) (hcombinec : callable Tryz.prog combineF = true) (hcombineF : ∀ x0 x1, FT Tryz.prog combineF ([u64 x0, u64 x1] ++ combineC).toArray ([] ++ [pAll combineA]) (fun _ : Unit => True) (fun _ => u64 (combinep x0 x1)) (fun _ => [])) (rr : GSet × Int) (hrr : bitset_merge a b combinep = rr) : FT Tryz.prog 235 #[.agg #[vi a.Width, vl aa1 ak1 a.Words], .agg #[vi b.Width, vl ba1 bk1 b.Words], .func (.func combineF) #[] combineC.toArray] [S aa1 ak1 a.Words, S ba1 bk1 b.Words, pAll combineA] (fun g : Value => i64ok rr.1.Width ∧ i64ok rr.2) (fun g => .tuple #[.agg #[vi rr.1.Width, g], vi rr.2]) (fun g => [sl g rr.1.Words]) := by
 refine FTi Tryz.func235 fun w0 M0 F0 => ?_
 unfold i64ok at ha_0 hb_0
 refine Fb 8 0 fun _ => Fb 8 1 fun _ => KS ?_
 refine Oa (Ab [vi a.Width, vl aa1 ak1 a.Words]) fun p3 => Oa (Ab [vi b.Width, vl ba1 bk1 b.Words]) fun p4 => Oa (Al ze42 [vi 0, .slice none 0 0]) fun p5 => Oq Va (KS ?_)
 refine Oq (VldA sh42 2) ?_
 refine letv (bitset_Valid a) fun rv6 hg7 => ?_
 have hc8 := fn123 a aa1 ak1 pre rv6 hg7
 refine Oc [3] ca123 hc8 ?_
 rintro - -
 refine Oq Vnot (Oq Vm ?_)
 refine Js 14 ?_ ?_
 ·intro h9
  have h11 := not_true h9
  refine Osk (Osk (Osk (Oq Vpt (Oq Va (KS ?_)))))
  refine Kt (KS ?_)
  refine Oq (Vbd st42 [vi 0, .slice none 0 0]) (Ost (Scl [0] sh42 [vi 0, .slice none 0 0]) (Oq Va (KS ?_)))
  refine Jl [] (Ent.slNil (α := BitVec 64)) ?_
  have hq := q4 hrr ((GSet.mk 0 []), 1) (by simp only [bitset_merge, h9, h11, hg7, cs4]); subst hq
  exact Kr (.slice none 0 0) rfl (.cellN 1 rfl sh42 rfl (reads_Cl _ _) rfl (.tmp rfl .nil)) [0] en
 intro h9
 have h14 := not_false h9
 try have hra := PV_w (s := a) (by simp only [h9, h14, hg7])
 try have hrb := PV_w (s := b) (by simp only [h9, h14, hg7])
 refine Oq (VldA sh42 1) ?_
 refine letv (bitset_Valid b) fun rv16 hg17 => ?_
 have hc18 := fn123 b ba1 bk1 pre rv16 hg17
 refine Oc [4] ca123 hc18 ?_
 rintro - -
 refine Oq Vnot (Oq Vpf (Oq Va (KS ?_)))
 refine Kc ?_ ?_
 ·intro h19
  have h21 := not_true h19
  refine KS ?_
  refine Oq (Vbd st42 [vi 0, .slice none 0 0]) (Ost (Scl [0] sh42 [vi 0, .slice none 0 0]) (Oq Va (KS ?_)))
  refine Jl [] (Ent.slNil (α := BitVec 64)) ?_
  have hq := q4 hrr ((GSet.mk 0 []), 1) (by simp only [bitset_merge, h9, h14, h19, h21, hg7, hg17, cs4]); subst hq
  exact Kr (.slice none 0 0) rfl (.cellN 1 rfl sh42 rfl (reads_Cl _ _) rfl (.tmp rfl .nil)) [0] en
 intro h19
 have h24 := not_false h19
 try have hra := PV_w (s := a) (by simp only [h9, h14, h19, h24, hg7, hg17])
 try have hrb := PV_w (s := b) (by simp only [h9, h14, h19, h24, hg7, hg17])
 refine KS ?_
 refine Oq (Vfa fo42_0 2) (Oq (VldF sh3 2) (Oq (Vfa fo42_0 1) (Oq (VldF sh3 1) (Oq Vneq (Oq Va (KS ?_))))))
 refine Kc ?_ ?_
 ·intro h26
  have g27 := ne_of_bne h26
  refine KS ?_
  refine Oq (Vbd st42 [vi 0, .slice none 0 0]) (Ost (Scl [0] sh42 [vi 0, .slice none 0 0]) (Oq Va (KS ?_)))
  refine Jl [] (Ent.slNil (α := BitVec 64)) ?_
  have hq := q4 hrr ((GSet.mk 0 []), 2) (by simp only [bitset_merge, h9, h14, h19, h24, h26, hg7, hg17, cs4]); subst hq
  exact Kr (.slice none 0 0) rfl (.cellN 1 rfl sh42 rfl (reads_Cl _ _) rfl (.tmp rfl .nil)) [0] en
 intro h26
 have g28 := eq_of_bne_false h26
 refine KS ?_
 refine JK_drawK [0, 1, 0, 4, 12, 28, 63, 0, 255] fmix ?_
 refine Dv [2] (Vfa fo42_0 0) (Dv [2] (VldF sh3 0) (Dv [2] (Vfa fo42_1 0) (Dv [2] (VldF sh40 0) (Dv [] (Vlen sl40) ?_))))
 have hn30 := List.length_replicate (n := (a.Words.length : Int).toNat) (a := 0#64)
 refine Dx [] [] [0] (fun G => (G.g 5 0)) [fun G => os (G.g 5 0) ((List.replicate (a.Words.length : Int).toNat 0#64) : List (BitVec 64))] (fun G => xA (Amk (α := BitVec 64) sl40 sz40 0#64 (fun _ _ => rfl))) ?_
 refine Dx [6] [] [0] (fun G => .agg #[vi a.Width, (G.g 5 0)]) [] (fun G => xV (v := .agg #[vi a.Width, (G.g 5 0)]) (Vo 0 rfl (isO_os _ _) fun aq31 kq32 eq33 => (by rw [eq33]; exact Vbd st42 [vi a.Width, .slice aq31 (((List.replicate (a.Words.length : Int).toNat 0#64) : List (BitVec 64)).length) kq32]))) (Dx [] [] [0] (fun G => (G.g 7 0)) [fun G => Cl (G.g 7 0) [vi 0, .slice none 0 0]] (fun G => xA (Al ze42 [vi 0, .slice none 0 0])) (Dx0 [6, 7] [7] [1, 0] [fun G => Cl (G.g 7 0) [vi a.Width, (G.g 5 0)]] (fun G => x1 0 rfl os_one fun ho35 => (xS (Scl [1] sh42 [vi a.Width, (G.g 5 0)] (v := .agg #[vi a.Width, (G.g 5 0)]) (h1 := show [vi a.Width, (G.g 5 0)].all (·.oneCell') = true from (by simp only [List.all_cons, List.all_nil, ho35, Bool.and_true, Bool.true_and] <;> rfl))))) ?_))
 refine Dn ⟨by kernel_rfl, fun G => ?_⟩
 refine Jw2 [(2, .func (.func combineF) #[] combineC.toArray), (3, p3), (4, p4), (6, p5), (8, (G.g 7 0))] [0, 1, 2, 3, 4, 5] [os (G.g 5 0) ((List.replicate (a.Words.length : Int).toNat 0#64) : List (BitVec 64)), Cl (G.g 7 0) [vi a.Width, (G.g 5 0)]] ?_
 generalize G.g 5 0 = c29, G.g 7 0 = p34
 refine Jo 6 ?_; rintro a36 k37 rfl
 refine Fb 8 6 fun _ => KS ?_
 refine Oq (Vfa fo42_1 7) (Oq (VldF sh40 7) (Oq (Vlen sl40) (Oq Vm (KS ?_))))
 refine Kl (γ := Nat × List (BitVec 64) × Int) (fun (r39, out1_40, v37_41) => ⟨[(2, .func (.func combineF) #[] combineC.toArray), (3, p3), (4, p4), (6, p5), (8, p34), (36, vi (((List.replicate (a.Words.length : Int).toNat 0#64).length : Nat) : Int)), (37, vi v37_41)], [Cl p5 [vi 0, .slice none 0 0], pv p4 [vi b.Width, vl ba1 bk1 b.Words], pv p3 [vi a.Width, vl aa1 ak1 a.Words], S aa1 ak1 a.Words, S ba1 bk1 b.Words, pAll combineA, os (vl a36 k37 (List.replicate (a.Words.length : Int).toNat 0#64)) out1_40, Cl p34 [vi a.Width, vl a36 k37 (List.replicate (a.Words.length : Int).toNat 0#64)]], bitset_merge_L0 a b combinep r39 out1_40 v37_41 = bitset_merge_L0 a b combinep ((((((List.replicate (a.Words.length : Int).toNat 0#64).length : Nat) : Int) : Int) - 0).toNat) (List.replicate (a.Words.length : Int).toNat 0#64) 0 ∧ r39 = (((((List.replicate (a.Words.length : Int).toNat 0#64).length : Nat) : Int) : Int) - v37_41).toNat ∧ (0 : Int) ≤ v37_41 ∧ (v37_41 ≤ (((List.replicate (a.Words.length : Int).toNat 0#64).length : Nat) : Int) ∨ v37_41 = 0) ∧ (-9223372036854775808 ≤ v37_41 ∧ v37_41 ≤ 9223372036854775807) ∧ out1_40.length = a.Words.length, r39⟩) ((((((List.replicate (a.Words.length : Int).toNat 0#64).length : Nat) : Int) : Int) - 0).toNat, (List.replicate (a.Words.length : Int).toNat 0#64), 0) [0, 0, 1, 2, 3, 4, 5, 5] ⟨rfl, rfl, (by omega), (.inr rfl), (by omega), iv0⟩ ?_
 rintro ⟨r39, out1_40, v37_41⟩ ⟨hM42, hr43, hi44, hi45, hk46, hv47⟩
 refine JJ_nx fun _ _ hL hA => ?_; dsimp only at hL hA; subst hL hA
 refine Fb 8 3 fun _ => Fb 8 4 fun _ => Fb 8 6 fun _ => Fl 6 fun hn51 => ?_
 refine KS ?_
 refine Oq Vlss (KS ?_)
 refine Kc ?_ ?_
 ·intro h52
  have g53 := dt h52
  obtain ⟨r54, rfl⟩ := scc (n := r39) (by omega)
  refine KS ?_
  refine Oq Vm (Oq Va (KS ?_))
  refine Jp 7 fun hp55 => ?_
  refine JK_drawK [0, 1, 0, 0, 0, 16, 0, 112, 240, 0, 512, 0, 3584, 7680, 16376, 32767, 65535] fmix ?_
  refine Dv [0] (Vfa fo42_1 0) (Dv [8] (VldF sh40 0) (Dv [] Vm (Dv [] Vm (Dv [3] (Vfa fo42_1 0) (Dv [3] (VldF sh40 0) (Dv [] Vm (Dv [4] (Vi sl40 0) (Dv [4] (VldU sh122 0) (Dv [2] (Vfa fo42_1 0) ?_)))))))))
  refine Dv [2] (VldF sh40 0) (Dv [] Vm (Dv [5] (Vi sl40 0) (Dv [5] (VldU sh122 0) (Dx [6] [] [1, 0] (fun G => u64 (combinep (a.Words.getD v37_41.toNat 0#64) (b.Words.getD v37_41.toNat 0#64))) [fun G => SP.fact (True)] (fun G => xE («as» := [(u64 (a.Words.getD v37_41.toNat 0#64) : Value), (u64 (b.Words.getD v37_41.toNat 0#64) : Value)] ++ combineC) [0] hcombinec rfl rfl rfl (by simp) rfl (hcombineF (a.Words.getD v37_41.toNat 0#64) (b.Words.getD v37_41.toNat 0#64)  )) (Dv [7] (Vi sl40 0) (Dx0 [7] [7] [0] [fun G => os (vl a36 k37 (List.replicate (a.Words.length : Int).toNat 0#64)) (out1_40.set v37_41.toNat (combinep (a.Words.getD v37_41.toNat 0#64) (b.Words.getD v37_41.toNat 0#64)))] (fun G => xS (SoU [0] sh122)) ?_))))))
  refine Dn ⟨by kernel_rfl, fun G => ?_⟩
  refine Jw2 [(2, .func (.func combineF) #[] combineC.toArray), (3, p3), (4, p4), (6, p5), (8, p34), (36, vi (((List.replicate (a.Words.length : Int).toNat 0#64).length : Nat) : Int)), (37, vi v37_41)] [0, 1, 2, 3, 4, 5, 6, 8] [SP.fact (True), os (vl a36 k37 (List.replicate (a.Words.length : Int).toNat 0#64)) (out1_40.set v37_41.toNat (combinep (a.Words.getD v37_41.toNat 0#64) (b.Words.getD v37_41.toNat 0#64)))] ?_
  refine Jk [1, 1, 2, 3, 4, 5, 6, 7] ?_
  refine KS ?_
  refine Oq Vadd (Oq Vm (KS ?_))
  exact Kg (r54, (out1_40.set v37_41.toNat (combinep (a.Words.getD v37_41.toNat 0#64) (b.Words.getD v37_41.toNat 0#64))), (v37_41 + 1)) [0, 0, 1, 2, 3, 4, 6, 5] ⟨(q3 hM42 (by simp only [bitset_merge_L0, h9, h14, h19, h24, h26, h52, hg7, hg17, cs4])), (by omega), (by omega), (by omega), (by omega), iv1⟩
 intro h52
 have g56 := df h52
 obtain rfl : r39 = 0 := by omega
 refine Ke ?_
 have hR57 := q2 hM42 out1_40 (by simp only [bitset_merge_L0, h9, h14, h19, h24, h26, h52, hg7, hg17, cs4])
 refine KS ?_
 refine Oq (VldA sh42 7) (Ost (Scl [0] sh42 [vi a.Width, vl a36 k37 (List.replicate (a.Words.length : Int).toNat 0#64)]) (Oq Va (KS ?_)))
 refine Jl [6] (Ent.freeze _ _) ?_
 have hq := q4 hrr ((GSet.mk a.Width out1_40), 0) (by simp only [bitset_merge, h9, h14, h19, h24, h26, h52, hg7, hg17, hR57, cs4]); subst hq
 exact Kr (vl a36 k37 (List.replicate (a.Words.length : Int).toNat 0#64)) rfl (.cellN 1 rfl sh42 rfl (reads_Cl _ _) rfl (.tmp rfl .nil)) [0] en
theorem fn236 (x : BitVec 64) (y : BitVec 64) (rr : BitVec 64) (hrr : bitset_Union_1 x y = rr) : FT Tryz.prog 236 #[u64 x, u64 y] [] (fun g : Unit => True) (fun g => u64 rr) (fun g => []) := by
 refine FTi Tryz.func236 fun w0 M0 F0 => ?_
 refine KS ?_
 refine Oq Va (KS ?_)
 refine Oq Vm (Oq Vm (Oq VorU (Oq Va (KS ?_))))
 have hq := q4 hrr (x ||| y) (by simp only [bitset_Union_1, cs4]); subst hq
 exact Kr () rfl (.tmp rfl .nil) [] trivial
theorem fn180 (a : GSet) (aa1 : Option Addr) (ak1 : Nat) (b : GSet) (ba1 : Option Addr) (bk1 : Nat) (ha_0 : i64ok a.Width) (hb_0 : i64ok b.Width) (rr : GSet × Int) (hrr : bitset_Union a b = rr) : FT Tryz.prog 180 #[.agg #[vi a.Width, vl aa1 ak1 a.Words], .agg #[vi b.Width, vl ba1 bk1 b.Words]] [S aa1 ak1 a.Words, S ba1 bk1 b.Words] (fun g : Value => i64ok rr.1.Width ∧ i64ok rr.2) (fun g => .tuple #[.agg #[vi rr.1.Width, g], vi rr.2]) (fun g => [sl g rr.1.Words]) := by
 refine FTi Tryz.func180 fun w0 M0 F0 => ?_
 unfold i64ok at ha_0 hb_0
 refine Fb 8 0 fun _ => Fb 8 1 fun _ => KS ?_
 refine Oa (Ab [vi a.Width, vl aa1 ak1 a.Words]) fun p3 => Oa (Ab [vi b.Width, vl ba1 bk1 b.Words]) fun p4 => Oa (Al ze42 [vi 0, .slice none 0 0]) fun p5 => Oq Va (KS ?_)
 refine Oq (VldA sh42 2) (Oq (VldA sh42 1) ?_)
 refine JJ_ent (Ent.pall [] rfl rfl) ?_
 refine letv (bitset_merge a b (fun x0 x1 => bitset_Union_1 x0 x1)) fun rv7 hg8 => ?_
 have hc9 := fn235 a aa1 ak1 b ba1 bk1 236 [] (fun x0 x1 => bitset_Union_1 x0 x1) [] pre pre ca236 (fun x0 x1 => FT_pall (A1 := []) (fn236 x0 x1   _ rfl)) rv7 hg8
 refine Oc [4, 5, 0] ca235 hc9 ?_
 rintro c6 ⟨he10, he11⟩
 unfold i64ok at he10 he11
 refine Jo 0 ?_; rintro a12 k13 rfl
 refine Fb 8 0 fun _ => ?_
 refine Oq Vx (Oq Vx (Ost (Scl [2] sh42 [vi rv7.1.Width, vl a12 k13 rv7.1.Words]) (Oq Va (KS ?_))))
 have hq := q4 hrr (rv7.1, rv7.2) (by simp only [bitset_Union, hg8, cs4]); subst hq
 exact Kr (vl a12 k13 rv7.1.Words) rfl (.cellN 0 rfl sh42 rfl (reads_Cl _ _) rfl (.tmp rfl .nil)) [1] en
theorem fn262 (x : BitVec 64) (y : BitVec 64) (rr : BitVec 64) (hrr : bitset_Diff_1 x y = rr) : FT Tryz.prog 262 #[u64 x, u64 y] [] (fun g : Unit => True) (fun g => u64 rr) (fun g => []) := by
 refine FTi Tryz.func262 fun w0 M0 F0 => ?_
 refine KS ?_
 refine Oq Va (KS ?_)
 refine Oq Vm (Oq Vm (Oq VandNotU (Oq Va (KS ?_))))
 have hq := q4 hrr (x &&& ~~~y) (by simp only [bitset_Diff_1, cs4]); subst hq
 exact Kr () rfl (.tmp rfl .nil) [] trivial
theorem fn214 (a : GSet) (aa1 : Option Addr) (ak1 : Nat) (b : GSet) (ba1 : Option Addr) (bk1 : Nat) (ha_0 : i64ok a.Width) (hb_0 : i64ok b.Width) (rr : GSet × Int) (hrr : bitset_Diff a b = rr) : FT Tryz.prog 214 #[.agg #[vi a.Width, vl aa1 ak1 a.Words], .agg #[vi b.Width, vl ba1 bk1 b.Words]] [S aa1 ak1 a.Words, S ba1 bk1 b.Words] (fun g : Value => i64ok rr.1.Width ∧ i64ok rr.2) (fun g => .tuple #[.agg #[vi rr.1.Width, g], vi rr.2]) (fun g => [sl g rr.1.Words]) := by
 refine FTi Tryz.func214 fun w0 M0 F0 => ?_
 unfold i64ok at ha_0 hb_0
 refine Fb 8 0 fun _ => Fb 8 1 fun _ => KS ?_
 refine Oa (Ab [vi a.Width, vl aa1 ak1 a.Words]) fun p3 => Oa (Ab [vi b.Width, vl ba1 bk1 b.Words]) fun p4 => Oa (Al ze42 [vi 0, .slice none 0 0]) fun p5 => Oq Va (KS ?_)
 refine Oq (VldA sh42 2) (Oq (VldA sh42 1) ?_)
 refine JJ_ent (Ent.pall [] rfl rfl) ?_
 refine letv (bitset_merge a b (fun x0 x1 => bitset_Diff_1 x0 x1)) fun rv7 hg8 => ?_
 have hc9 := fn235 a aa1 ak1 b ba1 bk1 262 [] (fun x0 x1 => bitset_Diff_1 x0 x1) [] pre pre ca262 (fun x0 x1 => FT_pall (A1 := []) (fn262 x0 x1   _ rfl)) rv7 hg8
 refine Oc [4, 5, 0] ca235 hc9 ?_
 rintro c6 ⟨he10, he11⟩
 unfold i64ok at he10 he11
 refine Jo 0 ?_; rintro a12 k13 rfl
 refine Fb 8 0 fun _ => ?_
 refine Oq Vx (Oq Vx (Ost (Scl [2] sh42 [vi rv7.1.Width, vl a12 k13 rv7.1.Words]) (Oq Va (KS ?_))))
 have hq := q4 hrr (rv7.1, rv7.2) (by simp only [bitset_Diff, hg8, cs4]); subst hq
 exact Kr (vl a12 k13 rv7.1.Words) rfl (.cellN 0 rfl sh42 rfl (reads_Cl _ _) rfl (.tmp rfl .nil)) [1] en
theorem fn299 (s : GSet) (sa1 : Option Addr) (sk1 : Nat) (b : Int) (hs_0 : i64ok s.Width) (hb_0 : i64ok b) (hb0 : 0 ≤ b ∧ b / 64 < (s.Words.length : Int)) (rr : List (BitVec 64)) (hrr : bitset_put s b = rr) : FT Tryz.prog 299 #[.agg #[vi s.Width, vl sa1 sk1 s.Words], vi b] [O sa1 sk1 s.Words] (fun g : Unit => True) (fun g => .tuple #[]) (fun g => [os (vl sa1 sk1 s.Words) rr]) := by
 refine FTi Tryz.func299 fun w0 M0 F0 => ?_
 unfold i64ok at hs_0 hb_0
 refine Fb 8 0 fun _ => KS ?_
 refine Oa (Ab [vi s.Width, vl sa1 sk1 s.Words]) fun p2 => KS ?_
 refine Oq (Vfa fo42_1 0) (Oq (VldF sh40 0) (Oq Vm (Oq Vquo (Oq (Vi sl40 1) (Oq (VldU sh122 1) (Oq Vm (Oq (VcU un3 un123) (Oq (VremU (b := 64#64) (by simp)) (Oq (VshlU (a := 1#64)) ?_)))))))))
 refine Oq VorU (Oq (Vi sl40 1) (Ost (SoU [1] sh122) (KS ?_)))
 have hq := q4 hrr (s.Words.set ((b / 64) : Int).toNat ((s.Words.getD ((b / 64) : Int).toNat 0#64) ||| (1#64 <<< ((((BitVec.ofInt 64 b) % 64#64).toNat : Int)).toNat))) (by simp only [bitset_put, cs4]); subst hq
 exact Kz () rfl .nil [0] trivial
theorem fn294 (s : GSet) (sa1 : Option Addr) (sk1 : Nat) (b : Int) (member : Bool) (hs_0 : i64ok s.Width) (hb_0 : i64ok b) (rr : GSet × Int) (hrr : bitset_changed s b member = rr) : FT Tryz.prog 294 #[.agg #[vi s.Width, vl sa1 sk1 s.Words], vi b, vb member] [S sa1 sk1 s.Words] (fun g : Value => i64ok rr.1.Width ∧ i64ok rr.2) (fun g => .tuple #[.agg #[vi rr.1.Width, g], vi rr.2]) (fun g => [sl g rr.1.Words]) := by
 refine FTi Tryz.func294 fun w0 M0 F0 => ?_
 unfold i64ok at hs_0 hb_0
 refine Fb 8 0 fun _ => KS ?_
 refine Oa (Ab [vi s.Width, vl sa1 sk1 s.Words]) fun p2 => Oa (Al ze42 [vi 0, .slice none 0 0]) fun p3 => Oq Va (KS ?_)
 refine Oq (VldA sh42 1) ?_
 refine letv (bitset_Valid s) fun rv4 hg5 => ?_
 have hc6 := fn123 s sa1 sk1 pre rv4 hg5
 refine Oc [2] ca123 hc6 ?_
 rintro - -
 refine Oq Vnot (Oq Va (KS ?_))
 refine Kc ?_ ?_
 ·intro h7
  have h9 := not_true h7
  refine KS ?_
  refine Oq (Vbd st42 [vi 0, .slice none 0 0]) (Ost (Scl [0] sh42 [vi 0, .slice none 0 0]) (Oq Va (KS ?_)))
  refine Jl [] (Ent.slNil (α := BitVec 64)) ?_
  have hq := q4 hrr ((GSet.mk 0 []), 1) (by simp only [bitset_changed, h7, h9, hg5, cs4]); subst hq
  exact Kr (.slice none 0 0) rfl (.cellN 1 rfl sh42 rfl (reads_Cl _ _) rfl (.tmp rfl .nil)) [0] en
 intro h7
 have h12 := not_false h7
 try have hrg := PV_w (s := s) (by simp only [h7, h12, hg5])
 try have hwi := within_iff (s := s) (b := b) (by simp only [h7, h12, hg5])
 refine KS ?_
 refine Oq (VldA sh42 1) (Oq Vm ?_)
 refine letv (bitset_within s b) fun rv14 hg15 => ?_
 have hc16 := fn160 s sa1 sk1 b pre pre rv14 hg15
 refine Oc [2] ca160 hc16 ?_
 rintro - -
 refine Oq Vnot (Oq Va (KS ?_))
 refine Kc ?_ ?_
 ·intro h17
  have h19 := not_true h17
  refine KS ?_
  refine Oq (Vbd st42 [vi 0, .slice none 0 0]) (Ost (Scl [0] sh42 [vi 0, .slice none 0 0]) (Oq Va (KS ?_)))
  refine Jl [] (Ent.slNil (α := BitVec 64)) ?_
  have hq := q4 hrr ((GSet.mk 0 []), 3) (by simp only [bitset_changed, h7, h12, h17, h19, hg5, hg15, cs4]); subst hq
  exact Kr (.slice none 0 0) rfl (.cellN 1 rfl sh42 rfl (reads_Cl _ _) rfl (.tmp rfl .nil)) [0] en
 intro h17
 have h22 := not_false h17
 try have hrg := PV_w (s := s) (by simp only [h7, h12, h17, h22, hg5, hg15])
 try have hwi := within_iff (s := s) (b := b) (by simp only [h7, h12, h17, h22, hg5, hg15])
 refine KS ?_
 refine JK_drawK [0, 1, 0, 4, 12, 31, 0, 127] fmix ?_
 refine Dv [1] (Vfa fo42_0 0) (Dv [1] (VldF sh3 0) (Dv [1] (Vfa fo42_1 0) (Dv [1] (VldF sh40 0) ?_)))
 refine letv (slices_Clone_uint64 s.Words) fun rv25 hg26 => Dx [2] [] [2, 0, 1] (fun G => (G.g 4 0)) [fun G => SP.fact ((rv25.length = s.Words.length)), fun G => os (G.g 4 0) rv25] (fun G => xC [0] ca184 (fn184 s.Words sa1 sk1 rv25 hg26)) ?_
 refine Dx [4] [] [0] (fun G => .agg #[vi s.Width, (G.g 4 0)]) [] (fun G => xV (v := .agg #[vi s.Width, (G.g 4 0)]) (Vo 0 rfl (isO_os _ _) fun aq27 kq28 eq29 => (by rw [eq29]; exact Vbd st42 [vi s.Width, .slice aq27 ((rv25 : List (BitVec 64)).length) kq28]))) (Dx [] [] [0] (fun G => (G.g 6 0)) [fun G => Cl (G.g 6 0) [vi 0, .slice none 0 0]] (fun G => xA (Al ze42 [vi 0, .slice none 0 0])) (Dx0 [4, 5] [5] [1, 0] [fun G => Cl (G.g 6 0) [vi s.Width, (G.g 4 0)]] (fun G => x1 0 rfl os_one fun ho31 => (xS (Scl [1] sh42 [vi s.Width, (G.g 4 0)] (v := .agg #[vi s.Width, (G.g 4 0)]) (h1 := show [vi s.Width, (G.g 4 0)].all (·.oneCell') = true from (by simp only [List.all_cons, List.all_nil, ho31, Bool.and_true, Bool.true_and] <;> rfl))))) ?_))
 refine Dn ⟨by kernel_rfl, fun G => ?_⟩
 refine Jw2 [(1, vi b), (2, vb member), (6, p3), (8, (G.g 6 0))] [0, 1, 2] [SP.fact ((rv25.length = s.Words.length)), os (G.g 4 0) rv25, Cl (G.g 6 0) [vi s.Width, (G.g 4 0)]] ?_
 generalize G.g 4 0 = c24, G.g 6 0 = p30
 refine Jf 3 rfl ?_; rintro he32
 refine Jk [0, 0, 1, 3, 3] ?_
 refine Jo 3 ?_; rintro a33 k34 rfl
 refine Fb 8 3 fun _ => KS ?_
 refine Oq (Vfa fo42_1 4) (Oq (VldF sh40 4) (Oq Vm (Oq Vquo (Oq (Vi sl40 3) (Oq (VldU sh122 3) (Oq Vm (Oq (VcU un3 un123) (Oq (VremU (b := 64#64) (by simp)) (Oq (VshlU (a := 1#64)) ?_)))))))))
 refine Oq VandNotU (Oq (Vi sl40 3) (Ost (SoU [3] sh122) (KS ?_)))
 refine Oq Vm (KS ?_)
 refine Kc ?_ ?_
 ·intro h36
  refine KS ?_
  refine Oq (VldA sh42 4) (Oq Vm ?_)
  refine Fl 0 fun hn38 => ?_; try unfold vl; rw [← hn38]
  refine letv (bitset_put (GSet.mk s.Width (rv25.set ((b / 64) : Int).toNat ((rv25.getD ((b / 64) : Int).toNat 0#64) &&& ~~~(1#64 <<< ((((BitVec.ofInt 64 b) % 64#64).toNat : Int)).toNat)))) b) fun rv39 hg40 => ?_
  have hc41 := fn299 ((GSet.mk s.Width (rv25.set ((b / 64) : Int).toNat ((rv25.getD ((b / 64) : Int).toNat 0#64) &&& ~~~(1#64 <<< ((((BitVec.ofInt 64 b) % 64#64).toNat : Int)).toNat))))) a33 k34 b pre pre pre rv39 hg40
  refine Oc [0] ca299 hc41 ?_
  rintro - -
  refine KS ?_
  refine Oq (VldA sh42 4) (Ost (Scl [1] sh42 [vi s.Width, .slice a33 ((rv25.set ((b / 64) : Int).toNat ((rv25.getD ((b / 64) : Int).toNat 0#64) &&& ~~~(1#64 <<< ((((BitVec.ofInt 64 b) % 64#64).toNat : Int)).toNat))).length) k34]) (Oq Va (KS ?_)))
  refine Jl [1] (Ent.freeze _ _) ?_
  have hq := q4 hrr ((GSet.mk s.Width rv39), 0) (by simp only [bitset_changed, h7, h12, h17, h22, h36, hg5, hg15, hg26, hg40, cs4]); subst hq
  exact Kr (.slice a33 ((rv25.set ((b / 64) : Int).toNat ((rv25.getD ((b / 64) : Int).toNat 0#64) &&& ~~~(1#64 <<< ((((BitVec.ofInt 64 b) % 64#64).toNat : Int)).toNat))).length) k34) rfl (.cellN 1 rfl sh42 rfl (reads_Cl _ _) rfl (.tmp rfl .nil)) [0] en
 intro h36
 refine KS ?_
 refine Oq (VldA sh42 4) (Ost (Scl [1] sh42 [vi s.Width, vl a33 k34 rv25]) (Oq Va (KS ?_)))
 refine Jl [1] (Ent.freeze _ _) ?_
 have hq := q4 hrr ((GSet.mk s.Width (rv25.set ((b / 64) : Int).toNat ((rv25.getD ((b / 64) : Int).toNat 0#64) &&& ~~~(1#64 <<< ((((BitVec.ofInt 64 b) % 64#64).toNat : Int)).toNat)))), 0) (by simp only [bitset_changed, h7, h12, h17, h22, h36, hg5, hg15, hg26, cs4]); subst hq
 exact Kr (vl a33 k34 rv25) rfl (.cellN 1 rfl sh42 rfl (reads_Cl _ _) rfl (.tmp rfl .nil)) [0] en
theorem fn280 (s : GSet) (sa1 : Option Addr) (sk1 : Nat) (b : Int) (hs_0 : i64ok s.Width) (hb_0 : i64ok b) (rr : GSet × Int) (hrr : bitset_With s b = rr) : FT Tryz.prog 280 #[.agg #[vi s.Width, vl sa1 sk1 s.Words], vi b] [S sa1 sk1 s.Words] (fun g : Value => i64ok rr.1.Width ∧ i64ok rr.2) (fun g => .tuple #[.agg #[vi rr.1.Width, g], vi rr.2]) (fun g => [sl g rr.1.Words]) := by
 refine FTi Tryz.func280 fun w0 M0 F0 => ?_
 unfold i64ok at hs_0 hb_0
 refine Fb 8 0 fun _ => KS ?_
 refine Oa (Ab [vi s.Width, vl sa1 sk1 s.Words]) fun p2 => Oa (Al ze42 [vi 0, .slice none 0 0]) fun p3 => Oq Va (KS ?_)
 refine Oq (VldA sh42 1) (Oq Vm ?_)
 refine letv (bitset_changed s b true) fun rv5 hg6 => ?_
 have hc7 := fn294 s sa1 sk1 b true pre pre rv5 hg6
 refine Oc [2] ca294 hc7 ?_
 rintro c4 ⟨he8, he9⟩
 unfold i64ok at he8 he9
 refine Jo 0 ?_; rintro a10 k11 rfl
 refine Fb 8 0 fun _ => ?_
 refine Oq Vx (Oq Vx (Ost (Scl [1] sh42 [vi rv5.1.Width, vl a10 k11 rv5.1.Words]) (Oq Va (KS ?_))))
 have hq := q4 hrr (rv5.1, rv5.2) (by simp only [bitset_With, hg6, cs4]); subst hq
 exact Kr (vl a10 k11 rv5.1.Words) rfl (.cellN 0 rfl sh42 rfl (reads_Cl _ _) rfl (.tmp rfl .nil)) [1] en
theorem fn234 (t : GTransfer) (ta1 : Option Addr) (tk1 : Nat) (ta3 : Option Addr) (tk3 : Nat) (ta4 : Option Addr) (tk4 : Nat) (s : GSet) (sa1 : Option Addr) (sk1 : Nat) (ht_0 : i64ok t.Gen.Width) (ht_2 : i64ok t.Kill.Width) (hs_0 : i64ok s.Width) (rr : GSet) (hrr : transfer_apply t s = rr) : FT Tryz.prog 234 #[.agg #[vi t.Gen.Width, vl ta1 tk1 t.Gen.Words, vi t.Kill.Width, vl ta3 tk3 t.Kill.Words, vl ta4 tk4 t.Copies], .agg #[vi s.Width, vl sa1 sk1 s.Words]] [S ta1 tk1 t.Gen.Words, S ta3 tk3 t.Kill.Words, S ta4 tk4 t.Copies, S sa1 sk1 s.Words] (fun g : Value => i64ok rr.Width) (fun g => .agg #[vi rr.Width, g]) (fun g => [sl g rr.Words]) := by
 refine FTi Tryz.func234 fun w0 M0 F0 => ?_
 unfold i64ok at ht_0 ht_2 hs_0
 refine Fb 8 0 fun _ => Fb 8 1 fun _ => Fb 16 2 fun _ => Fb 8 3 fun _ => KS ?_
 refine Oa (Ab [vi t.Gen.Width, vl ta1 tk1 t.Gen.Words, vi t.Kill.Width, vl ta3 tk3 t.Kill.Words, vl ta4 tk4 t.Copies]) fun p5 => Oa (Ab [vi s.Width, vl sa1 sk1 s.Words]) fun p6 => Oa (Al ze42 [vi 0, .slice none 0 0]) fun p7 => KS ?_
 refine Oq (VldA sh42 1) (Oq (Vfa fo98_1 2) (Oq (VldG sh42 2 [vi t.Kill.Width, vl ta3 tk3 t.Kill.Words]) ?_))
 refine letv (bitset_Diff s t.Kill) fun rv9 hg10 => ?_
 have hc11 := fn214 s sa1 sk1 t.Kill ta3 tk3 pre pre rv9 hg10
 refine Oc [6, 4] ca214 hc11 ?_
 rintro c8 ⟨he12, he13⟩
 unfold i64ok at he12 he13
 refine Jo 0 ?_; rintro a14 k15 rfl
 refine Fb 8 0 fun _ => ?_
 refine Oq Vm (Oq Vx (Oq Vx (Oa (Al ze42 [vi 0, .slice none 0 0]) fun p17 => Ost (Scl [0] sh42 [vi rv9.1.Width, vl a14 k15 rv9.1.Words]) (Oq Va (KS ?_)))))
 refine Oq (VldA sh42 0) (Oq (Vfa fo98_0 4) (Oq (VldG sh42 4 [vi t.Gen.Width, vl ta1 tk1 t.Gen.Words]) ?_))
 refine letv (bitset_Union rv9.1 t.Gen) fun rv19 hg20 => ?_
 have hc21 := fn180 rv9.1 a14 k15 t.Gen ta1 tk1 pre pre rv19 hg20
 refine Oc [1, 5] ca180 hc21 ?_
 rintro c18 ⟨he22, he23⟩
 unfold i64ok at he22 he23
 refine Jo 0 ?_; rintro a24 k25 rfl
 refine Fb 8 0 fun _ => ?_
 refine Oq Vm (Oq Vx (Oq Vx (Ost (Scl [1] sh42 [vi rv19.1.Width, vl a24 k25 rv19.1.Words]) (KS ?_))))
 refine Oq (Vfa fo98_2 5) (Oq (VldF sh96 5) (Oq (Vlen sl96) (Oq Vm (KS ?_))))
 refine Kl (γ := Nat × Int × List (BitVec 64) × Int × Option Addr × Nat) (fun (r27, out0_28, out1_29, v26_30, a31, k32) => ⟨[(3, p6), (4, p7), (5, p17), (24, vl ta4 tk4 t.Copies), (25, vi (t.Copies.length : Int)), (26, vi v26_30)], [S a31 k32 out1_29, Cl p17 [vi out0_28, vl a31 k32 out1_29], Cl p7 [vi 0, .slice none 0 0], pv p6 [vi s.Width, vl sa1 sk1 s.Words], S ta4 tk4 t.Copies, S sa1 sk1 s.Words], transfer_apply_L0 t s r27 out0_28 out1_29 v26_30 = transfer_apply_L0 t s (((t.Copies.length : Int) - 0).toNat) rv19.1.Width rv19.1.Words 0 ∧ r27 = ((t.Copies.length : Int) - v26_30).toNat ∧ (0 : Int) ≤ v26_30 ∧ v26_30 ≤ (t.Copies.length : Int) ∧ (-9223372036854775808 ≤ out0_28 ∧ out0_28 ≤ 9223372036854775807) ∧ (-9223372036854775808 ≤ v26_30 ∧ v26_30 ≤ 9223372036854775807), r27⟩) (((t.Copies.length : Int) - 0).toNat, rv19.1.Width, rv19.1.Words, 0, a24, k25) [1, 0, 2, 2, 6, 7] ⟨rfl, rfl, (by omega), (by omega), (by omega), (by omega)⟩ ?_
 rintro ⟨r27, out0_28, out1_29, v26_30, a31, k32⟩ ⟨hM33, hr34, hi35, hi36, hk37, hk38⟩
 refine JJ_nx fun _ _ hL hA => ?_; dsimp only at hL hA; subst hL hA
 refine Fb 8 0 fun _ => Fb 16 4 fun _ => Fb 8 5 fun _ => KS ?_
 refine Oq Vlss (KS ?_)
 refine Kc ?_ ?_
 ·intro h42
  have g43 := dt h42
  obtain ⟨r44, rfl⟩ := scc (n := r27) (by omega)
  refine KS ?_
  refine Oq (Vi sl96 4) ?_
  refine JJ_peek_GCopy v26_30.toNat 4 rfl rng fun hb45 hb46 => ?_
  unfold i64ok at hb45 hb46
  refine Oq (VldA sh147 0) (Oa (Al ze147 [vi 0, vi 0]) fun p47 => Ost (Scl [0] sh147 [vi ((t.Copies.getD v26_30.toNat default).From), vi ((t.Copies.getD v26_30.toNat default).To)]) (KS ?_))
  refine Oq (VldA sh42 5) (Oq (Vfa fo147_0 0) (Oq (VldF sh3 0) ?_))
  refine letv (bitset_Has s ((t.Copies.getD v26_30.toNat default).From)) fun rv48 hg49 => ?_
  have hc50 := fn85 s sa1 sk1 ((t.Copies.getD v26_30.toNat default).From) pre pre rv48 hg49
  refine Oc [7] ca85 hc50 ?_
  rintro - -
  refine KS ?_
  refine Kc ?_ ?_
  ·intro h51
   refine KS ?_
   refine Oq (VldA sh42 3) (Oq (Vfa fo147_1 0) (Oq (VldF sh3 0) ?_))
   refine letv (bitset_With (GSet.mk out0_28 out1_29) ((t.Copies.getD v26_30.toNat default).To)) fun rv54 hg55 => ?_
   have hc56 := fn280 ((GSet.mk out0_28 out1_29)) a31 k32 ((t.Copies.getD v26_30.toNat default).To) pre pre rv54 hg55
   refine Oc [2] ca280 hc56 ?_
   rintro c53 ⟨he57, he58⟩
   unfold i64ok at he57 he58
   refine Jo 0 ?_; rintro a59 k60 rfl
   refine Fb 8 0 fun _ => ?_
   refine Oq Vm (Oq Vx (Oq Vx (Ost (Scl [4] sh42 [vi rv54.1.Width, vl a59 k60 rv54.1.Words]) (KS ?_))))
   refine Oq Vadd (Oq Vm (KS ?_))
   exact Kg (r44, rv54.1.Width, rv54.1.Words, (v26_30 + 1), a59, k60) [1, 0, 4, 4, 5, 6] ⟨(q3 hM33 (by simp only [transfer_apply_L0, h42, h51, hg10, hg20, hg49, hg55, cs4])), (by omega), (by omega), (by omega), (by omega), (by omega)⟩
  intro h51
  refine KS ?_
  refine Oq Vadd (Oq Vm (KS ?_))
  exact Kg (r44, out0_28, out1_29, (v26_30 + 1), a31, k32) [2, 3, 3, 3, 4, 5] ⟨(q3 hM33 (by simp only [transfer_apply_L0, h42, h51, hg10, hg20, hg49, cs4])), (by omega), (by omega), (by omega), (by omega), (by omega)⟩
 intro h42
 have g63 := df h42
 obtain rfl : r27 = 0 := by omega
 refine Ke ?_
 have hR64 := q2 hM33 (out0_28, out1_29) (by simp only [transfer_apply_L0, h42, hg10, hg20, cs4])
 refine KS ?_
 refine Oq (VldA sh42 1) (Ost (Scl [2] sh42 [vi out0_28, vl a31 k32 out1_29]) (KS ?_))
 have hq := q4 hrr (GSet.mk out0_28 out1_29) (by simp only [transfer_apply, h42, hg10, hg20, hR64, cs4]); subst hq
 exact Kr (vl a31 k32 out1_29) rfl (.cellN 0 rfl sh42 rfl (reads_Cl _ _) rfl .nil) [1] en
theorem fn179 (t : GTransfer) (ta1 : Option Addr) (tk1 : Nat) (ta3 : Option Addr) (tk3 : Nat) (ta4 : Option Addr) (tk4 : Nat) (s : GSet) (sa1 : Option Addr) (sk1 : Nat) (ht_0 : i64ok t.Gen.Width) (ht_2 : i64ok t.Kill.Width) (hs_0 : i64ok s.Width) (rr : GSet × Int) (hrr : transfer_Apply t s = rr) : FT Tryz.prog 179 #[.agg #[vi t.Gen.Width, vl ta1 tk1 t.Gen.Words, vi t.Kill.Width, vl ta3 tk3 t.Kill.Words, vl ta4 tk4 t.Copies], .agg #[vi s.Width, vl sa1 sk1 s.Words]] [S ta1 tk1 t.Gen.Words, S ta3 tk3 t.Kill.Words, S ta4 tk4 t.Copies, S sa1 sk1 s.Words] (fun g : Value => i64ok rr.1.Width ∧ i64ok rr.2) (fun g => .tuple #[.agg #[vi rr.1.Width, g], vi rr.2]) (fun g => [sl g rr.1.Words]) := by
 refine FTi Tryz.func179 fun w0 M0 F0 => ?_
 unfold i64ok at ht_0 ht_2 hs_0
 refine Fb 8 0 fun _ => Fb 8 1 fun _ => Fb 16 2 fun _ => Fb 8 3 fun _ => KS ?_
 refine Oa (Ab [vi t.Gen.Width, vl ta1 tk1 t.Gen.Words, vi t.Kill.Width, vl ta3 tk3 t.Kill.Words, vl ta4 tk4 t.Copies]) fun p5 => Oa (Ab [vi s.Width, vl sa1 sk1 s.Words]) fun p6 => Oa (Al ze42 [vi 0, .slice none 0 0]) fun p7 => Oq Va (KS ?_)
 refine Oq (VldA sh98 2) ?_
 refine letv (transfer_Valid t) fun rv8 hg9 => ?_
 have hc10 := fn156 t ta1 tk1 ta3 tk3 ta4 tk4 pre pre rv8 hg9
 refine Oc [3, 4, 5] ca156 hc10 ?_
 rintro - -
 refine Oq Vnot (Oq Vm ?_)
 refine Js 10 ?_ ?_
 ·intro h11
  have h13 := not_true h11
  refine Osk (Osk (Osk (Oq Vpt (Oq Va (KS ?_)))))
  refine Kt (KS ?_)
  refine Oq (Vbd st42 [vi 0, .slice none 0 0]) (Ost (Scl [0] sh42 [vi 0, .slice none 0 0]) (Oq Va (KS ?_)))
  refine Jl [] (Ent.slNil (α := BitVec 64)) ?_
  have hq := q4 hrr ((GSet.mk 0 []), 1) (by simp only [transfer_Apply, h11, h13, hg9, cs4]); subst hq
  exact Kr (.slice none 0 0) rfl (.cellN 1 rfl sh42 rfl (reads_Cl _ _) rfl (.tmp rfl .nil)) [0] en
 intro h11
 have h16 := not_false h11
 refine Oq (VldA sh42 1) ?_
 refine letv (bitset_Valid s) fun rv18 hg19 => ?_
 have hc20 := fn123 s sa1 sk1 pre rv18 hg19
 refine Oc [6] ca123 hc20 ?_
 rintro - -
 refine Oq Vnot (Oq Vpf (Oq Va (KS ?_)))
 refine Kc ?_ ?_
 ·intro h21
  have h23 := not_true h21
  refine KS ?_
  refine Oq (Vbd st42 [vi 0, .slice none 0 0]) (Ost (Scl [0] sh42 [vi 0, .slice none 0 0]) (Oq Va (KS ?_)))
  refine Jl [] (Ent.slNil (α := BitVec 64)) ?_
  have hq := q4 hrr ((GSet.mk 0 []), 1) (by simp only [transfer_Apply, h11, h16, h21, h23, hg9, hg19, cs4]); subst hq
  exact Kr (.slice none 0 0) rfl (.cellN 1 rfl sh42 rfl (reads_Cl _ _) rfl (.tmp rfl .nil)) [0] en
 intro h21
 have h26 := not_false h21
 refine KS ?_
 refine Oq (Vfa fo98_0 2) (Oq (VfaF fo42_0 2) (Oq (VldF sh3 2) (Oq (Vfa fo42_0 1) (Oq (VldF sh3 1) (Oq Vneq (Oq Va (KS ?_)))))))
 refine Kc ?_ ?_
 ·intro h28
  have g29 := ne_of_bne h28
  refine KS ?_
  refine Oq (Vbd st42 [vi 0, .slice none 0 0]) (Ost (Scl [0] sh42 [vi 0, .slice none 0 0]) (Oq Va (KS ?_)))
  refine Jl [] (Ent.slNil (α := BitVec 64)) ?_
  have hq := q4 hrr ((GSet.mk 0 []), 2) (by simp only [transfer_Apply, h11, h16, h21, h26, h28, hg9, hg19, cs4]); subst hq
  exact Kr (.slice none 0 0) rfl (.cellN 1 rfl sh42 rfl (reads_Cl _ _) rfl (.tmp rfl .nil)) [0] en
 intro h28
 have g30 := eq_of_bne_false h28
 refine KS ?_
 refine Oq (VldA sh98 2) (Oq (VldA sh42 1) ?_)
 refine letv (transfer_apply t s) fun rv32 hg33 => ?_
 have hc34 := fn234 t ta1 tk1 ta3 tk3 ta4 tk4 s sa1 sk1 pre pre pre rv32 hg33
 refine Oc [3, 4, 5, 6] ca234 hc34 ?_
 rintro c31 he35
 unfold i64ok at he35
 refine Jo 0 ?_; rintro a36 k37 rfl
 refine Fb 8 0 fun _ => ?_
 refine Ost (Scl [1] sh42 [vi rv32.Width, vl a36 k37 rv32.Words]) (Oq Va (KS ?_))
 have hq := q4 hrr (rv32, 0) (by simp only [transfer_Apply, h11, h16, h21, h26, h28, hg9, hg19, hg33, cs4]); subst hq
 exact Kr (vl a36 k37 rv32.Words) rfl (.cellN 0 rfl sh42 rfl (reads_Cl _ _) rfl (.tmp rfl .nil)) [1] en
theorem fn237 (s1 : List (BitVec 64)) (s1a0 : Option Addr) (s1k0 : Nat) (s2 : List (BitVec 64)) (s2a0 : Option Addr) (s2k0 : Nat) (rr : Bool) (hrr : slices_Equal_uint64 s1 s2 = rr) : FT Tryz.prog 237 #[vl s1a0 s1k0 s1, vl s2a0 s2k0 s2] [S s1a0 s1k0 s1, S s2a0 s2k0 s2] (fun g : Unit => True) (fun g => vb rr) (fun g => []) := by
 refine FTi Tryz.func237 fun w0 M0 F0 => Fb 8 0 fun _ => Fb 8 1 fun _ => ?_
 refine KS ?_
 refine Oq Va (KS ?_)
 refine Oq Vm (Oq (Vlen sl40) (Oq Vm (Oq (Vlen sl40) (Oq Vneq (KS ?_)))))
 refine Kc ?_ ?_
 ·intro h3
  have g4 := ne_of_bne h3
  refine KS ?_
  refine Oq Va (KS ?_)
  have hq := q4 hrr false (by simp only [slices_Equal_uint64, h3, cs4]); subst hq
  exact Kr () rfl (.tmp rfl .nil) [] trivial
 intro h3
 have g5 := eq_of_bne_false h3
 refine KS ?_
 refine Oq Vm (Oq (Vlen sl40) (Oq Vm (KS ?_)))
 refine Kl (γ := Nat × Int) (fun (r6, v13_7) => ⟨[(0, vl s1a0 s1k0 s1), (1, vl s2a0 s2k0 s2), (12, vi (s1.length : Int)), (13, vi v13_7)], [S s1a0 s1k0 s1, S s2a0 s2k0 s2], slices_Equal_uint64_L0 s1 s2 r6 v13_7 = slices_Equal_uint64_L0 s1 s2 (((s1.length : Int) - 0).toNat) 0 ∧ r6 = ((s1.length : Int) - v13_7).toNat ∧ (0 : Int) ≤ v13_7 ∧ v13_7 ≤ (s1.length : Int) ∧ (-9223372036854775808 ≤ v13_7 ∧ v13_7 ≤ 9223372036854775807), r6⟩) (((s1.length : Int) - 0).toNat, 0) [0, 1] ⟨rfl, rfl, (by omega), (by omega), (by omega)⟩ ?_
 rintro ⟨r6, v13_7⟩ ⟨hM8, hr9, hi10, hi11, hk12⟩
 refine JJ_nx fun _ _ hL hA => ?_; dsimp only at hL hA; subst hL hA
 refine Fb 8 0 fun _ => Fb 8 1 fun _ => KS ?_
 refine Oq Vlss (KS ?_)
 refine Kc ?_ ?_
 ·intro h15
  have g16 := dt h15
  obtain ⟨r17, rfl⟩ := scc (n := r6) (by omega)
  refine KS ?_
  refine Oq Vm (Oq Va (KS ?_))
  refine Kq [0, 0, 3, 7, 0, 0, 48, 112, 255] fmix ?_
  refine Qv [] Vm (Qv [] Vm (Qv [0] (Vi sl40 0) (Qv [0] (VldU sh122 0) (Qv [] Vm (Qv [] Vm (Qv [1] (Vi sl40 0) (Qv [1] (VldU sh122 0) (Qv [] VneqU ?_))))))))
  refine Qn ⟨by kernel_rfl, ?_⟩
  refine Kc ?_ ?_
  ·intro h18
   have g19 := ne_of_bne h18
   refine KS ?_
   refine Oq Va (KS ?_)
   have hR20 := q2 hM8 (.ret false) (by simp only [slices_Equal_uint64_L0, h3, h15, h18, cs4])
   have hq := q4 hrr false (by simp only [slices_Equal_uint64, h3, h15, h18, hR20, cs4]); subst hq
   exact Kr () rfl (.tmp rfl .nil) [] trivial
  intro h18
  have g21 := eq_of_bne_false h18
  refine KS ?_
  refine Oq Vadd (Oq Vm (KS ?_))
  exact Kg (r17, (v13_7 + 1)) [0, 1] ⟨(q3 hM8 (by simp only [slices_Equal_uint64_L0, h3, h15, h18, cs4])), (by omega), (by omega), (by omega), (by omega)⟩
 intro h15
 have g22 := df h15
 obtain rfl : r6 = 0 := by omega
 refine Ke ?_
 have hR23 := q2 hM8 (.brk ()) (by simp only [slices_Equal_uint64_L0, h3, h15, cs4])
 refine KS ?_
 refine Oq Va (KS ?_)
 have hq := q4 hrr true (by simp only [slices_Equal_uint64, h3, h15, hR23, cs4]); subst hq
 exact Kr () rfl (.tmp rfl .nil) [] trivial
theorem fn181 (a : GSet) (aa1 : Option Addr) (ak1 : Nat) (b : GSet) (ba1 : Option Addr) (bk1 : Nat) (ha_0 : i64ok a.Width) (hb_0 : i64ok b.Width) (rr : Bool) (hrr : bitset_Equal a b = rr) : FT Tryz.prog 181 #[.agg #[vi a.Width, vl aa1 ak1 a.Words], .agg #[vi b.Width, vl ba1 bk1 b.Words]] [S aa1 ak1 a.Words, S ba1 bk1 b.Words] (fun g : Unit => True) (fun g => vb rr) (fun g => []) := by
 refine FTi Tryz.func181 fun w0 M0 F0 => ?_
 unfold i64ok at ha_0 hb_0
 refine Fb 8 0 fun _ => Fb 8 1 fun _ => KS ?_
 refine Oa (Ab [vi a.Width, vl aa1 ak1 a.Words]) fun p3 => Oa (Ab [vi b.Width, vl ba1 bk1 b.Words]) fun p4 => Oq Va (KS ?_)
 refine Oq (VldA sh42 1) ?_
 refine letv (bitset_Valid a) fun rv5 hg6 => ?_
 have hc7 := fn123 a aa1 ak1 pre rv5 hg6
 refine Oc [2] ca123 hc7 ?_
 rintro - -
 refine Oq Vm ?_
 refine Js 7 ?_ ?_
 ·intro h8
  refine Oq (VldA sh42 0) ?_
  refine letv (bitset_Valid b) fun rv10 hg11 => ?_
  have hc12 := fn123 b ba1 bk1 pre rv10 hg11
  refine Oc [3] ca123 hc12 ?_
  rintro - -
  refine Oq Vpt (Oq Vm ?_)
  refine Js 11 ?_ ?_
  ·intro h13
   refine Oq (Vfa fo42_0 1) (Oq (VldF sh3 1) (Oq (Vfa fo42_0 0) (Oq (VldF sh3 0) (Oq Veql (Oq Vpt (Oq Vm ?_))))))
   refine Js 18 ?_ ?_
   ·intro h15
    have g16 := eq_of_beq h15
    refine Oq (Vfa fo42_1 1) (Oq (VldF sh40 1) (Oq (Vfa fo42_1 0) (Oq (VldF sh40 0) ?_)))
    refine letv (slices_Equal_uint64 a.Words b.Words) fun rv17 hg18 => ?_
    have hc19 := fn237 a.Words aa1 ak1 b.Words ba1 bk1 rv17 hg18
    refine Oc [2, 3] ca237 hc19 ?_
    rintro - -
    refine Oq Vpt (Oq Va (KS ?_))
    have hq := q4 hrr rv17 (by simp only [bitset_Equal, h8, h13, h15, hg6, hg11, hg18, cs4]); subst hq
    exact Kr () rfl (.tmp rfl .nil) [] trivial
   intro h15
   have g20 := ne_of_beq_false h15
   refine Osk (Osk (Osk (Osk (Osk (Oq Vpf (Oq Va (KS ?_)))))))
   have hq := q4 hrr false (by simp only [bitset_Equal, h8, h13, h15, hg6, hg11, cs4]); subst hq
   exact Kr () rfl (.tmp rfl .nil) [] trivial
  intro h13
  refine Osk (Osk (Osk (Osk (Osk (Oq Vpf (Oq Vm (Osk (Osk (Osk ?_)))))))))
  refine Osk (Osk (Oq Vpf (Oq Va (KS ?_))))
  have hq := q4 hrr false (by simp only [bitset_Equal, h8, h13, hg6, hg11, cs4]); subst hq
  exact Kr () rfl (.tmp rfl .nil) [] trivial
 intro h8
 refine Osk (Osk (Oq Vpf (Oq Vm (Osk (Osk (Osk (Osk (Osk (Oq Vpf ?_)))))))))
 refine Oq Vm (Osk (Osk (Osk (Osk (Osk (Oq Vpf (Oq Va (KS ?_))))))))
 have hq := q4 hrr false (by simp only [bitset_Equal, h8, hg6, cs4]); subst hq
 exact Kr () rfl (.tmp rfl .nil) [] trivial
theorem fn95 (s : GSystem) (sa1 : Option Addr) (sk1 : Nat) (sa2 : Option Addr) (sk2 : Nat) (sa3 : Option Addr) (sk3 : Nat) (stP : Value) (st : GState) (sta1 : Option Addr) (stk1 : Nat) (sta2 : Option Addr) (stk2 : Nat) (sta5 : Option Addr) (stk5 : Nat) (sta6 : Option Addr) (stk6 : Nat) (hs_0 : i64ok s.Width) (hst_0 : i64ok st.Phase) (hst_3 : i64ok st.At) (hst_4 : i64ok st.Edge) (hst_7 : i64ok st.Steps) (hv : VSys s) (hp : POk s st) (rr : Int × GState) (hrr : solver_push s st = rr) : FT Tryz.prog 95 #[.agg #[vi s.Width, vl sa1 sk1 s.Deps, vl sa2 sk2 s.Transfers, vl sa3 sk3 s.Boundary], stP] [S sa1 sk1 s.Deps, S sa2 sk2 s.Transfers, S sa3 sk3 s.Boundary, Cl stP [vi st.Phase, vl sta1 stk1 st.Cone, vl sta2 stk2 st.Leaf, vi st.At, vi st.Edge, vl sta5 stk5 st.Values, vl sta6 stk6 st.Queue, vi st.Steps], O sta1 stk1 st.Cone, O sta2 stk2 st.Leaf, O sta5 stk5 st.Values, O sta6 stk6 st.Queue] (fun g : Value × Value × Value × Value => i64ok rr.1 ∧ i64ok rr.2.Phase ∧ i64ok rr.2.At ∧ i64ok rr.2.Edge ∧ i64ok rr.2.Steps ∧ (0 ≤ rr.1 ∧ rr.1 ≤ 8)) (fun g => vi rr.1) (fun g => [Cl stP [vi rr.2.Phase, g.1, g.2.1, vi rr.2.At, vi rr.2.Edge, g.2.2.1, g.2.2.2, vi rr.2.Steps], os g.1 rr.2.Cone, os g.2.1 rr.2.Leaf, os g.2.2.1 rr.2.Values, os g.2.2.2 rr.2.Queue]) := by
 refine FTi Tryz.func95 fun w0 M0 F0 => ?_
 unfold i64ok at hs_0 hst_0 hst_3 hst_4 hst_7
 refine Fb 24 0 fun _ => Fb 88 1 fun _ => Fb 32 2 fun _ => Fb 8 4 fun _ => Fo 4 fun ho5 => Fb 1 5 fun _ => Fb 32 6 fun _ => Fb 8 7 fun _ => ?_
 refine Fo 7 fun ho9 => ?_
 have hv1 := hv.n
 have hv2 := hv.tl
 have hv3 := hv.bl
 have hv4 := hv.w
 have hv5 := hv.dep_len
 have hp1 := hp.lf
 have hp2 := hp.cl
 have hp3 := hp.vl
 have hp4 := hp.qn
 have hp5 := hp.ql
 have hpi := hp.qr _ (getD_mem (xs := st.Queue) (i := (0 : Int).toNat) (d := 0) (by show 0 < _; omega))
 have hpc := hp.cr _ (getD_mem (xs := st.Cone) (i := ((st.Queue.getD (0 : Int).toNat 0) : Int).toNat) (d := 0) (by omega))
 refine KS ?_
 refine Oa (Ab [vi s.Width, vl sa1 sk1 s.Deps, vl sa2 sk2 s.Transfers, vl sa3 sk3 s.Boundary]) fun p10 => Oq Va (KS ?_)
 refine Oq Vm (Oq (Vn 4) (Oq (Vfa fo59_6 4) (Oq (VldF sh22 4) (Oq (Vi sl22 8) ?_))))
 have hb11 := ok1 (i := (0 : Int).toNat) ho9 rng
 refine Oq (VldI sh3 8) (Oq Va (KS ?_))
 refine Oq Vm (Oq Vm (Oq (Vn 4) (Oq (Vfa fo59_6 4) (Oq (VldF sh22 4) (Oa (AslO [8] sl22 ((1 : Int).toNat) st.Queue.length) fun c12 => ?_)))))
 refine Jo 0 ?_; rintro a13 k14 rfl
 refine Fb 8 0 fun _ => Fo 0 fun ho16 => ?_
 have hn17 : ((st.Queue.take st.Queue.length).drop ((1 : Int).toNat)).length = st.Queue.length - ((1 : Int).toNat) := len_slice rng rng
 refine Oq (Vn 5) (Oq (Vfa fo59_6 5) (Ost (SclF [5] sh22 [vi st.Phase, vl sta1 stk1 st.Cone, vl sta2 stk2 st.Leaf, vi st.At, vi st.Edge, vl sta5 stk5 st.Values, vl a13 k14 ((st.Queue.take st.Queue.length).drop ((1 : Int).toNat)), vi st.Steps]) (KS ?_)))
 refine Jp 0 fun hp18 => ?_
 refine JK_drawK [0, 0, 2, 6, 14, 0, 32, 96, 224, 0, 1023, 2047] fmix ?_
 refine Dv [3] (VldA sh27 0) (Dv [] Vm (Dv [0] (Vn 0) (Dv [0] (Vfa fo59_1 0) (Dv [1] (VldF sh22 0) (Dv [] Vm (Dv [0] (Vn 0) (Dv [0] (Vfa fo59_2 0) (Dv [1] (VldF sh57 0) (Dv [] Vm ?_)))))))))
 refine letv (cone_Dependents s st.Cone st.Leaf (st.Queue.getD (0 : Int).toNat 0)) fun rv20 hg21 => ?_
 refine Dx [4, 5, 6, 7, 8] [7, 8] [4, 5, 6, 0, 1, 1, 1] (fun G => (G.g 10 0)) [fun G => SP.fact ((rv20.length ≤ st.Cone.length)), fun G => O sta2 stk2 st.Leaf, fun G => O sta1 stk1 st.Cone, fun G => os (G.g 10 0) rv20] (fun G => xC [4, 3, 0, 1, 2] ca57 (FT_borrow (A := _) hlx (FT_ent (Ent.take (is := [1, 1, 2, 3, 0]) rfl) (FT_borrow (A := _) hlx (FT_ent (Ent.take (is := [1, 2, 3, 0, 4]) rfl) (fn57 s sa1 sk1 sa2 sk2 sa3 sk3 st.Cone sta1 stk1 st.Leaf sta2 stk2 ((st.Queue.getD (0 : Int).toNat 0)) pre pre rv20 hg21))))) (ht := rfl)) (Dg [] (fun G => (G.g 10 0)) (fun G => Va) ?_)
 refine Dn ⟨by kernel_rfl, fun G => ?_⟩
 refine Jw2 [(1, stP), (2, p10), (5, vi (st.Queue.getD (0 : Int).toNat 0)), (6, (G.g 10 0))] [0, 1, 2, 3, 4, 5, 6, 9] [SP.fact ((rv20.length ≤ st.Cone.length)), O sta2 stk2 st.Leaf, O sta1 stk1 st.Cone, os (G.g 10 0) rv20] ?_
 generalize G.g 10 0 = c19
 refine Jf 8 rfl ?_; rintro he22
 refine Jk [1, 1, 1, 2, 3, 4, 5, 6, 6, 6] ?_
 refine Jo 9 ?_; rintro a23 k24 rfl
 refine Fb 8 9 fun _ => Fo 9 fun ho26 => KS ?_
 refine Oq Vm (Oq (Vlen sl22) (Oq Vm (KS ?_)))
 refine Kl (γ := Nat × List GSet × List Int × Int × Option Addr × Nat) (fun (r27, st5_28, st6_29, v38_30, a31, k32) => ⟨[(1, stP), (2, p10), (5, vi (st.Queue.getD (0 : Int).toNat 0)), (6, vl a23 k24 rv20), (36, vl a23 k24 rv20), (37, vi (rv20.length : Int)), (38, vi v38_30)], [O a31 k32 st6_29, Cl stP [vi st.Phase, vl sta1 stk1 st.Cone, vl sta2 stk2 st.Leaf, vi st.At, vi st.Edge, vl sta5 stk5 st.Values, vl a31 k32 st6_29, vi st.Steps], pv p10 [vi s.Width, vl sa1 sk1 s.Deps, vl sa2 sk2 s.Transfers, vl sa3 sk3 s.Boundary], S sa1 sk1 s.Deps, S sa2 sk2 s.Transfers, S sa3 sk3 s.Boundary, os (vl sta5 stk5 st.Values) st5_28, O sta2 stk2 st.Leaf, O sta1 stk1 st.Cone, O a23 k24 rv20], solver_push_L0 s st rv20 r27 st5_28 st6_29 v38_30 = solver_push_L0 s st rv20 (((rv20.length : Int) - 0).toNat) st.Values ((st.Queue.take st.Queue.length).drop ((1 : Int).toNat)) 0 ∧ r27 = ((rv20.length : Int) - v38_30).toNat ∧ (0 : Int) ≤ v38_30 ∧ v38_30 ≤ (rv20.length : Int) ∧ (-9223372036854775808 ≤ v38_30 ∧ v38_30 ≤ 9223372036854775807) ∧ (st5_28.length : Int) = (st.Cone.length : Int) ∧ (st6_29.length : Int) ≤ 256 + v38_30, r27⟩) (((rv20.length : Int) - 0).toNat, st.Values, ((st.Queue.take st.Queue.length).drop ((1 : Int).toNat)), 0, a13, k14) [1, 0, 0, 1, 2, 3, 4, 4, 4, 4] ⟨rfl, rfl, (by omega), (by omega), (by omega), iv0, iv0⟩ ?_
 rintro ⟨r27, st5_28, st6_29, v38_30, a31, k32⟩ ⟨hM33, hr34, hi35, hi36, hk37, hv38, hv39⟩
 refine JJ_nx fun _ _ hL hA => ?_; dsimp only at hL hA; subst hL hA
 refine Fb 8 0 fun _ => Fo 0 fun ho41 => Fb 24 3 fun _ => Fb 88 4 fun _ => Fb 32 5 fun _ => Fb 32 6 fun _ => Fl 6 fun hn46 => ?_
 refine Fb 1 7 fun _ => Fb 8 8 fun _ => Fo 8 fun ho49 => Fb 8 9 fun _ => Fo 9 fun ho51 => KS ?_
 refine Oq Vlss (KS ?_)
 refine Kc ?_ ?_
 ·intro h52
  have g53 := dt h52
  have hqd := PDep_mem (r := rv20) (by assumption) _ (getD_mem (xs := rv20) (i := v38_30.toNat) (d := 0) (by omega))
  obtain ⟨r54, rfl⟩ := scc (n := r27) (by omega)
  refine KS ?_
  refine Oq (Vi sl22 9) ?_
  have hb55 := ok1 (i := v38_30.toNat) ho51 rng
  refine Oq (VldI sh3 9) (Oq Va (KS ?_))
  refine Jp 1 fun hp56 => ?_
  refine JJ_peek_GTransfer ((st.Cone.getD ((st.Queue.getD (0 : Int).toNat 0) : Int).toNat 0) : Int).toNat 5 rfl rng fun a57 k58 a59 k60 a61 k62 hb63 hb64 => ?_
  unfold i64ok at hb63 hb64
  refine Fb 8 1 fun _ => Fb 8 2 fun _ => Fb 16 3 fun _ => ?_
  refine JJ_peekO_GSet ((st.Queue.getD (0 : Int).toNat 0) : Int).toNat 11 rfl rng fun a68 k69 hb70 => ?_
  unfold i64ok at hb70
  refine Fb 8 1 fun _ => ?_
  refine JK_drawK [0, 1, 0, 4, 12, 28, 0, 124, 252, 511, 1023, 0, 2048, 6144, 14336, 0, 63488, 129024, 262143, 524287, 1048575, 1048575, 0, 6291455, 16777215] fmix ?_
  refine Dv [9] (Vfa fo27_2 0) (Dv [9] (VldF sh24 0) (Dv [] Vm (Dv [6] (Vn 0) (Dv [6] (Vfa fo59_1 0) (Dv [8] (VldF sh22 0) (Dv [] Vm (Dv [14] (Vi sl22 0) ?_)))))))
  have hb72 := ok1 (i := ((st.Queue.getD (0 : Int).toNat 0) : Int).toNat) ho49 rng
  refine Dv [14] (VldI sh3 0) (Dv [11] (Vi sl24 0) (Dv [2] (VldA sh98 0) (Dv [] Vm (Dv [6] (Vn 0) (Dv [6] (Vfa fo59_5 0) (Dv [8] (VldF sh25 0) (Dv [] Vm (Dv [0] (Vi sl25 0) (Dv [0] (VldA sh42 0) ?_)))))))))
  refine letv (transfer_Apply (s.Transfers.getD ((st.Cone.getD ((st.Queue.getD (0 : Int).toNat 0) : Int).toNat 0) : Int).toNat default) (st5_28.getD ((st.Queue.getD (0 : Int).toNat 0) : Int).toNat default)) fun rv74 hg75 => ?_
  refine Dx [1, 3, 4, 5] [] [2, 3, 4, 5, 0, 1] (fun G => .tuple #[.agg #[vi rv74.1.Width, (G.g 18 0)], vi rv74.2]) [fun G => SP.fact (i64ok rv74.1.Width ∧ i64ok rv74.2), fun G => sl (G.g 18 0) rv74.1.Words] (fun G => xC [1, 2, 3, 0] ca179 (fn179 ((s.Transfers.getD ((st.Cone.getD ((st.Queue.getD (0 : Int).toNat 0) : Int).toNat 0) : Int).toNat default)) a57 k58 a59 k60 a61 k62 ((st5_28.getD ((st.Queue.getD (0 : Int).toNat 0) : Int).toNat default)) a68 k69 pre pre pre rv74 hg75)) (Dg [] (fun G => .tuple #[.agg #[vi rv74.1.Width, (G.g 18 0)], vi rv74.2]) (fun G => Vm) (Dg [] (fun G => .agg #[vi rv74.1.Width, (G.g 18 0)]) (fun G => Vx) (Dv [] Vx (Dx [] [] [0] (fun G => (G.g 22 0)) [fun G => Cl (G.g 22 0) [vi 0, .slice none 0 0]] (fun G => xA (Al ze42 [vi 0, .slice none 0 0])) (Dx0 [17, 18] [18] [1, 0] [fun G => Cl (G.g 22 0) [vi rv74.1.Width, (G.g 18 0)]] (fun G => x1 0 rfl sl_one fun ho77 => (xS (Scl [1] sh42 [vi rv74.1.Width, (G.g 18 0)] (v := .agg #[vi rv74.1.Width, (G.g 18 0)]) (h1 := show [vi rv74.1.Width, (G.g 18 0)].all (·.oneCell') = true from (by simp only [List.all_cons, List.all_nil, ho77, Bool.and_true, Bool.true_and] <;> rfl))))) (Dv [] Va ?_))))))
  refine Dn ⟨by kernel_rfl, fun G => ?_⟩
  refine Jw2 [(1, stP), (2, p10), (5, vi (st.Queue.getD (0 : Int).toNat 0)), (6, vl a23 k24 rv20), (36, vl a23 k24 rv20), (37, vi (rv20.length : Int)), (38, vi v38_30), (8, vi (rv20.getD v38_30.toNat 0)), (9, (G.g 22 0))] [0, 1, 2, 3, 4, 5, 6, 7, 8, 9, 10, 11, 12, 13, 14, 15] [SP.fact (i64ok rv74.1.Width ∧ i64ok rv74.2), sl (G.g 18 0) rv74.1.Words, Cl (G.g 22 0) [vi rv74.1.Width, (G.g 18 0)]] ?_
  generalize G.g 18 0 = c73, G.g 22 0 = p76
  refine Jf 16 rfl ?_; rintro ⟨he78, he79⟩
  unfold i64ok at he78 he79
  refine Jk [0, 0, 1, 2, 3, 4, 6, 6, 6, 7, 8, 9, 10, 10, 10, 11, 12] ?_
  refine Jo 15 ?_; rintro a80 k81 rfl
  refine Fb 8 15 fun _ => KS ?_
  refine Jp 7 fun hp83 => ?_
  refine JJ_peekO2_GSet ((rv20.getD v38_30.toNat 0) : Int).toNat 1 rfl rng fun a84 k85 hb86 => ?_
  unfold i64ok at hb86
  refine Fb 8 1 fun _ => ?_
  refine JK_drawK [0, 1, 3, 7, 0, 31, 63, 0, 255, 511, 1023, 1023, 2047] fmix ?_
  refine Dv [] Vm (Dv [2] (Vn 0) (Dv [2] (Vfa fo59_5 0) (Dv [9] (VldF sh25 0) (Dv [] Vm (Dv [0] (Vi sl25 0) (Dv [0] (VldA sh42 0) (Dv [18] (VldA sh42 0) ?_)))))))
  refine letv (bitset_Union (st5_28.getD ((rv20.getD v38_30.toNat 0) : Int).toNat default) rv74.1) fun rv89 hg90 => ?_
  refine Dx [1, 17] [] [2, 3, 0, 1] (fun G => .tuple #[.agg #[vi rv89.1.Width, (G.g 8 0)], vi rv89.2]) [fun G => SP.fact (i64ok rv89.1.Width ∧ i64ok rv89.2), fun G => sl (G.g 8 0) rv89.1.Words] (fun G => xC [0, 1] ca180 (fn180 ((st5_28.getD ((rv20.getD v38_30.toNat 0) : Int).toNat default)) a84 k85 rv74.1 a80 k81 pre pre rv89 hg90)) (Dg [] (fun G => .tuple #[.agg #[vi rv89.1.Width, (G.g 8 0)], vi rv89.2]) (fun G => Vm) (Dg [] (fun G => .agg #[vi rv89.1.Width, (G.g 8 0)]) (fun G => Vx) (Dv [] Vx (Dx0 [18, 20] [18] [1, 0] [fun G => Cl p76 [vi rv89.1.Width, (G.g 8 0)]] (fun G => x1 1 rfl sl_one fun ho91 => (xS (Scl [0] sh42 [vi rv89.1.Width, (G.g 8 0)] (v := .agg #[vi rv89.1.Width, (G.g 8 0)]) (h1 := show [vi rv89.1.Width, (G.g 8 0)].all (·.oneCell') = true from (by simp only [List.all_cons, List.all_nil, ho91, Bool.and_true, Bool.true_and] <;> rfl))))) ?_))))
  refine Dn ⟨by kernel_rfl, fun G => ?_⟩
  refine Jw2 [(1, stP), (2, p10), (5, vi (st.Queue.getD (0 : Int).toNat 0)), (6, vl a23 k24 rv20), (36, vl a23 k24 rv20), (37, vi (rv20.length : Int)), (38, vi v38_30), (8, vi (rv20.getD v38_30.toNat 0)), (9, p76)] [0, 1, 2, 3, 4, 5, 6, 7, 8, 9, 10, 11, 12, 13, 14, 15, 16, 17] [SP.fact (i64ok rv89.1.Width ∧ i64ok rv89.2), sl (G.g 8 0) rv89.1.Words, Cl p76 [vi rv89.1.Width, (G.g 8 0)]] ?_
  generalize G.g 8 0 = c88
  refine Jf 18 rfl ?_; rintro ⟨he92, he93⟩
  unfold i64ok at he92 he93
  refine Jk [0, 0, 2, 3, 4, 5, 6, 7, 7, 7, 8, 9, 10, 11, 11, 11, 11, 13, 14] ?_
  refine Jo 17 ?_; rintro a94 k95 rfl
  refine Fb 8 17 fun _ => KS ?_
  refine Jp 8 fun hp97 => ?_
  refine JK_drawK [0, 0, 2, 6, 14, 0, 62, 126, 255] fmix ?_
  refine Dv [19] (VldA sh42 0) (Dv [] Vm (Dv [0] (Vn 0) (Dv [0] (Vfa fo59_5 0) (Dv [9] (VldF sh25 0) (Dv [] Vm (Dv [1] (Vi sl25 0) (Dv [1] (VldA sh42 0) ?_)))))))
  refine letv (bitset_Equal rv89.1 (st5_28.getD ((rv20.getD v38_30.toNat 0) : Int).toNat default)) fun rv98 hg99 => Dx [2, 18] [] [1, 2, 0] (fun G => vb rv98) [fun G => SP.fact (True)] (fun G => xC [1, 0] ca181 (fn181 rv89.1 a94 k95 ((st5_28.getD ((rv20.getD v38_30.toNat 0) : Int).toNat default)) a84 k85 pre pre rv98 hg99)) ?_
  refine Dn ⟨by kernel_rfl, fun G => ?_⟩
  refine Jw2 [(1, stP), (2, p10), (5, vi (st.Queue.getD (0 : Int).toNat 0)), (6, vl a23 k24 rv20), (36, vl a23 k24 rv20), (37, vi (rv20.length : Int)), (38, vi v38_30), (8, vi (rv20.getD v38_30.toNat 0)), (9, p76), (84, vb rv98)] [0, 1, 2, 3, 4, 5, 6, 7, 8, 9, 10, 11, 12, 13, 14, 15, 16, 17, 18, 19] [SP.fact (True)] ?_
  refine Jk [1, 1, 2, 3, 4, 5, 6, 7, 7, 7, 8, 9, 10, 11, 11, 11, 11, 12, 13] ?_
  refine Kc ?_ ?_
  ·intro h100
   refine Jl [0] (Ent.oread2 _ _ _ _ _ _) ?_
   refine Ke ?_
   refine KS ?_
   refine Oq Vadd (Oq Vm (KS ?_))
   exact Kg (r54, st5_28, st6_29, (v38_30 + 1), a31, k32) [7, 7, 7, 8, 9, 10, 0, 10, 10, 10] ⟨(q3 hM33 (by simp only [solver_push_L0, h52, h100, hg21, hg75, hg90, hg99, cs4])), (by omega), (by omega), (by omega), (by omega), iv1, iv1⟩
  intro h100
  refine KS ?_
  refine Jp 8 fun hp103 => ?_
  refine JK_drawK [0, 1, 3, 7, 0, 0, 63, 127] fmix ?_
  refine Dv [] Vm (Dv [0] (Vn 0) (Dv [0] (Vfa fo59_5 0) (Dv [9] (VldF sh25 0) (Dv [] Vm (Dv [19] (VldA sh42 0) (Dv [1] (Vi sl25 0) ?_))))))
  refine Dx0 [1, 18] [1] [1, 0] [fun G => os (vl sta5 stk5 st.Values) (st5_28.set ((rv20.getD v38_30.toNat 0) : Int).toNat rv89.1)] (fun G => xp [0] rfl (Ent.oread2 _ _ _ _ _ _) (xS (So (Rs := [S a94 k95 rv89.1.Words]) [0, 0] sh42 rv89.1 (fun h => ⟨_, rfl, (by unfold i64ok; first | omega | (dsimp only; omega)), sepAll_get (i := 0) rfl h⟩)))) ?_
  refine Dn ⟨by kernel_rfl, fun G => ?_⟩
  refine Jw2 [(1, stP), (2, p10), (5, vi (st.Queue.getD (0 : Int).toNat 0)), (6, vl a23 k24 rv20), (36, vl a23 k24 rv20), (37, vi (rv20.length : Int)), (38, vi v38_30), (8, vi (rv20.getD v38_30.toNat 0))] [0, 2, 3, 4, 5, 6, 7, 8, 9, 10, 11, 12, 13, 14, 15, 16, 17, 18, 19] [os (vl sta5 stk5 st.Values) (st5_28.set ((rv20.getD v38_30.toNat 0) : Int).toNat rv89.1)] ?_
  refine Jk [1, 2, 3, 4, 5, 6, 7, 7, 7, 8, 9, 10, 11, 11, 11, 11, 12, 13, 13] ?_
  refine KS ?_
  refine Oq Vm (Oq (Vn 7) (Oq (Vfa fo59_6 7) (Oq (VldF sh22 7) (Oq Vm ?_))))
  refine letv (slices_Contains_int st6_29 (rv20.getD v38_30.toNat 0)) fun rv104 hg105 => ?_
  refine Oc [6] ca82 (FT_borrow (A := _) (fun _ _ h => by cases h) (FT_ent (Ent.take (is := [0]) rfl) (fn82 st6_29 a31 k32 ((rv20.getD v38_30.toNat 0)) pre rv104 hg105))) ?_ (ht := rfl)
  rintro - -
  refine Oq Vnot (KS ?_)
  refine Kc ?_ ?_
  ·intro h106
   have h108 := not_true h106
   refine KS ?_
   refine Oq Vm (Oq Vm (Oq (Vn 7) (Oq (Vfa fo59_6 7) (Oq (VldF sh22 7) (Oq Vm (Oa (AsV sl22 sz22 [vi (rv20.getD v38_30.toNat 0)] [vi (rv20.getD v38_30.toNat 0)]) fun c110 => ?_))))))
   refine Jo 0 ?_; rintro a111 k112 rfl
   refine Jl [0] (Ent.crInt _ [(rv20.getD v38_30.toNat 0)] _ _ rfl rfl (by intro x hx; rw [List.mem_singleton] at hx; subst hx; unfold i64ok; omega) (Nat.le_of_ble_eq_true rfl)) ?_
   refine Oa (ApO [1, 0] sl22 sl22 sz22) fun c113 => ?_
   refine Jo 0 ?_; rintro a114 k115 rfl
   refine Fb 8 0 fun _ => Fo 0 fun ho117 => ?_
   have hn118 := la st6_29 ([(rv20.getD v38_30.toNat 0)] : List Int)
   refine Oq (Vn 7) (Oq (Vfa fo59_6 7) (Ost (SclF [7] sh22 [vi st.Phase, vl sta1 stk1 st.Cone, vl sta2 stk2 st.Leaf, vi st.At, vi st.Edge, vl sta5 stk5 st.Values, vl a114 k115 (st6_29 ++ [(rv20.getD v38_30.toNat 0)]), vi st.Steps]) (KS ?_)))
   refine Oq Vadd (Oq Vm (KS ?_))
   exact Kg (r54, (st5_28.set ((rv20.getD v38_30.toNat 0) : Int).toNat rv89.1), (st6_29 ++ [(rv20.getD v38_30.toNat 0)]), (v38_30 + 1), a114, k115) [1, 0, 6, 7, 8, 9, 16, 10, 10, 10] ⟨(q3 hM33 (by simp only [solver_push_L0, h52, h100, h106, h108, hg21, hg75, hg90, hg99, hg105, cs4])), (by omega), (by omega), (by omega), (by omega), iv1, iv1⟩
  intro h106
  have h120 := not_false h106
  refine KS ?_
  refine Oq Vadd (Oq Vm (KS ?_))
  exact Kg (r54, (st5_28.set ((rv20.getD v38_30.toNat 0) : Int).toNat rv89.1), st6_29, (v38_30 + 1), a31, k32) [0, 6, 6, 7, 8, 9, 16, 10, 10, 10] ⟨(q3 hM33 (by simp only [solver_push_L0, h52, h100, h106, h120, hg21, hg75, hg90, hg99, hg105, cs4])), (by omega), (by omega), (by omega), (by omega), iv1, iv1⟩
 intro h52
 have g122 := df h52
 obtain rfl : r27 = 0 := by omega
 refine Ke ?_
 have hR123 := q2 hM33 (st5_28, st6_29) (by simp only [solver_push_L0, h52, hg21, cs4])
 refine KS ?_
 refine Oq Vm (Oq (Vn 1) (Oq (Vfa fo59_6 1) (Oq (VldF sh22 1) (Oq (Vlen sl22) (Oq Veql (KS ?_))))))
 refine Kc ?_ ?_
 ·intro h124
  have g125 := eq_of_beq h124
  refine KS ?_
  refine Oq Vm (Oq (Vn 1) (Oq (Vfa fo59_0 1) (Ost (SclF [1] sh3 [vi 3, vl sta1 stk1 st.Cone, vl sta2 stk2 st.Leaf, vi st.At, vi st.Edge, vl sta5 stk5 st.Values, vl a31 k32 st6_29, vi st.Steps]) (KS ?_))))
  refine Oq Vm (Oq (Vlen sl22) (Oq Vadd (Oq Vmin (Oq Va (KS ?_)))))
  have hq := q4 hrr ((min (1 + (rv20.length : Int)) 8), (GState.mk 3 st.Cone st.Leaf st.At st.Edge st5_28 st6_29 st.Steps)) (by simp only [solver_push, h52, h124, hg21, hR123, cs4]); subst hq
  exact Kr (vl sta1 stk1 st.Cone, vl sta2 stk2 st.Leaf, vl sta5 stk5 st.Values, vl a31 k32 st6_29) rfl (.tmp rfl .nil) [0, 7, 6, 5, 0] en
 intro h124
 have g126 := ne_of_beq_false h124
 refine KS ?_
 refine Oq Vm (Oq (Vlen sl22) (Oq Vadd (Oq Vmin (Oq Va (KS ?_)))))
 have hq := q4 hrr ((min (1 + (rv20.length : Int)) 8), (GState.mk st.Phase st.Cone st.Leaf st.At st.Edge st5_28 st6_29 st.Steps)) (by simp only [solver_push, h52, h124, hg21, hR123, cs4]); subst hq
 exact Kr (vl sta1 stk1 st.Cone, vl sta2 stk2 st.Leaf, vl sta5 stk5 st.Values, vl a31 k32 st6_29) rfl (.tmp rfl .nil) [1, 7, 6, 5, 0] en
theorem fn35 (s : GSystem) (sa1 : Option Addr) (sk1 : Nat) (sa2 : Option Addr) (sk2 : Nat) (sa3 : Option Addr) (sk3 : Nat) (k : List GKnown) (ka0 : Option Addr) (kk0 : Nat) (st : GState) (sta1 : Option Addr) (stk1 : Nat) (sta2 : Option Addr) (stk2 : Nat) (sta5 : Option Addr) (stk5 : Nat) (sta6 : Option Addr) (stk6 : Nat) (steps : Int) (hs_0 : i64ok s.Width) (hst_0 : i64ok st.Phase) (hst_3 : i64ok st.At) (hst_4 : i64ok st.Edge) (hst_7 : i64ok st.Steps) (hsteps_0 : i64ok steps) (hs0 : steps ≤ 1000000000) (rr : GState × Int × Int) (hrr : solver_Run s k st steps = rr) : FT Tryz.prog 35 #[.agg #[vi s.Width, vl sa1 sk1 s.Deps, vl sa2 sk2 s.Transfers, vl sa3 sk3 s.Boundary], vl ka0 kk0 k, .agg #[vi st.Phase, vl sta1 stk1 st.Cone, vl sta2 stk2 st.Leaf, vi st.At, vi st.Edge, vl sta5 stk5 st.Values, vl sta6 stk6 st.Queue, vi st.Steps], vi steps] [S sa1 sk1 s.Deps, S sa2 sk2 s.Transfers, S sa3 sk3 s.Boundary, S ka0 kk0 k, S sta1 stk1 st.Cone, S sta2 stk2 st.Leaf, S sta5 stk5 st.Values, S sta6 stk6 st.Queue] (fun g : Value × Value × Value × Value => i64ok rr.1.Phase ∧ i64ok rr.1.At ∧ i64ok rr.1.Edge ∧ i64ok rr.1.Steps ∧ i64ok rr.2.1 ∧ i64ok rr.2.2 ∧ (0 ≤ rr.2.1 ∧ rr.2.1 ≤ 8000000000) ∧ (rr.1.Cone.length ≤ 256)) (fun g => .tuple #[.agg #[vi rr.1.Phase, g.1, g.2.1, vi rr.1.At, vi rr.1.Edge, g.2.2.1, g.2.2.2, vi rr.1.Steps], vi rr.2.1, vi rr.2.2]) (fun g => [sl g.1 rr.1.Cone, sl g.2.1 rr.1.Leaf, sl g.2.2.1 rr.1.Values, sl g.2.2.2 rr.1.Queue]) := by
 refine FTi Tryz.func35 fun w0 M0 F0 => ?_
 unfold i64ok at hs_0 hst_0 hst_3 hst_4 hst_7 hsteps_0
 refine Fb 24 0 fun _ => Fb 88 1 fun _ => Fb 32 2 fun _ => Fb 40 3 fun _ => Fb 8 4 fun _ => Fo 4 fun ho6 => Fb 1 5 fun _ => Fb 32 6 fun _ => ?_
 refine Fb 8 7 fun _ => Fo 7 fun ho10 => KS ?_
 refine Oa (Ab [vi s.Width, vl sa1 sk1 s.Deps, vl sa2 sk2 s.Transfers, vl sa3 sk3 s.Boundary]) fun p11 => Oa (Ab [vi st.Phase, vl sta1 stk1 st.Cone, vl sta2 stk2 st.Leaf, vi st.At, vi st.Edge, vl sta5 stk5 st.Values, vl sta6 stk6 st.Queue, vi st.Steps]) fun p12 => Oa (Al ze59 [vi 0, .slice none 0 0, .slice none 0 0, vi 0, vi 0, .slice none 0 0, .slice none 0 0, vi 0]) fun p13 => Oq Va (Oq Va (KS ?_))
 refine Ksc ?_
 refine KS ?_
 refine Oq (VldA sh27 2) (Oq Vm (Oq (VldA sh59 1) ?_))
 refine letv (solver_Valid s k st) fun rv14 hg15 => ?_
 have hc16 := fn42 s sa1 sk1 sa2 sk2 sa3 sk3 k ka0 kk0 st sta1 stk1 sta2 stk2 sta5 stk5 sta6 stk6 pre pre pre pre pre rv14 hg15
 refine Oc [3, 4, 5, 6, 7, 8, 9, 10] ca42 hc16 ?_
 rintro - -
 refine Oq Vnot (Oq Vm ?_)
 refine Js 18 ?_ ?_
 ·intro h17
  have h19 := not_true h17
  refine Osk (Osk (Oq Vpt (KS ?_)))
  refine Kt (KS ?_)
  refine Oq (Vbd st59 [vi 0, .slice none 0 0, .slice none 0 0, vi 0, vi 0, .slice none 0 0, .slice none 0 0, vi 0]) (Ost (Scl [0] sh59 [vi 0, .slice none 0 0, .slice none 0 0, vi 0, vi 0, .slice none 0 0, .slice none 0 0, vi 0]) (Oq Va (Oq Va (KS ?_))))
  refine Jl [] (Ent.slNil (α := Int)) ?_
  refine Jl [] (Ent.slNil (α := Bool)) ?_
  refine Jl [] (Ent.slNil (α := GSet)) ?_
  have hq := q4 hrr ((GState.mk 0 [] [] 0 0 [] [] 0), 0, 1) (by simp only [solver_Run, h17, h19, hg15, cs4]); subst hq
  exact Kr (.slice none 0 0, .slice none 0 0, .slice none 0 0, .slice none 0 0) rfl (.cellN 3 rfl sh59 rfl (reads_Cl _ _) rfl (.tmp rfl (.tmp rfl .nil))) [2, 1, 0, 2] ⟨en, en, en, en, en, en, en, (by first | exact Nat.zero_le _ | exact PV_cone (by assumption))⟩
 intro h17
 have h22 := not_false h17
 refine Oq Vm (Oq Vlss (Oq Vpf (KS ?_)))
 refine Kc ?_ ?_
 ·intro h24
  have g25 := dt h24
  refine KS ?_
  refine Oq (Vbd st59 [vi 0, .slice none 0 0, .slice none 0 0, vi 0, vi 0, .slice none 0 0, .slice none 0 0, vi 0]) (Ost (Scl [0] sh59 [vi 0, .slice none 0 0, .slice none 0 0, vi 0, vi 0, .slice none 0 0, .slice none 0 0, vi 0]) (Oq Va (Oq Va (KS ?_))))
  refine Jl [] (Ent.slNil (α := Int)) ?_
  refine Jl [] (Ent.slNil (α := Bool)) ?_
  refine Jl [] (Ent.slNil (α := GSet)) ?_
  have hq := q4 hrr ((GState.mk 0 [] [] 0 0 [] [] 0), 0, 1) (by simp only [solver_Run, h17, h22, h24, hg15, cs4]); subst hq
  exact Kr (.slice none 0 0, .slice none 0 0, .slice none 0 0, .slice none 0 0) rfl (.cellN 3 rfl sh59 rfl (reads_Cl _ _) rfl (.tmp rfl (.tmp rfl .nil))) [2, 1, 0, 2] ⟨en, en, en, en, en, en, en, (by first | exact Nat.zero_le _ | exact PV_cone (by assumption))⟩
 intro h24
 have g26 := df h24
 refine KS ?_
 refine Oq (VldA sh59 1) ?_
 refine letv (solver_copied st) fun rv31 hg32 => ?_
 have hc33 := fn93 st sta1 stk1 sta2 stk2 sta5 stk5 sta6 stk6 pre pre pre pre rv31 hg32
 refine Oc [7, 8, 9, 10] ca93 hc33 ?_
 rintro ⟨c27, c28, c29, c30⟩ ⟨he34, he35, he36, he37⟩
 unfold i64ok at he34 he35 he36 he37
 refine Jo 0 ?_; rintro a38 k39 rfl
 refine Fb 8 0 fun _ => Fo 0 fun ho41 => ?_
 refine Jo 1 ?_; rintro a42 k43 rfl
 refine Fb 1 1 fun _ => ?_
 refine Jo 2 ?_; rintro a45 k46 rfl
 refine Fb 32 2 fun _ => ?_
 refine Jo 3 ?_; rintro a48 k49 rfl
 refine Fb 8 3 fun _ => Fo 3 fun ho51 => ?_
 have hcs : rv31 = st := (by assumption : solver_copied st = rv31).symm.trans (copied_eq st)
 have hvi : solver_Valid s k rv31 = true := by rw [hcs]; simp only [h17, h22, h24, hg15, hg32]
 refine Oa (Al ze59 [vi 0, .slice none 0 0, .slice none 0 0, vi 0, vi 0, .slice none 0 0, .slice none 0 0, vi 0]) fun p52 => Ost (Scl [0] sh59 [vi rv31.Phase, vl a38 k39 rv31.Cone, vl a42 k43 rv31.Leaf, vi rv31.At, vi rv31.Edge, vl a45 k46 rv31.Values, vl a48 k49 rv31.Queue, vi rv31.Steps]) (KS ?_)
 refine Oq Va (KS ?_)
 refine Klb ?_
 refine KS ?_
 refine Oq Vm (Oq Vm (KS ?_))
 refine Kl (γ := Nat × Int × List Int × List Bool × Int × Int × List GSet × List Int × Int × Int × Int × Option Addr × Nat × Option Addr × Nat × Option Addr × Nat × Option Addr × Nat) (fun (r53, out0_54, out1_55, out2_56, out3_57, out4_58, out5_59, out6_60, out7_61, cost_62, v26_63, a64, k65, a66, k67, a68, k69, a70, k71) => ⟨[(1, vl ka0 kk0 k), (4, p11), (8, p13), (11, p52), (12, vi cost_62), (25, vi steps), (26, vi v26_63)], [O a70 k71 out6_60, O a68 k69 out5_59, O a66 k67 out2_56, O a64 k65 out1_55, Cl p52 [vi out0_54, vl a64 k65 out1_55, vl a66 k67 out2_56, vi out3_57, vi out4_58, vl a68 k69 out5_59, vl a70 k71 out6_60, vi out7_61], Cl p13 [vi 0, .slice none 0 0, .slice none 0 0, vi 0, vi 0, .slice none 0 0, .slice none 0 0, vi 0], pv p11 [vi s.Width, vl sa1 sk1 s.Deps, vl sa2 sk2 s.Transfers, vl sa3 sk3 s.Boundary], S sa1 sk1 s.Deps, S sa2 sk2 s.Transfers, S sa3 sk3 s.Boundary, S ka0 kk0 k], solver_Run_L0 s k r53 out0_54 out1_55 out2_56 out3_57 out4_58 out5_59 out6_60 out7_61 cost_62 v26_63 = solver_Run_L0 s k (((steps : Int) - 0).toNat) rv31.Phase rv31.Cone rv31.Leaf rv31.At rv31.Edge rv31.Values rv31.Queue rv31.Steps 0 0 ∧ r53 = ((steps : Int) - v26_63).toNat ∧ (0 : Int) ≤ v26_63 ∧ (v26_63 ≤ steps ∨ v26_63 = 0) ∧ (-9223372036854775808 ≤ out0_54 ∧ out0_54 ≤ 9223372036854775807) ∧ (-9223372036854775808 ≤ out3_57 ∧ out3_57 ≤ 9223372036854775807) ∧ (-9223372036854775808 ≤ out4_58 ∧ out4_58 ≤ 9223372036854775807) ∧ (-9223372036854775808 ≤ out7_61 ∧ out7_61 ≤ 9223372036854775807) ∧ (-9223372036854775808 ≤ cost_62 ∧ cost_62 ≤ 9223372036854775807) ∧ (-9223372036854775808 ≤ v26_63 ∧ v26_63 ≤ 9223372036854775807) ∧ solver_Valid s k (GState.mk out0_54 out1_55 out2_56 out3_57 out4_58 out5_59 out6_60 out7_61) = true ∧ 0 ≤ cost_62 ∧ cost_62 ≤ 8 * v26_63, r53⟩) (((steps : Int) - 0).toNat, rv31.Phase, rv31.Cone, rv31.Leaf, rv31.At, rv31.Edge, rv31.Values, rv31.Queue, rv31.Steps, 0, 0, a38, k39, a42, k43, a45, k46, a48, k49) [4, 3, 2, 1, 0, 0, 1, 2, 3, 4, 5] ⟨rfl, rfl, (by omega), (.inr rfl), (by omega), (by omega), (by omega), (by omega), (by omega), (by omega), hvi, iv0⟩ ?_
 rintro ⟨r53, out0_54, out1_55, out2_56, out3_57, out4_58, out5_59, out6_60, out7_61, cost_62, v26_63, a64, k65, a66, k67, a68, k69, a70, k71⟩ ⟨hM72, hr73, hi74, hi75, hk76, hk77, hk78, hk79, hk80, hk81, hv82, hv83⟩
 refine JJ_nx fun _ _ hL hA => ?_; dsimp only at hL hA; subst hL hA
 refine Fb 8 0 fun _ => Fo 0 fun ho85 => Fb 32 1 fun _ => Fb 1 2 fun _ => Fb 8 3 fun _ => Fo 3 fun ho89 => Fb 24 7 fun _ => Fb 88 8 fun _ => ?_
 refine Fb 32 9 fun _ => Fb 40 10 fun _ => KS ?_
 refine Oq Vlss (KS ?_)
 refine Kc ?_ ?_
 ·intro h94
  have g95 := dt h94
  obtain ⟨r96, rfl⟩ := scc (n := r53) (by omega)
  refine KS ?_
  refine Oq (Vfa fo59_0 4) (Oq (VldF sh3 4) (KS ?_))
  refine Oq Veql (Oq Va (KS ?_))
  refine Kc ?_ ?_
  ·intro h97
   have g98 := eq_of_beq h97
   refine KS ?_
   refine Oq (VldA sh27 6) (Oq Vm ?_)
   refine letv (solver_expand s k (GState.mk out0_54 out1_55 out2_56 out3_57 out4_58 out5_59 out6_60 out7_61)) fun rv103 hg104 => ?_
   have hc105 := fn94 s sa1 sk1 sa2 sk2 sa3 sk3 k ka0 kk0 p52 (GState.mk out0_54 out1_55 out2_56 out3_57 out4_58 out5_59 out6_60 out7_61) a64 k65 a66 k67 a68 k69 a70 k71 pre pre pre pre pre (PV_facts (by assumption)).1 ((PV_facts (by assumption)).2.1 (by show _ = _; omega)) rv103 hg104
   refine Oc [7, 8, 9, 10, 4, 3, 2, 1, 0] ca94 hc105 ?_
   rintro ⟨c99, c100, c101, c102⟩ ⟨he106, he107, he108, he109⟩
   unfold i64ok at he106 he107 he108 he109
   refine Jo 1 ?_; rintro a110 k111 rfl
   refine Fb 8 1 fun _ => Fo 1 fun ho113 => ?_
   refine Jo 2 ?_; rintro a114 k115 rfl
   refine Fb 1 2 fun _ => ?_
   refine Jo 3 ?_; rintro a117 k118 rfl
   refine Fb 32 3 fun _ => ?_
   refine Jo 4 ?_; rintro a120 k121 rfl
   refine Fb 8 4 fun _ => Fo 4 fun ho123 => ?_
   have hst := expand_steps (by assumption : solver_expand s k (GState.mk out0_54 out1_55 out2_56 out3_57 out4_58 out5_59 out6_60 out7_61) = rv103)
   have hsb := PV_steps (s := s) (k := k) (st := (GState.mk out0_54 out1_55 out2_56 out3_57 out4_58 out5_59 out6_60 out7_61)) (by assumption)
   dsimp only at hst hsb
   refine KS ?_
   refine Oq Vm (Oq Vadd (Oq Va (KS ?_)))
   refine Oq (Vfa fo59_7 0) (Oq (VldF sh3 0) (Oq Vadd (Oq Vmin (Oq (Vfa fo59_7 0) (Ost (SclF [0] sh3 [vi rv103.Phase, vl a110 k111 rv103.Cone, vl a114 k115 rv103.Leaf, vi rv103.At, vi rv103.Edge, vl a117 k118 rv103.Values, vl a120 k121 rv103.Queue, vi (min (rv103.Steps + 1) 1073741824)]) (KS ?_))))))
   refine Oq Vadd (Oq Vm (KS ?_))
   exact Kg (r96, rv103.Phase, rv103.Cone, rv103.Leaf, rv103.At, rv103.Edge, rv103.Values, rv103.Queue, (min (rv103.Steps + 1) 1073741824), (cost_62 + 1), (v26_63 + 1), a110, k111, a114, k115, a117, k118, a120, k121) [4, 3, 2, 1, 0, 0, 0, 1, 2, 3, 4] ⟨(q3 hM72 (by simp only [solver_Run_L0, h17, h22, h24, h94, h97, hg15, hg32, hg104, cs4])), (by omega), (by omega), (by omega), (by omega), (by omega), (by omega), (by omega), (by omega), (by omega), (by first | exact expand_V (by assumption) (by show _ = _; omega) _ (by assumption) | exact push_V (by assumption) (by show _ = _; omega) _ (by assumption)), iv1⟩
  intro h97
  have g124 := ne_of_beq_false h97
  refine KS ?_
  refine Oq Veql (Oq Va (KS ?_))
  refine Kc ?_ ?_
  ·intro h125
   have g126 := eq_of_beq h125
   refine KS ?_
   refine Oq Vm (Oq (VldA sh27 6) ?_)
   refine letv (solver_push s (GState.mk out0_54 out1_55 out2_56 out3_57 out4_58 out5_59 out6_60 out7_61)) fun rv131 hg132 => ?_
   have hc133 := fn95 s sa1 sk1 sa2 sk2 sa3 sk3 p52 (GState.mk out0_54 out1_55 out2_56 out3_57 out4_58 out5_59 out6_60 out7_61) a64 k65 a66 k67 a68 k69 a70 k71 pre pre pre pre pre (PV_facts (by assumption)).1 ((PV_facts (by assumption)).2.2.1 (by show _ = _; omega)) rv131 hg132
   refine Oc [7, 8, 9, 4, 3, 2, 1, 0] ca95 hc133 ?_
   rintro ⟨c127, c128, c129, c130⟩ ⟨he134, he135, he136, he137, he138, he139⟩
   unfold i64ok at he134 he135 he136 he137 he138
   refine Jo 1 ?_; rintro a140 k141 rfl
   refine Fb 8 1 fun _ => Fo 1 fun ho143 => ?_
   refine Jo 2 ?_; rintro a144 k145 rfl
   refine Fb 1 2 fun _ => ?_
   refine Jo 3 ?_; rintro a147 k148 rfl
   refine Fb 32 3 fun _ => ?_
   refine Jo 4 ?_; rintro a150 k151 rfl
   refine Fb 8 4 fun _ => Fo 4 fun ho153 => ?_
   have hst := push_steps (by assumption : solver_push s (GState.mk out0_54 out1_55 out2_56 out3_57 out4_58 out5_59 out6_60 out7_61) = rv131)
   have hsb := PV_steps (s := s) (k := k) (st := (GState.mk out0_54 out1_55 out2_56 out3_57 out4_58 out5_59 out6_60 out7_61)) (by assumption)
   dsimp only at hst hsb
   refine Oq Vadd (Oq Va (KS ?_))
   refine Oq (Vfa fo59_7 0) (Oq (VldF sh3 0) (Oq Vadd (Oq Vmin (Oq (Vfa fo59_7 0) (Ost (SclF [0] sh3 [vi rv131.2.Phase, vl a140 k141 rv131.2.Cone, vl a144 k145 rv131.2.Leaf, vi rv131.2.At, vi rv131.2.Edge, vl a147 k148 rv131.2.Values, vl a150 k151 rv131.2.Queue, vi (min (rv131.2.Steps + 1) 1073741824)]) (KS ?_))))))
   refine Oq Vadd (Oq Vm (KS ?_))
   exact Kg (r96, rv131.2.Phase, rv131.2.Cone, rv131.2.Leaf, rv131.2.At, rv131.2.Edge, rv131.2.Values, rv131.2.Queue, (min (rv131.2.Steps + 1) 1073741824), (cost_62 + rv131.1), (v26_63 + 1), a140, k141, a144, k145, a147, k148, a150, k151) [4, 3, 2, 1, 0, 0, 0, 1, 2, 3, 4] ⟨(q3 hM72 (by simp only [solver_Run_L0, h17, h22, h24, h94, h97, h125, hg15, hg32, hg132, cs4])), (by omega), (by omega), (by omega), (by omega), (by omega), (by omega), (by omega), (by omega), (by omega), (by first | exact expand_V (by assumption) (by show _ = _; omega) _ (by assumption) | exact push_V (by assumption) (by show _ = _; omega) _ (by assumption)), iv1⟩
  intro h125
  have g154 := ne_of_beq_false h125
  refine Ke ?_
  have hR155 := q2 hM72 (out0_54, out1_55, out2_56, out3_57, out4_58, out5_59, out6_60, out7_61, cost_62) (by simp only [solver_Run_L0, h17, h22, h24, h94, h97, h125, hg15, hg32, cs4])
  refine KS ?_
  refine Oq (VldA sh59 4) (Oq Vm (Ost (Scl [5] sh59 [vi out0_54, vl a64 k65 out1_55, vl a66 k67 out2_56, vi out3_57, vi out4_58, vl a68 k69 out5_59, vl a70 k71 out6_60, vi out7_61]) (Oq Va (Oq Va (KS ?_)))))
  refine Jl [4] (Ent.freeze _ _) ?_
  refine Jl [4] (Ent.freeze _ _) ?_
  refine Jl [4] (Ent.freeze _ _) ?_
  refine Jl [4] (Ent.freeze _ _) ?_
  have hq := q4 hrr ((GState.mk out0_54 out1_55 out2_56 out3_57 out4_58 out5_59 out6_60 out7_61), cost_62, 0) (by simp only [solver_Run, h17, h22, h24, h94, h97, h125, hg15, hg32, hR155, cs4]); subst hq
  exact Kr (vl a64 k65 out1_55, vl a66 k67 out2_56, vl a68 k69 out5_59, vl a70 k71 out6_60) rfl (.cellN 4 rfl sh59 rfl (reads_Cl _ _) rfl (.tmp rfl (.tmp rfl .nil))) [3, 2, 1, 0] ⟨en, en, en, en, en, en, en, (by first | exact Nat.zero_le _ | exact PV_cone (by assumption))⟩
 intro h94
 have g156 := df h94
 obtain rfl : r53 = 0 := by omega
 refine Ke ?_
 have hR157 := q2 hM72 (out0_54, out1_55, out2_56, out3_57, out4_58, out5_59, out6_60, out7_61, cost_62) (by simp only [solver_Run_L0, h17, h22, h24, h94, hg15, hg32, cs4])
 refine KS ?_
 refine Oq (VldA sh59 4) (Oq Vm (Ost (Scl [5] sh59 [vi out0_54, vl a64 k65 out1_55, vl a66 k67 out2_56, vi out3_57, vi out4_58, vl a68 k69 out5_59, vl a70 k71 out6_60, vi out7_61]) (Oq Va (Oq Va (KS ?_)))))
 refine Jl [4] (Ent.freeze _ _) ?_
 refine Jl [4] (Ent.freeze _ _) ?_
 refine Jl [4] (Ent.freeze _ _) ?_
 refine Jl [4] (Ent.freeze _ _) ?_
 have hq := q4 hrr ((GState.mk out0_54 out1_55 out2_56 out3_57 out4_58 out5_59 out6_60 out7_61), cost_62, 0) (by simp only [solver_Run, h17, h22, h24, h94, hg15, hg32, hR157, cs4]); subst hq
 exact Kr (vl a64 k65 out1_55, vl a66 k67 out2_56, vl a68 k69 out5_59, vl a70 k71 out6_60) rfl (.cellN 4 rfl sh59 rfl (reads_Cl _ _) rfl (.tmp rfl (.tmp rfl .nil))) [3, 2, 1, 0] ⟨en, en, en, en, en, en, en, (by first | exact Nat.zero_le _ | exact PV_cone (by assumption))⟩
theorem fn41 (s : GSystem) (sa1 : Option Addr) (sk1 : Nat) (sa2 : Option Addr) (sk2 : Nat) (sa3 : Option Addr) (sk3 : Nat) (k : List GKnown) (ka0 : Option Addr) (kk0 : Nat) (st : GState) (sta1 : Option Addr) (stk1 : Nat) (sta2 : Option Addr) (stk2 : Nat) (sta5 : Option Addr) (stk5 : Nat) (sta6 : Option Addr) (stk6 : Nat) (hs_0 : i64ok s.Width) (hst_0 : i64ok st.Phase) (hst_3 : i64ok st.At) (hst_4 : i64ok st.Edge) (hst_7 : i64ok st.Steps) (rr : GState × Int × Int) (hrr : solver_Step s k st = rr) : FT Tryz.prog 41 #[.agg #[vi s.Width, vl sa1 sk1 s.Deps, vl sa2 sk2 s.Transfers, vl sa3 sk3 s.Boundary], vl ka0 kk0 k, .agg #[vi st.Phase, vl sta1 stk1 st.Cone, vl sta2 stk2 st.Leaf, vi st.At, vi st.Edge, vl sta5 stk5 st.Values, vl sta6 stk6 st.Queue, vi st.Steps]] [S sa1 sk1 s.Deps, S sa2 sk2 s.Transfers, S sa3 sk3 s.Boundary, S ka0 kk0 k, S sta1 stk1 st.Cone, S sta2 stk2 st.Leaf, S sta5 stk5 st.Values, S sta6 stk6 st.Queue] (fun g : Value × Value × Value × Value => i64ok rr.1.Phase ∧ i64ok rr.1.At ∧ i64ok rr.1.Edge ∧ i64ok rr.1.Steps ∧ i64ok rr.2.1 ∧ i64ok rr.2.2) (fun g => .tuple #[.agg #[vi rr.1.Phase, g.1, g.2.1, vi rr.1.At, vi rr.1.Edge, g.2.2.1, g.2.2.2, vi rr.1.Steps], vi rr.2.1, vi rr.2.2]) (fun g => [sl g.1 rr.1.Cone, sl g.2.1 rr.1.Leaf, sl g.2.2.1 rr.1.Values, sl g.2.2.2 rr.1.Queue]) := by
 refine FTi Tryz.func41 fun w0 M0 F0 => ?_
 unfold i64ok at hs_0 hst_0 hst_3 hst_4 hst_7
 refine Fb 24 0 fun _ => Fb 88 1 fun _ => Fb 32 2 fun _ => Fb 40 3 fun _ => Fb 8 4 fun _ => Fo 4 fun ho6 => Fb 1 5 fun _ => Fb 32 6 fun _ => ?_
 refine Fb 8 7 fun _ => Fo 7 fun ho10 => KS ?_
 refine Oa (Ab [vi s.Width, vl sa1 sk1 s.Deps, vl sa2 sk2 s.Transfers, vl sa3 sk3 s.Boundary]) fun p11 => Oa (Ab [vi st.Phase, vl sta1 stk1 st.Cone, vl sta2 stk2 st.Leaf, vi st.At, vi st.Edge, vl sta5 stk5 st.Values, vl sta6 stk6 st.Queue, vi st.Steps]) fun p12 => Oa (Al ze59 [vi 0, .slice none 0 0, .slice none 0 0, vi 0, vi 0, .slice none 0 0, .slice none 0 0, vi 0]) fun p13 => Oq Va (Oq Va (KS ?_))
 refine Oq (VldA sh27 2) (Oq Vm (Oq (VldA sh59 1) ?_))
 refine letv (solver_Valid s k st) fun rv14 hg15 => ?_
 have hc16 := fn42 s sa1 sk1 sa2 sk2 sa3 sk3 k ka0 kk0 st sta1 stk1 sta2 stk2 sta5 stk5 sta6 stk6 pre pre pre pre pre rv14 hg15
 refine Oc [3, 4, 5, 6, 7, 8, 9, 10] ca42 hc16 ?_
 rintro - -
 refine Oq Vnot (Oq Va (KS ?_))
 refine Kc ?_ ?_
 ·intro h17
  have h19 := not_true h17
  refine KS ?_
  refine Oq (Vbd st59 [vi 0, .slice none 0 0, .slice none 0 0, vi 0, vi 0, .slice none 0 0, .slice none 0 0, vi 0]) (Ost (Scl [0] sh59 [vi 0, .slice none 0 0, .slice none 0 0, vi 0, vi 0, .slice none 0 0, .slice none 0 0, vi 0]) (Oq Va (Oq Va (KS ?_))))
  refine Jl [] (Ent.slNil (α := Int)) ?_
  refine Jl [] (Ent.slNil (α := Bool)) ?_
  refine Jl [] (Ent.slNil (α := GSet)) ?_
  have hq := q4 hrr ((GState.mk 0 [] [] 0 0 [] [] 0), 0, 1) (by simp only [solver_Step, h17, h19, hg15, cs4]); subst hq
  exact Kr (.slice none 0 0, .slice none 0 0, .slice none 0 0, .slice none 0 0) rfl (.cellN 3 rfl sh59 rfl (reads_Cl _ _) rfl (.tmp rfl (.tmp rfl .nil))) [2, 1, 0, 2] en
 intro h17
 have h22 := not_false h17
 refine KS ?_
 refine Oq (Vfa fo59_0 1) (Oq (VldF sh3 1) (Oq Veql (Oq Va (KS ?_))))
 refine Kc ?_ ?_
 ·intro h24
  have g25 := eq_of_beq h24
  refine KS ?_
  refine Oq (Vbd st59 [vi 0, .slice none 0 0, .slice none 0 0, vi 0, vi 0, .slice none 0 0, .slice none 0 0, vi 0]) (Ost (Scl [0] sh59 [vi 0, .slice none 0 0, .slice none 0 0, vi 0, vi 0, .slice none 0 0, .slice none 0 0, vi 0]) (Oq Va (Oq Va (KS ?_))))
  refine Jl [] (Ent.slNil (α := Int)) ?_
  refine Jl [] (Ent.slNil (α := Bool)) ?_
  refine Jl [] (Ent.slNil (α := GSet)) ?_
  have hq := q4 hrr ((GState.mk 0 [] [] 0 0 [] [] 0), 0, 10) (by simp only [solver_Step, h17, h22, h24, hg15, cs4]); subst hq
  exact Kr (.slice none 0 0, .slice none 0 0, .slice none 0 0, .slice none 0 0) rfl (.cellN 3 rfl sh59 rfl (reads_Cl _ _) rfl (.tmp rfl (.tmp rfl .nil))) [2, 1, 0, 2] en
 intro h24
 have g26 := ne_of_beq_false h24
 refine KS ?_
 refine Oq (VldA sh27 2) (Oq Vm (Oq (VldA sh59 1) ?_))
 refine letv (solver_Run s k st 1) fun rv31 hg32 => ?_
 have hc33 := fn35 s sa1 sk1 sa2 sk2 sa3 sk3 k ka0 kk0 st sta1 stk1 sta2 stk2 sta5 stk5 sta6 stk6 1 pre pre pre pre pre pre pre rv31 hg32
 refine Oc [3, 4, 5, 6, 7, 8, 9, 10] ca35 hc33 ?_
 rintro ⟨c27, c28, c29, c30⟩ ⟨he34, he35, he36, he37, he38, he39, he40, he41⟩
 unfold i64ok at he34 he35 he36 he37 he38 he39
 refine Jo 0 ?_; rintro a42 k43 rfl
 refine Fb 8 0 fun _ => Fo 0 fun ho45 => ?_
 refine Jo 1 ?_; rintro a46 k47 rfl
 refine Fb 1 1 fun _ => ?_
 refine Jo 2 ?_; rintro a49 k50 rfl
 refine Fb 32 2 fun _ => ?_
 refine Jo 3 ?_; rintro a52 k53 rfl
 refine Fb 8 3 fun _ => Fo 3 fun ho55 => ?_
 refine Oq Vm (Oq Vx (Oq Vx (Oq Vx (Oa (Al ze59 [vi 0, .slice none 0 0, .slice none 0 0, vi 0, vi 0, .slice none 0 0, .slice none 0 0, vi 0]) fun p56 => Ost (Scl [0] sh59 [vi rv31.1.Phase, vl a42 k43 rv31.1.Cone, vl a46 k47 rv31.1.Leaf, vi rv31.1.At, vi rv31.1.Edge, vl a49 k50 rv31.1.Values, vl a52 k53 rv31.1.Queue, vi rv31.1.Steps]) (Oq Va (Oq Va (KS ?_)))))))
 refine Oq (VldA sh59 0) (Oq Vm (Ost (Scl [5] sh59 [vi rv31.1.Phase, vl a42 k43 rv31.1.Cone, vl a46 k47 rv31.1.Leaf, vi rv31.1.At, vi rv31.1.Edge, vl a49 k50 rv31.1.Values, vl a52 k53 rv31.1.Queue, vi rv31.1.Steps]) (Oq Va (Oq Va (KS ?_)))))
 have hq := q4 hrr (rv31.1, rv31.2.1, 0) (by simp only [solver_Step, h17, h22, h24, hg15, hg32, cs4]); subst hq
 exact Kr (vl a42 k43 rv31.1.Cone, vl a46 k47 rv31.1.Leaf, vl a49 k50 rv31.1.Values, vl a52 k53 rv31.1.Queue) rfl (.cellN 0 rfl sh59 rfl (reads_Cl _ _) rfl (.tmp rfl (.tmp rfl .nil))) [2, 3, 4, 5] en
theorem fn44 (st : GState) (sta1 : Option Addr) (stk1 : Nat) (sta2 : Option Addr) (stk2 : Nat) (sta5 : Option Addr) (stk5 : Nat) (sta6 : Option Addr) (stk6 : Nat) (hst_0 : i64ok st.Phase) (hst_3 : i64ok st.At) (hst_4 : i64ok st.Edge) (hst_7 : i64ok st.Steps) (rr : GSet × Bool) (hrr : solver_Answer st = rr) : FT Tryz.prog 44 #[.agg #[vi st.Phase, vl sta1 stk1 st.Cone, vl sta2 stk2 st.Leaf, vi st.At, vi st.Edge, vl sta5 stk5 st.Values, vl sta6 stk6 st.Queue, vi st.Steps]] [S sta1 stk1 st.Cone, S sta2 stk2 st.Leaf, S sta5 stk5 st.Values, S sta6 stk6 st.Queue] (fun g : Value => i64ok rr.1.Width) (fun g => .tuple #[.agg #[vi rr.1.Width, g], vb rr.2]) (fun g => [sl g rr.1.Words]) := by
 refine FTi Tryz.func44 fun w0 M0 F0 => ?_
 unfold i64ok at hst_0 hst_3 hst_4 hst_7
 refine Fb 8 0 fun _ => Fo 0 fun ho2 => Fb 1 1 fun _ => Fb 32 2 fun _ => Fb 8 3 fun _ => Fo 3 fun ho6 => KS ?_
 refine Oa (Ab [vi st.Phase, vl sta1 stk1 st.Cone, vl sta2 stk2 st.Leaf, vi st.At, vi st.Edge, vl sta5 stk5 st.Values, vl sta6 stk6 st.Queue, vi st.Steps]) fun p7 => Oa (Al ze42 [vi 0, .slice none 0 0]) fun p8 => Oq Va (KS ?_)
 refine Oq (Vfa fo59_0 1) (Oq (VldF sh3 1) (Oq Vneq (Oq Vm ?_)))
 refine Js 7 ?_ ?_
 ·intro h9
  have g10 := ne_of_bne h9
  refine Osk (Osk (Osk (Osk (Oq Vpt (KS ?_)))))
  refine Kt (KS ?_)
  refine Oq (Vbd st42 [vi 0, .slice none 0 0]) (Ost (Scl [0] sh42 [vi 0, .slice none 0 0]) (Oq Va (KS ?_)))
  refine Jl [] (Ent.slNil (α := BitVec 64)) ?_
  have hq := q4 hrr ((GSet.mk 0 []), false) (by simp only [solver_Answer, h9, cs4]); subst hq
  exact Kr (.slice none 0 0) rfl (.cellN 1 rfl sh42 rfl (reads_Cl _ _) rfl (.tmp rfl .nil)) [0] en
 intro h9
 have g11 := eq_of_bne_false h9
 refine Oq (Vfa fo59_5 1) (Oq (VldF sh25 1) (Oq (Vlen sl25) (Oq Veql (Oq Vpf (KS ?_)))))
 refine Kc ?_ ?_
 ·intro h12
  have g13 := eq_of_beq h12
  refine KS ?_
  refine Oq (Vbd st42 [vi 0, .slice none 0 0]) (Ost (Scl [0] sh42 [vi 0, .slice none 0 0]) (Oq Va (KS ?_)))
  refine Jl [] (Ent.slNil (α := BitVec 64)) ?_
  have hq := q4 hrr ((GSet.mk 0 []), false) (by simp only [solver_Answer, h9, h12, cs4]); subst hq
  exact Kr (.slice none 0 0) rfl (.cellN 1 rfl sh42 rfl (reads_Cl _ _) rfl (.tmp rfl .nil)) [0] en
 intro h12
 have g14 := ne_of_beq_false h12
 refine KS ?_
 refine Oq (Vfa fo59_5 1) (Oq (VldF sh25 1) (Oq (Vi sl25 4) ?_))
 refine JJ_peek_GSet (0 : Int).toNat 4 rfl rng fun a15 k16 hb17 => ?_
 unfold i64ok at hb17
 refine Fb 8 1 fun _ => Oq (VldA sh42 0) ?_
 refine letv (solver_clone (st.Values.getD (0 : Int).toNat default)) fun rv20 hg21 => ?_
 have hc22 := fn106 ((st.Values.getD (0 : Int).toNat default)) a15 k16 pre rv20 hg21
 refine Oc [1] ca106 hc22 ?_
 rintro c19 he23
 unfold i64ok at he23
 refine Jo 0 ?_; rintro a24 k25 rfl
 refine Fb 8 0 fun _ => ?_
 refine Ost (Scl [3] sh42 [vi rv20.Width, vl a24 k25 rv20.Words]) (Oq Va (KS ?_))
 refine Jl [1] (Ent.freeze _ _) ?_
 have hq := q4 hrr (rv20, true) (by simp only [solver_Answer, h9, h12, hg21, cs4]); subst hq
 exact Kr (vl a24 k25 rv20.Words) rfl (.cellN 1 rfl sh42 rfl (reads_Cl _ _) rfl (.tmp rfl .nil)) [0] en
theorem fn96 (width : Int) (hwidth_0 : i64ok width) (hw0 : 0 ≤ width ∧ width ≤ 1000000) (rr : GTransfer) (hrr : flqref1_Identity width = rr) : FT Tryz.prog 96 #[vi width] [] (fun g : Value × Value × Value => i64ok rr.Gen.Width ∧ i64ok rr.Kill.Width) (fun g => .agg #[vi rr.Gen.Width, g.1, vi rr.Kill.Width, g.2.1, g.2.2]) (fun g => [sl g.1 rr.Gen.Words, sl g.2.1 rr.Kill.Words, sl g.2.2 rr.Copies]) := by
 refine FTi Tryz.func96 fun w0 M0 F0 => ?_
 unfold i64ok at hwidth_0
 refine KS ?_
 refine Oa (Al ze98 [vi 0, .slice none 0 0, vi 0, .slice none 0 0, .slice none 0 0]) fun p1 => KS ?_
 refine Oq Vm ?_
 refine letv (flqref1_Empty width) fun rv3 hg4 => ?_
 have hc5 := fn67 width pre pre rv3 hg4
 refine Oc [] ca67 hc5 ?_
 rintro c2 ⟨he6, he7, he8⟩
 unfold i64ok at he6
 refine Jo 0 ?_; rintro a9 k10 rfl
 refine Fb 8 0 fun _ => Oq Vm ?_
 have hc13 := fn67 width pre pre rv3 hg4
 refine Oc [] ca67 hc13 ?_
 rintro c12 ⟨he14, he15, he16⟩
 unfold i64ok at he14
 refine Jo 0 ?_; rintro a17 k18 rfl
 refine Oq (Vbd st98 [vi rv3.Width, vl a9 k10 rv3.Words, vi rv3.Width, vl a17 k18 rv3.Words, .slice none 0 0]) (Ost (Scl [2] sh98 [vi rv3.Width, vl a9 k10 rv3.Words, vi rv3.Width, vl a17 k18 rv3.Words, .slice none 0 0]) (KS ?_))
 refine Jl [2] (Ent.freeze _ _) ?_
 refine Jl [2] (Ent.freeze _ _) ?_
 refine Jl [] (Ent.slNil (α := GCopy)) ?_
 have hq := q4 hrr (GTransfer.mk rv3 rv3 []) (by simp only [flqref1_Identity, hg4, cs4]); subst hq
 exact Kr (vl a9 k10 rv3.Words, vl a17 k18 rv3.Words, .slice none 0 0) rfl (.cellN 3 rfl sh98 rfl (reads_Cl _ _) rfl .nil) [2, 1, 0] en
theorem fn97 (width : Int) (hwidth_0 : i64ok width) (hw0 : 0 ≤ width ∧ width ≤ 1000) (rr : GSet) (hrr : flqref1_Full width = rr) : FT Tryz.prog 97 #[vi width] [] (fun g : Value => i64ok rr.Width) (fun g => .agg #[vi rr.Width, g]) (fun g => [sl g rr.Words]) := by
 refine FTi Tryz.func97 fun w0 M0 F0 => ?_
 unfold i64ok at hwidth_0
 refine KS ?_
 refine Oa (Al ze42 [vi 0, .slice none 0 0]) fun p1 => KS ?_
 refine Oq Vm ?_
 refine letv (flqref1_Empty width) fun rv3 hg4 => ?_
 have hc5 := fn67 width pre pre rv3 hg4
 refine Oc [] ca67 hc5 ?_
 rintro c2 ⟨he6, he7, he8⟩
 unfold i64ok at he6
 refine Jo 0 ?_; rintro a9 k10 rfl
 refine Fb 8 0 fun _ => ?_
 refine Oa (Al ze42 [vi 0, .slice none 0 0]) fun p12 => Ost (Scl [0] sh42 [vi rv3.Width, vl a9 k10 rv3.Words]) (KS ?_)
 refine Oq Va (KS ?_)
 refine Kl (γ := Nat × Int × List (BitVec 64) × Int × Option Addr × Nat) (fun (r13, s0_14, s1_15, b_16, a17, k18) => ⟨[(0, vi width), (2, p1), (3, p12), (4, vi b_16)], [O a17 k18 s1_15, Cl p12 [vi s0_14, vl a17 k18 s1_15], Cl p1 [vi 0, .slice none 0 0]], flqref1_Full_L0 r13 s0_14 s1_15 b_16 = flqref1_Full_L0 (((width : Int) - 0).toNat) rv3.Width rv3.Words 0 ∧ r13 = ((width : Int) - b_16).toNat ∧ (0 : Int) ≤ b_16 ∧ (b_16 ≤ width ∨ b_16 = 0) ∧ (-9223372036854775808 ≤ s0_14 ∧ s0_14 ≤ 9223372036854775807) ∧ (-9223372036854775808 ≤ b_16 ∧ b_16 ≤ 9223372036854775807) ∧ s0_14 = width, r13⟩) (((width : Int) - 0).toNat, rv3.Width, rv3.Words, 0, a9, k10) [1, 0, 0] ⟨rfl, rfl, (by omega), (.inr rfl), (by omega), (by omega), iv0⟩ ?_
 rintro ⟨r13, s0_14, s1_15, b_16, a17, k18⟩ ⟨hM19, hr20, hi21, hi22, hk23, hk24, hv25⟩
 refine JJ_nx fun _ _ hL hA => ?_; dsimp only at hL hA; subst hL hA
 refine Fb 8 0 fun _ => KS ?_
 refine Oq Vm (Oq Vm (Oq Vlss (KS ?_)))
 refine Kc ?_ ?_
 ·intro h27
  have g28 := dt h27
  obtain ⟨r29, rfl⟩ := scc (n := r13) (by omega)
  refine KS ?_
  refine Oq (VldA sh42 1) (Oq Vm ?_)
  refine letv (flqref1_Put (GSet.mk s0_14 s1_15) b_16) fun rv31 hg32 => ?_
  refine Oc [0] ca79 (FT_borrow (A := _) hlx (FT_ent (Ent.take (is := [0]) rfl) (fn79 ((GSet.mk s0_14 s1_15)) a17 k18 b_16 pre pre pre pre rv31 hg32))) ?_ (ht := rfl)
  rintro c30 ⟨he33, he34, he35⟩
  unfold i64ok at he33
  have he34 : (rv31.Width = s0_14) := he34
  have he35 : (rv31.Words.length = ((s0_14 + 63) / 64).toNat) := he35
  refine Jo 1 ?_; rintro a36 k37 rfl
  refine Fb 8 1 fun _ => ?_
  refine Ost (Scl [2] sh42 [vi rv31.Width, vl a36 k37 rv31.Words]) (KS ?_)
  refine Oq Vm (Oq Vadd (Oq Va (KS ?_)))
  exact Kg (r29, rv31.Width, rv31.Words, (b_16 + 1), a36, k37) [2, 0, 1] ⟨(q3 hM19 (by simp only [flqref1_Full_L0, h27, hg4, hg32, cs4])), (by omega), (by omega), (by omega), (by omega), (by omega), iv1⟩
 intro h27
 have g39 := df h27
 obtain rfl : r13 = 0 := by omega
 refine Ke ?_
 have hR40 := q2 hM19 (s0_14, s1_15) (by simp only [flqref1_Full_L0, h27, hg4, cs4])
 refine KS ?_
 refine Oq (VldA sh42 1) (Ost (Scl [2] sh42 [vi s0_14, vl a17 k18 s1_15]) (KS ?_))
 refine Jl [1] (Ent.freeze _ _) ?_
 have hq := q4 hrr (GSet.mk s0_14 s1_15) (by simp only [flqref1_Full, h27, hg4, hR40, cs4]); subst hq
 exact Kr (vl a17 k18 s1_15) rfl (.cellN 1 rfl sh42 rfl (reads_Cl _ _) rfl .nil) [0] en
end Go.SL.G
