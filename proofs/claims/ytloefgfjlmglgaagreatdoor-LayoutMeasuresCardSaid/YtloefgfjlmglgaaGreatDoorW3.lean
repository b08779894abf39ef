/- Part 3 of the walks: mirrors, plain laws and walks used by the last text of this claim. -/
import Derived.Test.YtloefgfjlmglgaaGreatDoorW2
import Derived.Test.YtloefgfjlmglgaaGreatDoorProg
set_option linter.unusedVariables false
set_option linter.unusedSimpArgs false
namespace Go.SL.G
open Go Go.SL Go.Proofs
set_option maxHeartbeats 20000000
set_option maxRecDepth 100000
theorem fn74 (x : BitVec 64) (y : BitVec 64) (rr : BitVec 64 × BitVec 64) (hrr : bits_Mul64 x y = .ret rr) : FT Tryz.prog 74 #[u64 x, u64 y] [] (fun g : Unit => True) (fun g => .tuple #[u64 rr.1, u64 rr.2]) (fun g => []) := by
 refine FTi Tryz.func74 fun w0 M0 F0 => ?_
 have hx0 := lrn rr; have H := hrr; unfold bits_Mul64 at H
 refine KS ?_
 refine Oq Va (Oq Va (KS ?_))
 refine Oq Vm (Oq (VandU (b := 4294967295#64)) (Oq Va (KS ?_)))
 refine Oq Vm (Oq VshrU (Oq Va (KS ?_)))
 refine Oq Vm (Oq (VandU (b := 4294967295#64)) (Oq Va (KS ?_)))
 refine Oq Vm (Oq VshrU (Oq Va (KS ?_)))
 refine Oq Vm (Oq Vm (Oq VmulU (Oq Va (KS ?_))))
 refine Oq Vm (Oq Vm (Oq VmulU (Oq Vm (Oq VshrU (Oq VaddU (Oq Va (KS ?_)))))))
 refine Oq Vm (Oq (VandU (b := 4294967295#64)) (Oq Va (KS ?_)))
 refine Oq Vm (Oq VshrU (Oq Va (KS ?_)))
 refine Oq Vm (Oq Vm (Oq Vm (Oq VmulU (Oq VaddU (Oq Va (KS ?_))))))
 refine Oq Vm (Oq Vm (Oq VmulU (Oq Vm (Oq VaddU (Oq Vm (Oq VshrU (Oq VaddU (Oq Va (KS ?_)))))))))
 refine Oq Vm (Oq Vm (Oq VmulU (Oq Va (KS ?_))))
 have hq := rI H; subst hq
 exact Kr () rfl (.tmp rfl (.tmp rfl .nil)) [] trivial
theorem fn60 (x : BitVec 64) (y : BitVec 64) (rr : BitVec 64 × BitVec 64) (hrr : bits_Mul x y = .ret rr) : FT Tryz.prog 60 #[u64 x, u64 y] [] (fun g : Unit => True) (fun g => .tuple #[u64 rr.1, u64 rr.2]) (fun g => []) := by
 refine FTi Tryz.func60 fun w0 M0 F0 => ?_
 have hx0 := lrn rr; have H := hrr; unfold bits_Mul at H
 refine KS ?_
 refine Oq Va (Oq Va (KS ?_))
 refine Kf (KS ?_)
 refine Oq Vm (Oq Vm ?_)
 refine lbH H hx0 fun rv1 hg2 H => ?_
 have hc3 := fn74 x y rv1 hg2
 refine Oc [] ca74 hc3 ?_
 rintro - -
 refine Oq Vm (Oq Vx (Oq Vx (Oq Va (Oq Va (KS ?_)))))
 refine Oq Vm (Oq Vm (Oq Va (Oq Va (KS ?_))))
 have hq := rI H; subst hq
 exact Kr () rfl (.tmp rfl (.tmp rfl .nil)) [] trivial
theorem fn43 (x : List Cpx) (xa0 : Option Addr) (xk0 : Nat) (count : Int) (hcount_0 : i64ok count) (rr : List Cpx) (hrr : sc_Repeat_complex128 x count = .ret rr) : FT Tryz.prog 43 #[vl xa0 xk0 x, vi count] [S xa0 xk0 x] (fun g : Value => True) (fun g => g) (fun g => [os g rr]) := by
 refine FTi Tryz.func43 fun w0 M0 F0 => ?_
 unfold i64ok at hcount_0
 refine Fb 16 0 fun _ => ?_
 have hx0 := lrn rr; have H := hrr; unfold sc_Repeat_complex128 at H
 refine KS ?_
 refine Oq Va (KS ?_)
 refine Oq Vm (Oq Vlss (KS ?_))
 refine pF H hx0 fun h2 H => ?_
 refine KcF h2 ?_
 have g3 := df h2
 refine KS ?_
 refine Oq Vm (Oq (Vlen sl49) (Oq (VcU un3 un69) (Oq Vm (Oq (VcU un3 un69) ?_))))
 refine lbH H hx0 fun rv4 hg5 H => ?_
 have hc6 := fn60 ((BitVec.ofInt 64 (x.length : Int))) ((BitVec.ofInt 64 count)) rv4 hg5
 refine Oc [] ca60 hc6 ?_
 rintro - -
 refine Oq Vm (Oq Vx (Oq Vx (Oq Va (Oq Va (KS ?_)))))
 refine Oq Vm (Oq (Vgtr (a := (rv4.1.toNat : Int)) (b := 0)) (Oq Vm ?_))
 refine pF H hx0 fun h7 H => ?_
 refine JsF 23 h7 ?_
 have g8 := df h7
 refine Oq Vm (Oq (Vgtr (a := (rv4.2.toNat : Int)) (b := 9223372036854775807)) (Oq Vpf (KS ?_)))
 refine pF H hx0 fun h9 H => ?_
 refine KcF h9 ?_
 have g10 := df h9
 refine KS ?_
 refine Oq Vm ?_
 refine pC H hx0 fun hc11 H => ?_
 refine Oq (VcN un69 un3) ?_
 refine pC H hx0 fun hc12 H => ?_
 refine Oa (Amk (α := Cpx) sl49 sz49 (default : Cpx) zrd_Cpx) fun c13 => ?_
 refine Jo 0 ?_; rintro a14 k15 rfl
 refine Fb 16 0 fun _ => ?_
 have hn17 := List.length_replicate (n := ((rv4.2.toNat : Int) : Int).toNat) (a := ((default : Cpx) : Cpx))
 refine Oq Va (KS ?_)
 refine Oq Vm (Oq Vm (Oa (OpA.frame [0, 0] rfl (OpA.copyS (α := Cpx) rfl rfl rfl sl49 rfl)) fun u18 => ?_))
 have hn19 : (x.take (List.replicate ((rv4.2.toNat : Int) : Int).toNat (default : Cpx)).length ++ (List.replicate ((rv4.2.toNat : Int) : Int).toNat (default : Cpx)).drop x.length).length = (List.replicate ((rv4.2.toNat : Int) : Int).toNat (default : Cpx)).length := len_copy _ _
 have hb20 : Nat.min x.length (List.replicate ((rv4.2.toNat : Int) : Int).toNat (default : Cpx)).length ≤ x.length := Nat.min_le_left _ _
 refine Oq Va (KS ?_)
 refine Fl 0 fun hn21 => ?_; (try unfold vl); rw [show Value.slice a14 ((List.replicate ((rv4.2.toNat : Int) : Int).toNat (default : Cpx)).length) k15 = Value.slice a14 (((x.take (List.replicate ((rv4.2.toNat : Int) : Int).toNat (default : Cpx)).length ++ (List.replicate ((rv4.2.toNat : Int) : Int).toNat (default : Cpx)).drop x.length) : List Cpx).length) k15 from by rw [hn21]]
 refine llH H hx0 fun X29 hX30 hx31 HL32 => ?_
 refine Kl (γ := Nat × List Cpx × Int × Option Addr × Nat) (fun (r22, newslice_23, n_24, a25, k26) => ⟨[(7, vl a25 k26 newslice_23), (8, vi n_24)], [O a25 k26 newslice_23], sc_Repeat_complex128_L0 r22 newslice_23 n_24 = X29 ∧ (-9223372036854775808 ≤ n_24 ∧ n_24 ≤ 9223372036854775807), r22⟩) (100000, (x.take (List.replicate ((rv4.2.toNat : Int) : Int).toNat (default : Cpx)).length ++ (List.replicate ((rv4.2.toNat : Int) : Int).toNat (default : Cpx)).drop x.length), (Nat.min x.length (List.replicate ((rv4.2.toNat : Int) : Int).toNat (default : Cpx)).length : Int), a14, k15) [0] ⟨hX30, aM1⟩ ?_
 rintro ⟨r22, newslice_23, n_24, a25, k26⟩ ⟨hM27, hk28⟩
 refine JJ_nx fun _ _ hL hA => ?_; dsimp only at hL hA; subst hL hA
 refine Fb 16 0 fun _ => ?_
 rcases r22 with _ | r22
 ·exact absurd (hM27.symm.trans rfl) hx31
 have H := hM27; (try dsimp only at H); rw [sc_Repeat_complex128_L0] at H
 refine KS ?_
 refine Oq Vm (Oq Vm (Oq (Vlen sl49) (Oq Vlss (KS ?_))))
 refine KcH H ?_ ?_
 ·intro h34 H
  have g35 := dt h34
  refine KS ?_
  refine JK_drawK [0, 0, 0, 6, 0, 0, 48, 126, 255, 511] fmix ?_
  refine Dv [] Vm (Dv [] Vm (Dv [] Vm ?_))
  refine pC H hx31 fun hc36 H => ?_
  refine Dv [0] (VslQ sl49 0 (n_24.toNat)) (Dv [] Vm (Dv [] Vm (Dv [0] (VslP sl49 0 (n_24.toNat)) ?_)))
  refine pC H hx31 fun hc37 H => ?_
  refine pC H hx31 fun hc38 H => ?_
  have hn40 := dbl_len newslice_23 (n_24.toNat) rng
  refine Dx [0] [0] [0] (fun G => vi ((min (n_24.toNat) (newslice_23.length - (n_24.toNat)) : Nat) : Int)) [fun G => os (vl a25 k26 newslice_23) (dbl newslice_23 (n_24.toNat))] (fun G => xA (Adbl [0] sl49 (n_24.toNat))) ?_
  refine pC H hx31 fun hc41 H => ?_
  refine Dv [] Vadd (Dv [] Va ?_)
  refine Dn ⟨by kernel_rfl, fun G => ?_⟩
  refine Jw2 [(7, vl a25 k26 newslice_23), (8, vi (n_24 + ((min (n_24.toNat) (newslice_23.length - (n_24.toNat)) : Nat) : Int)))] [] [os (vl a25 k26 newslice_23) (dbl newslice_23 (n_24.toNat))] ?_
  refine KS ?_
  refine Fl 0 fun hn42 => ?_; (try unfold vl); rw [show Value.slice a25 newslice_23.length k26 = Value.slice a25 ((dbl newslice_23 (n_24.toNat)).length) k26 from by rw [hn42]]
  exact Kg (r22, (dbl newslice_23 (n_24.toNat)), (n_24 + ((min (n_24.toNat) (newslice_23.length - (n_24.toNat)) : Nat) : Int)), a25, k26) [0] ⟨H, aM1⟩
 intro h34 H
 have g43 := df h34
 refine Ke ?_
 have H := llB H HL32
 refine KS ?_
 refine Oq Vm (Oq Va (KS ?_))
 have hq := rI H; subst hq
 exact Kr (vl a25 k26 newslice_23) rfl (.tmp rfl .nil) [0] trivial
theorem fn84 (data : List Int) (dataa0 : Option Addr) (datak0 : Nat) (a : Int) (b : Int) (cmpF : FuncId) (cmpC : List Value) (cmpp : Int → Int → LR Unit Int) (cmpA : List SP) (ha_0 : i64ok a) (hb_0 : i64ok b) (hcmpc : callable Tryz.prog cmpF = true) (hcmpF : ∀ x0 x1, i64ok x0 → i64ok x1 → ∀ r, (cmpp x0 x1) = .ret r → FT Tryz.prog cmpF ([vi x0, vi x1] ++ cmpC).toArray ([] ++ [pAll cmpA]) (fun _ : Unit => i64ok r) (fun _ => vi r) (fun _ => [])) (rr : List Int) (hrr : sc_insertionSortCmpFunc_int data a b cmpp = .ret rr) : FT Tryz.prog 84 #[vl dataa0 datak0 data, vi a, vi b, .func (.func cmpF) #[] cmpC.toArray] [O dataa0 datak0 data, pAll cmpA] (fun g : Unit => True) (fun g => .tuple #[]) (fun g => [os (vl dataa0 datak0 data) rr]) := by
 refine FTi Tryz.func84 fun w0 M0 F0 => ?_
 unfold i64ok at ha_0 hb_0
 refine Fb 8 0 fun _ => Fo 0 fun ho2 => ?_
 have hx0 := lrn rr; have H := hrr; unfold sc_insertionSortCmpFunc_int at H
 refine KS ?_
 refine Oq Vm ?_
 refine pC H hx0 fun hc3 H => ?_
 refine Oq Vadd (Oq Va (KS ?_))
 refine llH H hx0 fun X11 hX12 hx13 HL14 => ?_
 refine Kl (γ := Nat × Int) (fun (r4, i_5) => ⟨[(0, vl dataa0 datak0 data), (1, vi a), (2, vi b), (3, .func (.func cmpF) #[] cmpC.toArray), (8, vi i_5)], [O dataa0 datak0 data, pAll cmpA], sc_insertionSortCmpFunc_int_L0 data a cmpp r4 i_5 = X11 ∧ r4 = ((b : Int) - i_5).toNat ∧ ((a + 1) : Int) ≤ i_5 ∧ (i_5 ≤ b ∨ i_5 = (a + 1)) ∧ (-9223372036854775808 ≤ i_5 ∧ i_5 ≤ 9223372036854775807), r4⟩) (((b : Int) - (a + 1)).toNat, (a + 1)) [0, 0] ⟨hX12, rfl, aM1, (.inr rfl), aM1⟩ ?_
 rintro ⟨r4, i_5⟩ ⟨hM6, hr7, hi8, hi9, hk10⟩
 refine JJ_nx fun _ _ hL hA => ?_; dsimp only at hL hA; subst hL hA
 refine Fb 8 0 fun _ => Fo 0 fun ho16 => KS ?_
 refine Oq Vm (Oq Vm (Oq Vlss (KS ?_)))
 refine Kc ?_ ?_
 ·intro h17
  have g18 := dt h17
  obtain ⟨r19, rfl⟩ := scc (n := r4) aM1
  have H := hM6; (try dsimp only at H); rw [sc_insertionSortCmpFunc_int_L0] at H
  refine KS ?_
  refine Oq Vm (Oq Va (KS ?_))
  refine llH H hx13 fun X22 hX23 hx24 HL25 => ?_
  refine Kl (γ := Nat) (fun r20 => ⟨[(0, vl dataa0 datak0 data), (1, vi a), (2, vi b), (3, .func (.func cmpF) #[] cmpC.toArray), (8, vi i_5), (9, vi i_5)], [O dataa0 datak0 data, pAll cmpA], sc_insertionSortCmpFunc_int_L1 data a cmpp i_5 r20 = X22, r20⟩) 1 [0, 0] hX23 ?_
  rintro r20 hM21
  refine JJ_nx fun _ _ hL hA => ?_; dsimp only at hL hA; subst hL hA
  refine Fb 8 0 fun _ => Fo 0 fun ho27 => ?_
  rcases r20 with _ | r20
  ·exact absurd (hM21.symm.trans rfl) hx24
  have H := hM21; (try dsimp only at H); rw [sc_insertionSortCmpFunc_int_L1] at H
  refine KS ?_
  refine JK_drawK [0, 0, 3, 7, 15, 15, 15, 111, 239, 15, 15, 1039, 3599, 7695, 16383, 32767, 65535] fmix ?_
  refine Dv [] Vm (Dv [] Vm (Dv [] Vgtr ?_))
  refine pT H hx24 fun h28 H => ?_
  have g29 := dt h28
  refine Db h28 [] Vm (Dv [] Vm (Dv [] Vm (Dv [] Vm ?_)))
  refine pC H hx24 fun hc30 H => ?_
  refine Dv [0] (Vi sl22 0) ?_
  have hb31 := ok1 (i := i_5.toNat) ho27 rng
  refine Dv [0] (VldI sh3 0) (Dv [] Vm (Dv [] Vm ?_))
  refine pC H hx24 fun hc32 H => ?_
  refine Dv [] Vsub ?_
  refine pC H hx24 fun hc33 H => ?_
  refine Dv [0] (Vi sl22 0) ?_
  have hb34 := ok1 (i := ((i_5 - 1) : Int).toNat) ho27 rng
  refine Dv [0] (VldI sh3 0) ?_
  refine lbH H hx24 fun rv35 hg36 H => ?_
  refine Dx [1] [] [1, 0] (fun G => vi rv35) [fun G => SP.fact (i64ok rv35)] (fun G => xE (asv := [(vi (data.getD i_5.toNat 0) : Value), (vi (data.getD ((i_5 - 1) : Int).toNat 0) : Value)] ++ cmpC) [0] hcmpc rfl rfl rfl (by simp) rfl (hcmpF (data.getD i_5.toNat 0) (data.getD ((i_5 - 1) : Int).toNat 0)  pre pre rv35 hg36)) (Dv [] Vlss (Dv [] Vpt ?_))
  refine Dn ⟨by kernel_rfl, fun G => ?_⟩
  refine Jw2 [(0, vl dataa0 datak0 data), (1, vi a), (2, vi b), (3, .func (.func cmpF) #[] cmpC.toArray), (8, vi i_5), (9, vi i_5), (34, vb (decide (rv35 < 0)))] [0, 1] [SP.fact (i64ok rv35)] ?_
  refine Jf 2 rfl ?_; rintro he37
  unfold i64ok at he37
  refine Jk [0, 0] ?_
  refine pF H hx24 fun h38 H => ?_
  refine KcF h38 ?_
  have g39 := df h38
  refine Ke ?_
  have H := llB H HL25
  refine KS ?_
  refine Oq Vm (Oq Vadd (Oq Va (KS ?_)))
  refine pC H hx13 fun hc40 H => ?_
  exact Kg (r19, (i_5 + 1)) [0, 0] ⟨H, aM1, aM1, aM1, aM1⟩
 intro h17
 have g41 := df h17
 obtain rfl : r4 = 0 := by omega
 have H := hM6; (try dsimp only at H); rw [sc_insertionSortCmpFunc_int_L0] at H
 refine Ke ?_
 have H := llB H HL14
 have hq := rI H; subst hq
 exact Kz () rfl .nil [0] trivial
theorem fn75 (data : List Int) (dataa0 : Option Addr) (datak0 : Nat) (a : Int) (b : Int) (limit : Int) (cmpF : FuncId) (cmpC : List Value) (cmpp : Int → Int → LR Unit Int) (cmpA : List SP) (ha_0 : i64ok a) (hb_0 : i64ok b) (hlimit_0 : i64ok limit) (hcmpc : callable Tryz.prog cmpF = true) (hcmpF : ∀ x0 x1, i64ok x0 → i64ok x1 → ∀ r, (cmpp x0 x1) = .ret r → FT Tryz.prog cmpF ([vi x0, vi x1] ++ cmpC).toArray ([] ++ [pAll cmpA]) (fun _ : Unit => i64ok r) (fun _ => vi r) (fun _ => [])) (rr : List Int) (hrr : sc_pdqsortCmpFunc_int data a b limit cmpp = .ret rr) : FT Tryz.prog 75 #[vl dataa0 datak0 data, vi a, vi b, vi limit, .func (.func cmpF) #[] cmpC.toArray] [O dataa0 datak0 data, pAll cmpA] (fun g : Unit => True) (fun g => .tuple #[]) (fun g => [os (vl dataa0 datak0 data) rr]) := by
 refine FTi Tryz.func75 fun w0 M0 F0 => ?_
 unfold i64ok at ha_0 hb_0 hlimit_0
 refine Fb 8 0 fun _ => Fo 0 fun ho2 => ?_
 have hx0 := lrn rr; have H := hrr; unfold sc_pdqsortCmpFunc_int at H
 refine KS ?_
 refine Oq Va (KS ?_)
 refine Oq Va (KS ?_)
 refine llH H hx0 fun X5 hX6 hx7 HL8 => ?_
 refine Kl (γ := Nat) (fun r3 => ⟨[(0, vl dataa0 datak0 data), (1, vi a), (2, vi b), (3, vi limit), (4, .func (.func cmpF) #[] cmpC.toArray), (10, vb true), (11, vb true)], [O dataa0 datak0 data, pAll cmpA], sc_pdqsortCmpFunc_int_L0 data a b cmpp r3 = X5, r3⟩) 1 [0, 0] hX6 ?_
 rintro r3 hM4
 refine JJ_nx fun _ _ hL hA => ?_; dsimp only at hL hA; subst hL hA
 refine Fb 8 0 fun _ => Fo 0 fun ho10 => ?_
 rcases r3 with _ | r3
 ·exact absurd (hM4.symm.trans rfl) hx7
 have H := hM4; (try dsimp only at H); rw [sc_pdqsortCmpFunc_int_L0] at H
 refine KS ?_
 refine Oq Vm (Oq Vm ?_)
 refine pC H hx7 fun hc11 H => ?_
 refine Oq Vsub (Oq Va (KS ?_))
 refine Oq Vm (Oq Vleq (KS ?_))
 refine pT H hx7 fun h12 H => ?_
 refine KcT h12 ?_
 have g13 := dt h12
 refine KS ?_
 refine Oq Vm (Oq Vm (Oq Vm (Oq Vm ?_)))
 refine lbH H hx7 fun rv14 hg15 H => ?_
 have hc16 := fn84 data dataa0 datak0 a b cmpF cmpC cmpp cmpA pre pre hcmpc hcmpF rv14 hg15
 refine Oc [0, 0] ca84 hc16 ?_
 rintro - -
 refine Fb 8 0 fun _ => Fo 0 fun ho18 => KS ?_
 refine Fl 0 fun hn19 => ?_
 have H := llR H HL8
 have hq := rI H; subst hq
 exact Kr () rfl .nil [0] trivial
theorem fn93 (x : BitVec 64) (rr : Int) (hrr : bits_Len64 x = .ret rr) : FT Tryz.prog 93 #[u64 x] [] (fun g : Unit => i64ok rr) (fun g => vi rr) (fun g => []) := by
 refine FTi Tryz.func93 fun w0 M0 F0 => ?_
 have hx0 := lrn rr; have H := hrr; unfold bits_Len64 at H
 refine KS ?_
 refine Oq Va (KS ?_)
 refine Oq Vm (Oq (Vgeq (a := (x.toNat : Int)) (b := 4294967296)) (KS ?_))
 refine pF H hx0 fun h1 H => ?_
 refine KcF h1 ?_
 have g2 := df h1
 refine KS ?_
 refine Oq Vm (Oq (Vgeq (a := (x.toNat : Int)) (b := 65536)) (KS ?_))
 refine pF H hx0 fun h3 H => ?_
 refine KcF h3 ?_
 have g4 := df h3
 refine KS ?_
 refine Oq Vm (Oq (Vgeq (a := (x.toNat : Int)) (b := 256)) (KS ?_))
 refine pF H hx0 fun h5 H => ?_
 refine KcF h5 ?_
 have g6 := df h5
 refine KS ?_
 refine Oq Vm (Oq Vm (Oq (VcU8 un98 un5) ?_))
 refine pC H hx0 fun hc7 H => ?_
 refine Oq (Vix un9 (l := tab0)) ?_
 have hb8 := u8b (tab0.b.getD ((x.toNat : Int) : Int).toNat 0)
 refine Oq (VcK un5 un3) ?_
 refine pC H hx0 fun hc9 H => ?_
 refine Oq Vadd (Oq Va (KS ?_))
 have hq := rI H; subst hq
 exact Kr () rfl (.tmp rfl .nil) [] en
theorem fn76 (x : BitVec 64) (rr : Int) (hrr : bits_Len x = .ret rr) : FT Tryz.prog 76 #[u64 x] [] (fun g : Unit => i64ok rr) (fun g => vi rr) (fun g => []) := by
 refine FTi Tryz.func76 fun w0 M0 F0 => ?_
 have hx0 := lrn rr; have H := hrr; unfold bits_Len at H
 refine KS ?_
 refine Oq Va (KS ?_)
 refine Kf (KS ?_)
 refine Oq Vm ?_
 refine lbH H hx0 fun rv1 hg2 H => ?_
 have hc3 := fn93 x rv1 hg2
 refine Oc [] ca93 hc3 ?_
 rintro - he4
 unfold i64ok at he4
 refine Oq Va (KS ?_)
 have hq := rI H; subst hq
 exact Kr () rfl (.tmp rfl .nil) [] en
theorem fn61 (x : List Int) (xa0 : Option Addr) (xk0 : Nat) (cmpF : FuncId) (cmpC : List Value) (cmpp : Int → Int → LR Unit Int) (cmpA : List SP) (hcmpc : callable Tryz.prog cmpF = true) (hcmpF : ∀ x0 x1, i64ok x0 → i64ok x1 → ∀ r, (cmpp x0 x1) = .ret r → FT Tryz.prog cmpF ([vi x0, vi x1] ++ cmpC).toArray ([] ++ [pAll cmpA]) (fun _ : Unit => i64ok r) (fun _ => vi r) (fun _ => [])) (rr : List Int) (hrr : sc_SortFunc_int x cmpp = .ret rr) : FT Tryz.prog 61 #[vl xa0 xk0 x, .func (.func cmpF) #[] cmpC.toArray] [O xa0 xk0 x, pAll cmpA] (fun g : Unit => True) (fun g => .tuple #[]) (fun g => [os (vl xa0 xk0 x) rr]) := by
 refine FTi Tryz.func61 fun w0 M0 F0 => Fb 8 0 fun _ => Fo 0 fun ho2 => ?_
 have hx0 := lrn rr; have H := hrr; unfold sc_SortFunc_int at H
 refine KS ?_
 refine Oq Vm (Oq (Vlen sl22) (Oq Va (KS ?_)))
 refine Oq Vm (Oq Vm (Oq Vm (Oq (VcU un3 un69) ?_)))
 refine lbH H hx0 fun rv3 hg4 H => ?_
 have hc5 := fn76 ((BitVec.ofInt 64 (x.length : Int))) rv3 hg4
 refine Oc [] ca76 hc5 ?_
 rintro - he6
 unfold i64ok at he6
 refine Oq Vm ?_
 refine lbH H hx0 fun rv7 hg8 H => ?_
 have hc9 := fn75 x xa0 xk0 0 ((x.length : Int)) rv3 cmpF cmpC cmpp cmpA pre pre pre hcmpc hcmpF rv7 hg8
 refine Oc [0, 0] ca75 hc9 ?_
 rintro - -
 refine Fb 8 0 fun _ => Fo 0 fun ho11 => KS ?_
 refine Fl 0 fun hn12 => ?_
 have hq := rI H; subst hq
 exact Kz () rfl .nil [0] trivial
theorem fn63 (vals : List Int) (valsa0 : Option Addr) (valsk0 : Nat) (rr : Int) (hrr : cmp_Or_int vals = .ret rr) : FT Tryz.prog 63 #[vl valsa0 valsk0 vals] [S valsa0 valsk0 vals] (fun g : Unit => i64ok rr) (fun g => vi rr) (fun g => []) := by
 refine FTi Tryz.func63 fun w0 M0 F0 => Fb 8 0 fun _ => Fo 0 fun ho2 => ?_
 have hx0 := lrn rr; have H := hrr; unfold cmp_Or_int at H
 refine KS ?_
 refine Oq Va (KS ?_)
 refine Oq Va (KS ?_)
 refine Oq Vm (Oq (Vlen sl22) (Oq Vm (KS ?_)))
 refine llH H hx0 fun X10 hX11 hx12 HL13 => ?_
 refine Kl (γ := Nat × Int) (fun (r3, v8_4) => ⟨[(3, vi 0), (6, vl valsa0 valsk0 vals), (7, vi (vals.length : Int)), (8, vi v8_4)], [S valsa0 valsk0 vals], cmp_Or_int_L0 vals r3 v8_4 = X10 ∧ r3 = ((vals.length : Int) - v8_4).toNat ∧ (0 : Int) ≤ v8_4 ∧ v8_4 ≤ (vals.length : Int) ∧ (-9223372036854775808 ≤ v8_4 ∧ v8_4 ≤ 9223372036854775807), r3⟩) (((vals.length : Int) - 0).toNat, 0) [0] ⟨hX11, rfl, aM1, aM1, aM1⟩ ?_
 rintro ⟨r3, v8_4⟩ ⟨hM5, hr6, hi7, hi8, hk9⟩
 refine JJ_nx fun _ _ hL hA => ?_; dsimp only at hL hA; subst hL hA
 refine Fb 8 0 fun _ => Fo 0 fun ho15 => KS ?_
 refine Oq Vlss (KS ?_)
 refine Kc ?_ ?_
 ·intro h16
  have g17 := dt h16
  obtain ⟨r18, rfl⟩ := scc (n := r3) aM1
  have H := hM5; (try dsimp only at H); rw [cmp_Or_int_L0] at H
  refine KS ?_
  refine pC H hx12 fun hc19 H => ?_
  refine Oq (Vi sl22 0) ?_
  have hb20 := ok1 (i := v8_4.toNat) ho15 rng
  refine Oq (VldI sh3 0) (Oq Va (KS ?_))
  refine Oq Vm (Oq Vm (Oq Vneq (KS ?_)))
  refine KcH H ?_ ?_
  ·intro h21 H
   have g22 := ne_of_bne h21
   refine KS ?_
   refine Oq Vm (Oq Va (KS ?_))
   have H := llR H HL13
   have hq := rI H; subst hq
   exact Kr () rfl (.tmp rfl .nil) [] en
  intro h21 H
  have g23 := eq_of_bne_false h21
  refine KS ?_
  refine Oq Vadd (Oq Vm (KS ?_))
  refine pC H hx12 fun hc24 H => ?_
  exact Kg (r18, (v8_4 + 1)) [0] ⟨H, aM1, aM1, aM1, aM1⟩
 intro h16
 have g25 := df h16
 obtain rfl : r3 = 0 := by omega
 have H := hM5; (try dsimp only at H); rw [cmp_Or_int_L0] at H
 exact absurd H.symm hx12
theorem fn77 (x : Int) (hx_0 : i64ok x) (rr : Bool) (hrr : cmp_isNaN_int x = .ret rr) : FT Tryz.prog 77 #[vi x] [] (fun g : Unit => True) (fun g => vb rr) (fun g => []) := by
 refine FTi Tryz.func77 fun w0 M0 F0 => ?_
 unfold i64ok at hx_0
 have hx0 := lrn rr; have H := hrr; unfold cmp_isNaN_int at H
 refine KS ?_
 refine Oq Va (KS ?_)
 refine Oq Vm (Oq Vm (Oq Vneq (Oq Va (KS ?_))))
 have hq := rI H; subst hq
 exact Kr () rfl (.tmp rfl .nil) [] trivial
theorem fn64 (x : Int) (y : Int) (hx_0 : i64ok x) (hy_0 : i64ok y) (rr : Int) (hrr : cmp_Compare_int x y = .ret rr) : FT Tryz.prog 64 #[vi x, vi y] [] (fun g : Unit => i64ok rr) (fun g => vi rr) (fun g => []) := by
 refine FTi Tryz.func64 fun w0 M0 F0 => ?_
 unfold i64ok at hx_0 hy_0
 have hx0 := lrn rr; have H := hrr; unfold cmp_Compare_int at H
 refine KS ?_
 refine Oq Va (KS ?_)
 refine Oq Vm ?_
 refine lbH H hx0 fun rv1 hg2 H => ?_
 have hc3 := fn77 x pre rv1 hg2
 refine Oc [] ca77 hc3 ?_
 rintro - -
 refine Oq Va (KS ?_)
 refine Oq Vm ?_
 refine lbH H hx0 fun rv4 hg5 H => ?_
 have hc6 := fn77 y pre rv4 hg5
 refine Oc [] ca77 hc6 ?_
 rintro - -
 refine Oq Va (KS ?_)
 refine Oq Vm (KS ?_)
 refine pF H hx0 fun h7 H => ?_
 refine KcF h7 ?_
 refine KS ?_
 refine Oq Vm (KS ?_)
 refine pF H hx0 fun h9 H => ?_
 refine KcF h9 ?_
 refine KS ?_
 refine Oq Vm (Oq Vm (Oq Vlss (KS ?_)))
 refine pF H hx0 fun h11 H => ?_
 refine KcF h11 ?_
 have g12 := df h11
 refine KS ?_
 refine Oq Vm (Oq Vm (Oq Vgtr (KS ?_)))
 refine KcH H ?_ ?_
 ·intro h13 H
  have g14 := dt h13
  refine KS ?_
  refine Oq Va (KS ?_)
  have hq := rI H; subst hq
  exact Kr () rfl (.tmp rfl .nil) [] en
 intro h13 H
 have g15 := df h13
 refine KS ?_
 refine Oq Va (KS ?_)
 have hq := rI H; subst hq
 exact Kr () rfl (.tmp rfl .nil) [] en
theorem fn62 (a : Int) (b : Int) (cap0P : Value) (cap0 : List Int) (cap0a0 : Option Addr) (cap0k0 : Nat) (ha_0 : i64ok a) (hb_0 : i64ok b) (rr : Int) (hrr : layout_rows_1 a b cap0 = .ret rr) : FT Tryz.prog 62 #[vi a, vi b, cap0P] [pv cap0P [vl cap0a0 cap0k0 cap0], S cap0a0 cap0k0 cap0] (fun g : Unit => i64ok rr) (fun g => vi rr) (fun g => []) := by
 refine FTi Tryz.func62 fun w0 M0 F0 => ?_
 unfold i64ok at ha_0 hb_0
 refine Fb 8 1 fun _ => Fo 1 fun ho2 => ?_
 have hx0 := lrn rr; have H := hrr; unfold layout_rows_1 at H
 refine KS ?_
 refine Oq Va (KS ?_)
 refine JK_drawK [0, 0, 3, 7, 0, 0, 48, 112, 255, 0, 0, 2047, 4095, 8191, 16383] fmix ?_
 refine Dv [0] (Vld sh22 0) (Dv [] Vm ?_)
 refine pC H hx0 fun hc3 H => ?_
 refine Dv [1] (Vi sl22 0) ?_
 have hb4 := ok1 (i := a.toNat) ho2 rng
 refine Dv [1] (VldI sh3 0) (Dv [0] (Vld sh22 0) (Dv [] Vm ?_))
 refine pC H hx0 fun hc5 H => ?_
 refine Dv [1] (Vi sl22 0) ?_
 have hb6 := ok1 (i := b.toNat) ho2 rng
 refine Dv [1] (VldI sh3 0) ?_
 refine lbH H hx0 fun rv7 hg8 H => ?_
 refine Dx [] [] [0] (fun G => vi rv7) [fun G => SP.fact (i64ok rv7)] (fun G => xC [] ca64 (fn64 ((cap0.getD a.toNat 0)) ((cap0.getD b.toNat 0)) pre pre rv7 hg8)) (Dv [] Vm (Dv [] Vm ?_))
 refine lbH H hx0 fun rv9 hg10 H => ?_
 refine Dx [] [] [0] (fun G => vi rv9) [fun G => SP.fact (i64ok rv9)] (fun G => xC [] ca64 (fn64 a b pre pre rv9 hg10)) (Dx [] [] [0] (fun G => (G.g 12 0)) [fun G => Cr (G.g 12 0) 2 [vi rv7, vi rv9]] (fun G => xA (AsV sl22 sz22 [vi rv7, vi rv9] [vi rv7, vi rv9])) ?_)
 refine lbH H hx0 fun rv15 hg16 H => ?_
 refine Dx [2, 3, 4] [4] [2, 3, 1, 0] (fun G => vi rv15) [fun G => sl (G.g 12 0) ([rv7, rv9] : List Int), fun G => SP.fact (i64ok rv15)] (fun G => by refine xf 0 rfl ?_; rintro he17; unfold i64ok at he17; refine xf 1 rfl ?_; rintro he18; unfold i64ok at he18; exact xp [2] rfl (Ent.crInt _ [rv7, rv9] _ _ rfl rfl (by intro x hx; simp only [List.mem_cons, List.not_mem_nil, or_false] at hx; rcases hx with rfl | rfl <;> (unfold i64ok; omega)) aB1) (xp [0] rfl (Ent.freeze _ _) (xD [0] ca63 rfl rfl rfl (FT_open (γ := Unit) (I := fun g => i64ok rv15) (V := fun g => vi rv15) (B := fun g => []) (R := sl (G.g 12 0) ([rv7, rv9] : List Int)) sl_slice (fun aq12 kq13 eq14 => by rw [eq14]; exact FT_ent (Ent.take (is := [0]) rfl) (fn63 ([rv7, rv9]) aq12 kq13 rv15 hg16)))))) (Dv [] Va ?_)
 refine Dn ⟨by kernel_rfl, fun G => ?_⟩
 refine Jw2 [(5, vi rv15)] [0, 1] [SP.fact (i64ok rv7), SP.fact (i64ok rv9), sl (G.g 12 0) ([rv7, rv9] : List Int), SP.fact (i64ok rv15)] ?_
 generalize G.g 12 0 = c11
 refine Jf 2 rfl ?_; rintro he19
 unfold i64ok at he19
 refine Jf 3 rfl ?_; rintro he20
 unfold i64ok at he20
 refine Jf 5 rfl ?_; rintro he21
 unfold i64ok at he21
 refine Jk [0, 1, 4] ?_
 refine Jo 2 ?_; rintro a22 k23 rfl
 refine Fb 8 2 fun _ => Fo 2 fun ho25 => ?_
 have hq := rI H; subst hq
 exact Kr () rfl (.tmp rfl .nil) [] en
theorem fn44 (g : GGraph) (ga0 : Option Addr) (gk0 : Nat) (ga1 : Option Addr) (gk1 : Nat) (ga2 : Option Addr) (gk2 : Nat) (root : Int) (hroot_0 : i64ok root) (rr : List (List Int)) (hrr : layout_rows g root = .ret rr) : FT Tryz.prog 44 #[.agg #[vl ga0 gk0 g.Nodes, vl ga1 gk1 g.Succ, vl ga2 gk2 g.Pred], vi root] [S ga0 gk0 g.Nodes, S ga1 gk1 g.Succ, S ga2 gk2 g.Pred] (fun g : Value => True) (fun g => g) (fun g => [sl g rr]) := by
 refine FTi Tryz.func44 fun w0 M0 F0 => ?_
 unfold i64ok at hroot_0
 refine Fb 32 0 fun _ => Fb 24 1 fun _ => Fb 24 2 fun _ => ?_
 have hx0 := lrn rr; have H := hrr; unfold layout_rows at H
 refine KS ?_
 refine Oa (Ab [vl ga0 gk0 g.Nodes, vl ga1 gk1 g.Succ, vl ga2 gk2 g.Pred]) fun p4 => Oq Va (KS ?_)
 refine Oq (Vfa fo28_0 0) (Oq (VldF sh25 0) (Oq (Vlen sl25) ?_))
 refine pC H hx0 fun hc5 H => ?_
 refine Oa (Amk (α := Int) sl22 sz22 (0 : Int) (fun _ _ => ⟨rfl, by unfold i64ok; decide⟩)) fun c6 => ?_
 refine Jo 0 ?_; rintro a7 k8 rfl
 refine Fb 8 0 fun _ => Fo 0 fun ho10 => ?_
 have hn11 := List.length_replicate (n := (g.Nodes.length : Int).toNat) (a := ((0 : Int) : Int))
 refine Oa (Al ze22 [.slice none 0 0]) fun p12 => Ost (Scl [0] sh22 [vl a7 k8 (List.replicate (g.Nodes.length : Int).toNat (0 : Int))]) (KS ?_)
 refine Oq (Vfa fo28_0 2) (Oq (VldF sh25 2) (Oq (Vlen sl25) ?_))
 refine pC H hx0 fun hc13 H => ?_
 refine Oa (Amk (α := Bool) sl105 sz105 false (fun _ _ => rfl)) fun c14 => ?_
 refine Jo 0 ?_; rintro a15 k16 rfl
 refine Fb 1 0 fun _ => ?_
 have hn18 := List.length_replicate (n := (g.Nodes.length : Int).toNat) (a := (false : Bool))
 refine Oq Va (KS ?_)
 refine Oq Vm (Oq Vm ?_)
 refine pC H hx0 fun hc19 H => ?_
 refine Oq (Vi sl105 0) (Ost (SoB [0] sh4) (KS ?_))
 refine Oq Va (KS ?_)
 refine Oq Vm (Oa (AsV sl22 sz22 [vi root] [vi root]) fun c20 => ?_)
 refine Jo 0 ?_; rintro a21 k22 rfl
 refine Oq Va (KS ?_)
 refine Jl [0] (Ent.crInt _ [root] _ _ rfl rfl (by intro x hx; rw [List.mem_singleton] at hx; subst hx; unfold i64ok; omega) aB1) ?_
 refine Fb 8 0 fun _ => Fo 0 fun ho24 => ?_
 refine Jl [2] (Ent.freezeCl _ _) ?_
 refine Jl [] (Ent.osNil (α := (List Int))) ?_
 refine llH H hx0 fun X37 hX38 hx39 HL40 => ?_
 refine Kl (γ := Nat × List Int × List Bool × List (List Int) × List Int × Option Addr × Nat × Option Addr × Nat × Option Addr × Nat) (fun (r25, place0_26, seen_27, l_28, row_29, a30, k31, a32, k33, a34, k35) => ⟨[(2, p4), (5, p12), (6, vl a15 k16 (List.replicate (g.Nodes.length : Int).toNat false)), (7, vl a32 k33 l_28), (8, vl a34 k35 row_29)], [O a34 k35 row_29, O a32 k33 l_28, O a30 k31 place0_26, pv p12 [vl a30 k31 place0_26], os (vl a15 k16 (List.replicate (g.Nodes.length : Int).toNat false)) seen_27, pv p4 [vl ga0 gk0 g.Nodes, vl ga1 gk1 g.Succ, vl ga2 gk2 g.Pred], S ga0 gk0 g.Nodes, S ga1 gk1 g.Succ, S ga2 gk2 g.Pred], layout_rows_L0 g r25 place0_26 seen_27 l_28 row_29 = X37, r25⟩) (100000, (List.replicate (g.Nodes.length : Int).toNat (0 : Int)), ((List.replicate (g.Nodes.length : Int).toNat false).set root.toNat true), [], [root], a7, k8, none, 0, a21, k22) [2, 0, 2, 0, 1, 1, 2, 3, 4] hX38 ?_
 rintro ⟨r25, place0_26, seen_27, l_28, row_29, a30, k31, a32, k33, a34, k35⟩ hM36
 refine JJ_nx fun _ _ hL hA => ?_; dsimp only at hL hA; subst hL hA
 refine Fb 8 0 fun _ => Fo 0 fun ho42 => Fb 24 1 fun _ => Fb 8 2 fun _ => Fo 2 fun ho45 => Fb 1 4 fun _ => Fl 4 fun hn47 => ?_
 refine Fb 32 6 fun _ => Fb 24 7 fun _ => Fb 24 8 fun _ => ?_
 rcases r25 with _ | r25
 ·exact absurd (hM36.symm.trans rfl) hx39
 have H := hM36; (try dsimp only at H); rw [layout_rows_L0] at H
 refine KS ?_
 refine Oq Vm (Oq (Vlen sl22) (Oq Vgtr (KS ?_)))
 refine KcH H ?_ ?_
 ·intro h51 H
  have g52 := dt h51
  refine KS ?_
  refine Oq Vm (Oq Vm (Oa (AsV sl26 sz26 [vl a34 k35 row_29] [vl a34 k35 row_29]) fun c53 => ?_))
  refine Jo 0 ?_; rintro a54 k55 rfl
  refine Jl [1] (Ent.freeze _ _) ?_
  refine Jl [1, 0] (Ent.cr1 (α := List Int) (A := [S a34 k35 row_29]) _ row_29 _ aB1 (fun h => ⟨_, rfl, sepAll_get (i := 0) rfl h⟩)) ?_
  refine pC H hx39 fun hc56 H => ?_
  refine Oa (ApO [3, 0] sl26 sl26 sz26) fun c57 => ?_
  refine Jo 0 ?_; rintro a58 k59 rfl
  refine Fb 24 0 fun _ => ?_
  have hn61 := la l_28 ([row_29] : List (List Int))
  refine Oq Va (KS ?_)
  refine Oq Va (KS ?_)
  refine Oq Vm (Oq (Vlen sl22) (Oq Vm (KS ?_)))
  refine Jl [] (Ent.osNil (α := Int)) ?_
  refine llH H hx39 fun X74 hX75 hx76 HL77 => ?_
  refine Kl (γ := Nat × List Int × List Bool × List Int × Int × Option Addr × Nat) (fun (r62, place0_63, seen_64, next_65, v36_66, a67, k68) => ⟨[(2, p4), (5, p12), (6, vl a15 k16 (List.replicate (g.Nodes.length : Int).toNat false)), (7, vl a58 k59 (l_28 ++ [row_29])), (9, vl a67 k68 next_65), (34, vl a34 k35 row_29), (35, vi (row_29.length : Int)), (36, vi v36_66)], [O a67 k68 next_65, O a58 k59 ((l_28 ++ [row_29]) : List (List Int)), S a34 k35 row_29, os (vl a30 k31 place0_26) place0_63, pv p12 [vl a30 k31 place0_26], os (vl a15 k16 (List.replicate (g.Nodes.length : Int).toNat false)) seen_64, pv p4 [vl ga0 gk0 g.Nodes, vl ga1 gk1 g.Succ, vl ga2 gk2 g.Pred], S ga0 gk0 g.Nodes, S ga1 gk1 g.Succ, S ga2 gk2 g.Pred], layout_rows_L1 g row_29 r62 place0_63 seen_64 next_65 v36_66 = X74 ∧ r62 = ((row_29.length : Int) - v36_66).toNat ∧ (0 : Int) ≤ v36_66 ∧ v36_66 ≤ (row_29.length : Int) ∧ (-9223372036854775808 ≤ v36_66 ∧ v36_66 ≤ 9223372036854775807), r62⟩) (((row_29.length : Int) - 0).toNat, place0_26, seen_27, [], 0, none, 0) [0, 0, 0, 2, 2, 3, 3, 4, 5, 6] ⟨hX75, rfl, aM1, aM1, aM1⟩ ?_
  rintro ⟨r62, place0_63, seen_64, next_65, v36_66, a67, k68⟩ ⟨hM69, hr70, hi71, hi72, hk73⟩
  refine JJ_nx fun _ _ hL hA => ?_; dsimp only at hL hA; subst hL hA
  refine Fb 8 0 fun _ => Fo 0 fun ho79 => Fb 24 1 fun _ => Fb 8 2 fun _ => Fo 2 fun ho82 => Fb 8 3 fun _ => Fo 3 fun ho84 => Fl 3 fun hn85 => ?_
  refine Fb 1 5 fun _ => Fl 5 fun hn87 => ?_
  refine Fb 32 7 fun _ => Fb 24 8 fun _ => Fb 24 9 fun _ => KS ?_
  refine Oq Vlss (KS ?_)
  refine Kc ?_ ?_
  ·intro h91
   have g92 := dt h91
   obtain ⟨r93, rfl⟩ := scc (n := r62) aM1
   have H := hM69; (try dsimp only at H); rw [layout_rows_L1] at H
   refine KS ?_
   refine Oq Vm ?_
   refine pC H hx76 fun hc94 H => ?_
   refine Oq (Vi sl22 2) ?_
   have hb95 := ok1 (i := v36_66.toNat) ho82 rng
   refine Oq (VldI sh3 2) (Oq Va (Oq Va (KS ?_)))
   refine Oq (Vfa fo28_1 6) (Oq (VldF sh26 6) (Oq Vm ?_))
   refine pC H hx76 fun hc96 H => ?_
   refine Oq (Vi sl26 8) ?_
   refine JJ_peekL ((row_29.getD v36_66.toNat 0) : Int).toNat 8 rfl rng fun a97 k98 => ?_
   refine Fb 8 1 fun _ => Fo 1 fun ho100 => ?_
   refine Oq (Vld sh22 0) (Oq (Vlen sl22) (Oq Vm (KS ?_)))
   refine pC H hx76 fun hc113 H => ?_
   refine llH H hx76 fun X114 hX115 hx116 HL117 => ?_
   refine Kl (γ := Nat × List Int × List Bool × List Int × Int × Option Addr × Nat) (fun (r101, place0_102, seen_103, next_104, v47_105, a106, k107) => ⟨[(2, p4), (5, p12), (6, vl a15 k16 (List.replicate (g.Nodes.length : Int).toNat false)), (7, vl a58 k59 (l_28 ++ [row_29])), (9, vl a106 k107 next_104), (34, vl a34 k35 row_29), (35, vi (row_29.length : Int)), (36, vi v36_66), (10, vi v36_66), (45, vl a97 k98 (g.Succ.getD ((row_29.getD v36_66.toNat 0) : Int).toNat [])), (46, vi ((g.Succ.getD ((row_29.getD v36_66.toNat 0) : Int).toNat []).length : Int)), (47, vi v47_105)], [O a106 k107 next_104, S a97 k98 ((g.Succ.getD ((row_29.getD v36_66.toNat 0) : Int).toNat []) : List Int), O a58 k59 ((l_28 ++ [row_29]) : List (List Int)), S a34 k35 row_29, os (vl a30 k31 place0_26) place0_102, pv p12 [vl a30 k31 place0_26], os (vl a15 k16 (List.replicate (g.Nodes.length : Int).toNat false)) seen_103, pv p4 [vl ga0 gk0 g.Nodes, vl ga1 gk1 g.Succ, vl ga2 gk2 g.Pred], S ga0 gk0 g.Nodes, S ga1 gk1 g.Succ, S ga2 gk2 g.Pred], layout_rows_L2 v36_66 (g.Succ.getD ((row_29.getD v36_66.toNat 0) : Int).toNat []) r101 place0_102 seen_103 next_104 v47_105 = X114 ∧ r101 = ((((g.Succ.getD ((row_29.getD v36_66.toNat 0) : Int).toNat []).length : Int) : Int) - v47_105).toNat ∧ (0 : Int) ≤ v47_105 ∧ (v47_105 ≤ ((g.Succ.getD ((row_29.getD v36_66.toNat 0) : Int).toNat []).length : Int) ∨ v47_105 = 0) ∧ (-9223372036854775808 ≤ v47_105 ∧ v47_105 ≤ 9223372036854775807), r101⟩) (((((g.Succ.getD ((row_29.getD v36_66.toNat 0) : Int).toNat []).length : Int) : Int) - 0).toNat, place0_63, seen_64, next_65, 0, a67, k68) [2, 1, 2, 2, 3, 3, 4, 4, 5, 6, 7] ⟨hX115, rfl, aM1, (.inr rfl), aM1⟩ ?_
   rintro ⟨r101, place0_102, seen_103, next_104, v47_105, a106, k107⟩ ⟨hM108, hr109, hi110, hi111, hk112⟩
   refine JJ_nx fun _ _ hL hA => ?_; dsimp only at hL hA; subst hL hA
   refine Fb 8 0 fun _ => Fo 0 fun ho119 => Fb 8 1 fun _ => Fo 1 fun ho121 => Fb 24 2 fun _ => Fb 8 3 fun _ => Fo 3 fun ho124 => Fb 8 4 fun _ => ?_
   refine Fo 4 fun ho126 => ?_
   refine Fl 4 fun hn127 => Fb 1 6 fun _ => ?_
   refine Fl 6 fun hn129 => Fb 32 8 fun _ => Fb 24 9 fun _ => Fb 24 10 fun _ => ?_
   refine KS ?_
   refine Oq Vlss (KS ?_)
   refine Kc ?_ ?_
   ·intro h133
    have g134 := dt h133
    obtain ⟨r135, rfl⟩ := scc (n := r101) aM1
    have H := hM108; (try dsimp only at H); rw [layout_rows_L2] at H
    refine KS ?_
    refine pC H hx116 fun hc136 H => ?_
    refine Oq (Vi sl22 1) ?_
    have hb137 := ok1 (i := v47_105.toNat) ho121 rng
    refine Oq (VldI sh3 1) (Oq Va (KS ?_))
    refine Oq Vm (Oq Vm ?_)
    refine pC H hx116 fun hc138 H => ?_
    refine Oq (Vi sl105 6) (Oq (VldB sh4 6) (Oq Vnot (KS ?_)))
    refine KcH H ?_ ?_
    ·intro h139 H
     have h141 := not_true h139
     refine KS ?_
     refine Oq Vm (Oq Vm (Oq (Vi sl105 6) (Ost (SoB [6] sh4) (KS ?_))))
     refine Oq (Vld sh22 6) (Oq Vm (Oq Vm ?_))
     refine pC H hx116 fun hc143 H => ?_
     refine pC H hx116 fun hc144 H => ?_
     refine Oq (Vi sl22 5) (Ost (SoI [5] sh3) (KS ?_))
     refine Oq Vm (Oq Vm (Oa (AsV sl22 sz22 [vi ((g.Succ.getD ((row_29.getD v36_66.toNat 0) : Int).toNat []).getD v47_105.toNat 0)] [vi ((g.Succ.getD ((row_29.getD v36_66.toNat 0) : Int).toNat []).getD v47_105.toNat 0)]) fun c145 => ?_))
     refine Jo 0 ?_; rintro a146 k147 rfl
     refine Jl [0] (Ent.crInt _ [((g.Succ.getD ((row_29.getD v36_66.toNat 0) : Int).toNat []).getD v47_105.toNat 0)] _ _ rfl rfl (by intro x hx; rw [List.mem_singleton] at hx; subst hx; unfold i64ok; omega) aB1) ?_
     refine pC H hx116 fun hc148 H => ?_
     refine Oa (ApO [3, 0] sl22 sl22 sz22) fun c149 => ?_
     refine Jo 0 ?_; rintro a150 k151 rfl
     refine Fb 8 0 fun _ => Fo 0 fun ho153 => ?_
     have hn154 := la next_104 ([((g.Succ.getD ((row_29.getD v36_66.toNat 0) : Int).toNat []).getD v47_105.toNat 0)] : List Int)
     refine Oq Va (KS ?_)
     refine Oq Vadd (Oq Vm (KS ?_))
     refine pC H hx116 fun hc155 H => ?_
     exact Kg (r135, (place0_102.set (((g.Succ.getD ((row_29.getD v36_66.toNat 0) : Int).toNat []).getD v47_105.toNat 0) : Int).toNat v36_66), (seen_103.set (((g.Succ.getD ((row_29.getD v36_66.toNat 0) : Int).toNat []).getD v47_105.toNat 0) : Int).toNat true), (next_104 ++ [((g.Succ.getD ((row_29.getD v36_66.toNat 0) : Int).toNat []).getD v47_105.toNat 0)]), (v47_105 + 1), a150, k151) [0, 2, 3, 3, 0, 3, 0, 3, 4, 5, 6] ⟨H, aM1, aM1, aM1, aM1⟩
    intro h139 H
    have h157 := not_false h139
    refine KS ?_
    refine Oq Vadd (Oq Vm (KS ?_))
    refine pC H hx116 fun hc159 H => ?_
    exact Kg (r135, place0_102, seen_103, next_104, (v47_105 + 1), a106, k107) [0, 0, 1, 1, 2, 2, 3, 3, 4, 5, 6] ⟨H, aM1, aM1, aM1, aM1⟩
   intro h133
   have g160 := df h133
   obtain rfl : r101 = 0 := by omega
   have H := hM108; (try dsimp only at H); rw [layout_rows_L2] at H
   refine Ke ?_
   have H := llB H HL117
   dsimp only at H
   refine KS ?_
   refine Oq Vadd (Oq Vm (KS ?_))
   refine pC H hx76 fun hc161 H => ?_
   exact Kg (r93, place0_102, seen_103, next_104, (v36_66 + 1), a106, k107) [0, 1, 1, 2, 2, 3, 3, 4, 5, 6] ⟨H, aM1, aM1, aM1, aM1⟩
  intro h91
  have g162 := df h91
  obtain rfl : r62 = 0 := by omega
  have H := hM69; (try dsimp only at H); rw [layout_rows_L1] at H
  refine Ke ?_
  have H := llB H HL77
  dsimp only at H
  refine KS ?_
  refine Oq Vm (Oq (Vf [p12]) ?_)
  refine Fl 3 fun hn163 => ?_; (try unfold vl); rw [← hn163]
  refine lbH H hx39 fun rv164 hg165 H => ?_
  refine Oc [3, 0, 2] ca61 (FT_borrow (A := _) hlx (FT_ent (Ent.take (is := [1, 1, 0]) rfl) (FT_ent (Ent.trans (Ent.pall (A := [O a67 k68 next_65, pv p12 [vl a30 k31 place0_63], S a30 k31 place0_63]) (Ac := [pv p12 [vl a30 k31 place0_63], S a30 k31 place0_63]) [1, 2] rfl rfl) (Ent.take (is := [1, 0]) rfl)) (fn61 next_65 a67 k68 62 [p12] (fun x0 x1 => layout_rows_1 x0 x1 place0_63) [pv p12 [vl a30 k31 place0_63], S a30 k31 place0_63] ca62 (fun x0 x1 hq0 hq1 r hr => FT_pall (A1 := []) (fn62 x0 x1 p12 place0_63 a30 k31 hq0 hq1 r hr)) rv164 hg165)))) ?_ (ht := rfl)
  rintro - -
  refine Fb 8 1 fun _ => Fo 1 fun ho167 => KS ?_
  refine Oq Vm (Oq Va (KS ?_))
  refine Fl 1 fun hn168 => ?_; (try unfold vl); rw [← hn168]
  exact Kg (r25, place0_63, seen_64, (l_28 ++ [row_29]), rv164, a30, k31, a58, k59, a67, k68) [1, 1, 0, 1, 2, 2, 3, 4, 5] H
 intro h51 H
 have g169 := df h51
 refine Ke ?_
 have H := llB H HL40
 refine KS ?_
 refine Oq Vm (Oq Va (KS ?_))
 refine Jl [1] (Ent.freeze _ _) ?_
 have hq := rI H; subst hq
 exact Kr (vl a32 k33 l_28) rfl (.tmp rfl .nil) [0] trivial
theorem fn24 (g : GGraph) (ga0 : Option Addr) (gk0 : Nat) (ga1 : Option Addr) (gk1 : Nat) (ga2 : Option Addr) (gk2 : Nat) (root : Int) (hroot_0 : i64ok root) (rr : List Cpx × Int) (hrr : layout_Place g root = .ret rr) : FT Tryz.prog 24 #[.agg #[vl ga0 gk0 g.Nodes, vl ga1 gk1 g.Succ, vl ga2 gk2 g.Pred], vi root] [S ga0 gk0 g.Nodes, S ga1 gk1 g.Succ, S ga2 gk2 g.Pred] (fun g : Value => i64ok rr.2) (fun g => .tuple #[g, vi rr.2]) (fun g => [sl g rr.1]) := by
 refine FTi Tryz.func24 fun w0 M0 F0 => ?_
 unfold i64ok at hroot_0
 refine Fb 32 0 fun _ => Fb 24 1 fun _ => Fb 24 2 fun _ => ?_
 have hx0 := lrn rr; have H := hrr; unfold layout_Place at H
 refine KS ?_
 refine Oa (Ab [vl ga0 gk0 g.Nodes, vl ga1 gk1 g.Succ, vl ga2 gk2 g.Pred]) fun p4 => Oq Va (Oq Va (KS ?_))
 refine Oq (VldA sh28 0) (Oq Vm ?_)
 refine lbH H hx0 fun rv5 hg6 H => ?_
 have hc7 := fn42 g ga0 gk0 ga1 gk1 ga2 gk2 root pre rv5 hg6
 refine Oc [1, 2, 3] ca42 hc7 ?_
 rintro - he8
 unfold i64ok at he8
 refine Oq Va (KS ?_)
 refine Oq Vm (Oq Vneq (KS ?_))
 refine pF H hx0 fun h9 H => ?_
 refine KcF h9 ?_
 have g10 := eq_of_bne_false h9
 refine KS ?_
 refine Oa (AsV sl49 sz49 [cxv (Cpx.mk 13830554455654793216#64 0#64)] [cxv (Cpx.mk 13830554455654793216#64 0#64)]) fun c11 => ?_
 refine Jo 0 ?_; rintro a12 k13 rfl
 refine Oq (Vfa fo28_0 1) (Oq (VldF sh25 1) (Oq (Vlen sl25) ?_))
 refine Jl [0] (Ent.cr1 (α := Cpx) (A := []) _ (Cpx.mk 13830554455654793216#64 0#64) _ aB1 (fun _ => rfl)) ?_
 refine Jl [0] (Ent.freeze _ _) ?_
 refine lbH H hx0 fun rv15 hg16 H => ?_
 have hc17 := fn43 ([(Cpx.mk 13830554455654793216#64 0#64)]) a12 k13 ((g.Nodes.length : Int)) pre rv15 hg16
 refine Oc [0] ca43 hc17 ?_
 rintro c14 -
 refine Jo 0 ?_; rintro a18 k19 rfl
 refine Fb 16 0 fun _ => ?_
 refine Oq Va (KS ?_)
 refine Oq Va (KS ?_)
 refine Oq (VldA sh28 2) (Oq Vm ?_)
 refine lbH H hx0 fun rv22 hg23 H => ?_
 have hc24 := fn44 g ga0 gk0 ga1 gk1 ga2 gk2 root pre rv22 hg23
 refine Oc [3, 4, 5] ca44 hc24 ?_
 rintro c21 -
 refine Jo 0 ?_; rintro a25 k26 rfl
 refine Fb 24 0 fun _ => ?_
 refine Oq (Vlen sl26) (Oq Vm (KS ?_))
 refine llH H hx0 fun X39 hX40 hx41 HL42 => ?_
 refine Kl (γ := Nat × List Cpx × Cpx × Int × Option Addr × Nat) (fun (r28, at__29, start_30, v29_31, a32, k33) => ⟨[(7, vl a32 k33 at__29), (8, cxv start_30), (27, vl a25 k26 rv22), (28, vi (rv22.length : Int)), (29, vi v29_31)], [O a32 k33 at__29, S a25 k26 rv22], layout_Place_L0 rv22 r28 at__29 start_30 v29_31 = X39 ∧ r28 = ((rv22.length : Int) - v29_31).toNat ∧ (0 : Int) ≤ v29_31 ∧ v29_31 ≤ (rv22.length : Int) ∧ (-9223372036854775808 ≤ v29_31 ∧ v29_31 ≤ 9223372036854775807), r28⟩) (((rv22.length : Int) - 0).toNat, rv15, (Cpx.mk 0#64 0#64), 0, a18, k19) [1, 0] ⟨hX40, rfl, aM1, aM1, aM1⟩ ?_
 rintro ⟨r28, at__29, start_30, v29_31, a32, k33⟩ ⟨hM34, hr35, hi36, hi37, hk38⟩
 refine JJ_nx fun _ _ hL hA => ?_; dsimp only at hL hA; subst hL hA
 refine Fb 16 0 fun _ => Fb 24 1 fun _ => KS ?_
 refine Oq Vlss (KS ?_)
 refine Kc ?_ ?_
 ·intro h45
  have g46 := dt h45
  obtain ⟨r47, rfl⟩ := scc (n := r28) aM1
  have H := hM34; (try dsimp only at H); rw [layout_Place_L0] at H
  refine KS ?_
  refine pC H hx41 fun hc48 H => ?_
  refine Oq (Vi sl26 1) ?_
  refine JJ_peekL v29_31.toNat 1 rfl rng fun a49 k50 => ?_
  refine Fb 8 1 fun _ => Fo 1 fun ho52 => ?_
  refine Oq (Vld sh22 0) (Oq Va (KS ?_))
  refine Oq Vm (Oq Va (KS ?_))
  refine Oq Vm (Oq (Vlen sl22) (Oq Vm (KS ?_)))
  refine pC H hx41 fun hc62 H => ?_
  refine llH H hx41 fun X63 hX64 hx65 HL66 => ?_
  refine Kl (γ := Nat × List Cpx × Cpx × Int) (fun (r53, at__54, p_55, v36_56) => ⟨[(7, vl a32 k33 at__29), (8, cxv start_30), (27, vl a25 k26 rv22), (28, vi (rv22.length : Int)), (29, vi v29_31), (11, cxv p_55), (34, vl a49 k50 (rv22.getD v29_31.toNat [])), (35, vi ((rv22.getD v29_31.toNat []).length : Int)), (36, vi v36_56)], [S a49 k50 ((rv22.getD v29_31.toNat []) : List Int), os (vl a32 k33 at__29) at__54, S a25 k26 rv22], layout_Place_L1 (rv22.getD v29_31.toNat []) r53 at__54 p_55 v36_56 = X63 ∧ r53 = ((((rv22.getD v29_31.toNat []).length : Int) : Int) - v36_56).toNat ∧ (0 : Int) ≤ v36_56 ∧ (v36_56 ≤ ((rv22.getD v29_31.toNat []).length : Int) ∨ v36_56 = 0) ∧ (-9223372036854775808 ≤ v36_56 ∧ v36_56 ≤ 9223372036854775807), r53⟩) (((((rv22.getD v29_31.toNat []).length : Int) : Int) - 0).toNat, at__29, start_30, 0) [1, 2, 2] ⟨hX64, rfl, aM1, (.inr rfl), aM1⟩ ?_
  rintro ⟨r53, at__54, p_55, v36_56⟩ ⟨hM57, hr58, hi59, hi60, hk61⟩
  refine JJ_nx fun _ _ hL hA => ?_; dsimp only at hL hA; subst hL hA
  refine Fb 8 0 fun _ => Fo 0 fun ho68 => Fb 16 1 fun _ => Fl 1 fun hn70 => ?_
  refine Fb 24 2 fun _ => KS ?_
  refine Oq Vlss (KS ?_)
  refine Kc ?_ ?_
  ·intro h72
   have g73 := dt h72
   obtain ⟨r74, rfl⟩ := scc (n := r53) aM1
   have H := hM57; (try dsimp only at H); rw [layout_Place_L1] at H
   refine KS ?_
   refine pC H hx65 fun hc75 H => ?_
   refine Oq (Vi sl22 0) ?_
   have hb76 := ok1 (i := v36_56.toNat) ho68 rng
   refine Oq (VldI sh3 0) (Oq Va (KS ?_))
   refine Oq Vm (Oq Vm (Oq Vm ?_))
   refine pC H hx65 fun hc77 H => ?_
   refine Oq (Vi sl49 1) (Ost (SoCx [1] sh63) (KS ?_))
   refine Oq Vm ?_
   refine pC H hx65 fun hc78 H => ?_
   refine Oq (VaddC (a := p_55) (b := (Cpx.mk 4607182418800017408#64 0#64)) (h := hc78)) (Oq Va (KS ?_))
   refine Oq Vadd (Oq Vm (KS ?_))
   refine pC H hx65 fun hc79 H => ?_
   exact Kg (r74, (at__54.set (((rv22.getD v29_31.toNat []).getD v36_56.toNat 0) : Int).toNat p_55), (cadd p_55 (Cpx.mk 4607182418800017408#64 0#64)), (v36_56 + 1)) [1, 0, 1] ⟨H, aM1, aM1, aM1, aM1⟩
  intro h72
  have g80 := df h72
  obtain rfl : r53 = 0 := by omega
  have H := hM57; (try dsimp only at H); rw [layout_Place_L1] at H
  refine Ke ?_
  have H := llB H HL66
  refine KS ?_
  refine Oq Vm ?_
  refine pC H hx41 fun hc81 H => ?_
  refine Oq (VaddC (a := start_30) (b := (Cpx.mk 0#64 4607182418800017408#64)) (h := hc81)) (Oq Va (KS ?_))
  refine Oq Vadd (Oq Vm (KS ?_))
  refine Fl 1 fun hn82 => ?_; (try unfold vl); rw [← hn82]
  refine pC H hx41 fun hc83 H => ?_
  exact Kg (r47, at__54, (cadd start_30 (Cpx.mk 0#64 4607182418800017408#64)), (v29_31 + 1), a32, k33) [1, 1] ⟨H, aM1, aM1, aM1, aM1⟩
 intro h45
 have g84 := df h45
 obtain rfl : r28 = 0 := by omega
 have H := hM34; (try dsimp only at H); rw [layout_Place_L0] at H
 refine Ke ?_
 have H := llB H HL42
 refine KS ?_
 refine Oq Vm (Oq Va (Oq Va (KS ?_)))
 refine Jl [0] (Ent.freeze _ _) ?_
 have hq := rI H; subst hq
 exact Kr (vl a32 k33 at__29) rfl (.tmp rfl (.tmp rfl .nil)) [0] en
theorem fn25  (rr : GGraph) (hrr : w33_diamond = .ret rr) : FT Tryz.prog 25 #[] [] (fun g : Value × Value × Value => True) (fun g => .agg #[g.1, g.2.1, g.2.2]) (fun g => [sl g.1 rr.Nodes, sl g.2.1 rr.Succ, sl g.2.2 rr.Pred]) := by
 refine FTi Tryz.func25 fun w0 M0 F0 => ?_
 have hx0 := lrn rr; have H := hrr; unfold w33_diamond at H
 refine KS ?_
 refine Oa (Al ze28 [.slice none 0 0, .slice none 0 0, .slice none 0 0]) fun p1 => KS ?_
 refine pC H hx0 fun hc2 H => ?_
 refine Oa (Amk (α := GNode) sl25 sz25 (default : GNode) zrd_GNode) fun c3 => ?_
 refine Jo 0 ?_; rintro a4 k5 rfl
 refine Fb 32 0 fun _ => ?_
 have hn7 := List.length_replicate (n := (4 : Int).toNat) (a := ((default : GNode) : GNode))
 refine Oa (AsV sl22 sz22 [vi 1, vi 2] [vi 1, vi 2]) fun c8 => ?_
 refine Jo 0 ?_; rintro a9 k10 rfl
 refine Oa (AsV sl22 sz22 [vi 3] [vi 3]) fun c11 => ?_
 refine Jo 0 ?_; rintro a12 k13 rfl
 refine Oa (AsV sl22 sz22 [vi 3] [vi 3]) fun c14 => ?_
 refine Jo 0 ?_; rintro a15 k16 rfl
 refine Oa (AsV sl26 sz26 [.slice a9 2 k10, .slice a12 1 k13, .slice a15 1 k16, .slice none 0 0] [.slice a9 2 k10, .slice a12 1 k13, .slice a15 1 k16, .slice none 0 0]) fun c17 => ?_
 refine Jo 0 ?_; rintro a18 k19 rfl
 refine Oa (AsV sl22 sz22 [vi 0] [vi 0]) fun c20 => ?_
 refine Jo 0 ?_; rintro a21 k22 rfl
 refine Oa (AsV sl22 sz22 [vi 0] [vi 0]) fun c23 => ?_
 refine Jo 0 ?_; rintro a24 k25 rfl
 refine Oa (AsV sl22 sz22 [vi 1, vi 2] [vi 1, vi 2]) fun c26 => ?_
 refine Jo 0 ?_; rintro a27 k28 rfl
 refine Oa (AsV sl26 sz26 [.slice none 0 0, .slice a21 1 k22, .slice a24 1 k25, .slice a27 2 k28] [.slice none 0 0, .slice a21 1 k22, .slice a24 1 k25, .slice a27 2 k28]) fun c29 => ?_
 refine Jo 0 ?_; rintro a30 k31 rfl
 refine Oq (Vbd st28 [vl a4 k5 (List.replicate (4 : Int).toNat (default : GNode)), .slice a18 4 k19, .slice a30 4 k31]) (Ost (Scl [9] sh28 [vl a4 k5 (List.replicate (4 : Int).toNat (default : GNode)), .slice a18 4 k19, .slice a30 4 k31]) (KS ?_))
 refine Jl [9] (Ent.freeze _ _) ?_
 refine Jl [9] (Ent.crInt _ [1, 2] _ _ rfl rfl (by intro x hx; simp only [List.mem_cons, List.not_mem_nil, or_false] at hx; rcases hx with rfl | rfl <;> (unfold i64ok; omega)) aB1) ?_
 refine Jl [0] (Ent.freeze _ _) ?_
 refine Jl [9] (Ent.crInt _ [3] _ _ rfl rfl (by intro x hx; rw [List.mem_singleton] at hx; subst hx; unfold i64ok; omega) aB1) ?_
 refine Jl [0] (Ent.freeze _ _) ?_
 refine Jl [9] (Ent.crInt _ [3] _ _ rfl rfl (by intro x hx; rw [List.mem_singleton] at hx; subst hx; unfold i64ok; omega) aB1) ?_
 refine Jl [0] (Ent.freeze _ _) ?_
 refine Jl [9, 2, 1, 0] (Ent.crOs (α := List Int) (A := [sl (.slice a9 2 k10) ([1, 2] : List Int), sl (.slice a12 1 k13) ([3] : List Int), sl (.slice a15 1 k16) ([3] : List Int)]) _ ([[1, 2], [3], [3], ([] : List Int)] : List (List Int)) _ aB1 (fun h => ⟨[.slice a9 2 k10], [.slice a12 1 k13, .slice a15 1 k16, .slice none 0 0], rfl, (fun h => ⟨_, rfl, sepAll_get (i := 0) rfl h⟩) h, ⟨[.slice a12 1 k13], [.slice a15 1 k16, .slice none 0 0], rfl, (fun h => ⟨_, rfl, sepAll_get (i := 1) rfl h⟩) h, ⟨[.slice a15 1 k16], [.slice none 0 0], rfl, (fun h => ⟨_, rfl, sepAll_get (i := 2) rfl h⟩) h, ⟨[.slice none 0 0], [], rfl, (fun _ => ⟨_, rfl, slrd_nil⟩) h, rfl⟩⟩⟩⟩)) ?_
 refine Jl [0] (Ent.freeze _ _) ?_
 refine Jl [12] (Ent.crInt _ [0] _ _ rfl rfl (by intro x hx; rw [List.mem_singleton] at hx; subst hx; unfold i64ok; omega) aB1) ?_
 refine Jl [0] (Ent.freeze _ _) ?_
 refine Jl [12] (Ent.crInt _ [0] _ _ rfl rfl (by intro x hx; rw [List.mem_singleton] at hx; subst hx; unfold i64ok; omega) aB1) ?_
 refine Jl [0] (Ent.freeze _ _) ?_
 refine Jl [12] (Ent.crInt _ [1, 2] _ _ rfl rfl (by intro x hx; simp only [List.mem_cons, List.not_mem_nil, or_false] at hx; rcases hx with rfl | rfl <;> (unfold i64ok; omega)) aB1) ?_
 refine Jl [0] (Ent.freeze _ _) ?_
 refine Jl [12, 2, 1, 0] (Ent.crOs (α := List Int) (A := [sl (.slice a21 1 k22) ([0] : List Int), sl (.slice a24 1 k25) ([0] : List Int), sl (.slice a27 2 k28) ([1, 2] : List Int)]) _ ([([] : List Int), [0], [0], [1, 2]] : List (List Int)) _ aB1 (fun h => ⟨[.slice none 0 0], [.slice a21 1 k22, .slice a24 1 k25, .slice a27 2 k28], rfl, (fun _ => ⟨_, rfl, slrd_nil⟩) h, ⟨[.slice a21 1 k22], [.slice a24 1 k25, .slice a27 2 k28], rfl, (fun h => ⟨_, rfl, sepAll_get (i := 0) rfl h⟩) h, ⟨[.slice a24 1 k25], [.slice a27 2 k28], rfl, (fun h => ⟨_, rfl, sepAll_get (i := 1) rfl h⟩) h, ⟨[.slice a27 2 k28], [], rfl, (fun h => ⟨_, rfl, sepAll_get (i := 2) rfl h⟩) h, rfl⟩⟩⟩⟩)) ?_
 refine Jl [0] (Ent.freeze _ _) ?_
 have hq := rI H; subst hq
 exact Kr (vl a4 k5 (List.replicate (4 : Int).toNat (default : GNode)), .slice a18 4 k19, .slice a30 4 k31) rfl (.cellN 15 rfl sh28 rfl (reads_Cl _ _) rfl .nil) [14, 7, 0] trivial
theorem fn94 (i : Int) (hi_0 : i64ok i) (rr : Str) (hrr : ic_small i = .ret rr) : FT Tryz.prog 94 #[vi i] [] (fun g : Unit => rr.b.length ≤ 140737488355328) (fun g => .string (bs rr)) (fun g => []) := by
 refine FTi Tryz.func94 fun w0 M0 F0 => ?_
 unfold i64ok at hi_0
 have hx0 := lrn rr; have H := hrr; unfold ic_small at H
 refine KS ?_
 refine Oq Va (KS ?_)
 refine Oq Vm (Oq Vlss (KS ?_))
 refine pT H hx0 fun h1 H => ?_
 refine KcT h1 ?_
 have g2 := dt h1
 refine KS ?_
 refine Oq Vm (Oq Vm ?_)
 refine pC H hx0 fun hc3 H => ?_
 refine Oq Vadd ?_
 refine pC H hx0 fun hc4 H => ?_
 have hb5 : tab1.b.length = 36 := rfl
 refine Oq (VslS un9 (l := tab1)) ?_
 have hb6 := sub_len3 tab1 i.toNat ((i + 1) : Int).toNat
 refine Oq Va (KS ?_)
 have hq := rI H; subst hq
 exact Kr () rfl (.tmp rfl .nil) [] en
theorem fn78 (i : Int) (base : Int) (hi_0 : i64ok i) (hbase_0 : i64ok base) (rr : Str) (hrr : ic_FormatInt i base = .ret rr) : FT Tryz.prog 78 #[vi i, vi base] [] (fun g : Unit => rr.b.length ≤ 140737488355328) (fun g => .string (bs rr)) (fun g => []) := by
 refine FTi Tryz.func78 fun w0 M0 F0 => ?_
 unfold i64ok at hi_0 hbase_0
 have hx0 := lrn rr; have H := hrr; unfold ic_FormatInt at H
 refine KS ?_
 refine Oq Va (KS ?_)
 refine Oq Vm (Oq Veql (KS ?_))
 refine pT H hx0 fun h1 H => ?_
 refine KcT h1 ?_
 have g2 := eq_of_beq h1
 refine KS ?_
 refine Oq Vm (Oq Vleq (Oq Vm ?_))
 refine pT H hx0 fun h3 H => ?_
 refine JsT 14 h3 ?_
 have g4 := dt h3
 refine Oq Vm (Oq Vlss (Oq Vpt (KS ?_)))
 refine pT H hx0 fun h5 H => ?_
 refine KcT h5 ?_
 have g6 := dt h5
 refine KS ?_
 refine Oq Vm ?_
 refine lbH H hx0 fun rv7 hg8 H => ?_
 have hc9 := fn94 i pre rv7 hg8
 refine Oc [] ca94 hc9 ?_
 rintro - he10
 refine Oq Va (KS ?_)
 have hq := rI H; subst hq
 exact Kr () rfl (.tmp rfl .nil) [] en
theorem fn65 (i : Int) (hi_0 : i64ok i) (rr : Str) (hrr : ic_Itoa i = .ret rr) : FT Tryz.prog 65 #[vi i] [] (fun g : Unit => rr.b.length ≤ 140737488355328) (fun g => .string (bs rr)) (fun g => []) := by
 refine FTi Tryz.func65 fun w0 M0 F0 => ?_
 unfold i64ok at hi_0
 have hx0 := lrn rr; have H := hrr; unfold ic_Itoa at H
 refine KS ?_
 refine Oq Va (KS ?_)
 refine Oq Vm ?_
 refine lbH H hx0 fun rv1 hg2 H => ?_
 have hc3 := fn78 i 10 pre pre rv1 hg2
 refine Oc [] ca78 hc3 ?_
 rintro - he4
 refine Oq Va (KS ?_)
 have hq := rI H; subst hq
 exact Kr () rfl (.tmp rfl .nil) [] en
theorem fn45 (i : Int) (hi_0 : i64ok i) (rr : Str) (hrr : st_Itoa i = .ret rr) : FT Tryz.prog 45 #[vi i] [] (fun g : Unit => rr.b.length ≤ 140737488355328) (fun g => .string (bs rr)) (fun g => []) := by
 refine FTi Tryz.func45 fun w0 M0 F0 => ?_
 unfold i64ok at hi_0
 have hx0 := lrn rr; have H := hrr; unfold st_Itoa at H
 refine KS ?_
 refine Oq Va (KS ?_)
 refine Oq Vm ?_
 refine lbH H hx0 fun rv1 hg2 H => ?_
 have hc3 := fn65 i pre rv1 hg2
 refine Oc [] ca65 hc3 ?_
 rintro - he4
 refine Oq Va (KS ?_)
 have hq := rI H; subst hq
 exact Kr () rfl (.tmp rfl .nil) [] en
def lay166_ren : Go.Shelf.Ren := ⟨(fun n => match n with | 166 => 46 | 240 => 66 | 276 => 79 | _ => 0), (fun n => match n with | 0 => 0 | 3 => 3 | 4 => 4 | 5 => 5 | 9 => 9 | 20 => 20 | 37 => 85 | 70 => 84 | 72 => 87 | 75 => 90 | 80 => 94 | 164 => 121 | _ => 0), (fun _ => 0)⟩
theorem lay166 : Go.Proofs.Lays.n166 Tryz.prog lay166_ren where
 mixed := by kernel_rfl
 f166 := by kernel_rfl
 f240 := by kernel_rfl
 f276 := by kernel_rfl
 t0 := by kernel_rfl
 a0 := fun w => rfl
 z0 := fun w => rfl
 v0 := fun w => rfl
 t3 := by kernel_rfl
 a3 := fun w => rfl
 z3 := fun w => rfl
 v3 := fun w => rfl
 t4 := by kernel_rfl
 a4 := fun w => rfl
 z4 := fun w => rfl
 v4 := fun w => rfl
 t9 := by kernel_rfl
 a9 := fun w => rfl
 z9 := fun w => rfl
 v9 := fun w => rfl
 t20 := by kernel_rfl
 a20 := fun w => rfl
 z20 := fun w => rfl
 v20 := fun w => rfl
 t37 := by kernel_rfl
 a37 := fun w => rfl
 z37 := fun w => rfl
 v37 := fun w => rfl
 t70 := by kernel_rfl
 a70 := fun w => rfl
 z70 := fun w => rfl
 v70 := fun w => rfl
 t72 := by kernel_rfl
 a72 := fun w => rfl
 z72 := fun w => rfl
 v72 := fun w => rfl
 t75 := by kernel_rfl
 a75 := fun w => rfl
 z75 := fun w => rfl
 v75 := fun w => rfl
 t164 := by kernel_rfl
 a164 := fun w => rfl
 z164 := fun w => rfl
 v164 := fun w => rfl
theorem lay166x : Go.Proofs.Builder.Extra Tryz.prog lay166_ren where
 sizeBuilder := by kernel_rfl
 liesBuilder := by kernel_rfl
 t5 := by kernel_rfl
 a5 := fun w => rfl
 z5 := fun w => rfl
 v5 := fun w => rfl
 infoByte := by kernel_rfl
 cellsByte := by kernel_rfl
 sizeByte := by kernel_rfl
 neB5 := by decide
theorem fn46 (bP : Value) (b : List UInt8) (s : Str) (hs_0 : s.b.length ≤ 140737488355328) (rr : List UInt8) (hrr : Builder_WriteString b s = .ret rr) : FT Tryz.prog 46 #[bP, .string (bs s)] [BD 87 5 bP b] (fun g : Unit => True) (fun g => .tuple #[vi (s.b.length : Int), .nilIface]) (fun g => [BD 87 5 bP rr]) := by
 have hrr' := hrr
 unfold Builder_WriteString at hrr'
 cases hl : decide (b.length + s.b.length ≤ 140737488355328) with
 | false => rw [hl] at hrr'; cases hrr'
 | true =>
 rw [hl] at hrr'; injection hrr' with hrr'; subst hrr'
 exact FT_wstr lay166 lay166x bP b s (of_decide_eq_true hl)
def lay156_ren : Go.Shelf.Ren := ⟨(fun n => match n with | 156 => 47 | 165 => 67 | 166 => 46 | 169 => 48 | 240 => 66 | 241 => 80 | 276 => 79 | 277 => 98 | _ => 0), (fun n => match n with | 0 => 0 | 3 => 3 | 4 => 4 | 5 => 5 | 9 => 9 | 20 => 20 | 31 => 88 | 37 => 85 | 70 => 84 | 72 => 87 | 75 => 90 | 76 => 91 | 80 => 94 | 127 => 109 | 164 => 121 | _ => 0), (fun _ => 0)⟩
theorem lay156 : Go.Proofs.Lays.n156 Tryz.prog lay156_ren where
 mixed := by kernel_rfl
 f156 := by kernel_rfl
 f165 := by kernel_rfl
 f166 := by kernel_rfl
 f169 := by kernel_rfl
 f240 := by kernel_rfl
 f241 := by kernel_rfl
 f276 := by kernel_rfl
 f277 := by kernel_rfl
 t0 := by kernel_rfl
 a0 := fun w => rfl
 z0 := fun w => rfl
 v0 := fun w => rfl
 t3 := by kernel_rfl
 a3 := fun w => rfl
 z3 := fun w => rfl
 v3 := fun w => rfl
 t4 := by kernel_rfl
 a4 := fun w => rfl
 z4 := fun w => rfl
 v4 := fun w => rfl
 t9 := by kernel_rfl
 a9 := fun w => rfl
 z9 := fun w => rfl
 v9 := fun w => rfl
 t20 := by kernel_rfl
 a20 := fun w => rfl
 z20 := fun w => rfl
 v20 := fun w => rfl
 t31 := by kernel_rfl
 a31 := fun w => rfl
 z31 := fun w => rfl
 v31 := fun w => rfl
 t37 := by kernel_rfl
 a37 := fun w => rfl
 z37 := fun w => rfl
 v37 := fun w => rfl
 t70 := by kernel_rfl
 a70 := fun w => rfl
 z70 := fun w => rfl
 v70 := fun w => rfl
 t72 := by kernel_rfl
 a72 := fun w => rfl
 z72 := fun w => rfl
 v72 := fun w => rfl
 t75 := by kernel_rfl
 a75 := fun w => rfl
 z75 := fun w => rfl
 v75 := fun w => rfl
 t76 := by kernel_rfl
 a76 := fun w => rfl
 z76 := fun w => rfl
 v76 := fun w => rfl
 t127 := by kernel_rfl
 a127 := fun w => rfl
 z127 := fun w => rfl
 v127 := fun w => rfl
 t164 := by kernel_rfl
 a164 := fun w => rfl
 z164 := fun w => rfl
 v164 := fun w => rfl
theorem lay156x : Go.Proofs.Builder.Extra Tryz.prog lay156_ren where
 sizeBuilder := by kernel_rfl
 liesBuilder := by kernel_rfl
 t5 := by kernel_rfl
 a5 := fun w => rfl
 z5 := fun w => rfl
 v5 := fun w => rfl
 infoByte := by kernel_rfl
 cellsByte := by kernel_rfl
 sizeByte := by kernel_rfl
 neB5 := by decide
theorem fn47 (elems : List Str) (elemsa0 : Option Addr) (elemsk0 : Nat) (sep : Str) (hsep_0 : sep.b.length ≤ 140737488355328) (rr : Str) (hrr : strings_Join elems sep = .ret rr) : FT Tryz.prog 47 #[vl elemsa0 elemsk0 elems, .string (bs sep)] [S elemsa0 elemsk0 elems] (fun g : Unit => rr.b.length ≤ 140737488355328) (fun g => .string (bs rr)) (fun g => []) := by
 have hrr' := hrr
 unfold strings_Join at hrr'
 cases hl : decide ((joinS elems sep).b.length ≤ 140737488355328) with
 | false => rw [hl] at hrr'; cases hrr'
 | true =>
 rw [hl] at hrr'; injection hrr' with hrr'; subst hrr'
 have hj0 := of_decide_eq_true hl
 exact FT_join (fun bk o c xs sep w h1 h2 h3 h4 h5 => Go.Proofs.Any.strings_Join lay156 lay156x bk o c xs sep w h1 h2 h3 h4 h5) (fun a c sep w => Go.Proofs.Any.strings_Join_none lay156 lay156x a c sep w) elemsa0 elemsk0 elems sep hj0
def lay169_ren : Go.Shelf.Ren := ⟨(fun n => match n with | 169 => 48 | _ => 0), (fun n => match n with | 0 => 0 | 3 => 3 | 5 => 5 | 9 => 9 | 37 => 85 | 70 => 84 | 72 => 87 | 127 => 109 | _ => 0), (fun _ => 0)⟩
theorem lay169 : Go.Proofs.Lays.n169 Tryz.prog lay169_ren where
 mixed := by kernel_rfl
 f169 := by kernel_rfl
 t0 := by kernel_rfl
 a0 := fun w => rfl
 z0 := fun w => rfl
 v0 := fun w => rfl
 t3 := by kernel_rfl
 a3 := fun w => rfl
 z3 := fun w => rfl
 v3 := fun w => rfl
 t9 := by kernel_rfl
 a9 := fun w => rfl
 z9 := fun w => rfl
 v9 := fun w => rfl
 t37 := by kernel_rfl
 a37 := fun w => rfl
 z37 := fun w => rfl
 v37 := fun w => rfl
 t70 := by kernel_rfl
 a70 := fun w => rfl
 z70 := fun w => rfl
 v70 := fun w => rfl
 t72 := by kernel_rfl
 a72 := fun w => rfl
 z72 := fun w => rfl
 v72 := fun w => rfl
 t127 := by kernel_rfl
 a127 := fun w => rfl
 z127 := fun w => rfl
 v127 := fun w => rfl
theorem lay169x : Go.Proofs.Builder.Extra Tryz.prog lay169_ren where
 sizeBuilder := by kernel_rfl
 liesBuilder := by kernel_rfl
 t5 := by kernel_rfl
 a5 := fun w => rfl
 z5 := fun w => rfl
 v5 := fun w => rfl
 infoByte := by kernel_rfl
 cellsByte := by kernel_rfl
 sizeByte := by kernel_rfl
 neB5 := by decide
theorem fn48 (bP : Value) (b : List UInt8) (rr : Str) (hrr : Builder_String b = .ret rr) : FT Tryz.prog 48 #[bP] [BD 87 5 bP b] (fun g : Unit => rr.b.length ≤ 140737488355328) (fun g => .string (bs rr)) (fun g => []) := by
 have hrr' := hrr
 unfold Builder_String at hrr'
 cases hl : decide (b.length ≤ 140737488355328) with
 | false => rw [hl] at hrr'; cases hrr'
 | true =>
 rw [hl] at hrr'; injection hrr' with hrr'; subst hrr'
 exact FT_bstr lay169 lay169x bP b (of_decide_eq_true hl)
theorem fn26 (g : GGraph) (ga0 : Option Addr) (gk0 : Nat) (ga1 : Option Addr) (gk1 : Nat) (ga2 : Option Addr) (gk2 : Nat) (root : Int) (hroot_0 : i64ok root) (rr : Str × Int) (hrr : layout_Draw g root = .ret rr) : FT Tryz.prog 26 #[.agg #[vl ga0 gk0 g.Nodes, vl ga1 gk1 g.Succ, vl ga2 gk2 g.Pred], vi root] [S ga0 gk0 g.Nodes, S ga1 gk1 g.Succ, S ga2 gk2 g.Pred] (fun g : Unit => rr.1.b.length ≤ 140737488355328 ∧ i64ok rr.2) (fun g => .tuple #[.string (bs rr.1), vi rr.2]) (fun g => []) := by
 refine FTi Tryz.func26 fun w0 M0 F0 => ?_
 unfold i64ok at hroot_0
 refine Fb 32 0 fun _ => Fb 24 1 fun _ => Fb 24 2 fun _ => ?_
 have hx0 := lrn rr; have H := hrr; unfold layout_Draw at H
 refine KS ?_
 refine Oa (Ab [vl ga0 gk0 g.Nodes, vl ga1 gk1 g.Succ, vl ga2 gk2 g.Pred]) fun p4 => Oq Va (Oq Va (KS ?_))
 refine Oq (VldA sh28 0) (Oq Vm ?_)
 refine lbH H hx0 fun rv5 hg6 H => ?_
 have hc7 := fn42 g ga0 gk0 ga1 gk1 ga2 gk2 root pre rv5 hg6
 refine Oc [1, 2, 3] ca42 hc7 ?_
 rintro - he8
 unfold i64ok at he8
 refine Oq Va (KS ?_)
 refine Oq Vm (Oq Vneq (KS ?_))
 refine pF H hx0 fun h9 H => ?_
 refine KcF h9 ?_
 have g10 := eq_of_bne_false h9
 refine KS ?_
 refine Oa (AlB 5 ze87) fun p11 => KS ?_
 refine Oq (VldA sh28 1) (Oq Vm ?_)
 refine lbH H hx0 fun rv13 hg14 H => ?_
 have hc15 := fn44 g ga0 gk0 ga1 gk1 ga2 gk2 root pre rv13 hg14
 refine Oc [2, 3, 4] ca44 hc15 ?_
 rintro c12 -
 refine Jo 0 ?_; rintro a16 k17 rfl
 refine Fb 24 0 fun _ => ?_
 refine Oq (Vlen sl26) (Oq Vm (KS ?_))
 refine llH H hx0 fun X27 hX28 hx29 HL30 => ?_
 refine Kl (γ := Nat × List UInt8 × Int) (fun (r19, b_20, v23_21) => ⟨[(7, p11), (21, vl a16 k17 rv13), (22, vi (rv13.length : Int)), (23, vi v23_21)], [S a16 k17 rv13, BD 87 5 p11 b_20], layout_Draw_L0 rv13 r19 b_20 v23_21 = X27 ∧ r19 = ((rv13.length : Int) - v23_21).toNat ∧ (0 : Int) ≤ v23_21 ∧ v23_21 ≤ (rv13.length : Int) ∧ (-9223372036854775808 ≤ v23_21 ∧ v23_21 ≤ 9223372036854775807), r19⟩) (((rv13.length : Int) - 0).toNat, [], 0) [0, 1] ⟨hX28, rfl, aM1, aM1, aM1⟩ ?_
 rintro ⟨r19, b_20, v23_21⟩ ⟨hM22, hr23, hi24, hi25, hk26⟩
 refine JJ_nx fun _ _ hL hA => ?_; dsimp only at hL hA; subst hL hA
 refine Fb 24 0 fun _ => KS ?_
 refine Oq Vlss (KS ?_)
 refine Kc ?_ ?_
 ·intro h32
  have g33 := dt h32
  obtain ⟨r34, rfl⟩ := scc (n := r19) aM1
  have H := hM22; (try dsimp only at H); rw [layout_Draw_L0] at H
  refine KS ?_
  refine pC H hx29 fun hc35 H => ?_
  refine Oq (Vi sl26 0) ?_
  refine JJ_peekL v23_21.toNat 0 rfl rng fun a36 k37 => ?_
  refine Fb 8 1 fun _ => Fo 1 fun ho39 => ?_
  refine Oq (Vld sh22 0) (Oq Va (KS ?_))
  refine Oq Va (KS ?_)
  refine Oq Vm (Oq (Vlen sl22) (Oq Vm (KS ?_)))
  refine Jl [] (Ent.osNil (α := Str)) ?_
  refine pC H hx29 fun hc50 H => ?_
  refine llH H hx29 fun X51 hX52 hx53 HL54 => ?_
  refine Kl (γ := Nat × List Str × Int × Option Addr × Nat) (fun (r40, words_41, v29_42, a43, k44) => ⟨[(7, p11), (21, vl a16 k17 rv13), (22, vi (rv13.length : Int)), (23, vi v23_21), (10, vl a43 k44 words_41), (27, vl a36 k37 (rv13.getD v23_21.toNat [])), (28, vi ((rv13.getD v23_21.toNat []).length : Int)), (29, vi v29_42)], [O a43 k44 words_41, S a36 k37 ((rv13.getD v23_21.toNat []) : List Int), S a16 k17 rv13, BD 87 5 p11 b_20], layout_Draw_L1 (rv13.getD v23_21.toNat []) r40 words_41 v29_42 = X51 ∧ r40 = ((((rv13.getD v23_21.toNat []).length : Int) : Int) - v29_42).toNat ∧ (0 : Int) ≤ v29_42 ∧ (v29_42 ≤ ((rv13.getD v23_21.toNat []).length : Int) ∨ v29_42 = 0) ∧ (-9223372036854775808 ≤ v29_42 ∧ v29_42 ≤ 9223372036854775807), r40⟩) (((((rv13.getD v23_21.toNat []).length : Int) : Int) - 0).toNat, [], 0, none, 0) [0, 1, 2, 3] ⟨hX52, rfl, aM1, (.inr rfl), aM1⟩ ?_
  rintro ⟨r40, words_41, v29_42, a43, k44⟩ ⟨hM45, hr46, hi47, hi48, hk49⟩
  refine JJ_nx fun _ _ hL hA => ?_; dsimp only at hL hA; subst hL hA
  refine Fb 16 0 fun _ => ?_
  refine FoS 0 fun ho56 => ?_
  refine Fb 8 1 fun _ => Fo 1 fun ho58 => Fb 24 2 fun _ => KS ?_
  refine Oq Vlss (KS ?_)
  refine Kc ?_ ?_
  ·intro h60
   have g61 := dt h60
   obtain ⟨r62, rfl⟩ := scc (n := r40) aM1
   have H := hM45; (try dsimp only at H); rw [layout_Draw_L1] at H
   refine KS ?_
   refine pC H hx53 fun hc63 H => ?_
   refine Oq (Vi sl22 1) ?_
   have hb64 := ok1 (i := v29_42.toNat) ho58 rng
   refine Oq (VldI sh3 1) (Oq Va (KS ?_))
   refine Oq Vm (Oq Vm ?_)
   refine lbH H hx53 fun rv65 hg66 H => ?_
   have hc67 := fn45 (((rv13.getD v23_21.toNat []).getD v29_42.toNat 0)) pre rv65 hg66
   refine Oc [] ca45 hc67 ?_
   rintro - he68
   refine Oa (AsV sl88 sz88 [.string (bs rv65)] [.string (bs rv65)]) fun c69 => ?_
   refine Jo 0 ?_; rintro a70 k71 rfl
   refine Jl [0] (Ent.cr1 (α := Str) (A := []) _ rv65 _ aB1 (fun _ => ⟨rfl, aS1⟩)) ?_
   refine pC H hx53 fun hc72 H => ?_
   refine Oa (ApO [1, 0] sl88 sl88 sz88) fun c73 => ?_
   refine Jo 0 ?_; rintro a74 k75 rfl
   refine Fb 16 0 fun _ => ?_
   refine FoS 0 fun ho77 => ?_
   have hn78 := la words_41 ([rv65] : List Str)
   refine Oq Va (KS ?_)
   refine Oq Vadd (Oq Vm (KS ?_))
   refine pC H hx53 fun hc79 H => ?_
   exact Kg (r62, (words_41 ++ [rv65]), (v29_42 + 1), a74, k75) [0, 0, 1, 2] ⟨H, aM1, aM1, aM1, aM1⟩
  intro h60
  have g80 := df h60
  obtain rfl : r40 = 0 := by omega
  have H := hM45; (try dsimp only at H); rw [layout_Draw_L1] at H
  refine Ke ?_
  have H := llB H HL54
  refine KS ?_
  refine Oq Vm ?_
  refine lbH H hx29 fun rv81 hg82 H => ?_
  refine Oc [0] ca47 (FT_borrow (A := _) (fun _ _ h => by cases h) (FT_ent (Ent.take (is := [0]) rfl) (fn47 words_41 a43 k44 ((Str.mk [32])) pre rv81 hg82))) ?_ (ht := rfl)
  rintro - he83
  have hb84 := sadd_len rv81 (Str.mk [10])
  have hb85 : (Str.mk [10]).b.length = 1 := rfl
  refine pC H hx29 fun hc86 H => ?_
  refine Oq (VadS (l := rv81) (m := (Str.mk [10]))) ?_
  refine lbH H hx29 fun rv87 hg88 H => ?_
  have hc89 := fn46 p11 b_20 ((rv81 ++ (Str.mk [10]))) pre rv87 hg88
  refine Oc [3] ca46 hc89 ?_
  rintro - -
  refine KS ?_
  refine Oq Vadd (Oq Vm (KS ?_))
  refine pC H hx29 fun hc90 H => ?_
  exact Kg (r34, rv87, (v23_21 + 1)) [3, 0] ⟨H, aM1, aM1, aM1, aM1⟩
 intro h32
 have g91 := df h32
 obtain rfl : r19 = 0 := by omega
 have H := hM22; (try dsimp only at H); rw [layout_Draw_L0] at H
 refine Ke ?_
 have H := llB H HL30
 refine KS ?_
 refine lbH H hx0 fun rv92 hg93 H => ?_
 have hc94 := fn48 p11 b_20 rv92 hg93
 refine Oc [1] ca48 hc94 ?_
 rintro - he95
 refine Oq Va (Oq Va (KS ?_))
 have hq := rI H; subst hq
 exact Kr () rfl (.tmp rfl (.tmp rfl .nil)) [] en
theorem fn11O  (rr : Bool) (hrr : w33_saneO = .ret rr) : FT Tryz.prog 11 #[] [] (fun g : Unit => True) (fun g => vb rr) (fun g => []) := by
 refine FTi Tryz.func11 fun w0 M0 F0 => ?_
 have hx0 := lrn rr; have H := hrr; unfold w33_saneO at H
 refine KS ?_
 refine Oq Va (KS ?_)
 refine lbH H hx0 fun rv4 hg5 H => ?_
 have hc6 := fn25  rv4 hg5
 refine Oc [] ca25 hc6 ?_
 rintro ⟨c1, c2, c3⟩ -
 refine Jo 0 ?_; rintro a7 k8 rfl
 refine Fb 32 0 fun _ => ?_
 refine Jo 1 ?_; rintro a10 k11 rfl
 refine Fb 24 1 fun _ => ?_
 refine Jo 2 ?_; rintro a13 k14 rfl
 refine Fb 24 2 fun _ => ?_
 refine lbH H hx0 fun rv17 hg18 H => ?_
 have hc19 := fn24 rv4 a7 k8 a10 k11 a13 k14 0 pre rv17 hg18
 refine Oc [0, 1, 2] ca24 hc19 ?_
 rintro c16 he20
 unfold i64ok at he20
 refine Jo 0 ?_; rintro a21 k22 rfl
 refine Fb 16 0 fun _ => ?_
 refine Oq Vm (Oq Vx (Oq Vx (Oq Va (Oq Va (KS ?_)))))
 have hc27 := fn25  rv4 hg5
 refine Oc [] ca25 hc27 ?_
 rintro ⟨c24, c25, c26⟩ -
 refine Jo 0 ?_; rintro a28 k29 rfl
 refine Jo 1 ?_; rintro a30 k31 rfl
 refine Jo 2 ?_; rintro a32 k33 rfl
 refine lbH H hx0 fun rv34 hg35 H => ?_
 have hc36 := fn26 rv4 a28 k29 a30 k31 a32 k33 0 pre rv34 hg35
 refine Oc [0, 1, 2] ca26 hc36 ?_
 rintro - ⟨he37, he38⟩
 unfold i64ok at he38
 refine Oq Vm (Oq Vx (Oq Vx (Oq Va (Oq Va (KS ?_)))))
 refine Oa (AsV sl49 sz49 [cxv (Cpx.mk 0#64 4607182418800017408#64)] [cxv (Cpx.mk 0#64 4607182418800017408#64)]) fun c39 => ?_
 refine Jo 0 ?_; rintro a40 k41 rfl
 refine Jl [0] (Ent.cr1 (α := Cpx) (A := []) _ (Cpx.mk 0#64 4607182418800017408#64) _ aB1 (fun _ => rfl)) ?_
 refine Jl [0] (Ent.freeze _ _) ?_
 refine lvH H fun rv43 hg44 H => ?_
 have hc45 := fn22 ([(Cpx.mk 0#64 4607182418800017408#64)]) a40 k41 1 pre rv43 hg44
 refine Oc [0] ca22 hc45 ?_
 rintro c42 -
 refine Jo 0 ?_; rintro a46 k47 rfl
 refine Fb 16 0 fun _ => ?_
 refine Oq Va (KS ?_)
 refine Oq Vm (Oq Veql (Oq Vm ?_))
 refine pT H hx0 fun h49 H => ?_
 refine JsT 20 h49 ?_
 have g50 := eq_of_beq h49
 refine Oq Vm (Oq Veql (Oq Vpt (Oq Vm ?_)))
 refine pT H hx0 fun h51 H => ?_
 refine JsT 24 h51 ?_
 have g52 := eq_of_beq h51
 refine Oq Vm (Oq (Vlen sl49) (Oq Veql (Oq Vpt (Oq Vm ?_))))
 refine pT H hx0 fun h53 H => ?_
 refine JsT 29 h53 ?_
 have g54 := eq_of_beq h53
 refine Oq Vm ?_
 refine pC H hx0 fun hc55 H => ?_
 refine Oq (Vi sl49 5) (Oq (VldCx sh63 5) (Oq (VeqC (a := (rv17.1.getD (0 : Int).toNat default)) (b := (Cpx.mk 0#64 0#64))) (Oq Vpt (Oq Vm ?_))))
 refine pT H hx0 fun h56 H => ?_
 refine JsT 35 h56 ?_
 refine Oq Vm ?_
 refine pC H hx0 fun hc58 H => ?_
 refine Oq (Vi sl49 5) (Oq (VldCx sh63 5) (Oq (VeqC (a := (rv17.1.getD (1 : Int).toNat default)) (b := (Cpx.mk 0#64 4607182418800017408#64))) (Oq Vpt (Oq Vm ?_))))
 refine pT H hx0 fun h59 H => ?_
 refine JsT 41 h59 ?_
 refine Oq Vm ?_
 refine pC H hx0 fun hc61 H => ?_
 refine Oq (Vi sl49 5) (Oq (VldCx sh63 5) (Oq (VeqC (a := (rv17.1.getD (2 : Int).toNat default)) (b := (Cpx.mk 4607182418800017408#64 4607182418800017408#64))) (Oq Vpt (Oq Vm ?_))))
 refine pT H hx0 fun h62 H => ?_
 refine JsT 47 h62 ?_
 refine Oq Vm ?_
 refine pC H hx0 fun hc64 H => ?_
 refine Oq (Vi sl49 5) (Oq (VldCx sh63 5) (Oq (VeqC (a := (rv17.1.getD (3 : Int).toNat default)) (b := (Cpx.mk 0#64 4611686018427387904#64))) (Oq Vpt (Oq Vm ?_))))
 refine pT H hx0 fun h65 H => ?_
 refine JsT 53 h65 ?_
 have hc70 := fn25  rv4 hg5
 refine Oc [] ca25 hc70 ?_
 rintro ⟨c67, c68, c69⟩ -
 refine Jo 0 ?_; rintro a71 k72 rfl
 refine Jo 1 ?_; rintro a73 k74 rfl
 refine Jo 2 ?_; rintro a75 k76 rfl
 refine Oq Vm ?_
 refine lvH H fun rv77 hg78 H => ?_
 have hc79 := fn17 rv4 a71 k72 a73 k74 a75 k76 rv17.1 a21 k22 rv77 hg78
 refine Oc [0, 1, 2, 8] ca17 hc79 ?_
 rintro - he80
 unfold i64ok at he80
 refine Oq Veql (Oq Vpt (Oq Vm ?_))
 refine pT H hx0 fun h81 H => ?_
 refine JsT 59 h81 ?_
 have g82 := eq_of_beq h81
 refine Oq Vm (Oq (VeqS (l := rv34.1) (m := (Str.mk [48, 10, 49, 32, 50, 10, 51, 10]))) (Oq Vpt (Oq Vm ?_)))
 refine pT H hx0 fun h83 H => ?_
 refine JsT 63 h83 ?_
 have g84 := eq_of_beq h83
 refine Oq Vm (Oq (Vlen sl49) (Oq Veql (Oq Vpt (Oq Vm ?_))))
 refine pT H hx0 fun h85 H => ?_
 refine JsT 68 h85 ?_
 have g86 := eq_of_beq h85
 refine Oq Vm ?_
 refine pC H hx0 fun hc87 H => ?_
 refine Oq (Vi sl49 3) (Oq (VldCx sh63 3) (Oq (VeqC (a := (rv43.getD (0 : Int).toNat default)) (b := (Cpx.mk 13830554455654793216#64 0#64))) (Oq Vpt (Oq Va (KS ?_)))))
 have hq := rI H; subst hq
 exact Kr () rfl (.tmp rfl .nil) [] trivial
theorem w33_sane_c : w33_saneO = .ret true := by kernel_rfl
theorem fn11  (rr : Bool) (hrr : w33_sane = rr) : FT Tryz.prog 11 #[] [] (fun g : Unit => True) (fun g => vb rr) (fun g => []) := by
 subst hrr; exact fn11O  true w33_sane_c
theorem fn5 (l : List Int) (la0 : Option Addr) (lk0 : Nat) (rr : Unit) (hrr : g_New l = rr) : FT Tryz.prog 5 #[vl la0 lk0 l] [S la0 lk0 l] (fun g : Value => True) (fun g => g) (fun g => [Cl g [vl la0 lk0 l, vi 0]]) := by
 refine FTi Tryz.func5 fun w0 M0 F0 => Fb 8 0 fun _ => Fo 0 fun ho2 => ?_
 refine KS ?_
 refine Oq Va (KS ?_)
 refine Oq Vm (Oq (Vbd st44 [vl la0 lk0 l, vi 0]) (Oa (AbO [vl la0 lk0 l, vi 0]) fun p3 => Oq Va (KS ?_)))
 have hq := q4 hrr () (by simp only [g_New, cs4]); subst hq
 exact Kr p3 rfl (.tmp rfl .nil) [0] trivial
theorem fn6 (tP : Value) (ta : Option Addr) (tk : Nat) (tT : List Int) (tI : Int) (n : Int) (htI : 0 ≤ tI ∧ tI ≤ (tT.length : Int)) (hn_0 : i64ok n) (hn1 : 1 ≤ n ∧ n ≤ 1000) (rr : GGraph × Int) (hrr : tp_Graph tT tI n = rr) : FT Tryz.prog 6 #[tP, vi n] [Cl tP [vl ta tk tT, vi tI], S ta tk tT] (fun g : Value × Value × Value => (0 ≤ rr.2 ∧ rr.2 ≤ (tT.length : Int)) ∧ (1 ≤ rr.1.Nodes.length ∧ rr.1.Nodes.length ≤ 1000 ∧ rr.1.Succ.length = rr.1.Nodes.length ∧ rr.1.Pred.length = rr.1.Nodes.length) ∧ (∀ l ∈ rr.1.Succ, (l.length : Int) ≤ 3000) ∧ (∀ l ∈ rr.1.Pred, (l.length : Int) ≤ 3000) ∧ ((rr.1.Nodes.length : Int) ≤ n)) (fun g => .agg #[g.1, g.2.1, g.2.2]) (fun g => [sl g.1 rr.1.Nodes, sl g.2.1 rr.1.Succ, sl g.2.2 rr.1.Pred, Cl tP [vl ta tk tT, vi rr.2]]) := by
 refine FTi Tryz.func6 fun w0 M0 F0 => ?_
 unfold i64ok at hn_0
 refine Fb 8 1 fun _ => Fo 1 fun ho2 => KS ?_
 refine Oa (Al ze28 [.slice none 0 0, .slice none 0 0, .slice none 0 0]) fun p3 => KS ?_
 refine Oq Vm (Oq Vm ?_)
 refine letv (tp_Next tT tI n) fun rv4 hg5 => ?_
 have hc6 := fn8 tP ta tk tT tI n pre pre rv4 hg5
 refine Oc [1, 1] ca8 hc6 ?_
 rintro - ⟨he7, he8, he9⟩
 unfold i64ok at he7
 refine Oq Vadd (Oq Va (KS ?_))
 refine JK_drawK [0, 1, 0, 4, 0, 16, 63, 0, 255] fmix ?_
 refine Dv [] Vm ?_
 have hn11 := List.length_replicate (n := ((1 + rv4.1) : Int).toNat) (a := ((default : GNode) : GNode))
 refine Dx [] [] [0] (fun G => (G.g 1 0)) [fun G => os (G.g 1 0) ((List.replicate ((1 + rv4.1) : Int).toNat (default : GNode)) : List GNode)] (fun G => xA (Amk (α := GNode) sl25 sz25 (default : GNode) zrd_GNode)) (Dv [] Vm ?_)
 have hn13 := List.length_replicate (n := ((1 + rv4.1) : Int).toNat) (a := ([] : List Int))
 refine Dx [] [] [0] (fun G => (G.g 3 0)) [fun G => os (G.g 3 0) ((List.replicate ((1 + rv4.1) : Int).toNat []) : List (List Int))] (fun G => xA (Amk (α := List Int) sl26 sz26 [] (fun _ _ => ⟨_, rfl, slrd_nil⟩))) (Dv [] Vm ?_)
 have hn15 := List.length_replicate (n := ((1 + rv4.1) : Int).toNat) (a := ([] : List Int))
 refine Dx [] [] [0] (fun G => (G.g 5 0)) [fun G => os (G.g 5 0) ((List.replicate ((1 + rv4.1) : Int).toNat []) : List (List Int))] (fun G => xA (Amk (α := List Int) sl26 sz26 [] (fun _ _ => ⟨_, rfl, slrd_nil⟩))) ?_
 refine Dx [3, 4, 5] [] [0, 0, 0] (fun G => .agg #[(G.g 1 0), (G.g 3 0), (G.g 5 0)]) [] (fun G => xV (v := .agg #[(G.g 1 0), (G.g 3 0), (G.g 5 0)]) (Vo 0 rfl (isO_os _ _) fun aq16 kq17 eq18 => (by rw [eq18]; exact Vo 1 rfl (isO_os _ _) fun aq19 kq20 eq21 => (by rw [eq21]; exact Vo 2 rfl (isO_os _ _) fun aq22 kq23 eq24 => (by rw [eq24]; exact Vbd st28 [.slice aq16 (((List.replicate ((1 + rv4.1) : Int).toNat (default : GNode)) : List GNode).length) kq17, .slice aq19 (((List.replicate ((1 + rv4.1) : Int).toNat []) : List (List Int)).length) kq20, .slice aq22 (((List.replicate ((1 + rv4.1) : Int).toNat []) : List (List Int)).length) kq23]))))) (Dx [] [] [0] (fun G => (G.g 7 0)) [fun G => Cl (G.g 7 0) [.slice none 0 0, .slice none 0 0, .slice none 0 0]] (fun G => xA (Al ze28 [.slice none 0 0, .slice none 0 0, .slice none 0 0])) (Dx0 [3, 4, 5, 6] [6] [1, 1, 1, 0] [fun G => Cl (G.g 7 0) [(G.g 1 0), (G.g 3 0), (G.g 5 0)]] (fun G => x1 0 rfl os_one fun ho26 => (x1 1 rfl os_one fun ho27 => (x1 2 rfl os_one fun ho28 => (xS (Scl [3] sh28 [(G.g 1 0), (G.g 3 0), (G.g 5 0)] (v := .agg #[(G.g 1 0), (G.g 3 0), (G.g 5 0)]) (h1 := show [(G.g 1 0), (G.g 3 0), (G.g 5 0)].all (·.oneCell') = true from (by simp only [List.all_cons, List.all_nil, ho26, ho27, ho28, Bool.and_true, Bool.true_and] <;> rfl))))))) ?_))
 refine Dn ⟨by kernel_rfl, fun G => ?_⟩
 refine Jw2 [(0, tP), (4, p3), (1, vi (1 + rv4.1)), (5, (G.g 7 0))] [0, 1, 2] [os (G.g 1 0) ((List.replicate ((1 + rv4.1) : Int).toNat (default : GNode)) : List GNode), os (G.g 3 0) ((List.replicate ((1 + rv4.1) : Int).toNat []) : List (List Int)), os (G.g 5 0) ((List.replicate ((1 + rv4.1) : Int).toNat []) : List (List Int)), Cl (G.g 7 0) [(G.g 1 0), (G.g 3 0), (G.g 5 0)]] ?_
 generalize G.g 1 0 = c10, G.g 3 0 = c12, G.g 5 0 = c14, G.g 7 0 = p25
 refine Jo 3 ?_; rintro a29 k30 rfl
 refine Fb 32 3 fun _ => ?_
 refine Jo 4 ?_; rintro a32 k33 rfl
 refine Fb 24 4 fun _ => ?_
 refine Jo 5 ?_; rintro a35 k36 rfl
 refine KS ?_
 refine Oq Vm (Oq Vm (Oq Vmul (Oq Vadd ?_)))
 refine letv (tp_Next tT rv4.2 ((2 * (1 + rv4.1)) + 1)) fun rv37 hg38 => ?_
 have hc39 := fn8 tP ta tk tT rv4.2 (((2 * (1 + rv4.1)) + 1)) pre pre rv37 hg38
 refine Oc [0, 1] ca8 hc39 ?_
 rintro - ⟨he40, he41, he42⟩
 unfold i64ok at he40
 refine Oq Va (KS ?_)
 refine Kl (γ := Nat × Int × List (List Int) × List (List Int) × Int × Option Addr × Nat × Option Addr × Nat) (fun (r43, ti_44, g1_45, g2_46, k_47, a48, k49, a50, k51) => ⟨[(0, tP), (4, p3), (1, vi (1 + rv4.1)), (5, p25), (6, vi k_47)], [O a50 k51 g2_46, O a48 k49 g1_45, Cl tP [vl ta tk tT, vi ti_44], Cl p3 [.slice none 0 0, .slice none 0 0, .slice none 0 0], S ta tk tT, O a29 k30 ((List.replicate ((1 + rv4.1) : Int).toNat (default : GNode)) : List GNode), Cl p25 [vl a29 k30 (List.replicate ((1 + rv4.1) : Int).toNat (default : GNode)), vl a48 k49 g1_45, vl a50 k51 g2_46]], tp_Graph_L0 tT (1 + rv4.1) r43 ti_44 g1_45 g2_46 k_47 = tp_Graph_L0 tT (1 + rv4.1) (rv37.1.toNat) rv37.2 (List.replicate ((1 + rv4.1) : Int).toNat []) (List.replicate ((1 + rv4.1) : Int).toNat []) rv37.1 ∧ r43 = k_47.toNat ∧ k_47 ≤ (rv37.1 : Int) ∧ (-9223372036854775808 ≤ ti_44 ∧ ti_44 ≤ 9223372036854775807) ∧ (0 ≤ ti_44 ∧ ti_44 ≤ (tT.length : Int)) ∧ (-9223372036854775808 ≤ k_47 ∧ k_47 ≤ 9223372036854775807) ∧ g1_45.length = (1 + rv4.1).toNat ∧ g2_46.length = (1 + rv4.1).toNat ∧ (∀ l ∈ g1_45, (l.length : Int) ≤ 3000 - k_47) ∧ (∀ l ∈ g2_46, (l.length : Int) ≤ 3000 - k_47) ∧ (k_47 ≤ 2100), r43⟩) (rv37.1.toNat, rv37.2, (List.replicate ((1 + rv4.1) : Int).toNat []), (List.replicate ((1 + rv4.1) : Int).toNat []), rv37.1, a32, k33, a35, k36) [5, 4, 0, 0, 0, 1, 1] ⟨rfl, rfl, aM1, aM1, aM1, aM1, iv0, iv0, (fun l hl => by rw [List.eq_of_mem_replicate hl]; show (0 : Int) ≤ _; omega), (fun l hl => by rw [List.eq_of_mem_replicate hl]; show (0 : Int) ≤ _; omega), iv0⟩ ?_
 rintro ⟨r43, ti_44, g1_45, g2_46, k_47, a48, k49, a50, k51⟩ ⟨hM52, hr53, hi54, hk55, ht56, hk57, hv58, hv59, hv60, hv61, hv62⟩
 refine JJ_nx fun _ _ hL hA => ?_; dsimp only at hL hA; subst hL hA
 refine Fb 24 0 fun _ => Fb 24 1 fun _ => Fb 8 4 fun _ => Fo 4 fun ho66 => Fb 32 5 fun _ => KS ?_
 refine Oq Vm (Oq Vgtr (KS ?_))
 refine Kc ?_ ?_
 ·intro h68
  have g69 := dt h68
  obtain ⟨r70, rfl⟩ := scc (n := r43) aM1
  refine KS ?_
  refine Oq Vm (Oq Vm ?_)
  refine letv (tp_Next tT ti_44 (1 + rv4.1)) fun rv71 hg72 => ?_
  have hc73 := fn8 tP ta tk tT ti_44 ((1 + rv4.1)) pre pre rv71 hg72
  refine Oc [2, 3] ca8 hc73 ?_
  rintro - ⟨he74, he75, he76⟩
  unfold i64ok at he74
  refine Oq Vm (Oq Vm ?_)
  refine letv (tp_Next tT rv71.2 (1 + rv4.1)) fun rv77 hg78 => ?_
  have hc79 := fn8 tP ta tk tT rv71.2 ((1 + rv4.1)) pre pre rv77 hg78
  refine Oc [0, 3] ca8 hc79 ?_
  rintro - ⟨he80, he81, he82⟩
  unfold i64ok at he80
  refine Oq Va (Oq Va (KS ?_))
  refine Jp 6 fun hp83 => ?_
  refine JJ_peekOL rv71.1.toNat 3 rfl rng fun a84 k85 => ?_
  refine Fb 8 1 fun _ => Fo 1 fun ho87 => ?_
  refine JJ_peekOL rv77.1.toNat 4 rfl rng fun a88 k89 => ?_
  refine Fb 8 1 fun _ => Fo 1 fun ho91 => ?_
  refine JK_drawK [0, 1, 0, 0, 8, 0, 0, 64, 0, 448, 960, 0, 4032, 0, 8192, 0, 57344, 122880, 0, 524224, 1048519, 2097095, 4194303, 8388607] fmix ?_
  refine Dv [4] (Vfa fo28_1 0) (Dv [9] (VldF sh26 0) (Dv [] Vm (Dv [4] (Vfa fo28_2 0) (Dv [9] (VldF sh26 0) (Dv [] Vm (Dv [4] (Vfa fo28_1 0) (Dv [9] (VldF sh26 0) (Dv [] Vm (Dv [2] (Vi sl26 0) ?_)))))))))
  refine Dv [2] (Vld sh22 0) (Dv [] Vm ?_)
  refine letv (r7_Insert (g1_45.getD rv71.1.toNat []) rv77.1) fun rv93 hg94 => ?_
  refine Dx [3] [] [2, 0, 1] (fun G => (G.g 12 0)) [fun G => SP.fact ((rv93.length ≤ (g1_45.getD rv71.1.toNat []).length + 1)), fun G => sl (G.g 12 0) rv93] (fun G => xC [0] ca13 (fn13 ((g1_45.getD rv71.1.toNat [])) a84 k85 rv77.1 pre (lenS_1 (by assumption) aM1) rv93 hg94)) (Dv [4] (Vfa fo28_2 0) (Dv [9] (VldF sh26 0) (Dv [] Vm (Dv [0] (Vi sl26 0) (Dv [0] (Vld sh22 0) (Dv [] Vm ?_))))))
  refine letv (r7_Insert (g2_46.getD rv77.1.toNat []) rv71.1) fun rv96 hg97 => ?_
  refine Dx [1, 10] [] [2, 3, 0, 1] (fun G => (G.g 19 0)) [fun G => SP.fact ((rv96.length ≤ (g2_46.getD rv77.1.toNat []).length + 1)), fun G => sl (G.g 19 0) rv96] (fun G => by refine xf 1 rfl ?_; rintro he98; exact xC [0] ca13 (fn13 ((g2_46.getD rv77.1.toNat [])) a88 k89 rv71.1 pre (lenS_1 (by assumption) aM1) rv96 hg97)) ?_
  refine Dx [2, 10] [] [0, 0] (fun G => (eptr 1 (vl a48 k49 g1_45) rv71.1.toNat)) [] (fun G => by refine xf 1 rfl ?_; rintro he99; exact xV (Vi sl26 0)) ?_
  refine Dx0 [2, 10, 11] [2] [2, 1, 0] [fun G => os (vl a48 k49 g1_45) (g1_45.set rv71.1.toNat rv93)] (fun G => by refine xf 1 rfl ?_; rintro he100; exact xp [0] rfl (Ent.oread _ _ _ _) (x1 2 rfl sl_one fun ho101 => (xS (OpS.frame [0, 1] rfl (OpS.storeOs' (Rs := [sl (G.g 12 0) rv93]) rv93 [(G.g 12 0)] rfl rfl rfl sh22 (cells_of_one ho101) rfl (fun h => ⟨_, rfl, sepAll_get (i := 0) rfl h⟩) rng))))) ?_
  refine Dx [0, 12] [] [0, 0] (fun G => (eptr 1 (vl a50 k51 g2_46) rv77.1.toNat)) [] (fun G => by refine xf 1 rfl ?_; rintro he102; exact xV (Vi sl26 0)) ?_
  refine Dx0 [0, 12, 13] [0] [2, 1, 0] [fun G => os (vl a50 k51 g2_46) (g2_46.set rv77.1.toNat rv96)] (fun G => by refine xf 1 rfl ?_; rintro he103; exact xp [0] rfl (Ent.oread _ _ _ _) (x1 2 rfl sl_one fun ho104 => (xS (OpS.frame [0, 1] rfl (OpS.storeOs' (Rs := [sl (G.g 19 0) rv96]) rv96 [(G.g 19 0)] rfl rfl rfl sh22 (cells_of_one ho104) rfl (fun h => ⟨_, rfl, sepAll_get (i := 0) rfl h⟩) rng))))) ?_
  refine Dn ⟨by kernel_rfl, fun G => ?_⟩
  refine Jw2 [(0, tP), (4, p3), (1, vi (1 + rv4.1)), (5, p25), (6, vi k_47)] [1, 3, 4, 5, 6, 7, 8, 9] [SP.fact ((rv93.length ≤ (g1_45.getD rv71.1.toNat []).length + 1)), sl (G.g 12 0) rv93, SP.fact ((rv96.length ≤ (g2_46.getD rv77.1.toNat []).length + 1)), sl (G.g 19 0) rv96, os (vl a48 k49 g1_45) (g1_45.set rv71.1.toNat rv93), os (vl a50 k51 g2_46) (g2_46.set rv77.1.toNat rv96)] ?_
  generalize G.g 12 0 = c92, G.g 19 0 = c95
  refine Jf 8 rfl ?_; rintro he105
  refine Jf 10 rfl ?_; rintro he106
  refine Jk [0, 1, 3, 3, 3, 4, 4, 5, 7, 8, 8] ?_
  refine Jo 7 ?_; rintro a107 k108 rfl
  refine Fb 8 7 fun _ => Fo 7 fun ho110 => ?_
  refine Jo 8 ?_; rintro a111 k112 rfl
  refine Fb 8 8 fun _ => Fo 8 fun ho114 => KS ?_
  refine Oq Vm (Oq Vsub (Oq Va (KS ?_)))
  refine Fl 9 fun hn115 => ?_; (try unfold vl); rw [← hn115]
  refine Fl 10 fun hn116 => ?_; (try unfold vl); rw [← hn116]
  exact Kg (r70, rv77.2, (g1_45.set rv71.1.toNat rv93), (g2_46.set rv77.1.toNat rv96), (k_47 - 1), a48, k49, a50, k51) [10, 9, 2, 2, 2, 3, 3] ⟨(q3 hM52 (by simp only [tp_Graph_L0, h68, hg72, hg78, hg94, hg97, cs4])), aM1, aM1, aM1, aM1, aM1, iv1, iv1, (lenS_set (by assumption) (by assumption) aM1 aM1), (lenS_set (by assumption) (by assumption) aM1 aM1), iv1⟩
 intro h68
 have g117 := df h68
 obtain rfl : r43 = 0 := by omega
 refine Ke ?_
 have hR118 := q2 hM52 (ti_44, g1_45, g2_46) (by simp only [tp_Graph_L0, h68, cs4])
 refine KS ?_
 refine Oq (VldA sh28 6) (Ost (Scl [3] sh28 [vl a29 k30 (List.replicate ((1 + rv4.1) : Int).toNat (default : GNode)), vl a48 k49 g1_45, vl a50 k51 g2_46]) (KS ?_))
 refine Jl [5] (Ent.freeze _ _) ?_
 refine Jl [3] (Ent.freeze _ _) ?_
 refine Jl [3] (Ent.freeze _ _) ?_
 have hq := q4 hrr ((GGraph.mk (List.replicate ((1 + rv4.1) : Int).toNat (default : GNode)) g1_45 g2_46), ti_44) (by simp only [tp_Graph, h68, hg5, hg38, hR118, cs4]); subst hq
 exact Kr (vl a29 k30 (List.replicate ((1 + rv4.1) : Int).toNat (default : GNode)), vl a48 k49 g1_45, vl a50 k51 g2_46) rfl (.cellN 3 rfl sh28 rfl (reads_Cl _ _) rfl .nil) [2, 1, 0, 4] ⟨en, (by have hTG := TG_len hrr hn1; omega), ((TG_ll hrr hn1).1), ((TG_ll hrr hn1).2), ((TG_len hrr hn1).2.1)⟩
theorem fn51 (l : List (List Int)) (la0 : Option Addr) (lk0 : Nat) (limit : Int) (hlimit_0 : i64ok limit) (hlim : limit = 1024) (rr : Int) (hrr : r7_total l limit = rr) : FT Tryz.prog 51 #[vl la0 lk0 l, vi limit] [S la0 lk0 l] (fun g : Unit => i64ok rr ∧ (0 ≤ rr ∧ rr ≤ 2049)) (fun g => vi rr) (fun g => []) := by
 refine FTi Tryz.func51 fun w0 M0 F0 => ?_
 unfold i64ok at hlimit_0
 refine Fb 24 0 fun _ => KS ?_
 refine Oq Va (KS ?_)
 refine Oq Va (KS ?_)
 refine Oq Va (KS ?_)
 refine Kl (γ := Nat × Int × Int) (fun (r2, n_3, i_4) => ⟨[(0, vl la0 lk0 l), (1, vi limit), (5, vi n_3), (6, vi i_4)], [S la0 lk0 l], r7_total_L0 l limit r2 n_3 i_4 = r7_total_L0 l limit (((l.length : Int) - 0).toNat) 0 0 ∧ r2 = ((l.length : Int) - i_4).toNat ∧ (0 : Int) ≤ i_4 ∧ i_4 ≤ (l.length : Int) ∧ (-9223372036854775808 ≤ n_3 ∧ n_3 ≤ 9223372036854775807) ∧ (-9223372036854775808 ≤ i_4 ∧ i_4 ≤ 9223372036854775807) ∧ (0 ≤ n_3 ∧ n_3 ≤ 2049), r2⟩) (((l.length : Int) - 0).toNat, 0, 0) [0] ⟨rfl, rfl, aM1, aM1, aM1, aM1, iv0⟩ ?_
 rintro ⟨r2, n_3, i_4⟩ ⟨hM5, hr6, hi7, hi8, hk9, hk10, hv11⟩
 refine JJ_nx fun _ _ hL hA => ?_; dsimp only at hL hA; subst hL hA
 refine Fb 24 0 fun _ => KS ?_
 refine Oq Vm (Oq Vm (Oq (Vlen sl26) (Oq Vlss (Oq Vm ?_))))
 refine Js 11 ?_ ?_
 ·intro h13
  have g14 := dt h13
  obtain ⟨r15, rfl⟩ := scc (n := r2) aM1
  refine Oq Vm (Oq Vm (Oq Vleq (Oq Vpt (KS ?_))))
  refine Kc ?_ ?_
  ·intro h16
   have g17 := dt h16
   refine KS ?_
   refine Oq Vm (Oq Vm (Oq Vm (Oq (Vi sl26 0) ?_)))
   refine JJ_peekL i_4.toNat 0 rfl rng fun a18 k19 => ?_
   refine Fb 8 1 fun _ => Fo 1 fun ho21 => ?_
   refine Oq (Vld sh22 0) (Oq (Vlen sl22) (Oq Vm (Oq Vadd (Oq Vmin (Oq Vadd (Oq Va (KS ?_)))))))
   refine Oq Vm (Oq Vadd (Oq Va (KS ?_)))
   exact Kg (r15, (n_3 + (min ((l.getD i_4.toNat []).length : Int) (limit + 1))), (i_4 + 1)) [2] ⟨(q3 hM5 (by simp only [r7_total_L0, h13, h16, cs4])), aM1, aM1, aM1, aM1, aM1, iv1⟩
  intro h16
  have g22 := df h16
  refine Ke ?_
  have hR23 := q2 hM5 n_3 (by simp only [r7_total_L0, h13, h16, cs4])
  refine KS ?_
  refine Oq Vm (Oq Va (KS ?_))
  have hq := q4 hrr n_3 (by simp only [r7_total, h13, h16, hR23, cs4]); subst hq
  exact Kr () rfl (.tmp rfl .nil) [] en
 intro h13
 have g24 := df h13
 obtain rfl : r2 = 0 := by omega
 refine Osk (Osk (Osk (Oq Vpf (KS ?_))))
 refine Kf ?_
 refine Ke ?_
 have hR25 := q2 hM5 n_3 (by simp only [r7_total_L0, h13, cs4])
 refine KS ?_
 refine Oq Vm (Oq Va (KS ?_))
 have hq := q4 hrr n_3 (by simp only [r7_total, h13, hR25, cs4]); subst hq
 exact Kr () rfl (.tmp rfl .nil) [] en
theorem fn52 (l : List Int) (la0 : Option Addr) (lk0 : Nat) (n : Int) (hn_0 : i64ok n) (rr : Bool) (hrr : r7_Rising l n = rr) : FT Tryz.prog 52 #[vl la0 lk0 l, vi n] [S la0 lk0 l] (fun g : Unit => True) (fun g => vb rr) (fun g => []) := by
 refine FTi Tryz.func52 fun w0 M0 F0 => ?_
 unfold i64ok at hn_0
 refine Fb 8 0 fun _ => Fo 0 fun ho2 => KS ?_
 refine Oq Va (KS ?_)
 refine Oq Va (KS ?_)
 refine Kl (γ := Nat × Int) (fun (r3, i_4) => ⟨[(0, vl la0 lk0 l), (1, vi n), (5, vi i_4)], [S la0 lk0 l], r7_Rising_L0 l n r3 i_4 = r7_Rising_L0 l n (((l.length : Int) - 0).toNat) 0 ∧ r3 = ((l.length : Int) - i_4).toNat ∧ (0 : Int) ≤ i_4 ∧ i_4 ≤ (l.length : Int) ∧ (-9223372036854775808 ≤ i_4 ∧ i_4 ≤ 9223372036854775807), r3⟩) (((l.length : Int) - 0).toNat, 0) [0] ⟨rfl, rfl, aM1, aM1, aM1⟩ ?_
 rintro ⟨r3, i_4⟩ ⟨hM5, hr6, hi7, hi8, hk9⟩
 refine JJ_nx fun _ _ hL hA => ?_; dsimp only at hL hA; subst hL hA
 refine Fb 8 0 fun _ => Fo 0 fun ho11 => KS ?_
 refine Oq Vm (Oq Vm (Oq (Vlen sl22) (Oq Vlss (KS ?_))))
 refine Kc ?_ ?_
 ·intro h12
  have g13 := dt h12
  obtain ⟨r14, rfl⟩ := scc (n := r3) aM1
  refine KS ?_
  refine Kq [0, 0, 3, 7, 15, 31, 63, 63, 255, 511, 63, 2047, 4095, 8191, 16383, 32767, 65535, 131071, 131071, 393215, 1048575, 2097151, 131071, 131071, 12713983, 29491199, 67108863, 134217727, 268435455] fmix ?_
  refine Qv [] Vm (Qv [] Vm (Qv [0] (Vi sl22 0) ?_))
  have hb15 := ok1 (i := i_4.toNat) ho11 rng
  refine Qv [0] (VldI sh3 0) (Qv [] Vlss ?_)
  refine bool_split (decide ((l.getD i_4.toNat 0) < 0)) ?_ ?_
  ·intro h16
   have g17 := dt h16
   refine Qb h16 [] Vm (Qs (Qs (Qs (Qs (Qs (Qs (Qv [] Vpt (Qv [] Vm (Qs ?_)))))))))
   refine Qs (Qs (Qs (Qs (Qs (Qs (Qs (Qs (Qs (Qs ?_)))))))))
   refine Qs (Qs (Qs (Qv [] Vpt ?_)))
   refine Qn ⟨by kernel_rfl, ?_⟩
   refine Kt (KS ?_)
   refine Oq Va (KS ?_)
   have hR18 := q2 hM5 (.ret false) (by simp only [r7_Rising_L0, h12, h16, cs4])
   have hq := q4 hrr false (by simp only [r7_Rising, h12, h16, hR18, cs4]); subst hq
   exact Kr () rfl (.tmp rfl .nil) [] trivial
  intro h16
  have g19 := df h16
  refine Qb h16 [] Vm (Qv [] Vm (Qv [] Vm (Qv [0] (Vi sl22 0) ?_)))
  have hb20 := ok1 (i := i_4.toNat) ho11 rng
  refine Qv [0] (VldI sh3 0) (Qv [] Vm (Qv [] Vgeq (Qv [] Vpf ?_)))
  refine bool_split (decide (n ≤ (l.getD i_4.toNat 0))) ?_ ?_
  ·intro h21
   have g22 := dt h21
   refine Qb h21 [] Vm (Qs (Qs (Qs (Qs (Qs (Qs (Qs (Qs (Qs ?_)))))))))
   refine Qs (Qs (Qs (Qs (Qs (Qv [] Vpt ?_)))))
   refine Qn ⟨by kernel_rfl, ?_⟩
   refine Kt (KS ?_)
   refine Oq Va (KS ?_)
   have hR23 := q2 hM5 (.ret false) (by simp only [r7_Rising_L0, h12, h16, h21, cs4])
   have hq := q4 hrr false (by simp only [r7_Rising, h12, h16, h21, hR23, cs4]); subst hq
   exact Kr () rfl (.tmp rfl .nil) [] trivial
  intro h21
  have g24 := df h21
  refine Qb h21 [] Vm (Qv [] Vm (Qv [] Vgtr ?_))
  refine bool_split (decide (0 < i_4)) ?_ ?_
  ·intro h25
   have g26 := dt h25
   refine Qb h25 [] Vm (Qv [] Vm (Qv [] Vm (Qv [] Vsub (Qv [0] (Vi sl22 0) ?_))))
   have hb27 := ok1 (i := ((i_4 - 1) : Int).toNat) ho11 rng
   refine Qv [0] (VldI sh3 0) (Qv [] Vm (Qv [] Vm (Qv [0] (Vi sl22 0) ?_)))
   have hb28 := ok1 (i := i_4.toNat) ho11 rng
   refine Qv [0] (VldI sh3 0) (Qv [] Vgeq (Qv [] Vpt (Qv [] Vpf ?_)))
   refine Qn ⟨by kernel_rfl, ?_⟩
   refine Kc ?_ ?_
   ·intro h29
    have g30 := dt h29
    refine KS ?_
    refine Oq Va (KS ?_)
    have hR31 := q2 hM5 (.ret false) (by simp only [r7_Rising_L0, h12, h16, h21, h25, h29, cs4])
    have hq := q4 hrr false (by simp only [r7_Rising, h12, h16, h21, h25, h29, hR31, cs4]); subst hq
    exact Kr () rfl (.tmp rfl .nil) [] trivial
   intro h29
   have g32 := df h29
   refine KS ?_
   refine Oq Vm (Oq Vadd (Oq Va (KS ?_)))
   exact Kg (r14, (i_4 + 1)) [0] ⟨(q3 hM5 (by simp only [r7_Rising_L0, h12, h16, h21, h25, h29, cs4])), aM1, aM1, aM1, aM1⟩
  intro h25
  have g33 := df h25
  refine Qb h25 [] Vm (Qs (Qs (Qs (Qs (Qs (Qs (Qs (Qs (Qs ?_)))))))))
  refine Qs (Qv [] Vpf (Qv [] Vpf ?_))
  refine Qn ⟨by kernel_rfl, ?_⟩
  refine Kf (KS ?_)
  refine Oq Vm (Oq Vadd (Oq Va (KS ?_)))
  exact Kg (r14, (i_4 + 1)) [0] ⟨(q3 hM5 (by simp only [r7_Rising_L0, h12, h16, h21, h25, cs4])), aM1, aM1, aM1, aM1⟩
 intro h12
 have g34 := df h12
 obtain rfl : r3 = 0 := by omega
 refine Ke ?_
 have hR35 := q2 hM5 (.brk ()) (by simp only [r7_Rising_L0, h12, cs4])
 refine KS ?_
 refine Oq Va (KS ?_)
 have hq := q4 hrr true (by simp only [r7_Rising, h12, hR35, cs4]); subst hq
 exact Kr () rfl (.tmp rfl .nil) [] trivial
theorem fn53 (l : List Int) (la0 : Option Addr) (lk0 : Nat) (n : Int) (hn_0 : i64ok n) (rr : Bool) (hrr : r7_Has l n = rr) : FT Tryz.prog 53 #[vl la0 lk0 l, vi n] [S la0 lk0 l] (fun g : Unit => True) (fun g => vb rr) (fun g => []) := by
 refine FTi Tryz.func53 fun w0 M0 F0 => ?_
 unfold i64ok at hn_0
 refine Fb 8 0 fun _ => Fo 0 fun ho2 => KS ?_
 refine Oq Va (KS ?_)
 refine Oq Va (KS ?_)
 refine Kl (γ := Nat × Int) (fun (r3, i_4) => ⟨[(0, vl la0 lk0 l), (1, vi n), (5, vi i_4)], [S la0 lk0 l], r7_Has_L0 l n r3 i_4 = r7_Has_L0 l n (((l.length : Int) - 0).toNat) 0 ∧ r3 = ((l.length : Int) - i_4).toNat ∧ (0 : Int) ≤ i_4 ∧ i_4 ≤ (l.length : Int) ∧ (-9223372036854775808 ≤ i_4 ∧ i_4 ≤ 9223372036854775807), r3⟩) (((l.length : Int) - 0).toNat, 0) [0] ⟨rfl, rfl, aM1, aM1, aM1⟩ ?_
 rintro ⟨r3, i_4⟩ ⟨hM5, hr6, hi7, hi8, hk9⟩
 refine JJ_nx fun _ _ hL hA => ?_; dsimp only at hL hA; subst hL hA
 refine Fb 8 0 fun _ => Fo 0 fun ho11 => KS ?_
 refine Oq Vm (Oq Vm (Oq (Vlen sl22) (Oq Vlss (KS ?_))))
 refine Kc ?_ ?_
 ·intro h12
  have g13 := dt h12
  obtain ⟨r14, rfl⟩ := scc (n := r3) aM1
  refine KS ?_
  refine Oq Vm (Oq Vm (Oq (Vi sl22 0) ?_))
  have hb15 := ok1 (i := i_4.toNat) ho11 rng
  refine Oq (VldI sh3 0) (Oq Vm (Oq Veql (KS ?_)))
  refine Kc ?_ ?_
  ·intro h16
   have g17 := eq_of_beq h16
   refine KS ?_
   refine Oq Va (KS ?_)
   have hR18 := q2 hM5 (.ret true) (by simp only [r7_Has_L0, h12, h16, cs4])
   have hq := q4 hrr true (by simp only [r7_Has, h12, h16, hR18, cs4]); subst hq
   exact Kr () rfl (.tmp rfl .nil) [] trivial
  intro h16
  have g19 := ne_of_beq_false h16
  refine KS ?_
  refine Oq Vm (Oq Vadd (Oq Va (KS ?_)))
  exact Kg (r14, (i_4 + 1)) [0] ⟨(q3 hM5 (by simp only [r7_Has_L0, h12, h16, cs4])), aM1, aM1, aM1, aM1⟩
 intro h12
 have g20 := df h12
 obtain rfl : r3 = 0 := by omega
 refine Ke ?_
 have hR21 := q2 hM5 (.brk ()) (by simp only [r7_Has_L0, h12, cs4])
 refine KS ?_
 refine Oq Va (KS ?_)
 have hq := q4 hrr false (by simp only [r7_Has, h12, hR21, cs4]); subst hq
 exact Kr () rfl (.tmp rfl .nil) [] trivial
theorem fn35 (g : GGraph) (ga0 : Option Addr) (gk0 : Nat) (ga1 : Option Addr) (gk1 : Nat) (ga2 : Option Addr) (gk2 : Nat) (rr : Bool) (hrr : r7_ValidGraph g = rr) : FT Tryz.prog 35 #[.agg #[vl ga0 gk0 g.Nodes, vl ga1 gk1 g.Succ, vl ga2 gk2 g.Pred]] [S ga0 gk0 g.Nodes, S ga1 gk1 g.Succ, S ga2 gk2 g.Pred] (fun g : Unit => True) (fun g => vb rr) (fun g => []) := by
 refine FTi Tryz.func35 fun w0 M0 F0 => Fb 32 0 fun _ => Fb 24 1 fun _ => Fb 24 2 fun _ => ?_
 refine KS ?_
 refine Oa (Ab [vl ga0 gk0 g.Nodes, vl ga1 gk1 g.Succ, vl ga2 gk2 g.Pred]) fun p4 => Oq Va (KS ?_)
 refine Oq (Vfa fo28_0 0) (Oq (VldF sh25 0) (Oq (Vlen sl25) (Oq Va (KS ?_))))
 refine Oq Vm (Oq Vlss (Oq Vm ?_))
 refine Js 13 ?_ ?_
 ·intro h5
  have g6 := dt h5
  refine Osk (Osk (Oq Vpt (Oq Vm (Osk (Osk (Osk (Osk (Osk (Oq Vpt ?_)))))))))
  refine Oq Vm (Osk (Osk (Osk (Osk (Osk (Oq Vpt (Oq Vm (Osk (Osk ?_)))))))))
  refine Osk (Osk (Oq Vpt (Oq Vm (Osk (Osk (Osk (Osk (Oq Vpt (KS ?_)))))))))
  refine Kt (KS ?_)
  refine Oq Va (KS ?_)
  have hq := q4 hrr false (by simp only [r7_ValidGraph, h5, cs4]); subst hq
  exact Kr () rfl (.tmp rfl .nil) [] trivial
 intro h5
 have g7 := df h5
 refine Oq Vm (Oq Vgtr (Oq Vpf (Oq Vm ?_)))
 refine Js 17 ?_ ?_
 ·intro h8
  have g9 := dt h8
  refine Osk (Osk (Osk (Osk (Osk (Oq Vpt (Oq Vm (Osk (Osk (Osk ?_)))))))))
  refine Osk (Osk (Oq Vpt (Oq Vm (Osk (Osk (Osk (Osk (Oq Vpt (Oq Vm ?_)))))))))
  refine Osk (Osk (Osk (Osk (Oq Vpt (KS ?_)))))
  refine Kt (KS ?_)
  refine Oq Va (KS ?_)
  have hq := q4 hrr false (by simp only [r7_ValidGraph, h5, h8, cs4]); subst hq
  exact Kr () rfl (.tmp rfl .nil) [] trivial
 intro h8
 have g10 := df h8
 refine Oq (Vfa fo28_1 0) (Oq (VldF sh26 0) (Oq (Vlen sl26) (Oq Vm (Oq Vneq (Oq Vpf (Oq Vm ?_))))))
 refine Js 24 ?_ ?_
 ·intro h11
  have g12 := ne_of_bne h11
  refine Osk (Osk (Osk (Osk (Osk (Oq Vpt (Oq Vm (Osk (Osk (Osk ?_)))))))))
  refine Osk (Oq Vpt (Oq Vm (Osk (Osk (Osk (Osk (Oq Vpt (KS ?_))))))))
  refine Kt (KS ?_)
  refine Oq Va (KS ?_)
  have hq := q4 hrr false (by simp only [r7_ValidGraph, h5, h8, h11, cs4]); subst hq
  exact Kr () rfl (.tmp rfl .nil) [] trivial
 intro h11
 have g13 := eq_of_bne_false h11
 refine Oq (Vfa fo28_2 0) (Oq (VldF sh26 0) (Oq (Vlen sl26) (Oq Vm (Oq Vneq (Oq Vpf (Oq Vm ?_))))))
 refine Js 31 ?_ ?_
 ·intro h14
  have g15 := ne_of_bne h14
  refine Osk (Osk (Osk (Osk (Oq Vpt (Oq Vm (Osk (Osk (Osk (Osk ?_)))))))))
  refine Oq Vpt (KS ?_)
  refine Kt (KS ?_)
  refine Oq Va (KS ?_)
  have hq := q4 hrr false (by simp only [r7_ValidGraph, h5, h8, h11, h14, cs4]); subst hq
  exact Kr () rfl (.tmp rfl .nil) [] trivial
 intro h14
 have g16 := eq_of_bne_false h14
 refine Oq (Vfa fo28_1 0) (Oq (VldF sh26 0) ?_)
 refine letv (r7_total g.Succ 1024) fun rv17 hg18 => ?_
 have hc19 := fn51 g.Succ ga1 gk1 1024 pre pre rv17 hg18
 refine Oc [2] ca51 hc19 ?_
 rintro - ⟨he20, he21⟩
 unfold i64ok at he20
 refine Oq Vgtr (Oq Vpf (Oq Vm ?_))
 refine Js 37 ?_ ?_
 ·intro h22
  have g23 := dt h22
  refine Osk (Osk (Osk (Osk (Oq Vpt (KS ?_)))))
  refine Kt (KS ?_)
  refine Oq Va (KS ?_)
  have hq := q4 hrr false (by simp only [r7_ValidGraph, h5, h8, h11, h14, h22, hg18, cs4]); subst hq
  exact Kr () rfl (.tmp rfl .nil) [] trivial
 intro h22
 have g24 := df h22
 refine Oq (Vfa fo28_2 0) (Oq (VldF sh26 0) ?_)
 refine letv (r7_total g.Pred 1024) fun rv25 hg26 => ?_
 have hc27 := fn51 g.Pred ga2 gk2 1024 pre pre rv25 hg26
 refine Oc [3] ca51 hc27 ?_
 rintro - ⟨he28, he29⟩
 unfold i64ok at he28
 refine Oq Vgtr (Oq Vpf (KS ?_))
 refine Kc ?_ ?_
 ·intro h30
  have g31 := dt h30
  refine KS ?_
  refine Oq Va (KS ?_)
  have hq := q4 hrr false (by simp only [r7_ValidGraph, h5, h8, h11, h14, h22, h30, hg18, hg26, cs4]); subst hq
  exact Kr () rfl (.tmp rfl .nil) [] trivial
 intro h30
 have g32 := df h30
 refine KS ?_
 refine Oq Va (KS ?_)
 refine Kl (γ := Nat × Int) (fun (r33, i_34) => ⟨[(1, p4), (3, vi (g.Nodes.length : Int)), (4, vi i_34)], [pv p4 [vl ga0 gk0 g.Nodes, vl ga1 gk1 g.Succ, vl ga2 gk2 g.Pred], S ga0 gk0 g.Nodes, S ga1 gk1 g.Succ, S ga2 gk2 g.Pred], r7_ValidGraph_L0 g r33 i_34 = r7_ValidGraph_L0 g (((g.Nodes.length : Int) - 0).toNat) 0 ∧ r33 = ((g.Nodes.length : Int) - i_34).toNat ∧ (0 : Int) ≤ i_34 ∧ i_34 ≤ (g.Nodes.length : Int) ∧ (-9223372036854775808 ≤ i_34 ∧ i_34 ≤ 9223372036854775807), r33⟩) (((g.Nodes.length : Int) - 0).toNat, 0) [0, 1, 2, 3] ⟨rfl, rfl, aM1, aM1, aM1⟩ ?_
 rintro ⟨r33, i_34⟩ ⟨hM35, hr36, hi37, hi38, hk39⟩
 refine JJ_nx fun _ _ hL hA => ?_; dsimp only at hL hA; subst hL hA
 refine Fb 32 1 fun _ => Fb 24 2 fun _ => Fb 24 3 fun _ => KS ?_
 refine Oq Vm (Oq Vm (Oq Vlss (KS ?_)))
 refine Kc ?_ ?_
 ·intro h43
  have g44 := dt h43
  obtain ⟨r45, rfl⟩ := scc (n := r33) aM1
  refine KS ?_
  refine Oq (Vfa fo28_1 0) (Oq (VldF sh26 0) (Oq Vm (Oq (Vi sl26 2) ?_)))
  refine JJ_peekL i_34.toNat 2 rfl rng fun a46 k47 => ?_
  refine Fb 8 1 fun _ => Fo 1 fun ho49 => ?_
  refine Oq (Vld sh22 0) (Oq Vm ?_)
  refine letv (r7_Rising (g.Succ.getD i_34.toNat []) (g.Nodes.length : Int)) fun rv50 hg51 => ?_
  have hc52 := fn52 ((g.Succ.getD i_34.toNat [])) a46 k47 ((g.Nodes.length : Int)) pre rv50 hg51
  refine Oc [1] ca52 hc52 ?_
  rintro - -
  refine Oq Vnot (Oq Vm ?_)
  refine Js 56 ?_ ?_
  ·intro h53
   have h55 := not_true h53
   refine Osk (Osk (Osk (Osk (Osk (Osk (Osk (Osk (Oq Vpt (KS ?_)))))))))
   refine Kt (KS ?_)
   refine Oq Va (KS ?_)
   have hR57 := q2 hM35 (.ret false) (by simp only [r7_ValidGraph_L0, h43, h53, h55, hg51, cs4])
   have hq := q4 hrr false (by simp only [r7_ValidGraph, h5, h8, h11, h14, h22, h30, h43, h53, h55, hg18, hg26, hg51, hR57, cs4]); subst hq
   exact Kr () rfl (.tmp rfl .nil) [] trivial
  intro h53
  have h59 := not_false h53
  refine Oq (Vfa fo28_2 2) (Oq (VldF sh26 2) (Oq Vm (Oq (Vi sl26 5) ?_)))
  refine JJ_peekL i_34.toNat 5 rfl rng fun a61 k62 => ?_
  refine Fb 8 1 fun _ => Fo 1 fun ho64 => ?_
  refine Oq (Vld sh22 0) (Oq Vm ?_)
  refine letv (r7_Rising (g.Pred.getD i_34.toNat []) (g.Nodes.length : Int)) fun rv65 hg66 => ?_
  have hc67 := fn52 ((g.Pred.getD i_34.toNat [])) a61 k62 ((g.Nodes.length : Int)) pre rv65 hg66
  refine Oc [1] ca52 hc67 ?_
  rintro - -
  refine Oq Vnot (Oq Vpf (KS ?_))
  refine Kc ?_ ?_
  ·intro h68
   have h70 := not_true h68
   refine KS ?_
   refine Oq Va (KS ?_)
   have hR72 := q2 hM35 (.ret false) (by simp only [r7_ValidGraph_L0, h43, h53, h59, h68, h70, hg51, hg66, cs4])
   have hq := q4 hrr false (by simp only [r7_ValidGraph, h5, h8, h11, h14, h22, h30, h43, h53, h59, h68, h70, hg18, hg26, hg51, hg66, hR72, cs4]); subst hq
   exact Kr () rfl (.tmp rfl .nil) [] trivial
  intro h68
  have h74 := not_false h68
  refine KS ?_
  refine Oq Vm (Oq Vadd (Oq Va (KS ?_)))
  exact Kg (r45, (i_34 + 1)) [4, 5, 6, 7] ⟨(q3 hM35 (by simp only [r7_ValidGraph_L0, h43, h53, h59, h68, h74, hg51, hg66, cs4])), aM1, aM1, aM1, aM1⟩
 intro h43
 have g76 := df h43
 obtain rfl : r33 = 0 := by omega
 refine Ke ?_
 have hR77 := q2 hM35 (.brk ()) (by simp only [r7_ValidGraph_L0, h43, cs4])
 refine KS ?_
 refine Oq Va (KS ?_)
 refine Kl (γ := Nat × Int) (fun (r78, i_79) => ⟨[(1, p4), (3, vi (g.Nodes.length : Int)), (5, vi i_79)], [pv p4 [vl ga0 gk0 g.Nodes, vl ga1 gk1 g.Succ, vl ga2 gk2 g.Pred], S ga0 gk0 g.Nodes, S ga1 gk1 g.Succ, S ga2 gk2 g.Pred], r7_ValidGraph_L1 g r78 i_79 = r7_ValidGraph_L1 g (((g.Nodes.length : Int) - 0).toNat) 0 ∧ r78 = ((g.Nodes.length : Int) - i_79).toNat ∧ (0 : Int) ≤ i_79 ∧ i_79 ≤ (g.Nodes.length : Int) ∧ (-9223372036854775808 ≤ i_79 ∧ i_79 ≤ 9223372036854775807), r78⟩) (((g.Nodes.length : Int) - 0).toNat, 0) [0, 1, 2, 3] ⟨rfl, rfl, aM1, aM1, aM1⟩ ?_
 rintro ⟨r78, i_79⟩ ⟨hM80, hr81, hi82, hi83, hk84⟩
 refine JJ_nx fun _ _ hL hA => ?_; dsimp only at hL hA; subst hL hA
 refine Fb 32 1 fun _ => Fb 24 2 fun _ => Fb 24 3 fun _ => KS ?_
 refine Oq Vm (Oq Vm (Oq Vlss (KS ?_)))
 refine Kc ?_ ?_
 ·intro h88
  have g89 := dt h88
  obtain ⟨r90, rfl⟩ := scc (n := r78) aM1
  refine KS ?_
  refine Oq Va (KS ?_)
  refine Kl (γ := Nat × Int) (fun (r91, k_92) => ⟨[(1, p4), (3, vi (g.Nodes.length : Int)), (5, vi i_79), (6, vi k_92)], [pv p4 [vl ga0 gk0 g.Nodes, vl ga1 gk1 g.Succ, vl ga2 gk2 g.Pred], S ga0 gk0 g.Nodes, S ga1 gk1 g.Succ, S ga2 gk2 g.Pred], r7_ValidGraph_L2 g i_79 r91 k_92 = r7_ValidGraph_L2 g i_79 (((((g.Succ.getD i_79.toNat []).length : Int) : Int) - 0).toNat) 0 ∧ r91 = ((((g.Succ.getD i_79.toNat []).length : Int) : Int) - k_92).toNat ∧ (0 : Int) ≤ k_92 ∧ (k_92 ≤ ((g.Succ.getD i_79.toNat []).length : Int) ∨ k_92 = 0) ∧ (-9223372036854775808 ≤ k_92 ∧ k_92 ≤ 9223372036854775807), r91⟩) (((((g.Succ.getD i_79.toNat []).length : Int) : Int) - 0).toNat, 0) [0, 1, 2, 3] ⟨rfl, rfl, aM1, (.inr rfl), aM1⟩ ?_
  rintro ⟨r91, k_92⟩ ⟨hM93, hr94, hi95, hi96, hk97⟩
  refine JJ_nx fun _ _ hL hA => ?_; dsimp only at hL hA; subst hL hA
  refine Fb 32 1 fun _ => Fb 24 2 fun _ => Fb 24 3 fun _ => KS ?_
  refine Oq Vm (Oq (Vfa fo28_1 0) (Oq (VldF sh26 0) (Oq Vm (Oq (Vi sl26 2) ?_))))
  refine JJ_peekL i_79.toNat 2 rfl rng fun a101 k102 => ?_
  refine Fb 8 1 fun _ => Fo 1 fun ho104 => ?_
  refine Oq (Vld sh22 0) (Oq (Vlen sl22) (Oq Vlss (KS ?_)))
  refine Kc ?_ ?_
  ·intro h105
   have g106 := dt h105
   have hbr := rVs (by assumption) (i := i_79) (k := k_92) aM1 aM1
   obtain ⟨r107, rfl⟩ := scc (n := r91) aM1
   refine KS ?_
   refine JJ_peekL (((g.Succ.getD i_79.toNat []).getD k_92.toNat 0) : Int).toNat 5 rfl rng fun a108 k109 => ?_
   refine Fb 8 1 fun _ => Fo 1 fun ho111 => ?_
   refine JK_drawK [0, 1, 0, 4, 0, 28, 60, 0, 252, 508, 1023, 2047, 0, 8191, 16383] fmix ?_
   refine Dv [4] (Vfa fo28_2 0) (Dv [4] (VldF sh26 0) (Dv [4] (Vfa fo28_1 0) (Dv [4] (VldF sh26 0) (Dv [] Vm (Dv [6] (Vi sl26 0) (Dv [2] (Vld sh22 0) (Dv [] Vm (Dv [3] (Vi sl22 0) ?_))))))))
   have hb112 := ok1 (i := k_92.toNat) ho104 rng
   refine Dv [3] (VldI sh3 0) (Dv [7] (Vi sl26 0) (Dv [0] (Vld sh22 0) (Dv [] Vm ?_)))
   refine letv (r7_Has (g.Pred.getD (((g.Succ.getD i_79.toNat []).getD k_92.toNat 0) : Int).toNat []) i_79) fun rv113 hg114 => ?_
   refine Dx [1] [] [1, 0] (fun G => vb rv113) [fun G => SP.fact (True)] (fun G => xC [0] ca53 (fn53 ((g.Pred.getD (((g.Succ.getD i_79.toNat []).getD k_92.toNat 0) : Int).toNat [])) a108 k109 i_79 pre rv113 hg114)) (Dv [] Vnot ?_)
   refine Dn ⟨by kernel_rfl, fun G => ?_⟩
   refine Jw2 [(1, p4), (3, vi (g.Nodes.length : Int)), (5, vi i_79), (6, vi k_92), (95, vb (!rv113))] [0, 1, 2, 3, 4, 5, 6, 7] [SP.fact (True)] ?_
   refine Jk [0, 1, 2, 3, 4, 5, 6, 7] ?_
   refine Kc ?_ ?_
   ·intro h115
    have h117 := not_true h115
    refine KS ?_
    refine Oq Va (KS ?_)
    have hR119 := q2 hM93 (.ret false) (by simp only [r7_ValidGraph_L2, h105, h115, h117, hg114, cs4])
    have hR120 := q2 hM80 (.ret false) (by simp only [r7_ValidGraph_L1, h88, h105, h115, h117, hg114, hR119, cs4])
    have hq := q4 hrr false (by simp only [r7_ValidGraph, h5, h8, h11, h14, h22, h30, h43, h88, h105, h115, h117, hg18, hg26, hR77, hg114, hR119, hR120, cs4]); subst hq
    exact Kr () rfl (.tmp rfl .nil) [] trivial
   intro h115
   have h122 := not_false h115
   refine KS ?_
   refine Oq Vm (Oq Vadd (Oq Va (KS ?_)))
   exact Kg (r107, (k_92 + 1)) [4, 5, 6, 7] ⟨(q3 hM93 (by simp only [r7_ValidGraph_L2, h105, h115, h122, hg114, cs4])), aM1, aM1, aM1, aM1⟩
  intro h105
  have g124 := df h105
  obtain rfl : r91 = 0 := by omega
  refine Ke ?_
  have hR125 := q2 hM93 (.brk ()) (by simp only [r7_ValidGraph_L2, h105, cs4])
  refine KS ?_
  refine Oq Va (KS ?_)
  refine Kl (γ := Nat × Int) (fun (r126, k_127) => ⟨[(1, p4), (3, vi (g.Nodes.length : Int)), (5, vi i_79), (7, vi k_127)], [pv p4 [vl ga0 gk0 g.Nodes, vl ga1 gk1 g.Succ, vl ga2 gk2 g.Pred], S ga0 gk0 g.Nodes, S ga1 gk1 g.Succ, S ga2 gk2 g.Pred], r7_ValidGraph_L3 g i_79 r126 k_127 = r7_ValidGraph_L3 g i_79 (((((g.Pred.getD i_79.toNat []).length : Int) : Int) - 0).toNat) 0 ∧ r126 = ((((g.Pred.getD i_79.toNat []).length : Int) : Int) - k_127).toNat ∧ (0 : Int) ≤ k_127 ∧ (k_127 ≤ ((g.Pred.getD i_79.toNat []).length : Int) ∨ k_127 = 0) ∧ (-9223372036854775808 ≤ k_127 ∧ k_127 ≤ 9223372036854775807), r126⟩) (((((g.Pred.getD i_79.toNat []).length : Int) : Int) - 0).toNat, 0) [2, 3, 4, 5] ⟨rfl, rfl, aM1, (.inr rfl), aM1⟩ ?_
  rintro ⟨r126, k_127⟩ ⟨hM128, hr129, hi130, hi131, hk132⟩
  refine JJ_nx fun _ _ hL hA => ?_; dsimp only at hL hA; subst hL hA
  refine Fb 32 1 fun _ => Fb 24 2 fun _ => Fb 24 3 fun _ => KS ?_
  refine Oq Vm (Oq (Vfa fo28_2 0) (Oq (VldF sh26 0) (Oq Vm (Oq (Vi sl26 3) ?_))))
  refine JJ_peekL i_79.toNat 3 rfl rng fun a136 k137 => ?_
  refine Fb 8 1 fun _ => Fo 1 fun ho139 => ?_
  refine Oq (Vld sh22 0) (Oq (Vlen sl22) (Oq Vlss (KS ?_)))
  refine Kc ?_ ?_
  ·intro h140
   have g141 := dt h140
   have hbr := rVp (by assumption) (i := i_79) (k := k_127) aM1 aM1
   obtain ⟨r142, rfl⟩ := scc (n := r126) aM1
   refine KS ?_
   refine JJ_peekL (((g.Pred.getD i_79.toNat []).getD k_127.toNat 0) : Int).toNat 4 rfl rng fun a143 k144 => ?_
   refine Fb 8 1 fun _ => Fo 1 fun ho146 => ?_
   refine JK_drawK [0, 1, 0, 4, 0, 28, 60, 0, 252, 508, 1023, 2047, 0, 8191, 16383] fmix ?_
   refine Dv [4] (Vfa fo28_1 0) (Dv [4] (VldF sh26 0) (Dv [4] (Vfa fo28_2 0) (Dv [4] (VldF sh26 0) (Dv [] Vm (Dv [7] (Vi sl26 0) (Dv [2] (Vld sh22 0) (Dv [] Vm (Dv [3] (Vi sl22 0) ?_))))))))
   have hb147 := ok1 (i := k_127.toNat) ho139 rng
   refine Dv [3] (VldI sh3 0) (Dv [6] (Vi sl26 0) (Dv [0] (Vld sh22 0) (Dv [] Vm ?_)))
   refine letv (r7_Has (g.Succ.getD (((g.Pred.getD i_79.toNat []).getD k_127.toNat 0) : Int).toNat []) i_79) fun rv148 hg149 => ?_
   refine Dx [1] [] [1, 0] (fun G => vb rv148) [fun G => SP.fact (True)] (fun G => xC [0] ca53 (fn53 ((g.Succ.getD (((g.Pred.getD i_79.toNat []).getD k_127.toNat 0) : Int).toNat [])) a143 k144 i_79 pre rv148 hg149)) (Dv [] Vnot ?_)
   refine Dn ⟨by kernel_rfl, fun G => ?_⟩
   refine Jw2 [(1, p4), (3, vi (g.Nodes.length : Int)), (5, vi i_79), (7, vi k_127), (120, vb (!rv148))] [0, 1, 2, 3, 4, 5, 6, 7] [SP.fact (True)] ?_
   refine Jk [0, 1, 2, 3, 4, 5, 6, 7] ?_
   refine Kc ?_ ?_
   ·intro h150
    have h152 := not_true h150
    refine KS ?_
    refine Oq Va (KS ?_)
    have hR154 := q2 hM128 (.ret false) (by simp only [r7_ValidGraph_L3, h140, h150, h152, hg149, cs4])
    have hR155 := q2 hM80 (.ret false) (by simp only [r7_ValidGraph_L1, h88, h105, h140, h150, h152, hR125, hg149, hR154, cs4])
    have hq := q4 hrr false (by simp only [r7_ValidGraph, h5, h8, h11, h14, h22, h30, h43, h88, h105, h140, h150, h152, hg18, hg26, hR77, hR125, hg149, hR154, hR155, cs4]); subst hq
    exact Kr () rfl (.tmp rfl .nil) [] trivial
   intro h150
   have h157 := not_false h150
   refine KS ?_
   refine Oq Vm (Oq Vadd (Oq Va (KS ?_)))
   exact Kg (r142, (k_127 + 1)) [4, 5, 6, 7] ⟨(q3 hM128 (by simp only [r7_ValidGraph_L3, h140, h150, h157, hg149, cs4])), aM1, aM1, aM1, aM1⟩
  intro h140
  have g159 := df h140
  obtain rfl : r126 = 0 := by omega
  refine Ke ?_
  have hR160 := q2 hM128 (.brk ()) (by simp only [r7_ValidGraph_L3, h140, cs4])
  refine KS ?_
  refine Oq Vm (Oq Vadd (Oq Va (KS ?_)))
  exact Kg (r90, (i_79 + 1)) [2, 3, 4, 5] ⟨(q3 hM80 (by simp only [r7_ValidGraph_L1, h88, h105, h140, hR125, hR160, cs4])), aM1, aM1, aM1, aM1⟩
 intro h88
 have g161 := df h88
 obtain rfl : r78 = 0 := by omega
 refine Ke ?_
 have hR162 := q2 hM80 (.brk ()) (by simp only [r7_ValidGraph_L1, h88, cs4])
 refine KS ?_
 refine Oq Va (KS ?_)
 have hq := q4 hrr true (by simp only [r7_ValidGraph, h5, h8, h11, h14, h22, h30, h43, h88, hg18, hg26, hR77, hR162, cs4]); subst hq
 exact Kr () rfl (.tmp rfl .nil) [] trivial
theorem fn28 (g : GGraph) (ga0 : Option Addr) (gk0 : Nat) (ga1 : Option Addr) (gk1 : Nat) (ga2 : Option Addr) (gk2 : Nat) (root : Int) (hroot_0 : i64ok root) (rr : List Int × Int) (hrr : r30_Levels g root = rr) : FT Tryz.prog 28 #[.agg #[vl ga0 gk0 g.Nodes, vl ga1 gk1 g.Succ, vl ga2 gk2 g.Pred], vi root] [S ga0 gk0 g.Nodes, S ga1 gk1 g.Succ, S ga2 gk2 g.Pred] (fun g : Value => i64ok rr.2) (fun g => .tuple #[g, vi rr.2]) (fun g => [sl g rr.1]) := by
 refine FTi Tryz.func28 fun w0 M0 F0 => ?_
 unfold i64ok at hroot_0
 refine Fb 32 0 fun _ => Fb 24 1 fun _ => Fb 24 2 fun _ => KS ?_
 refine Oa (Ab [vl ga0 gk0 g.Nodes, vl ga1 gk1 g.Succ, vl ga2 gk2 g.Pred]) fun p4 => Oq Va (Oq Va (KS ?_))
 refine Oq (VldA sh28 0) ?_
 refine letv (r7_ValidGraph g) fun rv5 hg6 => ?_
 have hc7 := fn35 g ga0 gk0 ga1 gk1 ga2 gk2 rv5 hg6
 refine Oc [1, 2, 3] ca35 hc7 ?_
 rintro - -
 refine Oq Vnot (KS ?_)
 refine Kc ?_ ?_
 ·intro h8
  have h10 := not_true h8
  refine KS ?_
  refine Oq Va (Oq Va (KS ?_))
  refine Jl [] (Ent.slNil (α := Int)) ?_
  have hq := q4 hrr (([] : List Int), 1) (by simp only [r30_Levels, h8, h10, hg6, cs4]); subst hq
  exact Kr (.slice none 0 0) rfl (.tmp rfl (.tmp rfl .nil)) [0] en
 intro h8
 have h13 := not_false h8
 try (have hgv := rGVf (by assumption) h8; have hn1 := hgv.n1; have hsl := hgv.sl; have hpl := hgv.pl)
 try have hnp := near_f (by assumption) h8
 refine KS ?_
 refine Oq Vm (Oq Vlss (Oq Vm ?_))
 refine Js 16 ?_ ?_
 ·intro h15
  have g16 := dt h15
  refine Osk (Osk (Osk (Osk (Osk (Oq Vpt (KS ?_))))))
  refine Kt (KS ?_)
  refine Oq Va (Oq Va (KS ?_))
  refine Jl [] (Ent.slNil (α := Int)) ?_
  have hq := q4 hrr (([] : List Int), 9) (by simp only [r30_Levels, h8, h13, h15, hg6, cs4]); subst hq
  exact Kr (.slice none 0 0) rfl (.tmp rfl (.tmp rfl .nil)) [0] en
 intro h15
 have g17 := df h15
 refine Oq Vm (Oq (Vfa fo28_0 0) (Oq (VldF sh25 0) (Oq (Vlen sl25) (Oq Vgeq (Oq Vpf (KS ?_))))))
 refine Kc ?_ ?_
 ·intro h18
  have g19 := dt h18
  refine KS ?_
  refine Oq Va (Oq Va (KS ?_))
  refine Jl [] (Ent.slNil (α := Int)) ?_
  have hq := q4 hrr (([] : List Int), 9) (by simp only [r30_Levels, h8, h13, h15, h18, hg6, cs4]); subst hq
  exact Kr (.slice none 0 0) rfl (.tmp rfl (.tmp rfl .nil)) [0] en
 intro h18
 have g20 := df h18
 refine KS ?_
 refine Oq (Vfa fo28_0 0) (Oq (VldF sh25 0) (Oq (Vlen sl25) ?_))
 refine Oa (Amk (α := Int) sl22 sz22 (0 : Int) (fun _ _ => ⟨rfl, by unfold i64ok; decide⟩)) fun c21 => ?_
 refine Jo 0 ?_; rintro a22 k23 rfl
 refine Fb 8 0 fun _ => Fo 0 fun ho25 => ?_
 have hn26 := List.length_replicate (n := (g.Nodes.length : Int).toNat) (a := ((0 : Int) : Int))
 refine Oq Va (KS ?_)
 refine Oq Va (KS ?_)
 refine Kl (γ := Nat × List Int × Int) (fun (r27, d_28, i_29) => ⟨[(1, vi root), (2, p4), (6, vl a22 k23 (List.replicate (g.Nodes.length : Int).toNat (0 : Int))), (7, vi i_29)], [os (vl a22 k23 (List.replicate (g.Nodes.length : Int).toNat (0 : Int))) d_28, pv p4 [vl ga0 gk0 g.Nodes, vl ga1 gk1 g.Succ, vl ga2 gk2 g.Pred], S ga0 gk0 g.Nodes, S ga1 gk1 g.Succ, S ga2 gk2 g.Pred], r30_Levels_L0 r27 d_28 i_29 = r30_Levels_L0 ((((((List.replicate (g.Nodes.length : Int).toNat (0 : Int)).length : Nat) : Int) : Int) - 0).toNat) (List.replicate (g.Nodes.length : Int).toNat (0 : Int)) 0 ∧ r27 = (((((List.replicate (g.Nodes.length : Int).toNat (0 : Int)).length : Nat) : Int) : Int) - i_29).toNat ∧ (0 : Int) ≤ i_29 ∧ (i_29 ≤ (((List.replicate (g.Nodes.length : Int).toNat (0 : Int)).length : Nat) : Int) ∨ i_29 = 0) ∧ (-9223372036854775808 ≤ i_29 ∧ i_29 ≤ 9223372036854775807) ∧ (d_28.length = g.Nodes.length) ∧ (DI g.Nodes.length d_28), r27⟩) ((((((List.replicate (g.Nodes.length : Int).toNat (0 : Int)).length : Nat) : Int) : Int) - 0).toNat, (List.replicate (g.Nodes.length : Int).toNat (0 : Int)), 0) [0, 0, 1, 2, 3] ⟨rfl, rfl, aM1, (.inr rfl), aM1, iv0, (DI_rep _ _)⟩ ?_
 rintro ⟨r27, d_28, i_29⟩ ⟨hM30, hr31, hi32, hi33, hk34, hv35, hv36⟩
 refine JJ_nx fun _ _ hL hA => ?_; dsimp only at hL hA; subst hL hA
 refine Fb 8 0 fun _ => Fo 0 fun ho38 => Fl 0 fun hn39 => ?_
 refine Fb 32 2 fun _ => Fb 24 3 fun _ => Fb 24 4 fun _ => KS ?_
 refine Oq Vm (Oq Vm (Oq (Vlen sl22) (Oq Vlss (KS ?_))))
 refine Kc ?_ ?_
 ·intro h43
  have g44 := dt h43
  obtain ⟨r45, rfl⟩ := scc (n := r27) aM1
  refine KS ?_
  refine Oq Vm (Oq Vm (Oq (Vi sl22 0) (Ost (SoI [0] sh3) (KS ?_))))
  refine Oq Vm (Oq Vadd (Oq Va (KS ?_)))
  exact Kg (r45, (d_28.set i_29.toNat (-1)), (i_29 + 1)) [0, 0, 1, 2, 3] ⟨(q3 hM30 (by simp only [r30_Levels_L0, h43, cs4])), aM1, aM1, aM1, aM1, iv1, (DI_set (by assumption) aM1)⟩
 intro h43
 have g46 := df h43
 obtain rfl : r27 = 0 := by omega
 refine Ke ?_
 have hR47 := q2 hM30 d_28 (by simp only [r30_Levels_L0, h43, cs4])
 refine KS ?_
 refine Oq Vm (Oq Vm (Oq (Vi sl22 0) (Ost (SoI [0] sh3) (KS ?_))))
 refine Oq Va (KS ?_)
 refine Kl (γ := Nat × List Int × Int) (fun (r48, d_49, level_50) => ⟨[(2, p4), (6, vl a22 k23 (List.replicate (g.Nodes.length : Int).toNat (0 : Int))), (8, vi level_50)], [os (vl a22 k23 (List.replicate (g.Nodes.length : Int).toNat (0 : Int))) d_49, pv p4 [vl ga0 gk0 g.Nodes, vl ga1 gk1 g.Succ, vl ga2 gk2 g.Pred], S ga0 gk0 g.Nodes, S ga1 gk1 g.Succ, S ga2 gk2 g.Pred], r30_Levels_L1 g r48 d_49 level_50 = r30_Levels_L1 g ((((((List.replicate (g.Nodes.length : Int).toNat (0 : Int)).length : Nat) : Int) : Int) - 0).toNat) (d_28.set root.toNat 0) 0 ∧ r48 = (((((List.replicate (g.Nodes.length : Int).toNat (0 : Int)).length : Nat) : Int) : Int) - level_50).toNat ∧ (0 : Int) ≤ level_50 ∧ (level_50 ≤ (((List.replicate (g.Nodes.length : Int).toNat (0 : Int)).length : Nat) : Int) ∨ level_50 = 0) ∧ (-9223372036854775808 ≤ level_50 ∧ level_50 ≤ 9223372036854775807) ∧ (d_49.length = g.Nodes.length) ∧ (DI g.Nodes.length d_49), r48⟩) ((((((List.replicate (g.Nodes.length : Int).toNat (0 : Int)).length : Nat) : Int) : Int) - 0).toNat, (d_28.set root.toNat 0), 0) [0, 0, 1, 2, 3] ⟨rfl, rfl, aM1, (.inr rfl), aM1, iv0, (DI_set (by assumption) aM1)⟩ ?_
 rintro ⟨r48, d_49, level_50⟩ ⟨hM51, hr52, hi53, hi54, hk55, hv56, hv57⟩
 refine JJ_nx fun _ _ hL hA => ?_; dsimp only at hL hA; subst hL hA
 refine Fb 8 0 fun _ => Fo 0 fun ho59 => Fl 0 fun hn60 => ?_
 refine Fb 32 2 fun _ => Fb 24 3 fun _ => Fb 24 4 fun _ => KS ?_
 refine Oq Vm (Oq Vm (Oq (Vlen sl22) (Oq Vlss (KS ?_))))
 refine Kc ?_ ?_
 ·intro h64
  have g65 := dt h64
  obtain ⟨r66, rfl⟩ := scc (n := r48) aM1
  refine KS ?_
  refine Oq Va (KS ?_)
  refine Kl (γ := Nat × List Int × Int) (fun (r67, d_68, i_69) => ⟨[(2, p4), (6, vl a22 k23 (List.replicate (g.Nodes.length : Int).toNat (0 : Int))), (8, vi level_50), (9, vi i_69)], [os (vl a22 k23 (List.replicate (g.Nodes.length : Int).toNat (0 : Int))) d_68, pv p4 [vl ga0 gk0 g.Nodes, vl ga1 gk1 g.Succ, vl ga2 gk2 g.Pred], S ga0 gk0 g.Nodes, S ga1 gk1 g.Succ, S ga2 gk2 g.Pred], r30_Levels_L2 g level_50 r67 d_68 i_69 = r30_Levels_L2 g level_50 ((((((List.replicate (g.Nodes.length : Int).toNat (0 : Int)).length : Nat) : Int) : Int) - 0).toNat) d_49 0 ∧ r67 = (((((List.replicate (g.Nodes.length : Int).toNat (0 : Int)).length : Nat) : Int) : Int) - i_69).toNat ∧ (0 : Int) ≤ i_69 ∧ (i_69 ≤ (((List.replicate (g.Nodes.length : Int).toNat (0 : Int)).length : Nat) : Int) ∨ i_69 = 0) ∧ (-9223372036854775808 ≤ i_69 ∧ i_69 ≤ 9223372036854775807) ∧ (d_68.length = g.Nodes.length) ∧ (DI g.Nodes.length d_68), r67⟩) ((((((List.replicate (g.Nodes.length : Int).toNat (0 : Int)).length : Nat) : Int) : Int) - 0).toNat, d_49, 0) [0, 0, 1, 2, 3] ⟨rfl, rfl, aM1, (.inr rfl), aM1, iv0, (by assumption)⟩ ?_
  rintro ⟨r67, d_68, i_69⟩ ⟨hM70, hr71, hi72, hi73, hk74, hv75, hv76⟩
  refine JJ_nx fun _ _ hL hA => ?_; dsimp only at hL hA; subst hL hA
  refine Fb 8 0 fun _ => Fo 0 fun ho78 => Fl 0 fun hn79 => ?_
  refine Fb 32 2 fun _ => Fb 24 3 fun _ => Fb 24 4 fun _ => KS ?_
  refine Oq Vm (Oq Vm (Oq (Vlen sl22) (Oq Vlss (KS ?_))))
  refine Kc ?_ ?_
  ·intro h83
   have g84 := dt h83
   obtain ⟨r85, rfl⟩ := scc (n := r67) aM1
   refine KS ?_
   refine Oq Va (KS ?_)
   have hterm94 : r30_Levels_L3 g level_50 i_69 ((g.Succ.getD i_69.toNat []).length + 1 : Nat) d_68 0 ≠ LR.oof := (Lev3_t _ _ _ aM1 aM1 aM1)
   refine Kl (γ := Nat × List Int × Int) (fun (r86, d_87, k_88) => ⟨[(2, p4), (6, vl a22 k23 (List.replicate (g.Nodes.length : Int).toNat (0 : Int))), (8, vi level_50), (9, vi i_69), (10, vi k_88)], [os (vl a22 k23 (List.replicate (g.Nodes.length : Int).toNat (0 : Int))) d_87, pv p4 [vl ga0 gk0 g.Nodes, vl ga1 gk1 g.Succ, vl ga2 gk2 g.Pred], S ga0 gk0 g.Nodes, S ga1 gk1 g.Succ, S ga2 gk2 g.Pred], r30_Levels_L3 g level_50 i_69 r86 d_87 k_88 = r30_Levels_L3 g level_50 i_69 ((g.Succ.getD i_69.toNat []).length + 1 : Nat) d_68 0 ∧ (-9223372036854775808 ≤ k_88 ∧ k_88 ≤ 9223372036854775807) ∧ (0 ≤ k_88) ∧ (d_87.length = g.Nodes.length) ∧ (DI g.Nodes.length d_87), r86⟩) (((g.Succ.getD i_69.toNat []).length + 1 : Nat), d_68, 0) [0, 0, 1, 2, 3] ⟨rfl, aM1, iv0, iv0, (by assumption)⟩ ?_
   rintro ⟨r86, d_87, k_88⟩ ⟨hM89, hk90, hv91, hv92, hv93⟩
   refine JJ_nx fun _ _ hL hA => ?_; dsimp only at hL hA; subst hL hA
   refine Fb 8 0 fun _ => Fo 0 fun ho96 => Fl 0 fun hn97 => ?_
   refine Fb 32 2 fun _ => Fb 24 3 fun _ => Fb 24 4 fun _ => ?_
   rcases r86 with _ | r86
   ·exact absurd (hM89.symm.trans rfl) hterm94
   refine KS ?_
   refine Oq Vm (Oq Vm (Oq (Vi sl22 0) ?_))
   have hb101 := ok1 (i := i_69.toNat) ho96 rng
   refine Oq (VldI sh3 0) (Oq Vm (Oq Veql (Oq Vm ?_)))
   refine Js 57 ?_ ?_
   ·intro h102
    have g103 := eq_of_beq h102
    refine Oq Vm (Oq (Vfa fo28_1 1) (Oq (VldF sh26 1) (Oq Vm (Oq (Vi sl26 3) ?_))))
    refine JJ_peekL i_69.toNat 3 rfl rng fun a104 k105 => ?_
    refine Fb 8 1 fun _ => Fo 1 fun ho107 => ?_
    refine Oq (Vld sh22 0) (Oq (Vlen sl22) (Oq Vlss (Oq Vpt (KS ?_))))
    refine Kc ?_ ?_
    ·intro h108
     have g109 := dt h108
     have hsm := Asc_in (hgv.sa i_69 aM1 aM1) (i := k_88) ⟨by omega, by omega⟩; have hsq := Asc_l (hgv.sa i_69 aM1 aM1) aM1
     refine KS ?_
     refine Oq Vm (Oq (Vfa fo28_1 3) (Oq (VldF sh26 3) (Oq Vm (Oq (Vi sl26 5) (Oq (Vld sh22 0) (Oq Vm (Oq (Vi sl22 1) ?_)))))))
     have hb110 := ok1 (i := k_88.toNat) ho107 rng
     refine Oq (VldI sh3 1) (Oq (Vi sl22 2) ?_)
     have hb111 := ok1 (i := (((g.Succ.getD i_69.toNat []).getD k_88.toNat 0) : Int).toNat) ho96 rng
     refine Oq (VldI sh3 2) (Oq Vlss (KS ?_))
     refine Kc ?_ ?_
     ·intro h112
      have g113 := dt h112
      refine KS ?_
      refine Oq Vm (Oq (Vfa fo28_1 3) (Oq (VldF sh26 3) (Oq Vm (Oq (Vi sl26 5) (Oq (Vld sh22 0) (Oq Vm (Oq (Vi sl22 1) ?_)))))))
      have hb114 := ok1 (i := k_88.toNat) ho107 rng
      refine Oq (VldI sh3 1) (Oq Vm (Oq Vadd (Oq (Vi sl22 2) (Ost (SoI [2] sh3) (KS ?_)))))
      refine Oq Vm (Oq Vadd (Oq Va (KS ?_)))
      exact Kg (r86, (d_87.set (((g.Succ.getD i_69.toNat []).getD k_88.toNat 0) : Int).toNat (level_50 + 1)), (k_88 + 1)) [0, 2, 3, 4, 5] ⟨(q3 hM89 (by simp only [r30_Levels_L3, h102, h108, h112, cs4])), aM1, iv1, iv1, (by first | assumption | exact DI_set (by assumption) aM1)⟩
     intro h112
     have g115 := df h112
     refine KS ?_
     refine Oq Vm (Oq Vadd (Oq Va (KS ?_)))
     exact Kg (r86, d_87, (k_88 + 1)) [2, 2, 3, 4, 5] ⟨(q3 hM89 (by simp only [r30_Levels_L3, h102, h108, h112, cs4])), aM1, iv1, iv1, (by first | assumption | exact DI_set (by assumption) aM1)⟩
    intro h108
    have g116 := df h108
    refine Ke ?_
    have hR117 := q2 hM89 (.brk d_87) (by simp only [r30_Levels_L3, h102, h108, cs4])
    refine KS ?_
    refine Oq Vm (Oq Vadd (Oq Va (KS ?_)))
    exact Kg (r85, d_87, (i_69 + 1)) [2, 2, 3, 4, 5] ⟨(q3 hM70 (by simp only [r30_Levels_L2, h83, h102, h108, hR117, cs4])), aM1, aM1, aM1, aM1, iv1, (by assumption)⟩
   intro h102
   have g118 := ne_of_beq_false h102
   refine Osk (Osk (Osk (Osk (Osk (Osk (Osk (Osk (Oq Vpf (KS ?_)))))))))
   refine Kf ?_
   refine Ke ?_
   have hR119 := q2 hM89 (.brk d_87) (by simp only [r30_Levels_L3, h102, cs4])
   refine KS ?_
   refine Oq Vm (Oq Vadd (Oq Va (KS ?_)))
   exact Kg (r85, d_87, (i_69 + 1)) [0, 0, 1, 2, 3] ⟨(q3 hM70 (by simp only [r30_Levels_L2, h83, h102, hR119, cs4])), aM1, aM1, aM1, aM1, iv1, (by assumption)⟩
  intro h83
  have g120 := df h83
  obtain rfl : r67 = 0 := by omega
  refine Ke ?_
  have hR121 := q2 hM70 d_68 (by simp only [r30_Levels_L2, h83, cs4])
  refine KS ?_
  refine Oq Vm (Oq Vadd (Oq Va (KS ?_)))
  exact Kg (r66, d_68, (level_50 + 1)) [0, 0, 1, 2, 3] ⟨(q3 hM51 (by simp only [r30_Levels_L1, h64, h83, hR121, cs4])), aM1, aM1, aM1, aM1, iv1, (by assumption)⟩
 intro h64
 have g122 := df h64
 obtain rfl : r48 = 0 := by omega
 refine Ke ?_
 have hR123 := q2 hM51 d_49 (by simp only [r30_Levels_L1, h64, cs4])
 refine KS ?_
 refine Oq Vm (Oq Va (Oq Va (KS ?_)))
 refine Jl [0] (Ent.freeze _ _) ?_
 have hq := q4 hrr (d_49, 0) (by simp only [r30_Levels, h8, h13, h15, h18, h43, h64, hg6, hR47, hR123, cs4]); subst hq
 exact Kr (vl a22 k23 (List.replicate (g.Nodes.length : Int).toNat (0 : Int))) rfl (.tmp rfl (.tmp rfl .nil)) [0] en
theorem fn31 (g : GGraph) (ga0 : Option Addr) (gk0 : Nat) (ga1 : Option Addr) (gk1 : Nat) (ga2 : Option Addr) (gk2 : Nat) (d : List Int) (da0 : Option Addr) (dk0 : Nat) (place : List Int) (placea0 : Option Addr) (placek0 : Nat) (n : Int) (hn_0 : i64ok n) (hgv : GV g) (hd0 : DI g.Nodes.length d) (hd1 : d.length = g.Nodes.length) (hp1 : place.length = g.Nodes.length) (hn0 : 0 ≤ n ∧ n < (g.Nodes.length : Int)) (rr : Int) (hrr : r30_least g d place n = rr) : FT Tryz.prog 31 #[.agg #[vl ga0 gk0 g.Nodes, vl ga1 gk1 g.Succ, vl ga2 gk2 g.Pred], vl da0 dk0 d, vl placea0 placek0 place, vi n] [S ga0 gk0 g.Nodes, S ga1 gk1 g.Succ, S ga2 gk2 g.Pred, S da0 dk0 d, S placea0 placek0 place] (fun g : Unit => i64ok rr) (fun g => vi rr) (fun g => []) := by
 refine FTi Tryz.func31 fun w0 M0 F0 => ?_
 unfold i64ok at hn_0
 refine Fb 32 0 fun _ => Fb 24 1 fun _ => Fb 24 2 fun _ => Fb 8 3 fun _ => Fo 3 fun ho5 => Fb 8 4 fun _ => Fo 4 fun ho7 => ?_
 have hn1 := hgv.n1
 have hsl := hgv.sl
 have hpl := hgv.pl
 have hdn := DI_get (i := n.toNat) hd0 aM1
 refine KS ?_
 refine Oa (Ab [vl ga0 gk0 g.Nodes, vl ga1 gk1 g.Succ, vl ga2 gk2 g.Pred]) fun p8 => Oq Va (KS ?_)
 refine Oq Va (KS ?_)
 refine Oq Va (KS ?_)
 refine Kl (γ := Nat × Int × Int) (fun (r9, best_10, i_11) => ⟨[(1, vl da0 dk0 d), (2, vl placea0 placek0 place), (3, vi n), (4, p8), (9, vi best_10), (10, vi i_11)], [pv p8 [vl ga0 gk0 g.Nodes, vl ga1 gk1 g.Succ, vl ga2 gk2 g.Pred], S ga0 gk0 g.Nodes, S ga1 gk1 g.Succ, S ga2 gk2 g.Pred, S da0 dk0 d, S placea0 placek0 place], r30_least_L0 g d place n r9 best_10 i_11 = r30_least_L0 g d place n (((((g.Pred.getD n.toNat []).length : Int) : Int) - 0).toNat) (-1) 0 ∧ r9 = ((((g.Pred.getD n.toNat []).length : Int) : Int) - i_11).toNat ∧ (0 : Int) ≤ i_11 ∧ (i_11 ≤ ((g.Pred.getD n.toNat []).length : Int) ∨ i_11 = 0) ∧ (-9223372036854775808 ≤ best_10 ∧ best_10 ≤ 9223372036854775807) ∧ (-9223372036854775808 ≤ i_11 ∧ i_11 ≤ 9223372036854775807), r9⟩) (((((g.Pred.getD n.toNat []).length : Int) : Int) - 0).toNat, -1, 0) [0, 1, 2, 3, 4, 5] ⟨rfl, rfl, aM1, (.inr rfl), aM1, aM1⟩ ?_
 rintro ⟨r9, best_10, i_11⟩ ⟨hM12, hr13, hi14, hi15, hk16, hk17⟩
 refine JJ_nx fun _ _ hL hA => ?_; dsimp only at hL hA; subst hL hA
 refine Fb 32 1 fun _ => Fb 24 2 fun _ => Fb 24 3 fun _ => Fb 8 4 fun _ => Fo 4 fun ho22 => Fb 8 5 fun _ => Fo 5 fun ho24 => KS ?_
 refine Oq Vm (Oq (Vfa fo28_2 0) (Oq (VldF sh26 0) (Oq Vm (Oq (Vi sl26 3) ?_))))
 refine JJ_peekL n.toNat 3 rfl rng fun a25 k26 => ?_
 refine Fb 8 1 fun _ => Fo 1 fun ho28 => ?_
 refine Oq (Vld sh22 0) (Oq (Vlen sl22) (Oq Vlss (KS ?_)))
 refine Kc ?_ ?_
 ·intro h29
  have g30 := dt h29
  have hsm := Asc_in (hgv.pa n aM1 aM1) (i := i_11) ⟨by omega, by omega⟩
  obtain ⟨r31, rfl⟩ := scc (n := r9) aM1
  refine KS ?_
  refine Oq (Vfa fo28_2 2) (Oq (VldF sh26 2) (Oq Vm (Oq (Vi sl26 5) (Oq (Vld sh22 0) (Oq Vm (Oq (Vi sl22 1) ?_))))))
  have hb32 := ok1 (i := i_11.toNat) ho28 rng
  refine Oq (VldI sh3 1) (Oq Va (KS ?_))
  refine Kq [0, 0, 3, 7, 15, 31, 63, 63, 255, 511, 63, 63, 3135, 7231, 15423, 32767, 65535, 131071, 262143, 524287, 1048575, 2097151, 2097151, 8388607, 16777215, 2097151, 67108863, 134217727, 268435455] fmix ?_
  refine Qv [] Vm (Qv [] Vm (Qv [6] (Vi sl22 0) ?_))
  have hb33 := ok1 (i := (((g.Pred.getD n.toNat []).getD i_11.toNat 0) : Int).toNat) ho22 rng
  refine Qv [6] (VldI sh3 0) (Qv [] Vgeq ?_)
  refine bool_split (decide (0 ≤ (d.getD (((g.Pred.getD n.toNat []).getD i_11.toNat 0) : Int).toNat 0))) ?_ ?_
  ·intro h34
   have g35 := dt h34
   refine Qb h34 [] Vm (Qv [] Vm (Qv [] Vm (Qv [6] (Vi sl22 0) ?_)))
   have hb36 := ok1 (i := (((g.Pred.getD n.toNat []).getD i_11.toNat 0) : Int).toNat) ho22 rng
   refine Qv [6] (VldI sh3 0) (Qv [] Vm (Qv [] Vm (Qv [6] (Vi sl22 0) ?_)))
   have hb37 := ok1 (i := n.toNat) ho22 rng
   refine Qv [6] (VldI sh3 0) (Qv [] Vsub (Qv [] Veql (Qv [] Vpt ?_)))
   refine bool_split ((d.getD (((g.Pred.getD n.toNat []).getD i_11.toNat 0) : Int).toNat 0) == ((d.getD n.toNat 0) - 1)) ?_ ?_
   ·intro h38
    have g39 := eq_of_beq h38
    refine Qb h38 [] Vm (Qv [] Vm (Qv [] Vlss ?_))
    refine bool_split (decide (best_10 < 0)) ?_ ?_
    ·intro h40
     have g41 := dt h40
     refine Qb h40 [] Vm (Qs (Qs (Qs (Qs (Qs (Qs (Qv [] Vpt (Qv [] Vpt ?_))))))))
     refine Qn ⟨by kernel_rfl, ?_⟩
     refine Kt (KS ?_)
     refine Oq Vm (Oq Vm (Oq (Vi sl22 7) ?_))
     have hb42 := ok1 (i := (((g.Pred.getD n.toNat []).getD i_11.toNat 0) : Int).toNat) ho24 rng
     refine Oq (VldI sh3 7) (Oq Va (KS ?_))
     refine Oq Vm (Oq Vadd (Oq Va (KS ?_)))
     exact Kg (r31, (place.getD (((g.Pred.getD n.toNat []).getD i_11.toNat 0) : Int).toNat 0), (i_11 + 1)) [2, 3, 4, 5, 6, 7] ⟨(q3 hM12 (by simp only [r30_least_L0, h29, h34, h38, h40, cs4])), aM1, aM1, aM1, aM1, aM1⟩
    intro h40
    have g43 := df h40
    refine Qb h40 [] Vm (Qv [] Vm (Qv [] Vm (Qv [7] (Vi sl22 0) ?_)))
    have hb44 := ok1 (i := (((g.Pred.getD n.toNat []).getD i_11.toNat 0) : Int).toNat) ho24 rng
    refine Qv [7] (VldI sh3 0) (Qv [] Vm (Qv [] Vlss (Qv [] Vpf (Qv [] Vpt ?_))))
    refine Qn ⟨by kernel_rfl, ?_⟩
    refine Kc ?_ ?_
    ·intro h45
     have g46 := dt h45
     refine KS ?_
     refine Oq Vm (Oq Vm (Oq (Vi sl22 7) ?_))
     have hb47 := ok1 (i := (((g.Pred.getD n.toNat []).getD i_11.toNat 0) : Int).toNat) ho24 rng
     refine Oq (VldI sh3 7) (Oq Va (KS ?_))
     refine Oq Vm (Oq Vadd (Oq Va (KS ?_)))
     exact Kg (r31, (place.getD (((g.Pred.getD n.toNat []).getD i_11.toNat 0) : Int).toNat 0), (i_11 + 1)) [2, 3, 4, 5, 6, 7] ⟨(q3 hM12 (by simp only [r30_least_L0, h29, h34, h38, h40, h45, cs4])), aM1, aM1, aM1, aM1, aM1⟩
    intro h45
    have g48 := df h45
    refine KS ?_
    refine Oq Vm (Oq Vadd (Oq Va (KS ?_)))
    exact Kg (r31, best_10, (i_11 + 1)) [2, 3, 4, 5, 6, 7] ⟨(q3 hM12 (by simp only [r30_least_L0, h29, h34, h38, h40, h45, cs4])), aM1, aM1, aM1, aM1, aM1⟩
   intro h38
   have g49 := ne_of_beq_false h38
   refine Qb h38 [] Vm (Qs (Qs (Qs (Qs (Qs (Qs (Qs (Qs (Qs ?_)))))))))
   refine Qs (Qv [] Vpf ?_)
   refine Qn ⟨by kernel_rfl, ?_⟩
   refine Kf (KS ?_)
   refine Oq Vm (Oq Vadd (Oq Va (KS ?_)))
   exact Kg (r31, best_10, (i_11 + 1)) [2, 3, 4, 5, 6, 7] ⟨(q3 hM12 (by simp only [r30_least_L0, h29, h34, h38, cs4])), aM1, aM1, aM1, aM1, aM1⟩
  intro h34
  have g50 := df h34
  refine Qb h34 [] Vm (Qs (Qs (Qs (Qs (Qs (Qs (Qs (Qs (Qs ?_)))))))))
  refine Qs (Qv [] Vpf (Qv [] Vm (Qs (Qs (Qs (Qs (Qs (Qs (Qs ?_)))))))))
  refine Qs (Qs (Qs (Qv [] Vpf ?_)))
  refine Qn ⟨by kernel_rfl, ?_⟩
  refine Kf (KS ?_)
  refine Oq Vm (Oq Vadd (Oq Va (KS ?_)))
  exact Kg (r31, best_10, (i_11 + 1)) [2, 3, 4, 5, 6, 7] ⟨(q3 hM12 (by simp only [r30_least_L0, h29, h34, cs4])), aM1, aM1, aM1, aM1, aM1⟩
 intro h29
 have g51 := df h29
 obtain rfl : r9 = 0 := by omega
 refine Ke ?_
 have hR52 := q2 hM12 best_10 (by simp only [r30_least_L0, h29, cs4])
 refine KS ?_
 refine Oq Vm (Oq Va (KS ?_))
 have hq := q4 hrr best_10 (by simp only [r30_least, h29, hR52, cs4]); subst hq
 exact Kr () rfl (.tmp rfl .nil) [] en
theorem fn14 (g : GGraph) (ga0 : Option Addr) (gk0 : Nat) (ga1 : Option Addr) (gk1 : Nat) (ga2 : Option Addr) (gk2 : Nat) (root : Int) (hroot_0 : i64ok root) (rr : List (List Int) × Int) (hrr : r30_Places g root = rr) : FT Tryz.prog 14 #[.agg #[vl ga0 gk0 g.Nodes, vl ga1 gk1 g.Succ, vl ga2 gk2 g.Pred], vi root] [S ga0 gk0 g.Nodes, S ga1 gk1 g.Succ, S ga2 gk2 g.Pred] (fun g : Value => i64ok rr.2) (fun g => .tuple #[g, vi rr.2]) (fun g => [sl g rr.1]) := by
 refine FTi Tryz.func14 fun w0 M0 F0 => ?_
 unfold i64ok at hroot_0
 refine Fb 32 0 fun _ => Fb 24 1 fun _ => Fb 24 2 fun _ => KS ?_
 refine Oa (Ab [vl ga0 gk0 g.Nodes, vl ga1 gk1 g.Succ, vl ga2 gk2 g.Pred]) fun p4 => Oq Va (Oq Va (KS ?_))
 refine Oq (VldA sh28 0) (Oq Vm ?_)
 refine letv (r30_Levels g root) fun rv6 hg7 => ?_
 have hc8 := fn28 g ga0 gk0 ga1 gk1 ga2 gk2 root pre rv6 hg7
 refine Oc [1, 2, 3] ca28 hc8 ?_
 rintro c5 he9
 unfold i64ok at he9
 refine Jo 0 ?_; rintro a10 k11 rfl
 refine Fb 8 0 fun _ => Fo 0 fun ho13 => ?_
 refine Oq Vm (Oq Vx (Oq Vx (Oq Va (Oq Va (KS ?_)))))
 refine Oq Vm (Oq Vneq (KS ?_))
 refine Kc ?_ ?_
 ·intro h14
  have g15 := ne_of_bne h14
  refine KS ?_
  refine Oq Vm (Oq Va (Oq Va (KS ?_)))
  refine Jl [] (Ent.slNil (α := List Int)) ?_
  have hq := q4 hrr (([] : List (List Int)), rv6.2) (by simp only [r30_Places, h14, hg7, cs4]); subst hq
  exact Kr (.slice none 0 0) rfl (.tmp rfl (.tmp rfl .nil)) [0] en
 intro h14
 have g16 := eq_of_bne_false h14
 obtain ⟨hgv, hd0, hd1, hr0, hr1⟩ := Levels_ok (by assumption) h14; have hn1 := hgv.n1
 refine KS ?_
 refine Oq Vm (Oq (Vlen sl22) ?_)
 refine Oa (Amk (α := Int) sl22 sz22 (0 : Int) (fun _ _ => ⟨rfl, by unfold i64ok; decide⟩)) fun c17 => ?_
 refine Jo 0 ?_; rintro a18 k19 rfl
 refine Fb 8 0 fun _ => Fo 0 fun ho21 => ?_
 have hn22 := List.length_replicate (n := (rv6.1.length : Int).toNat) (a := ((0 : Int) : Int))
 refine Oq Va (KS ?_)
 refine Oq Vm (Oa (AsV sl22 sz22 [vi root] [vi root]) fun c23 => ?_)
 refine Jo 0 ?_; rintro a24 k25 rfl
 refine Oa (AsV sl26 sz26 [.slice a24 1 k25] [.slice a24 1 k25]) fun c26 => ?_
 refine Jo 0 ?_; rintro a27 k28 rfl
 refine Oq Va (KS ?_)
 refine Oq Va (KS ?_)
 refine Jl [1] (Ent.crInt _ [root] _ _ rfl rfl (by intro x hx; rw [List.mem_singleton] at hx; subst hx; unfold i64ok; omega) aB1) ?_
 refine Jl [0] (Ent.freeze _ _) ?_
 refine Jl [1, 0] (Ent.cr1 (α := List Int) (A := [sl (.slice a24 1 k25) ([root] : List Int)]) _ [root] _ aB1 (fun h => ⟨_, rfl, sepAll_get (i := 0) rfl h⟩)) ?_
 refine Fb 24 0 fun _ => ?_
 have hterm44 : r30_Places_L0 g rv6.1 (rv6.1.length + 3 : Nat) (List.replicate (rv6.1.length : Int).toNat (0 : Int)) [[root]] 1 ≠ LR.oof := (Pl0_t hd0 _ _ _ _ aM1 aM1)
 refine Kl (γ := Nat × List Int × List (List Int) × Int × Option Addr × Nat × Option Addr × Nat) (fun (r30, place_31, out_32, level_33, a34, k35, a36, k37) => ⟨[(2, p4), (6, vl a10 k11 rv6.1), (8, vl a34 k35 place_31), (9, vl a36 k37 out_32), (10, vi level_33)], [O a36 k37 out_32, O a34 k35 place_31, S a10 k11 rv6.1, pv p4 [vl ga0 gk0 g.Nodes, vl ga1 gk1 g.Succ, vl ga2 gk2 g.Pred], S ga0 gk0 g.Nodes, S ga1 gk1 g.Succ, S ga2 gk2 g.Pred], r30_Places_L0 g rv6.1 r30 place_31 out_32 level_33 = r30_Places_L0 g rv6.1 (rv6.1.length + 3 : Nat) (List.replicate (rv6.1.length : Int).toNat (0 : Int)) [[root]] 1 ∧ (-9223372036854775808 ≤ level_33 ∧ level_33 ≤ 9223372036854775807) ∧ (place_31.length = g.Nodes.length) ∧ (1 ≤ level_33 ∧ level_33 + (r30 : Int) ≤ (rv6.1.length : Int) + 4) ∧ ((out_32.length : Int) ≤ level_33) ∧ (RW g.Nodes.length out_32), r30⟩) ((rv6.1.length + 3 : Nat), (List.replicate (rv6.1.length : Int).toNat (0 : Int)), [[root]], 1, a18, k19, a27, k28) [0, 2, 2, 3, 4, 5, 6] ⟨rfl, aM1, iv0, iv0, iv0, (RW_one ⟨by omega, by omega⟩)⟩ ?_
 rintro ⟨r30, place_31, out_32, level_33, a34, k35, a36, k37⟩ ⟨hM38, hk39, hv40, hv41, hv42, hv43⟩
 refine JJ_nx fun _ _ hL hA => ?_; dsimp only at hL hA; subst hL hA
 refine Fb 24 0 fun _ => Fb 8 1 fun _ => Fo 1 fun ho47 => Fb 8 2 fun _ => Fo 2 fun ho49 => Fb 32 4 fun _ => Fb 24 5 fun _ => Fb 24 6 fun _ => ?_
 rcases r30 with _ | r30
 ·exact absurd (hM38.symm.trans rfl) hterm44
 refine KS ?_
 refine Oq Va (KS ?_)
 refine Oq Va (KS ?_)
 refine Jl [] (Ent.osNil (α := Int)) ?_
 refine Kl (γ := Nat × List Int × Int × Option Addr × Nat) (fun (r53, l_54, n_55, a56, k57) => ⟨[(2, p4), (6, vl a10 k11 rv6.1), (8, vl a34 k35 place_31), (9, vl a36 k37 out_32), (10, vi level_33), (11, vl a56 k57 l_54), (12, vi n_55)], [O a56 k57 l_54, O a36 k37 out_32, O a34 k35 place_31, S a10 k11 rv6.1, pv p4 [vl ga0 gk0 g.Nodes, vl ga1 gk1 g.Succ, vl ga2 gk2 g.Pred], S ga0 gk0 g.Nodes, S ga1 gk1 g.Succ, S ga2 gk2 g.Pred], r30_Places_L1 g rv6.1 place_31 level_33 r53 l_54 n_55 = r30_Places_L1 g rv6.1 place_31 level_33 (((rv6.1.length : Int) - 0).toNat) [] 0 ∧ r53 = ((rv6.1.length : Int) - n_55).toNat ∧ (0 : Int) ≤ n_55 ∧ n_55 ≤ (rv6.1.length : Int) ∧ (-9223372036854775808 ≤ n_55 ∧ n_55 ≤ 9223372036854775807) ∧ (RL g.Nodes.length l_54) ∧ ((l_54.length : Int) ≤ n_55), r53⟩) (((rv6.1.length : Int) - 0).toNat, [], 0, none, 0) [0, 0, 0, 0, 1, 2, 3, 4] ⟨rfl, rfl, aM1, aM1, aM1, (RL_nil _), iv0⟩ ?_
 rintro ⟨r53, l_54, n_55, a56, k57⟩ ⟨hM58, hr59, hi60, hi61, hk62, hv63, hv64⟩
 refine JJ_nx fun _ _ hL hA => ?_; dsimp only at hL hA; subst hL hA
 refine Fb 8 0 fun _ => Fo 0 fun ho66 => Fb 24 1 fun _ => Fb 8 2 fun _ => Fo 2 fun ho69 => Fb 8 3 fun _ => Fo 3 fun ho71 => Fb 32 5 fun _ => ?_
 refine Fb 24 6 fun _ => Fb 24 7 fun _ => KS ?_
 refine Oq Vm (Oq Vm (Oq (Vlen sl22) (Oq Vlss (KS ?_))))
 refine Kc ?_ ?_
 ·intro h75
  have g76 := dt h75
  obtain ⟨r77, rfl⟩ := scc (n := r53) aM1
  refine KS ?_
  refine Oq Vm (Oq Vm (Oq (Vi sl22 3) ?_))
  have hb78 := ok1 (i := n_55.toNat) ho71 rng
  refine Oq (VldI sh3 3) (Oq Vm (Oq Vneq (KS ?_)))
  refine Kc ?_ ?_
  ·intro h79
   have g80 := ne_of_bne h79
   refine Ke ?_
   refine KS ?_
   refine Oq Vm (Oq Vadd (Oq Va (KS ?_)))
   exact Kg (r77, l_54, (n_55 + 1), a56, k57) [0, 0, 0, 0, 1, 2, 3, 4] ⟨(q3 hM58 (by simp only [r30_Places_L1, h75, h79, cs4])), aM1, aM1, aM1, aM1, (by first | assumption | exact RL_ins (by assumption) ⟨by omega, by omega⟩), iv1⟩
  intro h79
  have g81 := eq_of_bne_false h79
  refine KS ?_
  refine Oq Va (KS ?_)
  refine Kl (γ := Nat × Int) (fun (r82, k_83) => ⟨[(2, p4), (6, vl a10 k11 rv6.1), (8, vl a34 k35 place_31), (9, vl a36 k37 out_32), (10, vi level_33), (11, vl a56 k57 l_54), (12, vi n_55), (13, vi k_83)], [O a56 k57 l_54, O a36 k37 out_32, O a34 k35 place_31, S a10 k11 rv6.1, pv p4 [vl ga0 gk0 g.Nodes, vl ga1 gk1 g.Succ, vl ga2 gk2 g.Pred], S ga0 gk0 g.Nodes, S ga1 gk1 g.Succ, S ga2 gk2 g.Pred], r30_Places_L2 g rv6.1 place_31 l_54 n_55 r82 k_83 = r30_Places_L2 g rv6.1 place_31 l_54 n_55 (((l_54.length : Int) - 0).toNat) 0 ∧ r82 = ((l_54.length : Int) - k_83).toNat ∧ (0 : Int) ≤ k_83 ∧ k_83 ≤ (l_54.length : Int) ∧ (-9223372036854775808 ≤ k_83 ∧ k_83 ≤ 9223372036854775807) ∧ (0 ≤ k_83 ∧ k_83 ≤ (l_54.length : Int)), r82⟩) (((l_54.length : Int) - 0).toNat, 0) [0, 0, 0, 0, 1, 2, 3, 4] ⟨rfl, rfl, aM1, aM1, aM1, iv0⟩ ?_
  rintro ⟨r82, k_83⟩ ⟨hM84, hr85, hi86, hi87, hk88, hv89⟩
  refine JJ_nx fun _ _ hL hA => ?_; dsimp only at hL hA; subst hL hA
  refine Fb 8 0 fun _ => Fo 0 fun ho91 => Fb 24 1 fun _ => Fb 8 2 fun _ => Fo 2 fun ho94 => Fb 8 3 fun _ => Fo 3 fun ho96 => Fb 32 5 fun _ => ?_
  refine Fb 24 6 fun _ => Fb 24 7 fun _ => KS ?_
  refine JK_drawK [0, 0, 2, 7, 15, 31, 31, 31, 31, 31, 799, 1823, 4095, 31, 31, 31, 31, 131071, 262143, 524287] fmix ?_
  refine Dv [] Vm (Dv [] Vm (Dv [] (Vlen sl22) (Dv [] Vlss ?_)))
  refine bool_split (decide (k_83 < (l_54.length : Int))) ?_ ?_
  ·intro h100
   have g101 := dt h100
   obtain ⟨r102, rfl⟩ := scc (n := r82) aM1
   refine Db h100 [] Vm (Dv [4] (VldA sh28 0) (Dv [] Vm (Dv [] Vm (Dv [] Vm (Dv [] Vm (Dv [0] (Vi sl22 0) ?_))))))
   have hb103 := ok1 (i := k_83.toNat) ho91 rng
   refine Dv [0] (VldI sh3 0) ?_
   refine letv (r30_least g rv6.1 place_31 (l_54.getD k_83.toNat 0)) fun rv104 hg105 => ?_
   refine Dx [2, 3, 5, 6, 7] [] [1, 1, 2, 3, 4, 0] (fun G => vi rv104) [fun G => SP.fact (i64ok rv104)] (fun G => xC [0, 1, 2, 3, 0] ca31 (FT_borrow (A := _) (fun _ _ h => by cases h) (FT_ent (Ent.take (is := [1, 2, 3, 4, 0]) rfl) (fn31 g ga0 gk0 ga1 gk1 ga2 gk2 rv6.1 a10 k11 place_31 a34 k35 ((l_54.getD k_83.toNat 0)) pre hgv hd0 hd1 pre (by first | omega | exact RL_get (by assumption) aM1) rv104 hg105))) (ht := rfl)) (Dv [4] (VldA sh28 0) (Dv [] Vm (Dv [] Vm (Dv [] Vm ?_))))
   refine letv (r30_least g rv6.1 place_31 n_55) fun rv106 hg107 => ?_
   refine Dx [2, 3, 5, 6, 7, 8] [] [1, 1, 2, 3, 4, 5, 0] (fun G => vi rv106) [fun G => SP.fact (i64ok rv106)] (fun G => by refine xf 5 rfl ?_; rintro he108; unfold i64ok at he108; exact xC [0, 1, 2, 3, 0] ca31 (FT_borrow (A := _) (fun _ _ h => by cases h) (FT_ent (Ent.take (is := [1, 2, 3, 4, 0]) rfl) (fn31 g ga0 gk0 ga1 gk1 ga2 gk2 rv6.1 a10 k11 place_31 a34 k35 n_55 pre hgv hd0 hd1 pre (by first | omega | exact RL_get (by assumption) aM1) rv106 hg107))) (ht := rfl)) (Dv [] Vleq (Dv [] Vpt ?_))
   refine Dn ⟨by kernel_rfl, fun G => ?_⟩
   refine Jw2 [(2, p4), (6, vl a10 k11 rv6.1), (8, vl a34 k35 place_31), (9, vl a36 k37 out_32), (10, vi level_33), (11, vl a56 k57 l_54), (12, vi n_55), (13, vi k_83), (64, vb (decide (rv104 ≤ rv106)))] [0, 1, 2, 3, 4, 5, 6, 7] [SP.fact (i64ok rv104), SP.fact (i64ok rv106)] ?_
   refine Jf 8 rfl ?_; rintro he109
   unfold i64ok at he109
   refine Jf 9 rfl ?_; rintro he110
   unfold i64ok at he110
   refine Jk [0, 0, 0, 0, 1, 2, 3, 4] ?_
   refine Kc ?_ ?_
   ·intro h111
    have g112 := dt h111
    refine KS ?_
    refine Oq Vm (Oq Vadd (Oq Va (KS ?_)))
    exact Kg (r102, (k_83 + 1)) [0, 0, 0, 0, 1, 2, 3, 4] ⟨(q3 hM84 (by simp only [r30_Places_L2, h100, h111, hg105, hg107, cs4])), aM1, aM1, aM1, aM1, iv1⟩
   intro h111
   have g113 := df h111
   refine Ke ?_
   have hR114 := q2 hM84 k_83 (by simp only [r30_Places_L2, h100, h111, hg105, hg107, cs4])
   refine KS ?_
   refine Oa (As0 sl22) fun c115 => ?_
   refine Jo 0 ?_; rintro a116 k117 rfl
   refine Oq Vm (Oq Vm ?_)
   refine Jl [1] (Ent.freeze _ _) ?_
   refine Oa (Asl [0] sl22 0 (k_83.toNat)) fun c118 => ?_
   refine Jo 0 ?_; rintro a119 k120 rfl
   refine Fb 8 0 fun _ => Fo 0 fun ho122 => ?_
   have hn123 : ((l_54.take (k_83.toNat)).drop 0).length = (k_83.toNat) - 0 := len_slice rng rng
   refine Jl [2] (Ent.crNil (α := Int) _) ?_
   refine Oa (Ap0 [0, 0] sl22 sl22 sz22) fun c124 => ?_
   refine Jo 0 ?_; rintro a125 k126 rfl
   refine Oq Va (KS ?_)
   refine Oq Vm (Oq Vm (Oa (AsV sl22 sz22 [vi n_55] [vi n_55]) fun c127 => ?_))
   refine Jo 0 ?_; rintro a128 k129 rfl
   refine Jl [0] (Ent.crInt _ [n_55] _ _ rfl rfl (by intro x hx; rw [List.mem_singleton] at hx; subst hx; unfold i64ok; omega) aB1) ?_
   refine Oa (ApO [1, 0] sl22 sl22 sz22) fun c130 => ?_
   refine Jo 0 ?_; rintro a131 k132 rfl
   refine Fb 8 0 fun _ => Fo 0 fun ho134 => ?_
   have hn135 := la ((l_54.take (k_83.toNat)).drop 0) ([n_55] : List Int)
   refine Oq Va (KS ?_)
   refine Oq Vm (Oq Vm (Oq Vm (Oa (Asl [2] sl22 (k_83.toNat) l_54.length) fun c136 => ?_)))
   refine Jo 0 ?_; rintro a137 k138 rfl
   refine Fb 8 0 fun _ => Fo 0 fun ho140 => ?_
   have hn141 : ((l_54.take l_54.length).drop (k_83.toNat)).length = l_54.length - (k_83.toNat) := len_slice rng rng
   refine Oa (Ap [1, 0] sl22 sl22 sz22) fun c142 => ?_
   refine Jo 0 ?_; rintro a143 k144 rfl
   refine Fb 8 0 fun _ => Fo 0 fun ho146 => ?_
   have hn147 := la ((((l_54.take (k_83.toNat)).drop 0) ++ [n_55]) : List Int) ((l_54.take l_54.length).drop (k_83.toNat))
   refine Oq Va (KS ?_)
   refine Oq Vm (Oq Vadd (Oq Va (KS ?_)))
   exact Kg (r77, ((((l_54.take (k_83.toNat)).drop 0) ++ [n_55]) ++ ((l_54.take l_54.length).drop (k_83.toNat))), (n_55 + 1), a143, k144) [0, 3, 3, 3, 4, 5, 6, 7] ⟨(q3 hM58 (by simp only [r30_Places_L1, h75, h79, h100, h111, hg105, hg107, hR114, cs4])), aM1, aM1, aM1, aM1, (by first | assumption | exact RL_ins (by assumption) ⟨by omega, by omega⟩), iv1⟩
  intro h100
  have g148 := df h100
  obtain rfl : r82 = 0 := by omega
  refine Db h100 [] Vm (Ds (Ds (Ds (Ds (Ds (Ds (Ds (Ds (Ds ?_)))))))))
  refine Ds (Ds (Ds (Ds (Ds (Dv [] Vpf ?_)))))
  refine Dn ⟨by kernel_rfl, fun G => ?_⟩
  refine Jw2 [(2, p4), (6, vl a10 k11 rv6.1), (8, vl a34 k35 place_31), (9, vl a36 k37 out_32), (10, vi level_33), (11, vl a56 k57 l_54), (12, vi n_55), (13, vi k_83), (64, vb false)] [0, 1, 2, 3, 4, 5, 6, 7] [] ?_
  refine Kf ?_
  refine Ke ?_
  have hR149 := q2 hM84 k_83 (by simp only [r30_Places_L2, h100, cs4])
  refine KS ?_
  refine Oa (As0 sl22) fun c150 => ?_
  refine Jo 0 ?_; rintro a151 k152 rfl
  refine Oq Vm (Oq Vm ?_)
  refine Jl [1] (Ent.freeze _ _) ?_
  refine Oa (Asl [0] sl22 0 (k_83.toNat)) fun c153 => ?_
  refine Jo 0 ?_; rintro a154 k155 rfl
  refine Fb 8 0 fun _ => Fo 0 fun ho157 => ?_
  have hn158 : ((l_54.take (k_83.toNat)).drop 0).length = (k_83.toNat) - 0 := len_slice rng rng
  refine Jl [2] (Ent.crNil (α := Int) _) ?_
  refine Oa (Ap0 [0, 0] sl22 sl22 sz22) fun c159 => ?_
  refine Jo 0 ?_; rintro a160 k161 rfl
  refine Oq Va (KS ?_)
  refine Oq Vm (Oq Vm (Oa (AsV sl22 sz22 [vi n_55] [vi n_55]) fun c162 => ?_))
  refine Jo 0 ?_; rintro a163 k164 rfl
  refine Jl [0] (Ent.crInt _ [n_55] _ _ rfl rfl (by intro x hx; rw [List.mem_singleton] at hx; subst hx; unfold i64ok; omega) aB1) ?_
  refine Oa (ApO [1, 0] sl22 sl22 sz22) fun c165 => ?_
  refine Jo 0 ?_; rintro a166 k167 rfl
  refine Fb 8 0 fun _ => Fo 0 fun ho169 => ?_
  have hn170 := la ((l_54.take (k_83.toNat)).drop 0) ([n_55] : List Int)
  refine Oq Va (KS ?_)
  refine Oq Vm (Oq Vm (Oq Vm (Oa (Asl [2] sl22 (k_83.toNat) l_54.length) fun c171 => ?_)))
  refine Jo 0 ?_; rintro a172 k173 rfl
  refine Fb 8 0 fun _ => Fo 0 fun ho175 => ?_
  have hn176 : ((l_54.take l_54.length).drop (k_83.toNat)).length = l_54.length - (k_83.toNat) := len_slice rng rng
  refine Oa (Ap [1, 0] sl22 sl22 sz22) fun c177 => ?_
  refine Jo 0 ?_; rintro a178 k179 rfl
  refine Fb 8 0 fun _ => Fo 0 fun ho181 => ?_
  have hn182 := la ((((l_54.take (k_83.toNat)).drop 0) ++ [n_55]) : List Int) ((l_54.take l_54.length).drop (k_83.toNat))
  refine Oq Va (KS ?_)
  refine Oq Vm (Oq Vadd (Oq Va (KS ?_)))
  exact Kg (r77, ((((l_54.take (k_83.toNat)).drop 0) ++ [n_55]) ++ ((l_54.take l_54.length).drop (k_83.toNat))), (n_55 + 1), a178, k179) [0, 3, 3, 3, 4, 5, 6, 7] ⟨(q3 hM58 (by simp only [r30_Places_L1, h75, h79, h100, hR149, cs4])), aM1, aM1, aM1, aM1, (by first | assumption | exact RL_ins (by assumption) ⟨by omega, by omega⟩), iv1⟩
 intro h75
 have g183 := df h75
 obtain rfl : r53 = 0 := by omega
 refine Ke ?_
 have hR184 := q2 hM58 l_54 (by simp only [r30_Places_L1, h75, cs4])
 refine KS ?_
 refine Oq Vm (Oq (Vlen sl22) (Oq Veql (KS ?_)))
 refine Kc ?_ ?_
 ·intro h185
  have g186 := eq_of_beq h185
  refine KS ?_
  refine Oq Vm (Oq Va (Oq Va (KS ?_)))
  refine Jl [1] (Ent.freeze _ _) ?_
  have hR187 := q2 hM38 (.ret (out_32, 0)) (by simp only [r30_Places_L0, h75, h185, hR184, cs4])
  have hq := q4 hrr (out_32, 0) (by simp only [r30_Places, h14, h75, h185, hg7, hR184, hR187, cs4]); subst hq
  exact Kr (vl a36 k37 out_32) rfl (.tmp rfl (.tmp rfl .nil)) [0] en
 intro h185
 have g188 := ne_of_beq_false h185
 refine KS ?_
 refine Oq Va (KS ?_)
 refine Kl (γ := Nat × List Int × Int) (fun (r189, place_190, i_191) => ⟨[(2, p4), (6, vl a10 k11 rv6.1), (8, vl a34 k35 place_31), (9, vl a36 k37 out_32), (10, vi level_33), (11, vl a56 k57 l_54), (15, vi i_191)], [O a56 k57 l_54, O a36 k37 out_32, os (vl a34 k35 place_31) place_190, S a10 k11 rv6.1, pv p4 [vl ga0 gk0 g.Nodes, vl ga1 gk1 g.Succ, vl ga2 gk2 g.Pred], S ga0 gk0 g.Nodes, S ga1 gk1 g.Succ, S ga2 gk2 g.Pred], r30_Places_L3 l_54 r189 place_190 i_191 = r30_Places_L3 l_54 (((l_54.length : Int) - 0).toNat) place_31 0 ∧ r189 = ((l_54.length : Int) - i_191).toNat ∧ (0 : Int) ≤ i_191 ∧ i_191 ≤ (l_54.length : Int) ∧ (-9223372036854775808 ≤ i_191 ∧ i_191 ≤ 9223372036854775807) ∧ (place_190.length = g.Nodes.length), r189⟩) (((l_54.length : Int) - 0).toNat, place_31, 0) [0, 0, 0, 0, 1, 2, 3, 4] ⟨rfl, rfl, aM1, aM1, aM1, iv0⟩ ?_
 rintro ⟨r189, place_190, i_191⟩ ⟨hM192, hr193, hi194, hi195, hk196, hv197⟩
 refine JJ_nx fun _ _ hL hA => ?_; dsimp only at hL hA; subst hL hA
 refine Fb 8 0 fun _ => Fo 0 fun ho199 => Fb 24 1 fun _ => Fb 8 2 fun _ => Fo 2 fun ho202 => Fl 2 fun hn203 => ?_
 refine Fb 8 3 fun _ => Fo 3 fun ho205 => Fb 32 5 fun _ => Fb 24 6 fun _ => Fb 24 7 fun _ => KS ?_
 refine Oq Vm (Oq Vm (Oq (Vlen sl22) (Oq Vlss (KS ?_))))
 refine Kc ?_ ?_
 ·intro h209
  have g210 := dt h209
  have hlg := RL_get (i := i_191.toNat) (by assumption : RL _ l_54) aM1
  obtain ⟨r211, rfl⟩ := scc (n := r189) aM1
  refine KS ?_
  refine Oq Vm (Oq Vm (Oq Vm (Oq (Vi sl22 0) ?_)))
  have hb212 := ok1 (i := i_191.toNat) ho199 rng
  refine Oq (VldI sh3 0) (Oq Vm (Oq (Vi sl22 2) (Ost (SoI [2] sh3) (KS ?_))))
  refine Oq Vm (Oq Vadd (Oq Va (KS ?_)))
  exact Kg (r211, (place_190.set ((l_54.getD i_191.toNat 0) : Int).toNat i_191), (i_191 + 1)) [1, 1, 0, 0, 1, 2, 3, 4] ⟨(q3 hM192 (by simp only [r30_Places_L3, h209, cs4])), aM1, aM1, aM1, aM1, iv1⟩
 intro h209
 have g213 := df h209
 obtain rfl : r189 = 0 := by omega
 refine Ke ?_
 have hR214 := q2 hM192 place_190 (by simp only [r30_Places_L3, h209, cs4])
 refine KS ?_
 refine Oq Vm (Oq Vm (Oa (AsV sl26 sz26 [vl a56 k57 l_54] [vl a56 k57 l_54]) fun c215 => ?_))
 refine Jo 0 ?_; rintro a216 k217 rfl
 refine Jl [1] (Ent.freeze _ _) ?_
 refine Jl [1, 0] (Ent.cr1 (α := List Int) (A := [S a56 k57 l_54]) _ l_54 _ aB1 (fun h => ⟨_, rfl, sepAll_get (i := 0) rfl h⟩)) ?_
 refine Oa (ApO [3, 0] sl26 sl26 sz26) fun c218 => ?_
 refine Jo 0 ?_; rintro a219 k220 rfl
 refine Fb 24 0 fun _ => ?_
 have hn222 := la out_32 ([l_54] : List (List Int))
 refine Oq Va (KS ?_)
 refine Oq Vm (Oq Vadd (Oq Va (KS ?_)))
 refine Fl 3 fun hn223 => ?_; (try unfold vl); rw [← hn223]
 exact Kg (r30, place_190, (out_32 ++ [l_54]), (level_33 + 1), a34, k35, a219, k220) [0, 2, 2, 3, 4, 5, 6] ⟨(q3 hM38 (by simp only [r30_Places_L0, h75, h185, h209, hR184, hR214, cs4])), aM1, iv1, iv1, iv1, (RW_app (by assumption) (by assumption))⟩
theorem fn7 (g : GGraph) (ga0 : Option Addr) (gk0 : Nat) (ga1 : Option Addr) (gk1 : Nat) (ga2 : Option Addr) (gk2 : Nat) (root : Int) (hroot_0 : i64ok root) (rr : List GPoint × Int) (hrr : r30_Points g root = rr) : FT Tryz.prog 7 #[.agg #[vl ga0 gk0 g.Nodes, vl ga1 gk1 g.Succ, vl ga2 gk2 g.Pred], vi root] [S ga0 gk0 g.Nodes, S ga1 gk1 g.Succ, S ga2 gk2 g.Pred] (fun g : Value => i64ok rr.2) (fun g => .tuple #[g, vi rr.2]) (fun g => [os g rr.1]) := by
 refine FTi Tryz.func7 fun w0 M0 F0 => ?_
 unfold i64ok at hroot_0
 refine Fb 32 0 fun _ => Fb 24 1 fun _ => Fb 24 2 fun _ => KS ?_
 refine Oa (Ab [vl ga0 gk0 g.Nodes, vl ga1 gk1 g.Succ, vl ga2 gk2 g.Pred]) fun p4 => Oq Va (Oq Va (KS ?_))
 refine Oq (VldA sh28 0) (Oq Vm ?_)
 refine letv (r30_Places g root) fun rv6 hg7 => ?_
 have hc8 := fn14 g ga0 gk0 ga1 gk1 ga2 gk2 root pre rv6 hg7
 refine Oc [1, 2, 3] ca14 hc8 ?_
 rintro c5 he9
 unfold i64ok at he9
 refine Jo 0 ?_; rintro a10 k11 rfl
 refine Fb 24 0 fun _ => ?_
 refine Oq Vm (Oq Vx (Oq Vx (Oq Va (Oq Va (KS ?_)))))
 refine Oq Vm (Oq Vneq (KS ?_))
 refine Kc ?_ ?_
 ·intro h13
  have g14 := ne_of_bne h13
  refine KS ?_
  refine Oq Vm (Oq Va (Oq Va (KS ?_)))
  refine Jl [] (Ent.osNil (α := GPoint)) ?_
  have hq := q4 hrr (([] : List GPoint), rv6.2) (by simp only [r30_Points, h13, hg7, cs4]); subst hq
  exact Kr (.slice none 0 0) rfl (.tmp rfl (.tmp rfl .nil)) [0] en
 intro h13
 have g15 := eq_of_bne_false h13
 obtain ⟨hrw, hn1, hn2⟩ := Places_ok (by assumption) h13
 refine KS ?_
 refine Oq (Vfa fo28_0 1) (Oq (VldF sh25 1) (Oq (Vlen sl25) (Oa (Amk (α := GPoint) sl30 sz30 (default : GPoint) zrd_GPoint) fun c16 => ?_)))
 refine Jo 0 ?_; rintro a17 k18 rfl
 refine Fb 16 0 fun _ => ?_
 have hn20 := List.length_replicate (n := (g.Nodes.length : Int).toNat) (a := ((default : GPoint) : GPoint))
 refine Oq Va (KS ?_)
 refine Oq Va (KS ?_)
 refine Kl (γ := Nat × List GPoint × Int) (fun (r21, out_22, i_23) => ⟨[(6, vl a10 k11 rv6.1), (8, vl a17 k18 (List.replicate (g.Nodes.length : Int).toNat (default : GPoint))), (9, vi i_23)], [os (vl a17 k18 (List.replicate (g.Nodes.length : Int).toNat (default : GPoint))) out_22, S a10 k11 rv6.1], r30_Points_L0 r21 out_22 i_23 = r30_Points_L0 ((((((List.replicate (g.Nodes.length : Int).toNat (default : GPoint)).length : Nat) : Int) : Int) - 0).toNat) (List.replicate (g.Nodes.length : Int).toNat (default : GPoint)) 0 ∧ r21 = (((((List.replicate (g.Nodes.length : Int).toNat (default : GPoint)).length : Nat) : Int) : Int) - i_23).toNat ∧ (0 : Int) ≤ i_23 ∧ (i_23 ≤ (((List.replicate (g.Nodes.length : Int).toNat (default : GPoint)).length : Nat) : Int) ∨ i_23 = 0) ∧ (-9223372036854775808 ≤ i_23 ∧ i_23 ≤ 9223372036854775807) ∧ (out_22.length = g.Nodes.length), r21⟩) ((((((List.replicate (g.Nodes.length : Int).toNat (default : GPoint)).length : Nat) : Int) : Int) - 0).toNat, (List.replicate (g.Nodes.length : Int).toNat (default : GPoint)), 0) [0, 0] ⟨rfl, rfl, aM1, (.inr rfl), aM1, iv0⟩ ?_
 rintro ⟨r21, out_22, i_23⟩ ⟨hM24, hr25, hi26, hi27, hk28, hv29⟩
 refine JJ_nx fun _ _ hL hA => ?_; dsimp only at hL hA; subst hL hA
 refine Fb 16 0 fun _ => Fl 0 fun hn31 => ?_
 refine Fb 24 1 fun _ => KS ?_
 refine Oq Vm (Oq Vm (Oq (Vlen sl30) (Oq Vlss (KS ?_))))
 refine Kc ?_ ?_
 ·intro h33
  have g34 := dt h33
  obtain ⟨r35, rfl⟩ := scc (n := r21) aM1
  refine KS ?_
  refine Oq Vm (Oq Vm (Oq (Vbd st36 [vi (-1), vi 0]) (Oq (Vi sl30 0) ?_)))
  refine Ost (So (Rs := []) [0] sh36 (GPoint.mk (-1) 0) (fun h => ⟨rfl, aL1, aL1⟩)) (KS ?_)
  refine Oq Vm (Oq Vadd (Oq Va (KS ?_)))
  exact Kg (r35, (out_22.set i_23.toNat (GPoint.mk (-1) 0)), (i_23 + 1)) [0, 0] ⟨(q3 hM24 (by simp only [r30_Points_L0, h33, cs4])), aM1, aM1, aM1, aM1, iv1⟩
 intro h33
 have g36 := df h33
 obtain rfl : r21 = 0 := by omega
 refine Ke ?_
 have hR37 := q2 hM24 out_22 (by simp only [r30_Points_L0, h33, cs4])
 refine KS ?_
 refine Oq Va (KS ?_)
 refine Kl (γ := Nat × List GPoint × Int) (fun (r38, out_39, level_40) => ⟨[(6, vl a10 k11 rv6.1), (8, vl a17 k18 (List.replicate (g.Nodes.length : Int).toNat (default : GPoint))), (10, vi level_40)], [os (vl a17 k18 (List.replicate (g.Nodes.length : Int).toNat (default : GPoint))) out_39, S a10 k11 rv6.1], r30_Points_L1 rv6.1 r38 out_39 level_40 = r30_Points_L1 rv6.1 (((rv6.1.length : Int) - 0).toNat) out_22 0 ∧ r38 = ((rv6.1.length : Int) - level_40).toNat ∧ (0 : Int) ≤ level_40 ∧ level_40 ≤ (rv6.1.length : Int) ∧ (-9223372036854775808 ≤ level_40 ∧ level_40 ≤ 9223372036854775807) ∧ (out_39.length = g.Nodes.length), r38⟩) (((rv6.1.length : Int) - 0).toNat, out_22, 0) [0, 0] ⟨rfl, rfl, aM1, aM1, aM1, iv0⟩ ?_
 rintro ⟨r38, out_39, level_40⟩ ⟨hM41, hr42, hi43, hi44, hk45, hv46⟩
 refine JJ_nx fun _ _ hL hA => ?_; dsimp only at hL hA; subst hL hA
 refine Fb 16 0 fun _ => Fl 0 fun hn48 => ?_
 refine Fb 24 1 fun _ => KS ?_
 refine Oq Vm (Oq Vm (Oq (Vlen sl26) (Oq Vlss (KS ?_))))
 refine Kc ?_ ?_
 ·intro h50
  have g51 := dt h50
  obtain ⟨r52, rfl⟩ := scc (n := r38) aM1
  refine KS ?_
  refine Oq Va (KS ?_)
  refine Kl (γ := Nat × List GPoint × Int) (fun (r53, out_54, i_55) => ⟨[(6, vl a10 k11 rv6.1), (8, vl a17 k18 (List.replicate (g.Nodes.length : Int).toNat (default : GPoint))), (10, vi level_40), (11, vi i_55)], [os (vl a17 k18 (List.replicate (g.Nodes.length : Int).toNat (default : GPoint))) out_54, S a10 k11 rv6.1], r30_Points_L2 rv6.1 level_40 r53 out_54 i_55 = r30_Points_L2 rv6.1 level_40 (((((rv6.1.getD level_40.toNat []).length : Int) : Int) - 0).toNat) out_39 0 ∧ r53 = ((((rv6.1.getD level_40.toNat []).length : Int) : Int) - i_55).toNat ∧ (0 : Int) ≤ i_55 ∧ (i_55 ≤ ((rv6.1.getD level_40.toNat []).length : Int) ∨ i_55 = 0) ∧ (-9223372036854775808 ≤ i_55 ∧ i_55 ≤ 9223372036854775807) ∧ (out_54.length = g.Nodes.length), r53⟩) (((((rv6.1.getD level_40.toNat []).length : Int) : Int) - 0).toNat, out_39, 0) [0, 0] ⟨rfl, rfl, aM1, (.inr rfl), aM1, iv0⟩ ?_
  rintro ⟨r53, out_54, i_55⟩ ⟨hM56, hr57, hi58, hi59, hk60, hv61⟩
  refine JJ_nx fun _ _ hL hA => ?_; dsimp only at hL hA; subst hL hA
  refine Fb 16 0 fun _ => Fl 0 fun hn63 => ?_
  refine Fb 24 1 fun _ => KS ?_
  refine Oq Vm (Oq Vm (Oq Vm (Oq (Vi sl26 1) ?_)))
  refine JJ_peekL level_40.toNat 1 rfl rng fun a65 k66 => ?_
  refine Fb 8 1 fun _ => Fo 1 fun ho68 => ?_
  refine Oq (Vld sh22 0) (Oq (Vlen sl22) (Oq Vlss (KS ?_)))
  refine Kc ?_ ?_
  ·intro h69
   have g70 := dt h69
   have hrg := RW_get (i := level_40.toNat) (k := i_55.toNat) hrw aM1 aM1
   obtain ⟨r71, rfl⟩ := scc (n := r53) aM1
   refine KS ?_
   refine Oq Vm (Oq Vm (Oq Vm (Oq (Vi sl26 3) (Oq (Vld sh22 0) (Oq Vm (Oq (Vi sl22 1) ?_))))))
   have hb72 := ok1 (i := i_55.toNat) ho68 rng
   refine Oq (VldI sh3 1) (Oq Vm (Oq Vm (Oq (Vbd st36 [vi i_55, vi level_40]) (Oq (Vi sl30 2) ?_))))
   refine Ost (So (Rs := []) [2] sh36 (GPoint.mk i_55 level_40) (fun h => ⟨rfl, aL1, aL1⟩)) (KS ?_)
   refine Oq Vm (Oq Vadd (Oq Va (KS ?_)))
   exact Kg (r71, (out_54.set (((rv6.1.getD level_40.toNat []).getD i_55.toNat 0) : Int).toNat (GPoint.mk i_55 level_40)), (i_55 + 1)) [0, 2] ⟨(q3 hM56 (by simp only [r30_Points_L2, h69, cs4])), aM1, aM1, aM1, aM1, iv1⟩
  intro h69
  have g73 := df h69
  obtain rfl : r53 = 0 := by omega
  refine Ke ?_
  have hR74 := q2 hM56 out_54 (by simp only [r30_Points_L2, h69, cs4])
  refine KS ?_
  refine Oq Vm (Oq Vadd (Oq Va (KS ?_)))
  exact Kg (r52, out_54, (level_40 + 1)) [2, 2] ⟨(q3 hM41 (by simp only [r30_Points_L1, h50, h69, hR74, cs4])), aM1, aM1, aM1, aM1, iv1⟩
 intro h50
 have g75 := df h50
 obtain rfl : r38 = 0 := by omega
 refine Ke ?_
 have hR76 := q2 hM41 out_39 (by simp only [r30_Points_L1, h50, cs4])
 refine KS ?_
 refine Oq Vm (Oq Va (Oq Va (KS ?_)))
 have hq := q4 hrr (out_39, 0) (by simp only [r30_Points, h13, h33, h50, hg7, hR37, hR76, cs4]); subst hq
 exact Kr (vl a17 k18 (List.replicate (g.Nodes.length : Int).toNat (default : GPoint))) rfl (.tmp rfl (.tmp rfl .nil)) [0] en
theorem fn16 (l : List GPoint) (la0 : Option Addr) (lk0 : Nat) (rr : List Cpx) (hrr : w33_points l = rr) : FT Tryz.prog 16 #[vl la0 lk0 l] [S la0 lk0 l] (fun g : Value => (rr.length = l.length)) (fun g => g) (fun g => [sl g rr]) := by
 refine FTi Tryz.func16 fun w0 M0 F0 => Fb 16 0 fun _ => ?_
 refine KS ?_
 refine Oq Va (KS ?_)
 refine Oq Va (KS ?_)
 refine Oq Va (KS ?_)
 refine Jl [] (Ent.osNil (α := Cpx)) ?_
 refine Kl (γ := Nat × List Cpx × Int × Option Addr × Nat) (fun (r2, out_3, i_4, a5, k6) => ⟨[(0, vl la0 lk0 l), (3, vl a5 k6 out_3), (4, vi i_4)], [O a5 k6 out_3, S la0 lk0 l], w33_points_L0 l r2 out_3 i_4 = w33_points_L0 l (((l.length : Int) - 0).toNat) [] 0 ∧ r2 = ((l.length : Int) - i_4).toNat ∧ (0 : Int) ≤ i_4 ∧ i_4 ≤ (l.length : Int) ∧ (-9223372036854775808 ≤ i_4 ∧ i_4 ≤ 9223372036854775807) ∧ ((out_3.length : Int) = i_4), r2⟩) (((l.length : Int) - 0).toNat, [], 0, none, 0) [0, 0] ⟨rfl, rfl, aM1, aM1, aM1, iv0⟩ ?_
 rintro ⟨r2, out_3, i_4, a5, k6⟩ ⟨hM7, hr8, hi9, hi10, hk11, hv12⟩
 refine JJ_nx fun _ _ hL hA => ?_; dsimp only at hL hA; subst hL hA
 refine Fb 16 0 fun _ => Fb 16 1 fun _ => KS ?_
 refine Oq Vm (Oq Vm (Oq (Vlen sl30) (Oq Vlss (KS ?_))))
 refine Kc ?_ ?_
 ·intro h15
  have g16 := dt h15
  obtain ⟨r17, rfl⟩ := scc (n := r2) aM1
  refine KS ?_
  refine JJ_peek_GPoint i_4.toNat 1 rfl rng fun hb18 hb19 => ?_
  unfold i64ok at hb18 hb19
  refine JK_drawK [0, 0, 0, 6, 14, 30, 62, 0, 0, 384, 896, 1920, 3968, 8190, 16382, 32767, 65535] fmix ?_
  refine Dv [] Vm (Dv [] Vm (Dv [] Vm (Dv [2] (Vi sl30 0) (Dv [0] (Vfa fo36_0 0) (Dv [0] (VldF sh3 0) (Dv [] (VcIF (n := (l.getD i_4.toNat default).X) un3 un53) (Dv [] Vm (Dv [] Vm (Dv [2] (Vi sl30 0) ?_)))))))))
  refine Dv [0] (Vfa fo36_1 0) (Dv [0] (VldF sh3 0) (Dv [] (VcIF (n := (l.getD i_4.toNat default).Y) un3 un53) (Dv [] (Vcx (a := (fofI ((l.getD i_4.toNat default).X))) (b := (fofI ((l.getD i_4.toNat default).Y)))) (Dx [] [] [0] (fun G => (G.g 14 0)) [fun G => Cr (G.g 14 0) 1 [cxv (Cpx.mk (fofI ((l.getD i_4.toNat default).X)).b (fofI ((l.getD i_4.toNat default).Y)).b)]] (fun G => xA (AsV sl49 sz49 [cxv (Cpx.mk (fofI ((l.getD i_4.toNat default).X)).b (fofI ((l.getD i_4.toNat default).Y)).b)] [cxv (Cpx.mk (fofI ((l.getD i_4.toNat default).X)).b (fofI ((l.getD i_4.toNat default).Y)).b)])) ?_))))
  have hn22 := la out_3 ([(Cpx.mk (fofI ((l.getD i_4.toNat default).X)).b (fofI ((l.getD i_4.toNat default).Y)).b)] : List Cpx)
  refine Dx [1, 3] [1, 3] [0] (fun G => (G.g 15 0)) [fun G => os (G.g 15 0) ((out_3 ++ [(Cpx.mk (fofI ((l.getD i_4.toNat default).X)).b (fofI ((l.getD i_4.toNat default).Y)).b)]) : List Cpx)] (fun G => xp [1] rfl (Ent.cr1 (α := Cpx) (A := []) _ (Cpx.mk (fofI ((l.getD i_4.toNat default).X)).b (fofI ((l.getD i_4.toNat default).Y)).b) _ aB1 (fun _ => rfl)) (xA (ApO [1, 0] sl49 sl49 sz49))) (Dg [] (fun G => (G.g 15 0)) (fun G => Va) ?_)
  refine Dn ⟨by kernel_rfl, fun G => ?_⟩
  refine Jw2 [(0, vl la0 lk0 l), (4, vi i_4), (3, (G.g 15 0))] [0, 2] [os (G.g 15 0) ((out_3 ++ [(Cpx.mk (fofI ((l.getD i_4.toNat default).X)).b (fofI ((l.getD i_4.toNat default).Y)).b)]) : List Cpx)] ?_
  generalize G.g 15 0 = c21
  refine Jo 2 ?_; rintro a23 k24 rfl
  refine Fb 16 2 fun _ => KS ?_
  refine Oq Vm (Oq Vadd (Oq Va (KS ?_)))
  exact Kg (r17, (out_3 ++ [(Cpx.mk (fofI ((l.getD i_4.toNat default).X)).b (fofI ((l.getD i_4.toNat default).Y)).b)]), (i_4 + 1), a23, k24) [2, 1] ⟨(q3 hM7 (by simp only [w33_points_L0, h15, cs4])), aM1, aM1, aM1, aM1, iv1⟩
 intro h15
 have g26 := df h15
 obtain rfl : r2 = 0 := by omega
 refine Ke ?_
 have hR27 := q2 hM7 out_3 (by simp only [w33_points_L0, h15, cs4])
 refine KS ?_
 refine Oq Vm (Oq Va (KS ?_))
 refine Jl [0] (Ent.freeze _ _) ?_
 have hq := q4 hrr out_3 (by simp only [w33_points, h15, hR27, cs4]); subst hq
 exact Kr (vl a5 k6 out_3) rfl (.tmp rfl .nil) [0] en
theorem fn36 (at_ : List GPoint) (at_a0 : Option Addr) (at_k0 : Nat) (rr : Bool) (hrr : r30_near at_ = rr) : FT Tryz.prog 36 #[vl at_a0 at_k0 at_] [S at_a0 at_k0 at_] (fun g : Unit => True) (fun g => vb rr) (fun g => []) := by
 refine FTi Tryz.func36 fun w0 M0 F0 => Fb 16 0 fun _ => ?_
 refine KS ?_
 refine Oq Va (KS ?_)
 refine Oq Va (KS ?_)
 refine Kl (γ := Nat × Int) (fun (r2, i_3) => ⟨[(0, vl at_a0 at_k0 at_), (3, vi i_3)], [S at_a0 at_k0 at_], r30_near_L0 at_ r2 i_3 = r30_near_L0 at_ (((at_.length : Int) - 0).toNat) 0 ∧ r2 = ((at_.length : Int) - i_3).toNat ∧ (0 : Int) ≤ i_3 ∧ i_3 ≤ (at_.length : Int) ∧ (-9223372036854775808 ≤ i_3 ∧ i_3 ≤ 9223372036854775807), r2⟩) (((at_.length : Int) - 0).toNat, 0) [0] ⟨rfl, rfl, aM1, aM1, aM1⟩ ?_
 rintro ⟨r2, i_3⟩ ⟨hM4, hr5, hi6, hi7, hk8⟩
 refine JJ_nx fun _ _ hL hA => ?_; dsimp only at hL hA; subst hL hA
 refine Fb 16 0 fun _ => KS ?_
 refine Oq Vm (Oq Vm (Oq (Vlen sl30) (Oq Vlss (KS ?_))))
 refine Kc ?_ ?_
 ·intro h10
  have g11 := dt h10
  obtain ⟨r12, rfl⟩ := scc (n := r2) aM1
  refine KS ?_
  refine Oq Vm (Oq Vm (Oq (Vi sl30 0) ?_))
  refine JJ_peek_GPoint i_3.toNat 0 rfl rng fun hb13 hb14 => ?_
  unfold i64ok at hb13 hb14
  refine Oq (Vfa fo36_0 0) (Oq (VldF sh3 0) (Oq Vlss (Oq Vm ?_)))
  refine Js 16 ?_ ?_
  ·intro h15
   have g16 := dt h15
   refine Osk (Osk (Osk (Osk (Osk (Osk (Oq Vpt (Oq Vm (Osk (Osk ?_)))))))))
   refine Osk (Osk (Osk (Osk (Oq Vpt (Oq Vm (Osk (Osk (Osk (Osk ?_)))))))))
   refine Osk (Osk (Oq Vpt (KS ?_)))
   refine Kt (KS ?_)
   refine Oq Va (KS ?_)
   have hR17 := q2 hM4 (.ret false) (by simp only [r30_near_L0, h10, h15, cs4])
   have hq := q4 hrr false (by simp only [r30_near, h10, h15, hR17, cs4]); subst hq
   exact Kr () rfl (.tmp rfl .nil) [] trivial
  intro h15
  have g18 := df h15
  refine Oq Vm (Oq Vm (Oq (Vi sl30 1) (Oq (Vfa fo36_0 0) (Oq (VldF sh3 0) (Oq Vgtr (Oq Vpf (Oq Vm ?_)))))))
  refine Js 24 ?_ ?_
  ·intro h19
   have g20 := dt h19
   refine Osk (Osk (Osk (Osk (Osk (Osk (Oq Vpt (Oq Vm (Osk (Osk ?_)))))))))
   refine Osk (Osk (Osk (Osk (Oq Vpt (KS ?_)))))
   refine Kt (KS ?_)
   refine Oq Va (KS ?_)
   have hR21 := q2 hM4 (.ret false) (by simp only [r30_near_L0, h10, h15, h19, cs4])
   have hq := q4 hrr false (by simp only [r30_near, h10, h15, h19, hR21, cs4]); subst hq
   exact Kr () rfl (.tmp rfl .nil) [] trivial
  intro h19
  have g22 := df h19
  refine Oq Vm (Oq Vm (Oq (Vi sl30 1) (Oq (Vfa fo36_1 0) (Oq (VldF sh3 0) (Oq Vlss (Oq Vpf (Oq Vm ?_)))))))
  refine Js 32 ?_ ?_
  ·intro h23
   have g24 := dt h23
   refine Osk (Osk (Osk (Osk (Osk (Osk (Oq Vpt (KS ?_)))))))
   refine Kt (KS ?_)
   refine Oq Va (KS ?_)
   have hR25 := q2 hM4 (.ret false) (by simp only [r30_near_L0, h10, h15, h19, h23, cs4])
   have hq := q4 hrr false (by simp only [r30_near, h10, h15, h19, h23, hR25, cs4]); subst hq
   exact Kr () rfl (.tmp rfl .nil) [] trivial
  intro h23
  have g26 := df h23
  refine Oq Vm (Oq Vm (Oq (Vi sl30 1) (Oq (Vfa fo36_1 0) (Oq (VldF sh3 0) (Oq Vgtr (Oq Vpf (KS ?_)))))))
  refine Kc ?_ ?_
  ·intro h27
   have g28 := dt h27
   refine KS ?_
   refine Oq Va (KS ?_)
   have hR29 := q2 hM4 (.ret false) (by simp only [r30_near_L0, h10, h15, h19, h23, h27, cs4])
   have hq := q4 hrr false (by simp only [r30_near, h10, h15, h19, h23, h27, hR29, cs4]); subst hq
   exact Kr () rfl (.tmp rfl .nil) [] trivial
  intro h27
  have g30 := df h27
  refine KS ?_
  refine Oq Vm (Oq Vadd (Oq Va (KS ?_)))
  exact Kg (r12, (i_3 + 1)) [1] ⟨(q3 hM4 (by simp only [r30_near_L0, h10, h15, h19, h23, h27, cs4])), aM1, aM1, aM1, aM1⟩
 intro h10
 have g31 := df h10
 obtain rfl : r2 = 0 := by omega
 refine Ke ?_
 have hR32 := q2 hM4 (.brk ()) (by simp only [r30_near_L0, h10, cs4])
 refine KS ?_
 refine Oq Va (KS ?_)
 have hq := q4 hrr true (by simp only [r30_near, h10, hR32, cs4]); subst hq
 exact Kr () rfl (.tmp rfl .nil) [] trivial
theorem fn37 (a : GPoint) (b : GPoint) (c : GPoint) (d : GPoint) (ha_0 : i64ok a.X) (ha_1 : i64ok a.Y) (hb_0 : i64ok b.X) (hb_1 : i64ok b.Y) (hc_0 : i64ok c.X) (hc_1 : i64ok c.Y) (hd_0 : i64ok d.X) (hd_1 : i64ok d.Y) (ha0 : (-1024 ≤ a.Y ∧ a.Y ≤ 1024)) (rr : Bool) (hrr : r30_cross a b c d = rr) : FT Tryz.prog 37 #[.agg #[vi a.X, vi a.Y], .agg #[vi b.X, vi b.Y], .agg #[vi c.X, vi c.Y], .agg #[vi d.X, vi d.Y]] [] (fun g : Unit => True) (fun g => vb rr) (fun g => []) := by
 refine FTi Tryz.func37 fun w0 M0 F0 => ?_
 unfold i64ok at ha_0 ha_1 hb_0 hb_1 hc_0 hc_1 hd_0 hd_1
 refine KS ?_
 refine Oa (Ab [vi a.X, vi a.Y]) fun p1 => Oa (Ab [vi b.X, vi b.Y]) fun p2 => Oa (Ab [vi c.X, vi c.Y]) fun p3 => Oa (Ab [vi d.X, vi d.Y]) fun p4 => Oq Va (KS ?_)
 refine Oq (Vbd st36 [vi (-1), vi 0]) (Oa (Al ze36 [vi 0, vi 0]) fun p5 => Ost (Scl [0] sh36 [vi (-1), vi 0]) (KS ?_))
 refine Oq (VldA sh36 4) (Oq (VldA sh36 0) (Oq (VeqA eqi36 (l := [a.X, a.Y]) (m := [-1, 0])) (Oq Vm ?_)))
 refine Js 14 ?_ ?_
 ·intro h6
  have g7 := eq_of_beq h6
  refine Osk (Osk (Osk (Oq Vpt (Oq Vm (Osk (Osk (Osk (Oq Vpt (Oq Vm ?_)))))))))
  refine Osk (Osk (Osk (Oq Vpt (KS ?_))))
  refine Kt (KS ?_)
  refine Oq Va (KS ?_)
  have hq := q4 hrr false (by simp only [r30_cross, h6, cs4]); subst hq
  exact Kr () rfl (.tmp rfl .nil) [] trivial
 intro h6
 have g8 := ne_of_beq_false h6
 refine Oq (VldA sh36 3) (Oq (VldA sh36 0) (Oq (VeqA eqi36 (l := [b.X, b.Y]) (m := [-1, 0])) (Oq Vpf (Oq Vm ?_))))
 refine Js 19 ?_ ?_
 ·intro h9
  have g10 := eq_of_beq h9
  refine Osk (Osk (Osk (Oq Vpt (Oq Vm (Osk (Osk (Osk (Oq Vpt (KS ?_)))))))))
  refine Kt (KS ?_)
  refine Oq Va (KS ?_)
  have hq := q4 hrr false (by simp only [r30_cross, h6, h9, cs4]); subst hq
  exact Kr () rfl (.tmp rfl .nil) [] trivial
 intro h9
 have g11 := ne_of_beq_false h9
 refine Oq (VldA sh36 2) (Oq (VldA sh36 0) (Oq (VeqA eqi36 (l := [c.X, c.Y]) (m := [-1, 0])) (Oq Vpf (Oq Vm ?_))))
 refine Js 24 ?_ ?_
 ·intro h12
  have g13 := eq_of_beq h12
  refine Osk (Osk (Osk (Oq Vpt (KS ?_))))
  refine Kt (KS ?_)
  refine Oq Va (KS ?_)
  have hq := q4 hrr false (by simp only [r30_cross, h6, h9, h12, cs4]); subst hq
  exact Kr () rfl (.tmp rfl .nil) [] trivial
 intro h12
 have g14 := ne_of_beq_false h12
 refine Oq (VldA sh36 1) (Oq (VldA sh36 0) (Oq (VeqA eqi36 (l := [d.X, d.Y]) (m := [-1, 0])) (Oq Vpf (KS ?_))))
 refine Kc ?_ ?_
 ·intro h15
  have g16 := eq_of_beq h15
  refine KS ?_
  refine Oq Va (KS ?_)
  have hq := q4 hrr false (by simp only [r30_cross, h6, h9, h12, h15, cs4]); subst hq
  exact Kr () rfl (.tmp rfl .nil) [] trivial
 intro h15
 have g17 := ne_of_beq_false h15
 refine KS ?_
 refine Oq (Vfa fo36_1 4) (Oq (VldF sh3 4) (Oq (Vfa fo36_1 2) (Oq (VldF sh3 2) (Oq Veql (Oq Vm ?_)))))
 refine Js 34 ?_ ?_
 ·intro h18
  have g19 := eq_of_beq h18
  refine Oq (Vfa fo36_1 3) (Oq (VldF sh3 3) (Oq (Vfa fo36_1 4) (Oq (VldF sh3 4) (Oq Vadd (Oq Veql (Oq Vpt (Oq Vm ?_)))))))
  refine Js 42 ?_ ?_
  ·intro h20
   have g21 := eq_of_beq h20
   refine Oq (Vfa fo36_1 1) (Oq (VldF sh3 1) (Oq (Vfa fo36_1 4) (Oq (VldF sh3 4) (Oq Vadd (Oq Veql (Oq Vpt (Oq Vm ?_)))))))
   refine Js 50 ?_ ?_
   ·intro h22
    have g23 := eq_of_beq h22
    refine Oq (Vfa fo36_0 4) (Oq (VldF sh3 4) (Oq (Vfa fo36_0 2) (Oq (VldF sh3 2) (Oq Vlss (Oq Vpt (Oq Vm ?_))))))
    refine Js 57 ?_ ?_
    ·intro h24
     have g25 := dt h24
     refine Oq (Vfa fo36_0 3) (Oq (VldF sh3 3) (Oq (Vfa fo36_0 1) (Oq (VldF sh3 1) (Oq Vgtr (Oq Vpt (Oq Va (KS ?_)))))))
     have hq := q4 hrr (decide (d.X < b.X)) (by simp only [r30_cross, h6, h9, h12, h15, h18, h20, h22, h24, cs4]); subst hq
     exact Kr () rfl (.tmp rfl .nil) [] trivial
    intro h24
    have g26 := df h24
    refine Osk (Osk (Osk (Osk (Osk (Oq Vpf (Oq Va (KS ?_)))))))
    have hq := q4 hrr false (by simp only [r30_cross, h6, h9, h12, h15, h18, h20, h22, h24, cs4]); subst hq
    exact Kr () rfl (.tmp rfl .nil) [] trivial
   intro h22
   have g27 := ne_of_beq_false h22
   refine Osk (Osk (Osk (Osk (Osk (Oq Vpf (Oq Vm (Osk (Osk (Osk ?_)))))))))
   refine Osk (Osk (Oq Vpf (Oq Va (KS ?_))))
   have hq := q4 hrr false (by simp only [r30_cross, h6, h9, h12, h15, h18, h20, h22, cs4]); subst hq
   exact Kr () rfl (.tmp rfl .nil) [] trivial
  intro h20
  have g28 := ne_of_beq_false h20
  refine Osk (Osk (Osk (Osk (Osk (Osk (Oq Vpf (Oq Vm (Osk (Osk ?_)))))))))
  refine Osk (Osk (Osk (Oq Vpf (Oq Vm (Osk (Osk (Osk (Osk (Osk ?_)))))))))
  refine Oq Vpf (Oq Va (KS ?_))
  have hq := q4 hrr false (by simp only [r30_cross, h6, h9, h12, h15, h18, h20, cs4]); subst hq
  exact Kr () rfl (.tmp rfl .nil) [] trivial
 intro h18
 have g29 := ne_of_beq_false h18
 refine Osk (Osk (Osk (Osk (Osk (Osk (Oq Vpf (Oq Vm (Osk (Osk ?_)))))))))
 refine Osk (Osk (Osk (Osk (Oq Vpf (Oq Vm (Osk (Osk (Osk (Osk ?_)))))))))
 refine Osk (Oq Vpf (Oq Vm (Osk (Osk (Osk (Osk (Osk (Oq Vpf (Oq Va ?_)))))))))
 refine KS ?_
 have hq := q4 hrr false (by simp only [r30_cross, h6, h9, h12, h15, h18, cs4]); subst hq
 exact Kr () rfl (.tmp rfl .nil) [] trivial
theorem fn18 (g : GGraph) (ga0 : Option Addr) (gk0 : Nat) (ga1 : Option Addr) (gk1 : Nat) (ga2 : Option Addr) (gk2 : Nat) (at_ : List GPoint) (at_a0 : Option Addr) (at_k0 : Nat) (rr : Int) (hrr : r30_Crossings g at_ = rr) : FT Tryz.prog 18 #[.agg #[vl ga0 gk0 g.Nodes, vl ga1 gk1 g.Succ, vl ga2 gk2 g.Pred], vl at_a0 at_k0 at_] [S ga0 gk0 g.Nodes, S ga1 gk1 g.Succ, S ga2 gk2 g.Pred, S at_a0 at_k0 at_] (fun g : Unit => i64ok rr) (fun g => vi rr) (fun g => []) := by
 refine FTi Tryz.func18 fun w0 M0 F0 => Fb 32 0 fun _ => Fb 24 1 fun _ => Fb 24 2 fun _ => Fb 16 3 fun _ => ?_
 refine KS ?_
 refine Oa (Ab [vl ga0 gk0 g.Nodes, vl ga1 gk1 g.Succ, vl ga2 gk2 g.Pred]) fun p5 => Oq Va (KS ?_)
 refine Oq (VldA sh28 0) ?_
 refine letv (r7_ValidGraph g) fun rv6 hg7 => ?_
 have hc8 := fn35 g ga0 gk0 ga1 gk1 ga2 gk2 rv6 hg7
 refine Oc [1, 2, 3] ca35 hc8 ?_
 rintro - -
 refine Oq Vnot (Oq Vm ?_)
 refine Js 13 ?_ ?_
 ·intro h9
  have h11 := not_true h9
  refine Osk (Osk (Osk (Osk (Osk (Osk (Oq Vpt (Oq Vm (Osk (Osk ?_)))))))))
  refine Osk (Oq Vpt (KS ?_))
  refine Kt (KS ?_)
  refine Oq Va (KS ?_)
  have hq := q4 hrr 0 (by simp only [r30_Crossings, h9, h11, hg7, cs4]); subst hq
  exact Kr () rfl (.tmp rfl .nil) [] en
 intro h9
 have h14 := not_false h9
 try (have hgv := rGVf (by assumption) h9; have hn1 := hgv.n1; have hsl := hgv.sl; have hpl := hgv.pl)
 try have hnp := near_f (by assumption) h9
 refine Oq Vm (Oq (Vlen sl30) (Oq (Vfa fo28_0 0) (Oq (VldF sh25 0) (Oq (Vlen sl25) (Oq Vneq (Oq Vpf (Oq Vm ?_)))))))
 refine Js 21 ?_ ?_
 ·intro h16
  have g17 := ne_of_bne h16
  refine Osk (Osk (Osk (Oq Vpt (KS ?_))))
  refine Kt (KS ?_)
  refine Oq Va (KS ?_)
  have hq := q4 hrr 0 (by simp only [r30_Crossings, h9, h14, h16, hg7, cs4]); subst hq
  exact Kr () rfl (.tmp rfl .nil) [] en
 intro h16
 have g18 := eq_of_bne_false h16
 refine Oq Vm ?_
 refine letv (r30_near at_) fun rv19 hg20 => ?_
 have hc21 := fn36 at_ at_a0 at_k0 rv19 hg20
 refine Oc [4] ca36 hc21 ?_
 rintro - -
 refine Oq Vnot (Oq Vpf (KS ?_))
 refine Kc ?_ ?_
 ·intro h22
  have h24 := not_true h22
  refine KS ?_
  refine Oq Va (KS ?_)
  have hq := q4 hrr 0 (by simp only [r30_Crossings, h9, h14, h16, h22, h24, hg7, hg20, cs4]); subst hq
  exact Kr () rfl (.tmp rfl .nil) [] en
 intro h22
 have h27 := not_false h22
 try (have hgv := rGVf (by assumption) h22; have hn1 := hgv.n1; have hsl := hgv.sl; have hpl := hgv.pl)
 try have hnp := near_f (by assumption) h22
 refine KS ?_
 refine Oq Va (KS ?_)
 refine Oq Va (KS ?_)
 refine Kl (γ := Nat × Int × Int) (fun (r29, n_30, a_31) => ⟨[(1, vl at_a0 at_k0 at_), (2, p5), (5, vi n_30), (6, vi a_31)], [pv p5 [vl ga0 gk0 g.Nodes, vl ga1 gk1 g.Succ, vl ga2 gk2 g.Pred], S ga0 gk0 g.Nodes, S ga1 gk1 g.Succ, S ga2 gk2 g.Pred, S at_a0 at_k0 at_], r30_Crossings_L0 g at_ r29 n_30 a_31 = r30_Crossings_L0 g at_ (((at_.length : Int) - 0).toNat) 0 0 ∧ r29 = ((at_.length : Int) - a_31).toNat ∧ (0 : Int) ≤ a_31 ∧ a_31 ≤ (at_.length : Int) ∧ (-9223372036854775808 ≤ n_30 ∧ n_30 ≤ 9223372036854775807) ∧ (-9223372036854775808 ≤ a_31 ∧ a_31 ≤ 9223372036854775807) ∧ (0 ≤ n_30 ∧ n_30 ≤ 16777216 * a_31), r29⟩) (((at_.length : Int) - 0).toNat, 0, 0) [0, 1, 2, 3, 4] ⟨rfl, rfl, aM1, aM1, aM1, aM1, iv0⟩ ?_
 rintro ⟨r29, n_30, a_31⟩ ⟨hM32, hr33, hi34, hi35, hk36, hk37, hv38⟩
 refine JJ_nx fun _ _ hL hA => ?_; dsimp only at hL hA; subst hL hA
 refine Fb 32 1 fun _ => Fb 24 2 fun _ => Fb 24 3 fun _ => Fb 16 4 fun _ => KS ?_
 refine Oq Vm (Oq Vm (Oq (Vlen sl30) (Oq Vlss (KS ?_))))
 refine Kc ?_ ?_
 ·intro h43
  have g44 := dt h43
  have hal := Asc_l (hgv.sa a_31 aM1 aM1) aM1
  obtain ⟨r45, rfl⟩ := scc (n := r29) aM1
  refine KS ?_
  refine Oq Va (KS ?_)
  refine Kl (γ := Nat × Int × Int) (fun (r46, n_47, i_48) => ⟨[(1, vl at_a0 at_k0 at_), (2, p5), (5, vi n_47), (6, vi a_31), (7, vi i_48)], [pv p5 [vl ga0 gk0 g.Nodes, vl ga1 gk1 g.Succ, vl ga2 gk2 g.Pred], S ga0 gk0 g.Nodes, S ga1 gk1 g.Succ, S ga2 gk2 g.Pred, S at_a0 at_k0 at_], r30_Crossings_L1 g at_ a_31 r46 n_47 i_48 = r30_Crossings_L1 g at_ a_31 (((((g.Succ.getD a_31.toNat []).length : Int) : Int) - 0).toNat) n_30 0 ∧ r46 = ((((g.Succ.getD a_31.toNat []).length : Int) : Int) - i_48).toNat ∧ (0 : Int) ≤ i_48 ∧ (i_48 ≤ ((g.Succ.getD a_31.toNat []).length : Int) ∨ i_48 = 0) ∧ (-9223372036854775808 ≤ n_47 ∧ n_47 ≤ 9223372036854775807) ∧ (-9223372036854775808 ≤ i_48 ∧ i_48 ≤ 9223372036854775807) ∧ (0 ≤ n_47 ∧ n_47 ≤ 16777216 * a_31 + 65536 * i_48), r46⟩) (((((g.Succ.getD a_31.toNat []).length : Int) : Int) - 0).toNat, n_30, 0) [0, 1, 2, 3, 4] ⟨rfl, rfl, aM1, (.inr rfl), aM1, aM1, iv0⟩ ?_
  rintro ⟨r46, n_47, i_48⟩ ⟨hM49, hr50, hi51, hi52, hk53, hk54, hv55⟩
  refine JJ_nx fun _ _ hL hA => ?_; dsimp only at hL hA; subst hL hA
  refine Fb 32 1 fun _ => Fb 24 2 fun _ => Fb 24 3 fun _ => Fb 16 4 fun _ => KS ?_
  refine Oq Vm (Oq (Vfa fo28_1 0) (Oq (VldF sh26 0) (Oq Vm (Oq (Vi sl26 2) ?_))))
  refine JJ_peekL a_31.toNat 2 rfl rng fun a60 k61 => ?_
  refine Fb 8 1 fun _ => Fo 1 fun ho63 => ?_
  refine Oq (Vld sh22 0) (Oq (Vlen sl22) (Oq Vlss (KS ?_)))
  refine Kc ?_ ?_
  ·intro h64
   have g65 := dt h64
   have hsm := Asc_in (hgv.sa a_31 aM1 aM1) (i := i_48) ⟨by omega, by omega⟩; have hsq := Asc_l (hgv.sa a_31 aM1 aM1) aM1
   obtain ⟨r66, rfl⟩ := scc (n := r46) aM1
   refine KS ?_
   refine Oq Va (KS ?_)
   refine Kl (γ := Nat × Int × Int) (fun (r67, n_68, c_69) => ⟨[(1, vl at_a0 at_k0 at_), (2, p5), (5, vi n_68), (6, vi a_31), (7, vi i_48), (8, vi c_69)], [pv p5 [vl ga0 gk0 g.Nodes, vl ga1 gk1 g.Succ, vl ga2 gk2 g.Pred], S ga0 gk0 g.Nodes, S ga1 gk1 g.Succ, S ga2 gk2 g.Pred, S at_a0 at_k0 at_], r30_Crossings_L2 g at_ a_31 i_48 r67 n_68 c_69 = r30_Crossings_L2 g at_ a_31 i_48 (((at_.length : Int) - 0).toNat) n_47 0 ∧ r67 = ((at_.length : Int) - c_69).toNat ∧ (0 : Int) ≤ c_69 ∧ c_69 ≤ (at_.length : Int) ∧ (-9223372036854775808 ≤ n_68 ∧ n_68 ≤ 9223372036854775807) ∧ (-9223372036854775808 ≤ c_69 ∧ c_69 ≤ 9223372036854775807) ∧ (0 ≤ n_68 ∧ n_68 ≤ 16777216 * a_31 + 65536 * i_48 + 256 * c_69), r67⟩) (((at_.length : Int) - 0).toNat, n_47, 0) [2, 3, 4, 5, 6] ⟨rfl, rfl, aM1, aM1, aM1, aM1, iv0⟩ ?_
   rintro ⟨r67, n_68, c_69⟩ ⟨hM70, hr71, hi72, hi73, hk74, hk75, hv76⟩
   refine JJ_nx fun _ _ hL hA => ?_; dsimp only at hL hA; subst hL hA
   refine Fb 32 1 fun _ => Fb 24 2 fun _ => Fb 24 3 fun _ => Fb 16 4 fun _ => KS ?_
   refine Oq Vm (Oq Vm (Oq (Vlen sl30) (Oq Vlss (KS ?_))))
   refine Kc ?_ ?_
   ·intro h81
    have g82 := dt h81
    have hal := Asc_l (hgv.sa c_69 aM1 aM1) aM1
    obtain ⟨r83, rfl⟩ := scc (n := r67) aM1
    refine KS ?_
    refine Oq Va (KS ?_)
    refine Kl (γ := Nat × Int × Int) (fun (r84, n_85, k_86) => ⟨[(1, vl at_a0 at_k0 at_), (2, p5), (5, vi n_85), (6, vi a_31), (7, vi i_48), (8, vi c_69), (9, vi k_86)], [pv p5 [vl ga0 gk0 g.Nodes, vl ga1 gk1 g.Succ, vl ga2 gk2 g.Pred], S ga0 gk0 g.Nodes, S ga1 gk1 g.Succ, S ga2 gk2 g.Pred, S at_a0 at_k0 at_], r30_Crossings_L3 g at_ a_31 i_48 c_69 r84 n_85 k_86 = r30_Crossings_L3 g at_ a_31 i_48 c_69 (((((g.Succ.getD c_69.toNat []).length : Int) : Int) - 0).toNat) n_68 0 ∧ r84 = ((((g.Succ.getD c_69.toNat []).length : Int) : Int) - k_86).toNat ∧ (0 : Int) ≤ k_86 ∧ (k_86 ≤ ((g.Succ.getD c_69.toNat []).length : Int) ∨ k_86 = 0) ∧ (-9223372036854775808 ≤ n_85 ∧ n_85 ≤ 9223372036854775807) ∧ (-9223372036854775808 ≤ k_86 ∧ k_86 ≤ 9223372036854775807) ∧ (0 ≤ n_85 ∧ n_85 ≤ 16777216 * a_31 + 65536 * i_48 + 256 * c_69 + k_86), r84⟩) (((((g.Succ.getD c_69.toNat []).length : Int) : Int) - 0).toNat, n_68, 0) [0, 1, 2, 3, 4] ⟨rfl, rfl, aM1, (.inr rfl), aM1, aM1, iv0⟩ ?_
    rintro ⟨r84, n_85, k_86⟩ ⟨hM87, hr88, hi89, hi90, hk91, hk92, hv93⟩
    refine JJ_nx fun _ _ hL hA => ?_; dsimp only at hL hA; subst hL hA
    refine Fb 32 1 fun _ => Fb 24 2 fun _ => Fb 24 3 fun _ => Fb 16 4 fun _ => KS ?_
    refine Oq Vm (Oq (Vfa fo28_1 0) (Oq (VldF sh26 0) (Oq Vm (Oq (Vi sl26 2) ?_))))
    refine JJ_peekL c_69.toNat 2 rfl rng fun a98 k99 => ?_
    refine Fb 8 1 fun _ => Fo 1 fun ho101 => ?_
    refine Oq (Vld sh22 0) (Oq (Vlen sl22) (Oq Vlss (KS ?_)))
    refine Kc ?_ ?_
    ·intro h102
     have g103 := dt h102
     have hsm := Asc_in (hgv.sa c_69 aM1 aM1) (i := k_86) ⟨by omega, by omega⟩; have hsq := Asc_l (hgv.sa c_69 aM1 aM1) aM1
     obtain ⟨r104, rfl⟩ := scc (n := r84) aM1
     refine KS ?_
     refine JJ_peek_GPoint a_31.toNat 6 rfl rng fun hb105 hb106 => ?_
     unfold i64ok at hb105 hb106
     refine JJ_peekL a_31.toNat 5 rfl rng fun a107 k108 => ?_
     refine Fb 8 1 fun _ => Fo 1 fun ho110 => ?_
     refine JJ_peek_GPoint (((g.Succ.getD a_31.toNat []).getD i_48.toNat 0) : Int).toNat 9 rfl rng fun hb111 hb112 => ?_
     unfold i64ok at hb111 hb112
     refine JJ_peek_GPoint c_69.toNat 10 rfl rng fun hb113 hb114 => ?_
     unfold i64ok at hb113 hb114
     refine JJ_peek_GPoint (((g.Succ.getD c_69.toNat []).getD k_86.toNat 0) : Int).toNat 11 rfl rng fun hb115 hb116 => ?_
     unfold i64ok at hb115 hb116
     refine JK_drawK [0, 0, 3, 7, 0, 0, 32, 0, 224, 480, 0, 2016, 4064, 8176, 16368, 0, 0, 98304, 229376, 0, 0, 1048576, 0, 7340032, 15728640, 0, 66060288, 133169152, 267911168, 536346624, 1073741823] fmix ?_
     refine Dv [] Vm (Dv [] Vm (Dv [12] (Vi sl30 0) (Dv [5] (VldA sh36 0) (Dv [] Vm (Dv [8] (Vfa fo28_1 0) (Dv [8] (VldF sh26 0) (Dv [] Vm (Dv [10] (Vi sl26 0) (Dv [3] (Vld sh22 0) ?_)))))))))
     refine Dv [] Vm (Dv [4] (Vi sl22 0) ?_)
     have hb117 := ok1 (i := i_48.toNat) ho110 rng
     refine Dv [4] (VldI sh3 0) (Dv [12] (Vi sl30 0) (Dv [2] (VldA sh36 0) (Dv [] Vm (Dv [] Vm (Dv [12] (Vi sl30 0) (Dv [1] (VldA sh36 0) (Dv [] Vm (Dv [8] (Vfa fo28_1 0) (Dv [8] (VldF sh26 0) ?_)))))))))
     refine Dv [] Vm (Dv [10] (Vi sl26 0) (Dv [6] (Vld sh22 0) (Dv [] Vm (Dv [7] (Vi sl22 0) ?_))))
     have hb118 := ok1 (i := k_86.toNat) ho101 rng
     refine Dv [7] (VldI sh3 0) (Dv [12] (Vi sl30 0) (Dv [0] (VldA sh36 0) ?_))
     refine letv (r30_cross (at_.getD a_31.toNat default) (at_.getD (((g.Succ.getD a_31.toNat []).getD i_48.toNat 0) : Int).toNat default) (at_.getD c_69.toNat default) (at_.getD (((g.Succ.getD c_69.toNat []).getD k_86.toNat 0) : Int).toNat default)) fun rv119 hg120 => Dx [] [] [0] (fun G => vb rv119) [fun G => SP.fact (True)] (fun G => xC [] ca37 (fn37 ((at_.getD a_31.toNat default)) ((at_.getD (((g.Succ.getD a_31.toNat []).getD i_48.toNat 0) : Int).toNat default)) ((at_.getD c_69.toNat default)) ((at_.getD (((g.Succ.getD c_69.toNat []).getD k_86.toNat 0) : Int).toNat default)) pre pre pre pre pre pre pre pre (by first | omega | exact (NP_get hnp aM1).2) rv119 hg120)) ?_
     refine Dn ⟨by kernel_rfl, fun G => ?_⟩
     refine Jw2 [(1, vl at_a0 at_k0 at_), (2, p5), (5, vi n_85), (6, vi a_31), (7, vi i_48), (8, vi c_69), (9, vi k_86), (88, vb rv119)] [0, 1, 2, 3, 4, 5, 6, 7, 8, 9, 10, 11, 12] [SP.fact (True)] ?_
     refine Jk [0, 1, 2, 3, 4, 5, 6, 7, 8, 9, 10, 11, 12] ?_
     refine Kc ?_ ?_
     ·intro h121
      refine KS ?_
      refine Oq Vm (Oq Vadd (Oq Va (KS ?_)))
      refine Oq Vm (Oq Vadd (Oq Va (KS ?_)))
      exact Kg (r104, (n_85 + 1), (k_86 + 1)) [8, 9, 10, 11, 12] ⟨(q3 hM87 (by simp only [r30_Crossings_L3, h102, h121, hg120, cs4])), aM1, aM1, aM1, aM1, aM1, iv1⟩
     intro h121
     refine KS ?_
     refine Oq Vm (Oq Vadd (Oq Va (KS ?_)))
     exact Kg (r104, n_85, (k_86 + 1)) [8, 9, 10, 11, 12] ⟨(q3 hM87 (by simp only [r30_Crossings_L3, h102, h121, hg120, cs4])), aM1, aM1, aM1, aM1, aM1, iv1⟩
    intro h102
    have g124 := df h102
    obtain rfl : r84 = 0 := by omega
    refine Ke ?_
    have hR125 := q2 hM87 n_85 (by simp only [r30_Crossings_L3, h102, cs4])
    refine KS ?_
    refine Oq Vm (Oq Vadd (Oq Va (KS ?_)))
    exact Kg (r83, n_85, (c_69 + 1)) [2, 3, 4, 5, 6] ⟨(q3 hM70 (by simp only [r30_Crossings_L2, h81, h102, hR125, cs4])), aM1, aM1, aM1, aM1, aM1, iv1⟩
   intro h81
   have g126 := df h81
   obtain rfl : r67 = 0 := by omega
   refine Ke ?_
   have hR127 := q2 hM70 n_68 (by simp only [r30_Crossings_L2, h81, cs4])
   refine KS ?_
   refine Oq Vm (Oq Vadd (Oq Va (KS ?_)))
   exact Kg (r66, n_68, (i_48 + 1)) [0, 1, 2, 3, 4] ⟨(q3 hM49 (by simp only [r30_Crossings_L1, h64, h81, hR127, cs4])), aM1, aM1, aM1, aM1, aM1, iv1⟩
  intro h64
  have g128 := df h64
  obtain rfl : r46 = 0 := by omega
  refine Ke ?_
  have hR129 := q2 hM49 n_47 (by simp only [r30_Crossings_L1, h64, cs4])
  refine KS ?_
  refine Oq Vm (Oq Vadd (Oq Va (KS ?_)))
  exact Kg (r45, n_47, (a_31 + 1)) [2, 3, 4, 5, 6] ⟨(q3 hM32 (by simp only [r30_Crossings_L0, h43, h64, hR129, cs4])), aM1, aM1, aM1, aM1, aM1, iv1⟩
 intro h43
 have g130 := df h43
 obtain rfl : r29 = 0 := by omega
 refine Ke ?_
 have hR131 := q2 hM32 n_30 (by simp only [r30_Crossings_L0, h43, cs4])
 refine KS ?_
 refine Oq Vm (Oq Va (KS ?_))
 have hq := q4 hrr n_30 (by simp only [r30_Crossings, h9, h14, h16, h22, h27, h43, hg7, hg20, hR131, cs4]); subst hq
 exact Kr () rfl (.tmp rfl .nil) [] en
theorem fn19 (g : GGraph) (ga0 : Option Addr) (gk0 : Nat) (ga1 : Option Addr) (gk1 : Nat) (ga2 : Option Addr) (gk2 : Nat) (at_ : List Cpx) (at_a0 : Option Addr) (at_k0 : Nat) (rr : Flo) (hrr : layout_Length g at_ = rr) : FT Tryz.prog 19 #[.agg #[vl ga0 gk0 g.Nodes, vl ga1 gk1 g.Succ, vl ga2 gk2 g.Pred], vl at_a0 at_k0 at_] [S ga0 gk0 g.Nodes, S ga1 gk1 g.Succ, S ga2 gk2 g.Pred, S at_a0 at_k0 at_] (fun g : Unit => True) (fun g => flo rr) (fun g => []) := by
 refine FTi Tryz.func19 fun w0 M0 F0 => Fb 32 0 fun _ => Fb 24 1 fun _ => Fb 24 2 fun _ => Fb 16 3 fun _ => ?_
 refine KS ?_
 refine Oa (Ab [vl ga0 gk0 g.Nodes, vl ga1 gk1 g.Succ, vl ga2 gk2 g.Pred]) fun p5 => Oq Va (KS ?_)
 refine Oq Va (KS ?_)
 refine Oq (VldA sh28 0) (Oq Vm ?_)
 refine letv (layout_edges g at_) fun rv7 hg8 => ?_
 have hEW := edges_EW hg8
 have hc9 := fn33 g ga0 gk0 ga1 gk1 ga2 gk2 at_ at_a0 at_k0 rv7 hg8
 refine Oc [1, 2, 3, 4] ca33 hc9 ?_
 rintro c6 he10
 refine Jo 0 ?_; rintro a11 k12 rfl
 refine Fb 32 0 fun _ => ?_
 refine Oq (Vlen sl70) (Oq Vm (KS ?_))
 refine Kl (γ := Nat × Flo × Int) (fun (r14, sum_15, v13_16) => ⟨[(5, flo sum_15), (11, vl a11 k12 rv7), (12, vi (rv7.length : Int)), (13, vi v13_16)], [O a11 k12 rv7], layout_Length_L0 rv7 r14 sum_15 v13_16 = layout_Length_L0 rv7 (((rv7.length : Int) - 0).toNat) (Flo.mk 0#64) 0 ∧ r14 = ((rv7.length : Int) - v13_16).toNat ∧ (0 : Int) ≤ v13_16 ∧ v13_16 ≤ (rv7.length : Int) ∧ (-9223372036854775808 ≤ v13_16 ∧ v13_16 ≤ 9223372036854775807) ∧ (NN sum_15), r14⟩) (((rv7.length : Int) - 0).toNat, (Flo.mk 0#64), 0) [0] ⟨rfl, rfl, aM1, aM1, aM1, NN_0⟩ ?_
 rintro ⟨r14, sum_15, v13_16⟩ ⟨hM17, hr18, hi19, hi20, hk21, hv22⟩
 refine JJ_nx fun _ _ hL hA => ?_; dsimp only at hL hA; subst hL hA
 refine Fb 32 0 fun _ => KS ?_
 refine Oq Vlss (KS ?_)
 refine Kc ?_ ?_
 ·intro h24
  have g25 := dt h24
  obtain ⟨r26, rfl⟩ := scc (n := r14) aM1
  refine KS ?_
  refine Oq (Vi sl70 0) ?_
  refine JJ_peekO_Gedge v13_16.toNat 0 rfl rng ?_
  refine Oq (VldA sh73 0) (Oa (Al ze73 [cxv (Cpx.mk 0#64 0#64), cxv (Cpx.mk 0#64 0#64)]) fun p27 => Ost (Scl [0] sh73 [cxv ((rv7.getD v13_16.toNat default).from_), cxv ((rv7.getD v13_16.toNat default).to_)]) (KS ?_))
  refine Oq (Vfa fo73_1 0) (Oq (VldF sh63 0) (Oq (Vfa fo73_0 0) (Oq (VldF sh63 0) (Oq (VsubC (a := (rv7.getD v13_16.toNat default).to_) (b := (rv7.getD v13_16.toNat default).from_) (h := (edge_sub hEW rng))) (Oq Va (KS ?_))))))
  refine Oq Vm (Oq Vm (Oq (Vre (a := (csub ((rv7.getD v13_16.toNat default).to_) ((rv7.getD v13_16.toNat default).from_)))) ?_))
  refine letv (math_Abs (Flo.mk (csub ((rv7.getD v13_16.toNat default).to_) ((rv7.getD v13_16.toNat default).from_)).re)) fun rv28 hg29 => ?_
  have hc30 := fn38 ((Flo.mk (csub ((rv7.getD v13_16.toNat default).to_) ((rv7.getD v13_16.toNat default).from_)).re)) rv28 hg29
  refine Oc [] ca38 hc30 ?_
  rintro - -
  refine Oq Vm (Oq (Vim (a := (csub ((rv7.getD v13_16.toNat default).to_) ((rv7.getD v13_16.toNat default).from_)))) ?_)
  refine letv (math_Abs (Flo.mk (csub ((rv7.getD v13_16.toNat default).to_) ((rv7.getD v13_16.toNat default).from_)).im)) fun rv31 hg32 => ?_
  have hc33 := fn38 ((Flo.mk (csub ((rv7.getD v13_16.toNat default).to_) ((rv7.getD v13_16.toNat default).from_)).im)) rv31 hg32
  refine Oc [] ca38 hc33 ?_
  rintro - -
  refine Oq (VaddF (a := rv28) (b := rv31) (h := (by first | exact edge_addA (by assumption) (by assumption) hEW rng | exact (edge_addB (by assumption) (by assumption) hEW rng (by assumption)).1))) (Oq (VaddF (a := sum_15) (b := (fadd rv28 rv31)) (h := (by first | exact edge_addA (by assumption) (by assumption) hEW rng | exact (edge_addB (by assumption) (by assumption) hEW rng (by assumption)).1))) (Oq Va (KS ?_)))
  refine Oq Vadd (Oq Vm (KS ?_))
  refine Jl [1] (Ent.oread _ _ _ _) ?_
  exact Kg (r26, (fadd sum_15 (fadd rv28 rv31)), (v13_16 + 1)) [0] ⟨(q3 hM17 (by simp only [layout_Length_L0, h24, hg29, hg32, cs4])), aM1, aM1, aM1, aM1, (edge_addB (by assumption) (by assumption) hEW rng (by assumption)).2⟩
 intro h24
 have g34 := df h24
 obtain rfl : r14 = 0 := by omega
 refine Ke ?_
 have hR35 := q2 hM17 sum_15 (by simp only [layout_Length_L0, h24, cs4])
 refine KS ?_
 refine Oq Vm (Oq Va (KS ?_))
 have hq := q4 hrr sum_15 (by simp only [layout_Length, h24, hg8, hR35, cs4]); subst hq
 exact Kr () rfl (.tmp rfl .nil) [] trivial
theorem fn39 (n : Int) (hn_0 : i64ok n) (hn0 : -5000 ≤ n ∧ n ≤ 5000) (rr : Int) (hrr : r30_size n = rr) : FT Tryz.prog 39 #[vi n] [] (fun g : Unit => i64ok rr ∧ (0 ≤ rr ∧ rr ≤ 5000)) (fun g => vi rr) (fun g => []) := by
 refine FTi Tryz.func39 fun w0 M0 F0 => ?_
 unfold i64ok at hn_0
 refine KS ?_
 refine Oq Va (KS ?_)
 refine Oq Vm (Oq Vm (Oq (VnegI (a := n)) (Oq Vmax (Oq Va (KS ?_)))))
 have hq := q4 hrr (max n (-n)) (by simp only [r30_size, cs4]); subst hq
 exact Kr () rfl (.tmp rfl .nil) [] en
theorem fn20 (g : GGraph) (ga0 : Option Addr) (gk0 : Nat) (ga1 : Option Addr) (gk1 : Nat) (ga2 : Option Addr) (gk2 : Nat) (at_ : List GPoint) (at_a0 : Option Addr) (at_k0 : Nat) (rr : Int) (hrr : r30_Length g at_ = rr) : FT Tryz.prog 20 #[.agg #[vl ga0 gk0 g.Nodes, vl ga1 gk1 g.Succ, vl ga2 gk2 g.Pred], vl at_a0 at_k0 at_] [S ga0 gk0 g.Nodes, S ga1 gk1 g.Succ, S ga2 gk2 g.Pred, S at_a0 at_k0 at_] (fun g : Unit => i64ok rr) (fun g => vi rr) (fun g => []) := by
 refine FTi Tryz.func20 fun w0 M0 F0 => Fb 32 0 fun _ => Fb 24 1 fun _ => Fb 24 2 fun _ => Fb 16 3 fun _ => ?_
 refine KS ?_
 refine Oa (Ab [vl ga0 gk0 g.Nodes, vl ga1 gk1 g.Succ, vl ga2 gk2 g.Pred]) fun p5 => Oq Va (KS ?_)
 refine Oq (Vbd st36 [vi (-1), vi 0]) (Oa (Al ze36 [vi 0, vi 0]) fun p6 => Ost (Scl [0] sh36 [vi (-1), vi 0]) (KS ?_))
 refine Oq (VldA sh28 1) ?_
 refine letv (r7_ValidGraph g) fun rv7 hg8 => ?_
 have hc9 := fn35 g ga0 gk0 ga1 gk1 ga2 gk2 rv7 hg8
 refine Oc [2, 3, 4] ca35 hc9 ?_
 rintro - -
 refine Oq Vnot (Oq Vm ?_)
 refine Js 14 ?_ ?_
 ·intro h10
  have h12 := not_true h10
  refine Osk (Osk (Osk (Osk (Osk (Osk (Oq Vpt (Oq Vm (Osk (Osk ?_)))))))))
  refine Osk (Oq Vpt (KS ?_))
  refine Kt (KS ?_)
  refine Oq Va (KS ?_)
  have hq := q4 hrr 0 (by simp only [r30_Length, h10, h12, hg8, cs4]); subst hq
  exact Kr () rfl (.tmp rfl .nil) [] en
 intro h10
 have h15 := not_false h10
 try (have hgv := rGVf (by assumption) h10; have hn1 := hgv.n1; have hsl := hgv.sl; have hpl := hgv.pl)
 try have hnp := near_f (by assumption) h10
 refine Oq Vm (Oq (Vlen sl30) (Oq (Vfa fo28_0 1) (Oq (VldF sh25 1) (Oq (Vlen sl25) (Oq Vneq (Oq Vpf (Oq Vm ?_)))))))
 refine Js 22 ?_ ?_
 ·intro h17
  have g18 := ne_of_bne h17
  refine Osk (Osk (Osk (Oq Vpt (KS ?_))))
  refine Kt (KS ?_)
  refine Oq Va (KS ?_)
  have hq := q4 hrr 0 (by simp only [r30_Length, h10, h15, h17, hg8, cs4]); subst hq
  exact Kr () rfl (.tmp rfl .nil) [] en
 intro h17
 have g19 := eq_of_bne_false h17
 refine Oq Vm ?_
 refine letv (r30_near at_) fun rv20 hg21 => ?_
 have hc22 := fn36 at_ at_a0 at_k0 rv20 hg21
 refine Oc [5] ca36 hc22 ?_
 rintro - -
 refine Oq Vnot (Oq Vpf (KS ?_))
 refine Kc ?_ ?_
 ·intro h23
  have h25 := not_true h23
  refine KS ?_
  refine Oq Va (KS ?_)
  have hq := q4 hrr 0 (by simp only [r30_Length, h10, h15, h17, h23, h25, hg8, hg21, cs4]); subst hq
  exact Kr () rfl (.tmp rfl .nil) [] en
 intro h23
 have h28 := not_false h23
 try (have hgv := rGVf (by assumption) h23; have hn1 := hgv.n1; have hsl := hgv.sl; have hpl := hgv.pl)
 try have hnp := near_f (by assumption) h23
 refine KS ?_
 refine Oq Va (KS ?_)
 refine Oq Va (KS ?_)
 refine Kl (γ := Nat × Int × Int) (fun (r30, n_31, a_32) => ⟨[(1, vl at_a0 at_k0 at_), (2, p5), (5, p6), (6, vi n_31), (7, vi a_32)], [Cl p6 [vi (-1), vi 0], pv p5 [vl ga0 gk0 g.Nodes, vl ga1 gk1 g.Succ, vl ga2 gk2 g.Pred], S ga0 gk0 g.Nodes, S ga1 gk1 g.Succ, S ga2 gk2 g.Pred, S at_a0 at_k0 at_], r30_Length_L0 g at_ r30 n_31 a_32 = r30_Length_L0 g at_ (((at_.length : Int) - 0).toNat) 0 0 ∧ r30 = ((at_.length : Int) - a_32).toNat ∧ (0 : Int) ≤ a_32 ∧ a_32 ≤ (at_.length : Int) ∧ (-9223372036854775808 ≤ n_31 ∧ n_31 ≤ 9223372036854775807) ∧ (-9223372036854775808 ≤ a_32 ∧ a_32 ≤ 9223372036854775807) ∧ (0 ≤ n_31 ∧ n_31 ≤ 2560000 * a_32), r30⟩) (((at_.length : Int) - 0).toNat, 0, 0) [0, 0, 1, 2, 3, 4] ⟨rfl, rfl, aM1, aM1, aM1, aM1, iv0⟩ ?_
 rintro ⟨r30, n_31, a_32⟩ ⟨hM33, hr34, hi35, hi36, hk37, hk38, hv39⟩
 refine JJ_nx fun _ _ hL hA => ?_; dsimp only at hL hA; subst hL hA
 refine Fb 32 2 fun _ => Fb 24 3 fun _ => Fb 24 4 fun _ => Fb 16 5 fun _ => KS ?_
 refine Oq Vm (Oq Vm (Oq (Vlen sl30) (Oq Vlss (KS ?_))))
 refine Kc ?_ ?_
 ·intro h44
  have g45 := dt h44
  have hal := Asc_l (hgv.sa a_32 aM1 aM1) aM1
  obtain ⟨r46, rfl⟩ := scc (n := r30) aM1
  refine KS ?_
  refine Oq Va (KS ?_)
  refine Kl (γ := Nat × Int × Int) (fun (r47, n_48, i_49) => ⟨[(1, vl at_a0 at_k0 at_), (2, p5), (5, p6), (6, vi n_48), (7, vi a_32), (8, vi i_49)], [Cl p6 [vi (-1), vi 0], pv p5 [vl ga0 gk0 g.Nodes, vl ga1 gk1 g.Succ, vl ga2 gk2 g.Pred], S ga0 gk0 g.Nodes, S ga1 gk1 g.Succ, S ga2 gk2 g.Pred, S at_a0 at_k0 at_], r30_Length_L1 g at_ a_32 r47 n_48 i_49 = r30_Length_L1 g at_ a_32 (((((g.Succ.getD a_32.toNat []).length : Int) : Int) - 0).toNat) n_31 0 ∧ r47 = ((((g.Succ.getD a_32.toNat []).length : Int) : Int) - i_49).toNat ∧ (0 : Int) ≤ i_49 ∧ (i_49 ≤ ((g.Succ.getD a_32.toNat []).length : Int) ∨ i_49 = 0) ∧ (-9223372036854775808 ≤ n_48 ∧ n_48 ≤ 9223372036854775807) ∧ (-9223372036854775808 ≤ i_49 ∧ i_49 ≤ 9223372036854775807) ∧ (0 ≤ n_48 ∧ n_48 ≤ 2560000 * a_32 + 10000 * i_49), r47⟩) (((((g.Succ.getD a_32.toNat []).length : Int) : Int) - 0).toNat, n_31, 0) [0, 0, 1, 2, 3, 4] ⟨rfl, rfl, aM1, (.inr rfl), aM1, aM1, iv0⟩ ?_
  rintro ⟨r47, n_48, i_49⟩ ⟨hM50, hr51, hi52, hi53, hk54, hk55, hv56⟩
  refine JJ_nx fun _ _ hL hA => ?_; dsimp only at hL hA; subst hL hA
  refine Fb 32 2 fun _ => Fb 24 3 fun _ => Fb 24 4 fun _ => Fb 16 5 fun _ => KS ?_
  refine Oq Vm (Oq (Vfa fo28_1 1) (Oq (VldF sh26 1) (Oq Vm (Oq (Vi sl26 3) ?_))))
  refine JJ_peekL a_32.toNat 3 rfl rng fun a61 k62 => ?_
  refine Fb 8 1 fun _ => Fo 1 fun ho64 => ?_
  refine Oq (Vld sh22 0) (Oq (Vlen sl22) (Oq Vlss (KS ?_)))
  refine Kc ?_ ?_
  ·intro h65
   have g66 := dt h65
   have hsm := Asc_in (hgv.sa a_32 aM1 aM1) (i := i_49) ⟨by omega, by omega⟩; have hsq := Asc_l (hgv.sa a_32 aM1 aM1) aM1
   have hpa := NP_get (i := a_32.toNat) hnp aM1
   have hpb := NP_get (i := ((g.Succ.getD a_32.toNat []).getD i_49.toNat 0 : Int).toNat) hnp aM1
   obtain ⟨r67, rfl⟩ := scc (n := r47) aM1
   refine KS ?_
   refine Oq Vm (Oq (Vfa fo28_1 3) (Oq (VldF sh26 3) (Oq Vm (Oq (Vi sl26 5) (Oq (Vld sh22 0) (Oq Vm (Oq (Vi sl22 1) ?_)))))))
   have hb68 := ok1 (i := i_49.toNat) ho64 rng
   refine Oq (VldI sh3 1) (Oq (Vi sl30 7) ?_)
   refine JJ_peek_GPoint (((g.Succ.getD a_32.toNat []).getD i_49.toNat 0) : Int).toNat 7 rfl rng fun hb69 hb70 => ?_
   unfold i64ok at hb69 hb70
   refine Oq (VldA sh36 0) (Oa (Al ze36 [vi 0, vi 0]) fun p71 => Ost (Scl [0] sh36 [vi ((at_.getD (((g.Succ.getD a_32.toNat []).getD i_49.toNat 0) : Int).toNat default).X), vi ((at_.getD (((g.Succ.getD a_32.toNat []).getD i_49.toNat 0) : Int).toNat default).Y)]) (KS ?_))
   refine JJ_peek_GPoint a_32.toNat 9 rfl rng fun hb72 hb73 => ?_
   unfold i64ok at hb72 hb73
   refine Kq [0, 0, 3, 7, 0, 31, 63, 127, 127, 511, 1023] fmix ?_
   refine Qv [] Vm (Qv [] Vm (Qv [10] (Vi sl30 0) (Qv [0] (VldA sh36 0) (Qv [5] (VldA sh36 0) (Qv [] (VneA eqi36 (l := [(at_.getD a_32.toNat default).X, (at_.getD a_32.toNat default).Y]) (m := [-1, 0])) ?_)))))
   refine bool_split ([(at_.getD a_32.toNat default).X, (at_.getD a_32.toNat default).Y] != [-1, 0]) ?_ ?_
   ·intro h74
    have g75 := ne_of_bne h74
    refine Qb h74 [] Vm (Qv [1] (VldA sh36 0) (Qv [5] (VldA sh36 0) (Qv [] (VneA eqi36 (l := [(at_.getD (((g.Succ.getD a_32.toNat []).getD i_49.toNat 0) : Int).toNat default).X, (at_.getD (((g.Succ.getD a_32.toNat []).getD i_49.toNat 0) : Int).toNat default).Y]) (m := [-1, 0])) (Qv [] Vpt ?_))))
    refine Qn ⟨by kernel_rfl, ?_⟩
    refine Kc ?_ ?_
    ·intro h76
     have g77 := ne_of_bne h76
     refine Jp 1 fun hp78 => ?_
     refine JK_drawK [0, 0, 0, 6, 14, 30, 0, 64, 254, 510, 0, 0, 3072, 7168, 15360, 0, 32768, 130048, 262142, 524286, 1048575, 2097151] fmix ?_
     refine Dv [] Vm (Dv [] Vm (Dv [] Vm (Dv [11] (Vi sl30 0) (Dv [1] (Vfa fo36_0 0) (Dv [1] (VldF sh3 0) (Dv [0] (Vfa fo36_0 0) (Dv [2] (VldF sh3 0) (Dv [] Vsub ?_))))))))
     refine letv (r30_size ((at_.getD a_32.toNat default).X - (at_.getD (((g.Succ.getD a_32.toNat []).getD i_49.toNat 0) : Int).toNat default).X)) fun rv79 hg80 => ?_
     refine Dx [] [] [0] (fun G => vi rv79) [fun G => SP.fact (i64ok rv79 ∧ (0 ≤ rv79 ∧ rv79 ≤ 5000))] (fun G => xC [] ca39 (fn39 (((at_.getD a_32.toNat default).X - (at_.getD (((g.Succ.getD a_32.toNat []).getD i_49.toNat 0) : Int).toNat default).X)) pre pre rv79 hg80)) (Dv [] Vm (Dv [] Vm (Dv [11] (Vi sl30 0) (Dv [1] (Vfa fo36_1 0) (Dv [1] (VldF sh3 0) (Dv [0] (Vfa fo36_1 0) (Dv [2] (VldF sh3 0) (Dv [] Vsub ?_))))))))
     refine letv (r30_size ((at_.getD a_32.toNat default).Y - (at_.getD (((g.Succ.getD a_32.toNat []).getD i_49.toNat 0) : Int).toNat default).Y)) fun rv81 hg82 => Dx [] [] [0] (fun G => vi rv81) [fun G => SP.fact (i64ok rv81 ∧ (0 ≤ rv81 ∧ rv81 ≤ 5000))] (fun G => xC [] ca39 (fn39 (((at_.getD a_32.toNat default).Y - (at_.getD (((g.Succ.getD a_32.toNat []).getD i_49.toNat 0) : Int).toNat default).Y)) pre pre rv81 hg82)) ?_
     refine Dx [12, 13] [] [0, 1] (fun G => vi (rv79 + rv81)) [] (fun G => by refine xf 0 rfl ?_; rintro ⟨he83, he84⟩; unfold i64ok at he83; refine xf 1 rfl ?_; rintro ⟨he85, he86⟩; unfold i64ok at he85; exact xV (Vadd)) ?_
     refine Dx [12, 13] [] [0, 1] (fun G => vi (n_48 + (rv79 + rv81))) [] (fun G => by refine xf 0 rfl ?_; rintro ⟨he87, he88⟩; unfold i64ok at he87; refine xf 1 rfl ?_; rintro ⟨he89, he90⟩; unfold i64ok at he89; exact xV (Vadd)) (Dv [] Va ?_)
     refine Dn ⟨by kernel_rfl, fun G => ?_⟩
     refine Jw2 [(1, vl at_a0 at_k0 at_), (2, p5), (5, p6), (7, vi a_32), (8, vi i_49), (6, vi (n_48 + (rv79 + rv81)))] [0, 1, 2, 3, 4, 5, 6, 7, 8, 9, 10, 11] [SP.fact (i64ok rv79 ∧ (0 ≤ rv79 ∧ rv79 ≤ 5000)), SP.fact (i64ok rv81 ∧ (0 ≤ rv81 ∧ rv81 ≤ 5000))] ?_
     refine Jf 12 rfl ?_; rintro ⟨he91, he92⟩
     unfold i64ok at he91
     refine Jf 13 rfl ?_; rintro ⟨he93, he94⟩
     unfold i64ok at he93
     refine Jk [1, 2, 2, 3, 4, 5, 5, 6, 7, 8, 9] ?_
     refine KS ?_
     refine Oq Vm (Oq Vadd (Oq Va (KS ?_)))
     exact Kg (r67, (n_48 + (rv79 + rv81)), (i_49 + 1)) [5, 5, 6, 7, 8, 9] ⟨(q3 hM50 (by simp only [r30_Length_L1, h65, h74, h76, hg80, hg82, cs4])), aM1, aM1, aM1, aM1, aM1, iv1⟩
    intro h76
    have g95 := eq_of_bne_false h76
    refine KS ?_
    refine Oq Vm (Oq Vadd (Oq Va (KS ?_)))
    exact Kg (r67, n_48, (i_49 + 1)) [5, 5, 6, 7, 8, 9] ⟨(q3 hM50 (by simp only [r30_Length_L1, h65, h74, h76, cs4])), aM1, aM1, aM1, aM1, aM1, iv1⟩
   intro h74
   have g96 := eq_of_bne_false h74
   refine Qb h74 [] Vm (Qs (Qs (Qs (Qv [] Vpf ?_))))
   refine Qn ⟨by kernel_rfl, ?_⟩
   refine Kf (KS ?_)
   refine Oq Vm (Oq Vadd (Oq Va (KS ?_)))
   exact Kg (r67, n_48, (i_49 + 1)) [5, 5, 6, 7, 8, 9] ⟨(q3 hM50 (by simp only [r30_Length_L1, h65, h74, cs4])), aM1, aM1, aM1, aM1, aM1, iv1⟩
  intro h65
  have g97 := df h65
  obtain rfl : r47 = 0 := by omega
  refine Ke ?_
  have hR98 := q2 hM50 n_48 (by simp only [r30_Length_L1, h65, cs4])
  refine KS ?_
  refine Oq Vm (Oq Vadd (Oq Va (KS ?_)))
  exact Kg (r46, n_48, (a_32 + 1)) [2, 2, 3, 4, 5, 6] ⟨(q3 hM33 (by simp only [r30_Length_L0, h44, h65, hR98, cs4])), aM1, aM1, aM1, aM1, aM1, iv1⟩
 intro h44
 have g99 := df h44
 obtain rfl : r30 = 0 := by omega
 refine Ke ?_
 have hR100 := q2 hM33 n_31 (by simp only [r30_Length_L0, h44, cs4])
 refine KS ?_
 refine Oq Vm (Oq Va (KS ?_))
 have hq := q4 hrr n_31 (by simp only [r30_Length, h10, h15, h17, h23, h28, h44, hg8, hg21, hR100, cs4]); subst hq
 exact Kr () rfl (.tmp rfl .nil) [] en
theorem fn21 (a : List Cpx) (aa0 : Option Addr) (ak0 : Nat) (b : List Cpx) (ba0 : Option Addr) (bk0 : Nat) (rr : Bool) (hrr : w33_same a b = rr) : FT Tryz.prog 21 #[vl aa0 ak0 a, vl ba0 bk0 b] [S aa0 ak0 a, S ba0 bk0 b] (fun g : Unit => True) (fun g => vb rr) (fun g => []) := by
 refine FTi Tryz.func21 fun w0 M0 F0 => Fb 16 0 fun _ => Fb 16 1 fun _ => ?_
 refine KS ?_
 refine Oq Va (KS ?_)
 refine Oq Vm (Oq (Vlen sl49) (Oq Vm (Oq (Vlen sl49) (Oq Vneq (KS ?_)))))
 refine Kc ?_ ?_
 ·intro h3
  have g4 := ne_of_bne h3
  refine KS ?_
  refine Oq Va (KS ?_)
  have hq := q4 hrr false (by simp only [w33_same, h3, cs4]); subst hq
  exact Kr () rfl (.tmp rfl .nil) [] trivial
 intro h3
 have g5 := eq_of_bne_false h3
 refine KS ?_
 refine Oq Va (KS ?_)
 refine Kl (γ := Nat × Int) (fun (r6, i_7) => ⟨[(0, vl aa0 ak0 a), (1, vl ba0 bk0 b), (5, vi i_7)], [S aa0 ak0 a, S ba0 bk0 b], w33_same_L0 a b r6 i_7 = w33_same_L0 a b (((a.length : Int) - 0).toNat) 0 ∧ r6 = ((a.length : Int) - i_7).toNat ∧ (0 : Int) ≤ i_7 ∧ i_7 ≤ (a.length : Int) ∧ (-9223372036854775808 ≤ i_7 ∧ i_7 ≤ 9223372036854775807), r6⟩) (((a.length : Int) - 0).toNat, 0) [0, 1] ⟨rfl, rfl, aM1, aM1, aM1⟩ ?_
 rintro ⟨r6, i_7⟩ ⟨hM8, hr9, hi10, hi11, hk12⟩
 refine JJ_nx fun _ _ hL hA => ?_; dsimp only at hL hA; subst hL hA
 refine Fb 16 0 fun _ => Fb 16 1 fun _ => KS ?_
 refine Oq Vm (Oq Vm (Oq (Vlen sl49) (Oq Vlss (KS ?_))))
 refine Kc ?_ ?_
 ·intro h15
  have g16 := dt h15
  obtain ⟨r17, rfl⟩ := scc (n := r6) aM1
  refine KS ?_
  refine Kq [0, 0, 3, 7, 0, 0, 48, 112, 255] fmix ?_
  refine Qv [] Vm (Qv [] Vm (Qv [0] (Vi sl49 0) (Qv [0] (VldCx sh63 0) (Qv [] Vm (Qv [] Vm (Qv [1] (Vi sl49 0) (Qv [1] (VldCx sh63 0) (Qv [] (VneC (a := (a.getD i_7.toNat default)) (b := (b.getD i_7.toNat default))) ?_))))))))
  refine Qn ⟨by kernel_rfl, ?_⟩
  refine Kc ?_ ?_
  ·intro h18
   have h20 := not_true h18
   refine KS ?_
   refine Oq Va (KS ?_)
   have hR22 := q2 hM8 (.ret false) (by simp only [w33_same_L0, h15, h18, h20, cs4])
   have hq := q4 hrr false (by simp only [w33_same, h3, h15, h18, h20, hR22, cs4]); subst hq
   exact Kr () rfl (.tmp rfl .nil) [] trivial
  intro h18
  have h24 := not_false h18
  refine KS ?_
  refine Oq Vm (Oq Vadd (Oq Va (KS ?_)))
  exact Kg (r17, (i_7 + 1)) [0, 1] ⟨(q3 hM8 (by simp only [w33_same_L0, h15, h18, h24, cs4])), aM1, aM1, aM1, aM1⟩
 intro h15
 have g26 := df h15
 obtain rfl : r6 = 0 := by omega
 refine Ke ?_
 have hR27 := q2 hM8 (.brk ()) (by simp only [w33_same_L0, h15, cs4])
 refine KS ?_
 refine Oq Va (KS ?_)
 have hq := q4 hrr true (by simp only [w33_same, h3, h15, hR27, cs4]); subst hq
 exact Kr () rfl (.tmp rfl .nil) [] trivial
theorem fn23 (at_ : List GPoint) (at_a0 : Option Addr) (at_k0 : Nat) (quarter : Int) (hquarter_0 : i64ok quarter) (rr : List GPoint) (hrr : r30_Turn at_ quarter = rr) : FT Tryz.prog 23 #[vl at_a0 at_k0 at_, vi quarter] [S at_a0 at_k0 at_] (fun g : Value => True) (fun g => g) (fun g => [os g rr]) := by
 refine FTi Tryz.func23 fun w0 M0 F0 => ?_
 unfold i64ok at hquarter_0
 refine Fb 16 0 fun _ => KS ?_
 refine Oq Va (KS ?_)
 refine Oq Vm ?_
 refine letv (r30_near at_) fun rv2 hg3 => ?_
 have hc4 := fn36 at_ at_a0 at_k0 rv2 hg3
 refine Oc [0] ca36 hc4 ?_
 rintro - -
 refine Oq Vnot (KS ?_)
 refine Kc ?_ ?_
 ·intro h5
  have h7 := not_true h5
  refine KS ?_
  refine Oq Va (KS ?_)
  refine Jl [] (Ent.osNil (α := GPoint)) ?_
  have hq := q4 hrr ([] : List GPoint) (by simp only [r30_Turn, h5, h7, hg3, cs4]); subst hq
  exact Kr (.slice none 0 0) rfl (.tmp rfl .nil) [0] trivial
 intro h5
 have h10 := not_false h5
 try (have hgv := rGVf (by assumption) h5; have hn1 := hgv.n1; have hsl := hgv.sl; have hpl := hgv.pl)
 try have hnp := near_f (by assumption) h5
 refine KS ?_
 refine Oa (As0 sl30) fun c12 => ?_
 refine Jo 0 ?_; rintro a13 k14 rfl
 refine Oq Vm ?_
 refine Jl [0] (Ent.crNil (α := GPoint) _) ?_
 refine Oa (Ap0 [0, 0] sl30 sl30 sz30) fun c15 => ?_
 refine Jo 0 ?_; rintro a16 k17 rfl
 refine Oq Va (KS ?_)
 refine Oq Vm (Oq VremT ?_)
 have ht18 := tmod_rng quarter 4 aM1
 refine Oq Vadd (Oq VremT ?_)
 have ht19 := tmod_rng ((Int.tmod quarter 4) + 4) 4 aM1
 refine Oq Va (KS ?_)
 refine Kl (γ := Nat × List GPoint × Int) (fun (r20, out_21, q_22) => ⟨[(5, vl a16 k17 at_), (6, vi q_22)], [os (vl a16 k17 at_) out_21], r30_Turn_L0 at_ r20 out_21 q_22 = r30_Turn_L0 at_ (((Int.tmod ((Int.tmod quarter 4) + 4) 4) : Int).toNat) at_ (Int.tmod ((Int.tmod quarter 4) + 4) 4) ∧ r20 = q_22.toNat ∧ q_22 ≤ ((Int.tmod ((Int.tmod quarter 4) + 4) 4) : Int) ∧ (-9223372036854775808 ≤ q_22 ∧ q_22 ≤ 9223372036854775807) ∧ (out_21.length = at_.length) ∧ (NP out_21), r20⟩) (((Int.tmod ((Int.tmod quarter 4) + 4) 4) : Int).toNat, at_, (Int.tmod ((Int.tmod quarter 4) + 4) 4)) [0] ⟨rfl, rfl, aM1, aM1, iv0, hnp⟩ ?_
 rintro ⟨r20, out_21, q_22⟩ ⟨hM23, hr24, hi25, hk26, hv27, hv28⟩
 refine JJ_nx fun _ _ hL hA => ?_; dsimp only at hL hA; subst hL hA
 refine Fb 16 0 fun _ => Fl 0 fun hn30 => ?_
 refine KS ?_
 refine Oq Vm (Oq Vgtr (KS ?_))
 refine Kc ?_ ?_
 ·intro h31
  have g32 := dt h31
  obtain ⟨r33, rfl⟩ := scc (n := r20) aM1
  refine KS ?_
  refine Oq Va (KS ?_)
  refine Kl (γ := Nat × List GPoint × Int) (fun (r34, out_35, i_36) => ⟨[(5, vl a16 k17 at_), (6, vi q_22), (7, vi i_36)], [os (vl a16 k17 at_) out_35], r30_Turn_L1 r34 out_35 i_36 = r30_Turn_L1 (((at_.length : Int) - 0).toNat) out_21 0 ∧ r34 = ((at_.length : Int) - i_36).toNat ∧ (0 : Int) ≤ i_36 ∧ i_36 ≤ (at_.length : Int) ∧ (-9223372036854775808 ≤ i_36 ∧ i_36 ≤ 9223372036854775807) ∧ (out_35.length = at_.length) ∧ (NP out_35), r34⟩) (((at_.length : Int) - 0).toNat, out_21, 0) [0] ⟨rfl, rfl, aM1, aM1, aM1, iv0, (by assumption)⟩ ?_
  rintro ⟨r34, out_35, i_36⟩ ⟨hM37, hr38, hi39, hi40, hk41, hv42, hv43⟩
  refine JJ_nx fun _ _ hL hA => ?_; dsimp only at hL hA; subst hL hA
  refine Fb 16 0 fun _ => Fl 0 fun hn45 => ?_
  refine KS ?_
  refine Oq Vm (Oq Vm (Oq (Vlen sl30) (Oq Vlss (KS ?_))))
  refine Kc ?_ ?_
  ·intro h46
   have g47 := dt h46
   have hpa := NP_get (i := i_36.toNat) (by assumption : NP _) aM1
   obtain ⟨r48, rfl⟩ := scc (n := r34) aM1
   refine KS ?_
   refine JJ_peekO_GPoint i_36.toNat 0 rfl rng fun hb49 hb50 => ?_
   unfold i64ok at hb49 hb50
   refine JK_drawK [0, 0, 0, 0, 12, 28, 60, 124, 0, 0, 768, 1792, 3840, 8188, 16383, 32767] fmix ?_
   refine Dv [] Vm (Dv [] Vm (Dv [] Vm (Dv [] Vm (Dv [0] (Vi sl30 0) (Dv [0] (Vfa fo36_1 0) (Dv [0] (VldF sh3 0) (Dv [] (VnegI (a := (out_35.getD i_36.toNat default).Y) (h := (NP_neg (by assumption) rng))) (Dv [] Vm (Dv [] Vm ?_)))))))))
   refine Dv [0] (Vi sl30 0) (Dv [0] (Vfa fo36_0 0) (Dv [0] (VldF sh3 0) (Dv [] (Vbd st36 [vi (-((out_35.getD i_36.toNat default).Y)), vi ((out_35.getD i_36.toNat default).X)]) (Dv [0] (Vi sl30 0) ?_))))
   refine Dx0 [0] [0] [0] [fun G => os (vl a16 k17 at_) (out_35.set i_36.toNat (GPoint.mk (-((out_35.getD i_36.toNat default).Y)) ((out_35.getD i_36.toNat default).X)))] (fun G => xp [0] rfl (Ent.oread _ _ _ _) (xS (So (Rs := []) [0] sh36 (GPoint.mk (-((out_35.getD i_36.toNat default).Y)) ((out_35.getD i_36.toNat default).X)) (fun h => ⟨rfl, aL1, aL1⟩)))) ?_
   refine Dn ⟨by kernel_rfl, fun G => ?_⟩
   refine Jw2 [(5, vl a16 k17 at_), (6, vi q_22), (7, vi i_36)] [] [os (vl a16 k17 at_) (out_35.set i_36.toNat (GPoint.mk (-((out_35.getD i_36.toNat default).Y)) ((out_35.getD i_36.toNat default).X)))] ?_
   refine KS ?_
   refine Oq Vm (Oq Vadd (Oq Va (KS ?_)))
   exact Kg (r48, (out_35.set i_36.toNat (GPoint.mk (-((out_35.getD i_36.toNat default).Y)) ((out_35.getD i_36.toNat default).X))), (i_36 + 1)) [0] ⟨(q3 hM37 (by simp only [r30_Turn_L1, h46, cs4])), aM1, aM1, aM1, aM1, iv1, (NP_rot (by assumption) aM1)⟩
  intro h46
  have g51 := df h46
  obtain rfl : r34 = 0 := by omega
  refine Ke ?_
  have hR52 := q2 hM37 out_35 (by simp only [r30_Turn_L1, h46, cs4])
  refine KS ?_
  refine Oq Vm (Oq Vsub (Oq Va (KS ?_)))
  exact Kg (r33, out_35, (q_22 - 1)) [0] ⟨(q3 hM23 (by simp only [r30_Turn_L0, h31, h46, hR52, cs4])), aM1, aM1, aM1, iv1, (by assumption)⟩
 intro h31
 have g53 := df h31
 obtain rfl : r20 = 0 := by omega
 refine Ke ?_
 have hR54 := q2 hM23 out_21 (by simp only [r30_Turn_L0, h31, cs4])
 refine KS ?_
 refine Oq Vm (Oq Va (KS ?_))
 have hq := q4 hrr out_21 (by simp only [r30_Turn, h5, h10, h31, hg3, hR54, cs4]); subst hq
 exact Kr (vl a16 k17 at_) rfl (.tmp rfl .nil) [0] trivial
theorem fn9 (g : GGraph) (ga0 : Option Addr) (gk0 : Nat) (ga1 : Option Addr) (gk1 : Nat) (ga2 : Option Addr) (gk2 : Nat) (l : List GPoint) (la0 : Option Addr) (lk0 : Nat) (quarter : Int) (hquarter_0 : i64ok quarter) (rr : Bool) (hrr : w33_measures g l quarter = rr) : FT Tryz.prog 9 #[.agg #[vl ga0 gk0 g.Nodes, vl ga1 gk1 g.Succ, vl ga2 gk2 g.Pred], vl la0 lk0 l, vi quarter] [S ga0 gk0 g.Nodes, S ga1 gk1 g.Succ, S ga2 gk2 g.Pred, S la0 lk0 l] (fun g : Unit => True) (fun g => vb rr) (fun g => []) := by
 refine FTi Tryz.func9 fun w0 M0 F0 => ?_
 unfold i64ok at hquarter_0
 refine Fb 32 0 fun _ => Fb 24 1 fun _ => Fb 24 2 fun _ => Fb 16 3 fun _ => KS ?_
 refine Oa (Ab [vl ga0 gk0 g.Nodes, vl ga1 gk1 g.Succ, vl ga2 gk2 g.Pred]) fun p5 => Oq Va (KS ?_)
 refine Oq Vm ?_
 refine letv (w33_points l) fun rv7 hg8 => ?_
 have hc9 := fn16 l la0 lk0 rv7 hg8
 refine Oc [4] ca16 hc9 ?_
 rintro c6 he10
 refine Jo 0 ?_; rintro a11 k12 rfl
 refine Fb 16 0 fun _ => ?_
 refine Oq Va (KS ?_)
 refine JK_drawK [0, 0, 3, 0, 0, 31, 63, 127, 255, 255, 1023, 255, 255, 8191, 16383, 32767, 65535, 131071, 262143, 262143, 1048575, 262143, 262143, 8388607, 16777215, 33554431, 67108863, 134217727] fmix ?_
 refine Dv [1] (VldA sh28 0) (Dv [] Vm ?_)
 refine letv (layout_Crossings g rv7) fun rv14 hg15 => ?_
 refine Dx [0, 2, 3, 4] [] [1, 2, 3, 4, 0] (fun G => vi rv14) [fun G => SP.fact (i64ok rv14)] (fun G => xC [1, 2, 3, 0] ca17 (fn17 g ga0 gk0 ga1 gk1 ga2 gk2 rv7 a11 k12 rv14 hg15)) (Dv [1] (VldA sh28 0) (Dv [] Vm ?_))
 refine letv (r30_Crossings g l) fun rv16 hg17 => ?_
 refine Dx [2, 3, 4, 5] [] [1, 2, 3, 4, 0] (fun G => vi rv16) [fun G => SP.fact (i64ok rv16)] (fun G => xC [0, 1, 2, 3] ca18 (fn18 g ga0 gk0 ga1 gk1 ga2 gk2 l la0 lk0 rv16 hg17)) (Dv [] Veql ?_)
 refine bool_split (rv14 == rv16) ?_ ?_
 ·intro h18
  have g19 := eq_of_beq h18
  refine Db h18 [] Vm (Dv [1] (VldA sh28 0) (Dv [] Vm ?_))
  refine letv (layout_Length g rv7) fun rv20 hg21 => ?_
  refine Dx [0, 2, 3, 4] [] [1, 2, 3, 4, 0] (fun G => flo rv20) [fun G => SP.fact (True)] (fun G => xC [1, 2, 3, 0] ca19 (fn19 g ga0 gk0 ga1 gk1 ga2 gk2 rv7 a11 k12 rv20 hg21)) (Dv [1] (VldA sh28 0) (Dv [] Vm ?_))
  refine letv (r30_Length g l) fun rv22 hg23 => ?_
  refine Dx [2, 3, 4, 5] [] [1, 2, 3, 4, 0] (fun G => vi rv22) [fun G => SP.fact (i64ok rv22)] (fun G => xC [0, 1, 2, 3] ca20 (fn20 g ga0 gk0 ga1 gk1 ga2 gk2 l la0 lk0 rv22 hg23)) (Dv [] (VcIF (n := rv22) un3 un53) (Dv [] (VeqF (a := rv20) (b := (fofI rv22))) (Dv [] Vpt ?_)))
  refine bool_split (feq rv20 (fofI rv22)) ?_ ?_
  ·intro h24
   refine Db h24 [] Vm (Dv [] Vm (Dv [] Vm ?_))
   refine letv (layout_Turn rv7 quarter) fun rv27 hg28 => ?_
   refine Dx [0] [] [2, 0, 1] (fun G => (G.g 20 0)) [fun G => SP.fact (True), fun G => os (G.g 20 0) rv27] (fun G => xC [0] ca22 (fn22 rv7 a11 k12 quarter pre rv27 hg28)) (Dv [] Vm (Dv [] Vm ?_))
   refine letv (r30_Turn l quarter) fun rv30 hg31 => Dx [5] [] [2, 0, 1] (fun G => (G.g 23 0)) [fun G => SP.fact (True), fun G => os (G.g 23 0) rv30] (fun G => xC [0] ca23 (fn23 l la0 lk0 quarter pre rv30 hg31)) ?_
   refine letv (w33_points rv30) fun rv36 hg37 => ?_
   refine Dx [13] [13] [2, 0, 1] (fun G => (G.g 24 0)) [fun G => sl (G.g 23 0) rv30, fun G => SP.fact ((rv36.length = rv30.length)), fun G => sl (G.g 24 0) rv36] (fun G => xp [0] rfl (Ent.freeze _ _) (xD [0] ca16 rfl rfl rfl (FT_open (γ := Value) (I := fun g => (rv36.length = rv30.length)) (V := fun g => g) (B := fun g => [sl g rv36]) (R := sl (G.g 23 0) rv30) sl_slice (fun aq32 kq33 eq34 => by rw [eq34]; exact FT_ent (Ent.take (is := [0]) rfl) (fn16 rv30 aq32 kq33 rv36 hg37))))) ?_
   refine letv (w33_same rv27 rv36) fun rv44 hg45 => ?_
   refine Dx [11, 16] [11] [2, 1, 0] (fun G => vb rv44) [fun G => sl (G.g 20 0) rv27, fun G => SP.fact (True)] (fun G => xp [0] rfl (Ent.freeze _ _) (xD [1, 0] ca21 rfl rfl rfl (FT_open (γ := Unit) (I := fun g => True) (V := fun g => vb rv44) (B := fun g => []) (R := sl (G.g 24 0) rv36) sl_slice (fun aq41 kq42 eq43 => by rw [eq43]; exact FT_ent (Ent.take (is := [1, 0]) rfl) (FT_open (γ := Unit) (I := fun g => True) (V := fun g => vb rv44) (B := fun g => []) (R := sl (G.g 20 0) rv27) sl_slice (fun aq38 kq39 eq40 => by rw [eq40]; exact FT_ent (Ent.take (is := [0, 1]) rfl) (fn21 rv27 aq38 kq39 rv36 aq41 kq42 rv44 hg45))))))) (Dv [] Vpt (Dv [] Va ?_))
   refine Dn ⟨by kernel_rfl, fun G => ?_⟩
   refine Jw2 [(6, vb rv44)] [0, 1, 2, 3, 4, 5] [SP.fact (i64ok rv14), SP.fact (i64ok rv16), SP.fact (True), SP.fact (i64ok rv22), SP.fact (True), SP.fact (True), sl (G.g 23 0) rv30, SP.fact ((rv36.length = rv30.length)), sl (G.g 24 0) rv36, sl (G.g 20 0) rv27, SP.fact (True)] ?_
   generalize G.g 20 0 = c26, G.g 23 0 = c29, G.g 24 0 = c35
   refine Jf 6 rfl ?_; rintro he46
   unfold i64ok at he46
   refine Jf 7 rfl ?_; rintro he47
   unfold i64ok at he47
   refine Jf 9 rfl ?_; rintro he48
   unfold i64ok at he48
   refine Jf 13 rfl ?_; rintro he49
   refine Jk [0, 1, 2, 3, 4, 5, 12, 14, 15] ?_
   refine Jo 6 ?_; rintro a50 k51 rfl
   refine Fb 16 6 fun _ => ?_
   refine Jo 7 ?_; rintro a53 k54 rfl
   refine Fb 16 7 fun _ => ?_
   refine Jo 8 ?_; rintro a56 k57 rfl
   refine Fb 16 8 fun _ => ?_
   have hq := q4 hrr rv44 (by simp only [w33_measures, h18, h24, hg8, hg15, hg17, hg21, hg23, hg28, hg31, hg37, hg45, cs4]); subst hq
   exact Kr () rfl (.tmp rfl .nil) [] trivial
  intro h24
  refine Db h24 [] Vm (Ds (Ds (Ds (Ds (Ds (Ds (Ds (Ds (Dv [] Vpf ?_)))))))))
  refine Dv [] Va ?_
  refine Dn ⟨by kernel_rfl, fun G => ?_⟩
  refine Jw2 [(6, vb false)] [0, 1, 2, 3, 4, 5] [SP.fact (i64ok rv14), SP.fact (i64ok rv16), SP.fact (True), SP.fact (i64ok rv22)] ?_
  refine Jf 6 rfl ?_; rintro he60
  unfold i64ok at he60
  refine Jf 7 rfl ?_; rintro he61
  unfold i64ok at he61
  refine Jf 9 rfl ?_; rintro he62
  unfold i64ok at he62
  refine Jk [0, 1, 2, 3, 4, 5] ?_
  have hq := q4 hrr false (by simp only [w33_measures, h18, h24, hg8, hg15, hg17, hg21, hg23, cs4]); subst hq
  exact Kr () rfl (.tmp rfl .nil) [] trivial
 intro h18
 have g63 := ne_of_beq_false h18
 refine Db h18 [] Vm (Ds (Ds (Ds (Ds (Ds (Ds (Ds (Ds (Dv [] Vpf ?_)))))))))
 refine Dv [] Vm (Ds (Ds (Ds (Ds (Ds (Ds (Ds (Ds (Dv [] Vpf ?_)))))))))
 refine Dv [] Va ?_
 refine Dn ⟨by kernel_rfl, fun G => ?_⟩
 refine Jw2 [(6, vb false)] [0, 1, 2, 3, 4, 5] [SP.fact (i64ok rv14), SP.fact (i64ok rv16)] ?_
 refine Jf 6 rfl ?_; rintro he64
 unfold i64ok at he64
 refine Jf 7 rfl ?_; rintro he65
 unfold i64ok at he65
 refine Jk [0, 1, 2, 3, 4, 5] ?_
 have hq := q4 hrr false (by simp only [w33_measures, h18, hg8, hg15, hg17, cs4]); subst hq
 exact Kr () rfl (.tmp rfl .nil) [] trivial
theorem fn3 (t : List Int) (ta0 : Option Addr) (tk0 : Nat) (quarter : Int) (hquarter_0 : i64ok quarter) (rr : Bool) (hrr : w33_LayoutMeasures t quarter = rr) : FT Tryz.prog 3 #[vl ta0 tk0 t, vi quarter] [S ta0 tk0 t] (fun g : Unit => True) (fun g => vb rr) (fun g => []) := by
 refine FTi Tryz.func3 fun w0 M0 F0 => ?_
 unfold i64ok at hquarter_0
 refine Fb 8 0 fun _ => Fo 0 fun ho2 => KS ?_
 refine Oq Va (KS ?_)
 refine Oq Vm ?_
 refine letv (g_New t) fun rv4 hg5 => ?_
 have hc6 := fn5 t ta0 tk0 rv4 hg5
 refine Oc [0] ca5 hc6 ?_
 rintro c3 -
 refine Oq Va (KS ?_)
 refine Oq Va (KS ?_)
 refine Kl (γ := Nat × Int × Int) (fun (r7, k1_8, i_9) => ⟨[(1, vi quarter), (5, c3), (6, vi i_9)], [Cl c3 [vl ta0 tk0 t, vi k1_8], S ta0 tk0 t], w33_LayoutMeasures_L0 t quarter r7 k1_8 i_9 = w33_LayoutMeasures_L0 t quarter 6 0 0 ∧ r7 = ((6 : Int) - i_9).toNat ∧ (0 : Int) ≤ i_9 ∧ i_9 ≤ 6 ∧ (-9223372036854775808 ≤ k1_8 ∧ k1_8 ≤ 9223372036854775807) ∧ (0 ≤ k1_8 ∧ k1_8 ≤ (t.length : Int)) ∧ (-9223372036854775808 ≤ i_9 ∧ i_9 ≤ 9223372036854775807), r7⟩) (6, 0, 0) [0, 0] ⟨rfl, rfl, aM1, aM1, aM1, aM1, aM1⟩ ?_
 rintro ⟨r7, k1_8, i_9⟩ ⟨hM10, hr11, hi12, hi13, hk14, ht15, hk16⟩
 refine JJ_nx fun _ _ hL hA => ?_; dsimp only at hL hA; subst hL hA
 refine Fb 8 1 fun _ => Fo 1 fun ho18 => KS ?_
 refine Oq Vm (Oq Vlss (KS ?_))
 refine Kc ?_ ?_
 ·intro h19
  have g20 := dt h19
  obtain ⟨r21, rfl⟩ := scc (n := r7) aM1
  refine KS ?_
  refine Oq Vm ?_
  refine letv (tp_Graph t k1_8 8) fun rv25 hg26 => ?_
  have hc27 := fn6 c3 ta0 tk0 t k1_8 8 pre pre pre rv25 hg26
  refine Oc [0, 0] ca6 hc27 ?_
  rintro ⟨c22, c23, c24⟩ ⟨he28, he29, he30, he31, he32⟩
  refine Jo 0 ?_; rintro a33 k34 rfl
  refine Fb 32 0 fun _ => ?_
  refine Jo 1 ?_; rintro a36 k37 rfl
  refine Fb 24 1 fun _ => ?_
  refine Jo 2 ?_; rintro a39 k40 rfl
  refine Fb 24 2 fun _ => ?_
  refine Oa (Al ze28 [.slice none 0 0, .slice none 0 0, .slice none 0 0]) fun p42 => Ost (Scl [0] sh28 [vl a33 k34 rv25.1.Nodes, vl a36 k37 rv25.1.Succ, vl a39 k40 rv25.1.Pred]) (KS ?_)
  refine Oq (VldA sh28 0) ?_
  refine letv (r30_Points rv25.1 0) fun rv44 hg45 => ?_
  have hc46 := fn7 rv25.1 a33 k34 a36 k37 a39 k40 0 pre rv44 hg45
  refine Oc [1, 2, 3] ca7 hc46 ?_
  rintro c43 he47
  unfold i64ok at he47
  refine Jo 0 ?_; rintro a48 k49 rfl
  refine Fb 16 0 fun _ => ?_
  refine Oq Vm (Oq Vx (Oq Vx (Oq Va (Oq Va (KS ?_)))))
  refine Oq Va (KS ?_)
  refine Jp 1 fun hp51 => ?_
  refine JK_drawK [0, 1, 3, 0, 8, 24, 63, 127] fmix ?_
  refine Dv [0] (Vfa fo28_0 0) (Dv [2] (VldF sh25 0) (Dv [] (Vlen sl25) (Dv [] Vm ?_)))
  refine letv (tp_Next t rv25.2 9) fun rv52 hg53 => Dx [6, 7] [6] [2, 0, 1] (fun G => vi rv52.1) [fun G => SP.fact (i64ok rv52.1 ∧ (0 ≤ rv52.2 ∧ rv52.2 ≤ (t.length : Int)) ∧ (0 ≤ rv52.1 ∧ (rv52.1 < 9 ∨ rv52.1 = 0))), fun G => Cl c3 [vl ta0 tk0 t, vi rv52.2]] (fun G => xC [0, 0] ca8 (fn8 c3 ta0 tk0 t rv25.2 9 pre pre rv52 hg53)) ?_
  refine Dx [8] [] [0] (fun G => vi (rv52.1 / 8)) [] (fun G => by refine xf 0 rfl ?_; rintro ⟨he54, he55, he56⟩; unfold i64ok at he54; exact xV (Vquo)) ?_
  refine Dx [8] [] [0] (fun G => vi ((rv25.1.Nodes.length : Int) + (rv52.1 / 8))) [] (fun G => by refine xf 0 rfl ?_; rintro ⟨he57, he58, he59⟩; unfold i64ok at he57; exact xV (Vadd)) (Dv [] Va ?_)
  refine Dn ⟨by kernel_rfl, fun G => ?_⟩
  refine Jw2 [(1, vi quarter), (5, c3), (6, vi i_9), (7, p42), (8, vl a48 k49 rv44.1), (10, .slice none 0 0), (11, vi ((rv25.1.Nodes.length : Int) + (rv52.1 / 8)))] [0, 1, 2, 3, 4, 5, 7] [SP.fact (i64ok rv52.1 ∧ (0 ≤ rv52.2 ∧ rv52.2 ≤ (t.length : Int)) ∧ (0 ≤ rv52.1 ∧ (rv52.1 < 9 ∨ rv52.1 = 0))), Cl c3 [vl ta0 tk0 t, vi rv52.2]] ?_
  refine Jf 7 rfl ?_; rintro ⟨he60, he61, he62⟩
  unfold i64ok at he60
  refine Jk [1, 1, 1, 2, 3, 4, 6] ?_
  refine KS ?_
  refine Jl [] (Ent.osNil (α := GPoint)) ?_
  refine Kl (γ := Nat × Int × List GPoint × Int × Option Addr × Nat) (fun (r63, k1_64, l_65, n_66, a67, k68) => ⟨[(1, vi quarter), (5, c3), (6, vi i_9), (7, p42), (8, vl a48 k49 rv44.1), (10, vl a67 k68 l_65), (11, vi n_66)], [O a67 k68 l_65, O a48 k49 rv44.1, Cl p42 [vl a33 k34 rv25.1.Nodes, vl a36 k37 rv25.1.Succ, vl a39 k40 rv25.1.Pred], S a33 k34 rv25.1.Nodes, S a36 k37 rv25.1.Succ, S a39 k40 rv25.1.Pred, S ta0 tk0 t, Cl c3 [vl ta0 tk0 t, vi k1_64]], w33_LayoutMeasures_L1 t r63 k1_64 l_65 n_66 = w33_LayoutMeasures_L1 t ((((rv25.1.Nodes.length : Int) + (rv52.1 / 8)) : Int).toNat) rv52.2 [] ((rv25.1.Nodes.length : Int) + (rv52.1 / 8)) ∧ r63 = n_66.toNat ∧ n_66 ≤ (((rv25.1.Nodes.length : Int) + (rv52.1 / 8)) : Int) ∧ (-9223372036854775808 ≤ k1_64 ∧ k1_64 ≤ 9223372036854775807) ∧ (0 ≤ k1_64 ∧ k1_64 ≤ (t.length : Int)) ∧ (-9223372036854775808 ≤ n_66 ∧ n_66 ≤ 9223372036854775807) ∧ ((l_65.length : Int) + n_66 ≤ 9), r63⟩) ((((rv25.1.Nodes.length : Int) + (rv52.1 / 8)) : Int).toNat, rv52.2, [], ((rv25.1.Nodes.length : Int) + (rv52.1 / 8)), none, 0) [0, 0, 0, 0, 1, 2, 3, 4] ⟨rfl, rfl, aM1, aM1, aM1, aM1, iv0⟩ ?_
  rintro ⟨r63, k1_64, l_65, n_66, a67, k68⟩ ⟨hM69, hr70, hi71, hk72, ht73, hk74, hv75⟩
  refine JJ_nx fun _ _ hL hA => ?_; dsimp only at hL hA; subst hL hA
  refine Fb 16 0 fun _ => Fb 16 1 fun _ => Fb 32 3 fun _ => Fb 24 4 fun _ => Fb 24 5 fun _ => Fb 8 6 fun _ => Fo 6 fun ho82 => KS ?_
  refine Oq Vm (Oq Vgtr (KS ?_))
  refine Kc ?_ ?_
  ·intro h83
   have g84 := dt h83
   obtain ⟨r85, rfl⟩ := scc (n := r63) aM1
   refine KS ?_
   refine Oq Vm (Oq Vm ?_)
   refine letv (tp_Next t k1_64 5) fun rv86 hg87 => ?_
   have hc88 := fn8 c3 ta0 tk0 t k1_64 5 pre pre rv86 hg87
   refine Oc [7, 6] ca8 hc88 ?_
   rintro - ⟨he89, he90, he91⟩
   unfold i64ok at he89
   refine Oq Vsub (Oq Vm ?_)
   refine letv (tp_Next t rv86.2 40) fun rv92 hg93 => ?_
   have hc94 := fn8 c3 ta0 tk0 t rv86.2 40 pre pre rv92 hg93
   refine Oc [0, 6] ca8 hc94 ?_
   rintro - ⟨he95, he96, he97⟩
   unfold i64ok at he95
   refine Oq Vquo (Oq Vmul (Oq Vadd (Oq Vm ?_)))
   refine letv (tp_Next t rv92.2 4) fun rv98 hg99 => ?_
   have hc100 := fn8 c3 ta0 tk0 t rv92.2 4 pre pre rv98 hg99
   refine Oc [0, 6] ca8 hc100 ?_
   rintro - ⟨he101, he102, he103⟩
   unfold i64ok at he101
   refine Oq Vm ?_
   refine letv (tp_Next t rv98.2 12) fun rv104 hg105 => ?_
   have hc106 := fn8 c3 ta0 tk0 t rv98.2 12 pre pre rv104 hg105
   refine Oc [0, 6] ca8 hc106 ?_
   rintro - ⟨he107, he108, he109⟩
   unfold i64ok at he107
   refine Oq Vquo (Oq Vsub (Oq (Vbd st36 [vi ((rv86.1 - 1) + (1022 * (rv92.1 / 39))), vi (rv98.1 - (rv104.1 / 11))]) (Oa (AsV sl30 sz30 [.agg #[vi ((rv86.1 - 1) + (1022 * (rv92.1 / 39))), vi (rv98.1 - (rv104.1 / 11))]] [vi ((rv86.1 - 1) + (1022 * (rv92.1 / 39))), vi (rv98.1 - (rv104.1 / 11))]) fun c110 => ?_)))
   refine Jo 0 ?_; rintro a111 k112 rfl
   refine Jl [0] (Ent.cr1 (α := GPoint) (A := []) _ (GPoint.mk ((rv86.1 - 1) + (1022 * (rv92.1 / 39))) (rv98.1 - (rv104.1 / 11))) _ aB1 (fun h => ⟨rfl, aL1, aL1⟩)) ?_
   refine Oa (ApO [2, 0] sl30 sl30 sz30) fun c113 => ?_
   refine Jo 0 ?_; rintro a114 k115 rfl
   refine Fb 16 0 fun _ => ?_
   have hn117 := la l_65 ([(GPoint.mk ((rv86.1 - 1) + (1022 * (rv92.1 / 39))) (rv98.1 - (rv104.1 / 11)))] : List GPoint)
   refine Oq Va (KS ?_)
   refine Oq Vm (Oq Vsub (Oq Va (KS ?_)))
   exact Kg (r85, rv104.2, (l_65 ++ [(GPoint.mk ((rv86.1 - 1) + (1022 * (rv92.1 / 39))) (rv98.1 - (rv104.1 / 11)))]), (n_66 - 1), a114, k115) [0, 1, 1, 1, 2, 3, 4, 0] ⟨(q3 hM69 (by simp only [w33_LayoutMeasures_L1, h83, hg87, hg93, hg99, hg105, cs4])), aM1, aM1, aM1, aM1, aM1, iv1⟩
  intro h83
  have g118 := df h83
  obtain rfl : r63 = 0 := by omega
  refine Ke ?_
  have hR119 := q2 hM69 (k1_64, l_65) (by simp only [w33_LayoutMeasures_L1, h83, cs4])
  refine KS ?_
  refine JK_drawK [0, 0, 0, 4, 12, 31, 63, 127, 255, 255, 255, 2047, 4095, 8191, 16383, 32767, 32767, 131071, 32767, 524287, 1048575, 2097151] fmix ?_
  refine Dv [2] (VldA sh28 0) (Dv [] Vm (Dv [] Vm ?_))
  refine letv (tp_Next t k1_64 9) fun rv120 hg121 => Dx [6, 7] [7] [2, 0, 1] (fun G => vi rv120.1) [fun G => SP.fact (i64ok rv120.1 ∧ (0 ≤ rv120.2 ∧ rv120.2 ≤ (t.length : Int)) ∧ (0 ≤ rv120.1 ∧ (rv120.1 < 9 ∨ rv120.1 = 0))), fun G => Cl c3 [vl ta0 tk0 t, vi rv120.2]] (fun G => xC [1, 0] ca8 (fn8 c3 ta0 tk0 t k1_64 9 pre pre rv120 hg121)) ?_
  refine Dx [8] [] [0] (fun G => vi (rv120.1 - 4)) [] (fun G => by refine xf 0 rfl ?_; rintro ⟨he122, he123, he124⟩; unfold i64ok at he122; exact xV (Vsub)) ?_
  refine letv (w33_measures rv25.1 rv44.1 (rv120.1 - 4)) fun rv125 hg126 => ?_
  refine Dx [1, 3, 4, 5, 8] [1] [2, 3, 4, 5, 1, 0] (fun G => vb rv125) [fun G => S a48 k49 rv44.1, fun G => SP.fact (True)] (fun G => by refine xf 4 rfl ?_; rintro ⟨he127, he128, he129⟩; unfold i64ok at he127; exact xp [0] rfl (Ent.freeze _ _) (xC [1, 2, 3, 0] ca9 (fn9 rv25.1 a33 k34 a36 k37 a39 k40 rv44.1 a48 k49 ((rv120.1 - 4)) pre rv125 hg126))) (Dv [] Vnot ?_)
  refine bool_split (!rv125) ?_ ?_
  ·intro h130
   have h132 := not_true h130
   refine Db h130 [] Vm (Ds (Ds (Ds (Ds (Ds (Dv [] Vpt (Dv [] Vm (Ds (Ds ?_)))))))))
   refine Ds (Ds (Ds (Ds (Dv [] Vpt ?_))))
   refine Dn ⟨by kernel_rfl, fun G => ?_⟩
   refine Jw2 [(1, vi quarter), (5, c3), (6, vi i_9), (75, vb true)] [0, 2, 3, 4, 5, 6] [SP.fact (i64ok rv120.1 ∧ (0 ≤ rv120.2 ∧ rv120.2 ≤ (t.length : Int)) ∧ (0 ≤ rv120.1 ∧ (rv120.1 < 9 ∨ rv120.1 = 0))), Cl c3 [vl ta0 tk0 t, vi rv120.2], S a48 k49 rv44.1, SP.fact (True)] ?_
   refine Jf 6 rfl ?_; rintro ⟨he134, he135, he136⟩
   unfold i64ok at he134
   refine Jk [0, 0, 0, 1, 2, 3, 5, 5] (Kt ?_)
   refine KS ?_
   refine Oq Va (KS ?_)
   have hR137 := q2 hM10 (.ret false) (by simp only [w33_LayoutMeasures_L0, h19, h83, h130, h132, hg26, hg45, hg53, hR119, hg121, hg126, cs4])
   have hq := q4 hrr false (by unfold w33_LayoutMeasures; simp only [h19, h83, h130, h132, hg5, hg26, hg45, hg53, hR119, hg121, hg126, hR137, cs4]); subst hq
   exact Kr () rfl (.tmp rfl .nil) [] trivial
  intro h130
  have h139 := not_false h130
  refine Db h130 [] Vm (Dv [2] (VldA sh28 0) (Dv [] Vm (Dv [] Vm ?_)))
  refine letv (w33_measures rv25.1 l_65 quarter) fun rv141 hg142 => ?_
  refine Dx [0, 3, 4, 5] [0] [2, 3, 4, 1, 0] (fun G => vb rv141) [fun G => S a67 k68 l_65, fun G => SP.fact (True)] (fun G => xp [0] rfl (Ent.freeze _ _) (xC [1, 2, 3, 0] ca9 (fn9 rv25.1 a33 k34 a36 k37 a39 k40 l_65 a67 k68 quarter pre rv141 hg142))) (Dv [] Vnot (Dv [] Vpf ?_))
  refine bool_split (!rv141) ?_ ?_
  ·intro h143
   have h145 := not_true h143
   refine Db h143 [] Vm (Ds (Ds (Ds (Ds (Ds (Ds (Dv [] Vpt ?_)))))))
   refine Dn ⟨by kernel_rfl, fun G => ?_⟩
   refine Jw2 [(1, vi quarter), (5, c3), (6, vi i_9), (75, vb true)] [2, 3, 4, 5, 6] [SP.fact (i64ok rv120.1 ∧ (0 ≤ rv120.2 ∧ rv120.2 ≤ (t.length : Int)) ∧ (0 ≤ rv120.1 ∧ (rv120.1 < 9 ∨ rv120.1 = 0))), Cl c3 [vl ta0 tk0 t, vi rv120.2], S a48 k49 rv44.1, SP.fact (True), S a67 k68 l_65, SP.fact (True)] ?_
   refine Jf 5 rfl ?_; rintro ⟨he147, he148, he149⟩
   unfold i64ok at he147
   refine Jk [0, 0, 1, 2, 3, 5, 5, 7] (Kt ?_)
   refine KS ?_
   refine Oq Va (KS ?_)
   have hR150 := q2 hM10 (.ret false) (by simp only [w33_LayoutMeasures_L0, h19, h83, h130, h139, h143, h145, hg26, hg45, hg53, hR119, hg121, hg126, hg142, cs4])
   have hq := q4 hrr false (by unfold w33_LayoutMeasures; simp only [h19, h83, h130, h139, h143, h145, hg5, hg26, hg45, hg53, hR119, hg121, hg126, hg142, hR150, cs4]); subst hq
   exact Kr () rfl (.tmp rfl .nil) [] trivial
  intro h143
  have h152 := not_false h143
  refine Db h143 [] Vm (Dv [] Vm (Dv [2] (VldA sh28 0) ?_))
  refine letv (tp_SpoilGraph t rv120.2 rv25.1) fun rv157 hg158 => ?_
  refine Dx [3, 4, 5, 6, 8, 9] [9] [5, 6, 7, 8, 9, 0, 1, 2, 3, 4] (fun G => .agg #[(G.g 17 0), (G.g 17 1), (G.g 17 2)]) [fun G => SP.fact ((0 ≤ rv157.2 ∧ rv157.2 ≤ (t.length : Int)) ∧ (rv157.1.Nodes.length ≤ 12)), fun G => sl (G.g 17 0) rv157.1.Nodes, fun G => sl (G.g 17 1) rv157.1.Succ, fun G => sl (G.g 17 2) rv157.1.Pred, fun G => Cl c3 [vl ta0 tk0 t, vi rv157.2]] (fun G => by refine xf 4 rfl ?_; rintro ⟨he159, he160, he161⟩; unfold i64ok at he159; exact xC [5, 3, 0, 1, 2] ca10 (fn10 c3 ta0 tk0 t rv120.2 rv25.1 a33 k34 a36 k37 a39 k40 pre pre pre pre pre rv157 hg158)) (Dv [] Vm ?_)
  refine letv (w33_measures rv157.1 l_65 1) fun rv171 hg172 => ?_
  refine Dx [12, 14, 15, 16, 17] [] [1, 2, 3, 4, 5, 0] (fun G => vb rv171) [fun G => SP.fact (True)] (fun G => by refine xf 1 rfl ?_; rintro ⟨he173, he174⟩; exact xD [4, 3, 2, 0] ca9 rfl rfl rfl (FT_open (γ := Unit) (I := fun g => True) (V := fun g => vb rv171) (B := fun g => []) (R := sl (G.g 17 2) rv157.1.Pred) sl_slice (fun aq168 kq169 eq170 => by rw [eq170]; exact FT_ent (Ent.take (is := [1, 2, 0, 3]) rfl) (FT_open (γ := Unit) (I := fun g => True) (V := fun g => vb rv171) (B := fun g => []) (R := sl (G.g 17 1) rv157.1.Succ) sl_slice (fun aq165 kq166 eq167 => by rw [eq167]; exact FT_ent (Ent.take (is := [1, 0, 2, 3]) rfl) (FT_open (γ := Unit) (I := fun g => True) (V := fun g => vb rv171) (B := fun g => []) (R := sl (G.g 17 0) rv157.1.Nodes) sl_slice (fun aq162 kq163 eq164 => by rw [eq164]; exact FT_ent (Ent.take (is := [0, 1, 2, 3]) rfl) (fn9 rv157.1 aq162 kq163 aq165 kq166 aq168 kq169 l_65 a67 k68 1 pre rv171 hg172)))))))) (Dv [] Vnot (Dv [] Vpf ?_))
  refine Dn ⟨by kernel_rfl, fun G => ?_⟩
  refine Jw2 [(1, vi quarter), (5, c3), (6, vi i_9), (75, vb (!rv171))] [2, 3, 4, 5, 6] [SP.fact (i64ok rv120.1 ∧ (0 ≤ rv120.2 ∧ rv120.2 ≤ (t.length : Int)) ∧ (0 ≤ rv120.1 ∧ (rv120.1 < 9 ∨ rv120.1 = 0))), S a48 k49 rv44.1, SP.fact (True), S a67 k68 l_65, SP.fact (True), SP.fact ((0 ≤ rv157.2 ∧ rv157.2 ≤ (t.length : Int)) ∧ (rv157.1.Nodes.length ≤ 12)), sl (G.g 17 0) rv157.1.Nodes, sl (G.g 17 1) rv157.1.Succ, sl (G.g 17 2) rv157.1.Pred, Cl c3 [vl ta0 tk0 t, vi rv157.2], SP.fact (True)] ?_
  generalize G.g 17 0 = c154, G.g 17 1 = c155, G.g 17 2 = c156
  refine Jf 5 rfl ?_; rintro ⟨he175, he176, he177⟩
  unfold i64ok at he175
  refine Jf 10 rfl ?_; rintro ⟨he178, he179⟩
  refine Jk [0, 0, 1, 2, 3, 5, 7, 10, 11, 12, 13] ?_
  refine Jo 7 ?_; rintro a180 k181 rfl
  refine Fb 32 7 fun _ => ?_
  refine Jo 8 ?_; rintro a183 k184 rfl
  refine Fb 24 8 fun _ => ?_
  refine Jo 9 ?_; rintro a186 k187 rfl
  refine Fb 24 9 fun _ => ?_
  refine Kc ?_ ?_
  ·intro h189
   have h191 := not_true h189
   refine KS ?_
   refine Oq Va (KS ?_)
   have hR193 := q2 hM10 (.ret false) (by simp only [w33_LayoutMeasures_L0, h19, h83, h130, h139, h143, h152, h189, h191, hg26, hg45, hg53, hR119, hg121, hg126, hg142, hg158, hg172, cs4])
   have hq := q4 hrr false (by unfold w33_LayoutMeasures; simp only [h19, h83, h130, h139, h143, h152, h189, h191, hg5, hg26, hg45, hg53, hR119, hg121, hg126, hg142, hg158, hg172, hR193, cs4]); subst hq
   exact Kr () rfl (.tmp rfl .nil) [] trivial
  intro h189
  have h195 := not_false h189
  refine KS ?_
  refine Oq Vm (Oq Vadd (Oq Va (KS ?_)))
  exact Kg (r21, rv157.2, (i_9 + 1)) [10, 4] ⟨(q3 hM10 (by simp only [w33_LayoutMeasures_L0, h19, h83, h130, h139, h143, h152, h189, h195, hg26, hg45, hg53, hR119, hg121, hg126, hg142, hg158, hg172, cs4])), aM1, aM1, aM1, aM1, aM1, aM1⟩
 intro h19
 have g197 := df h19
 obtain rfl : r7 = 0 := by omega
 refine Ke ?_
 have hR198 := q2 hM10 (.brk ()) (by simp only [w33_LayoutMeasures_L0, h19, cs4])
 refine KS ?_
 have hc199 := fn11  w33_sane rfl
 refine Oc [] ca11 hc199 ?_
 rintro - -
 refine Oq Va (KS ?_)
 have hq := q4 hrr w33_sane (by unfold w33_LayoutMeasures; simp only [h19, hg5, hR198, cs4]); subst hq
 exact Kr () rfl (.tmp rfl .nil) [] trivial
end Go.SL.G
