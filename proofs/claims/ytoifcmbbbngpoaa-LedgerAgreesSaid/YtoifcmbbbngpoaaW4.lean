/- Part 4 of the walks: mirrors, plain laws and walks used by the last text of this claim. -/
import Derived.Test.YtoifcmbbbngpoaaW3
import Derived.Test.YtoifcmbbbngpoaaProg
set_option linter.unusedVariables false
set_option linter.unusedSimpArgs false
namespace Go.SL.G
open Go Go.SL Go.Proofs
set_option maxHeartbeats 20000000
set_option maxRecDepth 100000
theorem fn13 (l : List GTurn) (la0 : Option Addr) (lk0 : Nat) (rr : List GAccount) (hrr : flqref19_Accounts l = rr) : FT Try.prog 13 #[vl la0 lk0 l] [S la0 lk0 l] (fun g : Value => True) (fun g => g) (fun g => [sl g rr]) := by
 refine FTi Try.func13 fun w0 M0 F0 => ?_
 refine Fb 40 0 fun hl1 => ?_
 refine KS ?_
 refine Oq Va (KS ?_)
 refine Oq Va (KS ?_)
 refine Oq Vm ?_
 refine letv (flqref19_ValidLog l) fun rv2 hg3 => ?_
 have hc4 := fn10 l la0 lk0 rv2 hg3
 refine Oc [0] ca10 hc4 ?_
 rintro - -
 refine Oq Vnot (KS ?_)
 refine Kc ?_ ?_
 · intro h5
   have h7 := not_true h5
   refine KS ?_
   refine Oq Va (KS ?_)
   refine Jl [] (Ent.slNil (α := GAccount)) ?_
   have hq := q4 hrr ([] : List GAccount) (by simp only [flqref19_Accounts, h5, h7, hg3, cs4]); subst hq
   exact Kr (.slice none 0 0) rfl (.tmp rfl .nil) [0] trivial
 intro h5
 have h10 := not_false h5
 try have hvl := RValid_len (l := l) (by simp only [h5, h10, hg3])
 try have hvk := RValid_ok (l := l) (by simp only [h5, h10, hg3])
 refine KS ?_
 refine Oq Va (KS ?_)
 refine Jl [] (Ent.osNil (α := GAccount)) ?_
 refine Kl (γ := Nat × List GAccount × Int × Option Addr × Nat) (fun (r12, out_13, i_14, a15, k16) => ⟨[(0, vl la0 lk0 l), (3, vl a15 k16 out_13), (4, vi i_14)], [O a15 k16 out_13, S la0 lk0 l], flqref19_Accounts_L0 l r12 out_13 i_14 = flqref19_Accounts_L0 l (((l.length : Int) - 0).toNat) [] 0 ∧ r12 = ((l.length : Int) - i_14).toNat ∧ (0 : Int) ≤ i_14 ∧ i_14 ≤ (l.length : Int) ∧ (-9223372036854775808 ≤ i_14 ∧ i_14 ≤ 9223372036854775807) ∧ ((out_13.length : Int) ≤ i_14) ∧ AccO out_13 i_14, r12⟩) (((l.length : Int) - 0).toNat, [], 0, none, 0) [0, 0] ⟨rfl, rfl, (by omega), (by omega), (by omega), iv0, (AccO_nil _)⟩ ?_
 rintro ⟨r12, out_13, i_14, a15, k16⟩ ⟨hM17, hr18, hi19, hi20, hk21, hv22, hv23⟩
 refine JJ_nx fun _ _ hL hA => ?_; dsimp only at hL hA; subst hL hA
 refine Fb 32 0 fun hl24 => ?_
 refine Fb 40 1 fun hl25 => ?_
 refine KS ?_
 refine Oq Vm (Oq Vm (Oq (Vlen sl23) (Oq Vlss (KS ?_))))
 refine Kc ?_ ?_
 · intro h26
   have g27 := of_decide_eq_true h26
   obtain ⟨r28, rfl⟩ := scc (n := r12) (by omega)
   refine KS ?_
   refine Oq Va (KS ?_)
   refine Kl (γ := Nat × Int) (fun (r29, k_30) => ⟨[(0, vl la0 lk0 l), (3, vl a15 k16 out_13), (4, vi i_14), (5, vi k_30)], [O a15 k16 out_13, S la0 lk0 l], flqref19_Accounts_L1 l out_13 i_14 r29 k_30 = flqref19_Accounts_L1 l out_13 i_14 (((out_13.length : Int) - 0).toNat) 0 ∧ r29 = ((out_13.length : Int) - k_30).toNat ∧ (0 : Int) ≤ k_30 ∧ k_30 ≤ (out_13.length : Int) ∧ (-9223372036854775808 ≤ k_30 ∧ k_30 ≤ 9223372036854775807), r29⟩) (((out_13.length : Int) - 0).toNat, 0) [0, 0] ⟨rfl, rfl, (by omega), (by omega), (by omega)⟩ ?_
   rintro ⟨r29, k_30⟩ ⟨hM31, hr32, hi33, hi34, hk35⟩
   refine JJ_nx fun _ _ hL hA => ?_; dsimp only at hL hA; subst hL hA
   refine Fb 32 0 fun hl36 => ?_
   refine Fb 40 1 fun hl37 => ?_
   refine KS ?_
   refine bool_split (decide (k_30 < (out_13.length : Int))) ?_ ?_
   · intro h38
     have g39 := of_decide_eq_true h38
     obtain ⟨r40, rfl⟩ := scc (n := r29) (by omega)
     refine JJ_peekO_GAccount k_30.toNat 0 rfl rng fun hb41 hb42 hb43 hb44 => ?_
     unfold i64ok at hb41 hb42 hb43 hb44
     refine JJ_peek_GTurn i_14.toNat 1 rfl rng fun hb45 hb46 hb47 hb48 => ?_
     unfold i64ok at hb45 hb46 hb47 hb48
     refine Kq [0, 0, 2, 7, 15, 31, 31, 127, 255, 511, 31, 31, 3103, 7199, 15391, 32767, 65535] fmix ?_
     refine Qv [] Vm (Qv [] Vm (Qv [] (Vlen sl35) (Qb h38 [] Vlss (Qv [] Vm (Qv [] Vm (Qv [] Vm (Qv [1] (Vi sl35 0) (Qv [1] (Vfa fo38_0 0) (Qv [1] (VldF sh3 0) ?_)))))))))
     refine Qv [] Vm (Qv [] Vm (Qv [2] (Vi sl23 0) (Qv [0] (Vfa fo43_0 0) (Qv [0] (VldF sh3 0) (Qv [] Vlss (Qv [] Vpt ?_))))))
     refine Qn ⟨by kernel_rfl, ?_⟩
     refine Kc ?_ ?_
     · intro h49
       have g50 := of_decide_eq_true h49
       refine KS ?_
       refine Oq Vm (Oq Vadd (Oq Va (KS ?_)))
       refine Jl [1] (Ent.oread _ _ _ _) ?_
       exact Kg (r40, (k_30 + 1)) [0, 1] ⟨(q3 hM31 (by simp only [flqref19_Accounts_L1, h38, h49, cs4])), (by omega), (by omega), (by omega), (by omega)⟩
     intro h49
     have g51 := of_decide_eq_false h49
     refine Jl [1] (Ent.oread _ _ _ _) ?_
     refine Ke ?_
     have hR52 := q2 hM31 k_30 (by simp only [flqref19_Accounts_L1, h38, h49, cs4])
     refine KS ?_
     refine bool_split (k_30 == (out_13.length : Int)) ?_ ?_
     · intro h53
       have g54 := eq_of_beq h53
       refine Kq [0, 0, 2, 7, 15, 31, 31, 127, 255, 511, 31, 31, 3103, 7199, 15391, 32767, 65535] fmix ?_
       refine Qv [] Vm (Qv [] Vm (Qv [] (Vlen sl35) (Qb h53 [] Veql (Qv [] Vm (Qs (Qs (Qs (Qs (Qs ?_)))))))))
       refine Qs (Qs (Qs (Qs (Qs (Qs (Qv [] Vpt ?_))))))
       refine Qn ⟨by kernel_rfl, ?_⟩
       refine Kt ?_
       refine KS ?_
       refine Oa (As0 sl35) fun c55 => ?_
       refine Jo 0 ?_; rintro a56 k57 rfl
       refine Oq Vm (Oq Vm ?_)
       refine Jl [1] (Ent.freeze _ _) ?_
       refine Oa (Asl [0] sl35 0 (k_30.toNat)) fun c58 => ?_
       refine Jo 0 ?_; rintro a59 k60 rfl
       refine Fb 32 0 fun hl61 => ?_
       have hn62 : ((out_13.take (k_30.toNat)).drop 0).length = (k_30.toNat) - 0 := len_slice rng rng
       refine Jl [2] (Ent.crNil (α := GAccount) _) ?_
       refine Oa (Ap0 [0, 0] sl35 sl35 sz35) fun c63 => ?_
       refine Jo 0 ?_; rintro a64 k65 rfl
       refine Oq Va (KS ?_)
       refine Oq Vm (Oq Vm (Oq Vm (Oq (Vi sl23 4) (Oq (Vfa fo43_0 3) (Oq (VldF sh3 3) (Oq (Vbd st38 [vi ((l.getD i_14.toNat default).Query), vi 0, vi 0, vi 0]) (Oa (AsV sl35 sz35 [.agg #[vi ((l.getD i_14.toNat default).Query), vi 0, vi 0, vi 0]] [vi ((l.getD i_14.toNat default).Query), vi 0, vi 0, vi 0]) fun c66 => ?_)))))))
       refine Jo 0 ?_; rintro a67 k68 rfl
       refine Jl [0] (Ent.cr1 (α := GAccount) (A := []) _ (GAccount.mk ((l.getD i_14.toNat default).Query) 0 0 0) _ (Nat.le_of_ble_eq_true rfl) (fun h => ⟨rfl, (by unfold i64ok; first | omega | (dsimp only; omega)), (by unfold i64ok; first | omega | (dsimp only; omega)), (by unfold i64ok; first | omega | (dsimp only; omega)), (by unfold i64ok; first | omega | (dsimp only; omega))⟩)) ?_
       refine Oa (ApO [1, 0] sl35 sl35 sz35) fun c69 => ?_
       refine Jo 0 ?_; rintro a70 k71 rfl
       refine Fb 32 0 fun hl72 => ?_
       have hn73 := la ((out_13.take (k_30.toNat)).drop 0) ([(GAccount.mk ((l.getD i_14.toNat default).Query) 0 0 0)] : List GAccount)
       refine Oq Va (KS ?_)
       refine Oq Vm (Oq Vm (Oq Vm (Oa (Asl [2] sl35 (k_30.toNat) out_13.length) fun c74 => ?_)))
       refine Jo 0 ?_; rintro a75 k76 rfl
       refine Fb 32 0 fun hl77 => ?_
       have hn78 : ((out_13.take out_13.length).drop (k_30.toNat)).length = out_13.length - (k_30.toNat) := len_slice rng rng
       refine Oa (Ap [1, 0] sl35 sl35 sz35) fun c79 => ?_
       refine Jo 0 ?_; rintro a80 k81 rfl
       refine Fb 32 0 fun hl82 => ?_
       have hn83 := la ((((out_13.take (k_30.toNat)).drop 0) ++ [(GAccount.mk ((l.getD i_14.toNat default).Query) 0 0 0)]) : List GAccount) ((out_13.take out_13.length).drop (k_30.toNat))
       refine Oq Va (KS ?_)
       refine JJ_peekO_GAccount k_30.toNat 0 rfl rng fun hb84 hb85 hb86 hb87 => ?_
       unfold i64ok at hb84 hb85 hb86 hb87
       refine JK_drawK [0, 0, 0, 0, 12, 28, 0, 0, 192, 448, 1020, 2047, 4095] fmix ?_
       refine Dv [] Vm (Dv [] Vm (Dv [] Vm (Dv [] Vm (Dv [0] (Vi sl35 0) (Dv [0] (VldA sh38 0) (Dv [] Vm (Dv [] Vm (Dv [5] (Vi sl23 0) (Dv [4] (VldA sh43 0) ?_)))))))))
       refine letv (flqref19_add (((((out_13.take (k_30.toNat)).drop 0) ++ [(GAccount.mk ((l.getD i_14.toNat default).Query) 0 0 0)]) ++ ((out_13.take out_13.length).drop (k_30.toNat))).getD k_30.toNat default) (l.getD i_14.toNat default)) fun rv88 hg89 => ?_
       have hat : 0 ≤ ((((((out_13.take (k_30.toNat)).drop 0) ++ [(GAccount.mk ((l.getD i_14.toNat default).Query) 0 0 0)]) ++ ((out_13.take out_13.length).drop (k_30.toNat))).getD k_30.toNat default)).Turns ∧ ((((((out_13.take (k_30.toNat)).drop 0) ++ [(GAccount.mk ((l.getD i_14.toNat default).Query) 0 0 0)]) ++ ((out_13.take out_13.length).drop (k_30.toNat))).getD k_30.toNat default)).Turns ≤ i_14 ∧ i_14 ≤ 1000000 := by first | exact AccO_ge (by assumption) _ (by omega) | exact AccO_ge (AccO_ins (by assumption) (by omega) _ _ _) _ (by omega)
       refine Dx [] [] [0] (fun G => .agg #[vi rv88.Query, vi rv88.Turns, vi rv88.Steps, vi rv88.Cost]) [fun G => SP.fact (i64ok rv88.Query ∧ i64ok rv88.Turns ∧ i64ok rv88.Steps ∧ i64ok rv88.Cost ∧ (rv88.Query = (((((out_13.take (k_30.toNat)).drop 0) ++ [(GAccount.mk ((l.getD i_14.toNat default).Query) 0 0 0)]) ++ ((out_13.take out_13.length).drop (k_30.toNat))).getD k_30.toNat default).Query ∧ 0 ≤ rv88.Turns ∧ rv88.Turns ≤ (((((out_13.take (k_30.toNat)).drop 0) ++ [(GAccount.mk ((l.getD i_14.toNat default).Query) 0 0 0)]) ++ ((out_13.take out_13.length).drop (k_30.toNat))).getD k_30.toNat default).Turns + 1))] (fun G => xC [] ca27 (fn27 ((((((out_13.take (k_30.toNat)).drop 0) ++ [(GAccount.mk ((l.getD i_14.toNat default).Query) 0 0 0)]) ++ ((out_13.take out_13.length).drop (k_30.toNat))).getD k_30.toNat default)) ((l.getD i_14.toNat default)) pre pre pre pre pre pre pre pre (by first | exact AccO_gt (by assumption) _ (by omega) | exact AccO_gt (AccO_ins (by assumption) (by omega) _ _ _) _ (by omega)) rv88 hg89)) (Dv [0] (Vi sl35 0) ?_)
       refine Dx0 [0, 6] [0] [1, 0] [fun G => os (.slice a80 (((((out_13.take (k_30.toNat)).drop 0) ++ [(GAccount.mk ((l.getD i_14.toNat default).Query) 0 0 0)]) ++ ((out_13.take out_13.length).drop (k_30.toNat))).length) k81) ((((((out_13.take (k_30.toNat)).drop 0) ++ [(GAccount.mk ((l.getD i_14.toNat default).Query) 0 0 0)]) ++ ((out_13.take out_13.length).drop (k_30.toNat))).set k_30.toNat rv88) : List GAccount)] (fun G => by refine xf 1 rfl ?_; rintro ⟨he90, he91, he92, he93, he94⟩; unfold i64ok at he90 he91 he92 he93; exact xp [0] rfl (Ent.oread _ _ _ _) (xS (So (Rs := []) [0] sh38 rv88 (fun h => ⟨rfl, (by unfold i64ok; first | omega | (dsimp only; omega)), (by unfold i64ok; first | omega | (dsimp only; omega)), (by unfold i64ok; first | omega | (dsimp only; omega)), (by unfold i64ok; first | omega | (dsimp only; omega))⟩)))) ?_
       refine Dn ⟨by kernel_rfl, fun G => ?_⟩
       refine Jw2 [(0, vl la0 lk0 l), (4, vi i_14), (3, .slice a80 (((((out_13.take (k_30.toNat)).drop 0) ++ [(GAccount.mk ((l.getD i_14.toNat default).Query) 0 0 0)]) ++ ((out_13.take out_13.length).drop (k_30.toNat))).length) k81)] [1, 2, 3, 4, 5] [SP.fact (i64ok rv88.Query ∧ i64ok rv88.Turns ∧ i64ok rv88.Steps ∧ i64ok rv88.Cost ∧ (rv88.Query = (((((out_13.take (k_30.toNat)).drop 0) ++ [(GAccount.mk ((l.getD i_14.toNat default).Query) 0 0 0)]) ++ ((out_13.take out_13.length).drop (k_30.toNat))).getD k_30.toNat default).Query ∧ 0 ≤ rv88.Turns ∧ rv88.Turns ≤ (((((out_13.take (k_30.toNat)).drop 0) ++ [(GAccount.mk ((l.getD i_14.toNat default).Query) 0 0 0)]) ++ ((out_13.take out_13.length).drop (k_30.toNat))).getD k_30.toNat default).Turns + 1)), os (.slice a80 (((((out_13.take (k_30.toNat)).drop 0) ++ [(GAccount.mk ((l.getD i_14.toNat default).Query) 0 0 0)]) ++ ((out_13.take out_13.length).drop (k_30.toNat))).length) k81) ((((((out_13.take (k_30.toNat)).drop 0) ++ [(GAccount.mk ((l.getD i_14.toNat default).Query) 0 0 0)]) ++ ((out_13.take out_13.length).drop (k_30.toNat))).set k_30.toNat rv88) : List GAccount)] ?_
       refine Jf 5 rfl ?_; rintro ⟨he95, he96, he97, he98, he99⟩
       unfold i64ok at he95 he96 he97 he98
       refine Jk [0, 1, 2, 3, 4, 6] ?_
       refine KS ?_
       refine Oq Vm (Oq Vadd (Oq Va (KS ?_)))
       refine Fl 5 fun hn100 => ?_; (try unfold vl); rw [← hn100]
       exact Kg (r28, (((((out_13.take (k_30.toNat)).drop 0) ++ [(GAccount.mk ((l.getD i_14.toNat default).Query) 0 0 0)]) ++ ((out_13.take out_13.length).drop (k_30.toNat))).set k_30.toNat rv88), (i_14 + 1), a80, k81) [5, 4] ⟨(q3 hM17 (by simp only [flqref19_Accounts_L0, h26, h38, h49, h53, hR52, hg89, cs4])), (by omega), (by omega), (by omega), (by omega), iv1, (AccO_set (by first | assumption | exact AccO_ins (by assumption) (by omega) _ _ _) _ (by (try dsimp only at *); omega))⟩
     intro h53
     have g101 := ne_of_beq_false h53
     refine JJ_peekO_GAccount k_30.toNat 0 rfl rng fun hb102 hb103 hb104 hb105 => ?_
     unfold i64ok at hb102 hb103 hb104 hb105
     refine Kq [0, 0, 2, 7, 15, 31, 31, 127, 255, 511, 31, 31, 3103, 7199, 15391, 32767, 65535] fmix ?_
     refine Qv [] Vm (Qv [] Vm (Qv [] (Vlen sl35) (Qb h53 [] Veql (Qv [] Vm (Qv [] Vm (Qv [] Vm (Qv [0] (Vi sl35 0) (Qv [0] (Vfa fo38_0 0) (Qv [0] (VldF sh3 0) ?_)))))))))
     refine Qv [] Vm (Qv [] Vm (Qv [2] (Vi sl23 0) (Qv [1] (Vfa fo43_0 0) (Qv [1] (VldF sh3 0) (Qv [] Vneq (Qv [] Vpf ?_))))))
     refine Qn ⟨by kernel_rfl, ?_⟩
     refine Kc ?_ ?_
     · intro h106
       have g107 := ne_of_bne h106
       refine KS ?_
       refine Oa (As0 sl35) fun c108 => ?_
       refine Jo 0 ?_; rintro a109 k110 rfl
       refine Oq Vm (Oq Vm ?_)
       refine Jl [1] (Ent.oread _ _ _ _) ?_
       refine Jl [0] (Ent.freeze _ _) ?_
       refine Oa (Asl [0] sl35 0 (k_30.toNat)) fun c111 => ?_
       refine Jo 0 ?_; rintro a112 k113 rfl
       refine Fb 32 0 fun hl114 => ?_
       have hn115 : ((out_13.take (k_30.toNat)).drop 0).length = (k_30.toNat) - 0 := len_slice rng rng
       refine Jl [2] (Ent.crNil (α := GAccount) _) ?_
       refine Oa (Ap0 [0, 0] sl35 sl35 sz35) fun c116 => ?_
       refine Jo 0 ?_; rintro a117 k118 rfl
       refine Oq Va (KS ?_)
       refine Oq Vm (Oq Vm (Oq Vm (Oq (Vi sl23 4) (Oq (Vfa fo43_0 3) (Oq (VldF sh3 3) (Oq (Vbd st38 [vi ((l.getD i_14.toNat default).Query), vi 0, vi 0, vi 0]) (Oa (AsV sl35 sz35 [.agg #[vi ((l.getD i_14.toNat default).Query), vi 0, vi 0, vi 0]] [vi ((l.getD i_14.toNat default).Query), vi 0, vi 0, vi 0]) fun c119 => ?_)))))))
       refine Jo 0 ?_; rintro a120 k121 rfl
       refine Jl [0] (Ent.cr1 (α := GAccount) (A := []) _ (GAccount.mk ((l.getD i_14.toNat default).Query) 0 0 0) _ (Nat.le_of_ble_eq_true rfl) (fun h => ⟨rfl, (by unfold i64ok; first | omega | (dsimp only; omega)), (by unfold i64ok; first | omega | (dsimp only; omega)), (by unfold i64ok; first | omega | (dsimp only; omega)), (by unfold i64ok; first | omega | (dsimp only; omega))⟩)) ?_
       refine Oa (ApO [1, 0] sl35 sl35 sz35) fun c122 => ?_
       refine Jo 0 ?_; rintro a123 k124 rfl
       refine Fb 32 0 fun hl125 => ?_
       have hn126 := la ((out_13.take (k_30.toNat)).drop 0) ([(GAccount.mk ((l.getD i_14.toNat default).Query) 0 0 0)] : List GAccount)
       refine Oq Va (KS ?_)
       refine Oq Vm (Oq Vm (Oq Vm (Oa (Asl [2] sl35 (k_30.toNat) out_13.length) fun c127 => ?_)))
       refine Jo 0 ?_; rintro a128 k129 rfl
       refine Fb 32 0 fun hl130 => ?_
       have hn131 : ((out_13.take out_13.length).drop (k_30.toNat)).length = out_13.length - (k_30.toNat) := len_slice rng rng
       refine Oa (Ap [1, 0] sl35 sl35 sz35) fun c132 => ?_
       refine Jo 0 ?_; rintro a133 k134 rfl
       refine Fb 32 0 fun hl135 => ?_
       have hn136 := la ((((out_13.take (k_30.toNat)).drop 0) ++ [(GAccount.mk ((l.getD i_14.toNat default).Query) 0 0 0)]) : List GAccount) ((out_13.take out_13.length).drop (k_30.toNat))
       refine Oq Va (KS ?_)
       refine JJ_peekO_GAccount k_30.toNat 0 rfl rng fun hb137 hb138 hb139 hb140 => ?_
       unfold i64ok at hb137 hb138 hb139 hb140
       refine JK_drawK [0, 0, 0, 0, 12, 28, 0, 0, 192, 448, 1020, 2047, 4095] fmix ?_
       refine Dv [] Vm (Dv [] Vm (Dv [] Vm (Dv [] Vm (Dv [0] (Vi sl35 0) (Dv [0] (VldA sh38 0) (Dv [] Vm (Dv [] Vm (Dv [5] (Vi sl23 0) (Dv [4] (VldA sh43 0) ?_)))))))))
       refine letv (flqref19_add (((((out_13.take (k_30.toNat)).drop 0) ++ [(GAccount.mk ((l.getD i_14.toNat default).Query) 0 0 0)]) ++ ((out_13.take out_13.length).drop (k_30.toNat))).getD k_30.toNat default) (l.getD i_14.toNat default)) fun rv141 hg142 => ?_
       have hat : 0 ≤ ((((((out_13.take (k_30.toNat)).drop 0) ++ [(GAccount.mk ((l.getD i_14.toNat default).Query) 0 0 0)]) ++ ((out_13.take out_13.length).drop (k_30.toNat))).getD k_30.toNat default)).Turns ∧ ((((((out_13.take (k_30.toNat)).drop 0) ++ [(GAccount.mk ((l.getD i_14.toNat default).Query) 0 0 0)]) ++ ((out_13.take out_13.length).drop (k_30.toNat))).getD k_30.toNat default)).Turns ≤ i_14 ∧ i_14 ≤ 1000000 := by first | exact AccO_ge (by assumption) _ (by omega) | exact AccO_ge (AccO_ins (by assumption) (by omega) _ _ _) _ (by omega)
       refine Dx [] [] [0] (fun G => .agg #[vi rv141.Query, vi rv141.Turns, vi rv141.Steps, vi rv141.Cost]) [fun G => SP.fact (i64ok rv141.Query ∧ i64ok rv141.Turns ∧ i64ok rv141.Steps ∧ i64ok rv141.Cost ∧ (rv141.Query = (((((out_13.take (k_30.toNat)).drop 0) ++ [(GAccount.mk ((l.getD i_14.toNat default).Query) 0 0 0)]) ++ ((out_13.take out_13.length).drop (k_30.toNat))).getD k_30.toNat default).Query ∧ 0 ≤ rv141.Turns ∧ rv141.Turns ≤ (((((out_13.take (k_30.toNat)).drop 0) ++ [(GAccount.mk ((l.getD i_14.toNat default).Query) 0 0 0)]) ++ ((out_13.take out_13.length).drop (k_30.toNat))).getD k_30.toNat default).Turns + 1))] (fun G => xC [] ca27 (fn27 ((((((out_13.take (k_30.toNat)).drop 0) ++ [(GAccount.mk ((l.getD i_14.toNat default).Query) 0 0 0)]) ++ ((out_13.take out_13.length).drop (k_30.toNat))).getD k_30.toNat default)) ((l.getD i_14.toNat default)) pre pre pre pre pre pre pre pre (by first | exact AccO_gt (by assumption) _ (by omega) | exact AccO_gt (AccO_ins (by assumption) (by omega) _ _ _) _ (by omega)) rv141 hg142)) (Dv [0] (Vi sl35 0) ?_)
       refine Dx0 [0, 6] [0] [1, 0] [fun G => os (.slice a133 (((((out_13.take (k_30.toNat)).drop 0) ++ [(GAccount.mk ((l.getD i_14.toNat default).Query) 0 0 0)]) ++ ((out_13.take out_13.length).drop (k_30.toNat))).length) k134) ((((((out_13.take (k_30.toNat)).drop 0) ++ [(GAccount.mk ((l.getD i_14.toNat default).Query) 0 0 0)]) ++ ((out_13.take out_13.length).drop (k_30.toNat))).set k_30.toNat rv141) : List GAccount)] (fun G => by refine xf 1 rfl ?_; rintro ⟨he143, he144, he145, he146, he147⟩; unfold i64ok at he143 he144 he145 he146; exact xp [0] rfl (Ent.oread _ _ _ _) (xS (So (Rs := []) [0] sh38 rv141 (fun h => ⟨rfl, (by unfold i64ok; first | omega | (dsimp only; omega)), (by unfold i64ok; first | omega | (dsimp only; omega)), (by unfold i64ok; first | omega | (dsimp only; omega)), (by unfold i64ok; first | omega | (dsimp only; omega))⟩)))) ?_
       refine Dn ⟨by kernel_rfl, fun G => ?_⟩
       refine Jw2 [(0, vl la0 lk0 l), (4, vi i_14), (3, .slice a133 (((((out_13.take (k_30.toNat)).drop 0) ++ [(GAccount.mk ((l.getD i_14.toNat default).Query) 0 0 0)]) ++ ((out_13.take out_13.length).drop (k_30.toNat))).length) k134)] [1, 2, 3, 4, 5] [SP.fact (i64ok rv141.Query ∧ i64ok rv141.Turns ∧ i64ok rv141.Steps ∧ i64ok rv141.Cost ∧ (rv141.Query = (((((out_13.take (k_30.toNat)).drop 0) ++ [(GAccount.mk ((l.getD i_14.toNat default).Query) 0 0 0)]) ++ ((out_13.take out_13.length).drop (k_30.toNat))).getD k_30.toNat default).Query ∧ 0 ≤ rv141.Turns ∧ rv141.Turns ≤ (((((out_13.take (k_30.toNat)).drop 0) ++ [(GAccount.mk ((l.getD i_14.toNat default).Query) 0 0 0)]) ++ ((out_13.take out_13.length).drop (k_30.toNat))).getD k_30.toNat default).Turns + 1)), os (.slice a133 (((((out_13.take (k_30.toNat)).drop 0) ++ [(GAccount.mk ((l.getD i_14.toNat default).Query) 0 0 0)]) ++ ((out_13.take out_13.length).drop (k_30.toNat))).length) k134) ((((((out_13.take (k_30.toNat)).drop 0) ++ [(GAccount.mk ((l.getD i_14.toNat default).Query) 0 0 0)]) ++ ((out_13.take out_13.length).drop (k_30.toNat))).set k_30.toNat rv141) : List GAccount)] ?_
       refine Jf 5 rfl ?_; rintro ⟨he148, he149, he150, he151, he152⟩
       unfold i64ok at he148 he149 he150 he151
       refine Jk [0, 1, 2, 3, 4, 6] ?_
       refine KS ?_
       refine Oq Vm (Oq Vadd (Oq Va (KS ?_)))
       refine Fl 5 fun hn153 => ?_; (try unfold vl); rw [← hn153]
       exact Kg (r28, (((((out_13.take (k_30.toNat)).drop 0) ++ [(GAccount.mk ((l.getD i_14.toNat default).Query) 0 0 0)]) ++ ((out_13.take out_13.length).drop (k_30.toNat))).set k_30.toNat rv141), (i_14 + 1), a133, k134) [5, 4] ⟨(q3 hM17 (by simp only [flqref19_Accounts_L0, h26, h38, h49, h53, h106, hR52, hg142, cs4])), (by omega), (by omega), (by omega), (by omega), iv1, (AccO_set (by first | assumption | exact AccO_ins (by assumption) (by omega) _ _ _) _ (by (try dsimp only at *); omega))⟩
     intro h106
     have g154 := eq_of_bne_false h106
     refine KS ?_
     refine JK_drawK [0, 0, 0, 0, 12, 28, 0, 0, 192, 448, 1020, 2047, 4095] fmix ?_
     refine Dv [] Vm (Dv [] Vm (Dv [] Vm (Dv [] Vm (Dv [0] (Vi sl35 0) (Dv [0] (VldA sh38 0) (Dv [] Vm (Dv [] Vm (Dv [2] (Vi sl23 0) (Dv [1] (VldA sh43 0) ?_)))))))))
     refine letv (flqref19_add (out_13.getD k_30.toNat default) (l.getD i_14.toNat default)) fun rv155 hg156 => ?_
     have hat : 0 ≤ ((out_13.getD k_30.toNat default)).Turns ∧ ((out_13.getD k_30.toNat default)).Turns ≤ i_14 ∧ i_14 ≤ 1000000 := by first | exact AccO_ge (by assumption) _ (by omega) | exact AccO_ge (AccO_ins (by assumption) (by omega) _ _ _) _ (by omega)
     refine Dx [] [] [0] (fun G => .agg #[vi rv155.Query, vi rv155.Turns, vi rv155.Steps, vi rv155.Cost]) [fun G => SP.fact (i64ok rv155.Query ∧ i64ok rv155.Turns ∧ i64ok rv155.Steps ∧ i64ok rv155.Cost ∧ (rv155.Query = (out_13.getD k_30.toNat default).Query ∧ 0 ≤ rv155.Turns ∧ rv155.Turns ≤ (out_13.getD k_30.toNat default).Turns + 1))] (fun G => xC [] ca27 (fn27 ((out_13.getD k_30.toNat default)) ((l.getD i_14.toNat default)) pre pre pre pre pre pre pre pre (by first | exact AccO_gt (by assumption) _ (by omega) | exact AccO_gt (AccO_ins (by assumption) (by omega) _ _ _) _ (by omega)) rv155 hg156)) (Dv [0] (Vi sl35 0) ?_)
     refine Dx0 [0, 3] [0] [1, 0] [fun G => os (vl a15 k16 out_13) (out_13.set k_30.toNat rv155)] (fun G => by refine xf 1 rfl ?_; rintro ⟨he157, he158, he159, he160, he161⟩; unfold i64ok at he157 he158 he159 he160; exact xp [0] rfl (Ent.oread _ _ _ _) (xS (So (Rs := []) [0] sh38 rv155 (fun h => ⟨rfl, (by unfold i64ok; first | omega | (dsimp only; omega)), (by unfold i64ok; first | omega | (dsimp only; omega)), (by unfold i64ok; first | omega | (dsimp only; omega)), (by unfold i64ok; first | omega | (dsimp only; omega))⟩)))) ?_
     refine Dn ⟨by kernel_rfl, fun G => ?_⟩
     refine Jw2 [(0, vl la0 lk0 l), (3, vl a15 k16 out_13), (4, vi i_14)] [1, 2] [SP.fact (i64ok rv155.Query ∧ i64ok rv155.Turns ∧ i64ok rv155.Steps ∧ i64ok rv155.Cost ∧ (rv155.Query = (out_13.getD k_30.toNat default).Query ∧ 0 ≤ rv155.Turns ∧ rv155.Turns ≤ (out_13.getD k_30.toNat default).Turns + 1)), os (vl a15 k16 out_13) (out_13.set k_30.toNat rv155)] ?_
     refine Jf 2 rfl ?_; rintro ⟨he162, he163, he164, he165, he166⟩
     unfold i64ok at he162 he163 he164 he165
     refine Jk [0, 1, 3] ?_
     refine KS ?_
     refine Oq Vm (Oq Vadd (Oq Va (KS ?_)))
     refine Fl 2 fun hn167 => ?_; (try unfold vl); rw [← hn167]
     exact Kg (r28, (out_13.set k_30.toNat rv155), (i_14 + 1), a15, k16) [2, 1] ⟨(q3 hM17 (by simp only [flqref19_Accounts_L0, h26, h38, h49, h53, h106, hR52, hg156, cs4])), (by omega), (by omega), (by omega), (by omega), iv1, (AccO_set (by first | assumption | exact AccO_ins (by assumption) (by omega) _ _ _) _ (by (try dsimp only at *); omega))⟩
   intro h38
   have g168 := of_decide_eq_false h38
   obtain rfl : r29 = 0 := by omega
   refine Kq [0, 0, 2, 7, 15, 31, 31, 127, 255, 511, 31, 31, 3103, 7199, 15391, 32767, 65535] fmix ?_
   refine Qv [] Vm (Qv [] Vm (Qv [] (Vlen sl35) (Qb h38 [] Vlss (Qv [] Vm (Qs (Qs (Qs (Qs (Qs ?_)))))))))
   refine Qs (Qs (Qs (Qs (Qs (Qs (Qv [] Vpf ?_))))))
   refine Qn ⟨by kernel_rfl, ?_⟩
   refine Kf ?_
   refine Ke ?_
   have hR169 := q2 hM31 k_30 (by simp only [flqref19_Accounts_L1, h38, cs4])
   refine KS ?_
   refine bool_split (k_30 == (out_13.length : Int)) ?_ ?_
   · intro h170
     have g171 := eq_of_beq h170
     refine Kq [0, 0, 2, 7, 15, 31, 31, 127, 255, 511, 31, 31, 3103, 7199, 15391, 32767, 65535] fmix ?_
     refine Qv [] Vm (Qv [] Vm (Qv [] (Vlen sl35) (Qb h170 [] Veql (Qv [] Vm (Qs (Qs (Qs (Qs (Qs ?_)))))))))
     refine Qs (Qs (Qs (Qs (Qs (Qs (Qv [] Vpt ?_))))))
     refine Qn ⟨by kernel_rfl, ?_⟩
     refine Kt ?_
     refine KS ?_
     refine Oa (As0 sl35) fun c172 => ?_
     refine Jo 0 ?_; rintro a173 k174 rfl
     refine Oq Vm (Oq Vm ?_)
     refine Jl [1] (Ent.freeze _ _) ?_
     refine Oa (Asl [0] sl35 0 (k_30.toNat)) fun c175 => ?_
     refine Jo 0 ?_; rintro a176 k177 rfl
     refine Fb 32 0 fun hl178 => ?_
     have hn179 : ((out_13.take (k_30.toNat)).drop 0).length = (k_30.toNat) - 0 := len_slice rng rng
     refine Jl [2] (Ent.crNil (α := GAccount) _) ?_
     refine Oa (Ap0 [0, 0] sl35 sl35 sz35) fun c180 => ?_
     refine Jo 0 ?_; rintro a181 k182 rfl
     refine Oq Va (KS ?_)
     refine Oq Vm (Oq Vm (Oq Vm (Oq (Vi sl23 3) ?_)))
     refine JJ_peek_GTurn i_14.toNat 3 rfl rng fun hb183 hb184 hb185 hb186 => ?_
     unfold i64ok at hb183 hb184 hb185 hb186
     refine Oq (Vfa fo43_0 0) (Oq (VldF sh3 0) (Oq (Vbd st38 [vi ((l.getD i_14.toNat default).Query), vi 0, vi 0, vi 0]) (Oa (AsV sl35 sz35 [.agg #[vi ((l.getD i_14.toNat default).Query), vi 0, vi 0, vi 0]] [vi ((l.getD i_14.toNat default).Query), vi 0, vi 0, vi 0]) fun c187 => ?_)))
     refine Jo 0 ?_; rintro a188 k189 rfl
     refine Jl [0] (Ent.cr1 (α := GAccount) (A := []) _ (GAccount.mk ((l.getD i_14.toNat default).Query) 0 0 0) _ (Nat.le_of_ble_eq_true rfl) (fun h => ⟨rfl, (by unfold i64ok; first | omega | (dsimp only; omega)), (by unfold i64ok; first | omega | (dsimp only; omega)), (by unfold i64ok; first | omega | (dsimp only; omega)), (by unfold i64ok; first | omega | (dsimp only; omega))⟩)) ?_
     refine Oa (ApO [2, 0] sl35 sl35 sz35) fun c190 => ?_
     refine Jo 0 ?_; rintro a191 k192 rfl
     refine Fb 32 0 fun hl193 => ?_
     have hn194 := la ((out_13.take (k_30.toNat)).drop 0) ([(GAccount.mk ((l.getD i_14.toNat default).Query) 0 0 0)] : List GAccount)
     refine Oq Va (KS ?_)
     refine Oq Vm (Oq Vm (Oq Vm (Oa (Asl [3] sl35 (k_30.toNat) out_13.length) fun c195 => ?_)))
     refine Jo 0 ?_; rintro a196 k197 rfl
     refine Fb 32 0 fun hl198 => ?_
     have hn199 : ((out_13.take out_13.length).drop (k_30.toNat)).length = out_13.length - (k_30.toNat) := len_slice rng rng
     refine Oa (Ap [1, 0] sl35 sl35 sz35) fun c200 => ?_
     refine Jo 0 ?_; rintro a201 k202 rfl
     refine Fb 32 0 fun hl203 => ?_
     have hn204 := la ((((out_13.take (k_30.toNat)).drop 0) ++ [(GAccount.mk ((l.getD i_14.toNat default).Query) 0 0 0)]) : List GAccount) ((out_13.take out_13.length).drop (k_30.toNat))
     refine Oq Va (KS ?_)
     refine JJ_peekO_GAccount k_30.toNat 0 rfl rng fun hb205 hb206 hb207 hb208 => ?_
     unfold i64ok at hb205 hb206 hb207 hb208
     refine JK_drawK [0, 0, 0, 0, 12, 28, 0, 0, 192, 448, 1020, 2047, 4095] fmix ?_
     refine Dv [] Vm (Dv [] Vm (Dv [] Vm (Dv [] Vm (Dv [0] (Vi sl35 0) (Dv [0] (VldA sh38 0) (Dv [] Vm (Dv [] Vm (Dv [5] (Vi sl23 0) (Dv [2] (VldA sh43 0) ?_)))))))))
     refine letv (flqref19_add (((((out_13.take (k_30.toNat)).drop 0) ++ [(GAccount.mk ((l.getD i_14.toNat default).Query) 0 0 0)]) ++ ((out_13.take out_13.length).drop (k_30.toNat))).getD k_30.toNat default) (l.getD i_14.toNat default)) fun rv209 hg210 => ?_
     have hat : 0 ≤ ((((((out_13.take (k_30.toNat)).drop 0) ++ [(GAccount.mk ((l.getD i_14.toNat default).Query) 0 0 0)]) ++ ((out_13.take out_13.length).drop (k_30.toNat))).getD k_30.toNat default)).Turns ∧ ((((((out_13.take (k_30.toNat)).drop 0) ++ [(GAccount.mk ((l.getD i_14.toNat default).Query) 0 0 0)]) ++ ((out_13.take out_13.length).drop (k_30.toNat))).getD k_30.toNat default)).Turns ≤ i_14 ∧ i_14 ≤ 1000000 := by first | exact AccO_ge (by assumption) _ (by omega) | exact AccO_ge (AccO_ins (by assumption) (by omega) _ _ _) _ (by omega)
     refine Dx [] [] [0] (fun G => .agg #[vi rv209.Query, vi rv209.Turns, vi rv209.Steps, vi rv209.Cost]) [fun G => SP.fact (i64ok rv209.Query ∧ i64ok rv209.Turns ∧ i64ok rv209.Steps ∧ i64ok rv209.Cost ∧ (rv209.Query = (((((out_13.take (k_30.toNat)).drop 0) ++ [(GAccount.mk ((l.getD i_14.toNat default).Query) 0 0 0)]) ++ ((out_13.take out_13.length).drop (k_30.toNat))).getD k_30.toNat default).Query ∧ 0 ≤ rv209.Turns ∧ rv209.Turns ≤ (((((out_13.take (k_30.toNat)).drop 0) ++ [(GAccount.mk ((l.getD i_14.toNat default).Query) 0 0 0)]) ++ ((out_13.take out_13.length).drop (k_30.toNat))).getD k_30.toNat default).Turns + 1))] (fun G => xC [] ca27 (fn27 ((((((out_13.take (k_30.toNat)).drop 0) ++ [(GAccount.mk ((l.getD i_14.toNat default).Query) 0 0 0)]) ++ ((out_13.take out_13.length).drop (k_30.toNat))).getD k_30.toNat default)) ((l.getD i_14.toNat default)) pre pre pre pre pre pre pre pre (by first | exact AccO_gt (by assumption) _ (by omega) | exact AccO_gt (AccO_ins (by assumption) (by omega) _ _ _) _ (by omega)) rv209 hg210)) (Dv [0] (Vi sl35 0) ?_)
     refine Dx0 [0, 6] [0] [1, 0] [fun G => os (.slice a201 (((((out_13.take (k_30.toNat)).drop 0) ++ [(GAccount.mk ((l.getD i_14.toNat default).Query) 0 0 0)]) ++ ((out_13.take out_13.length).drop (k_30.toNat))).length) k202) ((((((out_13.take (k_30.toNat)).drop 0) ++ [(GAccount.mk ((l.getD i_14.toNat default).Query) 0 0 0)]) ++ ((out_13.take out_13.length).drop (k_30.toNat))).set k_30.toNat rv209) : List GAccount)] (fun G => by refine xf 1 rfl ?_; rintro ⟨he211, he212, he213, he214, he215⟩; unfold i64ok at he211 he212 he213 he214; exact xp [0] rfl (Ent.oread _ _ _ _) (xS (So (Rs := []) [0] sh38 rv209 (fun h => ⟨rfl, (by unfold i64ok; first | omega | (dsimp only; omega)), (by unfold i64ok; first | omega | (dsimp only; omega)), (by unfold i64ok; first | omega | (dsimp only; omega)), (by unfold i64ok; first | omega | (dsimp only; omega))⟩)))) ?_
     refine Dn ⟨by kernel_rfl, fun G => ?_⟩
     refine Jw2 [(0, vl la0 lk0 l), (4, vi i_14), (3, .slice a201 (((((out_13.take (k_30.toNat)).drop 0) ++ [(GAccount.mk ((l.getD i_14.toNat default).Query) 0 0 0)]) ++ ((out_13.take out_13.length).drop (k_30.toNat))).length) k202)] [1, 2, 3, 4, 5] [SP.fact (i64ok rv209.Query ∧ i64ok rv209.Turns ∧ i64ok rv209.Steps ∧ i64ok rv209.Cost ∧ (rv209.Query = (((((out_13.take (k_30.toNat)).drop 0) ++ [(GAccount.mk ((l.getD i_14.toNat default).Query) 0 0 0)]) ++ ((out_13.take out_13.length).drop (k_30.toNat))).getD k_30.toNat default).Query ∧ 0 ≤ rv209.Turns ∧ rv209.Turns ≤ (((((out_13.take (k_30.toNat)).drop 0) ++ [(GAccount.mk ((l.getD i_14.toNat default).Query) 0 0 0)]) ++ ((out_13.take out_13.length).drop (k_30.toNat))).getD k_30.toNat default).Turns + 1)), os (.slice a201 (((((out_13.take (k_30.toNat)).drop 0) ++ [(GAccount.mk ((l.getD i_14.toNat default).Query) 0 0 0)]) ++ ((out_13.take out_13.length).drop (k_30.toNat))).length) k202) ((((((out_13.take (k_30.toNat)).drop 0) ++ [(GAccount.mk ((l.getD i_14.toNat default).Query) 0 0 0)]) ++ ((out_13.take out_13.length).drop (k_30.toNat))).set k_30.toNat rv209) : List GAccount)] ?_
     refine Jf 5 rfl ?_; rintro ⟨he216, he217, he218, he219, he220⟩
     unfold i64ok at he216 he217 he218 he219
     refine Jk [0, 1, 2, 3, 4, 6] ?_
     refine KS ?_
     refine Oq Vm (Oq Vadd (Oq Va (KS ?_)))
     refine Fl 5 fun hn221 => ?_; (try unfold vl); rw [← hn221]
     exact Kg (r28, (((((out_13.take (k_30.toNat)).drop 0) ++ [(GAccount.mk ((l.getD i_14.toNat default).Query) 0 0 0)]) ++ ((out_13.take out_13.length).drop (k_30.toNat))).set k_30.toNat rv209), (i_14 + 1), a201, k202) [5, 4] ⟨(q3 hM17 (by simp only [flqref19_Accounts_L0, h26, h38, h170, hR169, hg210, cs4])), (by omega), (by omega), (by omega), (by omega), iv1, (AccO_set (by first | assumption | exact AccO_ins (by assumption) (by omega) _ _ _) _ (by (try dsimp only at *); omega))⟩
   intro h170
   have g222 := ne_of_beq_false h170
   refine JJ_peekO_GAccount k_30.toNat 0 rfl rng fun hb223 hb224 hb225 hb226 => ?_
   unfold i64ok at hb223 hb224 hb225 hb226
   refine JJ_peek_GTurn i_14.toNat 1 rfl rng fun hb227 hb228 hb229 hb230 => ?_
   unfold i64ok at hb227 hb228 hb229 hb230
   refine Kq [0, 0, 2, 7, 15, 31, 31, 127, 255, 511, 31, 31, 3103, 7199, 15391, 32767, 65535] fmix ?_
   refine Qv [] Vm (Qv [] Vm (Qv [] (Vlen sl35) (Qb h170 [] Veql (Qv [] Vm (Qv [] Vm (Qv [] Vm (Qv [1] (Vi sl35 0) (Qv [1] (Vfa fo38_0 0) (Qv [1] (VldF sh3 0) ?_)))))))))
   refine Qv [] Vm (Qv [] Vm (Qv [2] (Vi sl23 0) (Qv [0] (Vfa fo43_0 0) (Qv [0] (VldF sh3 0) (Qv [] Vneq (Qv [] Vpf ?_))))))
   refine Qn ⟨by kernel_rfl, ?_⟩
   refine Kc ?_ ?_
   · intro h231
     have g232 := ne_of_bne h231
     refine KS ?_
     refine Oa (As0 sl35) fun c233 => ?_
     refine Jo 0 ?_; rintro a234 k235 rfl
     refine Oq Vm (Oq Vm ?_)
     refine Jl [2] (Ent.oread _ _ _ _) ?_
     refine Jl [0] (Ent.freeze _ _) ?_
     refine Oa (Asl [0] sl35 0 (k_30.toNat)) fun c236 => ?_
     refine Jo 0 ?_; rintro a237 k238 rfl
     refine Fb 32 0 fun hl239 => ?_
     have hn240 : ((out_13.take (k_30.toNat)).drop 0).length = (k_30.toNat) - 0 := len_slice rng rng
     refine Jl [2] (Ent.crNil (α := GAccount) _) ?_
     refine Oa (Ap0 [0, 0] sl35 sl35 sz35) fun c241 => ?_
     refine Jo 0 ?_; rintro a242 k243 rfl
     refine Oq Va (KS ?_)
     refine Oq Vm (Oq Vm (Oq Vm (Oq (Vi sl23 4) (Oq (Vfa fo43_0 3) (Oq (VldF sh3 3) (Oq (Vbd st38 [vi ((l.getD i_14.toNat default).Query), vi 0, vi 0, vi 0]) (Oa (AsV sl35 sz35 [.agg #[vi ((l.getD i_14.toNat default).Query), vi 0, vi 0, vi 0]] [vi ((l.getD i_14.toNat default).Query), vi 0, vi 0, vi 0]) fun c244 => ?_)))))))
     refine Jo 0 ?_; rintro a245 k246 rfl
     refine Jl [0] (Ent.cr1 (α := GAccount) (A := []) _ (GAccount.mk ((l.getD i_14.toNat default).Query) 0 0 0) _ (Nat.le_of_ble_eq_true rfl) (fun h => ⟨rfl, (by unfold i64ok; first | omega | (dsimp only; omega)), (by unfold i64ok; first | omega | (dsimp only; omega)), (by unfold i64ok; first | omega | (dsimp only; omega)), (by unfold i64ok; first | omega | (dsimp only; omega))⟩)) ?_
     refine Oa (ApO [1, 0] sl35 sl35 sz35) fun c247 => ?_
     refine Jo 0 ?_; rintro a248 k249 rfl
     refine Fb 32 0 fun hl250 => ?_
     have hn251 := la ((out_13.take (k_30.toNat)).drop 0) ([(GAccount.mk ((l.getD i_14.toNat default).Query) 0 0 0)] : List GAccount)
     refine Oq Va (KS ?_)
     refine Oq Vm (Oq Vm (Oq Vm (Oa (Asl [2] sl35 (k_30.toNat) out_13.length) fun c252 => ?_)))
     refine Jo 0 ?_; rintro a253 k254 rfl
     refine Fb 32 0 fun hl255 => ?_
     have hn256 : ((out_13.take out_13.length).drop (k_30.toNat)).length = out_13.length - (k_30.toNat) := len_slice rng rng
     refine Oa (Ap [1, 0] sl35 sl35 sz35) fun c257 => ?_
     refine Jo 0 ?_; rintro a258 k259 rfl
     refine Fb 32 0 fun hl260 => ?_
     have hn261 := la ((((out_13.take (k_30.toNat)).drop 0) ++ [(GAccount.mk ((l.getD i_14.toNat default).Query) 0 0 0)]) : List GAccount) ((out_13.take out_13.length).drop (k_30.toNat))
     refine Oq Va (KS ?_)
     refine JJ_peekO_GAccount k_30.toNat 0 rfl rng fun hb262 hb263 hb264 hb265 => ?_
     unfold i64ok at hb262 hb263 hb264 hb265
     refine JK_drawK [0, 0, 0, 0, 12, 28, 0, 0, 192, 448, 1020, 2047, 4095] fmix ?_
     refine Dv [] Vm (Dv [] Vm (Dv [] Vm (Dv [] Vm (Dv [0] (Vi sl35 0) (Dv [0] (VldA sh38 0) (Dv [] Vm (Dv [] Vm (Dv [5] (Vi sl23 0) (Dv [4] (VldA sh43 0) ?_)))))))))
     refine letv (flqref19_add (((((out_13.take (k_30.toNat)).drop 0) ++ [(GAccount.mk ((l.getD i_14.toNat default).Query) 0 0 0)]) ++ ((out_13.take out_13.length).drop (k_30.toNat))).getD k_30.toNat default) (l.getD i_14.toNat default)) fun rv266 hg267 => ?_
     have hat : 0 ≤ ((((((out_13.take (k_30.toNat)).drop 0) ++ [(GAccount.mk ((l.getD i_14.toNat default).Query) 0 0 0)]) ++ ((out_13.take out_13.length).drop (k_30.toNat))).getD k_30.toNat default)).Turns ∧ ((((((out_13.take (k_30.toNat)).drop 0) ++ [(GAccount.mk ((l.getD i_14.toNat default).Query) 0 0 0)]) ++ ((out_13.take out_13.length).drop (k_30.toNat))).getD k_30.toNat default)).Turns ≤ i_14 ∧ i_14 ≤ 1000000 := by first | exact AccO_ge (by assumption) _ (by omega) | exact AccO_ge (AccO_ins (by assumption) (by omega) _ _ _) _ (by omega)
     refine Dx [] [] [0] (fun G => .agg #[vi rv266.Query, vi rv266.Turns, vi rv266.Steps, vi rv266.Cost]) [fun G => SP.fact (i64ok rv266.Query ∧ i64ok rv266.Turns ∧ i64ok rv266.Steps ∧ i64ok rv266.Cost ∧ (rv266.Query = (((((out_13.take (k_30.toNat)).drop 0) ++ [(GAccount.mk ((l.getD i_14.toNat default).Query) 0 0 0)]) ++ ((out_13.take out_13.length).drop (k_30.toNat))).getD k_30.toNat default).Query ∧ 0 ≤ rv266.Turns ∧ rv266.Turns ≤ (((((out_13.take (k_30.toNat)).drop 0) ++ [(GAccount.mk ((l.getD i_14.toNat default).Query) 0 0 0)]) ++ ((out_13.take out_13.length).drop (k_30.toNat))).getD k_30.toNat default).Turns + 1))] (fun G => xC [] ca27 (fn27 ((((((out_13.take (k_30.toNat)).drop 0) ++ [(GAccount.mk ((l.getD i_14.toNat default).Query) 0 0 0)]) ++ ((out_13.take out_13.length).drop (k_30.toNat))).getD k_30.toNat default)) ((l.getD i_14.toNat default)) pre pre pre pre pre pre pre pre (by first | exact AccO_gt (by assumption) _ (by omega) | exact AccO_gt (AccO_ins (by assumption) (by omega) _ _ _) _ (by omega)) rv266 hg267)) (Dv [0] (Vi sl35 0) ?_)
     refine Dx0 [0, 6] [0] [1, 0] [fun G => os (.slice a258 (((((out_13.take (k_30.toNat)).drop 0) ++ [(GAccount.mk ((l.getD i_14.toNat default).Query) 0 0 0)]) ++ ((out_13.take out_13.length).drop (k_30.toNat))).length) k259) ((((((out_13.take (k_30.toNat)).drop 0) ++ [(GAccount.mk ((l.getD i_14.toNat default).Query) 0 0 0)]) ++ ((out_13.take out_13.length).drop (k_30.toNat))).set k_30.toNat rv266) : List GAccount)] (fun G => by refine xf 1 rfl ?_; rintro ⟨he268, he269, he270, he271, he272⟩; unfold i64ok at he268 he269 he270 he271; exact xp [0] rfl (Ent.oread _ _ _ _) (xS (So (Rs := []) [0] sh38 rv266 (fun h => ⟨rfl, (by unfold i64ok; first | omega | (dsimp only; omega)), (by unfold i64ok; first | omega | (dsimp only; omega)), (by unfold i64ok; first | omega | (dsimp only; omega)), (by unfold i64ok; first | omega | (dsimp only; omega))⟩)))) ?_
     refine Dn ⟨by kernel_rfl, fun G => ?_⟩
     refine Jw2 [(0, vl la0 lk0 l), (4, vi i_14), (3, .slice a258 (((((out_13.take (k_30.toNat)).drop 0) ++ [(GAccount.mk ((l.getD i_14.toNat default).Query) 0 0 0)]) ++ ((out_13.take out_13.length).drop (k_30.toNat))).length) k259)] [1, 2, 3, 4, 5] [SP.fact (i64ok rv266.Query ∧ i64ok rv266.Turns ∧ i64ok rv266.Steps ∧ i64ok rv266.Cost ∧ (rv266.Query = (((((out_13.take (k_30.toNat)).drop 0) ++ [(GAccount.mk ((l.getD i_14.toNat default).Query) 0 0 0)]) ++ ((out_13.take out_13.length).drop (k_30.toNat))).getD k_30.toNat default).Query ∧ 0 ≤ rv266.Turns ∧ rv266.Turns ≤ (((((out_13.take (k_30.toNat)).drop 0) ++ [(GAccount.mk ((l.getD i_14.toNat default).Query) 0 0 0)]) ++ ((out_13.take out_13.length).drop (k_30.toNat))).getD k_30.toNat default).Turns + 1)), os (.slice a258 (((((out_13.take (k_30.toNat)).drop 0) ++ [(GAccount.mk ((l.getD i_14.toNat default).Query) 0 0 0)]) ++ ((out_13.take out_13.length).drop (k_30.toNat))).length) k259) ((((((out_13.take (k_30.toNat)).drop 0) ++ [(GAccount.mk ((l.getD i_14.toNat default).Query) 0 0 0)]) ++ ((out_13.take out_13.length).drop (k_30.toNat))).set k_30.toNat rv266) : List GAccount)] ?_
     refine Jf 5 rfl ?_; rintro ⟨he273, he274, he275, he276, he277⟩
     unfold i64ok at he273 he274 he275 he276
     refine Jk [0, 1, 2, 3, 4, 6] ?_
     refine KS ?_
     refine Oq Vm (Oq Vadd (Oq Va (KS ?_)))
     refine Fl 5 fun hn278 => ?_; (try unfold vl); rw [← hn278]
     exact Kg (r28, (((((out_13.take (k_30.toNat)).drop 0) ++ [(GAccount.mk ((l.getD i_14.toNat default).Query) 0 0 0)]) ++ ((out_13.take out_13.length).drop (k_30.toNat))).set k_30.toNat rv266), (i_14 + 1), a258, k259) [5, 4] ⟨(q3 hM17 (by simp only [flqref19_Accounts_L0, h26, h38, h170, h231, hR169, hg267, cs4])), (by omega), (by omega), (by omega), (by omega), iv1, (AccO_set (by first | assumption | exact AccO_ins (by assumption) (by omega) _ _ _) _ (by (try dsimp only at *); omega))⟩
   intro h231
   have g279 := eq_of_bne_false h231
   refine KS ?_
   refine JK_drawK [0, 0, 0, 0, 12, 28, 0, 0, 192, 448, 1020, 2047, 4095] fmix ?_
   refine Dv [] Vm (Dv [] Vm (Dv [] Vm (Dv [] Vm (Dv [1] (Vi sl35 0) (Dv [1] (VldA sh38 0) (Dv [] Vm (Dv [] Vm (Dv [2] (Vi sl23 0) (Dv [0] (VldA sh43 0) ?_)))))))))
   refine letv (flqref19_add (out_13.getD k_30.toNat default) (l.getD i_14.toNat default)) fun rv280 hg281 => ?_
   have hat : 0 ≤ ((out_13.getD k_30.toNat default)).Turns ∧ ((out_13.getD k_30.toNat default)).Turns ≤ i_14 ∧ i_14 ≤ 1000000 := by first | exact AccO_ge (by assumption) _ (by omega) | exact AccO_ge (AccO_ins (by assumption) (by omega) _ _ _) _ (by omega)
   refine Dx [] [] [0] (fun G => .agg #[vi rv280.Query, vi rv280.Turns, vi rv280.Steps, vi rv280.Cost]) [fun G => SP.fact (i64ok rv280.Query ∧ i64ok rv280.Turns ∧ i64ok rv280.Steps ∧ i64ok rv280.Cost ∧ (rv280.Query = (out_13.getD k_30.toNat default).Query ∧ 0 ≤ rv280.Turns ∧ rv280.Turns ≤ (out_13.getD k_30.toNat default).Turns + 1))] (fun G => xC [] ca27 (fn27 ((out_13.getD k_30.toNat default)) ((l.getD i_14.toNat default)) pre pre pre pre pre pre pre pre (by first | exact AccO_gt (by assumption) _ (by omega) | exact AccO_gt (AccO_ins (by assumption) (by omega) _ _ _) _ (by omega)) rv280 hg281)) (Dv [1] (Vi sl35 0) ?_)
   refine Dx0 [1, 3] [1] [1, 0] [fun G => os (vl a15 k16 out_13) (out_13.set k_30.toNat rv280)] (fun G => by refine xf 1 rfl ?_; rintro ⟨he282, he283, he284, he285, he286⟩; unfold i64ok at he282 he283 he284 he285; exact xp [0] rfl (Ent.oread _ _ _ _) (xS (So (Rs := []) [0] sh38 rv280 (fun h => ⟨rfl, (by unfold i64ok; first | omega | (dsimp only; omega)), (by unfold i64ok; first | omega | (dsimp only; omega)), (by unfold i64ok; first | omega | (dsimp only; omega)), (by unfold i64ok; first | omega | (dsimp only; omega))⟩)))) ?_
   refine Dn ⟨by kernel_rfl, fun G => ?_⟩
   refine Jw2 [(0, vl la0 lk0 l), (3, vl a15 k16 out_13), (4, vi i_14)] [0, 2] [SP.fact (i64ok rv280.Query ∧ i64ok rv280.Turns ∧ i64ok rv280.Steps ∧ i64ok rv280.Cost ∧ (rv280.Query = (out_13.getD k_30.toNat default).Query ∧ 0 ≤ rv280.Turns ∧ rv280.Turns ≤ (out_13.getD k_30.toNat default).Turns + 1)), os (vl a15 k16 out_13) (out_13.set k_30.toNat rv280)] ?_
   refine Jf 2 rfl ?_; rintro ⟨he287, he288, he289, he290, he291⟩
   unfold i64ok at he287 he288 he289 he290
   refine Jk [0, 1, 3] ?_
   refine KS ?_
   refine Oq Vm (Oq Vadd (Oq Va (KS ?_)))
   refine Fl 2 fun hn292 => ?_; (try unfold vl); rw [← hn292]
   exact Kg (r28, (out_13.set k_30.toNat rv280), (i_14 + 1), a15, k16) [2, 1] ⟨(q3 hM17 (by simp only [flqref19_Accounts_L0, h26, h38, h170, h231, hR169, hg281, cs4])), (by omega), (by omega), (by omega), (by omega), iv1, (AccO_set (by first | assumption | exact AccO_ins (by assumption) (by omega) _ _ _) _ (by (try dsimp only at *); omega))⟩
 intro h26
 have g293 := of_decide_eq_false h26
 obtain rfl : r12 = 0 := by omega
 refine Ke ?_
 have hR294 := q2 hM17 out_13 (by simp only [flqref19_Accounts_L0, h26, cs4])
 refine KS ?_
 refine Oq Vm (Oq Va (KS ?_))
 refine Jl [0] (Ent.freeze _ _) ?_
 have hq := q4 hrr out_13 (by simp only [flqref19_Accounts, h5, h10, h26, hg3, hR294, cs4]); subst hq
 exact Kr (vl a15 k16 out_13) rfl (.tmp rfl .nil) [0] trivial
theorem fn14 (l : List GTurn) (la0 : Option Addr) (lk0 : Nat) (rr : GAccount) (hrr : ledger_Total l = rr) : FT Try.prog 14 #[vl la0 lk0 l] [S la0 lk0 l] (fun g : Unit => i64ok rr.Query ∧ i64ok rr.Turns ∧ i64ok rr.Steps ∧ i64ok rr.Cost) (fun g => .agg #[vi rr.Query, vi rr.Turns, vi rr.Steps, vi rr.Cost]) (fun g => []) := by
 refine FTi Try.func14 fun w0 M0 F0 => ?_
 refine Fb 40 0 fun hl1 => ?_
 refine KS ?_
 refine Oa (Al ze38 [vi 0, vi 0, vi 0, vi 0]) fun p2 => KS ?_
 refine Oa (Al ze38 [vi 0, vi 0, vi 0, vi 0]) fun p3 => KS ?_
 refine Oq Vm ?_
 refine letv (ledger_Valid l) fun rv4 hg5 => ?_
 have hc6 := fn9 l la0 lk0 rv4 hg5
 refine Oc [2] ca9 hc6 ?_
 rintro - -
 refine KS ?_
 refine Kc ?_ ?_
 · intro h7
   try have hvl := LValid_len (l := l) (by simp only [h7, hg5])
   refine KS ?_
   refine Oq Vm (Oq (Vlen sl23) (Oq Vm (KS ?_)))
   refine Kl (γ := Nat × Int × Int × Int × Int × Int) (fun (r9, out0_10, out1_11, out2_12, out3_13, v10_14) => ⟨[(2, p2), (3, p3), (8, vl la0 lk0 l), (9, vi (l.length : Int)), (10, vi v10_14)], [Cl p3 [vi out0_10, vi out1_11, vi out2_12, vi out3_13], Cl p2 [vi 0, vi 0, vi 0, vi 0], S la0 lk0 l], ledger_Total_L0 l r9 out0_10 out1_11 out2_12 out3_13 v10_14 = ledger_Total_L0 l (((l.length : Int) - 0).toNat) 0 0 0 0 0 ∧ r9 = ((l.length : Int) - v10_14).toNat ∧ (0 : Int) ≤ v10_14 ∧ v10_14 ≤ (l.length : Int) ∧ (-9223372036854775808 ≤ out0_10 ∧ out0_10 ≤ 9223372036854775807) ∧ (-9223372036854775808 ≤ out1_11 ∧ out1_11 ≤ 9223372036854775807) ∧ (-9223372036854775808 ≤ out2_12 ∧ out2_12 ≤ 9223372036854775807) ∧ (-9223372036854775808 ≤ out3_13 ∧ out3_13 ≤ 9223372036854775807) ∧ (-9223372036854775808 ≤ v10_14 ∧ v10_14 ≤ 9223372036854775807) ∧ (0 ≤ out1_11 ∧ out1_11 ≤ v10_14), r9⟩) (((l.length : Int) - 0).toNat, 0, 0, 0, 0, 0) [0, 0, 0] ⟨rfl, rfl, (by omega), (by omega), (by omega), (by omega), (by omega), (by omega), (by omega), iv0⟩ ?_
   rintro ⟨r9, out0_10, out1_11, out2_12, out3_13, v10_14⟩ ⟨hM15, hr16, hi17, hi18, hk19, hk20, hk21, hk22, hk23, hv24⟩
   refine JJ_nx fun _ _ hL hA => ?_; dsimp only at hL hA; subst hL hA
   refine Fb 40 2 fun hl25 => ?_
   refine KS ?_
   refine Oq Vlss (KS ?_)
   refine Kc ?_ ?_
   · intro h26
     have g27 := of_decide_eq_true h26
     obtain ⟨r28, rfl⟩ := scc (n := r9) (by omega)
     refine KS ?_
     refine Oq (Vi sl23 2) ?_
     refine JJ_peek_GTurn v10_14.toNat 2 rfl rng fun hb29 hb30 hb31 hb32 => ?_
     unfold i64ok at hb29 hb30 hb31 hb32
     refine Oq (VldA sh43 0) (Oa (Al ze43 [vi 0, vi 0, vi 0, vi 0, vb false]) fun p33 => Ost (Scl [0] sh43 [vi ((l.getD v10_14.toNat default).Query), vi ((l.getD v10_14.toNat default).Quantum), vi ((l.getD v10_14.toNat default).Steps), vi ((l.getD v10_14.toNat default).Cost), vb ((l.getD v10_14.toNat default).Finished)]) (KS ?_))
     refine Oq (VldA sh38 2) (Oq (VldA sh43 0) ?_)
     refine letv (ledger_add (GAccount.mk out0_10 out1_11 out2_12 out3_13) (l.getD v10_14.toNat default)) fun rv34 hg35 => ?_
     have hc36 := fn23 ((GAccount.mk out0_10 out1_11 out2_12 out3_13)) ((l.getD v10_14.toNat default)) pre pre pre pre pre pre pre pre pre rv34 hg35
     refine Oc [] ca23 hc36 ?_
     rintro - ⟨he37, he38, he39, he40, he41⟩
     unfold i64ok at he37 he38 he39 he40
     have he41 : (rv34.Query = out0_10 ∧ 0 ≤ rv34.Turns ∧ rv34.Turns ≤ out1_11 + 1 ∧ 0 ≤ rv34.Steps ∧ rv34.Steps ≤ 1073741824 ∧ 0 ≤ rv34.Cost ∧ rv34.Cost ≤ 1073741824) := he41
     refine Ost (Scl [2] sh38 [vi rv34.Query, vi rv34.Turns, vi rv34.Steps, vi rv34.Cost]) (KS ?_)
     refine Oq Vadd (Oq Vm (KS ?_))
     exact Kg (r28, rv34.Query, rv34.Turns, rv34.Steps, rv34.Cost, (v10_14 + 1)) [0, 2, 2] ⟨(q3 hM15 (by simp only [ledger_Total_L0, h26, hg35, cs4])), (by omega), (by omega), (by omega), (by omega), (by omega), (by omega), (by omega), (by omega), iv1⟩
   intro h26
   have g42 := of_decide_eq_false h26
   obtain rfl : r9 = 0 := by omega
   refine Ke ?_
   have hR43 := q2 hM15 (out0_10, out1_11, out2_12, out3_13) (by simp only [ledger_Total_L0, h26, cs4])
   refine KS ?_
   refine Oq (VldA sh38 0) (Ost (Scl [1] sh38 [vi out0_10, vi out1_11, vi out2_12, vi out3_13]) (KS ?_))
   have hq := q4 hrr (GAccount.mk out0_10 out1_11 out2_12 out3_13) (by simp only [ledger_Total, h7, h26, hg5, hR43, cs4]); subst hq
   exact Kr () rfl (.cellN 0 rfl sh38 rfl (reads_Cl _ _) rfl .nil) [] en
 intro h7
 refine KS ?_
 refine Oq (VldA sh38 0) (Ost (Scl [1] sh38 [vi 0, vi 0, vi 0, vi 0]) (KS ?_))
 have hq := q4 hrr (GAccount.mk 0 0 0 0) (by simp only [ledger_Total, h7, hg5, cs4]); subst hq
 exact Kr () rfl (.cellN 0 rfl sh38 rfl (reads_Cl _ _) rfl .nil) [] en
theorem fn15 (l : List GTurn) (la0 : Option Addr) (lk0 : Nat) (rr : GAccount) (hrr : flqref19_Total l = rr) : FT Try.prog 15 #[vl la0 lk0 l] [S la0 lk0 l] (fun g : Unit => i64ok rr.Query ∧ i64ok rr.Turns ∧ i64ok rr.Steps ∧ i64ok rr.Cost) (fun g => .agg #[vi rr.Query, vi rr.Turns, vi rr.Steps, vi rr.Cost]) (fun g => []) := by
 refine FTi Try.func15 fun w0 M0 F0 => ?_
 refine Fb 40 0 fun hl1 => ?_
 refine KS ?_
 refine Oa (Al ze38 [vi 0, vi 0, vi 0, vi 0]) fun p2 => KS ?_
 refine Oa (Al ze38 [vi 0, vi 0, vi 0, vi 0]) fun p3 => KS ?_
 refine Oq Vm ?_
 refine letv (flqref19_ValidLog l) fun rv4 hg5 => ?_
 have hc6 := fn10 l la0 lk0 rv4 hg5
 refine Oc [2] ca10 hc6 ?_
 rintro - -
 refine Oq Vnot (KS ?_)
 refine Kc ?_ ?_
 · intro h7
   have h9 := not_true h7
   refine KS ?_
   refine Oq (VldA sh38 0) (Ost (Scl [1] sh38 [vi 0, vi 0, vi 0, vi 0]) (KS ?_))
   have hq := q4 hrr (GAccount.mk 0 0 0 0) (by simp only [flqref19_Total, h7, h9, hg5, cs4]); subst hq
   exact Kr () rfl (.cellN 0 rfl sh38 rfl (reads_Cl _ _) rfl .nil) [] en
 intro h7
 have h12 := not_false h7
 try have hvl := RValid_len (l := l) (by simp only [h7, h12, hg5])
 try have hvk := RValid_ok (l := l) (by simp only [h7, h12, hg5])
 refine KS ?_
 refine Oq Va (KS ?_)
 refine Kl (γ := Nat × Int × Int × Int × Int × Int) (fun (r14, a0_15, a1_16, a2_17, a3_18, i_19) => ⟨[(0, vl la0 lk0 l), (2, p2), (3, p3), (4, vi i_19)], [Cl p3 [vi a0_15, vi a1_16, vi a2_17, vi a3_18], Cl p2 [vi 0, vi 0, vi 0, vi 0], S la0 lk0 l], flqref19_Total_L0 l r14 a0_15 a1_16 a2_17 a3_18 i_19 = flqref19_Total_L0 l (((l.length : Int) - 0).toNat) 0 0 0 0 0 ∧ r14 = ((l.length : Int) - i_19).toNat ∧ (0 : Int) ≤ i_19 ∧ i_19 ≤ (l.length : Int) ∧ (-9223372036854775808 ≤ a0_15 ∧ a0_15 ≤ 9223372036854775807) ∧ (-9223372036854775808 ≤ a1_16 ∧ a1_16 ≤ 9223372036854775807) ∧ (-9223372036854775808 ≤ a2_17 ∧ a2_17 ≤ 9223372036854775807) ∧ (-9223372036854775808 ≤ a3_18 ∧ a3_18 ≤ 9223372036854775807) ∧ (-9223372036854775808 ≤ i_19 ∧ i_19 ≤ 9223372036854775807) ∧ (0 ≤ a1_16 ∧ a1_16 ≤ i_19), r14⟩) (((l.length : Int) - 0).toNat, 0, 0, 0, 0, 0) [0, 0, 0] ⟨rfl, rfl, (by omega), (by omega), (by omega), (by omega), (by omega), (by omega), (by omega), (by omega)⟩ ?_
 rintro ⟨r14, a0_15, a1_16, a2_17, a3_18, i_19⟩ ⟨hM20, hr21, hi22, hi23, hk24, hk25, hk26, hk27, hk28, hv29⟩
 refine JJ_nx fun _ _ hL hA => ?_; dsimp only at hL hA; subst hL hA
 refine Fb 40 2 fun hl30 => ?_
 refine KS ?_
 refine Oq Vm (Oq Vm (Oq (Vlen sl23) (Oq Vlss (KS ?_))))
 refine Kc ?_ ?_
 · intro h31
   have g32 := of_decide_eq_true h31
   obtain ⟨r33, rfl⟩ := scc (n := r14) (by omega)
   refine KS ?_
   refine JJ_peek_GTurn i_19.toNat 2 rfl rng fun hb34 hb35 hb36 hb37 => ?_
   unfold i64ok at hb34 hb35 hb36 hb37
   refine JK_drawK [0, 0, 0, 6, 14, 31, 63] fmix ?_
   refine Dv [1] (VldA sh38 0) (Dv [] Vm (Dv [] Vm (Dv [3] (Vi sl23 0) (Dv [0] (VldA sh43 0) ?_))))
   refine letv (flqref19_add (GAccount.mk a0_15 a1_16 a2_17 a3_18) (l.getD i_19.toNat default)) fun rv38 hg39 => ?_
   refine Dx [] [] [0] (fun G => .agg #[vi rv38.Query, vi rv38.Turns, vi rv38.Steps, vi rv38.Cost]) [fun G => SP.fact (i64ok rv38.Query ∧ i64ok rv38.Turns ∧ i64ok rv38.Steps ∧ i64ok rv38.Cost ∧ (rv38.Query = (GAccount.mk a0_15 a1_16 a2_17 a3_18).Query ∧ 0 ≤ rv38.Turns ∧ rv38.Turns ≤ (GAccount.mk a0_15 a1_16 a2_17 a3_18).Turns + 1))] (fun G => xC [] ca27 (fn27 ((GAccount.mk a0_15 a1_16 a2_17 a3_18)) ((l.getD i_19.toNat default)) pre pre pre pre pre pre pre pre pre rv38 hg39)) (Dx0 [1] [1] [0] [fun G => Cl p3 [vi rv38.Query, vi rv38.Turns, vi rv38.Steps, vi rv38.Cost]] (fun G => xS (Scl [0] sh38 [vi rv38.Query, vi rv38.Turns, vi rv38.Steps, vi rv38.Cost])) ?_)
   refine Dn ⟨by kernel_rfl, fun G => ?_⟩
   refine Jw2 [(0, vl la0 lk0 l), (2, p2), (3, p3), (4, vi i_19)] [0, 2, 3] [SP.fact (i64ok rv38.Query ∧ i64ok rv38.Turns ∧ i64ok rv38.Steps ∧ i64ok rv38.Cost ∧ (rv38.Query = (GAccount.mk a0_15 a1_16 a2_17 a3_18).Query ∧ 0 ≤ rv38.Turns ∧ rv38.Turns ≤ (GAccount.mk a0_15 a1_16 a2_17 a3_18).Turns + 1)), Cl p3 [vi rv38.Query, vi rv38.Turns, vi rv38.Steps, vi rv38.Cost]] ?_
   refine Jf 3 rfl ?_; rintro ⟨he40, he41, he42, he43, he44⟩
   unfold i64ok at he40 he41 he42 he43
   refine Jk [0, 1, 1, 3] ?_
   refine KS ?_
   refine Oq Vm (Oq Vadd (Oq Va (KS ?_)))
   exact Kg (r33, rv38.Query, rv38.Turns, rv38.Steps, rv38.Cost, (i_19 + 1)) [3, 1, 1] ⟨(q3 hM20 (by simp only [flqref19_Total_L0, h31, hg39, cs4])), (by omega), (by omega), (by omega), (by omega), (by omega), (by omega), (by omega), (by omega), (by (try dsimp only at *); omega)⟩
 intro h31
 have g45 := of_decide_eq_false h31
 obtain rfl : r14 = 0 := by omega
 refine Ke ?_
 have hR46 := q2 hM20 (a0_15, a1_16, a2_17, a3_18) (by simp only [flqref19_Total_L0, h31, cs4])
 refine KS ?_
 refine Oq (VldA sh38 0) (Ost (Scl [1] sh38 [vi a0_15, vi a1_16, vi a2_17, vi a3_18]) (KS ?_))
 have hq := q4 hrr (GAccount.mk a0_15 a1_16 a2_17 a3_18) (by simp only [flqref19_Total, h7, h12, h31, hg5, hR46, cs4]); subst hq
 exact Kr () rfl (.cellN 0 rfl sh38 rfl (reads_Cl _ _) rfl .nil) [] en
theorem fn28 (l : List GTurn) (la0 : Option Addr) (lk0 : Nat) (query : Int) (weightF : FuncId) (weightC : List Value) (weightp : GTurn → Int) (weightA : List SP) (hquery_0 : i64ok query) (hweightc : callable Try.prog weightF = true) (hweightF : ∀ x0, i64ok x0.Query → i64ok x0.Quantum → i64ok x0.Steps → i64ok x0.Cost → FT Try.prog weightF ([(.agg #[vi x0.Query, vi x0.Quantum, vi x0.Steps, vi x0.Cost, vb x0.Finished] : Value)] ++ weightC).toArray ([] ++ [pAll weightA]) (fun _ : Unit => i64ok (weightp x0)) (fun _ => vi (weightp x0)) (fun _ => [])) (hw : ledger_Valid l = true → ∀ x ∈ l, 0 ≤ weightp x ∧ weightp x ≤ 1073741824) (rr : Int) (hrr : ledger_greatest l query weightp = rr) : FT Try.prog 28 #[vl la0 lk0 l, vi query, .func (.func weightF) #[] weightC.toArray] [S la0 lk0 l, pAll weightA] (fun g : Unit => i64ok rr) (fun g => vi rr) (fun g => []) := by
 refine FTi Try.func28 fun w0 M0 F0 => ?_
 unfold i64ok at hquery_0
 refine Fb 40 0 fun hl1 => ?_
 refine KS ?_
 refine Oq Va (KS ?_)
 refine Oq Vm ?_
 refine letv (ledger_Valid l) fun rv2 hg3 => ?_
 have hc4 := fn9 l la0 lk0 rv2 hg3
 refine Oc [0] ca9 hc4 ?_
 rintro - -
 refine Oq Vnot (KS ?_)
 refine Kc ?_ ?_
 · intro h5
   have h7 := not_true h5
   refine KS ?_
   refine Oq Va (KS ?_)
   have hq := q4 hrr 0 (by simp only [ledger_greatest, h5, h7, hg3, cs4]); subst hq
   exact Kr () rfl (.tmp rfl .nil) [] en
 intro h5
 have h10 := not_false h5
 try have hvl := LValid_len (l := l) (by simp only [h5, h10, hg3])
 try have hww := hw (by simp only [h5, h10, hg3])
 refine KS ?_
 refine Oq Va (Oq Va (Oq Va (KS ?_)))
 refine Oq Vm (Oq (Vlen sl23) (Oq Vm (KS ?_)))
 refine Kl (γ := Nat × Int × Int × Bool × Int) (fun (r12, most_13, sum_14, inside_15, v17_16) => ⟨[(1, vi query), (2, .func (.func weightF) #[] weightC.toArray), (7, vi most_13), (8, vi sum_14), (9, vb inside_15), (15, vl la0 lk0 l), (16, vi (l.length : Int)), (17, vi v17_16)], [S la0 lk0 l, pAll weightA], ledger_greatest_L0 l query weightp r12 most_13 sum_14 inside_15 v17_16 = ledger_greatest_L0 l query weightp (((l.length : Int) - 0).toNat) 0 0 false 0 ∧ r12 = ((l.length : Int) - v17_16).toNat ∧ (0 : Int) ≤ v17_16 ∧ v17_16 ≤ (l.length : Int) ∧ (-9223372036854775808 ≤ most_13 ∧ most_13 ≤ 9223372036854775807) ∧ (-9223372036854775808 ≤ sum_14 ∧ sum_14 ≤ 9223372036854775807) ∧ (-9223372036854775808 ≤ v17_16 ∧ v17_16 ≤ 9223372036854775807) ∧ (0 ≤ sum_14 ∧ sum_14 ≤ 1073741824 * v17_16) ∧ (0 ≤ most_13 ∧ most_13 ≤ 1073741824 * v17_16), r12⟩) (((l.length : Int) - 0).toNat, 0, 0, false, 0) [0, 1] ⟨rfl, rfl, (by omega), (by omega), (by omega), (by omega), (by omega), iv0, iv0⟩ ?_
 rintro ⟨r12, most_13, sum_14, inside_15, v17_16⟩ ⟨hM17, hr18, hi19, hi20, hk21, hk22, hk23, hv24, hv25⟩
 refine JJ_nx fun _ _ hL hA => ?_; dsimp only at hL hA; subst hL hA
 refine Fb 40 0 fun hl26 => ?_
 refine KS ?_
 refine Oq Vlss (KS ?_)
 refine Kc ?_ ?_
 · intro h27
   have g28 := of_decide_eq_true h27
   have hq := hww _ (getD_mem (xs := l) (i := v17_16.toNat) (d := default) (by omega))
   obtain ⟨r29, rfl⟩ := scc (n := r12) (by omega)
   refine KS ?_
   refine Oq (Vi sl23 0) ?_
   refine JJ_peek_GTurn v17_16.toNat 0 rfl rng fun hb30 hb31 hb32 hb33 => ?_
   unfold i64ok at hb30 hb31 hb32 hb33
   refine Oq (VldA sh43 0) (Oa (Al ze43 [vi 0, vi 0, vi 0, vi 0, vb false]) fun p34 => Ost (Scl [0] sh43 [vi ((l.getD v17_16.toNat default).Query), vi ((l.getD v17_16.toNat default).Quantum), vi ((l.getD v17_16.toNat default).Steps), vi ((l.getD v17_16.toNat default).Cost), vb ((l.getD v17_16.toNat default).Finished)]) (KS ?_))
   refine Oq (Vfa fo43_0 0) (Oq (VldF sh3 0) (Oq Vm (Oq Veql (Oq Vm ?_))))
   refine Js 26 ?_ ?_
   · intro h35
     have g36 := eq_of_beq h35
     refine Oq (Vfa fo43_1 0) (Oq (VldF sh3 0) (Oq Vgtr (Oq Vpt (Oq Va (KS ?_)))))
     refine Kc ?_ ?_
     · intro h37
       have g38 := of_decide_eq_true h37
       refine KS ?_
       refine Oq Vm (KS ?_)
       refine Kc ?_ ?_
       · intro h39
         refine KS ?_
         refine Oq Vm (Oq Vm (Oq Vmax (Oq Va (KS ?_))))
         refine Oq Va (Oq Va (KS ?_))
         refine Oq Vadd (Oq Vm (KS ?_))
         exact Kg (r29, (max most_13 sum_14), 0, true, (v17_16 + 1)) [2, 3] ⟨(q3 hM17 (by simp only [ledger_greatest_L0, h27, h35, h37, h39, cs4])), (by omega), (by omega), (by omega), (by omega), (by omega), (by omega), iv1, iv1⟩
       intro h39
       refine KS ?_
       refine Oq Va (Oq Va (KS ?_))
       refine Oq Vadd (Oq Vm (KS ?_))
       exact Kg (r29, most_13, 0, true, (v17_16 + 1)) [2, 3] ⟨(q3 hM17 (by simp only [ledger_greatest_L0, h27, h35, h37, h39, cs4])), (by omega), (by omega), (by omega), (by omega), (by omega), (by omega), iv1, iv1⟩
     intro h37
     have g42 := of_decide_eq_false h37
     refine KS ?_
     refine Oq (Vfa fo43_0 0) (Oq (VldF sh3 0) (Oq Vm (Oq Vneq (Oq Va (KS ?_)))))
     refine Kc ?_ ?_
     · intro h43
       exact absurd h43 (by first | (simp [h35]; done) | (simp only [bne, h35]; decide) | (simp only [bne, h35, Bool.not_true, Bool.not_false]; decide) | (exfalso; omega) | (intro hq; simp only [bne, hq, Bool.not_false, Bool.not_true, reduceCtorEq] at h35))
     intro h43
     have g44 := eq_of_bne_false h43
     refine KS ?_
     refine Oq Vadd (Oq Vm (KS ?_))
     exact Kg (r29, most_13, sum_14, inside_15, (v17_16 + 1)) [2, 3] ⟨(q3 hM17 (by simp only [ledger_greatest_L0, h27, h35, h37, h43, cs4])), (by omega), (by omega), (by omega), (by omega), (by omega), (by omega), iv1, iv1⟩
   intro h35
   have g45 := ne_of_beq_false h35
   refine Osk (Osk (Osk (Oq Vpf (Oq Va (KS ?_)))))
   refine Kf ?_
   refine KS ?_
   refine Oq (Vfa fo43_0 0) (Oq (VldF sh3 0) (Oq Vm (Oq Vneq (Oq Va (KS ?_)))))
   refine Kc ?_ ?_
   · intro h46
     have g47 := ne_of_bne h46
     refine KS ?_
     refine Oq Vm (Oq Vm (Oq (VldA sh43 0) ?_))
     refine JO_call [3] rfl rfl rfl (OpC.clo («as» := [(.agg #[vi ((l.getD v17_16.toNat default).Query), vi ((l.getD v17_16.toNat default).Quantum), vi ((l.getD v17_16.toNat default).Steps), vi ((l.getD v17_16.toNat default).Cost), vb ((l.getD v17_16.toNat default).Finished)] : Value)] ++ weightC) rfl rfl hweightc rfl (by simp)) (hweightF (l.getD v17_16.toNat default)  pre pre pre pre) rfl fun _ he48 => ?_
     unfold i64ok at he48
     refine Oq Vadd (Oq Va (KS ?_))
     refine Oq Vadd (Oq Vm (KS ?_))
     exact Kg (r29, most_13, (sum_14 + (weightp (l.getD v17_16.toNat default))), inside_15, (v17_16 + 1)) [2, 3] ⟨(q3 hM17 (by simp only [ledger_greatest_L0, h27, h35, h46, cs4])), (by omega), (by omega), (by omega), (by omega), (by omega), (by omega), iv1, iv1⟩
   intro h46
   exact absurd h46 (by first | (simp [h35]; done) | (simp only [bne, h35]; decide) | (simp only [bne, h35, Bool.not_true, Bool.not_false]; decide) | (exfalso; omega) | (intro hq; simp only [bne, hq, Bool.not_false, Bool.not_true, reduceCtorEq] at h35))
 intro h27
 have g49 := of_decide_eq_false h27
 obtain rfl : r12 = 0 := by omega
 refine Ke ?_
 have hR50 := q2 hM17 most_13 (by simp only [ledger_greatest_L0, h27, cs4])
 refine KS ?_
 refine Oq Vm (Oq Va (KS ?_))
 have hq := q4 hrr most_13 (by simp only [ledger_greatest, h5, h10, h27, hg3, hR50, cs4]); subst hq
 exact Kr () rfl (.tmp rfl .nil) [] en
theorem fn29 (x : GTurn) (hx_0 : i64ok x.Query) (hx_1 : i64ok x.Quantum) (hx_2 : i64ok x.Steps) (hx_3 : i64ok x.Cost) (rr : Int) (hrr : ledger_Longest_1 x = rr) : FT Try.prog 29 #[.agg #[vi x.Query, vi x.Quantum, vi x.Steps, vi x.Cost, vb x.Finished]] [] (fun g : Unit => i64ok rr) (fun g => vi rr) (fun g => []) := by
 refine FTi Try.func29 fun w0 M0 F0 => ?_
 unfold i64ok at hx_0 hx_1 hx_2 hx_3
 refine KS ?_
 refine Oa (Ab [vi x.Query, vi x.Quantum, vi x.Steps, vi x.Cost, vb x.Finished]) fun p1 => Oq Va (KS ?_)
 refine Oq (Vfa fo43_3 0) (Oq (VldF sh3 0) (Oq Va (KS ?_)))
 have hq := q4 hrr x.Cost (by simp only [ledger_Longest_1, cs4]); subst hq
 exact Kr () rfl (.tmp rfl .nil) [] en
theorem fn16 (l : List GTurn) (la0 : Option Addr) (lk0 : Nat) (query : Int) (hquery_0 : i64ok query) (rr : Int) (hrr : ledger_Longest l query = rr) : FT Try.prog 16 #[vl la0 lk0 l, vi query] [S la0 lk0 l] (fun g : Unit => i64ok rr) (fun g => vi rr) (fun g => []) := by
 refine FTi Try.func16 fun w0 M0 F0 => ?_
 unfold i64ok at hquery_0
 refine Fb 40 0 fun hl1 => ?_
 refine KS ?_
 refine Oq Va (KS ?_)
 refine Oq Vm (Oq Vm ?_)
 refine JJ_ent (Ent.pall [] rfl rfl) ?_
 refine letv (ledger_greatest l query (fun x0 => ledger_Longest_1 x0)) fun rv2 hg3 => ?_
 have hc4 := fn28 l la0 lk0 query 29 [] (fun x0 => ledger_Longest_1 x0) [] pre ca29 (fun x0 hq0 hq1 hq2 hq3 => FT_pall (A1 := []) (fn29 x0  hq0 hq1 hq2 hq3 _ rfl)) (fun hv x hx => LValid_cost hv x hx) rv2 hg3
 refine Oc [1, 0] ca28 hc4 ?_
 rintro - he5
 unfold i64ok at he5
 refine Oq Va (KS ?_)
 have hq := q4 hrr rv2 (by simp only [ledger_Longest, hg3, cs4]); subst hq
 exact Kr () rfl (.tmp rfl .nil) [] en
theorem fn17 (l : List GTurn) (la0 : Option Addr) (lk0 : Nat) (query : Int) (hquery_0 : i64ok query) (rr : Int) (hrr : flqref19_Longest l query = rr) : FT Try.prog 17 #[vl la0 lk0 l, vi query] [S la0 lk0 l] (fun g : Unit => i64ok rr) (fun g => vi rr) (fun g => []) := by
 refine FTi Try.func17 fun w0 M0 F0 => ?_
 unfold i64ok at hquery_0
 refine Fb 40 0 fun hl1 => ?_
 refine KS ?_
 refine Oq Va (KS ?_)
 refine Oq Va (Oq Va (Oq Va (KS ?_)))
 refine Oq Vm ?_
 refine letv (flqref19_ValidLog l) fun rv2 hg3 => ?_
 have hc4 := fn10 l la0 lk0 rv2 hg3
 refine Oc [0] ca10 hc4 ?_
 rintro - -
 refine Oq Vnot (KS ?_)
 refine Kc ?_ ?_
 · intro h5
   have h7 := not_true h5
   refine KS ?_
   refine Oq Va (KS ?_)
   have hq := q4 hrr 0 (by simp only [flqref19_Longest, h5, h7, hg3, cs4]); subst hq
   exact Kr () rfl (.tmp rfl .nil) [] en
 intro h5
 have h10 := not_false h5
 try have hvl := RValid_len (l := l) (by simp only [h5, h10, hg3])
 try have hvk := RValid_ok (l := l) (by simp only [h5, h10, hg3])
 refine KS ?_
 refine Oq Va (KS ?_)
 refine Kl (γ := Nat × Int × Int × Bool × Int) (fun (r12, best_13, sum_14, open__15, i_16) => ⟨[(0, vl la0 lk0 l), (1, vi query), (5, vi best_13), (6, vi sum_14), (7, vb open__15), (8, vi i_16)], [S la0 lk0 l], flqref19_Longest_L0 l query r12 best_13 sum_14 open__15 i_16 = flqref19_Longest_L0 l query (((l.length : Int) - 0).toNat) 0 0 false 0 ∧ r12 = ((l.length : Int) - i_16).toNat ∧ (0 : Int) ≤ i_16 ∧ i_16 ≤ (l.length : Int) ∧ (-9223372036854775808 ≤ best_13 ∧ best_13 ≤ 9223372036854775807) ∧ (-9223372036854775808 ≤ sum_14 ∧ sum_14 ≤ 9223372036854775807) ∧ (-9223372036854775808 ≤ i_16 ∧ i_16 ≤ 9223372036854775807) ∧ (0 ≤ sum_14 ∧ sum_14 ≤ 1073741824 * i_16) ∧ (0 ≤ best_13 ∧ best_13 ≤ 1073741824 * i_16), r12⟩) (((l.length : Int) - 0).toNat, 0, 0, false, 0) [0] ⟨rfl, rfl, (by omega), (by omega), (by omega), (by omega), (by omega), iv0, iv0⟩ ?_
 rintro ⟨r12, best_13, sum_14, open__15, i_16⟩ ⟨hM17, hr18, hi19, hi20, hk21, hk22, hk23, hv24, hv25⟩
 refine JJ_nx fun _ _ hL hA => ?_; dsimp only at hL hA; subst hL hA
 refine Fb 40 0 fun hl26 => ?_
 refine KS ?_
 refine Oq Vm (Oq Vm (Oq (Vlen sl23) (Oq Vlss (KS ?_))))
 refine Kc ?_ ?_
 · intro h27
   have g28 := of_decide_eq_true h27
   have hq := (hvk _ (getD_mem (xs := l) (i := i_16.toNat) (d := default) (by omega))).c
   have hq2 := (hvk _ (getD_mem (xs := l) (i := i_16.toNat) (d := default) (by omega))).s
   obtain ⟨r29, rfl⟩ := scc (n := r12) (by omega)
   refine KS ?_
   refine Oq Vm (Oq Vm (Oq (Vi sl23 0) ?_))
   refine JJ_peek_GTurn i_16.toNat 0 rfl rng fun hb30 hb31 hb32 hb33 => ?_
   unfold i64ok at hb30 hb31 hb32 hb33
   refine Oq (Vfa fo43_0 0) (Oq (VldF sh3 0) (Oq Vm (Oq Vneq (KS ?_))))
   refine Kc ?_ ?_
   · intro h34
     have g35 := ne_of_bne h34
     refine KS ?_
     refine Oq Vm (Oq Vm (Oq Vm (Oq (Vi sl23 1) (Oq (Vfa fo43_3 0) (Oq (VldF sh3 0) (Oq Vadd (Oq Va (KS ?_))))))))
     refine Ke ?_
     refine KS ?_
     refine Oq Vm (Oq Vadd (Oq Va (KS ?_)))
     exact Kg (r29, best_13, (sum_14 + (l.getD i_16.toNat default).Cost), open__15, (i_16 + 1)) [1] ⟨(q3 hM17 (by simp only [flqref19_Longest_L0, h27, h34, cs4])), (by omega), (by omega), (by omega), (by omega), (by omega), (by omega), iv1, iv1⟩
   intro h34
   have g36 := eq_of_bne_false h34
   refine KS ?_
   refine Oq Vm (Oq Vm (Oq (Vi sl23 1) (Oq (Vfa fo43_1 0) (Oq (VldF sh3 0) (Oq Vgtr (KS ?_))))))
   refine Kc ?_ ?_
   · intro h37
     have g38 := of_decide_eq_true h37
     refine KS ?_
     refine Oq Vm (KS ?_)
     refine Kc ?_ ?_
     · intro h39
       refine KS ?_
       refine Oq Vm (Oq Vm (Oq Vmax (Oq Va (KS ?_))))
       refine Oq Va (Oq Va (KS ?_))
       refine Oq Vm (Oq Vadd (Oq Va (KS ?_)))
       exact Kg (r29, (max best_13 sum_14), 0, true, (i_16 + 1)) [1] ⟨(q3 hM17 (by simp only [flqref19_Longest_L0, h27, h34, h37, h39, cs4])), (by omega), (by omega), (by omega), (by omega), (by omega), (by omega), iv1, iv1⟩
     intro h39
     refine KS ?_
     refine Oq Va (Oq Va (KS ?_))
     refine Oq Vm (Oq Vadd (Oq Va (KS ?_)))
     exact Kg (r29, best_13, 0, true, (i_16 + 1)) [1] ⟨(q3 hM17 (by simp only [flqref19_Longest_L0, h27, h34, h37, h39, cs4])), (by omega), (by omega), (by omega), (by omega), (by omega), (by omega), iv1, iv1⟩
   intro h37
   have g42 := of_decide_eq_false h37
   refine KS ?_
   refine Oq Vm (Oq Vadd (Oq Va (KS ?_)))
   exact Kg (r29, best_13, sum_14, open__15, (i_16 + 1)) [1] ⟨(q3 hM17 (by simp only [flqref19_Longest_L0, h27, h34, h37, cs4])), (by omega), (by omega), (by omega), (by omega), (by omega), (by omega), iv1, iv1⟩
 intro h27
 have g43 := of_decide_eq_false h27
 obtain rfl : r12 = 0 := by omega
 refine Ke ?_
 have hR44 := q2 hM17 best_13 (by simp only [flqref19_Longest_L0, h27, cs4])
 refine KS ?_
 refine Oq Vm (Oq Va (KS ?_))
 have hq := q4 hrr best_13 (by simp only [flqref19_Longest, h5, h10, h27, hg3, hR44, cs4]); subst hq
 exact Kr () rfl (.tmp rfl .nil) [] en
theorem fn30 (x : GTurn) (cap0P : Value) (cap0 : Int) (hx_0 : i64ok x.Query) (hx_1 : i64ok x.Quantum) (hx_2 : i64ok x.Steps) (hx_3 : i64ok x.Cost) (hcap0_0 : i64ok cap0) (rr : Int) (hrr : ledger_Between_1 x cap0 = rr) : FT Try.prog 30 #[.agg #[vi x.Query, vi x.Quantum, vi x.Steps, vi x.Cost, vb x.Finished], cap0P] [pv cap0P [vi cap0]] (fun g : Unit => i64ok rr) (fun g => vi rr) (fun g => []) := by
 refine FTi Try.func30 fun w0 M0 F0 => ?_
 unfold i64ok at hx_0 hx_1 hx_2 hx_3 hcap0_0
 refine KS ?_
 refine Oa (Ab [vi x.Query, vi x.Quantum, vi x.Steps, vi x.Cost, vb x.Finished]) fun p1 => Oq Va (KS ?_)
 refine Oq (Vfa fo43_0 0) (Oq (VldF sh3 0) (Oq (Vld sh3 1) (Oq Veql (Oq Vm ?_))))
 refine Js 8 ?_ ?_
 · intro h2
   have g3 := eq_of_beq h2
   refine Oq (Vfa fo43_1 0) (Oq (VldF sh3 0) (Oq Vgtr (Oq Vpt (KS ?_))))
   refine Kc ?_ ?_
   · intro h4
     have g5 := of_decide_eq_true h4
     refine KS ?_
     refine Oq Va (KS ?_)
     have hq := q4 hrr 1 (by simp only [ledger_Between_1, h2, h4, cs4]); subst hq
     exact Kr () rfl (.tmp rfl .nil) [] en
   intro h4
   have g6 := of_decide_eq_false h4
   refine KS ?_
   refine Oq Va (KS ?_)
   have hq := q4 hrr 0 (by simp only [ledger_Between_1, h2, h4, cs4]); subst hq
   exact Kr () rfl (.tmp rfl .nil) [] en
 intro h2
 have g7 := ne_of_beq_false h2
 refine Osk (Osk (Osk (Oq Vpf (KS ?_))))
 refine Kf ?_
 refine KS ?_
 refine Oq Va (KS ?_)
 have hq := q4 hrr 0 (by simp only [ledger_Between_1, h2, cs4]); subst hq
 exact Kr () rfl (.tmp rfl .nil) [] en
theorem fn18 (l : List GTurn) (la0 : Option Addr) (lk0 : Nat) (a : Int) (b : Int) (ha_0 : i64ok a) (hb_0 : i64ok b) (rr : Int) (hrr : ledger_Between l a b = rr) : FT Try.prog 18 #[vl la0 lk0 l, vi a, vi b] [S la0 lk0 l] (fun g : Unit => i64ok rr) (fun g => vi rr) (fun g => []) := by
 refine FTi Try.func18 fun w0 M0 F0 => ?_
 unfold i64ok at ha_0 hb_0
 refine Fb 40 0 fun hl1 => ?_
 refine KS ?_
 refine Oa (Ab [vi b]) fun p2 => Oq Va (KS ?_)
 refine Oq Vm (Oq Vm (Oq (Vf [p2]) ?_))
 refine JJ_ent (Ent.pall [0] rfl rfl) ?_
 refine letv (ledger_greatest l a (fun x0 => ledger_Between_1 x0 b)) fun rv3 hg4 => ?_
 have hc5 := fn28 l la0 lk0 a 30 [p2] (fun x0 => ledger_Between_1 x0 b) [pv p2 [vi b]] pre ca30 (fun x0 hq0 hq1 hq2 hq3 => FT_pall (A1 := []) (fn30 x0 p2 b hq0 hq1 hq2 hq3 pre _ rfl)) (fun _ x _ => Between1_rng x b) rv3 hg4
 refine Oc [2, 0] ca28 hc5 ?_
 rintro - he6
 unfold i64ok at he6
 refine Oq Va (KS ?_)
 have hq := q4 hrr rv3 (by simp only [ledger_Between, hg4, cs4]); subst hq
 exact Kr () rfl (.tmp rfl .nil) [] en
theorem fn19 (l : List GTurn) (la0 : Option Addr) (lk0 : Nat) (a : Int) (b : Int) (ha_0 : i64ok a) (hb_0 : i64ok b) (rr : Int) (hrr : flqref19_Between l a b = rr) : FT Try.prog 19 #[vl la0 lk0 l, vi a, vi b] [S la0 lk0 l] (fun g : Unit => i64ok rr) (fun g => vi rr) (fun g => []) := by
 refine FTi Try.func19 fun w0 M0 F0 => ?_
 unfold i64ok at ha_0 hb_0
 refine Fb 40 0 fun hl1 => ?_
 refine KS ?_
 refine Oq Va (KS ?_)
 refine Oq Va (Oq Va (Oq Va (KS ?_)))
 refine Oq Vm ?_
 refine letv (flqref19_ValidLog l) fun rv2 hg3 => ?_
 have hc4 := fn10 l la0 lk0 rv2 hg3
 refine Oc [0] ca10 hc4 ?_
 rintro - -
 refine Oq Vnot (Oq Vm ?_)
 refine Js 14 ?_ ?_
 · intro h5
   have h7 := not_true h5
   refine Osk (Osk (Osk (Oq Vpt (KS ?_))))
   refine Kt ?_
   refine KS ?_
   refine Oq Va (KS ?_)
   have hq := q4 hrr 0 (by simp only [flqref19_Between, h5, h7, hg3, cs4]); subst hq
   exact Kr () rfl (.tmp rfl .nil) [] en
 intro h5
 have h10 := not_false h5
 try have hvl := RValid_len (l := l) (by simp only [h5, h10, hg3])
 try have hvk := RValid_ok (l := l) (by simp only [h5, h10, hg3])
 refine Oq Vm (Oq Vm (Oq Veql (Oq Vpf (KS ?_))))
 refine Kc ?_ ?_
 · intro h12
   have g13 := eq_of_beq h12
   refine KS ?_
   refine Oq Va (KS ?_)
   have hq := q4 hrr 0 (by simp only [flqref19_Between, h5, h10, h12, hg3, cs4]); subst hq
   exact Kr () rfl (.tmp rfl .nil) [] en
 intro h12
 have g14 := ne_of_beq_false h12
 refine KS ?_
 refine Oq Va (KS ?_)
 refine Kl (γ := Nat × Int × Int × Bool × Int) (fun (r15, best_16, count_17, open__18, i_19) => ⟨[(0, vl la0 lk0 l), (1, vi a), (2, vi b), (7, vi best_16), (8, vi count_17), (9, vb open__18), (10, vi i_19)], [S la0 lk0 l], flqref19_Between_L0 l a b r15 best_16 count_17 open__18 i_19 = flqref19_Between_L0 l a b (((l.length : Int) - 0).toNat) 0 0 false 0 ∧ r15 = ((l.length : Int) - i_19).toNat ∧ (0 : Int) ≤ i_19 ∧ i_19 ≤ (l.length : Int) ∧ (-9223372036854775808 ≤ best_16 ∧ best_16 ≤ 9223372036854775807) ∧ (-9223372036854775808 ≤ count_17 ∧ count_17 ≤ 9223372036854775807) ∧ (-9223372036854775808 ≤ i_19 ∧ i_19 ≤ 9223372036854775807) ∧ (0 ≤ count_17 ∧ count_17 ≤ i_19) ∧ (0 ≤ best_16 ∧ best_16 ≤ i_19), r15⟩) (((l.length : Int) - 0).toNat, 0, 0, false, 0) [0] ⟨rfl, rfl, (by omega), (by omega), (by omega), (by omega), (by omega), iv0, iv0⟩ ?_
 rintro ⟨r15, best_16, count_17, open__18, i_19⟩ ⟨hM20, hr21, hi22, hi23, hk24, hk25, hk26, hv27, hv28⟩
 refine JJ_nx fun _ _ hL hA => ?_; dsimp only at hL hA; subst hL hA
 refine Fb 40 0 fun hl29 => ?_
 refine KS ?_
 refine Oq Vm (Oq Vm (Oq (Vlen sl23) (Oq Vlss (KS ?_))))
 refine Kc ?_ ?_
 · intro h30
   have g31 := of_decide_eq_true h30
   obtain ⟨r32, rfl⟩ := scc (n := r15) (by omega)
   refine KS ?_
   refine Oq Vm (Oq Vm (Oq (Vi sl23 0) ?_))
   refine JJ_peek_GTurn i_19.toNat 0 rfl rng fun hb33 hb34 hb35 hb36 => ?_
   unfold i64ok at hb33 hb34 hb35 hb36
   refine Oq (Vfa fo43_1 0) (Oq (VldF sh3 0) (Oq Veql (KS ?_)))
   refine Kc ?_ ?_
   · intro h37
     have g38 := eq_of_beq h37
     refine Ke ?_
     refine KS ?_
     refine Oq Vm (Oq Vadd (Oq Va (KS ?_)))
     exact Kg (r32, best_16, count_17, open__18, (i_19 + 1)) [1] ⟨(q3 hM20 (by simp only [flqref19_Between_L0, h30, h37, cs4])), (by omega), (by omega), (by omega), (by omega), (by omega), (by omega), iv1, iv1⟩
   intro h37
   have g39 := ne_of_beq_false h37
   refine KS ?_
   refine Oq Vm (Oq Vm (Oq (Vi sl23 1) (Oq (Vfa fo43_0 0) (Oq (VldF sh3 0) (Oq Vm (Oq Veql (KS ?_)))))))
   refine Kc ?_ ?_
   · intro h40
     have g41 := eq_of_beq h40
     refine KS ?_
     refine Oq Vm (Oq Vadd (Oq Va (KS ?_)))
     refine Oq Vm (Oq Vm (Oq (Vi sl23 1) (Oq (Vfa fo43_0 0) (Oq (VldF sh3 0) (Oq Vm (Oq Veql (KS ?_)))))))
     refine Kc ?_ ?_
     · intro h42
       have g43 := eq_of_beq h42
       refine KS ?_
       refine Oq Vm (KS ?_)
       refine Kc ?_ ?_
       · intro h44
         refine KS ?_
         refine Oq Vm (Oq Vm (Oq Vmax (Oq Va (KS ?_))))
         refine Oq Va (Oq Va (KS ?_))
         refine Oq Vm (Oq Vadd (Oq Va (KS ?_)))
         exact Kg (r32, (max best_16 (count_17 + 1)), 0, true, (i_19 + 1)) [1] ⟨(q3 hM20 (by simp only [flqref19_Between_L0, h30, h37, h40, h42, h44, cs4])), (by omega), (by omega), (by omega), (by omega), (by omega), (by omega), iv1, iv1⟩
       intro h44
       refine KS ?_
       refine Oq Va (Oq Va (KS ?_))
       refine Oq Vm (Oq Vadd (Oq Va (KS ?_)))
       exact Kg (r32, best_16, 0, true, (i_19 + 1)) [1] ⟨(q3 hM20 (by simp only [flqref19_Between_L0, h30, h37, h40, h42, h44, cs4])), (by omega), (by omega), (by omega), (by omega), (by omega), (by omega), iv1, iv1⟩
     intro h42
     have g47 := ne_of_beq_false h42
     refine KS ?_
     refine Oq Vm (Oq Vadd (Oq Va (KS ?_)))
     exact Kg (r32, best_16, (count_17 + 1), open__18, (i_19 + 1)) [1] ⟨(q3 hM20 (by simp only [flqref19_Between_L0, h30, h37, h40, h42, cs4])), (by omega), (by omega), (by omega), (by omega), (by omega), (by omega), iv1, iv1⟩
   intro h40
   have g48 := ne_of_beq_false h40
   refine KS ?_
   refine Oq Vm (Oq Vm (Oq (Vi sl23 1) (Oq (Vfa fo43_0 0) (Oq (VldF sh3 0) (Oq Vm (Oq Veql (KS ?_)))))))
   refine Kc ?_ ?_
   · intro h49
     have g50 := eq_of_beq h49
     refine KS ?_
     refine Oq Vm (KS ?_)
     refine Kc ?_ ?_
     · intro h51
       refine KS ?_
       refine Oq Vm (Oq Vm (Oq Vmax (Oq Va (KS ?_))))
       refine Oq Va (Oq Va (KS ?_))
       refine Oq Vm (Oq Vadd (Oq Va (KS ?_)))
       exact Kg (r32, (max best_16 count_17), 0, true, (i_19 + 1)) [1] ⟨(q3 hM20 (by simp only [flqref19_Between_L0, h30, h37, h40, h49, h51, cs4])), (by omega), (by omega), (by omega), (by omega), (by omega), (by omega), iv1, iv1⟩
     intro h51
     refine KS ?_
     refine Oq Va (Oq Va (KS ?_))
     refine Oq Vm (Oq Vadd (Oq Va (KS ?_)))
     exact Kg (r32, best_16, 0, true, (i_19 + 1)) [1] ⟨(q3 hM20 (by simp only [flqref19_Between_L0, h30, h37, h40, h49, h51, cs4])), (by omega), (by omega), (by omega), (by omega), (by omega), (by omega), iv1, iv1⟩
   intro h49
   have g54 := ne_of_beq_false h49
   refine KS ?_
   refine Oq Vm (Oq Vadd (Oq Va (KS ?_)))
   exact Kg (r32, best_16, count_17, open__18, (i_19 + 1)) [1] ⟨(q3 hM20 (by simp only [flqref19_Between_L0, h30, h37, h40, h49, cs4])), (by omega), (by omega), (by omega), (by omega), (by omega), (by omega), iv1, iv1⟩
 intro h30
 have g55 := of_decide_eq_false h30
 obtain rfl : r15 = 0 := by omega
 refine Ke ?_
 have hR56 := q2 hM20 best_16 (by simp only [flqref19_Between_L0, h30, cs4])
 refine KS ?_
 refine Oq Vm (Oq Va (KS ?_))
 have hq := q4 hrr best_16 (by simp only [flqref19_Between, h5, h10, h12, h30, hg3, hR56, cs4]); subst hq
 exact Kr () rfl (.tmp rfl .nil) [] en
theorem fn5 (l : List GTurn) (la0 : Option Addr) (lk0 : Nat) (a : Int) (b : Int) (ha_0 : i64ok a) (hb_0 : i64ok b) (rr : Bool) (hrr : flqlaw23_agrees l a b = rr) : FT Try.prog 5 #[vl la0 lk0 l, vi a, vi b] [S la0 lk0 l] (fun g : Unit => True) (fun g => vb rr) (fun g => []) := by
 refine FTi Try.func5 fun w0 M0 F0 => ?_
 unfold i64ok at ha_0 hb_0
 refine Fb 40 0 fun hl1 => ?_
 refine KS ?_
 refine Oq Va (KS ?_)
 refine Oq Vm ?_
 refine letv (ledger_Valid l) fun rv2 hg3 => ?_
 have hc4 := fn9 l la0 lk0 rv2 hg3
 refine Oc [0] ca9 hc4 ?_
 rintro - -
 refine Oq Vm ?_
 refine letv (flqref19_ValidLog l) fun rv5 hg6 => ?_
 have hc7 := fn10 l la0 lk0 rv5 hg6
 refine Oc [0] ca10 hc7 ?_
 rintro - -
 refine Oq (Veb un4) (Oq Vm ?_)
 refine Js 12 ?_ ?_
 · intro h8
   refine Oq Vm ?_
   refine letv (ledger_Accounts l) fun rv11 hg12 => ?_
   have hc13 := fn12 l la0 lk0 rv11 hg12
   refine Oc [0] ca12 hc13 ?_
   rintro c10 -
   refine Jo 0 ?_; rintro a14 k15 rfl
   refine Fb 32 0 fun hl16 => ?_
   refine Oq Vm ?_
   refine letv (flqref19_Accounts l) fun rv18 hg19 => ?_
   have hc20 := fn13 l la0 lk0 rv18 hg19
   refine Oc [1] ca13 hc20 ?_
   rintro c17 -
   refine Jo 0 ?_; rintro a21 k22 rfl
   refine Fb 32 0 fun hl23 => ?_
   refine letv (flqlaw23_sameAccounts rv11 rv18) fun rv24 hg25 => ?_
   have hc26 := fn11 rv11 a14 k15 rv18 a21 k22 rv24 hg25
   refine Oc [1, 0] ca11 hc26 ?_
   rintro - -
   refine Oq Vpt (Oq Vm ?_)
   refine Js 19 ?_ ?_
   · intro h27
     refine Oq Vm ?_
     refine letv (ledger_Total l) fun rv29 hg30 => ?_
     have hc31 := fn14 l la0 lk0 rv29 hg30
     refine Oc [2] ca14 hc31 ?_
     rintro - ⟨he32, he33, he34, he35⟩
     unfold i64ok at he32 he33 he34 he35
     refine Oq Vm ?_
     refine letv (flqref19_Total l) fun rv36 hg37 => ?_
     have hc38 := fn15 l la0 lk0 rv36 hg37
     refine Oc [2] ca15 hc38 ?_
     rintro - ⟨he39, he40, he41, he42⟩
     unfold i64ok at he39 he40 he41 he42
     refine Oq (VeqA eqi38 (l := [rv29.Query, rv29.Turns, rv29.Steps, rv29.Cost]) (m := [rv36.Query, rv36.Turns, rv36.Steps, rv36.Cost])) (Oq Vpt (Oq Vm ?_))
     refine Js 26 ?_ ?_
     · intro h43
       have g44 := eq_of_beq h43
       refine Oq Vm (Oq Vm ?_)
       refine letv (ledger_Longest l a) fun rv45 hg46 => ?_
       have hc47 := fn16 l la0 lk0 a pre rv45 hg46
       refine Oc [2] ca16 hc47 ?_
       rintro - he48
       unfold i64ok at he48
       refine Oq Vm (Oq Vm ?_)
       refine letv (flqref19_Longest l a) fun rv49 hg50 => ?_
       have hc51 := fn17 l la0 lk0 a pre rv49 hg50
       refine Oc [2] ca17 hc51 ?_
       rintro - he52
       unfold i64ok at he52
       refine Oq Veql (Oq Vpt (Oq Vm ?_))
       refine Js 35 ?_ ?_
       · intro h53
         have g54 := eq_of_beq h53
         refine Oq Vm (Oq Vm (Oq Vm ?_))
         refine letv (ledger_Between l a b) fun rv55 hg56 => ?_
         have hc57 := fn18 l la0 lk0 a b pre pre rv55 hg56
         refine Oc [2] ca18 hc57 ?_
         rintro - he58
         unfold i64ok at he58
         refine Oq Vm (Oq Vm (Oq Vm ?_))
         refine letv (flqref19_Between l a b) fun rv59 hg60 => ?_
         have hc61 := fn19 l la0 lk0 a b pre pre rv59 hg60
         refine Oc [2] ca19 hc61 ?_
         rintro - he62
         unfold i64ok at he62
         refine Oq Veql (Oq Vpt (Oq Va (KS ?_)))
         have hq := q4 hrr (rv55 == rv59) (by simp only [flqlaw23_agrees, h8, h27, h43, h53, hg3, hg6, hg12, hg19, hg25, hg30, hg37, hg46, hg50, hg56, hg60, cs4]); subst hq
         exact Kr () rfl (.tmp rfl .nil) [] trivial
       intro h53
       have g63 := ne_of_beq_false h53
       refine Osk (Osk (Osk (Osk (Osk (Osk (Osk (Osk (Osk (Oq Vpf ?_)))))))))
       refine Oq Va (KS ?_)
       have hq := q4 hrr false (by simp only [flqlaw23_agrees, h8, h27, h43, h53, hg3, hg6, hg12, hg19, hg25, hg30, hg37, hg46, hg50, cs4]); subst hq
       exact Kr () rfl (.tmp rfl .nil) [] trivial
     intro h43
     have g64 := ne_of_beq_false h43
     refine Osk (Osk (Osk (Osk (Osk (Osk (Osk (Oq Vpf (Oq Vm (Osk ?_)))))))))
     refine Osk (Osk (Osk (Osk (Osk (Osk (Osk (Osk (Oq Vpf (Oq Va ?_)))))))))
     refine KS ?_
     have hq := q4 hrr false (by simp only [flqlaw23_agrees, h8, h27, h43, hg3, hg6, hg12, hg19, hg25, hg30, hg37, cs4]); subst hq
     exact Kr () rfl (.tmp rfl .nil) [] trivial
   intro h27
   refine Osk (Osk (Osk (Osk (Osk (Oq Vpf (Oq Vm (Osk (Osk (Osk ?_)))))))))
   refine Osk (Osk (Osk (Osk (Oq Vpf (Oq Vm (Osk (Osk (Osk (Osk ?_)))))))))
   refine Osk (Osk (Osk (Osk (Osk (Oq Vpf (Oq Va (KS ?_)))))))
   have hq := q4 hrr false (by simp only [flqlaw23_agrees, h8, h27, hg3, hg6, hg12, hg19, hg25, cs4]); subst hq
   exact Kr () rfl (.tmp rfl .nil) [] trivial
 intro h8
 refine Osk (Osk (Osk (Osk (Osk (Oq Vpf (Oq Vm (Osk (Osk (Osk ?_)))))))))
 refine Osk (Osk (Oq Vpf (Oq Vm (Osk (Osk (Osk (Osk (Osk (Osk ?_)))))))))
 refine Osk (Oq Vpf (Oq Vm (Osk (Osk (Osk (Osk (Osk (Osk (Osk ?_)))))))))
 refine Osk (Osk (Oq Vpf (Oq Va (KS ?_))))
 have hq := q4 hrr false (by simp only [flqlaw23_agrees, h8, hg3, hg6, cs4]); subst hq
 exact Kr () rfl (.tmp rfl .nil) [] trivial
theorem fn20 (v : Int) (n : Int) (hv_0 : i64ok v) (hn_0 : i64ok n) (hn1 : 1 ≤ n) (rr : Int) (hrr : flqgen_Mod v n = rr) : FT Try.prog 20 #[vi v, vi n] [] (fun g : Unit => i64ok rr ∧ (0 ≤ rr ∧ rr < n)) (fun g => vi rr) (fun g => []) := by
 refine FTi Try.func20 fun w0 M0 F0 => ?_
 unfold i64ok at hv_0 hn_0
 have hm := mod_range v n (by omega)
 refine KS ?_
 refine Oq Va (KS ?_)
 refine Oq Vm (Oq (VcU un3 un54) (Oq Vm (Oq (VcU un3 un54) (Oq (VremU (ofInt_ne n (by omega))) (Oq (VcN un54 un3 (h := (mod_le v n (by omega)))) (Oq Va (KS ?_)))))))
 have hq := q4 hrr (((BitVec.ofInt 64 v) % (BitVec.ofInt 64 n)).toNat : Int) (by simp only [flqgen_Mod, cs4]); subst hq
 exact Kr () rfl (.tmp rfl .nil) [] en
theorem fn7 (tP : Value) (ta : Option Addr) (tk : Nat) (tT : List Int) (tI : Int) (n : Int) (htI : 0 ≤ tI ∧ tI ≤ (tT.length : Int)) (hn_0 : i64ok n) (rr : Int × Int) (hrr : Tape_Next tT tI n = rr) : FT Try.prog 7 #[tP, vi n] [Cl tP [vl ta tk tT, vi tI], S ta tk tT] (fun g : Unit => i64ok rr.1 ∧ (0 ≤ rr.2 ∧ rr.2 ≤ (tT.length : Int)) ∧ (0 ≤ rr.1 ∧ (rr.1 < n ∨ rr.1 = 0))) (fun g => vi rr.1) (fun g => [Cl tP [vl ta tk tT, vi rr.2]]) := by
 refine FTi Try.func7 fun w0 M0 F0 => ?_
 unfold i64ok at hn_0
 refine Fb 8 1 fun hl1 => ?_
 refine Fo 1 fun ho2 => ?_
 refine KS ?_
 refine Oq Va (KS ?_)
 refine Jp 0 fun hp3 => ?_
 refine Kq [0, 1, 3, 7, 15, 31, 63, 7, 135, 391, 903, 1927, 4095, 8191] fmix ?_
 refine Qv [] Vm (Qv [] Vleq ?_)
 refine bool_split (decide (n ≤ 1)) ?_ ?_
 · intro h4
   have g5 := of_decide_eq_true h4
   refine Qb h4 [] Vm (Qs (Qs (Qs (Qs (Qs (Qs (Qs (Qs (Qs ?_)))))))))
   refine Qs (Qv [] Vpt ?_)
   refine Qn ⟨by kernel_rfl, ?_⟩
   refine Kt ?_
   refine KS ?_
   refine Oq Va (KS ?_)
   have hq := q4 hrr (0, tI) (by simp only [Tape_Next, h4, cs4]); subst hq
   exact Kr () rfl (.tmp rfl .nil) [1] en
 intro h4
 have g6 := of_decide_eq_false h4
 refine Qb h4 [] Vm (Qv [] Vm (Qv [0] (Vn 0) (Qv [0] (Vfa fo32_1 0) (Qv [1] (VldF sh3 0) (Qv [] Vm (Qv [0] (Vn 0) (Qv [0] (Vfa fo32_0 0) (Qv [1] (VldF sh22 0) (Qv [] (Vlen sl22) ?_)))))))))
 refine Qv [] Vgeq (Qv [] Vpf ?_)
 refine Qn ⟨by kernel_rfl, ?_⟩
 refine Kc ?_ ?_
 · intro h7
   have g8 := of_decide_eq_true h7
   refine KS ?_
   refine Oq Va (KS ?_)
   have hq := q4 hrr (0, tI) (by simp only [Tape_Next, h4, h7, cs4]); subst hq
   exact Kr () rfl (.tmp rfl .nil) [1] en
 intro h7
 have g9 := of_decide_eq_false h7
 refine KS ?_
 refine Oq Vm (Oq (Vn 1) (Oq (Vfa fo32_1 1) (Oq (VldF sh3 1) (Oq Vadd (Oq (Vn 1) (Oq (Vfa fo32_1 1) (Ost (SclF [1] sh3 [vl ta tk tT, vi (tI + 1)]) (KS ?_))))))))
 refine JK_drawK [0, 1, 3, 7, 0, 16, 48, 112, 240, 511, 1023, 0, 4095, 8191] fmix ?_
 refine Dv [] Vm (Dv [1] (Vn 0) (Dv [1] (Vfa fo32_0 0) (Dv [0] (VldF sh22 0) (Dv [] Vm (Dv [1] (Vn 0) (Dv [1] (Vfa fo32_1 0) (Dv [0] (VldF sh3 0) (Dv [] Vsub (Dv [2] (Vi sl22 0) ?_)))))))))
 have hb10 := ok1 (i := (((tI + 1) - 1) : Int).toNat) ho2 rng
 refine Dv [2] (VldI sh3 0) (Dv [] Vm ?_)
 refine letv (flqgen_Mod (tT.getD (((tI + 1) - 1) : Int).toNat 0) n) fun rv11 hg12 => ?_
 refine Dx [] [] [0] (fun G => vi rv11) [fun G => SP.fact (i64ok rv11 ∧ (0 ≤ rv11 ∧ rv11 < n))] (fun G => xC [] ca20 (fn20 ((tT.getD (((tI + 1) - 1) : Int).toNat 0)) n pre pre pre rv11 hg12)) (Dv [] Va ?_)
 refine Dn ⟨by kernel_rfl, fun G => ?_⟩
 refine Jw2 [(4, vi rv11)] [0, 1, 2] [SP.fact (i64ok rv11 ∧ (0 ≤ rv11 ∧ rv11 < n))] ?_
 refine Jf 3 rfl ?_; rintro ⟨he13, he14⟩
 unfold i64ok at he13
 refine Jk [0, 1] ?_
 have hq := q4 hrr (rv11, (tI + 1)) (by simp only [Tape_Next, h4, h7, hg12, cs4]); subst hq
 exact Kr () rfl (.tmp rfl .nil) [0] en
theorem fn6 (kP : Value) (ka : Option Addr) (kk : Nat) (kT : List Int) (kI : Int) (hkI : 0 ≤ kI ∧ kI ≤ (kT.length : Int)) (rr : List GTurn × Int) (hrr : flqlaw23_log kT kI = rr) : FT Try.prog 6 #[kP] [Cl kP [vl ka kk kT, vi kI], S ka kk kT] (fun g : Value => (0 ≤ rr.2 ∧ rr.2 ≤ (kT.length : Int)) ∧ (rr.1.length ≤ 13)) (fun g => g) (fun g => [sl g rr.1, Cl kP [vl ka kk kT, vi rr.2]]) := by
 refine FTi Try.func6 fun w0 M0 F0 => ?_
 refine Fb 8 1 fun hl1 => ?_
 refine Fo 1 fun ho2 => ?_
 refine KS ?_
 refine Oq Va (KS ?_)
 refine Oq Va (KS ?_)
 refine Oq Vm ?_
 refine letv (Tape_Next kT kI 14) fun rv3 hg4 => ?_
 have hc5 := fn7 kP ka kk kT kI 14 pre pre rv3 hg4
 refine Oc [0, 0] ca7 hc5 ?_
 rintro - ⟨he6, he7, he8⟩
 unfold i64ok at he6
 skip
 refine Oq Va (KS ?_)
 refine Jl [] (Ent.osNil (α := GTurn)) ?_
 refine Kl (γ := Nat × Int × List GTurn × Int × Option Addr × Nat) (fun (r9, ti_10, l_11, i_12, a13, k14) => ⟨[(0, kP), (3, vl a13 k14 l_11), (4, vi i_12)], [O a13 k14 l_11, Cl kP [vl ka kk kT, vi ti_10], S ka kk kT], flqlaw23_log_L0 kT r9 ti_10 l_11 i_12 = flqlaw23_log_L0 kT (rv3.1.toNat) rv3.2 [] rv3.1 ∧ r9 = i_12.toNat ∧ i_12 ≤ (rv3.1 : Int) ∧ (-9223372036854775808 ≤ ti_10 ∧ ti_10 ≤ 9223372036854775807) ∧ (0 ≤ ti_10 ∧ ti_10 ≤ (kT.length : Int)) ∧ (-9223372036854775808 ≤ i_12 ∧ i_12 ≤ 9223372036854775807) ∧ ((l_11.length : Int) + i_12 ≤ 13 ∧ 0 ≤ i_12), r9⟩) (rv3.1.toNat, rv3.2, [], rv3.1, none, 0) [0, 0, 0] ⟨rfl, rfl, (by omega), (by omega), (by omega), (by omega), iv0⟩ ?_
 rintro ⟨r9, ti_10, l_11, i_12, a13, k14⟩ ⟨hM15, hr16, hi17, hk18, ht19, hk20, hv21⟩
 refine JJ_nx fun _ _ hL hA => ?_; dsimp only at hL hA; subst hL hA
 refine Fb 40 0 fun hl22 => ?_
 refine Fb 8 2 fun hl23 => ?_
 refine Fo 2 fun ho24 => ?_
 refine KS ?_
 refine Oq Vm (Oq Vgtr (KS ?_))
 refine Kc ?_ ?_
 · intro h25
   have g26 := of_decide_eq_true h25
   obtain ⟨r27, rfl⟩ := scc (n := r9) (by omega)
   refine KS ?_
   refine Oq Vm ?_
   refine letv (Tape_Next kT ti_10 5) fun rv28 hg29 => ?_
   have hc30 := fn7 kP ka kk kT ti_10 5 pre pre rv28 hg29
   refine Oc [1, 1] ca7 hc30 ?_
   rintro - ⟨he31, he32, he33⟩
   unfold i64ok at he31
   skip
   refine Oq Va (KS ?_)
   refine Oq Vm ?_
   refine letv (Tape_Next kT rv28.2 4) fun rv34 hg35 => ?_
   have hc36 := fn7 kP ka kk kT rv28.2 4 pre pre rv34 hg35
   refine Oc [0, 1] ca7 hc36 ?_
   rintro - ⟨he37, he38, he39⟩
   unfold i64ok at he37
   skip
   refine Oq Vm ?_
   refine letv (Tape_Next kT rv34.2 3) fun rv40 hg41 => ?_
   have hc42 := fn7 kP ka kk kT rv34.2 3 pre pre rv40 hg41
   refine Oc [0, 1] ca7 hc42 ?_
   rintro - ⟨he43, he44, he45⟩
   unfold i64ok at he43
   skip
   refine Oq Vm ?_
   refine letv (Tape_Next kT rv40.2 30) fun rv46 hg47 => ?_
   have hc48 := fn7 kP ka kk kT rv40.2 30 pre pre rv46 hg47
   refine Oc [0, 1] ca7 hc48 ?_
   rintro - ⟨he49, he50, he51⟩
   unfold i64ok at he49
   have hmq := mul_c (a := rv40.1) (b := rv46.1) (by omega) (by omega)
   refine Oq (Vmul (h := (by first | (unfold i64ok; omega) | exact mul_b (by omega) (by omega)))) (Oq Vm (Oq Vm (Oq Vm (Oq Vm ?_))))
   refine Oq (Vmul (h := (by first | (unfold i64ok; omega) | exact mul_b (by omega) (by omega)))) (Oq Vadd ?_)
   refine letv (Tape_Next kT rv46.2 ((7 * rv28.1) + 1)) fun rv52 hg53 => ?_
   have hc54 := fn7 kP ka kk kT rv46.2 (((7 * rv28.1) + 1)) pre pre rv52 hg53
   refine Oc [0, 1] ca7 hc54 ?_
   rintro - ⟨he55, he56, he57⟩
   unfold i64ok at he55
   skip
   refine Oq Vadd (Oq Vm ?_)
   refine letv (Tape_Next kT rv52.2 9) fun rv58 hg59 => ?_
   have hc60 := fn7 kP ka kk kT rv52.2 9 pre pre rv58 hg59
   refine Oc [0, 1] ca7 hc60 ?_
   rintro - ⟨he61, he62, he63⟩
   unfold i64ok at he61
   skip
   refine Oq Veql (Oq (Vbd st43 [vi rv34.1, vi (rv40.1 * rv46.1), vi rv28.1, vi (rv28.1 + rv52.1), vb (rv58.1 == 8)]) (Oa (Al ze43 [vi 0, vi 0, vi 0, vi 0, vb false]) fun p64 => Ost (Scl [0] sh43 [vi rv34.1, vi (rv40.1 * rv46.1), vi rv28.1, vi (rv28.1 + rv52.1), vb (rv58.1 == 8)]) (KS ?_)))
   refine Oq Vm ?_
   refine letv (Tape_Next kT rv58.2 40) fun rv65 hg66 => ?_
   have hc67 := fn7 kP ka kk kT rv58.2 40 pre pre rv65 hg66
   refine Oc [1, 2] ca7 hc67 ?_
   rintro - ⟨he68, he69, he70⟩
   unfold i64ok at he68
   skip
   refine KS ?_
   refine Oq Veql (Oq Va (KS ?_))
   refine Kc ?_ ?_
   · intro h71
     have g72 := eq_of_beq h71
     refine KS ?_
     refine Oq Vm (Oq Vmul (Oq Vadd (Oq (Vfa fo43_3 1) (Ost (SclF [1] sh3 [vi rv34.1, vi (rv40.1 * rv46.1), vi rv28.1, vi ((9 * rv28.1) + 1), vb (rv58.1 == 8)]) (KS ?_)))))
     refine Oq Vm (Oq (VldA sh43 0) (Oa (AsV sl23 sz23 [.agg #[vi rv34.1, vi (rv40.1 * rv46.1), vi rv28.1, vi ((9 * rv28.1) + 1), vb (rv58.1 == 8)]] [vi rv34.1, vi (rv40.1 * rv46.1), vi rv28.1, vi ((9 * rv28.1) + 1), vb (rv58.1 == 8)]) fun c73 => ?_))
     refine Jo 0 ?_; rintro a74 k75 rfl
     refine Jl [0] (Ent.cr1 (α := GTurn) (A := []) _ (GTurn.mk rv34.1 (rv40.1 * rv46.1) rv28.1 ((9 * rv28.1) + 1) (rv58.1 == 8)) _ (Nat.le_of_ble_eq_true rfl) (fun h => ⟨rfl, (by unfold i64ok; first | omega | (dsimp only; omega)), (by unfold i64ok; first | omega | (dsimp only; omega)), (by unfold i64ok; first | omega | (dsimp only; omega)), (by unfold i64ok; first | omega | (dsimp only; omega))⟩)) ?_
     refine Oa (ApO [3, 0] sl23 sl23 sz23) fun c76 => ?_
     refine Jo 0 ?_; rintro a77 k78 rfl
     refine Fb 40 0 fun hl79 => ?_
     have hn80 := la l_11 ([(GTurn.mk rv34.1 (rv40.1 * rv46.1) rv28.1 ((9 * rv28.1) + 1) (rv58.1 == 8))] : List GTurn)
     refine Oq Va (KS ?_)
     refine Oq Vm (Oq Vsub (Oq Va (KS ?_)))
     exact Kg (r27, rv65.2, (l_11 ++ [(GTurn.mk rv34.1 (rv40.1 * rv46.1) rv28.1 ((9 * rv28.1) + 1) (rv58.1 == 8))]), (i_12 - 1), a77, k78) [0, 1, 1] ⟨(q3 hM15 (by simp only [flqlaw23_log_L0, h25, h71, hg29, hg35, hg41, hg47, hg53, hg59, hg66, cs4])), (by omega), (by omega), (by omega), (by omega), (by omega), iv1⟩
   intro h71
   have g81 := ne_of_beq_false h71
   refine KS ?_
   refine Oq Veql (Oq Va (KS ?_))
   refine Kc ?_ ?_
   · intro h82
     have g83 := eq_of_beq h82
     refine KS ?_
     refine Oq (Vfa fo43_2 1) (Ost (SclF [1] sh3 [vi rv34.1, vi (rv40.1 * rv46.1), vi (-1), vi (rv28.1 + rv52.1), vb (rv58.1 == 8)]) (KS ?_))
     refine Oq Vm (Oq (VldA sh43 0) (Oa (AsV sl23 sz23 [.agg #[vi rv34.1, vi (rv40.1 * rv46.1), vi (-1), vi (rv28.1 + rv52.1), vb (rv58.1 == 8)]] [vi rv34.1, vi (rv40.1 * rv46.1), vi (-1), vi (rv28.1 + rv52.1), vb (rv58.1 == 8)]) fun c84 => ?_))
     refine Jo 0 ?_; rintro a85 k86 rfl
     refine Jl [0] (Ent.cr1 (α := GTurn) (A := []) _ (GTurn.mk rv34.1 (rv40.1 * rv46.1) (-1) (rv28.1 + rv52.1) (rv58.1 == 8)) _ (Nat.le_of_ble_eq_true rfl) (fun h => ⟨rfl, (by unfold i64ok; first | omega | (dsimp only; omega)), (by unfold i64ok; first | omega | (dsimp only; omega)), (by unfold i64ok; first | omega | (dsimp only; omega)), (by unfold i64ok; first | omega | (dsimp only; omega))⟩)) ?_
     refine Oa (ApO [3, 0] sl23 sl23 sz23) fun c87 => ?_
     refine Jo 0 ?_; rintro a88 k89 rfl
     refine Fb 40 0 fun hl90 => ?_
     have hn91 := la l_11 ([(GTurn.mk rv34.1 (rv40.1 * rv46.1) (-1) (rv28.1 + rv52.1) (rv58.1 == 8))] : List GTurn)
     refine Oq Va (KS ?_)
     refine Oq Vm (Oq Vsub (Oq Va (KS ?_)))
     exact Kg (r27, rv65.2, (l_11 ++ [(GTurn.mk rv34.1 (rv40.1 * rv46.1) (-1) (rv28.1 + rv52.1) (rv58.1 == 8))]), (i_12 - 1), a88, k89) [0, 1, 1] ⟨(q3 hM15 (by simp only [flqlaw23_log_L0, h25, h71, h82, hg29, hg35, hg41, hg47, hg53, hg59, hg66, cs4])), (by omega), (by omega), (by omega), (by omega), (by omega), iv1⟩
   intro h82
   have g92 := ne_of_beq_false h82
   refine KS ?_
   refine Oq Veql (Oq Va (KS ?_))
   refine Kc ?_ ?_
   · intro h93
     have g94 := eq_of_beq h93
     refine KS ?_
     refine Oq (Vfa fo43_1 1) (Ost (SclF [1] sh3 [vi rv34.1, vi 65, vi rv28.1, vi (rv28.1 + rv52.1), vb (rv58.1 == 8)]) (KS ?_))
     refine Oq Vm (Oq (VldA sh43 0) (Oa (AsV sl23 sz23 [.agg #[vi rv34.1, vi 65, vi rv28.1, vi (rv28.1 + rv52.1), vb (rv58.1 == 8)]] [vi rv34.1, vi 65, vi rv28.1, vi (rv28.1 + rv52.1), vb (rv58.1 == 8)]) fun c95 => ?_))
     refine Jo 0 ?_; rintro a96 k97 rfl
     refine Jl [0] (Ent.cr1 (α := GTurn) (A := []) _ (GTurn.mk rv34.1 65 rv28.1 (rv28.1 + rv52.1) (rv58.1 == 8)) _ (Nat.le_of_ble_eq_true rfl) (fun h => ⟨rfl, (by unfold i64ok; first | omega | (dsimp only; omega)), (by unfold i64ok; first | omega | (dsimp only; omega)), (by unfold i64ok; first | omega | (dsimp only; omega)), (by unfold i64ok; first | omega | (dsimp only; omega))⟩)) ?_
     refine Oa (ApO [3, 0] sl23 sl23 sz23) fun c98 => ?_
     refine Jo 0 ?_; rintro a99 k100 rfl
     refine Fb 40 0 fun hl101 => ?_
     have hn102 := la l_11 ([(GTurn.mk rv34.1 65 rv28.1 (rv28.1 + rv52.1) (rv58.1 == 8))] : List GTurn)
     refine Oq Va (KS ?_)
     refine Oq Vm (Oq Vsub (Oq Va (KS ?_)))
     exact Kg (r27, rv65.2, (l_11 ++ [(GTurn.mk rv34.1 65 rv28.1 (rv28.1 + rv52.1) (rv58.1 == 8))]), (i_12 - 1), a99, k100) [0, 1, 1] ⟨(q3 hM15 (by simp only [flqlaw23_log_L0, h25, h71, h82, h93, hg29, hg35, hg41, hg47, hg53, hg59, hg66, cs4])), (by omega), (by omega), (by omega), (by omega), (by omega), iv1⟩
   intro h93
   have g103 := ne_of_beq_false h93
   refine KS ?_
   refine Oq Veql (Oq Va (KS ?_))
   refine Kc ?_ ?_
   · intro h104
     have g105 := eq_of_beq h104
     refine KS ?_
     refine Oq (Vfa fo43_2 1) (Ost (SclF [1] sh3 [vi rv34.1, vi (rv40.1 * rv46.1), vi 1073741824, vi (rv28.1 + rv52.1), vb (rv58.1 == 8)]) (Oq (Vfa fo43_3 0) (Ost (SclF [0] sh3 [vi rv34.1, vi (rv40.1 * rv46.1), vi 1073741824, vi 1073741824, vb (rv58.1 == 8)]) (KS ?_))))
     refine Oq Vm (Oq (VldA sh43 0) (Oa (AsV sl23 sz23 [.agg #[vi rv34.1, vi (rv40.1 * rv46.1), vi 1073741824, vi 1073741824, vb (rv58.1 == 8)]] [vi rv34.1, vi (rv40.1 * rv46.1), vi 1073741824, vi 1073741824, vb (rv58.1 == 8)]) fun c106 => ?_))
     refine Jo 0 ?_; rintro a107 k108 rfl
     refine Jl [0] (Ent.cr1 (α := GTurn) (A := []) _ (GTurn.mk rv34.1 (rv40.1 * rv46.1) 1073741824 1073741824 (rv58.1 == 8)) _ (Nat.le_of_ble_eq_true rfl) (fun h => ⟨rfl, (by unfold i64ok; first | omega | (dsimp only; omega)), (by unfold i64ok; first | omega | (dsimp only; omega)), (by unfold i64ok; first | omega | (dsimp only; omega)), (by unfold i64ok; first | omega | (dsimp only; omega))⟩)) ?_
     refine Oa (ApO [3, 0] sl23 sl23 sz23) fun c109 => ?_
     refine Jo 0 ?_; rintro a110 k111 rfl
     refine Fb 40 0 fun hl112 => ?_
     have hn113 := la l_11 ([(GTurn.mk rv34.1 (rv40.1 * rv46.1) 1073741824 1073741824 (rv58.1 == 8))] : List GTurn)
     refine Oq Va (KS ?_)
     refine Oq Vm (Oq Vsub (Oq Va (KS ?_)))
     exact Kg (r27, rv65.2, (l_11 ++ [(GTurn.mk rv34.1 (rv40.1 * rv46.1) 1073741824 1073741824 (rv58.1 == 8))]), (i_12 - 1), a110, k111) [0, 1, 1] ⟨(q3 hM15 (by simp only [flqlaw23_log_L0, h25, h71, h82, h93, h104, hg29, hg35, hg41, hg47, hg53, hg59, hg66, cs4])), (by omega), (by omega), (by omega), (by omega), (by omega), iv1⟩
   intro h104
   have g114 := ne_of_beq_false h104
   refine KS ?_
   refine Oq Vm (Oq (VldA sh43 1) (Oa (AsV sl23 sz23 [.agg #[vi rv34.1, vi (rv40.1 * rv46.1), vi rv28.1, vi (rv28.1 + rv52.1), vb (rv58.1 == 8)]] [vi rv34.1, vi (rv40.1 * rv46.1), vi rv28.1, vi (rv28.1 + rv52.1), vb (rv58.1 == 8)]) fun c115 => ?_))
   refine Jo 0 ?_; rintro a116 k117 rfl
   refine Jl [0] (Ent.cr1 (α := GTurn) (A := []) _ (GTurn.mk rv34.1 (rv40.1 * rv46.1) rv28.1 (rv28.1 + rv52.1) (rv58.1 == 8)) _ (Nat.le_of_ble_eq_true rfl) (fun h => ⟨rfl, (by unfold i64ok; first | omega | (dsimp only; omega)), (by unfold i64ok; first | omega | (dsimp only; omega)), (by unfold i64ok; first | omega | (dsimp only; omega)), (by unfold i64ok; first | omega | (dsimp only; omega))⟩)) ?_
   refine Oa (ApO [3, 0] sl23 sl23 sz23) fun c118 => ?_
   refine Jo 0 ?_; rintro a119 k120 rfl
   refine Fb 40 0 fun hl121 => ?_
   have hn122 := la l_11 ([(GTurn.mk rv34.1 (rv40.1 * rv46.1) rv28.1 (rv28.1 + rv52.1) (rv58.1 == 8))] : List GTurn)
   refine Oq Va (KS ?_)
   refine Oq Vm (Oq Vsub (Oq Va (KS ?_)))
   exact Kg (r27, rv65.2, (l_11 ++ [(GTurn.mk rv34.1 (rv40.1 * rv46.1) rv28.1 (rv28.1 + rv52.1) (rv58.1 == 8))]), (i_12 - 1), a119, k120) [0, 0, 1] ⟨(q3 hM15 (by simp only [flqlaw23_log_L0, h25, h71, h82, h93, h104, hg29, hg35, hg41, hg47, hg53, hg59, hg66, cs4])), (by omega), (by omega), (by omega), (by omega), (by omega), iv1⟩
 intro h25
 have g123 := of_decide_eq_false h25
 obtain rfl : r9 = 0 := by omega
 refine Ke ?_
 have hR124 := q2 hM15 (ti_10, l_11) (by simp only [flqlaw23_log_L0, h25, cs4])
 refine KS ?_
 refine Oq Vm (Oq Va (KS ?_))
 refine Jl [0] (Ent.freeze _ _) ?_
 have hq := q4 hrr (l_11, ti_10) (by simp only [flqlaw23_log, h25, hg4, hR124, cs4]); subst hq
 exact Kr (vl a13 k14 l_11) rfl (.tmp rfl .nil) [0, 1] en
theorem fn8  (rr : Bool) (hrr : flqlaw23_sane = rr) : FT Try.prog 8 #[] [] (fun g : Unit => True) (fun g => vb rr) (fun g => []) := by
 refine FTi Try.func8 fun w0 M0 F0 => ?_
 refine KS ?_
 refine Oq Va (KS ?_)
 refine Oq (Vbd st43 [vi 1, vi 4, vi 2, vi 5, vb false]) (Oq (Vbd st43 [vi 2, vi 4, vi 1, vi 1, vb false]) (Oq (Vbd st43 [vi 1, vi 0, vi 1, vi 1, vb true]) (Oa (AsV sl23 sz23 [.agg #[vi 1, vi 4, vi 2, vi 5, vb false], .agg #[vi 2, vi 4, vi 1, vi 1, vb false], .agg #[vi 1, vi 0, vi 1, vi 1, vb true]] [vi 1, vi 4, vi 2, vi 5, vb false, vi 2, vi 4, vi 1, vi 1, vb false, vi 1, vi 0, vi 1, vi 1, vb true]) fun c1 => ?_)))
 refine Jo 0 ?_; rintro a2 k3 rfl
 refine Oq Va (KS ?_)
 refine Oq (Vbd st43 [vi 1, vi 4, vi 0, vi 0, vb false]) (Oq (Vbd st43 [vi 2, vi 4, vi 1, vi 5, vb false]) (Oq (Vbd st43 [vi 1, vi 4, vi 1, vi 1, vb false]) (Oa (AsV sl23 sz23 [.agg #[vi 1, vi 4, vi 0, vi 0, vb false], .agg #[vi 2, vi 4, vi 1, vi 5, vb false], .agg #[vi 1, vi 4, vi 1, vi 1, vb false]] [vi 1, vi 4, vi 0, vi 0, vb false, vi 2, vi 4, vi 1, vi 5, vb false, vi 1, vi 4, vi 1, vi 1, vb false]) fun c4 => ?_)))
 refine Jo 0 ?_; rintro a5 k6 rfl
 refine Oq Va (KS ?_)
 refine Oq Vm ?_
 refine Jl [1] (Ent.crOs (α := GTurn) (A := []) _ ([(GTurn.mk 1 4 2 5 false), (GTurn.mk 2 4 1 1 false), (GTurn.mk 1 0 1 1 true)] : List GTurn) _ (Nat.le_of_ble_eq_true rfl) (fun h => ⟨[vi 1, vi 4, vi 2, vi 5, vb false], [vi 2, vi 4, vi 1, vi 1, vb false, vi 1, vi 0, vi 1, vi 1, vb true], rfl, (fun h => ⟨rfl, (by unfold i64ok; first | omega | (dsimp only; omega)), (by unfold i64ok; first | omega | (dsimp only; omega)), (by unfold i64ok; first | omega | (dsimp only; omega)), (by unfold i64ok; first | omega | (dsimp only; omega))⟩) h, ⟨[vi 2, vi 4, vi 1, vi 1, vb false], [vi 1, vi 0, vi 1, vi 1, vb true], rfl, (fun h => ⟨rfl, (by unfold i64ok; first | omega | (dsimp only; omega)), (by unfold i64ok; first | omega | (dsimp only; omega)), (by unfold i64ok; first | omega | (dsimp only; omega)), (by unfold i64ok; first | omega | (dsimp only; omega))⟩) h, ⟨[vi 1, vi 0, vi 1, vi 1, vb true], [], rfl, (fun h => ⟨rfl, (by unfold i64ok; first | omega | (dsimp only; omega)), (by unfold i64ok; first | omega | (dsimp only; omega)), (by unfold i64ok; first | omega | (dsimp only; omega)), (by unfold i64ok; first | omega | (dsimp only; omega))⟩) h, rfl⟩⟩⟩)) ?_
 refine Jl [0] (Ent.freeze _ _) ?_
 refine letv (ledger_Accounts [(GTurn.mk 1 4 2 5 false), (GTurn.mk 2 4 1 1 false), (GTurn.mk 1 0 1 1 true)]) fun rv8 hg9 => ?_
 have hc10 := fn12 ([(GTurn.mk 1 4 2 5 false), (GTurn.mk 2 4 1 1 false), (GTurn.mk 1 0 1 1 true)]) a2 k3 rv8 hg9
 refine Oc [0] ca12 hc10 ?_
 rintro c7 -
 refine Jo 0 ?_; rintro a11 k12 rfl
 refine Fb 32 0 fun hl13 => ?_
 refine Oq (Vbd st38 [vi 1, vi 1, vi 3, vi 6]) (Oq (Vbd st38 [vi 2, vi 1, vi 1, vi 1]) (Oa (AsV sl35 sz35 [.agg #[vi 1, vi 1, vi 3, vi 6], .agg #[vi 2, vi 1, vi 1, vi 1]] [vi 1, vi 1, vi 3, vi 6, vi 2, vi 1, vi 1, vi 1]) fun c14 => ?_))
 refine Jo 0 ?_; rintro a15 k16 rfl
 refine Jl [0] (Ent.crOs (α := GAccount) (A := []) _ ([(GAccount.mk 1 1 3 6), (GAccount.mk 2 1 1 1)] : List GAccount) _ (Nat.le_of_ble_eq_true rfl) (fun h => ⟨[vi 1, vi 1, vi 3, vi 6], [vi 2, vi 1, vi 1, vi 1], rfl, (fun h => ⟨rfl, (by unfold i64ok; first | omega | (dsimp only; omega)), (by unfold i64ok; first | omega | (dsimp only; omega)), (by unfold i64ok; first | omega | (dsimp only; omega)), (by unfold i64ok; first | omega | (dsimp only; omega))⟩) h, ⟨[vi 2, vi 1, vi 1, vi 1], [], rfl, (fun h => ⟨rfl, (by unfold i64ok; first | omega | (dsimp only; omega)), (by unfold i64ok; first | omega | (dsimp only; omega)), (by unfold i64ok; first | omega | (dsimp only; omega)), (by unfold i64ok; first | omega | (dsimp only; omega))⟩) h, rfl⟩⟩)) ?_
 refine Jl [0] (Ent.freeze _ _) ?_
 refine letv (flqlaw23_sameAccounts rv8 [(GAccount.mk 1 1 3 6), (GAccount.mk 2 1 1 1)]) fun rv17 hg18 => ?_
 have hc19 := fn11 rv8 a11 k12 ([(GAccount.mk 1 1 3 6), (GAccount.mk 2 1 1 1)]) a15 k16 rv17 hg18
 refine Oc [1, 0] ca11 hc19 ?_
 rintro - -
 refine Oq Vm ?_
 refine Js 17 ?_ ?_
 · intro h20
   refine Oq Vm ?_
   refine Fl 2 fun hn22 => ?_; (try unfold vl); rw [← hn22]
   refine letv (ledger_Longest [(GTurn.mk 1 4 2 5 false), (GTurn.mk 2 4 1 1 false), (GTurn.mk 1 0 1 1 true)] 1) fun rv23 hg24 => ?_
   have hc25 := fn16 ([(GTurn.mk 1 4 2 5 false), (GTurn.mk 2 4 1 1 false), (GTurn.mk 1 0 1 1 true)]) a2 k3 1 pre rv23 hg24
   refine Oc [2] ca16 hc25 ?_
   rintro - he26
   unfold i64ok at he26
   refine Oq Veql (Oq Vpt (Oq Vm ?_))
   refine Js 22 ?_ ?_
   · intro h27
     have g28 := eq_of_beq h27
     refine Oq Vm ?_
     refine Jl [3] (Ent.crOs (α := GTurn) (A := []) _ ([(GTurn.mk 1 4 0 0 false), (GTurn.mk 2 4 1 5 false), (GTurn.mk 1 4 1 1 false)] : List GTurn) _ (Nat.le_of_ble_eq_true rfl) (fun h => ⟨[vi 1, vi 4, vi 0, vi 0, vb false], [vi 2, vi 4, vi 1, vi 5, vb false, vi 1, vi 4, vi 1, vi 1, vb false], rfl, (fun h => ⟨rfl, (by unfold i64ok; first | omega | (dsimp only; omega)), (by unfold i64ok; first | omega | (dsimp only; omega)), (by unfold i64ok; first | omega | (dsimp only; omega)), (by unfold i64ok; first | omega | (dsimp only; omega))⟩) h, ⟨[vi 2, vi 4, vi 1, vi 5, vb false], [vi 1, vi 4, vi 1, vi 1, vb false], rfl, (fun h => ⟨rfl, (by unfold i64ok; first | omega | (dsimp only; omega)), (by unfold i64ok; first | omega | (dsimp only; omega)), (by unfold i64ok; first | omega | (dsimp only; omega)), (by unfold i64ok; first | omega | (dsimp only; omega))⟩) h, ⟨[vi 1, vi 4, vi 1, vi 1, vb false], [], rfl, (fun h => ⟨rfl, (by unfold i64ok; first | omega | (dsimp only; omega)), (by unfold i64ok; first | omega | (dsimp only; omega)), (by unfold i64ok; first | omega | (dsimp only; omega)), (by unfold i64ok; first | omega | (dsimp only; omega))⟩) h, rfl⟩⟩⟩)) ?_
     refine Jl [0] (Ent.freeze _ _) ?_
     refine letv (ledger_Longest [(GTurn.mk 1 4 0 0 false), (GTurn.mk 2 4 1 5 false), (GTurn.mk 1 4 1 1 false)] 1) fun rv29 hg30 => ?_
     have hc31 := fn16 ([(GTurn.mk 1 4 0 0 false), (GTurn.mk 2 4 1 5 false), (GTurn.mk 1 4 1 1 false)]) a5 k6 1 pre rv29 hg30
     refine Oc [0] ca16 hc31 ?_
     rintro - he32
     unfold i64ok at he32
     refine Oq Veql (Oq Vpt (Oq Vm ?_))
     refine Js 27 ?_ ?_
     · intro h33
       have g34 := eq_of_beq h33
       refine Oq Vm ?_
       refine Fl 0 fun hn35 => ?_; (try unfold vl); rw [← hn35]
       refine letv (ledger_Between [(GTurn.mk 1 4 0 0 false), (GTurn.mk 2 4 1 5 false), (GTurn.mk 1 4 1 1 false)] 1 2) fun rv36 hg37 => ?_
       have hc38 := fn18 ([(GTurn.mk 1 4 0 0 false), (GTurn.mk 2 4 1 5 false), (GTurn.mk 1 4 1 1 false)]) a5 k6 1 2 pre pre rv36 hg37
       refine Oc [0] ca18 hc38 ?_
       rintro - he39
       unfold i64ok at he39
       refine Oq Veql (Oq Vpt (Oq Va (KS ?_)))
       have hq := q4 hrr (rv36 == 1) (by simp only [flqlaw23_sane, h20, h27, h33, hg9, hg18, hg24, hg30, hg37, cs4]); subst hq
       exact Kr () rfl (.tmp rfl .nil) [] trivial
     intro h33
     have g40 := ne_of_beq_false h33
     refine Osk (Osk (Osk (Oq Vpf (Oq Va (KS ?_)))))
     have hq := q4 hrr false (by simp only [flqlaw23_sane, h20, h27, h33, hg9, hg18, hg24, hg30, cs4]); subst hq
     exact Kr () rfl (.tmp rfl .nil) [] trivial
   intro h27
   have g41 := ne_of_beq_false h27
   refine Osk (Osk (Osk (Oq Vpf (Oq Vm (Osk (Osk (Osk (Oq Vpf (Oq Va ?_)))))))))
   refine KS ?_
   have hq := q4 hrr false (by simp only [flqlaw23_sane, h20, h27, hg9, hg18, hg24, cs4]); subst hq
   exact Kr () rfl (.tmp rfl .nil) [] trivial
 intro h20
 refine Osk (Osk (Osk (Oq Vpf (Oq Vm (Osk (Osk (Osk (Oq Vpf (Oq Vm ?_)))))))))
 refine Osk (Osk (Osk (Oq Vpf (Oq Va (KS ?_)))))
 have hq := q4 hrr false (by simp only [flqlaw23_sane, h20, hg9, hg18, cs4]); subst hq
 exact Kr () rfl (.tmp rfl .nil) [] trivial
theorem fn3 (t : List Int) (ta0 : Option Addr) (tk0 : Nat) (l : List GTurn) (la0 : Option Addr) (lk0 : Nat) (a : Int) (b : Int) (ha_0 : i64ok a) (hb_0 : i64ok b) (rr : Bool) (hrr : flqlaw23_LedgerAgrees t l a b = rr) : FT Try.prog 3 #[vl ta0 tk0 t, vl la0 lk0 l, vi a, vi b] [S ta0 tk0 t, S la0 lk0 l] (fun g : Unit => True) (fun g => vb rr) (fun g => []) := by
 refine FTi Try.func3 fun w0 M0 F0 => ?_
 unfold i64ok at ha_0 hb_0
 refine Fb 8 0 fun hl1 => ?_
 refine Fo 0 fun ho2 => ?_
 refine Fb 40 1 fun hl3 => ?_
 refine KS ?_
 refine Oq Va (KS ?_)
 refine Oq Vm ?_
 refine letv (flqgen_New t) fun rv5 hg6 => ?_
 have hc7 := fn4 t ta0 tk0 rv5 hg6
 refine Oc [0] ca4 hc7 ?_
 rintro c4 -
 refine Oq Va (KS ?_)
 refine Oq Va (KS ?_)
 refine Kl (γ := Nat × Int × Int) (fun (r8, k1_9, i_10) => ⟨[(1, vl la0 lk0 l), (2, vi a), (3, vi b), (9, c4), (10, vi i_10)], [Cl c4 [vl ta0 tk0 t, vi k1_9], S ta0 tk0 t, S la0 lk0 l], flqlaw23_LedgerAgrees_L0 t a b r8 k1_9 i_10 = flqlaw23_LedgerAgrees_L0 t a b 6 0 0 ∧ r8 = ((6 : Int) - i_10).toNat ∧ (0 : Int) ≤ i_10 ∧ i_10 ≤ 6 ∧ (-9223372036854775808 ≤ k1_9 ∧ k1_9 ≤ 9223372036854775807) ∧ (0 ≤ k1_9 ∧ k1_9 ≤ (t.length : Int)) ∧ (-9223372036854775808 ≤ i_10 ∧ i_10 ≤ 9223372036854775807), r8⟩) (6, 0, 0) [0, 0, 1] ⟨rfl, rfl, (by omega), (by omega), (by omega), (by omega), (by omega)⟩ ?_
 rintro ⟨r8, k1_9, i_10⟩ ⟨hM11, hr12, hi13, hi14, hk15, ht16, hk17⟩
 refine JJ_nx fun _ _ hL hA => ?_; dsimp only at hL hA; subst hL hA
 refine Fb 8 1 fun hl18 => ?_
 refine Fo 1 fun ho19 => ?_
 refine Fb 40 2 fun hl20 => ?_
 refine KS ?_
 refine Oq Vm (Oq Vlss (KS ?_))
 refine Kc ?_ ?_
 · intro h21
   have g22 := of_decide_eq_true h21
   obtain ⟨r23, rfl⟩ := scc (n := r8) (by omega)
   refine KS ?_
   refine Oq Vm ?_
   refine letv (flqlaw23_log t k1_9) fun rv25 hg26 => ?_
   have hc27 := fn6 c4 ta0 tk0 t k1_9 pre rv25 hg26
   refine Oc [0, 0] ca6 hc27 ?_
   rintro c24 ⟨he28, he29⟩
   refine Jo 0 ?_; rintro a30 k31 rfl
   refine Fb 40 0 fun hl32 => ?_
   refine Oq Vm ?_
   refine letv (Tape_Next t rv25.2 4) fun rv33 hg34 => ?_
   have hc35 := fn7 c4 ta0 tk0 t rv25.2 4 pre pre rv33 hg34
   refine Oc [1, 1] ca7 hc35 ?_
   rintro - ⟨he36, he37, he38⟩
   unfold i64ok at he36
   refine Oq Vm ?_
   refine letv (Tape_Next t rv33.2 4) fun rv39 hg40 => ?_
   have hc41 := fn7 c4 ta0 tk0 t rv33.2 4 pre pre rv39 hg40
   refine Oc [0, 1] ca7 hc41 ?_
   rintro - ⟨he42, he43, he44⟩
   unfold i64ok at he42
   refine letv (flqlaw23_agrees rv25.1 rv33.1 rv39.1) fun rv45 hg46 => ?_
   have hc47 := fn5 rv25.1 a30 k31 rv33.1 rv39.1 pre pre rv45 hg46
   refine Oc [1] ca5 hc47 ?_
   rintro - -
   refine Oq Vnot (Oq Vm ?_)
   refine Js 25 ?_ ?_
   · intro h48
     have h50 := not_true h48
     refine Osk (Osk (Osk (Osk (Osk (Osk (Oq Vpt (KS ?_)))))))
     refine Kt ?_
     refine KS ?_
     refine Oq Va (KS ?_)
     have hR52 := q2 hM11 (.ret false) (by simp only [flqlaw23_LedgerAgrees_L0, h21, h48, h50, hg26, hg34, hg40, hg46, cs4])
     have hq := q4 hrr false (by simp only [flqlaw23_LedgerAgrees, h21, h48, h50, hg6, hg26, hg34, hg40, hg46, hR52, cs4]); subst hq
     exact Kr () rfl (.tmp rfl .nil) [] trivial
   intro h48
   have h54 := not_false h48
   refine Oq Vm ?_
   refine letv (flqlaw23_log t rv39.2) fun rv57 hg58 => ?_
   have hc59 := fn6 c4 ta0 tk0 t rv39.2 pre rv57 hg58
   refine Oc [0, 1] ca6 hc59 ?_
   rintro c56 ⟨he60, he61⟩
   refine Jo 0 ?_; rintro a62 k63 rfl
   refine Fb 40 0 fun hl64 => ?_
   refine Oq Vm (Oq Vm ?_)
   refine letv (flqlaw23_agrees rv57.1 a b) fun rv65 hg66 => ?_
   have hc67 := fn5 rv57.1 a62 k63 a b pre pre rv65 hg66
   refine Oc [0] ca5 hc67 ?_
   rintro - -
   refine Oq Vnot (Oq Vpf (KS ?_))
   refine Kc ?_ ?_
   · intro h68
     have h70 := not_true h68
     refine KS ?_
     refine Oq Va (KS ?_)
     have hR72 := q2 hM11 (.ret false) (by simp only [flqlaw23_LedgerAgrees_L0, h21, h48, h54, h68, h70, hg26, hg34, hg40, hg46, hg58, hg66, cs4])
     have hq := q4 hrr false (by simp only [flqlaw23_LedgerAgrees, h21, h48, h54, h68, h70, hg6, hg26, hg34, hg40, hg46, hg58, hg66, hR72, cs4]); subst hq
     exact Kr () rfl (.tmp rfl .nil) [] trivial
   intro h68
   have h74 := not_false h68
   refine KS ?_
   refine Oq Vm (Oq Vadd (Oq Va (KS ?_)))
   exact Kg (r23, rv57.2, (i_10 + 1)) [1, 2, 3] ⟨(q3 hM11 (by simp only [flqlaw23_LedgerAgrees_L0, h21, h48, h54, h68, h74, hg26, hg34, hg40, hg46, hg58, hg66, cs4])), (by omega), (by omega), (by omega), (by omega), (by omega), (by omega)⟩
 intro h21
 have g76 := of_decide_eq_false h21
 obtain rfl : r8 = 0 := by omega
 refine Ke ?_
 have hR77 := q2 hM11 (.brk ()) (by simp only [flqlaw23_LedgerAgrees_L0, h21, cs4])
 refine KS ?_
 refine Oq Vm (Oq (Vlen sl23) (Oq Vgtr (Oq Vm ?_)))
 refine Js 36 ?_ ?_
 · intro h78
   have g79 := of_decide_eq_true h78
   refine Osk (Osk (Osk (Osk (Osk (Osk (Osk (Oq Vpt (Oq Va (KS ?_)))))))))
   have hq := q4 hrr true (by simp only [flqlaw23_LedgerAgrees, h21, h78, hg6, hR77, cs4]); subst hq
   exact Kr () rfl (.tmp rfl .nil) [] trivial
 intro h78
 have g80 := of_decide_eq_false h78
 refine Oq Vm (Oq Vm (Oq Vm ?_))
 refine letv (flqlaw23_agrees l a b) fun rv81 hg82 => ?_
 have hc83 := fn5 l la0 lk0 a b pre pre rv81 hg82
 refine Oc [2] ca5 hc83 ?_
 rintro - -
 refine Oq Vm ?_
 refine Js 41 ?_ ?_
 · intro h84
   have hc86 := fn8  flqlaw23_sane rfl
   refine Oc [] ca8 hc86 ?_
   rintro - -
   refine Oq Vpt (Oq Vpf (Oq Va (KS ?_)))
   have hq := q4 hrr flqlaw23_sane (by simp only [flqlaw23_LedgerAgrees, h21, h78, h84, hg6, hR77, hg82, cs4]); subst hq
   exact Kr () rfl (.tmp rfl .nil) [] trivial
 intro h84
 refine Osk (Oq Vpf (Oq Vpf (Oq Va (KS ?_))))
 have hq := q4 hrr false (by simp only [flqlaw23_LedgerAgrees, h21, h78, h84, hg6, hR77, hg82, cs4]); subst hq
 exact Kr () rfl (.tmp rfl .nil) [] trivial
end Go.SL.G
