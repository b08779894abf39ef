/- Part 4 of the walks: mirrors, plain laws and walks used by the last text of this claim. -/
import Derived.Test.YtcoflgblhhohdaaDoorW3
import Derived.Test.YtcoflgblhhohdaaDoorProg
set_option linter.unusedVariables false
set_option linter.unusedSimpArgs false
namespace Go.SL.G
open Go Go.SL Go.Proofs
set_option maxHeartbeats 20000000
set_option maxRecDepth 100000
theorem fn41 (pP : Value) (p : Gparser) (pa0 : Option Addr) (pk0 : Nat) (word : Str) (hp_1 : i64ok p.at_) (hp_2 : i64ok p.Err) (hword_0 : word.b.length ≤ 140737488355328) (hpa : (0 ≤ p.at_ ∧ p.at_ ≤ (p.l.length : Int))) (rr : Bool) (hrr : parser_is p word = rr) : FT Tryd.prog 41 #[pP, .string (bs word)] [Cl pP [vl pa0 pk0 p.l, vi p.at_, vi p.Err], S pa0 pk0 p.l] (fun g : Unit => True) (fun g => vb rr) (fun g => [Cl pP [vl pa0 pk0 p.l, vi p.at_, vi p.Err]]) := by
 refine FTi Tryd.func41 fun w0 M0 F0 => ?_
 unfold i64ok at hp_1 hp_2
 refine Fb 40 1 fun hl1 => ?_
 refine KS ?_
 refine Oq Va (KS ?_)
 refine Jp 0 fun hp2 => ?_
 refine bool_split (p.Err == 0) ?_ ?_
 · intro h3
   have g4 := eq_of_beq h3
   refine bool_split (decide (p.at_ < (p.l.length : Int))) ?_ ?_
   · intro h5
     have g6 := of_decide_eq_true h5
     refine JJ_peek_GToken p.at_.toNat 2 rfl rng fun hb7 hb8 hb9 hb10 => ?_
     unfold i64ok at hb7 hb9 hb10
     refine Kq [0, 1, 3, 7, 15, 31, 63, 127, 255, 511, 63, 1087, 3135, 7231, 15423, 32767, 65535, 131071, 262143, 524287, 1048575, 2097151, 262143, 4456447, 12845055, 29622271, 67108863, 134217727, 268435455, 536870911, 1073741823, 2147483647, 4294967295, 8589934591, 17179869183, 34359738367, 4294967295, 73014444031, 210453397503, 485331304447, 1099511627775, 2199023255551, 4398046511103, 4294967295, 17592186044415, 35184372088831, 70368744177663] fmix ?_
     refine Qv [] Vm (Qv [1] (Vn 0) (Qv [1] (Vfa fo81_2 0) (Qv [2] (VldF sh35 0) (Qb h3 [] Veql (Qv [] Vm (Qv [] Vm (Qv [1] (Vn 0) (Qv [1] (Vfa fo81_1 0) (Qv [2] (VldF sh3 0) ?_)))))))))
     refine Qv [] Vm (Qv [1] (Vn 0) (Qv [1] (Vfa fo81_0 0) (Qv [2] (VldF sh76 0) (Qv [] (Vlen sl76) (Qb h5 [] Vlss (Qv [] Vpt (Qv [] Vm (Qv [] Vm (Qv [1] (Vn 0) ?_)))))))))
     refine Qv [1] (Vfa fo81_0 0) (Qv [2] (VldF sh76 0) (Qv [] Vm (Qv [1] (Vn 0) (Qv [1] (Vfa fo81_1 0) (Qv [2] (VldF sh3 0) (Qv [3] (Vi sl76 0) (Qv [0] (Vfa fo85_0 0) (Qv [0] (VldF sh3 0) (Qv [] Veql ?_)))))))))
     refine Qv [] Vpt ?_
     refine bool_split ((p.l.getD p.at_.toNat default).Kind == 1) ?_ ?_
     · intro h11
       have g12 := eq_of_beq h11
       refine Qb h11 [] Vm (Qv [] Vm (Qv [1] (Vn 0) (Qv [1] (Vfa fo81_0 0) (Qv [2] (VldF sh76 0) (Qv [] Vm (Qv [1] (Vn 0) (Qv [1] (Vfa fo81_1 0) (Qv [2] (VldF sh3 0) (Qv [3] (Vi sl76 0) ?_)))))))))
       refine Qv [0] (Vfa fo85_1 0) (Qv [0] (VldF sh9 0) (Qv [] Vm (Qv [] (VeqS (l := (p.l.getD p.at_.toNat default).Text) (m := word)) (Qv [] Vpt (Qv [] Va ?_)))))
       refine Qn ⟨by kernel_rfl, ?_⟩
       have hq := q4 hrr ((p.l.getD p.at_.toNat default).Text == word) (by simp only [parser_is, h3, h5, h11, cs4]); subst hq
       exact Kr () rfl (.tmp rfl .nil) [2] trivial
     intro h11
     have g13 := ne_of_beq_false h11
     refine Qb h11 [] Vm (Qs (Qs (Qs (Qs (Qs (Qs (Qs (Qs (Qs ?_)))))))))
     refine Qs (Qs (Qs (Qs (Qv [] Vpf (Qv [] Va ?_)))))
     refine Qn ⟨by kernel_rfl, ?_⟩
     have hq := q4 hrr false (by simp only [parser_is, h3, h5, h11, cs4]); subst hq
     exact Kr () rfl (.tmp rfl .nil) [2] trivial
   intro h5
   have g14 := of_decide_eq_false h5
   refine Kq [0, 1, 3, 7, 15, 31, 63, 127, 255, 511, 63, 1087, 3135, 7231, 15423, 32767, 65535, 131071, 262143, 524287, 1048575, 2097151, 262143, 4456447, 12845055, 29622271, 67108863, 134217727, 268435455, 536870911, 1073741823, 2147483647, 4294967295, 8589934591, 17179869183, 34359738367, 4294967295, 73014444031, 210453397503, 485331304447, 1099511627775, 2199023255551, 4398046511103, 4294967295, 17592186044415, 35184372088831, 70368744177663] fmix ?_
   refine Qv [] Vm (Qv [0] (Vn 0) (Qv [0] (Vfa fo81_2 0) (Qv [1] (VldF sh35 0) (Qb h3 [] Veql (Qv [] Vm (Qv [] Vm (Qv [0] (Vn 0) (Qv [0] (Vfa fo81_1 0) (Qv [1] (VldF sh3 0) ?_)))))))))
   refine Qv [] Vm (Qv [0] (Vn 0) (Qv [0] (Vfa fo81_0 0) (Qv [1] (VldF sh76 0) (Qv [] (Vlen sl76) (Qb h5 [] Vlss (Qv [] Vpt (Qv [] Vm (Qs (Qs ?_)))))))))
   refine Qs (Qs (Qs (Qs (Qs (Qs (Qs (Qs (Qs (Qs ?_)))))))))
   refine Qv [] Vpf (Qv [] Vm (Qs (Qs (Qs (Qs (Qs (Qs (Qs (Qs ?_)))))))))
   refine Qs (Qs (Qs (Qs (Qs (Qv [] Vpf (Qv [] Va ?_))))))
   refine Qn ⟨by kernel_rfl, ?_⟩
   have hq := q4 hrr false (by simp only [parser_is, h3, h5, cs4]); subst hq
   exact Kr () rfl (.tmp rfl .nil) [1] trivial
 intro h3
 have g15 := ne_of_beq_false h3
 refine Kq [0, 1, 3, 7, 15, 31, 63, 127, 255, 511, 63, 1087, 3135, 7231, 15423, 32767, 65535, 131071, 262143, 524287, 1048575, 2097151, 262143, 4456447, 12845055, 29622271, 67108863, 134217727, 268435455, 536870911, 1073741823, 2147483647, 4294967295, 8589934591, 17179869183, 34359738367, 4294967295, 73014444031, 210453397503, 485331304447, 1099511627775, 2199023255551, 4398046511103, 4294967295, 17592186044415, 35184372088831, 70368744177663] fmix ?_
 refine Qv [] Vm (Qv [0] (Vn 0) (Qv [0] (Vfa fo81_2 0) (Qv [1] (VldF sh35 0) (Qb h3 [] Veql (Qv [] Vm (Qs (Qs (Qs (Qs ?_)))))))))
 refine Qs (Qs (Qs (Qs (Qs (Qs (Qv [] Vpf (Qv [] Vm (Qs (Qs ?_)))))))))
 refine Qs (Qs (Qs (Qs (Qs (Qs (Qs (Qs (Qs (Qs ?_)))))))))
 refine Qv [] Vpf (Qv [] Vm (Qs (Qs (Qs (Qs (Qs (Qs (Qs (Qs ?_)))))))))
 refine Qs (Qs (Qs (Qs (Qs (Qv [] Vpf (Qv [] Va ?_))))))
 refine Qn ⟨by kernel_rfl, ?_⟩
 have hq := q4 hrr false (by simp only [parser_is, h3, cs4]); subst hq
 exact Kr () rfl (.tmp rfl .nil) [1] trivial
theorem fn42 (pP : Value) (p : Gparser) (pa0 : Option Addr) (pk0 : Nat) (e : Int) (hp_1 : i64ok p.at_) (hp_2 : i64ok p.Err) (he_0 : i64ok e) (hpa : (0 ≤ p.at_ ∧ p.at_ ≤ (p.l.length : Int))) (rr : Gparser) (hrr : parser_fail p e = rr) : FT Tryd.prog 42 #[pP, vi e] [Cl pP [vl pa0 pk0 p.l, vi p.at_, vi p.Err], S pa0 pk0 p.l] (fun g : Unit => i64ok rr.at_ ∧ i64ok rr.Err ∧ (0 ≤ rr.at_ ∧ rr.at_ ≤ (p.l.length : Int))) (fun g => .tuple #[]) (fun g => [Cl pP [vl pa0 pk0 p.l, vi rr.at_, vi rr.Err]]) := by
 refine FTi Tryd.func42 fun w0 M0 F0 => ?_
 unfold i64ok at hp_1 hp_2 he_0
 refine Fb 40 1 fun hl1 => ?_
 refine KS ?_
 refine Oq Vm (Oq (Vn 0) (Oq (Vfa fo81_2 0) (Oq (VldF sh35 0) (Oq Veql (KS ?_)))))
 refine Kc ?_ ?_
 · intro h2
   have g3 := eq_of_beq h2
   refine KS ?_
   refine Oq Vm (Oq Vm (Oq (Vn 0) (Oq (Vfa fo81_2 0) (Ost (SclF [0] sh35 [vl pa0 pk0 p.l, vi p.at_, vi e]) (KS ?_)))))
   have hq := q4 hrr (Gparser.mk p.l p.at_ e) (by simp only [parser_fail, h2, cs4]); subst hq
   exact Kz () rfl .nil [0] en
 intro h2
 have g4 := ne_of_beq_false h2
 refine KS ?_
 have hq := q4 hrr p (by simp only [parser_fail, h2, cs4]); subst hq
 exact Kz () rfl .nil [0] en
theorem fn51 (pP : Value) (p : Gparser) (pa0 : Option Addr) (pk0 : Nat) (w : Str) (hp_1 : i64ok p.at_) (hp_2 : i64ok p.Err) (hw_0 : w.b.length ≤ 140737488355328) (hpa : (0 ≤ p.at_ ∧ p.at_ ≤ (p.l.length : Int))) (rr : Gparser) (hrr : parser_word p w = rr) : FT Tryd.prog 51 #[pP, .string (bs w)] [Cl pP [vl pa0 pk0 p.l, vi p.at_, vi p.Err], S pa0 pk0 p.l] (fun g : Unit => i64ok rr.at_ ∧ i64ok rr.Err ∧ (0 ≤ rr.at_ ∧ rr.at_ ≤ (p.l.length : Int))) (fun g => .tuple #[]) (fun g => [Cl pP [vl pa0 pk0 p.l, vi rr.at_, vi rr.Err]]) := by
 refine FTi Tryd.func51 fun w0 M0 F0 => ?_
 unfold i64ok at hp_1 hp_2
 refine Fb 40 1 fun hl1 => ?_
 refine KS ?_
 refine Oq Vm (Oq Vm ?_)
 refine letv (parser_is p w) fun rv2 hg3 => ?_
 have hc4 := fn41 pP p pa0 pk0 w pre pre pre pre rv2 hg3
 refine Oc [0, 0] ca41 hc4 ?_
 rintro - -
 refine Oq Vnot (KS ?_)
 refine Kc ?_ ?_
 · intro h5
   have h7 := not_true h5
   refine KS ?_
   refine Oq Vm ?_
   refine letv (parser_fail p 4) fun rv9 hg10 => ?_
   have hc11 := fn42 pP p pa0 pk0 4 pre pre pre pre rv9 hg10
   refine Oc [0, 0] ca42 hc11 ?_
   rintro - ⟨he12, he13, he14⟩
   unfold i64ok at he12 he13
   refine KS ?_
   have hq := q4 hrr (Gparser.mk p.l rv9.at_ rv9.Err) (by simp only [parser_word, h5, h7, hg3, hg10, cs4]); subst hq
   exact Kr () rfl .nil [0] en
 intro h5
 have h16 := not_false h5
 try (have hlt := is_lt2 (by assumption : parser_is _ _ = rv2) h16; try dsimp only at hlt)
 try (have hlt := isName_lt2 (by assumption : parser_isName _ = rv2) h16; try dsimp only at hlt)
 try (have hlt := isKind_lt2 (by assumption : parser_isKind _ _ = rv2) h16; try dsimp only at hlt)
 refine KS ?_
 refine Oq Vm (Oq (Vn 0) (Oq (Vfa fo81_1 0) (Oq (VldF sh3 0) (Oq Vadd (Oq (Vn 0) (Oq (Vfa fo81_1 0) (Ost (SclF [0] sh3 [vl pa0 pk0 p.l, vi (p.at_ + 1), vi p.Err]) (KS ?_))))))))
 have hq := q4 hrr (Gparser.mk p.l (p.at_ + 1) p.Err) (by simp only [parser_word, h5, h16, hg3, cs4]); subst hq
 exact Kz () rfl .nil [0] en
theorem fn63 (pP : Value) (p : Gparser) (pa0 : Option Addr) (pk0 : Nat) (hp_1 : i64ok p.at_) (hp_2 : i64ok p.Err) (hpa : (0 ≤ p.at_ ∧ p.at_ ≤ (p.l.length : Int))) (rr : Bool) (hrr : parser_isName p = rr) : FT Tryd.prog 63 #[pP] [Cl pP [vl pa0 pk0 p.l, vi p.at_, vi p.Err], S pa0 pk0 p.l] (fun g : Unit => True) (fun g => vb rr) (fun g => [Cl pP [vl pa0 pk0 p.l, vi p.at_, vi p.Err]]) := by
 refine FTi Tryd.func63 fun w0 M0 F0 => ?_
 unfold i64ok at hp_1 hp_2
 refine Fb 40 1 fun hl1 => ?_
 refine KS ?_
 refine Oq Va (KS ?_)
 refine Jp 0 fun hp2 => ?_
 refine bool_split (p.Err == 0) ?_ ?_
 · intro h3
   have g4 := eq_of_beq h3
   refine bool_split (decide (p.at_ < (p.l.length : Int))) ?_ ?_
   · intro h5
     have g6 := of_decide_eq_true h5
     refine JJ_peek_GToken p.at_.toNat 2 rfl rng fun hb7 hb8 hb9 hb10 => ?_
     unfold i64ok at hb7 hb9 hb10
     refine JK_drawK [0, 1, 3, 7, 15, 31, 63, 127, 255, 511, 63, 1087, 3135, 7231, 15423, 32767, 65535, 131071, 262143, 524287, 1048575, 2097151, 262143, 4456447, 12845055, 29622271, 67108863, 134217727, 268435455, 536870911, 1073741823, 2147483647, 4294967295, 8589934591, 17179869183, 34359738367, 4294967295, 73014444031, 210453397503, 485331304447, 1099511627775, 2199023255551, 4398046511103, 8796093022207, 17592186044415, 35184372088831] fmix ?_
     refine Dv [] Vm (Dv [1] (Vn 0) (Dv [1] (Vfa fo81_2 0) (Dv [2] (VldF sh35 0) (Db h3 [] Veql (Dv [] Vm (Dv [] Vm (Dv [1] (Vn 0) (Dv [1] (Vfa fo81_1 0) (Dv [2] (VldF sh3 0) ?_)))))))))
     refine Dv [] Vm (Dv [1] (Vn 0) (Dv [1] (Vfa fo81_0 0) (Dv [2] (VldF sh76 0) (Dv [] (Vlen sl76) (Db h5 [] Vlss (Dv [] Vpt (Dv [] Vm (Dv [] Vm (Dv [1] (Vn 0) ?_)))))))))
     refine Dv [1] (Vfa fo81_0 0) (Dv [2] (VldF sh76 0) (Dv [] Vm (Dv [1] (Vn 0) (Dv [1] (Vfa fo81_1 0) (Dv [2] (VldF sh3 0) (Dv [3] (Vi sl76 0) (Dv [0] (Vfa fo85_0 0) (Dv [0] (VldF sh3 0) (Dv [] Veql ?_)))))))))
     refine Dv [] Vpt ?_
     refine bool_split ((p.l.getD p.at_.toNat default).Kind == 1) ?_ ?_
     · intro h11
       have g12 := eq_of_beq h11
       refine Db h11 [] Vm (Dv [] Vm (Dv [1] (Vn 0) (Dv [1] (Vfa fo81_0 0) (Dv [2] (VldF sh76 0) (Dv [] Vm (Dv [1] (Vn 0) (Dv [1] (Vfa fo81_1 0) (Dv [2] (VldF sh3 0) (Dv [3] (Vi sl76 0) ?_)))))))))
       refine Dv [0] (Vfa fo85_1 0) (Dv [0] (VldF sh9 0) ?_)
       refine letv (flqref4_IsName ((p.l.getD p.at_.toNat default).Text)) fun rv13 hg14 => ?_
       refine Dx [] [] [0] (fun G => vb rv13) [fun G => SP.fact (True)] (fun G => xC [] ca24 (fn24 ((p.l.getD p.at_.toNat default).Text) pre rv13 hg14)) (Dv [] Vpt (Dv [] Va ?_))
       refine Dn ⟨by kernel_rfl, fun G => ?_⟩
       refine Jw2 [(2, vb rv13)] [0, 1, 2, 3] [SP.fact (True)] ?_
       refine Jk [0, 2, 2] ?_
       have hq := q4 hrr rv13 (by simp only [parser_isName, h3, h5, h11, hg14, cs4]); subst hq
       exact Kr () rfl (.tmp rfl .nil) [1] trivial
     intro h11
     have g15 := ne_of_beq_false h11
     refine Db h11 [] Vm (Ds (Ds (Ds (Ds (Ds (Ds (Ds (Ds (Ds ?_)))))))))
     refine Ds (Ds (Ds (Dv [] Vpf (Dv [] Va ?_))))
     refine Dn ⟨by kernel_rfl, fun G => ?_⟩
     refine Jw2 [(2, vb false)] [0, 1, 2, 3] [] ?_
     refine Jk [0, 2, 2] ?_
     have hq := q4 hrr false (by simp only [parser_isName, h3, h5, h11, cs4]); subst hq
     exact Kr () rfl (.tmp rfl .nil) [1] trivial
   intro h5
   have g16 := of_decide_eq_false h5
   refine Kq [0, 1, 3, 7, 15, 31, 63, 127, 255, 511, 63, 1087, 3135, 7231, 15423, 32767, 65535, 131071, 262143, 524287, 1048575, 2097151, 262143, 4456447, 12845055, 29622271, 67108863, 134217727, 268435455, 536870911, 1073741823, 2147483647, 4294967295, 8589934591, 17179869183, 34359738367, 4294967295, 73014444031, 210453397503, 485331304447, 1099511627775, 2199023255551, 4398046511103, 8796093022207, 17592186044415, 35184372088831] fmix ?_
   refine Qv [] Vm (Qv [0] (Vn 0) (Qv [0] (Vfa fo81_2 0) (Qv [1] (VldF sh35 0) (Qb h3 [] Veql (Qv [] Vm (Qv [] Vm (Qv [0] (Vn 0) (Qv [0] (Vfa fo81_1 0) (Qv [1] (VldF sh3 0) ?_)))))))))
   refine Qv [] Vm (Qv [0] (Vn 0) (Qv [0] (Vfa fo81_0 0) (Qv [1] (VldF sh76 0) (Qv [] (Vlen sl76) (Qb h5 [] Vlss (Qv [] Vpt (Qv [] Vm (Qs (Qs ?_)))))))))
   refine Qs (Qs (Qs (Qs (Qs (Qs (Qs (Qs (Qs (Qs ?_)))))))))
   refine Qv [] Vpf (Qv [] Vm (Qs (Qs (Qs (Qs (Qs (Qs (Qs (Qs ?_)))))))))
   refine Qs (Qs (Qs (Qs (Qv [] Vpf (Qv [] Va ?_)))))
   refine Qn ⟨by kernel_rfl, ?_⟩
   have hq := q4 hrr false (by simp only [parser_isName, h3, h5, cs4]); subst hq
   exact Kr () rfl (.tmp rfl .nil) [1] trivial
 intro h3
 have g17 := ne_of_beq_false h3
 refine Kq [0, 1, 3, 7, 15, 31, 63, 127, 255, 511, 63, 1087, 3135, 7231, 15423, 32767, 65535, 131071, 262143, 524287, 1048575, 2097151, 262143, 4456447, 12845055, 29622271, 67108863, 134217727, 268435455, 536870911, 1073741823, 2147483647, 4294967295, 8589934591, 17179869183, 34359738367, 4294967295, 73014444031, 210453397503, 485331304447, 1099511627775, 2199023255551, 4398046511103, 8796093022207, 17592186044415, 35184372088831] fmix ?_
 refine Qv [] Vm (Qv [0] (Vn 0) (Qv [0] (Vfa fo81_2 0) (Qv [1] (VldF sh35 0) (Qb h3 [] Veql (Qv [] Vm (Qs (Qs (Qs (Qs ?_)))))))))
 refine Qs (Qs (Qs (Qs (Qs (Qs (Qv [] Vpf (Qv [] Vm (Qs (Qs ?_)))))))))
 refine Qs (Qs (Qs (Qs (Qs (Qs (Qs (Qs (Qs (Qs ?_)))))))))
 refine Qv [] Vpf (Qv [] Vm (Qs (Qs (Qs (Qs (Qs (Qs (Qs (Qs ?_)))))))))
 refine Qs (Qs (Qs (Qs (Qv [] Vpf (Qv [] Va ?_)))))
 refine Qn ⟨by kernel_rfl, ?_⟩
 have hq := q4 hrr false (by simp only [parser_isName, h3, cs4]); subst hq
 exact Kr () rfl (.tmp rfl .nil) [1] trivial
theorem fn52 (pP : Value) (p : Gparser) (pa0 : Option Addr) (pk0 : Nat) (hp_1 : i64ok p.at_) (hp_2 : i64ok p.Err) (hpa : (0 ≤ p.at_ ∧ p.at_ ≤ (p.l.length : Int))) (rr : Str × Gparser) (hrr : parser_name p = rr) : FT Tryd.prog 52 #[pP] [Cl pP [vl pa0 pk0 p.l, vi p.at_, vi p.Err], S pa0 pk0 p.l] (fun g : Unit => rr.1.b.length ≤ 140737488355328 ∧ i64ok rr.2.at_ ∧ i64ok rr.2.Err ∧ (0 ≤ rr.2.at_ ∧ rr.2.at_ ≤ (p.l.length : Int))) (fun g => .string (bs rr.1)) (fun g => [Cl pP [vl pa0 pk0 p.l, vi rr.2.at_, vi rr.2.Err]]) := by
 refine FTi Tryd.func52 fun w0 M0 F0 => ?_
 unfold i64ok at hp_1 hp_2
 refine Fb 40 1 fun hl1 => ?_
 refine KS ?_
 refine Oq Va (KS ?_)
 refine Oq Vm ?_
 refine letv (parser_isName p) fun rv2 hg3 => ?_
 have hc4 := fn63 pP p pa0 pk0 pre pre pre rv2 hg3
 refine Oc [0, 0] ca63 hc4 ?_
 rintro - -
 refine Oq Vnot (KS ?_)
 refine Kc ?_ ?_
 · intro h5
   have h7 := not_true h5
   refine KS ?_
   refine Oq Vm ?_
   refine letv (parser_fail p 4) fun rv9 hg10 => ?_
   have hc11 := fn42 pP p pa0 pk0 4 pre pre pre pre rv9 hg10
   refine Oc [0, 0] ca42 hc11 ?_
   rintro - ⟨he12, he13, he14⟩
   unfold i64ok at he12 he13
   refine KS ?_
   refine Oq Va (KS ?_)
   have hq := q4 hrr ((Str.mk []), (Gparser.mk p.l rv9.at_ rv9.Err)) (by simp only [parser_name, h5, h7, hg3, hg10, cs4]); subst hq
   exact Kr () rfl (.tmp rfl .nil) [0] en
 intro h5
 have h16 := not_false h5
 try (have hlt := is_lt2 (by assumption : parser_is _ _ = rv2) h16; try dsimp only at hlt)
 try (have hlt := isName_lt2 (by assumption : parser_isName _ = rv2) h16; try dsimp only at hlt)
 try (have hlt := isKind_lt2 (by assumption : parser_isKind _ _ = rv2) h16; try dsimp only at hlt)
 refine KS ?_
 refine Oq Vm (Oq (Vn 0) (Oq (Vfa fo81_1 0) (Oq (VldF sh3 0) (Oq Vadd (Oq (Vn 0) (Oq (Vfa fo81_1 0) (Ost (SclF [0] sh3 [vl pa0 pk0 p.l, vi (p.at_ + 1), vi p.Err]) (KS ?_))))))))
 refine Jp 0 fun hp18 => ?_
 refine JJ_peek_GToken (((p.at_ + 1) - 1) : Int).toNat 2 rfl rng fun hb19 hb20 hb21 hb22 => ?_
 unfold i64ok at hb19 hb21 hb22
 refine Kq [0, 1, 3, 7, 0, 16, 48, 112, 240, 511, 1023, 2047, 4095] fmix ?_
 refine Qv [] Vm (Qv [1] (Vn 0) (Qv [1] (Vfa fo81_0 0) (Qv [2] (VldF sh76 0) (Qv [] Vm (Qv [1] (Vn 0) (Qv [1] (Vfa fo81_1 0) (Qv [2] (VldF sh3 0) (Qv [] Vsub (Qv [3] (Vi sl76 0) ?_)))))))))
 refine Qv [0] (Vfa fo85_1 0) (Qv [0] (VldF sh9 0) (Qv [] Va ?_))
 refine Qn ⟨by kernel_rfl, ?_⟩
 have hq := q4 hrr ((p.l.getD (((p.at_ + 1) - 1) : Int).toNat default).Text, (Gparser.mk p.l (p.at_ + 1) p.Err)) (by simp only [parser_name, h5, h16, hg3, cs4]); subst hq
 exact Kr () rfl (.tmp rfl .nil) [2] en
theorem fn64 (pP : Value) (p : Gparser) (pa0 : Option Addr) (pk0 : Nat) (k : Int) (hp_1 : i64ok p.at_) (hp_2 : i64ok p.Err) (hk_0 : i64ok k) (hpa : (0 ≤ p.at_ ∧ p.at_ ≤ (p.l.length : Int))) (rr : Bool) (hrr : parser_isKind p k = rr) : FT Tryd.prog 64 #[pP, vi k] [Cl pP [vl pa0 pk0 p.l, vi p.at_, vi p.Err], S pa0 pk0 p.l] (fun g : Unit => True) (fun g => vb rr) (fun g => [Cl pP [vl pa0 pk0 p.l, vi p.at_, vi p.Err]]) := by
 refine FTi Tryd.func64 fun w0 M0 F0 => ?_
 unfold i64ok at hp_1 hp_2 hk_0
 refine Fb 40 1 fun hl1 => ?_
 refine KS ?_
 refine Oq Va (KS ?_)
 refine Jp 0 fun hp2 => ?_
 refine bool_split (p.Err == 0) ?_ ?_
 · intro h3
   have g4 := eq_of_beq h3
   refine bool_split (decide (p.at_ < (p.l.length : Int))) ?_ ?_
   · intro h5
     have g6 := of_decide_eq_true h5
     refine JJ_peek_GToken p.at_.toNat 2 rfl rng fun hb7 hb8 hb9 hb10 => ?_
     unfold i64ok at hb7 hb9 hb10
     refine Kq [0, 1, 3, 7, 15, 31, 63, 127, 255, 511, 63, 1087, 3135, 7231, 15423, 32767, 65535, 131071, 262143, 524287, 1048575, 2097151, 262143, 4456447, 12845055, 29622271, 67108863, 134217727, 268435455, 262143, 1073741823, 2147483647, 4294967295] fmix ?_
     refine Qv [] Vm (Qv [1] (Vn 0) (Qv [1] (Vfa fo81_2 0) (Qv [2] (VldF sh35 0) (Qb h3 [] Veql (Qv [] Vm (Qv [] Vm (Qv [1] (Vn 0) (Qv [1] (Vfa fo81_1 0) (Qv [2] (VldF sh3 0) ?_)))))))))
     refine Qv [] Vm (Qv [1] (Vn 0) (Qv [1] (Vfa fo81_0 0) (Qv [2] (VldF sh76 0) (Qv [] (Vlen sl76) (Qb h5 [] Vlss (Qv [] Vpt (Qv [] Vm (Qv [] Vm (Qv [1] (Vn 0) ?_)))))))))
     refine Qv [1] (Vfa fo81_0 0) (Qv [2] (VldF sh76 0) (Qv [] Vm (Qv [1] (Vn 0) (Qv [1] (Vfa fo81_1 0) (Qv [2] (VldF sh3 0) (Qv [3] (Vi sl76 0) (Qv [0] (Vfa fo85_0 0) (Qv [0] (VldF sh3 0) (Qv [] Vm ?_)))))))))
     refine Qv [] Veql (Qv [] Vpt (Qv [] Va ?_))
     refine Qn ⟨by kernel_rfl, ?_⟩
     have hq := q4 hrr ((p.l.getD p.at_.toNat default).Kind == k) (by simp only [parser_isKind, h3, h5, cs4]); subst hq
     exact Kr () rfl (.tmp rfl .nil) [2] trivial
   intro h5
   have g11 := of_decide_eq_false h5
   refine Kq [0, 1, 3, 7, 15, 31, 63, 127, 255, 511, 63, 1087, 3135, 7231, 15423, 32767, 65535, 131071, 262143, 524287, 1048575, 2097151, 262143, 4456447, 12845055, 29622271, 67108863, 134217727, 268435455, 262143, 1073741823, 2147483647, 4294967295] fmix ?_
   refine Qv [] Vm (Qv [0] (Vn 0) (Qv [0] (Vfa fo81_2 0) (Qv [1] (VldF sh35 0) (Qb h3 [] Veql (Qv [] Vm (Qv [] Vm (Qv [0] (Vn 0) (Qv [0] (Vfa fo81_1 0) (Qv [1] (VldF sh3 0) ?_)))))))))
   refine Qv [] Vm (Qv [0] (Vn 0) (Qv [0] (Vfa fo81_0 0) (Qv [1] (VldF sh76 0) (Qv [] (Vlen sl76) (Qb h5 [] Vlss (Qv [] Vpt (Qv [] Vm (Qs (Qs ?_)))))))))
   refine Qs (Qs (Qs (Qs (Qs (Qs (Qs (Qs (Qs (Qs ?_)))))))))
   refine Qs (Qv [] Vpf (Qv [] Va ?_))
   refine Qn ⟨by kernel_rfl, ?_⟩
   have hq := q4 hrr false (by simp only [parser_isKind, h3, h5, cs4]); subst hq
   exact Kr () rfl (.tmp rfl .nil) [1] trivial
 intro h3
 have g12 := ne_of_beq_false h3
 refine Kq [0, 1, 3, 7, 15, 31, 63, 127, 255, 511, 63, 1087, 3135, 7231, 15423, 32767, 65535, 131071, 262143, 524287, 1048575, 2097151, 262143, 4456447, 12845055, 29622271, 67108863, 134217727, 268435455, 262143, 1073741823, 2147483647, 4294967295] fmix ?_
 refine Qv [] Vm (Qv [0] (Vn 0) (Qv [0] (Vfa fo81_2 0) (Qv [1] (VldF sh35 0) (Qb h3 [] Veql (Qv [] Vm (Qs (Qs (Qs (Qs ?_)))))))))
 refine Qs (Qs (Qs (Qs (Qs (Qs (Qv [] Vpf (Qv [] Vm (Qs (Qs ?_)))))))))
 refine Qs (Qs (Qs (Qs (Qs (Qs (Qs (Qs (Qs (Qs ?_)))))))))
 refine Qs (Qv [] Vpf (Qv [] Va ?_))
 refine Qn ⟨by kernel_rfl, ?_⟩
 have hq := q4 hrr false (by simp only [parser_isKind, h3, cs4]); subst hq
 exact Kr () rfl (.tmp rfl .nil) [1] trivial
theorem fn53 (pP : Value) (p : Gparser) (pa0 : Option Addr) (pk0 : Nat) (hp_1 : i64ok p.at_) (hp_2 : i64ok p.Err) (hpa : (0 ≤ p.at_ ∧ p.at_ ≤ (p.l.length : Int))) (rr : Gparser) (hrr : parser_end p = rr) : FT Tryd.prog 53 #[pP] [Cl pP [vl pa0 pk0 p.l, vi p.at_, vi p.Err], S pa0 pk0 p.l] (fun g : Unit => i64ok rr.at_ ∧ i64ok rr.Err ∧ (0 ≤ rr.at_ ∧ rr.at_ ≤ (p.l.length : Int))) (fun g => .tuple #[]) (fun g => [Cl pP [vl pa0 pk0 p.l, vi rr.at_, vi rr.Err]]) := by
 refine FTi Tryd.func53 fun w0 M0 F0 => ?_
 unfold i64ok at hp_1 hp_2
 refine Fb 40 1 fun hl1 => ?_
 refine KS ?_
 refine Oq Vm ?_
 refine letv (parser_isKind p 3) fun rv2 hg3 => ?_
 have hc4 := fn64 pP p pa0 pk0 3 pre pre pre pre rv2 hg3
 refine Oc [0, 0] ca64 hc4 ?_
 rintro - -
 refine Oq Vnot (KS ?_)
 refine Kc ?_ ?_
 · intro h5
   have h7 := not_true h5
   refine KS ?_
   refine Oq Vm ?_
   refine letv (parser_fail p 4) fun rv9 hg10 => ?_
   have hc11 := fn42 pP p pa0 pk0 4 pre pre pre pre rv9 hg10
   refine Oc [0, 0] ca42 hc11 ?_
   rintro - ⟨he12, he13, he14⟩
   unfold i64ok at he12 he13
   refine KS ?_
   have hq := q4 hrr (Gparser.mk p.l rv9.at_ rv9.Err) (by simp only [parser_end, h5, h7, hg3, hg10, cs4]); subst hq
   exact Kr () rfl .nil [0] en
 intro h5
 have h16 := not_false h5
 try (have hlt := is_lt2 (by assumption : parser_is _ _ = rv2) h16; try dsimp only at hlt)
 try (have hlt := isName_lt2 (by assumption : parser_isName _ = rv2) h16; try dsimp only at hlt)
 try (have hlt := isKind_lt2 (by assumption : parser_isKind _ _ = rv2) h16; try dsimp only at hlt)
 refine KS ?_
 refine Oq Vm (Oq (Vn 0) (Oq (Vfa fo81_1 0) (Oq (VldF sh3 0) (Oq Vadd (Oq (Vn 0) (Oq (Vfa fo81_1 0) (Ost (SclF [0] sh3 [vl pa0 pk0 p.l, vi (p.at_ + 1), vi p.Err]) (KS ?_))))))))
 have hq := q4 hrr (Gparser.mk p.l (p.at_ + 1) p.Err) (by simp only [parser_end, h5, h16, hg3, cs4]); subst hq
 exact Kz () rfl .nil [0] en
theorem fn65 (pP : Value) (p : Gparser) (pa0 : Option Addr) (pk0 : Nat) (hp_1 : i64ok p.at_) (hp_2 : i64ok p.Err) (hpa : (0 ≤ p.at_ ∧ p.at_ ≤ (p.l.length : Int))) (rr : Bool) (hrr : parser_begins p = rr) : FT Tryd.prog 65 #[pP] [Cl pP [vl pa0 pk0 p.l, vi p.at_, vi p.Err], S pa0 pk0 p.l] (fun g : Unit => True) (fun g => vb rr) (fun g => [Cl pP [vl pa0 pk0 p.l, vi p.at_, vi p.Err]]) := by
 refine FTi Tryd.func65 fun w0 M0 F0 => ?_
 unfold i64ok at hp_1 hp_2
 refine Fb 40 1 fun hl1 => ?_
 refine KS ?_
 refine Oq Va (KS ?_)
 refine Oa (AsV sl40 sz40 [.string (bs (Str.mk [117, 115, 101])), .string (bs (Str.mk [99, 97, 108, 108])), .string (bs (Str.mk [115, 111, 117, 114, 99, 101])), .string (bs (Str.mk [115, 105, 110, 107])), .string (bs (Str.mk [115, 97, 110, 105, 116, 105, 122, 101])), .string (bs (Str.mk [103, 111, 116, 111])), .string (bs (Str.mk [98, 114, 97, 110, 99, 104])), .string (bs (Str.mk [114, 101, 116, 117, 114, 110]))] [.string (bs (Str.mk [117, 115, 101])), .string (bs (Str.mk [99, 97, 108, 108])), .string (bs (Str.mk [115, 111, 117, 114, 99, 101])), .string (bs (Str.mk [115, 105, 110, 107])), .string (bs (Str.mk [115, 97, 110, 105, 116, 105, 122, 101])), .string (bs (Str.mk [103, 111, 116, 111])), .string (bs (Str.mk [98, 114, 97, 110, 99, 104])), .string (bs (Str.mk [114, 101, 116, 117, 114, 110]))]) fun c2 => ?_
 refine Jo 0 ?_; rintro a3 k4 rfl
 refine Oq Va (KS ?_)
 refine Oq Va (KS ?_)
 refine Jl [0] (Ent.crOs (α := Str) (A := []) _ ([(Str.mk [117, 115, 101]), (Str.mk [99, 97, 108, 108]), (Str.mk [115, 111, 117, 114, 99, 101]), (Str.mk [115, 105, 110, 107]), (Str.mk [115, 97, 110, 105, 116, 105, 122, 101]), (Str.mk [103, 111, 116, 111]), (Str.mk [98, 114, 97, 110, 99, 104]), (Str.mk [114, 101, 116, 117, 114, 110])] : List Str) _ (Nat.le_of_ble_eq_true rfl) (fun h => ⟨[.string (bs (Str.mk [117, 115, 101]))], [.string (bs (Str.mk [99, 97, 108, 108])), .string (bs (Str.mk [115, 111, 117, 114, 99, 101])), .string (bs (Str.mk [115, 105, 110, 107])), .string (bs (Str.mk [115, 97, 110, 105, 116, 105, 122, 101])), .string (bs (Str.mk [103, 111, 116, 111])), .string (bs (Str.mk [98, 114, 97, 110, 99, 104])), .string (bs (Str.mk [114, 101, 116, 117, 114, 110]))], rfl, (fun _ => ⟨rfl, by first | omega | (simp; done) | (dsimp only; omega) | exact lit_bl rfl⟩) h, ⟨[.string (bs (Str.mk [99, 97, 108, 108]))], [.string (bs (Str.mk [115, 111, 117, 114, 99, 101])), .string (bs (Str.mk [115, 105, 110, 107])), .string (bs (Str.mk [115, 97, 110, 105, 116, 105, 122, 101])), .string (bs (Str.mk [103, 111, 116, 111])), .string (bs (Str.mk [98, 114, 97, 110, 99, 104])), .string (bs (Str.mk [114, 101, 116, 117, 114, 110]))], rfl, (fun _ => ⟨rfl, by first | omega | (simp; done) | (dsimp only; omega) | exact lit_bl rfl⟩) h, ⟨[.string (bs (Str.mk [115, 111, 117, 114, 99, 101]))], [.string (bs (Str.mk [115, 105, 110, 107])), .string (bs (Str.mk [115, 97, 110, 105, 116, 105, 122, 101])), .string (bs (Str.mk [103, 111, 116, 111])), .string (bs (Str.mk [98, 114, 97, 110, 99, 104])), .string (bs (Str.mk [114, 101, 116, 117, 114, 110]))], rfl, (fun _ => ⟨rfl, by first | omega | (simp; done) | (dsimp only; omega) | exact lit_bl rfl⟩) h, ⟨[.string (bs (Str.mk [115, 105, 110, 107]))], [.string (bs (Str.mk [115, 97, 110, 105, 116, 105, 122, 101])), .string (bs (Str.mk [103, 111, 116, 111])), .string (bs (Str.mk [98, 114, 97, 110, 99, 104])), .string (bs (Str.mk [114, 101, 116, 117, 114, 110]))], rfl, (fun _ => ⟨rfl, by first | omega | (simp; done) | (dsimp only; omega) | exact lit_bl rfl⟩) h, ⟨[.string (bs (Str.mk [115, 97, 110, 105, 116, 105, 122, 101]))], [.string (bs (Str.mk [103, 111, 116, 111])), .string (bs (Str.mk [98, 114, 97, 110, 99, 104])), .string (bs (Str.mk [114, 101, 116, 117, 114, 110]))], rfl, (fun _ => ⟨rfl, by first | omega | (simp; done) | (dsimp only; omega) | exact lit_bl rfl⟩) h, ⟨[.string (bs (Str.mk [103, 111, 116, 111]))], [.string (bs (Str.mk [98, 114, 97, 110, 99, 104])), .string (bs (Str.mk [114, 101, 116, 117, 114, 110]))], rfl, (fun _ => ⟨rfl, by first | omega | (simp; done) | (dsimp only; omega) | exact lit_bl rfl⟩) h, ⟨[.string (bs (Str.mk [98, 114, 97, 110, 99, 104]))], [.string (bs (Str.mk [114, 101, 116, 117, 114, 110]))], rfl, (fun _ => ⟨rfl, by first | omega | (simp; done) | (dsimp only; omega) | exact lit_bl rfl⟩) h, ⟨[.string (bs (Str.mk [114, 101, 116, 117, 114, 110]))], [], rfl, (fun _ => ⟨rfl, by first | omega | (simp; done) | (dsimp only; omega) | exact lit_bl rfl⟩) h, rfl⟩⟩⟩⟩⟩⟩⟩⟩)) ?_
 refine Fb 16 0 fun hl5 => ?_
 refine FoS 0 fun ho6 => ?_
 refine Kl (γ := Nat × Int) (fun (r7, i_8) => ⟨[(0, pP), (3, .slice a3 8 k4), (4, vi i_8)], [os (.slice a3 8 k4) ([(Str.mk [117, 115, 101]), (Str.mk [99, 97, 108, 108]), (Str.mk [115, 111, 117, 114, 99, 101]), (Str.mk [115, 105, 110, 107]), (Str.mk [115, 97, 110, 105, 116, 105, 122, 101]), (Str.mk [103, 111, 116, 111]), (Str.mk [98, 114, 97, 110, 99, 104]), (Str.mk [114, 101, 116, 117, 114, 110])] : List Str), Cl pP [vl pa0 pk0 p.l, vi p.at_, vi p.Err], S pa0 pk0 p.l], parser_begins_L0 p r7 i_8 = parser_begins_L0 p (((((8 : Nat) : Int) : Int) - 0).toNat) 0 ∧ r7 = ((((8 : Nat) : Int) : Int) - i_8).toNat ∧ (0 : Int) ≤ i_8 ∧ (i_8 ≤ ((8 : Nat) : Int) ∨ i_8 = 0) ∧ (-9223372036854775808 ≤ i_8 ∧ i_8 ≤ 9223372036854775807), r7⟩) (((((8 : Nat) : Int) : Int) - 0).toNat, 0) [0, 0, 0] ⟨rfl, rfl, (by omega), (.inr rfl), (by omega)⟩ ?_
 rintro ⟨r7, i_8⟩ ⟨hM9, hr10, hi11, hi12, hk13⟩
 refine JJ_nx fun _ _ hL hA => ?_; dsimp only at hL hA; subst hL hA
 refine Fb 16 0 fun hl14 => ?_
 refine FoS 0 fun ho15 => ?_
 refine Fl 0 fun hn16 => ?_
 refine Fb 40 2 fun hl17 => ?_
 refine KS ?_
 refine Oq Vm (Oq Vm (Oq (Vlen sl40) (Oq Vlss (KS ?_))))
 refine Kc ?_ ?_
 · intro h18
   have g19 := of_decide_eq_true h18
   obtain ⟨r20, rfl⟩ := scc (n := r7) (by omega)
   refine KS ?_
   refine Oq Vm (Oq Vm (Oq Vm (Oq (Vi sl40 0) ?_)))
   have hb21 := okS (i := i_8.toNat) ho15 rng
   refine Oq (VldS sh9 0) ?_
   refine letv (parser_is p ([(Str.mk [117, 115, 101]), (Str.mk [99, 97, 108, 108]), (Str.mk [115, 111, 117, 114, 99, 101]), (Str.mk [115, 105, 110, 107]), (Str.mk [115, 97, 110, 105, 116, 105, 122, 101]), (Str.mk [103, 111, 116, 111]), (Str.mk [98, 114, 97, 110, 99, 104]), (Str.mk [114, 101, 116, 117, 114, 110])].getD i_8.toNat default)) fun rv22 hg23 => ?_
   have hc24 := fn41 pP p pa0 pk0 (([(Str.mk [117, 115, 101]), (Str.mk [99, 97, 108, 108]), (Str.mk [115, 111, 117, 114, 99, 101]), (Str.mk [115, 105, 110, 107]), (Str.mk [115, 97, 110, 105, 116, 105, 122, 101]), (Str.mk [103, 111, 116, 111]), (Str.mk [98, 114, 97, 110, 99, 104]), (Str.mk [114, 101, 116, 117, 114, 110])].getD i_8.toNat default)) pre pre pre pre rv22 hg23
   refine Oc [1, 1] ca41 hc24 ?_
   rintro - -
   refine KS ?_
   refine Kc ?_ ?_
   · intro h25
     refine KS ?_
     refine Oq Va (KS ?_)
     have hR27 := q2 hM9 (.ret true) (by simp only [parser_begins_L0, h18, h25, hg23, cs4])
     have hq := q4 hrr true (by simp only [parser_begins, h18, h25, hg23, hR27, cs4]); subst hq
     exact Kr () rfl (.tmp rfl .nil) [0] trivial
   intro h25
   refine KS ?_
   refine Oq Vm (Oq Vadd (Oq Va (KS ?_)))
   exact Kg (r20, (i_8 + 1)) [1, 0, 0] ⟨(q3 hM9 (by simp only [parser_begins_L0, h18, h25, hg23, cs4])), (by omega), (by omega), (by omega), (by omega)⟩
 intro h18
 have g29 := of_decide_eq_false h18
 obtain rfl : r7 = 0 := by omega
 refine Ke ?_
 have hR30 := q2 hM9 (.brk ()) (by simp only [parser_begins_L0, h18, cs4])
 refine KS ?_
 refine Oq Vm ?_
 refine letv (parser_isName p) fun rv31 hg32 => ?_
 have hc33 := fn63 pP p pa0 pk0 pre pre pre rv31 hg32
 refine Oc [1, 1] ca63 hc33 ?_
 rintro - -
 refine Oq Va (KS ?_)
 have hq := q4 hrr rv31 (by simp only [parser_begins, h18, hR30, hg32, cs4]); subst hq
 exact Kr () rfl (.tmp rfl .nil) [0] trivial
theorem fn70 (pP : Value) (p : Gparser) (pa0 : Option Addr) (pk0 : Nat) (have_ : Int) (hp_1 : i64ok p.at_) (hp_2 : i64ok p.Err) (hhave__0 : i64ok have_) (hpa : (0 ≤ p.at_ ∧ p.at_ ≤ (p.l.length : Int))) (hh : have_ = 1) (rr : List Str × Gparser) (hrr : parser_more p have_ = rr) : FT Tryd.prog 70 #[pP, vi have_] [Cl pP [vl pa0 pk0 p.l, vi p.at_, vi p.Err], S pa0 pk0 p.l] (fun g : Value => i64ok rr.2.at_ ∧ i64ok rr.2.Err ∧ (0 ≤ rr.2.at_ ∧ rr.2.at_ ≤ (p.l.length : Int)) ∧ (rr.1.length ≤ 3)) (fun g => g) (fun g => [sl g rr.1, Cl pP [vl pa0 pk0 p.l, vi rr.2.at_, vi rr.2.Err]]) := by
 refine FTi Tryd.func70 fun w0 M0 F0 => ?_
 unfold i64ok at hp_1 hp_2 hhave__0
 refine Fb 40 1 fun hl1 => ?_
 refine KS ?_
 refine Oq Va (KS ?_)
 refine Oq Va (KS ?_)
 refine Jl [] (Ent.osNil (α := Str)) ?_
 have hterm13 : parser_more_L0 p have_ (p.l.length + 1) p.at_ p.Err [] ≠ LR.oof := (more_L0_adv _ _ _ _ (by omega)).1
 refine Kl (γ := Nat × Int × Int × List Str × Option Addr × Nat) (fun (r2, p1_3, p2_4, out_5, a6, k7) => ⟨[(0, pP), (1, vi have_), (5, vl a6 k7 out_5)], [O a6 k7 out_5, Cl pP [vl pa0 pk0 p.l, vi p1_3, vi p2_4], S pa0 pk0 p.l], parser_more_L0 p have_ r2 p1_3 p2_4 out_5 = parser_more_L0 p have_ (p.l.length + 1) p.at_ p.Err [] ∧ (-9223372036854775808 ≤ p1_3 ∧ p1_3 ≤ 9223372036854775807) ∧ (-9223372036854775808 ≤ p2_4 ∧ p2_4 ≤ 9223372036854775807) ∧ (0 ≤ p1_3 ∧ p1_3 ≤ (p.l.length : Int)) ∧ (out_5.length ≤ 3), r2⟩) ((p.l.length + 1), p.at_, p.Err, [], none, 0) [0, 0, 0] ⟨rfl, (by omega), (by omega), iv0, iv0⟩ ?_
 rintro ⟨r2, p1_3, p2_4, out_5, a6, k7⟩ ⟨hM8, hk9, hk10, hv11, hv12⟩
 refine JJ_nx fun _ _ hL hA => ?_; dsimp only at hL hA; subst hL hA
 refine Fb 16 0 fun hl14 => ?_
 refine FoS 0 fun ho15 => ?_
 refine Fb 40 2 fun hl16 => ?_
 rcases r2 with _ | r2
 · exact absurd (hM8.symm.trans rfl) hterm13
 refine KS ?_
 refine Oq Vm ?_
 refine letv (parser_isName (Gparser.mk p.l p1_3 p2_4)) fun rv17 hg18 => ?_
 have hc19 := fn63 pP (Gparser.mk p.l p1_3 p2_4) pa0 pk0 pre pre pre rv17 hg18
 refine Oc [1, 1] ca63 hc19 ?_
 rintro - -
 refine KS ?_
 refine Kc ?_ ?_
 · intro h20
   refine KS ?_
   refine Oq Vm (Oq Vm (Oq (Vlen sl40) (Oq Vadd (Oq Veql (KS ?_)))))
   refine Kc ?_ ?_
   · intro h22
     have g23 := eq_of_beq h22
     refine KS ?_
     refine Oq Vm ?_
     refine letv (parser_fail (Gparser.mk p.l p1_3 p2_4) 7) fun rv24 hg25 => ?_
     have hc26 := fn42 pP (Gparser.mk p.l p1_3 p2_4) pa0 pk0 7 pre pre pre pre rv24 hg25
     refine Oc [0, 1] ca42 hc26 ?_
     rintro - ⟨he27, he28, he29⟩
     unfold i64ok at he27 he28
     have he29 : (0 ≤ rv24.at_ ∧ rv24.at_ ≤ (p.l.length : Int)) := he29
     refine KS ?_
     refine Oq Va (KS ?_)
     refine Jl [] (Ent.slNil (α := Str)) ?_
     have hR30 := q2 hM8 (.ret ([], (Gparser.mk p.l rv24.at_ rv24.Err))) (by simp only [parser_more_L0, h20, h22, hg18, hg25, cs4])
     have hq := q4 hrr ([], (Gparser.mk p.l rv24.at_ rv24.Err)) (by simp only [parser_more, h20, h22, hg18, hg25, hR30, cs4]); subst hq
     exact Kr (.slice none 0 0) rfl (.tmp rfl .nil) [0, 1] en
   intro h22
   have g31 := ne_of_beq_false h22
   refine KS ?_
   refine Oq Vm (Oq Vm ?_)
   refine letv (parser_name (Gparser.mk p.l p1_3 p2_4)) fun rv32 hg33 => ?_
   have hc34 := fn52 pP (Gparser.mk p.l p1_3 p2_4) pa0 pk0 pre pre pre rv32 hg33
   refine Oc [0, 1] ca52 hc34 ?_
   rintro - ⟨he35, he36, he37, he38⟩
   unfold i64ok at he36 he37
   have he38 : (0 ≤ rv32.2.at_ ∧ rv32.2.at_ ≤ (p.l.length : Int)) := he38
   refine Oa (AsV sl40 sz40 [.string (bs rv32.1)] [.string (bs rv32.1)]) fun c39 => ?_
   refine Jo 0 ?_; rintro a40 k41 rfl
   refine Jl [0] (Ent.cr1 (α := Str) (A := []) _ rv32.1 _ (Nat.le_of_ble_eq_true rfl) (fun _ => ⟨rfl, by first | omega | (simp; done) | (dsimp only; omega) | exact lit_bl rfl⟩)) ?_
   refine Oa (ApO [2, 0] sl40 sl40 sz40) fun c42 => ?_
   refine Jo 0 ?_; rintro a43 k44 rfl
   refine Fb 16 0 fun hl45 => ?_
   refine FoS 0 fun ho46 => ?_
   have hn47 := la out_5 ([rv32.1] : List Str)
   refine Oq Va (KS ?_)
   exact Kg (r2, rv32.2.at_, rv32.2.Err, (out_5 ++ [rv32.1]), a43, k44) [0, 0, 0] ⟨(q3 hM8 (by simp only [parser_more_L0, h20, h22, hg18, hg33, cs4])), (by omega), (by omega), iv1, iv1⟩
 intro h20
 refine Ke ?_
 have hR49 := q2 hM8 (.brk (p1_3, p2_4, out_5)) (by simp only [parser_more_L0, h20, hg18, cs4])
 refine KS ?_
 refine Oq Vm (Oq Va (KS ?_))
 refine Jl [1] (Ent.freeze _ _) ?_
 have hq := q4 hrr (out_5, (Gparser.mk p.l p1_3 p2_4)) (by simp only [parser_more, h20, hg18, hR49, cs4]); subst hq
 exact Kr (vl a6 k7 out_5) rfl (.tmp rfl .nil) [0, 1] en
theorem fn71 (pP : Value) (p : Gparser) (pa0 : Option Addr) (pk0 : Nat) (hp_1 : i64ok p.at_) (hp_2 : i64ok p.Err) (hpa : (0 ≤ p.at_ ∧ p.at_ ≤ (p.l.length : Int))) (rr : List Str × Gparser) (hrr : parser_names p = rr) : FT Tryd.prog 71 #[pP] [Cl pP [vl pa0 pk0 p.l, vi p.at_, vi p.Err], S pa0 pk0 p.l] (fun g : Value => i64ok rr.2.at_ ∧ i64ok rr.2.Err ∧ (0 ≤ rr.2.at_ ∧ rr.2.at_ ≤ (p.l.length : Int)) ∧ (rr.1.length ≤ 4)) (fun g => g) (fun g => [sl g rr.1, Cl pP [vl pa0 pk0 p.l, vi rr.2.at_, vi rr.2.Err]]) := by
 refine FTi Tryd.func71 fun w0 M0 F0 => ?_
 unfold i64ok at hp_1 hp_2
 refine Fb 40 1 fun hl1 => ?_
 refine KS ?_
 refine Oq Va (KS ?_)
 refine Oq Va (KS ?_)
 refine Jl [] (Ent.osNil (α := Str)) ?_
 have hterm13 : parser_names_L0 p (p.l.length + 1) p.at_ p.Err [] ≠ LR.oof := (names_L0_adv _ _ _ _ (by omega)).1
 refine Kl (γ := Nat × Int × Int × List Str × Option Addr × Nat) (fun (r2, p1_3, p2_4, out_5, a6, k7) => ⟨[(0, pP), (3, vl a6 k7 out_5)], [O a6 k7 out_5, Cl pP [vl pa0 pk0 p.l, vi p1_3, vi p2_4], S pa0 pk0 p.l], parser_names_L0 p r2 p1_3 p2_4 out_5 = parser_names_L0 p (p.l.length + 1) p.at_ p.Err [] ∧ (-9223372036854775808 ≤ p1_3 ∧ p1_3 ≤ 9223372036854775807) ∧ (-9223372036854775808 ≤ p2_4 ∧ p2_4 ≤ 9223372036854775807) ∧ (0 ≤ p1_3 ∧ p1_3 ≤ (p.l.length : Int)) ∧ (out_5.length ≤ 4), r2⟩) ((p.l.length + 1), p.at_, p.Err, [], none, 0) [0, 0, 0] ⟨rfl, (by omega), (by omega), iv0, iv0⟩ ?_
 rintro ⟨r2, p1_3, p2_4, out_5, a6, k7⟩ ⟨hM8, hk9, hk10, hv11, hv12⟩
 refine JJ_nx fun _ _ hL hA => ?_; dsimp only at hL hA; subst hL hA
 refine Fb 16 0 fun hl14 => ?_
 refine FoS 0 fun ho15 => ?_
 refine Fb 40 2 fun hl16 => ?_
 rcases r2 with _ | r2
 · exact absurd (hM8.symm.trans rfl) hterm13
 refine KS ?_
 refine Oq Vm ?_
 refine letv (parser_isName (Gparser.mk p.l p1_3 p2_4)) fun rv17 hg18 => ?_
 have hc19 := fn63 pP (Gparser.mk p.l p1_3 p2_4) pa0 pk0 pre pre pre rv17 hg18
 refine Oc [1, 1] ca63 hc19 ?_
 rintro - -
 refine KS ?_
 refine Kc ?_ ?_
 · intro h20
   refine KS ?_
   refine Oq Vm (Oq (Vlen sl40) (Oq Veql (KS ?_)))
   refine Kc ?_ ?_
   · intro h22
     have g23 := eq_of_beq h22
     refine KS ?_
     refine Oq Vm ?_
     refine letv (parser_fail (Gparser.mk p.l p1_3 p2_4) 7) fun rv24 hg25 => ?_
     have hc26 := fn42 pP (Gparser.mk p.l p1_3 p2_4) pa0 pk0 7 pre pre pre pre rv24 hg25
     refine Oc [0, 1] ca42 hc26 ?_
     rintro - ⟨he27, he28, he29⟩
     unfold i64ok at he27 he28
     have he29 : (0 ≤ rv24.at_ ∧ rv24.at_ ≤ (p.l.length : Int)) := he29
     refine KS ?_
     refine Oq Va (KS ?_)
     refine Jl [] (Ent.slNil (α := Str)) ?_
     have hR30 := q2 hM8 (.ret ([], (Gparser.mk p.l rv24.at_ rv24.Err))) (by simp only [parser_names_L0, h20, h22, hg18, hg25, cs4])
     have hq := q4 hrr ([], (Gparser.mk p.l rv24.at_ rv24.Err)) (by simp only [parser_names, h20, h22, hg18, hg25, hR30, cs4]); subst hq
     exact Kr (.slice none 0 0) rfl (.tmp rfl .nil) [0, 1] en
   intro h22
   have g31 := ne_of_beq_false h22
   refine KS ?_
   refine Oq Vm (Oq Vm ?_)
   refine letv (parser_name (Gparser.mk p.l p1_3 p2_4)) fun rv32 hg33 => ?_
   have hc34 := fn52 pP (Gparser.mk p.l p1_3 p2_4) pa0 pk0 pre pre pre rv32 hg33
   refine Oc [0, 1] ca52 hc34 ?_
   rintro - ⟨he35, he36, he37, he38⟩
   unfold i64ok at he36 he37
   have he38 : (0 ≤ rv32.2.at_ ∧ rv32.2.at_ ≤ (p.l.length : Int)) := he38
   refine Oa (AsV sl40 sz40 [.string (bs rv32.1)] [.string (bs rv32.1)]) fun c39 => ?_
   refine Jo 0 ?_; rintro a40 k41 rfl
   refine Jl [0] (Ent.cr1 (α := Str) (A := []) _ rv32.1 _ (Nat.le_of_ble_eq_true rfl) (fun _ => ⟨rfl, by first | omega | (simp; done) | (dsimp only; omega) | exact lit_bl rfl⟩)) ?_
   refine Oa (ApO [2, 0] sl40 sl40 sz40) fun c42 => ?_
   refine Jo 0 ?_; rintro a43 k44 rfl
   refine Fb 16 0 fun hl45 => ?_
   refine FoS 0 fun ho46 => ?_
   have hn47 := la out_5 ([rv32.1] : List Str)
   refine Oq Va (KS ?_)
   exact Kg (r2, rv32.2.at_, rv32.2.Err, (out_5 ++ [rv32.1]), a43, k44) [0, 0, 0] ⟨(q3 hM8 (by simp only [parser_names_L0, h20, h22, hg18, hg33, cs4])), (by omega), (by omega), iv1, iv1⟩
 intro h20
 refine Ke ?_
 have hR49 := q2 hM8 (.brk (p1_3, p2_4, out_5)) (by simp only [parser_names_L0, h20, hg18, cs4])
 refine KS ?_
 refine Oq Vm (Oq Va (KS ?_))
 refine Jl [1] (Ent.freeze _ _) ?_
 have hq := q4 hrr (out_5, (Gparser.mk p.l p1_3 p2_4)) (by simp only [parser_names, h20, hg18, hR49, cs4]); subst hq
 exact Kr (vl a6 k7 out_5) rfl (.tmp rfl .nil) [0, 1] en
theorem fn66 (pP : Value) (p : Gparser) (pa0 : Option Addr) (pk0 : Nat) (hp_1 : i64ok p.at_) (hp_2 : i64ok p.Err) (hpa : (0 ≤ p.at_ ∧ p.at_ ≤ (p.l.length : Int))) (hb : parser_begins p = true) (rr : GStmt × Gparser) (hrr : parser_stmt p = rr) : FT Tryd.prog 66 #[pP] [Cl pP [vl pa0 pk0 p.l, vi p.at_, vi p.Err], S pa0 pk0 p.l] (fun g : Value × Value => i64ok rr.1.Op ∧ rr.1.Def.b.length ≤ 140737488355328 ∧ i64ok rr.2.at_ ∧ i64ok rr.2.Err ∧ (0 ≤ rr.2.at_ ∧ rr.2.at_ ≤ (p.l.length : Int))) (fun g => .agg #[vi rr.1.Op, .string (bs rr.1.Def), g.1, g.2]) (fun g => [sl g.1 rr.1.Uses, sl g.2 rr.1.Targets, Cl pP [vl pa0 pk0 p.l, vi rr.2.at_, vi rr.2.Err]]) := by
 refine FTi Tryd.func66 fun w0 M0 F0 => ?_
 unfold i64ok at hp_1 hp_2
 refine Fb 40 1 fun hl1 => ?_
 have hbl := begins_lt hb
 refine KS ?_
 refine Oa (Al ze51 [vi 0, .string (bs (Str.mk [])), .slice none 0 0, .slice none 0 0]) fun p2 => KS ?_
 refine Oa (Al ze51 [vi 0, .string (bs (Str.mk [])), .slice none 0 0, .slice none 0 0]) fun p3 => KS ?_
 refine Oq Va (KS ?_)
 refine Oq Vm ?_
 refine letv (parser_isName p) fun rv4 hg5 => ?_
 have hc6 := fn63 pP p pa0 pk0 pre pre pre rv4 hg5
 refine Oc [2, 2] ca63 hc6 ?_
 rintro - -
 refine Oq Vnot (KS ?_)
 refine Kc ?_ ?_
 · intro h7
   have h9 := not_true h7
   refine KS ?_
   refine Jp 0 fun hp11 => ?_
   refine JJ_peek_GToken p.at_.toNat 4 rfl rng fun hb12 hb13 hb14 hb15 => ?_
   unfold i64ok at hb12 hb14 hb15
   refine Kq [0, 1, 3, 7, 0, 16, 48, 112, 255, 511, 1023, 2047] fmix ?_
   refine Qv [] Vm (Qv [1] (Vn 0) (Qv [1] (Vfa fo81_0 0) (Qv [2] (VldF sh76 0) (Qv [] Vm (Qv [1] (Vn 0) (Qv [1] (Vfa fo81_1 0) (Qv [2] (VldF sh3 0) (Qv [5] (Vi sl76 0) (Qv [0] (Vfa fo85_1 0) ?_)))))))))
   refine Qv [0] (VldF sh9 0) (Qv [] Va ?_)
   refine Qn ⟨by kernel_rfl, ?_⟩
   refine KS ?_
   refine Oq Vm (Oq (Vn 2) (Oq (Vfa fo81_1 2) (Oq (VldF sh3 2) (Oq Vadd (Oq (Vn 2) (Oq (Vfa fo81_1 2) (Ost (SclF [2] sh3 [vl pa0 pk0 p.l, vi (p.at_ + 1), vi p.Err]) (KS ?_))))))))
   refine Oq Vm (KS ?_)
   refine Oq (VeqS (l := (p.l.getD p.at_.toNat default).Text) (m := (Str.mk [117, 115, 101]))) (Oq Va (KS ?_))
   refine Kc ?_ ?_
   · intro h16
     have g17 := eq_of_beq h16
     refine KS ?_
     refine Oq Vm ?_
     refine letv (parser_name (Gparser.mk p.l (p.at_ + 1) p.Err)) fun rv18 hg19 => ?_
     have hc20 := fn52 pP (Gparser.mk p.l (p.at_ + 1) p.Err) pa0 pk0 pre pre pre rv18 hg19
     refine Oc [0, 4] ca52 hc20 ?_
     rintro - ⟨he21, he22, he23, he24⟩
     unfold i64ok at he22 he23
     have he24 : (0 ≤ rv18.2.at_ ∧ rv18.2.at_ ≤ (p.l.length : Int)) := he24
     refine Oa (AsV sl40 sz40 [.string (bs rv18.1)] [.string (bs rv18.1)]) fun c25 => ?_
     refine Jo 0 ?_; rintro a26 k27 rfl
     refine Oq (Vfa fo51_0 4) (Ost (SclF [4] sh3 [vi 2, .string (bs (Str.mk [])), .slice none 0 0, .slice none 0 0]) (Oq (Vfa fo51_2 0) (Ost (SclF [0] sh40 [vi 2, .string (bs (Str.mk [])), .slice a26 1 k27, .slice none 0 0]) (KS ?_))))
     refine Jp 0 fun hp28 => ?_
     refine JK_drawK [0, 1, 0, 4, 15, 31, 63] fmix ?_
     refine Dv [0] (Vfa fo51_2 0) (Dv [1] (VldF sh40 0) (Dv [] Vm ?_))
     refine letv (parser_more (Gparser.mk p.l rv18.2.at_ rv18.2.Err) 1) fun rv30 hg31 => ?_
     refine Dx [3, 7] [3] [3, 0, 1, 2] (fun G => (G.g 3 0)) [fun G => SP.fact (i64ok rv30.2.at_ ∧ i64ok rv30.2.Err ∧ (0 ≤ rv30.2.at_ ∧ rv30.2.at_ ≤ ((Gparser.mk p.l rv18.2.at_ rv18.2.Err).l.length : Int)) ∧ (rv30.1.length ≤ 3)), fun G => sl (G.g 3 0) rv30.1, fun G => Cl pP [vl pa0 pk0 p.l, vi rv30.2.at_, vi rv30.2.Err]] (fun G => xC [0, 0] ca70 (fn70 pP (Gparser.mk p.l rv18.2.at_ rv18.2.Err) pa0 pk0 1 pre pre pre pre pre rv30 hg31)) ?_
     have hn33 := la ([rv18.1] : List Str) rv30.1
     refine Dx [2, 8, 9] [2] [1, 2, 0] (fun G => (G.g 4 0)) [fun G => os (G.g 4 0) (([rv18.1] ++ rv30.1) : List Str)] (fun G => by refine xf 1 rfl ?_; rintro ⟨he34, he35, he36, he37⟩; unfold i64ok at he34 he35; exact xp [0] rfl (Ent.cr1 (α := Str) (A := []) _ rv18.1 _ (Nat.le_of_ble_eq_true rfl) (fun _ => ⟨rfl, by first | omega | (simp; done) | (dsimp only; omega) | exact lit_bl rfl⟩)) (xA (Ap [0, 1] sl40 sl40 sz40))) (Dv [0] (Vfa fo51_2 0) (Dx0 [1, 11] [1] [1, 0] [fun G => Cl p3 [vi 2, .string (bs (Str.mk [])), (G.g 4 0), .slice none 0 0]] (fun G => x1 1 rfl os_one fun ho38 => (xS (OpS.frame [0] rfl (OpS.storeClF [(G.g 4 0)] [vi 2, .string (bs (Str.mk [])), (G.g 4 0), .slice none 0 0] rfl rfl rfl sh40 (cells_of_one ho38) rfl (by simp only [List.all_cons, List.all_nil, ho38, Bool.and_true, Bool.true_and] <;> rfl) (Nat.le_of_ble_eq_true rfl) rfl)))) ?_))
     refine Dn ⟨by kernel_rfl, fun G => ?_⟩
     refine Jw2 [(0, pP), (2, p2), (3, p3)] [0, 4, 5, 6, 7] [SP.fact (i64ok rv30.2.at_ ∧ i64ok rv30.2.Err ∧ (0 ≤ rv30.2.at_ ∧ rv30.2.at_ ≤ ((Gparser.mk p.l rv18.2.at_ rv18.2.Err).l.length : Int)) ∧ (rv30.1.length ≤ 3)), sl (G.g 3 0) rv30.1, Cl pP [vl pa0 pk0 p.l, vi rv30.2.at_, vi rv30.2.Err], os (G.g 4 0) (([rv18.1] ++ rv30.1) : List Str), Cl p3 [vi 2, .string (bs (Str.mk [])), (G.g 4 0), .slice none 0 0]] ?_
     generalize G.g 3 0 = c29, G.g 4 0 = c32
     refine Jf 5 rfl ?_; rintro ⟨he39, he40, he41, he42⟩
     unfold i64ok at he39 he40
     refine Jk [1, 3, 3, 5, 6, 6, 6] ?_
     refine Jo 3 ?_; rintro a43 k44 rfl
     refine Fb 16 3 fun hl45 => ?_
     refine FoS 3 fun ho46 => ?_
     refine Jo 5 ?_; rintro a47 k48 rfl
     refine Fb 16 5 fun hl49 => ?_
     refine FoS 5 fun ho50 => ?_
     refine KS ?_
     refine Oq Vm ?_
     refine letv (parser_end (Gparser.mk p.l rv30.2.at_ rv30.2.Err)) fun rv51 hg52 => ?_
     have hc53 := fn53 pP (Gparser.mk p.l rv30.2.at_ rv30.2.Err) pa0 pk0 pre pre pre rv51 hg52
     refine Oc [4, 2] ca53 hc53 ?_
     rintro - ⟨he54, he55, he56⟩
     unfold i64ok at he54 he55
     have he56 : (0 ≤ rv51.at_ ∧ rv51.at_ ≤ (p.l.length : Int)) := he56
     refine KS ?_
     refine Oq (VldA sh51 6) (Ost (Scl [2] sh51 [vi 2, .string (bs (Str.mk [])), vl a47 k48 ([rv18.1] ++ rv30.1), .slice none 0 0]) (KS ?_))
     refine Jl [5] (Ent.freeze _ _) ?_
     refine Jl [] (Ent.slNil (α := Str)) ?_
     have hq := q4 hrr ((GStmt.mk 2 (Str.mk []) ([rv18.1] ++ rv30.1) []), (Gparser.mk p.l rv51.at_ rv51.Err)) (by simp only [parser_stmt, h7, h9, h16, hg5, hg19, hg31, hg52, cs4]); subst hq
     exact Kr (vl a47 k48 ([rv18.1] ++ rv30.1), .slice none 0 0) rfl (.cellN 2 rfl sh51 rfl (reads_Cl _ _) rfl .nil) [1, 0, 3] en
   intro h16
   have g57 := ne_of_beq_false h16
   refine KS ?_
   refine Oq (VeqS (l := (p.l.getD p.at_.toNat default).Text) (m := (Str.mk [99, 97, 108, 108]))) (Oq Va (KS ?_))
   refine Kc ?_ ?_
   · intro h58
     have g59 := eq_of_beq h58
     refine KS ?_
     refine Oq Vm ?_
     refine letv (parser_name (Gparser.mk p.l (p.at_ + 1) p.Err)) fun rv60 hg61 => ?_
     have hc62 := fn52 pP (Gparser.mk p.l (p.at_ + 1) p.Err) pa0 pk0 pre pre pre rv60 hg61
     refine Oc [0, 4] ca52 hc62 ?_
     rintro - ⟨he63, he64, he65, he66⟩
     unfold i64ok at he64 he65
     have he66 : (0 ≤ rv60.2.at_ ∧ rv60.2.at_ ≤ (p.l.length : Int)) := he66
     refine Oa (AsV sl40 sz40 [.string (bs rv60.1)] [.string (bs rv60.1)]) fun c67 => ?_
     refine Jo 0 ?_; rintro a68 k69 rfl
     refine Oq (Vfa fo51_0 4) (Ost (SclF [4] sh3 [vi 3, .string (bs (Str.mk [])), .slice none 0 0, .slice none 0 0]) (Oq (Vfa fo51_3 0) (Ost (SclF [0] sh40 [vi 3, .string (bs (Str.mk [])), .slice none 0 0, .slice a68 1 k69]) (KS ?_))))
     refine Oq Vm ?_
     refine letv (parser_end (Gparser.mk p.l rv60.2.at_ rv60.2.Err)) fun rv70 hg71 => ?_
     have hc72 := fn53 pP (Gparser.mk p.l rv60.2.at_ rv60.2.Err) pa0 pk0 pre pre pre rv70 hg71
     refine Oc [2, 5] ca53 hc72 ?_
     rintro - ⟨he73, he74, he75⟩
     unfold i64ok at he73 he74
     have he75 : (0 ≤ rv70.at_ ∧ rv70.at_ ≤ (p.l.length : Int)) := he75
     refine KS ?_
     refine Oq (VldA sh51 1) (Ost (Scl [5] sh51 [vi 3, .string (bs (Str.mk [])), .slice none 0 0, .slice a68 1 k69]) (KS ?_))
     refine Jl [3] (Ent.cr1 (α := Str) (A := []) _ rv60.1 _ (Nat.le_of_ble_eq_true rfl) (fun _ => ⟨rfl, by first | omega | (simp; done) | (dsimp only; omega) | exact lit_bl rfl⟩)) ?_
     refine Jl [0] (Ent.freeze _ _) ?_
     refine Jl [] (Ent.slNil (α := Str)) ?_
     have hq := q4 hrr ((GStmt.mk 3 (Str.mk []) [] [rv60.1]), (Gparser.mk p.l rv70.at_ rv70.Err)) (by simp only [parser_stmt, h7, h9, h16, h58, hg5, hg61, hg71, cs4]); subst hq
     exact Kr (.slice none 0 0, .slice a68 1 k69) rfl (.cellN 2 rfl sh51 rfl (reads_Cl _ _) rfl .nil) [0, 1, 3] en
   intro h58
   have g76 := ne_of_beq_false h58
   refine KS ?_
   refine Oq (VeqS (l := (p.l.getD p.at_.toNat default).Text) (m := (Str.mk [115, 111, 117, 114, 99, 101]))) (Oq Va (KS ?_))
   refine Kc ?_ ?_
   · intro h77
     have g78 := eq_of_beq h77
     refine KS ?_
     refine Oq Vm ?_
     refine letv (parser_name (Gparser.mk p.l (p.at_ + 1) p.Err)) fun rv79 hg80 => ?_
     have hc81 := fn52 pP (Gparser.mk p.l (p.at_ + 1) p.Err) pa0 pk0 pre pre pre rv79 hg80
     refine Oc [0, 4] ca52 hc81 ?_
     rintro - ⟨he82, he83, he84, he85⟩
     unfold i64ok at he83 he84
     have he85 : (0 ≤ rv79.2.at_ ∧ rv79.2.at_ ≤ (p.l.length : Int)) := he85
     refine Oq (Vfa fo51_0 3) (Ost (SclF [3] sh3 [vi 4, .string (bs (Str.mk [])), .slice none 0 0, .slice none 0 0]) (Oq (Vfa fo51_1 0) (Ost (SclF [0] sh9 [vi 4, .string (bs rv79.1), .slice none 0 0, .slice none 0 0]) (KS ?_))))
     refine Oq Vm ?_
     refine letv (parser_end (Gparser.mk p.l rv79.2.at_ rv79.2.Err)) fun rv86 hg87 => ?_
     have hc88 := fn53 pP (Gparser.mk p.l rv79.2.at_ rv79.2.Err) pa0 pk0 pre pre pre rv86 hg87
     refine Oc [1, 4] ca53 hc88 ?_
     rintro - ⟨he89, he90, he91⟩
     unfold i64ok at he89 he90
     have he91 : (0 ≤ rv86.at_ ∧ rv86.at_ ≤ (p.l.length : Int)) := he91
     refine KS ?_
     refine Oq (VldA sh51 1) (Ost (Scl [4] sh51 [vi 4, .string (bs rv79.1), .slice none 0 0, .slice none 0 0]) (KS ?_))
     refine Jl [] (Ent.slNil (α := Str)) ?_
     have hq := q4 hrr ((GStmt.mk 4 rv79.1 [] []), (Gparser.mk p.l rv86.at_ rv86.Err)) (by simp only [parser_stmt, h7, h9, h16, h58, h77, hg5, hg80, hg87, cs4]); subst hq
     exact Kr (.slice none 0 0, .slice none 0 0) rfl (.cellN 1 rfl sh51 rfl (reads_Cl _ _) rfl .nil) [0, 0, 2] en
   intro h77
   have g92 := ne_of_beq_false h77
   refine KS ?_
   refine Oq (VeqS (l := (p.l.getD p.at_.toNat default).Text) (m := (Str.mk [115, 105, 110, 107]))) (Oq Va (KS ?_))
   refine Kc ?_ ?_
   · intro h93
     have g94 := eq_of_beq h93
     refine KS ?_
     refine Oq Vm ?_
     refine letv (parser_name (Gparser.mk p.l (p.at_ + 1) p.Err)) fun rv95 hg96 => ?_
     have hc97 := fn52 pP (Gparser.mk p.l (p.at_ + 1) p.Err) pa0 pk0 pre pre pre rv95 hg96
     refine Oc [0, 4] ca52 hc97 ?_
     rintro - ⟨he98, he99, he100, he101⟩
     unfold i64ok at he99 he100
     have he101 : (0 ≤ rv95.2.at_ ∧ rv95.2.at_ ≤ (p.l.length : Int)) := he101
     refine Oa (AsV sl40 sz40 [.string (bs rv95.1)] [.string (bs rv95.1)]) fun c102 => ?_
     refine Jo 0 ?_; rintro a103 k104 rfl
     refine Oq (Vfa fo51_0 4) (Ost (SclF [4] sh3 [vi 5, .string (bs (Str.mk [])), .slice none 0 0, .slice none 0 0]) (Oq (Vfa fo51_2 0) (Ost (SclF [0] sh40 [vi 5, .string (bs (Str.mk [])), .slice a103 1 k104, .slice none 0 0]) (KS ?_))))
     refine Oq Vm ?_
     refine letv (parser_end (Gparser.mk p.l rv95.2.at_ rv95.2.Err)) fun rv105 hg106 => ?_
     have hc107 := fn53 pP (Gparser.mk p.l rv95.2.at_ rv95.2.Err) pa0 pk0 pre pre pre rv105 hg106
     refine Oc [2, 5] ca53 hc107 ?_
     rintro - ⟨he108, he109, he110⟩
     unfold i64ok at he108 he109
     have he110 : (0 ≤ rv105.at_ ∧ rv105.at_ ≤ (p.l.length : Int)) := he110
     refine KS ?_
     refine Oq (VldA sh51 1) (Ost (Scl [5] sh51 [vi 5, .string (bs (Str.mk [])), .slice a103 1 k104, .slice none 0 0]) (KS ?_))
     refine Jl [3] (Ent.cr1 (α := Str) (A := []) _ rv95.1 _ (Nat.le_of_ble_eq_true rfl) (fun _ => ⟨rfl, by first | omega | (simp; done) | (dsimp only; omega) | exact lit_bl rfl⟩)) ?_
     refine Jl [0] (Ent.freeze _ _) ?_
     refine Jl [] (Ent.slNil (α := Str)) ?_
     have hq := q4 hrr ((GStmt.mk 5 (Str.mk []) [rv95.1] []), (Gparser.mk p.l rv105.at_ rv105.Err)) (by simp only [parser_stmt, h7, h9, h16, h58, h77, h93, hg5, hg96, hg106, cs4]); subst hq
     exact Kr (.slice a103 1 k104, .slice none 0 0) rfl (.cellN 2 rfl sh51 rfl (reads_Cl _ _) rfl .nil) [1, 0, 3] en
   intro h93
   have g111 := ne_of_beq_false h93
   refine KS ?_
   refine Oq (VeqS (l := (p.l.getD p.at_.toNat default).Text) (m := (Str.mk [115, 97, 110, 105, 116, 105, 122, 101]))) (Oq Va (KS ?_))
   refine Kc ?_ ?_
   · intro h112
     have g113 := eq_of_beq h112
     refine KS ?_
     refine Oq Vm ?_
     refine letv (parser_name (Gparser.mk p.l (p.at_ + 1) p.Err)) fun rv114 hg115 => ?_
     have hc116 := fn52 pP (Gparser.mk p.l (p.at_ + 1) p.Err) pa0 pk0 pre pre pre rv114 hg115
     refine Oc [0, 4] ca52 hc116 ?_
     rintro - ⟨he117, he118, he119, he120⟩
     unfold i64ok at he118 he119
     have he120 : (0 ≤ rv114.2.at_ ∧ rv114.2.at_ ≤ (p.l.length : Int)) := he120
     refine Oq (Vfa fo51_0 3) (Ost (SclF [3] sh3 [vi 6, .string (bs (Str.mk [])), .slice none 0 0, .slice none 0 0]) (Oq (Vfa fo51_1 0) (Ost (SclF [0] sh9 [vi 6, .string (bs rv114.1), .slice none 0 0, .slice none 0 0]) (KS ?_))))
     refine Oq Vm ?_
     refine letv (parser_end (Gparser.mk p.l rv114.2.at_ rv114.2.Err)) fun rv121 hg122 => ?_
     have hc123 := fn53 pP (Gparser.mk p.l rv114.2.at_ rv114.2.Err) pa0 pk0 pre pre pre rv121 hg122
     refine Oc [1, 4] ca53 hc123 ?_
     rintro - ⟨he124, he125, he126⟩
     unfold i64ok at he124 he125
     have he126 : (0 ≤ rv121.at_ ∧ rv121.at_ ≤ (p.l.length : Int)) := he126
     refine KS ?_
     refine Oq (VldA sh51 1) (Ost (Scl [4] sh51 [vi 6, .string (bs rv114.1), .slice none 0 0, .slice none 0 0]) (KS ?_))
     refine Jl [] (Ent.slNil (α := Str)) ?_
     have hq := q4 hrr ((GStmt.mk 6 rv114.1 [] []), (Gparser.mk p.l rv121.at_ rv121.Err)) (by simp only [parser_stmt, h7, h9, h16, h58, h77, h93, h112, hg5, hg115, hg122, cs4]); subst hq
     exact Kr (.slice none 0 0, .slice none 0 0) rfl (.cellN 1 rfl sh51 rfl (reads_Cl _ _) rfl .nil) [0, 0, 2] en
   intro h112
   have g127 := ne_of_beq_false h112
   refine KS ?_
   refine Oq (VeqS (l := (p.l.getD p.at_.toNat default).Text) (m := (Str.mk [103, 111, 116, 111]))) (Oq Va (KS ?_))
   refine Kc ?_ ?_
   · intro h128
     have g129 := eq_of_beq h128
     refine KS ?_
     refine Oq Vm ?_
     refine letv (parser_name (Gparser.mk p.l (p.at_ + 1) p.Err)) fun rv130 hg131 => ?_
     have hc132 := fn52 pP (Gparser.mk p.l (p.at_ + 1) p.Err) pa0 pk0 pre pre pre rv130 hg131
     refine Oc [0, 4] ca52 hc132 ?_
     rintro - ⟨he133, he134, he135, he136⟩
     unfold i64ok at he134 he135
     have he136 : (0 ≤ rv130.2.at_ ∧ rv130.2.at_ ≤ (p.l.length : Int)) := he136
     refine Oa (AsV sl40 sz40 [.string (bs rv130.1)] [.string (bs rv130.1)]) fun c137 => ?_
     refine Jo 0 ?_; rintro a138 k139 rfl
     refine Oq (Vfa fo51_0 4) (Ost (SclF [4] sh3 [vi 7, .string (bs (Str.mk [])), .slice none 0 0, .slice none 0 0]) (Oq (Vfa fo51_3 0) (Ost (SclF [0] sh40 [vi 7, .string (bs (Str.mk [])), .slice none 0 0, .slice a138 1 k139]) (KS ?_))))
     refine Oq Vm ?_
     refine letv (parser_end (Gparser.mk p.l rv130.2.at_ rv130.2.Err)) fun rv140 hg141 => ?_
     have hc142 := fn53 pP (Gparser.mk p.l rv130.2.at_ rv130.2.Err) pa0 pk0 pre pre pre rv140 hg141
     refine Oc [2, 5] ca53 hc142 ?_
     rintro - ⟨he143, he144, he145⟩
     unfold i64ok at he143 he144
     have he145 : (0 ≤ rv140.at_ ∧ rv140.at_ ≤ (p.l.length : Int)) := he145
     refine KS ?_
     refine Oq (VldA sh51 1) (Ost (Scl [5] sh51 [vi 7, .string (bs (Str.mk [])), .slice none 0 0, .slice a138 1 k139]) (KS ?_))
     refine Jl [3] (Ent.cr1 (α := Str) (A := []) _ rv130.1 _ (Nat.le_of_ble_eq_true rfl) (fun _ => ⟨rfl, by first | omega | (simp; done) | (dsimp only; omega) | exact lit_bl rfl⟩)) ?_
     refine Jl [0] (Ent.freeze _ _) ?_
     refine Jl [] (Ent.slNil (α := Str)) ?_
     have hq := q4 hrr ((GStmt.mk 7 (Str.mk []) [] [rv130.1]), (Gparser.mk p.l rv140.at_ rv140.Err)) (by simp only [parser_stmt, h7, h9, h16, h58, h77, h93, h112, h128, hg5, hg131, hg141, cs4]); subst hq
     exact Kr (.slice none 0 0, .slice a138 1 k139) rfl (.cellN 2 rfl sh51 rfl (reads_Cl _ _) rfl .nil) [0, 1, 3] en
   intro h128
   have g146 := ne_of_beq_false h128
   refine KS ?_
   refine Oq (VeqS (l := (p.l.getD p.at_.toNat default).Text) (m := (Str.mk [98, 114, 97, 110, 99, 104]))) (Oq Va (KS ?_))
   refine Kc ?_ ?_
   · intro h147
     have g148 := eq_of_beq h147
     refine KS ?_
     refine Oq Vm ?_
     refine letv (parser_name (Gparser.mk p.l (p.at_ + 1) p.Err)) fun rv149 hg150 => ?_
     have hc151 := fn52 pP (Gparser.mk p.l (p.at_ + 1) p.Err) pa0 pk0 pre pre pre rv149 hg150
     refine Oc [0, 4] ca52 hc151 ?_
     rintro - ⟨he152, he153, he154, he155⟩
     unfold i64ok at he153 he154
     have he155 : (0 ≤ rv149.2.at_ ∧ rv149.2.at_ ≤ (p.l.length : Int)) := he155
     refine Oa (AsV sl40 sz40 [.string (bs rv149.1)] [.string (bs rv149.1)]) fun c156 => ?_
     refine Jo 0 ?_; rintro a157 k158 rfl
     refine Oq (Vfa fo51_0 4) (Ost (SclF [4] sh3 [vi 8, .string (bs (Str.mk [])), .slice none 0 0, .slice none 0 0]) (Oq (Vfa fo51_2 0) (Ost (SclF [0] sh40 [vi 8, .string (bs (Str.mk [])), .slice a157 1 k158, .slice none 0 0]) (KS ?_))))
     refine Oq Vm ?_
     refine letv (parser_name (Gparser.mk p.l rv149.2.at_ rv149.2.Err)) fun rv159 hg160 => ?_
     have hc161 := fn52 pP (Gparser.mk p.l rv149.2.at_ rv149.2.Err) pa0 pk0 pre pre pre rv159 hg160
     refine Oc [2, 5] ca52 hc161 ?_
     rintro - ⟨he162, he163, he164, he165⟩
     unfold i64ok at he163 he164
     have he165 : (0 ≤ rv159.2.at_ ∧ rv159.2.at_ ≤ (p.l.length : Int)) := he165
     refine Oa (AsV sl40 sz40 [.string (bs rv159.1)] [.string (bs rv159.1)]) fun c166 => ?_
     refine Jo 0 ?_; rintro a167 k168 rfl
     refine Oq (Vfa fo51_3 2) (Ost (SclF [2] sh40 [vi 8, .string (bs (Str.mk [])), .slice a157 1 k158, .slice a167 1 k168]) (KS ?_))
     refine Jp 0 fun hp169 => ?_
     refine JK_drawK [0, 1, 0, 4, 12, 31, 63, 127] fmix ?_
     refine Dv [0] (Vfa fo51_3 0) (Dv [1] (VldF sh40 0) (Dv [] Vm ?_))
     refine letv (parser_name (Gparser.mk p.l rv159.2.at_ rv159.2.Err)) fun rv170 hg171 => ?_
     refine Dx [3, 8] [3] [2, 0, 1] (fun G => .string (bs rv170.1)) [fun G => SP.fact (rv170.1.b.length ≤ 140737488355328 ∧ i64ok rv170.2.at_ ∧ i64ok rv170.2.Err ∧ (0 ≤ rv170.2.at_ ∧ rv170.2.at_ ≤ ((Gparser.mk p.l rv159.2.at_ rv159.2.Err).l.length : Int))), fun G => Cl pP [vl pa0 pk0 p.l, vi rv170.2.at_, vi rv170.2.Err]] (fun G => xC [0, 0] ca52 (fn52 pP (Gparser.mk p.l rv159.2.at_ rv159.2.Err) pa0 pk0 pre pre pre rv170 hg171)) (Dx [] [] [0] (fun G => (G.g 4 0)) [fun G => Cr (G.g 4 0) 1 [.string (bs rv170.1)]] (fun G => xA (AsV sl40 sz40 [.string (bs rv170.1)] [.string (bs rv170.1)])) ?_)
     have hn174 := la ([rv159.1] : List Str) ([rv170.1] : List Str)
     refine Dx [2, 9, 11] [2, 11] [1, 0] (fun G => (G.g 5 0)) [fun G => os (G.g 5 0) (([rv159.1] ++ [rv170.1]) : List Str)] (fun G => by refine xf 1 rfl ?_; rintro ⟨he175, he176, he177, he178⟩; unfold i64ok at he176 he177; exact xp [0] rfl (Ent.cr1 (α := Str) (A := []) _ rv159.1 _ (Nat.le_of_ble_eq_true rfl) (fun _ => ⟨rfl, by first | omega | (simp; done) | (dsimp only; omega) | exact lit_bl rfl⟩)) (xp [2] rfl (Ent.cr1 (α := Str) (A := []) _ rv170.1 _ (Nat.le_of_ble_eq_true rfl) (fun _ => ⟨rfl, by first | omega | (simp; done) | (dsimp only; omega) | exact lit_bl rfl⟩)) (xA (ApO [1, 0] sl40 sl40 sz40)))) (Dv [0] (Vfa fo51_3 0) (Dx0 [1, 12] [1] [1, 0] [fun G => Cl p3 [vi 8, .string (bs (Str.mk [])), .slice a157 1 k158, (G.g 5 0)]] (fun G => x1 1 rfl os_one fun ho179 => (xS (OpS.frame [0] rfl (OpS.storeClF [(G.g 5 0)] [vi 8, .string (bs (Str.mk [])), .slice a157 1 k158, (G.g 5 0)] rfl rfl rfl sh40 (cells_of_one ho179) rfl (by simp only [List.all_cons, List.all_nil, ho179, Bool.and_true, Bool.true_and] <;> rfl) (Nat.le_of_ble_eq_true rfl) rfl)))) ?_))
     refine Dn ⟨by kernel_rfl, fun G => ?_⟩
     refine Jw2 [(0, pP), (2, p2), (3, p3)] [0, 4, 5, 6, 7, 8] [SP.fact (rv170.1.b.length ≤ 140737488355328 ∧ i64ok rv170.2.at_ ∧ i64ok rv170.2.Err ∧ (0 ≤ rv170.2.at_ ∧ rv170.2.at_ ≤ ((Gparser.mk p.l rv159.2.at_ rv159.2.Err).l.length : Int))), Cl pP [vl pa0 pk0 p.l, vi rv170.2.at_, vi rv170.2.Err], os (G.g 5 0) (([rv159.1] ++ [rv170.1]) : List Str), Cl p3 [vi 8, .string (bs (Str.mk [])), .slice a157 1 k158, (G.g 5 0)]] ?_
     generalize G.g 5 0 = c173
     refine Jf 6 rfl ?_; rintro ⟨he180, he181, he182, he183⟩
     unfold i64ok at he181 he182
     refine Jk [1, 1, 3, 3, 5, 5, 5] ?_
     refine Jo 5 ?_; rintro a184 k185 rfl
     refine Fb 16 5 fun hl186 => ?_
     refine FoS 5 fun ho187 => ?_
     refine KS ?_
     refine Oq Vm ?_
     refine letv (parser_end (Gparser.mk p.l rv170.2.at_ rv170.2.Err)) fun rv188 hg189 => ?_
     have hc190 := fn53 pP (Gparser.mk p.l rv170.2.at_ rv170.2.Err) pa0 pk0 pre pre pre rv188 hg189
     refine Oc [4, 3] ca53 hc190 ?_
     rintro - ⟨he191, he192, he193⟩
     unfold i64ok at he191 he192
     have he193 : (0 ≤ rv188.at_ ∧ rv188.at_ ≤ (p.l.length : Int)) := he193
     refine KS ?_
     refine Oq (VldA sh51 6) (Ost (Scl [3] sh51 [vi 8, .string (bs (Str.mk [])), .slice a157 1 k158, vl a184 k185 ([rv159.1] ++ [rv170.1])]) (KS ?_))
     refine Jl [2] (Ent.cr1 (α := Str) (A := []) _ rv149.1 _ (Nat.le_of_ble_eq_true rfl) (fun _ => ⟨rfl, by first | omega | (simp; done) | (dsimp only; omega) | exact lit_bl rfl⟩)) ?_
     refine Jl [0] (Ent.freeze _ _) ?_
     refine Jl [5] (Ent.freeze _ _) ?_
     have hq := q4 hrr ((GStmt.mk 8 (Str.mk []) [rv149.1] ([rv159.1] ++ [rv170.1])), (Gparser.mk p.l rv188.at_ rv188.Err)) (by simp only [parser_stmt, h7, h9, h16, h58, h77, h93, h112, h128, h147, hg5, hg150, hg160, hg171, hg189, cs4]); subst hq
     exact Kr (.slice a157 1 k158, vl a184 k185 ([rv159.1] ++ [rv170.1])) rfl (.cellN 2 rfl sh51 rfl (reads_Cl _ _) rfl .nil) [1, 0, 3] en
   intro h147
   have g194 := ne_of_beq_false h147
   refine KS ?_
   refine Oq (VeqS (l := (p.l.getD p.at_.toNat default).Text) (m := (Str.mk [114, 101, 116, 117, 114, 110]))) (Oq Va (KS ?_))
   refine Kc ?_ ?_
   · intro h195
     have g196 := eq_of_beq h195
     refine KS ?_
     refine Oq (Vfa fo51_0 3) (Ost (SclF [3] sh3 [vi 9, .string (bs (Str.mk [])), .slice none 0 0, .slice none 0 0]) (KS ?_))
     refine Oq Vm ?_
     refine letv (parser_end (Gparser.mk p.l (p.at_ + 1) p.Err)) fun rv197 hg198 => ?_
     have hc199 := fn53 pP (Gparser.mk p.l (p.at_ + 1) p.Err) pa0 pk0 pre pre pre rv197 hg198
     refine Oc [1, 4] ca53 hc199 ?_
     rintro - ⟨he200, he201, he202⟩
     unfold i64ok at he200 he201
     have he202 : (0 ≤ rv197.at_ ∧ rv197.at_ ≤ (p.l.length : Int)) := he202
     refine KS ?_
     refine Oq (VldA sh51 1) (Ost (Scl [4] sh51 [vi 9, .string (bs (Str.mk [])), .slice none 0 0, .slice none 0 0]) (KS ?_))
     refine Jl [] (Ent.slNil (α := Str)) ?_
     have hq := q4 hrr ((GStmt.mk 9 (Str.mk []) [] []), (Gparser.mk p.l rv197.at_ rv197.Err)) (by simp only [parser_stmt, h7, h9, h16, h58, h77, h93, h112, h128, h147, h195, hg5, hg198, cs4]); subst hq
     exact Kr (.slice none 0 0, .slice none 0 0) rfl (.cellN 1 rfl sh51 rfl (reads_Cl _ _) rfl .nil) [0, 0, 2] en
   intro h195
   have g203 := ne_of_beq_false h195
   refine KS ?_
   refine Oq Vm ?_
   refine letv (parser_name (Gparser.mk p.l (p.at_ + 1) p.Err)) fun rv204 hg205 => ?_
   have hc206 := fn52 pP (Gparser.mk p.l (p.at_ + 1) p.Err) pa0 pk0 pre pre pre rv204 hg205
   refine Oc [0, 4] ca52 hc206 ?_
   rintro - ⟨he207, he208, he209, he210⟩
   unfold i64ok at he208 he209
   have he210 : (0 ≤ rv204.2.at_ ∧ rv204.2.at_ ≤ (p.l.length : Int)) := he210
   refine Oq (Vfa fo51_0 3) (Ost (SclF [3] sh3 [vi 1, .string (bs (Str.mk [])), .slice none 0 0, .slice none 0 0]) (Oq (Vfa fo51_1 0) (Ost (SclF [0] sh9 [vi 1, .string (bs rv204.1), .slice none 0 0, .slice none 0 0]) (KS ?_))))
   refine Oq Vm ?_
   refine letv (parser_isKind (Gparser.mk p.l rv204.2.at_ rv204.2.Err) 2) fun rv211 hg212 => ?_
   have hc213 := fn64 pP (Gparser.mk p.l rv204.2.at_ rv204.2.Err) pa0 pk0 2 pre pre pre pre rv211 hg212
   refine Oc [1, 4] ca64 hc213 ?_
   rintro - -
   refine Oq Vnot (KS ?_)
   refine Kc ?_ ?_
   · intro h214
     have h216 := not_true h214
     refine KS ?_
     refine Oq Vm ?_
     refine letv (parser_fail (Gparser.mk p.l rv204.2.at_ rv204.2.Err) 4) fun rv218 hg219 => ?_
     have hc220 := fn42 pP (Gparser.mk p.l rv204.2.at_ rv204.2.Err) pa0 pk0 4 pre pre pre pre rv218 hg219
     refine Oc [0, 4] ca42 hc220 ?_
     rintro - ⟨he221, he222, he223⟩
     unfold i64ok at he221 he222
     have he223 : (0 ≤ rv218.at_ ∧ rv218.at_ ≤ (p.l.length : Int)) := he223
     refine KS ?_
     refine Oq (VldA sh51 1) (Ost (Scl [4] sh51 [vi 1, .string (bs rv204.1), .slice none 0 0, .slice none 0 0]) (KS ?_))
     refine Jl [] (Ent.slNil (α := Str)) ?_
     have hq := q4 hrr ((GStmt.mk 1 rv204.1 [] []), (Gparser.mk p.l rv218.at_ rv218.Err)) (by simp only [parser_stmt, h7, h9, h16, h58, h77, h93, h112, h128, h147, h195, h214, h216, hg5, hg205, hg212, hg219, cs4]); subst hq
     exact Kr (.slice none 0 0, .slice none 0 0) rfl (.cellN 1 rfl sh51 rfl (reads_Cl _ _) rfl .nil) [0, 0, 2] en
   intro h214
   have h225 := not_false h214
   try (have hlt := is_lt2 (by assumption : parser_is _ _ = rv211) h225; try dsimp only at hlt)
   try (have hlt := isName_lt2 (by assumption : parser_isName _ = rv211) h225; try dsimp only at hlt)
   try (have hlt := isKind_lt2 (by assumption : parser_isKind _ _ = rv211) h225; try dsimp only at hlt)
   refine KS ?_
   refine Oq Vm (Oq (Vn 0) (Oq (Vfa fo81_1 0) (Oq (VldF sh3 0) (Oq Vadd (Oq (Vn 0) (Oq (Vfa fo81_1 0) (Ost (SclF [0] sh3 [vl pa0 pk0 p.l, vi (rv204.2.at_ + 1), vi rv204.2.Err]) (KS ?_))))))))
   refine Oq Vm ?_
   refine letv (parser_names (Gparser.mk p.l (rv204.2.at_ + 1) rv204.2.Err)) fun rv228 hg229 => ?_
   have hc230 := fn71 pP (Gparser.mk p.l (rv204.2.at_ + 1) rv204.2.Err) pa0 pk0 pre pre pre rv228 hg229
   refine Oc [0, 4] ca71 hc230 ?_
   rintro c227 ⟨he231, he232, he233, he234⟩
   unfold i64ok at he231 he232
   have he233 : (0 ≤ rv228.2.at_ ∧ rv228.2.at_ ≤ (p.l.length : Int)) := he233
   refine Jo 0 ?_; rintro a235 k236 rfl
   refine Fb 16 0 fun hl237 => ?_
   refine FoS 0 fun ho238 => ?_
   refine Oq (Vfa fo51_2 2) (Ost (SclF [2] sh40 [vi 1, .string (bs rv204.1), vl a235 k236 rv228.1, .slice none 0 0]) (KS ?_))
   refine Oq Vm ?_
   refine letv (parser_end (Gparser.mk p.l rv228.2.at_ rv228.2.Err)) fun rv239 hg240 => ?_
   have hc241 := fn53 pP (Gparser.mk p.l rv228.2.at_ rv228.2.Err) pa0 pk0 pre pre pre rv239 hg240
   refine Oc [2, 5] ca53 hc241 ?_
   rintro - ⟨he242, he243, he244⟩
   unfold i64ok at he242 he243
   have he244 : (0 ≤ rv239.at_ ∧ rv239.at_ ≤ (p.l.length : Int)) := he244
   refine KS ?_
   refine Oq (VldA sh51 1) (Ost (Scl [5] sh51 [vi 1, .string (bs rv204.1), vl a235 k236 rv228.1, .slice none 0 0]) (KS ?_))
   refine Jl [] (Ent.slNil (α := Str)) ?_
   have hq := q4 hrr ((GStmt.mk 1 rv204.1 rv228.1 []), (Gparser.mk p.l rv239.at_ rv239.Err)) (by simp only [parser_stmt, h7, h9, h16, h58, h77, h93, h112, h128, h147, h195, h214, h225, hg5, hg205, hg212, hg229, hg240, cs4]); subst hq
   exact Kr (vl a235 k236 rv228.1, .slice none 0 0) rfl (.cellN 1 rfl sh51 rfl (reads_Cl _ _) rfl .nil) [4, 0, 2] en
 intro h7
 have h246 := not_false h7
 try (have hlt := is_lt2 (by assumption : parser_is _ _ = rv4) h246; try dsimp only at hlt)
 try (have hlt := isName_lt2 (by assumption : parser_isName _ = rv4) h246; try dsimp only at hlt)
 try (have hlt := isKind_lt2 (by assumption : parser_isKind _ _ = rv4) h246; try dsimp only at hlt)
 refine KS ?_
 refine Oq Vm (KS ?_)
 refine Oq (VeqS (l := (Str.mk [])) (m := (Str.mk [117, 115, 101]))) (Oq Va (KS ?_))
 refine Kc ?_ ?_
 · intro h248
   have g249 := eq_of_beq h248
   refine KS ?_
   refine Oq Vm ?_
   refine letv (parser_name p) fun rv250 hg251 => ?_
   have hc252 := fn52 pP p pa0 pk0 pre pre pre rv250 hg251
   refine Oc [0, 2] ca52 hc252 ?_
   rintro - ⟨he253, he254, he255, he256⟩
   unfold i64ok at he254 he255
   refine Oa (AsV sl40 sz40 [.string (bs rv250.1)] [.string (bs rv250.1)]) fun c257 => ?_
   refine Jo 0 ?_; rintro a258 k259 rfl
   refine Oq (Vfa fo51_0 2) (Ost (SclF [2] sh3 [vi 2, .string (bs (Str.mk [])), .slice none 0 0, .slice none 0 0]) (Oq (Vfa fo51_2 0) (Ost (SclF [0] sh40 [vi 2, .string (bs (Str.mk [])), .slice a258 1 k259, .slice none 0 0]) (KS ?_))))
   refine Jp 0 fun hp260 => ?_
   refine JK_drawK [0, 1, 0, 4, 15, 31, 63] fmix ?_
   refine Dv [0] (Vfa fo51_2 0) (Dv [1] (VldF sh40 0) (Dv [] Vm ?_))
   refine letv (parser_more (Gparser.mk p.l rv250.2.at_ rv250.2.Err) 1) fun rv262 hg263 => ?_
   refine Dx [3, 5] [3] [3, 0, 1, 2] (fun G => (G.g 3 0)) [fun G => SP.fact (i64ok rv262.2.at_ ∧ i64ok rv262.2.Err ∧ (0 ≤ rv262.2.at_ ∧ rv262.2.at_ ≤ ((Gparser.mk p.l rv250.2.at_ rv250.2.Err).l.length : Int)) ∧ (rv262.1.length ≤ 3)), fun G => sl (G.g 3 0) rv262.1, fun G => Cl pP [vl pa0 pk0 p.l, vi rv262.2.at_, vi rv262.2.Err]] (fun G => xC [0, 0] ca70 (fn70 pP (Gparser.mk p.l rv250.2.at_ rv250.2.Err) pa0 pk0 1 pre pre pre pre pre rv262 hg263)) ?_
   have hn265 := la ([rv250.1] : List Str) rv262.1
   refine Dx [2, 6, 7] [2] [1, 2, 0] (fun G => (G.g 4 0)) [fun G => os (G.g 4 0) (([rv250.1] ++ rv262.1) : List Str)] (fun G => by refine xf 1 rfl ?_; rintro ⟨he266, he267, he268, he269⟩; unfold i64ok at he266 he267; exact xp [0] rfl (Ent.cr1 (α := Str) (A := []) _ rv250.1 _ (Nat.le_of_ble_eq_true rfl) (fun _ => ⟨rfl, by first | omega | (simp; done) | (dsimp only; omega) | exact lit_bl rfl⟩)) (xA (Ap [0, 1] sl40 sl40 sz40))) (Dv [0] (Vfa fo51_2 0) (Dx0 [1, 9] [1] [1, 0] [fun G => Cl p3 [vi 2, .string (bs (Str.mk [])), (G.g 4 0), .slice none 0 0]] (fun G => x1 1 rfl os_one fun ho270 => (xS (OpS.frame [0] rfl (OpS.storeClF [(G.g 4 0)] [vi 2, .string (bs (Str.mk [])), (G.g 4 0), .slice none 0 0] rfl rfl rfl sh40 (cells_of_one ho270) rfl (by simp only [List.all_cons, List.all_nil, ho270, Bool.and_true, Bool.true_and] <;> rfl) (Nat.le_of_ble_eq_true rfl) rfl)))) ?_))
   refine Dn ⟨by kernel_rfl, fun G => ?_⟩
   refine Jw2 [(0, pP), (2, p2), (3, p3)] [0, 4, 5] [SP.fact (i64ok rv262.2.at_ ∧ i64ok rv262.2.Err ∧ (0 ≤ rv262.2.at_ ∧ rv262.2.at_ ≤ ((Gparser.mk p.l rv250.2.at_ rv250.2.Err).l.length : Int)) ∧ (rv262.1.length ≤ 3)), sl (G.g 3 0) rv262.1, Cl pP [vl pa0 pk0 p.l, vi rv262.2.at_, vi rv262.2.Err], os (G.g 4 0) (([rv250.1] ++ rv262.1) : List Str), Cl p3 [vi 2, .string (bs (Str.mk [])), (G.g 4 0), .slice none 0 0]] ?_
   generalize G.g 3 0 = c261, G.g 4 0 = c264
   refine Jf 3 rfl ?_; rintro ⟨he271, he272, he273, he274⟩
   unfold i64ok at he271 he272
   refine Jk [1, 1, 3, 4, 4, 4] ?_
   refine Jo 2 ?_; rintro a275 k276 rfl
   refine Fb 16 2 fun hl277 => ?_
   refine FoS 2 fun ho278 => ?_
   refine Jo 4 ?_; rintro a279 k280 rfl
   refine Fb 16 4 fun hl281 => ?_
   refine FoS 4 fun ho282 => ?_
   refine KS ?_
   refine Oq Vm ?_
   refine letv (parser_end (Gparser.mk p.l rv262.2.at_ rv262.2.Err)) fun rv283 hg284 => ?_
   have hc285 := fn53 pP (Gparser.mk p.l rv262.2.at_ rv262.2.Err) pa0 pk0 pre pre pre rv283 hg284
   refine Oc [3, 1] ca53 hc285 ?_
   rintro - ⟨he286, he287, he288⟩
   unfold i64ok at he286 he287
   have he288 : (0 ≤ rv283.at_ ∧ rv283.at_ ≤ (p.l.length : Int)) := he288
   refine KS ?_
   refine Oq (VldA sh51 5) (Ost (Scl [1] sh51 [vi 2, .string (bs (Str.mk [])), vl a279 k280 ([rv250.1] ++ rv262.1), .slice none 0 0]) (KS ?_))
   refine Jl [4] (Ent.freeze _ _) ?_
   refine Jl [] (Ent.slNil (α := Str)) ?_
   have hq := q4 hrr ((GStmt.mk 2 (Str.mk []) ([rv250.1] ++ rv262.1) []), (Gparser.mk p.l rv283.at_ rv283.Err)) (by simp only [parser_stmt, h7, h246, h248, hg5, hg251, hg263, hg284, cs4]); subst hq
   exact Kr (vl a279 k280 ([rv250.1] ++ rv262.1), .slice none 0 0) rfl (.cellN 2 rfl sh51 rfl (reads_Cl _ _) rfl .nil) [1, 0, 3] en
 intro h248
 have g289 := ne_of_beq_false h248
 refine KS ?_
 refine Oq (VeqS (l := (Str.mk [])) (m := (Str.mk [99, 97, 108, 108]))) (Oq Va (KS ?_))
 refine Kc ?_ ?_
 · intro h290
   have g291 := eq_of_beq h290
   refine KS ?_
   refine Oq Vm ?_
   refine letv (parser_name p) fun rv292 hg293 => ?_
   have hc294 := fn52 pP p pa0 pk0 pre pre pre rv292 hg293
   refine Oc [0, 2] ca52 hc294 ?_
   rintro - ⟨he295, he296, he297, he298⟩
   unfold i64ok at he296 he297
   refine Oa (AsV sl40 sz40 [.string (bs rv292.1)] [.string (bs rv292.1)]) fun c299 => ?_
   refine Jo 0 ?_; rintro a300 k301 rfl
   refine Oq (Vfa fo51_0 2) (Ost (SclF [2] sh3 [vi 3, .string (bs (Str.mk [])), .slice none 0 0, .slice none 0 0]) (Oq (Vfa fo51_3 0) (Ost (SclF [0] sh40 [vi 3, .string (bs (Str.mk [])), .slice none 0 0, .slice a300 1 k301]) (KS ?_))))
   refine Oq Vm ?_
   refine letv (parser_end (Gparser.mk p.l rv292.2.at_ rv292.2.Err)) fun rv302 hg303 => ?_
   have hc304 := fn53 pP (Gparser.mk p.l rv292.2.at_ rv292.2.Err) pa0 pk0 pre pre pre rv302 hg303
   refine Oc [2, 3] ca53 hc304 ?_
   rintro - ⟨he305, he306, he307⟩
   unfold i64ok at he305 he306
   have he307 : (0 ≤ rv302.at_ ∧ rv302.at_ ≤ (p.l.length : Int)) := he307
   refine KS ?_
   refine Oq (VldA sh51 1) (Ost (Scl [3] sh51 [vi 3, .string (bs (Str.mk [])), .slice none 0 0, .slice a300 1 k301]) (KS ?_))
   refine Jl [3] (Ent.cr1 (α := Str) (A := []) _ rv292.1 _ (Nat.le_of_ble_eq_true rfl) (fun _ => ⟨rfl, by first | omega | (simp; done) | (dsimp only; omega) | exact lit_bl rfl⟩)) ?_
   refine Jl [0] (Ent.freeze _ _) ?_
   refine Jl [] (Ent.slNil (α := Str)) ?_
   have hq := q4 hrr ((GStmt.mk 3 (Str.mk []) [] [rv292.1]), (Gparser.mk p.l rv302.at_ rv302.Err)) (by simp only [parser_stmt, h7, h246, h248, h290, hg5, hg293, hg303, cs4]); subst hq
   exact Kr (.slice none 0 0, .slice a300 1 k301) rfl (.cellN 2 rfl sh51 rfl (reads_Cl _ _) rfl .nil) [0, 1, 3] en
 intro h290
 have g308 := ne_of_beq_false h290
 refine KS ?_
 refine Oq (VeqS (l := (Str.mk [])) (m := (Str.mk [115, 111, 117, 114, 99, 101]))) (Oq Va (KS ?_))
 refine Kc ?_ ?_
 · intro h309
   have g310 := eq_of_beq h309
   refine KS ?_
   refine Oq Vm ?_
   refine letv (parser_name p) fun rv311 hg312 => ?_
   have hc313 := fn52 pP p pa0 pk0 pre pre pre rv311 hg312
   refine Oc [0, 2] ca52 hc313 ?_
   rintro - ⟨he314, he315, he316, he317⟩
   unfold i64ok at he315 he316
   refine Oq (Vfa fo51_0 1) (Ost (SclF [1] sh3 [vi 4, .string (bs (Str.mk [])), .slice none 0 0, .slice none 0 0]) (Oq (Vfa fo51_1 0) (Ost (SclF [0] sh9 [vi 4, .string (bs rv311.1), .slice none 0 0, .slice none 0 0]) (KS ?_))))
   refine Oq Vm ?_
   refine letv (parser_end (Gparser.mk p.l rv311.2.at_ rv311.2.Err)) fun rv318 hg319 => ?_
   have hc320 := fn53 pP (Gparser.mk p.l rv311.2.at_ rv311.2.Err) pa0 pk0 pre pre pre rv318 hg319
   refine Oc [1, 2] ca53 hc320 ?_
   rintro - ⟨he321, he322, he323⟩
   unfold i64ok at he321 he322
   have he323 : (0 ≤ rv318.at_ ∧ rv318.at_ ≤ (p.l.length : Int)) := he323
   refine KS ?_
   refine Oq (VldA sh51 1) (Ost (Scl [2] sh51 [vi 4, .string (bs rv311.1), .slice none 0 0, .slice none 0 0]) (KS ?_))
   refine Jl [] (Ent.slNil (α := Str)) ?_
   have hq := q4 hrr ((GStmt.mk 4 rv311.1 [] []), (Gparser.mk p.l rv318.at_ rv318.Err)) (by simp only [parser_stmt, h7, h246, h248, h290, h309, hg5, hg312, hg319, cs4]); subst hq
   exact Kr (.slice none 0 0, .slice none 0 0) rfl (.cellN 1 rfl sh51 rfl (reads_Cl _ _) rfl .nil) [0, 0, 2] en
 intro h309
 have g324 := ne_of_beq_false h309
 refine KS ?_
 refine Oq (VeqS (l := (Str.mk [])) (m := (Str.mk [115, 105, 110, 107]))) (Oq Va (KS ?_))
 refine Kc ?_ ?_
 · intro h325
   have g326 := eq_of_beq h325
   refine KS ?_
   refine Oq Vm ?_
   refine letv (parser_name p) fun rv327 hg328 => ?_
   have hc329 := fn52 pP p pa0 pk0 pre pre pre rv327 hg328
   refine Oc [0, 2] ca52 hc329 ?_
   rintro - ⟨he330, he331, he332, he333⟩
   unfold i64ok at he331 he332
   refine Oa (AsV sl40 sz40 [.string (bs rv327.1)] [.string (bs rv327.1)]) fun c334 => ?_
   refine Jo 0 ?_; rintro a335 k336 rfl
   refine Oq (Vfa fo51_0 2) (Ost (SclF [2] sh3 [vi 5, .string (bs (Str.mk [])), .slice none 0 0, .slice none 0 0]) (Oq (Vfa fo51_2 0) (Ost (SclF [0] sh40 [vi 5, .string (bs (Str.mk [])), .slice a335 1 k336, .slice none 0 0]) (KS ?_))))
   refine Oq Vm ?_
   refine letv (parser_end (Gparser.mk p.l rv327.2.at_ rv327.2.Err)) fun rv337 hg338 => ?_
   have hc339 := fn53 pP (Gparser.mk p.l rv327.2.at_ rv327.2.Err) pa0 pk0 pre pre pre rv337 hg338
   refine Oc [2, 3] ca53 hc339 ?_
   rintro - ⟨he340, he341, he342⟩
   unfold i64ok at he340 he341
   have he342 : (0 ≤ rv337.at_ ∧ rv337.at_ ≤ (p.l.length : Int)) := he342
   refine KS ?_
   refine Oq (VldA sh51 1) (Ost (Scl [3] sh51 [vi 5, .string (bs (Str.mk [])), .slice a335 1 k336, .slice none 0 0]) (KS ?_))
   refine Jl [3] (Ent.cr1 (α := Str) (A := []) _ rv327.1 _ (Nat.le_of_ble_eq_true rfl) (fun _ => ⟨rfl, by first | omega | (simp; done) | (dsimp only; omega) | exact lit_bl rfl⟩)) ?_
   refine Jl [0] (Ent.freeze _ _) ?_
   refine Jl [] (Ent.slNil (α := Str)) ?_
   have hq := q4 hrr ((GStmt.mk 5 (Str.mk []) [rv327.1] []), (Gparser.mk p.l rv337.at_ rv337.Err)) (by simp only [parser_stmt, h7, h246, h248, h290, h309, h325, hg5, hg328, hg338, cs4]); subst hq
   exact Kr (.slice a335 1 k336, .slice none 0 0) rfl (.cellN 2 rfl sh51 rfl (reads_Cl _ _) rfl .nil) [1, 0, 3] en
 intro h325
 have g343 := ne_of_beq_false h325
 refine KS ?_
 refine Oq (VeqS (l := (Str.mk [])) (m := (Str.mk [115, 97, 110, 105, 116, 105, 122, 101]))) (Oq Va (KS ?_))
 refine Kc ?_ ?_
 · intro h344
   have g345 := eq_of_beq h344
   refine KS ?_
   refine Oq Vm ?_
   refine letv (parser_name p) fun rv346 hg347 => ?_
   have hc348 := fn52 pP p pa0 pk0 pre pre pre rv346 hg347
   refine Oc [0, 2] ca52 hc348 ?_
   rintro - ⟨he349, he350, he351, he352⟩
   unfold i64ok at he350 he351
   refine Oq (Vfa fo51_0 1) (Ost (SclF [1] sh3 [vi 6, .string (bs (Str.mk [])), .slice none 0 0, .slice none 0 0]) (Oq (Vfa fo51_1 0) (Ost (SclF [0] sh9 [vi 6, .string (bs rv346.1), .slice none 0 0, .slice none 0 0]) (KS ?_))))
   refine Oq Vm ?_
   refine letv (parser_end (Gparser.mk p.l rv346.2.at_ rv346.2.Err)) fun rv353 hg354 => ?_
   have hc355 := fn53 pP (Gparser.mk p.l rv346.2.at_ rv346.2.Err) pa0 pk0 pre pre pre rv353 hg354
   refine Oc [1, 2] ca53 hc355 ?_
   rintro - ⟨he356, he357, he358⟩
   unfold i64ok at he356 he357
   have he358 : (0 ≤ rv353.at_ ∧ rv353.at_ ≤ (p.l.length : Int)) := he358
   refine KS ?_
   refine Oq (VldA sh51 1) (Ost (Scl [2] sh51 [vi 6, .string (bs rv346.1), .slice none 0 0, .slice none 0 0]) (KS ?_))
   refine Jl [] (Ent.slNil (α := Str)) ?_
   have hq := q4 hrr ((GStmt.mk 6 rv346.1 [] []), (Gparser.mk p.l rv353.at_ rv353.Err)) (by simp only [parser_stmt, h7, h246, h248, h290, h309, h325, h344, hg5, hg347, hg354, cs4]); subst hq
   exact Kr (.slice none 0 0, .slice none 0 0) rfl (.cellN 1 rfl sh51 rfl (reads_Cl _ _) rfl .nil) [0, 0, 2] en
 intro h344
 have g359 := ne_of_beq_false h344
 refine KS ?_
 refine Oq (VeqS (l := (Str.mk [])) (m := (Str.mk [103, 111, 116, 111]))) (Oq Va (KS ?_))
 refine Kc ?_ ?_
 · intro h360
   have g361 := eq_of_beq h360
   refine KS ?_
   refine Oq Vm ?_
   refine letv (parser_name p) fun rv362 hg363 => ?_
   have hc364 := fn52 pP p pa0 pk0 pre pre pre rv362 hg363
   refine Oc [0, 2] ca52 hc364 ?_
   rintro - ⟨he365, he366, he367, he368⟩
   unfold i64ok at he366 he367
   refine Oa (AsV sl40 sz40 [.string (bs rv362.1)] [.string (bs rv362.1)]) fun c369 => ?_
   refine Jo 0 ?_; rintro a370 k371 rfl
   refine Oq (Vfa fo51_0 2) (Ost (SclF [2] sh3 [vi 7, .string (bs (Str.mk [])), .slice none 0 0, .slice none 0 0]) (Oq (Vfa fo51_3 0) (Ost (SclF [0] sh40 [vi 7, .string (bs (Str.mk [])), .slice none 0 0, .slice a370 1 k371]) (KS ?_))))
   refine Oq Vm ?_
   refine letv (parser_end (Gparser.mk p.l rv362.2.at_ rv362.2.Err)) fun rv372 hg373 => ?_
   have hc374 := fn53 pP (Gparser.mk p.l rv362.2.at_ rv362.2.Err) pa0 pk0 pre pre pre rv372 hg373
   refine Oc [2, 3] ca53 hc374 ?_
   rintro - ⟨he375, he376, he377⟩
   unfold i64ok at he375 he376
   have he377 : (0 ≤ rv372.at_ ∧ rv372.at_ ≤ (p.l.length : Int)) := he377
   refine KS ?_
   refine Oq (VldA sh51 1) (Ost (Scl [3] sh51 [vi 7, .string (bs (Str.mk [])), .slice none 0 0, .slice a370 1 k371]) (KS ?_))
   refine Jl [3] (Ent.cr1 (α := Str) (A := []) _ rv362.1 _ (Nat.le_of_ble_eq_true rfl) (fun _ => ⟨rfl, by first | omega | (simp; done) | (dsimp only; omega) | exact lit_bl rfl⟩)) ?_
   refine Jl [0] (Ent.freeze _ _) ?_
   refine Jl [] (Ent.slNil (α := Str)) ?_
   have hq := q4 hrr ((GStmt.mk 7 (Str.mk []) [] [rv362.1]), (Gparser.mk p.l rv372.at_ rv372.Err)) (by simp only [parser_stmt, h7, h246, h248, h290, h309, h325, h344, h360, hg5, hg363, hg373, cs4]); subst hq
   exact Kr (.slice none 0 0, .slice a370 1 k371) rfl (.cellN 2 rfl sh51 rfl (reads_Cl _ _) rfl .nil) [0, 1, 3] en
 intro h360
 have g378 := ne_of_beq_false h360
 refine KS ?_
 refine Oq (VeqS (l := (Str.mk [])) (m := (Str.mk [98, 114, 97, 110, 99, 104]))) (Oq Va (KS ?_))
 refine Kc ?_ ?_
 · intro h379
   have g380 := eq_of_beq h379
   refine KS ?_
   refine Oq Vm ?_
   refine letv (parser_name p) fun rv381 hg382 => ?_
   have hc383 := fn52 pP p pa0 pk0 pre pre pre rv381 hg382
   refine Oc [0, 2] ca52 hc383 ?_
   rintro - ⟨he384, he385, he386, he387⟩
   unfold i64ok at he385 he386
   refine Oa (AsV sl40 sz40 [.string (bs rv381.1)] [.string (bs rv381.1)]) fun c388 => ?_
   refine Jo 0 ?_; rintro a389 k390 rfl
   refine Oq (Vfa fo51_0 2) (Ost (SclF [2] sh3 [vi 8, .string (bs (Str.mk [])), .slice none 0 0, .slice none 0 0]) (Oq (Vfa fo51_2 0) (Ost (SclF [0] sh40 [vi 8, .string (bs (Str.mk [])), .slice a389 1 k390, .slice none 0 0]) (KS ?_))))
   refine Oq Vm ?_
   refine letv (parser_name (Gparser.mk p.l rv381.2.at_ rv381.2.Err)) fun rv391 hg392 => ?_
   have hc393 := fn52 pP (Gparser.mk p.l rv381.2.at_ rv381.2.Err) pa0 pk0 pre pre pre rv391 hg392
   refine Oc [2, 3] ca52 hc393 ?_
   rintro - ⟨he394, he395, he396, he397⟩
   unfold i64ok at he395 he396
   have he397 : (0 ≤ rv391.2.at_ ∧ rv391.2.at_ ≤ (p.l.length : Int)) := he397
   refine Oa (AsV sl40 sz40 [.string (bs rv391.1)] [.string (bs rv391.1)]) fun c398 => ?_
   refine Jo 0 ?_; rintro a399 k400 rfl
   refine Oq (Vfa fo51_3 2) (Ost (SclF [2] sh40 [vi 8, .string (bs (Str.mk [])), .slice a389 1 k390, .slice a399 1 k400]) (KS ?_))
   refine Jp 0 fun hp401 => ?_
   refine JK_drawK [0, 1, 0, 4, 12, 31, 63, 127] fmix ?_
   refine Dv [0] (Vfa fo51_3 0) (Dv [1] (VldF sh40 0) (Dv [] Vm ?_))
   refine letv (parser_name (Gparser.mk p.l rv391.2.at_ rv391.2.Err)) fun rv402 hg403 => ?_
   refine Dx [3, 6] [3] [2, 0, 1] (fun G => .string (bs rv402.1)) [fun G => SP.fact (rv402.1.b.length ≤ 140737488355328 ∧ i64ok rv402.2.at_ ∧ i64ok rv402.2.Err ∧ (0 ≤ rv402.2.at_ ∧ rv402.2.at_ ≤ ((Gparser.mk p.l rv391.2.at_ rv391.2.Err).l.length : Int))), fun G => Cl pP [vl pa0 pk0 p.l, vi rv402.2.at_, vi rv402.2.Err]] (fun G => xC [0, 0] ca52 (fn52 pP (Gparser.mk p.l rv391.2.at_ rv391.2.Err) pa0 pk0 pre pre pre rv402 hg403)) (Dx [] [] [0] (fun G => (G.g 4 0)) [fun G => Cr (G.g 4 0) 1 [.string (bs rv402.1)]] (fun G => xA (AsV sl40 sz40 [.string (bs rv402.1)] [.string (bs rv402.1)])) ?_)
   have hn406 := la ([rv391.1] : List Str) ([rv402.1] : List Str)
   refine Dx [2, 7, 9] [2, 9] [1, 0] (fun G => (G.g 5 0)) [fun G => os (G.g 5 0) (([rv391.1] ++ [rv402.1]) : List Str)] (fun G => by refine xf 1 rfl ?_; rintro ⟨he407, he408, he409, he410⟩; unfold i64ok at he408 he409; exact xp [0] rfl (Ent.cr1 (α := Str) (A := []) _ rv391.1 _ (Nat.le_of_ble_eq_true rfl) (fun _ => ⟨rfl, by first | omega | (simp; done) | (dsimp only; omega) | exact lit_bl rfl⟩)) (xp [2] rfl (Ent.cr1 (α := Str) (A := []) _ rv402.1 _ (Nat.le_of_ble_eq_true rfl) (fun _ => ⟨rfl, by first | omega | (simp; done) | (dsimp only; omega) | exact lit_bl rfl⟩)) (xA (ApO [1, 0] sl40 sl40 sz40)))) (Dv [0] (Vfa fo51_3 0) (Dx0 [1, 10] [1] [1, 0] [fun G => Cl p3 [vi 8, .string (bs (Str.mk [])), .slice a389 1 k390, (G.g 5 0)]] (fun G => x1 1 rfl os_one fun ho411 => (xS (OpS.frame [0] rfl (OpS.storeClF [(G.g 5 0)] [vi 8, .string (bs (Str.mk [])), .slice a389 1 k390, (G.g 5 0)] rfl rfl rfl sh40 (cells_of_one ho411) rfl (by simp only [List.all_cons, List.all_nil, ho411, Bool.and_true, Bool.true_and] <;> rfl) (Nat.le_of_ble_eq_true rfl) rfl)))) ?_))
   refine Dn ⟨by kernel_rfl, fun G => ?_⟩
   refine Jw2 [(0, pP), (2, p2), (3, p3)] [0, 4, 5, 6] [SP.fact (rv402.1.b.length ≤ 140737488355328 ∧ i64ok rv402.2.at_ ∧ i64ok rv402.2.Err ∧ (0 ≤ rv402.2.at_ ∧ rv402.2.at_ ≤ ((Gparser.mk p.l rv391.2.at_ rv391.2.Err).l.length : Int))), Cl pP [vl pa0 pk0 p.l, vi rv402.2.at_, vi rv402.2.Err], os (G.g 5 0) (([rv391.1] ++ [rv402.1]) : List Str), Cl p3 [vi 8, .string (bs (Str.mk [])), .slice a389 1 k390, (G.g 5 0)]] ?_
   generalize G.g 5 0 = c405
   refine Jf 4 rfl ?_; rintro ⟨he412, he413, he414, he415⟩
   unfold i64ok at he413 he414
   refine Jk [1, 1, 1, 3, 3, 3] ?_
   refine Jo 4 ?_; rintro a416 k417 rfl
   refine Fb 16 4 fun hl418 => ?_
   refine FoS 4 fun ho419 => ?_
   refine KS ?_
   refine Oq Vm ?_
   refine letv (parser_end (Gparser.mk p.l rv402.2.at_ rv402.2.Err)) fun rv420 hg421 => ?_
   have hc422 := fn53 pP (Gparser.mk p.l rv402.2.at_ rv402.2.Err) pa0 pk0 pre pre pre rv420 hg421
   refine Oc [3, 2] ca53 hc422 ?_
   rintro - ⟨he423, he424, he425⟩
   unfold i64ok at he423 he424
   have he425 : (0 ≤ rv420.at_ ∧ rv420.at_ ≤ (p.l.length : Int)) := he425
   refine KS ?_
   refine Oq (VldA sh51 5) (Ost (Scl [2] sh51 [vi 8, .string (bs (Str.mk [])), .slice a389 1 k390, vl a416 k417 ([rv391.1] ++ [rv402.1])]) (KS ?_))
   refine Jl [2] (Ent.cr1 (α := Str) (A := []) _ rv381.1 _ (Nat.le_of_ble_eq_true rfl) (fun _ => ⟨rfl, by first | omega | (simp; done) | (dsimp only; omega) | exact lit_bl rfl⟩)) ?_
   refine Jl [0] (Ent.freeze _ _) ?_
   refine Jl [4] (Ent.freeze _ _) ?_
   have hq := q4 hrr ((GStmt.mk 8 (Str.mk []) [rv381.1] ([rv391.1] ++ [rv402.1])), (Gparser.mk p.l rv420.at_ rv420.Err)) (by simp only [parser_stmt, h7, h246, h248, h290, h309, h325, h344, h360, h379, hg5, hg382, hg392, hg403, hg421, cs4]); subst hq
   exact Kr (.slice a389 1 k390, vl a416 k417 ([rv391.1] ++ [rv402.1])) rfl (.cellN 2 rfl sh51 rfl (reads_Cl _ _) rfl .nil) [1, 0, 3] en
 intro h379
 have g426 := ne_of_beq_false h379
 refine KS ?_
 refine Oq (VeqS (l := (Str.mk [])) (m := (Str.mk [114, 101, 116, 117, 114, 110]))) (Oq Va (KS ?_))
 refine Kc ?_ ?_
 · intro h427
   have g428 := eq_of_beq h427
   refine KS ?_
   refine Oq (Vfa fo51_0 1) (Ost (SclF [1] sh3 [vi 9, .string (bs (Str.mk [])), .slice none 0 0, .slice none 0 0]) (KS ?_))
   refine Oq Vm ?_
   refine letv (parser_end p) fun rv429 hg430 => ?_
   have hc431 := fn53 pP p pa0 pk0 pre pre pre rv429 hg430
   refine Oc [1, 2] ca53 hc431 ?_
   rintro - ⟨he432, he433, he434⟩
   unfold i64ok at he432 he433
   refine KS ?_
   refine Oq (VldA sh51 1) (Ost (Scl [2] sh51 [vi 9, .string (bs (Str.mk [])), .slice none 0 0, .slice none 0 0]) (KS ?_))
   refine Jl [] (Ent.slNil (α := Str)) ?_
   have hq := q4 hrr ((GStmt.mk 9 (Str.mk []) [] []), (Gparser.mk p.l rv429.at_ rv429.Err)) (by simp only [parser_stmt, h7, h246, h248, h290, h309, h325, h344, h360, h379, h427, hg5, hg430, cs4]); subst hq
   exact Kr (.slice none 0 0, .slice none 0 0) rfl (.cellN 1 rfl sh51 rfl (reads_Cl _ _) rfl .nil) [0, 0, 2] en
 intro h427
 have g435 := ne_of_beq_false h427
 refine KS ?_
 refine Oq Vm ?_
 refine letv (parser_name p) fun rv436 hg437 => ?_
 have hc438 := fn52 pP p pa0 pk0 pre pre pre rv436 hg437
 refine Oc [0, 2] ca52 hc438 ?_
 rintro - ⟨he439, he440, he441, he442⟩
 unfold i64ok at he440 he441
 refine Oq (Vfa fo51_0 1) (Ost (SclF [1] sh3 [vi 1, .string (bs (Str.mk [])), .slice none 0 0, .slice none 0 0]) (Oq (Vfa fo51_1 0) (Ost (SclF [0] sh9 [vi 1, .string (bs rv436.1), .slice none 0 0, .slice none 0 0]) (KS ?_))))
 refine Oq Vm ?_
 refine letv (parser_isKind (Gparser.mk p.l rv436.2.at_ rv436.2.Err) 2) fun rv443 hg444 => ?_
 have hc445 := fn64 pP (Gparser.mk p.l rv436.2.at_ rv436.2.Err) pa0 pk0 2 pre pre pre pre rv443 hg444
 refine Oc [1, 2] ca64 hc445 ?_
 rintro - -
 refine Oq Vnot (KS ?_)
 refine Kc ?_ ?_
 · intro h446
   have h448 := not_true h446
   refine KS ?_
   refine Oq Vm ?_
   refine letv (parser_fail (Gparser.mk p.l rv436.2.at_ rv436.2.Err) 4) fun rv450 hg451 => ?_
   have hc452 := fn42 pP (Gparser.mk p.l rv436.2.at_ rv436.2.Err) pa0 pk0 4 pre pre pre pre rv450 hg451
   refine Oc [0, 2] ca42 hc452 ?_
   rintro - ⟨he453, he454, he455⟩
   unfold i64ok at he453 he454
   have he455 : (0 ≤ rv450.at_ ∧ rv450.at_ ≤ (p.l.length : Int)) := he455
   refine KS ?_
   refine Oq (VldA sh51 1) (Ost (Scl [2] sh51 [vi 1, .string (bs rv436.1), .slice none 0 0, .slice none 0 0]) (KS ?_))
   refine Jl [] (Ent.slNil (α := Str)) ?_
   have hq := q4 hrr ((GStmt.mk 1 rv436.1 [] []), (Gparser.mk p.l rv450.at_ rv450.Err)) (by simp only [parser_stmt, h7, h246, h248, h290, h309, h325, h344, h360, h379, h427, h446, h448, hg5, hg437, hg444, hg451, cs4]); subst hq
   exact Kr (.slice none 0 0, .slice none 0 0) rfl (.cellN 1 rfl sh51 rfl (reads_Cl _ _) rfl .nil) [0, 0, 2] en
 intro h446
 have h457 := not_false h446
 try (have hlt := is_lt2 (by assumption : parser_is _ _ = rv443) h457; try dsimp only at hlt)
 try (have hlt := isName_lt2 (by assumption : parser_isName _ = rv443) h457; try dsimp only at hlt)
 try (have hlt := isKind_lt2 (by assumption : parser_isKind _ _ = rv443) h457; try dsimp only at hlt)
 refine KS ?_
 refine Oq Vm (Oq (Vn 0) (Oq (Vfa fo81_1 0) (Oq (VldF sh3 0) (Oq Vadd (Oq (Vn 0) (Oq (Vfa fo81_1 0) (Ost (SclF [0] sh3 [vl pa0 pk0 p.l, vi (rv436.2.at_ + 1), vi rv436.2.Err]) (KS ?_))))))))
 refine Oq Vm ?_
 refine letv (parser_names (Gparser.mk p.l (rv436.2.at_ + 1) rv436.2.Err)) fun rv460 hg461 => ?_
 have hc462 := fn71 pP (Gparser.mk p.l (rv436.2.at_ + 1) rv436.2.Err) pa0 pk0 pre pre pre rv460 hg461
 refine Oc [0, 2] ca71 hc462 ?_
 rintro c459 ⟨he463, he464, he465, he466⟩
 unfold i64ok at he463 he464
 have he465 : (0 ≤ rv460.2.at_ ∧ rv460.2.at_ ≤ (p.l.length : Int)) := he465
 refine Jo 0 ?_; rintro a467 k468 rfl
 refine Fb 16 0 fun hl469 => ?_
 refine FoS 0 fun ho470 => ?_
 refine Oq (Vfa fo51_2 2) (Ost (SclF [2] sh40 [vi 1, .string (bs rv436.1), vl a467 k468 rv460.1, .slice none 0 0]) (KS ?_))
 refine Oq Vm ?_
 refine letv (parser_end (Gparser.mk p.l rv460.2.at_ rv460.2.Err)) fun rv471 hg472 => ?_
 have hc473 := fn53 pP (Gparser.mk p.l rv460.2.at_ rv460.2.Err) pa0 pk0 pre pre pre rv471 hg472
 refine Oc [2, 3] ca53 hc473 ?_
 rintro - ⟨he474, he475, he476⟩
 unfold i64ok at he474 he475
 have he476 : (0 ≤ rv471.at_ ∧ rv471.at_ ≤ (p.l.length : Int)) := he476
 refine KS ?_
 refine Oq (VldA sh51 1) (Ost (Scl [3] sh51 [vi 1, .string (bs rv436.1), vl a467 k468 rv460.1, .slice none 0 0]) (KS ?_))
 refine Jl [] (Ent.slNil (α := Str)) ?_
 have hq := q4 hrr ((GStmt.mk 1 rv436.1 rv460.1 []), (Gparser.mk p.l rv471.at_ rv471.Err)) (by simp only [parser_stmt, h7, h246, h248, h290, h309, h325, h344, h360, h379, h427, h446, h457, hg5, hg437, hg444, hg461, hg472, cs4]); subst hq
 exact Kr (vl a467 k468 rv460.1, .slice none 0 0) rfl (.cellN 1 rfl sh51 rfl (reads_Cl _ _) rfl .nil) [4, 0, 2] en
theorem fn54 (pP : Value) (p : Gparser) (pa0 : Option Addr) (pk0 : Nat) (hp_1 : i64ok p.at_) (hp_2 : i64ok p.Err) (hpa : (0 ≤ p.at_ ∧ p.at_ ≤ (p.l.length : Int))) (rr : GBlock × Gparser) (hrr : parser_block p = rr) : FT Tryd.prog 54 #[pP] [Cl pP [vl pa0 pk0 p.l, vi p.at_, vi p.Err], S pa0 pk0 p.l] (fun g : Value => rr.1.Name.b.length ≤ 140737488355328 ∧ i64ok rr.2.at_ ∧ i64ok rr.2.Err ∧ (0 ≤ rr.2.at_ ∧ rr.2.at_ ≤ (p.l.length : Int))) (fun g => .agg #[.string (bs rr.1.Name), g]) (fun g => [sl g rr.1.Stmts, Cl pP [vl pa0 pk0 p.l, vi rr.2.at_, vi rr.2.Err]]) := by
 refine FTi Tryd.func54 fun w0 M0 F0 => ?_
 unfold i64ok at hp_1 hp_2
 refine Fb 40 1 fun hl1 => ?_
 refine KS ?_
 refine Oa (Al ze49 [.string (bs (Str.mk [])), .slice none 0 0]) fun p2 => KS ?_
 refine Oa (Al ze49 [.string (bs (Str.mk [])), .slice none 0 0]) fun p3 => KS ?_
 refine Oq Vm ?_
 refine letv (parser_word p (Str.mk [98, 108, 111, 99, 107])) fun rv4 hg5 => ?_
 have hc6 := fn51 pP p pa0 pk0 ((Str.mk [98, 108, 111, 99, 107])) pre pre pre pre rv4 hg5
 refine Oc [2, 2] ca51 hc6 ?_
 rintro - ⟨he7, he8, he9⟩
 unfold i64ok at he7 he8
 refine KS ?_
 refine Oq Vm ?_
 refine letv (parser_name (Gparser.mk p.l rv4.at_ rv4.Err)) fun rv10 hg11 => ?_
 have hc12 := fn52 pP (Gparser.mk p.l rv4.at_ rv4.Err) pa0 pk0 pre pre pre rv10 hg11
 refine Oc [0, 2] ca52 hc12 ?_
 rintro - ⟨he13, he14, he15, he16⟩
 unfold i64ok at he14 he15
 have he16 : (0 ≤ rv10.2.at_ ∧ rv10.2.at_ ≤ (p.l.length : Int)) := he16
 refine Oq (Vfa fo49_0 1) (Ost (SclF [1] sh9 [.string (bs rv10.1), .slice none 0 0]) (KS ?_))
 refine Oq Vm ?_
 refine letv (parser_end (Gparser.mk p.l rv10.2.at_ rv10.2.Err)) fun rv17 hg18 => ?_
 have hc19 := fn53 pP (Gparser.mk p.l rv10.2.at_ rv10.2.Err) pa0 pk0 pre pre pre rv17 hg18
 refine Oc [1, 2] ca53 hc19 ?_
 rintro - ⟨he20, he21, he22⟩
 unfold i64ok at he20 he21
 have he22 : (0 ≤ rv17.at_ ∧ rv17.at_ ≤ (p.l.length : Int)) := he22
 refine KS ?_
 refine Oq Vm ?_
 refine letv (parser_begins (Gparser.mk p.l rv17.at_ rv17.Err)) fun rv23 hg24 => ?_
 have hc25 := fn65 pP (Gparser.mk p.l rv17.at_ rv17.Err) pa0 pk0 pre pre pre rv23 hg24
 refine Oc [0, 2] ca65 hc25 ?_
 rintro - -
 refine Oq Vnot (KS ?_)
 refine Kc ?_ ?_
 · intro h26
   have h28 := not_true h26
   refine KS ?_
   refine Oq Vm ?_
   refine letv (parser_fail (Gparser.mk p.l rv17.at_ rv17.Err) 4) fun rv30 hg31 => ?_
   have hc32 := fn42 pP (Gparser.mk p.l rv17.at_ rv17.Err) pa0 pk0 4 pre pre pre pre rv30 hg31
   refine Oc [0, 2] ca42 hc32 ?_
   rintro - ⟨he33, he34, he35⟩
   unfold i64ok at he33 he34
   have he35 : (0 ≤ rv30.at_ ∧ rv30.at_ ≤ (p.l.length : Int)) := he35
   refine KS ?_
   refine Jl [] (Ent.osNil (α := GStmt)) ?_
   have hterm47 : parser_block_L0 p rv10.1 (p.l.length + 1) rv30.at_ rv30.Err [] ≠ LR.oof := (block_L0_adv _ _ _ _ (by omega)).1
   refine Kl (γ := Nat × Int × Int × List GStmt × Option Addr × Nat) (fun (r36, p1_37, p2_38, b1_39, a40, k41) => ⟨[(0, pP), (2, p2), (3, p3)], [O a40 k41 b1_39, Cl pP [vl pa0 pk0 p.l, vi p1_37, vi p2_38], Cl p3 [.string (bs rv10.1), vl a40 k41 b1_39], Cl p2 [.string (bs (Str.mk [])), .slice none 0 0], S pa0 pk0 p.l], parser_block_L0 p rv10.1 r36 p1_37 p2_38 b1_39 = parser_block_L0 p rv10.1 (p.l.length + 1) rv30.at_ rv30.Err [] ∧ (-9223372036854775808 ≤ p1_37 ∧ p1_37 ≤ 9223372036854775807) ∧ (-9223372036854775808 ≤ p2_38 ∧ p2_38 ≤ 9223372036854775807) ∧ (0 ≤ p1_37 ∧ p1_37 ≤ (p.l.length : Int)) ∧ (b1_39.length ≤ 32), r36⟩) ((p.l.length + 1), rv30.at_, rv30.Err, [], none, 0) [0, 0, 0, 0, 0] ⟨rfl, (by omega), (by omega), iv0, iv0⟩ ?_
   rintro ⟨r36, p1_37, p2_38, b1_39, a40, k41⟩ ⟨hM42, hk43, hk44, hv45, hv46⟩
   refine JJ_nx fun _ _ hL hA => ?_; dsimp only at hL hA; subst hL hA
   refine Fb 72 0 fun hl48 => ?_
   refine Fb 40 4 fun hl49 => ?_
   rcases r36 with _ | r36
   · exact absurd (hM42.symm.trans rfl) hterm47
   refine KS ?_
   refine Oq Vm ?_
   refine letv (parser_begins (Gparser.mk p.l p1_37 p2_38)) fun rv50 hg51 => ?_
   have hc52 := fn65 pP (Gparser.mk p.l p1_37 p2_38) pa0 pk0 pre pre pre rv50 hg51
   refine Oc [1, 3] ca65 hc52 ?_
   rintro - -
   refine KS ?_
   refine Kc ?_ ?_
   · intro h53
     refine KS ?_
     refine Oq (Vfa fo49_1 2) (Oq (VldF sh47 2) (Oq (Vlen sl47) (Oq Veql (KS ?_))))
     refine Kc ?_ ?_
     · intro h55
       have g56 := eq_of_beq h55
       refine KS ?_
       refine Oq Vm ?_
       refine letv (parser_fail (Gparser.mk p.l p1_37 p2_38) 7) fun rv57 hg58 => ?_
       have hc59 := fn42 pP (Gparser.mk p.l p1_37 p2_38) pa0 pk0 7 pre pre pre pre rv57 hg58
       refine Oc [0, 3] ca42 hc59 ?_
       rintro - ⟨he60, he61, he62⟩
       unfold i64ok at he60 he61
       have he62 : (0 ≤ rv57.at_ ∧ rv57.at_ ≤ (p.l.length : Int)) := he62
       refine KS ?_
       refine Oq (VldA sh49 2) (Ost (Scl [3] sh49 [.string (bs rv10.1), vl a40 k41 b1_39]) (KS ?_))
       refine Jl [2] (Ent.freeze _ _) ?_
       have hR63 := q2 hM42 (.ret ((GBlock.mk rv10.1 b1_39), (Gparser.mk p.l rv57.at_ rv57.Err))) (by simp only [parser_block_L0, h26, h28, h53, h55, hg5, hg11, hg18, hg24, hg31, hg51, hg58, cs4])
       have hq := q4 hrr ((GBlock.mk rv10.1 b1_39), (Gparser.mk p.l rv57.at_ rv57.Err)) (by simp only [parser_block, h26, h28, h53, h55, hg5, hg11, hg18, hg24, hg31, hg51, hg58, hR63, cs4]); subst hq
       exact Kr (vl a40 k41 b1_39) rfl (.cellN 1 rfl sh49 rfl (reads_Cl _ _) rfl .nil) [0, 2] en
     intro h55
     have g64 := ne_of_beq_false h55
     refine KS ?_
     refine Jp 2 fun hp65 => ?_
     refine JK_drawK [0, 1, 0, 4, 12, 31, 63, 127] fmix ?_
     refine Dv [0] (Vfa fo49_1 0) (Dv [3] (VldF sh47 0) (Dv [] Vm ?_))
     refine letv (parser_stmt (Gparser.mk p.l p1_37 p2_38)) fun rv68 hg69 => ?_
     refine Dx [1, 5] [1] [4, 0, 1, 2, 3] (fun G => .agg #[vi rv68.1.Op, .string (bs rv68.1.Def), (G.g 3 0), (G.g 3 1)]) [fun G => SP.fact (i64ok rv68.1.Op ∧ rv68.1.Def.b.length ≤ 140737488355328 ∧ i64ok rv68.2.at_ ∧ i64ok rv68.2.Err ∧ (0 ≤ rv68.2.at_ ∧ rv68.2.at_ ≤ ((Gparser.mk p.l p1_37 p2_38).l.length : Int))), fun G => sl (G.g 3 0) rv68.1.Uses, fun G => sl (G.g 3 1) rv68.1.Targets, fun G => Cl pP [vl pa0 pk0 p.l, vi rv68.2.at_, vi rv68.2.Err]] (fun G => xC [0, 0] ca66 (fn66 pP (Gparser.mk p.l p1_37 p2_38) pa0 pk0 pre pre pre (by simp only [h26, h28, h53, h55, hg5, hg11, hg18, hg24, hg31, hg51]) rv68 hg69)) (Dx [] [] [0] (fun G => (G.g 4 0)) [fun G => Cr (G.g 4 0) 1 [vi rv68.1.Op, .string (bs rv68.1.Def), (G.g 3 0), (G.g 3 1)]] (fun G => xA (AsV sl47 sz47 [.agg #[vi rv68.1.Op, .string (bs rv68.1.Def), (G.g 3 0), (G.g 3 1)]] [vi rv68.1.Op, .string (bs rv68.1.Def), (G.g 3 0), (G.g 3 1)])) ?_)
     have hn72 := la b1_39 ([rv68.1] : List GStmt)
     refine Dx [2, 6, 7, 8, 10] [2, 10] [3, 1, 2, 0] (fun G => (G.g 5 0)) [fun G => os (G.g 5 0) ((b1_39 ++ [rv68.1]) : List GStmt)] (fun G => by refine xf 1 rfl ?_; rintro ⟨he73, he74, he75, he76, he77⟩; unfold i64ok at he73 he75 he76; exact xp [4, 2, 3] rfl (Ent.cr1 (α := GStmt) (A := [sl (G.g 3 0) rv68.1.Uses, sl (G.g 3 1) rv68.1.Targets]) _ rv68.1 _ (Nat.le_of_ble_eq_true rfl) (fun h => ⟨_, _, rfl, (by unfold i64ok; first | omega | (dsimp only; omega)), (by first | omega | (simp; done) | (dsimp only; omega) | exact lit_bl rfl), sepAll_get (i := 0) rfl h, sepAll_get (i := 1) rfl h⟩)) (xA (ApO [3, 0] sl47 sl47 sz47))) (Dv [0] (Vfa fo49_1 0) (Dx0 [3, 11] [3] [1, 0] [fun G => Cl p3 [.string (bs rv10.1), (G.g 5 0)]] (fun G => x1 1 rfl os_one fun ho78 => (xS (OpS.frame [0] rfl (OpS.storeClF [(G.g 5 0)] [.string (bs rv10.1), (G.g 5 0)] rfl rfl rfl sh47 (cells_of_one ho78) rfl (by simp only [List.all_cons, List.all_nil, ho78, Bool.and_true, Bool.true_and] <;> rfl) (Nat.le_of_ble_eq_true rfl) rfl)))) ?_))
     refine Dn ⟨by kernel_rfl, fun G => ?_⟩
     refine Jw2 [(0, pP), (2, p2), (3, p3)] [0, 4, 5] [SP.fact (i64ok rv68.1.Op ∧ rv68.1.Def.b.length ≤ 140737488355328 ∧ i64ok rv68.2.at_ ∧ i64ok rv68.2.Err ∧ (0 ≤ rv68.2.at_ ∧ rv68.2.at_ ≤ ((Gparser.mk p.l p1_37 p2_38).l.length : Int))), sl (G.g 3 0) rv68.1.Uses, sl (G.g 3 1) rv68.1.Targets, Cl pP [vl pa0 pk0 p.l, vi rv68.2.at_, vi rv68.2.Err], os (G.g 5 0) ((b1_39 ++ [rv68.1]) : List GStmt), Cl p3 [.string (bs rv10.1), (G.g 5 0)]] ?_
     generalize G.g 3 0 = c66, G.g 3 1 = c67, G.g 5 0 = c71
     refine Jf 3 rfl ?_; rintro ⟨he79, he80, he81, he82, he83⟩
     unfold i64ok at he79 he81 he82
     refine Jk [1, 1, 3, 4, 5, 5, 5] ?_
     refine Jo 2 ?_; rintro a84 k85 rfl
     refine Fb 16 2 fun hl86 => ?_
     refine FoS 2 fun ho87 => ?_
     refine Jo 3 ?_; rintro a88 k89 rfl
     refine Fb 16 3 fun hl90 => ?_
     refine FoS 3 fun ho91 => ?_
     refine Jo 5 ?_; rintro a92 k93 rfl
     refine Fb 72 5 fun hl94 => ?_
     refine KS ?_
     exact Kg (r36, rv68.2.at_, rv68.2.Err, (b1_39 ++ [rv68.1]), a92, k93) [5, 4, 4, 0, 0] ⟨(q3 hM42 (by simp only [parser_block_L0, h26, h28, h53, h55, hg5, hg11, hg18, hg24, hg31, hg51, hg69, cs4])), (by omega), (by omega), iv1, iv1⟩
   intro h53
   refine Ke ?_
   have hR96 := q2 hM42 (.brk (p1_37, p2_38, b1_39)) (by simp only [parser_block_L0, h26, h28, h53, hg5, hg11, hg18, hg24, hg31, hg51, cs4])
   refine KS ?_
   refine Oq (VldA sh49 2) (Ost (Scl [3] sh49 [.string (bs rv10.1), vl a40 k41 b1_39]) (KS ?_))
   refine Jl [2] (Ent.freeze _ _) ?_
   have hq := q4 hrr ((GBlock.mk rv10.1 b1_39), (Gparser.mk p.l p1_37 p2_38)) (by simp only [parser_block, h26, h28, h53, hg5, hg11, hg18, hg24, hg31, hg51, hR96, cs4]); subst hq
   exact Kr (vl a40 k41 b1_39) rfl (.cellN 1 rfl sh49 rfl (reads_Cl _ _) rfl .nil) [0, 2] en
 intro h26
 have h98 := not_false h26
 refine KS ?_
 refine Jl [] (Ent.osNil (α := GStmt)) ?_
 have hterm111 : parser_block_L0 p rv10.1 (p.l.length + 1) rv17.at_ rv17.Err [] ≠ LR.oof := (block_L0_adv _ _ _ _ (by omega)).1
 refine Kl (γ := Nat × Int × Int × List GStmt × Option Addr × Nat) (fun (r100, p1_101, p2_102, b1_103, a104, k105) => ⟨[(0, pP), (2, p2), (3, p3)], [O a104 k105 b1_103, Cl pP [vl pa0 pk0 p.l, vi p1_101, vi p2_102], Cl p3 [.string (bs rv10.1), vl a104 k105 b1_103], Cl p2 [.string (bs (Str.mk [])), .slice none 0 0], S pa0 pk0 p.l], parser_block_L0 p rv10.1 r100 p1_101 p2_102 b1_103 = parser_block_L0 p rv10.1 (p.l.length + 1) rv17.at_ rv17.Err [] ∧ (-9223372036854775808 ≤ p1_101 ∧ p1_101 ≤ 9223372036854775807) ∧ (-9223372036854775808 ≤ p2_102 ∧ p2_102 ≤ 9223372036854775807) ∧ (0 ≤ p1_101 ∧ p1_101 ≤ (p.l.length : Int)) ∧ (b1_103.length ≤ 32), r100⟩) ((p.l.length + 1), rv17.at_, rv17.Err, [], none, 0) [0, 0, 0, 0, 0] ⟨rfl, (by omega), (by omega), iv0, iv0⟩ ?_
 rintro ⟨r100, p1_101, p2_102, b1_103, a104, k105⟩ ⟨hM106, hk107, hk108, hv109, hv110⟩
 refine JJ_nx fun _ _ hL hA => ?_; dsimp only at hL hA; subst hL hA
 refine Fb 72 0 fun hl112 => ?_
 refine Fb 40 4 fun hl113 => ?_
 rcases r100 with _ | r100
 · exact absurd (hM106.symm.trans rfl) hterm111
 refine KS ?_
 refine Oq Vm ?_
 refine letv (parser_begins (Gparser.mk p.l p1_101 p2_102)) fun rv114 hg115 => ?_
 have hc116 := fn65 pP (Gparser.mk p.l p1_101 p2_102) pa0 pk0 pre pre pre rv114 hg115
 refine Oc [1, 3] ca65 hc116 ?_
 rintro - -
 refine KS ?_
 refine Kc ?_ ?_
 · intro h117
   refine KS ?_
   refine Oq (Vfa fo49_1 2) (Oq (VldF sh47 2) (Oq (Vlen sl47) (Oq Veql (KS ?_))))
   refine Kc ?_ ?_
   · intro h119
     have g120 := eq_of_beq h119
     refine KS ?_
     refine Oq Vm ?_
     refine letv (parser_fail (Gparser.mk p.l p1_101 p2_102) 7) fun rv121 hg122 => ?_
     have hc123 := fn42 pP (Gparser.mk p.l p1_101 p2_102) pa0 pk0 7 pre pre pre pre rv121 hg122
     refine Oc [0, 3] ca42 hc123 ?_
     rintro - ⟨he124, he125, he126⟩
     unfold i64ok at he124 he125
     have he126 : (0 ≤ rv121.at_ ∧ rv121.at_ ≤ (p.l.length : Int)) := he126
     refine KS ?_
     refine Oq (VldA sh49 2) (Ost (Scl [3] sh49 [.string (bs rv10.1), vl a104 k105 b1_103]) (KS ?_))
     refine Jl [2] (Ent.freeze _ _) ?_
     have hR127 := q2 hM106 (.ret ((GBlock.mk rv10.1 b1_103), (Gparser.mk p.l rv121.at_ rv121.Err))) (by simp only [parser_block_L0, h26, h98, h117, h119, hg5, hg11, hg18, hg24, hg115, hg122, cs4])
     have hq := q4 hrr ((GBlock.mk rv10.1 b1_103), (Gparser.mk p.l rv121.at_ rv121.Err)) (by simp only [parser_block, h26, h98, h117, h119, hg5, hg11, hg18, hg24, hg115, hg122, hR127, cs4]); subst hq
     exact Kr (vl a104 k105 b1_103) rfl (.cellN 1 rfl sh49 rfl (reads_Cl _ _) rfl .nil) [0, 2] en
   intro h119
   have g128 := ne_of_beq_false h119
   refine KS ?_
   refine Jp 2 fun hp129 => ?_
   refine JK_drawK [0, 1, 0, 4, 12, 31, 63, 127] fmix ?_
   refine Dv [0] (Vfa fo49_1 0) (Dv [3] (VldF sh47 0) (Dv [] Vm ?_))
   refine letv (parser_stmt (Gparser.mk p.l p1_101 p2_102)) fun rv132 hg133 => ?_
   refine Dx [1, 5] [1] [4, 0, 1, 2, 3] (fun G => .agg #[vi rv132.1.Op, .string (bs rv132.1.Def), (G.g 3 0), (G.g 3 1)]) [fun G => SP.fact (i64ok rv132.1.Op ∧ rv132.1.Def.b.length ≤ 140737488355328 ∧ i64ok rv132.2.at_ ∧ i64ok rv132.2.Err ∧ (0 ≤ rv132.2.at_ ∧ rv132.2.at_ ≤ ((Gparser.mk p.l p1_101 p2_102).l.length : Int))), fun G => sl (G.g 3 0) rv132.1.Uses, fun G => sl (G.g 3 1) rv132.1.Targets, fun G => Cl pP [vl pa0 pk0 p.l, vi rv132.2.at_, vi rv132.2.Err]] (fun G => xC [0, 0] ca66 (fn66 pP (Gparser.mk p.l p1_101 p2_102) pa0 pk0 pre pre pre (by simp only [h26, h98, h117, h119, hg5, hg11, hg18, hg24, hg115]) rv132 hg133)) (Dx [] [] [0] (fun G => (G.g 4 0)) [fun G => Cr (G.g 4 0) 1 [vi rv132.1.Op, .string (bs rv132.1.Def), (G.g 3 0), (G.g 3 1)]] (fun G => xA (AsV sl47 sz47 [.agg #[vi rv132.1.Op, .string (bs rv132.1.Def), (G.g 3 0), (G.g 3 1)]] [vi rv132.1.Op, .string (bs rv132.1.Def), (G.g 3 0), (G.g 3 1)])) ?_)
   have hn136 := la b1_103 ([rv132.1] : List GStmt)
   refine Dx [2, 6, 7, 8, 10] [2, 10] [3, 1, 2, 0] (fun G => (G.g 5 0)) [fun G => os (G.g 5 0) ((b1_103 ++ [rv132.1]) : List GStmt)] (fun G => by refine xf 1 rfl ?_; rintro ⟨he137, he138, he139, he140, he141⟩; unfold i64ok at he137 he139 he140; exact xp [4, 2, 3] rfl (Ent.cr1 (α := GStmt) (A := [sl (G.g 3 0) rv132.1.Uses, sl (G.g 3 1) rv132.1.Targets]) _ rv132.1 _ (Nat.le_of_ble_eq_true rfl) (fun h => ⟨_, _, rfl, (by unfold i64ok; first | omega | (dsimp only; omega)), (by first | omega | (simp; done) | (dsimp only; omega) | exact lit_bl rfl), sepAll_get (i := 0) rfl h, sepAll_get (i := 1) rfl h⟩)) (xA (ApO [3, 0] sl47 sl47 sz47))) (Dv [0] (Vfa fo49_1 0) (Dx0 [3, 11] [3] [1, 0] [fun G => Cl p3 [.string (bs rv10.1), (G.g 5 0)]] (fun G => x1 1 rfl os_one fun ho142 => (xS (OpS.frame [0] rfl (OpS.storeClF [(G.g 5 0)] [.string (bs rv10.1), (G.g 5 0)] rfl rfl rfl sh47 (cells_of_one ho142) rfl (by simp only [List.all_cons, List.all_nil, ho142, Bool.and_true, Bool.true_and] <;> rfl) (Nat.le_of_ble_eq_true rfl) rfl)))) ?_))
   refine Dn ⟨by kernel_rfl, fun G => ?_⟩
   refine Jw2 [(0, pP), (2, p2), (3, p3)] [0, 4, 5] [SP.fact (i64ok rv132.1.Op ∧ rv132.1.Def.b.length ≤ 140737488355328 ∧ i64ok rv132.2.at_ ∧ i64ok rv132.2.Err ∧ (0 ≤ rv132.2.at_ ∧ rv132.2.at_ ≤ ((Gparser.mk p.l p1_101 p2_102).l.length : Int))), sl (G.g 3 0) rv132.1.Uses, sl (G.g 3 1) rv132.1.Targets, Cl pP [vl pa0 pk0 p.l, vi rv132.2.at_, vi rv132.2.Err], os (G.g 5 0) ((b1_103 ++ [rv132.1]) : List GStmt), Cl p3 [.string (bs rv10.1), (G.g 5 0)]] ?_
   generalize G.g 3 0 = c130, G.g 3 1 = c131, G.g 5 0 = c135
   refine Jf 3 rfl ?_; rintro ⟨he143, he144, he145, he146, he147⟩
   unfold i64ok at he143 he145 he146
   refine Jk [1, 1, 3, 4, 5, 5, 5] ?_
   refine Jo 2 ?_; rintro a148 k149 rfl
   refine Fb 16 2 fun hl150 => ?_
   refine FoS 2 fun ho151 => ?_
   refine Jo 3 ?_; rintro a152 k153 rfl
   refine Fb 16 3 fun hl154 => ?_
   refine FoS 3 fun ho155 => ?_
   refine Jo 5 ?_; rintro a156 k157 rfl
   refine Fb 72 5 fun hl158 => ?_
   refine KS ?_
   exact Kg (r100, rv132.2.at_, rv132.2.Err, (b1_103 ++ [rv132.1]), a156, k157) [5, 4, 4, 0, 0] ⟨(q3 hM106 (by simp only [parser_block_L0, h26, h98, h117, h119, hg5, hg11, hg18, hg24, hg115, hg133, cs4])), (by omega), (by omega), iv1, iv1⟩
 intro h117
 refine Ke ?_
 have hR160 := q2 hM106 (.brk (p1_101, p2_102, b1_103)) (by simp only [parser_block_L0, h26, h98, h117, hg5, hg11, hg18, hg24, hg115, cs4])
 refine KS ?_
 refine Oq (VldA sh49 2) (Ost (Scl [3] sh49 [.string (bs rv10.1), vl a104 k105 b1_103]) (KS ?_))
 refine Jl [2] (Ent.freeze _ _) ?_
 have hq := q4 hrr ((GBlock.mk rv10.1 b1_103), (Gparser.mk p.l p1_101 p2_102)) (by simp only [parser_block, h26, h98, h117, hg5, hg11, hg18, hg24, hg115, hR160, cs4]); subst hq
 exact Kr (vl a104 k105 b1_103) rfl (.cellN 1 rfl sh49 rfl (reads_Cl _ _) rfl .nil) [0, 2] en
theorem fn43 (pP : Value) (p : Gparser) (pa0 : Option Addr) (pk0 : Nat) (hp_1 : i64ok p.at_) (hp_2 : i64ok p.Err) (hpa : (0 ≤ p.at_ ∧ p.at_ ≤ (p.l.length : Int))) (rr : GFunc × Gparser) (hrr : parser_function p = rr) : FT Tryd.prog 43 #[pP] [Cl pP [vl pa0 pk0 p.l, vi p.at_, vi p.Err], S pa0 pk0 p.l] (fun g : Value => rr.1.Name.b.length ≤ 140737488355328 ∧ i64ok rr.2.at_ ∧ i64ok rr.2.Err ∧ (0 ≤ rr.2.at_ ∧ rr.2.at_ ≤ (p.l.length : Int))) (fun g => .agg #[.string (bs rr.1.Name), g]) (fun g => [sl g rr.1.Blocks, Cl pP [vl pa0 pk0 p.l, vi rr.2.at_, vi rr.2.Err]]) := by
 refine FTi Tryd.func43 fun w0 M0 F0 => ?_
 unfold i64ok at hp_1 hp_2
 refine Fb 40 1 fun hl1 => ?_
 refine KS ?_
 refine Oa (Al ze45 [.string (bs (Str.mk [])), .slice none 0 0]) fun p2 => KS ?_
 refine Oa (Al ze45 [.string (bs (Str.mk [])), .slice none 0 0]) fun p3 => KS ?_
 refine Oq Vm ?_
 refine letv (parser_word p (Str.mk [102, 117, 110, 99])) fun rv4 hg5 => ?_
 have hc6 := fn51 pP p pa0 pk0 ((Str.mk [102, 117, 110, 99])) pre pre pre pre rv4 hg5
 refine Oc [2, 2] ca51 hc6 ?_
 rintro - ⟨he7, he8, he9⟩
 unfold i64ok at he7 he8
 refine KS ?_
 refine Oq Vm ?_
 refine letv (parser_name (Gparser.mk p.l rv4.at_ rv4.Err)) fun rv10 hg11 => ?_
 have hc12 := fn52 pP (Gparser.mk p.l rv4.at_ rv4.Err) pa0 pk0 pre pre pre rv10 hg11
 refine Oc [0, 2] ca52 hc12 ?_
 rintro - ⟨he13, he14, he15, he16⟩
 unfold i64ok at he14 he15
 have he16 : (0 ≤ rv10.2.at_ ∧ rv10.2.at_ ≤ (p.l.length : Int)) := he16
 refine Oq (Vfa fo45_0 1) (Ost (SclF [1] sh9 [.string (bs rv10.1), .slice none 0 0]) (KS ?_))
 refine Oq Vm ?_
 refine letv (parser_end (Gparser.mk p.l rv10.2.at_ rv10.2.Err)) fun rv17 hg18 => ?_
 have hc19 := fn53 pP (Gparser.mk p.l rv10.2.at_ rv10.2.Err) pa0 pk0 pre pre pre rv17 hg18
 refine Oc [1, 2] ca53 hc19 ?_
 rintro - ⟨he20, he21, he22⟩
 unfold i64ok at he20 he21
 have he22 : (0 ≤ rv17.at_ ∧ rv17.at_ ≤ (p.l.length : Int)) := he22
 refine KS ?_
 refine Oq Vm ?_
 refine letv (parser_is (Gparser.mk p.l rv17.at_ rv17.Err) (Str.mk [98, 108, 111, 99, 107])) fun rv23 hg24 => ?_
 have hc25 := fn41 pP (Gparser.mk p.l rv17.at_ rv17.Err) pa0 pk0 ((Str.mk [98, 108, 111, 99, 107])) pre pre pre pre rv23 hg24
 refine Oc [0, 2] ca41 hc25 ?_
 rintro - -
 refine Oq Vnot (KS ?_)
 refine Kc ?_ ?_
 · intro h26
   have h28 := not_true h26
   refine KS ?_
   refine Oq Vm ?_
   refine letv (parser_fail (Gparser.mk p.l rv17.at_ rv17.Err) 4) fun rv30 hg31 => ?_
   have hc32 := fn42 pP (Gparser.mk p.l rv17.at_ rv17.Err) pa0 pk0 4 pre pre pre pre rv30 hg31
   refine Oc [0, 2] ca42 hc32 ?_
   rintro - ⟨he33, he34, he35⟩
   unfold i64ok at he33 he34
   have he35 : (0 ≤ rv30.at_ ∧ rv30.at_ ≤ (p.l.length : Int)) := he35
   refine KS ?_
   refine Jl [] (Ent.osNil (α := GBlock)) ?_
   have hterm47 : parser_function_L0 p rv10.1 (p.l.length + 1) rv30.at_ rv30.Err [] ≠ LR.oof := (function_L0_adv _ _ _ _ (by omega)).1
   refine Kl (γ := Nat × Int × Int × List GBlock × Option Addr × Nat) (fun (r36, p1_37, p2_38, f1_39, a40, k41) => ⟨[(0, pP), (2, p2), (3, p3)], [O a40 k41 f1_39, Cl pP [vl pa0 pk0 p.l, vi p1_37, vi p2_38], Cl p3 [.string (bs rv10.1), vl a40 k41 f1_39], Cl p2 [.string (bs (Str.mk [])), .slice none 0 0], S pa0 pk0 p.l], parser_function_L0 p rv10.1 r36 p1_37 p2_38 f1_39 = parser_function_L0 p rv10.1 (p.l.length + 1) rv30.at_ rv30.Err [] ∧ (-9223372036854775808 ≤ p1_37 ∧ p1_37 ≤ 9223372036854775807) ∧ (-9223372036854775808 ≤ p2_38 ∧ p2_38 ≤ 9223372036854775807) ∧ (0 ≤ p1_37 ∧ p1_37 ≤ (p.l.length : Int)) ∧ (f1_39.length ≤ 16), r36⟩) ((p.l.length + 1), rv30.at_, rv30.Err, [], none, 0) [0, 0, 0, 0, 0] ⟨rfl, (by omega), (by omega), iv0, iv0⟩ ?_
   rintro ⟨r36, p1_37, p2_38, f1_39, a40, k41⟩ ⟨hM42, hk43, hk44, hv45, hv46⟩
   refine JJ_nx fun _ _ hL hA => ?_; dsimp only at hL hA; subst hL hA
   refine Fb 40 0 fun hl48 => ?_
   refine Fb 40 4 fun hl49 => ?_
   rcases r36 with _ | r36
   · exact absurd (hM42.symm.trans rfl) hterm47
   refine KS ?_
   refine Oq Vm ?_
   refine letv (parser_is (Gparser.mk p.l p1_37 p2_38) (Str.mk [98, 108, 111, 99, 107])) fun rv50 hg51 => ?_
   have hc52 := fn41 pP (Gparser.mk p.l p1_37 p2_38) pa0 pk0 ((Str.mk [98, 108, 111, 99, 107])) pre pre pre pre rv50 hg51
   refine Oc [1, 3] ca41 hc52 ?_
   rintro - -
   refine KS ?_
   refine Kc ?_ ?_
   · intro h53
     refine KS ?_
     refine Oq (Vfa fo45_1 2) (Oq (VldF sh43 2) (Oq (Vlen sl43) (Oq Veql (KS ?_))))
     refine Kc ?_ ?_
     · intro h55
       have g56 := eq_of_beq h55
       refine KS ?_
       refine Oq Vm ?_
       refine letv (parser_fail (Gparser.mk p.l p1_37 p2_38) 7) fun rv57 hg58 => ?_
       have hc59 := fn42 pP (Gparser.mk p.l p1_37 p2_38) pa0 pk0 7 pre pre pre pre rv57 hg58
       refine Oc [0, 3] ca42 hc59 ?_
       rintro - ⟨he60, he61, he62⟩
       unfold i64ok at he60 he61
       have he62 : (0 ≤ rv57.at_ ∧ rv57.at_ ≤ (p.l.length : Int)) := he62
       refine KS ?_
       refine Oq (VldA sh45 2) (Ost (Scl [3] sh45 [.string (bs rv10.1), vl a40 k41 f1_39]) (KS ?_))
       refine Jl [2] (Ent.freeze _ _) ?_
       have hR63 := q2 hM42 (.ret ((GFunc.mk rv10.1 f1_39), (Gparser.mk p.l rv57.at_ rv57.Err))) (by simp only [parser_function_L0, h26, h28, h53, h55, hg5, hg11, hg18, hg24, hg31, hg51, hg58, cs4])
       have hq := q4 hrr ((GFunc.mk rv10.1 f1_39), (Gparser.mk p.l rv57.at_ rv57.Err)) (by simp only [parser_function, h26, h28, h53, h55, hg5, hg11, hg18, hg24, hg31, hg51, hg58, hR63, cs4]); subst hq
       exact Kr (vl a40 k41 f1_39) rfl (.cellN 1 rfl sh45 rfl (reads_Cl _ _) rfl .nil) [0, 2] en
     intro h55
     have g64 := ne_of_beq_false h55
     refine KS ?_
     refine Jp 2 fun hp65 => ?_
     refine JK_drawK [0, 1, 0, 4, 12, 31, 63, 127] fmix ?_
     refine Dv [0] (Vfa fo45_1 0) (Dv [3] (VldF sh43 0) (Dv [] Vm ?_))
     refine letv (parser_block (Gparser.mk p.l p1_37 p2_38)) fun rv67 hg68 => ?_
     refine Dx [1, 5] [1] [3, 0, 1, 2] (fun G => .agg #[.string (bs rv67.1.Name), (G.g 3 0)]) [fun G => SP.fact (rv67.1.Name.b.length ≤ 140737488355328 ∧ i64ok rv67.2.at_ ∧ i64ok rv67.2.Err ∧ (0 ≤ rv67.2.at_ ∧ rv67.2.at_ ≤ ((Gparser.mk p.l p1_37 p2_38).l.length : Int))), fun G => sl (G.g 3 0) rv67.1.Stmts, fun G => Cl pP [vl pa0 pk0 p.l, vi rv67.2.at_, vi rv67.2.Err]] (fun G => xC [0, 0] ca54 (fn54 pP (Gparser.mk p.l p1_37 p2_38) pa0 pk0 pre pre pre rv67 hg68)) (Dx [] [] [0] (fun G => (G.g 4 0)) [fun G => Cr (G.g 4 0) 1 [.string (bs rv67.1.Name), (G.g 3 0)]] (fun G => xA (AsV sl43 sz43 [.agg #[.string (bs rv67.1.Name), (G.g 3 0)]] [.string (bs rv67.1.Name), (G.g 3 0)])) ?_)
     have hn71 := la f1_39 ([rv67.1] : List GBlock)
     refine Dx [2, 6, 7, 9] [2, 9] [2, 1, 0] (fun G => (G.g 5 0)) [fun G => os (G.g 5 0) ((f1_39 ++ [rv67.1]) : List GBlock)] (fun G => by refine xf 1 rfl ?_; rintro ⟨he72, he73, he74, he75⟩; unfold i64ok at he73 he74; exact xp [3, 2] rfl (Ent.cr1 (α := GBlock) (A := [sl (G.g 3 0) rv67.1.Stmts]) _ rv67.1 _ (Nat.le_of_ble_eq_true rfl) (fun h => ⟨_, rfl, (by first | omega | (simp; done) | (dsimp only; omega) | exact lit_bl rfl), sepAll_get (i := 0) rfl h⟩)) (xA (ApO [2, 0] sl43 sl43 sz43))) (Dv [0] (Vfa fo45_1 0) (Dx0 [3, 10] [3] [1, 0] [fun G => Cl p3 [.string (bs rv10.1), (G.g 5 0)]] (fun G => x1 1 rfl os_one fun ho76 => (xS (OpS.frame [0] rfl (OpS.storeClF [(G.g 5 0)] [.string (bs rv10.1), (G.g 5 0)] rfl rfl rfl sh43 (cells_of_one ho76) rfl (by simp only [List.all_cons, List.all_nil, ho76, Bool.and_true, Bool.true_and] <;> rfl) (Nat.le_of_ble_eq_true rfl) rfl)))) ?_))
     refine Dn ⟨by kernel_rfl, fun G => ?_⟩
     refine Jw2 [(0, pP), (2, p2), (3, p3)] [0, 4, 5] [SP.fact (rv67.1.Name.b.length ≤ 140737488355328 ∧ i64ok rv67.2.at_ ∧ i64ok rv67.2.Err ∧ (0 ≤ rv67.2.at_ ∧ rv67.2.at_ ≤ ((Gparser.mk p.l p1_37 p2_38).l.length : Int))), sl (G.g 3 0) rv67.1.Stmts, Cl pP [vl pa0 pk0 p.l, vi rv67.2.at_, vi rv67.2.Err], os (G.g 5 0) ((f1_39 ++ [rv67.1]) : List GBlock), Cl p3 [.string (bs rv10.1), (G.g 5 0)]] ?_
     generalize G.g 3 0 = c66, G.g 5 0 = c70
     refine Jf 3 rfl ?_; rintro ⟨he77, he78, he79, he80⟩
     unfold i64ok at he78 he79
     refine Jk [1, 1, 3, 4, 4, 4] ?_
     refine Jo 2 ?_; rintro a81 k82 rfl
     refine Fb 72 2 fun hl83 => ?_
     refine Jo 4 ?_; rintro a84 k85 rfl
     refine Fb 40 4 fun hl86 => ?_
     refine KS ?_
     exact Kg (r36, rv67.2.at_, rv67.2.Err, (f1_39 ++ [rv67.1]), a84, k85) [4, 3, 3, 0, 0] ⟨(q3 hM42 (by simp only [parser_function_L0, h26, h28, h53, h55, hg5, hg11, hg18, hg24, hg31, hg51, hg68, cs4])), (by omega), (by omega), iv1, iv1⟩
   intro h53
   refine Ke ?_
   have hR88 := q2 hM42 (.brk (p1_37, p2_38, f1_39)) (by simp only [parser_function_L0, h26, h28, h53, hg5, hg11, hg18, hg24, hg31, hg51, cs4])
   refine KS ?_
   refine Oq Vm ?_
   refine letv (parser_word (Gparser.mk p.l p1_37 p2_38) (Str.mk [101, 110, 100])) fun rv89 hg90 => ?_
   have hc91 := fn51 pP (Gparser.mk p.l p1_37 p2_38) pa0 pk0 ((Str.mk [101, 110, 100])) pre pre pre pre rv89 hg90
   refine Oc [0, 3] ca51 hc91 ?_
   rintro - ⟨he92, he93, he94⟩
   unfold i64ok at he92 he93
   have he94 : (0 ≤ rv89.at_ ∧ rv89.at_ ≤ (p.l.length : Int)) := he94
   refine KS ?_
   refine Oq Vm ?_
   refine letv (parser_end (Gparser.mk p.l rv89.at_ rv89.Err)) fun rv95 hg96 => ?_
   have hc97 := fn53 pP (Gparser.mk p.l rv89.at_ rv89.Err) pa0 pk0 pre pre pre rv95 hg96
   refine Oc [0, 3] ca53 hc97 ?_
   rintro - ⟨he98, he99, he100⟩
   unfold i64ok at he98 he99
   have he100 : (0 ≤ rv95.at_ ∧ rv95.at_ ≤ (p.l.length : Int)) := he100
   refine KS ?_
   refine Oq (VldA sh45 2) (Ost (Scl [3] sh45 [.string (bs rv10.1), vl a40 k41 f1_39]) (KS ?_))
   refine Jl [2] (Ent.freeze _ _) ?_
   have hq := q4 hrr ((GFunc.mk rv10.1 f1_39), (Gparser.mk p.l rv95.at_ rv95.Err)) (by simp only [parser_function, h26, h28, h53, hg5, hg11, hg18, hg24, hg31, hg51, hR88, hg90, hg96, cs4]); subst hq
   exact Kr (vl a40 k41 f1_39) rfl (.cellN 1 rfl sh45 rfl (reads_Cl _ _) rfl .nil) [0, 2] en
 intro h26
 have h102 := not_false h26
 refine KS ?_
 refine Jl [] (Ent.osNil (α := GBlock)) ?_
 have hterm115 : parser_function_L0 p rv10.1 (p.l.length + 1) rv17.at_ rv17.Err [] ≠ LR.oof := (function_L0_adv _ _ _ _ (by omega)).1
 refine Kl (γ := Nat × Int × Int × List GBlock × Option Addr × Nat) (fun (r104, p1_105, p2_106, f1_107, a108, k109) => ⟨[(0, pP), (2, p2), (3, p3)], [O a108 k109 f1_107, Cl pP [vl pa0 pk0 p.l, vi p1_105, vi p2_106], Cl p3 [.string (bs rv10.1), vl a108 k109 f1_107], Cl p2 [.string (bs (Str.mk [])), .slice none 0 0], S pa0 pk0 p.l], parser_function_L0 p rv10.1 r104 p1_105 p2_106 f1_107 = parser_function_L0 p rv10.1 (p.l.length + 1) rv17.at_ rv17.Err [] ∧ (-9223372036854775808 ≤ p1_105 ∧ p1_105 ≤ 9223372036854775807) ∧ (-9223372036854775808 ≤ p2_106 ∧ p2_106 ≤ 9223372036854775807) ∧ (0 ≤ p1_105 ∧ p1_105 ≤ (p.l.length : Int)) ∧ (f1_107.length ≤ 16), r104⟩) ((p.l.length + 1), rv17.at_, rv17.Err, [], none, 0) [0, 0, 0, 0, 0] ⟨rfl, (by omega), (by omega), iv0, iv0⟩ ?_
 rintro ⟨r104, p1_105, p2_106, f1_107, a108, k109⟩ ⟨hM110, hk111, hk112, hv113, hv114⟩
 refine JJ_nx fun _ _ hL hA => ?_; dsimp only at hL hA; subst hL hA
 refine Fb 40 0 fun hl116 => ?_
 refine Fb 40 4 fun hl117 => ?_
 rcases r104 with _ | r104
 · exact absurd (hM110.symm.trans rfl) hterm115
 refine KS ?_
 refine Oq Vm ?_
 refine letv (parser_is (Gparser.mk p.l p1_105 p2_106) (Str.mk [98, 108, 111, 99, 107])) fun rv118 hg119 => ?_
 have hc120 := fn41 pP (Gparser.mk p.l p1_105 p2_106) pa0 pk0 ((Str.mk [98, 108, 111, 99, 107])) pre pre pre pre rv118 hg119
 refine Oc [1, 3] ca41 hc120 ?_
 rintro - -
 refine KS ?_
 refine Kc ?_ ?_
 · intro h121
   refine KS ?_
   refine Oq (Vfa fo45_1 2) (Oq (VldF sh43 2) (Oq (Vlen sl43) (Oq Veql (KS ?_))))
   refine Kc ?_ ?_
   · intro h123
     have g124 := eq_of_beq h123
     refine KS ?_
     refine Oq Vm ?_
     refine letv (parser_fail (Gparser.mk p.l p1_105 p2_106) 7) fun rv125 hg126 => ?_
     have hc127 := fn42 pP (Gparser.mk p.l p1_105 p2_106) pa0 pk0 7 pre pre pre pre rv125 hg126
     refine Oc [0, 3] ca42 hc127 ?_
     rintro - ⟨he128, he129, he130⟩
     unfold i64ok at he128 he129
     have he130 : (0 ≤ rv125.at_ ∧ rv125.at_ ≤ (p.l.length : Int)) := he130
     refine KS ?_
     refine Oq (VldA sh45 2) (Ost (Scl [3] sh45 [.string (bs rv10.1), vl a108 k109 f1_107]) (KS ?_))
     refine Jl [2] (Ent.freeze _ _) ?_
     have hR131 := q2 hM110 (.ret ((GFunc.mk rv10.1 f1_107), (Gparser.mk p.l rv125.at_ rv125.Err))) (by simp only [parser_function_L0, h26, h102, h121, h123, hg5, hg11, hg18, hg24, hg119, hg126, cs4])
     have hq := q4 hrr ((GFunc.mk rv10.1 f1_107), (Gparser.mk p.l rv125.at_ rv125.Err)) (by simp only [parser_function, h26, h102, h121, h123, hg5, hg11, hg18, hg24, hg119, hg126, hR131, cs4]); subst hq
     exact Kr (vl a108 k109 f1_107) rfl (.cellN 1 rfl sh45 rfl (reads_Cl _ _) rfl .nil) [0, 2] en
   intro h123
   have g132 := ne_of_beq_false h123
   refine KS ?_
   refine Jp 2 fun hp133 => ?_
   refine JK_drawK [0, 1, 0, 4, 12, 31, 63, 127] fmix ?_
   refine Dv [0] (Vfa fo45_1 0) (Dv [3] (VldF sh43 0) (Dv [] Vm ?_))
   refine letv (parser_block (Gparser.mk p.l p1_105 p2_106)) fun rv135 hg136 => ?_
   refine Dx [1, 5] [1] [3, 0, 1, 2] (fun G => .agg #[.string (bs rv135.1.Name), (G.g 3 0)]) [fun G => SP.fact (rv135.1.Name.b.length ≤ 140737488355328 ∧ i64ok rv135.2.at_ ∧ i64ok rv135.2.Err ∧ (0 ≤ rv135.2.at_ ∧ rv135.2.at_ ≤ ((Gparser.mk p.l p1_105 p2_106).l.length : Int))), fun G => sl (G.g 3 0) rv135.1.Stmts, fun G => Cl pP [vl pa0 pk0 p.l, vi rv135.2.at_, vi rv135.2.Err]] (fun G => xC [0, 0] ca54 (fn54 pP (Gparser.mk p.l p1_105 p2_106) pa0 pk0 pre pre pre rv135 hg136)) (Dx [] [] [0] (fun G => (G.g 4 0)) [fun G => Cr (G.g 4 0) 1 [.string (bs rv135.1.Name), (G.g 3 0)]] (fun G => xA (AsV sl43 sz43 [.agg #[.string (bs rv135.1.Name), (G.g 3 0)]] [.string (bs rv135.1.Name), (G.g 3 0)])) ?_)
   have hn139 := la f1_107 ([rv135.1] : List GBlock)
   refine Dx [2, 6, 7, 9] [2, 9] [2, 1, 0] (fun G => (G.g 5 0)) [fun G => os (G.g 5 0) ((f1_107 ++ [rv135.1]) : List GBlock)] (fun G => by refine xf 1 rfl ?_; rintro ⟨he140, he141, he142, he143⟩; unfold i64ok at he141 he142; exact xp [3, 2] rfl (Ent.cr1 (α := GBlock) (A := [sl (G.g 3 0) rv135.1.Stmts]) _ rv135.1 _ (Nat.le_of_ble_eq_true rfl) (fun h => ⟨_, rfl, (by first | omega | (simp; done) | (dsimp only; omega) | exact lit_bl rfl), sepAll_get (i := 0) rfl h⟩)) (xA (ApO [2, 0] sl43 sl43 sz43))) (Dv [0] (Vfa fo45_1 0) (Dx0 [3, 10] [3] [1, 0] [fun G => Cl p3 [.string (bs rv10.1), (G.g 5 0)]] (fun G => x1 1 rfl os_one fun ho144 => (xS (OpS.frame [0] rfl (OpS.storeClF [(G.g 5 0)] [.string (bs rv10.1), (G.g 5 0)] rfl rfl rfl sh43 (cells_of_one ho144) rfl (by simp only [List.all_cons, List.all_nil, ho144, Bool.and_true, Bool.true_and] <;> rfl) (Nat.le_of_ble_eq_true rfl) rfl)))) ?_))
   refine Dn ⟨by kernel_rfl, fun G => ?_⟩
   refine Jw2 [(0, pP), (2, p2), (3, p3)] [0, 4, 5] [SP.fact (rv135.1.Name.b.length ≤ 140737488355328 ∧ i64ok rv135.2.at_ ∧ i64ok rv135.2.Err ∧ (0 ≤ rv135.2.at_ ∧ rv135.2.at_ ≤ ((Gparser.mk p.l p1_105 p2_106).l.length : Int))), sl (G.g 3 0) rv135.1.Stmts, Cl pP [vl pa0 pk0 p.l, vi rv135.2.at_, vi rv135.2.Err], os (G.g 5 0) ((f1_107 ++ [rv135.1]) : List GBlock), Cl p3 [.string (bs rv10.1), (G.g 5 0)]] ?_
   generalize G.g 3 0 = c134, G.g 5 0 = c138
   refine Jf 3 rfl ?_; rintro ⟨he145, he146, he147, he148⟩
   unfold i64ok at he146 he147
   refine Jk [1, 1, 3, 4, 4, 4] ?_
   refine Jo 2 ?_; rintro a149 k150 rfl
   refine Fb 72 2 fun hl151 => ?_
   refine Jo 4 ?_; rintro a152 k153 rfl
   refine Fb 40 4 fun hl154 => ?_
   refine KS ?_
   exact Kg (r104, rv135.2.at_, rv135.2.Err, (f1_107 ++ [rv135.1]), a152, k153) [4, 3, 3, 0, 0] ⟨(q3 hM110 (by simp only [parser_function_L0, h26, h102, h121, h123, hg5, hg11, hg18, hg24, hg119, hg136, cs4])), (by omega), (by omega), iv1, iv1⟩
 intro h121
 refine Ke ?_
 have hR156 := q2 hM110 (.brk (p1_105, p2_106, f1_107)) (by simp only [parser_function_L0, h26, h102, h121, hg5, hg11, hg18, hg24, hg119, cs4])
 refine KS ?_
 refine Oq Vm ?_
 refine letv (parser_word (Gparser.mk p.l p1_105 p2_106) (Str.mk [101, 110, 100])) fun rv157 hg158 => ?_
 have hc159 := fn51 pP (Gparser.mk p.l p1_105 p2_106) pa0 pk0 ((Str.mk [101, 110, 100])) pre pre pre pre rv157 hg158
 refine Oc [0, 3] ca51 hc159 ?_
 rintro - ⟨he160, he161, he162⟩
 unfold i64ok at he160 he161
 have he162 : (0 ≤ rv157.at_ ∧ rv157.at_ ≤ (p.l.length : Int)) := he162
 refine KS ?_
 refine Oq Vm ?_
 refine letv (parser_end (Gparser.mk p.l rv157.at_ rv157.Err)) fun rv163 hg164 => ?_
 have hc165 := fn53 pP (Gparser.mk p.l rv157.at_ rv157.Err) pa0 pk0 pre pre pre rv163 hg164
 refine Oc [0, 3] ca53 hc165 ?_
 rintro - ⟨he166, he167, he168⟩
 unfold i64ok at he166 he167
 have he168 : (0 ≤ rv163.at_ ∧ rv163.at_ ≤ (p.l.length : Int)) := he168
 refine KS ?_
 refine Oq (VldA sh45 2) (Ost (Scl [3] sh45 [.string (bs rv10.1), vl a108 k109 f1_107]) (KS ?_))
 refine Jl [2] (Ent.freeze _ _) ?_
 have hq := q4 hrr ((GFunc.mk rv10.1 f1_107), (Gparser.mk p.l rv163.at_ rv163.Err)) (by simp only [parser_function, h26, h102, h121, hg5, hg11, hg18, hg24, hg119, hR156, hg158, hg164, cs4]); subst hq
 exact Kr (vl a108 k109 f1_107) rfl (.cellN 1 rfl sh45 rfl (reads_Cl _ _) rfl .nil) [0, 2] en
theorem fn26 (text : Str) (htext_0 : text.b.length ≤ 140737488355328) (rr : GProgram × Int × Int × Int) (hrr : flqref4_Parse text = rr) : FT Tryd.prog 26 #[.string (bs text)] [] (fun g : Value => i64ok rr.2.1 ∧ i64ok rr.2.2.1 ∧ i64ok rr.2.2.2) (fun g => .tuple #[.agg #[g], vi rr.2.1, vi rr.2.2.1, vi rr.2.2.2]) (fun g => [sl g rr.1.Funcs]) := by
 refine FTi Tryd.func26 fun w0 M0 F0 => ?_
 refine KS ?_
 refine Oa (Al ze27 [.slice none 0 0]) fun p1 => Oq Va (Oq Va (Oq Va (KS ?_)))
 refine Oq Vm ?_
 refine letv (flqref4_Scan text) fun rv3 hg4 => ?_
 have hc5 := fn40 text pre rv3 hg4
 refine Oc [] ca40 hc5 ?_
 rintro c2 ⟨he6, he7, he8⟩
 unfold i64ok at he6 he7 he8
 refine Jo 0 ?_; rintro a9 k10 rfl
 refine Fb 40 0 fun hl11 => ?_
 refine Oq Vm (Oq Vx (Oq Vx (Oq Vx (Oq Vx (Oq Va (Oq Va (Oq Va (Oq Va (KS ?_)))))))))
 refine Oq Vm (Oq Vneq (KS ?_))
 refine Kc ?_ ?_
 · intro h12
   have g13 := ne_of_bne h12
   refine KS ?_
   refine Oq (Vbd st27 [.slice none 0 0]) (Oq Vm (Oq Vm (Oq Vm (Ost (Scl [1] sh27 [.slice none 0 0]) (Oq Va (Oq Va (Oq Va (KS ?_))))))))
   refine Jl [] (Ent.slNil (α := GFunc)) ?_
   have hq := q4 hrr ((GProgram.mk []), rv3.2.1, rv3.2.2.1, rv3.2.2.2) (by simp only [flqref4_Parse, h12, hg4, cs4]); subst hq
   exact Kr (.slice none 0 0) rfl (.cellN 1 rfl sh27 rfl (reads_Cl _ _) rfl (.tmp rfl (.tmp rfl (.tmp rfl .nil)))) [0] en
 intro h12
 have g14 := eq_of_bne_false h12
 refine KS ?_
 refine Oq Vm (Oq (Vbd st81 [vl a9 k10 rv3.1, vi 0, vi 0]) (Oa (AbO [vl a9 k10 rv3.1, vi 0, vi 0]) fun p15 => Oq Va (KS ?_)))
 refine Oa (Al ze27 [.slice none 0 0]) fun p16 => KS ?_
 refine Oq Vm ?_
 refine letv (parser_is (Gparser.mk rv3.1 0 0) (Str.mk [102, 117, 110, 99])) fun rv17 hg18 => ?_
 have hc19 := fn41 p15 (Gparser.mk rv3.1 0 0) a9 k10 ((Str.mk [102, 117, 110, 99])) pre pre pre pre rv17 hg18
 refine Oc [1, 1] ca41 hc19 ?_
 rintro - -
 refine Oq Vnot (KS ?_)
 refine Kc ?_ ?_
 · intro h20
   have h22 := not_true h20
   refine KS ?_
   refine Oq Vm ?_
   refine letv (parser_fail (Gparser.mk rv3.1 0 0) 4) fun rv24 hg25 => ?_
   have hc26 := fn42 p15 (Gparser.mk rv3.1 0 0) a9 k10 4 pre pre pre pre rv24 hg25
   refine Oc [0, 1] ca42 hc26 ?_
   rintro - ⟨he27, he28, he29⟩
   unfold i64ok at he27 he28
   have he29 : (0 ≤ rv24.at_ ∧ rv24.at_ ≤ (rv3.1.length : Int)) := he29
   refine KS ?_
   refine Jl [] (Ent.osNil (α := GFunc)) ?_
   have hterm41 : flqref4_Parse_L0 rv3.1 (rv3.1.length + 1) rv24.at_ rv24.Err [] ≠ LR.oof := (Parse_L0_adv _ _ _ _ (by omega)).1
   refine Kl (γ := Nat × Int × Int × List GFunc × Option Addr × Nat) (fun (r30, p1_31, p2_32, out0_33, a34, k35) => ⟨[(2, p1), (6, vl a9 k10 rv3.1), (10, p15), (11, p16)], [O a34 k35 out0_33, Cl p15 [vl a9 k10 rv3.1, vi p1_31, vi p2_32], Cl p16 [vl a34 k35 out0_33], S a9 k10 rv3.1, Cl p1 [.slice none 0 0]], flqref4_Parse_L0 rv3.1 r30 p1_31 p2_32 out0_33 = flqref4_Parse_L0 rv3.1 (rv3.1.length + 1) rv24.at_ rv24.Err [] ∧ (-9223372036854775808 ≤ p1_31 ∧ p1_31 ≤ 9223372036854775807) ∧ (-9223372036854775808 ≤ p2_32 ∧ p2_32 ≤ 9223372036854775807) ∧ (0 ≤ p1_31 ∧ p1_31 ≤ (rv3.1.length : Int)) ∧ (out0_33.length ≤ 8), r30⟩) ((rv3.1.length + 1), rv24.at_, rv24.Err, [], none, 0) [0, 0, 0, 0, 1] ⟨rfl, (by omega), (by omega), iv0, iv0⟩ ?_
   rintro ⟨r30, p1_31, p2_32, out0_33, a34, k35⟩ ⟨hM36, hk37, hk38, hv39, hv40⟩
   refine JJ_nx fun _ _ hL hA => ?_; dsimp only at hL hA; subst hL hA
   refine Fb 40 0 fun hl42 => ?_
   refine Fb 40 3 fun hl43 => ?_
   rcases r30 with _ | r30
   · exact absurd (hM36.symm.trans rfl) hterm41
   refine KS ?_
   refine Oq Vm ?_
   refine letv (parser_is (Gparser.mk rv3.1 p1_31 p2_32) (Str.mk [102, 117, 110, 99])) fun rv44 hg45 => ?_
   have hc46 := fn41 p15 (Gparser.mk rv3.1 p1_31 p2_32) a9 k10 ((Str.mk [102, 117, 110, 99])) pre pre pre pre rv44 hg45
   refine Oc [1, 2] ca41 hc46 ?_
   rintro - -
   refine KS ?_
   refine Kc ?_ ?_
   · intro h47
     refine KS ?_
     refine Oq (Vfa fo27_0 2) (Oq (VldF sh25 2) (Oq (Vlen sl25) (Oq Veql (KS ?_))))
     refine Kc ?_ ?_
     · intro h49
       have g50 := eq_of_beq h49
       refine KS ?_
       refine Oq Vm ?_
       refine letv (parser_fail (Gparser.mk rv3.1 p1_31 p2_32) 7) fun rv51 hg52 => ?_
       have hc53 := fn42 p15 (Gparser.mk rv3.1 p1_31 p2_32) a9 k10 7 pre pre pre pre rv51 hg52
       refine Oc [0, 2] ca42 hc53 ?_
       rintro - ⟨he54, he55, he56⟩
       unfold i64ok at he54 he55
       have he56 : (0 ≤ rv51.at_ ∧ rv51.at_ ≤ (rv3.1.length : Int)) := he56
       refine KS ?_
       refine Ke ?_
       have hR57 := q2 hM36 (.brk (rv51.at_, rv51.Err, out0_33)) (by simp only [flqref4_Parse_L0, h12, h20, h22, h47, h49, hg4, hg18, hg25, hg45, hg52, cs4])
       refine KS ?_
       refine Oq Vm (Oq (Vn 0) (Oq (Vfa fo81_2 0) (Oq (VldF sh35 0) (Oq Veql (Oq Vm ?_)))))
       refine Js 53 ?_ ?_
       · intro h58
         have g59 := eq_of_beq h58
         refine Oq Vm (Oq (Vn 0) (Oq (Vfa fo81_1 0) (Oq (VldF sh3 0) (Oq Vm (Oq (Vlen sl76) (Oq Vlss (Oq Vpt (KS ?_))))))))
         refine Kc ?_ ?_
         · intro h60
           have g61 := of_decide_eq_true h60
           refine KS ?_
           refine Oq Vm ?_
           refine letv (parser_fail (Gparser.mk rv3.1 rv51.at_ rv51.Err) 4) fun rv62 hg63 => ?_
           have hc64 := fn42 p15 (Gparser.mk rv3.1 rv51.at_ rv51.Err) a9 k10 4 pre pre pre pre rv62 hg63
           refine Oc [0, 2] ca42 hc64 ?_
           rintro - ⟨he65, he66, he67⟩
           unfold i64ok at he65 he66
           have he67 : (0 ≤ rv62.at_ ∧ rv62.at_ ≤ (rv3.1.length : Int)) := he67
           refine KS ?_
           refine Oq Vm (Oq (Vn 0) (Oq (Vfa fo81_2 0) (Oq (VldF sh35 0) (Oq Veql (KS ?_)))))
           refine Kc ?_ ?_
           · intro h68
             have g69 := eq_of_beq h68
             refine KS ?_
             refine Oq (VldA sh27 2) (Ost (Scl [4] sh27 [vl a34 k35 out0_33]) (Oq Va (Oq Va (Oq Va (KS ?_)))))
             refine Jl [2] (Ent.freeze _ _) ?_
             have hq := q4 hrr ((GProgram.mk out0_33), 0, 0, 0) (by simp only [flqref4_Parse, h12, h20, h22, h47, h49, h58, h60, h68, hg4, hg18, hg25, hg45, hg52, hR57, hg63, cs4]); subst hq
             exact Kr (vl a34 k35 out0_33) rfl (.cellN 1 rfl sh27 rfl (reads_Cl _ _) rfl (.tmp rfl (.tmp rfl (.tmp rfl .nil)))) [0] en
           intro h68
           have g70 := ne_of_beq_false h68
           refine KS ?_
           refine Oq Vm (Oq (Vn 0) (Oq (Vfa fo81_1 0) (Oq (VldF sh3 0) (Oq Vm (Oq (Vlen sl76) (Oq Vlss (KS ?_)))))))
           refine Kc ?_ ?_
           · intro h71
             have g72 := of_decide_eq_true h71
             refine KS ?_
             refine Jp 0 fun hp73 => ?_
             refine JJ_peek_GToken rv62.at_.toNat 4 rfl rng fun hb74 hb75 hb76 hb77 => ?_
             unfold i64ok at hb74 hb76 hb77
             refine JK_drawK [0, 0, 0, 4, 12, 28, 62, 126, 254, 0, 0, 1024, 3072, 7168, 15872, 32256, 65024, 0, 131072, 393216, 917504, 1, 2097663, 6422527, 16777215] fmix ?_
             refine Dv [] (Vbd st27 [.slice none 0 0]) (Dv [] Vm (Dv [] Vm (Dv [1] (Vn 0) (Dv [1] (Vfa fo81_1 0) (Dv [2] (VldF sh3 0) (Dv [5] (Vi sl76 0) (Dv [0] (Vfa fo85_2 0) (Dv [0] (VldF sh3 0) (Dv [] Vm ?_)))))))))
             refine Dv [] Vm (Dv [1] (Vn 0) (Dv [1] (Vfa fo81_1 0) (Dv [2] (VldF sh3 0) (Dv [5] (Vi sl76 0) (Dv [0] (Vfa fo85_3 0) (Dv [0] (VldF sh3 0) (Dv [] Vm (Dv [1] (Vn 0) (Dv [1] (Vfa fo81_2 0) ?_)))))))))
             refine Dv [2] (VldF sh35 0) (Dx0 [6] [6] [0] [fun G => Cl p1 [.slice none 0 0]] (fun G => xS (Scl [0] sh27 [.slice none 0 0])) (Dv [] Va (Dv [] Va (Dv [] Va ?_))))
             refine Dn ⟨by kernel_rfl, fun G => ?_⟩
             refine Jw2 [(2, p1), (3, vi ((rv3.1.getD rv62.at_.toNat default).Line)), (4, vi ((rv3.1.getD rv62.at_.toNat default).Col)), (5, vi rv62.Err)] [0, 1, 2, 3, 4, 5] [Cl p1 [.slice none 0 0]] ?_
             refine Jk [0, 2, 2, 2, 2, 3] ?_
             refine Jl [] (Ent.slNil (α := GFunc)) ?_
             have hq := q4 hrr ((GProgram.mk []), (rv3.1.getD rv62.at_.toNat default).Line, (rv3.1.getD rv62.at_.toNat default).Col, rv62.Err) (by simp only [flqref4_Parse, h12, h20, h22, h47, h49, h58, h60, h68, h71, hg4, hg18, hg25, hg45, hg52, hR57, hg63, cs4]); subst hq
             exact Kr (.slice none 0 0) rfl (.cellN 6 rfl sh27 rfl (reads_Cl _ _) rfl (.tmp rfl (.tmp rfl (.tmp rfl .nil)))) [0] en
           intro h71
           have g78 := of_decide_eq_false h71
           refine KS ?_
           refine Jp 0 fun hp79 => ?_
           refine JK_drawK [0, 0, 2, 6, 14, 1, 33, 97, 255] fmix ?_
           refine Dv [] (Vbd st27 [.slice none 0 0]) (Dv [] Vm (Dv [0] (Vn 0) (Dv [0] (Vfa fo81_2 0) (Dv [1] (VldF sh35 0) (Dx0 [5] [5] [0] [fun G => Cl p1 [.slice none 0 0]] (fun G => xS (Scl [0] sh27 [.slice none 0 0])) (Dv [] Va (Dv [] Va (Dv [] Va ?_))))))))
           refine Dn ⟨by kernel_rfl, fun G => ?_⟩
           refine Jw2 [(2, p1), (3, vi 0), (4, vi 0), (5, vi rv62.Err)] [0, 1, 2, 3, 4] [Cl p1 [.slice none 0 0]] ?_
           refine Jk [1, 1, 1, 1, 2] ?_
           refine Jl [] (Ent.slNil (α := GFunc)) ?_
           have hq := q4 hrr ((GProgram.mk []), 0, 0, rv62.Err) (by simp only [flqref4_Parse, h12, h20, h22, h47, h49, h58, h60, h68, h71, hg4, hg18, hg25, hg45, hg52, hR57, hg63, cs4]); subst hq
           exact Kr (.slice none 0 0) rfl (.cellN 5 rfl sh27 rfl (reads_Cl _ _) rfl (.tmp rfl (.tmp rfl (.tmp rfl .nil)))) [0] en
         intro h60
         have g80 := of_decide_eq_false h60
         refine KS ?_
         refine Oq Vm (Oq (Vn 0) (Oq (Vfa fo81_2 0) (Oq (VldF sh35 0) (Oq Veql (KS ?_)))))
         refine Kc ?_ ?_
         · intro h81
           have g82 := eq_of_beq h81
           refine KS ?_
           refine Oq (VldA sh27 2) (Ost (Scl [4] sh27 [vl a34 k35 out0_33]) (Oq Va (Oq Va (Oq Va (KS ?_)))))
           refine Jl [2] (Ent.freeze _ _) ?_
           have hq := q4 hrr ((GProgram.mk out0_33), 0, 0, 0) (by simp only [flqref4_Parse, h12, h20, h22, h47, h49, h58, h60, h81, hg4, hg18, hg25, hg45, hg52, hR57, cs4]); subst hq
           exact Kr (vl a34 k35 out0_33) rfl (.cellN 1 rfl sh27 rfl (reads_Cl _ _) rfl (.tmp rfl (.tmp rfl (.tmp rfl .nil)))) [0] en
         intro h81
         exact absurd h81 (by first | (simp [h58]; done) | (simp only [bne, h58]; decide) | (simp only [bne, h58, Bool.not_true, Bool.not_false]; decide) | (exfalso; omega) | (intro hq; simp only [bne, hq, Bool.not_false, Bool.not_true, reduceCtorEq] at h58))
       intro h58
       have g83 := ne_of_beq_false h58
       refine Osk (Osk (Osk (Osk (Osk (Osk (Osk (Oq Vpf (KS ?_))))))))
       refine Kf ?_
       refine KS ?_
       refine Oq Vm (Oq (Vn 0) (Oq (Vfa fo81_2 0) (Oq (VldF sh35 0) (Oq Veql (KS ?_)))))
       refine Kc ?_ ?_
       · intro h84
         exact absurd h84 (by first | (simp [h58]; done) | (simp only [bne, h58]; decide) | (simp only [bne, h58, Bool.not_true, Bool.not_false]; decide) | (exfalso; omega) | (intro hq; simp only [bne, hq, Bool.not_false, Bool.not_true, reduceCtorEq] at h58))
       intro h84
       have g85 := ne_of_beq_false h84
       refine KS ?_
       refine Oq Vm (Oq (Vn 0) (Oq (Vfa fo81_1 0) (Oq (VldF sh3 0) (Oq Vm (Oq (Vlen sl76) (Oq Vlss (KS ?_)))))))
       refine Kc ?_ ?_
       · intro h86
         have g87 := of_decide_eq_true h86
         refine KS ?_
         refine Jp 0 fun hp88 => ?_
         refine JJ_peek_GToken rv51.at_.toNat 4 rfl rng fun hb89 hb90 hb91 hb92 => ?_
         unfold i64ok at hb89 hb91 hb92
         refine JK_drawK [0, 0, 0, 4, 12, 28, 62, 126, 254, 0, 0, 1024, 3072, 7168, 15872, 32256, 65024, 0, 131072, 393216, 917504, 1, 2097663, 6422527, 16777215] fmix ?_
         refine Dv [] (Vbd st27 [.slice none 0 0]) (Dv [] Vm (Dv [] Vm (Dv [1] (Vn 0) (Dv [1] (Vfa fo81_1 0) (Dv [2] (VldF sh3 0) (Dv [5] (Vi sl76 0) (Dv [0] (Vfa fo85_2 0) (Dv [0] (VldF sh3 0) (Dv [] Vm ?_)))))))))
         refine Dv [] Vm (Dv [1] (Vn 0) (Dv [1] (Vfa fo81_1 0) (Dv [2] (VldF sh3 0) (Dv [5] (Vi sl76 0) (Dv [0] (Vfa fo85_3 0) (Dv [0] (VldF sh3 0) (Dv [] Vm (Dv [1] (Vn 0) (Dv [1] (Vfa fo81_2 0) ?_)))))))))
         refine Dv [2] (VldF sh35 0) (Dx0 [6] [6] [0] [fun G => Cl p1 [.slice none 0 0]] (fun G => xS (Scl [0] sh27 [.slice none 0 0])) (Dv [] Va (Dv [] Va (Dv [] Va ?_))))
         refine Dn ⟨by kernel_rfl, fun G => ?_⟩
         refine Jw2 [(2, p1), (3, vi ((rv3.1.getD rv51.at_.toNat default).Line)), (4, vi ((rv3.1.getD rv51.at_.toNat default).Col)), (5, vi rv51.Err)] [0, 1, 2, 3, 4, 5] [Cl p1 [.slice none 0 0]] ?_
         refine Jk [0, 2, 2, 2, 2, 3] ?_
         refine Jl [] (Ent.slNil (α := GFunc)) ?_
         have hq := q4 hrr ((GProgram.mk []), (rv3.1.getD rv51.at_.toNat default).Line, (rv3.1.getD rv51.at_.toNat default).Col, rv51.Err) (by simp only [flqref4_Parse, h12, h20, h22, h47, h49, h58, h84, h86, hg4, hg18, hg25, hg45, hg52, hR57, cs4]); subst hq
         exact Kr (.slice none 0 0) rfl (.cellN 6 rfl sh27 rfl (reads_Cl _ _) rfl (.tmp rfl (.tmp rfl (.tmp rfl .nil)))) [0] en
       intro h86
       have g93 := of_decide_eq_false h86
       refine KS ?_
       refine Jp 0 fun hp94 => ?_
       refine JK_drawK [0, 0, 2, 6, 14, 1, 33, 97, 255] fmix ?_
       refine Dv [] (Vbd st27 [.slice none 0 0]) (Dv [] Vm (Dv [0] (Vn 0) (Dv [0] (Vfa fo81_2 0) (Dv [1] (VldF sh35 0) (Dx0 [5] [5] [0] [fun G => Cl p1 [.slice none 0 0]] (fun G => xS (Scl [0] sh27 [.slice none 0 0])) (Dv [] Va (Dv [] Va (Dv [] Va ?_))))))))
       refine Dn ⟨by kernel_rfl, fun G => ?_⟩
       refine Jw2 [(2, p1), (3, vi 0), (4, vi 0), (5, vi rv51.Err)] [0, 1, 2, 3, 4] [Cl p1 [.slice none 0 0]] ?_
       refine Jk [1, 1, 1, 1, 2] ?_
       refine Jl [] (Ent.slNil (α := GFunc)) ?_
       have hq := q4 hrr ((GProgram.mk []), 0, 0, rv51.Err) (by simp only [flqref4_Parse, h12, h20, h22, h47, h49, h58, h84, h86, hg4, hg18, hg25, hg45, hg52, hR57, cs4]); subst hq
       exact Kr (.slice none 0 0) rfl (.cellN 5 rfl sh27 rfl (reads_Cl _ _) rfl (.tmp rfl (.tmp rfl (.tmp rfl .nil)))) [0] en
     intro h49
     have g95 := ne_of_beq_false h49
     refine KS ?_
     refine Jp 2 fun hp96 => ?_
     refine JK_drawK [0, 1, 0, 4, 12, 31, 63, 127] fmix ?_
     refine Dv [0] (Vfa fo27_0 0) (Dv [3] (VldF sh25 0) (Dv [] Vm ?_))
     refine letv (parser_function (Gparser.mk rv3.1 p1_31 p2_32)) fun rv98 hg99 => ?_
     refine Dx [1, 4] [1] [3, 0, 1, 2] (fun G => .agg #[.string (bs rv98.1.Name), (G.g 3 0)]) [fun G => SP.fact (rv98.1.Name.b.length ≤ 140737488355328 ∧ i64ok rv98.2.at_ ∧ i64ok rv98.2.Err ∧ (0 ≤ rv98.2.at_ ∧ rv98.2.at_ ≤ ((Gparser.mk rv3.1 p1_31 p2_32).l.length : Int))), fun G => sl (G.g 3 0) rv98.1.Blocks, fun G => Cl p15 [vl a9 k10 rv3.1, vi rv98.2.at_, vi rv98.2.Err]] (fun G => xC [0, 0] ca43 (fn43 p15 (Gparser.mk rv3.1 p1_31 p2_32) a9 k10 pre pre pre rv98 hg99)) (Dx [] [] [0] (fun G => (G.g 4 0)) [fun G => Cr (G.g 4 0) 1 [.string (bs rv98.1.Name), (G.g 3 0)]] (fun G => xA (AsV sl25 sz25 [.agg #[.string (bs rv98.1.Name), (G.g 3 0)]] [.string (bs rv98.1.Name), (G.g 3 0)])) ?_)
     have hn102 := la out0_33 ([rv98.1] : List GFunc)
     refine Dx [2, 6, 7, 9] [2, 9] [2, 1, 0] (fun G => (G.g 5 0)) [fun G => os (G.g 5 0) ((out0_33 ++ [rv98.1]) : List GFunc)] (fun G => by refine xf 1 rfl ?_; rintro ⟨he103, he104, he105, he106⟩; unfold i64ok at he104 he105; exact xp [3, 2] rfl (Ent.cr1 (α := GFunc) (A := [sl (G.g 3 0) rv98.1.Blocks]) _ rv98.1 _ (Nat.le_of_ble_eq_true rfl) (fun h => ⟨_, rfl, (by first | omega | (simp; done) | (dsimp only; omega) | exact lit_bl rfl), sepAll_get (i := 0) rfl h⟩)) (xA (ApO [2, 0] sl25 sl25 sz25))) (Dv [0] (Vfa fo27_0 0) (Dx0 [3, 10] [3] [1, 0] [fun G => Cl p16 [(G.g 5 0)]] (fun G => x1 1 rfl os_one fun ho107 => (xS (OpS.frame [0] rfl (OpS.storeClF [(G.g 5 0)] [(G.g 5 0)] rfl rfl rfl sh25 (cells_of_one ho107) rfl (by simp only [List.all_cons, List.all_nil, ho107, Bool.and_true, Bool.true_and] <;> rfl) (Nat.le_of_ble_eq_true rfl) rfl)))) ?_))
     refine Dn ⟨by kernel_rfl, fun G => ?_⟩
     refine Jw2 [(2, p1), (6, vl a9 k10 rv3.1), (10, p15), (11, p16)] [0, 4, 5] [SP.fact (rv98.1.Name.b.length ≤ 140737488355328 ∧ i64ok rv98.2.at_ ∧ i64ok rv98.2.Err ∧ (0 ≤ rv98.2.at_ ∧ rv98.2.at_ ≤ ((Gparser.mk rv3.1 p1_31 p2_32).l.length : Int))), sl (G.g 3 0) rv98.1.Blocks, Cl p15 [vl a9 k10 rv3.1, vi rv98.2.at_, vi rv98.2.Err], os (G.g 5 0) ((out0_33 ++ [rv98.1]) : List GFunc), Cl p16 [(G.g 5 0)]] ?_
     generalize G.g 3 0 = c97, G.g 5 0 = c101
     refine Jf 3 rfl ?_; rintro ⟨he108, he109, he110, he111⟩
     unfold i64ok at he109 he110
     refine Jk [1, 2, 3, 4, 4, 4] ?_
     refine Jo 2 ?_; rintro a112 k113 rfl
     refine Fb 40 2 fun hl114 => ?_
     refine Jo 4 ?_; rintro a115 k116 rfl
     refine Fb 40 4 fun hl117 => ?_
     refine KS ?_
     exact Kg (r30, rv98.2.at_, rv98.2.Err, (out0_33 ++ [rv98.1]), a115, k116) [4, 3, 3, 0, 1] ⟨(q3 hM36 (by simp only [flqref4_Parse_L0, h12, h20, h22, h47, h49, hg4, hg18, hg25, hg45, hg99, cs4])), (by omega), (by omega), iv1, iv1⟩
   intro h47
   refine Ke ?_
   have hR119 := q2 hM36 (.brk (p1_31, p2_32, out0_33)) (by simp only [flqref4_Parse_L0, h12, h20, h22, h47, hg4, hg18, hg25, hg45, cs4])
   refine KS ?_
   refine Oq Vm (Oq (Vn 0) (Oq (Vfa fo81_2 0) (Oq (VldF sh35 0) (Oq Veql (Oq Vm ?_)))))
   refine Js 53 ?_ ?_
   · intro h120
     have g121 := eq_of_beq h120
     refine Oq Vm (Oq (Vn 0) (Oq (Vfa fo81_1 0) (Oq (VldF sh3 0) (Oq Vm (Oq (Vlen sl76) (Oq Vlss (Oq Vpt (KS ?_))))))))
     refine Kc ?_ ?_
     · intro h122
       have g123 := of_decide_eq_true h122
       refine KS ?_
       refine Oq Vm ?_
       refine letv (parser_fail (Gparser.mk rv3.1 p1_31 p2_32) 4) fun rv124 hg125 => ?_
       have hc126 := fn42 p15 (Gparser.mk rv3.1 p1_31 p2_32) a9 k10 4 pre pre pre pre rv124 hg125
       refine Oc [0, 2] ca42 hc126 ?_
       rintro - ⟨he127, he128, he129⟩
       unfold i64ok at he127 he128
       have he129 : (0 ≤ rv124.at_ ∧ rv124.at_ ≤ (rv3.1.length : Int)) := he129
       refine KS ?_
       refine Oq Vm (Oq (Vn 0) (Oq (Vfa fo81_2 0) (Oq (VldF sh35 0) (Oq Veql (KS ?_)))))
       refine Kc ?_ ?_
       · intro h130
         have g131 := eq_of_beq h130
         refine KS ?_
         refine Oq (VldA sh27 2) (Ost (Scl [4] sh27 [vl a34 k35 out0_33]) (Oq Va (Oq Va (Oq Va (KS ?_)))))
         refine Jl [2] (Ent.freeze _ _) ?_
         have hq := q4 hrr ((GProgram.mk out0_33), 0, 0, 0) (by simp only [flqref4_Parse, h12, h20, h22, h47, h120, h122, h130, hg4, hg18, hg25, hg45, hR119, hg125, cs4]); subst hq
         exact Kr (vl a34 k35 out0_33) rfl (.cellN 1 rfl sh27 rfl (reads_Cl _ _) rfl (.tmp rfl (.tmp rfl (.tmp rfl .nil)))) [0] en
       intro h130
       have g132 := ne_of_beq_false h130
       refine KS ?_
       refine Oq Vm (Oq (Vn 0) (Oq (Vfa fo81_1 0) (Oq (VldF sh3 0) (Oq Vm (Oq (Vlen sl76) (Oq Vlss (KS ?_)))))))
       refine Kc ?_ ?_
       · intro h133
         have g134 := of_decide_eq_true h133
         refine KS ?_
         refine Jp 0 fun hp135 => ?_
         refine JJ_peek_GToken rv124.at_.toNat 4 rfl rng fun hb136 hb137 hb138 hb139 => ?_
         unfold i64ok at hb136 hb138 hb139
         refine JK_drawK [0, 0, 0, 4, 12, 28, 62, 126, 254, 0, 0, 1024, 3072, 7168, 15872, 32256, 65024, 0, 131072, 393216, 917504, 1, 2097663, 6422527, 16777215] fmix ?_
         refine Dv [] (Vbd st27 [.slice none 0 0]) (Dv [] Vm (Dv [] Vm (Dv [1] (Vn 0) (Dv [1] (Vfa fo81_1 0) (Dv [2] (VldF sh3 0) (Dv [5] (Vi sl76 0) (Dv [0] (Vfa fo85_2 0) (Dv [0] (VldF sh3 0) (Dv [] Vm ?_)))))))))
         refine Dv [] Vm (Dv [1] (Vn 0) (Dv [1] (Vfa fo81_1 0) (Dv [2] (VldF sh3 0) (Dv [5] (Vi sl76 0) (Dv [0] (Vfa fo85_3 0) (Dv [0] (VldF sh3 0) (Dv [] Vm (Dv [1] (Vn 0) (Dv [1] (Vfa fo81_2 0) ?_)))))))))
         refine Dv [2] (VldF sh35 0) (Dx0 [6] [6] [0] [fun G => Cl p1 [.slice none 0 0]] (fun G => xS (Scl [0] sh27 [.slice none 0 0])) (Dv [] Va (Dv [] Va (Dv [] Va ?_))))
         refine Dn ⟨by kernel_rfl, fun G => ?_⟩
         refine Jw2 [(2, p1), (3, vi ((rv3.1.getD rv124.at_.toNat default).Line)), (4, vi ((rv3.1.getD rv124.at_.toNat default).Col)), (5, vi rv124.Err)] [0, 1, 2, 3, 4, 5] [Cl p1 [.slice none 0 0]] ?_
         refine Jk [0, 2, 2, 2, 2, 3] ?_
         refine Jl [] (Ent.slNil (α := GFunc)) ?_
         have hq := q4 hrr ((GProgram.mk []), (rv3.1.getD rv124.at_.toNat default).Line, (rv3.1.getD rv124.at_.toNat default).Col, rv124.Err) (by simp only [flqref4_Parse, h12, h20, h22, h47, h120, h122, h130, h133, hg4, hg18, hg25, hg45, hR119, hg125, cs4]); subst hq
         exact Kr (.slice none 0 0) rfl (.cellN 6 rfl sh27 rfl (reads_Cl _ _) rfl (.tmp rfl (.tmp rfl (.tmp rfl .nil)))) [0] en
       intro h133
       have g140 := of_decide_eq_false h133
       refine KS ?_
       refine Jp 0 fun hp141 => ?_
       refine JK_drawK [0, 0, 2, 6, 14, 1, 33, 97, 255] fmix ?_
       refine Dv [] (Vbd st27 [.slice none 0 0]) (Dv [] Vm (Dv [0] (Vn 0) (Dv [0] (Vfa fo81_2 0) (Dv [1] (VldF sh35 0) (Dx0 [5] [5] [0] [fun G => Cl p1 [.slice none 0 0]] (fun G => xS (Scl [0] sh27 [.slice none 0 0])) (Dv [] Va (Dv [] Va (Dv [] Va ?_))))))))
       refine Dn ⟨by kernel_rfl, fun G => ?_⟩
       refine Jw2 [(2, p1), (3, vi 0), (4, vi 0), (5, vi rv124.Err)] [0, 1, 2, 3, 4] [Cl p1 [.slice none 0 0]] ?_
       refine Jk [1, 1, 1, 1, 2] ?_
       refine Jl [] (Ent.slNil (α := GFunc)) ?_
       have hq := q4 hrr ((GProgram.mk []), 0, 0, rv124.Err) (by simp only [flqref4_Parse, h12, h20, h22, h47, h120, h122, h130, h133, hg4, hg18, hg25, hg45, hR119, hg125, cs4]); subst hq
       exact Kr (.slice none 0 0) rfl (.cellN 5 rfl sh27 rfl (reads_Cl _ _) rfl (.tmp rfl (.tmp rfl (.tmp rfl .nil)))) [0] en
     intro h122
     have g142 := of_decide_eq_false h122
     refine KS ?_
     refine Oq Vm (Oq (Vn 0) (Oq (Vfa fo81_2 0) (Oq (VldF sh35 0) (Oq Veql (KS ?_)))))
     refine Kc ?_ ?_
     · intro h143
       have g144 := eq_of_beq h143
       refine KS ?_
       refine Oq (VldA sh27 2) (Ost (Scl [4] sh27 [vl a34 k35 out0_33]) (Oq Va (Oq Va (Oq Va (KS ?_)))))
       refine Jl [2] (Ent.freeze _ _) ?_
       have hq := q4 hrr ((GProgram.mk out0_33), 0, 0, 0) (by simp only [flqref4_Parse, h12, h20, h22, h47, h120, h122, h143, hg4, hg18, hg25, hg45, hR119, cs4]); subst hq
       exact Kr (vl a34 k35 out0_33) rfl (.cellN 1 rfl sh27 rfl (reads_Cl _ _) rfl (.tmp rfl (.tmp rfl (.tmp rfl .nil)))) [0] en
     intro h143
     exact absurd h143 (by first | (simp [h120]; done) | (simp only [bne, h120]; decide) | (simp only [bne, h120, Bool.not_true, Bool.not_false]; decide) | (exfalso; omega) | (intro hq; simp only [bne, hq, Bool.not_false, Bool.not_true, reduceCtorEq] at h120))
   intro h120
   have g145 := ne_of_beq_false h120
   refine Osk (Osk (Osk (Osk (Osk (Osk (Osk (Oq Vpf (KS ?_))))))))
   refine Kf ?_
   refine KS ?_
   refine Oq Vm (Oq (Vn 0) (Oq (Vfa fo81_2 0) (Oq (VldF sh35 0) (Oq Veql (KS ?_)))))
   refine Kc ?_ ?_
   · intro h146
     exact absurd h146 (by first | (simp [h120]; done) | (simp only [bne, h120]; decide) | (simp only [bne, h120, Bool.not_true, Bool.not_false]; decide) | (exfalso; omega) | (intro hq; simp only [bne, hq, Bool.not_false, Bool.not_true, reduceCtorEq] at h120))
   intro h146
   have g147 := ne_of_beq_false h146
   refine KS ?_
   refine Oq Vm (Oq (Vn 0) (Oq (Vfa fo81_1 0) (Oq (VldF sh3 0) (Oq Vm (Oq (Vlen sl76) (Oq Vlss (KS ?_)))))))
   refine Kc ?_ ?_
   · intro h148
     have g149 := of_decide_eq_true h148
     refine KS ?_
     refine Jp 0 fun hp150 => ?_
     refine JJ_peek_GToken p1_31.toNat 4 rfl rng fun hb151 hb152 hb153 hb154 => ?_
     unfold i64ok at hb151 hb153 hb154
     refine JK_drawK [0, 0, 0, 4, 12, 28, 62, 126, 254, 0, 0, 1024, 3072, 7168, 15872, 32256, 65024, 0, 131072, 393216, 917504, 1, 2097663, 6422527, 16777215] fmix ?_
     refine Dv [] (Vbd st27 [.slice none 0 0]) (Dv [] Vm (Dv [] Vm (Dv [1] (Vn 0) (Dv [1] (Vfa fo81_1 0) (Dv [2] (VldF sh3 0) (Dv [5] (Vi sl76 0) (Dv [0] (Vfa fo85_2 0) (Dv [0] (VldF sh3 0) (Dv [] Vm ?_)))))))))
     refine Dv [] Vm (Dv [1] (Vn 0) (Dv [1] (Vfa fo81_1 0) (Dv [2] (VldF sh3 0) (Dv [5] (Vi sl76 0) (Dv [0] (Vfa fo85_3 0) (Dv [0] (VldF sh3 0) (Dv [] Vm (Dv [1] (Vn 0) (Dv [1] (Vfa fo81_2 0) ?_)))))))))
     refine Dv [2] (VldF sh35 0) (Dx0 [6] [6] [0] [fun G => Cl p1 [.slice none 0 0]] (fun G => xS (Scl [0] sh27 [.slice none 0 0])) (Dv [] Va (Dv [] Va (Dv [] Va ?_))))
     refine Dn ⟨by kernel_rfl, fun G => ?_⟩
     refine Jw2 [(2, p1), (3, vi ((rv3.1.getD p1_31.toNat default).Line)), (4, vi ((rv3.1.getD p1_31.toNat default).Col)), (5, vi p2_32)] [0, 1, 2, 3, 4, 5] [Cl p1 [.slice none 0 0]] ?_
     refine Jk [0, 2, 2, 2, 2, 3] ?_
     refine Jl [] (Ent.slNil (α := GFunc)) ?_
     have hq := q4 hrr ((GProgram.mk []), (rv3.1.getD p1_31.toNat default).Line, (rv3.1.getD p1_31.toNat default).Col, p2_32) (by simp only [flqref4_Parse, h12, h20, h22, h47, h120, h146, h148, hg4, hg18, hg25, hg45, hR119, cs4]); subst hq
     exact Kr (.slice none 0 0) rfl (.cellN 6 rfl sh27 rfl (reads_Cl _ _) rfl (.tmp rfl (.tmp rfl (.tmp rfl .nil)))) [0] en
   intro h148
   have g155 := of_decide_eq_false h148
   refine KS ?_
   refine Jp 0 fun hp156 => ?_
   refine JK_drawK [0, 0, 2, 6, 14, 1, 33, 97, 255] fmix ?_
   refine Dv [] (Vbd st27 [.slice none 0 0]) (Dv [] Vm (Dv [0] (Vn 0) (Dv [0] (Vfa fo81_2 0) (Dv [1] (VldF sh35 0) (Dx0 [5] [5] [0] [fun G => Cl p1 [.slice none 0 0]] (fun G => xS (Scl [0] sh27 [.slice none 0 0])) (Dv [] Va (Dv [] Va (Dv [] Va ?_))))))))
   refine Dn ⟨by kernel_rfl, fun G => ?_⟩
   refine Jw2 [(2, p1), (3, vi 0), (4, vi 0), (5, vi p2_32)] [0, 1, 2, 3, 4] [Cl p1 [.slice none 0 0]] ?_
   refine Jk [1, 1, 1, 1, 2] ?_
   refine Jl [] (Ent.slNil (α := GFunc)) ?_
   have hq := q4 hrr ((GProgram.mk []), 0, 0, p2_32) (by simp only [flqref4_Parse, h12, h20, h22, h47, h120, h146, h148, hg4, hg18, hg25, hg45, hR119, cs4]); subst hq
   exact Kr (.slice none 0 0) rfl (.cellN 5 rfl sh27 rfl (reads_Cl _ _) rfl (.tmp rfl (.tmp rfl (.tmp rfl .nil)))) [0] en
 intro h20
 have h158 := not_false h20
 refine KS ?_
 refine Jl [] (Ent.osNil (α := GFunc)) ?_
 have hterm171 : flqref4_Parse_L0 rv3.1 (rv3.1.length + 1) 0 0 [] ≠ LR.oof := (Parse_L0_adv _ _ _ _ (by omega)).1
 refine Kl (γ := Nat × Int × Int × List GFunc × Option Addr × Nat) (fun (r160, p1_161, p2_162, out0_163, a164, k165) => ⟨[(2, p1), (6, vl a9 k10 rv3.1), (10, p15), (11, p16)], [O a164 k165 out0_163, Cl p15 [vl a9 k10 rv3.1, vi p1_161, vi p2_162], Cl p16 [vl a164 k165 out0_163], S a9 k10 rv3.1, Cl p1 [.slice none 0 0]], flqref4_Parse_L0 rv3.1 r160 p1_161 p2_162 out0_163 = flqref4_Parse_L0 rv3.1 (rv3.1.length + 1) 0 0 [] ∧ (-9223372036854775808 ≤ p1_161 ∧ p1_161 ≤ 9223372036854775807) ∧ (-9223372036854775808 ≤ p2_162 ∧ p2_162 ≤ 9223372036854775807) ∧ (0 ≤ p1_161 ∧ p1_161 ≤ (rv3.1.length : Int)) ∧ (out0_163.length ≤ 8), r160⟩) ((rv3.1.length + 1), 0, 0, [], none, 0) [0, 0, 0, 0, 1] ⟨rfl, (by omega), (by omega), iv0, iv0⟩ ?_
 rintro ⟨r160, p1_161, p2_162, out0_163, a164, k165⟩ ⟨hM166, hk167, hk168, hv169, hv170⟩
 refine JJ_nx fun _ _ hL hA => ?_; dsimp only at hL hA; subst hL hA
 refine Fb 40 0 fun hl172 => ?_
 refine Fb 40 3 fun hl173 => ?_
 rcases r160 with _ | r160
 · exact absurd (hM166.symm.trans rfl) hterm171
 refine KS ?_
 refine Oq Vm ?_
 refine letv (parser_is (Gparser.mk rv3.1 p1_161 p2_162) (Str.mk [102, 117, 110, 99])) fun rv174 hg175 => ?_
 have hc176 := fn41 p15 (Gparser.mk rv3.1 p1_161 p2_162) a9 k10 ((Str.mk [102, 117, 110, 99])) pre pre pre pre rv174 hg175
 refine Oc [1, 2] ca41 hc176 ?_
 rintro - -
 refine KS ?_
 refine Kc ?_ ?_
 · intro h177
   refine KS ?_
   refine Oq (Vfa fo27_0 2) (Oq (VldF sh25 2) (Oq (Vlen sl25) (Oq Veql (KS ?_))))
   refine Kc ?_ ?_
   · intro h179
     have g180 := eq_of_beq h179
     refine KS ?_
     refine Oq Vm ?_
     refine letv (parser_fail (Gparser.mk rv3.1 p1_161 p2_162) 7) fun rv181 hg182 => ?_
     have hc183 := fn42 p15 (Gparser.mk rv3.1 p1_161 p2_162) a9 k10 7 pre pre pre pre rv181 hg182
     refine Oc [0, 2] ca42 hc183 ?_
     rintro - ⟨he184, he185, he186⟩
     unfold i64ok at he184 he185
     have he186 : (0 ≤ rv181.at_ ∧ rv181.at_ ≤ (rv3.1.length : Int)) := he186
     refine KS ?_
     refine Ke ?_
     have hR187 := q2 hM166 (.brk (rv181.at_, rv181.Err, out0_163)) (by simp only [flqref4_Parse_L0, h12, h20, h158, h177, h179, hg4, hg18, hg175, hg182, cs4])
     refine KS ?_
     refine Oq Vm (Oq (Vn 0) (Oq (Vfa fo81_2 0) (Oq (VldF sh35 0) (Oq Veql (Oq Vm ?_)))))
     refine Js 53 ?_ ?_
     · intro h188
       have g189 := eq_of_beq h188
       refine Oq Vm (Oq (Vn 0) (Oq (Vfa fo81_1 0) (Oq (VldF sh3 0) (Oq Vm (Oq (Vlen sl76) (Oq Vlss (Oq Vpt (KS ?_))))))))
       refine Kc ?_ ?_
       · intro h190
         have g191 := of_decide_eq_true h190
         refine KS ?_
         refine Oq Vm ?_
         refine letv (parser_fail (Gparser.mk rv3.1 rv181.at_ rv181.Err) 4) fun rv192 hg193 => ?_
         have hc194 := fn42 p15 (Gparser.mk rv3.1 rv181.at_ rv181.Err) a9 k10 4 pre pre pre pre rv192 hg193
         refine Oc [0, 2] ca42 hc194 ?_
         rintro - ⟨he195, he196, he197⟩
         unfold i64ok at he195 he196
         have he197 : (0 ≤ rv192.at_ ∧ rv192.at_ ≤ (rv3.1.length : Int)) := he197
         refine KS ?_
         refine Oq Vm (Oq (Vn 0) (Oq (Vfa fo81_2 0) (Oq (VldF sh35 0) (Oq Veql (KS ?_)))))
         refine Kc ?_ ?_
         · intro h198
           have g199 := eq_of_beq h198
           refine KS ?_
           refine Oq (VldA sh27 2) (Ost (Scl [4] sh27 [vl a164 k165 out0_163]) (Oq Va (Oq Va (Oq Va (KS ?_)))))
           refine Jl [2] (Ent.freeze _ _) ?_
           have hq := q4 hrr ((GProgram.mk out0_163), 0, 0, 0) (by simp only [flqref4_Parse, h12, h20, h158, h177, h179, h188, h190, h198, hg4, hg18, hg175, hg182, hR187, hg193, cs4]); subst hq
           exact Kr (vl a164 k165 out0_163) rfl (.cellN 1 rfl sh27 rfl (reads_Cl _ _) rfl (.tmp rfl (.tmp rfl (.tmp rfl .nil)))) [0] en
         intro h198
         have g200 := ne_of_beq_false h198
         refine KS ?_
         refine Oq Vm (Oq (Vn 0) (Oq (Vfa fo81_1 0) (Oq (VldF sh3 0) (Oq Vm (Oq (Vlen sl76) (Oq Vlss (KS ?_)))))))
         refine Kc ?_ ?_
         · intro h201
           have g202 := of_decide_eq_true h201
           refine KS ?_
           refine Jp 0 fun hp203 => ?_
           refine JJ_peek_GToken rv192.at_.toNat 4 rfl rng fun hb204 hb205 hb206 hb207 => ?_
           unfold i64ok at hb204 hb206 hb207
           refine JK_drawK [0, 0, 0, 4, 12, 28, 62, 126, 254, 0, 0, 1024, 3072, 7168, 15872, 32256, 65024, 0, 131072, 393216, 917504, 1, 2097663, 6422527, 16777215] fmix ?_
           refine Dv [] (Vbd st27 [.slice none 0 0]) (Dv [] Vm (Dv [] Vm (Dv [1] (Vn 0) (Dv [1] (Vfa fo81_1 0) (Dv [2] (VldF sh3 0) (Dv [5] (Vi sl76 0) (Dv [0] (Vfa fo85_2 0) (Dv [0] (VldF sh3 0) (Dv [] Vm ?_)))))))))
           refine Dv [] Vm (Dv [1] (Vn 0) (Dv [1] (Vfa fo81_1 0) (Dv [2] (VldF sh3 0) (Dv [5] (Vi sl76 0) (Dv [0] (Vfa fo85_3 0) (Dv [0] (VldF sh3 0) (Dv [] Vm (Dv [1] (Vn 0) (Dv [1] (Vfa fo81_2 0) ?_)))))))))
           refine Dv [2] (VldF sh35 0) (Dx0 [6] [6] [0] [fun G => Cl p1 [.slice none 0 0]] (fun G => xS (Scl [0] sh27 [.slice none 0 0])) (Dv [] Va (Dv [] Va (Dv [] Va ?_))))
           refine Dn ⟨by kernel_rfl, fun G => ?_⟩
           refine Jw2 [(2, p1), (3, vi ((rv3.1.getD rv192.at_.toNat default).Line)), (4, vi ((rv3.1.getD rv192.at_.toNat default).Col)), (5, vi rv192.Err)] [0, 1, 2, 3, 4, 5] [Cl p1 [.slice none 0 0]] ?_
           refine Jk [0, 2, 2, 2, 2, 3] ?_
           refine Jl [] (Ent.slNil (α := GFunc)) ?_
           have hq := q4 hrr ((GProgram.mk []), (rv3.1.getD rv192.at_.toNat default).Line, (rv3.1.getD rv192.at_.toNat default).Col, rv192.Err) (by simp only [flqref4_Parse, h12, h20, h158, h177, h179, h188, h190, h198, h201, hg4, hg18, hg175, hg182, hR187, hg193, cs4]); subst hq
           exact Kr (.slice none 0 0) rfl (.cellN 6 rfl sh27 rfl (reads_Cl _ _) rfl (.tmp rfl (.tmp rfl (.tmp rfl .nil)))) [0] en
         intro h201
         have g208 := of_decide_eq_false h201
         refine KS ?_
         refine Jp 0 fun hp209 => ?_
         refine JK_drawK [0, 0, 2, 6, 14, 1, 33, 97, 255] fmix ?_
         refine Dv [] (Vbd st27 [.slice none 0 0]) (Dv [] Vm (Dv [0] (Vn 0) (Dv [0] (Vfa fo81_2 0) (Dv [1] (VldF sh35 0) (Dx0 [5] [5] [0] [fun G => Cl p1 [.slice none 0 0]] (fun G => xS (Scl [0] sh27 [.slice none 0 0])) (Dv [] Va (Dv [] Va (Dv [] Va ?_))))))))
         refine Dn ⟨by kernel_rfl, fun G => ?_⟩
         refine Jw2 [(2, p1), (3, vi 0), (4, vi 0), (5, vi rv192.Err)] [0, 1, 2, 3, 4] [Cl p1 [.slice none 0 0]] ?_
         refine Jk [1, 1, 1, 1, 2] ?_
         refine Jl [] (Ent.slNil (α := GFunc)) ?_
         have hq := q4 hrr ((GProgram.mk []), 0, 0, rv192.Err) (by simp only [flqref4_Parse, h12, h20, h158, h177, h179, h188, h190, h198, h201, hg4, hg18, hg175, hg182, hR187, hg193, cs4]); subst hq
         exact Kr (.slice none 0 0) rfl (.cellN 5 rfl sh27 rfl (reads_Cl _ _) rfl (.tmp rfl (.tmp rfl (.tmp rfl .nil)))) [0] en
       intro h190
       have g210 := of_decide_eq_false h190
       refine KS ?_
       refine Oq Vm (Oq (Vn 0) (Oq (Vfa fo81_2 0) (Oq (VldF sh35 0) (Oq Veql (KS ?_)))))
       refine Kc ?_ ?_
       · intro h211
         have g212 := eq_of_beq h211
         refine KS ?_
         refine Oq (VldA sh27 2) (Ost (Scl [4] sh27 [vl a164 k165 out0_163]) (Oq Va (Oq Va (Oq Va (KS ?_)))))
         refine Jl [2] (Ent.freeze _ _) ?_
         have hq := q4 hrr ((GProgram.mk out0_163), 0, 0, 0) (by simp only [flqref4_Parse, h12, h20, h158, h177, h179, h188, h190, h211, hg4, hg18, hg175, hg182, hR187, cs4]); subst hq
         exact Kr (vl a164 k165 out0_163) rfl (.cellN 1 rfl sh27 rfl (reads_Cl _ _) rfl (.tmp rfl (.tmp rfl (.tmp rfl .nil)))) [0] en
       intro h211
       exact absurd h211 (by first | (simp [h188]; done) | (simp only [bne, h188]; decide) | (simp only [bne, h188, Bool.not_true, Bool.not_false]; decide) | (exfalso; omega) | (intro hq; simp only [bne, hq, Bool.not_false, Bool.not_true, reduceCtorEq] at h188))
     intro h188
     have g213 := ne_of_beq_false h188
     refine Osk (Osk (Osk (Osk (Osk (Osk (Osk (Oq Vpf (KS ?_))))))))
     refine Kf ?_
     refine KS ?_
     refine Oq Vm (Oq (Vn 0) (Oq (Vfa fo81_2 0) (Oq (VldF sh35 0) (Oq Veql (KS ?_)))))
     refine Kc ?_ ?_
     · intro h214
       exact absurd h214 (by first | (simp [h188]; done) | (simp only [bne, h188]; decide) | (simp only [bne, h188, Bool.not_true, Bool.not_false]; decide) | (exfalso; omega) | (intro hq; simp only [bne, hq, Bool.not_false, Bool.not_true, reduceCtorEq] at h188))
     intro h214
     have g215 := ne_of_beq_false h214
     refine KS ?_
     refine Oq Vm (Oq (Vn 0) (Oq (Vfa fo81_1 0) (Oq (VldF sh3 0) (Oq Vm (Oq (Vlen sl76) (Oq Vlss (KS ?_)))))))
     refine Kc ?_ ?_
     · intro h216
       have g217 := of_decide_eq_true h216
       refine KS ?_
       refine Jp 0 fun hp218 => ?_
       refine JJ_peek_GToken rv181.at_.toNat 4 rfl rng fun hb219 hb220 hb221 hb222 => ?_
       unfold i64ok at hb219 hb221 hb222
       refine JK_drawK [0, 0, 0, 4, 12, 28, 62, 126, 254, 0, 0, 1024, 3072, 7168, 15872, 32256, 65024, 0, 131072, 393216, 917504, 1, 2097663, 6422527, 16777215] fmix ?_
       refine Dv [] (Vbd st27 [.slice none 0 0]) (Dv [] Vm (Dv [] Vm (Dv [1] (Vn 0) (Dv [1] (Vfa fo81_1 0) (Dv [2] (VldF sh3 0) (Dv [5] (Vi sl76 0) (Dv [0] (Vfa fo85_2 0) (Dv [0] (VldF sh3 0) (Dv [] Vm ?_)))))))))
       refine Dv [] Vm (Dv [1] (Vn 0) (Dv [1] (Vfa fo81_1 0) (Dv [2] (VldF sh3 0) (Dv [5] (Vi sl76 0) (Dv [0] (Vfa fo85_3 0) (Dv [0] (VldF sh3 0) (Dv [] Vm (Dv [1] (Vn 0) (Dv [1] (Vfa fo81_2 0) ?_)))))))))
       refine Dv [2] (VldF sh35 0) (Dx0 [6] [6] [0] [fun G => Cl p1 [.slice none 0 0]] (fun G => xS (Scl [0] sh27 [.slice none 0 0])) (Dv [] Va (Dv [] Va (Dv [] Va ?_))))
       refine Dn ⟨by kernel_rfl, fun G => ?_⟩
       refine Jw2 [(2, p1), (3, vi ((rv3.1.getD rv181.at_.toNat default).Line)), (4, vi ((rv3.1.getD rv181.at_.toNat default).Col)), (5, vi rv181.Err)] [0, 1, 2, 3, 4, 5] [Cl p1 [.slice none 0 0]] ?_
       refine Jk [0, 2, 2, 2, 2, 3] ?_
       refine Jl [] (Ent.slNil (α := GFunc)) ?_
       have hq := q4 hrr ((GProgram.mk []), (rv3.1.getD rv181.at_.toNat default).Line, (rv3.1.getD rv181.at_.toNat default).Col, rv181.Err) (by simp only [flqref4_Parse, h12, h20, h158, h177, h179, h188, h214, h216, hg4, hg18, hg175, hg182, hR187, cs4]); subst hq
       exact Kr (.slice none 0 0) rfl (.cellN 6 rfl sh27 rfl (reads_Cl _ _) rfl (.tmp rfl (.tmp rfl (.tmp rfl .nil)))) [0] en
     intro h216
     have g223 := of_decide_eq_false h216
     refine KS ?_
     refine Jp 0 fun hp224 => ?_
     refine JK_drawK [0, 0, 2, 6, 14, 1, 33, 97, 255] fmix ?_
     refine Dv [] (Vbd st27 [.slice none 0 0]) (Dv [] Vm (Dv [0] (Vn 0) (Dv [0] (Vfa fo81_2 0) (Dv [1] (VldF sh35 0) (Dx0 [5] [5] [0] [fun G => Cl p1 [.slice none 0 0]] (fun G => xS (Scl [0] sh27 [.slice none 0 0])) (Dv [] Va (Dv [] Va (Dv [] Va ?_))))))))
     refine Dn ⟨by kernel_rfl, fun G => ?_⟩
     refine Jw2 [(2, p1), (3, vi 0), (4, vi 0), (5, vi rv181.Err)] [0, 1, 2, 3, 4] [Cl p1 [.slice none 0 0]] ?_
     refine Jk [1, 1, 1, 1, 2] ?_
     refine Jl [] (Ent.slNil (α := GFunc)) ?_
     have hq := q4 hrr ((GProgram.mk []), 0, 0, rv181.Err) (by simp only [flqref4_Parse, h12, h20, h158, h177, h179, h188, h214, h216, hg4, hg18, hg175, hg182, hR187, cs4]); subst hq
     exact Kr (.slice none 0 0) rfl (.cellN 5 rfl sh27 rfl (reads_Cl _ _) rfl (.tmp rfl (.tmp rfl (.tmp rfl .nil)))) [0] en
   intro h179
   have g225 := ne_of_beq_false h179
   refine KS ?_
   refine Jp 2 fun hp226 => ?_
   refine JK_drawK [0, 1, 0, 4, 12, 31, 63, 127] fmix ?_
   refine Dv [0] (Vfa fo27_0 0) (Dv [3] (VldF sh25 0) (Dv [] Vm ?_))
   refine letv (parser_function (Gparser.mk rv3.1 p1_161 p2_162)) fun rv228 hg229 => ?_
   refine Dx [1, 4] [1] [3, 0, 1, 2] (fun G => .agg #[.string (bs rv228.1.Name), (G.g 3 0)]) [fun G => SP.fact (rv228.1.Name.b.length ≤ 140737488355328 ∧ i64ok rv228.2.at_ ∧ i64ok rv228.2.Err ∧ (0 ≤ rv228.2.at_ ∧ rv228.2.at_ ≤ ((Gparser.mk rv3.1 p1_161 p2_162).l.length : Int))), fun G => sl (G.g 3 0) rv228.1.Blocks, fun G => Cl p15 [vl a9 k10 rv3.1, vi rv228.2.at_, vi rv228.2.Err]] (fun G => xC [0, 0] ca43 (fn43 p15 (Gparser.mk rv3.1 p1_161 p2_162) a9 k10 pre pre pre rv228 hg229)) (Dx [] [] [0] (fun G => (G.g 4 0)) [fun G => Cr (G.g 4 0) 1 [.string (bs rv228.1.Name), (G.g 3 0)]] (fun G => xA (AsV sl25 sz25 [.agg #[.string (bs rv228.1.Name), (G.g 3 0)]] [.string (bs rv228.1.Name), (G.g 3 0)])) ?_)
   have hn232 := la out0_163 ([rv228.1] : List GFunc)
   refine Dx [2, 6, 7, 9] [2, 9] [2, 1, 0] (fun G => (G.g 5 0)) [fun G => os (G.g 5 0) ((out0_163 ++ [rv228.1]) : List GFunc)] (fun G => by refine xf 1 rfl ?_; rintro ⟨he233, he234, he235, he236⟩; unfold i64ok at he234 he235; exact xp [3, 2] rfl (Ent.cr1 (α := GFunc) (A := [sl (G.g 3 0) rv228.1.Blocks]) _ rv228.1 _ (Nat.le_of_ble_eq_true rfl) (fun h => ⟨_, rfl, (by first | omega | (simp; done) | (dsimp only; omega) | exact lit_bl rfl), sepAll_get (i := 0) rfl h⟩)) (xA (ApO [2, 0] sl25 sl25 sz25))) (Dv [0] (Vfa fo27_0 0) (Dx0 [3, 10] [3] [1, 0] [fun G => Cl p16 [(G.g 5 0)]] (fun G => x1 1 rfl os_one fun ho237 => (xS (OpS.frame [0] rfl (OpS.storeClF [(G.g 5 0)] [(G.g 5 0)] rfl rfl rfl sh25 (cells_of_one ho237) rfl (by simp only [List.all_cons, List.all_nil, ho237, Bool.and_true, Bool.true_and] <;> rfl) (Nat.le_of_ble_eq_true rfl) rfl)))) ?_))
   refine Dn ⟨by kernel_rfl, fun G => ?_⟩
   refine Jw2 [(2, p1), (6, vl a9 k10 rv3.1), (10, p15), (11, p16)] [0, 4, 5] [SP.fact (rv228.1.Name.b.length ≤ 140737488355328 ∧ i64ok rv228.2.at_ ∧ i64ok rv228.2.Err ∧ (0 ≤ rv228.2.at_ ∧ rv228.2.at_ ≤ ((Gparser.mk rv3.1 p1_161 p2_162).l.length : Int))), sl (G.g 3 0) rv228.1.Blocks, Cl p15 [vl a9 k10 rv3.1, vi rv228.2.at_, vi rv228.2.Err], os (G.g 5 0) ((out0_163 ++ [rv228.1]) : List GFunc), Cl p16 [(G.g 5 0)]] ?_
   generalize G.g 3 0 = c227, G.g 5 0 = c231
   refine Jf 3 rfl ?_; rintro ⟨he238, he239, he240, he241⟩
   unfold i64ok at he239 he240
   refine Jk [1, 2, 3, 4, 4, 4] ?_
   refine Jo 2 ?_; rintro a242 k243 rfl
   refine Fb 40 2 fun hl244 => ?_
   refine Jo 4 ?_; rintro a245 k246 rfl
   refine Fb 40 4 fun hl247 => ?_
   refine KS ?_
   exact Kg (r160, rv228.2.at_, rv228.2.Err, (out0_163 ++ [rv228.1]), a245, k246) [4, 3, 3, 0, 1] ⟨(q3 hM166 (by simp only [flqref4_Parse_L0, h12, h20, h158, h177, h179, hg4, hg18, hg175, hg229, cs4])), (by omega), (by omega), iv1, iv1⟩
 intro h177
 refine Ke ?_
 have hR249 := q2 hM166 (.brk (p1_161, p2_162, out0_163)) (by simp only [flqref4_Parse_L0, h12, h20, h158, h177, hg4, hg18, hg175, cs4])
 refine KS ?_
 refine Oq Vm (Oq (Vn 0) (Oq (Vfa fo81_2 0) (Oq (VldF sh35 0) (Oq Veql (Oq Vm ?_)))))
 refine Js 53 ?_ ?_
 · intro h250
   have g251 := eq_of_beq h250
   refine Oq Vm (Oq (Vn 0) (Oq (Vfa fo81_1 0) (Oq (VldF sh3 0) (Oq Vm (Oq (Vlen sl76) (Oq Vlss (Oq Vpt (KS ?_))))))))
   refine Kc ?_ ?_
   · intro h252
     have g253 := of_decide_eq_true h252
     refine KS ?_
     refine Oq Vm ?_
     refine letv (parser_fail (Gparser.mk rv3.1 p1_161 p2_162) 4) fun rv254 hg255 => ?_
     have hc256 := fn42 p15 (Gparser.mk rv3.1 p1_161 p2_162) a9 k10 4 pre pre pre pre rv254 hg255
     refine Oc [0, 2] ca42 hc256 ?_
     rintro - ⟨he257, he258, he259⟩
     unfold i64ok at he257 he258
     have he259 : (0 ≤ rv254.at_ ∧ rv254.at_ ≤ (rv3.1.length : Int)) := he259
     refine KS ?_
     refine Oq Vm (Oq (Vn 0) (Oq (Vfa fo81_2 0) (Oq (VldF sh35 0) (Oq Veql (KS ?_)))))
     refine Kc ?_ ?_
     · intro h260
       have g261 := eq_of_beq h260
       refine KS ?_
       refine Oq (VldA sh27 2) (Ost (Scl [4] sh27 [vl a164 k165 out0_163]) (Oq Va (Oq Va (Oq Va (KS ?_)))))
       refine Jl [2] (Ent.freeze _ _) ?_
       have hq := q4 hrr ((GProgram.mk out0_163), 0, 0, 0) (by simp only [flqref4_Parse, h12, h20, h158, h177, h250, h252, h260, hg4, hg18, hg175, hR249, hg255, cs4]); subst hq
       exact Kr (vl a164 k165 out0_163) rfl (.cellN 1 rfl sh27 rfl (reads_Cl _ _) rfl (.tmp rfl (.tmp rfl (.tmp rfl .nil)))) [0] en
     intro h260
     have g262 := ne_of_beq_false h260
     refine KS ?_
     refine Oq Vm (Oq (Vn 0) (Oq (Vfa fo81_1 0) (Oq (VldF sh3 0) (Oq Vm (Oq (Vlen sl76) (Oq Vlss (KS ?_)))))))
     refine Kc ?_ ?_
     · intro h263
       have g264 := of_decide_eq_true h263
       refine KS ?_
       refine Jp 0 fun hp265 => ?_
       refine JJ_peek_GToken rv254.at_.toNat 4 rfl rng fun hb266 hb267 hb268 hb269 => ?_
       unfold i64ok at hb266 hb268 hb269
       refine JK_drawK [0, 0, 0, 4, 12, 28, 62, 126, 254, 0, 0, 1024, 3072, 7168, 15872, 32256, 65024, 0, 131072, 393216, 917504, 1, 2097663, 6422527, 16777215] fmix ?_
       refine Dv [] (Vbd st27 [.slice none 0 0]) (Dv [] Vm (Dv [] Vm (Dv [1] (Vn 0) (Dv [1] (Vfa fo81_1 0) (Dv [2] (VldF sh3 0) (Dv [5] (Vi sl76 0) (Dv [0] (Vfa fo85_2 0) (Dv [0] (VldF sh3 0) (Dv [] Vm ?_)))))))))
       refine Dv [] Vm (Dv [1] (Vn 0) (Dv [1] (Vfa fo81_1 0) (Dv [2] (VldF sh3 0) (Dv [5] (Vi sl76 0) (Dv [0] (Vfa fo85_3 0) (Dv [0] (VldF sh3 0) (Dv [] Vm (Dv [1] (Vn 0) (Dv [1] (Vfa fo81_2 0) ?_)))))))))
       refine Dv [2] (VldF sh35 0) (Dx0 [6] [6] [0] [fun G => Cl p1 [.slice none 0 0]] (fun G => xS (Scl [0] sh27 [.slice none 0 0])) (Dv [] Va (Dv [] Va (Dv [] Va ?_))))
       refine Dn ⟨by kernel_rfl, fun G => ?_⟩
       refine Jw2 [(2, p1), (3, vi ((rv3.1.getD rv254.at_.toNat default).Line)), (4, vi ((rv3.1.getD rv254.at_.toNat default).Col)), (5, vi rv254.Err)] [0, 1, 2, 3, 4, 5] [Cl p1 [.slice none 0 0]] ?_
       refine Jk [0, 2, 2, 2, 2, 3] ?_
       refine Jl [] (Ent.slNil (α := GFunc)) ?_
       have hq := q4 hrr ((GProgram.mk []), (rv3.1.getD rv254.at_.toNat default).Line, (rv3.1.getD rv254.at_.toNat default).Col, rv254.Err) (by simp only [flqref4_Parse, h12, h20, h158, h177, h250, h252, h260, h263, hg4, hg18, hg175, hR249, hg255, cs4]); subst hq
       exact Kr (.slice none 0 0) rfl (.cellN 6 rfl sh27 rfl (reads_Cl _ _) rfl (.tmp rfl (.tmp rfl (.tmp rfl .nil)))) [0] en
     intro h263
     have g270 := of_decide_eq_false h263
     refine KS ?_
     refine Jp 0 fun hp271 => ?_
     refine JK_drawK [0, 0, 2, 6, 14, 1, 33, 97, 255] fmix ?_
     refine Dv [] (Vbd st27 [.slice none 0 0]) (Dv [] Vm (Dv [0] (Vn 0) (Dv [0] (Vfa fo81_2 0) (Dv [1] (VldF sh35 0) (Dx0 [5] [5] [0] [fun G => Cl p1 [.slice none 0 0]] (fun G => xS (Scl [0] sh27 [.slice none 0 0])) (Dv [] Va (Dv [] Va (Dv [] Va ?_))))))))
     refine Dn ⟨by kernel_rfl, fun G => ?_⟩
     refine Jw2 [(2, p1), (3, vi 0), (4, vi 0), (5, vi rv254.Err)] [0, 1, 2, 3, 4] [Cl p1 [.slice none 0 0]] ?_
     refine Jk [1, 1, 1, 1, 2] ?_
     refine Jl [] (Ent.slNil (α := GFunc)) ?_
     have hq := q4 hrr ((GProgram.mk []), 0, 0, rv254.Err) (by simp only [flqref4_Parse, h12, h20, h158, h177, h250, h252, h260, h263, hg4, hg18, hg175, hR249, hg255, cs4]); subst hq
     exact Kr (.slice none 0 0) rfl (.cellN 5 rfl sh27 rfl (reads_Cl _ _) rfl (.tmp rfl (.tmp rfl (.tmp rfl .nil)))) [0] en
   intro h252
   have g272 := of_decide_eq_false h252
   refine KS ?_
   refine Oq Vm (Oq (Vn 0) (Oq (Vfa fo81_2 0) (Oq (VldF sh35 0) (Oq Veql (KS ?_)))))
   refine Kc ?_ ?_
   · intro h273
     have g274 := eq_of_beq h273
     refine KS ?_
     refine Oq (VldA sh27 2) (Ost (Scl [4] sh27 [vl a164 k165 out0_163]) (Oq Va (Oq Va (Oq Va (KS ?_)))))
     refine Jl [2] (Ent.freeze _ _) ?_
     have hq := q4 hrr ((GProgram.mk out0_163), 0, 0, 0) (by simp only [flqref4_Parse, h12, h20, h158, h177, h250, h252, h273, hg4, hg18, hg175, hR249, cs4]); subst hq
     exact Kr (vl a164 k165 out0_163) rfl (.cellN 1 rfl sh27 rfl (reads_Cl _ _) rfl (.tmp rfl (.tmp rfl (.tmp rfl .nil)))) [0] en
   intro h273
   exact absurd h273 (by first | (simp [h250]; done) | (simp only [bne, h250]; decide) | (simp only [bne, h250, Bool.not_true, Bool.not_false]; decide) | (exfalso; omega) | (intro hq; simp only [bne, hq, Bool.not_false, Bool.not_true, reduceCtorEq] at h250))
 intro h250
 have g275 := ne_of_beq_false h250
 refine Osk (Osk (Osk (Osk (Osk (Osk (Osk (Oq Vpf (KS ?_))))))))
 refine Kf ?_
 refine KS ?_
 refine Oq Vm (Oq (Vn 0) (Oq (Vfa fo81_2 0) (Oq (VldF sh35 0) (Oq Veql (KS ?_)))))
 refine Kc ?_ ?_
 · intro h276
   exact absurd h276 (by first | (simp [h250]; done) | (simp only [bne, h250]; decide) | (simp only [bne, h250, Bool.not_true, Bool.not_false]; decide) | (exfalso; omega) | (intro hq; simp only [bne, hq, Bool.not_false, Bool.not_true, reduceCtorEq] at h250))
 intro h276
 have g277 := ne_of_beq_false h276
 refine KS ?_
 refine Oq Vm (Oq (Vn 0) (Oq (Vfa fo81_1 0) (Oq (VldF sh3 0) (Oq Vm (Oq (Vlen sl76) (Oq Vlss (KS ?_)))))))
 refine Kc ?_ ?_
 · intro h278
   have g279 := of_decide_eq_true h278
   refine KS ?_
   refine Jp 0 fun hp280 => ?_
   refine JJ_peek_GToken p1_161.toNat 4 rfl rng fun hb281 hb282 hb283 hb284 => ?_
   unfold i64ok at hb281 hb283 hb284
   refine JK_drawK [0, 0, 0, 4, 12, 28, 62, 126, 254, 0, 0, 1024, 3072, 7168, 15872, 32256, 65024, 0, 131072, 393216, 917504, 1, 2097663, 6422527, 16777215] fmix ?_
   refine Dv [] (Vbd st27 [.slice none 0 0]) (Dv [] Vm (Dv [] Vm (Dv [1] (Vn 0) (Dv [1] (Vfa fo81_1 0) (Dv [2] (VldF sh3 0) (Dv [5] (Vi sl76 0) (Dv [0] (Vfa fo85_2 0) (Dv [0] (VldF sh3 0) (Dv [] Vm ?_)))))))))
   refine Dv [] Vm (Dv [1] (Vn 0) (Dv [1] (Vfa fo81_1 0) (Dv [2] (VldF sh3 0) (Dv [5] (Vi sl76 0) (Dv [0] (Vfa fo85_3 0) (Dv [0] (VldF sh3 0) (Dv [] Vm (Dv [1] (Vn 0) (Dv [1] (Vfa fo81_2 0) ?_)))))))))
   refine Dv [2] (VldF sh35 0) (Dx0 [6] [6] [0] [fun G => Cl p1 [.slice none 0 0]] (fun G => xS (Scl [0] sh27 [.slice none 0 0])) (Dv [] Va (Dv [] Va (Dv [] Va ?_))))
   refine Dn ⟨by kernel_rfl, fun G => ?_⟩
   refine Jw2 [(2, p1), (3, vi ((rv3.1.getD p1_161.toNat default).Line)), (4, vi ((rv3.1.getD p1_161.toNat default).Col)), (5, vi p2_162)] [0, 1, 2, 3, 4, 5] [Cl p1 [.slice none 0 0]] ?_
   refine Jk [0, 2, 2, 2, 2, 3] ?_
   refine Jl [] (Ent.slNil (α := GFunc)) ?_
   have hq := q4 hrr ((GProgram.mk []), (rv3.1.getD p1_161.toNat default).Line, (rv3.1.getD p1_161.toNat default).Col, p2_162) (by simp only [flqref4_Parse, h12, h20, h158, h177, h250, h276, h278, hg4, hg18, hg175, hR249, cs4]); subst hq
   exact Kr (.slice none 0 0) rfl (.cellN 6 rfl sh27 rfl (reads_Cl _ _) rfl (.tmp rfl (.tmp rfl (.tmp rfl .nil)))) [0] en
 intro h278
 have g285 := of_decide_eq_false h278
 refine KS ?_
 refine Jp 0 fun hp286 => ?_
 refine JK_drawK [0, 0, 2, 6, 14, 1, 33, 97, 255] fmix ?_
 refine Dv [] (Vbd st27 [.slice none 0 0]) (Dv [] Vm (Dv [0] (Vn 0) (Dv [0] (Vfa fo81_2 0) (Dv [1] (VldF sh35 0) (Dx0 [5] [5] [0] [fun G => Cl p1 [.slice none 0 0]] (fun G => xS (Scl [0] sh27 [.slice none 0 0])) (Dv [] Va (Dv [] Va (Dv [] Va ?_))))))))
 refine Dn ⟨by kernel_rfl, fun G => ?_⟩
 refine Jw2 [(2, p1), (3, vi 0), (4, vi 0), (5, vi p2_162)] [0, 1, 2, 3, 4] [Cl p1 [.slice none 0 0]] ?_
 refine Jk [1, 1, 1, 1, 2] ?_
 refine Jl [] (Ent.slNil (α := GFunc)) ?_
 have hq := q4 hrr ((GProgram.mk []), 0, 0, p2_162) (by simp only [flqref4_Parse, h12, h20, h158, h177, h250, h276, h278, hg4, hg18, hg175, hR249, cs4]); subst hq
 exact Kr (.slice none 0 0) rfl (.cellN 5 rfl sh27 rfl (reads_Cl _ _) rfl (.tmp rfl (.tmp rfl (.tmp rfl .nil)))) [0] en
theorem fn12 (kwLA : Option Addr) (kwLK : Nat) (rr : Bool) (hrr : flqlaw6_sane = rr) : FT Tryd.prog 12 #[] [pv (gp 0) [vl kwLA kwLK kwL], S kwLA kwLK kwL] (fun g : Unit => True) (fun g => vb rr) (fun g => []) := by
 refine FTi Tryd.func12 fun w0 M0 F0 => ?_
 refine Fb 16 1 fun hl1 => ?_
 refine FoS 1 fun ho2 => ?_
 refine KS ?_
 refine Oq Va (KS ?_)
 refine letv (flqref4_Parse (Str.mk [102, 117, 110, 99, 32, 109, 59, 32, 98, 108, 111, 99, 107, 32, 98, 59, 32, 120, 32, 61, 32, 121, 59, 32, 101, 110, 100])) fun rv4 hg5 => ?_
 have hc6 := fn26 ((Str.mk [102, 117, 110, 99, 32, 109, 59, 32, 98, 108, 111, 99, 107, 32, 98, 59, 32, 120, 32, 61, 32, 121, 59, 32, 101, 110, 100])) pre rv4 hg5
 refine Oc [] ca26 hc6 ?_
 rintro c3 ⟨he7, he8, he9⟩
 unfold i64ok at he7 he8 he9
 refine Jo 0 ?_; rintro a10 k11 rfl
 refine Fb 40 0 fun hl12 => ?_
 refine Oq Vm (Oq Vx (Oq Vx (Oq Vx (Oq Vx (Oa (Al ze27 [.slice none 0 0]) fun p13 => Ost (Scl [0] sh27 [vl a10 k11 rv4.1.Funcs]) (Oq Va (Oq Va (Oq Va ?_))))))))
 refine KS ?_
 refine letv (flqref4_Parse (Str.mk [102, 117, 110, 99, 32, 109, 59, 32, 98, 108, 111, 99, 107, 32, 98, 59, 32, 103, 111, 116, 111, 32, 99, 59, 32, 101, 110, 100])) fun rv15 hg16 => ?_
 have hc17 := fn26 ((Str.mk [102, 117, 110, 99, 32, 109, 59, 32, 98, 108, 111, 99, 107, 32, 98, 59, 32, 103, 111, 116, 111, 32, 99, 59, 32, 101, 110, 100])) pre rv15 hg16
 refine Oc [] ca26 hc17 ?_
 rintro c14 ⟨he18, he19, he20⟩
 unfold i64ok at he18 he19 he20
 refine Jo 0 ?_; rintro a21 k22 rfl
 refine Fb 40 0 fun hl23 => ?_
 refine Oq Vm (Oq Vx (Oq Vx (Oq Vx (Oq Vx (Oa (Al ze27 [.slice none 0 0]) fun p24 => Ost (Scl [0] sh27 [vl a21 k22 rv15.1.Funcs]) (Oq Va (Oq Va (Oq Va ?_))))))))
 refine KS ?_
 refine letv (flqref4_Parse (Str.mk [102, 117, 110, 99, 32, 109, 59, 32, 98, 108, 111, 99, 107, 32, 98, 59, 32, 99, 97, 108, 108, 32, 109, 59, 32, 114, 101, 116, 117, 114, 110, 59, 32, 101, 110, 100])) fun rv26 hg27 => ?_
 have hc28 := fn26 ((Str.mk [102, 117, 110, 99, 32, 109, 59, 32, 98, 108, 111, 99, 107, 32, 98, 59, 32, 99, 97, 108, 108, 32, 109, 59, 32, 114, 101, 116, 117, 114, 110, 59, 32, 101, 110, 100])) pre rv26 hg27
 refine Oc [] ca26 hc28 ?_
 rintro c25 ⟨he29, he30, he31⟩
 unfold i64ok at he29 he30 he31
 refine Jo 0 ?_; rintro a32 k33 rfl
 refine Fb 40 0 fun hl34 => ?_
 refine Oq Vm (Oq Vx (Oq Vx (Oq Vx (Oq Vx (Oa (Al ze27 [.slice none 0 0]) fun p35 => Ost (Scl [0] sh27 [vl a32 k33 rv26.1.Funcs]) (Oq Va (Oq Va (Oq Va ?_))))))))
 refine KS ?_
 refine Oq (VldA sh27 4) ?_
 refine letv (validate_Check rv4.1) fun rv36 hg37 => ?_
 have hc38 := fn13 rv4.1 a10 k11 kwLA kwLK (psm_of (by assumption) (by kernel_rfl)) rv36 hg37
 refine Oc [5, 6, 7] ca13 hc38 ?_
 rintro - ⟨he39, he40, he41, he42, he43⟩
 unfold i64ok at he39 he40 he41 he42 he43
 refine Oq Vm (Oq Vx (Oq Vx (Oa (Al ze34 [vi 0, vi 0, vi 0, vi 0]) fun p44 => Ost (Scl [0] sh34 [vi rv36.1.Kind, vi rv36.1.Func, vi rv36.1.Block, vi rv36.1.Stmt]) (Oq Va (KS ?_)))))
 refine Oq (VldA sh27 3) ?_
 refine letv (validate_Check rv15.1) fun rv45 hg46 => ?_
 have hc47 := fn13 rv15.1 a21 k22 kwLA kwLK (psm_of (by assumption) (by kernel_rfl)) rv45 hg46
 refine Oc [4, 7, 8] ca13 hc47 ?_
 rintro - ⟨he48, he49, he50, he51, he52⟩
 unfold i64ok at he48 he49 he50 he51 he52
 refine Oq Vm (Oq Vx (Oq Vx (Oa (Al ze34 [vi 0, vi 0, vi 0, vi 0]) fun p53 => Ost (Scl [0] sh34 [vi rv45.1.Kind, vi rv45.1.Func, vi rv45.1.Block, vi rv45.1.Stmt]) (Oq Va (KS ?_)))))
 refine Oq (VldA sh27 2) ?_
 refine letv (validate_Check rv26.1) fun rv54 hg55 => ?_
 have hc56 := fn13 rv26.1 a32 k33 kwLA kwLK (psm_of (by assumption) (by kernel_rfl)) rv54 hg55
 refine Oc [3, 8, 9] ca13 hc56 ?_
 rintro - ⟨he57, he58, he59, he60, he61⟩
 unfold i64ok at he57 he58 he59 he60 he61
 refine Oq Vm (Oq Vx (Oq Vx (Oa (Al ze34 [vi 0, vi 0, vi 0, vi 0]) fun p62 => Ost (Scl [0] sh34 [vi rv54.1.Kind, vi rv54.1.Func, vi rv54.1.Block, vi rv54.1.Stmt]) (Oq Va (KS ?_)))))
 refine Oq (VldA sh27 3) ?_
 refine letv (validate_Sizes rv26.1) fun rv63 hg64 => ?_
 have hc65 := fn14 rv26.1 a32 k33 kwLA kwLK (psm_of (by assumption) (by kernel_rfl)) rv63 hg64
 refine Oc [4, 9, 10] ca14 hc65 ?_
 rintro - ⟨he66, he67, he68⟩
 unfold i64ok at he66 he67
 refine Oq Vm (Oq Vx (Oq Vx (Oq Va (Oq Va (KS ?_)))))
 refine Oq (Vbd st34 [vi 3, vi 0, vi 0, vi 0]) (Oa (Al ze34 [vi 0, vi 0, vi 0, vi 0]) fun p69 => Ost (Scl [0] sh34 [vi 3, vi 0, vi 0, vi 0]) (KS ?_))
 refine Oq Vm (Oq Veql (Oq Vm ?_))
 refine Js 63 ?_ ?_
 · intro h70
   have g71 := eq_of_beq h70
   refine Oq (VldA sh34 3) (Oq (VldA sh34 0) (Oq (VeqA eqi34 (l := [rv36.1.Kind, rv36.1.Func, rv36.1.Block, rv36.1.Stmt]) (m := [3, 0, 0, 0])) (Oq Vpt (Oq Vm ?_))))
   refine Js 68 ?_ ?_
   · intro h72
     have g73 := eq_of_beq h72
     refine Oq Vm (Oq Veql (Oq Vpt (Oq Vm ?_)))
     refine Js 72 ?_ ?_
     · intro h74
       have g75 := eq_of_beq h74
       refine Oq (VldA sh34 2) (Oq (VldA sh34 0) (Oq (VeqA eqi34 (l := [rv45.1.Kind, rv45.1.Func, rv45.1.Block, rv45.1.Stmt]) (m := [3, 0, 0, 0])) (Oq Vpt (Oq Vm ?_))))
       refine Js 77 ?_ ?_
       · intro h76
         have g77 := eq_of_beq h76
         refine Oq Vm (Oq Veql (Oq Vpt (Oq Vm ?_)))
         refine Js 81 ?_ ?_
         · intro h78
           have g79 := eq_of_beq h78
           refine Oq Vm (Oq Veql (Oq Vpt (Oq Vm ?_)))
           refine Js 85 ?_ ?_
           · intro h80
             have g81 := eq_of_beq h80
             refine Oq Vm (Oq Veql (Oq Vpt (Oq Va (KS ?_))))
             have hq := q4 hrr (rv63.2 == 5) (by simp only [flqlaw6_sane, h70, h72, h74, h76, h78, h80, hg5, hg16, hg27, hg37, hg46, hg55, hg64, cs4]); subst hq
             exact Kr () rfl (.tmp rfl .nil) [] trivial
           intro h80
           have g82 := ne_of_beq_false h80
           refine Osk (Osk (Oq Vpf (Oq Va (KS ?_))))
           have hq := q4 hrr false (by simp only [flqlaw6_sane, h70, h72, h74, h76, h78, h80, hg5, hg16, hg27, hg37, hg46, hg55, hg64, cs4]); subst hq
           exact Kr () rfl (.tmp rfl .nil) [] trivial
         intro h78
         have g83 := ne_of_beq_false h78
         refine Osk (Osk (Oq Vpf (Oq Vm (Osk (Osk (Oq Vpf (Oq Va (KS ?_))))))))
         have hq := q4 hrr false (by simp only [flqlaw6_sane, h70, h72, h74, h76, h78, hg5, hg16, hg27, hg37, hg46, hg55, hg64, cs4]); subst hq
         exact Kr () rfl (.tmp rfl .nil) [] trivial
       intro h76
       have g84 := ne_of_beq_false h76
       refine Osk (Osk (Oq Vpf (Oq Vm (Osk (Osk (Oq Vpf (Oq Vm (Osk (Osk ?_)))))))))
       refine Oq Vpf (Oq Va (KS ?_))
       have hq := q4 hrr false (by simp only [flqlaw6_sane, h70, h72, h74, h76, hg5, hg16, hg27, hg37, hg46, hg55, hg64, cs4]); subst hq
       exact Kr () rfl (.tmp rfl .nil) [] trivial
     intro h74
     have g85 := ne_of_beq_false h74
     refine Osk (Osk (Osk (Oq Vpf (Oq Vm (Osk (Osk (Oq Vpf (Oq Vm (Osk ?_)))))))))
     refine Osk (Oq Vpf (Oq Vm (Osk (Osk (Oq Vpf (Oq Va (KS ?_)))))))
     have hq := q4 hrr false (by simp only [flqlaw6_sane, h70, h72, h74, hg5, hg16, hg27, hg37, hg46, hg55, hg64, cs4]); subst hq
     exact Kr () rfl (.tmp rfl .nil) [] trivial
   intro h72
   have g86 := ne_of_beq_false h72
   refine Osk (Osk (Oq Vpf (Oq Vm (Osk (Osk (Osk (Oq Vpf (Oq Vm (Osk ?_)))))))))
   refine Osk (Oq Vpf (Oq Vm (Osk (Osk (Oq Vpf (Oq Vm (Osk (Osk (Oq Vpf ?_)))))))))
   refine Oq Va (KS ?_)
   have hq := q4 hrr false (by simp only [flqlaw6_sane, h70, h72, hg5, hg16, hg27, hg37, hg46, hg55, hg64, cs4]); subst hq
   exact Kr () rfl (.tmp rfl .nil) [] trivial
 intro h70
 have g87 := ne_of_beq_false h70
 refine Osk (Osk (Osk (Oq Vpf (Oq Vm (Osk (Osk (Oq Vpf (Oq Vm (Osk ?_)))))))))
 refine Osk (Osk (Oq Vpf (Oq Vm (Osk (Osk (Oq Vpf (Oq Vm (Osk (Osk ?_)))))))))
 refine Oq Vpf (Oq Vm (Osk (Osk (Oq Vpf (Oq Va (KS ?_))))))
 have hq := q4 hrr false (by simp only [flqlaw6_sane, h70, hg5, hg16, hg27, hg37, hg46, hg55, hg64, cs4]); subst hq
 exact Kr () rfl (.tmp rfl .nil) [] trivial
theorem fn6 (l : List Int) (la0 : Option Addr) (lk0 : Nat) (rr : Unit) (hrr : flqgen_New l = rr) : FT Tryd.prog 6 #[vl la0 lk0 l] [S la0 lk0 l] (fun g : Value => True) (fun g => g) (fun g => [Cl g [vl la0 lk0 l, vi 0]]) := by
 refine FTi Tryd.func6 fun w0 M0 F0 => ?_
 refine Fb 8 0 fun hl1 => ?_
 refine Fo 0 fun ho2 => ?_
 refine KS ?_
 refine Oq Va (KS ?_)
 refine Oq Vm (Oq (Vbd st55 [vl la0 lk0 l, vi 0]) (Oa (AbO [vl la0 lk0 l, vi 0]) fun p3 => Oq Va (KS ?_)))
 have hq := q4 hrr () (by simp only [flqgen_New, cs4]); subst hq
 exact Kr p3 rfl (.tmp rfl .nil) [0] trivial
theorem fn22 (v : Int) (n : Int) (hv_0 : i64ok v) (hn_0 : i64ok n) (hn1 : 1 ≤ n) (rr : Int) (hrr : flqgen_Mod v n = rr) : FT Tryd.prog 22 #[vi v, vi n] [] (fun g : Unit => i64ok rr ∧ (0 ≤ rr ∧ rr < n)) (fun g => vi rr) (fun g => []) := by
 refine FTi Tryd.func22 fun w0 M0 F0 => ?_
 unfold i64ok at hv_0 hn_0
 have hm := mod_range v n (by omega)
 refine KS ?_
 refine Oq Va (KS ?_)
 refine Oq Vm (Oq (VcU un3 un73) (Oq Vm (Oq (VcU un3 un73) (Oq (VremU (ofInt_ne n (by omega))) (Oq (VcN un73 un3 (h := (mod_le v n (by omega)))) (Oq Va (KS ?_)))))))
 have hq := q4 hrr (((BitVec.ofInt 64 v) % (BitVec.ofInt 64 n)).toNat : Int) (by simp only [flqgen_Mod, cs4]); subst hq
 exact Kr () rfl (.tmp rfl .nil) [] en
theorem fn8 (tP : Value) (ta : Option Addr) (tk : Nat) (tT : List Int) (tI : Int) (n : Int) (htI : 0 ≤ tI ∧ tI ≤ (tT.length : Int)) (hn_0 : i64ok n) (rr : Int × Int) (hrr : Tape_Next tT tI n = rr) : FT Tryd.prog 8 #[tP, vi n] [Cl tP [vl ta tk tT, vi tI], S ta tk tT] (fun g : Unit => i64ok rr.1 ∧ (0 ≤ rr.2 ∧ rr.2 ≤ (tT.length : Int)) ∧ (0 ≤ rr.1 ∧ (rr.1 < n ∨ rr.1 = 0))) (fun g => vi rr.1) (fun g => [Cl tP [vl ta tk tT, vi rr.2]]) := by
 refine FTi Tryd.func8 fun w0 M0 F0 => ?_
 unfold i64ok at hn_0
 refine Fb 8 1 fun hl1 => ?_
 refine Fo 1 fun ho2 => ?_
 refine KS ?_
 refine Oq Va (KS ?_)
 refine Jp 0 fun hp3 => ?_
 refine Kq [0, 1, 3, 7, 15, 31, 63, 7, 135, 391, 903, 1927, 4095, 8191] fmix ?_
 refine Qv [] Vm (Qv [] Vleq ?_)
 refine bool_split (decide (n ≤ 1)) ?_ ?_
 · intro h4
   have g5 := of_decide_eq_true h4
   refine Qb h4 [] Vm (Qs (Qs (Qs (Qs (Qs (Qs (Qs (Qs (Qs ?_)))))))))
   refine Qs (Qv [] Vpt ?_)
   refine Qn ⟨by kernel_rfl, ?_⟩
   refine Kt ?_
   refine KS ?_
   refine Oq Va (KS ?_)
   have hq := q4 hrr (0, tI) (by simp only [Tape_Next, h4, cs4]); subst hq
   exact Kr () rfl (.tmp rfl .nil) [1] en
 intro h4
 have g6 := of_decide_eq_false h4
 refine Qb h4 [] Vm (Qv [] Vm (Qv [0] (Vn 0) (Qv [0] (Vfa fo55_1 0) (Qv [1] (VldF sh3 0) (Qv [] Vm (Qv [0] (Vn 0) (Qv [0] (Vfa fo55_0 0) (Qv [1] (VldF sh22 0) (Qv [] (Vlen sl22) ?_)))))))))
 refine Qv [] Vgeq (Qv [] Vpf ?_)
 refine Qn ⟨by kernel_rfl, ?_⟩
 refine Kc ?_ ?_
 · intro h7
   have g8 := of_decide_eq_true h7
   refine KS ?_
   refine Oq Va (KS ?_)
   have hq := q4 hrr (0, tI) (by simp only [Tape_Next, h4, h7, cs4]); subst hq
   exact Kr () rfl (.tmp rfl .nil) [1] en
 intro h7
 have g9 := of_decide_eq_false h7
 refine KS ?_
 refine Oq Vm (Oq (Vn 1) (Oq (Vfa fo55_1 1) (Oq (VldF sh3 1) (Oq Vadd (Oq (Vn 1) (Oq (Vfa fo55_1 1) (Ost (SclF [1] sh3 [vl ta tk tT, vi (tI + 1)]) (KS ?_))))))))
 refine JK_drawK [0, 1, 3, 7, 0, 16, 48, 112, 240, 511, 1023, 0, 4095, 8191] fmix ?_
 refine Dv [] Vm (Dv [1] (Vn 0) (Dv [1] (Vfa fo55_0 0) (Dv [0] (VldF sh22 0) (Dv [] Vm (Dv [1] (Vn 0) (Dv [1] (Vfa fo55_1 0) (Dv [0] (VldF sh3 0) (Dv [] Vsub (Dv [2] (Vi sl22 0) ?_)))))))))
 have hb10 := ok1 (i := (((tI + 1) - 1) : Int).toNat) ho2 rng
 refine Dv [2] (VldI sh3 0) (Dv [] Vm ?_)
 refine letv (flqgen_Mod (tT.getD (((tI + 1) - 1) : Int).toNat 0) n) fun rv11 hg12 => ?_
 refine Dx [] [] [0] (fun G => vi rv11) [fun G => SP.fact (i64ok rv11 ∧ (0 ≤ rv11 ∧ rv11 < n))] (fun G => xC [] ca22 (fn22 ((tT.getD (((tI + 1) - 1) : Int).toNat 0)) n pre pre pre rv11 hg12)) (Dv [] Va ?_)
 refine Dn ⟨by kernel_rfl, fun G => ?_⟩
 refine Jw2 [(4, vi rv11)] [0, 1, 2] [SP.fact (i64ok rv11 ∧ (0 ≤ rv11 ∧ rv11 < n))] ?_
 refine Jf 3 rfl ?_; rintro ⟨he13, he14⟩
 unfold i64ok at he13
 refine Jk [0, 1] ?_
 have hq := q4 hrr (rv11, (tI + 1)) (by simp only [Tape_Next, h4, h7, hg12, cs4]); subst hq
 exact Kr () rfl (.tmp rfl .nil) [0] en
theorem fn21 (tP : Value) (ta : Option Addr) (tk : Nat) (tT : List Int) (tI : Int) (htI : 0 ≤ tI ∧ tI ≤ (tT.length : Int)) (rr : Str × Int) (hrr : Tape_name tT tI = rr) : FT Tryd.prog 21 #[tP] [Cl tP [vl ta tk tT, vi tI], S ta tk tT] (fun g : Unit => rr.1.b.length ≤ 140737488355328 ∧ (0 ≤ rr.2 ∧ rr.2 ≤ (tT.length : Int))) (fun g => .string (bs rr.1)) (fun g => [Cl tP [vl ta tk tT, vi rr.2]]) := by
 refine FTi Tryd.func21 fun w0 M0 F0 => ?_
 refine Fb 8 1 fun hl1 => ?_
 refine Fo 1 fun ho2 => ?_
 refine KS ?_
 refine Oq Va (KS ?_)
 refine Oa (AsV sl40 sz40 [.string (bs (Str.mk [120])), .string (bs (Str.mk [121])), .string (bs (Str.mk [122])), .string (bs (Str.mk [119]))] [.string (bs (Str.mk [120])), .string (bs (Str.mk [121])), .string (bs (Str.mk [122])), .string (bs (Str.mk [119]))]) fun c3 => ?_
 refine Jo 0 ?_; rintro a4 k5 rfl
 refine Oq Vm ?_
 refine letv (Tape_Next tT tI 4) fun rv6 hg7 => ?_
 have hc8 := fn8 tP ta tk tT tI 4 pre pre rv6 hg7
 refine Oc [1, 1] ca8 hc8 ?_
 rintro - ⟨he9, he10, he11⟩
 unfold i64ok at he9
 refine Jl [1] (Ent.crOs (α := Str) (A := []) _ ([(Str.mk [120]), (Str.mk [121]), (Str.mk [122]), (Str.mk [119])] : List Str) _ (Nat.le_of_ble_eq_true rfl) (fun h => ⟨[.string (bs (Str.mk [120]))], [.string (bs (Str.mk [121])), .string (bs (Str.mk [122])), .string (bs (Str.mk [119]))], rfl, (fun _ => ⟨rfl, by first | omega | (simp; done) | (dsimp only; omega) | exact lit_bl rfl⟩) h, ⟨[.string (bs (Str.mk [121]))], [.string (bs (Str.mk [122])), .string (bs (Str.mk [119]))], rfl, (fun _ => ⟨rfl, by first | omega | (simp; done) | (dsimp only; omega) | exact lit_bl rfl⟩) h, ⟨[.string (bs (Str.mk [122]))], [.string (bs (Str.mk [119]))], rfl, (fun _ => ⟨rfl, by first | omega | (simp; done) | (dsimp only; omega) | exact lit_bl rfl⟩) h, ⟨[.string (bs (Str.mk [119]))], [], rfl, (fun _ => ⟨rfl, by first | omega | (simp; done) | (dsimp only; omega) | exact lit_bl rfl⟩) h, rfl⟩⟩⟩⟩)) ?_
 refine Oq (Vi sl40 0) ?_
 refine Fb 16 0 fun hl12 => ?_
 refine FoS 0 fun ho13 => ?_
 have hb14 := okS (i := rv6.1.toNat) ho13 rng
 refine Oq (VldS sh9 0) (Oq Va (KS ?_))
 have hq := q4 hrr (([(Str.mk [120]), (Str.mk [121]), (Str.mk [122]), (Str.mk [119])].getD rv6.1.toNat default), rv6.2) (by simp only [Tape_name, hg7, cs4]); subst hq
 exact Kr () rfl (.tmp rfl .nil) [1] en
theorem fn19 (tP : Value) (ta : Option Addr) (tk : Nat) (tT : List Int) (tI : Int) (funcs : Int) (htI : 0 ≤ tI ∧ tI ≤ (tT.length : Int)) (hfuncs_0 : i64ok funcs) (hfu : funcs ≤ 3) (rr : GStmt × Int) (hrr : Tape_stmt tT tI funcs = rr) : FT Tryd.prog 19 #[tP, vi funcs] [Cl tP [vl ta tk tT, vi tI], S ta tk tT] (fun g : Value × Value => i64ok rr.1.Op ∧ rr.1.Def.b.length ≤ 140737488355328 ∧ (0 ≤ rr.2 ∧ rr.2 ≤ (tT.length : Int))) (fun g => .agg #[vi rr.1.Op, .string (bs rr.1.Def), g.1, g.2]) (fun g => [os g.1 rr.1.Uses, os g.2 rr.1.Targets, Cl tP [vl ta tk tT, vi rr.2]]) := by
 refine FTi Tryd.func19 fun w0 M0 F0 => ?_
 unfold i64ok at hfuncs_0
 refine Fb 8 1 fun hl1 => ?_
 refine Fo 1 fun ho2 => ?_
 refine KS ?_
 refine Oa (Al ze51 [vi 0, .string (bs (Str.mk [])), .slice none 0 0, .slice none 0 0]) fun p3 => KS ?_
 refine Oq Vm ?_
 refine letv (Tape_Next tT tI 9) fun rv4 hg5 => ?_
 have hc6 := fn8 tP ta tk tT tI 9 pre pre rv4 hg5
 refine Oc [1, 1] ca8 hc6 ?_
 rintro - ⟨he7, he8, he9⟩
 unfold i64ok at he7
 refine KS ?_
 refine Oq Veql (Oq Va (KS ?_))
 refine Kc ?_ ?_
 · intro h10
   have g11 := eq_of_beq h10
   refine KS ?_
   refine Oq Vm ?_
   refine letv (Tape_name tT rv4.2) fun rv12 hg13 => ?_
   have hc14 := fn21 tP ta tk tT rv4.2 pre rv12 hg13
   refine Oc [0, 1] ca21 hc14 ?_
   rintro - ⟨he15, he16⟩
   refine Oq Vm ?_
   refine letv (Tape_name tT rv12.2) fun rv17 hg18 => ?_
   have hc19 := fn21 tP ta tk tT rv12.2 pre rv17 hg18
   refine Oc [0, 1] ca21 hc19 ?_
   rintro - ⟨he20, he21⟩
   refine Oa (AsV sl40 sz40 [.string (bs rv12.1), .string (bs rv17.1)] [.string (bs rv12.1), .string (bs rv17.1)]) fun c22 => ?_
   refine Jo 0 ?_; rintro a23 k24 rfl
   refine Oq Vm ?_
   refine letv (Tape_Next tT rv17.2 2) fun rv25 hg26 => ?_
   have hc27 := fn8 tP ta tk tT rv17.2 2 pre pre rv25 hg26
   refine Oc [1, 2] ca8 hc27 ?_
   rintro - ⟨he28, he29, he30⟩
   unfold i64ok at he28
   refine Oq Vadd ?_
   refine Jl [1] (Ent.crOs (α := Str) (A := []) _ ([rv12.1, rv17.1] : List Str) _ (Nat.le_of_ble_eq_true rfl) (fun h => ⟨[.string (bs rv12.1)], [.string (bs rv17.1)], rfl, (fun _ => ⟨rfl, by first | omega | (simp; done) | (dsimp only; omega) | exact lit_bl rfl⟩) h, ⟨[.string (bs rv17.1)], [], rfl, (fun _ => ⟨rfl, by first | omega | (simp; done) | (dsimp only; omega) | exact lit_bl rfl⟩) h, rfl⟩⟩)) ?_
   refine Oa (AslO [0] sl40 0 (((1 + rv25.1) : Int).toNat)) fun c31 => ?_
   refine Jo 0 ?_; rintro a32 k33 rfl
   refine Fb 16 0 fun hl34 => ?_
   refine FoS 0 fun ho35 => ?_
   have hn36 : (([rv12.1, rv17.1].take (((1 + rv25.1) : Int).toNat)).drop 0).length = (((1 + rv25.1) : Int).toNat) - 0 := len_slice rng rng
   refine Oq (Vbd st51 [vi 2, .string (bs (Str.mk [])), .slice a32 ((([rv12.1, rv17.1].take (((1 + rv25.1) : Int).toNat)).drop 0).length) k33, .slice none 0 0]) (Ost (Scl [2] sh51 [vi 2, .string (bs (Str.mk [])), .slice a32 ((([rv12.1, rv17.1].take (((1 + rv25.1) : Int).toNat)).drop 0).length) k33, .slice none 0 0]) (KS ?_))
   refine Jl [] (Ent.osNil (α := Str)) ?_
   have hq := q4 hrr ((GStmt.mk 2 (Str.mk []) (([rv12.1, rv17.1].take (((1 + rv25.1) : Int).toNat)).drop 0) []), rv25.2) (by simp only [Tape_stmt, h10, hg5, hg13, hg18, hg26, cs4]); subst hq
   exact Kr (.slice a32 ((([rv12.1, rv17.1].take (((1 + rv25.1) : Int).toNat)).drop 0).length) k33, .slice none 0 0) rfl (.cellN 1 rfl sh51 rfl (reads_Cl _ _) rfl .nil) [2, 0, 1] en
 intro h10
 have g37 := ne_of_beq_false h10
 refine KS ?_
 refine Oq Veql (Oq Va (KS ?_))
 refine Kc ?_ ?_
 · intro h38
   have g39 := eq_of_beq h38
   refine KS ?_
   refine Oq Vm ?_
   refine letv (Tape_name tT rv4.2) fun rv40 hg41 => ?_
   have hc42 := fn21 tP ta tk tT rv4.2 pre rv40 hg41
   refine Oc [0, 1] ca21 hc42 ?_
   rintro - ⟨he43, he44⟩
   refine Oq (Vbd st51 [vi 4, .string (bs rv40.1), .slice none 0 0, .slice none 0 0]) (Ost (Scl [1] sh51 [vi 4, .string (bs rv40.1), .slice none 0 0, .slice none 0 0]) (KS ?_))
   refine Jl [] (Ent.osNil (α := Str)) ?_
   refine Jl [] (Ent.osNil (α := Str)) ?_
   have hq := q4 hrr ((GStmt.mk 4 rv40.1 [] []), rv40.2) (by simp only [Tape_stmt, h10, h38, hg5, hg41, cs4]); subst hq
   exact Kr (.slice none 0 0, .slice none 0 0) rfl (.cellN 2 rfl sh51 rfl (reads_Cl _ _) rfl .nil) [1, 0, 1] en
 intro h38
 have g45 := ne_of_beq_false h38
 refine KS ?_
 refine Oq Veql (Oq Va (KS ?_))
 refine Kc ?_ ?_
 · intro h46
   have g47 := eq_of_beq h46
   refine KS ?_
   refine Oq Vm ?_
   refine letv (Tape_name tT rv4.2) fun rv48 hg49 => ?_
   have hc50 := fn21 tP ta tk tT rv4.2 pre rv48 hg49
   refine Oc [0, 1] ca21 hc50 ?_
   rintro - ⟨he51, he52⟩
   refine Oa (AsV sl40 sz40 [.string (bs rv48.1)] [.string (bs rv48.1)]) fun c53 => ?_
   refine Jo 0 ?_; rintro a54 k55 rfl
   refine Oq (Vbd st51 [vi 5, .string (bs (Str.mk [])), .slice a54 1 k55, .slice none 0 0]) (Ost (Scl [2] sh51 [vi 5, .string (bs (Str.mk [])), .slice a54 1 k55, .slice none 0 0]) (KS ?_))
   refine Jl [1] (Ent.cr1 (α := Str) (A := []) _ rv48.1 _ (Nat.le_of_ble_eq_true rfl) (fun _ => ⟨rfl, by first | omega | (simp; done) | (dsimp only; omega) | exact lit_bl rfl⟩)) ?_
   refine Jl [] (Ent.osNil (α := Str)) ?_
   have hq := q4 hrr ((GStmt.mk 5 (Str.mk []) [rv48.1] []), rv48.2) (by simp only [Tape_stmt, h10, h38, h46, hg5, hg49, cs4]); subst hq
   exact Kr (.slice a54 1 k55, .slice none 0 0) rfl (.cellN 2 rfl sh51 rfl (reads_Cl _ _) rfl .nil) [1, 0, 1] en
 intro h46
 have g56 := ne_of_beq_false h46
 refine KS ?_
 refine Oq Veql (Oq Va (KS ?_))
 refine Kc ?_ ?_
 · intro h57
   have g58 := eq_of_beq h57
   refine KS ?_
   refine Oq Vm ?_
   refine letv (Tape_name tT rv4.2) fun rv59 hg60 => ?_
   have hc61 := fn21 tP ta tk tT rv4.2 pre rv59 hg60
   refine Oc [0, 1] ca21 hc61 ?_
   rintro - ⟨he62, he63⟩
   refine Oq (Vbd st51 [vi 6, .string (bs rv59.1), .slice none 0 0, .slice none 0 0]) (Ost (Scl [1] sh51 [vi 6, .string (bs rv59.1), .slice none 0 0, .slice none 0 0]) (KS ?_))
   refine Jl [] (Ent.osNil (α := Str)) ?_
   refine Jl [] (Ent.osNil (α := Str)) ?_
   have hq := q4 hrr ((GStmt.mk 6 rv59.1 [] []), rv59.2) (by simp only [Tape_stmt, h10, h38, h46, h57, hg5, hg60, cs4]); subst hq
   exact Kr (.slice none 0 0, .slice none 0 0) rfl (.cellN 2 rfl sh51 rfl (reads_Cl _ _) rfl .nil) [1, 0, 1] en
 intro h57
 have g64 := ne_of_beq_false h57
 refine KS ?_
 refine Oq Veql (Oq Va (KS ?_))
 refine Kc ?_ ?_
 · intro h65
   have g66 := eq_of_beq h65
   refine KS ?_
   refine Kc ?_ ?_
   · intro h67
     have g68 := eq_of_beq h67
     refine KS ?_
     refine Oa (AsV sl40 sz40 [.string (bs (Str.mk [109])), .string (bs (Str.mk [102])), .string (bs (Str.mk [103]))] [.string (bs (Str.mk [109])), .string (bs (Str.mk [102])), .string (bs (Str.mk [103]))]) fun c69 => ?_
     refine Jo 0 ?_; rintro a70 k71 rfl
     refine Oq Vm (Oq Vm ?_)
     refine letv (Tape_Next tT rv4.2 funcs) fun rv72 hg73 => ?_
     have hc74 := fn8 tP ta tk tT rv4.2 funcs pre pre rv72 hg73
     refine Oc [1, 2] ca8 hc74 ?_
     rintro - ⟨he75, he76, he77⟩
     unfold i64ok at he75
     refine Jl [1] (Ent.crOs (α := Str) (A := []) _ ([(Str.mk [109]), (Str.mk [102]), (Str.mk [103])] : List Str) _ (Nat.le_of_ble_eq_true rfl) (fun h => ⟨[.string (bs (Str.mk [109]))], [.string (bs (Str.mk [102])), .string (bs (Str.mk [103]))], rfl, (fun _ => ⟨rfl, by first | omega | (simp; done) | (dsimp only; omega) | exact lit_bl rfl⟩) h, ⟨[.string (bs (Str.mk [102]))], [.string (bs (Str.mk [103]))], rfl, (fun _ => ⟨rfl, by first | omega | (simp; done) | (dsimp only; omega) | exact lit_bl rfl⟩) h, ⟨[.string (bs (Str.mk [103]))], [], rfl, (fun _ => ⟨rfl, by first | omega | (simp; done) | (dsimp only; omega) | exact lit_bl rfl⟩) h, rfl⟩⟩⟩)) ?_
     refine Oq (Vi sl40 0) ?_
     refine Fb 16 0 fun hl78 => ?_
     refine FoS 0 fun ho79 => ?_
     have hb80 := okS (i := rv72.1.toNat) ho79 rng
     refine Oq (VldS sh9 0) (Oa (AsV sl40 sz40 [.string (bs ([(Str.mk [109]), (Str.mk [102]), (Str.mk [103])].getD rv72.1.toNat default))] [.string (bs ([(Str.mk [109]), (Str.mk [102]), (Str.mk [103])].getD rv72.1.toNat default))]) fun c81 => ?_)
     refine Jo 0 ?_; rintro a82 k83 rfl
     refine Oq (Vbd st51 [vi 3, .string (bs (Str.mk [])), .slice none 0 0, .slice a82 1 k83]) (Ost (Scl [3] sh51 [vi 3, .string (bs (Str.mk [])), .slice none 0 0, .slice a82 1 k83]) (KS ?_))
     refine Jl [] (Ent.osNil (α := Str)) ?_
     refine Jl [2] (Ent.cr1 (α := Str) (A := []) _ ([(Str.mk [109]), (Str.mk [102]), (Str.mk [103])].getD rv72.1.toNat default) _ (Nat.le_of_ble_eq_true rfl) (fun _ => ⟨rfl, by first | omega | (simp; done) | (dsimp only; omega) | exact lit_bl rfl⟩)) ?_
     have hq := q4 hrr ((GStmt.mk 3 (Str.mk []) [] [([(Str.mk [109]), (Str.mk [102]), (Str.mk [103])].getD rv72.1.toNat default)]), rv72.2) (by simp only [Tape_stmt, h10, h38, h46, h57, h65, h67, hg5, hg73, cs4]); subst hq
     exact Kr (.slice none 0 0, .slice a82 1 k83) rfl (.cellN 2 rfl sh51 rfl (reads_Cl _ _) rfl .nil) [1, 0, 2] en
   intro h67
   exact absurd h67 (by first | (simp [h65]; done) | (simp only [bne, h65]; decide) | (simp only [bne, h65, Bool.not_true, Bool.not_false]; decide) | (exfalso; omega) | (intro hq; simp only [bne, hq, Bool.not_false, Bool.not_true, reduceCtorEq] at h65))
 intro h65
 have g84 := ne_of_beq_false h65
 refine KS ?_
 refine Oq Veql (Oq Va (KS ?_))
 refine Kc ?_ ?_
 · intro h85
   have g86 := eq_of_beq h85
   refine KS ?_
   refine Oa (AsV sl40 sz40 [.string (bs (Str.mk [109])), .string (bs (Str.mk [102])), .string (bs (Str.mk [103]))] [.string (bs (Str.mk [109])), .string (bs (Str.mk [102])), .string (bs (Str.mk [103]))]) fun c87 => ?_
   refine Jo 0 ?_; rintro a88 k89 rfl
   refine Oq Vm (Oq Vm ?_)
   refine letv (Tape_Next tT rv4.2 funcs) fun rv90 hg91 => ?_
   have hc92 := fn8 tP ta tk tT rv4.2 funcs pre pre rv90 hg91
   refine Oc [1, 2] ca8 hc92 ?_
   rintro - ⟨he93, he94, he95⟩
   unfold i64ok at he93
   refine Jl [1] (Ent.crOs (α := Str) (A := []) _ ([(Str.mk [109]), (Str.mk [102]), (Str.mk [103])] : List Str) _ (Nat.le_of_ble_eq_true rfl) (fun h => ⟨[.string (bs (Str.mk [109]))], [.string (bs (Str.mk [102])), .string (bs (Str.mk [103]))], rfl, (fun _ => ⟨rfl, by first | omega | (simp; done) | (dsimp only; omega) | exact lit_bl rfl⟩) h, ⟨[.string (bs (Str.mk [102]))], [.string (bs (Str.mk [103]))], rfl, (fun _ => ⟨rfl, by first | omega | (simp; done) | (dsimp only; omega) | exact lit_bl rfl⟩) h, ⟨[.string (bs (Str.mk [103]))], [], rfl, (fun _ => ⟨rfl, by first | omega | (simp; done) | (dsimp only; omega) | exact lit_bl rfl⟩) h, rfl⟩⟩⟩)) ?_
   refine Oq (Vi sl40 0) ?_
   refine Fb 16 0 fun hl96 => ?_
   refine FoS 0 fun ho97 => ?_
   have hb98 := okS (i := rv90.1.toNat) ho97 rng
   refine Oq (VldS sh9 0) (Oa (AsV sl40 sz40 [.string (bs ([(Str.mk [109]), (Str.mk [102]), (Str.mk [103])].getD rv90.1.toNat default))] [.string (bs ([(Str.mk [109]), (Str.mk [102]), (Str.mk [103])].getD rv90.1.toNat default))]) fun c99 => ?_)
   refine Jo 0 ?_; rintro a100 k101 rfl
   refine Oq (Vbd st51 [vi 3, .string (bs (Str.mk [])), .slice none 0 0, .slice a100 1 k101]) (Ost (Scl [3] sh51 [vi 3, .string (bs (Str.mk [])), .slice none 0 0, .slice a100 1 k101]) (KS ?_))
   refine Jl [] (Ent.osNil (α := Str)) ?_
   refine Jl [2] (Ent.cr1 (α := Str) (A := []) _ ([(Str.mk [109]), (Str.mk [102]), (Str.mk [103])].getD rv90.1.toNat default) _ (Nat.le_of_ble_eq_true rfl) (fun _ => ⟨rfl, by first | omega | (simp; done) | (dsimp only; omega) | exact lit_bl rfl⟩)) ?_
   have hq := q4 hrr ((GStmt.mk 3 (Str.mk []) [] [([(Str.mk [109]), (Str.mk [102]), (Str.mk [103])].getD rv90.1.toNat default)]), rv90.2) (by simp only [Tape_stmt, h10, h38, h46, h57, h65, h85, hg5, hg91, cs4]); subst hq
   exact Kr (.slice none 0 0, .slice a100 1 k101) rfl (.cellN 2 rfl sh51 rfl (reads_Cl _ _) rfl .nil) [1, 0, 2] en
 intro h85
 have g102 := ne_of_beq_false h85
 refine KS ?_
 refine Oq Vm ?_
 refine letv (Tape_name tT rv4.2) fun rv103 hg104 => ?_
 have hc105 := fn21 tP ta tk tT rv4.2 pre rv103 hg104
 refine Oc [0, 1] ca21 hc105 ?_
 rintro - ⟨he106, he107⟩
 refine Oq Vm ?_
 refine letv (Tape_name tT rv103.2) fun rv108 hg109 => ?_
 have hc110 := fn21 tP ta tk tT rv103.2 pre rv108 hg109
 refine Oc [0, 1] ca21 hc110 ?_
 rintro - ⟨he111, he112⟩
 refine Oq Vm ?_
 refine letv (Tape_name tT rv108.2) fun rv113 hg114 => ?_
 have hc115 := fn21 tP ta tk tT rv108.2 pre rv113 hg114
 refine Oc [0, 1] ca21 hc115 ?_
 rintro - ⟨he116, he117⟩
 refine Oq Vm ?_
 refine letv (Tape_name tT rv113.2) fun rv118 hg119 => ?_
 have hc120 := fn21 tP ta tk tT rv113.2 pre rv118 hg119
 refine Oc [0, 1] ca21 hc120 ?_
 rintro - ⟨he121, he122⟩
 refine Oa (AsV sl40 sz40 [.string (bs rv108.1), .string (bs rv113.1), .string (bs rv118.1)] [.string (bs rv108.1), .string (bs rv113.1), .string (bs rv118.1)]) fun c123 => ?_
 refine Jo 0 ?_; rintro a124 k125 rfl
 refine Oq Vm ?_
 refine letv (Tape_Next tT rv118.2 4) fun rv126 hg127 => ?_
 have hc128 := fn8 tP ta tk tT rv118.2 4 pre pre rv126 hg127
 refine Oc [1, 2] ca8 hc128 ?_
 rintro - ⟨he129, he130, he131⟩
 unfold i64ok at he129
 refine Jl [1] (Ent.crOs (α := Str) (A := []) _ ([rv108.1, rv113.1, rv118.1] : List Str) _ (Nat.le_of_ble_eq_true rfl) (fun h => ⟨[.string (bs rv108.1)], [.string (bs rv113.1), .string (bs rv118.1)], rfl, (fun _ => ⟨rfl, by first | omega | (simp; done) | (dsimp only; omega) | exact lit_bl rfl⟩) h, ⟨[.string (bs rv113.1)], [.string (bs rv118.1)], rfl, (fun _ => ⟨rfl, by first | omega | (simp; done) | (dsimp only; omega) | exact lit_bl rfl⟩) h, ⟨[.string (bs rv118.1)], [], rfl, (fun _ => ⟨rfl, by first | omega | (simp; done) | (dsimp only; omega) | exact lit_bl rfl⟩) h, rfl⟩⟩⟩)) ?_
 refine Oa (AslO [0] sl40 0 (rv126.1.toNat)) fun c132 => ?_
 refine Jo 0 ?_; rintro a133 k134 rfl
 refine Fb 16 0 fun hl135 => ?_
 refine FoS 0 fun ho136 => ?_
 have hn137 : (([rv108.1, rv113.1, rv118.1].take (rv126.1.toNat)).drop 0).length = (rv126.1.toNat) - 0 := len_slice rng rng
 refine Oq (Vbd st51 [vi 1, .string (bs rv103.1), vl a133 k134 (([rv108.1, rv113.1, rv118.1].take (rv126.1.toNat)).drop 0), .slice none 0 0]) (Ost (Scl [2] sh51 [vi 1, .string (bs rv103.1), vl a133 k134 (([rv108.1, rv113.1, rv118.1].take (rv126.1.toNat)).drop 0), .slice none 0 0]) (KS ?_))
 refine Jl [] (Ent.osNil (α := Str)) ?_
 have hq := q4 hrr ((GStmt.mk 1 rv103.1 (([rv108.1, rv113.1, rv118.1].take (rv126.1.toNat)).drop 0) []), rv126.2) (by simp only [Tape_stmt, h10, h38, h46, h57, h65, h85, hg5, hg104, hg109, hg114, hg119, hg127, cs4]); subst hq
 exact Kr (vl a133 k134 (([rv108.1, rv113.1, rv118.1].take (rv126.1.toNat)).drop 0), .slice none 0 0) rfl (.cellN 1 rfl sh51 rfl (reads_Cl _ _) rfl .nil) [2, 0, 1] en
theorem fn20 (i : Int) (hi_0 : i64ok i) (hi2 : (0 ≤ i ∧ i < 3)) (rr : Str) (hrr : flqgen_func2 i = rr) : FT Tryd.prog 20 #[vi i] [] (fun g : Unit => rr.b.length ≤ 140737488355328) (fun g => .string (bs rr)) (fun g => []) := by
 refine FTi Tryd.func20 fun w0 M0 F0 => ?_
 unfold i64ok at hi_0
 refine KS ?_
 refine Oq Va (KS ?_)
 refine Oa (AsV sl40 sz40 [.string (bs (Str.mk [97])), .string (bs (Str.mk [98])), .string (bs (Str.mk [99]))] [.string (bs (Str.mk [97])), .string (bs (Str.mk [98])), .string (bs (Str.mk [99]))]) fun c1 => ?_
 refine Jo 0 ?_; rintro a2 k3 rfl
 refine Oq Vm ?_
 refine Jl [0] (Ent.crOs (α := Str) (A := []) _ ([(Str.mk [97]), (Str.mk [98]), (Str.mk [99])] : List Str) _ (Nat.le_of_ble_eq_true rfl) (fun h => ⟨[.string (bs (Str.mk [97]))], [.string (bs (Str.mk [98])), .string (bs (Str.mk [99]))], rfl, (fun _ => ⟨rfl, by first | omega | (simp; done) | (dsimp only; omega) | exact lit_bl rfl⟩) h, ⟨[.string (bs (Str.mk [98]))], [.string (bs (Str.mk [99]))], rfl, (fun _ => ⟨rfl, by first | omega | (simp; done) | (dsimp only; omega) | exact lit_bl rfl⟩) h, ⟨[.string (bs (Str.mk [99]))], [], rfl, (fun _ => ⟨rfl, by first | omega | (simp; done) | (dsimp only; omega) | exact lit_bl rfl⟩) h, rfl⟩⟩⟩)) ?_
 refine Oq (Vi sl40 0) ?_
 refine Fb 16 0 fun hl4 => ?_
 refine FoS 0 fun ho5 => ?_
 have hb6 := okS (i := i.toNat) ho5 rng
 refine Oq (VldS sh9 0) (Oq Va (KS ?_))
 have hq := q4 hrr ([(Str.mk [97]), (Str.mk [98]), (Str.mk [99])].getD i.toNat default) (by simp only [flqgen_func2, cs4]); subst hq
 exact Kr () rfl (.tmp rfl .nil) [] en
theorem fn7 (tP : Value) (ta : Option Addr) (tk : Nat) (tT : List Int) (tI : Int) (htI : 0 ≤ tI ∧ tI ≤ (tT.length : Int)) (rr : GProgram × Int) (hrr : Tape_Program tT tI = rr) : FT Tryd.prog 7 #[tP] [Cl tP [vl ta tk tT, vi tI], S ta tk tT] (fun g : Value => (0 ≤ rr.2 ∧ rr.2 ≤ (tT.length : Int))) (fun g => .agg #[g]) (fun g => [sl g rr.1.Funcs, Cl tP [vl ta tk tT, vi rr.2]]) := by
 refine FTi Tryd.func7 fun w0 M0 F0 => ?_
 refine Fb 8 1 fun hl1 => ?_
 refine Fo 1 fun ho2 => ?_
 refine KS ?_
 refine Oa (Al ze27 [.slice none 0 0]) fun p3 => KS ?_
 refine Oa (Al ze27 [.slice none 0 0]) fun p4 => KS ?_
 refine Oq Vm ?_
 refine letv (Tape_Next tT tI 3) fun rv5 hg6 => ?_
 have hc7 := fn8 tP ta tk tT tI 3 pre pre rv5 hg6
 refine Oc [2, 2] ca8 hc7 ?_
 rintro - ⟨he8, he9, he10⟩
 unfold i64ok at he8
 refine Oq Vadd (Oq Va (KS ?_))
 refine Oq Va (KS ?_)
 refine Jl [] (Ent.osNil (α := GFunc)) ?_
 refine Kl (γ := Nat × Int × List GFunc × Int × Option Addr × Nat) (fun (r11, ti_12, p0_13, i_14, a15, k16) => ⟨[(0, tP), (2, p3), (3, p4), (4, vi (1 + rv5.1)), (5, vi i_14)], [O a15 k16 p0_13, Cl tP [vl ta tk tT, vi ti_12], Cl p4 [vl a15 k16 p0_13], Cl p3 [.slice none 0 0], S ta tk tT], Tape_Program_L0 tT (1 + rv5.1) r11 ti_12 p0_13 i_14 = Tape_Program_L0 tT (1 + rv5.1) ((((1 + rv5.1) : Int) - 0).toNat) rv5.2 [] 0 ∧ r11 = (((1 + rv5.1) : Int) - i_14).toNat ∧ (0 : Int) ≤ i_14 ∧ (i_14 ≤ (1 + rv5.1) ∨ i_14 = 0) ∧ (-9223372036854775808 ≤ ti_12 ∧ ti_12 ≤ 9223372036854775807) ∧ (0 ≤ ti_12 ∧ ti_12 ≤ (tT.length : Int)) ∧ (-9223372036854775808 ≤ i_14 ∧ i_14 ≤ 9223372036854775807) ∧ ((p0_13.length : Int) = i_14), r11⟩) ((((1 + rv5.1) : Int) - 0).toNat, rv5.2, [], 0, none, 0) [0, 0, 0, 0, 0] ⟨rfl, rfl, (by omega), (.inr rfl), (by omega), (by omega), (by omega), iv0⟩ ?_
 rintro ⟨r11, ti_12, p0_13, i_14, a15, k16⟩ ⟨hM17, hr18, hi19, hi20, hk21, ht22, hk23, hv24⟩
 refine JJ_nx fun _ _ hL hA => ?_; dsimp only at hL hA; subst hL hA
 refine Fb 40 0 fun hl25 => ?_
 refine Fb 8 4 fun hl26 => ?_
 refine Fo 4 fun ho27 => ?_
 refine KS ?_
 refine Oq Vm (Oq Vm (Oq Vlss (KS ?_)))
 refine Kc ?_ ?_
 · intro h28
   have g29 := of_decide_eq_true h28
   obtain ⟨r30, rfl⟩ := scc (n := r11) (by omega)
   refine KS ?_
   refine Oa (AsV sl40 sz40 [.string (bs (Str.mk [109])), .string (bs (Str.mk [102])), .string (bs (Str.mk [103]))] [.string (bs (Str.mk [109])), .string (bs (Str.mk [102])), .string (bs (Str.mk [103]))]) fun c31 => ?_
   refine Jo 0 ?_; rintro a32 k33 rfl
   refine Oq Vm ?_
   refine Jl [0] (Ent.crOs (α := Str) (A := []) _ ([(Str.mk [109]), (Str.mk [102]), (Str.mk [103])] : List Str) _ (Nat.le_of_ble_eq_true rfl) (fun h => ⟨[.string (bs (Str.mk [109]))], [.string (bs (Str.mk [102])), .string (bs (Str.mk [103]))], rfl, (fun _ => ⟨rfl, by first | omega | (simp; done) | (dsimp only; omega) | exact lit_bl rfl⟩) h, ⟨[.string (bs (Str.mk [102]))], [.string (bs (Str.mk [103]))], rfl, (fun _ => ⟨rfl, by first | omega | (simp; done) | (dsimp only; omega) | exact lit_bl rfl⟩) h, ⟨[.string (bs (Str.mk [103]))], [], rfl, (fun _ => ⟨rfl, by first | omega | (simp; done) | (dsimp only; omega) | exact lit_bl rfl⟩) h, rfl⟩⟩⟩)) ?_
   refine Oq (Vi sl40 0) ?_
   refine Fb 16 0 fun hl34 => ?_
   refine FoS 0 fun ho35 => ?_
   have hb36 := okS (i := i_14.toNat) ho35 rng
   refine Oq (VldS sh9 0) (Oq (Vbd st45 [.string (bs ([(Str.mk [109]), (Str.mk [102]), (Str.mk [103])].getD i_14.toNat default)), .slice none 0 0]) (Oa (Al ze45 [.string (bs (Str.mk [])), .slice none 0 0]) fun p37 => Ost (Scl [0] sh45 [.string (bs ([(Str.mk [109]), (Str.mk [102]), (Str.mk [103])].getD i_14.toNat default)), .slice none 0 0]) (KS ?_)))
   refine Oq Vm ?_
   refine letv (Tape_Next tT ti_12 3) fun rv38 hg39 => ?_
   have hc40 := fn8 tP ta tk tT ti_12 3 pre pre rv38 hg39
   refine Oc [3, 5] ca8 hc40 ?_
   rintro - ⟨he41, he42, he43⟩
   unfold i64ok at he41
   refine Oq Vadd (Oq Va (KS ?_))
   refine Oq Va (KS ?_)
   refine Jl [] (Ent.osNil (α := GBlock)) ?_
   refine Kl (γ := Nat × Int × List GBlock × Int × Option Addr × Nat) (fun (r44, ti_45, f1_46, k_47, a48, k49) => ⟨[(0, tP), (2, p3), (3, p4), (4, vi (1 + rv5.1)), (5, vi i_14), (6, p37), (7, vi (1 + rv38.1)), (8, vi k_47)], [O a48 k49 f1_46, Cl tP [vl ta tk tT, vi ti_45], Cl p37 [.string (bs ([(Str.mk [109]), (Str.mk [102]), (Str.mk [103])].getD i_14.toNat default)), vl a48 k49 f1_46], O a15 k16 p0_13, Cl p4 [vl a15 k16 p0_13], Cl p3 [.slice none 0 0], S ta tk tT], Tape_Program_L1 tT (1 + rv5.1) (1 + rv38.1) r44 ti_45 f1_46 k_47 = Tape_Program_L1 tT (1 + rv5.1) (1 + rv38.1) ((((1 + rv38.1) : Int) - 0).toNat) rv38.2 [] 0 ∧ r44 = (((1 + rv38.1) : Int) - k_47).toNat ∧ (0 : Int) ≤ k_47 ∧ (k_47 ≤ (1 + rv38.1) ∨ k_47 = 0) ∧ (-9223372036854775808 ≤ ti_45 ∧ ti_45 ≤ 9223372036854775807) ∧ (0 ≤ ti_45 ∧ ti_45 ≤ (tT.length : Int)) ∧ (-9223372036854775808 ≤ k_47 ∧ k_47 ≤ 9223372036854775807) ∧ ((f1_46.length : Int) = k_47), r44⟩) ((((1 + rv38.1) : Int) - 0).toNat, rv38.2, [], 0, none, 0) [0, 0, 0, 1, 1, 1, 1] ⟨rfl, rfl, (by omega), (.inr rfl), (by omega), (by omega), (by omega), iv0⟩ ?_
   rintro ⟨r44, ti_45, f1_46, k_47, a48, k49⟩ ⟨hM50, hr51, hi52, hi53, hk54, ht55, hk56, hv57⟩
   refine JJ_nx fun _ _ hL hA => ?_; dsimp only at hL hA; subst hL hA
   refine Fb 40 0 fun hl58 => ?_
   refine Fb 40 3 fun hl59 => ?_
   refine Fb 8 6 fun hl60 => ?_
   refine Fo 6 fun ho61 => ?_
   refine KS ?_
   refine Oq Vm (Oq Vm (Oq Vlss (KS ?_)))
   refine Kc ?_ ?_
   · intro h62
     have g63 := of_decide_eq_true h62
     obtain ⟨r64, rfl⟩ := scc (n := r44) (by omega)
     refine KS ?_
     refine Oa (AsV sl40 sz40 [.string (bs (Str.mk [97])), .string (bs (Str.mk [98])), .string (bs (Str.mk [99]))] [.string (bs (Str.mk [97])), .string (bs (Str.mk [98])), .string (bs (Str.mk [99]))]) fun c65 => ?_
     refine Jo 0 ?_; rintro a66 k67 rfl
     refine Oq Vm ?_
     refine Jl [0] (Ent.crOs (α := Str) (A := []) _ ([(Str.mk [97]), (Str.mk [98]), (Str.mk [99])] : List Str) _ (Nat.le_of_ble_eq_true rfl) (fun h => ⟨[.string (bs (Str.mk [97]))], [.string (bs (Str.mk [98])), .string (bs (Str.mk [99]))], rfl, (fun _ => ⟨rfl, by first | omega | (simp; done) | (dsimp only; omega) | exact lit_bl rfl⟩) h, ⟨[.string (bs (Str.mk [98]))], [.string (bs (Str.mk [99]))], rfl, (fun _ => ⟨rfl, by first | omega | (simp; done) | (dsimp only; omega) | exact lit_bl rfl⟩) h, ⟨[.string (bs (Str.mk [99]))], [], rfl, (fun _ => ⟨rfl, by first | omega | (simp; done) | (dsimp only; omega) | exact lit_bl rfl⟩) h, rfl⟩⟩⟩)) ?_
     refine Oq (Vi sl40 0) ?_
     refine Fb 16 0 fun hl68 => ?_
     refine FoS 0 fun ho69 => ?_
     have hb70 := okS (i := k_47.toNat) ho69 rng
     refine Oq (VldS sh9 0) (Oq (Vbd st49 [.string (bs ([(Str.mk [97]), (Str.mk [98]), (Str.mk [99])].getD k_47.toNat default)), .slice none 0 0]) (Oa (Al ze49 [.string (bs (Str.mk [])), .slice none 0 0]) fun p71 => Ost (Scl [0] sh49 [.string (bs ([(Str.mk [97]), (Str.mk [98]), (Str.mk [99])].getD k_47.toNat default)), .slice none 0 0]) (KS ?_)))
     refine Oq Vm ?_
     refine letv (Tape_Next tT ti_45 4) fun rv72 hg73 => ?_
     have hc74 := fn8 tP ta tk tT ti_45 4 pre pre rv72 hg73
     refine Oc [3, 7] ca8 hc74 ?_
     rintro - ⟨he75, he76, he77⟩
     unfold i64ok at he75
     refine Oq Va (KS ?_)
     refine Jl [] (Ent.osNil (α := GStmt)) ?_
     refine Kl (γ := Nat × Int × List GStmt × Int × Option Addr × Nat) (fun (r78, ti_79, b1_80, n_81, a82, k83) => ⟨[(0, tP), (2, p3), (3, p4), (4, vi (1 + rv5.1)), (5, vi i_14), (6, p37), (7, vi (1 + rv38.1)), (8, vi k_47), (9, p71), (10, vi n_81)], [O a82 k83 b1_80, Cl tP [vl ta tk tT, vi ti_79], Cl p71 [.string (bs ([(Str.mk [97]), (Str.mk [98]), (Str.mk [99])].getD k_47.toNat default)), vl a82 k83 b1_80], O a48 k49 f1_46, Cl p37 [.string (bs ([(Str.mk [109]), (Str.mk [102]), (Str.mk [103])].getD i_14.toNat default)), vl a48 k49 f1_46], O a15 k16 p0_13, Cl p4 [vl a15 k16 p0_13], Cl p3 [.slice none 0 0], S ta tk tT], Tape_Program_L2 tT (1 + rv5.1) r78 ti_79 b1_80 n_81 = Tape_Program_L2 tT (1 + rv5.1) (rv72.1.toNat) rv72.2 [] rv72.1 ∧ r78 = n_81.toNat ∧ n_81 ≤ (rv72.1 : Int) ∧ (-9223372036854775808 ≤ ti_79 ∧ ti_79 ≤ 9223372036854775807) ∧ (0 ≤ ti_79 ∧ ti_79 ≤ (tT.length : Int)) ∧ (-9223372036854775808 ≤ n_81 ∧ n_81 ≤ 9223372036854775807) ∧ ((b1_80.length : Int) + n_81 ≤ 3 ∧ 0 ≤ n_81), r78⟩) (rv72.1.toNat, rv72.2, [], rv72.1, none, 0) [0, 0, 0, 1, 1, 1, 1, 1, 1] ⟨rfl, rfl, (by omega), (by omega), (by omega), (by omega), iv0⟩ ?_
     rintro ⟨r78, ti_79, b1_80, n_81, a82, k83⟩ ⟨hM84, hr85, hi86, hk87, ht88, hk89, hv90⟩
     refine JJ_nx fun _ _ hL hA => ?_; dsimp only at hL hA; subst hL hA
     refine Fb 72 0 fun hl91 => ?_
     refine Fb 40 3 fun hl92 => ?_
     refine Fb 40 5 fun hl93 => ?_
     refine Fb 8 8 fun hl94 => ?_
     refine Fo 8 fun ho95 => ?_
     refine KS ?_
     refine Oq Vm (Oq Vgtr (KS ?_))
     refine Kc ?_ ?_
     · intro h96
       have g97 := of_decide_eq_true h96
       obtain ⟨r98, rfl⟩ := scc (n := r78) (by omega)
       refine KS ?_
       refine Jp 2 fun hp99 => ?_
       refine JK_drawK [0, 1, 0, 0, 12, 28, 63, 127, 255] fmix ?_
       refine Dv [0] (Vfa fo49_1 0) (Dv [3] (VldF sh47 0) (Dv [] Vm (Dv [] Vm ?_)))
       refine letv (Tape_stmt tT ti_79 (1 + rv5.1)) fun rv102 hg103 => ?_
       refine Dx [2, 9] [2] [4, 0, 1, 1, 1] (fun G => .agg #[vi rv102.1.Op, .string (bs rv102.1.Def), (G.g 4 0), (G.g 4 1)]) [fun G => SP.fact (i64ok rv102.1.Op ∧ rv102.1.Def.b.length ≤ 140737488355328 ∧ (0 ≤ rv102.2 ∧ rv102.2 ≤ (tT.length : Int))), fun G => os (G.g 4 0) rv102.1.Uses, fun G => os (G.g 4 1) rv102.1.Targets, fun G => Cl tP [vl ta tk tT, vi rv102.2]] (fun G => xC [0, 0] ca19 (fn19 tP ta tk tT ti_79 ((1 + rv5.1)) pre pre pre rv102 hg103)) (Dx [] [] [0] (fun G => (G.g 5 0)) [fun G => Cr (G.g 5 0) 1 [vi rv102.1.Op, .string (bs rv102.1.Def), (G.g 4 0), (G.g 4 1)]] (fun G => xA (AsV sl47 sz47 [.agg #[vi rv102.1.Op, .string (bs rv102.1.Def), (G.g 4 0), (G.g 4 1)]] [vi rv102.1.Op, .string (bs rv102.1.Def), (G.g 4 0), (G.g 4 1)])) ?_)
       have hn106 := la b1_80 ([rv102.1] : List GStmt)
       refine Dx [1, 10, 11, 12, 14] [1, 11, 12, 14] [5, 1, 2, 0] (fun G => (G.g 6 0)) [fun G => sl (G.g 4 0) rv102.1.Uses, fun G => sl (G.g 4 1) rv102.1.Targets, fun G => os (G.g 6 0) ((b1_80 ++ [rv102.1]) : List GStmt)] (fun G => by refine xf 1 rfl ?_; rintro ⟨he107, he108, he109⟩; unfold i64ok at he107; exact xp [2] rfl (Ent.freeze _ _) (xp [3] rfl (Ent.freeze _ _) (xp [4, 1, 0] rfl (Ent.cr1 (α := GStmt) (A := [sl (G.g 4 0) rv102.1.Uses, sl (G.g 4 1) rv102.1.Targets]) _ rv102.1 _ (Nat.le_of_ble_eq_true rfl) (fun h => ⟨_, _, rfl, (by unfold i64ok; first | omega | (dsimp only; omega)), (by first | omega | (simp; done) | (dsimp only; omega) | exact lit_bl rfl), sepAll_get (i := 0) rfl h, sepAll_get (i := 1) rfl h⟩)) (xA (ApO [5, 0] sl47 sl47 sz47))))) (Dv [0] (Vfa fo49_1 0) (Dx0 [3, 17] [3] [1, 0] [fun G => Cl p71 [.string (bs ([(Str.mk [97]), (Str.mk [98]), (Str.mk [99])].getD k_47.toNat default)), (G.g 6 0)]] (fun G => x1 1 rfl os_one fun ho110 => (xS (OpS.frame [0] rfl (OpS.storeClF [(G.g 6 0)] [.string (bs ([(Str.mk [97]), (Str.mk [98]), (Str.mk [99])].getD k_47.toNat default)), (G.g 6 0)] rfl rfl rfl sh47 (cells_of_one ho110) rfl (by simp only [List.all_cons, List.all_nil, ho110, Bool.and_true, Bool.true_and] <;> rfl) (Nat.le_of_ble_eq_true rfl) rfl)))) ?_))
       refine Dn ⟨by kernel_rfl, fun G => ?_⟩
       refine Jw2 [(0, tP), (2, p3), (3, p4), (4, vi (1 + rv5.1)), (5, vi i_14), (6, p37), (7, vi (1 + rv38.1)), (8, vi k_47), (9, p71), (10, vi n_81)] [0, 4, 5, 6, 7, 8, 9] [SP.fact (i64ok rv102.1.Op ∧ rv102.1.Def.b.length ≤ 140737488355328 ∧ (0 ≤ rv102.2 ∧ rv102.2 ≤ (tT.length : Int))), Cl tP [vl ta tk tT, vi rv102.2], sl (G.g 4 0) rv102.1.Uses, sl (G.g 4 1) rv102.1.Targets, os (G.g 6 0) ((b1_80 ++ [rv102.1]) : List GStmt), Cl p71 [.string (bs ([(Str.mk [97]), (Str.mk [98]), (Str.mk [99])].getD k_47.toNat default)), (G.g 6 0)]] ?_
       generalize G.g 4 0 = c100, G.g 4 1 = c101, G.g 6 0 = c105
       refine Jf 7 rfl ?_; rintro ⟨he111, he112, he113⟩
       unfold i64ok at he111
       refine Jk [1, 1, 1, 1, 1, 1, 3, 3, 4, 5, 5] ?_
       refine Jo 7 ?_; rintro a114 k115 rfl
       refine Fb 16 7 fun hl116 => ?_
       refine FoS 7 fun ho117 => ?_
       refine Jo 8 ?_; rintro a118 k119 rfl
       refine Fb 16 8 fun hl120 => ?_
       refine FoS 8 fun ho121 => ?_
       refine Jo 9 ?_; rintro a122 k123 rfl
       refine Fb 72 9 fun hl124 => ?_
       refine KS ?_
       refine Oq Vm (Oq Vsub (Oq Va (KS ?_)))
       exact Kg (r98, rv102.2, (b1_80 ++ [rv102.1]), (n_81 - 1), a122, k123) [9, 6, 8, 0, 0, 0, 0, 0, 0] ⟨(q3 hM84 (by simp only [Tape_Program_L2, h28, h62, h96, hg6, hg39, hg73, hg103, cs4])), (by omega), (by omega), (by omega), (by omega), (by omega), iv1⟩
     intro h96
     have g125 := of_decide_eq_false h96
     obtain rfl : r78 = 0 := by omega
     refine Ke ?_
     have hR126 := q2 hM84 (ti_79, b1_80) (by simp only [Tape_Program_L2, h28, h62, h96, hg6, hg39, hg73, cs4])
     refine KS ?_
     refine Oq Vm (Oq Vm ?_)
     refine letv (Tape_Next tT ti_79 (1 + rv38.1)) fun rv127 hg128 => ?_
     have hc129 := fn8 tP ta tk tT ti_79 ((1 + rv38.1)) pre pre rv127 hg128
     refine Oc [1, 7] ca8 hc129 ?_
     rintro - ⟨he130, he131, he132⟩
     unfold i64ok at he130
     refine letv (flqgen_func2 rv127.1) fun rv133 hg134 => ?_
     have hc135 := fn20 rv127.1 pre pre rv133 hg134
     refine Oc [] ca20 hc135 ?_
     rintro - he136
     refine Oq Va (KS ?_)
     refine Oq Vm ?_
     refine letv (Tape_Next tT rv127.2 4) fun rv137 hg138 => ?_
     have hc139 := fn8 tP ta tk tT rv127.2 4 pre pre rv137 hg138
     refine Oc [0, 7] ca8 hc139 ?_
     rintro - ⟨he140, he141, he142⟩
     unfold i64ok at he140
     refine KS ?_
     refine Oq Veql (Oq Va (KS ?_))
     refine Kc ?_ ?_
     · intro h143
       have g144 := eq_of_beq h143
       refine KS ?_
       refine Oq (Vfa fo49_1 2) (Oq (VldF sh47 2) (Oq (Vbd st51 [vi 9, .string (bs (Str.mk [])), .slice none 0 0, .slice none 0 0]) (Oa (AsV sl47 sz47 [.agg #[vi 9, .string (bs (Str.mk [])), .slice none 0 0, .slice none 0 0]] [vi 9, .string (bs (Str.mk [])), .slice none 0 0, .slice none 0 0]) fun c145 => ?_)))
       refine Jo 0 ?_; rintro a146 k147 rfl
       refine Jl [0] (Ent.cr1 (α := GStmt) (A := []) _ (GStmt.mk 9 (Str.mk []) [] []) _ (Nat.le_of_ble_eq_true rfl) (fun h => ⟨_, _, rfl, (by unfold i64ok; first | omega | (dsimp only; omega)), (by first | omega | (simp; done) | (dsimp only; omega) | exact lit_bl rfl), slrd_nil, slrd_nil⟩)) ?_
       refine Oa (ApO [2, 0] sl47 sl47 sz47) fun c148 => ?_
       refine Jo 0 ?_; rintro a149 k150 rfl
       refine Fb 72 0 fun hl151 => ?_
       have hn152 := la b1_80 ([(GStmt.mk 9 (Str.mk []) [] [])] : List GStmt)
       refine Oq (Vfa fo49_1 2) (Ost (SclF [2] sh47 [.string (bs ([(Str.mk [97]), (Str.mk [98]), (Str.mk [99])].getD k_47.toNat default)), vl a149 k150 (b1_80 ++ [(GStmt.mk 9 (Str.mk []) [] [])])]) (KS ?_))
       refine Oq (Vfa fo45_1 4) (Oq (VldF sh43 4) (Oq (VldA sh49 0) (Oa (AsV sl43 sz43 [.agg #[.string (bs ([(Str.mk [97]), (Str.mk [98]), (Str.mk [99])].getD k_47.toNat default)), vl a149 k150 (b1_80 ++ [(GStmt.mk 9 (Str.mk []) [] [])])]] [.string (bs ([(Str.mk [97]), (Str.mk [98]), (Str.mk [99])].getD k_47.toNat default)), vl a149 k150 (b1_80 ++ [(GStmt.mk 9 (Str.mk []) [] [])])]) fun c153 => ?_)))
       refine Jo 0 ?_; rintro a154 k155 rfl
       refine Jl [2] (Ent.freeze _ _) ?_
       refine Jl [1, 0] (Ent.cr1 (α := GBlock) (A := [S a149 k150 ((b1_80 ++ [(GStmt.mk 9 (Str.mk []) [] [])]) : List GStmt)]) _ (GBlock.mk ([(Str.mk [97]), (Str.mk [98]), (Str.mk [99])].getD k_47.toNat default) (b1_80 ++ [(GStmt.mk 9 (Str.mk []) [] [])])) _ (Nat.le_of_ble_eq_true rfl) (fun h => ⟨_, rfl, (by first | omega | (simp; done) | (dsimp only; omega) | exact lit_bl rfl), sepAll_get (i := 0) rfl h⟩)) ?_
       refine Oa (ApO [5, 0] sl43 sl43 sz43) fun c156 => ?_
       refine Jo 0 ?_; rintro a157 k158 rfl
       refine Fb 40 0 fun hl159 => ?_
       have hn160 := la f1_46 ([(GBlock.mk ([(Str.mk [97]), (Str.mk [98]), (Str.mk [99])].getD k_47.toNat default) (b1_80 ++ [(GStmt.mk 9 (Str.mk []) [] [])]))] : List GBlock)
       refine Oq (Vfa fo45_1 5) (Ost (SclF [5] sh43 [.string (bs ([(Str.mk [109]), (Str.mk [102]), (Str.mk [103])].getD i_14.toNat default)), .slice a157 ((f1_46 ++ [(GBlock.mk ([(Str.mk [97]), (Str.mk [98]), (Str.mk [99])].getD k_47.toNat default) (b1_80 ++ [(GStmt.mk 9 (Str.mk []) [] [])]))]).length) k158]) (KS ?_))
       refine Oq Vm (Oq Vadd (Oq Va (KS ?_)))
       exact Kg (r64, rv137.2, (f1_46 ++ [(GBlock.mk ([(Str.mk [97]), (Str.mk [98]), (Str.mk [99])].getD k_47.toNat default) (b1_80 ++ [(GStmt.mk 9 (Str.mk []) [] [])]))]), (k_47 + 1), a157, k158) [1, 4, 0, 3, 3, 3, 3] ⟨(q3 hM50 (by simp only [Tape_Program_L1, h28, h62, h96, h143, hg6, hg39, hg73, hR126, hg128, hg134, hg138, cs4])), (by omega), (by omega), (by omega), (by omega), (by omega), (by omega), iv1⟩
     intro h143
     have g161 := ne_of_beq_false h143
     refine KS ?_
     refine Oq Veql (Oq Va (KS ?_))
     refine Kc ?_ ?_
     · intro h162
       have g163 := eq_of_beq h162
       refine KS ?_
       refine Oq (Vfa fo49_1 2) (Oq (VldF sh47 2) (Oq Vm (Oa (AsV sl40 sz40 [.string (bs rv133)] [.string (bs rv133)]) fun c164 => ?_)))
       refine Jo 0 ?_; rintro a165 k166 rfl
       refine Oq (Vbd st51 [vi 7, .string (bs (Str.mk [])), .slice none 0 0, .slice a165 1 k166]) (Oa (AsV sl47 sz47 [.agg #[vi 7, .string (bs (Str.mk [])), .slice none 0 0, .slice a165 1 k166]] [vi 7, .string (bs (Str.mk [])), .slice none 0 0, .slice a165 1 k166]) fun c167 => ?_)
       refine Jo 0 ?_; rintro a168 k169 rfl
       refine Jl [1] (Ent.cr1 (α := Str) (A := []) _ rv133 _ (Nat.le_of_ble_eq_true rfl) (fun _ => ⟨rfl, by first | omega | (simp; done) | (dsimp only; omega) | exact lit_bl rfl⟩)) ?_
       refine Jl [0] (Ent.freeze _ _) ?_
       refine Jl [1, 0] (Ent.cr1 (α := GStmt) (A := [sl (.slice a165 1 k166) ([rv133] : List Str)]) _ (GStmt.mk 7 (Str.mk []) [] [rv133]) _ (Nat.le_of_ble_eq_true rfl) (fun h => ⟨_, _, rfl, (by unfold i64ok; first | omega | (dsimp only; omega)), (by first | omega | (simp; done) | (dsimp only; omega) | exact lit_bl rfl), slrd_nil, sepAll_get (i := 0) rfl h⟩)) ?_
       refine Oa (ApO [4, 0] sl47 sl47 sz47) fun c170 => ?_
       refine Jo 0 ?_; rintro a171 k172 rfl
       refine Fb 72 0 fun hl173 => ?_
       have hn174 := la b1_80 ([(GStmt.mk 7 (Str.mk []) [] [rv133])] : List GStmt)
       refine Oq (Vfa fo49_1 4) (Ost (SclF [4] sh47 [.string (bs ([(Str.mk [97]), (Str.mk [98]), (Str.mk [99])].getD k_47.toNat default)), vl a171 k172 (b1_80 ++ [(GStmt.mk 7 (Str.mk []) [] [rv133])])]) (KS ?_))
       refine Oq (Vfa fo45_1 6) (Oq (VldF sh43 6) (Oq (VldA sh49 0) (Oa (AsV sl43 sz43 [.agg #[.string (bs ([(Str.mk [97]), (Str.mk [98]), (Str.mk [99])].getD k_47.toNat default)), vl a171 k172 (b1_80 ++ [(GStmt.mk 7 (Str.mk []) [] [rv133])])]] [.string (bs ([(Str.mk [97]), (Str.mk [98]), (Str.mk [99])].getD k_47.toNat default)), vl a171 k172 (b1_80 ++ [(GStmt.mk 7 (Str.mk []) [] [rv133])])]) fun c175 => ?_)))
       refine Jo 0 ?_; rintro a176 k177 rfl
       refine Jl [2] (Ent.freeze _ _) ?_
       refine Jl [1, 0] (Ent.cr1 (α := GBlock) (A := [S a171 k172 ((b1_80 ++ [(GStmt.mk 7 (Str.mk []) [] [rv133])]) : List GStmt)]) _ (GBlock.mk ([(Str.mk [97]), (Str.mk [98]), (Str.mk [99])].getD k_47.toNat default) (b1_80 ++ [(GStmt.mk 7 (Str.mk []) [] [rv133])])) _ (Nat.le_of_ble_eq_true rfl) (fun h => ⟨_, rfl, (by first | omega | (simp; done) | (dsimp only; omega) | exact lit_bl rfl), sepAll_get (i := 0) rfl h⟩)) ?_
       refine Oa (ApO [7, 0] sl43 sl43 sz43) fun c178 => ?_
       refine Jo 0 ?_; rintro a179 k180 rfl
       refine Fb 40 0 fun hl181 => ?_
       have hn182 := la f1_46 ([(GBlock.mk ([(Str.mk [97]), (Str.mk [98]), (Str.mk [99])].getD k_47.toNat default) (b1_80 ++ [(GStmt.mk 7 (Str.mk []) [] [rv133])]))] : List GBlock)
       refine Oq (Vfa fo45_1 7) (Ost (SclF [7] sh43 [.string (bs ([(Str.mk [109]), (Str.mk [102]), (Str.mk [103])].getD i_14.toNat default)), .slice a179 ((f1_46 ++ [(GBlock.mk ([(Str.mk [97]), (Str.mk [98]), (Str.mk [99])].getD k_47.toNat default) (b1_80 ++ [(GStmt.mk 7 (Str.mk []) [] [rv133])]))]).length) k180]) (KS ?_))
       refine Oq Vm (Oq Vadd (Oq Va (KS ?_)))
       exact Kg (r64, rv137.2, (f1_46 ++ [(GBlock.mk ([(Str.mk [97]), (Str.mk [98]), (Str.mk [99])].getD k_47.toNat default) (b1_80 ++ [(GStmt.mk 7 (Str.mk []) [] [rv133])]))]), (k_47 + 1), a179, k180) [1, 6, 0, 5, 5, 5, 5] ⟨(q3 hM50 (by simp only [Tape_Program_L1, h28, h62, h96, h143, h162, hg6, hg39, hg73, hR126, hg128, hg134, hg138, cs4])), (by omega), (by omega), (by omega), (by omega), (by omega), (by omega), iv1⟩
     intro h162
     have g183 := ne_of_beq_false h162
     refine Jp 2 fun hp184 => ?_
     refine JK_drawK [0, 1, 0, 4, 12, 0, 0, 0, 204, 460, 1004, 2044, 4092, 8191, 16383, 32767] fmix ?_
     refine Dv [0] (Vfa fo49_1 0) (Dv [3] (VldF sh47 0) (Dv [] Vm ?_))
     refine letv (Tape_name tT rv137.2) fun rv185 hg186 => ?_
     refine Dx [1, 9] [1] [2, 0, 1] (fun G => .string (bs rv185.1)) [fun G => SP.fact (rv185.1.b.length ≤ 140737488355328 ∧ (0 ≤ rv185.2 ∧ rv185.2 ≤ (tT.length : Int))), fun G => Cl tP [vl ta tk tT, vi rv185.2]] (fun G => xC [0, 0] ca21 (fn21 tP ta tk tT rv137.2 pre rv185 hg186)) (Dx [] [] [0] (fun G => (G.g 4 0)) [fun G => Cr (G.g 4 0) 1 [.string (bs rv185.1)]] (fun G => xA (AsV sl40 sz40 [.string (bs rv185.1)] [.string (bs rv185.1)])) (Dv [] Vm (Dv [] Vm (Dv [] Vm ?_))))
     refine letv (Tape_Next tT rv185.2 (1 + rv38.1)) fun rv188 hg189 => ?_
     refine Dx [9, 10, 11] [11] [2, 3, 0, 1] (fun G => vi rv188.1) [fun G => SP.fact (i64ok rv188.1 ∧ (0 ≤ rv188.2 ∧ rv188.2 ≤ (tT.length : Int)) ∧ (0 ≤ rv188.1 ∧ (rv188.1 < (1 + rv38.1) ∨ rv188.1 = 0))), fun G => Cl tP [vl ta tk tT, vi rv188.2]] (fun G => by refine xf 1 rfl ?_; rintro ⟨he190, he191⟩; exact xC [2, 0] ca8 (fn8 tP ta tk tT rv185.2 ((1 + rv38.1)) pre pre rv188 hg189)) ?_
     refine letv (flqgen_func2 rv188.1) fun rv192 hg193 => ?_
     refine Dx [10, 13] [] [1, 2, 0] (fun G => .string (bs rv192)) [fun G => SP.fact (rv192.b.length ≤ 140737488355328)] (fun G => by refine xf 0 rfl ?_; rintro ⟨he194, he195⟩; refine xf 1 rfl ?_; rintro ⟨he196, he197, he198⟩; unfold i64ok at he196; exact xC [] ca20 (fn20 rv188.1 pre pre rv192 hg193)) (Dx [] [] [0] (fun G => (G.g 10 0)) [fun G => Cr (G.g 10 0) 2 [.string (bs rv133), .string (bs rv192)]] (fun G => xA (AsV sl40 sz40 [.string (bs rv133), .string (bs rv192)] [.string (bs rv133), .string (bs rv192)])) ?_)
     refine Dx [12, 16] [] [0, 0] (fun G => .agg #[vi 8, .string (bs (Str.mk [])), (G.g 4 0), (G.g 10 0)]) [] (fun G => xV (v := .agg #[vi 8, .string (bs (Str.mk [])), (G.g 4 0), (G.g 10 0)]) (Vo 0 rfl (isO_Cr _ _ _) fun aq200 kq201 eq202 => (by rw [eq202]; exact Vo 1 rfl (isO_Cr _ _ _) fun aq203 kq204 eq205 => (by rw [eq205]; exact Vbd st51 [vi 8, .string (bs (Str.mk [])), .slice aq200 1 kq201, .slice aq203 2 kq204])))) (Dx [] [] [0] (fun G => (G.g 12 0)) [fun G => Cr (G.g 12 0) 1 [vi 8, .string (bs (Str.mk [])), (G.g 4 0), (G.g 10 0)]] (fun G => xA (AsV sl47 sz47 [.agg #[vi 8, .string (bs (Str.mk [])), (G.g 4 0), (G.g 10 0)]] [vi 8, .string (bs (Str.mk [])), (G.g 4 0), (G.g 10 0)])) ?_)
     have hn208 := la b1_80 ([(GStmt.mk 8 (Str.mk []) [rv185.1] [rv133, rv192])] : List GStmt)
     refine Dx [2, 10, 12, 13, 15, 16, 17] [2, 12, 16, 17] [5, 6, 7, 1, 2, 0] (fun G => (G.g 13 0)) [fun G => sl (G.g 4 0) ([rv185.1] : List Str), fun G => sl (G.g 10 0) ([rv133, rv192] : List Str), fun G => os (G.g 13 0) ((b1_80 ++ [(GStmt.mk 8 (Str.mk []) [rv185.1] [rv133, rv192])]) : List GStmt)] (fun G => by refine xf 1 rfl ?_; rintro ⟨he209, he210⟩; refine xf 3 rfl ?_; rintro ⟨he211, he212, he213⟩; unfold i64ok at he211; refine xf 4 rfl ?_; rintro he214; exact xp [2] rfl (Ent.cr1 (α := Str) (A := []) _ rv185.1 _ (Nat.le_of_ble_eq_true rfl) (fun _ => ⟨rfl, by first | omega | (simp; done) | (dsimp only; omega) | exact lit_bl rfl⟩)) (xp [0] rfl (Ent.freeze _ _) (xp [5] rfl (Ent.crOs (α := Str) (A := []) _ ([rv133, rv192] : List Str) _ (Nat.le_of_ble_eq_true rfl) (fun h => ⟨[.string (bs rv133)], [.string (bs rv192)], rfl, (fun _ => ⟨rfl, by first | omega | (simp; done) | (dsimp only; omega) | exact lit_bl rfl⟩) h, ⟨[.string (bs rv192)], [], rfl, (fun _ => ⟨rfl, by first | omega | (simp; done) | (dsimp only; omega) | exact lit_bl rfl⟩) h, rfl⟩⟩)) (xp [0] rfl (Ent.freeze _ _) (xp [6, 1, 0] rfl (Ent.cr1 (α := GStmt) (A := [sl (G.g 4 0) ([rv185.1] : List Str), sl (G.g 10 0) ([rv133, rv192] : List Str)]) _ (GStmt.mk 8 (Str.mk []) [rv185.1] [rv133, rv192]) _ (Nat.le_of_ble_eq_true rfl) (fun h => ⟨_, _, rfl, (by unfold i64ok; first | omega | (dsimp only; omega)), (by first | omega | (simp; done) | (dsimp only; omega) | exact lit_bl rfl), sepAll_get (i := 0) rfl h, sepAll_get (i := 1) rfl h⟩)) (xA (ApO [5, 0] sl47 sl47 sz47))))))) (Dv [0] (Vfa fo49_1 0) (Dx0 [3, 20] [3] [1, 0] [fun G => Cl p71 [.string (bs ([(Str.mk [97]), (Str.mk [98]), (Str.mk [99])].getD k_47.toNat default)), (G.g 13 0)]] (fun G => x1 1 rfl os_one fun ho215 => (xS (OpS.frame [0] rfl (OpS.storeClF [(G.g 13 0)] [.string (bs ([(Str.mk [97]), (Str.mk [98]), (Str.mk [99])].getD k_47.toNat default)), (G.g 13 0)] rfl rfl rfl sh47 (cells_of_one ho215) rfl (by simp only [List.all_cons, List.all_nil, ho215, Bool.and_true, Bool.true_and] <;> rfl) (Nat.le_of_ble_eq_true rfl) rfl)))) ?_))
     refine Dn ⟨by kernel_rfl, fun G => ?_⟩
     refine Jw2 [(0, tP), (2, p3), (3, p4), (4, vi (1 + rv5.1)), (5, vi i_14), (6, p37), (7, vi (1 + rv38.1)), (8, vi k_47), (9, p71)] [0, 4, 5, 6, 7, 8, 9] [SP.fact (rv185.1.b.length ≤ 140737488355328 ∧ (0 ≤ rv185.2 ∧ rv185.2 ≤ (tT.length : Int))), SP.fact (i64ok rv188.1 ∧ (0 ≤ rv188.2 ∧ rv188.2 ≤ (tT.length : Int)) ∧ (0 ≤ rv188.1 ∧ (rv188.1 < (1 + rv38.1) ∨ rv188.1 = 0))), Cl tP [vl ta tk tT, vi rv188.2], SP.fact (rv192.b.length ≤ 140737488355328), sl (G.g 4 0) ([rv185.1] : List Str), sl (G.g 10 0) ([rv133, rv192] : List Str), os (G.g 13 0) ((b1_80 ++ [(GStmt.mk 8 (Str.mk []) [rv185.1] [rv133, rv192])]) : List GStmt), Cl p71 [.string (bs ([(Str.mk [97]), (Str.mk [98]), (Str.mk [99])].getD k_47.toNat default)), (G.g 13 0)]] ?_
     generalize G.g 4 0 = c187, G.g 10 0 = c199, G.g 13 0 = c207
     refine Jf 7 rfl ?_; rintro ⟨he216, he217⟩
     refine Jf 8 rfl ?_; rintro ⟨he218, he219, he220⟩
     unfold i64ok at he218
     refine Jf 10 rfl ?_; rintro he221
     refine Jk [1, 1, 1, 1, 1, 1, 4, 5, 6, 7, 7] ?_
     refine Jo 7 ?_; rintro a222 k223 rfl
     refine Fb 16 7 fun hl224 => ?_
     refine FoS 7 fun ho225 => ?_
     refine Jo 8 ?_; rintro a226 k227 rfl
     refine Fb 16 8 fun hl228 => ?_
     refine FoS 8 fun ho229 => ?_
     refine Jo 9 ?_; rintro a230 k231 rfl
     refine Fb 72 9 fun hl232 => ?_
     refine KS ?_
     refine Oq (Vfa fo45_1 1) (Oq (VldF sh43 1) (Oq (VldA sh49 10) (Oa (AsV sl43 sz43 [.agg #[.string (bs ([(Str.mk [97]), (Str.mk [98]), (Str.mk [99])].getD k_47.toNat default)), vl a230 k231 (b1_80 ++ [(GStmt.mk 8 (Str.mk []) [rv185.1] [rv133, rv192])])]] [.string (bs ([(Str.mk [97]), (Str.mk [98]), (Str.mk [99])].getD k_47.toNat default)), vl a230 k231 (b1_80 ++ [(GStmt.mk 8 (Str.mk []) [rv185.1] [rv133, rv192])])]) fun c233 => ?_)))
     refine Jo 0 ?_; rintro a234 k235 rfl
     refine Jl [10] (Ent.freeze _ _) ?_
     refine Jl [1, 0] (Ent.cr1 (α := GBlock) (A := [S a230 k231 ((b1_80 ++ [(GStmt.mk 8 (Str.mk []) [rv185.1] [rv133, rv192])]) : List GStmt)]) _ (GBlock.mk ([(Str.mk [97]), (Str.mk [98]), (Str.mk [99])].getD k_47.toNat default) (b1_80 ++ [(GStmt.mk 8 (Str.mk []) [rv185.1] [rv133, rv192])])) _ (Nat.le_of_ble_eq_true rfl) (fun h => ⟨_, rfl, (by first | omega | (simp; done) | (dsimp only; omega) | exact lit_bl rfl), sepAll_get (i := 0) rfl h⟩)) ?_
     refine Oa (ApO [3, 0] sl43 sl43 sz43) fun c236 => ?_
     refine Jo 0 ?_; rintro a237 k238 rfl
     refine Fb 40 0 fun hl239 => ?_
     have hn240 := la f1_46 ([(GBlock.mk ([(Str.mk [97]), (Str.mk [98]), (Str.mk [99])].getD k_47.toNat default) (b1_80 ++ [(GStmt.mk 8 (Str.mk []) [rv185.1] [rv133, rv192])]))] : List GBlock)
     refine Oq (Vfa fo45_1 3) (Ost (SclF [3] sh43 [.string (bs ([(Str.mk [109]), (Str.mk [102]), (Str.mk [103])].getD i_14.toNat default)), .slice a237 ((f1_46 ++ [(GBlock.mk ([(Str.mk [97]), (Str.mk [98]), (Str.mk [99])].getD k_47.toNat default) (b1_80 ++ [(GStmt.mk 8 (Str.mk []) [rv185.1] [rv133, rv192])]))]).length) k238]) (KS ?_))
     refine Oq Vm (Oq Vadd (Oq Va (KS ?_)))
     exact Kg (r64, rv188.2, (f1_46 ++ [(GBlock.mk ([(Str.mk [97]), (Str.mk [98]), (Str.mk [99])].getD k_47.toNat default) (b1_80 ++ [(GStmt.mk 8 (Str.mk []) [rv185.1] [rv133, rv192])]))]), (k_47 + 1), a237, k238) [1, 7, 0, 2, 2, 2, 2] ⟨(q3 hM50 (by simp only [Tape_Program_L1, h28, h62, h96, h143, h162, hg6, hg39, hg73, hR126, hg128, hg134, hg138, hg186, hg189, hg193, cs4])), (by omega), (by omega), (by omega), (by omega), (by omega), (by omega), iv1⟩
   intro h62
   have g241 := of_decide_eq_false h62
   obtain rfl : r44 = 0 := by omega
   refine Ke ?_
   have hR242 := q2 hM50 (ti_45, f1_46) (by simp only [Tape_Program_L1, h28, h62, hg6, hg39, cs4])
   refine KS ?_
   refine Oq (Vfa fo27_0 4) (Oq (VldF sh25 4) (Oq (VldA sh45 2) (Oa (AsV sl25 sz25 [.agg #[.string (bs ([(Str.mk [109]), (Str.mk [102]), (Str.mk [103])].getD i_14.toNat default)), vl a48 k49 f1_46]] [.string (bs ([(Str.mk [109]), (Str.mk [102]), (Str.mk [103])].getD i_14.toNat default)), vl a48 k49 f1_46]) fun c243 => ?_)))
   refine Jo 0 ?_; rintro a244 k245 rfl
   refine Jl [1] (Ent.freeze _ _) ?_
   refine Jl [1, 0] (Ent.cr1 (α := GFunc) (A := [S a48 k49 f1_46]) _ (GFunc.mk ([(Str.mk [109]), (Str.mk [102]), (Str.mk [103])].getD i_14.toNat default) f1_46) _ (Nat.le_of_ble_eq_true rfl) (fun h => ⟨_, rfl, (by first | omega | (simp; done) | (dsimp only; omega) | exact lit_bl rfl), sepAll_get (i := 0) rfl h⟩)) ?_
   refine Oa (ApO [5, 0] sl25 sl25 sz25) fun c246 => ?_
   refine Jo 0 ?_; rintro a247 k248 rfl
   refine Fb 40 0 fun hl249 => ?_
   have hn250 := la p0_13 ([(GFunc.mk ([(Str.mk [109]), (Str.mk [102]), (Str.mk [103])].getD i_14.toNat default) f1_46)] : List GFunc)
   refine Oq (Vfa fo27_0 5) (Ost (SclF [5] sh25 [vl a247 k248 (p0_13 ++ [(GFunc.mk ([(Str.mk [109]), (Str.mk [102]), (Str.mk [103])].getD i_14.toNat default) f1_46)])]) (KS ?_))
   refine Oq Vm (Oq Vadd (Oq Va (KS ?_)))
   exact Kg (r30, ti_45, (p0_13 ++ [(GFunc.mk ([(Str.mk [109]), (Str.mk [102]), (Str.mk [103])].getD i_14.toNat default) f1_46)]), (i_14 + 1), a247, k248) [1, 3, 0, 3, 3] ⟨(q3 hM17 (by simp only [Tape_Program_L0, h28, h62, hg6, hg39, hR242, cs4])), (by omega), (by omega), (by omega), (by omega), (by omega), (by omega), iv1⟩
 intro h28
 have g251 := of_decide_eq_false h28
 obtain rfl : r11 = 0 := by omega
 refine Ke ?_
 have hR252 := q2 hM17 (ti_12, p0_13) (by simp only [Tape_Program_L0, h28, hg6, cs4])
 refine KS ?_
 refine Oq (VldA sh27 2) (Ost (Scl [3] sh27 [vl a15 k16 p0_13]) (KS ?_))
 refine Jl [1] (Ent.freeze _ _) ?_
 have hq := q4 hrr ((GProgram.mk p0_13), ti_12) (by simp only [Tape_Program, h28, hg6, hR252, cs4]); subst hq
 exact Kr (vl a15 k16 p0_13) rfl (.cellN 1 rfl sh27 rfl (reads_Cl _ _) rfl .nil) [0, 2] en
end Go.SL.G
