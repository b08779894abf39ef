/- Part 3 of the walks: mirrors, plain laws and walks used by the last text of this claim. -/
import Derived.Test.YtaahlggoddafaaaDoorW2
import Derived.Test.YtaahlggoddafaaaDoorProg
set_option linter.unusedVariables false
set_option linter.unusedSimpArgs false
namespace Go.SL.G
open Go Go.SL Go.Proofs
set_option maxHeartbeats 20000000
set_option maxRecDepth 100000
theorem fn25 (p : GProgram) (pa0 : Option Addr) (pk0 : Nat) (kwLA : Option Addr) (kwLK : Nat) (hps : PSm p = true) (rr : Bool) (hrr : syntax_Valid p = rr) : FT Tryd.prog 25 #[.agg #[vl pa0 pk0 p.Funcs]] [S pa0 pk0 p.Funcs, pv (gp 0) [vl kwLA kwLK kwL], S kwLA kwLK kwL] (fun g : Unit => True) (fun g => vb rr) (fun g => []) := by
 refine FTi Tryd.func25 fun w0 M0 F0 => ?_
 refine Fb 40 0 fun hl1 => ?_
 refine Fb 16 2 fun hl2 => ?_
 refine FoS 2 fun ho3 => ?_
 refine KS ?_
 refine Oa (Ab [vl pa0 pk0 p.Funcs]) fun p4 => Oq Va (KS ?_)
 refine Oq (Vfa fo25_0 0) (Oq (VldF sh23 0) (Oq (Vlen sl23) (Oq Vlss (Oq Vm ?_))))
 refine Js 11 ?_ ?_
 · intro h5
   have g6 := of_decide_eq_true h5
   refine Osk (Osk (Osk (Osk (Oq Vpt (KS ?_)))))
   refine Kt ?_
   refine KS ?_
   refine Oq Va (KS ?_)
   have hq := q4 hrr false (by simp only [syntax_Valid, h5, cs4]); subst hq
   exact Kr () rfl (.tmp rfl .nil) [] trivial
 intro h5
 have g7 := of_decide_eq_false h5
 refine Oq (Vfa fo25_0 0) (Oq (VldF sh23 0) (Oq (Vlen sl23) (Oq Vgtr (Oq Vpf (KS ?_)))))
 refine Kc ?_ ?_
 · intro h8
   have g9 := of_decide_eq_true h8
   have hfm := PSm_f hps (i := 8) (by omega)
   refine KS ?_
   refine Oq Va (KS ?_)
   have hq := q4 hrr false (by simp only [syntax_Valid, h5, h8, cs4]); subst hq
   exact Kr () rfl (.tmp rfl .nil) [] trivial
 intro h8
 have g10 := of_decide_eq_false h8
 refine KS ?_
 refine Oq (Vfa fo25_0 0) (Oq (VldF sh23 0) (Oq (Vlen sl23) (Oq Vm (KS ?_))))
 refine Kl (γ := Nat × Int) (fun (r11, v20_12) => ⟨[(18, vl pa0 pk0 p.Funcs), (19, vi (p.Funcs.length : Int)), (20, vi v20_12)], [S pa0 pk0 p.Funcs, pv (gp 0) [vl kwLA kwLK kwL], S kwLA kwLK kwL], syntax_Valid_L0 p r11 v20_12 = syntax_Valid_L0 p (((p.Funcs.length : Int) - 0).toNat) 0 ∧ r11 = ((p.Funcs.length : Int) - v20_12).toNat ∧ (0 : Int) ≤ v20_12 ∧ v20_12 ≤ (p.Funcs.length : Int) ∧ (-9223372036854775808 ≤ v20_12 ∧ v20_12 ≤ 9223372036854775807), r11⟩) (((p.Funcs.length : Int) - 0).toNat, 0) [1, 2, 3] ⟨rfl, rfl, (by omega), (by omega), (by omega)⟩ ?_
 rintro ⟨r11, v20_12⟩ ⟨hM13, hr14, hi15, hi16, hk17⟩
 refine JJ_nx fun _ _ hL hA => ?_; dsimp only at hL hA; subst hL hA
 refine Fb 40 0 fun hl18 => ?_
 refine Fb 16 2 fun hl19 => ?_
 refine FoS 2 fun ho20 => ?_
 refine KS ?_
 refine Oq Vlss (KS ?_)
 refine Kc ?_ ?_
 · intro h21
   have g22 := of_decide_eq_true h21
   have hfm := PSm_f hps (i := v20_12) (by omega)
   obtain ⟨r23, rfl⟩ := scc (n := r11) (by omega)
   refine KS ?_
   refine Oq (Vi sl23 0) ?_
   refine JJ_peek_GFunc v20_12.toNat 0 rfl rng fun a24 k25 hb26 => ?_
   refine Fb 40 1 fun hl27 => ?_
   refine Oq (VldA sh41 0) (Oa (Al ze41 [.string (bs (Str.mk [])), .slice none 0 0]) fun p28 => Ost (Scl [0] sh41 [.string (bs ((p.Funcs.getD v20_12.toNat default).Name)), vl a24 k25 ((p.Funcs.getD v20_12.toNat default).Blocks)]) (KS ?_))
   refine Oq (Vfa fo41_0 0) (Oq (VldF sh9 0) ?_)
   refine letv (lexer_IsName ((p.Funcs.getD v20_12.toNat default).Name)) fun rv29 hg30 => ?_
   have hc31 := fn35 ((p.Funcs.getD v20_12.toNat default).Name) kwLA kwLK pre rv29 hg30
   refine Oc [4, 5] ca35 hc31 ?_
   rintro - -
   refine Oq Vnot (Oq Vm ?_)
   refine Js 28 ?_ ?_
   · intro h32
     have h34 := not_true h32
     refine Osk (Osk (Osk (Osk (Oq Vpt (Oq Vm (Osk (Osk (Osk (Osk ?_)))))))))
     refine Oq Vpt (KS ?_)
     refine Kt ?_
     refine KS ?_
     refine Oq Va (KS ?_)
     have hR36 := q2 hM13 (.ret false) (by simp only [syntax_Valid_L0, h5, h8, h21, h32, h34, hg30, cs4])
     have hq := q4 hrr false (by simp only [syntax_Valid, h5, h8, h21, h32, h34, hg30, hR36, cs4]); subst hq
     exact Kr () rfl (.tmp rfl .nil) [] trivial
   intro h32
   have h38 := not_false h32
   refine Oq (Vfa fo41_1 0) (Oq (VldF sh39 0) (Oq (Vlen sl39) (Oq Vlss (Oq Vpf (Oq Vm ?_)))))
   refine Js 34 ?_ ?_
   · intro h40
     have g41 := of_decide_eq_true h40
     refine Osk (Osk (Osk (Osk (Oq Vpt (KS ?_)))))
     refine Kt ?_
     refine KS ?_
     refine Oq Va (KS ?_)
     have hR42 := q2 hM13 (.ret false) (by simp only [syntax_Valid_L0, h5, h8, h21, h32, h38, h40, hg30, cs4])
     have hq := q4 hrr false (by simp only [syntax_Valid, h5, h8, h21, h32, h38, h40, hg30, hR42, cs4]); subst hq
     exact Kr () rfl (.tmp rfl .nil) [] trivial
   intro h40
   have g43 := of_decide_eq_false h40
   refine Oq (Vfa fo41_1 0) (Oq (VldF sh39 0) (Oq (Vlen sl39) (Oq Vgtr (Oq Vpf (KS ?_)))))
   refine Kc ?_ ?_
   · intro h44
     have g45 := of_decide_eq_true h44
     have hbm := FSm_b hfm (i := 16) (by omega)
     refine KS ?_
     refine Oq Va (KS ?_)
     have hR46 := q2 hM13 (.ret false) (by simp only [syntax_Valid_L0, h5, h8, h21, h32, h38, h40, h44, hg30, cs4])
     have hq := q4 hrr false (by simp only [syntax_Valid, h5, h8, h21, h32, h38, h40, h44, hg30, hR46, cs4]); subst hq
     exact Kr () rfl (.tmp rfl .nil) [] trivial
   intro h44
   have g47 := of_decide_eq_false h44
   refine KS ?_
   refine Oq (Vfa fo41_1 0) (Oq (VldF sh39 0) (Oq (Vlen sl39) (Oq Vm (KS ?_))))
   refine Kl (γ := Nat × Int) (fun (r48, v43_49) => ⟨[(18, vl pa0 pk0 p.Funcs), (19, vi (p.Funcs.length : Int)), (20, vi v20_12), (41, vl a24 k25 ((p.Funcs.getD v20_12.toNat default).Blocks)), (42, vi (((p.Funcs.getD v20_12.toNat default).Blocks).length : Int)), (43, vi v43_49)], [S a24 k25 ((p.Funcs.getD v20_12.toNat default).Blocks), S pa0 pk0 p.Funcs, pv (gp 0) [vl kwLA kwLK kwL], S kwLA kwLK kwL], syntax_Valid_L1 ((p.Funcs.getD v20_12.toNat default).Blocks) r48 v43_49 = syntax_Valid_L1 ((p.Funcs.getD v20_12.toNat default).Blocks) ((((((p.Funcs.getD v20_12.toNat default).Blocks).length : Int) : Int) - 0).toNat) 0 ∧ r48 = (((((p.Funcs.getD v20_12.toNat default).Blocks).length : Int) : Int) - v43_49).toNat ∧ (0 : Int) ≤ v43_49 ∧ (v43_49 ≤ (((p.Funcs.getD v20_12.toNat default).Blocks).length : Int) ∨ v43_49 = 0) ∧ (-9223372036854775808 ≤ v43_49 ∧ v43_49 ≤ 9223372036854775807), r48⟩) ((((((p.Funcs.getD v20_12.toNat default).Blocks).length : Int) : Int) - 0).toNat, 0) [2, 3, 4, 5] ⟨rfl, rfl, (by omega), (.inr rfl), (by omega)⟩ ?_
   rintro ⟨r48, v43_49⟩ ⟨hM50, hr51, hi52, hi53, hk54⟩
   refine JJ_nx fun _ _ hL hA => ?_; dsimp only at hL hA; subst hL hA
   refine Fb 40 0 fun hl55 => ?_
   refine Fb 40 1 fun hl56 => ?_
   refine Fb 16 3 fun hl57 => ?_
   refine FoS 3 fun ho58 => ?_
   refine KS ?_
   refine Oq Vlss (KS ?_)
   refine Kc ?_ ?_
   · intro h59
     have g60 := of_decide_eq_true h59
     have hbm := FSm_b hfm (i := v43_49) (by omega)
     obtain ⟨r61, rfl⟩ := scc (n := r48) (by omega)
     refine KS ?_
     refine Oq (Vi sl39 0) ?_
     refine JJ_peek_GBlock v43_49.toNat 0 rfl rng fun a62 k63 hb64 => ?_
     refine Fb 72 1 fun hl65 => ?_
     refine Oq (VldA sh44 0) (Oa (Al ze44 [.string (bs (Str.mk [])), .slice none 0 0]) fun p66 => Ost (Scl [0] sh44 [.string (bs ((((p.Funcs.getD v20_12.toNat default).Blocks).getD v43_49.toNat default).Name)), .slice a62 (((((p.Funcs.getD v20_12.toNat default).Blocks).getD v43_49.toNat default).Stmts).length) k63]) (KS ?_))
     refine Oq (Vfa fo44_0 0) (Oq (VldF sh9 0) ?_)
     refine letv (lexer_IsName ((((p.Funcs.getD v20_12.toNat default).Blocks).getD v43_49.toNat default).Name)) fun rv67 hg68 => ?_
     have hc69 := fn35 ((((p.Funcs.getD v20_12.toNat default).Blocks).getD v43_49.toNat default).Name) kwLA kwLK pre rv67 hg68
     refine Oc [5, 6] ca35 hc69 ?_
     rintro - -
     refine Oq Vnot (Oq Vm ?_)
     refine Js 51 ?_ ?_
     · intro h70
       have h72 := not_true h70
       refine Osk (Osk (Osk (Osk (Oq Vpt (Oq Vm (Osk (Osk (Osk (Osk ?_)))))))))
       refine Oq Vpt (Oq Vm (Osk (Osk (Osk (Oq Vpt (KS ?_))))))
       refine Kt ?_
       refine KS ?_
       refine Oq Va (KS ?_)
       have hR74 := q2 hM50 (.ret false) (by simp only [syntax_Valid_L1, h5, h8, h21, h32, h38, h40, h44, h59, h70, h72, hg30, hg68, cs4])
       have hR75 := q2 hM13 (.ret false) (by simp only [syntax_Valid_L0, h5, h8, h21, h32, h38, h40, h44, h59, h70, h72, hg30, hg68, hR74, cs4])
       have hq := q4 hrr false (by simp only [syntax_Valid, h5, h8, h21, h32, h38, h40, h44, h59, h70, h72, hg30, hg68, hR74, hR75, cs4]); subst hq
       exact Kr () rfl (.tmp rfl .nil) [] trivial
     intro h70
     have h77 := not_false h70
     refine Oq (Vfa fo44_1 0) (Oq (VldF sh42 0) (Oq (Vlen sl42) (Oq Vlss (Oq Vpf (Oq Vm ?_)))))
     refine Js 57 ?_ ?_
     · intro h79
       have g80 := of_decide_eq_true h79
       refine Osk (Osk (Osk (Osk (Oq Vpt (Oq Vm (Osk (Osk (Osk (Oq Vpt ?_)))))))))
       refine KS ?_
       refine Kt ?_
       refine KS ?_
       refine Oq Va (KS ?_)
       have hR81 := q2 hM50 (.ret false) (by simp only [syntax_Valid_L1, h5, h8, h21, h32, h38, h40, h44, h59, h70, h77, h79, hg30, hg68, cs4])
       have hR82 := q2 hM13 (.ret false) (by simp only [syntax_Valid_L0, h5, h8, h21, h32, h38, h40, h44, h59, h70, h77, h79, hg30, hg68, hR81, cs4])
       have hq := q4 hrr false (by simp only [syntax_Valid, h5, h8, h21, h32, h38, h40, h44, h59, h70, h77, h79, hg30, hg68, hR81, hR82, cs4]); subst hq
       exact Kr () rfl (.tmp rfl .nil) [] trivial
     intro h79
     have g83 := of_decide_eq_false h79
     refine Oq (Vfa fo44_1 0) (Oq (VldF sh42 0) (Oq (Vlen sl42) (Oq Vgtr (Oq Vpf (Oq Vm ?_)))))
     refine Js 63 ?_ ?_
     · intro h84
       have g85 := of_decide_eq_true h84
       refine Osk (Osk (Osk (Oq Vpt (KS ?_))))
       refine Kt ?_
       refine KS ?_
       refine Oq Va (KS ?_)
       have hR86 := q2 hM50 (.ret false) (by simp only [syntax_Valid_L1, h5, h8, h21, h32, h38, h40, h44, h59, h70, h77, h79, h84, hg30, hg68, cs4])
       have hR87 := q2 hM13 (.ret false) (by simp only [syntax_Valid_L0, h5, h8, h21, h32, h38, h40, h44, h59, h70, h77, h79, h84, hg30, hg68, hR86, cs4])
       have hq := q4 hrr false (by simp only [syntax_Valid, h5, h8, h21, h32, h38, h40, h44, h59, h70, h77, h79, h84, hg30, hg68, hR86, hR87, cs4]); subst hq
       exact Kr () rfl (.tmp rfl .nil) [] trivial
     intro h84
     have g88 := of_decide_eq_false h84
     refine Oq (Vfa fo44_1 0) (Oq (VldF sh42 0) ?_)
     refine JJ_ent (Ent.pall [5, 6] rfl rfl) ?_
     refine letv (slices_ContainsFunc_Stmt ((((p.Funcs.getD v20_12.toNat default).Blocks).getD v43_49.toNat default).Stmts) (fun x => syntax_Valid_1 x)) fun rv89 hg90 => ?_
     have hc91 := fn36 ((((p.Funcs.getD v20_12.toNat default).Blocks).getD v43_49.toNat default).Stmts) a62 k63 37 [] (fun x => syntax_Valid_1 x) [pv (gp 0) [vl kwLA kwLK kwL], S kwLA kwLK kwL] ca37 (fun x hx a2 k2 a3 k3 hq0 hq1 => FT_pall (A1 := _) (fn37 x a2 k2 a3 k3 kwLA kwLK hq0 hq1 (BSm_m hbm hx) _ rfl)) rv89 hg90
     refine Oc [3, 0] ca36 hc91 ?_
     rintro - -
     refine Oq Vpf (KS ?_)
     refine Kc ?_ ?_
     · intro h92
       refine KS ?_
       refine Oq Va (KS ?_)
       have hR94 := q2 hM50 (.ret false) (by simp only [syntax_Valid_L1, h5, h8, h21, h32, h38, h40, h44, h59, h70, h77, h79, h84, h92, hg30, hg68, hg90, cs4])
       have hR95 := q2 hM13 (.ret false) (by simp only [syntax_Valid_L0, h5, h8, h21, h32, h38, h40, h44, h59, h70, h77, h79, h84, h92, hg30, hg68, hg90, hR94, cs4])
       have hq := q4 hrr false (by simp only [syntax_Valid, h5, h8, h21, h32, h38, h40, h44, h59, h70, h77, h79, h84, h92, hg30, hg68, hg90, hR94, hR95, cs4]); subst hq
       exact Kr () rfl (.tmp rfl .nil) [] trivial
     intro h92
     refine KS ?_
     refine Oq Vadd (Oq Vm (KS ?_))
     exact Kg (r61, (v43_49 + 1)) [4, 5, 6, 7] ⟨(q3 hM50 (by simp only [syntax_Valid_L1, h5, h8, h21, h32, h38, h40, h44, h59, h70, h77, h79, h84, h92, hg30, hg68, hg90, cs4])), (by omega), (by omega), (by omega), (by omega)⟩
   intro h59
   have g97 := of_decide_eq_false h59
   obtain rfl : r48 = 0 := by omega
   refine Ke ?_
   have hR98 := q2 hM50 (.brk ()) (by simp only [syntax_Valid_L1, h5, h8, h21, h32, h38, h40, h44, h59, hg30, cs4])
   refine KS ?_
   refine Oq Vadd (Oq Vm (KS ?_))
   exact Kg (r23, (v20_12 + 1)) [1, 2, 3] ⟨(q3 hM13 (by simp only [syntax_Valid_L0, h5, h8, h21, h32, h38, h40, h44, h59, hg30, hR98, cs4])), (by omega), (by omega), (by omega), (by omega)⟩
 intro h21
 have g99 := of_decide_eq_false h21
 obtain rfl : r11 = 0 := by omega
 refine Ke ?_
 have hR100 := q2 hM13 (.brk ()) (by simp only [syntax_Valid_L0, h5, h8, h21, cs4])
 refine KS ?_
 refine Oq Va (KS ?_)
 have hq := q4 hrr true (by simp only [syntax_Valid, h5, h8, h21, hR100, cs4]); subst hq
 exact Kr () rfl (.tmp rfl .nil) [] trivial
theorem fn26 (l : List GFunc) (la0 : Option Addr) (lk0 : Nat) (nameF : FuncId) (nameC : List Value) (namep : GFunc → Str) (nameA : List SP) (hnamec : callable Tryd.prog nameF = true) (hnameF : ∀ x0, ∀ (a0 : Option Addr) (k0 : Nat), x0.Name.b.length ≤ 140737488355328 → FT Tryd.prog nameF ([(.agg #[.string (bs x0.Name), vl a0 k0 x0.Blocks] : Value)] ++ nameC).toArray ([S a0 k0 x0.Blocks] ++ [pAll nameA]) (fun _ : Unit => (namep x0).b.length ≤ 140737488355328) (fun _ => .string (bs (namep x0))) (fun _ => [])) (rr : Int × (List (Str × Bool))) (hrr : validate_duplicate_Func l namep = rr) : FT Tryd.prog 26 #[vl la0 lk0 l, .func (.func nameF) #[] nameC.toArray] [S la0 lk0 l, pAll nameA] (fun g : Value => i64ok rr.1) (fun g => .tuple #[vi rr.1, g]) (fun g => [Mp vstr vb okStr g rr.2]) := by
 refine FTi Tryd.func26 fun w0 M0 F0 => ?_
 refine Fb 40 0 fun hl1 => ?_
 refine KS ?_
 refine Oq Va (Oq Va (KS ?_))
 refine Oa (Amp (κ := Str) (ν := Bool) (ek := vstr) (ev := vb) (ok := okStr)) fun p2 => ?_
 refine Jom 0 ?_; rintro b3 rfl
 refine Oq Va (KS ?_)
 refine Oq Va (KS ?_)
 refine Oq Vm (Oq (Vlen sl23) (Oq Vm (KS ?_)))
 refine Kl (γ := Nat × (List (Str × Bool)) × Int × Int) (fun (r4, known_5, at__6, v13_7) => ⟨[(1, .func (.func nameF) #[] nameC.toArray), (6, (mv b3)), (7, vi at__6), (11, vl la0 lk0 l), (12, vi (l.length : Int)), (13, vi v13_7)], [Mp vstr vb okStr (mv b3) known_5, S la0 lk0 l, pAll nameA], validate_duplicate_Func_L0 l namep r4 known_5 at__6 v13_7 = validate_duplicate_Func_L0 l namep (((l.length : Int) - 0).toNat) [] (-1) 0 ∧ r4 = ((l.length : Int) - v13_7).toNat ∧ (0 : Int) ≤ v13_7 ∧ v13_7 ≤ (l.length : Int) ∧ (-9223372036854775808 ≤ at__6 ∧ at__6 ≤ 9223372036854775807) ∧ (-9223372036854775808 ≤ v13_7 ∧ v13_7 ≤ 9223372036854775807), r4⟩) (((l.length : Int) - 0).toNat, [], -1, 0) [0, 0, 1] ⟨rfl, rfl, (by omega), (by omega), (by omega), (by omega)⟩ ?_
 rintro ⟨r4, known_5, at__6, v13_7⟩ ⟨hM8, hr9, hi10, hi11, hk12, hk13⟩
 refine JJ_nx fun _ _ hL hA => ?_; dsimp only at hL hA; subst hL hA
 refine Fb 40 1 fun hl14 => ?_
 refine KS ?_
 refine Oq Vlss (KS ?_)
 refine Kc ?_ ?_
 · intro h15
   have g16 := of_decide_eq_true h15
   obtain ⟨r17, rfl⟩ := scc (n := r4) (by omega)
   refine KS ?_
   refine Oq Vm (Oq (Vi sl23 1) ?_)
   refine JJ_peek_GFunc v13_7.toNat 1 rfl rng fun a18 k19 hb20 => ?_
   refine Fb 40 1 fun hl21 => ?_
   refine Oq (VldA sh41 0) (Oa (Al ze41 [.string (bs (Str.mk [])), .slice none 0 0]) fun p22 => Oq Va (Ost (Scl [0] sh41 [.string (bs ((l.getD v13_7.toNat default).Name)), vl a18 k19 ((l.getD v13_7.toNat default).Blocks)]) (KS ?_)))
   refine Oq Vm (Oq Vm (Oq (VldA sh41 0) ?_))
   refine JO_call [2, 5] rfl rfl rfl (OpC.clo («as» := [(.agg #[.string (bs ((l.getD v13_7.toNat default).Name)), vl a18 k19 ((l.getD v13_7.toNat default).Blocks)] : Value)] ++ nameC) rfl rfl hnamec rfl (by simp)) (hnameF (l.getD v13_7.toNat default) a18 k19 pre) rfl fun _ he23 => ?_
   refine Oq (Vmk1 3 false mt64 (kStr un9) ze4 (ek := vstr) (ev := vb) (ok := okStr) (key := (namep (l.getD v13_7.toNat default))) pre) (Oq Vm ?_)
   refine Js 23 ?_ ?_
   · intro h24
     refine Oq Vm (Oq Vlss (Oq Vpt (KS ?_)))
     refine Kc ?_ ?_
     · intro h26
       have g27 := of_decide_eq_true h26
       refine KS ?_
       refine Oq Vm (Oq Va (KS ?_))
       refine Oq Vm (Oq Vm (Oq (VldA sh41 0) ?_))
       refine JO_call [2, 5] rfl rfl rfl (OpC.clo («as» := [(.agg #[.string (bs ((l.getD v13_7.toNat default).Name)), vl a18 k19 ((l.getD v13_7.toNat default).Blocks)] : Value)] ++ nameC) rfl rfl hnamec rfl (by simp)) (hnameF (l.getD v13_7.toNat default) a18 k19 pre) rfl fun _ he28 => ?_
       refine Ost (Smp [3] mt64 (kStr un9) true (ek := vstr) (ev := vb) (ok := okStr) (key := (namep (l.getD v13_7.toNat default))) pre) (KS ?_)
       refine Oq Vadd (Oq Vm (KS ?_))
       exact Kg (r17, (mset known_5 (namep (l.getD v13_7.toNat default)) true), v13_7, (v13_7 + 1)) [0, 3, 4] ⟨(q3 hM8 (by simp only [validate_duplicate_Func_L0, h15, h24, h26, cs4])), (by omega), (by omega), (by omega), (by omega), (by omega)⟩
     intro h26
     have g29 := of_decide_eq_false h26
     refine KS ?_
     refine Oq Vm (Oq Vm (Oq (VldA sh41 0) ?_))
     refine JO_call [2, 5] rfl rfl rfl (OpC.clo («as» := [(.agg #[.string (bs ((l.getD v13_7.toNat default).Name)), vl a18 k19 ((l.getD v13_7.toNat default).Blocks)] : Value)] ++ nameC) rfl rfl hnamec rfl (by simp)) (hnameF (l.getD v13_7.toNat default) a18 k19 pre) rfl fun _ he30 => ?_
     refine Ost (Smp [3] mt64 (kStr un9) true (ek := vstr) (ev := vb) (ok := okStr) (key := (namep (l.getD v13_7.toNat default))) pre) (KS ?_)
     refine Oq Vadd (Oq Vm (KS ?_))
     exact Kg (r17, (mset known_5 (namep (l.getD v13_7.toNat default)) true), at__6, (v13_7 + 1)) [0, 3, 4] ⟨(q3 hM8 (by simp only [validate_duplicate_Func_L0, h15, h24, h26, cs4])), (by omega), (by omega), (by omega), (by omega), (by omega)⟩
   intro h24
   refine Osk (Osk (Oq Vpf (KS ?_)))
   refine Kf ?_
   refine KS ?_
   refine Oq Vm (Oq Vm (Oq (VldA sh41 0) ?_))
   refine JO_call [2, 5] rfl rfl rfl (OpC.clo («as» := [(.agg #[.string (bs ((l.getD v13_7.toNat default).Name)), vl a18 k19 ((l.getD v13_7.toNat default).Blocks)] : Value)] ++ nameC) rfl rfl hnamec rfl (by simp)) (hnameF (l.getD v13_7.toNat default) a18 k19 pre) rfl fun _ he32 => ?_
   refine Ost (Smp [3] mt64 (kStr un9) true (ek := vstr) (ev := vb) (ok := okStr) (key := (namep (l.getD v13_7.toNat default))) pre) (KS ?_)
   refine Oq Vadd (Oq Vm (KS ?_))
   exact Kg (r17, (mset known_5 (namep (l.getD v13_7.toNat default)) true), at__6, (v13_7 + 1)) [0, 3, 4] ⟨(q3 hM8 (by simp only [validate_duplicate_Func_L0, h15, h24, cs4])), (by omega), (by omega), (by omega), (by omega), (by omega)⟩
 intro h15
 have g33 := of_decide_eq_false h15
 obtain rfl : r4 = 0 := by omega
 refine Ke ?_
 have hR34 := q2 hM8 (known_5, at__6) (by simp only [validate_duplicate_Func_L0, h15, cs4])
 refine KS ?_
 refine Oq Vm (Oq Vm (Oq Va (Oq Va (KS ?_))))
 have hq := q4 hrr (at__6, known_5) (by simp only [validate_duplicate_Func, h15, hR34, cs4]); subst hq
 exact Kr (mv b3) rfl (.tmp rfl (.tmp rfl .nil)) [0] en
theorem fn27 (f : GFunc) (fa1 : Option Addr) (fk1 : Nat) (hf_0 : f.Name.b.length ≤ 140737488355328) (rr : Str) (hrr : validate_Check_1 f = rr) : FT Tryd.prog 27 #[.agg #[.string (bs f.Name), vl fa1 fk1 f.Blocks]] [S fa1 fk1 f.Blocks] (fun g : Unit => rr.b.length ≤ 140737488355328) (fun g => .string (bs rr)) (fun g => []) := by
 refine FTi Tryd.func27 fun w0 M0 F0 => ?_
 refine Fb 40 0 fun hl1 => ?_
 refine KS ?_
 refine Oa (Ab [.string (bs f.Name), vl fa1 fk1 f.Blocks]) fun p2 => Oq Va (KS ?_)
 refine Oq (Vfa fo41_0 0) (Oq (VldF sh9 0) (Oq Va (KS ?_)))
 have hq := q4 hrr f.Name (by simp only [validate_Check_1, cs4]); subst hq
 exact Kr () rfl (.tmp rfl .nil) [] en
theorem fn39 (l : List GBlock) (la0 : Option Addr) (lk0 : Nat) (nameF : FuncId) (nameC : List Value) (namep : GBlock → Str) (nameA : List SP) (hnamec : callable Tryd.prog nameF = true) (hnameF : ∀ x0, ∀ (a0 : Option Addr) (k0 : Nat), x0.Name.b.length ≤ 140737488355328 → FT Tryd.prog nameF ([(.agg #[.string (bs x0.Name), vl a0 k0 x0.Stmts] : Value)] ++ nameC).toArray ([S a0 k0 x0.Stmts] ++ [pAll nameA]) (fun _ : Unit => (namep x0).b.length ≤ 140737488355328) (fun _ => .string (bs (namep x0))) (fun _ => [])) (rr : Int × (List (Str × Bool))) (hrr : validate_duplicate_Block l namep = rr) : FT Tryd.prog 39 #[vl la0 lk0 l, .func (.func nameF) #[] nameC.toArray] [S la0 lk0 l, pAll nameA] (fun g : Value => i64ok rr.1) (fun g => .tuple #[vi rr.1, g]) (fun g => [Mp vstr vb okStr g rr.2]) := by
 refine FTi Tryd.func39 fun w0 M0 F0 => ?_
 refine Fb 40 0 fun hl1 => ?_
 refine KS ?_
 refine Oq Va (Oq Va (KS ?_))
 refine Oa (Amp (κ := Str) (ν := Bool) (ek := vstr) (ev := vb) (ok := okStr)) fun p2 => ?_
 refine Jom 0 ?_; rintro b3 rfl
 refine Oq Va (KS ?_)
 refine Oq Va (KS ?_)
 refine Oq Vm (Oq (Vlen sl39) (Oq Vm (KS ?_)))
 refine Kl (γ := Nat × (List (Str × Bool)) × Int × Int) (fun (r4, known_5, at__6, v13_7) => ⟨[(1, .func (.func nameF) #[] nameC.toArray), (6, (mv b3)), (7, vi at__6), (11, vl la0 lk0 l), (12, vi (l.length : Int)), (13, vi v13_7)], [Mp vstr vb okStr (mv b3) known_5, S la0 lk0 l, pAll nameA], validate_duplicate_Block_L0 l namep r4 known_5 at__6 v13_7 = validate_duplicate_Block_L0 l namep (((l.length : Int) - 0).toNat) [] (-1) 0 ∧ r4 = ((l.length : Int) - v13_7).toNat ∧ (0 : Int) ≤ v13_7 ∧ v13_7 ≤ (l.length : Int) ∧ (-9223372036854775808 ≤ at__6 ∧ at__6 ≤ 9223372036854775807) ∧ (-9223372036854775808 ≤ v13_7 ∧ v13_7 ≤ 9223372036854775807), r4⟩) (((l.length : Int) - 0).toNat, [], -1, 0) [0, 0, 1] ⟨rfl, rfl, (by omega), (by omega), (by omega), (by omega)⟩ ?_
 rintro ⟨r4, known_5, at__6, v13_7⟩ ⟨hM8, hr9, hi10, hi11, hk12, hk13⟩
 refine JJ_nx fun _ _ hL hA => ?_; dsimp only at hL hA; subst hL hA
 refine Fb 40 1 fun hl14 => ?_
 refine KS ?_
 refine Oq Vlss (KS ?_)
 refine Kc ?_ ?_
 · intro h15
   have g16 := of_decide_eq_true h15
   obtain ⟨r17, rfl⟩ := scc (n := r4) (by omega)
   refine KS ?_
   refine Oq Vm (Oq (Vi sl39 1) ?_)
   refine JJ_peek_GBlock v13_7.toNat 1 rfl rng fun a18 k19 hb20 => ?_
   refine Fb 72 1 fun hl21 => ?_
   refine Oq (VldA sh44 0) (Oa (Al ze44 [.string (bs (Str.mk [])), .slice none 0 0]) fun p22 => Oq Va (Ost (Scl [0] sh44 [.string (bs ((l.getD v13_7.toNat default).Name)), vl a18 k19 ((l.getD v13_7.toNat default).Stmts)]) (KS ?_)))
   refine Oq Vm (Oq Vm (Oq (VldA sh44 0) ?_))
   refine JO_call [2, 5] rfl rfl rfl (OpC.clo («as» := [(.agg #[.string (bs ((l.getD v13_7.toNat default).Name)), vl a18 k19 ((l.getD v13_7.toNat default).Stmts)] : Value)] ++ nameC) rfl rfl hnamec rfl (by simp)) (hnameF (l.getD v13_7.toNat default) a18 k19 pre) rfl fun _ he23 => ?_
   refine Oq (Vmk1 3 false mt64 (kStr un9) ze4 (ek := vstr) (ev := vb) (ok := okStr) (key := (namep (l.getD v13_7.toNat default))) pre) (Oq Vm ?_)
   refine Js 23 ?_ ?_
   · intro h24
     refine Oq Vm (Oq Vlss (Oq Vpt (KS ?_)))
     refine Kc ?_ ?_
     · intro h26
       have g27 := of_decide_eq_true h26
       refine KS ?_
       refine Oq Vm (Oq Va (KS ?_))
       refine Oq Vm (Oq Vm (Oq (VldA sh44 0) ?_))
       refine JO_call [2, 5] rfl rfl rfl (OpC.clo («as» := [(.agg #[.string (bs ((l.getD v13_7.toNat default).Name)), vl a18 k19 ((l.getD v13_7.toNat default).Stmts)] : Value)] ++ nameC) rfl rfl hnamec rfl (by simp)) (hnameF (l.getD v13_7.toNat default) a18 k19 pre) rfl fun _ he28 => ?_
       refine Ost (Smp [3] mt64 (kStr un9) true (ek := vstr) (ev := vb) (ok := okStr) (key := (namep (l.getD v13_7.toNat default))) pre) (KS ?_)
       refine Oq Vadd (Oq Vm (KS ?_))
       exact Kg (r17, (mset known_5 (namep (l.getD v13_7.toNat default)) true), v13_7, (v13_7 + 1)) [0, 3, 4] ⟨(q3 hM8 (by simp only [validate_duplicate_Block_L0, h15, h24, h26, cs4])), (by omega), (by omega), (by omega), (by omega), (by omega)⟩
     intro h26
     have g29 := of_decide_eq_false h26
     refine KS ?_
     refine Oq Vm (Oq Vm (Oq (VldA sh44 0) ?_))
     refine JO_call [2, 5] rfl rfl rfl (OpC.clo («as» := [(.agg #[.string (bs ((l.getD v13_7.toNat default).Name)), vl a18 k19 ((l.getD v13_7.toNat default).Stmts)] : Value)] ++ nameC) rfl rfl hnamec rfl (by simp)) (hnameF (l.getD v13_7.toNat default) a18 k19 pre) rfl fun _ he30 => ?_
     refine Ost (Smp [3] mt64 (kStr un9) true (ek := vstr) (ev := vb) (ok := okStr) (key := (namep (l.getD v13_7.toNat default))) pre) (KS ?_)
     refine Oq Vadd (Oq Vm (KS ?_))
     exact Kg (r17, (mset known_5 (namep (l.getD v13_7.toNat default)) true), at__6, (v13_7 + 1)) [0, 3, 4] ⟨(q3 hM8 (by simp only [validate_duplicate_Block_L0, h15, h24, h26, cs4])), (by omega), (by omega), (by omega), (by omega), (by omega)⟩
   intro h24
   refine Osk (Osk (Oq Vpf (KS ?_)))
   refine Kf ?_
   refine KS ?_
   refine Oq Vm (Oq Vm (Oq (VldA sh44 0) ?_))
   refine JO_call [2, 5] rfl rfl rfl (OpC.clo («as» := [(.agg #[.string (bs ((l.getD v13_7.toNat default).Name)), vl a18 k19 ((l.getD v13_7.toNat default).Stmts)] : Value)] ++ nameC) rfl rfl hnamec rfl (by simp)) (hnameF (l.getD v13_7.toNat default) a18 k19 pre) rfl fun _ he32 => ?_
   refine Ost (Smp [3] mt64 (kStr un9) true (ek := vstr) (ev := vb) (ok := okStr) (key := (namep (l.getD v13_7.toNat default))) pre) (KS ?_)
   refine Oq Vadd (Oq Vm (KS ?_))
   exact Kg (r17, (mset known_5 (namep (l.getD v13_7.toNat default)) true), at__6, (v13_7 + 1)) [0, 3, 4] ⟨(q3 hM8 (by simp only [validate_duplicate_Block_L0, h15, h24, cs4])), (by omega), (by omega), (by omega), (by omega), (by omega)⟩
 intro h15
 have g33 := of_decide_eq_false h15
 obtain rfl : r4 = 0 := by omega
 refine Ke ?_
 have hR34 := q2 hM8 (known_5, at__6) (by simp only [validate_duplicate_Block_L0, h15, cs4])
 refine KS ?_
 refine Oq Vm (Oq Vm (Oq Va (Oq Va (KS ?_))))
 have hq := q4 hrr (at__6, known_5) (by simp only [validate_duplicate_Block, h15, hR34, cs4]); subst hq
 exact Kr (mv b3) rfl (.tmp rfl (.tmp rfl .nil)) [0] en
theorem fn40 (b : GBlock) (ba1 : Option Addr) (bk1 : Nat) (hb_0 : b.Name.b.length ≤ 140737488355328) (rr : Str) (hrr : validate_function_1 b = rr) : FT Tryd.prog 40 #[.agg #[.string (bs b.Name), vl ba1 bk1 b.Stmts]] [S ba1 bk1 b.Stmts] (fun g : Unit => rr.b.length ≤ 140737488355328) (fun g => .string (bs rr)) (fun g => []) := by
 refine FTi Tryd.func40 fun w0 M0 F0 => ?_
 refine Fb 72 0 fun hl1 => ?_
 refine KS ?_
 refine Oa (Ab [.string (bs b.Name), vl ba1 bk1 b.Stmts]) fun p2 => Oq Va (KS ?_)
 refine Oq (Vfa fo44_0 0) (Oq (VldF sh9 0) (Oq Va (KS ?_)))
 have hq := q4 hrr b.Name (by simp only [validate_function_1, cs4]); subst hq
 exact Kr () rfl (.tmp rfl .nil) [] en
theorem fn62 (s : GStmt) (sa2 : Option Addr) (sk2 : Nat) (sa3 : Option Addr) (sk3 : Nat) (hs_0 : i64ok s.Op) (hs_1 : s.Def.b.length ≤ 140737488355328) (rr : Bool) (hrr : validate_terminator s = rr) : FT Tryd.prog 62 #[.agg #[vi s.Op, .string (bs s.Def), vl sa2 sk2 s.Uses, vl sa3 sk3 s.Targets]] [S sa2 sk2 s.Uses, S sa3 sk3 s.Targets] (fun g : Unit => True) (fun g => vb rr) (fun g => []) := by
 refine FTi Tryd.func62 fun w0 M0 F0 => ?_
 unfold i64ok at hs_0
 refine Fb 16 0 fun hl1 => ?_
 refine FoS 0 fun ho2 => ?_
 refine Fb 16 1 fun hl3 => ?_
 refine FoS 1 fun ho4 => ?_
 refine KS ?_
 refine Oa (Ab [vi s.Op, .string (bs s.Def), vl sa2 sk2 s.Uses, vl sa3 sk3 s.Targets]) fun p5 => Oq Va (KS ?_)
 refine Oq (Vfa fo47_0 0) (Oq (VldF sh3 0) (Oq Veql (Oq Vm ?_)))
 refine Js 6 ?_ ?_
 · intro h6
   have g7 := eq_of_beq h6
   refine Osk (Osk (Osk (Oq Vpt (Oq Vm (Osk (Osk (Osk (Oq Vpt (Oq Va ?_)))))))))
   refine KS ?_
   have hq := q4 hrr true (by simp only [validate_terminator, h6, cs4]); subst hq
   exact Kr () rfl (.tmp rfl .nil) [] trivial
 intro h6
 have g8 := ne_of_beq_false h6
 refine Oq (Vfa fo47_0 0) (Oq (VldF sh3 0) (Oq Veql (Oq Vpf (Oq Vm ?_))))
 refine Js 11 ?_ ?_
 · intro h9
   have g10 := eq_of_beq h9
   refine Osk (Osk (Osk (Oq Vpt (Oq Va (KS ?_)))))
   have hq := q4 hrr true (by simp only [validate_terminator, h6, h9, cs4]); subst hq
   exact Kr () rfl (.tmp rfl .nil) [] trivial
 intro h9
 have g11 := ne_of_beq_false h9
 refine Oq (Vfa fo47_0 0) (Oq (VldF sh3 0) (Oq Veql (Oq Vpf (Oq Va (KS ?_)))))
 have hq := q4 hrr (s.Op == 9) (by simp only [validate_terminator, h6, h9, cs4]); subst hq
 exact Kr () rfl (.tmp rfl .nil) [] trivial
theorem fn41 (s : GStmt) (sa2 : Option Addr) (sk2 : Nat) (sa3 : Option Addr) (sk3 : Nat) (last : Bool) (knownP : Value) (known : List (Str × Bool)) (hs_0 : i64ok s.Op) (hs_1 : s.Def.b.length ≤ 140737488355328) (rr : Int) (hrr : validate_statement s last known = rr) : FT Tryd.prog 41 #[.agg #[vi s.Op, .string (bs s.Def), vl sa2 sk2 s.Uses, vl sa3 sk3 s.Targets], vb last, knownP] [S sa2 sk2 s.Uses, S sa3 sk3 s.Targets, Mp vstr vb okStr knownP known] (fun g : Unit => i64ok rr) (fun g => vi rr) (fun g => [Mp vstr vb okStr knownP known]) := by
 refine FTi Tryd.func41 fun w0 M0 F0 => ?_
 unfold i64ok at hs_0
 refine Fb 16 0 fun hl1 => ?_
 refine FoS 0 fun ho2 => ?_
 refine Fb 16 1 fun hl3 => ?_
 refine FoS 1 fun ho4 => ?_
 refine KS ?_
 refine Oa (Ab [vi s.Op, .string (bs s.Def), vl sa2 sk2 s.Uses, vl sa3 sk3 s.Targets]) fun p5 => Oq Va (KS ?_)
 refine Oq (VldA sh47 0) ?_
 refine letv (validate_terminator s) fun rv6 hg7 => ?_
 have hc8 := fn62 s sa2 sk2 sa3 sk3 pre pre rv6 hg7
 refine Oc [1, 2] ca62 hc8 ?_
 rintro - -
 refine Oq Vm (Oq (Vnb un4) (KS ?_))
 refine Kc ?_ ?_
 · intro h9
   refine KS ?_
   refine Oq Va (KS ?_)
   have hq := q4 hrr 4 (by simp only [validate_statement, h9, hg7, cs4]); subst hq
   exact Kr () rfl (.tmp rfl .nil) [3] en
 intro h9
 refine KS ?_
 refine Oq (Vfa fo47_3 0) (Oq (VldF sh45 0) (Oq (Vlen sl45) (Oq Vm (KS ?_))))
 refine Kl (γ := Nat × Int) (fun (r12, v16_13) => ⟨[(2, knownP), (14, vl sa3 sk3 s.Targets), (15, vi (s.Targets.length : Int)), (16, vi v16_13)], [S sa3 sk3 s.Targets, Mp vstr vb okStr knownP known], validate_statement_L0 s known r12 v16_13 = validate_statement_L0 s known (((s.Targets.length : Int) - 0).toNat) 0 ∧ r12 = ((s.Targets.length : Int) - v16_13).toNat ∧ (0 : Int) ≤ v16_13 ∧ v16_13 ≤ (s.Targets.length : Int) ∧ (-9223372036854775808 ≤ v16_13 ∧ v16_13 ≤ 9223372036854775807), r12⟩) (((s.Targets.length : Int) - 0).toNat, 0) [2, 3] ⟨rfl, rfl, (by omega), (by omega), (by omega)⟩ ?_
 rintro ⟨r12, v16_13⟩ ⟨hM14, hr15, hi16, hi17, hk18⟩
 refine JJ_nx fun _ _ hL hA => ?_; dsimp only at hL hA; subst hL hA
 refine Fb 16 0 fun hl19 => ?_
 refine FoS 0 fun ho20 => ?_
 refine KS ?_
 refine Oq Vlss (KS ?_)
 refine Kc ?_ ?_
 · intro h21
   have g22 := of_decide_eq_true h21
   obtain ⟨r23, rfl⟩ := scc (n := r12) (by omega)
   refine KS ?_
   refine Oq (Vi sl45 0) ?_
   have hb24 := okS (i := v16_13.toNat) ho20 rng
   refine Oq (VldS sh9 0) (Oq Va (KS ?_))
   refine Oq Vm (Oq Vm (Oq (Vmk1 1 false mt64 (kStr un9) ze4 (ek := vstr) (ev := vb) (ok := okStr) (key := (s.Targets.getD v16_13.toNat default)) pre) (Oq Vnot (KS ?_))))
   refine Kc ?_ ?_
   · intro h25
     have h27 := not_true h25
     refine KS ?_
     refine Oq Va (KS ?_)
     have hR29 := q2 hM14 (.ret 5) (by simp only [validate_statement_L0, h9, h21, h25, h27, hg7, cs4])
     have hq := q4 hrr 5 (by simp only [validate_statement, h9, h21, h25, h27, hg7, hR29, cs4]); subst hq
     exact Kr () rfl (.tmp rfl .nil) [1] en
   intro h25
   have h31 := not_false h25
   refine KS ?_
   refine Oq Vadd (Oq Vm (KS ?_))
   exact Kg (r23, (v16_13 + 1)) [0, 1] ⟨(q3 hM14 (by simp only [validate_statement_L0, h9, h21, h25, h31, hg7, cs4])), (by omega), (by omega), (by omega), (by omega)⟩
 intro h21
 have g33 := of_decide_eq_false h21
 obtain rfl : r12 = 0 := by omega
 refine Ke ?_
 have hR34 := q2 hM14 (.brk ()) (by simp only [validate_statement_L0, h9, h21, hg7, cs4])
 refine KS ?_
 refine Oq Va (KS ?_)
 have hq := q4 hrr 0 (by simp only [validate_statement, h9, h21, hg7, hR34, cs4]); subst hq
 exact Kr () rfl (.tmp rfl .nil) [1] en
theorem fn28 (f : GFunc) (fa1 : Option Addr) (fk1 : Nat) (i : Int) (funcsP : Value) (funcs : List (Str × Bool)) (hf_0 : f.Name.b.length ≤ 140737488355328) (hi_0 : i64ok i) (rr : GNode × Int) (hrr : validate_function f i funcs = rr) : FT Tryd.prog 28 #[.agg #[.string (bs f.Name), vl fa1 fk1 f.Blocks], vi i, funcsP] [S fa1 fk1 f.Blocks, Mp vstr vb okStr funcsP funcs] (fun g : Unit => i64ok rr.1.Kind ∧ i64ok rr.1.Func ∧ i64ok rr.1.Block ∧ i64ok rr.1.Stmt ∧ i64ok rr.2) (fun g => .tuple #[.agg #[vi rr.1.Kind, vi rr.1.Func, vi rr.1.Block, vi rr.1.Stmt], vi rr.2]) (fun g => [Mp vstr vb okStr funcsP funcs]) := by
 refine FTi Tryd.func28 fun w0 M0 F0 => ?_
 unfold i64ok at hi_0
 refine Fb 40 0 fun hl1 => ?_
 refine KS ?_
 refine Oa (Ab [.string (bs f.Name), vl fa1 fk1 f.Blocks]) fun p2 => Oa (Al ze35 [vi 0, vi 0, vi 0, vi 0]) fun p3 => Oq Va (KS ?_)
 refine Oq (Vfa fo41_1 1) (Oq (VldF sh39 1) ?_)
 refine JJ_ent (Ent.pall [] rfl rfl) ?_
 refine letv (validate_duplicate_Block f.Blocks (fun x0 => validate_function_1 x0)) fun rv5 hg6 => ?_
 have hc7 := fn39 f.Blocks fa1 fk1 40 [] (fun x0 => validate_function_1 x0) [] ca40 (fun x0 a0 k0 hq0 => FT_pall (A1 := _) (fn40 x0 a0 k0  hq0 _ rfl)) rv5 hg6
 refine Oc [3, 0] ca39 hc7 ?_
 rintro c4 he8
 unfold i64ok at he8
 refine Jom 0 ?_; rintro b9 rfl
 refine Oq Vm (Oq Vx (Oq Vx (Oq Va (Oq Va (KS ?_)))))
 refine Oq Vm (Oq Vgeq (KS ?_))
 refine Kc ?_ ?_
 · intro h10
   have g11 := of_decide_eq_true h10
   refine KS ?_
   refine Oq Vm (Oq Vm (Oq (Vbd st35 [vi 3, vi i, vi rv5.1, vi (-1)]) (Ost (Scl [2] sh35 [vi 3, vi i, vi rv5.1, vi (-1)]) (Oq Va (KS ?_)))))
   have hq := q4 hrr ((GNode.mk 3 i rv5.1 (-1)), 6) (by simp only [validate_function, h10, hg6, cs4]); subst hq
   exact Kr () rfl (.cellN 0 rfl sh35 rfl (reads_Cl _ _) rfl (.tmp rfl .nil)) [5] en
 intro h10
 have g12 := of_decide_eq_false h10
 refine KS ?_
 refine Oq (Vfa fo41_1 3) (Oq (VldF sh39 3) (Oq (Vlen sl39) (Oq Vm (KS ?_))))
 refine Kl (γ := Nat × Int) (fun (r13, v30_14) => ⟨[(1, vi i), (2, funcsP), (6, p3), (9, (mv b9)), (28, vl fa1 fk1 f.Blocks), (29, vi (f.Blocks.length : Int)), (30, vi v30_14)], [Mp vstr vb okStr (mv b9) rv5.2, pAll [], Cl p3 [vi 0, vi 0, vi 0, vi 0], S fa1 fk1 f.Blocks, Mp vstr vb okStr funcsP funcs], validate_function_L0 f i funcs rv5.2 r13 v30_14 = validate_function_L0 f i funcs rv5.2 (((f.Blocks.length : Int) - 0).toNat) 0 ∧ r13 = ((f.Blocks.length : Int) - v30_14).toNat ∧ (0 : Int) ≤ v30_14 ∧ v30_14 ≤ (f.Blocks.length : Int) ∧ (-9223372036854775808 ≤ v30_14 ∧ v30_14 ≤ 9223372036854775807), r13⟩) (((f.Blocks.length : Int) - 0).toNat, 0) [0, 0, 1, 2, 3] ⟨rfl, rfl, (by omega), (by omega), (by omega)⟩ ?_
 rintro ⟨r13, v30_14⟩ ⟨hM15, hr16, hi17, hi18, hk19⟩
 refine JJ_nx fun _ _ hL hA => ?_; dsimp only at hL hA; subst hL hA
 refine Fb 40 3 fun hl20 => ?_
 refine KS ?_
 refine Oq Vlss (KS ?_)
 refine Kc ?_ ?_
 · intro h21
   have g22 := of_decide_eq_true h21
   obtain ⟨r23, rfl⟩ := scc (n := r13) (by omega)
   refine KS ?_
   refine Oq Vm (Oq (Vi sl39 3) ?_)
   refine JJ_peek_GBlock v30_14.toNat 3 rfl rng fun a24 k25 hb26 => ?_
   refine Fb 72 1 fun hl27 => ?_
   refine Oq (VldA sh44 0) (Oa (Al ze44 [.string (bs (Str.mk [])), .slice none 0 0]) fun p28 => Oq Va (Ost (Scl [0] sh44 [.string (bs ((f.Blocks.getD v30_14.toNat default).Name)), vl a24 k25 ((f.Blocks.getD v30_14.toNat default).Stmts)]) (KS ?_)))
   refine Oq (Vfa fo44_1 0) (Oq (VldF sh42 0) (Oq (Vlen sl42) (Oq Vm (KS ?_))))
   refine Kl (γ := Nat × Int) (fun (r29, v38_30) => ⟨[(1, vi i), (2, funcsP), (6, p3), (9, (mv b9)), (28, vl fa1 fk1 f.Blocks), (29, vi (f.Blocks.length : Int)), (30, vi v30_14), (11, p28), (10, vi v30_14), (36, vl a24 k25 ((f.Blocks.getD v30_14.toNat default).Stmts)), (37, vi (((f.Blocks.getD v30_14.toNat default).Stmts).length : Int)), (38, vi v38_30)], [Cl p28 [.string (bs ((f.Blocks.getD v30_14.toNat default).Name)), vl a24 k25 ((f.Blocks.getD v30_14.toNat default).Stmts)], S a24 k25 ((f.Blocks.getD v30_14.toNat default).Stmts), Mp vstr vb okStr (mv b9) rv5.2, pAll [], Cl p3 [vi 0, vi 0, vi 0, vi 0], S fa1 fk1 f.Blocks, Mp vstr vb okStr funcsP funcs], validate_function_L1 i funcs rv5.2 v30_14 ((f.Blocks.getD v30_14.toNat default).Stmts) ((f.Blocks.getD v30_14.toNat default).Stmts) r29 v38_30 = validate_function_L1 i funcs rv5.2 v30_14 ((f.Blocks.getD v30_14.toNat default).Stmts) ((f.Blocks.getD v30_14.toNat default).Stmts) ((((((f.Blocks.getD v30_14.toNat default).Stmts).length : Int) : Int) - 0).toNat) 0 ∧ r29 = (((((f.Blocks.getD v30_14.toNat default).Stmts).length : Int) : Int) - v38_30).toNat ∧ (0 : Int) ≤ v38_30 ∧ (v38_30 ≤ (((f.Blocks.getD v30_14.toNat default).Stmts).length : Int) ∨ v38_30 = 0) ∧ (-9223372036854775808 ≤ v38_30 ∧ v38_30 ≤ 9223372036854775807), r29⟩) ((((((f.Blocks.getD v30_14.toNat default).Stmts).length : Int) : Int) - 0).toNat, 0) [0, 1, 2, 2, 3, 3, 4] ⟨rfl, rfl, (by omega), (.inr rfl), (by omega)⟩ ?_
   rintro ⟨r29, v38_30⟩ ⟨hM31, hr32, hi33, hi34, hk35⟩
   refine JJ_nx fun _ _ hL hA => ?_; dsimp only at hL hA; subst hL hA
   refine Fb 72 1 fun hl36 => ?_
   refine Fb 40 5 fun hl37 => ?_
   refine KS ?_
   refine Oq Vlss (KS ?_)
   refine Kc ?_ ?_
   · intro h38
     have g39 := of_decide_eq_true h38
     obtain ⟨r40, rfl⟩ := scc (n := r29) (by omega)
     refine KS ?_
     refine Oq Vm (Oq (Vi sl42 1) ?_)
     refine JJ_peek_GStmt v38_30.toNat 1 rfl rng fun a41 k42 a43 k44 hb45 hb46 => ?_
     unfold i64ok at hb45
     refine Fb 16 1 fun hl47 => ?_
     refine FoS 1 fun ho48 => ?_
     refine Fb 16 2 fun hl49 => ?_
     refine FoS 2 fun ho50 => ?_
     refine Oq (VldA sh47 0) (Oa (Al ze47 [vi 0, .string (bs (Str.mk [])), .slice none 0 0, .slice none 0 0]) fun p51 => Oq Va (Ost (Scl [0] sh47 [vi ((((f.Blocks.getD v30_14.toNat default).Stmts).getD v38_30.toNat default).Op), .string (bs ((((f.Blocks.getD v30_14.toNat default).Stmts).getD v38_30.toNat default).Def)), .slice a41 (((((f.Blocks.getD v30_14.toNat default).Stmts).getD v38_30.toNat default).Uses).length) k42, .slice a43 (((((f.Blocks.getD v30_14.toNat default).Stmts).getD v38_30.toNat default).Targets).length) k44]) (KS ?_)))
     refine Oq Vm (Oq Va (KS ?_))
     refine Oq (Vfa fo47_0 0) (Oq (VldF sh3 0) (Oq Veql (KS ?_)))
     refine Kc ?_ ?_
     · intro h52
       have g53 := eq_of_beq h52
       refine KS ?_
       refine Oq Vm (Oq Va (KS ?_))
       refine Oq (VldA sh47 0) (Oq Vm (Oq (Vfa fo44_1 4) (Oq (VldF sh42 4) (Oq (Vlen sl42) (Oq Vsub (Oq Veql (Oq Vm ?_)))))))
       refine letv (validate_statement (((f.Blocks.getD v30_14.toNat default).Stmts).getD v38_30.toNat default) (v38_30 == ((((f.Blocks.getD v30_14.toNat default).Stmts).length : Int) - 1)) funcs) fun rv54 hg55 => ?_
       have hc56 := fn41 ((((f.Blocks.getD v30_14.toNat default).Stmts).getD v38_30.toNat default)) a41 k42 a43 k44 ((v38_30 == ((((f.Blocks.getD v30_14.toNat default).Stmts).length : Int) - 1))) funcsP funcs pre pre rv54 hg55
       refine Oc [2, 3, 10] ca41 hc56 ?_
       rintro - he57
       unfold i64ok at he57
       refine Oq Va (KS ?_)
       refine Oq Vm (Oq Vneq (KS ?_))
       refine Kc ?_ ?_
       · intro h58
         have g59 := ne_of_bne h58
         refine KS ?_
         refine Oq Vm (Oq Vm (Oq Vm (Oq (Vbd st35 [vi 3, vi i, vi v30_14, vi v38_30]) (Oq Vm (Ost (Scl [9] sh35 [vi 3, vi i, vi v30_14, vi v38_30]) (Oq Va (KS ?_)))))))
         have hR60 := q2 hM31 (.ret ((GNode.mk 3 i v30_14 v38_30), rv54)) (by simp only [validate_function_L1, h10, h21, h38, h52, h58, hg6, hg55, cs4])
         have hR61 := q2 hM15 (.ret ((GNode.mk 3 i v30_14 v38_30), rv54)) (by simp only [validate_function_L0, h10, h21, h38, h52, h58, hg6, hg55, hR60, cs4])
         have hq := q4 hrr ((GNode.mk 3 i v30_14 v38_30), rv54) (by simp only [validate_function, h10, h21, h38, h52, h58, hg6, hg55, hR60, hR61, cs4]); subst hq
         exact Kr () rfl (.cellN 0 rfl sh35 rfl (reads_Cl _ _) rfl (.tmp rfl .nil)) [1] en
       intro h58
       have g62 := eq_of_bne_false h58
       refine KS ?_
       refine Oq Vadd (Oq Vm (KS ?_))
       exact Kg (r40, (v38_30 + 1)) [5, 5, 6, 6, 7, 7, 0] ⟨(q3 hM31 (by simp only [validate_function_L1, h10, h21, h38, h52, h58, hg6, hg55, cs4])), (by omega), (by omega), (by omega), (by omega)⟩
     intro h52
     have g63 := ne_of_beq_false h52
     refine KS ?_
     refine Oq (VldA sh47 0) (Oq Vm (Oq (Vfa fo44_1 4) (Oq (VldF sh42 4) (Oq (Vlen sl42) (Oq Vsub (Oq Veql (Oq Vm ?_)))))))
     refine letv (validate_statement (((f.Blocks.getD v30_14.toNat default).Stmts).getD v38_30.toNat default) (v38_30 == ((((f.Blocks.getD v30_14.toNat default).Stmts).length : Int) - 1)) rv5.2) fun rv64 hg65 => ?_
     have hc66 := fn41 ((((f.Blocks.getD v30_14.toNat default).Stmts).getD v38_30.toNat default)) a41 k42 a43 k44 ((v38_30 == ((((f.Blocks.getD v30_14.toNat default).Stmts).length : Int) - 1))) (mv b9) rv5.2 pre pre rv64 hg65
     refine Oc [2, 3, 6] ca41 hc66 ?_
     rintro - he67
     unfold i64ok at he67
     refine Oq Va (KS ?_)
     refine Oq Vm (Oq Vneq (KS ?_))
     refine Kc ?_ ?_
     · intro h68
       have g69 := ne_of_bne h68
       refine KS ?_
       refine Oq Vm (Oq Vm (Oq Vm (Oq (Vbd st35 [vi 3, vi i, vi v30_14, vi v38_30]) (Oq Vm (Ost (Scl [8] sh35 [vi 3, vi i, vi v30_14, vi v38_30]) (Oq Va (KS ?_)))))))
       have hR70 := q2 hM31 (.ret ((GNode.mk 3 i v30_14 v38_30), rv64)) (by simp only [validate_function_L1, h10, h21, h38, h52, h68, hg6, hg65, cs4])
       have hR71 := q2 hM15 (.ret ((GNode.mk 3 i v30_14 v38_30), rv64)) (by simp only [validate_function_L0, h10, h21, h38, h52, h68, hg6, hg65, hR70, cs4])
       have hq := q4 hrr ((GNode.mk 3 i v30_14 v38_30), rv64) (by simp only [validate_function, h10, h21, h38, h52, h68, hg6, hg65, hR70, hR71, cs4]); subst hq
       exact Kr () rfl (.cellN 0 rfl sh35 rfl (reads_Cl _ _) rfl (.tmp rfl .nil)) [10] en
     intro h68
     have g72 := eq_of_bne_false h68
     refine KS ?_
     refine Oq Vadd (Oq Vm (KS ?_))
     exact Kg (r40, (v38_30 + 1)) [5, 5, 0, 5, 6, 6, 7] ⟨(q3 hM31 (by simp only [validate_function_L1, h10, h21, h38, h52, h68, hg6, hg65, cs4])), (by omega), (by omega), (by omega), (by omega)⟩
   intro h38
   have g73 := of_decide_eq_false h38
   obtain rfl : r29 = 0 := by omega
   refine Ke ?_
   have hR74 := q2 hM31 (.brk ()) (by simp only [validate_function_L1, h10, h21, h38, hg6, cs4])
   refine KS ?_
   refine Oq Vadd (Oq Vm (KS ?_))
   exact Kg (r23, (v30_14 + 1)) [2, 2, 3, 3, 4] ⟨(q3 hM15 (by simp only [validate_function_L0, h10, h21, h38, hg6, hR74, cs4])), (by omega), (by omega), (by omega), (by omega)⟩
 intro h21
 have g75 := of_decide_eq_false h21
 obtain rfl : r13 = 0 := by omega
 refine Ke ?_
 have hR76 := q2 hM15 (.brk ()) (by simp only [validate_function_L0, h10, h21, hg6, cs4])
 refine KS ?_
 refine Oq (Vbd st35 [vi 0, vi 0, vi 0, vi 0]) (Ost (Scl [2] sh35 [vi 0, vi 0, vi 0, vi 0]) (Oq Va (KS ?_)))
 have hq := q4 hrr ((GNode.mk 0 0 0 0), 0) (by simp only [validate_function, h10, h21, hg6, hR76, cs4]); subst hq
 exact Kr () rfl (.cellN 0 rfl sh35 rfl (reads_Cl _ _) rfl (.tmp rfl .nil)) [4] en
theorem fn43 (s : GStmt) (sa2 : Option Addr) (sk2 : Nat) (sa3 : Option Addr) (sk3 : Nat) (cap0P : Value) (cap0 : Int) (cap1P : Value) (cap1 : Int) (hs_0 : i64ok s.Op) (hs_1 : s.Def.b.length ≤ 140737488355328) (hcap0_0 : i64ok cap0) (hcap1_0 : i64ok cap1) (hn : 0 ≤ cap0 ∧ cap0 ≤ 100000 ∧ 0 ≤ cap1 ∧ cap1 ≤ 100000) (rr : Int × Int) (hrr : validate_Sizes_1 s cap0 cap1 = rr) : FT Tryd.prog 43 #[.agg #[vi s.Op, .string (bs s.Def), vl sa2 sk2 s.Uses, vl sa3 sk3 s.Targets], cap0P, cap1P] [S sa2 sk2 s.Uses, S sa3 sk3 s.Targets, Cl cap0P [vi cap0], Cl cap1P [vi cap1]] (fun g : Unit => i64ok rr.1 ∧ i64ok rr.2 ∧ (cap0 ≤ rr.1 ∧ rr.1 ≤ cap0 + 2 ∧ cap1 ≤ rr.2 ∧ rr.2 ≤ cap1 + 3)) (fun g => .tuple #[]) (fun g => [Cl cap0P [vi rr.1], Cl cap1P [vi rr.2]]) := by
 refine FTi Tryd.func43 fun w0 M0 F0 => ?_
 unfold i64ok at hs_0 hcap0_0 hcap1_0
 refine Fb 16 0 fun hl1 => ?_
 refine FoS 0 fun ho2 => ?_
 refine Fb 16 1 fun hl3 => ?_
 refine FoS 1 fun ho4 => ?_
 refine KS ?_
 refine Oa (Ab [vi s.Op, .string (bs s.Def), vl sa2 sk2 s.Uses, vl sa3 sk3 s.Targets]) fun p5 => KS ?_
 refine Oq (Vld sh3 3) (Oq Vadd (Ost (Scl [3] sh3 [vi (cap0 + 1)]) (KS ?_)))
 refine Oq (Vfa fo47_0 1) (Oq (VldF sh3 1) (KS ?_))
 refine Oq Veql (Oq Va (KS ?_))
 refine Kc ?_ ?_
 · intro h6
   have g7 := eq_of_beq h6
   refine KS ?_
   refine Oq (Vld sh3 0) (Oq Vadd (Ost (Scl [0] sh3 [vi ((cap0 + 1) + 1)]) (KS ?_)))
   refine Oq (Vld sh3 4) (Oq Vadd (Ost (Scl [4] sh3 [vi (cap1 + 3)]) (KS ?_)))
   have hq := q4 hrr (((cap0 + 1) + 1), (cap1 + 3)) (by simp only [validate_Sizes_1, h6, cs4]); subst hq
   exact Kz () rfl .nil [1, 0] en
 intro h6
 have g8 := ne_of_beq_false h6
 refine KS ?_
 refine Oq Veql (Oq Va (KS ?_))
 refine Kc ?_ ?_
 · intro h9
   have g10 := eq_of_beq h9
   refine KS ?_
   refine Oq (Vld sh3 4) (Oq Vadd (Ost (Scl [4] sh3 [vi (cap1 + 2)]) (KS ?_)))
   have hq := q4 hrr ((cap0 + 1), (cap1 + 2)) (by simp only [validate_Sizes_1, h6, h9, cs4]); subst hq
   exact Kz () rfl .nil [1, 0] en
 intro h9
 have g11 := ne_of_beq_false h9
 refine KS ?_
 refine Oq (Vld sh3 4) (Oq Vadd (Ost (Scl [4] sh3 [vi (cap1 + 1)]) (KS ?_)))
 have hq := q4 hrr ((cap0 + 1), (cap1 + 1)) (by simp only [validate_Sizes_1, h6, h9, cs4]); subst hq
 exact Kz () rfl .nil [1, 0] en
theorem fn42m0 (p : GProgram) (pa0 : Option Addr) (pk0 : Nat) (st0P : Value) (st0 : Int) (st1P : Value) (st1 : Int) (kwLA : Option Addr) (kwLK : Nat) (hst0_0 : i64ok st0) (hst1_0 : i64ok st1) (hps : PSm p = true) (hn : 0 ≤ st0 ∧ st0 ≤ 100 ∧ 0 ≤ st1 ∧ st1 ≤ 100) (rr : Int × Int) (hrr : validate_each_Sizes_1 p st0 st1 = rr) : FT Tryd.prog 42 #[.agg #[vl pa0 pk0 p.Funcs], .func (.func 43) #[] #[st0P, st1P]] [S pa0 pk0 p.Funcs, Cl st0P [vi st0], Cl st1P [vi st1], pv (gp 0) [vl kwLA kwLK kwL], S kwLA kwLK kwL] (fun g : Unit => i64ok rr.1 ∧ i64ok rr.2 ∧ (0 ≤ rr.1 ∧ rr.1 ≤ 10000 ∧ 0 ≤ rr.2 ∧ rr.2 ≤ 20000)) (fun g => .tuple #[]) (fun g => [Cl st0P [vi rr.1], Cl st1P [vi rr.2]]) := by
 refine FTi Tryd.func42 fun w0 M0 F0 => ?_
 unfold i64ok at hst0_0 hst1_0
 refine Fb 40 0 fun hl1 => ?_
 refine Fb 16 4 fun hl2 => ?_
 refine FoS 4 fun ho3 => ?_
 refine KS ?_
 refine Oa (Ab [vl pa0 pk0 p.Funcs]) fun p4 => KS ?_
 refine Oq (VldA sh25 0) ?_
 refine letv (syntax_Valid p) fun rv5 hg6 => ?_
 have hc7 := fn25 p pa0 pk0 kwLA kwLK pre rv5 hg6
 refine Oc [1, 4, 5] ca25 hc7 ?_
 rintro - -
 refine Oq Vnot (KS ?_)
 refine Kc ?_ ?_
 · intro h8
   have h10 := not_true h8
   have hq := q4 hrr (st0, st1) (by simp only [validate_each_Sizes_1, h8, h10, hg6, cs4]); subst hq
   exact Kr () rfl .nil [2, 2] en
 intro h8
 have h13 := not_false h8
 try have hVb := SVal_b (p := p) (by simp only [h8, h13, hg6])
 refine KS ?_
 refine Oq (Vfa fo25_0 0) (Oq (VldF sh23 0) (Oq (Vlen sl23) (Oq Vm (KS ?_))))
 refine Kl (γ := Nat × Int × Int × Int) (fun (r15, st00_16, st10_17, v16_18) => ⟨[(1, .func (.func 43) #[] #[st0P, st1P]), (14, vl pa0 pk0 p.Funcs), (15, vi (p.Funcs.length : Int)), (16, vi v16_18)], [S pa0 pk0 p.Funcs, Cl st0P [vi st00_16], Cl st1P [vi st10_17], pv (gp 0) [vl kwLA kwLK kwL], S kwLA kwLK kwL], validate_each_Sizes_1_L0 p r15 st00_16 st10_17 v16_18 = validate_each_Sizes_1_L0 p (((p.Funcs.length : Int) - 0).toNat) st0 st1 0 ∧ r15 = ((p.Funcs.length : Int) - v16_18).toNat ∧ (0 : Int) ≤ v16_18 ∧ v16_18 ≤ (p.Funcs.length : Int) ∧ (-9223372036854775808 ≤ st00_16 ∧ st00_16 ≤ 9223372036854775807) ∧ (-9223372036854775808 ≤ st10_17 ∧ st10_17 ≤ 9223372036854775807) ∧ (-9223372036854775808 ≤ v16_18 ∧ v16_18 ≤ 9223372036854775807) ∧ (0 ≤ st00_16 ∧ st00_16 ≤ 100 + 1100 * v16_18) ∧ (0 ≤ st10_17 ∧ st10_17 ≤ 100 + 1600 * v16_18), r15⟩) (((p.Funcs.length : Int) - 0).toNat, st0, st1, 0) [1, 2, 2, 2, 3] ⟨rfl, rfl, (by omega), (by omega), (by omega), (by omega), (by omega), iv0, iv0⟩ ?_
 rintro ⟨r15, st00_16, st10_17, v16_18⟩ ⟨hM19, hr20, hi21, hi22, hk23, hk24, hk25, hv26, hv27⟩
 refine JJ_nx fun _ _ hL hA => ?_; dsimp only at hL hA; subst hL hA
 refine Fb 40 0 fun hl28 => ?_
 refine Fb 16 4 fun hl29 => ?_
 refine FoS 4 fun ho30 => ?_
 refine KS ?_
 refine Oq Vlss (KS ?_)
 refine Kc ?_ ?_
 · intro h31
   have g32 := of_decide_eq_true h31
   have hVf := hVb.2 v16_18.toNat
   obtain ⟨r33, rfl⟩ := scc (n := r15) (by omega)
   refine KS ?_
   refine Oq (Vi sl23 0) ?_
   refine JJ_peek_GFunc v16_18.toNat 0 rfl rng fun a34 k35 hb36 => ?_
   refine Fb 40 1 fun hl37 => ?_
   refine Oq (VldA sh41 0) (Oa (Al ze41 [.string (bs (Str.mk [])), .slice none 0 0]) fun p38 => Ost (Scl [0] sh41 [.string (bs ((p.Funcs.getD v16_18.toNat default).Name)), vl a34 k35 ((p.Funcs.getD v16_18.toNat default).Blocks)]) (KS ?_))
   refine Oq (Vfa fo41_1 0) (Oq (VldF sh39 0) (Oq (Vlen sl39) (Oq Vm (KS ?_))))
   refine Kl (γ := Nat × Int × Int × Int) (fun (r39, st00_40, st10_41, v23_42) => ⟨[(1, .func (.func 43) #[] #[st0P, st1P]), (14, vl pa0 pk0 p.Funcs), (15, vi (p.Funcs.length : Int)), (16, vi v16_18), (21, vl a34 k35 ((p.Funcs.getD v16_18.toNat default).Blocks)), (22, vi (((p.Funcs.getD v16_18.toNat default).Blocks).length : Int)), (23, vi v23_42)], [S a34 k35 ((p.Funcs.getD v16_18.toNat default).Blocks), S pa0 pk0 p.Funcs, Cl st0P [vi st00_40], Cl st1P [vi st10_41], pv (gp 0) [vl kwLA kwLK kwL], S kwLA kwLK kwL], validate_each_Sizes_1_L1 ((p.Funcs.getD v16_18.toNat default).Blocks) r39 st00_40 st10_41 v23_42 = validate_each_Sizes_1_L1 ((p.Funcs.getD v16_18.toNat default).Blocks) ((((((p.Funcs.getD v16_18.toNat default).Blocks).length : Int) : Int) - 0).toNat) st00_16 st10_17 0 ∧ r39 = (((((p.Funcs.getD v16_18.toNat default).Blocks).length : Int) : Int) - v23_42).toNat ∧ (0 : Int) ≤ v23_42 ∧ (v23_42 ≤ (((p.Funcs.getD v16_18.toNat default).Blocks).length : Int) ∨ v23_42 = 0) ∧ (-9223372036854775808 ≤ st00_40 ∧ st00_40 ≤ 9223372036854775807) ∧ (-9223372036854775808 ≤ st10_41 ∧ st10_41 ≤ 9223372036854775807) ∧ (-9223372036854775808 ≤ v23_42 ∧ v23_42 ≤ 9223372036854775807) ∧ (0 ≤ st00_40 ∧ st00_40 ≤ st00_16 + 66 * v23_42) ∧ (0 ≤ st10_41 ∧ st10_41 ≤ st10_17 + 98 * v23_42), r39⟩) ((((((p.Funcs.getD v16_18.toNat default).Blocks).length : Int) : Int) - 0).toNat, st00_16, st10_17, 0) [2, 3, 4, 4, 4, 5] ⟨rfl, rfl, (by omega), (.inr rfl), (by omega), (by omega), (by omega), iv0, iv0⟩ ?_
   rintro ⟨r39, st00_40, st10_41, v23_42⟩ ⟨hM43, hr44, hi45, hi46, hk47, hk48, hk49, hv50, hv51⟩
   refine JJ_nx fun _ _ hL hA => ?_; dsimp only at hL hA; subst hL hA
   refine Fb 40 0 fun hl52 => ?_
   refine Fb 40 1 fun hl53 => ?_
   refine Fb 16 5 fun hl54 => ?_
   refine FoS 5 fun ho55 => ?_
   refine KS ?_
   refine Oq Vlss (KS ?_)
   refine Kc ?_ ?_
   · intro h56
     have g57 := of_decide_eq_true h56
     have hVk := hVf.2 v23_42.toNat
     obtain ⟨r58, rfl⟩ := scc (n := r39) (by omega)
     refine KS ?_
     refine Oq (Vi sl39 0) ?_
     refine JJ_peek_GBlock v23_42.toNat 0 rfl rng fun a59 k60 hb61 => ?_
     refine Fb 72 1 fun hl62 => ?_
     refine Oq (VldA sh44 0) (Oa (Al ze44 [.string (bs (Str.mk [])), .slice none 0 0]) fun p63 => Ost (Scl [0] sh44 [.string (bs ((((p.Funcs.getD v16_18.toNat default).Blocks).getD v23_42.toNat default).Name)), .slice a59 (((((p.Funcs.getD v16_18.toNat default).Blocks).getD v23_42.toNat default).Stmts).length) k60]) (KS ?_))
     refine Oq (Vfa fo44_1 0) (Oq (VldF sh42 0) (Oq (Vlen sl42) (Oq Vm (KS ?_))))
     refine Kl (γ := Nat × Int × Int × Int) (fun (r64, st00_65, st10_66, v30_67) => ⟨[(1, .func (.func 43) #[] #[st0P, st1P]), (14, vl pa0 pk0 p.Funcs), (15, vi (p.Funcs.length : Int)), (16, vi v16_18), (21, vl a34 k35 ((p.Funcs.getD v16_18.toNat default).Blocks)), (22, vi (((p.Funcs.getD v16_18.toNat default).Blocks).length : Int)), (23, vi v23_42), (28, .slice a59 (((((p.Funcs.getD v16_18.toNat default).Blocks).getD v23_42.toNat default).Stmts).length) k60), (29, vi (((((p.Funcs.getD v16_18.toNat default).Blocks).getD v23_42.toNat default).Stmts).length : Int)), (30, vi v30_67)], [S a59 k60 ((((p.Funcs.getD v16_18.toNat default).Blocks).getD v23_42.toNat default).Stmts), S a34 k35 ((p.Funcs.getD v16_18.toNat default).Blocks), S pa0 pk0 p.Funcs, Cl st0P [vi st00_65], Cl st1P [vi st10_66], pv (gp 0) [vl kwLA kwLK kwL], S kwLA kwLK kwL], validate_each_Sizes_1_L2 ((((p.Funcs.getD v16_18.toNat default).Blocks).getD v23_42.toNat default).Stmts) r64 st00_65 st10_66 v30_67 = validate_each_Sizes_1_L2 ((((p.Funcs.getD v16_18.toNat default).Blocks).getD v23_42.toNat default).Stmts) ((((((((p.Funcs.getD v16_18.toNat default).Blocks).getD v23_42.toNat default).Stmts).length : Int) : Int) - 0).toNat) st00_40 st10_41 0 ∧ r64 = (((((((p.Funcs.getD v16_18.toNat default).Blocks).getD v23_42.toNat default).Stmts).length : Int) : Int) - v30_67).toNat ∧ (0 : Int) ≤ v30_67 ∧ (v30_67 ≤ (((((p.Funcs.getD v16_18.toNat default).Blocks).getD v23_42.toNat default).Stmts).length : Int) ∨ v30_67 = 0) ∧ (-9223372036854775808 ≤ st00_65 ∧ st00_65 ≤ 9223372036854775807) ∧ (-9223372036854775808 ≤ st10_66 ∧ st10_66 ≤ 9223372036854775807) ∧ (-9223372036854775808 ≤ v30_67 ∧ v30_67 ≤ 9223372036854775807) ∧ (0 ≤ st00_65 ∧ st00_65 ≤ st00_40 + 2 * v30_67) ∧ (0 ≤ st10_66 ∧ st10_66 ≤ st10_41 + 3 * v30_67), r64⟩) ((((((((p.Funcs.getD v16_18.toNat default).Blocks).getD v23_42.toNat default).Stmts).length : Int) : Int) - 0).toNat, st00_40, st10_41, 0) [2, 3, 4, 5, 5, 5, 6] ⟨rfl, rfl, (by omega), (.inr rfl), (by omega), (by omega), (by omega), iv0, iv0⟩ ?_
     rintro ⟨r64, st00_65, st10_66, v30_67⟩ ⟨hM68, hr69, hi70, hi71, hk72, hk73, hk74, hv75, hv76⟩
     refine JJ_nx fun _ _ hL hA => ?_; dsimp only at hL hA; subst hL hA
     refine Fb 72 0 fun hl77 => ?_
     refine Fb 40 1 fun hl78 => ?_
     refine Fb 40 2 fun hl79 => ?_
     refine Fb 16 6 fun hl80 => ?_
     refine FoS 6 fun ho81 => ?_
     refine KS ?_
     refine Oq Vlss (KS ?_)
     refine Kc ?_ ?_
     · intro h82
       have g83 := of_decide_eq_true h82
       have hVs := hVk.2 v30_67.toNat
       obtain ⟨r84, rfl⟩ := scc (n := r64) (by omega)
       refine KS ?_
       refine Oq (Vi sl42 0) ?_
       refine JJ_peek_GStmt v30_67.toNat 0 rfl rng fun a85 k86 a87 k88 hb89 hb90 => ?_
       unfold i64ok at hb89
       refine Fb 16 1 fun hl91 => ?_
       refine FoS 1 fun ho92 => ?_
       refine Fb 16 2 fun hl93 => ?_
       refine FoS 2 fun ho94 => ?_
       refine Oq (VldA sh47 0) (Oa (Al ze47 [vi 0, .string (bs (Str.mk [])), .slice none 0 0, .slice none 0 0]) fun p95 => Ost (Scl [0] sh47 [vi ((((((p.Funcs.getD v16_18.toNat default).Blocks).getD v23_42.toNat default).Stmts).getD v30_67.toNat default).Op), .string (bs ((((((p.Funcs.getD v16_18.toNat default).Blocks).getD v23_42.toNat default).Stmts).getD v30_67.toNat default).Def)), .slice a85 (((((((p.Funcs.getD v16_18.toNat default).Blocks).getD v23_42.toNat default).Stmts).getD v30_67.toNat default).Uses).length) k86, .slice a87 (((((((p.Funcs.getD v16_18.toNat default).Blocks).getD v23_42.toNat default).Stmts).getD v30_67.toNat default).Targets).length) k88]) (KS ?_))
       refine Oq Vm (Oq (VldA sh47 0) ?_)
       refine letv (validate_Sizes_1 (((((p.Funcs.getD v16_18.toNat default).Blocks).getD v23_42.toNat default).Stmts).getD v30_67.toNat default) st00_65 st10_66) fun rv96 hg97 => ?_
       have hc98 := fn43 ((((((p.Funcs.getD v16_18.toNat default).Blocks).getD v23_42.toNat default).Stmts).getD v30_67.toNat default)) a85 k86 a87 k88 st0P st00_65 st1P st10_66 pre pre pre pre pre rv96 hg97
       refine JO_call [2, 3, 7, 7] rfl rfl rfl (OpC.clo («as» := [(.agg #[vi ((((((p.Funcs.getD v16_18.toNat default).Blocks).getD v23_42.toNat default).Stmts).getD v30_67.toNat default).Op), .string (bs ((((((p.Funcs.getD v16_18.toNat default).Blocks).getD v23_42.toNat default).Stmts).getD v30_67.toNat default).Def)), .slice a85 (((((((p.Funcs.getD v16_18.toNat default).Blocks).getD v23_42.toNat default).Stmts).getD v30_67.toNat default).Uses).length) k86, .slice a87 (((((((p.Funcs.getD v16_18.toNat default).Blocks).getD v23_42.toNat default).Stmts).getD v30_67.toNat default).Targets).length) k88] : Value), (st0P : Value), (st1P : Value)]) rfl rfl ca43 rfl (by simp)) hc98 rfl ?_
       rintro - ⟨he99, he100, he101⟩
       unfold i64ok at he99 he100
       refine KS ?_
       refine Oq Vadd (Oq Vm (KS ?_))
       exact Kg (r84, rv96.1, rv96.2, (v30_67 + 1)) [6, 7, 8, 0, 0, 7, 8] ⟨(q3 hM68 (by simp only [validate_each_Sizes_1_L2, h8, h13, h31, h56, h82, hg6, hg97, cs4])), (by omega), (by omega), (by omega), (by omega), (by omega), (by omega), iv1, iv1⟩
     intro h82
     have g102 := of_decide_eq_false h82
     obtain rfl : r64 = 0 := by omega
     refine Ke ?_
     have hR103 := q2 hM68 (st00_65, st10_66) (by simp only [validate_each_Sizes_1_L2, h8, h13, h31, h56, h82, hg6, cs4])
     refine KS ?_
     refine Oq Vadd (Oq Vm (KS ?_))
     exact Kg (r58, st00_65, st10_66, (v23_42 + 1)) [1, 2, 3, 3, 3, 4] ⟨(q3 hM43 (by simp only [validate_each_Sizes_1_L1, h8, h13, h31, h56, h82, hg6, hR103, cs4])), (by omega), (by omega), (by omega), (by omega), (by omega), (by omega), iv1, iv1⟩
   intro h56
   have g104 := of_decide_eq_false h56
   obtain rfl : r39 = 0 := by omega
   refine Ke ?_
   have hR105 := q2 hM43 (st00_40, st10_41) (by simp only [validate_each_Sizes_1_L1, h8, h13, h31, h56, hg6, cs4])
   refine KS ?_
   refine Oq Vadd (Oq Vm (KS ?_))
   exact Kg (r33, st00_40, st10_41, (v16_18 + 1)) [1, 2, 2, 2, 3] ⟨(q3 hM19 (by simp only [validate_each_Sizes_1_L0, h8, h13, h31, h56, hg6, hR105, cs4])), (by omega), (by omega), (by omega), (by omega), (by omega), (by omega), iv1, iv1⟩
 intro h31
 have g106 := of_decide_eq_false h31
 obtain rfl : r15 = 0 := by omega
 refine Ke ?_
 have hR107 := q2 hM19 (st00_16, st10_17) (by simp only [validate_each_Sizes_1_L0, h8, h13, h31, hg6, cs4])
 have hq := q4 hrr (st00_16, st10_17) (by simp only [validate_each_Sizes_1, h8, h13, h31, hg6, hR107, cs4]); subst hq
 exact Kz () rfl .nil [1, 1] en
theorem fn29 (p : GProgram) (pa0 : Option Addr) (pk0 : Nat) (kwLA : Option Addr) (kwLK : Nat) (hps : PSm p = true) (rr : Int × Int) (hrr : validate_Sizes p = rr) : FT Tryd.prog 29 #[.agg #[vl pa0 pk0 p.Funcs]] [S pa0 pk0 p.Funcs, pv (gp 0) [vl kwLA kwLK kwL], S kwLA kwLK kwL] (fun g : Unit => i64ok rr.1 ∧ i64ok rr.2 ∧ (0 ≤ rr.1 ∧ rr.1 ≤ 10000 ∧ 0 ≤ rr.2 ∧ rr.2 ≤ 20000)) (fun g => .tuple #[vi rr.1, vi rr.2]) (fun g => []) := by
 refine FTi Tryd.func29 fun w0 M0 F0 => ?_
 refine Fb 40 0 fun hl1 => ?_
 refine Fb 16 2 fun hl2 => ?_
 refine FoS 2 fun ho3 => ?_
 refine KS ?_
 refine Oa (Ab [vl pa0 pk0 p.Funcs]) fun p4 => Oq Va (Oq Va (KS ?_))
 refine Oq (VldA sh25 0) ?_
 refine letv (syntax_Valid p) fun rv5 hg6 => ?_
 have hc7 := fn25 p pa0 pk0 kwLA kwLK pre rv5 hg6
 refine Oc [1, 2, 3] ca25 hc7 ?_
 rintro - -
 refine Oq Vnot (KS ?_)
 refine Kc ?_ ?_
 · intro h8
   have h10 := not_true h8
   refine KS ?_
   refine Oq Va (Oq Va (KS ?_))
   have hq := q4 hrr (0, 0) (by simp only [validate_Sizes, h8, h10, hg6, cs4]); subst hq
   exact Kr () rfl (.tmp rfl (.tmp rfl .nil)) [] en
 intro h8
 have h13 := not_false h8
 try have hVb := SVal_b (p := p) (by simp only [h8, h13, hg6])
 refine KS ?_
 refine JK_drawK [0, 1, 3, 7, 0, 16, 48, 0, 0, 399, 1023] fmix ?_
 refine Dv [0] (Vfa fo25_0 0) (Dv [0] (VldF sh23 0) (Dv [] (Vlen sl23) (Dv [] Vmul (Dv [0] (Vfa fo25_0 0) (Dv [0] (VldF sh23 0) (Dv [] (Vlen sl23) (Dx [] [] [0] (fun G => (G.g 7 0)) [fun G => Cl (G.g 7 0) [vi 0]] (fun G => xA (Al ze3 [vi 0])) (Dx [] [] [0] (fun G => (G.g 8 0)) [fun G => Cl (G.g 8 0) [vi 0]] (fun G => xA (Al ze3 [vi 0])) (Dx0 [4] [4] [0] [fun G => Cl (G.g 7 0) [vi (2 * (p.Funcs.length : Int))]] (fun G => xS (Scl [0] sh3 [vi (2 * (p.Funcs.length : Int))])) ?_)))))))))
 refine Dx0 [5] [5] [0] [fun G => Cl (G.g 8 0) [vi (p.Funcs.length : Int)]] (fun G => xS (Scl [0] sh3 [vi (p.Funcs.length : Int)])) ?_
 refine Dn ⟨by kernel_rfl, fun G => ?_⟩
 refine Jw2 [(1, p4), (4, (G.g 7 0)), (5, (G.g 8 0))] [0, 1, 2, 3] [Cl (G.g 7 0) [vi (2 * (p.Funcs.length : Int))], Cl (G.g 8 0) [vi (p.Funcs.length : Int)]] ?_
 generalize G.g 7 0 = p15, G.g 8 0 = p16
 refine KS ?_
 refine Oq (VldA sh25 0) (Oq (Vf [p15, p16]) ?_)
 refine letv (validate_each_Sizes_1 p (2 * (p.Funcs.length : Int)) (p.Funcs.length : Int)) fun rv17 hg18 => ?_
 have hc19 := fn42m0 p pa0 pk0 p15 (2 * (p.Funcs.length : Int)) p16 (p.Funcs.length : Int) kwLA kwLK pre pre pre pre rv17 hg18
 refine Oc [1, 4, 4, 2, 3] ca42 hc19 ?_
 rintro - ⟨he20, he21, he22⟩
 unfold i64ok at he20 he21
 refine KS ?_
 refine Kq [0, 0, 1, 7] fmix ?_
 refine Qv [0] (Vld sh3 0) (Qv [1] (Vld sh3 0) (Qv [] Va (Qv [] Va ?_)))
 refine Qn ⟨by kernel_rfl, ?_⟩
 have hq := q4 hrr (rv17.1, rv17.2) (by simp only [validate_Sizes, h8, h13, hg6, hg18, cs4]); subst hq
 exact Kr () rfl (.tmp rfl (.tmp rfl .nil)) [] en
theorem fn44 (n : Str) (cap0P : Value) (cap0 : List (Str × Bool)) (cap0m0 : Value) (cap1P : Value) (cap1 : List Str) (cap1a0 : Option Addr) (cap1k0 : Nat) (hn_0 : n.b.length ≤ 140737488355328) (ho : cap1.length ≤ 1000000) (rr : (List (Str × Bool)) × List Str) (hrr : validate_Variables_1 n cap0 cap1 = rr) : FT Tryd.prog 44 #[.string (bs n), cap0P, cap1P] [Cl cap0P [cap0m0], Mp vstr vb okStr cap0m0 cap0, Cl cap1P [vl cap1a0 cap1k0 cap1], O cap1a0 cap1k0 cap1] (fun g : Value => (rr.2.length ≤ cap1.length + 1)) (fun g => .tuple #[]) (fun g => [Cl cap0P [cap0m0], Mp vstr vb okStr cap0m0 rr.1, Cl cap1P [g], os g rr.2]) := by
 refine FTi Tryd.func44 fun w0 M0 F0 => ?_
 refine Fb 16 3 fun hl1 => ?_
 refine FoS 3 fun ho2 => ?_
 refine KS ?_
 refine Oq Vm (Oq (VneS (l := n) (m := (Str.mk []))) (Oq Vm ?_))
 refine Js 6 ?_ ?_
 · intro h3
   have g4 := ne_of_bne h3
   refine Oq (Vld sh64 0) (Oq Vm (Oq (Vmk1 1 false mt64 (kStr un9) ze4 (ek := vstr) (ev := vb) (ok := okStr) (key := n) pre) (Oq Vnot (Oq Vpt (KS ?_)))))
   refine Kc ?_ ?_
   · intro h5
     have h7 := not_true h5
     refine KS ?_
     refine Oq (Vld sh64 0) (Oq Vm (Ost (Smp [1] mt64 (kStr un9) true (ek := vstr) (ev := vb) (ok := okStr) (key := n) pre) (KS ?_)))
     refine Oq (Vld sh45 2) (Oq Vm (Oa (AsV sl45 sz45 [.string (bs n)] [.string (bs n)]) fun c9 => ?_))
     refine Jo 0 ?_; rintro a10 k11 rfl
     refine Jl [0] (Ent.cr1 (α := Str) (A := []) _ n _ (Nat.le_of_ble_eq_true rfl) (fun _ => ⟨rfl, by first | omega | (simp; done) | (dsimp only; omega) | exact lit_bl rfl⟩)) ?_
     refine Oa (ApO [4, 0] sl45 sl45 sz45) fun c12 => ?_
     refine Jo 0 ?_; rintro a13 k14 rfl
     refine Fb 16 0 fun hl15 => ?_
     refine FoS 0 fun ho16 => ?_
     have hn17 := la cap1 ([n] : List Str)
     refine Ost (Scl [3] sh45 [vl a13 k14 (cap1 ++ [n])]) (KS ?_)
     have hq := q4 hrr ((mset cap0 n true), (cap1 ++ [n])) (by simp only [validate_Variables_1, h3, h5, h7, cs4]); subst hq
     exact Kz (vl a13 k14 (cap1 ++ [n])) rfl .nil [3, 2, 0, 0] en
   intro h5
   have h19 := not_false h5
   refine KS ?_
   have hq := q4 hrr (cap0, cap1) (by simp only [validate_Variables_1, h3, h5, h19, cs4]); subst hq
   exact Kz (vl cap1a0 cap1k0 cap1) rfl .nil [0, 0, 0, 0] en
 intro h3
 have g21 := eq_of_bne_false h3
 refine Osk (Osk (Osk (Osk (Oq Vpf (KS ?_)))))
 refine Kf ?_
 refine KS ?_
 have hq := q4 hrr (cap0, cap1) (by simp only [validate_Variables_1, h3, cs4]); subst hq
 exact Kz (vl cap1a0 cap1k0 cap1) rfl .nil [0, 0, 0, 0] en
theorem fn45m0 (s : GStmt) (sa2 : Option Addr) (sk2 : Nat) (sa3 : Option Addr) (sk3 : Nat) (st0P : Value) (st0 : List (Str × Bool)) (st0m0 : Value) (st1P : Value) (st1 : List Str) (st1a0 : Option Addr) (st1k0 : Nat) (cap0P : Value) (hs_0 : i64ok s.Op) (hs_1 : s.Def.b.length ≤ 140737488355328) (ho : st1.length ≤ 900000 ∧ s.Uses.length ≤ 4) (rr : (List (Str × Bool)) × List Str) (hrr : validate_Variables_2_Variables_1 s st0 st1 = rr) : FT Tryd.prog 45 #[.agg #[vi s.Op, .string (bs s.Def), vl sa2 sk2 s.Uses, vl sa3 sk3 s.Targets], cap0P] [S sa2 sk2 s.Uses, S sa3 sk3 s.Targets, Cl st0P [st0m0], Mp vstr vb okStr st0m0 st0, Cl st1P [vl st1a0 st1k0 st1], O st1a0 st1k0 st1, pv cap0P [.func (.func 44) #[] #[st0P, st1P]]] (fun g : Value => (rr.2.length ≤ st1.length + 5)) (fun g => .tuple #[]) (fun g => [Cl st0P [st0m0], Mp vstr vb okStr st0m0 rr.1, Cl st1P [g], os g rr.2]) := by
 refine FTi Tryd.func45 fun w0 M0 F0 => ?_
 unfold i64ok at hs_0
 refine Fb 16 0 fun hl1 => ?_
 refine FoS 0 fun ho2 => ?_
 refine Fb 16 1 fun hl3 => ?_
 refine FoS 1 fun ho4 => ?_
 refine Fb 16 5 fun hl5 => ?_
 refine FoS 5 fun ho6 => ?_
 refine KS ?_
 refine Oa (Ab [vi s.Op, .string (bs s.Def), vl sa2 sk2 s.Uses, vl sa3 sk3 s.Targets]) fun p7 => KS ?_
 refine Oq (Vld sh81 7) (Oq (Vfa fo47_1 0) (Oq (VldF sh9 0) ?_))
 refine letv (validate_Variables_1 s.Def st0 st1) fun rv9 hg10 => ?_
 have hc11 := fn44 s.Def st0P st0 st0m0 st1P st1 st1a0 st1k0 pre pre rv9 hg10
 refine JO_call [3, 3, 3, 3] rfl rfl rfl (OpC.clo («as» := [(.string (bs s.Def) : Value), (st0P : Value), (st1P : Value)]) rfl rfl ca44 rfl (by simp)) hc11 rfl ?_
 rintro c8 he12
 refine Jo 3 ?_; rintro a13 k14 rfl
 refine Fb 16 3 fun hl15 => ?_
 refine FoS 3 fun ho16 => ?_
 refine KS ?_
 refine Oq (Vfa fo47_2 4) (Oq (VldF sh45 4) (Oq (Vlen sl45) (Oq Vm (KS ?_))))
 refine Kl (γ := Nat × (List (Str × Bool)) × List Str × Int × Option Addr × Nat) (fun (r17, st00_18, st10_19, v12_20, a21, k22) => ⟨[(1, cap0P), (10, vl sa2 sk2 s.Uses), (11, vi (s.Uses.length : Int)), (12, vi v12_20)], [O a21 k22 st10_19, Cl st0P [st0m0], Mp vstr vb okStr st0m0 st00_18, Cl st1P [vl a21 k22 st10_19], S sa2 sk2 s.Uses, pv cap0P [.func (.func 44) #[] #[st0P, st1P]]], validate_Variables_2_Variables_1_L0 s r17 st00_18 st10_19 v12_20 = validate_Variables_2_Variables_1_L0 s (((s.Uses.length : Int) - 0).toNat) rv9.1 rv9.2 0 ∧ r17 = ((s.Uses.length : Int) - v12_20).toNat ∧ (0 : Int) ≤ v12_20 ∧ v12_20 ≤ (s.Uses.length : Int) ∧ (-9223372036854775808 ≤ v12_20 ∧ v12_20 ≤ 9223372036854775807) ∧ ((st10_19.length : Int) ≤ (st1.length : Int) + 1 + v12_20), r17⟩) (((s.Uses.length : Int) - 0).toNat, rv9.1, rv9.2, 0, a13, k14) [3, 0, 0, 0, 1, 3] ⟨rfl, rfl, (by omega), (by omega), (by omega), iv0⟩ ?_
 rintro ⟨r17, st00_18, st10_19, v12_20, a21, k22⟩ ⟨hM23, hr24, hi25, hi26, hk27, hv28⟩
 refine JJ_nx fun _ _ hL hA => ?_; dsimp only at hL hA; subst hL hA
 refine Fb 16 0 fun hl29 => ?_
 refine FoS 0 fun ho30 => ?_
 refine Fb 16 4 fun hl31 => ?_
 refine FoS 4 fun ho32 => ?_
 refine KS ?_
 refine Oq Vlss (KS ?_)
 refine Kc ?_ ?_
 · intro h33
   have g34 := of_decide_eq_true h33
   obtain ⟨r35, rfl⟩ := scc (n := r17) (by omega)
   refine KS ?_
   refine Oq (Vi sl45 4) ?_
   have hb36 := okS (i := v12_20.toNat) ho32 rng
   refine Oq (VldS sh9 4) (Oq Va (KS ?_))
   refine Oq (Vld sh81 5) (Oq Vm ?_)
   refine letv (validate_Variables_1 (s.Uses.getD v12_20.toNat default) st00_18 st10_19) fun rv38 hg39 => ?_
   have hc40 := fn44 ((s.Uses.getD v12_20.toNat default)) st0P st00_18 st0m0 st1P st10_19 a21 k22 pre pre rv38 hg39
   refine JO_call [1, 1, 1, 0] rfl rfl rfl (OpC.clo («as» := [(.string (bs (s.Uses.getD v12_20.toNat default)) : Value), (st0P : Value), (st1P : Value)]) rfl rfl ca44 rfl (by simp)) hc40 rfl ?_
   rintro c37 he41
   refine Jo 3 ?_; rintro a42 k43 rfl
   refine Fb 16 3 fun hl44 => ?_
   refine FoS 3 fun ho45 => ?_
   refine KS ?_
   refine Oq Vadd (Oq Vm (KS ?_))
   exact Kg (r35, rv38.1, rv38.2, (v12_20 + 1), a42, k43) [3, 0, 0, 0, 0, 1] ⟨(q3 hM23 (by simp only [validate_Variables_2_Variables_1_L0, h33, hg10, hg39, cs4])), (by omega), (by omega), (by omega), (by omega), iv1⟩
 intro h33
 have g46 := of_decide_eq_false h33
 obtain rfl : r17 = 0 := by omega
 refine Ke ?_
 have hR47 := q2 hM23 (st00_18, st10_19) (by simp only [validate_Variables_2_Variables_1_L0, h33, hg10, cs4])
 have hq := q4 hrr (st00_18, st10_19) (by simp only [validate_Variables_2_Variables_1, h33, hg10, hR47, cs4]); subst hq
 exact Kz (vl a21 k22 st10_19) rfl .nil [1, 1, 1, 0] en
theorem fn42m1 (p : GProgram) (pa0 : Option Addr) (pk0 : Nat) (st1P : Value) (st1 : List (Str × Bool)) (st1m0 : Value) (st2P : Value) (st2 : List Str) (st2a0 : Option Addr) (st2k0 : Nat) (st0P : Value) (kwLA : Option Addr) (kwLK : Nat) (hps : PSm p = true) (ho : st2.length = 0) (rr : (List (Str × Bool)) × List Str) (hrr : validate_each_Variables_2 p st1 st2 = rr) : FT Tryd.prog 42 #[.agg #[vl pa0 pk0 p.Funcs], .func (.func 45) #[] #[st0P]] [S pa0 pk0 p.Funcs, Cl st1P [st1m0], Mp vstr vb okStr st1m0 st1, Cl st2P [vl st2a0 st2k0 st2], O st2a0 st2k0 st2, pv st0P [.func (.func 44) #[] #[st1P, st2P]], pv (gp 0) [vl kwLA kwLK kwL], S kwLA kwLK kwL] (fun g : Value => (rr.2.length ≤ 30000)) (fun g => .tuple #[]) (fun g => [Cl st1P [st1m0], Mp vstr vb okStr st1m0 rr.1, Cl st2P [g], os g rr.2]) := by
 refine FTi Tryd.func42 fun w0 M0 F0 => ?_
 refine Fb 40 0 fun hl1 => ?_
 refine Fb 16 4 fun hl2 => ?_
 refine FoS 4 fun ho3 => ?_
 refine Fb 16 7 fun hl4 => ?_
 refine FoS 7 fun ho5 => ?_
 refine KS ?_
 refine Oa (Ab [vl pa0 pk0 p.Funcs]) fun p6 => KS ?_
 refine Oq (VldA sh25 0) ?_
 refine letv (syntax_Valid p) fun rv7 hg8 => ?_
 have hc9 := fn25 p pa0 pk0 kwLA kwLK pre rv7 hg8
 refine Oc [1, 7, 8] ca25 hc9 ?_
 rintro - -
 refine Oq Vnot (KS ?_)
 refine Kc ?_ ?_
 · intro h10
   have h12 := not_true h10
   have hq := q4 hrr (st1, st2) (by simp only [validate_each_Variables_2, h10, h12, hg8, cs4]); subst hq
   exact Kr (vl st2a0 st2k0 st2) rfl .nil [2, 2, 2, 2] en
 intro h10
 have h15 := not_false h10
 try have hVb := SVal_b (p := p) (by simp only [h10, h15, hg8])
 refine KS ?_
 refine Oq (Vfa fo25_0 0) (Oq (VldF sh23 0) (Oq (Vlen sl23) (Oq Vm (KS ?_))))
 refine Kl (γ := Nat × (List (Str × Bool)) × List Str × Int × Option Addr × Nat) (fun (r17, st10_18, st20_19, v16_20, a21, k22) => ⟨[(1, .func (.func 45) #[] #[st0P]), (14, vl pa0 pk0 p.Funcs), (15, vi (p.Funcs.length : Int)), (16, vi v16_20)], [O a21 k22 st20_19, S pa0 pk0 p.Funcs, Cl st1P [st1m0], Mp vstr vb okStr st1m0 st10_18, Cl st2P [vl a21 k22 st20_19], pv st0P [.func (.func 44) #[] #[st1P, st2P]], pv (gp 0) [vl kwLA kwLK kwL], S kwLA kwLK kwL], validate_each_Variables_2_L0 p r17 st10_18 st20_19 v16_20 = validate_each_Variables_2_L0 p (((p.Funcs.length : Int) - 0).toNat) st1 st2 0 ∧ r17 = ((p.Funcs.length : Int) - v16_20).toNat ∧ (0 : Int) ≤ v16_20 ∧ v16_20 ≤ (p.Funcs.length : Int) ∧ (-9223372036854775808 ≤ v16_20 ∧ v16_20 ≤ 9223372036854775807) ∧ ((st20_19.length : Int) ≤ 3000 * v16_20), r17⟩) (((p.Funcs.length : Int) - 0).toNat, st1, st2, 0, st2a0, st2k0) [5, 1, 2, 2, 2, 2, 3, 4] ⟨rfl, rfl, (by omega), (by omega), (by omega), iv0⟩ ?_
 rintro ⟨r17, st10_18, st20_19, v16_20, a21, k22⟩ ⟨hM23, hr24, hi25, hi26, hk27, hv28⟩
 refine JJ_nx fun _ _ hL hA => ?_; dsimp only at hL hA; subst hL hA
 refine Fb 16 0 fun hl29 => ?_
 refine FoS 0 fun ho30 => ?_
 refine Fb 40 1 fun hl31 => ?_
 refine Fb 16 7 fun hl32 => ?_
 refine FoS 7 fun ho33 => ?_
 refine KS ?_
 refine Oq Vlss (KS ?_)
 refine Kc ?_ ?_
 · intro h34
   have g35 := of_decide_eq_true h34
   have hVf := hVb.2 v16_20.toNat
   obtain ⟨r36, rfl⟩ := scc (n := r17) (by omega)
   refine KS ?_
   refine Oq (Vi sl23 1) ?_
   refine JJ_peek_GFunc v16_20.toNat 1 rfl rng fun a37 k38 hb39 => ?_
   refine Fb 40 1 fun hl40 => ?_
   refine Oq (VldA sh41 0) (Oa (Al ze41 [.string (bs (Str.mk [])), .slice none 0 0]) fun p41 => Ost (Scl [0] sh41 [.string (bs ((p.Funcs.getD v16_20.toNat default).Name)), vl a37 k38 ((p.Funcs.getD v16_20.toNat default).Blocks)]) (KS ?_))
   refine Oq (Vfa fo41_1 0) (Oq (VldF sh39 0) (Oq (Vlen sl39) (Oq Vm (KS ?_))))
   refine Kl (γ := Nat × (List (Str × Bool)) × List Str × Int × Option Addr × Nat) (fun (r42, st10_43, st20_44, v23_45, a46, k47) => ⟨[(1, .func (.func 45) #[] #[st0P]), (14, vl pa0 pk0 p.Funcs), (15, vi (p.Funcs.length : Int)), (16, vi v16_20), (21, vl a37 k38 ((p.Funcs.getD v16_20.toNat default).Blocks)), (22, vi (((p.Funcs.getD v16_20.toNat default).Blocks).length : Int)), (23, vi v23_45)], [O a46 k47 st20_44, S a37 k38 ((p.Funcs.getD v16_20.toNat default).Blocks), S pa0 pk0 p.Funcs, Cl st1P [st1m0], Mp vstr vb okStr st1m0 st10_43, Cl st2P [vl a46 k47 st20_44], pv st0P [.func (.func 44) #[] #[st1P, st2P]], pv (gp 0) [vl kwLA kwLK kwL], S kwLA kwLK kwL], validate_each_Variables_2_L1 ((p.Funcs.getD v16_20.toNat default).Blocks) r42 st10_43 st20_44 v23_45 = validate_each_Variables_2_L1 ((p.Funcs.getD v16_20.toNat default).Blocks) ((((((p.Funcs.getD v16_20.toNat default).Blocks).length : Int) : Int) - 0).toNat) st10_18 st20_19 0 ∧ r42 = (((((p.Funcs.getD v16_20.toNat default).Blocks).length : Int) : Int) - v23_45).toNat ∧ (0 : Int) ≤ v23_45 ∧ (v23_45 ≤ (((p.Funcs.getD v16_20.toNat default).Blocks).length : Int) ∨ v23_45 = 0) ∧ (-9223372036854775808 ≤ v23_45 ∧ v23_45 ≤ 9223372036854775807) ∧ ((st20_44.length : Int) ≤ (st20_19.length : Int) + 180 * v23_45), r42⟩) ((((((p.Funcs.getD v16_20.toNat default).Blocks).length : Int) : Int) - 0).toNat, st10_18, st20_19, 0, a21, k22) [3, 2, 3, 4, 4, 4, 4, 5, 6] ⟨rfl, rfl, (by omega), (.inr rfl), (by omega), iv0⟩ ?_
   rintro ⟨r42, st10_43, st20_44, v23_45, a46, k47⟩ ⟨hM48, hr49, hi50, hi51, hk52, hv53⟩
   refine JJ_nx fun _ _ hL hA => ?_; dsimp only at hL hA; subst hL hA
   refine Fb 16 0 fun hl54 => ?_
   refine FoS 0 fun ho55 => ?_
   refine Fb 40 1 fun hl56 => ?_
   refine Fb 40 2 fun hl57 => ?_
   refine Fb 16 8 fun hl58 => ?_
   refine FoS 8 fun ho59 => ?_
   refine KS ?_
   refine Oq Vlss (KS ?_)
   refine Kc ?_ ?_
   · intro h60
     have g61 := of_decide_eq_true h60
     have hVk := hVf.2 v23_45.toNat
     obtain ⟨r62, rfl⟩ := scc (n := r42) (by omega)
     refine KS ?_
     refine Oq (Vi sl39 1) ?_
     refine JJ_peek_GBlock v23_45.toNat 1 rfl rng fun a63 k64 hb65 => ?_
     refine Fb 72 1 fun hl66 => ?_
     refine Oq (VldA sh44 0) (Oa (Al ze44 [.string (bs (Str.mk [])), .slice none 0 0]) fun p67 => Ost (Scl [0] sh44 [.string (bs ((((p.Funcs.getD v16_20.toNat default).Blocks).getD v23_45.toNat default).Name)), .slice a63 (((((p.Funcs.getD v16_20.toNat default).Blocks).getD v23_45.toNat default).Stmts).length) k64]) (KS ?_))
     refine Oq (Vfa fo44_1 0) (Oq (VldF sh42 0) (Oq (Vlen sl42) (Oq Vm (KS ?_))))
     refine Kl (γ := Nat × (List (Str × Bool)) × List Str × Int × Option Addr × Nat) (fun (r68, st10_69, st20_70, v30_71, a72, k73) => ⟨[(1, .func (.func 45) #[] #[st0P]), (14, vl pa0 pk0 p.Funcs), (15, vi (p.Funcs.length : Int)), (16, vi v16_20), (21, vl a37 k38 ((p.Funcs.getD v16_20.toNat default).Blocks)), (22, vi (((p.Funcs.getD v16_20.toNat default).Blocks).length : Int)), (23, vi v23_45), (28, .slice a63 (((((p.Funcs.getD v16_20.toNat default).Blocks).getD v23_45.toNat default).Stmts).length) k64), (29, vi (((((p.Funcs.getD v16_20.toNat default).Blocks).getD v23_45.toNat default).Stmts).length : Int)), (30, vi v30_71)], [O a72 k73 st20_70, S a63 k64 ((((p.Funcs.getD v16_20.toNat default).Blocks).getD v23_45.toNat default).Stmts), S a37 k38 ((p.Funcs.getD v16_20.toNat default).Blocks), S pa0 pk0 p.Funcs, Cl st1P [st1m0], Mp vstr vb okStr st1m0 st10_69, Cl st2P [vl a72 k73 st20_70], pv st0P [.func (.func 44) #[] #[st1P, st2P]], pv (gp 0) [vl kwLA kwLK kwL], S kwLA kwLK kwL], validate_each_Variables_2_L2 ((((p.Funcs.getD v16_20.toNat default).Blocks).getD v23_45.toNat default).Stmts) r68 st10_69 st20_70 v30_71 = validate_each_Variables_2_L2 ((((p.Funcs.getD v16_20.toNat default).Blocks).getD v23_45.toNat default).Stmts) ((((((((p.Funcs.getD v16_20.toNat default).Blocks).getD v23_45.toNat default).Stmts).length : Int) : Int) - 0).toNat) st10_43 st20_44 0 ∧ r68 = (((((((p.Funcs.getD v16_20.toNat default).Blocks).getD v23_45.toNat default).Stmts).length : Int) : Int) - v30_71).toNat ∧ (0 : Int) ≤ v30_71 ∧ (v30_71 ≤ (((((p.Funcs.getD v16_20.toNat default).Blocks).getD v23_45.toNat default).Stmts).length : Int) ∨ v30_71 = 0) ∧ (-9223372036854775808 ≤ v30_71 ∧ v30_71 ≤ 9223372036854775807) ∧ ((st20_70.length : Int) ≤ (st20_44.length : Int) + 5 * v30_71), r68⟩) ((((((((p.Funcs.getD v16_20.toNat default).Blocks).getD v23_45.toNat default).Stmts).length : Int) : Int) - 0).toNat, st10_43, st20_44, 0, a46, k47) [3, 2, 3, 4, 5, 5, 5, 5, 6, 7] ⟨rfl, rfl, (by omega), (.inr rfl), (by omega), iv0⟩ ?_
     rintro ⟨r68, st10_69, st20_70, v30_71, a72, k73⟩ ⟨hM74, hr75, hi76, hi77, hk78, hv79⟩
     refine JJ_nx fun _ _ hL hA => ?_; dsimp only at hL hA; subst hL hA
     refine Fb 16 0 fun hl80 => ?_
     refine FoS 0 fun ho81 => ?_
     refine Fb 72 1 fun hl82 => ?_
     refine Fb 40 2 fun hl83 => ?_
     refine Fb 40 3 fun hl84 => ?_
     refine Fb 16 9 fun hl85 => ?_
     refine FoS 9 fun ho86 => ?_
     refine KS ?_
     refine Oq Vlss (KS ?_)
     refine Kc ?_ ?_
     · intro h87
       have g88 := of_decide_eq_true h87
       have hVs := hVk.2 v30_71.toNat
       obtain ⟨r89, rfl⟩ := scc (n := r68) (by omega)
       refine KS ?_
       refine Oq (Vi sl42 1) ?_
       refine JJ_peek_GStmt v30_71.toNat 1 rfl rng fun a90 k91 a92 k93 hb94 hb95 => ?_
       unfold i64ok at hb94
       refine Fb 16 1 fun hl96 => ?_
       refine FoS 1 fun ho97 => ?_
       refine Fb 16 2 fun hl98 => ?_
       refine FoS 2 fun ho99 => ?_
       refine Oq (VldA sh47 0) (Oa (Al ze47 [vi 0, .string (bs (Str.mk [])), .slice none 0 0, .slice none 0 0]) fun p100 => Ost (Scl [0] sh47 [vi ((((((p.Funcs.getD v16_20.toNat default).Blocks).getD v23_45.toNat default).Stmts).getD v30_71.toNat default).Op), .string (bs ((((((p.Funcs.getD v16_20.toNat default).Blocks).getD v23_45.toNat default).Stmts).getD v30_71.toNat default).Def)), .slice a90 (((((((p.Funcs.getD v16_20.toNat default).Blocks).getD v23_45.toNat default).Stmts).getD v30_71.toNat default).Uses).length) k91, .slice a92 (((((((p.Funcs.getD v16_20.toNat default).Blocks).getD v23_45.toNat default).Stmts).getD v30_71.toNat default).Targets).length) k93]) (KS ?_))
       refine Oq Vm (Oq (VldA sh47 0) ?_)
       refine letv (validate_Variables_2_Variables_1 (((((p.Funcs.getD v16_20.toNat default).Blocks).getD v23_45.toNat default).Stmts).getD v30_71.toNat default) st10_69 st20_70) fun rv102 hg103 => ?_
       have hc104 := fn45m0 ((((((p.Funcs.getD v16_20.toNat default).Blocks).getD v23_45.toNat default).Stmts).getD v30_71.toNat default)) a90 k91 a92 k93 st1P st10_69 st1m0 st2P st20_70 a72 k73 st0P pre pre pre rv102 hg103
       refine JO_call [2, 3, 8, 8, 8, 4, 7] rfl rfl rfl (OpC.clo («as» := [(.agg #[vi ((((((p.Funcs.getD v16_20.toNat default).Blocks).getD v23_45.toNat default).Stmts).getD v30_71.toNat default).Op), .string (bs ((((((p.Funcs.getD v16_20.toNat default).Blocks).getD v23_45.toNat default).Stmts).getD v30_71.toNat default).Def)), .slice a90 (((((((p.Funcs.getD v16_20.toNat default).Blocks).getD v23_45.toNat default).Stmts).getD v30_71.toNat default).Uses).length) k91, .slice a92 (((((((p.Funcs.getD v16_20.toNat default).Blocks).getD v23_45.toNat default).Stmts).getD v30_71.toNat default).Targets).length) k93] : Value), (st0P : Value)]) rfl rfl ca45 rfl (by simp)) hc104 rfl ?_
       rintro c101 he105
       refine Jo 3 ?_; rintro a106 k107 rfl
       refine Fb 16 3 fun hl108 => ?_
       refine FoS 3 fun ho109 => ?_
       refine KS ?_
       refine Oq Vadd (Oq Vm (KS ?_))
       exact Kg (r89, rv102.1, rv102.2, (v30_71 + 1), a106, k107) [3, 7, 8, 9, 0, 0, 0, 7, 8, 9] ⟨(q3 hM74 (by simp only [validate_each_Variables_2_L2, h10, h15, h34, h60, h87, hg8, hg103, cs4])), (by omega), (by omega), (by omega), (by omega), iv1⟩
     intro h87
     have g110 := of_decide_eq_false h87
     obtain rfl : r68 = 0 := by omega
     refine Ke ?_
     have hR111 := q2 hM74 (st10_69, st20_70) (by simp only [validate_each_Variables_2_L2, h10, h15, h34, h60, h87, hg8, cs4])
     refine KS ?_
     refine Oq Vadd (Oq Vm (KS ?_))
     exact Kg (r62, st10_69, st20_70, (v23_45 + 1), a72, k73) [0, 1, 2, 3, 3, 3, 3, 4, 5] ⟨(q3 hM48 (by simp only [validate_each_Variables_2_L1, h10, h15, h34, h60, h87, hg8, hR111, cs4])), (by omega), (by omega), (by omega), (by omega), iv1⟩
   intro h60
   have g112 := of_decide_eq_false h60
   obtain rfl : r42 = 0 := by omega
   refine Ke ?_
   have hR113 := q2 hM48 (st10_43, st20_44) (by simp only [validate_each_Variables_2_L1, h10, h15, h34, h60, hg8, cs4])
   refine KS ?_
   refine Oq Vadd (Oq Vm (KS ?_))
   exact Kg (r36, st10_43, st20_44, (v16_20 + 1), a46, k47) [0, 1, 2, 2, 2, 2, 3, 4] ⟨(q3 hM23 (by simp only [validate_each_Variables_2_L0, h10, h15, h34, h60, hg8, hR113, cs4])), (by omega), (by omega), (by omega), (by omega), iv1⟩
 intro h34
 have g114 := of_decide_eq_false h34
 obtain rfl : r17 = 0 := by omega
 refine Ke ?_
 have hR115 := q2 hM23 (st10_18, st20_19) (by simp only [validate_each_Variables_2_L0, h10, h15, h34, hg8, cs4])
 have hq := q4 hrr (st10_18, st20_19) (by simp only [validate_each_Variables_2, h10, h15, h34, hg8, hR115, cs4]); subst hq
 exact Kz (vl a21 k22 st20_19) rfl .nil [2, 2, 2, 0] en
theorem fn30 (p : GProgram) (pa0 : Option Addr) (pk0 : Nat) (kwLA : Option Addr) (kwLK : Nat) (hps : PSm p = true) (rr : List Str) (hrr : validate_Variables p = rr) : FT Tryd.prog 30 #[.agg #[vl pa0 pk0 p.Funcs]] [S pa0 pk0 p.Funcs, pv (gp 0) [vl kwLA kwLK kwL], S kwLA kwLK kwL] (fun g : Value => (rr.length ≤ 30000)) (fun g => g) (fun g => [sl g rr]) := by
 refine FTi Tryd.func30 fun w0 M0 F0 => ?_
 refine Fb 40 0 fun hl1 => ?_
 refine Fb 16 2 fun hl2 => ?_
 refine FoS 2 fun ho3 => ?_
 refine KS ?_
 refine Oa (Ab [vl pa0 pk0 p.Funcs]) fun p4 => Oq Va (KS ?_)
 refine Oa (Amp (κ := Str) (ν := Bool) (ek := vstr) (ev := vb) (ok := okStr)) fun p5 => ?_
 refine Jom 0 ?_; rintro b6 rfl
 refine Oa (Al ze64 [.map none]) fun p7 => Ost (Scl [0] sh64 [(mv b6)]) (KS ?_)
 refine Oa (Al ze45 [.slice none 0 0]) fun p8 => KS ?_
 refine Oq (Vf [p7, p8]) (Oa (Al ze81 [.nilFunc]) fun p9 => Ost (Scl [0] sh81 [.func (.func 44) #[] #[p7, p8]]) (KS ?_))
 refine Oq (VldA sh25 4) (Oq (Vf [p9]) ?_)
 refine Jl [] (Ent.osNil (α := Str)) ?_
 refine Jl [1] (Ent.freezeCl _ _) ?_
 refine letv (validate_each_Variables_2 p [] []) fun rv11 hg12 => ?_
 have hc13 := fn42m1 p pa0 pk0 p7 [] (mv b6) p8 [] none 0 p9 kwLA kwLK pre pre rv11 hg12
 refine Oc [6, 3, 3, 2, 1, 0, 3, 4] ca42 hc13 ?_
 rintro c10 he14
 refine Jo 3 ?_; rintro a15 k16 rfl
 refine Fb 16 3 fun hl17 => ?_
 refine FoS 3 fun ho18 => ?_
 refine KS ?_
 refine Oq (Vld sh45 2) (Oq Va (KS ?_))
 refine Jl [3] (Ent.freeze _ _) ?_
 have hq := q4 hrr rv11.2 (by simp only [validate_Variables, hg12, cs4]); subst hq
 exact Kr (vl a15 k16 rv11.2) rfl (.tmp rfl .nil) [0] en
theorem fn18 (p : GProgram) (pa0 : Option Addr) (pk0 : Nat) (kwLA : Option Addr) (kwLK : Nat) (hps : PSm p = true) (rr : GNode × Int) (hrr : validate_Check p = rr) : FT Tryd.prog 18 #[.agg #[vl pa0 pk0 p.Funcs]] [S pa0 pk0 p.Funcs, pv (gp 0) [vl kwLA kwLK kwL], S kwLA kwLK kwL] (fun g : Unit => i64ok rr.1.Kind ∧ i64ok rr.1.Func ∧ i64ok rr.1.Block ∧ i64ok rr.1.Stmt ∧ i64ok rr.2) (fun g => .tuple #[.agg #[vi rr.1.Kind, vi rr.1.Func, vi rr.1.Block, vi rr.1.Stmt], vi rr.2]) (fun g => []) := by
 refine FTi Tryd.func18 fun w0 M0 F0 => ?_
 refine Fb 40 0 fun hl1 => ?_
 refine Fb 16 2 fun hl2 => ?_
 refine FoS 2 fun ho3 => ?_
 refine KS ?_
 refine Oa (Ab [vl pa0 pk0 p.Funcs]) fun p4 => Oa (Al ze35 [vi 0, vi 0, vi 0, vi 0]) fun p5 => Oq Va (KS ?_)
 refine Oq (VldA sh25 1) ?_
 refine letv (syntax_Valid p) fun rv6 hg7 => ?_
 have hc8 := fn25 p pa0 pk0 kwLA kwLK pre rv6 hg7
 refine Oc [2, 3, 4] ca25 hc8 ?_
 rintro - -
 refine Oq Vnot (KS ?_)
 refine Kc ?_ ?_
 · intro h9
   have h11 := not_true h9
   refine KS ?_
   refine Oq (Vbd st35 [vi 0, vi 0, vi 0, vi 0]) (Ost (Scl [0] sh35 [vi 0, vi 0, vi 0, vi 0]) (Oq Va (KS ?_)))
   have hq := q4 hrr ((GNode.mk 0 0 0 0), 1) (by simp only [validate_Check, h9, h11, hg7, cs4]); subst hq
   exact Kr () rfl (.cellN 0 rfl sh35 rfl (reads_Cl _ _) rfl (.tmp rfl .nil)) [] en
 intro h9
 have h14 := not_false h9
 refine KS ?_
 refine Oq (Vfa fo25_0 1) (Oq (VldF sh23 1) ?_)
 refine JJ_ent (Ent.pall [] rfl rfl) ?_
 refine letv (validate_duplicate_Func p.Funcs (fun x0 => validate_Check_1 x0)) fun rv17 hg18 => ?_
 have hc19 := fn26 p.Funcs pa0 pk0 27 [] (fun x0 => validate_Check_1 x0) [] ca27 (fun x0 a0 k0 hq0 => FT_pall (A1 := _) (fn27 x0 a0 k0  hq0 _ rfl)) rv17 hg18
 refine Oc [3, 0] ca26 hc19 ?_
 rintro c16 he20
 unfold i64ok at he20
 refine Jom 0 ?_; rintro b21 rfl
 refine Oq Vm (Oq Vx (Oq Vx (Oq Va (Oq Va (KS ?_)))))
 refine Oq Vm (Oq Vgeq (KS ?_))
 refine Kc ?_ ?_
 · intro h22
   have g23 := of_decide_eq_true h22
   refine KS ?_
   refine Oq Vm (Oq (Vbd st35 [vi 1, vi rv17.1, vi (-1), vi (-1)]) (Ost (Scl [2] sh35 [vi 1, vi rv17.1, vi (-1), vi (-1)]) (Oq Va (KS ?_))))
   have hq := q4 hrr ((GNode.mk 1 rv17.1 (-1) (-1)), 6) (by simp only [validate_Check, h9, h14, h22, hg7, hg18, cs4]); subst hq
   exact Kr () rfl (.cellN 0 rfl sh35 rfl (reads_Cl _ _) rfl (.tmp rfl .nil)) [] en
 intro h22
 have g24 := of_decide_eq_false h22
 refine KS ?_
 refine Oq (Vfa fo25_0 3) (Oq (VldF sh23 3) (Oq (Vlen sl23) (Oq Vm (KS ?_))))
 refine Kl (γ := Nat × Int) (fun (r25, v29_26) => ⟨[(1, p4), (2, p5), (5, (mv b21)), (27, vl pa0 pk0 p.Funcs), (28, vi (p.Funcs.length : Int)), (29, vi v29_26)], [Mp vstr vb okStr (mv b21) rv17.2, pAll [], Cl p5 [vi 0, vi 0, vi 0, vi 0], pv p4 [vl pa0 pk0 p.Funcs], S pa0 pk0 p.Funcs, pv (gp 0) [vl kwLA kwLK kwL], S kwLA kwLK kwL], validate_Check_L0 p rv17.2 r25 v29_26 = validate_Check_L0 p rv17.2 (((p.Funcs.length : Int) - 0).toNat) 0 ∧ r25 = ((p.Funcs.length : Int) - v29_26).toNat ∧ (0 : Int) ≤ v29_26 ∧ v29_26 ≤ (p.Funcs.length : Int) ∧ (-9223372036854775808 ≤ v29_26 ∧ v29_26 ≤ 9223372036854775807), r25⟩) (((p.Funcs.length : Int) - 0).toNat, 0) [0, 0, 1, 1, 2, 3, 4] ⟨rfl, rfl, (by omega), (by omega), (by omega)⟩ ?_
 rintro ⟨r25, v29_26⟩ ⟨hM27, hr28, hi29, hi30, hk31⟩
 refine JJ_nx fun _ _ hL hA => ?_; dsimp only at hL hA; subst hL hA
 refine Fb 40 4 fun hl32 => ?_
 refine Fb 16 6 fun hl33 => ?_
 refine FoS 6 fun ho34 => ?_
 refine KS ?_
 refine Oq Vlss (KS ?_)
 refine Kc ?_ ?_
 · intro h35
   have g36 := of_decide_eq_true h35
   obtain ⟨r37, rfl⟩ := scc (n := r25) (by omega)
   refine KS ?_
   refine Oq Vm (Oq (Vi sl23 4) ?_)
   refine JJ_peek_GFunc v29_26.toNat 4 rfl rng fun a38 k39 hb40 => ?_
   refine Fb 40 1 fun hl41 => ?_
   refine Oq (VldA sh41 0) (Oa (Al ze41 [.string (bs (Str.mk [])), .slice none 0 0]) fun p42 => Oq Va (Ost (Scl [0] sh41 [.string (bs ((p.Funcs.getD v29_26.toNat default).Name)), vl a38 k39 ((p.Funcs.getD v29_26.toNat default).Blocks)]) (KS ?_)))
   refine Oq (VldA sh41 0) (Oq Vm (Oq Vm ?_))
   refine letv (validate_function (p.Funcs.getD v29_26.toNat default) v29_26 rv17.2) fun rv43 hg44 => ?_
   have hc45 := fn28 ((p.Funcs.getD v29_26.toNat default)) a38 k39 v29_26 (mv b21) rv17.2 pre pre rv43 hg44
   refine Oc [2, 3] ca28 hc45 ?_
   rintro - ⟨he46, he47, he48, he49, he50⟩
   unfold i64ok at he46 he47 he48 he49 he50
   refine Oq Vm (Oq Vx (Oq Vx (Oa (Al ze35 [vi 0, vi 0, vi 0, vi 0]) fun p51 => Ost (Scl [0] sh35 [vi rv43.1.Kind, vi rv43.1.Func, vi rv43.1.Block, vi rv43.1.Stmt]) (Oq Va (KS ?_)))))
   refine Oq Vm (Oq Vneq (KS ?_))
   refine Kc ?_ ?_
   · intro h52
     have g53 := ne_of_bne h52
     refine KS ?_
     refine Oq (VldA sh35 0) (Oq Vm (Ost (Scl [6] sh35 [vi rv43.1.Kind, vi rv43.1.Func, vi rv43.1.Block, vi rv43.1.Stmt]) (Oq Va (KS ?_))))
     have hR54 := q2 hM27 (.ret (rv43.1, rv43.2)) (by simp only [validate_Check_L0, h9, h14, h22, h35, h52, hg7, hg18, hg44, cs4])
     have hq := q4 hrr (rv43.1, rv43.2) (by simp only [validate_Check, h9, h14, h22, h35, h52, hg7, hg18, hg44, hR54, cs4]); subst hq
     exact Kr () rfl (.cellN 0 rfl sh35 rfl (reads_Cl _ _) rfl (.tmp rfl .nil)) [] en
   intro h52
   have g55 := eq_of_bne_false h52
   refine KS ?_
   refine Oq Vadd (Oq Vm (KS ?_))
   exact Kg (r37, (v29_26 + 1)) [1, 4, 5, 5, 6, 7, 8] ⟨(q3 hM27 (by simp only [validate_Check_L0, h9, h14, h22, h35, h52, hg7, hg18, hg44, cs4])), (by omega), (by omega), (by omega), (by omega)⟩
 intro h35
 have g56 := of_decide_eq_false h35
 obtain rfl : r25 = 0 := by omega
 refine Ke ?_
 have hR57 := q2 hM27 (.brk ()) (by simp only [validate_Check_L0, h9, h14, h22, h35, hg7, hg18, cs4])
 refine KS ?_
 refine Oq (VldA sh25 3) ?_
 refine letv (validate_Sizes p) fun rv58 hg59 => ?_
 have hc60 := fn29 p pa0 pk0 kwLA kwLK pre rv58 hg59
 refine Oc [4, 5, 6] ca29 hc60 ?_
 rintro - ⟨he61, he62, he63⟩
 unfold i64ok at he61 he62
 refine Oq Vm (Oq Vx (Oq Vx (Oq Va (Oq Va (KS ?_)))))
 refine Oq (VldA sh25 3) ?_
 refine letv (validate_Variables p) fun rv65 hg66 => ?_
 have hc67 := fn30 p pa0 pk0 kwLA kwLK pre rv65 hg66
 refine Oc [4, 5, 6] ca30 hc67 ?_
 rintro c64 he68
 refine Jo 0 ?_; rintro a69 k70 rfl
 refine Fb 16 0 fun hl71 => ?_
 refine FoS 0 fun ho72 => ?_
 refine Oq (Vlen sl45) (Oq Vgtr (Oq Vm ?_))
 refine Js 55 ?_ ?_
 · intro h73
   have g74 := of_decide_eq_true h73
   refine Osk (Osk (Oq Vpt (Oq Vm (Osk (Osk (Oq Vpt (KS ?_)))))))
   refine Kt ?_
   refine KS ?_
   refine Oq (Vbd st35 [vi 0, vi 0, vi 0, vi 0]) (Ost (Scl [3] sh35 [vi 0, vi 0, vi 0, vi 0]) (Oq Va (KS ?_)))
   have hq := q4 hrr ((GNode.mk 0 0 0 0), 7) (by simp only [validate_Check, h9, h14, h22, h35, h73, hg7, hg18, hR57, hg59, hg66, cs4]); subst hq
   exact Kr () rfl (.cellN 0 rfl sh35 rfl (reads_Cl _ _) rfl (.tmp rfl .nil)) [] en
 intro h73
 have g75 := of_decide_eq_false h73
 refine Oq Vm (Oq Vgtr (Oq Vpf (Oq Vm ?_)))
 refine Js 59 ?_ ?_
 · intro h76
   have g77 := of_decide_eq_true h76
   refine Osk (Osk (Oq Vpt (KS ?_)))
   refine Kt ?_
   refine KS ?_
   refine Oq (Vbd st35 [vi 0, vi 0, vi 0, vi 0]) (Ost (Scl [3] sh35 [vi 0, vi 0, vi 0, vi 0]) (Oq Va (KS ?_)))
   have hq := q4 hrr ((GNode.mk 0 0 0 0), 7) (by simp only [validate_Check, h9, h14, h22, h35, h73, h76, hg7, hg18, hR57, hg59, hg66, cs4]); subst hq
   exact Kr () rfl (.cellN 0 rfl sh35 rfl (reads_Cl _ _) rfl (.tmp rfl .nil)) [] en
 intro h76
 have g78 := of_decide_eq_false h76
 refine Oq Vm (Oq Vgtr (Oq Vpf (KS ?_)))
 refine Kc ?_ ?_
 · intro h79
   have g80 := of_decide_eq_true h79
   refine KS ?_
   refine Oq (Vbd st35 [vi 0, vi 0, vi 0, vi 0]) (Ost (Scl [3] sh35 [vi 0, vi 0, vi 0, vi 0]) (Oq Va (KS ?_)))
   have hq := q4 hrr ((GNode.mk 0 0 0 0), 7) (by simp only [validate_Check, h9, h14, h22, h35, h73, h76, h79, hg7, hg18, hR57, hg59, hg66, cs4]); subst hq
   exact Kr () rfl (.cellN 0 rfl sh35 rfl (reads_Cl _ _) rfl (.tmp rfl .nil)) [] en
 intro h79
 have g81 := of_decide_eq_false h79
 refine KS ?_
 refine Oq (Vbd st35 [vi 0, vi 0, vi 0, vi 0]) (Ost (Scl [3] sh35 [vi 0, vi 0, vi 0, vi 0]) (Oq Va (KS ?_)))
 have hq := q4 hrr ((GNode.mk 0 0 0 0), 0) (by simp only [validate_Check, h9, h14, h22, h35, h73, h76, h79, hg7, hg18, hR57, hg59, hg66, cs4]); subst hq
 exact Kr () rfl (.cellN 0 rfl sh35 rfl (reads_Cl _ _) rfl (.tmp rfl .nil)) [] en
theorem fn7 (p : GProgram) (pa0 : Option Addr) (pk0 : Nat) (kwLA : Option Addr) (kwLK : Nat) (hps : PSm p = true) (rr : List GNode) (hrr : nodes_List p = rr) : FT Tryd.prog 7 #[.agg #[vl pa0 pk0 p.Funcs]] [S pa0 pk0 p.Funcs, pv (gp 0) [vl kwLA kwLK kwL], S kwLA kwLK kwL] (fun g : Value => (rr.length ≤ 20000)) (fun g => g) (fun g => [sl g rr]) := by
 refine FTi Tryd.func7 fun w0 M0 F0 => ?_
 refine Fb 40 0 fun hl1 => ?_
 refine Fb 16 2 fun hl2 => ?_
 refine FoS 2 fun ho3 => ?_
 refine KS ?_
 refine Oa (Ab [vl pa0 pk0 p.Funcs]) fun p4 => Oq Va (KS ?_)
 refine Oq (VldA sh25 0) ?_
 refine letv (validate_Check p) fun rv5 hg6 => ?_
 have hc7 := fn18 p pa0 pk0 kwLA kwLK pre rv5 hg6
 refine Oc [1, 2, 3] ca18 hc7 ?_
 rintro - ⟨he8, he9, he10, he11, he12⟩
 unfold i64ok at he8 he9 he10 he11 he12
 refine Oq Vm (Oq Vx (Oq Vx (Oa (Al ze35 [vi 0, vi 0, vi 0, vi 0]) fun p13 => Ost (Scl [0] sh35 [vi rv5.1.Kind, vi rv5.1.Func, vi rv5.1.Block, vi rv5.1.Stmt]) (Oq Va (KS ?_)))))
 refine Oq Vm (Oq Vneq (KS ?_))
 refine Kc ?_ ?_
 · intro h14
   have g15 := ne_of_bne h14
   refine KS ?_
   refine Oq Va (KS ?_)
   refine Jl [] (Ent.slNil (α := GNode)) ?_
   have hq := q4 hrr [] (by simp only [nodes_List, h14, hg6, cs4]); subst hq
   exact Kr (.slice none 0 0) rfl (.tmp rfl .nil) [0] en
 intro h14
 have g16 := eq_of_bne_false h14
 have hVb := SVal_b (p := p) (Check_b (by assumption) (by assumption))
 refine KS ?_
 refine Oq Va (KS ?_)
 refine Oq (Vfa fo25_0 1) (Oq (VldF sh23 1) (Oq (Vlen sl23) (Oq Vm (KS ?_))))
 refine Jl [] (Ent.osNil (α := GNode)) ?_
 refine Kl (γ := Nat × List GNode × Int × Option Addr × Nat) (fun (r17, out_18, v22_19, a20, k21) => ⟨[(5, vl a20 k21 out_18), (20, vl pa0 pk0 p.Funcs), (21, vi (p.Funcs.length : Int)), (22, vi v22_19)], [O a20 k21 out_18, S pa0 pk0 p.Funcs, pv (gp 0) [vl kwLA kwLK kwL], S kwLA kwLK kwL], nodes_List_L0 p r17 out_18 v22_19 = nodes_List_L0 p (((p.Funcs.length : Int) - 0).toNat) [] 0 ∧ r17 = ((p.Funcs.length : Int) - v22_19).toNat ∧ (0 : Int) ≤ v22_19 ∧ v22_19 ≤ (p.Funcs.length : Int) ∧ (-9223372036854775808 ≤ v22_19 ∧ v22_19 ≤ 9223372036854775807) ∧ ((out_18.length : Int) ≤ 1100 * v22_19), r17⟩) (((p.Funcs.length : Int) - 0).toNat, [], 0, none, 0) [0, 2, 3, 4] ⟨rfl, rfl, (by omega), (by omega), (by omega), iv0⟩ ?_
 rintro ⟨r17, out_18, v22_19, a20, k21⟩ ⟨hM22, hr23, hi24, hi25, hk26, hv27⟩
 refine JJ_nx fun _ _ hL hA => ?_; dsimp only at hL hA; subst hL hA
 refine Fb 32 0 fun hl28 => ?_
 refine Fb 40 1 fun hl29 => ?_
 refine Fb 16 3 fun hl30 => ?_
 refine FoS 3 fun ho31 => ?_
 refine KS ?_
 refine Oq Vlss (KS ?_)
 refine Kc ?_ ?_
 · intro h32
   have g33 := of_decide_eq_true h32
   have hVf := hVb.2 v22_19.toNat
   have hb8 : v22_19 ≤ 7 := by have := hVb.1; omega
   obtain ⟨r34, rfl⟩ := scc (n := r17) (by omega)
   refine KS ?_
   refine Oq Vm (Oq (Vi sl23 1) ?_)
   refine JJ_peek_GFunc v22_19.toNat 1 rfl rng fun a35 k36 hb37 => ?_
   refine Fb 40 1 fun hl38 => ?_
   refine Oq (VldA sh41 0) (Oa (Al ze41 [.string (bs (Str.mk [])), .slice none 0 0]) fun p39 => Oq Va (Ost (Scl [0] sh41 [.string (bs ((p.Funcs.getD v22_19.toNat default).Name)), vl a35 k36 ((p.Funcs.getD v22_19.toNat default).Blocks)]) (KS ?_)))
   refine Oq Vm (Oq Vm (Oq (Vbd st35 [vi 1, vi v22_19, vi (-1), vi (-1)]) (Oa (AsV sl29 sz29 [.agg #[vi 1, vi v22_19, vi (-1), vi (-1)]] [vi 1, vi v22_19, vi (-1), vi (-1)]) fun c40 => ?_)))
   refine Jo 0 ?_; rintro a41 k42 rfl
   refine Jl [0] (Ent.cr1 (α := GNode) (A := []) _ (GNode.mk 1 v22_19 (-1) (-1)) _ (Nat.le_of_ble_eq_true rfl) (fun h => ⟨rfl, (by unfold i64ok; first | omega | (dsimp only; omega)), (by unfold i64ok; first | omega | (dsimp only; omega)), (by unfold i64ok; first | omega | (dsimp only; omega)), (by unfold i64ok; first | omega | (dsimp only; omega))⟩)) ?_
   refine Oa (ApO [4, 0] sl29 sl29 sz29) fun c43 => ?_
   refine Jo 0 ?_; rintro a44 k45 rfl
   refine Fb 32 0 fun hl46 => ?_
   have hn47 := la out_18 ([(GNode.mk 1 v22_19 (-1) (-1))] : List GNode)
   refine Oq Va (KS ?_)
   refine Oq (Vfa fo41_1 1) (Oq (VldF sh39 1) (Oq (Vlen sl39) (Oq Vm (KS ?_))))
   refine Kl (γ := Nat × List GNode × Int × Option Addr × Nat) (fun (r48, out_49, v35_50, a51, k52) => ⟨[(20, vl pa0 pk0 p.Funcs), (21, vi (p.Funcs.length : Int)), (22, vi v22_19), (6, vi v22_19), (5, vl a51 k52 out_49), (33, vl a35 k36 ((p.Funcs.getD v22_19.toNat default).Blocks)), (34, vi (((p.Funcs.getD v22_19.toNat default).Blocks).length : Int)), (35, vi v35_50)], [O a51 k52 out_49, S a35 k36 ((p.Funcs.getD v22_19.toNat default).Blocks), S pa0 pk0 p.Funcs, pv (gp 0) [vl kwLA kwLK kwL], S kwLA kwLK kwL], nodes_List_L1 v22_19 ((p.Funcs.getD v22_19.toNat default).Blocks) r48 out_49 v35_50 = nodes_List_L1 v22_19 ((p.Funcs.getD v22_19.toNat default).Blocks) ((((((p.Funcs.getD v22_19.toNat default).Blocks).length : Int) : Int) - 0).toNat) (out_18 ++ [(GNode.mk 1 v22_19 (-1) (-1))]) 0 ∧ r48 = (((((p.Funcs.getD v22_19.toNat default).Blocks).length : Int) : Int) - v35_50).toNat ∧ (0 : Int) ≤ v35_50 ∧ (v35_50 ≤ (((p.Funcs.getD v22_19.toNat default).Blocks).length : Int) ∨ v35_50 = 0) ∧ (-9223372036854775808 ≤ v35_50 ∧ v35_50 ≤ 9223372036854775807) ∧ ((out_49.length : Int) ≤ 1100 * v22_19 + 1 + 66 * v35_50), r48⟩) ((((((p.Funcs.getD v22_19.toNat default).Blocks).length : Int) : Int) - 0).toNat, (out_18 ++ [(GNode.mk 1 v22_19 (-1) (-1))]), 0, a44, k45) [0, 2, 3, 4, 5] ⟨rfl, rfl, (by omega), (.inr rfl), (by omega), iv0⟩ ?_
   rintro ⟨r48, out_49, v35_50, a51, k52⟩ ⟨hM53, hr54, hi55, hi56, hk57, hv58⟩
   refine JJ_nx fun _ _ hL hA => ?_; dsimp only at hL hA; subst hL hA
   refine Fb 32 0 fun hl59 => ?_
   refine Fb 40 1 fun hl60 => ?_
   refine Fb 40 2 fun hl61 => ?_
   refine Fb 16 4 fun hl62 => ?_
   refine FoS 4 fun ho63 => ?_
   refine KS ?_
   refine Oq Vlss (KS ?_)
   refine Kc ?_ ?_
   · intro h64
     have g65 := of_decide_eq_true h64
     have hVk := hVf.2 v35_50.toNat
     have hb16 : v35_50 ≤ 15 := by have := hVf.1; omega
     obtain ⟨r66, rfl⟩ := scc (n := r48) (by omega)
     refine KS ?_
     refine Oq Vm (Oq (Vi sl39 1) ?_)
     refine JJ_peek_GBlock v35_50.toNat 1 rfl rng fun a67 k68 hb69 => ?_
     refine Fb 72 1 fun hl70 => ?_
     refine Oq (VldA sh44 0) (Oa (Al ze44 [.string (bs (Str.mk [])), .slice none 0 0]) fun p71 => Oq Va (Ost (Scl [0] sh44 [.string (bs ((((p.Funcs.getD v22_19.toNat default).Blocks).getD v35_50.toNat default).Name)), .slice a67 (((((p.Funcs.getD v22_19.toNat default).Blocks).getD v35_50.toNat default).Stmts).length) k68]) (KS ?_)))
     refine Oq (Vfa fo44_1 0) (Oq (VldF sh42 0) (Oq (Vlen sl42) (Oq Vm (KS ?_))))
     refine Kl (γ := Nat × List GNode × Int × Option Addr × Nat) (fun (r72, out_73, v43_74, a75, k76) => ⟨[(20, vl pa0 pk0 p.Funcs), (21, vi (p.Funcs.length : Int)), (22, vi v22_19), (6, vi v22_19), (5, vl a75 k76 out_73), (33, vl a35 k36 ((p.Funcs.getD v22_19.toNat default).Blocks)), (34, vi (((p.Funcs.getD v22_19.toNat default).Blocks).length : Int)), (35, vi v35_50), (8, vi v35_50), (41, .slice a67 (((((p.Funcs.getD v22_19.toNat default).Blocks).getD v35_50.toNat default).Stmts).length) k68), (42, vi (((((p.Funcs.getD v22_19.toNat default).Blocks).getD v35_50.toNat default).Stmts).length : Int)), (43, vi v43_74)], [O a75 k76 out_73, S a67 k68 ((((p.Funcs.getD v22_19.toNat default).Blocks).getD v35_50.toNat default).Stmts), S a35 k36 ((p.Funcs.getD v22_19.toNat default).Blocks), S pa0 pk0 p.Funcs, pv (gp 0) [vl kwLA kwLK kwL], S kwLA kwLK kwL], nodes_List_L2 v22_19 v35_50 ((((p.Funcs.getD v22_19.toNat default).Blocks).getD v35_50.toNat default).Stmts) r72 out_73 v43_74 = nodes_List_L2 v22_19 v35_50 ((((p.Funcs.getD v22_19.toNat default).Blocks).getD v35_50.toNat default).Stmts) ((((((((p.Funcs.getD v22_19.toNat default).Blocks).getD v35_50.toNat default).Stmts).length : Int) : Int) - 0).toNat) out_49 0 ∧ r72 = (((((((p.Funcs.getD v22_19.toNat default).Blocks).getD v35_50.toNat default).Stmts).length : Int) : Int) - v43_74).toNat ∧ (0 : Int) ≤ v43_74 ∧ (v43_74 ≤ (((((p.Funcs.getD v22_19.toNat default).Blocks).getD v35_50.toNat default).Stmts).length : Int) ∨ v43_74 = 0) ∧ (-9223372036854775808 ≤ v43_74 ∧ v43_74 ≤ 9223372036854775807) ∧ ((out_73.length : Int) ≤ 1100 * v22_19 + 1 + 66 * v35_50 + 2 * v43_74), r72⟩) ((((((((p.Funcs.getD v22_19.toNat default).Blocks).getD v35_50.toNat default).Stmts).length : Int) : Int) - 0).toNat, out_49, 0, a51, k52) [3, 2, 3, 4, 5, 6] ⟨rfl, rfl, (by omega), (.inr rfl), (by omega), iv0⟩ ?_
     rintro ⟨r72, out_73, v43_74, a75, k76⟩ ⟨hM77, hr78, hi79, hi80, hk81, hv82⟩
     refine JJ_nx fun _ _ hL hA => ?_; dsimp only at hL hA; subst hL hA
     refine Fb 32 0 fun hl83 => ?_
     refine Fb 72 1 fun hl84 => ?_
     refine Fb 40 2 fun hl85 => ?_
     refine Fb 40 3 fun hl86 => ?_
     refine Fb 16 5 fun hl87 => ?_
     refine FoS 5 fun ho88 => ?_
     refine KS ?_
     refine Oq Vlss (KS ?_)
     refine Kc ?_ ?_
     · intro h89
       have g90 := of_decide_eq_true h89
       have hb32 : v43_74 ≤ 31 := by have := hVk.1; omega
       obtain ⟨r91, rfl⟩ := scc (n := r72) (by omega)
       refine KS ?_
       refine Oq Vm (Oq (Vi sl42 1) ?_)
       refine JJ_peek_GStmt v43_74.toNat 1 rfl rng fun a92 k93 a94 k95 hb96 hb97 => ?_
       unfold i64ok at hb96
       refine Fb 16 1 fun hl98 => ?_
       refine FoS 1 fun ho99 => ?_
       refine Fb 16 2 fun hl100 => ?_
       refine FoS 2 fun ho101 => ?_
       refine Oq (VldA sh47 0) (Oa (Al ze47 [vi 0, .string (bs (Str.mk [])), .slice none 0 0, .slice none 0 0]) fun p102 => Oq Va (Ost (Scl [0] sh47 [vi ((((((p.Funcs.getD v22_19.toNat default).Blocks).getD v35_50.toNat default).Stmts).getD v43_74.toNat default).Op), .string (bs ((((((p.Funcs.getD v22_19.toNat default).Blocks).getD v35_50.toNat default).Stmts).getD v43_74.toNat default).Def)), .slice a92 (((((((p.Funcs.getD v22_19.toNat default).Blocks).getD v35_50.toNat default).Stmts).getD v43_74.toNat default).Uses).length) k93, .slice a94 (((((((p.Funcs.getD v22_19.toNat default).Blocks).getD v35_50.toNat default).Stmts).getD v43_74.toNat default).Targets).length) k95]) (KS ?_)))
       refine Oq Vm (Oq Vm (Oq Vm (Oq Vm (Oq (Vbd st35 [vi 3, vi v22_19, vi v35_50, vi v43_74]) (Oa (AsV sl29 sz29 [.agg #[vi 3, vi v22_19, vi v35_50, vi v43_74]] [vi 3, vi v22_19, vi v35_50, vi v43_74]) fun c103 => ?_)))))
       refine Jo 0 ?_; rintro a104 k105 rfl
       refine Jl [0] (Ent.cr1 (α := GNode) (A := []) _ (GNode.mk 3 v22_19 v35_50 v43_74) _ (Nat.le_of_ble_eq_true rfl) (fun h => ⟨rfl, (by unfold i64ok; first | omega | (dsimp only; omega)), (by unfold i64ok; first | omega | (dsimp only; omega)), (by unfold i64ok; first | omega | (dsimp only; omega)), (by unfold i64ok; first | omega | (dsimp only; omega))⟩)) ?_
       refine Oa (ApO [5, 0] sl29 sl29 sz29) fun c106 => ?_
       refine Jo 0 ?_; rintro a107 k108 rfl
       refine Fb 32 0 fun hl109 => ?_
       have hn110 := la out_73 ([(GNode.mk 3 v22_19 v35_50 v43_74)] : List GNode)
       refine Oq Va (KS ?_)
       refine Oq (Vfa fo47_0 1) (Oq (VldF sh3 1) (Oq Veql (KS ?_)))
       refine Kc ?_ ?_
       · intro h111
         have g112 := eq_of_beq h111
         refine KS ?_
         refine Oq Vm (Oq Vm (Oq Vm (Oq Vm (Oq (Vbd st35 [vi 4, vi v22_19, vi v35_50, vi v43_74]) (Oa (AsV sl29 sz29 [.agg #[vi 4, vi v22_19, vi v35_50, vi v43_74]] [vi 4, vi v22_19, vi v35_50, vi v43_74]) fun c113 => ?_)))))
         refine Jo 0 ?_; rintro a114 k115 rfl
         refine Jl [0] (Ent.cr1 (α := GNode) (A := []) _ (GNode.mk 4 v22_19 v35_50 v43_74) _ (Nat.le_of_ble_eq_true rfl) (fun h => ⟨rfl, (by unfold i64ok; first | omega | (dsimp only; omega)), (by unfold i64ok; first | omega | (dsimp only; omega)), (by unfold i64ok; first | omega | (dsimp only; omega)), (by unfold i64ok; first | omega | (dsimp only; omega))⟩)) ?_
         refine Oa (ApO [1, 0] sl29 sl29 sz29) fun c116 => ?_
         refine Jo 0 ?_; rintro a117 k118 rfl
         refine Fb 32 0 fun hl119 => ?_
         have hn120 := la ((out_73 ++ [(GNode.mk 3 v22_19 v35_50 v43_74)]) : List GNode) ([(GNode.mk 4 v22_19 v35_50 v43_74)] : List GNode)
         refine Oq Va (KS ?_)
         refine Oq Vadd (Oq Vm (KS ?_))
         exact Kg (r91, ((out_73 ++ [(GNode.mk 3 v22_19 v35_50 v43_74)]) ++ [(GNode.mk 4 v22_19 v35_50 v43_74)]), (v43_74 + 1), a117, k118) [0, 4, 5, 6, 7, 8] ⟨(q3 hM77 (by simp only [nodes_List_L2, h14, h32, h64, h89, h111, hg6, cs4])), (by omega), (by omega), (by omega), (by omega), iv1⟩
       intro h111
       have g121 := ne_of_beq_false h111
       refine KS ?_
       refine Oq Vadd (Oq Vm (KS ?_))
       exact Kg (r91, (out_73 ++ [(GNode.mk 3 v22_19 v35_50 v43_74)]), (v43_74 + 1), a107, k108) [0, 4, 5, 6, 7, 8] ⟨(q3 hM77 (by simp only [nodes_List_L2, h14, h32, h64, h89, h111, hg6, cs4])), (by omega), (by omega), (by omega), (by omega), iv1⟩
     intro h89
     have g122 := of_decide_eq_false h89
     obtain rfl : r72 = 0 := by omega
     refine Ke ?_
     have hR123 := q2 hM77 out_73 (by simp only [nodes_List_L2, h14, h32, h64, h89, hg6, cs4])
     refine KS ?_
     refine Oq Vadd (Oq Vm (KS ?_))
     exact Kg (r66, out_73, (v35_50 + 1), a75, k76) [0, 1, 2, 3, 4] ⟨(q3 hM53 (by simp only [nodes_List_L1, h14, h32, h64, h89, hg6, hR123, cs4])), (by omega), (by omega), (by omega), (by omega), iv1⟩
   intro h64
   have g124 := of_decide_eq_false h64
   obtain rfl : r48 = 0 := by omega
   refine Ke ?_
   have hR125 := q2 hM53 out_49 (by simp only [nodes_List_L1, h14, h32, h64, hg6, cs4])
   refine KS ?_
   refine Oq Vm (Oq Vm (Oq (Vbd st35 [vi 2, vi v22_19, vi (-1), vi (-1)]) (Oa (AsV sl29 sz29 [.agg #[vi 2, vi v22_19, vi (-1), vi (-1)]] [vi 2, vi v22_19, vi (-1), vi (-1)]) fun c126 => ?_)))
   refine Jo 0 ?_; rintro a127 k128 rfl
   refine Jl [0] (Ent.cr1 (α := GNode) (A := []) _ (GNode.mk 2 v22_19 (-1) (-1)) _ (Nat.le_of_ble_eq_true rfl) (fun h => ⟨rfl, (by unfold i64ok; first | omega | (dsimp only; omega)), (by unfold i64ok; first | omega | (dsimp only; omega)), (by unfold i64ok; first | omega | (dsimp only; omega)), (by unfold i64ok; first | omega | (dsimp only; omega))⟩)) ?_
   refine Oa (ApO [1, 0] sl29 sl29 sz29) fun c129 => ?_
   refine Jo 0 ?_; rintro a130 k131 rfl
   refine Fb 32 0 fun hl132 => ?_
   have hn133 := la out_49 ([(GNode.mk 2 v22_19 (-1) (-1))] : List GNode)
   refine Oq Va (KS ?_)
   refine Oq Vadd (Oq Vm (KS ?_))
   exact Kg (r34, (out_49 ++ [(GNode.mk 2 v22_19 (-1) (-1))]), (v22_19 + 1), a130, k131) [0, 1, 2, 3] ⟨(q3 hM22 (by simp only [nodes_List_L0, h14, h32, h64, hg6, hR125, cs4])), (by omega), (by omega), (by omega), (by omega), iv1⟩
 intro h32
 have g134 := of_decide_eq_false h32
 obtain rfl : r17 = 0 := by omega
 refine Ke ?_
 have hR135 := q2 hM22 out_18 (by simp only [nodes_List_L0, h14, h32, hg6, cs4])
 refine KS ?_
 refine Oq Vm (Oq Va (KS ?_))
 refine Jl [0] (Ent.freeze _ _) ?_
 have hq := q4 hrr out_18 (by simp only [nodes_List, h14, h32, hg6, hR135, cs4]); subst hq
 exact Kr (vl a20 k21 out_18) rfl (.tmp rfl .nil) [0] en
theorem fn9 (p : GProgram) (pa0 : Option Addr) (pk0 : Nat) (n : GNode) (kwLA : Option Addr) (kwLK : Nat) (hn_0 : i64ok n.Kind) (hn_1 : i64ok n.Func) (hn_2 : i64ok n.Block) (hn_3 : i64ok n.Stmt) (hps : PSm p = true) (rr : Int) (hrr : nodes_Find p n = rr) : FT Tryd.prog 9 #[.agg #[vl pa0 pk0 p.Funcs], .agg #[vi n.Kind, vi n.Func, vi n.Block, vi n.Stmt]] [S pa0 pk0 p.Funcs, pv (gp 0) [vl kwLA kwLK kwL], S kwLA kwLK kwL] (fun g : Unit => i64ok rr ∧ (-1 ≤ rr ∧ rr ≤ 20000)) (fun g => vi rr) (fun g => []) := by
 refine FTi Tryd.func9 fun w0 M0 F0 => ?_
 unfold i64ok at hn_0 hn_1 hn_2 hn_3
 refine Fb 40 0 fun hl1 => ?_
 refine Fb 16 2 fun hl2 => ?_
 refine FoS 2 fun ho3 => ?_
 refine KS ?_
 refine Oa (Ab [vl pa0 pk0 p.Funcs]) fun p4 => Oa (Ab [vi n.Kind, vi n.Func, vi n.Block, vi n.Stmt]) fun p5 => Oq Va (KS ?_)
 refine Oq (VldA sh25 1) ?_
 refine letv (nodes_List p) fun rv7 hg8 => ?_
 have hc9 := fn7 p pa0 pk0 kwLA kwLK pre rv7 hg8
 refine Oc [2, 3, 4] ca7 hc9 ?_
 rintro c6 he10
 refine Jo 0 ?_; rintro a11 k12 rfl
 refine Fb 32 0 fun hl13 => ?_
 refine Oq (Vlen sl29) (Oq Vm (KS ?_))
 refine Kl (γ := Nat × Int) (fun (r14, v10_15) => ⟨[(3, p5), (8, vl a11 k12 rv7), (9, vi (rv7.length : Int)), (10, vi v10_15)], [S a11 k12 rv7, pv p5 [vi n.Kind, vi n.Func, vi n.Block, vi n.Stmt], pv (gp 0) [vl kwLA kwLK kwL], S kwLA kwLK kwL], nodes_Find_L0 n rv7 r14 v10_15 = nodes_Find_L0 n rv7 (((rv7.length : Int) - 0).toNat) 0 ∧ r14 = ((rv7.length : Int) - v10_15).toNat ∧ (0 : Int) ≤ v10_15 ∧ v10_15 ≤ (rv7.length : Int) ∧ (-9223372036854775808 ≤ v10_15 ∧ v10_15 ≤ 9223372036854775807), r14⟩) (((rv7.length : Int) - 0).toNat, 0) [0, 1, 4, 5] ⟨rfl, rfl, (by omega), (by omega), (by omega)⟩ ?_
 rintro ⟨r14, v10_15⟩ ⟨hM16, hr17, hi18, hi19, hk20⟩
 refine JJ_nx fun _ _ hL hA => ?_; dsimp only at hL hA; subst hL hA
 refine Fb 32 0 fun hl21 => ?_
 refine Fb 16 3 fun hl22 => ?_
 refine FoS 3 fun ho23 => ?_
 refine KS ?_
 refine Oq Vlss (KS ?_)
 refine Kc ?_ ?_
 · intro h24
   have g25 := of_decide_eq_true h24
   obtain ⟨r26, rfl⟩ := scc (n := r14) (by omega)
   refine KS ?_
   refine Oq Vm (Oq (Vi sl29 0) ?_)
   refine JJ_peek_GNode v10_15.toNat 0 rfl rng fun hb27 hb28 hb29 hb30 => ?_
   unfold i64ok at hb27 hb28 hb29 hb30
   refine Oq (VldA sh35 0) (Oa (Al ze35 [vi 0, vi 0, vi 0, vi 0]) fun p31 => Oq Va (Ost (Scl [0] sh35 [vi ((rv7.getD v10_15.toNat default).Kind), vi ((rv7.getD v10_15.toNat default).Func), vi ((rv7.getD v10_15.toNat default).Block), vi ((rv7.getD v10_15.toNat default).Stmt)]) (KS ?_)))
   refine Oq (VldA sh35 0) (Oq (VldA sh35 3) (Oq (VeqA eqi35 (l := [(rv7.getD v10_15.toNat default).Kind, (rv7.getD v10_15.toNat default).Func, (rv7.getD v10_15.toNat default).Block, (rv7.getD v10_15.toNat default).Stmt]) (m := [n.Kind, n.Func, n.Block, n.Stmt])) (KS ?_)))
   refine Kc ?_ ?_
   · intro h32
     have g33 := eq_of_beq h32
     refine KS ?_
     refine Oq Vm (Oq Va (KS ?_))
     have hR34 := q2 hM16 (.ret v10_15) (by simp only [nodes_Find_L0, h24, h32, hg8, cs4])
     have hq := q4 hrr v10_15 (by simp only [nodes_Find, h24, h32, hg8, hR34, cs4]); subst hq
     exact Kr () rfl (.tmp rfl .nil) [] en
   intro h32
   have g35 := ne_of_beq_false h32
   refine KS ?_
   refine Oq Vadd (Oq Vm (KS ?_))
   exact Kg (r26, (v10_15 + 1)) [2, 3, 4, 5] ⟨(q3 hM16 (by simp only [nodes_Find_L0, h24, h32, hg8, cs4])), (by omega), (by omega), (by omega), (by omega)⟩
 intro h24
 have g36 := of_decide_eq_false h24
 obtain rfl : r14 = 0 := by omega
 refine Ke ?_
 have hR37 := q2 hM16 (.brk ()) (by simp only [nodes_Find_L0, h24, hg8, cs4])
 refine KS ?_
 refine Oq Va (KS ?_)
 have hq := q4 hrr (-1) (by simp only [nodes_Find, h24, hg8, hR37, cs4]); subst hq
 exact Kr () rfl (.tmp rfl .nil) [] en
theorem fn10 (p : GProgram) (pa0 : Option Addr) (pk0 : Nat) (n : GNode) (kwLA : Option Addr) (kwLK : Nat) (hn_0 : i64ok n.Kind) (hn_1 : i64ok n.Func) (hn_2 : i64ok n.Block) (hn_3 : i64ok n.Stmt) (hps : PSm p = true) (hsm : SmP p) (rr : Str) (hrr : nodes_Label p n = rr) : FT Tryd.prog 10 #[.agg #[vl pa0 pk0 p.Funcs], .agg #[vi n.Kind, vi n.Func, vi n.Block, vi n.Stmt]] [S pa0 pk0 p.Funcs, pv (gp 0) [vl kwLA kwLK kwL], S kwLA kwLK kwL] (fun g : Unit => rr.b.length ≤ 140737488355328 ∧ (rr.b.length ≤ 5000)) (fun g => .string (bs rr)) (fun g => []) := by
 refine FTi Tryd.func10 fun w0 M0 F0 => ?_
 unfold i64ok at hn_0 hn_1 hn_2 hn_3
 refine Fb 40 0 fun hl1 => ?_
 refine Fb 16 2 fun hl2 => ?_
 refine FoS 2 fun ho3 => ?_
 refine KS ?_
 refine Oa (Ab [vl pa0 pk0 p.Funcs]) fun p4 => Oa (Ab [vi n.Kind, vi n.Func, vi n.Block, vi n.Stmt]) fun p5 => Oq Va (KS ?_)
 refine Oq (VldA sh25 1) (Oq (VldA sh35 0) ?_)
 refine letv (nodes_Find p n) fun rv6 hg7 => ?_
 have hc8 := fn9 p pa0 pk0 n kwLA kwLK pre pre pre pre pre rv6 hg7
 refine Oc [2, 3, 4] ca9 hc8 ?_
 rintro - ⟨he9, he10⟩
 unfold i64ok at he9
 refine Oq Vlss (KS ?_)
 refine Kc ?_ ?_
 · intro h11
   have g12 := of_decide_eq_true h11
   refine KS ?_
   refine Oq Va (KS ?_)
   have hq := q4 hrr (Str.mk []) (by simp only [nodes_Label, h11, hg7, cs4]); subst hq
   exact Kr () rfl (.tmp rfl .nil) [] en
 intro h11
 have g13 := of_decide_eq_false h11
 have hN := Find_in (by assumption) h11
 obtain ⟨hN1, hN2⟩ := hN
 have hf1 := (SmP_f hsm n.Func.toNat).1
 have hb1 := ((SmP_f hsm n.Func.toNat).2 n.Block.toNat (by omega)).1
 refine KS ?_
 refine Oq (Vfa fo25_0 1) (Oq (VldF sh23 1) (Oq (Vfa fo35_1 0) (Oq (VldF sh3 0) (Oq (Vi sl23 2) ?_))))
 refine JJ_peek_GFunc n.Func.toNat 2 rfl rng fun a14 k15 hb16 => ?_
 refine Fb 40 1 fun hl17 => ?_
 refine Oq (VldA sh41 0) (Oa (Al ze41 [.string (bs (Str.mk [])), .slice none 0 0]) fun p18 => Ost (Scl [0] sh41 [.string (bs ((p.Funcs.getD n.Func.toNat default).Name)), vl a14 k15 ((p.Funcs.getD n.Func.toNat default).Blocks)]) (KS ?_))
 refine Oq (Vfa fo35_0 3) (Oq (VldF sh3 3) (KS ?_))
 refine Oq Veql (Oq Va (KS ?_))
 refine Kc ?_ ?_
 · intro h19
   have g20 := eq_of_beq h19
   refine KS ?_
   refine Oq (Vfa fo41_0 0) (Oq (VldF sh9 0) ?_)
   have hb21 := sadd_len ((p.Funcs.getD n.Func.toNat default).Name) (Str.mk [46, 101, 110, 116, 114, 121])
   have hb22 : (Str.mk [46, 101, 110, 116, 114, 121]).b.length = 6 := rfl
   refine Oq (VadS (l := (p.Funcs.getD n.Func.toNat default).Name) (m := (Str.mk [46, 101, 110, 116, 114, 121]))) (Oq Va (KS ?_))
   have hq := q4 hrr ((p.Funcs.getD n.Func.toNat default).Name ++ (Str.mk [46, 101, 110, 116, 114, 121])) (by simp only [nodes_Label, h11, h19, hg7, cs4]); subst hq
   exact Kr () rfl (.tmp rfl .nil) [] en
 intro h19
 have g23 := ne_of_beq_false h19
 refine KS ?_
 refine Oq Veql (Oq Va (KS ?_))
 refine Kc ?_ ?_
 · intro h24
   have g25 := eq_of_beq h24
   refine KS ?_
   refine Oq (Vfa fo41_0 0) (Oq (VldF sh9 0) ?_)
   have hb26 := sadd_len ((p.Funcs.getD n.Func.toNat default).Name) (Str.mk [46, 101, 120, 105, 116])
   have hb27 : (Str.mk [46, 101, 120, 105, 116]).b.length = 5 := rfl
   refine Oq (VadS (l := (p.Funcs.getD n.Func.toNat default).Name) (m := (Str.mk [46, 101, 120, 105, 116]))) (Oq Va (KS ?_))
   have hq := q4 hrr ((p.Funcs.getD n.Func.toNat default).Name ++ (Str.mk [46, 101, 120, 105, 116])) (by simp only [nodes_Label, h11, h19, h24, hg7, cs4]); subst hq
   exact Kr () rfl (.tmp rfl .nil) [] en
 intro h24
 have g28 := ne_of_beq_false h24
 have hN3 := hN2 (by assumption) (by simpa using h24)
 refine KS ?_
 refine Jp 0 fun hp29 => ?_
 refine JJ_peek_GBlock n.Block.toNat 3 rfl rng fun a30 k31 hb32 => ?_
 refine Fb 72 1 fun hl33 => ?_
 refine JK_drawK [0, 1, 3, 0, 8, 0, 32, 120, 248, 504, 1023, 2047, 0, 4096, 12288, 32767, 65535] fmix ?_
 refine Dv [2] (Vfa fo41_0 0) (Dv [3] (VldF sh9 0) ?_)
 have hb34 := sadd_len ((p.Funcs.getD n.Func.toNat default).Name) (Str.mk [46])
 have hb35 : (Str.mk [46]).b.length = 1 := rfl
 refine Dv [] (VadS (l := (p.Funcs.getD n.Func.toNat default).Name) (m := (Str.mk [46]))) (Dv [2] (Vfa fo41_1 0) (Dv [3] (VldF sh39 0) (Dv [6] (Vfa fo35_2 0) (Dv [6] (VldF sh3 0) (Dv [5] (Vi sl39 0) (Dv [0] (Vfa fo44_0 0) (Dv [0] (VldF sh9 0) ?_)))))))
 have hb36 := sadd_len ((p.Funcs.getD n.Func.toNat default).Name ++ (Str.mk [46])) ((((p.Funcs.getD n.Func.toNat default).Blocks).getD n.Block.toNat default).Name)
 refine Dv [] (VadS (l := ((p.Funcs.getD n.Func.toNat default).Name ++ (Str.mk [46]))) (m := (((p.Funcs.getD n.Func.toNat default).Blocks).getD n.Block.toNat default).Name)) ?_
 have hb37 := sadd_len (((p.Funcs.getD n.Func.toNat default).Name ++ (Str.mk [46])) ++ (((p.Funcs.getD n.Func.toNat default).Blocks).getD n.Block.toNat default).Name) (Str.mk [46])
 have hb38 : (Str.mk [46]).b.length = 1 := rfl
 refine Dv [] (VadS (l := (((p.Funcs.getD n.Func.toNat default).Name ++ (Str.mk [46])) ++ (((p.Funcs.getD n.Func.toNat default).Blocks).getD n.Block.toNat default).Name)) (m := (Str.mk [46]))) (Dv [6] (Vfa fo35_3 0) (Dv [6] (VldF sh3 0) ?_))
 refine letv (strconv_Itoa n.Stmt) fun rv39 hg40 => ?_
 have hI := Itoa_len hg40 (by omega)
 refine Dx [] [] [0] (fun G => .string (bs rv39)) [fun G => SP.fact (rv39.b.length ≤ 140737488355328 ∧ (rv39.b.length ≤ 2))] (fun G => xC [] ca20 (fn20 n.Stmt pre pre rv39 hg40)) ?_
 have hb41 := sadd_len ((((p.Funcs.getD n.Func.toNat default).Name ++ (Str.mk [46])) ++ (((p.Funcs.getD n.Func.toNat default).Blocks).getD n.Block.toNat default).Name) ++ (Str.mk [46])) rv39
 refine Dv [] (VadS (l := ((((p.Funcs.getD n.Func.toNat default).Name ++ (Str.mk [46])) ++ (((p.Funcs.getD n.Func.toNat default).Blocks).getD n.Block.toNat default).Name) ++ (Str.mk [46]))) (m := rv39)) (Dv [] Va ?_)
 refine Dn ⟨by kernel_rfl, fun G => ?_⟩
 refine Jw2 [(3, p5), (6, .string (bs (((((p.Funcs.getD n.Func.toNat default).Name ++ (Str.mk [46])) ++ (((p.Funcs.getD n.Func.toNat default).Blocks).getD n.Block.toNat default).Name) ++ (Str.mk [46])) ++ rv39)))] [0, 1, 2, 3, 4, 5, 6, 7, 8, 9, 10] [SP.fact (rv39.b.length ≤ 140737488355328 ∧ (rv39.b.length ≤ 2))] ?_
 refine Jf 11 rfl ?_; rintro ⟨he42, he43⟩
 refine Jk [0, 1, 3, 3, 4, 5, 6, 7, 8, 9] ?_
 refine KS ?_
 refine Oq (Vfa fo35_0 5) (Oq (VldF sh3 5) (Oq Veql (KS ?_)))
 refine Kc ?_ ?_
 · intro h44
   have g45 := eq_of_beq h44
   refine KS ?_
   refine Oq Vm ?_
   have hb46 := sadd_len (((((p.Funcs.getD n.Func.toNat default).Name ++ (Str.mk [46])) ++ (((p.Funcs.getD n.Func.toNat default).Blocks).getD n.Block.toNat default).Name) ++ (Str.mk [46])) ++ rv39) (Str.mk [43])
   have hb47 : (Str.mk [43]).b.length = 1 := rfl
   refine Oq (VadS (l := (((((p.Funcs.getD n.Func.toNat default).Name ++ (Str.mk [46])) ++ (((p.Funcs.getD n.Func.toNat default).Blocks).getD n.Block.toNat default).Name) ++ (Str.mk [46])) ++ rv39)) (m := (Str.mk [43]))) (Oq Va (KS ?_))
   refine Oq Vm (Oq Va (KS ?_))
   have hq := q4 hrr ((((((p.Funcs.getD n.Func.toNat default).Name ++ (Str.mk [46])) ++ (((p.Funcs.getD n.Func.toNat default).Blocks).getD n.Block.toNat default).Name) ++ (Str.mk [46])) ++ rv39) ++ (Str.mk [43])) (by simp only [nodes_Label, h11, h19, h24, h44, hg7, hg40, cs4]); subst hq
   exact Kr () rfl (.tmp rfl .nil) [] en
 intro h44
 have g48 := ne_of_beq_false h44
 refine KS ?_
 refine Oq Vm (Oq Va (KS ?_))
 have hq := q4 hrr (((((p.Funcs.getD n.Func.toNat default).Name ++ (Str.mk [46])) ++ (((p.Funcs.getD n.Func.toNat default).Blocks).getD n.Block.toNat default).Name) ++ (Str.mk [46])) ++ rv39) (by simp only [nodes_Label, h11, h19, h24, h44, hg7, hg40, cs4]); subst hq
 exact Kr () rfl (.tmp rfl .nil) [] en
theorem fn46 (c : Int) (hc_0 : 0 ≤ c ∧ c ≤ 255) (rr : Bool) (hrr : flqref4_letter c = rr) : FT Tryd.prog 46 #[.int .u8 c] [] (fun g : Unit => True) (fun g => vb rr) (fun g => []) := by
 refine FTi Tryd.func46 fun w0 M0 F0 => ?_
 refine KS ?_
 refine Oq Va (KS ?_)
 refine Oq Vm (Oq Vgeq (Oq Vm ?_))
 refine Js 5 ?_ ?_
 · intro h1
   have g2 := of_decide_eq_true h1
   refine Oq Vm (Oq Vleq (Oq Vpt (Oq Vm ?_)))
   refine Js 9 ?_ ?_
   · intro h3
     have g4 := of_decide_eq_true h3
     refine Osk (Osk (Osk (Osk (Osk (Osk (Oq Vpt (Oq Vm (Osk (Osk ?_)))))))))
     refine Oq Vpt (Oq Va (KS ?_))
     have hq := q4 hrr true (by simp only [flqref4_letter, h1, h3, cs4]); subst hq
     exact Kr () rfl (.tmp rfl .nil) [] trivial
   intro h3
   have g5 := of_decide_eq_false h3
   refine Oq Vm (Oq Vgeq (Oq Vm ?_))
   refine Js 12 ?_ ?_
   · intro h6
     have g7 := of_decide_eq_true h6
     refine Oq Vm (Oq Vleq (Oq Vpt (Oq Vpf (Oq Vm ?_))))
     refine Js 17 ?_ ?_
     · intro h8
       have g9 := of_decide_eq_true h8
       refine Osk (Osk (Oq Vpt (Oq Va (KS ?_))))
       have hq := q4 hrr true (by simp only [flqref4_letter, h1, h3, h6, h8, cs4]); subst hq
       exact Kr () rfl (.tmp rfl .nil) [] trivial
     intro h8
     have g10 := of_decide_eq_false h8
     refine Oq Vm (Oq Veql (Oq Vpf (Oq Va (KS ?_))))
     have hq := q4 hrr (c == 95) (by simp only [flqref4_letter, h1, h3, h6, h8, cs4]); subst hq
     exact Kr () rfl (.tmp rfl .nil) [] trivial
   intro h6
   have g11 := of_decide_eq_false h6
   refine Osk (Osk (Oq Vpf (Oq Vpf (Oq Vm (Oq Vm (Oq Veql (Oq Vpf (Oq Va (KS ?_)))))))))
   have hq := q4 hrr (c == 95) (by simp only [flqref4_letter, h1, h3, h6, cs4]); subst hq
   exact Kr () rfl (.tmp rfl .nil) [] trivial
 intro h1
 have g12 := of_decide_eq_false h1
 refine Osk (Osk (Oq Vpf (Oq Vm (Oq Vm (Oq Vgeq (Oq Vm ?_))))))
 refine Js 12 ?_ ?_
 · intro h13
   have g14 := of_decide_eq_true h13
   refine Oq Vm (Oq Vleq (Oq Vpt (Oq Vpf (Oq Vm ?_))))
   refine Js 17 ?_ ?_
   · intro h15
     have g16 := of_decide_eq_true h15
     refine Osk (Osk (Oq Vpt (Oq Va (KS ?_))))
     have hq := q4 hrr true (by simp only [flqref4_letter, h1, h13, h15, cs4]); subst hq
     exact Kr () rfl (.tmp rfl .nil) [] trivial
   intro h15
   have g17 := of_decide_eq_false h15
   refine Oq Vm (Oq Veql (Oq Vpf (Oq Va (KS ?_))))
   have hq := q4 hrr (c == 95) (by simp only [flqref4_letter, h1, h13, h15, cs4]); subst hq
   exact Kr () rfl (.tmp rfl .nil) [] trivial
 intro h13
 have g18 := of_decide_eq_false h13
 refine Osk (Osk (Oq Vpf (Oq Vpf (Oq Vm (Oq Vm (Oq Veql (Oq Vpf (Oq Va (KS ?_)))))))))
 have hq := q4 hrr (c == 95) (by simp only [flqref4_letter, h1, h13, cs4]); subst hq
 exact Kr () rfl (.tmp rfl .nil) [] trivial
theorem fn47 (c : Int) (hc_0 : 0 ≤ c ∧ c ≤ 255) (rr : Bool) (hrr : flqref4_digit c = rr) : FT Tryd.prog 47 #[.int .u8 c] [] (fun g : Unit => True) (fun g => vb rr) (fun g => []) := by
 refine FTi Tryd.func47 fun w0 M0 F0 => ?_
 refine KS ?_
 refine Oq Va (KS ?_)
 refine Oq Vm (Oq Vgeq (Oq Vm ?_))
 refine Js 5 ?_ ?_
 · intro h1
   have g2 := of_decide_eq_true h1
   refine Oq Vm (Oq Vleq (Oq Vpt (Oq Va (KS ?_))))
   have hq := q4 hrr (decide (c ≤ 57)) (by simp only [flqref4_digit, h1, cs4]); subst hq
   exact Kr () rfl (.tmp rfl .nil) [] trivial
 intro h1
 have g3 := of_decide_eq_false h1
 refine Osk (Osk (Oq Vpf (Oq Va (KS ?_))))
 have hq := q4 hrr false (by simp only [flqref4_digit, h1, cs4]); subst hq
 exact Kr () rfl (.tmp rfl .nil) [] trivial
theorem fn51 (text : Str) (htext_0 : text.b.length ≤ 140737488355328) (rr : List GToken × Int × Int × Int) (hrr : flqref4_Scan text = rr) : FT Tryd.prog 51 #[.string (bs text)] [] (fun g : Value => i64ok rr.2.1 ∧ i64ok rr.2.2.1 ∧ i64ok rr.2.2.2) (fun g => .tuple #[g, vi rr.2.1, vi rr.2.2.1, vi rr.2.2.2]) (fun g => [sl g rr.1]) := by
 refine FTi Tryd.func51 fun w0 M0 F0 => ?_
 refine KS ?_
 refine Oq Va (Oq Va (Oq Va (Oq Va (KS ?_))))
 refine Oq Vm (Oq (VlS un9 (l := text)) (Oq Vgtr (KS ?_)))
 refine Kc ?_ ?_
 · intro h1
   have g2 := of_decide_eq_true h1
   refine KS ?_
   refine Oq Va (Oq Va (Oq Va (Oq Va (KS ?_))))
   refine Jl [] (Ent.slNil (α := GToken)) ?_
   have hq := q4 hrr ([], 0, 0, 7) (by simp only [flqref4_Scan, h1, cs4]); subst hq
   exact Kr (.slice none 0 0) rfl (.tmp rfl (.tmp rfl (.tmp rfl (.tmp rfl .nil)))) [0] en
 intro h1
 have g3 := of_decide_eq_false h1
 refine KS ?_
 refine Oq Va (KS ?_)
 refine Oq Va (Oq Va (Oq Va (KS ?_)))
 refine Oq Va (KS ?_)
 refine Jl [] (Ent.osNil (α := GToken)) ?_
 have hterm20 : flqref4_Scan_L0 text (text.b.length + 1) [] 1 1 false 0 ≠ LR.oof := (Scan_term _ _ _ _ _ _ _ (by omega))
 refine Kl (γ := Nat × List GToken × Int × Int × Bool × Int × Option Addr × Nat) (fun (r4, out_5, line_6, col_7, open__8, i_9, a10, k11) => ⟨[(0, .string (bs text)), (6, vl a10 k11 out_5), (7, vi line_6), (8, vi col_7), (9, vb open__8), (10, vi i_9)], [O a10 k11 out_5], flqref4_Scan_L0 text r4 out_5 line_6 col_7 open__8 i_9 = flqref4_Scan_L0 text (text.b.length + 1) [] 1 1 false 0 ∧ (-9223372036854775808 ≤ line_6 ∧ line_6 ≤ 9223372036854775807) ∧ (-9223372036854775808 ≤ col_7 ∧ col_7 ≤ 9223372036854775807) ∧ (-9223372036854775808 ≤ i_9 ∧ i_9 ≤ 9223372036854775807) ∧ (0 ≤ i_9 ∧ i_9 ≤ (text.b.length : Int)) ∧ (0 ≤ line_6 ∧ line_6 ≤ i_9 + 1) ∧ (0 ≤ col_7 ∧ col_7 ≤ i_9 + 1) ∧ (out_5.length + r4 ≤ text.b.length + 1), r4⟩) ((text.b.length + 1), [], 1, 1, false, 0, none, 0) [0] ⟨rfl, (by omega), (by omega), (by omega), iv0, iv0, iv0, iv0⟩ ?_
 rintro ⟨r4, out_5, line_6, col_7, open__8, i_9, a10, k11⟩ ⟨hM12, hk13, hk14, hk15, hv16, hv17, hv18, hv19⟩
 refine JJ_nx fun _ _ hL hA => ?_; dsimp only at hL hA; subst hL hA
 refine Fb 40 0 fun hl21 => ?_
 rcases r4 with _ | r4
 · exact absurd (hM12.symm.trans rfl) hterm20
 refine KS ?_
 refine Oq Vm (Oq Vm (Oq (VlS un9 (l := text)) (Oq Vlss (KS ?_))))
 refine Kc ?_ ?_
 · intro h22
   have g23 := of_decide_eq_true h22
   refine KS ?_
   refine Oq Vm (Oq Vm (Oq (Vix un9 (l := text)) ?_))
   have hb24 := u8b (text.b.getD i_9.toNat 0)
   refine Oq Va (KS ?_)
   refine Oq Vm (Oq Veql (Oq Vm ?_))
   refine Js 28 ?_ ?_
   · intro h25
     have g26 := eq_of_beq h25
     refine Osk (Osk (Oq Vpt (Oq Va (KS ?_))))
     refine Kt ?_
     refine KS ?_
     refine Oq Vm (Oq Vadd (Oq Vm (Oq Vadd (Oq Va (Oq Va (KS ?_))))))
     exact Kg (r4, out_5, line_6, (col_7 + 1), open__8, (i_9 + 1), a10, k11) [0] ⟨(q3 hM12 (by simp only [flqref4_Scan_L0, h1, h22, h25, cs4])), (by omega), (by omega), (by omega), iv1, iv1, iv1, iv1⟩
   intro h25
   have g27 := ne_of_beq_false h25
   refine Oq Vm (Oq Veql (Oq Vpf (Oq Va (KS ?_))))
   refine Kc ?_ ?_
   · intro h28
     have g29 := eq_of_beq h28
     refine KS ?_
     refine Oq Vm (Oq Vadd (Oq Vm (Oq Vadd (Oq Va (Oq Va (KS ?_))))))
     exact Kg (r4, out_5, line_6, (col_7 + 1), open__8, (i_9 + 1), a10, k11) [0] ⟨(q3 hM12 (by simp only [flqref4_Scan_L0, h1, h22, h25, h28, cs4])), (by omega), (by omega), (by omega), iv1, iv1, iv1, iv1⟩
   intro h28
   have g30 := ne_of_beq_false h28
   refine KS ?_
   refine Oq Vm (Oq Veql (Oq Vm ?_))
   refine Js 39 ?_ ?_
   · intro h31
     have g32 := eq_of_beq h31
     refine Osk (Osk (Oq Vpt (Oq Vm (Osk (Osk (Oq Vpt (Oq Va (KS ?_))))))))
     refine Kt ?_
     refine KS ?_
     refine Oq Vm (KS ?_)
     refine Kc ?_ ?_
     · intro h33
       refine KS ?_
       refine Oq Vm (Oq Vm (Oq Vm (Oq (Vbd st95 [vi 3, .string (bs (Str.mk [])), vi line_6, vi col_7]) (Oa (AsV sl86 sz86 [.agg #[vi 3, .string (bs (Str.mk [])), vi line_6, vi col_7]] [vi 3, .string (bs (Str.mk [])), vi line_6, vi col_7]) fun c35 => ?_))))
       refine Jo 0 ?_; rintro a36 k37 rfl
       refine Jl [0] (Ent.cr1 (α := GToken) (A := []) _ (GToken.mk 3 (Str.mk []) line_6 col_7) _ (Nat.le_of_ble_eq_true rfl) (fun h => ⟨rfl, (by unfold i64ok; first | omega | (dsimp only; omega)), (by first | omega | (simp; done) | (dsimp only; omega) | exact lit_bl rfl), (by unfold i64ok; first | omega | (dsimp only; omega)), (by unfold i64ok; first | omega | (dsimp only; omega))⟩)) ?_
       refine Oa (ApO [1, 0] sl86 sl86 sz86) fun c38 => ?_
       refine Jo 0 ?_; rintro a39 k40 rfl
       refine Fb 40 0 fun hl41 => ?_
       have hn42 := la out_5 ([(GToken.mk 3 (Str.mk []) line_6 col_7)] : List GToken)
       refine Oq Va (KS ?_)
       refine Oq Va (KS ?_)
       have hterm51 : flqref4_Scan_L1 text ((text.b.getD i_9.toNat 0).toNat : Int) (text.b.length + 1) col_7 i_9 ≠ LR.oof := (Scan1_term _ _ _ _ _ (by omega)).1
       refine Kl (γ := Nat × Int × Int) (fun (r43, col_44, i_45) => ⟨[(0, .string (bs text)), (7, vi line_6), (8, vi col_44), (10, vi i_45), (11, .int .u8 ((text.b.getD i_9.toNat 0).toNat : Int)), (6, vl a39 k40 (out_5 ++ [(GToken.mk 3 (Str.mk []) line_6 col_7)])), (9, vb false)], [O a39 k40 ((out_5 ++ [(GToken.mk 3 (Str.mk []) line_6 col_7)]) : List GToken)], flqref4_Scan_L1 text ((text.b.getD i_9.toNat 0).toNat : Int) r43 col_44 i_45 = flqref4_Scan_L1 text ((text.b.getD i_9.toNat 0).toNat : Int) (text.b.length + 1) col_7 i_9 ∧ (-9223372036854775808 ≤ col_44 ∧ col_44 ≤ 9223372036854775807) ∧ (-9223372036854775808 ≤ i_45 ∧ i_45 ≤ 9223372036854775807) ∧ (i_9 ≤ i_45 ∧ i_45 ≤ (text.b.length : Int) ∧ col_7 ≤ col_44 ∧ col_44 ≤ col_7 + (i_45 - i_9)) ∧ (((text.b.getD i_9.toNat 0).toNat : Int) = 35 ∨ i_45 = i_9), r43⟩) ((text.b.length + 1), col_7, i_9) [0] ⟨rfl, (by omega), (by omega), iv0, iv0⟩ ?_
       rintro ⟨r43, col_44, i_45⟩ ⟨hM46, hk47, hk48, hv49, hv50⟩
       refine JJ_nx fun _ _ hL hA => ?_; dsimp only at hL hA; subst hL hA
       refine Fb 40 0 fun hl52 => ?_
       rcases r43 with _ | r43
       · exact absurd (hM46.symm.trans rfl) hterm51
       refine KS ?_
       refine Oq Vm (Oq Veql (Oq Vm ?_))
       refine Js 56 ?_ ?_
       · intro h53
         have g54 := eq_of_beq h53
         refine Oq Vm (Oq Vm (Oq (VlS un9 (l := text)) (Oq Vlss (Oq Vpt (Oq Vm ?_)))))
         refine Js 62 ?_ ?_
         · intro h55
           have g56 := of_decide_eq_true h55
           refine Oq Vm (Oq Vm (Oq (Vix un9 (l := text)) ?_))
           have hb57 := u8b (text.b.getD i_45.toNat 0)
           refine Oq Vneq (Oq Vpt (KS ?_))
           refine Kc ?_ ?_
           · intro h58
             have g59 := ne_of_bne h58
             refine KS ?_
             refine Oq Vm (Oq Vadd (Oq Vm (Oq Vadd (Oq Va (Oq Va (KS ?_))))))
             exact Kg (r43, (col_44 + 1), (i_45 + 1)) [0] ⟨(q3 hM46 (by simp only [flqref4_Scan_L1, h1, h22, h25, h28, h31, h33, h53, h55, h58, cs4])), (by omega), (by omega), iv1, iv1⟩
           intro h58
           have g60 := eq_of_bne_false h58
           refine Ke ?_
           have hR61 := q2 hM46 (.brk (col_44, i_45)) (by simp only [flqref4_Scan_L1, h1, h22, h25, h28, h31, h33, h53, h55, h58, cs4])
           refine KS ?_
           refine Oq Vm (Oq Veql (KS ?_))
           refine Kc ?_ ?_
           · intro h62
             have g63 := eq_of_beq h62
             refine KS ?_
             refine Oq Vm (Oq Vadd (Oq Vm (Oq Vadd (Oq Va (Oq Va (KS ?_))))))
             refine Oq Vm (Oq Vm (Oq (VlS un9 (l := text)) (Oq Vlss (Oq Vm ?_))))
             refine Js 82 ?_ ?_
             · intro h64
               have g65 := of_decide_eq_true h64
               refine Oq Vm (Oq Vm (Oq (Vix un9 (l := text)) ?_))
               have hb66 := u8b (text.b.getD ((i_45 + 1) : Int).toNat 0)
               refine Oq Veql (Oq Vpt (Oq Vm ?_))
               refine Js 88 ?_ ?_
               · intro h67
                 have g68 := eq_of_beq h67
                 refine Oq Vm (Oq Vneq (Oq Vpt (KS ?_)))
                 refine Kc ?_ ?_
                 · intro h69
                   exact absurd h69 (by first | (simp [h62]; done) | (simp only [bne, h62]; decide) | (simp only [bne, h62, Bool.not_true, Bool.not_false]; decide) | (exfalso; omega) | (intro hq; simp only [bne, hq, Bool.not_false, Bool.not_true, reduceCtorEq] at h62))
                 intro h69
                 have g70 := eq_of_bne_false h69
                 refine KS ?_
                 exact Kg (r4, (out_5 ++ [(GToken.mk 3 (Str.mk []) line_6 col_7)]), line_6, (col_44 + 1), false, (i_45 + 1), a39, k40) [0] ⟨(q3 hM12 (by simp only [flqref4_Scan_L0, h1, h22, h25, h28, h31, h33, h53, h55, h58, h62, h64, h67, h69, hR61, cs4])), (by omega), (by omega), (by omega), iv1, iv1, iv1, iv1⟩
               intro h67
               have g71 := ne_of_beq_false h67
               refine Osk (Osk (Oq Vpf (KS ?_)))
               refine Kf ?_
               refine KS ?_
               exact Kg (r4, (out_5 ++ [(GToken.mk 3 (Str.mk []) line_6 col_7)]), line_6, (col_44 + 1), false, (i_45 + 1), a39, k40) [0] ⟨(q3 hM12 (by simp only [flqref4_Scan_L0, h1, h22, h25, h28, h31, h33, h53, h55, h58, h62, h64, h67, hR61, cs4])), (by omega), (by omega), (by omega), iv1, iv1, iv1, iv1⟩
             intro h64
             have g72 := of_decide_eq_false h64
             refine Osk (Osk (Osk (Osk (Oq Vpf (Oq Vm (Osk (Osk (Oq Vpf (KS ?_)))))))))
             refine Kf ?_
             refine KS ?_
             exact Kg (r4, (out_5 ++ [(GToken.mk 3 (Str.mk []) line_6 col_7)]), line_6, (col_44 + 1), false, (i_45 + 1), a39, k40) [0] ⟨(q3 hM12 (by simp only [flqref4_Scan_L0, h1, h22, h25, h28, h31, h33, h53, h55, h58, h62, h64, hR61, cs4])), (by omega), (by omega), (by omega), iv1, iv1, iv1, iv1⟩
           intro h62
           have g73 := ne_of_beq_false h62
           refine KS ?_
           refine Oq Vm (Oq Vm (Oq (VlS un9 (l := text)) (Oq Vlss (Oq Vm ?_))))
           refine Js 82 ?_ ?_
           · intro h74
             have g75 := of_decide_eq_true h74
             refine Oq Vm (Oq Vm (Oq (Vix un9 (l := text)) ?_))
             have hb76 := u8b (text.b.getD i_45.toNat 0)
             refine Oq Veql (Oq Vpt (Oq Vm ?_))
             refine Js 88 ?_ ?_
             · intro h77
               have g78 := eq_of_beq h77
               refine Oq Vm (Oq Vneq (Oq Vpt (KS ?_)))
               refine Kc ?_ ?_
               · intro h79
                 have g80 := ne_of_bne h79
                 refine KS ?_
                 refine Oq Vm (Oq Vadd (Oq Vm (Oq Vadd (Oq Va (Oq Va (Oq Va (KS ?_)))))))
                 exact Kg (r4, (out_5 ++ [(GToken.mk 3 (Str.mk []) line_6 col_7)]), (line_6 + 1), 1, false, (i_45 + 1), a39, k40) [0] ⟨(q3 hM12 (by simp only [flqref4_Scan_L0, h1, h22, h25, h28, h31, h33, h53, h55, h58, h62, h74, h77, h79, hR61, cs4])), (by omega), (by omega), (by omega), iv1, iv1, iv1, iv1⟩
               intro h79
               exact absurd h79 (by first | (simp [h62]; done) | (simp only [bne, h62]; decide) | (simp only [bne, h62, Bool.not_true, Bool.not_false]; decide) | (exfalso; omega) | (intro hq; simp only [bne, hq, Bool.not_false, Bool.not_true, reduceCtorEq] at h62))
             intro h77
             exact absurd h77 (by first | (simp [h58]; done) | (simp only [bne, h58]; decide) | (simp only [bne, h58, Bool.not_true, Bool.not_false]; decide) | (exfalso; omega) | (intro hq; simp only [bne, hq, Bool.not_false, Bool.not_true, reduceCtorEq] at h58))
           intro h74
           exact absurd h74 (by first | (simp [h55]; done) | (simp only [bne, h55]; decide) | (simp only [bne, h55, Bool.not_true, Bool.not_false]; decide) | (exfalso; omega) | (intro hq; simp only [bne, hq, Bool.not_false, Bool.not_true, reduceCtorEq] at h55))
         intro h55
         have g81 := of_decide_eq_false h55
         refine Osk (Osk (Osk (Osk (Oq Vpf (KS ?_)))))
         refine Kf ?_
         refine Ke ?_
         have hR82 := q2 hM46 (.brk (col_44, i_45)) (by simp only [flqref4_Scan_L1, h1, h22, h25, h28, h31, h33, h53, h55, cs4])
         refine KS ?_
         refine Oq Vm (Oq Veql (KS ?_))
         refine Kc ?_ ?_
         · intro h83
           have g84 := eq_of_beq h83
           refine KS ?_
           refine Oq Vm (Oq Vadd (Oq Vm (Oq Vadd (Oq Va (Oq Va (KS ?_))))))
           refine Oq Vm (Oq Vm (Oq (VlS un9 (l := text)) (Oq Vlss (Oq Vm ?_))))
           refine Js 82 ?_ ?_
           · intro h85
             have g86 := of_decide_eq_true h85
             refine Oq Vm (Oq Vm (Oq (Vix un9 (l := text)) ?_))
             have hb87 := u8b (text.b.getD ((i_45 + 1) : Int).toNat 0)
             refine Oq Veql (Oq Vpt (Oq Vm ?_))
             refine Js 88 ?_ ?_
             · intro h88
               have g89 := eq_of_beq h88
               refine Oq Vm (Oq Vneq (Oq Vpt (KS ?_)))
               refine Kc ?_ ?_
               · intro h90
                 exact absurd h90 (by first | (simp [h83]; done) | (simp only [bne, h83]; decide) | (simp only [bne, h83, Bool.not_true, Bool.not_false]; decide) | (exfalso; omega) | (intro hq; simp only [bne, hq, Bool.not_false, Bool.not_true, reduceCtorEq] at h83))
               intro h90
               have g91 := eq_of_bne_false h90
               refine KS ?_
               exact Kg (r4, (out_5 ++ [(GToken.mk 3 (Str.mk []) line_6 col_7)]), line_6, (col_44 + 1), false, (i_45 + 1), a39, k40) [0] ⟨(q3 hM12 (by simp only [flqref4_Scan_L0, h1, h22, h25, h28, h31, h33, h53, h55, h83, h85, h88, h90, hR82, cs4])), (by omega), (by omega), (by omega), iv1, iv1, iv1, iv1⟩
             intro h88
             have g92 := ne_of_beq_false h88
             refine Osk (Osk (Oq Vpf (KS ?_)))
             refine Kf ?_
             refine KS ?_
             exact Kg (r4, (out_5 ++ [(GToken.mk 3 (Str.mk []) line_6 col_7)]), line_6, (col_44 + 1), false, (i_45 + 1), a39, k40) [0] ⟨(q3 hM12 (by simp only [flqref4_Scan_L0, h1, h22, h25, h28, h31, h33, h53, h55, h83, h85, h88, hR82, cs4])), (by omega), (by omega), (by omega), iv1, iv1, iv1, iv1⟩
           intro h85
           have g93 := of_decide_eq_false h85
           refine Osk (Osk (Osk (Osk (Oq Vpf (Oq Vm (Osk (Osk (Oq Vpf (KS ?_)))))))))
           refine Kf ?_
           refine KS ?_
           exact Kg (r4, (out_5 ++ [(GToken.mk 3 (Str.mk []) line_6 col_7)]), line_6, (col_44 + 1), false, (i_45 + 1), a39, k40) [0] ⟨(q3 hM12 (by simp only [flqref4_Scan_L0, h1, h22, h25, h28, h31, h33, h53, h55, h83, h85, hR82, cs4])), (by omega), (by omega), (by omega), iv1, iv1, iv1, iv1⟩
         intro h83
         have g94 := ne_of_beq_false h83
         refine KS ?_
         refine Oq Vm (Oq Vm (Oq (VlS un9 (l := text)) (Oq Vlss (Oq Vm ?_))))
         refine Js 82 ?_ ?_
         · intro h95
           exact absurd h95 (by first | (simp [h55]; done) | (simp only [bne, h55]; decide) | (simp only [bne, h55, Bool.not_true, Bool.not_false]; decide) | (exfalso; omega) | (intro hq; simp only [bne, hq, Bool.not_false, Bool.not_true, reduceCtorEq] at h55))
         intro h95
         have g96 := of_decide_eq_false h95
         refine Osk (Osk (Osk (Osk (Oq Vpf (Oq Vm (Osk (Osk (Oq Vpf (KS ?_)))))))))
         refine Kf ?_
         refine KS ?_
         exact Kg (r4, (out_5 ++ [(GToken.mk 3 (Str.mk []) line_6 col_7)]), line_6, col_44, false, i_45, a39, k40) [0] ⟨(q3 hM12 (by simp only [flqref4_Scan_L0, h1, h22, h25, h28, h31, h33, h53, h55, h83, h95, hR82, cs4])), (by omega), (by omega), (by omega), iv1, iv1, iv1, iv1⟩
       intro h53
       have g97 := ne_of_beq_false h53
       refine Osk (Osk (Osk (Osk (Oq Vpf (Oq Vm (Osk (Osk (Osk (Osk ?_)))))))))
       refine Oq Vpf (KS ?_)
       refine Kf ?_
       refine Ke ?_
       have hR98 := q2 hM46 (.brk (col_44, i_45)) (by simp only [flqref4_Scan_L1, h1, h22, h25, h28, h31, h33, h53, cs4])
       refine KS ?_
       refine Oq Vm (Oq Veql (KS ?_))
       refine Kc ?_ ?_
       · intro h99
         have g100 := eq_of_beq h99
         refine KS ?_
         refine Oq Vm (Oq Vadd (Oq Vm (Oq Vadd (Oq Va (Oq Va (KS ?_))))))
         refine Oq Vm (Oq Vm (Oq (VlS un9 (l := text)) (Oq Vlss (Oq Vm ?_))))
         refine Js 82 ?_ ?_
         · intro h101
           have g102 := of_decide_eq_true h101
           refine Oq Vm (Oq Vm (Oq (Vix un9 (l := text)) ?_))
           have hb103 := u8b (text.b.getD ((i_45 + 1) : Int).toNat 0)
           refine Oq Veql (Oq Vpt (Oq Vm ?_))
           refine Js 88 ?_ ?_
           · intro h104
             have g105 := eq_of_beq h104
             refine Oq Vm (Oq Vneq (Oq Vpt (KS ?_)))
             refine Kc ?_ ?_
             · intro h106
               exact absurd h106 (by first | (simp [h99]; done) | (simp only [bne, h99]; decide) | (simp only [bne, h99, Bool.not_true, Bool.not_false]; decide) | (exfalso; omega) | (intro hq; simp only [bne, hq, Bool.not_false, Bool.not_true, reduceCtorEq] at h99))
             intro h106
             have g107 := eq_of_bne_false h106
             refine KS ?_
             exact Kg (r4, (out_5 ++ [(GToken.mk 3 (Str.mk []) line_6 col_7)]), line_6, (col_44 + 1), false, (i_45 + 1), a39, k40) [0] ⟨(q3 hM12 (by simp only [flqref4_Scan_L0, h1, h22, h25, h28, h31, h33, h53, h99, h101, h104, h106, hR98, cs4])), (by omega), (by omega), (by omega), iv1, iv1, iv1, iv1⟩
           intro h104
           have g108 := ne_of_beq_false h104
           refine Osk (Osk (Oq Vpf (KS ?_)))
           refine Kf ?_
           refine KS ?_
           exact Kg (r4, (out_5 ++ [(GToken.mk 3 (Str.mk []) line_6 col_7)]), line_6, (col_44 + 1), false, (i_45 + 1), a39, k40) [0] ⟨(q3 hM12 (by simp only [flqref4_Scan_L0, h1, h22, h25, h28, h31, h33, h53, h99, h101, h104, hR98, cs4])), (by omega), (by omega), (by omega), iv1, iv1, iv1, iv1⟩
         intro h101
         have g109 := of_decide_eq_false h101
         refine Osk (Osk (Osk (Osk (Oq Vpf (Oq Vm (Osk (Osk (Oq Vpf (KS ?_)))))))))
         refine Kf ?_
         refine KS ?_
         exact Kg (r4, (out_5 ++ [(GToken.mk 3 (Str.mk []) line_6 col_7)]), line_6, (col_44 + 1), false, (i_45 + 1), a39, k40) [0] ⟨(q3 hM12 (by simp only [flqref4_Scan_L0, h1, h22, h25, h28, h31, h33, h53, h99, h101, hR98, cs4])), (by omega), (by omega), (by omega), iv1, iv1, iv1, iv1⟩
       intro h99
       have g110 := ne_of_beq_false h99
       refine KS ?_
       refine Oq Vm (Oq Vm (Oq (VlS un9 (l := text)) (Oq Vlss (Oq Vm ?_))))
       refine Js 82 ?_ ?_
       · intro h111
         have g112 := of_decide_eq_true h111
         refine Oq Vm (Oq Vm (Oq (Vix un9 (l := text)) ?_))
         have hb113 := u8b (text.b.getD i_45.toNat 0)
         refine Oq Veql (Oq Vpt (Oq Vm ?_))
         refine Js 88 ?_ ?_
         · intro h114
           have g115 := eq_of_beq h114
           refine Oq Vm (Oq Vneq (Oq Vpt (KS ?_)))
           refine Kc ?_ ?_
           · intro h116
             have g117 := ne_of_bne h116
             refine KS ?_
             refine Oq Vm (Oq Vadd (Oq Vm (Oq Vadd (Oq Va (Oq Va (Oq Va (KS ?_)))))))
             exact Kg (r4, (out_5 ++ [(GToken.mk 3 (Str.mk []) line_6 col_7)]), (line_6 + 1), 1, false, (i_45 + 1), a39, k40) [0] ⟨(q3 hM12 (by simp only [flqref4_Scan_L0, h1, h22, h25, h28, h31, h33, h53, h99, h111, h114, h116, hR98, cs4])), (by omega), (by omega), (by omega), iv1, iv1, iv1, iv1⟩
           intro h116
           exact absurd h116 (by first | (simp [h99]; done) | (simp only [bne, h99]; decide) | (simp only [bne, h99, Bool.not_true, Bool.not_false]; decide) | (exfalso; omega) | (intro hq; simp only [bne, hq, Bool.not_false, Bool.not_true, reduceCtorEq] at h99))
         intro h114
         have g118 := ne_of_beq_false h114
         refine Osk (Osk (Oq Vpf (KS ?_)))
         refine Kf ?_
         refine KS ?_
         exact Kg (r4, (out_5 ++ [(GToken.mk 3 (Str.mk []) line_6 col_7)]), line_6, col_44, false, i_45, a39, k40) [0] ⟨(q3 hM12 (by simp only [flqref4_Scan_L0, h1, h22, h25, h28, h31, h33, h53, h99, h111, h114, hR98, cs4])), (by omega), (by omega), (by omega), iv1, iv1, iv1, iv1⟩
       intro h111
       have g119 := of_decide_eq_false h111
       refine Osk (Osk (Osk (Osk (Oq Vpf (Oq Vm (Osk (Osk (Oq Vpf (KS ?_)))))))))
       refine Kf ?_
       refine KS ?_
       exact Kg (r4, (out_5 ++ [(GToken.mk 3 (Str.mk []) line_6 col_7)]), line_6, col_44, false, i_45, a39, k40) [0] ⟨(q3 hM12 (by simp only [flqref4_Scan_L0, h1, h22, h25, h28, h31, h33, h53, h99, h111, hR98, cs4])), (by omega), (by omega), (by omega), iv1, iv1, iv1, iv1⟩
     intro h33
     refine KS ?_
     refine Oq Va (KS ?_)
     have hterm129 : flqref4_Scan_L1 text ((text.b.getD i_9.toNat 0).toNat : Int) (text.b.length + 1) col_7 i_9 ≠ LR.oof := (Scan1_term _ _ _ _ _ (by omega)).1
     refine Kl (γ := Nat × Int × Int) (fun (r121, col_122, i_123) => ⟨[(0, .string (bs text)), (6, vl a10 k11 out_5), (7, vi line_6), (8, vi col_122), (10, vi i_123), (11, .int .u8 ((text.b.getD i_9.toNat 0).toNat : Int)), (9, vb false)], [O a10 k11 out_5], flqref4_Scan_L1 text ((text.b.getD i_9.toNat 0).toNat : Int) r121 col_122 i_123 = flqref4_Scan_L1 text ((text.b.getD i_9.toNat 0).toNat : Int) (text.b.length + 1) col_7 i_9 ∧ (-9223372036854775808 ≤ col_122 ∧ col_122 ≤ 9223372036854775807) ∧ (-9223372036854775808 ≤ i_123 ∧ i_123 ≤ 9223372036854775807) ∧ (i_9 ≤ i_123 ∧ i_123 ≤ (text.b.length : Int) ∧ col_7 ≤ col_122 ∧ col_122 ≤ col_7 + (i_123 - i_9)) ∧ (((text.b.getD i_9.toNat 0).toNat : Int) = 35 ∨ i_123 = i_9), r121⟩) ((text.b.length + 1), col_7, i_9) [0] ⟨rfl, (by omega), (by omega), iv0, iv0⟩ ?_
     rintro ⟨r121, col_122, i_123⟩ ⟨hM124, hk125, hk126, hv127, hv128⟩
     refine JJ_nx fun _ _ hL hA => ?_; dsimp only at hL hA; subst hL hA
     refine Fb 40 0 fun hl130 => ?_
     rcases r121 with _ | r121
     · exact absurd (hM124.symm.trans rfl) hterm129
     refine KS ?_
     refine Oq Vm (Oq Veql (Oq Vm ?_))
     refine Js 56 ?_ ?_
     · intro h131
       have g132 := eq_of_beq h131
       refine Oq Vm (Oq Vm (Oq (VlS un9 (l := text)) (Oq Vlss (Oq Vpt (Oq Vm ?_)))))
       refine Js 62 ?_ ?_
       · intro h133
         have g134 := of_decide_eq_true h133
         refine Oq Vm (Oq Vm (Oq (Vix un9 (l := text)) ?_))
         have hb135 := u8b (text.b.getD i_123.toNat 0)
         refine Oq Vneq (Oq Vpt (KS ?_))
         refine Kc ?_ ?_
         · intro h136
           have g137 := ne_of_bne h136
           refine KS ?_
           refine Oq Vm (Oq Vadd (Oq Vm (Oq Vadd (Oq Va (Oq Va (KS ?_))))))
           exact Kg (r121, (col_122 + 1), (i_123 + 1)) [0] ⟨(q3 hM124 (by simp only [flqref4_Scan_L1, h1, h22, h25, h28, h31, h33, h131, h133, h136, cs4])), (by omega), (by omega), iv1, iv1⟩
         intro h136
         have g138 := eq_of_bne_false h136
         refine Ke ?_
         have hR139 := q2 hM124 (.brk (col_122, i_123)) (by simp only [flqref4_Scan_L1, h1, h22, h25, h28, h31, h33, h131, h133, h136, cs4])
         refine KS ?_
         refine Oq Vm (Oq Veql (KS ?_))
         refine Kc ?_ ?_
         · intro h140
           have g141 := eq_of_beq h140
           refine KS ?_
           refine Oq Vm (Oq Vadd (Oq Vm (Oq Vadd (Oq Va (Oq Va (KS ?_))))))
           refine Oq Vm (Oq Vm (Oq (VlS un9 (l := text)) (Oq Vlss (Oq Vm ?_))))
           refine Js 82 ?_ ?_
           · intro h142
             have g143 := of_decide_eq_true h142
             refine Oq Vm (Oq Vm (Oq (Vix un9 (l := text)) ?_))
             have hb144 := u8b (text.b.getD ((i_123 + 1) : Int).toNat 0)
             refine Oq Veql (Oq Vpt (Oq Vm ?_))
             refine Js 88 ?_ ?_
             · intro h145
               have g146 := eq_of_beq h145
               refine Oq Vm (Oq Vneq (Oq Vpt (KS ?_)))
               refine Kc ?_ ?_
               · intro h147
                 exact absurd h147 (by first | (simp [h140]; done) | (simp only [bne, h140]; decide) | (simp only [bne, h140, Bool.not_true, Bool.not_false]; decide) | (exfalso; omega) | (intro hq; simp only [bne, hq, Bool.not_false, Bool.not_true, reduceCtorEq] at h140))
               intro h147
               have g148 := eq_of_bne_false h147
               refine KS ?_
               exact Kg (r4, out_5, line_6, (col_122 + 1), false, (i_123 + 1), a10, k11) [0] ⟨(q3 hM12 (by simp only [flqref4_Scan_L0, h1, h22, h25, h28, h31, h33, h131, h133, h136, h140, h142, h145, h147, hR139, cs4])), (by omega), (by omega), (by omega), iv1, iv1, iv1, iv1⟩
             intro h145
             have g149 := ne_of_beq_false h145
             refine Osk (Osk (Oq Vpf (KS ?_)))
             refine Kf ?_
             refine KS ?_
             exact Kg (r4, out_5, line_6, (col_122 + 1), false, (i_123 + 1), a10, k11) [0] ⟨(q3 hM12 (by simp only [flqref4_Scan_L0, h1, h22, h25, h28, h31, h33, h131, h133, h136, h140, h142, h145, hR139, cs4])), (by omega), (by omega), (by omega), iv1, iv1, iv1, iv1⟩
           intro h142
           have g150 := of_decide_eq_false h142
           refine Osk (Osk (Osk (Osk (Oq Vpf (Oq Vm (Osk (Osk (Oq Vpf (KS ?_)))))))))
           refine Kf ?_
           refine KS ?_
           exact Kg (r4, out_5, line_6, (col_122 + 1), false, (i_123 + 1), a10, k11) [0] ⟨(q3 hM12 (by simp only [flqref4_Scan_L0, h1, h22, h25, h28, h31, h33, h131, h133, h136, h140, h142, hR139, cs4])), (by omega), (by omega), (by omega), iv1, iv1, iv1, iv1⟩
         intro h140
         have g151 := ne_of_beq_false h140
         refine KS ?_
         refine Oq Vm (Oq Vm (Oq (VlS un9 (l := text)) (Oq Vlss (Oq Vm ?_))))
         refine Js 82 ?_ ?_
         · intro h152
           have g153 := of_decide_eq_true h152
           refine Oq Vm (Oq Vm (Oq (Vix un9 (l := text)) ?_))
           have hb154 := u8b (text.b.getD i_123.toNat 0)
           refine Oq Veql (Oq Vpt (Oq Vm ?_))
           refine Js 88 ?_ ?_
           · intro h155
             have g156 := eq_of_beq h155
             refine Oq Vm (Oq Vneq (Oq Vpt (KS ?_)))
             refine Kc ?_ ?_
             · intro h157
               have g158 := ne_of_bne h157
               refine KS ?_
               refine Oq Vm (Oq Vadd (Oq Vm (Oq Vadd (Oq Va (Oq Va (Oq Va (KS ?_)))))))
               exact Kg (r4, out_5, (line_6 + 1), 1, false, (i_123 + 1), a10, k11) [0] ⟨(q3 hM12 (by simp only [flqref4_Scan_L0, h1, h22, h25, h28, h31, h33, h131, h133, h136, h140, h152, h155, h157, hR139, cs4])), (by omega), (by omega), (by omega), iv1, iv1, iv1, iv1⟩
             intro h157
             exact absurd h157 (by first | (simp [h140]; done) | (simp only [bne, h140]; decide) | (simp only [bne, h140, Bool.not_true, Bool.not_false]; decide) | (exfalso; omega) | (intro hq; simp only [bne, hq, Bool.not_false, Bool.not_true, reduceCtorEq] at h140))
           intro h155
           exact absurd h155 (by first | (simp [h136]; done) | (simp only [bne, h136]; decide) | (simp only [bne, h136, Bool.not_true, Bool.not_false]; decide) | (exfalso; omega) | (intro hq; simp only [bne, hq, Bool.not_false, Bool.not_true, reduceCtorEq] at h136))
         intro h152
         exact absurd h152 (by first | (simp [h133]; done) | (simp only [bne, h133]; decide) | (simp only [bne, h133, Bool.not_true, Bool.not_false]; decide) | (exfalso; omega) | (intro hq; simp only [bne, hq, Bool.not_false, Bool.not_true, reduceCtorEq] at h133))
       intro h133
       have g159 := of_decide_eq_false h133
       refine Osk (Osk (Osk (Osk (Oq Vpf (KS ?_)))))
       refine Kf ?_
       refine Ke ?_
       have hR160 := q2 hM124 (.brk (col_122, i_123)) (by simp only [flqref4_Scan_L1, h1, h22, h25, h28, h31, h33, h131, h133, cs4])
       refine KS ?_
       refine Oq Vm (Oq Veql (KS ?_))
       refine Kc ?_ ?_
       · intro h161
         have g162 := eq_of_beq h161
         refine KS ?_
         refine Oq Vm (Oq Vadd (Oq Vm (Oq Vadd (Oq Va (Oq Va (KS ?_))))))
         refine Oq Vm (Oq Vm (Oq (VlS un9 (l := text)) (Oq Vlss (Oq Vm ?_))))
         refine Js 82 ?_ ?_
         · intro h163
           have g164 := of_decide_eq_true h163
           refine Oq Vm (Oq Vm (Oq (Vix un9 (l := text)) ?_))
           have hb165 := u8b (text.b.getD ((i_123 + 1) : Int).toNat 0)
           refine Oq Veql (Oq Vpt (Oq Vm ?_))
           refine Js 88 ?_ ?_
           · intro h166
             have g167 := eq_of_beq h166
             refine Oq Vm (Oq Vneq (Oq Vpt (KS ?_)))
             refine Kc ?_ ?_
             · intro h168
               exact absurd h168 (by first | (simp [h161]; done) | (simp only [bne, h161]; decide) | (simp only [bne, h161, Bool.not_true, Bool.not_false]; decide) | (exfalso; omega) | (intro hq; simp only [bne, hq, Bool.not_false, Bool.not_true, reduceCtorEq] at h161))
             intro h168
             have g169 := eq_of_bne_false h168
             refine KS ?_
             exact Kg (r4, out_5, line_6, (col_122 + 1), false, (i_123 + 1), a10, k11) [0] ⟨(q3 hM12 (by simp only [flqref4_Scan_L0, h1, h22, h25, h28, h31, h33, h131, h133, h161, h163, h166, h168, hR160, cs4])), (by omega), (by omega), (by omega), iv1, iv1, iv1, iv1⟩
           intro h166
           have g170 := ne_of_beq_false h166
           refine Osk (Osk (Oq Vpf (KS ?_)))
           refine Kf ?_
           refine KS ?_
           exact Kg (r4, out_5, line_6, (col_122 + 1), false, (i_123 + 1), a10, k11) [0] ⟨(q3 hM12 (by simp only [flqref4_Scan_L0, h1, h22, h25, h28, h31, h33, h131, h133, h161, h163, h166, hR160, cs4])), (by omega), (by omega), (by omega), iv1, iv1, iv1, iv1⟩
         intro h163
         have g171 := of_decide_eq_false h163
         refine Osk (Osk (Osk (Osk (Oq Vpf (Oq Vm (Osk (Osk (Oq Vpf (KS ?_)))))))))
         refine Kf ?_
         refine KS ?_
         exact Kg (r4, out_5, line_6, (col_122 + 1), false, (i_123 + 1), a10, k11) [0] ⟨(q3 hM12 (by simp only [flqref4_Scan_L0, h1, h22, h25, h28, h31, h33, h131, h133, h161, h163, hR160, cs4])), (by omega), (by omega), (by omega), iv1, iv1, iv1, iv1⟩
       intro h161
       have g172 := ne_of_beq_false h161
       refine KS ?_
       refine Oq Vm (Oq Vm (Oq (VlS un9 (l := text)) (Oq Vlss (Oq Vm ?_))))
       refine Js 82 ?_ ?_
       · intro h173
         exact absurd h173 (by first | (simp [h133]; done) | (simp only [bne, h133]; decide) | (simp only [bne, h133, Bool.not_true, Bool.not_false]; decide) | (exfalso; omega) | (intro hq; simp only [bne, hq, Bool.not_false, Bool.not_true, reduceCtorEq] at h133))
       intro h173
       have g174 := of_decide_eq_false h173
       refine Osk (Osk (Osk (Osk (Oq Vpf (Oq Vm (Osk (Osk (Oq Vpf (KS ?_)))))))))
       refine Kf ?_
       refine KS ?_
       exact Kg (r4, out_5, line_6, col_122, false, i_123, a10, k11) [0] ⟨(q3 hM12 (by simp only [flqref4_Scan_L0, h1, h22, h25, h28, h31, h33, h131, h133, h161, h173, hR160, cs4])), (by omega), (by omega), (by omega), iv1, iv1, iv1, iv1⟩
     intro h131
     have g175 := ne_of_beq_false h131
     refine Osk (Osk (Osk (Osk (Oq Vpf (Oq Vm (Osk (Osk (Osk (Osk ?_)))))))))
     refine Oq Vpf (KS ?_)
     refine Kf ?_
     refine Ke ?_
     have hR176 := q2 hM124 (.brk (col_122, i_123)) (by simp only [flqref4_Scan_L1, h1, h22, h25, h28, h31, h33, h131, cs4])
     refine KS ?_
     refine Oq Vm (Oq Veql (KS ?_))
     refine Kc ?_ ?_
     · intro h177
       have g178 := eq_of_beq h177
       refine KS ?_
       refine Oq Vm (Oq Vadd (Oq Vm (Oq Vadd (Oq Va (Oq Va (KS ?_))))))
       refine Oq Vm (Oq Vm (Oq (VlS un9 (l := text)) (Oq Vlss (Oq Vm ?_))))
       refine Js 82 ?_ ?_
       · intro h179
         have g180 := of_decide_eq_true h179
         refine Oq Vm (Oq Vm (Oq (Vix un9 (l := text)) ?_))
         have hb181 := u8b (text.b.getD ((i_123 + 1) : Int).toNat 0)
         refine Oq Veql (Oq Vpt (Oq Vm ?_))
         refine Js 88 ?_ ?_
         · intro h182
           have g183 := eq_of_beq h182
           refine Oq Vm (Oq Vneq (Oq Vpt (KS ?_)))
           refine Kc ?_ ?_
           · intro h184
             exact absurd h184 (by first | (simp [h177]; done) | (simp only [bne, h177]; decide) | (simp only [bne, h177, Bool.not_true, Bool.not_false]; decide) | (exfalso; omega) | (intro hq; simp only [bne, hq, Bool.not_false, Bool.not_true, reduceCtorEq] at h177))
           intro h184
           have g185 := eq_of_bne_false h184
           refine KS ?_
           exact Kg (r4, out_5, line_6, (col_122 + 1), false, (i_123 + 1), a10, k11) [0] ⟨(q3 hM12 (by simp only [flqref4_Scan_L0, h1, h22, h25, h28, h31, h33, h131, h177, h179, h182, h184, hR176, cs4])), (by omega), (by omega), (by omega), iv1, iv1, iv1, iv1⟩
         intro h182
         have g186 := ne_of_beq_false h182
         refine Osk (Osk (Oq Vpf (KS ?_)))
         refine Kf ?_
         refine KS ?_
         exact Kg (r4, out_5, line_6, (col_122 + 1), false, (i_123 + 1), a10, k11) [0] ⟨(q3 hM12 (by simp only [flqref4_Scan_L0, h1, h22, h25, h28, h31, h33, h131, h177, h179, h182, hR176, cs4])), (by omega), (by omega), (by omega), iv1, iv1, iv1, iv1⟩
       intro h179
       have g187 := of_decide_eq_false h179
       refine Osk (Osk (Osk (Osk (Oq Vpf (Oq Vm (Osk (Osk (Oq Vpf (KS ?_)))))))))
       refine Kf ?_
       refine KS ?_
       exact Kg (r4, out_5, line_6, (col_122 + 1), false, (i_123 + 1), a10, k11) [0] ⟨(q3 hM12 (by simp only [flqref4_Scan_L0, h1, h22, h25, h28, h31, h33, h131, h177, h179, hR176, cs4])), (by omega), (by omega), (by omega), iv1, iv1, iv1, iv1⟩
     intro h177
     have g188 := ne_of_beq_false h177
     refine KS ?_
     refine Oq Vm (Oq Vm (Oq (VlS un9 (l := text)) (Oq Vlss (Oq Vm ?_))))
     refine Js 82 ?_ ?_
     · intro h189
       have g190 := of_decide_eq_true h189
       refine Oq Vm (Oq Vm (Oq (Vix un9 (l := text)) ?_))
       have hb191 := u8b (text.b.getD i_123.toNat 0)
       refine Oq Veql (Oq Vpt (Oq Vm ?_))
       refine Js 88 ?_ ?_
       · intro h192
         have g193 := eq_of_beq h192
         refine Oq Vm (Oq Vneq (Oq Vpt (KS ?_)))
         refine Kc ?_ ?_
         · intro h194
           have g195 := ne_of_bne h194
           refine KS ?_
           refine Oq Vm (Oq Vadd (Oq Vm (Oq Vadd (Oq Va (Oq Va (Oq Va (KS ?_)))))))
           exact Kg (r4, out_5, (line_6 + 1), 1, false, (i_123 + 1), a10, k11) [0] ⟨(q3 hM12 (by simp only [flqref4_Scan_L0, h1, h22, h25, h28, h31, h33, h131, h177, h189, h192, h194, hR176, cs4])), (by omega), (by omega), (by omega), iv1, iv1, iv1, iv1⟩
         intro h194
         exact absurd h194 (by first | (simp [h177]; done) | (simp only [bne, h177]; decide) | (simp only [bne, h177, Bool.not_true, Bool.not_false]; decide) | (exfalso; omega) | (intro hq; simp only [bne, hq, Bool.not_false, Bool.not_true, reduceCtorEq] at h177))
       intro h192
       have g196 := ne_of_beq_false h192
       refine Osk (Osk (Oq Vpf (KS ?_)))
       refine Kf ?_
       refine KS ?_
       exact Kg (r4, out_5, line_6, col_122, false, i_123, a10, k11) [0] ⟨(q3 hM12 (by simp only [flqref4_Scan_L0, h1, h22, h25, h28, h31, h33, h131, h177, h189, h192, hR176, cs4])), (by omega), (by omega), (by omega), iv1, iv1, iv1, iv1⟩
     intro h189
     have g197 := of_decide_eq_false h189
     refine Osk (Osk (Osk (Osk (Oq Vpf (Oq Vm (Osk (Osk (Oq Vpf (KS ?_)))))))))
     refine Kf ?_
     refine KS ?_
     exact Kg (r4, out_5, line_6, col_122, false, i_123, a10, k11) [0] ⟨(q3 hM12 (by simp only [flqref4_Scan_L0, h1, h22, h25, h28, h31, h33, h131, h177, h189, hR176, cs4])), (by omega), (by omega), (by omega), iv1, iv1, iv1, iv1⟩
   intro h31
   have g198 := ne_of_beq_false h31
   refine Oq Vm (Oq Veql (Oq Vpf (Oq Vm ?_)))
   refine Js 43 ?_ ?_
   · intro h199
     have g200 := eq_of_beq h199
     refine Osk (Osk (Oq Vpt (Oq Va (KS ?_))))
     refine Kt ?_
     refine KS ?_
     refine Oq Vm (KS ?_)
     refine Kc ?_ ?_
     · intro h201
       refine KS ?_
       refine Oq Vm (Oq Vm (Oq Vm (Oq (Vbd st95 [vi 3, .string (bs (Str.mk [])), vi line_6, vi col_7]) (Oa (AsV sl86 sz86 [.agg #[vi 3, .string (bs (Str.mk [])), vi line_6, vi col_7]] [vi 3, .string (bs (Str.mk [])), vi line_6, vi col_7]) fun c203 => ?_))))
       refine Jo 0 ?_; rintro a204 k205 rfl
       refine Jl [0] (Ent.cr1 (α := GToken) (A := []) _ (GToken.mk 3 (Str.mk []) line_6 col_7) _ (Nat.le_of_ble_eq_true rfl) (fun h => ⟨rfl, (by unfold i64ok; first | omega | (dsimp only; omega)), (by first | omega | (simp; done) | (dsimp only; omega) | exact lit_bl rfl), (by unfold i64ok; first | omega | (dsimp only; omega)), (by unfold i64ok; first | omega | (dsimp only; omega))⟩)) ?_
       refine Oa (ApO [1, 0] sl86 sl86 sz86) fun c206 => ?_
       refine Jo 0 ?_; rintro a207 k208 rfl
       refine Fb 40 0 fun hl209 => ?_
       have hn210 := la out_5 ([(GToken.mk 3 (Str.mk []) line_6 col_7)] : List GToken)
       refine Oq Va (KS ?_)
       refine Oq Va (KS ?_)
       have hterm219 : flqref4_Scan_L1 text ((text.b.getD i_9.toNat 0).toNat : Int) (text.b.length + 1) col_7 i_9 ≠ LR.oof := (Scan1_term _ _ _ _ _ (by omega)).1
       refine Kl (γ := Nat × Int × Int) (fun (r211, col_212, i_213) => ⟨[(0, .string (bs text)), (7, vi line_6), (8, vi col_212), (10, vi i_213), (11, .int .u8 ((text.b.getD i_9.toNat 0).toNat : Int)), (6, vl a207 k208 (out_5 ++ [(GToken.mk 3 (Str.mk []) line_6 col_7)])), (9, vb false)], [O a207 k208 ((out_5 ++ [(GToken.mk 3 (Str.mk []) line_6 col_7)]) : List GToken)], flqref4_Scan_L1 text ((text.b.getD i_9.toNat 0).toNat : Int) r211 col_212 i_213 = flqref4_Scan_L1 text ((text.b.getD i_9.toNat 0).toNat : Int) (text.b.length + 1) col_7 i_9 ∧ (-9223372036854775808 ≤ col_212 ∧ col_212 ≤ 9223372036854775807) ∧ (-9223372036854775808 ≤ i_213 ∧ i_213 ≤ 9223372036854775807) ∧ (i_9 ≤ i_213 ∧ i_213 ≤ (text.b.length : Int) ∧ col_7 ≤ col_212 ∧ col_212 ≤ col_7 + (i_213 - i_9)) ∧ (((text.b.getD i_9.toNat 0).toNat : Int) = 35 ∨ i_213 = i_9), r211⟩) ((text.b.length + 1), col_7, i_9) [0] ⟨rfl, (by omega), (by omega), iv0, iv0⟩ ?_
       rintro ⟨r211, col_212, i_213⟩ ⟨hM214, hk215, hk216, hv217, hv218⟩
       refine JJ_nx fun _ _ hL hA => ?_; dsimp only at hL hA; subst hL hA
       refine Fb 40 0 fun hl220 => ?_
       rcases r211 with _ | r211
       · exact absurd (hM214.symm.trans rfl) hterm219
       refine KS ?_
       refine Oq Vm (Oq Veql (Oq Vm ?_))
       refine Js 56 ?_ ?_
       · intro h221
         have g222 := eq_of_beq h221
         refine Oq Vm (Oq Vm (Oq (VlS un9 (l := text)) (Oq Vlss (Oq Vpt (Oq Vm ?_)))))
         refine Js 62 ?_ ?_
         · intro h223
           have g224 := of_decide_eq_true h223
           refine Oq Vm (Oq Vm (Oq (Vix un9 (l := text)) ?_))
           have hb225 := u8b (text.b.getD i_213.toNat 0)
           refine Oq Vneq (Oq Vpt (KS ?_))
           refine Kc ?_ ?_
           · intro h226
             have g227 := ne_of_bne h226
             refine KS ?_
             refine Oq Vm (Oq Vadd (Oq Vm (Oq Vadd (Oq Va (Oq Va (KS ?_))))))
             exact Kg (r211, (col_212 + 1), (i_213 + 1)) [0] ⟨(q3 hM214 (by simp only [flqref4_Scan_L1, h1, h22, h25, h28, h31, h199, h201, h221, h223, h226, cs4])), (by omega), (by omega), iv1, iv1⟩
           intro h226
           have g228 := eq_of_bne_false h226
           refine Ke ?_
           have hR229 := q2 hM214 (.brk (col_212, i_213)) (by simp only [flqref4_Scan_L1, h1, h22, h25, h28, h31, h199, h201, h221, h223, h226, cs4])
           refine KS ?_
           refine Oq Vm (Oq Veql (KS ?_))
           refine Kc ?_ ?_
           · intro h230
             have g231 := eq_of_beq h230
             refine KS ?_
             refine Oq Vm (Oq Vadd (Oq Vm (Oq Vadd (Oq Va (Oq Va (KS ?_))))))
             refine Oq Vm (Oq Vm (Oq (VlS un9 (l := text)) (Oq Vlss (Oq Vm ?_))))
             refine Js 82 ?_ ?_
             · intro h232
               have g233 := of_decide_eq_true h232
               refine Oq Vm (Oq Vm (Oq (Vix un9 (l := text)) ?_))
               have hb234 := u8b (text.b.getD ((i_213 + 1) : Int).toNat 0)
               refine Oq Veql (Oq Vpt (Oq Vm ?_))
               refine Js 88 ?_ ?_
               · intro h235
                 have g236 := eq_of_beq h235
                 refine Oq Vm (Oq Vneq (Oq Vpt (KS ?_)))
                 refine Kc ?_ ?_
                 · intro h237
                   exact absurd h237 (by first | (simp [h230]; done) | (simp only [bne, h230]; decide) | (simp only [bne, h230, Bool.not_true, Bool.not_false]; decide) | (exfalso; omega) | (intro hq; simp only [bne, hq, Bool.not_false, Bool.not_true, reduceCtorEq] at h230))
                 intro h237
                 have g238 := eq_of_bne_false h237
                 refine KS ?_
                 exact Kg (r4, (out_5 ++ [(GToken.mk 3 (Str.mk []) line_6 col_7)]), line_6, (col_212 + 1), false, (i_213 + 1), a207, k208) [0] ⟨(q3 hM12 (by simp only [flqref4_Scan_L0, h1, h22, h25, h28, h31, h199, h201, h221, h223, h226, h230, h232, h235, h237, hR229, cs4])), (by omega), (by omega), (by omega), iv1, iv1, iv1, iv1⟩
               intro h235
               have g239 := ne_of_beq_false h235
               refine Osk (Osk (Oq Vpf (KS ?_)))
               refine Kf ?_
               refine KS ?_
               exact Kg (r4, (out_5 ++ [(GToken.mk 3 (Str.mk []) line_6 col_7)]), line_6, (col_212 + 1), false, (i_213 + 1), a207, k208) [0] ⟨(q3 hM12 (by simp only [flqref4_Scan_L0, h1, h22, h25, h28, h31, h199, h201, h221, h223, h226, h230, h232, h235, hR229, cs4])), (by omega), (by omega), (by omega), iv1, iv1, iv1, iv1⟩
             intro h232
             have g240 := of_decide_eq_false h232
             refine Osk (Osk (Osk (Osk (Oq Vpf (Oq Vm (Osk (Osk (Oq Vpf (KS ?_)))))))))
             refine Kf ?_
             refine KS ?_
             exact Kg (r4, (out_5 ++ [(GToken.mk 3 (Str.mk []) line_6 col_7)]), line_6, (col_212 + 1), false, (i_213 + 1), a207, k208) [0] ⟨(q3 hM12 (by simp only [flqref4_Scan_L0, h1, h22, h25, h28, h31, h199, h201, h221, h223, h226, h230, h232, hR229, cs4])), (by omega), (by omega), (by omega), iv1, iv1, iv1, iv1⟩
           intro h230
           exact absurd h230 (by first | (simp [h199]; done) | (simp only [bne, h199]; decide) | (simp only [bne, h199, Bool.not_true, Bool.not_false]; decide) | (exfalso; omega) | (intro hq; simp only [bne, hq, Bool.not_false, Bool.not_true, reduceCtorEq] at h199))
         intro h223
         have g241 := of_decide_eq_false h223
         refine Osk (Osk (Osk (Osk (Oq Vpf (KS ?_)))))
         refine Kf ?_
         refine Ke ?_
         have hR242 := q2 hM214 (.brk (col_212, i_213)) (by simp only [flqref4_Scan_L1, h1, h22, h25, h28, h31, h199, h201, h221, h223, cs4])
         refine KS ?_
         refine Oq Vm (Oq Veql (KS ?_))
         refine Kc ?_ ?_
         · intro h243
           have g244 := eq_of_beq h243
           refine KS ?_
           refine Oq Vm (Oq Vadd (Oq Vm (Oq Vadd (Oq Va (Oq Va (KS ?_))))))
           refine Oq Vm (Oq Vm (Oq (VlS un9 (l := text)) (Oq Vlss (Oq Vm ?_))))
           refine Js 82 ?_ ?_
           · intro h245
             have g246 := of_decide_eq_true h245
             refine Oq Vm (Oq Vm (Oq (Vix un9 (l := text)) ?_))
             have hb247 := u8b (text.b.getD ((i_213 + 1) : Int).toNat 0)
             refine Oq Veql (Oq Vpt (Oq Vm ?_))
             refine Js 88 ?_ ?_
             · intro h248
               have g249 := eq_of_beq h248
               refine Oq Vm (Oq Vneq (Oq Vpt (KS ?_)))
               refine Kc ?_ ?_
               · intro h250
                 exact absurd h250 (by first | (simp [h243]; done) | (simp only [bne, h243]; decide) | (simp only [bne, h243, Bool.not_true, Bool.not_false]; decide) | (exfalso; omega) | (intro hq; simp only [bne, hq, Bool.not_false, Bool.not_true, reduceCtorEq] at h243))
               intro h250
               have g251 := eq_of_bne_false h250
               refine KS ?_
               exact Kg (r4, (out_5 ++ [(GToken.mk 3 (Str.mk []) line_6 col_7)]), line_6, (col_212 + 1), false, (i_213 + 1), a207, k208) [0] ⟨(q3 hM12 (by simp only [flqref4_Scan_L0, h1, h22, h25, h28, h31, h199, h201, h221, h223, h243, h245, h248, h250, hR242, cs4])), (by omega), (by omega), (by omega), iv1, iv1, iv1, iv1⟩
             intro h248
             have g252 := ne_of_beq_false h248
             refine Osk (Osk (Oq Vpf (KS ?_)))
             refine Kf ?_
             refine KS ?_
             exact Kg (r4, (out_5 ++ [(GToken.mk 3 (Str.mk []) line_6 col_7)]), line_6, (col_212 + 1), false, (i_213 + 1), a207, k208) [0] ⟨(q3 hM12 (by simp only [flqref4_Scan_L0, h1, h22, h25, h28, h31, h199, h201, h221, h223, h243, h245, h248, hR242, cs4])), (by omega), (by omega), (by omega), iv1, iv1, iv1, iv1⟩
           intro h245
           have g253 := of_decide_eq_false h245
           refine Osk (Osk (Osk (Osk (Oq Vpf (Oq Vm (Osk (Osk (Oq Vpf (KS ?_)))))))))
           refine Kf ?_
           refine KS ?_
           exact Kg (r4, (out_5 ++ [(GToken.mk 3 (Str.mk []) line_6 col_7)]), line_6, (col_212 + 1), false, (i_213 + 1), a207, k208) [0] ⟨(q3 hM12 (by simp only [flqref4_Scan_L0, h1, h22, h25, h28, h31, h199, h201, h221, h223, h243, h245, hR242, cs4])), (by omega), (by omega), (by omega), iv1, iv1, iv1, iv1⟩
         intro h243
         exact absurd h243 (by first | (simp [h199]; done) | (simp only [bne, h199]; decide) | (simp only [bne, h199, Bool.not_true, Bool.not_false]; decide) | (exfalso; omega) | (intro hq; simp only [bne, hq, Bool.not_false, Bool.not_true, reduceCtorEq] at h199))
       intro h221
       have g254 := ne_of_beq_false h221
       refine Osk (Osk (Osk (Osk (Oq Vpf (Oq Vm (Osk (Osk (Osk (Osk ?_)))))))))
       refine Oq Vpf (KS ?_)
       refine Kf ?_
       refine Ke ?_
       have hR255 := q2 hM214 (.brk (col_212, i_213)) (by simp only [flqref4_Scan_L1, h1, h22, h25, h28, h31, h199, h201, h221, cs4])
       refine KS ?_
       refine Oq Vm (Oq Veql (KS ?_))
       refine Kc ?_ ?_
       · intro h256
         have g257 := eq_of_beq h256
         refine KS ?_
         refine Oq Vm (Oq Vadd (Oq Vm (Oq Vadd (Oq Va (Oq Va (KS ?_))))))
         refine Oq Vm (Oq Vm (Oq (VlS un9 (l := text)) (Oq Vlss (Oq Vm ?_))))
         refine Js 82 ?_ ?_
         · intro h258
           have g259 := of_decide_eq_true h258
           refine Oq Vm (Oq Vm (Oq (Vix un9 (l := text)) ?_))
           have hb260 := u8b (text.b.getD ((i_213 + 1) : Int).toNat 0)
           refine Oq Veql (Oq Vpt (Oq Vm ?_))
           refine Js 88 ?_ ?_
           · intro h261
             have g262 := eq_of_beq h261
             refine Oq Vm (Oq Vneq (Oq Vpt (KS ?_)))
             refine Kc ?_ ?_
             · intro h263
               exact absurd h263 (by first | (simp [h256]; done) | (simp only [bne, h256]; decide) | (simp only [bne, h256, Bool.not_true, Bool.not_false]; decide) | (exfalso; omega) | (intro hq; simp only [bne, hq, Bool.not_false, Bool.not_true, reduceCtorEq] at h256))
             intro h263
             have g264 := eq_of_bne_false h263
             refine KS ?_
             exact Kg (r4, (out_5 ++ [(GToken.mk 3 (Str.mk []) line_6 col_7)]), line_6, (col_212 + 1), false, (i_213 + 1), a207, k208) [0] ⟨(q3 hM12 (by simp only [flqref4_Scan_L0, h1, h22, h25, h28, h31, h199, h201, h221, h256, h258, h261, h263, hR255, cs4])), (by omega), (by omega), (by omega), iv1, iv1, iv1, iv1⟩
           intro h261
           have g265 := ne_of_beq_false h261
           refine Osk (Osk (Oq Vpf (KS ?_)))
           refine Kf ?_
           refine KS ?_
           exact Kg (r4, (out_5 ++ [(GToken.mk 3 (Str.mk []) line_6 col_7)]), line_6, (col_212 + 1), false, (i_213 + 1), a207, k208) [0] ⟨(q3 hM12 (by simp only [flqref4_Scan_L0, h1, h22, h25, h28, h31, h199, h201, h221, h256, h258, h261, hR255, cs4])), (by omega), (by omega), (by omega), iv1, iv1, iv1, iv1⟩
         intro h258
         have g266 := of_decide_eq_false h258
         refine Osk (Osk (Osk (Osk (Oq Vpf (Oq Vm (Osk (Osk (Oq Vpf (KS ?_)))))))))
         refine Kf ?_
         refine KS ?_
         exact Kg (r4, (out_5 ++ [(GToken.mk 3 (Str.mk []) line_6 col_7)]), line_6, (col_212 + 1), false, (i_213 + 1), a207, k208) [0] ⟨(q3 hM12 (by simp only [flqref4_Scan_L0, h1, h22, h25, h28, h31, h199, h201, h221, h256, h258, hR255, cs4])), (by omega), (by omega), (by omega), iv1, iv1, iv1, iv1⟩
       intro h256
       exact absurd h256 (by first | (simp [h199]; done) | (simp only [bne, h199]; decide) | (simp only [bne, h199, Bool.not_true, Bool.not_false]; decide) | (exfalso; omega) | (intro hq; simp only [bne, hq, Bool.not_false, Bool.not_true, reduceCtorEq] at h199))
     intro h201
     refine KS ?_
     refine Oq Va (KS ?_)
     have hterm276 : flqref4_Scan_L1 text ((text.b.getD i_9.toNat 0).toNat : Int) (text.b.length + 1) col_7 i_9 ≠ LR.oof := (Scan1_term _ _ _ _ _ (by omega)).1
     refine Kl (γ := Nat × Int × Int) (fun (r268, col_269, i_270) => ⟨[(0, .string (bs text)), (6, vl a10 k11 out_5), (7, vi line_6), (8, vi col_269), (10, vi i_270), (11, .int .u8 ((text.b.getD i_9.toNat 0).toNat : Int)), (9, vb false)], [O a10 k11 out_5], flqref4_Scan_L1 text ((text.b.getD i_9.toNat 0).toNat : Int) r268 col_269 i_270 = flqref4_Scan_L1 text ((text.b.getD i_9.toNat 0).toNat : Int) (text.b.length + 1) col_7 i_9 ∧ (-9223372036854775808 ≤ col_269 ∧ col_269 ≤ 9223372036854775807) ∧ (-9223372036854775808 ≤ i_270 ∧ i_270 ≤ 9223372036854775807) ∧ (i_9 ≤ i_270 ∧ i_270 ≤ (text.b.length : Int) ∧ col_7 ≤ col_269 ∧ col_269 ≤ col_7 + (i_270 - i_9)) ∧ (((text.b.getD i_9.toNat 0).toNat : Int) = 35 ∨ i_270 = i_9), r268⟩) ((text.b.length + 1), col_7, i_9) [0] ⟨rfl, (by omega), (by omega), iv0, iv0⟩ ?_
     rintro ⟨r268, col_269, i_270⟩ ⟨hM271, hk272, hk273, hv274, hv275⟩
     refine JJ_nx fun _ _ hL hA => ?_; dsimp only at hL hA; subst hL hA
     refine Fb 40 0 fun hl277 => ?_
     rcases r268 with _ | r268
     · exact absurd (hM271.symm.trans rfl) hterm276
     refine KS ?_
     refine Oq Vm (Oq Veql (Oq Vm ?_))
     refine Js 56 ?_ ?_
     · intro h278
       have g279 := eq_of_beq h278
       refine Oq Vm (Oq Vm (Oq (VlS un9 (l := text)) (Oq Vlss (Oq Vpt (Oq Vm ?_)))))
       refine Js 62 ?_ ?_
       · intro h280
         have g281 := of_decide_eq_true h280
         refine Oq Vm (Oq Vm (Oq (Vix un9 (l := text)) ?_))
         have hb282 := u8b (text.b.getD i_270.toNat 0)
         refine Oq Vneq (Oq Vpt (KS ?_))
         refine Kc ?_ ?_
         · intro h283
           have g284 := ne_of_bne h283
           refine KS ?_
           refine Oq Vm (Oq Vadd (Oq Vm (Oq Vadd (Oq Va (Oq Va (KS ?_))))))
           exact Kg (r268, (col_269 + 1), (i_270 + 1)) [0] ⟨(q3 hM271 (by simp only [flqref4_Scan_L1, h1, h22, h25, h28, h31, h199, h201, h278, h280, h283, cs4])), (by omega), (by omega), iv1, iv1⟩
         intro h283
         have g285 := eq_of_bne_false h283
         refine Ke ?_
         have hR286 := q2 hM271 (.brk (col_269, i_270)) (by simp only [flqref4_Scan_L1, h1, h22, h25, h28, h31, h199, h201, h278, h280, h283, cs4])
         refine KS ?_
         refine Oq Vm (Oq Veql (KS ?_))
         refine Kc ?_ ?_
         · intro h287
           have g288 := eq_of_beq h287
           refine KS ?_
           refine Oq Vm (Oq Vadd (Oq Vm (Oq Vadd (Oq Va (Oq Va (KS ?_))))))
           refine Oq Vm (Oq Vm (Oq (VlS un9 (l := text)) (Oq Vlss (Oq Vm ?_))))
           refine Js 82 ?_ ?_
           · intro h289
             have g290 := of_decide_eq_true h289
             refine Oq Vm (Oq Vm (Oq (Vix un9 (l := text)) ?_))
             have hb291 := u8b (text.b.getD ((i_270 + 1) : Int).toNat 0)
             refine Oq Veql (Oq Vpt (Oq Vm ?_))
             refine Js 88 ?_ ?_
             · intro h292
               have g293 := eq_of_beq h292
               refine Oq Vm (Oq Vneq (Oq Vpt (KS ?_)))
               refine Kc ?_ ?_
               · intro h294
                 exact absurd h294 (by first | (simp [h287]; done) | (simp only [bne, h287]; decide) | (simp only [bne, h287, Bool.not_true, Bool.not_false]; decide) | (exfalso; omega) | (intro hq; simp only [bne, hq, Bool.not_false, Bool.not_true, reduceCtorEq] at h287))
               intro h294
               have g295 := eq_of_bne_false h294
               refine KS ?_
               exact Kg (r4, out_5, line_6, (col_269 + 1), false, (i_270 + 1), a10, k11) [0] ⟨(q3 hM12 (by simp only [flqref4_Scan_L0, h1, h22, h25, h28, h31, h199, h201, h278, h280, h283, h287, h289, h292, h294, hR286, cs4])), (by omega), (by omega), (by omega), iv1, iv1, iv1, iv1⟩
             intro h292
             have g296 := ne_of_beq_false h292
             refine Osk (Osk (Oq Vpf (KS ?_)))
             refine Kf ?_
             refine KS ?_
             exact Kg (r4, out_5, line_6, (col_269 + 1), false, (i_270 + 1), a10, k11) [0] ⟨(q3 hM12 (by simp only [flqref4_Scan_L0, h1, h22, h25, h28, h31, h199, h201, h278, h280, h283, h287, h289, h292, hR286, cs4])), (by omega), (by omega), (by omega), iv1, iv1, iv1, iv1⟩
           intro h289
           have g297 := of_decide_eq_false h289
           refine Osk (Osk (Osk (Osk (Oq Vpf (Oq Vm (Osk (Osk (Oq Vpf (KS ?_)))))))))
           refine Kf ?_
           refine KS ?_
           exact Kg (r4, out_5, line_6, (col_269 + 1), false, (i_270 + 1), a10, k11) [0] ⟨(q3 hM12 (by simp only [flqref4_Scan_L0, h1, h22, h25, h28, h31, h199, h201, h278, h280, h283, h287, h289, hR286, cs4])), (by omega), (by omega), (by omega), iv1, iv1, iv1, iv1⟩
         intro h287
         exact absurd h287 (by first | (simp [h199]; done) | (simp only [bne, h199]; decide) | (simp only [bne, h199, Bool.not_true, Bool.not_false]; decide) | (exfalso; omega) | (intro hq; simp only [bne, hq, Bool.not_false, Bool.not_true, reduceCtorEq] at h199))
       intro h280
       have g298 := of_decide_eq_false h280
       refine Osk (Osk (Osk (Osk (Oq Vpf (KS ?_)))))
       refine Kf ?_
       refine Ke ?_
       have hR299 := q2 hM271 (.brk (col_269, i_270)) (by simp only [flqref4_Scan_L1, h1, h22, h25, h28, h31, h199, h201, h278, h280, cs4])
       refine KS ?_
       refine Oq Vm (Oq Veql (KS ?_))
       refine Kc ?_ ?_
       · intro h300
         have g301 := eq_of_beq h300
         refine KS ?_
         refine Oq Vm (Oq Vadd (Oq Vm (Oq Vadd (Oq Va (Oq Va (KS ?_))))))
         refine Oq Vm (Oq Vm (Oq (VlS un9 (l := text)) (Oq Vlss (Oq Vm ?_))))
         refine Js 82 ?_ ?_
         · intro h302
           have g303 := of_decide_eq_true h302
           refine Oq Vm (Oq Vm (Oq (Vix un9 (l := text)) ?_))
           have hb304 := u8b (text.b.getD ((i_270 + 1) : Int).toNat 0)
           refine Oq Veql (Oq Vpt (Oq Vm ?_))
           refine Js 88 ?_ ?_
           · intro h305
             have g306 := eq_of_beq h305
             refine Oq Vm (Oq Vneq (Oq Vpt (KS ?_)))
             refine Kc ?_ ?_
             · intro h307
               exact absurd h307 (by first | (simp [h300]; done) | (simp only [bne, h300]; decide) | (simp only [bne, h300, Bool.not_true, Bool.not_false]; decide) | (exfalso; omega) | (intro hq; simp only [bne, hq, Bool.not_false, Bool.not_true, reduceCtorEq] at h300))
             intro h307
             have g308 := eq_of_bne_false h307
             refine KS ?_
             exact Kg (r4, out_5, line_6, (col_269 + 1), false, (i_270 + 1), a10, k11) [0] ⟨(q3 hM12 (by simp only [flqref4_Scan_L0, h1, h22, h25, h28, h31, h199, h201, h278, h280, h300, h302, h305, h307, hR299, cs4])), (by omega), (by omega), (by omega), iv1, iv1, iv1, iv1⟩
           intro h305
           have g309 := ne_of_beq_false h305
           refine Osk (Osk (Oq Vpf (KS ?_)))
           refine Kf ?_
           refine KS ?_
           exact Kg (r4, out_5, line_6, (col_269 + 1), false, (i_270 + 1), a10, k11) [0] ⟨(q3 hM12 (by simp only [flqref4_Scan_L0, h1, h22, h25, h28, h31, h199, h201, h278, h280, h300, h302, h305, hR299, cs4])), (by omega), (by omega), (by omega), iv1, iv1, iv1, iv1⟩
         intro h302
         have g310 := of_decide_eq_false h302
         refine Osk (Osk (Osk (Osk (Oq Vpf (Oq Vm (Osk (Osk (Oq Vpf (KS ?_)))))))))
         refine Kf ?_
         refine KS ?_
         exact Kg (r4, out_5, line_6, (col_269 + 1), false, (i_270 + 1), a10, k11) [0] ⟨(q3 hM12 (by simp only [flqref4_Scan_L0, h1, h22, h25, h28, h31, h199, h201, h278, h280, h300, h302, hR299, cs4])), (by omega), (by omega), (by omega), iv1, iv1, iv1, iv1⟩
       intro h300
       exact absurd h300 (by first | (simp [h199]; done) | (simp only [bne, h199]; decide) | (simp only [bne, h199, Bool.not_true, Bool.not_false]; decide) | (exfalso; omega) | (intro hq; simp only [bne, hq, Bool.not_false, Bool.not_true, reduceCtorEq] at h199))
     intro h278
     have g311 := ne_of_beq_false h278
     refine Osk (Osk (Osk (Osk (Oq Vpf (Oq Vm (Osk (Osk (Osk (Osk ?_)))))))))
     refine Oq Vpf (KS ?_)
     refine Kf ?_
     refine Ke ?_
     have hR312 := q2 hM271 (.brk (col_269, i_270)) (by simp only [flqref4_Scan_L1, h1, h22, h25, h28, h31, h199, h201, h278, cs4])
     refine KS ?_
     refine Oq Vm (Oq Veql (KS ?_))
     refine Kc ?_ ?_
     · intro h313
       have g314 := eq_of_beq h313
       refine KS ?_
       refine Oq Vm (Oq Vadd (Oq Vm (Oq Vadd (Oq Va (Oq Va (KS ?_))))))
       refine Oq Vm (Oq Vm (Oq (VlS un9 (l := text)) (Oq Vlss (Oq Vm ?_))))
       refine Js 82 ?_ ?_
       · intro h315
         have g316 := of_decide_eq_true h315
         refine Oq Vm (Oq Vm (Oq (Vix un9 (l := text)) ?_))
         have hb317 := u8b (text.b.getD ((i_270 + 1) : Int).toNat 0)
         refine Oq Veql (Oq Vpt (Oq Vm ?_))
         refine Js 88 ?_ ?_
         · intro h318
           have g319 := eq_of_beq h318
           refine Oq Vm (Oq Vneq (Oq Vpt (KS ?_)))
           refine Kc ?_ ?_
           · intro h320
             exact absurd h320 (by first | (simp [h313]; done) | (simp only [bne, h313]; decide) | (simp only [bne, h313, Bool.not_true, Bool.not_false]; decide) | (exfalso; omega) | (intro hq; simp only [bne, hq, Bool.not_false, Bool.not_true, reduceCtorEq] at h313))
           intro h320
           have g321 := eq_of_bne_false h320
           refine KS ?_
           exact Kg (r4, out_5, line_6, (col_269 + 1), false, (i_270 + 1), a10, k11) [0] ⟨(q3 hM12 (by simp only [flqref4_Scan_L0, h1, h22, h25, h28, h31, h199, h201, h278, h313, h315, h318, h320, hR312, cs4])), (by omega), (by omega), (by omega), iv1, iv1, iv1, iv1⟩
         intro h318
         have g322 := ne_of_beq_false h318
         refine Osk (Osk (Oq Vpf (KS ?_)))
         refine Kf ?_
         refine KS ?_
         exact Kg (r4, out_5, line_6, (col_269 + 1), false, (i_270 + 1), a10, k11) [0] ⟨(q3 hM12 (by simp only [flqref4_Scan_L0, h1, h22, h25, h28, h31, h199, h201, h278, h313, h315, h318, hR312, cs4])), (by omega), (by omega), (by omega), iv1, iv1, iv1, iv1⟩
       intro h315
       have g323 := of_decide_eq_false h315
       refine Osk (Osk (Osk (Osk (Oq Vpf (Oq Vm (Osk (Osk (Oq Vpf (KS ?_)))))))))
       refine Kf ?_
       refine KS ?_
       exact Kg (r4, out_5, line_6, (col_269 + 1), false, (i_270 + 1), a10, k11) [0] ⟨(q3 hM12 (by simp only [flqref4_Scan_L0, h1, h22, h25, h28, h31, h199, h201, h278, h313, h315, hR312, cs4])), (by omega), (by omega), (by omega), iv1, iv1, iv1, iv1⟩
     intro h313
     exact absurd h313 (by first | (simp [h199]; done) | (simp only [bne, h199]; decide) | (simp only [bne, h199, Bool.not_true, Bool.not_false]; decide) | (exfalso; omega) | (intro hq; simp only [bne, hq, Bool.not_false, Bool.not_true, reduceCtorEq] at h199))
   intro h199
   have g324 := ne_of_beq_false h199
   refine Oq Vm (Oq Veql (Oq Vpf (Oq Va (KS ?_))))
   refine Kc ?_ ?_
   · intro h325
     have g326 := eq_of_beq h325
     refine KS ?_
     refine Oq Vm (KS ?_)
     refine Kc ?_ ?_
     · intro h327
       refine KS ?_
       refine Oq Vm (Oq Vm (Oq Vm (Oq (Vbd st95 [vi 3, .string (bs (Str.mk [])), vi line_6, vi col_7]) (Oa (AsV sl86 sz86 [.agg #[vi 3, .string (bs (Str.mk [])), vi line_6, vi col_7]] [vi 3, .string (bs (Str.mk [])), vi line_6, vi col_7]) fun c329 => ?_))))
       refine Jo 0 ?_; rintro a330 k331 rfl
       refine Jl [0] (Ent.cr1 (α := GToken) (A := []) _ (GToken.mk 3 (Str.mk []) line_6 col_7) _ (Nat.le_of_ble_eq_true rfl) (fun h => ⟨rfl, (by unfold i64ok; first | omega | (dsimp only; omega)), (by first | omega | (simp; done) | (dsimp only; omega) | exact lit_bl rfl), (by unfold i64ok; first | omega | (dsimp only; omega)), (by unfold i64ok; first | omega | (dsimp only; omega))⟩)) ?_
       refine Oa (ApO [1, 0] sl86 sl86 sz86) fun c332 => ?_
       refine Jo 0 ?_; rintro a333 k334 rfl
       refine Fb 40 0 fun hl335 => ?_
       have hn336 := la out_5 ([(GToken.mk 3 (Str.mk []) line_6 col_7)] : List GToken)
       refine Oq Va (KS ?_)
       refine Oq Va (KS ?_)
       have hterm345 : flqref4_Scan_L1 text ((text.b.getD i_9.toNat 0).toNat : Int) (text.b.length + 1) col_7 i_9 ≠ LR.oof := (Scan1_term _ _ _ _ _ (by omega)).1
       refine Kl (γ := Nat × Int × Int) (fun (r337, col_338, i_339) => ⟨[(0, .string (bs text)), (7, vi line_6), (8, vi col_338), (10, vi i_339), (11, .int .u8 ((text.b.getD i_9.toNat 0).toNat : Int)), (6, vl a333 k334 (out_5 ++ [(GToken.mk 3 (Str.mk []) line_6 col_7)])), (9, vb false)], [O a333 k334 ((out_5 ++ [(GToken.mk 3 (Str.mk []) line_6 col_7)]) : List GToken)], flqref4_Scan_L1 text ((text.b.getD i_9.toNat 0).toNat : Int) r337 col_338 i_339 = flqref4_Scan_L1 text ((text.b.getD i_9.toNat 0).toNat : Int) (text.b.length + 1) col_7 i_9 ∧ (-9223372036854775808 ≤ col_338 ∧ col_338 ≤ 9223372036854775807) ∧ (-9223372036854775808 ≤ i_339 ∧ i_339 ≤ 9223372036854775807) ∧ (i_9 ≤ i_339 ∧ i_339 ≤ (text.b.length : Int) ∧ col_7 ≤ col_338 ∧ col_338 ≤ col_7 + (i_339 - i_9)) ∧ (((text.b.getD i_9.toNat 0).toNat : Int) = 35 ∨ i_339 = i_9), r337⟩) ((text.b.length + 1), col_7, i_9) [0] ⟨rfl, (by omega), (by omega), iv0, iv0⟩ ?_
       rintro ⟨r337, col_338, i_339⟩ ⟨hM340, hk341, hk342, hv343, hv344⟩
       refine JJ_nx fun _ _ hL hA => ?_; dsimp only at hL hA; subst hL hA
       refine Fb 40 0 fun hl346 => ?_
       rcases r337 with _ | r337
       · exact absurd (hM340.symm.trans rfl) hterm345
       refine KS ?_
       refine Oq Vm (Oq Veql (Oq Vm ?_))
       refine Js 56 ?_ ?_
       · intro h347
         have g348 := eq_of_beq h347
         refine Oq Vm (Oq Vm (Oq (VlS un9 (l := text)) (Oq Vlss (Oq Vpt (Oq Vm ?_)))))
         refine Js 62 ?_ ?_
         · intro h349
           have g350 := of_decide_eq_true h349
           refine Oq Vm (Oq Vm (Oq (Vix un9 (l := text)) ?_))
           have hb351 := u8b (text.b.getD i_339.toNat 0)
           refine Oq Vneq (Oq Vpt (KS ?_))
           refine Kc ?_ ?_
           · intro h352
             have g353 := ne_of_bne h352
             refine KS ?_
             refine Oq Vm (Oq Vadd (Oq Vm (Oq Vadd (Oq Va (Oq Va (KS ?_))))))
             exact Kg (r337, (col_338 + 1), (i_339 + 1)) [0] ⟨(q3 hM340 (by simp only [flqref4_Scan_L1, h1, h22, h25, h28, h31, h199, h325, h327, h347, h349, h352, cs4])), (by omega), (by omega), iv1, iv1⟩
           intro h352
           have g354 := eq_of_bne_false h352
           refine Ke ?_
           have hR355 := q2 hM340 (.brk (col_338, i_339)) (by simp only [flqref4_Scan_L1, h1, h22, h25, h28, h31, h199, h325, h327, h347, h349, h352, cs4])
           refine KS ?_
           refine Oq Vm (Oq Veql (KS ?_))
           refine Kc ?_ ?_
           · intro h356
             exact absurd h356 (by first | (simp [h199]; done) | (simp only [bne, h199]; decide) | (simp only [bne, h199, Bool.not_true, Bool.not_false]; decide) | (exfalso; omega) | (intro hq; simp only [bne, hq, Bool.not_false, Bool.not_true, reduceCtorEq] at h199))
           intro h356
           have g357 := ne_of_beq_false h356
           refine KS ?_
           refine Oq Vm (Oq Vm (Oq (VlS un9 (l := text)) (Oq Vlss (Oq Vm ?_))))
           refine Js 82 ?_ ?_
           · intro h358
             have g359 := of_decide_eq_true h358
             refine Oq Vm (Oq Vm (Oq (Vix un9 (l := text)) ?_))
             have hb360 := u8b (text.b.getD i_339.toNat 0)
             refine Oq Veql (Oq Vpt (Oq Vm ?_))
             refine Js 88 ?_ ?_
             · intro h361
               have g362 := eq_of_beq h361
               refine Oq Vm (Oq Vneq (Oq Vpt (KS ?_)))
               refine Kc ?_ ?_
               · intro h363
                 have g364 := ne_of_bne h363
                 refine KS ?_
                 refine Oq Vm (Oq Vadd (Oq Vm (Oq Vadd (Oq Va (Oq Va (Oq Va (KS ?_)))))))
                 exact Kg (r4, (out_5 ++ [(GToken.mk 3 (Str.mk []) line_6 col_7)]), (line_6 + 1), 1, false, (i_339 + 1), a333, k334) [0] ⟨(q3 hM12 (by simp only [flqref4_Scan_L0, h1, h22, h25, h28, h31, h199, h325, h327, h347, h349, h352, h356, h358, h361, h363, hR355, cs4])), (by omega), (by omega), (by omega), iv1, iv1, iv1, iv1⟩
               intro h363
               exact absurd h363 (by first | (simp [h356]; done) | (simp only [bne, h356]; decide) | (simp only [bne, h356, Bool.not_true, Bool.not_false]; decide) | (exfalso; omega) | (intro hq; simp only [bne, hq, Bool.not_false, Bool.not_true, reduceCtorEq] at h356))
             intro h361
             exact absurd h361 (by first | (simp [h352]; done) | (simp only [bne, h352]; decide) | (simp only [bne, h352, Bool.not_true, Bool.not_false]; decide) | (exfalso; omega) | (intro hq; simp only [bne, hq, Bool.not_false, Bool.not_true, reduceCtorEq] at h352))
           intro h358
           exact absurd h358 (by first | (simp [h349]; done) | (simp only [bne, h349]; decide) | (simp only [bne, h349, Bool.not_true, Bool.not_false]; decide) | (exfalso; omega) | (intro hq; simp only [bne, hq, Bool.not_false, Bool.not_true, reduceCtorEq] at h349))
         intro h349
         have g365 := of_decide_eq_false h349
         refine Osk (Osk (Osk (Osk (Oq Vpf (KS ?_)))))
         refine Kf ?_
         refine Ke ?_
         have hR366 := q2 hM340 (.brk (col_338, i_339)) (by simp only [flqref4_Scan_L1, h1, h22, h25, h28, h31, h199, h325, h327, h347, h349, cs4])
         refine KS ?_
         refine Oq Vm (Oq Veql (KS ?_))
         refine Kc ?_ ?_
         · intro h367
           exact absurd h367 (by first | (simp [h199]; done) | (simp only [bne, h199]; decide) | (simp only [bne, h199, Bool.not_true, Bool.not_false]; decide) | (exfalso; omega) | (intro hq; simp only [bne, hq, Bool.not_false, Bool.not_true, reduceCtorEq] at h199))
         intro h367
         have g368 := ne_of_beq_false h367
         refine KS ?_
         refine Oq Vm (Oq Vm (Oq (VlS un9 (l := text)) (Oq Vlss (Oq Vm ?_))))
         refine Js 82 ?_ ?_
         · intro h369
           exact absurd h369 (by first | (simp [h349]; done) | (simp only [bne, h349]; decide) | (simp only [bne, h349, Bool.not_true, Bool.not_false]; decide) | (exfalso; omega) | (intro hq; simp only [bne, hq, Bool.not_false, Bool.not_true, reduceCtorEq] at h349))
         intro h369
         have g370 := of_decide_eq_false h369
         refine Osk (Osk (Osk (Osk (Oq Vpf (Oq Vm (Osk (Osk (Oq Vpf (KS ?_)))))))))
         refine Kf ?_
         refine KS ?_
         exact Kg (r4, (out_5 ++ [(GToken.mk 3 (Str.mk []) line_6 col_7)]), line_6, col_338, false, i_339, a333, k334) [0] ⟨(q3 hM12 (by simp only [flqref4_Scan_L0, h1, h22, h25, h28, h31, h199, h325, h327, h347, h349, h367, h369, hR366, cs4])), (by omega), (by omega), (by omega), iv1, iv1, iv1, iv1⟩
       intro h347
       exact absurd h347 (by first | (simp [h325]; done) | (simp only [bne, h325]; decide) | (simp only [bne, h325, Bool.not_true, Bool.not_false]; decide) | (exfalso; omega) | (intro hq; simp only [bne, hq, Bool.not_false, Bool.not_true, reduceCtorEq] at h325))
     intro h327
     refine KS ?_
     refine Oq Va (KS ?_)
     have hterm380 : flqref4_Scan_L1 text ((text.b.getD i_9.toNat 0).toNat : Int) (text.b.length + 1) col_7 i_9 ≠ LR.oof := (Scan1_term _ _ _ _ _ (by omega)).1
     refine Kl (γ := Nat × Int × Int) (fun (r372, col_373, i_374) => ⟨[(0, .string (bs text)), (6, vl a10 k11 out_5), (7, vi line_6), (8, vi col_373), (10, vi i_374), (11, .int .u8 ((text.b.getD i_9.toNat 0).toNat : Int)), (9, vb false)], [O a10 k11 out_5], flqref4_Scan_L1 text ((text.b.getD i_9.toNat 0).toNat : Int) r372 col_373 i_374 = flqref4_Scan_L1 text ((text.b.getD i_9.toNat 0).toNat : Int) (text.b.length + 1) col_7 i_9 ∧ (-9223372036854775808 ≤ col_373 ∧ col_373 ≤ 9223372036854775807) ∧ (-9223372036854775808 ≤ i_374 ∧ i_374 ≤ 9223372036854775807) ∧ (i_9 ≤ i_374 ∧ i_374 ≤ (text.b.length : Int) ∧ col_7 ≤ col_373 ∧ col_373 ≤ col_7 + (i_374 - i_9)) ∧ (((text.b.getD i_9.toNat 0).toNat : Int) = 35 ∨ i_374 = i_9), r372⟩) ((text.b.length + 1), col_7, i_9) [0] ⟨rfl, (by omega), (by omega), iv0, iv0⟩ ?_
     rintro ⟨r372, col_373, i_374⟩ ⟨hM375, hk376, hk377, hv378, hv379⟩
     refine JJ_nx fun _ _ hL hA => ?_; dsimp only at hL hA; subst hL hA
     refine Fb 40 0 fun hl381 => ?_
     rcases r372 with _ | r372
     · exact absurd (hM375.symm.trans rfl) hterm380
     refine KS ?_
     refine Oq Vm (Oq Veql (Oq Vm ?_))
     refine Js 56 ?_ ?_
     · intro h382
       have g383 := eq_of_beq h382
       refine Oq Vm (Oq Vm (Oq (VlS un9 (l := text)) (Oq Vlss (Oq Vpt (Oq Vm ?_)))))
       refine Js 62 ?_ ?_
       · intro h384
         have g385 := of_decide_eq_true h384
         refine Oq Vm (Oq Vm (Oq (Vix un9 (l := text)) ?_))
         have hb386 := u8b (text.b.getD i_374.toNat 0)
         refine Oq Vneq (Oq Vpt (KS ?_))
         refine Kc ?_ ?_
         · intro h387
           have g388 := ne_of_bne h387
           refine KS ?_
           refine Oq Vm (Oq Vadd (Oq Vm (Oq Vadd (Oq Va (Oq Va (KS ?_))))))
           exact Kg (r372, (col_373 + 1), (i_374 + 1)) [0] ⟨(q3 hM375 (by simp only [flqref4_Scan_L1, h1, h22, h25, h28, h31, h199, h325, h327, h382, h384, h387, cs4])), (by omega), (by omega), iv1, iv1⟩
         intro h387
         have g389 := eq_of_bne_false h387
         refine Ke ?_
         have hR390 := q2 hM375 (.brk (col_373, i_374)) (by simp only [flqref4_Scan_L1, h1, h22, h25, h28, h31, h199, h325, h327, h382, h384, h387, cs4])
         refine KS ?_
         refine Oq Vm (Oq Veql (KS ?_))
         refine Kc ?_ ?_
         · intro h391
           exact absurd h391 (by first | (simp [h199]; done) | (simp only [bne, h199]; decide) | (simp only [bne, h199, Bool.not_true, Bool.not_false]; decide) | (exfalso; omega) | (intro hq; simp only [bne, hq, Bool.not_false, Bool.not_true, reduceCtorEq] at h199))
         intro h391
         have g392 := ne_of_beq_false h391
         refine KS ?_
         refine Oq Vm (Oq Vm (Oq (VlS un9 (l := text)) (Oq Vlss (Oq Vm ?_))))
         refine Js 82 ?_ ?_
         · intro h393
           have g394 := of_decide_eq_true h393
           refine Oq Vm (Oq Vm (Oq (Vix un9 (l := text)) ?_))
           have hb395 := u8b (text.b.getD i_374.toNat 0)
           refine Oq Veql (Oq Vpt (Oq Vm ?_))
           refine Js 88 ?_ ?_
           · intro h396
             have g397 := eq_of_beq h396
             refine Oq Vm (Oq Vneq (Oq Vpt (KS ?_)))
             refine Kc ?_ ?_
             · intro h398
               have g399 := ne_of_bne h398
               refine KS ?_
               refine Oq Vm (Oq Vadd (Oq Vm (Oq Vadd (Oq Va (Oq Va (Oq Va (KS ?_)))))))
               exact Kg (r4, out_5, (line_6 + 1), 1, false, (i_374 + 1), a10, k11) [0] ⟨(q3 hM12 (by simp only [flqref4_Scan_L0, h1, h22, h25, h28, h31, h199, h325, h327, h382, h384, h387, h391, h393, h396, h398, hR390, cs4])), (by omega), (by omega), (by omega), iv1, iv1, iv1, iv1⟩
             intro h398
             exact absurd h398 (by first | (simp [h391]; done) | (simp only [bne, h391]; decide) | (simp only [bne, h391, Bool.not_true, Bool.not_false]; decide) | (exfalso; omega) | (intro hq; simp only [bne, hq, Bool.not_false, Bool.not_true, reduceCtorEq] at h391))
           intro h396
           exact absurd h396 (by first | (simp [h387]; done) | (simp only [bne, h387]; decide) | (simp only [bne, h387, Bool.not_true, Bool.not_false]; decide) | (exfalso; omega) | (intro hq; simp only [bne, hq, Bool.not_false, Bool.not_true, reduceCtorEq] at h387))
         intro h393
         exact absurd h393 (by first | (simp [h384]; done) | (simp only [bne, h384]; decide) | (simp only [bne, h384, Bool.not_true, Bool.not_false]; decide) | (exfalso; omega) | (intro hq; simp only [bne, hq, Bool.not_false, Bool.not_true, reduceCtorEq] at h384))
       intro h384
       have g400 := of_decide_eq_false h384
       refine Osk (Osk (Osk (Osk (Oq Vpf (KS ?_)))))
       refine Kf ?_
       refine Ke ?_
       have hR401 := q2 hM375 (.brk (col_373, i_374)) (by simp only [flqref4_Scan_L1, h1, h22, h25, h28, h31, h199, h325, h327, h382, h384, cs4])
       refine KS ?_
       refine Oq Vm (Oq Veql (KS ?_))
       refine Kc ?_ ?_
       · intro h402
         exact absurd h402 (by first | (simp [h199]; done) | (simp only [bne, h199]; decide) | (simp only [bne, h199, Bool.not_true, Bool.not_false]; decide) | (exfalso; omega) | (intro hq; simp only [bne, hq, Bool.not_false, Bool.not_true, reduceCtorEq] at h199))
       intro h402
       have g403 := ne_of_beq_false h402
       refine KS ?_
       refine Oq Vm (Oq Vm (Oq (VlS un9 (l := text)) (Oq Vlss (Oq Vm ?_))))
       refine Js 82 ?_ ?_
       · intro h404
         exact absurd h404 (by first | (simp [h384]; done) | (simp only [bne, h384]; decide) | (simp only [bne, h384, Bool.not_true, Bool.not_false]; decide) | (exfalso; omega) | (intro hq; simp only [bne, hq, Bool.not_false, Bool.not_true, reduceCtorEq] at h384))
       intro h404
       have g405 := of_decide_eq_false h404
       refine Osk (Osk (Osk (Osk (Oq Vpf (Oq Vm (Osk (Osk (Oq Vpf (KS ?_)))))))))
       refine Kf ?_
       refine KS ?_
       exact Kg (r4, out_5, line_6, col_373, false, i_374, a10, k11) [0] ⟨(q3 hM12 (by simp only [flqref4_Scan_L0, h1, h22, h25, h28, h31, h199, h325, h327, h382, h384, h402, h404, hR401, cs4])), (by omega), (by omega), (by omega), iv1, iv1, iv1, iv1⟩
     intro h382
     exact absurd h382 (by first | (simp [h325]; done) | (simp only [bne, h325]; decide) | (simp only [bne, h325, Bool.not_true, Bool.not_false]; decide) | (exfalso; omega) | (intro hq; simp only [bne, hq, Bool.not_false, Bool.not_true, reduceCtorEq] at h325))
   intro h325
   have g406 := ne_of_beq_false h325
   refine KS ?_
   refine Oq Vm (Oq Veql (Oq Va (KS ?_)))
   refine Kc ?_ ?_
   · intro h407
     have g408 := eq_of_beq h407
     refine KS ?_
     refine Oq Vm (Oq Vm (Oq Vm (Oq (Vbd st95 [vi 2, .string (bs (Str.mk [61])), vi line_6, vi col_7]) (Oa (AsV sl86 sz86 [.agg #[vi 2, .string (bs (Str.mk [61])), vi line_6, vi col_7]] [vi 2, .string (bs (Str.mk [61])), vi line_6, vi col_7]) fun c409 => ?_))))
     refine Jo 0 ?_; rintro a410 k411 rfl
     refine Jl [0] (Ent.cr1 (α := GToken) (A := []) _ (GToken.mk 2 (Str.mk [61]) line_6 col_7) _ (Nat.le_of_ble_eq_true rfl) (fun h => ⟨rfl, (by unfold i64ok; first | omega | (dsimp only; omega)), (by first | omega | (simp; done) | (dsimp only; omega) | exact lit_bl rfl), (by unfold i64ok; first | omega | (dsimp only; omega)), (by unfold i64ok; first | omega | (dsimp only; omega))⟩)) ?_
     refine Oa (ApO [1, 0] sl86 sl86 sz86) fun c412 => ?_
     refine Jo 0 ?_; rintro a413 k414 rfl
     refine Fb 40 0 fun hl415 => ?_
     have hn416 := la out_5 ([(GToken.mk 2 (Str.mk [61]) line_6 col_7)] : List GToken)
     refine Oq Va (KS ?_)
     refine Oq Vm (Oq Vadd (Oq Vm (Oq Vadd (Oq Va (Oq Va (Oq Va (KS ?_)))))))
     exact Kg (r4, (out_5 ++ [(GToken.mk 2 (Str.mk [61]) line_6 col_7)]), line_6, (col_7 + 1), true, (i_9 + 1), a413, k414) [0] ⟨(q3 hM12 (by simp only [flqref4_Scan_L0, h1, h22, h25, h28, h31, h199, h325, h407, cs4])), (by omega), (by omega), (by omega), iv1, iv1, iv1, iv1⟩
   intro h407
   have g417 := ne_of_beq_false h407
   refine KS ?_
   refine Oq Vm ?_
   refine letv (flqref4_letter ((text.b.getD i_9.toNat 0).toNat : Int)) fun rv418 hg419 => ?_
   have hc420 := fn46 (((text.b.getD i_9.toNat 0).toNat : Int)) pre rv418 hg419
   refine Oc [] ca46 hc420 ?_
   rintro - -
   refine Oq Vm ?_
   refine Js 112 ?_ ?_
   · intro h421
     refine Osk (Osk (Oq Vpt (Oq Va (KS ?_))))
     refine Kt ?_
     refine KS ?_
     refine Oq Va (KS ?_)
     have hterm428 : flqref4_Scan_L2 text i_9 (text.b.length + 1) 0 ≠ LR.oof := (Scan2_term _ _ _ _ (by omega)).1
     refine Kl (γ := Nat × Int) (fun (r423, n_424) => ⟨[(0, .string (bs text)), (6, vl a10 k11 out_5), (7, vi line_6), (8, vi col_7), (10, vi i_9), (11, .int .u8 ((text.b.getD i_9.toNat 0).toNat : Int)), (12, vi n_424)], [O a10 k11 out_5], flqref4_Scan_L2 text i_9 r423 n_424 = flqref4_Scan_L2 text i_9 (text.b.length + 1) 0 ∧ (-9223372036854775808 ≤ n_424 ∧ n_424 ≤ 9223372036854775807) ∧ (0 ≤ n_424 ∧ i_9 + n_424 ≤ (text.b.length : Int)), r423⟩) ((text.b.length + 1), 0) [0] ⟨rfl, (by omega), iv0⟩ ?_
     rintro ⟨r423, n_424⟩ ⟨hM425, hk426, hv427⟩
     refine JJ_nx fun _ _ hL hA => ?_; dsimp only at hL hA; subst hL hA
     refine Fb 40 0 fun hl429 => ?_
     rcases r423 with _ | r423
     · exact absurd (hM425.symm.trans rfl) hterm428
     refine KS ?_
     refine Oq Vm (Oq Vm (Oq Vadd (Oq Vm (Oq (VlS un9 (l := text)) (Oq Vlss (Oq Vm ?_))))))
     refine Js 122 ?_ ?_
     · intro h430
       have g431 := of_decide_eq_true h430
       refine Oq Vm (Oq Vm (Oq Vm (Oq Vadd (Oq (Vix un9 (l := text)) ?_))))
       have hb432 := u8b (text.b.getD ((i_9 + n_424) : Int).toNat 0)
       refine letv (flqref4_letter ((text.b.getD ((i_9 + n_424) : Int).toNat 0).toNat : Int)) fun rv433 hg434 => ?_
       have hc435 := fn46 (((text.b.getD ((i_9 + n_424) : Int).toNat 0).toNat : Int)) pre rv433 hg434
       refine Oc [] ca46 hc435 ?_
       rintro - -
       refine Oq Vm ?_
       refine Js 129 ?_ ?_
       · intro h436
         refine Osk (Osk (Osk (Osk (Osk (Osk (Oq Vpt (Oq Vpt (KS ?_))))))))
         refine Kt ?_
         refine KS ?_
         refine Oq Vm (Oq Vadd (Oq Va (KS ?_)))
         exact Kg (r423, (n_424 + 1)) [0] ⟨(q3 hM425 (by simp only [flqref4_Scan_L2, h1, h22, h25, h28, h31, h199, h325, h407, h421, h430, h436, hg419, hg434, cs4])), (by omega), iv1⟩
       intro h436
       refine Oq Vm (Oq Vm (Oq Vm (Oq Vadd (Oq (Vix un9 (l := text)) ?_))))
       have hb439 := u8b (text.b.getD ((i_9 + n_424) : Int).toNat 0)
       refine letv (flqref4_digit ((text.b.getD ((i_9 + n_424) : Int).toNat 0).toNat : Int)) fun rv440 hg441 => ?_
       have hc442 := fn47 (((text.b.getD ((i_9 + n_424) : Int).toNat 0).toNat : Int)) pre rv440 hg441
       refine Oc [] ca47 hc442 ?_
       rintro - -
       refine Oq Vpf (Oq Vpt (KS ?_))
       refine Kc ?_ ?_
       · intro h443
         refine KS ?_
         refine Oq Vm (Oq Vadd (Oq Va (KS ?_)))
         exact Kg (r423, (n_424 + 1)) [0] ⟨(q3 hM425 (by simp only [flqref4_Scan_L2, h1, h22, h25, h28, h31, h199, h325, h407, h421, h430, h436, h443, hg419, hg434, hg441, cs4])), (by omega), iv1⟩
       intro h443
       refine Ke ?_
       have hR446 := q2 hM425 (.brk n_424) (by simp only [flqref4_Scan_L2, h1, h22, h25, h28, h31, h199, h325, h407, h421, h430, h436, h443, hg419, hg434, hg441, cs4])
       refine KS ?_
       refine Oq Vm ?_
       refine letv (flqref4_digit ((text.b.getD i_9.toNat 0).toNat : Int)) fun rv447 hg448 => ?_
       have hc449 := fn47 (((text.b.getD i_9.toNat 0).toNat : Int)) pre rv447 hg448
       refine Oc [] ca47 hc449 ?_
       rintro - -
       refine KS ?_
       refine Kc ?_ ?_
       · intro h450
         refine KS ?_
         refine Oq Vm (Oq Vm (Oq Va (Oq Va (Oq Va (Oq Va (KS ?_))))))
         refine Jl [] (Ent.slNil (α := GToken)) ?_
         have hR452 := q2 hM12 (.ret ([], line_6, col_7, 4)) (by simp only [flqref4_Scan_L0, h1, h22, h25, h28, h31, h199, h325, h407, h421, h430, h436, h443, h450, hg419, hg434, hg441, hR446, hg448, cs4])
         have hq := q4 hrr ([], line_6, col_7, 4) (by simp only [flqref4_Scan, h1, h22, h25, h28, h31, h199, h325, h407, h421, h430, h436, h443, h450, hg419, hg434, hg441, hR446, hg448, hR452, cs4]); subst hq
         exact Kr (.slice none 0 0) rfl (.tmp rfl (.tmp rfl (.tmp rfl (.tmp rfl .nil)))) [0] en
       intro h450
       refine KS ?_
       refine Oq Vm (Oq Vgtr (KS ?_))
       refine Kc ?_ ?_
       · intro h454
         have g455 := of_decide_eq_true h454
         refine KS ?_
         refine Oq Vm (Oq Vm (Oq Va (Oq Va (Oq Va (Oq Va (KS ?_))))))
         refine Jl [] (Ent.slNil (α := GToken)) ?_
         have hR456 := q2 hM12 (.ret ([], line_6, col_7, 7)) (by simp only [flqref4_Scan_L0, h1, h22, h25, h28, h31, h199, h325, h407, h421, h430, h436, h443, h450, h454, hg419, hg434, hg441, hR446, hg448, cs4])
         have hq := q4 hrr ([], line_6, col_7, 7) (by simp only [flqref4_Scan, h1, h22, h25, h28, h31, h199, h325, h407, h421, h430, h436, h443, h450, h454, hg419, hg434, hg441, hR446, hg448, hR456, cs4]); subst hq
         exact Kr (.slice none 0 0) rfl (.tmp rfl (.tmp rfl (.tmp rfl (.tmp rfl .nil)))) [0] en
       intro h454
       have g457 := of_decide_eq_false h454
       refine KS ?_
       refine Oq Vm (Oq Vm (Oq Vm (Oq Vm (Oq Vm (Oq Vadd (Oq (VslS un9 (l := text)) ?_))))))
       have hb458 := sub_len3 text i_9.toNat ((i_9 + n_424) : Int).toNat
       refine Oq Vm (Oq Vm (Oq (Vbd st95 [vi 1, .string (bs (text.sub i_9.toNat ((i_9 + n_424) : Int).toNat)), vi line_6, vi col_7]) (Oa (AsV sl86 sz86 [.agg #[vi 1, .string (bs (text.sub i_9.toNat ((i_9 + n_424) : Int).toNat)), vi line_6, vi col_7]] [vi 1, .string (bs (text.sub i_9.toNat ((i_9 + n_424) : Int).toNat)), vi line_6, vi col_7]) fun c459 => ?_)))
       refine Jo 0 ?_; rintro a460 k461 rfl
       refine Jl [0] (Ent.cr1 (α := GToken) (A := []) _ (GToken.mk 1 (text.sub i_9.toNat ((i_9 + n_424) : Int).toNat) line_6 col_7) _ (Nat.le_of_ble_eq_true rfl) (fun h => ⟨rfl, (by unfold i64ok; first | omega | (dsimp only; omega)), (by first | omega | (simp; done) | (dsimp only; omega) | exact lit_bl rfl), (by unfold i64ok; first | omega | (dsimp only; omega)), (by unfold i64ok; first | omega | (dsimp only; omega))⟩)) ?_
       refine Oa (ApO [1, 0] sl86 sl86 sz86) fun c462 => ?_
       refine Jo 0 ?_; rintro a463 k464 rfl
       refine Fb 40 0 fun hl465 => ?_
       have hn466 := la out_5 ([(GToken.mk 1 (text.sub i_9.toNat ((i_9 + n_424) : Int).toNat) line_6 col_7)] : List GToken)
       refine Oq Va (KS ?_)
       refine Oq Vm (Oq Vm (Oq Vadd (Oq Vm (Oq Vm (Oq Vadd (Oq Va (Oq Va (Oq Va (KS ?_)))))))))
       exact Kg (r4, (out_5 ++ [(GToken.mk 1 (text.sub i_9.toNat ((i_9 + n_424) : Int).toNat) line_6 col_7)]), line_6, (col_7 + n_424), true, (i_9 + n_424), a463, k464) [0] ⟨(q3 hM12 (by simp only [flqref4_Scan_L0, h1, h22, h25, h28, h31, h199, h325, h407, h421, h430, h436, h443, h450, h454, hg419, hg434, hg441, hR446, hg448, cs4])), (by omega), (by omega), (by omega), iv1, iv1, iv1, iv1⟩
     intro h430
     have g467 := of_decide_eq_false h430
     refine Osk (Osk (Osk (Osk (Osk (Osk (Osk (Osk (Osk (Osk ?_)))))))))
     refine Osk (Osk (Osk (Osk (Oq Vpf (KS ?_)))))
     refine Kf ?_
     refine Ke ?_
     have hR468 := q2 hM425 (.brk n_424) (by simp only [flqref4_Scan_L2, h1, h22, h25, h28, h31, h199, h325, h407, h421, h430, hg419, cs4])
     refine KS ?_
     refine Oq Vm ?_
     refine letv (flqref4_digit ((text.b.getD i_9.toNat 0).toNat : Int)) fun rv469 hg470 => ?_
     have hc471 := fn47 (((text.b.getD i_9.toNat 0).toNat : Int)) pre rv469 hg470
     refine Oc [] ca47 hc471 ?_
     rintro - -
     refine KS ?_
     refine Kc ?_ ?_
     · intro h472
       refine KS ?_
       refine Oq Vm (Oq Vm (Oq Va (Oq Va (Oq Va (Oq Va (KS ?_))))))
       refine Jl [] (Ent.slNil (α := GToken)) ?_
       have hR474 := q2 hM12 (.ret ([], line_6, col_7, 4)) (by simp only [flqref4_Scan_L0, h1, h22, h25, h28, h31, h199, h325, h407, h421, h430, h472, hg419, hR468, hg470, cs4])
       have hq := q4 hrr ([], line_6, col_7, 4) (by simp only [flqref4_Scan, h1, h22, h25, h28, h31, h199, h325, h407, h421, h430, h472, hg419, hR468, hg470, hR474, cs4]); subst hq
       exact Kr (.slice none 0 0) rfl (.tmp rfl (.tmp rfl (.tmp rfl (.tmp rfl .nil)))) [0] en
     intro h472
     refine KS ?_
     refine Oq Vm (Oq Vgtr (KS ?_))
     refine Kc ?_ ?_
     · intro h476
       have g477 := of_decide_eq_true h476
       refine KS ?_
       refine Oq Vm (Oq Vm (Oq Va (Oq Va (Oq Va (Oq Va (KS ?_))))))
       refine Jl [] (Ent.slNil (α := GToken)) ?_
       have hR478 := q2 hM12 (.ret ([], line_6, col_7, 7)) (by simp only [flqref4_Scan_L0, h1, h22, h25, h28, h31, h199, h325, h407, h421, h430, h472, h476, hg419, hR468, hg470, cs4])
       have hq := q4 hrr ([], line_6, col_7, 7) (by simp only [flqref4_Scan, h1, h22, h25, h28, h31, h199, h325, h407, h421, h430, h472, h476, hg419, hR468, hg470, hR478, cs4]); subst hq
       exact Kr (.slice none 0 0) rfl (.tmp rfl (.tmp rfl (.tmp rfl (.tmp rfl .nil)))) [0] en
     intro h476
     have g479 := of_decide_eq_false h476
     refine KS ?_
     refine Oq Vm (Oq Vm (Oq Vm (Oq Vm (Oq Vm (Oq Vadd (Oq (VslS un9 (l := text)) ?_))))))
     have hb480 := sub_len3 text i_9.toNat ((i_9 + n_424) : Int).toNat
     refine Oq Vm (Oq Vm (Oq (Vbd st95 [vi 1, .string (bs (text.sub i_9.toNat ((i_9 + n_424) : Int).toNat)), vi line_6, vi col_7]) (Oa (AsV sl86 sz86 [.agg #[vi 1, .string (bs (text.sub i_9.toNat ((i_9 + n_424) : Int).toNat)), vi line_6, vi col_7]] [vi 1, .string (bs (text.sub i_9.toNat ((i_9 + n_424) : Int).toNat)), vi line_6, vi col_7]) fun c481 => ?_)))
     refine Jo 0 ?_; rintro a482 k483 rfl
     refine Jl [0] (Ent.cr1 (α := GToken) (A := []) _ (GToken.mk 1 (text.sub i_9.toNat ((i_9 + n_424) : Int).toNat) line_6 col_7) _ (Nat.le_of_ble_eq_true rfl) (fun h => ⟨rfl, (by unfold i64ok; first | omega | (dsimp only; omega)), (by first | omega | (simp; done) | (dsimp only; omega) | exact lit_bl rfl), (by unfold i64ok; first | omega | (dsimp only; omega)), (by unfold i64ok; first | omega | (dsimp only; omega))⟩)) ?_
     refine Oa (ApO [1, 0] sl86 sl86 sz86) fun c484 => ?_
     refine Jo 0 ?_; rintro a485 k486 rfl
     refine Fb 40 0 fun hl487 => ?_
     have hn488 := la out_5 ([(GToken.mk 1 (text.sub i_9.toNat ((i_9 + n_424) : Int).toNat) line_6 col_7)] : List GToken)
     refine Oq Va (KS ?_)
     refine Oq Vm (Oq Vm (Oq Vadd (Oq Vm (Oq Vm (Oq Vadd (Oq Va (Oq Va (Oq Va (KS ?_)))))))))
     exact Kg (r4, (out_5 ++ [(GToken.mk 1 (text.sub i_9.toNat ((i_9 + n_424) : Int).toNat) line_6 col_7)]), line_6, (col_7 + n_424), true, (i_9 + n_424), a485, k486) [0] ⟨(q3 hM12 (by simp only [flqref4_Scan_L0, h1, h22, h25, h28, h31, h199, h325, h407, h421, h430, h472, h476, hg419, hR468, hg470, cs4])), (by omega), (by omega), (by omega), iv1, iv1, iv1, iv1⟩
   intro h421
   refine Oq Vm ?_
   refine letv (flqref4_digit ((text.b.getD i_9.toNat 0).toNat : Int)) fun rv490 hg491 => ?_
   have hc492 := fn47 (((text.b.getD i_9.toNat 0).toNat : Int)) pre rv490 hg491
   refine Oc [] ca47 hc492 ?_
   rintro - -
   refine Oq Vpf (Oq Va (KS ?_))
   refine Kc ?_ ?_
   · intro h493
     refine KS ?_
     refine Oq Va (KS ?_)
     have hterm500 : flqref4_Scan_L2 text i_9 (text.b.length + 1) 0 ≠ LR.oof := (Scan2_term _ _ _ _ (by omega)).1
     refine Kl (γ := Nat × Int) (fun (r495, n_496) => ⟨[(0, .string (bs text)), (6, vl a10 k11 out_5), (7, vi line_6), (8, vi col_7), (10, vi i_9), (11, .int .u8 ((text.b.getD i_9.toNat 0).toNat : Int)), (12, vi n_496)], [O a10 k11 out_5], flqref4_Scan_L2 text i_9 r495 n_496 = flqref4_Scan_L2 text i_9 (text.b.length + 1) 0 ∧ (-9223372036854775808 ≤ n_496 ∧ n_496 ≤ 9223372036854775807) ∧ (0 ≤ n_496 ∧ i_9 + n_496 ≤ (text.b.length : Int)), r495⟩) ((text.b.length + 1), 0) [0] ⟨rfl, (by omega), iv0⟩ ?_
     rintro ⟨r495, n_496⟩ ⟨hM497, hk498, hv499⟩
     refine JJ_nx fun _ _ hL hA => ?_; dsimp only at hL hA; subst hL hA
     refine Fb 40 0 fun hl501 => ?_
     rcases r495 with _ | r495
     · exact absurd (hM497.symm.trans rfl) hterm500
     refine KS ?_
     refine Oq Vm (Oq Vm (Oq Vadd (Oq Vm (Oq (VlS un9 (l := text)) (Oq Vlss (Oq Vm ?_))))))
     refine Js 122 ?_ ?_
     · intro h502
       have g503 := of_decide_eq_true h502
       refine Oq Vm (Oq Vm (Oq Vm (Oq Vadd (Oq (Vix un9 (l := text)) ?_))))
       have hb504 := u8b (text.b.getD ((i_9 + n_496) : Int).toNat 0)
       refine letv (flqref4_letter ((text.b.getD ((i_9 + n_496) : Int).toNat 0).toNat : Int)) fun rv505 hg506 => ?_
       have hc507 := fn46 (((text.b.getD ((i_9 + n_496) : Int).toNat 0).toNat : Int)) pre rv505 hg506
       refine Oc [] ca46 hc507 ?_
       rintro - -
       refine Oq Vm ?_
       refine Js 129 ?_ ?_
       · intro h508
         refine Osk (Osk (Osk (Osk (Osk (Osk (Oq Vpt (Oq Vpt (KS ?_))))))))
         refine Kt ?_
         refine KS ?_
         refine Oq Vm (Oq Vadd (Oq Va (KS ?_)))
         exact Kg (r495, (n_496 + 1)) [0] ⟨(q3 hM497 (by simp only [flqref4_Scan_L2, h1, h22, h25, h28, h31, h199, h325, h407, h421, h493, h502, h508, hg419, hg491, hg506, cs4])), (by omega), iv1⟩
       intro h508
       refine Oq Vm (Oq Vm (Oq Vm (Oq Vadd (Oq (Vix un9 (l := text)) ?_))))
       have hb511 := u8b (text.b.getD ((i_9 + n_496) : Int).toNat 0)
       refine letv (flqref4_digit ((text.b.getD ((i_9 + n_496) : Int).toNat 0).toNat : Int)) fun rv512 hg513 => ?_
       have hc514 := fn47 (((text.b.getD ((i_9 + n_496) : Int).toNat 0).toNat : Int)) pre rv512 hg513
       refine Oc [] ca47 hc514 ?_
       rintro - -
       refine Oq Vpf (Oq Vpt (KS ?_))
       refine Kc ?_ ?_
       · intro h515
         refine KS ?_
         refine Oq Vm (Oq Vadd (Oq Va (KS ?_)))
         exact Kg (r495, (n_496 + 1)) [0] ⟨(q3 hM497 (by simp only [flqref4_Scan_L2, h1, h22, h25, h28, h31, h199, h325, h407, h421, h493, h502, h508, h515, hg419, hg491, hg506, hg513, cs4])), (by omega), iv1⟩
       intro h515
       refine Ke ?_
       have hR518 := q2 hM497 (.brk n_496) (by simp only [flqref4_Scan_L2, h1, h22, h25, h28, h31, h199, h325, h407, h421, h493, h502, h508, h515, hg419, hg491, hg506, hg513, cs4])
       refine KS ?_
       refine Oq Vm ?_
       have hc519 := fn47 (((text.b.getD i_9.toNat 0).toNat : Int)) pre rv490 hg491
       refine Oc [] ca47 hc519 ?_
       rintro - -
       refine KS ?_
       refine Kc ?_ ?_
       · intro h520
         refine KS ?_
         refine Oq Vm (Oq Vm (Oq Va (Oq Va (Oq Va (Oq Va (KS ?_))))))
         refine Jl [] (Ent.slNil (α := GToken)) ?_
         have hR522 := q2 hM12 (.ret ([], line_6, col_7, 4)) (by simp only [flqref4_Scan_L0, h1, h22, h25, h28, h31, h199, h325, h407, h421, h493, h502, h508, h515, h520, hg419, hg491, hg506, hg513, hR518, cs4])
         have hq := q4 hrr ([], line_6, col_7, 4) (by simp only [flqref4_Scan, h1, h22, h25, h28, h31, h199, h325, h407, h421, h493, h502, h508, h515, h520, hg419, hg491, hg506, hg513, hR518, hR522, cs4]); subst hq
         exact Kr (.slice none 0 0) rfl (.tmp rfl (.tmp rfl (.tmp rfl (.tmp rfl .nil)))) [0] en
       intro h520
       exact absurd h520 (by first | (simp [h493]; done) | (simp only [bne, h493]; decide) | (simp only [bne, h493, Bool.not_true, Bool.not_false]; decide) | (exfalso; omega) | (intro hq; simp only [bne, hq, Bool.not_false, Bool.not_true, reduceCtorEq] at h493))
     intro h502
     have g523 := of_decide_eq_false h502
     refine Osk (Osk (Osk (Osk (Osk (Osk (Osk (Osk (Osk (Osk ?_)))))))))
     refine Osk (Osk (Osk (Osk (Oq Vpf (KS ?_)))))
     refine Kf ?_
     refine Ke ?_
     have hR524 := q2 hM497 (.brk n_496) (by simp only [flqref4_Scan_L2, h1, h22, h25, h28, h31, h199, h325, h407, h421, h493, h502, hg419, hg491, cs4])
     refine KS ?_
     refine Oq Vm ?_
     have hc525 := fn47 (((text.b.getD i_9.toNat 0).toNat : Int)) pre rv490 hg491
     refine Oc [] ca47 hc525 ?_
     rintro - -
     refine KS ?_
     refine Kc ?_ ?_
     · intro h526
       refine KS ?_
       refine Oq Vm (Oq Vm (Oq Va (Oq Va (Oq Va (Oq Va (KS ?_))))))
       refine Jl [] (Ent.slNil (α := GToken)) ?_
       have hR528 := q2 hM12 (.ret ([], line_6, col_7, 4)) (by simp only [flqref4_Scan_L0, h1, h22, h25, h28, h31, h199, h325, h407, h421, h493, h502, h526, hg419, hg491, hR524, cs4])
       have hq := q4 hrr ([], line_6, col_7, 4) (by simp only [flqref4_Scan, h1, h22, h25, h28, h31, h199, h325, h407, h421, h493, h502, h526, hg419, hg491, hR524, hR528, cs4]); subst hq
       exact Kr (.slice none 0 0) rfl (.tmp rfl (.tmp rfl (.tmp rfl (.tmp rfl .nil)))) [0] en
     intro h526
     exact absurd h526 (by first | (simp [h493]; done) | (simp only [bne, h493]; decide) | (simp only [bne, h493, Bool.not_true, Bool.not_false]; decide) | (exfalso; omega) | (intro hq; simp only [bne, hq, Bool.not_false, Bool.not_true, reduceCtorEq] at h493))
   intro h493
   refine KS ?_
   refine Oq Vm (Oq Vm (Oq Va (Oq Va (Oq Va (Oq Va (KS ?_))))))
   refine Jl [] (Ent.slNil (α := GToken)) ?_
   have hR530 := q2 hM12 (.ret ([], line_6, col_7, 4)) (by simp only [flqref4_Scan_L0, h1, h22, h25, h28, h31, h199, h325, h407, h421, h493, hg419, hg491, cs4])
   have hq := q4 hrr ([], line_6, col_7, 4) (by simp only [flqref4_Scan, h1, h22, h25, h28, h31, h199, h325, h407, h421, h493, hg419, hg491, hR530, cs4]); subst hq
   exact Kr (.slice none 0 0) rfl (.tmp rfl (.tmp rfl (.tmp rfl (.tmp rfl .nil)))) [0] en
 intro h22
 have g531 := of_decide_eq_false h22
 refine Ke ?_
 have hR532 := q2 hM12 (.brk (out_5, line_6, col_7, open__8)) (by simp only [flqref4_Scan_L0, h1, h22, cs4])
 refine KS ?_
 refine Oq Vm (KS ?_)
 refine Kc ?_ ?_
 · intro h533
   refine KS ?_
   refine Oq Vm (Oq Vm (Oq Vm (Oq (Vbd st95 [vi 3, .string (bs (Str.mk [])), vi line_6, vi col_7]) (Oa (AsV sl86 sz86 [.agg #[vi 3, .string (bs (Str.mk [])), vi line_6, vi col_7]] [vi 3, .string (bs (Str.mk [])), vi line_6, vi col_7]) fun c535 => ?_))))
   refine Jo 0 ?_; rintro a536 k537 rfl
   refine Jl [0] (Ent.cr1 (α := GToken) (A := []) _ (GToken.mk 3 (Str.mk []) line_6 col_7) _ (Nat.le_of_ble_eq_true rfl) (fun h => ⟨rfl, (by unfold i64ok; first | omega | (dsimp only; omega)), (by first | omega | (simp; done) | (dsimp only; omega) | exact lit_bl rfl), (by unfold i64ok; first | omega | (dsimp only; omega)), (by unfold i64ok; first | omega | (dsimp only; omega))⟩)) ?_
   refine Oa (ApO [1, 0] sl86 sl86 sz86) fun c538 => ?_
   refine Jo 0 ?_; rintro a539 k540 rfl
   refine Fb 40 0 fun hl541 => ?_
   have hn542 := la out_5 ([(GToken.mk 3 (Str.mk []) line_6 col_7)] : List GToken)
   refine Oq Va (KS ?_)
   refine Oq Vm (Oq Va (Oq Va (Oq Va (Oq Va (KS ?_)))))
   refine Jl [0] (Ent.freeze _ _) ?_
   have hq := q4 hrr ((out_5 ++ [(GToken.mk 3 (Str.mk []) line_6 col_7)]), 0, 0, 0) (by simp only [flqref4_Scan, h1, h22, h533, hR532, cs4]); subst hq
   exact Kr (vl a539 k540 (out_5 ++ [(GToken.mk 3 (Str.mk []) line_6 col_7)])) rfl (.tmp rfl (.tmp rfl (.tmp rfl (.tmp rfl .nil)))) [0] en
 intro h533
 refine KS ?_
 refine Oq Vm (Oq Va (Oq Va (Oq Va (Oq Va (KS ?_)))))
 refine Jl [0] (Ent.freeze _ _) ?_
 have hq := q4 hrr (out_5, 0, 0, 0) (by simp only [flqref4_Scan, h1, h22, h533, hR532, cs4]); subst hq
 exact Kr (vl a10 k11 out_5) rfl (.tmp rfl (.tmp rfl (.tmp rfl (.tmp rfl .nil)))) [0] en
theorem fn52 (pP : Value) (p : Gparser) (pa0 : Option Addr) (pk0 : Nat) (word : Str) (hp_1 : i64ok p.at_) (hp_2 : i64ok p.Err) (hword_0 : word.b.length ≤ 140737488355328) (hpa : (0 ≤ p.at_ ∧ p.at_ ≤ (p.l.length : Int))) (rr : Bool) (hrr : parser_is p word = rr) : FT Tryd.prog 52 #[pP, .string (bs word)] [Cl pP [vl pa0 pk0 p.l, vi p.at_, vi p.Err], S pa0 pk0 p.l] (fun g : Unit => True) (fun g => vb rr) (fun g => [Cl pP [vl pa0 pk0 p.l, vi p.at_, vi p.Err]]) := by
 refine FTi Tryd.func52 fun w0 M0 F0 => ?_
 unfold i64ok at hp_1 hp_2
 refine Fb 40 1 fun hl1 => ?_
 refine KS ?_
 refine Oq Va (KS ?_)
 refine Jp 0 fun hp2 => ?_
 refine bool_split (p.Err == 0) ?_ ?_
 · intro h3
   have g4 := eq_of_beq h3
   refine bool_split (decide (p.at_ < (p.l.length : Int))) ?_ ?_
   · intro h5
     have g6 := of_decide_eq_true h5
     refine JJ_peek_GToken p.at_.toNat 2 rfl rng fun hb7 hb8 hb9 hb10 => ?_
     unfold i64ok at hb7 hb9 hb10
     refine Kq [0, 1, 3, 7, 15, 31, 63, 127, 255, 511, 63, 1087, 3135, 7231, 15423, 32767, 65535, 131071, 262143, 524287, 1048575, 2097151, 262143, 4456447, 12845055, 29622271, 67108863, 134217727, 268435455, 536870911, 1073741823, 2147483647, 4294967295, 8589934591, 17179869183, 34359738367, 4294967295, 73014444031, 210453397503, 485331304447, 1099511627775, 2199023255551, 4398046511103, 4294967295, 17592186044415, 35184372088831, 70368744177663] fmix ?_
     refine Qv [] Vm (Qv [1] (Vn 0) (Qv [1] (Vfa fo91_2 0) (Qv [2] (VldF sh57 0) (Qb h3 [] Veql (Qv [] Vm (Qv [] Vm (Qv [1] (Vn 0) (Qv [1] (Vfa fo91_1 0) (Qv [2] (VldF sh3 0) ?_)))))))))
     refine Qv [] Vm (Qv [1] (Vn 0) (Qv [1] (Vfa fo91_0 0) (Qv [2] (VldF sh86 0) (Qv [] (Vlen sl86) (Qb h5 [] Vlss (Qv [] Vpt (Qv [] Vm (Qv [] Vm (Qv [1] (Vn 0) ?_)))))))))
     refine Qv [1] (Vfa fo91_0 0) (Qv [2] (VldF sh86 0) (Qv [] Vm (Qv [1] (Vn 0) (Qv [1] (Vfa fo91_1 0) (Qv [2] (VldF sh3 0) (Qv [3] (Vi sl86 0) (Qv [0] (Vfa fo95_0 0) (Qv [0] (VldF sh3 0) (Qv [] Veql ?_)))))))))
     refine Qv [] Vpt ?_
     refine bool_split ((p.l.getD p.at_.toNat default).Kind == 1) ?_ ?_
     · intro h11
       have g12 := eq_of_beq h11
       refine Qb h11 [] Vm (Qv [] Vm (Qv [1] (Vn 0) (Qv [1] (Vfa fo91_0 0) (Qv [2] (VldF sh86 0) (Qv [] Vm (Qv [1] (Vn 0) (Qv [1] (Vfa fo91_1 0) (Qv [2] (VldF sh3 0) (Qv [3] (Vi sl86 0) ?_)))))))))
       refine Qv [0] (Vfa fo95_1 0) (Qv [0] (VldF sh9 0) (Qv [] Vm (Qv [] (VeqS (l := (p.l.getD p.at_.toNat default).Text) (m := word)) (Qv [] Vpt (Qv [] Va ?_)))))
       refine Qn ⟨by kernel_rfl, ?_⟩
       have hq := q4 hrr ((p.l.getD p.at_.toNat default).Text == word) (by simp only [parser_is, h3, h5, h11, cs4]); subst hq
       exact Kr () rfl (.tmp rfl .nil) [2] trivial
     intro h11
     have g13 := ne_of_beq_false h11
     refine Qb h11 [] Vm (Qs (Qs (Qs (Qs (Qs (Qs (Qs (Qs (Qs ?_)))))))))
     refine Qs (Qs (Qs (Qs (Qv [] Vpf (Qv [] Va ?_)))))
     refine Qn ⟨by kernel_rfl, ?_⟩
     have hq := q4 hrr false (by simp only [parser_is, h3, h5, h11, cs4]); subst hq
     exact Kr () rfl (.tmp rfl .nil) [2] trivial
   intro h5
   have g14 := of_decide_eq_false h5
   refine Kq [0, 1, 3, 7, 15, 31, 63, 127, 255, 511, 63, 1087, 3135, 7231, 15423, 32767, 65535, 131071, 262143, 524287, 1048575, 2097151, 262143, 4456447, 12845055, 29622271, 67108863, 134217727, 268435455, 536870911, 1073741823, 2147483647, 4294967295, 8589934591, 17179869183, 34359738367, 4294967295, 73014444031, 210453397503, 485331304447, 1099511627775, 2199023255551, 4398046511103, 4294967295, 17592186044415, 35184372088831, 70368744177663] fmix ?_
   refine Qv [] Vm (Qv [0] (Vn 0) (Qv [0] (Vfa fo91_2 0) (Qv [1] (VldF sh57 0) (Qb h3 [] Veql (Qv [] Vm (Qv [] Vm (Qv [0] (Vn 0) (Qv [0] (Vfa fo91_1 0) (Qv [1] (VldF sh3 0) ?_)))))))))
   refine Qv [] Vm (Qv [0] (Vn 0) (Qv [0] (Vfa fo91_0 0) (Qv [1] (VldF sh86 0) (Qv [] (Vlen sl86) (Qb h5 [] Vlss (Qv [] Vpt (Qv [] Vm (Qs (Qs ?_)))))))))
   refine Qs (Qs (Qs (Qs (Qs (Qs (Qs (Qs (Qs (Qs ?_)))))))))
   refine Qv [] Vpf (Qv [] Vm (Qs (Qs (Qs (Qs (Qs (Qs (Qs (Qs ?_)))))))))
   refine Qs (Qs (Qs (Qs (Qs (Qv [] Vpf (Qv [] Va ?_))))))
   refine Qn ⟨by kernel_rfl, ?_⟩
   have hq := q4 hrr false (by simp only [parser_is, h3, h5, cs4]); subst hq
   exact Kr () rfl (.tmp rfl .nil) [1] trivial
 intro h3
 have g15 := ne_of_beq_false h3
 refine Kq [0, 1, 3, 7, 15, 31, 63, 127, 255, 511, 63, 1087, 3135, 7231, 15423, 32767, 65535, 131071, 262143, 524287, 1048575, 2097151, 262143, 4456447, 12845055, 29622271, 67108863, 134217727, 268435455, 536870911, 1073741823, 2147483647, 4294967295, 8589934591, 17179869183, 34359738367, 4294967295, 73014444031, 210453397503, 485331304447, 1099511627775, 2199023255551, 4398046511103, 4294967295, 17592186044415, 35184372088831, 70368744177663] fmix ?_
 refine Qv [] Vm (Qv [0] (Vn 0) (Qv [0] (Vfa fo91_2 0) (Qv [1] (VldF sh57 0) (Qb h3 [] Veql (Qv [] Vm (Qs (Qs (Qs (Qs ?_)))))))))
 refine Qs (Qs (Qs (Qs (Qs (Qs (Qv [] Vpf (Qv [] Vm (Qs (Qs ?_)))))))))
 refine Qs (Qs (Qs (Qs (Qs (Qs (Qs (Qs (Qs (Qs ?_)))))))))
 refine Qv [] Vpf (Qv [] Vm (Qs (Qs (Qs (Qs (Qs (Qs (Qs (Qs ?_)))))))))
 refine Qs (Qs (Qs (Qs (Qs (Qv [] Vpf (Qv [] Va ?_))))))
 refine Qn ⟨by kernel_rfl, ?_⟩
 have hq := q4 hrr false (by simp only [parser_is, h3, cs4]); subst hq
 exact Kr () rfl (.tmp rfl .nil) [1] trivial
theorem fn53 (pP : Value) (p : Gparser) (pa0 : Option Addr) (pk0 : Nat) (e : Int) (hp_1 : i64ok p.at_) (hp_2 : i64ok p.Err) (he_0 : i64ok e) (hpa : (0 ≤ p.at_ ∧ p.at_ ≤ (p.l.length : Int))) (rr : Gparser) (hrr : parser_fail p e = rr) : FT Tryd.prog 53 #[pP, vi e] [Cl pP [vl pa0 pk0 p.l, vi p.at_, vi p.Err], S pa0 pk0 p.l] (fun g : Unit => i64ok rr.at_ ∧ i64ok rr.Err ∧ (0 ≤ rr.at_ ∧ rr.at_ ≤ (p.l.length : Int))) (fun g => .tuple #[]) (fun g => [Cl pP [vl pa0 pk0 p.l, vi rr.at_, vi rr.Err]]) := by
 refine FTi Tryd.func53 fun w0 M0 F0 => ?_
 unfold i64ok at hp_1 hp_2 he_0
 refine Fb 40 1 fun hl1 => ?_
 refine KS ?_
 refine Oq Vm (Oq (Vn 0) (Oq (Vfa fo91_2 0) (Oq (VldF sh57 0) (Oq Veql (KS ?_)))))
 refine Kc ?_ ?_
 · intro h2
   have g3 := eq_of_beq h2
   refine KS ?_
   refine Oq Vm (Oq Vm (Oq (Vn 0) (Oq (Vfa fo91_2 0) (Ost (SclF [0] sh57 [vl pa0 pk0 p.l, vi p.at_, vi e]) (KS ?_)))))
   have hq := q4 hrr (Gparser.mk p.l p.at_ e) (by simp only [parser_fail, h2, cs4]); subst hq
   exact Kz () rfl .nil [0] en
 intro h2
 have g4 := ne_of_beq_false h2
 refine KS ?_
 have hq := q4 hrr p (by simp only [parser_fail, h2, cs4]); subst hq
 exact Kz () rfl .nil [0] en
theorem fn67 (pP : Value) (p : Gparser) (pa0 : Option Addr) (pk0 : Nat) (w : Str) (hp_1 : i64ok p.at_) (hp_2 : i64ok p.Err) (hw_0 : w.b.length ≤ 140737488355328) (hpa : (0 ≤ p.at_ ∧ p.at_ ≤ (p.l.length : Int))) (rr : Gparser) (hrr : parser_word p w = rr) : FT Tryd.prog 67 #[pP, .string (bs w)] [Cl pP [vl pa0 pk0 p.l, vi p.at_, vi p.Err], S pa0 pk0 p.l] (fun g : Unit => i64ok rr.at_ ∧ i64ok rr.Err ∧ (0 ≤ rr.at_ ∧ rr.at_ ≤ (p.l.length : Int))) (fun g => .tuple #[]) (fun g => [Cl pP [vl pa0 pk0 p.l, vi rr.at_, vi rr.Err]]) := by
 refine FTi Tryd.func67 fun w0 M0 F0 => ?_
 unfold i64ok at hp_1 hp_2
 refine Fb 40 1 fun hl1 => ?_
 refine KS ?_
 refine Oq Vm (Oq Vm ?_)
 refine letv (parser_is p w) fun rv2 hg3 => ?_
 have hc4 := fn52 pP p pa0 pk0 w pre pre pre pre rv2 hg3
 refine Oc [0, 0] ca52 hc4 ?_
 rintro - -
 refine Oq Vnot (KS ?_)
 refine Kc ?_ ?_
 · intro h5
   have h7 := not_true h5
   refine KS ?_
   refine Oq Vm ?_
   refine letv (parser_fail p 4) fun rv9 hg10 => ?_
   have hc11 := fn53 pP p pa0 pk0 4 pre pre pre pre rv9 hg10
   refine Oc [0, 0] ca53 hc11 ?_
   rintro - ⟨he12, he13, he14⟩
   unfold i64ok at he12 he13
   refine KS ?_
   have hq := q4 hrr (Gparser.mk p.l rv9.at_ rv9.Err) (by simp only [parser_word, h5, h7, hg3, hg10, cs4]); subst hq
   exact Kr () rfl .nil [0] en
 intro h5
 have h16 := not_false h5
 try (have hlt := is_lt2 (by assumption : parser_is _ _ = rv2) h16; try dsimp only at hlt)
 try (have hlt := isName_lt2 (by assumption : parser_isName _ = rv2) h16; try dsimp only at hlt)
 try (have hlt := isKind_lt2 (by assumption : parser_isKind _ _ = rv2) h16; try dsimp only at hlt)
 refine KS ?_
 refine Oq Vm (Oq (Vn 0) (Oq (Vfa fo91_1 0) (Oq (VldF sh3 0) (Oq Vadd (Oq (Vn 0) (Oq (Vfa fo91_1 0) (Ost (SclF [0] sh3 [vl pa0 pk0 p.l, vi (p.at_ + 1), vi p.Err]) (KS ?_))))))))
 have hq := q4 hrr (Gparser.mk p.l (p.at_ + 1) p.Err) (by simp only [parser_word, h5, h16, hg3, cs4]); subst hq
 exact Kz () rfl .nil [0] en
theorem fn48  (rr : List Str) (hrr : flqref4_Keywords = rr) : FT Tryd.prog 48 #[] [] (fun g : Value => True) (fun g => g) (fun g => [sl g rr]) := by
 refine FTi Tryd.func48 fun w0 M0 F0 => ?_
 refine KS ?_
 refine Oq Va (KS ?_)
 refine Oa (AsV sl45 sz45 [.string (bs (Str.mk [102, 117, 110, 99])), .string (bs (Str.mk [98, 108, 111, 99, 107])), .string (bs (Str.mk [101, 110, 100])), .string (bs (Str.mk [117, 115, 101])), .string (bs (Str.mk [99, 97, 108, 108])), .string (bs (Str.mk [115, 111, 117, 114, 99, 101])), .string (bs (Str.mk [115, 105, 110, 107])), .string (bs (Str.mk [115, 97, 110, 105, 116, 105, 122, 101])), .string (bs (Str.mk [103, 111, 116, 111])), .string (bs (Str.mk [98, 114, 97, 110, 99, 104])), .string (bs (Str.mk [114, 101, 116, 117, 114, 110]))] [.string (bs (Str.mk [102, 117, 110, 99])), .string (bs (Str.mk [98, 108, 111, 99, 107])), .string (bs (Str.mk [101, 110, 100])), .string (bs (Str.mk [117, 115, 101])), .string (bs (Str.mk [99, 97, 108, 108])), .string (bs (Str.mk [115, 111, 117, 114, 99, 101])), .string (bs (Str.mk [115, 105, 110, 107])), .string (bs (Str.mk [115, 97, 110, 105, 116, 105, 122, 101])), .string (bs (Str.mk [103, 111, 116, 111])), .string (bs (Str.mk [98, 114, 97, 110, 99, 104])), .string (bs (Str.mk [114, 101, 116, 117, 114, 110]))]) fun c1 => ?_
 refine Jo 0 ?_; rintro a2 k3 rfl
 refine Oq Va (KS ?_)
 refine Jl [0] (Ent.crOs (α := Str) (A := []) _ ([(Str.mk [102, 117, 110, 99]), (Str.mk [98, 108, 111, 99, 107]), (Str.mk [101, 110, 100]), (Str.mk [117, 115, 101]), (Str.mk [99, 97, 108, 108]), (Str.mk [115, 111, 117, 114, 99, 101]), (Str.mk [115, 105, 110, 107]), (Str.mk [115, 97, 110, 105, 116, 105, 122, 101]), (Str.mk [103, 111, 116, 111]), (Str.mk [98, 114, 97, 110, 99, 104]), (Str.mk [114, 101, 116, 117, 114, 110])] : List Str) _ (Nat.le_of_ble_eq_true rfl) (fun h => ⟨[.string (bs (Str.mk [102, 117, 110, 99]))], [.string (bs (Str.mk [98, 108, 111, 99, 107])), .string (bs (Str.mk [101, 110, 100])), .string (bs (Str.mk [117, 115, 101])), .string (bs (Str.mk [99, 97, 108, 108])), .string (bs (Str.mk [115, 111, 117, 114, 99, 101])), .string (bs (Str.mk [115, 105, 110, 107])), .string (bs (Str.mk [115, 97, 110, 105, 116, 105, 122, 101])), .string (bs (Str.mk [103, 111, 116, 111])), .string (bs (Str.mk [98, 114, 97, 110, 99, 104])), .string (bs (Str.mk [114, 101, 116, 117, 114, 110]))], rfl, (fun _ => ⟨rfl, by first | omega | (simp; done) | (dsimp only; omega) | exact lit_bl rfl⟩) h, ⟨[.string (bs (Str.mk [98, 108, 111, 99, 107]))], [.string (bs (Str.mk [101, 110, 100])), .string (bs (Str.mk [117, 115, 101])), .string (bs (Str.mk [99, 97, 108, 108])), .string (bs (Str.mk [115, 111, 117, 114, 99, 101])), .string (bs (Str.mk [115, 105, 110, 107])), .string (bs (Str.mk [115, 97, 110, 105, 116, 105, 122, 101])), .string (bs (Str.mk [103, 111, 116, 111])), .string (bs (Str.mk [98, 114, 97, 110, 99, 104])), .string (bs (Str.mk [114, 101, 116, 117, 114, 110]))], rfl, (fun _ => ⟨rfl, by first | omega | (simp; done) | (dsimp only; omega) | exact lit_bl rfl⟩) h, ⟨[.string (bs (Str.mk [101, 110, 100]))], [.string (bs (Str.mk [117, 115, 101])), .string (bs (Str.mk [99, 97, 108, 108])), .string (bs (Str.mk [115, 111, 117, 114, 99, 101])), .string (bs (Str.mk [115, 105, 110, 107])), .string (bs (Str.mk [115, 97, 110, 105, 116, 105, 122, 101])), .string (bs (Str.mk [103, 111, 116, 111])), .string (bs (Str.mk [98, 114, 97, 110, 99, 104])), .string (bs (Str.mk [114, 101, 116, 117, 114, 110]))], rfl, (fun _ => ⟨rfl, by first | omega | (simp; done) | (dsimp only; omega) | exact lit_bl rfl⟩) h, ⟨[.string (bs (Str.mk [117, 115, 101]))], [.string (bs (Str.mk [99, 97, 108, 108])), .string (bs (Str.mk [115, 111, 117, 114, 99, 101])), .string (bs (Str.mk [115, 105, 110, 107])), .string (bs (Str.mk [115, 97, 110, 105, 116, 105, 122, 101])), .string (bs (Str.mk [103, 111, 116, 111])), .string (bs (Str.mk [98, 114, 97, 110, 99, 104])), .string (bs (Str.mk [114, 101, 116, 117, 114, 110]))], rfl, (fun _ => ⟨rfl, by first | omega | (simp; done) | (dsimp only; omega) | exact lit_bl rfl⟩) h, ⟨[.string (bs (Str.mk [99, 97, 108, 108]))], [.string (bs (Str.mk [115, 111, 117, 114, 99, 101])), .string (bs (Str.mk [115, 105, 110, 107])), .string (bs (Str.mk [115, 97, 110, 105, 116, 105, 122, 101])), .string (bs (Str.mk [103, 111, 116, 111])), .string (bs (Str.mk [98, 114, 97, 110, 99, 104])), .string (bs (Str.mk [114, 101, 116, 117, 114, 110]))], rfl, (fun _ => ⟨rfl, by first | omega | (simp; done) | (dsimp only; omega) | exact lit_bl rfl⟩) h, ⟨[.string (bs (Str.mk [115, 111, 117, 114, 99, 101]))], [.string (bs (Str.mk [115, 105, 110, 107])), .string (bs (Str.mk [115, 97, 110, 105, 116, 105, 122, 101])), .string (bs (Str.mk [103, 111, 116, 111])), .string (bs (Str.mk [98, 114, 97, 110, 99, 104])), .string (bs (Str.mk [114, 101, 116, 117, 114, 110]))], rfl, (fun _ => ⟨rfl, by first | omega | (simp; done) | (dsimp only; omega) | exact lit_bl rfl⟩) h, ⟨[.string (bs (Str.mk [115, 105, 110, 107]))], [.string (bs (Str.mk [115, 97, 110, 105, 116, 105, 122, 101])), .string (bs (Str.mk [103, 111, 116, 111])), .string (bs (Str.mk [98, 114, 97, 110, 99, 104])), .string (bs (Str.mk [114, 101, 116, 117, 114, 110]))], rfl, (fun _ => ⟨rfl, by first | omega | (simp; done) | (dsimp only; omega) | exact lit_bl rfl⟩) h, ⟨[.string (bs (Str.mk [115, 97, 110, 105, 116, 105, 122, 101]))], [.string (bs (Str.mk [103, 111, 116, 111])), .string (bs (Str.mk [98, 114, 97, 110, 99, 104])), .string (bs (Str.mk [114, 101, 116, 117, 114, 110]))], rfl, (fun _ => ⟨rfl, by first | omega | (simp; done) | (dsimp only; omega) | exact lit_bl rfl⟩) h, ⟨[.string (bs (Str.mk [103, 111, 116, 111]))], [.string (bs (Str.mk [98, 114, 97, 110, 99, 104])), .string (bs (Str.mk [114, 101, 116, 117, 114, 110]))], rfl, (fun _ => ⟨rfl, by first | omega | (simp; done) | (dsimp only; omega) | exact lit_bl rfl⟩) h, ⟨[.string (bs (Str.mk [98, 114, 97, 110, 99, 104]))], [.string (bs (Str.mk [114, 101, 116, 117, 114, 110]))], rfl, (fun _ => ⟨rfl, by first | omega | (simp; done) | (dsimp only; omega) | exact lit_bl rfl⟩) h, ⟨[.string (bs (Str.mk [114, 101, 116, 117, 114, 110]))], [], rfl, (fun _ => ⟨rfl, by first | omega | (simp; done) | (dsimp only; omega) | exact lit_bl rfl⟩) h, rfl⟩⟩⟩⟩⟩⟩⟩⟩⟩⟩⟩)) ?_
 refine Jl [0] (Ent.freeze _ _) ?_
 have hq := q4 hrr [(Str.mk [102, 117, 110, 99]), (Str.mk [98, 108, 111, 99, 107]), (Str.mk [101, 110, 100]), (Str.mk [117, 115, 101]), (Str.mk [99, 97, 108, 108]), (Str.mk [115, 111, 117, 114, 99, 101]), (Str.mk [115, 105, 110, 107]), (Str.mk [115, 97, 110, 105, 116, 105, 122, 101]), (Str.mk [103, 111, 116, 111]), (Str.mk [98, 114, 97, 110, 99, 104]), (Str.mk [114, 101, 116, 117, 114, 110])] (by simp only [flqref4_Keywords, cs4]); subst hq
 exact Kr (.slice a2 11 k3) rfl (.tmp rfl .nil) [0] trivial
theorem fn31 (s : Str) (hs_0 : s.b.length ≤ 140737488355328) (rr : Bool) (hrr : flqref4_IsName s = rr) : FT Tryd.prog 31 #[.string (bs s)] [] (fun g : Unit => True) (fun g => vb rr) (fun g => []) := by
 refine FTi Tryd.func31 fun w0 M0 F0 => ?_
 refine KS ?_
 refine Oq Va (KS ?_)
 refine Oq Vm (Oq (VlS un9 (l := s)) (Oq Veql (Oq Vm ?_)))
 refine Js 9 ?_ ?_
 · intro h1
   have g2 := eq_of_beq h1
   refine Osk (Osk (Osk (Oq Vpt (Oq Vm (Osk (Osk (Osk (Osk (Oq Vpt ?_)))))))))
   refine Oq Vm (Osk (Osk (Osk (Oq Vpt (KS ?_)))))
   refine Kt ?_
   refine KS ?_
   refine Oq Va (KS ?_)
   have hq := q4 hrr false (by simp only [flqref4_IsName, h1, cs4]); subst hq
   exact Kr () rfl (.tmp rfl .nil) [] trivial
 intro h1
 have g3 := ne_of_beq_false h1
 refine Oq Vm (Oq (VlS un9 (l := s)) (Oq Vgtr (Oq Vpf (Oq Vm ?_))))
 refine Js 14 ?_ ?_
 · intro h4
   have g5 := of_decide_eq_true h4
   refine Osk (Osk (Osk (Osk (Oq Vpt (Oq Vm (Osk (Osk (Osk (Oq Vpt ?_)))))))))
   refine KS ?_
   refine Kt ?_
   refine KS ?_
   refine Oq Va (KS ?_)
   have hq := q4 hrr false (by simp only [flqref4_IsName, h1, h4, cs4]); subst hq
   exact Kr () rfl (.tmp rfl .nil) [] trivial
 intro h4
 have g6 := of_decide_eq_false h4
 refine Oq Vm (Oq (Vix un9 (l := s)) ?_)
 have hb7 := u8b (s.b.getD (0 : Int).toNat 0)
 refine letv (flqref4_letter ((s.b.getD (0 : Int).toNat 0).toNat : Int)) fun rv8 hg9 => ?_
 have hc10 := fn46 (((s.b.getD (0 : Int).toNat 0).toNat : Int)) pre rv8 hg9
 refine Oc [] ca46 hc10 ?_
 rintro - -
 refine Oq Vnot (Oq Vpf (Oq Vm ?_))
 refine Js 20 ?_ ?_
 · intro h11
   have h13 := not_true h11
   refine Osk (Osk (Osk (Oq Vpt (KS ?_))))
   refine Kt ?_
   refine KS ?_
   refine Oq Va (KS ?_)
   have hq := q4 hrr false (by simp only [flqref4_IsName, h1, h4, h11, h13, hg9, cs4]); subst hq
   exact Kr () rfl (.tmp rfl .nil) [] trivial
 intro h11
 have h16 := not_false h11
 refine Oq Vm (Oq (Vix un9 (l := s)) ?_)
 have hb18 := u8b (s.b.getD (0 : Int).toNat 0)
 refine Oq Veql (Oq Vpf (KS ?_))
 refine Kc ?_ ?_
 · intro h19
   have g20 := eq_of_beq h19
   refine KS ?_
   refine Oq Va (KS ?_)
   have hq := q4 hrr false (by simp only [flqref4_IsName, h1, h4, h11, h16, h19, hg9, cs4]); subst hq
   exact Kr () rfl (.tmp rfl .nil) [] trivial
 intro h19
 have g21 := ne_of_beq_false h19
 refine KS ?_
 refine Oq Va (KS ?_)
 refine Kl (γ := Nat × Int) (fun (r22, i_23) => ⟨[(0, .string (bs s)), (3, vi i_23)], [], flqref4_IsName_L0 s r22 i_23 = flqref4_IsName_L0 s (((s.b.length : Int) - 0).toNat) 0 ∧ r22 = ((s.b.length : Int) - i_23).toNat ∧ (0 : Int) ≤ i_23 ∧ i_23 ≤ (s.b.length : Int) ∧ (-9223372036854775808 ≤ i_23 ∧ i_23 ≤ 9223372036854775807), r22⟩) (((s.b.length : Int) - 0).toNat, 0) [] ⟨rfl, rfl, (by omega), (by omega), (by omega)⟩ ?_
 rintro ⟨r22, i_23⟩ ⟨hM24, hr25, hi26, hi27, hk28⟩
 refine JJ_nx fun _ _ hL hA => ?_; dsimp only at hL hA; subst hL hA
 refine KS ?_
 refine Oq Vm (Oq Vm (Oq (VlS un9 (l := s)) (Oq Vlss (KS ?_))))
 refine Kc ?_ ?_
 · intro h29
   have g30 := of_decide_eq_true h29
   obtain ⟨r31, rfl⟩ := scc (n := r22) (by omega)
   refine KS ?_
   refine Oq Vm (Oq Vm (Oq (Vix un9 (l := s)) ?_))
   have hb32 := u8b (s.b.getD i_23.toNat 0)
   refine letv (flqref4_letter ((s.b.getD i_23.toNat 0).toNat : Int)) fun rv33 hg34 => ?_
   have hc35 := fn46 (((s.b.getD i_23.toNat 0).toNat : Int)) pre rv33 hg34
   refine Oc [] ca46 hc35 ?_
   rintro - -
   refine Oq Vnot (Oq Vm ?_)
   refine Js 36 ?_ ?_
   · intro h36
     have h38 := not_true h36
     refine Oq Vm (Oq Vm (Oq (Vix un9 (l := s)) ?_))
     have hb40 := u8b (s.b.getD i_23.toNat 0)
     refine letv (flqref4_digit ((s.b.getD i_23.toNat 0).toNat : Int)) fun rv41 hg42 => ?_
     have hc43 := fn47 (((s.b.getD i_23.toNat 0).toNat : Int)) pre rv41 hg42
     refine Oc [] ca47 hc43 ?_
     rintro - -
     refine Oq Vnot (Oq Vpt (KS ?_))
     refine Kc ?_ ?_
     · intro h44
       have h46 := not_true h44
       refine KS ?_
       refine Oq Va (KS ?_)
       have hR48 := q2 hM24 (.ret false) (by simp only [flqref4_IsName_L0, h1, h4, h11, h16, h19, h29, h36, h38, h44, h46, hg9, hg34, hg42, cs4])
       have hq := q4 hrr false (by simp only [flqref4_IsName, h1, h4, h11, h16, h19, h29, h36, h38, h44, h46, hg9, hg34, hg42, hR48, cs4]); subst hq
       exact Kr () rfl (.tmp rfl .nil) [] trivial
     intro h44
     have h50 := not_false h44
     refine KS ?_
     refine Oq Vm (Oq Vadd (Oq Va (KS ?_)))
     exact Kg (r31, (i_23 + 1)) [] ⟨(q3 hM24 (by simp only [flqref4_IsName_L0, h1, h4, h11, h16, h19, h29, h36, h38, h44, h50, hg9, hg34, hg42, cs4])), (by omega), (by omega), (by omega), (by omega)⟩
   intro h36
   have h53 := not_false h36
   refine Osk (Osk (Osk (Osk (Osk (Oq Vpf (KS ?_))))))
   refine Kf ?_
   refine KS ?_
   refine Oq Vm (Oq Vadd (Oq Va (KS ?_)))
   exact Kg (r31, (i_23 + 1)) [] ⟨(q3 hM24 (by simp only [flqref4_IsName_L0, h1, h4, h11, h16, h19, h29, h36, h53, hg9, hg34, cs4])), (by omega), (by omega), (by omega), (by omega)⟩
 intro h29
 have g55 := of_decide_eq_false h29
 obtain rfl : r22 = 0 := by omega
 refine Ke ?_
 have hR56 := q2 hM24 (.brk ()) (by simp only [flqref4_IsName_L0, h1, h4, h11, h16, h19, h29, hg9, cs4])
 refine KS ?_
 have hc58 := fn48  flqref4_Keywords rfl
 refine Oc [] ca48 hc58 ?_
 rintro c57 -
 refine Jo 0 ?_; rintro a59 k60 rfl
 refine Fb 16 0 fun hl61 => ?_
 refine FoS 0 fun ho62 => ?_
 refine Oq Va (KS ?_)
 refine Oq Va (KS ?_)
 refine Kl (γ := Nat × Int) (fun (r63, i_64) => ⟨[(0, .string (bs s)), (4, vl a59 k60 flqref4_Keywords), (5, vi i_64)], [S a59 k60 flqref4_Keywords], flqref4_IsName_L1 s r63 i_64 = flqref4_IsName_L1 s (((flqref4_Keywords.length : Int) - 0).toNat) 0 ∧ r63 = ((flqref4_Keywords.length : Int) - i_64).toNat ∧ (0 : Int) ≤ i_64 ∧ i_64 ≤ (flqref4_Keywords.length : Int) ∧ (-9223372036854775808 ≤ i_64 ∧ i_64 ≤ 9223372036854775807), r63⟩) (((flqref4_Keywords.length : Int) - 0).toNat, 0) [0] ⟨rfl, rfl, (by omega), (by omega), (by omega)⟩ ?_
 rintro ⟨r63, i_64⟩ ⟨hM65, hr66, hi67, hi68, hk69⟩
 refine JJ_nx fun _ _ hL hA => ?_; dsimp only at hL hA; subst hL hA
 refine Fb 16 0 fun hl70 => ?_
 refine FoS 0 fun ho71 => ?_
 refine KS ?_
 refine Oq Vm (Oq Vm (Oq (Vlen sl45) (Oq Vlss (KS ?_))))
 refine Kc ?_ ?_
 · intro h72
   have g73 := of_decide_eq_true h72
   obtain ⟨r74, rfl⟩ := scc (n := r63) (by omega)
   refine KS ?_
   refine Oq Vm (Oq Vm (Oq (Vi sl45 0) ?_))
   have hb75 := okS (i := i_64.toNat) ho71 rng
   refine Oq (VldS sh9 0) (Oq Vm (Oq (VeqS (l := (flqref4_Keywords.getD i_64.toNat default)) (m := s)) (KS ?_)))
   refine Kc ?_ ?_
   · intro h76
     have g77 := eq_of_beq h76
     refine KS ?_
     refine Oq Va (KS ?_)
     have hR78 := q2 hM65 (.ret false) (by simp only [flqref4_IsName_L1, h1, h4, h11, h16, h19, h29, h72, h76, hg9, hR56, cs4])
     have hq := q4 hrr false (by simp only [flqref4_IsName, h1, h4, h11, h16, h19, h29, h72, h76, hg9, hR56, hR78, cs4]); subst hq
     exact Kr () rfl (.tmp rfl .nil) [] trivial
   intro h76
   have g79 := ne_of_beq_false h76
   refine KS ?_
   refine Oq Vm (Oq Vadd (Oq Va (KS ?_)))
   exact Kg (r74, (i_64 + 1)) [0] ⟨(q3 hM65 (by simp only [flqref4_IsName_L1, h1, h4, h11, h16, h19, h29, h72, h76, hg9, hR56, cs4])), (by omega), (by omega), (by omega), (by omega)⟩
 intro h72
 have g80 := of_decide_eq_false h72
 obtain rfl : r63 = 0 := by omega
 refine Ke ?_
 have hR81 := q2 hM65 (.brk ()) (by simp only [flqref4_IsName_L1, h1, h4, h11, h16, h19, h29, h72, hg9, hR56, cs4])
 refine KS ?_
 refine Oq Va (KS ?_)
 have hq := q4 hrr true (by simp only [flqref4_IsName, h1, h4, h11, h16, h19, h29, h72, hg9, hR56, hR81, cs4]); subst hq
 exact Kr () rfl (.tmp rfl .nil) [] trivial
theorem fn79 (pP : Value) (p : Gparser) (pa0 : Option Addr) (pk0 : Nat) (hp_1 : i64ok p.at_) (hp_2 : i64ok p.Err) (hpa : (0 ≤ p.at_ ∧ p.at_ ≤ (p.l.length : Int))) (rr : Bool) (hrr : parser_isName p = rr) : FT Tryd.prog 79 #[pP] [Cl pP [vl pa0 pk0 p.l, vi p.at_, vi p.Err], S pa0 pk0 p.l] (fun g : Unit => True) (fun g => vb rr) (fun g => [Cl pP [vl pa0 pk0 p.l, vi p.at_, vi p.Err]]) := by
 refine FTi Tryd.func79 fun w0 M0 F0 => ?_
 unfold i64ok at hp_1 hp_2
 refine Fb 40 1 fun hl1 => ?_
 refine KS ?_
 refine Oq Va (KS ?_)
 refine Jp 0 fun hp2 => ?_
 refine bool_split (p.Err == 0) ?_ ?_
 · intro h3
   have g4 := eq_of_beq h3
   refine bool_split (decide (p.at_ < (p.l.length : Int))) ?_ ?_
   · intro h5
     have g6 := of_decide_eq_true h5
     refine JJ_peek_GToken p.at_.toNat 2 rfl rng fun hb7 hb8 hb9 hb10 => ?_
     unfold i64ok at hb7 hb9 hb10
     refine JK_drawK [0, 1, 3, 7, 15, 31, 63, 127, 255, 511, 63, 1087, 3135, 7231, 15423, 32767, 65535, 131071, 262143, 524287, 1048575, 2097151, 262143, 4456447, 12845055, 29622271, 67108863, 134217727, 268435455, 536870911, 1073741823, 2147483647, 4294967295, 8589934591, 17179869183, 34359738367, 4294967295, 73014444031, 210453397503, 485331304447, 1099511627775, 2199023255551, 4398046511103, 8796093022207, 17592186044415, 35184372088831] fmix ?_
     refine Dv [] Vm (Dv [1] (Vn 0) (Dv [1] (Vfa fo91_2 0) (Dv [2] (VldF sh57 0) (Db h3 [] Veql (Dv [] Vm (Dv [] Vm (Dv [1] (Vn 0) (Dv [1] (Vfa fo91_1 0) (Dv [2] (VldF sh3 0) ?_)))))))))
     refine Dv [] Vm (Dv [1] (Vn 0) (Dv [1] (Vfa fo91_0 0) (Dv [2] (VldF sh86 0) (Dv [] (Vlen sl86) (Db h5 [] Vlss (Dv [] Vpt (Dv [] Vm (Dv [] Vm (Dv [1] (Vn 0) ?_)))))))))
     refine Dv [1] (Vfa fo91_0 0) (Dv [2] (VldF sh86 0) (Dv [] Vm (Dv [1] (Vn 0) (Dv [1] (Vfa fo91_1 0) (Dv [2] (VldF sh3 0) (Dv [3] (Vi sl86 0) (Dv [0] (Vfa fo95_0 0) (Dv [0] (VldF sh3 0) (Dv [] Veql ?_)))))))))
     refine Dv [] Vpt ?_
     refine bool_split ((p.l.getD p.at_.toNat default).Kind == 1) ?_ ?_
     · intro h11
       have g12 := eq_of_beq h11
       refine Db h11 [] Vm (Dv [] Vm (Dv [1] (Vn 0) (Dv [1] (Vfa fo91_0 0) (Dv [2] (VldF sh86 0) (Dv [] Vm (Dv [1] (Vn 0) (Dv [1] (Vfa fo91_1 0) (Dv [2] (VldF sh3 0) (Dv [3] (Vi sl86 0) ?_)))))))))
       refine Dv [0] (Vfa fo95_1 0) (Dv [0] (VldF sh9 0) ?_)
       refine letv (flqref4_IsName ((p.l.getD p.at_.toNat default).Text)) fun rv13 hg14 => ?_
       refine Dx [] [] [0] (fun G => vb rv13) [fun G => SP.fact (True)] (fun G => xC [] ca31 (fn31 ((p.l.getD p.at_.toNat default).Text) pre rv13 hg14)) (Dv [] Vpt (Dv [] Va ?_))
       refine Dn ⟨by kernel_rfl, fun G => ?_⟩
       refine Jw2 [(2, vb rv13)] [0, 1, 2, 3] [SP.fact (True)] ?_
       refine Jk [0, 2, 2] ?_
       have hq := q4 hrr rv13 (by simp only [parser_isName, h3, h5, h11, hg14, cs4]); subst hq
       exact Kr () rfl (.tmp rfl .nil) [1] trivial
     intro h11
     have g15 := ne_of_beq_false h11
     refine Db h11 [] Vm (Ds (Ds (Ds (Ds (Ds (Ds (Ds (Ds (Ds ?_)))))))))
     refine Ds (Ds (Ds (Dv [] Vpf (Dv [] Va ?_))))
     refine Dn ⟨by kernel_rfl, fun G => ?_⟩
     refine Jw2 [(2, vb false)] [0, 1, 2, 3] [] ?_
     refine Jk [0, 2, 2] ?_
     have hq := q4 hrr false (by simp only [parser_isName, h3, h5, h11, cs4]); subst hq
     exact Kr () rfl (.tmp rfl .nil) [1] trivial
   intro h5
   have g16 := of_decide_eq_false h5
   refine Kq [0, 1, 3, 7, 15, 31, 63, 127, 255, 511, 63, 1087, 3135, 7231, 15423, 32767, 65535, 131071, 262143, 524287, 1048575, 2097151, 262143, 4456447, 12845055, 29622271, 67108863, 134217727, 268435455, 536870911, 1073741823, 2147483647, 4294967295, 8589934591, 17179869183, 34359738367, 4294967295, 73014444031, 210453397503, 485331304447, 1099511627775, 2199023255551, 4398046511103, 8796093022207, 17592186044415, 35184372088831] fmix ?_
   refine Qv [] Vm (Qv [0] (Vn 0) (Qv [0] (Vfa fo91_2 0) (Qv [1] (VldF sh57 0) (Qb h3 [] Veql (Qv [] Vm (Qv [] Vm (Qv [0] (Vn 0) (Qv [0] (Vfa fo91_1 0) (Qv [1] (VldF sh3 0) ?_)))))))))
   refine Qv [] Vm (Qv [0] (Vn 0) (Qv [0] (Vfa fo91_0 0) (Qv [1] (VldF sh86 0) (Qv [] (Vlen sl86) (Qb h5 [] Vlss (Qv [] Vpt (Qv [] Vm (Qs (Qs ?_)))))))))
   refine Qs (Qs (Qs (Qs (Qs (Qs (Qs (Qs (Qs (Qs ?_)))))))))
   refine Qv [] Vpf (Qv [] Vm (Qs (Qs (Qs (Qs (Qs (Qs (Qs (Qs ?_)))))))))
   refine Qs (Qs (Qs (Qs (Qv [] Vpf (Qv [] Va ?_)))))
   refine Qn ⟨by kernel_rfl, ?_⟩
   have hq := q4 hrr false (by simp only [parser_isName, h3, h5, cs4]); subst hq
   exact Kr () rfl (.tmp rfl .nil) [1] trivial
 intro h3
 have g17 := ne_of_beq_false h3
 refine Kq [0, 1, 3, 7, 15, 31, 63, 127, 255, 511, 63, 1087, 3135, 7231, 15423, 32767, 65535, 131071, 262143, 524287, 1048575, 2097151, 262143, 4456447, 12845055, 29622271, 67108863, 134217727, 268435455, 536870911, 1073741823, 2147483647, 4294967295, 8589934591, 17179869183, 34359738367, 4294967295, 73014444031, 210453397503, 485331304447, 1099511627775, 2199023255551, 4398046511103, 8796093022207, 17592186044415, 35184372088831] fmix ?_
 refine Qv [] Vm (Qv [0] (Vn 0) (Qv [0] (Vfa fo91_2 0) (Qv [1] (VldF sh57 0) (Qb h3 [] Veql (Qv [] Vm (Qs (Qs (Qs (Qs ?_)))))))))
 refine Qs (Qs (Qs (Qs (Qs (Qs (Qv [] Vpf (Qv [] Vm (Qs (Qs ?_)))))))))
 refine Qs (Qs (Qs (Qs (Qs (Qs (Qs (Qs (Qs (Qs ?_)))))))))
 refine Qv [] Vpf (Qv [] Vm (Qs (Qs (Qs (Qs (Qs (Qs (Qs (Qs ?_)))))))))
 refine Qs (Qs (Qs (Qs (Qv [] Vpf (Qv [] Va ?_)))))
 refine Qn ⟨by kernel_rfl, ?_⟩
 have hq := q4 hrr false (by simp only [parser_isName, h3, cs4]); subst hq
 exact Kr () rfl (.tmp rfl .nil) [1] trivial
theorem fn68 (pP : Value) (p : Gparser) (pa0 : Option Addr) (pk0 : Nat) (hp_1 : i64ok p.at_) (hp_2 : i64ok p.Err) (hpa : (0 ≤ p.at_ ∧ p.at_ ≤ (p.l.length : Int))) (rr : Str × Gparser) (hrr : parser_name p = rr) : FT Tryd.prog 68 #[pP] [Cl pP [vl pa0 pk0 p.l, vi p.at_, vi p.Err], S pa0 pk0 p.l] (fun g : Unit => rr.1.b.length ≤ 140737488355328 ∧ i64ok rr.2.at_ ∧ i64ok rr.2.Err ∧ (0 ≤ rr.2.at_ ∧ rr.2.at_ ≤ (p.l.length : Int))) (fun g => .string (bs rr.1)) (fun g => [Cl pP [vl pa0 pk0 p.l, vi rr.2.at_, vi rr.2.Err]]) := by
 refine FTi Tryd.func68 fun w0 M0 F0 => ?_
 unfold i64ok at hp_1 hp_2
 refine Fb 40 1 fun hl1 => ?_
 refine KS ?_
 refine Oq Va (KS ?_)
 refine Oq Vm ?_
 refine letv (parser_isName p) fun rv2 hg3 => ?_
 have hc4 := fn79 pP p pa0 pk0 pre pre pre rv2 hg3
 refine Oc [0, 0] ca79 hc4 ?_
 rintro - -
 refine Oq Vnot (KS ?_)
 refine Kc ?_ ?_
 · intro h5
   have h7 := not_true h5
   refine KS ?_
   refine Oq Vm ?_
   refine letv (parser_fail p 4) fun rv9 hg10 => ?_
   have hc11 := fn53 pP p pa0 pk0 4 pre pre pre pre rv9 hg10
   refine Oc [0, 0] ca53 hc11 ?_
   rintro - ⟨he12, he13, he14⟩
   unfold i64ok at he12 he13
   refine KS ?_
   refine Oq Va (KS ?_)
   have hq := q4 hrr ((Str.mk []), (Gparser.mk p.l rv9.at_ rv9.Err)) (by simp only [parser_name, h5, h7, hg3, hg10, cs4]); subst hq
   exact Kr () rfl (.tmp rfl .nil) [0] en
 intro h5
 have h16 := not_false h5
 try (have hlt := is_lt2 (by assumption : parser_is _ _ = rv2) h16; try dsimp only at hlt)
 try (have hlt := isName_lt2 (by assumption : parser_isName _ = rv2) h16; try dsimp only at hlt)
 try (have hlt := isKind_lt2 (by assumption : parser_isKind _ _ = rv2) h16; try dsimp only at hlt)
 refine KS ?_
 refine Oq Vm (Oq (Vn 0) (Oq (Vfa fo91_1 0) (Oq (VldF sh3 0) (Oq Vadd (Oq (Vn 0) (Oq (Vfa fo91_1 0) (Ost (SclF [0] sh3 [vl pa0 pk0 p.l, vi (p.at_ + 1), vi p.Err]) (KS ?_))))))))
 refine Jp 0 fun hp18 => ?_
 refine JJ_peek_GToken (((p.at_ + 1) - 1) : Int).toNat 2 rfl rng fun hb19 hb20 hb21 hb22 => ?_
 unfold i64ok at hb19 hb21 hb22
 refine Kq [0, 1, 3, 7, 0, 16, 48, 112, 240, 511, 1023, 2047, 4095] fmix ?_
 refine Qv [] Vm (Qv [1] (Vn 0) (Qv [1] (Vfa fo91_0 0) (Qv [2] (VldF sh86 0) (Qv [] Vm (Qv [1] (Vn 0) (Qv [1] (Vfa fo91_1 0) (Qv [2] (VldF sh3 0) (Qv [] Vsub (Qv [3] (Vi sl86 0) ?_)))))))))
 refine Qv [0] (Vfa fo95_1 0) (Qv [0] (VldF sh9 0) (Qv [] Va ?_))
 refine Qn ⟨by kernel_rfl, ?_⟩
 have hq := q4 hrr ((p.l.getD (((p.at_ + 1) - 1) : Int).toNat default).Text, (Gparser.mk p.l (p.at_ + 1) p.Err)) (by simp only [parser_name, h5, h16, hg3, cs4]); subst hq
 exact Kr () rfl (.tmp rfl .nil) [2] en
theorem fn80 (pP : Value) (p : Gparser) (pa0 : Option Addr) (pk0 : Nat) (k : Int) (hp_1 : i64ok p.at_) (hp_2 : i64ok p.Err) (hk_0 : i64ok k) (hpa : (0 ≤ p.at_ ∧ p.at_ ≤ (p.l.length : Int))) (rr : Bool) (hrr : parser_isKind p k = rr) : FT Tryd.prog 80 #[pP, vi k] [Cl pP [vl pa0 pk0 p.l, vi p.at_, vi p.Err], S pa0 pk0 p.l] (fun g : Unit => True) (fun g => vb rr) (fun g => [Cl pP [vl pa0 pk0 p.l, vi p.at_, vi p.Err]]) := by
 refine FTi Tryd.func80 fun w0 M0 F0 => ?_
 unfold i64ok at hp_1 hp_2 hk_0
 refine Fb 40 1 fun hl1 => ?_
 refine KS ?_
 refine Oq Va (KS ?_)
 refine Jp 0 fun hp2 => ?_
 refine bool_split (p.Err == 0) ?_ ?_
 · intro h3
   have g4 := eq_of_beq h3
   refine bool_split (decide (p.at_ < (p.l.length : Int))) ?_ ?_
   · intro h5
     have g6 := of_decide_eq_true h5
     refine JJ_peek_GToken p.at_.toNat 2 rfl rng fun hb7 hb8 hb9 hb10 => ?_
     unfold i64ok at hb7 hb9 hb10
     refine Kq [0, 1, 3, 7, 15, 31, 63, 127, 255, 511, 63, 1087, 3135, 7231, 15423, 32767, 65535, 131071, 262143, 524287, 1048575, 2097151, 262143, 4456447, 12845055, 29622271, 67108863, 134217727, 268435455, 262143, 1073741823, 2147483647, 4294967295] fmix ?_
     refine Qv [] Vm (Qv [1] (Vn 0) (Qv [1] (Vfa fo91_2 0) (Qv [2] (VldF sh57 0) (Qb h3 [] Veql (Qv [] Vm (Qv [] Vm (Qv [1] (Vn 0) (Qv [1] (Vfa fo91_1 0) (Qv [2] (VldF sh3 0) ?_)))))))))
     refine Qv [] Vm (Qv [1] (Vn 0) (Qv [1] (Vfa fo91_0 0) (Qv [2] (VldF sh86 0) (Qv [] (Vlen sl86) (Qb h5 [] Vlss (Qv [] Vpt (Qv [] Vm (Qv [] Vm (Qv [1] (Vn 0) ?_)))))))))
     refine Qv [1] (Vfa fo91_0 0) (Qv [2] (VldF sh86 0) (Qv [] Vm (Qv [1] (Vn 0) (Qv [1] (Vfa fo91_1 0) (Qv [2] (VldF sh3 0) (Qv [3] (Vi sl86 0) (Qv [0] (Vfa fo95_0 0) (Qv [0] (VldF sh3 0) (Qv [] Vm ?_)))))))))
     refine Qv [] Veql (Qv [] Vpt (Qv [] Va ?_))
     refine Qn ⟨by kernel_rfl, ?_⟩
     have hq := q4 hrr ((p.l.getD p.at_.toNat default).Kind == k) (by simp only [parser_isKind, h3, h5, cs4]); subst hq
     exact Kr () rfl (.tmp rfl .nil) [2] trivial
   intro h5
   have g11 := of_decide_eq_false h5
   refine Kq [0, 1, 3, 7, 15, 31, 63, 127, 255, 511, 63, 1087, 3135, 7231, 15423, 32767, 65535, 131071, 262143, 524287, 1048575, 2097151, 262143, 4456447, 12845055, 29622271, 67108863, 134217727, 268435455, 262143, 1073741823, 2147483647, 4294967295] fmix ?_
   refine Qv [] Vm (Qv [0] (Vn 0) (Qv [0] (Vfa fo91_2 0) (Qv [1] (VldF sh57 0) (Qb h3 [] Veql (Qv [] Vm (Qv [] Vm (Qv [0] (Vn 0) (Qv [0] (Vfa fo91_1 0) (Qv [1] (VldF sh3 0) ?_)))))))))
   refine Qv [] Vm (Qv [0] (Vn 0) (Qv [0] (Vfa fo91_0 0) (Qv [1] (VldF sh86 0) (Qv [] (Vlen sl86) (Qb h5 [] Vlss (Qv [] Vpt (Qv [] Vm (Qs (Qs ?_)))))))))
   refine Qs (Qs (Qs (Qs (Qs (Qs (Qs (Qs (Qs (Qs ?_)))))))))
   refine Qs (Qv [] Vpf (Qv [] Va ?_))
   refine Qn ⟨by kernel_rfl, ?_⟩
   have hq := q4 hrr false (by simp only [parser_isKind, h3, h5, cs4]); subst hq
   exact Kr () rfl (.tmp rfl .nil) [1] trivial
 intro h3
 have g12 := ne_of_beq_false h3
 refine Kq [0, 1, 3, 7, 15, 31, 63, 127, 255, 511, 63, 1087, 3135, 7231, 15423, 32767, 65535, 131071, 262143, 524287, 1048575, 2097151, 262143, 4456447, 12845055, 29622271, 67108863, 134217727, 268435455, 262143, 1073741823, 2147483647, 4294967295] fmix ?_
 refine Qv [] Vm (Qv [0] (Vn 0) (Qv [0] (Vfa fo91_2 0) (Qv [1] (VldF sh57 0) (Qb h3 [] Veql (Qv [] Vm (Qs (Qs (Qs (Qs ?_)))))))))
 refine Qs (Qs (Qs (Qs (Qs (Qs (Qv [] Vpf (Qv [] Vm (Qs (Qs ?_)))))))))
 refine Qs (Qs (Qs (Qs (Qs (Qs (Qs (Qs (Qs (Qs ?_)))))))))
 refine Qs (Qv [] Vpf (Qv [] Va ?_))
 refine Qn ⟨by kernel_rfl, ?_⟩
 have hq := q4 hrr false (by simp only [parser_isKind, h3, cs4]); subst hq
 exact Kr () rfl (.tmp rfl .nil) [1] trivial
theorem fn69 (pP : Value) (p : Gparser) (pa0 : Option Addr) (pk0 : Nat) (hp_1 : i64ok p.at_) (hp_2 : i64ok p.Err) (hpa : (0 ≤ p.at_ ∧ p.at_ ≤ (p.l.length : Int))) (rr : Gparser) (hrr : parser_end p = rr) : FT Tryd.prog 69 #[pP] [Cl pP [vl pa0 pk0 p.l, vi p.at_, vi p.Err], S pa0 pk0 p.l] (fun g : Unit => i64ok rr.at_ ∧ i64ok rr.Err ∧ (0 ≤ rr.at_ ∧ rr.at_ ≤ (p.l.length : Int))) (fun g => .tuple #[]) (fun g => [Cl pP [vl pa0 pk0 p.l, vi rr.at_, vi rr.Err]]) := by
 refine FTi Tryd.func69 fun w0 M0 F0 => ?_
 unfold i64ok at hp_1 hp_2
 refine Fb 40 1 fun hl1 => ?_
 refine KS ?_
 refine Oq Vm ?_
 refine letv (parser_isKind p 3) fun rv2 hg3 => ?_
 have hc4 := fn80 pP p pa0 pk0 3 pre pre pre pre rv2 hg3
 refine Oc [0, 0] ca80 hc4 ?_
 rintro - -
 refine Oq Vnot (KS ?_)
 refine Kc ?_ ?_
 · intro h5
   have h7 := not_true h5
   refine KS ?_
   refine Oq Vm ?_
   refine letv (parser_fail p 4) fun rv9 hg10 => ?_
   have hc11 := fn53 pP p pa0 pk0 4 pre pre pre pre rv9 hg10
   refine Oc [0, 0] ca53 hc11 ?_
   rintro - ⟨he12, he13, he14⟩
   unfold i64ok at he12 he13
   refine KS ?_
   have hq := q4 hrr (Gparser.mk p.l rv9.at_ rv9.Err) (by simp only [parser_end, h5, h7, hg3, hg10, cs4]); subst hq
   exact Kr () rfl .nil [0] en
 intro h5
 have h16 := not_false h5
 try (have hlt := is_lt2 (by assumption : parser_is _ _ = rv2) h16; try dsimp only at hlt)
 try (have hlt := isName_lt2 (by assumption : parser_isName _ = rv2) h16; try dsimp only at hlt)
 try (have hlt := isKind_lt2 (by assumption : parser_isKind _ _ = rv2) h16; try dsimp only at hlt)
 refine KS ?_
 refine Oq Vm (Oq (Vn 0) (Oq (Vfa fo91_1 0) (Oq (VldF sh3 0) (Oq Vadd (Oq (Vn 0) (Oq (Vfa fo91_1 0) (Ost (SclF [0] sh3 [vl pa0 pk0 p.l, vi (p.at_ + 1), vi p.Err]) (KS ?_))))))))
 have hq := q4 hrr (Gparser.mk p.l (p.at_ + 1) p.Err) (by simp only [parser_end, h5, h16, hg3, cs4]); subst hq
 exact Kz () rfl .nil [0] en
theorem fn81 (pP : Value) (p : Gparser) (pa0 : Option Addr) (pk0 : Nat) (hp_1 : i64ok p.at_) (hp_2 : i64ok p.Err) (hpa : (0 ≤ p.at_ ∧ p.at_ ≤ (p.l.length : Int))) (rr : Bool) (hrr : parser_begins p = rr) : FT Tryd.prog 81 #[pP] [Cl pP [vl pa0 pk0 p.l, vi p.at_, vi p.Err], S pa0 pk0 p.l] (fun g : Unit => True) (fun g => vb rr) (fun g => [Cl pP [vl pa0 pk0 p.l, vi p.at_, vi p.Err]]) := by
 refine FTi Tryd.func81 fun w0 M0 F0 => ?_
 unfold i64ok at hp_1 hp_2
 refine Fb 40 1 fun hl1 => ?_
 refine KS ?_
 refine Oq Va (KS ?_)
 refine Oa (AsV sl45 sz45 [.string (bs (Str.mk [117, 115, 101])), .string (bs (Str.mk [99, 97, 108, 108])), .string (bs (Str.mk [115, 111, 117, 114, 99, 101])), .string (bs (Str.mk [115, 105, 110, 107])), .string (bs (Str.mk [115, 97, 110, 105, 116, 105, 122, 101])), .string (bs (Str.mk [103, 111, 116, 111])), .string (bs (Str.mk [98, 114, 97, 110, 99, 104])), .string (bs (Str.mk [114, 101, 116, 117, 114, 110]))] [.string (bs (Str.mk [117, 115, 101])), .string (bs (Str.mk [99, 97, 108, 108])), .string (bs (Str.mk [115, 111, 117, 114, 99, 101])), .string (bs (Str.mk [115, 105, 110, 107])), .string (bs (Str.mk [115, 97, 110, 105, 116, 105, 122, 101])), .string (bs (Str.mk [103, 111, 116, 111])), .string (bs (Str.mk [98, 114, 97, 110, 99, 104])), .string (bs (Str.mk [114, 101, 116, 117, 114, 110]))]) fun c2 => ?_
 refine Jo 0 ?_; rintro a3 k4 rfl
 refine Oq Va (KS ?_)
 refine Oq Va (KS ?_)
 refine Jl [0] (Ent.crOs (α := Str) (A := []) _ ([(Str.mk [117, 115, 101]), (Str.mk [99, 97, 108, 108]), (Str.mk [115, 111, 117, 114, 99, 101]), (Str.mk [115, 105, 110, 107]), (Str.mk [115, 97, 110, 105, 116, 105, 122, 101]), (Str.mk [103, 111, 116, 111]), (Str.mk [98, 114, 97, 110, 99, 104]), (Str.mk [114, 101, 116, 117, 114, 110])] : List Str) _ (Nat.le_of_ble_eq_true rfl) (fun h => ⟨[.string (bs (Str.mk [117, 115, 101]))], [.string (bs (Str.mk [99, 97, 108, 108])), .string (bs (Str.mk [115, 111, 117, 114, 99, 101])), .string (bs (Str.mk [115, 105, 110, 107])), .string (bs (Str.mk [115, 97, 110, 105, 116, 105, 122, 101])), .string (bs (Str.mk [103, 111, 116, 111])), .string (bs (Str.mk [98, 114, 97, 110, 99, 104])), .string (bs (Str.mk [114, 101, 116, 117, 114, 110]))], rfl, (fun _ => ⟨rfl, by first | omega | (simp; done) | (dsimp only; omega) | exact lit_bl rfl⟩) h, ⟨[.string (bs (Str.mk [99, 97, 108, 108]))], [.string (bs (Str.mk [115, 111, 117, 114, 99, 101])), .string (bs (Str.mk [115, 105, 110, 107])), .string (bs (Str.mk [115, 97, 110, 105, 116, 105, 122, 101])), .string (bs (Str.mk [103, 111, 116, 111])), .string (bs (Str.mk [98, 114, 97, 110, 99, 104])), .string (bs (Str.mk [114, 101, 116, 117, 114, 110]))], rfl, (fun _ => ⟨rfl, by first | omega | (simp; done) | (dsimp only; omega) | exact lit_bl rfl⟩) h, ⟨[.string (bs (Str.mk [115, 111, 117, 114, 99, 101]))], [.string (bs (Str.mk [115, 105, 110, 107])), .string (bs (Str.mk [115, 97, 110, 105, 116, 105, 122, 101])), .string (bs (Str.mk [103, 111, 116, 111])), .string (bs (Str.mk [98, 114, 97, 110, 99, 104])), .string (bs (Str.mk [114, 101, 116, 117, 114, 110]))], rfl, (fun _ => ⟨rfl, by first | omega | (simp; done) | (dsimp only; omega) | exact lit_bl rfl⟩) h, ⟨[.string (bs (Str.mk [115, 105, 110, 107]))], [.string (bs (Str.mk [115, 97, 110, 105, 116, 105, 122, 101])), .string (bs (Str.mk [103, 111, 116, 111])), .string (bs (Str.mk [98, 114, 97, 110, 99, 104])), .string (bs (Str.mk [114, 101, 116, 117, 114, 110]))], rfl, (fun _ => ⟨rfl, by first | omega | (simp; done) | (dsimp only; omega) | exact lit_bl rfl⟩) h, ⟨[.string (bs (Str.mk [115, 97, 110, 105, 116, 105, 122, 101]))], [.string (bs (Str.mk [103, 111, 116, 111])), .string (bs (Str.mk [98, 114, 97, 110, 99, 104])), .string (bs (Str.mk [114, 101, 116, 117, 114, 110]))], rfl, (fun _ => ⟨rfl, by first | omega | (simp; done) | (dsimp only; omega) | exact lit_bl rfl⟩) h, ⟨[.string (bs (Str.mk [103, 111, 116, 111]))], [.string (bs (Str.mk [98, 114, 97, 110, 99, 104])), .string (bs (Str.mk [114, 101, 116, 117, 114, 110]))], rfl, (fun _ => ⟨rfl, by first | omega | (simp; done) | (dsimp only; omega) | exact lit_bl rfl⟩) h, ⟨[.string (bs (Str.mk [98, 114, 97, 110, 99, 104]))], [.string (bs (Str.mk [114, 101, 116, 117, 114, 110]))], rfl, (fun _ => ⟨rfl, by first | omega | (simp; done) | (dsimp only; omega) | exact lit_bl rfl⟩) h, ⟨[.string (bs (Str.mk [114, 101, 116, 117, 114, 110]))], [], rfl, (fun _ => ⟨rfl, by first | omega | (simp; done) | (dsimp only; omega) | exact lit_bl rfl⟩) h, rfl⟩⟩⟩⟩⟩⟩⟩⟩)) ?_
 refine Fb 16 0 fun hl5 => ?_
 refine FoS 0 fun ho6 => ?_
 refine Kl (γ := Nat × Int) (fun (r7, i_8) => ⟨[(0, pP), (3, .slice a3 8 k4), (4, vi i_8)], [os (.slice a3 8 k4) ([(Str.mk [117, 115, 101]), (Str.mk [99, 97, 108, 108]), (Str.mk [115, 111, 117, 114, 99, 101]), (Str.mk [115, 105, 110, 107]), (Str.mk [115, 97, 110, 105, 116, 105, 122, 101]), (Str.mk [103, 111, 116, 111]), (Str.mk [98, 114, 97, 110, 99, 104]), (Str.mk [114, 101, 116, 117, 114, 110])] : List Str), Cl pP [vl pa0 pk0 p.l, vi p.at_, vi p.Err], S pa0 pk0 p.l], parser_begins_L0 p r7 i_8 = parser_begins_L0 p (((((8 : Nat) : Int) : Int) - 0).toNat) 0 ∧ r7 = ((((8 : Nat) : Int) : Int) - i_8).toNat ∧ (0 : Int) ≤ i_8 ∧ (i_8 ≤ ((8 : Nat) : Int) ∨ i_8 = 0) ∧ (-9223372036854775808 ≤ i_8 ∧ i_8 ≤ 9223372036854775807), r7⟩) (((((8 : Nat) : Int) : Int) - 0).toNat, 0) [0, 0, 0] ⟨rfl, rfl, (by omega), (.inr rfl), (by omega)⟩ ?_
 rintro ⟨r7, i_8⟩ ⟨hM9, hr10, hi11, hi12, hk13⟩
 refine JJ_nx fun _ _ hL hA => ?_; dsimp only at hL hA; subst hL hA
 refine Fb 16 0 fun hl14 => ?_
 refine FoS 0 fun ho15 => ?_
 refine Fl 0 fun hn16 => ?_
 refine Fb 40 2 fun hl17 => ?_
 refine KS ?_
 refine Oq Vm (Oq Vm (Oq (Vlen sl45) (Oq Vlss (KS ?_))))
 refine Kc ?_ ?_
 · intro h18
   have g19 := of_decide_eq_true h18
   obtain ⟨r20, rfl⟩ := scc (n := r7) (by omega)
   refine KS ?_
   refine Oq Vm (Oq Vm (Oq Vm (Oq (Vi sl45 0) ?_)))
   have hb21 := okS (i := i_8.toNat) ho15 rng
   refine Oq (VldS sh9 0) ?_
   refine letv (parser_is p ([(Str.mk [117, 115, 101]), (Str.mk [99, 97, 108, 108]), (Str.mk [115, 111, 117, 114, 99, 101]), (Str.mk [115, 105, 110, 107]), (Str.mk [115, 97, 110, 105, 116, 105, 122, 101]), (Str.mk [103, 111, 116, 111]), (Str.mk [98, 114, 97, 110, 99, 104]), (Str.mk [114, 101, 116, 117, 114, 110])].getD i_8.toNat default)) fun rv22 hg23 => ?_
   have hc24 := fn52 pP p pa0 pk0 (([(Str.mk [117, 115, 101]), (Str.mk [99, 97, 108, 108]), (Str.mk [115, 111, 117, 114, 99, 101]), (Str.mk [115, 105, 110, 107]), (Str.mk [115, 97, 110, 105, 116, 105, 122, 101]), (Str.mk [103, 111, 116, 111]), (Str.mk [98, 114, 97, 110, 99, 104]), (Str.mk [114, 101, 116, 117, 114, 110])].getD i_8.toNat default)) pre pre pre pre rv22 hg23
   refine Oc [1, 1] ca52 hc24 ?_
   rintro - -
   refine KS ?_
   refine Kc ?_ ?_
   · intro h25
     refine KS ?_
     refine Oq Va (KS ?_)
     have hR27 := q2 hM9 (.ret true) (by simp only [parser_begins_L0, h18, h25, hg23, cs4])
     have hq := q4 hrr true (by simp only [parser_begins, h18, h25, hg23, hR27, cs4]); subst hq
     exact Kr () rfl (.tmp rfl .nil) [0] trivial
   intro h25
   refine KS ?_
   refine Oq Vm (Oq Vadd (Oq Va (KS ?_)))
   exact Kg (r20, (i_8 + 1)) [1, 0, 0] ⟨(q3 hM9 (by simp only [parser_begins_L0, h18, h25, hg23, cs4])), (by omega), (by omega), (by omega), (by omega)⟩
 intro h18
 have g29 := of_decide_eq_false h18
 obtain rfl : r7 = 0 := by omega
 refine Ke ?_
 have hR30 := q2 hM9 (.brk ()) (by simp only [parser_begins_L0, h18, cs4])
 refine KS ?_
 refine Oq Vm ?_
 refine letv (parser_isName p) fun rv31 hg32 => ?_
 have hc33 := fn79 pP p pa0 pk0 pre pre pre rv31 hg32
 refine Oc [1, 1] ca79 hc33 ?_
 rintro - -
 refine Oq Va (KS ?_)
 have hq := q4 hrr rv31 (by simp only [parser_begins, h18, hR30, hg32, cs4]); subst hq
 exact Kr () rfl (.tmp rfl .nil) [0] trivial
theorem fn86 (pP : Value) (p : Gparser) (pa0 : Option Addr) (pk0 : Nat) (have_ : Int) (hp_1 : i64ok p.at_) (hp_2 : i64ok p.Err) (hhave__0 : i64ok have_) (hpa : (0 ≤ p.at_ ∧ p.at_ ≤ (p.l.length : Int))) (hh : have_ = 1) (rr : List Str × Gparser) (hrr : parser_more p have_ = rr) : FT Tryd.prog 86 #[pP, vi have_] [Cl pP [vl pa0 pk0 p.l, vi p.at_, vi p.Err], S pa0 pk0 p.l] (fun g : Value => i64ok rr.2.at_ ∧ i64ok rr.2.Err ∧ (0 ≤ rr.2.at_ ∧ rr.2.at_ ≤ (p.l.length : Int)) ∧ (rr.1.length ≤ 3)) (fun g => g) (fun g => [sl g rr.1, Cl pP [vl pa0 pk0 p.l, vi rr.2.at_, vi rr.2.Err]]) := by
 refine FTi Tryd.func86 fun w0 M0 F0 => ?_
 unfold i64ok at hp_1 hp_2 hhave__0
 refine Fb 40 1 fun hl1 => ?_
 refine KS ?_
 refine Oq Va (KS ?_)
 refine Oq Va (KS ?_)
 refine Jl [] (Ent.osNil (α := Str)) ?_
 have hterm13 : parser_more_L0 p have_ (p.l.length + 1) p.at_ p.Err [] ≠ LR.oof := (more_L0_adv _ _ _ _ (by omega)).1
 refine Kl (γ := Nat × Int × Int × List Str × Option Addr × Nat) (fun (r2, p1_3, p2_4, out_5, a6, k7) => ⟨[(0, pP), (1, vi have_), (5, vl a6 k7 out_5)], [O a6 k7 out_5, Cl pP [vl pa0 pk0 p.l, vi p1_3, vi p2_4], S pa0 pk0 p.l], parser_more_L0 p have_ r2 p1_3 p2_4 out_5 = parser_more_L0 p have_ (p.l.length + 1) p.at_ p.Err [] ∧ (-9223372036854775808 ≤ p1_3 ∧ p1_3 ≤ 9223372036854775807) ∧ (-9223372036854775808 ≤ p2_4 ∧ p2_4 ≤ 9223372036854775807) ∧ (0 ≤ p1_3 ∧ p1_3 ≤ (p.l.length : Int)) ∧ (out_5.length ≤ 3), r2⟩) ((p.l.length + 1), p.at_, p.Err, [], none, 0) [0, 0, 0] ⟨rfl, (by omega), (by omega), iv0, iv0⟩ ?_
 rintro ⟨r2, p1_3, p2_4, out_5, a6, k7⟩ ⟨hM8, hk9, hk10, hv11, hv12⟩
 refine JJ_nx fun _ _ hL hA => ?_; dsimp only at hL hA; subst hL hA
 refine Fb 16 0 fun hl14 => ?_
 refine FoS 0 fun ho15 => ?_
 refine Fb 40 2 fun hl16 => ?_
 rcases r2 with _ | r2
 · exact absurd (hM8.symm.trans rfl) hterm13
 refine KS ?_
 refine Oq Vm ?_
 refine letv (parser_isName (Gparser.mk p.l p1_3 p2_4)) fun rv17 hg18 => ?_
 have hc19 := fn79 pP (Gparser.mk p.l p1_3 p2_4) pa0 pk0 pre pre pre rv17 hg18
 refine Oc [1, 1] ca79 hc19 ?_
 rintro - -
 refine KS ?_
 refine Kc ?_ ?_
 · intro h20
   refine KS ?_
   refine Oq Vm (Oq Vm (Oq (Vlen sl45) (Oq Vadd (Oq Veql (KS ?_)))))
   refine Kc ?_ ?_
   · intro h22
     have g23 := eq_of_beq h22
     refine KS ?_
     refine Oq Vm ?_
     refine letv (parser_fail (Gparser.mk p.l p1_3 p2_4) 7) fun rv24 hg25 => ?_
     have hc26 := fn53 pP (Gparser.mk p.l p1_3 p2_4) pa0 pk0 7 pre pre pre pre rv24 hg25
     refine Oc [0, 1] ca53 hc26 ?_
     rintro - ⟨he27, he28, he29⟩
     unfold i64ok at he27 he28
     have he29 : (0 ≤ rv24.at_ ∧ rv24.at_ ≤ (p.l.length : Int)) := he29
     refine KS ?_
     refine Oq Va (KS ?_)
     refine Jl [] (Ent.slNil (α := Str)) ?_
     have hR30 := q2 hM8 (.ret ([], (Gparser.mk p.l rv24.at_ rv24.Err))) (by simp only [parser_more_L0, h20, h22, hg18, hg25, cs4])
     have hq := q4 hrr ([], (Gparser.mk p.l rv24.at_ rv24.Err)) (by simp only [parser_more, h20, h22, hg18, hg25, hR30, cs4]); subst hq
     exact Kr (.slice none 0 0) rfl (.tmp rfl .nil) [0, 1] en
   intro h22
   have g31 := ne_of_beq_false h22
   refine KS ?_
   refine Oq Vm (Oq Vm ?_)
   refine letv (parser_name (Gparser.mk p.l p1_3 p2_4)) fun rv32 hg33 => ?_
   have hc34 := fn68 pP (Gparser.mk p.l p1_3 p2_4) pa0 pk0 pre pre pre rv32 hg33
   refine Oc [0, 1] ca68 hc34 ?_
   rintro - ⟨he35, he36, he37, he38⟩
   unfold i64ok at he36 he37
   have he38 : (0 ≤ rv32.2.at_ ∧ rv32.2.at_ ≤ (p.l.length : Int)) := he38
   refine Oa (AsV sl45 sz45 [.string (bs rv32.1)] [.string (bs rv32.1)]) fun c39 => ?_
   refine Jo 0 ?_; rintro a40 k41 rfl
   refine Jl [0] (Ent.cr1 (α := Str) (A := []) _ rv32.1 _ (Nat.le_of_ble_eq_true rfl) (fun _ => ⟨rfl, by first | omega | (simp; done) | (dsimp only; omega) | exact lit_bl rfl⟩)) ?_
   refine Oa (ApO [2, 0] sl45 sl45 sz45) fun c42 => ?_
   refine Jo 0 ?_; rintro a43 k44 rfl
   refine Fb 16 0 fun hl45 => ?_
   refine FoS 0 fun ho46 => ?_
   have hn47 := la out_5 ([rv32.1] : List Str)
   refine Oq Va (KS ?_)
   exact Kg (r2, rv32.2.at_, rv32.2.Err, (out_5 ++ [rv32.1]), a43, k44) [0, 0, 0] ⟨(q3 hM8 (by simp only [parser_more_L0, h20, h22, hg18, hg33, cs4])), (by omega), (by omega), iv1, iv1⟩
 intro h20
 refine Ke ?_
 have hR49 := q2 hM8 (.brk (p1_3, p2_4, out_5)) (by simp only [parser_more_L0, h20, hg18, cs4])
 refine KS ?_
 refine Oq Vm (Oq Va (KS ?_))
 refine Jl [1] (Ent.freeze _ _) ?_
 have hq := q4 hrr (out_5, (Gparser.mk p.l p1_3 p2_4)) (by simp only [parser_more, h20, hg18, hR49, cs4]); subst hq
 exact Kr (vl a6 k7 out_5) rfl (.tmp rfl .nil) [0, 1] en
theorem fn87 (pP : Value) (p : Gparser) (pa0 : Option Addr) (pk0 : Nat) (hp_1 : i64ok p.at_) (hp_2 : i64ok p.Err) (hpa : (0 ≤ p.at_ ∧ p.at_ ≤ (p.l.length : Int))) (rr : List Str × Gparser) (hrr : parser_names p = rr) : FT Tryd.prog 87 #[pP] [Cl pP [vl pa0 pk0 p.l, vi p.at_, vi p.Err], S pa0 pk0 p.l] (fun g : Value => i64ok rr.2.at_ ∧ i64ok rr.2.Err ∧ (0 ≤ rr.2.at_ ∧ rr.2.at_ ≤ (p.l.length : Int)) ∧ (rr.1.length ≤ 4)) (fun g => g) (fun g => [sl g rr.1, Cl pP [vl pa0 pk0 p.l, vi rr.2.at_, vi rr.2.Err]]) := by
 refine FTi Tryd.func87 fun w0 M0 F0 => ?_
 unfold i64ok at hp_1 hp_2
 refine Fb 40 1 fun hl1 => ?_
 refine KS ?_
 refine Oq Va (KS ?_)
 refine Oq Va (KS ?_)
 refine Jl [] (Ent.osNil (α := Str)) ?_
 have hterm13 : parser_names_L0 p (p.l.length + 1) p.at_ p.Err [] ≠ LR.oof := (names_L0_adv _ _ _ _ (by omega)).1
 refine Kl (γ := Nat × Int × Int × List Str × Option Addr × Nat) (fun (r2, p1_3, p2_4, out_5, a6, k7) => ⟨[(0, pP), (3, vl a6 k7 out_5)], [O a6 k7 out_5, Cl pP [vl pa0 pk0 p.l, vi p1_3, vi p2_4], S pa0 pk0 p.l], parser_names_L0 p r2 p1_3 p2_4 out_5 = parser_names_L0 p (p.l.length + 1) p.at_ p.Err [] ∧ (-9223372036854775808 ≤ p1_3 ∧ p1_3 ≤ 9223372036854775807) ∧ (-9223372036854775808 ≤ p2_4 ∧ p2_4 ≤ 9223372036854775807) ∧ (0 ≤ p1_3 ∧ p1_3 ≤ (p.l.length : Int)) ∧ (out_5.length ≤ 4), r2⟩) ((p.l.length + 1), p.at_, p.Err, [], none, 0) [0, 0, 0] ⟨rfl, (by omega), (by omega), iv0, iv0⟩ ?_
 rintro ⟨r2, p1_3, p2_4, out_5, a6, k7⟩ ⟨hM8, hk9, hk10, hv11, hv12⟩
 refine JJ_nx fun _ _ hL hA => ?_; dsimp only at hL hA; subst hL hA
 refine Fb 16 0 fun hl14 => ?_
 refine FoS 0 fun ho15 => ?_
 refine Fb 40 2 fun hl16 => ?_
 rcases r2 with _ | r2
 · exact absurd (hM8.symm.trans rfl) hterm13
 refine KS ?_
 refine Oq Vm ?_
 refine letv (parser_isName (Gparser.mk p.l p1_3 p2_4)) fun rv17 hg18 => ?_
 have hc19 := fn79 pP (Gparser.mk p.l p1_3 p2_4) pa0 pk0 pre pre pre rv17 hg18
 refine Oc [1, 1] ca79 hc19 ?_
 rintro - -
 refine KS ?_
 refine Kc ?_ ?_
 · intro h20
   refine KS ?_
   refine Oq Vm (Oq (Vlen sl45) (Oq Veql (KS ?_)))
   refine Kc ?_ ?_
   · intro h22
     have g23 := eq_of_beq h22
     refine KS ?_
     refine Oq Vm ?_
     refine letv (parser_fail (Gparser.mk p.l p1_3 p2_4) 7) fun rv24 hg25 => ?_
     have hc26 := fn53 pP (Gparser.mk p.l p1_3 p2_4) pa0 pk0 7 pre pre pre pre rv24 hg25
     refine Oc [0, 1] ca53 hc26 ?_
     rintro - ⟨he27, he28, he29⟩
     unfold i64ok at he27 he28
     have he29 : (0 ≤ rv24.at_ ∧ rv24.at_ ≤ (p.l.length : Int)) := he29
     refine KS ?_
     refine Oq Va (KS ?_)
     refine Jl [] (Ent.slNil (α := Str)) ?_
     have hR30 := q2 hM8 (.ret ([], (Gparser.mk p.l rv24.at_ rv24.Err))) (by simp only [parser_names_L0, h20, h22, hg18, hg25, cs4])
     have hq := q4 hrr ([], (Gparser.mk p.l rv24.at_ rv24.Err)) (by simp only [parser_names, h20, h22, hg18, hg25, hR30, cs4]); subst hq
     exact Kr (.slice none 0 0) rfl (.tmp rfl .nil) [0, 1] en
   intro h22
   have g31 := ne_of_beq_false h22
   refine KS ?_
   refine Oq Vm (Oq Vm ?_)
   refine letv (parser_name (Gparser.mk p.l p1_3 p2_4)) fun rv32 hg33 => ?_
   have hc34 := fn68 pP (Gparser.mk p.l p1_3 p2_4) pa0 pk0 pre pre pre rv32 hg33
   refine Oc [0, 1] ca68 hc34 ?_
   rintro - ⟨he35, he36, he37, he38⟩
   unfold i64ok at he36 he37
   have he38 : (0 ≤ rv32.2.at_ ∧ rv32.2.at_ ≤ (p.l.length : Int)) := he38
   refine Oa (AsV sl45 sz45 [.string (bs rv32.1)] [.string (bs rv32.1)]) fun c39 => ?_
   refine Jo 0 ?_; rintro a40 k41 rfl
   refine Jl [0] (Ent.cr1 (α := Str) (A := []) _ rv32.1 _ (Nat.le_of_ble_eq_true rfl) (fun _ => ⟨rfl, by first | omega | (simp; done) | (dsimp only; omega) | exact lit_bl rfl⟩)) ?_
   refine Oa (ApO [2, 0] sl45 sl45 sz45) fun c42 => ?_
   refine Jo 0 ?_; rintro a43 k44 rfl
   refine Fb 16 0 fun hl45 => ?_
   refine FoS 0 fun ho46 => ?_
   have hn47 := la out_5 ([rv32.1] : List Str)
   refine Oq Va (KS ?_)
   exact Kg (r2, rv32.2.at_, rv32.2.Err, (out_5 ++ [rv32.1]), a43, k44) [0, 0, 0] ⟨(q3 hM8 (by simp only [parser_names_L0, h20, h22, hg18, hg33, cs4])), (by omega), (by omega), iv1, iv1⟩
 intro h20
 refine Ke ?_
 have hR49 := q2 hM8 (.brk (p1_3, p2_4, out_5)) (by simp only [parser_names_L0, h20, hg18, cs4])
 refine KS ?_
 refine Oq Vm (Oq Va (KS ?_))
 refine Jl [1] (Ent.freeze _ _) ?_
 have hq := q4 hrr (out_5, (Gparser.mk p.l p1_3 p2_4)) (by simp only [parser_names, h20, hg18, hR49, cs4]); subst hq
 exact Kr (vl a6 k7 out_5) rfl (.tmp rfl .nil) [0, 1] en
end Go.SL.G
