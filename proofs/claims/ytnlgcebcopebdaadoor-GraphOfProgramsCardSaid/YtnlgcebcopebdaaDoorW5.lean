/- Part 5 of the walks: mirrors, plain laws and walks used by the last text of this claim. -/
import Derived.Test.YtnlgcebcopebdaaDoorW4
import Derived.Test.YtnlgcebcopebdaaDoorProg
set_option linter.unusedVariables false
set_option linter.unusedSimpArgs false
namespace Go.SL.G
open Go Go.SL Go.Proofs
set_option maxHeartbeats 20000000
set_option maxRecDepth 100000
theorem Qvy (p : Qaj) (pa0 : Option Addr) (pk0 : Nat) (kwLA : Option Addr) (kwLK : Nat) (hps : PSm p = true) (rr : List Qay) (hrr : Qfv p = rr) : FT Tryd.prog 24 #[.agg #[vl pa0 pk0 p.Funcs]] [S pa0 pk0 p.Funcs, pv (gp 0) [vl kwLA kwLK kwL], S kwLA kwLK kwL] (fun g : Value => (rr.length <= 20000)) (fun g => g) (fun g => [sl g rr]) := by
 refine FTi Tryd.func24 fun w0 M0 F0 => Fb 40 0 fun _ => Fb 16 2 fun _ => ?_
 refine FoS 2 fun ho3 => ?_
 refine KS ?_
 refine Oa (Ab [vl pa0 pk0 p.Funcs]) fun p4 => Oq Va (KS ?_)
 refine Oq (Qc9 Qec 0) ?_
 refine QaO (Qcz p) fun rv5 hg6 => ?_
 have hc7 := QtU p pa0 pk0 kwLA kwLK pre rv5 hg6
 refine Oc [1, 2, 3] QuM hc7 ?_
 rintro - ⟨he8, he9, he10, he11, he12⟩
 unfold Qac at he8 he9 he10 he11 he12
 refine Oq Vm (Oq Vx (Oq Vx (Oa (Al QpM [vi 0, vi 0, vi 0, vi 0]) fun p13 => Ost (Scl [0] Qhn [vi rv5.1.Kind, vi rv5.1.Func, vi rv5.1.Block, vi rv5.1.Stmt]) (Oq Va (KS ?_)))))
 refine Oq Vm (Oq QgA (KS ?_))
 refine Kc ?_ ?_
 ·intro h14
  have g15 := QbL h14
  refine KS ?_
  refine Oq Va (KS ?_)
  refine Jl [] (Ent.slNil (α := Qay)) ?_
  have hq := q4 hrr [] (by simp only [Qfv, h14, hg6, cs4]); subst hq
  exact Kr (.slice none 0 0) rfl (.tmp rfl .nil) [0] en
 intro h14
 have g16 := QaA h14
 have hVb := QkP (p := p) (Qlk (by assumption) (by assumption))
 refine KS ?_
 refine Oq Va (KS ?_)
 refine Oq (Vfa QdZ 1) (Oq (QaQ Qia 1) (Oq (QcE QgV) (Oq Vm (KS ?_))))
 refine Jl [] (Ent.osNil (α := Qay)) ?_
 refine Kl (γ := Nat × List Qay × Int × Option Addr × Nat) (fun (r17, Qhf, Qbk, a20, k21) => ⟨[(5, vl a20 k21 Qhf), (20, vl pa0 pk0 p.Funcs), (21, vi (p.Funcs.length : Int)), (22, vi Qbk)], [O a20 k21 Qhf, S pa0 pk0 p.Funcs, pv (gp 0) [vl kwLA kwLK kwL], S kwLA kwLK kwL], QeF p r17 Qhf Qbk = QeF p (((p.Funcs.length : Int) - 0).toNat) [] 0 /\ r17 = ((p.Funcs.length : Int) - Qbk).toNat /\ (0 : Int) <= Qbk /\ Qbk <= (p.Funcs.length : Int) /\ (-9223372036854775808 <= Qbk /\ Qbk <= 9223372036854775807) /\ ((Qhf.length : Int) <= 1100 * Qbk), r17⟩) (((p.Funcs.length : Int) - 0).toNat, [], 0, none, 0) [0, 2, 3, 4] ⟨rfl, rfl, aM1, aM1, aM1, iv0⟩ ?_
 rintro ⟨r17, Qhf, Qbk, a20, k21⟩ ⟨hM22, hr23, hi24, hi25, hk26, hv27⟩
 refine QbB fun _ _ hL hA => ?_; dsimp only at hL hA; subst hL hA
 refine Fb 32 0 fun _ => Fb 40 1 fun _ => Fb 16 3 fun _ => ?_
 refine FoS 3 fun ho31 => ?_
 refine KS ?_
 refine Oq Qcu (KS ?_)
 refine Kc ?_ ?_
 ·intro h32
  have g33 := dt h32
  have hVf := hVb.2 Qbk.toNat
  have hb8 : Qbk <= 7 := by have := hVb.1; omega
  obtain ⟨r34, rfl⟩ := scc (n := r17) aM1
  refine KS ?_
  refine Oq Vm (Oq (Vi QgV 1) ?_)
  refine QcR Qbk.toNat 1 rfl rng fun a35 k36 hb37 => ?_
  refine Fb 40 1 fun _ => ?_
  refine Oq (Qc9 Qhk 0) (Oa (Al QnG [.string (bs (Str.mk [])), .slice none 0 0]) fun p39 => Oq Va (Ost (Scl [0] Qhk [.string (bs ((p.Funcs.getD Qbk.toNat default).Name)), vl a35 k36 ((p.Funcs.getD Qbk.toNat default).Blocks)]) (KS ?_)))
  refine Oq Vm (Oq Vm (Oq (Vbd Qle [vi 1, vi Qbk, vi (-1), vi (-1)]) (Oa (AsV Qjj QoQ [.agg #[vi 1, vi Qbk, vi (-1), vi (-1)]] [vi 1, vi Qbk, vi (-1), vi (-1)]) fun c40 => ?_)))
  refine Jo 0 ?_; rintro a41 k42 rfl
  refine Jl [0] (Ent.cr1 (α := Qay) (A := []) _ (Qay.mk 1 Qbk (-1) (-1)) _ aB1 (fun h => ⟨rfl, aL1, aL1, aL1, aL1⟩)) ?_
  refine Oa (ApO [4, 0] Qjj Qjj QoQ) fun c43 => ?_
  refine Jo 0 ?_; rintro a44 k45 rfl
  refine Fb 32 0 fun _ => ?_
  have hn47 := la Qhf ([(Qay.mk 1 Qbk (-1) (-1))] : List Qay)
  refine Oq Va (KS ?_)
  refine Oq (Vfa Qd0 1) (Oq (QaQ Qic 1) (Oq (QcE QgJ) (Oq Vm (KS ?_))))
  refine Kl (γ := Nat × List Qay × Int × Option Addr × Nat) (fun (r48, QhA, Qb6, a51, k52) => ⟨[(20, vl pa0 pk0 p.Funcs), (21, vi (p.Funcs.length : Int)), (22, vi Qbk), (6, vi Qbk), (5, vl a51 k52 QhA), (33, vl a35 k36 ((p.Funcs.getD Qbk.toNat default).Blocks)), (34, vi (((p.Funcs.getD Qbk.toNat default).Blocks).length : Int)), (35, vi Qb6)], [O a51 k52 QhA, S a35 k36 ((p.Funcs.getD Qbk.toNat default).Blocks), S pa0 pk0 p.Funcs, pv (gp 0) [vl kwLA kwLK kwL], S kwLA kwLK kwL], QeD Qbk ((p.Funcs.getD Qbk.toNat default).Blocks) r48 QhA Qb6 = QeD Qbk ((p.Funcs.getD Qbk.toNat default).Blocks) ((((((p.Funcs.getD Qbk.toNat default).Blocks).length : Int) : Int) - 0).toNat) (Qhf ++ [(Qay.mk 1 Qbk (-1) (-1))]) 0 /\ r48 = (((((p.Funcs.getD Qbk.toNat default).Blocks).length : Int) : Int) - Qb6).toNat /\ (0 : Int) <= Qb6 /\ (Qb6 <= (((p.Funcs.getD Qbk.toNat default).Blocks).length : Int) \/ Qb6 = 0) /\ (-9223372036854775808 <= Qb6 /\ Qb6 <= 9223372036854775807) /\ ((QhA.length : Int) <= 1100 * Qbk + 1 + 66 * Qb6), r48⟩) ((((((p.Funcs.getD Qbk.toNat default).Blocks).length : Int) : Int) - 0).toNat, (Qhf ++ [(Qay.mk 1 Qbk (-1) (-1))]), 0, a44, k45) [0, 2, 3, 4, 5] ⟨rfl, rfl, aM1, (.inr rfl), aM1, iv0⟩ ?_
  rintro ⟨r48, QhA, Qb6, a51, k52⟩ ⟨hM53, hr54, hi55, hi56, hk57, hv58⟩
  refine QbB fun _ _ hL hA => ?_; dsimp only at hL hA; subst hL hA
  refine Fb 32 0 fun _ => Fb 40 1 fun _ => Fb 40 2 fun _ => Fb 16 4 fun _ => ?_
  refine FoS 4 fun ho63 => ?_
  refine KS ?_
  refine Oq Qcu (KS ?_)
  refine Kc ?_ ?_
  ·intro h64
   have g65 := dt h64
   have hVk := hVf.2 Qb6.toNat
   have hb16 : Qb6 <= 15 := by have := hVf.1; omega
   obtain ⟨r66, rfl⟩ := scc (n := r48) aM1
   refine KS ?_
   refine Oq Vm (Oq (Vi QgJ 1) ?_)
   refine QcK Qb6.toNat 1 rfl rng fun a67 k68 hb69 => ?_
   refine Fb 72 1 fun _ => ?_
   refine Oq (Qc9 Qg2 0) (Oa (Al QnE [.string (bs (Str.mk [])), .slice none 0 0]) fun p71 => Oq Va (Ost (Scl [0] Qg2 [.string (bs ((((p.Funcs.getD Qbk.toNat default).Blocks).getD Qb6.toNat default).Name)), .slice a67 (((((p.Funcs.getD Qbk.toNat default).Blocks).getD Qb6.toNat default).Stmts).length) k68]) (KS ?_)))
   refine Oq (Vfa QdO 0) (Oq (QaQ QhV 0) (Oq (QcE QgE) (Oq Vm (KS ?_))))
   refine Kl (γ := Nat × List Qay × Int × Option Addr × Nat) (fun (r72, Qhg, Qdt, a75, k76) => ⟨[(20, vl pa0 pk0 p.Funcs), (21, vi (p.Funcs.length : Int)), (22, vi Qbk), (6, vi Qbk), (5, vl a75 k76 Qhg), (33, vl a35 k36 ((p.Funcs.getD Qbk.toNat default).Blocks)), (34, vi (((p.Funcs.getD Qbk.toNat default).Blocks).length : Int)), (35, vi Qb6), (8, vi Qb6), (41, .slice a67 (((((p.Funcs.getD Qbk.toNat default).Blocks).getD Qb6.toNat default).Stmts).length) k68), (42, vi (((((p.Funcs.getD Qbk.toNat default).Blocks).getD Qb6.toNat default).Stmts).length : Int)), (43, vi Qdt)], [O a75 k76 Qhg, S a67 k68 ((((p.Funcs.getD Qbk.toNat default).Blocks).getD Qb6.toNat default).Stmts), S a35 k36 ((p.Funcs.getD Qbk.toNat default).Blocks), S pa0 pk0 p.Funcs, pv (gp 0) [vl kwLA kwLK kwL], S kwLA kwLK kwL], Qd6 Qbk Qb6 ((((p.Funcs.getD Qbk.toNat default).Blocks).getD Qb6.toNat default).Stmts) r72 Qhg Qdt = Qd6 Qbk Qb6 ((((p.Funcs.getD Qbk.toNat default).Blocks).getD Qb6.toNat default).Stmts) ((((((((p.Funcs.getD Qbk.toNat default).Blocks).getD Qb6.toNat default).Stmts).length : Int) : Int) - 0).toNat) QhA 0 /\ r72 = (((((((p.Funcs.getD Qbk.toNat default).Blocks).getD Qb6.toNat default).Stmts).length : Int) : Int) - Qdt).toNat /\ (0 : Int) <= Qdt /\ (Qdt <= (((((p.Funcs.getD Qbk.toNat default).Blocks).getD Qb6.toNat default).Stmts).length : Int) \/ Qdt = 0) /\ (-9223372036854775808 <= Qdt /\ Qdt <= 9223372036854775807) /\ ((Qhg.length : Int) <= 1100 * Qbk + 1 + 66 * Qb6 + 2 * Qdt), r72⟩) ((((((((p.Funcs.getD Qbk.toNat default).Blocks).getD Qb6.toNat default).Stmts).length : Int) : Int) - 0).toNat, QhA, 0, a51, k52) [3, 2, 3, 4, 5, 6] ⟨rfl, rfl, aM1, (.inr rfl), aM1, iv0⟩ ?_
   rintro ⟨r72, Qhg, Qdt, a75, k76⟩ ⟨hM77, hr78, hi79, hi80, hk81, hv82⟩
   refine QbB fun _ _ hL hA => ?_; dsimp only at hL hA; subst hL hA
   refine Fb 32 0 fun _ => Fb 72 1 fun _ => Fb 40 2 fun _ => Fb 40 3 fun _ => Fb 16 5 fun _ => ?_
   refine FoS 5 fun ho88 => ?_
   refine KS ?_
   refine Oq Qcu (KS ?_)
   refine Kc ?_ ?_
   ·intro h89
    have g90 := dt h89
    have hb32 : Qdt <= 31 := by have := hVk.1; omega
    obtain ⟨r91, rfl⟩ := scc (n := r72) aM1
    refine KS ?_
    refine Oq Vm (Oq (Vi QgE 1) ?_)
    refine QdP Qdt.toNat 1 rfl rng fun a92 k93 a94 k95 hb96 hb97 => ?_
    unfold Qac at hb96
    refine Fb 16 1 fun _ => ?_
    refine FoS 1 fun ho99 => ?_
    refine Fb 16 2 fun _ => ?_
    refine FoS 2 fun ho101 => ?_
    refine Oq (Qc9 QdF 0) (Oa (Al Qqr [vi 0, .string (bs (Str.mk [])), .slice none 0 0, .slice none 0 0]) fun p102 => Oq Va (Ost (Scl [0] QdF [vi ((((((p.Funcs.getD Qbk.toNat default).Blocks).getD Qb6.toNat default).Stmts).getD Qdt.toNat default).Op), .string (bs ((((((p.Funcs.getD Qbk.toNat default).Blocks).getD Qb6.toNat default).Stmts).getD Qdt.toNat default).Def)), .slice a92 (((((((p.Funcs.getD Qbk.toNat default).Blocks).getD Qb6.toNat default).Stmts).getD Qdt.toNat default).Uses).length) k93, .slice a94 (((((((p.Funcs.getD Qbk.toNat default).Blocks).getD Qb6.toNat default).Stmts).getD Qdt.toNat default).Targets).length) k95]) (KS ?_)))
    refine Oq Vm (Oq Vm (Oq Vm (Oq Vm (Oq (Vbd Qle [vi 3, vi Qbk, vi Qb6, vi Qdt]) (Oa (AsV Qjj QoQ [.agg #[vi 3, vi Qbk, vi Qb6, vi Qdt]] [vi 3, vi Qbk, vi Qb6, vi Qdt]) fun c103 => ?_)))))
    refine Jo 0 ?_; rintro a104 k105 rfl
    refine Jl [0] (Ent.cr1 (α := Qay) (A := []) _ (Qay.mk 3 Qbk Qb6 Qdt) _ aB1 (fun h => ⟨rfl, aL1, aL1, aL1, aL1⟩)) ?_
    refine Oa (ApO [5, 0] Qjj Qjj QoQ) fun c106 => ?_
    refine Jo 0 ?_; rintro a107 k108 rfl
    refine Fb 32 0 fun _ => ?_
    have hn110 := la Qhg ([(Qay.mk 3 Qbk Qb6 Qdt)] : List Qay)
    refine Oq Va (KS ?_)
    refine Oq (Vfa Qdw 1) (Oq (QaQ sh3 1) (Oq Qby (KS ?_)))
    refine Kc ?_ ?_
    ·intro h111
     have g112 := eq_of_beq h111
     refine KS ?_
     refine Oq Vm (Oq Vm (Oq Vm (Oq Vm (Oq (Vbd Qle [vi 4, vi Qbk, vi Qb6, vi Qdt]) (Oa (AsV Qjj QoQ [.agg #[vi 4, vi Qbk, vi Qb6, vi Qdt]] [vi 4, vi Qbk, vi Qb6, vi Qdt]) fun c113 => ?_)))))
     refine Jo 0 ?_; rintro a114 k115 rfl
     refine Jl [0] (Ent.cr1 (α := Qay) (A := []) _ (Qay.mk 4 Qbk Qb6 Qdt) _ aB1 (fun h => ⟨rfl, aL1, aL1, aL1, aL1⟩)) ?_
     refine Oa (ApO [1, 0] Qjj Qjj QoQ) fun c116 => ?_
     refine Jo 0 ?_; rintro a117 k118 rfl
     refine Fb 32 0 fun _ => ?_
     have hn120 := la ((Qhg ++ [(Qay.mk 3 Qbk Qb6 Qdt)]) : List Qay) ([(Qay.mk 4 Qbk Qb6 Qdt)] : List Qay)
     refine Oq Va (KS ?_)
     refine Oq Qbd (Oq Vm (KS ?_))
     exact Kg (r91, ((Qhg ++ [(Qay.mk 3 Qbk Qb6 Qdt)]) ++ [(Qay.mk 4 Qbk Qb6 Qdt)]), (Qdt + 1), a117, k118) [0, 4, 5, 6, 7, 8] ⟨(q3 hM77 (by simp only [Qd6, h14, h32, h64, h89, h111, hg6, cs4])), aM1, aM1, aM1, aM1, iv1⟩
    intro h111
    have g121 := ne_of_beq_false h111
    refine KS ?_
    refine Oq Qbd (Oq Vm (KS ?_))
    exact Kg (r91, (Qhg ++ [(Qay.mk 3 Qbk Qb6 Qdt)]), (Qdt + 1), a107, k108) [0, 4, 5, 6, 7, 8] ⟨(q3 hM77 (by simp only [Qd6, h14, h32, h64, h89, h111, hg6, cs4])), aM1, aM1, aM1, aM1, iv1⟩
   intro h89
   have g122 := df h89
   obtain rfl : r72 = 0 := by omega
   refine Ke ?_
   have hR123 := q2 hM77 Qhg (by simp only [Qd6, h14, h32, h64, h89, hg6, cs4])
   refine KS ?_
   refine Oq Qbd (Oq Vm (KS ?_))
   exact Kg (r66, Qhg, (Qb6 + 1), a75, k76) [0, 1, 2, 3, 4] ⟨(q3 hM53 (by simp only [QeD, h14, h32, h64, h89, hg6, hR123, cs4])), aM1, aM1, aM1, aM1, iv1⟩
  intro h64
  have g124 := df h64
  obtain rfl : r48 = 0 := by omega
  refine Ke ?_
  have hR125 := q2 hM53 QhA (by simp only [QeD, h14, h32, h64, hg6, cs4])
  refine KS ?_
  refine Oq Vm (Oq Vm (Oq (Vbd Qle [vi 2, vi Qbk, vi (-1), vi (-1)]) (Oa (AsV Qjj QoQ [.agg #[vi 2, vi Qbk, vi (-1), vi (-1)]] [vi 2, vi Qbk, vi (-1), vi (-1)]) fun c126 => ?_)))
  refine Jo 0 ?_; rintro a127 k128 rfl
  refine Jl [0] (Ent.cr1 (α := Qay) (A := []) _ (Qay.mk 2 Qbk (-1) (-1)) _ aB1 (fun h => ⟨rfl, aL1, aL1, aL1, aL1⟩)) ?_
  refine Oa (ApO [1, 0] Qjj Qjj QoQ) fun c129 => ?_
  refine Jo 0 ?_; rintro a130 k131 rfl
  refine Fb 32 0 fun _ => ?_
  have hn133 := la QhA ([(Qay.mk 2 Qbk (-1) (-1))] : List Qay)
  refine Oq Va (KS ?_)
  refine Oq Qbd (Oq Vm (KS ?_))
  exact Kg (r34, (QhA ++ [(Qay.mk 2 Qbk (-1) (-1))]), (Qbk + 1), a130, k131) [0, 1, 2, 3] ⟨(q3 hM22 (by simp only [QeF, h14, h32, h64, hg6, hR125, cs4])), aM1, aM1, aM1, aM1, iv1⟩
 intro h32
 have g134 := df h32
 obtain rfl : r17 = 0 := by omega
 refine Ke ?_
 have hR135 := q2 hM22 Qhf (by simp only [QeF, h14, h32, hg6, cs4])
 refine KS ?_
 refine Oq Vm (Oq Va (KS ?_))
 refine Jl [0] (Ent.freeze _ _) ?_
 have hq := q4 hrr Qhf (by simp only [Qfv, h14, h32, hg6, hR135, cs4]); subst hq
 exact Kr (vl a20 k21 Qhf) rfl (.tmp rfl .nil) [0] en
theorem Qpc (bP : Value) (b : QaD) (ba0 : Option Addr) (bk0 : Nat) (ba1 : Option Addr) (bk1 : Nat) (ba2 : Option Addr) (bk2 : Nat) (bm3 : Value) (from_ : Int) (to_ : Int) (hfrom__0 : Qac from_) (hto__0 : Qac to_) (hb : BOk b) (hf0 : 0 <= from_ /\ from_ < (b.g.Succ.length : Int) /\ 0 <= to_ /\ to_ < (b.g.Succ.length : Int)) (rr : QaD) (hrr : QbP b from_ to_ = rr) : FT Tryd.prog 25 #[bP, vi from_, vi to_] [Cl bP [vl ba0 bk0 b.g.Nodes, vl ba1 bk1 b.g.Succ, vl ba2 bk2 b.g.Pred, bm3], S ba0 bk0 b.g.Nodes, D ba1 bk1 b.g.Succ, D ba2 bk2 b.g.Pred, Mp Qch vi Qb7 bm3 b.number] (fun g : Value × Value × Value => (BOk rr) /\ (rr.g.Succ.length = b.g.Succ.length)) (fun g => .tuple #[]) (fun g => [Cl bP [g.1, g.2.1, g.2.2, bm3], sl g.1 rr.g.Nodes, ds g.2.1 rr.g.Succ, ds g.2.2 rr.g.Pred, Mp Qch vi Qb7 bm3 rr.number]) := by
 refine FTi Tryd.func25 fun w0 M0 F0 => ?_
 unfold Qac at hfrom__0 hto__0
 refine Fb 32 1 fun _ => ?_
 refine FbD 24 2 fun _ => ?_
 refine FbD 24 3 fun _ => ?_
 have hps := hb.ps
 have hn0 := hb.n0
 have hnb := hb.nb
 have hsl := hb.sl (i := from_) aM1
 have hpl := hb.pl (i := to_) aM1
 refine KS ?_
 refine Oq Vm (Oq (Vn 0) (Oq (Vfa QiB 0) (Oq (Qqa Qgz 0) (Oq (QaQ QjR 0) (Oq Vm (Oq (Vi Qi6 2) ?_))))))
 refine QhW from_.toNat 2 rfl rng fun a4 k5 => ?_
 refine Fb 8 1 fun _ => Fo 1 fun ho7 => ?_
 refine Oq (Vld QkW 0) (Oq Vm ?_)
 refine QaO (Qcc (b.g.Succ.getD from_.toNat []) to_) fun rv8 hg9 => ?_
 refine Oc [1] Qur (QgB (A := _) (fun _ _ h => by cases h) (QjQ (Ent.take (is := [0]) rfl) (Que ((b.g.Succ.getD from_.toNat [])) a4 k5 to_ pre rv8 hg9))) ?_ (ht := rfl)
 rintro - -
 refine KS ?_
 refine Kc ?_ ?_
 ·intro h10
  refine Jl [1, 0] (Ent.closeS (A := [O a4 k5 ((b.g.Succ.getD from_.toNat []) : List Int)]) _ _ _ _ [] QqN) ?_
  have hq := q4 hrr b (by simp only [QbP, h10, hg9, cs4]); subst hq
  exact Kr (vl ba0 bk0 b.g.Nodes, vl ba1 bk1 b.g.Succ, vl ba2 bk2 b.g.Pred) rfl .nil [1, 1, 0, 1, 1] ⟨((QlQ hrr hb aM1 aM1).1), ((QlQ hrr hb aM1 aM1).2)⟩
 intro h10
 refine KS ?_
 refine Jp 2 fun hp13 => ?_
 refine Qav [0, 1, 3, 7, 15, 0, 0, 64, 192, 448, 960, 0, 4032, 8128, 0, 16384, 65472, 131071, 262143] Qc8 ?_
 refine Dv [] Vm (Dv [0] (Vn 0) (Dv [0] (Vfa QiB 0) (Dv [0] (Qqa Qgz 0) (Dv [3] (QaQ QjR 0) (Dv [] Vm (Dv [] Vm (Dv [0] (Vn 0) (Dv [0] (Vfa QiB 0) (Dv [0] (Qqa Qgz 0) ?_)))))))))
 refine Dv [3] (QaQ QjR 0) (Dv [] Vm (Dv [2] (Vi Qi6 0) (Dv [2] (Vld QkW 0) (Dv [] Vm (Dx [] [] [0] (fun G => (G.g 15 0)) [fun G => Cr (G.g 15 0) 1 [vi to_]] (fun G => xA (AsV Qb2 Qp8 [vi to_] [vi to_])) ?_)))))
 have hn16 := la ((b.g.Succ.getD from_.toNat []) : List Int) ([to_] : List Int)
 refine Dx [1, 7] [1, 7] [0] (fun G => (G.g 16 0)) [fun G => os (G.g 16 0) (((b.g.Succ.getD from_.toNat []) ++ [to_]) : List Int)] (fun G => xp [1] rfl (Ent.crInt _ [to_] _ _ rfl rfl (by intro x hx; rw [List.mem_singleton] at hx; subst hx; unfold Qac; omega) aB1) (xA (ApO [1, 0] Qb2 Qb2 Qp8))) (Dv [2] (Vi Qi6 0) (Dx0 [2, 8] [2] [1, 0] [fun G => dh (vl ba1 bk1 b.g.Succ) (b.g.Succ : List (List Int)) from_.toNat [(G.g 16 0)]] (fun G => x1 1 rfl Qf2 fun ho17 => (xS (Qq1 (α := (List Int)) [0] QkW [(G.g 16 0)] [(G.g 16 0)] (Qcs ho17) rfl (by simp only [List.all_cons, List.all_nil, ho17, Bool.and_true, Bool.true_and] <;> rfl)))) ?_))
 refine Dn ⟨by kernel_rfl, fun G => ?_⟩
 refine Jw2 [(0, bP), (1, vi from_), (2, vi to_)] [0, 3, 4, 5, 6] [os (G.g 16 0) (((b.g.Succ.getD from_.toNat []) ++ [to_]) : List Int), dh (vl ba1 bk1 b.g.Succ) (b.g.Succ : List (List Int)) from_.toNat [(G.g 16 0)]] ?_
 generalize G.g 16 0 = c15
 refine Jk [1, 1, 2, 2, 2, 2] ?_
 refine Jo 4 ?_; rintro a18 k19 rfl
 refine Fb 8 4 fun _ => Fo 4 fun ho21 => ?_
 refine Jp 0 fun hp22 => ?_
 refine QhW to_.toNat 3 rfl rng fun a23 k24 => ?_
 refine Fb 8 1 fun _ => Fo 1 fun ho26 => ?_
 refine Qav [0, 1, 3, 7, 15, 0, 0, 64, 192, 448, 960, 0, 4032, 8128, 0, 16384, 65472, 131071, 262143] Qc8 ?_
 refine Dv [] Vm (Dv [2] (Vn 0) (Dv [2] (Vfa QiB 0) (Dv [2] (Qqa Qjg 0) (Dv [3] (QaQ QjR 0) (Dv [] Vm (Dv [] Vm (Dv [2] (Vn 0) (Dv [2] (Vfa QiB 0) (Dv [2] (Qqa Qjg 0) ?_)))))))))
 refine Dv [3] (QaQ QjR 0) (Dv [] Vm (Dv [0] (Vi Qi6 0) (Dv [0] (Vld QkW 0) (Dv [] Vm (Dx [] [] [0] (fun G => (G.g 15 0)) [fun G => Cr (G.g 15 0) 1 [vi from_]] (fun G => xA (AsV Qb2 Qp8 [vi from_] [vi from_])) ?_)))))
 have hn29 := la ((b.g.Pred.getD to_.toNat []) : List Int) ([from_] : List Int)
 refine Dx [1, 8] [1, 8] [0] (fun G => (G.g 16 0)) [fun G => os (G.g 16 0) (((b.g.Pred.getD to_.toNat []) ++ [from_]) : List Int)] (fun G => xp [1] rfl (Ent.crInt _ [from_] _ _ rfl rfl (by intro x hx; rw [List.mem_singleton] at hx; subst hx; unfold Qac; omega) aB1) (xA (ApO [1, 0] Qb2 Qb2 Qp8))) (Dv [0] (Vi Qi6 0) (Dx0 [0, 9] [0] [1, 0] [fun G => dh (vl ba2 bk2 b.g.Pred) (b.g.Pred : List (List Int)) to_.toNat [(G.g 16 0)]] (fun G => x1 1 rfl Qf2 fun ho30 => (xS (Qq1 (α := (List Int)) [0] QkW [(G.g 16 0)] [(G.g 16 0)] (Qcs ho30) rfl (by simp only [List.all_cons, List.all_nil, ho30, Bool.and_true, Bool.true_and] <;> rfl)))) ?_))
 refine Dn ⟨by kernel_rfl, fun G => ?_⟩
 refine Jw2 [] [2, 3, 4, 5, 6, 7] [os (G.g 16 0) (((b.g.Pred.getD to_.toNat []) ++ [from_]) : List Int), dh (vl ba2 bk2 b.g.Pred) (b.g.Pred : List (List Int)) to_.toNat [(G.g 16 0)]] ?_
 generalize G.g 16 0 = c28
 refine Jk [1, 1, 2, 2, 2, 2, 2] ?_
 refine Jo 5 ?_; rintro a31 k32 rfl
 refine Fb 8 5 fun _ => Fo 5 fun ho34 => ?_
 refine Jl [4, 3] (Ent.closeD (A := [O a18 k19 (((b.g.Succ.getD from_.toNat []) ++ [to_]) : List Int)]) _ _ _ _ ((b.g.Succ.getD from_.toNat []) ++ [to_]) QqN) ?_
 refine Jl [5, 4] (Ent.closeD (A := [O a31 k32 (((b.g.Pred.getD to_.toNat []) ++ [from_]) : List Int)]) _ _ _ _ ((b.g.Pred.getD to_.toNat []) ++ [from_]) QqN) ?_
 have hq := q4 hrr (QaD.mk (Qbn.mk b.g.Nodes (b.g.Succ.set from_.toNat ((b.g.Succ.getD from_.toNat []) ++ [to_])) (b.g.Pred.set to_.toNat ((b.g.Pred.getD to_.toNat []) ++ [from_]))) b.number) (by simp only [QbP, h10, hg9, cs4]); subst hq
 exact Kz (vl ba0 bk0 b.g.Nodes, vl ba1 bk1 b.g.Succ, vl ba2 bk2 b.g.Pred) rfl .nil [2, 2, 1, 0, 1] ⟨((QlQ hrr hb aM1 aM1).1), ((QlQ hrr hb aM1 aM1).2)⟩
theorem QpS (bP : Value) (b : QaD) (ba0 : Option Addr) (bk0 : Nat) (ba1 : Option Addr) (bk1 : Nat) (ba2 : Option Addr) (bk2 : Nat) (bm3 : Value) (kind : Int) (f : Int) (block : Int) (stmt : Int) (QqG : Qac kind) (Qst : Qac f) (Qoz : Qac block) (QqH : Qac stmt) (hb : BOk b) (rr : Int) (hrr : Qgd b kind f block stmt = rr) : FT Tryd.prog 26 #[bP, vi kind, vi f, vi block, vi stmt] [Cl bP [vl ba0 bk0 b.g.Nodes, vl ba1 bk1 b.g.Succ, vl ba2 bk2 b.g.Pred, bm3], S ba0 bk0 b.g.Nodes, D ba1 bk1 b.g.Succ, D ba2 bk2 b.g.Pred, Mp Qch vi Qb7 bm3 b.number] (fun g : Unit => Qac rr /\ (0 <= rr /\ rr < (b.g.Succ.length : Int))) (fun g => vi rr) (fun g => [Cl bP [vl ba0 bk0 b.g.Nodes, vl ba1 bk1 b.g.Succ, vl ba2 bk2 b.g.Pred, bm3], D ba1 bk1 b.g.Succ, D ba2 bk2 b.g.Pred, Mp Qch vi Qb7 bm3 b.number]) := by
 refine FTi Tryd.func26 fun w0 M0 F0 => ?_
 unfold Qac at QqG Qst Qoz QqH
 refine Fb 32 1 fun _ => ?_
 refine FbD 24 2 fun _ => ?_
 refine FbD 24 3 fun _ => ?_
 have hps := hb.ps
 have hn0 := hb.n0
 have hnb := hb.nb
 have hat := QsN hb kind f block stmt
 unfold Qgd at hat
 refine KS ?_
 refine Oq Va (KS ?_)
 refine Oq Vm (Oq (Vn 0) (Oq (Vfa Qlv 0) (Oq (QaQ QsJ 0) (Oq Vm (Oq Vm (Oq Vm (Oq Vm (Oq (Vbd Qle [vi kind, vi f, vi block, vi stmt]) (Oq (Qqx 4 0 QsB QiQ ze3 (ek := Qch) (ev := vi) (ok := Qb7) (key := (Qay.mk kind f block stmt)) Qsx) ?_)))))))))
 refine Oq Va (KS ?_)
 have hq := q4 hrr ((Qea b.number (Qay.mk kind f block stmt)).getD 0) (by simp only [Qgd, cs4]); subst hq
 exact Kr () rfl (.tmp rfl .nil) [0, 1, 1, 1] ⟨en, (QvF hrr hb)⟩
theorem QvA (s : List QaM) (sa0 : Option Addr) (sk0 : Nat) (fF : FuncId) (fC : List Value) (fp : QaM -> Bool) (fA : List SP) (hfc : Qap Tryd.prog fF = true) (hfF : ∀ x ∈ s, ∀ (a1 : Option Addr) (k1 : Nat), x.Name.b.length <= 140737488355328 -> FT Tryd.prog fF ([(.agg #[.string (bs x.Name), vl a1 k1 x.Stmts] : Value)] ++ fC).toArray ([S a1 k1 x.Stmts] ++ [Qid fA]) (fun _ : Unit => True) (fun _ => .bool (fp x)) (fun _ => [])) (rr : Int) (hrr : Qdf s fp = rr) : FT Tryd.prog 78 #[vl sa0 sk0 s, .func (.func fF) #[] fC.toArray] [S sa0 sk0 s, Qid fA] (fun g : Unit => Qac rr) (fun g => vi rr) (fun g => []) := by
 refine FTi Tryd.func78 fun w0 M0 F0 => Fb 40 0 fun _ => ?_
 refine KS ?_
 refine Oq Va (KS ?_)
 refine Oq Vm (Oq (QcE QgJ) (Oq Vm (KS ?_)))
 refine Kl (γ := Nat × Int) (fun (r2, QfN) => ⟨[(0, vl sa0 sk0 s), (1, .func (.func fF) #[] fC.toArray), (7, vi (s.length : Int)), (8, vi QfN)], [S sa0 sk0 s, Qid fA], Qcd s fp r2 QfN = Qcd s fp (((s.length : Int) - 0).toNat) 0 /\ r2 = ((s.length : Int) - QfN).toNat /\ (0 : Int) <= QfN /\ QfN <= (s.length : Int) /\ (-9223372036854775808 <= QfN /\ QfN <= 9223372036854775807), r2⟩) (((s.length : Int) - 0).toNat, 0) [0, 1] ⟨rfl, rfl, aM1, aM1, aM1⟩ ?_
 rintro ⟨r2, QfN⟩ ⟨hM4, hr5, hi6, hi7, hk8⟩
 refine QbB fun _ _ hL hA => ?_; dsimp only at hL hA; subst hL hA
 refine Fb 40 0 fun _ => KS ?_
 refine Oq Qcu (KS ?_)
 refine Kc ?_ ?_
 ·intro h10
  have g11 := dt h10
  obtain ⟨r12, rfl⟩ := scc (n := r2) aM1
  refine KS ?_
  refine Oq Vm (Oq Va (KS ?_))
  refine Oq Vm (Oq Vm (Oq Vm (Oq (Vi QgJ 0) ?_)))
  refine QcK QfN.toNat 0 rfl rng fun a13 k14 hb15 => ?_
  refine Fb 72 1 fun _ => Oq (Qc9 Qg2 0) ?_
  refine Qes [1, 3] rfl rfl rfl (OpC.clo («as» := [(.agg #[.string (bs ((s.getD QfN.toNat default).Name)), vl a13 k14 ((s.getD QfN.toNat default).Stmts)] : Value)] ++ fC) rfl rfl hfc rfl (by simp)) (hfF (s.getD QfN.toNat default) (Qb4 rng) a13 k14 pre) rfl fun _ _ => ?_
  refine KS ?_
  refine Kc ?_ ?_
  ·intro h17
   refine KS ?_
   refine Oq Vm (Oq Va (KS ?_))
   have hR19 := q2 hM4 (.ret QfN) (by simp only [Qcd, h10, h17, cs4])
   have hq := q4 hrr QfN (by simp only [Qdf, h10, h17, hR19, cs4]); subst hq
   exact Kr () rfl (.tmp rfl .nil) [] en
  intro h17
  refine KS ?_
  refine Oq Qbd (Oq Vm (KS ?_))
  exact Kg (r12, (QfN + 1)) [2, 3] ⟨(q3 hM4 (by simp only [Qcd, h10, h17, cs4])), aM1, aM1, aM1, aM1⟩
 intro h10
 have g21 := df h10
 obtain rfl : r2 = 0 := by omega
 refine Ke ?_
 have hR22 := q2 hM4 (.brk ()) (by simp only [Qcd, h10, cs4])
 refine KS ?_
 refine Oq Va (KS ?_)
 have hq := q4 hrr (-1) (by simp only [Qdf, h10, hR22, cs4]); subst hq
 exact Kr () rfl (.tmp rfl .nil) [] en
theorem Qv1 (x : QaM) (xa1 : Option Addr) (xk1 : Nat) (cap0P : Value) (cap0 : Str) (Qsw : x.Name.b.length <= 140737488355328) (rr : Bool) (hrr : QfR x cap0 = rr) : FT Tryd.prog 79 #[.agg #[.string (bs x.Name), vl xa1 xk1 x.Stmts], cap0P] [S xa1 xk1 x.Stmts, pv cap0P [.string (bs cap0)]] (fun g : Unit => True) (fun g => vb rr) (fun g => []) := by
 refine FTi Tryd.func79 fun w0 M0 F0 => Fb 72 0 fun _ => ?_
 refine KS ?_
 refine Oa (Ab [.string (bs x.Name), vl xa1 xk1 x.Stmts]) fun p2 => Oq Va (KS ?_)
 refine Oq (Vfa Qk1 0) (Oq (QaQ sh9 0) (Oq (Vld sh9 2) (Oq (Qhj (l := x.Name) (m := cap0)) (Oq Va (KS ?_)))))
 have hq := q4 hrr (x.Name == cap0) (by simp only [QfR, cs4]); subst hq
 exact Kr () rfl (.tmp rfl .nil) [] trivial
theorem Qt7 (bP : Value) (b : QaD) (ba0 : Option Addr) (bk0 : Nat) (ba1 : Option Addr) (bk1 : Nat) (ba2 : Option Addr) (bk2 : Nat) (bm3 : Value) (p : Qaj) (pa0 : Option Addr) (pk0 : Nat) (f : Int) (name : Str) (Qst : Qac f) (QtN : name.b.length <= 140737488355328) (hb : BOk b) (hf0 : 0 <= f /\ f < (p.Funcs.length : Int)) (rr : Int) (hrr : QgR b p f name = rr) : FT Tryd.prog 51 #[bP, .agg #[vl pa0 pk0 p.Funcs], vi f, .string (bs name)] [Cl bP [vl ba0 bk0 b.g.Nodes, vl ba1 bk1 b.g.Succ, vl ba2 bk2 b.g.Pred, bm3], S ba0 bk0 b.g.Nodes, D ba1 bk1 b.g.Succ, D ba2 bk2 b.g.Pred, Mp Qch vi Qb7 bm3 b.number, S pa0 pk0 p.Funcs] (fun g : Unit => Qac rr /\ (0 <= rr /\ rr < (b.g.Succ.length : Int))) (fun g => vi rr) (fun g => [Cl bP [vl ba0 bk0 b.g.Nodes, vl ba1 bk1 b.g.Succ, vl ba2 bk2 b.g.Pred, bm3], D ba1 bk1 b.g.Succ, D ba2 bk2 b.g.Pred, Mp Qch vi Qb7 bm3 b.number]) := by
 refine FTi Tryd.func51 fun w0 M0 F0 => ?_
 unfold Qac at Qst
 refine Fb 32 1 fun _ => ?_
 refine FbD 24 2 fun _ => ?_
 refine FbD 24 3 fun _ => ?_
 refine Fb 40 5 fun _ => ?_
 have hps := hb.ps
 have hn0 := hb.n0
 have hnb := hb.nb
 refine KS ?_
 refine Oa (Ab [vl pa0 pk0 p.Funcs]) fun p5 => Oa (Ab [.string (bs name)]) fun p6 => Oq Va (KS ?_)
 refine Oq (Vfa QdZ 1) (Oq (QaQ Qia 1) (Oq Vm (Oq (Vi QgV 7) ?_)))
 refine QcR f.toNat 7 rfl rng fun a7 k8 hb9 => ?_
 refine Fb 40 1 fun _ => ?_
 refine Oq (Vfa Qd0 0) (Oq (QaQ Qic 0) (Oq (Vf [p6]) ?_))
 refine QfD (Ent.pall [2] rfl rfl) ?_
 refine QaO (Qdf ((p.Funcs.getD f.toNat default).Blocks) (fun x => QfR x name)) fun rv11 hg12 => ?_
 have hc13 := QvA ((p.Funcs.getD f.toNat default).Blocks) a7 k8 79 [p6] (fun x => QfR x name) [pv p6 [.string (bs name)]] Qwg (fun x hx a1 k1 hq0 => QeY (A1 := _) (Qv1 x a1 k1 p6 name hq0 _ rfl)) rv11 hg12
 refine Oc [2, 0] Qwm hc13 ?_
 rintro - he14
 unfold Qac at he14
 refine Oq Va (KS ?_)
 refine Oq Vm (Oq Vm (Oq Vm ?_))
 refine QaO (Qgd b 3 f rv11 0) fun rv15 hg16 => ?_
 have hc17 := QpS bP b ba0 bk0 ba1 bk1 ba2 bk2 bm3 3 f rv11 0 pre pre pre pre hb rv15 hg16
 refine Oc [5, 5, 6, 6, 6] Qp9 hc17 ?_
 rintro - ⟨he18, he19⟩
 unfold Qac at he18
 refine Oq Va (KS ?_)
 have hq := q4 hrr rv15 (by simp only [QgR, hg12, hg16, cs4]); subst hq
 exact Kr () rfl (.tmp rfl .nil) [0, 0, 0, 0] ⟨en, (Qpr hrr hb)⟩
theorem QvY (s : List Qbv) (sa0 : Option Addr) (sk0 : Nat) (fF : FuncId) (fC : List Value) (fp : Qbv -> Bool) (fA : List SP) (hfc : Qap Tryd.prog fF = true) (hfF : ∀ x ∈ s, ∀ (a1 : Option Addr) (k1 : Nat), x.Name.b.length <= 140737488355328 -> FT Tryd.prog fF ([(.agg #[.string (bs x.Name), vl a1 k1 x.Blocks] : Value)] ++ fC).toArray ([S a1 k1 x.Blocks] ++ [Qid fA]) (fun _ : Unit => True) (fun _ => .bool (fp x)) (fun _ => [])) (rr : Int) (hrr : QcX s fp = rr) : FT Tryd.prog 52 #[vl sa0 sk0 s, .func (.func fF) #[] fC.toArray] [S sa0 sk0 s, Qid fA] (fun g : Unit => Qac rr) (fun g => vi rr) (fun g => []) := by
 refine FTi Tryd.func52 fun w0 M0 F0 => Fb 40 0 fun _ => ?_
 refine KS ?_
 refine Oq Va (KS ?_)
 refine Oq Vm (Oq (QcE QgV) (Oq Vm (KS ?_)))
 refine Kl (γ := Nat × Int) (fun (r2, QfN) => ⟨[(0, vl sa0 sk0 s), (1, .func (.func fF) #[] fC.toArray), (7, vi (s.length : Int)), (8, vi QfN)], [S sa0 sk0 s, Qid fA], Qcp s fp r2 QfN = Qcp s fp (((s.length : Int) - 0).toNat) 0 /\ r2 = ((s.length : Int) - QfN).toNat /\ (0 : Int) <= QfN /\ QfN <= (s.length : Int) /\ (-9223372036854775808 <= QfN /\ QfN <= 9223372036854775807), r2⟩) (((s.length : Int) - 0).toNat, 0) [0, 1] ⟨rfl, rfl, aM1, aM1, aM1⟩ ?_
 rintro ⟨r2, QfN⟩ ⟨hM4, hr5, hi6, hi7, hk8⟩
 refine QbB fun _ _ hL hA => ?_; dsimp only at hL hA; subst hL hA
 refine Fb 40 0 fun _ => KS ?_
 refine Oq Qcu (KS ?_)
 refine Kc ?_ ?_
 ·intro h10
  have g11 := dt h10
  obtain ⟨r12, rfl⟩ := scc (n := r2) aM1
  refine KS ?_
  refine Oq Vm (Oq Va (KS ?_))
  refine Oq Vm (Oq Vm (Oq Vm (Oq (Vi QgV 0) ?_)))
  refine QcR QfN.toNat 0 rfl rng fun a13 k14 hb15 => ?_
  refine Fb 40 1 fun _ => Oq (Qc9 Qhk 0) ?_
  refine Qes [1, 3] rfl rfl rfl (OpC.clo («as» := [(.agg #[.string (bs ((s.getD QfN.toNat default).Name)), vl a13 k14 ((s.getD QfN.toNat default).Blocks)] : Value)] ++ fC) rfl rfl hfc rfl (by simp)) (hfF (s.getD QfN.toNat default) (Qb4 rng) a13 k14 pre) rfl fun _ _ => ?_
  refine KS ?_
  refine Kc ?_ ?_
  ·intro h17
   refine KS ?_
   refine Oq Vm (Oq Va (KS ?_))
   have hR19 := q2 hM4 (.ret QfN) (by simp only [Qcp, h10, h17, cs4])
   have hq := q4 hrr QfN (by simp only [QcX, h10, h17, hR19, cs4]); subst hq
   exact Kr () rfl (.tmp rfl .nil) [] en
  intro h17
  refine KS ?_
  refine Oq Qbd (Oq Vm (KS ?_))
  exact Kg (r12, (QfN + 1)) [2, 3] ⟨(q3 hM4 (by simp only [Qcp, h10, h17, cs4])), aM1, aM1, aM1, aM1⟩
 intro h10
 have g21 := df h10
 obtain rfl : r2 = 0 := by omega
 refine Ke ?_
 have hR22 := q2 hM4 (.brk ()) (by simp only [Qcp, h10, cs4])
 refine KS ?_
 refine Oq Va (KS ?_)
 have hq := q4 hrr (-1) (by simp only [QcX, h10, hR22, cs4]); subst hq
 exact Kr () rfl (.tmp rfl .nil) [] en
theorem Qwa (x : Qbv) (xa1 : Option Addr) (xk1 : Nat) (cap0P : Value) (cap0 : Qax) (cap0a2 : Option Addr) (cap0k2 : Nat) (cap0a3 : Option Addr) (cap0k3 : Nat) (Qsw : x.Name.b.length <= 140737488355328) (Qln : Qac cap0.Op) (ht0 : 0 < cap0.Targets.length) (rr : Bool) (hrr : QfZ x cap0 = rr) : FT Tryd.prog 53 #[.agg #[.string (bs x.Name), vl xa1 xk1 x.Blocks], cap0P] [S xa1 xk1 x.Blocks, pv cap0P [vi cap0.Op, .string (bs cap0.Def), vl cap0a2 cap0k2 cap0.Uses, vl cap0a3 cap0k3 cap0.Targets], S cap0a2 cap0k2 cap0.Uses, S cap0a3 cap0k3 cap0.Targets] (fun g : Unit => True) (fun g => vb rr) (fun g => []) := by
 refine FTi Tryd.func53 fun w0 M0 F0 => ?_
 unfold Qac at Qln
 refine Fb 40 0 fun _ => Fb 16 2 fun _ => ?_
 refine FoS 2 fun ho3 => ?_
 refine Fb 16 3 fun _ => ?_
 refine FoS 3 fun ho5 => ?_
 refine KS ?_
 refine Oa (Ab [.string (bs x.Name), vl xa1 xk1 x.Blocks]) fun p6 => Oq Va (KS ?_)
 refine Kq [0, 1, 0, 4, 12, 28, 63, 127] Qc8 ?_
 refine Qv [0] (Vfa Qk4 0) (Qv [0] (QaQ sh9 0) (Qv [2] (Vfa Qdi 0) (Qv [2] (QaQ Qeq 0) (Qv [4] (Vi Qcy 0) ?_))))
 have hb7 := okS (i := (0 : Int).toNat) ho5 rng
 refine Qv [4] (Qk5 sh9 0) (Qv [] (Qhj (l := x.Name) (m := (cap0.Targets.getD (0 : Int).toNat default))) (Qv [] Va ?_))
 refine Qn ⟨by kernel_rfl, ?_⟩
 have hq := q4 hrr (x.Name == (cap0.Targets.getD (0 : Int).toNat default)) (by simp only [QfZ, cs4]); subst hq
 exact Kr () rfl (.tmp rfl .nil) [] trivial
theorem QvV (bP : Value) (b : QaD) (ba0 : Option Addr) (bk0 : Nat) (ba1 : Option Addr) (bk1 : Nat) (ba2 : Option Addr) (bk2 : Nat) (bm3 : Value) (p : Qaj) (pa0 : Option Addr) (pk0 : Nat) (n : Qay) (s : Qax) (sa2 : Option Addr) (sk2 : Nat) (sa3 : Option Addr) (sk3 : Nat) (Qoy : Qac n.Kind) (Qws : Qac n.Func) (Qwt : Qac n.Block) (Qwu : Qac n.Stmt) (Qkw : Qac s.Op) (QqE : s.Def.b.length <= 140737488355328) (hb : BOk b) (hn0 : 0 <= n.Func /\ n.Func < (p.Funcs.length : Int) /\ n.Stmt <= 100000) (ht0 : s.Op = 3 -> 0 < s.Targets.length) (rr : QaD) (hrr : Qgq b p n s = rr) : FT Tryd.prog 27 #[bP, .agg #[vl pa0 pk0 p.Funcs], .agg #[vi n.Kind, vi n.Func, vi n.Block, vi n.Stmt], .agg #[vi s.Op, .string (bs s.Def), vl sa2 sk2 s.Uses, vl sa3 sk3 s.Targets]] [Cl bP [vl ba0 bk0 b.g.Nodes, vl ba1 bk1 b.g.Succ, vl ba2 bk2 b.g.Pred, bm3], S ba0 bk0 b.g.Nodes, D ba1 bk1 b.g.Succ, D ba2 bk2 b.g.Pred, Mp Qch vi Qb7 bm3 b.number, S pa0 pk0 p.Funcs, S sa2 sk2 s.Uses, S sa3 sk3 s.Targets] (fun g : Value × Value × Value => (BOk rr) /\ (rr.g.Succ.length = b.g.Succ.length)) (fun g => .tuple #[]) (fun g => [Cl bP [g.1, g.2.1, g.2.2, bm3], sl g.1 rr.g.Nodes, ds g.2.1 rr.g.Succ, ds g.2.2 rr.g.Pred, Mp Qch vi Qb7 bm3 rr.number]) := by
 refine FTi Tryd.func27 fun w0 M0 F0 => ?_
 unfold Qac at Qoy Qws Qwt Qwu Qkw
 refine Fb 32 1 fun _ => ?_
 refine FbD 24 2 fun _ => ?_
 refine FbD 24 3 fun _ => ?_
 refine Fb 40 5 fun _ => Fb 16 6 fun _ => ?_
 refine FoS 6 fun ho6 => ?_
 refine Fb 16 7 fun _ => ?_
 refine FoS 7 fun ho8 => ?_
 have hps := hb.ps
 have hn0 := hb.n0
 have hnb := hb.nb
 have hhe := hb.num n
 refine KS ?_
 refine Oa (Ab [vl pa0 pk0 p.Funcs]) fun p9 => Oa (Ab [vi n.Kind, vi n.Func, vi n.Block, vi n.Stmt]) fun p10 => Oa (Ab [vi s.Op, .string (bs s.Def), vl sa2 sk2 s.Uses, vl sa3 sk3 s.Targets]) fun p11 => KS ?_
 refine Jp 3 fun hp12 => ?_
 refine Kq [0, 1, 3, 7, 0, 31, 63] Qc8 ?_
 refine Qv [] Vm (Qv [0] (Vn 0) (Qv [0] (Vfa Qlv 0) (Qv [4] (QaQ QsJ 0) (Qv [2] (Qc9 Qhn 0) (Qv [8] (Qqx 0 0 QsB QiQ ze3 (ek := Qch) (ev := vi) (ok := Qb7) (key := n) Qsx) (Qv [] Va ?_))))))
 refine Qn ⟨by kernel_rfl, ?_⟩
 refine KS ?_
 refine Oq Vm (Oq (Vfa Qjk 2) (Oq (QaQ sh3 2) (Oq (Vfa Qnx 2) (Oq (QaQ sh3 2) (Oq (Vfa QmM 2) (Oq (QaQ sh3 2) (Oq Qbd ?_)))))))
 refine QaO (Qgd b 3 n.Func n.Block (n.Stmt + 1)) fun rv13 hg14 => ?_
 have hc15 := QpS bP b ba0 bk0 ba1 bk1 ba2 bk2 bm3 3 n.Func n.Block ((n.Stmt + 1)) pre pre pre pre (by assumption) rv13 hg14
 refine Oc [4, 4, 5, 5, 5] Qp9 hc15 ?_
 rintro - ⟨he16, he17⟩
 unfold Qac at he16
 refine Oq Va (KS ?_)
 refine Oq (Vfa Qdw 5) (Oq (QaQ sh3 5) (KS ?_))
 refine Oq Qby (Oq Va (KS ?_))
 refine Kc ?_ ?_
 ·intro h18
  have g19 := eq_of_beq h18
  refine KS ?_
  refine Kc ?_ ?_
  ·intro h20
   have g21 := eq_of_beq h20
   refine KS ?_
   refine Oq (Vfa Qdi 5) (Oq (QaQ Qeq 5) (Oq (QcE Qcy) (Oq Vm (KS ?_))))
   refine Kl (γ := Nat × List Qay × List (List Int) × List (List Int) × (List (Qay × Int)) × Int × Option Addr × Nat × Option Addr × Nat × Option Addr × Nat) (fun (r22, QiE, QhL, QiF, QjI, QgW, a28, k29, a30, k31, a32, k33) => ⟨[(0, bP), (5, p9), (6, p10), (8, vi ((Qea b.number n).getD 0)), (39, vl sa3 sk3 s.Targets), (40, vi (s.Targets.length : Int)), (41, vi QgW)], [D a32 k33 QiF, D a30 k31 QhL, S a28 k29 QiE, Cl bP [vl a28 k29 QiE, vl a30 k31 QhL, vl a32 k33 QiF, bm3], Mp Qch vi Qb7 bm3 QjI, pv p10 [vi n.Kind, vi n.Func, vi n.Block, vi n.Stmt], pv p9 [vl pa0 pk0 p.Funcs], S pa0 pk0 p.Funcs, S sa3 sk3 s.Targets], Qdd p n s ((Qea b.number n).getD 0) r22 QiE QhL QiF QjI QgW = Qdd p n s ((Qea b.number n).getD 0) (((s.Targets.length : Int) - 0).toNat) b.g.Nodes b.g.Succ b.g.Pred b.number 0 /\ r22 = ((s.Targets.length : Int) - QgW).toNat /\ (0 : Int) <= QgW /\ QgW <= (s.Targets.length : Int) /\ (-9223372036854775808 <= QgW /\ QgW <= 9223372036854775807) /\ BOk (QaD.mk (Qbn.mk QiE QhL QiF) QjI) /\ QhL.length = b.g.Succ.length, r22⟩) (((s.Targets.length : Int) - 0).toNat, b.g.Nodes, b.g.Succ, b.g.Pred, b.number, 0, ba0, bk0, ba1, bk1, ba2, bk2) [2, 1, 6, 0, 0, 2, 3, 5, 7] ⟨rfl, rfl, aM1, aM1, aM1, hb, rfl⟩ ?_
   rintro ⟨r22, QiE, QhL, QiF, QjI, QgW, a28, k29, a30, k31, a32, k33⟩ ⟨hM34, hr35, hi36, hi37, hk38, hv39, hv40⟩
   refine QbB fun _ _ hL hA => ?_; dsimp only at hL hA; subst hL hA
   refine FbD 24 0 fun _ => ?_
   refine FbD 24 1 fun _ => ?_
   refine Fb 32 2 fun _ => Fb 40 7 fun _ => Fb 16 8 fun _ => ?_
   refine FoS 8 fun ho46 => ?_
   refine KS ?_
   refine Oq Qcu (KS ?_)
   refine Kc ?_ ?_
   ·intro h47
    have g48 := dt h47
    obtain ⟨r49, rfl⟩ := scc (n := r22) aM1
    refine KS ?_
    refine Oq (Vi Qcy 8) ?_
    have hb50 := okS (i := QgW.toNat) ho46 rng
    refine Oq (Qk5 sh9 8) (Oq Va (KS ?_))
    refine Oq Vm (Oq Vm (Oq Vm (Oq (Qc9 Qec 6) (Oq (Vfa Qjk 5) (Oq (QaQ sh3 5) (Oq Vm ?_))))))
    refine QaO (QgR (QaD.mk (Qbn.mk QiE QhL QiF) QjI) p n.Func (s.Targets.getD QgW.toNat default)) fun rv51 hg52 => ?_
    have hc53 := Qt7 bP (QaD.mk (Qbn.mk QiE QhL QiF) QjI) a28 k29 a30 k31 a32 k33 bm3 p pa0 pk0 n.Func ((s.Targets.getD QgW.toNat default)) pre pre (by assumption) pre rv51 hg52
    refine Oc [3, 2, 1, 0, 1, 3] Qub hc53 ?_
    rintro - ⟨he54, he55⟩
    unfold Qac at he54
    have he55 : (0 <= rv51 /\ rv51 < (QhL.length : Int)) := he55
    refine QaO (QbP (QaD.mk (Qbn.mk QiE QhL QiF) QjI) ((Qea b.number n).getD 0) rv51) fun rv59 hg60 => ?_
    have hc61 := Qpc bP (QaD.mk (Qbn.mk QiE QhL QiF) QjI) a28 k29 a30 k31 a32 k33 bm3 (((Qea b.number n).getD 0)) rv51 pre pre (by assumption) pre rv59 hg60
    refine Oc [0, 3, 0, 0, 0] Qo6 hc61 ?_
    rintro ⟨c56, c57, c58⟩ ⟨he62, he63⟩
    have he63 : (rv59.g.Succ.length = QhL.length) := he63
    refine Jo 1 ?_; rintro a64 k65 rfl
    refine Fb 32 1 fun _ => ?_
    refine Jo 2 ?_; rintro a67 k68 rfl
    refine FbD 24 2 fun _ => ?_
    refine Jo 3 ?_; rintro a70 k71 rfl
    refine FbD 24 3 fun _ => ?_
    refine KS ?_
    refine Oq Qbd (Oq Vm (KS ?_))
    exact Kg (r49, rv59.g.Nodes, rv59.g.Succ, rv59.g.Pred, rv59.number, (QgW + 1), a64, k65, a67, k68, a70, k71) [3, 2, 1, 0, 1, 2, 3, 4, 5] ⟨(q3 hM34 (by simp only [Qdd, h18, h20, h47, hg14, hg52, hg60, cs4])), aM1, aM1, aM1, aM1, (by assumption), (by first | omega | (dsimp only at *; omega))⟩
   intro h47
   have g73 := df h47
   obtain rfl : r22 = 0 := by omega
   refine Ke ?_
   have hR74 := q2 hM34 (QiE, QhL, QiF, QjI) (by simp only [Qdd, h18, h20, h47, hg14, cs4])
   refine KS ?_
   have hq := q4 hrr (QaD.mk (Qbn.mk QiE QhL QiF) QjI) (by simp only [Qgq, h18, h20, h47, hg14, hR74, cs4]); subst hq
   exact Kz (vl a28 k29 QiE, vl a30 k31 QhL, vl a32 k33 QiF) rfl .nil [3, 2, 1, 0, 1] ⟨(by assumption), (by first | omega | (dsimp only; omega))⟩
  intro h20
  exact absurd h20 (by first | (simp [h18]; done) | (simp only [bne, h18]; decide) | (simp only [bne, h18, Bool.not_true, Bool.not_false]; decide) | (exfalso; omega) | (intro hq; simp only [bne, hq, Bool.not_false, Bool.not_true, reduceCtorEq] at h18))
 intro h18
 have g75 := ne_of_beq_false h18
 refine KS ?_
 refine Oq Qby (Oq Va (KS ?_))
 refine Kc ?_ ?_
 ·intro h76
  have g77 := eq_of_beq h76
  refine KS ?_
  refine Oq (Vfa Qdi 5) (Oq (QaQ Qeq 5) (Oq (QcE Qcy) (Oq Vm (KS ?_))))
  refine Kl (γ := Nat × List Qay × List (List Int) × List (List Int) × (List (Qay × Int)) × Int × Option Addr × Nat × Option Addr × Nat × Option Addr × Nat) (fun (r78, QiG, Qc7, QiH, QjJ, QgX, a84, k85, a86, k87, a88, k89) => ⟨[(0, bP), (5, p9), (6, p10), (8, vi ((Qea b.number n).getD 0)), (39, vl sa3 sk3 s.Targets), (40, vi (s.Targets.length : Int)), (41, vi QgX)], [D a88 k89 QiH, D a86 k87 Qc7, S a84 k85 QiG, Cl bP [vl a84 k85 QiG, vl a86 k87 Qc7, vl a88 k89 QiH, bm3], Mp Qch vi Qb7 bm3 QjJ, pv p10 [vi n.Kind, vi n.Func, vi n.Block, vi n.Stmt], pv p9 [vl pa0 pk0 p.Funcs], S pa0 pk0 p.Funcs, S sa3 sk3 s.Targets], Qdd p n s ((Qea b.number n).getD 0) r78 QiG Qc7 QiH QjJ QgX = Qdd p n s ((Qea b.number n).getD 0) (((s.Targets.length : Int) - 0).toNat) b.g.Nodes b.g.Succ b.g.Pred b.number 0 /\ r78 = ((s.Targets.length : Int) - QgX).toNat /\ (0 : Int) <= QgX /\ QgX <= (s.Targets.length : Int) /\ (-9223372036854775808 <= QgX /\ QgX <= 9223372036854775807) /\ BOk (QaD.mk (Qbn.mk QiG Qc7 QiH) QjJ) /\ Qc7.length = b.g.Succ.length, r78⟩) (((s.Targets.length : Int) - 0).toNat, b.g.Nodes, b.g.Succ, b.g.Pred, b.number, 0, ba0, bk0, ba1, bk1, ba2, bk2) [2, 1, 6, 0, 0, 2, 3, 5, 7] ⟨rfl, rfl, aM1, aM1, aM1, hb, rfl⟩ ?_
  rintro ⟨r78, QiG, Qc7, QiH, QjJ, QgX, a84, k85, a86, k87, a88, k89⟩ ⟨hM90, hr91, hi92, hi93, hk94, hv95, hv96⟩
  refine QbB fun _ _ hL hA => ?_; dsimp only at hL hA; subst hL hA
  refine FbD 24 0 fun _ => ?_
  refine FbD 24 1 fun _ => ?_
  refine Fb 32 2 fun _ => Fb 40 7 fun _ => Fb 16 8 fun _ => ?_
  refine FoS 8 fun ho102 => ?_
  refine KS ?_
  refine Oq Qcu (KS ?_)
  refine Kc ?_ ?_
  ·intro h103
   have g104 := dt h103
   obtain ⟨r105, rfl⟩ := scc (n := r78) aM1
   refine KS ?_
   refine Oq (Vi Qcy 8) ?_
   have hb106 := okS (i := QgX.toNat) ho102 rng
   refine Oq (Qk5 sh9 8) (Oq Va (KS ?_))
   refine Oq Vm (Oq Vm (Oq Vm (Oq (Qc9 Qec 6) (Oq (Vfa Qjk 5) (Oq (QaQ sh3 5) (Oq Vm ?_))))))
   refine QaO (QgR (QaD.mk (Qbn.mk QiG Qc7 QiH) QjJ) p n.Func (s.Targets.getD QgX.toNat default)) fun rv107 hg108 => ?_
   have hc109 := Qt7 bP (QaD.mk (Qbn.mk QiG Qc7 QiH) QjJ) a84 k85 a86 k87 a88 k89 bm3 p pa0 pk0 n.Func ((s.Targets.getD QgX.toNat default)) pre pre (by assumption) pre rv107 hg108
   refine Oc [3, 2, 1, 0, 1, 3] Qub hc109 ?_
   rintro - ⟨he110, he111⟩
   unfold Qac at he110
   have he111 : (0 <= rv107 /\ rv107 < (Qc7.length : Int)) := he111
   refine QaO (QbP (QaD.mk (Qbn.mk QiG Qc7 QiH) QjJ) ((Qea b.number n).getD 0) rv107) fun rv115 hg116 => ?_
   have hc117 := Qpc bP (QaD.mk (Qbn.mk QiG Qc7 QiH) QjJ) a84 k85 a86 k87 a88 k89 bm3 (((Qea b.number n).getD 0)) rv107 pre pre (by assumption) pre rv115 hg116
   refine Oc [0, 3, 0, 0, 0] Qo6 hc117 ?_
   rintro ⟨c112, c113, c114⟩ ⟨he118, he119⟩
   have he119 : (rv115.g.Succ.length = Qc7.length) := he119
   refine Jo 1 ?_; rintro a120 k121 rfl
   refine Fb 32 1 fun _ => ?_
   refine Jo 2 ?_; rintro a123 k124 rfl
   refine FbD 24 2 fun _ => ?_
   refine Jo 3 ?_; rintro a126 k127 rfl
   refine FbD 24 3 fun _ => ?_
   refine KS ?_
   refine Oq Qbd (Oq Vm (KS ?_))
   exact Kg (r105, rv115.g.Nodes, rv115.g.Succ, rv115.g.Pred, rv115.number, (QgX + 1), a120, k121, a123, k124, a126, k127) [3, 2, 1, 0, 1, 2, 3, 4, 5] ⟨(q3 hM90 (by simp only [Qdd, h18, h76, h103, hg14, hg108, hg116, cs4])), aM1, aM1, aM1, aM1, (by assumption), (by first | omega | (dsimp only at *; omega))⟩
  intro h103
  have g129 := df h103
  obtain rfl : r78 = 0 := by omega
  refine Ke ?_
  have hR130 := q2 hM90 (QiG, Qc7, QiH, QjJ) (by simp only [Qdd, h18, h76, h103, hg14, cs4])
  refine KS ?_
  have hq := q4 hrr (QaD.mk (Qbn.mk QiG Qc7 QiH) QjJ) (by simp only [Qgq, h18, h76, h103, hg14, hR130, cs4]); subst hq
  exact Kz (vl a84 k85 QiG, vl a86 k87 Qc7, vl a88 k89 QiH) rfl .nil [3, 2, 1, 0, 1] ⟨(by assumption), (by first | omega | (dsimp only; omega))⟩
 intro h76
 have g131 := ne_of_beq_false h76
 refine KS ?_
 refine Oq Qby (Oq Va (KS ?_))
 refine Kc ?_ ?_
 ·intro h132
  have g133 := eq_of_beq h132
  refine KS ?_
  refine Oq Vm (Oq Vm (Oq Vm (Oq (Vfa Qjk 6) (Oq (QaQ sh3 6) ?_))))
  refine QaO (Qgd b 2 n.Func (-1) (-1)) fun rv134 hg135 => ?_
  have hc136 := QpS bP b ba0 bk0 ba1 bk1 ba2 bk2 bm3 2 n.Func (-1) (-1) pre pre pre pre (by assumption) rv134 hg135
  refine Oc [0, 7, 0, 0, 0] Qp9 hc136 ?_
  rintro - ⟨he137, he138⟩
  unfold Qac at he137
  refine QaO (QbP b ((Qea b.number n).getD 0) rv134) fun rv142 hg143 => ?_
  have hc144 := Qpc bP b ba0 bk0 ba1 bk1 ba2 bk2 bm3 (((Qea b.number n).getD 0)) rv134 pre pre (by assumption) pre rv142 hg143
  refine Oc [0, 7, 0, 0, 0] Qo6 hc144 ?_
  rintro ⟨c139, c140, c141⟩ ⟨he145, he146⟩
  refine Jo 1 ?_; rintro a147 k148 rfl
  refine Fb 32 1 fun _ => ?_
  refine Jo 2 ?_; rintro a150 k151 rfl
  refine FbD 24 2 fun _ => ?_
  refine Jo 3 ?_; rintro a153 k154 rfl
  refine FbD 24 3 fun _ => ?_
  refine KS ?_
  have hq := q4 hrr rv142 (by simp only [Qgq, h18, h76, h132, hg14, hg135, hg143, cs4]); subst hq
  exact Kz (vl a147 k148 rv142.g.Nodes, vl a150 k151 rv142.g.Succ, vl a153 k154 rv142.g.Pred) rfl .nil [0, 0, 1, 1, 1] ⟨(by assumption), (by first | omega | (dsimp only; omega))⟩
 intro h132
 have g156 := ne_of_beq_false h132
 refine KS ?_
 refine Oq Qby (Oq Va (KS ?_))
 refine Kc ?_ ?_
 ·intro h157
  have g158 := eq_of_beq h157
  have ht1 := ht0 (by simpa using h157)
  refine KS ?_
  refine Oq (Vfa QdZ 7) (Oq (QaQ Qia 7) (Oq (Vf [p11]) ?_))
  refine QfD (Ent.pall [5, 10, 11] rfl rfl) ?_
  refine QaO (QcX p.Funcs (fun x => QfZ x s)) fun rv159 hg160 => ?_
  have hc161 := QvY p.Funcs pa0 pk0 53 [p11] (fun x => QfZ x s) [pv p11 [vi s.Op, .string (bs s.Def), vl sa2 sk2 s.Uses, vl sa3 sk3 s.Targets], S sa2 sk2 s.Uses, S sa3 sk3 s.Targets] Qvj (fun x hx a1 k1 hq0 => QeY (A1 := _) (Qwa x a1 k1 p11 s sa2 sk2 sa3 sk3 hq0 pre pre _ rfl)) rv159 hg160
  refine Oc [10, 0] QvR hc161 ?_
  rintro - he162
  unfold Qac at he162
  refine Oq Va (KS ?_)
  refine Oq Vm (Oq (Vfa Qjk 7) (Oq (QaQ sh3 7) (Oq (Vfa Qnx 7) (Oq (QaQ sh3 7) (Oq (Vfa QmM 7) (Oq (QaQ sh3 7) ?_))))))
  refine QaO (Qgd b 4 n.Func n.Block n.Stmt) fun rv163 hg164 => ?_
  have hc165 := QpS bP b ba0 bk0 ba1 bk1 ba2 bk2 bm3 4 n.Func n.Block n.Stmt pre pre pre pre (by assumption) rv163 hg164
  refine Oc [1, 8, 1, 1, 1] Qp9 hc165 ?_
  rintro - ⟨he166, he167⟩
  unfold Qac at he166
  refine Oq Va (KS ?_)
  refine Oq Vm (Oq Vm (Oq Vm (Oq Vm ?_)))
  refine QaO (Qgd b 1 rv159 (-1) (-1)) fun rv168 hg169 => ?_
  have hc170 := QpS bP b ba0 bk0 ba1 bk1 ba2 bk2 bm3 1 rv159 (-1) (-1) pre pre pre pre (by assumption) rv168 hg169
  refine Oc [0, 8, 0, 0, 0] Qp9 hc170 ?_
  rintro - ⟨he171, he172⟩
  unfold Qac at he171
  refine QaO (QbP b ((Qea b.number n).getD 0) rv168) fun rv176 hg177 => ?_
  have hc178 := Qpc bP b ba0 bk0 ba1 bk1 ba2 bk2 bm3 (((Qea b.number n).getD 0)) rv168 pre pre (by assumption) pre rv176 hg177
  refine Oc [0, 8, 0, 0, 0] Qo6 hc178 ?_
  rintro ⟨c173, c174, c175⟩ ⟨he179, he180⟩
  refine Jo 1 ?_; rintro a181 k182 rfl
  refine Fb 32 1 fun _ => ?_
  refine Jo 2 ?_; rintro a184 k185 rfl
  refine FbD 24 2 fun _ => ?_
  refine Jo 3 ?_; rintro a187 k188 rfl
  refine FbD 24 3 fun _ => ?_
  refine KS ?_
  refine Oq Vm (Oq Vm (Oq Vm ?_))
  refine QaO (Qgd rv176 2 rv159 (-1) (-1)) fun rv190 hg191 => ?_
  have hc192 := QpS bP rv176 a181 k182 a184 k185 a187 k188 bm3 2 rv159 (-1) (-1) pre pre pre pre (by assumption) rv190 hg191
  refine Oc [0, 0, 1, 1, 1] Qp9 hc192 ?_
  rintro - ⟨he193, he194⟩
  unfold Qac at he193
  refine Oq Vm ?_
  refine QaO (QbP rv176 rv190 rv163) fun rv198 hg199 => ?_
  have hc200 := Qpc bP rv176 a181 k182 a184 k185 a187 k188 bm3 rv190 rv163 pre pre (by assumption) pre rv198 hg199
  refine Oc [0, 3, 0, 0, 0] Qo6 hc200 ?_
  rintro ⟨c195, c196, c197⟩ ⟨he201, he202⟩
  refine Jo 1 ?_; rintro a203 k204 rfl
  refine Fb 32 1 fun _ => ?_
  refine Jo 2 ?_; rintro a206 k207 rfl
  refine FbD 24 2 fun _ => ?_
  refine Jo 3 ?_; rintro a209 k210 rfl
  refine FbD 24 3 fun _ => ?_
  refine KS ?_
  refine Oq Vm (Oq Vm (Oq Vm ?_))
  refine QaO (QbP rv198 rv163 rv13) fun rv215 hg216 => ?_
  have hc217 := Qpc bP rv198 a203 k204 a206 k207 a209 k210 bm3 rv163 rv13 pre pre (by assumption) pre rv215 hg216
  refine Oc [0, 0, 1, 1, 1] Qo6 hc217 ?_
  rintro ⟨c212, c213, c214⟩ ⟨he218, he219⟩
  refine Jo 1 ?_; rintro a220 k221 rfl
  refine Fb 32 1 fun _ => ?_
  refine Jo 2 ?_; rintro a223 k224 rfl
  refine FbD 24 2 fun _ => ?_
  refine Jo 3 ?_; rintro a226 k227 rfl
  refine FbD 24 3 fun _ => ?_
  refine KS ?_
  have hq := q4 hrr rv215 (by simp only [Qgq, h18, h76, h132, h157, hg14, hg160, hg164, hg169, hg177, hg191, hg199, hg216, cs4]); subst hq
  exact Kz (vl a220 k221 rv215.g.Nodes, vl a223 k224 rv215.g.Succ, vl a226 k227 rv215.g.Pred) rfl .nil [0, 0, 1, 1, 1] ⟨(by assumption), (by first | omega | (dsimp only; omega))⟩
 intro h157
 have g229 := ne_of_beq_false h157
 refine KS ?_
 refine Oq Vm (Oq Vm (Oq Vm ?_))
 refine QaO (QbP b ((Qea b.number n).getD 0) rv13) fun rv233 hg234 => ?_
 have hc235 := Qpc bP b ba0 bk0 ba1 bk1 ba2 bk2 bm3 (((Qea b.number n).getD 0)) rv13 pre pre (by assumption) pre rv233 hg234
 refine Oc [0, 7, 0, 0, 0] Qo6 hc235 ?_
 rintro ⟨c230, c231, c232⟩ ⟨he236, he237⟩
 refine Jo 1 ?_; rintro a238 k239 rfl
 refine Fb 32 1 fun _ => ?_
 refine Jo 2 ?_; rintro a241 k242 rfl
 refine FbD 24 2 fun _ => ?_
 refine Jo 3 ?_; rintro a244 k245 rfl
 refine FbD 24 3 fun _ => ?_
 refine KS ?_
 have hq := q4 hrr rv233 (by simp only [Qgq, h18, h76, h132, h157, hg14, hg234, cs4]); subst hq
 exact Kz (vl a238 k239 rv233.g.Nodes, vl a241 k242 rv233.g.Succ, vl a244 k245 rv233.g.Pred) rfl .nil [0, 0, 1, 1, 1] ⟨(by assumption), (by first | omega | (dsimp only; omega))⟩
theorem Qri (x : Int) (Qsw : Qac x) (rr : Bool) (hrr : Qed x = rr) : FT Tryd.prog 110 #[vi x] [] (fun g : Unit => True) (fun g => vb rr) (fun g => []) := by
 refine FTi Tryd.func110 fun w0 M0 F0 => ?_
 unfold Qac at Qsw
 refine KS ?_
 refine Oq Va (KS ?_)
 refine Oq Vm (Oq Vm (Oq QgA (Oq Va (KS ?_))))
 have hq := q4 hrr (x != x) (by simp only [Qed, cs4]); subst hq
 exact Kr () rfl (.tmp rfl .nil) [] trivial
theorem Qjb (x : Int) (y : Int) (Qsw : Qac x) (Qwv : Qac y) (rr : Bool) (hrr : Qar x y = rr) : FT Tryd.prog 86 #[vi x, vi y] [] (fun g : Unit => True) (fun g => vb rr) (fun g => []) := by
 refine FTi Tryd.func86 fun w0 M0 F0 => ?_
 unfold Qac at Qsw Qwv
 refine KS ?_
 refine Oq Va (KS ?_)
 refine Oq Vm ?_
 refine QaO (Qed x) fun rv1 hg2 => ?_
 have hc3 := Qri x pre rv1 hg2
 refine Oc [] Qsh hc3 ?_
 rintro - -
 refine Oq Vm ?_
 refine Js 7 ?_ ?_
 ·intro h4
  refine Oq Vm ?_
  refine QaO (Qed y) fun rv6 hg7 => ?_
  have hc8 := Qri y pre rv6 hg7
  refine Oc [] Qsh hc8 ?_
  rintro - -
  refine Oq QeP (Oq Vpt (Oq Vm ?_))
  refine Js 12 ?_ ?_
  ·intro h9
   have h11 := not_true h9
   refine Osk (Osk (Osk (Oq Vpt (Oq Va (KS ?_)))))
   have hq := q4 hrr true (by simp only [Qar, h4, h9, h11, hg2, hg7, cs4]); subst hq
   exact Kr () rfl (.tmp rfl .nil) [] trivial
  intro h9
  have h14 := not_false h9
  refine Oq Vm (Oq Vm (Oq Qcu (Oq Vpf (Oq Va (KS ?_)))))
  have hq := q4 hrr (decide (x < y)) (by simp only [Qar, h4, h9, h14, hg2, hg7, cs4]); subst hq
  exact Kr () rfl (.tmp rfl .nil) [] trivial
 intro h4
 refine Osk (Osk (Osk (Oq Vpf (Oq Vm (Oq Vm (Oq Vm (Oq Qcu (Oq Vpf (Oq Va ?_)))))))))
 refine KS ?_
 have hq := q4 hrr (decide (x < y)) (by simp only [Qar, h4, hg2, cs4]); subst hq
 exact Kr () rfl (.tmp rfl .nil) [] trivial
theorem Qwn (data : List Int) (Qaf : Option Addr) (Qag : Nat) (a : Int) (b : Int) (QhN : Qac a) (Qh4 : Qac b) (ha0 : 0 <= a /\ a <= b /\ b <= (data.length : Int) /\ data.length <= 65535) (rr : List Int) (hrr : Qbu data a b = rr) : FT Tryd.prog 80 #[vl Qaf Qag data, vi a, vi b] [O Qaf Qag data] (fun g : Unit => (rr.length = data.length)) (fun g => .tuple #[]) (fun g => [os (vl Qaf Qag data) rr]) := by
 refine FTi Tryd.func80 fun w0 M0 F0 => ?_
 unfold Qac at QhN Qh4
 refine Fb 8 0 fun _ => Fo 0 fun ho2 => KS ?_
 refine Oq Vm (Oq Qbd (Oq Va (KS ?_)))
 refine Kl (γ := Nat × List Int × Int) (fun (r3, Qan, i_5) => ⟨[(0, vl Qaf Qag data), (1, vi a), (2, vi b), (6, vi i_5)], [os (vl Qaf Qag data) Qan], QaL a r3 Qan i_5 = QaL a (((b : Int) - (a + 1)).toNat) data (a + 1) /\ r3 = ((b : Int) - i_5).toNat /\ ((a + 1) : Int) <= i_5 /\ (i_5 <= b \/ i_5 = (a + 1)) /\ (-9223372036854775808 <= i_5 /\ i_5 <= 9223372036854775807), r3⟩) (((b : Int) - (a + 1)).toNat, data, (a + 1)) [0] ⟨rfl, rfl, aM1, (.inr rfl), aM1⟩ ?_
 rintro ⟨r3, Qan, i_5⟩ ⟨hM6, hr7, hi8, hi9, hk10⟩
 refine QbB fun _ _ hL hA => ?_; dsimp only at hL hA; subst hL hA
 refine Fb 8 0 fun _ => Fo 0 fun ho12 => Fl 0 fun hn13 => ?_
 refine KS ?_
 refine Oq Vm (Oq Vm (Oq Qcu (KS ?_)))
 refine Kc ?_ ?_
 ·intro h14
  have g15 := dt h14
  obtain ⟨r16, rfl⟩ := scc (n := r3) aM1
  refine KS ?_
  refine Oq Vm (Oq Va (KS ?_))
  refine Kl (γ := Nat × List Int × Int) (fun (r17, QdH, Qho) => ⟨[(0, vl Qaf Qag data), (1, vi a), (2, vi b), (6, vi i_5), (7, vi Qho)], [os (vl Qaf Qag data) QdH], QaS r17 QdH Qho = QaS (((i_5 : Int) - a).toNat) Qan i_5 /\ r17 = ((Qho : Int) - a).toNat /\ Qho <= (i_5 : Int) /\ (-9223372036854775808 <= Qho /\ Qho <= 9223372036854775807), r17⟩) (((i_5 : Int) - a).toNat, Qan, i_5) [0] ⟨rfl, rfl, aM1, aM1⟩ ?_
  rintro ⟨r17, QdH, Qho⟩ ⟨hM20, hr21, hi22, hk23⟩
  refine QbB fun _ _ hL hA => ?_; dsimp only at hL hA; subst hL hA
  refine Fb 8 0 fun _ => Fo 0 fun ho25 => Fl 0 fun hn26 => ?_
  refine KS ?_
  refine Qav [0, 0, 3, 7, 15, 15, 63, 127, 15, 15, 527, 1807, 3855, 8191, 16383] Qc8 ?_
  refine Dv [] Vm (Dv [] Vm (Dv [] QhM ?_))
  refine QbI (decide (a < Qho)) ?_ ?_
  ·intro h27
   have g28 := dt h27
   obtain ⟨r29, rfl⟩ := scc (n := r17) aM1
   refine Db h27 [] Vm (Dv [] Vm (Dv [] Vm (Dv [0] (Vi Qb2 0) ?_)))
   have hb30 := ok1 (i := Qho.toNat) ho25 rng
   refine Dv [0] (QdG sh3 0) (Dv [] Vm (Dv [] Vm (Dv [] QdE (Dv [0] (Vi Qb2 0) ?_))))
   have hb31 := ok1 (i := ((Qho - 1) : Int).toNat) ho25 rng
   refine Dv [0] (QdG sh3 0) ?_
   refine QaO (Qar (QdH.getD Qho.toNat 0) (QdH.getD ((Qho - 1) : Int).toNat 0)) fun rv32 hg33 => ?_
   refine Dx [] [] [0] (fun G => vb rv32) [fun G => SP.fact (True)] (fun G => xC [] Qjf (Qjb ((QdH.getD Qho.toNat 0)) ((QdH.getD ((Qho - 1) : Int).toNat 0)) pre pre rv32 hg33)) (Dv [] Vpt ?_)
   refine Dn ⟨by kernel_rfl, fun G => ?_⟩
   refine Jw2 [(0, vl Qaf Qag data), (1, vi a), (2, vi b), (6, vi i_5), (7, vi Qho), (30, vb rv32)] [0] [SP.fact (True)] ?_
   refine Jk [0] ?_
   refine Kc ?_ ?_
   ·intro h34
    refine KS ?_
    refine Qav [0, 0, 0, 0, 8, 0, 0, 64, 224, 480, 0, 0, 3072, 7168, 16355, 32739, 65535, 131071] Qc8 ?_
    refine Dv [] Vm (Dv [] Vm (Dv [] Vm (Dv [] Vm (Dv [] QdE (Dv [] Vm (Dv [] Vm (Dv [] QdE (Dv [0] (Vi Qb2 0) ?_))))))))
    have hb36 := ok1 (i := ((Qho - 1) : Int).toNat) ho25 rng
    refine Dv [0] (QdG sh3 0) (Dv [] Vm (Dv [] Vm (Dv [0] (Vi Qb2 0) ?_)))
    have hb37 := ok1 (i := Qho.toNat) ho25 rng
    refine Dv [0] (QdG sh3 0) (Dv [0] (Vi Qb2 0) (Dx0 [0] [0] [0] [fun G => os (vl Qaf Qag data) (QdH.set Qho.toNat (QdH.getD ((Qho - 1) : Int).toNat 0))] (fun G => xS (SoI [0] sh3)) (Dv [1] (Vi Qb2 0) (Dx0 [1] [1] [0] [fun G => os (vl Qaf Qag data) ((QdH.set Qho.toNat (QdH.getD ((Qho - 1) : Int).toNat 0)).set ((Qho - 1) : Int).toNat (QdH.getD Qho.toNat 0))] (fun G => xS (SoI [0] sh3)) ?_))))
    refine Dn ⟨by kernel_rfl, fun G => ?_⟩
    refine Jw2 [(0, vl Qaf Qag data), (1, vi a), (2, vi b), (6, vi i_5), (7, vi Qho)] [] [os (vl Qaf Qag data) ((QdH.set Qho.toNat (QdH.getD ((Qho - 1) : Int).toNat 0)).set ((Qho - 1) : Int).toNat (QdH.getD Qho.toNat 0))] ?_
    refine KS ?_
    refine Oq Vm (Oq QdE (Oq Va (KS ?_)))
    exact Kg (r29, ((QdH.set Qho.toNat (QdH.getD ((Qho - 1) : Int).toNat 0)).set ((Qho - 1) : Int).toNat (QdH.getD Qho.toNat 0)), (Qho - 1)) [0] ⟨(q3 hM20 (by simp only [QaS, h14, h27, h34, hg33, cs4])), aM1, aM1, aM1⟩
   intro h34
   refine Ke ?_
   have hR39 := q2 hM20 QdH (by simp only [QaS, h14, h27, h34, hg33, cs4])
   refine KS ?_
   refine Oq Vm (Oq Qbd (Oq Va (KS ?_)))
   exact Kg (r16, QdH, (i_5 + 1)) [0] ⟨(q3 hM6 (by simp only [QaL, h14, h27, h34, hg33, hR39, cs4])), aM1, aM1, aM1, aM1⟩
  intro h27
  have g40 := df h27
  obtain rfl : r17 = 0 := by omega
  refine Db h27 [] Vm (Ds (Ds (Ds (Ds (Ds (Ds (Ds (Ds (Ds ?_)))))))))
  refine Ds (Dv [] Vpf ?_)
  refine Dn ⟨by kernel_rfl, fun G => ?_⟩
  refine Jw2 [(0, vl Qaf Qag data), (1, vi a), (2, vi b), (6, vi i_5), (7, vi Qho), (30, vb false)] [0] [] ?_
  refine Kf ?_
  refine Ke ?_
  have hR41 := q2 hM20 QdH (by simp only [QaS, h14, h27, cs4])
  refine KS ?_
  refine Oq Vm (Oq Qbd (Oq Va (KS ?_)))
  exact Kg (r16, QdH, (i_5 + 1)) [0] ⟨(q3 hM6 (by simp only [QaL, h14, h27, hR41, cs4])), aM1, aM1, aM1, aM1⟩
 intro h14
 have g42 := df h14
 obtain rfl : r3 = 0 := by omega
 refine Ke ?_
 have hR43 := q2 hM6 Qan (by simp only [QaL, h14, cs4])
 refine Fl 0 fun hn44 => ?_
 have hq := q4 hrr Qan (by simp only [Qbu, h14, hR43, cs4]); subst hq
 exact Kz () rfl .nil [0] en
theorem Qse (data : List Int) (Qaf : Option Addr) (Qag : Nat) (lo : Int) (hi : Int) (first : Int) (QtO : Qac lo) (QtP : Qac hi) (QoA : Qac first) (ha0 : 0 <= lo /\ lo <= 65535 /\ 0 <= hi /\ 0 <= first /\ first + hi <= (data.length : Int) /\ data.length <= 65535) (rr : List Int) (hrr : QaY data lo hi first = rr) : FT Tryd.prog 105 #[vl Qaf Qag data, vi lo, vi hi, vi first] [O Qaf Qag data] (fun g : Unit => (rr.length = data.length)) (fun g => .tuple #[]) (fun g => [os (vl Qaf Qag data) rr]) := by
 refine FTi Tryd.func105 fun w0 M0 F0 => ?_
 unfold Qac at QtO QtP QoA
 refine Fb 8 0 fun _ => Fo 0 fun ho2 => KS ?_
 refine Oq Vm (Oq Va (KS ?_))
 have hterm9 : Qas hi first (hi.toNat + 1) data lo ≠ LR.oof := (Qm0 _ _ _ aM1 aM1 aM1)
 refine Kl (γ := Nat × List Int × Int) (fun (r3, Qan, QaZ) => ⟨[(0, vl Qaf Qag data), (2, vi hi), (3, vi first), (8, vi QaZ)], [os (vl Qaf Qag data) Qan], Qas hi first r3 Qan QaZ = Qas hi first (hi.toNat + 1) data lo /\ (-9223372036854775808 <= QaZ /\ QaZ <= 9223372036854775807) /\ (0 <= QaZ /\ QaZ <= 70000), r3⟩) ((hi.toNat + 1), data, lo) [0] ⟨rfl, aM1, iv0⟩ ?_
 rintro ⟨r3, Qan, QaZ⟩ ⟨hM6, hk7, hv8⟩
 refine QbB fun _ _ hL hA => ?_; dsimp only at hL hA; subst hL hA
 refine Fb 8 0 fun _ => Fo 0 fun ho11 => Fl 0 fun hn12 => ?_
 rcases r3 with _ | r3
 ·exact absurd (hM6.symm.trans rfl) hterm9
 refine KS ?_
 refine Oq Vm (Oq Qps (Oq Qbd (Oq Va (KS ?_))))
 refine Oq Vm (Oq Vm (Oq QeU (KS ?_)))
 refine Kc ?_ ?_
 ·intro h13
  have g14 := dt h13
  refine Ke ?_
  have hR15 := q2 hM6 (.brk Qan) (by simp only [Qas, h13, cs4])
  refine Fl 0 fun hn16 => ?_
  have hq := q4 hrr Qan (by simp only [QaY, h13, hR15, cs4]); subst hq
  exact Kz () rfl .nil [0] en
 intro h13
 have g17 := df h13
 refine KS ?_
 refine Qav [0, 1, 0, 7, 15, 31, 31, 31, 223, 511, 1023, 31, 31, 31, 12319, 28703, 63519, 129055, 262143, 524287] Qc8 ?_
 refine Dv [] Vm (Dv [] Qbd (Dv [] Vm (Dv [] Qcu ?_)))
 refine QbI (decide ((((2 * QaZ) + 1) + 1) < hi)) ?_ ?_
 ·intro h18
  have g19 := dt h18
  refine Db h18 [] Vm (Dv [] Vm (Dv [] Vm (Dv [] Vm (Dv [] Qbd (Dv [0] (Vi Qb2 0) ?_)))))
  have hb20 := ok1 (i := ((first + ((2 * QaZ) + 1)) : Int).toNat) ho11 rng
  refine Dv [0] (QdG sh3 0) (Dv [] Vm (Dv [] Vm (Dv [] Vm (Dv [] Qbd (Dv [] Qbd (Dv [0] (Vi Qb2 0) ?_))))))
  have hb21 := ok1 (i := (((first + ((2 * QaZ) + 1)) + 1) : Int).toNat) ho11 rng
  refine Dv [0] (QdG sh3 0) ?_
  refine QaO (Qar (Qan.getD ((first + ((2 * QaZ) + 1)) : Int).toNat 0) (Qan.getD (((first + ((2 * QaZ) + 1)) + 1) : Int).toNat 0)) fun rv22 hg23 => ?_
  refine Dx [] [] [0] (fun G => vb rv22) [fun G => SP.fact (True)] (fun G => xC [] Qjf (Qjb ((Qan.getD ((first + ((2 * QaZ) + 1)) : Int).toNat 0)) ((Qan.getD (((first + ((2 * QaZ) + 1)) + 1) : Int).toNat 0)) pre pre rv22 hg23)) (Dv [] Vpt ?_)
  refine Dn ⟨by kernel_rfl, fun G => ?_⟩
  refine Jw2 [(0, vl Qaf Qag data), (2, vi hi), (3, vi first), (8, vi QaZ), (9, vi ((2 * QaZ) + 1)), (36, vb rv22)] [0] [SP.fact (True)] ?_
  refine Jk [0] ?_
  refine Kc ?_ ?_
  ·intro h24
   refine KS ?_
   refine Oq Vm (Oq Qbd (Oq Va (KS ?_)))
   refine Qav [0, 0, 0, 6, 15, 31, 0, 0, 0, 384, 960, 1984, 4095, 8191] Qc8 ?_
   refine Dv [] Vm (Dv [] Vm (Dv [] Vm (Dv [] Qbd (Dv [0] (Vi Qb2 0) ?_))))
   have hb26 := ok1 (i := ((first + QaZ) : Int).toNat) ho11 rng
   refine Dv [0] (QdG sh3 0) (Dv [] Vm (Dv [] Vm (Dv [] Vm (Dv [] Qbd (Dv [0] (Vi Qb2 0) ?_)))))
   have hb27 := ok1 (i := ((first + (((2 * QaZ) + 1) + 1)) : Int).toNat) ho11 rng
   refine Dv [0] (QdG sh3 0) ?_
   refine QaO (Qar (Qan.getD ((first + QaZ) : Int).toNat 0) (Qan.getD ((first + (((2 * QaZ) + 1) + 1)) : Int).toNat 0)) fun rv28 hg29 => ?_
   refine Dx [] [] [0] (fun G => vb rv28) [fun G => SP.fact (True)] (fun G => xC [] Qjf (Qjb ((Qan.getD ((first + QaZ) : Int).toNat 0)) ((Qan.getD ((first + (((2 * QaZ) + 1) + 1)) : Int).toNat 0)) pre pre rv28 hg29)) (Dv [] QeP ?_)
   refine Dn ⟨by kernel_rfl, fun G => ?_⟩
   refine Jw2 [(0, vl Qaf Qag data), (2, vi hi), (3, vi first), (8, vi QaZ), (9, vi (((2 * QaZ) + 1) + 1)), (52, vb (!rv28))] [0] [SP.fact (True)] ?_
   refine Jk [0] ?_
   refine Kc ?_ ?_
   ·intro h30
    have h32 := not_true h30
    refine Fl 0 fun hn34 => ?_
    have hR35 := q2 hM6 (.ret Qan) (by simp only [Qas, h13, h18, h24, h30, h32, hg23, hg29, cs4])
    have hq := q4 hrr Qan (by simp only [QaY, h13, h18, h24, h30, h32, hg23, hg29, hR35, cs4]); subst hq
    exact Kr () rfl .nil [0] en
   intro h30
   have h37 := not_false h30
   refine KS ?_
   refine Qav [0, 0, 0, 6, 0, 0, 0, 96, 0, 0, 0, 1536, 3840, 7936, 0, 0, 0, 98304, 245760, 507904, 1048335, 2096911, 4194303, 8388607] Qc8 ?_
   refine Dv [] Vm (Dv [] Vm (Dv [] Vm (Dv [] Qbd (Dv [] Vm (Dv [] Vm (Dv [] Vm (Dv [] Qbd (Dv [] Vm (Dv [] Vm ?_)))))))))
   refine Dv [] Vm (Dv [] Qbd (Dv [0] (Vi Qb2 0) ?_))
   have hb39 := ok1 (i := ((first + (((2 * QaZ) + 1) + 1)) : Int).toNat) ho11 rng
   refine Dv [0] (QdG sh3 0) (Dv [] Vm (Dv [] Vm (Dv [] Vm (Dv [] Qbd (Dv [0] (Vi Qb2 0) ?_)))))
   have hb40 := ok1 (i := ((first + QaZ) : Int).toNat) ho11 rng
   refine Dv [0] (QdG sh3 0) (Dv [0] (Vi Qb2 0) (Dx0 [0] [0] [0] [fun G => os (vl Qaf Qag data) (Qan.set ((first + QaZ) : Int).toNat (Qan.getD ((first + (((2 * QaZ) + 1) + 1)) : Int).toNat 0))] (fun G => xS (SoI [0] sh3)) (Dv [1] (Vi Qb2 0) (Dx0 [1] [1] [0] [fun G => os (vl Qaf Qag data) ((Qan.set ((first + QaZ) : Int).toNat (Qan.getD ((first + (((2 * QaZ) + 1) + 1)) : Int).toNat 0)).set ((first + (((2 * QaZ) + 1) + 1)) : Int).toNat (Qan.getD ((first + QaZ) : Int).toNat 0))] (fun G => xS (SoI [0] sh3)) ?_))))
   refine Dn ⟨by kernel_rfl, fun G => ?_⟩
   refine Jw2 [(0, vl Qaf Qag data), (2, vi hi), (3, vi first), (9, vi (((2 * QaZ) + 1) + 1))] [] [os (vl Qaf Qag data) ((Qan.set ((first + QaZ) : Int).toNat (Qan.getD ((first + (((2 * QaZ) + 1) + 1)) : Int).toNat 0)).set ((first + (((2 * QaZ) + 1) + 1)) : Int).toNat (Qan.getD ((first + QaZ) : Int).toNat 0))] ?_
   refine KS ?_
   refine Oq Vm (Oq Va (KS ?_))
   exact Kg (r3, ((Qan.set ((first + QaZ) : Int).toNat (Qan.getD ((first + (((2 * QaZ) + 1) + 1)) : Int).toNat 0)).set ((first + (((2 * QaZ) + 1) + 1)) : Int).toNat (Qan.getD ((first + QaZ) : Int).toNat 0)), (((2 * QaZ) + 1) + 1)) [0] ⟨(q3 hM6 (by simp only [Qas, h13, h18, h24, h30, h37, hg23, hg29, cs4])), aM1, iv1⟩
  intro h24
  refine KS ?_
  refine Qav [0, 0, 0, 6, 15, 31, 0, 0, 0, 384, 960, 1984, 4095, 8191] Qc8 ?_
  refine Dv [] Vm (Dv [] Vm (Dv [] Vm (Dv [] Qbd (Dv [0] (Vi Qb2 0) ?_))))
  have hb42 := ok1 (i := ((first + QaZ) : Int).toNat) ho11 rng
  refine Dv [0] (QdG sh3 0) (Dv [] Vm (Dv [] Vm (Dv [] Vm (Dv [] Qbd (Dv [0] (Vi Qb2 0) ?_)))))
  have hb43 := ok1 (i := ((first + ((2 * QaZ) + 1)) : Int).toNat) ho11 rng
  refine Dv [0] (QdG sh3 0) ?_
  refine QaO (Qar (Qan.getD ((first + QaZ) : Int).toNat 0) (Qan.getD ((first + ((2 * QaZ) + 1)) : Int).toNat 0)) fun rv44 hg45 => ?_
  refine Dx [] [] [0] (fun G => vb rv44) [fun G => SP.fact (True)] (fun G => xC [] Qjf (Qjb ((Qan.getD ((first + QaZ) : Int).toNat 0)) ((Qan.getD ((first + ((2 * QaZ) + 1)) : Int).toNat 0)) pre pre rv44 hg45)) (Dv [] QeP ?_)
  refine Dn ⟨by kernel_rfl, fun G => ?_⟩
  refine Jw2 [(0, vl Qaf Qag data), (2, vi hi), (3, vi first), (8, vi QaZ), (9, vi ((2 * QaZ) + 1)), (52, vb (!rv44))] [0] [SP.fact (True)] ?_
  refine Jk [0] ?_
  refine Kc ?_ ?_
  ·intro h46
   have h48 := not_true h46
   refine Fl 0 fun hn50 => ?_
   have hR51 := q2 hM6 (.ret Qan) (by simp only [Qas, h13, h18, h24, h46, h48, hg23, hg45, cs4])
   have hq := q4 hrr Qan (by simp only [QaY, h13, h18, h24, h46, h48, hg23, hg45, hR51, cs4]); subst hq
   exact Kr () rfl .nil [0] en
  intro h46
  have h53 := not_false h46
  refine KS ?_
  refine Qav [0, 0, 0, 6, 0, 0, 0, 96, 0, 0, 0, 1536, 3840, 7936, 0, 0, 0, 98304, 245760, 507904, 1048335, 2096911, 4194303, 8388607] Qc8 ?_
  refine Dv [] Vm (Dv [] Vm (Dv [] Vm (Dv [] Qbd (Dv [] Vm (Dv [] Vm (Dv [] Vm (Dv [] Qbd (Dv [] Vm (Dv [] Vm ?_)))))))))
  refine Dv [] Vm (Dv [] Qbd (Dv [0] (Vi Qb2 0) ?_))
  have hb55 := ok1 (i := ((first + ((2 * QaZ) + 1)) : Int).toNat) ho11 rng
  refine Dv [0] (QdG sh3 0) (Dv [] Vm (Dv [] Vm (Dv [] Vm (Dv [] Qbd (Dv [0] (Vi Qb2 0) ?_)))))
  have hb56 := ok1 (i := ((first + QaZ) : Int).toNat) ho11 rng
  refine Dv [0] (QdG sh3 0) (Dv [0] (Vi Qb2 0) (Dx0 [0] [0] [0] [fun G => os (vl Qaf Qag data) (Qan.set ((first + QaZ) : Int).toNat (Qan.getD ((first + ((2 * QaZ) + 1)) : Int).toNat 0))] (fun G => xS (SoI [0] sh3)) (Dv [1] (Vi Qb2 0) (Dx0 [1] [1] [0] [fun G => os (vl Qaf Qag data) ((Qan.set ((first + QaZ) : Int).toNat (Qan.getD ((first + ((2 * QaZ) + 1)) : Int).toNat 0)).set ((first + ((2 * QaZ) + 1)) : Int).toNat (Qan.getD ((first + QaZ) : Int).toNat 0))] (fun G => xS (SoI [0] sh3)) ?_))))
  refine Dn ⟨by kernel_rfl, fun G => ?_⟩
  refine Jw2 [(0, vl Qaf Qag data), (2, vi hi), (3, vi first), (9, vi ((2 * QaZ) + 1))] [] [os (vl Qaf Qag data) ((Qan.set ((first + QaZ) : Int).toNat (Qan.getD ((first + ((2 * QaZ) + 1)) : Int).toNat 0)).set ((first + ((2 * QaZ) + 1)) : Int).toNat (Qan.getD ((first + QaZ) : Int).toNat 0))] ?_
  refine KS ?_
  refine Oq Vm (Oq Va (KS ?_))
  exact Kg (r3, ((Qan.set ((first + QaZ) : Int).toNat (Qan.getD ((first + ((2 * QaZ) + 1)) : Int).toNat 0)).set ((first + ((2 * QaZ) + 1)) : Int).toNat (Qan.getD ((first + QaZ) : Int).toNat 0)), ((2 * QaZ) + 1)) [0] ⟨(q3 hM6 (by simp only [Qas, h13, h18, h24, h46, h53, hg23, hg45, cs4])), aM1, iv1⟩
 intro h18
 have g57 := df h18
 refine Db h18 [] Vm (Ds (Ds (Ds (Ds (Ds (Ds (Ds (Ds (Ds ?_)))))))))
 refine Ds (Ds (Ds (Ds (Ds (Dv [] Vpf ?_)))))
 refine Dn ⟨by kernel_rfl, fun G => ?_⟩
 refine Jw2 [(0, vl Qaf Qag data), (2, vi hi), (3, vi first), (8, vi QaZ), (9, vi ((2 * QaZ) + 1)), (36, vb false)] [0] [] ?_
 refine Kf (KS ?_)
 refine Qav [0, 0, 0, 6, 15, 31, 0, 0, 0, 384, 960, 1984, 4095, 8191] Qc8 ?_
 refine Dv [] Vm (Dv [] Vm (Dv [] Vm (Dv [] Qbd (Dv [0] (Vi Qb2 0) ?_))))
 have hb58 := ok1 (i := ((first + QaZ) : Int).toNat) ho11 rng
 refine Dv [0] (QdG sh3 0) (Dv [] Vm (Dv [] Vm (Dv [] Vm (Dv [] Qbd (Dv [0] (Vi Qb2 0) ?_)))))
 have hb59 := ok1 (i := ((first + ((2 * QaZ) + 1)) : Int).toNat) ho11 rng
 refine Dv [0] (QdG sh3 0) ?_
 refine QaO (Qar (Qan.getD ((first + QaZ) : Int).toNat 0) (Qan.getD ((first + ((2 * QaZ) + 1)) : Int).toNat 0)) fun rv60 hg61 => ?_
 refine Dx [] [] [0] (fun G => vb rv60) [fun G => SP.fact (True)] (fun G => xC [] Qjf (Qjb ((Qan.getD ((first + QaZ) : Int).toNat 0)) ((Qan.getD ((first + ((2 * QaZ) + 1)) : Int).toNat 0)) pre pre rv60 hg61)) (Dv [] QeP ?_)
 refine Dn ⟨by kernel_rfl, fun G => ?_⟩
 refine Jw2 [(0, vl Qaf Qag data), (2, vi hi), (3, vi first), (8, vi QaZ), (9, vi ((2 * QaZ) + 1)), (52, vb (!rv60))] [0] [SP.fact (True)] ?_
 refine Jk [0] ?_
 refine Kc ?_ ?_
 ·intro h62
  have h64 := not_true h62
  refine Fl 0 fun hn66 => ?_
  have hR67 := q2 hM6 (.ret Qan) (by simp only [Qas, h13, h18, h62, h64, hg61, cs4])
  have hq := q4 hrr Qan (by simp only [QaY, h13, h18, h62, h64, hg61, hR67, cs4]); subst hq
  exact Kr () rfl .nil [0] en
 intro h62
 have h69 := not_false h62
 refine KS ?_
 refine Qav [0, 0, 0, 6, 0, 0, 0, 96, 0, 0, 0, 1536, 3840, 7936, 0, 0, 0, 98304, 245760, 507904, 1048335, 2096911, 4194303, 8388607] Qc8 ?_
 refine Dv [] Vm (Dv [] Vm (Dv [] Vm (Dv [] Qbd (Dv [] Vm (Dv [] Vm (Dv [] Vm (Dv [] Qbd (Dv [] Vm (Dv [] Vm ?_)))))))))
 refine Dv [] Vm (Dv [] Qbd (Dv [0] (Vi Qb2 0) ?_))
 have hb71 := ok1 (i := ((first + ((2 * QaZ) + 1)) : Int).toNat) ho11 rng
 refine Dv [0] (QdG sh3 0) (Dv [] Vm (Dv [] Vm (Dv [] Vm (Dv [] Qbd (Dv [0] (Vi Qb2 0) ?_)))))
 have hb72 := ok1 (i := ((first + QaZ) : Int).toNat) ho11 rng
 refine Dv [0] (QdG sh3 0) (Dv [0] (Vi Qb2 0) (Dx0 [0] [0] [0] [fun G => os (vl Qaf Qag data) (Qan.set ((first + QaZ) : Int).toNat (Qan.getD ((first + ((2 * QaZ) + 1)) : Int).toNat 0))] (fun G => xS (SoI [0] sh3)) (Dv [1] (Vi Qb2 0) (Dx0 [1] [1] [0] [fun G => os (vl Qaf Qag data) ((Qan.set ((first + QaZ) : Int).toNat (Qan.getD ((first + ((2 * QaZ) + 1)) : Int).toNat 0)).set ((first + ((2 * QaZ) + 1)) : Int).toNat (Qan.getD ((first + QaZ) : Int).toNat 0))] (fun G => xS (SoI [0] sh3)) ?_))))
 refine Dn ⟨by kernel_rfl, fun G => ?_⟩
 refine Jw2 [(0, vl Qaf Qag data), (2, vi hi), (3, vi first), (9, vi ((2 * QaZ) + 1))] [] [os (vl Qaf Qag data) ((Qan.set ((first + QaZ) : Int).toNat (Qan.getD ((first + ((2 * QaZ) + 1)) : Int).toNat 0)).set ((first + ((2 * QaZ) + 1)) : Int).toNat (Qan.getD ((first + QaZ) : Int).toNat 0))] ?_
 refine KS ?_
 refine Oq Vm (Oq Va (KS ?_))
 exact Kg (r3, ((Qan.set ((first + QaZ) : Int).toNat (Qan.getD ((first + ((2 * QaZ) + 1)) : Int).toNat 0)).set ((first + ((2 * QaZ) + 1)) : Int).toNat (Qan.getD ((first + QaZ) : Int).toNat 0)), ((2 * QaZ) + 1)) [0] ⟨(q3 hM6 (by simp only [Qas, h13, h18, h62, h69, hg61, cs4])), aM1, iv1⟩
theorem QvZ (data : List Int) (Qaf : Option Addr) (Qag : Nat) (a : Int) (b : Int) (QhN : Qac a) (Qh4 : Qac b) (ha0 : 0 <= a /\ a <= b /\ b <= (data.length : Int) /\ data.length <= 65535 /\ 1 <= b - a) (rr : List Int) (hrr : QbM data a b = rr) : FT Tryd.prog 81 #[vl Qaf Qag data, vi a, vi b] [O Qaf Qag data] (fun g : Unit => (rr.length = data.length)) (fun g => .tuple #[]) (fun g => [os (vl Qaf Qag data) rr]) := by
 refine FTi Tryd.func81 fun w0 M0 F0 => ?_
 unfold Qac at QhN Qh4
 refine Fb 8 0 fun _ => Fo 0 fun ho2 => KS ?_
 refine Oq Vm (Oq Va (KS ?_))
 refine Oq Va (KS ?_)
 refine Oq Vm (Oq Vm (Oq QdE (Oq Va (KS ?_))))
 refine Oq Vm (Oq QdE (Oq QjW (Oq Va (KS ?_))))
 have hterm9 : Qa9 a b ((b - a).toNat + 1) data (((b - a) - 1) / 2) ≠ LR.oof := (Qmt _ _ _ aM1 aM1)
 refine Kl (γ := Nat × List Int × Int) (fun (r3, Qan, i_5) => ⟨[(0, vl Qaf Qag data), (6, vi a), (7, vi 0), (8, vi (b - a)), (9, vi i_5)], [os (vl Qaf Qag data) Qan], Qa9 a b r3 Qan i_5 = Qa9 a b ((b - a).toNat + 1) data (((b - a) - 1) / 2) /\ (-9223372036854775808 <= i_5 /\ i_5 <= 9223372036854775807) /\ (-1 <= i_5 /\ i_5 <= b - a), r3⟩) (((b - a).toNat + 1), data, (((b - a) - 1) / 2)) [0] ⟨rfl, aM1, iv0⟩ ?_
 rintro ⟨r3, Qan, i_5⟩ ⟨hM6, hk7, hv8⟩
 refine QbB fun _ _ hL hA => ?_; dsimp only at hL hA; subst hL hA
 refine Fb 8 0 fun _ => Fo 0 fun ho11 => Fl 0 fun hn12 => ?_
 rcases r3 with _ | r3
 ·exact absurd (hM6.symm.trans rfl) hterm9
 refine KS ?_
 refine Oq Vm (Oq QeU (KS ?_))
 refine Kc ?_ ?_
 ·intro h13
  have g14 := dt h13
  refine KS ?_
  refine Oq Vm (Oq Vm (Oq Vm (Oq Vm ?_)))
  refine Fl 0 fun hn15 => ?_; (try unfold vl); rw [<- hn15]
  refine QaO (QaY Qan i_5 (b - a) a) fun rv16 hg17 => ?_
  have hc18 := Qse Qan Qaf Qag i_5 ((b - a)) a pre pre pre pre rv16 hg17
  refine Oc [0] Qq8 hc18 ?_
  rintro - he19
  have hn20 : Qan.length = data.length := by omega
  try unfold vl
  try rw [hn20]
  refine Fb 8 0 fun _ => Fo 0 fun ho22 => KS ?_
  refine Oq Vm (Oq QdE (Oq Va (KS ?_)))
  exact Kg (r3, rv16, (i_5 - 1)) [0] ⟨(q3 hM6 (by simp only [Qa9, h13, hg17, cs4])), aM1, iv1⟩
 intro h13
 have g23 := df h13
 refine Ke ?_
 have hR24 := q2 hM6 (.brk Qan) (by simp only [Qa9, h13, cs4])
 refine KS ?_
 refine Oq Vm (Oq QdE (Oq Va (KS ?_)))
 have hterm31 : Qa8 a ((b - a).toNat + 1) Qan ((b - a) - 1) ≠ LR.oof := (QmX _ _ _ aM1 aM1)
 refine Kl (γ := Nat × List Int × Int) (fun (r25, QdI, Qjw) => ⟨[(0, vl Qaf Qag data), (6, vi a), (7, vi 0), (10, vi Qjw)], [os (vl Qaf Qag data) QdI], Qa8 a r25 QdI Qjw = Qa8 a ((b - a).toNat + 1) Qan ((b - a) - 1) /\ (-9223372036854775808 <= Qjw /\ Qjw <= 9223372036854775807) /\ (-1 <= Qjw /\ Qjw < b - a), r25⟩) (((b - a).toNat + 1), Qan, ((b - a) - 1)) [0] ⟨rfl, aM1, iv0⟩ ?_
 rintro ⟨r25, QdI, Qjw⟩ ⟨hM28, hk29, hv30⟩
 refine QbB fun _ _ hL hA => ?_; dsimp only at hL hA; subst hL hA
 refine Fb 8 0 fun _ => Fo 0 fun ho33 => Fl 0 fun hn34 => ?_
 rcases r25 with _ | r25
 ·exact absurd (hM28.symm.trans rfl) hterm31
 refine KS ?_
 refine Oq Vm (Oq QeU (KS ?_))
 refine Kc ?_ ?_
 ·intro h35
  have g36 := dt h35
  refine KS ?_
  refine Qav [0, 0, 0, 0, 0, 24, 0, 0, 0, 384, 960, 1984, 0, 0, 12288, 28672, 65475, 131011, 262143, 524287] Qc8 ?_
  refine Dv [] Vm (Dv [] Vm (Dv [] Vm (Dv [] Vm (Dv [] Vm (Dv [] Qbd (Dv [] Vm (Dv [] Vm (Dv [] Vm (Dv [] Qbd ?_)))))))))
  refine Dv [0] (Vi Qb2 0) ?_
  have hb37 := ok1 (i := ((a + Qjw) : Int).toNat) ho33 rng
  refine Dv [0] (QdG sh3 0) (Dv [] Vm (Dv [] Vm (Dv [0] (Vi Qb2 0) ?_)))
  have hb38 := ok1 (i := a.toNat) ho33 rng
  refine Dv [0] (QdG sh3 0) (Dv [0] (Vi Qb2 0) (Dx0 [0] [0] [0] [fun G => os (vl Qaf Qag data) (QdI.set a.toNat (QdI.getD ((a + Qjw) : Int).toNat 0))] (fun G => xS (SoI [0] sh3)) (Dv [1] (Vi Qb2 0) (Dx0 [1] [1] [0] [fun G => os (vl Qaf Qag data) ((QdI.set a.toNat (QdI.getD ((a + Qjw) : Int).toNat 0)).set ((a + Qjw) : Int).toNat (QdI.getD a.toNat 0))] (fun G => xS (SoI [0] sh3)) ?_))))
  refine Dn ⟨by kernel_rfl, fun G => ?_⟩
  refine Jw2 [(0, vl Qaf Qag data), (6, vi a), (7, vi 0), (10, vi Qjw)] [] [os (vl Qaf Qag data) ((QdI.set a.toNat (QdI.getD ((a + Qjw) : Int).toNat 0)).set ((a + Qjw) : Int).toNat (QdI.getD a.toNat 0))] ?_
  refine KS ?_
  refine Oq Vm (Oq Vm (Oq Vm (Oq Vm ?_)))
  refine Fl 0 fun hn39 => ?_; (try unfold vl); rw [<- hn39]
  refine QaO (QaY ((QdI.set a.toNat (QdI.getD ((a + Qjw) : Int).toNat 0)).set ((a + Qjw) : Int).toNat (QdI.getD a.toNat 0)) 0 Qjw a) fun rv40 hg41 => ?_
  have hc42 := Qse (((QdI.set a.toNat (QdI.getD ((a + Qjw) : Int).toNat 0)).set ((a + Qjw) : Int).toNat (QdI.getD a.toNat 0))) Qaf Qag 0 Qjw a pre pre pre pre rv40 hg41
  refine Oc [0] Qq8 hc42 ?_
  rintro - he43
  have hn44 : ((QdI.set a.toNat (QdI.getD ((a + Qjw) : Int).toNat 0)).set ((a + Qjw) : Int).toNat (QdI.getD a.toNat 0)).length = data.length := by omega
  try unfold vl
  try rw [hn44]
  refine Fb 8 0 fun _ => Fo 0 fun ho46 => KS ?_
  refine Oq Vm (Oq QdE (Oq Va (KS ?_)))
  exact Kg (r25, rv40, (Qjw - 1)) [0] ⟨(q3 hM28 (by simp only [Qa8, h13, h35, hR24, hg41, cs4])), aM1, iv1⟩
 intro h35
 have g47 := df h35
 refine Ke ?_
 have hR48 := q2 hM28 (.brk QdI) (by simp only [Qa8, h13, h35, hR24, cs4])
 refine Fl 0 fun hn49 => ?_
 have hq := q4 hrr QdI (by simp only [QbM, h13, h35, hR24, hR48, cs4]); subst hq
 exact Kz () rfl .nil [0] en
theorem Qwj (x : BitVec 64) (hx0 : x.toNat <= 65535) (rr : Int) (hrr : QfQ x = rr) : FT Tryd.prog 90 #[u64 x] [] (fun g : Unit => Qac rr) (fun g => vi rr) (fun g => []) := by
 refine FTi Tryd.func90 fun w0 M0 F0 => ?_
 have hs8 : (x >>> (((8#64).toNat : Int)).toNat).toNat = x.toNat / 256 := by rw [show (((8#64).toNat : Int)).toNat = 8 by decide, BitVec.toNat_ushiftRight, Nat.shiftRight_eq_div_pow]
 have hs9 : (x >>> Int.toNat 8).toNat = x.toNat / 256 := hs8
 have hu8 := u8b (Qj6.b.getD (((x >>> Int.toNat 8).toNat : Int)).toNat 0)
 refine KS ?_
 refine Oq Va (KS ?_)
 refine Oq Vm (Oq (QeU (a := (x.toNat : Int)) (b := 4294967296)) (KS ?_))
 refine Kc ?_ ?_
 ·intro h1
  have g2 := dt h1
  exfalso; omega
 intro h1
 have g3 := df h1
 refine KS ?_
 refine Oq Vm (Oq (QeU (a := (x.toNat : Int)) (b := 65536)) (KS ?_))
 refine Kc ?_ ?_
 ·intro h4
  have g5 := dt h4
  exfalso; omega
 intro h4
 have g6 := df h4
 refine KS ?_
 refine Oq Vm (Oq (QeU (a := (x.toNat : Int)) (b := 256)) (KS ?_))
 refine Kc ?_ ?_
 ·intro h7
  have g8 := dt h7
  refine KS ?_
  refine Oq Vm (Oq QrS (Oq Va (KS ?_)))
  refine Oq Vm (Oq Qbd (Oq Va (KS ?_)))
  refine Oq Vm (Oq Vm (Oq (Quh QqU un5) ?_))
  refine Oq (Vix un9 (l := Qj6) (h := ⟨by omega, by rw [show Qj6.b.length = 256 from rfl]; omega⟩)) ?_
  have hb9 := u8b (Qj6.b.getD (((x >>> (((8#64).toNat : Int)).toNat).toNat : Int) : Int).toNat 0)
  refine Oq (VcK un5 un3) (Oq Qbd (Oq Va (KS ?_)))
  have hq := q4 hrr ((0 + 8) + ((Qj6.b.getD (((x >>> (((8#64).toNat : Int)).toNat).toNat : Int) : Int).toNat 0).toNat : Int)) (by simp only [QfQ, h1, h4, h7, cs4]); subst hq
  exact Kr () rfl (.tmp rfl .nil) [] en
 intro h7
 have g10 := df h7
 refine KS ?_
 refine Oq Vm (Oq Vm (Oq (Quh QqU un5) ?_))
 refine Oq (Vix un9 (l := Qj6) (h := ⟨by omega, by rw [show Qj6.b.length = 256 from rfl]; omega⟩)) ?_
 have hb11 := u8b (Qj6.b.getD ((x.toNat : Int) : Int).toNat 0)
 refine Oq (VcK un5 un3) (Oq Qbd (Oq Va (KS ?_)))
 have hq := q4 hrr (0 + ((Qj6.b.getD ((x.toNat : Int) : Int).toNat 0).toNat : Int)) (by simp only [QfQ, h1, h4, h7, cs4]); subst hq
 exact Kr () rfl (.tmp rfl .nil) [] en
theorem Qup (x : BitVec 64) (hx0 : x.toNat <= 65535) (rr : Int) (hrr : Qen x = rr) : FT Tryd.prog 55 #[u64 x] [] (fun g : Unit => Qac rr) (fun g => vi rr) (fun g => []) := by
 refine FTi Tryd.func55 fun w0 M0 F0 => ?_
 refine KS ?_
 refine Oq Va (KS ?_)
 refine Kf (KS ?_)
 refine Oq Vm ?_
 refine QaO (QfQ x) fun rv1 hg2 => ?_
 have hc3 := Qwj x pre rv1 hg2
 refine Oc [] Qvt hc3 ?_
 rintro - he4
 unfold Qac at he4
 refine Oq Va (KS ?_)
 have hq := q4 hrr rv1 (by simp only [Qen, hg2, cs4]); subst hq
 exact Kr () rfl (.tmp rfl .nil) [] en
theorem Qts (length : Int) (QnB : Qac length) (hl0 : 1 <= length /\ length <= 65535) (rr : BitVec 64) (hrr : QcF length = rr) : FT Tryd.prog 106 #[vi length] [] (fun g : Unit => True) (fun g => u64 rr) (fun g => []) := by
 refine FTi Tryd.func106 fun w0 M0 F0 => ?_
 unfold Qac at QnB
 refine KS ?_
 refine Oq Va (KS ?_)
 refine Oq Vm (Oq (VcU un3 Ql3) ?_)
 refine QaO (Qen (BitVec.ofInt 64 length)) fun rv1 hg2 => ?_
 have hln := QrZ hg2 (by rw [Qjd aM1]; omega)
 have hc3 := Qup ((BitVec.ofInt 64 length)) (by rw [Qjd aM1]; omega) rv1 hg2
 refine Oc [] QtY hc3 ?_
 rintro - he4
 unfold Qac at he4
 refine Oq (Qp6 (a := 1#64)) (Oq Va (KS ?_))
 have hq := q4 hrr (1#64 <<< (rv1).toNat) (by simp only [QcF, hg2, cs4]); subst hq
 exact Kr () rfl (.tmp rfl .nil) [] trivial
theorem Qta (rP : Value) (r : BitVec 64) (rr : BitVec 64 × BitVec 64) (hrr : Qdp r = rr) : FT Tryd.prog 107 #[rP] [Cl rP [u64 r]] (fun g : Unit => True) (fun g => u64 rr.1) (fun g => [Cl rP [u64 rr.2]]) := by
 refine FTi Tryd.func107 fun w0 M0 F0 => ?_
 refine KS ?_
 refine Oq Va (KS ?_)
 refine Jp 0 fun hp1 => ?_
 refine Qav [0, 1, 3, 0, 8, 24, 56, 127, 255, 511] Qc8 ?_
 refine Dv [] Vm (Dv [0] (Vn 0) (Dv [1] (Vld Qjs 0) (Dv [] Vm (Dv [0] (Vn 0) (Dv [1] (Vld Qjs 0) (Dv [] Qp6 (Dv [] Qqy (Dv [0] (Vn 0) (Dx0 [1] [1] [0] [fun G => Cl rP [u64 (r ^^^ (r <<< (((13#64).toNat : Int)).toNat))]] (fun G => xS (Scl [0] Qjs [u64 (r ^^^ (r <<< (((13#64).toNat : Int)).toNat))])) ?_)))))))))
 refine Dn ⟨by kernel_rfl, fun G => ?_⟩
 refine Jw2 [(0, rP)] [0] [Cl rP [u64 (r ^^^ (r <<< (((13#64).toNat : Int)).toNat))]] ?_
 refine Jk [1] ?_
 refine KS ?_
 refine Jp 0 fun hp2 => ?_
 refine Qav [0, 1, 3, 0, 8, 24, 56, 127, 255, 511] Qc8 ?_
 refine Dv [] Vm (Dv [0] (Vn 0) (Dv [1] (Vld Qjs 0) (Dv [] Vm (Dv [0] (Vn 0) (Dv [1] (Vld Qjs 0) (Dv [] QrS (Dv [] Qqy (Dv [0] (Vn 0) (Dx0 [1] [1] [0] [fun G => Cl rP [u64 ((r ^^^ (r <<< (((13#64).toNat : Int)).toNat)) ^^^ ((r ^^^ (r <<< (((13#64).toNat : Int)).toNat)) >>> (((7#64).toNat : Int)).toNat))]] (fun G => xS (Scl [0] Qjs [u64 ((r ^^^ (r <<< (((13#64).toNat : Int)).toNat)) ^^^ ((r ^^^ (r <<< (((13#64).toNat : Int)).toNat)) >>> (((7#64).toNat : Int)).toNat))])) ?_)))))))))
 refine Dn ⟨by kernel_rfl, fun G => ?_⟩
 refine Jw2 [(0, rP)] [0] [Cl rP [u64 ((r ^^^ (r <<< (((13#64).toNat : Int)).toNat)) ^^^ ((r ^^^ (r <<< (((13#64).toNat : Int)).toNat)) >>> (((7#64).toNat : Int)).toNat))]] ?_
 refine Jk [1] ?_
 refine KS ?_
 refine Jp 0 fun hp3 => ?_
 refine Qav [0, 1, 3, 0, 8, 24, 56, 127, 255, 511] Qc8 ?_
 refine Dv [] Vm (Dv [0] (Vn 0) (Dv [1] (Vld Qjs 0) (Dv [] Vm (Dv [0] (Vn 0) (Dv [1] (Vld Qjs 0) (Dv [] Qp6 (Dv [] Qqy (Dv [0] (Vn 0) (Dx0 [1] [1] [0] [fun G => Cl rP [u64 (((r ^^^ (r <<< (((13#64).toNat : Int)).toNat)) ^^^ ((r ^^^ (r <<< (((13#64).toNat : Int)).toNat)) >>> (((7#64).toNat : Int)).toNat)) ^^^ (((r ^^^ (r <<< (((13#64).toNat : Int)).toNat)) ^^^ ((r ^^^ (r <<< (((13#64).toNat : Int)).toNat)) >>> (((7#64).toNat : Int)).toNat)) <<< (((17#64).toNat : Int)).toNat))]] (fun G => xS (Scl [0] Qjs [u64 (((r ^^^ (r <<< (((13#64).toNat : Int)).toNat)) ^^^ ((r ^^^ (r <<< (((13#64).toNat : Int)).toNat)) >>> (((7#64).toNat : Int)).toNat)) ^^^ (((r ^^^ (r <<< (((13#64).toNat : Int)).toNat)) ^^^ ((r ^^^ (r <<< (((13#64).toNat : Int)).toNat)) >>> (((7#64).toNat : Int)).toNat)) <<< (((17#64).toNat : Int)).toNat))])) ?_)))))))))
 refine Dn ⟨by kernel_rfl, fun G => ?_⟩
 refine Jw2 [(0, rP)] [0] [Cl rP [u64 (((r ^^^ (r <<< (((13#64).toNat : Int)).toNat)) ^^^ ((r ^^^ (r <<< (((13#64).toNat : Int)).toNat)) >>> (((7#64).toNat : Int)).toNat)) ^^^ (((r ^^^ (r <<< (((13#64).toNat : Int)).toNat)) ^^^ ((r ^^^ (r <<< (((13#64).toNat : Int)).toNat)) >>> (((7#64).toNat : Int)).toNat)) <<< (((17#64).toNat : Int)).toNat))]] ?_
 refine Jk [1] ?_
 refine KS ?_
 refine Oq Vm (Oq (Vn 0) (Oq (Vld Qjs 0) (Oq Va (KS ?_))))
 have hq := q4 hrr ((((r ^^^ (r <<< (((13#64).toNat : Int)).toNat)) ^^^ ((r ^^^ (r <<< (((13#64).toNat : Int)).toNat)) >>> (((7#64).toNat : Int)).toNat)) ^^^ (((r ^^^ (r <<< (((13#64).toNat : Int)).toNat)) ^^^ ((r ^^^ (r <<< (((13#64).toNat : Int)).toNat)) >>> (((7#64).toNat : Int)).toNat)) <<< (((17#64).toNat : Int)).toNat)), (((r ^^^ (r <<< (((13#64).toNat : Int)).toNat)) ^^^ ((r ^^^ (r <<< (((13#64).toNat : Int)).toNat)) >>> (((7#64).toNat : Int)).toNat)) ^^^ (((r ^^^ (r <<< (((13#64).toNat : Int)).toNat)) ^^^ ((r ^^^ (r <<< (((13#64).toNat : Int)).toNat)) >>> (((7#64).toNat : Int)).toNat)) <<< (((17#64).toNat : Int)).toNat))) (by simp only [Qdp, cs4]); subst hq
 exact Kr () rfl (.tmp rfl .nil) [0] trivial
theorem Qv4 (data : List Int) (Qaf : Option Addr) (Qag : Nat) (a : Int) (b : Int) (QhN : Qac a) (Qh4 : Qac b) (ha0 : 0 <= a /\ a <= b /\ b <= (data.length : Int) /\ data.length <= 65535) (rr : List Int) (hrr : QaJ data a b = rr) : FT Tryd.prog 82 #[vl Qaf Qag data, vi a, vi b] [O Qaf Qag data] (fun g : Unit => (rr.length = data.length)) (fun g => .tuple #[]) (fun g => [os (vl Qaf Qag data) rr]) := by
 refine FTi Tryd.func82 fun w0 M0 F0 => ?_
 unfold Qac at QhN Qh4
 refine Fb 8 0 fun _ => Fo 0 fun ho2 => KS ?_
 refine Oq Vm (Oq Vm (Oq QdE (Oq Va (KS ?_))))
 refine Oq Vm (Oq QeU (KS ?_))
 refine Kc ?_ ?_
 ·intro h3
  have g4 := dt h3
  refine KS ?_
  refine Oq Vm (Oq (VcU un3 Qs6) (Oa (Al QtF [u64 (0#64)]) fun p5 => Ost (Scl [0] Qjs [u64 (BitVec.ofInt 64 (b - a))]) (KS ?_)))
  refine Oq Vm ?_
  refine QaO (QcF (b - a)) fun rv6 hg7 => ?_
  have hmd := Qtf hg7 aM1
  have hc8 := Qts ((b - a)) pre pre rv6 hg7
  refine Oc [] Qs5 hc8 ?_
  rintro - -
  refine Oq Va (KS ?_)
  refine Oq Vm (Oq Vm (Oq QjW (Oq Qps (Oq Qbd (Oq QdE (Oq Va (KS ?_)))))))
  have hterm16 : QaE a b rv6 4 data (BitVec.ofInt 64 (b - a)) ((a + (((b - a) / 4) * 2)) - 1) ≠ LR.oof := (QtE _ _ _ _ aM1 aM1)
  refine Kl (γ := Nat × List Int × BitVec 64 × Int) (fun (r9, Qc1, QgH, Qd9) => ⟨[(0, vl Qaf Qag data), (1, vi a), (6, vi (b - a)), (7, p5), (8, u64 rv6), (9, vi Qd9)], [Cl p5 [u64 QgH], os (vl Qaf Qag data) Qc1], QaE a b rv6 r9 Qc1 QgH Qd9 = QaE a b rv6 4 data (BitVec.ofInt 64 (b - a)) ((a + (((b - a) / 4) * 2)) - 1) /\ (-9223372036854775808 <= Qd9 /\ Qd9 <= 9223372036854775807) /\ (a + (b - a) / 4 * 2 - 1 <= Qd9 /\ Qd9 <= a + (b - a) / 4 * 2 + 2), r9⟩) (4, data, (BitVec.ofInt 64 (b - a)), ((a + (((b - a) / 4) * 2)) - 1)) [0, 0] ⟨rfl, aM1, iv0⟩ ?_
  rintro ⟨r9, Qc1, QgH, Qd9⟩ ⟨hM13, hk14, hv15⟩
  refine QbB fun _ _ hL hA => ?_; dsimp only at hL hA; subst hL hA
  refine Fb 8 1 fun _ => Fo 1 fun ho18 => Fl 1 fun hn19 => ?_
  rcases r9 with _ | r9
  ·exact absurd (hM13.symm.trans rfl) hterm16
  refine KS ?_
  refine Oq Vm (Oq Vm (Oq Vm (Oq QjW (Oq Qps (Oq Qbd (Oq Qbd (Oq Qh8 (KS ?_))))))))
  refine Kc ?_ ?_
  ·intro h20
   have g21 := dt h20
   refine KS ?_
   refine QaO (Qdp QgH) fun rv22 hg23 => ?_
   have hal := Qpd (x := rv22.1) hmd.1
   have hc24 := Qta p5 QgH rv22 hg23
   refine Oc [0] QsQ hc24 ?_
   rintro - -
   refine Oq Vm (Oq (QsY (b := 1#64)) (Oq Qtg (Oq (VcN Ql3 un3) (Oq Va (KS ?_)))))
   refine Oq Vm (Oq Vm (Oq QeU (KS ?_)))
   refine Kc ?_ ?_
   ·intro h25
    have g26 := dt h25
    refine KS ?_
    refine Oq Vm (Oq Vm (Oq QdE (Oq Va (KS ?_))))
    refine Qav [0, 0, 0, 0, 0, 24, 0, 0, 0, 384, 960, 1984, 0, 0, 12288, 28672, 65475, 131011, 262143, 524287] Qc8 ?_
    refine Dv [] Vm (Dv [] Vm (Dv [] Vm (Dv [] Vm (Dv [] Vm (Dv [] Qbd (Dv [] Vm (Dv [] Vm (Dv [] Vm (Dv [] Qbd ?_)))))))))
    refine Dv [1] (Vi Qb2 0) ?_
    have hb27 := ok1 (i := ((a + (((rv22.1 &&& (rv6 - 1#64)).toNat : Int) - (b - a))) : Int).toNat) ho18 rng
    refine Dv [1] (QdG sh3 0) (Dv [] Vm (Dv [] Vm (Dv [1] (Vi Qb2 0) ?_)))
    have hb28 := ok1 (i := Qd9.toNat) ho18 rng
    refine Dv [1] (QdG sh3 0) (Dv [1] (Vi Qb2 0) (Dx0 [1] [1] [0] [fun G => os (vl Qaf Qag data) (Qc1.set Qd9.toNat (Qc1.getD ((a + (((rv22.1 &&& (rv6 - 1#64)).toNat : Int) - (b - a))) : Int).toNat 0))] (fun G => xS (SoI [0] sh3)) (Dv [2] (Vi Qb2 0) (Dx0 [2] [2] [0] [fun G => os (vl Qaf Qag data) ((Qc1.set Qd9.toNat (Qc1.getD ((a + (((rv22.1 &&& (rv6 - 1#64)).toNat : Int) - (b - a))) : Int).toNat 0)).set ((a + (((rv22.1 &&& (rv6 - 1#64)).toNat : Int) - (b - a))) : Int).toNat (Qc1.getD Qd9.toNat 0))] (fun G => xS (SoI [0] sh3)) ?_))))
    refine Dn ⟨by kernel_rfl, fun G => ?_⟩
    refine Jw2 [(0, vl Qaf Qag data), (1, vi a), (6, vi (b - a)), (7, p5), (8, u64 rv6), (9, vi Qd9)] [0] [os (vl Qaf Qag data) ((Qc1.set Qd9.toNat (Qc1.getD ((a + (((rv22.1 &&& (rv6 - 1#64)).toNat : Int) - (b - a))) : Int).toNat 0)).set ((a + (((rv22.1 &&& (rv6 - 1#64)).toNat : Int) - (b - a))) : Int).toNat (Qc1.getD Qd9.toNat 0))] ?_
    refine KS ?_
    refine Oq Vm (Oq Qbd (Oq Va (KS ?_)))
    exact Kg (r9, ((Qc1.set Qd9.toNat (Qc1.getD ((a + (((rv22.1 &&& (rv6 - 1#64)).toNat : Int) - (b - a))) : Int).toNat 0)).set ((a + (((rv22.1 &&& (rv6 - 1#64)).toNat : Int) - (b - a))) : Int).toNat (Qc1.getD Qd9.toNat 0)), rv22.2, (Qd9 + 1)) [0, 0] ⟨(q3 hM13 (by simp only [QaE, h3, h20, h25, hg7, hg23, cs4])), aM1, iv1⟩
   intro h25
   have g29 := df h25
   refine KS ?_
   refine Qav [0, 0, 0, 0, 0, 24, 0, 0, 0, 384, 960, 1984, 0, 0, 12288, 28672, 65475, 131011, 262143, 524287] Qc8 ?_
   refine Dv [] Vm (Dv [] Vm (Dv [] Vm (Dv [] Vm (Dv [] Vm (Dv [] Qbd (Dv [] Vm (Dv [] Vm (Dv [] Vm (Dv [] Qbd ?_)))))))))
   refine Dv [1] (Vi Qb2 0) ?_
   have hb30 := ok1 (i := ((a + ((rv22.1 &&& (rv6 - 1#64)).toNat : Int)) : Int).toNat) ho18 rng
   refine Dv [1] (QdG sh3 0) (Dv [] Vm (Dv [] Vm (Dv [1] (Vi Qb2 0) ?_)))
   have hb31 := ok1 (i := Qd9.toNat) ho18 rng
   refine Dv [1] (QdG sh3 0) (Dv [1] (Vi Qb2 0) (Dx0 [1] [1] [0] [fun G => os (vl Qaf Qag data) (Qc1.set Qd9.toNat (Qc1.getD ((a + ((rv22.1 &&& (rv6 - 1#64)).toNat : Int)) : Int).toNat 0))] (fun G => xS (SoI [0] sh3)) (Dv [2] (Vi Qb2 0) (Dx0 [2] [2] [0] [fun G => os (vl Qaf Qag data) ((Qc1.set Qd9.toNat (Qc1.getD ((a + ((rv22.1 &&& (rv6 - 1#64)).toNat : Int)) : Int).toNat 0)).set ((a + ((rv22.1 &&& (rv6 - 1#64)).toNat : Int)) : Int).toNat (Qc1.getD Qd9.toNat 0))] (fun G => xS (SoI [0] sh3)) ?_))))
   refine Dn ⟨by kernel_rfl, fun G => ?_⟩
   refine Jw2 [(0, vl Qaf Qag data), (1, vi a), (6, vi (b - a)), (7, p5), (8, u64 rv6), (9, vi Qd9)] [0] [os (vl Qaf Qag data) ((Qc1.set Qd9.toNat (Qc1.getD ((a + ((rv22.1 &&& (rv6 - 1#64)).toNat : Int)) : Int).toNat 0)).set ((a + ((rv22.1 &&& (rv6 - 1#64)).toNat : Int)) : Int).toNat (Qc1.getD Qd9.toNat 0))] ?_
   refine KS ?_
   refine Oq Vm (Oq Qbd (Oq Va (KS ?_)))
   exact Kg (r9, ((Qc1.set Qd9.toNat (Qc1.getD ((a + ((rv22.1 &&& (rv6 - 1#64)).toNat : Int)) : Int).toNat 0)).set ((a + ((rv22.1 &&& (rv6 - 1#64)).toNat : Int)) : Int).toNat (Qc1.getD Qd9.toNat 0)), rv22.2, (Qd9 + 1)) [0, 0] ⟨(q3 hM13 (by simp only [QaE, h3, h20, h25, hg7, hg23, cs4])), aM1, iv1⟩
  intro h20
  have g32 := df h20
  refine Ke ?_
  have hR33 := q2 hM13 (.brk Qc1) (by simp only [QaE, h3, h20, hg7, cs4])
  refine Fl 1 fun hn34 => ?_
  have hq := q4 hrr Qc1 (by simp only [QaJ, h3, h20, hg7, hR33, cs4]); subst hq
  exact Kz () rfl .nil [1] en
 intro h3
 have g35 := df h3
 refine KS ?_
 have hq := q4 hrr data (by simp only [QaJ, h3, cs4]); subst hq
 exact Kz () rfl .nil [0] en
theorem QpI (data : List Int) (Qaf : Option Addr) (Qag : Nat) (a : Int) (b : Int) (swapsP : Value) (swaps : Int) (QhN : Qac a) (Qh4 : Qac b) (Qh5 : Qac swaps) (ha0 : 0 <= a /\ a < (data.length : Int) /\ 0 <= b /\ b < (data.length : Int)) (hs0 : 0 <= swaps /\ swaps <= 1000) (rr : Int × Int × Int) (hrr : QaX data a b swaps = rr) : FT Tryd.prog 116 #[vl Qaf Qag data, vi a, vi b, swapsP] [S Qaf Qag data, Cl swapsP [vi swaps]] (fun g : Unit => Qac rr.1 /\ Qac rr.2.1 /\ Qac rr.2.2 /\ ((rr.1 = a /\ rr.2.1 = b) \/ (rr.1 = b /\ rr.2.1 = a)) /\ (0 <= rr.2.2 /\ rr.2.2 <= swaps + 1)) (fun g => .tuple #[vi rr.1, vi rr.2.1]) (fun g => [Cl swapsP [vi rr.2.2]]) := by
 refine FTi Tryd.func116 fun w0 M0 F0 => ?_
 unfold Qac at QhN Qh4 Qh5
 refine Fb 8 0 fun _ => Fo 0 fun ho2 => KS ?_
 refine Oq Va (Oq Va (KS ?_))
 refine Qav [0, 0, 3, 7, 0, 0, 48, 112, 255] Qc8 ?_
 refine Dv [] Vm (Dv [] Vm (Dv [0] (Vi Qb2 0) ?_))
 have hb3 := ok1 (i := b.toNat) ho2 rng
 refine Dv [0] (QdG sh3 0) (Dv [] Vm (Dv [] Vm (Dv [0] (Vi Qb2 0) ?_)))
 have hb4 := ok1 (i := a.toNat) ho2 rng
 refine Dv [0] (QdG sh3 0) ?_
 refine QaO (Qar (data.getD b.toNat 0) (data.getD a.toNat 0)) fun rv5 hg6 => Dx [] [] [0] (fun G => vb rv5) [fun G => SP.fact (True)] (fun G => xC [] Qjf (Qjb ((data.getD b.toNat 0)) ((data.getD a.toNat 0)) pre pre rv5 hg6)) ?_
 refine Dn ⟨by kernel_rfl, fun G => ?_⟩
 refine Jw2 [(1, vi a), (2, vi b), (3, swapsP), (18, vb rv5)] [0, 1] [SP.fact (True)] ?_
 refine Jk [0, 1] ?_
 refine Kc ?_ ?_
 ·intro h7
  refine KS ?_
  refine Oq Vm (Oq (Vn 1) (Oq (Vld sh3 1) (Oq Qbd (Oq (Vn 1) (Ost (Scl [1] sh3 [vi (swaps + 1)]) (KS ?_))))))
  refine Oq Vm (Oq Vm (Oq Va (Oq Va (KS ?_))))
  have hq := q4 hrr (b, a, (swaps + 1)) (by simp only [QaX, h7, hg6, cs4]); subst hq
  exact Kr () rfl (.tmp rfl (.tmp rfl .nil)) [0] en
 intro h7
 refine KS ?_
 refine Oq Vm (Oq Vm (Oq Va (Oq Va (KS ?_))))
 have hq := q4 hrr (a, b, swaps) (by simp only [QaX, h7, hg6, cs4]); subst hq
 exact Kr () rfl (.tmp rfl (.tmp rfl .nil)) [1] en
theorem Qp2 (data : List Int) (Qaf : Option Addr) (Qag : Nat) (a : Int) (b : Int) (c : Int) (swapsP : Value) (swaps : Int) (QhN : Qac a) (Qh4 : Qac b) (QqQ : Qac c) (Qh5 : Qac swaps) (ha0 : 0 <= a /\ a < (data.length : Int) /\ 0 <= b /\ b < (data.length : Int) /\ 0 <= c /\ c < (data.length : Int)) (hs0 : 0 <= swaps /\ swaps <= 900) (rr : Int × Int) (hrr : QaW data a b c swaps = rr) : FT Tryd.prog 109 #[vl Qaf Qag data, vi a, vi b, vi c, swapsP] [S Qaf Qag data, Cl swapsP [vi swaps]] (fun g : Unit => Qac rr.1 /\ Qac rr.2 /\ (rr.1 = a \/ rr.1 = b \/ rr.1 = c) /\ (0 <= rr.2 /\ rr.2 <= swaps + 3)) (fun g => vi rr.1) (fun g => [Cl swapsP [vi rr.2]]) := by
 refine FTi Tryd.func109 fun w0 M0 F0 => ?_
 unfold Qac at QhN Qh4 QqQ Qh5
 refine Fb 8 0 fun _ => Fo 0 fun ho2 => KS ?_
 refine Oq Va (KS ?_)
 refine Oq Vm (Oq Vm (Oq Vm (Oq Vm ?_)))
 refine QaO (QaX data a b swaps) fun rv3 hg4 => ?_
 have hc5 := QpI data Qaf Qag a b swapsP swaps pre pre pre pre pre rv3 hg4
 refine Oc [0, 1] QpB hc5 ?_
 rintro - ⟨he6, he7, he8, he9, he10⟩
 unfold Qac at he6 he7 he8
 refine Oq Vm (Oq Vx (Oq Vx (Oq Va (Oq Va (KS ?_)))))
 refine Oq Vm (Oq Vm (Oq Vm (Oq Vm ?_)))
 refine QaO (QaX data rv3.2.1 c rv3.2.2) fun rv11 hg12 => ?_
 have hc13 := QpI data Qaf Qag rv3.2.1 c swapsP rv3.2.2 pre pre pre pre pre rv11 hg12
 refine Oc [1, 0] QpB hc13 ?_
 rintro - ⟨he14, he15, he16, he17, he18⟩
 unfold Qac at he14 he15 he16
 refine Oq Vm (Oq Vx (Oq Vx (Oq Va (Oq Va (KS ?_)))))
 refine Oq Vm (Oq Vm (Oq Vm (Oq Vm ?_)))
 refine QaO (QaX data rv3.1 rv11.1 rv11.2.2) fun rv19 hg20 => ?_
 have hc21 := QpI data Qaf Qag rv3.1 rv11.1 swapsP rv11.2.2 pre pre pre pre pre rv19 hg20
 refine Oc [1, 0] QpB hc21 ?_
 rintro - ⟨he22, he23, he24, he25, he26⟩
 unfold Qac at he22 he23 he24
 refine Oq Vm (Oq Vx (Oq Vx (Oq Va (Oq Va (KS ?_)))))
 refine Oq Vm (Oq Va (KS ?_))
 have hq := q4 hrr (rv19.2.1, rv19.2.2) (by simp only [QaW, hg4, hg12, hg20, cs4]); subst hq
 exact Kr () rfl (.tmp rfl .nil) [0] en
theorem QpA (data : List Int) (Qaf : Option Addr) (Qag : Nat) (a : Int) (swapsP : Value) (swaps : Int) (QhN : Qac a) (Qh5 : Qac swaps) (ha0 : 1 <= a /\ a + 1 < (data.length : Int)) (hs0 : 0 <= swaps /\ swaps <= 900) (rr : Int × Int) (hrr : Qbg data a swaps = rr) : FT Tryd.prog 108 #[vl Qaf Qag data, vi a, swapsP] [S Qaf Qag data, Cl swapsP [vi swaps]] (fun g : Unit => Qac rr.1 /\ Qac rr.2 /\ (a - 1 <= rr.1 /\ rr.1 <= a + 1) /\ (0 <= rr.2 /\ rr.2 <= swaps + 3)) (fun g => vi rr.1) (fun g => [Cl swapsP [vi rr.2]]) := by
 refine FTi Tryd.func108 fun w0 M0 F0 => ?_
 unfold Qac at QhN Qh5
 refine Fb 8 0 fun _ => Fo 0 fun ho2 => KS ?_
 refine Oq Va (KS ?_)
 refine Oq Vm (Oq Vm (Oq QdE (Oq Vm (Oq Vm (Oq Qbd (Oq Vm ?_))))))
 refine QaO (QaW data (a - 1) a (a + 1) swaps) fun rv3 hg4 => ?_
 have hc5 := Qp2 data Qaf Qag ((a - 1)) a ((a + 1)) swapsP swaps pre pre pre pre pre pre rv3 hg4
 refine Oc [0, 1] Qpt hc5 ?_
 rintro - ⟨he6, he7, he8, he9⟩
 unfold Qac at he6 he7
 refine Oq Va (KS ?_)
 have hq := q4 hrr (rv3.1, rv3.2) (by simp only [Qbg, hg4, cs4]); subst hq
 exact Kr () rfl (.tmp rfl .nil) [0] en
theorem Qui (data : List Int) (Qaf : Option Addr) (Qag : Nat) (a : Int) (b : Int) (QhN : Qac a) (Qh4 : Qac b) (ha0 : 0 <= a /\ a <= b /\ b <= (data.length : Int) /\ data.length <= 65535 /\ 8 <= b - a) (rr : Int × Int) (hrr : Qal data a b = rr) : FT Tryd.prog 83 #[vl Qaf Qag data, vi a, vi b] [S Qaf Qag data] (fun g : Unit => Qac rr.1 /\ Qac rr.2 /\ (a <= rr.1 /\ rr.1 < b)) (fun g => .tuple #[vi rr.1, vi rr.2]) (fun g => []) := by
 refine FTi Tryd.func83 fun w0 M0 F0 => ?_
 unfold Qac at QhN Qh4
 refine Fb 8 0 fun _ => Fo 0 fun ho2 => KS ?_
 refine Oq Va (Oq Va (KS ?_))
 refine Oq Vm (Oq Vm (Oq QdE (Oq Va (KS ?_))))
 refine Oa (Al ze3 [vi 0]) fun p3 => KS ?_
 refine Oq Vm (Oq Vm (Oq QjW (Oq Qps (Oq Qbd (Oq Va (KS ?_))))))
 refine Oq Vm (Oq Vm (Oq QjW (Oq Qps (Oq Qbd (Oq Va (KS ?_))))))
 refine Oq Vm (Oq Vm (Oq QjW (Oq Qps (Oq Qbd (Oq Va (KS ?_))))))
 refine Oq Vm (Oq QeU (KS ?_))
 refine Kc ?_ ?_
 ·intro h4
  have g5 := dt h4
  refine KS ?_
  refine Oq Vm (Oq QeU (KS ?_))
  refine Kc ?_ ?_
  ·intro h6
   have g7 := dt h6
   refine KS ?_
   refine Oq Vm (Oq Vm ?_)
   refine QaO (Qbg data (a + (((b - a) / 4) * 1)) 0) fun rv8 hg9 => ?_
   have hc10 := QpA data Qaf Qag ((a + (((b - a) / 4) * 1))) p3 0 pre pre pre pre rv8 hg9
   refine Oc [1, 0] Qqq hc10 ?_
   rintro - ⟨he11, he12, he13, he14⟩
   unfold Qac at he11 he12
   refine Oq Va (KS ?_)
   refine Oq Vm (Oq Vm ?_)
   refine QaO (Qbg data (a + (((b - a) / 4) * 2)) rv8.2) fun rv15 hg16 => ?_
   have hc17 := QpA data Qaf Qag ((a + (((b - a) / 4) * 2))) p3 rv8.2 pre pre pre pre rv15 hg16
   refine Oc [1, 0] Qqq hc17 ?_
   rintro - ⟨he18, he19, he20, he21⟩
   unfold Qac at he18 he19
   refine Oq Va (KS ?_)
   refine Oq Vm (Oq Vm ?_)
   refine QaO (Qbg data (a + (((b - a) / 4) * 3)) rv15.2) fun rv22 hg23 => ?_
   have hc24 := QpA data Qaf Qag ((a + (((b - a) / 4) * 3))) p3 rv15.2 pre pre pre pre rv22 hg23
   refine Oc [1, 0] Qqq hc24 ?_
   rintro - ⟨he25, he26, he27, he28⟩
   unfold Qac at he25 he26
   refine Oq Va (KS ?_)
   refine Oq Vm (Oq Vm (Oq Vm (Oq Vm ?_)))
   refine QaO (QaW data rv8.1 rv15.1 rv22.1 rv22.2) fun rv29 hg30 => ?_
   have hc31 := Qp2 data Qaf Qag rv8.1 rv15.1 rv22.1 p3 rv22.2 pre pre pre pre pre pre rv29 hg30
   refine Oc [1, 0] Qpt hc31 ?_
   rintro - ⟨he32, he33, he34, he35⟩
   unfold Qac at he32 he33
   refine Oq Va (KS ?_)
   refine Oq (Vld sh3 0) (KS ?_)
   refine Oq Qby (Oq Va (KS ?_))
   refine Kc ?_ ?_
   ·intro h36
    have g37 := eq_of_beq h36
    refine KS ?_
    refine Oq Vm (Oq Va (Oq Va (KS ?_)))
    have hq := q4 hrr (rv29.1, 1) (by simp only [Qal, h4, h6, h36, hg9, hg16, hg23, hg30, cs4]); subst hq
    exact Kr () rfl (.tmp rfl (.tmp rfl .nil)) [] ⟨en, en, (hrr ▸ Qg1 _ aM1)⟩
   intro h36
   have g38 := ne_of_beq_false h36
   refine KS ?_
   refine Oq Qby (Oq Va (KS ?_))
   refine Kc ?_ ?_
   ·intro h39
    have g40 := eq_of_beq h39
    refine KS ?_
    refine Oq Vm (Oq Va (Oq Va (KS ?_)))
    have hq := q4 hrr (rv29.1, 2) (by simp only [Qal, h4, h6, h36, h39, hg9, hg16, hg23, hg30, cs4]); subst hq
    exact Kr () rfl (.tmp rfl (.tmp rfl .nil)) [] ⟨en, en, (hrr ▸ Qg1 _ aM1)⟩
   intro h39
   have g41 := ne_of_beq_false h39
   refine KS ?_
   refine Oq Vm (Oq Va (Oq Va (KS ?_)))
   have hq := q4 hrr (rv29.1, 0) (by simp only [Qal, h4, h6, h36, h39, hg9, hg16, hg23, hg30, cs4]); subst hq
   exact Kr () rfl (.tmp rfl (.tmp rfl .nil)) [] ⟨en, en, (hrr ▸ Qg1 _ aM1)⟩
  intro h6
  have g42 := df h6
  refine KS ?_
  refine Oq Vm (Oq Vm (Oq Vm (Oq Vm ?_)))
  refine QaO (QaW data (a + (((b - a) / 4) * 1)) (a + (((b - a) / 4) * 2)) (a + (((b - a) / 4) * 3)) 0) fun rv43 hg44 => ?_
  have hc45 := Qp2 data Qaf Qag ((a + (((b - a) / 4) * 1))) ((a + (((b - a) / 4) * 2))) ((a + (((b - a) / 4) * 3))) p3 0 pre pre pre pre pre pre rv43 hg44
  refine Oc [1, 0] Qpt hc45 ?_
  rintro - ⟨he46, he47, he48, he49⟩
  unfold Qac at he46 he47
  refine Oq Va (KS ?_)
  refine Oq (Vld sh3 0) (KS ?_)
  refine Oq Qby (Oq Va (KS ?_))
  refine Kc ?_ ?_
  ·intro h50
   have g51 := eq_of_beq h50
   refine KS ?_
   refine Oq Vm (Oq Va (Oq Va (KS ?_)))
   have hq := q4 hrr (rv43.1, 1) (by simp only [Qal, h4, h6, h50, hg44, cs4]); subst hq
   exact Kr () rfl (.tmp rfl (.tmp rfl .nil)) [] ⟨en, en, (hrr ▸ Qg1 _ aM1)⟩
  intro h50
  have g52 := ne_of_beq_false h50
  refine KS ?_
  refine Oq Qby (Oq Va (KS ?_))
  refine Kc ?_ ?_
  ·intro h53
   have g54 := eq_of_beq h53
   refine KS ?_
   refine Oq Vm (Oq Va (Oq Va (KS ?_)))
   have hq := q4 hrr (rv43.1, 2) (by simp only [Qal, h4, h6, h50, h53, hg44, cs4]); subst hq
   exact Kr () rfl (.tmp rfl (.tmp rfl .nil)) [] ⟨en, en, (hrr ▸ Qg1 _ aM1)⟩
  intro h53
  have g55 := ne_of_beq_false h53
  refine KS ?_
  refine Oq Vm (Oq Va (Oq Va (KS ?_)))
  have hq := q4 hrr (rv43.1, 0) (by simp only [Qal, h4, h6, h50, h53, hg44, cs4]); subst hq
  exact Kr () rfl (.tmp rfl (.tmp rfl .nil)) [] ⟨en, en, (hrr ▸ Qg1 _ aM1)⟩
 intro h4
 have g56 := df h4
 refine KS ?_
 refine Oq (Vld sh3 0) (KS ?_)
 refine Oq Qby (Oq Va (KS ?_))
 refine Kt (KS ?_)
 refine Oq Vm (Oq Va (Oq Va (KS ?_)))
 have hq := q4 hrr ((a + (((b - a) / 4) * 2)), 1) (by simp only [Qal, h4, cs4]); subst hq
 exact Kr () rfl (.tmp rfl (.tmp rfl .nil)) [] ⟨en, en, (hrr ▸ Qg1 _ aM1)⟩
theorem Qt5 (data : List Int) (Qaf : Option Addr) (Qag : Nat) (a : Int) (b : Int) (QhN : Qac a) (Qh4 : Qac b) (ha0 : 0 <= a /\ a <= b /\ b <= (data.length : Int) /\ data.length <= 65535) (rr : List Int) (hrr : Qa3 data a b = rr) : FT Tryd.prog 84 #[vl Qaf Qag data, vi a, vi b] [O Qaf Qag data] (fun g : Unit => (rr.length = data.length)) (fun g => .tuple #[]) (fun g => [os (vl Qaf Qag data) rr]) := by
 refine FTi Tryd.func84 fun w0 M0 F0 => ?_
 unfold Qac at QhN Qh4
 refine Fb 8 0 fun _ => Fo 0 fun ho2 => KS ?_
 refine Oq Vm (Oq Va (KS ?_))
 refine Oq Vm (Oq QdE (Oq Va (KS ?_)))
 have hterm11 : QaV ((b - a).toNat + 1) data a (b - 1) ≠ LR.oof := (Qq0 _ _ _ _ aM1 aM1)
 refine Kl (γ := Nat × List Int × Int × Int) (fun (r3, Qan, i_5, j_6) => ⟨[(0, vl Qaf Qag data), (6, vi i_5), (7, vi j_6)], [os (vl Qaf Qag data) Qan], QaV r3 Qan i_5 j_6 = QaV ((b - a).toNat + 1) data a (b - 1) /\ (-9223372036854775808 <= i_5 /\ i_5 <= 9223372036854775807) /\ (-9223372036854775808 <= j_6 /\ j_6 <= 9223372036854775807) /\ (a <= i_5 /\ j_6 < b /\ -1 <= j_6), r3⟩) (((b - a).toNat + 1), data, a, (b - 1)) [0] ⟨rfl, aM1, aM1, iv0⟩ ?_
 rintro ⟨r3, Qan, i_5, j_6⟩ ⟨hM7, hk8, hk9, hv10⟩
 refine QbB fun _ _ hL hA => ?_; dsimp only at hL hA; subst hL hA
 refine Fb 8 0 fun _ => Fo 0 fun ho13 => Fl 0 fun hn14 => ?_
 rcases r3 with _ | r3
 ·exact absurd (hM7.symm.trans rfl) hterm11
 refine KS ?_
 refine Oq Vm (Oq Vm (Oq Qcu (KS ?_)))
 refine Kc ?_ ?_
 ·intro h15
  have g16 := dt h15
  refine KS ?_
  refine Qav [0, 0, 0, 0, 0, 0, 48, 112, 0, 0, 768, 1792, 4083, 8179, 16383, 32767] Qc8 ?_
  refine Dv [] Vm (Dv [] Vm (Dv [] Vm (Dv [] Vm (Dv [] Vm (Dv [] Vm (Dv [0] (Vi Qb2 0) ?_))))))
  have hb17 := ok1 (i := j_6.toNat) ho13 rng
  refine Dv [0] (QdG sh3 0) (Dv [] Vm (Dv [] Vm (Dv [0] (Vi Qb2 0) ?_)))
  have hb18 := ok1 (i := i_5.toNat) ho13 rng
  refine Dv [0] (QdG sh3 0) (Dv [0] (Vi Qb2 0) (Dx0 [0] [0] [0] [fun G => os (vl Qaf Qag data) (Qan.set i_5.toNat (Qan.getD j_6.toNat 0))] (fun G => xS (SoI [0] sh3)) (Dv [1] (Vi Qb2 0) (Dx0 [1] [1] [0] [fun G => os (vl Qaf Qag data) ((Qan.set i_5.toNat (Qan.getD j_6.toNat 0)).set j_6.toNat (Qan.getD i_5.toNat 0))] (fun G => xS (SoI [0] sh3)) ?_))))
  refine Dn ⟨by kernel_rfl, fun G => ?_⟩
  refine Jw2 [(0, vl Qaf Qag data), (6, vi i_5), (7, vi j_6)] [] [os (vl Qaf Qag data) ((Qan.set i_5.toNat (Qan.getD j_6.toNat 0)).set j_6.toNat (Qan.getD i_5.toNat 0))] ?_
  refine KS ?_
  refine Oq Vm (Oq Qbd (Oq Va (KS ?_)))
  refine Oq Vm (Oq QdE (Oq Va (KS ?_)))
  exact Kg (r3, ((Qan.set i_5.toNat (Qan.getD j_6.toNat 0)).set j_6.toNat (Qan.getD i_5.toNat 0)), (i_5 + 1), (j_6 - 1)) [0] ⟨(q3 hM7 (by simp only [QaV, h15, cs4])), aM1, aM1, iv1⟩
 intro h15
 have g19 := df h15
 refine Ke ?_
 have hR20 := q2 hM7 (.brk Qan) (by simp only [QaV, h15, cs4])
 refine Fl 0 fun hn21 => ?_
 have hq := q4 hrr Qan (by simp only [Qa3, h15, hR20, cs4]); subst hq
 exact Kz () rfl .nil [0] en
theorem Quq (data : List Int) (Qaf : Option Addr) (Qag : Nat) (a : Int) (b : Int) (QhN : Qac a) (Qh4 : Qac b) (ha0 : 0 <= a /\ a <= b /\ b <= (data.length : Int) /\ data.length <= 65535 /\ 1 <= b - a) (rr : Bool × List Int) (hrr : Qam data a b = rr) : FT Tryd.prog 85 #[vl Qaf Qag data, vi a, vi b] [O Qaf Qag data] (fun g : Unit => (rr.2.length = data.length)) (fun g => vb rr.1) (fun g => [os (vl Qaf Qag data) rr.2]) := by
 refine FTi Tryd.func85 fun w0 M0 F0 => ?_
 unfold Qac at QhN Qh4
 refine Fb 8 0 fun _ => Fo 0 fun ho2 => KS ?_
 refine Oq Va (KS ?_)
 refine Oq Vm (Oq Qbd (Oq Va (KS ?_)))
 refine Oq Va (KS ?_)
 refine Kl (γ := Nat × List Int × Int × Int) (fun (r3, Qan, i_5, j_6) => ⟨[(0, vl Qaf Qag data), (1, vi a), (2, vi b), (7, vi i_5), (8, vi j_6)], [os (vl Qaf Qag data) Qan], Qad data a b r3 Qan i_5 j_6 = Qad data a b 5 data (a + 1) 0 /\ r3 = ((5 : Int) - j_6).toNat /\ (0 : Int) <= j_6 /\ j_6 <= 5 /\ (-9223372036854775808 <= i_5 /\ i_5 <= 9223372036854775807) /\ (-9223372036854775808 <= j_6 /\ j_6 <= 9223372036854775807) /\ (a < i_5 /\ i_5 <= b), r3⟩) (5, data, (a + 1), 0) [0] ⟨rfl, rfl, aM1, aM1, aM1, aM1, iv0⟩ ?_
 rintro ⟨r3, Qan, i_5, j_6⟩ ⟨hM7, hr8, hi9, hi10, hk11, hk12, hv13⟩
 refine QbB fun _ _ hL hA => ?_; dsimp only at hL hA; subst hL hA
 refine Fb 8 0 fun _ => Fo 0 fun ho15 => Fl 0 fun hn16 => ?_
 refine KS ?_
 refine Oq Vm (Oq Qcu (KS ?_))
 refine Kc ?_ ?_
 ·intro h17
  have g18 := dt h17
  obtain ⟨r19, rfl⟩ := scc (n := r3) aM1
  refine KS ?_
  refine KjD (γ := Int) (fun QcU => ⟨[(0, vl Qaf Qag data), (1, vi a), (2, vi b), (7, vi QcU), (8, vi j_6)], [os (vl Qaf Qag data) Qan], Qai Qan (((b : Int) - i_5).toNat) i_5 = QcU /\ (i_5 : Int) <= QcU /\ (QcU <= b \/ QcU = i_5) /\ (-9223372036854775808 <= QcU /\ QcU <= 9223372036854775807), 0⟩) ?_ ?_
  ·skip
   refine Kl (γ := Nat × Int) (fun (r20, QcU) => ⟨[(0, vl Qaf Qag data), (1, vi a), (2, vi b), (7, vi QcU), (8, vi j_6)], [os (vl Qaf Qag data) Qan], Qai Qan r20 QcU = Qai Qan (((b : Int) - i_5).toNat) i_5 /\ r20 = ((b : Int) - QcU).toNat /\ (i_5 : Int) <= QcU /\ (QcU <= b \/ QcU = i_5) /\ (-9223372036854775808 <= QcU /\ QcU <= 9223372036854775807), r20⟩) (((b : Int) - i_5).toNat, i_5) [0] ⟨rfl, rfl, aM1, (.inr rfl), aM1⟩ ?_
   rintro ⟨r20, QcU⟩ ⟨hM22, hr23, hi24, hi25, hk26⟩
   refine QbB fun _ _ hL hA => ?_; dsimp only at hL hA; subst hL hA
   refine Fb 8 0 fun _ => Fo 0 fun ho29 => Fl 0 fun hn30 => ?_
   refine KS ?_
   refine Qav [0, 0, 3, 7, 15, 15, 63, 127, 15, 15, 527, 1807, 3855, 8191, 16383, 32767] Qc8 ?_
   refine Dv [] Vm (Dv [] Vm (Dv [] Qcu ?_))
   refine QbI (decide (QcU < b)) ?_ ?_
   ·intro h31
    have g32 := dt h31
    obtain ⟨r33, rfl⟩ := scc (n := r20) aM1
    refine Db h31 [] Vm (Dv [] Vm (Dv [] Vm (Dv [0] (Vi Qb2 0) ?_)))
    have hb34 := ok1 (i := QcU.toNat) ho29 rng
    refine Dv [0] (QdG sh3 0) (Dv [] Vm (Dv [] Vm (Dv [] QdE (Dv [0] (Vi Qb2 0) ?_))))
    have hb35 := ok1 (i := ((QcU - 1) : Int).toNat) ho29 rng
    refine Dv [0] (QdG sh3 0) ?_
    refine QaO (Qar (Qan.getD QcU.toNat 0) (Qan.getD ((QcU - 1) : Int).toNat 0)) fun rv36 hg37 => ?_
    refine Dx [] [] [0] (fun G => vb rv36) [fun G => SP.fact (True)] (fun G => xC [] Qjf (Qjb ((Qan.getD QcU.toNat 0)) ((Qan.getD ((QcU - 1) : Int).toNat 0)) pre pre rv36 hg37)) (Dv [] QeP (Dv [] Vpt ?_))
    refine Dn ⟨by kernel_rfl, fun G => ?_⟩
    refine Jw2 [(0, vl Qaf Qag data), (1, vi a), (2, vi b), (7, vi QcU), (8, vi j_6), (32, vb (!rv36))] [0] [SP.fact (True)] ?_
    refine Jk [0] ?_
    refine Kc ?_ ?_
    ·intro h38
     have h40 := not_true h38
     refine KS ?_
     refine Oq Vm (Oq Qbd (Oq Va (KS ?_)))
     exact Kg (r33, (QcU + 1)) [0] ⟨(q3 hM22 (by simp only [Qai, h17, h31, h38, h40, hg37, cs4])), aM1, aM1, aM1, aM1⟩
    intro h38
    have h43 := not_false h38
    refine Ke ?_
    have hR45 := q2 hM22 QcU (by simp only [Qai, h17, h31, h38, h43, hg37, cs4])
    exact Kg QcU [0] ⟨(by assumption), (by first | assumption | omega), (by first | assumption | omega), (by first | assumption | omega)⟩
   intro h31
   have g46 := df h31
   obtain rfl : r20 = 0 := by omega
   refine Db h31 [] Vm (Ds (Ds (Ds (Ds (Ds (Ds (Ds (Ds (Ds ?_)))))))))
   refine Ds (Ds (Dv [] Vpf ?_))
   refine Dn ⟨by kernel_rfl, fun G => ?_⟩
   refine Jw2 [(0, vl Qaf Qag data), (1, vi a), (2, vi b), (7, vi QcU), (8, vi j_6), (32, vb false)] [0] [] ?_
   refine Kf ?_
   refine Ke ?_
   have hR47 := q2 hM22 QcU (by simp only [Qai, h17, h31, cs4])
   exact Kg QcU [0] ⟨(by assumption), (by first | assumption | omega), (by first | assumption | omega), (by first | assumption | omega)⟩
  rintro QcU ⟨hR27, hi24, hi25, hk26⟩
  refine QbB fun _ _ hL hA => ?_; dsimp only at hL hA; subst hL hA
  refine Fb 8 0 fun _ => Fo 0 fun ho49 => Fl 0 fun hn50 => ?_
  refine KS ?_
  refine Oq Vm (Oq Vm (Oq Qby (KS ?_)))
  refine Kc ?_ ?_
  ·intro h51
   have g52 := eq_of_beq h51
   refine KS ?_
   refine Oq Va (KS ?_)
   refine Fl 0 fun hn53 => ?_
   have hR54 := q2 hM7 (.ret (true, Qan)) (by simp only [Qad, h17, h51, hR27, cs4])
   have hq := q4 hrr (true, Qan) (by simp only [Qam, h17, h51, hR27, hR54, cs4]); subst hq
   exact Kr () rfl (.tmp rfl .nil) [0] en
  intro h51
  have g55 := ne_of_beq_false h51
  refine KS ?_
  refine Oq Vm (Oq Vm (Oq QdE (Oq Qcu (KS ?_))))
  refine Kc ?_ ?_
  ·intro h56
   have g57 := dt h56
   refine KS ?_
   refine Oq Va (KS ?_)
   refine Fl 0 fun hn58 => ?_
   have hR59 := q2 hM7 (.ret (false, Qan)) (by simp only [Qad, h17, h51, h56, hR27, cs4])
   have hq := q4 hrr (false, Qan) (by simp only [Qam, h17, h51, h56, hR27, hR59, cs4]); subst hq
   exact Kr () rfl (.tmp rfl .nil) [0] en
  intro h56
  have g60 := df h56
  refine KS ?_
  refine Qav [0, 0, 0, 0, 8, 0, 0, 64, 224, 480, 0, 0, 3072, 7168, 16355, 32739, 65535, 131071] Qc8 ?_
  refine Dv [] Vm (Dv [] Vm (Dv [] Vm (Dv [] Vm (Dv [] QdE (Dv [] Vm (Dv [] Vm (Dv [] QdE (Dv [0] (Vi Qb2 0) ?_))))))))
  have hb61 := ok1 (i := ((QcU - 1) : Int).toNat) ho49 rng
  refine Dv [0] (QdG sh3 0) (Dv [] Vm (Dv [] Vm (Dv [0] (Vi Qb2 0) ?_)))
  have hb62 := ok1 (i := QcU.toNat) ho49 rng
  refine Dv [0] (QdG sh3 0) (Dv [0] (Vi Qb2 0) (Dx0 [0] [0] [0] [fun G => os (vl Qaf Qag data) (Qan.set QcU.toNat (Qan.getD ((QcU - 1) : Int).toNat 0))] (fun G => xS (SoI [0] sh3)) (Dv [1] (Vi Qb2 0) (Dx0 [1] [1] [0] [fun G => os (vl Qaf Qag data) ((Qan.set QcU.toNat (Qan.getD ((QcU - 1) : Int).toNat 0)).set ((QcU - 1) : Int).toNat (Qan.getD QcU.toNat 0))] (fun G => xS (SoI [0] sh3)) ?_))))
  refine Dn ⟨by kernel_rfl, fun G => ?_⟩
  refine Jw2 [(0, vl Qaf Qag data), (1, vi a), (2, vi b), (7, vi QcU), (8, vi j_6)] [] [os (vl Qaf Qag data) ((Qan.set QcU.toNat (Qan.getD ((QcU - 1) : Int).toNat 0)).set ((QcU - 1) : Int).toNat (Qan.getD QcU.toNat 0))] ?_
  refine KS ?_
  refine Oq Vm (Oq Vm (Oq QdE (Oq QeU (KS ?_))))
  refine Kc ?_ ?_
  ·intro h63
   have g64 := dt h63
   refine KS ?_
   refine Oq Vm (Oq QdE (Oq Va (KS ?_)))
   have hterm71 : Qaq (data.length + 1) ((Qan.set QcU.toNat (Qan.getD ((QcU - 1) : Int).toNat 0)).set ((QcU - 1) : Int).toNat (Qan.getD QcU.toNat 0)) (QcU - 1) ≠ LR.oof := (QoL _ _ _ aM1 aM1)
   refine KjD (γ := List Int × Int) (fun (QcI, QgK) => ⟨[(0, vl Qaf Qag data), (1, vi a), (2, vi b), (7, vi QcU), (8, vi j_6)], [os (vl Qaf Qag data) QcI], Qaq (data.length + 1) ((Qan.set QcU.toNat (Qan.getD ((QcU - 1) : Int).toNat 0)).set ((QcU - 1) : Int).toNat (Qan.getD QcU.toNat 0)) (QcU - 1) = .brk QcI /\ (-9223372036854775808 <= QgK /\ QgK <= 9223372036854775807) /\ (0 <= QgK /\ QgK <= b - 1), 0⟩) ?_ ?_
   ·skip
    refine Kl (γ := Nat × List Int × Int) (fun (r65, QcI, QgK) => ⟨[(0, vl Qaf Qag data), (1, vi a), (2, vi b), (7, vi QcU), (8, vi j_6), (9, vi QgK)], [os (vl Qaf Qag data) QcI], Qaq r65 QcI QgK = Qaq (data.length + 1) ((Qan.set QcU.toNat (Qan.getD ((QcU - 1) : Int).toNat 0)).set ((QcU - 1) : Int).toNat (Qan.getD QcU.toNat 0)) (QcU - 1) /\ (-9223372036854775808 <= QgK /\ QgK <= 9223372036854775807) /\ (0 <= QgK /\ QgK <= b - 1), r65⟩) ((data.length + 1), ((Qan.set QcU.toNat (Qan.getD ((QcU - 1) : Int).toNat 0)).set ((QcU - 1) : Int).toNat (Qan.getD QcU.toNat 0)), (QcU - 1)) [0] ⟨rfl, aM1, iv0⟩ ?_
    rintro ⟨r65, QcI, QgK⟩ ⟨hM68, hk69, hv70⟩
    refine QbB fun _ _ hL hA => ?_; dsimp only at hL hA; subst hL hA
    refine Fb 8 0 fun _ => Fo 0 fun ho74 => Fl 0 fun hn75 => ?_
    rcases r65 with _ | r65
    ·exact absurd (hM68.symm.trans rfl) hterm71
    refine KS ?_
    refine Oq Vm (Oq QeU (KS ?_))
    refine Kc ?_ ?_
    ·intro h76
     have g77 := dt h76
     refine KS ?_
     refine Qav [0, 0, 3, 7, 0, 0, 32, 112, 240, 511, 1023] Qc8 ?_
     refine Dv [] Vm (Dv [] Vm (Dv [0] (Vi Qb2 0) ?_))
     have hb78 := ok1 (i := QgK.toNat) ho74 rng
     refine Dv [0] (QdG sh3 0) (Dv [] Vm (Dv [] Vm (Dv [] QdE (Dv [0] (Vi Qb2 0) ?_))))
     have hb79 := ok1 (i := ((QgK - 1) : Int).toNat) ho74 rng
     refine Dv [0] (QdG sh3 0) ?_
     refine QaO (Qar (QcI.getD QgK.toNat 0) (QcI.getD ((QgK - 1) : Int).toNat 0)) fun rv80 hg81 => ?_
     refine Dx [] [] [0] (fun G => vb rv80) [fun G => SP.fact (True)] (fun G => xC [] Qjf (Qjb ((QcI.getD QgK.toNat 0)) ((QcI.getD ((QgK - 1) : Int).toNat 0)) pre pre rv80 hg81)) (Dv [] QeP ?_)
     refine Dn ⟨by kernel_rfl, fun G => ?_⟩
     refine Jw2 [(0, vl Qaf Qag data), (1, vi a), (2, vi b), (7, vi QcU), (8, vi j_6), (9, vi QgK), (78, vb (!rv80))] [0] [SP.fact (True)] ?_
     refine Jk [0] ?_
     refine Kc ?_ ?_
     ·intro h82
      have h84 := not_true h82
      refine Ke ?_
      have hR86 := q2 hM68 (.brk QcI) (by simp only [Qaq, h17, h51, h56, h63, h76, h82, h84, hR27, hg81, cs4])
      exact Kg (QcI, QgK) [0] ⟨(by assumption), (by first | assumption | omega), (by first | assumption | omega)⟩
     intro h82
     have h88 := not_false h82
     refine KS ?_
     refine Qav [0, 0, 0, 0, 8, 0, 0, 64, 224, 480, 0, 0, 3072, 7168, 16355, 32739, 65535, 131071] Qc8 ?_
     refine Dv [] Vm (Dv [] Vm (Dv [] Vm (Dv [] Vm (Dv [] QdE (Dv [] Vm (Dv [] Vm (Dv [] QdE (Dv [0] (Vi Qb2 0) ?_))))))))
     have hb90 := ok1 (i := ((QgK - 1) : Int).toNat) ho74 rng
     refine Dv [0] (QdG sh3 0) (Dv [] Vm (Dv [] Vm (Dv [0] (Vi Qb2 0) ?_)))
     have hb91 := ok1 (i := QgK.toNat) ho74 rng
     refine Dv [0] (QdG sh3 0) (Dv [0] (Vi Qb2 0) (Dx0 [0] [0] [0] [fun G => os (vl Qaf Qag data) (QcI.set QgK.toNat (QcI.getD ((QgK - 1) : Int).toNat 0))] (fun G => xS (SoI [0] sh3)) (Dv [1] (Vi Qb2 0) (Dx0 [1] [1] [0] [fun G => os (vl Qaf Qag data) ((QcI.set QgK.toNat (QcI.getD ((QgK - 1) : Int).toNat 0)).set ((QgK - 1) : Int).toNat (QcI.getD QgK.toNat 0))] (fun G => xS (SoI [0] sh3)) ?_))))
     refine Dn ⟨by kernel_rfl, fun G => ?_⟩
     refine Jw2 [(0, vl Qaf Qag data), (1, vi a), (2, vi b), (7, vi QcU), (8, vi j_6), (9, vi QgK)] [] [os (vl Qaf Qag data) ((QcI.set QgK.toNat (QcI.getD ((QgK - 1) : Int).toNat 0)).set ((QgK - 1) : Int).toNat (QcI.getD QgK.toNat 0))] ?_
     refine KS ?_
     refine Oq Vm (Oq QdE (Oq Va (KS ?_)))
     exact Kg (r65, ((QcI.set QgK.toNat (QcI.getD ((QgK - 1) : Int).toNat 0)).set ((QgK - 1) : Int).toNat (QcI.getD QgK.toNat 0)), (QgK - 1)) [0] ⟨(q3 hM68 (by simp only [Qaq, h17, h51, h56, h63, h76, h82, h88, hR27, hg81, cs4])), aM1, iv1⟩
    intro h76
    have g92 := df h76
    refine Ke ?_
    have hR93 := q2 hM68 (.brk QcI) (by simp only [Qaq, h17, h51, h56, h63, h76, hR27, cs4])
    exact Kg (QcI, QgK) [0] ⟨(by assumption), (by first | assumption | omega), (by first | assumption | omega)⟩
   rintro ⟨QcI, QgK⟩ ⟨hR72, hk69, hv70⟩
   refine QbB fun _ _ hL hA => ?_; dsimp only at hL hA; subst hL hA
   refine Fb 8 0 fun _ => Fo 0 fun ho95 => Fl 0 fun hn96 => ?_
   refine KS ?_
   refine Oq Vm (Oq Vm (Oq QdE (Oq QeU (KS ?_))))
   refine Kc ?_ ?_
   ·intro h97
    have g98 := dt h97
    refine KS ?_
    refine Oq Vm (Oq Qbd (Oq Va (KS ?_)))
    refine KjD (γ := List Int × Int) (fun (Qck, QdX) => ⟨[(0, vl Qaf Qag data), (1, vi a), (2, vi b), (7, vi QcU), (8, vi j_6)], [os (vl Qaf Qag data) Qck], Qah (((b : Int) - (QcU + 1)).toNat) QcI (QcU + 1) = Qck /\ ((QcU + 1) : Int) <= QdX /\ (QdX <= b \/ QdX = (QcU + 1)) /\ (-9223372036854775808 <= QdX /\ QdX <= 9223372036854775807), 0⟩) ?_ ?_
    ·skip
     refine Kl (γ := Nat × List Int × Int) (fun (r99, Qck, QdX) => ⟨[(0, vl Qaf Qag data), (1, vi a), (2, vi b), (7, vi QcU), (8, vi j_6), (10, vi QdX)], [os (vl Qaf Qag data) Qck], Qah r99 Qck QdX = Qah (((b : Int) - (QcU + 1)).toNat) QcI (QcU + 1) /\ r99 = ((b : Int) - QdX).toNat /\ ((QcU + 1) : Int) <= QdX /\ (QdX <= b \/ QdX = (QcU + 1)) /\ (-9223372036854775808 <= QdX /\ QdX <= 9223372036854775807), r99⟩) (((b : Int) - (QcU + 1)).toNat, QcI, (QcU + 1)) [0] ⟨rfl, rfl, aM1, (.inr rfl), aM1⟩ ?_
     rintro ⟨r99, Qck, QdX⟩ ⟨hM102, hr103, hi104, hi105, hk106⟩
     refine QbB fun _ _ hL hA => ?_; dsimp only at hL hA; subst hL hA
     refine Fb 8 0 fun _ => Fo 0 fun ho109 => Fl 0 fun hn110 => ?_
     refine KS ?_
     refine Oq Vm (Oq Vm (Oq Qcu (KS ?_)))
     refine Kc ?_ ?_
     ·intro h111
      have g112 := dt h111
      obtain ⟨r113, rfl⟩ := scc (n := r99) aM1
      refine KS ?_
      refine Qav [0, 0, 3, 7, 0, 0, 32, 112, 240, 511, 1023] Qc8 ?_
      refine Dv [] Vm (Dv [] Vm (Dv [0] (Vi Qb2 0) ?_))
      have hb114 := ok1 (i := QdX.toNat) ho109 rng
      refine Dv [0] (QdG sh3 0) (Dv [] Vm (Dv [] Vm (Dv [] QdE (Dv [0] (Vi Qb2 0) ?_))))
      have hb115 := ok1 (i := ((QdX - 1) : Int).toNat) ho109 rng
      refine Dv [0] (QdG sh3 0) ?_
      refine QaO (Qar (Qck.getD QdX.toNat 0) (Qck.getD ((QdX - 1) : Int).toNat 0)) fun rv116 hg117 => ?_
      refine Dx [] [] [0] (fun G => vb rv116) [fun G => SP.fact (True)] (fun G => xC [] Qjf (Qjb ((Qck.getD QdX.toNat 0)) ((Qck.getD ((QdX - 1) : Int).toNat 0)) pre pre rv116 hg117)) (Dv [] QeP ?_)
      refine Dn ⟨by kernel_rfl, fun G => ?_⟩
      refine Jw2 [(0, vl Qaf Qag data), (1, vi a), (2, vi b), (7, vi QcU), (8, vi j_6), (10, vi QdX), (116, vb (!rv116))] [0] [SP.fact (True)] ?_
      refine Jk [0] ?_
      refine Kc ?_ ?_
      ·intro h118
       have h120 := not_true h118
       refine Ke ?_
       have hR122 := q2 hM102 Qck (by simp only [Qah, h17, h51, h56, h63, h97, h111, h118, h120, hR27, hR72, hg117, cs4])
       exact Kg (Qck, QdX) [0] ⟨(by assumption), (by first | assumption | omega), (by first | assumption | omega), (by first | assumption | omega)⟩
      intro h118
      have h124 := not_false h118
      refine KS ?_
      refine Qav [0, 0, 0, 0, 8, 0, 0, 64, 224, 480, 0, 0, 3072, 7168, 16355, 32739, 65535, 131071] Qc8 ?_
      refine Dv [] Vm (Dv [] Vm (Dv [] Vm (Dv [] Vm (Dv [] QdE (Dv [] Vm (Dv [] Vm (Dv [] QdE (Dv [0] (Vi Qb2 0) ?_))))))))
      have hb126 := ok1 (i := ((QdX - 1) : Int).toNat) ho109 rng
      refine Dv [0] (QdG sh3 0) (Dv [] Vm (Dv [] Vm (Dv [0] (Vi Qb2 0) ?_)))
      have hb127 := ok1 (i := QdX.toNat) ho109 rng
      refine Dv [0] (QdG sh3 0) (Dv [0] (Vi Qb2 0) (Dx0 [0] [0] [0] [fun G => os (vl Qaf Qag data) (Qck.set QdX.toNat (Qck.getD ((QdX - 1) : Int).toNat 0))] (fun G => xS (SoI [0] sh3)) (Dv [1] (Vi Qb2 0) (Dx0 [1] [1] [0] [fun G => os (vl Qaf Qag data) ((Qck.set QdX.toNat (Qck.getD ((QdX - 1) : Int).toNat 0)).set ((QdX - 1) : Int).toNat (Qck.getD QdX.toNat 0))] (fun G => xS (SoI [0] sh3)) ?_))))
      refine Dn ⟨by kernel_rfl, fun G => ?_⟩
      refine Jw2 [(0, vl Qaf Qag data), (1, vi a), (2, vi b), (7, vi QcU), (8, vi j_6), (10, vi QdX)] [] [os (vl Qaf Qag data) ((Qck.set QdX.toNat (Qck.getD ((QdX - 1) : Int).toNat 0)).set ((QdX - 1) : Int).toNat (Qck.getD QdX.toNat 0))] ?_
      refine KS ?_
      refine Oq Vm (Oq Qbd (Oq Va (KS ?_)))
      exact Kg (r113, ((Qck.set QdX.toNat (Qck.getD ((QdX - 1) : Int).toNat 0)).set ((QdX - 1) : Int).toNat (Qck.getD QdX.toNat 0)), (QdX + 1)) [0] ⟨(q3 hM102 (by simp only [Qah, h17, h51, h56, h63, h97, h111, h118, h124, hR27, hR72, hg117, cs4])), aM1, aM1, aM1, aM1⟩
     intro h111
     have g128 := df h111
     obtain rfl : r99 = 0 := by omega
     refine Ke ?_
     have hR129 := q2 hM102 Qck (by simp only [Qah, h17, h51, h56, h63, h97, h111, hR27, hR72, cs4])
     exact Kg (Qck, QdX) [0] ⟨(by assumption), (by first | assumption | omega), (by first | assumption | omega), (by first | assumption | omega)⟩
    rintro ⟨Qck, QdX⟩ ⟨hR107, hi104, hi105, hk106⟩
    refine QbB fun _ _ hL hA => ?_; dsimp only at hL hA; subst hL hA
    refine Fb 8 0 fun _ => Fo 0 fun ho131 => Fl 0 fun hn132 => ?_
    refine KS ?_
    refine Oq Vm (Oq Qbd (Oq Va (KS ?_)))
    exact Kg (r19, Qck, QcU, (j_6 + 1)) [0] ⟨(q3 hM7 (by simp only [Qad, h17, h51, h56, h63, h97, hR27, hR72, hR107, cs4])), aM1, aM1, aM1, aM1, aM1, iv1⟩
   intro h97
   have g133 := df h97
   refine KS ?_
   refine Oq Vm (Oq Qbd (Oq Va (KS ?_)))
   exact Kg (r19, QcI, QcU, (j_6 + 1)) [0] ⟨(q3 hM7 (by simp only [Qad, h17, h51, h56, h63, h97, hR27, hR72, cs4])), aM1, aM1, aM1, aM1, aM1, iv1⟩
  intro h63
  have g134 := df h63
  refine KS ?_
  refine Oq Vm (Oq Vm (Oq QdE (Oq QeU (KS ?_))))
  refine Kc ?_ ?_
  ·intro h135
   have g136 := dt h135
   refine KS ?_
   refine Oq Vm (Oq Qbd (Oq Va (KS ?_)))
   refine KjD (γ := List Int × Int) (fun (Qcl, QdY) => ⟨[(0, vl Qaf Qag data), (1, vi a), (2, vi b), (7, vi QcU), (8, vi j_6)], [os (vl Qaf Qag data) Qcl], Qah (((b : Int) - (QcU + 1)).toNat) ((Qan.set QcU.toNat (Qan.getD ((QcU - 1) : Int).toNat 0)).set ((QcU - 1) : Int).toNat (Qan.getD QcU.toNat 0)) (QcU + 1) = Qcl /\ ((QcU + 1) : Int) <= QdY /\ (QdY <= b \/ QdY = (QcU + 1)) /\ (-9223372036854775808 <= QdY /\ QdY <= 9223372036854775807), 0⟩) ?_ ?_
   ·skip
    refine Kl (γ := Nat × List Int × Int) (fun (r137, Qcl, QdY) => ⟨[(0, vl Qaf Qag data), (1, vi a), (2, vi b), (7, vi QcU), (8, vi j_6), (10, vi QdY)], [os (vl Qaf Qag data) Qcl], Qah r137 Qcl QdY = Qah (((b : Int) - (QcU + 1)).toNat) ((Qan.set QcU.toNat (Qan.getD ((QcU - 1) : Int).toNat 0)).set ((QcU - 1) : Int).toNat (Qan.getD QcU.toNat 0)) (QcU + 1) /\ r137 = ((b : Int) - QdY).toNat /\ ((QcU + 1) : Int) <= QdY /\ (QdY <= b \/ QdY = (QcU + 1)) /\ (-9223372036854775808 <= QdY /\ QdY <= 9223372036854775807), r137⟩) (((b : Int) - (QcU + 1)).toNat, ((Qan.set QcU.toNat (Qan.getD ((QcU - 1) : Int).toNat 0)).set ((QcU - 1) : Int).toNat (Qan.getD QcU.toNat 0)), (QcU + 1)) [0] ⟨rfl, rfl, aM1, (.inr rfl), aM1⟩ ?_
    rintro ⟨r137, Qcl, QdY⟩ ⟨hM140, hr141, hi142, hi143, hk144⟩
    refine QbB fun _ _ hL hA => ?_; dsimp only at hL hA; subst hL hA
    refine Fb 8 0 fun _ => Fo 0 fun ho147 => Fl 0 fun hn148 => ?_
    refine KS ?_
    refine Oq Vm (Oq Vm (Oq Qcu (KS ?_)))
    refine Kc ?_ ?_
    ·intro h149
     have g150 := dt h149
     obtain ⟨r151, rfl⟩ := scc (n := r137) aM1
     refine KS ?_
     refine Qav [0, 0, 3, 7, 0, 0, 32, 112, 240, 511, 1023] Qc8 ?_
     refine Dv [] Vm (Dv [] Vm (Dv [0] (Vi Qb2 0) ?_))
     have hb152 := ok1 (i := QdY.toNat) ho147 rng
     refine Dv [0] (QdG sh3 0) (Dv [] Vm (Dv [] Vm (Dv [] QdE (Dv [0] (Vi Qb2 0) ?_))))
     have hb153 := ok1 (i := ((QdY - 1) : Int).toNat) ho147 rng
     refine Dv [0] (QdG sh3 0) ?_
     refine QaO (Qar (Qcl.getD QdY.toNat 0) (Qcl.getD ((QdY - 1) : Int).toNat 0)) fun rv154 hg155 => ?_
     refine Dx [] [] [0] (fun G => vb rv154) [fun G => SP.fact (True)] (fun G => xC [] Qjf (Qjb ((Qcl.getD QdY.toNat 0)) ((Qcl.getD ((QdY - 1) : Int).toNat 0)) pre pre rv154 hg155)) (Dv [] QeP ?_)
     refine Dn ⟨by kernel_rfl, fun G => ?_⟩
     refine Jw2 [(0, vl Qaf Qag data), (1, vi a), (2, vi b), (7, vi QcU), (8, vi j_6), (10, vi QdY), (116, vb (!rv154))] [0] [SP.fact (True)] ?_
     refine Jk [0] ?_
     refine Kc ?_ ?_
     ·intro h156
      have h158 := not_true h156
      refine Ke ?_
      have hR160 := q2 hM140 Qcl (by simp only [Qah, h17, h51, h56, h63, h135, h149, h156, h158, hR27, hg155, cs4])
      exact Kg (Qcl, QdY) [0] ⟨(by assumption), (by first | assumption | omega), (by first | assumption | omega), (by first | assumption | omega)⟩
     intro h156
     have h162 := not_false h156
     refine KS ?_
     refine Qav [0, 0, 0, 0, 8, 0, 0, 64, 224, 480, 0, 0, 3072, 7168, 16355, 32739, 65535, 131071] Qc8 ?_
     refine Dv [] Vm (Dv [] Vm (Dv [] Vm (Dv [] Vm (Dv [] QdE (Dv [] Vm (Dv [] Vm (Dv [] QdE (Dv [0] (Vi Qb2 0) ?_))))))))
     have hb164 := ok1 (i := ((QdY - 1) : Int).toNat) ho147 rng
     refine Dv [0] (QdG sh3 0) (Dv [] Vm (Dv [] Vm (Dv [0] (Vi Qb2 0) ?_)))
     have hb165 := ok1 (i := QdY.toNat) ho147 rng
     refine Dv [0] (QdG sh3 0) (Dv [0] (Vi Qb2 0) (Dx0 [0] [0] [0] [fun G => os (vl Qaf Qag data) (Qcl.set QdY.toNat (Qcl.getD ((QdY - 1) : Int).toNat 0))] (fun G => xS (SoI [0] sh3)) (Dv [1] (Vi Qb2 0) (Dx0 [1] [1] [0] [fun G => os (vl Qaf Qag data) ((Qcl.set QdY.toNat (Qcl.getD ((QdY - 1) : Int).toNat 0)).set ((QdY - 1) : Int).toNat (Qcl.getD QdY.toNat 0))] (fun G => xS (SoI [0] sh3)) ?_))))
     refine Dn ⟨by kernel_rfl, fun G => ?_⟩
     refine Jw2 [(0, vl Qaf Qag data), (1, vi a), (2, vi b), (7, vi QcU), (8, vi j_6), (10, vi QdY)] [] [os (vl Qaf Qag data) ((Qcl.set QdY.toNat (Qcl.getD ((QdY - 1) : Int).toNat 0)).set ((QdY - 1) : Int).toNat (Qcl.getD QdY.toNat 0))] ?_
     refine KS ?_
     refine Oq Vm (Oq Qbd (Oq Va (KS ?_)))
     exact Kg (r151, ((Qcl.set QdY.toNat (Qcl.getD ((QdY - 1) : Int).toNat 0)).set ((QdY - 1) : Int).toNat (Qcl.getD QdY.toNat 0)), (QdY + 1)) [0] ⟨(q3 hM140 (by simp only [Qah, h17, h51, h56, h63, h135, h149, h156, h162, hR27, hg155, cs4])), aM1, aM1, aM1, aM1⟩
    intro h149
    have g166 := df h149
    obtain rfl : r137 = 0 := by omega
    refine Ke ?_
    have hR167 := q2 hM140 Qcl (by simp only [Qah, h17, h51, h56, h63, h135, h149, hR27, cs4])
    exact Kg (Qcl, QdY) [0] ⟨(by assumption), (by first | assumption | omega), (by first | assumption | omega), (by first | assumption | omega)⟩
   rintro ⟨Qcl, QdY⟩ ⟨hR145, hi142, hi143, hk144⟩
   refine QbB fun _ _ hL hA => ?_; dsimp only at hL hA; subst hL hA
   refine Fb 8 0 fun _ => Fo 0 fun ho169 => Fl 0 fun hn170 => ?_
   refine KS ?_
   refine Oq Vm (Oq Qbd (Oq Va (KS ?_)))
   exact Kg (r19, Qcl, QcU, (j_6 + 1)) [0] ⟨(q3 hM7 (by simp only [Qad, h17, h51, h56, h63, h135, hR27, hR145, cs4])), aM1, aM1, aM1, aM1, aM1, iv1⟩
  intro h135
  have g171 := df h135
  refine KS ?_
  refine Oq Vm (Oq Qbd (Oq Va (KS ?_)))
  exact Kg (r19, ((Qan.set QcU.toNat (Qan.getD ((QcU - 1) : Int).toNat 0)).set ((QcU - 1) : Int).toNat (Qan.getD QcU.toNat 0)), QcU, (j_6 + 1)) [0] ⟨(q3 hM7 (by simp only [Qad, h17, h51, h56, h63, h135, hR27, cs4])), aM1, aM1, aM1, aM1, aM1, iv1⟩
 intro h17
 have g172 := df h17
 obtain rfl : r3 = 0 := by omega
 refine Ke ?_
 have hR173 := q2 hM7 (.brk Qan) (by simp only [Qad, h17, cs4])
 refine KS ?_
 refine Oq Va (KS ?_)
 refine Fl 0 fun hn174 => ?_
 have hq := q4 hrr (false, Qan) (by simp only [Qam, h17, hR173, cs4]); subst hq
 exact Kr () rfl (.tmp rfl .nil) [0] en
theorem Qpp (data : List Int) (Qaf : Option Addr) (Qag : Nat) (a : Int) (b : Int) (pivot : Int) (QhN : Qac a) (Qh4 : Qac b) (Qkt : Qac pivot) (ha0 : 0 <= a /\ a <= b /\ b <= (data.length : Int) /\ data.length <= 65535 /\ a <= pivot /\ pivot < b) (rr : Int × List Int) (hrr : Qao data a b pivot = rr) : FT Tryd.prog 87 #[vl Qaf Qag data, vi a, vi b, vi pivot] [O Qaf Qag data] (fun g : Unit => Qac rr.1 /\ (a < rr.1 /\ rr.1 <= b) /\ (rr.2.length = data.length)) (fun g => vi rr.1) (fun g => [os (vl Qaf Qag data) rr.2]) := by
 refine FTi Tryd.func87 fun w0 M0 F0 => ?_
 unfold Qac at QhN Qh4 Qkt
 refine Fb 8 0 fun _ => Fo 0 fun ho2 => KS ?_
 refine Oq Va (KS ?_)
 refine Qav [0, 0, 0, 0, 0, 0, 48, 112, 0, 0, 768, 1792, 4083, 8179, 16383, 32767] Qc8 ?_
 refine Dv [] Vm (Dv [] Vm (Dv [] Vm (Dv [] Vm (Dv [] Vm (Dv [] Vm (Dv [0] (Vi Qb2 0) ?_))))))
 have hb3 := ok1 (i := pivot.toNat) ho2 rng
 refine Dv [0] (QdG sh3 0) (Dv [] Vm (Dv [] Vm (Dv [0] (Vi Qb2 0) ?_)))
 have hb4 := ok1 (i := a.toNat) ho2 rng
 refine Dv [0] (QdG sh3 0) (Dv [0] (Vi Qb2 0) (Dx0 [0] [0] [0] [fun G => os (vl Qaf Qag data) (data.set a.toNat (data.getD pivot.toNat 0))] (fun G => xS (SoI [0] sh3)) (Dv [1] (Vi Qb2 0) (Dx0 [1] [1] [0] [fun G => os (vl Qaf Qag data) ((data.set a.toNat (data.getD pivot.toNat 0)).set pivot.toNat (data.getD a.toNat 0))] (fun G => xS (SoI [0] sh3)) ?_))))
 refine Dn ⟨by kernel_rfl, fun G => ?_⟩
 refine Jw2 [(0, vl Qaf Qag data), (1, vi a), (2, vi b)] [] [os (vl Qaf Qag data) ((data.set a.toNat (data.getD pivot.toNat 0)).set pivot.toNat (data.getD a.toNat 0))] ?_
 refine KS ?_
 refine Oq Vm (Oq Qbd (Oq Vm (Oq QdE (Oq Va (Oq Va (KS ?_))))))
 have hterm13 : QaP a b ((b - a).toNat + 2) ((data.set a.toNat (data.getD pivot.toNat 0)).set pivot.toNat (data.getD a.toNat 0)) (a + 1) (b - 1) ≠ LR.oof := (Qrc _ _ _ _ aM1 aM1 aM1 aM1 aM1)
 refine Kl (γ := Nat × List Int × Int × Int) (fun (r5, Qc3, i_7, j_8) => ⟨[(0, vl Qaf Qag data), (1, vi a), (9, vi i_7), (10, vi j_8)], [os (vl Qaf Qag data) Qc3], QaP a b r5 Qc3 i_7 j_8 = QaP a b ((b - a).toNat + 2) ((data.set a.toNat (data.getD pivot.toNat 0)).set pivot.toNat (data.getD a.toNat 0)) (a + 1) (b - 1) /\ (-9223372036854775808 <= i_7 /\ i_7 <= 9223372036854775807) /\ (-9223372036854775808 <= j_8 /\ j_8 <= 9223372036854775807) /\ (a + 1 <= i_7 /\ i_7 <= j_8 + 2 /\ j_8 <= b - 1 /\ i_7 <= b), r5⟩) (((b - a).toNat + 2), ((data.set a.toNat (data.getD pivot.toNat 0)).set pivot.toNat (data.getD a.toNat 0)), (a + 1), (b - 1)) [0] ⟨rfl, aM1, aM1, iv0⟩ ?_
 rintro ⟨r5, Qc3, i_7, j_8⟩ ⟨hM9, hk10, hk11, hv12⟩
 refine QbB fun _ _ hL hA => ?_; dsimp only at hL hA; subst hL hA
 refine Fb 8 0 fun _ => Fo 0 fun ho15 => Fl 0 fun hn16 => ?_
 rcases r5 with _ | r5
 ·exact absurd (hM9.symm.trans rfl) hterm13
 refine KS ?_
 have hterm22 : QaI a Qc3 j_8 ((b - a).toNat + 2) i_7 ≠ LR.oof := (QsS aM1 aM1)
 refine KjD (γ := Int) (fun QfB => ⟨[(0, vl Qaf Qag data), (1, vi a), (9, vi QfB), (10, vi j_8)], [os (vl Qaf Qag data) Qc3], QaI a Qc3 j_8 ((b - a).toNat + 2) i_7 = .brk QfB /\ (-9223372036854775808 <= QfB /\ QfB <= 9223372036854775807) /\ (i_7 <= QfB /\ (QfB <= j_8 + 1 \/ QfB = i_7)), 0⟩) ?_ ?_
 ·skip
  refine Kl (γ := Nat × Int) (fun (r17, QfB) => ⟨[(0, vl Qaf Qag data), (1, vi a), (9, vi QfB), (10, vi j_8)], [os (vl Qaf Qag data) Qc3], QaI a Qc3 j_8 r17 QfB = QaI a Qc3 j_8 ((b - a).toNat + 2) i_7 /\ (-9223372036854775808 <= QfB /\ QfB <= 9223372036854775807) /\ (i_7 <= QfB /\ (QfB <= j_8 + 1 \/ QfB = i_7)), r17⟩) (((b - a).toNat + 2), i_7) [0] ⟨rfl, aM1, iv0⟩ ?_
  rintro ⟨r17, QfB⟩ ⟨hM19, hk20, hv21⟩
  refine QbB fun _ _ hL hA => ?_; dsimp only at hL hA; subst hL hA
  refine Fb 8 0 fun _ => Fo 0 fun ho25 => Fl 0 fun hn26 => ?_
  rcases r17 with _ | r17
  ·exact absurd (hM19.symm.trans rfl) hterm22
  refine KS ?_
  refine Qav [0, 0, 3, 7, 15, 15, 63, 127, 15, 15, 783, 1807, 4095, 8191, 16383] Qc8 ?_
  refine Dv [] Vm (Dv [] Vm (Dv [] Qh8 ?_))
  refine QbI (decide (QfB <= j_8)) ?_ ?_
  ·intro h27
   have g28 := dt h27
   refine Db h27 [] Vm (Dv [] Vm (Dv [] Vm (Dv [0] (Vi Qb2 0) ?_)))
   have hb29 := ok1 (i := a.toNat) ho25 rng
   refine Dv [0] (QdG sh3 0) (Dv [] Vm (Dv [] Vm (Dv [0] (Vi Qb2 0) ?_)))
   have hb30 := ok1 (i := QfB.toNat) ho25 rng
   refine Dv [0] (QdG sh3 0) ?_
   refine QaO (Qar (Qc3.getD a.toNat 0) (Qc3.getD QfB.toNat 0)) fun rv31 hg32 => ?_
   refine Dx [] [] [0] (fun G => vb rv31) [fun G => SP.fact (True)] (fun G => xC [] Qjf (Qjb ((Qc3.getD a.toNat 0)) ((Qc3.getD QfB.toNat 0)) pre pre rv31 hg32)) (Dv [] QeP (Dv [] Vpt ?_))
   refine Dn ⟨by kernel_rfl, fun G => ?_⟩
   refine Jw2 [(0, vl Qaf Qag data), (1, vi a), (9, vi QfB), (10, vi j_8), (43, vb (!rv31))] [0] [SP.fact (True)] ?_
   refine Jk [0] ?_
   refine Kc ?_ ?_
   ·intro h33
    have h35 := not_true h33
    refine KS ?_
    refine Oq Vm (Oq Qbd (Oq Va (KS ?_)))
    exact Kg (r17, (QfB + 1)) [0] ⟨(q3 hM19 (by simp only [QaI, h27, h33, h35, hg32, cs4])), aM1, iv1⟩
   intro h33
   have h38 := not_false h33
   refine Ke ?_
   have hR40 := q2 hM19 (.brk QfB) (by simp only [QaI, h27, h33, h38, hg32, cs4])
   exact Kg QfB [0] ⟨(by assumption), (by first | assumption | omega), (by first | assumption | omega)⟩
  intro h27
  have g41 := df h27
  refine Db h27 [] Vm (Ds (Ds (Ds (Ds (Ds (Ds (Ds (Ds (Ds ?_)))))))))
  refine Ds (Dv [] Vpf ?_)
  refine Dn ⟨by kernel_rfl, fun G => ?_⟩
  refine Jw2 [(0, vl Qaf Qag data), (1, vi a), (9, vi QfB), (10, vi j_8), (43, vb false)] [0] [] ?_
  refine Kf ?_
  refine Ke ?_
  have hR42 := q2 hM19 (.brk QfB) (by simp only [QaI, h27, cs4])
  exact Kg QfB [0] ⟨(by assumption), (by first | assumption | omega), (by first | assumption | omega)⟩
 rintro QfB ⟨hR23, hk20, hv21⟩
 refine QbB fun _ _ hL hA => ?_; dsimp only at hL hA; subst hL hA
 refine Fb 8 0 fun _ => Fo 0 fun ho44 => Fl 0 fun hn45 => ?_
 refine KS ?_
 have hterm51 : QaH a Qc3 QfB ((b - a).toNat + 2) j_8 ≠ LR.oof := (Qs3 aM1 aM1)
 refine KjD (γ := Int) (fun QgY => ⟨[(0, vl Qaf Qag data), (1, vi a), (9, vi QfB), (10, vi QgY)], [os (vl Qaf Qag data) Qc3], QaH a Qc3 QfB ((b - a).toNat + 2) j_8 = .brk QgY /\ (-9223372036854775808 <= QgY /\ QgY <= 9223372036854775807) /\ (QgY <= j_8 /\ (QfB - 1 <= QgY \/ QgY = j_8)), 0⟩) ?_ ?_
 ·skip
  refine Kl (γ := Nat × Int) (fun (r46, QgY) => ⟨[(0, vl Qaf Qag data), (1, vi a), (9, vi QfB), (10, vi QgY)], [os (vl Qaf Qag data) Qc3], QaH a Qc3 QfB r46 QgY = QaH a Qc3 QfB ((b - a).toNat + 2) j_8 /\ (-9223372036854775808 <= QgY /\ QgY <= 9223372036854775807) /\ (QgY <= j_8 /\ (QfB - 1 <= QgY \/ QgY = j_8)), r46⟩) (((b - a).toNat + 2), j_8) [0] ⟨rfl, aM1, iv0⟩ ?_
  rintro ⟨r46, QgY⟩ ⟨hM48, hk49, hv50⟩
  refine QbB fun _ _ hL hA => ?_; dsimp only at hL hA; subst hL hA
  refine Fb 8 0 fun _ => Fo 0 fun ho54 => Fl 0 fun hn55 => ?_
  rcases r46 with _ | r46
  ·exact absurd (hM48.symm.trans rfl) hterm51
  refine KS ?_
  refine Qav [0, 0, 3, 7, 15, 15, 63, 127, 15, 15, 783, 1807, 4095, 8191] Qc8 ?_
  refine Dv [] Vm (Dv [] Vm (Dv [] Qh8 ?_))
  refine QbI (decide (QfB <= QgY)) ?_ ?_
  ·intro h56
   have g57 := dt h56
   refine Db h56 [] Vm (Dv [] Vm (Dv [] Vm (Dv [0] (Vi Qb2 0) ?_)))
   have hb58 := ok1 (i := a.toNat) ho54 rng
   refine Dv [0] (QdG sh3 0) (Dv [] Vm (Dv [] Vm (Dv [0] (Vi Qb2 0) ?_)))
   have hb59 := ok1 (i := QgY.toNat) ho54 rng
   refine Dv [0] (QdG sh3 0) ?_
   refine QaO (Qar (Qc3.getD a.toNat 0) (Qc3.getD QgY.toNat 0)) fun rv60 hg61 => ?_
   refine Dx [] [] [0] (fun G => vb rv60) [fun G => SP.fact (True)] (fun G => xC [] Qjf (Qjb ((Qc3.getD a.toNat 0)) ((Qc3.getD QgY.toNat 0)) pre pre rv60 hg61)) (Dv [] Vpt ?_)
   refine Dn ⟨by kernel_rfl, fun G => ?_⟩
   refine Jw2 [(0, vl Qaf Qag data), (1, vi a), (9, vi QfB), (10, vi QgY), (59, vb rv60)] [0] [SP.fact (True)] ?_
   refine Jk [0] ?_
   refine Kc ?_ ?_
   ·intro h62
    refine KS ?_
    refine Oq Vm (Oq QdE (Oq Va (KS ?_)))
    exact Kg (r46, (QgY - 1)) [0] ⟨(q3 hM48 (by simp only [QaH, h56, h62, hR23, hg61, cs4])), aM1, iv1⟩
   intro h62
   refine Ke ?_
   have hR65 := q2 hM48 (.brk QgY) (by simp only [QaH, h56, h62, hR23, hg61, cs4])
   exact Kg QgY [0] ⟨(by assumption), (by first | assumption | omega), (by first | assumption | omega)⟩
  intro h56
  have g66 := df h56
  refine Db h56 [] Vm (Ds (Ds (Ds (Ds (Ds (Ds (Ds (Ds (Ds ?_)))))))))
  refine Dv [] Vpf ?_
  refine Dn ⟨by kernel_rfl, fun G => ?_⟩
  refine Jw2 [(0, vl Qaf Qag data), (1, vi a), (9, vi QfB), (10, vi QgY), (59, vb false)] [0] [] ?_
  refine Kf ?_
  refine Ke ?_
  have hR67 := q2 hM48 (.brk QgY) (by simp only [QaH, h56, hR23, cs4])
  exact Kg QgY [0] ⟨(by assumption), (by first | assumption | omega), (by first | assumption | omega)⟩
 rintro QgY ⟨hR52, hk49, hv50⟩
 refine QbB fun _ _ hL hA => ?_; dsimp only at hL hA; subst hL hA
 refine Fb 8 0 fun _ => Fo 0 fun ho69 => Fl 0 fun hn70 => ?_
 refine KS ?_
 refine Oq Vm (Oq Vm (Oq QhM (KS ?_)))
 refine Kc ?_ ?_
 ·intro h71
  have g72 := dt h71
  refine Ke ?_
  have hR73 := q2 hM9 (.brk (Qc3, QfB)) (by simp only [QaP, h71, hR23, hR52, cs4])
  refine KS ?_
  refine Oq Vm (Oq Va (KS ?_))
  refine Fl 0 fun hn74 => ?_
  have hq := q4 hrr (QfB, Qc3) (by simp only [Qao, h71, hR23, hR52, hR73, cs4]); subst hq
  exact Kr () rfl (.tmp rfl .nil) [0] en
 intro h71
 have g75 := df h71
 refine KS ?_
 refine Qav [0, 0, 0, 0, 0, 0, 48, 112, 0, 0, 768, 1792, 4083, 8179, 16383, 32767] Qc8 ?_
 refine Dv [] Vm (Dv [] Vm (Dv [] Vm (Dv [] Vm (Dv [] Vm (Dv [] Vm (Dv [0] (Vi Qb2 0) ?_))))))
 have hb76 := ok1 (i := QgY.toNat) ho69 rng
 refine Dv [0] (QdG sh3 0) (Dv [] Vm (Dv [] Vm (Dv [0] (Vi Qb2 0) ?_)))
 have hb77 := ok1 (i := QfB.toNat) ho69 rng
 refine Dv [0] (QdG sh3 0) (Dv [0] (Vi Qb2 0) (Dx0 [0] [0] [0] [fun G => os (vl Qaf Qag data) (Qc3.set QfB.toNat (Qc3.getD QgY.toNat 0))] (fun G => xS (SoI [0] sh3)) (Dv [1] (Vi Qb2 0) (Dx0 [1] [1] [0] [fun G => os (vl Qaf Qag data) ((Qc3.set QfB.toNat (Qc3.getD QgY.toNat 0)).set QgY.toNat (Qc3.getD QfB.toNat 0))] (fun G => xS (SoI [0] sh3)) ?_))))
 refine Dn ⟨by kernel_rfl, fun G => ?_⟩
 refine Jw2 [(0, vl Qaf Qag data), (1, vi a), (9, vi QfB), (10, vi QgY)] [] [os (vl Qaf Qag data) ((Qc3.set QfB.toNat (Qc3.getD QgY.toNat 0)).set QgY.toNat (Qc3.getD QfB.toNat 0))] ?_
 refine KS ?_
 refine Oq Vm (Oq Qbd (Oq Va (KS ?_)))
 refine Oq Vm (Oq QdE (Oq Va (KS ?_)))
 exact Kg (r5, ((Qc3.set QfB.toNat (Qc3.getD QgY.toNat 0)).set QgY.toNat (Qc3.getD QfB.toNat 0)), (QfB + 1), (QgY - 1)) [0] ⟨(q3 hM9 (by simp only [QaP, h71, hR23, hR52, cs4])), aM1, aM1, iv1⟩
theorem Qlq (data : List Int) (Qaf : Option Addr) (Qag : Nat) (a : Int) (b : Int) (pivot : Int) (QhN : Qac a) (Qh4 : Qac b) (Qkt : Qac pivot) (ha0 : 0 <= a /\ a <= b /\ b <= (data.length : Int) /\ data.length <= 65535 /\ a <= pivot /\ pivot < b) (rr : Int × Bool × List Int) (hrr : Qae data a b pivot = rr) : FT Tryd.prog 88 #[vl Qaf Qag data, vi a, vi b, vi pivot] [O Qaf Qag data] (fun g : Unit => Qac rr.1 /\ (a <= rr.1 /\ rr.1 < b) /\ (rr.2.2.length = data.length)) (fun g => .tuple #[vi rr.1, vb rr.2.1]) (fun g => [os (vl Qaf Qag data) rr.2.2]) := by
 refine FTi Tryd.func88 fun w0 M0 F0 => ?_
 unfold Qac at QhN Qh4 Qkt
 refine Fb 8 0 fun _ => Fo 0 fun ho2 => KS ?_
 refine Oq Va (Oq Va (KS ?_))
 refine Qav [0, 0, 0, 0, 0, 0, 48, 112, 0, 0, 768, 1792, 4083, 8179, 16383, 32767] Qc8 ?_
 refine Dv [] Vm (Dv [] Vm (Dv [] Vm (Dv [] Vm (Dv [] Vm (Dv [] Vm (Dv [0] (Vi Qb2 0) ?_))))))
 have hb3 := ok1 (i := pivot.toNat) ho2 rng
 refine Dv [0] (QdG sh3 0) (Dv [] Vm (Dv [] Vm (Dv [0] (Vi Qb2 0) ?_)))
 have hb4 := ok1 (i := a.toNat) ho2 rng
 refine Dv [0] (QdG sh3 0) (Dv [0] (Vi Qb2 0) (Dx0 [0] [0] [0] [fun G => os (vl Qaf Qag data) (data.set a.toNat (data.getD pivot.toNat 0))] (fun G => xS (SoI [0] sh3)) (Dv [1] (Vi Qb2 0) (Dx0 [1] [1] [0] [fun G => os (vl Qaf Qag data) ((data.set a.toNat (data.getD pivot.toNat 0)).set pivot.toNat (data.getD a.toNat 0))] (fun G => xS (SoI [0] sh3)) ?_))))
 refine Dn ⟨by kernel_rfl, fun G => ?_⟩
 refine Jw2 [(0, vl Qaf Qag data), (1, vi a), (2, vi b)] [] [os (vl Qaf Qag data) ((data.set a.toNat (data.getD pivot.toNat 0)).set pivot.toNat (data.getD a.toNat 0))] ?_
 refine KS ?_
 refine Oq Vm (Oq Qbd (Oq Vm (Oq QdE (Oq Va (Oq Va (KS ?_))))))
 have hterm10 : QaU data a b pivot ((b - a).toNat + 2) (a + 1) ≠ LR.oof := (QsT aM1 aM1)
 refine KjD (γ := Int) (fun i_6 => ⟨[(0, vl Qaf Qag data), (1, vi a), (10, vi i_6), (11, vi (b - 1))], [os (vl Qaf Qag data) ((data.set a.toNat (data.getD pivot.toNat 0)).set pivot.toNat (data.getD a.toNat 0))], QaU data a b pivot ((b - a).toNat + 2) (a + 1) = .brk i_6 /\ (-9223372036854775808 <= i_6 /\ i_6 <= 9223372036854775807) /\ (a + 1 <= i_6 /\ i_6 <= b), 0⟩) ?_ ?_
 ·skip
  refine Kl (γ := Nat × Int) (fun (r5, i_6) => ⟨[(0, vl Qaf Qag data), (1, vi a), (10, vi i_6), (11, vi (b - 1))], [os (vl Qaf Qag data) ((data.set a.toNat (data.getD pivot.toNat 0)).set pivot.toNat (data.getD a.toNat 0))], QaU data a b pivot r5 i_6 = QaU data a b pivot ((b - a).toNat + 2) (a + 1) /\ (-9223372036854775808 <= i_6 /\ i_6 <= 9223372036854775807) /\ (a + 1 <= i_6 /\ i_6 <= b), r5⟩) (((b - a).toNat + 2), (a + 1)) [0] ⟨rfl, aM1, iv0⟩ ?_
  rintro ⟨r5, i_6⟩ ⟨hM7, hk8, hv9⟩
  refine QbB fun _ _ hL hA => ?_; dsimp only at hL hA; subst hL hA
  refine Fb 8 0 fun _ => Fo 0 fun ho13 => Fl 0 fun hn14 => ?_
  rcases r5 with _ | r5
  ·exact absurd (hM7.symm.trans rfl) hterm10
  refine KS ?_
  refine Qav [0, 0, 3, 7, 15, 15, 63, 127, 15, 15, 783, 1807, 4095, 8191] Qc8 ?_
  refine Dv [] Vm (Dv [] Vm (Dv [] Qh8 ?_))
  refine QbI (decide (i_6 <= (b - 1))) ?_ ?_
  ·intro h15
   have g16 := dt h15
   refine Db h15 [] Vm (Dv [] Vm (Dv [] Vm (Dv [0] (Vi Qb2 0) ?_)))
   have hb17 := ok1 (i := i_6.toNat) ho13 rng
   refine Dv [0] (QdG sh3 0) (Dv [] Vm (Dv [] Vm (Dv [0] (Vi Qb2 0) ?_)))
   have hb18 := ok1 (i := a.toNat) ho13 rng
   refine Dv [0] (QdG sh3 0) ?_
   refine QaO (Qar (((data.set a.toNat (data.getD pivot.toNat 0)).set pivot.toNat (data.getD a.toNat 0)).getD i_6.toNat 0) (((data.set a.toNat (data.getD pivot.toNat 0)).set pivot.toNat (data.getD a.toNat 0)).getD a.toNat 0)) fun rv19 hg20 => ?_
   refine Dx [] [] [0] (fun G => vb rv19) [fun G => SP.fact (True)] (fun G => xC [] Qjf (Qjb ((((data.set a.toNat (data.getD pivot.toNat 0)).set pivot.toNat (data.getD a.toNat 0)).getD i_6.toNat 0)) ((((data.set a.toNat (data.getD pivot.toNat 0)).set pivot.toNat (data.getD a.toNat 0)).getD a.toNat 0)) pre pre rv19 hg20)) (Dv [] Vpt ?_)
   refine Dn ⟨by kernel_rfl, fun G => ?_⟩
   refine Jw2 [(0, vl Qaf Qag data), (1, vi a), (10, vi i_6), (11, vi (b - 1)), (43, vb rv19)] [0] [SP.fact (True)] ?_
   refine Jk [0] ?_
   refine Kc ?_ ?_
   ·intro h21
    refine KS ?_
    refine Oq Vm (Oq Qbd (Oq Va (KS ?_)))
    exact Kg (r5, (i_6 + 1)) [0] ⟨(q3 hM7 (by simp only [QaU, h15, h21, hg20, cs4])), aM1, iv1⟩
   intro h21
   refine Ke ?_
   have hR24 := q2 hM7 (.brk i_6) (by simp only [QaU, h15, h21, hg20, cs4])
   exact Kg i_6 [0] ⟨(by assumption), (by first | assumption | omega), (by first | assumption | omega)⟩
  intro h15
  have g25 := df h15
  refine Db h15 [] Vm (Ds (Ds (Ds (Ds (Ds (Ds (Ds (Ds (Ds ?_)))))))))
  refine Dv [] Vpf ?_
  refine Dn ⟨by kernel_rfl, fun G => ?_⟩
  refine Jw2 [(0, vl Qaf Qag data), (1, vi a), (10, vi i_6), (11, vi (b - 1)), (43, vb false)] [0] [] ?_
  refine Kf ?_
  refine Ke ?_
  have hR26 := q2 hM7 (.brk i_6) (by simp only [QaU, h15, cs4])
  exact Kg i_6 [0] ⟨(by assumption), (by first | assumption | omega), (by first | assumption | omega)⟩
 rintro i_6 ⟨hR11, hk8, hv9⟩
 refine QbB fun _ _ hL hA => ?_; dsimp only at hL hA; subst hL hA
 refine Fb 8 0 fun _ => Fo 0 fun ho28 => Fl 0 fun hn29 => ?_
 refine KS ?_
 have hterm35 : QaT data a pivot i_6 ((b - a).toNat + 2) (b - 1) ≠ LR.oof := (Qtd aM1 aM1)
 refine KjD (γ := Int) (fun Qft => ⟨[(0, vl Qaf Qag data), (1, vi a), (10, vi i_6), (11, vi Qft)], [os (vl Qaf Qag data) ((data.set a.toNat (data.getD pivot.toNat 0)).set pivot.toNat (data.getD a.toNat 0))], QaT data a pivot i_6 ((b - a).toNat + 2) (b - 1) = .brk Qft /\ (-9223372036854775808 <= Qft /\ Qft <= 9223372036854775807) /\ (i_6 - 1 <= Qft /\ Qft <= b - 1), 0⟩) ?_ ?_
 ·skip
  refine Kl (γ := Nat × Int) (fun (r30, Qft) => ⟨[(0, vl Qaf Qag data), (1, vi a), (10, vi i_6), (11, vi Qft)], [os (vl Qaf Qag data) ((data.set a.toNat (data.getD pivot.toNat 0)).set pivot.toNat (data.getD a.toNat 0))], QaT data a pivot i_6 r30 Qft = QaT data a pivot i_6 ((b - a).toNat + 2) (b - 1) /\ (-9223372036854775808 <= Qft /\ Qft <= 9223372036854775807) /\ (i_6 - 1 <= Qft /\ Qft <= b - 1), r30⟩) (((b - a).toNat + 2), (b - 1)) [0] ⟨rfl, aM1, iv0⟩ ?_
  rintro ⟨r30, Qft⟩ ⟨hM32, hk33, hv34⟩
  refine QbB fun _ _ hL hA => ?_; dsimp only at hL hA; subst hL hA
  refine Fb 8 0 fun _ => Fo 0 fun ho38 => Fl 0 fun hn39 => ?_
  rcases r30 with _ | r30
  ·exact absurd (hM32.symm.trans rfl) hterm35
  refine KS ?_
  refine Qav [0, 0, 3, 7, 15, 15, 63, 127, 15, 15, 783, 1807, 4095, 8191, 16383] Qc8 ?_
  refine Dv [] Vm (Dv [] Vm (Dv [] Qh8 ?_))
  refine QbI (decide (i_6 <= Qft)) ?_ ?_
  ·intro h40
   have g41 := dt h40
   refine Db h40 [] Vm (Dv [] Vm (Dv [] Vm (Dv [0] (Vi Qb2 0) ?_)))
   have hb42 := ok1 (i := Qft.toNat) ho38 rng
   refine Dv [0] (QdG sh3 0) (Dv [] Vm (Dv [] Vm (Dv [0] (Vi Qb2 0) ?_)))
   have hb43 := ok1 (i := a.toNat) ho38 rng
   refine Dv [0] (QdG sh3 0) ?_
   refine QaO (Qar (((data.set a.toNat (data.getD pivot.toNat 0)).set pivot.toNat (data.getD a.toNat 0)).getD Qft.toNat 0) (((data.set a.toNat (data.getD pivot.toNat 0)).set pivot.toNat (data.getD a.toNat 0)).getD a.toNat 0)) fun rv44 hg45 => ?_
   refine Dx [] [] [0] (fun G => vb rv44) [fun G => SP.fact (True)] (fun G => xC [] Qjf (Qjb ((((data.set a.toNat (data.getD pivot.toNat 0)).set pivot.toNat (data.getD a.toNat 0)).getD Qft.toNat 0)) ((((data.set a.toNat (data.getD pivot.toNat 0)).set pivot.toNat (data.getD a.toNat 0)).getD a.toNat 0)) pre pre rv44 hg45)) (Dv [] QeP (Dv [] Vpt ?_))
   refine Dn ⟨by kernel_rfl, fun G => ?_⟩
   refine Jw2 [(0, vl Qaf Qag data), (1, vi a), (10, vi i_6), (11, vi Qft), (60, vb (!rv44))] [0] [SP.fact (True)] ?_
   refine Jk [0] ?_
   refine Kc ?_ ?_
   ·intro h46
    have h48 := not_true h46
    refine KS ?_
    refine Oq Vm (Oq QdE (Oq Va (KS ?_)))
    exact Kg (r30, (Qft - 1)) [0] ⟨(q3 hM32 (by simp only [QaT, h40, h46, h48, hR11, hg45, cs4])), aM1, iv1⟩
   intro h46
   have h51 := not_false h46
   refine Ke ?_
   have hR53 := q2 hM32 (.brk Qft) (by simp only [QaT, h40, h46, h51, hR11, hg45, cs4])
   exact Kg Qft [0] ⟨(by assumption), (by first | assumption | omega), (by first | assumption | omega)⟩
  intro h40
  have g54 := df h40
  refine Db h40 [] Vm (Ds (Ds (Ds (Ds (Ds (Ds (Ds (Ds (Ds ?_)))))))))
  refine Ds (Dv [] Vpf ?_)
  refine Dn ⟨by kernel_rfl, fun G => ?_⟩
  refine Jw2 [(0, vl Qaf Qag data), (1, vi a), (10, vi i_6), (11, vi Qft), (60, vb false)] [0] [] ?_
  refine Kf ?_
  refine Ke ?_
  have hR55 := q2 hM32 (.brk Qft) (by simp only [QaT, h40, hR11, cs4])
  exact Kg Qft [0] ⟨(by assumption), (by first | assumption | omega), (by first | assumption | omega)⟩
 rintro Qft ⟨hR36, hk33, hv34⟩
 refine QbB fun _ _ hL hA => ?_; dsimp only at hL hA; subst hL hA
 refine Fb 8 0 fun _ => Fo 0 fun ho57 => Fl 0 fun hn58 => ?_
 refine KS ?_
 refine Oq Vm (Oq Vm (Oq QhM (KS ?_)))
 refine Kc ?_ ?_
 ·intro h59
  have g60 := dt h59
  refine KS ?_
  refine Qav [0, 0, 0, 0, 0, 0, 48, 112, 0, 0, 768, 1792, 4083, 8179, 16383, 32767] Qc8 ?_
  refine Dv [] Vm (Dv [] Vm (Dv [] Vm (Dv [] Vm (Dv [] Vm (Dv [] Vm (Dv [0] (Vi Qb2 0) ?_))))))
  have hb61 := ok1 (i := a.toNat) ho57 rng
  refine Dv [0] (QdG sh3 0) (Dv [] Vm (Dv [] Vm (Dv [0] (Vi Qb2 0) ?_)))
  have hb62 := ok1 (i := Qft.toNat) ho57 rng
  refine Dv [0] (QdG sh3 0) (Dv [0] (Vi Qb2 0) (Dx0 [0] [0] [0] [fun G => os (vl Qaf Qag data) (((data.set a.toNat (data.getD pivot.toNat 0)).set pivot.toNat (data.getD a.toNat 0)).set Qft.toNat (((data.set a.toNat (data.getD pivot.toNat 0)).set pivot.toNat (data.getD a.toNat 0)).getD a.toNat 0))] (fun G => xS (SoI [0] sh3)) (Dv [1] (Vi Qb2 0) (Dx0 [1] [1] [0] [fun G => os (vl Qaf Qag data) ((((data.set a.toNat (data.getD pivot.toNat 0)).set pivot.toNat (data.getD a.toNat 0)).set Qft.toNat (((data.set a.toNat (data.getD pivot.toNat 0)).set pivot.toNat (data.getD a.toNat 0)).getD a.toNat 0)).set a.toNat (((data.set a.toNat (data.getD pivot.toNat 0)).set pivot.toNat (data.getD a.toNat 0)).getD Qft.toNat 0))] (fun G => xS (SoI [0] sh3)) ?_))))
  refine Dn ⟨by kernel_rfl, fun G => ?_⟩
  refine Jw2 [(0, vl Qaf Qag data), (11, vi Qft)] [] [os (vl Qaf Qag data) ((((data.set a.toNat (data.getD pivot.toNat 0)).set pivot.toNat (data.getD a.toNat 0)).set Qft.toNat (((data.set a.toNat (data.getD pivot.toNat 0)).set pivot.toNat (data.getD a.toNat 0)).getD a.toNat 0)).set a.toNat (((data.set a.toNat (data.getD pivot.toNat 0)).set pivot.toNat (data.getD a.toNat 0)).getD Qft.toNat 0))] ?_
  refine KS ?_
  refine Oq Vm (Oq Va (Oq Va (KS ?_)))
  refine Fl 0 fun hn63 => ?_
  have hq := q4 hrr (Qft, true, ((((data.set a.toNat (data.getD pivot.toNat 0)).set pivot.toNat (data.getD a.toNat 0)).set Qft.toNat (((data.set a.toNat (data.getD pivot.toNat 0)).set pivot.toNat (data.getD a.toNat 0)).getD a.toNat 0)).set a.toNat (((data.set a.toNat (data.getD pivot.toNat 0)).set pivot.toNat (data.getD a.toNat 0)).getD Qft.toNat 0))) (by simp only [Qae, h59, hR11, hR36, cs4]); subst hq
  exact Kr () rfl (.tmp rfl (.tmp rfl .nil)) [0] en
 intro h59
 have g64 := df h59
 refine KS ?_
 refine Qav [0, 0, 0, 0, 0, 0, 48, 112, 0, 0, 768, 1792, 4083, 8179, 16383, 32767] Qc8 ?_
 refine Dv [] Vm (Dv [] Vm (Dv [] Vm (Dv [] Vm (Dv [] Vm (Dv [] Vm (Dv [0] (Vi Qb2 0) ?_))))))
 have hb65 := ok1 (i := Qft.toNat) ho57 rng
 refine Dv [0] (QdG sh3 0) (Dv [] Vm (Dv [] Vm (Dv [0] (Vi Qb2 0) ?_)))
 have hb66 := ok1 (i := i_6.toNat) ho57 rng
 refine Dv [0] (QdG sh3 0) (Dv [0] (Vi Qb2 0) (Dx0 [0] [0] [0] [fun G => os (vl Qaf Qag data) (((data.set a.toNat (data.getD pivot.toNat 0)).set pivot.toNat (data.getD a.toNat 0)).set i_6.toNat (((data.set a.toNat (data.getD pivot.toNat 0)).set pivot.toNat (data.getD a.toNat 0)).getD Qft.toNat 0))] (fun G => xS (SoI [0] sh3)) (Dv [1] (Vi Qb2 0) (Dx0 [1] [1] [0] [fun G => os (vl Qaf Qag data) ((((data.set a.toNat (data.getD pivot.toNat 0)).set pivot.toNat (data.getD a.toNat 0)).set i_6.toNat (((data.set a.toNat (data.getD pivot.toNat 0)).set pivot.toNat (data.getD a.toNat 0)).getD Qft.toNat 0)).set Qft.toNat (((data.set a.toNat (data.getD pivot.toNat 0)).set pivot.toNat (data.getD a.toNat 0)).getD i_6.toNat 0))] (fun G => xS (SoI [0] sh3)) ?_))))
 refine Dn ⟨by kernel_rfl, fun G => ?_⟩
 refine Jw2 [(0, vl Qaf Qag data), (1, vi a), (10, vi i_6), (11, vi Qft)] [] [os (vl Qaf Qag data) ((((data.set a.toNat (data.getD pivot.toNat 0)).set pivot.toNat (data.getD a.toNat 0)).set i_6.toNat (((data.set a.toNat (data.getD pivot.toNat 0)).set pivot.toNat (data.getD a.toNat 0)).getD Qft.toNat 0)).set Qft.toNat (((data.set a.toNat (data.getD pivot.toNat 0)).set pivot.toNat (data.getD a.toNat 0)).getD i_6.toNat 0))] ?_
 refine KS ?_
 refine Oq Vm (Oq Qbd (Oq Va (KS ?_)))
 refine Oq Vm (Oq QdE (Oq Va (KS ?_)))
 have hterm75 : Qa4 a b ((b - a).toNat + 2) ((((data.set a.toNat (data.getD pivot.toNat 0)).set pivot.toNat (data.getD a.toNat 0)).set i_6.toNat (((data.set a.toNat (data.getD pivot.toNat 0)).set pivot.toNat (data.getD a.toNat 0)).getD Qft.toNat 0)).set Qft.toNat (((data.set a.toNat (data.getD pivot.toNat 0)).set pivot.toNat (data.getD a.toNat 0)).getD i_6.toNat 0)) (i_6 + 1) (Qft - 1) ≠ LR.oof := (Qr4 _ _ _ _ aM1 aM1 aM1 aM1 aM1)
 refine Kl (γ := Nat × List Int × Int × Int) (fun (r67, QbF, Qlo, Qio) => ⟨[(0, vl Qaf Qag data), (1, vi a), (10, vi Qlo), (11, vi Qio)], [os (vl Qaf Qag data) QbF], Qa4 a b r67 QbF Qlo Qio = Qa4 a b ((b - a).toNat + 2) ((((data.set a.toNat (data.getD pivot.toNat 0)).set pivot.toNat (data.getD a.toNat 0)).set i_6.toNat (((data.set a.toNat (data.getD pivot.toNat 0)).set pivot.toNat (data.getD a.toNat 0)).getD Qft.toNat 0)).set Qft.toNat (((data.set a.toNat (data.getD pivot.toNat 0)).set pivot.toNat (data.getD a.toNat 0)).getD i_6.toNat 0)) (i_6 + 1) (Qft - 1) /\ (-9223372036854775808 <= Qlo /\ Qlo <= 9223372036854775807) /\ (-9223372036854775808 <= Qio /\ Qio <= 9223372036854775807) /\ (a + 1 <= Qlo /\ Qlo <= Qio + 2 /\ Qio <= b - 1 /\ a <= Qio), r67⟩) (((b - a).toNat + 2), ((((data.set a.toNat (data.getD pivot.toNat 0)).set pivot.toNat (data.getD a.toNat 0)).set i_6.toNat (((data.set a.toNat (data.getD pivot.toNat 0)).set pivot.toNat (data.getD a.toNat 0)).getD Qft.toNat 0)).set Qft.toNat (((data.set a.toNat (data.getD pivot.toNat 0)).set pivot.toNat (data.getD a.toNat 0)).getD i_6.toNat 0)), (i_6 + 1), (Qft - 1)) [0] ⟨rfl, aM1, aM1, iv0⟩ ?_
 rintro ⟨r67, QbF, Qlo, Qio⟩ ⟨hM71, hk72, hk73, hv74⟩
 refine QbB fun _ _ hL hA => ?_; dsimp only at hL hA; subst hL hA
 refine Fb 8 0 fun _ => Fo 0 fun ho77 => Fl 0 fun hn78 => ?_
 rcases r67 with _ | r67
 ·exact absurd (hM71.symm.trans rfl) hterm75
 refine KS ?_
 have hterm84 : QaG a QbF Qio ((b - a).toNat + 2) Qlo ≠ LR.oof := (Qsc aM1 aM1)
 refine KjD (γ := Int) (fun QfO => ⟨[(0, vl Qaf Qag data), (1, vi a), (10, vi QfO), (11, vi Qio)], [os (vl Qaf Qag data) QbF], QaG a QbF Qio ((b - a).toNat + 2) Qlo = .brk QfO /\ (-9223372036854775808 <= QfO /\ QfO <= 9223372036854775807) /\ (Qlo <= QfO /\ (QfO <= Qio + 1 \/ QfO = Qlo)), 0⟩) ?_ ?_
 ·skip
  refine Kl (γ := Nat × Int) (fun (r79, QfO) => ⟨[(0, vl Qaf Qag data), (1, vi a), (10, vi QfO), (11, vi Qio)], [os (vl Qaf Qag data) QbF], QaG a QbF Qio r79 QfO = QaG a QbF Qio ((b - a).toNat + 2) Qlo /\ (-9223372036854775808 <= QfO /\ QfO <= 9223372036854775807) /\ (Qlo <= QfO /\ (QfO <= Qio + 1 \/ QfO = Qlo)), r79⟩) (((b - a).toNat + 2), Qlo) [0] ⟨rfl, aM1, iv0⟩ ?_
  rintro ⟨r79, QfO⟩ ⟨hM81, hk82, hv83⟩
  refine QbB fun _ _ hL hA => ?_; dsimp only at hL hA; subst hL hA
  refine Fb 8 0 fun _ => Fo 0 fun ho87 => Fl 0 fun hn88 => ?_
  rcases r79 with _ | r79
  ·exact absurd (hM81.symm.trans rfl) hterm84
  refine KS ?_
  refine Qav [0, 0, 3, 7, 15, 15, 63, 127, 15, 15, 783, 1807, 4095, 8191] Qc8 ?_
  refine Dv [] Vm (Dv [] Vm (Dv [] Qh8 ?_))
  refine QbI (decide (QfO <= Qio)) ?_ ?_
  ·intro h89
   have g90 := dt h89
   refine Db h89 [] Vm (Dv [] Vm (Dv [] Vm (Dv [0] (Vi Qb2 0) ?_)))
   have hb91 := ok1 (i := QfO.toNat) ho87 rng
   refine Dv [0] (QdG sh3 0) (Dv [] Vm (Dv [] Vm (Dv [0] (Vi Qb2 0) ?_)))
   have hb92 := ok1 (i := a.toNat) ho87 rng
   refine Dv [0] (QdG sh3 0) ?_
   refine QaO (Qar (QbF.getD QfO.toNat 0) (QbF.getD a.toNat 0)) fun rv93 hg94 => ?_
   refine Dx [] [] [0] (fun G => vb rv93) [fun G => SP.fact (True)] (fun G => xC [] Qjf (Qjb ((QbF.getD QfO.toNat 0)) ((QbF.getD a.toNat 0)) pre pre rv93 hg94)) (Dv [] Vpt ?_)
   refine Dn ⟨by kernel_rfl, fun G => ?_⟩
   refine Jw2 [(0, vl Qaf Qag data), (1, vi a), (10, vi QfO), (11, vi Qio), (112, vb rv93)] [0] [SP.fact (True)] ?_
   refine Jk [0] ?_
   refine Kc ?_ ?_
   ·intro h95
    refine KS ?_
    refine Oq Vm (Oq Qbd (Oq Va (KS ?_)))
    exact Kg (r79, (QfO + 1)) [0] ⟨(q3 hM81 (by simp only [QaG, h59, h89, h95, hR11, hR36, hg94, cs4])), aM1, iv1⟩
   intro h95
   refine Ke ?_
   have hR98 := q2 hM81 (.brk QfO) (by simp only [QaG, h59, h89, h95, hR11, hR36, hg94, cs4])
   exact Kg QfO [0] ⟨(by assumption), (by first | assumption | omega), (by first | assumption | omega)⟩
  intro h89
  have g99 := df h89
  refine Db h89 [] Vm (Ds (Ds (Ds (Ds (Ds (Ds (Ds (Ds (Ds ?_)))))))))
  refine Dv [] Vpf ?_
  refine Dn ⟨by kernel_rfl, fun G => ?_⟩
  refine Jw2 [(0, vl Qaf Qag data), (1, vi a), (10, vi QfO), (11, vi Qio), (112, vb false)] [0] [] ?_
  refine Kf ?_
  refine Ke ?_
  have hR100 := q2 hM81 (.brk QfO) (by simp only [QaG, h59, h89, hR11, hR36, cs4])
  exact Kg QfO [0] ⟨(by assumption), (by first | assumption | omega), (by first | assumption | omega)⟩
 rintro QfO ⟨hR85, hk82, hv83⟩
 refine QbB fun _ _ hL hA => ?_; dsimp only at hL hA; subst hL hA
 refine Fb 8 0 fun _ => Fo 0 fun ho102 => Fl 0 fun hn103 => ?_
 refine KS ?_
 have hterm109 : QaF a QbF QfO ((b - a).toNat + 2) Qio ≠ LR.oof := (QrJ aM1 aM1)
 refine KjD (γ := Int) (fun Qdq => ⟨[(0, vl Qaf Qag data), (1, vi a), (10, vi QfO), (11, vi Qdq)], [os (vl Qaf Qag data) QbF], QaF a QbF QfO ((b - a).toNat + 2) Qio = .brk Qdq /\ (-9223372036854775808 <= Qdq /\ Qdq <= 9223372036854775807) /\ (Qdq <= Qio /\ (QfO - 1 <= Qdq \/ Qdq = Qio)), 0⟩) ?_ ?_
 ·skip
  refine Kl (γ := Nat × Int) (fun (r104, Qdq) => ⟨[(0, vl Qaf Qag data), (1, vi a), (10, vi QfO), (11, vi Qdq)], [os (vl Qaf Qag data) QbF], QaF a QbF QfO r104 Qdq = QaF a QbF QfO ((b - a).toNat + 2) Qio /\ (-9223372036854775808 <= Qdq /\ Qdq <= 9223372036854775807) /\ (Qdq <= Qio /\ (QfO - 1 <= Qdq \/ Qdq = Qio)), r104⟩) (((b - a).toNat + 2), Qio) [0] ⟨rfl, aM1, iv0⟩ ?_
  rintro ⟨r104, Qdq⟩ ⟨hM106, hk107, hv108⟩
  refine QbB fun _ _ hL hA => ?_; dsimp only at hL hA; subst hL hA
  refine Fb 8 0 fun _ => Fo 0 fun ho112 => Fl 0 fun hn113 => ?_
  rcases r104 with _ | r104
  ·exact absurd (hM106.symm.trans rfl) hterm109
  refine KS ?_
  refine Qav [0, 0, 3, 7, 15, 15, 63, 127, 15, 15, 783, 1807, 4095, 8191, 16383] Qc8 ?_
  refine Dv [] Vm (Dv [] Vm (Dv [] Qh8 ?_))
  refine QbI (decide (QfO <= Qdq)) ?_ ?_
  ·intro h114
   have g115 := dt h114
   refine Db h114 [] Vm (Dv [] Vm (Dv [] Vm (Dv [0] (Vi Qb2 0) ?_)))
   have hb116 := ok1 (i := Qdq.toNat) ho112 rng
   refine Dv [0] (QdG sh3 0) (Dv [] Vm (Dv [] Vm (Dv [0] (Vi Qb2 0) ?_)))
   have hb117 := ok1 (i := a.toNat) ho112 rng
   refine Dv [0] (QdG sh3 0) ?_
   refine QaO (Qar (QbF.getD Qdq.toNat 0) (QbF.getD a.toNat 0)) fun rv118 hg119 => ?_
   refine Dx [] [] [0] (fun G => vb rv118) [fun G => SP.fact (True)] (fun G => xC [] Qjf (Qjb ((QbF.getD Qdq.toNat 0)) ((QbF.getD a.toNat 0)) pre pre rv118 hg119)) (Dv [] QeP (Dv [] Vpt ?_))
   refine Dn ⟨by kernel_rfl, fun G => ?_⟩
   refine Jw2 [(0, vl Qaf Qag data), (1, vi a), (10, vi QfO), (11, vi Qdq), (129, vb (!rv118))] [0] [SP.fact (True)] ?_
   refine Jk [0] ?_
   refine Kc ?_ ?_
   ·intro h120
    have h122 := not_true h120
    refine KS ?_
    refine Oq Vm (Oq QdE (Oq Va (KS ?_)))
    exact Kg (r104, (Qdq - 1)) [0] ⟨(q3 hM106 (by simp only [QaF, h59, h114, h120, h122, hR11, hR36, hR85, hg119, cs4])), aM1, iv1⟩
   intro h120
   have h125 := not_false h120
   refine Ke ?_
   have hR127 := q2 hM106 (.brk Qdq) (by simp only [QaF, h59, h114, h120, h125, hR11, hR36, hR85, hg119, cs4])
   exact Kg Qdq [0] ⟨(by assumption), (by first | assumption | omega), (by first | assumption | omega)⟩
  intro h114
  have g128 := df h114
  refine Db h114 [] Vm (Ds (Ds (Ds (Ds (Ds (Ds (Ds (Ds (Ds ?_)))))))))
  refine Ds (Dv [] Vpf ?_)
  refine Dn ⟨by kernel_rfl, fun G => ?_⟩
  refine Jw2 [(0, vl Qaf Qag data), (1, vi a), (10, vi QfO), (11, vi Qdq), (129, vb false)] [0] [] ?_
  refine Kf ?_
  refine Ke ?_
  have hR129 := q2 hM106 (.brk Qdq) (by simp only [QaF, h59, h114, hR11, hR36, hR85, cs4])
  exact Kg Qdq [0] ⟨(by assumption), (by first | assumption | omega), (by first | assumption | omega)⟩
 rintro Qdq ⟨hR110, hk107, hv108⟩
 refine QbB fun _ _ hL hA => ?_; dsimp only at hL hA; subst hL hA
 refine Fb 8 0 fun _ => Fo 0 fun ho131 => Fl 0 fun hn132 => ?_
 refine KS ?_
 refine Oq Vm (Oq Vm (Oq QhM (KS ?_)))
 refine Kc ?_ ?_
 ·intro h133
  have g134 := dt h133
  refine Ke ?_
  have hR135 := q2 hM71 (.brk (QbF, Qdq)) (by simp only [Qa4, h59, h133, hR11, hR36, hR85, hR110, cs4])
  refine KS ?_
  refine Qav [0, 0, 0, 0, 0, 0, 48, 112, 0, 0, 768, 1792, 4083, 8179, 16383, 32767] Qc8 ?_
  refine Dv [] Vm (Dv [] Vm (Dv [] Vm (Dv [] Vm (Dv [] Vm (Dv [] Vm (Dv [0] (Vi Qb2 0) ?_))))))
  have hb136 := ok1 (i := a.toNat) ho131 rng
  refine Dv [0] (QdG sh3 0) (Dv [] Vm (Dv [] Vm (Dv [0] (Vi Qb2 0) ?_)))
  have hb137 := ok1 (i := Qdq.toNat) ho131 rng
  refine Dv [0] (QdG sh3 0) (Dv [0] (Vi Qb2 0) (Dx0 [0] [0] [0] [fun G => os (vl Qaf Qag data) (QbF.set Qdq.toNat (QbF.getD a.toNat 0))] (fun G => xS (SoI [0] sh3)) (Dv [1] (Vi Qb2 0) (Dx0 [1] [1] [0] [fun G => os (vl Qaf Qag data) ((QbF.set Qdq.toNat (QbF.getD a.toNat 0)).set a.toNat (QbF.getD Qdq.toNat 0))] (fun G => xS (SoI [0] sh3)) ?_))))
  refine Dn ⟨by kernel_rfl, fun G => ?_⟩
  refine Jw2 [(0, vl Qaf Qag data), (11, vi Qdq)] [] [os (vl Qaf Qag data) ((QbF.set Qdq.toNat (QbF.getD a.toNat 0)).set a.toNat (QbF.getD Qdq.toNat 0))] ?_
  refine KS ?_
  refine Oq Vm (Oq Va (Oq Va (KS ?_)))
  refine Fl 0 fun hn138 => ?_
  have hq := q4 hrr (Qdq, false, ((QbF.set Qdq.toNat (QbF.getD a.toNat 0)).set a.toNat (QbF.getD Qdq.toNat 0))) (by simp only [Qae, h59, h133, hR11, hR36, hR85, hR110, hR135, cs4]); subst hq
  exact Kr () rfl (.tmp rfl (.tmp rfl .nil)) [0] en
 intro h133
 have g139 := df h133
 refine KS ?_
 refine Qav [0, 0, 0, 0, 0, 0, 48, 112, 0, 0, 768, 1792, 4083, 8179, 16383, 32767] Qc8 ?_
 refine Dv [] Vm (Dv [] Vm (Dv [] Vm (Dv [] Vm (Dv [] Vm (Dv [] Vm (Dv [0] (Vi Qb2 0) ?_))))))
 have hb140 := ok1 (i := Qdq.toNat) ho131 rng
 refine Dv [0] (QdG sh3 0) (Dv [] Vm (Dv [] Vm (Dv [0] (Vi Qb2 0) ?_)))
 have hb141 := ok1 (i := QfO.toNat) ho131 rng
 refine Dv [0] (QdG sh3 0) (Dv [0] (Vi Qb2 0) (Dx0 [0] [0] [0] [fun G => os (vl Qaf Qag data) (QbF.set QfO.toNat (QbF.getD Qdq.toNat 0))] (fun G => xS (SoI [0] sh3)) (Dv [1] (Vi Qb2 0) (Dx0 [1] [1] [0] [fun G => os (vl Qaf Qag data) ((QbF.set QfO.toNat (QbF.getD Qdq.toNat 0)).set Qdq.toNat (QbF.getD QfO.toNat 0))] (fun G => xS (SoI [0] sh3)) ?_))))
 refine Dn ⟨by kernel_rfl, fun G => ?_⟩
 refine Jw2 [(0, vl Qaf Qag data), (1, vi a), (10, vi QfO), (11, vi Qdq)] [] [os (vl Qaf Qag data) ((QbF.set QfO.toNat (QbF.getD Qdq.toNat 0)).set Qdq.toNat (QbF.getD QfO.toNat 0))] ?_
 refine KS ?_
 refine Oq Vm (Oq Qbd (Oq Va (KS ?_)))
 refine Oq Vm (Oq QdE (Oq Va (KS ?_)))
 exact Kg (r67, ((QbF.set QfO.toNat (QbF.getD Qdq.toNat 0)).set Qdq.toNat (QbF.getD QfO.toNat 0)), (QfO + 1), (Qdq - 1)) [0] ⟨(q3 hM71 (by simp only [Qa4, h59, h133, hR11, hR36, hR85, hR110, cs4])), aM1, aM1, iv1⟩
theorem QsX (rc : List Int -> Int -> Int -> Int -> List Int) (ms : Nat) (data : List Int) (Qaf : Option Addr) (Qag : Nat) (a : Int) (b : Int) (limit : Int) (hms : (b - a).toNat = ms) (hrp : ∀ (d : List Int) (a b lim : Int), 0 <= a -> a <= b -> b <= (d.length : Int) -> d.length <= 65535 -> (b - a).toNat < ms -> (rc d a b lim).length = d.length) (hrc : ∀ (data : List Int) (Qaf : Option Addr) (Qag : Nat) (a : Int) (b : Int) (limit : Int) (QhN : Qac a) (Qh4 : Qac b) (Qhp : Qac limit) (ha0 : 0 <= a /\ a <= b /\ b <= (data.length : Int) /\ data.length <= 65535) (hl0 : 0 <= limit /\ limit <= 1000) (hfu : (b - a).toNat < ms) (rr : List Int) (hrr : rc data a b limit = rr), FT Tryd.prog 54 #[vl Qaf Qag data, vi a, vi b, vi limit] [O Qaf Qag data] (fun g : Unit => (rr.length = data.length)) (fun g => .tuple #[]) (fun g => [os (vl Qaf Qag data) rr])) (QhN : Qac a) (Qh4 : Qac b) (Qhp : Qac limit) (ha0 : 0 <= a /\ a <= b /\ b <= (data.length : Int) /\ data.length <= 65535) (hl0 : 0 <= limit /\ limit <= 1000) (rr : List Int) (hrr : QbJ rc data a b limit = rr) : FT Tryd.prog 54 #[vl Qaf Qag data, vi a, vi b, vi limit] [O Qaf Qag data] (fun g : Unit => (rr.length = data.length)) (fun g => .tuple #[]) (fun g => [os (vl Qaf Qag data) rr]) := by
 refine FTi Tryd.func54 fun w0 M0 F0 => ?_
 unfold Qac at QhN Qh4 Qhp
 refine Fb 8 0 fun _ => Fo 0 fun ho2 => KS ?_
 refine Oq Va (KS ?_)
 refine Oq Va (KS ?_)
 have hterm15 : Qaa rc ((b - a).toNat + 1) data a b limit true true ≠ LR.oof := (QtK hrp aM1 aM1 aM1 aM1 aM1 aM1 aM1)
 refine Kl (γ := Nat × List Int × Int × Int × Int × Bool × Bool) (fun (r3, Qan, a_5, b_6, Qaw, Qbh, QaR) => ⟨[(0, vl Qaf Qag data), (1, vi a_5), (2, vi b_6), (3, vi Qaw), (8, vb Qbh), (9, vb QaR)], [os (vl Qaf Qag data) Qan], Qaa rc r3 Qan a_5 b_6 Qaw Qbh QaR = Qaa rc ((b - a).toNat + 1) data a b limit true true /\ (-9223372036854775808 <= a_5 /\ a_5 <= 9223372036854775807) /\ (-9223372036854775808 <= b_6 /\ b_6 <= 9223372036854775807) /\ (-9223372036854775808 <= Qaw /\ Qaw <= 9223372036854775807) /\ (a <= a_5 /\ a_5 <= b_6 /\ b_6 <= b /\ 0 <= Qaw /\ Qaw <= 1000), r3⟩) (((b - a).toNat + 1), data, a, b, limit, true, true) [0] ⟨rfl, aM1, aM1, aM1, iv0⟩ ?_
 rintro ⟨r3, Qan, a_5, b_6, Qaw, Qbh, QaR⟩ ⟨hM10, hk11, hk12, hk13, hv14⟩
 refine QbB fun _ _ hL hA => ?_; dsimp only at hL hA; subst hL hA
 refine Fb 8 0 fun _ => Fo 0 fun ho17 => Fl 0 fun hn18 => ?_
 rcases r3 with _ | r3
 ·exact absurd (hM10.symm.trans rfl) hterm15
 refine KS ?_
 refine Oq Vm (Oq Vm (Oq QdE (Oq Va (KS ?_))))
 refine Oq Vm (Oq Qh8 (KS ?_))
 refine Kc ?_ ?_
 ·intro h19
  have g20 := dt h19
  refine KS ?_
  refine Oq Vm (Oq Vm (Oq Vm ?_))
  refine Fl 0 fun hn21 => ?_; (try unfold vl); rw [<- hn21]
  refine QaO (Qbu Qan a_5 b_6) fun rv22 hg23 => ?_
  have hc24 := Qwn Qan Qaf Qag a_5 b_6 pre pre pre rv22 hg23
  refine Oc [0] Qv2 hc24 ?_
  rintro - he25
  have hn26 : Qan.length = data.length := by omega
  try unfold vl
  try rw [hn26]
  refine Fb 8 0 fun _ => Fo 0 fun ho28 => KS ?_
  refine Fl 0 fun hn29 => ?_
  have hR30 := q2 hM10 (.ret rv22) (by simp only [Qaa, h19, hg23, cs4])
  have hq := q4 hrr rv22 (by simp only [QbJ, h19, hg23, hR30, cs4]); subst hq
  exact Kr () rfl .nil [0] en
 intro h19
 have g31 := df h19
 refine KS ?_
 refine Oq Vm (Oq Qby (KS ?_))
 refine Kc ?_ ?_
 ·intro h32
  have g33 := eq_of_beq h32
  refine KS ?_
  refine Oq Vm (Oq Vm (Oq Vm ?_))
  refine Fl 0 fun hn34 => ?_; (try unfold vl); rw [<- hn34]
  refine QaO (QbM Qan a_5 b_6) fun rv35 hg36 => ?_
  have hc37 := QvZ Qan Qaf Qag a_5 b_6 pre pre pre rv35 hg36
  refine Oc [0] QuX hc37 ?_
  rintro - he38
  have hn39 : Qan.length = data.length := by omega
  try unfold vl
  try rw [hn39]
  refine Fb 8 0 fun _ => Fo 0 fun ho41 => KS ?_
  refine Fl 0 fun hn42 => ?_
  have hR43 := q2 hM10 (.ret rv35) (by simp only [Qaa, h19, h32, hg36, cs4])
  have hq := q4 hrr rv35 (by simp only [QbJ, h19, h32, hg36, hR43, cs4]); subst hq
  exact Kr () rfl .nil [0] en
 intro h32
 have g44 := ne_of_beq_false h32
 refine KS ?_
 refine Oq Vm (Oq QeP (KS ?_))
 refine Kc ?_ ?_
 ·intro h45
  have h47 := not_true h45
  refine KS ?_
  refine Oq Vm (Oq Vm (Oq Vm ?_))
  refine Fl 0 fun hn49 => ?_; (try unfold vl); rw [<- hn49]
  refine QaO (QaJ Qan a_5 b_6) fun rv50 hg51 => ?_
  have hc52 := Qv4 Qan Qaf Qag a_5 b_6 pre pre pre rv50 hg51
  refine Oc [0] Qv9 hc52 ?_
  rintro - he53
  have hn54 : Qan.length = data.length := by omega
  try unfold vl
  try rw [hn54]
  refine Fb 8 0 fun _ => Fo 0 fun ho56 => KS ?_
  refine Oq Vm (Oq QdE (Oq Va (KS ?_)))
  refine Oq Vm (Oq Vm (Oq Vm ?_))
  refine Fl 0 fun hn57 => ?_; (try unfold vl); rw [<- hn57]
  refine QaO (Qal rv50 a_5 b_6) fun rv58 hg59 => ?_
  refine Oc [0] QuK (QgB (A := _) (fun _ _ h => by cases h) (QjQ (Ent.take (is := [0]) rfl) (Qui rv50 Qaf Qag a_5 b_6 pre pre pre rv58 hg59))) ?_ (ht := rfl)
  rintro - ⟨he60, he61, he62⟩
  unfold Qac at he60 he61
  have hn63 : rv50.length = data.length := by omega
  try unfold vl
  try rw [hn63]
  refine Oq Vm (Oq Vx (Oq Vx (Oq Va (Oq Va (KS ?_)))))
  refine Oq Vm (Oq Qby (KS ?_))
  refine Kc ?_ ?_
  ·intro h64
   have g65 := eq_of_beq h64
   refine KS ?_
   refine Oq Vm (Oq Vm (Oq Vm ?_))
   refine Fl 0 fun hn66 => ?_; (try unfold vl); rw [<- hn66]
   refine QaO (Qa3 rv50 a_5 b_6) fun rv67 hg68 => ?_
   have hc69 := Qt5 rv50 Qaf Qag a_5 b_6 pre pre pre rv67 hg68
   refine Oc [0] Qt2 hc69 ?_
   rintro - he70
   have hn71 : rv50.length = data.length := by omega
   try unfold vl
   try rw [hn71]
   refine Fb 8 0 fun _ => Fo 0 fun ho73 => KS ?_
   refine Oq Vm (Oq QdE (Oq Vm (Oq Vm (Oq QdE (Oq QdE (Oq Va (KS ?_)))))))
   refine Oq Va (KS ?_)
   refine Oq Vm (Oq Vm ?_)
   refine Js 62 ?_ ?_
   ·intro h74
    exact absurd h74 (by first | (simp [h45]; done) | (simp only [bne, h45]; decide) | (simp only [bne, h45, Bool.not_true, Bool.not_false]; decide) | (exfalso; omega) | (intro hq; simp only [bne, hq, Bool.not_false, Bool.not_true, reduceCtorEq] at h45))
   intro h74
   refine Osk (Oq Vpf (Oq Vm (Osk (Osk (Oq Vpf (KS ?_))))))
   refine Kf (KS ?_)
   refine Qav [0, 1, 3, 7, 7, 23, 63, 127, 7, 7, 775, 1799, 4095, 8191, 16383] Qc8 ?_
   refine Dv [] Vm (Dv [] QhM ?_)
   refine QbI (decide (0 < a_5)) ?_ ?_
   ·intro h76
    have g77 := dt h76
    refine Db h76 [] Vm (Dv [] Vm (Dv [] Vm (Dv [] QdE (Dv [0] (Vi Qb2 0) ?_))))
    have hb78 := ok1 (i := ((a_5 - 1) : Int).toNat) ho73 rng
    refine Dv [0] (QdG sh3 0) (Dv [] Vm (Dv [] Vm (Dv [0] (Vi Qb2 0) ?_)))
    have hb79 := ok1 (i := (((b_6 - 1) - (rv58.1 - a_5)) : Int).toNat) ho73 rng
    refine Dv [0] (QdG sh3 0) ?_
    refine QaO (Qar (rv67.getD ((a_5 - 1) : Int).toNat 0) (rv67.getD (((b_6 - 1) - (rv58.1 - a_5)) : Int).toNat 0)) fun rv80 hg81 => ?_
    refine Dx [] [] [0] (fun G => vb rv80) [fun G => SP.fact (True)] (fun G => xC [] Qjf (Qjb ((rv67.getD ((a_5 - 1) : Int).toNat 0)) ((rv67.getD (((b_6 - 1) - (rv58.1 - a_5)) : Int).toNat 0)) pre pre rv80 hg81)) (Dv [] QeP (Dv [] Vpt ?_))
    refine Dn ⟨by kernel_rfl, fun G => ?_⟩
    refine Jw2 [(0, vl Qaf Qag data), (1, vi a_5), (2, vi b_6), (8, vb Qbh), (9, vb QaR), (10, vi (b_6 - a_5)), (3, vi (Qaw - 1)), (11, vi ((b_6 - 1) - (rv58.1 - a_5))), (87, vb (!rv80))] [0] [SP.fact (True)] ?_
    refine Jk [0] ?_
    refine Kc ?_ ?_
    ·intro h82
     have h84 := not_true h82
     refine KS ?_
     refine Oq Vm (Oq Vm (Oq Vm (Oq Vm ?_)))
     refine Fl 0 fun hn86 => ?_; (try unfold vl); rw [<- hn86]
     refine QaO (Qao rv67 a_5 b_6 ((b_6 - 1) - (rv58.1 - a_5))) fun rv87 hg88 => ?_
     have hc89 := Qpp rv67 Qaf Qag a_5 b_6 (((b_6 - 1) - (rv58.1 - a_5))) pre pre pre pre rv87 hg88
     refine Oc [0] Qqo hc89 ?_
     rintro - ⟨he90, he91, he92⟩
     unfold Qac at he90
     have hn93 : rv67.length = data.length := by omega
     try unfold vl
     try rw [hn93]
     refine Fb 8 0 fun _ => Fo 0 fun ho95 => ?_
     refine Oq Va (KS ?_)
     refine Oq Vm (Oq Va (KS ?_))
     refine Ke ?_
     exact Kg (r3, rv87.2, rv87.1, b_6, (Qaw - 1), Qbh, QaR) [0] ⟨(q3 hM10 (by simp only [Qaa, h19, h32, h45, h47, h64, h74, h76, h82, h84, hg51, hg59, hg68, hg81, hg88, cs4])), aM1, aM1, aM1, iv1⟩
    intro h82
    have h97 := not_false h82
    refine KS ?_
    refine Oq Vm (Oq Vm (Oq Vm (Oq Vm ?_)))
    refine Fl 0 fun hn99 => ?_; (try unfold vl); rw [<- hn99]
    refine QaO (Qae rv67 a_5 b_6 ((b_6 - 1) - (rv58.1 - a_5))) fun rv100 hg101 => ?_
    have hc102 := Qlq rv67 Qaf Qag a_5 b_6 (((b_6 - 1) - (rv58.1 - a_5))) pre pre pre pre rv100 hg101
    refine Oc [0] QlC hc102 ?_
    rintro - ⟨he103, he104, he105⟩
    unfold Qac at he103
    have hn106 : rv67.length = data.length := by omega
    try unfold vl
    try rw [hn106]
    refine Fb 8 0 fun _ => Fo 0 fun ho108 => ?_
    refine Oq Vm (Oq Vx (Oq Vx (Oq Va (Oq Va (KS ?_)))))
    refine Oq Vm (Oq Va (KS ?_))
    refine Oq Vm (Oq Vm (Oq QdE (Oq Vm (Oq Vm (Oq QdE (Oq Va (Oq Va (KS ?_))))))))
    refine Oq Vm (Oq QjW (Oq Va (KS ?_)))
    refine Oq Vm (Oq Vm (Oq Qcu (KS ?_)))
    refine Kc ?_ ?_
    ·intro h109
     have g110 := dt h109
     refine KS ?_
     refine Oq Vm (Oq Vm (Oq QeU (Oq Va (KS ?_))))
     refine Oq Vm (Oq Vm (Oq Vm (Oq Vm ?_)))
     refine Fl 0 fun hn111 => ?_; (try unfold vl); rw [<- hn111]
     refine QaO (rc rv100.2.2 a_5 rv100.1 (Qaw - 1)) fun rv112 hg113 => ?_
     have hc114 := hrc rv100.2.2 Qaf Qag a_5 rv100.1 ((Qaw - 1)) pre pre pre pre pre pre rv112 hg113
     refine Oc [0] QhO hc114 ?_
     rintro - he115
     have hn116 : rv100.2.2.length = data.length := by omega
     try unfold vl
     try rw [hn116]
     refine Fb 8 0 fun _ => Fo 0 fun ho118 => KS ?_
     refine Oq Vm (Oq Qbd (Oq Va (KS ?_)))
     exact Kg (r3, rv112, (rv100.1 + 1), b_6, (Qaw - 1), decide (((b_6 - a_5) / 8) <= (rv100.1 - a_5)), rv100.2.1) [0] ⟨(q3 hM10 (by simp only [Qaa, h19, h32, h45, h47, h64, h74, h76, h82, h97, h109, hg51, hg59, hg68, hg81, hg101, hg113, cs4])), aM1, aM1, aM1, iv1⟩
    intro h109
    have g119 := df h109
    refine KS ?_
    refine Oq Vm (Oq Vm (Oq QeU (Oq Va (KS ?_))))
    refine Oq Vm (Oq Vm (Oq Qbd (Oq Vm (Oq Vm ?_))))
    refine Fl 0 fun hn120 => ?_; (try unfold vl); rw [<- hn120]
    refine QaO (rc rv100.2.2 (rv100.1 + 1) b_6 (Qaw - 1)) fun rv121 hg122 => ?_
    have hc123 := hrc rv100.2.2 Qaf Qag ((rv100.1 + 1)) b_6 ((Qaw - 1)) pre pre pre pre pre pre rv121 hg122
    refine Oc [0] QhO hc123 ?_
    rintro - he124
    have hn125 : rv100.2.2.length = data.length := by omega
    try unfold vl
    try rw [hn125]
    refine Fb 8 0 fun _ => Fo 0 fun ho127 => KS ?_
    refine Oq Vm (Oq Va (KS ?_))
    exact Kg (r3, rv121, a_5, rv100.1, (Qaw - 1), decide (((b_6 - a_5) / 8) <= (b_6 - rv100.1)), rv100.2.1) [0] ⟨(q3 hM10 (by simp only [Qaa, h19, h32, h45, h47, h64, h74, h76, h82, h97, h109, hg51, hg59, hg68, hg81, hg101, hg122, cs4])), aM1, aM1, aM1, iv1⟩
   intro h76
   have g128 := df h76
   refine Db h76 [] Vm (Ds (Ds (Ds (Ds (Ds (Ds (Ds (Ds (Ds ?_)))))))))
   refine Ds (Ds (Dv [] Vpf ?_))
   refine Dn ⟨by kernel_rfl, fun G => ?_⟩
   refine Jw2 [(0, vl Qaf Qag data), (1, vi a_5), (2, vi b_6), (8, vb Qbh), (9, vb QaR), (10, vi (b_6 - a_5)), (3, vi (Qaw - 1)), (11, vi ((b_6 - 1) - (rv58.1 - a_5))), (87, vb false)] [0] [] ?_
   refine Kf (KS ?_)
   refine Oq Vm (Oq Vm (Oq Vm (Oq Vm ?_)))
   refine Fl 0 fun hn129 => ?_; (try unfold vl); rw [<- hn129]
   refine QaO (Qae rv67 a_5 b_6 ((b_6 - 1) - (rv58.1 - a_5))) fun rv130 hg131 => ?_
   have hc132 := Qlq rv67 Qaf Qag a_5 b_6 (((b_6 - 1) - (rv58.1 - a_5))) pre pre pre pre rv130 hg131
   refine Oc [0] QlC hc132 ?_
   rintro - ⟨he133, he134, he135⟩
   unfold Qac at he133
   have hn136 : rv67.length = data.length := by omega
   try unfold vl
   try rw [hn136]
   refine Fb 8 0 fun _ => Fo 0 fun ho138 => ?_
   refine Oq Vm (Oq Vx (Oq Vx (Oq Va (Oq Va (KS ?_)))))
   refine Oq Vm (Oq Va (KS ?_))
   refine Oq Vm (Oq Vm (Oq QdE (Oq Vm (Oq Vm (Oq QdE (Oq Va (Oq Va (KS ?_))))))))
   refine Oq Vm (Oq QjW (Oq Va (KS ?_)))
   refine Oq Vm (Oq Vm (Oq Qcu (KS ?_)))
   refine Kc ?_ ?_
   ·intro h139
    have g140 := dt h139
    refine KS ?_
    refine Oq Vm (Oq Vm (Oq QeU (Oq Va (KS ?_))))
    refine Oq Vm (Oq Vm (Oq Vm (Oq Vm ?_)))
    refine Fl 0 fun hn141 => ?_; (try unfold vl); rw [<- hn141]
    refine QaO (rc rv130.2.2 a_5 rv130.1 (Qaw - 1)) fun rv142 hg143 => ?_
    have hc144 := hrc rv130.2.2 Qaf Qag a_5 rv130.1 ((Qaw - 1)) pre pre pre pre pre pre rv142 hg143
    refine Oc [0] QhO hc144 ?_
    rintro - he145
    have hn146 : rv130.2.2.length = data.length := by omega
    try unfold vl
    try rw [hn146]
    refine Fb 8 0 fun _ => Fo 0 fun ho148 => KS ?_
    refine Oq Vm (Oq Qbd (Oq Va (KS ?_)))
    exact Kg (r3, rv142, (rv130.1 + 1), b_6, (Qaw - 1), decide (((b_6 - a_5) / 8) <= (rv130.1 - a_5)), rv130.2.1) [0] ⟨(q3 hM10 (by simp only [Qaa, h19, h32, h45, h47, h64, h74, h76, h139, hg51, hg59, hg68, hg131, hg143, cs4])), aM1, aM1, aM1, iv1⟩
   intro h139
   have g149 := df h139
   refine KS ?_
   refine Oq Vm (Oq Vm (Oq QeU (Oq Va (KS ?_))))
   refine Oq Vm (Oq Vm (Oq Qbd (Oq Vm (Oq Vm ?_))))
   refine Fl 0 fun hn150 => ?_; (try unfold vl); rw [<- hn150]
   refine QaO (rc rv130.2.2 (rv130.1 + 1) b_6 (Qaw - 1)) fun rv151 hg152 => ?_
   have hc153 := hrc rv130.2.2 Qaf Qag ((rv130.1 + 1)) b_6 ((Qaw - 1)) pre pre pre pre pre pre rv151 hg152
   refine Oc [0] QhO hc153 ?_
   rintro - he154
   have hn155 : rv130.2.2.length = data.length := by omega
   try unfold vl
   try rw [hn155]
   refine Fb 8 0 fun _ => Fo 0 fun ho157 => KS ?_
   refine Oq Vm (Oq Va (KS ?_))
   exact Kg (r3, rv151, a_5, rv130.1, (Qaw - 1), decide (((b_6 - a_5) / 8) <= (b_6 - rv130.1)), rv130.2.1) [0] ⟨(q3 hM10 (by simp only [Qaa, h19, h32, h45, h47, h64, h74, h76, h139, hg51, hg59, hg68, hg131, hg152, cs4])), aM1, aM1, aM1, iv1⟩
  intro h64
  have g158 := ne_of_beq_false h64
  refine KS ?_
  refine Oq Vm (Oq Vm ?_)
  refine Js 62 ?_ ?_
  ·intro h159
   exact absurd h159 (by first | (simp [h45]; done) | (simp only [bne, h45]; decide) | (simp only [bne, h45, Bool.not_true, Bool.not_false]; decide) | (exfalso; omega) | (intro hq; simp only [bne, hq, Bool.not_false, Bool.not_true, reduceCtorEq] at h45))
  intro h159
  refine Osk (Oq Vpf (Oq Vm (Osk (Osk (Oq Vpf (KS ?_))))))
  refine Kf (KS ?_)
  refine Qav [0, 1, 3, 7, 7, 23, 63, 127, 7, 7, 775, 1799, 4095, 8191, 16383] Qc8 ?_
  refine Dv [] Vm (Dv [] QhM ?_)
  refine QbI (decide (0 < a_5)) ?_ ?_
  ·intro h161
   have g162 := dt h161
   refine Db h161 [] Vm (Dv [] Vm (Dv [] Vm (Dv [] QdE (Dv [0] (Vi Qb2 0) ?_))))
   have hb163 := ok1 (i := ((a_5 - 1) : Int).toNat) ho56 rng
   refine Dv [0] (QdG sh3 0) (Dv [] Vm (Dv [] Vm (Dv [0] (Vi Qb2 0) ?_)))
   have hb164 := ok1 (i := rv58.1.toNat) ho56 rng
   refine Dv [0] (QdG sh3 0) ?_
   refine QaO (Qar (rv50.getD ((a_5 - 1) : Int).toNat 0) (rv50.getD rv58.1.toNat 0)) fun rv165 hg166 => ?_
   refine Dx [] [] [0] (fun G => vb rv165) [fun G => SP.fact (True)] (fun G => xC [] Qjf (Qjb ((rv50.getD ((a_5 - 1) : Int).toNat 0)) ((rv50.getD rv58.1.toNat 0)) pre pre rv165 hg166)) (Dv [] QeP (Dv [] Vpt ?_))
   refine Dn ⟨by kernel_rfl, fun G => ?_⟩
   refine Jw2 [(0, vl Qaf Qag data), (1, vi a_5), (2, vi b_6), (8, vb Qbh), (9, vb QaR), (10, vi (b_6 - a_5)), (3, vi (Qaw - 1)), (11, vi rv58.1), (87, vb (!rv165))] [0] [SP.fact (True)] ?_
   refine Jk [0] ?_
   refine Kc ?_ ?_
   ·intro h167
    have h169 := not_true h167
    refine KS ?_
    refine Oq Vm (Oq Vm (Oq Vm (Oq Vm ?_)))
    refine Fl 0 fun hn171 => ?_; (try unfold vl); rw [<- hn171]
    refine QaO (Qao rv50 a_5 b_6 rv58.1) fun rv172 hg173 => ?_
    have hc174 := Qpp rv50 Qaf Qag a_5 b_6 rv58.1 pre pre pre pre rv172 hg173
    refine Oc [0] Qqo hc174 ?_
    rintro - ⟨he175, he176, he177⟩
    unfold Qac at he175
    have hn178 : rv50.length = data.length := by omega
    try unfold vl
    try rw [hn178]
    refine Fb 8 0 fun _ => Fo 0 fun ho180 => ?_
    refine Oq Va (KS ?_)
    refine Oq Vm (Oq Va (KS ?_))
    refine Ke ?_
    exact Kg (r3, rv172.2, rv172.1, b_6, (Qaw - 1), Qbh, QaR) [0] ⟨(q3 hM10 (by simp only [Qaa, h19, h32, h45, h47, h64, h159, h161, h167, h169, hg51, hg59, hg166, hg173, cs4])), aM1, aM1, aM1, iv1⟩
   intro h167
   have h182 := not_false h167
   refine KS ?_
   refine Oq Vm (Oq Vm (Oq Vm (Oq Vm ?_)))
   refine Fl 0 fun hn184 => ?_; (try unfold vl); rw [<- hn184]
   refine QaO (Qae rv50 a_5 b_6 rv58.1) fun rv185 hg186 => ?_
   have hc187 := Qlq rv50 Qaf Qag a_5 b_6 rv58.1 pre pre pre pre rv185 hg186
   refine Oc [0] QlC hc187 ?_
   rintro - ⟨he188, he189, he190⟩
   unfold Qac at he188
   have hn191 : rv50.length = data.length := by omega
   try unfold vl
   try rw [hn191]
   refine Fb 8 0 fun _ => Fo 0 fun ho193 => ?_
   refine Oq Vm (Oq Vx (Oq Vx (Oq Va (Oq Va (KS ?_)))))
   refine Oq Vm (Oq Va (KS ?_))
   refine Oq Vm (Oq Vm (Oq QdE (Oq Vm (Oq Vm (Oq QdE (Oq Va (Oq Va (KS ?_))))))))
   refine Oq Vm (Oq QjW (Oq Va (KS ?_)))
   refine Oq Vm (Oq Vm (Oq Qcu (KS ?_)))
   refine Kc ?_ ?_
   ·intro h194
    have g195 := dt h194
    refine KS ?_
    refine Oq Vm (Oq Vm (Oq QeU (Oq Va (KS ?_))))
    refine Oq Vm (Oq Vm (Oq Vm (Oq Vm ?_)))
    refine Fl 0 fun hn196 => ?_; (try unfold vl); rw [<- hn196]
    refine QaO (rc rv185.2.2 a_5 rv185.1 (Qaw - 1)) fun rv197 hg198 => ?_
    have hc199 := hrc rv185.2.2 Qaf Qag a_5 rv185.1 ((Qaw - 1)) pre pre pre pre pre pre rv197 hg198
    refine Oc [0] QhO hc199 ?_
    rintro - he200
    have hn201 : rv185.2.2.length = data.length := by omega
    try unfold vl
    try rw [hn201]
    refine Fb 8 0 fun _ => Fo 0 fun ho203 => KS ?_
    refine Oq Vm (Oq Qbd (Oq Va (KS ?_)))
    exact Kg (r3, rv197, (rv185.1 + 1), b_6, (Qaw - 1), decide (((b_6 - a_5) / 8) <= (rv185.1 - a_5)), rv185.2.1) [0] ⟨(q3 hM10 (by simp only [Qaa, h19, h32, h45, h47, h64, h159, h161, h167, h182, h194, hg51, hg59, hg166, hg186, hg198, cs4])), aM1, aM1, aM1, iv1⟩
   intro h194
   have g204 := df h194
   refine KS ?_
   refine Oq Vm (Oq Vm (Oq QeU (Oq Va (KS ?_))))
   refine Oq Vm (Oq Vm (Oq Qbd (Oq Vm (Oq Vm ?_))))
   refine Fl 0 fun hn205 => ?_; (try unfold vl); rw [<- hn205]
   refine QaO (rc rv185.2.2 (rv185.1 + 1) b_6 (Qaw - 1)) fun rv206 hg207 => ?_
   have hc208 := hrc rv185.2.2 Qaf Qag ((rv185.1 + 1)) b_6 ((Qaw - 1)) pre pre pre pre pre pre rv206 hg207
   refine Oc [0] QhO hc208 ?_
   rintro - he209
   have hn210 : rv185.2.2.length = data.length := by omega
   try unfold vl
   try rw [hn210]
   refine Fb 8 0 fun _ => Fo 0 fun ho212 => KS ?_
   refine Oq Vm (Oq Va (KS ?_))
   exact Kg (r3, rv206, a_5, rv185.1, (Qaw - 1), decide (((b_6 - a_5) / 8) <= (b_6 - rv185.1)), rv185.2.1) [0] ⟨(q3 hM10 (by simp only [Qaa, h19, h32, h45, h47, h64, h159, h161, h167, h182, h194, hg51, hg59, hg166, hg186, hg207, cs4])), aM1, aM1, aM1, iv1⟩
  intro h161
  have g213 := df h161
  refine Db h161 [] Vm (Ds (Ds (Ds (Ds (Ds (Ds (Ds (Ds (Ds ?_)))))))))
  refine Ds (Ds (Dv [] Vpf ?_))
  refine Dn ⟨by kernel_rfl, fun G => ?_⟩
  refine Jw2 [(0, vl Qaf Qag data), (1, vi a_5), (2, vi b_6), (8, vb Qbh), (9, vb QaR), (10, vi (b_6 - a_5)), (3, vi (Qaw - 1)), (11, vi rv58.1), (87, vb false)] [0] [] ?_
  refine Kf (KS ?_)
  refine Oq Vm (Oq Vm (Oq Vm (Oq Vm ?_)))
  refine Fl 0 fun hn214 => ?_; (try unfold vl); rw [<- hn214]
  refine QaO (Qae rv50 a_5 b_6 rv58.1) fun rv215 hg216 => ?_
  have hc217 := Qlq rv50 Qaf Qag a_5 b_6 rv58.1 pre pre pre pre rv215 hg216
  refine Oc [0] QlC hc217 ?_
  rintro - ⟨he218, he219, he220⟩
  unfold Qac at he218
  have hn221 : rv50.length = data.length := by omega
  try unfold vl
  try rw [hn221]
  refine Fb 8 0 fun _ => Fo 0 fun ho223 => ?_
  refine Oq Vm (Oq Vx (Oq Vx (Oq Va (Oq Va (KS ?_)))))
  refine Oq Vm (Oq Va (KS ?_))
  refine Oq Vm (Oq Vm (Oq QdE (Oq Vm (Oq Vm (Oq QdE (Oq Va (Oq Va (KS ?_))))))))
  refine Oq Vm (Oq QjW (Oq Va (KS ?_)))
  refine Oq Vm (Oq Vm (Oq Qcu (KS ?_)))
  refine Kc ?_ ?_
  ·intro h224
   have g225 := dt h224
   refine KS ?_
   refine Oq Vm (Oq Vm (Oq QeU (Oq Va (KS ?_))))
   refine Oq Vm (Oq Vm (Oq Vm (Oq Vm ?_)))
   refine Fl 0 fun hn226 => ?_; (try unfold vl); rw [<- hn226]
   refine QaO (rc rv215.2.2 a_5 rv215.1 (Qaw - 1)) fun rv227 hg228 => ?_
   have hc229 := hrc rv215.2.2 Qaf Qag a_5 rv215.1 ((Qaw - 1)) pre pre pre pre pre pre rv227 hg228
   refine Oc [0] QhO hc229 ?_
   rintro - he230
   have hn231 : rv215.2.2.length = data.length := by omega
   try unfold vl
   try rw [hn231]
   refine Fb 8 0 fun _ => Fo 0 fun ho233 => KS ?_
   refine Oq Vm (Oq Qbd (Oq Va (KS ?_)))
   exact Kg (r3, rv227, (rv215.1 + 1), b_6, (Qaw - 1), decide (((b_6 - a_5) / 8) <= (rv215.1 - a_5)), rv215.2.1) [0] ⟨(q3 hM10 (by simp only [Qaa, h19, h32, h45, h47, h64, h159, h161, h224, hg51, hg59, hg216, hg228, cs4])), aM1, aM1, aM1, iv1⟩
  intro h224
  have g234 := df h224
  refine KS ?_
  refine Oq Vm (Oq Vm (Oq QeU (Oq Va (KS ?_))))
  refine Oq Vm (Oq Vm (Oq Qbd (Oq Vm (Oq Vm ?_))))
  refine Fl 0 fun hn235 => ?_; (try unfold vl); rw [<- hn235]
  refine QaO (rc rv215.2.2 (rv215.1 + 1) b_6 (Qaw - 1)) fun rv236 hg237 => ?_
  have hc238 := hrc rv215.2.2 Qaf Qag ((rv215.1 + 1)) b_6 ((Qaw - 1)) pre pre pre pre pre pre rv236 hg237
  refine Oc [0] QhO hc238 ?_
  rintro - he239
  have hn240 : rv215.2.2.length = data.length := by omega
  try unfold vl
  try rw [hn240]
  refine Fb 8 0 fun _ => Fo 0 fun ho242 => KS ?_
  refine Oq Vm (Oq Va (KS ?_))
  exact Kg (r3, rv236, a_5, rv215.1, (Qaw - 1), decide (((b_6 - a_5) / 8) <= (b_6 - rv215.1)), rv215.2.1) [0] ⟨(q3 hM10 (by simp only [Qaa, h19, h32, h45, h47, h64, h159, h161, h224, hg51, hg59, hg216, hg237, cs4])), aM1, aM1, aM1, iv1⟩
 intro h45
 have h244 := not_false h45
 refine KS ?_
 refine Oq Vm (Oq Vm (Oq Vm ?_))
 refine Fl 0 fun hn246 => ?_; (try unfold vl); rw [<- hn246]
 refine QaO (Qal Qan a_5 b_6) fun rv247 hg248 => ?_
 refine Oc [0] QuK (QgB (A := _) (fun _ _ h => by cases h) (QjQ (Ent.take (is := [0]) rfl) (Qui Qan Qaf Qag a_5 b_6 pre pre pre rv247 hg248))) ?_ (ht := rfl)
 rintro - ⟨he249, he250, he251⟩
 unfold Qac at he249 he250
 have hn252 : Qan.length = data.length := by omega
 try unfold vl
 try rw [hn252]
 refine Oq Vm (Oq Vx (Oq Vx (Oq Va (Oq Va (KS ?_)))))
 refine Oq Vm (Oq Qby (KS ?_))
 refine Kc ?_ ?_
 ·intro h253
  have g254 := eq_of_beq h253
  refine KS ?_
  refine Oq Vm (Oq Vm (Oq Vm ?_))
  refine Fl 0 fun hn255 => ?_; (try unfold vl); rw [<- hn255]
  refine QaO (Qa3 Qan a_5 b_6) fun rv256 hg257 => ?_
  have hc258 := Qt5 Qan Qaf Qag a_5 b_6 pre pre pre rv256 hg257
  refine Oc [0] Qt2 hc258 ?_
  rintro - he259
  have hn260 : Qan.length = data.length := by omega
  try unfold vl
  try rw [hn260]
  refine Fb 8 0 fun _ => Fo 0 fun ho262 => KS ?_
  refine Oq Vm (Oq QdE (Oq Vm (Oq Vm (Oq QdE (Oq QdE (Oq Va (KS ?_)))))))
  refine Oq Va (KS ?_)
  refine Oq Vm (Oq Vm ?_)
  refine Js 62 ?_ ?_
  ·intro h263
   refine Oq Vm (Oq Vpt (Oq Vm ?_))
   refine Js 65 ?_ ?_
   ·intro h265
    refine Oq Vm (Oq Qby (Oq Vpt (KS ?_)))
    refine Kt (KS ?_)
    refine Oq Vm (Oq Vm (Oq Vm ?_))
    refine Fl 0 fun hn267 => ?_; (try unfold vl); rw [<- hn267]
    refine QaO (Qam rv256 a_5 b_6) fun rv268 hg269 => ?_
    have hc270 := Quq rv256 Qaf Qag a_5 b_6 pre pre pre rv268 hg269
    refine Oc [0] Qus hc270 ?_
    rintro - he271
    have hn272 : rv256.length = data.length := by omega
    try unfold vl
    try rw [hn272]
    refine Fb 8 0 fun _ => Fo 0 fun ho274 => KS ?_
    refine Kc ?_ ?_
    ·intro h275
     refine Fl 0 fun hn277 => ?_
     have hR278 := q2 hM10 (.ret rv268.2) (by simp only [Qaa, h19, h32, h45, h244, h253, h263, h265, h275, hg248, hg257, hg269, cs4])
     have hq := q4 hrr rv268.2 (by simp only [QbJ, h19, h32, h45, h244, h253, h263, h265, h275, hg248, hg257, hg269, hR278, cs4]); subst hq
     exact Kr () rfl .nil [0] en
    intro h275
    refine KS ?_
    refine Qav [0, 1, 3, 7, 7, 23, 63, 127, 7, 7, 775, 1799, 4095, 8191, 16383] Qc8 ?_
    refine Dv [] Vm (Dv [] QhM ?_)
    refine QbI (decide (0 < a_5)) ?_ ?_
    ·intro h280
     have g281 := dt h280
     refine Db h280 [] Vm (Dv [] Vm (Dv [] Vm (Dv [] QdE (Dv [0] (Vi Qb2 0) ?_))))
     have hb282 := ok1 (i := ((a_5 - 1) : Int).toNat) ho274 rng
     refine Dv [0] (QdG sh3 0) (Dv [] Vm (Dv [] Vm (Dv [0] (Vi Qb2 0) ?_)))
     have hb283 := ok1 (i := (((b_6 - 1) - (rv247.1 - a_5)) : Int).toNat) ho274 rng
     refine Dv [0] (QdG sh3 0) ?_
     refine QaO (Qar (rv268.2.getD ((a_5 - 1) : Int).toNat 0) (rv268.2.getD (((b_6 - 1) - (rv247.1 - a_5)) : Int).toNat 0)) fun rv284 hg285 => ?_
     refine Dx [] [] [0] (fun G => vb rv284) [fun G => SP.fact (True)] (fun G => xC [] Qjf (Qjb ((rv268.2.getD ((a_5 - 1) : Int).toNat 0)) ((rv268.2.getD (((b_6 - 1) - (rv247.1 - a_5)) : Int).toNat 0)) pre pre rv284 hg285)) (Dv [] QeP (Dv [] Vpt ?_))
     refine Dn ⟨by kernel_rfl, fun G => ?_⟩
     refine Jw2 [(0, vl Qaf Qag data), (1, vi a_5), (2, vi b_6), (3, vi Qaw), (8, vb Qbh), (9, vb QaR), (10, vi (b_6 - a_5)), (11, vi ((b_6 - 1) - (rv247.1 - a_5))), (87, vb (!rv284))] [0] [SP.fact (True)] ?_
     refine Jk [0] ?_
     refine Kc ?_ ?_
     ·intro h286
      have h288 := not_true h286
      refine KS ?_
      refine Oq Vm (Oq Vm (Oq Vm (Oq Vm ?_)))
      refine Fl 0 fun hn290 => ?_; (try unfold vl); rw [<- hn290]
      refine QaO (Qao rv268.2 a_5 b_6 ((b_6 - 1) - (rv247.1 - a_5))) fun rv291 hg292 => ?_
      have hc293 := Qpp rv268.2 Qaf Qag a_5 b_6 (((b_6 - 1) - (rv247.1 - a_5))) pre pre pre pre rv291 hg292
      refine Oc [0] Qqo hc293 ?_
      rintro - ⟨he294, he295, he296⟩
      unfold Qac at he294
      have hn297 : rv268.2.length = data.length := by omega
      try unfold vl
      try rw [hn297]
      refine Fb 8 0 fun _ => Fo 0 fun ho299 => ?_
      refine Oq Va (KS ?_)
      refine Oq Vm (Oq Va (KS ?_))
      refine Ke ?_
      exact Kg (r3, rv291.2, rv291.1, b_6, Qaw, Qbh, QaR) [0] ⟨(q3 hM10 (by simp only [Qaa, h19, h32, h45, h244, h253, h263, h265, h275, h280, h286, h288, hg248, hg257, hg269, hg285, hg292, cs4])), aM1, aM1, aM1, iv1⟩
     intro h286
     have h301 := not_false h286
     refine KS ?_
     refine Oq Vm (Oq Vm (Oq Vm (Oq Vm ?_)))
     refine Fl 0 fun hn303 => ?_; (try unfold vl); rw [<- hn303]
     refine QaO (Qae rv268.2 a_5 b_6 ((b_6 - 1) - (rv247.1 - a_5))) fun rv304 hg305 => ?_
     have hc306 := Qlq rv268.2 Qaf Qag a_5 b_6 (((b_6 - 1) - (rv247.1 - a_5))) pre pre pre pre rv304 hg305
     refine Oc [0] QlC hc306 ?_
     rintro - ⟨he307, he308, he309⟩
     unfold Qac at he307
     have hn310 : rv268.2.length = data.length := by omega
     try unfold vl
     try rw [hn310]
     refine Fb 8 0 fun _ => Fo 0 fun ho312 => ?_
     refine Oq Vm (Oq Vx (Oq Vx (Oq Va (Oq Va (KS ?_)))))
     refine Oq Vm (Oq Va (KS ?_))
     refine Oq Vm (Oq Vm (Oq QdE (Oq Vm (Oq Vm (Oq QdE (Oq Va (Oq Va (KS ?_))))))))
     refine Oq Vm (Oq QjW (Oq Va (KS ?_)))
     refine Oq Vm (Oq Vm (Oq Qcu (KS ?_)))
     refine Kc ?_ ?_
     ·intro h313
      have g314 := dt h313
      refine KS ?_
      refine Oq Vm (Oq Vm (Oq QeU (Oq Va (KS ?_))))
      refine Oq Vm (Oq Vm (Oq Vm (Oq Vm ?_)))
      refine Fl 0 fun hn315 => ?_; (try unfold vl); rw [<- hn315]
      refine QaO (rc rv304.2.2 a_5 rv304.1 Qaw) fun rv316 hg317 => ?_
      have hc318 := hrc rv304.2.2 Qaf Qag a_5 rv304.1 Qaw pre pre pre pre pre pre rv316 hg317
      refine Oc [0] QhO hc318 ?_
      rintro - he319
      have hn320 : rv304.2.2.length = data.length := by omega
      try unfold vl
      try rw [hn320]
      refine Fb 8 0 fun _ => Fo 0 fun ho322 => KS ?_
      refine Oq Vm (Oq Qbd (Oq Va (KS ?_)))
      exact Kg (r3, rv316, (rv304.1 + 1), b_6, Qaw, decide (((b_6 - a_5) / 8) <= (rv304.1 - a_5)), rv304.2.1) [0] ⟨(q3 hM10 (by simp only [Qaa, h19, h32, h45, h244, h253, h263, h265, h275, h280, h286, h301, h313, hg248, hg257, hg269, hg285, hg305, hg317, cs4])), aM1, aM1, aM1, iv1⟩
     intro h313
     have g323 := df h313
     refine KS ?_
     refine Oq Vm (Oq Vm (Oq QeU (Oq Va (KS ?_))))
     refine Oq Vm (Oq Vm (Oq Qbd (Oq Vm (Oq Vm ?_))))
     refine Fl 0 fun hn324 => ?_; (try unfold vl); rw [<- hn324]
     refine QaO (rc rv304.2.2 (rv304.1 + 1) b_6 Qaw) fun rv325 hg326 => ?_
     have hc327 := hrc rv304.2.2 Qaf Qag ((rv304.1 + 1)) b_6 Qaw pre pre pre pre pre pre rv325 hg326
     refine Oc [0] QhO hc327 ?_
     rintro - he328
     have hn329 : rv304.2.2.length = data.length := by omega
     try unfold vl
     try rw [hn329]
     refine Fb 8 0 fun _ => Fo 0 fun ho331 => KS ?_
     refine Oq Vm (Oq Va (KS ?_))
     exact Kg (r3, rv325, a_5, rv304.1, Qaw, decide (((b_6 - a_5) / 8) <= (b_6 - rv304.1)), rv304.2.1) [0] ⟨(q3 hM10 (by simp only [Qaa, h19, h32, h45, h244, h253, h263, h265, h275, h280, h286, h301, h313, hg248, hg257, hg269, hg285, hg305, hg326, cs4])), aM1, aM1, aM1, iv1⟩
    intro h280
    have g332 := df h280
    refine Db h280 [] Vm (Ds (Ds (Ds (Ds (Ds (Ds (Ds (Ds (Ds ?_)))))))))
    refine Ds (Ds (Dv [] Vpf ?_))
    refine Dn ⟨by kernel_rfl, fun G => ?_⟩
    refine Jw2 [(0, vl Qaf Qag data), (1, vi a_5), (2, vi b_6), (3, vi Qaw), (8, vb Qbh), (9, vb QaR), (10, vi (b_6 - a_5)), (11, vi ((b_6 - 1) - (rv247.1 - a_5))), (87, vb false)] [0] [] ?_
    refine Kf (KS ?_)
    refine Oq Vm (Oq Vm (Oq Vm (Oq Vm ?_)))
    refine Fl 0 fun hn333 => ?_; (try unfold vl); rw [<- hn333]
    refine QaO (Qae rv268.2 a_5 b_6 ((b_6 - 1) - (rv247.1 - a_5))) fun rv334 hg335 => ?_
    have hc336 := Qlq rv268.2 Qaf Qag a_5 b_6 (((b_6 - 1) - (rv247.1 - a_5))) pre pre pre pre rv334 hg335
    refine Oc [0] QlC hc336 ?_
    rintro - ⟨he337, he338, he339⟩
    unfold Qac at he337
    have hn340 : rv268.2.length = data.length := by omega
    try unfold vl
    try rw [hn340]
    refine Fb 8 0 fun _ => Fo 0 fun ho342 => ?_
    refine Oq Vm (Oq Vx (Oq Vx (Oq Va (Oq Va (KS ?_)))))
    refine Oq Vm (Oq Va (KS ?_))
    refine Oq Vm (Oq Vm (Oq QdE (Oq Vm (Oq Vm (Oq QdE (Oq Va (Oq Va (KS ?_))))))))
    refine Oq Vm (Oq QjW (Oq Va (KS ?_)))
    refine Oq Vm (Oq Vm (Oq Qcu (KS ?_)))
    refine Kc ?_ ?_
    ·intro h343
     have g344 := dt h343
     refine KS ?_
     refine Oq Vm (Oq Vm (Oq QeU (Oq Va (KS ?_))))
     refine Oq Vm (Oq Vm (Oq Vm (Oq Vm ?_)))
     refine Fl 0 fun hn345 => ?_; (try unfold vl); rw [<- hn345]
     refine QaO (rc rv334.2.2 a_5 rv334.1 Qaw) fun rv346 hg347 => ?_
     have hc348 := hrc rv334.2.2 Qaf Qag a_5 rv334.1 Qaw pre pre pre pre pre pre rv346 hg347
     refine Oc [0] QhO hc348 ?_
     rintro - he349
     have hn350 : rv334.2.2.length = data.length := by omega
     try unfold vl
     try rw [hn350]
     refine Fb 8 0 fun _ => Fo 0 fun ho352 => KS ?_
     refine Oq Vm (Oq Qbd (Oq Va (KS ?_)))
     exact Kg (r3, rv346, (rv334.1 + 1), b_6, Qaw, decide (((b_6 - a_5) / 8) <= (rv334.1 - a_5)), rv334.2.1) [0] ⟨(q3 hM10 (by simp only [Qaa, h19, h32, h45, h244, h253, h263, h265, h275, h280, h343, hg248, hg257, hg269, hg335, hg347, cs4])), aM1, aM1, aM1, iv1⟩
    intro h343
    have g353 := df h343
    refine KS ?_
    refine Oq Vm (Oq Vm (Oq QeU (Oq Va (KS ?_))))
    refine Oq Vm (Oq Vm (Oq Qbd (Oq Vm (Oq Vm ?_))))
    refine Fl 0 fun hn354 => ?_; (try unfold vl); rw [<- hn354]
    refine QaO (rc rv334.2.2 (rv334.1 + 1) b_6 Qaw) fun rv355 hg356 => ?_
    have hc357 := hrc rv334.2.2 Qaf Qag ((rv334.1 + 1)) b_6 Qaw pre pre pre pre pre pre rv355 hg356
    refine Oc [0] QhO hc357 ?_
    rintro - he358
    have hn359 : rv334.2.2.length = data.length := by omega
    try unfold vl
    try rw [hn359]
    refine Fb 8 0 fun _ => Fo 0 fun ho361 => KS ?_
    refine Oq Vm (Oq Va (KS ?_))
    exact Kg (r3, rv355, a_5, rv334.1, Qaw, decide (((b_6 - a_5) / 8) <= (b_6 - rv334.1)), rv334.2.1) [0] ⟨(q3 hM10 (by simp only [Qaa, h19, h32, h45, h244, h253, h263, h265, h275, h280, h343, hg248, hg257, hg269, hg335, hg356, cs4])), aM1, aM1, aM1, iv1⟩
   intro h265
   refine Osk (Osk (Oq Vpf (KS ?_)))
   refine Kf (KS ?_)
   refine Qav [0, 1, 3, 7, 7, 23, 63, 127, 7, 7, 775, 1799, 4095, 8191, 16383] Qc8 ?_
   refine Dv [] Vm (Dv [] QhM ?_)
   refine QbI (decide (0 < a_5)) ?_ ?_
   ·intro h363
    have g364 := dt h363
    refine Db h363 [] Vm (Dv [] Vm (Dv [] Vm (Dv [] QdE (Dv [0] (Vi Qb2 0) ?_))))
    have hb365 := ok1 (i := ((a_5 - 1) : Int).toNat) ho262 rng
    refine Dv [0] (QdG sh3 0) (Dv [] Vm (Dv [] Vm (Dv [0] (Vi Qb2 0) ?_)))
    have hb366 := ok1 (i := (((b_6 - 1) - (rv247.1 - a_5)) : Int).toNat) ho262 rng
    refine Dv [0] (QdG sh3 0) ?_
    refine QaO (Qar (rv256.getD ((a_5 - 1) : Int).toNat 0) (rv256.getD (((b_6 - 1) - (rv247.1 - a_5)) : Int).toNat 0)) fun rv367 hg368 => ?_
    refine Dx [] [] [0] (fun G => vb rv367) [fun G => SP.fact (True)] (fun G => xC [] Qjf (Qjb ((rv256.getD ((a_5 - 1) : Int).toNat 0)) ((rv256.getD (((b_6 - 1) - (rv247.1 - a_5)) : Int).toNat 0)) pre pre rv367 hg368)) (Dv [] QeP (Dv [] Vpt ?_))
    refine Dn ⟨by kernel_rfl, fun G => ?_⟩
    refine Jw2 [(0, vl Qaf Qag data), (1, vi a_5), (2, vi b_6), (3, vi Qaw), (8, vb Qbh), (9, vb QaR), (10, vi (b_6 - a_5)), (11, vi ((b_6 - 1) - (rv247.1 - a_5))), (87, vb (!rv367))] [0] [SP.fact (True)] ?_
    refine Jk [0] ?_
    refine Kc ?_ ?_
    ·intro h369
     have h371 := not_true h369
     refine KS ?_
     refine Oq Vm (Oq Vm (Oq Vm (Oq Vm ?_)))
     refine Fl 0 fun hn373 => ?_; (try unfold vl); rw [<- hn373]
     refine QaO (Qao rv256 a_5 b_6 ((b_6 - 1) - (rv247.1 - a_5))) fun rv374 hg375 => ?_
     have hc376 := Qpp rv256 Qaf Qag a_5 b_6 (((b_6 - 1) - (rv247.1 - a_5))) pre pre pre pre rv374 hg375
     refine Oc [0] Qqo hc376 ?_
     rintro - ⟨he377, he378, he379⟩
     unfold Qac at he377
     have hn380 : rv256.length = data.length := by omega
     try unfold vl
     try rw [hn380]
     refine Fb 8 0 fun _ => Fo 0 fun ho382 => ?_
     refine Oq Va (KS ?_)
     refine Oq Vm (Oq Va (KS ?_))
     refine Ke ?_
     exact Kg (r3, rv374.2, rv374.1, b_6, Qaw, Qbh, QaR) [0] ⟨(q3 hM10 (by simp only [Qaa, h19, h32, h45, h244, h253, h263, h265, h363, h369, h371, hg248, hg257, hg368, hg375, cs4])), aM1, aM1, aM1, iv1⟩
    intro h369
    have h384 := not_false h369
    refine KS ?_
    refine Oq Vm (Oq Vm (Oq Vm (Oq Vm ?_)))
    refine Fl 0 fun hn386 => ?_; (try unfold vl); rw [<- hn386]
    refine QaO (Qae rv256 a_5 b_6 ((b_6 - 1) - (rv247.1 - a_5))) fun rv387 hg388 => ?_
    have hc389 := Qlq rv256 Qaf Qag a_5 b_6 (((b_6 - 1) - (rv247.1 - a_5))) pre pre pre pre rv387 hg388
    refine Oc [0] QlC hc389 ?_
    rintro - ⟨he390, he391, he392⟩
    unfold Qac at he390
    have hn393 : rv256.length = data.length := by omega
    try unfold vl
    try rw [hn393]
    refine Fb 8 0 fun _ => Fo 0 fun ho395 => ?_
    refine Oq Vm (Oq Vx (Oq Vx (Oq Va (Oq Va (KS ?_)))))
    refine Oq Vm (Oq Va (KS ?_))
    refine Oq Vm (Oq Vm (Oq QdE (Oq Vm (Oq Vm (Oq QdE (Oq Va (Oq Va (KS ?_))))))))
    refine Oq Vm (Oq QjW (Oq Va (KS ?_)))
    refine Oq Vm (Oq Vm (Oq Qcu (KS ?_)))
    refine Kc ?_ ?_
    ·intro h396
     have g397 := dt h396
     refine KS ?_
     refine Oq Vm (Oq Vm (Oq QeU (Oq Va (KS ?_))))
     refine Oq Vm (Oq Vm (Oq Vm (Oq Vm ?_)))
     refine Fl 0 fun hn398 => ?_; (try unfold vl); rw [<- hn398]
     refine QaO (rc rv387.2.2 a_5 rv387.1 Qaw) fun rv399 hg400 => ?_
     have hc401 := hrc rv387.2.2 Qaf Qag a_5 rv387.1 Qaw pre pre pre pre pre pre rv399 hg400
     refine Oc [0] QhO hc401 ?_
     rintro - he402
     have hn403 : rv387.2.2.length = data.length := by omega
     try unfold vl
     try rw [hn403]
     refine Fb 8 0 fun _ => Fo 0 fun ho405 => KS ?_
     refine Oq Vm (Oq Qbd (Oq Va (KS ?_)))
     exact Kg (r3, rv399, (rv387.1 + 1), b_6, Qaw, decide (((b_6 - a_5) / 8) <= (rv387.1 - a_5)), rv387.2.1) [0] ⟨(q3 hM10 (by simp only [Qaa, h19, h32, h45, h244, h253, h263, h265, h363, h369, h384, h396, hg248, hg257, hg368, hg388, hg400, cs4])), aM1, aM1, aM1, iv1⟩
    intro h396
    have g406 := df h396
    refine KS ?_
    refine Oq Vm (Oq Vm (Oq QeU (Oq Va (KS ?_))))
    refine Oq Vm (Oq Vm (Oq Qbd (Oq Vm (Oq Vm ?_))))
    refine Fl 0 fun hn407 => ?_; (try unfold vl); rw [<- hn407]
    refine QaO (rc rv387.2.2 (rv387.1 + 1) b_6 Qaw) fun rv408 hg409 => ?_
    have hc410 := hrc rv387.2.2 Qaf Qag ((rv387.1 + 1)) b_6 Qaw pre pre pre pre pre pre rv408 hg409
    refine Oc [0] QhO hc410 ?_
    rintro - he411
    have hn412 : rv387.2.2.length = data.length := by omega
    try unfold vl
    try rw [hn412]
    refine Fb 8 0 fun _ => Fo 0 fun ho414 => KS ?_
    refine Oq Vm (Oq Va (KS ?_))
    exact Kg (r3, rv408, a_5, rv387.1, Qaw, decide (((b_6 - a_5) / 8) <= (b_6 - rv387.1)), rv387.2.1) [0] ⟨(q3 hM10 (by simp only [Qaa, h19, h32, h45, h244, h253, h263, h265, h363, h369, h384, h396, hg248, hg257, hg368, hg388, hg409, cs4])), aM1, aM1, aM1, iv1⟩
   intro h363
   have g415 := df h363
   refine Db h363 [] Vm (Ds (Ds (Ds (Ds (Ds (Ds (Ds (Ds (Ds ?_)))))))))
   refine Ds (Ds (Dv [] Vpf ?_))
   refine Dn ⟨by kernel_rfl, fun G => ?_⟩
   refine Jw2 [(0, vl Qaf Qag data), (1, vi a_5), (2, vi b_6), (3, vi Qaw), (8, vb Qbh), (9, vb QaR), (10, vi (b_6 - a_5)), (11, vi ((b_6 - 1) - (rv247.1 - a_5))), (87, vb false)] [0] [] ?_
   refine Kf (KS ?_)
   refine Oq Vm (Oq Vm (Oq Vm (Oq Vm ?_)))
   refine Fl 0 fun hn416 => ?_; (try unfold vl); rw [<- hn416]
   refine QaO (Qae rv256 a_5 b_6 ((b_6 - 1) - (rv247.1 - a_5))) fun rv417 hg418 => ?_
   have hc419 := Qlq rv256 Qaf Qag a_5 b_6 (((b_6 - 1) - (rv247.1 - a_5))) pre pre pre pre rv417 hg418
   refine Oc [0] QlC hc419 ?_
   rintro - ⟨he420, he421, he422⟩
   unfold Qac at he420
   have hn423 : rv256.length = data.length := by omega
   try unfold vl
   try rw [hn423]
   refine Fb 8 0 fun _ => Fo 0 fun ho425 => ?_
   refine Oq Vm (Oq Vx (Oq Vx (Oq Va (Oq Va (KS ?_)))))
   refine Oq Vm (Oq Va (KS ?_))
   refine Oq Vm (Oq Vm (Oq QdE (Oq Vm (Oq Vm (Oq QdE (Oq Va (Oq Va (KS ?_))))))))
   refine Oq Vm (Oq QjW (Oq Va (KS ?_)))
   refine Oq Vm (Oq Vm (Oq Qcu (KS ?_)))
   refine Kc ?_ ?_
   ·intro h426
    have g427 := dt h426
    refine KS ?_
    refine Oq Vm (Oq Vm (Oq QeU (Oq Va (KS ?_))))
    refine Oq Vm (Oq Vm (Oq Vm (Oq Vm ?_)))
    refine Fl 0 fun hn428 => ?_; (try unfold vl); rw [<- hn428]
    refine QaO (rc rv417.2.2 a_5 rv417.1 Qaw) fun rv429 hg430 => ?_
    have hc431 := hrc rv417.2.2 Qaf Qag a_5 rv417.1 Qaw pre pre pre pre pre pre rv429 hg430
    refine Oc [0] QhO hc431 ?_
    rintro - he432
    have hn433 : rv417.2.2.length = data.length := by omega
    try unfold vl
    try rw [hn433]
    refine Fb 8 0 fun _ => Fo 0 fun ho435 => KS ?_
    refine Oq Vm (Oq Qbd (Oq Va (KS ?_)))
    exact Kg (r3, rv429, (rv417.1 + 1), b_6, Qaw, decide (((b_6 - a_5) / 8) <= (rv417.1 - a_5)), rv417.2.1) [0] ⟨(q3 hM10 (by simp only [Qaa, h19, h32, h45, h244, h253, h263, h265, h363, h426, hg248, hg257, hg418, hg430, cs4])), aM1, aM1, aM1, iv1⟩
   intro h426
   have g436 := df h426
   refine KS ?_
   refine Oq Vm (Oq Vm (Oq QeU (Oq Va (KS ?_))))
   refine Oq Vm (Oq Vm (Oq Qbd (Oq Vm (Oq Vm ?_))))
   refine Fl 0 fun hn437 => ?_; (try unfold vl); rw [<- hn437]
   refine QaO (rc rv417.2.2 (rv417.1 + 1) b_6 Qaw) fun rv438 hg439 => ?_
   have hc440 := hrc rv417.2.2 Qaf Qag ((rv417.1 + 1)) b_6 Qaw pre pre pre pre pre pre rv438 hg439
   refine Oc [0] QhO hc440 ?_
   rintro - he441
   have hn442 : rv417.2.2.length = data.length := by omega
   try unfold vl
   try rw [hn442]
   refine Fb 8 0 fun _ => Fo 0 fun ho444 => KS ?_
   refine Oq Vm (Oq Va (KS ?_))
   exact Kg (r3, rv438, a_5, rv417.1, Qaw, decide (((b_6 - a_5) / 8) <= (b_6 - rv417.1)), rv417.2.1) [0] ⟨(q3 hM10 (by simp only [Qaa, h19, h32, h45, h244, h253, h263, h265, h363, h426, hg248, hg257, hg418, hg439, cs4])), aM1, aM1, aM1, iv1⟩
  intro h263
  exact absurd h263 (by first | (simp [h45]; done) | (simp only [bne, h45]; decide) | (simp only [bne, h45, Bool.not_true, Bool.not_false]; decide) | (exfalso; omega) | (intro hq; simp only [bne, hq, Bool.not_false, Bool.not_true, reduceCtorEq] at h45))
 intro h253
 have g445 := ne_of_beq_false h253
 refine KS ?_
 refine Oq Vm (Oq Vm ?_)
 refine Js 62 ?_ ?_
 ·intro h446
  refine Oq Vm (Oq Vpt (Oq Vm ?_))
  refine Js 65 ?_ ?_
  ·intro h448
   refine Oq Vm (Oq Qby (Oq Vpt (KS ?_)))
   refine Kc ?_ ?_
   ·intro h450
    have g451 := eq_of_beq h450
    refine KS ?_
    refine Oq Vm (Oq Vm (Oq Vm ?_))
    refine Fl 0 fun hn452 => ?_; (try unfold vl); rw [<- hn452]
    refine QaO (Qam Qan a_5 b_6) fun rv453 hg454 => ?_
    have hc455 := Quq Qan Qaf Qag a_5 b_6 pre pre pre rv453 hg454
    refine Oc [0] Qus hc455 ?_
    rintro - he456
    have hn457 : Qan.length = data.length := by omega
    try unfold vl
    try rw [hn457]
    refine Fb 8 0 fun _ => Fo 0 fun ho459 => KS ?_
    refine Kc ?_ ?_
    ·intro h460
     refine Fl 0 fun hn462 => ?_
     have hR463 := q2 hM10 (.ret rv453.2) (by simp only [Qaa, h19, h32, h45, h244, h253, h446, h448, h450, h460, hg248, hg454, cs4])
     have hq := q4 hrr rv453.2 (by simp only [QbJ, h19, h32, h45, h244, h253, h446, h448, h450, h460, hg248, hg454, hR463, cs4]); subst hq
     exact Kr () rfl .nil [0] en
    intro h460
    refine KS ?_
    refine Qav [0, 1, 3, 7, 7, 23, 63, 127, 7, 7, 775, 1799, 4095, 8191, 16383] Qc8 ?_
    refine Dv [] Vm (Dv [] QhM ?_)
    refine QbI (decide (0 < a_5)) ?_ ?_
    ·intro h465
     have g466 := dt h465
     refine Db h465 [] Vm (Dv [] Vm (Dv [] Vm (Dv [] QdE (Dv [0] (Vi Qb2 0) ?_))))
     have hb467 := ok1 (i := ((a_5 - 1) : Int).toNat) ho459 rng
     refine Dv [0] (QdG sh3 0) (Dv [] Vm (Dv [] Vm (Dv [0] (Vi Qb2 0) ?_)))
     have hb468 := ok1 (i := rv247.1.toNat) ho459 rng
     refine Dv [0] (QdG sh3 0) ?_
     refine QaO (Qar (rv453.2.getD ((a_5 - 1) : Int).toNat 0) (rv453.2.getD rv247.1.toNat 0)) fun rv469 hg470 => ?_
     refine Dx [] [] [0] (fun G => vb rv469) [fun G => SP.fact (True)] (fun G => xC [] Qjf (Qjb ((rv453.2.getD ((a_5 - 1) : Int).toNat 0)) ((rv453.2.getD rv247.1.toNat 0)) pre pre rv469 hg470)) (Dv [] QeP (Dv [] Vpt ?_))
     refine Dn ⟨by kernel_rfl, fun G => ?_⟩
     refine Jw2 [(0, vl Qaf Qag data), (1, vi a_5), (2, vi b_6), (3, vi Qaw), (8, vb Qbh), (9, vb QaR), (10, vi (b_6 - a_5)), (11, vi rv247.1), (87, vb (!rv469))] [0] [SP.fact (True)] ?_
     refine Jk [0] ?_
     refine Kc ?_ ?_
     ·intro h471
      have h473 := not_true h471
      refine KS ?_
      refine Oq Vm (Oq Vm (Oq Vm (Oq Vm ?_)))
      refine Fl 0 fun hn475 => ?_; (try unfold vl); rw [<- hn475]
      refine QaO (Qao rv453.2 a_5 b_6 rv247.1) fun rv476 hg477 => ?_
      have hc478 := Qpp rv453.2 Qaf Qag a_5 b_6 rv247.1 pre pre pre pre rv476 hg477
      refine Oc [0] Qqo hc478 ?_
      rintro - ⟨he479, he480, he481⟩
      unfold Qac at he479
      have hn482 : rv453.2.length = data.length := by omega
      try unfold vl
      try rw [hn482]
      refine Fb 8 0 fun _ => Fo 0 fun ho484 => ?_
      refine Oq Va (KS ?_)
      refine Oq Vm (Oq Va (KS ?_))
      refine Ke ?_
      exact Kg (r3, rv476.2, rv476.1, b_6, Qaw, Qbh, QaR) [0] ⟨(q3 hM10 (by simp only [Qaa, h19, h32, h45, h244, h253, h446, h448, h450, h460, h465, h471, h473, hg248, hg454, hg470, hg477, cs4])), aM1, aM1, aM1, iv1⟩
     intro h471
     have h486 := not_false h471
     refine KS ?_
     refine Oq Vm (Oq Vm (Oq Vm (Oq Vm ?_)))
     refine Fl 0 fun hn488 => ?_; (try unfold vl); rw [<- hn488]
     refine QaO (Qae rv453.2 a_5 b_6 rv247.1) fun rv489 hg490 => ?_
     have hc491 := Qlq rv453.2 Qaf Qag a_5 b_6 rv247.1 pre pre pre pre rv489 hg490
     refine Oc [0] QlC hc491 ?_
     rintro - ⟨he492, he493, he494⟩
     unfold Qac at he492
     have hn495 : rv453.2.length = data.length := by omega
     try unfold vl
     try rw [hn495]
     refine Fb 8 0 fun _ => Fo 0 fun ho497 => ?_
     refine Oq Vm (Oq Vx (Oq Vx (Oq Va (Oq Va (KS ?_)))))
     refine Oq Vm (Oq Va (KS ?_))
     refine Oq Vm (Oq Vm (Oq QdE (Oq Vm (Oq Vm (Oq QdE (Oq Va (Oq Va (KS ?_))))))))
     refine Oq Vm (Oq QjW (Oq Va (KS ?_)))
     refine Oq Vm (Oq Vm (Oq Qcu (KS ?_)))
     refine Kc ?_ ?_
     ·intro h498
      have g499 := dt h498
      refine KS ?_
      refine Oq Vm (Oq Vm (Oq QeU (Oq Va (KS ?_))))
      refine Oq Vm (Oq Vm (Oq Vm (Oq Vm ?_)))
      refine Fl 0 fun hn500 => ?_; (try unfold vl); rw [<- hn500]
      refine QaO (rc rv489.2.2 a_5 rv489.1 Qaw) fun rv501 hg502 => ?_
      have hc503 := hrc rv489.2.2 Qaf Qag a_5 rv489.1 Qaw pre pre pre pre pre pre rv501 hg502
      refine Oc [0] QhO hc503 ?_
      rintro - he504
      have hn505 : rv489.2.2.length = data.length := by omega
      try unfold vl
      try rw [hn505]
      refine Fb 8 0 fun _ => Fo 0 fun ho507 => KS ?_
      refine Oq Vm (Oq Qbd (Oq Va (KS ?_)))
      exact Kg (r3, rv501, (rv489.1 + 1), b_6, Qaw, decide (((b_6 - a_5) / 8) <= (rv489.1 - a_5)), rv489.2.1) [0] ⟨(q3 hM10 (by simp only [Qaa, h19, h32, h45, h244, h253, h446, h448, h450, h460, h465, h471, h486, h498, hg248, hg454, hg470, hg490, hg502, cs4])), aM1, aM1, aM1, iv1⟩
     intro h498
     have g508 := df h498
     refine KS ?_
     refine Oq Vm (Oq Vm (Oq QeU (Oq Va (KS ?_))))
     refine Oq Vm (Oq Vm (Oq Qbd (Oq Vm (Oq Vm ?_))))
     refine Fl 0 fun hn509 => ?_; (try unfold vl); rw [<- hn509]
     refine QaO (rc rv489.2.2 (rv489.1 + 1) b_6 Qaw) fun rv510 hg511 => ?_
     have hc512 := hrc rv489.2.2 Qaf Qag ((rv489.1 + 1)) b_6 Qaw pre pre pre pre pre pre rv510 hg511
     refine Oc [0] QhO hc512 ?_
     rintro - he513
     have hn514 : rv489.2.2.length = data.length := by omega
     try unfold vl
     try rw [hn514]
     refine Fb 8 0 fun _ => Fo 0 fun ho516 => KS ?_
     refine Oq Vm (Oq Va (KS ?_))
     exact Kg (r3, rv510, a_5, rv489.1, Qaw, decide (((b_6 - a_5) / 8) <= (b_6 - rv489.1)), rv489.2.1) [0] ⟨(q3 hM10 (by simp only [Qaa, h19, h32, h45, h244, h253, h446, h448, h450, h460, h465, h471, h486, h498, hg248, hg454, hg470, hg490, hg511, cs4])), aM1, aM1, aM1, iv1⟩
    intro h465
    have g517 := df h465
    refine Db h465 [] Vm (Ds (Ds (Ds (Ds (Ds (Ds (Ds (Ds (Ds ?_)))))))))
    refine Ds (Ds (Dv [] Vpf ?_))
    refine Dn ⟨by kernel_rfl, fun G => ?_⟩
    refine Jw2 [(0, vl Qaf Qag data), (1, vi a_5), (2, vi b_6), (3, vi Qaw), (8, vb Qbh), (9, vb QaR), (10, vi (b_6 - a_5)), (11, vi rv247.1), (87, vb false)] [0] [] ?_
    refine Kf (KS ?_)
    refine Oq Vm (Oq Vm (Oq Vm (Oq Vm ?_)))
    refine Fl 0 fun hn518 => ?_; (try unfold vl); rw [<- hn518]
    refine QaO (Qae rv453.2 a_5 b_6 rv247.1) fun rv519 hg520 => ?_
    have hc521 := Qlq rv453.2 Qaf Qag a_5 b_6 rv247.1 pre pre pre pre rv519 hg520
    refine Oc [0] QlC hc521 ?_
    rintro - ⟨he522, he523, he524⟩
    unfold Qac at he522
    have hn525 : rv453.2.length = data.length := by omega
    try unfold vl
    try rw [hn525]
    refine Fb 8 0 fun _ => Fo 0 fun ho527 => ?_
    refine Oq Vm (Oq Vx (Oq Vx (Oq Va (Oq Va (KS ?_)))))
    refine Oq Vm (Oq Va (KS ?_))
    refine Oq Vm (Oq Vm (Oq QdE (Oq Vm (Oq Vm (Oq QdE (Oq Va (Oq Va (KS ?_))))))))
    refine Oq Vm (Oq QjW (Oq Va (KS ?_)))
    refine Oq Vm (Oq Vm (Oq Qcu (KS ?_)))
    refine Kc ?_ ?_
    ·intro h528
     have g529 := dt h528
     refine KS ?_
     refine Oq Vm (Oq Vm (Oq QeU (Oq Va (KS ?_))))
     refine Oq Vm (Oq Vm (Oq Vm (Oq Vm ?_)))
     refine Fl 0 fun hn530 => ?_; (try unfold vl); rw [<- hn530]
     refine QaO (rc rv519.2.2 a_5 rv519.1 Qaw) fun rv531 hg532 => ?_
     have hc533 := hrc rv519.2.2 Qaf Qag a_5 rv519.1 Qaw pre pre pre pre pre pre rv531 hg532
     refine Oc [0] QhO hc533 ?_
     rintro - he534
     have hn535 : rv519.2.2.length = data.length := by omega
     try unfold vl
     try rw [hn535]
     refine Fb 8 0 fun _ => Fo 0 fun ho537 => KS ?_
     refine Oq Vm (Oq Qbd (Oq Va (KS ?_)))
     exact Kg (r3, rv531, (rv519.1 + 1), b_6, Qaw, decide (((b_6 - a_5) / 8) <= (rv519.1 - a_5)), rv519.2.1) [0] ⟨(q3 hM10 (by simp only [Qaa, h19, h32, h45, h244, h253, h446, h448, h450, h460, h465, h528, hg248, hg454, hg520, hg532, cs4])), aM1, aM1, aM1, iv1⟩
    intro h528
    have g538 := df h528
    refine KS ?_
    refine Oq Vm (Oq Vm (Oq QeU (Oq Va (KS ?_))))
    refine Oq Vm (Oq Vm (Oq Qbd (Oq Vm (Oq Vm ?_))))
    refine Fl 0 fun hn539 => ?_; (try unfold vl); rw [<- hn539]
    refine QaO (rc rv519.2.2 (rv519.1 + 1) b_6 Qaw) fun rv540 hg541 => ?_
    have hc542 := hrc rv519.2.2 Qaf Qag ((rv519.1 + 1)) b_6 Qaw pre pre pre pre pre pre rv540 hg541
    refine Oc [0] QhO hc542 ?_
    rintro - he543
    have hn544 : rv519.2.2.length = data.length := by omega
    try unfold vl
    try rw [hn544]
    refine Fb 8 0 fun _ => Fo 0 fun ho546 => KS ?_
    refine Oq Vm (Oq Va (KS ?_))
    exact Kg (r3, rv540, a_5, rv519.1, Qaw, decide (((b_6 - a_5) / 8) <= (b_6 - rv519.1)), rv519.2.1) [0] ⟨(q3 hM10 (by simp only [Qaa, h19, h32, h45, h244, h253, h446, h448, h450, h460, h465, h528, hg248, hg454, hg520, hg541, cs4])), aM1, aM1, aM1, iv1⟩
   intro h450
   have g547 := ne_of_beq_false h450
   refine KS ?_
   refine Qav [0, 1, 3, 7, 7, 23, 63, 127, 7, 7, 775, 1799, 4095, 8191, 16383] Qc8 ?_
   refine Dv [] Vm (Dv [] QhM ?_)
   refine QbI (decide (0 < a_5)) ?_ ?_
   ·intro h548
    have g549 := dt h548
    refine Db h548 [] Vm (Dv [] Vm (Dv [] Vm (Dv [] QdE (Dv [0] (Vi Qb2 0) ?_))))
    have hb550 := ok1 (i := ((a_5 - 1) : Int).toNat) ho17 rng
    refine Dv [0] (QdG sh3 0) (Dv [] Vm (Dv [] Vm (Dv [0] (Vi Qb2 0) ?_)))
    have hb551 := ok1 (i := rv247.1.toNat) ho17 rng
    refine Dv [0] (QdG sh3 0) ?_
    refine QaO (Qar (Qan.getD ((a_5 - 1) : Int).toNat 0) (Qan.getD rv247.1.toNat 0)) fun rv552 hg553 => ?_
    refine Dx [] [] [0] (fun G => vb rv552) [fun G => SP.fact (True)] (fun G => xC [] Qjf (Qjb ((Qan.getD ((a_5 - 1) : Int).toNat 0)) ((Qan.getD rv247.1.toNat 0)) pre pre rv552 hg553)) (Dv [] QeP (Dv [] Vpt ?_))
    refine Dn ⟨by kernel_rfl, fun G => ?_⟩
    refine Jw2 [(0, vl Qaf Qag data), (1, vi a_5), (2, vi b_6), (3, vi Qaw), (8, vb Qbh), (9, vb QaR), (10, vi (b_6 - a_5)), (11, vi rv247.1), (87, vb (!rv552))] [0] [SP.fact (True)] ?_
    refine Jk [0] ?_
    refine Kc ?_ ?_
    ·intro h554
     have h556 := not_true h554
     refine KS ?_
     refine Oq Vm (Oq Vm (Oq Vm (Oq Vm ?_)))
     refine Fl 0 fun hn558 => ?_; (try unfold vl); rw [<- hn558]
     refine QaO (Qao Qan a_5 b_6 rv247.1) fun rv559 hg560 => ?_
     have hc561 := Qpp Qan Qaf Qag a_5 b_6 rv247.1 pre pre pre pre rv559 hg560
     refine Oc [0] Qqo hc561 ?_
     rintro - ⟨he562, he563, he564⟩
     unfold Qac at he562
     have hn565 : Qan.length = data.length := by omega
     try unfold vl
     try rw [hn565]
     refine Fb 8 0 fun _ => Fo 0 fun ho567 => ?_
     refine Oq Va (KS ?_)
     refine Oq Vm (Oq Va (KS ?_))
     refine Ke ?_
     exact Kg (r3, rv559.2, rv559.1, b_6, Qaw, Qbh, QaR) [0] ⟨(q3 hM10 (by simp only [Qaa, h19, h32, h45, h244, h253, h446, h448, h450, h548, h554, h556, hg248, hg553, hg560, cs4])), aM1, aM1, aM1, iv1⟩
    intro h554
    have h569 := not_false h554
    refine KS ?_
    refine Oq Vm (Oq Vm (Oq Vm (Oq Vm ?_)))
    refine Fl 0 fun hn571 => ?_; (try unfold vl); rw [<- hn571]
    refine QaO (Qae Qan a_5 b_6 rv247.1) fun rv572 hg573 => ?_
    have hc574 := Qlq Qan Qaf Qag a_5 b_6 rv247.1 pre pre pre pre rv572 hg573
    refine Oc [0] QlC hc574 ?_
    rintro - ⟨he575, he576, he577⟩
    unfold Qac at he575
    have hn578 : Qan.length = data.length := by omega
    try unfold vl
    try rw [hn578]
    refine Fb 8 0 fun _ => Fo 0 fun ho580 => ?_
    refine Oq Vm (Oq Vx (Oq Vx (Oq Va (Oq Va (KS ?_)))))
    refine Oq Vm (Oq Va (KS ?_))
    refine Oq Vm (Oq Vm (Oq QdE (Oq Vm (Oq Vm (Oq QdE (Oq Va (Oq Va (KS ?_))))))))
    refine Oq Vm (Oq QjW (Oq Va (KS ?_)))
    refine Oq Vm (Oq Vm (Oq Qcu (KS ?_)))
    refine Kc ?_ ?_
    ·intro h581
     have g582 := dt h581
     refine KS ?_
     refine Oq Vm (Oq Vm (Oq QeU (Oq Va (KS ?_))))
     refine Oq Vm (Oq Vm (Oq Vm (Oq Vm ?_)))
     refine Fl 0 fun hn583 => ?_; (try unfold vl); rw [<- hn583]
     refine QaO (rc rv572.2.2 a_5 rv572.1 Qaw) fun rv584 hg585 => ?_
     have hc586 := hrc rv572.2.2 Qaf Qag a_5 rv572.1 Qaw pre pre pre pre pre pre rv584 hg585
     refine Oc [0] QhO hc586 ?_
     rintro - he587
     have hn588 : rv572.2.2.length = data.length := by omega
     try unfold vl
     try rw [hn588]
     refine Fb 8 0 fun _ => Fo 0 fun ho590 => KS ?_
     refine Oq Vm (Oq Qbd (Oq Va (KS ?_)))
     exact Kg (r3, rv584, (rv572.1 + 1), b_6, Qaw, decide (((b_6 - a_5) / 8) <= (rv572.1 - a_5)), rv572.2.1) [0] ⟨(q3 hM10 (by simp only [Qaa, h19, h32, h45, h244, h253, h446, h448, h450, h548, h554, h569, h581, hg248, hg553, hg573, hg585, cs4])), aM1, aM1, aM1, iv1⟩
    intro h581
    have g591 := df h581
    refine KS ?_
    refine Oq Vm (Oq Vm (Oq QeU (Oq Va (KS ?_))))
    refine Oq Vm (Oq Vm (Oq Qbd (Oq Vm (Oq Vm ?_))))
    refine Fl 0 fun hn592 => ?_; (try unfold vl); rw [<- hn592]
    refine QaO (rc rv572.2.2 (rv572.1 + 1) b_6 Qaw) fun rv593 hg594 => ?_
    have hc595 := hrc rv572.2.2 Qaf Qag ((rv572.1 + 1)) b_6 Qaw pre pre pre pre pre pre rv593 hg594
    refine Oc [0] QhO hc595 ?_
    rintro - he596
    have hn597 : rv572.2.2.length = data.length := by omega
    try unfold vl
    try rw [hn597]
    refine Fb 8 0 fun _ => Fo 0 fun ho599 => KS ?_
    refine Oq Vm (Oq Va (KS ?_))
    exact Kg (r3, rv593, a_5, rv572.1, Qaw, decide (((b_6 - a_5) / 8) <= (b_6 - rv572.1)), rv572.2.1) [0] ⟨(q3 hM10 (by simp only [Qaa, h19, h32, h45, h244, h253, h446, h448, h450, h548, h554, h569, h581, hg248, hg553, hg573, hg594, cs4])), aM1, aM1, aM1, iv1⟩
   intro h548
   have g600 := df h548
   refine Db h548 [] Vm (Ds (Ds (Ds (Ds (Ds (Ds (Ds (Ds (Ds ?_)))))))))
   refine Ds (Ds (Dv [] Vpf ?_))
   refine Dn ⟨by kernel_rfl, fun G => ?_⟩
   refine Jw2 [(0, vl Qaf Qag data), (1, vi a_5), (2, vi b_6), (3, vi Qaw), (8, vb Qbh), (9, vb QaR), (10, vi (b_6 - a_5)), (11, vi rv247.1), (87, vb false)] [0] [] ?_
   refine Kf (KS ?_)
   refine Oq Vm (Oq Vm (Oq Vm (Oq Vm ?_)))
   refine Fl 0 fun hn601 => ?_; (try unfold vl); rw [<- hn601]
   refine QaO (Qae Qan a_5 b_6 rv247.1) fun rv602 hg603 => ?_
   have hc604 := Qlq Qan Qaf Qag a_5 b_6 rv247.1 pre pre pre pre rv602 hg603
   refine Oc [0] QlC hc604 ?_
   rintro - ⟨he605, he606, he607⟩
   unfold Qac at he605
   have hn608 : Qan.length = data.length := by omega
   try unfold vl
   try rw [hn608]
   refine Fb 8 0 fun _ => Fo 0 fun ho610 => ?_
   refine Oq Vm (Oq Vx (Oq Vx (Oq Va (Oq Va (KS ?_)))))
   refine Oq Vm (Oq Va (KS ?_))
   refine Oq Vm (Oq Vm (Oq QdE (Oq Vm (Oq Vm (Oq QdE (Oq Va (Oq Va (KS ?_))))))))
   refine Oq Vm (Oq QjW (Oq Va (KS ?_)))
   refine Oq Vm (Oq Vm (Oq Qcu (KS ?_)))
   refine Kc ?_ ?_
   ·intro h611
    have g612 := dt h611
    refine KS ?_
    refine Oq Vm (Oq Vm (Oq QeU (Oq Va (KS ?_))))
    refine Oq Vm (Oq Vm (Oq Vm (Oq Vm ?_)))
    refine Fl 0 fun hn613 => ?_; (try unfold vl); rw [<- hn613]
    refine QaO (rc rv602.2.2 a_5 rv602.1 Qaw) fun rv614 hg615 => ?_
    have hc616 := hrc rv602.2.2 Qaf Qag a_5 rv602.1 Qaw pre pre pre pre pre pre rv614 hg615
    refine Oc [0] QhO hc616 ?_
    rintro - he617
    have hn618 : rv602.2.2.length = data.length := by omega
    try unfold vl
    try rw [hn618]
    refine Fb 8 0 fun _ => Fo 0 fun ho620 => KS ?_
    refine Oq Vm (Oq Qbd (Oq Va (KS ?_)))
    exact Kg (r3, rv614, (rv602.1 + 1), b_6, Qaw, decide (((b_6 - a_5) / 8) <= (rv602.1 - a_5)), rv602.2.1) [0] ⟨(q3 hM10 (by simp only [Qaa, h19, h32, h45, h244, h253, h446, h448, h450, h548, h611, hg248, hg603, hg615, cs4])), aM1, aM1, aM1, iv1⟩
   intro h611
   have g621 := df h611
   refine KS ?_
   refine Oq Vm (Oq Vm (Oq QeU (Oq Va (KS ?_))))
   refine Oq Vm (Oq Vm (Oq Qbd (Oq Vm (Oq Vm ?_))))
   refine Fl 0 fun hn622 => ?_; (try unfold vl); rw [<- hn622]
   refine QaO (rc rv602.2.2 (rv602.1 + 1) b_6 Qaw) fun rv623 hg624 => ?_
   have hc625 := hrc rv602.2.2 Qaf Qag ((rv602.1 + 1)) b_6 Qaw pre pre pre pre pre pre rv623 hg624
   refine Oc [0] QhO hc625 ?_
   rintro - he626
   have hn627 : rv602.2.2.length = data.length := by omega
   try unfold vl
   try rw [hn627]
   refine Fb 8 0 fun _ => Fo 0 fun ho629 => KS ?_
   refine Oq Vm (Oq Va (KS ?_))
   exact Kg (r3, rv623, a_5, rv602.1, Qaw, decide (((b_6 - a_5) / 8) <= (b_6 - rv602.1)), rv602.2.1) [0] ⟨(q3 hM10 (by simp only [Qaa, h19, h32, h45, h244, h253, h446, h448, h450, h548, h611, hg248, hg603, hg624, cs4])), aM1, aM1, aM1, iv1⟩
  intro h448
  refine Osk (Osk (Oq Vpf (KS ?_)))
  refine Kf (KS ?_)
  refine Qav [0, 1, 3, 7, 7, 23, 63, 127, 7, 7, 775, 1799, 4095, 8191, 16383] Qc8 ?_
  refine Dv [] Vm (Dv [] QhM ?_)
  refine QbI (decide (0 < a_5)) ?_ ?_
  ·intro h631
   have g632 := dt h631
   refine Db h631 [] Vm (Dv [] Vm (Dv [] Vm (Dv [] QdE (Dv [0] (Vi Qb2 0) ?_))))
   have hb633 := ok1 (i := ((a_5 - 1) : Int).toNat) ho17 rng
   refine Dv [0] (QdG sh3 0) (Dv [] Vm (Dv [] Vm (Dv [0] (Vi Qb2 0) ?_)))
   have hb634 := ok1 (i := rv247.1.toNat) ho17 rng
   refine Dv [0] (QdG sh3 0) ?_
   refine QaO (Qar (Qan.getD ((a_5 - 1) : Int).toNat 0) (Qan.getD rv247.1.toNat 0)) fun rv635 hg636 => ?_
   refine Dx [] [] [0] (fun G => vb rv635) [fun G => SP.fact (True)] (fun G => xC [] Qjf (Qjb ((Qan.getD ((a_5 - 1) : Int).toNat 0)) ((Qan.getD rv247.1.toNat 0)) pre pre rv635 hg636)) (Dv [] QeP (Dv [] Vpt ?_))
   refine Dn ⟨by kernel_rfl, fun G => ?_⟩
   refine Jw2 [(0, vl Qaf Qag data), (1, vi a_5), (2, vi b_6), (3, vi Qaw), (8, vb Qbh), (9, vb QaR), (10, vi (b_6 - a_5)), (11, vi rv247.1), (87, vb (!rv635))] [0] [SP.fact (True)] ?_
   refine Jk [0] ?_
   refine Kc ?_ ?_
   ·intro h637
    have h639 := not_true h637
    refine KS ?_
    refine Oq Vm (Oq Vm (Oq Vm (Oq Vm ?_)))
    refine Fl 0 fun hn641 => ?_; (try unfold vl); rw [<- hn641]
    refine QaO (Qao Qan a_5 b_6 rv247.1) fun rv642 hg643 => ?_
    have hc644 := Qpp Qan Qaf Qag a_5 b_6 rv247.1 pre pre pre pre rv642 hg643
    refine Oc [0] Qqo hc644 ?_
    rintro - ⟨he645, he646, he647⟩
    unfold Qac at he645
    have hn648 : Qan.length = data.length := by omega
    try unfold vl
    try rw [hn648]
    refine Fb 8 0 fun _ => Fo 0 fun ho650 => ?_
    refine Oq Va (KS ?_)
    refine Oq Vm (Oq Va (KS ?_))
    refine Ke ?_
    exact Kg (r3, rv642.2, rv642.1, b_6, Qaw, Qbh, QaR) [0] ⟨(q3 hM10 (by simp only [Qaa, h19, h32, h45, h244, h253, h446, h448, h631, h637, h639, hg248, hg636, hg643, cs4])), aM1, aM1, aM1, iv1⟩
   intro h637
   have h652 := not_false h637
   refine KS ?_
   refine Oq Vm (Oq Vm (Oq Vm (Oq Vm ?_)))
   refine Fl 0 fun hn654 => ?_; (try unfold vl); rw [<- hn654]
   refine QaO (Qae Qan a_5 b_6 rv247.1) fun rv655 hg656 => ?_
   have hc657 := Qlq Qan Qaf Qag a_5 b_6 rv247.1 pre pre pre pre rv655 hg656
   refine Oc [0] QlC hc657 ?_
   rintro - ⟨he658, he659, he660⟩
   unfold Qac at he658
   have hn661 : Qan.length = data.length := by omega
   try unfold vl
   try rw [hn661]
   refine Fb 8 0 fun _ => Fo 0 fun ho663 => ?_
   refine Oq Vm (Oq Vx (Oq Vx (Oq Va (Oq Va (KS ?_)))))
   refine Oq Vm (Oq Va (KS ?_))
   refine Oq Vm (Oq Vm (Oq QdE (Oq Vm (Oq Vm (Oq QdE (Oq Va (Oq Va (KS ?_))))))))
   refine Oq Vm (Oq QjW (Oq Va (KS ?_)))
   refine Oq Vm (Oq Vm (Oq Qcu (KS ?_)))
   refine Kc ?_ ?_
   ·intro h664
    have g665 := dt h664
    refine KS ?_
    refine Oq Vm (Oq Vm (Oq QeU (Oq Va (KS ?_))))
    refine Oq Vm (Oq Vm (Oq Vm (Oq Vm ?_)))
    refine Fl 0 fun hn666 => ?_; (try unfold vl); rw [<- hn666]
    refine QaO (rc rv655.2.2 a_5 rv655.1 Qaw) fun rv667 hg668 => ?_
    have hc669 := hrc rv655.2.2 Qaf Qag a_5 rv655.1 Qaw pre pre pre pre pre pre rv667 hg668
    refine Oc [0] QhO hc669 ?_
    rintro - he670
    have hn671 : rv655.2.2.length = data.length := by omega
    try unfold vl
    try rw [hn671]
    refine Fb 8 0 fun _ => Fo 0 fun ho673 => KS ?_
    refine Oq Vm (Oq Qbd (Oq Va (KS ?_)))
    exact Kg (r3, rv667, (rv655.1 + 1), b_6, Qaw, decide (((b_6 - a_5) / 8) <= (rv655.1 - a_5)), rv655.2.1) [0] ⟨(q3 hM10 (by simp only [Qaa, h19, h32, h45, h244, h253, h446, h448, h631, h637, h652, h664, hg248, hg636, hg656, hg668, cs4])), aM1, aM1, aM1, iv1⟩
   intro h664
   have g674 := df h664
   refine KS ?_
   refine Oq Vm (Oq Vm (Oq QeU (Oq Va (KS ?_))))
   refine Oq Vm (Oq Vm (Oq Qbd (Oq Vm (Oq Vm ?_))))
   refine Fl 0 fun hn675 => ?_; (try unfold vl); rw [<- hn675]
   refine QaO (rc rv655.2.2 (rv655.1 + 1) b_6 Qaw) fun rv676 hg677 => ?_
   have hc678 := hrc rv655.2.2 Qaf Qag ((rv655.1 + 1)) b_6 Qaw pre pre pre pre pre pre rv676 hg677
   refine Oc [0] QhO hc678 ?_
   rintro - he679
   have hn680 : rv655.2.2.length = data.length := by omega
   try unfold vl
   try rw [hn680]
   refine Fb 8 0 fun _ => Fo 0 fun ho682 => KS ?_
   refine Oq Vm (Oq Va (KS ?_))
   exact Kg (r3, rv676, a_5, rv655.1, Qaw, decide (((b_6 - a_5) / 8) <= (b_6 - rv655.1)), rv655.2.1) [0] ⟨(q3 hM10 (by simp only [Qaa, h19, h32, h45, h244, h253, h446, h448, h631, h637, h652, h664, hg248, hg636, hg656, hg677, cs4])), aM1, aM1, aM1, iv1⟩
  intro h631
  have g683 := df h631
  refine Db h631 [] Vm (Ds (Ds (Ds (Ds (Ds (Ds (Ds (Ds (Ds ?_)))))))))
  refine Ds (Ds (Dv [] Vpf ?_))
  refine Dn ⟨by kernel_rfl, fun G => ?_⟩
  refine Jw2 [(0, vl Qaf Qag data), (1, vi a_5), (2, vi b_6), (3, vi Qaw), (8, vb Qbh), (9, vb QaR), (10, vi (b_6 - a_5)), (11, vi rv247.1), (87, vb false)] [0] [] ?_
  refine Kf (KS ?_)
  refine Oq Vm (Oq Vm (Oq Vm (Oq Vm ?_)))
  refine Fl 0 fun hn684 => ?_; (try unfold vl); rw [<- hn684]
  refine QaO (Qae Qan a_5 b_6 rv247.1) fun rv685 hg686 => ?_
  have hc687 := Qlq Qan Qaf Qag a_5 b_6 rv247.1 pre pre pre pre rv685 hg686
  refine Oc [0] QlC hc687 ?_
  rintro - ⟨he688, he689, he690⟩
  unfold Qac at he688
  have hn691 : Qan.length = data.length := by omega
  try unfold vl
  try rw [hn691]
  refine Fb 8 0 fun _ => Fo 0 fun ho693 => ?_
  refine Oq Vm (Oq Vx (Oq Vx (Oq Va (Oq Va (KS ?_)))))
  refine Oq Vm (Oq Va (KS ?_))
  refine Oq Vm (Oq Vm (Oq QdE (Oq Vm (Oq Vm (Oq QdE (Oq Va (Oq Va (KS ?_))))))))
  refine Oq Vm (Oq QjW (Oq Va (KS ?_)))
  refine Oq Vm (Oq Vm (Oq Qcu (KS ?_)))
  refine Kc ?_ ?_
  ·intro h694
   have g695 := dt h694
   refine KS ?_
   refine Oq Vm (Oq Vm (Oq QeU (Oq Va (KS ?_))))
   refine Oq Vm (Oq Vm (Oq Vm (Oq Vm ?_)))
   refine Fl 0 fun hn696 => ?_; (try unfold vl); rw [<- hn696]
   refine QaO (rc rv685.2.2 a_5 rv685.1 Qaw) fun rv697 hg698 => ?_
   have hc699 := hrc rv685.2.2 Qaf Qag a_5 rv685.1 Qaw pre pre pre pre pre pre rv697 hg698
   refine Oc [0] QhO hc699 ?_
   rintro - he700
   have hn701 : rv685.2.2.length = data.length := by omega
   try unfold vl
   try rw [hn701]
   refine Fb 8 0 fun _ => Fo 0 fun ho703 => KS ?_
   refine Oq Vm (Oq Qbd (Oq Va (KS ?_)))
   exact Kg (r3, rv697, (rv685.1 + 1), b_6, Qaw, decide (((b_6 - a_5) / 8) <= (rv685.1 - a_5)), rv685.2.1) [0] ⟨(q3 hM10 (by simp only [Qaa, h19, h32, h45, h244, h253, h446, h448, h631, h694, hg248, hg686, hg698, cs4])), aM1, aM1, aM1, iv1⟩
  intro h694
  have g704 := df h694
  refine KS ?_
  refine Oq Vm (Oq Vm (Oq QeU (Oq Va (KS ?_))))
  refine Oq Vm (Oq Vm (Oq Qbd (Oq Vm (Oq Vm ?_))))
  refine Fl 0 fun hn705 => ?_; (try unfold vl); rw [<- hn705]
  refine QaO (rc rv685.2.2 (rv685.1 + 1) b_6 Qaw) fun rv706 hg707 => ?_
  have hc708 := hrc rv685.2.2 Qaf Qag ((rv685.1 + 1)) b_6 Qaw pre pre pre pre pre pre rv706 hg707
  refine Oc [0] QhO hc708 ?_
  rintro - he709
  have hn710 : rv685.2.2.length = data.length := by omega
  try unfold vl
  try rw [hn710]
  refine Fb 8 0 fun _ => Fo 0 fun ho712 => KS ?_
  refine Oq Vm (Oq Va (KS ?_))
  exact Kg (r3, rv706, a_5, rv685.1, Qaw, decide (((b_6 - a_5) / 8) <= (b_6 - rv685.1)), rv685.2.1) [0] ⟨(q3 hM10 (by simp only [Qaa, h19, h32, h45, h244, h253, h446, h448, h631, h694, hg248, hg686, hg707, cs4])), aM1, aM1, aM1, iv1⟩
 intro h446
 exact absurd h446 (by first | (simp [h45]; done) | (simp only [bne, h45]; decide) | (simp only [bne, h45, Bool.not_true, Bool.not_false]; decide) | (exfalso; omega) | (intro hq; simp only [bne, hq, Bool.not_false, Bool.not_true, reduceCtorEq] at h45))
theorem QuD : ∀ (fu : Nat) (data : List Int) (Qaf : Option Addr) (Qag : Nat) (a : Int) (b : Int) (limit : Int) (QhN : Qac a) (Qh4 : Qac b) (Qhp : Qac limit) (ha0 : 0 <= a /\ a <= b /\ b <= (data.length : Int) /\ data.length <= 65535) (hl0 : 0 <= limit /\ limit <= 1000) (hfu : (b - a).toNat < fu) (rr : List Int) (hrr : Qa6 fu data a b limit = rr), FT Tryd.prog 54 #[vl Qaf Qag data, vi a, vi b, vi limit] [O Qaf Qag data] (fun g : Unit => (rr.length = data.length)) (fun g => .tuple #[]) (fun g => [os (vl Qaf Qag data) rr])
 | 0, data, Qaf, Qag, a, b, limit, QhN, Qh4, Qhp, ha0, hl0, hfu, _, _ => absurd hfu (Nat.not_lt_zero _)
 | fu + 1, data, Qaf, Qag, a, b, limit, QhN, Qh4, Qhp, ha0, hl0, hfu, rr, hrr => QsX (Qa6 fu) _ data Qaf Qag a b limit rfl (fun d a b l h1 h2 h3 h4 h5 => Qrt fu d a b l (Nat.lt_of_lt_of_le h5 (Nat.le_of_lt_succ hfu)) h1 h2 h3 h4) (fun data1 dataa01 datak01 a1 b1 limit1 QtQ QtR QnC ha01 hl01 hm rr1 hrr1 => QuD fu data1 dataa01 datak01 a1 b1 limit1 QtQ QtR QnC ha01 hl01 (Nat.lt_of_lt_of_le hm (Nat.le_of_lt_succ hfu)) rr1 hrr1) QhN Qh4 Qhp ha0 hl0 rr (by simpa only [Qa6] using hrr)
theorem Qt0 (x : List Int) (xa0 : Option Addr) (xk0 : Nat) (ha0 : x.length <= 65535) (rr : List Int) (hrr : Qca x = rr) : FT Tryd.prog 28 #[vl xa0 xk0 x] [O xa0 xk0 x] (fun g : Unit => (rr.length = x.length)) (fun g => .tuple #[]) (fun g => [os (vl xa0 xk0 x) rr]) := by
 refine FTi Tryd.func28 fun w0 M0 F0 => Fb 8 0 fun _ => Fo 0 fun ho2 => ?_
 refine KS ?_
 refine Oq Vm (Oq (QcE Qb2) (Oq Va (KS ?_)))
 refine Oq Vm (Oq Vm (Oq Vm (Oq (VcU un3 Ql3) ?_)))
 refine QaO (Qen (BitVec.ofInt 64 (x.length : Int))) fun rv3 hg4 => ?_
 have hln := QrZ hg4 (by rw [Qjd aM1]; omega)
 have hc5 := Qup ((BitVec.ofInt 64 (x.length : Int))) (by rw [Qjd aM1]; omega) rv3 hg4
 refine Oc [] QtY hc5 ?_
 rintro - he6
 unfold Qac at he6
 refine QaO (Qa6 (x.length + 1) x 0 (x.length : Int) rv3) fun rv7 hg8 => ?_
 have hc9 := QuD (x.length + 1) x xa0 xk0 0 ((x.length : Int)) rv3 pre pre pre pre pre pre rv7 hg8
 refine Oc [0] QhO hc9 ?_
 rintro - he10
 refine Fb 8 0 fun _ => Fo 0 fun ho12 => KS ?_
 refine Fl 0 fun hn13 => ?_
 have hq := q4 hrr rv7 (by simp only [Qca, hg4, hg8, cs4]); subst hq
 exact Kz () rfl .nil [0] en
theorem fn8 (p : Qaj) (pa0 : Option Addr) (pk0 : Nat) (kwLA : Option Addr) (kwLK : Nat) (hps : PSm p = true) (rr : Qbn × Int) (hrr : QfI p = rr) : FT Tryd.prog 8 #[.agg #[vl pa0 pk0 p.Funcs]] [S pa0 pk0 p.Funcs, pv (gp 0) [vl kwLA kwLK kwL], S kwLA kwLK kwL] (fun g : Value × Value × Value => Qac rr.2 /\ (rr.1.Pred.length = rr.1.Succ.length)) (fun g => .tuple #[.agg #[g.1, g.2.1, g.2.2], vi rr.2]) (fun g => [sl g.1 rr.1.Nodes, sl g.2.1 rr.1.Succ, sl g.2.2 rr.1.Pred]) := by
 refine FTi Tryd.func8 fun w0 M0 F0 => Fb 40 0 fun _ => Fb 16 2 fun _ => ?_
 refine FoS 2 fun ho3 => ?_
 refine KS ?_
 refine Oa (Ab [vl pa0 pk0 p.Funcs]) fun p4 => Oa (Al Qtp [.slice none 0 0, .slice none 0 0, .slice none 0 0]) fun p5 => Oq Va (KS ?_)
 refine Oq (Qc9 Qec 1) ?_
 refine QaO (Qcz p) fun rv6 hg7 => ?_
 have hc8 := QtU p pa0 pk0 kwLA kwLK pre rv6 hg7
 refine Oc [2, 3, 4] QuM hc8 ?_
 rintro - ⟨he9, he10, he11, he12, he13⟩
 unfold Qac at he9 he10 he11 he12 he13
 refine Oq Vm (Oq Vx (Oq Vx (Oa (Al QpM [vi 0, vi 0, vi 0, vi 0]) fun p14 => Ost (Scl [0] Qhn [vi rv6.1.Kind, vi rv6.1.Func, vi rv6.1.Block, vi rv6.1.Stmt]) (Oq Va (KS ?_)))))
 refine Oq Vm (Oq QgA (KS ?_))
 refine Kc ?_ ?_
 ·intro h15
  have g16 := QbL h15
  refine KS ?_
  refine Oq (Vbd QuH [.slice none 0 0, .slice none 0 0, .slice none 0 0]) (Oq Vm (Ost (Scl [1] QmP [.slice none 0 0, .slice none 0 0, .slice none 0 0]) (Oq Va (KS ?_))))
  refine Jl [] (Ent.slNil (α := Qay)) ?_
  refine Jl [] (Ent.slNil (α := List Int)) ?_
  have hq := q4 hrr ((Qbn.mk [] [] []), rv6.2) (by simp only [QfI, h15, hg7, cs4]); subst hq
  exact Kr (.slice none 0 0, .slice none 0 0, .slice none 0 0) rfl (.cellN 2 rfl QmP rfl (QaC _ _) rfl (.tmp rfl .nil)) [1, 0, 0] ⟨en, (by first | rfl | (dsimp only at *; omega))⟩
 intro h15
 have g17 := QaA h15
 have hVp := Qnu (by assumption) h15
 refine KS ?_
 refine Oq (Qc9 Qec 2) ?_
 refine QaO (Qfv p) fun rv19 hg20 => ?_
 have hlp := QkC hg20 (by assumption) (by assumption)
 have hc21 := Qvy p pa0 pk0 kwLA kwLK pre rv19 hg20
 refine Oc [3, 4, 5] Qwk hc21 ?_
 rintro c18 he22
 refine Jo 0 ?_; rintro a23 k24 rfl
 refine Fb 32 0 fun _ => ?_
 refine Oq Va (KS ?_)
 refine Qav [0, 0, 2, 6, 0, 16, 48, 127, 0, 511, 1023, 2047] Qc8 ?_
 refine Dv [] Vm (Dv [] Vm (Dv [] (QcE Qjj) ?_))
 have hn27 := List.length_replicate (n := (rv19.length : Int).toNat) (a := ([] : List Int))
 refine Dx [] [] [0] (fun G => (G.g 3 0)) [fun G => ds (G.g 3 0) ((List.replicate (rv19.length : Int).toNat []) : List (List Int))] (fun G => xA (Qt3 (α := List Int) Qi6 QuO [] QrH)) (Dv [] Vm (Dv [] (QcE Qjj) ?_))
 have hn29 := List.length_replicate (n := (rv19.length : Int).toNat) (a := ([] : List Int))
 refine Dx [] [] [0] (fun G => (G.g 6 0)) [fun G => ds (G.g 6 0) ((List.replicate (rv19.length : Int).toNat []) : List (List Int))] (fun G => xA (Qt3 (α := List Int) Qi6 QuO [] QrH)) ?_
 refine Dx [7, 8] [] [0, 0] (fun G => .agg #[vl a23 k24 rv19, (G.g 3 0), (G.g 6 0)]) [] (fun G => xV (v := .agg #[vl a23 k24 rv19, (G.g 3 0), (G.g 6 0)]) (Vo 0 rfl (QkV _ _) fun aq30 kq31 eq32 => (by rw [eq32]; exact Vo 1 rfl (QkV _ _) fun aq33 kq34 eq35 => (by rw [eq35]; exact Vbd QuH [vl a23 k24 rv19, .slice aq30 (((List.replicate (rv19.length : Int).toNat []) : List (List Int)).length) kq31, .slice aq33 (((List.replicate (rv19.length : Int).toNat []) : List (List Int)).length) kq34])))) (Dx [] [] [0] (fun G => (G.g 8 0)) [fun G => Mp Qch vi Qb7 (G.g 8 0) ([] : List (Qay × Int))] (fun G => xA (Amp (κ := Qay) (ν := Int) (ek := Qch) (ev := vi) (ok := Qb7))) ?_)
 refine Dx [7, 8, 9] [] [0, 0, 0] (fun G => .agg #[vl a23 k24 rv19, (G.g 3 0), (G.g 6 0), (G.g 8 0)]) [] (fun G => xV (v := .agg #[vl a23 k24 rv19, (G.g 3 0), (G.g 6 0), (G.g 8 0)]) (Vo 0 rfl (QkV _ _) fun aq37 kq38 eq39 => (by rw [eq39]; exact Vo 1 rfl (QkV _ _) fun aq40 kq41 eq42 => (by rw [eq42]; exact VoM 2 rfl fun bq43 eq44 => (by rw [eq44]; exact Vbd Qvb [vl a23 k24 rv19, .slice aq37 (((List.replicate (rv19.length : Int).toNat []) : List (List Int)).length) kq38, .slice aq40 (((List.replicate (rv19.length : Int).toNat []) : List (List Int)).length) kq41, (mv bq43)]))))) (Dx [] [] [0] (fun G => (G.g 10 0)) [fun G => Cl (G.g 10 0) [vl a23 k24 rv19, (G.g 3 0), (G.g 6 0), (G.g 8 0)]] (fun G => xA (AbO [vl a23 k24 rv19, (G.g 3 0), (G.g 6 0), (G.g 8 0)])) (Dg [] (fun G => (G.g 10 0)) (fun G => Va) ?_))
 refine Dn ⟨by kernel_rfl, fun G => ?_⟩
 refine Jw2 [(1, p4), (2, p5), (6, vl a23 k24 rv19), (7, (G.g 10 0))] [0, 1, 2, 3, 4, 5, 6] [ds (G.g 3 0) ((List.replicate (rv19.length : Int).toNat []) : List (List Int)), ds (G.g 6 0) ((List.replicate (rv19.length : Int).toNat []) : List (List Int)), Mp Qch vi Qb7 (G.g 8 0) ([] : List (Qay × Int)), Cl (G.g 10 0) [vl a23 k24 rv19, (G.g 3 0), (G.g 6 0), (G.g 8 0)]] ?_
 generalize G.g 3 0 = c26, G.g 6 0 = c28, G.g 8 0 = p36, G.g 10 0 = p45
 refine Jo 7 ?_; rintro a46 k47 rfl
 refine FbD 24 7 fun _ => ?_
 refine Jo 8 ?_; rintro a49 k50 rfl
 refine KS ?_
 refine Oq Vm (Oq (QcE Qjj) (Oq Vm (KS ?_)))
 refine Kl (γ := Nat × (List (Qay × Int)) × Int) (fun (r51, Qku, QeA) => ⟨[(1, p4), (2, p5), (6, vl a23 k24 rv19), (7, p45), (35, vl a23 k24 rv19), (36, vi (rv19.length : Int)), (37, vi QeA)], [S a23 k24 rv19, Cl p5 [.slice none 0 0, .slice none 0 0, .slice none 0 0], pv p4 [vl pa0 pk0 p.Funcs], S pa0 pk0 p.Funcs, pv (gp 0) [vl kwLA kwLK kwL], S kwLA kwLK kwL, D a46 k47 ((List.replicate (rv19.length : Int).toNat []) : List (List Int)), D a49 k50 ((List.replicate (rv19.length : Int).toNat []) : List (List Int)), Mp Qch vi Qb7 p36 Qku, Cl p45 [vl a23 k24 rv19, vl a46 k47 (List.replicate (rv19.length : Int).toNat []), vl a49 k50 (List.replicate (rv19.length : Int).toNat []), p36]], Qce rv19 r51 Qku QeA = Qce rv19 (((rv19.length : Int) - 0).toNat) [] 0 /\ r51 = ((rv19.length : Int) - QeA).toNat /\ (0 : Int) <= QeA /\ QeA <= (rv19.length : Int) /\ (-9223372036854775808 <= QeA /\ QeA <= 9223372036854775807), r51⟩) (((rv19.length : Int) - 0).toNat, [], 0) [0, 2, 2, 3, 4, 5, 6, 6, 6, 6] ⟨rfl, rfl, aM1, aM1, aM1⟩ ?_
 rintro ⟨r51, Qku, QeA⟩ ⟨hM54, hr55, hi56, hi57, hk58⟩
 refine QbB fun _ _ hL hA => ?_; dsimp only at hL hA; subst hL hA
 refine Fb 32 0 fun _ => Fb 40 3 fun _ => Fb 16 5 fun _ => ?_
 refine FoS 5 fun ho62 => ?_
 refine FbD 24 6 fun _ => ?_
 refine KS ?_
 refine Oq Qcu (KS ?_)
 refine Kc ?_ ?_
 ·intro h64
  have g65 := dt h64
  obtain ⟨r66, rfl⟩ := scc (n := r51) aM1
  refine KS ?_
  refine Oq Vm (Oq (Vi Qjj 0) ?_)
  refine QgN QeA.toNat 0 rfl rng fun hb67 hb68 hb69 hb70 => ?_
  unfold Qac at hb67 hb68 hb69 hb70
  refine Oq (Qc9 Qhn 0) (Oa (Al QpM [vi 0, vi 0, vi 0, vi 0]) fun p71 => Oq Va (Ost (Scl [0] Qhn [vi ((rv19.getD QeA.toNat default).Kind), vi ((rv19.getD QeA.toNat default).Func), vi ((rv19.getD QeA.toNat default).Block), vi ((rv19.getD QeA.toNat default).Stmt)]) (KS ?_)))
  refine Jp 11 fun hp72 => ?_
  refine Qav [0, 1, 3, 7, 0, 0, 63] Qc8 ?_
  refine Dv [] Vm (Dv [0] (Vn 0) (Dv [0] (Vfa Qlv 0) (Dv [12] (QaQ QsJ 0) (Dv [1] (Qc9 Qhn 0) (Dv [] Vm (Dx0 [11] [11] [0] [fun G => Mp Qch vi Qb7 p36 (mset Qku (rv19.getD QeA.toNat default) QeA)] (fun G => xS (Smp [0] QsB QiQ QeA (ek := Qch) (ev := vi) (ok := Qb7) (key := (rv19.getD QeA.toNat default)) Qsx)) ?_))))))
  refine Dn ⟨by kernel_rfl, fun G => ?_⟩
  refine Jw2 [(1, p4), (2, p5), (6, vl a23 k24 rv19), (7, p45), (35, vl a23 k24 rv19), (36, vi (rv19.length : Int)), (37, vi QeA)] [0, 1, 2, 3, 4, 5, 6, 7, 8, 9, 10, 12] [Mp Qch vi Qb7 p36 (mset Qku (rv19.getD QeA.toNat default) QeA)] ?_
  refine Jk [1, 1, 2, 3, 3, 4, 5, 6, 7, 7, 7, 7] ?_
  refine KS ?_
  refine Oq Qbd (Oq Vm (KS ?_))
  exact Kg (r66, (mset Qku (rv19.getD QeA.toNat default) QeA), (QeA + 1)) [2, 3, 3, 4, 5, 6, 7, 7, 8, 7] ⟨(q3 hM54 (by simp only [Qce, h15, h64, hg7, hg20, cs4])), aM1, aM1, aM1, aM1⟩
 intro h64
 have g73 := df h64
 obtain rfl : r51 = 0 := by omega
 refine Ke ?_
 have hR74 := q2 hM54 Qku (by simp only [Qce, h15, h64, hg7, hg20, cs4])
 refine KS ?_
 refine Oq Vm (Oq (QcE Qjj) (Oq Vm (KS ?_)))
 refine Kl (γ := Nat × List Qay × List (List Int) × List (List Int) × (List (Qay × Int)) × Int × Option Addr × Nat × Option Addr × Nat × Option Addr × Nat) (fun (r75, QfC, Qe2, Qfs, Qgv, Qc4, a81, k82, a83, k84, a85, k86) => ⟨[(1, p4), (2, p5), (6, vl a23 k24 rv19), (7, p45), (49, vl a23 k24 rv19), (50, vi (rv19.length : Int)), (51, vi Qc4)], [D a85 k86 Qfs, D a83 k84 Qe2, S a81 k82 QfC, S a23 k24 rv19, Cl p5 [.slice none 0 0, .slice none 0 0, .slice none 0 0], pv p4 [vl pa0 pk0 p.Funcs], S pa0 pk0 p.Funcs, pv (gp 0) [vl kwLA kwLK kwL], S kwLA kwLK kwL, Mp Qch vi Qb7 p36 Qgv, Cl p45 [vl a81 k82 QfC, vl a83 k84 Qe2, vl a85 k86 Qfs, p36]], QcC p rv19 r75 QfC Qe2 Qfs Qgv Qc4 = QcC p rv19 (((rv19.length : Int) - 0).toNat) rv19 (List.replicate (rv19.length : Int).toNat []) (List.replicate (rv19.length : Int).toNat []) Qku 0 /\ r75 = ((rv19.length : Int) - Qc4).toNat /\ (0 : Int) <= Qc4 /\ Qc4 <= (rv19.length : Int) /\ (-9223372036854775808 <= Qc4 /\ Qc4 <= 9223372036854775807) /\ BOk (QaD.mk (Qbn.mk QfC Qe2 Qfs) Qgv) /\ (Qe2.length = rv19.length), r75⟩) (((rv19.length : Int) - 0).toNat, rv19, (List.replicate (rv19.length : Int).toNat []), (List.replicate (rv19.length : Int).toNat []), Qku, 0, a23, k24, a46, k47, a49, k50) [7, 6, 0, 0, 1, 1, 2, 3, 4, 5, 5] ⟨rfl, rfl, aM1, aM1, aM1, (Qm6 (by assumption) aM1 aM1), (by simp only [List.length_replicate]; omega)⟩ ?_
 rintro ⟨r75, QfC, Qe2, Qfs, Qgv, Qc4, a81, k82, a83, k84, a85, k86⟩ ⟨hM87, hr88, hi89, hi90, hk91, hv92, hv93⟩
 refine QbB fun _ _ hL hA => ?_; dsimp only at hL hA; subst hL hA
 refine FbD 24 0 fun _ => ?_
 refine FbD 24 1 fun _ => ?_
 refine Fb 32 2 fun _ => Fb 32 3 fun _ => Fb 40 6 fun _ => Fb 16 8 fun _ => ?_
 refine FoS 8 fun ho100 => ?_
 refine KS ?_
 refine Oq Qcu (KS ?_)
 refine Kc ?_ ?_
 ·intro h101
  have g102 := dt h101
  have hN := QnW (by assumption) (i := Qc4) aM1
  obtain ⟨hN1, hN2⟩ := hN
  have hhe := (‹BOk _›).num (rv19.getD Qc4.toNat default)
  dsimp only at hhe
  obtain ⟨r103, rfl⟩ := scc (n := r75) aM1
  refine KS ?_
  refine Oq (Vi Qjj 3) ?_
  refine QgN Qc4.toNat 3 rfl rng fun hb104 hb105 hb106 hb107 => ?_
  unfold Qac at hb104 hb105 hb106 hb107
  refine Oq (Qc9 Qhn 0) (Oa (Al QpM [vi 0, vi 0, vi 0, vi 0]) fun p108 => Ost (Scl [0] Qhn [vi ((rv19.getD Qc4.toNat default).Kind), vi ((rv19.getD Qc4.toNat default).Func), vi ((rv19.getD Qc4.toNat default).Block), vi ((rv19.getD Qc4.toNat default).Stmt)]) (KS ?_))
  refine Oq (Vfa Qo9 0) (Oq (QaQ sh3 0) (KS ?_))
  refine Oq Qby (Oq Va (KS ?_))
  refine Kc ?_ ?_
  ·intro h109
   have g110 := eq_of_beq h109
   refine Jp 12 fun hp111 => ?_
   refine Jp 1 fun hp112 => ?_
   refine Qav [0, 0, 2, 6, 14, 0, 62, 0, 0, 256, 896, 2047] Qc8 ?_
   refine Dv [] Vm (Dv [] Vm (Dv [1] (Vn 0) (Dv [1] (Vfa Qlv 0) (Dv [14] (QaQ QsJ 0) (Dv [2] (Qc9 Qhn 0) (Dv [13] (Qqx 0 0 QsB QiQ ze3 (ek := Qch) (ev := vi) (ok := Qb7) (key := (rv19.getD Qc4.toNat default)) Qsx) (Dv [] Vm (Dv [0] (Vfa Qjk 0) (Dv [2] (QaQ sh3 0) ?_)))))))))
   refine QaO (Qgd (QaD.mk (Qbn.mk QfC Qe2 Qfs) Qgv) 3 ((rv19.getD Qc4.toNat default).Func) 0 0) fun rv113 hg114 => Dx [4, 5, 6, 13, 14] [] [3, 2, 3, 2, 1, 0] (fun G => vi rv113) [fun G => SP.fact (Qac rv113 /\ (0 <= rv113 /\ rv113 < ((QaD.mk (Qbn.mk QfC Qe2 Qfs) Qgv).g.Succ.length : Int)))] (fun G => xC [4, 2, 1, 0, 1] Qp9 (QpS p45 (QaD.mk (Qbn.mk QfC Qe2 Qfs) Qgv) a81 k82 a83 k84 a85 k86 p36 3 ((rv19.getD Qc4.toNat default).Func) 0 0 pre pre pre pre (by assumption) rv113 hg114)) ?_
   refine QaO (QbP (QaD.mk (Qbn.mk QfC Qe2 Qfs) Qgv) ((Qea Qgv (rv19.getD Qc4.toNat default)).getD 0) rv113) fun rv118 hg119 => ?_
   refine Dx [4, 5, 6, 13, 14, 15] [4, 5, 13, 14] [6, 7, 0, 1, 1, 2, 2, 2] (fun G => .tuple #[]) [fun G => SP.fact ((BOk rv118) /\ (rv118.g.Succ.length = (QaD.mk (Qbn.mk QfC Qe2 Qfs) Qgv).g.Succ.length)), fun G => Cl p45 [(G.g 11 0), (G.g 11 1), (G.g 11 2), p36], fun G => sl (G.g 11 0) rv118.g.Nodes, fun G => ds (G.g 11 1) rv118.g.Succ, fun G => ds (G.g 11 2) rv118.g.Pred, fun G => Mp Qch vi Qb7 p36 rv118.number] (fun G => by refine xf 5 rfl ?_; rintro ⟨he120, he121⟩; unfold Qac at he120; exact xC [4, 2, 1, 0, 1] Qo6 (Qpc p45 (QaD.mk (Qbn.mk QfC Qe2 Qfs) Qgv) a81 k82 a83 k84 a85 k86 p36 (((Qea Qgv (rv19.getD Qc4.toNat default)).getD 0)) rv113 pre pre (by assumption) (by dsimp only at *; omega) rv118 hg119)) ?_
   refine Dn ⟨by kernel_rfl, fun G => ?_⟩
   refine Jw2 [(1, p4), (2, p5), (6, vl a23 k24 rv19), (7, p45), (49, vl a23 k24 rv19), (50, vi (rv19.length : Int)), (51, vi Qc4)] [0, 1, 2, 3, 6, 7, 8, 9, 10, 11, 12] [SP.fact (Qac rv113 /\ (0 <= rv113 /\ rv113 < ((QaD.mk (Qbn.mk QfC Qe2 Qfs) Qgv).g.Succ.length : Int))), SP.fact ((BOk rv118) /\ (rv118.g.Succ.length = (QaD.mk (Qbn.mk QfC Qe2 Qfs) Qgv).g.Succ.length)), Cl p45 [(G.g 11 0), (G.g 11 1), (G.g 11 2), p36], sl (G.g 11 0) rv118.g.Nodes, ds (G.g 11 1) rv118.g.Succ, ds (G.g 11 2) rv118.g.Pred, Mp Qch vi Qb7 p36 rv118.number] ?_
   generalize G.g 11 0 = c115, G.g 11 1 = c116, G.g 11 2 = c117
   refine Jf 11 rfl ?_; rintro ⟨he122, he123⟩
   unfold Qac at he122
   refine Jf 12 rfl ?_; rintro ⟨he124, he125⟩
   refine Jk [2, 2, 3, 4, 5, 5, 6, 7, 8, 11, 11, 12, 12, 12] ?_
   refine Jo 10 ?_; rintro a126 k127 rfl
   refine Fb 32 10 fun _ => ?_
   refine Jo 11 ?_; rintro a129 k130 rfl
   refine FbD 24 11 fun _ => ?_
   refine Jo 12 ?_; rintro a132 k133 rfl
   refine FbD 24 12 fun _ => ?_
   refine KS ?_
   refine Oq Qbd (Oq Vm (KS ?_))
   exact Kg (r103, rv118.g.Nodes, rv118.g.Succ, rv118.g.Pred, rv118.number, (Qc4 + 1), a126, k127, a129, k130, a132, k133) [12, 11, 10, 3, 4, 4, 5, 6, 7, 10, 8] ⟨(q3 hM87 (by simp only [QcC, h15, h64, h101, h109, hg7, hg20, hR74, hg114, hg119, cs4])), aM1, aM1, aM1, aM1, (by assumption), (by first | omega | (dsimp only at *; omega))⟩
  intro h109
  have g135 := ne_of_beq_false h109
  refine KS ?_
  refine Oq Qby (Oq Va (KS ?_))
  refine Kc ?_ ?_
  ·intro h136
   have g137 := eq_of_beq h136
   have hN3 := hN2 (by have := eq_of_beq h136; omega) (by have := eq_of_beq h136; omega)
   refine Jp 0 fun hp138 => ?_
   refine QcR ((rv19.getD Qc4.toNat default).Func : Int).toNat 9 rfl rng fun a139 k140 hb141 => ?_
   refine Fb 40 1 fun _ => ?_
   refine QcK ((rv19.getD Qc4.toNat default).Block : Int).toNat 1 rfl rng fun a143 k144 hb145 => ?_
   refine Fb 72 1 fun _ => ?_
   refine QdP ((rv19.getD Qc4.toNat default).Stmt : Int).toNat 1 rfl rng fun a147 k148 a149 k150 hb151 hb152 => ?_
   unfold Qac at hb151
   refine Fb 16 1 fun _ => ?_
   refine FoS 1 fun ho154 => ?_
   refine Fb 16 2 fun _ => ?_
   refine FoS 2 fun ho156 => ?_
   refine Qav [0, 0, 0, 0, 8, 0, 32, 120, 248, 504, 0, 1024, 4088, 8184, 16376, 0, 32768, 131064, 262136, 524287] Qc8 ?_
   refine Dv [] Vm (Dv [15] (Qc9 Qec 0) (Dv [8] (Qc9 Qhn 0) (Dv [15] (Vfa QdZ 0) (Dv [15] (QaQ Qia 0) (Dv [7] (Vfa Qjk 0) (Dv [8] (QaQ sh3 0) (Dv [16] (Vi QgV 0) (Dv [5] (Vfa Qd0 0) (Dv [5] (QaQ Qic 0) ?_)))))))))
   refine Dv [7] (Vfa Qnx 0) (Dv [8] (QaQ sh3 0) (Dv [6] (Vi QgJ 0) (Dv [3] (Vfa QdO 0) (Dv [3] (QaQ QhV 0) (Dv [7] (Vfa QmM 0) (Dv [8] (QaQ sh3 0) (Dv [4] (Vi QgE 0) (Dv [0] (Qc9 QdF 0) ?_))))))))
   refine QaO (Qgq (QaD.mk (Qbn.mk QfC Qe2 Qfs) Qgv) p (rv19.getD Qc4.toNat default) (((((p.Funcs.getD ((rv19.getD Qc4.toNat default).Func : Int).toNat default).Blocks).getD ((rv19.getD Qc4.toNat default).Block : Int).toNat default).Stmts).getD ((rv19.getD Qc4.toNat default).Stmt : Int).toNat default)) fun rv160 hg161 => Dx [1, 2, 10, 11, 12, 16, 19, 20] [10, 11, 19, 20] [6, 7, 8, 9, 0, 1, 1, 2, 2, 2] (fun G => .tuple #[]) [fun G => SP.fact ((BOk rv160) /\ (rv160.g.Succ.length = (QaD.mk (Qbn.mk QfC Qe2 Qfs) Qgv).g.Succ.length)), fun G => Cl p45 [(G.g 19 0), (G.g 19 1), (G.g 19 2), p36], fun G => sl (G.g 19 0) rv160.g.Nodes, fun G => ds (G.g 19 1) rv160.g.Succ, fun G => ds (G.g 19 2) rv160.g.Pred, fun G => Mp Qch vi Qb7 p36 rv160.number] (fun G => xC [7, 4, 3, 2, 4, 3, 0, 1] Qvp (QvV p45 (QaD.mk (Qbn.mk QfC Qe2 Qfs) Qgv) a81 k82 a83 k84 a85 k86 p36 p pa0 pk0 ((rv19.getD Qc4.toNat default)) ((((((p.Funcs.getD ((rv19.getD Qc4.toNat default).Func : Int).toNat default).Blocks).getD ((rv19.getD Qc4.toNat default).Block : Int).toNat default).Stmts).getD ((rv19.getD Qc4.toNat default).Stmt : Int).toNat default)) a147 k148 a149 k150 pre pre pre pre pre pre (by assumption) pre (QrK hVp _ _ _) rv160 hg161)) ?_
   refine Dn ⟨by kernel_rfl, fun G => ?_⟩
   refine Jw2 [(1, p4), (2, p5), (6, vl a23 k24 rv19), (7, p45), (49, vl a23 k24 rv19), (50, vi (rv19.length : Int)), (51, vi Qc4)] [0, 1, 2, 3, 4, 5, 6, 7, 8, 9, 12, 13, 14, 15, 16, 17, 18] [SP.fact ((BOk rv160) /\ (rv160.g.Succ.length = (QaD.mk (Qbn.mk QfC Qe2 Qfs) Qgv).g.Succ.length)), Cl p45 [(G.g 19 0), (G.g 19 1), (G.g 19 2), p36], sl (G.g 19 0) rv160.g.Nodes, ds (G.g 19 1) rv160.g.Succ, ds (G.g 19 2) rv160.g.Pred, Mp Qch vi Qb7 p36 rv160.number] ?_
   generalize G.g 19 0 = c157, G.g 19 1 = c158, G.g 19 2 = c159
   refine Jf 17 rfl ?_; rintro ⟨he162, he163⟩
   refine Jk [0, 1, 2, 3, 4, 5, 6, 8, 8, 9, 10, 11, 11, 12, 13, 14, 16, 16, 17, 17, 17] ?_
   refine Jo 17 ?_; rintro a164 k165 rfl
   refine Fb 32 17 fun _ => ?_
   refine Jo 18 ?_; rintro a167 k168 rfl
   refine FbD 24 18 fun _ => ?_
   refine Jo 19 ?_; rintro a170 k171 rfl
   refine FbD 24 19 fun _ => ?_
   refine KS ?_
   refine Oq Qbd (Oq Vm (KS ?_))
   exact Kg (r103, rv160.g.Nodes, rv160.g.Succ, rv160.g.Pred, rv160.number, (Qc4 + 1), a164, k165, a167, k168, a170, k171) [19, 18, 17, 10, 11, 11, 12, 13, 14, 17, 15] ⟨(q3 hM87 (by simp only [QcC, h15, h64, h101, h109, h136, hg7, hg20, hR74, hg161, cs4])), aM1, aM1, aM1, aM1, (by assumption), (by first | omega | (dsimp only at *; omega))⟩
  intro h136
  have g173 := ne_of_beq_false h136
  refine KS ?_
  refine Oq Qbd (Oq Vm (KS ?_))
  exact Kg (r103, QfC, Qe2, Qfs, Qgv, (Qc4 + 1), a81, k82, a83, k84, a85, k86) [2, 2, 2, 3, 4, 4, 5, 6, 7, 8, 8] ⟨(q3 hM87 (by simp only [QcC, h15, h64, h101, h109, h136, hg7, hg20, hR74, cs4])), aM1, aM1, aM1, aM1, (by assumption), (by first | omega | (dsimp only at *; omega))⟩
 intro h101
 have g174 := df h101
 obtain rfl : r75 = 0 := by omega
 refine Ke ?_
 have hR175 := q2 hM87 (QfC, Qe2, Qfs, Qgv) (by simp only [QcC, h15, h64, h101, hg7, hg20, hR74, cs4])
 refine KS ?_
 refine Oq Vm (Oq (QcE Qjj) (Oq Vm (KS ?_)))
 refine Kl (γ := Nat × List (List Int) × List (List Int) × Int) (fun (r176, Qhh, Qhi, Qeh) => ⟨[(2, p5), (7, p45), (95, vi (rv19.length : Int)), (96, vi Qeh)], [ds (vl a85 k86 Qfs) Qhi, ds (vl a83 k84 Qe2) Qhh, S a81 k82 QfC, Cl p5 [.slice none 0 0, .slice none 0 0, .slice none 0 0], pv (gp 0) [vl kwLA kwLK kwL], S kwLA kwLK kwL, Mp Qch vi Qb7 p36 Qgv, Cl p45 [vl a81 k82 QfC, vl a83 k84 Qe2, vl a85 k86 Qfs, p36]], QcZ r176 Qhh Qhi Qeh = QcZ (((rv19.length : Int) - 0).toNat) Qe2 Qfs 0 /\ r176 = ((rv19.length : Int) - Qeh).toNat /\ (0 : Int) <= Qeh /\ Qeh <= (rv19.length : Int) /\ (-9223372036854775808 <= Qeh /\ Qeh <= 9223372036854775807) /\ (Qhh.length = Qe2.length /\ Qhi.length = Qe2.length) /\ (∀ l ∈ Qhh, (l.length : Int) <= 20000) /\ (∀ l ∈ Qhi, (l.length : Int) <= 20000), r176⟩) (((rv19.length : Int) - 0).toNat, Qe2, Qfs, 0) [0, 0, 0, 2, 4, 5, 6, 6] ⟨rfl, rfl, aM1, aM1, aM1, ⟨rfl, Qrr (by assumption)⟩, (QrI (by assumption)), (QqX (by assumption))⟩ ?_
 rintro ⟨r176, Qhh, Qhi, Qeh⟩ ⟨hM180, hr181, hi182, hi183, hk184, hv185, hv186, hv187⟩
 refine QbB fun _ _ hL hA => ?_; dsimp only at hL hA; subst hL hA
 refine FbD 24 0 fun _ => ?_
 refine FlD 0 fun hn189 => ?_
 refine FbD 24 1 fun _ => ?_
 refine FlD 1 fun hn191 => ?_
 refine Fb 32 2 fun _ => Fb 16 5 fun _ => ?_
 refine FoS 5 fun ho194 => ?_
 refine KS ?_
 refine Oq Qcu (KS ?_)
 refine Kc ?_ ?_
 ·intro h195
  have g196 := dt h195
  obtain ⟨r197, rfl⟩ := scc (n := r176) aM1
  refine KS ?_
  refine Oq Vm (Oq Va (KS ?_))
  refine Oq Vm (Oq (Vn 7) (Oq (Vfa QiB 7) (Oq (Qqa Qgz 7) (Oq (QaQ QjR 7) (Oq Vm (Oq (Vi Qi6 1) ?_))))))
  refine QhW Qeh.toNat 1 rfl rng fun a198 k199 => ?_
  refine Fb 8 1 fun _ => Fo 1 fun ho201 => Oq (Vld QkW 0) ?_
  refine QaO (Qca (Qhh.getD Qeh.toNat [])) fun rv202 hg203 => ?_
  have hc204 := Qt0 ((Qhh.getD Qeh.toNat [])) a198 k199 (Qpf (by assumption)) rv202 hg203
  refine Oc [1] QuB hc204 ?_
  rintro - he205
  refine Fb 8 0 fun _ => Fo 0 fun ho207 => KS ?_
  refine Oq Vm (Oq (Vn 8) (Oq (Vfa QiB 8) (Oq (Qqa Qjg 8) (Oq (QaQ QjR 8) (Oq Vm (Oq (Vi Qi6 2) ?_))))))
  refine QhW Qeh.toNat 2 rfl rng fun a208 k209 => ?_
  refine Fb 8 1 fun _ => Fo 1 fun ho211 => Oq (Vld QkW 0) ?_
  refine QaO (Qca (Qhi.getD Qeh.toNat [])) fun rv212 hg213 => ?_
  have hc214 := Qt0 ((Qhi.getD Qeh.toNat [])) a208 k209 (Qpf (by assumption)) rv212 hg213
  refine Oc [1] QuB hc214 ?_
  rintro - he215
  refine Fb 8 0 fun _ => Fo 0 fun ho217 => KS ?_
  refine Oq Qbd (Oq Vm (KS ?_))
  refine Jl [1, 0] (Ent.closeD (A := [os (vl a208 k209 (Qhi.getD Qeh.toNat [])) rv212]) _ _ _ _ rv212 QqN) ?_
  refine Jl [2, 1] (Ent.closeD (A := [os (vl a198 k199 (Qhh.getD Qeh.toNat [])) rv202]) _ _ _ _ rv202 QqN) ?_
  exact Kg (r197, (Qhh.set Qeh.toNat rv202), (Qhi.set Qeh.toNat rv212), (Qeh + 1)) [1, 0, 0, 1, 1, 2, 3, 3] ⟨(q3 hM180 (by simp only [QcZ, h15, h64, h101, h195, hg7, hg20, hR74, hR175, hg203, hg213, cs4])), aM1, aM1, aM1, aM1, (by (try simp only [List.length_set]); omega), (QkO (by assumption) (by assumption)), (QkO (by assumption) (by assumption))⟩
 intro h195
 have g218 := df h195
 obtain rfl : r176 = 0 := by omega
 refine Ke ?_
 have hR219 := q2 hM180 (Qhh, Qhi) (by simp only [QcZ, h15, h64, h101, h195, hg7, hg20, hR74, hR175, cs4])
 refine KS ?_
 refine Oq Vm (Oq (Vn 7) (Oq (Vfa QiB 7) (Oq (QvT QmP 7 [vl a81 k82 QfC, vl a83 k84 Qe2, vl a85 k86 Qfs]) (Ost (Scl [3] QmP [vl a81 k82 QfC, vl a83 k84 Qe2, vl a85 k86 Qfs]) (Oq Va (KS ?_))))))
 refine Jl [2] (Ent.dsF _ _) ?_
 refine Jl [2] (Ent.dsF _ _) ?_
 have hq := q4 hrr ((Qbn.mk QfC Qhh Qhi), 0) (by simp only [QfI, h15, h64, h101, h195, hg7, hg20, hR74, hR175, hR219, cs4]); subst hq
 exact Kr (vl a81 k82 QfC, vl a83 k84 Qe2, vl a85 k86 Qfs) rfl (.cellN 2 rfl QmP rfl (QaC _ _) rfl (.tmp rfl .nil)) [3, 1, 0] ⟨en, (by first | rfl | (dsimp only at *; omega))⟩
theorem QvQ (kwLA : Option Addr) (kwLK : Nat) (rr : Bool) (hrr : Qfw = rr) : FT Tryd.prog 12 #[] [pv (gp 0) [vl kwLA kwLK kwL], S kwLA kwLK kwL] (fun g : Unit => True) (fun g => vb rr) (fun g => []) := by
 refine FTi Tryd.func12 fun w0 M0 F0 => Fb 16 1 fun _ => ?_
 refine FoS 1 fun ho2 => ?_
 refine KS ?_
 refine Oq Va (KS ?_)
 refine QaO (QbX (Str.mk [102, 117, 110, 99, 32, 109, 59, 32, 98, 108, 111, 99, 107, 32, 98, 59, 32, 98, 114, 97, 110, 99, 104, 32, 120, 32, 98, 32, 98, 59, 32, 101, 110, 100])) fun rv4 hg5 => ?_
 have hc6 := Qu7 ((Str.mk [102, 117, 110, 99, 32, 109, 59, 32, 98, 108, 111, 99, 107, 32, 98, 59, 32, 98, 114, 97, 110, 99, 104, 32, 120, 32, 98, 32, 98, 59, 32, 101, 110, 100])) pre rv4 hg5
 refine Oc [] Qva hc6 ?_
 rintro c3 ⟨he7, he8, he9⟩
 unfold Qac at he7 he8 he9
 refine Jo 0 ?_; rintro a10 k11 rfl
 refine Fb 40 0 fun _ => ?_
 refine Oq Vm (Oq Vx (Oq Vx (Oq Vx (Oq Vx (Oa (Al QqM [.slice none 0 0]) fun p13 => Ost (Scl [0] Qec [vl a10 k11 rv4.1.Funcs]) (Oq Va (Oq Va (Oq Va ?_))))))))
 refine KS ?_
 refine Oq (Qc9 Qec 0) ?_
 refine QaO (QfI rv4.1) fun rv17 hg18 => ?_
 have hc19 := fn8 rv4.1 a10 k11 kwLA kwLK (by first | exact QoX (by assumption) (by kernel_rfl) | exact Qir (by assumption) | exact Qlj (QhB (by assumption))) rv17 hg18
 refine Oc [1, 2, 3] ca8 hc19 ?_
 rintro ⟨c14, c15, c16⟩ ⟨he20, he21⟩
 unfold Qac at he20
 refine Jo 0 ?_; rintro a22 k23 rfl
 refine Fb 32 0 fun _ => ?_
 refine Jo 1 ?_; rintro a25 k26 rfl
 refine Fb 24 1 fun _ => ?_
 refine Jo 2 ?_; rintro a28 k29 rfl
 refine Fb 24 2 fun _ => ?_
 refine Oq Vm (Oq Vx (Oq Vx (Oa (Al Qtp [.slice none 0 0, .slice none 0 0, .slice none 0 0]) fun p31 => Ost (Scl [0] QmP [vl a22 k23 rv17.1.Nodes, vl a25 k26 rv17.1.Succ, vl a28 k29 rv17.1.Pred]) (Oq Va (KS ?_)))))
 refine Oq Vm (Oq Qby (Oq Vm ?_))
 refine Js 20 ?_ ?_
 ·intro h32
  have g33 := eq_of_beq h32
  refine Oq (Vfa Qgz 0) (Oq (QaQ QjR 0) (Oq (QcE Qi6) (Oq Qby (Oq Vpt (Oq Vm ?_)))))
  refine Js 26 ?_ ?_
  ·intro h34
   have g35 := eq_of_beq h34
   refine Oq (Vfa Qgz 0) (Oq (QaQ QjR 0) (Oq (Vi Qi6 2) ?_))
   refine Qgf (0 : Int).toNat 2 rfl rng fun a36 k37 => ?_
   refine Fb 8 1 fun _ => Fo 1 fun ho39 => ?_
   refine Oq (Vld QkW 0) (Oa (AsV Qb2 Qp8 [vi 1] [vi 1]) fun c40 => ?_)
   refine Jo 0 ?_; rintro a41 k42 rfl
   refine Jl [0] (Ent.crInt _ [1] _ _ rfl rfl (by intro x hx; rw [List.mem_singleton] at hx; subst hx; unfold Qac; omega) aB1) ?_
   refine QaO (Qgk (rv17.1.Succ.getD (0 : Int).toNat []) [1]) fun rv43 hg44 => ?_
   refine Oc [0, 1] Qtx (QgB (A := _) (fun _ _ h => by cases h) (QjQ (Ent.take (is := [1, 0]) rfl) (Qs7 ((rv17.1.Succ.getD (0 : Int).toNat [])) a36 k37 ([1]) a41 k42 rv43 hg44))) ?_ (ht := rfl)
   rintro - -
   refine Oq Vpt (Oq Vm ?_)
   refine Js 34 ?_ ?_
   ·intro h45
    refine Oq (Vfa Qgz 3) (Oq (QaQ QjR 3) (Oq (Vi Qi6 5) ?_))
    refine Qgf (1 : Int).toNat 5 rfl rng fun a47 k48 => ?_
    refine Fb 8 1 fun _ => Fo 1 fun ho50 => ?_
    refine Oq (Vld QkW 0) (Oa (AsV Qb2 Qp8 [vi 1] [vi 1]) fun c51 => ?_)
    refine Jo 0 ?_; rintro a52 k53 rfl
    refine Jl [0] (Ent.crInt _ [1] _ _ rfl rfl (by intro x hx; rw [List.mem_singleton] at hx; subst hx; unfold Qac; omega) aB1) ?_
    refine QaO (Qgk (rv17.1.Succ.getD (1 : Int).toNat []) [1]) fun rv54 hg55 => ?_
    refine Oc [0, 1] Qtx (QgB (A := _) (fun _ _ h => by cases h) (QjQ (Ent.take (is := [1, 0]) rfl) (Qs7 ((rv17.1.Succ.getD (1 : Int).toNat [])) a47 k48 ([1]) a52 k53 rv54 hg55))) ?_ (ht := rfl)
    rintro - -
    refine Oq Vpt (Oq Vm ?_)
    refine Js 42 ?_ ?_
    ·intro h56
     refine Oq (Vfa Qgz 6) (Oq (QaQ QjR 6) (Oq (Vi Qi6 8) ?_))
     refine Qgf (2 : Int).toNat 8 rfl rng fun a58 k59 => ?_
     refine Fb 8 1 fun _ => Fo 1 fun ho61 => ?_
     refine Oq (Vld QkW 0) (Oq (QcE Qb2) (Oq Qby (Oq Vpt (Oq Vm ?_))))
     refine Js 50 ?_ ?_
     ·intro h62
      have g63 := eq_of_beq h62
      refine Oq (Vfa Qjg 8) (Oq (QaQ QjR 8) (Oq (Vi Qi6 11) ?_))
      refine Qgf (1 : Int).toNat 11 rfl rng fun a64 k65 => ?_
      refine Fb 8 1 fun _ => Fo 1 fun ho67 => ?_
      refine Oq (Vld QkW 0) (Oa (AsV Qb2 Qp8 [vi 0, vi 1] [vi 0, vi 1]) fun c68 => ?_)
      refine Jo 0 ?_; rintro a69 k70 rfl
      refine Jl [0] (Ent.crInt _ [0, 1] _ _ rfl rfl (by intro x hx; simp only [List.mem_cons, List.not_mem_nil, or_false] at hx; rcases hx with rfl | rfl <;> (unfold Qac; omega)) aB1) ?_
      refine QaO (Qgk (rv17.1.Pred.getD (1 : Int).toNat []) [0, 1]) fun rv71 hg72 => ?_
      refine Oc [0, 1] Qtx (QgB (A := _) (fun _ _ h => by cases h) (QjQ (Ent.take (is := [1, 0]) rfl) (Qs7 ((rv17.1.Pred.getD (1 : Int).toNat [])) a64 k65 ([0, 1]) a69 k70 rv71 hg72))) ?_ (ht := rfl)
      rintro - -
      refine Oq Vpt (Oq Vm ?_)
      refine Js 58 ?_ ?_
      ·intro h73
       refine Oq (Qc9 QmP 11) ?_
       refine QaO (QfJ rv17.1) fun rv75 hg76 => ?_
       have hc77 := QuC rv17.1 a22 k23 a25 k26 a28 k29 rv75 hg76
       refine Oc [12, 13, 14] QtZ hc77 ?_
       rintro - he78
       unfold Qac at he78
       refine Oq Qby (Oq Vpt (Oq Va (KS ?_)))
       have hq := q4 hrr (rv75 == 2) (by simp only [Qfw, h32, h34, h45, h56, h62, h73, hg5, hg18, hg44, hg55, hg72, hg76, cs4]); subst hq
       exact Kr () rfl (.tmp rfl .nil) [] trivial
      intro h73
      refine Osk (Osk (Osk (Oq Vpf (Oq Va (KS ?_)))))
      have hq := q4 hrr false (by simp only [Qfw, h32, h34, h45, h56, h62, h73, hg5, hg18, hg44, hg55, hg72, cs4]); subst hq
      exact Kr () rfl (.tmp rfl .nil) [] trivial
     intro h62
     have g80 := ne_of_beq_false h62
     refine Osk (Osk (Osk (Osk (Osk (Osk (Oq Vpf (Oq Vm (Osk (Osk ?_)))))))))
     refine Osk (Oq Vpf (Oq Va (KS ?_)))
     have hq := q4 hrr false (by simp only [Qfw, h32, h34, h45, h56, h62, hg5, hg18, hg44, hg55, cs4]); subst hq
     exact Kr () rfl (.tmp rfl .nil) [] trivial
    intro h56
    refine Osk (Osk (Osk (Osk (Osk (Osk (Oq Vpf (Oq Vm (Osk (Osk ?_)))))))))
    refine Osk (Osk (Osk (Osk (Oq Vpf (Oq Vm (Osk (Osk (Osk (Oq Vpf ?_)))))))))
    refine Oq Va (KS ?_)
    have hq := q4 hrr false (by simp only [Qfw, h32, h34, h45, h56, hg5, hg18, hg44, hg55, cs4]); subst hq
    exact Kr () rfl (.tmp rfl .nil) [] trivial
   intro h45
   refine Osk (Osk (Osk (Osk (Osk (Osk (Oq Vpf (Oq Vm (Osk (Osk ?_)))))))))
   refine Osk (Osk (Osk (Osk (Oq Vpf (Oq Vm (Osk (Osk (Osk (Osk ?_)))))))))
   refine Osk (Osk (Oq Vpf (Oq Vm (Osk (Osk (Osk (Oq Vpf (Oq Va (KS ?_)))))))))
   have hq := q4 hrr false (by simp only [Qfw, h32, h34, h45, hg5, hg18, hg44, cs4]); subst hq
   exact Kr () rfl (.tmp rfl .nil) [] trivial
  intro h34
  have g83 := ne_of_beq_false h34
  refine Osk (Osk (Osk (Osk (Osk (Osk (Oq Vpf (Oq Vm (Osk (Osk ?_)))))))))
  refine Osk (Osk (Osk (Osk (Oq Vpf (Oq Vm (Osk (Osk (Osk (Osk ?_)))))))))
  refine Osk (Osk (Oq Vpf (Oq Vm (Osk (Osk (Osk (Osk (Osk (Osk ?_)))))))))
  refine Oq Vpf (Oq Vm (Osk (Osk (Osk (Oq Vpf (Oq Va (KS ?_)))))))
  have hq := q4 hrr false (by simp only [Qfw, h32, h34, hg5, hg18, cs4]); subst hq
  exact Kr () rfl (.tmp rfl .nil) [] trivial
 intro h32
 have g84 := ne_of_beq_false h32
 refine Osk (Osk (Osk (Osk (Oq Vpf (Oq Vm (Osk (Osk (Osk (Osk ?_)))))))))
 refine Osk (Osk (Oq Vpf (Oq Vm (Osk (Osk (Osk (Osk (Osk (Osk ?_)))))))))
 refine Oq Vpf (Oq Vm (Osk (Osk (Osk (Osk (Osk (Osk (Oq Vpf (Oq Vm ?_)))))))))
 refine Osk (Osk (Osk (Osk (Osk (Osk (Oq Vpf (Oq Vm (Osk (Osk ?_)))))))))
 refine Osk (Oq Vpf (Oq Va (KS ?_)))
 have hq := q4 hrr false (by simp only [Qfw, h32, hg5, hg18, cs4]); subst hq
 exact Kr () rfl (.tmp rfl .nil) [] trivial
theorem fn6 (l : List Int) (la0 : Option Addr) (lk0 : Nat) (rr : Unit) (hrr : Qn7 l = rr) : FT Tryd.prog 6 #[vl la0 lk0 l] [S la0 lk0 l] (fun g : Value => True) (fun g => g) (fun g => [Cl g [vl la0 lk0 l, vi 0]]) := by
 refine FTi Tryd.func6 fun w0 M0 F0 => Fb 8 0 fun _ => Fo 0 fun ho2 => ?_
 refine KS ?_
 refine Oq Va (KS ?_)
 refine Oq Vm (Oq (Vbd Qwi [vl la0 lk0 l, vi 0]) (Oa (AbO [vl la0 lk0 l, vi 0]) fun p3 => Oq Va (KS ?_)))
 have hq := q4 hrr () (by simp only [Qn7, cs4]); subst hq
 exact Kr p3 rfl (.tmp rfl .nil) [0] trivial
theorem Qwh (v : Int) (n : Int) (QqC : Qac v) (Qoy : Qac n) (hn1 : 1 <= n) (rr : Int) (hrr : QmD v n = rr) : FT Tryd.prog 44 #[vi v, vi n] [] (fun g : Unit => Qac rr /\ (0 <= rr /\ rr < n)) (fun g => vi rr) (fun g => []) := by
 refine FTi Tryd.func44 fun w0 M0 F0 => ?_
 unfold Qac at QqC Qoy
 have hm := Qjm v n aM1
 refine KS ?_
 refine Oq Va (KS ?_)
 refine Oq Vm (Oq (VcU un3 Ql3) (Oq Vm (Oq (VcU un3 Ql3) (Oq (Qtu (Qn5 n aM1)) (Oq (VcN Ql3 un3 (h := (QrN v n aM1))) (Oq Va (KS ?_)))))))
 have hq := q4 hrr (((BitVec.ofInt 64 v) % (BitVec.ofInt 64 n)).toNat : Int) (by simp only [QmD, cs4]); subst hq
 exact Kr () rfl (.tmp rfl .nil) [] en
theorem Qmo (tP : Value) (ta : Option Addr) (tk : Nat) (tT : List Int) (tI : Int) (n : Int) (htI : 0 <= tI /\ tI <= (tT.length : Int)) (Qoy : Qac n) (rr : Int × Int) (hrr : QaK tT tI n = rr) : FT Tryd.prog 19 #[tP, vi n] [Cl tP [vl ta tk tT, vi tI], S ta tk tT] (fun g : Unit => Qac rr.1 /\ (0 <= rr.2 /\ rr.2 <= (tT.length : Int)) /\ (0 <= rr.1 /\ (rr.1 < n \/ rr.1 = 0))) (fun g => vi rr.1) (fun g => [Cl tP [vl ta tk tT, vi rr.2]]) := by
 refine FTi Tryd.func19 fun w0 M0 F0 => ?_
 unfold Qac at Qoy
 refine Fb 8 1 fun _ => Fo 1 fun ho2 => KS ?_
 refine Oq Va (KS ?_)
 refine Jp 0 fun hp3 => ?_
 refine Kq [0, 1, 3, 7, 15, 31, 63, 7, 135, 391, 903, 1927, 4095, 8191] Qc8 ?_
 refine Qv [] Vm (Qv [] Qh8 ?_)
 refine QbI (decide (n <= 1)) ?_ ?_
 ·intro h4
  have g5 := dt h4
  refine Qb h4 [] Vm (Qs (Qs (Qs (Qs (Qs (Qs (Qs (Qs (Qs ?_)))))))))
  refine Qs (Qv [] Vpt ?_)
  refine Qn ⟨by kernel_rfl, ?_⟩
  refine Kt (KS ?_)
  refine Oq Va (KS ?_)
  have hq := q4 hrr (0, tI) (by simp only [QaK, h4, cs4]); subst hq
  exact Kr () rfl (.tmp rfl .nil) [1] en
 intro h4
 have g6 := df h4
 refine Qb h4 [] Vm (Qv [] Vm (Qv [0] (Vn 0) (Qv [0] (Vfa Qlp 0) (Qv [1] (QaQ sh3 0) (Qv [] Vm (Qv [0] (Vn 0) (Qv [0] (Vfa Qpi 0) (Qv [1] (QaQ QkW 0) (Qv [] (QcE Qb2) ?_)))))))))
 refine Qv [] QeU (Qv [] Vpf ?_)
 refine Qn ⟨by kernel_rfl, ?_⟩
 refine Kc ?_ ?_
 ·intro h7
  have g8 := dt h7
  refine KS ?_
  refine Oq Va (KS ?_)
  have hq := q4 hrr (0, tI) (by simp only [QaK, h4, h7, cs4]); subst hq
  exact Kr () rfl (.tmp rfl .nil) [1] en
 intro h7
 have g9 := df h7
 refine KS ?_
 refine Oq Vm (Oq (Vn 1) (Oq (Vfa Qlp 1) (Oq (QaQ sh3 1) (Oq Qbd (Oq (Vn 1) (Oq (Vfa Qlp 1) (Ost (Qfk [1] sh3 [vl ta tk tT, vi (tI + 1)]) (KS ?_))))))))
 refine Qav [0, 1, 3, 7, 0, 16, 48, 112, 240, 511, 1023, 0, 4095, 8191] Qc8 ?_
 refine Dv [] Vm (Dv [1] (Vn 0) (Dv [1] (Vfa Qpi 0) (Dv [0] (QaQ QkW 0) (Dv [] Vm (Dv [1] (Vn 0) (Dv [1] (Vfa Qlp 0) (Dv [0] (QaQ sh3 0) (Dv [] QdE (Dv [2] (Vi Qb2 0) ?_)))))))))
 have hb10 := ok1 (i := (((tI + 1) - 1) : Int).toNat) ho2 rng
 refine Dv [2] (QdG sh3 0) (Dv [] Vm ?_)
 refine QaO (QmD (tT.getD (((tI + 1) - 1) : Int).toNat 0) n) fun rv11 hg12 => ?_
 refine Dx [] [] [0] (fun G => vi rv11) [fun G => SP.fact (Qac rv11 /\ (0 <= rv11 /\ rv11 < n))] (fun G => xC [] Qv6 (Qwh ((tT.getD (((tI + 1) - 1) : Int).toNat 0)) n pre pre pre rv11 hg12)) (Dv [] Va ?_)
 refine Dn ⟨by kernel_rfl, fun G => ?_⟩
 refine Jw2 [(4, vi rv11)] [0, 1, 2] [SP.fact (Qac rv11 /\ (0 <= rv11 /\ rv11 < n))] ?_
 refine Jf 3 rfl ?_; rintro ⟨he13, he14⟩
 unfold Qac at he13
 refine Jk [0, 1] ?_
 have hq := q4 hrr (rv11, (tI + 1)) (by simp only [QaK, h4, h7, hg12, cs4]); subst hq
 exact Kr () rfl (.tmp rfl .nil) [0] en
theorem QnI (tP : Value) (ta : Option Addr) (tk : Nat) (tT : List Int) (tI : Int) (htI : 0 <= tI /\ tI <= (tT.length : Int)) (rr : Str × Int) (hrr : Qci tT tI = rr) : FT Tryd.prog 22 #[tP] [Cl tP [vl ta tk tT, vi tI], S ta tk tT] (fun g : Unit => rr.1.b.length <= 140737488355328 /\ (0 <= rr.2 /\ rr.2 <= (tT.length : Int))) (fun g => .string (bs rr.1)) (fun g => [Cl tP [vl ta tk tT, vi rr.2]]) := by
 refine FTi Tryd.func22 fun w0 M0 F0 => Fb 8 1 fun _ => Fo 1 fun ho2 => ?_
 refine KS ?_
 refine Oq Va (KS ?_)
 refine Oa (AsV Qcy Qe3 [.string (bs (Str.mk [120])), .string (bs (Str.mk [121])), .string (bs (Str.mk [122])), .string (bs (Str.mk [119]))] [.string (bs (Str.mk [120])), .string (bs (Str.mk [121])), .string (bs (Str.mk [122])), .string (bs (Str.mk [119]))]) fun c3 => ?_
 refine Jo 0 ?_; rintro a4 k5 rfl
 refine Oq Vm ?_
 refine QaO (QaK tT tI 4) fun rv6 hg7 => ?_
 have hc8 := Qmo tP ta tk tT tI 4 pre pre rv6 hg7
 refine Oc [1, 1] Qmm hc8 ?_
 rintro - ⟨he9, he10, he11⟩
 unfold Qac at he9
 refine Jl [1] (Ent.crOs (α := Str) (A := []) _ ([(Str.mk [120]), (Str.mk [121]), (Str.mk [122]), (Str.mk [119])] : List Str) _ aB1 (fun h => ⟨[.string (bs (Str.mk [120]))], [.string (bs (Str.mk [121])), .string (bs (Str.mk [122])), .string (bs (Str.mk [119]))], rfl, (fun _ => ⟨rfl, by first | omega | (simp; done) | (dsimp only; omega) | exact Qcf rfl⟩) h, ⟨[.string (bs (Str.mk [121]))], [.string (bs (Str.mk [122])), .string (bs (Str.mk [119]))], rfl, (fun _ => ⟨rfl, by first | omega | (simp; done) | (dsimp only; omega) | exact Qcf rfl⟩) h, ⟨[.string (bs (Str.mk [122]))], [.string (bs (Str.mk [119]))], rfl, (fun _ => ⟨rfl, by first | omega | (simp; done) | (dsimp only; omega) | exact Qcf rfl⟩) h, ⟨[.string (bs (Str.mk [119]))], [], rfl, (fun _ => ⟨rfl, by first | omega | (simp; done) | (dsimp only; omega) | exact Qcf rfl⟩) h, rfl⟩⟩⟩⟩)) ?_
 refine Oq (Vi Qcy 0) ?_
 refine Fb 16 0 fun _ => ?_
 refine FoS 0 fun ho13 => ?_
 have hb14 := okS (i := rv6.1.toNat) ho13 rng
 refine Oq (Qk5 sh9 0) (Oq Va (KS ?_))
 have hq := q4 hrr (([(Str.mk [120]), (Str.mk [121]), (Str.mk [122]), (Str.mk [119])].getD rv6.1.toNat default), rv6.2) (by simp only [Qci, hg7, cs4]); subst hq
 exact Kr () rfl (.tmp rfl .nil) [1] en
end Go.SL.G
