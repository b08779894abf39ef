/- Part 3 of the walks: mirrors, plain laws and walks used by the last text of this claim. -/
import Derived.Test.YtnlgcebcopebdaaGreatDoorW2
import Derived.Test.YtnlgcebcopebdaaGreatDoorProg
set_option linter.unusedVariables false
set_option linter.unusedSimpArgs false
namespace Go.SL.G
open Go Go.SL Go.Proofs
set_option maxHeartbeats 20000000
set_option maxRecDepth 100000
theorem Qr0 {t : Str} {r : Qav × Int × Int × Int} (h : QbN t = r) (e : PSm (QbN t).1 = true) : PSm r.1 = true := h ▸ e
theorem QgS {l : List Qax} : ∀ (r : Nat) (p1 p2 : Int) (out : List QbR), (0 <= p1 /\ p1 <= (l.length : Int)) /\ (l.length : Int) - p1 < (r : Int) -> QbJ l r p1 p2 out ≠ LR.oof /\ (∀ a b o, QbJ l r p1 p2 out = .brk (a, b, o) -> Adv l.length p1 a) /\ (∀ x, QbJ l r p1 p2 out ≠ .ret x)
 | 0, p1, p2, out, h => by omega
 | r + 1, p1, p2, out, h => by
  rw [QbJ]
  cases e : Qeh (Qab.mk l p1 p2) (Str.mk [102, 117, 110, 99]) with
  | false => exact ⟨fun h => (by cases h), fun a b o h' => (by cases h'; exact ⟨Int.le_refl _, h.1.2⟩), fun x h => (by cases h)⟩
  | true =>
   have st := Qkp (p := Qab.mk l p1 p2) ⟨Int.le_refl _, h.1.2⟩ h.1.1 e
   dsimp only at st
   have s1 := st.1
   have s2 := st.2
   simp only [cond_true]
   have ih := fun o => QgS (l := l) r (Qco (Qab.mk l p1 p2)).2.at_ (Qco (Qab.mk l p1 p2)).2.Err o (by omega)
   simp only [Bool.cond_eq_ite]
   split
   ·refine ⟨fun h => (by cases h), fun a b o h' => ?_, fun x h' => (by cases h')⟩
    cases h'
    rw [QgD]; exact ⟨Int.le_refl _, h.1.2⟩
   ·have k := ih (out ++ [(Qco (Qab.mk l p1 p2)).1])
    exact ⟨k.1, fun a b o h' => by have := k.2.1 a b o h'; exact ⟨by have := this.1; omega, this.2⟩, k.2.2⟩
theorem QmQ (c : Int) : QdF c = (QbG c && !(c == 95)) := by
 by_cases h : c = 95
 ·subst h; decide
 ·have h7 : (c == 95) = false := by simpa using h
  unfold QdF QbG
  rw [h7]
  generalize decide (97 <= c) = a1
  generalize decide (c <= 122) = a2
  generalize decide (65 <= c) = a3
  generalize decide (c <= 90) = a4
  all_goals (cases a1 <;> cases a2 <;> cases a3 <;> cases a4 <;> rfl)
theorem Qlk (s : List Str) (v : Str) : QcJ s v = s.any (fun k => k == v) := by
 have := Qlc (fun r i => Qb8 s v r i) (fun i => v == (s.getD i.toNat default)) () (fun _ => rfl) (fun _ _ => rfl) ((((s.length : Nat) : Int) - 0).toNat) 0
 unfold QcJ QdC
 rw [Bool.eq_iff_iff, List.any_eq_true]
 rcases this with ⟨j, e, j1, j2, j3⟩ | ⟨e, h⟩
 ·rw [e]; exact ⟨fun _ => ⟨s.getD j.toNat default, Qcw (by omega), by rw [beq_iff_eq] at j3 ⊢; exact j3.symm⟩, fun _ => by simpa using j1⟩
 ·rw [e]
  refine ⟨fun h => by simp at h, ?_⟩
  rintro ⟨x, hx, hfx⟩
  obtain ⟨j, j1, j2, j3⟩ := (QgQ (d := default)).1 hx
  have := h j j1 (by omega)
  rw [j3] at this; rw [beq_iff_eq] at hfx; rw [hfx] at this; simp at this
theorem Qpi (c : Int) : QeA c = (QbG c || Qdz c) := by
 unfold QeA QdF Qha QbG Qdz
 dsimp only
 generalize decide (97 <= c) = a1
 generalize decide (c <= 122) = a2
 generalize decide (65 <= c) = a3
 generalize decide (c <= 90) = a4
 generalize decide (48 <= c) = a5
 generalize decide (c <= 57) = a6
 generalize (c == 95) = a7
 all_goals (cases a1 <;> cases a2 <;> cases a3 <;> cases a4 <;> cases a5 <;> cases a6 <;> cases a7 <;> rfl)
theorem QpT (s : Str) : Qbm s = (decide (1 <= s.b.length /\ s.b.length <= 16) && ((QbG ((s.b.getD 0 0).toNat : Int) && !(((s.b.getD 0 0).toNat : Int) == 95)) && ((s.b.all fun c => QeA (c.toNat : Int)) && !(kwL.any fun k => k == s)))) := by
 have l0 : Qcj s ((s.b.length : Int) - 0).toNat 0 = if (s.b.all fun c => QeA (c.toNat : Int)) = true then .brk () else .ret false :=
  QoS (Qcj s) (fun i => by rw [Qcj]) fun r i h0 h1 => by
   rw [Qcj, show (default : UInt8) = 0 from rfl, Qpi]
   dsimp only
   all_goals (cases QbG ((s.b.getD (i : Int).toNat 0).toNat : Int) <;> cases Qdz ((s.b.getD (i : Int).toNat 0).toNat : Int) <;> rfl)
 have l1 : QcF s ((Qb5.length : Int) - 0).toNat 0 = if (Qb5.all fun k => !(k == s)) = true then .brk () else .ret false :=
  QoS (QcF s) (fun i => by rw [QcF]) fun r i h0 h1 => by
   rw [QcF]
   all_goals (cases Qb5.getD (i : Int).toNat default == s <;> rfl)
 have e : (Qb5.all fun k => !(k == s)) = !(kwL.any fun k => k == s) := by
  rw [List.any_eq_not_all_not, Bool.not_not]; rfl
 unfold Qbm
 dsimp only
 rw [l0, l1, e, show (0 : Int).toNat = 0 from rfl]
 by_cases h0 : ((s.b.length : Nat) : Int) = 0
 ·have : ¬ (1 <= s.b.length /\ s.b.length <= 16) := by omega
  simp only [h0, this, decide_false, Bool.false_and]; rfl
 by_cases h1 : 16 < ((s.b.length : Nat) : Int)
 ·have : ¬ (1 <= s.b.length /\ s.b.length <= 16) := by omega
  simp only [h1, this, decide_false, decide_true, Bool.false_and, cond_true]
  all_goals (cases ((s.b.length : Nat) : Int) == 0 <;> rfl)
 have h2 : (1 <= s.b.length /\ s.b.length <= 16) := by omega
 have h3 : (((s.b.length : Nat) : Int) == 0) = false := by simpa using h0
 simp only [h3, h1, h2, decide_true, decide_false, cond_false, Bool.true_and, and_self]
 all_goals (cases QbG ((s.b.getD 0 0).toNat : Int) <;> cases (((s.b.getD 0 0).toNat : Int) == 95) <;> cases (s.b.all fun c => QeA (c.toNat : Int)) <;> cases (kwL.any fun k => k == s) <;> rfl)
theorem Qlf (s : Str) : (Qe2 s 0 == ((s.b.length : Nat) : Int)) = s.b.all (fun c => QeA (c.toNat : Int)) := by
 have key : ∀ (suf pre : List UInt8), s.b = pre ++ suf -> (QcD s suf.length (pre.length : Int) == ((s.b.length : Nat) : Int)) = suf.all (fun c => QeA (c.toNat : Int)) := fun suf => by
  induction suf with
  | nil => intro pre h; rw [List.length_nil, QcD, h, List.append_nil, List.all_nil]; simp
  | cons a suf ih =>
   intro pre h
   have hg : s.b.getD ((pre.length : Int)).toNat 0 = a := by rw [h]; simp
   have hlen : s.b.length = pre.length + (suf.length + 1) := by rw [h]; simp
   rw [List.length_cons, QcD, hg, List.all_cons]
   try dsimp only
   cases hp : QeA (a.toNat : Int)
   ·rw [cond_false, Bool.false_and, hlen]; simp; omega
   ·rw [cond_true, Bool.true_and]
    have := ih (pre ++ [a]) (by rw [h]; simp)
    rw [List.length_append, List.length_cons, List.length_nil, Int.natCast_add] at this
    exact this
 have := key s.b [] rfl
 unfold Qe2
 rw [show (((s.b.length : Nat) : Int) - 0).toNat = s.b.length by omega]
 exact this
theorem Qkv (s : Str) : Qb4 s = Qbm s := by
 rw [QpT]
 unfold Qb4
 dsimp only
 rw [Qlf, QmQ, Qlk, show (0 : Int).toNat = 0 from rfl]
 by_cases h0 : s = Str.mk []
 ·subst h0; rfl
 have hs : (s == Str.mk []) = false := by simpa using h0
 have hp := Qnc hs
 rw [hs, cond_false]
 by_cases h1 : 16 < ((s.b.length : Nat) : Int)
 ·have : ¬ (1 <= s.b.length /\ s.b.length <= 16) := by omega
  simp only [h1, this, decide_false, decide_true, Bool.false_and, cond_true]
 have h2 : (1 <= s.b.length /\ s.b.length <= 16) := by omega
 simp only [h1, h2, decide_true, decide_false, cond_false, Bool.true_and, and_self]
 all_goals (cases QbG ((s.b.getD 0 0).toNat : Int) <;> cases (((s.b.getD 0 0).toNat : Int) == 95) <;> cases (s.b.all fun c => QeA (c.toNat : Int)) <;> cases (kwL.any fun k => k == s) <;> rfl)
theorem Ql5 : Qb4 = Qbm := funext Qkv
theorem QpW (s : List Qbc) (fp : Qbc -> Bool) : Qb6 s fp = s.any fp := by
 have := Qlc (fun r i => QbP s fp r i) (fun i => fp (s.getD i.toNat default)) () (fun _ => rfl) (fun _ _ => rfl) ((((s.length : Nat) : Int) - 0).toNat) 0
 unfold Qb6 Qc6
 rw [Bool.eq_iff_iff, List.any_eq_true]
 rcases this with ⟨j, e, j1, j2, j3⟩ | ⟨e, h⟩
 ·rw [e]; exact ⟨fun _ => ⟨_, Qcw (by omega), j3⟩, fun _ => by simpa using j1⟩
 ·rw [e]
  refine ⟨fun h => by simp at h, ?_⟩
  rintro ⟨x, hx, hfx⟩
  obtain ⟨j, j1, j2, j3⟩ := (QgQ (d := default)).1 hx
  have := h j j1 (by omega)
  rw [j3] at this; rw [hfx] at this; cases this
theorem Qm7 (s : List Str) (fp : Str -> Bool) : Qas s fp = s.any fp := by
 have := Qlc (fun r i => QbA s fp r i) (fun i => fp (s.getD i.toNat default)) () (fun _ => rfl) (fun _ _ => rfl) ((((s.length : Nat) : Int) - 0).toNat) 0
 unfold Qas Qcx
 rw [Bool.eq_iff_iff, List.any_eq_true]
 rcases this with ⟨j, e, j1, j2, j3⟩ | ⟨e, h⟩
 ·rw [e]; exact ⟨fun _ => ⟨_, Qcw (by omega), j3⟩, fun _ => by simpa using j1⟩
 ·rw [e]
  refine ⟨fun h => by simp at h, ?_⟩
  rintro ⟨x, hx, hfx⟩
  obtain ⟨j, j1, j2, j3⟩ := (QgQ (d := default)).1 hx
  have := h j j1 (by omega)
  rw [j3] at this; rw [hfx] at this; cases this
theorem QnH (l : List Str) : (!(Qas l (fun x => Qba x))) = l.all Qbm := by
 rw [Qm7, List.all_eq_not_any_not]
 congr 2
 funext x
 unfold Qba
 dsimp only
 rw [Qkv]
theorem QpP {s : Qbc} (h : Qa6 s = true) : s.Uses.length <= 4 /\ s.Targets.length <= 2 := by
  unfold Qa6 at h
  dsimp only at h
  generalize (Qas (QaX s.Uses ++ s.Targets ++ [s.Def]) fun x => Qba x) = A at h
  generalize (Qas (QaX s.Uses ++ s.Targets) fun x => Qba x) = B at h
  generalize s.Uses.length = U at *
  generalize s.Targets.length = V at *
  have kf : ∀ (c x : Bool), (bif c then x else false) = (c && x) := fun c x => by cases c <;> rfl
  simp only [kf] at h
  have kt : ∀ (c x y : Bool), (bif c then x else y) = true -> (c = true /\ x = true) \/ (c = false /\ y = true) := fun c x y h => by
    cases c
    . exact .inr ⟨rfl, h⟩
    . exact .inl ⟨rfl, h⟩
  have kn : ∀ {P : Prop} {c x y : Bool}, (bif c then x else y) = true -> (x = true -> P) -> (y = true -> P) -> P := fun {P c x y} h k1 k2 => by
    cases c
    . exact k2 h
    . exact k1 h
  iterate 9
    first
    | (refine kn h (fun h => ?_) (fun h => ?_)
       . simp only [Bool.and_eq_true, beq_iff_eq, decide_eq_true_eq] at h; omega)
    | skip
  all_goals (simp only [Bool.and_eq_true, beq_iff_eq, decide_eq_true_eq] at h; omega)
theorem Qnr (s : Qbc) : Qa6 s = Qd9 s := by
 obtain ⟨o, d, us, ts⟩ := s
 unfold Qa6 Qd9 QaX
 dsimp only
 rw [Qm2, Qm2]
 simp only [QnH, List.all_append, List.all_cons, List.all_nil, Bool.and_true]
 generalize us.all Qbm = U
 generalize ts.all Qbm = T
 generalize Qbm d = D
 generalize (d == Str.mk []) = E
 generalize us.length = u
 generalize ts.length = t
 have kf : ∀ (c x : Bool), (bif c then x else false) = (c && x) := fun c x => by cases c <;> rfl
 have kn : ∀ (c x : Bool), (bif !c then false else x) = (c && x) := fun c x => by cases c <;> rfl
 simp only [kf, kn]
 have fin : ∀ {a b : Bool}, (a = true ↔ b = true) -> a = b := fun h => Bool.eq_iff_iff.2 h
 by_cases h1 : o = 1
 ·subst h1
  cases U <;> cases T <;> cases D <;> refine fin ?_ <;> simp <;> omega
 by_cases h2 : o = 2
 ·subst h2
  cases U <;> cases T <;> cases E <;> refine fin ?_ <;> simp <;> omega
 by_cases h3 : o = 3
 ·subst h3
  cases U <;> cases T <;> cases E <;> refine fin ?_ <;> simp <;> omega
 by_cases h4 : o = 4
 ·subst h4
  cases U <;> cases T <;> cases D <;> refine fin ?_ <;> simp <;> omega
 by_cases h5 : o = 5
 ·subst h5
  cases U <;> cases T <;> cases E <;> refine fin ?_ <;> simp <;> omega
 by_cases h6 : o = 6
 ·subst h6
  cases U <;> cases T <;> cases D <;> refine fin ?_ <;> simp <;> omega
 by_cases h7 : o = 7
 ·subst h7
  cases U <;> cases T <;> cases E <;> refine fin ?_ <;> simp <;> omega
 by_cases h8 : o = 8
 ·subst h8
  cases U <;> cases T <;> cases E <;> refine fin ?_ <;> simp <;> omega
 by_cases h9 : o = 9
 ·subst h9
  cases U <;> cases T <;> cases E <;> refine fin ?_ <;> simp <;> omega
 have f : ∀ {k : Int}, ¬ o = k -> (o == k) = false := fun h => by simpa using h
 simp only [f h1, f h2, f h3, f h4, f h5, f h6, f h7, f h8, f h9, cond_false, Bool.false_and, Bool.and_false]
theorem QmM (p : Qav) : Qcd p = (decide (1 <= p.Funcs.length /\ p.Funcs.length <= 8) && p.Funcs.all fun f => Qb4 f.Name && (decide (1 <= f.Blocks.length /\ f.Blocks.length <= 16) && f.Blocks.all fun b => Qb4 b.Name && (decide (1 <= b.Stmts.length /\ b.Stmts.length <= 32) && b.Stmts.all Qa6))) := by
 have l2 : ∀ (b : List Qbc), Qb6 b (fun x => QfM x) = !(b.all Qa6) := fun b => by
  rw [QpW, List.all_eq_not_any_not, Bool.not_not]
  congr 1
 have l1 : ∀ (f : List Qbp), Qcq f ((f.length : Int) - 0).toNat 0 = if (f.all fun b => Qb4 b.Name && (decide (1 <= b.Stmts.length /\ b.Stmts.length <= 32) && b.Stmts.all Qa6)) = true then .brk () else .ret false := fun f =>
  QoS (Qcq f) (fun i => by rw [Qcq]) fun r i h0 h1 => by
   rw [Qcq]
   generalize hb : f.getD i.toNat default = b
   have e := l2 b.Stmts
   simp only [Bool.cond_eq_ite]
   cases hN : Qb4 b.Name
   ·simp
   by_cases h1 : ((b.Stmts.length : Nat) : Int) < 1
   ·have : ¬ (1 <= b.Stmts.length /\ b.Stmts.length <= 32) := by omega
    simp [h1, this]
   by_cases h2 : (32 : Int) < ((b.Stmts.length : Nat) : Int)
   ·have : ¬ (1 <= b.Stmts.length /\ b.Stmts.length <= 32) := by omega
    simp [h1, h2, this]
   have h3 : (1 <= b.Stmts.length /\ b.Stmts.length <= 32) := by omega
   rw [e]
   simp only [h1, h2, decide_false, h3, decide_true, Bool.not_true, Bool.true_and, and_self, reduceIte, Bool.false_eq_true]
   all_goals (cases b.Stmts.all Qa6 <;> rfl)
 have l0 : QbW p ((p.Funcs.length : Int) - 0).toNat 0 = if (p.Funcs.all fun f => Qb4 f.Name && (decide (1 <= f.Blocks.length /\ f.Blocks.length <= 16) && f.Blocks.all fun b => Qb4 b.Name && (decide (1 <= b.Stmts.length /\ b.Stmts.length <= 32) && b.Stmts.all Qa6))) = true then .brk () else .ret false :=
  QoS (QbW p) (fun i => by rw [QbW]) fun r i h0 h1 => by
   rw [QbW]
   generalize hb : p.Funcs.getD i.toNat default = f
   have e := l1 f.Blocks
   simp only [Bool.cond_eq_ite]
   cases hN : Qb4 f.Name
   ·simp
   by_cases h1 : ((f.Blocks.length : Nat) : Int) < 1
   ·have : ¬ (1 <= f.Blocks.length /\ f.Blocks.length <= 16) := by omega
    simp [h1, this]
   by_cases h2 : (16 : Int) < ((f.Blocks.length : Nat) : Int)
   ·have : ¬ (1 <= f.Blocks.length /\ f.Blocks.length <= 16) := by omega
    simp [h1, h2, this]
   have h3 : (1 <= f.Blocks.length /\ f.Blocks.length <= 16) := by omega
   rw [e]
   simp only [h1, h2, decide_false, h3, decide_true, Bool.not_true, Bool.true_and, and_self, reduceIte, Bool.false_eq_true]
   all_goals (generalize (f.Blocks.all _) = q; cases q <;> rfl)
 rw [Qcd]
 by_cases h1 : ((p.Funcs.length : Nat) : Int) < 1
 ·have : ¬ (1 <= p.Funcs.length /\ p.Funcs.length <= 8) := by omega
  simp [h1, this]
 by_cases h2 : (8 : Int) < ((p.Funcs.length : Nat) : Int)
 ·have : ¬ (1 <= p.Funcs.length /\ p.Funcs.length <= 8) := by omega
  simp [h1, h2, this]
 have h3 : (1 <= p.Funcs.length /\ p.Funcs.length <= 8) := by omega
 rw [l0]
 simp only [h1, h2, h3, decide_false, decide_true, cond_false, Bool.true_and, and_self]
 all_goals (generalize (p.Funcs.all _) = q; cases q <;> rfl)
theorem QkN {p : Qav} (h : Qcd p = true) : p.Funcs.length <= 8 /\ ∀ i : Nat, (p.Funcs.getD i default).Blocks.length <= 16 /\ ∀ k : Nat, ((p.Funcs.getD i default).Blocks.getD k default).Stmts.length <= 32 /\ ∀ j : Nat, (((p.Funcs.getD i default).Blocks.getD k default).Stmts.getD j default).Uses.length <= 4 /\ (((p.Funcs.getD i default).Blocks.getD k default).Stmts.getD j default).Targets.length <= 2 := by
 rw [QmM] at h
 simp only [Bool.and_eq_true, decide_eq_true_eq, List.all_eq_true] at h
 have gm : ∀ {α : Type} [Inhabited α] (l : List α) (i : Nat), l.getD i default ∈ l \/ l.getD i default = default := fun l i => by
  by_cases hi : i < l.length
  ·left; rw [List.getD_eq_getElem?_getD, List.getElem?_eq_getElem hi]; exact List.getElem_mem hi
  ·right; rw [List.getD_eq_getElem?_getD, List.getElem?_eq_none (by omega)]; rfl
 refine ⟨h.1.2, fun i => ?_⟩
 rcases gm p.Funcs i with hf | hf
 ·have hF := (h.2 _ hf).2
  refine ⟨hF.1.2, fun k => ?_⟩
  rcases gm (p.Funcs.getD i default).Blocks k with hb | hb
  ·have hB := (hF.2 _ hb).2
   refine ⟨hB.1.2, fun j => ?_⟩
   rcases gm ((p.Funcs.getD i default).Blocks.getD k default).Stmts j with hs | hs
   ·exact QpP (hB.2 _ hs)
   ·rw [hs]; decide
  ·rw [hb]
   exact ⟨by decide, fun j => by rw [show (default : Qbp).Stmts = [] from rfl]; simp; decide⟩
 ·rw [hf]
  refine ⟨by decide, fun k => ?_⟩
  rw [show (default : QbR).Blocks = [] from rfl]
  exact ⟨by simp; decide, fun j => by simp [show (default : Qbp).Stmts = [] from rfl]; decide⟩
theorem Qnw (p : Qav) : Qcd p = QhG p := by
 rw [QmM, Qk3, Ql5, show Qa6 = Qd9 from funext Qnr]
theorem sz2 (S : List Qbc) : ∀ (r : Nat) (a b v : Int), (QbF S r a b v).1 <= a + 2 * (r : Int) /\ (QbF S r a b v).2 <= b + 3 * (r : Int)
 | 0, a, b, v => by
  -- Qg9 is behind
  rw [QbF]; exact ⟨by simp, by simp⟩
 | r + 1, a, b, v => by
  rw [QbF]
  try dsimp only
  have h := sz2 S r (QdD (S.getD v.toNat default) a b).1 (QdD (S.getD v.toNat default) a b).2 (v + 1)
  have hs : (QdD (S.getD v.toNat default) a b).1 <= a + 2 /\ (QdD (S.getD v.toNat default) a b).2 <= b + 3 := by
   unfold QdD
   cases (S.getD v.toNat default).Op == 3
   ·cases (S.getD v.toNat default).Op == 8 <;> (simp only [cond_false, cond_true]; omega)
   ·simp only [cond_true]; omega
  omega
theorem Qk7 {p : Qav} {r : QaH × Int} (h : Qde p = r) (h2 : (r.2 != 0) = false) : Qcd p = true := by
 subst h
 cases e : Qcd p
 ·unfold Qde at h2
  rw [e] at h2
  cases h2
 ·rfl
theorem Qof {p : Qav} {r : QaH × Int} (h : Qde p = r) (h2 : (r.2 != 0) = false) : QhG p = true := by
 rw [<- Qnw]; exact Qk7 h h2
theorem Qo7 (i k : Int) (S : List Qbc) : ∀ (r : Nat) (o : List QaH) (v : Int), 0 <= v -> v + (r : Int) = (S.length : Int) -> QdH i k S r o v = o ++ nS i k v (S.drop v.toNat)
 | 0, o, v, h0, h1 => by rw [QdH, List.drop_eq_nil_of_le (by omega), nS, List.append_nil]
 | r + 1, o, v, h0, h1 => by
  rw [QdH, Qo7 i k S r _ _ (by omega) (by omega), Qo7 i k S r _ _ (by omega) (by omega), Qie h0 (by omega), nS]
  cases (S.getD v.toNat default).Op == 3 <;> simp
theorem Qr1 (i : Int) (S : List Qbp) : ∀ (r : Nat) (o : List QaH) (v : Int), 0 <= v -> v + (r : Int) = (S.length : Int) -> Qen i S r o v = o ++ nB i v (S.drop v.toNat)
 | 0, o, v, h0, h1 => by rw [Qen, List.drop_eq_nil_of_le (by omega), nB, List.append_nil]
 | r + 1, o, v, h0, h1 => by
  rw [Qen, Qo7 i v _ _ _ 0 (by omega) (by omega)]
  try dsimp only
  rw [Qr1 i S r _ _ (by omega) (by omega), Qie h0 (by omega), nB]
  simp
theorem QrG (p : Qav) : ∀ (r : Nat) (o : List QaH) (v : Int), 0 <= v -> v + (r : Int) = (p.Funcs.length : Int) -> Qej p r o v = o ++ nF v (p.Funcs.drop v.toNat)
 | 0, o, v, h0, h1 => by rw [Qej, List.drop_eq_nil_of_le (by omega), nF, List.append_nil]
 | r + 1, o, v, h0, h1 => by
  rw [Qej, Qr1 v _ _ _ 0 (by omega) (by omega)]
  try dsimp only
  rw [QrG p r _ _ (by omega) (by omega), Qie h0 (by omega), nF]
  simp
theorem Qm9 (p : Qav) : Qgb p = bif (Qde p).2 != 0 then [] else nF 0 p.Funcs := by
 unfold Qgb
 dsimp only
 rw [QrG p _ [] 0 (by omega) (by omega)]
 rfl
theorem Qpl {p : Qav} {n : QaH} (h : n ∈ Qgb p) : NIn p n := by
 rw [Qm9] at h
 cases e : (Qde p).2 != 0
 ·have hv := QkN (Qk7 rfl e)
  rw [e, cond_false] at h
  obtain ⟨a1, a2⟩ := Qrg p.Funcs 0 n h
  rw [show (n.Func - 0) = n.Func by omega] at a2
  refine ⟨by omega, fun h1 h2 => ?_⟩
  obtain ⟨_, b1, b2, b3⟩ := a2 h1 h2
  have := ((hv.2 n.Func.toNat).2 n.Block.toNat).1
  exact ⟨b1, ⟨b2, b3⟩, by omega⟩
 ·rw [e] at h; cases h
theorem QnU {p : Qav} {l : List QaH} (h : Qgb p = l) {i : Int} (hi : 0 <= i /\ i < (l.length : Int)) : NIn p (l.getD i.toNat default) := by
 refine Qpl ?_
 rw [h]; exact Qcw (by omega)
theorem QmL {p : Qav} {l : List QaH} {r : QaH × Int} (h : Qgb p = l) (hc : Qde p = r) (h2 : (r.2 != 0) = false) : 0 < l.length := by
 have hv := Qof hc h2
 rw [Qk3] at hv
 simp only [Bool.and_eq_true, decide_eq_true_eq] at hv
 rw [<- h, Qm9, hc, h2, cond_false]
 cases hf : p.Funcs with
 | nil => rw [hf] at hv; simp at hv
 | cons f F => simp [nF]
theorem Qtj {b : QaU} (h : BOk b) (k f bl st : Int) : 0 <= Qgo b k f bl st /\ Qgo b k f bl st < (b.g.Succ.length : Int) := h.num _
theorem QvB {b : QaU} {k f bl st r : Int} (e : Qgo b k f bl st = r) (h : BOk b) : 0 <= r /\ r < (b.g.Succ.length : Int) := e ▸ Qtj h k f bl st
theorem Qph {b : QaU} {f t : Int} (h : BOk b) (hf : 0 <= f /\ f < (b.g.Succ.length : Int)) (ht : 0 <= t /\ t < (b.g.Succ.length : Int)) :
  BOk (QcO b f t) /\ (QcO b f t).g.Nodes = b.g.Nodes /\ (QcO b f t).number = b.number /\ (QcO b f t).g.Succ.length = b.g.Succ.length /\
  ∀ i k, 0 <= i -> i < (b.g.Succ.length : Int) -> (k ∈ (QcO b f t).g.Succ.getD i.toNat [] ↔ k ∈ b.g.Succ.getD i.toNat [] \/ (i = f /\ k = t)) := by
 unfold QcO
 dsimp only
 cases hc : Qcs (b.g.Succ.getD f.toNat []) t
 ·rw [cond_false]
  have hn : t ∉ b.g.Succ.getD f.toNat [] := fun hm => by rw [(QgU _ _).2 hm] at hc; cases hc
  have hn2 : f ∉ b.g.Pred.getD t.toNat [] := fun hm => hn ((h.mi f t hf.1 hf.2 ht.1 ht.2).2 hm)
  have hps := h.ps
  have gs : ∀ i, 0 <= i -> (b.g.Succ.set f.toNat (b.g.Succ.getD f.toNat [] ++ [t])).getD i.toNat [] = if i = f then b.g.Succ.getD f.toNat [] ++ [t] else b.g.Succ.getD i.toNat [] := fun i hi => QkI hf hi
  have gp' : ∀ i, 0 <= i -> (b.g.Pred.set t.toNat (b.g.Pred.getD t.toNat [] ++ [f])).getD i.toNat [] = if i = t then b.g.Pred.getD t.toNat [] ++ [f] else b.g.Pred.getD i.toNat [] := fun i hi => QkI (by omega) hi
  refine ⟨⟨by simp [hps], by simp; exact h.n0, by simp; exact h.nb, fun l hl => ?_, fun l hl => ?_, fun i k h1 h2 h3 h4 => ?_, fun k => by simp only [List.length_set]; exact h.num k⟩, rfl, rfl, by simp, fun i k h1 h2 => ?_⟩
  ·simp only [List.length_set]
   rcases List.mem_or_eq_of_mem_set hl with hl | rfl
   ·exact h.su l hl
   ·exact QmN (h.su _ (QhE hf)) ht hn
  ·simp only [List.length_set]
   rcases List.mem_or_eq_of_mem_set hl with hl | rfl
   ·exact h.pr l hl
   ·exact QmN (h.pr _ (QhE (by omega))) hf hn2
  ·simp only [List.length_set] at h2 h4
   show k ∈ (b.g.Succ.set f.toNat (b.g.Succ.getD f.toNat [] ++ [t])).getD i.toNat [] ↔ i ∈ (b.g.Pred.set t.toNat (b.g.Pred.getD t.toNat [] ++ [f])).getD k.toNat []
   rw [gs i h1, gp' k h3]
   have hm := h.mi i k h1 h2 h3 h4
   by_cases e1 : i = f
   ·rw [if_pos e1, List.mem_append, List.mem_singleton]
    by_cases e2 : k = t
    ·rw [if_pos e2, List.mem_append, List.mem_singleton]; simp [e1, e2]
    ·rw [if_neg e2]; subst e1; exact ⟨fun h => h.elim hm.1 (fun e => absurd e e2), fun h => .inl (hm.2 h)⟩
   ·rw [if_neg e1]
    by_cases e2 : k = t
    ·rw [if_pos e2, List.mem_append, List.mem_singleton]; subst e2; exact ⟨fun h => .inl (hm.1 h), fun h => h.elim hm.2 (fun e => absurd e e1)⟩
    ·rw [if_neg e2]; exact hm
  ·show k ∈ (b.g.Succ.set f.toNat (b.g.Succ.getD f.toNat [] ++ [t])).getD i.toNat [] ↔ _
   rw [gs i h1]
   by_cases e1 : i = f
   ·rw [if_pos e1, List.mem_append, List.mem_singleton, e1]; simp
   ·rw [if_neg e1]; simp [e1]
 ·rw [cond_true]
  refine ⟨h, rfl, rfl, rfl, fun i k h1 h2 => ⟨.inl, fun hk => ?_⟩⟩
  rcases hk with hk | ⟨rfl, rfl⟩
  ·exact hk
  ·exact (QgU _ _).1 hc
theorem QlL {b r : QaU} {f t : Int} (e : QcO b f t = r) (h : BOk b) (hf : 0 <= f /\ f < (b.g.Succ.length : Int)) (ht : 0 <= t /\ t < (b.g.Succ.length : Int)) : BOk r /\ r.g.Succ.length = b.g.Succ.length := by
 have := Qph h hf ht; rw [e] at this; exact ⟨this.1, this.2.2.2.1⟩
theorem QpB {b : QaU} {p : Qav} {f : Int} {nm : Str} {r : Int} (e : Qgw b p f nm = r) (h : BOk b) : 0 <= r /\ r < (b.g.Succ.length : Int) := by
 subst e; unfold Qgw; dsimp only; exact Qtj h _ _ _ _
theorem QoP (l : List QaH) : ∀ (r : Nat) (m : List (QaH × Int)) (v : Int), v + (r : Int) = (l.length : Int) -> 0 <= v -> (∀ k, 0 <= (Qev m k).getD 0 /\ ((Qev m k).getD 0 < (l.length : Int) \/ (Qev m k).getD 0 = 0)) ->
  ∀ k, 0 <= (Qev (QcN l r m v) k).getD 0 /\ ((Qev (QcN l r m v) k).getD 0 < (l.length : Int) \/ (Qev (QcN l r m v) k).getD 0 = 0)
 | 0, m, v, hr, hv, h => by rw [QcN]; exact h
 | r + 1, m, v, hr, hv, h => by
  rw [QcN]
  refine QoP l r _ _ (by omega) (by omega) fun k => ?_
  rw [QhK]
  split
  ·exact ⟨hv, .inl (by show v < _; omega)⟩
  ·exact h k
theorem QpG {l : List QaH} {m : List (QaH × Int)} (h : QcN l (((((l.length : Nat) : Int) : Int) - 0).toNat) [] 0 = m) (h0 : 0 < l.length) (hn : l.length <= 20000) :
  BOk (QaU.mk (QaP.mk l (List.replicate (((l.length : Nat) : Int) : Int).toNat []) (List.replicate (((l.length : Nat) : Int) : Int).toNat [])) m) := by
 have e : (((l.length : Nat) : Int)).toNat = l.length := by omega
 have hm := QoP l (((((l.length : Nat) : Int) : Int) - 0).toNat) [] 0 (by omega) (by omega) (fun k => ⟨Int.le_refl _, .inr rfl⟩)
 rw [h] at hm
 refine ⟨by simp, by simpa using h0, by simpa using hn, fun x hx => ?_, fun x hx => ?_, fun i k h1 h2 h3 h4 => ?_, fun k => ?_⟩
 ·rw [List.eq_of_mem_replicate hx]; exact Qnb _
 ·rw [List.eq_of_mem_replicate hx]; exact Qnb _
 ·have gn : ∀ (n i : Nat), (List.replicate n ([] : List Int)).getD i [] = [] := fun n i => by
   rw [List.getD_eq_getElem?_getD, List.getElem?_replicate]; split <;> rfl
  show k ∈ (List.replicate _ []).getD _ [] ↔ i ∈ (List.replicate _ []).getD _ []
  rw [gn, gn]; simp
 ·have := hm k
  simp only [List.length_replicate, e]
  refine ⟨this.1, ?_⟩
  show (Qev m k).getD 0 < _
  omega
theorem Ql8 : QeL = true := by kernel_rfl
theorem QiV (t : List Int) : Qdp t = true := by
 unfold Qdp
 obtain ⟨n, h1, h2, h3, h4⟩ := QpQ t 0 8 (by omega)
 dsimp only
 generalize (Qeo t 0 8).2 = i0 at *
 generalize (Qeo t 0 8).1 = g at *
 have hn : n <= 8 := by omega
 have hv := Qlx h3 h1 (by omega) h4
 have hv2 : Qck (QaP.mk g.Nodes g.Pred g.Succ) = true := Qlx (g := QaP.mk g.Nodes g.Pred g.Succ) h3 h1 (by omega) h4.symm
 have ha := Qi2 t i0 ((g.Nodes.length : Nat) : Int) (by omega)
 have hb := Qi2 t (Qbu t i0 ((g.Nodes.length : Nat) : Int)).2 ((g.Nodes.length : Nat) : Int) (by omega)
 rw [QqE hv]
 dsimp only
 generalize (Qbu t (Qbu t i0 ((g.Nodes.length : Nat) : Int)).2 ((g.Nodes.length : Nat) : Int)).1 = b at *
 generalize (Qbu t i0 ((g.Nodes.length : Nat) : Int)).1 = a at *
 subst h3
 have hg := QiH hv
 have ha : 0 <= a /\ a < (g.Nodes.length : Int) := by omega
 have hb : 0 <= b /\ b < (g.Nodes.length : Int) := by omega
 have iA : Inr g [a] := fun x hx => by rw [List.mem_singleton] at hx; rw [hx]; exact ha
 have iB : Inr (QaP.mk g.Nodes g.Pred g.Succ) [b] := fun x hx => by rw [List.mem_singleton] at hx; rw [hx]; exact hb
 obtain ⟨x1, x2⟩ := Qic hv iA
 obtain ⟨y1, y2⟩ := Qic hv2 iB
 generalize QdB g [a] = X at *
 generalize QdB (QaP.mk g.Nodes g.Pred g.Succ) [b] = Y at *
 obtain ⟨z1, z2⟩ := Qic hv (f := X) (fun x hx => QnG hg iA ((x2 x).1 hx))
 have e1 : QdB g X = X := Qpg z1 x1 fun x => (z2 x).trans ⟨fun h => (x2 x).2 (QoM x (fun y hy => (x2 y).1 hy) h), .base⟩
 have e2 : Qf6 X a = true := (Qlj _ _).2 ((x2 a).2 (.base (List.mem_singleton.2 rfl)))
 have e3 : Qf6 X b = Qf6 Y a := by
  rw [Bool.eq_iff_iff, Qlj, Qlj, x2, y2]
  exact ⟨fun h => Qm5 hg (fun i k hi hk => (QrK h4 i k hi hk).1) ha h, fun h => Qm5 (g := QaP.mk g.Nodes g.Pred g.Succ) (QiH hv2) (fun i k hi hk => (QrK h4 k i hk hi).2) hb h⟩
 rw [e1, Qmk, e2, e3, Ql8]
 simp
theorem Qfu : QcU Tryz.prog 59 1 = some 1 := by kernel_rfl
theorem Qc0 : QcU Tryz.prog 59 2 = some 2 := by kernel_rfl
theorem Qeq : Qbd Tryz.prog 51 = some (false, 1) := by kernel_rfl
theorem Qc4 : QcU Tryz.prog 59 3 = some 3 := by kernel_rfl
theorem Qdn : QcU Tryz.prog 59 0 = some 0 := by kernel_rfl
theorem sh3 : Qbd Tryz.prog 3 = some (false, 1) := by kernel_rfl
theorem Qcz : Tryz.prog.follows .mixedOrders = true := by kernel_rfl
theorem QlS : QcU Tryz.prog 50 1 = some 1 := by kernel_rfl
theorem QoG : QcU Tryz.prog 50 0 = some 0 := by kernel_rfl
theorem Qjr : Qbd Tryz.prog 22 = some (false, 1) := by kernel_rfl
theorem Qbo : QfF Tryz.prog 22 = some (3, 1, 8) := by kernel_rfl
theorem QuX : Qam Tryz.prog 34 = true := by kernel_rfl
theorem QrS : Qam Tryz.prog 127 = true := by kernel_rfl
theorem Qjl : Qam Tryz.prog 96 = true := by kernel_rfl
theorem Qrt : Qam Tryz.prog 122 = true := by kernel_rfl
theorem QrB : Tryz.prog.underlying 146 = some (.int .u64) := by kernel_rfl
theorem un5 : Tryz.prog.underlying 5 = some (.int .u8) := by kernel_rfl
theorem un9 : Tryz.prog.underlying 9 = some .string := by kernel_rfl
theorem QqZ : Qam Tryz.prog 82 = true := by kernel_rfl
theorem QoR : Qam Tryz.prog 83 = true := by kernel_rfl
theorem Qsn : Qam Tryz.prog 136 = true := by kernel_rfl
theorem sh9 : Qbd Tryz.prog 9 = some (false, 1) := by kernel_rfl
theorem un3 : Tryz.prog.underlying 3 = some (.int .i64) := by kernel_rfl
theorem Qmb : Tryz.prog.underlying 108 = some (.int .u64) := by kernel_rfl
theorem Qsx : Qam Tryz.prog 100 = true := by kernel_rfl
theorem Quf : Qam Tryz.prog 61 = true := by kernel_rfl
theorem Qjj : Qbd Tryz.prog 158 = some (false, 1) := by kernel_rfl
theorem Qtm : Tryz.prog.underlying 158 = some (.int .u64) := by kernel_rfl
theorem Qtg : QeK Tryz.prog 158 = some (u64 (0#64)) := by kernel_rfl
theorem QtB : Qam Tryz.prog 123 = true := by kernel_rfl
theorem Qsz : Qam Tryz.prog 124 = true := by kernel_rfl
theorem Qo8 : Qam Tryz.prog 140 = true := by kernel_rfl
theorem Qp5 : Qam Tryz.prog 126 = true := by kernel_rfl
theorem ze3 : QeK Tryz.prog 3 = some (vi 0) := by kernel_rfl
theorem Qpv : Qam Tryz.prog 125 = true := by kernel_rfl
theorem QvA : Qam Tryz.prog 90 = true := by kernel_rfl
theorem QuD : Qam Tryz.prog 91 = true := by kernel_rfl
theorem Qus : Qam Tryz.prog 93 = true := by kernel_rfl
theorem Quq : Qam Tryz.prog 94 = true := by kernel_rfl
theorem Qur : Qam Tryz.prog 95 = true := by kernel_rfl
theorem Qo2 : Qam Tryz.prog 97 = true := by kernel_rfl
theorem QlB : Qam Tryz.prog 98 = true := by kernel_rfl
theorem QhW : Qam Tryz.prog 60 = true := by kernel_rfl
theorem QuS : Qam Tryz.prog 92 = true := by kernel_rfl
theorem QcS : QfF Tryz.prog 51 = some (9, 1, 16) := by kernel_rfl
theorem Qgh : QdX Tryz.prog 51 = some [.string (bs (Str.mk []))] := by kernel_rfl
theorem Qtv : Qam Tryz.prog 141 = true := by kernel_rfl
theorem Qq4 : Qam Tryz.prog 128 = true := by kernel_rfl
theorem Qsm : Qam Tryz.prog 144 = true := by kernel_rfl
theorem Qtd : Qam Tryz.prog 142 = true := by kernel_rfl
theorem Qsq : Qam Tryz.prog 129 = true := by kernel_rfl
theorem Qto : Qam Tryz.prog 130 = true := by kernel_rfl
theorem QeP : QcU Tryz.prog 25 0 = some 0 := by kernel_rfl
theorem QjO : Qbd Tryz.prog 23 = some (false, 1) := by kernel_rfl
theorem Qh1 : QfF Tryz.prog 23 = some (54, 2, 40) := by kernel_rfl
theorem QhD : Qbd Tryz.prog 54 = some (true, 2) := by kernel_rfl
theorem QoO : QeK Tryz.prog 54 = some (.agg #[.string (bs (Str.mk [])), .slice none 0 0]) := by kernel_rfl
theorem Qlo : QcU Tryz.prog 54 0 = some 0 := by kernel_rfl
theorem Qfx : QcU Tryz.prog 54 1 = some 1 := by kernel_rfl
theorem QkZ : Qbd Tryz.prog 52 = some (false, 1) := by kernel_rfl
theorem Qit : QfF Tryz.prog 52 = some (57, 2, 40) := by kernel_rfl
theorem QhN : Qbd Tryz.prog 57 = some (true, 2) := by kernel_rfl
theorem Qon : QeK Tryz.prog 57 = some (.agg #[.string (bs (Str.mk [])), .slice none 0 0]) := by kernel_rfl
theorem Qlr : QcU Tryz.prog 57 0 = some 0 := by kernel_rfl
theorem Qfv : QcU Tryz.prog 57 1 = some 1 := by kernel_rfl
theorem Qk0 : Qbd Tryz.prog 55 = some (false, 1) := by kernel_rfl
theorem Qji : QfF Tryz.prog 55 = some (59, 4, 72) := by kernel_rfl
theorem QdZ : Qbd Tryz.prog 59 = some (true, 4) := by kernel_rfl
theorem Qtn : Qam Tryz.prog 131 = true := by kernel_rfl
theorem Qu9 : Tryz.prog.underlying 51 = some (.slice 9) := by kernel_rfl
theorem QsS : Qam Tryz.prog 143 = true := by kernel_rfl
theorem Qpo : Qam Tryz.prog 101 = true := by kernel_rfl
theorem Qj7 : Qam Tryz.prog 132 = true := by kernel_rfl
theorem Qkl : Qam Tryz.prog 134 = true := by kernel_rfl
theorem QjT : Qam Tryz.prog 133 = true := by kernel_rfl
theorem QsT : Qam Tryz.prog 104 = true := by kernel_rfl
theorem Qsr : Qam Tryz.prog 103 = true := by kernel_rfl
theorem QtP : Qam Tryz.prog 102 = true := by kernel_rfl
theorem QiT : Qqk Tryz.prog 112 = some (9, 4) := by kernel_rfl
theorem ze4 : QeK Tryz.prog 4 = some (vb false) := by kernel_rfl
theorem Qtc : Qam Tryz.prog 135 = true := by kernel_rfl
theorem un4 : Tryz.prog.underlying 4 = some .bool := by kernel_rfl
theorem Qqg : QeK Tryz.prog 59 = some (.agg #[vi 0, .string (bs (Str.mk [])), .slice none 0 0, .slice none 0 0]) := by kernel_rfl
theorem QrT : Qam Tryz.prog 138 = true := by kernel_rfl
theorem Qjq : Qam Tryz.prog 86 = true := by kernel_rfl
theorem Qrp : Qam Tryz.prog 139 = true := by kernel_rfl
theorem QpE : QeK Tryz.prog 76 = some (.agg #[vi 0, vi 0, vi 0, vi 0]) := by kernel_rfl
theorem Qte : Qam Tryz.prog 106 = true := by kernel_rfl
theorem Qs0 : Qam Tryz.prog 105 = true := by kernel_rfl
theorem Qk6 : QmD Tryz.prog 76 = some ([(0, 1), (1, 1), (2, 1), (3, 1)], [vi 0, vi 0, vi 0, vi 0]) := by kernel_rfl
theorem Qhb : Qbd Tryz.prog 76 = some (true, 4) := by kernel_rfl
theorem Qrj : Qam Tryz.prog 107 = true := by kernel_rfl
theorem Qsl : Qam Tryz.prog 62 = true := by kernel_rfl
theorem Qq0 : Qam Tryz.prog 108 = true := by kernel_rfl
theorem QsG : Qam Tryz.prog 109 = true := by kernel_rfl
theorem QsA : QeK Tryz.prog 25 = some (.agg #[.slice none 0 0]) := by kernel_rfl
theorem Qvd : Qam Tryz.prog 51 = true := by kernel_rfl
theorem QkK : QmD Tryz.prog 25 = some ([(0, 1)], [.slice none 0 0]) := by kernel_rfl
theorem Qd3 : Qbd Tryz.prog 25 = some (true, 1) := by kernel_rfl
theorem QtF : QmD Tryz.prog 100 = some ([(0, 1), (1, 1), (2, 1)], [.slice none 0 0, vi 0, vi 0]) := by kernel_rfl
theorem Qum : Qam Tryz.prog 54 = true := by kernel_rfl
theorem Qsi : QdX Tryz.prog 23 = some [.string (bs (Str.mk [])), .slice none 0 0] := by kernel_rfl
theorem QgO : QcU Tryz.prog 105 2 = some 2 := by kernel_rfl
theorem QgX : QcU Tryz.prog 105 3 = some 3 := by kernel_rfl
theorem QpL : Qbd Tryz.prog 112 = some (false, 1) := by kernel_rfl
theorem QtE : QeK Tryz.prog 112 = some (.map none) := by kernel_rfl
theorem QuO : QeK Tryz.prog 51 = some (.slice none 0 0) := by kernel_rfl
theorem QsQ : QeK Tryz.prog 131 = some (.nilFunc) := by kernel_rfl
theorem Qpy : Qbd Tryz.prog 131 = some (false, 1) := by kernel_rfl
theorem Qtl : Qam Tryz.prog 111 = true := by kernel_rfl
theorem Qrc : Qam Tryz.prog 110 = true := by kernel_rfl
theorem QvJ : Qam Tryz.prog 64 = true := by kernel_rfl
theorem QuK : Qam Tryz.prog 63 = true := by kernel_rfl
theorem Quz : Qam Tryz.prog 65 = true := by kernel_rfl
theorem Qu4 : Qam Tryz.prog 66 = true := by kernel_rfl
theorem Qvz : Qam Tryz.prog 67 = true := by kernel_rfl
theorem QpA : QeK Tryz.prog 36 = some (.agg #[.slice none 0 0, .slice none 0 0, .slice none 0 0]) := by kernel_rfl
theorem Qqj : Qam Tryz.prog 14 = true := by kernel_rfl
theorem Qh0 : QfF Tryz.prog 33 = some (76, 4, 32) := by kernel_rfl
theorem Qnq : QdX Tryz.prog 33 = some [vi 0, vi 0, vi 0, vi 0] := by kernel_rfl
theorem Qg8 : QfF Tryz.prog 34 = some (22, 1, 24) := by kernel_rfl
theorem Qqn : QdX Tryz.prog 34 = some [.slice none 0 0] := by kernel_rfl
theorem QqB : QmD Tryz.prog 36 = some ([(0, 1), (1, 1), (2, 1)], [.slice none 0 0, .slice none 0 0, .slice none 0 0]) := by kernel_rfl
theorem QiO : Qbd Tryz.prog 36 = some (true, 3) := by kernel_rfl
theorem Qfw : QcU Tryz.prog 36 1 = some 1 := by kernel_rfl
theorem Qiq : Qbd Tryz.prog 34 = some (false, 1) := by kernel_rfl
theorem Qhj : QcU Tryz.prog 36 2 = some 2 := by kernel_rfl
theorem Qup : Qam Tryz.prog 29 = true := by kernel_rfl
theorem Qub : Qam Tryz.prog 42 = true := by kernel_rfl
theorem QvE : Qam Tryz.prog 89 = true := by kernel_rfl
theorem Qjp : QdX Tryz.prog 22 = some [vi 0] := by kernel_rfl
theorem QjF : QcU Tryz.prog 36 0 = some 0 := by kernel_rfl
theorem Qqq : Qbd Tryz.prog 33 = some (false, 1) := by kernel_rfl
theorem Qty : Qam Tryz.prog 55 = true := by kernel_rfl
theorem Qt0 : Qam Tryz.prog 58 = true := by kernel_rfl
theorem Qip : QcU Tryz.prog 89 0 = some 0 := by kernel_rfl
theorem QuT : Qja Tryz.prog 76 4 = true := by kernel_rfl
theorem QiF : KK Tryz.prog 76 QbZ QbU := QpH (fun x : QaH => [x.Kind, x.Func, x.Block, x.Stmt]) QbU QuT (fun x y h => by cases x; cases y; simpa using h) (fun _ => rfl) (fun x hx y hy => by simp only [List.mem_cons, List.not_mem_nil, or_false] at hy; obtain ⟨h0, h1, h2, h3⟩ := hx; rcases hy with rfl | rfl | rfl | rfl <;> assumption)
theorem Qsk : Qqk Tryz.prog 87 = some (76, 3) := by kernel_rfl
theorem QlM : QcU Tryz.prog 89 1 = some 3 := by kernel_rfl
theorem Qsg : Qbd Tryz.prog 87 = some (false, 1) := by kernel_rfl
theorem QsC : Qam Tryz.prog 113 = true := by kernel_rfl
theorem QsU : Qam Tryz.prog 112 = true := by kernel_rfl
theorem Qp1 : Qam Tryz.prog 45 = true := by kernel_rfl
theorem Qi1 : QcU Tryz.prog 76 1 = some 1 := by kernel_rfl
theorem Qm8 : QcU Tryz.prog 76 2 = some 2 := by kernel_rfl
theorem Qne : QcU Tryz.prog 76 3 = some 3 := by kernel_rfl
theorem Quj : Qam Tryz.prog 68 = true := by kernel_rfl
theorem QoE : Qam Tryz.prog 44 = true := by kernel_rfl
theorem QuM : Qam Tryz.prog 70 = true := by kernel_rfl
theorem QuI : Qam Tryz.prog 69 = true := by kernel_rfl
theorem Qu0 : Qam Tryz.prog 38 = true := by kernel_rfl
theorem QvM : Qam Tryz.prog 37 = true := by kernel_rfl
theorem QtN : QfF Tryz.prog 80 = some (4, 1, 1) := by kernel_rfl
theorem QvD : QdX Tryz.prog 80 = some [vb false] := by kernel_rfl
theorem Qvv : Qam Tryz.prog 39 = true := by kernel_rfl
theorem sh4 : Qbd Tryz.prog 4 = some (false, 1) := by kernel_rfl
theorem Qsw : Qam Tryz.prog 40 = true := by kernel_rfl
theorem QvL : Qam Tryz.prog 41 = true := by kernel_rfl
theorem QvH : Qam Tryz.prog 43 = true := by kernel_rfl
theorem Qvm : QmD Tryz.prog 89 = some ([(0, 3), (3, 1)], [.slice none 0 0, .slice none 0 0, .slice none 0 0, .map none]) := by kernel_rfl
theorem Qqx : QcU Tryz.prog 76 0 = some 0 := by kernel_rfl
theorem Qvt : Qam Tryz.prog 46 = true := by kernel_rfl
theorem Qlg : QmD Tryz.prog 105 = some ([(0, 1), (1, 1), (2, 1), (3, 1)], [vi 0, .string (bs (Str.mk [])), vi 0, vi 0]) := by kernel_rfl
theorem QeD : QfF Tryz.prog 95 = some (105, 4, 40) := by kernel_rfl
theorem QlA : QdX Tryz.prog 95 = some [vi 0, .string (bs (Str.mk [])), vi 0, vi 0] := by kernel_rfl
theorem Qbz : QcU Tryz.prog 100 2 = some 2 := by kernel_rfl
theorem Qf9 : Qbd Tryz.prog 42 = some (false, 1) := by kernel_rfl
theorem Qbj : QcU Tryz.prog 100 1 = some 1 := by kernel_rfl
theorem Qe3 : QcU Tryz.prog 100 0 = some 0 := by kernel_rfl
theorem Ql3 : Qbd Tryz.prog 95 = some (false, 1) := by kernel_rfl
theorem Qll : QcU Tryz.prog 105 0 = some 0 := by kernel_rfl
theorem Qkk : QcU Tryz.prog 105 1 = some 1 := by kernel_rfl
theorem QoD : Qam Tryz.prog 52 = true := by kernel_rfl
theorem QjJ : Qam Tryz.prog 53 = true := by kernel_rfl
theorem Qtw : Qam Tryz.prog 114 = true := by kernel_rfl
theorem Qni : Qam Tryz.prog 118 = true := by kernel_rfl
theorem Qo0 : Qam Tryz.prog 119 = true := by kernel_rfl
theorem QiG : Qam Tryz.prog 85 = true := by kernel_rfl
theorem Qr8 : Qam Tryz.prog 84 = true := by kernel_rfl
theorem Qps : Qam Tryz.prog 120 = true := by kernel_rfl
theorem QqW : Qam Tryz.prog 121 = true := by kernel_rfl
theorem Qse : QdX Tryz.prog 55 = some [vi 0, .string (bs (Str.mk [])), .slice none 0 0, .slice none 0 0] := by kernel_rfl
theorem Qt9 : Qam Tryz.prog 87 = true := by kernel_rfl
theorem Qsa : QdX Tryz.prog 52 = some [.string (bs (Str.mk [])), .slice none 0 0] := by kernel_rfl
theorem QuV : Qam Tryz.prog 88 = true := by kernel_rfl
theorem Qtt : Qam Tryz.prog 31 = true := by kernel_rfl
theorem QuG : Qam Tryz.prog 35 = true := by kernel_rfl
theorem QtY : Qam Tryz.prog 36 = true := by kernel_rfl
theorem Qvl : Qam Tryz.prog 27 = true := by kernel_rfl
theorem Qvj : Qam Tryz.prog 23 = true := by kernel_rfl
theorem Qsf : Qam Tryz.prog 18 = true := by kernel_rfl
theorem Qvg : Qam Tryz.prog 28 = true := by kernel_rfl
theorem Qu5 : Tryz.prog.underlying 33 = some (.slice 76) := by kernel_rfl
theorem QvK : Qam Tryz.prog 59 = true := by kernel_rfl
theorem Qvo : Tryz.prog.underlying 22 = some (.slice 3) := by kernel_rfl
theorem QuB : QmD Tryz.prog 50 = some ([(0, 1), (1, 1)], [.slice none 0 0, vi 0]) := by kernel_rfl
theorem ca6 : Qam Tryz.prog 6 = true := by kernel_rfl
theorem QuQ : Qam Tryz.prog 12 = true := by kernel_rfl
theorem Qu2 : Qam Tryz.prog 16 = true := by kernel_rfl
theorem Qtr : Qam Tryz.prog 17 = true := by kernel_rfl
theorem Qth : Qam Tryz.prog 19 = true := by kernel_rfl
theorem QuR : Qam Tryz.prog 11 = true := by kernel_rfl
theorem Qsc (a : List Int) (aa0 : Option Addr) (ak0 : Nat) (b : List Int) (ba0 : Option Addr) (bk0 : Nat) (rr : Bool) (hrr : QeR a b = rr) : FT Tryz.prog 18 #[vl aa0 ak0 a, vl ba0 bk0 b] [S aa0 ak0 a, S ba0 bk0 b] (fun g : Unit => True) (fun g => vb rr) (fun g => []) := by
 refine FTi Tryz.func18 fun w0 M0 F0 => Fb 8 0 fun _ => Fo 0 fun ho2 => Fb 8 1 fun _ => Fo 1 fun ho4 => ?_
 refine KS ?_
 refine Oq Va (KS ?_)
 refine Oq Vm (Oq (Qcn Qbo) (Oq Vm (Oq (Qcn Qbo) (Oq QgE (KS ?_)))))
 refine Kc ?_ ?_
 ·intro h5
  have g6 := QbH h5
  refine KS ?_
  refine Oq Va (KS ?_)
  have hq := q4 hrr false (by simp only [QeR, h5, cs4]); subst hq
  exact Kr () rfl (.tmp rfl .nil) [] trivial
 intro h5
 have g7 := Qaz h5
 refine KS ?_
 refine Oq Va (KS ?_)
 refine Kl (γ := Nat × Int) (fun (r8, i_9) => ⟨[(0, vl aa0 ak0 a), (1, vl ba0 bk0 b), (5, vi i_9)], [S aa0 ak0 a, S ba0 bk0 b], QeG a b r8 i_9 = QeG a b (((a.length : Int) - 0).toNat) 0 /\ r8 = ((a.length : Int) - i_9).toNat /\ (0 : Int) <= i_9 /\ i_9 <= (a.length : Int) /\ (-9223372036854775808 <= i_9 /\ i_9 <= 9223372036854775807), r8⟩) (((a.length : Int) - 0).toNat, 0) [0, 1] ⟨rfl, rfl, aM1, aM1, aM1⟩ ?_
 rintro ⟨r8, i_9⟩ ⟨hM10, hr11, hi12, hi13, hk14⟩
 refine Qbt fun _ _ hL hA => ?_; dsimp only at hL hA; subst hL hA
 refine Fb 8 0 fun _ => Fo 0 fun ho16 => Fb 8 1 fun _ => Fo 1 fun ho18 => KS ?_
 refine Oq Vm (Oq Vm (Oq (Qcn Qbo) (Oq Qcg (KS ?_))))
 refine Kc ?_ ?_
 ·intro h19
  have g20 := dt h19
  obtain ⟨r21, rfl⟩ := scc (n := r8) aM1
  refine KS ?_
  refine Kq [0, 0, 3, 7, 0, 0, 48, 112, 255] Qcz ?_
  refine Qv [] Vm (Qv [] Vm (Qv [0] (Vi Qbo 0) ?_))
  have hb22 := ok1 (i := i_9.toNat) ho16 rng
  refine Qv [0] (Qc7 sh3 0) (Qv [] Vm (Qv [] Vm (Qv [1] (Vi Qbo 0) ?_)))
  have hb23 := ok1 (i := i_9.toNat) ho18 rng
  refine Qv [1] (Qc7 sh3 0) (Qv [] QgE ?_)
  refine Qn ⟨by kernel_rfl, ?_⟩
  refine Kc ?_ ?_
  ·intro h24
   have g25 := QbH h24
   refine KS ?_
   refine Oq Va (KS ?_)
   have hR26 := q2 hM10 (.ret false) (by simp only [QeG, h5, h19, h24, cs4])
   have hq := q4 hrr false (by simp only [QeR, h5, h19, h24, hR26, cs4]); subst hq
   exact Kr () rfl (.tmp rfl .nil) [] trivial
  intro h24
  have g27 := Qaz h24
  refine KS ?_
  refine Oq Vm (Oq Qbb (Oq Va (KS ?_)))
  exact Kg (r21, (i_9 + 1)) [0, 1] ⟨(q3 hM10 (by simp only [QeG, h5, h19, h24, cs4])), aM1, aM1, aM1, aM1⟩
 intro h19
 have g28 := df h19
 obtain rfl : r8 = 0 := by omega
 refine Ke ?_
 have hR29 := q2 hM10 (.brk ()) (by simp only [QeG, h5, h19, cs4])
 refine KS ?_
 refine Oq Va (KS ?_)
 have hq := q4 hrr true (by simp only [QeR, h5, h19, hR29, cs4]); subst hq
 exact Kr () rfl (.tmp rfl .nil) [] trivial
theorem Qrh (x : Int) (Qr4 : Qac x) (rr : Bool) (hrr : QdQ x = rr) : FT Tryz.prog 127 #[vi x] [] (fun g : Unit => True) (fun g => vb rr) (fun g => []) := by
 refine FTi Tryz.func127 fun w0 M0 F0 => ?_
 unfold Qac at Qr4
 refine KS ?_
 refine Oq Va (KS ?_)
 refine Oq Vm (Oq Vm (Oq QgE (Oq Va (KS ?_))))
 have hq := q4 hrr (x != x) (by simp only [QdQ, cs4]); subst hq
 exact Kr () rfl (.tmp rfl .nil) [] trivial
theorem Qjk (x : Int) (y : Int) (Qr4 : Qac x) (QvS : Qac y) (rr : Bool) (hrr : Qaq x y = rr) : FT Tryz.prog 96 #[vi x, vi y] [] (fun g : Unit => True) (fun g => vb rr) (fun g => []) := by
 refine FTi Tryz.func96 fun w0 M0 F0 => ?_
 unfold Qac at Qr4 QvS
 refine KS ?_
 refine Oq Va (KS ?_)
 refine Oq Vm ?_
 refine QaK (QdQ x) fun rv1 hg2 => ?_
 have hc3 := Qrh x pre rv1 hg2
 refine Oc [] QrS hc3 ?_
 rintro - -
 refine Oq Vm ?_
 refine Js 7 ?_ ?_
 ·intro h4
  refine Oq Vm ?_
  refine QaK (QdQ y) fun rv6 hg7 => ?_
  have hc8 := Qrh y pre rv6 hg7
  refine Oc [] QrS hc8 ?_
  rintro - -
  refine Oq QeT (Oq Vpt (Oq Vm ?_))
  refine Js 12 ?_ ?_
  ·intro h9
   have h11 := not_true h9
   refine Osk (Osk (Osk (Oq Vpt (Oq Va (KS ?_)))))
   have hq := q4 hrr true (by simp only [Qaq, h4, h9, h11, hg2, hg7, cs4]); subst hq
   exact Kr () rfl (.tmp rfl .nil) [] trivial
  intro h9
  have h14 := not_false h9
  refine Oq Vm (Oq Vm (Oq Qcg (Oq Vpf (Oq Va (KS ?_)))))
  have hq := q4 hrr (decide (x < y)) (by simp only [Qaq, h4, h9, h14, hg2, hg7, cs4]); subst hq
  exact Kr () rfl (.tmp rfl .nil) [] trivial
 intro h4
 refine Osk (Osk (Osk (Oq Vpf (Oq Vm (Oq Vm (Oq Vm (Oq Qcg (Oq Vpf (Oq Va ?_)))))))))
 refine KS ?_
 have hq := q4 hrr (decide (x < y)) (by simp only [Qaq, h4, hg2, cs4]); subst hq
 exact Kr () rfl (.tmp rfl .nil) [] trivial
theorem Qve (data : List Int) (Qaf : Option Addr) (Qag : Nat) (a : Int) (b : Int) (Qh4 : Qac a) (Qii : Qac b) (ha0 : 0 <= a /\ a <= b /\ b <= (data.length : Int) /\ data.length <= 65535) (rr : List Int) (hrr : Qbk data a b = rr) : FT Tryz.prog 90 #[vl Qaf Qag data, vi a, vi b] [O Qaf Qag data] (fun g : Unit => (rr.length = data.length)) (fun g => .tuple #[]) (fun g => [os (vl Qaf Qag data) rr]) := by
 refine FTi Tryz.func90 fun w0 M0 F0 => ?_
 unfold Qac at Qh4 Qii
 refine Fb 8 0 fun _ => Fo 0 fun ho2 => KS ?_
 refine Oq Vm (Oq Qbb (Oq Va (KS ?_)))
 refine Kl (γ := Nat × List Int × Int) (fun (r3, Qan, i_5) => ⟨[(0, vl Qaf Qag data), (1, vi a), (2, vi b), (6, vi i_5)], [os (vl Qaf Qag data) Qan], QaI a r3 Qan i_5 = QaI a (((b : Int) - (a + 1)).toNat) data (a + 1) /\ r3 = ((b : Int) - i_5).toNat /\ ((a + 1) : Int) <= i_5 /\ (i_5 <= b \/ i_5 = (a + 1)) /\ (-9223372036854775808 <= i_5 /\ i_5 <= 9223372036854775807), r3⟩) (((b : Int) - (a + 1)).toNat, data, (a + 1)) [0] ⟨rfl, rfl, aM1, (.inr rfl), aM1⟩ ?_
 rintro ⟨r3, Qan, i_5⟩ ⟨hM6, hr7, hi8, hi9, hk10⟩
 refine Qbt fun _ _ hL hA => ?_; dsimp only at hL hA; subst hL hA
 refine Fb 8 0 fun _ => Fo 0 fun ho12 => Fl 0 fun hn13 => ?_
 refine KS ?_
 refine Oq Vm (Oq Vm (Oq Qcg (KS ?_)))
 refine Kc ?_ ?_
 ·intro h14
  have g15 := dt h14
  obtain ⟨r16, rfl⟩ := scc (n := r3) aM1
  refine KS ?_
  refine Oq Vm (Oq Va (KS ?_))
  refine Kl (γ := Nat × List Int × Int) (fun (r17, Qdh, Qhd) => ⟨[(0, vl Qaf Qag data), (1, vi a), (2, vi b), (6, vi i_5), (7, vi Qhd)], [os (vl Qaf Qag data) Qdh], QaM r17 Qdh Qhd = QaM (((i_5 : Int) - a).toNat) Qan i_5 /\ r17 = ((Qhd : Int) - a).toNat /\ Qhd <= (i_5 : Int) /\ (-9223372036854775808 <= Qhd /\ Qhd <= 9223372036854775807), r17⟩) (((i_5 : Int) - a).toNat, Qan, i_5) [0] ⟨rfl, rfl, aM1, aM1⟩ ?_
  rintro ⟨r17, Qdh, Qhd⟩ ⟨hM20, hr21, hi22, hk23⟩
  refine Qbt fun _ _ hL hA => ?_; dsimp only at hL hA; subst hL hA
  refine Fb 8 0 fun _ => Fo 0 fun ho25 => Fl 0 fun hn26 => ?_
  refine KS ?_
  refine Qat [0, 0, 3, 7, 15, 15, 63, 127, 15, 15, 527, 1807, 3855, 8191, 16383] Qcz ?_
  refine Dv [] Vm (Dv [] Vm (Dv [] Qih ?_))
  refine Qbl (decide (a < Qhd)) ?_ ?_
  ·intro h27
   have g28 := dt h27
   obtain ⟨r29, rfl⟩ := scc (n := r17) aM1
   refine Db h27 [] Vm (Dv [] Vm (Dv [] Vm (Dv [0] (Vi Qbo 0) ?_)))
   have hb30 := ok1 (i := Qhd.toNat) ho25 rng
   refine Dv [0] (Qc7 sh3 0) (Dv [] Vm (Dv [] Vm (Dv [] Qdf (Dv [0] (Vi Qbo 0) ?_))))
   have hb31 := ok1 (i := ((Qhd - 1) : Int).toNat) ho25 rng
   refine Dv [0] (Qc7 sh3 0) ?_
   refine QaK (Qaq (Qdh.getD Qhd.toNat 0) (Qdh.getD ((Qhd - 1) : Int).toNat 0)) fun rv32 hg33 => ?_
   refine Dx [] [] [0] (fun G => vb rv32) [fun G => SP.fact (True)] (fun G => xC [] Qjl (Qjk ((Qdh.getD Qhd.toNat 0)) ((Qdh.getD ((Qhd - 1) : Int).toNat 0)) pre pre rv32 hg33)) (Dv [] Vpt ?_)
   refine Dn ⟨by kernel_rfl, fun G => ?_⟩
   refine Jw2 [(0, vl Qaf Qag data), (1, vi a), (2, vi b), (6, vi i_5), (7, vi Qhd), (30, vb rv32)] [0] [SP.fact (True)] ?_
   refine Jk [0] ?_
   refine Kc ?_ ?_
   ·intro h34
    refine KS ?_
    refine Qat [0, 0, 0, 0, 8, 0, 0, 64, 224, 480, 0, 0, 3072, 7168, 16355, 32739, 65535, 131071] Qcz ?_
    refine Dv [] Vm (Dv [] Vm (Dv [] Vm (Dv [] Vm (Dv [] Qdf (Dv [] Vm (Dv [] Vm (Dv [] Qdf (Dv [0] (Vi Qbo 0) ?_))))))))
    have hb36 := ok1 (i := ((Qhd - 1) : Int).toNat) ho25 rng
    refine Dv [0] (Qc7 sh3 0) (Dv [] Vm (Dv [] Vm (Dv [0] (Vi Qbo 0) ?_)))
    have hb37 := ok1 (i := Qhd.toNat) ho25 rng
    refine Dv [0] (Qc7 sh3 0) (Dv [0] (Vi Qbo 0) (Dx0 [0] [0] [0] [fun G => os (vl Qaf Qag data) (Qdh.set Qhd.toNat (Qdh.getD ((Qhd - 1) : Int).toNat 0))] (fun G => xS (SoI [0] sh3)) (Dv [1] (Vi Qbo 0) (Dx0 [1] [1] [0] [fun G => os (vl Qaf Qag data) ((Qdh.set Qhd.toNat (Qdh.getD ((Qhd - 1) : Int).toNat 0)).set ((Qhd - 1) : Int).toNat (Qdh.getD Qhd.toNat 0))] (fun G => xS (SoI [0] sh3)) ?_))))
    refine Dn ⟨by kernel_rfl, fun G => ?_⟩
    refine Jw2 [(0, vl Qaf Qag data), (1, vi a), (2, vi b), (6, vi i_5), (7, vi Qhd)] [] [os (vl Qaf Qag data) ((Qdh.set Qhd.toNat (Qdh.getD ((Qhd - 1) : Int).toNat 0)).set ((Qhd - 1) : Int).toNat (Qdh.getD Qhd.toNat 0))] ?_
    refine KS ?_
    refine Oq Vm (Oq Qdf (Oq Va (KS ?_)))
    exact Kg (r29, ((Qdh.set Qhd.toNat (Qdh.getD ((Qhd - 1) : Int).toNat 0)).set ((Qhd - 1) : Int).toNat (Qdh.getD Qhd.toNat 0)), (Qhd - 1)) [0] ⟨(q3 hM20 (by simp only [QaM, h14, h27, h34, hg33, cs4])), aM1, aM1, aM1⟩
   intro h34
   refine Ke ?_
   have hR39 := q2 hM20 Qdh (by simp only [QaM, h14, h27, h34, hg33, cs4])
   refine KS ?_
   refine Oq Vm (Oq Qbb (Oq Va (KS ?_)))
   exact Kg (r16, Qdh, (i_5 + 1)) [0] ⟨(q3 hM6 (by simp only [QaI, h14, h27, h34, hg33, hR39, cs4])), aM1, aM1, aM1, aM1⟩
  intro h27
  have g40 := df h27
  obtain rfl : r17 = 0 := by omega
  refine Db h27 [] Vm (Ds (Ds (Ds (Ds (Ds (Ds (Ds (Ds (Ds ?_)))))))))
  refine Ds (Dv [] Vpf ?_)
  refine Dn ⟨by kernel_rfl, fun G => ?_⟩
  refine Jw2 [(0, vl Qaf Qag data), (1, vi a), (2, vi b), (6, vi i_5), (7, vi Qhd), (30, vb false)] [0] [] ?_
  refine Kf ?_
  refine Ke ?_
  have hR41 := q2 hM20 Qdh (by simp only [QaM, h14, h27, cs4])
  refine KS ?_
  refine Oq Vm (Oq Qbb (Oq Va (KS ?_)))
  exact Kg (r16, Qdh, (i_5 + 1)) [0] ⟨(q3 hM6 (by simp only [QaI, h14, h27, hR41, cs4])), aM1, aM1, aM1, aM1⟩
 intro h14
 have g42 := df h14
 obtain rfl : r3 = 0 := by omega
 refine Ke ?_
 have hR43 := q2 hM6 Qan (by simp only [QaI, h14, cs4])
 refine Fl 0 fun hn44 => ?_
 have hq := q4 hrr Qan (by simp only [Qbk, h14, hR43, cs4]); subst hq
 exact Kz () rfl .nil [0] en
theorem QqJ (data : List Int) (Qaf : Option Addr) (Qag : Nat) (lo : Int) (hi : Int) (first : Int) (QtQ : Qac lo) (QtR : Qac hi) (Qoc : Qac first) (ha0 : 0 <= lo /\ lo <= 65535 /\ 0 <= hi /\ 0 <= first /\ first + hi <= (data.length : Int) /\ data.length <= 65535) (rr : List Int) (hrr : QaT data lo hi first = rr) : FT Tryz.prog 122 #[vl Qaf Qag data, vi lo, vi hi, vi first] [O Qaf Qag data] (fun g : Unit => (rr.length = data.length)) (fun g => .tuple #[]) (fun g => [os (vl Qaf Qag data) rr]) := by
 refine FTi Tryz.func122 fun w0 M0 F0 => ?_
 unfold Qac at QtQ QtR Qoc
 refine Fb 8 0 fun _ => Fo 0 fun ho2 => KS ?_
 refine Oq Vm (Oq Va (KS ?_))
 have hterm9 : Qar hi first (hi.toNat + 1) data lo ≠ LR.oof := (QmT _ _ _ aM1 aM1 aM1)
 refine Kl (γ := Nat × List Int × Int) (fun (r3, Qan, QaW) => ⟨[(0, vl Qaf Qag data), (2, vi hi), (3, vi first), (8, vi QaW)], [os (vl Qaf Qag data) Qan], Qar hi first r3 Qan QaW = Qar hi first (hi.toNat + 1) data lo /\ (-9223372036854775808 <= QaW /\ QaW <= 9223372036854775807) /\ (0 <= QaW /\ QaW <= 70000), r3⟩) ((hi.toNat + 1), data, lo) [0] ⟨rfl, aM1, iv0⟩ ?_
 rintro ⟨r3, Qan, QaW⟩ ⟨hM6, hk7, hv8⟩
 refine Qbt fun _ _ hL hA => ?_; dsimp only at hL hA; subst hL hA
 refine Fb 8 0 fun _ => Fo 0 fun ho11 => Fl 0 fun hn12 => ?_
 rcases r3 with _ | r3
 ·exact absurd (hM6.symm.trans rfl) hterm9
 refine KS ?_
 refine Oq Vm (Oq Qov (Oq Qbb (Oq Va (KS ?_))))
 refine Oq Vm (Oq Vm (Oq QeI (KS ?_)))
 refine Kc ?_ ?_
 ·intro h13
  have g14 := dt h13
  refine Ke ?_
  have hR15 := q2 hM6 (.brk Qan) (by simp only [Qar, h13, cs4])
  refine Fl 0 fun hn16 => ?_
  have hq := q4 hrr Qan (by simp only [QaT, h13, hR15, cs4]); subst hq
  exact Kz () rfl .nil [0] en
 intro h13
 have g17 := df h13
 refine KS ?_
 refine Qat [0, 1, 0, 7, 15, 31, 31, 31, 223, 511, 1023, 31, 31, 31, 12319, 28703, 63519, 129055, 262143, 524287] Qcz ?_
 refine Dv [] Vm (Dv [] Qbb (Dv [] Vm (Dv [] Qcg ?_)))
 refine Qbl (decide ((((2 * QaW) + 1) + 1) < hi)) ?_ ?_
 ·intro h18
  have g19 := dt h18
  refine Db h18 [] Vm (Dv [] Vm (Dv [] Vm (Dv [] Vm (Dv [] Qbb (Dv [0] (Vi Qbo 0) ?_)))))
  have hb20 := ok1 (i := ((first + ((2 * QaW) + 1)) : Int).toNat) ho11 rng
  refine Dv [0] (Qc7 sh3 0) (Dv [] Vm (Dv [] Vm (Dv [] Vm (Dv [] Qbb (Dv [] Qbb (Dv [0] (Vi Qbo 0) ?_))))))
  have hb21 := ok1 (i := (((first + ((2 * QaW) + 1)) + 1) : Int).toNat) ho11 rng
  refine Dv [0] (Qc7 sh3 0) ?_
  refine QaK (Qaq (Qan.getD ((first + ((2 * QaW) + 1)) : Int).toNat 0) (Qan.getD (((first + ((2 * QaW) + 1)) + 1) : Int).toNat 0)) fun rv22 hg23 => ?_
  refine Dx [] [] [0] (fun G => vb rv22) [fun G => SP.fact (True)] (fun G => xC [] Qjl (Qjk ((Qan.getD ((first + ((2 * QaW) + 1)) : Int).toNat 0)) ((Qan.getD (((first + ((2 * QaW) + 1)) + 1) : Int).toNat 0)) pre pre rv22 hg23)) (Dv [] Vpt ?_)
  refine Dn ⟨by kernel_rfl, fun G => ?_⟩
  refine Jw2 [(0, vl Qaf Qag data), (2, vi hi), (3, vi first), (8, vi QaW), (9, vi ((2 * QaW) + 1)), (36, vb rv22)] [0] [SP.fact (True)] ?_
  refine Jk [0] ?_
  refine Kc ?_ ?_
  ·intro h24
   refine KS ?_
   refine Oq Vm (Oq Qbb (Oq Va (KS ?_)))
   refine Qat [0, 0, 0, 6, 15, 31, 0, 0, 0, 384, 960, 1984, 4095, 8191] Qcz ?_
   refine Dv [] Vm (Dv [] Vm (Dv [] Vm (Dv [] Qbb (Dv [0] (Vi Qbo 0) ?_))))
   have hb26 := ok1 (i := ((first + QaW) : Int).toNat) ho11 rng
   refine Dv [0] (Qc7 sh3 0) (Dv [] Vm (Dv [] Vm (Dv [] Vm (Dv [] Qbb (Dv [0] (Vi Qbo 0) ?_)))))
   have hb27 := ok1 (i := ((first + (((2 * QaW) + 1) + 1)) : Int).toNat) ho11 rng
   refine Dv [0] (Qc7 sh3 0) ?_
   refine QaK (Qaq (Qan.getD ((first + QaW) : Int).toNat 0) (Qan.getD ((first + (((2 * QaW) + 1) + 1)) : Int).toNat 0)) fun rv28 hg29 => ?_
   refine Dx [] [] [0] (fun G => vb rv28) [fun G => SP.fact (True)] (fun G => xC [] Qjl (Qjk ((Qan.getD ((first + QaW) : Int).toNat 0)) ((Qan.getD ((first + (((2 * QaW) + 1) + 1)) : Int).toNat 0)) pre pre rv28 hg29)) (Dv [] QeT ?_)
   refine Dn ⟨by kernel_rfl, fun G => ?_⟩
   refine Jw2 [(0, vl Qaf Qag data), (2, vi hi), (3, vi first), (8, vi QaW), (9, vi (((2 * QaW) + 1) + 1)), (52, vb (!rv28))] [0] [SP.fact (True)] ?_
   refine Jk [0] ?_
   refine Kc ?_ ?_
   ·intro h30
    have h32 := not_true h30
    refine Fl 0 fun hn34 => ?_
    have hR35 := q2 hM6 (.ret Qan) (by simp only [Qar, h13, h18, h24, h30, h32, hg23, hg29, cs4])
    have hq := q4 hrr Qan (by simp only [QaT, h13, h18, h24, h30, h32, hg23, hg29, hR35, cs4]); subst hq
    exact Kr () rfl .nil [0] en
   intro h30
   have h37 := not_false h30
   refine KS ?_
   refine Qat [0, 0, 0, 6, 0, 0, 0, 96, 0, 0, 0, 1536, 3840, 7936, 0, 0, 0, 98304, 245760, 507904, 1048335, 2096911, 4194303, 8388607] Qcz ?_
   refine Dv [] Vm (Dv [] Vm (Dv [] Vm (Dv [] Qbb (Dv [] Vm (Dv [] Vm (Dv [] Vm (Dv [] Qbb (Dv [] Vm (Dv [] Vm ?_)))))))))
   refine Dv [] Vm (Dv [] Qbb (Dv [0] (Vi Qbo 0) ?_))
   have hb39 := ok1 (i := ((first + (((2 * QaW) + 1) + 1)) : Int).toNat) ho11 rng
   refine Dv [0] (Qc7 sh3 0) (Dv [] Vm (Dv [] Vm (Dv [] Vm (Dv [] Qbb (Dv [0] (Vi Qbo 0) ?_)))))
   have hb40 := ok1 (i := ((first + QaW) : Int).toNat) ho11 rng
   refine Dv [0] (Qc7 sh3 0) (Dv [0] (Vi Qbo 0) (Dx0 [0] [0] [0] [fun G => os (vl Qaf Qag data) (Qan.set ((first + QaW) : Int).toNat (Qan.getD ((first + (((2 * QaW) + 1) + 1)) : Int).toNat 0))] (fun G => xS (SoI [0] sh3)) (Dv [1] (Vi Qbo 0) (Dx0 [1] [1] [0] [fun G => os (vl Qaf Qag data) ((Qan.set ((first + QaW) : Int).toNat (Qan.getD ((first + (((2 * QaW) + 1) + 1)) : Int).toNat 0)).set ((first + (((2 * QaW) + 1) + 1)) : Int).toNat (Qan.getD ((first + QaW) : Int).toNat 0))] (fun G => xS (SoI [0] sh3)) ?_))))
   refine Dn ⟨by kernel_rfl, fun G => ?_⟩
   refine Jw2 [(0, vl Qaf Qag data), (2, vi hi), (3, vi first), (9, vi (((2 * QaW) + 1) + 1))] [] [os (vl Qaf Qag data) ((Qan.set ((first + QaW) : Int).toNat (Qan.getD ((first + (((2 * QaW) + 1) + 1)) : Int).toNat 0)).set ((first + (((2 * QaW) + 1) + 1)) : Int).toNat (Qan.getD ((first + QaW) : Int).toNat 0))] ?_
   refine KS ?_
   refine Oq Vm (Oq Va (KS ?_))
   exact Kg (r3, ((Qan.set ((first + QaW) : Int).toNat (Qan.getD ((first + (((2 * QaW) + 1) + 1)) : Int).toNat 0)).set ((first + (((2 * QaW) + 1) + 1)) : Int).toNat (Qan.getD ((first + QaW) : Int).toNat 0)), (((2 * QaW) + 1) + 1)) [0] ⟨(q3 hM6 (by simp only [Qar, h13, h18, h24, h30, h37, hg23, hg29, cs4])), aM1, iv1⟩
  intro h24
  refine KS ?_
  refine Qat [0, 0, 0, 6, 15, 31, 0, 0, 0, 384, 960, 1984, 4095, 8191] Qcz ?_
  refine Dv [] Vm (Dv [] Vm (Dv [] Vm (Dv [] Qbb (Dv [0] (Vi Qbo 0) ?_))))
  have hb42 := ok1 (i := ((first + QaW) : Int).toNat) ho11 rng
  refine Dv [0] (Qc7 sh3 0) (Dv [] Vm (Dv [] Vm (Dv [] Vm (Dv [] Qbb (Dv [0] (Vi Qbo 0) ?_)))))
  have hb43 := ok1 (i := ((first + ((2 * QaW) + 1)) : Int).toNat) ho11 rng
  refine Dv [0] (Qc7 sh3 0) ?_
  refine QaK (Qaq (Qan.getD ((first + QaW) : Int).toNat 0) (Qan.getD ((first + ((2 * QaW) + 1)) : Int).toNat 0)) fun rv44 hg45 => ?_
  refine Dx [] [] [0] (fun G => vb rv44) [fun G => SP.fact (True)] (fun G => xC [] Qjl (Qjk ((Qan.getD ((first + QaW) : Int).toNat 0)) ((Qan.getD ((first + ((2 * QaW) + 1)) : Int).toNat 0)) pre pre rv44 hg45)) (Dv [] QeT ?_)
  refine Dn ⟨by kernel_rfl, fun G => ?_⟩
  refine Jw2 [(0, vl Qaf Qag data), (2, vi hi), (3, vi first), (8, vi QaW), (9, vi ((2 * QaW) + 1)), (52, vb (!rv44))] [0] [SP.fact (True)] ?_
  refine Jk [0] ?_
  refine Kc ?_ ?_
  ·intro h46
   have h48 := not_true h46
   refine Fl 0 fun hn50 => ?_
   have hR51 := q2 hM6 (.ret Qan) (by simp only [Qar, h13, h18, h24, h46, h48, hg23, hg45, cs4])
   have hq := q4 hrr Qan (by simp only [QaT, h13, h18, h24, h46, h48, hg23, hg45, hR51, cs4]); subst hq
   exact Kr () rfl .nil [0] en
  intro h46
  have h53 := not_false h46
  refine KS ?_
  refine Qat [0, 0, 0, 6, 0, 0, 0, 96, 0, 0, 0, 1536, 3840, 7936, 0, 0, 0, 98304, 245760, 507904, 1048335, 2096911, 4194303, 8388607] Qcz ?_
  refine Dv [] Vm (Dv [] Vm (Dv [] Vm (Dv [] Qbb (Dv [] Vm (Dv [] Vm (Dv [] Vm (Dv [] Qbb (Dv [] Vm (Dv [] Vm ?_)))))))))
  refine Dv [] Vm (Dv [] Qbb (Dv [0] (Vi Qbo 0) ?_))
  have hb55 := ok1 (i := ((first + ((2 * QaW) + 1)) : Int).toNat) ho11 rng
  refine Dv [0] (Qc7 sh3 0) (Dv [] Vm (Dv [] Vm (Dv [] Vm (Dv [] Qbb (Dv [0] (Vi Qbo 0) ?_)))))
  have hb56 := ok1 (i := ((first + QaW) : Int).toNat) ho11 rng
  refine Dv [0] (Qc7 sh3 0) (Dv [0] (Vi Qbo 0) (Dx0 [0] [0] [0] [fun G => os (vl Qaf Qag data) (Qan.set ((first + QaW) : Int).toNat (Qan.getD ((first + ((2 * QaW) + 1)) : Int).toNat 0))] (fun G => xS (SoI [0] sh3)) (Dv [1] (Vi Qbo 0) (Dx0 [1] [1] [0] [fun G => os (vl Qaf Qag data) ((Qan.set ((first + QaW) : Int).toNat (Qan.getD ((first + ((2 * QaW) + 1)) : Int).toNat 0)).set ((first + ((2 * QaW) + 1)) : Int).toNat (Qan.getD ((first + QaW) : Int).toNat 0))] (fun G => xS (SoI [0] sh3)) ?_))))
  refine Dn ⟨by kernel_rfl, fun G => ?_⟩
  refine Jw2 [(0, vl Qaf Qag data), (2, vi hi), (3, vi first), (9, vi ((2 * QaW) + 1))] [] [os (vl Qaf Qag data) ((Qan.set ((first + QaW) : Int).toNat (Qan.getD ((first + ((2 * QaW) + 1)) : Int).toNat 0)).set ((first + ((2 * QaW) + 1)) : Int).toNat (Qan.getD ((first + QaW) : Int).toNat 0))] ?_
  refine KS ?_
  refine Oq Vm (Oq Va (KS ?_))
  exact Kg (r3, ((Qan.set ((first + QaW) : Int).toNat (Qan.getD ((first + ((2 * QaW) + 1)) : Int).toNat 0)).set ((first + ((2 * QaW) + 1)) : Int).toNat (Qan.getD ((first + QaW) : Int).toNat 0)), ((2 * QaW) + 1)) [0] ⟨(q3 hM6 (by simp only [Qar, h13, h18, h24, h46, h53, hg23, hg45, cs4])), aM1, iv1⟩
 intro h18
 have g57 := df h18
 refine Db h18 [] Vm (Ds (Ds (Ds (Ds (Ds (Ds (Ds (Ds (Ds ?_)))))))))
 refine Ds (Ds (Ds (Ds (Ds (Dv [] Vpf ?_)))))
 refine Dn ⟨by kernel_rfl, fun G => ?_⟩
 refine Jw2 [(0, vl Qaf Qag data), (2, vi hi), (3, vi first), (8, vi QaW), (9, vi ((2 * QaW) + 1)), (36, vb false)] [0] [] ?_
 refine Kf (KS ?_)
 refine Qat [0, 0, 0, 6, 15, 31, 0, 0, 0, 384, 960, 1984, 4095, 8191] Qcz ?_
 refine Dv [] Vm (Dv [] Vm (Dv [] Vm (Dv [] Qbb (Dv [0] (Vi Qbo 0) ?_))))
 have hb58 := ok1 (i := ((first + QaW) : Int).toNat) ho11 rng
 refine Dv [0] (Qc7 sh3 0) (Dv [] Vm (Dv [] Vm (Dv [] Vm (Dv [] Qbb (Dv [0] (Vi Qbo 0) ?_)))))
 have hb59 := ok1 (i := ((first + ((2 * QaW) + 1)) : Int).toNat) ho11 rng
 refine Dv [0] (Qc7 sh3 0) ?_
 refine QaK (Qaq (Qan.getD ((first + QaW) : Int).toNat 0) (Qan.getD ((first + ((2 * QaW) + 1)) : Int).toNat 0)) fun rv60 hg61 => ?_
 refine Dx [] [] [0] (fun G => vb rv60) [fun G => SP.fact (True)] (fun G => xC [] Qjl (Qjk ((Qan.getD ((first + QaW) : Int).toNat 0)) ((Qan.getD ((first + ((2 * QaW) + 1)) : Int).toNat 0)) pre pre rv60 hg61)) (Dv [] QeT ?_)
 refine Dn ⟨by kernel_rfl, fun G => ?_⟩
 refine Jw2 [(0, vl Qaf Qag data), (2, vi hi), (3, vi first), (8, vi QaW), (9, vi ((2 * QaW) + 1)), (52, vb (!rv60))] [0] [SP.fact (True)] ?_
 refine Jk [0] ?_
 refine Kc ?_ ?_
 ·intro h62
  have h64 := not_true h62
  refine Fl 0 fun hn66 => ?_
  have hR67 := q2 hM6 (.ret Qan) (by simp only [Qar, h13, h18, h62, h64, hg61, cs4])
  have hq := q4 hrr Qan (by simp only [QaT, h13, h18, h62, h64, hg61, hR67, cs4]); subst hq
  exact Kr () rfl .nil [0] en
 intro h62
 have h69 := not_false h62
 refine KS ?_
 refine Qat [0, 0, 0, 6, 0, 0, 0, 96, 0, 0, 0, 1536, 3840, 7936, 0, 0, 0, 98304, 245760, 507904, 1048335, 2096911, 4194303, 8388607] Qcz ?_
 refine Dv [] Vm (Dv [] Vm (Dv [] Vm (Dv [] Qbb (Dv [] Vm (Dv [] Vm (Dv [] Vm (Dv [] Qbb (Dv [] Vm (Dv [] Vm ?_)))))))))
 refine Dv [] Vm (Dv [] Qbb (Dv [0] (Vi Qbo 0) ?_))
 have hb71 := ok1 (i := ((first + ((2 * QaW) + 1)) : Int).toNat) ho11 rng
 refine Dv [0] (Qc7 sh3 0) (Dv [] Vm (Dv [] Vm (Dv [] Vm (Dv [] Qbb (Dv [0] (Vi Qbo 0) ?_)))))
 have hb72 := ok1 (i := ((first + QaW) : Int).toNat) ho11 rng
 refine Dv [0] (Qc7 sh3 0) (Dv [0] (Vi Qbo 0) (Dx0 [0] [0] [0] [fun G => os (vl Qaf Qag data) (Qan.set ((first + QaW) : Int).toNat (Qan.getD ((first + ((2 * QaW) + 1)) : Int).toNat 0))] (fun G => xS (SoI [0] sh3)) (Dv [1] (Vi Qbo 0) (Dx0 [1] [1] [0] [fun G => os (vl Qaf Qag data) ((Qan.set ((first + QaW) : Int).toNat (Qan.getD ((first + ((2 * QaW) + 1)) : Int).toNat 0)).set ((first + ((2 * QaW) + 1)) : Int).toNat (Qan.getD ((first + QaW) : Int).toNat 0))] (fun G => xS (SoI [0] sh3)) ?_))))
 refine Dn ⟨by kernel_rfl, fun G => ?_⟩
 refine Jw2 [(0, vl Qaf Qag data), (2, vi hi), (3, vi first), (9, vi ((2 * QaW) + 1))] [] [os (vl Qaf Qag data) ((Qan.set ((first + QaW) : Int).toNat (Qan.getD ((first + ((2 * QaW) + 1)) : Int).toNat 0)).set ((first + ((2 * QaW) + 1)) : Int).toNat (Qan.getD ((first + QaW) : Int).toNat 0))] ?_
 refine KS ?_
 refine Oq Vm (Oq Va (KS ?_))
 exact Kg (r3, ((Qan.set ((first + QaW) : Int).toNat (Qan.getD ((first + ((2 * QaW) + 1)) : Int).toNat 0)).set ((first + ((2 * QaW) + 1)) : Int).toNat (Qan.getD ((first + QaW) : Int).toNat 0)), ((2 * QaW) + 1)) [0] ⟨(q3 hM6 (by simp only [Qar, h13, h18, h62, h69, hg61, cs4])), aM1, iv1⟩
theorem QuH (data : List Int) (Qaf : Option Addr) (Qag : Nat) (a : Int) (b : Int) (Qh4 : Qac a) (Qii : Qac b) (ha0 : 0 <= a /\ a <= b /\ b <= (data.length : Int) /\ data.length <= 65535 /\ 1 <= b - a) (rr : List Int) (hrr : QbC data a b = rr) : FT Tryz.prog 91 #[vl Qaf Qag data, vi a, vi b] [O Qaf Qag data] (fun g : Unit => (rr.length = data.length)) (fun g => .tuple #[]) (fun g => [os (vl Qaf Qag data) rr]) := by
 refine FTi Tryz.func91 fun w0 M0 F0 => ?_
 unfold Qac at Qh4 Qii
 refine Fb 8 0 fun _ => Fo 0 fun ho2 => KS ?_
 refine Oq Vm (Oq Va (KS ?_))
 refine Oq Va (KS ?_)
 refine Oq Vm (Oq Vm (Oq Qdf (Oq Va (KS ?_))))
 refine Oq Vm (Oq Qdf (Oq QjE (Oq Va (KS ?_))))
 have hterm9 : Qa1 a b ((b - a).toNat + 1) data (((b - a) - 1) / 2) ≠ LR.oof := (Qm6 _ _ _ aM1 aM1)
 refine Kl (γ := Nat × List Int × Int) (fun (r3, Qan, i_5) => ⟨[(0, vl Qaf Qag data), (6, vi a), (7, vi 0), (8, vi (b - a)), (9, vi i_5)], [os (vl Qaf Qag data) Qan], Qa1 a b r3 Qan i_5 = Qa1 a b ((b - a).toNat + 1) data (((b - a) - 1) / 2) /\ (-9223372036854775808 <= i_5 /\ i_5 <= 9223372036854775807) /\ (-1 <= i_5 /\ i_5 <= b - a), r3⟩) (((b - a).toNat + 1), data, (((b - a) - 1) / 2)) [0] ⟨rfl, aM1, iv0⟩ ?_
 rintro ⟨r3, Qan, i_5⟩ ⟨hM6, hk7, hv8⟩
 refine Qbt fun _ _ hL hA => ?_; dsimp only at hL hA; subst hL hA
 refine Fb 8 0 fun _ => Fo 0 fun ho11 => Fl 0 fun hn12 => ?_
 rcases r3 with _ | r3
 ·exact absurd (hM6.symm.trans rfl) hterm9
 refine KS ?_
 refine Oq Vm (Oq QeI (KS ?_))
 refine Kc ?_ ?_
 ·intro h13
  have g14 := dt h13
  refine KS ?_
  refine Oq Vm (Oq Vm (Oq Vm (Oq Vm ?_)))
  refine Fl 0 fun hn15 => ?_; (try unfold vl); rw [<- hn15]
  refine QaK (QaT Qan i_5 (b - a) a) fun rv16 hg17 => ?_
  have hc18 := QqJ Qan Qaf Qag i_5 ((b - a)) a pre pre pre pre rv16 hg17
  refine Oc [0] Qrt hc18 ?_
  rintro - he19
  have hn20 : Qan.length = data.length := by omega
  try unfold vl
  try rw [hn20]
  refine Fb 8 0 fun _ => Fo 0 fun ho22 => KS ?_
  refine Oq Vm (Oq Qdf (Oq Va (KS ?_)))
  exact Kg (r3, rv16, (i_5 - 1)) [0] ⟨(q3 hM6 (by simp only [Qa1, h13, hg17, cs4])), aM1, iv1⟩
 intro h13
 have g23 := df h13
 refine Ke ?_
 have hR24 := q2 hM6 (.brk Qan) (by simp only [Qa1, h13, cs4])
 refine KS ?_
 refine Oq Vm (Oq Qdf (Oq Va (KS ?_)))
 have hterm31 : Qa2 a ((b - a).toNat + 1) Qan ((b - a) - 1) ≠ LR.oof := (QmJ _ _ _ aM1 aM1)
 refine Kl (γ := Nat × List Int × Int) (fun (r25, Qdi, Qjm) => ⟨[(0, vl Qaf Qag data), (6, vi a), (7, vi 0), (10, vi Qjm)], [os (vl Qaf Qag data) Qdi], Qa2 a r25 Qdi Qjm = Qa2 a ((b - a).toNat + 1) Qan ((b - a) - 1) /\ (-9223372036854775808 <= Qjm /\ Qjm <= 9223372036854775807) /\ (-1 <= Qjm /\ Qjm < b - a), r25⟩) (((b - a).toNat + 1), Qan, ((b - a) - 1)) [0] ⟨rfl, aM1, iv0⟩ ?_
 rintro ⟨r25, Qdi, Qjm⟩ ⟨hM28, hk29, hv30⟩
 refine Qbt fun _ _ hL hA => ?_; dsimp only at hL hA; subst hL hA
 refine Fb 8 0 fun _ => Fo 0 fun ho33 => Fl 0 fun hn34 => ?_
 rcases r25 with _ | r25
 ·exact absurd (hM28.symm.trans rfl) hterm31
 refine KS ?_
 refine Oq Vm (Oq QeI (KS ?_))
 refine Kc ?_ ?_
 ·intro h35
  have g36 := dt h35
  refine KS ?_
  refine Qat [0, 0, 0, 0, 0, 24, 0, 0, 0, 384, 960, 1984, 0, 0, 12288, 28672, 65475, 131011, 262143, 524287] Qcz ?_
  refine Dv [] Vm (Dv [] Vm (Dv [] Vm (Dv [] Vm (Dv [] Vm (Dv [] Qbb (Dv [] Vm (Dv [] Vm (Dv [] Vm (Dv [] Qbb ?_)))))))))
  refine Dv [0] (Vi Qbo 0) ?_
  have hb37 := ok1 (i := ((a + Qjm) : Int).toNat) ho33 rng
  refine Dv [0] (Qc7 sh3 0) (Dv [] Vm (Dv [] Vm (Dv [0] (Vi Qbo 0) ?_)))
  have hb38 := ok1 (i := a.toNat) ho33 rng
  refine Dv [0] (Qc7 sh3 0) (Dv [0] (Vi Qbo 0) (Dx0 [0] [0] [0] [fun G => os (vl Qaf Qag data) (Qdi.set a.toNat (Qdi.getD ((a + Qjm) : Int).toNat 0))] (fun G => xS (SoI [0] sh3)) (Dv [1] (Vi Qbo 0) (Dx0 [1] [1] [0] [fun G => os (vl Qaf Qag data) ((Qdi.set a.toNat (Qdi.getD ((a + Qjm) : Int).toNat 0)).set ((a + Qjm) : Int).toNat (Qdi.getD a.toNat 0))] (fun G => xS (SoI [0] sh3)) ?_))))
  refine Dn ⟨by kernel_rfl, fun G => ?_⟩
  refine Jw2 [(0, vl Qaf Qag data), (6, vi a), (7, vi 0), (10, vi Qjm)] [] [os (vl Qaf Qag data) ((Qdi.set a.toNat (Qdi.getD ((a + Qjm) : Int).toNat 0)).set ((a + Qjm) : Int).toNat (Qdi.getD a.toNat 0))] ?_
  refine KS ?_
  refine Oq Vm (Oq Vm (Oq Vm (Oq Vm ?_)))
  refine Fl 0 fun hn39 => ?_; (try unfold vl); rw [<- hn39]
  refine QaK (QaT ((Qdi.set a.toNat (Qdi.getD ((a + Qjm) : Int).toNat 0)).set ((a + Qjm) : Int).toNat (Qdi.getD a.toNat 0)) 0 Qjm a) fun rv40 hg41 => ?_
  have hc42 := QqJ (((Qdi.set a.toNat (Qdi.getD ((a + Qjm) : Int).toNat 0)).set ((a + Qjm) : Int).toNat (Qdi.getD a.toNat 0))) Qaf Qag 0 Qjm a pre pre pre pre rv40 hg41
  refine Oc [0] Qrt hc42 ?_
  rintro - he43
  have hn44 : ((Qdi.set a.toNat (Qdi.getD ((a + Qjm) : Int).toNat 0)).set ((a + Qjm) : Int).toNat (Qdi.getD a.toNat 0)).length = data.length := by omega
  try unfold vl
  try rw [hn44]
  refine Fb 8 0 fun _ => Fo 0 fun ho46 => KS ?_
  refine Oq Vm (Oq Qdf (Oq Va (KS ?_)))
  exact Kg (r25, rv40, (Qjm - 1)) [0] ⟨(q3 hM28 (by simp only [Qa2, h13, h35, hR24, hg41, cs4])), aM1, iv1⟩
 intro h35
 have g47 := df h35
 refine Ke ?_
 have hR48 := q2 hM28 (.brk Qdi) (by simp only [Qa2, h13, h35, hR24, cs4])
 refine Fl 0 fun hn49 => ?_
 have hq := q4 hrr Qdi (by simp only [QbC, h13, h35, hR24, hR48, cs4]); subst hq
 exact Kz () rfl .nil [0] en
theorem Qs3 (x : BitVec 64) (hx0 : x.toNat <= 65535) (rr : Int) (hrr : QfI x = rr) : FT Tryz.prog 100 #[u64 x] [] (fun g : Unit => Qac rr) (fun g => vi rr) (fun g => []) := by
 refine FTi Tryz.func100 fun w0 M0 F0 => ?_
 have hs8 : (x >>> (((8#64).toNat : Int)).toNat).toNat = x.toNat / 256 := by rw [show (((8#64).toNat : Int)).toNat = 8 by decide, BitVec.toNat_ushiftRight, Nat.shiftRight_eq_div_pow]
 have hs9 : (x >>> Int.toNat 8).toNat = x.toNat / 256 := hs8
 have hu8 := u8b (Qj4.b.getD (((x >>> Int.toNat 8).toNat : Int)).toNat 0)
 refine KS ?_
 refine Oq Va (KS ?_)
 refine Oq Vm (Oq (QeI (a := (x.toNat : Int)) (b := 4294967296)) (KS ?_))
 refine Kc ?_ ?_
 ·intro h1
  have g2 := dt h1
  exfalso; omega
 intro h1
 have g3 := df h1
 refine KS ?_
 refine Oq Vm (Oq (QeI (a := (x.toNat : Int)) (b := 65536)) (KS ?_))
 refine Kc ?_ ?_
 ·intro h4
  have g5 := dt h4
  exfalso; omega
 intro h4
 have g6 := df h4
 refine KS ?_
 refine Oq Vm (Oq (QeI (a := (x.toNat : Int)) (b := 256)) (KS ?_))
 refine Kc ?_ ?_
 ·intro h7
  have g8 := dt h7
  refine KS ?_
  refine Oq Vm (Oq QqN (Oq Va (KS ?_)))
  refine Oq Vm (Oq Qbb (Oq Va (KS ?_)))
  refine Oq Vm (Oq Vm (Oq (Quo QrB un5) ?_))
  refine Oq (Vix un9 (l := Qj4) (h := ⟨by omega, by rw [show Qj4.b.length = 256 from rfl]; omega⟩)) ?_
  have hb9 := u8b (Qj4.b.getD (((x >>> (((8#64).toNat : Int)).toNat).toNat : Int) : Int).toNat 0)
  refine Oq (VcK un5 un3) (Oq Qbb (Oq Va (KS ?_)))
  have hq := q4 hrr ((0 + 8) + ((Qj4.b.getD (((x >>> (((8#64).toNat : Int)).toNat).toNat : Int) : Int).toNat 0).toNat : Int)) (by simp only [QfI, h1, h4, h7, cs4]); subst hq
  exact Kr () rfl (.tmp rfl .nil) [] en
 intro h7
 have g10 := df h7
 refine KS ?_
 refine Oq Vm (Oq Vm (Oq (Quo QrB un5) ?_))
 refine Oq (Vix un9 (l := Qj4) (h := ⟨by omega, by rw [show Qj4.b.length = 256 from rfl]; omega⟩)) ?_
 have hb11 := u8b (Qj4.b.getD ((x.toNat : Int) : Int).toNat 0)
 refine Oq (VcK un5 un3) (Oq Qbb (Oq Va (KS ?_)))
 have hq := q4 hrr (0 + ((Qj4.b.getD ((x.toNat : Int) : Int).toNat 0).toNat : Int)) (by simp only [QfI, h1, h4, h7, cs4]); subst hq
 exact Kr () rfl (.tmp rfl .nil) [] en
theorem Quu (x : BitVec 64) (hx0 : x.toNat <= 65535) (rr : Int) (hrr : Qd4 x = rr) : FT Tryz.prog 61 #[u64 x] [] (fun g : Unit => Qac rr) (fun g => vi rr) (fun g => []) := by
 refine FTi Tryz.func61 fun w0 M0 F0 => ?_
 refine KS ?_
 refine Oq Va (KS ?_)
 refine Kf (KS ?_)
 refine Oq Vm ?_
 refine QaK (QfI x) fun rv1 hg2 => ?_
 have hc3 := Qs3 x pre rv1 hg2
 refine Oc [] Qsx hc3 ?_
 rintro - he4
 unfold Qac at he4
 refine Oq Va (KS ?_)
 have hq := q4 hrr rv1 (by simp only [Qd4, hg2, cs4]); subst hq
 exact Kr () rfl (.tmp rfl .nil) [] en
theorem QsB (length : Int) (Qnm : Qac length) (hl0 : 1 <= length /\ length <= 65535) (rr : BitVec 64) (hrr : Qci length = rr) : FT Tryz.prog 123 #[vi length] [] (fun g : Unit => True) (fun g => u64 rr) (fun g => []) := by
 refine FTi Tryz.func123 fun w0 M0 F0 => ?_
 unfold Qac at Qnm
 refine KS ?_
 refine Oq Va (KS ?_)
 refine Oq Vm (Oq (VcU un3 Qmb) ?_)
 refine QaK (Qd4 (BitVec.ofInt 64 length)) fun rv1 hg2 => ?_
 have hln := Qqv hg2 (by rw [Qi6 aM1]; omega)
 have hc3 := Quu ((BitVec.ofInt 64 length)) (by rw [Qi6 aM1]; omega) rv1 hg2
 refine Oc [] Quf hc3 ?_
 rintro - he4
 unfold Qac at he4
 refine Oq (QpV (a := 1#64)) (Oq Va (KS ?_))
 have hq := q4 hrr (1#64 <<< (rv1).toNat) (by simp only [Qci, hg2, cs4]); subst hq
 exact Kr () rfl (.tmp rfl .nil) [] trivial
theorem QsV (rP : Value) (r : BitVec 64) (rr : BitVec 64 × BitVec 64) (hrr : QcW r = rr) : FT Tryz.prog 124 #[rP] [Cl rP [u64 r]] (fun g : Unit => True) (fun g => u64 rr.1) (fun g => [Cl rP [u64 rr.2]]) := by
 refine FTi Tryz.func124 fun w0 M0 F0 => ?_
 refine KS ?_
 refine Oq Va (KS ?_)
 refine Jp 0 fun hp1 => ?_
 refine Qat [0, 1, 3, 0, 8, 24, 56, 127, 255, 511] Qcz ?_
 refine Dv [] Vm (Dv [0] (Vn 0) (Dv [1] (Vld Qjj 0) (Dv [] Vm (Dv [0] (Vn 0) (Dv [1] (Vld Qjj 0) (Dv [] QpV (Dv [] Qp2 (Dv [0] (Vn 0) (Dx0 [1] [1] [0] [fun G => Cl rP [u64 (r ^^^ (r <<< (((13#64).toNat : Int)).toNat))]] (fun G => xS (Scl [0] Qjj [u64 (r ^^^ (r <<< (((13#64).toNat : Int)).toNat))])) ?_)))))))))
 refine Dn ⟨by kernel_rfl, fun G => ?_⟩
 refine Jw2 [(0, rP)] [0] [Cl rP [u64 (r ^^^ (r <<< (((13#64).toNat : Int)).toNat))]] ?_
 refine Jk [1] ?_
 refine KS ?_
 refine Jp 0 fun hp2 => ?_
 refine Qat [0, 1, 3, 0, 8, 24, 56, 127, 255, 511] Qcz ?_
 refine Dv [] Vm (Dv [0] (Vn 0) (Dv [1] (Vld Qjj 0) (Dv [] Vm (Dv [0] (Vn 0) (Dv [1] (Vld Qjj 0) (Dv [] QqN (Dv [] Qp2 (Dv [0] (Vn 0) (Dx0 [1] [1] [0] [fun G => Cl rP [u64 ((r ^^^ (r <<< (((13#64).toNat : Int)).toNat)) ^^^ ((r ^^^ (r <<< (((13#64).toNat : Int)).toNat)) >>> (((7#64).toNat : Int)).toNat))]] (fun G => xS (Scl [0] Qjj [u64 ((r ^^^ (r <<< (((13#64).toNat : Int)).toNat)) ^^^ ((r ^^^ (r <<< (((13#64).toNat : Int)).toNat)) >>> (((7#64).toNat : Int)).toNat))])) ?_)))))))))
 refine Dn ⟨by kernel_rfl, fun G => ?_⟩
 refine Jw2 [(0, rP)] [0] [Cl rP [u64 ((r ^^^ (r <<< (((13#64).toNat : Int)).toNat)) ^^^ ((r ^^^ (r <<< (((13#64).toNat : Int)).toNat)) >>> (((7#64).toNat : Int)).toNat))]] ?_
 refine Jk [1] ?_
 refine KS ?_
 refine Jp 0 fun hp3 => ?_
 refine Qat [0, 1, 3, 0, 8, 24, 56, 127, 255, 511] Qcz ?_
 refine Dv [] Vm (Dv [0] (Vn 0) (Dv [1] (Vld Qjj 0) (Dv [] Vm (Dv [0] (Vn 0) (Dv [1] (Vld Qjj 0) (Dv [] QpV (Dv [] Qp2 (Dv [0] (Vn 0) (Dx0 [1] [1] [0] [fun G => Cl rP [u64 (((r ^^^ (r <<< (((13#64).toNat : Int)).toNat)) ^^^ ((r ^^^ (r <<< (((13#64).toNat : Int)).toNat)) >>> (((7#64).toNat : Int)).toNat)) ^^^ (((r ^^^ (r <<< (((13#64).toNat : Int)).toNat)) ^^^ ((r ^^^ (r <<< (((13#64).toNat : Int)).toNat)) >>> (((7#64).toNat : Int)).toNat)) <<< (((17#64).toNat : Int)).toNat))]] (fun G => xS (Scl [0] Qjj [u64 (((r ^^^ (r <<< (((13#64).toNat : Int)).toNat)) ^^^ ((r ^^^ (r <<< (((13#64).toNat : Int)).toNat)) >>> (((7#64).toNat : Int)).toNat)) ^^^ (((r ^^^ (r <<< (((13#64).toNat : Int)).toNat)) ^^^ ((r ^^^ (r <<< (((13#64).toNat : Int)).toNat)) >>> (((7#64).toNat : Int)).toNat)) <<< (((17#64).toNat : Int)).toNat))])) ?_)))))))))
 refine Dn ⟨by kernel_rfl, fun G => ?_⟩
 refine Jw2 [(0, rP)] [0] [Cl rP [u64 (((r ^^^ (r <<< (((13#64).toNat : Int)).toNat)) ^^^ ((r ^^^ (r <<< (((13#64).toNat : Int)).toNat)) >>> (((7#64).toNat : Int)).toNat)) ^^^ (((r ^^^ (r <<< (((13#64).toNat : Int)).toNat)) ^^^ ((r ^^^ (r <<< (((13#64).toNat : Int)).toNat)) >>> (((7#64).toNat : Int)).toNat)) <<< (((17#64).toNat : Int)).toNat))]] ?_
 refine Jk [1] ?_
 refine KS ?_
 refine Oq Vm (Oq (Vn 0) (Oq (Vld Qjj 0) (Oq Va (KS ?_))))
 have hq := q4 hrr ((((r ^^^ (r <<< (((13#64).toNat : Int)).toNat)) ^^^ ((r ^^^ (r <<< (((13#64).toNat : Int)).toNat)) >>> (((7#64).toNat : Int)).toNat)) ^^^ (((r ^^^ (r <<< (((13#64).toNat : Int)).toNat)) ^^^ ((r ^^^ (r <<< (((13#64).toNat : Int)).toNat)) >>> (((7#64).toNat : Int)).toNat)) <<< (((17#64).toNat : Int)).toNat)), (((r ^^^ (r <<< (((13#64).toNat : Int)).toNat)) ^^^ ((r ^^^ (r <<< (((13#64).toNat : Int)).toNat)) >>> (((7#64).toNat : Int)).toNat)) ^^^ (((r ^^^ (r <<< (((13#64).toNat : Int)).toNat)) ^^^ ((r ^^^ (r <<< (((13#64).toNat : Int)).toNat)) >>> (((7#64).toNat : Int)).toNat)) <<< (((17#64).toNat : Int)).toNat))) (by simp only [QcW, cs4]); subst hq
 exact Kr () rfl (.tmp rfl .nil) [0] trivial
theorem QvG (data : List Int) (Qaf : Option Addr) (Qag : Nat) (a : Int) (b : Int) (Qh4 : Qac a) (Qii : Qac b) (ha0 : 0 <= a /\ a <= b /\ b <= (data.length : Int) /\ data.length <= 65535) (rr : List Int) (hrr : QaG data a b = rr) : FT Tryz.prog 92 #[vl Qaf Qag data, vi a, vi b] [O Qaf Qag data] (fun g : Unit => (rr.length = data.length)) (fun g => .tuple #[]) (fun g => [os (vl Qaf Qag data) rr]) := by
 refine FTi Tryz.func92 fun w0 M0 F0 => ?_
 unfold Qac at Qh4 Qii
 refine Fb 8 0 fun _ => Fo 0 fun ho2 => KS ?_
 refine Oq Vm (Oq Vm (Oq Qdf (Oq Va (KS ?_))))
 refine Oq Vm (Oq QeI (KS ?_))
 refine Kc ?_ ?_
 ·intro h3
  have g4 := dt h3
  refine KS ?_
  refine Oq Vm (Oq (VcU un3 Qtm) (Oa (Al Qtg [u64 (0#64)]) fun p5 => Ost (Scl [0] Qjj [u64 (BitVec.ofInt 64 (b - a))]) (KS ?_)))
  refine Oq Vm ?_
  refine QaK (Qci (b - a)) fun rv6 hg7 => ?_
  have hmd := Qs1 hg7 aM1
  have hc8 := QsB ((b - a)) pre pre rv6 hg7
  refine Oc [] QtB hc8 ?_
  rintro - -
  refine Oq Va (KS ?_)
  refine Oq Vm (Oq Vm (Oq QjE (Oq Qov (Oq Qbb (Oq Qdf (Oq Va (KS ?_)))))))
  have hterm16 : QaA a b rv6 4 data (BitVec.ofInt 64 (b - a)) ((a + (((b - a) / 4) * 2)) - 1) ≠ LR.oof := (Qts _ _ _ _ aM1 aM1)
  refine Kl (γ := Nat × List Int × BitVec 64 × Int) (fun (r9, Qcy, Qgq, QdK) => ⟨[(0, vl Qaf Qag data), (1, vi a), (6, vi (b - a)), (7, p5), (8, u64 rv6), (9, vi QdK)], [Cl p5 [u64 Qgq], os (vl Qaf Qag data) Qcy], QaA a b rv6 r9 Qcy Qgq QdK = QaA a b rv6 4 data (BitVec.ofInt 64 (b - a)) ((a + (((b - a) / 4) * 2)) - 1) /\ (-9223372036854775808 <= QdK /\ QdK <= 9223372036854775807) /\ (a + (b - a) / 4 * 2 - 1 <= QdK /\ QdK <= a + (b - a) / 4 * 2 + 2), r9⟩) (4, data, (BitVec.ofInt 64 (b - a)), ((a + (((b - a) / 4) * 2)) - 1)) [0, 0] ⟨rfl, aM1, iv0⟩ ?_
  rintro ⟨r9, Qcy, Qgq, QdK⟩ ⟨hM13, hk14, hv15⟩
  refine Qbt fun _ _ hL hA => ?_; dsimp only at hL hA; subst hL hA
  refine Fb 8 1 fun _ => Fo 1 fun ho18 => Fl 1 fun hn19 => ?_
  rcases r9 with _ | r9
  ·exact absurd (hM13.symm.trans rfl) hterm16
  refine KS ?_
  refine Oq Vm (Oq Vm (Oq Vm (Oq QjE (Oq Qov (Oq Qbb (Oq Qbb (Oq Qh8 (KS ?_))))))))
  refine Kc ?_ ?_
  ·intro h20
   have g21 := dt h20
   refine KS ?_
   refine QaK (QcW Qgq) fun rv22 hg23 => ?_
   have hal := Qot (x := rv22.1) hmd.1
   have hc24 := QsV p5 Qgq rv22 hg23
   refine Oc [0] Qsz hc24 ?_
   rintro - -
   refine Oq Vm (Oq (Qs9 (b := 1#64)) (Oq QsZ (Oq (VcN Qmb un3) (Oq Va (KS ?_)))))
   refine Oq Vm (Oq Vm (Oq QeI (KS ?_)))
   refine Kc ?_ ?_
   ·intro h25
    have g26 := dt h25
    refine KS ?_
    refine Oq Vm (Oq Vm (Oq Qdf (Oq Va (KS ?_))))
    refine Qat [0, 0, 0, 0, 0, 24, 0, 0, 0, 384, 960, 1984, 0, 0, 12288, 28672, 65475, 131011, 262143, 524287] Qcz ?_
    refine Dv [] Vm (Dv [] Vm (Dv [] Vm (Dv [] Vm (Dv [] Vm (Dv [] Qbb (Dv [] Vm (Dv [] Vm (Dv [] Vm (Dv [] Qbb ?_)))))))))
    refine Dv [1] (Vi Qbo 0) ?_
    have hb27 := ok1 (i := ((a + (((rv22.1 &&& (rv6 - 1#64)).toNat : Int) - (b - a))) : Int).toNat) ho18 rng
    refine Dv [1] (Qc7 sh3 0) (Dv [] Vm (Dv [] Vm (Dv [1] (Vi Qbo 0) ?_)))
    have hb28 := ok1 (i := QdK.toNat) ho18 rng
    refine Dv [1] (Qc7 sh3 0) (Dv [1] (Vi Qbo 0) (Dx0 [1] [1] [0] [fun G => os (vl Qaf Qag data) (Qcy.set QdK.toNat (Qcy.getD ((a + (((rv22.1 &&& (rv6 - 1#64)).toNat : Int) - (b - a))) : Int).toNat 0))] (fun G => xS (SoI [0] sh3)) (Dv [2] (Vi Qbo 0) (Dx0 [2] [2] [0] [fun G => os (vl Qaf Qag data) ((Qcy.set QdK.toNat (Qcy.getD ((a + (((rv22.1 &&& (rv6 - 1#64)).toNat : Int) - (b - a))) : Int).toNat 0)).set ((a + (((rv22.1 &&& (rv6 - 1#64)).toNat : Int) - (b - a))) : Int).toNat (Qcy.getD QdK.toNat 0))] (fun G => xS (SoI [0] sh3)) ?_))))
    refine Dn ⟨by kernel_rfl, fun G => ?_⟩
    refine Jw2 [(0, vl Qaf Qag data), (1, vi a), (6, vi (b - a)), (7, p5), (8, u64 rv6), (9, vi QdK)] [0] [os (vl Qaf Qag data) ((Qcy.set QdK.toNat (Qcy.getD ((a + (((rv22.1 &&& (rv6 - 1#64)).toNat : Int) - (b - a))) : Int).toNat 0)).set ((a + (((rv22.1 &&& (rv6 - 1#64)).toNat : Int) - (b - a))) : Int).toNat (Qcy.getD QdK.toNat 0))] ?_
    refine KS ?_
    refine Oq Vm (Oq Qbb (Oq Va (KS ?_)))
    exact Kg (r9, ((Qcy.set QdK.toNat (Qcy.getD ((a + (((rv22.1 &&& (rv6 - 1#64)).toNat : Int) - (b - a))) : Int).toNat 0)).set ((a + (((rv22.1 &&& (rv6 - 1#64)).toNat : Int) - (b - a))) : Int).toNat (Qcy.getD QdK.toNat 0)), rv22.2, (QdK + 1)) [0, 0] ⟨(q3 hM13 (by simp only [QaA, h3, h20, h25, hg7, hg23, cs4])), aM1, iv1⟩
   intro h25
   have g29 := df h25
   refine KS ?_
   refine Qat [0, 0, 0, 0, 0, 24, 0, 0, 0, 384, 960, 1984, 0, 0, 12288, 28672, 65475, 131011, 262143, 524287] Qcz ?_
   refine Dv [] Vm (Dv [] Vm (Dv [] Vm (Dv [] Vm (Dv [] Vm (Dv [] Qbb (Dv [] Vm (Dv [] Vm (Dv [] Vm (Dv [] Qbb ?_)))))))))
   refine Dv [1] (Vi Qbo 0) ?_
   have hb30 := ok1 (i := ((a + ((rv22.1 &&& (rv6 - 1#64)).toNat : Int)) : Int).toNat) ho18 rng
   refine Dv [1] (Qc7 sh3 0) (Dv [] Vm (Dv [] Vm (Dv [1] (Vi Qbo 0) ?_)))
   have hb31 := ok1 (i := QdK.toNat) ho18 rng
   refine Dv [1] (Qc7 sh3 0) (Dv [1] (Vi Qbo 0) (Dx0 [1] [1] [0] [fun G => os (vl Qaf Qag data) (Qcy.set QdK.toNat (Qcy.getD ((a + ((rv22.1 &&& (rv6 - 1#64)).toNat : Int)) : Int).toNat 0))] (fun G => xS (SoI [0] sh3)) (Dv [2] (Vi Qbo 0) (Dx0 [2] [2] [0] [fun G => os (vl Qaf Qag data) ((Qcy.set QdK.toNat (Qcy.getD ((a + ((rv22.1 &&& (rv6 - 1#64)).toNat : Int)) : Int).toNat 0)).set ((a + ((rv22.1 &&& (rv6 - 1#64)).toNat : Int)) : Int).toNat (Qcy.getD QdK.toNat 0))] (fun G => xS (SoI [0] sh3)) ?_))))
   refine Dn ⟨by kernel_rfl, fun G => ?_⟩
   refine Jw2 [(0, vl Qaf Qag data), (1, vi a), (6, vi (b - a)), (7, p5), (8, u64 rv6), (9, vi QdK)] [0] [os (vl Qaf Qag data) ((Qcy.set QdK.toNat (Qcy.getD ((a + ((rv22.1 &&& (rv6 - 1#64)).toNat : Int)) : Int).toNat 0)).set ((a + ((rv22.1 &&& (rv6 - 1#64)).toNat : Int)) : Int).toNat (Qcy.getD QdK.toNat 0))] ?_
   refine KS ?_
   refine Oq Vm (Oq Qbb (Oq Va (KS ?_)))
   exact Kg (r9, ((Qcy.set QdK.toNat (Qcy.getD ((a + ((rv22.1 &&& (rv6 - 1#64)).toNat : Int)) : Int).toNat 0)).set ((a + ((rv22.1 &&& (rv6 - 1#64)).toNat : Int)) : Int).toNat (Qcy.getD QdK.toNat 0)), rv22.2, (QdK + 1)) [0, 0] ⟨(q3 hM13 (by simp only [QaA, h3, h20, h25, hg7, hg23, cs4])), aM1, iv1⟩
  intro h20
  have g32 := df h20
  refine Ke ?_
  have hR33 := q2 hM13 (.brk Qcy) (by simp only [QaA, h3, h20, hg7, cs4])
  refine Fl 1 fun hn34 => ?_
  have hq := q4 hrr Qcy (by simp only [QaG, h3, h20, hg7, hR33, cs4]); subst hq
  exact Kz () rfl .nil [1] en
 intro h3
 have g35 := df h3
 refine KS ?_
 have hq := q4 hrr data (by simp only [QaG, h3, cs4]); subst hq
 exact Kz () rfl .nil [0] en
theorem Qp3 (data : List Int) (Qaf : Option Addr) (Qag : Nat) (a : Int) (b : Int) (swapsP : Value) (swaps : Int) (Qh4 : Qac a) (Qii : Qac b) (QhZ : Qac swaps) (ha0 : 0 <= a /\ a < (data.length : Int) /\ 0 <= b /\ b < (data.length : Int)) (hs0 : 0 <= swaps /\ swaps <= 1000) (rr : Int × Int × Int) (hrr : QaS data a b swaps = rr) : FT Tryz.prog 140 #[vl Qaf Qag data, vi a, vi b, swapsP] [S Qaf Qag data, Cl swapsP [vi swaps]] (fun g : Unit => Qac rr.1 /\ Qac rr.2.1 /\ Qac rr.2.2 /\ ((rr.1 = a /\ rr.2.1 = b) \/ (rr.1 = b /\ rr.2.1 = a)) /\ (0 <= rr.2.2 /\ rr.2.2 <= swaps + 1)) (fun g => .tuple #[vi rr.1, vi rr.2.1]) (fun g => [Cl swapsP [vi rr.2.2]]) := by
 refine FTi Tryz.func140 fun w0 M0 F0 => ?_
 unfold Qac at Qh4 Qii QhZ
 refine Fb 8 0 fun _ => Fo 0 fun ho2 => KS ?_
 refine Oq Va (Oq Va (KS ?_))
 refine Qat [0, 0, 3, 7, 0, 0, 48, 112, 255] Qcz ?_
 refine Dv [] Vm (Dv [] Vm (Dv [0] (Vi Qbo 0) ?_))
 have hb3 := ok1 (i := b.toNat) ho2 rng
 refine Dv [0] (Qc7 sh3 0) (Dv [] Vm (Dv [] Vm (Dv [0] (Vi Qbo 0) ?_)))
 have hb4 := ok1 (i := a.toNat) ho2 rng
 refine Dv [0] (Qc7 sh3 0) ?_
 refine QaK (Qaq (data.getD b.toNat 0) (data.getD a.toNat 0)) fun rv5 hg6 => Dx [] [] [0] (fun G => vb rv5) [fun G => SP.fact (True)] (fun G => xC [] Qjl (Qjk ((data.getD b.toNat 0)) ((data.getD a.toNat 0)) pre pre rv5 hg6)) ?_
 refine Dn ⟨by kernel_rfl, fun G => ?_⟩
 refine Jw2 [(1, vi a), (2, vi b), (3, swapsP), (18, vb rv5)] [0, 1] [SP.fact (True)] ?_
 refine Jk [0, 1] ?_
 refine Kc ?_ ?_
 ·intro h7
  refine KS ?_
  refine Oq Vm (Oq (Vn 1) (Oq (Vld sh3 1) (Oq Qbb (Oq (Vn 1) (Ost (Scl [1] sh3 [vi (swaps + 1)]) (KS ?_))))))
  refine Oq Vm (Oq Vm (Oq Va (Oq Va (KS ?_))))
  have hq := q4 hrr (b, a, (swaps + 1)) (by simp only [QaS, h7, hg6, cs4]); subst hq
  exact Kr () rfl (.tmp rfl (.tmp rfl .nil)) [0] en
 intro h7
 refine KS ?_
 refine Oq Vm (Oq Vm (Oq Va (Oq Va (KS ?_))))
 have hq := q4 hrr (a, b, swaps) (by simp only [QaS, h7, hg6, cs4]); subst hq
 exact Kr () rfl (.tmp rfl (.tmp rfl .nil)) [1] en
theorem Qqa (data : List Int) (Qaf : Option Addr) (Qag : Nat) (a : Int) (b : Int) (c : Int) (swapsP : Value) (swaps : Int) (Qh4 : Qac a) (Qii : Qac b) (Qqs : Qac c) (QhZ : Qac swaps) (ha0 : 0 <= a /\ a < (data.length : Int) /\ 0 <= b /\ b < (data.length : Int) /\ 0 <= c /\ c < (data.length : Int)) (hs0 : 0 <= swaps /\ swaps <= 900) (rr : Int × Int) (hrr : QaR data a b c swaps = rr) : FT Tryz.prog 126 #[vl Qaf Qag data, vi a, vi b, vi c, swapsP] [S Qaf Qag data, Cl swapsP [vi swaps]] (fun g : Unit => Qac rr.1 /\ Qac rr.2 /\ (rr.1 = a \/ rr.1 = b \/ rr.1 = c) /\ (0 <= rr.2 /\ rr.2 <= swaps + 3)) (fun g => vi rr.1) (fun g => [Cl swapsP [vi rr.2]]) := by
 refine FTi Tryz.func126 fun w0 M0 F0 => ?_
 unfold Qac at Qh4 Qii Qqs QhZ
 refine Fb 8 0 fun _ => Fo 0 fun ho2 => KS ?_
 refine Oq Va (KS ?_)
 refine Oq Vm (Oq Vm (Oq Vm (Oq Vm ?_)))
 refine QaK (QaS data a b swaps) fun rv3 hg4 => ?_
 have hc5 := Qp3 data Qaf Qag a b swapsP swaps pre pre pre pre pre rv3 hg4
 refine Oc [0, 1] Qo8 hc5 ?_
 rintro - ⟨he6, he7, he8, he9, he10⟩
 unfold Qac at he6 he7 he8
 refine Oq Vm (Oq Vx (Oq Vx (Oq Va (Oq Va (KS ?_)))))
 refine Oq Vm (Oq Vm (Oq Vm (Oq Vm ?_)))
 refine QaK (QaS data rv3.2.1 c rv3.2.2) fun rv11 hg12 => ?_
 have hc13 := Qp3 data Qaf Qag rv3.2.1 c swapsP rv3.2.2 pre pre pre pre pre rv11 hg12
 refine Oc [1, 0] Qo8 hc13 ?_
 rintro - ⟨he14, he15, he16, he17, he18⟩
 unfold Qac at he14 he15 he16
 refine Oq Vm (Oq Vx (Oq Vx (Oq Va (Oq Va (KS ?_)))))
 refine Oq Vm (Oq Vm (Oq Vm (Oq Vm ?_)))
 refine QaK (QaS data rv3.1 rv11.1 rv11.2.2) fun rv19 hg20 => ?_
 have hc21 := Qp3 data Qaf Qag rv3.1 rv11.1 swapsP rv11.2.2 pre pre pre pre pre rv19 hg20
 refine Oc [1, 0] Qo8 hc21 ?_
 rintro - ⟨he22, he23, he24, he25, he26⟩
 unfold Qac at he22 he23 he24
 refine Oq Vm (Oq Vx (Oq Vx (Oq Va (Oq Va (KS ?_)))))
 refine Oq Vm (Oq Va (KS ?_))
 have hq := q4 hrr (rv19.2.1, rv19.2.2) (by simp only [QaR, hg4, hg12, hg20, cs4]); subst hq
 exact Kr () rfl (.tmp rfl .nil) [0] en
theorem Qpw (data : List Int) (Qaf : Option Addr) (Qag : Nat) (a : Int) (swapsP : Value) (swaps : Int) (Qh4 : Qac a) (QhZ : Qac swaps) (ha0 : 1 <= a /\ a + 1 < (data.length : Int)) (hs0 : 0 <= swaps /\ swaps <= 900) (rr : Int × Int) (hrr : Qa5 data a swaps = rr) : FT Tryz.prog 125 #[vl Qaf Qag data, vi a, swapsP] [S Qaf Qag data, Cl swapsP [vi swaps]] (fun g : Unit => Qac rr.1 /\ Qac rr.2 /\ (a - 1 <= rr.1 /\ rr.1 <= a + 1) /\ (0 <= rr.2 /\ rr.2 <= swaps + 3)) (fun g => vi rr.1) (fun g => [Cl swapsP [vi rr.2]]) := by
 refine FTi Tryz.func125 fun w0 M0 F0 => ?_
 unfold Qac at Qh4 QhZ
 refine Fb 8 0 fun _ => Fo 0 fun ho2 => KS ?_
 refine Oq Va (KS ?_)
 refine Oq Vm (Oq Vm (Oq Qdf (Oq Vm (Oq Vm (Oq Qbb (Oq Vm ?_))))))
 refine QaK (QaR data (a - 1) a (a + 1) swaps) fun rv3 hg4 => ?_
 have hc5 := Qqa data Qaf Qag ((a - 1)) a ((a + 1)) swapsP swaps pre pre pre pre pre pre rv3 hg4
 refine Oc [0, 1] Qp5 hc5 ?_
 rintro - ⟨he6, he7, he8, he9⟩
 unfold Qac at he6 he7
 refine Oq Va (KS ?_)
 have hq := q4 hrr (rv3.1, rv3.2) (by simp only [Qa5, hg4, cs4]); subst hq
 exact Kr () rfl (.tmp rfl .nil) [0] en
theorem Que (data : List Int) (Qaf : Option Addr) (Qag : Nat) (a : Int) (b : Int) (Qh4 : Qac a) (Qii : Qac b) (ha0 : 0 <= a /\ a <= b /\ b <= (data.length : Int) /\ data.length <= 65535 /\ 8 <= b - a) (rr : Int × Int) (hrr : Qak data a b = rr) : FT Tryz.prog 93 #[vl Qaf Qag data, vi a, vi b] [S Qaf Qag data] (fun g : Unit => Qac rr.1 /\ Qac rr.2 /\ (a <= rr.1 /\ rr.1 < b)) (fun g => .tuple #[vi rr.1, vi rr.2]) (fun g => []) := by
 refine FTi Tryz.func93 fun w0 M0 F0 => ?_
 unfold Qac at Qh4 Qii
 refine Fb 8 0 fun _ => Fo 0 fun ho2 => KS ?_
 refine Oq Va (Oq Va (KS ?_))
 refine Oq Vm (Oq Vm (Oq Qdf (Oq Va (KS ?_))))
 refine Oa (Al ze3 [vi 0]) fun p3 => KS ?_
 refine Oq Vm (Oq Vm (Oq QjE (Oq Qov (Oq Qbb (Oq Va (KS ?_))))))
 refine Oq Vm (Oq Vm (Oq QjE (Oq Qov (Oq Qbb (Oq Va (KS ?_))))))
 refine Oq Vm (Oq Vm (Oq QjE (Oq Qov (Oq Qbb (Oq Va (KS ?_))))))
 refine Oq Vm (Oq QeI (KS ?_))
 refine Kc ?_ ?_
 ·intro h4
  have g5 := dt h4
  refine KS ?_
  refine Oq Vm (Oq QeI (KS ?_))
  refine Kc ?_ ?_
  ·intro h6
   have g7 := dt h6
   refine KS ?_
   refine Oq Vm (Oq Vm ?_)
   refine QaK (Qa5 data (a + (((b - a) / 4) * 1)) 0) fun rv8 hg9 => ?_
   have hc10 := Qpw data Qaf Qag ((a + (((b - a) / 4) * 1))) p3 0 pre pre pre pre rv8 hg9
   refine Oc [1, 0] Qpv hc10 ?_
   rintro - ⟨he11, he12, he13, he14⟩
   unfold Qac at he11 he12
   refine Oq Va (KS ?_)
   refine Oq Vm (Oq Vm ?_)
   refine QaK (Qa5 data (a + (((b - a) / 4) * 2)) rv8.2) fun rv15 hg16 => ?_
   have hc17 := Qpw data Qaf Qag ((a + (((b - a) / 4) * 2))) p3 rv8.2 pre pre pre pre rv15 hg16
   refine Oc [1, 0] Qpv hc17 ?_
   rintro - ⟨he18, he19, he20, he21⟩
   unfold Qac at he18 he19
   refine Oq Va (KS ?_)
   refine Oq Vm (Oq Vm ?_)
   refine QaK (Qa5 data (a + (((b - a) / 4) * 3)) rv15.2) fun rv22 hg23 => ?_
   have hc24 := Qpw data Qaf Qag ((a + (((b - a) / 4) * 3))) p3 rv15.2 pre pre pre pre rv22 hg23
   refine Oc [1, 0] Qpv hc24 ?_
   rintro - ⟨he25, he26, he27, he28⟩
   unfold Qac at he25 he26
   refine Oq Va (KS ?_)
   refine Oq Vm (Oq Vm (Oq Vm (Oq Vm ?_)))
   refine QaK (QaR data rv8.1 rv15.1 rv22.1 rv22.2) fun rv29 hg30 => ?_
   have hc31 := Qqa data Qaf Qag rv8.1 rv15.1 rv22.1 p3 rv22.2 pre pre pre pre pre pre rv29 hg30
   refine Oc [1, 0] Qp5 hc31 ?_
   rintro - ⟨he32, he33, he34, he35⟩
   unfold Qac at he32 he33
   refine Oq Va (KS ?_)
   refine Oq (Vld sh3 0) (KS ?_)
   refine Oq QbB (Oq Va (KS ?_))
   refine Kc ?_ ?_
   ·intro h36
    have g37 := eq_of_beq h36
    refine KS ?_
    refine Oq Vm (Oq Va (Oq Va (KS ?_)))
    have hq := q4 hrr (rv29.1, 1) (by simp only [Qak, h4, h6, h36, hg9, hg16, hg23, hg30, cs4]); subst hq
    exact Kr () rfl (.tmp rfl (.tmp rfl .nil)) [] ⟨en, en, (hrr ▸ QgN _ aM1)⟩
   intro h36
   have g38 := ne_of_beq_false h36
   refine KS ?_
   refine Oq QbB (Oq Va (KS ?_))
   refine Kc ?_ ?_
   ·intro h39
    have g40 := eq_of_beq h39
    refine KS ?_
    refine Oq Vm (Oq Va (Oq Va (KS ?_)))
    have hq := q4 hrr (rv29.1, 2) (by simp only [Qak, h4, h6, h36, h39, hg9, hg16, hg23, hg30, cs4]); subst hq
    exact Kr () rfl (.tmp rfl (.tmp rfl .nil)) [] ⟨en, en, (hrr ▸ QgN _ aM1)⟩
   intro h39
   have g41 := ne_of_beq_false h39
   refine KS ?_
   refine Oq Vm (Oq Va (Oq Va (KS ?_)))
   have hq := q4 hrr (rv29.1, 0) (by simp only [Qak, h4, h6, h36, h39, hg9, hg16, hg23, hg30, cs4]); subst hq
   exact Kr () rfl (.tmp rfl (.tmp rfl .nil)) [] ⟨en, en, (hrr ▸ QgN _ aM1)⟩
  intro h6
  have g42 := df h6
  refine KS ?_
  refine Oq Vm (Oq Vm (Oq Vm (Oq Vm ?_)))
  refine QaK (QaR data (a + (((b - a) / 4) * 1)) (a + (((b - a) / 4) * 2)) (a + (((b - a) / 4) * 3)) 0) fun rv43 hg44 => ?_
  have hc45 := Qqa data Qaf Qag ((a + (((b - a) / 4) * 1))) ((a + (((b - a) / 4) * 2))) ((a + (((b - a) / 4) * 3))) p3 0 pre pre pre pre pre pre rv43 hg44
  refine Oc [1, 0] Qp5 hc45 ?_
  rintro - ⟨he46, he47, he48, he49⟩
  unfold Qac at he46 he47
  refine Oq Va (KS ?_)
  refine Oq (Vld sh3 0) (KS ?_)
  refine Oq QbB (Oq Va (KS ?_))
  refine Kc ?_ ?_
  ·intro h50
   have g51 := eq_of_beq h50
   refine KS ?_
   refine Oq Vm (Oq Va (Oq Va (KS ?_)))
   have hq := q4 hrr (rv43.1, 1) (by simp only [Qak, h4, h6, h50, hg44, cs4]); subst hq
   exact Kr () rfl (.tmp rfl (.tmp rfl .nil)) [] ⟨en, en, (hrr ▸ QgN _ aM1)⟩
  intro h50
  have g52 := ne_of_beq_false h50
  refine KS ?_
  refine Oq QbB (Oq Va (KS ?_))
  refine Kc ?_ ?_
  ·intro h53
   have g54 := eq_of_beq h53
   refine KS ?_
   refine Oq Vm (Oq Va (Oq Va (KS ?_)))
   have hq := q4 hrr (rv43.1, 2) (by simp only [Qak, h4, h6, h50, h53, hg44, cs4]); subst hq
   exact Kr () rfl (.tmp rfl (.tmp rfl .nil)) [] ⟨en, en, (hrr ▸ QgN _ aM1)⟩
  intro h53
  have g55 := ne_of_beq_false h53
  refine KS ?_
  refine Oq Vm (Oq Va (Oq Va (KS ?_)))
  have hq := q4 hrr (rv43.1, 0) (by simp only [Qak, h4, h6, h50, h53, hg44, cs4]); subst hq
  exact Kr () rfl (.tmp rfl (.tmp rfl .nil)) [] ⟨en, en, (hrr ▸ QgN _ aM1)⟩
 intro h4
 have g56 := df h4
 refine KS ?_
 refine Oq (Vld sh3 0) (KS ?_)
 refine Oq QbB (Oq Va (KS ?_))
 refine Kt (KS ?_)
 refine Oq Vm (Oq Va (Oq Va (KS ?_)))
 have hq := q4 hrr ((a + (((b - a) / 4) * 2)), 1) (by simp only [Qak, h4, cs4]); subst hq
 exact Kr () rfl (.tmp rfl (.tmp rfl .nil)) [] ⟨en, en, (hrr ▸ QgN _ aM1)⟩
theorem Qul (data : List Int) (Qaf : Option Addr) (Qag : Nat) (a : Int) (b : Int) (Qh4 : Qac a) (Qii : Qac b) (ha0 : 0 <= a /\ a <= b /\ b <= (data.length : Int) /\ data.length <= 65535) (rr : List Int) (hrr : QaY data a b = rr) : FT Tryz.prog 94 #[vl Qaf Qag data, vi a, vi b] [O Qaf Qag data] (fun g : Unit => (rr.length = data.length)) (fun g => .tuple #[]) (fun g => [os (vl Qaf Qag data) rr]) := by
 refine FTi Tryz.func94 fun w0 M0 F0 => ?_
 unfold Qac at Qh4 Qii
 refine Fb 8 0 fun _ => Fo 0 fun ho2 => KS ?_
 refine Oq Vm (Oq Va (KS ?_))
 refine Oq Vm (Oq Qdf (Oq Va (KS ?_)))
 have hterm11 : QaQ ((b - a).toNat + 1) data a (b - 1) ≠ LR.oof := (QqM _ _ _ _ aM1 aM1)
 refine Kl (γ := Nat × List Int × Int × Int) (fun (r3, Qan, i_5, j_6) => ⟨[(0, vl Qaf Qag data), (6, vi i_5), (7, vi j_6)], [os (vl Qaf Qag data) Qan], QaQ r3 Qan i_5 j_6 = QaQ ((b - a).toNat + 1) data a (b - 1) /\ (-9223372036854775808 <= i_5 /\ i_5 <= 9223372036854775807) /\ (-9223372036854775808 <= j_6 /\ j_6 <= 9223372036854775807) /\ (a <= i_5 /\ j_6 < b /\ -1 <= j_6), r3⟩) (((b - a).toNat + 1), data, a, (b - 1)) [0] ⟨rfl, aM1, aM1, iv0⟩ ?_
 rintro ⟨r3, Qan, i_5, j_6⟩ ⟨hM7, hk8, hk9, hv10⟩
 refine Qbt fun _ _ hL hA => ?_; dsimp only at hL hA; subst hL hA
 refine Fb 8 0 fun _ => Fo 0 fun ho13 => Fl 0 fun hn14 => ?_
 rcases r3 with _ | r3
 ·exact absurd (hM7.symm.trans rfl) hterm11
 refine KS ?_
 refine Oq Vm (Oq Vm (Oq Qcg (KS ?_)))
 refine Kc ?_ ?_
 ·intro h15
  have g16 := dt h15
  refine KS ?_
  refine Qat [0, 0, 0, 0, 0, 0, 48, 112, 0, 0, 768, 1792, 4083, 8179, 16383, 32767] Qcz ?_
  refine Dv [] Vm (Dv [] Vm (Dv [] Vm (Dv [] Vm (Dv [] Vm (Dv [] Vm (Dv [0] (Vi Qbo 0) ?_))))))
  have hb17 := ok1 (i := j_6.toNat) ho13 rng
  refine Dv [0] (Qc7 sh3 0) (Dv [] Vm (Dv [] Vm (Dv [0] (Vi Qbo 0) ?_)))
  have hb18 := ok1 (i := i_5.toNat) ho13 rng
  refine Dv [0] (Qc7 sh3 0) (Dv [0] (Vi Qbo 0) (Dx0 [0] [0] [0] [fun G => os (vl Qaf Qag data) (Qan.set i_5.toNat (Qan.getD j_6.toNat 0))] (fun G => xS (SoI [0] sh3)) (Dv [1] (Vi Qbo 0) (Dx0 [1] [1] [0] [fun G => os (vl Qaf Qag data) ((Qan.set i_5.toNat (Qan.getD j_6.toNat 0)).set j_6.toNat (Qan.getD i_5.toNat 0))] (fun G => xS (SoI [0] sh3)) ?_))))
  refine Dn ⟨by kernel_rfl, fun G => ?_⟩
  refine Jw2 [(0, vl Qaf Qag data), (6, vi i_5), (7, vi j_6)] [] [os (vl Qaf Qag data) ((Qan.set i_5.toNat (Qan.getD j_6.toNat 0)).set j_6.toNat (Qan.getD i_5.toNat 0))] ?_
  refine KS ?_
  refine Oq Vm (Oq Qbb (Oq Va (KS ?_)))
  refine Oq Vm (Oq Qdf (Oq Va (KS ?_)))
  exact Kg (r3, ((Qan.set i_5.toNat (Qan.getD j_6.toNat 0)).set j_6.toNat (Qan.getD i_5.toNat 0)), (i_5 + 1), (j_6 - 1)) [0] ⟨(q3 hM7 (by simp only [QaQ, h15, cs4])), aM1, aM1, iv1⟩
 intro h15
 have g19 := df h15
 refine Ke ?_
 have hR20 := q2 hM7 (.brk Qan) (by simp only [QaQ, h15, cs4])
 refine Fl 0 fun hn21 => ?_
 have hq := q4 hrr Qan (by simp only [QaY, h15, hR20, cs4]); subst hq
 exact Kz () rfl .nil [0] en
theorem Qt3 (data : List Int) (Qaf : Option Addr) (Qag : Nat) (a : Int) (b : Int) (Qh4 : Qac a) (Qii : Qac b) (ha0 : 0 <= a /\ a <= b /\ b <= (data.length : Int) /\ data.length <= 65535 /\ 1 <= b - a) (rr : Bool × List Int) (hrr : Qal data a b = rr) : FT Tryz.prog 95 #[vl Qaf Qag data, vi a, vi b] [O Qaf Qag data] (fun g : Unit => (rr.2.length = data.length)) (fun g => vb rr.1) (fun g => [os (vl Qaf Qag data) rr.2]) := by
 refine FTi Tryz.func95 fun w0 M0 F0 => ?_
 unfold Qac at Qh4 Qii
 refine Fb 8 0 fun _ => Fo 0 fun ho2 => KS ?_
 refine Oq Va (KS ?_)
 refine Oq Vm (Oq Qbb (Oq Va (KS ?_)))
 refine Oq Va (KS ?_)
 refine Kl (γ := Nat × List Int × Int × Int) (fun (r3, Qan, i_5, j_6) => ⟨[(0, vl Qaf Qag data), (1, vi a), (2, vi b), (7, vi i_5), (8, vi j_6)], [os (vl Qaf Qag data) Qan], Qad data a b r3 Qan i_5 j_6 = Qad data a b 5 data (a + 1) 0 /\ r3 = ((5 : Int) - j_6).toNat /\ (0 : Int) <= j_6 /\ j_6 <= 5 /\ (-9223372036854775808 <= i_5 /\ i_5 <= 9223372036854775807) /\ (-9223372036854775808 <= j_6 /\ j_6 <= 9223372036854775807) /\ (a < i_5 /\ i_5 <= b), r3⟩) (5, data, (a + 1), 0) [0] ⟨rfl, rfl, aM1, aM1, aM1, aM1, iv0⟩ ?_
 rintro ⟨r3, Qan, i_5, j_6⟩ ⟨hM7, hr8, hi9, hi10, hk11, hk12, hv13⟩
 refine Qbt fun _ _ hL hA => ?_; dsimp only at hL hA; subst hL hA
 refine Fb 8 0 fun _ => Fo 0 fun ho15 => Fl 0 fun hn16 => ?_
 refine KS ?_
 refine Oq Vm (Oq Qcg (KS ?_))
 refine Kc ?_ ?_
 ·intro h17
  have g18 := dt h17
  obtain ⟨r19, rfl⟩ := scc (n := r3) aM1
  refine KS ?_
  refine KjD (γ := Int) (fun Qcu => ⟨[(0, vl Qaf Qag data), (1, vi a), (2, vi b), (7, vi Qcu), (8, vi j_6)], [os (vl Qaf Qag data) Qan], Qai Qan (((b : Int) - i_5).toNat) i_5 = Qcu /\ (i_5 : Int) <= Qcu /\ (Qcu <= b \/ Qcu = i_5) /\ (-9223372036854775808 <= Qcu /\ Qcu <= 9223372036854775807), 0⟩) ?_ ?_
  ·skip
   refine Kl (γ := Nat × Int) (fun (r20, Qcu) => ⟨[(0, vl Qaf Qag data), (1, vi a), (2, vi b), (7, vi Qcu), (8, vi j_6)], [os (vl Qaf Qag data) Qan], Qai Qan r20 Qcu = Qai Qan (((b : Int) - i_5).toNat) i_5 /\ r20 = ((b : Int) - Qcu).toNat /\ (i_5 : Int) <= Qcu /\ (Qcu <= b \/ Qcu = i_5) /\ (-9223372036854775808 <= Qcu /\ Qcu <= 9223372036854775807), r20⟩) (((b : Int) - i_5).toNat, i_5) [0] ⟨rfl, rfl, aM1, (.inr rfl), aM1⟩ ?_
   rintro ⟨r20, Qcu⟩ ⟨hM22, hr23, hi24, hi25, hk26⟩
   refine Qbt fun _ _ hL hA => ?_; dsimp only at hL hA; subst hL hA
   refine Fb 8 0 fun _ => Fo 0 fun ho29 => Fl 0 fun hn30 => ?_
   refine KS ?_
   refine Qat [0, 0, 3, 7, 15, 15, 63, 127, 15, 15, 527, 1807, 3855, 8191, 16383, 32767] Qcz ?_
   refine Dv [] Vm (Dv [] Vm (Dv [] Qcg ?_))
   refine Qbl (decide (Qcu < b)) ?_ ?_
   ·intro h31
    have g32 := dt h31
    obtain ⟨r33, rfl⟩ := scc (n := r20) aM1
    refine Db h31 [] Vm (Dv [] Vm (Dv [] Vm (Dv [0] (Vi Qbo 0) ?_)))
    have hb34 := ok1 (i := Qcu.toNat) ho29 rng
    refine Dv [0] (Qc7 sh3 0) (Dv [] Vm (Dv [] Vm (Dv [] Qdf (Dv [0] (Vi Qbo 0) ?_))))
    have hb35 := ok1 (i := ((Qcu - 1) : Int).toNat) ho29 rng
    refine Dv [0] (Qc7 sh3 0) ?_
    refine QaK (Qaq (Qan.getD Qcu.toNat 0) (Qan.getD ((Qcu - 1) : Int).toNat 0)) fun rv36 hg37 => ?_
    refine Dx [] [] [0] (fun G => vb rv36) [fun G => SP.fact (True)] (fun G => xC [] Qjl (Qjk ((Qan.getD Qcu.toNat 0)) ((Qan.getD ((Qcu - 1) : Int).toNat 0)) pre pre rv36 hg37)) (Dv [] QeT (Dv [] Vpt ?_))
    refine Dn ⟨by kernel_rfl, fun G => ?_⟩
    refine Jw2 [(0, vl Qaf Qag data), (1, vi a), (2, vi b), (7, vi Qcu), (8, vi j_6), (32, vb (!rv36))] [0] [SP.fact (True)] ?_
    refine Jk [0] ?_
    refine Kc ?_ ?_
    ·intro h38
     have h40 := not_true h38
     refine KS ?_
     refine Oq Vm (Oq Qbb (Oq Va (KS ?_)))
     exact Kg (r33, (Qcu + 1)) [0] ⟨(q3 hM22 (by simp only [Qai, h17, h31, h38, h40, hg37, cs4])), aM1, aM1, aM1, aM1⟩
    intro h38
    have h43 := not_false h38
    refine Ke ?_
    have hR45 := q2 hM22 Qcu (by simp only [Qai, h17, h31, h38, h43, hg37, cs4])
    exact Kg Qcu [0] ⟨(by assumption), (by first | assumption | omega), (by first | assumption | omega), (by first | assumption | omega)⟩
   intro h31
   have g46 := df h31
   obtain rfl : r20 = 0 := by omega
   refine Db h31 [] Vm (Ds (Ds (Ds (Ds (Ds (Ds (Ds (Ds (Ds ?_)))))))))
   refine Ds (Ds (Dv [] Vpf ?_))
   refine Dn ⟨by kernel_rfl, fun G => ?_⟩
   refine Jw2 [(0, vl Qaf Qag data), (1, vi a), (2, vi b), (7, vi Qcu), (8, vi j_6), (32, vb false)] [0] [] ?_
   refine Kf ?_
   refine Ke ?_
   have hR47 := q2 hM22 Qcu (by simp only [Qai, h17, h31, cs4])
   exact Kg Qcu [0] ⟨(by assumption), (by first | assumption | omega), (by first | assumption | omega), (by first | assumption | omega)⟩
  rintro Qcu ⟨hR27, hi24, hi25, hk26⟩
  refine Qbt fun _ _ hL hA => ?_; dsimp only at hL hA; subst hL hA
  refine Fb 8 0 fun _ => Fo 0 fun ho49 => Fl 0 fun hn50 => ?_
  refine KS ?_
  refine Oq Vm (Oq Vm (Oq QbB (KS ?_)))
  refine Kc ?_ ?_
  ·intro h51
   have g52 := eq_of_beq h51
   refine KS ?_
   refine Oq Va (KS ?_)
   refine Fl 0 fun hn53 => ?_
   have hR54 := q2 hM7 (.ret (true, Qan)) (by simp only [Qad, h17, h51, hR27, cs4])
   have hq := q4 hrr (true, Qan) (by simp only [Qal, h17, h51, hR27, hR54, cs4]); subst hq
   exact Kr () rfl (.tmp rfl .nil) [0] en
  intro h51
  have g55 := ne_of_beq_false h51
  refine KS ?_
  refine Oq Vm (Oq Vm (Oq Qdf (Oq Qcg (KS ?_))))
  refine Kc ?_ ?_
  ·intro h56
   have g57 := dt h56
   refine KS ?_
   refine Oq Va (KS ?_)
   refine Fl 0 fun hn58 => ?_
   have hR59 := q2 hM7 (.ret (false, Qan)) (by simp only [Qad, h17, h51, h56, hR27, cs4])
   have hq := q4 hrr (false, Qan) (by simp only [Qal, h17, h51, h56, hR27, hR59, cs4]); subst hq
   exact Kr () rfl (.tmp rfl .nil) [0] en
  intro h56
  have g60 := df h56
  refine KS ?_
  refine Qat [0, 0, 0, 0, 8, 0, 0, 64, 224, 480, 0, 0, 3072, 7168, 16355, 32739, 65535, 131071] Qcz ?_
  refine Dv [] Vm (Dv [] Vm (Dv [] Vm (Dv [] Vm (Dv [] Qdf (Dv [] Vm (Dv [] Vm (Dv [] Qdf (Dv [0] (Vi Qbo 0) ?_))))))))
  have hb61 := ok1 (i := ((Qcu - 1) : Int).toNat) ho49 rng
  refine Dv [0] (Qc7 sh3 0) (Dv [] Vm (Dv [] Vm (Dv [0] (Vi Qbo 0) ?_)))
  have hb62 := ok1 (i := Qcu.toNat) ho49 rng
  refine Dv [0] (Qc7 sh3 0) (Dv [0] (Vi Qbo 0) (Dx0 [0] [0] [0] [fun G => os (vl Qaf Qag data) (Qan.set Qcu.toNat (Qan.getD ((Qcu - 1) : Int).toNat 0))] (fun G => xS (SoI [0] sh3)) (Dv [1] (Vi Qbo 0) (Dx0 [1] [1] [0] [fun G => os (vl Qaf Qag data) ((Qan.set Qcu.toNat (Qan.getD ((Qcu - 1) : Int).toNat 0)).set ((Qcu - 1) : Int).toNat (Qan.getD Qcu.toNat 0))] (fun G => xS (SoI [0] sh3)) ?_))))
  refine Dn ⟨by kernel_rfl, fun G => ?_⟩
  refine Jw2 [(0, vl Qaf Qag data), (1, vi a), (2, vi b), (7, vi Qcu), (8, vi j_6)] [] [os (vl Qaf Qag data) ((Qan.set Qcu.toNat (Qan.getD ((Qcu - 1) : Int).toNat 0)).set ((Qcu - 1) : Int).toNat (Qan.getD Qcu.toNat 0))] ?_
  refine KS ?_
  refine Oq Vm (Oq Vm (Oq Qdf (Oq QeI (KS ?_))))
  refine Kc ?_ ?_
  ·intro h63
   have g64 := dt h63
   refine KS ?_
   refine Oq Vm (Oq Qdf (Oq Va (KS ?_)))
   have hterm71 : Qap (data.length + 1) ((Qan.set Qcu.toNat (Qan.getD ((Qcu - 1) : Int).toNat 0)).set ((Qcu - 1) : Int).toNat (Qan.getD Qcu.toNat 0)) (Qcu - 1) ≠ LR.oof := (Qos _ _ _ aM1 aM1)
   refine KjD (γ := List Int × Int) (fun (Qcl, Qgv) => ⟨[(0, vl Qaf Qag data), (1, vi a), (2, vi b), (7, vi Qcu), (8, vi j_6)], [os (vl Qaf Qag data) Qcl], Qap (data.length + 1) ((Qan.set Qcu.toNat (Qan.getD ((Qcu - 1) : Int).toNat 0)).set ((Qcu - 1) : Int).toNat (Qan.getD Qcu.toNat 0)) (Qcu - 1) = .brk Qcl /\ (-9223372036854775808 <= Qgv /\ Qgv <= 9223372036854775807) /\ (0 <= Qgv /\ Qgv <= b - 1), 0⟩) ?_ ?_
   ·skip
    refine Kl (γ := Nat × List Int × Int) (fun (r65, Qcl, Qgv) => ⟨[(0, vl Qaf Qag data), (1, vi a), (2, vi b), (7, vi Qcu), (8, vi j_6), (9, vi Qgv)], [os (vl Qaf Qag data) Qcl], Qap r65 Qcl Qgv = Qap (data.length + 1) ((Qan.set Qcu.toNat (Qan.getD ((Qcu - 1) : Int).toNat 0)).set ((Qcu - 1) : Int).toNat (Qan.getD Qcu.toNat 0)) (Qcu - 1) /\ (-9223372036854775808 <= Qgv /\ Qgv <= 9223372036854775807) /\ (0 <= Qgv /\ Qgv <= b - 1), r65⟩) ((data.length + 1), ((Qan.set Qcu.toNat (Qan.getD ((Qcu - 1) : Int).toNat 0)).set ((Qcu - 1) : Int).toNat (Qan.getD Qcu.toNat 0)), (Qcu - 1)) [0] ⟨rfl, aM1, iv0⟩ ?_
    rintro ⟨r65, Qcl, Qgv⟩ ⟨hM68, hk69, hv70⟩
    refine Qbt fun _ _ hL hA => ?_; dsimp only at hL hA; subst hL hA
    refine Fb 8 0 fun _ => Fo 0 fun ho74 => Fl 0 fun hn75 => ?_
    rcases r65 with _ | r65
    ·exact absurd (hM68.symm.trans rfl) hterm71
    refine KS ?_
    refine Oq Vm (Oq QeI (KS ?_))
    refine Kc ?_ ?_
    ·intro h76
     have g77 := dt h76
     refine KS ?_
     refine Qat [0, 0, 3, 7, 0, 0, 32, 112, 240, 511, 1023] Qcz ?_
     refine Dv [] Vm (Dv [] Vm (Dv [0] (Vi Qbo 0) ?_))
     have hb78 := ok1 (i := Qgv.toNat) ho74 rng
     refine Dv [0] (Qc7 sh3 0) (Dv [] Vm (Dv [] Vm (Dv [] Qdf (Dv [0] (Vi Qbo 0) ?_))))
     have hb79 := ok1 (i := ((Qgv - 1) : Int).toNat) ho74 rng
     refine Dv [0] (Qc7 sh3 0) ?_
     refine QaK (Qaq (Qcl.getD Qgv.toNat 0) (Qcl.getD ((Qgv - 1) : Int).toNat 0)) fun rv80 hg81 => ?_
     refine Dx [] [] [0] (fun G => vb rv80) [fun G => SP.fact (True)] (fun G => xC [] Qjl (Qjk ((Qcl.getD Qgv.toNat 0)) ((Qcl.getD ((Qgv - 1) : Int).toNat 0)) pre pre rv80 hg81)) (Dv [] QeT ?_)
     refine Dn ⟨by kernel_rfl, fun G => ?_⟩
     refine Jw2 [(0, vl Qaf Qag data), (1, vi a), (2, vi b), (7, vi Qcu), (8, vi j_6), (9, vi Qgv), (78, vb (!rv80))] [0] [SP.fact (True)] ?_
     refine Jk [0] ?_
     refine Kc ?_ ?_
     ·intro h82
      have h84 := not_true h82
      refine Ke ?_
      have hR86 := q2 hM68 (.brk Qcl) (by simp only [Qap, h17, h51, h56, h63, h76, h82, h84, hR27, hg81, cs4])
      exact Kg (Qcl, Qgv) [0] ⟨(by assumption), (by first | assumption | omega), (by first | assumption | omega)⟩
     intro h82
     have h88 := not_false h82
     refine KS ?_
     refine Qat [0, 0, 0, 0, 8, 0, 0, 64, 224, 480, 0, 0, 3072, 7168, 16355, 32739, 65535, 131071] Qcz ?_
     refine Dv [] Vm (Dv [] Vm (Dv [] Vm (Dv [] Vm (Dv [] Qdf (Dv [] Vm (Dv [] Vm (Dv [] Qdf (Dv [0] (Vi Qbo 0) ?_))))))))
     have hb90 := ok1 (i := ((Qgv - 1) : Int).toNat) ho74 rng
     refine Dv [0] (Qc7 sh3 0) (Dv [] Vm (Dv [] Vm (Dv [0] (Vi Qbo 0) ?_)))
     have hb91 := ok1 (i := Qgv.toNat) ho74 rng
     refine Dv [0] (Qc7 sh3 0) (Dv [0] (Vi Qbo 0) (Dx0 [0] [0] [0] [fun G => os (vl Qaf Qag data) (Qcl.set Qgv.toNat (Qcl.getD ((Qgv - 1) : Int).toNat 0))] (fun G => xS (SoI [0] sh3)) (Dv [1] (Vi Qbo 0) (Dx0 [1] [1] [0] [fun G => os (vl Qaf Qag data) ((Qcl.set Qgv.toNat (Qcl.getD ((Qgv - 1) : Int).toNat 0)).set ((Qgv - 1) : Int).toNat (Qcl.getD Qgv.toNat 0))] (fun G => xS (SoI [0] sh3)) ?_))))
     refine Dn ⟨by kernel_rfl, fun G => ?_⟩
     refine Jw2 [(0, vl Qaf Qag data), (1, vi a), (2, vi b), (7, vi Qcu), (8, vi j_6), (9, vi Qgv)] [] [os (vl Qaf Qag data) ((Qcl.set Qgv.toNat (Qcl.getD ((Qgv - 1) : Int).toNat 0)).set ((Qgv - 1) : Int).toNat (Qcl.getD Qgv.toNat 0))] ?_
     refine KS ?_
     refine Oq Vm (Oq Qdf (Oq Va (KS ?_)))
     exact Kg (r65, ((Qcl.set Qgv.toNat (Qcl.getD ((Qgv - 1) : Int).toNat 0)).set ((Qgv - 1) : Int).toNat (Qcl.getD Qgv.toNat 0)), (Qgv - 1)) [0] ⟨(q3 hM68 (by simp only [Qap, h17, h51, h56, h63, h76, h82, h88, hR27, hg81, cs4])), aM1, iv1⟩
    intro h76
    have g92 := df h76
    refine Ke ?_
    have hR93 := q2 hM68 (.brk Qcl) (by simp only [Qap, h17, h51, h56, h63, h76, hR27, cs4])
    exact Kg (Qcl, Qgv) [0] ⟨(by assumption), (by first | assumption | omega), (by first | assumption | omega)⟩
   rintro ⟨Qcl, Qgv⟩ ⟨hR72, hk69, hv70⟩
   refine Qbt fun _ _ hL hA => ?_; dsimp only at hL hA; subst hL hA
   refine Fb 8 0 fun _ => Fo 0 fun ho95 => Fl 0 fun hn96 => ?_
   refine KS ?_
   refine Oq Vm (Oq Vm (Oq Qdf (Oq QeI (KS ?_))))
   refine Kc ?_ ?_
   ·intro h97
    have g98 := dt h97
    refine KS ?_
    refine Oq Vm (Oq Qbb (Oq Va (KS ?_)))
    refine KjD (γ := List Int × Int) (fun (Qb0, Qdx) => ⟨[(0, vl Qaf Qag data), (1, vi a), (2, vi b), (7, vi Qcu), (8, vi j_6)], [os (vl Qaf Qag data) Qb0], Qah (((b : Int) - (Qcu + 1)).toNat) Qcl (Qcu + 1) = Qb0 /\ ((Qcu + 1) : Int) <= Qdx /\ (Qdx <= b \/ Qdx = (Qcu + 1)) /\ (-9223372036854775808 <= Qdx /\ Qdx <= 9223372036854775807), 0⟩) ?_ ?_
    ·skip
     refine Kl (γ := Nat × List Int × Int) (fun (r99, Qb0, Qdx) => ⟨[(0, vl Qaf Qag data), (1, vi a), (2, vi b), (7, vi Qcu), (8, vi j_6), (10, vi Qdx)], [os (vl Qaf Qag data) Qb0], Qah r99 Qb0 Qdx = Qah (((b : Int) - (Qcu + 1)).toNat) Qcl (Qcu + 1) /\ r99 = ((b : Int) - Qdx).toNat /\ ((Qcu + 1) : Int) <= Qdx /\ (Qdx <= b \/ Qdx = (Qcu + 1)) /\ (-9223372036854775808 <= Qdx /\ Qdx <= 9223372036854775807), r99⟩) (((b : Int) - (Qcu + 1)).toNat, Qcl, (Qcu + 1)) [0] ⟨rfl, rfl, aM1, (.inr rfl), aM1⟩ ?_
     rintro ⟨r99, Qb0, Qdx⟩ ⟨hM102, hr103, hi104, hi105, hk106⟩
     refine Qbt fun _ _ hL hA => ?_; dsimp only at hL hA; subst hL hA
     refine Fb 8 0 fun _ => Fo 0 fun ho109 => Fl 0 fun hn110 => ?_
     refine KS ?_
     refine Oq Vm (Oq Vm (Oq Qcg (KS ?_)))
     refine Kc ?_ ?_
     ·intro h111
      have g112 := dt h111
      obtain ⟨r113, rfl⟩ := scc (n := r99) aM1
      refine KS ?_
      refine Qat [0, 0, 3, 7, 0, 0, 32, 112, 240, 511, 1023] Qcz ?_
      refine Dv [] Vm (Dv [] Vm (Dv [0] (Vi Qbo 0) ?_))
      have hb114 := ok1 (i := Qdx.toNat) ho109 rng
      refine Dv [0] (Qc7 sh3 0) (Dv [] Vm (Dv [] Vm (Dv [] Qdf (Dv [0] (Vi Qbo 0) ?_))))
      have hb115 := ok1 (i := ((Qdx - 1) : Int).toNat) ho109 rng
      refine Dv [0] (Qc7 sh3 0) ?_
      refine QaK (Qaq (Qb0.getD Qdx.toNat 0) (Qb0.getD ((Qdx - 1) : Int).toNat 0)) fun rv116 hg117 => ?_
      refine Dx [] [] [0] (fun G => vb rv116) [fun G => SP.fact (True)] (fun G => xC [] Qjl (Qjk ((Qb0.getD Qdx.toNat 0)) ((Qb0.getD ((Qdx - 1) : Int).toNat 0)) pre pre rv116 hg117)) (Dv [] QeT ?_)
      refine Dn ⟨by kernel_rfl, fun G => ?_⟩
      refine Jw2 [(0, vl Qaf Qag data), (1, vi a), (2, vi b), (7, vi Qcu), (8, vi j_6), (10, vi Qdx), (116, vb (!rv116))] [0] [SP.fact (True)] ?_
      refine Jk [0] ?_
      refine Kc ?_ ?_
      ·intro h118
       have h120 := not_true h118
       refine Ke ?_
       have hR122 := q2 hM102 Qb0 (by simp only [Qah, h17, h51, h56, h63, h97, h111, h118, h120, hR27, hR72, hg117, cs4])
       exact Kg (Qb0, Qdx) [0] ⟨(by assumption), (by first | assumption | omega), (by first | assumption | omega), (by first | assumption | omega)⟩
      intro h118
      have h124 := not_false h118
      refine KS ?_
      refine Qat [0, 0, 0, 0, 8, 0, 0, 64, 224, 480, 0, 0, 3072, 7168, 16355, 32739, 65535, 131071] Qcz ?_
      refine Dv [] Vm (Dv [] Vm (Dv [] Vm (Dv [] Vm (Dv [] Qdf (Dv [] Vm (Dv [] Vm (Dv [] Qdf (Dv [0] (Vi Qbo 0) ?_))))))))
      have hb126 := ok1 (i := ((Qdx - 1) : Int).toNat) ho109 rng
      refine Dv [0] (Qc7 sh3 0) (Dv [] Vm (Dv [] Vm (Dv [0] (Vi Qbo 0) ?_)))
      have hb127 := ok1 (i := Qdx.toNat) ho109 rng
      refine Dv [0] (Qc7 sh3 0) (Dv [0] (Vi Qbo 0) (Dx0 [0] [0] [0] [fun G => os (vl Qaf Qag data) (Qb0.set Qdx.toNat (Qb0.getD ((Qdx - 1) : Int).toNat 0))] (fun G => xS (SoI [0] sh3)) (Dv [1] (Vi Qbo 0) (Dx0 [1] [1] [0] [fun G => os (vl Qaf Qag data) ((Qb0.set Qdx.toNat (Qb0.getD ((Qdx - 1) : Int).toNat 0)).set ((Qdx - 1) : Int).toNat (Qb0.getD Qdx.toNat 0))] (fun G => xS (SoI [0] sh3)) ?_))))
      refine Dn ⟨by kernel_rfl, fun G => ?_⟩
      refine Jw2 [(0, vl Qaf Qag data), (1, vi a), (2, vi b), (7, vi Qcu), (8, vi j_6), (10, vi Qdx)] [] [os (vl Qaf Qag data) ((Qb0.set Qdx.toNat (Qb0.getD ((Qdx - 1) : Int).toNat 0)).set ((Qdx - 1) : Int).toNat (Qb0.getD Qdx.toNat 0))] ?_
      refine KS ?_
      refine Oq Vm (Oq Qbb (Oq Va (KS ?_)))
      exact Kg (r113, ((Qb0.set Qdx.toNat (Qb0.getD ((Qdx - 1) : Int).toNat 0)).set ((Qdx - 1) : Int).toNat (Qb0.getD Qdx.toNat 0)), (Qdx + 1)) [0] ⟨(q3 hM102 (by simp only [Qah, h17, h51, h56, h63, h97, h111, h118, h124, hR27, hR72, hg117, cs4])), aM1, aM1, aM1, aM1⟩
     intro h111
     have g128 := df h111
     obtain rfl : r99 = 0 := by omega
     refine Ke ?_
     have hR129 := q2 hM102 Qb0 (by simp only [Qah, h17, h51, h56, h63, h97, h111, hR27, hR72, cs4])
     exact Kg (Qb0, Qdx) [0] ⟨(by assumption), (by first | assumption | omega), (by first | assumption | omega), (by first | assumption | omega)⟩
    rintro ⟨Qb0, Qdx⟩ ⟨hR107, hi104, hi105, hk106⟩
    refine Qbt fun _ _ hL hA => ?_; dsimp only at hL hA; subst hL hA
    refine Fb 8 0 fun _ => Fo 0 fun ho131 => Fl 0 fun hn132 => ?_
    refine KS ?_
    refine Oq Vm (Oq Qbb (Oq Va (KS ?_)))
    exact Kg (r19, Qb0, Qcu, (j_6 + 1)) [0] ⟨(q3 hM7 (by simp only [Qad, h17, h51, h56, h63, h97, hR27, hR72, hR107, cs4])), aM1, aM1, aM1, aM1, aM1, iv1⟩
   intro h97
   have g133 := df h97
   refine KS ?_
   refine Oq Vm (Oq Qbb (Oq Va (KS ?_)))
   exact Kg (r19, Qcl, Qcu, (j_6 + 1)) [0] ⟨(q3 hM7 (by simp only [Qad, h17, h51, h56, h63, h97, hR27, hR72, cs4])), aM1, aM1, aM1, aM1, aM1, iv1⟩
  intro h63
  have g134 := df h63
  refine KS ?_
  refine Oq Vm (Oq Vm (Oq Qdf (Oq QeI (KS ?_))))
  refine Kc ?_ ?_
  ·intro h135
   have g136 := dt h135
   refine KS ?_
   refine Oq Vm (Oq Qbb (Oq Va (KS ?_)))
   refine KjD (γ := List Int × Int) (fun (Qb1, Qdy) => ⟨[(0, vl Qaf Qag data), (1, vi a), (2, vi b), (7, vi Qcu), (8, vi j_6)], [os (vl Qaf Qag data) Qb1], Qah (((b : Int) - (Qcu + 1)).toNat) ((Qan.set Qcu.toNat (Qan.getD ((Qcu - 1) : Int).toNat 0)).set ((Qcu - 1) : Int).toNat (Qan.getD Qcu.toNat 0)) (Qcu + 1) = Qb1 /\ ((Qcu + 1) : Int) <= Qdy /\ (Qdy <= b \/ Qdy = (Qcu + 1)) /\ (-9223372036854775808 <= Qdy /\ Qdy <= 9223372036854775807), 0⟩) ?_ ?_
   ·skip
    refine Kl (γ := Nat × List Int × Int) (fun (r137, Qb1, Qdy) => ⟨[(0, vl Qaf Qag data), (1, vi a), (2, vi b), (7, vi Qcu), (8, vi j_6), (10, vi Qdy)], [os (vl Qaf Qag data) Qb1], Qah r137 Qb1 Qdy = Qah (((b : Int) - (Qcu + 1)).toNat) ((Qan.set Qcu.toNat (Qan.getD ((Qcu - 1) : Int).toNat 0)).set ((Qcu - 1) : Int).toNat (Qan.getD Qcu.toNat 0)) (Qcu + 1) /\ r137 = ((b : Int) - Qdy).toNat /\ ((Qcu + 1) : Int) <= Qdy /\ (Qdy <= b \/ Qdy = (Qcu + 1)) /\ (-9223372036854775808 <= Qdy /\ Qdy <= 9223372036854775807), r137⟩) (((b : Int) - (Qcu + 1)).toNat, ((Qan.set Qcu.toNat (Qan.getD ((Qcu - 1) : Int).toNat 0)).set ((Qcu - 1) : Int).toNat (Qan.getD Qcu.toNat 0)), (Qcu + 1)) [0] ⟨rfl, rfl, aM1, (.inr rfl), aM1⟩ ?_
    rintro ⟨r137, Qb1, Qdy⟩ ⟨hM140, hr141, hi142, hi143, hk144⟩
    refine Qbt fun _ _ hL hA => ?_; dsimp only at hL hA; subst hL hA
    refine Fb 8 0 fun _ => Fo 0 fun ho147 => Fl 0 fun hn148 => ?_
    refine KS ?_
    refine Oq Vm (Oq Vm (Oq Qcg (KS ?_)))
    refine Kc ?_ ?_
    ·intro h149
     have g150 := dt h149
     obtain ⟨r151, rfl⟩ := scc (n := r137) aM1
     refine KS ?_
     refine Qat [0, 0, 3, 7, 0, 0, 32, 112, 240, 511, 1023] Qcz ?_
     refine Dv [] Vm (Dv [] Vm (Dv [0] (Vi Qbo 0) ?_))
     have hb152 := ok1 (i := Qdy.toNat) ho147 rng
     refine Dv [0] (Qc7 sh3 0) (Dv [] Vm (Dv [] Vm (Dv [] Qdf (Dv [0] (Vi Qbo 0) ?_))))
     have hb153 := ok1 (i := ((Qdy - 1) : Int).toNat) ho147 rng
     refine Dv [0] (Qc7 sh3 0) ?_
     refine QaK (Qaq (Qb1.getD Qdy.toNat 0) (Qb1.getD ((Qdy - 1) : Int).toNat 0)) fun rv154 hg155 => ?_
     refine Dx [] [] [0] (fun G => vb rv154) [fun G => SP.fact (True)] (fun G => xC [] Qjl (Qjk ((Qb1.getD Qdy.toNat 0)) ((Qb1.getD ((Qdy - 1) : Int).toNat 0)) pre pre rv154 hg155)) (Dv [] QeT ?_)
     refine Dn ⟨by kernel_rfl, fun G => ?_⟩
     refine Jw2 [(0, vl Qaf Qag data), (1, vi a), (2, vi b), (7, vi Qcu), (8, vi j_6), (10, vi Qdy), (116, vb (!rv154))] [0] [SP.fact (True)] ?_
     refine Jk [0] ?_
     refine Kc ?_ ?_
     ·intro h156
      have h158 := not_true h156
      refine Ke ?_
      have hR160 := q2 hM140 Qb1 (by simp only [Qah, h17, h51, h56, h63, h135, h149, h156, h158, hR27, hg155, cs4])
      exact Kg (Qb1, Qdy) [0] ⟨(by assumption), (by first | assumption | omega), (by first | assumption | omega), (by first | assumption | omega)⟩
     intro h156
     have h162 := not_false h156
     refine KS ?_
     refine Qat [0, 0, 0, 0, 8, 0, 0, 64, 224, 480, 0, 0, 3072, 7168, 16355, 32739, 65535, 131071] Qcz ?_
     refine Dv [] Vm (Dv [] Vm (Dv [] Vm (Dv [] Vm (Dv [] Qdf (Dv [] Vm (Dv [] Vm (Dv [] Qdf (Dv [0] (Vi Qbo 0) ?_))))))))
     have hb164 := ok1 (i := ((Qdy - 1) : Int).toNat) ho147 rng
     refine Dv [0] (Qc7 sh3 0) (Dv [] Vm (Dv [] Vm (Dv [0] (Vi Qbo 0) ?_)))
     have hb165 := ok1 (i := Qdy.toNat) ho147 rng
     refine Dv [0] (Qc7 sh3 0) (Dv [0] (Vi Qbo 0) (Dx0 [0] [0] [0] [fun G => os (vl Qaf Qag data) (Qb1.set Qdy.toNat (Qb1.getD ((Qdy - 1) : Int).toNat 0))] (fun G => xS (SoI [0] sh3)) (Dv [1] (Vi Qbo 0) (Dx0 [1] [1] [0] [fun G => os (vl Qaf Qag data) ((Qb1.set Qdy.toNat (Qb1.getD ((Qdy - 1) : Int).toNat 0)).set ((Qdy - 1) : Int).toNat (Qb1.getD Qdy.toNat 0))] (fun G => xS (SoI [0] sh3)) ?_))))
     refine Dn ⟨by kernel_rfl, fun G => ?_⟩
     refine Jw2 [(0, vl Qaf Qag data), (1, vi a), (2, vi b), (7, vi Qcu), (8, vi j_6), (10, vi Qdy)] [] [os (vl Qaf Qag data) ((Qb1.set Qdy.toNat (Qb1.getD ((Qdy - 1) : Int).toNat 0)).set ((Qdy - 1) : Int).toNat (Qb1.getD Qdy.toNat 0))] ?_
     refine KS ?_
     refine Oq Vm (Oq Qbb (Oq Va (KS ?_)))
     exact Kg (r151, ((Qb1.set Qdy.toNat (Qb1.getD ((Qdy - 1) : Int).toNat 0)).set ((Qdy - 1) : Int).toNat (Qb1.getD Qdy.toNat 0)), (Qdy + 1)) [0] ⟨(q3 hM140 (by simp only [Qah, h17, h51, h56, h63, h135, h149, h156, h162, hR27, hg155, cs4])), aM1, aM1, aM1, aM1⟩
    intro h149
    have g166 := df h149
    obtain rfl : r137 = 0 := by omega
    refine Ke ?_
    have hR167 := q2 hM140 Qb1 (by simp only [Qah, h17, h51, h56, h63, h135, h149, hR27, cs4])
    exact Kg (Qb1, Qdy) [0] ⟨(by assumption), (by first | assumption | omega), (by first | assumption | omega), (by first | assumption | omega)⟩
   rintro ⟨Qb1, Qdy⟩ ⟨hR145, hi142, hi143, hk144⟩
   refine Qbt fun _ _ hL hA => ?_; dsimp only at hL hA; subst hL hA
   refine Fb 8 0 fun _ => Fo 0 fun ho169 => Fl 0 fun hn170 => ?_
   refine KS ?_
   refine Oq Vm (Oq Qbb (Oq Va (KS ?_)))
   exact Kg (r19, Qb1, Qcu, (j_6 + 1)) [0] ⟨(q3 hM7 (by simp only [Qad, h17, h51, h56, h63, h135, hR27, hR145, cs4])), aM1, aM1, aM1, aM1, aM1, iv1⟩
  intro h135
  have g171 := df h135
  refine KS ?_
  refine Oq Vm (Oq Qbb (Oq Va (KS ?_)))
  exact Kg (r19, ((Qan.set Qcu.toNat (Qan.getD ((Qcu - 1) : Int).toNat 0)).set ((Qcu - 1) : Int).toNat (Qan.getD Qcu.toNat 0)), Qcu, (j_6 + 1)) [0] ⟨(q3 hM7 (by simp only [Qad, h17, h51, h56, h63, h135, hR27, cs4])), aM1, aM1, aM1, aM1, aM1, iv1⟩
 intro h17
 have g172 := df h17
 obtain rfl : r3 = 0 := by omega
 refine Ke ?_
 have hR173 := q2 hM7 (.brk Qan) (by simp only [Qad, h17, cs4])
 refine KS ?_
 refine Oq Va (KS ?_)
 refine Fl 0 fun hn174 => ?_
 have hq := q4 hrr (false, Qan) (by simp only [Qal, h17, hR173, cs4]); subst hq
 exact Kr () rfl (.tmp rfl .nil) [0] en
theorem Qpt (data : List Int) (Qaf : Option Addr) (Qag : Nat) (a : Int) (b : Int) (pivot : Int) (Qh4 : Qac a) (Qii : Qac b) (Qkq : Qac pivot) (ha0 : 0 <= a /\ a <= b /\ b <= (data.length : Int) /\ data.length <= 65535 /\ a <= pivot /\ pivot < b) (rr : Int × List Int) (hrr : Qao data a b pivot = rr) : FT Tryz.prog 97 #[vl Qaf Qag data, vi a, vi b, vi pivot] [O Qaf Qag data] (fun g : Unit => Qac rr.1 /\ (a < rr.1 /\ rr.1 <= b) /\ (rr.2.length = data.length)) (fun g => vi rr.1) (fun g => [os (vl Qaf Qag data) rr.2]) := by
 refine FTi Tryz.func97 fun w0 M0 F0 => ?_
 unfold Qac at Qh4 Qii Qkq
 refine Fb 8 0 fun _ => Fo 0 fun ho2 => KS ?_
 refine Oq Va (KS ?_)
 refine Qat [0, 0, 0, 0, 0, 0, 48, 112, 0, 0, 768, 1792, 4083, 8179, 16383, 32767] Qcz ?_
 refine Dv [] Vm (Dv [] Vm (Dv [] Vm (Dv [] Vm (Dv [] Vm (Dv [] Vm (Dv [0] (Vi Qbo 0) ?_))))))
 have hb3 := ok1 (i := pivot.toNat) ho2 rng
 refine Dv [0] (Qc7 sh3 0) (Dv [] Vm (Dv [] Vm (Dv [0] (Vi Qbo 0) ?_)))
 have hb4 := ok1 (i := a.toNat) ho2 rng
 refine Dv [0] (Qc7 sh3 0) (Dv [0] (Vi Qbo 0) (Dx0 [0] [0] [0] [fun G => os (vl Qaf Qag data) (data.set a.toNat (data.getD pivot.toNat 0))] (fun G => xS (SoI [0] sh3)) (Dv [1] (Vi Qbo 0) (Dx0 [1] [1] [0] [fun G => os (vl Qaf Qag data) ((data.set a.toNat (data.getD pivot.toNat 0)).set pivot.toNat (data.getD a.toNat 0))] (fun G => xS (SoI [0] sh3)) ?_))))
 refine Dn ⟨by kernel_rfl, fun G => ?_⟩
 refine Jw2 [(0, vl Qaf Qag data), (1, vi a), (2, vi b)] [] [os (vl Qaf Qag data) ((data.set a.toNat (data.getD pivot.toNat 0)).set pivot.toNat (data.getD a.toNat 0))] ?_
 refine KS ?_
 refine Oq Vm (Oq Qbb (Oq Vm (Oq Qdf (Oq Va (Oq Va (KS ?_))))))
 have hterm13 : QaJ a b ((b - a).toNat + 2) ((data.set a.toNat (data.getD pivot.toNat 0)).set pivot.toNat (data.getD a.toNat 0)) (a + 1) (b - 1) ≠ LR.oof := (QqP _ _ _ _ aM1 aM1 aM1 aM1 aM1)
 refine Kl (γ := Nat × List Int × Int × Int) (fun (r5, QcA, i_7, j_8) => ⟨[(0, vl Qaf Qag data), (1, vi a), (9, vi i_7), (10, vi j_8)], [os (vl Qaf Qag data) QcA], QaJ a b r5 QcA i_7 j_8 = QaJ a b ((b - a).toNat + 2) ((data.set a.toNat (data.getD pivot.toNat 0)).set pivot.toNat (data.getD a.toNat 0)) (a + 1) (b - 1) /\ (-9223372036854775808 <= i_7 /\ i_7 <= 9223372036854775807) /\ (-9223372036854775808 <= j_8 /\ j_8 <= 9223372036854775807) /\ (a + 1 <= i_7 /\ i_7 <= j_8 + 2 /\ j_8 <= b - 1 /\ i_7 <= b), r5⟩) (((b - a).toNat + 2), ((data.set a.toNat (data.getD pivot.toNat 0)).set pivot.toNat (data.getD a.toNat 0)), (a + 1), (b - 1)) [0] ⟨rfl, aM1, aM1, iv0⟩ ?_
 rintro ⟨r5, QcA, i_7, j_8⟩ ⟨hM9, hk10, hk11, hv12⟩
 refine Qbt fun _ _ hL hA => ?_; dsimp only at hL hA; subst hL hA
 refine Fb 8 0 fun _ => Fo 0 fun ho15 => Fl 0 fun hn16 => ?_
 rcases r5 with _ | r5
 ·exact absurd (hM9.symm.trans rfl) hterm13
 refine KS ?_
 have hterm22 : QaE a QcA j_8 ((b - a).toNat + 2) i_7 ≠ LR.oof := (QsF aM1 aM1)
 refine KjD (γ := Int) (fun Qfo => ⟨[(0, vl Qaf Qag data), (1, vi a), (9, vi Qfo), (10, vi j_8)], [os (vl Qaf Qag data) QcA], QaE a QcA j_8 ((b - a).toNat + 2) i_7 = .brk Qfo /\ (-9223372036854775808 <= Qfo /\ Qfo <= 9223372036854775807) /\ (i_7 <= Qfo /\ (Qfo <= j_8 + 1 \/ Qfo = i_7)), 0⟩) ?_ ?_
 ·skip
  refine Kl (γ := Nat × Int) (fun (r17, Qfo) => ⟨[(0, vl Qaf Qag data), (1, vi a), (9, vi Qfo), (10, vi j_8)], [os (vl Qaf Qag data) QcA], QaE a QcA j_8 r17 Qfo = QaE a QcA j_8 ((b - a).toNat + 2) i_7 /\ (-9223372036854775808 <= Qfo /\ Qfo <= 9223372036854775807) /\ (i_7 <= Qfo /\ (Qfo <= j_8 + 1 \/ Qfo = i_7)), r17⟩) (((b - a).toNat + 2), i_7) [0] ⟨rfl, aM1, iv0⟩ ?_
  rintro ⟨r17, Qfo⟩ ⟨hM19, hk20, hv21⟩
  refine Qbt fun _ _ hL hA => ?_; dsimp only at hL hA; subst hL hA
  refine Fb 8 0 fun _ => Fo 0 fun ho25 => Fl 0 fun hn26 => ?_
  rcases r17 with _ | r17
  ·exact absurd (hM19.symm.trans rfl) hterm22
  refine KS ?_
  refine Qat [0, 0, 3, 7, 15, 15, 63, 127, 15, 15, 783, 1807, 4095, 8191, 16383] Qcz ?_
  refine Dv [] Vm (Dv [] Vm (Dv [] Qh8 ?_))
  refine Qbl (decide (Qfo <= j_8)) ?_ ?_
  ·intro h27
   have g28 := dt h27
   refine Db h27 [] Vm (Dv [] Vm (Dv [] Vm (Dv [0] (Vi Qbo 0) ?_)))
   have hb29 := ok1 (i := a.toNat) ho25 rng
   refine Dv [0] (Qc7 sh3 0) (Dv [] Vm (Dv [] Vm (Dv [0] (Vi Qbo 0) ?_)))
   have hb30 := ok1 (i := Qfo.toNat) ho25 rng
   refine Dv [0] (Qc7 sh3 0) ?_
   refine QaK (Qaq (QcA.getD a.toNat 0) (QcA.getD Qfo.toNat 0)) fun rv31 hg32 => ?_
   refine Dx [] [] [0] (fun G => vb rv31) [fun G => SP.fact (True)] (fun G => xC [] Qjl (Qjk ((QcA.getD a.toNat 0)) ((QcA.getD Qfo.toNat 0)) pre pre rv31 hg32)) (Dv [] QeT (Dv [] Vpt ?_))
   refine Dn ⟨by kernel_rfl, fun G => ?_⟩
   refine Jw2 [(0, vl Qaf Qag data), (1, vi a), (9, vi Qfo), (10, vi j_8), (43, vb (!rv31))] [0] [SP.fact (True)] ?_
   refine Jk [0] ?_
   refine Kc ?_ ?_
   ·intro h33
    have h35 := not_true h33
    refine KS ?_
    refine Oq Vm (Oq Qbb (Oq Va (KS ?_)))
    exact Kg (r17, (Qfo + 1)) [0] ⟨(q3 hM19 (by simp only [QaE, h27, h33, h35, hg32, cs4])), aM1, iv1⟩
   intro h33
   have h38 := not_false h33
   refine Ke ?_
   have hR40 := q2 hM19 (.brk Qfo) (by simp only [QaE, h27, h33, h38, hg32, cs4])
   exact Kg Qfo [0] ⟨(by assumption), (by first | assumption | omega), (by first | assumption | omega)⟩
  intro h27
  have g41 := df h27
  refine Db h27 [] Vm (Ds (Ds (Ds (Ds (Ds (Ds (Ds (Ds (Ds ?_)))))))))
  refine Ds (Dv [] Vpf ?_)
  refine Dn ⟨by kernel_rfl, fun G => ?_⟩
  refine Jw2 [(0, vl Qaf Qag data), (1, vi a), (9, vi Qfo), (10, vi j_8), (43, vb false)] [0] [] ?_
  refine Kf ?_
  refine Ke ?_
  have hR42 := q2 hM19 (.brk Qfo) (by simp only [QaE, h27, cs4])
  exact Kg Qfo [0] ⟨(by assumption), (by first | assumption | omega), (by first | assumption | omega)⟩
 rintro Qfo ⟨hR23, hk20, hv21⟩
 refine Qbt fun _ _ hL hA => ?_; dsimp only at hL hA; subst hL hA
 refine Fb 8 0 fun _ => Fo 0 fun ho44 => Fl 0 fun hn45 => ?_
 refine KS ?_
 have hterm51 : QaF a QcA Qfo ((b - a).toNat + 2) j_8 ≠ LR.oof := (Qsy aM1 aM1)
 refine KjD (γ := Int) (fun QgH => ⟨[(0, vl Qaf Qag data), (1, vi a), (9, vi Qfo), (10, vi QgH)], [os (vl Qaf Qag data) QcA], QaF a QcA Qfo ((b - a).toNat + 2) j_8 = .brk QgH /\ (-9223372036854775808 <= QgH /\ QgH <= 9223372036854775807) /\ (QgH <= j_8 /\ (Qfo - 1 <= QgH \/ QgH = j_8)), 0⟩) ?_ ?_
 ·skip
  refine Kl (γ := Nat × Int) (fun (r46, QgH) => ⟨[(0, vl Qaf Qag data), (1, vi a), (9, vi Qfo), (10, vi QgH)], [os (vl Qaf Qag data) QcA], QaF a QcA Qfo r46 QgH = QaF a QcA Qfo ((b - a).toNat + 2) j_8 /\ (-9223372036854775808 <= QgH /\ QgH <= 9223372036854775807) /\ (QgH <= j_8 /\ (Qfo - 1 <= QgH \/ QgH = j_8)), r46⟩) (((b - a).toNat + 2), j_8) [0] ⟨rfl, aM1, iv0⟩ ?_
  rintro ⟨r46, QgH⟩ ⟨hM48, hk49, hv50⟩
  refine Qbt fun _ _ hL hA => ?_; dsimp only at hL hA; subst hL hA
  refine Fb 8 0 fun _ => Fo 0 fun ho54 => Fl 0 fun hn55 => ?_
  rcases r46 with _ | r46
  ·exact absurd (hM48.symm.trans rfl) hterm51
  refine KS ?_
  refine Qat [0, 0, 3, 7, 15, 15, 63, 127, 15, 15, 783, 1807, 4095, 8191] Qcz ?_
  refine Dv [] Vm (Dv [] Vm (Dv [] Qh8 ?_))
  refine Qbl (decide (Qfo <= QgH)) ?_ ?_
  ·intro h56
   have g57 := dt h56
   refine Db h56 [] Vm (Dv [] Vm (Dv [] Vm (Dv [0] (Vi Qbo 0) ?_)))
   have hb58 := ok1 (i := a.toNat) ho54 rng
   refine Dv [0] (Qc7 sh3 0) (Dv [] Vm (Dv [] Vm (Dv [0] (Vi Qbo 0) ?_)))
   have hb59 := ok1 (i := QgH.toNat) ho54 rng
   refine Dv [0] (Qc7 sh3 0) ?_
   refine QaK (Qaq (QcA.getD a.toNat 0) (QcA.getD QgH.toNat 0)) fun rv60 hg61 => ?_
   refine Dx [] [] [0] (fun G => vb rv60) [fun G => SP.fact (True)] (fun G => xC [] Qjl (Qjk ((QcA.getD a.toNat 0)) ((QcA.getD QgH.toNat 0)) pre pre rv60 hg61)) (Dv [] Vpt ?_)
   refine Dn ⟨by kernel_rfl, fun G => ?_⟩
   refine Jw2 [(0, vl Qaf Qag data), (1, vi a), (9, vi Qfo), (10, vi QgH), (59, vb rv60)] [0] [SP.fact (True)] ?_
   refine Jk [0] ?_
   refine Kc ?_ ?_
   ·intro h62
    refine KS ?_
    refine Oq Vm (Oq Qdf (Oq Va (KS ?_)))
    exact Kg (r46, (QgH - 1)) [0] ⟨(q3 hM48 (by simp only [QaF, h56, h62, hR23, hg61, cs4])), aM1, iv1⟩
   intro h62
   refine Ke ?_
   have hR65 := q2 hM48 (.brk QgH) (by simp only [QaF, h56, h62, hR23, hg61, cs4])
   exact Kg QgH [0] ⟨(by assumption), (by first | assumption | omega), (by first | assumption | omega)⟩
  intro h56
  have g66 := df h56
  refine Db h56 [] Vm (Ds (Ds (Ds (Ds (Ds (Ds (Ds (Ds (Ds ?_)))))))))
  refine Dv [] Vpf ?_
  refine Dn ⟨by kernel_rfl, fun G => ?_⟩
  refine Jw2 [(0, vl Qaf Qag data), (1, vi a), (9, vi Qfo), (10, vi QgH), (59, vb false)] [0] [] ?_
  refine Kf ?_
  refine Ke ?_
  have hR67 := q2 hM48 (.brk QgH) (by simp only [QaF, h56, hR23, cs4])
  exact Kg QgH [0] ⟨(by assumption), (by first | assumption | omega), (by first | assumption | omega)⟩
 rintro QgH ⟨hR52, hk49, hv50⟩
 refine Qbt fun _ _ hL hA => ?_; dsimp only at hL hA; subst hL hA
 refine Fb 8 0 fun _ => Fo 0 fun ho69 => Fl 0 fun hn70 => ?_
 refine KS ?_
 refine Oq Vm (Oq Vm (Oq Qih (KS ?_)))
 refine Kc ?_ ?_
 ·intro h71
  have g72 := dt h71
  refine Ke ?_
  have hR73 := q2 hM9 (.brk (QcA, Qfo)) (by simp only [QaJ, h71, hR23, hR52, cs4])
  refine KS ?_
  refine Oq Vm (Oq Va (KS ?_))
  refine Fl 0 fun hn74 => ?_
  have hq := q4 hrr (Qfo, QcA) (by simp only [Qao, h71, hR23, hR52, hR73, cs4]); subst hq
  exact Kr () rfl (.tmp rfl .nil) [0] en
 intro h71
 have g75 := df h71
 refine KS ?_
 refine Qat [0, 0, 0, 0, 0, 0, 48, 112, 0, 0, 768, 1792, 4083, 8179, 16383, 32767] Qcz ?_
 refine Dv [] Vm (Dv [] Vm (Dv [] Vm (Dv [] Vm (Dv [] Vm (Dv [] Vm (Dv [0] (Vi Qbo 0) ?_))))))
 have hb76 := ok1 (i := QgH.toNat) ho69 rng
 refine Dv [0] (Qc7 sh3 0) (Dv [] Vm (Dv [] Vm (Dv [0] (Vi Qbo 0) ?_)))
 have hb77 := ok1 (i := Qfo.toNat) ho69 rng
 refine Dv [0] (Qc7 sh3 0) (Dv [0] (Vi Qbo 0) (Dx0 [0] [0] [0] [fun G => os (vl Qaf Qag data) (QcA.set Qfo.toNat (QcA.getD QgH.toNat 0))] (fun G => xS (SoI [0] sh3)) (Dv [1] (Vi Qbo 0) (Dx0 [1] [1] [0] [fun G => os (vl Qaf Qag data) ((QcA.set Qfo.toNat (QcA.getD QgH.toNat 0)).set QgH.toNat (QcA.getD Qfo.toNat 0))] (fun G => xS (SoI [0] sh3)) ?_))))
 refine Dn ⟨by kernel_rfl, fun G => ?_⟩
 refine Jw2 [(0, vl Qaf Qag data), (1, vi a), (9, vi Qfo), (10, vi QgH)] [] [os (vl Qaf Qag data) ((QcA.set Qfo.toNat (QcA.getD QgH.toNat 0)).set QgH.toNat (QcA.getD Qfo.toNat 0))] ?_
 refine KS ?_
 refine Oq Vm (Oq Qbb (Oq Va (KS ?_)))
 refine Oq Vm (Oq Qdf (Oq Va (KS ?_)))
 exact Kg (r5, ((QcA.set Qfo.toNat (QcA.getD QgH.toNat 0)).set QgH.toNat (QcA.getD Qfo.toNat 0)), (Qfo + 1), (QgH - 1)) [0] ⟨(q3 hM9 (by simp only [QaJ, h71, hR23, hR52, cs4])), aM1, aM1, iv1⟩
theorem QlR (data : List Int) (Qaf : Option Addr) (Qag : Nat) (a : Int) (b : Int) (pivot : Int) (Qh4 : Qac a) (Qii : Qac b) (Qkq : Qac pivot) (ha0 : 0 <= a /\ a <= b /\ b <= (data.length : Int) /\ data.length <= 65535 /\ a <= pivot /\ pivot < b) (rr : Int × Bool × List Int) (hrr : Qae data a b pivot = rr) : FT Tryz.prog 98 #[vl Qaf Qag data, vi a, vi b, vi pivot] [O Qaf Qag data] (fun g : Unit => Qac rr.1 /\ (a <= rr.1 /\ rr.1 < b) /\ (rr.2.2.length = data.length)) (fun g => .tuple #[vi rr.1, vb rr.2.1]) (fun g => [os (vl Qaf Qag data) rr.2.2]) := by
 refine FTi Tryz.func98 fun w0 M0 F0 => ?_
 unfold Qac at Qh4 Qii Qkq
 refine Fb 8 0 fun _ => Fo 0 fun ho2 => KS ?_
 refine Oq Va (Oq Va (KS ?_))
 refine Qat [0, 0, 0, 0, 0, 0, 48, 112, 0, 0, 768, 1792, 4083, 8179, 16383, 32767] Qcz ?_
 refine Dv [] Vm (Dv [] Vm (Dv [] Vm (Dv [] Vm (Dv [] Vm (Dv [] Vm (Dv [0] (Vi Qbo 0) ?_))))))
 have hb3 := ok1 (i := pivot.toNat) ho2 rng
 refine Dv [0] (Qc7 sh3 0) (Dv [] Vm (Dv [] Vm (Dv [0] (Vi Qbo 0) ?_)))
 have hb4 := ok1 (i := a.toNat) ho2 rng
 refine Dv [0] (Qc7 sh3 0) (Dv [0] (Vi Qbo 0) (Dx0 [0] [0] [0] [fun G => os (vl Qaf Qag data) (data.set a.toNat (data.getD pivot.toNat 0))] (fun G => xS (SoI [0] sh3)) (Dv [1] (Vi Qbo 0) (Dx0 [1] [1] [0] [fun G => os (vl Qaf Qag data) ((data.set a.toNat (data.getD pivot.toNat 0)).set pivot.toNat (data.getD a.toNat 0))] (fun G => xS (SoI [0] sh3)) ?_))))
 refine Dn ⟨by kernel_rfl, fun G => ?_⟩
 refine Jw2 [(0, vl Qaf Qag data), (1, vi a), (2, vi b)] [] [os (vl Qaf Qag data) ((data.set a.toNat (data.getD pivot.toNat 0)).set pivot.toNat (data.getD a.toNat 0))] ?_
 refine KS ?_
 refine Oq Vm (Oq Qbb (Oq Vm (Oq Qdf (Oq Va (Oq Va (KS ?_))))))
 have hterm10 : QaO data a b pivot ((b - a).toNat + 2) (a + 1) ≠ LR.oof := (QtO aM1 aM1)
 refine KjD (γ := Int) (fun i_6 => ⟨[(0, vl Qaf Qag data), (1, vi a), (10, vi i_6), (11, vi (b - 1))], [os (vl Qaf Qag data) ((data.set a.toNat (data.getD pivot.toNat 0)).set pivot.toNat (data.getD a.toNat 0))], QaO data a b pivot ((b - a).toNat + 2) (a + 1) = .brk i_6 /\ (-9223372036854775808 <= i_6 /\ i_6 <= 9223372036854775807) /\ (a + 1 <= i_6 /\ i_6 <= b), 0⟩) ?_ ?_
 ·skip
  refine Kl (γ := Nat × Int) (fun (r5, i_6) => ⟨[(0, vl Qaf Qag data), (1, vi a), (10, vi i_6), (11, vi (b - 1))], [os (vl Qaf Qag data) ((data.set a.toNat (data.getD pivot.toNat 0)).set pivot.toNat (data.getD a.toNat 0))], QaO data a b pivot r5 i_6 = QaO data a b pivot ((b - a).toNat + 2) (a + 1) /\ (-9223372036854775808 <= i_6 /\ i_6 <= 9223372036854775807) /\ (a + 1 <= i_6 /\ i_6 <= b), r5⟩) (((b - a).toNat + 2), (a + 1)) [0] ⟨rfl, aM1, iv0⟩ ?_
  rintro ⟨r5, i_6⟩ ⟨hM7, hk8, hv9⟩
  refine Qbt fun _ _ hL hA => ?_; dsimp only at hL hA; subst hL hA
  refine Fb 8 0 fun _ => Fo 0 fun ho13 => Fl 0 fun hn14 => ?_
  rcases r5 with _ | r5
  ·exact absurd (hM7.symm.trans rfl) hterm10
  refine KS ?_
  refine Qat [0, 0, 3, 7, 15, 15, 63, 127, 15, 15, 783, 1807, 4095, 8191] Qcz ?_
  refine Dv [] Vm (Dv [] Vm (Dv [] Qh8 ?_))
  refine Qbl (decide (i_6 <= (b - 1))) ?_ ?_
  ·intro h15
   have g16 := dt h15
   refine Db h15 [] Vm (Dv [] Vm (Dv [] Vm (Dv [0] (Vi Qbo 0) ?_)))
   have hb17 := ok1 (i := i_6.toNat) ho13 rng
   refine Dv [0] (Qc7 sh3 0) (Dv [] Vm (Dv [] Vm (Dv [0] (Vi Qbo 0) ?_)))
   have hb18 := ok1 (i := a.toNat) ho13 rng
   refine Dv [0] (Qc7 sh3 0) ?_
   refine QaK (Qaq (((data.set a.toNat (data.getD pivot.toNat 0)).set pivot.toNat (data.getD a.toNat 0)).getD i_6.toNat 0) (((data.set a.toNat (data.getD pivot.toNat 0)).set pivot.toNat (data.getD a.toNat 0)).getD a.toNat 0)) fun rv19 hg20 => ?_
   refine Dx [] [] [0] (fun G => vb rv19) [fun G => SP.fact (True)] (fun G => xC [] Qjl (Qjk ((((data.set a.toNat (data.getD pivot.toNat 0)).set pivot.toNat (data.getD a.toNat 0)).getD i_6.toNat 0)) ((((data.set a.toNat (data.getD pivot.toNat 0)).set pivot.toNat (data.getD a.toNat 0)).getD a.toNat 0)) pre pre rv19 hg20)) (Dv [] Vpt ?_)
   refine Dn ⟨by kernel_rfl, fun G => ?_⟩
   refine Jw2 [(0, vl Qaf Qag data), (1, vi a), (10, vi i_6), (11, vi (b - 1)), (43, vb rv19)] [0] [SP.fact (True)] ?_
   refine Jk [0] ?_
   refine Kc ?_ ?_
   ·intro h21
    refine KS ?_
    refine Oq Vm (Oq Qbb (Oq Va (KS ?_)))
    exact Kg (r5, (i_6 + 1)) [0] ⟨(q3 hM7 (by simp only [QaO, h15, h21, hg20, cs4])), aM1, iv1⟩
   intro h21
   refine Ke ?_
   have hR24 := q2 hM7 (.brk i_6) (by simp only [QaO, h15, h21, hg20, cs4])
   exact Kg i_6 [0] ⟨(by assumption), (by first | assumption | omega), (by first | assumption | omega)⟩
  intro h15
  have g25 := df h15
  refine Db h15 [] Vm (Ds (Ds (Ds (Ds (Ds (Ds (Ds (Ds (Ds ?_)))))))))
  refine Dv [] Vpf ?_
  refine Dn ⟨by kernel_rfl, fun G => ?_⟩
  refine Jw2 [(0, vl Qaf Qag data), (1, vi a), (10, vi i_6), (11, vi (b - 1)), (43, vb false)] [0] [] ?_
  refine Kf ?_
  refine Ke ?_
  have hR26 := q2 hM7 (.brk i_6) (by simp only [QaO, h15, cs4])
  exact Kg i_6 [0] ⟨(by assumption), (by first | assumption | omega), (by first | assumption | omega)⟩
 rintro i_6 ⟨hR11, hk8, hv9⟩
 refine Qbt fun _ _ hL hA => ?_; dsimp only at hL hA; subst hL hA
 refine Fb 8 0 fun _ => Fo 0 fun ho28 => Fl 0 fun hn29 => ?_
 refine KS ?_
 have hterm35 : QaN data a pivot i_6 ((b - a).toNat + 2) (b - 1) ≠ LR.oof := (Qtu aM1 aM1)
 refine KjD (γ := Int) (fun Qfl => ⟨[(0, vl Qaf Qag data), (1, vi a), (10, vi i_6), (11, vi Qfl)], [os (vl Qaf Qag data) ((data.set a.toNat (data.getD pivot.toNat 0)).set pivot.toNat (data.getD a.toNat 0))], QaN data a pivot i_6 ((b - a).toNat + 2) (b - 1) = .brk Qfl /\ (-9223372036854775808 <= Qfl /\ Qfl <= 9223372036854775807) /\ (i_6 - 1 <= Qfl /\ Qfl <= b - 1), 0⟩) ?_ ?_
 ·skip
  refine Kl (γ := Nat × Int) (fun (r30, Qfl) => ⟨[(0, vl Qaf Qag data), (1, vi a), (10, vi i_6), (11, vi Qfl)], [os (vl Qaf Qag data) ((data.set a.toNat (data.getD pivot.toNat 0)).set pivot.toNat (data.getD a.toNat 0))], QaN data a pivot i_6 r30 Qfl = QaN data a pivot i_6 ((b - a).toNat + 2) (b - 1) /\ (-9223372036854775808 <= Qfl /\ Qfl <= 9223372036854775807) /\ (i_6 - 1 <= Qfl /\ Qfl <= b - 1), r30⟩) (((b - a).toNat + 2), (b - 1)) [0] ⟨rfl, aM1, iv0⟩ ?_
  rintro ⟨r30, Qfl⟩ ⟨hM32, hk33, hv34⟩
  refine Qbt fun _ _ hL hA => ?_; dsimp only at hL hA; subst hL hA
  refine Fb 8 0 fun _ => Fo 0 fun ho38 => Fl 0 fun hn39 => ?_
  rcases r30 with _ | r30
  ·exact absurd (hM32.symm.trans rfl) hterm35
  refine KS ?_
  refine Qat [0, 0, 3, 7, 15, 15, 63, 127, 15, 15, 783, 1807, 4095, 8191, 16383] Qcz ?_
  refine Dv [] Vm (Dv [] Vm (Dv [] Qh8 ?_))
  refine Qbl (decide (i_6 <= Qfl)) ?_ ?_
  ·intro h40
   have g41 := dt h40
   refine Db h40 [] Vm (Dv [] Vm (Dv [] Vm (Dv [0] (Vi Qbo 0) ?_)))
   have hb42 := ok1 (i := Qfl.toNat) ho38 rng
   refine Dv [0] (Qc7 sh3 0) (Dv [] Vm (Dv [] Vm (Dv [0] (Vi Qbo 0) ?_)))
   have hb43 := ok1 (i := a.toNat) ho38 rng
   refine Dv [0] (Qc7 sh3 0) ?_
   refine QaK (Qaq (((data.set a.toNat (data.getD pivot.toNat 0)).set pivot.toNat (data.getD a.toNat 0)).getD Qfl.toNat 0) (((data.set a.toNat (data.getD pivot.toNat 0)).set pivot.toNat (data.getD a.toNat 0)).getD a.toNat 0)) fun rv44 hg45 => ?_
   refine Dx [] [] [0] (fun G => vb rv44) [fun G => SP.fact (True)] (fun G => xC [] Qjl (Qjk ((((data.set a.toNat (data.getD pivot.toNat 0)).set pivot.toNat (data.getD a.toNat 0)).getD Qfl.toNat 0)) ((((data.set a.toNat (data.getD pivot.toNat 0)).set pivot.toNat (data.getD a.toNat 0)).getD a.toNat 0)) pre pre rv44 hg45)) (Dv [] QeT (Dv [] Vpt ?_))
   refine Dn ⟨by kernel_rfl, fun G => ?_⟩
   refine Jw2 [(0, vl Qaf Qag data), (1, vi a), (10, vi i_6), (11, vi Qfl), (60, vb (!rv44))] [0] [SP.fact (True)] ?_
   refine Jk [0] ?_
   refine Kc ?_ ?_
   ·intro h46
    have h48 := not_true h46
    refine KS ?_
    refine Oq Vm (Oq Qdf (Oq Va (KS ?_)))
    exact Kg (r30, (Qfl - 1)) [0] ⟨(q3 hM32 (by simp only [QaN, h40, h46, h48, hR11, hg45, cs4])), aM1, iv1⟩
   intro h46
   have h51 := not_false h46
   refine Ke ?_
   have hR53 := q2 hM32 (.brk Qfl) (by simp only [QaN, h40, h46, h51, hR11, hg45, cs4])
   exact Kg Qfl [0] ⟨(by assumption), (by first | assumption | omega), (by first | assumption | omega)⟩
  intro h40
  have g54 := df h40
  refine Db h40 [] Vm (Ds (Ds (Ds (Ds (Ds (Ds (Ds (Ds (Ds ?_)))))))))
  refine Ds (Dv [] Vpf ?_)
  refine Dn ⟨by kernel_rfl, fun G => ?_⟩
  refine Jw2 [(0, vl Qaf Qag data), (1, vi a), (10, vi i_6), (11, vi Qfl), (60, vb false)] [0] [] ?_
  refine Kf ?_
  refine Ke ?_
  have hR55 := q2 hM32 (.brk Qfl) (by simp only [QaN, h40, hR11, cs4])
  exact Kg Qfl [0] ⟨(by assumption), (by first | assumption | omega), (by first | assumption | omega)⟩
 rintro Qfl ⟨hR36, hk33, hv34⟩
 refine Qbt fun _ _ hL hA => ?_; dsimp only at hL hA; subst hL hA
 refine Fb 8 0 fun _ => Fo 0 fun ho57 => Fl 0 fun hn58 => ?_
 refine KS ?_
 refine Oq Vm (Oq Vm (Oq Qih (KS ?_)))
 refine Kc ?_ ?_
 ·intro h59
  have g60 := dt h59
  refine KS ?_
  refine Qat [0, 0, 0, 0, 0, 0, 48, 112, 0, 0, 768, 1792, 4083, 8179, 16383, 32767] Qcz ?_
  refine Dv [] Vm (Dv [] Vm (Dv [] Vm (Dv [] Vm (Dv [] Vm (Dv [] Vm (Dv [0] (Vi Qbo 0) ?_))))))
  have hb61 := ok1 (i := a.toNat) ho57 rng
  refine Dv [0] (Qc7 sh3 0) (Dv [] Vm (Dv [] Vm (Dv [0] (Vi Qbo 0) ?_)))
  have hb62 := ok1 (i := Qfl.toNat) ho57 rng
  refine Dv [0] (Qc7 sh3 0) (Dv [0] (Vi Qbo 0) (Dx0 [0] [0] [0] [fun G => os (vl Qaf Qag data) (((data.set a.toNat (data.getD pivot.toNat 0)).set pivot.toNat (data.getD a.toNat 0)).set Qfl.toNat (((data.set a.toNat (data.getD pivot.toNat 0)).set pivot.toNat (data.getD a.toNat 0)).getD a.toNat 0))] (fun G => xS (SoI [0] sh3)) (Dv [1] (Vi Qbo 0) (Dx0 [1] [1] [0] [fun G => os (vl Qaf Qag data) ((((data.set a.toNat (data.getD pivot.toNat 0)).set pivot.toNat (data.getD a.toNat 0)).set Qfl.toNat (((data.set a.toNat (data.getD pivot.toNat 0)).set pivot.toNat (data.getD a.toNat 0)).getD a.toNat 0)).set a.toNat (((data.set a.toNat (data.getD pivot.toNat 0)).set pivot.toNat (data.getD a.toNat 0)).getD Qfl.toNat 0))] (fun G => xS (SoI [0] sh3)) ?_))))
  refine Dn ⟨by kernel_rfl, fun G => ?_⟩
  refine Jw2 [(0, vl Qaf Qag data), (11, vi Qfl)] [] [os (vl Qaf Qag data) ((((data.set a.toNat (data.getD pivot.toNat 0)).set pivot.toNat (data.getD a.toNat 0)).set Qfl.toNat (((data.set a.toNat (data.getD pivot.toNat 0)).set pivot.toNat (data.getD a.toNat 0)).getD a.toNat 0)).set a.toNat (((data.set a.toNat (data.getD pivot.toNat 0)).set pivot.toNat (data.getD a.toNat 0)).getD Qfl.toNat 0))] ?_
  refine KS ?_
  refine Oq Vm (Oq Va (Oq Va (KS ?_)))
  refine Fl 0 fun hn63 => ?_
  have hq := q4 hrr (Qfl, true, ((((data.set a.toNat (data.getD pivot.toNat 0)).set pivot.toNat (data.getD a.toNat 0)).set Qfl.toNat (((data.set a.toNat (data.getD pivot.toNat 0)).set pivot.toNat (data.getD a.toNat 0)).getD a.toNat 0)).set a.toNat (((data.set a.toNat (data.getD pivot.toNat 0)).set pivot.toNat (data.getD a.toNat 0)).getD Qfl.toNat 0))) (by simp only [Qae, h59, hR11, hR36, cs4]); subst hq
  exact Kr () rfl (.tmp rfl (.tmp rfl .nil)) [0] en
 intro h59
 have g64 := df h59
 refine KS ?_
 refine Qat [0, 0, 0, 0, 0, 0, 48, 112, 0, 0, 768, 1792, 4083, 8179, 16383, 32767] Qcz ?_
 refine Dv [] Vm (Dv [] Vm (Dv [] Vm (Dv [] Vm (Dv [] Vm (Dv [] Vm (Dv [0] (Vi Qbo 0) ?_))))))
 have hb65 := ok1 (i := Qfl.toNat) ho57 rng
 refine Dv [0] (Qc7 sh3 0) (Dv [] Vm (Dv [] Vm (Dv [0] (Vi Qbo 0) ?_)))
 have hb66 := ok1 (i := i_6.toNat) ho57 rng
 refine Dv [0] (Qc7 sh3 0) (Dv [0] (Vi Qbo 0) (Dx0 [0] [0] [0] [fun G => os (vl Qaf Qag data) (((data.set a.toNat (data.getD pivot.toNat 0)).set pivot.toNat (data.getD a.toNat 0)).set i_6.toNat (((data.set a.toNat (data.getD pivot.toNat 0)).set pivot.toNat (data.getD a.toNat 0)).getD Qfl.toNat 0))] (fun G => xS (SoI [0] sh3)) (Dv [1] (Vi Qbo 0) (Dx0 [1] [1] [0] [fun G => os (vl Qaf Qag data) ((((data.set a.toNat (data.getD pivot.toNat 0)).set pivot.toNat (data.getD a.toNat 0)).set i_6.toNat (((data.set a.toNat (data.getD pivot.toNat 0)).set pivot.toNat (data.getD a.toNat 0)).getD Qfl.toNat 0)).set Qfl.toNat (((data.set a.toNat (data.getD pivot.toNat 0)).set pivot.toNat (data.getD a.toNat 0)).getD i_6.toNat 0))] (fun G => xS (SoI [0] sh3)) ?_))))
 refine Dn ⟨by kernel_rfl, fun G => ?_⟩
 refine Jw2 [(0, vl Qaf Qag data), (1, vi a), (10, vi i_6), (11, vi Qfl)] [] [os (vl Qaf Qag data) ((((data.set a.toNat (data.getD pivot.toNat 0)).set pivot.toNat (data.getD a.toNat 0)).set i_6.toNat (((data.set a.toNat (data.getD pivot.toNat 0)).set pivot.toNat (data.getD a.toNat 0)).getD Qfl.toNat 0)).set Qfl.toNat (((data.set a.toNat (data.getD pivot.toNat 0)).set pivot.toNat (data.getD a.toNat 0)).getD i_6.toNat 0))] ?_
 refine KS ?_
 refine Oq Vm (Oq Qbb (Oq Va (KS ?_)))
 refine Oq Vm (Oq Qdf (Oq Va (KS ?_)))
 have hterm75 : QaZ a b ((b - a).toNat + 2) ((((data.set a.toNat (data.getD pivot.toNat 0)).set pivot.toNat (data.getD a.toNat 0)).set i_6.toNat (((data.set a.toNat (data.getD pivot.toNat 0)).set pivot.toNat (data.getD a.toNat 0)).getD Qfl.toNat 0)).set Qfl.toNat (((data.set a.toNat (data.getD pivot.toNat 0)).set pivot.toNat (data.getD a.toNat 0)).getD i_6.toNat 0)) (i_6 + 1) (Qfl - 1) ≠ LR.oof := (Qro _ _ _ _ aM1 aM1 aM1 aM1 aM1)
 refine Kl (γ := Nat × List Int × Int × Int) (fun (r67, Qbq, Qlm, Qij) => ⟨[(0, vl Qaf Qag data), (1, vi a), (10, vi Qlm), (11, vi Qij)], [os (vl Qaf Qag data) Qbq], QaZ a b r67 Qbq Qlm Qij = QaZ a b ((b - a).toNat + 2) ((((data.set a.toNat (data.getD pivot.toNat 0)).set pivot.toNat (data.getD a.toNat 0)).set i_6.toNat (((data.set a.toNat (data.getD pivot.toNat 0)).set pivot.toNat (data.getD a.toNat 0)).getD Qfl.toNat 0)).set Qfl.toNat (((data.set a.toNat (data.getD pivot.toNat 0)).set pivot.toNat (data.getD a.toNat 0)).getD i_6.toNat 0)) (i_6 + 1) (Qfl - 1) /\ (-9223372036854775808 <= Qlm /\ Qlm <= 9223372036854775807) /\ (-9223372036854775808 <= Qij /\ Qij <= 9223372036854775807) /\ (a + 1 <= Qlm /\ Qlm <= Qij + 2 /\ Qij <= b - 1 /\ a <= Qij), r67⟩) (((b - a).toNat + 2), ((((data.set a.toNat (data.getD pivot.toNat 0)).set pivot.toNat (data.getD a.toNat 0)).set i_6.toNat (((data.set a.toNat (data.getD pivot.toNat 0)).set pivot.toNat (data.getD a.toNat 0)).getD Qfl.toNat 0)).set Qfl.toNat (((data.set a.toNat (data.getD pivot.toNat 0)).set pivot.toNat (data.getD a.toNat 0)).getD i_6.toNat 0)), (i_6 + 1), (Qfl - 1)) [0] ⟨rfl, aM1, aM1, iv0⟩ ?_
 rintro ⟨r67, Qbq, Qlm, Qij⟩ ⟨hM71, hk72, hk73, hv74⟩
 refine Qbt fun _ _ hL hA => ?_; dsimp only at hL hA; subst hL hA
 refine Fb 8 0 fun _ => Fo 0 fun ho77 => Fl 0 fun hn78 => ?_
 rcases r67 with _ | r67
 ·exact absurd (hM71.symm.trans rfl) hterm75
 refine KS ?_
 have hterm84 : QaC a Qbq Qij ((b - a).toNat + 2) Qlm ≠ LR.oof := (QrO aM1 aM1)
 refine KjD (γ := Int) (fun QfG => ⟨[(0, vl Qaf Qag data), (1, vi a), (10, vi QfG), (11, vi Qij)], [os (vl Qaf Qag data) Qbq], QaC a Qbq Qij ((b - a).toNat + 2) Qlm = .brk QfG /\ (-9223372036854775808 <= QfG /\ QfG <= 9223372036854775807) /\ (Qlm <= QfG /\ (QfG <= Qij + 1 \/ QfG = Qlm)), 0⟩) ?_ ?_
 ·skip
  refine Kl (γ := Nat × Int) (fun (r79, QfG) => ⟨[(0, vl Qaf Qag data), (1, vi a), (10, vi QfG), (11, vi Qij)], [os (vl Qaf Qag data) Qbq], QaC a Qbq Qij r79 QfG = QaC a Qbq Qij ((b - a).toNat + 2) Qlm /\ (-9223372036854775808 <= QfG /\ QfG <= 9223372036854775807) /\ (Qlm <= QfG /\ (QfG <= Qij + 1 \/ QfG = Qlm)), r79⟩) (((b - a).toNat + 2), Qlm) [0] ⟨rfl, aM1, iv0⟩ ?_
  rintro ⟨r79, QfG⟩ ⟨hM81, hk82, hv83⟩
  refine Qbt fun _ _ hL hA => ?_; dsimp only at hL hA; subst hL hA
  refine Fb 8 0 fun _ => Fo 0 fun ho87 => Fl 0 fun hn88 => ?_
  rcases r79 with _ | r79
  ·exact absurd (hM81.symm.trans rfl) hterm84
  refine KS ?_
  refine Qat [0, 0, 3, 7, 15, 15, 63, 127, 15, 15, 783, 1807, 4095, 8191] Qcz ?_
  refine Dv [] Vm (Dv [] Vm (Dv [] Qh8 ?_))
  refine Qbl (decide (QfG <= Qij)) ?_ ?_
  ·intro h89
   have g90 := dt h89
   refine Db h89 [] Vm (Dv [] Vm (Dv [] Vm (Dv [0] (Vi Qbo 0) ?_)))
   have hb91 := ok1 (i := QfG.toNat) ho87 rng
   refine Dv [0] (Qc7 sh3 0) (Dv [] Vm (Dv [] Vm (Dv [0] (Vi Qbo 0) ?_)))
   have hb92 := ok1 (i := a.toNat) ho87 rng
   refine Dv [0] (Qc7 sh3 0) ?_
   refine QaK (Qaq (Qbq.getD QfG.toNat 0) (Qbq.getD a.toNat 0)) fun rv93 hg94 => ?_
   refine Dx [] [] [0] (fun G => vb rv93) [fun G => SP.fact (True)] (fun G => xC [] Qjl (Qjk ((Qbq.getD QfG.toNat 0)) ((Qbq.getD a.toNat 0)) pre pre rv93 hg94)) (Dv [] Vpt ?_)
   refine Dn ⟨by kernel_rfl, fun G => ?_⟩
   refine Jw2 [(0, vl Qaf Qag data), (1, vi a), (10, vi QfG), (11, vi Qij), (112, vb rv93)] [0] [SP.fact (True)] ?_
   refine Jk [0] ?_
   refine Kc ?_ ?_
   ·intro h95
    refine KS ?_
    refine Oq Vm (Oq Qbb (Oq Va (KS ?_)))
    exact Kg (r79, (QfG + 1)) [0] ⟨(q3 hM81 (by simp only [QaC, h59, h89, h95, hR11, hR36, hg94, cs4])), aM1, iv1⟩
   intro h95
   refine Ke ?_
   have hR98 := q2 hM81 (.brk QfG) (by simp only [QaC, h59, h89, h95, hR11, hR36, hg94, cs4])
   exact Kg QfG [0] ⟨(by assumption), (by first | assumption | omega), (by first | assumption | omega)⟩
  intro h89
  have g99 := df h89
  refine Db h89 [] Vm (Ds (Ds (Ds (Ds (Ds (Ds (Ds (Ds (Ds ?_)))))))))
  refine Dv [] Vpf ?_
  refine Dn ⟨by kernel_rfl, fun G => ?_⟩
  refine Jw2 [(0, vl Qaf Qag data), (1, vi a), (10, vi QfG), (11, vi Qij), (112, vb false)] [0] [] ?_
  refine Kf ?_
  refine Ke ?_
  have hR100 := q2 hM81 (.brk QfG) (by simp only [QaC, h59, h89, hR11, hR36, cs4])
  exact Kg QfG [0] ⟨(by assumption), (by first | assumption | omega), (by first | assumption | omega)⟩
 rintro QfG ⟨hR85, hk82, hv83⟩
 refine Qbt fun _ _ hL hA => ?_; dsimp only at hL hA; subst hL hA
 refine Fb 8 0 fun _ => Fo 0 fun ho102 => Fl 0 fun hn103 => ?_
 refine KS ?_
 have hterm109 : QaD a Qbq QfG ((b - a).toNat + 2) Qij ≠ LR.oof := (Qru aM1 aM1)
 refine KjD (γ := Int) (fun QcX => ⟨[(0, vl Qaf Qag data), (1, vi a), (10, vi QfG), (11, vi QcX)], [os (vl Qaf Qag data) Qbq], QaD a Qbq QfG ((b - a).toNat + 2) Qij = .brk QcX /\ (-9223372036854775808 <= QcX /\ QcX <= 9223372036854775807) /\ (QcX <= Qij /\ (QfG - 1 <= QcX \/ QcX = Qij)), 0⟩) ?_ ?_
 ·skip
  refine Kl (γ := Nat × Int) (fun (r104, QcX) => ⟨[(0, vl Qaf Qag data), (1, vi a), (10, vi QfG), (11, vi QcX)], [os (vl Qaf Qag data) Qbq], QaD a Qbq QfG r104 QcX = QaD a Qbq QfG ((b - a).toNat + 2) Qij /\ (-9223372036854775808 <= QcX /\ QcX <= 9223372036854775807) /\ (QcX <= Qij /\ (QfG - 1 <= QcX \/ QcX = Qij)), r104⟩) (((b - a).toNat + 2), Qij) [0] ⟨rfl, aM1, iv0⟩ ?_
  rintro ⟨r104, QcX⟩ ⟨hM106, hk107, hv108⟩
  refine Qbt fun _ _ hL hA => ?_; dsimp only at hL hA; subst hL hA
  refine Fb 8 0 fun _ => Fo 0 fun ho112 => Fl 0 fun hn113 => ?_
  rcases r104 with _ | r104
  ·exact absurd (hM106.symm.trans rfl) hterm109
  refine KS ?_
  refine Qat [0, 0, 3, 7, 15, 15, 63, 127, 15, 15, 783, 1807, 4095, 8191, 16383] Qcz ?_
  refine Dv [] Vm (Dv [] Vm (Dv [] Qh8 ?_))
  refine Qbl (decide (QfG <= QcX)) ?_ ?_
  ·intro h114
   have g115 := dt h114
   refine Db h114 [] Vm (Dv [] Vm (Dv [] Vm (Dv [0] (Vi Qbo 0) ?_)))
   have hb116 := ok1 (i := QcX.toNat) ho112 rng
   refine Dv [0] (Qc7 sh3 0) (Dv [] Vm (Dv [] Vm (Dv [0] (Vi Qbo 0) ?_)))
   have hb117 := ok1 (i := a.toNat) ho112 rng
   refine Dv [0] (Qc7 sh3 0) ?_
   refine QaK (Qaq (Qbq.getD QcX.toNat 0) (Qbq.getD a.toNat 0)) fun rv118 hg119 => ?_
   refine Dx [] [] [0] (fun G => vb rv118) [fun G => SP.fact (True)] (fun G => xC [] Qjl (Qjk ((Qbq.getD QcX.toNat 0)) ((Qbq.getD a.toNat 0)) pre pre rv118 hg119)) (Dv [] QeT (Dv [] Vpt ?_))
   refine Dn ⟨by kernel_rfl, fun G => ?_⟩
   refine Jw2 [(0, vl Qaf Qag data), (1, vi a), (10, vi QfG), (11, vi QcX), (129, vb (!rv118))] [0] [SP.fact (True)] ?_
   refine Jk [0] ?_
   refine Kc ?_ ?_
   ·intro h120
    have h122 := not_true h120
    refine KS ?_
    refine Oq Vm (Oq Qdf (Oq Va (KS ?_)))
    exact Kg (r104, (QcX - 1)) [0] ⟨(q3 hM106 (by simp only [QaD, h59, h114, h120, h122, hR11, hR36, hR85, hg119, cs4])), aM1, iv1⟩
   intro h120
   have h125 := not_false h120
   refine Ke ?_
   have hR127 := q2 hM106 (.brk QcX) (by simp only [QaD, h59, h114, h120, h125, hR11, hR36, hR85, hg119, cs4])
   exact Kg QcX [0] ⟨(by assumption), (by first | assumption | omega), (by first | assumption | omega)⟩
  intro h114
  have g128 := df h114
  refine Db h114 [] Vm (Ds (Ds (Ds (Ds (Ds (Ds (Ds (Ds (Ds ?_)))))))))
  refine Ds (Dv [] Vpf ?_)
  refine Dn ⟨by kernel_rfl, fun G => ?_⟩
  refine Jw2 [(0, vl Qaf Qag data), (1, vi a), (10, vi QfG), (11, vi QcX), (129, vb false)] [0] [] ?_
  refine Kf ?_
  refine Ke ?_
  have hR129 := q2 hM106 (.brk QcX) (by simp only [QaD, h59, h114, hR11, hR36, hR85, cs4])
  exact Kg QcX [0] ⟨(by assumption), (by first | assumption | omega), (by first | assumption | omega)⟩
 rintro QcX ⟨hR110, hk107, hv108⟩
 refine Qbt fun _ _ hL hA => ?_; dsimp only at hL hA; subst hL hA
 refine Fb 8 0 fun _ => Fo 0 fun ho131 => Fl 0 fun hn132 => ?_
 refine KS ?_
 refine Oq Vm (Oq Vm (Oq Qih (KS ?_)))
 refine Kc ?_ ?_
 ·intro h133
  have g134 := dt h133
  refine Ke ?_
  have hR135 := q2 hM71 (.brk (Qbq, QcX)) (by simp only [QaZ, h59, h133, hR11, hR36, hR85, hR110, cs4])
  refine KS ?_
  refine Qat [0, 0, 0, 0, 0, 0, 48, 112, 0, 0, 768, 1792, 4083, 8179, 16383, 32767] Qcz ?_
  refine Dv [] Vm (Dv [] Vm (Dv [] Vm (Dv [] Vm (Dv [] Vm (Dv [] Vm (Dv [0] (Vi Qbo 0) ?_))))))
  have hb136 := ok1 (i := a.toNat) ho131 rng
  refine Dv [0] (Qc7 sh3 0) (Dv [] Vm (Dv [] Vm (Dv [0] (Vi Qbo 0) ?_)))
  have hb137 := ok1 (i := QcX.toNat) ho131 rng
  refine Dv [0] (Qc7 sh3 0) (Dv [0] (Vi Qbo 0) (Dx0 [0] [0] [0] [fun G => os (vl Qaf Qag data) (Qbq.set QcX.toNat (Qbq.getD a.toNat 0))] (fun G => xS (SoI [0] sh3)) (Dv [1] (Vi Qbo 0) (Dx0 [1] [1] [0] [fun G => os (vl Qaf Qag data) ((Qbq.set QcX.toNat (Qbq.getD a.toNat 0)).set a.toNat (Qbq.getD QcX.toNat 0))] (fun G => xS (SoI [0] sh3)) ?_))))
  refine Dn ⟨by kernel_rfl, fun G => ?_⟩
  refine Jw2 [(0, vl Qaf Qag data), (11, vi QcX)] [] [os (vl Qaf Qag data) ((Qbq.set QcX.toNat (Qbq.getD a.toNat 0)).set a.toNat (Qbq.getD QcX.toNat 0))] ?_
  refine KS ?_
  refine Oq Vm (Oq Va (Oq Va (KS ?_)))
  refine Fl 0 fun hn138 => ?_
  have hq := q4 hrr (QcX, false, ((Qbq.set QcX.toNat (Qbq.getD a.toNat 0)).set a.toNat (Qbq.getD QcX.toNat 0))) (by simp only [Qae, h59, h133, hR11, hR36, hR85, hR110, hR135, cs4]); subst hq
  exact Kr () rfl (.tmp rfl (.tmp rfl .nil)) [0] en
 intro h133
 have g139 := df h133
 refine KS ?_
 refine Qat [0, 0, 0, 0, 0, 0, 48, 112, 0, 0, 768, 1792, 4083, 8179, 16383, 32767] Qcz ?_
 refine Dv [] Vm (Dv [] Vm (Dv [] Vm (Dv [] Vm (Dv [] Vm (Dv [] Vm (Dv [0] (Vi Qbo 0) ?_))))))
 have hb140 := ok1 (i := QcX.toNat) ho131 rng
 refine Dv [0] (Qc7 sh3 0) (Dv [] Vm (Dv [] Vm (Dv [0] (Vi Qbo 0) ?_)))
 have hb141 := ok1 (i := QfG.toNat) ho131 rng
 refine Dv [0] (Qc7 sh3 0) (Dv [0] (Vi Qbo 0) (Dx0 [0] [0] [0] [fun G => os (vl Qaf Qag data) (Qbq.set QfG.toNat (Qbq.getD QcX.toNat 0))] (fun G => xS (SoI [0] sh3)) (Dv [1] (Vi Qbo 0) (Dx0 [1] [1] [0] [fun G => os (vl Qaf Qag data) ((Qbq.set QfG.toNat (Qbq.getD QcX.toNat 0)).set QcX.toNat (Qbq.getD QfG.toNat 0))] (fun G => xS (SoI [0] sh3)) ?_))))
 refine Dn ⟨by kernel_rfl, fun G => ?_⟩
 refine Jw2 [(0, vl Qaf Qag data), (1, vi a), (10, vi QfG), (11, vi QcX)] [] [os (vl Qaf Qag data) ((Qbq.set QfG.toNat (Qbq.getD QcX.toNat 0)).set QcX.toNat (Qbq.getD QfG.toNat 0))] ?_
 refine KS ?_
 refine Oq Vm (Oq Qbb (Oq Va (KS ?_)))
 refine Oq Vm (Oq Qdf (Oq Va (KS ?_)))
 exact Kg (r67, ((Qbq.set QfG.toNat (Qbq.getD QcX.toNat 0)).set QcX.toNat (Qbq.getD QfG.toNat 0)), (QfG + 1), (QcX - 1)) [0] ⟨(q3 hM71 (by simp only [QaZ, h59, h133, hR11, hR36, hR85, hR110, cs4])), aM1, aM1, iv1⟩
theorem QtJ (rc : List Int -> Int -> Int -> Int -> List Int) (ms : Nat) (data : List Int) (Qaf : Option Addr) (Qag : Nat) (a : Int) (b : Int) (limit : Int) (hms : (b - a).toNat = ms) (hrp : ∀ (d : List Int) (a b lim : Int), 0 <= a -> a <= b -> b <= (d.length : Int) -> d.length <= 65535 -> (b - a).toNat < ms -> (rc d a b lim).length = d.length) (hrc : ∀ (data : List Int) (Qaf : Option Addr) (Qag : Nat) (a : Int) (b : Int) (limit : Int) (Qh4 : Qac a) (Qii : Qac b) (Qhe : Qac limit) (ha0 : 0 <= a /\ a <= b /\ b <= (data.length : Int) /\ data.length <= 65535) (hl0 : 0 <= limit /\ limit <= 1000) (hfu : (b - a).toNat < ms) (rr : List Int) (hrr : rc data a b limit = rr), FT Tryz.prog 60 #[vl Qaf Qag data, vi a, vi b, vi limit] [O Qaf Qag data] (fun g : Unit => (rr.length = data.length)) (fun g => .tuple #[]) (fun g => [os (vl Qaf Qag data) rr])) (Qh4 : Qac a) (Qii : Qac b) (Qhe : Qac limit) (ha0 : 0 <= a /\ a <= b /\ b <= (data.length : Int) /\ data.length <= 65535) (hl0 : 0 <= limit /\ limit <= 1000) (rr : List Int) (hrr : Qbx rc data a b limit = rr) : FT Tryz.prog 60 #[vl Qaf Qag data, vi a, vi b, vi limit] [O Qaf Qag data] (fun g : Unit => (rr.length = data.length)) (fun g => .tuple #[]) (fun g => [os (vl Qaf Qag data) rr]) := by
 refine FTi Tryz.func60 fun w0 M0 F0 => ?_
 unfold Qac at Qh4 Qii Qhe
 refine Fb 8 0 fun _ => Fo 0 fun ho2 => KS ?_
 refine Oq Va (KS ?_)
 refine Oq Va (KS ?_)
 have hterm15 : Qaa rc ((b - a).toNat + 1) data a b limit true true ≠ LR.oof := (QtD hrp aM1 aM1 aM1 aM1 aM1 aM1 aM1)
 refine Kl (γ := Nat × List Int × Int × Int × Int × Bool × Bool) (fun (r3, Qan, a_5, b_6, Qaw, Qa7, QaL) => ⟨[(0, vl Qaf Qag data), (1, vi a_5), (2, vi b_6), (3, vi Qaw), (8, vb Qa7), (9, vb QaL)], [os (vl Qaf Qag data) Qan], Qaa rc r3 Qan a_5 b_6 Qaw Qa7 QaL = Qaa rc ((b - a).toNat + 1) data a b limit true true /\ (-9223372036854775808 <= a_5 /\ a_5 <= 9223372036854775807) /\ (-9223372036854775808 <= b_6 /\ b_6 <= 9223372036854775807) /\ (-9223372036854775808 <= Qaw /\ Qaw <= 9223372036854775807) /\ (a <= a_5 /\ a_5 <= b_6 /\ b_6 <= b /\ 0 <= Qaw /\ Qaw <= 1000), r3⟩) (((b - a).toNat + 1), data, a, b, limit, true, true) [0] ⟨rfl, aM1, aM1, aM1, iv0⟩ ?_
 rintro ⟨r3, Qan, a_5, b_6, Qaw, Qa7, QaL⟩ ⟨hM10, hk11, hk12, hk13, hv14⟩
 refine Qbt fun _ _ hL hA => ?_; dsimp only at hL hA; subst hL hA
 refine Fb 8 0 fun _ => Fo 0 fun ho17 => Fl 0 fun hn18 => ?_
 rcases r3 with _ | r3
 ·exact absurd (hM10.symm.trans rfl) hterm15
 refine KS ?_
 refine Oq Vm (Oq Vm (Oq Qdf (Oq Va (KS ?_))))
 refine Oq Vm (Oq Qh8 (KS ?_))
 refine Kc ?_ ?_
 ·intro h19
  have g20 := dt h19
  refine KS ?_
  refine Oq Vm (Oq Vm (Oq Vm ?_))
  refine Fl 0 fun hn21 => ?_; (try unfold vl); rw [<- hn21]
  refine QaK (Qbk Qan a_5 b_6) fun rv22 hg23 => ?_
  have hc24 := Qve Qan Qaf Qag a_5 b_6 pre pre pre rv22 hg23
  refine Oc [0] QvA hc24 ?_
  rintro - he25
  have hn26 : Qan.length = data.length := by omega
  try unfold vl
  try rw [hn26]
  refine Fb 8 0 fun _ => Fo 0 fun ho28 => KS ?_
  refine Fl 0 fun hn29 => ?_
  have hR30 := q2 hM10 (.ret rv22) (by simp only [Qaa, h19, hg23, cs4])
  have hq := q4 hrr rv22 (by simp only [Qbx, h19, hg23, hR30, cs4]); subst hq
  exact Kr () rfl .nil [0] en
 intro h19
 have g31 := df h19
 refine KS ?_
 refine Oq Vm (Oq QbB (KS ?_))
 refine Kc ?_ ?_
 ·intro h32
  have g33 := eq_of_beq h32
  refine KS ?_
  refine Oq Vm (Oq Vm (Oq Vm ?_))
  refine Fl 0 fun hn34 => ?_; (try unfold vl); rw [<- hn34]
  refine QaK (QbC Qan a_5 b_6) fun rv35 hg36 => ?_
  have hc37 := QuH Qan Qaf Qag a_5 b_6 pre pre pre rv35 hg36
  refine Oc [0] QuD hc37 ?_
  rintro - he38
  have hn39 : Qan.length = data.length := by omega
  try unfold vl
  try rw [hn39]
  refine Fb 8 0 fun _ => Fo 0 fun ho41 => KS ?_
  refine Fl 0 fun hn42 => ?_
  have hR43 := q2 hM10 (.ret rv35) (by simp only [Qaa, h19, h32, hg36, cs4])
  have hq := q4 hrr rv35 (by simp only [Qbx, h19, h32, hg36, hR43, cs4]); subst hq
  exact Kr () rfl .nil [0] en
 intro h32
 have g44 := ne_of_beq_false h32
 refine KS ?_
 refine Oq Vm (Oq QeT (KS ?_))
 refine Kc ?_ ?_
 ·intro h45
  have h47 := not_true h45
  refine KS ?_
  refine Oq Vm (Oq Vm (Oq Vm ?_))
  refine Fl 0 fun hn49 => ?_; (try unfold vl); rw [<- hn49]
  refine QaK (QaG Qan a_5 b_6) fun rv50 hg51 => ?_
  have hc52 := QvG Qan Qaf Qag a_5 b_6 pre pre pre rv50 hg51
  refine Oc [0] QuS hc52 ?_
  rintro - he53
  have hn54 : Qan.length = data.length := by omega
  try unfold vl
  try rw [hn54]
  refine Fb 8 0 fun _ => Fo 0 fun ho56 => KS ?_
  refine Oq Vm (Oq Qdf (Oq Va (KS ?_)))
  refine Oq Vm (Oq Vm (Oq Vm ?_))
  refine Fl 0 fun hn57 => ?_; (try unfold vl); rw [<- hn57]
  refine QaK (Qak rv50 a_5 b_6) fun rv58 hg59 => ?_
  refine Oc [0] Qus (Qgm (A := _) (fun _ _ h => by cases h) (QhU (Ent.take (is := [0]) rfl) (Que rv50 Qaf Qag a_5 b_6 pre pre pre rv58 hg59))) ?_ (ht := rfl)
  rintro - ⟨he60, he61, he62⟩
  unfold Qac at he60 he61
  have hn63 : rv50.length = data.length := by omega
  try unfold vl
  try rw [hn63]
  refine Oq Vm (Oq Vx (Oq Vx (Oq Va (Oq Va (KS ?_)))))
  refine Oq Vm (Oq QbB (KS ?_))
  refine Kc ?_ ?_
  ·intro h64
   have g65 := eq_of_beq h64
   refine KS ?_
   refine Oq Vm (Oq Vm (Oq Vm ?_))
   refine Fl 0 fun hn66 => ?_; (try unfold vl); rw [<- hn66]
   refine QaK (QaY rv50 a_5 b_6) fun rv67 hg68 => ?_
   have hc69 := Qul rv50 Qaf Qag a_5 b_6 pre pre pre rv67 hg68
   refine Oc [0] Quq hc69 ?_
   rintro - he70
   have hn71 : rv50.length = data.length := by omega
   try unfold vl
   try rw [hn71]
   refine Fb 8 0 fun _ => Fo 0 fun ho73 => KS ?_
   refine Oq Vm (Oq Qdf (Oq Vm (Oq Vm (Oq Qdf (Oq Qdf (Oq Va (KS ?_)))))))
   refine Oq Va (KS ?_)
   refine Oq Vm (Oq Vm ?_)
   refine Js 62 ?_ ?_
   ·intro h74
    exact absurd h74 (by first | (simp [h45]; done) | (simp only [bne, h45]; decide) | (simp only [bne, h45, Bool.not_true, Bool.not_false]; decide) | (exfalso; omega) | (intro hq; simp only [bne, hq, Bool.not_false, Bool.not_true, reduceCtorEq] at h45))
   intro h74
   refine Osk (Oq Vpf (Oq Vm (Osk (Osk (Oq Vpf (KS ?_))))))
   refine Kf (KS ?_)
   refine Qat [0, 1, 3, 7, 7, 23, 63, 127, 7, 7, 775, 1799, 4095, 8191, 16383] Qcz ?_
   refine Dv [] Vm (Dv [] Qih ?_)
   refine Qbl (decide (0 < a_5)) ?_ ?_
   ·intro h76
    have g77 := dt h76
    refine Db h76 [] Vm (Dv [] Vm (Dv [] Vm (Dv [] Qdf (Dv [0] (Vi Qbo 0) ?_))))
    have hb78 := ok1 (i := ((a_5 - 1) : Int).toNat) ho73 rng
    refine Dv [0] (Qc7 sh3 0) (Dv [] Vm (Dv [] Vm (Dv [0] (Vi Qbo 0) ?_)))
    have hb79 := ok1 (i := (((b_6 - 1) - (rv58.1 - a_5)) : Int).toNat) ho73 rng
    refine Dv [0] (Qc7 sh3 0) ?_
    refine QaK (Qaq (rv67.getD ((a_5 - 1) : Int).toNat 0) (rv67.getD (((b_6 - 1) - (rv58.1 - a_5)) : Int).toNat 0)) fun rv80 hg81 => ?_
    refine Dx [] [] [0] (fun G => vb rv80) [fun G => SP.fact (True)] (fun G => xC [] Qjl (Qjk ((rv67.getD ((a_5 - 1) : Int).toNat 0)) ((rv67.getD (((b_6 - 1) - (rv58.1 - a_5)) : Int).toNat 0)) pre pre rv80 hg81)) (Dv [] QeT (Dv [] Vpt ?_))
    refine Dn ⟨by kernel_rfl, fun G => ?_⟩
    refine Jw2 [(0, vl Qaf Qag data), (1, vi a_5), (2, vi b_6), (8, vb Qa7), (9, vb QaL), (10, vi (b_6 - a_5)), (3, vi (Qaw - 1)), (11, vi ((b_6 - 1) - (rv58.1 - a_5))), (87, vb (!rv80))] [0] [SP.fact (True)] ?_
    refine Jk [0] ?_
    refine Kc ?_ ?_
    ·intro h82
     have h84 := not_true h82
     refine KS ?_
     refine Oq Vm (Oq Vm (Oq Vm (Oq Vm ?_)))
     refine Fl 0 fun hn86 => ?_; (try unfold vl); rw [<- hn86]
     refine QaK (Qao rv67 a_5 b_6 ((b_6 - 1) - (rv58.1 - a_5))) fun rv87 hg88 => ?_
     have hc89 := Qpt rv67 Qaf Qag a_5 b_6 (((b_6 - 1) - (rv58.1 - a_5))) pre pre pre pre rv87 hg88
     refine Oc [0] Qo2 hc89 ?_
     rintro - ⟨he90, he91, he92⟩
     unfold Qac at he90
     have hn93 : rv67.length = data.length := by omega
     try unfold vl
     try rw [hn93]
     refine Fb 8 0 fun _ => Fo 0 fun ho95 => ?_
     refine Oq Va (KS ?_)
     refine Oq Vm (Oq Va (KS ?_))
     refine Ke ?_
     exact Kg (r3, rv87.2, rv87.1, b_6, (Qaw - 1), Qa7, QaL) [0] ⟨(q3 hM10 (by simp only [Qaa, h19, h32, h45, h47, h64, h74, h76, h82, h84, hg51, hg59, hg68, hg81, hg88, cs4])), aM1, aM1, aM1, iv1⟩
    intro h82
    have h97 := not_false h82
    refine KS ?_
    refine Oq Vm (Oq Vm (Oq Vm (Oq Vm ?_)))
    refine Fl 0 fun hn99 => ?_; (try unfold vl); rw [<- hn99]
    refine QaK (Qae rv67 a_5 b_6 ((b_6 - 1) - (rv58.1 - a_5))) fun rv100 hg101 => ?_
    have hc102 := QlR rv67 Qaf Qag a_5 b_6 (((b_6 - 1) - (rv58.1 - a_5))) pre pre pre pre rv100 hg101
    refine Oc [0] QlB hc102 ?_
    rintro - ⟨he103, he104, he105⟩
    unfold Qac at he103
    have hn106 : rv67.length = data.length := by omega
    try unfold vl
    try rw [hn106]
    refine Fb 8 0 fun _ => Fo 0 fun ho108 => ?_
    refine Oq Vm (Oq Vx (Oq Vx (Oq Va (Oq Va (KS ?_)))))
    refine Oq Vm (Oq Va (KS ?_))
    refine Oq Vm (Oq Vm (Oq Qdf (Oq Vm (Oq Vm (Oq Qdf (Oq Va (Oq Va (KS ?_))))))))
    refine Oq Vm (Oq QjE (Oq Va (KS ?_)))
    refine Oq Vm (Oq Vm (Oq Qcg (KS ?_)))
    refine Kc ?_ ?_
    ·intro h109
     have g110 := dt h109
     refine KS ?_
     refine Oq Vm (Oq Vm (Oq QeI (Oq Va (KS ?_))))
     refine Oq Vm (Oq Vm (Oq Vm (Oq Vm ?_)))
     refine Fl 0 fun hn111 => ?_; (try unfold vl); rw [<- hn111]
     refine QaK (rc rv100.2.2 a_5 rv100.1 (Qaw - 1)) fun rv112 hg113 => ?_
     have hc114 := hrc rv100.2.2 Qaf Qag a_5 rv100.1 ((Qaw - 1)) pre pre pre pre pre pre rv112 hg113
     refine Oc [0] QhW hc114 ?_
     rintro - he115
     have hn116 : rv100.2.2.length = data.length := by omega
     try unfold vl
     try rw [hn116]
     refine Fb 8 0 fun _ => Fo 0 fun ho118 => KS ?_
     refine Oq Vm (Oq Qbb (Oq Va (KS ?_)))
     exact Kg (r3, rv112, (rv100.1 + 1), b_6, (Qaw - 1), decide (((b_6 - a_5) / 8) <= (rv100.1 - a_5)), rv100.2.1) [0] ⟨(q3 hM10 (by simp only [Qaa, h19, h32, h45, h47, h64, h74, h76, h82, h97, h109, hg51, hg59, hg68, hg81, hg101, hg113, cs4])), aM1, aM1, aM1, iv1⟩
    intro h109
    have g119 := df h109
    refine KS ?_
    refine Oq Vm (Oq Vm (Oq QeI (Oq Va (KS ?_))))
    refine Oq Vm (Oq Vm (Oq Qbb (Oq Vm (Oq Vm ?_))))
    refine Fl 0 fun hn120 => ?_; (try unfold vl); rw [<- hn120]
    refine QaK (rc rv100.2.2 (rv100.1 + 1) b_6 (Qaw - 1)) fun rv121 hg122 => ?_
    have hc123 := hrc rv100.2.2 Qaf Qag ((rv100.1 + 1)) b_6 ((Qaw - 1)) pre pre pre pre pre pre rv121 hg122
    refine Oc [0] QhW hc123 ?_
    rintro - he124
    have hn125 : rv100.2.2.length = data.length := by omega
    try unfold vl
    try rw [hn125]
    refine Fb 8 0 fun _ => Fo 0 fun ho127 => KS ?_
    refine Oq Vm (Oq Va (KS ?_))
    exact Kg (r3, rv121, a_5, rv100.1, (Qaw - 1), decide (((b_6 - a_5) / 8) <= (b_6 - rv100.1)), rv100.2.1) [0] ⟨(q3 hM10 (by simp only [Qaa, h19, h32, h45, h47, h64, h74, h76, h82, h97, h109, hg51, hg59, hg68, hg81, hg101, hg122, cs4])), aM1, aM1, aM1, iv1⟩
   intro h76
   have g128 := df h76
   refine Db h76 [] Vm (Ds (Ds (Ds (Ds (Ds (Ds (Ds (Ds (Ds ?_)))))))))
   refine Ds (Ds (Dv [] Vpf ?_))
   refine Dn ⟨by kernel_rfl, fun G => ?_⟩
   refine Jw2 [(0, vl Qaf Qag data), (1, vi a_5), (2, vi b_6), (8, vb Qa7), (9, vb QaL), (10, vi (b_6 - a_5)), (3, vi (Qaw - 1)), (11, vi ((b_6 - 1) - (rv58.1 - a_5))), (87, vb false)] [0] [] ?_
   refine Kf (KS ?_)
   refine Oq Vm (Oq Vm (Oq Vm (Oq Vm ?_)))
   refine Fl 0 fun hn129 => ?_; (try unfold vl); rw [<- hn129]
   refine QaK (Qae rv67 a_5 b_6 ((b_6 - 1) - (rv58.1 - a_5))) fun rv130 hg131 => ?_
   have hc132 := QlR rv67 Qaf Qag a_5 b_6 (((b_6 - 1) - (rv58.1 - a_5))) pre pre pre pre rv130 hg131
   refine Oc [0] QlB hc132 ?_
   rintro - ⟨he133, he134, he135⟩
   unfold Qac at he133
   have hn136 : rv67.length = data.length := by omega
   try unfold vl
   try rw [hn136]
   refine Fb 8 0 fun _ => Fo 0 fun ho138 => ?_
   refine Oq Vm (Oq Vx (Oq Vx (Oq Va (Oq Va (KS ?_)))))
   refine Oq Vm (Oq Va (KS ?_))
   refine Oq Vm (Oq Vm (Oq Qdf (Oq Vm (Oq Vm (Oq Qdf (Oq Va (Oq Va (KS ?_))))))))
   refine Oq Vm (Oq QjE (Oq Va (KS ?_)))
   refine Oq Vm (Oq Vm (Oq Qcg (KS ?_)))
   refine Kc ?_ ?_
   ·intro h139
    have g140 := dt h139
    refine KS ?_
    refine Oq Vm (Oq Vm (Oq QeI (Oq Va (KS ?_))))
    refine Oq Vm (Oq Vm (Oq Vm (Oq Vm ?_)))
    refine Fl 0 fun hn141 => ?_; (try unfold vl); rw [<- hn141]
    refine QaK (rc rv130.2.2 a_5 rv130.1 (Qaw - 1)) fun rv142 hg143 => ?_
    have hc144 := hrc rv130.2.2 Qaf Qag a_5 rv130.1 ((Qaw - 1)) pre pre pre pre pre pre rv142 hg143
    refine Oc [0] QhW hc144 ?_
    rintro - he145
    have hn146 : rv130.2.2.length = data.length := by omega
    try unfold vl
    try rw [hn146]
    refine Fb 8 0 fun _ => Fo 0 fun ho148 => KS ?_
    refine Oq Vm (Oq Qbb (Oq Va (KS ?_)))
    exact Kg (r3, rv142, (rv130.1 + 1), b_6, (Qaw - 1), decide (((b_6 - a_5) / 8) <= (rv130.1 - a_5)), rv130.2.1) [0] ⟨(q3 hM10 (by simp only [Qaa, h19, h32, h45, h47, h64, h74, h76, h139, hg51, hg59, hg68, hg131, hg143, cs4])), aM1, aM1, aM1, iv1⟩
   intro h139
   have g149 := df h139
   refine KS ?_
   refine Oq Vm (Oq Vm (Oq QeI (Oq Va (KS ?_))))
   refine Oq Vm (Oq Vm (Oq Qbb (Oq Vm (Oq Vm ?_))))
   refine Fl 0 fun hn150 => ?_; (try unfold vl); rw [<- hn150]
   refine QaK (rc rv130.2.2 (rv130.1 + 1) b_6 (Qaw - 1)) fun rv151 hg152 => ?_
   have hc153 := hrc rv130.2.2 Qaf Qag ((rv130.1 + 1)) b_6 ((Qaw - 1)) pre pre pre pre pre pre rv151 hg152
   refine Oc [0] QhW hc153 ?_
   rintro - he154
   have hn155 : rv130.2.2.length = data.length := by omega
   try unfold vl
   try rw [hn155]
   refine Fb 8 0 fun _ => Fo 0 fun ho157 => KS ?_
   refine Oq Vm (Oq Va (KS ?_))
   exact Kg (r3, rv151, a_5, rv130.1, (Qaw - 1), decide (((b_6 - a_5) / 8) <= (b_6 - rv130.1)), rv130.2.1) [0] ⟨(q3 hM10 (by simp only [Qaa, h19, h32, h45, h47, h64, h74, h76, h139, hg51, hg59, hg68, hg131, hg152, cs4])), aM1, aM1, aM1, iv1⟩
  intro h64
  have g158 := ne_of_beq_false h64
  refine KS ?_
  refine Oq Vm (Oq Vm ?_)
  refine Js 62 ?_ ?_
  ·intro h159
   exact absurd h159 (by first | (simp [h45]; done) | (simp only [bne, h45]; decide) | (simp only [bne, h45, Bool.not_true, Bool.not_false]; decide) | (exfalso; omega) | (intro hq; simp only [bne, hq, Bool.not_false, Bool.not_true, reduceCtorEq] at h45))
  intro h159
  refine Osk (Oq Vpf (Oq Vm (Osk (Osk (Oq Vpf (KS ?_))))))
  refine Kf (KS ?_)
  refine Qat [0, 1, 3, 7, 7, 23, 63, 127, 7, 7, 775, 1799, 4095, 8191, 16383] Qcz ?_
  refine Dv [] Vm (Dv [] Qih ?_)
  refine Qbl (decide (0 < a_5)) ?_ ?_
  ·intro h161
   have g162 := dt h161
   refine Db h161 [] Vm (Dv [] Vm (Dv [] Vm (Dv [] Qdf (Dv [0] (Vi Qbo 0) ?_))))
   have hb163 := ok1 (i := ((a_5 - 1) : Int).toNat) ho56 rng
   refine Dv [0] (Qc7 sh3 0) (Dv [] Vm (Dv [] Vm (Dv [0] (Vi Qbo 0) ?_)))
   have hb164 := ok1 (i := rv58.1.toNat) ho56 rng
   refine Dv [0] (Qc7 sh3 0) ?_
   refine QaK (Qaq (rv50.getD ((a_5 - 1) : Int).toNat 0) (rv50.getD rv58.1.toNat 0)) fun rv165 hg166 => ?_
   refine Dx [] [] [0] (fun G => vb rv165) [fun G => SP.fact (True)] (fun G => xC [] Qjl (Qjk ((rv50.getD ((a_5 - 1) : Int).toNat 0)) ((rv50.getD rv58.1.toNat 0)) pre pre rv165 hg166)) (Dv [] QeT (Dv [] Vpt ?_))
   refine Dn ⟨by kernel_rfl, fun G => ?_⟩
   refine Jw2 [(0, vl Qaf Qag data), (1, vi a_5), (2, vi b_6), (8, vb Qa7), (9, vb QaL), (10, vi (b_6 - a_5)), (3, vi (Qaw - 1)), (11, vi rv58.1), (87, vb (!rv165))] [0] [SP.fact (True)] ?_
   refine Jk [0] ?_
   refine Kc ?_ ?_
   ·intro h167
    have h169 := not_true h167
    refine KS ?_
    refine Oq Vm (Oq Vm (Oq Vm (Oq Vm ?_)))
    refine Fl 0 fun hn171 => ?_; (try unfold vl); rw [<- hn171]
    refine QaK (Qao rv50 a_5 b_6 rv58.1) fun rv172 hg173 => ?_
    have hc174 := Qpt rv50 Qaf Qag a_5 b_6 rv58.1 pre pre pre pre rv172 hg173
    refine Oc [0] Qo2 hc174 ?_
    rintro - ⟨he175, he176, he177⟩
    unfold Qac at he175
    have hn178 : rv50.length = data.length := by omega
    try unfold vl
    try rw [hn178]
    refine Fb 8 0 fun _ => Fo 0 fun ho180 => ?_
    refine Oq Va (KS ?_)
    refine Oq Vm (Oq Va (KS ?_))
    refine Ke ?_
    exact Kg (r3, rv172.2, rv172.1, b_6, (Qaw - 1), Qa7, QaL) [0] ⟨(q3 hM10 (by simp only [Qaa, h19, h32, h45, h47, h64, h159, h161, h167, h169, hg51, hg59, hg166, hg173, cs4])), aM1, aM1, aM1, iv1⟩
   intro h167
   have h182 := not_false h167
   refine KS ?_
   refine Oq Vm (Oq Vm (Oq Vm (Oq Vm ?_)))
   refine Fl 0 fun hn184 => ?_; (try unfold vl); rw [<- hn184]
   refine QaK (Qae rv50 a_5 b_6 rv58.1) fun rv185 hg186 => ?_
   have hc187 := QlR rv50 Qaf Qag a_5 b_6 rv58.1 pre pre pre pre rv185 hg186
   refine Oc [0] QlB hc187 ?_
   rintro - ⟨he188, he189, he190⟩
   unfold Qac at he188
   have hn191 : rv50.length = data.length := by omega
   try unfold vl
   try rw [hn191]
   refine Fb 8 0 fun _ => Fo 0 fun ho193 => ?_
   refine Oq Vm (Oq Vx (Oq Vx (Oq Va (Oq Va (KS ?_)))))
   refine Oq Vm (Oq Va (KS ?_))
   refine Oq Vm (Oq Vm (Oq Qdf (Oq Vm (Oq Vm (Oq Qdf (Oq Va (Oq Va (KS ?_))))))))
   refine Oq Vm (Oq QjE (Oq Va (KS ?_)))
   refine Oq Vm (Oq Vm (Oq Qcg (KS ?_)))
   refine Kc ?_ ?_
   ·intro h194
    have g195 := dt h194
    refine KS ?_
    refine Oq Vm (Oq Vm (Oq QeI (Oq Va (KS ?_))))
    refine Oq Vm (Oq Vm (Oq Vm (Oq Vm ?_)))
    refine Fl 0 fun hn196 => ?_; (try unfold vl); rw [<- hn196]
    refine QaK (rc rv185.2.2 a_5 rv185.1 (Qaw - 1)) fun rv197 hg198 => ?_
    have hc199 := hrc rv185.2.2 Qaf Qag a_5 rv185.1 ((Qaw - 1)) pre pre pre pre pre pre rv197 hg198
    refine Oc [0] QhW hc199 ?_
    rintro - he200
    have hn201 : rv185.2.2.length = data.length := by omega
    try unfold vl
    try rw [hn201]
    refine Fb 8 0 fun _ => Fo 0 fun ho203 => KS ?_
    refine Oq Vm (Oq Qbb (Oq Va (KS ?_)))
    exact Kg (r3, rv197, (rv185.1 + 1), b_6, (Qaw - 1), decide (((b_6 - a_5) / 8) <= (rv185.1 - a_5)), rv185.2.1) [0] ⟨(q3 hM10 (by simp only [Qaa, h19, h32, h45, h47, h64, h159, h161, h167, h182, h194, hg51, hg59, hg166, hg186, hg198, cs4])), aM1, aM1, aM1, iv1⟩
   intro h194
   have g204 := df h194
   refine KS ?_
   refine Oq Vm (Oq Vm (Oq QeI (Oq Va (KS ?_))))
   refine Oq Vm (Oq Vm (Oq Qbb (Oq Vm (Oq Vm ?_))))
   refine Fl 0 fun hn205 => ?_; (try unfold vl); rw [<- hn205]
   refine QaK (rc rv185.2.2 (rv185.1 + 1) b_6 (Qaw - 1)) fun rv206 hg207 => ?_
   have hc208 := hrc rv185.2.2 Qaf Qag ((rv185.1 + 1)) b_6 ((Qaw - 1)) pre pre pre pre pre pre rv206 hg207
   refine Oc [0] QhW hc208 ?_
   rintro - he209
   have hn210 : rv185.2.2.length = data.length := by omega
   try unfold vl
   try rw [hn210]
   refine Fb 8 0 fun _ => Fo 0 fun ho212 => KS ?_
   refine Oq Vm (Oq Va (KS ?_))
   exact Kg (r3, rv206, a_5, rv185.1, (Qaw - 1), decide (((b_6 - a_5) / 8) <= (b_6 - rv185.1)), rv185.2.1) [0] ⟨(q3 hM10 (by simp only [Qaa, h19, h32, h45, h47, h64, h159, h161, h167, h182, h194, hg51, hg59, hg166, hg186, hg207, cs4])), aM1, aM1, aM1, iv1⟩
  intro h161
  have g213 := df h161
  refine Db h161 [] Vm (Ds (Ds (Ds (Ds (Ds (Ds (Ds (Ds (Ds ?_)))))))))
  refine Ds (Ds (Dv [] Vpf ?_))
  refine Dn ⟨by kernel_rfl, fun G => ?_⟩
  refine Jw2 [(0, vl Qaf Qag data), (1, vi a_5), (2, vi b_6), (8, vb Qa7), (9, vb QaL), (10, vi (b_6 - a_5)), (3, vi (Qaw - 1)), (11, vi rv58.1), (87, vb false)] [0] [] ?_
  refine Kf (KS ?_)
  refine Oq Vm (Oq Vm (Oq Vm (Oq Vm ?_)))
  refine Fl 0 fun hn214 => ?_; (try unfold vl); rw [<- hn214]
  refine QaK (Qae rv50 a_5 b_6 rv58.1) fun rv215 hg216 => ?_
  have hc217 := QlR rv50 Qaf Qag a_5 b_6 rv58.1 pre pre pre pre rv215 hg216
  refine Oc [0] QlB hc217 ?_
  rintro - ⟨he218, he219, he220⟩
  unfold Qac at he218
  have hn221 : rv50.length = data.length := by omega
  try unfold vl
  try rw [hn221]
  refine Fb 8 0 fun _ => Fo 0 fun ho223 => ?_
  refine Oq Vm (Oq Vx (Oq Vx (Oq Va (Oq Va (KS ?_)))))
  refine Oq Vm (Oq Va (KS ?_))
  refine Oq Vm (Oq Vm (Oq Qdf (Oq Vm (Oq Vm (Oq Qdf (Oq Va (Oq Va (KS ?_))))))))
  refine Oq Vm (Oq QjE (Oq Va (KS ?_)))
  refine Oq Vm (Oq Vm (Oq Qcg (KS ?_)))
  refine Kc ?_ ?_
  ·intro h224
   have g225 := dt h224
   refine KS ?_
   refine Oq Vm (Oq Vm (Oq QeI (Oq Va (KS ?_))))
   refine Oq Vm (Oq Vm (Oq Vm (Oq Vm ?_)))
   refine Fl 0 fun hn226 => ?_; (try unfold vl); rw [<- hn226]
   refine QaK (rc rv215.2.2 a_5 rv215.1 (Qaw - 1)) fun rv227 hg228 => ?_
   have hc229 := hrc rv215.2.2 Qaf Qag a_5 rv215.1 ((Qaw - 1)) pre pre pre pre pre pre rv227 hg228
   refine Oc [0] QhW hc229 ?_
   rintro - he230
   have hn231 : rv215.2.2.length = data.length := by omega
   try unfold vl
   try rw [hn231]
   refine Fb 8 0 fun _ => Fo 0 fun ho233 => KS ?_
   refine Oq Vm (Oq Qbb (Oq Va (KS ?_)))
   exact Kg (r3, rv227, (rv215.1 + 1), b_6, (Qaw - 1), decide (((b_6 - a_5) / 8) <= (rv215.1 - a_5)), rv215.2.1) [0] ⟨(q3 hM10 (by simp only [Qaa, h19, h32, h45, h47, h64, h159, h161, h224, hg51, hg59, hg216, hg228, cs4])), aM1, aM1, aM1, iv1⟩
  intro h224
  have g234 := df h224
  refine KS ?_
  refine Oq Vm (Oq Vm (Oq QeI (Oq Va (KS ?_))))
  refine Oq Vm (Oq Vm (Oq Qbb (Oq Vm (Oq Vm ?_))))
  refine Fl 0 fun hn235 => ?_; (try unfold vl); rw [<- hn235]
  refine QaK (rc rv215.2.2 (rv215.1 + 1) b_6 (Qaw - 1)) fun rv236 hg237 => ?_
  have hc238 := hrc rv215.2.2 Qaf Qag ((rv215.1 + 1)) b_6 ((Qaw - 1)) pre pre pre pre pre pre rv236 hg237
  refine Oc [0] QhW hc238 ?_
  rintro - he239
  have hn240 : rv215.2.2.length = data.length := by omega
  try unfold vl
  try rw [hn240]
  refine Fb 8 0 fun _ => Fo 0 fun ho242 => KS ?_
  refine Oq Vm (Oq Va (KS ?_))
  exact Kg (r3, rv236, a_5, rv215.1, (Qaw - 1), decide (((b_6 - a_5) / 8) <= (b_6 - rv215.1)), rv215.2.1) [0] ⟨(q3 hM10 (by simp only [Qaa, h19, h32, h45, h47, h64, h159, h161, h224, hg51, hg59, hg216, hg237, cs4])), aM1, aM1, aM1, iv1⟩
 intro h45
 have h244 := not_false h45
 refine KS ?_
 refine Oq Vm (Oq Vm (Oq Vm ?_))
 refine Fl 0 fun hn246 => ?_; (try unfold vl); rw [<- hn246]
 refine QaK (Qak Qan a_5 b_6) fun rv247 hg248 => ?_
 refine Oc [0] Qus (Qgm (A := _) (fun _ _ h => by cases h) (QhU (Ent.take (is := [0]) rfl) (Que Qan Qaf Qag a_5 b_6 pre pre pre rv247 hg248))) ?_ (ht := rfl)
 rintro - ⟨he249, he250, he251⟩
 unfold Qac at he249 he250
 have hn252 : Qan.length = data.length := by omega
 try unfold vl
 try rw [hn252]
 refine Oq Vm (Oq Vx (Oq Vx (Oq Va (Oq Va (KS ?_)))))
 refine Oq Vm (Oq QbB (KS ?_))
 refine Kc ?_ ?_
 ·intro h253
  have g254 := eq_of_beq h253
  refine KS ?_
  refine Oq Vm (Oq Vm (Oq Vm ?_))
  refine Fl 0 fun hn255 => ?_; (try unfold vl); rw [<- hn255]
  refine QaK (QaY Qan a_5 b_6) fun rv256 hg257 => ?_
  have hc258 := Qul Qan Qaf Qag a_5 b_6 pre pre pre rv256 hg257
  refine Oc [0] Quq hc258 ?_
  rintro - he259
  have hn260 : Qan.length = data.length := by omega
  try unfold vl
  try rw [hn260]
  refine Fb 8 0 fun _ => Fo 0 fun ho262 => KS ?_
  refine Oq Vm (Oq Qdf (Oq Vm (Oq Vm (Oq Qdf (Oq Qdf (Oq Va (KS ?_)))))))
  refine Oq Va (KS ?_)
  refine Oq Vm (Oq Vm ?_)
  refine Js 62 ?_ ?_
  ·intro h263
   refine Oq Vm (Oq Vpt (Oq Vm ?_))
   refine Js 65 ?_ ?_
   ·intro h265
    refine Oq Vm (Oq QbB (Oq Vpt (KS ?_)))
    refine Kt (KS ?_)
    refine Oq Vm (Oq Vm (Oq Vm ?_))
    refine Fl 0 fun hn267 => ?_; (try unfold vl); rw [<- hn267]
    refine QaK (Qal rv256 a_5 b_6) fun rv268 hg269 => ?_
    have hc270 := Qt3 rv256 Qaf Qag a_5 b_6 pre pre pre rv268 hg269
    refine Oc [0] Qur hc270 ?_
    rintro - he271
    have hn272 : rv256.length = data.length := by omega
    try unfold vl
    try rw [hn272]
    refine Fb 8 0 fun _ => Fo 0 fun ho274 => KS ?_
    refine Kc ?_ ?_
    ·intro h275
     refine Fl 0 fun hn277 => ?_
     have hR278 := q2 hM10 (.ret rv268.2) (by simp only [Qaa, h19, h32, h45, h244, h253, h263, h265, h275, hg248, hg257, hg269, cs4])
     have hq := q4 hrr rv268.2 (by simp only [Qbx, h19, h32, h45, h244, h253, h263, h265, h275, hg248, hg257, hg269, hR278, cs4]); subst hq
     exact Kr () rfl .nil [0] en
    intro h275
    refine KS ?_
    refine Qat [0, 1, 3, 7, 7, 23, 63, 127, 7, 7, 775, 1799, 4095, 8191, 16383] Qcz ?_
    refine Dv [] Vm (Dv [] Qih ?_)
    refine Qbl (decide (0 < a_5)) ?_ ?_
    ·intro h280
     have g281 := dt h280
     refine Db h280 [] Vm (Dv [] Vm (Dv [] Vm (Dv [] Qdf (Dv [0] (Vi Qbo 0) ?_))))
     have hb282 := ok1 (i := ((a_5 - 1) : Int).toNat) ho274 rng
     refine Dv [0] (Qc7 sh3 0) (Dv [] Vm (Dv [] Vm (Dv [0] (Vi Qbo 0) ?_)))
     have hb283 := ok1 (i := (((b_6 - 1) - (rv247.1 - a_5)) : Int).toNat) ho274 rng
     refine Dv [0] (Qc7 sh3 0) ?_
     refine QaK (Qaq (rv268.2.getD ((a_5 - 1) : Int).toNat 0) (rv268.2.getD (((b_6 - 1) - (rv247.1 - a_5)) : Int).toNat 0)) fun rv284 hg285 => ?_
     refine Dx [] [] [0] (fun G => vb rv284) [fun G => SP.fact (True)] (fun G => xC [] Qjl (Qjk ((rv268.2.getD ((a_5 - 1) : Int).toNat 0)) ((rv268.2.getD (((b_6 - 1) - (rv247.1 - a_5)) : Int).toNat 0)) pre pre rv284 hg285)) (Dv [] QeT (Dv [] Vpt ?_))
     refine Dn ⟨by kernel_rfl, fun G => ?_⟩
     refine Jw2 [(0, vl Qaf Qag data), (1, vi a_5), (2, vi b_6), (3, vi Qaw), (8, vb Qa7), (9, vb QaL), (10, vi (b_6 - a_5)), (11, vi ((b_6 - 1) - (rv247.1 - a_5))), (87, vb (!rv284))] [0] [SP.fact (True)] ?_
     refine Jk [0] ?_
     refine Kc ?_ ?_
     ·intro h286
      have h288 := not_true h286
      refine KS ?_
      refine Oq Vm (Oq Vm (Oq Vm (Oq Vm ?_)))
      refine Fl 0 fun hn290 => ?_; (try unfold vl); rw [<- hn290]
      refine QaK (Qao rv268.2 a_5 b_6 ((b_6 - 1) - (rv247.1 - a_5))) fun rv291 hg292 => ?_
      have hc293 := Qpt rv268.2 Qaf Qag a_5 b_6 (((b_6 - 1) - (rv247.1 - a_5))) pre pre pre pre rv291 hg292
      refine Oc [0] Qo2 hc293 ?_
      rintro - ⟨he294, he295, he296⟩
      unfold Qac at he294
      have hn297 : rv268.2.length = data.length := by omega
      try unfold vl
      try rw [hn297]
      refine Fb 8 0 fun _ => Fo 0 fun ho299 => ?_
      refine Oq Va (KS ?_)
      refine Oq Vm (Oq Va (KS ?_))
      refine Ke ?_
      exact Kg (r3, rv291.2, rv291.1, b_6, Qaw, Qa7, QaL) [0] ⟨(q3 hM10 (by simp only [Qaa, h19, h32, h45, h244, h253, h263, h265, h275, h280, h286, h288, hg248, hg257, hg269, hg285, hg292, cs4])), aM1, aM1, aM1, iv1⟩
     intro h286
     have h301 := not_false h286
     refine KS ?_
     refine Oq Vm (Oq Vm (Oq Vm (Oq Vm ?_)))
     refine Fl 0 fun hn303 => ?_; (try unfold vl); rw [<- hn303]
     refine QaK (Qae rv268.2 a_5 b_6 ((b_6 - 1) - (rv247.1 - a_5))) fun rv304 hg305 => ?_
     have hc306 := QlR rv268.2 Qaf Qag a_5 b_6 (((b_6 - 1) - (rv247.1 - a_5))) pre pre pre pre rv304 hg305
     refine Oc [0] QlB hc306 ?_
     rintro - ⟨he307, he308, he309⟩
     unfold Qac at he307
     have hn310 : rv268.2.length = data.length := by omega
     try unfold vl
     try rw [hn310]
     refine Fb 8 0 fun _ => Fo 0 fun ho312 => ?_
     refine Oq Vm (Oq Vx (Oq Vx (Oq Va (Oq Va (KS ?_)))))
     refine Oq Vm (Oq Va (KS ?_))
     refine Oq Vm (Oq Vm (Oq Qdf (Oq Vm (Oq Vm (Oq Qdf (Oq Va (Oq Va (KS ?_))))))))
     refine Oq Vm (Oq QjE (Oq Va (KS ?_)))
     refine Oq Vm (Oq Vm (Oq Qcg (KS ?_)))
     refine Kc ?_ ?_
     ·intro h313
      have g314 := dt h313
      refine KS ?_
      refine Oq Vm (Oq Vm (Oq QeI (Oq Va (KS ?_))))
      refine Oq Vm (Oq Vm (Oq Vm (Oq Vm ?_)))
      refine Fl 0 fun hn315 => ?_; (try unfold vl); rw [<- hn315]
      refine QaK (rc rv304.2.2 a_5 rv304.1 Qaw) fun rv316 hg317 => ?_
      have hc318 := hrc rv304.2.2 Qaf Qag a_5 rv304.1 Qaw pre pre pre pre pre pre rv316 hg317
      refine Oc [0] QhW hc318 ?_
      rintro - he319
      have hn320 : rv304.2.2.length = data.length := by omega
      try unfold vl
      try rw [hn320]
      refine Fb 8 0 fun _ => Fo 0 fun ho322 => KS ?_
      refine Oq Vm (Oq Qbb (Oq Va (KS ?_)))
      exact Kg (r3, rv316, (rv304.1 + 1), b_6, Qaw, decide (((b_6 - a_5) / 8) <= (rv304.1 - a_5)), rv304.2.1) [0] ⟨(q3 hM10 (by simp only [Qaa, h19, h32, h45, h244, h253, h263, h265, h275, h280, h286, h301, h313, hg248, hg257, hg269, hg285, hg305, hg317, cs4])), aM1, aM1, aM1, iv1⟩
     intro h313
     have g323 := df h313
     refine KS ?_
     refine Oq Vm (Oq Vm (Oq QeI (Oq Va (KS ?_))))
     refine Oq Vm (Oq Vm (Oq Qbb (Oq Vm (Oq Vm ?_))))
     refine Fl 0 fun hn324 => ?_; (try unfold vl); rw [<- hn324]
     refine QaK (rc rv304.2.2 (rv304.1 + 1) b_6 Qaw) fun rv325 hg326 => ?_
     have hc327 := hrc rv304.2.2 Qaf Qag ((rv304.1 + 1)) b_6 Qaw pre pre pre pre pre pre rv325 hg326
     refine Oc [0] QhW hc327 ?_
     rintro - he328
     have hn329 : rv304.2.2.length = data.length := by omega
     try unfold vl
     try rw [hn329]
     refine Fb 8 0 fun _ => Fo 0 fun ho331 => KS ?_
     refine Oq Vm (Oq Va (KS ?_))
     exact Kg (r3, rv325, a_5, rv304.1, Qaw, decide (((b_6 - a_5) / 8) <= (b_6 - rv304.1)), rv304.2.1) [0] ⟨(q3 hM10 (by simp only [Qaa, h19, h32, h45, h244, h253, h263, h265, h275, h280, h286, h301, h313, hg248, hg257, hg269, hg285, hg305, hg326, cs4])), aM1, aM1, aM1, iv1⟩
    intro h280
    have g332 := df h280
    refine Db h280 [] Vm (Ds (Ds (Ds (Ds (Ds (Ds (Ds (Ds (Ds ?_)))))))))
    refine Ds (Ds (Dv [] Vpf ?_))
    refine Dn ⟨by kernel_rfl, fun G => ?_⟩
    refine Jw2 [(0, vl Qaf Qag data), (1, vi a_5), (2, vi b_6), (3, vi Qaw), (8, vb Qa7), (9, vb QaL), (10, vi (b_6 - a_5)), (11, vi ((b_6 - 1) - (rv247.1 - a_5))), (87, vb false)] [0] [] ?_
    refine Kf (KS ?_)
    refine Oq Vm (Oq Vm (Oq Vm (Oq Vm ?_)))
    refine Fl 0 fun hn333 => ?_; (try unfold vl); rw [<- hn333]
    refine QaK (Qae rv268.2 a_5 b_6 ((b_6 - 1) - (rv247.1 - a_5))) fun rv334 hg335 => ?_
    have hc336 := QlR rv268.2 Qaf Qag a_5 b_6 (((b_6 - 1) - (rv247.1 - a_5))) pre pre pre pre rv334 hg335
    refine Oc [0] QlB hc336 ?_
    rintro - ⟨he337, he338, he339⟩
    unfold Qac at he337
    have hn340 : rv268.2.length = data.length := by omega
    try unfold vl
    try rw [hn340]
    refine Fb 8 0 fun _ => Fo 0 fun ho342 => ?_
    refine Oq Vm (Oq Vx (Oq Vx (Oq Va (Oq Va (KS ?_)))))
    refine Oq Vm (Oq Va (KS ?_))
    refine Oq Vm (Oq Vm (Oq Qdf (Oq Vm (Oq Vm (Oq Qdf (Oq Va (Oq Va (KS ?_))))))))
    refine Oq Vm (Oq QjE (Oq Va (KS ?_)))
    refine Oq Vm (Oq Vm (Oq Qcg (KS ?_)))
    refine Kc ?_ ?_
    ·intro h343
     have g344 := dt h343
     refine KS ?_
     refine Oq Vm (Oq Vm (Oq QeI (Oq Va (KS ?_))))
     refine Oq Vm (Oq Vm (Oq Vm (Oq Vm ?_)))
     refine Fl 0 fun hn345 => ?_; (try unfold vl); rw [<- hn345]
     refine QaK (rc rv334.2.2 a_5 rv334.1 Qaw) fun rv346 hg347 => ?_
     have hc348 := hrc rv334.2.2 Qaf Qag a_5 rv334.1 Qaw pre pre pre pre pre pre rv346 hg347
     refine Oc [0] QhW hc348 ?_
     rintro - he349
     have hn350 : rv334.2.2.length = data.length := by omega
     try unfold vl
     try rw [hn350]
     refine Fb 8 0 fun _ => Fo 0 fun ho352 => KS ?_
     refine Oq Vm (Oq Qbb (Oq Va (KS ?_)))
     exact Kg (r3, rv346, (rv334.1 + 1), b_6, Qaw, decide (((b_6 - a_5) / 8) <= (rv334.1 - a_5)), rv334.2.1) [0] ⟨(q3 hM10 (by simp only [Qaa, h19, h32, h45, h244, h253, h263, h265, h275, h280, h343, hg248, hg257, hg269, hg335, hg347, cs4])), aM1, aM1, aM1, iv1⟩
    intro h343
    have g353 := df h343
    refine KS ?_
    refine Oq Vm (Oq Vm (Oq QeI (Oq Va (KS ?_))))
    refine Oq Vm (Oq Vm (Oq Qbb (Oq Vm (Oq Vm ?_))))
    refine Fl 0 fun hn354 => ?_; (try unfold vl); rw [<- hn354]
    refine QaK (rc rv334.2.2 (rv334.1 + 1) b_6 Qaw) fun rv355 hg356 => ?_
    have hc357 := hrc rv334.2.2 Qaf Qag ((rv334.1 + 1)) b_6 Qaw pre pre pre pre pre pre rv355 hg356
    refine Oc [0] QhW hc357 ?_
    rintro - he358
    have hn359 : rv334.2.2.length = data.length := by omega
    try unfold vl
    try rw [hn359]
    refine Fb 8 0 fun _ => Fo 0 fun ho361 => KS ?_
    refine Oq Vm (Oq Va (KS ?_))
    exact Kg (r3, rv355, a_5, rv334.1, Qaw, decide (((b_6 - a_5) / 8) <= (b_6 - rv334.1)), rv334.2.1) [0] ⟨(q3 hM10 (by simp only [Qaa, h19, h32, h45, h244, h253, h263, h265, h275, h280, h343, hg248, hg257, hg269, hg335, hg356, cs4])), aM1, aM1, aM1, iv1⟩
   intro h265
   refine Osk (Osk (Oq Vpf (KS ?_)))
   refine Kf (KS ?_)
   refine Qat [0, 1, 3, 7, 7, 23, 63, 127, 7, 7, 775, 1799, 4095, 8191, 16383] Qcz ?_
   refine Dv [] Vm (Dv [] Qih ?_)
   refine Qbl (decide (0 < a_5)) ?_ ?_
   ·intro h363
    have g364 := dt h363
    refine Db h363 [] Vm (Dv [] Vm (Dv [] Vm (Dv [] Qdf (Dv [0] (Vi Qbo 0) ?_))))
    have hb365 := ok1 (i := ((a_5 - 1) : Int).toNat) ho262 rng
    refine Dv [0] (Qc7 sh3 0) (Dv [] Vm (Dv [] Vm (Dv [0] (Vi Qbo 0) ?_)))
    have hb366 := ok1 (i := (((b_6 - 1) - (rv247.1 - a_5)) : Int).toNat) ho262 rng
    refine Dv [0] (Qc7 sh3 0) ?_
    refine QaK (Qaq (rv256.getD ((a_5 - 1) : Int).toNat 0) (rv256.getD (((b_6 - 1) - (rv247.1 - a_5)) : Int).toNat 0)) fun rv367 hg368 => ?_
    refine Dx [] [] [0] (fun G => vb rv367) [fun G => SP.fact (True)] (fun G => xC [] Qjl (Qjk ((rv256.getD ((a_5 - 1) : Int).toNat 0)) ((rv256.getD (((b_6 - 1) - (rv247.1 - a_5)) : Int).toNat 0)) pre pre rv367 hg368)) (Dv [] QeT (Dv [] Vpt ?_))
    refine Dn ⟨by kernel_rfl, fun G => ?_⟩
    refine Jw2 [(0, vl Qaf Qag data), (1, vi a_5), (2, vi b_6), (3, vi Qaw), (8, vb Qa7), (9, vb QaL), (10, vi (b_6 - a_5)), (11, vi ((b_6 - 1) - (rv247.1 - a_5))), (87, vb (!rv367))] [0] [SP.fact (True)] ?_
    refine Jk [0] ?_
    refine Kc ?_ ?_
    ·intro h369
     have h371 := not_true h369
     refine KS ?_
     refine Oq Vm (Oq Vm (Oq Vm (Oq Vm ?_)))
     refine Fl 0 fun hn373 => ?_; (try unfold vl); rw [<- hn373]
     refine QaK (Qao rv256 a_5 b_6 ((b_6 - 1) - (rv247.1 - a_5))) fun rv374 hg375 => ?_
     have hc376 := Qpt rv256 Qaf Qag a_5 b_6 (((b_6 - 1) - (rv247.1 - a_5))) pre pre pre pre rv374 hg375
     refine Oc [0] Qo2 hc376 ?_
     rintro - ⟨he377, he378, he379⟩
     unfold Qac at he377
     have hn380 : rv256.length = data.length := by omega
     try unfold vl
     try rw [hn380]
     refine Fb 8 0 fun _ => Fo 0 fun ho382 => ?_
     refine Oq Va (KS ?_)
     refine Oq Vm (Oq Va (KS ?_))
     refine Ke ?_
     exact Kg (r3, rv374.2, rv374.1, b_6, Qaw, Qa7, QaL) [0] ⟨(q3 hM10 (by simp only [Qaa, h19, h32, h45, h244, h253, h263, h265, h363, h369, h371, hg248, hg257, hg368, hg375, cs4])), aM1, aM1, aM1, iv1⟩
    intro h369
    have h384 := not_false h369
    refine KS ?_
    refine Oq Vm (Oq Vm (Oq Vm (Oq Vm ?_)))
    refine Fl 0 fun hn386 => ?_; (try unfold vl); rw [<- hn386]
    refine QaK (Qae rv256 a_5 b_6 ((b_6 - 1) - (rv247.1 - a_5))) fun rv387 hg388 => ?_
    have hc389 := QlR rv256 Qaf Qag a_5 b_6 (((b_6 - 1) - (rv247.1 - a_5))) pre pre pre pre rv387 hg388
    refine Oc [0] QlB hc389 ?_
    rintro - ⟨he390, he391, he392⟩
    unfold Qac at he390
    have hn393 : rv256.length = data.length := by omega
    try unfold vl
    try rw [hn393]
    refine Fb 8 0 fun _ => Fo 0 fun ho395 => ?_
    refine Oq Vm (Oq Vx (Oq Vx (Oq Va (Oq Va (KS ?_)))))
    refine Oq Vm (Oq Va (KS ?_))
    refine Oq Vm (Oq Vm (Oq Qdf (Oq Vm (Oq Vm (Oq Qdf (Oq Va (Oq Va (KS ?_))))))))
    refine Oq Vm (Oq QjE (Oq Va (KS ?_)))
    refine Oq Vm (Oq Vm (Oq Qcg (KS ?_)))
    refine Kc ?_ ?_
    ·intro h396
     have g397 := dt h396
     refine KS ?_
     refine Oq Vm (Oq Vm (Oq QeI (Oq Va (KS ?_))))
     refine Oq Vm (Oq Vm (Oq Vm (Oq Vm ?_)))
     refine Fl 0 fun hn398 => ?_; (try unfold vl); rw [<- hn398]
     refine QaK (rc rv387.2.2 a_5 rv387.1 Qaw) fun rv399 hg400 => ?_
     have hc401 := hrc rv387.2.2 Qaf Qag a_5 rv387.1 Qaw pre pre pre pre pre pre rv399 hg400
     refine Oc [0] QhW hc401 ?_
     rintro - he402
     have hn403 : rv387.2.2.length = data.length := by omega
     try unfold vl
     try rw [hn403]
     refine Fb 8 0 fun _ => Fo 0 fun ho405 => KS ?_
     refine Oq Vm (Oq Qbb (Oq Va (KS ?_)))
     exact Kg (r3, rv399, (rv387.1 + 1), b_6, Qaw, decide (((b_6 - a_5) / 8) <= (rv387.1 - a_5)), rv387.2.1) [0] ⟨(q3 hM10 (by simp only [Qaa, h19, h32, h45, h244, h253, h263, h265, h363, h369, h384, h396, hg248, hg257, hg368, hg388, hg400, cs4])), aM1, aM1, aM1, iv1⟩
    intro h396
    have g406 := df h396
    refine KS ?_
    refine Oq Vm (Oq Vm (Oq QeI (Oq Va (KS ?_))))
    refine Oq Vm (Oq Vm (Oq Qbb (Oq Vm (Oq Vm ?_))))
    refine Fl 0 fun hn407 => ?_; (try unfold vl); rw [<- hn407]
    refine QaK (rc rv387.2.2 (rv387.1 + 1) b_6 Qaw) fun rv408 hg409 => ?_
    have hc410 := hrc rv387.2.2 Qaf Qag ((rv387.1 + 1)) b_6 Qaw pre pre pre pre pre pre rv408 hg409
    refine Oc [0] QhW hc410 ?_
    rintro - he411
    have hn412 : rv387.2.2.length = data.length := by omega
    try unfold vl
    try rw [hn412]
    refine Fb 8 0 fun _ => Fo 0 fun ho414 => KS ?_
    refine Oq Vm (Oq Va (KS ?_))
    exact Kg (r3, rv408, a_5, rv387.1, Qaw, decide (((b_6 - a_5) / 8) <= (b_6 - rv387.1)), rv387.2.1) [0] ⟨(q3 hM10 (by simp only [Qaa, h19, h32, h45, h244, h253, h263, h265, h363, h369, h384, h396, hg248, hg257, hg368, hg388, hg409, cs4])), aM1, aM1, aM1, iv1⟩
   intro h363
   have g415 := df h363
   refine Db h363 [] Vm (Ds (Ds (Ds (Ds (Ds (Ds (Ds (Ds (Ds ?_)))))))))
   refine Ds (Ds (Dv [] Vpf ?_))
   refine Dn ⟨by kernel_rfl, fun G => ?_⟩
   refine Jw2 [(0, vl Qaf Qag data), (1, vi a_5), (2, vi b_6), (3, vi Qaw), (8, vb Qa7), (9, vb QaL), (10, vi (b_6 - a_5)), (11, vi ((b_6 - 1) - (rv247.1 - a_5))), (87, vb false)] [0] [] ?_
   refine Kf (KS ?_)
   refine Oq Vm (Oq Vm (Oq Vm (Oq Vm ?_)))
   refine Fl 0 fun hn416 => ?_; (try unfold vl); rw [<- hn416]
   refine QaK (Qae rv256 a_5 b_6 ((b_6 - 1) - (rv247.1 - a_5))) fun rv417 hg418 => ?_
   have hc419 := QlR rv256 Qaf Qag a_5 b_6 (((b_6 - 1) - (rv247.1 - a_5))) pre pre pre pre rv417 hg418
   refine Oc [0] QlB hc419 ?_
   rintro - ⟨he420, he421, he422⟩
   unfold Qac at he420
   have hn423 : rv256.length = data.length := by omega
   try unfold vl
   try rw [hn423]
   refine Fb 8 0 fun _ => Fo 0 fun ho425 => ?_
   refine Oq Vm (Oq Vx (Oq Vx (Oq Va (Oq Va (KS ?_)))))
   refine Oq Vm (Oq Va (KS ?_))
   refine Oq Vm (Oq Vm (Oq Qdf (Oq Vm (Oq Vm (Oq Qdf (Oq Va (Oq Va (KS ?_))))))))
   refine Oq Vm (Oq QjE (Oq Va (KS ?_)))
   refine Oq Vm (Oq Vm (Oq Qcg (KS ?_)))
   refine Kc ?_ ?_
   ·intro h426
    have g427 := dt h426
    refine KS ?_
    refine Oq Vm (Oq Vm (Oq QeI (Oq Va (KS ?_))))
    refine Oq Vm (Oq Vm (Oq Vm (Oq Vm ?_)))
    refine Fl 0 fun hn428 => ?_; (try unfold vl); rw [<- hn428]
    refine QaK (rc rv417.2.2 a_5 rv417.1 Qaw) fun rv429 hg430 => ?_
    have hc431 := hrc rv417.2.2 Qaf Qag a_5 rv417.1 Qaw pre pre pre pre pre pre rv429 hg430
    refine Oc [0] QhW hc431 ?_
    rintro - he432
    have hn433 : rv417.2.2.length = data.length := by omega
    try unfold vl
    try rw [hn433]
    refine Fb 8 0 fun _ => Fo 0 fun ho435 => KS ?_
    refine Oq Vm (Oq Qbb (Oq Va (KS ?_)))
    exact Kg (r3, rv429, (rv417.1 + 1), b_6, Qaw, decide (((b_6 - a_5) / 8) <= (rv417.1 - a_5)), rv417.2.1) [0] ⟨(q3 hM10 (by simp only [Qaa, h19, h32, h45, h244, h253, h263, h265, h363, h426, hg248, hg257, hg418, hg430, cs4])), aM1, aM1, aM1, iv1⟩
   intro h426
   have g436 := df h426
   refine KS ?_
   refine Oq Vm (Oq Vm (Oq QeI (Oq Va (KS ?_))))
   refine Oq Vm (Oq Vm (Oq Qbb (Oq Vm (Oq Vm ?_))))
   refine Fl 0 fun hn437 => ?_; (try unfold vl); rw [<- hn437]
   refine QaK (rc rv417.2.2 (rv417.1 + 1) b_6 Qaw) fun rv438 hg439 => ?_
   have hc440 := hrc rv417.2.2 Qaf Qag ((rv417.1 + 1)) b_6 Qaw pre pre pre pre pre pre rv438 hg439
   refine Oc [0] QhW hc440 ?_
   rintro - he441
   have hn442 : rv417.2.2.length = data.length := by omega
   try unfold vl
   try rw [hn442]
   refine Fb 8 0 fun _ => Fo 0 fun ho444 => KS ?_
   refine Oq Vm (Oq Va (KS ?_))
   exact Kg (r3, rv438, a_5, rv417.1, Qaw, decide (((b_6 - a_5) / 8) <= (b_6 - rv417.1)), rv417.2.1) [0] ⟨(q3 hM10 (by simp only [Qaa, h19, h32, h45, h244, h253, h263, h265, h363, h426, hg248, hg257, hg418, hg439, cs4])), aM1, aM1, aM1, iv1⟩
  intro h263
  exact absurd h263 (by first | (simp [h45]; done) | (simp only [bne, h45]; decide) | (simp only [bne, h45, Bool.not_true, Bool.not_false]; decide) | (exfalso; omega) | (intro hq; simp only [bne, hq, Bool.not_false, Bool.not_true, reduceCtorEq] at h45))
 intro h253
 have g445 := ne_of_beq_false h253
 refine KS ?_
 refine Oq Vm (Oq Vm ?_)
 refine Js 62 ?_ ?_
 ·intro h446
  refine Oq Vm (Oq Vpt (Oq Vm ?_))
  refine Js 65 ?_ ?_
  ·intro h448
   refine Oq Vm (Oq QbB (Oq Vpt (KS ?_)))
   refine Kc ?_ ?_
   ·intro h450
    have g451 := eq_of_beq h450
    refine KS ?_
    refine Oq Vm (Oq Vm (Oq Vm ?_))
    refine Fl 0 fun hn452 => ?_; (try unfold vl); rw [<- hn452]
    refine QaK (Qal Qan a_5 b_6) fun rv453 hg454 => ?_
    have hc455 := Qt3 Qan Qaf Qag a_5 b_6 pre pre pre rv453 hg454
    refine Oc [0] Qur hc455 ?_
    rintro - he456
    have hn457 : Qan.length = data.length := by omega
    try unfold vl
    try rw [hn457]
    refine Fb 8 0 fun _ => Fo 0 fun ho459 => KS ?_
    refine Kc ?_ ?_
    ·intro h460
     refine Fl 0 fun hn462 => ?_
     have hR463 := q2 hM10 (.ret rv453.2) (by simp only [Qaa, h19, h32, h45, h244, h253, h446, h448, h450, h460, hg248, hg454, cs4])
     have hq := q4 hrr rv453.2 (by simp only [Qbx, h19, h32, h45, h244, h253, h446, h448, h450, h460, hg248, hg454, hR463, cs4]); subst hq
     exact Kr () rfl .nil [0] en
    intro h460
    refine KS ?_
    refine Qat [0, 1, 3, 7, 7, 23, 63, 127, 7, 7, 775, 1799, 4095, 8191, 16383] Qcz ?_
    refine Dv [] Vm (Dv [] Qih ?_)
    refine Qbl (decide (0 < a_5)) ?_ ?_
    ·intro h465
     have g466 := dt h465
     refine Db h465 [] Vm (Dv [] Vm (Dv [] Vm (Dv [] Qdf (Dv [0] (Vi Qbo 0) ?_))))
     have hb467 := ok1 (i := ((a_5 - 1) : Int).toNat) ho459 rng
     refine Dv [0] (Qc7 sh3 0) (Dv [] Vm (Dv [] Vm (Dv [0] (Vi Qbo 0) ?_)))
     have hb468 := ok1 (i := rv247.1.toNat) ho459 rng
     refine Dv [0] (Qc7 sh3 0) ?_
     refine QaK (Qaq (rv453.2.getD ((a_5 - 1) : Int).toNat 0) (rv453.2.getD rv247.1.toNat 0)) fun rv469 hg470 => ?_
     refine Dx [] [] [0] (fun G => vb rv469) [fun G => SP.fact (True)] (fun G => xC [] Qjl (Qjk ((rv453.2.getD ((a_5 - 1) : Int).toNat 0)) ((rv453.2.getD rv247.1.toNat 0)) pre pre rv469 hg470)) (Dv [] QeT (Dv [] Vpt ?_))
     refine Dn ⟨by kernel_rfl, fun G => ?_⟩
     refine Jw2 [(0, vl Qaf Qag data), (1, vi a_5), (2, vi b_6), (3, vi Qaw), (8, vb Qa7), (9, vb QaL), (10, vi (b_6 - a_5)), (11, vi rv247.1), (87, vb (!rv469))] [0] [SP.fact (True)] ?_
     refine Jk [0] ?_
     refine Kc ?_ ?_
     ·intro h471
      have h473 := not_true h471
      refine KS ?_
      refine Oq Vm (Oq Vm (Oq Vm (Oq Vm ?_)))
      refine Fl 0 fun hn475 => ?_; (try unfold vl); rw [<- hn475]
      refine QaK (Qao rv453.2 a_5 b_6 rv247.1) fun rv476 hg477 => ?_
      have hc478 := Qpt rv453.2 Qaf Qag a_5 b_6 rv247.1 pre pre pre pre rv476 hg477
      refine Oc [0] Qo2 hc478 ?_
      rintro - ⟨he479, he480, he481⟩
      unfold Qac at he479
      have hn482 : rv453.2.length = data.length := by omega
      try unfold vl
      try rw [hn482]
      refine Fb 8 0 fun _ => Fo 0 fun ho484 => ?_
      refine Oq Va (KS ?_)
      refine Oq Vm (Oq Va (KS ?_))
      refine Ke ?_
      exact Kg (r3, rv476.2, rv476.1, b_6, Qaw, Qa7, QaL) [0] ⟨(q3 hM10 (by simp only [Qaa, h19, h32, h45, h244, h253, h446, h448, h450, h460, h465, h471, h473, hg248, hg454, hg470, hg477, cs4])), aM1, aM1, aM1, iv1⟩
     intro h471
     have h486 := not_false h471
     refine KS ?_
     refine Oq Vm (Oq Vm (Oq Vm (Oq Vm ?_)))
     refine Fl 0 fun hn488 => ?_; (try unfold vl); rw [<- hn488]
     refine QaK (Qae rv453.2 a_5 b_6 rv247.1) fun rv489 hg490 => ?_
     have hc491 := QlR rv453.2 Qaf Qag a_5 b_6 rv247.1 pre pre pre pre rv489 hg490
     refine Oc [0] QlB hc491 ?_
     rintro - ⟨he492, he493, he494⟩
     unfold Qac at he492
     have hn495 : rv453.2.length = data.length := by omega
     try unfold vl
     try rw [hn495]
     refine Fb 8 0 fun _ => Fo 0 fun ho497 => ?_
     refine Oq Vm (Oq Vx (Oq Vx (Oq Va (Oq Va (KS ?_)))))
     refine Oq Vm (Oq Va (KS ?_))
     refine Oq Vm (Oq Vm (Oq Qdf (Oq Vm (Oq Vm (Oq Qdf (Oq Va (Oq Va (KS ?_))))))))
     refine Oq Vm (Oq QjE (Oq Va (KS ?_)))
     refine Oq Vm (Oq Vm (Oq Qcg (KS ?_)))
     refine Kc ?_ ?_
     ·intro h498
      have g499 := dt h498
      refine KS ?_
      refine Oq Vm (Oq Vm (Oq QeI (Oq Va (KS ?_))))
      refine Oq Vm (Oq Vm (Oq Vm (Oq Vm ?_)))
      refine Fl 0 fun hn500 => ?_; (try unfold vl); rw [<- hn500]
      refine QaK (rc rv489.2.2 a_5 rv489.1 Qaw) fun rv501 hg502 => ?_
      have hc503 := hrc rv489.2.2 Qaf Qag a_5 rv489.1 Qaw pre pre pre pre pre pre rv501 hg502
      refine Oc [0] QhW hc503 ?_
      rintro - he504
      have hn505 : rv489.2.2.length = data.length := by omega
      try unfold vl
      try rw [hn505]
      refine Fb 8 0 fun _ => Fo 0 fun ho507 => KS ?_
      refine Oq Vm (Oq Qbb (Oq Va (KS ?_)))
      exact Kg (r3, rv501, (rv489.1 + 1), b_6, Qaw, decide (((b_6 - a_5) / 8) <= (rv489.1 - a_5)), rv489.2.1) [0] ⟨(q3 hM10 (by simp only [Qaa, h19, h32, h45, h244, h253, h446, h448, h450, h460, h465, h471, h486, h498, hg248, hg454, hg470, hg490, hg502, cs4])), aM1, aM1, aM1, iv1⟩
     intro h498
     have g508 := df h498
     refine KS ?_
     refine Oq Vm (Oq Vm (Oq QeI (Oq Va (KS ?_))))
     refine Oq Vm (Oq Vm (Oq Qbb (Oq Vm (Oq Vm ?_))))
     refine Fl 0 fun hn509 => ?_; (try unfold vl); rw [<- hn509]
     refine QaK (rc rv489.2.2 (rv489.1 + 1) b_6 Qaw) fun rv510 hg511 => ?_
     have hc512 := hrc rv489.2.2 Qaf Qag ((rv489.1 + 1)) b_6 Qaw pre pre pre pre pre pre rv510 hg511
     refine Oc [0] QhW hc512 ?_
     rintro - he513
     have hn514 : rv489.2.2.length = data.length := by omega
     try unfold vl
     try rw [hn514]
     refine Fb 8 0 fun _ => Fo 0 fun ho516 => KS ?_
     refine Oq Vm (Oq Va (KS ?_))
     exact Kg (r3, rv510, a_5, rv489.1, Qaw, decide (((b_6 - a_5) / 8) <= (b_6 - rv489.1)), rv489.2.1) [0] ⟨(q3 hM10 (by simp only [Qaa, h19, h32, h45, h244, h253, h446, h448, h450, h460, h465, h471, h486, h498, hg248, hg454, hg470, hg490, hg511, cs4])), aM1, aM1, aM1, iv1⟩
    intro h465
    have g517 := df h465
    refine Db h465 [] Vm (Ds (Ds (Ds (Ds (Ds (Ds (Ds (Ds (Ds ?_)))))))))
    refine Ds (Ds (Dv [] Vpf ?_))
    refine Dn ⟨by kernel_rfl, fun G => ?_⟩
    refine Jw2 [(0, vl Qaf Qag data), (1, vi a_5), (2, vi b_6), (3, vi Qaw), (8, vb Qa7), (9, vb QaL), (10, vi (b_6 - a_5)), (11, vi rv247.1), (87, vb false)] [0] [] ?_
    refine Kf (KS ?_)
    refine Oq Vm (Oq Vm (Oq Vm (Oq Vm ?_)))
    refine Fl 0 fun hn518 => ?_; (try unfold vl); rw [<- hn518]
    refine QaK (Qae rv453.2 a_5 b_6 rv247.1) fun rv519 hg520 => ?_
    have hc521 := QlR rv453.2 Qaf Qag a_5 b_6 rv247.1 pre pre pre pre rv519 hg520
    refine Oc [0] QlB hc521 ?_
    rintro - ⟨he522, he523, he524⟩
    unfold Qac at he522
    have hn525 : rv453.2.length = data.length := by omega
    try unfold vl
    try rw [hn525]
    refine Fb 8 0 fun _ => Fo 0 fun ho527 => ?_
    refine Oq Vm (Oq Vx (Oq Vx (Oq Va (Oq Va (KS ?_)))))
    refine Oq Vm (Oq Va (KS ?_))
    refine Oq Vm (Oq Vm (Oq Qdf (Oq Vm (Oq Vm (Oq Qdf (Oq Va (Oq Va (KS ?_))))))))
    refine Oq Vm (Oq QjE (Oq Va (KS ?_)))
    refine Oq Vm (Oq Vm (Oq Qcg (KS ?_)))
    refine Kc ?_ ?_
    ·intro h528
     have g529 := dt h528
     refine KS ?_
     refine Oq Vm (Oq Vm (Oq QeI (Oq Va (KS ?_))))
     refine Oq Vm (Oq Vm (Oq Vm (Oq Vm ?_)))
     refine Fl 0 fun hn530 => ?_; (try unfold vl); rw [<- hn530]
     refine QaK (rc rv519.2.2 a_5 rv519.1 Qaw) fun rv531 hg532 => ?_
     have hc533 := hrc rv519.2.2 Qaf Qag a_5 rv519.1 Qaw pre pre pre pre pre pre rv531 hg532
     refine Oc [0] QhW hc533 ?_
     rintro - he534
     have hn535 : rv519.2.2.length = data.length := by omega
     try unfold vl
     try rw [hn535]
     refine Fb 8 0 fun _ => Fo 0 fun ho537 => KS ?_
     refine Oq Vm (Oq Qbb (Oq Va (KS ?_)))
     exact Kg (r3, rv531, (rv519.1 + 1), b_6, Qaw, decide (((b_6 - a_5) / 8) <= (rv519.1 - a_5)), rv519.2.1) [0] ⟨(q3 hM10 (by simp only [Qaa, h19, h32, h45, h244, h253, h446, h448, h450, h460, h465, h528, hg248, hg454, hg520, hg532, cs4])), aM1, aM1, aM1, iv1⟩
    intro h528
    have g538 := df h528
    refine KS ?_
    refine Oq Vm (Oq Vm (Oq QeI (Oq Va (KS ?_))))
    refine Oq Vm (Oq Vm (Oq Qbb (Oq Vm (Oq Vm ?_))))
    refine Fl 0 fun hn539 => ?_; (try unfold vl); rw [<- hn539]
    refine QaK (rc rv519.2.2 (rv519.1 + 1) b_6 Qaw) fun rv540 hg541 => ?_
    have hc542 := hrc rv519.2.2 Qaf Qag ((rv519.1 + 1)) b_6 Qaw pre pre pre pre pre pre rv540 hg541
    refine Oc [0] QhW hc542 ?_
    rintro - he543
    have hn544 : rv519.2.2.length = data.length := by omega
    try unfold vl
    try rw [hn544]
    refine Fb 8 0 fun _ => Fo 0 fun ho546 => KS ?_
    refine Oq Vm (Oq Va (KS ?_))
    exact Kg (r3, rv540, a_5, rv519.1, Qaw, decide (((b_6 - a_5) / 8) <= (b_6 - rv519.1)), rv519.2.1) [0] ⟨(q3 hM10 (by simp only [Qaa, h19, h32, h45, h244, h253, h446, h448, h450, h460, h465, h528, hg248, hg454, hg520, hg541, cs4])), aM1, aM1, aM1, iv1⟩
   intro h450
   have g547 := ne_of_beq_false h450
   refine KS ?_
   refine Qat [0, 1, 3, 7, 7, 23, 63, 127, 7, 7, 775, 1799, 4095, 8191, 16383] Qcz ?_
   refine Dv [] Vm (Dv [] Qih ?_)
   refine Qbl (decide (0 < a_5)) ?_ ?_
   ·intro h548
    have g549 := dt h548
    refine Db h548 [] Vm (Dv [] Vm (Dv [] Vm (Dv [] Qdf (Dv [0] (Vi Qbo 0) ?_))))
    have hb550 := ok1 (i := ((a_5 - 1) : Int).toNat) ho17 rng
    refine Dv [0] (Qc7 sh3 0) (Dv [] Vm (Dv [] Vm (Dv [0] (Vi Qbo 0) ?_)))
    have hb551 := ok1 (i := rv247.1.toNat) ho17 rng
    refine Dv [0] (Qc7 sh3 0) ?_
    refine QaK (Qaq (Qan.getD ((a_5 - 1) : Int).toNat 0) (Qan.getD rv247.1.toNat 0)) fun rv552 hg553 => ?_
    refine Dx [] [] [0] (fun G => vb rv552) [fun G => SP.fact (True)] (fun G => xC [] Qjl (Qjk ((Qan.getD ((a_5 - 1) : Int).toNat 0)) ((Qan.getD rv247.1.toNat 0)) pre pre rv552 hg553)) (Dv [] QeT (Dv [] Vpt ?_))
    refine Dn ⟨by kernel_rfl, fun G => ?_⟩
    refine Jw2 [(0, vl Qaf Qag data), (1, vi a_5), (2, vi b_6), (3, vi Qaw), (8, vb Qa7), (9, vb QaL), (10, vi (b_6 - a_5)), (11, vi rv247.1), (87, vb (!rv552))] [0] [SP.fact (True)] ?_
    refine Jk [0] ?_
    refine Kc ?_ ?_
    ·intro h554
     have h556 := not_true h554
     refine KS ?_
     refine Oq Vm (Oq Vm (Oq Vm (Oq Vm ?_)))
     refine Fl 0 fun hn558 => ?_; (try unfold vl); rw [<- hn558]
     refine QaK (Qao Qan a_5 b_6 rv247.1) fun rv559 hg560 => ?_
     have hc561 := Qpt Qan Qaf Qag a_5 b_6 rv247.1 pre pre pre pre rv559 hg560
     refine Oc [0] Qo2 hc561 ?_
     rintro - ⟨he562, he563, he564⟩
     unfold Qac at he562
     have hn565 : Qan.length = data.length := by omega
     try unfold vl
     try rw [hn565]
     refine Fb 8 0 fun _ => Fo 0 fun ho567 => ?_
     refine Oq Va (KS ?_)
     refine Oq Vm (Oq Va (KS ?_))
     refine Ke ?_
     exact Kg (r3, rv559.2, rv559.1, b_6, Qaw, Qa7, QaL) [0] ⟨(q3 hM10 (by simp only [Qaa, h19, h32, h45, h244, h253, h446, h448, h450, h548, h554, h556, hg248, hg553, hg560, cs4])), aM1, aM1, aM1, iv1⟩
    intro h554
    have h569 := not_false h554
    refine KS ?_
    refine Oq Vm (Oq Vm (Oq Vm (Oq Vm ?_)))
    refine Fl 0 fun hn571 => ?_; (try unfold vl); rw [<- hn571]
    refine QaK (Qae Qan a_5 b_6 rv247.1) fun rv572 hg573 => ?_
    have hc574 := QlR Qan Qaf Qag a_5 b_6 rv247.1 pre pre pre pre rv572 hg573
    refine Oc [0] QlB hc574 ?_
    rintro - ⟨he575, he576, he577⟩
    unfold Qac at he575
    have hn578 : Qan.length = data.length := by omega
    try unfold vl
    try rw [hn578]
    refine Fb 8 0 fun _ => Fo 0 fun ho580 => ?_
    refine Oq Vm (Oq Vx (Oq Vx (Oq Va (Oq Va (KS ?_)))))
    refine Oq Vm (Oq Va (KS ?_))
    refine Oq Vm (Oq Vm (Oq Qdf (Oq Vm (Oq Vm (Oq Qdf (Oq Va (Oq Va (KS ?_))))))))
    refine Oq Vm (Oq QjE (Oq Va (KS ?_)))
    refine Oq Vm (Oq Vm (Oq Qcg (KS ?_)))
    refine Kc ?_ ?_
    ·intro h581
     have g582 := dt h581
     refine KS ?_
     refine Oq Vm (Oq Vm (Oq QeI (Oq Va (KS ?_))))
     refine Oq Vm (Oq Vm (Oq Vm (Oq Vm ?_)))
     refine Fl 0 fun hn583 => ?_; (try unfold vl); rw [<- hn583]
     refine QaK (rc rv572.2.2 a_5 rv572.1 Qaw) fun rv584 hg585 => ?_
     have hc586 := hrc rv572.2.2 Qaf Qag a_5 rv572.1 Qaw pre pre pre pre pre pre rv584 hg585
     refine Oc [0] QhW hc586 ?_
     rintro - he587
     have hn588 : rv572.2.2.length = data.length := by omega
     try unfold vl
     try rw [hn588]
     refine Fb 8 0 fun _ => Fo 0 fun ho590 => KS ?_
     refine Oq Vm (Oq Qbb (Oq Va (KS ?_)))
     exact Kg (r3, rv584, (rv572.1 + 1), b_6, Qaw, decide (((b_6 - a_5) / 8) <= (rv572.1 - a_5)), rv572.2.1) [0] ⟨(q3 hM10 (by simp only [Qaa, h19, h32, h45, h244, h253, h446, h448, h450, h548, h554, h569, h581, hg248, hg553, hg573, hg585, cs4])), aM1, aM1, aM1, iv1⟩
    intro h581
    have g591 := df h581
    refine KS ?_
    refine Oq Vm (Oq Vm (Oq QeI (Oq Va (KS ?_))))
    refine Oq Vm (Oq Vm (Oq Qbb (Oq Vm (Oq Vm ?_))))
    refine Fl 0 fun hn592 => ?_; (try unfold vl); rw [<- hn592]
    refine QaK (rc rv572.2.2 (rv572.1 + 1) b_6 Qaw) fun rv593 hg594 => ?_
    have hc595 := hrc rv572.2.2 Qaf Qag ((rv572.1 + 1)) b_6 Qaw pre pre pre pre pre pre rv593 hg594
    refine Oc [0] QhW hc595 ?_
    rintro - he596
    have hn597 : rv572.2.2.length = data.length := by omega
    try unfold vl
    try rw [hn597]
    refine Fb 8 0 fun _ => Fo 0 fun ho599 => KS ?_
    refine Oq Vm (Oq Va (KS ?_))
    exact Kg (r3, rv593, a_5, rv572.1, Qaw, decide (((b_6 - a_5) / 8) <= (b_6 - rv572.1)), rv572.2.1) [0] ⟨(q3 hM10 (by simp only [Qaa, h19, h32, h45, h244, h253, h446, h448, h450, h548, h554, h569, h581, hg248, hg553, hg573, hg594, cs4])), aM1, aM1, aM1, iv1⟩
   intro h548
   have g600 := df h548
   refine Db h548 [] Vm (Ds (Ds (Ds (Ds (Ds (Ds (Ds (Ds (Ds ?_)))))))))
   refine Ds (Ds (Dv [] Vpf ?_))
   refine Dn ⟨by kernel_rfl, fun G => ?_⟩
   refine Jw2 [(0, vl Qaf Qag data), (1, vi a_5), (2, vi b_6), (3, vi Qaw), (8, vb Qa7), (9, vb QaL), (10, vi (b_6 - a_5)), (11, vi rv247.1), (87, vb false)] [0] [] ?_
   refine Kf (KS ?_)
   refine Oq Vm (Oq Vm (Oq Vm (Oq Vm ?_)))
   refine Fl 0 fun hn601 => ?_; (try unfold vl); rw [<- hn601]
   refine QaK (Qae Qan a_5 b_6 rv247.1) fun rv602 hg603 => ?_
   have hc604 := QlR Qan Qaf Qag a_5 b_6 rv247.1 pre pre pre pre rv602 hg603
   refine Oc [0] QlB hc604 ?_
   rintro - ⟨he605, he606, he607⟩
   unfold Qac at he605
   have hn608 : Qan.length = data.length := by omega
   try unfold vl
   try rw [hn608]
   refine Fb 8 0 fun _ => Fo 0 fun ho610 => ?_
   refine Oq Vm (Oq Vx (Oq Vx (Oq Va (Oq Va (KS ?_)))))
   refine Oq Vm (Oq Va (KS ?_))
   refine Oq Vm (Oq Vm (Oq Qdf (Oq Vm (Oq Vm (Oq Qdf (Oq Va (Oq Va (KS ?_))))))))
   refine Oq Vm (Oq QjE (Oq Va (KS ?_)))
   refine Oq Vm (Oq Vm (Oq Qcg (KS ?_)))
   refine Kc ?_ ?_
   ·intro h611
    have g612 := dt h611
    refine KS ?_
    refine Oq Vm (Oq Vm (Oq QeI (Oq Va (KS ?_))))
    refine Oq Vm (Oq Vm (Oq Vm (Oq Vm ?_)))
    refine Fl 0 fun hn613 => ?_; (try unfold vl); rw [<- hn613]
    refine QaK (rc rv602.2.2 a_5 rv602.1 Qaw) fun rv614 hg615 => ?_
    have hc616 := hrc rv602.2.2 Qaf Qag a_5 rv602.1 Qaw pre pre pre pre pre pre rv614 hg615
    refine Oc [0] QhW hc616 ?_
    rintro - he617
    have hn618 : rv602.2.2.length = data.length := by omega
    try unfold vl
    try rw [hn618]
    refine Fb 8 0 fun _ => Fo 0 fun ho620 => KS ?_
    refine Oq Vm (Oq Qbb (Oq Va (KS ?_)))
    exact Kg (r3, rv614, (rv602.1 + 1), b_6, Qaw, decide (((b_6 - a_5) / 8) <= (rv602.1 - a_5)), rv602.2.1) [0] ⟨(q3 hM10 (by simp only [Qaa, h19, h32, h45, h244, h253, h446, h448, h450, h548, h611, hg248, hg603, hg615, cs4])), aM1, aM1, aM1, iv1⟩
   intro h611
   have g621 := df h611
   refine KS ?_
   refine Oq Vm (Oq Vm (Oq QeI (Oq Va (KS ?_))))
   refine Oq Vm (Oq Vm (Oq Qbb (Oq Vm (Oq Vm ?_))))
   refine Fl 0 fun hn622 => ?_; (try unfold vl); rw [<- hn622]
   refine QaK (rc rv602.2.2 (rv602.1 + 1) b_6 Qaw) fun rv623 hg624 => ?_
   have hc625 := hrc rv602.2.2 Qaf Qag ((rv602.1 + 1)) b_6 Qaw pre pre pre pre pre pre rv623 hg624
   refine Oc [0] QhW hc625 ?_
   rintro - he626
   have hn627 : rv602.2.2.length = data.length := by omega
   try unfold vl
   try rw [hn627]
   refine Fb 8 0 fun _ => Fo 0 fun ho629 => KS ?_
   refine Oq Vm (Oq Va (KS ?_))
   exact Kg (r3, rv623, a_5, rv602.1, Qaw, decide (((b_6 - a_5) / 8) <= (b_6 - rv602.1)), rv602.2.1) [0] ⟨(q3 hM10 (by simp only [Qaa, h19, h32, h45, h244, h253, h446, h448, h450, h548, h611, hg248, hg603, hg624, cs4])), aM1, aM1, aM1, iv1⟩
  intro h448
  refine Osk (Osk (Oq Vpf (KS ?_)))
  refine Kf (KS ?_)
  refine Qat [0, 1, 3, 7, 7, 23, 63, 127, 7, 7, 775, 1799, 4095, 8191, 16383] Qcz ?_
  refine Dv [] Vm (Dv [] Qih ?_)
  refine Qbl (decide (0 < a_5)) ?_ ?_
  ·intro h631
   have g632 := dt h631
   refine Db h631 [] Vm (Dv [] Vm (Dv [] Vm (Dv [] Qdf (Dv [0] (Vi Qbo 0) ?_))))
   have hb633 := ok1 (i := ((a_5 - 1) : Int).toNat) ho17 rng
   refine Dv [0] (Qc7 sh3 0) (Dv [] Vm (Dv [] Vm (Dv [0] (Vi Qbo 0) ?_)))
   have hb634 := ok1 (i := rv247.1.toNat) ho17 rng
   refine Dv [0] (Qc7 sh3 0) ?_
   refine QaK (Qaq (Qan.getD ((a_5 - 1) : Int).toNat 0) (Qan.getD rv247.1.toNat 0)) fun rv635 hg636 => ?_
   refine Dx [] [] [0] (fun G => vb rv635) [fun G => SP.fact (True)] (fun G => xC [] Qjl (Qjk ((Qan.getD ((a_5 - 1) : Int).toNat 0)) ((Qan.getD rv247.1.toNat 0)) pre pre rv635 hg636)) (Dv [] QeT (Dv [] Vpt ?_))
   refine Dn ⟨by kernel_rfl, fun G => ?_⟩
   refine Jw2 [(0, vl Qaf Qag data), (1, vi a_5), (2, vi b_6), (3, vi Qaw), (8, vb Qa7), (9, vb QaL), (10, vi (b_6 - a_5)), (11, vi rv247.1), (87, vb (!rv635))] [0] [SP.fact (True)] ?_
   refine Jk [0] ?_
   refine Kc ?_ ?_
   ·intro h637
    have h639 := not_true h637
    refine KS ?_
    refine Oq Vm (Oq Vm (Oq Vm (Oq Vm ?_)))
    refine Fl 0 fun hn641 => ?_; (try unfold vl); rw [<- hn641]
    refine QaK (Qao Qan a_5 b_6 rv247.1) fun rv642 hg643 => ?_
    have hc644 := Qpt Qan Qaf Qag a_5 b_6 rv247.1 pre pre pre pre rv642 hg643
    refine Oc [0] Qo2 hc644 ?_
    rintro - ⟨he645, he646, he647⟩
    unfold Qac at he645
    have hn648 : Qan.length = data.length := by omega
    try unfold vl
    try rw [hn648]
    refine Fb 8 0 fun _ => Fo 0 fun ho650 => ?_
    refine Oq Va (KS ?_)
    refine Oq Vm (Oq Va (KS ?_))
    refine Ke ?_
    exact Kg (r3, rv642.2, rv642.1, b_6, Qaw, Qa7, QaL) [0] ⟨(q3 hM10 (by simp only [Qaa, h19, h32, h45, h244, h253, h446, h448, h631, h637, h639, hg248, hg636, hg643, cs4])), aM1, aM1, aM1, iv1⟩
   intro h637
   have h652 := not_false h637
   refine KS ?_
   refine Oq Vm (Oq Vm (Oq Vm (Oq Vm ?_)))
   refine Fl 0 fun hn654 => ?_; (try unfold vl); rw [<- hn654]
   refine QaK (Qae Qan a_5 b_6 rv247.1) fun rv655 hg656 => ?_
   have hc657 := QlR Qan Qaf Qag a_5 b_6 rv247.1 pre pre pre pre rv655 hg656
   refine Oc [0] QlB hc657 ?_
   rintro - ⟨he658, he659, he660⟩
   unfold Qac at he658
   have hn661 : Qan.length = data.length := by omega
   try unfold vl
   try rw [hn661]
   refine Fb 8 0 fun _ => Fo 0 fun ho663 => ?_
   refine Oq Vm (Oq Vx (Oq Vx (Oq Va (Oq Va (KS ?_)))))
   refine Oq Vm (Oq Va (KS ?_))
   refine Oq Vm (Oq Vm (Oq Qdf (Oq Vm (Oq Vm (Oq Qdf (Oq Va (Oq Va (KS ?_))))))))
   refine Oq Vm (Oq QjE (Oq Va (KS ?_)))
   refine Oq Vm (Oq Vm (Oq Qcg (KS ?_)))
   refine Kc ?_ ?_
   ·intro h664
    have g665 := dt h664
    refine KS ?_
    refine Oq Vm (Oq Vm (Oq QeI (Oq Va (KS ?_))))
    refine Oq Vm (Oq Vm (Oq Vm (Oq Vm ?_)))
    refine Fl 0 fun hn666 => ?_; (try unfold vl); rw [<- hn666]
    refine QaK (rc rv655.2.2 a_5 rv655.1 Qaw) fun rv667 hg668 => ?_
    have hc669 := hrc rv655.2.2 Qaf Qag a_5 rv655.1 Qaw pre pre pre pre pre pre rv667 hg668
    refine Oc [0] QhW hc669 ?_
    rintro - he670
    have hn671 : rv655.2.2.length = data.length := by omega
    try unfold vl
    try rw [hn671]
    refine Fb 8 0 fun _ => Fo 0 fun ho673 => KS ?_
    refine Oq Vm (Oq Qbb (Oq Va (KS ?_)))
    exact Kg (r3, rv667, (rv655.1 + 1), b_6, Qaw, decide (((b_6 - a_5) / 8) <= (rv655.1 - a_5)), rv655.2.1) [0] ⟨(q3 hM10 (by simp only [Qaa, h19, h32, h45, h244, h253, h446, h448, h631, h637, h652, h664, hg248, hg636, hg656, hg668, cs4])), aM1, aM1, aM1, iv1⟩
   intro h664
   have g674 := df h664
   refine KS ?_
   refine Oq Vm (Oq Vm (Oq QeI (Oq Va (KS ?_))))
   refine Oq Vm (Oq Vm (Oq Qbb (Oq Vm (Oq Vm ?_))))
   refine Fl 0 fun hn675 => ?_; (try unfold vl); rw [<- hn675]
   refine QaK (rc rv655.2.2 (rv655.1 + 1) b_6 Qaw) fun rv676 hg677 => ?_
   have hc678 := hrc rv655.2.2 Qaf Qag ((rv655.1 + 1)) b_6 Qaw pre pre pre pre pre pre rv676 hg677
   refine Oc [0] QhW hc678 ?_
   rintro - he679
   have hn680 : rv655.2.2.length = data.length := by omega
   try unfold vl
   try rw [hn680]
   refine Fb 8 0 fun _ => Fo 0 fun ho682 => KS ?_
   refine Oq Vm (Oq Va (KS ?_))
   exact Kg (r3, rv676, a_5, rv655.1, Qaw, decide (((b_6 - a_5) / 8) <= (b_6 - rv655.1)), rv655.2.1) [0] ⟨(q3 hM10 (by simp only [Qaa, h19, h32, h45, h244, h253, h446, h448, h631, h637, h652, h664, hg248, hg636, hg656, hg677, cs4])), aM1, aM1, aM1, iv1⟩
  intro h631
  have g683 := df h631
  refine Db h631 [] Vm (Ds (Ds (Ds (Ds (Ds (Ds (Ds (Ds (Ds ?_)))))))))
  refine Ds (Ds (Dv [] Vpf ?_))
  refine Dn ⟨by kernel_rfl, fun G => ?_⟩
  refine Jw2 [(0, vl Qaf Qag data), (1, vi a_5), (2, vi b_6), (3, vi Qaw), (8, vb Qa7), (9, vb QaL), (10, vi (b_6 - a_5)), (11, vi rv247.1), (87, vb false)] [0] [] ?_
  refine Kf (KS ?_)
  refine Oq Vm (Oq Vm (Oq Vm (Oq Vm ?_)))
  refine Fl 0 fun hn684 => ?_; (try unfold vl); rw [<- hn684]
  refine QaK (Qae Qan a_5 b_6 rv247.1) fun rv685 hg686 => ?_
  have hc687 := QlR Qan Qaf Qag a_5 b_6 rv247.1 pre pre pre pre rv685 hg686
  refine Oc [0] QlB hc687 ?_
  rintro - ⟨he688, he689, he690⟩
  unfold Qac at he688
  have hn691 : Qan.length = data.length := by omega
  try unfold vl
  try rw [hn691]
  refine Fb 8 0 fun _ => Fo 0 fun ho693 => ?_
  refine Oq Vm (Oq Vx (Oq Vx (Oq Va (Oq Va (KS ?_)))))
  refine Oq Vm (Oq Va (KS ?_))
  refine Oq Vm (Oq Vm (Oq Qdf (Oq Vm (Oq Vm (Oq Qdf (Oq Va (Oq Va (KS ?_))))))))
  refine Oq Vm (Oq QjE (Oq Va (KS ?_)))
  refine Oq Vm (Oq Vm (Oq Qcg (KS ?_)))
  refine Kc ?_ ?_
  ·intro h694
   have g695 := dt h694
   refine KS ?_
   refine Oq Vm (Oq Vm (Oq QeI (Oq Va (KS ?_))))
   refine Oq Vm (Oq Vm (Oq Vm (Oq Vm ?_)))
   refine Fl 0 fun hn696 => ?_; (try unfold vl); rw [<- hn696]
   refine QaK (rc rv685.2.2 a_5 rv685.1 Qaw) fun rv697 hg698 => ?_
   have hc699 := hrc rv685.2.2 Qaf Qag a_5 rv685.1 Qaw pre pre pre pre pre pre rv697 hg698
   refine Oc [0] QhW hc699 ?_
   rintro - he700
   have hn701 : rv685.2.2.length = data.length := by omega
   try unfold vl
   try rw [hn701]
   refine Fb 8 0 fun _ => Fo 0 fun ho703 => KS ?_
   refine Oq Vm (Oq Qbb (Oq Va (KS ?_)))
   exact Kg (r3, rv697, (rv685.1 + 1), b_6, Qaw, decide (((b_6 - a_5) / 8) <= (rv685.1 - a_5)), rv685.2.1) [0] ⟨(q3 hM10 (by simp only [Qaa, h19, h32, h45, h244, h253, h446, h448, h631, h694, hg248, hg686, hg698, cs4])), aM1, aM1, aM1, iv1⟩
  intro h694
  have g704 := df h694
  refine KS ?_
  refine Oq Vm (Oq Vm (Oq QeI (Oq Va (KS ?_))))
  refine Oq Vm (Oq Vm (Oq Qbb (Oq Vm (Oq Vm ?_))))
  refine Fl 0 fun hn705 => ?_; (try unfold vl); rw [<- hn705]
  refine QaK (rc rv685.2.2 (rv685.1 + 1) b_6 Qaw) fun rv706 hg707 => ?_
  have hc708 := hrc rv685.2.2 Qaf Qag ((rv685.1 + 1)) b_6 Qaw pre pre pre pre pre pre rv706 hg707
  refine Oc [0] QhW hc708 ?_
  rintro - he709
  have hn710 : rv685.2.2.length = data.length := by omega
  try unfold vl
  try rw [hn710]
  refine Fb 8 0 fun _ => Fo 0 fun ho712 => KS ?_
  refine Oq Vm (Oq Va (KS ?_))
  exact Kg (r3, rv706, a_5, rv685.1, Qaw, decide (((b_6 - a_5) / 8) <= (b_6 - rv685.1)), rv685.2.1) [0] ⟨(q3 hM10 (by simp only [Qaa, h19, h32, h45, h244, h253, h446, h448, h631, h694, hg248, hg686, hg707, cs4])), aM1, aM1, aM1, iv1⟩
 intro h446
 exact absurd h446 (by first | (simp [h45]; done) | (simp only [bne, h45]; decide) | (simp only [bne, h45, Bool.not_true, Bool.not_false]; decide) | (exfalso; omega) | (intro hq; simp only [bne, hq, Bool.not_false, Bool.not_true, reduceCtorEq] at h45))
theorem Quv : ∀ (fu : Nat) (data : List Int) (Qaf : Option Addr) (Qag : Nat) (a : Int) (b : Int) (limit : Int) (Qh4 : Qac a) (Qii : Qac b) (Qhe : Qac limit) (ha0 : 0 <= a /\ a <= b /\ b <= (data.length : Int) /\ data.length <= 65535) (hl0 : 0 <= limit /\ limit <= 1000) (hfu : (b - a).toNat < fu) (rr : List Int) (hrr : Qa0 fu data a b limit = rr), FT Tryz.prog 60 #[vl Qaf Qag data, vi a, vi b, vi limit] [O Qaf Qag data] (fun g : Unit => (rr.length = data.length)) (fun g => .tuple #[]) (fun g => [os (vl Qaf Qag data) rr])
 | 0, data, Qaf, Qag, a, b, limit, Qh4, Qii, Qhe, ha0, hl0, hfu, _, _ => absurd hfu (Nat.not_lt_zero _)
 | fu + 1, data, Qaf, Qag, a, b, limit, Qh4, Qii, Qhe, ha0, hl0, hfu, rr, hrr => QtJ (Qa0 fu) _ data Qaf Qag a b limit rfl (fun d a b l h1 h2 h3 h4 h5 => QqQ fu d a b l (Nat.lt_of_lt_of_le h5 (Nat.le_of_lt_succ hfu)) h1 h2 h3 h4) (fun data1 dataa01 datak01 a1 b1 limit1 QtS QtT Qnn ha01 hl01 hm rr1 hrr1 => Quv fu data1 dataa01 datak01 a1 b1 limit1 QtS QtT Qnn ha01 hl01 (Nat.lt_of_lt_of_le hm (Nat.le_of_lt_succ hfu)) rr1 hrr1) Qh4 Qii Qhe ha0 hl0 rr (by simpa only [Qa0] using hrr)
theorem QsL (x : List Int) (xa0 : Option Addr) (xk0 : Nat) (ha0 : x.length <= 65535) (rr : List Int) (hrr : Qce x = rr) : FT Tryz.prog 40 #[vl xa0 xk0 x] [O xa0 xk0 x] (fun g : Unit => (rr.length = x.length)) (fun g => .tuple #[]) (fun g => [os (vl xa0 xk0 x) rr]) := by
 refine FTi Tryz.func40 fun w0 M0 F0 => Fb 8 0 fun _ => Fo 0 fun ho2 => ?_
 refine KS ?_
 refine Oq Vm (Oq (Qcn Qbo) (Oq Va (KS ?_)))
 refine Oq Vm (Oq Vm (Oq Vm (Oq (VcU un3 Qmb) ?_)))
 refine QaK (Qd4 (BitVec.ofInt 64 (x.length : Int))) fun rv3 hg4 => ?_
 have hln := Qqv hg4 (by rw [Qi6 aM1]; omega)
 have hc5 := Quu ((BitVec.ofInt 64 (x.length : Int))) (by rw [Qi6 aM1]; omega) rv3 hg4
 refine Oc [] Quf hc5 ?_
 rintro - he6
 unfold Qac at he6
 refine QaK (Qa0 (x.length + 1) x 0 (x.length : Int) rv3) fun rv7 hg8 => ?_
 have hc9 := Quv (x.length + 1) x xa0 xk0 0 ((x.length : Int)) rv3 pre pre pre pre pre pre rv7 hg8
 refine Oc [0] QhW hc9 ?_
 rintro - he10
 refine Fb 8 0 fun _ => Fo 0 fun ho12 => KS ?_
 refine Fl 0 fun hn13 => ?_
 have hq := q4 hrr rv7 (by simp only [Qce, hg4, hg8, cs4]); subst hq
 exact Kz () rfl .nil [0] en
theorem QrH (c : Int) (Qqs : 0 <= c /\ c <= 255) (rr : Bool) (hrr : QdF c = rr) : FT Tryz.prog 128 #[.int .u8 c] [] (fun g : Unit => True) (fun g => vb rr) (fun g => []) := by
 refine FTi Tryz.func128 fun w0 M0 F0 => ?_
 refine KS ?_
 refine Oq Va (KS ?_)
 refine Oq Vm (Oq QeI (Oq Vm ?_))
 refine Js 5 ?_ ?_
 ·intro h1
  have g2 := dt h1
  refine Oq Vm (Oq Qh8 (Oq Vpt (Oq Vm ?_)))
  refine Js 9 ?_ ?_
  ·intro h3
   have g4 := dt h3
   refine Osk (Osk (Osk (Osk (Osk (Osk (Oq Vpt (Oq Va (KS ?_))))))))
   have hq := q4 hrr true (by simp only [QdF, h1, h3, cs4]); subst hq
   exact Kr () rfl (.tmp rfl .nil) [] trivial
  intro h3
  have g5 := df h3
  refine Oq Vm (Oq QeI (Oq Vm ?_))
  refine Js 12 ?_ ?_
  ·intro h6
   have g7 := dt h6
   refine Oq Vm (Oq Qh8 (Oq Vpt (Oq Vpf (Oq Va (KS ?_)))))
   have hq := q4 hrr (decide (c <= 90)) (by simp only [QdF, h1, h3, h6, cs4]); subst hq
   exact Kr () rfl (.tmp rfl .nil) [] trivial
  intro h6
  have g8 := df h6
  refine Osk (Osk (Oq Vpf (Oq Vpf (Oq Va (KS ?_)))))
  have hq := q4 hrr false (by simp only [QdF, h1, h3, h6, cs4]); subst hq
  exact Kr () rfl (.tmp rfl .nil) [] trivial
 intro h1
 have g9 := df h1
 refine Osk (Osk (Oq Vpf (Oq Vm (Oq Vm (Oq QeI (Oq Vm ?_))))))
 refine Js 12 ?_ ?_
 ·intro h10
  have g11 := dt h10
  refine Oq Vm (Oq Qh8 (Oq Vpt (Oq Vpf (Oq Va (KS ?_)))))
  have hq := q4 hrr (decide (c <= 90)) (by simp only [QdF, h1, h10, cs4]); subst hq
  exact Kr () rfl (.tmp rfl .nil) [] trivial
 intro h10
 have g12 := df h10
 refine Osk (Osk (Oq Vpf (Oq Vpf (Oq Va (KS ?_)))))
 have hq := q4 hrr false (by simp only [QdF, h1, h10, cs4]); subst hq
 exact Kr () rfl (.tmp rfl .nil) [] trivial
theorem QtG (s : List Str) (sa0 : Option Addr) (sk0 : Nat) (v : Str) (Qqb : v.b.length <= 140737488355328) (rr : Int) (hrr : QdC s v = rr) : FT Tryz.prog 141 #[vl sa0 sk0 s, .string (bs v)] [S sa0 sk0 s] (fun g : Unit => Qac rr) (fun g => vi rr) (fun g => []) := by
 refine FTi Tryz.func141 fun w0 M0 F0 => Fb 16 0 fun _ => ?_
 refine FoS 0 fun ho2 => ?_
 refine KS ?_
 refine Oq Va (KS ?_)
 refine Oq Vm (Oq (Qcn QcS) (Oq Vm (KS ?_)))
 refine Kl (γ := Nat × Int) (fun (r3, Qds) => ⟨[(0, vl sa0 sk0 s), (1, .string (bs v)), (7, vi (s.length : Int)), (8, vi Qds)], [S sa0 sk0 s], Qb8 s v r3 Qds = Qb8 s v (((s.length : Int) - 0).toNat) 0 /\ r3 = ((s.length : Int) - Qds).toNat /\ (0 : Int) <= Qds /\ Qds <= (s.length : Int) /\ (-9223372036854775808 <= Qds /\ Qds <= 9223372036854775807), r3⟩) (((s.length : Int) - 0).toNat, 0) [0] ⟨rfl, rfl, aM1, aM1, aM1⟩ ?_
 rintro ⟨r3, Qds⟩ ⟨hM5, hr6, hi7, hi8, hk9⟩
 refine Qbt fun _ _ hL hA => ?_; dsimp only at hL hA; subst hL hA
 refine Fb 16 0 fun _ => ?_
 refine FoS 0 fun ho11 => ?_
 refine KS ?_
 refine Oq Qcg (KS ?_)
 refine Kc ?_ ?_
 ·intro h12
  have g13 := dt h12
  obtain ⟨r14, rfl⟩ := scc (n := r3) aM1
  refine KS ?_
  refine Oq Vm (Oq Va (KS ?_))
  refine Oq Vm (Oq Vm (Oq Vm (Oq (Vi QcS 0) ?_)))
  have hb15 := okS (i := Qds.toNat) ho11 rng
  refine Oq (QnK sh9 0) (Oq (Qh3 (l := v) (m := (s.getD Qds.toNat default))) (KS ?_))
  refine Kc ?_ ?_
  ·intro h16
   have g17 := eq_of_beq h16
   refine KS ?_
   refine Oq Vm (Oq Va (KS ?_))
   have hR18 := q2 hM5 (.ret Qds) (by simp only [Qb8, h12, h16, cs4])
   have hq := q4 hrr Qds (by simp only [QdC, h12, h16, hR18, cs4]); subst hq
   exact Kr () rfl (.tmp rfl .nil) [] en
  intro h16
  have g19 := ne_of_beq_false h16
  refine KS ?_
  refine Oq Qbb (Oq Vm (KS ?_))
  exact Kg (r14, (Qds + 1)) [0] ⟨(q3 hM5 (by simp only [Qb8, h12, h16, cs4])), aM1, aM1, aM1, aM1⟩
 intro h12
 have g20 := df h12
 obtain rfl : r3 = 0 := by omega
 refine Ke ?_
 have hR21 := q2 hM5 (.brk ()) (by simp only [Qb8, h12, cs4])
 refine KS ?_
 refine Oq Va (KS ?_)
 have hq := q4 hrr (-1) (by simp only [QdC, h12, hR21, cs4]); subst hq
 exact Kr () rfl (.tmp rfl .nil) [] en
theorem QsK (s : List Str) (sa0 : Option Addr) (sk0 : Nat) (v : Str) (Qqb : v.b.length <= 140737488355328) (rr : Bool) (hrr : QcJ s v = rr) : FT Tryz.prog 129 #[vl sa0 sk0 s, .string (bs v)] [S sa0 sk0 s] (fun g : Unit => True) (fun g => vb rr) (fun g => []) := by
 refine FTi Tryz.func129 fun w0 M0 F0 => Fb 16 0 fun _ => ?_
 refine FoS 0 fun ho2 => ?_
 refine KS ?_
 refine Oq Va (KS ?_)
 refine Oq Vm (Oq Vm ?_)
 refine QaK (QdC s v) fun rv3 hg4 => ?_
 have hc5 := QtG s sa0 sk0 v pre rv3 hg4
 refine Oc [0] Qtv hc5 ?_
 rintro - he6
 unfold Qac at he6
 refine Oq QeI (Oq Va (KS ?_))
 have hq := q4 hrr (decide (0 <= rv3)) (by simp only [QcJ, hg4, cs4]); subst hq
 exact Kr () rfl (.tmp rfl .nil) [] trivial
theorem Qs5 (c : Int) (Qqs : 0 <= c /\ c <= 255) (rr : Bool) (hrr : Qha c = rr) : FT Tryz.prog 144 #[.int .u8 c] [] (fun g : Unit => True) (fun g => vb rr) (fun g => []) := by
 refine FTi Tryz.func144 fun w0 M0 F0 => ?_
 refine KS ?_
 refine Oq Va (KS ?_)
 refine Oq Vm (Oq QeI (Oq Vm ?_))
 refine Js 5 ?_ ?_
 ·intro h1
  have g2 := dt h1
  refine Oq Vm (Oq Qh8 (Oq Vpt (Oq Va (KS ?_))))
  have hq := q4 hrr (decide (c <= 57)) (by simp only [Qha, h1, cs4]); subst hq
  exact Kr () rfl (.tmp rfl .nil) [] trivial
 intro h1
 have g3 := df h1
 refine Osk (Osk (Oq Vpf (Oq Va (KS ?_))))
 have hq := q4 hrr false (by simp only [Qha, h1, cs4]); subst hq
 exact Kr () rfl (.tmp rfl .nil) [] trivial
theorem QtA (c : Int) (Qqs : 0 <= c /\ c <= 255) (rr : Bool) (hrr : QeA c = rr) : FT Tryz.prog 142 #[.int .u8 c] [] (fun g : Unit => True) (fun g => vb rr) (fun g => []) := by
 refine FTi Tryz.func142 fun w0 M0 F0 => ?_
 refine KS ?_
 refine Oq Va (KS ?_)
 refine Oq Vm ?_
 refine QaK (QdF c) fun rv1 hg2 => ?_
 have hc3 := QrH c pre rv1 hg2
 refine Oc [] Qq4 hc3 ?_
 rintro - -
 refine Oq Vm ?_
 refine Js 5 ?_ ?_
 ·intro h4
  refine Osk (Osk (Oq Vpt (Oq Vm (Osk (Osk (Oq Vpt (Oq Va (KS ?_))))))))
  have hq := q4 hrr true (by simp only [QeA, h4, hg2, cs4]); subst hq
  exact Kr () rfl (.tmp rfl .nil) [] trivial
 intro h4
 refine Oq Vm ?_
 refine QaK (Qha c) fun rv7 hg8 => ?_
 have hc9 := Qs5 c pre rv7 hg8
 refine Oc [] Qsm hc9 ?_
 rintro - -
 refine Oq Vpf (Oq Vm ?_)
 refine Js 9 ?_ ?_
 ·intro h10
  refine Osk (Osk (Oq Vpt (Oq Va (KS ?_))))
  have hq := q4 hrr true (by simp only [QeA, h4, h10, hg2, hg8, cs4]); subst hq
  exact Kr () rfl (.tmp rfl .nil) [] trivial
 intro h10
 refine Oq Vm (Oq QbB (Oq Vpf (Oq Va (KS ?_))))
 have hq := q4 hrr (c == 95) (by simp only [QeA, h4, h10, hg2, hg8, cs4]); subst hq
 exact Kr () rfl (.tmp rfl .nil) [] trivial
theorem QsD (s : Str) (i : Int) (Qk1 : s.b.length <= 140737488355328) (QtU : Qac i) (hi0 : 0 <= i /\ i <= (s.b.length : Int)) (rr : Int) (hrr : Qe2 s i = rr) : FT Tryz.prog 130 #[.string (bs s), vi i] [] (fun g : Unit => Qac rr /\ (i <= rr /\ rr <= (s.b.length : Int))) (fun g => vi rr) (fun g => []) := by
 refine FTi Tryz.func130 fun w0 M0 F0 => ?_
 unfold Qac at QtU
 refine KS ?_
 refine Oq Va (KS ?_)
 refine Kl (γ := Nat × Int) (fun (r1, i_2) => ⟨[(0, .string (bs s)), (1, vi i_2)], [], QcD s r1 i_2 = QcD s (((s.b.length : Int) - i).toNat) i /\ r1 = ((s.b.length : Int) - i_2).toNat /\ (i : Int) <= i_2 /\ (i_2 <= (s.b.length : Int) \/ i_2 = i) /\ (-9223372036854775808 <= i_2 /\ i_2 <= 9223372036854775807), r1⟩) (((s.b.length : Int) - i).toNat, i) [] ⟨rfl, rfl, aM1, (.inr rfl), aM1⟩ ?_
 rintro ⟨r1, i_2⟩ ⟨hM3, hr4, hi5, hi6, hk7⟩
 refine Qbt fun _ _ hL hA => ?_; dsimp only at hL hA; subst hL hA
 refine KS ?_
 refine Oq Vm (Oq Vm (Oq (VlS un9 (l := s)) (Oq Qcg (Oq Vm ?_))))
 refine Js 9 ?_ ?_
 ·intro h8
  have g9 := dt h8
  obtain ⟨r10, rfl⟩ := scc (n := r1) aM1
  refine Oq Vm (Oq Vm (Oq (Vix un9 (l := s)) ?_))
  have hb11 := u8b (s.b.getD i_2.toNat 0)
  refine QaK (QeA ((s.b.getD i_2.toNat 0).toNat : Int)) fun rv12 hg13 => ?_
  have hc14 := QtA (((s.b.getD i_2.toNat 0).toNat : Int)) pre rv12 hg13
  refine Oc [] Qtd hc14 ?_
  rintro - -
  refine Oq Vpt (KS ?_)
  refine Kc ?_ ?_
  ·intro h15
   refine KS ?_
   refine Oq Vm (Oq Qbb (Oq Va (KS ?_)))
   exact Kg (r10, (i_2 + 1)) [] ⟨(q3 hM3 (by simp only [QcD, h8, h15, hg13, cs4])), aM1, aM1, aM1, aM1⟩
  intro h15
  refine Ke ?_
  have hR18 := q2 hM3 i_2 (by simp only [QcD, h8, h15, hg13, cs4])
  refine KS ?_
  refine Oq Vm (Oq Va (KS ?_))
  have hq := q4 hrr i_2 (by simp only [Qe2, h8, h15, hg13, hR18, cs4]); subst hq
  exact Kr () rfl (.tmp rfl .nil) [] en
 intro h8
 have g19 := df h8
 obtain rfl : r1 = 0 := by omega
 refine Osk (Osk (Osk (Osk (Oq Vpf (KS ?_)))))
 refine Kf ?_
 refine Ke ?_
 have hR20 := q2 hM3 i_2 (by simp only [QcD, h8, cs4])
 refine KS ?_
 refine Oq Vm (Oq Va (KS ?_))
 have hq := q4 hrr i_2 (by simp only [Qe2, h8, hR20, cs4]); subst hq
 exact Kr () rfl (.tmp rfl .nil) [] en
theorem Qpx (s : Str) (kwLA : Option Addr) (kwLK : Nat) (Qk1 : s.b.length <= 140737488355328) (rr : Bool) (hrr : Qb4 s = rr) : FT Tryz.prog 101 #[.string (bs s)] [pv (gp 0) [vl kwLA kwLK kwL], S kwLA kwLK kwL] (fun g : Unit => True) (fun g => vb rr) (fun g => []) := by
 refine FTi Tryz.func101 fun w0 M0 F0 => Fb 16 1 fun _ => ?_
 refine FoS 1 fun ho2 => ?_
 refine KS ?_
 refine Oq Va (KS ?_)
 refine Oq Vm (Oq (Qh3 (l := s) (m := (Str.mk []))) (Oq Vm ?_))
 refine Js 5 ?_ ?_
 ·intro h3
  have g4 := eq_of_beq h3
  refine Osk (Osk (Osk (Oq Vpt (Oq Vm (Osk (Osk (Osk (Osk (Oq Vpt ?_)))))))))
  refine Oq Vm (Osk (Osk (Osk (Oq Vpt (KS ?_)))))
  refine Kt (KS ?_)
  refine Oq Va (KS ?_)
  have hq := q4 hrr false (by simp only [Qb4, h3, cs4]); subst hq
  exact Kr () rfl (.tmp rfl .nil) [] trivial
 intro h3
 have g5 := ne_of_beq_false h3
 have hsp := Qnc h3
 refine Oq Vm (Oq (VlS un9 (l := s)) (Oq Qih (Oq Vpf (Oq Vm ?_))))
 refine Js 10 ?_ ?_
 ·intro h6
  have g7 := dt h6
  refine Osk (Osk (Osk (Osk (Oq Vpt (Oq Vm (Osk (Osk (Osk (Oq Vpt ?_)))))))))
  refine KS ?_
  refine Kt (KS ?_)
  refine Oq Va (KS ?_)
  have hq := q4 hrr false (by simp only [Qb4, h3, h6, cs4]); subst hq
  exact Kr () rfl (.tmp rfl .nil) [] trivial
 intro h6
 have g8 := df h6
 refine Oq Vm (Oq (Vix un9 (l := s)) ?_)
 have hb9 := u8b (s.b.getD (0 : Int).toNat 0)
 refine QaK (QdF ((s.b.getD (0 : Int).toNat 0).toNat : Int)) fun rv10 hg11 => ?_
 have hc12 := QrH (((s.b.getD (0 : Int).toNat 0).toNat : Int)) pre rv10 hg11
 refine Oc [] Qq4 hc12 ?_
 rintro - -
 refine Oq QeT (Oq Vpf (Oq Vm ?_))
 refine Js 16 ?_ ?_
 ·intro h13
  have h15 := not_true h13
  refine Osk (Osk (Osk (Oq Vpt (KS ?_))))
  refine Kt (KS ?_)
  refine Oq Va (KS ?_)
  have hq := q4 hrr false (by simp only [Qb4, h3, h6, h13, h15, hg11, cs4]); subst hq
  exact Kr () rfl (.tmp rfl .nil) [] trivial
 intro h13
 have h18 := not_false h13
 refine Oq (Vld Qeq 0) (Oq Vm ?_)
 refine QaK (QcJ kwL s) fun rv20 hg21 => ?_
 have hc22 := QsK kwL kwLA kwLK s pre rv20 hg21
 refine Oc [1] Qsq hc22 ?_
 rintro - -
 refine Oq Vpf (KS ?_)
 refine Kc ?_ ?_
 ·intro h23
  refine KS ?_
  refine Oq Va (KS ?_)
  have hq := q4 hrr false (by simp only [Qb4, h3, h6, h13, h18, h23, hg11, hg21, cs4]); subst hq
  exact Kr () rfl (.tmp rfl .nil) [] trivial
 intro h23
 refine KS ?_
 refine Oq Vm ?_
 refine QaK (Qe2 s 0) fun rv26 hg27 => ?_
 have hc28 := QsD s 0 pre pre pre rv26 hg27
 refine Oc [] Qto hc28 ?_
 rintro - ⟨he29, he30⟩
 unfold Qac at he29
 refine Oq Vm (Oq (VlS un9 (l := s)) (Oq QbB (Oq Va (KS ?_))))
 have hq := q4 hrr (rv26 == (s.b.length : Int)) (by simp only [Qb4, h3, h6, h13, h18, h23, hg11, hg21, hg27, cs4]); subst hq
 exact Kr () rfl (.tmp rfl .nil) [] trivial
theorem QsJ (s : List Qbc) (sa0 : Option Addr) (sk0 : Nat) (fF : FuncId) (fC : List Value) (fp : Qbc -> Bool) (fA : List SP) (hfc : Qam Tryz.prog fF = true) (hfF : ∀ x ∈ s, ∀ (a2 : Option Addr) (k2 : Nat) (a3 : Option Addr) (k3 : Nat), Qac x.Op -> x.Def.b.length <= 140737488355328 -> FT Tryz.prog fF ([(.agg #[vi x.Op, .string (bs x.Def), vl a2 k2 x.Uses, vl a3 k3 x.Targets] : Value)] ++ fC).toArray ([S a2 k2 x.Uses, S a3 k3 x.Targets] ++ [Qhf fA]) (fun _ : Unit => True) (fun _ => .bool (fp x)) (fun _ => [])) (rr : Int) (hrr : Qc6 s fp = rr) : FT Tryz.prog 131 #[vl sa0 sk0 s, .func (.func fF) #[] fC.toArray] [S sa0 sk0 s, Qhf fA] (fun g : Unit => Qac rr) (fun g => vi rr) (fun g => []) := by
 refine FTi Tryz.func131 fun w0 M0 F0 => Fb 72 0 fun _ => ?_
 refine KS ?_
 refine Oq Va (KS ?_)
 refine Oq Vm (Oq (Qcn Qji) (Oq Vm (KS ?_)))
 refine Kl (γ := Nat × Int) (fun (r2, QfH) => ⟨[(0, vl sa0 sk0 s), (1, .func (.func fF) #[] fC.toArray), (7, vi (s.length : Int)), (8, vi QfH)], [S sa0 sk0 s, Qhf fA], QbP s fp r2 QfH = QbP s fp (((s.length : Int) - 0).toNat) 0 /\ r2 = ((s.length : Int) - QfH).toNat /\ (0 : Int) <= QfH /\ QfH <= (s.length : Int) /\ (-9223372036854775808 <= QfH /\ QfH <= 9223372036854775807), r2⟩) (((s.length : Int) - 0).toNat, 0) [0, 1] ⟨rfl, rfl, aM1, aM1, aM1⟩ ?_
 rintro ⟨r2, QfH⟩ ⟨hM4, hr5, hi6, hi7, hk8⟩
 refine Qbt fun _ _ hL hA => ?_; dsimp only at hL hA; subst hL hA
 refine Fb 72 0 fun _ => KS ?_
 refine Oq Qcg (KS ?_)
 refine Kc ?_ ?_
 ·intro h10
  have g11 := dt h10
  obtain ⟨r12, rfl⟩ := scc (n := r2) aM1
  refine KS ?_
  refine Oq Vm (Oq Va (KS ?_))
  refine Oq Vm (Oq Vm (Oq Vm (Oq (Vi Qji 0) ?_)))
  refine Qep QfH.toNat 0 rfl rng fun a13 k14 a15 k16 hb17 hb18 => ?_
  unfold Qac at hb17
  refine Fb 16 1 fun _ => ?_
  refine FoS 1 fun ho20 => ?_
  refine Fb 16 2 fun _ => ?_
  refine FoS 2 fun ho22 => ?_
  refine Oq (QcR QdZ 0) ?_
  refine Qd0 [1, 2, 4] rfl rfl rfl (OpC.clo («as» := [(.agg #[vi ((s.getD QfH.toNat default).Op), .string (bs ((s.getD QfH.toNat default).Def)), vl a13 k14 ((s.getD QfH.toNat default).Uses), vl a15 k16 ((s.getD QfH.toNat default).Targets)] : Value)] ++ fC) rfl rfl hfc rfl (by simp)) (hfF (s.getD QfH.toNat default) (Qcw rng) a13 k14 a15 k16 pre pre) rfl fun _ _ => ?_
  refine KS ?_
  refine Kc ?_ ?_
  ·intro h23
   refine KS ?_
   refine Oq Vm (Oq Va (KS ?_))
   have hR25 := q2 hM4 (.ret QfH) (by simp only [QbP, h10, h23, cs4])
   have hq := q4 hrr QfH (by simp only [Qc6, h10, h23, hR25, cs4]); subst hq
   exact Kr () rfl (.tmp rfl .nil) [] en
  intro h23
  refine KS ?_
  refine Oq Qbb (Oq Vm (KS ?_))
  exact Kg (r12, (QfH + 1)) [3, 4] ⟨(q3 hM4 (by simp only [QbP, h10, h23, cs4])), aM1, aM1, aM1, aM1⟩
 intro h10
 have g27 := df h10
 obtain rfl : r2 = 0 := by omega
 refine Ke ?_
 have hR28 := q2 hM4 (.brk ()) (by simp only [QbP, h10, cs4])
 refine KS ?_
 refine Oq Va (KS ?_)
 have hq := q4 hrr (-1) (by simp only [Qc6, h10, hR28, cs4]); subst hq
 exact Kr () rfl (.tmp rfl .nil) [] en
theorem Qtq (s : List Qbc) (sa0 : Option Addr) (sk0 : Nat) (fF : FuncId) (fC : List Value) (fp : Qbc -> Bool) (fA : List SP) (hfc : Qam Tryz.prog fF = true) (hfF : ∀ x ∈ s, ∀ (a2 : Option Addr) (k2 : Nat) (a3 : Option Addr) (k3 : Nat), Qac x.Op -> x.Def.b.length <= 140737488355328 -> FT Tryz.prog fF ([(.agg #[vi x.Op, .string (bs x.Def), vl a2 k2 x.Uses, vl a3 k3 x.Targets] : Value)] ++ fC).toArray ([S a2 k2 x.Uses, S a3 k3 x.Targets] ++ [Qhf fA]) (fun _ : Unit => True) (fun _ => .bool (fp x)) (fun _ => [])) (rr : Bool) (hrr : Qb6 s fp = rr) : FT Tryz.prog 102 #[vl sa0 sk0 s, .func (.func fF) #[] fC.toArray] [S sa0 sk0 s, Qhf fA] (fun g : Unit => True) (fun g => vb rr) (fun g => []) := by
 refine FTi Tryz.func102 fun w0 M0 F0 => Fb 72 0 fun _ => ?_
 refine KS ?_
 refine Oq Va (KS ?_)
 refine Oq Vm (Oq Vm ?_)
 refine QaK (Qc6 s fp) fun rv2 hg3 => ?_
 have hc4 := QsJ s sa0 sk0 fF fC fp fA hfc hfF rv2 hg3
 refine Oc [0, 1] Qtn hc4 ?_
 rintro - he5
 unfold Qac at he5
 refine Oq QeI (Oq Va (KS ?_))
 have hq := q4 hrr (decide (0 <= rv2)) (by simp only [Qb6, hg3, cs4]); subst hq
 exact Kr () rfl (.tmp rfl .nil) [] trivial
theorem Qkd (s : List Str) (sa0 : Option Addr) (sk0 : Nat) (rr : List Str) (hrr : QaX s = rr) : FT Tryz.prog 132 #[vl sa0 sk0 s] [S sa0 sk0 s] (fun g : Value => (rr.length = s.length)) (fun g => g) (fun g => [os g rr]) := by
 have hm : QaX s = s := rfl
 rw [hm] at hrr
 subst hrr
 refine FTi Tryz.func132 fun w0 M0 F0 => ?_
 refine KS ?_
 refine Oq Va ?_
 refine KS ?_
 refine Oq Vm ?_
 refine Oq (Qs2 Qu9) ?_
 refine KS ?_
 refine Kc ?_ ?_
 ·intro h
  refine Qsv 0 h ?_
  intro h0
  subst h0
  refine KS ?_
  refine Oq Va ?_
  refine KS ?_
  refine Jl [] (Ent.osNil (α := Str)) ?_
  exact Kr (.slice none 0 0) rfl (.tmp rfl .nil) [0] rfl
 ·intro _
  refine KS ?_
  refine Oa (As0 QcS) fun c1 => ?_
  refine Jo 0 ?_; rintro a2 k3 rfl
  refine Oq Vm ?_
  refine Fb 16 1 fun hl => ?_
  refine Jl [0] (Ent.crNil (α := Str) _) ?_
  refine Oa (Ap0 [0, 0] QcS QcS Qgh) fun c4 => ?_
  refine Oq Va ?_
  refine KS ?_
  exact Kr c4 rfl (.tmp rfl .nil) [0] rfl
theorem QtL (s : List Str) (sa0 : Option Addr) (sk0 : Nat) (fF : FuncId) (fC : List Value) (fp : Str -> Bool) (fA : List SP) (hfc : Qam Tryz.prog fF = true) (hfF : ∀ x ∈ s, x.b.length <= 140737488355328 -> FT Tryz.prog fF ([(.string (bs x) : Value)] ++ fC).toArray ([] ++ [Qhf fA]) (fun _ : Unit => True) (fun _ => .bool (fp x)) (fun _ => [])) (rr : Int) (hrr : Qcx s fp = rr) : FT Tryz.prog 143 #[vl sa0 sk0 s, .func (.func fF) #[] fC.toArray] [S sa0 sk0 s, Qhf fA] (fun g : Unit => Qac rr) (fun g => vi rr) (fun g => []) := by
 refine FTi Tryz.func143 fun w0 M0 F0 => Fb 16 0 fun _ => ?_
 refine FoS 0 fun ho2 => ?_
 refine KS ?_
 refine Oq Va (KS ?_)
 refine Oq Vm (Oq (Qcn QcS) (Oq Vm (KS ?_)))
 refine Kl (γ := Nat × Int) (fun (r3, Qds) => ⟨[(0, vl sa0 sk0 s), (1, .func (.func fF) #[] fC.toArray), (7, vi (s.length : Int)), (8, vi Qds)], [S sa0 sk0 s, Qhf fA], QbA s fp r3 Qds = QbA s fp (((s.length : Int) - 0).toNat) 0 /\ r3 = ((s.length : Int) - Qds).toNat /\ (0 : Int) <= Qds /\ Qds <= (s.length : Int) /\ (-9223372036854775808 <= Qds /\ Qds <= 9223372036854775807), r3⟩) (((s.length : Int) - 0).toNat, 0) [0, 1] ⟨rfl, rfl, aM1, aM1, aM1⟩ ?_
 rintro ⟨r3, Qds⟩ ⟨hM5, hr6, hi7, hi8, hk9⟩
 refine Qbt fun _ _ hL hA => ?_; dsimp only at hL hA; subst hL hA
 refine Fb 16 0 fun _ => ?_
 refine FoS 0 fun ho11 => ?_
 refine KS ?_
 refine Oq Qcg (KS ?_)
 refine Kc ?_ ?_
 ·intro h12
  have g13 := dt h12
  obtain ⟨r14, rfl⟩ := scc (n := r3) aM1
  refine KS ?_
  refine Oq Vm (Oq Va (KS ?_))
  refine Oq Vm (Oq Vm (Oq Vm (Oq (Vi QcS 0) ?_)))
  have hb15 := okS (i := Qds.toNat) ho11 rng
  refine Oq (QnK sh9 0) ?_
  refine Qd0 [1] rfl rfl rfl (OpC.clo («as» := [(.string (bs (s.getD Qds.toNat default)) : Value)] ++ fC) rfl rfl hfc rfl (by simp)) (hfF (s.getD Qds.toNat default) (Qcw rng)  pre) rfl fun _ _ => ?_
  refine KS ?_
  refine Kc ?_ ?_
  ·intro h16
   refine KS ?_
   refine Oq Vm (Oq Va (KS ?_))
   have hR18 := q2 hM5 (.ret Qds) (by simp only [QbA, h12, h16, cs4])
   have hq := q4 hrr Qds (by simp only [Qcx, h12, h16, hR18, cs4]); subst hq
   exact Kr () rfl (.tmp rfl .nil) [] en
  intro h16
  refine KS ?_
  refine Oq Qbb (Oq Vm (KS ?_))
  exact Kg (r14, (Qds + 1)) [0, 1] ⟨(q3 hM5 (by simp only [QbA, h12, h16, cs4])), aM1, aM1, aM1, aM1⟩
 intro h12
 have g20 := df h12
 obtain rfl : r3 = 0 := by omega
 refine Ke ?_
 have hR21 := q2 hM5 (.brk ()) (by simp only [QbA, h12, cs4])
 refine KS ?_
 refine Oq Va (KS ?_)
 have hq := q4 hrr (-1) (by simp only [Qcx, h12, hR21, cs4]); subst hq
 exact Kr () rfl (.tmp rfl .nil) [] en
theorem Qko (s : List Str) (sa0 : Option Addr) (sk0 : Nat) (fF : FuncId) (fC : List Value) (fp : Str -> Bool) (fA : List SP) (hfc : Qam Tryz.prog fF = true) (hfF : ∀ x ∈ s, x.b.length <= 140737488355328 -> FT Tryz.prog fF ([(.string (bs x) : Value)] ++ fC).toArray ([] ++ [Qhf fA]) (fun _ : Unit => True) (fun _ => .bool (fp x)) (fun _ => [])) (rr : Bool) (hrr : Qas s fp = rr) : FT Tryz.prog 133 #[vl sa0 sk0 s, .func (.func fF) #[] fC.toArray] [S sa0 sk0 s, Qhf fA] (fun g : Unit => True) (fun g => vb rr) (fun g => []) := by
 refine FTi Tryz.func133 fun w0 M0 F0 => Fb 16 0 fun _ => ?_
 refine FoS 0 fun ho2 => ?_
 refine KS ?_
 refine Oq Va (KS ?_)
 refine Oq Vm (Oq Vm ?_)
 refine QaK (Qcx s fp) fun rv3 hg4 => ?_
 have hc5 := QtL s sa0 sk0 fF fC fp fA hfc hfF rv3 hg4
 refine Oc [0, 1] QsS hc5 ?_
 rintro - he6
 unfold Qac at he6
 refine Oq QeI (Oq Va (KS ?_))
 have hq := q4 hrr (decide (0 <= rv3)) (by simp only [Qas, hg4, cs4]); subst hq
 exact Kr () rfl (.tmp rfl .nil) [] trivial
theorem Qj5 (n : Str) (kwLA : Option Addr) (kwLK : Nat) (QkY : n.b.length <= 140737488355328) (rr : Bool) (hrr : Qba n = rr) : FT Tryz.prog 134 #[.string (bs n)] [pv (gp 0) [vl kwLA kwLK kwL], S kwLA kwLK kwL] (fun g : Unit => True) (fun g => vb rr) (fun g => []) := by
 refine FTi Tryz.func134 fun w0 M0 F0 => Fb 16 1 fun _ => ?_
 refine FoS 1 fun ho2 => ?_
 refine KS ?_
 refine Oq Va (KS ?_)
 refine Oq Vm ?_
 refine QaK (Qb4 n) fun rv3 hg4 => ?_
 have hc5 := Qpx n kwLA kwLK pre rv3 hg4
 refine Oc [0, 1] Qpo hc5 ?_
 rintro - -
 refine Oq QeT (Oq Va (KS ?_))
 have hq := q4 hrr (!rv3) (by simp only [Qba, hg4, cs4]); subst hq
 exact Kr () rfl (.tmp rfl .nil) [] trivial
end Go.SL.G
