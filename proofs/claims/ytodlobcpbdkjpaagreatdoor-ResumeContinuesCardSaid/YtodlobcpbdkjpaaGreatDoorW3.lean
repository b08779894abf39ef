/- Part 3 of the walks: mirrors, plain laws and walks used by the last text of this claim. -/
import Derived.Test.YtodlobcpbdkjpaaGreatDoorW2
import Derived.Test.YtodlobcpbdkjpaaGreatDoorProg
set_option linter.unusedVariables false
set_option linter.unusedSimpArgs false
namespace Go.SL.G
open Go Go.SL Go.Proofs
set_option maxHeartbeats 20000000
set_option maxRecDepth 100000
theorem demanding_scan (s : GSystem) (k : List GKnown) (st : GState) (r : Nat) (i : Int) : so_demanding_L0 s k st (r + 1) i = bif pdb s k st i then .ret false else so_demanding_L0 s k st r (i + 1) := by
 rw [so_demanding_L0]
 simp only [pfind_eq]
 unfold pdb dl dN cN
 all_goals (cases decide (i < st.At) <;> cases (i == st.At) <;> cases decide (st.At < i) <;> cases st.Leaf.getD i.toNat false <;> cases decide (0 ≤ kfind k (st.Cone.getD i.toNat 0) 0) <;> rfl)
theorem demanding_iff (s : GSystem) (k : List GKnown) (st : GState) : so_demanding s k st = true ↔ Dem s k st := by
 have sc := scan (fun r i => so_demanding_L0 s k st r i) (pdb s k st) false () (fun _ => rfl) (demanding_scan s k st) ((((((st.Cone.length : Nat) : Int) : Int) - 0).toNat)) 0
 have key : (so_demanding_L0 s k st ((((((st.Cone.length : Nat) : Int) : Int) - 0).toNat)) 0 = .ret false ∧ ¬ ∀ i : Int, 0 ≤ i → i < (st.Cone.length : Int) → pdb s k st i = false) ∨ (so_demanding_L0 s k st ((((((st.Cone.length : Nat) : Int) : Int) - 0).toNat)) 0 = .brk () ∧ ∀ i : Int, 0 ≤ i → i < (st.Cone.length : Int) → pdb s k st i = false) := by
  rcases sc with ⟨e, j, j1, j2, j3⟩ | ⟨e, h⟩
  ·refine .inl ⟨e, fun h => ?_⟩
   rw [h j j1 (by omega)] at j3; cases j3
  ·exact .inr ⟨e, fun i i0 i1 => h i i0 (by omega)⟩
 unfold so_demanding so_demanding_J0
 simp only [pfind_eq]
 by_cases h1 : st.At < 0
 ·simp only [decide_eq_true h1, cond_true]; exact ⟨fun h => (by cases h), fun h => by have := h.at_; omega⟩
 by_cases h2 : (st.Cone.length : Int) ≤ st.At
 ·simp only [decide_eq_false h1, decide_eq_true h2, cond_true, cond_false]; exact ⟨fun h => (by cases h), fun h => by have := h.at_; omega⟩
 by_cases h3 : 0 < (st.Values.length : Int)
 ·simp only [decide_eq_false h1, decide_eq_false h2, decide_eq_true h3, cond_true, cond_false]; exact ⟨fun h => (by cases h), fun h => by have := h.vl; omega⟩
 by_cases h4 : 0 < (st.Queue.length : Int)
 ·simp only [decide_eq_false h1, decide_eq_false h2, decide_eq_false h3, decide_eq_true h4, cond_true, cond_false]; exact ⟨fun h => (by cases h), fun h => by have := h.ql; omega⟩
 by_cases h5 : st.Edge < 0
 ·simp only [decide_eq_false h1, decide_eq_false h2, decide_eq_false h3, decide_eq_false h4, decide_eq_true h5, cond_true, cond_false]; exact ⟨fun h => (by cases h), fun h => by have := h.ed; omega⟩
 by_cases h6 : ((s.Deps.getD (st.Cone.getD st.At.toNat 0).toNat []).length : Int) < st.Edge
 ·simp only [decide_eq_false h1, decide_eq_false h2, decide_eq_false h3, decide_eq_false h4, decide_eq_false h5, decide_eq_true h6, cond_true, cond_false]; exact ⟨fun h => (by cases h), fun h => by have := h.ed; unfold dN cN at this; omega⟩
 simp only [decide_eq_false h1, decide_eq_false h2, decide_eq_false h3, decide_eq_false h4, decide_eq_false h5, decide_eq_false h6, cond_false]
 have all : (0 < st.Edge → kfind k (cN st st.At) 0 < 0) → ((∀ i : Int, 0 ≤ i → i < (st.Cone.length : Int) → pdb s k st i = false) ↔ Dem s k st) := fun hek => by
  constructor
  ·intro h
   exact ⟨by omega, by omega, by omega, by unfold dN cN; omega, hek, fun i i0 i1 => (pdb_false.1 (h i i0 i1)).1, fun i i0 i1 => (pdb_false.1 (h i i0 i1)).2⟩
  ·intro h i i0 i1
   exact pdb_false.2 ⟨h.lf i i0 i1, h.cl i i0 i1⟩
 rcases key with ⟨e, hk⟩ | ⟨e, hk⟩
 ·rw [e]
  by_cases h7 : 0 < st.Edge
  ·simp only [decide_eq_true h7, cond_true]
   by_cases h8 : 0 ≤ kfind k (st.Cone.getD st.At.toNat 0) 0
   ·simp only [decide_eq_true h8, cond_true]; exact ⟨fun h => (by cases h), fun h => by have := h.ek h7; unfold cN at this; omega⟩
   ·simp only [decide_eq_false h8, cond_false]; exact ⟨fun h => (by cases h), fun h => absurd ((all h.ek).2 h) hk⟩
  ·simp only [decide_eq_false h7, cond_false]; exact ⟨fun h => (by cases h), fun h => absurd ((all h.ek).2 h) hk⟩
 ·rw [e]
  by_cases h7 : 0 < st.Edge
  ·simp only [decide_eq_true h7, cond_true]
   by_cases h8 : 0 ≤ kfind k (st.Cone.getD st.At.toNat 0) 0
   ·simp only [decide_eq_true h8, cond_true]; exact ⟨fun h => (by cases h), fun h => by have := h.ek h7; unfold cN at this; omega⟩
   ·simp only [decide_eq_false h8, cond_false]; exact ⟨fun _ => (all (fun _ => by unfold cN; omega)).1 hk, fun _ => by trivial⟩
  ·simp only [decide_eq_false h7, cond_false]; exact ⟨fun _ => (all (fun h => absurd h h7)).1 hk, fun _ => by trivial⟩
theorem unknowns_iff (s : GSystem) (l : List Int) : cn_unknowns s l = true ↔ ∀ x ∈ l, 0 ≤ x ∧ x < (s.Deps.length : Int) := by
 unfold cn_unknowns
 have h := IndexFunc_any l (fun x => cn_unknowns_1 x s)
 constructor
 ·intro hh x hx
  cases hc : sc_ContainsFunc_int l (fun x => cn_unknowns_1 x s) with
  | true => rw [hc] at hh; cases hh
  | false =>
   have : ¬ cn_unknowns_1 x s = true := fun e => by rw [h.2 ⟨x, hx, e⟩] at hc; cases hc
   simp [cn_unknowns_1, Bool.cond_eq_ite] at this
   omega
 ·intro hh
  cases hc : sc_ContainsFunc_int l (fun x => cn_unknowns_1 x s) with
  | false => rfl
  | true =>
   obtain ⟨x, hx, e⟩ := h.1 hc
   have := hh x hx
   simp [cn_unknowns_1, Bool.cond_eq_ite] at e
   omega
theorem unknowns_eq {s : GSystem} (hv : VSys s) (l : List Int) : cn_unknowns s l = qflqref14_inside s l := by
 rw [Bool.eq_iff_iff, unknowns_iff, inside_iff]
 have := hv.bl
 constructor
 ·intro h x hx; have := h x hx; omega
 ·intro h x hx; have := h x hx; omega
theorem ClosedL0 {n : Int} {set_ : List Int} : ∀ (m : Nat) (ins : List Bool) (k : Int), 0 ≤ k → k + m ≤ (set_.length : Int) → (ins.length : Int) = n → (∀ x ∈ set_, 0 ≤ x ∧ x < n) →
  ((cn_Closed_L0 set_ m ins k).length : Int) = n ∧ ∀ x : Int, 0 ≤ x → x < n → ((cn_Closed_L0 set_ m ins k).getD x.toNat false = true ↔ (ins.getD x.toNat false = true ∨ ∃ j : Int, k ≤ j ∧ j < k + m ∧ set_.getD j.toNat 0 = x))
 | 0, ins, k, _, _, hl, _ => ⟨hl, fun x _ _ => ⟨.inl, fun h => h.elim id (fun ⟨j, h1, h2, _⟩ => by omega)⟩⟩
 | m + 1, ins, k, hk, hk2, hl, hs => by
  rw [cn_Closed_L0]
  have hx := hs _ (getD_mem (xs := set_) (i := k.toNat) (d := 0) (by omega))
  obtain ⟨a, b⟩ := ClosedL0 (n := n) (set_ := set_) m (ins.set (set_.getD k.toNat 0).toNat true) (k + 1) (by omega) (by omega) (by simp [hl]) hs
  refine ⟨a, fun x x0 x1 => ?_⟩
  rw [b x x0 x1]
  simp only [List.getD_eq_getElem?_getD, List.getElem?_set]
  constructor
  ·rintro (h | ⟨j, j1, j2, j3⟩)
   ·by_cases e : ((set_[k.toNat]?).getD 0).toNat = x.toNat
    ·refine .inr ⟨k, by omega, by omega, ?_⟩
     have : (set_.getD k.toNat 0) = (set_[k.toNat]?).getD 0 := by rw [List.getD_eq_getElem?_getD]
     rw [this] at hx
     omega
    ·rw [if_neg e] at h; exact .inl h
   ·exact .inr ⟨j, by omega, by omega, j3⟩
  ·rintro (h | ⟨j, j1, j2, j3⟩)
   ·left
    by_cases e : ((set_[k.toNat]?).getD 0).toNat = x.toNat
    ·rw [if_pos e]
     rw [if_pos (by omega)]; rfl
    ·rw [if_neg e]; exact h
   ·rcases Int.lt_or_eq_of_le j1 with hlt | rfl
    ·exact .inr ⟨j, by omega, by omega, j3⟩
    ·left
     have e : ((set_[k.toNat]?).getD 0).toNat = x.toNat := by omega
     rw [if_pos e, if_pos (by omega)]; rfl
theorem Closed_L1_iff (s : GSystem) (set_ leaves : List Int) (ins : List Bool) (hin : ∀ x : Int, 0 ≤ x → x < (s.Deps.length : Int) → (ins.getD x.toNat false = true ↔ x ∈ set_)) (hv : eq_Valid s = true) (hs : ∀ x ∈ set_, 0 ≤ x ∧ x < (s.Deps.length : Int)) :
  ∀ (m : Nat) (i : Int), 0 ≤ i → i + m ≤ (set_.length : Int) → cn_Closed_L1 s set_ leaves ins m i = qflqref14_closed_L0 s set_ leaves m i := by
 intro m
 induction m with
 | zero => intro i _ _; rfl
 | succ m ih =>
  intro i hi hi2
  rw [cn_Closed_L1, qflqref14_closed_L0]
  have hx := hs _ (getD_mem (xs := set_) (i := i.toNat) (d := 0) (by omega))
  have hd := EValid_dep_mem hv hx.1 hx.2
  generalize s.Deps.getD (set_.getD i.toNat 0).toNat [] = d at hd
  simp only [Contains_eq]
  have ih' := ih (i + 1) (by omega) (by omega)
  cases hl : qflqref7_Has leaves (set_.getD i.toNat 0) with
  | true =>
   have : ∀ (q : Nat) (k : Int), qflqref14_closed_L1 set_ leaves i d q k = .brk () := by
    intro q
    induction q with
    | zero => intro k; rfl
    | succ q ihq => intro k; rw [qflqref14_closed_L1]; simp only [hl, Bool.not_true, cond_false]; exact ihq _
   simp only [this, Bool.not_true, cond_false, ih']
  | false =>
   simp only [Bool.not_false, cond_true]
   have sc := scan (fun r k => qflqref14_closed_L1 set_ leaves i d r k) (fun k => !(qflqref7_Has set_ (d.getD k.toNat 0))) false () (fun _ => rfl) (fun r k => by
    show qflqref14_closed_L1 set_ leaves i d (r + 1) k = _
    rw [qflqref14_closed_L1]; simp only [hl, Bool.not_false, cond_true]) ((((d.length : Nat) : Int) - 0).toNat) 0
   have any := IndexFunc_any d (fun x => cn_Closed_1 x ins)
   have hc1 : ∀ x ∈ d, cn_Closed_1 x ins = !(qflqref7_Has set_ x) := by
    intro x hx
    have hb := hd x hx
    have := hin x hb.1 hb.2
    unfold cn_Closed_1
    congr 1
    rw [Bool.eq_iff_iff, this, Has_iff]
   rcases sc with ⟨e, j, j1, j2, j3⟩ | ⟨e, h⟩
   ·have hm := getD_mem (xs := d) (i := j.toNat) (d := 0) (by omega)
    rw [any.2 ⟨_, hm, by rw [hc1 _ hm]; exact j3⟩]
    simp only [cond_true]
    rw [e]
   ·have : sc_ContainsFunc_int d (fun x => cn_Closed_1 x ins) = false := by
     cases hc : sc_ContainsFunc_int d (fun x => cn_Closed_1 x ins) with
     | false => rfl
     | true =>
      obtain ⟨x, hx, e2⟩ := any.1 hc
      rw [hc1 x hx] at e2
      obtain ⟨j, j1, j2, rfl⟩ := mem_getD.1 hx
      have := h j j1 (by omega)
      rw [e2] at this; cases this
    rw [this, e]
    simp only [cond_false, ih']
theorem closedRef_eq {s : GSystem} (hv : VSys s) {set_ leaves : List Int} (h1 : ∀ x ∈ set_, 0 ≤ x ∧ x < (s.Deps.length : Int)) (h2 : ∀ x ∈ leaves, 0 ≤ x ∧ x < (s.Deps.length : Int)) : cn_Closed s set_ leaves = qflqref14_closed s set_ leaves := by
 have hE := (EValid_iff s).2 hv
 unfold cn_Closed
 simp only [hE, (unknowns_iff s set_).2 h1, (unknowns_iff s leaves).2 h2, Bool.not_true, cond_false]
 obtain ⟨a, b⟩ := ClosedL0 (n := (s.Deps.length : Int)) (set_ := set_) ((((set_.length : Nat) : Int) - 0).toNat) (List.replicate (((s.Deps.length : Nat) : Int) : Int).toNat false) 0 (by omega) (by omega) (by simp) h1
 rw [Closed_L1_iff s set_ leaves _ (fun x x0 x1 => by
  rw [b x x0 x1, mem_getD]
  constructor
  ·rintro (h | ⟨j, j1, j2, j3⟩)
   ·simp [List.getElem?_replicate] at h
    split at h <;> simp at h
   ·exact ⟨j, j1, by omega, j3⟩
  ·rintro ⟨j, j1, j2, j3⟩
   exact .inr ⟨j, j1, by omega, j3⟩) hE h1 _ 0 (by omega) (by omega)]
 unfold qflqref14_closed
 all_goals (generalize qflqref14_closed_L0 s set_ leaves ((((set_.length : Nat) : Int) - 0).toNat) 0 = r; cases r <;> rfl)
theorem solving_L0_eq (s : GSystem) (k : List GKnown) (st : GState) : ∀ (m : Nat) (l : List Int) (i : Int), so_solving_L0 s k st m l i = qflqref14_validSolve_L0 s k st m l i
 | 0, l, i => rfl
 | m + 1, l, i => by
  rw [so_solving_L0, qflqref14_validSolve_L0]
  simp only [setValid_eq, pfind_eq, rfind_eq, solving_L0_eq s k st m]
theorem solving_eq {s : GSystem} (hv : VSys s) (k : List GKnown) (st : GState) (hl : st.Leaf.length = st.Cone.length) (hr : ∀ x ∈ st.Cone, 0 ≤ x ∧ x < (s.Deps.length : Int)) : so_solving s k st = qflqref14_validSolve s k st := by
 unfold so_solving qflqref14_validSolve
 have hb := solving_brk s k st hl hr st.Cone.length [] 0
 have hq := queue_L1 st st.Queue.length 0 (by omega) (by omega)
 rw [queue_range] at hq
 simp only [solving_L0_eq, distinct_eq (show (0 : Int) ≤ (st.Cone.length : Int) by omega)]
 simp only [show (((((st.Cone.length : Nat) : Int) : Int) - 0).toNat) = st.Cone.length by omega, show (((((st.Queue.length : Nat) : Int) : Int) - 0).toNat) = st.Queue.length by omega]
 cases (st.At != 0) with
 | true => rfl
 | false =>
  cases (st.Edge != 0) with
  | true => rfl
  | false =>
   cases ((st.Values.length : Int) != (st.Cone.length : Int)) with
   | true => rfl
   | false =>
    cases qflqref14_repeated st.Queue with
    | true => cases ((st.Queue.length : Int) == 0) <;> cases (st.Phase == 3) <;> rfl
    | false =>
     rcases hq with ⟨e, h⟩ | ⟨e, h⟩
     ·rw [decide_eq_true h]
      cases hE : qflqref14_validSolve_L0 s k st st.Cone.length [] 0 with
      | oof => cases ((st.Queue.length : Int) == 0) <;> cases (st.Phase == 3) <;> rfl
      | ret r => cases ((st.Queue.length : Int) == 0) <;> cases (st.Phase == 3) <;> rfl
      | brk o =>
       have ho := hb o (by omega) (by omega) (by intro x hx; cases hx) hE
       simp only [e, closedRef_eq hv hr ho]
       all_goals (cases ((st.Queue.length : Int) == 0) <;> cases (st.Phase == 3) <;> rfl)
     ·rw [decide_eq_false h]
      cases hE : qflqref14_validSolve_L0 s k st st.Cone.length [] 0 with
      | oof => cases ((st.Queue.length : Int) == 0) <;> cases (st.Phase == 3) <;> simp
      | ret r => have := solving_ret s k st _ _ _ _ hE; subst this; cases ((st.Queue.length : Int) == 0) <;> cases (st.Phase == 3) <;> rfl
      | brk o => simp only [e]; cases ((st.Queue.length : Int) == 0) <;> cases (st.Phase == 3) <;> rfl
theorem PV_args {s : GSystem} {k : List GKnown} {st : GState} (h : so_Valid s k st = true) : so_arguments s k = true ∧ so_distinct st.Cone (s.Deps.length : Int) = true ∧ st.Leaf.length = st.Cone.length ∧ 1 ≤ st.Cone.length ∧ 0 ≤ st.Steps ∧ st.Steps ≤ 1073741824 := by
 unfold so_Valid at h
 simp only [Bool.cond_eq_ite] at h
 repeat' split at h
 all_goals first | (cases h; done) | skip
 all_goals simp_all
 all_goals first | omega | (have := List.length_pos_iff.2 (by assumption : st.Cone ≠ []); omega)
theorem PV_steps {s : GSystem} {k : List GKnown} {st : GState} (h : so_Valid s k st = true) : 0 ≤ st.Steps ∧ st.Steps ≤ 1073741824 := (PV_args h).2.2.2.2
theorem PV_cone {s : GSystem} {k : List GKnown} {st : GState} (h : so_Valid s k st = true) : st.Cone.length ≤ 256 := by
 have a := PV_args h
 have v := arguments_V a.1
 have := distinct_len a.2.1 (by omega)
 have := v.n
 omega
theorem PValid8_iff (s : GSystem) (k : List GKnown) (st : GState) : so_Valid s k st = true ↔ VStt s k st := by
 unfold so_Valid
 simp only [arguments_eq]
 cases h1 : eq_Valid s with
 | false => exact ⟨fun h => (by cases h), fun h => by rw [(EValid_iff s).2 h.v] at h1; cases h1⟩
 | true =>
 have hv := (EValid_iff s).1 h1
 cases h2 : qflqref14_ValidKnown s k with
 | false => exact ⟨fun h => (by cases h), fun h => by rw [h.kn] at h2; cases h2⟩
 | true =>
 simp only [Bool.and_true, Bool.not_true, cond_false]
 by_cases h3 : (st.Cone.length : Int) = 0
 ·rw [beqI h3]; exact ⟨fun h => (by cases h), fun h => by have := h.cn; omega⟩
 rw [bneI h3]
 cases h4 : so_distinct st.Cone (s.Deps.length : Int) with
 | false => exact ⟨fun h => (by cases h), fun h => by rw [(distinct_iff (by omega)).2 h.co] at h4; cases h4⟩
 | true =>
 have hco := (distinct_iff (by omega)).1 h4
 by_cases h5 : (st.Leaf.length : Int) = (st.Cone.length : Int)
 case neg =>
  have : ((st.Leaf.length : Int) != (st.Cone.length : Int)) = true := by simp [h5]
  rw [this]; exact ⟨fun h => (by cases h), fun h => by have := h.lf; omega⟩
 have e5 : ((st.Leaf.length : Int) != (st.Cone.length : Int)) = false := by simp [h5]
 rw [e5]
 by_cases h6 : st.Steps < 0
 ·rw [decide_eq_true h6]; exact ⟨fun h => (by cases h), fun h => by have := h.sp; omega⟩
 rw [decide_eq_false h6]
 by_cases h7 : 1073741824 < st.Steps
 ·rw [decide_eq_true h7]; exact ⟨fun h => (by cases h), fun h => by have := h.sp; omega⟩
 rw [decide_eq_false h7]
 simp only [cond_false, Bool.not_true]
 rw [solving_eq hv k st (by omega) hco.2]
 by_cases p1 : st.Phase = 1
 ·rw [beqI p1]
  simp only [cond_true]
  rw [demanding_iff]
  exact ⟨fun h => ⟨hv, h2, by omega, hco, by omega, by omega, .inl ⟨p1, h⟩⟩, fun h => by rcases h.ph with ⟨_, h⟩ | ⟨h, _⟩; exact h; omega⟩
 ·rw [bneI p1]
  by_cases p2 : st.Phase = 2
  ·rw [beqI p2]
   simp only [cond_true, cond_false]
   exact ⟨fun h => ⟨hv, h2, by omega, hco, by omega, by omega, .inr ⟨.inl p2, h⟩⟩, fun h => by rcases h.ph with ⟨h, _⟩ | ⟨_, h⟩; omega; exact h⟩
  ·rw [bneI p2]
   by_cases p3 : st.Phase = 3
   ·rw [beqI p3]
    simp only [cond_true, cond_false]
    exact ⟨fun h => ⟨hv, h2, by omega, hco, by omega, by omega, .inr ⟨.inr p3, h⟩⟩, fun h => by rcases h.ph with ⟨h, _⟩ | ⟨_, h⟩; omega; exact h⟩
   ·rw [bneI p3]
    exact ⟨fun h => (by cases h), fun h => by have := h.ph; omega⟩
theorem PV_facts {s : GSystem} {k : List GKnown} {st : GState} (h : so_Valid s k st = true) : VSys s ∧ (st.Phase = 1 → DOk s k st) ∧ (st.Phase = 2 → POk s st) ∧ (st.Phase = 1 ∨ st.Phase = 2 ∨ st.Phase = 3) := VStt_facts ((PValid8_iff s k st).1 h)
theorem clone_eq (s : GSet) : so_clone s = s := rfl
theorem copied_L0 (st : GState) : ∀ (m : Nat) (o : List GSet) (i : Int), 0 ≤ i → i + m = (st.Values.length : Int) → so_copied_L0 st m o i = o ++ st.Values.drop i.toNat
 | 0, o, i, h0, h1 => by
  rw [List.drop_eq_nil_of_le (by omega), List.append_nil]; rfl
 | m + 1, o, i, h0, h1 => by
  rw [so_copied_L0, copied_L0 st m _ (i + 1) (by omega) (by omega)]
  have hl : i.toNat < st.Values.length := by omega
  rw [List.drop_eq_getElem_cons hl, show (i + 1).toNat = i.toNat + 1 by omega, clone_eq]
  simp [List.getD, List.getElem?_eq_getElem hl]
theorem copied_eq (st : GState) : so_copied st = st := by
 have h := copied_L0 st st.Values.length [] 0 (by omega) (by omega)
 unfold so_copied
 rw [show ((((st.Values.length : Nat) : Int) : Int) - 0).toNat = st.Values.length by omega]
 simp only [h]
 rfl
theorem begin_steps (s : GSystem) (k : List GKnown) (st : GState) : (so_begin s k st).Steps = st.Steps := by
 unfold so_begin
 rfl
theorem begin_L0_spec (s : GSystem) (k : List GKnown) (st : GState) : ∀ (m : Nat) (v : List GSet) (q : List Int) (i : Int), 0 ≤ i → i + m = (st.Cone.length : Int) →
  so_begin_L0 s k st m v q i = (v ++ (List.range' i.toNat m).map (fun j : Nat => initV1 s k st.Cone st.Leaf j), ((List.range' i.toNat m).map (fun j : Nat => (j : Int))).reverse ++ q)
 | 0, v, q, i, h0, h1 => by simp [so_begin_L0]
 | m + 1, v, q, i, h0, h1 => by
  rw [so_begin_L0]
  simp only [pfind_eq, clone_eq]
  rw [begin_L0_spec s k st m _ _ (i + 1) (by omega) (by omega), begin_L0_spec s k st m _ _ (i + 1) (by omega) (by omega), List.range'_succ, show (i + 1).toNat = i.toNat + 1 by omega]
  simp only [List.map_cons, List.append_assoc, List.singleton_append, Int.toNat_of_nonneg h0, List.reverse_cons, List.cons_append, List.nil_append]
  unfold initV1 Bd
  cases st.Leaf.getD i.toNat false <;> simp
theorem expand_steps {s : GSystem} {k : List GKnown} {st r : GState} (h : so_expand s k st = r) : r.Steps = st.Steps := by
 subst h
 unfold so_expand so_expand_J0 so_expand_J1
 simp only [Bool.cond_eq_ite]
 repeat' split
 all_goals first | rfl | rw [begin_steps]
theorem expand_eq {s : GSystem} {k : List GKnown} {st : GState} (hv : st.Values = []) (hq : st.Queue = []) (ha : st.At < (st.Cone.length : Int)) : so_expand s k st = dstep s k st := by
 have hL : ∀ (p a e n : Int) lf, so_begin s k (GState.mk p st.Cone lf a e st.Values st.Queue n) = GState.mk 2 st.Cone lf 0 e (initV s k st.Cone lf) (initQ st.Cone.length) n := fun p a e n lf => by
  unfold so_begin
  simp only
  rw [begin_L0_spec _ _ _ _ _ _ _ (by omega) (by show 0 + ((((st.Cone.length : Nat) : Int) - 0).toNat : Int) = (st.Cone.length : Int); omega), hv, hq, show ((((st.Cone.length : Nat) : Int) - 0).toNat) = st.Cone.length by omega]
  simp only [List.nil_append, List.append_nil, Int.toNat_zero, ← List.range_eq_range', initQ_rev]
  rfl
 unfold so_expand so_expand_J0 so_expand_J1 dstep dnext dlf dN cN
 simp only [pfind_eq, hL, Contains_eq, Has_dec]
 by_cases e0 : st.Edge = 0 <;> by_cases kf : 0 ≤ kfind k (st.Cone.getD st.At.toNat 0) 0
 ·simp only [e0, kf, true_and, if_true, beq_self_eq_true, decide_true, cond_true]
  generalize (st.Leaf.set st.At.toNat true) = lf
  simp only [Bool.cond_eq_ite, Bool.not_eq_true', decide_eq_true_eq, decide_eq_false_iff_not, beq_iff_eq]
  repeat' split
  all_goals first | rfl | (exfalso; omega) | (exfalso; simp_all; done) | (exfalso; simp_all; omega)
 ·simp only [e0, kf, true_and, and_false, if_false, beq_self_eq_true, decide_false, cond_true, cond_false]
  simp only [Bool.cond_eq_ite, Bool.not_eq_true', decide_eq_true_eq, decide_eq_false_iff_not, beq_iff_eq]
  repeat' split
  all_goals first | rfl | (exfalso; omega) | (exfalso; simp_all; done) | (exfalso; simp_all; omega)
 ·have eb : (st.Edge == 0) = false := by simp [e0]
  simp only [e0, eb, false_and, if_false, cond_false]
  simp only [Bool.cond_eq_ite, Bool.not_eq_true', decide_eq_true_eq, decide_eq_false_iff_not, beq_iff_eq]
  repeat' split
  all_goals first | rfl | (exfalso; omega) | (exfalso; simp_all; done) | (exfalso; simp_all; omega)
 ·have eb : (st.Edge == 0) = false := by simp [e0]
  simp only [e0, eb, false_and, if_false, cond_false]
  simp only [Bool.cond_eq_ite, Bool.not_eq_true', decide_eq_true_eq, decide_eq_false_iff_not, beq_iff_eq]
  repeat' split
  all_goals first | rfl | (exfalso; omega) | (exfalso; simp_all; done) | (exfalso; simp_all; omega)
theorem expand_V {s : GSystem} {k : List GKnown} {st : GState} (h : so_Valid s k st = true) (hp : st.Phase = 1) (r : GState) (hr : so_expand s k st = r) : so_Valid s k (GState.mk r.Phase r.Cone r.Leaf r.At r.Edge r.Values r.Queue (min (r.Steps + 1) 1073741824)) = true := by
 have hV := (PValid8_iff s k st).1 h
 have hsp := hV.sp
 rcases VStt_ph hV with ⟨a, b⟩ | ⟨a, b⟩ | ⟨a, b⟩
 ·obtain ⟨e1, e2⟩ := Dem_nil b
  rw [expand_eq e1 e2 b.at_.2] at hr
  subst hr
  exact (PValid8_iff s k _).2 (dstep_V hV a b (by rw [dstep_Steps]; omega))
 ·omega
 ·omega
theorem PDep_L0 {s : GSystem} {cone : List Int} {leaf : List Bool} {i : Int} : ∀ (m : Nat) (out : List Int) (j : Int), 0 ≤ j → j + m = (cone.length : Int) → (∀ x ∈ out, 0 ≤ x ∧ x < (cone.length : Int)) → ∀ x ∈ cn_Dependents_L0 s cone leaf i m out j, 0 ≤ x ∧ x < (cone.length : Int)
 | 0, out, j, h0, h1, h => h
 | m + 1, out, j, h0, h1, h => by
  rw [cn_Dependents_L0]
  have hp : ∀ x ∈ out ++ [j], 0 ≤ x ∧ x < (cone.length : Int) := fun x hx => by
   rcases List.mem_append.1 hx with hx | hx
   ·exact h x hx
   ·simp at hx; omega
  simp only [Bool.cond_eq_ite]
  repeat' split
  all_goals first | exact PDep_L0 m _ (j + 1) (by omega) (by omega) hp | exact PDep_L0 m _ (j + 1) (by omega) (by omega) h
theorem PDep_mem {s : GSystem} {cone : List Int} {leaf : List Bool} {i : Int} {r : List Int} (h : cn_Dependents s cone leaf i = r) : ∀ x ∈ r, 0 ≤ x ∧ x < (cone.length : Int) := by
 subst h
 unfold cn_Dependents
 simp only [Bool.cond_eq_ite]
 repeat' split
 all_goals first | (intro x hx; cases hx; done) | exact PDep_L0 _ _ _ (by omega) (by omega) (by intro x hx; cases hx)
theorem PDep_L0_eq (s : GSystem) (cone : List Int) (leaf : List Bool) (i : Int) : ∀ (m : Nat) (o : List Int) (j : Int), cn_Dependents_L0 s cone leaf i m o j = qflqref14_Dependents_L0 s cone leaf i m o j
 | 0, o, j => rfl
 | m + 1, o, j => by rw [cn_Dependents_L0, qflqref14_Dependents_L0]; simp only [Contains_eq, PDep_L0_eq s cone leaf i m]
theorem PDep_eq {s : GSystem} (hv : VSys s) {cone : List Int} (hc : ∀ x ∈ cone, 0 ≤ x ∧ x < (s.Deps.length : Int)) {leaf : List Bool} (hl : leaf.length = cone.length) {i : Int} (h0 : 0 ≤ i) (h1 : i < (cone.length : Int)) : cn_Dependents s cone leaf i = depl s cone leaf i := by
 rw [← RDep_eq hv hc hl h0 h1]
 unfold cn_Dependents qflqref14_Dependents
 simp only [Valid_eq, unknowns_eq hv, PDep_L0_eq]
theorem merge_L0_len (a b : GSet) (f : BitVec 64 → BitVec 64 → BitVec 64) : ∀ (m : Nat) (o : List (BitVec 64)) (i : Int), (bt_merge_L0 a b f m o i).length = o.length
 | 0, o, i => rfl
 | m + 1, o, i => by rw [bt_merge_L0, merge_L0_len a b f m]; simp
theorem merge_L0_get (a b : GSet) (f : BitVec 64 → BitVec 64 → BitVec 64) : ∀ (m : Nat) (o : List (BitVec 64)) (i : Int), 0 ≤ i → i + m = (o.length : Int) → ∀ j : Nat, j < o.length → (bt_merge_L0 a b f m o i).getD j 0#64 = if i ≤ (j : Int) then f (a.Words.getD j 0#64) (b.Words.getD j 0#64) else o.getD j 0#64
 | 0, o, i, h0, h1, j, hj => by
  rw [if_neg (by omega)]; rfl
 | m + 1, o, i, h0, h1, j, hj => by
  rw [bt_merge_L0, merge_L0_get a b f m _ (i + 1) (by omega) (by simp; omega) j (by simpa using hj)]
  rw [getD_set]
  by_cases e : i.toNat = j
  ·rw [if_neg (by omega), if_pos (by omega), if_pos (by omega), e]
  ·rw [if_neg (c := _ ∧ _) (fun h => e h.1)]
   by_cases h2 : i ≤ (j : Int)
   ·rw [if_pos (by omega), if_pos h2]
   ·rw [if_neg (by omega), if_neg h2]
theorem within_iff {s : GSet} {b : Int} (h : bt_within s b = true) : 0 ≤ b ∧ b < s.Width := by
 unfold bt_within at h
 simp [Bool.cond_eq_ite] at h; omega
theorem within_mk {s : GSet} {b : Int} (h : 0 ≤ b ∧ b < s.Width) : bt_within s b = true := by
 unfold bt_within
 simp [Bool.cond_eq_ite]; omega
theorem push_steps {s : GSystem} {st : GState} {r : Int × GState} (h : so_push s st = r) : r.2.Steps = st.Steps := by
 subst h
 unfold so_push
 simp only [Bool.cond_eq_ite]
 split <;> rfl
theorem Ints_self (a : List Int) : r7_Ints a a = true := by
 have := scan (fun r i => r7_Ints_L0 a a r i) (fun i => a.getD i.toNat 0 != a.getD i.toNat 0) false () (fun _ => rfl) (fun _ _ => rfl) ((((a.length : Nat) : Int) - 0).toNat) 0
 unfold r7_Ints
 rcases this with ⟨e, j, j1, j2, j3⟩ | ⟨e, h⟩
 ·simp at j3
 ·rw [e]; simp
theorem Same_iff (a b : GSet) : r1_Same a b = true ↔ a = b := by
 obtain ⟨wa, la⟩ := a; obtain ⟨wb, lb⟩ := b
 have sc := scan (fun r i => r1_Same_L0 ⟨wa, la⟩ ⟨wb, lb⟩ r i) (fun i => la.getD i.toNat 0#64 != lb.getD i.toNat 0#64) false () (fun _ => rfl) (fun _ _ => rfl) ((((la.length : Nat) : Int) - 0).toNat) 0
 unfold r1_Same
 by_cases h1 : wa = wb
 case neg => simp [h1]
 by_cases h2 : la.length = lb.length
 case neg =>
  have : (((la.length : Nat) : Int) != ((lb.length : Nat) : Int)) = true := by simp; omega
  simp only [h1, bne_self_eq_false, this, cond_true, cond_false]
  constructor
  ·intro h; cases h
  ·intro h; exact absurd (by cases h; rfl) h2
 have e2 : (((la.length : Nat) : Int) != ((lb.length : Nat) : Int)) = false := by simp [h2]
 simp only [h1, bne_self_eq_false, e2, cond_false]
 subst h1
 rcases sc with ⟨e, j, j1, j2, j3⟩ | ⟨e, h⟩
 ·rw [e]
  constructor
  ·intro h; cases h
  ·intro h; cases h; simp at j3
 ·rw [e]
  constructor
  ·intro _
   have : la = lb := by
    apply List.ext_getElem h2
    intro i i1 i2
    have := h (i : Int) (by omega) (by omega)
    simpa [List.getD, List.getElem?_eq_getElem i1, List.getElem?_eq_getElem i2] using this
   rw [this]
  ·intro _; rfl
theorem Same_refl (a : GSet) : r1_Same a a = true := (Same_iff a a).2 rfl
theorem Equal_words (a b : List (BitVec 64)) : sc_Equal_uint64 a b = r1_Same ⟨0, a⟩ ⟨0, b⟩ := by
 have h : ∀ m i, sc_Equal_uint64_L0 a b m i = r1_Same_L0 ⟨0, a⟩ ⟨0, b⟩ m i := by
  intro m
  induction m with
  | zero => intro i; rfl
  | succ m ih => intro i; rw [sc_Equal_uint64_L0, r1_Same_L0, ih]
 unfold sc_Equal_uint64 r1_Same
 rw [h]
 rfl
theorem bEqual_eq {w : Int} {a b : GSet} (ha : VSt w a) (hb : VSt w b) : bt_Equal a b = r1_Same a b := by
 have a1 := VSt_w ha; have b1 := VSt_w hb
 unfold bt_Equal
 have e : (a.Width == b.Width) = true := by rw [a1.2.2.1, b1.2.2.1]; simp
 simp only [VSt_pvalid ha, VSt_pvalid hb, e, cond_true]
 rw [Equal_words, Bool.eq_iff_iff, Same_iff, Same_iff]
 obtain ⟨wa, la⟩ := a; obtain ⟨wb, lb⟩ := b
 simp only at a1 b1
 rw [a1.2.2.1, b1.2.2.1]
 simp
theorem SameSets_iff (a b : List GSet) : r10_SameSets a b = true ↔ a = b := by
 have sc := scan (fun r i => r10_SameSets_L0 a b r i) (fun i => !(r1_Same (a.getD i.toNat default) (b.getD i.toNat default))) false () (fun _ => rfl) (fun _ _ => rfl) ((((a.length : Nat) : Int) - 0).toNat) 0
 unfold r10_SameSets
 by_cases h2 : a.length = b.length
 case neg =>
  have : (((a.length : Nat) : Int) != ((b.length : Nat) : Int)) = true := by simp; omega
  simp only [this, cond_true]
  constructor
  ·intro h; cases h
  ·intro h; exact absurd (by rw [h]) h2
 have e2 : (((a.length : Nat) : Int) != ((b.length : Nat) : Int)) = false := by simp [h2]
 simp only [e2, cond_false]
 rcases sc with ⟨e, j, j1, j2, j3⟩ | ⟨e, h⟩
 ·rw [e]
  constructor
  ·intro h; cases h
  ·intro h; subst h; rw [Same_refl] at j3; cases j3
 ·rw [e]
  constructor
  ·intro _
   apply List.ext_getElem h2
   intro i i1 i2
   have := h (i : Int) (by omega) (by omega)
   rw [Bool.not_eq_false', Same_iff] at this
   simpa [List.getD, List.getElem?_eq_getElem i1, List.getElem?_eq_getElem i2] using this
  ·intro _; rfl
theorem SameState_self (a : GState) : r14_SameState a a = true := by
 have sc := scan (fun r i => r14_SameState_L0 a a r i) (fun i => !((a.Leaf.getD i.toNat false) == (a.Leaf.getD i.toNat false))) false () (fun _ => rfl) (fun _ _ => rfl) ((((a.Leaf.length : Nat) : Int) - 0).toNat) 0
 unfold r14_SameState
 simp only [bne_self_eq_false, cond_false, Ints_self, (SameSets_iff a.Values a.Values).2 rfl, Bool.not_true]
 rcases sc with ⟨e, j, j1, j2, j3⟩ | ⟨e, h⟩
 ·simp at j3
 ·rw [e]
theorem pAnswer_eq {st : GState} (hp : st.Phase = 3) (hl : 1 ≤ st.Values.length) : so_Answer st = (vat st.Values 0, true) := by
 unfold so_Answer
 have : (((st.Values.length : Nat) : Int) == 0) = false := by rw [beq_eq_false_iff_ne]; omega
 simp only [hp, bne_self_eq_false, this, cond_false]; rfl
theorem Empty_L0_eq (s : GSystem) : ∀ (m : Nat) (o : List GSet) (n : Int), r10_Empty_L0 s m o n = o ++ List.replicate m (r1_Empty s.Width)
 | 0, o, n => by simp [r10_Empty_L0]
 | m + 1, o, n => by rw [r10_Empty_L0, Empty_L0_eq s m]; simp [List.replicate_succ]
theorem Empty_eq (s : GSystem) : r10_Empty s = List.replicate s.Boundary.length (r1_Empty s.Width) := by
 unfold r10_Empty
 rw [Empty_L0_eq, show ((((s.Boundary.length : Nat) : Int) - 0).toNat) = s.Boundary.length by omega]; rfl
theorem Empty_VV {s : GSystem} (hv : VSys s) : VVals s (r10_Empty s) := by
 have hw := hv.w
 rw [Empty_eq]
 refine ⟨by simp, fun g hg => ?_⟩
 rw [List.mem_replicate] at hg
 rw [hg.2]; exact Empty_V hw.1 hw.2
theorem values_len {s : GSystem} {v : List GSet} (h : r10_values s v = 0) : v.length = s.Boundary.length := by
 unfold r10_values at h
 by_cases e : (v.length : Int) = (s.Boundary.length : Int)
 ·omega
 ·have : ((v.length : Int) != (s.Boundary.length : Int)) = true := by simp [e]
  simp only [this, cond_true] at h
  cases h
theorem values_0 {s : GSystem} {v : List GSet} (h : VVals s v) : r10_values s v = 0 := by
 have sc := scan (fun r i => r10_values_L0 v r i) (fun i => !(r1_Valid (v.getD i.toNat default))) 1 () (fun _ => rfl) (fun _ _ => rfl) ((((v.length : Nat) : Int) - 0).toNat) 0
 have sc2 := scan (fun r i => r10_values_L1 s v r i) (fun i => (v.getD i.toNat default).Width != s.Width) 2 () (fun _ => rfl) (fun _ _ => rfl) ((((v.length : Nat) : Int) - 0).toNat) 0
 unfold r10_values
 have e : (((v.length : Nat) : Int) != ((s.Boundary.length : Nat) : Int)) = false := by rw [h.1]; simp
 simp only [e, cond_false]
 rcases sc with ⟨_, j, j1, j2, j3⟩ | ⟨e1, _⟩
 ·rw [VSt_valid (VVals_at h j1 (by have := h.1; omega))] at j3; cases j3
 ·rw [e1]
  rcases sc2 with ⟨_, j, j1, j2, j3⟩ | ⟨e2, _⟩
  ·rw [(VVals_at h j1 (by have := h.1; omega)).2] at j3; simp at j3
  ·simp only [e2]
theorem Has_eq {w : Int} {s : GSet} (h : VSt w s) (b : Int) : r1_Has s b = (decide (0 ≤ b) && (decide (b < w) && bitAt s.Words b)) := by
 have hv := VSt_valid h
 have hw := VSt_w h
 unfold r1_Has
 simp only [hv, cond_true]
 by_cases h0 : 0 ≤ b
 ·by_cases h1 : b < s.Width
  ·rw [ofInt_small (by omega), bit_test]
   simp only [decide_eq_true h0, decide_eq_true h1, decide_eq_true (show b < w by omega), cond_true, Bool.true_and]
   rfl
  ·simp only [decide_eq_true h0, decide_eq_false h1, decide_eq_false (show ¬ b < w by omega), cond_true, cond_false, Bool.true_and, Bool.false_and]
 ·simp only [decide_eq_false h0, cond_false, Bool.false_and]
theorem Has_rng {w : Int} {s : GSet} (h : VSt w s) {b : Int} (hb : r1_Has s b = true) : 0 ≤ b ∧ b < w := by
 rw [Has_eq h] at hb; simp at hb; exact ⟨hb.1, hb.2.1⟩
theorem Has_out {w : Int} {s : GSet} (h : VSt w s) {b : Int} (hb : ¬ (0 ≤ b ∧ b < w)) : r1_Has s b = false := by
 cases e : r1_Has s b with
 | false => rfl
 | true => exact absurd (Has_rng h e) hb
theorem set_ext {w : Int} {a b : GSet} (ha : VSt w a) (hb : VSt w b) (h : ∀ x : Int, 0 ≤ x → x < w → r1_Has a x = r1_Has b x) : a = b := by
 have a1 := VSt_w ha; have b1 := VSt_w hb
 obtain ⟨wa, la⟩ := a; obtain ⟨wb, lb⟩ := b
 simp only at a1 b1
 have : la = lb := by
  apply List.ext_getElem (by omega)
  intro i h1 h2
  apply BitVec.eq_of_getLsbD_eq
  intro j hj
  have key : bitAt la (64 * (i : Int) + j) = bitAt lb (64 * (i : Int) + j) := by
   by_cases hx : (64 * (i : Int) + j) < w
   ·have := h (64 * (i : Int) + j) (by omega) hx
    rw [Has_eq ha, Has_eq hb, decide_eq_true (show 0 ≤ (64 * (i : Int) + j) by omega), decide_eq_true hx] at this
    simpa using this
   ·rw [ha.1.2.2.2 _ (by show wa ≤ _; omega) (by show _ < 64 * (la.length : Int); omega), hb.1.2.2.2 _ (by show wb ≤ _; omega) (by show _ < 64 * (lb.length : Int); omega)]
  unfold bitAt at key
  rw [show ((64 * (i : Int) + j) / 64).toNat = i by omega, show ((64 * (i : Int) + j) % 64).toNat = j by omega] at key
  simpa [List.getD, List.getElem?_eq_getElem h1, List.getElem?_eq_getElem h2] using key
 rw [this, a1.2.2.1, b1.2.2.1]
theorem Empty_has {w : Int} (h0 : 0 ≤ w) (h1 : w ≤ 256) (x : Int) : r1_Has (r1_Empty w) x = false := by
 rw [Has_eq (Empty_V h0 h1)]
 have : bitAt (r1_Empty w).Words x = false := bitAt_replicate _ _
 rw [this]; simp
theorem Put_has {w : Int} {s : GSet} (h : VSt w s) {b : Int} (hb : 0 ≤ b ∧ b < w) (x : Int) : r1_Has (r1_Put s b) x = (r1_Has s x || x == b) := by
 have hw := VSt_w h
 rw [Has_eq (Put_V h hb), Has_eq h, Put_words h hb]
 by_cases hx : 0 ≤ x
 ·rw [bitAt_put hb.1 (by omega) x hx]
  by_cases h1 : x < w
  ·simp [hx, h1]
  ·have : (x == b) = false := by rw [beq_eq_false_iff_ne]; omega
   simp [h1, this]
 ·have : (x == b) = false := by rw [beq_eq_false_iff_ne]; omega
  simp [hx, this]
def msel (a b : GSet) (one two both : Bool) (x : Int) : Bool := bif r1_Has a x then bif r1_Has b x then both else one else bif r1_Has b x then two else false
theorem merge_spec {w : Int} {a b : GSet} (f : BitVec 64 → BitVec 64 → BitVec 64) (g : Bool → Bool → Bool) (hf : ∀ u v (j : Nat), (f u v).getLsbD j = g (u.getLsbD j) (v.getLsbD j)) (hg : g false false = false) (ha : VSt w a) (hb : VSt w b) :
  ∃ r, bt_merge a b f = (r, 0) ∧ VSt w r ∧ ∀ x, r1_Has r x = g (r1_Has a x) (r1_Has b x) := by
 have a1 := VSt_w ha; have b1 := VSt_w hb
 let o := bt_merge_L0 a b f a.Words.length (List.replicate a.Words.length 0#64) 0
 have ol : o.length = a.Words.length := by rw [merge_L0_len]; simp
 have hbit : ∀ x : Int, 0 ≤ x → x < 64 * (a.Words.length : Int) → bitAt o x = g (bitAt a.Words x) (bitAt b.Words x) := by
  intro x x0 x1
  unfold bitAt
  rw [merge_L0_get a b f a.Words.length (List.replicate a.Words.length 0#64) 0 (by omega) (by simp) (x / 64).toNat (by simp; omega), if_pos (by omega), hf]
 have hv : VSt w ⟨w, o⟩ := by
  refine ⟨⟨a1.1, a1.2.1, by show (o.length : Int) = _; rw [ol]; exact a1.2.2.2, fun x x0 x1 => ?_⟩, rfl⟩
  have x0 : w ≤ x := x0
  have x1 : x < 64 * (o.length : Int) := x1
  show bitAt o x = false
  rw [ol] at x1
  rw [hbit x (by omega) x1, ha.1.2.2.2 x (by omega) (by omega), hb.1.2.2.2 x (by omega) (by omega), hg]
 refine ⟨⟨w, o⟩, ?_, hv, fun x => ?_⟩
 ·unfold bt_merge
  have e : (a.Width != b.Width) = false := by rw [a1.2.2.1, b1.2.2.1]; simp
  rw [a1.2.2.1] at e
  simp only [VSt_pvalid ha, VSt_pvalid hb, Bool.not_true, cond_false, List.length_replicate, a1.2.2.1, e]
  rw [show ((((a.Words.length : Nat) : Int).toNat : Nat) : Int) - 0 = (a.Words.length : Int) by omega, Int.toNat_natCast]
 ·rw [Has_eq hv, Has_eq ha, Has_eq hb]
  by_cases x0 : 0 ≤ x
  ·by_cases x1 : x < w
   ·simp only [decide_eq_true x0, decide_eq_true x1, Bool.true_and]
    exact hbit x x0 (by omega)
   ·simp [x1, hg]
  ·simp [x0, hg]
theorem bDiff_spec {w : Int} {a b : GSet} (ha : VSt w a) (hb : VSt w b) : ∃ r, bt_Diff a b = (r, 0) ∧ VSt w r ∧ ∀ x, r1_Has r x = (r1_Has a x && !r1_Has b x) := by
 obtain ⟨r, e, hr, hh⟩ := merge_spec (fun x0 x1 => bt_Diff_1 x0 x1) (fun p q => p && !q) (fun u v j => by
  unfold bt_Diff_1
  rw [BitVec.getLsbD_and, BitVec.getLsbD_not]
  by_cases hj : j < 64
  ·simp [hj]
  ·simp [hj, BitVec.getLsbD_of_ge u j (by omega)]) rfl ha hb
 refine ⟨r, ?_, hr, hh⟩
 unfold bt_Diff; simp only [e]
theorem bHas_eq (s : GSet) (b : Int) : bt_Has s b = r1_Has s b := by
 unfold bt_Has
 rw [setValid_eq]
 cases hv : r1_Valid s with
 | false => unfold r1_Has; simp only [hv, cond_false]
 | true =>
  have h : VSt s.Width s := ⟨(RValid_iff s).1 hv, rfl⟩
  have hw := VSt_w h
  rw [Has_eq h]
  simp only [cond_true]
  cases hb : bt_within s b with
  | true =>
   have := within_iff hb
   simp only [cond_true, decide_eq_true this.1, decide_eq_true this.2, Bool.true_and]
   rw [pos_eq (by omega), bit_test]; rfl
  | false =>
   simp only [cond_false]
   unfold bt_within at hb
   simp [Bool.cond_eq_ite] at hb
   symm
   rw [Bool.eq_false_iff]
   simp; intro h1 h2; omega
theorem bWith_spec {w : Int} {s : GSet} (hs : VSt w s) {b : Int} (hb : 0 ≤ b ∧ b < w) : ∃ r, bt_With s b = (r, 0) ∧ VSt w r ∧ ∀ x, r1_Has r x = (r1_Has s x || x == b) := by
 have hw := VSt_w hs
 let q := s.Words.set (b / 64).toNat ((s.Words.getD (b / 64).toNat 0#64) &&& ~~~(1#64 <<< (b % 64).toNat))
 have ql : q.length = s.Words.length := by simp [q]
 have e1 : q.set (b / 64).toNat ((q.getD (b / 64).toNat 0#64) ||| (1#64 <<< (b % 64).toNat)) = (r1_Put s b).Words := by
  rw [Put_words hs hb]
  simp only [q]
  rw [List.set_set]
  congr 1
  rw [List.getD_eq_getElem?_getD, List.getElem?_set, if_pos rfl, if_pos (by omega)]
  simp only [Option.getD_some]
  apply BitVec.eq_of_getLsbD_eq
  intro j hj
  simp only [BitVec.getLsbD_or, BitVec.getLsbD_and, BitVec.getLsbD_not, hj, decide_true, Bool.true_and]
  all_goals (cases (s.Words.getD (b / 64).toNat 0#64).getLsbD j <;> cases (1#64 <<< (b % 64).toNat).getLsbD j <;> rfl)
 refine ⟨r1_Put s b, ?_, Put_V hs hb, Put_has hs hb⟩
 unfold bt_With bt_changed bt_put sc_Clone_uint64
 simp only [VSt_pvalid hs, within_mk (s := s) (b := b) (by omega), Bool.not_true, cond_false, cond_true]
 rw [pos_eq (by omega)]
 rw [e1]
 have : (r1_Put s b).Width = s.Width := rfl
 rw [← this]
theorem pApply_L0_spec {w : Int} {t : GTransfer} {s : GSet} (hs : VSt w s) (hc : ∀ c ∈ t.Copies, 0 ≤ c.To ∧ c.To < w) : ∀ (m : Nat) (o0 : Int) (o1 : List (BitVec 64)) (i : Int), 0 ≤ i → i + m = (t.Copies.length : Int) → VSt w ⟨o0, o1⟩ →
  VSt w ⟨(tf_apply_L0 t s m o0 o1 i).1, (tf_apply_L0 t s m o0 o1 i).2⟩ ∧ ∀ x, r1_Has ⟨(tf_apply_L0 t s m o0 o1 i).1, (tf_apply_L0 t s m o0 o1 i).2⟩ x = true ↔ r1_Has ⟨o0, o1⟩ x = true ∨ ∃ j : Int, i ≤ j ∧ j < i + m ∧ r1_Has s (t.Copies.getD j.toNat default).From = true ∧ (t.Copies.getD j.toNat default).To = x
 | 0, o0, o1, i, h0, h1, h => ⟨h, fun x => by
   constructor
   ·intro h; exact .inl h
   ·rintro (h | ⟨c, c1, c2, _⟩)
    ·exact h
    ·omega⟩
 | m + 1, o0, o1, i, h0, h1, h => by
  rw [tf_apply_L0]
  simp only [bHas_eq]
  cases hh : r1_Has s (t.Copies.getD i.toNat default).From with
  | false =>
   simp only [cond_false]
   obtain ⟨i1, i2⟩ := pApply_L0_spec (t := t) hs hc m o0 o1 (i + 1) (by omega) (by omega) h
   refine ⟨i1, fun x => (i2 x).trans ?_⟩
   constructor
   ·rintro (h | ⟨j, j1, j2, j3⟩)
    ·exact .inl h
    ·exact .inr ⟨j, by omega, by omega, j3⟩
   ·rintro (h | ⟨j, j1, j2, j3, j4⟩)
    ·exact .inl h
    ·by_cases e : j = i
     ·subst e; rw [hh] at j3; cases j3
     ·exact .inr ⟨j, by omega, by omega, j3, j4⟩
  | true =>
   simp only [cond_true]
   obtain ⟨r, e, hr, hrh⟩ := bWith_spec h (hc _ (getD_mem (xs := t.Copies) (i := i.toNat) (d := default) (by omega)))
   rw [e]
   obtain ⟨i1, i2⟩ := pApply_L0_spec (t := t) hs hc m r.Width r.Words (i + 1) (by omega) (by omega) hr
   refine ⟨i1, fun x => (i2 x).trans ?_⟩
   rw [show (⟨r.Width, r.Words⟩ : GSet) = r from rfl, hrh]
   simp only [Bool.or_eq_true, beq_iff_eq]
   constructor
   ·rintro ((h | h) | ⟨j, j1, j2, j3⟩)
    ·exact .inl h
    ·exact .inr ⟨i, by omega, by omega, hh, h.symm⟩
    ·exact .inr ⟨j, by omega, by omega, j3⟩
   ·rintro (h | ⟨j, j1, j2, j3, j4⟩)
    ·exact .inl (.inl h)
    ·by_cases e : j = i
     ·subst e; exact .inl (.inr j4.symm)
     ·exact .inr ⟨j, by omega, by omega, j3, j4⟩
def SSub (a b : GSet) : Prop := ∀ x, r1_Has a x = true → r1_Has b x = true
theorem SSub_rfl (a : GSet) : SSub a a := fun _ h => h
theorem SSub_trans {a b c : GSet} (h : SSub a b) (k : SSub b c) : SSub a c := fun x hx => k x (h x hx)
theorem SSub_antisymm {w : Int} {a b : GSet} (ha : VSt w a) (hb : VSt w b) (h : SSub a b) (k : SSub b a) : a = b :=
 set_ext ha hb fun x _ _ => by rw [Bool.eq_iff_iff]; exact ⟨h x, k x⟩
def Le (s : GSystem) (v u : List GSet) : Prop := ∀ n : Int, 0 ≤ n → n < (s.Boundary.length : Int) → SSub (vat v n) (vat u n)
theorem Le_trans {s : GSystem} {a b c : List GSet} (h : Le s a b) (k : Le s b c) : Le s a c := fun n a b => SSub_trans (h n a b) (k n a b)
def cnt (n w : Nat) (v : List GSet) : Nat := (List.range (n * w)).countP fun k => r1_Has (vat v ((k / w : Nat) : Int)) ((k % w : Nat) : Int)
theorem cnt_max (n w : Nat) (v : List GSet) : cnt n w v ≤ n * w := by
 have := List.countP_le_length (p := fun k => r1_Has (vat v ((k / w : Nat) : Int)) ((k % w : Nat) : Int)) (l := List.range (n * w))
 rw [List.length_range] at this; exact this
theorem cnt_lt {n w : Nat} {v u : List GSet} (h : ∀ i : Nat, i < n → SSub (vat v (i : Int)) (vat u (i : Int))) (hs : ∃ (i : Nat) (x : Nat), i < n ∧ x < w ∧ r1_Has (vat u (i : Int)) (x : Int) = true ∧ r1_Has (vat v (i : Int)) (x : Int) = false) : cnt n w v < cnt n w u := by
 obtain ⟨i, x, hi, hx, h1, h2⟩ := hs
 have hw : 0 < w := by omega
 refine countP_lt (fun k hk hp => ?_) ⟨i * w + x, ?_, ?_, ?_⟩
 ·rw [List.mem_range] at hk
  exact h _ ((Nat.div_lt_iff_lt_mul hw).2 hk) _ hp
 ·rw [List.mem_range]
  calc i * w + x < i * w + w := by omega
   _ = (i + 1) * w := by rw [Nat.add_mul, Nat.one_mul]
   _ ≤ n * w := Nat.mul_le_mul_right w hi
 ·rw [show (i * w + x) / w = i by rw [Nat.add_comm, Nat.add_mul_div_right _ _ hw, Nat.div_eq_of_lt hx, Nat.zero_add], show (i * w + x) % w = x by rw [Nat.add_comm, Nat.add_mul_mod_self_right, Nat.mod_eq_of_lt hx]]; exact h1
 ·rw [show (i * w + x) / w = i by rw [Nat.add_comm, Nat.add_mul_div_right _ _ hw, Nat.div_eq_of_lt hx, Nat.zero_add], show (i * w + x) % w = x by rw [Nat.add_comm, Nat.add_mul_mod_self_right, Nat.mod_eq_of_lt hx]]; exact h2
theorem vals_ext {s : GSystem} {v u : List GSet} (h1 : VVals s v) (h2 : VVals s u) (h : Le s v u) (k : Le s u v) : v = u := by
 have e1 := h1.1; have e2 := h2.1
 apply List.ext_getElem (by omega)
 intro i i1 i2
 have a := VVals_at h1 (n := (i : Int)) (by omega) (by omega)
 have b := VVals_at h2 (n := (i : Int)) (by omega) (by omega)
 have := SSub_antisymm a b (h i (by omega) (by omega)) (k i (by omega) (by omega))
 simpa [List.getD, List.getElem?_eq_getElem i1, List.getElem?_eq_getElem i2] using this
theorem vals_ne {s : GSystem} {v u : List GSet} (h1 : VVals s v) (h2 : VVals s u) (h : Le s v u) (hne : v ≠ u) : ∃ (i : Nat) (x : Nat), i < s.Boundary.length ∧ x < s.Width.toNat ∧ r1_Has (vat u (i : Int)) (x : Int) = true ∧ r1_Has (vat v (i : Int)) (x : Int) = false := by
 apply Classical.byContradiction
 intro hc
 refine hne (vals_ext h1 h2 h fun n n0 n1 x hx => ?_)
 cases hh : r1_Has (vat v n) x with
 | true => rfl
 | false =>
  exfalso
  have r := Has_rng (VVals_at h2 n0 n1) hx
  refine hc ⟨n.toNat, x.toNat, by omega, by omega, ?_, ?_⟩
  ·rw [Int.toNat_of_nonneg n0, Int.toNat_of_nonneg r.1]; exact hx
  ·rw [Int.toNat_of_nonneg n0, Int.toNat_of_nonneg r.1]; exact hh
theorem Empty_Le {s : GSystem} (hv : VSys s) (z : List GSet) : Le s (r10_Empty s) z := fun n n0 n1 x hx => by
 have hw := hv.w
 rw [Empty_eq] at hx
 unfold vat at hx
 rw [List.getD_eq_getElem?_getD, List.getElem?_replicate, if_pos (by omega)] at hx
 rw [Option.getD_some, Empty_has hw.1 hw.2] at hx; cases hx
theorem Of_L0_spec {m : List Int} {w : Int} (hm : ∀ x ∈ m, 0 ≤ x ∧ x < w) : ∀ (r k : Nat) (ws : List (BitVec 64)), k + r = m.length → VSt w ⟨w, ws⟩ → ∃ o, bt_Of_L0 m w r ws (k : Int) = .brk o ∧ VSt w ⟨w, o⟩ ∧ ∀ x, r1_Has ⟨w, o⟩ x = true ↔ r1_Has ⟨w, ws⟩ x = true ∨ x ∈ m.drop k
 | 0, k, ws, hk, h => by
  rw [bt_Of_L0, List.drop_of_length_le (by omega)]
  exact ⟨ws, rfl, h, fun x => by simp⟩
 | r + 1, k, ws, hk, h => by
  have hi : k < m.length := by omega
  have hb := hm _ (getD_mem (xs := m) (d := 0) hi)
  have hd : m.drop k = m.getD k 0 :: m.drop (k + 1) := by
   rw [List.drop_eq_getElem_cons hi]; simp [List.getD, hi]
  rw [bt_Of_L0, show ((k : Int)).toNat = k by omega, decide_eq_false (by omega), cond_false, decide_eq_false (by omega), cond_false, show ((k : Int) + 1) = ((k + 1 : Nat) : Int) by omega]
  try dsimp only
  have hp := put_eq (s := ⟨w, ws⟩) h hb
  dsimp only at hp
  obtain ⟨o, o1, o2, o3⟩ := Of_L0_spec hm r (k + 1) (bt_put ⟨w, ws⟩ (m.getD k 0)) (by omega) (by rw [hp]; exact Put_V h hb)
  refine ⟨o, o1, o2, fun x => ?_⟩
  rw [o3 x, hp, Put_has h hb, hd, List.mem_cons, Bool.or_eq_true, beq_iff_eq, or_assoc]
theorem Of_spec {m : List Int} {w : Int} (hw : 0 ≤ w ∧ w ≤ 256) (hm : ∀ x ∈ m, 0 ≤ x ∧ x < w) : ∃ s, bt_Of w m = (s, 0) ∧ VSt w s ∧ ∀ x, r1_Has s x = true ↔ x ∈ m := by
 have hE := Empty_V hw.1 hw.2
 have he : (r1_Empty w).Width = w := hE.2
 have hE' : VSt w ⟨w, (r1_Empty w).Words⟩ := by
  have : (⟨w, (r1_Empty w).Words⟩ : GSet) = r1_Empty w := rfl
  rw [this]; exact hE
 obtain ⟨o, o1, o2, o3⟩ := Of_L0_spec hm m.length 0 (r1_Empty w).Words (by omega) hE'
 refine ⟨⟨w, o⟩, ?_, o2, fun x => ?_⟩
 ·unfold bt_Of
  dsimp only
  rw [bEmpty_eq hw, he, show (((((m.length : Nat) : Int) : Int) - 0).toNat) = m.length by omega]
  rw [show ((0 : Nat) : Int) = 0 from rfl] at o1
  rw [o1]
 ·rw [o3 x, List.drop_zero]
  have : (⟨w, (r1_Empty w).Words⟩ : GSet) = r1_Empty w := rfl
  rw [this, Empty_has hw.1 hw.2]
  simp
theorem Mem_iff {w : Int} {s : GSet} (hs : VSt w s) (x : Int) : x ∈ mbs s ↔ r1_Has s x = true := by
 have hw := VSt_w hs
 unfold mbs
 rw [cb_iff, Has_eq hs, Bool.and_eq_true, Bool.and_eq_true, decide_eq_true_eq, decide_eq_true_eq]
 constructor
 ·rintro ⟨h1, h2⟩; exact ⟨by omega, by omega, h2⟩
 ·rintro ⟨h1, h2, h3⟩; exact ⟨by omega, h3⟩
theorem Set_fwd {B : List UInt8} {p : Nat} {s : GSet} {T : List UInt8} (hs : bt_Valid s = true) (hd : B.drop p = encS s ++ T) : Reader_Set (GReader.mk B (p : Int) false) = (s, GReader.mk B ((p + (encS s).length : Nat) : Int) false) := by
 have hv : VSt s.Width s := ⟨(PValid_iff s).1 hs, rfl⟩
 have hw := Valid_wd hs
 obtain ⟨hm, hr, hlen⟩ := mbs_asl hv
 unfold encS at hd ⊢
 rw [List.append_assoc, List.append_assoc] at hd
 have n1 := Number_fwd (most := 256) (n := s.Width) (by omega) (by omega) (by omega) hd
 have n2 := Number_fwd (B := B) (p := p + (U s.Width).length) (most := s.Width) (n := ((mbs s).length : Int)) (by omega) hlen (by omega) (T := dlu (-1) (mbs s) ++ T) (by rw [← List.drop_drop, hd, List.drop_left])
 have n3 := SetL_fwd (B := B) (mbs s) (-1) (p + (U s.Width).length + (U ((mbs s).length : Int)).length) T [] 0 (GReader.mk B (p : Int) false) rfl (List.pairwise_cons.2 ⟨fun x hx => by have := (hm.2.2 x hx).1; omega, hm.1⟩) (fun x hx => by have := (hm.2.2 x hx).2; omega) (by omega) (by rw [← List.drop_drop, ← List.drop_drop, hd, List.drop_left, List.drop_left])
 obtain ⟨s', o1, o2, o3⟩ := Of_spec (m := mbs s) (w := s.Width) hw hr
 have he : s' = s := set_ext o2 hv fun x _ _ => by
  rw [Bool.eq_iff_iff, o3 x, Mem_iff hv]
 unfold Reader_Set
 dsimp only
 rw [n1]
 dsimp only
 rw [n2]
 dsimp only
 rw [show ((((mbs s).length : Int) - 0).toNat) = (mbs s).length by omega, n3]
 dsimp only
 rw [List.nil_append, o1, he]
 simp [Nat.add_assoc]
theorem Sets_fwd {B : List UInt8} : ∀ (l : List GSet) (p : Nat) (T : List UInt8) (out : List GSet) (v : Int) (rd : GReader), rd.bytes = B → (∀ x ∈ l, bt_Valid x = true) → B.drop p = flS l ++ T → resume_Read_L1 rd l.length (p : Int) false out v = (((p + (flS l).length : Nat) : Int), false, out ++ l)
 | [], p, T, out, v, rd, hr, hx, hd => by rw [List.length_nil, resume_Read_L1, flS]; simp
 | x :: l, p, T, out, v, rd, hr, hx, hd => by
  rw [flS, List.append_assoc] at hd
  rw [List.length_cons, resume_Read_L1, hr, Set_fwd (hx x List.mem_cons_self) hd]
  try dsimp only
  rw [Sets_fwd l _ T (out ++ [x]) (v + 1) rd hr (fun y hy => hx y (List.mem_cons_of_mem _ hy)) (by rw [← List.drop_drop, hd, List.drop_left]), flS, List.length_append]
  simp [Nat.add_assoc]
theorem Read_fwd {B : List UInt8} {p : Nat} {st : GState} {T : List UInt8} (h : EO st) (hB : B.length ≤ 1073741824) (hd : B.drop p = encSt st ++ T) : resume_Read (GReader.mk B (p : Int) false) = (st, GReader.mk B ((p + (encSt st).length : Nat) : Int) false) := by
 have hp := h.ph
 have hc := h.cl
 have hv := h.vl
 have hl := h.ll
 have ha := h.ac
 have he := h.ec
 have hs := h.sc
 have hd' := hd
 unfold encSt at hd
 simp only [List.append_assoc] at hd
 have dr : ∀ {q : Nat} {X Y : List UInt8}, B.drop q = X ++ Y → B.drop (q + X.length) = Y := fun q => by rw [← List.drop_drop, q, List.drop_left]
 have e1 := Number_fwd (most := 3) (n := st.Phase) (by omega) (by omega) (by omega) hd
 have d1 := dr hd
 have e2 := Numbers_fwd (most := 1073741824) (by omega) hB h.cc d1
 have d2 := dr d1
 have e3 := Bools_fwd st.Leaf _ _ [] 0 (GReader.mk B (p : Int) false) rfl d2
 have d3 := dr d2
 have e4 := Number_fwd (most := 1073741824) (n := st.At) (by omega) (by omega) (by omega) d3
 have d4 := dr d3
 have e5 := Number_fwd (most := 1073741824) (n := st.Edge) (by omega) (by omega) (by omega) d4
 have d5 := dr d4
 have e6 := Number_fwd (most := 256) (n := ((st.Values.length : Nat) : Int)) (by omega) (by omega) (by omega) d5
 have d6 := dr d5
 have e7 := Sets_fwd st.Values _ _ [] 0 (GReader.mk B (p : Int) false) rfl h.vv d6
 have d7 := dr d6
 have e8 := Numbers_fwd (most := 1073741824) (by omega) hB h.qc d7
 have d8 := dr d7
 have e9 := Number_fwd (most := 1073741824) (n := st.Steps) (by omega) (by omega) (by omega) d8
 have hen := (encodable_iff st).2 h
 unfold resume_Read
 dsimp only
 rw [e1]
 dsimp only
 rw [e2]
 dsimp only
 rw [show (((((st.Cone.length : Nat) : Int) : Int) - 0).toNat) = st.Leaf.length by omega, e3]
 dsimp only
 rw [e4]
 dsimp only
 rw [e5]
 dsimp only
 rw [e6]
 dsimp only
 rw [show (((((st.Values.length : Nat) : Int) : Int) - 0).toNat) = st.Values.length by omega, e7]
 dsimp only
 rw [e8]
 dsimp only
 rw [e9]
 dsimp only
 rw [List.nil_append, List.nil_append, hen, Bool.not_true, cond_false]
 have hlen : (encSt st).length = (U st.Phase).length + (encN st.Cone).length + (flB st.Leaf).length + (U st.At).length + (U st.Edge).length + (U ((st.Values.length : Nat) : Int)).length + (flS st.Values).length + (encN st.Queue).length + (U st.Steps).length := by
  unfold encSt; simp only [List.length_append]; omega
 rw [hlen]
 simp [Nat.add_assoc]
theorem Decode_fwd {st : GState} (h : EO st) : resume_Decode (uvarint_Seal (encSt st)) = (st, 0) := by
 have hc := cont_Sealed (encSt st)
 have hn := Sealed_len (encSt st)
 have ho : uvarint_Open (uvarint_Seal (encSt st)) = 0 := by
  rw [Open_eq, hc, if_neg (by omega), if_pos rfl]
 unfold cont at hc
 have hr := Read_fwd (B := encSt st) (p := 0) (T := []) h (by have := encSt_le h; omega) (by rw [List.drop_zero, List.append_nil])
 rw [show ((0 : Nat) : Int) = 0 from rfl, Nat.zero_add] at hr
 unfold resume_Decode
 dsimp only
 rw [ho, hc, hr]
 unfold Reader_Done
 simp
theorem follows_iff (t : GTransfer) (a b : Int) : r1_follows t a b = true ↔ (a = b ∧ r1_Has t.Kill a = false) ∨ ∃ c ∈ t.Copies, c.From = a ∧ c.To = b := by
 have sc := scan (fun r i => r1_follows_L0 t a b r i) (fun i => (t.Copies.getD i.toNat default).From == a && (t.Copies.getD i.toNat default).To == b) true () (fun _ => rfl)
  (fun r i => by
   rw [r1_follows_L0]
   cases (t.Copies.getD i.toNat default).From == a <;> cases (t.Copies.getD i.toNat default).To == b <;> rfl) ((((t.Copies.length : Nat) : Int) - 0).toNat) 0
 have key : (r1_follows_L0 t a b ((((t.Copies.length : Nat) : Int) - 0).toNat) 0 = .ret true ∧ ∃ c ∈ t.Copies, c.From = a ∧ c.To = b) ∨ (r1_follows_L0 t a b ((((t.Copies.length : Nat) : Int) - 0).toNat) 0 = .brk () ∧ ¬ ∃ c ∈ t.Copies, c.From = a ∧ c.To = b) := by
  rcases sc with ⟨e, j, j1, j2, j3⟩ | ⟨e, h⟩
  ·refine .inl ⟨e, t.Copies.getD j.toNat default, getD_mem (by omega), ?_⟩
   simpa using j3
  ·refine .inr ⟨e, ?_⟩
   rintro ⟨c, hc, c1, c2⟩
   obtain ⟨j, j0, j1, rfl⟩ := (mem_getDg (d := default)).1 hc
   have := h j j0 (by omega)
   rw [c1, c2] at this
   simp at this
 unfold r1_follows
 by_cases h1 : a = b
 ·have e1 : (a == b) = true := by simp [h1]
  simp only [e1, cond_true]
  cases hk : r1_Has t.Kill a with
  | false => simp [h1]
  | true =>
   simp only [Bool.not_true, cond_false]
   rcases key with ⟨e, h⟩ | ⟨e, h⟩
   ·rw [e]; simp only [h, or_true]
   ·rw [e]; simp only [h, or_false]; simp
 ·have e1 : (a == b) = false := by simp [h1]
  simp only [e1, cond_false]
  rcases key with ⟨e, h⟩ | ⟨e, h⟩
  ·rw [e]; simp only [h, or_true]
  ·rw [e]; simp only [h, or_false]; simp [h1]
theorem value_L1_term (t : GTransfer) (s : GSet) (a : Int) : ∀ (m : Nat) (o0 : Int) (o1 : List (BitVec 64)) (b : Int), 1 ≤ m → s.Width < b + m → r1_value_L1 t s a m o0 o1 b ≠ .oof
 | 0, o0, o1, b, h0, h => by omega
 | m + 1, o0, o1, b, h0, h => by
  rw [r1_value_L1]
  cases r1_Has s a with
  | false => intro h; cases h
  | true =>
   by_cases hb : b < s.Width
   ·simp only [cond_true, decide_eq_true hb]
    cases r1_follows t a b with
    | false => exact value_L1_term t s a m _ _ (b + 1) (by omega) (by omega)
    | true => exact value_L1_term t s a m _ _ (b + 1) (by omega) (by omega)
   ·simp only [cond_true, decide_eq_false hb, cond_false]
    intro h; cases h
theorem value_L1_spec {w : Int} {t : GTransfer} {s : GSet} (hs : VSt w s) {a : Int} : ∀ (m : Nat) (o0 : Int) (o1 : List (BitVec 64)) (b : Int), 0 ≤ b → b ≤ w → w < b + m → VSt w ⟨o0, o1⟩ →
  ∃ p0 p1, r1_value_L1 t s a m o0 o1 b = .brk (p0, p1) ∧ VSt w ⟨p0, p1⟩ ∧ ∀ x, r1_Has ⟨p0, p1⟩ x = (r1_Has ⟨o0, o1⟩ x || (r1_Has s a && (decide (b ≤ x) && decide (x < w) && r1_follows t a x)))
 | 0, o0, o1, b, h0, h1, h2, h => by omega
 | m + 1, o0, o1, b, h0, h1, h2, h => by
  have hw := VSt_w hs
  rw [r1_value_L1]
  cases ha : r1_Has s a with
  | false => exact ⟨o0, o1, rfl, h, fun x => by simp⟩
  | true =>
   by_cases hb : b < s.Width
   ·have hbw : b < w := by omega
    simp only [cond_true, decide_eq_true hb]
    have e2 : ∀ x, x ≠ b → (decide (b + 1 ≤ x) && decide (x < w)) = (decide (b ≤ x) && decide (x < w)) := fun x hx => by
     rw [Bool.eq_iff_iff]; simp; omega
    cases hf : r1_follows t a b with
    | true =>
     obtain ⟨p0, p1, e, hv, hh⟩ := value_L1_spec (t := t) hs (a := a) m (r1_Put ⟨o0, o1⟩ b).Width (r1_Put ⟨o0, o1⟩ b).Words (b + 1) (by omega) (by omega) (by omega) (Put_V h ⟨h0, hbw⟩)
     refine ⟨p0, p1, e, hv, fun x => ?_⟩
     rw [hh x, ha, show (⟨(r1_Put ⟨o0, o1⟩ b).Width, (r1_Put ⟨o0, o1⟩ b).Words⟩ : GSet) = r1_Put ⟨o0, o1⟩ b from rfl, Put_has h ⟨h0, hbw⟩]
     by_cases ex : x = b
     ·subst ex; simp [hf, hbw]
     ·rw [e2 x ex]; simp [show (x == b) = false by rw [beq_eq_false_iff_ne]; exact ex]
    | false =>
     obtain ⟨p0, p1, e, hv, hh⟩ := value_L1_spec hs m o0 o1 (b + 1) (by omega) (by omega) (by omega) h
     refine ⟨p0, p1, e, hv, fun x => ?_⟩
     rw [hh x, ha]
     by_cases ex : x = b
     ·subst ex; simp [hf]
     ·rw [e2 x ex]
   ·simp only [cond_true, decide_eq_false hb, cond_false]
    refine ⟨o0, o1, rfl, h, fun x => ?_⟩
    have : (decide (b ≤ x) && decide (x < w)) = false := by rw [Bool.eq_false_iff]; simp; omega
    rw [this]; simp
theorem value_L0_spec {w : Int} {t : GTransfer} {s : GSet} (hs : VSt w s) : ∀ (m : Nat) (o0 : Int) (o1 : List (BitVec 64)) (a : Int), VSt w ⟨o0, o1⟩ →
  VSt w ⟨(r1_value_L0 t s m o0 o1 a).1, (r1_value_L0 t s m o0 o1 a).2⟩ ∧ ∀ x, r1_Has ⟨(r1_value_L0 t s m o0 o1 a).1, (r1_value_L0 t s m o0 o1 a).2⟩ x = true ↔ (r1_Has ⟨o0, o1⟩ x = true ∨ ∃ c, a ≤ c ∧ c < a + m ∧ r1_Has s c = true ∧ 0 ≤ x ∧ x < w ∧ r1_follows t c x = true)
 | 0, o0, o1, a, h => ⟨h, fun x => by
   constructor
   ·intro h; exact .inl h
   ·rintro (h | ⟨c, c1, c2, _⟩)
    ·exact h
    ·omega⟩
 | m + 1, o0, o1, a, h => by
  have hw := VSt_w hs
  obtain ⟨p0, p1, e, hv, hh⟩ := value_L1_spec (t := t) hs (a := a) (s.Width.toNat + 1) o0 o1 0 (by omega) (by omega) (by omega) h
  rw [r1_value_L0, e]
  obtain ⟨i1, i2⟩ := value_L0_spec (t := t) hs m p0 p1 (a + 1) hv
  refine ⟨i1, fun x => ?_⟩
  simp only
  rw [i2 x, hh x]
  simp only [Bool.or_eq_true, Bool.and_eq_true, decide_eq_true_eq]
  constructor
  ·rintro ((h | ⟨h1, h2, h3⟩) | ⟨c, c1, c2, c3⟩)
   ·exact .inl h
   ·exact .inr ⟨a, by omega, by omega, h1, h2.1, h2.2, h3⟩
   ·exact .inr ⟨c, by omega, by omega, c3⟩
  ·rintro (h | ⟨c, c1, c2, c3, c4, c5, c6⟩)
   ·exact .inl (.inl h)
   ·by_cases hc : c = a
    ·subst hc; exact .inl (.inr ⟨c3, ⟨c4, c5⟩, c6⟩)
    ·exact .inr ⟨c, by omega, by omega, c3, c4, c5, c6⟩
theorem Apply_spec {w : Int} {t : GTransfer} {s : GSet} (ht : VTr w t) (hs : VSt w s) : ∃ g, r1_Apply t s = (g, 0) ∧ VSt w g ∧ ∀ x, r1_Has g x = true ↔ r1_Has t.Gen x = true ∨ ∃ a, r1_Has s a = true ∧ 0 ≤ x ∧ x < w ∧ r1_follows t a x = true := by
 have hw := VSt_w hs
 have hg : VSt w t.Gen := ⟨(ValidTransfer_parts ht.1).1, ht.2⟩
 obtain ⟨i1, i2⟩ := value_L0_spec (t := t) hs (((s.Width : Int) - 0).toNat) t.Gen.Width t.Gen.Words 0 hg
 refine ⟨r1_value t s, ?_, i1, fun x => ?_⟩
 ·unfold r1_Apply
  have e : (t.Gen.Width != s.Width) = false := by rw [ht.2, hw.2.2.1]; simp
  simp only [ht.1, VSt_valid hs, e, Bool.not_true, cond_false]
 ·refine (i2 x).trans ?_
  rw [show (⟨t.Gen.Width, t.Gen.Words⟩ : GSet) = t.Gen from rfl]
  constructor
  ·rintro (h | ⟨c, c1, c2, c3⟩)
   ·exact .inl h
   ·exact .inr ⟨c, c3⟩
  ·rintro (h | ⟨c, c3, c4⟩)
   ·exact .inl h
   ·have := Has_rng hs c3
    exact .inr ⟨c, by omega, by omega, c3, c4⟩
def app (t : GTransfer) (g : GSet) : GSet := (r1_Apply t g).1
theorem app_V {w : Int} {t : GTransfer} {s : GSet} (ht : VTr w t) (hs : VSt w s) : VSt w (app t s) := by
 obtain ⟨g, e, h, _⟩ := Apply_spec ht hs; unfold app; rw [e]; exact h
theorem app_mono {w : Int} {t : GTransfer} {a b : GSet} (ht : VTr w t) (ha : VSt w a) (hb : VSt w b) (h : SSub a b) : SSub (app t a) (app t b) := by
 obtain ⟨g, e, _, hh⟩ := Apply_spec ht ha
 obtain ⟨g', e', _, hh'⟩ := Apply_spec ht hb
 unfold app; rw [e, e']
 intro x hx
 rcases (hh x).1 hx with h1 | ⟨c, c1, c2⟩
 ·exact (hh' x).2 (.inl h1)
 ·exact (hh' x).2 (.inr ⟨c, h c c1, c2⟩)
theorem PL.new {s : GSystem} (hv : VSys s) {cone : List Int} (hc : ∀ x ∈ cone, 0 ≤ x ∧ x < (s.Deps.length : Int)) {i : Int} (hi : 0 ≤ i ∧ i < (cone.length : Int)) {v : List GSet} {q : List Int} (h : PL s cone.length v q) {j : Int} (hj : 0 ≤ j ∧ j < (cone.length : Int)) : VSt s.Width (vat v j) ∧ VSt s.Width (app (Tr s (cone.getD i.toNat 0)) (vat v i)) := by
 have hl := h.vl
 have hci := hc _ (getD_mem (xs := cone) (i := i.toNat) (d := 0) (by omega))
 exact ⟨h.vv _ (getD_mem (by omega)), app_V (VSys_trV hv hci.1 hci.2) (h.vv _ (getD_mem (by omega)))⟩
structure SI (s : GSystem) (k : List GKnown) (v : List GSet) (st : GState) : Prop where
 sol : Sol s k st
 le : ∀ j : Int, 0 ≤ j → j < (st.Cone.length : Int) → SSub (vat st.Values j) (vat v (cN st j))
 lf : ∀ j : Int, 0 ≤ j → j < (st.Cone.length : Int) → st.Leaf.getD j.toNat false = true → vat st.Values j = vat v (cN st j)
 bd : ∀ j : Int, 0 ≤ j → j < (st.Cone.length : Int) → st.Leaf.getD j.toNat false = false → SSub (Bd s (cN st j)) (vat st.Values j)
 pr : ∀ a : Int, 0 ≤ a → a < (st.Cone.length : Int) → a ∉ st.Queue → ∀ j ∈ depl s st.Cone st.Leaf a, SSub (app (Tr s (cN st a)) (vat st.Values a)) (vat st.Values j)
theorem mix_L0_step (a b : GSet) (one two both : Bool) (r : Nat) (s0 : Int) (s1 : List (BitVec 64)) (k : Int) : r1_mix_L0 a b one two both (r + 1) s0 s1 k = bif msel a b one two both k then r1_mix_L0 a b one two both r (r1_Put ⟨s0, s1⟩ k).Width (r1_Put ⟨s0, s1⟩ k).Words (k + 1) else r1_mix_L0 a b one two both r s0 s1 (k + 1) := by
 rw [r1_mix_L0]
 unfold msel
 all_goals (cases r1_Has a k <;> cases r1_Has b k <;> cases one <;> cases two <;> cases both <;> rfl)
theorem mix_L0_spec {w : Int} {a b : GSet} {one two both : Bool} : ∀ (m : Nat) (s0 : Int) (s1 : List (BitVec 64)) (k : Int), 0 ≤ k → k + m ≤ w → VSt w ⟨s0, s1⟩ →
  VSt w ⟨(r1_mix_L0 a b one two both m s0 s1 k).1, (r1_mix_L0 a b one two both m s0 s1 k).2⟩ ∧ ∀ x, r1_Has ⟨(r1_mix_L0 a b one two both m s0 s1 k).1, (r1_mix_L0 a b one two both m s0 s1 k).2⟩ x = (r1_Has ⟨s0, s1⟩ x || (decide (k ≤ x) && decide (x < k + m) && msel a b one two both x))
 | 0, s0, s1, k, h0, h1, h => ⟨h, fun x => by
   have : (decide (k ≤ x) && decide (x < k + ((0 : Nat) : Int))) = false := by rw [Bool.eq_false_iff]; simp; try omega
   rw [this]; simp [r1_mix_L0]⟩
 | m + 1, s0, s1, k, h0, h1, h => by
  rw [mix_L0_step]
  cases hs : msel a b one two both k with
  | true =>
   simp only [cond_true]
   have hp := Put_V h (b := k) (by omega)
   obtain ⟨i1, i2⟩ := mix_L0_spec (a := a) (b := b) (one := one) (two := two) (both := both) m (r1_Put ⟨s0, s1⟩ k).Width (r1_Put ⟨s0, s1⟩ k).Words (k + 1) (by omega) (by omega) hp
   refine ⟨i1, fun x => ?_⟩
   rw [i2, show (⟨(r1_Put ⟨s0, s1⟩ k).Width, (r1_Put ⟨s0, s1⟩ k).Words⟩ : GSet) = r1_Put ⟨s0, s1⟩ k from rfl, Put_has h (by omega)]
   by_cases e : x = k
   ·subst e
    have q : (decide (x ≤ x) && decide (x < x + ((m + 1 : Nat) : Int))) = true := by simp; omega
    rw [q, hs]; simp
   ·have e1 : (x == k) = false := by rw [beq_eq_false_iff_ne]; exact e
    have e2 : (decide (k + 1 ≤ x) && decide (x < k + 1 + (m : Int))) = (decide (k ≤ x) && decide (x < k + ((m + 1 : Nat) : Int))) := by
     rw [Bool.eq_iff_iff]; simp; omega
    rw [e1, e2, Bool.or_false]
  | false =>
   simp only [cond_false]
   obtain ⟨i1, i2⟩ := mix_L0_spec (a := a) (b := b) (one := one) (two := two) (both := both) m s0 s1 (k + 1) (by omega) (by omega) h
   refine ⟨i1, fun x => ?_⟩
   rw [i2]
   by_cases e : x = k
   ·subst e
    simp [hs]
   ·have e2 : (decide (k + 1 ≤ x) && decide (x < k + 1 + (m : Int))) = (decide (k ≤ x) && decide (x < k + ((m + 1 : Nat) : Int))) := by
     rw [Bool.eq_iff_iff]; simp; omega
    rw [e2]
theorem mix_spec {w : Int} {a b : GSet} {one two both : Bool} (ha : VSt w a) (hb : VSt w b) : ∃ g, r1_mix a b one two both = (g, 0) ∧ VSt w g ∧ ∀ x, r1_Has g x = msel a b one two both x := by
 have a1 := VSt_w ha; have b1 := VSt_w hb
 have hs := mix_L0_spec (w := w) (a := a) (b := b) (one := one) (two := two) (both := both) w.toNat (r1_Empty w).Width (r1_Empty w).Words 0 (by omega) (by omega) (Empty_V a1.1 a1.2.1)
 refine ⟨_, ?_, hs.1, fun x => ?_⟩
 ·unfold r1_mix
  have e : (a.Width != b.Width) = false := by rw [a1.2.2.1, b1.2.2.1]; simp
  simp only [VSt_valid ha, VSt_valid hb, e, Bool.not_true, cond_false]
  rw [a1.2.2.1, show ((w : Int) - 0).toNat = w.toNat by omega]
 ·rw [hs.2, show (⟨(r1_Empty w).Width, (r1_Empty w).Words⟩ : GSet) = r1_Empty w from rfl, Empty_has a1.1 a1.2.1]
  by_cases hx : 0 ≤ x ∧ x < w
  ·rw [decide_eq_true hx.1, decide_eq_true (show x < 0 + (w.toNat : Int) by omega)]; simp
  ·have : (decide (0 ≤ x) && decide (x < 0 + (w.toNat : Int))) = false := by simp; omega
   rw [this]
   unfold msel
   rw [Has_out ha hx, Has_out hb hx]; rfl
theorem Union_spec {w : Int} {a b : GSet} (ha : VSt w a) (hb : VSt w b) : ∃ g, r1_Union a b = (g, 0) ∧ VSt w g ∧ ∀ x, r1_Has g x = (r1_Has a x || r1_Has b x) := by
 obtain ⟨g, e, h1, h2⟩ := mix_spec (one := true) (two := true) (both := true) ha hb
 refine ⟨g, ?_, h1, fun x => ?_⟩
 ·unfold r1_Union; simp only [e]
 ·rw [h2]; unfold msel; cases r1_Has a x <;> cases r1_Has b x <;> rfl
theorem bUnion_eq (a b : GSet) : bt_Union a b = r1_Union a b := by
 cases hva : bt_Valid a with
 | false => unfold bt_Union bt_merge r1_Union r1_mix; simp only [← setValid_eq, hva]; rfl
 | true =>
  cases hvb : bt_Valid b with
  | false => unfold bt_Union bt_merge r1_Union r1_mix; simp only [← setValid_eq, hva, hvb]; rfl
  | true =>
   by_cases hw : a.Width = b.Width
   ·have ha : VSt a.Width a := ⟨(PValid_iff a).1 hva, rfl⟩
    have hb : VSt a.Width b := ⟨(PValid_iff b).1 hvb, hw.symm⟩
    obtain ⟨r, e, hr, hh⟩ := merge_spec (fun x0 x1 => bt_Union_1 x0 x1) (· || ·) (fun u v j => by simp [bt_Union_1]) rfl ha hb
    obtain ⟨q, e', hq, hh'⟩ := Union_spec ha hb
    have : r = q := set_ext hr hq fun x _ _ => by rw [hh, hh']
    unfold bt_Union
    simp only [e, e', this]
   ·have e1 : (a.Width != b.Width) = true := by simp [hw]
    unfold bt_Union bt_merge r1_Union r1_mix; simp only [← setValid_eq, hva, hvb, e1]; rfl
theorem pApply_eq (t : GTransfer) (s : GSet) : tf_Apply t s = r1_Apply t s := by
 cases ht : tf_Valid t with
 | false => unfold tf_Apply r1_Apply; simp only [← transferValid_eq, ht]; rfl
 | true =>
  cases hs : bt_Valid s with
  | false => unfold tf_Apply r1_Apply; simp only [← transferValid_eq, ht, ← setValid_eq, hs]; rfl
  | true =>
   by_cases hw : t.Gen.Width = s.Width
   case neg =>
    have e1 : (t.Gen.Width != s.Width) = true := by simp [hw]
    unfold tf_Apply r1_Apply; simp only [← transferValid_eq, ht, ← setValid_eq, hs, e1]; rfl
   have hvt : r1_ValidTransfer t = true := by rw [← transferValid_eq]; exact ht
   have hVs : VSt s.Width s := ⟨(PValid_iff s).1 hs, rfl⟩
   obtain ⟨q, e, hq, hh⟩ := Apply_spec ⟨hvt, hw⟩ hVs
   have parts := ValidTransfer_parts hvt
   have hg : VSt s.Width t.Gen := ⟨parts.1, hw⟩
   have hk : VSt s.Width t.Kill := ⟨parts.2.1, by rw [← parts.2.2.1]; exact hw⟩
   have hcp := ValidTransfer_copies hvt
   rw [hw] at hcp
   obtain ⟨d, e1, hd, hhd⟩ := bDiff_spec hVs hk
   obtain ⟨u, e2, hu, hhu⟩ := Union_spec hd hg
   obtain ⟨i1, i2⟩ := pApply_L0_spec (t := t) hVs (fun c hc => (hcp c hc).2) t.Copies.length u.Width u.Words 0 (by omega) (by omega) hu
   rw [e]
   unfold tf_Apply
   have e3 : (t.Gen.Width != s.Width) = false := by simp [hw]
   simp only [ht, hs, e3, Bool.not_true, cond_false]
   have e4 : tf_apply t s = q := by
    unfold tf_apply
    simp only [e1, bUnion_eq, e2]
    rw [show ((((t.Copies.length : Nat) : Int) - 0).toNat) = t.Copies.length by omega]
    refine set_ext i1 hq fun x x0 x1 => ?_
    rw [Bool.eq_iff_iff, i2, hh, show (⟨u.Width, u.Words⟩ : GSet) = u from rfl, hhu, hhd]
    simp only [Bool.or_eq_true, Bool.and_eq_true, Bool.not_eq_true', follows_iff]
    constructor
    ·rintro ((⟨h1, h2⟩ | h) | ⟨j, j1, j2, j3, j4⟩)
     ·exact .inr ⟨x, h1, x0, x1, .inl ⟨rfl, h2⟩⟩
     ·exact .inl h
     ·exact .inr ⟨_, j3, x0, x1, .inr ⟨_, getD_mem (by omega), rfl, j4⟩⟩
    ·rintro (h | ⟨a, h1, _, _, h2 | ⟨c, hc, c1, c2⟩⟩)
     ·exact .inl (.inr h)
     ·obtain ⟨rfl, h2⟩ := h2; exact .inl (.inl ⟨h1, h2⟩)
     ·obtain ⟨j, j0, j1, rfl⟩ := (mem_getDg (d := default)).1 hc
      exact .inr ⟨j, j0, by omega, by rw [c1]; exact h1, c2⟩
   rw [e4]
theorem Join_V {w : Int} {a b : GSet} (ha : VSt w a) (hb : VSt w b) : VSt w (r1_Join a b) := by
 obtain ⟨g, e, h1, h2⟩ := Union_spec ha hb
 unfold r1_Join; simp only [e]; exact h1
theorem Join_has {w : Int} {a b : GSet} (ha : VSt w a) (hb : VSt w b) (x : Int) : r1_Has (r1_Join a b) x = (r1_Has a x || r1_Has b x) := by
 obtain ⟨g, e, h1, h2⟩ := Union_spec ha hb
 unfold r1_Join; simp only [e]; exact h2 x
theorem Join_sub {w : Int} {a b : GSet} (ha : VSt w a) (hb : VSt w b) : r1_Join a b = a ↔ ∀ x, r1_Has b x = true → r1_Has a x = true := by
 constructor
 ·intro e x hx
  have := Join_has ha hb x
  rw [e, hx, Bool.or_true] at this; exact this
 ·intro h
  refine set_ext (Join_V ha hb) ha fun x _ _ => ?_
  rw [Join_has ha hb]
  cases e : r1_Has b x with
  | false => simp
  | true => rw [h x e]; rfl
theorem Join_l {w : Int} {a b : GSet} (ha : VSt w a) (hb : VSt w b) : SSub a (r1_Join a b) := fun x h => by rw [Join_has ha hb, h]; rfl
theorem Join_r {w : Int} {a b : GSet} (ha : VSt w a) (hb : VSt w b) : SSub b (r1_Join a b) := fun x h => by rw [Join_has ha hb, h]; simp
theorem Join_le {w : Int} {a b c : GSet} (ha : VSt w a) (hb : VSt w b) (h : SSub a c) (k : SSub b c) : SSub (r1_Join a b) c := fun x hx => by
 rw [Join_has ha hb, Bool.or_eq_true] at hx
 rcases hx with hx | hx
 ·exact h x hx
 ·exact k x hx
theorem Join_eq_left {w : Int} {a b : GSet} (ha : VSt w a) (hb : VSt w b) : r1_Join a b = a ↔ SSub b a := Join_sub ha hb
def pl (s : GSystem) (cone : List Int) (i : Int) : List Int → List GSet → List Int → List GSet × List Int
 | [], v, q => (v, q)
 | j :: l, v, q =>
  if r1_Same (r1_Join (vat v j) (app (Tr s (cone.getD i.toNat 0)) (vat v i))) (vat v j) = true then pl s cone i l v q
  else pl s cone i l (v.set j.toNat (r1_Join (vat v j) (app (Tr s (cone.getD i.toNat 0)) (vat v i)))) (if j ∈ q then q else q ++ [j])
theorem push_L0_eq {s : GSystem} (hv : VSys s) {st : GState} {d : List Int} (hd : ∀ x ∈ d, 0 ≤ x ∧ x < (st.Cone.length : Int)) (hc : ∀ x ∈ st.Cone, 0 ≤ x ∧ x < (s.Deps.length : Int)) (hi : 0 ≤ st.Queue.getD 0 0 ∧ st.Queue.getD 0 0 < (st.Cone.length : Int)) : ∀ (m : Nat) (v : List GSet) (q : List Int) (n : Int), 0 ≤ n → n + m = (d.length : Int) → v.length = st.Cone.length → (∀ g ∈ v, VSt s.Width g) →
  so_push_L0 s st d m v q n = pl s st.Cone (st.Queue.getD 0 0) (d.drop n.toNat) v q
 | 0, v, q, n, h0, h1, hl, hg => by rw [List.drop_eq_nil_of_le (by omega)]; rfl
 | m + 1, v, q, n, h0, h1, hl, hg => by
  have hj := hd _ (getD_mem (xs := d) (i := n.toNat) (d := 0) (by omega))
  have va : VSt s.Width (vat v (d.getD n.toNat 0)) := hg _ (getD_mem (by omega))
  have vi : VSt s.Width (vat v (st.Queue.getD 0 0)) := hg _ (getD_mem (by omega))
  have hci := hc _ (getD_mem (xs := st.Cone) (i := (st.Queue.getD 0 0).toNat) (d := 0) (by omega))
  have vp : VSt s.Width (app (Tr s (st.Cone.getD (st.Queue.getD 0 0).toNat 0)) (vat v (st.Queue.getD 0 0))) := app_V (VSys_trV hv hci.1 hci.2) vi
  have vj := Join_V va vp
  rw [so_push_L0, drop_cons h0 (by omega), pl]
  simp only [Contains_eq, Has_dec, pApply_eq, bUnion_eq]
  have e : bt_Equal (r1_Union (v.getD (d.getD n.toNat 0).toNat default) (r1_Apply (s.Transfers.getD (st.Cone.getD (st.Queue.getD (0 : Int).toNat 0).toNat 0).toNat default) (v.getD (st.Queue.getD (0 : Int).toNat 0).toNat default)).1).1 (v.getD (d.getD n.toNat 0).toNat default) = r1_Same (r1_Join (vat v (d.getD n.toNat 0)) (app (Tr s (st.Cone.getD (st.Queue.getD 0 0).toNat 0)) (vat v (st.Queue.getD 0 0)))) (vat v (d.getD n.toNat 0)) := bEqual_eq vj va
  rw [e]
  have ih : ∀ v' q', v'.length = st.Cone.length → (∀ g ∈ v', VSt s.Width g) → so_push_L0 s st d m v' q' (n + 1) = pl s st.Cone (st.Queue.getD 0 0) (d.drop (n + 1).toNat) v' q' := fun v' q' a b => push_L0_eq hv hd hc hi m v' q' (n + 1) (by omega) (by omega) a b
  have hset : ∀ g ∈ v.set (d.getD n.toNat 0).toNat (r1_Join (vat v (d.getD n.toNat 0)) (app (Tr s (st.Cone.getD (st.Queue.getD 0 0).toNat 0)) (vat v (st.Queue.getD 0 0)))), VSt s.Width g := fun g hg' => by
   rcases List.mem_or_eq_of_mem_set hg' with h | h
   ·exact hg g h
   ·rw [h]; exact vj
  cases hs : r1_Same (r1_Join (vat v (d.getD n.toNat 0)) (app (Tr s (st.Cone.getD (st.Queue.getD 0 0).toNat 0)) (vat v (st.Queue.getD 0 0)))) (vat v (d.getD n.toNat 0)) with
  | true =>
   simp only [cond_true, if_true]
   exact ih v q hl hg
  | false =>
   simp only [cond_false, Bool.false_eq_true, if_false]
   by_cases hq : d.getD n.toNat 0 ∈ q
   ·simp only [hq, decide_true, Bool.not_true, cond_false, if_true]
    exact ih _ q (by simp [hl]) hset
   ·simp only [hq, decide_false, Bool.not_false, cond_true, if_false]
    exact ih _ _ (by simp [hl]) hset
def pstep (s : GSystem) (st : GState) : GState :=
 let i := st.Queue.getD 0 0
 let r := pl s st.Cone i (depl s st.Cone st.Leaf i) st.Values (st.Queue.drop 1)
 ⟨if r.2 = [] then 3 else st.Phase, st.Cone, st.Leaf, st.At, st.Edge, r.1, r.2, st.Steps⟩
theorem push_eq {s : GSystem} {k : List GKnown} {st : GState} (h : VStt s k st) (hs : Sol s k st) (hp : st.Phase ≠ 3) : so_push s st = (pcost s st, pstep s st) := by
 obtain ⟨q1, q2, q3⟩ := Sol_q hs hp
 have eD : cn_Dependents s st.Cone st.Leaf (st.Queue.getD (0 : Int).toNat 0) = depl s st.Cone st.Leaf (st.Queue.getD 0 0) := PDep_eq h.v h.co.2 h.lf q2 q3
 unfold so_push
 simp only [eD, List.take_length]
 rw [push_L0_eq h.v (fun x hx => (mem_depl.1 hx).1) h.co.2 ⟨q2, q3⟩ _ _ _ _ (by omega) (by omega) hs.vl hs.vv]
 simp only [Int.toNat_zero, List.drop_zero]
 unfold pstep pcost
 simp only [show (1 : Int).toNat = 1 from rfl]
 generalize pl s st.Cone (st.Queue.getD 0 0) (depl s st.Cone st.Leaf (st.Queue.getD 0 0)) st.Values (List.drop 1 st.Queue) = r
 obtain ⟨r1, r2⟩ := r
 cases r2 with
 | nil => rfl
 | cons a l =>
  have : ((((a :: l).length : Nat) : Int) == 0) = false := by rw [beq_eq_false_iff_ne]; simp; omega
  simp only [this, cond_false]
  rw [if_neg (by simp)]
theorem PL.step {s : GSystem} (hv : VSys s) {cone : List Int} (hc : ∀ x ∈ cone, 0 ≤ x ∧ x < (s.Deps.length : Int)) {i : Int} (hi : 0 ≤ i ∧ i < (cone.length : Int)) {v : List GSet} {q : List Int} (h : PL s cone.length v q) {j : Int} (hj : 0 ≤ j ∧ j < (cone.length : Int)) :
  PL s cone.length (v.set j.toNat (r1_Join (vat v j) (app (Tr s (cone.getD i.toNat 0)) (vat v i)))) (if j ∈ q then q else q ++ [j]) := by
 obtain ⟨a, b⟩ := PL.new hv hc hi h hj
 refine ⟨by rw [List.length_set]; exact h.vl, mem_set_V h.vv (Join_V a b) _, ?_⟩
 split
 ·exact h.qo
 ·rename_i hn; exact okOut_push' h.qo hn hj.1 hj.2
theorem pl_PL {s : GSystem} (hv : VSys s) {cone : List Int} (hc : ∀ x ∈ cone, 0 ≤ x ∧ x < (s.Deps.length : Int)) {i : Int} (hi : 0 ≤ i ∧ i < (cone.length : Int)) : ∀ (l : List Int) (v : List GSet) (q : List Int), (∀ j ∈ l, 0 ≤ j ∧ j < (cone.length : Int)) → PL s cone.length v q → PL s cone.length (pl s cone i l v q).1 (pl s cone i l v q).2
 | [], v, q, hl, h => h
 | j :: l, v, q, hl, h => by
  rw [pl]
  have hj := hl j (List.mem_cons_self ..)
  split
  ·exact pl_PL hv hc hi l v q (fun x hx => hl x (List.mem_cons_of_mem _ hx)) h
  ·exact pl_PL hv hc hi l _ _ (fun x hx => hl x (List.mem_cons_of_mem _ hx)) (PL.step hv hc hi h hj)
theorem pstep_V {s : GSystem} {k : List GKnown} {st : GState} (h : VStt s k st) (hp : st.Phase = 2) (hs : Sol s k st) {n : Int} (hn : 0 ≤ n ∧ n ≤ 1073741824) : VStt s k (setSteps (pstep s st) n) := by
 obtain ⟨q1, q2, q3⟩ := Sol_q hs (by omega)
 have hpl := pl_PL h.v h.co.2 ⟨q2, q3⟩ (depl s st.Cone st.Leaf (st.Queue.getD 0 0)) st.Values (st.Queue.drop 1) (fun x hx => (mem_depl.1 hx).1) ⟨hs.vl, hs.vv, ⟨hs.qo.1.sublist (List.drop_sublist 1 st.Queue), fun x hx => hs.qo.2 x (List.mem_of_mem_drop hx)⟩⟩
 unfold pstep
 simp only
 generalize pl s st.Cone (st.Queue.getD 0 0) (depl s st.Cone st.Leaf (st.Queue.getD 0 0)) st.Values (st.Queue.drop 1) = r at hpl
 obtain ⟨r1, r2⟩ := r
 change VStt s k ⟨if r2 = [] then 3 else st.Phase, st.Cone, st.Leaf, st.At, st.Edge, r1, r2, n⟩
 refine ⟨h.v, h.kn, h.cn, h.co, h.lf, hn, .inr ⟨?_, (validSolve_iff _ _ _).2 ⟨hs.a0, hs.e0, hpl.vl, ?_, hpl.qo, hs.lf, hpl.vv, hs.cl⟩⟩⟩
 ·show (if r2 = [] then 3 else st.Phase) = 2 ∨ (if r2 = [] then 3 else st.Phase) = 3
  split
  ·exact .inr rfl
  ·exact .inl hp
 ·show r2 = [] ↔ (if r2 = [] then 3 else st.Phase) = 3
  split
  ·rename_i h; simp [h]
  ·rename_i h; simp only [h, false_iff]; omega
def sstep (s : GSystem) (k : List GKnown) (st : GState) : GState := setSteps (if st.Phase = 1 then dstep s k st else pstep s st) (min (st.Steps + 1) 1073741824)
theorem sstep_V {s : GSystem} {k : List GKnown} {st : GState} (h : VStt s k st) (hp : st.Phase ≠ 3) : VStt s k (sstep s k st) := by
 have hn : 0 ≤ min (st.Steps + 1) 1073741824 ∧ min (st.Steps + 1) 1073741824 ≤ 1073741824 := by have := h.sp; omega
 unfold sstep
 rcases VStt_ph h with ⟨a, b⟩ | ⟨a, b⟩ | ⟨a, b⟩
 ·rw [if_pos a]; exact dstep_V h a b hn
 ·rw [if_neg (by omega)]; exact pstep_V h a b hn
 ·exact absurd a hp
def run (s : GSystem) (k : List GKnown) : Nat → GState → GState × Int
 | 0, st => (st, 0)
 | n + 1, st => if st.Phase = 3 then (st, 0) else ((run s k n (sstep s k st)).1, scost s st + (run s k n (sstep s k st)).2)
theorem pstep_Steps (s : GSystem) (st : GState) : (pstep s st).Steps = st.Steps := rfl
theorem push_V {s : GSystem} {k : List GKnown} {st : GState} (h : so_Valid s k st = true) (hp : st.Phase = 2) (r : Int × GState) (hr : so_push s st = r) : so_Valid s k (GState.mk r.2.Phase r.2.Cone r.2.Leaf r.2.At r.2.Edge r.2.Values r.2.Queue (min (r.2.Steps + 1) 1073741824)) = true := by
 have hV := (PValid8_iff s k st).1 h
 have hsp := hV.sp
 rcases VStt_ph hV with ⟨a, b⟩ | ⟨a, b⟩ | ⟨a, b⟩
 ·omega
 ·rw [push_eq hV b (by omega)] at hr
  subst hr
  exact (PValid8_iff s k _).2 (pstep_V hV a b (by show 0 ≤ min ((pstep s st).Steps + 1) 1073741824 ∧ _; rw [pstep_Steps]; omega))
 ·omega
theorem sstep_1 {s : GSystem} {k : List GKnown} {st : GState} (h : st.Phase = 1) : sstep s k st = setSteps (dstep s k st) (min (st.Steps + 1) 1073741824) := by unfold sstep; rw [if_pos h]
structure GI (s : GSystem) (k : List GKnown) (v : List GSet) (cone : List Int) (leaf : List Bool) (i : Int) (l : List Int) (vs : List GSet) (q : List Int) : Prop where
 pl : PL s cone.length vs q
 le : ∀ j : Int, 0 ≤ j → j < (cone.length : Int) → SSub (vat vs j) (vat v (cone.getD j.toNat 0))
 lf : ∀ j : Int, 0 ≤ j → j < (cone.length : Int) → leaf.getD j.toNat false = true → vat vs j = vat v (cone.getD j.toNat 0)
 bd : ∀ j : Int, 0 ≤ j → j < (cone.length : Int) → leaf.getD j.toNat false = false → SSub (Bd s (cone.getD j.toNat 0)) (vat vs j)
 pr : ∀ a : Int, 0 ≤ a → a < (cone.length : Int) → a ∉ q → a ≠ i → ∀ j ∈ depl s cone leaf a, SSub (app (Tr s (cone.getD a.toNat 0)) (vat vs a)) (vat vs j)
 pi : i ∉ q → ∀ j ∈ depl s cone leaf i, j ∉ l → SSub (app (Tr s (cone.getD i.toNat 0)) (vat vs i)) (vat vs j)
structure Inv (s : GSystem) (k : List GKnown) (v : List GSet) (root : Int) (st : GState) : Prop where
 ok : VStt s k st
 si : st.Phase ≠ 1 → SI s k v st
 r : st.Cone.getD 0 0 = root
theorem inv_start {s : GSystem} {k : List GKnown} {v : List GSet} {root : Int} (h : VStt s k (qflqref14_Start root)) : Inv s k v root (qflqref14_Start root) := ⟨h, fun hn => absurd rfl hn, rfl⟩
theorem right_L0_spec {s : GSystem} (hv : VSys s) {v : List GSet} (hvv : VVals s v) {n : Int} (h0 : 0 ≤ n) (h1 : n < (s.Deps.length : Int)) : ∀ (m : Nat) (o0 : Int) (o1 : List (BitVec 64)) (i : Int), 0 ≤ i → i + m = ((deps s n).length : Int) → VSt s.Width ⟨o0, o1⟩ →
  VSt s.Width ⟨(r10_right_L0 s v n m o0 o1 i).1, (r10_right_L0 s v n m o0 o1 i).2⟩ ∧ ∀ x, r1_Has ⟨(r10_right_L0 s v n m o0 o1 i).1, (r10_right_L0 s v n m o0 o1 i).2⟩ x = true ↔ r1_Has ⟨o0, o1⟩ x = true ∨ ∃ j : Int, i ≤ j ∧ j < i + m ∧ r1_Has (app (s.Transfers.getD ((deps s n).getD j.toNat 0).toNat default) (v.getD ((deps s n).getD j.toNat 0).toNat default)) x = true
 | 0, o0, o1, i, a, b, h => ⟨h, fun x => by
   constructor
   ·intro h; exact .inl h
   ·rintro (h | ⟨c, c1, c2, _⟩)
    ·exact h
    ·omega⟩
 | m + 1, o0, o1, i, a, b, h => by
  rw [r10_right_L0]
  have hm := hv.dep_mem h0 h1 _ (getD_mem (xs := deps s n) (i := i.toNat) (d := 0) (by omega))
  have hap := app_V (VSys_trV hv hm.1 hm.2) (VVals_at hvv hm.1 (by have := hv.bl; omega))
  have hj := Join_V h hap
  obtain ⟨i1, i2⟩ := right_L0_spec hv hvv h0 h1 m (r1_Join ⟨o0, o1⟩ (app (s.Transfers.getD ((deps s n).getD i.toNat 0).toNat default) (v.getD ((deps s n).getD i.toNat 0).toNat default))).Width (r1_Join ⟨o0, o1⟩ (app (s.Transfers.getD ((deps s n).getD i.toNat 0).toNat default) (v.getD ((deps s n).getD i.toNat 0).toNat default))).Words (i + 1) (by omega) (by omega) hj
  refine ⟨i1, fun x => (i2 x).trans ?_⟩
  rw [show ∀ g : GSet, (⟨g.Width, g.Words⟩ : GSet) = g from fun _ => rfl, Join_has h hap, Bool.or_eq_true]
  constructor
  ·rintro ((h | h) | ⟨j, j1, j2, j3⟩)
   ·exact .inl h
   ·exact .inr ⟨i, by omega, by omega, h⟩
   ·exact .inr ⟨j, by omega, by omega, j3⟩
  ·rintro (h | ⟨j, j1, j2, j3⟩)
   ·exact .inl (.inl h)
   ·by_cases e : j = i
    ·subst e; exact .inl (.inr j3)
    ·exact .inr ⟨j, by omega, by omega, j3⟩
theorem right_V {s : GSystem} (hv : VSys s) {v : List GSet} (hvv : VVals s v) {n : Int} (h0 : 0 ≤ n) (h1 : n < (s.Deps.length : Int)) : VSt s.Width (r10_right s v n) :=
 (right_L0_spec hv hvv h0 h1 ((((((s.Deps.getD (n : Int).toNat []).length : Nat) : Int) : Int) - 0).toNat) ((s.Boundary.getD (n : Int).toNat default).Width) ((s.Boundary.getD (n : Int).toNat default).Words) 0 (by omega) (by unfold deps; omega) (VSys_bdV hv h0 h1)).1
theorem right_iff {s : GSystem} (hv : VSys s) {v : List GSet} (hvv : VVals s v) {n : Int} (h0 : 0 ≤ n) (h1 : n < (s.Deps.length : Int)) (x : Int) : r1_Has (r10_right s v n) x = true ↔ r1_Has (Bd s n) x = true ∨ ∃ m ∈ deps s n, r1_Has (app (Tr s m) (vat v m)) x = true := by
 refine ((right_L0_spec hv hvv h0 h1 ((((((s.Deps.getD (n : Int).toNat []).length : Nat) : Int) : Int) - 0).toNat) ((s.Boundary.getD (n : Int).toNat default).Width) ((s.Boundary.getD (n : Int).toNat default).Words) 0 (by omega) (by unfold deps; omega) (VSys_bdV hv h0 h1)).2 x).trans ?_
 rw [show ∀ g : GSet, (⟨g.Width, g.Words⟩ : GSet) = g from fun _ => rfl]
 constructor
 ·rintro (h | ⟨j, j1, j2, j3⟩)
  ·exact .inl h
  ·exact .inr ⟨_, getD_mem (by unfold deps; omega), j3⟩
 ·rintro (h | ⟨m, hm, h⟩)
  ·exact .inl h
  ·obtain ⟨j, j0, j1, rfl⟩ := mem_getD.1 hm
   exact .inr ⟨j, j0, by unfold deps at j1; omega, h⟩
def Fv (s : GSystem) (v : List GSet) : List GSet := (List.range s.Boundary.length).map fun i : Nat => r10_right s v (i : Int)
theorem Fv_len (s : GSystem) (v : List GSet) : (Fv s v).length = s.Boundary.length := by simp [Fv]
theorem Fv_at (s : GSystem) (v : List GSet) {n : Int} (h0 : 0 ≤ n) (h1 : n < (s.Boundary.length : Int)) : vat (Fv s v) n = r10_right s v n := by
 unfold vat Fv
 rw [List.getD_eq_getElem?_getD, List.getElem?_map, List.getElem?_range (by omega)]
 simp only [Option.map_some, Option.getD_some]
 rw [Int.toNat_of_nonneg h0]
theorem Fv_V {s : GSystem} (hv : VSys s) {v : List GSet} (hvv : VVals s v) : VVals s (Fv s v) := by
 refine ⟨Fv_len s v, fun g hg => ?_⟩
 unfold Fv at hg
 simp only [List.mem_map, List.mem_range] at hg
 obtain ⟨i, hi, rfl⟩ := hg
 exact right_V hv hvv (by omega) (by have := hv.bl; omega)
theorem right_mono {s : GSystem} (hv : VSys s) {v u : List GSet} (h1 : VVals s v) (h2 : VVals s u) (h : Le s v u) {n : Int} (n0 : 0 ≤ n) (n1 : n < (s.Deps.length : Int)) : SSub (r10_right s v n) (r10_right s u n) := fun x hx => by
 rcases (right_iff hv h1 n0 n1 x).1 hx with hx | ⟨m, hm, hx⟩
 ·exact (right_iff hv h2 n0 n1 x).2 (.inl hx)
 ·have md := hv.dep_mem n0 n1 m hm
  have hb := hv.bl
  exact (right_iff hv h2 n0 n1 x).2 (.inr ⟨m, hm, app_mono (VSys_trV hv md.1 md.2) (VVals_at h1 md.1 (by omega)) (VVals_at h2 md.1 (by omega)) (h m md.1 (by omega)) x hx⟩)
theorem Fv_mono {s : GSystem} (hv : VSys s) {v u : List GSet} (h1 : VVals s v) (h2 : VVals s u) (h : Le s v u) : Le s (Fv s v) (Fv s u) := fun n n0 n1 => by
 rw [Fv_at s v n0 n1, Fv_at s u n0 n1]; exact right_mono hv h1 h2 h n0 (by have := hv.bl; omega)
structure Least (s : GSystem) (u : List GSet) : Prop where
 v : VVals s u
 fix : Fv s u = u
 least : ∀ z, VVals s z → Le s (Fv s z) z → Le s u z
theorem fix_dep {s : GSystem} (hv : VSys s) {v : List GSet} (hl : Least s v) {n m : Int} (hn : 0 ≤ n ∧ n < (s.Deps.length : Int)) (hm : m ∈ deps s n) : SSub (app (Tr s m) (vat v m)) (vat v n) := fun x hx => by
 have hb := hv.bl
 have e : vat v n = r10_right s v n := by
  have := Fv_at s v hn.1 (show n < (s.Boundary.length : Int) by omega)
  rw [hl.fix] at this; exact this
 rw [e]
 exact (right_iff hv hl.v hn.1 hn.2 x).2 (.inr ⟨m, hm, hx⟩)
theorem fix_bd {s : GSystem} (hv : VSys s) {v : List GSet} (hl : Least s v) {n : Int} (hn : 0 ≤ n ∧ n < (s.Deps.length : Int)) : SSub (Bd s n) (vat v n) := fun x hx => by
 have hb := hv.bl
 have e : vat v n = r10_right s v n := by
  have := Fv_at s v hn.1 (show n < (s.Boundary.length : Int) by omega)
  rw [hl.fix] at this; exact this
 rw [e]
 exact (right_iff hv hl.v hn.1 hn.2 x).2 (.inl hx)
theorem GI_step {s : GSystem} (hv : VSys s) {k : List GKnown} {v : List GSet} (hl : Least s v) {cone : List Int} (hc : ∀ x ∈ cone, 0 ≤ x ∧ x < (s.Deps.length : Int)) {leaf : List Bool} {i : Int} (hi : 0 ≤ i ∧ i < (cone.length : Int)) {j : Int} {l : List Int} {vs : List GSet} {q : List Int} (hj : j ∈ depl s cone leaf i) (h : GI s k v cone leaf i (j :: l) vs q) :
  (r1_Same (r1_Join (vat vs j) (app (Tr s (cone.getD i.toNat 0)) (vat vs i))) (vat vs j) = true → GI s k v cone leaf i l vs q) ∧
  GI s k v cone leaf i l (vs.set j.toNat (r1_Join (vat vs j) (app (Tr s (cone.getD i.toNat 0)) (vat vs i)))) (if j ∈ q then q else q ++ [j]) := by
 have hb := hv.bl
 have hjj := mem_depl.1 hj
 obtain ⟨va, vp⟩ := PL.new hv hc hi h.pl hjj.1
 have hci := hc _ (getD_mem (xs := cone) (i := i.toNat) (d := 0) (by omega))
 have hcj := hc _ (getD_mem (xs := cone) (i := j.toNat) (d := 0) (by omega))
 have hlen := h.pl.vl
 refine ⟨fun he => ⟨h.pl, h.le, h.lf, h.bd, h.pr, fun hq a ha hal => ?_⟩, ?_⟩
 ·by_cases e : a = j
  ·subst e
   exact (Join_eq_left va vp).1 ((Same_iff _ _).1 he)
  ·exact h.pi hq a ha (fun hm => by
    rcases List.mem_cons.1 hm with hm | hm
    ·exact e hm
    ·exact hal hm)
 ·let x := r1_Join (vat vs j) (app (Tr s (cone.getD i.toNat 0)) (vat vs i))
  have hset : ∀ a : Int, 0 ≤ a → vat (vs.set j.toNat x) a = if a = j then x else vat vs a := fun a a0 => vat_set (by omega) a0
  have grow : ∀ a : Int, 0 ≤ a → SSub (vat vs a) (vat (vs.set j.toNat x) a) := fun a a0 => by
   rw [hset a a0]
   by_cases e : a = j
   ·subst e; rw [if_pos rfl]; exact Join_l va vp
   ·rw [if_neg e]; exact SSub_rfl _
  have hnl : leaf.getD j.toNat false = false := hjj.2.1
  have hjq : j ∈ (if j ∈ q then q else q ++ [j]) := by
   split
   ·assumption
   ·simp
  have hsubq : ∀ a, a ∈ q → a ∈ (if j ∈ q then q else q ++ [j]) := fun a ha => by
   split
   ·exact ha
   ·exact List.mem_append_left _ ha
  refine ⟨PL.step hv hc hi h.pl hjj.1, fun a a0 a1 => ?_, fun a a0 a1 al => ?_, fun a a0 a1 al => ?_, fun a a0 a1 aq ai b hb' => ?_, fun hq b hb' hbl => ?_⟩
  ·show SSub (vat (vs.set j.toNat x) a) _
   rw [hset a a0]
   by_cases e : a = j
   ·subst e; rw [if_pos rfl]
    refine Join_le va vp (h.le a a0 a1) (SSub_trans ?_ (fix_dep hv hl hcj hjj.2.2))
    exact app_mono (VSys_trV hv hci.1 hci.2) (h.pl.vv _ (getD_mem (by omega))) (VVals_at hl.v hci.1 (by omega)) (h.le i hi.1 hi.2)
   ·rw [if_neg e]; exact h.le a a0 a1
  ·show vat (vs.set j.toNat x) a = _
   rw [hset a a0]
   by_cases e : a = j
   ·subst e; rw [hnl] at al; cases al
   ·rw [if_neg e]; exact h.lf a a0 a1 al
  ·exact SSub_trans (h.bd a a0 a1 al) (grow a a0)
  ·show SSub (app _ (vat (vs.set j.toNat x) a)) (vat (vs.set j.toNat x) b)
   have aj : a ≠ j := fun e => aq (e ▸ hjq)
   rw [hset a a0, if_neg aj]
   exact SSub_trans (h.pr a a0 a1 (fun hm => aq (hsubq a hm)) ai b hb') (grow b (mem_depl.1 hb').1.1)
  ·show SSub (app _ (vat (vs.set j.toNat x) i)) (vat (vs.set j.toNat x) b)
   have ij : i ≠ j := fun e => hq (e ▸ hjq)
   rw [hset i hi.1, if_neg ij]
   by_cases e : b = j
   ·subst e
    rw [hset b (mem_depl.1 hb').1.1, if_pos rfl]; exact Join_r va vp
   ·refine SSub_trans (h.pi (fun hm => hq (hsubq i hm)) b hb' (fun hm => ?_)) (grow b (mem_depl.1 hb').1.1)
    rcases List.mem_cons.1 hm with hm | hm
    ·exact e hm
    ·exact hbl hm
theorem GI_pl {s : GSystem} (hv : VSys s) {k : List GKnown} {v : List GSet} (hl : Least s v) {cone : List Int} (hc : ∀ x ∈ cone, 0 ≤ x ∧ x < (s.Deps.length : Int)) {leaf : List Bool} {i : Int} (hi : 0 ≤ i ∧ i < (cone.length : Int)) : ∀ (l : List Int) (vs : List GSet) (q : List Int), (∀ j ∈ l, j ∈ depl s cone leaf i) → GI s k v cone leaf i l vs q → GI s k v cone leaf i [] (pl s cone i l vs q).1 (pl s cone i l vs q).2
 | [], vs, q, hj, h => h
 | j :: l, vs, q, hj, h => by
  rw [pl]
  obtain ⟨a, b⟩ := GI_step hv hl hc hi (hj j (List.mem_cons_self ..)) h
  split
  ·rename_i e
   exact GI_pl hv hl hc hi l _ _ (fun x hx => hj x (List.mem_cons_of_mem _ hx)) (a e)
  ·exact GI_pl hv hl hc hi l _ _ (fun x hx => hj x (List.mem_cons_of_mem _ hx)) b
theorem begin_SI {s : GSystem} {k : List GKnown} {v : List GSet} (hl : Least s v) (hk : KV s k v) {st : GState} (hV : VStt s k st) (hp : st.Phase = 2) {lf : List Bool} (hlf : st.Leaf = lf) (hv : st.Values = initV s k st.Cone lf) (hq : st.Queue = initQ st.Cone.length) : SI s k v st := by
 have hS : Sol s k st := by
  rcases VStt_ph hV with ⟨a, _⟩ | ⟨_, b⟩ | ⟨a, _⟩
  ·omega
  ·exact b
  ·omega
 have leaf : ∀ j : Int, 0 ≤ j → j < (st.Cone.length : Int) → st.Leaf.getD j.toNat false = true → vat st.Values j = vat v (cN st j) := fun j j0 j1 hj => by
  have hkf := hS.lf j j0 j1
  rw [hj] at hkf
  have hkf := of_decide_eq_true hkf.symm
  have := kfind_pos hkf
  rw [hv, initV_at s k st.Cone lf j0 j1]
  unfold initV1
  rw [← hlf, if_pos hj]
  have e := hk _ this.1
  rw [this.2] at e; exact e
 have bd : ∀ j : Int, 0 ≤ j → j < (st.Cone.length : Int) → st.Leaf.getD j.toNat false = false → vat st.Values j = Bd s (cN st j) := fun j j0 j1 hj => by
  rw [hv, initV_at s k st.Cone lf j0 j1]
  unfold initV1
  rw [← hlf, if_neg (by rw [hj]; simp)]; rfl
 refine ⟨hS, fun j j0 j1 => ?_, leaf, fun j j0 j1 hj => by rw [bd j j0 j1 hj]; exact SSub_rfl _, fun a a0 a1 hn => absurd (by rw [hq]; exact mem_initQ a0 a1) hn⟩
 cases hj : st.Leaf.getD j.toNat false with
 | true => rw [leaf j j0 j1 hj]; exact SSub_rfl _
 | false => rw [bd j j0 j1 hj]; exact fix_bd hV.v hl (hV.co.2 _ (getD_mem (xs := st.Cone) (i := j.toNat) (d := 0) (by omega)))
theorem inv_step {s : GSystem} {k : List GKnown} {v : List GSet} (hl : Least s v) (hk : KV s k v) {root : Int} {st : GState} (h : Inv s k v root st) (hp : st.Phase ≠ 3) : Inv s k v root (sstep s k st) := by
 have h1 := sstep_V h.ok hp
 have hcn := h.ok.cn
 rcases VStt_ph h.ok with ⟨a, b⟩ | ⟨a, b⟩ | ⟨a, b⟩
 ·by_cases hc : (dlf k st).getD st.At.toNat false = false ∧ st.Edge < ((dN s st st.At).length : Int)
  ·have e1 := sstep_1 (s := s) (k := k) a
   unfold dstep at e1
   rw [if_pos hc] at e1
   by_cases hm : (dN s st st.At).getD st.Edge.toNat 0 ∈ st.Cone
   ·rw [if_pos hm] at e1
    exact ⟨h1, fun hn => absurd (by rw [e1]; exact a) hn, by rw [e1]; exact h.r⟩
   ·rw [if_neg hm] at e1
    exact ⟨h1, fun hn => absurd (by rw [e1]; exact a) hn, by rw [e1]; exact (getD_app_left (by omega)).trans h.r⟩
  ·have e1 := sstep_1 (s := s) (k := k) a
   unfold dstep at e1
   rw [if_neg hc] at e1
   unfold dnext at e1
   by_cases hA : st.At + 1 < (st.Cone.length : Int)
   ·rw [if_pos hA] at e1
    exact ⟨h1, fun hn => absurd (by rw [e1]; exact a) hn, by rw [e1]; exact h.r⟩
   ·rw [if_neg hA] at e1
    exact ⟨h1, fun _ => begin_SI hl hk h1 (by rw [e1]; rfl) (lf := dlf k st) (by rw [e1]; rfl) (by rw [e1]; rfl) (by rw [e1]; rfl), by rw [e1]; exact h.r⟩
 ·have hS := h.si (by omega)
  obtain ⟨q1, q2, q3⟩ := Sol_q b hp
  have e1 : sstep s k st = setSteps (pstep s st) (min (st.Steps + 1) 1073741824) := by unfold sstep; rw [if_neg (by omega)]
  have nd : ∀ x, x ∈ st.Queue.drop 1 ↔ x ∈ st.Queue ∧ x ≠ st.Queue.getD 0 0 := by
   cases hq : st.Queue with
   | nil => rw [hq] at q1; simp at q1
   | cons x l =>
    have := b.qo.1
    rw [hq, List.nodup_cons] at this
    intro y
    simp only [List.drop_one, List.tail_cons, List.mem_cons, List.getD_cons_zero]
    constructor
    ·intro hy; exact ⟨.inr hy, fun e => this.1 (e ▸ hy)⟩
    ·rintro ⟨hy | hy, hne⟩
     ·exact absurd hy hne
     ·exact hy
  have g0 : GI s k v st.Cone st.Leaf (st.Queue.getD 0 0) (depl s st.Cone st.Leaf (st.Queue.getD 0 0)) st.Values (st.Queue.drop 1) := by
   refine ⟨⟨b.vl, b.vv, ⟨b.qo.1.sublist (List.drop_sublist 1 st.Queue), fun x hx => b.qo.2 x (List.mem_of_mem_drop hx)⟩⟩, hS.le, hS.lf, hS.bd, fun c c0 c1 cq ci => hS.pr c c0 c1 (fun hm => cq ((nd c).2 ⟨hm, ci⟩)), fun _ j hj hn => absurd hj hn⟩
  have g1 := GI_pl h.ok.v hl h.ok.co.2 ⟨q2, q3⟩ _ _ _ (fun j hj => hj) g0
  have hS1 : Sol s k (sstep s k st) := by
   rcases VStt_ph h1 with ⟨c, _⟩ | ⟨_, c⟩ | ⟨_, c⟩
   ·exfalso
    rw [e1] at c
    have c : (if (pl s st.Cone (st.Queue.getD 0 0) (depl s st.Cone st.Leaf (st.Queue.getD 0 0)) st.Values (st.Queue.drop 1)).2 = [] then 3 else st.Phase) = 1 := c
    split at c <;> omega
   ·exact c
   ·exact c
  refine ⟨h1, fun _ => ?_, by rw [e1]; exact h.r⟩
  rw [e1] at hS1 ⊢
  refine ⟨hS1, g1.le, g1.lf, g1.bd, fun c c0 c1 cq j hj => ?_⟩
  by_cases e : c = st.Queue.getD 0 0
  ·subst e; exact g1.pi cq j hj (by simp)
  ·exact g1.pr c c0 c1 cq e j hj
 ·exact absurd a hp
theorem inv_done {s : GSystem} {k : List GKnown} {v : List GSet} (hl : Least s v) {st : GState} (hV : VStt s k st) (h : SI s k v st) (hp : st.Phase = 3) : ∀ j : Int, 0 ≤ j → j < (st.Cone.length : Int) → vat st.Values j = vat v (cN st j) := by
 have hv := hV.v
 have hb := hv.bl
 have hq := h.sol.q3.2 hp
 let z : List GSet := (List.range s.Boundary.length).map fun n : Nat => if (n : Int) ∈ st.Cone then vat st.Values ((st.Cone.idxOf (n : Int) : Nat) : Int) else vat v (n : Int)
 have hz : ∀ n : Int, 0 ≤ n → n < (s.Boundary.length : Int) → vat z n = if n ∈ st.Cone then vat st.Values ((st.Cone.idxOf n : Nat) : Int) else vat v n := fun n n0 n1 => by
  unfold vat z
  rw [List.getD_eq_getElem?_getD, List.getElem?_map, List.getElem?_range (by omega)]
  simp only [Option.map_some, Option.getD_some, Int.toNat_of_nonneg n0]
  rfl
 have idx : ∀ n, n ∈ st.Cone → st.Cone.idxOf n < st.Cone.length ∧ st.Cone.getD (st.Cone.idxOf n) 0 = n := fun n hn => by
  have := List.idxOf_lt_length_of_mem hn
  refine ⟨this, ?_⟩
  rw [List.getD_eq_getElem?_getD, List.getElem?_eq_getElem this]
  simp
 have zV : VVals s z := by
  refine ⟨by simp [z], fun g hg => ?_⟩
  simp only [z, List.mem_map, List.mem_range] at hg
  obtain ⟨n, hn, rfl⟩ := hg
  split
  ·rename_i hm
   have := idx _ hm
   exact h.sol.vv _ (getD_mem (by have := h.sol.vl; omega))
  ·exact VVals_at hl.v (by omega) (by omega)
 have zle : Le s z v := fun n n0 n1 => by
  rw [hz n n0 n1]
  split
  ·rename_i hm
   have hi := idx _ hm
   have := h.le ((st.Cone.idxOf n : Nat) : Int) (by omega) (by omega)
   unfold cN at this
   rw [Int.toNat_natCast, hi.2] at this
   exact this
  ·exact SSub_rfl _
 have below : Le s (Fv s z) z := fun n n0 n1 => by
  rw [Fv_at s z n0 n1, hz n n0 n1]
  have n1' : n < (s.Deps.length : Int) := by omega
  have up : SSub (r10_right s z n) (vat v n) := by
   have e : vat v n = r10_right s v n := by
    have := Fv_at s v n0 n1
    rw [hl.fix] at this; exact this
   rw [e]; exact right_mono hv zV hl.v zle n0 n1'
  split
  ·rename_i hm
   have hi := idx _ hm
   have hcN : cN st ((st.Cone.idxOf n : Nat) : Int) = n := by unfold cN; rw [Int.toNat_natCast]; exact hi.2
   cases hlf : st.Leaf.getD ((st.Cone.idxOf n : Nat) : Int).toNat false with
   | true =>
    have := h.lf _ (by omega) (by omega) hlf
    rw [hcN] at this
    rw [this]; exact up
   | false =>
    intro x hx
    rcases (right_iff hv zV n0 n1' x).1 hx with hx | ⟨m, hm', hx⟩
    ·have := h.bd _ (by omega) (by omega) hlf
     rw [hcN] at this
     exact this x hx
    ·have md := hv.dep_mem n0 n1' m hm'
     have hkn : kfind k n 0 < 0 := by
      have := h.sol.lf ((st.Cone.idxOf n : Nat) : Int) (by omega) (by omega)
      rw [hlf, hcN] at this
      have := of_decide_eq_false this.symm; omega
     have hmc := h.sol.cl n hm hkn m hm'
     have hj := idx _ hmc
     have hcM : cN st ((st.Cone.idxOf m : Nat) : Int) = m := by unfold cN; rw [Int.toNat_natCast]; exact hj.2
     have := h.pr ((st.Cone.idxOf m : Nat) : Int) (by omega) (by omega) (by rw [hq]; simp) ((st.Cone.idxOf n : Nat) : Int) (mem_depl.2 ⟨⟨by omega, by omega⟩, hlf, by
      rw [Int.toNat_natCast, Int.toNat_natCast, hi.2, hj.2]; exact hm'⟩)
     rw [hcM] at this
     refine this x ?_
     rw [hz m md.1 (by omega), if_pos hmc] at hx
     exact hx
  ·exact up
 have up := hl.least z zV below
 intro j j0 j1
 have hr := hV.co.2 _ (getD_mem (xs := st.Cone) (i := j.toNat) (d := 0) (by omega))
 have hm : cN st j ∈ st.Cone := getD_mem (xs := st.Cone) (i := j.toNat) (d := 0) (by omega)
 have a := h.sol.vv _ (getD_mem (xs := st.Values) (i := j.toNat) (d := default) (by have := h.sol.vl; omega))
 have b := VVals_at hl.v hr.1 (show _ < (s.Boundary.length : Int) by omega)
 have ei : st.Cone.idxOf (cN st j) = j.toNat := by
  have h1 := idx _ hm
  have nd := nodup_getD.1 hV.co.1
  rcases Int.lt_or_le ((st.Cone.idxOf (cN st j) : Nat) : Int) j with h | h
  ·exact absurd (by rw [Int.toNat_natCast]; exact h1.2) (nd _ j (by omega) h j1)
  ·rcases Int.lt_or_eq_of_le h with h | h
   ·exact absurd (by rw [Int.toNat_natCast]; exact h1.2.symm) (nd j _ j0 h (by omega))
   ·omega
 refine SSub_antisymm a b (h.le j j0 j1) ?_
 have := up (cN st j) hr.1 (by show _ < (s.Boundary.length : Int); have := hr.2; unfold cN; omega)
 rw [hz (cN st j) hr.1 (by have := hr.2; unfold cN; omega), if_pos hm, ei, Int.toNat_of_nonneg j0] at this
 exact this
theorem Next_L0_spec {s : GSystem} (hv : VSys s) {v : List GSet} (hvv : VVals s v) : ∀ (m : Nat) (o : List GSet) (n : Int), 0 ≤ n → n + m = (s.Boundary.length : Int) → r10_Next_L0 s v m o n = .brk (o ++ (List.range' n.toNat m).map fun i : Nat => r10_right s v (i : Int))
 | 0, o, n, h0, h1 => by simp [r10_Next_L0]
 | m + 1, o, n, h0, h1 => by
  rw [r10_Next_L0]
  have e : r10_Right s v n = (r10_right s v n, 0) := by
   unfold r10_Right
   simp only [(RefValid_iff s).2 hv, values_0 hvv, decide_eq_false (show ¬ n < 0 by omega), decide_eq_false (show ¬ ((s.Boundary.length : Nat) : Int) ≤ n by omega)]
   rfl
  rw [e]
  simp only [bne_self_eq_false, cond_false]
  rw [Next_L0_spec hv hvv m _ (n + 1) (by omega) (by omega), List.range'_succ, show (n + 1).toNat = n.toNat + 1 by omega]
  simp [Int.toNat_of_nonneg h0]
theorem Next_eq {s : GSystem} (hv : VSys s) {v : List GSet} (hvv : VVals s v) : r10_Next s v = (Fv s v, 0) := by
 have hn := hv.n; have hb := hv.bl
 unfold r10_Next
 rw [show ((((max ((s.Boundary.length : Nat) : Int) 1) : Int) - 0).toNat) = s.Boundary.length by omega, Next_L0_spec hv hvv _ _ _ (by omega) (by omega)]
 simp only [List.nil_append, Fv, List.range_eq_range', Int.toNat_zero]
theorem Solve_L0_spec {s : GSystem} (hv : VSys s) : ∀ (m : Nat) (v : List GSet) (round : Int), VVals s v → Le s v (Fv s v) → s.Boundary.length * s.Width.toNat < cnt s.Boundary.length s.Width.toNat v + m →
  ∃ u r, r10_Solve_L0 s m v round = .ret (u, r, 0) ∧ VVals s u ∧ Fv s u = u ∧ ∀ z, VVals s z → Le s (Fv s z) z → Le s v z → Le s u z
 | 0, v, round, h1, h2, h3 => by have := cnt_max s.Boundary.length s.Width.toNat v; omega
 | m + 1, v, round, h1, h2, h3 => by
  rw [r10_Solve_L0, Next_eq hv h1]
  cases e : r10_SameSets (Fv s v) v with
  | true =>
   have e := (SameSets_iff _ _).1 e
   exact ⟨v, round, rfl, h1, e, fun z _ _ h => h⟩
  | false =>
   have hne : v ≠ Fv s v := fun h => by
    have := (SameSets_iff (Fv s v) v).2 h.symm
    rw [this] at e; cases e
   have hF := Fv_V hv h1
   have hlt := cnt_lt (n := s.Boundary.length) (w := s.Width.toNat) (fun i hi => h2 i (by omega) (by omega)) (vals_ne h1 hF h2 hne)
   obtain ⟨u, r, e1, e2, e3, e4⟩ := Solve_L0_spec hv m (Fv s v) (round + 1) hF (Fv_mono hv h1 hF h2) (by omega)
   exact ⟨u, r, e1, e2, e3, fun z hz hz2 hz3 => e4 z hz hz2 (Le_trans (Fv_mono hv h1 hz hz3) hz2)⟩
theorem Solve_term' {s : GSystem} (hv : VSys s) : ∃ u r, r10_Solve_L0 s (s.Boundary.length * s.Width.toNat + 2) (r10_Empty s) 0 = .ret (u, r, 0) ∧ VVals s u ∧ Fv s u = u ∧ ∀ z, VVals s z → Le s (Fv s z) z → Le s u z := by
 obtain ⟨u, r, e1, e2, e3, e4⟩ := Solve_L0_spec hv (s.Boundary.length * s.Width.toNat + 2) (r10_Empty s) 0 (Empty_VV hv) (Empty_Le hv _) (by omega)
 exact ⟨u, r, e1, e2, e3, fun z h1 h2 => e4 z h1 h2 (Empty_Le hv z)⟩
theorem Solve_term {s : GSystem} {r : List GSet} (h : r10_Valid s = true) (e : r10_Empty s = r) : r10_Solve_L0 s (s.Boundary.length * s.Width.toNat + 2) r 0 ≠ .oof := by
 subst e
 obtain ⟨u, r, e1, _⟩ := Solve_term' ((RefValid_iff s).1 h)
 rw [e1]; intro h; cases h
theorem Solve_spec {s : GSystem} (hv : VSys s) : ∃ u r, r10_Solve s = (u, r, 0) ∧ Least s u := by
 obtain ⟨u, r, e1, e2, e3, e4⟩ := Solve_term' hv
 refine ⟨u, r, ?_, e2, e3, e4⟩
 unfold r10_Solve
 simp only [(RefValid_iff s).2 hv, Bool.not_true, cond_false, e1]
theorem rSolve_len {s : GSystem} {r : List GSet × Int × Int} (h : r10_Solve s = r) (hv : VSys s) : r.1.length = s.Deps.length := by
 obtain ⟨u, k, e, hl⟩ := Solve_spec hv
 have := hv.bl
 rw [← h, e]
 have := hl.1.1
 dsimp only
 omega
theorem sane18_true : w18_sane = true := by kernel_rfl
theorem PRun_L0 {s : GSystem} {k : List GKnown} : ∀ (m : Nat) (st : GState) (total n : Int), VStt s k st → so_Run_L0 s k m st.Phase st.Cone st.Leaf st.At st.Edge st.Values st.Queue st.Steps total n =
  ((run s k m st).1.Phase, (run s k m st).1.Cone, (run s k m st).1.Leaf, (run s k m st).1.At, (run s k m st).1.Edge, (run s k m st).1.Values, (run s k m st).1.Queue, (run s k m st).1.Steps, total + (run s k m st).2)
 | 0, st, total, n, h => by simp [so_Run_L0, run]
 | m + 1, st, total, n, h => by
  rw [so_Run_L0, run]
  rw [show (⟨st.Phase, st.Cone, st.Leaf, st.At, st.Edge, st.Values, st.Queue, st.Steps⟩ : GState) = st from rfl]
  rcases VStt_ph h with ⟨a, b⟩ | ⟨a, b⟩ | ⟨a, b⟩
  ·obtain ⟨e1, e2⟩ := Dem_nil b
   rw [if_neg (by omega), beqI a, expand_eq e1 e2 b.at_.2]
   simp only [cond_true, dstep_Steps]
   have es : sstep s k st = setSteps (dstep s k st) (min (st.Steps + 1) 1073741824) := by unfold sstep; rw [if_pos a]
   have ih := PRun_L0 m (sstep s k st) (total + 1) (n + 1) (sstep_V h (by omega))
   rw [es] at ih
   refine ih.trans ?_
   have ec : scost s st = 1 := by unfold scost; rw [if_pos a]
   rw [ec, es, Int.add_assoc]
  ·rw [if_neg (by omega), bneI (show ¬ st.Phase = 1 by omega), beqI a, push_eq h b (by omega)]
   simp only [cond_true, cond_false]
   have es : sstep s k st = setSteps (pstep s st) (min (st.Steps + 1) 1073741824) := by unfold sstep; rw [if_neg (by omega)]
   have ih := PRun_L0 m (sstep s k st) (total + pcost s st) (n + 1) (sstep_V h (by omega))
   rw [es] at ih
   refine ih.trans ?_
   have ec : scost s st = pcost s st := by unfold scost; rw [if_neg (by omega)]
   rw [ec, es, Int.add_assoc]
  ·rw [if_pos a, bneI (show ¬ st.Phase = 1 by omega), bneI (show ¬ st.Phase = 2 by omega)]
   simp
theorem PRun_eq {s : GSystem} {k : List GKnown} {st : GState} (h : VStt s k st) {n : Int} (hn : 0 ≤ n) : so_Run s k st n = ((run s k n.toNat st).1, (run s k n.toNat st).2, 0) := by
 unfold so_Run
 simp only [(PValid8_iff s k st).2 h, copied_eq, decide_eq_false (show ¬ n < 0 by omega), Bool.not_true, cond_false]
 rw [PRun_L0 _ _ _ _ h]
 simp [show (n - 0).toNat = n.toNat by omega]
theorem PStep_eq {s : GSystem} {k : List GKnown} {st : GState} (h : VStt s k st) (hp : st.Phase ≠ 3) : so_Step s k st = (sstep s k st, scost s st, 0) := by
 unfold so_Step
 simp only [(PValid8_iff s k st).2 h, bneI hp, Bool.not_true, cond_false]
 rw [PRun_eq h (by omega : (0 : Int) ≤ 1)]
 simp only [show (1 : Int).toNat = 0 + 1 from rfl, run, if_neg hp, Int.add_zero]
theorem Cont_L0 {s : GSystem} {v : List GSet} {root : Int} (hl : Least s v) : ∀ (m : Nat) (st : GState) (n : Int), Inv s [] v root st → ∃ a, Inv s [] v root a ∧ w18_ResumeContinues_L0 s.Width s.Deps s.Transfers s.Boundary m st.Phase st.Cone st.Leaf st.At st.Edge st.Values st.Queue st.Steps st.Phase st.Cone st.Leaf st.At st.Edge st.Values st.Queue st.Steps n = .brk (a.Phase, a.Cone, a.Leaf, a.At, a.Edge, a.Values, a.Queue, a.Steps, a.Phase, a.Cone, a.Leaf, a.At, a.Edge, a.Values, a.Queue, a.Steps)
 | 0, st, n, h => ⟨st, h, rfl⟩
 | m + 1, st, n, h => by
  rw [w18_ResumeContinues_L0]
  by_cases hp : st.Phase = 3
  ·have : (st.Phase != 3) = false := by simp [hp]
   rw [this]; exact ⟨st, h, rfl⟩
  ·have e3 : (st.Phase != 3) = true := by simp [hp]
   have hkv : KV s [] v := fun y hy => by cases hy
   have h1 := inv_step hl hkv h hp
   have hE := VStt_EO h.ok
   rw [e3, cond_true, show (⟨s.Width, s.Deps, s.Transfers, s.Boundary⟩ : GSystem) = s from rfl, show (⟨st.Phase, st.Cone, st.Leaf, st.At, st.Edge, st.Values, st.Queue, st.Steps⟩ : GState) = st from rfl, PStep_eq h.ok hp, Enc_u hE]
   dsimp only
   rw [Decode_fwd hE]
   dsimp only
   rw [PStep_eq h.ok hp]
   dsimp only
   rw [SameState_self]
   exact Cont_L0 hl m (sstep s [] st) (n + 1) h1
theorem ResumeContinues_true (t : List Int) : w18_ResumeContinues t = true := by
 obtain ⟨hv, hd, _⟩ := System_facts (t := t) (k := 0) (n := 5) rfl (by omega)
 have hn := hv.n
 have h1 := Next_lt t (tp_System t 0 5).2 (((tp_System t 0 5).1.Deps.length : Nat) : Int) (by omega) (by omega)
 unfold w18_ResumeContinues
 dsimp only
 generalize tp_Next t (tp_System t 0 5).2 (((tp_System t 0 5).1.Deps.length : Nat) : Int) = R at h1 ⊢
 generalize (tp_System t 0 5).1 = s at hv hd hn h1 ⊢
 have h0 := start_V hv (vk_nil' _) (root := R.1) (by omega)
 obtain ⟨u, r, e, hu⟩ := Solve_spec hv
 obtain ⟨a, hI, ha⟩ := Cont_L0 hu 80 (qflqref14_Start R.1) 0 (inv_start h0)
 rw [show so_Start R.1 = qflqref14_Start R.1 from rfl, ha, e]
 dsimp only
 rw [show (⟨a.Phase, a.Cone, a.Leaf, a.At, a.Edge, a.Values, a.Queue, a.Steps⟩ : GState) = a from rfl, beq_self_eq_true, cond_true, Same_refl, cond_true, sane18_true]
 by_cases hp : a.Phase = 3
 ·have hsi := hI.si (by omega)
  have hvl := hsi.sol.vl
  have hcn := hI.ok.cn
  rw [pAnswer_eq hp (by omega)]
  dsimp only
  have hd0 := inv_done hu hI.ok hsi hp 0 (by omega) (by omega)
  have hr : vat a.Values 0 = u.getD R.1.toNat default := by
   rw [hd0]
   show vat u (a.Cone.getD 0 0) = _
   rw [hI.r]; rfl
  rw [hr, Same_refl]; rfl
 ·have : so_Answer a = (GSet.mk 0 [], false) := by
   unfold so_Answer
   rw [show (a.Phase != 3) = true by simpa using hp]; rfl
  rw [this]; rfl
theorem sl22 : slTy Tryz.prog 22 = some (3, 1, 8) := by kernel_rfl
theorem fo39_0 : fldOff Tryz.prog 39 0 = some 0 := by kernel_rfl
theorem sh3 : tyShape Tryz.prog 3 = some (false, 1) := by kernel_rfl
theorem ca112 : callable Tryz.prog 112 = true := by kernel_rfl
theorem fo39_1 : fldOff Tryz.prog 39 1 = some 1 := by kernel_rfl
theorem sh37 : tyShape Tryz.prog 37 = some (false, 1) := by kernel_rfl
theorem sl37 : slTy Tryz.prog 37 = some (68, 1, 8) := by kernel_rfl
theorem ca113 : callable Tryz.prog 113 = true := by kernel_rfl
theorem sh68 : tyShape Tryz.prog 68 = some (false, 1) := by kernel_rfl
theorem ca114 : callable Tryz.prog 114 = true := by kernel_rfl
theorem fmix : Tryz.prog.follows .mixedOrders = true := by kernel_rfl
theorem ca147 : callable Tryz.prog 147 = true := by kernel_rfl
theorem ca110 : callable Tryz.prog 110 = true := by kernel_rfl
theorem ca109 : callable Tryz.prog 109 = true := by kernel_rfl
theorem sl24 : slTy Tryz.prog 24 = some (39, 2, 32) := by kernel_rfl
theorem sh39 : tyShape Tryz.prog 39 = some (true, 2) := by kernel_rfl
theorem ca111 : callable Tryz.prog 111 = true := by kernel_rfl
theorem un3 : Tryz.prog.underlying 3 = some (.int .i64) := by kernel_rfl
theorem un69 : Tryz.prog.underlying 69 = some (.int .u64) := by kernel_rfl
theorem ca72 : callable Tryz.prog 72 = true := by kernel_rfl
theorem fo32_1 : fldOff Tryz.prog 32 1 = some 1 := by kernel_rfl
theorem sh29 : tyShape Tryz.prog 29 = some (false, 1) := by kernel_rfl
theorem sl29 : slTy Tryz.prog 29 = some (22, 1, 24) := by kernel_rfl
theorem ca151 : callable Tryz.prog 151 = true := by kernel_rfl
theorem fo32_2 : fldOff Tryz.prog 32 2 = some 2 := by kernel_rfl
theorem sh30 : tyShape Tryz.prog 30 = some (false, 1) := by kernel_rfl
theorem fo32_3 : fldOff Tryz.prog 32 3 = some 3 := by kernel_rfl
theorem sh24 : tyShape Tryz.prog 24 = some (false, 1) := by kernel_rfl
theorem sh22 : tyShape Tryz.prog 22 = some (false, 1) := by kernel_rfl
theorem ca152 : callable Tryz.prog 152 = true := by kernel_rfl
theorem ca153 : callable Tryz.prog 153 = true := by kernel_rfl
theorem ca155 : callable Tryz.prog 155 = true := by kernel_rfl
theorem ca154 : callable Tryz.prog 154 = true := by kernel_rfl
theorem ca175 : callable Tryz.prog 175 = true := by kernel_rfl
theorem ca70 : callable Tryz.prog 70 = true := by kernel_rfl
theorem fo108_0 : fldOff Tryz.prog 108 0 = some 0 := by kernel_rfl
theorem ca188 : callable Tryz.prog 188 = true := by kernel_rfl
theorem fo108_1 : fldOff Tryz.prog 108 1 = some 1 := by kernel_rfl
theorem sz22 : slZero Tryz.prog 22 = some [vi 0] := by kernel_rfl
theorem ca187 : callable Tryz.prog 187 = true := by kernel_rfl
theorem ze26 : zeroOf Tryz.prog 26 = some (.agg #[vi 0, .slice none 0 0, .slice none 0 0, vi 0, vi 0, .slice none 0 0, .slice none 0 0, vi 0]) := by kernel_rfl
theorem sl23 : slTy Tryz.prog 23 = some (4, 1, 1) := by kernel_rfl
theorem sz23 : slZero Tryz.prog 23 = some [vb false] := by kernel_rfl
theorem st26 : stTy Tryz.prog 26 = some ([(0, 1), (1, 1), (2, 1), (3, 1), (4, 1), (5, 1), (6, 1), (7, 1)], [vi 0, .slice none 0 0, .slice none 0 0, vi 0, vi 0, .slice none 0 0, .slice none 0 0, vi 0]) := by kernel_rfl
theorem sh26 : tyShape Tryz.prog 26 = some (true, 8) := by kernel_rfl
theorem fo26_1 : fldOff Tryz.prog 26 1 = some 1 := by kernel_rfl
theorem fo26_0 : fldOff Tryz.prog 26 0 = some 0 := by kernel_rfl
theorem fo26_2 : fldOff Tryz.prog 26 2 = some 2 := by kernel_rfl
theorem sh23 : tyShape Tryz.prog 23 = some (false, 1) := by kernel_rfl
theorem fo26_5 : fldOff Tryz.prog 26 5 = some 5 := by kernel_rfl
theorem fo26_6 : fldOff Tryz.prog 26 6 = some 6 := by kernel_rfl
theorem ca69 : callable Tryz.prog 69 = true := by kernel_rfl
theorem fo26_3 : fldOff Tryz.prog 26 3 = some 3 := by kernel_rfl
theorem fo26_4 : fldOff Tryz.prog 26 4 = some 4 := by kernel_rfl
theorem fo26_7 : fldOff Tryz.prog 26 7 = some 7 := by kernel_rfl
theorem ca71 : callable Tryz.prog 71 = true := by kernel_rfl
theorem un183 : Tryz.prog.underlying 183 = some (.array 64 5) := by kernel_rfl
theorem sh5 : tyShape Tryz.prog 5 = some (false, 1) := by kernel_rfl
theorem un78 : Tryz.prog.underlying 78 = some (.int .u32) := by kernel_rfl
theorem un5 : Tryz.prog.underlying 5 = some (.int .u8) := by kernel_rfl
theorem sl44 : slTy Tryz.prog 44 = some (5, 1, 1) := by kernel_rfl
theorem sz44 : slZero Tryz.prog 44 = some [.int .u8 0] := by kernel_rfl
theorem ca73 : callable Tryz.prog 73 = true := by kernel_rfl
theorem ca75 : callable Tryz.prog 75 = true := by kernel_rfl
theorem un68 : Tryz.prog.underlying 68 = some (.int .u64) := by kernel_rfl
theorem ca148 : callable Tryz.prog 148 = true := by kernel_rfl
theorem ca149 : callable Tryz.prog 149 = true := by kernel_rfl
theorem ca150 : callable Tryz.prog 150 = true := by kernel_rfl
theorem ca115 : callable Tryz.prog 115 = true := by kernel_rfl
theorem ca116 : callable Tryz.prog 116 = true := by kernel_rfl
theorem ze39 : zeroOf Tryz.prog 39 = some (.agg #[vi 0, .slice none 0 0]) := by kernel_rfl
theorem sz37 : slZero Tryz.prog 37 = some [u64 (0#64)] := by kernel_rfl
theorem st39 : stTy Tryz.prog 39 = some ([(0, 1), (1, 1)], [vi 0, .slice none 0 0]) := by kernel_rfl
theorem ca74 : callable Tryz.prog 74 = true := by kernel_rfl
theorem sh4 : tyShape Tryz.prog 4 = some (false, 1) := by kernel_rfl
theorem ca76 : callable Tryz.prog 76 = true := by kernel_rfl
theorem ca77 : callable Tryz.prog 77 = true := by kernel_rfl
theorem ca44 : callable Tryz.prog 44 = true := by kernel_rfl
theorem ca46 : callable Tryz.prog 46 = true := by kernel_rfl
theorem ca45 : callable Tryz.prog 45 = true := by kernel_rfl
theorem sl94 : slTy Tryz.prog 94 = some (9, 1, 16) := by kernel_rfl
theorem sz94 : slZero Tryz.prog 94 = some [.string (bs (Str.mk []))] := by kernel_rfl
theorem sh9 : tyShape Tryz.prog 9 = some (false, 1) := by kernel_rfl
theorem ca56 : callable Tryz.prog 56 = true := by kernel_rfl
theorem ca55 : callable Tryz.prog 55 = true := by kernel_rfl
theorem ca27 : callable Tryz.prog 27 = true := by kernel_rfl
theorem ca21 : callable Tryz.prog 21 = true := by kernel_rfl
theorem ca29 : callable Tryz.prog 29 = true := by kernel_rfl
theorem un9 : Tryz.prog.underlying 9 = some .string := by kernel_rfl
theorem un44 : Tryz.prog.underlying 44 = some (.slice 5) := by kernel_rfl
theorem ca63 : callable Tryz.prog 63 = true := by kernel_rfl
theorem ca62 : callable Tryz.prog 62 = true := by kernel_rfl
theorem st103 : stTy Tryz.prog 103 = some ([(0, 1), (1, 1), (2, 1)], [.slice none 0 0, vi 0, vb false]) := by kernel_rfl
theorem ca144 : callable Tryz.prog 144 = true := by kernel_rfl
theorem ca106 : callable Tryz.prog 106 = true := by kernel_rfl
theorem fo103_2 : fldOff Tryz.prog 103 2 = some 2 := by kernel_rfl
theorem fo103_1 : fldOff Tryz.prog 103 1 = some 1 := by kernel_rfl
theorem fo103_0 : fldOff Tryz.prog 103 0 = some 0 := by kernel_rfl
theorem sh44 : tyShape Tryz.prog 44 = some (false, 1) := by kernel_rfl
theorem ca64 : callable Tryz.prog 64 = true := by kernel_rfl
theorem ca107 : callable Tryz.prog 107 = true := by kernel_rfl
theorem ca145 : callable Tryz.prog 145 = true := by kernel_rfl
theorem ca146 : callable Tryz.prog 146 = true := by kernel_rfl
theorem ca108 : callable Tryz.prog 108 = true := by kernel_rfl
theorem ze32 : zeroOf Tryz.prog 32 = some (.agg #[vi 0, .slice none 0 0, .slice none 0 0, .slice none 0 0]) := by kernel_rfl
theorem ca39 : callable Tryz.prog 39 = true := by kernel_rfl
theorem st32 : stTy Tryz.prog 32 = some ([(0, 1), (1, 1), (2, 1), (3, 1)], [vi 0, .slice none 0 0, .slice none 0 0, .slice none 0 0]) := by kernel_rfl
theorem sh32 : tyShape Tryz.prog 32 = some (true, 4) := by kernel_rfl
theorem ca40 : callable Tryz.prog 40 = true := by kernel_rfl
theorem ca42 : callable Tryz.prog 42 = true := by kernel_rfl
theorem sz29 : slZero Tryz.prog 29 = some [.slice none 0 0] := by kernel_rfl
theorem sz24 : slZero Tryz.prog 24 = some [vi 0, .slice none 0 0] := by kernel_rfl
theorem ca43 : callable Tryz.prog 43 = true := by kernel_rfl
theorem sz30 : slZero Tryz.prog 30 = some [vi 0, .slice none 0 0, vi 0, .slice none 0 0, .slice none 0 0] := by kernel_rfl
theorem ca65 : callable Tryz.prog 65 = true := by kernel_rfl
theorem ca66 : callable Tryz.prog 66 = true := by kernel_rfl
theorem ca67 : callable Tryz.prog 67 = true := by kernel_rfl
theorem ca33 : callable Tryz.prog 33 = true := by kernel_rfl
theorem ca34 : callable Tryz.prog 34 = true := by kernel_rfl
theorem ca35 : callable Tryz.prog 35 = true := by kernel_rfl
theorem ca25 : callable Tryz.prog 25 = true := by kernel_rfl
theorem ca36 : callable Tryz.prog 36 = true := by kernel_rfl
theorem ca37 : callable Tryz.prog 37 = true := by kernel_rfl
theorem ca118 : callable Tryz.prog 118 = true := by kernel_rfl
theorem un4 : Tryz.prog.underlying 4 = some .bool := by kernel_rfl
theorem ca119 : callable Tryz.prog 119 = true := by kernel_rfl
theorem fo65_1 : fldOff Tryz.prog 65 1 = some 1 := by kernel_rfl
theorem fo65_0 : fldOff Tryz.prog 65 0 = some 0 := by kernel_rfl
theorem ca28 : callable Tryz.prog 28 = true := by kernel_rfl
theorem ca9 : callable Tryz.prog 9 = true := by kernel_rfl
theorem ca41 : callable Tryz.prog 41 = true := by kernel_rfl
theorem ca68 : callable Tryz.prog 68 = true := by kernel_rfl
theorem fo85_1 : fldOff Tryz.prog 85 1 = some 2 := by kernel_rfl
theorem fo85_2 : fldOff Tryz.prog 85 2 = some 4 := by kernel_rfl
theorem sh83 : tyShape Tryz.prog 83 = some (false, 1) := by kernel_rfl
theorem sl83 : slTy Tryz.prog 83 = some (108, 2, 16) := by kernel_rfl
theorem sh108 : tyShape Tryz.prog 108 = some (true, 2) := by kernel_rfl
theorem ze108 : zeroOf Tryz.prog 108 = some (.agg #[vi 0, vi 0]) := by kernel_rfl
theorem sh85 : tyShape Tryz.prog 85 = some (true, 5) := by kernel_rfl
theorem ca178 : callable Tryz.prog 178 = true := by kernel_rfl
theorem ca179 : callable Tryz.prog 179 = true := by kernel_rfl
theorem fo85_0 : fldOff Tryz.prog 85 0 = some 0 := by kernel_rfl
theorem ze85 : zeroOf Tryz.prog 85 = some (.agg #[vi 0, .slice none 0 0, vi 0, .slice none 0 0, .slice none 0 0]) := by kernel_rfl
theorem st85 : stTy Tryz.prog 85 = some ([(0, 2), (2, 2), (4, 1)], [vi 0, .slice none 0 0, vi 0, .slice none 0 0, .slice none 0 0]) := by kernel_rfl
theorem st108 : stTy Tryz.prog 108 = some ([(0, 1), (1, 1)], [vi 0, vi 0]) := by kernel_rfl
theorem sz83 : slZero Tryz.prog 83 = some [vi 0, vi 0] := by kernel_rfl
theorem fo32_0 : fldOff Tryz.prog 32 0 = some 0 := by kernel_rfl
theorem ca156 : callable Tryz.prog 156 = true := by kernel_rfl
theorem sl30 : slTy Tryz.prog 30 = some (85, 5, 88) := by kernel_rfl
theorem ca176 : callable Tryz.prog 176 = true := by kernel_rfl
theorem ca193 : callable Tryz.prog 193 = true := by kernel_rfl
theorem ca162 : callable Tryz.prog 162 = true := by kernel_rfl
theorem ca117 : callable Tryz.prog 117 = true := by kernel_rfl
theorem sl88 : slTy Tryz.prog 88 = some (144, 3, 40) := by kernel_rfl
theorem sh144 : tyShape Tryz.prog 144 = some (true, 3) := by kernel_rfl
theorem ze144 : zeroOf Tryz.prog 144 = some (.agg #[vi 0, vi 0, .slice none 0 0]) := by kernel_rfl
theorem fo144_0 : fldOff Tryz.prog 144 0 = some 0 := by kernel_rfl
theorem fo144_1 : fldOff Tryz.prog 144 1 = some 1 := by kernel_rfl
theorem ca158 : callable Tryz.prog 158 = true := by kernel_rfl
theorem ca157 : callable Tryz.prog 157 = true := by kernel_rfl
theorem ca159 : callable Tryz.prog 159 = true := by kernel_rfl
theorem ca120 : callable Tryz.prog 120 = true := by kernel_rfl
theorem ca177 : callable Tryz.prog 177 = true := by kernel_rfl
theorem ca160 : callable Tryz.prog 160 = true := by kernel_rfl
theorem ze23 : zeroOf Tryz.prog 23 = some (.slice none 0 0) := by kernel_rfl
theorem ca161 : callable Tryz.prog 161 = true := by kernel_rfl
theorem ca79 : callable Tryz.prog 79 = true := by kernel_rfl
theorem ca121 : callable Tryz.prog 121 = true := by kernel_rfl
theorem ca78 : callable Tryz.prog 78 = true := by kernel_rfl
theorem ca80 : callable Tryz.prog 80 = true := by kernel_rfl
theorem ca81 : callable Tryz.prog 81 = true := by kernel_rfl
theorem un22 : Tryz.prog.underlying 22 = some (.slice 3) := by kernel_rfl
theorem un23 : Tryz.prog.underlying 23 = some (.slice 4) := by kernel_rfl
theorem un37 : Tryz.prog.underlying 37 = some (.slice 68) := by kernel_rfl
theorem ca85 : callable Tryz.prog 85 = true := by kernel_rfl
theorem ca122 : callable Tryz.prog 122 = true := by kernel_rfl
theorem ca123 : callable Tryz.prog 123 = true := by kernel_rfl
theorem ca49 : callable Tryz.prog 49 = true := by kernel_rfl
theorem ca124 : callable Tryz.prog 124 = true := by kernel_rfl
theorem ca165 : callable Tryz.prog 165 = true := by kernel_rfl
theorem ca189 : callable Tryz.prog 189 = true := by kernel_rfl
theorem ca164 : callable Tryz.prog 164 = true := by kernel_rfl
theorem ca190 : callable Tryz.prog 190 = true := by kernel_rfl
theorem ca191 : callable Tryz.prog 191 = true := by kernel_rfl
theorem ca180 : callable Tryz.prog 180 = true := by kernel_rfl
theorem ca127 : callable Tryz.prog 127 = true := by kernel_rfl
theorem ca181 : callable Tryz.prog 181 = true := by kernel_rfl
theorem ca182 : callable Tryz.prog 182 = true := by kernel_rfl
theorem ca163 : callable Tryz.prog 163 = true := by kernel_rfl
theorem ca166 : callable Tryz.prog 166 = true := by kernel_rfl
theorem ca125 : callable Tryz.prog 125 = true := by kernel_rfl
theorem ca126 : callable Tryz.prog 126 = true := by kernel_rfl
theorem ca128 : callable Tryz.prog 128 = true := by kernel_rfl
theorem ca47 : callable Tryz.prog 47 = true := by kernel_rfl
theorem ca82 : callable Tryz.prog 82 = true := by kernel_rfl
theorem ca83 : callable Tryz.prog 83 = true := by kernel_rfl
theorem ca84 : callable Tryz.prog 84 = true := by kernel_rfl
theorem ca48 : callable Tryz.prog 48 = true := by kernel_rfl
theorem ca59 : callable Tryz.prog 59 = true := by kernel_rfl
theorem ca129 : callable Tryz.prog 129 = true := by kernel_rfl
theorem ca86 : callable Tryz.prog 86 = true := by kernel_rfl
theorem ca87 : callable Tryz.prog 87 = true := by kernel_rfl
theorem ca142 : callable Tryz.prog 142 = true := by kernel_rfl
theorem ca167 : callable Tryz.prog 167 = true := by kernel_rfl
theorem ca137 : callable Tryz.prog 137 = true := by kernel_rfl
theorem ca168 : callable Tryz.prog 168 = true := by kernel_rfl
theorem ca138 : callable Tryz.prog 138 = true := by kernel_rfl
theorem ca97 : callable Tryz.prog 97 = true := by kernel_rfl
theorem ca98 : callable Tryz.prog 98 = true := by kernel_rfl
theorem ca50 : callable Tryz.prog 50 = true := by kernel_rfl
theorem ca130 : callable Tryz.prog 130 = true := by kernel_rfl
theorem ca131 : callable Tryz.prog 131 = true := by kernel_rfl
theorem ca88 : callable Tryz.prog 88 = true := by kernel_rfl
theorem ca51 : callable Tryz.prog 51 = true := by kernel_rfl
theorem ca52 : callable Tryz.prog 52 = true := by kernel_rfl
theorem st65 : stTy Tryz.prog 65 = some ([(0, 1), (1, 1)], [.slice none 0 0, vi 0]) := by kernel_rfl
theorem ca6 : callable Tryz.prog 6 = true := by kernel_rfl
theorem ca19 : callable Tryz.prog 19 = true := by kernel_rfl
theorem ca20 : callable Tryz.prog 20 = true := by kernel_rfl
theorem ca14 : callable Tryz.prog 14 = true := by kernel_rfl
theorem ca22 : callable Tryz.prog 22 = true := by kernel_rfl
theorem ca15 : callable Tryz.prog 15 = true := by kernel_rfl
theorem ca23 : callable Tryz.prog 23 = true := by kernel_rfl
theorem ca24 : callable Tryz.prog 24 = true := by kernel_rfl
theorem ca12 : callable Tryz.prog 12 = true := by kernel_rfl
theorem fn147 (s : List Int) (sa0 : Option Addr) (sk0 : Nat) (fF : FuncId) (fC : List Value) (fp : Int → Bool) (fA : List SP) (hfc : callable Tryz.prog fF = true) (hfF : ∀ x ∈ s, i64ok x → FT Tryz.prog fF ([(vi x : Value)] ++ fC).toArray ([] ++ [pAll fA]) (fun _ : Unit => True) (fun _ => .bool (fp x)) (fun _ => [])) (rr : Int) (hrr : sc_IndexFunc_int s fp = rr) : FT Tryz.prog 147 #[vl sa0 sk0 s, .func (.func fF) #[] fC.toArray] [S sa0 sk0 s, pAll fA] (fun g : Unit => i64ok rr) (fun g => vi rr) (fun g => []) := by
 refine FTi Tryz.func147 fun w0 M0 F0 => Fb 8 0 fun _ => Fo 0 fun ho2 => ?_
 refine KS ?_
 refine Oq Va (KS ?_)
 refine Oq Vm (Oq (Vlen sl22) (Oq Vm (KS ?_)))
 refine Kl (γ := Nat × Int) (fun (r3, v8_4) => ⟨[(0, vl sa0 sk0 s), (1, .func (.func fF) #[] fC.toArray), (7, vi (s.length : Int)), (8, vi v8_4)], [S sa0 sk0 s, pAll fA], sc_IndexFunc_int_L0 s fp r3 v8_4 = sc_IndexFunc_int_L0 s fp (((s.length : Int) - 0).toNat) 0 ∧ r3 = ((s.length : Int) - v8_4).toNat ∧ (0 : Int) ≤ v8_4 ∧ v8_4 ≤ (s.length : Int) ∧ (-9223372036854775808 ≤ v8_4 ∧ v8_4 ≤ 9223372036854775807), r3⟩) (((s.length : Int) - 0).toNat, 0) [0, 1] ⟨rfl, rfl, aM1, aM1, aM1⟩ ?_
 rintro ⟨r3, v8_4⟩ ⟨hM5, hr6, hi7, hi8, hk9⟩
 refine JJ_nx fun _ _ hL hA => ?_; dsimp only at hL hA; subst hL hA
 refine Fb 8 0 fun _ => Fo 0 fun ho11 => KS ?_
 refine Oq Vlss (KS ?_)
 refine Kc ?_ ?_
 ·intro h12
  have g13 := dt h12
  obtain ⟨r14, rfl⟩ := scc (n := r3) aM1
  refine KS ?_
  refine Oq Vm (Oq Va (KS ?_))
  refine Oq Vm (Oq Vm (Oq Vm (Oq (Vi sl22 0) ?_)))
  have hb15 := ok1 (i := v8_4.toNat) ho11 rng
  refine Oq (VldI sh3 0) ?_
  refine JO_call [1] rfl rfl rfl (OpC.clo (asv := [(vi (s.getD v8_4.toNat 0) : Value)] ++ fC) rfl rfl hfc rfl (by simp)) (hfF (s.getD v8_4.toNat 0) (getD_mem rng)  pre) rfl fun _ _ => ?_
  refine KS ?_
  refine Kc ?_ ?_
  ·intro h16
   refine KS ?_
   refine Oq Vm (Oq Va (KS ?_))
   have hR18 := q2 hM5 (.ret v8_4) (by simp only [sc_IndexFunc_int_L0, h12, h16, cs4])
   have hq := q4 hrr v8_4 (by simp only [sc_IndexFunc_int, h12, h16, hR18, cs4]); subst hq
   exact Kr () rfl (.tmp rfl .nil) [] en
  intro h16
  refine KS ?_
  refine Oq Vadd (Oq Vm (KS ?_))
  exact Kg (r14, (v8_4 + 1)) [0, 1] ⟨(q3 hM5 (by simp only [sc_IndexFunc_int_L0, h12, h16, cs4])), aM1, aM1, aM1, aM1⟩
 intro h12
 have g20 := df h12
 obtain rfl : r3 = 0 := by omega
 refine Ke ?_
 have hR21 := q2 hM5 (.brk ()) (by simp only [sc_IndexFunc_int_L0, h12, cs4])
 refine KS ?_
 refine Oq Va (KS ?_)
 have hq := q4 hrr (-1) (by simp only [sc_IndexFunc_int, h12, hR21, cs4]); subst hq
 exact Kr () rfl (.tmp rfl .nil) [] en
theorem fn109 (s : List Int) (sa0 : Option Addr) (sk0 : Nat) (fF : FuncId) (fC : List Value) (fp : Int → Bool) (fA : List SP) (hfc : callable Tryz.prog fF = true) (hfF : ∀ x ∈ s, i64ok x → FT Tryz.prog fF ([(vi x : Value)] ++ fC).toArray ([] ++ [pAll fA]) (fun _ : Unit => True) (fun _ => .bool (fp x)) (fun _ => [])) (rr : Bool) (hrr : sc_ContainsFunc_int s fp = rr) : FT Tryz.prog 109 #[vl sa0 sk0 s, .func (.func fF) #[] fC.toArray] [S sa0 sk0 s, pAll fA] (fun g : Unit => True) (fun g => vb rr) (fun g => []) := by
 refine FTi Tryz.func109 fun w0 M0 F0 => Fb 8 0 fun _ => Fo 0 fun ho2 => ?_
 refine KS ?_
 refine Oq Va (KS ?_)
 refine Oq Vm (Oq Vm ?_)
 refine letv (sc_IndexFunc_int s fp) fun rv3 hg4 => ?_
 have hc5 := fn147 s sa0 sk0 fF fC fp fA hfc hfF rv3 hg4
 refine Oc [0, 1] ca147 hc5 ?_
 rintro - he6
 unfold i64ok at he6
 refine Oq Vgeq (Oq Va (KS ?_))
 have hq := q4 hrr (decide (0 ≤ rv3)) (by simp only [sc_ContainsFunc_int, hg4, cs4]); subst hq
 exact Kr () rfl (.tmp rfl .nil) [] trivial
theorem fn110 (n : Int) (hn_0 : i64ok n) (rr : Bool) (hrr : resume_counters_1 n = rr) : FT Tryz.prog 110 #[vi n] [] (fun g : Unit => True) (fun g => vb rr) (fun g => []) := by
 refine FTi Tryz.func110 fun w0 M0 F0 => ?_
 unfold i64ok at hn_0
 refine KS ?_
 refine Oq Va (KS ?_)
 refine Oq Vm (Oq Vlss (Oq Vm ?_))
 refine Js 5 ?_ ?_
 ·intro h1
  have g2 := dt h1
  refine Osk (Osk (Oq Vpt (Oq Va (KS ?_))))
  have hq := q4 hrr true (by simp only [resume_counters_1, h1, cs4]); subst hq
  exact Kr () rfl (.tmp rfl .nil) [] trivial
 intro h1
 have g3 := df h1
 refine Oq Vm (Oq Vgtr (Oq Vpf (Oq Va (KS ?_))))
 have hq := q4 hrr (decide (1073741824 < n)) (by simp only [resume_counters_1, h1, cs4]); subst hq
 exact Kr () rfl (.tmp rfl .nil) [] trivial
theorem fn69 (l : List Int) (la0 : Option Addr) (lk0 : Nat) (rr : Bool) (hrr : resume_counters l = rr) : FT Tryz.prog 69 #[vl la0 lk0 l] [S la0 lk0 l] (fun g : Unit => True) (fun g => vb rr) (fun g => []) := by
 refine FTi Tryz.func69 fun w0 M0 F0 => Fb 8 0 fun _ => Fo 0 fun ho2 => ?_
 refine KS ?_
 refine Oq Va (KS ?_)
 refine Oq Vm ?_
 refine JJ_ent (Ent.pall [] rfl rfl) ?_
 refine letv (sc_ContainsFunc_int l (fun x => resume_counters_1 x)) fun rv3 hg4 => ?_
 have hc5 := fn109 l la0 lk0 110 [] (fun x => resume_counters_1 x) [] ca110 (fun x hx hq0 => FT_pall (A1 := _) (fn110 x   hq0 _ rfl)) rv3 hg4
 refine Oc [1, 0] ca109 hc5 ?_
 rintro - -
 refine Oq Vnot (Oq Va (KS ?_))
 have hq := q4 hrr (!rv3) (by simp only [resume_counters, hg4, cs4]); subst hq
 exact Kr () rfl (.tmp rfl .nil) [] trivial
theorem fn111 (s : List GSet) (sa0 : Option Addr) (sk0 : Nat) (fF : FuncId) (fC : List Value) (fp : GSet → Bool) (fA : List SP) (hfc : callable Tryz.prog fF = true) (hfF : ∀ x ∈ s, ∀ (a1 : Option Addr) (k1 : Nat), i64ok x.Width → FT Tryz.prog fF ([(.agg #[vi x.Width, vl a1 k1 x.Words] : Value)] ++ fC).toArray ([S a1 k1 x.Words] ++ [pAll fA]) (fun _ : Unit => True) (fun _ => .bool (fp x)) (fun _ => [])) (rr : Int) (hrr : sc_IndexFunc_Set s fp = rr) : FT Tryz.prog 111 #[vl sa0 sk0 s, .func (.func fF) #[] fC.toArray] [S sa0 sk0 s, pAll fA] (fun g : Unit => i64ok rr) (fun g => vi rr) (fun g => []) := by
 refine FTi Tryz.func111 fun w0 M0 F0 => Fb 32 0 fun _ => ?_
 refine KS ?_
 refine Oq Va (KS ?_)
 refine Oq Vm (Oq (Vlen sl24) (Oq Vm (KS ?_)))
 refine Kl (γ := Nat × Int) (fun (r2, v8_3) => ⟨[(0, vl sa0 sk0 s), (1, .func (.func fF) #[] fC.toArray), (7, vi (s.length : Int)), (8, vi v8_3)], [S sa0 sk0 s, pAll fA], sc_IndexFunc_Set_L0 s fp r2 v8_3 = sc_IndexFunc_Set_L0 s fp (((s.length : Int) - 0).toNat) 0 ∧ r2 = ((s.length : Int) - v8_3).toNat ∧ (0 : Int) ≤ v8_3 ∧ v8_3 ≤ (s.length : Int) ∧ (-9223372036854775808 ≤ v8_3 ∧ v8_3 ≤ 9223372036854775807), r2⟩) (((s.length : Int) - 0).toNat, 0) [0, 1] ⟨rfl, rfl, aM1, aM1, aM1⟩ ?_
 rintro ⟨r2, v8_3⟩ ⟨hM4, hr5, hi6, hi7, hk8⟩
 refine JJ_nx fun _ _ hL hA => ?_; dsimp only at hL hA; subst hL hA
 refine Fb 32 0 fun _ => KS ?_
 refine Oq Vlss (KS ?_)
 refine Kc ?_ ?_
 ·intro h10
  have g11 := dt h10
  obtain ⟨r12, rfl⟩ := scc (n := r2) aM1
  refine KS ?_
  refine Oq Vm (Oq Va (KS ?_))
  refine Oq Vm (Oq Vm (Oq Vm (Oq (Vi sl24 0) ?_)))
  refine JJ_peek_GSet v8_3.toNat 0 rfl rng fun a13 k14 hb15 => ?_
  unfold i64ok at hb15
  refine Fb 8 1 fun _ => Oq (VldA sh39 0) ?_
  refine JO_call [1, 3] rfl rfl rfl (OpC.clo (asv := [(.agg #[vi ((s.getD v8_3.toNat default).Width), vl a13 k14 ((s.getD v8_3.toNat default).Words)] : Value)] ++ fC) rfl rfl hfc rfl (by simp)) (hfF (s.getD v8_3.toNat default) (getD_mem rng) a13 k14 pre) rfl fun _ _ => ?_
  refine KS ?_
  refine Kc ?_ ?_
  ·intro h17
   refine KS ?_
   refine Oq Vm (Oq Va (KS ?_))
   have hR19 := q2 hM4 (.ret v8_3) (by simp only [sc_IndexFunc_Set_L0, h10, h17, cs4])
   have hq := q4 hrr v8_3 (by simp only [sc_IndexFunc_Set, h10, h17, hR19, cs4]); subst hq
   exact Kr () rfl (.tmp rfl .nil) [] en
  intro h17
  refine KS ?_
  refine Oq Vadd (Oq Vm (KS ?_))
  exact Kg (r12, (v8_3 + 1)) [2, 3] ⟨(q3 hM4 (by simp only [sc_IndexFunc_Set_L0, h10, h17, cs4])), aM1, aM1, aM1, aM1⟩
 intro h10
 have g21 := df h10
 obtain rfl : r2 = 0 := by omega
 refine Ke ?_
 have hR22 := q2 hM4 (.brk ()) (by simp only [sc_IndexFunc_Set_L0, h10, cs4])
 refine KS ?_
 refine Oq Va (KS ?_)
 have hq := q4 hrr (-1) (by simp only [sc_IndexFunc_Set, h10, hR22, cs4]); subst hq
 exact Kr () rfl (.tmp rfl .nil) [] en
theorem fn70 (s : List GSet) (sa0 : Option Addr) (sk0 : Nat) (fF : FuncId) (fC : List Value) (fp : GSet → Bool) (fA : List SP) (hfc : callable Tryz.prog fF = true) (hfF : ∀ x ∈ s, ∀ (a1 : Option Addr) (k1 : Nat), i64ok x.Width → FT Tryz.prog fF ([(.agg #[vi x.Width, vl a1 k1 x.Words] : Value)] ++ fC).toArray ([S a1 k1 x.Words] ++ [pAll fA]) (fun _ : Unit => True) (fun _ => .bool (fp x)) (fun _ => [])) (rr : Bool) (hrr : sc_ContainsFunc_Set s fp = rr) : FT Tryz.prog 70 #[vl sa0 sk0 s, .func (.func fF) #[] fC.toArray] [S sa0 sk0 s, pAll fA] (fun g : Unit => True) (fun g => vb rr) (fun g => []) := by
 refine FTi Tryz.func70 fun w0 M0 F0 => Fb 32 0 fun _ => ?_
 refine KS ?_
 refine Oq Va (KS ?_)
 refine Oq Vm (Oq Vm ?_)
 refine letv (sc_IndexFunc_Set s fp) fun rv2 hg3 => ?_
 have hc4 := fn111 s sa0 sk0 fF fC fp fA hfc hfF rv2 hg3
 refine Oc [0, 1] ca111 hc4 ?_
 rintro - he5
 unfold i64ok at he5
 refine Oq Vgeq (Oq Va (KS ?_))
 have hq := q4 hrr (decide (0 ≤ rv2)) (by simp only [sc_ContainsFunc_Set, hg3, cs4]); subst hq
 exact Kr () rfl (.tmp rfl .nil) [] trivial
theorem fn112 (width : Int) (hwidth_0 : i64ok width) (rr : Bool) (hrr : bt_ranged width = rr) : FT Tryz.prog 112 #[vi width] [] (fun g : Unit => True) (fun g => vb rr) (fun g => []) := by
 refine FTi Tryz.func112 fun w0 M0 F0 => ?_
 unfold i64ok at hwidth_0
 refine KS ?_
 refine Oq Va (KS ?_)
 refine Oq Vm (Oq Vgeq (Oq Vm ?_))
 refine Js 5 ?_ ?_
 ·intro h1
  have g2 := dt h1
  refine Oq Vm (Oq Vleq (Oq Vpt (Oq Va (KS ?_))))
  have hq := q4 hrr (decide (width ≤ 256)) (by simp only [bt_ranged, h1, cs4]); subst hq
  exact Kr () rfl (.tmp rfl .nil) [] trivial
 intro h1
 have g3 := df h1
 refine Osk (Osk (Oq Vpf (Oq Va (KS ?_))))
 have hq := q4 hrr false (by simp only [bt_ranged, h1, cs4]); subst hq
 exact Kr () rfl (.tmp rfl .nil) [] trivial
theorem fn113 (width : Int) (hwidth_0 : i64ok width) (hw0 : 0 ≤ width ∧ width ≤ 1000000) (rr : Int) (hrr : bt_words width = rr) : FT Tryz.prog 113 #[vi width] [] (fun g : Unit => i64ok rr ∧ (rr = (width + 63) / 64)) (fun g => vi rr) (fun g => []) := by
 refine FTi Tryz.func113 fun w0 M0 F0 => ?_
 unfold i64ok at hwidth_0
 refine KS ?_
 refine Oq Va (KS ?_)
 refine Oq Vm (Oq Vadd (Oq Vsub (Oq Vquo (Oq Va (KS ?_)))))
 have hq := q4 hrr (((width + 64) - 1) / 64) (by simp only [bt_words, cs4]); subst hq
 exact Kr () rfl (.tmp rfl .nil) [] en
theorem fn114 (width : Int) (hwidth_0 : i64ok width) (rr : BitVec 64) (hrr : bt_spare width = rr) : FT Tryz.prog 114 #[vi width] [] (fun g : Unit => True) (fun g => u64 rr) (fun g => []) := by
 refine FTi Tryz.func114 fun w0 M0 F0 => ?_
 unfold i64ok at hwidth_0
 refine KS ?_
 refine Oq Va (KS ?_)
 refine Oq Vm (Oq (VcU un3 un69) (Oq (VremU (b := 64#64) (by simp)) (Oq (VshlU (a := 18446744073709551615#64)) (Oq Va (KS ?_)))))
 have hq := q4 hrr (18446744073709551615#64 <<< ((((BitVec.ofInt 64 width) % 64#64).toNat : Int)).toNat) (by simp only [bt_spare, cs4]); subst hq
 exact Kr () rfl (.tmp rfl .nil) [] trivial
theorem fn72 (s : GSet) (sa1 : Option Addr) (sk1 : Nat) (hs_0 : i64ok s.Width) (rr : Bool) (hrr : bt_Valid s = rr) : FT Tryz.prog 72 #[.agg #[vi s.Width, vl sa1 sk1 s.Words]] [S sa1 sk1 s.Words] (fun g : Unit => True) (fun g => vb rr) (fun g => []) := by
 refine FTi Tryz.func72 fun w0 M0 F0 => ?_
 unfold i64ok at hs_0
 refine Fb 8 0 fun _ => KS ?_
 refine Oa (Ab [vi s.Width, vl sa1 sk1 s.Words]) fun p2 => Oq Va (KS ?_)
 refine JK_drawK [0, 1, 3, 7, 15, 31, 63, 127, 31, 287, 799, 2047, 4095] fmix ?_
 refine Dv [0] (Vfa fo39_0 0) (Dv [0] (VldF sh3 0) ?_)
 refine letv (bt_ranged s.Width) fun rv3 hg4 => ?_
 refine Dx [] [] [0] (fun G => vb rv3) [fun G => SP.fact (True)] (fun G => xC [] ca112 (fn112 s.Width pre rv3 hg4)) (Dv [] Vnot ?_)
 refine bool_split (!rv3) ?_ ?_
 ·intro h5
  have h7 := not_true h5
  refine Db h5 [] Vm (Ds (Ds (Ds (Ds (Ds (Ds (Ds (Dv [] Vpt ?_))))))))
  refine Dn ⟨by kernel_rfl, fun G => ?_⟩
  refine Jw2 [(1, p2), (15, vb true)] [0, 1] [SP.fact (True)] ?_
  refine Jk [0, 1] (Kt ?_)
  refine KS ?_
  refine Oq Va (KS ?_)
  have hq := q4 hrr false (by simp only [bt_Valid, h5, h7, hg4, cs4]); subst hq
  exact Kr () rfl (.tmp rfl .nil) [] trivial
 intro h5
 have h10 := not_false h5
 try have hrg := ranged_iff (w := s.Width) (by simp only [h5, h10, hg4])
 refine Db h5 [] Vm (Dv [0] (Vfa fo39_1 0) (Dv [0] (VldF sh37 0) (Dv [] (Vlen sl37) (Dv [0] (Vfa fo39_0 0) (Dv [0] (VldF sh3 0) ?_)))))
 refine letv (bt_words s.Width) fun rv12 hg13 => ?_
 refine Dx [] [] [0] (fun G => vi rv12) [fun G => SP.fact (i64ok rv12 ∧ (rv12 = (s.Width + 63) / 64))] (fun G => xC [] ca113 (fn113 s.Width pre pre rv12 hg13)) (Dv [] Vneq (Dv [] Vpf ?_))
 refine Dn ⟨by kernel_rfl, fun G => ?_⟩
 refine Jw2 [(1, p2), (15, vb ((s.Words.length : Int) != rv12))] [0, 1] [SP.fact (True), SP.fact (i64ok rv12 ∧ (rv12 = (s.Width + 63) / 64))] ?_
 refine Jf 3 rfl ?_; rintro ⟨he14, he15⟩
 unfold i64ok at he14
 refine Jk [0, 1] ?_
 refine Kc ?_ ?_
 ·intro h16
  have g17 := ne_of_bne h16
  refine KS ?_
  refine Oq Va (KS ?_)
  have hq := q4 hrr false (by simp only [bt_Valid, h5, h10, h16, hg4, hg13, cs4]); subst hq
  exact Kr () rfl (.tmp rfl .nil) [] trivial
 intro h16
 have g18 := eq_of_bne_false h16
 refine KS ?_
 refine JK_drawK [0, 1, 3, 7, 15, 31, 63, 31, 159, 415, 927, 2047, 4095, 31, 8223, 24607, 65535, 131071, 262143, 524287] fmix ?_
 refine Dv [0] (Vfa fo39_0 0) (Dv [0] (VldF sh3 0) (Dv [] Vrem (Dv [] Veql ?_)))
 refine bool_split ((s.Width % 64) == 0) ?_ ?_
 ·intro h19
  have g20 := eq_of_beq h19
  refine Db h19 [] Vm (Ds (Ds (Ds (Ds (Ds (Ds (Ds (Ds (Ds ?_)))))))))
  refine Ds (Ds (Ds (Ds (Dv [] Vpt (Dv [] Va ?_)))))
  refine Dn ⟨by kernel_rfl, fun G => ?_⟩
  refine Jw2 [(2, vb true)] [0, 1] [] ?_
  have hq := q4 hrr true (by simp only [bt_Valid, h5, h10, h16, h19, hg4, hg13, cs4]); subst hq
  exact Kr () rfl (.tmp rfl .nil) [] trivial
 intro h19
 have g21 := ne_of_beq_false h19
 refine Db h19 [] Vm (Dv [0] (Vfa fo39_1 0) (Dv [0] (VldF sh37 0) (Dv [0] (Vfa fo39_1 0) (Dv [0] (VldF sh37 0) (Dv [] (Vlen sl37) (Dv [] Vsub (Dv [1] (Vi sl37 0) (Dv [1] (VldU sh68 0) (Dv [0] (Vfa fo39_0 0) ?_)))))))))
 refine Dv [0] (VldF sh3 0) ?_
 refine letv (bt_spare s.Width) fun rv22 hg23 => ?_
 refine Dx [] [] [0] (fun G => u64 rv22) [fun G => SP.fact (True)] (fun G => xC [] ca114 (fn114 s.Width pre rv22 hg23)) (Dv [] VandU (Dv [] (VeqlU (b := 0#64)) (Dv [] Vpf (Dv [] Va ?_))))
 refine Dn ⟨by kernel_rfl, fun G => ?_⟩
 refine Jw2 [(2, vb (((s.Words.getD (((s.Words.length : Int) - 1) : Int).toNat 0#64) &&& rv22) == 0#64))] [0, 1] [SP.fact (True)] ?_
 refine Jk [0, 1] ?_
 have hq := q4 hrr (((s.Words.getD (((s.Words.length : Int) - 1) : Int).toNat 0#64) &&& rv22) == 0#64) (by simp only [bt_Valid, h5, h10, h16, h19, hg4, hg13, hg23, cs4]); subst hq
 exact Kr () rfl (.tmp rfl .nil) [] trivial
theorem fn71 (s : GSet) (sa1 : Option Addr) (sk1 : Nat) (hs_0 : i64ok s.Width) (rr : Bool) (hrr : resume_encodable_1 s = rr) : FT Tryz.prog 71 #[.agg #[vi s.Width, vl sa1 sk1 s.Words]] [S sa1 sk1 s.Words] (fun g : Unit => True) (fun g => vb rr) (fun g => []) := by
 refine FTi Tryz.func71 fun w0 M0 F0 => ?_
 unfold i64ok at hs_0
 refine Fb 8 0 fun _ => KS ?_
 refine Oa (Ab [vi s.Width, vl sa1 sk1 s.Words]) fun p2 => Oq Va (KS ?_)
 refine Oq (VldA sh39 0) ?_
 refine letv (bt_Valid s) fun rv3 hg4 => ?_
 have hc5 := fn72 s sa1 sk1 pre rv3 hg4
 refine Oc [1] ca72 hc5 ?_
 rintro - -
 refine Oq Vnot (Oq Va (KS ?_))
 have hq := q4 hrr (!rv3) (by simp only [resume_encodable_1, hg4, cs4]); subst hq
 exact Kr () rfl (.tmp rfl .nil) [] trivial
theorem fn44 (st : GState) (sta1 : Option Addr) (stk1 : Nat) (sta2 : Option Addr) (stk2 : Nat) (sta5 : Option Addr) (stk5 : Nat) (sta6 : Option Addr) (stk6 : Nat) (hst_0 : i64ok st.Phase) (hst_3 : i64ok st.At) (hst_4 : i64ok st.Edge) (hst_7 : i64ok st.Steps) (rr : Bool) (hrr : resume_encodable st = rr) : FT Tryz.prog 44 #[.agg #[vi st.Phase, vl sta1 stk1 st.Cone, vl sta2 stk2 st.Leaf, vi st.At, vi st.Edge, vl sta5 stk5 st.Values, vl sta6 stk6 st.Queue, vi st.Steps]] [S sta1 stk1 st.Cone, S sta2 stk2 st.Leaf, S sta5 stk5 st.Values, S sta6 stk6 st.Queue] (fun g : Unit => True) (fun g => vb rr) (fun g => []) := by
 refine FTi Tryz.func44 fun w0 M0 F0 => ?_
 unfold i64ok at hst_0 hst_3 hst_4 hst_7
 refine Fb 8 0 fun _ => Fo 0 fun ho2 => Fb 1 1 fun _ => Fb 32 2 fun _ => Fb 8 3 fun _ => Fo 3 fun ho6 => KS ?_
 refine Oa (Ab [vi st.Phase, vl sta1 stk1 st.Cone, vl sta2 stk2 st.Leaf, vi st.At, vi st.Edge, vl sta5 stk5 st.Values, vl sta6 stk6 st.Queue, vi st.Steps]) fun p7 => Oq Va (KS ?_)
 refine Oq (Vfa fo26_1 0) (Oq (VldF sh22 0) (Oq (Vlen sl22) (Oq Va (KS ?_))))
 refine Oq (Vfa fo26_0 0) (Oq (VldF sh3 0) (Oq Vgeq (Oq Vm ?_)))
 refine Js 10 ?_ ?_
 ·intro h8
  have g9 := dt h8
  refine Oq (Vfa fo26_0 0) (Oq (VldF sh3 0) (Oq Vleq (Oq Vpt (Oq Vm ?_))))
  refine Js 15 ?_ ?_
  ·intro h10
   have g11 := dt h10
   refine Oq Vm (Oq Vgeq (Oq Vpt (Oq Vm ?_)))
   refine Js 19 ?_ ?_
   ·intro h12
    have g13 := dt h12
    refine Oq Vm (Oq Vleq (Oq Vpt (Oq Vm ?_)))
    refine Js 23 ?_ ?_
    ·intro h14
     have g15 := dt h14
     refine Oq (Vfa fo26_2 0) (Oq (VldF sh23 0) (Oq (Vlen sl23) (Oq Vm (Oq Veql (Oq Vpt (Oq Vm ?_))))))
     refine Js 30 ?_ ?_
     ·intro h16
      have g17 := eq_of_beq h16
      refine Oq (Vfa fo26_5 0) (Oq (VldF sh24 0) (Oq (Vlen sl24) (Oq Veql (Oq Vm ?_))))
      refine Js 35 ?_ ?_
      ·intro h18
       have g19 := eq_of_beq h18
       refine Osk (Osk (Osk (Osk (Osk (Oq Vpt (Oq Vpt (Oq Vm (Oq (Vfa fo26_6 0) (Oq (VldF sh22 0) ?_)))))))))
       refine Oq (Vlen sl22) (Oq Vleq (Oq Vpt (Oq Vm ?_)))
       refine Js 49 ?_ ?_
       ·intro h20
        have g21 := dt h20
        refine Oq (Vfa fo26_1 0) (Oq (VldF sh22 0) ?_)
        refine letv (resume_counters st.Cone) fun rv22 hg23 => ?_
        have hc24 := fn69 st.Cone sta1 stk1 rv22 hg23
        refine Oc [1] ca69 hc24 ?_
        rintro - -
        refine Oq Vpt (Oq Vm ?_)
        refine Js 54 ?_ ?_
        ·intro h25
         refine Oq (Vfa fo26_6 0) (Oq (VldF sh22 0) ?_)
         refine letv (resume_counters st.Queue) fun rv27 hg28 => ?_
         have hc29 := fn69 st.Queue sta6 stk6 rv27 hg28
         refine Oc [4] ca69 hc29 ?_
         rintro - -
         refine Oq Vpt (Oq Vm ?_)
         refine Js 59 ?_ ?_
         ·intro h30
          refine Oq (Vfa fo26_3 0) (Oq (VldF sh3 0) (Oq (Vfa fo26_4 0) (Oq (VldF sh3 0) (Oq (Vfa fo26_7 0) (Oq (VldF sh3 0) (Oa (AsV sl22 sz22 [vi st.At, vi st.Edge, vi st.Steps] [vi st.At, vi st.Edge, vi st.Steps]) fun c32 => ?_))))))
          refine Jo 0 ?_; rintro a33 k34 rfl
          refine Jl [0] (Ent.crInt _ [st.At, st.Edge, st.Steps] _ _ rfl rfl (by intro x hx; simp only [List.mem_cons, List.not_mem_nil, or_false] at hx; rcases hx with rfl | rfl | rfl <;> (unfold i64ok; omega)) aB1) ?_
          refine letv (resume_counters [st.At, st.Edge, st.Steps]) fun rv35 hg36 => ?_
          refine Oc [0] ca69 (FT_borrow (A := _) (fun _ _ h => by cases h) (FT_ent (Ent.take (is := [0]) rfl) (fn69 ([st.At, st.Edge, st.Steps]) a33 k34 rv35 hg36))) ?_ (ht := rfl)
          rintro - -
          refine Oq Vpt (Oq Vm ?_)
          refine Js 69 ?_ ?_
          ·intro h37
           refine Oq (Vfa fo26_5 1) (Oq (VldF sh24 1) ?_)
           refine JJ_ent (Ent.pall [] rfl rfl) ?_
           refine letv (sc_ContainsFunc_Set st.Values (fun x => resume_encodable_1 x)) fun rv39 hg40 => ?_
           have hc41 := fn70 st.Values sta5 stk5 71 [] (fun x => resume_encodable_1 x) [] ca71 (fun x hx a1 k1 hq0 => FT_pall (A1 := _) (fn71 x a1 k1  hq0 _ rfl)) rv39 hg40
           refine Oc [5, 0] ca70 hc41 ?_
           rintro - -
           refine Oq Vnot (Oq Vpt (Oq Va (KS ?_)))
           have hq := q4 hrr (!rv39) (by simp only [resume_encodable, h8, h10, h12, h14, h16, h18, h20, h25, h30, h37, hg23, hg28, hg36, hg40, cs4]); subst hq
           exact Kr () rfl (.tmp rfl .nil) [] trivial
          intro h37
          refine Osk (Osk (Osk (Osk (Oq Vpf (Oq Va (KS ?_))))))
          have hq := q4 hrr false (by simp only [resume_encodable, h8, h10, h12, h14, h16, h18, h20, h25, h30, h37, hg23, hg28, hg36, cs4]); subst hq
          exact Kr () rfl (.tmp rfl .nil) [] trivial
         intro h30
         refine Osk (Osk (Osk (Osk (Osk (Osk (Osk (Osk (Oq Vpf (Oq Vm ?_)))))))))
         refine Osk (Osk (Osk (Osk (Oq Vpf (Oq Va (KS ?_))))))
         have hq := q4 hrr false (by simp only [resume_encodable, h8, h10, h12, h14, h16, h18, h20, h25, h30, hg23, hg28, cs4]); subst hq
         exact Kr () rfl (.tmp rfl .nil) [] trivial
        intro h25
        refine Osk (Osk (Osk (Oq Vpf (Oq Vm (Osk (Osk (Osk (Osk (Osk ?_)))))))))
        refine Osk (Osk (Osk (Oq Vpf (Oq Vm (Osk (Osk (Osk (Osk (Oq Vpf ?_)))))))))
        refine Oq Va (KS ?_)
        have hq := q4 hrr false (by simp only [resume_encodable, h8, h10, h12, h14, h16, h18, h20, h25, hg23, cs4]); subst hq
        exact Kr () rfl (.tmp rfl .nil) [] trivial
       intro h20
       have g45 := df h20
       refine Osk (Osk (Osk (Oq Vpf (Oq Vm (Osk (Osk (Osk (Oq Vpf (Oq Vm ?_)))))))))
       refine Osk (Osk (Osk (Osk (Osk (Osk (Osk (Osk (Oq Vpf (Oq Vm ?_)))))))))
       refine Osk (Osk (Osk (Osk (Oq Vpf (Oq Va (KS ?_))))))
       have hq := q4 hrr false (by simp only [resume_encodable, h8, h10, h12, h14, h16, h18, h20, cs4]); subst hq
       exact Kr () rfl (.tmp rfl .nil) [] trivial
      intro h18
      have g46 := ne_of_beq_false h18
      refine Oq (Vfa fo26_5 0) (Oq (VldF sh24 0) (Oq (Vlen sl24) (Oq Vm (Oq Veql (Oq Vpf (Oq Vpt (Oq Vm ?_)))))))
      refine Js 43 ?_ ?_
      ·intro h47
       have g48 := eq_of_beq h47
       refine Oq (Vfa fo26_6 0) (Oq (VldF sh22 0) (Oq (Vlen sl22) (Oq Vleq (Oq Vpt (Oq Vm ?_)))))
       refine Js 49 ?_ ?_
       ·intro h49
        have g50 := dt h49
        refine Oq (Vfa fo26_1 0) (Oq (VldF sh22 0) ?_)
        refine letv (resume_counters st.Cone) fun rv51 hg52 => ?_
        have hc53 := fn69 st.Cone sta1 stk1 rv51 hg52
        refine Oc [1] ca69 hc53 ?_
        rintro - -
        refine Oq Vpt (Oq Vm ?_)
        refine Js 54 ?_ ?_
        ·intro h54
         refine Oq (Vfa fo26_6 0) (Oq (VldF sh22 0) ?_)
         refine letv (resume_counters st.Queue) fun rv56 hg57 => ?_
         have hc58 := fn69 st.Queue sta6 stk6 rv56 hg57
         refine Oc [4] ca69 hc58 ?_
         rintro - -
         refine Oq Vpt (Oq Vm ?_)
         refine Js 59 ?_ ?_
         ·intro h59
          refine Oq (Vfa fo26_3 0) (Oq (VldF sh3 0) (Oq (Vfa fo26_4 0) (Oq (VldF sh3 0) (Oq (Vfa fo26_7 0) (Oq (VldF sh3 0) (Oa (AsV sl22 sz22 [vi st.At, vi st.Edge, vi st.Steps] [vi st.At, vi st.Edge, vi st.Steps]) fun c61 => ?_))))))
          refine Jo 0 ?_; rintro a62 k63 rfl
          refine Jl [0] (Ent.crInt _ [st.At, st.Edge, st.Steps] _ _ rfl rfl (by intro x hx; simp only [List.mem_cons, List.not_mem_nil, or_false] at hx; rcases hx with rfl | rfl | rfl <;> (unfold i64ok; omega)) aB1) ?_
          refine letv (resume_counters [st.At, st.Edge, st.Steps]) fun rv64 hg65 => ?_
          refine Oc [0] ca69 (FT_borrow (A := _) (fun _ _ h => by cases h) (FT_ent (Ent.take (is := [0]) rfl) (fn69 ([st.At, st.Edge, st.Steps]) a62 k63 rv64 hg65))) ?_ (ht := rfl)
          rintro - -
          refine Oq Vpt (Oq Vm ?_)
          refine Js 69 ?_ ?_
          ·intro h66
           refine Oq (Vfa fo26_5 1) (Oq (VldF sh24 1) ?_)
           refine JJ_ent (Ent.pall [] rfl rfl) ?_
           refine letv (sc_ContainsFunc_Set st.Values (fun x => resume_encodable_1 x)) fun rv68 hg69 => ?_
           have hc70 := fn70 st.Values sta5 stk5 71 [] (fun x => resume_encodable_1 x) [] ca71 (fun x hx a1 k1 hq0 => FT_pall (A1 := _) (fn71 x a1 k1  hq0 _ rfl)) rv68 hg69
           refine Oc [5, 0] ca70 hc70 ?_
           rintro - -
           refine Oq Vnot (Oq Vpt (Oq Va (KS ?_)))
           have hq := q4 hrr (!rv68) (by simp only [resume_encodable, h8, h10, h12, h14, h16, h18, h47, h49, h54, h59, h66, hg52, hg57, hg65, hg69, cs4]); subst hq
           exact Kr () rfl (.tmp rfl .nil) [] trivial
          intro h66
          refine Osk (Osk (Osk (Osk (Oq Vpf (Oq Va (KS ?_))))))
          have hq := q4 hrr false (by simp only [resume_encodable, h8, h10, h12, h14, h16, h18, h47, h49, h54, h59, h66, hg52, hg57, hg65, cs4]); subst hq
          exact Kr () rfl (.tmp rfl .nil) [] trivial
         intro h59
         refine Osk (Osk (Osk (Osk (Osk (Osk (Osk (Osk (Oq Vpf (Oq Vm ?_)))))))))
         refine Osk (Osk (Osk (Osk (Oq Vpf (Oq Va (KS ?_))))))
         have hq := q4 hrr false (by simp only [resume_encodable, h8, h10, h12, h14, h16, h18, h47, h49, h54, h59, hg52, hg57, cs4]); subst hq
         exact Kr () rfl (.tmp rfl .nil) [] trivial
        intro h54
        refine Osk (Osk (Osk (Oq Vpf (Oq Vm (Osk (Osk (Osk (Osk (Osk ?_)))))))))
        refine Osk (Osk (Osk (Oq Vpf (Oq Vm (Osk (Osk (Osk (Osk (Oq Vpf ?_)))))))))
        refine Oq Va (KS ?_)
        have hq := q4 hrr false (by simp only [resume_encodable, h8, h10, h12, h14, h16, h18, h47, h49, h54, hg52, cs4]); subst hq
        exact Kr () rfl (.tmp rfl .nil) [] trivial
       intro h49
       have g74 := df h49
       refine Osk (Osk (Osk (Oq Vpf (Oq Vm (Osk (Osk (Osk (Oq Vpf (Oq Vm ?_)))))))))
       refine Osk (Osk (Osk (Osk (Osk (Osk (Osk (Osk (Oq Vpf (Oq Vm ?_)))))))))
       refine Osk (Osk (Osk (Osk (Oq Vpf (Oq Va (KS ?_))))))
       have hq := q4 hrr false (by simp only [resume_encodable, h8, h10, h12, h14, h16, h18, h47, h49, cs4]); subst hq
       exact Kr () rfl (.tmp rfl .nil) [] trivial
      intro h47
      have g75 := ne_of_beq_false h47
      refine Osk (Osk (Osk (Osk (Oq Vpf (Oq Vm (Osk (Osk (Osk (Oq Vpf ?_)))))))))
      refine Oq Vm (Osk (Osk (Osk (Oq Vpf (Oq Vm (Osk (Osk (Osk (Osk ?_)))))))))
      refine Osk (Osk (Osk (Osk (Oq Vpf (Oq Vm (Osk (Osk (Osk (Osk ?_)))))))))
      refine Oq Vpf (Oq Va (KS ?_))
      have hq := q4 hrr false (by simp only [resume_encodable, h8, h10, h12, h14, h16, h18, h47, cs4]); subst hq
      exact Kr () rfl (.tmp rfl .nil) [] trivial
     intro h16
     have g76 := ne_of_beq_false h16
     refine Osk (Osk (Osk (Osk (Osk (Osk (Osk (Osk (Osk (Osk ?_)))))))))
     refine Osk (Oq Vpf (Oq Vm (Osk (Osk (Osk (Osk (Oq Vpf (Oq Vm (Osk ?_)))))))))
     refine Osk (Osk (Oq Vpf (Oq Vm (Osk (Osk (Osk (Oq Vpf (Oq Vm (Osk ?_)))))))))
     refine Osk (Osk (Osk (Osk (Osk (Osk (Osk (Oq Vpf (Oq Vm (Osk ?_)))))))))
     refine Osk (Osk (Osk (Oq Vpf (Oq Va (KS ?_)))))
     have hq := q4 hrr false (by simp only [resume_encodable, h8, h10, h12, h14, h16, cs4]); subst hq
     exact Kr () rfl (.tmp rfl .nil) [] trivial
    intro h14
    have g77 := df h14
    refine Osk (Osk (Osk (Osk (Osk (Oq Vpf (Oq Vm (Osk (Osk (Osk ?_)))))))))
    refine Osk (Osk (Osk (Osk (Osk (Osk (Osk (Osk (Oq Vpf (Oq Vm ?_)))))))))
    refine Osk (Osk (Osk (Osk (Oq Vpf (Oq Vm (Osk (Osk (Osk (Oq Vpf ?_)))))))))
    refine Oq Vm (Osk (Osk (Osk (Oq Vpf (Oq Vm (Osk (Osk (Osk (Osk ?_)))))))))
    refine Osk (Osk (Osk (Osk (Oq Vpf (Oq Vm (Osk (Osk (Osk (Osk ?_)))))))))
    refine Oq Vpf (Oq Va (KS ?_))
    have hq := q4 hrr false (by simp only [resume_encodable, h8, h10, h12, h14, cs4]); subst hq
    exact Kr () rfl (.tmp rfl .nil) [] trivial
   intro h12
   have g78 := df h12
   refine Osk (Osk (Oq Vpf (Oq Vm (Osk (Osk (Osk (Osk (Osk (Oq Vpf ?_)))))))))
   refine Oq Vm (Osk (Osk (Osk (Osk (Osk (Osk (Osk (Osk (Osk ?_)))))))))
   refine Osk (Osk (Oq Vpf (Oq Vm (Osk (Osk (Osk (Osk (Oq Vpf (Oq Vm ?_)))))))))
   refine Osk (Osk (Osk (Oq Vpf (Oq Vm (Osk (Osk (Osk (Oq Vpf (Oq Vm ?_)))))))))
   refine Osk (Osk (Osk (Osk (Osk (Osk (Osk (Osk (Oq Vpf (Oq Vm ?_)))))))))
   refine Osk (Osk (Osk (Osk (Oq Vpf (Oq Va (KS ?_))))))
   have hq := q4 hrr false (by simp only [resume_encodable, h8, h10, h12, cs4]); subst hq
   exact Kr () rfl (.tmp rfl .nil) [] trivial
  intro h10
  have g79 := df h10
  refine Osk (Osk (Oq Vpf (Oq Vm (Osk (Osk (Oq Vpf (Oq Vm (Osk (Osk ?_)))))))))
  refine Osk (Osk (Osk (Oq Vpf (Oq Vm (Osk (Osk (Osk (Osk (Osk ?_)))))))))
  refine Osk (Osk (Osk (Osk (Osk (Osk (Oq Vpf (Oq Vm (Osk (Osk ?_)))))))))
  refine Osk (Osk (Oq Vpf (Oq Vm (Osk (Osk (Osk (Oq Vpf (Oq Vm (Osk ?_)))))))))
  refine Osk (Osk (Oq Vpf (Oq Vm (Osk (Osk (Osk (Osk (Osk (Osk ?_)))))))))
  refine Osk (Osk (Oq Vpf (Oq Vm (Osk (Osk (Osk (Osk (Oq Vpf (Oq Va ?_)))))))))
  refine KS ?_
  have hq := q4 hrr false (by simp only [resume_encodable, h8, h10, cs4]); subst hq
  exact Kr () rfl (.tmp rfl .nil) [] trivial
 intro h8
 have g80 := df h8
 refine Osk (Osk (Osk (Oq Vpf (Oq Vm (Osk (Osk (Oq Vpf (Oq Vm (Osk ?_)))))))))
 refine Osk (Oq Vpf (Oq Vm (Osk (Osk (Osk (Osk (Osk (Oq Vpf (Oq Vm ?_)))))))))
 refine Osk (Osk (Osk (Osk (Osk (Osk (Osk (Osk (Osk (Osk ?_)))))))))
 refine Osk (Oq Vpf (Oq Vm (Osk (Osk (Osk (Osk (Oq Vpf (Oq Vm (Osk ?_)))))))))
 refine Osk (Osk (Oq Vpf (Oq Vm (Osk (Osk (Osk (Oq Vpf (Oq Vm (Osk ?_)))))))))
 refine Osk (Osk (Osk (Osk (Osk (Osk (Osk (Oq Vpf (Oq Vm (Osk ?_)))))))))
 refine Osk (Osk (Osk (Oq Vpf (Oq Va (KS ?_)))))
 have hq := q4 hrr false (by simp only [resume_encodable, h8, cs4]); subst hq
 exact Kr () rfl (.tmp rfl .nil) [] trivial
theorem fn73 (b : List UInt8) (ba0 : Option Addr) (bk0 : Nat) (rr : Int) (hrr : uvarint_Checksum b = rr) : FT Tryz.prog 73 #[vl ba0 bk0 b] [S ba0 bk0 b] (fun g : Unit => True) (fun g => .int .u32 rr) (fun g => []) := by
 refine FTi Tryz.func73 fun w0 M0 F0 => Fb 1 0 fun _ => ?_
 refine KS ?_
 refine Oq Va (KS ?_)
 refine Oq Va (KS ?_)
 refine Oq Vm (Oq (Vlen sl44) (Oq Vm (KS ?_)))
 refine Kl (γ := Nat × Int × Int) (fun (r2, sum_3, v8_4) => ⟨[(3, .int .u32 sum_3), (6, vl ba0 bk0 b), (7, vi (b.length : Int)), (8, vi v8_4)], [S ba0 bk0 b], uvarint_Checksum_L0 b r2 sum_3 v8_4 = uvarint_Checksum_L0 b (((b.length : Int) - 0).toNat) 4294967295 0 ∧ r2 = ((b.length : Int) - v8_4).toNat ∧ (0 : Int) ≤ v8_4 ∧ v8_4 ≤ (b.length : Int) ∧ (-9223372036854775808 ≤ sum_3 ∧ sum_3 ≤ 9223372036854775807) ∧ (-9223372036854775808 ≤ v8_4 ∧ v8_4 ≤ 9223372036854775807), r2⟩) (((b.length : Int) - 0).toNat, 4294967295, 0) [0] ⟨rfl, rfl, aM1, aM1, aM1, aM1⟩ ?_
 rintro ⟨r2, sum_3, v8_4⟩ ⟨hM5, hr6, hi7, hi8, hk9, hk10⟩
 refine JJ_nx fun _ _ hL hA => ?_; dsimp only at hL hA; subst hL hA
 refine Fb 1 0 fun _ => KS ?_
 refine Oq Vlss (KS ?_)
 refine Kc ?_ ?_
 ·intro h12
  have g13 := dt h12
  obtain ⟨r14, rfl⟩ := scc (n := r2) aM1
  refine KS ?_
  refine Oq (Vi sl44 0) ?_
  have hb15 := u8b' (b.getD v8_4.toNat 0)
  refine Oq (Vld8 sh5 0) (Oq Va (KS ?_))
  refine Oq Vm (Oq Vm (Oq (VcM un5 un78 wrap_u32) ?_))
  have hb16 : 0 ≤ (bXor .u32 sum_3 (((b.getD v8_4.toNat 0).toNat : Int) % 4294967296)) ∧ (bXor .u32 sum_3 (((b.getD v8_4.toNat 0).toNat : Int) % 4294967296)) ≤ 4294967295 := wrap_u32b _
  refine Oq VxorK (Oq Va (KS ?_))
  refine Oq Vm (KS ?_)
  refine Kl (γ := Nat × Int × Int) (fun (r17, sum_18, v16_19) => ⟨[(6, vl ba0 bk0 b), (7, vi (b.length : Int)), (8, vi v8_4), (3, .int .u32 sum_18), (16, vi v16_19)], [S ba0 bk0 b], uvarint_Checksum_L1 r17 sum_18 v16_19 = uvarint_Checksum_L1 8 (bXor .u32 sum_3 (((b.getD v8_4.toNat 0).toNat : Int) % 4294967296)) 0 ∧ r17 = ((8 : Int) - v16_19).toNat ∧ (0 : Int) ≤ v16_19 ∧ v16_19 ≤ 8 ∧ (-9223372036854775808 ≤ sum_18 ∧ sum_18 ≤ 9223372036854775807) ∧ (-9223372036854775808 ≤ v16_19 ∧ v16_19 ≤ 9223372036854775807), r17⟩) (8, (bXor .u32 sum_3 (((b.getD v8_4.toNat 0).toNat : Int) % 4294967296)), 0) [0] ⟨rfl, rfl, aM1, aM1, aM1, aM1⟩ ?_
  rintro ⟨r17, sum_18, v16_19⟩ ⟨hM20, hr21, hi22, hi23, hk24, hk25⟩
  refine JJ_nx fun _ _ hL hA => ?_; dsimp only at hL hA; subst hL hA
  refine Fb 1 0 fun _ => KS ?_
  refine Oq Vlss (KS ?_)
  refine Kc ?_ ?_
  ·intro h27
   have g28 := dt h27
   obtain ⟨r29, rfl⟩ := scc (n := r17) aM1
   refine KS ?_
   refine Oq Vm (Oq (VshrK (k := .u32) (n := ((1#64).toNat : Int)) (m := 2) (by decide)) (Oq Vm ?_))
   have hb30 : 0 ≤ (bAnd .u32 sum_18 1) ∧ (bAnd .u32 sum_18 1) ≤ 4294967295 := wrap_u32b _
   refine Oq VandK ?_
   have hb31 : 0 ≤ (bNeg .u32 (bAnd .u32 sum_18 1)) ∧ (bNeg .u32 (bAnd .u32 sum_18 1)) ≤ 4294967295 := wrap_u32b _
   refine Oq VnegK ?_
   have hb32 : 0 ≤ (bAnd .u32 3988292384 (bNeg .u32 (bAnd .u32 sum_18 1))) ∧ (bAnd .u32 3988292384 (bNeg .u32 (bAnd .u32 sum_18 1))) ≤ 4294967295 := wrap_u32b _
   refine Oq VandK ?_
   have hb33 : 0 ≤ (bXor .u32 (sum_18 / 2) (bAnd .u32 3988292384 (bNeg .u32 (bAnd .u32 sum_18 1)))) ∧ (bXor .u32 (sum_18 / 2) (bAnd .u32 3988292384 (bNeg .u32 (bAnd .u32 sum_18 1)))) ≤ 4294967295 := wrap_u32b _
   refine Oq VxorK (Oq Va (KS ?_))
   refine Oq Vadd (Oq Vm (KS ?_))
   exact Kg (r29, (bXor .u32 (sum_18 / 2) (bAnd .u32 3988292384 (bNeg .u32 (bAnd .u32 sum_18 1)))), (v16_19 + 1)) [0] ⟨(q3 hM20 (by simp only [uvarint_Checksum_L1, h27, cs4])), aM1, aM1, aM1, aM1, aM1⟩
  intro h27
  have g34 := df h27
  obtain rfl : r17 = 0 := by omega
  refine Ke ?_
  have hR35 := q2 hM20 sum_18 (by simp only [uvarint_Checksum_L1, h27, cs4])
  refine KS ?_
  refine Oq Vadd (Oq Vm (KS ?_))
  exact Kg (r14, sum_18, (v8_4 + 1)) [0] ⟨(q3 hM5 (by simp only [uvarint_Checksum_L0, h12, h27, hR35, cs4])), aM1, aM1, aM1, aM1, aM1⟩
 intro h12
 have g36 := df h12
 obtain rfl : r2 = 0 := by omega
 refine Ke ?_
 have hR37 := q2 hM5 sum_3 (by simp only [uvarint_Checksum_L0, h12, cs4])
 refine KS ?_
 refine Oq Vm ?_
 have hb38 : 0 ≤ (bCom .u32 sum_3) ∧ (bCom .u32 sum_3) ≤ 4294967295 := wrap_u32b _
 refine Oq VcomK (Oq Va (KS ?_))
 have hq := q4 hrr (bCom .u32 sum_3) (by simp only [uvarint_Checksum, h12, hR37, cs4]); subst hq
 exact Kr () rfl (.tmp rfl .nil) [] trivial
theorem fn45 (b : List UInt8) (ba0 : Option Addr) (bk0 : Nat) (hb0 : b.length ≤ 1000000) (rr : List UInt8) (hrr : uvarint_Seal b = rr) : FT Tryz.prog 45 #[vl ba0 bk0 b] [O ba0 bk0 b] (fun g : Value => (rr.length = b.length + 4)) (fun g => g) (fun g => [os g rr]) := by
 refine FTi Tryz.func45 fun w0 M0 F0 => Fb 1 0 fun _ => ?_
 refine KS ?_
 refine Oq Va (KS ?_)
 refine Oq Vm ?_
 refine letv (uvarint_Checksum b) fun rv2 hg3 => ?_
 refine Oc [0] ca73 (FT_borrow (A := _) (fun _ _ h => by cases h) (FT_ent (Ent.take (is := [0]) rfl) (fn73 b ba0 bk0 rv2 hg3))) ?_ (ht := rfl)
 rintro - -
 refine Oq Va (KS ?_)
 refine Oq Vm (Oq Vm (Oq (VshrK (k := .u32) (n := ((24#64).toNat : Int)) (m := 16777216) (by decide)) (Oq (VcM un78 un5 wrap_u8) (Oq Vm (Oq (VshrK (k := .u32) (n := ((16#64).toNat : Int)) (m := 65536) (by decide)) (Oq (VcM un78 un5 wrap_u8) (Oq Vm (Oq (VshrK (k := .u32) (n := ((8#64).toNat : Int)) (m := 256) (by decide)) (Oq (VcM un78 un5 wrap_u8) ?_)))))))))
 refine Oq Vm (Oq (VcM un78 un5 wrap_u8) (Oa (AsV sl44 sz44 [.int .u8 ((rv2 / 16777216) % 256), .int .u8 ((rv2 / 65536) % 256), .int .u8 ((rv2 / 256) % 256), .int .u8 (rv2 % 256)] [.int .u8 ((rv2 / 16777216) % 256), .int .u8 ((rv2 / 65536) % 256), .int .u8 ((rv2 / 256) % 256), .int .u8 (rv2 % 256)]) fun c4 => ?_))
 refine Jo 0 ?_; rintro a5 k6 rfl
 refine Jl [0] (Ent.crOs (α := UInt8) (A := []) _ ([(UInt8.ofNat (((rv2 / 16777216) % 256) : Int).toNat), (UInt8.ofNat (((rv2 / 65536) % 256) : Int).toNat), (UInt8.ofNat (((rv2 / 256) % 256) : Int).toNat), (UInt8.ofNat ((rv2 % 256) : Int).toNat)] : List UInt8) _ aB1 (fun h => ⟨[.int .u8 ((rv2 / 16777216) % 256)], [.int .u8 ((rv2 / 65536) % 256), .int .u8 ((rv2 / 256) % 256), .int .u8 (rv2 % 256)], rfl, (fun _ => u8rd aM1) h, ⟨[.int .u8 ((rv2 / 65536) % 256)], [.int .u8 ((rv2 / 256) % 256), .int .u8 (rv2 % 256)], rfl, (fun _ => u8rd aM1) h, ⟨[.int .u8 ((rv2 / 256) % 256)], [.int .u8 (rv2 % 256)], rfl, (fun _ => u8rd aM1) h, ⟨[.int .u8 (rv2 % 256)], [], rfl, (fun _ => u8rd aM1) h, rfl⟩⟩⟩⟩)) ?_
 refine Oa (ApO [1, 0] sl44 sl44 sz44) fun c7 => ?_
 refine Jo 0 ?_; rintro a8 k9 rfl
 refine Fb 1 0 fun _ => ?_
 have hn11 := la b ([(UInt8.ofNat (((rv2 / 16777216) % 256) : Int).toNat), (UInt8.ofNat (((rv2 / 65536) % 256) : Int).toNat), (UInt8.ofNat (((rv2 / 256) % 256) : Int).toNat), (UInt8.ofNat ((rv2 % 256) : Int).toNat)] : List UInt8)
 refine Oq Va (KS ?_)
 have hq := q4 hrr (b ++ [(UInt8.ofNat (((rv2 / 16777216) % 256) : Int).toNat), (UInt8.ofNat (((rv2 / 65536) % 256) : Int).toNat), (UInt8.ofNat (((rv2 / 256) % 256) : Int).toNat), (UInt8.ofNat ((rv2 % 256) : Int).toNat)]) (by simp only [uvarint_Seal, hg3, cs4]); subst hq
 exact Kr (.slice a8 ((b ++ [(UInt8.ofNat (((rv2 / 16777216) % 256) : Int).toNat), (UInt8.ofNat (((rv2 / 65536) % 256) : Int).toNat), (UInt8.ofNat (((rv2 / 256) % 256) : Int).toNat), (UInt8.ofNat ((rv2 % 256) : Int).toNat)]).length) k9) rfl (.tmp rfl .nil) [0] en
theorem fn75 (b : List UInt8) (ba0 : Option Addr) (bk0 : Nat) (n : Int) (hn_0 : i64ok n) (hb0 : b.length ≤ 1000000) (hn0 : 0 ≤ n) (rr : List UInt8) (hrr : uvarint_Append b n = rr) : FT Tryz.prog 75 #[vl ba0 bk0 b, vi n] [O ba0 bk0 b] (fun g : Value => (rr.length ≤ b.length + 11)) (fun g => g) (fun g => [os g rr]) := by
 refine FTi Tryz.func75 fun w0 M0 F0 => ?_
 unfold i64ok at hn_0
 refine Fb 1 0 fun _ => KS ?_
 refine Oq Va (KS ?_)
 have hterm11 : uvarint_Append_L0 10 b n ≠ LR.oof := (uvarint_Append_t 9 _ _ aM1 (p9 aM1))
 refine Kl (γ := Nat × List UInt8 × Int × Option Addr × Nat) (fun (r2, b_3, n_4, a5, k6) => ⟨[(0, vl a5 k6 b_3), (1, vi n_4)], [O a5 k6 b_3], uvarint_Append_L0 r2 b_3 n_4 = uvarint_Append_L0 10 b n ∧ (-9223372036854775808 ≤ n_4 ∧ n_4 ≤ 9223372036854775807) ∧ (0 ≤ n_4) ∧ (b_3.length + r2 ≤ b.length + 10), r2⟩) (10, b, n, ba0, bk0) [0] ⟨rfl, aM1, iv0, iv0⟩ ?_
 rintro ⟨r2, b_3, n_4, a5, k6⟩ ⟨hM7, hk8, hv9, hv10⟩
 refine JJ_nx fun _ _ hL hA => ?_; dsimp only at hL hA; subst hL hA
 refine Fb 1 0 fun _ => ?_
 rcases r2 with _ | r2
 ·exact absurd (hM7.symm.trans rfl) hterm11
 refine KS ?_
 refine Oq Vm (Oq Vgeq (KS ?_))
 refine Kc ?_ ?_
 ·intro h13
  have g14 := dt h13
  refine KS ?_
  refine Oq Vm (Oq Vm (Oq (VcM un3 un5 wrap_u8) ?_))
  have hb15 : 0 ≤ (bOr .u8 (n_4 % 256) 128) ∧ (bOr .u8 (n_4 % 256) 128) ≤ 255 := wrap_u8b _
  refine Oq VorK (Oa (AsV sl44 sz44 [.int .u8 (bOr .u8 (n_4 % 256) 128)] [.int .u8 (bOr .u8 (n_4 % 256) 128)]) fun c16 => ?_)
  refine Jo 0 ?_; rintro a17 k18 rfl
  refine Jl [0] (Ent.cr1 (α := UInt8) (A := []) _ (UInt8.ofNat ((bOr .u8 (n_4 % 256) 128) : Int).toNat) _ aB1 (fun _ => u8rd aM1)) ?_
  refine Oa (ApO [1, 0] sl44 sl44 sz44) fun c19 => ?_
  refine Jo 0 ?_; rintro a20 k21 rfl
  refine Fb 1 0 fun _ => ?_
  have hn23 := la b_3 ([(UInt8.ofNat ((bOr .u8 (n_4 % 256) 128) : Int).toNat)] : List UInt8)
  refine Oq Va (KS ?_)
  refine Oq Vm (Oq (VshrK (k := .i64) (n := ((7#64).toNat : Int)) (m := 128) (by decide)) (Oq Va (KS ?_)))
  exact Kg (r2, (b_3 ++ [(UInt8.ofNat ((bOr .u8 (n_4 % 256) 128) : Int).toNat)]), (n_4 / 128), a20, k21) [0] ⟨(q3 hM7 (by simp only [uvarint_Append_L0, h13, cs4])), aM1, iv1, iv1⟩
 intro h13
 have g24 := df h13
 refine Ke ?_
 have hR25 := q2 hM7 (.brk (b_3, n_4)) (by simp only [uvarint_Append_L0, h13, cs4])
 refine KS ?_
 refine Oq Vm (Oq Vm (Oq (VcM un3 un5 wrap_u8) (Oa (AsV sl44 sz44 [.int .u8 (n_4 % 256)] [.int .u8 (n_4 % 256)]) fun c26 => ?_)))
 refine Jo 0 ?_; rintro a27 k28 rfl
 refine Jl [0] (Ent.cr1 (α := UInt8) (A := []) _ (UInt8.ofNat ((n_4 % 256) : Int).toNat) _ aB1 (fun _ => u8rd aM1)) ?_
 refine Oa (ApO [1, 0] sl44 sl44 sz44) fun c29 => ?_
 refine Jo 0 ?_; rintro a30 k31 rfl
 refine Fb 1 0 fun _ => ?_
 have hn33 := la b_3 ([(UInt8.ofNat ((n_4 % 256) : Int).toNat)] : List UInt8)
 refine Oq Va (KS ?_)
 have hq := q4 hrr (b_3 ++ [(UInt8.ofNat ((n_4 % 256) : Int).toNat)]) (by simp only [uvarint_Append, h13, hR25, cs4]); subst hq
 exact Kr (vl a30 k31 (b_3 ++ [(UInt8.ofNat ((n_4 % 256) : Int).toNat)])) rfl (.tmp rfl .nil) [0] en
theorem fn74 (b : List UInt8) (ba0 : Option Addr) (bk0 : Nat) (l : List Int) (la0 : Option Addr) (lk0 : Nat) (hb0 : b.length ≤ 900000) (hl0 : l.length ≤ 256 ∧ ∀ x ∈ l, 0 ≤ x) (rr : List UInt8) (hrr : uvarint_AppendNumbers b l = rr) : FT Tryz.prog 74 #[vl ba0 bk0 b, vl la0 lk0 l] [O ba0 bk0 b, S la0 lk0 l] (fun g : Value => (rr.length ≤ b.length + 2830)) (fun g => g) (fun g => [os g rr]) := by
 refine FTi Tryz.func74 fun w0 M0 F0 => Fb 1 0 fun _ => Fb 8 1 fun _ => Fo 1 fun ho3 => ?_
 refine KS ?_
 refine Oq Va (KS ?_)
 refine Oq Vm (Oq Vm (Oq (Vlen sl22) ?_))
 refine letv (uvarint_Append b (l.length : Int)) fun rv5 hg6 => ?_
 have hc7 := fn75 b ba0 bk0 ((l.length : Int)) pre pre (by first | omega | exact hl0.2 _ (getD_mem aM1)) rv5 hg6
 refine Oc [0] ca75 hc7 ?_
 rintro c4 he8
 refine Jo 0 ?_; rintro a9 k10 rfl
 refine Fb 1 0 fun _ => ?_
 refine Oq Va (KS ?_)
 refine Oq Vm (Oq (Vlen sl22) (Oq Vm (KS ?_)))
 refine Kl (γ := Nat × List UInt8 × Int × Option Addr × Nat) (fun (r12, b_13, v13_14, a15, k16) => ⟨[(0, vl a15 k16 b_13), (11, vl la0 lk0 l), (12, vi (l.length : Int)), (13, vi v13_14)], [O a15 k16 b_13, S la0 lk0 l], uvarint_AppendNumbers_L0 l r12 b_13 v13_14 = uvarint_AppendNumbers_L0 l (((l.length : Int) - 0).toNat) rv5 0 ∧ r12 = ((l.length : Int) - v13_14).toNat ∧ (0 : Int) ≤ v13_14 ∧ v13_14 ≤ (l.length : Int) ∧ (-9223372036854775808 ≤ v13_14 ∧ v13_14 ≤ 9223372036854775807) ∧ ((b_13.length : Int) ≤ (b.length : Int) + 11 + 11 * v13_14), r12⟩) (((l.length : Int) - 0).toNat, rv5, 0, a9, k10) [0, 0] ⟨rfl, rfl, aM1, aM1, aM1, iv0⟩ ?_
 rintro ⟨r12, b_13, v13_14, a15, k16⟩ ⟨hM17, hr18, hi19, hi20, hk21, hv22⟩
 refine JJ_nx fun _ _ hL hA => ?_; dsimp only at hL hA; subst hL hA
 refine Fb 1 0 fun _ => Fb 8 1 fun _ => Fo 1 fun ho25 => KS ?_
 refine Oq Vlss (KS ?_)
 refine Kc ?_ ?_
 ·intro h26
  have g27 := dt h26
  obtain ⟨r28, rfl⟩ := scc (n := r12) aM1
  refine KS ?_
  refine Oq (Vi sl22 1) ?_
  have hb29 := ok1 (i := v13_14.toNat) ho25 rng
  refine Oq (VldI sh3 1) (Oq Va (KS ?_))
  refine Oq Vm (Oq Vm ?_)
  refine letv (uvarint_Append b_13 (l.getD v13_14.toNat 0)) fun rv31 hg32 => ?_
  have hc33 := fn75 b_13 a15 k16 ((l.getD v13_14.toNat 0)) pre pre (by first | omega | exact hl0.2 _ (getD_mem aM1)) rv31 hg32
  refine Oc [0] ca75 hc33 ?_
  rintro c30 he34
  refine Jo 0 ?_; rintro a35 k36 rfl
  refine Fb 1 0 fun _ => ?_
  refine Oq Va (KS ?_)
  refine Oq Vadd (Oq Vm (KS ?_))
  exact Kg (r28, rv31, (v13_14 + 1), a35, k36) [0, 0] ⟨(q3 hM17 (by simp only [uvarint_AppendNumbers_L0, h26, hg32, cs4])), aM1, aM1, aM1, aM1, iv1⟩
 intro h26
 have g38 := df h26
 obtain rfl : r12 = 0 := by omega
 refine Ke ?_
 have hR39 := q2 hM17 b_13 (by simp only [uvarint_AppendNumbers_L0, h26, cs4])
 refine KS ?_
 refine Oq Vm (Oq Va (KS ?_))
 have hq := q4 hrr b_13 (by simp only [uvarint_AppendNumbers, h26, hg6, hR39, cs4]); subst hq
 exact Kr (vl a15 k16 b_13) rfl (.tmp rfl .nil) [0] en
theorem fn76 (b : List UInt8) (ba0 : Option Addr) (bk0 : Nat) (is : Bool) (hb0 : b.length ≤ 1000000) (rr : List UInt8) (hrr : uvarint_AppendBool b is = rr) : FT Tryz.prog 76 #[vl ba0 bk0 b, vb is] [O ba0 bk0 b] (fun g : Value => (rr.length = b.length + 1)) (fun g => g) (fun g => [os g rr]) := by
 refine FTi Tryz.func76 fun w0 M0 F0 => Fb 1 0 fun _ => ?_
 refine KS ?_
 refine Oq Va (KS ?_)
 refine Oq Vm (KS ?_)
 refine Kc ?_ ?_
 ·intro h2
  refine KS ?_
  refine Oq Vm (Oa (AsV sl44 sz44 [.int .u8 1] [.int .u8 1]) fun c4 => ?_)
  refine Jo 0 ?_; rintro a5 k6 rfl
  refine Jl [0] (Ent.cr1 (α := UInt8) (A := []) _ (UInt8.ofNat (1 : Int).toNat) _ aB1 (fun _ => u8rd aM1)) ?_
  refine Oa (ApO [1, 0] sl44 sl44 sz44) fun c7 => ?_
  refine Jo 0 ?_; rintro a8 k9 rfl
  refine Fb 1 0 fun _ => ?_
  have hn11 := la b ([(UInt8.ofNat (1 : Int).toNat)] : List UInt8)
  refine Oq Va (KS ?_)
  have hq := q4 hrr (b ++ [(UInt8.ofNat (1 : Int).toNat)]) (by simp only [uvarint_AppendBool, h2, cs4]); subst hq
  exact Kr (vl a8 k9 (b ++ [(UInt8.ofNat (1 : Int).toNat)])) rfl (.tmp rfl .nil) [0] en
 intro h2
 refine KS ?_
 refine Oq Vm (Oa (AsV sl44 sz44 [.int .u8 0] [.int .u8 0]) fun c13 => ?_)
 refine Jo 0 ?_; rintro a14 k15 rfl
 refine Jl [0] (Ent.cr1 (α := UInt8) (A := []) _ (UInt8.ofNat (0 : Int).toNat) _ aB1 (fun _ => u8rd aM1)) ?_
 refine Oa (ApO [1, 0] sl44 sl44 sz44) fun c16 => ?_
 refine Jo 0 ?_; rintro a17 k18 rfl
 refine Fb 1 0 fun _ => ?_
 have hn20 := la b ([(UInt8.ofNat (0 : Int).toNat)] : List UInt8)
 refine Oq Va (KS ?_)
 have hq := q4 hrr (b ++ [(UInt8.ofNat (0 : Int).toNat)]) (by simp only [uvarint_AppendBool, h2, cs4]); subst hq
 exact Kr (vl a17 k18 (b ++ [(UInt8.ofNat (0 : Int).toNat)])) rfl (.tmp rfl .nil) [0] en
theorem fn148 (x : BitVec 64) (rr : Int) (hrr : bits_OnesCount64 x = rr) : FT Tryz.prog 148 #[u64 x] [] (fun g : Unit => i64ok rr ∧ (0 ≤ rr ∧ rr ≤ 127)) (fun g => vi rr) (fun g => []) := by
 refine FTi Tryz.func148 fun w0 M0 F0 => ?_
 refine KS ?_
 refine Oq Va (KS ?_)
 refine Oq Vm (Oq VshrU (Oq (VandU (b := 6148914691236517205#64)) (Oq Vm (Oq (VandU (b := 6148914691236517205#64)) (Oq VaddU ?_)))))
 generalize hg2 : ((x >>> Int.toNat 1) &&& 6148914691236517205#64) + (x &&& 6148914691236517205#64) = rv1
 refine Oq Va (KS ?_)
 refine Oq Vm (Oq VshrU (Oq (VandU (b := 3689348814741910323#64)) (Oq Vm (Oq (VandU (b := 3689348814741910323#64)) (Oq VaddU ?_)))))
 generalize hg4 : ((rv1 >>> Int.toNat 2) &&& 3689348814741910323#64) + (rv1 &&& 3689348814741910323#64) = rv3
 refine Oq Va (KS ?_)
 refine Oq Vm (Oq VshrU (Oq Vm (Oq VaddU (Oq (VandU (b := 1085102592571150095#64)) ?_))))
 generalize hg6 : ((rv3 >>> Int.toNat 4) + rv3) &&& 1085102592571150095#64 = rv5
 refine Oq Va (KS ?_)
 refine Oq Vm (Oq Vm (Oq VshrU (Oq VaddU ?_)))
 generalize hg8 : rv5 + (rv5 >>> Int.toNat 8) = rv7
 refine Oq Va (KS ?_)
 refine Oq Vm (Oq Vm (Oq VshrU (Oq VaddU ?_)))
 generalize hg10 : rv7 + (rv7 >>> Int.toNat 16) = rv9
 refine Oq Va (KS ?_)
 refine Oq Vm (Oq Vm (Oq VshrU (Oq VaddU ?_)))
 generalize hg12 : rv9 + (rv9 >>> Int.toNat 32) = rv11
 refine Oq Va (KS ?_)
 refine Oq Vm (Oq (VcN un68 un3 (h := (pop_top hg2 hg4 hg6 hg8 hg10 hg12))) ?_)
 have hb13 := iand_ok (rv11.toNat : Int) 127
 refine Oq VandI (Oq Va (KS ?_))
 have hq := q4 hrr (iand (rv11.toNat : Int) 127) (by subst hg2 hg4 hg6 hg8 hg10 hg12; rfl); subst hq
 exact Kr () rfl (.tmp rfl .nil) [] ⟨by unfold i64ok; omega, by have h1 := pop_top hg2 hg4 hg6 hg8 hg10 hg12; have h2 := iand127 (n := rv11.toNat) aM1; omega⟩
theorem fn115 (s : GSet) (sa1 : Option Addr) (sk1 : Nat) (hs_0 : i64ok s.Width) (rr : Int) (hrr : bt_Count s = rr) : FT Tryz.prog 115 #[.agg #[vi s.Width, vl sa1 sk1 s.Words]] [S sa1 sk1 s.Words] (fun g : Unit => i64ok rr) (fun g => vi rr) (fun g => []) := by
 refine FTi Tryz.func115 fun w0 M0 F0 => ?_
 unfold i64ok at hs_0
 refine Fb 8 0 fun _ => KS ?_
 refine Oa (Ab [vi s.Width, vl sa1 sk1 s.Words]) fun p2 => Oq Va (KS ?_)
 refine Oq Va (KS ?_)
 refine Oq (VldA sh39 0) ?_
 refine letv (bt_Valid s) fun rv3 hg4 => ?_
 have hc5 := fn72 s sa1 sk1 pre rv3 hg4
 refine Oc [1] ca72 hc5 ?_
 rintro - -
 refine KS ?_
 refine Kc ?_ ?_
 ·intro h6
  have hpw := PV_w (s := s) (by simp only [h6, hg4])
  refine KS ?_
  refine Oq (Vfa fo39_1 0) (Oq (VldF sh37 0) (Oq (Vlen sl37) (Oq Vm (KS ?_))))
  refine Kl (γ := Nat × Int × Int) (fun (r8, n_9, v11_10) => ⟨[(3, vi n_9), (9, vl sa1 sk1 s.Words), (10, vi (s.Words.length : Int)), (11, vi v11_10)], [S sa1 sk1 s.Words], bt_Count_L0 s r8 n_9 v11_10 = bt_Count_L0 s (((s.Words.length : Int) - 0).toNat) 0 0 ∧ r8 = ((s.Words.length : Int) - v11_10).toNat ∧ (0 : Int) ≤ v11_10 ∧ v11_10 ≤ (s.Words.length : Int) ∧ (-9223372036854775808 ≤ n_9 ∧ n_9 ≤ 9223372036854775807) ∧ (-9223372036854775808 ≤ v11_10 ∧ v11_10 ≤ 9223372036854775807) ∧ (0 ≤ n_9 ∧ n_9 ≤ 127 * v11_10), r8⟩) (((s.Words.length : Int) - 0).toNat, 0, 0) [1] ⟨rfl, rfl, aM1, aM1, aM1, aM1, iv0⟩ ?_
  rintro ⟨r8, n_9, v11_10⟩ ⟨hM11, hr12, hi13, hi14, hk15, hk16, hv17⟩
  refine JJ_nx fun _ _ hL hA => ?_; dsimp only at hL hA; subst hL hA
  refine Fb 8 0 fun _ => KS ?_
  refine Oq Vlss (KS ?_)
  refine Kc ?_ ?_
  ·intro h19
   have g20 := dt h19
   obtain ⟨r21, rfl⟩ := scc (n := r8) aM1
   refine KS ?_
   refine Oq (Vi sl37 0) (Oq (VldU sh68 0) (Oq Va (KS ?_)))
   refine Oq Vm (Oq Vm ?_)
   refine letv (bits_OnesCount64 (s.Words.getD v11_10.toNat 0#64)) fun rv22 hg23 => ?_
   have hc24 := fn148 ((s.Words.getD v11_10.toNat 0#64)) rv22 hg23
   refine Oc [] ca148 hc24 ?_
   rintro - ⟨he25, he26⟩
   unfold i64ok at he25
   refine Oq Vadd (Oq Va (KS ?_))
   refine Oq Vadd (Oq Vm (KS ?_))
   exact Kg (r21, (n_9 + rv22), (v11_10 + 1)) [0] ⟨(q3 hM11 (by simp only [bt_Count_L0, h19, hg23, cs4])), aM1, aM1, aM1, aM1, aM1, iv1⟩
  intro h19
  have g27 := df h19
  obtain rfl : r8 = 0 := by omega
  refine Ke ?_
  have hR28 := q2 hM11 n_9 (by simp only [bt_Count_L0, h19, cs4])
  refine KS ?_
  refine Oq Vm (Oq Va (KS ?_))
  have hq := q4 hrr n_9 (by simp only [bt_Count, h6, h19, hg4, hR28, cs4]); subst hq
  exact Kr () rfl (.tmp rfl .nil) [] en
 intro h6
 refine KS ?_
 refine Oq Vm (Oq Va (KS ?_))
 have hq := q4 hrr 0 (by simp only [bt_Count, h6, hg4, cs4]); subst hq
 exact Kr () rfl (.tmp rfl .nil) [] en
theorem fn149 (x : BitVec 64) (rr : Int) (hrr : bits_TrailingZeros64 x = rr) : FT Tryz.prog 149 #[u64 x] [pv (gp 0) (tabV .u8 tzT)] (fun g : Unit => i64ok rr ∧ (0 ≤ rr ∧ rr ≤ 255)) (fun g => vi rr) (fun g => []) := by
 refine FTi Tryz.func149 fun w0 M0 F0 => ?_
 refine KS ?_
 refine Oq Va (KS ?_)
 refine Oq Vm (Oq (VeqlU (b := 0#64)) (KS ?_))
 refine Kc ?_ ?_
 ·intro h1
  have g2 := eq_of_beq h1
  refine KS ?_
  refine Oq Va (KS ?_)
  have hq := q4 hrr 64 (by simp only [bits_TrailingZeros64, h1, cs4]); subst hq
  exact Kr () rfl (.tmp rfl .nil) [] en
 intro h1
 have g3 := ne_of_beq_false h1
 refine KS ?_
 refine Oq Vm (Oq Vm (Oq VnegU (Oq VandU (Oq (VmulU (b := 285870213051353865#64)) (Oq VshrU ?_)))))
 have hb4 := shr58 ((x &&& (-x)) * 285870213051353865#64)
 refine Oq (VixG un183 (b := (((x &&& (-x)) * 285870213051353865#64) >>> (((58#64).toNat : Int)).toNat)) (h := hb4)) ?_
 have hb5 := tab_ok (t := tzT) (m := 255) (by decide) (by decide) ((((x &&& (-x)) * 285870213051353865#64) >>> (((58#64).toNat : Int)).toNat).toNat)
 refine Oq (VldT sh5 0 (hm := hb4)) (Oq (VcK un5 un3) (Oq Va (KS ?_)))
 have hq := q4 hrr (tzT.getD ((((x &&& (-x)) * 285870213051353865#64) >>> (((58#64).toNat : Int)).toNat).toNat) 0) (by simp only [bits_TrailingZeros64, h1, cs4]); subst hq
 exact Kr () rfl (.tmp rfl .nil) [] en
theorem fn150 (s : List Int) (sa0 : Option Addr) (sk0 : Nat) (rr : List Int) (hrr : sc_Clip_int s = rr) : FT Tryz.prog 150 #[vl sa0 sk0 s] [S sa0 sk0 s] (fun g : Value => (rr.length = s.length)) (fun g => g) (fun g => [sl g rr]) := by
 refine FTi Tryz.func150 fun w0 M0 F0 => Fb 8 0 fun _ => Fo 0 fun ho2 => ?_
 refine KS ?_
 refine Oq Va (KS ?_)
 refine Oq Vm (Oq Vm (Oq (Vlen sl22) (Oq Vm (Oq (Vlen sl22) (Oa (OpA.frame [0] rfl (OpA.sliceSl3 0 ((s.length : Int).toNat) ((s.length : Int).toNat) rfl rfl sl22 rfl rfl ⟨_, natc rfl aM1⟩ ⟨_, natc rfl aM1⟩ rng rng rng rng)) fun c3 => ?_)))))
 refine Jo 0 ?_; rintro a4 k5 rfl
 refine Fb 8 0 fun _ => Fo 0 fun ho7 => ?_
 have hn8 : ((s.take ((s.length : Int).toNat)).drop 0).length = ((s.length : Int).toNat) - 0 := len_slice rng rng
 refine Oq Va (KS ?_)
 have hq := q4 hrr ((s.take ((s.length : Int).toNat)).drop 0) (by simp only [sc_Clip_int, cs4]); subst hq
 exact Kr (.slice a4 (((s.take ((s.length : Int).toNat)).drop 0).length) k5) rfl (.tmp rfl .nil) [0] (by rw [← hrr]; unfold sc_Clip_int; simp)
theorem fn116 (s : GSet) (sa1 : Option Addr) (sk1 : Nat) (hs_0 : i64ok s.Width) (rr : List Int) (hrr : bt_Members s = rr) : FT Tryz.prog 116 #[.agg #[vi s.Width, vl sa1 sk1 s.Words]] [S sa1 sk1 s.Words, pv (gp 0) (tabV .u8 tzT)] (fun g : Value => True) (fun g => g) (fun g => [sl g rr]) := by
 refine FTi Tryz.func116 fun w0 M0 F0 => ?_
 unfold i64ok at hs_0
 refine Fb 8 0 fun _ => KS ?_
 refine Oa (Ab [vi s.Width, vl sa1 sk1 s.Words]) fun p2 => Oq Va (KS ?_)
 refine Oq (VldA sh39 0) ?_
 refine letv (bt_Valid s) fun rv3 hg4 => ?_
 have hc5 := fn72 s sa1 sk1 pre rv3 hg4
 refine Oc [1] ca72 hc5 ?_
 rintro - -
 refine Oq Vnot (KS ?_)
 refine Kc ?_ ?_
 ·intro h6
  have h8 := not_true h6
  refine KS ?_
  refine Oq Va (KS ?_)
  refine Jl [] (Ent.slNil (α := Int)) ?_
  have hq := q4 hrr ([] : List Int) (by simp only [bt_Members, h6, h8, hg4, cs4]); subst hq
  exact Kr (.slice none 0 0) rfl (.tmp rfl .nil) [0] trivial
 intro h6
 have h11 := not_false h6
 have hpw := PV_w (s := s) (by simp only [h6, h11, hg4])
 refine KS ?_
 refine Oq Va (KS ?_)
 refine Oq (Vfa fo39_1 0) (Oq (VldF sh37 0) (Oq (Vlen sl37) (Oq Vm (KS ?_))))
 refine Jl [] (Ent.osNil (α := Int)) ?_
 refine Kl (γ := Nat × List Int × Int × Option Addr × Nat) (fun (r13, out_14, v12_15, a16, k17) => ⟨[(3, vl a16 k17 out_14), (10, vl sa1 sk1 s.Words), (11, vi (s.Words.length : Int)), (12, vi v12_15)], [O a16 k17 out_14, S sa1 sk1 s.Words, pv (gp 0) (tabV .u8 tzT)], bt_Members_L0 s r13 out_14 v12_15 = bt_Members_L0 s (((s.Words.length : Int) - 0).toNat) [] 0 ∧ r13 = ((s.Words.length : Int) - v12_15).toNat ∧ (0 : Int) ≤ v12_15 ∧ v12_15 ≤ (s.Words.length : Int) ∧ (-9223372036854775808 ≤ v12_15 ∧ v12_15 ≤ 9223372036854775807) ∧ ((out_14.length : Int) ≤ 66 * v12_15), r13⟩) (((s.Words.length : Int) - 0).toNat, [], 0, none, 0) [0, 1, 2] ⟨rfl, rfl, aM1, aM1, aM1, iv0⟩ ?_
 rintro ⟨r13, out_14, v12_15, a16, k17⟩ ⟨hM18, hr19, hi20, hi21, hk22, hv23⟩
 refine JJ_nx fun _ _ hL hA => ?_; dsimp only at hL hA; subst hL hA
 refine Fb 8 0 fun _ => Fo 0 fun ho25 => Fb 8 1 fun _ => KS ?_
 refine Oq Vlss (KS ?_)
 refine Kc ?_ ?_
 ·intro h27
  have g28 := dt h27
  obtain ⟨r29, rfl⟩ := scc (n := r13) aM1
  refine KS ?_
  refine Oq Vm (Oq (Vi sl37 1) (Oq (VldU sh68 1) (Oq Va (Oq Va (KS ?_)))))
  have hterm37 : bt_Members_L1 v12_15 66 out_14 (s.Words.getD v12_15.toNat 0#64) ≠ LR.oof := (Mem_t _ _)
  refine Kl (γ := Nat × List Int × BitVec 64 × Option Addr × Nat) (fun (r30, out_31, w_32, a33, k34) => ⟨[(3, vl a33 k34 out_31), (10, vl sa1 sk1 s.Words), (11, vi (s.Words.length : Int)), (12, vi v12_15), (4, vi v12_15), (5, u64 w_32)], [O a33 k34 out_31, S sa1 sk1 s.Words, pv (gp 0) (tabV .u8 tzT)], bt_Members_L1 v12_15 r30 out_31 w_32 = bt_Members_L1 v12_15 66 out_14 (s.Words.getD v12_15.toNat 0#64) ∧ ((out_31.length : Int) + (r30 : Int) ≤ 66 * v12_15 + 66), r30⟩) (66, out_14, (s.Words.getD v12_15.toNat 0#64), a16, k17) [0, 0, 1] ⟨rfl, iv0⟩ ?_
  rintro ⟨r30, out_31, w_32, a33, k34⟩ ⟨hM35, hv36⟩
  refine JJ_nx fun _ _ hL hA => ?_; dsimp only at hL hA; subst hL hA
  refine Fb 8 0 fun _ => Fo 0 fun ho39 => Fb 8 1 fun _ => ?_
  rcases r30 with _ | r30
  ·exact absurd (hM35.symm.trans rfl) hterm37
  refine KS ?_
  refine Oq Vm (Oq (VneqU (b := 0#64)) (KS ?_))
  refine Kc ?_ ?_
  ·intro h41
   have g42 := ne_of_bne h41
   refine KS ?_
   refine Oq Vm (Oq Vm (Oq Vmul (Oq Vm ?_)))
   refine letv (bits_TrailingZeros64 w_32) fun rv43 hg44 => ?_
   have hc45 := fn149 w_32 rv43 hg44
   refine Oc [2] ca149 hc45 ?_
   rintro - ⟨he46, he47⟩
   unfold i64ok at he46
   refine Oq Vadd (Oa (AsV sl22 sz22 [vi ((v12_15 * 64) + rv43)] [vi ((v12_15 * 64) + rv43)]) fun c48 => ?_)
   refine Jo 0 ?_; rintro a49 k50 rfl
   refine Jl [0] (Ent.crInt _ [((v12_15 * 64) + rv43)] _ _ rfl rfl (by intro x hx; rw [List.mem_singleton] at hx; subst hx; unfold i64ok; omega) aB1) ?_
   refine Oa (ApO [1, 0] sl22 sl22 sz22) fun c51 => ?_
   refine Jo 0 ?_; rintro a52 k53 rfl
   refine Fb 8 0 fun _ => Fo 0 fun ho55 => ?_
   have hn56 := la out_31 ([((v12_15 * 64) + rv43)] : List Int)
   refine Oq Va (KS ?_)
   refine Oq Vm (Oq Vm (Oq (VsubU (b := 1#64)) (Oq VandU (Oq Va (KS ?_)))))
   exact Kg (r30, (out_31 ++ [((v12_15 * 64) + rv43)]), (w_32 &&& (w_32 - 1#64)), a52, k53) [0, 0, 1] ⟨(q3 hM35 (by simp only [bt_Members_L1, h41, hg44, cs4])), iv1⟩
  intro h41
  have g57 := eq_of_bne_false h41
  refine Ke ?_
  have hR58 := q2 hM35 (.brk out_31) (by simp only [bt_Members_L1, h41, cs4])
  refine KS ?_
  refine Oq Vadd (Oq Vm (KS ?_))
  exact Kg (r29, out_31, (v12_15 + 1), a33, k34) [0, 0, 1] ⟨(q3 hM18 (by simp only [bt_Members_L0, h27, h41, hR58, cs4])), aM1, aM1, aM1, aM1, iv1⟩
 intro h27
 have g59 := df h27
 obtain rfl : r13 = 0 := by omega
 refine Ke ?_
 have hR60 := q2 hM18 out_14 (by simp only [bt_Members_L0, h27, cs4])
 refine KS ?_
 refine Oq Vm ?_
 refine Jl [0] (Ent.freeze _ _) ?_
 refine letv (sc_Clip_int out_14) fun rv62 hg63 => ?_
 have hc64 := fn150 out_14 a16 k17 rv62 hg63
 refine Oc [0] ca150 hc64 ?_
 rintro c61 he65
 refine Jo 0 ?_; rintro a66 k67 rfl
 refine Fb 8 0 fun _ => Fo 0 fun ho69 => ?_
 refine Oq Va (KS ?_)
 have hq := q4 hrr rv62 (by simp only [bt_Members, h6, h11, h27, hg4, hR60, hg63, cs4]); subst hq
 exact Kr (vl a66 k67 rv62) rfl (.tmp rfl .nil) [0] trivial
theorem fn77 (b : List UInt8) (ba0 : Option Addr) (bk0 : Nat) (s : GSet) (sa1 : Option Addr) (sk1 : Nat) (hs_0 : i64ok s.Width) (hb0 : b.length ≤ 900000) (hv0 : bt_Valid s = true) (rr : List UInt8) (hrr : uvarint_AppendSet b s = rr) : FT Tryz.prog 77 #[vl ba0 bk0 b, .agg #[vi s.Width, vl sa1 sk1 s.Words]] [O ba0 bk0 b, S sa1 sk1 s.Words, pv (gp 0) (tabV .u8 tzT)] (fun g : Value => (rr.length ≤ b.length + 2850)) (fun g => g) (fun g => [os g rr]) := by
 refine FTi Tryz.func77 fun w0 M0 F0 => ?_
 unfold i64ok at hs_0
 refine Fb 1 0 fun _ => Fb 8 1 fun _ => ?_
 have hwd := Valid_wd hv0
 refine KS ?_
 refine Oa (Ab [vi s.Width, vl sa1 sk1 s.Words]) fun p3 => Oq Va (KS ?_)
 refine JK_drawK [0, 0, 2, 7, 0, 31, 63, 127] fmix ?_
 refine Dv [] Vm (Dv [0] (Vfa fo39_0 0) (Dv [0] (VldF sh3 0) ?_))
 refine letv (uvarint_Append b s.Width) fun rv5 hg6 => ?_
 refine Dx [1] [1] [0, 1] (fun G => (G.g 3 0)) [fun G => SP.fact ((rv5.length ≤ b.length + 11)), fun G => os (G.g 3 0) rv5] (fun G => xC [0] ca75 (fn75 b ba0 bk0 s.Width pre pre pre rv5 hg6)) (Dv [0] (VldA sh39 0) ?_)
 refine letv (bt_Count s) fun rv7 hg8 => ?_
 have hco := Count_ok hg8
 refine Dx [2] [] [1, 0] (fun G => vi rv7) [fun G => SP.fact (i64ok rv7)] (fun G => xC [0] ca115 (fn115 s sa1 sk1 pre rv7 hg8)) ?_
 refine letv (uvarint_Append rv5 rv7) fun rv13 hg14 => ?_
 refine Dx [4, 5, 6] [5] [2, 3, 0, 1] (fun G => (G.g 6 0)) [fun G => SP.fact ((rv13.length ≤ rv5.length + 11)), fun G => os (G.g 6 0) rv13] (fun G => by refine xf 0 rfl ?_; rintro he15; refine xf 2 rfl ?_; rintro he16; unfold i64ok at he16; exact xD [1] ca75 rfl rfl rfl (FT_open (γ := Value) (I := fun g => (rv13.length ≤ rv5.length + 11)) (V := fun g => g) (B := fun g => [os g rv13]) (R := os (G.g 3 0) rv5) os_slice (fun aq9 kq10 eq11 => by rw [eq11]; exact FT_ent (Ent.take (is := [0]) rfl) (fn75 rv5 aq9 kq10 rv7 pre pre pre rv13 hg14)))) (Dg [] (fun G => (G.g 6 0)) (fun G => Va) ?_)
 refine Dn ⟨by kernel_rfl, fun G => ?_⟩
 refine Jw2 [(3, p3), (0, (G.g 6 0))] [0, 2, 3] [SP.fact ((rv5.length ≤ b.length + 11)), SP.fact (i64ok rv7), SP.fact ((rv13.length ≤ rv5.length + 11)), os (G.g 6 0) rv13] ?_
 generalize G.g 6 0 = c12
 refine Jf 3 rfl ?_; rintro he17
 refine Jf 4 rfl ?_; rintro he18
 unfold i64ok at he18
 refine Jf 5 rfl ?_; rintro he19
 refine Jk [0, 1, 2, 6] ?_
 refine Jo 3 ?_; rintro a20 k21 rfl
 refine Fb 1 3 fun _ => KS ?_
 refine Oq Va (KS ?_)
 refine Oq (VldA sh39 0) ?_
 refine letv (bt_Members s) fun rv24 hg25 => ?_
 have hMA := bMem_asl hg25; have hml := hMA.2.1
 have hc26 := fn116 s sa1 sk1 pre rv24 hg25
 refine Oc [1, 2] ca116 hc26 ?_
 rintro c23 -
 refine Jo 0 ?_; rintro a27 k28 rfl
 refine Fb 8 0 fun _ => Fo 0 fun ho30 => ?_
 refine Oq (Vlen sl22) (Oq Vm (KS ?_))
 refine Kl (γ := Nat × List UInt8 × Int × Int × Option Addr × Nat) (fun (r31, b_32, last_33, v18_34, a35, k36) => ⟨[(0, vl a35 k36 b_32), (5, vi last_33), (16, vl a27 k28 rv24), (17, vi (rv24.length : Int)), (18, vi v18_34)], [O a35 k36 b_32, S a27 k28 rv24, pv (gp 0) (tabV .u8 tzT)], uvarint_AppendSet_L0 rv24 r31 b_32 last_33 v18_34 = uvarint_AppendSet_L0 rv24 (((rv24.length : Int) - 0).toNat) rv13 (-1) 0 ∧ r31 = ((rv24.length : Int) - v18_34).toNat ∧ (0 : Int) ≤ v18_34 ∧ v18_34 ≤ (rv24.length : Int) ∧ (-9223372036854775808 ≤ last_33 ∧ last_33 ≤ 9223372036854775807) ∧ (-9223372036854775808 ≤ v18_34 ∧ v18_34 ≤ 9223372036854775807) ∧ (LS rv24 v18_34 last_33) ∧ ((b_32.length : Int) ≤ (b.length : Int) + 22 + 11 * v18_34), r31⟩) (((rv24.length : Int) - 0).toNat, rv13, -1, 0, a20, k21) [4, 0, 3] ⟨rfl, rfl, aM1, aM1, aM1, aM1, (LS_0 hMA), iv0⟩ ?_
 rintro ⟨r31, b_32, last_33, v18_34, a35, k36⟩ ⟨hM37, hr38, hi39, hi40, hk41, hk42, hv43, hv44⟩
 refine JJ_nx fun _ _ hL hA => ?_; dsimp only at hL hA; subst hL hA
 refine Fb 1 0 fun _ => Fb 8 1 fun _ => Fo 1 fun ho47 => KS ?_
 refine Oq Vlss (KS ?_)
 refine Kc ?_ ?_
 ·intro h48
  have g49 := dt h48
  have hls := LS_get (by assumption : LS _ v18_34 _) aM1 aM1; have hag := MAsc_get (i := v18_34) hMA aM1 aM1
  obtain ⟨r50, rfl⟩ := scc (n := r31) aM1
  refine KS ?_
  refine Oq (Vi sl22 1) ?_
  have hb51 := ok1 (i := v18_34.toNat) ho47 rng
  refine Oq (VldI sh3 1) (Oq Va (KS ?_))
  refine Oq Vm (Oq Vm (Oq Vm (Oq Vsub (Oq Vsub ?_))))
  refine letv (uvarint_Append b_32 (((rv24.getD v18_34.toNat 0) - last_33) - 1)) fun rv53 hg54 => ?_
  have hc55 := fn75 b_32 a35 k36 ((((rv24.getD v18_34.toNat 0) - last_33) - 1)) pre pre pre rv53 hg54
  refine Oc [0] ca75 hc55 ?_
  rintro c52 he56
  refine Jo 0 ?_; rintro a57 k58 rfl
  refine Fb 1 0 fun _ => ?_
  refine Oq Va (KS ?_)
  refine Oq Vm (Oq Va (KS ?_))
  refine Oq Vadd (Oq Vm (KS ?_))
  exact Kg (r50, rv53, (rv24.getD v18_34.toNat 0), (v18_34 + 1), a57, k58) [0, 0, 1] ⟨(q3 hM37 (by simp only [uvarint_AppendSet_L0, h48, hg54, cs4])), aM1, aM1, aM1, aM1, aM1, (LS_step hMA aM1 aM1), iv1⟩
 intro h48
 have g60 := df h48
 obtain rfl : r31 = 0 := by omega
 refine Ke ?_
 have hR61 := q2 hM37 b_32 (by simp only [uvarint_AppendSet_L0, h48, cs4])
 refine KS ?_
 refine Oq Vm (Oq Va (KS ?_))
 have hq := q4 hrr b_32 (by simp only [uvarint_AppendSet, h48, hg6, hg8, hg14, hg25, hR61, cs4]); subst hq
 exact Kr (vl a35 k36 b_32) rfl (.tmp rfl .nil) [0] en
theorem fn46 (b : List UInt8) (ba0 : Option Addr) (bk0 : Nat) (st : GState) (sta1 : Option Addr) (stk1 : Nat) (sta2 : Option Addr) (stk2 : Nat) (sta5 : Option Addr) (stk5 : Nat) (sta6 : Option Addr) (stk6 : Nat) (hst_0 : i64ok st.Phase) (hst_3 : i64ok st.At) (hst_4 : i64ok st.Edge) (hst_7 : i64ok st.Steps) (hb0 : b.length ≤ 100) (he0 : EO st) (rr : List UInt8) (hrr : resume_Append b st = rr) : FT Tryz.prog 46 #[vl ba0 bk0 b, .agg #[vi st.Phase, vl sta1 stk1 st.Cone, vl sta2 stk2 st.Leaf, vi st.At, vi st.Edge, vl sta5 stk5 st.Values, vl sta6 stk6 st.Queue, vi st.Steps]] [O ba0 bk0 b, S sta1 stk1 st.Cone, S sta2 stk2 st.Leaf, S sta5 stk5 st.Values, S sta6 stk6 st.Queue, pv (gp 0) (tabV .u8 tzT)] (fun g : Value => (rr.length ≤ 800000)) (fun g => g) (fun g => [os g rr]) := by
 refine FTi Tryz.func46 fun w0 M0 F0 => ?_
 unfold i64ok at hst_0 hst_3 hst_4 hst_7
 refine Fb 1 0 fun _ => Fb 8 1 fun _ => Fo 1 fun ho3 => Fb 1 2 fun _ => Fb 32 3 fun _ => Fb 8 4 fun _ => Fo 4 fun ho7 => ?_
 have h_cl := he0.cl
 have h_vl := he0.vl
 have h_ll := he0.ll
 have h_ql := he0.ql
 have h_ph := he0.ph
 have h_ac := he0.ac
 have h_ec := he0.ec
 have h_sc := he0.sc
 refine KS ?_
 refine Oa (Ab [vi st.Phase, vl sta1 stk1 st.Cone, vl sta2 stk2 st.Leaf, vi st.At, vi st.Edge, vl sta5 stk5 st.Values, vl sta6 stk6 st.Queue, vi st.Steps]) fun p8 => Oq Va (KS ?_)
 refine JK_drawK [0, 0, 2, 7, 0, 16, 63, 127] fmix ?_
 refine Dv [] Vm (Dv [0] (Vfa fo26_0 0) (Dv [0] (VldF sh3 0) ?_))
 refine letv (uvarint_Append b st.Phase) fun rv10 hg11 => ?_
 refine Dx [1] [1] [0, 1] (fun G => (G.g 3 0)) [fun G => SP.fact ((rv10.length ≤ b.length + 11)), fun G => os (G.g 3 0) rv10] (fun G => xC [0] ca75 (fn75 b ba0 bk0 st.Phase pre pre (by first | omega | exact (he0.cc _ (getD_mem aM1)).1 | exact (he0.qc _ (getD_mem aM1)).1 | exact tri_nn aM1 aM1 aM1 _) rv10 hg11)) (Dv [0] (Vfa fo26_1 0) (Dv [0] (VldF sh22 0) ?_))
 refine letv (uvarint_AppendNumbers rv10 st.Cone) fun rv16 hg17 => ?_
 refine Dx [2, 7, 8] [8] [2, 3, 0, 1] (fun G => (G.g 6 0)) [fun G => SP.fact ((rv16.length ≤ rv10.length + 2830)), fun G => os (G.g 6 0) rv16] (fun G => by refine xf 1 rfl ?_; rintro he18; exact xD [2, 0] ca74 rfl rfl rfl (FT_open (γ := Value) (I := fun g => (rv16.length ≤ rv10.length + 2830)) (V := fun g => g) (B := fun g => [os g rv16]) (R := os (G.g 3 0) rv10) os_slice (fun aq12 kq13 eq14 => by rw [eq14]; exact FT_ent (Ent.take (is := [0, 0]) rfl) (fn74 rv10 aq12 kq13 st.Cone sta1 stk1 pre (by first | exact ⟨by omega, fun x hx => (he0.cc x hx).1⟩ | exact ⟨by omega, fun x hx => (he0.qc x hx).1⟩) rv16 hg17)))) (Dg [] (fun G => (G.g 6 0)) (fun G => Va) ?_)
 refine Dn ⟨by kernel_rfl, fun G => ?_⟩
 refine Jw2 [(3, p8), (0, (G.g 6 0))] [0, 2, 3, 4, 5, 6] [SP.fact ((rv10.length ≤ b.length + 11)), SP.fact ((rv16.length ≤ rv10.length + 2830)), os (G.g 6 0) rv16] ?_
 generalize G.g 6 0 = c15
 refine Jf 6 rfl ?_; rintro he19
 refine Jf 7 rfl ?_; rintro he20
 refine Jk [0, 1, 2, 3, 4, 5, 8] ?_
 refine Jo 6 ?_; rintro a21 k22 rfl
 refine Fb 1 6 fun _ => KS ?_
 refine Oq (Vfa fo26_2 0) (Oq (VldF sh23 0) (Oq (Vlen sl23) (Oq Vm (KS ?_))))
 refine Kl (γ := Nat × List UInt8 × Int × Option Addr × Nat) (fun (r24, b_25, v21_26, a27, k28) => ⟨[(3, p8), (0, vl a27 k28 b_25), (19, vl sta2 stk2 st.Leaf), (20, vi (st.Leaf.length : Int)), (21, vi v21_26)], [O a27 k28 b_25, pv p8 [vi st.Phase, vl sta1 stk1 st.Cone, vl sta2 stk2 st.Leaf, vi st.At, vi st.Edge, vl sta5 stk5 st.Values, vl sta6 stk6 st.Queue, vi st.Steps], S sta1 stk1 st.Cone, S sta2 stk2 st.Leaf, S sta5 stk5 st.Values, S sta6 stk6 st.Queue, pv (gp 0) (tabV .u8 tzT)], resume_Append_L0 st r24 b_25 v21_26 = resume_Append_L0 st (((st.Leaf.length : Int) - 0).toNat) rv16 0 ∧ r24 = ((st.Leaf.length : Int) - v21_26).toNat ∧ (0 : Int) ≤ v21_26 ∧ v21_26 ≤ (st.Leaf.length : Int) ∧ (-9223372036854775808 ≤ v21_26 ∧ v21_26 ≤ 9223372036854775807) ∧ ((b_25.length : Int) ≤ 3000 + v21_26), r24⟩) (((st.Leaf.length : Int) - 0).toNat, rv16, 0, a21, k22) [6, 0, 1, 2, 3, 4, 5] ⟨rfl, rfl, aM1, aM1, aM1, iv0⟩ ?_
 rintro ⟨r24, b_25, v21_26, a27, k28⟩ ⟨hM29, hr30, hi31, hi32, hk33, hv34⟩
 refine JJ_nx fun _ _ hL hA => ?_; dsimp only at hL hA; subst hL hA
 refine Fb 1 0 fun _ => Fb 8 2 fun _ => Fo 2 fun ho37 => Fb 1 3 fun _ => Fb 32 4 fun _ => Fb 8 5 fun _ => Fo 5 fun ho41 => KS ?_
 refine Oq Vlss (KS ?_)
 refine Kc ?_ ?_
 ·intro h42
  have g43 := dt h42
  obtain ⟨r44, rfl⟩ := scc (n := r24) aM1
  refine KS ?_
  refine Oq (Vi sl23 3) (Oq (VldB sh4 3) (Oq Va (KS ?_)))
  refine Oq Vm (Oq Vm ?_)
  refine letv (uvarint_AppendBool b_25 (st.Leaf.getD v21_26.toNat false)) fun rv46 hg47 => ?_
  have hc48 := fn76 b_25 a27 k28 ((st.Leaf.getD v21_26.toNat false)) pre rv46 hg47
  refine Oc [0] ca76 hc48 ?_
  rintro c45 he49
  refine Jo 0 ?_; rintro a50 k51 rfl
  refine Fb 1 0 fun _ => ?_
  refine Oq Va (KS ?_)
  refine Oq Vadd (Oq Vm (KS ?_))
  exact Kg (r44, rv46, (v21_26 + 1), a50, k51) [0, 0, 1, 2, 3, 4, 5] ⟨(q3 hM29 (by simp only [resume_Append_L0, h42, hg47, cs4])), aM1, aM1, aM1, aM1, iv1⟩
 intro h42
 have g53 := df h42
 obtain rfl : r24 = 0 := by omega
 refine Ke ?_
 have hR54 := q2 hM29 b_25 (by simp only [resume_Append_L0, h42, cs4])
 refine KS ?_
 refine Oq (Vfa fo26_3 1) (Oq (VldF sh3 1) (Oq (Vfa fo26_4 1) (Oq (VldF sh3 1) (Oq (Vfa fo26_5 1) (Oq (VldF sh24 1) (Oq (Vlen sl24) (Oa (AsV sl22 sz22 [vi st.At, vi st.Edge, vi (st.Values.length : Int)] [vi st.At, vi st.Edge, vi (st.Values.length : Int)]) fun c55 => ?_)))))))
 refine Jo 0 ?_; rintro a56 k57 rfl
 refine Oq (Vlen sl22) (Oq Vm (KS ?_))
 refine Jl [0] (Ent.crInt _ [st.At, st.Edge, (st.Values.length : Int)] _ _ rfl rfl (by intro x hx; simp only [List.mem_cons, List.not_mem_nil, or_false] at hx; rcases hx with rfl | rfl | rfl <;> (unfold i64ok; omega)) aB1) ?_
 refine Fb 8 0 fun _ => Fo 0 fun ho59 => ?_
 refine Kl (γ := Nat × List UInt8 × Int × Option Addr × Nat) (fun (r60, b_61, v38_62, a63, k64) => ⟨[(3, p8), (0, vl a63 k64 b_61), (36, .slice a56 3 k57), (37, vi ((3 : Nat) : Int)), (38, vi v38_62)], [O a63 k64 b_61, os (.slice a56 3 k57) ([st.At, st.Edge, (st.Values.length : Int)] : List Int), pv p8 [vi st.Phase, vl sta1 stk1 st.Cone, vl sta2 stk2 st.Leaf, vi st.At, vi st.Edge, vl sta5 stk5 st.Values, vl sta6 stk6 st.Queue, vi st.Steps], S sta1 stk1 st.Cone, S sta2 stk2 st.Leaf, S sta5 stk5 st.Values, S sta6 stk6 st.Queue, pv (gp 0) (tabV .u8 tzT)], resume_Append_L1 st r60 b_61 v38_62 = resume_Append_L1 st (((((3 : Nat) : Int) : Int) - 0).toNat) b_25 0 ∧ r60 = ((((3 : Nat) : Int) : Int) - v38_62).toNat ∧ (0 : Int) ≤ v38_62 ∧ (v38_62 ≤ ((3 : Nat) : Int) ∨ v38_62 = 0) ∧ (-9223372036854775808 ≤ v38_62 ∧ v38_62 ≤ 9223372036854775807) ∧ ((b_61.length : Int) ≤ 3300 + 11 * v38_62), r60⟩) (((((3 : Nat) : Int) : Int) - 0).toNat, b_25, 0, a27, k28) [1, 0, 0, 1, 2, 3, 4, 5] ⟨rfl, rfl, aM1, (.inr rfl), aM1, iv0⟩ ?_
 rintro ⟨r60, b_61, v38_62, a63, k64⟩ ⟨hM65, hr66, hi67, hi68, hk69, hv70⟩
 refine JJ_nx fun _ _ hL hA => ?_; dsimp only at hL hA; subst hL hA
 refine Fb 1 0 fun _ => Fb 8 1 fun _ => Fo 1 fun ho73 => Fl 1 fun hn74 => ?_
 refine Fb 8 3 fun _ => Fo 3 fun ho76 => Fb 1 4 fun _ => Fb 32 5 fun _ => Fb 8 6 fun _ => Fo 6 fun ho80 => KS ?_
 refine Oq Vlss (KS ?_)
 refine Kc ?_ ?_
 ·intro h81
  have g82 := dt h81
  obtain ⟨r83, rfl⟩ := scc (n := r60) aM1
  refine KS ?_
  refine Oq (Vi sl22 1) ?_
  have hb84 := ok1 (i := v38_62.toNat) ho73 rng
  refine Oq (VldI sh3 1) (Oq Va (KS ?_))
  refine Oq Vm (Oq Vm ?_)
  refine letv (uvarint_Append b_61 ([st.At, st.Edge, (st.Values.length : Int)].getD v38_62.toNat 0)) fun rv86 hg87 => ?_
  have hc88 := fn75 b_61 a63 k64 (([st.At, st.Edge, (st.Values.length : Int)].getD v38_62.toNat 0)) pre pre (by first | omega | exact (he0.cc _ (getD_mem aM1)).1 | exact (he0.qc _ (getD_mem aM1)).1 | exact tri_nn aM1 aM1 aM1 _) rv86 hg87
  refine Oc [0] ca75 hc88 ?_
  rintro c85 he89
  refine Jo 0 ?_; rintro a90 k91 rfl
  refine Fb 1 0 fun _ => ?_
  refine Oq Va (KS ?_)
  refine Oq Vadd (Oq Vm (KS ?_))
  exact Kg (r83, rv86, (v38_62 + 1), a90, k91) [0, 0, 0, 1, 2, 3, 4, 5] ⟨(q3 hM65 (by simp only [resume_Append_L1, h81, hg87, cs4])), aM1, aM1, aM1, aM1, iv1⟩
 intro h81
 have g93 := df h81
 obtain rfl : r60 = 0 := by omega
 refine Ke ?_
 have hR94 := q2 hM65 b_61 (by simp only [resume_Append_L1, h81, cs4])
 refine KS ?_
 refine Oq (Vfa fo26_5 2) (Oq (VldF sh24 2) (Oq (Vlen sl24) (Oq Vm (KS ?_))))
 refine Kl (γ := Nat × List UInt8 × Int × Option Addr × Nat) (fun (r95, b_96, v49_97, a98, k99) => ⟨[(3, p8), (0, vl a98 k99 b_96), (47, vl sta5 stk5 st.Values), (48, vi (st.Values.length : Int)), (49, vi v49_97)], [O a98 k99 b_96, pv p8 [vi st.Phase, vl sta1 stk1 st.Cone, vl sta2 stk2 st.Leaf, vi st.At, vi st.Edge, vl sta5 stk5 st.Values, vl sta6 stk6 st.Queue, vi st.Steps], S sta1 stk1 st.Cone, S sta2 stk2 st.Leaf, S sta5 stk5 st.Values, S sta6 stk6 st.Queue, pv (gp 0) (tabV .u8 tzT)], resume_Append_L2 st r95 b_96 v49_97 = resume_Append_L2 st (((st.Values.length : Int) - 0).toNat) b_61 0 ∧ r95 = ((st.Values.length : Int) - v49_97).toNat ∧ (0 : Int) ≤ v49_97 ∧ v49_97 ≤ (st.Values.length : Int) ∧ (-9223372036854775808 ≤ v49_97 ∧ v49_97 ≤ 9223372036854775807) ∧ ((b_96.length : Int) ≤ 3400 + 2900 * v49_97), r95⟩) (((st.Values.length : Int) - 0).toNat, b_61, 0, a63, k64) [0, 1, 2, 3, 4, 5, 6] ⟨rfl, rfl, aM1, aM1, aM1, iv0⟩ ?_
 rintro ⟨r95, b_96, v49_97, a98, k99⟩ ⟨hM100, hr101, hi102, hi103, hk104, hv105⟩
 refine JJ_nx fun _ _ hL hA => ?_; dsimp only at hL hA; subst hL hA
 refine Fb 1 0 fun _ => Fb 8 2 fun _ => Fo 2 fun ho108 => Fb 1 3 fun _ => Fb 32 4 fun _ => Fb 8 5 fun _ => Fo 5 fun ho112 => KS ?_
 refine Oq Vlss (KS ?_)
 refine Kc ?_ ?_
 ·intro h113
  have g114 := dt h113
  obtain ⟨r115, rfl⟩ := scc (n := r95) aM1
  refine KS ?_
  refine Oq (Vi sl24 4) ?_
  refine JJ_peek_GSet v49_97.toNat 4 rfl rng fun a116 k117 hb118 => ?_
  unfold i64ok at hb118
  refine Fb 8 1 fun _ => ?_
  refine Oq (VldA sh39 0) (Oa (Al ze39 [vi 0, .slice none 0 0]) fun p120 => Ost (Scl [0] sh39 [vi ((st.Values.getD v49_97.toNat default).Width), vl a116 k117 ((st.Values.getD v49_97.toNat default).Words)]) (KS ?_))
  refine Oq Vm (Oq (VldA sh39 0) ?_)
  refine letv (uvarint_AppendSet b_96 (st.Values.getD v49_97.toNat default)) fun rv122 hg123 => ?_
  have hc124 := fn77 b_96 a98 k99 ((st.Values.getD v49_97.toNat default)) a116 k117 pre pre (he0.vv _ (getD_mem aM1)) rv122 hg123
  refine Oc [3, 2, 8] ca77 hc124 ?_
  rintro c121 he125
  refine Jo 0 ?_; rintro a126 k127 rfl
  refine Fb 1 0 fun _ => ?_
  refine Oq Va (KS ?_)
  refine Oq Vadd (Oq Vm (KS ?_))
  exact Kg (r115, rv122, (v49_97 + 1), a126, k127) [0, 3, 4, 5, 6, 7, 8] ⟨(q3 hM100 (by simp only [resume_Append_L2, h113, hg123, cs4])), aM1, aM1, aM1, aM1, iv1⟩
 intro h113
 have g129 := df h113
 obtain rfl : r95 = 0 := by omega
 refine Ke ?_
 have hR130 := q2 hM100 b_96 (by simp only [resume_Append_L2, h113, cs4])
 refine KS ?_
 refine JK_drawK [0, 0, 2, 7, 0, 16, 63, 127] fmix ?_
 refine Dv [] Vm (Dv [1] (Vfa fo26_6 0) (Dv [1] (VldF sh22 0) ?_))
 refine letv (uvarint_AppendNumbers b_96 st.Queue) fun rv132 hg133 => ?_
 refine Dx [0, 5] [0] [2, 0, 1] (fun G => (G.g 3 0)) [fun G => SP.fact ((rv132.length ≤ b_96.length + 2830)), fun G => os (G.g 3 0) rv132] (fun G => xC [0, 0] ca74 (fn74 b_96 a98 k99 st.Queue sta6 stk6 pre (by first | exact ⟨by omega, fun x hx => (he0.cc x hx).1⟩ | exact ⟨by omega, fun x hx => (he0.qc x hx).1⟩) rv132 hg133)) (Dv [1] (Vfa fo26_7 0) (Dv [1] (VldF sh3 0) ?_))
 refine letv (uvarint_Append rv132 st.Steps) fun rv138 hg139 => ?_
 refine Dx [7, 8] [8] [2, 0, 1] (fun G => (G.g 6 0)) [fun G => SP.fact ((rv138.length ≤ rv132.length + 11)), fun G => os (G.g 6 0) rv138] (fun G => by refine xf 0 rfl ?_; rintro he140; exact xD [1] ca75 rfl rfl rfl (FT_open (γ := Value) (I := fun g => (rv138.length ≤ rv132.length + 11)) (V := fun g => g) (B := fun g => [os g rv138]) (R := os (G.g 3 0) rv132) os_slice (fun aq134 kq135 eq136 => by rw [eq136]; exact FT_ent (Ent.take (is := [0]) rfl) (fn75 rv132 aq134 kq135 st.Steps pre pre (by first | omega | exact (he0.cc _ (getD_mem aM1)).1 | exact (he0.qc _ (getD_mem aM1)).1 | exact tri_nn aM1 aM1 aM1 _) rv138 hg139)))) (Dg [] (fun G => (G.g 6 0)) (fun G => Va) ?_)
 refine Dn ⟨by kernel_rfl, fun G => ?_⟩
 refine Jw2 [(4, (G.g 6 0))] [1, 2, 3, 4, 5, 6] [SP.fact ((rv132.length ≤ b_96.length + 2830)), SP.fact ((rv138.length ≤ rv132.length + 11)), os (G.g 6 0) rv138] ?_
 generalize G.g 6 0 = c137
 refine Jf 6 rfl ?_; rintro he141
 refine Jf 7 rfl ?_; rintro he142
 refine Jk [0, 1, 2, 3, 4, 5, 8] ?_
 refine Jo 6 ?_; rintro a143 k144 rfl
 refine Fb 1 6 fun _ => ?_
 have hq := q4 hrr rv138 (by simp only [resume_Append, h42, h81, h113, hg11, hg17, hR54, hR94, hR130, hg133, hg139, cs4]); subst hq
 exact Kr (vl a143 k144 rv138) rfl (.tmp rfl .nil) [6] en
theorem fn21 (st : GState) (sta1 : Option Addr) (stk1 : Nat) (sta2 : Option Addr) (stk2 : Nat) (sta5 : Option Addr) (stk5 : Nat) (sta6 : Option Addr) (stk6 : Nat) (hst_0 : i64ok st.Phase) (hst_3 : i64ok st.At) (hst_4 : i64ok st.Edge) (hst_7 : i64ok st.Steps) (rr : List UInt8 × Int) (hrr : resume_Encode st = rr) : FT Tryz.prog 21 #[.agg #[vi st.Phase, vl sta1 stk1 st.Cone, vl sta2 stk2 st.Leaf, vi st.At, vi st.Edge, vl sta5 stk5 st.Values, vl sta6 stk6 st.Queue, vi st.Steps]] [S sta1 stk1 st.Cone, S sta2 stk2 st.Leaf, S sta5 stk5 st.Values, S sta6 stk6 st.Queue, pv (gp 0) (tabV .u8 tzT)] (fun g : Value => i64ok rr.2 ∧ (rr.1.length ≤ 800004)) (fun g => .tuple #[g, vi rr.2]) (fun g => [os g rr.1]) := by
 refine FTi Tryz.func21 fun w0 M0 F0 => ?_
 unfold i64ok at hst_0 hst_3 hst_4 hst_7
 refine Fb 8 0 fun _ => Fo 0 fun ho2 => Fb 1 1 fun _ => Fb 32 2 fun _ => Fb 8 3 fun _ => Fo 3 fun ho6 => KS ?_
 refine Oa (Ab [vi st.Phase, vl sta1 stk1 st.Cone, vl sta2 stk2 st.Leaf, vi st.At, vi st.Edge, vl sta5 stk5 st.Values, vl sta6 stk6 st.Queue, vi st.Steps]) fun p7 => Oq Va (Oq Va (KS ?_))
 refine Oq (VldA sh26 0) ?_
 refine letv (resume_encodable st) fun rv8 hg9 => ?_
 have hc10 := fn44 st sta1 stk1 sta2 stk2 sta5 stk5 sta6 stk6 pre pre pre pre rv8 hg9
 refine Oc [1, 2, 3, 4] ca44 hc10 ?_
 rintro - -
 refine Oq Vnot (KS ?_)
 refine Kc ?_ ?_
 ·intro h11
  have h13 := not_true h11
  refine KS ?_
  refine Oq Va (Oq Va (KS ?_))
  refine Jl [] (Ent.osNil (α := UInt8)) ?_
  have hq := q4 hrr (([] : List UInt8), 1) (by simp only [resume_Encode, h11, h13, hg9, cs4]); subst hq
  exact Kr (.slice none 0 0) rfl (.tmp rfl (.tmp rfl .nil)) [0] en
 intro h11
 have h16 := not_false h11
 have heo := encodable_EO (by assumption) h11
 refine KS ?_
 refine Oq (VldA sh26 0) ?_
 refine Jl [] (Ent.osNil (α := UInt8)) ?_
 refine letv (resume_Append ([] : List UInt8) st) fun rv19 hg20 => ?_
 have hc21 := fn46 (([] : List UInt8)) none 0 st sta1 stk1 sta2 stk2 sta5 stk5 sta6 stk6 pre pre pre pre pre heo rv19 hg20
 refine Oc [0, 1, 2, 3, 4, 5] ca46 hc21 ?_
 rintro c18 he22
 refine Jo 0 ?_; rintro a23 k24 rfl
 refine Fb 1 0 fun _ => ?_
 refine letv (uvarint_Seal rv19) fun rv27 hg28 => ?_
 have hc29 := fn45 rv19 a23 k24 pre rv27 hg28
 refine Oc [0] ca45 hc29 ?_
 rintro c26 he30
 refine Jo 0 ?_; rintro a31 k32 rfl
 refine Fb 1 0 fun _ => ?_
 refine Oq Va (Oq Va (KS ?_))
 have hq := q4 hrr (rv27, 0) (by simp only [resume_Encode, h11, h16, hg9, hg20, hg28, cs4]); subst hq
 exact Kr (vl a31 k32 rv27) rfl (.tmp rfl (.tmp rfl .nil)) [0] en
theorem fn27 (root : Int) (hroot_0 : i64ok root) (rr : GState) (hrr : r14_Start root = .ret rr) : FT Tryz.prog 27 #[vi root] [] (fun g : Value × Value × Value × Value => i64ok rr.Phase ∧ i64ok rr.At ∧ i64ok rr.Edge ∧ i64ok rr.Steps) (fun g => .agg #[vi rr.Phase, g.1, g.2.1, vi rr.At, vi rr.Edge, g.2.2.1, g.2.2.2, vi rr.Steps]) (fun g => [sl g.1 rr.Cone, sl g.2.1 rr.Leaf, sl g.2.2.1 rr.Values, sl g.2.2.2 rr.Queue]) := by
 refine FTi Tryz.func27 fun w0 M0 F0 => ?_
 unfold i64ok at hroot_0
 have hx0 := lrn rr; have H := hrr; unfold r14_Start at H
 refine KS ?_
 refine Oa (Al ze26 [vi 0, .slice none 0 0, .slice none 0 0, vi 0, vi 0, .slice none 0 0, .slice none 0 0, vi 0]) fun p1 => KS ?_
 refine Oq Vm (Oa (AsV sl22 sz22 [vi root] [vi root]) fun c2 => ?_)
 refine Jo 0 ?_; rintro a3 k4 rfl
 refine Oa (AsV sl23 sz23 [vb false] [vb false]) fun c5 => ?_
 refine Jo 0 ?_; rintro a6 k7 rfl
 refine Oq (Vbd st26 [vi 1, .slice a3 1 k4, .slice a6 1 k7, vi 0, vi 0, .slice none 0 0, .slice none 0 0, vi 0]) (Ost (Scl [2] sh26 [vi 1, .slice a3 1 k4, .slice a6 1 k7, vi 0, vi 0, .slice none 0 0, .slice none 0 0, vi 0]) (KS ?_))
 refine Jl [2] (Ent.crInt _ [root] _ _ rfl rfl (by intro x hx; rw [List.mem_singleton] at hx; subst hx; unfold i64ok; omega) aB1) ?_
 refine Jl [0] (Ent.freeze _ _) ?_
 refine Jl [2] (Ent.cr1 (α := Bool) (A := []) _ false _ aB1 (fun _ => rfl)) ?_
 refine Jl [0] (Ent.freeze _ _) ?_
 refine Jl [] (Ent.slNil (α := GSet)) ?_
 refine Jl [] (Ent.slNil (α := Int)) ?_
 have hq := rI H; subst hq
 exact Kr (.slice a3 1 k4, .slice a6 1 k7, .slice none 0 0, .slice none 0 0) rfl (.cellN 4 rfl sh26 rfl (reads_Cl _ _) rfl .nil) [3, 2, 1, 0] en
def lay156_ren : Go.Shelf.Ren := ⟨(fun n => match n with | 156 => 55 | 165 => 100 | 166 => 101 | 169 => 102 | 240 => 139 | 241 => 140 | 276 => 169 | 277 => 170 | _ => 0), (fun n => match n with | 0 => 0 | 3 => 3 | 4 => 4 | 5 => 5 | 9 => 9 | 20 => 20 | 31 => 94 | 37 => 44 | 70 => 127 | 72 => 129 | 75 => 132 | 76 => 133 | 80 => 135 | 127 => 156 | 164 => 176 | _ => 0), (fun _ => 0)⟩
theorem lay156 : Go.Proofs.Lays.n156 Tryz.prog lay156_ren where
 mixed := by kernel_rfl
 f156 := by kernel_rfl
 f165 := by kernel_rfl
 f166 := by kernel_rfl
 f169 := by kernel_rfl
 f240 := by kernel_rfl
 f241 := by kernel_rfl
 f276 := by kernel_rfl
 f277 := by kernel_rfl
 t0 := by kernel_rfl
 a0 := fun w => rfl
 z0 := fun w => rfl
 v0 := fun w => rfl
 t3 := by kernel_rfl
 a3 := fun w => rfl
 z3 := fun w => rfl
 v3 := fun w => rfl
 t4 := by kernel_rfl
 a4 := fun w => rfl
 z4 := fun w => rfl
 v4 := fun w => rfl
 t9 := by kernel_rfl
 a9 := fun w => rfl
 z9 := fun w => rfl
 v9 := fun w => rfl
 t20 := by kernel_rfl
 a20 := fun w => rfl
 z20 := fun w => rfl
 v20 := fun w => rfl
 t31 := by kernel_rfl
 a31 := fun w => rfl
 z31 := fun w => rfl
 v31 := fun w => rfl
 t37 := by kernel_rfl
 a37 := fun w => rfl
 z37 := fun w => rfl
 v37 := fun w => rfl
 t70 := by kernel_rfl
 a70 := fun w => rfl
 z70 := fun w => rfl
 v70 := fun w => rfl
 t72 := by kernel_rfl
 a72 := fun w => rfl
 z72 := fun w => rfl
 v72 := fun w => rfl
 t75 := by kernel_rfl
 a75 := fun w => rfl
 z75 := fun w => rfl
 v75 := fun w => rfl
 t76 := by kernel_rfl
 a76 := fun w => rfl
 z76 := fun w => rfl
 v76 := fun w => rfl
 t127 := by kernel_rfl
 a127 := fun w => rfl
 z127 := fun w => rfl
 v127 := fun w => rfl
 t164 := by kernel_rfl
 a164 := fun w => rfl
 z164 := fun w => rfl
 v164 := fun w => rfl
theorem lay156x : Go.Proofs.Builder.Extra Tryz.prog lay156_ren where
 sizeBuilder := by kernel_rfl
 liesBuilder := by kernel_rfl
 t5 := by kernel_rfl
 a5 := fun w => rfl
 z5 := fun w => rfl
 v5 := fun w => rfl
 infoByte := by kernel_rfl
 cellsByte := by kernel_rfl
 sizeByte := by kernel_rfl
 neB5 := by decide
theorem fn55 (elems : List Str) (elemsa0 : Option Addr) (elemsk0 : Nat) (sep : Str) (hsep_0 : sep.b.length ≤ 140737488355328) (rr : Str) (hrr : strings_Join elems sep = .ret rr) : FT Tryz.prog 55 #[vl elemsa0 elemsk0 elems, .string (bs sep)] [S elemsa0 elemsk0 elems] (fun g : Unit => rr.b.length ≤ 140737488355328) (fun g => .string (bs rr)) (fun g => []) := by
 have hrr' := hrr
 unfold strings_Join at hrr'
 cases hl : decide ((joinS elems sep).b.length ≤ 140737488355328) with
 | false => rw [hl] at hrr'; cases hrr'
 | true =>
 rw [hl] at hrr'; injection hrr' with hrr'; subst hrr'
 have hj0 := of_decide_eq_true hl
 exact FT_join (fun bk o c xs sep w h1 h2 h3 h4 h5 => Go.Proofs.Any.strings_Join lay156 lay156x bk o c xs sep w h1 h2 h3 h4 h5) (fun a c sep w => Go.Proofs.Any.strings_Join_none lay156 lay156x a c sep w) elemsa0 elemsk0 elems sep hj0
def lay171_ren : Go.Shelf.Ren := ⟨(fun n => match n with | 129 => 144 | 171 => 56 | 243 => 103 | 246 => 141 | 283 => 171 | 284 => 172 | 285 => 173 | 286 => 174 | 317 => 183 | 318 => 184 | 319 => 185 | 320 => 186 | 337 => 192 | 338 => 149 | _ => 0), (fun n => match n with | 0 => 0 | 2 => 2 | 3 => 3 | 4 => 4 | 5 => 5 | 9 => 9 | 20 => 20 | 37 => 44 | 46 => 69 | 51 => 78 | 53 => 68 | 171 => 179 | 173 => 181 | 212 => 189 | 213 => 190 | 232 => 193 | 233 => 183 | _ => 0), (fun n => match n with | 17 => 2 | 18 => 3 | 19 => 0 | _ => 0)⟩
theorem lay171 : Go.Proofs.LaysM.n171 Tryz.prog lay171_ren where
 mixed := by kernel_rfl
 f129 := by kernel_rfl
 f171 := by kernel_rfl
 f243 := by kernel_rfl
 f246 := by kernel_rfl
 f283 := by kernel_rfl
 f284 := by kernel_rfl
 f285 := by kernel_rfl
 f286 := by kernel_rfl
 f317 := by kernel_rfl
 f318 := by kernel_rfl
 f319 := by kernel_rfl
 f320 := by kernel_rfl
 f337 := by kernel_rfl
 f338 := by kernel_rfl
 t0 := by kernel_rfl
 a0 := fun w => rfl
 z0 := fun w => rfl
 v0 := fun w => rfl
 t2 := by kernel_rfl
 a2 := fun w => rfl
 z2 := fun w => rfl
 v2 := fun w => rfl
 t3 := by kernel_rfl
 a3 := fun w => rfl
 z3 := fun w => rfl
 v3 := fun w => rfl
 t4 := by kernel_rfl
 a4 := fun w => rfl
 z4 := fun w => rfl
 v4 := fun w => rfl
 t5 := by kernel_rfl
 a5 := fun w => rfl
 z5 := fun w => rfl
 v5 := fun w => rfl
 t9 := by kernel_rfl
 a9 := fun w => rfl
 z9 := fun w => rfl
 v9 := fun w => rfl
 t20 := by kernel_rfl
 a20 := fun w => rfl
 z20 := fun w => rfl
 v20 := fun w => rfl
 t37 := by kernel_rfl
 a37 := fun w => rfl
 z37 := fun w => rfl
 v37 := fun w => rfl
 t46 := by kernel_rfl
 a46 := fun w => rfl
 z46 := fun w => rfl
 v46 := fun w => rfl
 t51 := by kernel_rfl
 a51 := fun w => rfl
 z51 := fun w => rfl
 v51 := fun w => rfl
 t53 := by kernel_rfl
 a53 := fun w => rfl
 z53 := fun w => rfl
 v53 := fun w => rfl
 t171 := by kernel_rfl
 a171 := fun w => rfl
 z171 := fun w => rfl
 v171 := fun w => rfl
 t173 := by kernel_rfl
 a173 := fun w => rfl
 z173 := fun w => rfl
 v173 := fun w => rfl
 t212 := by kernel_rfl
 a212 := fun w => rfl
 z212 := fun w => rfl
 v212 := fun w => rfl
 t213 := by kernel_rfl
 a213 := fun w => rfl
 z213 := fun w => rfl
 t232 := by kernel_rfl
 a232 := fun w => rfl
 z232 := fun w => rfl
 v232 := fun w => rfl
 t233 := by kernel_rfl
 a233 := fun w => rfl
 z233 := fun w => rfl
 v233 := fun w => rfl
 g17 := by kernel_rfl
 g18 := by kernel_rfl
 g19 := by kernel_rfl
 i0 := by kernel_rfl
 i2 := by kernel_rfl
 i3 := by kernel_rfl
 i4 := by kernel_rfl
 i5 := by kernel_rfl
 i9 := by kernel_rfl
 i20 := by kernel_rfl
 i37 := by kernel_rfl
 i46 := by kernel_rfl
 i51 := by kernel_rfl
 i53 := by kernel_rfl
 i171 := by kernel_rfl
 i173 := by kernel_rfl
 i212 := by kernel_rfl
 i232 := by kernel_rfl
 i233 := by kernel_rfl
 m17 := by kernel_rfl
 m18 := by kernel_rfl
 m19 := by kernel_rfl
theorem fn56 (i : Int) (hi_0 : i64ok i) (rr : Str) (hrr : st_Itoa i = .ret rr) : FT Tryz.prog 56 #[vi i] [tbx 2 (tabV .u64 pw10)] (fun g : Unit => rr.b.length ≤ 140737488355328) (fun g => .string (bs rr)) (fun g => []) := by
 have hm : st_Itoa i = .ret (itoaS i) := rfl
 rw [hm] at hrr
 injection hrr with hrr
 subst hrr
 exact fun w M F ok h => (FT_itoa (g := 2) (t := pw10) (by kernel_rfl) (by decide +kernel) (fun n h0 h1 w htab => Go.Proofs.Any.strconv_Itoa lay171 n h0 h1 w htab) i hi_0 w M F ok h).mono fun e w2 ⟨g2, M2, F2, h1, h2, h3⟩ => ⟨g2, M2, F2, h1, h2.1, h3⟩
theorem fn29 (st : GState) (sta1 : Option Addr) (stk1 : Nat) (sta2 : Option Addr) (stk2 : Nat) (sta5 : Option Addr) (stk5 : Nat) (sta6 : Option Addr) (stk6 : Nat) (hst_0 : i64ok st.Phase) (hst_3 : i64ok st.At) (hst_4 : i64ok st.Edge) (hst_7 : i64ok st.Steps) (rr : Str) (hrr : resume_Text st = .ret rr) : FT Tryz.prog 29 #[.agg #[vi st.Phase, vl sta1 stk1 st.Cone, vl sta2 stk2 st.Leaf, vi st.At, vi st.Edge, vl sta5 stk5 st.Values, vl sta6 stk6 st.Queue, vi st.Steps]] [S sta1 stk1 st.Cone, S sta2 stk2 st.Leaf, S sta5 stk5 st.Values, S sta6 stk6 st.Queue, tbx 2 (tabV .u64 pw10)] (fun g : Unit => rr.b.length ≤ 140737488355328) (fun g => .string (bs rr)) (fun g => []) := by
 refine FTi Tryz.func29 fun w0 M0 F0 => ?_
 unfold i64ok at hst_0 hst_3 hst_4 hst_7
 refine Fb 8 0 fun _ => Fo 0 fun ho2 => Fb 1 1 fun _ => Fb 32 2 fun _ => Fb 8 3 fun _ => Fo 3 fun ho6 => ?_
 have hx0 := lrn rr; have H := hrr; unfold resume_Text at H
 refine KS ?_
 refine Oa (Ab [vi st.Phase, vl sta1 stk1 st.Cone, vl sta2 stk2 st.Leaf, vi st.At, vi st.Edge, vl sta5 stk5 st.Values, vl sta6 stk6 st.Queue, vi st.Steps]) fun p7 => Oq Va (KS ?_)
 refine Oa (AsV sl94 sz94 [.string (bs (Str.mk [63])), .string (bs (Str.mk [100, 101, 109, 97, 110, 100])), .string (bs (Str.mk [115, 111, 108, 118, 101])), .string (bs (Str.mk [100, 111, 110, 101]))] [.string (bs (Str.mk [63])), .string (bs (Str.mk [100, 101, 109, 97, 110, 100])), .string (bs (Str.mk [115, 111, 108, 118, 101])), .string (bs (Str.mk [100, 111, 110, 101]))]) fun c8 => ?_
 refine Jo 0 ?_; rintro a9 k10 rfl
 refine Oq Va (KS ?_)
 refine Oq (Vfa fo26_0 1) (Oq (VldF sh3 1) (Oq Va (KS ?_)))
 refine Oq Vm (Oq Vlss (Oq Vm ?_))
 refine pF H hx0 fun h11 H => ?_
 refine JsF 10 h11 ?_
 have g12 := df h11
 refine Oq Vm (Oq Vm (Oq (Vlen sl94) (Oq Vgeq (Oq Vpf (KS ?_)))))
 refine pF H hx0 fun h13 H => ?_
 refine KcF h13 ?_
 have g14 := df h13
 refine KS ?_
 refine JK_drawK [0, 0, 3, 7, 0, 16, 48, 112, 0, 256, 768, 2032, 0, 4096, 12288, 32752, 65535, 131071, 262143, 524287] fmix ?_
 refine Dv [] Vm (Dv [] Vm ?_)
 refine pC H hx0 fun hc15 H => ?_
 refine Dx [0] [0] [0] (fun G => (eptr 1 (.slice a9 4 k10) st.Phase.toNat)) [fun G => os (.slice a9 4 k10) ([(Str.mk [63]), (Str.mk [100, 101, 109, 97, 110, 100]), (Str.mk [115, 111, 108, 118, 101]), (Str.mk [100, 111, 110, 101])] : List Str)] (fun G => xp [0] rfl (Ent.crOs (α := Str) (A := []) _ ([(Str.mk [63]), (Str.mk [100, 101, 109, 97, 110, 100]), (Str.mk [115, 111, 108, 118, 101]), (Str.mk [100, 111, 110, 101])] : List Str) _ aB1 (fun h => ⟨[.string (bs (Str.mk [63]))], [.string (bs (Str.mk [100, 101, 109, 97, 110, 100])), .string (bs (Str.mk [115, 111, 108, 118, 101])), .string (bs (Str.mk [100, 111, 110, 101]))], rfl, (fun _ => ⟨rfl, by first | omega | (simp; done) | (dsimp only; omega) | exact lit_bl rfl⟩) h, ⟨[.string (bs (Str.mk [100, 101, 109, 97, 110, 100]))], [.string (bs (Str.mk [115, 111, 108, 118, 101])), .string (bs (Str.mk [100, 111, 110, 101]))], rfl, (fun _ => ⟨rfl, by first | omega | (simp; done) | (dsimp only; omega) | exact lit_bl rfl⟩) h, ⟨[.string (bs (Str.mk [115, 111, 108, 118, 101]))], [.string (bs (Str.mk [100, 111, 110, 101]))], rfl, (fun _ => ⟨rfl, by first | omega | (simp; done) | (dsimp only; omega) | exact lit_bl rfl⟩) h, ⟨[.string (bs (Str.mk [100, 111, 110, 101]))], [], rfl, (fun _ => ⟨rfl, by first | omega | (simp; done) | (dsimp only; omega) | exact lit_bl rfl⟩) h, rfl⟩⟩⟩⟩)) (xV (Vi sl94 0))) (Dv [7] (VldS sh9 0) (Dv [1] (Vfa fo26_1 0) (Dv [1] (VldF sh22 0) (Dv [] (Vlen sl22) ?_))))
 refine lbH H hx0 fun rv16 hg17 H => ?_
 refine Dx [6] [] [1, 0] (fun G => .string (bs rv16)) [fun G => SP.fact (rv16.b.length ≤ 140737488355328)] (fun G => xC [0] ca56 (fn56 ((st.Cone.length : Int)) pre rv16 hg17)) (Dv [1] (Vfa fo26_6 0) (Dv [1] (VldF sh22 0) (Dv [] (Vlen sl22) ?_)))
 refine lbH H hx0 fun rv18 hg19 H => ?_
 refine Dx [6] [] [1, 0] (fun G => .string (bs rv18)) [fun G => SP.fact (rv18.b.length ≤ 140737488355328)] (fun G => xC [0] ca56 (fn56 ((st.Queue.length : Int)) pre rv18 hg19)) (Dv [1] (Vfa fo26_7 0) (Dv [1] (VldF sh3 0) (Dv [] Vmax ?_)))
 refine lbH H hx0 fun rv20 hg21 H => ?_
 refine Dx [6] [] [1, 0] (fun G => .string (bs rv20)) [fun G => SP.fact (rv20.b.length ≤ 140737488355328)] (fun G => xC [0] ca56 (fn56 ((max st.Steps 0)) pre rv20 hg21)) (Dx [] [] [0] (fun G => (G.g 16 0)) [fun G => Cr (G.g 16 0) 4 [.string (bs ([(Str.mk [63]), (Str.mk [100, 101, 109, 97, 110, 100]), (Str.mk [115, 111, 108, 118, 101]), (Str.mk [100, 111, 110, 101])].getD st.Phase.toNat default)), .string (bs rv16), .string (bs rv18), .string (bs rv20)]] (fun G => xA (AsV sl94 sz94 [.string (bs ([(Str.mk [63]), (Str.mk [100, 101, 109, 97, 110, 100]), (Str.mk [115, 111, 108, 118, 101]), (Str.mk [100, 111, 110, 101])].getD st.Phase.toNat default)), .string (bs rv16), .string (bs rv18), .string (bs rv20)] [.string (bs ([(Str.mk [63]), (Str.mk [100, 101, 109, 97, 110, 100]), (Str.mk [115, 111, 108, 118, 101]), (Str.mk [100, 111, 110, 101])].getD st.Phase.toNat default)), .string (bs rv16), .string (bs rv18), .string (bs rv20)])) ?_)
 refine lbH H hx0 fun rv26 hg27 H => ?_
 refine Dx [8, 9, 10, 11] [11] [2, 3, 4, 1, 0] (fun G => .string (bs rv26)) [fun G => sl (G.g 16 0) ([([(Str.mk [63]), (Str.mk [100, 101, 109, 97, 110, 100]), (Str.mk [115, 111, 108, 118, 101]), (Str.mk [100, 111, 110, 101])].getD st.Phase.toNat default), rv16, rv18, rv20] : List Str), fun G => SP.fact (rv26.b.length ≤ 140737488355328)] (fun G => by refine xf 0 rfl ?_; rintro he28; refine xf 1 rfl ?_; rintro he29; refine xf 2 rfl ?_; rintro he30; exact xp [3] rfl (Ent.crOs (α := Str) (A := []) _ ([([(Str.mk [63]), (Str.mk [100, 101, 109, 97, 110, 100]), (Str.mk [115, 111, 108, 118, 101]), (Str.mk [100, 111, 110, 101])].getD st.Phase.toNat default), rv16, rv18, rv20] : List Str) _ aB1 (fun h => ⟨[.string (bs ([(Str.mk [63]), (Str.mk [100, 101, 109, 97, 110, 100]), (Str.mk [115, 111, 108, 118, 101]), (Str.mk [100, 111, 110, 101])].getD st.Phase.toNat default))], [.string (bs rv16), .string (bs rv18), .string (bs rv20)], rfl, (fun _ => ⟨rfl, by first | omega | (simp; done) | (dsimp only; omega) | exact lit_bl rfl⟩) h, ⟨[.string (bs rv16)], [.string (bs rv18), .string (bs rv20)], rfl, (fun _ => ⟨rfl, by first | omega | (simp; done) | (dsimp only; omega) | exact lit_bl rfl⟩) h, ⟨[.string (bs rv18)], [.string (bs rv20)], rfl, (fun _ => ⟨rfl, by first | omega | (simp; done) | (dsimp only; omega) | exact lit_bl rfl⟩) h, ⟨[.string (bs rv20)], [], rfl, (fun _ => ⟨rfl, by first | omega | (simp; done) | (dsimp only; omega) | exact lit_bl rfl⟩) h, rfl⟩⟩⟩⟩)) (xp [0] rfl (Ent.freeze _ _) (xD [0] ca55 rfl rfl rfl (FT_open (γ := Unit) (I := fun g => rv26.b.length ≤ 140737488355328) (V := fun g => .string (bs rv26)) (B := fun g => []) (R := sl (G.g 16 0) ([([(Str.mk [63]), (Str.mk [100, 101, 109, 97, 110, 100]), (Str.mk [115, 111, 108, 118, 101]), (Str.mk [100, 111, 110, 101])].getD st.Phase.toNat default), rv16, rv18, rv20] : List Str)) sl_slice (fun aq23 kq24 eq25 => by rw [eq25]; exact FT_ent (Ent.take (is := [0]) rfl) (fn55 ([([(Str.mk [63]), (Str.mk [100, 101, 109, 97, 110, 100]), (Str.mk [115, 111, 108, 118, 101]), (Str.mk [100, 111, 110, 101])].getD st.Phase.toNat default), rv16, rv18, rv20]) aq23 kq24 ((Str.mk [32])) pre rv26 hg27)))))) ?_
 have hb31 := sadd_len rv26 (Str.mk [10])
 have hb32 : (Str.mk [10]).b.length = 1 := rfl
 refine pC H hx0 fun hc33 H => ?_
 refine Dv [] (VadS (l := rv26) (m := (Str.mk [10]))) (Dv [] Va ?_)
 refine Dn ⟨by kernel_rfl, fun G => ?_⟩
 refine Jw2 [(2, .string (bs (rv26 ++ (Str.mk [10]))))] [1, 2, 3, 4, 5, 6] [os (.slice a9 4 k10) ([(Str.mk [63]), (Str.mk [100, 101, 109, 97, 110, 100]), (Str.mk [115, 111, 108, 118, 101]), (Str.mk [100, 111, 110, 101])] : List Str), SP.fact (rv16.b.length ≤ 140737488355328), SP.fact (rv18.b.length ≤ 140737488355328), SP.fact (rv20.b.length ≤ 140737488355328), sl (G.g 16 0) ([([(Str.mk [63]), (Str.mk [100, 101, 109, 97, 110, 100]), (Str.mk [115, 111, 108, 118, 101]), (Str.mk [100, 111, 110, 101])].getD st.Phase.toNat default), rv16, rv18, rv20] : List Str), SP.fact (rv26.b.length ≤ 140737488355328)] ?_
 generalize G.g 16 0 = c22
 refine Jf 7 rfl ?_; rintro he34
 refine Jf 8 rfl ?_; rintro he35
 refine Jf 9 rfl ?_; rintro he36
 refine Jf 11 rfl ?_; rintro he37
 refine Jk [0, 1, 2, 3, 4, 5, 6, 9] ?_
 refine Jo 7 ?_; rintro a38 k39 rfl
 refine Fb 16 7 fun _ => ?_
 refine FoS 7 fun ho41 => ?_
 have hq := rI H; subst hq
 exact Kr () rfl (.tmp rfl .nil) [] en
theorem fn12O  (rr : Bool) (hrr : w18_saneO = .ret rr) : FT Tryz.prog 12 #[] [pv (gp 0) (tabV .u8 tzT), tbx 2 (tabV .u64 pw10)] (fun g : Unit => True) (fun g => vb rr) (fun g => []) := by
 refine FTi Tryz.func12 fun w0 M0 F0 => ?_
 have hx0 := lrn rr; have H := hrr; unfold w18_saneO at H
 refine KS ?_
 refine Oq Va (KS ?_)
 refine lbH H hx0 fun rv5 hg6 H => ?_
 have hc7 := fn27 0 pre rv5 hg6
 refine Oc [] ca27 hc7 ?_
 rintro ⟨c1, c2, c3, c4⟩ ⟨he8, he9, he10, he11⟩
 unfold i64ok at he8 he9 he10 he11
 refine Jo 0 ?_; rintro a12 k13 rfl
 refine Fb 8 0 fun _ => Fo 0 fun ho15 => ?_
 refine Jo 1 ?_; rintro a16 k17 rfl
 refine Fb 1 1 fun _ => ?_
 refine Jo 2 ?_; rintro a19 k20 rfl
 refine Fb 32 2 fun _ => ?_
 refine Jo 3 ?_; rintro a22 k23 rfl
 refine Fb 8 3 fun _ => Fo 3 fun ho25 => ?_
 refine lvH H fun rv27 hg28 H => ?_
 have hc29 := fn21 rv5 a12 k13 a16 k17 a19 k20 a22 k23 pre pre pre pre rv27 hg28
 refine Oc [0, 1, 2, 3, 4] ca21 hc29 ?_
 rintro c26 ⟨he30, he31⟩
 unfold i64ok at he30
 refine Jo 0 ?_; rintro a32 k33 rfl
 refine Fb 1 0 fun _ => ?_
 refine Oq Vm (Oq Vx (Oq Vx (Oq Va (Oq Va (KS ?_)))))
 refine Oq (Vbd st26 [vi 1, .slice none 0 0, .slice none 0 0, vi 0, vi 0, .slice none 0 0, .slice none 0 0, vi 0]) ?_
 refine Jl [] (Ent.slNil (α := Int)) ?_
 refine Jl [] (Ent.slNil (α := Bool)) ?_
 refine Jl [] (Ent.slNil (α := GSet)) ?_
 refine lvH H fun rv36 hg37 H => ?_
 have hc38 := fn21 ((GState.mk 1 [] [] 0 0 [] [] 0)) none 0 none 0 none 0 none 0 pre pre pre pre rv36 hg37
 refine Oc [2, 1, 0, 2, 8] ca21 hc38 ?_
 rintro c35 ⟨he39, he40⟩
 unfold i64ok at he39
 refine Jo 0 ?_; rintro a41 k42 rfl
 refine Fb 1 0 fun _ => ?_
 refine Oq Vm (Oq Vx (Oq Vx (Oq Va (Oq Va (KS ?_)))))
 refine Oq Vm (Oq Veql (Oq Vm ?_))
 refine pT H hx0 fun h44 H => ?_
 refine JsT 17 h44 ?_
 have g45 := eq_of_beq h44
 refine Oq Vm (Oq (Vlen sl44) (Oq Veql (Oq Vpt (Oq Vm ?_))))
 refine pT H hx0 fun h46 H => ?_
 refine JsT 22 h46 ?_
 have g47 := eq_of_beq h46
 refine Oq Vm ?_
 refine pC H hx0 fun hc48 H => ?_
 refine Oa (AslO [4] sl44 0 ((9 : Int).toNat)) fun c49 => ?_
 refine Jo 0 ?_; rintro a50 k51 rfl
 refine Fb 1 0 fun _ => ?_
 have hn53 : ((rv27.1.take ((9 : Int).toNat)).drop 0).length = ((9 : Int).toNat) - 0 := len_slice rng rng
 refine Jl [0] (Ent.freeze _ _) ?_
 refine Oq (VbS0 (xs := ((rv27.1.take ((9 : Int).toNat)).drop 0)) un44 un5 un9 0) (Oq (VeqS (l := (Str.mk ((rv27.1.take ((9 : Int).toNat)).drop 0))) (m := (Str.mk [1, 1, 0, 0, 0, 0, 0, 0, 0]))) (Oq Vpt (Oq Vm ?_)))
 refine pT H hx0 fun h54 H => ?_
 refine JsT 28 h54 ?_
 have g55 := eq_of_beq h54
 refine Oq Vm (Oq Veql (Oq Vpt (Oq Vm ?_)))
 refine pT H hx0 fun h56 H => ?_
 refine JsT 32 h56 ?_
 have g57 := eq_of_beq h56
 have hc62 := fn27 0 pre rv5 hg6
 refine Oc [] ca27 hc62 ?_
 rintro ⟨c58, c59, c60, c61⟩ ⟨he63, he64, he65, he66⟩
 unfold i64ok at he63 he64 he65 he66
 refine Jo 0 ?_; rintro a67 k68 rfl
 refine Jo 1 ?_; rintro a69 k70 rfl
 refine Jo 2 ?_; rintro a71 k72 rfl
 refine Jo 3 ?_; rintro a73 k74 rfl
 refine lbH H hx0 fun rv75 hg76 H => ?_
 have hc77 := fn29 rv5 a67 k68 a69 k70 a71 k72 a73 k74 pre pre pre pre rv75 hg76
 refine Oc [0, 1, 2, 3, 14] ca29 hc77 ?_
 rintro - he78
 refine Oq (VeqS (l := rv75) (m := (Str.mk [100, 101, 109, 97, 110, 100, 32, 49, 32, 48, 32, 48, 10]))) (Oq Vpt (Oq Va (KS ?_)))
 have hq := rI H; subst hq
 exact Kr () rfl (.tmp rfl .nil) [] trivial
theorem w18_sane_c : w18_saneO = .ret true := by kernel_rfl
theorem fn12  (rr : Bool) (hrr : w18_sane = rr) : FT Tryz.prog 12 #[] [pv (gp 0) (tabV .u8 tzT), tbx 2 (tabV .u64 pw10)] (fun g : Unit => True) (fun g => vb rr) (fun g => []) := by
 subst hrr; exact fn12O  true w18_sane_c
theorem fn62 (s1 : List UInt8) (s1a0 : Option Addr) (s1k0 : Nat) (s2 : List UInt8) (s2a0 : Option Addr) (s2k0 : Nat) (rr : Bool) (hrr : sc_Equal_byte s1 s2 = rr) : FT Tryz.prog 62 #[vl s1a0 s1k0 s1, vl s2a0 s2k0 s2] [S s1a0 s1k0 s1, S s2a0 s2k0 s2] (fun g : Unit => True) (fun g => vb rr) (fun g => []) := by
 refine FTi Tryz.func62 fun w0 M0 F0 => Fb 1 0 fun _ => Fb 1 1 fun _ => ?_
 refine KS ?_
 refine Oq Va (KS ?_)
 refine Oq Vm (Oq (Vlen sl44) (Oq Vm (Oq (Vlen sl44) (Oq Vneq (KS ?_)))))
 refine Kc ?_ ?_
 ·intro h3
  have g4 := ne_of_bne h3
  refine KS ?_
  refine Oq Va (KS ?_)
  have hq := q4 hrr false (by simp only [sc_Equal_byte, h3, cs4]); subst hq
  exact Kr () rfl (.tmp rfl .nil) [] trivial
 intro h3
 have g5 := eq_of_bne_false h3
 refine KS ?_
 refine Oq Vm (Oq (Vlen sl44) (Oq Vm (KS ?_)))
 refine Kl (γ := Nat × Int) (fun (r6, v13_7) => ⟨[(0, vl s1a0 s1k0 s1), (1, vl s2a0 s2k0 s2), (12, vi (s1.length : Int)), (13, vi v13_7)], [S s1a0 s1k0 s1, S s2a0 s2k0 s2], sc_Equal_byte_L0 s1 s2 r6 v13_7 = sc_Equal_byte_L0 s1 s2 (((s1.length : Int) - 0).toNat) 0 ∧ r6 = ((s1.length : Int) - v13_7).toNat ∧ (0 : Int) ≤ v13_7 ∧ v13_7 ≤ (s1.length : Int) ∧ (-9223372036854775808 ≤ v13_7 ∧ v13_7 ≤ 9223372036854775807), r6⟩) (((s1.length : Int) - 0).toNat, 0) [0, 1] ⟨rfl, rfl, aM1, aM1, aM1⟩ ?_
 rintro ⟨r6, v13_7⟩ ⟨hM8, hr9, hi10, hi11, hk12⟩
 refine JJ_nx fun _ _ hL hA => ?_; dsimp only at hL hA; subst hL hA
 refine Fb 1 0 fun _ => Fb 1 1 fun _ => KS ?_
 refine Oq Vlss (KS ?_)
 refine Kc ?_ ?_
 ·intro h15
  have g16 := dt h15
  obtain ⟨r17, rfl⟩ := scc (n := r6) aM1
  refine KS ?_
  refine Oq Vm (Oq Va (KS ?_))
  refine Kq [0, 0, 3, 7, 0, 0, 48, 112, 255] fmix ?_
  refine Qv [] Vm (Qv [] Vm (Qv [0] (Vi sl44 0) ?_))
  have hb18 := u8b' (s1.getD v13_7.toNat 0)
  refine Qv [0] (Vld8 sh5 0) (Qv [] Vm (Qv [] Vm (Qv [1] (Vi sl44 0) ?_)))
  have hb19 := u8b' (s2.getD v13_7.toNat 0)
  refine Qv [1] (Vld8 sh5 0) (Qv [] Vneq ?_)
  refine Qn ⟨by kernel_rfl, ?_⟩
  refine Kc ?_ ?_
  ·intro h20
   have g21 := ne_of_bne h20
   refine KS ?_
   refine Oq Va (KS ?_)
   have hR22 := q2 hM8 (.ret false) (by simp only [sc_Equal_byte_L0, h15, h20, cs4])
   have hq := q4 hrr false (by simp only [sc_Equal_byte, h3, h15, h20, hR22, cs4]); subst hq
   exact Kr () rfl (.tmp rfl .nil) [] trivial
  intro h20
  have g23 := eq_of_bne_false h20
  refine KS ?_
  refine Oq Vadd (Oq Vm (KS ?_))
  exact Kg (r17, (v13_7 + 1)) [0, 1] ⟨(q3 hM8 (by simp only [sc_Equal_byte_L0, h15, h20, cs4])), aM1, aM1, aM1, aM1⟩
 intro h15
 have g24 := df h15
 obtain rfl : r6 = 0 := by omega
 refine Ke ?_
 have hR25 := q2 hM8 (.brk ()) (by simp only [sc_Equal_byte_L0, h15, cs4])
 refine KS ?_
 refine Oq Va (KS ?_)
 have hq := q4 hrr true (by simp only [sc_Equal_byte, h3, h15, hR25, cs4]); subst hq
 exact Kr () rfl (.tmp rfl .nil) [] trivial
theorem fn63 (s : List UInt8) (sa0 : Option Addr) (sk0 : Nat) (rr : List UInt8) (hrr : sc_Clone_byte s = rr) : FT Tryz.prog 63 #[vl sa0 sk0 s] [S sa0 sk0 s] (fun g : Value => (rr.length = s.length)) (fun g => g) (fun g => [os g rr]) := by
 have hm : sc_Clone_byte s = s := rfl
 rw [hm] at hrr
 subst hrr
 refine FTi Tryz.func63 fun w0 M0 F0 => ?_
 refine KS ?_
 refine Oq Va ?_
 refine KS ?_
 refine Oq Vm ?_
 refine Oq (VeqN un44) ?_
 refine KS ?_
 refine Kc ?_ ?_
 ·intro h
  refine Jnil 0 h ?_
  intro h0
  subst h0
  refine KS ?_
  refine Oq Va ?_
  refine KS ?_
  refine Jl [] (Ent.osNil (α := UInt8)) ?_
  exact Kr (.slice none 0 0) rfl (.tmp rfl .nil) [0] rfl
 ·intro _
  refine KS ?_
  refine Oa (As0 sl44) fun c1 => ?_
  refine Jo 0 ?_; rintro a2 k3 rfl
  refine Oq Vm ?_
  refine Fb 1 1 fun hl => ?_
  refine Jl [0] (Ent.crNil (α := UInt8) _) ?_
  refine Oa (Ap0 [0, 0] sl44 sl44 sz44) fun c4 => ?_
  refine Oq Va ?_
  refine KS ?_
  exact Kr c4 rfl (.tmp rfl .nil) [0] rfl
theorem fn33 (b : List UInt8) (ba0 : Option Addr) (bk0 : Nat) (hb0 : b.length ≤ 1000000) (rr : Int) (hrr : uvarint_Open b = rr) : FT Tryz.prog 33 #[vl ba0 bk0 b] [S ba0 bk0 b] (fun g : Value × Value => i64ok rr) (fun g => .tuple #[g.1, vi rr]) (fun g => [cndL (rr == 0) [Cl g.1 [g.2, vi 0, vb false], sl g.2 ((b.take ((((b.length : Int) - 4) : Int).toNat)).drop 0)]]) := by
 refine FTi Tryz.func33 fun w0 M0 F0 => Fb 1 0 fun _ => ?_
 refine KS ?_
 refine Oq Va (Oq Va (KS ?_))
 refine Oq Vm (Oq (Vlen sl44) (Oq Vlss (KS ?_)))
 refine Kc ?_ ?_
 ·intro h2
  have g3 := dt h2
  refine KS ?_
  refine Oq Va (Oq Va (KS ?_))
  refine Jl [] (Ent.cnd0 (c := (12 == 0)) [Cl (.pointer none) [.slice none 0 0, vi 0, vb false], sl (.slice none 0 0) ((b.take ((((b.length : Int) - 4) : Int).toNat)).drop 0)] rfl) ?_
  have hq := q4 hrr 12 (by simp only [uvarint_Open, h2, cs4]); subst hq
  exact Kr (.pointer none, .slice none 0 0) rfl (.tmp rfl (.tmp rfl .nil)) [0] en
 intro h2
 have g4 := df h2
 refine KS ?_
 refine Oq Vm (Oq Vm (Oq (Vlen sl44) (Oq Vsub (Oa (Asl [0] sl44 0 ((((b.length : Int) - 4) : Int).toNat)) fun c5 => ?_))))
 refine Jo 0 ?_; rintro a6 k7 rfl
 refine Fb 1 0 fun _ => ?_
 have hn9 : ((b.take ((((b.length : Int) - 4) : Int).toNat)).drop 0).length = ((((b.length : Int) - 4) : Int).toNat) - 0 := len_slice rng rng
 refine Oq Va (KS ?_)
 refine Oq Vm ?_
 refine letv (sc_Clone_byte ((b.take ((((b.length : Int) - 4) : Int).toNat)).drop 0)) fun rv11 hg12 => ?_
 have hc13 := fn63 (((b.take ((((b.length : Int) - 4) : Int).toNat)).drop 0)) a6 k7 rv11 hg12
 refine Oc [0] ca63 hc13 ?_
 rintro c10 he14
 refine Jo 0 ?_; rintro a15 k16 rfl
 refine Fb 1 0 fun _ => ?_
 refine letv (uvarint_Seal rv11) fun rv19 hg20 => ?_
 have hc21 := fn45 rv11 a15 k16 pre rv19 hg20
 refine Oc [0] ca45 hc21 ?_
 rintro c18 he22
 refine Jo 0 ?_; rintro a23 k24 rfl
 refine Fb 1 0 fun _ => Oq Vm ?_
 refine Jl [0] (Ent.freeze _ _) ?_
 refine letv (sc_Equal_byte rv19 b) fun rv26 hg27 => ?_
 have hc28 := fn62 rv19 a23 k24 b ba0 bk0 rv26 hg27
 refine Oc [0, 2] ca62 hc28 ?_
 rintro - -
 refine Oq Vnot (KS ?_)
 refine Kc ?_ ?_
 ·intro h29
  have h31 := not_true h29
  refine KS ?_
  refine Oq Va (Oq Va (KS ?_))
  refine Jl [] (Ent.cnd0 (c := (14 == 0)) [Cl (.pointer none) [.slice none 0 0, vi 0, vb false], sl (.slice none 0 0) ((b.take ((((b.length : Int) - 4) : Int).toNat)).drop 0)] rfl) ?_
  have hq := q4 hrr 14 (by simp only [uvarint_Open, h2, h29, h31, hg12, hg20, hg27, cs4]); subst hq
  exact Kr (.pointer none, .slice none 0 0) rfl (.tmp rfl (.tmp rfl .nil)) [0] en
 intro h29
 have h34 := not_false h29
 refine KS ?_
 refine Oq Vm (Oq (Vbd st103 [.slice a6 (((b.take ((((b.length : Int) - 4) : Int).toNat)).drop 0).length) k7, vi 0, vb false]) (Oa (AbO [.slice a6 (((b.take ((((b.length : Int) - 4) : Int).toNat)).drop 0).length) k7, vi 0, vb false]) fun p36 => Oq Va (Oq Va (KS ?_))))
 refine Jl [0, 1] (Ent.cnd1 (0 == 0) [Cl p36 [.slice a6 (((b.take ((((b.length : Int) - 4) : Int).toNat)).drop 0).length) k7, vi 0, vb false], S a6 k7 ((b.take ((((b.length : Int) - 4) : Int).toNat)).drop 0)]) ?_
 have hq := q4 hrr 0 (by simp only [uvarint_Open, h2, h29, h34, hg12, hg20, hg27, cs4]); subst hq
 exact Kr (p36, .slice a6 (((b.take ((((b.length : Int) - 4) : Int).toNat)).drop 0).length) k7) rfl (.tmp rfl (.tmp rfl .nil)) [0] en
theorem fn144 (x : BitVec 64) (hx0 : x.toNat = 1073741824) (rr : Int) (hrr : bits_Len64 x = rr) : FT Tryz.prog 144 #[u64 x] [] (fun g : Unit => i64ok rr ∧ (rr ≤ 1000)) (fun g => vi rr) (fun g => []) := by
 refine FTi Tryz.func144 fun w0 M0 F0 => ?_
 have hs16 : (x >>> (((16#64).toNat : Int)).toNat).toNat = 16384 := by rw [show (((16#64).toNat : Int)).toNat = 16 by decide, BitVec.toNat_ushiftRight, Nat.shiftRight_eq_div_pow, hx0]
 have hs8 : ((x >>> (((16#64).toNat : Int)).toNat) >>> (((8#64).toNat : Int)).toNat).toNat = 64 := by rw [show (((8#64).toNat : Int)).toNat = 8 by decide, BitVec.toNat_ushiftRight, Nat.shiftRight_eq_div_pow, hs16]
 have hs9 : ((x >>> Int.toNat 16) >>> Int.toNat 8).toNat = 64 := hs8
 have hu8 := u8b (tab0.b.getD ((((x >>> Int.toNat 16) >>> Int.toNat 8).toNat : Int) : Int).toNat 0)
 refine KS ?_
 refine Oq Va (KS ?_)
 refine Oq Vm (Oq (Vgeq (a := (x.toNat : Int)) (b := 4294967296)) (KS ?_))
 refine Kc ?_ ?_
 ·intro h1
  have g2 := dt h1
  exfalso; omega
 intro h1
 have g3 := df h1
 refine KS ?_
 refine Oq Vm (Oq (Vgeq (a := (x.toNat : Int)) (b := 65536)) (KS ?_))
 refine Kc ?_ ?_
 ·intro h4
  have g5 := dt h4
  refine KS ?_
  refine Oq Vm (Oq VshrU (Oq Va (KS ?_)))
  refine Oq Vm (Oq Vadd (Oq Va (KS ?_)))
  refine Oq Vm (Oq (Vgeq (a := ((x >>> (((16#64).toNat : Int)).toNat).toNat : Int)) (b := 256)) (KS ?_))
  refine Kc ?_ ?_
  ·intro h6
   have g7 := dt h6
   refine KS ?_
   refine Oq Vm (Oq VshrU (Oq Va (KS ?_)))
   refine Oq Vm (Oq Vadd (Oq Va (KS ?_)))
   refine Oq Vm (Oq Vm (Oq (VcU8 un68 un5) ?_))
   refine Oq (Vix un9 (l := tab0) (h := ⟨by omega, by rw [show tab0.b.length = 256 from rfl]; omega⟩)) ?_
   have hb8 := u8b (tab0.b.getD ((((x >>> (((16#64).toNat : Int)).toNat) >>> (((8#64).toNat : Int)).toNat).toNat : Int) : Int).toNat 0)
   refine Oq (VcK un5 un3) (Oq Vadd (Oq Va (KS ?_)))
   have hq := q4 hrr (((0 + 16) + 8) + ((tab0.b.getD ((((x >>> (((16#64).toNat : Int)).toNat) >>> (((8#64).toNat : Int)).toNat).toNat : Int) : Int).toNat 0).toNat : Int)) (by simp only [bits_Len64, h1, h4, h6, cs4]); subst hq
   exact Kr () rfl (.tmp rfl .nil) [] ⟨en, (by have := u8b (tab0.b.getD ((((x >>> Int.toNat 16) >>> Int.toNat 8).toNat : Int) : Int).toNat 0); omega)⟩
  intro h6
  have g9 := df h6
  exfalso; omega
 intro h4
 have g10 := df h4
 exfalso; omega
theorem fn106 (x : BitVec 64) (hx0 : x.toNat = 1073741824) (rr : Int) (hrr : bits_Len x = rr) : FT Tryz.prog 106 #[u64 x] [] (fun g : Unit => i64ok rr) (fun g => vi rr) (fun g => []) := by
 refine FTi Tryz.func106 fun w0 M0 F0 => ?_
 refine KS ?_
 refine Oq Va (KS ?_)
 refine Kf (KS ?_)
 refine Oq Vm ?_
 refine letv (bits_Len64 x) fun rv1 hg2 => ?_
 have hc3 := fn144 x pre rv1 hg2
 refine Oc [] ca144 hc3 ?_
 rintro - ⟨he4, he5⟩
 unfold i64ok at he4
 refine Oq Va (KS ?_)
 have hq := q4 hrr rv1 (by simp only [bits_Len, hg2, cs4]); subst hq
 exact Kr () rfl (.tmp rfl .nil) [] en
theorem fn64 (rdP : Value) (rd : GReader) (rda0 : Option Addr) (rdk0 : Nat) (most : Int) (hrd_1 : i64ok rd.at_) (hmost_0 : i64ok most) (hr0 : 0 ≤ rd.at_ ∧ rd.at_ ≤ (rd.bytes.length : Int)) (hm0 : 0 ≤ most) (rr : Int × GReader) (hrr : Reader_Number rd most = rr) : FT Tryz.prog 64 #[rdP, vi most] [Cl rdP [vl rda0 rdk0 rd.bytes, vi rd.at_, vb rd.Bad], S rda0 rdk0 rd.bytes] (fun g : Unit => i64ok rr.1 ∧ i64ok rr.2.at_ ∧ (0 ≤ rr.1 ∧ rr.1 ≤ most) ∧ (0 ≤ rr.2.at_ ∧ rr.2.at_ ≤ (rd.bytes.length : Int))) (fun g => vi rr.1) (fun g => [Cl rdP [vl rda0 rdk0 rd.bytes, vi rr.2.at_, vb rr.2.Bad]]) := by
 refine FTi Tryz.func64 fun w0 M0 F0 => ?_
 unfold i64ok at hrd_1 hmost_0
 refine Fb 1 1 fun _ => KS ?_
 refine Oq Va (KS ?_)
 refine Oq Va (KS ?_)
 refine letv (bits_Len (1073741824#64)) fun rv2 hg3 => ?_
 have hln := Len_31 hg3
 have hc4 := fn106 (1073741824#64) rfl rv2 hg3
 refine Oc [] ca106 hc4 ?_
 rintro - he5
 unfold i64ok at he5
 refine Oq Vadd (Oq Vquo (Oq Vm (KS ?_)))
 refine Kl (γ := Nat × Int × Int × Int) (fun (r6, rd1_7, n_8, v11_9) => ⟨[(0, rdP), (1, vi most), (5, vi n_8), (10, vi ((rv2 + 6) / 7)), (11, vi v11_9)], [Cl rdP [vl rda0 rdk0 rd.bytes, vi rd1_7, vb rd.Bad], S rda0 rdk0 rd.bytes], Reader_Number_L0 rd most r6 rd1_7 n_8 v11_9 = Reader_Number_L0 rd most (((((rv2 + 6) / 7) : Int) - 0).toNat) rd.at_ 0 0 ∧ r6 = ((((rv2 + 6) / 7) : Int) - v11_9).toNat ∧ (0 : Int) ≤ v11_9 ∧ (v11_9 ≤ ((rv2 + 6) / 7) ∨ v11_9 = 0) ∧ (-9223372036854775808 ≤ rd1_7 ∧ rd1_7 ≤ 9223372036854775807) ∧ (-9223372036854775808 ≤ n_8 ∧ n_8 ≤ 9223372036854775807) ∧ (-9223372036854775808 ≤ v11_9 ∧ v11_9 ≤ 9223372036854775807) ∧ (0 ≤ rd1_7 ∧ rd1_7 ≤ (rd.bytes.length : Int)) ∧ (NB n_8 v11_9), r6⟩) (((((rv2 + 6) / 7) : Int) - 0).toNat, rd.at_, 0, 0) [0, 0] ⟨rfl, rfl, aM1, (.inr rfl), aM1, aM1, aM1, iv0, NB_0⟩ ?_
 rintro ⟨r6, rd1_7, n_8, v11_9⟩ ⟨hM10, hr11, hi12, hi13, hk14, hk15, hk16, hv17, hv18⟩
 refine JJ_nx fun _ _ hL hA => ?_; dsimp only at hL hA; subst hL hA
 refine Fb 1 1 fun _ => KS ?_
 refine Oq Vlss (KS ?_)
 refine Kc ?_ ?_
 ·intro h20
  have g21 := dt h20
  obtain ⟨r22, rfl⟩ := scc (n := r6) aM1
  refine KS ?_
  refine Oq Vm (Oq Va (KS ?_))
  refine Jp 0 fun hp23 => ?_
  refine Kq [0, 1, 3, 7, 15, 31, 63, 127, 255, 31, 543, 1567, 3615, 7711, 16383, 32767] fmix ?_
  refine Qv [] Vm (Qv [0] (Vn 0) (Qv [0] (Vfa fo103_2 0) (Qv [1] (VldF sh4 0) ?_)))
  refine bool_split rd.Bad ?_ ?_
  ·intro h24
   refine Qb h24 [] Vm (Qs (Qs (Qs (Qs (Qs (Qs (Qs (Qs (Qs ?_)))))))))
   refine Qs (Qv [] Vpt ?_)
   refine Qn ⟨by kernel_rfl, ?_⟩
   refine Kt ?_
   refine Ke ?_
   have hR26 := q2 hM10 (.brk rd1_7) (by simp only [Reader_Number_L0, h20, h24, cs4])
   refine KS ?_
   refine Oq Vm (Oq (Vn 1) (Oq (Vfa fo103_2 1) (Ost (SclF [1] sh4 [vl rda0 rdk0 rd.bytes, vi rd1_7, vb true]) (KS ?_))))
   refine Oq Va (KS ?_)
   have hq := q4 hrr (0, (GReader.mk rd.bytes rd1_7 true)) (by simp only [Reader_Number, h20, h24, hg3, hR26, cs4]); subst hq
   exact Kr () rfl (.tmp rfl .nil) [0] en
  intro h24
  refine Qb h24 [] Vm (Qv [] Vm (Qv [0] (Vn 0) (Qv [0] (Vfa fo103_1 0) (Qv [1] (VldF sh3 0) (Qv [] Vm (Qv [0] (Vn 0) (Qv [0] (Vfa fo103_0 0) (Qv [1] (VldF sh44 0) (Qv [] (Vlen sl44) ?_)))))))))
  refine Qv [] Veql (Qv [] Vpf ?_)
  refine Qn ⟨by kernel_rfl, ?_⟩
  refine Kc ?_ ?_
  ·intro h28
   have g29 := eq_of_beq h28
   refine Ke ?_
   have hR30 := q2 hM10 (.brk rd1_7) (by simp only [Reader_Number_L0, h20, h24, h28, cs4])
   refine KS ?_
   refine Oq Vm (Oq (Vn 1) (Oq (Vfa fo103_2 1) (Ost (SclF [1] sh4 [vl rda0 rdk0 rd.bytes, vi rd1_7, vb true]) (KS ?_))))
   refine Oq Va (KS ?_)
   have hq := q4 hrr (0, (GReader.mk rd.bytes rd1_7 true)) (by simp only [Reader_Number, h20, h24, h28, hg3, hR30, cs4]); subst hq
   exact Kr () rfl (.tmp rfl .nil) [0] en
  intro h28
  have g31 := ne_of_beq_false h28
  refine KS ?_
  refine Kq [0, 1, 3, 7, 0, 16, 48, 112, 255, 511, 1023] fmix ?_
  refine Qv [] Vm (Qv [0] (Vn 0) (Qv [0] (Vfa fo103_0 0) (Qv [1] (VldF sh44 0) (Qv [] Vm (Qv [0] (Vn 0) (Qv [0] (Vfa fo103_1 0) (Qv [1] (VldF sh3 0) (Qv [2] (Vi sl44 0) ?_))))))))
  have hb32 := u8b' (rd.bytes.getD rd1_7.toNat 0)
  refine Qv [2] (Vld8 sh5 0) (Qv [] Va ?_)
  refine Qn ⟨by kernel_rfl, ?_⟩
  refine KS ?_
  refine Oq Vm (Oq (Vn 1) (Oq (Vfa fo103_1 1) (Oq (VldF sh3 1) (Oq Vadd (Oq (Vn 1) (Oq (Vfa fo103_1 1) (Ost (SclF [1] sh3 [vl rda0 rdk0 rd.bytes, vi (rd1_7 + 1), vb rd.Bad]) (KS ?_))))))))
  refine Oq Vm (Oq Vm ?_)
  have hb33 : 0 ≤ (bAn .u8 ((rd.bytes.getD rd1_7.toNat 0).toNat : Int) 128) ∧ (bAn .u8 ((rd.bytes.getD rd1_7.toNat 0).toNat : Int) 128) ≤ 255 := wrap_u8b _
  refine Oq VanK (Oq (VcK un5 un3) (Oq Vm (Oq Vmul (Oq (VshlI (a := (bAn .u8 ((rd.bytes.getD rd1_7.toNat 0).toNat : Int) 128)) (n := (7 * v11_9)) (h := (shl_ok aM1 aM1))) ?_))))
  have hb34 : -9223372036854775808 ≤ (bOr .i64 n_8 ((bAn .u8 ((rd.bytes.getD rd1_7.toNat 0).toNat : Int) 128) * 2 ^ ((7 * v11_9) : Int).toNat)) ∧ (bOr .i64 n_8 ((bAn .u8 ((rd.bytes.getD rd1_7.toNat 0).toNat : Int) 128) * 2 ^ ((7 * v11_9) : Int).toNat)) ≤ 9223372036854775807 := wrap_i64b _
  refine Oq VorK (Oq Va (KS ?_))
  refine Oq Vm (Oq Vlss (KS ?_))
  refine Kc ?_ ?_
  ·intro h35
   have g36 := dt h35
   have hnx := NB_i (NB_step (c := ((rd.bytes.getD rd1_7.toNat 0).toNat : Int)) (by assumption : NB _ _) aM1 aM1)
   refine KS ?_
   refine Oq Vm (Oq Vm (Oq Veql (Oq Vm ?_)))
   refine Js 60 ?_ ?_
   ·intro h37
    have g38 := eq_of_beq h37
    refine Oq Vm (Oq Vgtr (Oq Vpt (Oq Vm ?_)))
    refine Js 64 ?_ ?_
    ·intro h39
     have g40 := dt h39
     refine Osk (Osk (Osk (Oq Vpt (Oq (Vn 0) (Oq (Vfa fo103_2 0) (Ost (SclF [0] sh4 [vl rda0 rdk0 rd.bytes, vi (rd1_7 + 1), vb true]) (KS ?_)))))))
     refine Oq Vm (Oq (Vn 0) (Oq (Vfa fo103_2 0) (Oq (VldF sh4 0) (KS ?_))))
     refine Kt (KS ?_)
     refine Oq Va (KS ?_)
     have hR41 := q2 hM10 (.ret (0, (GReader.mk rd.bytes (rd1_7 + 1) true))) (by simp only [Reader_Number_L0, h20, h24, h28, h35, h37, h39, cs4])
     have hq := q4 hrr (0, (GReader.mk rd.bytes (rd1_7 + 1) true)) (by simp only [Reader_Number, h20, h24, h28, h35, h37, h39, hg3, hR41, cs4]); subst hq
     exact Kr () rfl (.tmp rfl .nil) [0] en
    intro h39
    have g42 := df h39
    refine Oq Vm (Oq Vm (Oq Vgtr (Oq Vpf (Oq (Vn 0) (Oq (Vfa fo103_2 0) (Ost (SclF [0] sh4 [vl rda0 rdk0 rd.bytes, vi (rd1_7 + 1), vb (decide (most < (bOr .i64 n_8 ((bAn .u8 ((rd.bytes.getD rd1_7.toNat 0).toNat : Int) 128) * 2 ^ ((7 * v11_9) : Int).toNat))))]) (KS ?_)))))))
    refine Oq Vm (Oq (Vn 0) (Oq (Vfa fo103_2 0) (Oq (VldF sh4 0) (KS ?_))))
    refine Kc ?_ ?_
    ·intro h43
     have g44 := dt h43
     refine KS ?_
     refine Oq Va (KS ?_)
     have hR45 := q2 hM10 (.ret (0, (GReader.mk rd.bytes (rd1_7 + 1) (decide (most < (bOr .i64 n_8 ((bAn .u8 ((rd.bytes.getD rd1_7.toNat 0).toNat : Int) 128) * 2 ^ ((7 * v11_9) : Int).toNat))))))) (by simp only [Reader_Number_L0, h20, h24, h28, h35, h37, h39, h43, cs4])
     have hq := q4 hrr (0, (GReader.mk rd.bytes (rd1_7 + 1) (decide (most < (bOr .i64 n_8 ((bAn .u8 ((rd.bytes.getD rd1_7.toNat 0).toNat : Int) 128) * 2 ^ ((7 * v11_9) : Int).toNat)))))) (by simp only [Reader_Number, h20, h24, h28, h35, h37, h39, h43, hg3, hR45, cs4]); subst hq
     exact Kr () rfl (.tmp rfl .nil) [0] en
    intro h43
    have g46 := df h43
    refine KS ?_
    refine Oq Vm (Oq Va (KS ?_))
    have hR47 := q2 hM10 (.ret ((bOr .i64 n_8 ((bAn .u8 ((rd.bytes.getD rd1_7.toNat 0).toNat : Int) 128) * 2 ^ ((7 * v11_9) : Int).toNat)), (GReader.mk rd.bytes (rd1_7 + 1) (decide (most < (bOr .i64 n_8 ((bAn .u8 ((rd.bytes.getD rd1_7.toNat 0).toNat : Int) 128) * 2 ^ ((7 * v11_9) : Int).toNat))))))) (by simp only [Reader_Number_L0, h20, h24, h28, h35, h37, h39, h43, cs4])
    have hq := q4 hrr ((bOr .i64 n_8 ((bAn .u8 ((rd.bytes.getD rd1_7.toNat 0).toNat : Int) 128) * 2 ^ ((7 * v11_9) : Int).toNat)), (GReader.mk rd.bytes (rd1_7 + 1) (decide (most < (bOr .i64 n_8 ((bAn .u8 ((rd.bytes.getD rd1_7.toNat 0).toNat : Int) 128) * 2 ^ ((7 * v11_9) : Int).toNat)))))) (by simp only [Reader_Number, h20, h24, h28, h35, h37, h39, h43, hg3, hR47, cs4]); subst hq
    exact Kr () rfl (.tmp rfl .nil) [0] en
   intro h37
   have g48 := ne_of_beq_false h37
   refine Osk (Osk (Oq Vpf (Oq Vm (Oq Vm (Oq Vm (Oq Vgtr (Oq Vpf (Oq (Vn 0) (Oq (Vfa fo103_2 0) ?_)))))))))
   refine Ost (SclF [0] sh4 [vl rda0 rdk0 rd.bytes, vi (rd1_7 + 1), vb (decide (most < (bOr .i64 n_8 ((bAn .u8 ((rd.bytes.getD rd1_7.toNat 0).toNat : Int) 128) * 2 ^ ((7 * v11_9) : Int).toNat))))]) (KS ?_)
   refine Oq Vm (Oq (Vn 0) (Oq (Vfa fo103_2 0) (Oq (VldF sh4 0) (KS ?_))))
   refine Kc ?_ ?_
   ·intro h49
    have g50 := dt h49
    refine KS ?_
    refine Oq Va (KS ?_)
    have hR51 := q2 hM10 (.ret (0, (GReader.mk rd.bytes (rd1_7 + 1) (decide (most < (bOr .i64 n_8 ((bAn .u8 ((rd.bytes.getD rd1_7.toNat 0).toNat : Int) 128) * 2 ^ ((7 * v11_9) : Int).toNat))))))) (by simp only [Reader_Number_L0, h20, h24, h28, h35, h37, h49, cs4])
    have hq := q4 hrr (0, (GReader.mk rd.bytes (rd1_7 + 1) (decide (most < (bOr .i64 n_8 ((bAn .u8 ((rd.bytes.getD rd1_7.toNat 0).toNat : Int) 128) * 2 ^ ((7 * v11_9) : Int).toNat)))))) (by simp only [Reader_Number, h20, h24, h28, h35, h37, h49, hg3, hR51, cs4]); subst hq
    exact Kr () rfl (.tmp rfl .nil) [0] en
   intro h49
   have g52 := df h49
   refine KS ?_
   refine Oq Vm (Oq Va (KS ?_))
   have hR53 := q2 hM10 (.ret ((bOr .i64 n_8 ((bAn .u8 ((rd.bytes.getD rd1_7.toNat 0).toNat : Int) 128) * 2 ^ ((7 * v11_9) : Int).toNat)), (GReader.mk rd.bytes (rd1_7 + 1) (decide (most < (bOr .i64 n_8 ((bAn .u8 ((rd.bytes.getD rd1_7.toNat 0).toNat : Int) 128) * 2 ^ ((7 * v11_9) : Int).toNat))))))) (by simp only [Reader_Number_L0, h20, h24, h28, h35, h37, h49, cs4])
   have hq := q4 hrr ((bOr .i64 n_8 ((bAn .u8 ((rd.bytes.getD rd1_7.toNat 0).toNat : Int) 128) * 2 ^ ((7 * v11_9) : Int).toNat)), (GReader.mk rd.bytes (rd1_7 + 1) (decide (most < (bOr .i64 n_8 ((bAn .u8 ((rd.bytes.getD rd1_7.toNat 0).toNat : Int) 128) * 2 ^ ((7 * v11_9) : Int).toNat)))))) (by simp only [Reader_Number, h20, h24, h28, h35, h37, h49, hg3, hR53, cs4]); subst hq
   exact Kr () rfl (.tmp rfl .nil) [0] en
  intro h35
  have g54 := df h35
  have hnx := NB_i (NB_step (c := ((rd.bytes.getD rd1_7.toNat 0).toNat : Int)) (by assumption : NB _ _) aM1 aM1)
  refine KS ?_
  refine Oq Vadd (Oq Vm (KS ?_))
  exact Kg (r22, (rd1_7 + 1), (bOr .i64 n_8 ((bAn .u8 ((rd.bytes.getD rd1_7.toNat 0).toNat : Int) 128) * 2 ^ ((7 * v11_9) : Int).toNat)), (v11_9 + 1)) [0, 1] ⟨(q3 hM10 (by simp only [Reader_Number_L0, h20, h24, h28, h35, cs4])), aM1, aM1, aM1, aM1, aM1, aM1, iv1, (NB_step (by assumption) aM1 aM1)⟩
 intro h20
 have g55 := df h20
 obtain rfl : r6 = 0 := by omega
 refine Ke ?_
 have hR56 := q2 hM10 (.brk rd1_7) (by simp only [Reader_Number_L0, h20, cs4])
 refine KS ?_
 refine Oq Vm (Oq (Vn 0) (Oq (Vfa fo103_2 0) (Ost (SclF [0] sh4 [vl rda0 rdk0 rd.bytes, vi rd1_7, vb true]) (KS ?_))))
 refine Oq Va (KS ?_)
 have hq := q4 hrr (0, (GReader.mk rd.bytes rd1_7 true)) (by simp only [Reader_Number, h20, hg3, hR56, cs4]); subst hq
 exact Kr () rfl (.tmp rfl .nil) [0] en
theorem fn107 (rdP : Value) (rd : GReader) (rda0 : Option Addr) (rdk0 : Nat) (hrd_1 : i64ok rd.at_) (hr0 : 0 ≤ rd.at_ ∧ rd.at_ ≤ (rd.bytes.length : Int)) (rr : Int × GReader) (hrr : Reader_Length rd = rr) : FT Tryz.prog 107 #[rdP] [Cl rdP [vl rda0 rdk0 rd.bytes, vi rd.at_, vb rd.Bad], S rda0 rdk0 rd.bytes] (fun g : Unit => i64ok rr.1 ∧ i64ok rr.2.at_ ∧ (0 ≤ rr.1 ∧ rr.1 ≤ (rd.bytes.length : Int)) ∧ (0 ≤ rr.2.at_ ∧ rr.2.at_ ≤ (rd.bytes.length : Int))) (fun g => vi rr.1) (fun g => [Cl rdP [vl rda0 rdk0 rd.bytes, vi rr.2.at_, vb rr.2.Bad]]) := by
 refine FTi Tryz.func107 fun w0 M0 F0 => ?_
 unfold i64ok at hrd_1
 refine Fb 1 1 fun _ => KS ?_
 refine Oq Va (KS ?_)
 refine Jp 0 fun hp2 => ?_
 refine JK_drawK [0, 0, 2, 6, 14, 30, 0, 64, 192, 448, 1022, 2047, 4095] fmix ?_
 refine Dv [] Vm (Dv [] Vm (Dv [0] (Vn 0) (Dv [0] (Vfa fo103_0 0) (Dv [1] (VldF sh44 0) (Dv [] (Vlen sl44) (Dv [] Vm (Dv [0] (Vn 0) (Dv [0] (Vfa fo103_1 0) (Dv [1] (VldF sh3 0) ?_)))))))))
 refine Dv [] Vsub ?_
 refine letv (Reader_Number rd ((rd.bytes.length : Int) - rd.at_)) fun rv3 hg4 => ?_
 refine Dx [1, 2] [1] [2, 0, 1] (fun G => vi rv3.1) [fun G => SP.fact (i64ok rv3.1 ∧ i64ok rv3.2.at_ ∧ (0 ≤ rv3.1 ∧ rv3.1 ≤ ((rd.bytes.length : Int) - rd.at_)) ∧ (0 ≤ rv3.2.at_ ∧ rv3.2.at_ ≤ (rd.bytes.length : Int))), fun G => Cl rdP [vl rda0 rdk0 rd.bytes, vi rv3.2.at_, vb rv3.2.Bad]] (fun G => xC [0, 0] ca64 (fn64 rdP rd rda0 rdk0 (((rd.bytes.length : Int) - rd.at_)) pre pre pre pre rv3 hg4)) (Dv [] Va ?_)
 refine Dn ⟨by kernel_rfl, fun G => ?_⟩
 refine Jw2 [(2, vi rv3.1)] [0, 2] [SP.fact (i64ok rv3.1 ∧ i64ok rv3.2.at_ ∧ (0 ≤ rv3.1 ∧ rv3.1 ≤ ((rd.bytes.length : Int) - rd.at_)) ∧ (0 ≤ rv3.2.at_ ∧ rv3.2.at_ ≤ (rd.bytes.length : Int))), Cl rdP [vl rda0 rdk0 rd.bytes, vi rv3.2.at_, vb rv3.2.Bad]] ?_
 refine Jf 2 rfl ?_; rintro ⟨he5, he6, he7, he8⟩
 unfold i64ok at he5 he6
 refine Jk [1, 3] ?_
 have hq := q4 hrr (rv3.1, (GReader.mk rd.bytes rv3.2.at_ rv3.2.Bad)) (by simp only [Reader_Length, hg4, cs4]); subst hq
 exact Kr () rfl (.tmp rfl .nil) [1] en
theorem fn65 (rdP : Value) (rd : GReader) (rda0 : Option Addr) (rdk0 : Nat) (most : Int) (hrd_1 : i64ok rd.at_) (hmost_0 : i64ok most) (hr0 : 0 ≤ rd.at_ ∧ rd.at_ ≤ (rd.bytes.length : Int)) (hl0 : rd.bytes.length ≤ 2000000) (hm0 : 0 ≤ most) (rr : List Int × GReader) (hrr : Reader_Numbers rd most = rr) : FT Tryz.prog 65 #[rdP, vi most] [Cl rdP [vl rda0 rdk0 rd.bytes, vi rd.at_, vb rd.Bad], S rda0 rdk0 rd.bytes] (fun g : Value => i64ok rr.2.at_ ∧ (rr.1.length ≤ 2000000) ∧ (0 ≤ rr.2.at_ ∧ rr.2.at_ ≤ (rd.bytes.length : Int))) (fun g => g) (fun g => [sl g rr.1, Cl rdP [vl rda0 rdk0 rd.bytes, vi rr.2.at_, vb rr.2.Bad]]) := by
 refine FTi Tryz.func65 fun w0 M0 F0 => ?_
 unfold i64ok at hrd_1 hmost_0
 refine Fb 1 1 fun _ => KS ?_
 refine Oq Va (KS ?_)
 refine Oq Va (KS ?_)
 refine Oq Vm ?_
 refine letv (Reader_Length rd) fun rv2 hg3 => ?_
 have hc4 := fn107 rdP rd rda0 rdk0 pre pre rv2 hg3
 refine Oc [0, 0] ca107 hc4 ?_
 rintro - ⟨he5, he6, he7, he8⟩
 unfold i64ok at he5 he6
 refine Oq Vm (KS ?_)
 refine Jl [] (Ent.osNil (α := Int)) ?_
 refine Kl (γ := Nat × Int × Bool × List Int × Int × Option Addr × Nat) (fun (r9, rd1_10, rd2_11, out_12, v8_13, a14, k15) => ⟨[(0, rdP), (1, vi most), (5, vl a14 k15 out_12), (7, vi rv2.1), (8, vi v8_13)], [O a14 k15 out_12, Cl rdP [vl rda0 rdk0 rd.bytes, vi rd1_10, vb rd2_11], S rda0 rdk0 rd.bytes], Reader_Numbers_L0 rd most r9 rd1_10 rd2_11 out_12 v8_13 = Reader_Numbers_L0 rd most (((rv2.1 : Int) - 0).toNat) rv2.2.at_ rv2.2.Bad [] 0 ∧ r9 = ((rv2.1 : Int) - v8_13).toNat ∧ (0 : Int) ≤ v8_13 ∧ (v8_13 ≤ rv2.1 ∨ v8_13 = 0) ∧ (-9223372036854775808 ≤ rd1_10 ∧ rd1_10 ≤ 9223372036854775807) ∧ (-9223372036854775808 ≤ v8_13 ∧ v8_13 ≤ 9223372036854775807) ∧ (0 ≤ rd1_10 ∧ rd1_10 ≤ (rd.bytes.length : Int)) ∧ ((out_12.length : Int) ≤ v8_13), r9⟩) (((rv2.1 : Int) - 0).toNat, rv2.2.at_, rv2.2.Bad, [], 0, none, 0) [0, 0, 0] ⟨rfl, rfl, aM1, (.inr rfl), aM1, aM1, iv0, iv0⟩ ?_
 rintro ⟨r9, rd1_10, rd2_11, out_12, v8_13, a14, k15⟩ ⟨hM16, hr17, hi18, hi19, hk20, hk21, hv22, hv23⟩
 refine JJ_nx fun _ _ hL hA => ?_; dsimp only at hL hA; subst hL hA
 refine Fb 8 0 fun _ => Fo 0 fun ho25 => Fb 1 2 fun _ => KS ?_
 refine Oq Vlss (KS ?_)
 refine Kc ?_ ?_
 ·intro h27
  have g28 := dt h27
  obtain ⟨r29, rfl⟩ := scc (n := r9) aM1
  refine KS ?_
  refine Oq Vm (Oq Vm (Oq Vm ?_))
  refine letv (Reader_Number (GReader.mk rd.bytes rd1_10 rd2_11) most) fun rv30 hg31 => ?_
  have hc32 := fn64 rdP (GReader.mk rd.bytes rd1_10 rd2_11) rda0 rdk0 most pre pre pre pre rv30 hg31
  refine Oc [1, 1] ca64 hc32 ?_
  rintro - ⟨he33, he34, he35, he36⟩
  unfold i64ok at he33 he34
  have he36 : (0 ≤ rv30.2.at_ ∧ rv30.2.at_ ≤ (rd.bytes.length : Int)) := he36
  refine Oa (AsV sl22 sz22 [vi rv30.1] [vi rv30.1]) fun c37 => ?_
  refine Jo 0 ?_; rintro a38 k39 rfl
  refine Jl [0] (Ent.crInt _ [rv30.1] _ _ rfl rfl (by intro x hx; rw [List.mem_singleton] at hx; subst hx; unfold i64ok; omega) aB1) ?_
  refine Oa (ApO [2, 0] sl22 sl22 sz22) fun c40 => ?_
  refine Jo 0 ?_; rintro a41 k42 rfl
  refine Fb 8 0 fun _ => Fo 0 fun ho44 => ?_
  have hn45 := la out_12 ([rv30.1] : List Int)
  refine Oq Va (KS ?_)
  refine Oq Vm (Oq (Vn 1) (Oq (Vfa fo103_2 1) (Oq (VldF sh4 1) (KS ?_))))
  refine Kc ?_ ?_
  ·intro h46
   refine KS ?_
   refine Oq Va (KS ?_)
   refine Jl [] (Ent.slNil (α := Int)) ?_
   have hR48 := q2 hM16 (.ret (([] : List Int), (GReader.mk rd.bytes rv30.2.at_ rv30.2.Bad))) (by simp only [Reader_Numbers_L0, h27, h46, hg31, cs4])
   have hq := q4 hrr (([] : List Int), (GReader.mk rd.bytes rv30.2.at_ rv30.2.Bad)) (by simp only [Reader_Numbers, h27, h46, hg3, hg31, hR48, cs4]); subst hq
   exact Kr (.slice none 0 0) rfl (.tmp rfl .nil) [0, 2] en
  intro h46
  refine KS ?_
  refine Oq Vadd (Oq Vm (KS ?_))
  exact Kg (r29, rv30.2.at_, rv30.2.Bad, (out_12 ++ [rv30.1]), (v8_13 + 1), a41, k42) [0, 0, 0] ⟨(q3 hM16 (by simp only [Reader_Numbers_L0, h27, h46, hg31, cs4])), aM1, aM1, aM1, aM1, aM1, iv1, iv1⟩
 intro h27
 have g50 := df h27
 obtain rfl : r9 = 0 := by omega
 refine Ke ?_
 have hR51 := q2 hM16 (.brk (rd1_10, rd2_11, out_12)) (by simp only [Reader_Numbers_L0, h27, cs4])
 refine KS ?_
 refine Oq Vm (Oq Va (KS ?_))
 refine Jl [0] (Ent.freeze _ _) ?_
 have hq := q4 hrr (out_12, (GReader.mk rd.bytes rd1_10 rd2_11)) (by simp only [Reader_Numbers, h27, hg3, hR51, cs4]); subst hq
 exact Kr (vl a14 k15 out_12) rfl (.tmp rfl .nil) [0, 1] en
theorem fn66 (rdP : Value) (rd : GReader) (rda0 : Option Addr) (rdk0 : Nat) (hrd_1 : i64ok rd.at_) (hr0 : 0 ≤ rd.at_ ∧ rd.at_ ≤ (rd.bytes.length : Int)) (rr : Bool × GReader) (hrr : Reader_Bool rd = rr) : FT Tryz.prog 66 #[rdP] [Cl rdP [vl rda0 rdk0 rd.bytes, vi rd.at_, vb rd.Bad], S rda0 rdk0 rd.bytes] (fun g : Unit => i64ok rr.2.at_ ∧ (0 ≤ rr.2.at_ ∧ rr.2.at_ ≤ (rd.bytes.length : Int))) (fun g => vb rr.1) (fun g => [Cl rdP [vl rda0 rdk0 rd.bytes, vi rr.2.at_, vb rr.2.Bad]]) := by
 refine FTi Tryz.func66 fun w0 M0 F0 => ?_
 unfold i64ok at hrd_1
 refine Fb 1 1 fun _ => KS ?_
 refine Oq Va (KS ?_)
 refine Oq Vm ?_
 refine letv (Reader_Number rd 1) fun rv2 hg3 => ?_
 have hc4 := fn64 rdP rd rda0 rdk0 1 pre pre pre pre rv2 hg3
 refine Oc [0, 0] ca64 hc4 ?_
 rintro - ⟨he5, he6, he7, he8⟩
 unfold i64ok at he5 he6
 refine Oq Veql (Oq Va (KS ?_))
 have hq := q4 hrr ((rv2.1 == 1), (GReader.mk rd.bytes rv2.2.at_ rv2.2.Bad)) (by simp only [Reader_Bool, hg3, cs4]); subst hq
 exact Kr () rfl (.tmp rfl .nil) [0] en
theorem fn145 (width : Int) (hwidth_0 : i64ok width) (rr : GSet × Int) (hrr : bt_Empty width = rr) : FT Tryz.prog 145 #[vi width] [] (fun g : Value => i64ok rr.1.Width ∧ i64ok rr.2 ∧ (0 ≤ rr.1.Width ∧ rr.1.Width ≤ 256) ∧ (rr.1.Words.length = ((rr.1.Width + 63) / 64).toNat)) (fun g => .tuple #[.agg #[vi rr.1.Width, g], vi rr.2]) (fun g => [os g rr.1.Words]) := by
 refine FTi Tryz.func145 fun w0 M0 F0 => ?_
 unfold i64ok at hwidth_0
 refine KS ?_
 refine Oa (Al ze39 [vi 0, .slice none 0 0]) fun p1 => Oq Va (KS ?_)
 refine Oq Vm ?_
 refine letv (bt_ranged width) fun rv2 hg3 => ?_
 have hc4 := fn112 width pre rv2 hg3
 refine Oc [] ca112 hc4 ?_
 rintro - -
 refine Oq Vnot (KS ?_)
 refine Kc ?_ ?_
 ·intro h5
  have h7 := not_true h5
  refine KS ?_
  refine Oq (Vbd st39 [vi 0, .slice none 0 0]) (Ost (Scl [0] sh39 [vi 0, .slice none 0 0]) (Oq Va (KS ?_)))
  refine Jl [] (Ent.osNil (α := BitVec 64)) ?_
  have hq := q4 hrr ((GSet.mk 0 []), 3) (by simp only [bt_Empty, h5, h7, hg3, cs4]); subst hq
  exact Kr (.slice none 0 0) rfl (.cellN 1 rfl sh39 rfl (reads_Cl _ _) rfl (.tmp rfl .nil)) [0] en
 intro h5
 have h10 := not_false h5
 have hrg := ranged_iff (w := width) (by simp only [h5, h10, hg3])
 refine KS ?_
 refine Oq Vm (Oq Vm ?_)
 refine letv (bt_words width) fun rv12 hg13 => ?_
 have hc14 := fn113 width pre pre rv12 hg13
 refine Oc [] ca113 hc14 ?_
 rintro - ⟨he15, he16⟩
 unfold i64ok at he15
 refine Oa (Amk (α := BitVec 64) sl37 sz37 0#64 (fun _ _ => rfl)) fun c17 => ?_
 refine Jo 0 ?_; rintro a18 k19 rfl
 refine Fb 8 0 fun _ => ?_
 have hn21 := List.length_replicate (n := rv12.toNat) (a := (0#64 : BitVec 64))
 refine Oq (Vbd st39 [vi width, vl a18 k19 (List.replicate rv12.toNat 0#64)]) (Ost (Scl [1] sh39 [vi width, vl a18 k19 (List.replicate rv12.toNat 0#64)]) (Oq Va (KS ?_)))
 have hq := q4 hrr ((GSet.mk width (List.replicate rv12.toNat 0#64)), 0) (by simp only [bt_Empty, h5, h10, hg3, hg13, cs4]); subst hq
 exact Kr (vl a18 k19 (List.replicate rv12.toNat 0#64)) rfl (.cellN 0 rfl sh39 rfl (reads_Cl _ _) rfl (.tmp rfl .nil)) [1] en
theorem fn146 (s : GSet) (sa1 : Option Addr) (sk1 : Nat) (b : Int) (hs_0 : i64ok s.Width) (hb_0 : i64ok b) (hb0 : 0 ≤ b ∧ b / 64 < (s.Words.length : Int)) (rr : List (BitVec 64)) (hrr : bt_put s b = rr) : FT Tryz.prog 146 #[.agg #[vi s.Width, vl sa1 sk1 s.Words], vi b] [O sa1 sk1 s.Words] (fun g : Unit => True) (fun g => .tuple #[]) (fun g => [os (vl sa1 sk1 s.Words) rr]) := by
 refine FTi Tryz.func146 fun w0 M0 F0 => ?_
 unfold i64ok at hs_0 hb_0
 refine Fb 8 0 fun _ => KS ?_
 refine Oa (Ab [vi s.Width, vl sa1 sk1 s.Words]) fun p2 => KS ?_
 refine Oq (Vfa fo39_1 0) (Oq (VldF sh37 0) (Oq Vm (Oq Vquo (Oq (Vi sl37 1) (Oq (VldU sh68 1) (Oq Vm (Oq (VcU un3 un69) (Oq (VremU (b := 64#64) (by simp)) (Oq (VshlU (a := 1#64)) ?_)))))))))
 refine Oq VorU (Oq (Vi sl37 1) (Ost (SoU [1] sh68) (KS ?_)))
 refine Fl 0 fun hn3 => ?_
 have hq := q4 hrr (s.Words.set ((b / 64) : Int).toNat ((s.Words.getD ((b / 64) : Int).toNat 0#64) ||| (1#64 <<< ((((BitVec.ofInt 64 b) % 64#64).toNat : Int)).toNat))) (by simp only [bt_put, cs4]); subst hq
 exact Kz () rfl .nil [0] trivial
theorem fn108 (width : Int) (members : List Int) (membersa0 : Option Addr) (membersk0 : Nat) (hwidth_0 : i64ok width) (hn0 : members.length ≤ 100000) (rr : GSet × Int) (hrr : bt_Of width members = rr) : FT Tryz.prog 108 #[vi width, vl membersa0 membersk0 members] [S membersa0 membersk0 members] (fun g : Value => i64ok rr.1.Width ∧ i64ok rr.2) (fun g => .tuple #[.agg #[vi rr.1.Width, g], vi rr.2]) (fun g => [os g rr.1.Words]) := by
 refine FTi Tryz.func108 fun w0 M0 F0 => ?_
 unfold i64ok at hwidth_0
 refine Fb 8 0 fun _ => Fo 0 fun ho2 => KS ?_
 refine Oa (Al ze39 [vi 0, .slice none 0 0]) fun p3 => Oq Va (KS ?_)
 refine Oq Vm ?_
 refine letv (bt_Empty width) fun rv5 hg6 => ?_
 have hc7 := fn145 width pre rv5 hg6
 refine Oc [] ca145 hc7 ?_
 rintro c4 ⟨he8, he9, he10, he11⟩
 unfold i64ok at he8 he9
 refine Jo 0 ?_; rintro a12 k13 rfl
 refine Fb 8 0 fun _ => ?_
 refine Oq Vm (Oq Vx (Oq Vx (Oa (Al ze39 [vi 0, .slice none 0 0]) fun p15 => Ost (Scl [0] sh39 [vi rv5.1.Width, vl a12 k13 rv5.1.Words]) (Oq Va (KS ?_)))))
 refine Oq Vm (Oq (Vlen sl22) (Oq Vm (KS ?_)))
 refine Kl (γ := Nat × List (BitVec 64) × Int × Option Addr × Nat) (fun (r16, s1_17, v17_18, a19, k20) => ⟨[(4, p3), (6, p15), (7, vi rv5.2), (15, vl membersa0 membersk0 members), (16, vi (members.length : Int)), (17, vi v17_18)], [O a19 k20 s1_17, Cl p15 [vi rv5.1.Width, vl a19 k20 s1_17], Cl p3 [vi 0, .slice none 0 0], S membersa0 membersk0 members], bt_Of_L0 members rv5.1.Width r16 s1_17 v17_18 = bt_Of_L0 members rv5.1.Width (((members.length : Int) - 0).toNat) rv5.1.Words 0 ∧ r16 = ((members.length : Int) - v17_18).toNat ∧ (0 : Int) ≤ v17_18 ∧ v17_18 ≤ (members.length : Int) ∧ (-9223372036854775808 ≤ v17_18 ∧ v17_18 ≤ 9223372036854775807) ∧ (s1_17.length = ((rv5.1.Width + 63) / 64).toNat), r16⟩) (((members.length : Int) - 0).toNat, rv5.1.Words, 0, a12, k13) [1, 0, 0, 0] ⟨rfl, rfl, aM1, aM1, aM1, iv0⟩ ?_
 rintro ⟨r16, s1_17, v17_18, a19, k20⟩ ⟨hM21, hr22, hi23, hi24, hk25, hv26⟩
 refine JJ_nx fun _ _ hL hA => ?_; dsimp only at hL hA; subst hL hA
 refine Fb 8 0 fun _ => Fb 8 3 fun _ => Fo 3 fun ho29 => KS ?_
 refine Oq Vlss (KS ?_)
 refine Kc ?_ ?_
 ·intro h30
  have g31 := dt h30
  obtain ⟨r32, rfl⟩ := scc (n := r16) aM1
  refine KS ?_
  refine Oq (Vi sl22 3) ?_
  have hb33 := ok1 (i := v17_18.toNat) ho29 rng
  refine Oq (VldI sh3 3) (Oq Va (KS ?_))
  refine Oq Vm (Oq Vlss (Oq Vm ?_))
  refine Js 23 ?_ ?_
  ·intro h34
   have g35 := dt h34
   refine Osk (Osk (Osk (Osk (Oq Vpt (KS ?_)))))
   refine Kt (KS ?_)
   refine Oq (Vbd st39 [vi 0, .slice none 0 0]) (Ost (Scl [2] sh39 [vi 0, .slice none 0 0]) (Oq Va (KS ?_)))
   refine Jl [] (Ent.osNil (α := BitVec 64)) ?_
   have hR36 := q2 hM21 (.ret ((GSet.mk 0 []), 3)) (by simp only [bt_Of_L0, h30, h34, cs4])
   have hq := q4 hrr ((GSet.mk 0 []), 3) (by simp only [bt_Of, h30, h34, hg6, hR36, cs4]); subst hq
   exact Kr (.slice none 0 0) rfl (.cellN 1 rfl sh39 rfl (reads_Cl _ _) rfl (.tmp rfl .nil)) [0] en
  intro h34
  have g37 := df h34
  refine Oq Vm (Oq (Vfa fo39_0 1) (Oq (VldF sh3 1) (Oq Vgeq (Oq Vpf (KS ?_)))))
  refine Kc ?_ ?_
  ·intro h38
   have g39 := dt h38
   refine KS ?_
   refine Oq (Vbd st39 [vi 0, .slice none 0 0]) (Ost (Scl [2] sh39 [vi 0, .slice none 0 0]) (Oq Va (KS ?_)))
   refine Jl [] (Ent.osNil (α := BitVec 64)) ?_
   have hR40 := q2 hM21 (.ret ((GSet.mk 0 []), 3)) (by simp only [bt_Of_L0, h30, h34, h38, cs4])
   have hq := q4 hrr ((GSet.mk 0 []), 3) (by simp only [bt_Of, h30, h34, h38, hg6, hR40, cs4]); subst hq
   exact Kr (.slice none 0 0) rfl (.cellN 1 rfl sh39 rfl (reads_Cl _ _) rfl (.tmp rfl .nil)) [0] en
  intro h38
  have g41 := df h38
  refine KS ?_
  refine Oq (VldA sh39 1) (Oq Vm ?_)
  refine letv (bt_put (GSet.mk rv5.1.Width s1_17) (members.getD v17_18.toNat 0)) fun rv42 hg43 => ?_
  have hpl := put_len hg43
  dsimp only at hpl
  have hc44 := fn146 ((GSet.mk rv5.1.Width s1_17)) a19 k20 ((members.getD v17_18.toNat 0)) pre pre pre rv42 hg43
  refine Oc [0] ca146 hc44 ?_
  rintro - -
  refine KS ?_
  refine Oq Vadd (Oq Vm (KS ?_))
  refine Fl 0 fun hn45 => ?_; (try unfold vl); rw [← hn45]
  exact Kg (r32, rv42, (v17_18 + 1), a19, k20) [0, 0, 0, 0] ⟨(q3 hM21 (by simp only [bt_Of_L0, h30, h34, h38, hg43, cs4])), aM1, aM1, aM1, aM1, iv1⟩
 intro h30
 have g46 := df h30
 obtain rfl : r16 = 0 := by omega
 refine Ke ?_
 have hR47 := q2 hM21 (.brk s1_17) (by simp only [bt_Of_L0, h30, cs4])
 refine KS ?_
 refine Oq (VldA sh39 1) (Oq Vm (Ost (Scl [2] sh39 [vi rv5.1.Width, vl a19 k20 s1_17]) (Oq Va (KS ?_))))
 have hq := q4 hrr ((GSet.mk rv5.1.Width s1_17), rv5.2) (by simp only [bt_Of, h30, hg6, hR47, cs4]); subst hq
 exact Kr (vl a19 k20 s1_17) rfl (.cellN 0 rfl sh39 rfl (reads_Cl _ _) rfl (.tmp rfl .nil)) [1] en
theorem fn67 (rdP : Value) (rd : GReader) (rda0 : Option Addr) (rdk0 : Nat) (hrd_1 : i64ok rd.at_) (hr0 : 0 ≤ rd.at_ ∧ rd.at_ ≤ (rd.bytes.length : Int)) (rr : GSet × GReader) (hrr : Reader_Set rd = rr) : FT Tryz.prog 67 #[rdP] [Cl rdP [vl rda0 rdk0 rd.bytes, vi rd.at_, vb rd.Bad], S rda0 rdk0 rd.bytes] (fun g : Value => i64ok rr.1.Width ∧ i64ok rr.2.at_ ∧ (0 ≤ rr.2.at_ ∧ rr.2.at_ ≤ (rd.bytes.length : Int))) (fun g => .agg #[vi rr.1.Width, g]) (fun g => [sl g rr.1.Words, Cl rdP [vl rda0 rdk0 rd.bytes, vi rr.2.at_, vb rr.2.Bad]]) := by
 refine FTi Tryz.func67 fun w0 M0 F0 => ?_
 unfold i64ok at hrd_1
 refine Fb 1 1 fun _ => KS ?_
 refine Oa (Al ze39 [vi 0, .slice none 0 0]) fun p2 => KS ?_
 refine Oq Vm ?_
 refine letv (Reader_Number rd 256) fun rv3 hg4 => ?_
 have hc5 := fn64 rdP rd rda0 rdk0 256 pre pre pre pre rv3 hg4
 refine Oc [1, 1] ca64 hc5 ?_
 rintro - ⟨he6, he7, he8, he9⟩
 unfold i64ok at he6 he7
 refine Oq Va (KS ?_)
 refine Oq Va (KS ?_)
 refine Oq Va (KS ?_)
 refine Oq Vm (Oq Vm ?_)
 refine letv (Reader_Number (GReader.mk rd.bytes rv3.2.at_ rv3.2.Bad) rv3.1) fun rv10 hg11 => ?_
 have hc12 := fn64 rdP (GReader.mk rd.bytes rv3.2.at_ rv3.2.Bad) rda0 rdk0 rv3.1 pre pre pre pre rv10 hg11
 refine Oc [0, 1] ca64 hc12 ?_
 rintro - ⟨he13, he14, he15, he16⟩
 unfold i64ok at he13 he14
 have he16 : (0 ≤ rv10.2.at_ ∧ rv10.2.at_ ≤ (rd.bytes.length : Int)) := he16
 refine Oq Vm (KS ?_)
 refine Jl [] (Ent.osNil (α := Int)) ?_
 refine Kl (γ := Nat × Int × Bool × List Int × Int × Int × Option Addr × Nat) (fun (r17, rd1_18, rd2_19, members_20, last_21, v13_22, a23, k24) => ⟨[(0, rdP), (2, p2), (3, vi rv3.1), (4, vl a23 k24 members_20), (5, vi last_21), (12, vi rv10.1), (13, vi v13_22)], [O a23 k24 members_20, Cl rdP [vl rda0 rdk0 rd.bytes, vi rd1_18, vb rd2_19], Cl p2 [vi 0, .slice none 0 0], S rda0 rdk0 rd.bytes], Reader_Set_L0 rd r17 rd1_18 rd2_19 members_20 last_21 v13_22 = Reader_Set_L0 rd (((rv10.1 : Int) - 0).toNat) rv10.2.at_ rv10.2.Bad [] (-1) 0 ∧ r17 = ((rv10.1 : Int) - v13_22).toNat ∧ (0 : Int) ≤ v13_22 ∧ (v13_22 ≤ rv10.1 ∨ v13_22 = 0) ∧ (-9223372036854775808 ≤ rd1_18 ∧ rd1_18 ≤ 9223372036854775807) ∧ (-9223372036854775808 ≤ last_21 ∧ last_21 ≤ 9223372036854775807) ∧ (-9223372036854775808 ≤ v13_22 ∧ v13_22 ≤ 9223372036854775807) ∧ (0 ≤ rd1_18 ∧ rd1_18 ≤ (rd.bytes.length : Int)) ∧ ((members_20.length : Int) ≤ v13_22) ∧ (-1 ≤ last_21 ∧ last_21 ≤ 257 * v13_22), r17⟩) (((rv10.1 : Int) - 0).toNat, rv10.2.at_, rv10.2.Bad, [], -1, 0, none, 0) [0, 0, 0, 0] ⟨rfl, rfl, aM1, (.inr rfl), aM1, aM1, aM1, iv0, iv0, iv0⟩ ?_
 rintro ⟨r17, rd1_18, rd2_19, members_20, last_21, v13_22, a23, k24⟩ ⟨hM25, hr26, hi27, hi28, hk29, hk30, hk31, hv32, hv33, hv34⟩
 refine JJ_nx fun _ _ hL hA => ?_; dsimp only at hL hA; subst hL hA
 refine Fb 8 0 fun _ => Fo 0 fun ho36 => Fb 1 3 fun _ => KS ?_
 refine Oq Vlss (KS ?_)
 refine Kc ?_ ?_
 ·intro h38
  have g39 := dt h38
  obtain ⟨r40, rfl⟩ := scc (n := r17) aM1
  refine KS ?_
  refine Oq Vm (Oq Vm ?_)
  refine letv (Reader_Number (GReader.mk rd.bytes rd1_18 rd2_19) 256) fun rv41 hg42 => ?_
  have hc43 := fn64 rdP (GReader.mk rd.bytes rd1_18 rd2_19) rda0 rdk0 256 pre pre pre pre rv41 hg42
  refine Oc [1, 2] ca64 hc43 ?_
  rintro - ⟨he44, he45, he46, he47⟩
  unfold i64ok at he44 he45
  have he47 : (0 ≤ rv41.2.at_ ∧ rv41.2.at_ ≤ (rd.bytes.length : Int)) := he47
  refine Oq Vadd (Oq Vadd (Oq Va (KS ?_)))
  refine Oq Vm (Oq Vm (Oa (AsV sl22 sz22 [vi (last_21 + (1 + rv41.1))] [vi (last_21 + (1 + rv41.1))]) fun c48 => ?_))
  refine Jo 0 ?_; rintro a49 k50 rfl
  refine Jl [0] (Ent.crInt _ [(last_21 + (1 + rv41.1))] _ _ rfl rfl (by intro x hx; rw [List.mem_singleton] at hx; subst hx; unfold i64ok; omega) aB1) ?_
  refine Oa (ApO [2, 0] sl22 sl22 sz22) fun c51 => ?_
  refine Jo 0 ?_; rintro a52 k53 rfl
  refine Fb 8 0 fun _ => Fo 0 fun ho55 => ?_
  have hn56 := la members_20 ([(last_21 + (1 + rv41.1))] : List Int)
  refine Oq Va (KS ?_)
  refine Oq Vadd (Oq Vm (KS ?_))
  exact Kg (r40, rv41.2.at_, rv41.2.Bad, (members_20 ++ [(last_21 + (1 + rv41.1))]), (last_21 + (1 + rv41.1)), (v13_22 + 1), a52, k53) [0, 0, 0, 0] ⟨(q3 hM25 (by simp only [Reader_Set_L0, h38, hg42, cs4])), aM1, aM1, aM1, aM1, aM1, aM1, iv1, iv1, iv1⟩
 intro h38
 have g57 := df h38
 obtain rfl : r17 = 0 := by omega
 refine Ke ?_
 have hR58 := q2 hM25 (rd1_18, rd2_19, members_20) (by simp only [Reader_Set_L0, h38, cs4])
 refine KS ?_
 refine Oq Vm (Oq Vm ?_)
 refine letv (bt_Of rv3.1 members_20) fun rv60 hg61 => ?_
 refine Oc [0] ca108 (FT_borrow (A := _) hlx (FT_ent (Ent.take (is := [0]) rfl) (fn108 rv3.1 members_20 a23 k24 pre pre rv60 hg61))) ?_ (ht := rfl)
 rintro c59 ⟨he62, he63⟩
 unfold i64ok at he62 he63
 refine Jo 1 ?_; rintro a64 k65 rfl
 refine Fb 8 1 fun _ => ?_
 refine Oq Vm (Oq Vx (Oq Vx (Oa (Al ze39 [vi 0, .slice none 0 0]) fun p67 => Ost (Scl [0] sh39 [vi rv60.1.Width, vl a64 k65 rv60.1.Words]) (Oq Va (KS ?_)))))
 refine Oq Vm (Oq Vneq (KS ?_))
 refine Kc ?_ ?_
 ·intro h68
  have g69 := ne_of_bne h68
  refine KS ?_
  refine Oq Vm (Oq (Vn 3) (Oq (Vfa fo103_2 3) (Ost (SclF [3] sh4 [vl rda0 rdk0 rd.bytes, vi rd1_18, vb true]) (KS ?_))))
  refine Oq (VldA sh39 1) (Ost (Scl [4] sh39 [vi rv60.1.Width, vl a64 k65 rv60.1.Words]) (KS ?_))
  refine Jl [4] (Ent.freeze _ _) ?_
  have hq := q4 hrr (rv60.1, (GReader.mk rd.bytes rd1_18 true)) (by simp only [Reader_Set, h38, h68, hg4, hg11, hR58, hg61, cs4]); subst hq
  exact Kr (vl a64 k65 rv60.1.Words) rfl (.cellN 1 rfl sh39 rfl (reads_Cl _ _) rfl .nil) [0, 2] en
 intro h68
 have g70 := eq_of_bne_false h68
 refine KS ?_
 refine Oq (VldA sh39 0) (Ost (Scl [4] sh39 [vi rv60.1.Width, vl a64 k65 rv60.1.Words]) (KS ?_))
 refine Jl [3] (Ent.freeze _ _) ?_
 have hq := q4 hrr (rv60.1, (GReader.mk rd.bytes rd1_18 rd2_19)) (by simp only [Reader_Set, h38, h68, hg4, hg11, hR58, hg61, cs4]); subst hq
 exact Kr (vl a64 k65 rv60.1.Words) rfl (.cellN 1 rfl sh39 rfl (reads_Cl _ _) rfl .nil) [0, 4] en
theorem fn34 (rdP : Value) (rd : GReader) (rda0 : Option Addr) (rdk0 : Nat) (hrd_1 : i64ok rd.at_) (hr0 : 0 ≤ rd.at_ ∧ rd.at_ ≤ (rd.bytes.length : Int)) (hl0 : rd.bytes.length ≤ 2000000) (rr : GState × GReader) (hrr : resume_Read rd = rr) : FT Tryz.prog 34 #[rdP] [Cl rdP [vl rda0 rdk0 rd.bytes, vi rd.at_, vb rd.Bad], S rda0 rdk0 rd.bytes] (fun g : Value × Value × Value × Value => i64ok rr.1.Phase ∧ i64ok rr.1.At ∧ i64ok rr.1.Edge ∧ i64ok rr.1.Steps ∧ i64ok rr.2.at_ ∧ (0 ≤ rr.2.at_ ∧ rr.2.at_ ≤ (rd.bytes.length : Int))) (fun g => .agg #[vi rr.1.Phase, g.1, g.2.1, vi rr.1.At, vi rr.1.Edge, g.2.2.1, g.2.2.2, vi rr.1.Steps]) (fun g => [sl g.1 rr.1.Cone, sl g.2.1 rr.1.Leaf, sl g.2.2.1 rr.1.Values, sl g.2.2.2 rr.1.Queue, Cl rdP [vl rda0 rdk0 rd.bytes, vi rr.2.at_, vb rr.2.Bad]]) := by
 refine FTi Tryz.func34 fun w0 M0 F0 => ?_
 unfold i64ok at hrd_1
 refine Fb 1 1 fun _ => KS ?_
 refine Oa (Al ze26 [vi 0, .slice none 0 0, .slice none 0 0, vi 0, vi 0, .slice none 0 0, .slice none 0 0, vi 0]) fun p2 => KS ?_
 refine Oq Vm ?_
 refine letv (Reader_Number rd 3) fun rv3 hg4 => ?_
 have hc5 := fn64 rdP rd rda0 rdk0 3 pre pre pre pre rv3 hg4
 refine Oc [1, 1] ca64 hc5 ?_
 rintro - ⟨he6, he7, he8, he9⟩
 unfold i64ok at he6 he7
 refine Oq Vm ?_
 refine letv (Reader_Numbers (GReader.mk rd.bytes rv3.2.at_ rv3.2.Bad) 1073741824) fun rv11 hg12 => ?_
 have hc13 := fn65 rdP (GReader.mk rd.bytes rv3.2.at_ rv3.2.Bad) rda0 rdk0 1073741824 pre pre pre pre pre rv11 hg12
 refine Oc [0, 1] ca65 hc13 ?_
 rintro c10 ⟨he14, he15, he16⟩
 unfold i64ok at he14
 have he16 : (0 ≤ rv11.2.at_ ∧ rv11.2.at_ ≤ (rd.bytes.length : Int)) := he16
 refine Jo 0 ?_; rintro a17 k18 rfl
 refine Fb 8 0 fun _ => Fo 0 fun ho20 => ?_
 refine Oq (Vbd st26 [vi rv3.1, vl a17 k18 rv11.1, .slice none 0 0, vi 0, vi 0, .slice none 0 0, .slice none 0 0, vi 0]) (Oa (Al ze26 [vi 0, .slice none 0 0, .slice none 0 0, vi 0, vi 0, .slice none 0 0, .slice none 0 0, vi 0]) fun p21 => Ost (Scl [0] sh26 [vi rv3.1, vl a17 k18 rv11.1, .slice none 0 0, vi 0, vi 0, .slice none 0 0, .slice none 0 0, vi 0]) (KS ?_))
 refine Oq (Vfa fo26_1 0) (Oq (VldF sh22 0) (Oq (Vlen sl22) (Oq Vm (KS ?_))))
 refine Jl [] (Ent.osNil (α := Bool)) ?_
 refine Kl (γ := Nat × Int × Bool × List Bool × Int × Option Addr × Nat) (fun (r22, rd1_23, rd2_24, st2_25, v12_26, a27, k28) => ⟨[(0, rdP), (2, p2), (3, p21), (11, vi (rv11.1.length : Int)), (12, vi v12_26)], [O a27 k28 st2_25, Cl p21 [vi rv3.1, vl a17 k18 rv11.1, vl a27 k28 st2_25, vi 0, vi 0, .slice none 0 0, .slice none 0 0, vi 0], S a17 k18 rv11.1, Cl rdP [vl rda0 rdk0 rd.bytes, vi rd1_23, vb rd2_24], Cl p2 [vi 0, .slice none 0 0, .slice none 0 0, vi 0, vi 0, .slice none 0 0, .slice none 0 0, vi 0], S rda0 rdk0 rd.bytes], resume_Read_L0 rd r22 rd1_23 rd2_24 st2_25 v12_26 = resume_Read_L0 rd (((rv11.1.length : Int) - 0).toNat) rv11.2.at_ rv11.2.Bad [] 0 ∧ r22 = ((rv11.1.length : Int) - v12_26).toNat ∧ (0 : Int) ≤ v12_26 ∧ v12_26 ≤ (rv11.1.length : Int) ∧ (-9223372036854775808 ≤ rd1_23 ∧ rd1_23 ≤ 9223372036854775807) ∧ (-9223372036854775808 ≤ v12_26 ∧ v12_26 ≤ 9223372036854775807) ∧ (0 ≤ rd1_23 ∧ rd1_23 ≤ (rd.bytes.length : Int)) ∧ ((st2_25.length : Int) ≤ v12_26), r22⟩) (((rv11.1.length : Int) - 0).toNat, rv11.2.at_, rv11.2.Bad, [], 0, none, 0) [0, 0, 0, 1, 1, 1] ⟨rfl, rfl, aM1, aM1, aM1, aM1, iv0, iv0⟩ ?_
 rintro ⟨r22, rd1_23, rd2_24, st2_25, v12_26, a27, k28⟩ ⟨hM29, hr30, hi31, hi32, hk33, hk34, hv35, hv36⟩
 refine JJ_nx fun _ _ hL hA => ?_; dsimp only at hL hA; subst hL hA
 refine Fb 1 0 fun _ => Fb 8 2 fun _ => Fo 2 fun ho39 => Fb 1 5 fun _ => KS ?_
 refine Oq Vlss (KS ?_)
 refine Kc ?_ ?_
 ·intro h41
  have g42 := dt h41
  obtain ⟨r43, rfl⟩ := scc (n := r22) aM1
  refine KS ?_
  refine Jp 1 fun hp44 => ?_
  refine JK_drawK [0, 1, 0, 4, 12, 31, 63, 127] fmix ?_
  refine Dv [0] (Vfa fo26_2 0) (Dv [2] (VldF sh23 0) (Dv [] Vm ?_))
  refine letv (Reader_Bool (GReader.mk rd.bytes rd1_23 rd2_24)) fun rv45 hg46 => ?_
  refine Dx [4, 6] [4] [2, 0, 1] (fun G => vb rv45.1) [fun G => SP.fact (i64ok rv45.2.at_ ∧ (0 ≤ rv45.2.at_ ∧ rv45.2.at_ ≤ ((GReader.mk rd.bytes rd1_23 rd2_24).bytes.length : Int))), fun G => Cl rdP [vl rda0 rdk0 rd.bytes, vi rv45.2.at_, vb rv45.2.Bad]] (fun G => xC [0, 0] ca66 (fn66 rdP (GReader.mk rd.bytes rd1_23 rd2_24) rda0 rdk0 pre pre rv45 hg46)) (Dx [] [] [0] (fun G => (G.g 4 0)) [fun G => Cr (G.g 4 0) 1 [vb rv45.1]] (fun G => xA (AsV sl23 sz23 [vb rv45.1] [vb rv45.1])) ?_)
  have hn49 := la st2_25 ([rv45.1] : List Bool)
  refine Dx [1, 7, 9] [1, 9] [1, 0] (fun G => (G.g 5 0)) [fun G => os (G.g 5 0) ((st2_25 ++ [rv45.1]) : List Bool)] (fun G => by refine xf 1 rfl ?_; rintro ⟨he50, he51⟩; unfold i64ok at he50; exact xp [2] rfl (Ent.cr1 (α := Bool) (A := []) _ rv45.1 _ aB1 (fun _ => rfl)) (xA (ApO [1, 0] sl23 sl23 sz23))) (Dv [0] (Vfa fo26_2 0) (Dx0 [2, 10] [2] [1, 0] [fun G => Cl p21 [vi rv3.1, vl a17 k18 rv11.1, (G.g 5 0), vi 0, vi 0, .slice none 0 0, .slice none 0 0, vi 0]] (fun G => x1 1 rfl os_one fun ho52 => (xS (OpS.frame [0] rfl (OpS.storeClF [(G.g 5 0)] [vi rv3.1, vl a17 k18 rv11.1, (G.g 5 0), vi 0, vi 0, .slice none 0 0, .slice none 0 0, vi 0] rfl rfl rfl sh23 (cells_of_one ho52) rfl (by simp only [List.all_cons, List.all_nil, ho52, Bool.and_true, Bool.true_and] <;> rfl) aB1 rfl)))) ?_))
  refine Dn ⟨by kernel_rfl, fun G => ?_⟩
  refine Jw2 [(0, rdP), (2, p2), (3, p21), (11, vi (rv11.1.length : Int)), (12, vi v12_26)] [0, 3, 5, 6] [SP.fact (i64ok rv45.2.at_ ∧ (0 ≤ rv45.2.at_ ∧ rv45.2.at_ ≤ ((GReader.mk rd.bytes rd1_23 rd2_24).bytes.length : Int))), Cl rdP [vl rda0 rdk0 rd.bytes, vi rv45.2.at_, vb rv45.2.Bad], os (G.g 5 0) ((st2_25 ++ [rv45.1]) : List Bool), Cl p21 [vi rv3.1, vl a17 k18 rv11.1, (G.g 5 0), vi 0, vi 0, .slice none 0 0, .slice none 0 0, vi 0]] ?_
  generalize G.g 5 0 = c48
  refine Jf 4 rfl ?_; rintro ⟨he53, he54⟩
  unfold i64ok at he53
  refine Jk [1, 2, 2, 4, 4, 4] ?_
  refine Jo 4 ?_; rintro a55 k56 rfl
  refine Fb 1 4 fun _ => KS ?_
  refine Oq Vadd (Oq Vm (KS ?_))
  exact Kg (r43, rv45.2.at_, rv45.2.Bad, (st2_25 ++ [rv45.1]), (v12_26 + 1), a55, k56) [4, 4, 0, 3, 1, 1] ⟨(q3 hM29 (by simp only [resume_Read_L0, h41, hg46, cs4])), aM1, aM1, aM1, aM1, aM1, iv1, iv1⟩
 intro h41
 have g58 := df h41
 obtain rfl : r22 = 0 := by omega
 refine Ke ?_
 have hR59 := q2 hM29 (rd1_23, rd2_24, st2_25) (by simp only [resume_Read_L0, h41, cs4])
 refine KS ?_
 refine Oq Vm ?_
 refine letv (Reader_Number (GReader.mk rd.bytes rd1_23 rd2_24) 1073741824) fun rv60 hg61 => ?_
 have hc62 := fn64 rdP (GReader.mk rd.bytes rd1_23 rd2_24) rda0 rdk0 1073741824 pre pre pre pre rv60 hg61
 refine Oc [3, 4] ca64 hc62 ?_
 rintro - ⟨he63, he64, he65, he66⟩
 unfold i64ok at he63 he64
 have he66 : (0 ≤ rv60.2.at_ ∧ rv60.2.at_ ≤ (rd.bytes.length : Int)) := he66
 refine Oq Vm ?_
 refine letv (Reader_Number (GReader.mk rd.bytes rv60.2.at_ rv60.2.Bad) 1073741824) fun rv67 hg68 => ?_
 have hc69 := fn64 rdP (GReader.mk rd.bytes rv60.2.at_ rv60.2.Bad) rda0 rdk0 1073741824 pre pre pre pre rv67 hg68
 refine Oc [0, 4] ca64 hc69 ?_
 rintro - ⟨he70, he71, he72, he73⟩
 unfold i64ok at he70 he71
 have he73 : (0 ≤ rv67.2.at_ ∧ rv67.2.at_ ≤ (rd.bytes.length : Int)) := he73
 refine Oq (Vfa fo26_3 2) (Ost (SclF [2] sh3 [vi rv3.1, vl a17 k18 rv11.1, vl a27 k28 st2_25, vi rv60.1, vi 0, .slice none 0 0, .slice none 0 0, vi 0]) (Oq (Vfa fo26_4 0) (Ost (SclF [0] sh3 [vi rv3.1, vl a17 k18 rv11.1, vl a27 k28 st2_25, vi rv60.1, vi rv67.1, .slice none 0 0, .slice none 0 0, vi 0]) (KS ?_))))
 refine Oq Vm ?_
 refine letv (Reader_Number (GReader.mk rd.bytes rv67.2.at_ rv67.2.Bad) 256) fun rv74 hg75 => ?_
 have hc76 := fn64 rdP (GReader.mk rd.bytes rv67.2.at_ rv67.2.Bad) rda0 rdk0 256 pre pre pre pre rv74 hg75
 refine Oc [1, 4] ca64 hc76 ?_
 rintro - ⟨he77, he78, he79, he80⟩
 unfold i64ok at he77 he78
 have he80 : (0 ≤ rv74.2.at_ ∧ rv74.2.at_ ≤ (rd.bytes.length : Int)) := he80
 refine Oq Vm (KS ?_)
 refine Jl [] (Ent.osNil (α := GSet)) ?_
 refine Kl (γ := Nat × Int × Bool × List GSet × Int × Option Addr × Nat) (fun (r81, rd1_82, rd2_83, st5_84, v30_85, a86, k87) => ⟨[(0, rdP), (2, p2), (3, p21), (29, vi rv74.1), (30, vi v30_85)], [O a86 k87 st5_84, Cl rdP [vl rda0 rdk0 rd.bytes, vi rd1_82, vb rd2_83], Cl p21 [vi rv3.1, vl a17 k18 rv11.1, vl a27 k28 st2_25, vi rv60.1, vi rv67.1, vl a86 k87 st5_84, .slice none 0 0, vi 0], O a27 k28 st2_25, S a17 k18 rv11.1, Cl p2 [vi 0, .slice none 0 0, .slice none 0 0, vi 0, vi 0, .slice none 0 0, .slice none 0 0, vi 0], S rda0 rdk0 rd.bytes], resume_Read_L1 rd r81 rd1_82 rd2_83 st5_84 v30_85 = resume_Read_L1 rd (((rv74.1 : Int) - 0).toNat) rv74.2.at_ rv74.2.Bad [] 0 ∧ r81 = ((rv74.1 : Int) - v30_85).toNat ∧ (0 : Int) ≤ v30_85 ∧ (v30_85 ≤ rv74.1 ∨ v30_85 = 0) ∧ (-9223372036854775808 ≤ rd1_82 ∧ rd1_82 ≤ 9223372036854775807) ∧ (-9223372036854775808 ≤ v30_85 ∧ v30_85 ≤ 9223372036854775807) ∧ (0 ≤ rd1_82 ∧ rd1_82 ≤ (rd.bytes.length : Int)) ∧ ((st5_84.length : Int) ≤ v30_85), r81⟩) (((rv74.1 : Int) - 0).toNat, rv74.2.at_, rv74.2.Bad, [], 0, none, 0) [0, 0, 0, 0, 0, 1, 1] ⟨rfl, rfl, aM1, (.inr rfl), aM1, aM1, iv0, iv0⟩ ?_
 rintro ⟨r81, rd1_82, rd2_83, st5_84, v30_85, a86, k87⟩ ⟨hM88, hr89, hi90, hi91, hk92, hk93, hv94, hv95⟩
 refine JJ_nx fun _ _ hL hA => ?_; dsimp only at hL hA; subst hL hA
 refine Fb 32 0 fun _ => Fb 1 3 fun _ => Fb 8 4 fun _ => Fo 4 fun ho99 => Fb 1 6 fun _ => KS ?_
 refine Oq Vlss (KS ?_)
 refine Kc ?_ ?_
 ·intro h101
  have g102 := dt h101
  obtain ⟨r103, rfl⟩ := scc (n := r81) aM1
  refine KS ?_
  refine Jp 2 fun hp104 => ?_
  refine JK_drawK [0, 1, 0, 4, 12, 31, 63, 127] fmix ?_
  refine Dv [0] (Vfa fo26_5 0) (Dv [3] (VldF sh24 0) (Dv [] Vm ?_))
  refine letv (Reader_Set (GReader.mk rd.bytes rd1_82 rd2_83)) fun rv106 hg107 => ?_
  refine Dx [2, 7] [2] [3, 0, 1, 2] (fun G => .agg #[vi rv106.1.Width, (G.g 3 0)]) [fun G => SP.fact (i64ok rv106.1.Width ∧ i64ok rv106.2.at_ ∧ (0 ≤ rv106.2.at_ ∧ rv106.2.at_ ≤ ((GReader.mk rd.bytes rd1_82 rd2_83).bytes.length : Int))), fun G => sl (G.g 3 0) rv106.1.Words, fun G => Cl rdP [vl rda0 rdk0 rd.bytes, vi rv106.2.at_, vb rv106.2.Bad]] (fun G => xC [0, 0] ca67 (fn67 rdP (GReader.mk rd.bytes rd1_82 rd2_83) rda0 rdk0 pre pre rv106 hg107)) (Dx [] [] [0] (fun G => (G.g 4 0)) [fun G => Cr (G.g 4 0) 1 [vi rv106.1.Width, (G.g 3 0)]] (fun G => xA (AsV sl24 sz24 [.agg #[vi rv106.1.Width, (G.g 3 0)]] [vi rv106.1.Width, (G.g 3 0)])) ?_)
  have hn110 := la st5_84 ([rv106.1] : List GSet)
  refine Dx [1, 8, 9, 11] [1, 11] [2, 1, 0] (fun G => (G.g 5 0)) [fun G => os (G.g 5 0) ((st5_84 ++ [rv106.1]) : List GSet)] (fun G => by refine xf 1 rfl ?_; rintro ⟨he111, he112, he113⟩; unfold i64ok at he111 he112; exact xp [3, 2] rfl (Ent.cr1 (α := GSet) (A := [sl (G.g 3 0) rv106.1.Words]) _ rv106.1 _ aB1 (fun h => ⟨_, rfl, aL1, sepAll_get (i := 0) rfl h⟩)) (xA (ApO [2, 0] sl24 sl24 sz24))) (Dv [0] (Vfa fo26_5 0) (Dx0 [3, 12] [3] [1, 0] [fun G => Cl p21 [vi rv3.1, vl a17 k18 rv11.1, vl a27 k28 st2_25, vi rv60.1, vi rv67.1, (G.g 5 0), .slice none 0 0, vi 0]] (fun G => x1 1 rfl os_one fun ho114 => (xS (OpS.frame [0] rfl (OpS.storeClF [(G.g 5 0)] [vi rv3.1, vl a17 k18 rv11.1, vl a27 k28 st2_25, vi rv60.1, vi rv67.1, (G.g 5 0), .slice none 0 0, vi 0] rfl rfl rfl sh24 (cells_of_one ho114) rfl (by simp only [List.all_cons, List.all_nil, ho114, Bool.and_true, Bool.true_and] <;> rfl) aB1 rfl)))) ?_))
  refine Dn ⟨by kernel_rfl, fun G => ?_⟩
  refine Jw2 [(0, rdP), (2, p2), (3, p21), (29, vi rv74.1), (30, vi v30_85)] [0, 4, 5, 6, 7] [SP.fact (i64ok rv106.1.Width ∧ i64ok rv106.2.at_ ∧ (0 ≤ rv106.2.at_ ∧ rv106.2.at_ ≤ ((GReader.mk rd.bytes rd1_82 rd2_83).bytes.length : Int))), sl (G.g 3 0) rv106.1.Words, Cl rdP [vl rda0 rdk0 rd.bytes, vi rv106.2.at_, vb rv106.2.Bad], os (G.g 5 0) ((st5_84 ++ [rv106.1]) : List GSet), Cl p21 [vi rv3.1, vl a17 k18 rv11.1, vl a27 k28 st2_25, vi rv60.1, vi rv67.1, (G.g 5 0), .slice none 0 0, vi 0]] ?_
  generalize G.g 3 0 = c105, G.g 5 0 = c109
  refine Jf 5 rfl ?_; rintro ⟨he115, he116, he117⟩
  unfold i64ok at he115 he116
  refine Jk [1, 1, 2, 2, 4, 5, 5, 5] ?_
  refine Jo 4 ?_; rintro a118 k119 rfl
  refine Fb 8 4 fun _ => ?_
  refine Jo 6 ?_; rintro a121 k122 rfl
  refine Fb 32 6 fun _ => KS ?_
  refine Oq Vadd (Oq Vm (KS ?_))
  exact Kg (r103, rv106.2.at_, rv106.2.Bad, (st5_84 ++ [rv106.1]), (v30_85 + 1), a121, k122) [6, 5, 5, 0, 0, 1, 1] ⟨(q3 hM88 (by simp only [resume_Read_L1, h101, hg107, cs4])), aM1, aM1, aM1, aM1, aM1, iv1, iv1⟩
 intro h101
 have g124 := df h101
 obtain rfl : r81 = 0 := by omega
 refine Ke ?_
 have hR125 := q2 hM88 (rd1_82, rd2_83, st5_84) (by simp only [resume_Read_L1, h101, cs4])
 refine KS ?_
 refine Oq Vm ?_
 refine letv (Reader_Numbers (GReader.mk rd.bytes rd1_82 rd2_83) 1073741824) fun rv127 hg128 => ?_
 have hc129 := fn65 rdP (GReader.mk rd.bytes rd1_82 rd2_83) rda0 rdk0 1073741824 pre pre pre pre pre rv127 hg128
 refine Oc [1, 5] ca65 hc129 ?_
 rintro c126 ⟨he130, he131, he132⟩
 unfold i64ok at he130
 have he132 : (0 ≤ rv127.2.at_ ∧ rv127.2.at_ ≤ (rd.bytes.length : Int)) := he132
 refine Jo 0 ?_; rintro a133 k134 rfl
 refine Fb 8 0 fun _ => Fo 0 fun ho136 => Oq Vm ?_
 refine letv (Reader_Number (GReader.mk rd.bytes rv127.2.at_ rv127.2.Bad) 1073741824) fun rv137 hg138 => ?_
 have hc139 := fn64 rdP (GReader.mk rd.bytes rv127.2.at_ rv127.2.Bad) rda0 rdk0 1073741824 pre pre pre pre rv137 hg138
 refine Oc [1, 6] ca64 hc139 ?_
 rintro - ⟨he140, he141, he142, he143⟩
 unfold i64ok at he140 he141
 have he143 : (0 ≤ rv137.2.at_ ∧ rv137.2.at_ ≤ (rd.bytes.length : Int)) := he143
 refine Oq (Vfa fo26_6 3) (Ost (SclF [3] sh22 [vi rv3.1, vl a17 k18 rv11.1, vl a27 k28 st2_25, vi rv60.1, vi rv67.1, vl a86 k87 st5_84, vl a133 k134 rv127.1, vi 0]) (Oq (Vfa fo26_7 0) (Ost (SclF [0] sh3 [vi rv3.1, vl a17 k18 rv11.1, vl a27 k28 st2_25, vi rv60.1, vi rv67.1, vl a86 k87 st5_84, vl a133 k134 rv127.1, vi rv137.1]) (KS ?_))))
 refine Oq (VldA sh26 0) ?_
 refine Jl [3] (Ent.freeze _ _) ?_
 refine letv (resume_encodable (GState.mk rv3.1 rv11.1 st2_25 rv60.1 rv67.1 st5_84 rv127.1 rv137.1)) fun rv144 hg145 => ?_
 refine Oc [4, 4, 0, 3] ca44 (FT_borrow (A := _) (fun _ _ h => by cases h) (FT_ent (Ent.take (is := [1, 0, 2, 3]) rfl) (fn44 ((GState.mk rv3.1 rv11.1 st2_25 rv60.1 rv67.1 st5_84 rv127.1 rv137.1)) a17 k18 a27 k28 a86 k87 a133 k134 pre pre pre pre rv144 hg145))) ?_ (ht := rfl)
 rintro - -
 refine Oq Vnot (KS ?_)
 refine Kc ?_ ?_
 ·intro h146
  have h148 := not_true h146
  refine KS ?_
  refine Oq Vm (Oq (Vn 3) (Oq (Vfa fo103_2 3) (Ost (SclF [3] sh4 [vl rda0 rdk0 rd.bytes, vi rv137.2.at_, vb true]) (KS ?_))))
  refine Oq (VldA sh26 3) (Ost (Scl [6] sh26 [vi rv3.1, vl a17 k18 rv11.1, vl a27 k28 st2_25, vi rv60.1, vi rv67.1, vl a86 k87 st5_84, vl a133 k134 rv127.1, vi rv137.1]) (KS ?_))
  refine Jl [2] (Ent.freeze _ _) ?_
  have hq := q4 hrr ((GState.mk rv3.1 rv11.1 st2_25 rv60.1 rv67.1 st5_84 rv127.1 rv137.1), (GReader.mk rd.bytes rv137.2.at_ true)) (by simp only [resume_Read, h41, h101, h146, h148, hg4, hg12, hR59, hg61, hg68, hg75, hR125, hg128, hg138, hg145, cs4]); subst hq
  exact Kr (vl a17 k18 rv11.1, vl a27 k28 st2_25, vl a86 k87 st5_84, vl a133 k134 rv127.1) rfl (.cellN 1 rfl sh26 rfl (reads_Cl _ _) rfl .nil) [6, 0, 3, 5, 2] en
 intro h146
 have h151 := not_false h146
 refine KS ?_
 refine Oq (VldA sh26 2) (Ost (Scl [6] sh26 [vi rv3.1, vl a17 k18 rv11.1, vl a27 k28 st2_25, vi rv60.1, vi rv67.1, vl a86 k87 st5_84, vl a133 k134 rv127.1, vi rv137.1]) (KS ?_))
 refine Jl [1] (Ent.freeze _ _) ?_
 have hq := q4 hrr ((GState.mk rv3.1 rv11.1 st2_25 rv60.1 rv67.1 st5_84 rv127.1 rv137.1), (GReader.mk rd.bytes rv137.2.at_ rv137.2.Bad)) (by simp only [resume_Read, h41, h101, h146, h151, hg4, hg12, hR59, hg61, hg68, hg75, hR125, hg128, hg138, hg145, cs4]); subst hq
 exact Kr (vl a17 k18 rv11.1, vl a27 k28 st2_25, vl a86 k87 st5_84, vl a133 k134 rv127.1) rfl (.cellN 1 rfl sh26 rfl (reads_Cl _ _) rfl .nil) [6, 0, 2, 5, 4] en
theorem fn35 (rdP : Value) (rd : GReader) (rda0 : Option Addr) (rdk0 : Nat) (hrd_1 : i64ok rd.at_) (rr : Bool) (hrr : Reader_Done rd = rr) : FT Tryz.prog 35 #[rdP] [Cl rdP [vl rda0 rdk0 rd.bytes, vi rd.at_, vb rd.Bad], S rda0 rdk0 rd.bytes] (fun g : Unit => True) (fun g => vb rr) (fun g => [Cl rdP [vl rda0 rdk0 rd.bytes, vi rd.at_, vb rd.Bad]]) := by
 refine FTi Tryz.func35 fun w0 M0 F0 => ?_
 unfold i64ok at hrd_1
 refine Fb 1 1 fun _ => KS ?_
 refine Oq Va (KS ?_)
 refine Jp 0 fun hp2 => ?_
 refine Kq [0, 1, 3, 7, 15, 31, 63, 127, 255, 511, 63, 1087, 3135, 7231, 15423, 32767, 65535, 131071] fmix ?_
 refine Qv [] Vm (Qv [0] (Vn 0) (Qv [0] (Vfa fo103_2 0) (Qv [1] (VldF sh4 0) (Qv [] Vnot ?_))))
 refine bool_split (!rd.Bad) ?_ ?_
 ·intro h3
  have h5 := not_true h3
  refine Qb h3 [] Vm (Qv [] Vm (Qv [0] (Vn 0) (Qv [0] (Vfa fo103_1 0) (Qv [1] (VldF sh3 0) (Qv [] Vm (Qv [0] (Vn 0) (Qv [0] (Vfa fo103_0 0) (Qv [1] (VldF sh44 0) (Qv [] (Vlen sl44) ?_)))))))))
  refine Qv [] Veql (Qv [] Vpt (Qv [] Va ?_))
  refine Qn ⟨by kernel_rfl, ?_⟩
  have hq := q4 hrr (rd.at_ == (rd.bytes.length : Int)) (by simp only [Reader_Done, h3, h5, cs4]); subst hq
  exact Kr () rfl (.tmp rfl .nil) [1] trivial
 intro h3
 have h8 := not_false h3
 refine Qb h3 [] Vm (Qs (Qs (Qs (Qs (Qs (Qs (Qs (Qs (Qs ?_)))))))))
 refine Qs (Qv [] Vpf (Qv [] Va ?_))
 refine Qn ⟨by kernel_rfl, ?_⟩
 have hq := q4 hrr false (by simp only [Reader_Done, h3, h8, cs4]); subst hq
 exact Kr () rfl (.tmp rfl .nil) [1] trivial
end Go.SL.G
