/- Part 3 of the walks: mirrors, plain laws and walks used by the last text of this claim. -/
import Derived.Test.YtfoejhjfcegngaaGreatW2
import Derived.Test.YtfoejhjfcegngaaGreatProg
set_option linter.unusedVariables false
set_option linter.unusedSimpArgs false
namespace Go.SL.G
open Go Go.SL Go.Proofs
set_option maxHeartbeats 20000000
set_option maxRecDepth 100000
theorem distinct_L0 {l : List Int} {n : Int} : ∀ (m : Nat) (seen : List Bool) (i : Int), 0 ≤ i → i + m = (l.length : Int) → okFound n (l.take i.toNat) seen →
  (solver_distinct_L0 l n m seen i = .brk () ∧ okOut n l) ∨ (solver_distinct_L0 l n m seen i = .ret false ∧ ¬ okOut n l)
 | 0, seen, i, h0, h1, h => .inl ⟨rfl, by have := h.1; rwa [List.take_of_length_le (by omega)] at this⟩
 | m + 1, seen, i, h0, h1, h => by
  rw [solver_distinct_L0]
  have hm := getD_mem (xs := l) (i := i.toNat) (d := 0) (by omega)
  by_cases a : l.getD i.toNat 0 < 0
  ·rw [decide_eq_true a]
   exact .inr ⟨rfl, fun ho => by have := ho.2 _ hm; omega⟩
  ·by_cases b : n ≤ l.getD i.toNat 0
   ·rw [decide_eq_false a, decide_eq_true b]
    exact .inr ⟨rfl, fun ho => by have := ho.2 _ hm; omega⟩
   ·simp only [decide_eq_false a, decide_eq_false b, cond_false]
    cases hs : seen.getD (l.getD i.toNat 0).toNat false with
    | true =>
     refine .inr ⟨rfl, fun ho => ?_⟩
     have h3 := (h.2.2 _ (by omega) (by omega)).1 hs
     have h4 := (okOut_take ho (i + 1).toNat).1
     rw [take_succ_getD h0 (by omega), List.nodup_append] at h4
     exact h4.2.2 _ h3 _ (by simp) rfl
    | false =>
     have h5 := okFound_push h hs (by omega) (by omega)
     rw [← take_succ_getD h0 (by omega)] at h5
     exact distinct_L0 m _ (i + 1) (by omega) (by omega) h5
theorem distinct_iff {l : List Int} {n : Int} (hn : 0 ≤ n) : solver_distinct l n = true ↔ okOut n l := by
 have h0 : okFound n (l.take (0 : Int).toNat) (List.replicate n.toNat false) := by
  refine ⟨⟨by simp, by simp⟩, by simp; omega, fun x x0 x1 => ?_⟩
  simp [List.getElem?_replicate]
  split <;> rfl
 unfold solver_distinct
 rw [show ((((l.length : Nat) : Int) : Int) - 0).toNat = l.length by omega]
 rcases distinct_L0 l.length _ 0 (by omega) (by omega) h0 with ⟨e, h⟩ | ⟨e, h⟩
 ·rw [e]; exact ⟨fun _ => h, fun _ => rfl⟩
 ·rw [e]; exact ⟨fun h => (by cases h), fun h' => absurd h' h⟩
theorem distinct_mem {l : List Int} {n : Int} (h : solver_distinct l n = true) (hn : 0 ≤ n := by omega) : ∀ x ∈ l, 0 ≤ x ∧ x < n := ((distinct_iff hn).1 h).2
theorem distinct_len {l : List Int} {n : Int} (h : solver_distinct l n = true) (hn : 0 ≤ n := by omega) : (l.length : Int) ≤ n := okOut_len ((distinct_iff hn).1 h) hn
theorem distinct_eq {l : List Int} {n : Int} (hn : 0 ≤ n) : solver_distinct l n = (!flqref14_repeated l && decide (∀ x ∈ l, 0 ≤ x ∧ x < n)) := by
 rw [Bool.eq_iff_iff, distinct_iff hn, Bool.and_eq_true, decide_eq_true_eq, Bool.not_eq_true', repeated_iff]
 rfl
theorem pfind_L0 (k : List GKnown) (n : Int) : ∀ (m : Nat) (i : Int), 0 ≤ i → i + m = (k.length : Int) → (slices_IndexFunc_Known_L0 k (fun x => solver_find_1 x n) m i = .brk () ∧ kfind (k.drop i.toNat) n i = -1) ∨ (slices_IndexFunc_Known_L0 k (fun x => solver_find_1 x n) m i = .ret (kfind (k.drop i.toNat) n i))
 | 0, i, h0, h1 => by
  left
  have : k.drop i.toNat = [] := List.drop_eq_nil_of_le (by omega)
  rw [this]; exact ⟨rfl, rfl⟩
 | m + 1, i, h0, h1 => by
  rw [slices_IndexFunc_Known_L0]
  have hl : i.toNat < k.length := by omega
  have hd : k.drop i.toNat = k.getD i.toNat default :: k.drop (i + 1).toNat := by
   rw [List.drop_eq_getElem_cons hl, show (i + 1).toNat = i.toNat + 1 by omega]
   simp [List.getD, List.getElem?_eq_getElem hl]
  rw [hd, kfind]
  unfold solver_find_1
  by_cases he : (k.getD i.toNat default).Node = n
  ·right
   rw [if_pos he]
   simp only [he, beq_self_eq_true, cond_true]
  ·rw [if_neg he]
   have : ((k.getD i.toNat default).Node == n) = false := by rw [beq_eq_false_iff_ne]; exact he
   simp only [this, cond_false]
   exact pfind_L0 k n m (i + 1) (by omega) (by omega)
theorem pfind_eq (k : List GKnown) (n : Int) : solver_find k n = kfind k n 0 := by
 have h := pfind_L0 k n k.length 0 (by omega) (by omega)
 unfold solver_find slices_IndexFunc_Known
 rw [show ((((k.length : Nat) : Int) : Int) - 0).toNat = k.length by omega]
 simp only [Int.toNat_zero, List.drop_zero] at h
 rcases h with ⟨h, h2⟩ | h
 ·rw [h, h2]
 ·rw [h]
def pdb (s : GSystem) (k : List GKnown) (st : GState) (i : Int) : Bool := !(st.Leaf.getD i.toNat false == (decide (i < st.At) && decide (0 ≤ kfind k (cN st i) 0))) || fCF (dl s st i) (fun x => sDg_1 x st)
theorem demanding_1_any (s : GSystem) (st : GState) (l : List Int) : fCF l (fun x => sDg_1 x st) = false ↔ ∀ y ∈ l, y ∈ st.Cone := by
 have h := IndexFunc_any l (fun x => sDg_1 x st)
 constructor
 ·intro hh y hy
  cases hc : slices_Contains_int st.Cone y with
  | true => exact (Contains_iff _ _).1 hc
  | false => rw [h.2 ⟨y, hy, by unfold sDg_1; simp only [hc]; rfl⟩] at hh; cases hh
 ·intro hh
  cases hc : fCF l (fun x => sDg_1 x st) with
  | false => rfl
  | true =>
   obtain ⟨y, hy, e⟩ := h.1 hc
   unfold sDg_1 at e
   simp only [(Contains_iff _ _).2 (hh y hy)] at e; cases e
theorem pdb_false {s : GSystem} {k : List GKnown} {st : GState} {i : Int} : pdb s k st i = false ↔ st.Leaf.getD i.toNat false = (decide (i < st.At) && decide (0 ≤ kfind k (cN st i) 0)) ∧ ∀ y ∈ dl s st i, y ∈ st.Cone := by
 unfold pdb
 rw [Bool.or_eq_false_iff, demanding_1_any s]
 simp
theorem demanding_scan (s : GSystem) (k : List GKnown) (st : GState) (r : Nat) (i : Int) : sDg_L0 s k st (r + 1) i = bif pdb s k st i then .ret false else sDg_L0 s k st r (i + 1) := by
 rw [sDg_L0]
 simp only [pfind_eq]
 unfold pdb dl dN cN
 all_goals (cases decide (i < st.At) <;> cases (i == st.At) <;> cases decide (st.At < i) <;> cases st.Leaf.getD i.toNat false <;> cases decide (0 ≤ kfind k (st.Cone.getD i.toNat 0) 0) <;> rfl)
theorem demanding_iff (s : GSystem) (k : List GKnown) (st : GState) : sDg s k st = true ↔ Dem s k st := by
 have sc := scan (fun r i => sDg_L0 s k st r i) (pdb s k st) false () (fun _ => rfl) (demanding_scan s k st) ((((((st.Cone.length : Nat) : Int) : Int) - 0).toNat)) 0
 have key : (sDg_L0 s k st ((((((st.Cone.length : Nat) : Int) : Int) - 0).toNat)) 0 = .ret false ∧ ¬ ∀ i : Int, 0 ≤ i → i < (st.Cone.length : Int) → pdb s k st i = false) ∨ (sDg_L0 s k st ((((((st.Cone.length : Nat) : Int) : Int) - 0).toNat)) 0 = .brk () ∧ ∀ i : Int, 0 ≤ i → i < (st.Cone.length : Int) → pdb s k st i = false) := by
  rcases sc with ⟨e, j, j1, j2, j3⟩ | ⟨e, h⟩
  ·refine .inl ⟨e, fun h => ?_⟩
   rw [h j j1 (by omega)] at j3; cases j3
  ·exact .inr ⟨e, fun i i0 i1 => h i i0 (by omega)⟩
 unfold sDg sDg_J0
 simp only [pfind_eq]
 by_cases h1 : st.At < 0
 ·simp only [decide_eq_true h1, cond_true]; exact ⟨fun h => (by cases h), fun h => by have := h.at_; omega⟩
 by_cases h2 : (st.Cone.length : Int) ≤ st.At
 ·simp only [decide_eq_false h1, decide_eq_true h2, cond_true, cond_false]; exact ⟨fun h => (by cases h), fun h => by have := h.at_; omega⟩
 by_cases h3 : 0 < (st.Values.length : Int)
 ·simp only [decide_eq_false h1, decide_eq_false h2, decide_eq_true h3, cond_true, cond_false]; exact ⟨fun h => (by cases h), fun h => by have := h.vl; omega⟩
 by_cases h4 : 0 < (st.Queue.length : Int)
 ·simp only [decide_eq_false h1, decide_eq_false h2, decide_eq_false h3, decide_eq_true h4, cond_true, cond_false]; exact ⟨fun h => (by cases h), fun h => by have := h.ql; omega⟩
 by_cases h5 : st.Edge < 0
 ·simp only [decide_eq_false h1, decide_eq_false h2, decide_eq_false h3, decide_eq_false h4, decide_eq_true h5, cond_true, cond_false]; exact ⟨fun h => (by cases h), fun h => by have := h.ed; omega⟩
 by_cases h6 : ((s.Deps.getD (st.Cone.getD st.At.toNat 0).toNat []).length : Int) < st.Edge
 ·simp only [decide_eq_false h1, decide_eq_false h2, decide_eq_false h3, decide_eq_false h4, decide_eq_false h5, decide_eq_true h6, cond_true, cond_false]; exact ⟨fun h => (by cases h), fun h => by have := h.ed; unfold dN cN at this; omega⟩
 simp only [decide_eq_false h1, decide_eq_false h2, decide_eq_false h3, decide_eq_false h4, decide_eq_false h5, decide_eq_false h6, cond_false]
 have all : (0 < st.Edge → kfind k (cN st st.At) 0 < 0) → ((∀ i : Int, 0 ≤ i → i < (st.Cone.length : Int) → pdb s k st i = false) ↔ Dem s k st) := fun hek => by
  constructor
  ·intro h
   exact ⟨by omega, by omega, by omega, by unfold dN cN; omega, hek, fun i i0 i1 => (pdb_false.1 (h i i0 i1)).1, fun i i0 i1 => (pdb_false.1 (h i i0 i1)).2⟩
  ·intro h i i0 i1
   exact pdb_false.2 ⟨h.lf i i0 i1, h.cl i i0 i1⟩
 rcases key with ⟨e, hk⟩ | ⟨e, hk⟩
 ·rw [e]
  by_cases h7 : 0 < st.Edge
  ·simp only [decide_eq_true h7, cond_true]
   by_cases h8 : 0 ≤ kfind k (st.Cone.getD st.At.toNat 0) 0
   ·simp only [decide_eq_true h8, cond_true]; exact ⟨fun h => (by cases h), fun h => by have := h.ek h7; unfold cN at this; omega⟩
   ·simp only [decide_eq_false h8, cond_false]; exact ⟨fun h => (by cases h), fun h => absurd ((all h.ek).2 h) hk⟩
  ·simp only [decide_eq_false h7, cond_false]; exact ⟨fun h => (by cases h), fun h => absurd ((all h.ek).2 h) hk⟩
 ·rw [e]
  by_cases h7 : 0 < st.Edge
  ·simp only [decide_eq_true h7, cond_true]
   by_cases h8 : 0 ≤ kfind k (st.Cone.getD st.At.toNat 0) 0
   ·simp only [decide_eq_true h8, cond_true]; exact ⟨fun h => (by cases h), fun h => by have := h.ek h7; unfold cN at this; omega⟩
   ·simp only [decide_eq_false h8, cond_false]; exact ⟨fun _ => (all (fun _ => by unfold cN; omega)).1 hk, fun _ => by trivial⟩
  ·simp only [decide_eq_false h7, cond_false]; exact ⟨fun _ => (all (fun h => absurd h h7)).1 hk, fun _ => by trivial⟩
theorem solving_L0_eq (s : GSystem) (k : List GKnown) (st : GState) : ∀ (m : Nat) (l : List Int) (i : Int), solver_solving_L0 s k st m l i = fVS_L0 s k st m l i
 | 0, l, i => rfl
 | m + 1, l, i => by
  rw [solver_solving_L0, fVS_L0]
  simp only [setValid_eq, pfind_eq, rfind_eq, solving_L0_eq s k st m]
theorem solving_eq {s : GSystem} (hv : VSys s) (k : List GKnown) (st : GState) (hl : st.Leaf.length = st.Cone.length) (hr : ∀ x ∈ st.Cone, 0 ≤ x ∧ x < (s.Deps.length : Int)) : solver_solving s k st = fVS s k st := by
 unfold solver_solving fVS
 have hb := solving_brk s k st hl hr st.Cone.length [] 0
 have hq := queue_L1 st st.Queue.length 0 (by omega) (by omega)
 rw [queue_range] at hq
 simp only [solving_L0_eq, distinct_eq (show (0 : Int) ≤ (st.Cone.length : Int) by omega)]
 simp only [show (((((st.Cone.length : Nat) : Int) : Int) - 0).toNat) = st.Cone.length by omega, show (((((st.Queue.length : Nat) : Int) : Int) - 0).toNat) = st.Queue.length by omega]
 cases (st.At != 0) with
 | true => rfl
 | false =>
  cases (st.Edge != 0) with
  | true => rfl
  | false =>
   cases ((st.Values.length : Int) != (st.Cone.length : Int)) with
   | true => rfl
   | false =>
    cases flqref14_repeated st.Queue with
    | true => cases ((st.Queue.length : Int) == 0) <;> cases (st.Phase == 3) <;> rfl
    | false =>
     rcases hq with ⟨e, h⟩ | ⟨e, h⟩
     ·rw [decide_eq_true h]
      cases hE : fVS_L0 s k st st.Cone.length [] 0 with
      | oof => cases ((st.Queue.length : Int) == 0) <;> cases (st.Phase == 3) <;> rfl
      | ret r => cases ((st.Queue.length : Int) == 0) <;> cases (st.Phase == 3) <;> rfl
      | brk o =>
       have ho := hb o (by omega) (by omega) (by intro x hx; cases hx) hE
       simp only [e, closedRef_eq hv hr ho]
       all_goals (cases ((st.Queue.length : Int) == 0) <;> cases (st.Phase == 3) <;> rfl)
     ·rw [decide_eq_false h]
      cases hE : fVS_L0 s k st st.Cone.length [] 0 with
      | oof => cases ((st.Queue.length : Int) == 0) <;> cases (st.Phase == 3) <;> simp
      | ret r => have := solving_ret s k st _ _ _ _ hE; subst this; cases ((st.Queue.length : Int) == 0) <;> cases (st.Phase == 3) <;> rfl
      | brk o => simp only [e]; cases ((st.Queue.length : Int) == 0) <;> cases (st.Phase == 3) <;> rfl
theorem PV_args {s : GSystem} {k : List GKnown} {st : GState} (h : solver_Valid s k st = true) : solver_arguments s k = true ∧ solver_distinct st.Cone (s.Deps.length : Int) = true ∧ st.Leaf.length = st.Cone.length ∧ 1 ≤ st.Cone.length ∧ 0 ≤ st.Steps ∧ st.Steps ≤ 1073741824 := by
 unfold solver_Valid at h
 simp only [Bool.cond_eq_ite] at h
 repeat' split at h
 all_goals first | (cases h; done) | skip
 all_goals simp_all
 all_goals first | omega | (have := List.length_pos_iff.2 (by assumption : st.Cone ≠ []); omega)
theorem PV_steps {s : GSystem} {k : List GKnown} {st : GState} (h : solver_Valid s k st = true) : 0 ≤ st.Steps ∧ st.Steps ≤ 1073741824 := (PV_args h).2.2.2.2
theorem PV_cone {s : GSystem} {k : List GKnown} {st : GState} (h : solver_Valid s k st = true) : st.Cone.length ≤ 256 := by
 have a := PV_args h
 have v := arguments_V a.1
 have := distinct_len a.2.1 (by omega)
 have := v.n
 omega
theorem PValid8_iff (s : GSystem) (k : List GKnown) (st : GState) : solver_Valid s k st = true ↔ VStt s k st := by
 unfold solver_Valid
 simp only [arguments_eq]
 cases h1 : equations_Valid s with
 | false => exact ⟨fun h => (by cases h), fun h => by rw [(EValid_iff s).2 h.v] at h1; cases h1⟩
 | true =>
 have hv := (EValid_iff s).1 h1
 cases h2 : fVK s k with
 | false => exact ⟨fun h => (by cases h), fun h => by rw [h.kn] at h2; cases h2⟩
 | true =>
 simp only [Bool.and_true, Bool.not_true, cond_false]
 by_cases h3 : (st.Cone.length : Int) = 0
 ·rw [beqI h3]; exact ⟨fun h => (by cases h), fun h => by have := h.cn; omega⟩
 rw [bneI h3]
 cases h4 : solver_distinct st.Cone (s.Deps.length : Int) with
 | false => exact ⟨fun h => (by cases h), fun h => by rw [(distinct_iff (by omega)).2 h.co] at h4; cases h4⟩
 | true =>
 have hco := (distinct_iff (by omega)).1 h4
 by_cases h5 : (st.Leaf.length : Int) = (st.Cone.length : Int)
 case neg =>
  have : ((st.Leaf.length : Int) != (st.Cone.length : Int)) = true := by simp [h5]
  rw [this]; exact ⟨fun h => (by cases h), fun h => by have := h.lf; omega⟩
 have e5 : ((st.Leaf.length : Int) != (st.Cone.length : Int)) = false := by simp [h5]
 rw [e5]
 by_cases h6 : st.Steps < 0
 ·rw [decide_eq_true h6]; exact ⟨fun h => (by cases h), fun h => by have := h.sp; omega⟩
 rw [decide_eq_false h6]
 by_cases h7 : 1073741824 < st.Steps
 ·rw [decide_eq_true h7]; exact ⟨fun h => (by cases h), fun h => by have := h.sp; omega⟩
 rw [decide_eq_false h7]
 simp only [cond_false, Bool.not_true]
 rw [solving_eq hv k st (by omega) hco.2]
 by_cases p1 : st.Phase = 1
 ·rw [beqI p1]
  simp only [cond_true]
  rw [demanding_iff]
  exact ⟨fun h => ⟨hv, h2, by omega, hco, by omega, by omega, .inl ⟨p1, h⟩⟩, fun h => by rcases h.ph with ⟨_, h⟩ | ⟨h, _⟩; exact h; omega⟩
 ·rw [bneI p1]
  by_cases p2 : st.Phase = 2
  ·rw [beqI p2]
   simp only [cond_true, cond_false]
   exact ⟨fun h => ⟨hv, h2, by omega, hco, by omega, by omega, .inr ⟨.inl p2, h⟩⟩, fun h => by rcases h.ph with ⟨h, _⟩ | ⟨_, h⟩; omega; exact h⟩
  ·rw [bneI p2]
   by_cases p3 : st.Phase = 3
   ·rw [beqI p3]
    simp only [cond_true, cond_false]
    exact ⟨fun h => ⟨hv, h2, by omega, hco, by omega, by omega, .inr ⟨.inr p3, h⟩⟩, fun h => by rcases h.ph with ⟨h, _⟩ | ⟨_, h⟩; omega; exact h⟩
   ·rw [bneI p3]
    exact ⟨fun h => (by cases h), fun h => by have := h.ph; omega⟩
theorem Valid8_eq (s : GSystem) (k : List GKnown) (st : GState) : solver_Valid s k st = flqref14_Valid s k st := by rw [Bool.eq_iff_iff, PValid8_iff, RValid8_iff]
theorem PV_facts {s : GSystem} {k : List GKnown} {st : GState} (h : solver_Valid s k st = true) : VSys s ∧ (st.Phase = 1 → DOk s k st) ∧ (st.Phase = 2 → POk s st) ∧ (st.Phase = 1 ∨ st.Phase = 2 ∨ st.Phase = 3) := VStt_facts ((PValid8_iff s k st).1 h)
theorem clone_eq (s : GSet) : solver_clone s = s := rfl
theorem copied_L0 (st : GState) : ∀ (m : Nat) (o : List GSet) (i : Int), 0 ≤ i → i + m = (st.Values.length : Int) → solver_copied_L0 st m o i = o ++ st.Values.drop i.toNat
 | 0, o, i, h0, h1 => by
  rw [List.drop_eq_nil_of_le (by omega), List.append_nil]; rfl
 | m + 1, o, i, h0, h1 => by
  rw [solver_copied_L0, copied_L0 st m _ (i + 1) (by omega) (by omega)]
  have hl : i.toNat < st.Values.length := by omega
  rw [List.drop_eq_getElem_cons hl, show (i + 1).toNat = i.toNat + 1 by omega, clone_eq]
  simp [List.getD, List.getElem?_eq_getElem hl]
theorem copied_eq (st : GState) : solver_copied st = st := by
 have h := copied_L0 st st.Values.length [] 0 (by omega) (by omega)
 unfold solver_copied
 rw [show ((((st.Values.length : Nat) : Int) : Int) - 0).toNat = st.Values.length by omega]
 simp only [h]
 rfl
theorem begin_steps (s : GSystem) (k : List GKnown) (st : GState) : (solver_begin s k st).Steps = st.Steps := by
 unfold solver_begin
 rfl
theorem begin_L0_spec (s : GSystem) (k : List GKnown) (st : GState) : ∀ (m : Nat) (v : List GSet) (q : List Int) (i : Int), 0 ≤ i → i + m = (st.Cone.length : Int) →
  solver_begin_L0 s k st m v q i = (v ++ (List.range' i.toNat m).map (fun j : Nat => initV1 s k st.Cone st.Leaf j), ((List.range' i.toNat m).map (fun j : Nat => (j : Int))).reverse ++ q)
 | 0, v, q, i, h0, h1 => by simp [solver_begin_L0]
 | m + 1, v, q, i, h0, h1 => by
  rw [solver_begin_L0]
  simp only [pfind_eq, clone_eq]
  rw [begin_L0_spec s k st m _ _ (i + 1) (by omega) (by omega), begin_L0_spec s k st m _ _ (i + 1) (by omega) (by omega), List.range'_succ, show (i + 1).toNat = i.toNat + 1 by omega]
  simp only [List.map_cons, List.append_assoc, List.singleton_append, Int.toNat_of_nonneg h0, List.reverse_cons, List.cons_append, List.nil_append]
  unfold initV1 Bd
  cases st.Leaf.getD i.toNat false <;> simp
theorem expand_steps {s : GSystem} {k : List GKnown} {st r : GState} (h : solver_expand s k st = r) : r.Steps = st.Steps := by
 subst h
 unfold solver_expand solver_expand_J0 solver_expand_J1
 simp only [Bool.cond_eq_ite]
 repeat' split
 all_goals first | rfl | rw [begin_steps]
theorem expand_eq {s : GSystem} {k : List GKnown} {st : GState} (hv : st.Values = []) (hq : st.Queue = []) (ha : st.At < (st.Cone.length : Int)) : solver_expand s k st = dstep s k st := by
 have hL : ∀ (p a e n : Int) lf, solver_begin s k (GState.mk p st.Cone lf a e st.Values st.Queue n) = GState.mk 2 st.Cone lf 0 e (initV s k st.Cone lf) (initQ st.Cone.length) n := fun p a e n lf => by
  unfold solver_begin
  simp only
  rw [begin_L0_spec _ _ _ _ _ _ _ (by omega) (by show 0 + ((((st.Cone.length : Nat) : Int) - 0).toNat : Int) = (st.Cone.length : Int); omega), hv, hq, show ((((st.Cone.length : Nat) : Int) - 0).toNat) = st.Cone.length by omega]
  simp only [List.nil_append, List.append_nil, Int.toNat_zero, ← List.range_eq_range', initQ_rev]
  rfl
 unfold solver_expand solver_expand_J0 solver_expand_J1 dstep dnext dlf dN cN
 simp only [pfind_eq, hL, Contains_eq, Has_dec]
 by_cases e0 : st.Edge = 0 <;> by_cases kf : 0 ≤ kfind k (st.Cone.getD st.At.toNat 0) 0
 ·simp only [e0, kf, true_and, if_true, beq_self_eq_true, decide_true, cond_true]
  generalize (st.Leaf.set st.At.toNat true) = lf
  simp only [Bool.cond_eq_ite, Bool.not_eq_true', decide_eq_true_eq, decide_eq_false_iff_not, beq_iff_eq]
  repeat' split
  all_goals first | rfl | (exfalso; omega) | (exfalso; simp_all; done) | (exfalso; simp_all; omega)
 ·simp only [e0, kf, true_and, and_false, if_false, beq_self_eq_true, decide_false, cond_true, cond_false]
  simp only [Bool.cond_eq_ite, Bool.not_eq_true', decide_eq_true_eq, decide_eq_false_iff_not, beq_iff_eq]
  repeat' split
  all_goals first | rfl | (exfalso; omega) | (exfalso; simp_all; done) | (exfalso; simp_all; omega)
 ·have eb : (st.Edge == 0) = false := by simp [e0]
  simp only [e0, eb, false_and, if_false, cond_false]
  simp only [Bool.cond_eq_ite, Bool.not_eq_true', decide_eq_true_eq, decide_eq_false_iff_not, beq_iff_eq]
  repeat' split
  all_goals first | rfl | (exfalso; omega) | (exfalso; simp_all; done) | (exfalso; simp_all; omega)
 ·have eb : (st.Edge == 0) = false := by simp [e0]
  simp only [e0, eb, false_and, if_false, cond_false]
  simp only [Bool.cond_eq_ite, Bool.not_eq_true', decide_eq_true_eq, decide_eq_false_iff_not, beq_iff_eq]
  repeat' split
  all_goals first | rfl | (exfalso; omega) | (exfalso; simp_all; done) | (exfalso; simp_all; omega)
theorem expand_V {s : GSystem} {k : List GKnown} {st : GState} (h : solver_Valid s k st = true) (hp : st.Phase = 1) (r : GState) (hr : solver_expand s k st = r) : solver_Valid s k (GState.mk r.Phase r.Cone r.Leaf r.At r.Edge r.Values r.Queue (min (r.Steps + 1) 1073741824)) = true := by
 have hV := (PValid8_iff s k st).1 h
 have hsp := hV.sp
 rcases VStt_ph hV with ⟨a, b⟩ | ⟨a, b⟩ | ⟨a, b⟩
 ·obtain ⟨e1, e2⟩ := Dem_nil b
  rw [expand_eq e1 e2 b.at_.2] at hr
  subst hr
  exact (PValid8_iff s k _).2 (dstep_V hV a b (by rw [dstep_Steps]; omega))
 ·omega
 ·omega
theorem PDep_L0 {s : GSystem} {cone : List Int} {leaf : List Bool} {i : Int} : ∀ (m : Nat) (out : List Int) (j : Int), 0 ≤ j → j + m = (cone.length : Int) → (∀ x ∈ out, 0 ≤ x ∧ x < (cone.length : Int)) → ∀ x ∈ cone_Dependents_L0 s cone leaf i m out j, 0 ≤ x ∧ x < (cone.length : Int)
 | 0, out, j, h0, h1, h => h
 | m + 1, out, j, h0, h1, h => by
  rw [cone_Dependents_L0]
  have hp : ∀ x ∈ out ++ [j], 0 ≤ x ∧ x < (cone.length : Int) := fun x hx => by
   rcases List.mem_append.1 hx with hx | hx
   ·exact h x hx
   ·simp at hx; omega
  simp only [Bool.cond_eq_ite]
  repeat' split
  all_goals first | exact PDep_L0 m _ (j + 1) (by omega) (by omega) hp | exact PDep_L0 m _ (j + 1) (by omega) (by omega) h
theorem PDep_mem {s : GSystem} {cone : List Int} {leaf : List Bool} {i : Int} {r : List Int} (h : cone_Dependents s cone leaf i = r) : ∀ x ∈ r, 0 ≤ x ∧ x < (cone.length : Int) := by
 subst h
 unfold cone_Dependents
 simp only [Bool.cond_eq_ite]
 repeat' split
 all_goals first | (intro x hx; cases hx; done) | exact PDep_L0 _ _ _ (by omega) (by omega) (by intro x hx; cases hx)
theorem PDep_L0_eq (s : GSystem) (cone : List Int) (leaf : List Bool) (i : Int) : ∀ (m : Nat) (o : List Int) (j : Int), cone_Dependents_L0 s cone leaf i m o j = flqref14_Dependents_L0 s cone leaf i m o j
 | 0, o, j => rfl
 | m + 1, o, j => by rw [cone_Dependents_L0, flqref14_Dependents_L0]; simp only [Contains_eq, PDep_L0_eq s cone leaf i m]
theorem PDep_eq {s : GSystem} (hv : VSys s) {cone : List Int} (hc : ∀ x ∈ cone, 0 ≤ x ∧ x < (s.Deps.length : Int)) {leaf : List Bool} (hl : leaf.length = cone.length) {i : Int} (h0 : 0 ≤ i) (h1 : i < (cone.length : Int)) : cone_Dependents s cone leaf i = depl s cone leaf i := by
 rw [← RDep_eq hv hc hl h0 h1]
 unfold cone_Dependents flqref14_Dependents
 simp only [Valid_eq, unknowns_eq hv, PDep_L0_eq]
theorem merge_L0_len (a b : GSet) (f : BitVec 64 → BitVec 64 → BitVec 64) : ∀ (m : Nat) (o : List (BitVec 64)) (i : Int), (bitset_merge_L0 a b f m o i).length = o.length
 | 0, o, i => rfl
 | m + 1, o, i => by rw [bitset_merge_L0, merge_L0_len a b f m]; simp
theorem merge_L0_get (a b : GSet) (f : BitVec 64 → BitVec 64 → BitVec 64) : ∀ (m : Nat) (o : List (BitVec 64)) (i : Int), 0 ≤ i → i + m = (o.length : Int) → ∀ j : Nat, j < o.length → (bitset_merge_L0 a b f m o i).getD j 0#64 = if i ≤ (j : Int) then f (a.Words.getD j 0#64) (b.Words.getD j 0#64) else o.getD j 0#64
 | 0, o, i, h0, h1, j, hj => by
  rw [if_neg (by omega)]; rfl
 | m + 1, o, i, h0, h1, j, hj => by
  rw [bitset_merge_L0, merge_L0_get a b f m _ (i + 1) (by omega) (by simp; omega) j (by simpa using hj)]
  rw [getD_set]
  by_cases e : i.toNat = j
  ·rw [if_neg (by omega), if_pos (by omega), if_pos (by omega), e]
  ·rw [if_neg (c := _ ∧ _) (fun h => e h.1)]
   by_cases h2 : i ≤ (j : Int)
   ·rw [if_pos (by omega), if_pos h2]
   ·rw [if_neg (by omega), if_neg h2]
theorem merge_spec {w : Int} {a b : GSet} (f : BitVec 64 → BitVec 64 → BitVec 64) (g : Bool → Bool → Bool) (hf : ∀ u v (j : Nat), (f u v).getLsbD j = g (u.getLsbD j) (v.getLsbD j)) (hg : g false false = false) (ha : VSt w a) (hb : VSt w b) :
  ∃ r, bitset_merge a b f = (r, 0) ∧ VSt w r ∧ ∀ x, flqref1_Has r x = g (flqref1_Has a x) (flqref1_Has b x) := by
 have a1 := VSt_w ha; have b1 := VSt_w hb
 let o := bitset_merge_L0 a b f a.Words.length (List.replicate a.Words.length 0#64) 0
 have ol : o.length = a.Words.length := by rw [merge_L0_len]; simp
 have hbit : ∀ x : Int, 0 ≤ x → x < 64 * (a.Words.length : Int) → bitAt o x = g (bitAt a.Words x) (bitAt b.Words x) := by
  intro x x0 x1
  unfold bitAt
  rw [merge_L0_get a b f a.Words.length (List.replicate a.Words.length 0#64) 0 (by omega) (by simp) (x / 64).toNat (by simp; omega), if_pos (by omega), hf]
 have hv : VSt w ⟨w, o⟩ := by
  refine ⟨⟨a1.1, a1.2.1, by show (o.length : Int) = _; rw [ol]; exact a1.2.2.2, fun x x0 x1 => ?_⟩, rfl⟩
  have x0 : w ≤ x := x0
  have x1 : x < 64 * (o.length : Int) := x1
  show bitAt o x = false
  rw [ol] at x1
  rw [hbit x (by omega) x1, ha.1.2.2.2 x (by omega) (by omega), hb.1.2.2.2 x (by omega) (by omega), hg]
 refine ⟨⟨w, o⟩, ?_, hv, fun x => ?_⟩
 ·unfold bitset_merge
  have e : (a.Width != b.Width) = false := by rw [a1.2.2.1, b1.2.2.1]; simp
  rw [a1.2.2.1] at e
  simp only [VSt_pvalid ha, VSt_pvalid hb, Bool.not_true, cond_false, List.length_replicate, a1.2.2.1, e]
  rw [show ((((a.Words.length : Nat) : Int).toNat : Nat) : Int) - 0 = (a.Words.length : Int) by omega, Int.toNat_natCast]
 ·rw [Has_eq hv, Has_eq ha, Has_eq hb]
  by_cases x0 : 0 ≤ x
  ·by_cases x1 : x < w
   ·simp only [decide_eq_true x0, decide_eq_true x1, Bool.true_and]
    exact hbit x x0 (by omega)
   ·simp [x1, hg]
  ·simp [x0, hg]
theorem bDiff_spec {w : Int} {a b : GSet} (ha : VSt w a) (hb : VSt w b) : ∃ r, bitset_Diff a b = (r, 0) ∧ VSt w r ∧ ∀ x, flqref1_Has r x = (flqref1_Has a x && !flqref1_Has b x) := by
 obtain ⟨r, e, hr, hh⟩ := merge_spec (fun x0 x1 => bitset_Diff_1 x0 x1) (fun p q => p && !q) (fun u v j => by
  unfold bitset_Diff_1
  rw [BitVec.getLsbD_and, BitVec.getLsbD_not]
  by_cases hj : j < 64
  ·simp [hj]
  ·simp [hj, BitVec.getLsbD_of_ge u j (by omega)]) rfl ha hb
 refine ⟨r, ?_, hr, hh⟩
 unfold bitset_Diff; simp only [e]
theorem bUnion_eq (a b : GSet) : bitset_Union a b = flqref1_Union a b := by
 cases hva : bitset_Valid a with
 | false => unfold bitset_Union bitset_merge flqref1_Union flqref1_mix; simp only [← setValid_eq, hva]; rfl
 | true =>
  cases hvb : bitset_Valid b with
  | false => unfold bitset_Union bitset_merge flqref1_Union flqref1_mix; simp only [← setValid_eq, hva, hvb]; rfl
  | true =>
   by_cases hw : a.Width = b.Width
   ·have ha : VSt a.Width a := ⟨(PValid_iff a).1 hva, rfl⟩
    have hb : VSt a.Width b := ⟨(PValid_iff b).1 hvb, hw.symm⟩
    obtain ⟨r, e, hr, hh⟩ := merge_spec (fun x0 x1 => bitset_Union_1 x0 x1) (· || ·) (fun u v j => by simp [bitset_Union_1]) rfl ha hb
    obtain ⟨q, e', hq, hh'⟩ := Union_spec ha hb
    have : r = q := set_ext hr hq fun x _ _ => by rw [hh, hh']
    unfold bitset_Union
    simp only [e, e', this]
   ·have e1 : (a.Width != b.Width) = true := by simp [hw]
    unfold bitset_Union bitset_merge flqref1_Union flqref1_mix; simp only [← setValid_eq, hva, hvb, e1]; rfl
theorem within_iff {s : GSet} {b : Int} (h : bitset_within s b = true) : 0 ≤ b ∧ b < s.Width := by
 unfold bitset_within at h
 simp [Bool.cond_eq_ite] at h; omega
theorem within_mk {s : GSet} {b : Int} (h : 0 ≤ b ∧ b < s.Width) : bitset_within s b = true := by
 unfold bitset_within
 simp [Bool.cond_eq_ite]; omega
theorem bHas_eq (s : GSet) (b : Int) : bitset_Has s b = flqref1_Has s b := by
 unfold bitset_Has
 rw [setValid_eq]
 cases hv : flqref1_Valid s with
 | false => unfold flqref1_Has; simp only [hv, cond_false]
 | true =>
  have h : VSt s.Width s := ⟨(RValid_iff s).1 hv, rfl⟩
  have hw := VSt_w h
  rw [Has_eq h]
  simp only [cond_true]
  cases hb : bitset_within s b with
  | true =>
   have := within_iff hb
   simp only [cond_true, decide_eq_true this.1, decide_eq_true this.2, Bool.true_and]
   rw [pos_eq (by omega), bit_test]; rfl
  | false =>
   simp only [cond_false]
   unfold bitset_within at hb
   simp [Bool.cond_eq_ite] at hb
   symm
   rw [Bool.eq_false_iff]
   simp; intro h1 h2; omega
theorem bWith_spec {w : Int} {s : GSet} (hs : VSt w s) {b : Int} (hb : 0 ≤ b ∧ b < w) : ∃ r, bitset_With s b = (r, 0) ∧ VSt w r ∧ ∀ x, flqref1_Has r x = (flqref1_Has s x || x == b) := by
 have hw := VSt_w hs
 let q := s.Words.set (b / 64).toNat ((s.Words.getD (b / 64).toNat 0#64) &&& ~~~(1#64 <<< (b % 64).toNat))
 have ql : q.length = s.Words.length := by simp [q]
 have e1 : q.set (b / 64).toNat ((q.getD (b / 64).toNat 0#64) ||| (1#64 <<< (b % 64).toNat)) = (flqref1_Put s b).Words := by
  rw [Put_words hs hb]
  simp only [q]
  rw [List.set_set]
  congr 1
  rw [List.getD_eq_getElem?_getD, List.getElem?_set, if_pos rfl, if_pos (by omega)]
  simp only [Option.getD_some]
  apply BitVec.eq_of_getLsbD_eq
  intro j hj
  simp only [BitVec.getLsbD_or, BitVec.getLsbD_and, BitVec.getLsbD_not, hj, decide_true, Bool.true_and]
  all_goals (cases (s.Words.getD (b / 64).toNat 0#64).getLsbD j <;> cases (1#64 <<< (b % 64).toNat).getLsbD j <;> rfl)
 refine ⟨flqref1_Put s b, ?_, Put_V hs hb, Put_has hs hb⟩
 unfold bitset_With bitset_changed bitset_put slices_Clone_uint64
 simp only [VSt_pvalid hs, within_mk (s := s) (b := b) (by omega), Bool.not_true, cond_false, cond_true]
 rw [pos_eq (by omega)]
 rw [e1]
 have : (flqref1_Put s b).Width = s.Width := rfl
 rw [← this]
theorem pApply_L0_spec {w : Int} {t : GTransfer} {s : GSet} (hs : VSt w s) (hc : ∀ c ∈ t.Copies, 0 ≤ c.To ∧ c.To < w) : ∀ (m : Nat) (o0 : Int) (o1 : List (BitVec 64)) (i : Int), 0 ≤ i → i + m = (t.Copies.length : Int) → VSt w ⟨o0, o1⟩ →
  VSt w ⟨(transfer_apply_L0 t s m o0 o1 i).1, (transfer_apply_L0 t s m o0 o1 i).2⟩ ∧ ∀ x, flqref1_Has ⟨(transfer_apply_L0 t s m o0 o1 i).1, (transfer_apply_L0 t s m o0 o1 i).2⟩ x = true ↔ flqref1_Has ⟨o0, o1⟩ x = true ∨ ∃ j : Int, i ≤ j ∧ j < i + m ∧ flqref1_Has s (t.Copies.getD j.toNat default).From = true ∧ (t.Copies.getD j.toNat default).To = x
 | 0, o0, o1, i, h0, h1, h => ⟨h, fun x => by
   constructor
   ·intro h; exact .inl h
   ·rintro (h | ⟨c, c1, c2, _⟩)
    ·exact h
    ·omega⟩
 | m + 1, o0, o1, i, h0, h1, h => by
  rw [transfer_apply_L0]
  simp only [bHas_eq]
  cases hh : flqref1_Has s (t.Copies.getD i.toNat default).From with
  | false =>
   simp only [cond_false]
   obtain ⟨i1, i2⟩ := pApply_L0_spec (t := t) hs hc m o0 o1 (i + 1) (by omega) (by omega) h
   refine ⟨i1, fun x => (i2 x).trans ?_⟩
   constructor
   ·rintro (h | ⟨j, j1, j2, j3⟩)
    ·exact .inl h
    ·exact .inr ⟨j, by omega, by omega, j3⟩
   ·rintro (h | ⟨j, j1, j2, j3, j4⟩)
    ·exact .inl h
    ·by_cases e : j = i
     ·subst e; rw [hh] at j3; cases j3
     ·exact .inr ⟨j, by omega, by omega, j3, j4⟩
  | true =>
   simp only [cond_true]
   obtain ⟨r, e, hr, hrh⟩ := bWith_spec h (hc _ (getD_mem (xs := t.Copies) (i := i.toNat) (d := default) (by omega)))
   rw [e]
   obtain ⟨i1, i2⟩ := pApply_L0_spec (t := t) hs hc m r.Width r.Words (i + 1) (by omega) (by omega) hr
   refine ⟨i1, fun x => (i2 x).trans ?_⟩
   rw [show (⟨r.Width, r.Words⟩ : GSet) = r from rfl, hrh]
   simp only [Bool.or_eq_true, beq_iff_eq]
   constructor
   ·rintro ((h | h) | ⟨j, j1, j2, j3⟩)
    ·exact .inl h
    ·exact .inr ⟨i, by omega, by omega, hh, h.symm⟩
    ·exact .inr ⟨j, by omega, by omega, j3⟩
   ·rintro (h | ⟨j, j1, j2, j3, j4⟩)
    ·exact .inl (.inl h)
    ·by_cases e : j = i
     ·subst e; exact .inl (.inr j4.symm)
     ·exact .inr ⟨j, by omega, by omega, j3, j4⟩
theorem pApply_eq (t : GTransfer) (s : GSet) : transfer_Apply t s = flqref1_Apply t s := by
 cases ht : transfer_Valid t with
 | false => unfold transfer_Apply flqref1_Apply; simp only [← transferValid_eq, ht]; rfl
 | true =>
  cases hs : bitset_Valid s with
  | false => unfold transfer_Apply flqref1_Apply; simp only [← transferValid_eq, ht, ← setValid_eq, hs]; rfl
  | true =>
   by_cases hw : t.Gen.Width = s.Width
   case neg =>
    have e1 : (t.Gen.Width != s.Width) = true := by simp [hw]
    unfold transfer_Apply flqref1_Apply; simp only [← transferValid_eq, ht, ← setValid_eq, hs, e1]; rfl
   have hvt : fVT t = true := by rw [← transferValid_eq]; exact ht
   have hVs : VSt s.Width s := ⟨(PValid_iff s).1 hs, rfl⟩
   obtain ⟨q, e, hq, hh⟩ := Apply_spec ⟨hvt, hw⟩ hVs
   have parts := ValidTransfer_parts hvt
   have hg : VSt s.Width t.Gen := ⟨parts.1, hw⟩
   have hk : VSt s.Width t.Kill := ⟨parts.2.1, by rw [← parts.2.2.1]; exact hw⟩
   have hcp := ValidTransfer_copies hvt
   rw [hw] at hcp
   obtain ⟨d, e1, hd, hhd⟩ := bDiff_spec hVs hk
   obtain ⟨u, e2, hu, hhu⟩ := Union_spec hd hg
   obtain ⟨i1, i2⟩ := pApply_L0_spec (t := t) hVs (fun c hc => (hcp c hc).2) t.Copies.length u.Width u.Words 0 (by omega) (by omega) hu
   rw [e]
   unfold transfer_Apply
   have e3 : (t.Gen.Width != s.Width) = false := by simp [hw]
   simp only [ht, hs, e3, Bool.not_true, cond_false]
   have e4 : transfer_apply t s = q := by
    unfold transfer_apply
    simp only [e1, bUnion_eq, e2]
    rw [show ((((t.Copies.length : Nat) : Int) - 0).toNat) = t.Copies.length by omega]
    refine set_ext i1 hq fun x x0 x1 => ?_
    rw [Bool.eq_iff_iff, i2, hh, show (⟨u.Width, u.Words⟩ : GSet) = u from rfl, hhu, hhd]
    simp only [Bool.or_eq_true, Bool.and_eq_true, Bool.not_eq_true', follows_iff]
    constructor
    ·rintro ((⟨h1, h2⟩ | h) | ⟨j, j1, j2, j3, j4⟩)
     ·exact .inr ⟨x, h1, x0, x1, .inl ⟨rfl, h2⟩⟩
     ·exact .inl h
     ·exact .inr ⟨_, j3, x0, x1, .inr ⟨_, getD_mem (by omega), rfl, j4⟩⟩
    ·rintro (h | ⟨a, h1, _, _, h2 | ⟨c, hc, c1, c2⟩⟩)
     ·exact .inl (.inr h)
     ·obtain ⟨rfl, h2⟩ := h2; exact .inl (.inl ⟨h1, h2⟩)
     ·obtain ⟨j, j0, j1, rfl⟩ := (mem_getDg (d := default)).1 hc
      exact .inr ⟨j, j0, by omega, by rw [c1]; exact h1, c2⟩
   rw [e4]
theorem Equal_words (a b : List (BitVec 64)) : slices_Equal_uint64 a b = flqref1_Same ⟨0, a⟩ ⟨0, b⟩ := by
 have h : ∀ m i, slices_Equal_uint64_L0 a b m i = flqref1_Same_L0 ⟨0, a⟩ ⟨0, b⟩ m i := by
  intro m
  induction m with
  | zero => intro i; rfl
  | succ m ih => intro i; rw [slices_Equal_uint64_L0, flqref1_Same_L0, ih]
 unfold slices_Equal_uint64 flqref1_Same
 rw [h]
 rfl
theorem bEqual_eq {w : Int} {a b : GSet} (ha : VSt w a) (hb : VSt w b) : bitset_Equal a b = flqref1_Same a b := by
 have a1 := VSt_w ha; have b1 := VSt_w hb
 unfold bitset_Equal
 have e : (a.Width == b.Width) = true := by rw [a1.2.2.1, b1.2.2.1]; simp
 simp only [VSt_pvalid ha, VSt_pvalid hb, e, cond_true]
 rw [Equal_words, Bool.eq_iff_iff, Same_iff, Same_iff]
 obtain ⟨wa, la⟩ := a; obtain ⟨wb, lb⟩ := b
 simp only at a1 b1
 rw [a1.2.2.1, b1.2.2.1]
 simp
theorem push_steps {s : GSystem} {st : GState} {r : Int × GState} (h : solver_push s st = r) : r.2.Steps = st.Steps := by
 subst h
 unfold solver_push
 simp only [Bool.cond_eq_ite]
 split <;> rfl
theorem push_L0_eq {s : GSystem} (hv : VSys s) {st : GState} {d : List Int} (hd : ∀ x ∈ d, 0 ≤ x ∧ x < (st.Cone.length : Int)) (hc : ∀ x ∈ st.Cone, 0 ≤ x ∧ x < (s.Deps.length : Int)) (hi : 0 ≤ st.Queue.getD 0 0 ∧ st.Queue.getD 0 0 < (st.Cone.length : Int)) : ∀ (m : Nat) (v : List GSet) (q : List Int) (n : Int), 0 ≤ n → n + m = (d.length : Int) → v.length = st.Cone.length → (∀ g ∈ v, VSt s.Width g) →
  solver_push_L0 s st d m v q n = pl s st.Cone (st.Queue.getD 0 0) (d.drop n.toNat) v q
 | 0, v, q, n, h0, h1, hl, hg => by rw [List.drop_eq_nil_of_le (by omega)]; rfl
 | m + 1, v, q, n, h0, h1, hl, hg => by
  have hj := hd _ (getD_mem (xs := d) (i := n.toNat) (d := 0) (by omega))
  have va : VSt s.Width (vat v (d.getD n.toNat 0)) := hg _ (getD_mem (by omega))
  have vi : VSt s.Width (vat v (st.Queue.getD 0 0)) := hg _ (getD_mem (by omega))
  have hci := hc _ (getD_mem (xs := st.Cone) (i := (st.Queue.getD 0 0).toNat) (d := 0) (by omega))
  have vp : VSt s.Width (app (Tr s (st.Cone.getD (st.Queue.getD 0 0).toNat 0)) (vat v (st.Queue.getD 0 0))) := app_V (VSys_trV hv hci.1 hci.2) vi
  have vj := Join_V va vp
  rw [solver_push_L0, drop_cons h0 (by omega), pl]
  simp only [Contains_eq, Has_dec, pApply_eq, bUnion_eq]
  have e : bitset_Equal (flqref1_Union (v.getD (d.getD n.toNat 0).toNat default) (flqref1_Apply (s.Transfers.getD (st.Cone.getD (st.Queue.getD (0 : Int).toNat 0).toNat 0).toNat default) (v.getD (st.Queue.getD (0 : Int).toNat 0).toNat default)).1).1 (v.getD (d.getD n.toNat 0).toNat default) = flqref1_Same (flqref1_Join (vat v (d.getD n.toNat 0)) (app (Tr s (st.Cone.getD (st.Queue.getD 0 0).toNat 0)) (vat v (st.Queue.getD 0 0)))) (vat v (d.getD n.toNat 0)) := bEqual_eq vj va
  rw [e]
  have ih : ∀ v' q', v'.length = st.Cone.length → (∀ g ∈ v', VSt s.Width g) → solver_push_L0 s st d m v' q' (n + 1) = pl s st.Cone (st.Queue.getD 0 0) (d.drop (n + 1).toNat) v' q' := fun v' q' a b => push_L0_eq hv hd hc hi m v' q' (n + 1) (by omega) (by omega) a b
  have hset : ∀ g ∈ v.set (d.getD n.toNat 0).toNat (flqref1_Join (vat v (d.getD n.toNat 0)) (app (Tr s (st.Cone.getD (st.Queue.getD 0 0).toNat 0)) (vat v (st.Queue.getD 0 0)))), VSt s.Width g := fun g hg' => by
   rcases List.mem_or_eq_of_mem_set hg' with h | h
   ·exact hg g h
   ·rw [h]; exact vj
  cases hs : flqref1_Same (flqref1_Join (vat v (d.getD n.toNat 0)) (app (Tr s (st.Cone.getD (st.Queue.getD 0 0).toNat 0)) (vat v (st.Queue.getD 0 0)))) (vat v (d.getD n.toNat 0)) with
  | true =>
   simp only [cond_true, if_true]
   exact ih v q hl hg
  | false =>
   simp only [cond_false, Bool.false_eq_true, if_false]
   by_cases hq : d.getD n.toNat 0 ∈ q
   ·simp only [hq, decide_true, Bool.not_true, cond_false, if_true]
    exact ih _ q (by simp [hl]) hset
   ·simp only [hq, decide_false, Bool.not_false, cond_true, if_false]
    exact ih _ _ (by simp [hl]) hset
theorem push_eq {s : GSystem} {k : List GKnown} {st : GState} (h : VStt s k st) (hs : Sol s k st) (hp : st.Phase ≠ 3) : solver_push s st = (pcost s st, pstep s st) := by
 obtain ⟨q1, q2, q3⟩ := Sol_q hs hp
 have eD : cone_Dependents s st.Cone st.Leaf (st.Queue.getD (0 : Int).toNat 0) = depl s st.Cone st.Leaf (st.Queue.getD 0 0) := PDep_eq h.v h.co.2 h.lf q2 q3
 unfold solver_push
 simp only [eD, List.take_length]
 rw [push_L0_eq h.v (fun x hx => (mem_depl.1 hx).1) h.co.2 ⟨q2, q3⟩ _ _ _ _ (by omega) (by omega) hs.vl hs.vv]
 simp only [Int.toNat_zero, List.drop_zero]
 unfold pstep pcost
 simp only [show (1 : Int).toNat = 1 from rfl]
 generalize pl s st.Cone (st.Queue.getD 0 0) (depl s st.Cone st.Leaf (st.Queue.getD 0 0)) st.Values (List.drop 1 st.Queue) = r
 obtain ⟨r1, r2⟩ := r
 cases r2 with
 | nil => rfl
 | cons a l =>
  have : ((((a :: l).length : Nat) : Int) == 0) = false := by rw [beq_eq_false_iff_ne]; simp; omega
  simp only [this, cond_false]
  rw [if_neg (by simp)]
theorem push_V {s : GSystem} {k : List GKnown} {st : GState} (h : solver_Valid s k st = true) (hp : st.Phase = 2) (r : Int × GState) (hr : solver_push s st = r) : solver_Valid s k (GState.mk r.2.Phase r.2.Cone r.2.Leaf r.2.At r.2.Edge r.2.Values r.2.Queue (min (r.2.Steps + 1) 1073741824)) = true := by
 have hV := (PValid8_iff s k st).1 h
 have hsp := hV.sp
 rcases VStt_ph hV with ⟨a, b⟩ | ⟨a, b⟩ | ⟨a, b⟩
 ·omega
 ·rw [push_eq hV b (by omega)] at hr
  subst hr
  exact (PValid8_iff s k _).2 (pstep_V hV a b (by show 0 ≤ min ((pstep s st).Steps + 1) 1073741824 ∧ _; rw [pstep_Steps]; omega))
 ·omega
theorem PRun_L0 {s : GSystem} {k : List GKnown} : ∀ (m : Nat) (st : GState) (total n : Int), VStt s k st → solver_Run_L0 s k m st.Phase st.Cone st.Leaf st.At st.Edge st.Values st.Queue st.Steps total n =
  ((run s k m st).1.Phase, (run s k m st).1.Cone, (run s k m st).1.Leaf, (run s k m st).1.At, (run s k m st).1.Edge, (run s k m st).1.Values, (run s k m st).1.Queue, (run s k m st).1.Steps, total + (run s k m st).2)
 | 0, st, total, n, h => by simp [solver_Run_L0, run]
 | m + 1, st, total, n, h => by
  rw [solver_Run_L0, run]
  rw [show (⟨st.Phase, st.Cone, st.Leaf, st.At, st.Edge, st.Values, st.Queue, st.Steps⟩ : GState) = st from rfl]
  rcases VStt_ph h with ⟨a, b⟩ | ⟨a, b⟩ | ⟨a, b⟩
  ·obtain ⟨e1, e2⟩ := Dem_nil b
   rw [if_neg (by omega), beqI a, expand_eq e1 e2 b.at_.2]
   simp only [cond_true, dstep_Steps]
   have es : sstep s k st = setSteps (dstep s k st) (min (st.Steps + 1) 1073741824) := by unfold sstep; rw [if_pos a]
   have ih := PRun_L0 m (sstep s k st) (total + 1) (n + 1) (sstep_V h (by omega))
   rw [es] at ih
   refine ih.trans ?_
   have ec : scost s st = 1 := by unfold scost; rw [if_pos a]
   rw [ec, es, Int.add_assoc]
  ·rw [if_neg (by omega), bneI (show ¬ st.Phase = 1 by omega), beqI a, push_eq h b (by omega)]
   simp only [cond_true, cond_false]
   have es : sstep s k st = setSteps (pstep s st) (min (st.Steps + 1) 1073741824) := by unfold sstep; rw [if_neg (by omega)]
   have ih := PRun_L0 m (sstep s k st) (total + pcost s st) (n + 1) (sstep_V h (by omega))
   rw [es] at ih
   refine ih.trans ?_
   have ec : scost s st = pcost s st := by unfold scost; rw [if_neg (by omega)]
   rw [ec, es, Int.add_assoc]
  ·rw [if_pos a, bneI (show ¬ st.Phase = 1 by omega), bneI (show ¬ st.Phase = 2 by omega)]
   simp
theorem PRun_eq {s : GSystem} {k : List GKnown} {st : GState} (h : VStt s k st) {n : Int} (hn : 0 ≤ n) : solver_Run s k st n = ((run s k n.toNat st).1, (run s k n.toNat st).2, 0) := by
 unfold solver_Run
 simp only [(PValid8_iff s k st).2 h, copied_eq, decide_eq_false (show ¬ n < 0 by omega), Bool.not_true, cond_false]
 rw [PRun_L0 _ _ _ _ h]
 simp [show (n - 0).toNat = n.toNat by omega]
theorem SameState_self (a : GState) : flqref14_SameState a a = true := by
 have sc := scan (fun r i => flqref14_SameState_L0 a a r i) (fun i => !((a.Leaf.getD i.toNat false) == (a.Leaf.getD i.toNat false))) false () (fun _ => rfl) (fun _ _ => rfl) ((((a.Leaf.length : Nat) : Int) - 0).toNat) 0
 unfold flqref14_SameState
 simp only [bne_self_eq_false, cond_false, Ints_self, (SameSets_iff a.Values a.Values).2 rfl, Bool.not_true]
 rcases sc with ⟨e, j, j1, j2, j3⟩ | ⟨e, h⟩
 ·simp at j3
 ·rw [e]
theorem draw_start {t : List Int} {k : Int} {r : Gtask × Int} (h : flqlaw15_draw t k = r) : flqref14_Valid r.1.S r.1.K (solver_Start r.1.Root) = true ∧ r.1.S.Deps.length ≤ 6 ∧ r.1.S.Width ≤ 4 := by
 subst h
 obtain ⟨v, hx⟩ := draw_task t k
 exact ⟨(RValid8_iff _ _ _).2 (start_V hx.sys (task_known hx) hx.r), (draw_small t k).1, (draw_small t k).2.1⟩
theorem PStep_eq {s : GSystem} {k : List GKnown} {st : GState} (h : VStt s k st) (hp : st.Phase ≠ 3) : solver_Step s k st = (sstep s k st, scost s st, 0) := by
 unfold solver_Step
 simp only [(PValid8_iff s k st).2 h, bneI hp, Bool.not_true, cond_false]
 rw [PRun_eq h (by omega : (0 : Int) ≤ 1)]
 simp only [show (1 : Int).toNat = 0 + 1 from rfl, run, if_neg hp, Int.add_zero]
theorem Step_eq {s : GSystem} {k : List GKnown} {st : GState} (h : VStt s k st) : solver_Step s k st = flqref14_Step s k st := by
 by_cases hp : st.Phase = 3
 ·unfold solver_Step flqref14_Step
  simp only [(PValid8_iff s k st).2 h, (RValid8_iff s k st).2 h, beqI hp, Bool.not_true, cond_false, cond_true]
 ·rw [PStep_eq h hp, RStep_eq h hp]
theorem sane15_true : flqlaw15_sane = true := by kernel_rfl
theorem Final_1_lt (a b : GKnown) : decide (solver_Final_1 a b < 0) = decide (a.Node < b.Node) := by
 unfold solver_Final_1
 simp only [Compare_eq]
 by_cases h : a.Node < b.Node
 ·simp [h]
 ·by_cases h2 : b.Node < a.Node <;> simp [h, h2]
theorem insCmp_eq (l : List GKnown) : slices_insertionSortCmpFunc_Known l 0 (l.length : Int) (fun x0 x1 => solver_Final_1 x0 x1) = srtK GKnown.Node l := by
 unfold slices_insertionSortCmpFunc_Known
 exact insAll GKnown.Node default (slices_insertionSortCmpFunc_Known_L1 fun x0 x1 => solver_Final_1 x0 x1) (slices_insertionSortCmpFunc_Known_L0 0 fun x0 x1 => solver_Final_1 x0 x1) (fun _ _ => rfl) (fun r l j => by rw [slices_insertionSortCmpFunc_Known_L1]; simp only [Final_1_lt, Bool.cond_eq_ite, decide_eq_true_eq]) (fun _ _ => rfl) (fun r l i => rfl) l
theorem SortStable_eq (l : List GKnown) : slices_SortStableFunc_Known l (fun x0 x1 => solver_Final_1 x0 x1) = srtK GKnown.Node l := insCmp_eq l
theorem pFinal_term (st : GState) : ∀ (r : Nat) (out : List GKnown) (i : Int), 0 ≤ i ∧ i ≤ (st.Cone.length : Int) ∧ (st.Cone.length : Int) - i < (r : Int) → solver_Final_L0 st r out i ≠ LR.oof
 | 0, out, i, h => by omega
 | r + 1, out, i, h => by
  rw [solver_Final_L0]
  simp only [Bool.cond_eq_ite, decide_eq_true_eq]
  repeat' split
  all_goals first | (intro h; cases h; done) | exact pFinal_term st r _ _ (by omega)
theorem pFinal_L0 {st : GState} (hp : st.Phase = 3) : ∀ (m : Nat) (l : List GKnown) (i : Int), 0 ≤ i ∧ i ≤ (st.Cone.length : Int) ∧ (st.Cone.length : Int) - i < (m : Int) → solver_Final_L0 st m l i = .brk (l ++ finL st m i)
 | 0, l, i, h => by omega
 | m + 1, l, i, h => by
  rw [solver_Final_L0, finL]
  simp only [hp, beq_self_eq_true, cond_true, Bool.cond_eq_ite, decide_eq_true_eq, clone_eq]
  by_cases hc : i < (st.Cone.length : Int) ∧ i < (st.Leaf.length : Int) ∧ i < (st.Values.length : Int)
  ·rw [if_pos (show i < (min (min ((st.Cone.length : Nat) : Int) ((st.Leaf.length : Nat) : Int)) ((st.Values.length : Nat) : Int)) by omega), if_pos hc]
   cases e : st.Leaf.getD i.toNat false with
   | true => simp only [Bool.not_true, Bool.false_eq_true, if_false, if_true]; exact pFinal_L0 hp m _ _ (by omega)
   | false => simp only [Bool.not_false, if_true, Bool.false_eq_true, if_false]; rw [pFinal_L0 hp m _ _ (by omega), List.append_assoc]; rfl
  ·rw [if_neg (show ¬ i < (min (min ((st.Cone.length : Nat) : Int) ((st.Leaf.length : Nat) : Int)) ((st.Values.length : Nat) : Int)) by omega), if_neg hc, List.append_nil]
   all_goals simp
theorem pFinal_eq {st : GState} (hp : st.Phase = 3) : solver_Final st = srtK GKnown.Node (finL st (st.Cone.length + 1) 0) := by
 unfold solver_Final
 rw [pFinal_L0 hp _ _ _ (by omega)]
 exact SortStable_eq _
theorem pFinal_nil {st : GState} (hp : st.Phase ≠ 3) : solver_Final st = [] := by
 have e : (st.Phase == 3) = false := by simp [hp]
 unfold solver_Final
 rw [solver_Final_L0, e]; rfl
theorem Less_eq (x y : Int) : cmp_Less_int x y = decide (x < y) := by unfold cmp_Less_int cmp_isNaN_int; simp
theorem insOrd_eq (l : List Int) : slices_insertionSortOrdered_int l 0 (l.length : Int) = srtK (fun x => x) l := by
 unfold slices_insertionSortOrdered_int
 exact insAll (fun x => x) 0 slices_insertionSortOrdered_int_L1 (slices_insertionSortOrdered_int_L0 0) (fun _ _ => rfl) (fun r l j => by rw [slices_insertionSortOrdered_int_L1]; simp only [Less_eq, Bool.cond_eq_ite, decide_eq_true_eq]) (fun _ _ => rfl) (fun r l i => rfl) l
theorem Sort_eq (l : List Int) : slices_Sort_int l = srtK (fun x => x) l := insOrd_eq l
theorem pUsed_term (st : GState) : ∀ (r : Nat) (out : List Int) (i : Int), 0 ≤ i ∧ i ≤ (st.Cone.length : Int) ∧ (st.Cone.length : Int) - i < (r : Int) → solver_Used_L0 st r out i ≠ LR.oof
 | 0, out, i, h => by omega
 | r + 1, out, i, h => by
  rw [solver_Used_L0]
  simp only [Bool.cond_eq_ite, decide_eq_true_eq]
  repeat' split
  all_goals first | (intro h; cases h; done) | exact pUsed_term st r _ _ (by omega)
theorem pUsed_L0 {st : GState} (hp : st.Phase = 3) : ∀ (m : Nat) (l : List Int) (i : Int), 0 ≤ i ∧ i ≤ (st.Cone.length : Int) ∧ (st.Cone.length : Int) - i < (m : Int) → solver_Used_L0 st m l i = .brk (l ++ useL st m i)
 | 0, l, i, h => by omega
 | m + 1, l, i, h => by
  rw [solver_Used_L0, useL]
  simp only [hp, beq_self_eq_true, cond_true, Bool.cond_eq_ite, decide_eq_true_eq]
  by_cases hc : i < (st.Cone.length : Int) ∧ i < (st.Leaf.length : Int)
  ·rw [if_pos (show i < (min ((st.Cone.length : Nat) : Int) ((st.Leaf.length : Nat) : Int)) by omega), if_pos hc]
   cases e : st.Leaf.getD i.toNat false with
   | true => simp only [if_true]; rw [pUsed_L0 hp m _ _ (by omega), List.append_assoc]; rfl
   | false => simp only [Bool.false_eq_true, if_false]; exact pUsed_L0 hp m _ _ (by omega)
  ·rw [if_neg (show ¬ i < (min ((st.Cone.length : Nat) : Int) ((st.Leaf.length : Nat) : Int)) by omega), if_neg hc, List.append_nil]
   all_goals simp
theorem pUsed_eq {st : GState} (hp : st.Phase = 3) : solver_Used st = srtK (fun x => x) (useL st (st.Cone.length + 1) 0) := by
 unfold solver_Used
 rw [pUsed_L0 hp _ _ _ (by omega)]
 exact Sort_eq _
theorem Answer_eq (st : GState) : solver_Answer st = flqref14_Answer st := by
 unfold solver_Answer flqref14_Answer
 simp only [clone_eq]
theorem rFinal_term (st : GState) : ∀ (r : Nat) (out : List GKnown) (i : Int), 0 ≤ i ∧ i ≤ (st.Cone.length : Int) ∧ (st.Cone.length : Int) - i < (r : Int) → flqref14_Final_L0 st r out i ≠ LR.oof
 | 0, out, i, h => by omega
 | r + 1, out, i, h => by
  rw [flqref14_Final_L0]
  simp only [Bool.cond_eq_ite, decide_eq_true_eq]
  repeat' split
  all_goals first | (intro h; cases h; done) | exact rFinal_term st r _ _ (by omega)
theorem rFinal_L1 (st : GState) (out : List GKnown) (i : Int) (x : GKnown) (hx : x.Node = st.Cone.getD i.toNat 0) : out.take (flqref14_Final_L1 st out i (((((out.length : Nat) : Int) : Int) - 0).toNat) 0).toNat ++ x :: out.drop (flqref14_Final_L1 st out i (((((out.length : Nat) : Int) : Int) - 0).toNat) 0).toNat = insK GKnown.Node x out := by
 have := insCount GKnown.Node default x out (flqref14_Final_L1 st out i) (fun _ => rfl) (fun r k => by rw [flqref14_Final_L1]; simp only [Bool.cond_eq_ite, decide_eq_true_eq, hx]) (((((out.length : Nat) : Int) : Int) - 0).toNat) 0 (by omega) (by omega)
 simpa using this
theorem rFinal_L0 {st : GState} (hp : st.Phase = 3) : ∀ (m : Nat) (l : List GKnown) (i : Int), 0 ≤ i ∧ i ≤ (st.Cone.length : Int) ∧ (st.Cone.length : Int) - i < (m : Int) → flqref14_Final_L0 st m (srtK GKnown.Node l) i = .brk (srtK GKnown.Node (l ++ finL st m i))
 | 0, l, i, h => by omega
 | m + 1, l, i, h => by
  rw [flqref14_Final_L0, finL]
  simp only [hp, beq_self_eq_true, cond_true, Bool.cond_eq_ite, decide_eq_true_eq]
  by_cases hc : i < (st.Cone.length : Int) ∧ i < (st.Leaf.length : Int) ∧ i < (st.Values.length : Int)
  ·rw [if_pos hc.1, if_pos hc.2.1, if_pos hc.2.2, if_pos hc]
   cases e : st.Leaf.getD i.toNat false with
   | true => simp only [if_true]; exact rFinal_L0 hp m _ _ (by omega)
   | false =>
    simp only [Bool.false_eq_true, if_false]
    have := rFinal_L1 st (srtK GKnown.Node l) i (GKnown.mk (st.Cone.getD i.toNat 0) (st.Values.getD i.toNat default)) rfl
    rw [List.drop_zero, List.take_length, List.append_assoc, List.singleton_append, this, ← srtK_snoc, rFinal_L0 hp m _ _ (by omega), List.append_assoc]
    rfl
  ·rw [if_neg hc, List.append_nil]
   repeat' split
   all_goals first | rfl | (exfalso; omega)
theorem rFinal_eq {st : GState} (hp : st.Phase = 3) : flqref14_Final st = srtK GKnown.Node (finL st (st.Cone.length + 1) 0) := by
 unfold flqref14_Final
 have := rFinal_L0 hp (st.Cone.length + 1) [] 0 (by omega)
 rw [show srtK GKnown.Node [] = [] from rfl] at this
 rw [this]; rfl
theorem rFinal_nil {st : GState} (hp : st.Phase ≠ 3) : flqref14_Final st = [] := by
 have e : (st.Phase == 3) = false := by simp [hp]
 unfold flqref14_Final
 rw [flqref14_Final_L0, e]; rfl
theorem Final_eq (st : GState) : solver_Final st = flqref14_Final st := by
 by_cases h : st.Phase = 3
 ·rw [pFinal_eq h, rFinal_eq h]
 ·rw [pFinal_nil h, rFinal_nil h]
theorem SameKnown_self (a : List GKnown) : flqref14_SameKnown a a = true := by
 have h : ∀ (m : Nat) (i : Int), flqref14_SameKnown_L0 a a m i = .brk () := fun m => by
  induction m with
  | zero => intro i; rfl
  | succ m ih => intro i; rw [flqref14_SameKnown_L0]; simp only [bne_self_eq_false, cond_false, Same_refl, Bool.not_true, ih]
 unfold flqref14_SameKnown
 simp only [bne_self_eq_false, cond_false, h]
theorem rUsed_term (st : GState) : ∀ (r : Nat) (out : List Int) (i : Int), 0 ≤ i ∧ i ≤ (st.Cone.length : Int) ∧ (st.Cone.length : Int) - i < (r : Int) → flqref14_Used_L0 st r out i ≠ LR.oof
 | 0, out, i, h => by omega
 | r + 1, out, i, h => by
  rw [flqref14_Used_L0]
  simp only [Bool.cond_eq_ite, decide_eq_true_eq]
  repeat' split
  all_goals first | (intro h; cases h; done) | exact rUsed_term st r _ _ (by omega)
theorem rUsed_L1 (st : GState) (out : List Int) (i : Int) (x : Int) (hx : x = st.Cone.getD i.toNat 0) : out.take (flqref14_Used_L1 st out i (((((out.length : Nat) : Int) : Int) - 0).toNat) 0).toNat ++ x :: out.drop (flqref14_Used_L1 st out i (((((out.length : Nat) : Int) : Int) - 0).toNat) 0).toNat = insK (fun x => x) x out := by
 have := insCount (fun x => x) 0 x out (flqref14_Used_L1 st out i) (fun _ => rfl) (fun r k => by rw [flqref14_Used_L1]; simp only [Bool.cond_eq_ite, decide_eq_true_eq, hx]) (((((out.length : Nat) : Int) : Int) - 0).toNat) 0 (by omega) (by omega)
 simpa using this
theorem rUsed_L0 {st : GState} (hp : st.Phase = 3) : ∀ (m : Nat) (l : List Int) (i : Int), 0 ≤ i ∧ i ≤ (st.Cone.length : Int) ∧ (st.Cone.length : Int) - i < (m : Int) → flqref14_Used_L0 st m (srtK (fun x => x) l) i = .brk (srtK (fun x => x) (l ++ useL st m i))
 | 0, l, i, h => by omega
 | m + 1, l, i, h => by
  rw [flqref14_Used_L0, useL]
  simp only [hp, beq_self_eq_true, cond_true, Bool.cond_eq_ite, decide_eq_true_eq]
  by_cases hc : i < (st.Cone.length : Int) ∧ i < (st.Leaf.length : Int)
  ·rw [if_pos hc.1, if_pos hc.2, if_pos hc]
   cases e : st.Leaf.getD i.toNat false with
   | true =>
    simp only [Bool.not_true, Bool.false_eq_true, if_false, if_true]
    have := rUsed_L1 st (srtK (fun x => x) l) i (st.Cone.getD i.toNat 0) rfl
    rw [List.drop_zero, List.take_length, List.append_assoc, List.singleton_append, this, ← srtK_snoc, rUsed_L0 hp m _ _ (by omega), List.append_assoc]
    rfl
   | false => simp only [Bool.not_false, Bool.false_eq_true, if_false, if_true]; exact rUsed_L0 hp m _ _ (by omega)
  ·rw [if_neg hc, List.append_nil]
   repeat' split
   all_goals first | rfl | (exfalso; omega)
theorem rUsed_eq {st : GState} (hp : st.Phase = 3) : flqref14_Used st = srtK (fun x => x) (useL st (st.Cone.length + 1) 0) := by
 unfold flqref14_Used
 have := rUsed_L0 hp (st.Cone.length + 1) [] 0 (by omega)
 rw [show srtK (fun x : Int => x) [] = [] from rfl] at this
 rw [this]; rfl
theorem Used_eq (st : GState) : solver_Used st = flqref14_Used st := by
 by_cases h : st.Phase = 3
 ·rw [pUsed_eq h, rUsed_eq h]
 ·have e : (st.Phase == 3) = false := by simp [h]
  unfold solver_Used flqref14_Used
  rw [solver_Used_L0, flqref14_Used_L0, e]; rfl
theorem steps_true {s : GSystem} {k : List GKnown} {st : GState} (h : VStt s k st) : flqlaw15_steps s k st = true := by
 unfold flqlaw15_steps
 simp only [Step_eq h, Answer_eq, Final_eq, Used_eq, Valid8_eq, SameState_self, Same_refl, SameKnown_self, Ints_self, beq_self_eq_true, cond_true]
theorem Steps_L1 {x : Gtask} : ∀ (m : Nat) (st : GState) (n : Int), VStt x.S x.K st → flqlaw15_SolverSteps_L1 x.S.Width x.S.Deps x.S.Transfers x.S.Boundary x.K m st.Phase st.Cone st.Leaf st.At st.Edge st.Values st.Queue st.Steps n = .brk ()
 | 0, st, n, h => rfl
 | m + 1, st, n, h => by
  rw [flqlaw15_SolverSteps_L1]
  have e : flqlaw15_steps (GSystem.mk x.S.Width x.S.Deps x.S.Transfers x.S.Boundary) x.K (GState.mk st.Phase st.Cone st.Leaf st.At st.Edge st.Values st.Queue st.Steps) = true := steps_true h
  simp only [e, Bool.not_true, cond_false]
  by_cases hp : st.Phase = 3
  ·rw [beqI hp]; rfl
  ·rw [bneI hp, show (⟨x.S.Width, x.S.Deps, x.S.Transfers, x.S.Boundary⟩ : GSystem) = x.S from rfl, show (⟨st.Phase, st.Cone, st.Leaf, st.At, st.Edge, st.Values, st.Queue, st.Steps⟩ : GState) = st from rfl, RStep_eq h hp]
   exact Steps_L1 m (sstep x.S x.K st) (n + 1) (sstep_V h hp)
theorem Steps_L0 (t : List Int) : ∀ (m : Nat) (k i : Int), flqlaw15_SolverSteps_L0 t m k i = .brk ()
 | 0, k, i => rfl
 | m + 1, k, i => by
  obtain ⟨v, hx⟩ := draw_task t k
  have e := Steps_L1 (x := (flqlaw15_draw t k).1) (fl 60) (solver_Start (flqlaw15_draw t k).1.Root) 0 (start_V hx.sys (task_known hx) hx.r)
  rw [flqlaw15_SolverSteps_L0]
  simp only [e]
  exact Steps_L0 t m _ _
theorem SolverSteps_true (t : List Int) : flqlaw15_SolverSteps t = true := by
 unfold flqlaw15_SolverSteps
 simp only [Steps_L0]
 exact sane15_true
theorem st94 : stTy Tryz.prog 94 = some ([(0, 1), (1, 1)], [.slice none 0 0, vi 0]) := by kernel_rfl
theorem un3 : Tryz.prog.underlying 3 = some (.int .i64) := by kernel_rfl
theorem un123 : Tryz.prog.underlying 123 = some (.int .u64) := by kernel_rfl
theorem fo94_1 : fldOff Tryz.prog 94 1 = some 1 := by kernel_rfl
theorem fo94_0 : fldOff Tryz.prog 94 0 = some 0 := by kernel_rfl
theorem sh22 : tyShape Tryz.prog 22 = some (false, 1) := by kernel_rfl
theorem ca69 : callable Tryz.prog 69 = true := by kernel_rfl
theorem fmix : Tryz.prog.follows .mixedOrders = true := by kernel_rfl
theorem sl22 : slTy Tryz.prog 22 = some (3, 1, 8) := by kernel_rfl
theorem sh3 : tyShape Tryz.prog 3 = some (false, 1) := by kernel_rfl
theorem ze42 : zeroOf Tryz.prog 42 = some (.agg #[vi 0, .slice none 0 0]) := by kernel_rfl
theorem sl40 : slTy Tryz.prog 40 = some (122, 1, 8) := by kernel_rfl
theorem sz40 : slZero Tryz.prog 40 = some [u64 (0#64)] := by kernel_rfl
theorem st42 : stTy Tryz.prog 42 = some ([(0, 1), (1, 1)], [vi 0, .slice none 0 0]) := by kernel_rfl
theorem sh42 : tyShape Tryz.prog 42 = some (true, 2) := by kernel_rfl
theorem fo42_0 : fldOff Tryz.prog 42 0 = some 0 := by kernel_rfl
theorem ca67 : callable Tryz.prog 67 = true := by kernel_rfl
theorem fo42_1 : fldOff Tryz.prog 42 1 = some 1 := by kernel_rfl
theorem sh40 : tyShape Tryz.prog 40 = some (false, 1) := by kernel_rfl
theorem sh122 : tyShape Tryz.prog 122 = some (false, 1) := by kernel_rfl
theorem ca79 : callable Tryz.prog 79 = true := by kernel_rfl
theorem ca19 : callable Tryz.prog 19 = true := by kernel_rfl
theorem sz22 : slZero Tryz.prog 22 = some [vi 0] := by kernel_rfl
theorem ze98 : zeroOf Tryz.prog 98 = some (.agg #[vi 0, .slice none 0 0, vi 0, .slice none 0 0, .slice none 0 0]) := by kernel_rfl
theorem st98 : stTy Tryz.prog 98 = some ([(0, 2), (2, 2), (4, 1)], [vi 0, .slice none 0 0, vi 0, .slice none 0 0, .slice none 0 0]) := by kernel_rfl
theorem sh98 : tyShape Tryz.prog 98 = some (true, 5) := by kernel_rfl
theorem fo98_0 : fldOff Tryz.prog 98 0 = some 0 := by kernel_rfl
theorem fo98_1 : fldOff Tryz.prog 98 1 = some 2 := by kernel_rfl
theorem fo98_2 : fldOff Tryz.prog 98 2 = some 4 := by kernel_rfl
theorem sh96 : tyShape Tryz.prog 96 = some (false, 1) := by kernel_rfl
theorem sl96 : slTy Tryz.prog 96 = some (147, 2, 16) := by kernel_rfl
theorem st147 : stTy Tryz.prog 147 = some ([(0, 1), (1, 1)], [vi 0, vi 0]) := by kernel_rfl
theorem sz96 : slZero Tryz.prog 96 = some [vi 0, vi 0] := by kernel_rfl
theorem ze27 : zeroOf Tryz.prog 27 = some (.agg #[vi 0, .slice none 0 0, .slice none 0 0, .slice none 0 0]) := by kernel_rfl
theorem ca66 : callable Tryz.prog 66 = true := by kernel_rfl
theorem st27 : stTy Tryz.prog 27 = some ([(0, 1), (1, 1), (2, 1), (3, 1)], [vi 0, .slice none 0 0, .slice none 0 0, .slice none 0 0]) := by kernel_rfl
theorem sh27 : tyShape Tryz.prog 27 = some (true, 4) := by kernel_rfl
theorem ca46 : callable Tryz.prog 46 = true := by kernel_rfl
theorem fo27_0 : fldOff Tryz.prog 27 0 = some 0 := by kernel_rfl
theorem ca23 : callable Tryz.prog 23 = true := by kernel_rfl
theorem fo27_1 : fldOff Tryz.prog 27 1 = some 1 := by kernel_rfl
theorem sh23 : tyShape Tryz.prog 23 = some (false, 1) := by kernel_rfl
theorem sl23 : slTy Tryz.prog 23 = some (22, 1, 24) := by kernel_rfl
theorem sz23 : slZero Tryz.prog 23 = some [.slice none 0 0] := by kernel_rfl
theorem sz25 : slZero Tryz.prog 25 = some [vi 0, .slice none 0 0] := by kernel_rfl
theorem fo27_2 : fldOff Tryz.prog 27 2 = some 2 := by kernel_rfl
theorem sh24 : tyShape Tryz.prog 24 = some (false, 1) := by kernel_rfl
theorem ca68 : callable Tryz.prog 68 = true := by kernel_rfl
theorem sl24 : slTy Tryz.prog 24 = some (98, 5, 88) := by kernel_rfl
theorem sz24 : slZero Tryz.prog 24 = some [vi 0, .slice none 0 0, vi 0, .slice none 0 0, .slice none 0 0] := by kernel_rfl
theorem fo27_3 : fldOff Tryz.prog 27 3 = some 3 := by kernel_rfl
theorem sh25 : tyShape Tryz.prog 25 = some (false, 1) := by kernel_rfl
theorem sl25 : slTy Tryz.prog 25 = some (42, 2, 32) := by kernel_rfl
theorem fo147_0 : fldOff Tryz.prog 147 0 = some 0 := by kernel_rfl
theorem fo147_1 : fldOff Tryz.prog 147 1 = some 1 := by kernel_rfl
theorem ca91 : callable Tryz.prog 91 = true := by kernel_rfl
theorem sh147 : tyShape Tryz.prog 147 = some (true, 2) := by kernel_rfl
theorem ze147 : zeroOf Tryz.prog 147 = some (.agg #[vi 0, vi 0]) := by kernel_rfl
theorem ca210 : callable Tryz.prog 210 = true := by kernel_rfl
theorem ca150 : callable Tryz.prog 150 = true := by kernel_rfl
theorem ca151 : callable Tryz.prog 151 = true := by kernel_rfl
theorem ca31 : callable Tryz.prog 31 = true := by kernel_rfl
theorem ca153 : callable Tryz.prog 153 = true := by kernel_rfl
theorem ca78 : callable Tryz.prog 78 = true := by kernel_rfl
theorem ca209 : callable Tryz.prog 209 = true := by kernel_rfl
theorem ca206 : callable Tryz.prog 206 = true := by kernel_rfl
theorem ca145 : callable Tryz.prog 145 = true := by kernel_rfl
theorem ca22 : callable Tryz.prog 22 = true := by kernel_rfl
theorem ca74 : callable Tryz.prog 74 = true := by kernel_rfl
theorem ca98 : callable Tryz.prog 98 = true := by kernel_rfl
theorem ca99 : callable Tryz.prog 99 = true := by kernel_rfl
theorem ca161 : callable Tryz.prog 161 = true := by kernel_rfl
theorem ca162 : callable Tryz.prog 162 = true := by kernel_rfl
theorem ca152 : callable Tryz.prog 152 = true := by kernel_rfl
theorem ca45 : callable Tryz.prog 45 = true := by kernel_rfl
theorem ca75 : callable Tryz.prog 75 = true := by kernel_rfl
theorem ca76 : callable Tryz.prog 76 = true := by kernel_rfl
theorem ca77 : callable Tryz.prog 77 = true := by kernel_rfl
theorem ze55 : zeroOf Tryz.prog 55 = some (.agg #[vi 0, .slice none 0 0, .slice none 0 0, .slice none 0 0, .slice none 0 0, vi 0]) := by kernel_rfl
theorem ca18 : callable Tryz.prog 18 = true := by kernel_rfl
theorem st55 : stTy Tryz.prog 55 = some ([(0, 4), (4, 1), (5, 1)], [vi 0, .slice none 0 0, .slice none 0 0, .slice none 0 0, .slice none 0 0, vi 0]) := by kernel_rfl
theorem sh55 : tyShape Tryz.prog 55 = some (true, 6) := by kernel_rfl
theorem fo55_0 : fldOff Tryz.prog 55 0 = some 0 := by kernel_rfl
theorem ca21 : callable Tryz.prog 21 = true := by kernel_rfl
theorem fo55_1 : fldOff Tryz.prog 55 1 = some 4 := by kernel_rfl
theorem sh53 : tyShape Tryz.prog 53 = some (false, 1) := by kernel_rfl
theorem st67 : stTy Tryz.prog 67 = some ([(0, 1), (1, 2)], [vi 0, vi 0, .slice none 0 0]) := by kernel_rfl
theorem sl53 : slTy Tryz.prog 53 = some (67, 3, 40) := by kernel_rfl
theorem sz53 : slZero Tryz.prog 53 = some [vi 0, vi 0, .slice none 0 0] := by kernel_rfl
theorem fo55_2 : fldOff Tryz.prog 55 2 = some 5 := by kernel_rfl
theorem ze59 : zeroOf Tryz.prog 59 = some (.agg #[vi 0, .slice none 0 0, .slice none 0 0, vi 0, vi 0, .slice none 0 0, .slice none 0 0, vi 0]) := by kernel_rfl
theorem st59 : stTy Tryz.prog 59 = some ([(0, 1), (1, 1), (2, 1), (3, 1), (4, 1), (5, 1), (6, 1), (7, 1)], [vi 0, .slice none 0 0, .slice none 0 0, vi 0, vi 0, .slice none 0 0, .slice none 0 0, vi 0]) := by kernel_rfl
theorem sh59 : tyShape Tryz.prog 59 = some (true, 8) := by kernel_rfl
theorem ca109 : callable Tryz.prog 109 = true := by kernel_rfl
theorem ca118 : callable Tryz.prog 118 = true := by kernel_rfl
theorem sz57 : slZero Tryz.prog 57 = some [vb false] := by kernel_rfl
theorem ze57 : zeroOf Tryz.prog 57 = some (.slice none 0 0) := by kernel_rfl
theorem ca82 : callable Tryz.prog 82 = true := by kernel_rfl
theorem ca238 : callable Tryz.prog 238 = true := by kernel_rfl
theorem sh57 : tyShape Tryz.prog 57 = some (false, 1) := by kernel_rfl
theorem sl57 : slTy Tryz.prog 57 = some (4, 1, 1) := by kernel_rfl
theorem sh4 : tyShape Tryz.prog 4 = some (false, 1) := by kernel_rfl
theorem ca281 : callable Tryz.prog 281 = true := by kernel_rfl
theorem ca200 : callable Tryz.prog 200 = true := by kernel_rfl
theorem ca201 : callable Tryz.prog 201 = true := by kernel_rfl
theorem ca202 : callable Tryz.prog 202 = true := by kernel_rfl
theorem ca123 : callable Tryz.prog 123 = true := by kernel_rfl
theorem ca240 : callable Tryz.prog 240 = true := by kernel_rfl
theorem ca239 : callable Tryz.prog 239 = true := by kernel_rfl
theorem ca241 : callable Tryz.prog 241 = true := by kernel_rfl
theorem ca208 : callable Tryz.prog 208 = true := by kernel_rfl
theorem ca148 : callable Tryz.prog 148 = true := by kernel_rfl
theorem ca259 : callable Tryz.prog 259 = true := by kernel_rfl
theorem ca157 : callable Tryz.prog 157 = true := by kernel_rfl
theorem ca212 : callable Tryz.prog 212 = true := by kernel_rfl
theorem ca156 : callable Tryz.prog 156 = true := by kernel_rfl
theorem ca190 : callable Tryz.prog 190 = true := by kernel_rfl
theorem ca185 : callable Tryz.prog 185 = true := by kernel_rfl
theorem ca186 : callable Tryz.prog 186 = true := by kernel_rfl
theorem ca187 : callable Tryz.prog 187 = true := by kernel_rfl
theorem ca189 : callable Tryz.prog 189 = true := by kernel_rfl
theorem ca188 : callable Tryz.prog 188 = true := by kernel_rfl
theorem sh67 : tyShape Tryz.prog 67 = some (true, 3) := by kernel_rfl
theorem ze67 : zeroOf Tryz.prog 67 = some (.agg #[vi 0, vi 0, .slice none 0 0]) := by kernel_rfl
theorem fo67_0 : fldOff Tryz.prog 67 0 = some 0 := by kernel_rfl
theorem fo67_1 : fldOff Tryz.prog 67 1 = some 1 := by kernel_rfl
theorem ca211 : callable Tryz.prog 211 = true := by kernel_rfl
theorem ca233 : callable Tryz.prog 233 = true := by kernel_rfl
theorem ca127 : callable Tryz.prog 127 = true := by kernel_rfl
theorem ca129 : callable Tryz.prog 129 = true := by kernel_rfl
theorem fo59_3 : fldOff Tryz.prog 59 3 = some 3 := by kernel_rfl
theorem fo59_1 : fldOff Tryz.prog 59 1 = some 1 := by kernel_rfl
theorem fo59_5 : fldOff Tryz.prog 59 5 = some 5 := by kernel_rfl
theorem fo59_6 : fldOff Tryz.prog 59 6 = some 6 := by kernel_rfl
theorem ca132 : callable Tryz.prog 132 = true := by kernel_rfl
theorem fo59_2 : fldOff Tryz.prog 59 2 = some 2 := by kernel_rfl
theorem un4 : Tryz.prog.underlying 4 = some .bool := by kernel_rfl
theorem ca231 : callable Tryz.prog 231 = true := by kernel_rfl
theorem fo59_4 : fldOff Tryz.prog 59 4 = some 4 := by kernel_rfl
theorem ca177 : callable Tryz.prog 177 = true := by kernel_rfl
theorem ca182 : callable Tryz.prog 182 = true := by kernel_rfl
theorem ca198 : callable Tryz.prog 198 = true := by kernel_rfl
theorem ca154 : callable Tryz.prog 154 = true := by kernel_rfl
theorem ca101 : callable Tryz.prog 101 = true := by kernel_rfl
theorem ca183 : callable Tryz.prog 183 = true := by kernel_rfl
theorem fo59_0 : fldOff Tryz.prog 59 0 = some 0 := by kernel_rfl
theorem ca131 : callable Tryz.prog 131 = true := by kernel_rfl
theorem ca232 : callable Tryz.prog 232 = true := by kernel_rfl
theorem ca100 : callable Tryz.prog 100 = true := by kernel_rfl
theorem ca102 : callable Tryz.prog 102 = true := by kernel_rfl
theorem ca103 : callable Tryz.prog 103 = true := by kernel_rfl
theorem ca171 : callable Tryz.prog 171 = true := by kernel_rfl
theorem fo59_7 : fldOff Tryz.prog 59 7 = some 7 := by kernel_rfl
theorem ca172 : callable Tryz.prog 172 = true := by kernel_rfl
theorem ca173 : callable Tryz.prog 173 = true := by kernel_rfl
theorem ca174 : callable Tryz.prog 174 = true := by kernel_rfl
theorem un40 : Tryz.prog.underlying 40 = some (.slice 122) := by kernel_rfl
theorem ca184 : callable Tryz.prog 184 = true := by kernel_rfl
theorem un22 : Tryz.prog.underlying 22 = some (.slice 3) := by kernel_rfl
theorem un57 : Tryz.prog.underlying 57 = some (.slice 4) := by kernel_rfl
theorem ca175 : callable Tryz.prog 175 = true := by kernel_rfl
theorem ca176 : callable Tryz.prog 176 = true := by kernel_rfl
theorem ca106 : callable Tryz.prog 106 = true := by kernel_rfl
theorem ca178 : callable Tryz.prog 178 = true := by kernel_rfl
theorem ca160 : callable Tryz.prog 160 = true := by kernel_rfl
theorem ca236 : callable Tryz.prog 236 = true := by kernel_rfl
theorem ca262 : callable Tryz.prog 262 = true := by kernel_rfl
theorem ca235 : callable Tryz.prog 235 = true := by kernel_rfl
theorem ca299 : callable Tryz.prog 299 = true := by kernel_rfl
theorem ca294 : callable Tryz.prog 294 = true := by kernel_rfl
theorem ca214 : callable Tryz.prog 214 = true := by kernel_rfl
theorem ca180 : callable Tryz.prog 180 = true := by kernel_rfl
theorem ca85 : callable Tryz.prog 85 = true := by kernel_rfl
theorem ca280 : callable Tryz.prog 280 = true := by kernel_rfl
theorem ca234 : callable Tryz.prog 234 = true := by kernel_rfl
theorem ca237 : callable Tryz.prog 237 = true := by kernel_rfl
theorem ca57 : callable Tryz.prog 57 = true := by kernel_rfl
theorem ca179 : callable Tryz.prog 179 = true := by kernel_rfl
theorem ca181 : callable Tryz.prog 181 = true := by kernel_rfl
theorem ca42 : callable Tryz.prog 42 = true := by kernel_rfl
theorem ca93 : callable Tryz.prog 93 = true := by kernel_rfl
theorem ca94 : callable Tryz.prog 94 = true := by kernel_rfl
theorem ca95 : callable Tryz.prog 95 = true := by kernel_rfl
theorem ca35 : callable Tryz.prog 35 = true := by kernel_rfl
theorem ca96 : callable Tryz.prog 96 = true := by kernel_rfl
theorem ca97 : callable Tryz.prog 97 = true := by kernel_rfl
theorem ca38 : callable Tryz.prog 38 = true := by kernel_rfl
theorem ca41 : callable Tryz.prog 41 = true := by kernel_rfl
theorem ca44 : callable Tryz.prog 44 = true := by kernel_rfl
theorem ca40 : callable Tryz.prog 40 = true := by kernel_rfl
theorem ca133 : callable Tryz.prog 133 = true := by kernel_rfl
theorem ca205 : callable Tryz.prog 205 = true := by kernel_rfl
theorem ca92 : callable Tryz.prog 92 = true := by kernel_rfl
theorem ca142 : callable Tryz.prog 142 = true := by kernel_rfl
theorem ca143 : callable Tryz.prog 143 = true := by kernel_rfl
theorem ca144 : callable Tryz.prog 144 = true := by kernel_rfl
theorem ca58 : callable Tryz.prog 58 = true := by kernel_rfl
theorem ca257 : callable Tryz.prog 257 = true := by kernel_rfl
theorem ca207 : callable Tryz.prog 207 = true := by kernel_rfl
theorem ca147 : callable Tryz.prog 147 = true := by kernel_rfl
theorem ca146 : callable Tryz.prog 146 = true := by kernel_rfl
theorem ca252 : callable Tryz.prog 252 = true := by kernel_rfl
theorem ca246 : callable Tryz.prog 246 = true := by kernel_rfl
theorem un5 : Tryz.prog.underlying 5 = some (.int .u8) := by kernel_rfl
theorem un122 : Tryz.prog.underlying 122 = some (.int .u64) := by kernel_rfl
theorem un9 : Tryz.prog.underlying 9 = some .string := by kernel_rfl
theorem ca256 : callable Tryz.prog 256 = true := by kernel_rfl
theorem ca204 : callable Tryz.prog 204 = true := by kernel_rfl
theorem ca203 : callable Tryz.prog 203 = true := by kernel_rfl
theorem ca130 : callable Tryz.prog 130 = true := by kernel_rfl
theorem ca17 : callable Tryz.prog 17 = true := by kernel_rfl
theorem ca32 : callable Tryz.prog 32 = true := by kernel_rfl
theorem ca36 : callable Tryz.prog 36 = true := by kernel_rfl
theorem ca37 : callable Tryz.prog 37 = true := by kernel_rfl
theorem ca63 : callable Tryz.prog 63 = true := by kernel_rfl
theorem ca64 : callable Tryz.prog 64 = true := by kernel_rfl
theorem ca62 : callable Tryz.prog 62 = true := by kernel_rfl
theorem ca138 : callable Tryz.prog 138 = true := by kernel_rfl
theorem ca140 : callable Tryz.prog 140 = true := by kernel_rfl
theorem ca139 : callable Tryz.prog 139 = true := by kernel_rfl
theorem ca141 : callable Tryz.prog 141 = true := by kernel_rfl
theorem ca61 : callable Tryz.prog 61 = true := by kernel_rfl
theorem fn17 (l : List Int) (la0 : Option Addr) (lk0 : Nat) (rr : Unit) (hrr : flqgen_New l = rr) : FT Tryz.prog 17 #[vl la0 lk0 l] [S la0 lk0 l] (fun g : Value => True) (fun g => g) (fun g => [Cl g [vl la0 lk0 l, vi 0]]) := by
 refine FTi Tryz.func17 fun w0 M0 F0 => Fb 8 0 fun _ => Fo 0 fun ho2 => ?_
 refine KS ?_
 refine Oq Va (KS ?_)
 refine Oq Vm (Oq (Vbd st94 [vl la0 lk0 l, vi 0]) (Oa (AbO [vl la0 lk0 l, vi 0]) fun p3 => Oq Va (KS ?_)))
 have hq := q4 hrr () (by simp only [flqgen_New, cs4]); subst hq
 exact Kr p3 rfl (.tmp rfl .nil) [0] trivial
theorem fn69 (v : Int) (n : Int) (hv_0 : i64ok v) (hn_0 : i64ok n) (hn1 : 1 ≤ n) (rr : Int) (hrr : flqgen_Mod v n = rr) : FT Tryz.prog 69 #[vi v, vi n] [] (fun g : Unit => i64ok rr ∧ (0 ≤ rr ∧ rr < n)) (fun g => vi rr) (fun g => []) := by
 refine FTi Tryz.func69 fun w0 M0 F0 => ?_
 unfold i64ok at hv_0 hn_0
 have hm := mod_range v n (by omega)
 refine KS ?_
 refine Oq Va (KS ?_)
 refine Oq Vm (Oq (VcU un3 un123) (Oq Vm (Oq (VcU un3 un123) (Oq (VremU (ofInt_ne n (by omega))) (Oq (VcN un123 un3 (h := (mod_le v n (by omega)))) (Oq Va (KS ?_)))))))
 have hq := q4 hrr (((BitVec.ofInt 64 v) % (BitVec.ofInt 64 n)).toNat : Int) (by simp only [flqgen_Mod, cs4]); subst hq
 exact Kr () rfl (.tmp rfl .nil) [] en
theorem fn19 (tP : Value) (ta : Option Addr) (tk : Nat) (tT : List Int) (tI : Int) (n : Int) (htI : 0 ≤ tI ∧ tI ≤ (tT.length : Int)) (hn_0 : i64ok n) (rr : Int × Int) (hrr : Tape_Next tT tI n = rr) : FT Tryz.prog 19 #[tP, vi n] [Cl tP [vl ta tk tT, vi tI], S ta tk tT] (fun g : Unit => i64ok rr.1 ∧ (0 ≤ rr.2 ∧ rr.2 ≤ (tT.length : Int)) ∧ (0 ≤ rr.1 ∧ (rr.1 < n ∨ rr.1 = 0))) (fun g => vi rr.1) (fun g => [Cl tP [vl ta tk tT, vi rr.2]]) := by
 refine FTi Tryz.func19 fun w0 M0 F0 => ?_
 unfold i64ok at hn_0
 refine Fb 8 1 fun _ => Fo 1 fun ho2 => KS ?_
 refine Oq Va (KS ?_)
 refine Jp 0 fun hp3 => ?_
 refine Kq [0, 1, 3, 7, 15, 31, 63, 7, 135, 391, 903, 1927, 4095, 8191] fmix ?_
 refine Qv [] Vm (Qv [] Vleq ?_)
 refine bool_split (decide (n ≤ 1)) ?_ ?_
 ·intro h4
  have g5 := dt h4
  refine Qb h4 [] Vm (Qs (Qs (Qs (Qs (Qs (Qs (Qs (Qs (Qs ?_)))))))))
  refine Qs (Qv [] Vpt ?_)
  refine Qn ⟨by kernel_rfl, ?_⟩
  refine Kt (KS ?_)
  refine Oq Va (KS ?_)
  have hq := q4 hrr (0, tI) (by simp only [Tape_Next, h4, cs4]); subst hq
  exact Kr () rfl (.tmp rfl .nil) [1] en
 intro h4
 have g6 := df h4
 refine Qb h4 [] Vm (Qv [] Vm (Qv [0] (Vn 0) (Qv [0] (Vfa fo94_1 0) (Qv [1] (VldF sh3 0) (Qv [] Vm (Qv [0] (Vn 0) (Qv [0] (Vfa fo94_0 0) (Qv [1] (VldF sh22 0) (Qv [] (Vlen sl22) ?_)))))))))
 refine Qv [] Vgeq (Qv [] Vpf ?_)
 refine Qn ⟨by kernel_rfl, ?_⟩
 refine Kc ?_ ?_
 ·intro h7
  have g8 := dt h7
  refine KS ?_
  refine Oq Va (KS ?_)
  have hq := q4 hrr (0, tI) (by simp only [Tape_Next, h4, h7, cs4]); subst hq
  exact Kr () rfl (.tmp rfl .nil) [1] en
 intro h7
 have g9 := df h7
 refine KS ?_
 refine Oq Vm (Oq (Vn 1) (Oq (Vfa fo94_1 1) (Oq (VldF sh3 1) (Oq Vadd (Oq (Vn 1) (Oq (Vfa fo94_1 1) (Ost (SclF [1] sh3 [vl ta tk tT, vi (tI + 1)]) (KS ?_))))))))
 refine JK_drawK [0, 1, 3, 7, 0, 16, 48, 112, 240, 511, 1023, 0, 4095, 8191] fmix ?_
 refine Dv [] Vm (Dv [1] (Vn 0) (Dv [1] (Vfa fo94_0 0) (Dv [0] (VldF sh22 0) (Dv [] Vm (Dv [1] (Vn 0) (Dv [1] (Vfa fo94_1 0) (Dv [0] (VldF sh3 0) (Dv [] Vsub (Dv [2] (Vi sl22 0) ?_)))))))))
 have hb10 := ok1 (i := (((tI + 1) - 1) : Int).toNat) ho2 rng
 refine Dv [2] (VldI sh3 0) (Dv [] Vm ?_)
 refine letv (flqgen_Mod (tT.getD (((tI + 1) - 1) : Int).toNat 0) n) fun rv11 hg12 => ?_
 refine Dx [] [] [0] (fun G => vi rv11) [fun G => SP.fact (i64ok rv11 ∧ (0 ≤ rv11 ∧ rv11 < n))] (fun G => xC [] ca69 (fn69 ((tT.getD (((tI + 1) - 1) : Int).toNat 0)) n pre pre pre rv11 hg12)) (Dv [] Va ?_)
 refine Dn ⟨by kernel_rfl, fun G => ?_⟩
 refine Jw2 [(4, vi rv11)] [0, 1, 2] [SP.fact (i64ok rv11 ∧ (0 ≤ rv11 ∧ rv11 < n))] ?_
 refine Jf 3 rfl ?_; rintro ⟨he13, he14⟩
 unfold i64ok at he13
 refine Jk [0, 1] ?_
 have hq := q4 hrr (rv11, (tI + 1)) (by simp only [Tape_Next, h4, h7, hg12, cs4]); subst hq
 exact Kr () rfl (.tmp rfl .nil) [0] en
theorem fn67 (width : Int) (hwidth_0 : i64ok width) (hw0 : 0 ≤ width ∧ width ≤ 1000000) (rr : GSet) (hrr : flqref1_Empty width = rr) : FT Tryz.prog 67 #[vi width] [] (fun g : Value => i64ok rr.Width ∧ (rr.Width = width) ∧ (rr.Words.length = (((width : Int) + 63) / 64).toNat)) (fun g => .agg #[vi rr.Width, g]) (fun g => [os g rr.Words]) := by
 refine FTi Tryz.func67 fun w0 M0 F0 => ?_
 unfold i64ok at hwidth_0
 refine KS ?_
 refine Oa (Al ze42 [vi 0, .slice none 0 0]) fun p1 => KS ?_
 refine Oq Vm (Oq Vm (Oq Vadd (Oq Vquo (Oa (Amk (α := BitVec 64) sl40 sz40 0#64 (fun _ _ => rfl)) fun c2 => ?_))))
 refine Jo 0 ?_; rintro a3 k4 rfl
 refine Fb 8 0 fun _ => ?_
 have hn6 := List.length_replicate (n := (((width + 63) / 64) : Int).toNat) (a := 0#64)
 refine Oq (Vbd st42 [vi width, vl a3 k4 (List.replicate (((width + 63) / 64) : Int).toNat 0#64)]) (Ost (Scl [1] sh42 [vi width, vl a3 k4 (List.replicate (((width + 63) / 64) : Int).toNat 0#64)]) (KS ?_))
 have hq := q4 hrr (GSet.mk width (List.replicate (((width + 63) / 64) : Int).toNat 0#64)) (by simp only [flqref1_Empty, cs4]); subst hq
 exact Kr (vl a3 k4 (List.replicate (((width + 63) / 64) : Int).toNat 0#64)) rfl (.cellN 0 rfl sh42 rfl (reads_Cl _ _) rfl .nil) [1] en
theorem fn79 (s : GSet) (sa1 : Option Addr) (sk1 : Nat) (b : Int) (hs_0 : i64ok s.Width) (hb_0 : i64ok b) (hb0 : 0 ≤ b ∧ b < s.Width) (hw0 : s.Width ≤ 1000000) (rr : GSet) (hrr : flqref1_Put s b = rr) : FT Tryz.prog 79 #[.agg #[vi s.Width, vl sa1 sk1 s.Words], vi b] [S sa1 sk1 s.Words] (fun g : Value => i64ok rr.Width ∧ (rr.Width = s.Width) ∧ (rr.Words.length = ((s.Width + 63) / 64).toNat)) (fun g => .agg #[vi rr.Width, g]) (fun g => [os g rr.Words]) := by
 refine FTi Tryz.func79 fun w0 M0 F0 => ?_
 unfold i64ok at hs_0 hb_0
 refine Fb 8 0 fun _ => KS ?_
 refine Oa (Ab [vi s.Width, vl sa1 sk1 s.Words]) fun p2 => Oa (Al ze42 [vi 0, .slice none 0 0]) fun p3 => KS ?_
 refine Oq (Vfa fo42_0 1) (Oq (VldF sh3 1) ?_)
 refine letv (flqref1_Empty s.Width) fun rv5 hg6 => ?_
 have hc7 := fn67 s.Width pre pre rv5 hg6
 refine Oc [] ca67 hc7 ?_
 rintro c4 ⟨he8, he9, he10⟩
 unfold i64ok at he8
 refine Jo 0 ?_; rintro a11 k12 rfl
 refine Fb 8 0 fun _ => ?_
 refine Oa (Al ze42 [vi 0, .slice none 0 0]) fun p14 => Ost (Scl [0] sh42 [vi rv5.Width, vl a11 k12 rv5.Words]) (KS ?_)
 refine Oq (Vfa fo42_1 0) (Oq (VldF sh40 0) (Oq (Vfa fo42_1 3) (Oq (VldF sh40 3) (Oa (OpA.frame [1, 3] rfl (OpA.copyS (α := BitVec 64) rfl rfl rfl sl40 rfl)) fun u15 => ?_))))
 have hn16 : (s.Words.take rv5.Words.length ++ rv5.Words.drop s.Words.length).length = rv5.Words.length := len_copy _ _
 refine KS ?_
 refine Oq (Vfa fo42_1 1) (Oq (VldF sh40 1) (Oq Vm (Oq Vquo (Oq (Vi sl40 0) (Oq (VldU sh122 0) (Oq Vm (Oq Vrem (Oq (VcU un3 un123) (Oq (VshlU (a := 1#64)) ?_)))))))))
 refine Oq VorU (Oq (Vi sl40 0) (Ost (SoU [0] sh122) (KS ?_)))
 refine Oq (VldA sh42 1) (Ost (Scl [2] sh42 [vi rv5.Width, vl a11 k12 rv5.Words]) (KS ?_))
 have hq := q4 hrr (GSet.mk rv5.Width ((s.Words.take rv5.Words.length ++ rv5.Words.drop s.Words.length).set ((b / 64) : Int).toNat (((s.Words.take rv5.Words.length ++ rv5.Words.drop s.Words.length).getD ((b / 64) : Int).toNat 0#64) ||| (1#64 <<< (((BitVec.ofInt 64 (b % 64)).toNat : Int)).toNat)))) (by simp only [flqref1_Put, hg6, cs4]); subst hq
 exact Kr (vl a11 k12 rv5.Words) rfl (.cellN 0 rfl sh42 rfl (reads_Cl _ _) rfl .nil) [1] en
theorem fn23 (tP : Value) (ta : Option Addr) (tk : Nat) (tT : List Int) (tI : Int) (width : Int) (htI : 0 ≤ tI ∧ tI ≤ (tT.length : Int)) (hwidth_0 : i64ok width) (hw0 : 0 ≤ width ∧ width ≤ 1000) (rr : GSet × Int) (hrr : Tape_Set tT tI width = rr) : FT Tryz.prog 23 #[tP, vi width] [Cl tP [vl ta tk tT, vi tI], S ta tk tT] (fun g : Value => i64ok rr.1.Width ∧ (0 ≤ rr.2 ∧ rr.2 ≤ (tT.length : Int)) ∧ (rr.1.Width = width) ∧ (rr.1.Words.length = (((width : Int) + 63) / 64).toNat)) (fun g => .agg #[vi rr.1.Width, g]) (fun g => [os g rr.1.Words, Cl tP [vl ta tk tT, vi rr.2]]) := by
 refine FTi Tryz.func23 fun w0 M0 F0 => ?_
 unfold i64ok at hwidth_0
 refine Fb 8 1 fun _ => Fo 1 fun ho2 => KS ?_
 refine Oa (Al ze42 [vi 0, .slice none 0 0]) fun p3 => KS ?_
 refine Oq Vm ?_
 refine letv (flqref1_Empty width) fun rv5 hg6 => ?_
 have hc7 := fn67 width pre pre rv5 hg6
 refine Oc [] ca67 hc7 ?_
 rintro c4 ⟨he8, he9, he10⟩
 unfold i64ok at he8
 refine Jo 0 ?_; rintro a11 k12 rfl
 refine Fb 8 0 fun _ => ?_
 refine Oa (Al ze42 [vi 0, .slice none 0 0]) fun p14 => Ost (Scl [0] sh42 [vi rv5.Width, vl a11 k12 rv5.Words]) (KS ?_)
 refine Oq Va (KS ?_)
 refine Kl (γ := Nat × Int × Int × List (BitVec 64) × Int × Option Addr × Nat) (fun (r15, ti_16, s0_17, s1_18, b_19, a20, k21) => ⟨[(0, tP), (1, vi width), (4, p3), (5, p14), (6, vi b_19)], [O a20 k21 s1_18, Cl p14 [vi s0_17, vl a20 k21 s1_18], Cl p3 [vi 0, .slice none 0 0], Cl tP [vl ta tk tT, vi ti_16], S ta tk tT], Tape_Set_L0 tT r15 ti_16 s0_17 s1_18 b_19 = Tape_Set_L0 tT (((width : Int) - 0).toNat) tI rv5.Width rv5.Words 0 ∧ r15 = ((width : Int) - b_19).toNat ∧ (0 : Int) ≤ b_19 ∧ (b_19 ≤ width ∨ b_19 = 0) ∧ (-9223372036854775808 ≤ ti_16 ∧ ti_16 ≤ 9223372036854775807) ∧ (0 ≤ ti_16 ∧ ti_16 ≤ (tT.length : Int)) ∧ (-9223372036854775808 ≤ s0_17 ∧ s0_17 ≤ 9223372036854775807) ∧ (-9223372036854775808 ≤ b_19 ∧ b_19 ≤ 9223372036854775807) ∧ s0_17 = width ∧ s1_18.length = (((width : Int) + 63) / 64).toNat, r15⟩) (((width : Int) - 0).toNat, tI, rv5.Width, rv5.Words, 0, a11, k12) [1, 0, 0, 0, 0] ⟨rfl, rfl, (by omega), (.inr rfl), (by omega), (by omega), (by omega), (by omega), iv0, iv0⟩ ?_
 rintro ⟨r15, ti_16, s0_17, s1_18, b_19, a20, k21⟩ ⟨hM22, hr23, hi24, hi25, hk26, ht27, hk28, hk29, hv30, hv31⟩
 refine JJ_nx fun _ _ hL hA => ?_; dsimp only at hL hA; subst hL hA
 refine Fb 8 0 fun _ => Fb 8 4 fun _ => Fo 4 fun ho34 => KS ?_
 refine Oq Vm (Oq Vm (Oq Vlss (KS ?_)))
 refine Kc ?_ ?_
 ·intro h35
  have g36 := dt h35
  obtain ⟨r37, rfl⟩ := scc (n := r15) (by omega)
  refine KS ?_
  refine Oq Vm ?_
  refine letv (Tape_Next tT ti_16 3) fun rv38 hg39 => ?_
  have hc40 := fn19 tP ta tk tT ti_16 3 pre pre rv38 hg39
  refine Oc [3, 3] ca19 hc40 ?_
  rintro - ⟨he41, he42, he43⟩
  unfold i64ok at he41
  refine Oq Veql (KS ?_)
  refine Kc ?_ ?_
  ·intro h44
   have g45 := eq_of_beq h44
   refine KS ?_
   refine Oq (VldA sh42 2) (Oq Vm ?_)
   refine letv (flqref1_Put (GSet.mk s0_17 s1_18) b_19) fun rv47 hg48 => ?_
   refine Oc [1] ca79 (FT_borrow (A := _) hlx (FT_ent (Ent.take (is := [0]) rfl) (fn79 ((GSet.mk s0_17 s1_18)) a20 k21 b_19 pre pre pre pre rv47 hg48))) ?_ (ht := rfl)
   rintro c46 ⟨he49, he50, he51⟩
   unfold i64ok at he49
   have he50 : (rv47.Width = s0_17) := he50
   have he51 : (rv47.Words.length = ((s0_17 + 63) / 64).toNat) := he51
   refine Jo 1 ?_; rintro a52 k53 rfl
   refine Fb 8 1 fun _ => ?_
   refine Ost (Scl [3] sh42 [vi rv47.Width, vl a52 k53 rv47.Words]) (KS ?_)
   refine Oq Vm (Oq Vadd (Oq Va (KS ?_)))
   exact Kg (r37, rv38.2, rv47.Width, rv47.Words, (b_19 + 1), a52, k53) [2, 0, 2, 1, 1] ⟨(q3 hM22 (by simp only [Tape_Set_L0, h35, h44, hg6, hg39, hg48, cs4])), (by omega), (by omega), (by omega), (by omega), (by omega), (by omega), (by omega), iv1, iv1⟩
  intro h44
  have g55 := ne_of_beq_false h44
  refine KS ?_
  refine Oq Vm (Oq Vadd (Oq Va (KS ?_)))
  exact Kg (r37, rv38.2, s0_17, s1_18, (b_19 + 1), a20, k21) [1, 1, 1, 0, 0] ⟨(q3 hM22 (by simp only [Tape_Set_L0, h35, h44, hg6, hg39, cs4])), (by omega), (by omega), (by omega), (by omega), (by omega), (by omega), (by omega), iv1, iv1⟩
 intro h35
 have g56 := df h35
 obtain rfl : r15 = 0 := by omega
 refine Ke ?_
 have hR57 := q2 hM22 (ti_16, s0_17, s1_18) (by simp only [Tape_Set_L0, h35, hg6, cs4])
 refine KS ?_
 refine Oq (VldA sh42 1) (Ost (Scl [2] sh42 [vi s0_17, vl a20 k21 s1_18]) (KS ?_))
 have hq := q4 hrr ((GSet.mk s0_17 s1_18), ti_16) (by simp only [Tape_Set, h35, hg6, hR57, cs4]); subst hq
 exact Kr (vl a20 k21 s1_18) rfl (.cellN 0 rfl sh42 rfl (reads_Cl _ _) rfl .nil) [1, 2] en
theorem fn46 (l : List Int) (la0 : Option Addr) (lk0 : Nat) (n : Int) (hn_0 : i64ok n) (hl0 : l.length ≤ 1000000000) (rr : List Int) (hrr : flqref7_Insert l n = rr) : FT Tryz.prog 46 #[vl la0 lk0 l, vi n] [S la0 lk0 l] (fun g : Value => (rr.length ≤ l.length + 1)) (fun g => g) (fun g => [sl g rr]) := by
 refine FTi Tryz.func46 fun w0 M0 F0 => ?_
 unfold i64ok at hn_0
 refine Fb 8 0 fun _ => Fo 0 fun ho2 => KS ?_
 refine Oq Va (KS ?_)
 refine Oq Va (KS ?_)
 refine Kl (γ := Nat × Int) (fun (r3, i_4) => ⟨[(0, vl la0 lk0 l), (1, vi n), (5, vi i_4)], [S la0 lk0 l], flqref7_Insert_L0 l n r3 i_4 = flqref7_Insert_L0 l n (((l.length : Int) - 0).toNat) 0 ∧ r3 = ((l.length : Int) - i_4).toNat ∧ (0 : Int) ≤ i_4 ∧ i_4 ≤ (l.length : Int) ∧ (-9223372036854775808 ≤ i_4 ∧ i_4 ≤ 9223372036854775807), r3⟩) (((l.length : Int) - 0).toNat, 0) [0] ⟨rfl, rfl, (by omega), (by omega), (by omega)⟩ ?_
 rintro ⟨r3, i_4⟩ ⟨hM5, hr6, hi7, hi8, hk9⟩
 refine JJ_nx fun _ _ hL hA => ?_; dsimp only at hL hA; subst hL hA
 refine Fb 8 0 fun _ => Fo 0 fun ho11 => KS ?_
 refine Oq Vm (Oq Vm (Oq (Vlen sl22) (Oq Vlss (Oq Vm ?_))))
 refine Js 11 ?_ ?_
 ·intro h12
  have g13 := dt h12
  obtain ⟨r14, rfl⟩ := scc (n := r3) (by omega)
  refine Oq Vm (Oq Vm (Oq (Vi sl22 0) ?_))
  have hb15 := ok1 (i := i_4.toNat) ho11 rng
  refine Oq (VldI sh3 0) (Oq Vm (Oq Vlss (Oq Vpt (KS ?_))))
  refine Kc ?_ ?_
  ·intro h16
   have g17 := dt h16
   refine KS ?_
   refine Oq Vm (Oq Vadd (Oq Va (KS ?_)))
   exact Kg (r14, (i_4 + 1)) [0] ⟨(q3 hM5 (by simp only [flqref7_Insert_L0, h12, h16, cs4])), (by omega), (by omega), (by omega), (by omega)⟩
  intro h16
  have g18 := df h16
  refine Ke ?_
  have hR19 := q2 hM5 i_4 (by simp only [flqref7_Insert_L0, h12, h16, cs4])
  refine KS ?_
  refine Oq Vm (Oq Vm (Oq (Vlen sl22) (Oq Vlss (Oq Vm ?_))))
  refine Js 25 ?_ ?_
  ·intro h20
   have g21 := dt h20
   refine Oq Vm (Oq Vm (Oq (Vi sl22 0) ?_))
   have hb22 := ok1 (i := i_4.toNat) ho11 rng
   refine Oq (VldI sh3 0) (Oq Vm (Oq Veql (Oq Vpt (KS ?_))))
   refine Kc ?_ ?_
   ·intro h23
    have g24 := eq_of_beq h23
    refine KS ?_
    refine Oq Vm (Oq Va (KS ?_))
    have hq := q4 hrr l (by simp only [flqref7_Insert, h12, h16, h20, h23, hR19, cs4]); subst hq
    exact Kr (vl la0 lk0 l) rfl (.tmp rfl .nil) [0] en
   intro h23
   have g25 := ne_of_beq_false h23
   refine KS ?_
   refine Oa (As0 sl22) fun c26 => ?_
   refine Jo 0 ?_; rintro a27 k28 rfl
   refine Oq Vm (Oq Vm (Oa (Asl [1] sl22 0 (i_4.toNat)) fun c29 => ?_))
   refine Jo 0 ?_; rintro a30 k31 rfl
   refine Fb 8 0 fun _ => Fo 0 fun ho33 => ?_
   have hn34 : ((l.take (i_4.toNat)).drop 0).length = (i_4.toNat) - 0 := len_slice rng rng
   refine Jl [1] (Ent.crNil (α := Int) _) ?_
   refine Oa (Ap0 [0, 0] sl22 sl22 sz22) fun c35 => ?_
   refine Jo 0 ?_; rintro a36 k37 rfl
   refine Oq Va (KS ?_)
   refine Oq Vm (Oq Vm (Oa (AsV sl22 sz22 [vi n] [vi n]) fun c38 => ?_))
   refine Jo 0 ?_; rintro a39 k40 rfl
   refine Jl [0] (Ent.crInt _ [n] _ _ rfl rfl (by intro x hx; rw [List.mem_singleton] at hx; subst hx; unfold i64ok; omega) (Nat.le_of_ble_eq_true rfl)) ?_
   refine Oa (ApO [1, 0] sl22 sl22 sz22) fun c41 => ?_
   refine Jo 0 ?_; rintro a42 k43 rfl
   refine Fb 8 0 fun _ => Fo 0 fun ho45 => ?_
   have hn46 := la ((l.take (i_4.toNat)).drop 0) ([n] : List Int)
   refine Oq Va (KS ?_)
   refine Oq Vm (Oq Vm (Oq Vm (Oa (Asl [2] sl22 (i_4.toNat) l.length) fun c47 => ?_)))
   refine Jo 0 ?_; rintro a48 k49 rfl
   refine Fb 8 0 fun _ => Fo 0 fun ho51 => ?_
   have hn52 : ((l.take l.length).drop (i_4.toNat)).length = l.length - (i_4.toNat) := len_slice rng rng
   refine Oa (Ap [1, 0] sl22 sl22 sz22) fun c53 => ?_
   refine Jo 0 ?_; rintro a54 k55 rfl
   refine Fb 8 0 fun _ => Fo 0 fun ho57 => ?_
   have hn58 := la ((((l.take (i_4.toNat)).drop 0) ++ [n]) : List Int) ((l.take l.length).drop (i_4.toNat))
   refine Oq Va (KS ?_)
   refine Jl [0] (Ent.freeze _ _) ?_
   have hq := q4 hrr ((((l.take (i_4.toNat)).drop 0) ++ [n]) ++ ((l.take l.length).drop (i_4.toNat))) (by simp only [flqref7_Insert, h12, h16, h20, h23, hR19, cs4]); subst hq
   exact Kr (.slice a54 (((((l.take (i_4.toNat)).drop 0) ++ [n]) ++ ((l.take l.length).drop (i_4.toNat))).length) k55) rfl (.tmp rfl .nil) [0] en
  intro h20
  exact absurd h20 (by simp [h12])
 intro h12
 have g59 := df h12
 obtain rfl : r3 = 0 := by omega
 refine Osk (Osk (Osk (Osk (Osk (Osk (Oq Vpf (KS ?_)))))))
 refine Kf ?_
 refine Ke ?_
 have hR60 := q2 hM5 i_4 (by simp only [flqref7_Insert_L0, h12, cs4])
 refine KS ?_
 refine Oq Vm (Oq Vm (Oq (Vlen sl22) (Oq Vlss (Oq Vm ?_))))
 refine Js 25 ?_ ?_
 ·intro h61
  exact absurd h61 (by simp [h12])
 intro h61
 have g62 := df h61
 refine Osk (Osk (Osk (Osk (Osk (Osk (Oq Vpf (KS ?_)))))))
 refine Kf (KS ?_)
 refine Oa (As0 sl22) fun c63 => ?_
 refine Jo 0 ?_; rintro a64 k65 rfl
 refine Oq Vm (Oq Vm (Oa (Asl [1] sl22 0 (i_4.toNat)) fun c66 => ?_))
 refine Jo 0 ?_; rintro a67 k68 rfl
 refine Fb 8 0 fun _ => Fo 0 fun ho70 => ?_
 have hn71 : ((l.take (i_4.toNat)).drop 0).length = (i_4.toNat) - 0 := len_slice rng rng
 refine Jl [1] (Ent.crNil (α := Int) _) ?_
 refine Oa (Ap0 [0, 0] sl22 sl22 sz22) fun c72 => ?_
 refine Jo 0 ?_; rintro a73 k74 rfl
 refine Oq Va (KS ?_)
 refine Oq Vm (Oq Vm (Oa (AsV sl22 sz22 [vi n] [vi n]) fun c75 => ?_))
 refine Jo 0 ?_; rintro a76 k77 rfl
 refine Jl [0] (Ent.crInt _ [n] _ _ rfl rfl (by intro x hx; rw [List.mem_singleton] at hx; subst hx; unfold i64ok; omega) (Nat.le_of_ble_eq_true rfl)) ?_
 refine Oa (ApO [1, 0] sl22 sl22 sz22) fun c78 => ?_
 refine Jo 0 ?_; rintro a79 k80 rfl
 refine Fb 8 0 fun _ => Fo 0 fun ho82 => ?_
 have hn83 := la ((l.take (i_4.toNat)).drop 0) ([n] : List Int)
 refine Oq Va (KS ?_)
 refine Oq Vm (Oq Vm (Oq Vm (Oa (Asl [2] sl22 (i_4.toNat) l.length) fun c84 => ?_)))
 refine Jo 0 ?_; rintro a85 k86 rfl
 refine Fb 8 0 fun _ => Fo 0 fun ho88 => ?_
 have hn89 : ((l.take l.length).drop (i_4.toNat)).length = l.length - (i_4.toNat) := len_slice rng rng
 refine Oa (Ap [1, 0] sl22 sl22 sz22) fun c90 => ?_
 refine Jo 0 ?_; rintro a91 k92 rfl
 refine Fb 8 0 fun _ => Fo 0 fun ho94 => ?_
 have hn95 := la ((((l.take (i_4.toNat)).drop 0) ++ [n]) : List Int) ((l.take l.length).drop (i_4.toNat))
 refine Oq Va (KS ?_)
 refine Jl [0] (Ent.freeze _ _) ?_
 have hq := q4 hrr ((((l.take (i_4.toNat)).drop 0) ++ [n]) ++ ((l.take l.length).drop (i_4.toNat))) (by simp only [flqref7_Insert, h12, h61, hR60, cs4]); subst hq
 exact Kr (.slice a91 (((((l.take (i_4.toNat)).drop 0) ++ [n]) ++ ((l.take l.length).drop (i_4.toNat))).length) k92) rfl (.tmp rfl .nil) [0] en
theorem fn66 (tP : Value) (ta : Option Addr) (tk : Nat) (tT : List Int) (tI : Int) (htI : 0 ≤ tI ∧ tI ≤ (tT.length : Int)) (rr : Int × Int) (hrr : Tape_Width tT tI = rr) : FT Tryz.prog 66 #[tP] [Cl tP [vl ta tk tT, vi tI], S ta tk tT] (fun g : Unit => i64ok rr.1 ∧ (0 ≤ rr.2 ∧ rr.2 ≤ (tT.length : Int)) ∧ (0 ≤ rr.1 ∧ rr.1 ≤ 8)) (fun g => vi rr.1) (fun g => [Cl tP [vl ta tk tT, vi rr.2]]) := by
 refine FTi Tryz.func66 fun w0 M0 F0 => Fb 8 1 fun _ => Fo 1 fun ho2 => ?_
 refine KS ?_
 refine Oq Va (KS ?_)
 refine Oa (AsV sl22 sz22 [vi 3, vi 1, vi 4, vi 2, vi 6, vi 0, vi 8] [vi 3, vi 1, vi 4, vi 2, vi 6, vi 0, vi 8]) fun c3 => ?_
 refine Jo 0 ?_; rintro a4 k5 rfl
 refine Oq Vm ?_
 refine letv (Tape_Next tT tI 7) fun rv6 hg7 => ?_
 have hc8 := fn19 tP ta tk tT tI 7 pre pre rv6 hg7
 refine Oc [1, 1] ca19 hc8 ?_
 rintro - ⟨he9, he10, he11⟩
 unfold i64ok at he9
 refine Jl [1] (Ent.crInt _ [3, 1, 4, 2, 6, 0, 8] _ _ rfl rfl (by intro x hx; simp only [List.mem_cons, List.not_mem_nil, or_false] at hx; rcases hx with rfl | rfl | rfl | rfl | rfl | rfl | rfl <;> (unfold i64ok; omega)) (Nat.le_of_ble_eq_true rfl)) ?_
 refine Oq (Vi sl22 0) (Oq (VldI sh3 0) (Oq Va (KS ?_)))
 have hq := q4 hrr (([3, 1, 4, 2, 6, 0, 8].getD rv6.1.toNat 0), rv6.2) (by simp only [Tape_Width, hg7, cs4]); subst hq
 exact Kr () rfl (.tmp rfl .nil) [1] ⟨(by rw [← hrr]; exact width_ok _ _), en, (by rw [← hrr]; exact width_rng _ _)⟩
theorem fn68 (tP : Value) (ta : Option Addr) (tk : Nat) (tT : List Int) (tI : Int) (width : Int) (htI : 0 ≤ tI ∧ tI ≤ (tT.length : Int)) (hwidth_0 : i64ok width) (hw0 : 0 ≤ width ∧ width ≤ 1000) (rr : GTransfer × Int) (hrr : Tape_Transfer tT tI width = rr) : FT Tryz.prog 68 #[tP, vi width] [Cl tP [vl ta tk tT, vi tI], S ta tk tT] (fun g : Value × Value × Value => i64ok rr.1.Gen.Width ∧ i64ok rr.1.Kill.Width ∧ (0 ≤ rr.2 ∧ rr.2 ≤ (tT.length : Int)) ∧ (rr.1.Gen.Width = width) ∧ (rr.1.Kill.Width = width) ∧ (rr.1.Copies.length ≤ 12)) (fun g => .agg #[vi rr.1.Gen.Width, g.1, vi rr.1.Kill.Width, g.2.1, g.2.2]) (fun g => [sl g.1 rr.1.Gen.Words, sl g.2.1 rr.1.Kill.Words, sl g.2.2 rr.1.Copies, Cl tP [vl ta tk tT, vi rr.2]]) := by
 refine FTi Tryz.func68 fun w0 M0 F0 => ?_
 unfold i64ok at hwidth_0
 refine Fb 8 1 fun _ => Fo 1 fun ho2 => KS ?_
 refine Oa (Al ze98 [vi 0, .slice none 0 0, vi 0, .slice none 0 0, .slice none 0 0]) fun p3 => KS ?_
 refine Oq Vm ?_
 refine letv (flqref1_Empty width) fun rv5 hg6 => ?_
 have hc7 := fn67 width pre pre rv5 hg6
 refine Oc [] ca67 hc7 ?_
 rintro c4 ⟨he8, he9, he10⟩
 unfold i64ok at he8
 refine Jo 0 ?_; rintro a11 k12 rfl
 refine Fb 8 0 fun _ => Oq Vm ?_
 have hc15 := fn67 width pre pre rv5 hg6
 refine Oc [] ca67 hc15 ?_
 rintro c14 ⟨he16, he17, he18⟩
 unfold i64ok at he16
 refine Jo 0 ?_; rintro a19 k20 rfl
 refine Oq (Vbd st98 [vi rv5.Width, vl a11 k12 rv5.Words, vi rv5.Width, vl a19 k20 rv5.Words, .slice none 0 0]) (Oa (Al ze98 [vi 0, .slice none 0 0, vi 0, .slice none 0 0, .slice none 0 0]) fun p21 => Ost (Scl [0] sh98 [vi rv5.Width, vl a11 k12 rv5.Words, vi rv5.Width, vl a19 k20 rv5.Words, .slice none 0 0]) (KS ?_))
 refine Oq Va (KS ?_)
 refine Kl (γ := Nat × Int × Int × List (BitVec 64) × Int × List (BitVec 64) × Int × Option Addr × Nat × Option Addr × Nat) (fun (r22, ti_23, f0_24, f1_25, f2_26, f3_27, b_28, a29, k30, a31, k32) => ⟨[(0, tP), (1, vi width), (4, p3), (5, p21), (6, vi b_28)], [O a31 k32 f3_27, O a29 k30 f1_25, Cl p21 [vi f0_24, vl a29 k30 f1_25, vi f2_26, vl a31 k32 f3_27, .slice none 0 0], Cl p3 [vi 0, .slice none 0 0, vi 0, .slice none 0 0, .slice none 0 0], Cl tP [vl ta tk tT, vi ti_23], S ta tk tT], Tape_Transfer_L0 tT r22 ti_23 f0_24 f1_25 f2_26 f3_27 b_28 = Tape_Transfer_L0 tT (((width : Int) - 0).toNat) tI rv5.Width rv5.Words rv5.Width rv5.Words 0 ∧ r22 = ((width : Int) - b_28).toNat ∧ (0 : Int) ≤ b_28 ∧ (b_28 ≤ width ∨ b_28 = 0) ∧ (-9223372036854775808 ≤ ti_23 ∧ ti_23 ≤ 9223372036854775807) ∧ (0 ≤ ti_23 ∧ ti_23 ≤ (tT.length : Int)) ∧ (-9223372036854775808 ≤ f0_24 ∧ f0_24 ≤ 9223372036854775807) ∧ (-9223372036854775808 ≤ f2_26 ∧ f2_26 ≤ 9223372036854775807) ∧ (-9223372036854775808 ≤ b_28 ∧ b_28 ≤ 9223372036854775807) ∧ f0_24 = width ∧ f1_25.length = (((width : Int) + 63) / 64).toNat ∧ f2_26 = width ∧ f3_27.length = (((width : Int) + 63) / 64).toNat, r22⟩) (((width : Int) - 0).toNat, tI, rv5.Width, rv5.Words, rv5.Width, rv5.Words, 0, a11, k12, a19, k20) [1, 1, 0, 0, 0, 0] ⟨rfl, rfl, (by omega), (.inr rfl), (by omega), (by omega), (by omega), (by omega), (by omega), iv0, iv0, iv0, iv0⟩ ?_
 rintro ⟨r22, ti_23, f0_24, f1_25, f2_26, f3_27, b_28, a29, k30, a31, k32⟩ ⟨hM33, hr34, hi35, hi36, hk37, ht38, hk39, hk40, hk41, hv42, hv43, hv44, hv45⟩
 refine JJ_nx fun _ _ hL hA => ?_; dsimp only at hL hA; subst hL hA
 refine Fb 8 0 fun _ => Fb 8 1 fun _ => Fb 8 5 fun _ => Fo 5 fun ho49 => KS ?_
 refine Oq Vm (Oq Vm (Oq Vlss (KS ?_)))
 refine Kc ?_ ?_
 ·intro h50
  have g51 := dt h50
  obtain ⟨r52, rfl⟩ := scc (n := r22) (by omega)
  refine KS ?_
  refine Oq Vm ?_
  refine letv (Tape_Next tT ti_23 6) fun rv53 hg54 => ?_
  have hc55 := fn19 tP ta tk tT ti_23 6 pre pre rv53 hg54
  refine Oc [4, 4] ca19 hc55 ?_
  rintro - ⟨he56, he57, he58⟩
  unfold i64ok at he56
  refine KS ?_
  refine Oq Veql (Oq Va (KS ?_))
  refine Kc ?_ ?_
  ·intro h59
   have g60 := eq_of_beq h59
   refine KS ?_
   refine Oq (Vfa fo98_0 3) (Oq (VldG sh42 3 [vi f0_24, vl a29 k30 f1_25]) (Oq Vm ?_))
   refine letv (flqref1_Put (GSet.mk f0_24 f1_25) b_28) fun rv62 hg63 => ?_
   refine Oc [2] ca79 (FT_borrow (A := _) hlx (FT_ent (Ent.take (is := [0]) rfl) (fn79 ((GSet.mk f0_24 f1_25)) a29 k30 b_28 pre pre pre pre rv62 hg63))) ?_ (ht := rfl)
   rintro c61 ⟨he64, he65, he66⟩
   unfold i64ok at he64
   have he65 : (rv62.Width = f0_24) := he65
   have he66 : (rv62.Words.length = ((f0_24 + 63) / 64).toNat) := he66
   refine Jo 1 ?_; rintro a67 k68 rfl
   refine Fb 8 1 fun _ => ?_
   refine Oq (Vfa fo98_0 4) (Ost (SclF [4] sh42 [vi rv62.Width, vl a67 k68 rv62.Words, vi f2_26, vl a31 k32 f3_27, .slice none 0 0]) (KS ?_))
   refine Oq Vm (Oq Vadd (Oq Va (KS ?_)))
   exact Kg (r52, rv53.2, rv62.Width, rv62.Words, f2_26, f3_27, (b_28 + 1), a67, k68, a31, k32) [4, 2, 0, 2, 1, 1] ⟨(q3 hM33 (by simp only [Tape_Transfer_L0, h50, h59, hg6, hg54, hg63, cs4])), (by omega), (by omega), (by omega), (by omega), (by omega), (by omega), (by omega), (by omega), iv1, iv1, iv1, iv1⟩
  intro h59
  have g70 := ne_of_beq_false h59
  refine KS ?_
  refine Oq Veql (Oq Va (KS ?_))
  refine Kc ?_ ?_
  ·intro h71
   have g72 := eq_of_beq h71
   refine KS ?_
   refine Kc ?_ ?_
   ·intro h73
    have g74 := eq_of_beq h73
    refine KS ?_
    refine Oq (Vfa fo98_1 3) (Oq (VldG sh42 3 [vi f2_26, vl a31 k32 f3_27]) (Oq Vm ?_))
    refine letv (flqref1_Put (GSet.mk f2_26 f3_27) b_28) fun rv76 hg77 => ?_
    refine Oc [1] ca79 (FT_borrow (A := _) hlx (FT_ent (Ent.take (is := [0]) rfl) (fn79 ((GSet.mk f2_26 f3_27)) a31 k32 b_28 pre pre pre pre rv76 hg77))) ?_ (ht := rfl)
    rintro c75 ⟨he78, he79, he80⟩
    unfold i64ok at he78
    have he79 : (rv76.Width = f2_26) := he79
    have he80 : (rv76.Words.length = ((f2_26 + 63) / 64).toNat) := he80
    refine Jo 1 ?_; rintro a81 k82 rfl
    refine Fb 8 1 fun _ => ?_
    refine Oq (Vfa fo98_1 4) (Ost (SclF [4] sh42 [vi f0_24, vl a29 k30 f1_25, vi rv76.Width, vl a81 k82 rv76.Words, .slice none 0 0]) (KS ?_))
    refine Oq Vm (Oq Vadd (Oq Va (KS ?_)))
    exact Kg (r52, rv53.2, f0_24, f1_25, rv76.Width, rv76.Words, (b_28 + 1), a29, k30, a81, k82) [2, 3, 0, 2, 1, 1] ⟨(q3 hM33 (by simp only [Tape_Transfer_L0, h50, h59, h71, h73, hg6, hg54, hg77, cs4])), (by omega), (by omega), (by omega), (by omega), (by omega), (by omega), (by omega), (by omega), iv1, iv1, iv1, iv1⟩
   intro h73
   exact absurd h73 (by simp [h71])
  intro h71
  have g84 := ne_of_beq_false h71
  refine KS ?_
  refine Oq Veql (Oq Va (KS ?_))
  refine Kc ?_ ?_
  ·intro h85
   have g86 := eq_of_beq h85
   refine KS ?_
   refine Oq (Vfa fo98_1 3) (Oq (VldG sh42 3 [vi f2_26, vl a31 k32 f3_27]) (Oq Vm ?_))
   refine letv (flqref1_Put (GSet.mk f2_26 f3_27) b_28) fun rv88 hg89 => ?_
   refine Oc [1] ca79 (FT_borrow (A := _) hlx (FT_ent (Ent.take (is := [0]) rfl) (fn79 ((GSet.mk f2_26 f3_27)) a31 k32 b_28 pre pre pre pre rv88 hg89))) ?_ (ht := rfl)
   rintro c87 ⟨he90, he91, he92⟩
   unfold i64ok at he90
   have he91 : (rv88.Width = f2_26) := he91
   have he92 : (rv88.Words.length = ((f2_26 + 63) / 64).toNat) := he92
   refine Jo 1 ?_; rintro a93 k94 rfl
   refine Fb 8 1 fun _ => ?_
   refine Oq (Vfa fo98_1 4) (Ost (SclF [4] sh42 [vi f0_24, vl a29 k30 f1_25, vi rv88.Width, vl a93 k94 rv88.Words, .slice none 0 0]) (KS ?_))
   refine Oq Vm (Oq Vadd (Oq Va (KS ?_)))
   exact Kg (r52, rv53.2, f0_24, f1_25, rv88.Width, rv88.Words, (b_28 + 1), a29, k30, a93, k94) [2, 3, 0, 2, 1, 1] ⟨(q3 hM33 (by simp only [Tape_Transfer_L0, h50, h59, h71, h85, hg6, hg54, hg89, cs4])), (by omega), (by omega), (by omega), (by omega), (by omega), (by omega), (by omega), (by omega), iv1, iv1, iv1, iv1⟩
  intro h85
  have g96 := ne_of_beq_false h85
  refine KS ?_
  refine Oq Vm (Oq Vadd (Oq Va (KS ?_)))
  exact Kg (r52, rv53.2, f0_24, f1_25, f2_26, f3_27, (b_28 + 1), a29, k30, a31, k32) [1, 1, 1, 1, 0, 0] ⟨(q3 hM33 (by simp only [Tape_Transfer_L0, h50, h59, h71, h85, hg6, hg54, cs4])), (by omega), (by omega), (by omega), (by omega), (by omega), (by omega), (by omega), (by omega), iv1, iv1, iv1, iv1⟩
 intro h50
 have g97 := df h50
 obtain rfl : r22 = 0 := by omega
 refine Ke ?_
 have hR98 := q2 hM33 (ti_23, f0_24, f1_25, f2_26, f3_27) (by simp only [Tape_Transfer_L0, h50, hg6, cs4])
 refine KS ?_
 refine Oq Va (KS ?_)
 refine Jl [] (Ent.osNil (α := GCopy)) ?_
 refine Kl (γ := Nat × Int × List GCopy × Int × Option Addr × Nat) (fun (r99, ti_100, f4_101, a_102, a103, k104) => ⟨[(0, tP), (1, vi width), (4, p3), (5, p21), (7, vi a_102)], [O a103 k104 f4_101, O a31 k32 f3_27, O a29 k30 f1_25, Cl p21 [vi f0_24, vl a29 k30 f1_25, vi f2_26, vl a31 k32 f3_27, vl a103 k104 f4_101], Cl p3 [vi 0, .slice none 0 0, vi 0, .slice none 0 0, .slice none 0 0], Cl tP [vl ta tk tT, vi ti_100], S ta tk tT], Tape_Transfer_L1 tT width r99 ti_100 f4_101 a_102 = Tape_Transfer_L1 tT width (((width : Int) - 0).toNat) ti_23 [] 0 ∧ r99 = ((width : Int) - a_102).toNat ∧ (0 : Int) ≤ a_102 ∧ (a_102 ≤ width ∨ a_102 = 0) ∧ (-9223372036854775808 ≤ ti_100 ∧ ti_100 ≤ 9223372036854775807) ∧ (0 ≤ ti_100 ∧ ti_100 ≤ (tT.length : Int)) ∧ (-9223372036854775808 ≤ a_102 ∧ a_102 ≤ 9223372036854775807) ∧ f4_101.length ≤ 12, r99⟩) (((width : Int) - 0).toNat, ti_23, [], 0, none, 0) [0, 0, 0, 0, 0, 0, 0] ⟨rfl, rfl, (by omega), (.inr rfl), (by omega), (by omega), (by omega), iv0⟩ ?_
 rintro ⟨r99, ti_100, f4_101, a_102, a103, k104⟩ ⟨hM105, hr106, hi107, hi108, hk109, ht110, hk111, hv112⟩
 refine JJ_nx fun _ _ hL hA => ?_; dsimp only at hL hA; subst hL hA
 refine Fb 16 0 fun _ => Fb 8 1 fun _ => Fb 8 2 fun _ => Fb 8 6 fun _ => Fo 6 fun ho117 => KS ?_
 refine Oq Vm (Oq Vm (Oq Vlss (KS ?_)))
 refine Kc ?_ ?_
 ·intro h118
  have g119 := dt h118
  obtain ⟨r120, rfl⟩ := scc (n := r99) (by omega)
  refine KS ?_
  refine Oq Va (KS ?_)
  refine Kl (γ := Nat × Int × List GCopy × Int × Option Addr × Nat) (fun (r121, ti_122, f4_123, b_124, a125, k126) => ⟨[(0, tP), (1, vi width), (4, p3), (5, p21), (7, vi a_102), (8, vi b_124)], [O a125 k126 f4_123, O a31 k32 f3_27, O a29 k30 f1_25, Cl p21 [vi f0_24, vl a29 k30 f1_25, vi f2_26, vl a31 k32 f3_27, vl a125 k126 f4_123], Cl p3 [vi 0, .slice none 0 0, vi 0, .slice none 0 0, .slice none 0 0], Cl tP [vl ta tk tT, vi ti_122], S ta tk tT], Tape_Transfer_L2 tT width a_102 r121 ti_122 f4_123 b_124 = Tape_Transfer_L2 tT width a_102 (((width : Int) - 0).toNat) ti_100 f4_101 0 ∧ r121 = ((width : Int) - b_124).toNat ∧ (0 : Int) ≤ b_124 ∧ (b_124 ≤ width ∨ b_124 = 0) ∧ (-9223372036854775808 ≤ ti_122 ∧ ti_122 ≤ 9223372036854775807) ∧ (0 ≤ ti_122 ∧ ti_122 ≤ (tT.length : Int)) ∧ (-9223372036854775808 ≤ b_124 ∧ b_124 ≤ 9223372036854775807) ∧ f4_123.length ≤ 12, r121⟩) (((width : Int) - 0).toNat, ti_100, f4_101, 0, a103, k104) [0, 0, 0, 0, 0, 0, 0] ⟨rfl, rfl, (by omega), (.inr rfl), (by omega), (by omega), (by omega), iv0⟩ ?_
  rintro ⟨r121, ti_122, f4_123, b_124, a125, k126⟩ ⟨hM127, hr128, hi129, hi130, hk131, ht132, hk133, hv134⟩
  refine JJ_nx fun _ _ hL hA => ?_; dsimp only at hL hA; subst hL hA
  refine Fb 16 0 fun _ => Fb 8 1 fun _ => Fb 8 2 fun _ => Fb 8 6 fun _ => Fo 6 fun ho139 => KS ?_
  refine Oq Vm (Oq Vm (Oq Vlss (Oq Vm ?_)))
  refine Js 44 ?_ ?_
  ·intro h140
   have g141 := dt h140
   obtain ⟨r142, rfl⟩ := scc (n := r121) (by omega)
   refine Oq (Vfa fo98_2 3) (Oq (VldF sh96 3) (Oq (Vlen sl96) (Oq Vlss (Oq Vpt (KS ?_)))))
   refine Kc ?_ ?_
   ·intro h143
    have g144 := dt h143
    refine KS ?_
    refine Oq Vm (Oq Vm (Oq Vmul ?_))
    refine letv (Tape_Next tT ti_122 (2 * width)) fun rv145 hg146 => ?_
    have hc147 := fn19 tP ta tk tT ti_122 ((2 * width)) pre pre rv145 hg146
    refine Oc [5, 5] ca19 hc147 ?_
    rintro - ⟨he148, he149, he150⟩
    unfold i64ok at he148
    refine Oq Veql (KS ?_)
    refine Kc ?_ ?_
    ·intro h151
     have g152 := eq_of_beq h151
     refine KS ?_
     refine Oq (Vfa fo98_2 4) (Oq (VldF sh96 4) (Oq Vm (Oq Vm (Oq (Vbd st147 [vi a_102, vi b_124]) (Oa (AsV sl96 sz96 [.agg #[vi a_102, vi b_124]] [vi a_102, vi b_124]) fun c153 => ?_)))))
     refine Jo 0 ?_; rintro a154 k155 rfl
     refine Jl [0] (Ent.cr1 (α := GCopy) (A := []) _ (GCopy.mk a_102 b_124) _ (Nat.le_of_ble_eq_true rfl) (fun h => ⟨rfl, (by unfold i64ok; first | omega | (dsimp only; omega)), (by unfold i64ok; first | omega | (dsimp only; omega))⟩)) ?_
     refine Oa (ApO [2, 0] sl96 sl96 sz96) fun c156 => ?_
     refine Jo 0 ?_; rintro a157 k158 rfl
     refine Fb 16 0 fun _ => ?_
     have hn160 := la f4_123 ([(GCopy.mk a_102 b_124)] : List GCopy)
     refine Oq (Vfa fo98_2 4) (Ost (SclF [4] sh96 [vi f0_24, vl a29 k30 f1_25, vi f2_26, vl a31 k32 f3_27, vl a157 k158 (f4_123 ++ [(GCopy.mk a_102 b_124)])]) (KS ?_))
     refine Oq Vm (Oq Vadd (Oq Va (KS ?_)))
     exact Kg (r142, rv145.2, (f4_123 ++ [(GCopy.mk a_102 b_124)]), (b_124 + 1), a157, k158) [1, 2, 2, 0, 1, 0, 0] ⟨(q3 hM127 (by simp only [Tape_Transfer_L2, h50, h118, h140, h143, h151, hg6, hR98, hg146, cs4])), (by omega), (by omega), (by omega), (by omega), (by omega), (by omega), iv1⟩
    intro h151
    have g161 := ne_of_beq_false h151
    refine KS ?_
    refine Oq Vm (Oq Vadd (Oq Va (KS ?_)))
    exact Kg (r142, rv145.2, f4_123, (b_124 + 1), a125, k126) [1, 1, 1, 1, 1, 0, 0] ⟨(q3 hM127 (by simp only [Tape_Transfer_L2, h50, h118, h140, h143, h151, hg6, hR98, hg146, cs4])), (by omega), (by omega), (by omega), (by omega), (by omega), (by omega), iv1⟩
   intro h143
   have g162 := df h143
   refine Ke ?_
   have hR163 := q2 hM127 (ti_122, f4_123) (by simp only [Tape_Transfer_L2, h50, h118, h140, h143, hg6, hR98, cs4])
   refine KS ?_
   refine Oq Vm (Oq Vadd (Oq Va (KS ?_)))
   exact Kg (r120, ti_122, f4_123, (a_102 + 1), a125, k126) [0, 0, 0, 0, 0, 0, 0] ⟨(q3 hM105 (by simp only [Tape_Transfer_L1, h50, h118, h140, h143, hg6, hR98, hR163, cs4])), (by omega), (by omega), (by omega), (by omega), (by omega), (by omega), iv1⟩
  intro h140
  have g164 := df h140
  obtain rfl : r121 = 0 := by omega
  refine Osk (Osk (Osk (Osk (Oq Vpf (KS ?_)))))
  refine Kf ?_
  refine Ke ?_
  have hR165 := q2 hM127 (ti_122, f4_123) (by simp only [Tape_Transfer_L2, h50, h118, h140, hg6, hR98, cs4])
  refine KS ?_
  refine Oq Vm (Oq Vadd (Oq Va (KS ?_)))
  exact Kg (r120, ti_122, f4_123, (a_102 + 1), a125, k126) [0, 0, 0, 0, 0, 0, 0] ⟨(q3 hM105 (by simp only [Tape_Transfer_L1, h50, h118, h140, hg6, hR98, hR165, cs4])), (by omega), (by omega), (by omega), (by omega), (by omega), (by omega), iv1⟩
 intro h118
 have g166 := df h118
 obtain rfl : r99 = 0 := by omega
 refine Ke ?_
 have hR167 := q2 hM105 (ti_100, f4_101) (by simp only [Tape_Transfer_L1, h50, h118, hg6, hR98, cs4])
 refine KS ?_
 refine Oq (VldA sh98 3) (Ost (Scl [4] sh98 [vi f0_24, vl a29 k30 f1_25, vi f2_26, vl a31 k32 f3_27, vl a103 k104 f4_101]) (KS ?_))
 refine Jl [3] (Ent.freeze _ _) ?_
 refine Jl [3] (Ent.freeze _ _) ?_
 refine Jl [3] (Ent.freeze _ _) ?_
 have hq := q4 hrr ((GTransfer.mk (GSet.mk f0_24 f1_25) (GSet.mk f2_26 f3_27) f4_101), ti_100) (by simp only [Tape_Transfer, h50, h118, hg6, hR98, hR167, cs4]); subst hq
 exact Kr (vl a29 k30 f1_25, vl a31 k32 f3_27, vl a103 k104 f4_101) rfl (.cellN 3 rfl sh98 rfl (reads_Cl _ _) rfl .nil) [2, 1, 0, 5] en
theorem fn18 (tP : Value) (ta : Option Addr) (tk : Nat) (tT : List Int) (tI : Int) (n : Int) (htI : 0 ≤ tI ∧ tI ≤ (tT.length : Int)) (hn_0 : i64ok n) (hn0 : 0 ≤ n ∧ n ≤ 1000) (rr : GSystem × Int) (hrr : Tape_System tT tI n = rr) : FT Tryz.prog 18 #[tP, vi n] [Cl tP [vl ta tk tT, vi tI], S ta tk tT] (fun g : Value × Value × Value => i64ok rr.1.Width ∧ (0 ≤ rr.2 ∧ rr.2 ≤ (tT.length : Int)) ∧ (rr.1.Deps.length ≤ 1001)) (fun g => .agg #[vi rr.1.Width, g.1, g.2.1, g.2.2]) (fun g => [sl g.1 rr.1.Deps, sl g.2.1 rr.1.Transfers, sl g.2.2 rr.1.Boundary, Cl tP [vl ta tk tT, vi rr.2]]) := by
 refine FTi Tryz.func18 fun w0 M0 F0 => ?_
 unfold i64ok at hn_0
 refine Fb 8 1 fun _ => Fo 1 fun ho2 => KS ?_
 refine Oa (Al ze27 [vi 0, .slice none 0 0, .slice none 0 0, .slice none 0 0]) fun p3 => KS ?_
 refine Oq Vm ?_
 refine letv (Tape_Width tT tI) fun rv4 hg5 => ?_
 have hc6 := fn66 tP ta tk tT tI pre rv4 hg5
 refine Oc [1, 1] ca66 hc6 ?_
 rintro - ⟨he7, he8, he9⟩
 unfold i64ok at he7
 refine Oq Vrem (Oq (Vbd st27 [vi (rv4.1 % 5), .slice none 0 0, .slice none 0 0, .slice none 0 0]) (Oa (Al ze27 [vi 0, .slice none 0 0, .slice none 0 0, .slice none 0 0]) fun p10 => Ost (Scl [0] sh27 [vi (rv4.1 % 5), .slice none 0 0, .slice none 0 0, .slice none 0 0]) (KS ?_)))
 refine Oq Vm (Oq Vm ?_)
 refine letv (Tape_Next tT rv4.2 n) fun rv11 hg12 => ?_
 have hc13 := fn19 tP ta tk tT rv4.2 n pre pre rv11 hg12
 refine Oc [1, 2] ca19 hc13 ?_
 rintro - ⟨he14, he15, he16⟩
 unfold i64ok at he14
 refine Oq Vadd (Oq Va (KS ?_))
 refine Oq Va (KS ?_)
 refine Jl [] (Ent.osNil (α := (List Int))) ?_
 refine Jl [] (Ent.osNil (α := GTransfer)) ?_
 refine Jl [] (Ent.osNil (α := GSet)) ?_
 refine Kl (γ := Nat × Int × List (List Int) × List GTransfer × List GSet × Int × Option Addr × Nat × Option Addr × Nat × Option Addr × Nat) (fun (r17, ti_18, s1_19, s2_20, s3_21, i_22, a23, k24, a25, k26, a27, k28) => ⟨[(0, tP), (4, p3), (5, p10), (1, vi (1 + rv11.1)), (6, vi i_22)], [O a27 k28 s3_21, O a25 k26 s2_20, O a23 k24 s1_19, Cl tP [vl ta tk tT, vi ti_18], Cl p10 [vi (rv4.1 % 5), vl a23 k24 s1_19, vl a25 k26 s2_20, vl a27 k28 s3_21], Cl p3 [vi 0, .slice none 0 0, .slice none 0 0, .slice none 0 0], S ta tk tT], Tape_System_L0 tT (1 + rv11.1) (rv4.1 % 5) r17 ti_18 s1_19 s2_20 s3_21 i_22 = Tape_System_L0 tT (1 + rv11.1) (rv4.1 % 5) ((((1 + rv11.1) : Int) - 0).toNat) rv11.2 [] [] [] 0 ∧ r17 = (((1 + rv11.1) : Int) - i_22).toNat ∧ (0 : Int) ≤ i_22 ∧ i_22 ≤ (1 + rv11.1) ∧ (-9223372036854775808 ≤ ti_18 ∧ ti_18 ≤ 9223372036854775807) ∧ (0 ≤ ti_18 ∧ ti_18 ≤ (tT.length : Int)) ∧ (-9223372036854775808 ≤ i_22 ∧ i_22 ≤ 9223372036854775807) ∧ (s1_19.length : Int) = i_22 ∧ (s2_20.length : Int) = i_22 ∧ (s3_21.length : Int) = i_22, r17⟩) ((((1 + rv11.1) : Int) - 0).toNat, rv11.2, [], [], [], 0, none, 0, none, 0, none, 0) [0, 0, 0, 0, 0, 0, 0] ⟨rfl, rfl, (by omega), (by omega), (by omega), (by omega), (by omega), iv0, iv0, iv0⟩ ?_
 rintro ⟨r17, ti_18, s1_19, s2_20, s3_21, i_22, a23, k24, a25, k26, a27, k28⟩ ⟨hM29, hr30, hi31, hi32, hk33, ht34, hk35, hv36, hv37, hv38⟩
 refine JJ_nx fun _ _ hL hA => ?_; dsimp only at hL hA; subst hL hA
 refine Fb 32 0 fun _ => Fb 88 1 fun _ => Fb 24 2 fun _ => Fb 8 6 fun _ => Fo 6 fun ho43 => KS ?_
 refine Oq Vm (Oq Vm (Oq Vlss (KS ?_)))
 refine Kc ?_ ?_
 ·intro h44
  have g45 := dt h44
  obtain ⟨r46, rfl⟩ := scc (n := r17) (by omega)
  refine KS ?_
  refine Oq Va (KS ?_)
  refine Oq Vm ?_
  refine letv (Tape_Next tT ti_18 4) fun rv47 hg48 => ?_
  have hc49 := fn19 tP ta tk tT ti_18 4 pre pre rv47 hg48
  refine Oc [3, 5] ca19 hc49 ?_
  rintro - ⟨he50, he51, he52⟩
  unfold i64ok at he50
  refine Oq Va (KS ?_)
  refine Jl [] (Ent.slNil (α := Int)) ?_
  refine Kl (γ := Nat × Int × List Int × Int × Option Addr × Nat) (fun (r53, ti_54, d_55, k_56, a57, k58) => ⟨[(0, tP), (4, p3), (5, p10), (1, vi (1 + rv11.1)), (6, vi i_22), (7, vl a57 k58 d_55), (8, vi k_56)], [S a57 k58 d_55, Cl tP [vl ta tk tT, vi ti_54], O a27 k28 s3_21, O a25 k26 s2_20, O a23 k24 s1_19, Cl p10 [vi (rv4.1 % 5), vl a23 k24 s1_19, vl a25 k26 s2_20, vl a27 k28 s3_21], Cl p3 [vi 0, .slice none 0 0, .slice none 0 0, .slice none 0 0], S ta tk tT], Tape_System_L1 tT (1 + rv11.1) r53 ti_54 d_55 k_56 = Tape_System_L1 tT (1 + rv11.1) (rv47.1.toNat) rv47.2 [] rv47.1 ∧ r53 = k_56.toNat ∧ k_56 ≤ (rv47.1 : Int) ∧ (-9223372036854775808 ≤ ti_54 ∧ ti_54 ≤ 9223372036854775807) ∧ (0 ≤ ti_54 ∧ ti_54 ≤ (tT.length : Int)) ∧ (-9223372036854775808 ≤ k_56 ∧ k_56 ≤ 9223372036854775807) ∧ (d_55.length : Int) + k_56 ≤ 4, r53⟩) (rv47.1.toNat, rv47.2, [], rv47.1, none, 0) [0, 1, 1, 1, 1, 1, 1, 1] ⟨rfl, rfl, (by omega), (by omega), (by omega), (by omega), iv0⟩ ?_
  rintro ⟨r53, ti_54, d_55, k_56, a57, k58⟩ ⟨hM59, hr60, hi61, hk62, ht63, hk64, hv65⟩
  refine JJ_nx fun _ _ hL hA => ?_; dsimp only at hL hA; subst hL hA
  refine Fb 8 0 fun _ => Fo 0 fun ho67 => Fb 32 2 fun _ => Fb 88 3 fun _ => Fb 24 4 fun _ => Fb 8 7 fun _ => Fo 7 fun ho72 => KS ?_
  refine Oq Vm (Oq Vgtr (KS ?_))
  refine Kc ?_ ?_
  ·intro h73
   have g74 := dt h73
   obtain ⟨r75, rfl⟩ := scc (n := r53) (by omega)
   refine KS ?_
   refine Oq Vm (Oq Vm (Oq Vm ?_))
   refine letv (Tape_Next tT ti_54 (1 + rv11.1)) fun rv76 hg77 => ?_
   have hc78 := fn19 tP ta tk tT ti_54 ((1 + rv11.1)) pre pre rv76 hg77
   refine Oc [1, 6] ca19 hc78 ?_
   rintro - ⟨he79, he80, he81⟩
   unfold i64ok at he79
   refine letv (flqref7_Insert d_55 rv76.1) fun rv83 hg84 => ?_
   have hc85 := fn46 d_55 a57 k58 rv76.1 pre pre rv83 hg84
   refine Oc [1] ca46 hc85 ?_
   rintro c82 he86
   refine Jo 0 ?_; rintro a87 k88 rfl
   refine Fb 8 0 fun _ => Fo 0 fun ho90 => ?_
   refine Oq Va (KS ?_)
   refine Oq Vm (Oq Vsub (Oq Va (KS ?_)))
   exact Kg (r75, rv76.2, rv83, (k_56 - 1), a87, k88) [0, 1, 2, 2, 2, 2, 2, 2] ⟨(q3 hM59 (by simp only [Tape_System_L1, h44, h73, hg5, hg12, hg48, hg77, hg84, cs4])), (by omega), (by omega), (by omega), (by omega), (by omega), iv1⟩
  intro h73
  have g91 := df h73
  obtain rfl : r53 = 0 := by omega
  refine Ke ?_
  have hR92 := q2 hM59 (ti_54, d_55) (by simp only [Tape_System_L1, h44, h73, hg5, hg12, hg48, cs4])
  refine KS ?_
  refine Oq (Vfa fo27_0 5) (Oq (VldF sh3 5) ?_)
  refine letv (flqref1_Empty (rv4.1 % 5)) fun rv94 hg95 => ?_
  have hc96 := fn67 ((rv4.1 % 5)) pre pre rv94 hg95
  refine Oc [] ca67 hc96 ?_
  rintro c93 ⟨he97, he98, he99⟩
  unfold i64ok at he97
  refine Jo 0 ?_; rintro a100 k101 rfl
  refine Fb 8 0 fun _ => ?_
  refine Oa (Al ze42 [vi 0, .slice none 0 0]) fun p103 => Ost (Scl [0] sh42 [vi rv94.Width, vl a100 k101 rv94.Words]) (KS ?_)
  refine Oq Vm ?_
  refine letv (Tape_Next tT ti_54 3) fun rv104 hg105 => ?_
  have hc106 := fn19 tP ta tk tT ti_54 3 pre pre rv104 hg105
  refine Oc [3, 8] ca19 hc106 ?_
  rintro - ⟨he107, he108, he109⟩
  unfold i64ok at he107
  refine Oq Veql (KS ?_)
  refine Kc ?_ ?_
  ·intro h110
   have g111 := eq_of_beq h110
   refine KS ?_
   refine Oq Vm (Oq (Vfa fo27_0 7) (Oq (VldF sh3 7) ?_))
   refine letv (Tape_Set tT rv104.2 (rv4.1 % 5)) fun rv113 hg114 => ?_
   have hc115 := fn23 tP ta tk tT rv104.2 ((rv4.1 % 5)) pre pre pre rv113 hg114
   refine Oc [0, 8] ca23 hc115 ?_
   rintro c112 ⟨he116, he117, he118, he119⟩
   unfold i64ok at he116
   refine Jo 0 ?_; rintro a120 k121 rfl
   refine Fb 8 0 fun _ => ?_
   refine Ost (Scl [2] sh42 [vi rv113.1.Width, vl a120 k121 rv113.1.Words]) (KS ?_)
   refine Jp 8 fun hp123 => ?_
   refine JK_drawK [0, 1, 0, 4, 15, 0, 32, 0, 128, 511, 0, 1024, 0, 0, 8192, 29695, 62463, 131071, 27775, 524287, 1048575, 2097151, 4194303, 8388607] fmix ?_
   refine Dv [0] (Vfa fo27_1 0) (Dv [9] (VldF sh23 0) (Dv [] Vm (Dx [] [] [0] (fun G => (G.g 3 0)) [fun G => Cr (G.g 3 0) 1 [vl a57 k58 d_55]] (fun G => xA (AsV sl23 sz23 [vl a57 k58 d_55] [vl a57 k58 d_55])) ?_)))
   have hn126 := la s1_19 ([d_55] : List (List Int))
   refine Dx [5, 8, 12] [8, 12] [1, 0] (fun G => (G.g 4 0)) [fun G => os (G.g 4 0) ((s1_19 ++ [d_55]) : List (List Int))] (fun G => xp [2, 0] rfl (Ent.cr1 (α := List Int) (A := [S a57 k58 d_55]) _ d_55 _ (Nat.le_of_ble_eq_true rfl) (fun h => ⟨_, rfl, sepAll_get (i := 0) rfl h⟩)) (xA (ApO [3, 0] sl23 sl23 sz23))) (Dv [0] (Vfa fo27_3 0) (Dv [9] (VldF sh25 0) (Dv [1] (VldA sh42 0) (Dx [] [] [0] (fun G => (G.g 8 0)) [fun G => Cr (G.g 8 0) 1 [vi rv113.1.Width, vl a120 k121 rv113.1.Words]] (fun G => xA (AsV sl25 sz25 [.agg #[vi rv113.1.Width, vl a120 k121 rv113.1.Words]] [vi rv113.1.Width, vl a120 k121 rv113.1.Words])) ?_))))
   have hn129 := la s3_21 ([rv113.1] : List GSet)
   refine Dx [2, 6, 14] [2, 6, 14] [1, 0] (fun G => (G.g 9 0)) [fun G => S a120 k121 rv113.1.Words, fun G => os (G.g 9 0) ((s3_21 ++ [rv113.1]) : List GSet)] (fun G => xp [0] rfl (Ent.freeze _ _) (xp [2, 0] rfl (Ent.cr1 (α := GSet) (A := [S a120 k121 rv113.1.Words]) _ rv113.1 _ (Nat.le_of_ble_eq_true rfl) (fun h => ⟨_, rfl, (by unfold i64ok; first | omega | (dsimp only; omega)), sepAll_get (i := 0) rfl h⟩)) (xA (ApO [3, 0] sl25 sl25 sz25)))) (Dv [0] (Vfa fo27_2 0) (Dv [9] (VldF sh24 0) (Dv [] Vm (Dv [0] (Vfa fo27_0 0) (Dv [9] (VldF sh3 0) ?_)))))
   refine letv (Tape_Transfer tT rv113.2 (rv4.1 % 5)) fun rv133 hg134 => ?_
   refine Dx [3, 11] [3] [5, 0, 1, 2, 3, 4] (fun G => .agg #[vi rv133.1.Gen.Width, (G.g 15 0), vi rv133.1.Kill.Width, (G.g 15 1), (G.g 15 2)]) [fun G => SP.fact (i64ok rv133.1.Gen.Width ∧ i64ok rv133.1.Kill.Width ∧ (0 ≤ rv133.2 ∧ rv133.2 ≤ (tT.length : Int)) ∧ (rv133.1.Gen.Width = (rv4.1 % 5)) ∧ (rv133.1.Kill.Width = (rv4.1 % 5)) ∧ (rv133.1.Copies.length ≤ 12)), fun G => sl (G.g 15 0) rv133.1.Gen.Words, fun G => sl (G.g 15 1) rv133.1.Kill.Words, fun G => sl (G.g 15 2) rv133.1.Copies, fun G => Cl tP [vl ta tk tT, vi rv133.2]] (fun G => xC [0, 0] ca68 (fn68 tP ta tk tT rv113.2 ((rv4.1 % 5)) pre pre pre rv133 hg134)) (Dx [] [] [0] (fun G => (G.g 16 0)) [fun G => Cr (G.g 16 0) 1 [vi rv133.1.Gen.Width, (G.g 15 0), vi rv133.1.Kill.Width, (G.g 15 1), (G.g 15 2)]] (fun G => xA (AsV sl24 sz24 [.agg #[vi rv133.1.Gen.Width, (G.g 15 0), vi rv133.1.Kill.Width, (G.g 15 1), (G.g 15 2)]] [vi rv133.1.Gen.Width, (G.g 15 0), vi rv133.1.Kill.Width, (G.g 15 1), (G.g 15 2)])) ?_)
   have hn137 := la s2_20 ([rv133.1] : List GTransfer)
   refine Dx [7, 17, 18, 19, 20, 22] [7, 22] [4, 1, 2, 3, 0] (fun G => (G.g 17 0)) [fun G => os (G.g 17 0) ((s2_20 ++ [rv133.1]) : List GTransfer)] (fun G => by refine xf 1 rfl ?_; rintro ⟨he138, he139, he140, he141, he142, he143⟩; unfold i64ok at he138 he139; exact xp [5, 2, 3, 4] rfl (Ent.cr1 (α := GTransfer) (A := [sl (G.g 15 0) rv133.1.Gen.Words, sl (G.g 15 1) rv133.1.Kill.Words, sl (G.g 15 2) rv133.1.Copies]) _ rv133.1 _ (Nat.le_of_ble_eq_true rfl) (fun h => ⟨_, _, _, rfl, (by unfold i64ok; first | omega | (dsimp only; omega)), sepAll_get (i := 0) rfl h, (by unfold i64ok; first | omega | (dsimp only; omega)), sepAll_get (i := 1) rfl h, sepAll_get (i := 2) rfl h⟩)) (xA (ApO [4, 0] sl24 sl24 sz24))) (Dv [0] (Vfa fo27_1 0) (Dx0 [9, 13] [9] [1, 0] [fun G => Cl p10 [vi (rv4.1 % 5), (G.g 4 0), vl a25 k26 s2_20, vl a27 k28 s3_21]] (fun G => x1 1 rfl os_one fun ho144 => (xS (OpS.frame [0] rfl (OpS.storeClF [(G.g 4 0)] [vi (rv4.1 % 5), (G.g 4 0), vl a25 k26 s2_20, vl a27 k28 s3_21] rfl rfl rfl sh23 (cells_of_one ho144) rfl (by simp only [List.all_cons, List.all_nil, ho144, Bool.and_true, Bool.true_and] <;> rfl) (Nat.le_of_ble_eq_true rfl) rfl)))) (Dv [0] (Vfa fo27_3 0) (Dx0 [16, 24] [24] [1, 0] [fun G => Cl p10 [vi (rv4.1 % 5), (G.g 4 0), vl a25 k26 s2_20, (G.g 9 0)]] (fun G => x1 0 rfl os_one fun ho145 => (xS (OpS.frame [1] rfl (OpS.storeClF [(G.g 9 0)] [vi (rv4.1 % 5), (G.g 4 0), vl a25 k26 s2_20, (G.g 9 0)] rfl rfl rfl sh25 (cells_of_one ho145) rfl (by simp only [List.all_cons, List.all_nil, ho145, Bool.and_true, Bool.true_and] <;> rfl) (Nat.le_of_ble_eq_true rfl) rfl)))) (Dv [0] (Vfa fo27_2 0) (Dx0 [23, 25] [25] [1, 0] [fun G => Cl p10 [vi (rv4.1 % 5), (G.g 4 0), (G.g 17 0), (G.g 9 0)]] (fun G => x1 0 rfl os_one fun ho146 => (xS (OpS.frame [1] rfl (OpS.storeClF [(G.g 17 0)] [vi (rv4.1 % 5), (G.g 4 0), (G.g 17 0), (G.g 9 0)] rfl rfl rfl sh24 (cells_of_one ho146) rfl (by simp only [List.all_cons, List.all_nil, ho146, Bool.and_true, Bool.true_and] <;> rfl) (Nat.le_of_ble_eq_true rfl) rfl)))) ?_))))))
   refine Dn ⟨by kernel_rfl, fun G => ?_⟩
   refine Jw2 [(0, tP), (4, p3), (5, p10), (1, vi (1 + rv11.1)), (6, vi i_22)] [0, 1, 4, 5, 10, 11] [os (G.g 4 0) ((s1_19 ++ [d_55]) : List (List Int)), S a120 k121 rv113.1.Words, os (G.g 9 0) ((s3_21 ++ [rv113.1]) : List GSet), SP.fact (i64ok rv133.1.Gen.Width ∧ i64ok rv133.1.Kill.Width ∧ (0 ≤ rv133.2 ∧ rv133.2 ≤ (tT.length : Int)) ∧ (rv133.1.Gen.Width = (rv4.1 % 5)) ∧ (rv133.1.Kill.Width = (rv4.1 % 5)) ∧ (rv133.1.Copies.length ≤ 12)), sl (G.g 15 0) rv133.1.Gen.Words, sl (G.g 15 1) rv133.1.Kill.Words, sl (G.g 15 2) rv133.1.Copies, Cl tP [vl ta tk tT, vi rv133.2], os (G.g 17 0) ((s2_20 ++ [rv133.1]) : List GTransfer), Cl p10 [vi (rv4.1 % 5), (G.g 4 0), (G.g 17 0), (G.g 9 0)]] ?_
   generalize G.g 4 0 = c125, G.g 9 0 = c128, G.g 15 0 = c130, G.g 15 1 = c131, G.g 15 2 = c132, G.g 17 0 = c136
   refine Jf 9 rfl ?_; rintro ⟨he147, he148, he149, he150, he151, he152⟩
   unfold i64ok at he147 he148
   refine Jk [1, 1, 1, 2, 2, 3, 3, 4, 5, 6, 7, 8, 8, 8] ?_
   refine Jo 5 ?_; rintro a153 k154 rfl
   refine Fb 24 5 fun _ => ?_
   refine Jo 7 ?_; rintro a156 k157 rfl
   refine Fb 32 7 fun _ => ?_
   refine Jo 8 ?_; rintro a159 k160 rfl
   refine Fb 8 8 fun _ => ?_
   refine Jo 9 ?_; rintro a162 k163 rfl
   refine Fb 8 9 fun _ => ?_
   refine Jo 10 ?_; rintro a165 k166 rfl
   refine Fb 16 10 fun _ => ?_
   refine Jo 12 ?_; rintro a168 k169 rfl
   refine Fb 88 12 fun _ => KS ?_
   refine Oq Vm (Oq Vadd (Oq Va (KS ?_)))
   exact Kg (r46, rv133.2, (s1_19 ++ [d_55]), (s2_20 ++ [rv133.1]), (s3_21 ++ [rv113.1]), (i_22 + 1), a153, k154, a168, k169, a156, k157) [7, 11, 5, 9, 9, 3, 3] ⟨(q3 hM29 (by simp only [Tape_System_L0, h44, h73, h110, hg5, hg12, hg48, hR92, hg95, hg105, hg114, hg134, cs4])), (by omega), (by omega), (by omega), (by omega), (by omega), (by omega), iv1, iv1, iv1⟩
  intro h110
  have g171 := ne_of_beq_false h110
  refine KS ?_
  refine Jp 7 fun hp172 => ?_
  refine JK_drawK [0, 1, 0, 4, 15, 0, 32, 0, 128, 511, 0, 1024, 0, 0, 8192, 29695, 62463, 131071, 27775, 524287, 1048575, 2097151, 4194303, 8388607] fmix ?_
  refine Dv [0] (Vfa fo27_1 0) (Dv [8] (VldF sh23 0) (Dv [] Vm (Dx [] [] [0] (fun G => (G.g 3 0)) [fun G => Cr (G.g 3 0) 1 [vl a57 k58 d_55]] (fun G => xA (AsV sl23 sz23 [vl a57 k58 d_55] [vl a57 k58 d_55])) ?_)))
  have hn175 := la s1_19 ([d_55] : List (List Int))
  refine Dx [4, 7, 11] [7, 11] [1, 0] (fun G => (G.g 4 0)) [fun G => os (G.g 4 0) ((s1_19 ++ [d_55]) : List (List Int))] (fun G => xp [2, 0] rfl (Ent.cr1 (α := List Int) (A := [S a57 k58 d_55]) _ d_55 _ (Nat.le_of_ble_eq_true rfl) (fun h => ⟨_, rfl, sepAll_get (i := 0) rfl h⟩)) (xA (ApO [3, 0] sl23 sl23 sz23))) (Dv [0] (Vfa fo27_3 0) (Dv [8] (VldF sh25 0) (Dv [2] (VldA sh42 0) (Dx [] [] [0] (fun G => (G.g 8 0)) [fun G => Cr (G.g 8 0) 1 [vi rv94.Width, vl a100 k101 rv94.Words]] (fun G => xA (AsV sl25 sz25 [.agg #[vi rv94.Width, vl a100 k101 rv94.Words]] [vi rv94.Width, vl a100 k101 rv94.Words])) ?_))))
  have hn178 := la s3_21 ([rv94] : List GSet)
  refine Dx [3, 5, 13] [3, 5, 13] [1, 0] (fun G => (G.g 9 0)) [fun G => S a100 k101 rv94.Words, fun G => os (G.g 9 0) ((s3_21 ++ [rv94]) : List GSet)] (fun G => xp [0] rfl (Ent.freeze _ _) (xp [2, 0] rfl (Ent.cr1 (α := GSet) (A := [S a100 k101 rv94.Words]) _ rv94 _ (Nat.le_of_ble_eq_true rfl) (fun h => ⟨_, rfl, (by unfold i64ok; first | omega | (dsimp only; omega)), sepAll_get (i := 0) rfl h⟩)) (xA (ApO [3, 0] sl25 sl25 sz25)))) (Dv [0] (Vfa fo27_2 0) (Dv [8] (VldF sh24 0) (Dv [] Vm (Dv [0] (Vfa fo27_0 0) (Dv [8] (VldF sh3 0) ?_)))))
  refine letv (Tape_Transfer tT rv104.2 (rv4.1 % 5)) fun rv182 hg183 => ?_
  refine Dx [1, 10] [1] [5, 0, 1, 2, 3, 4] (fun G => .agg #[vi rv182.1.Gen.Width, (G.g 15 0), vi rv182.1.Kill.Width, (G.g 15 1), (G.g 15 2)]) [fun G => SP.fact (i64ok rv182.1.Gen.Width ∧ i64ok rv182.1.Kill.Width ∧ (0 ≤ rv182.2 ∧ rv182.2 ≤ (tT.length : Int)) ∧ (rv182.1.Gen.Width = (rv4.1 % 5)) ∧ (rv182.1.Kill.Width = (rv4.1 % 5)) ∧ (rv182.1.Copies.length ≤ 12)), fun G => sl (G.g 15 0) rv182.1.Gen.Words, fun G => sl (G.g 15 1) rv182.1.Kill.Words, fun G => sl (G.g 15 2) rv182.1.Copies, fun G => Cl tP [vl ta tk tT, vi rv182.2]] (fun G => xC [0, 0] ca68 (fn68 tP ta tk tT rv104.2 ((rv4.1 % 5)) pre pre pre rv182 hg183)) (Dx [] [] [0] (fun G => (G.g 16 0)) [fun G => Cr (G.g 16 0) 1 [vi rv182.1.Gen.Width, (G.g 15 0), vi rv182.1.Kill.Width, (G.g 15 1), (G.g 15 2)]] (fun G => xA (AsV sl24 sz24 [.agg #[vi rv182.1.Gen.Width, (G.g 15 0), vi rv182.1.Kill.Width, (G.g 15 1), (G.g 15 2)]] [vi rv182.1.Gen.Width, (G.g 15 0), vi rv182.1.Kill.Width, (G.g 15 1), (G.g 15 2)])) ?_)
  have hn186 := la s2_20 ([rv182.1] : List GTransfer)
  refine Dx [6, 16, 17, 18, 19, 21] [6, 21] [4, 1, 2, 3, 0] (fun G => (G.g 17 0)) [fun G => os (G.g 17 0) ((s2_20 ++ [rv182.1]) : List GTransfer)] (fun G => by refine xf 1 rfl ?_; rintro ⟨he187, he188, he189, he190, he191, he192⟩; unfold i64ok at he187 he188; exact xp [5, 2, 3, 4] rfl (Ent.cr1 (α := GTransfer) (A := [sl (G.g 15 0) rv182.1.Gen.Words, sl (G.g 15 1) rv182.1.Kill.Words, sl (G.g 15 2) rv182.1.Copies]) _ rv182.1 _ (Nat.le_of_ble_eq_true rfl) (fun h => ⟨_, _, _, rfl, (by unfold i64ok; first | omega | (dsimp only; omega)), sepAll_get (i := 0) rfl h, (by unfold i64ok; first | omega | (dsimp only; omega)), sepAll_get (i := 1) rfl h, sepAll_get (i := 2) rfl h⟩)) (xA (ApO [4, 0] sl24 sl24 sz24))) (Dv [0] (Vfa fo27_1 0) (Dx0 [8, 12] [8] [1, 0] [fun G => Cl p10 [vi (rv4.1 % 5), (G.g 4 0), vl a25 k26 s2_20, vl a27 k28 s3_21]] (fun G => x1 1 rfl os_one fun ho193 => (xS (OpS.frame [0] rfl (OpS.storeClF [(G.g 4 0)] [vi (rv4.1 % 5), (G.g 4 0), vl a25 k26 s2_20, vl a27 k28 s3_21] rfl rfl rfl sh23 (cells_of_one ho193) rfl (by simp only [List.all_cons, List.all_nil, ho193, Bool.and_true, Bool.true_and] <;> rfl) (Nat.le_of_ble_eq_true rfl) rfl)))) (Dv [0] (Vfa fo27_3 0) (Dx0 [15, 23] [23] [1, 0] [fun G => Cl p10 [vi (rv4.1 % 5), (G.g 4 0), vl a25 k26 s2_20, (G.g 9 0)]] (fun G => x1 0 rfl os_one fun ho194 => (xS (OpS.frame [1] rfl (OpS.storeClF [(G.g 9 0)] [vi (rv4.1 % 5), (G.g 4 0), vl a25 k26 s2_20, (G.g 9 0)] rfl rfl rfl sh25 (cells_of_one ho194) rfl (by simp only [List.all_cons, List.all_nil, ho194, Bool.and_true, Bool.true_and] <;> rfl) (Nat.le_of_ble_eq_true rfl) rfl)))) (Dv [0] (Vfa fo27_2 0) (Dx0 [22, 24] [24] [1, 0] [fun G => Cl p10 [vi (rv4.1 % 5), (G.g 4 0), (G.g 17 0), (G.g 9 0)]] (fun G => x1 0 rfl os_one fun ho195 => (xS (OpS.frame [1] rfl (OpS.storeClF [(G.g 17 0)] [vi (rv4.1 % 5), (G.g 4 0), (G.g 17 0), (G.g 9 0)] rfl rfl rfl sh24 (cells_of_one ho195) rfl (by simp only [List.all_cons, List.all_nil, ho195, Bool.and_true, Bool.true_and] <;> rfl) (Nat.le_of_ble_eq_true rfl) rfl)))) ?_))))))
  refine Dn ⟨by kernel_rfl, fun G => ?_⟩
  refine Jw2 [(0, tP), (4, p3), (5, p10), (1, vi (1 + rv11.1)), (6, vi i_22)] [0, 2, 4, 9, 10] [os (G.g 4 0) ((s1_19 ++ [d_55]) : List (List Int)), S a100 k101 rv94.Words, os (G.g 9 0) ((s3_21 ++ [rv94]) : List GSet), SP.fact (i64ok rv182.1.Gen.Width ∧ i64ok rv182.1.Kill.Width ∧ (0 ≤ rv182.2 ∧ rv182.2 ≤ (tT.length : Int)) ∧ (rv182.1.Gen.Width = (rv4.1 % 5)) ∧ (rv182.1.Kill.Width = (rv4.1 % 5)) ∧ (rv182.1.Copies.length ≤ 12)), sl (G.g 15 0) rv182.1.Gen.Words, sl (G.g 15 1) rv182.1.Kill.Words, sl (G.g 15 2) rv182.1.Copies, Cl tP [vl ta tk tT, vi rv182.2], os (G.g 17 0) ((s2_20 ++ [rv182.1]) : List GTransfer), Cl p10 [vi (rv4.1 % 5), (G.g 4 0), (G.g 17 0), (G.g 9 0)]] ?_
  generalize G.g 4 0 = c174, G.g 9 0 = c177, G.g 15 0 = c179, G.g 15 1 = c180, G.g 15 2 = c181, G.g 17 0 = c185
  refine Jf 8 rfl ?_; rintro ⟨he196, he197, he198, he199, he200, he201⟩
  unfold i64ok at he196 he197
  refine Jk [1, 1, 2, 2, 3, 3, 4, 5, 6, 7, 8, 8, 8] ?_
  refine Jo 4 ?_; rintro a202 k203 rfl
  refine Fb 24 4 fun _ => ?_
  refine Jo 6 ?_; rintro a205 k206 rfl
  refine Fb 32 6 fun _ => ?_
  refine Jo 7 ?_; rintro a208 k209 rfl
  refine Fb 8 7 fun _ => ?_
  refine Jo 8 ?_; rintro a211 k212 rfl
  refine Fb 8 8 fun _ => ?_
  refine Jo 9 ?_; rintro a214 k215 rfl
  refine Fb 16 9 fun _ => ?_
  refine Jo 11 ?_; rintro a217 k218 rfl
  refine Fb 88 11 fun _ => KS ?_
  refine Oq Vm (Oq Vadd (Oq Va (KS ?_)))
  exact Kg (r46, rv182.2, (s1_19 ++ [d_55]), (s2_20 ++ [rv182.1]), (s3_21 ++ [rv94]), (i_22 + 1), a202, k203, a217, k218, a205, k206) [6, 10, 4, 8, 8, 2, 2] ⟨(q3 hM29 (by simp only [Tape_System_L0, h44, h73, h110, hg5, hg12, hg48, hR92, hg95, hg105, hg183, cs4])), (by omega), (by omega), (by omega), (by omega), (by omega), (by omega), iv1, iv1, iv1⟩
 intro h44
 have g220 := df h44
 obtain rfl : r17 = 0 := by omega
 refine Ke ?_
 have hR221 := q2 hM29 (ti_18, s1_19, s2_20, s3_21) (by simp only [Tape_System_L0, h44, hg5, hg12, cs4])
 refine KS ?_
 refine Oq (VldA sh27 4) (Ost (Scl [5] sh27 [vi (rv4.1 % 5), vl a23 k24 s1_19, vl a25 k26 s2_20, vl a27 k28 s3_21]) (KS ?_))
 refine Jl [3] (Ent.freeze _ _) ?_
 refine Jl [3] (Ent.freeze _ _) ?_
 refine Jl [3] (Ent.freeze _ _) ?_
 have hq := q4 hrr ((GSystem.mk (rv4.1 % 5) s1_19 s2_20 s3_21), ti_18) (by simp only [Tape_System, h44, hg5, hg12, hR221, cs4]); subst hq
 exact Kr (vl a23 k24 s1_19, vl a25 k26 s2_20, vl a27 k28 s3_21) rfl (.cellN 3 rfl sh27 rfl (reads_Cl _ _) rfl .nil) [2, 1, 0, 4] en
theorem fn91 (s : GSet) (sa1 : Option Addr) (sk1 : Nat) (hs_0 : i64ok s.Width) (rr : Bool) (hrr : flqref1_Valid s = rr) : FT Tryz.prog 91 #[.agg #[vi s.Width, vl sa1 sk1 s.Words]] [S sa1 sk1 s.Words] (fun g : Unit => True) (fun g => vb rr) (fun g => []) := by
 refine FTi Tryz.func91 fun w0 M0 F0 => ?_
 unfold i64ok at hs_0
 refine Fb 8 0 fun _ => KS ?_
 refine Oa (Ab [vi s.Width, vl sa1 sk1 s.Words]) fun p2 => Oq Va (KS ?_)
 refine Oq (Vfa fo42_0 0) (Oq (VldF sh3 0) (Oq Vlss (Oq Vm ?_)))
 refine Js 7 ?_ ?_
 ·intro h3
  have g4 := dt h3
  refine Osk (Osk (Osk (Oq Vpt (Oq Vm (Osk (Osk (Osk (Osk (Osk ?_)))))))))
  refine Osk (Osk (Osk (Oq Vpt (KS ?_))))
  refine Kt (KS ?_)
  refine Oq Va (KS ?_)
  have hq := q4 hrr false (by simp only [flqref1_Valid, h3, cs4]); subst hq
  exact Kr () rfl (.tmp rfl .nil) [] trivial
 intro h3
 have g5 := df h3
 refine Oq (Vfa fo42_0 0) (Oq (VldF sh3 0) (Oq Vgtr (Oq Vpf (Oq Vm ?_))))
 refine Js 12 ?_ ?_
 ·intro h6
  have g7 := dt h6
  refine Osk (Osk (Osk (Osk (Osk (Osk (Osk (Osk (Oq Vpt (KS ?_)))))))))
  refine Kt (KS ?_)
  refine Oq Va (KS ?_)
  have hq := q4 hrr false (by simp only [flqref1_Valid, h3, h6, cs4]); subst hq
  exact Kr () rfl (.tmp rfl .nil) [] trivial
 intro h6
 have g8 := df h6
 refine Oq (Vfa fo42_1 0) (Oq (VldF sh40 0) (Oq (Vlen sl40) (Oq (Vfa fo42_0 0) (Oq (VldF sh3 0) (Oq Vadd (Oq Vquo (Oq Vneq (Oq Vpf (KS ?_)))))))))
 refine Kc ?_ ?_
 ·intro h9
  have g10 := ne_of_bne h9
  refine KS ?_
  refine Oq Va (KS ?_)
  have hq := q4 hrr false (by simp only [flqref1_Valid, h3, h6, h9, cs4]); subst hq
  exact Kr () rfl (.tmp rfl .nil) [] trivial
 intro h9
 have g11 := eq_of_bne_false h9
 refine KS ?_
 refine Oq (Vfa fo42_0 0) (Oq (VldF sh3 0) (Oq Va (KS ?_)))
 refine Kl (γ := Nat × Int) (fun (r12, b_13) => ⟨[(1, p2), (3, vi b_13)], [pv p2 [vi s.Width, vl sa1 sk1 s.Words], S sa1 sk1 s.Words], flqref1_Valid_L0 s r12 b_13 = flqref1_Valid_L0 s ((((64 * (s.Words.length : Int)) : Int) - s.Width).toNat) s.Width ∧ r12 = (((64 * (s.Words.length : Int)) : Int) - b_13).toNat ∧ (s.Width : Int) ≤ b_13 ∧ (b_13 ≤ (64 * (s.Words.length : Int)) ∨ b_13 = s.Width) ∧ (-9223372036854775808 ≤ b_13 ∧ b_13 ≤ 9223372036854775807), r12⟩) ((((64 * (s.Words.length : Int)) : Int) - s.Width).toNat, s.Width) [0, 1] ⟨rfl, rfl, (by omega), (.inr rfl), (by omega)⟩ ?_
 rintro ⟨r12, b_13⟩ ⟨hM14, hr15, hi16, hi17, hk18⟩
 refine JJ_nx fun _ _ hL hA => ?_; dsimp only at hL hA; subst hL hA
 refine Fb 8 1 fun _ => KS ?_
 refine Oq Vm (Oq (Vfa fo42_1 0) (Oq (VldF sh40 0) (Oq (Vlen sl40) (Oq Vmul (Oq Vlss (KS ?_))))))
 refine Kc ?_ ?_
 ·intro h20
  have g21 := dt h20
  obtain ⟨r22, rfl⟩ := scc (n := r12) (by omega)
  refine KS ?_
  refine Oq (Vfa fo42_1 0) (Oq (VldF sh40 0) (Oq Vm (Oq Vquo (Oq (Vi sl40 1) (Oq (VldU sh122 1) (Oq Vm (Oq Vrem (Oq (VcU un3 un123) (Oq VshrU ?_)))))))))
  refine Oq (VandU (b := 1#64)) (Oq (VeqlU (b := 1#64)) (KS ?_))
  refine Kc ?_ ?_
  ·intro h23
   have g24 := eq_of_beq h23
   refine KS ?_
   refine Oq Va (KS ?_)
   have hR25 := q2 hM14 (.ret false) (by simp only [flqref1_Valid_L0, h3, h6, h9, h20, h23, cs4])
   have hq := q4 hrr false (by simp only [flqref1_Valid, h3, h6, h9, h20, h23, hR25, cs4]); subst hq
   exact Kr () rfl (.tmp rfl .nil) [] trivial
  intro h23
  have g26 := ne_of_beq_false h23
  refine KS ?_
  refine Oq Vm (Oq Vadd (Oq Va (KS ?_)))
  exact Kg (r22, (b_13 + 1)) [0, 1] ⟨(q3 hM14 (by simp only [flqref1_Valid_L0, h3, h6, h9, h20, h23, cs4])), (by omega), (by omega), (by omega), (by omega)⟩
 intro h20
 have g27 := df h20
 obtain rfl : r12 = 0 := by omega
 refine Ke ?_
 have hR28 := q2 hM14 (.brk ()) (by simp only [flqref1_Valid_L0, h3, h6, h9, h20, cs4])
 refine KS ?_
 refine Oq Va (KS ?_)
 have hq := q4 hrr true (by simp only [flqref1_Valid, h3, h6, h9, h20, hR28, cs4]); subst hq
 exact Kr () rfl (.tmp rfl .nil) [] trivial
theorem fn150 (l : List Int) (la0 : Option Addr) (lk0 : Nat) (n : Int) (hn_0 : i64ok n) (rr : Bool) (hrr : flqref7_Rising l n = rr) : FT Tryz.prog 150 #[vl la0 lk0 l, vi n] [S la0 lk0 l] (fun g : Unit => True) (fun g => vb rr) (fun g => []) := by
 refine FTi Tryz.func150 fun w0 M0 F0 => ?_
 unfold i64ok at hn_0
 refine Fb 8 0 fun _ => Fo 0 fun ho2 => KS ?_
 refine Oq Va (KS ?_)
 refine Oq Va (KS ?_)
 refine Kl (γ := Nat × Int) (fun (r3, i_4) => ⟨[(0, vl la0 lk0 l), (1, vi n), (5, vi i_4)], [S la0 lk0 l], flqref7_Rising_L0 l n r3 i_4 = flqref7_Rising_L0 l n (((l.length : Int) - 0).toNat) 0 ∧ r3 = ((l.length : Int) - i_4).toNat ∧ (0 : Int) ≤ i_4 ∧ i_4 ≤ (l.length : Int) ∧ (-9223372036854775808 ≤ i_4 ∧ i_4 ≤ 9223372036854775807), r3⟩) (((l.length : Int) - 0).toNat, 0) [0] ⟨rfl, rfl, (by omega), (by omega), (by omega)⟩ ?_
 rintro ⟨r3, i_4⟩ ⟨hM5, hr6, hi7, hi8, hk9⟩
 refine JJ_nx fun _ _ hL hA => ?_; dsimp only at hL hA; subst hL hA
 refine Fb 8 0 fun _ => Fo 0 fun ho11 => KS ?_
 refine Oq Vm (Oq Vm (Oq (Vlen sl22) (Oq Vlss (KS ?_))))
 refine Kc ?_ ?_
 ·intro h12
  have g13 := dt h12
  obtain ⟨r14, rfl⟩ := scc (n := r3) (by omega)
  refine KS ?_
  refine Kq [0, 0, 3, 7, 15, 31, 63, 63, 255, 511, 63, 2047, 4095, 8191, 16383, 32767, 65535, 131071, 131071, 393215, 1048575, 2097151, 131071, 131071, 12713983, 29491199, 67108863, 134217727, 268435455] fmix ?_
  refine Qv [] Vm (Qv [] Vm (Qv [0] (Vi sl22 0) ?_))
  have hb15 := ok1 (i := i_4.toNat) ho11 rng
  refine Qv [0] (VldI sh3 0) (Qv [] Vlss ?_)
  refine bool_split (decide ((l.getD i_4.toNat 0) < 0)) ?_ ?_
  ·intro h16
   have g17 := dt h16
   refine Qb h16 [] Vm (Qs (Qs (Qs (Qs (Qs (Qs (Qv [] Vpt (Qv [] Vm (Qs ?_)))))))))
   refine Qs (Qs (Qs (Qs (Qs (Qs (Qs (Qs (Qs (Qs ?_)))))))))
   refine Qs (Qs (Qs (Qv [] Vpt ?_)))
   refine Qn ⟨by kernel_rfl, ?_⟩
   refine Kt (KS ?_)
   refine Oq Va (KS ?_)
   have hR18 := q2 hM5 (.ret false) (by simp only [flqref7_Rising_L0, h12, h16, cs4])
   have hq := q4 hrr false (by simp only [flqref7_Rising, h12, h16, hR18, cs4]); subst hq
   exact Kr () rfl (.tmp rfl .nil) [] trivial
  intro h16
  have g19 := df h16
  refine Qb h16 [] Vm (Qv [] Vm (Qv [] Vm (Qv [0] (Vi sl22 0) ?_)))
  have hb20 := ok1 (i := i_4.toNat) ho11 rng
  refine Qv [0] (VldI sh3 0) (Qv [] Vm (Qv [] Vgeq (Qv [] Vpf ?_)))
  refine bool_split (decide (n ≤ (l.getD i_4.toNat 0))) ?_ ?_
  ·intro h21
   have g22 := dt h21
   refine Qb h21 [] Vm (Qs (Qs (Qs (Qs (Qs (Qs (Qs (Qs (Qs ?_)))))))))
   refine Qs (Qs (Qs (Qs (Qs (Qv [] Vpt ?_)))))
   refine Qn ⟨by kernel_rfl, ?_⟩
   refine Kt (KS ?_)
   refine Oq Va (KS ?_)
   have hR23 := q2 hM5 (.ret false) (by simp only [flqref7_Rising_L0, h12, h16, h21, cs4])
   have hq := q4 hrr false (by simp only [flqref7_Rising, h12, h16, h21, hR23, cs4]); subst hq
   exact Kr () rfl (.tmp rfl .nil) [] trivial
  intro h21
  have g24 := df h21
  refine Qb h21 [] Vm (Qv [] Vm (Qv [] Vgtr ?_))
  refine bool_split (decide (0 < i_4)) ?_ ?_
  ·intro h25
   have g26 := dt h25
   refine Qb h25 [] Vm (Qv [] Vm (Qv [] Vm (Qv [] Vsub (Qv [0] (Vi sl22 0) ?_))))
   have hb27 := ok1 (i := ((i_4 - 1) : Int).toNat) ho11 rng
   refine Qv [0] (VldI sh3 0) (Qv [] Vm (Qv [] Vm (Qv [0] (Vi sl22 0) ?_)))
   have hb28 := ok1 (i := i_4.toNat) ho11 rng
   refine Qv [0] (VldI sh3 0) (Qv [] Vgeq (Qv [] Vpt (Qv [] Vpf ?_)))
   refine Qn ⟨by kernel_rfl, ?_⟩
   refine Kc ?_ ?_
   ·intro h29
    have g30 := dt h29
    refine KS ?_
    refine Oq Va (KS ?_)
    have hR31 := q2 hM5 (.ret false) (by simp only [flqref7_Rising_L0, h12, h16, h21, h25, h29, cs4])
    have hq := q4 hrr false (by simp only [flqref7_Rising, h12, h16, h21, h25, h29, hR31, cs4]); subst hq
    exact Kr () rfl (.tmp rfl .nil) [] trivial
   intro h29
   have g32 := df h29
   refine KS ?_
   refine Oq Vm (Oq Vadd (Oq Va (KS ?_)))
   exact Kg (r14, (i_4 + 1)) [0] ⟨(q3 hM5 (by simp only [flqref7_Rising_L0, h12, h16, h21, h25, h29, cs4])), (by omega), (by omega), (by omega), (by omega)⟩
  intro h25
  have g33 := df h25
  refine Qb h25 [] Vm (Qs (Qs (Qs (Qs (Qs (Qs (Qs (Qs (Qs ?_)))))))))
  refine Qs (Qv [] Vpf (Qv [] Vpf ?_))
  refine Qn ⟨by kernel_rfl, ?_⟩
  refine Kf (KS ?_)
  refine Oq Vm (Oq Vadd (Oq Va (KS ?_)))
  exact Kg (r14, (i_4 + 1)) [0] ⟨(q3 hM5 (by simp only [flqref7_Rising_L0, h12, h16, h21, h25, cs4])), (by omega), (by omega), (by omega), (by omega)⟩
 intro h12
 have g34 := df h12
 obtain rfl : r3 = 0 := by omega
 refine Ke ?_
 have hR35 := q2 hM5 (.brk ()) (by simp only [flqref7_Rising_L0, h12, cs4])
 refine KS ?_
 refine Oq Va (KS ?_)
 have hq := q4 hrr true (by simp only [flqref7_Rising, h12, hR35, cs4]); subst hq
 exact Kr () rfl (.tmp rfl .nil) [] trivial
theorem fn210 (a : GCopy) (b : GCopy) (ha_0 : i64ok a.From) (ha_1 : i64ok a.To) (hb_0 : i64ok b.From) (hb_1 : i64ok b.To) (rr : Bool) (hrr : flqref1_Before a b = rr) : FT Tryz.prog 210 #[.agg #[vi a.From, vi a.To], .agg #[vi b.From, vi b.To]] [] (fun g : Unit => True) (fun g => vb rr) (fun g => []) := by
 refine FTi Tryz.func210 fun w0 M0 F0 => ?_
 unfold i64ok at ha_0 ha_1 hb_0 hb_1
 refine KS ?_
 refine Oa (Ab [vi a.From, vi a.To]) fun p1 => Oa (Ab [vi b.From, vi b.To]) fun p2 => Oq Va (KS ?_)
 refine Oq (Vfa fo147_0 1) (Oq (VldF sh3 1) (Oq (Vfa fo147_0 0) (Oq (VldF sh3 0) (Oq Vlss (Oq Vm ?_)))))
 refine Js 10 ?_ ?_
 ·intro h3
  have g4 := dt h3
  refine Osk (Osk (Osk (Osk (Osk (Osk (Osk (Osk (Osk (Osk ?_)))))))))
  refine Osk (Osk (Oq Vpt (Oq Va (KS ?_))))
  have hq := q4 hrr true (by simp only [flqref1_Before, h3, cs4]); subst hq
  exact Kr () rfl (.tmp rfl .nil) [] trivial
 intro h3
 have g5 := df h3
 refine Oq (Vfa fo147_0 1) (Oq (VldF sh3 1) (Oq (Vfa fo147_0 0) (Oq (VldF sh3 0) (Oq Veql (Oq Vm ?_)))))
 refine Js 16 ?_ ?_
 ·intro h6
  have g7 := eq_of_beq h6
  refine Oq (Vfa fo147_1 1) (Oq (VldF sh3 1) (Oq (Vfa fo147_1 0) (Oq (VldF sh3 0) (Oq Vlss (Oq Vpt (Oq Vpf (Oq Va (KS ?_))))))))
  have hq := q4 hrr (decide (a.To < b.To)) (by simp only [flqref1_Before, h3, h6, cs4]); subst hq
  exact Kr () rfl (.tmp rfl .nil) [] trivial
 intro h6
 have g8 := ne_of_beq_false h6
 refine Osk (Osk (Osk (Osk (Osk (Oq Vpf (Oq Vpf (Oq Va (KS ?_))))))))
 have hq := q4 hrr false (by simp only [flqref1_Before, h3, h6, cs4]); subst hq
 exact Kr () rfl (.tmp rfl .nil) [] trivial
theorem fn151 (t : GTransfer) (ta1 : Option Addr) (tk1 : Nat) (ta3 : Option Addr) (tk3 : Nat) (ta4 : Option Addr) (tk4 : Nat) (ht_0 : i64ok t.Gen.Width) (ht_2 : i64ok t.Kill.Width) (rr : Bool) (hrr : fVT t = rr) : FT Tryz.prog 151 #[.agg #[vi t.Gen.Width, vl ta1 tk1 t.Gen.Words, vi t.Kill.Width, vl ta3 tk3 t.Kill.Words, vl ta4 tk4 t.Copies]] [S ta1 tk1 t.Gen.Words, S ta3 tk3 t.Kill.Words, S ta4 tk4 t.Copies] (fun g : Unit => True) (fun g => vb rr) (fun g => []) := by
 refine FTi Tryz.func151 fun w0 M0 F0 => ?_
 unfold i64ok at ht_0 ht_2
 refine Fb 8 0 fun _ => Fb 8 1 fun _ => Fb 16 2 fun _ => KS ?_
 refine Oa (Ab [vi t.Gen.Width, vl ta1 tk1 t.Gen.Words, vi t.Kill.Width, vl ta3 tk3 t.Kill.Words, vl ta4 tk4 t.Copies]) fun p4 => Oq Va (KS ?_)
 refine Oq (Vfa fo98_0 0) (Oq (VldG sh42 0 [vi t.Gen.Width, vl ta1 tk1 t.Gen.Words]) ?_)
 refine letv (flqref1_Valid t.Gen) fun rv5 hg6 => ?_
 have hc7 := fn91 t.Gen ta1 tk1 pre rv5 hg6
 refine Oc [1] ca91 hc7 ?_
 rintro - -
 refine Oq Vnot (Oq Vm ?_)
 refine Js 10 ?_ ?_
 ·intro h8
  have h10 := not_true h8
  refine Osk (Osk (Osk (Osk (Oq Vpt (Oq Vm (Osk (Osk (Osk (Osk ?_)))))))))
  refine Osk (Osk (Osk (Oq Vpt (Oq Vm (Osk (Osk (Osk (Osk (Oq Vpt ?_)))))))))
  refine KS ?_
  refine Kt (KS ?_)
  refine Oq Va (KS ?_)
  have hq := q4 hrr false (by simp only [fVT, h8, h10, hg6, cs4]); subst hq
  exact Kr () rfl (.tmp rfl .nil) [] trivial
 intro h8
 have h13 := not_false h8
 refine Oq (Vfa fo98_1 0) (Oq (VldG sh42 0 [vi t.Kill.Width, vl ta3 tk3 t.Kill.Words]) ?_)
 refine letv (flqref1_Valid t.Kill) fun rv15 hg16 => ?_
 have hc17 := fn91 t.Kill ta3 tk3 pre rv15 hg16
 refine Oc [2] ca91 hc17 ?_
 rintro - -
 refine Oq Vnot (Oq Vpf (Oq Vm ?_))
 refine Js 16 ?_ ?_
 ·intro h18
  have h20 := not_true h18
  refine Osk (Osk (Osk (Osk (Osk (Osk (Osk (Oq Vpt (Oq Vm (Osk ?_)))))))))
  refine Osk (Osk (Osk (Oq Vpt (KS ?_))))
  refine Kt (KS ?_)
  refine Oq Va (KS ?_)
  have hq := q4 hrr false (by simp only [fVT, h8, h13, h18, h20, hg6, hg16, cs4]); subst hq
  exact Kr () rfl (.tmp rfl .nil) [] trivial
 intro h18
 have h23 := not_false h18
 refine Oq (Vfa fo98_0 0) (Oq (VfaF fo42_0 0) (Oq (VldF sh3 0) (Oq (Vfa fo98_1 0) (Oq (VfaF fo42_0 0) (Oq (VldF sh3 0) (Oq Vneq (Oq Vpf (Oq Vm ?_))))))))
 refine Js 25 ?_ ?_
 ·intro h25
  have g26 := ne_of_bne h25
  refine Osk (Osk (Osk (Osk (Oq Vpt (KS ?_)))))
  refine Kt (KS ?_)
  refine Oq Va (KS ?_)
  have hq := q4 hrr false (by simp only [fVT, h8, h13, h18, h23, h25, hg6, hg16, cs4]); subst hq
  exact Kr () rfl (.tmp rfl .nil) [] trivial
 intro h25
 have g27 := eq_of_bne_false h25
 refine Oq (Vfa fo98_2 0) (Oq (VldF sh96 0) (Oq (Vlen sl96) (Oq Vgtr (Oq Vpf (KS ?_)))))
 refine Kc ?_ ?_
 ·intro h28
  have g29 := dt h28
  refine KS ?_
  refine Oq Va (KS ?_)
  have hq := q4 hrr false (by simp only [fVT, h8, h13, h18, h23, h25, h28, hg6, hg16, cs4]); subst hq
  exact Kr () rfl (.tmp rfl .nil) [] trivial
 intro h28
 have g30 := df h28
 refine KS ?_
 refine Oq (Vfa fo98_0 0) (Oq (VfaF fo42_0 0) (Oq (VldF sh3 0) (Oq Va (KS ?_))))
 refine Oq Va (KS ?_)
 refine Kl (γ := Nat × Int) (fun (r31, i_32) => ⟨[(1, p4), (3, vi t.Gen.Width), (4, vi i_32)], [pv p4 [vi t.Gen.Width, vl ta1 tk1 t.Gen.Words, vi t.Kill.Width, vl ta3 tk3 t.Kill.Words, vl ta4 tk4 t.Copies], S ta1 tk1 t.Gen.Words, S ta3 tk3 t.Kill.Words, S ta4 tk4 t.Copies], fVT_L0 t r31 i_32 = fVT_L0 t (((t.Copies.length : Int) - 0).toNat) 0 ∧ r31 = ((t.Copies.length : Int) - i_32).toNat ∧ (0 : Int) ≤ i_32 ∧ i_32 ≤ (t.Copies.length : Int) ∧ (-9223372036854775808 ≤ i_32 ∧ i_32 ≤ 9223372036854775807), r31⟩) (((t.Copies.length : Int) - 0).toNat, 0) [0, 1, 2, 3] ⟨rfl, rfl, (by omega), (by omega), (by omega)⟩ ?_
 rintro ⟨r31, i_32⟩ ⟨hM33, hr34, hi35, hi36, hk37⟩
 refine JJ_nx fun _ _ hL hA => ?_; dsimp only at hL hA; subst hL hA
 refine Fb 8 1 fun _ => Fb 8 2 fun _ => Fb 16 3 fun _ => KS ?_
 refine Oq Vm (Oq (Vfa fo98_2 0) (Oq (VldF sh96 0) (Oq (Vlen sl96) (Oq Vlss (KS ?_)))))
 refine Kc ?_ ?_
 ·intro h41
  have g42 := dt h41
  obtain ⟨r43, rfl⟩ := scc (n := r31) (by omega)
  refine KS ?_
  refine Oq (Vfa fo98_2 0) (Oq (VldF sh96 0) (Oq Vm (Oq (Vi sl96 3) ?_)))
  refine JJ_peek_GCopy i_32.toNat 3 rfl rng fun hb44 hb45 => ?_
  unfold i64ok at hb44 hb45
  refine Oq (VldA sh147 0) (Oa (Al ze147 [vi 0, vi 0]) fun p46 => Ost (Scl [0] sh147 [vi ((t.Copies.getD i_32.toNat default).From), vi ((t.Copies.getD i_32.toNat default).To)]) (KS ?_))
  refine Jp 0 fun hp47 => ?_
  refine bool_split (decide ((t.Copies.getD i_32.toNat default).From < 0)) ?_ ?_
  ·intro h48
   have g49 := dt h48
   refine Kq [0, 1, 3, 7, 15, 31, 15, 127, 255, 511, 1023, 2047, 4095, 8191, 16383, 32767, 65535, 32767, 262143, 524287, 1048575, 2097151, 4194303, 8388607, 16777215, 33554431, 16777215, 83886079, 268435455, 536870911, 16777215, 2147483647, 4294967295, 8589934591, 17179869183] fmix ?_
   refine Qv [0] (Vfa fo147_0 0) (Qv [1] (VldF sh3 0) (Qb h48 [] Vlss (Qv [] Vm (Qs (Qs (Qs (Qs (Qv [] Vpt (Qv [] Vm ?_)))))))))
   refine Qs (Qs (Qs (Qv [] Vpt (Qv [] Vm (Qs (Qs (Qs (Qs (Qv [] Vpt ?_)))))))))
   refine Qv [] Vm (Qs (Qs (Qs (Qs (Qs (Qs (Qs (Qs (Qs ?_)))))))))
   refine Qs (Qs (Qs (Qs (Qv [] Vpt ?_))))
   refine Qn ⟨by kernel_rfl, ?_⟩
   refine Kt (KS ?_)
   refine Oq Va (KS ?_)
   have hR50 := q2 hM33 (.ret false) (by simp only [fVT_L0, h8, h13, h18, h23, h25, h28, h41, h48, hg6, hg16, cs4])
   have hq := q4 hrr false (by simp only [fVT, h8, h13, h18, h23, h25, h28, h41, h48, hg6, hg16, hR50, cs4]); subst hq
   exact Kr () rfl (.tmp rfl .nil) [] trivial
  intro h48
  have g51 := df h48
  refine bool_split (decide (t.Gen.Width ≤ (t.Copies.getD i_32.toNat default).From)) ?_ ?_
  ·intro h52
   have g53 := dt h52
   refine Kq [0, 1, 3, 7, 15, 31, 15, 127, 255, 511, 1023, 2047, 4095, 8191, 16383, 32767, 65535, 32767, 262143, 524287, 1048575, 2097151, 4194303, 8388607, 16777215, 33554431, 16777215, 83886079, 268435455, 536870911, 16777215, 2147483647, 4294967295, 8589934591, 17179869183] fmix ?_
   refine Qv [0] (Vfa fo147_0 0) (Qv [1] (VldF sh3 0) (Qb h48 [] Vlss (Qv [] Vm (Qv [0] (Vfa fo147_0 0) (Qv [1] (VldF sh3 0) (Qv [] Vm (Qb h52 [] Vgeq (Qv [] Vpf (Qv [] Vm ?_)))))))))
   refine Qs (Qs (Qs (Qv [] Vpt (Qv [] Vm (Qs (Qs (Qs (Qs (Qv [] Vpt ?_)))))))))
   refine Qv [] Vm (Qs (Qs (Qs (Qs (Qs (Qs (Qs (Qs (Qs ?_)))))))))
   refine Qs (Qs (Qs (Qs (Qv [] Vpt ?_))))
   refine Qn ⟨by kernel_rfl, ?_⟩
   refine Kt (KS ?_)
   refine Oq Va (KS ?_)
   have hR54 := q2 hM33 (.ret false) (by simp only [fVT_L0, h8, h13, h18, h23, h25, h28, h41, h48, h52, hg6, hg16, cs4])
   have hq := q4 hrr false (by simp only [fVT, h8, h13, h18, h23, h25, h28, h41, h48, h52, hg6, hg16, hR54, cs4]); subst hq
   exact Kr () rfl (.tmp rfl .nil) [] trivial
  intro h52
  have g55 := df h52
  refine bool_split (decide ((t.Copies.getD i_32.toNat default).To < 0)) ?_ ?_
  ·intro h56
   have g57 := dt h56
   refine Kq [0, 1, 3, 7, 15, 31, 15, 127, 255, 511, 1023, 2047, 4095, 8191, 16383, 32767, 65535, 32767, 262143, 524287, 1048575, 2097151, 4194303, 8388607, 16777215, 33554431, 16777215, 83886079, 268435455, 536870911, 16777215, 2147483647, 4294967295, 8589934591, 17179869183] fmix ?_
   refine Qv [0] (Vfa fo147_0 0) (Qv [1] (VldF sh3 0) (Qb h48 [] Vlss (Qv [] Vm (Qv [0] (Vfa fo147_0 0) (Qv [1] (VldF sh3 0) (Qv [] Vm (Qb h52 [] Vgeq (Qv [] Vpf (Qv [] Vm ?_)))))))))
   refine Qv [0] (Vfa fo147_1 0) (Qv [1] (VldF sh3 0) (Qb h56 [] Vlss (Qv [] Vpf (Qv [] Vm (Qs (Qs (Qs (Qs (Qv [] Vpt ?_)))))))))
   refine Qv [] Vm (Qs (Qs (Qs (Qs (Qs (Qs (Qs (Qs (Qs ?_)))))))))
   refine Qs (Qs (Qs (Qs (Qv [] Vpt ?_))))
   refine Qn ⟨by kernel_rfl, ?_⟩
   refine Kt (KS ?_)
   refine Oq Va (KS ?_)
   have hR58 := q2 hM33 (.ret false) (by simp only [fVT_L0, h8, h13, h18, h23, h25, h28, h41, h48, h52, h56, hg6, hg16, cs4])
   have hq := q4 hrr false (by simp only [fVT, h8, h13, h18, h23, h25, h28, h41, h48, h52, h56, hg6, hg16, hR58, cs4]); subst hq
   exact Kr () rfl (.tmp rfl .nil) [] trivial
  intro h56
  have g59 := df h56
  refine bool_split (decide (t.Gen.Width ≤ (t.Copies.getD i_32.toNat default).To)) ?_ ?_
  ·intro h60
   have g61 := dt h60
   refine Kq [0, 1, 3, 7, 15, 31, 15, 127, 255, 511, 1023, 2047, 4095, 8191, 16383, 32767, 65535, 32767, 262143, 524287, 1048575, 2097151, 4194303, 8388607, 16777215, 33554431, 16777215, 83886079, 268435455, 536870911, 16777215, 2147483647, 4294967295, 8589934591, 17179869183] fmix ?_
   refine Qv [0] (Vfa fo147_0 0) (Qv [1] (VldF sh3 0) (Qb h48 [] Vlss (Qv [] Vm (Qv [0] (Vfa fo147_0 0) (Qv [1] (VldF sh3 0) (Qv [] Vm (Qb h52 [] Vgeq (Qv [] Vpf (Qv [] Vm ?_)))))))))
   refine Qv [0] (Vfa fo147_1 0) (Qv [1] (VldF sh3 0) (Qb h56 [] Vlss (Qv [] Vpf (Qv [] Vm (Qv [0] (Vfa fo147_1 0) (Qv [1] (VldF sh3 0) (Qv [] Vm (Qb h60 [] Vgeq (Qv [] Vpf ?_)))))))))
   refine Qv [] Vm (Qs (Qs (Qs (Qs (Qs (Qs (Qs (Qs (Qs ?_)))))))))
   refine Qs (Qs (Qs (Qs (Qv [] Vpt ?_))))
   refine Qn ⟨by kernel_rfl, ?_⟩
   refine Kt (KS ?_)
   refine Oq Va (KS ?_)
   have hR62 := q2 hM33 (.ret false) (by simp only [fVT_L0, h8, h13, h18, h23, h25, h28, h41, h48, h52, h56, h60, hg6, hg16, cs4])
   have hq := q4 hrr false (by simp only [fVT, h8, h13, h18, h23, h25, h28, h41, h48, h52, h56, h60, hg6, hg16, hR62, cs4]); subst hq
   exact Kr () rfl (.tmp rfl .nil) [] trivial
  intro h60
  have g63 := df h60
  refine bool_split (decide (0 < i_32)) ?_ ?_
  ·intro h64
   have g65 := dt h64
   refine JJ_peek_GCopy ((i_32 - 1) : Int).toNat 6 rfl rng fun hb66 hb67 => ?_
   unfold i64ok at hb66 hb67
   refine JK_drawK [0, 1, 3, 7, 15, 31, 15, 127, 255, 511, 1023, 2047, 4095, 8191, 16383, 32767, 65535, 32767, 262143, 524287, 1048575, 2097151, 4194303, 8388607, 16777215, 33554431, 16777215, 83886079, 268435455, 536870911, 16777215, 2147483647, 4294967295, 8589934591, 17179869183] fmix ?_
   refine Dv [1] (Vfa fo147_0 0) (Dv [2] (VldF sh3 0) (Db h48 [] Vlss (Dv [] Vm (Dv [1] (Vfa fo147_0 0) (Dv [2] (VldF sh3 0) (Dv [] Vm (Db h52 [] Vgeq (Dv [] Vpf (Dv [] Vm ?_)))))))))
   refine Dv [1] (Vfa fo147_1 0) (Dv [2] (VldF sh3 0) (Db h56 [] Vlss (Dv [] Vpf (Dv [] Vm (Dv [1] (Vfa fo147_1 0) (Dv [2] (VldF sh3 0) (Dv [] Vm (Db h60 [] Vgeq (Dv [] Vpf ?_)))))))))
   refine Dv [] Vm (Dv [] Vm (Db h64 [] Vgtr (Dv [] Vm (Dv [4] (Vfa fo98_2 0) (Dv [4] (VldF sh96 0) (Dv [] Vm (Dv [] Vsub (Dv [7] (Vi sl96 0) (Dv [0] (VldA sh147 0) ?_)))))))))
   refine Dv [2] (VldA sh147 0) ?_
   refine letv (flqref1_Before (t.Copies.getD ((i_32 - 1) : Int).toNat default) (t.Copies.getD i_32.toNat default)) fun rv68 hg69 => ?_
   refine Dx [] [] [0] (fun G => vb rv68) [fun G => SP.fact (True)] (fun G => xC [] ca210 (fn210 ((t.Copies.getD ((i_32 - 1) : Int).toNat default)) ((t.Copies.getD i_32.toNat default)) pre pre pre pre rv68 hg69)) (Dv [] Vnot (Dv [] Vpt (Dv [] Vpf ?_)))
   refine Dn ⟨by kernel_rfl, fun G => ?_⟩
   refine Jw2 [(1, p4), (3, vi t.Gen.Width), (4, vi i_32), (80, vb (!rv68))] [0, 1, 2, 3, 4, 5, 6, 7] [SP.fact (True)] ?_
   refine Jk [0, 2, 2, 3, 4, 5, 6] ?_
   refine Kc ?_ ?_
   ·intro h70
    have h72 := not_true h70
    refine KS ?_
    refine Oq Va (KS ?_)
    have hR74 := q2 hM33 (.ret false) (by simp only [fVT_L0, h8, h13, h18, h23, h25, h28, h41, h48, h52, h56, h60, h64, h70, h72, hg6, hg16, hg69, cs4])
    have hq := q4 hrr false (by simp only [fVT, h8, h13, h18, h23, h25, h28, h41, h48, h52, h56, h60, h64, h70, h72, hg6, hg16, hg69, hR74, cs4]); subst hq
    exact Kr () rfl (.tmp rfl .nil) [] trivial
   intro h70
   have h76 := not_false h70
   refine KS ?_
   refine Oq Vm (Oq Vadd (Oq Va (KS ?_)))
   exact Kg (r43, (i_32 + 1)) [3, 4, 5, 6] ⟨(q3 hM33 (by simp only [fVT_L0, h8, h13, h18, h23, h25, h28, h41, h48, h52, h56, h60, h64, h70, h76, hg6, hg16, hg69, cs4])), (by omega), (by omega), (by omega), (by omega)⟩
  intro h64
  have g78 := df h64
  refine Kq [0, 1, 3, 7, 15, 31, 15, 127, 255, 511, 1023, 2047, 4095, 8191, 16383, 32767, 65535, 32767, 262143, 524287, 1048575, 2097151, 4194303, 8388607, 16777215, 33554431, 16777215, 83886079, 268435455, 536870911, 16777215, 2147483647, 4294967295, 8589934591, 17179869183] fmix ?_
  refine Qv [0] (Vfa fo147_0 0) (Qv [1] (VldF sh3 0) (Qb h48 [] Vlss (Qv [] Vm (Qv [0] (Vfa fo147_0 0) (Qv [1] (VldF sh3 0) (Qv [] Vm (Qb h52 [] Vgeq (Qv [] Vpf (Qv [] Vm ?_)))))))))
  refine Qv [0] (Vfa fo147_1 0) (Qv [1] (VldF sh3 0) (Qb h56 [] Vlss (Qv [] Vpf (Qv [] Vm (Qv [0] (Vfa fo147_1 0) (Qv [1] (VldF sh3 0) (Qv [] Vm (Qb h60 [] Vgeq (Qv [] Vpf ?_)))))))))
  refine Qv [] Vm (Qv [] Vm (Qb h64 [] Vgtr (Qv [] Vm (Qs (Qs (Qs (Qs (Qs (Qs ?_)))))))))
  refine Qs (Qs (Qs (Qv [] Vpf (Qv [] Vpf ?_))))
  refine Qn ⟨by kernel_rfl, ?_⟩
  refine Kf (KS ?_)
  refine Oq Vm (Oq Vadd (Oq Va (KS ?_)))
  exact Kg (r43, (i_32 + 1)) [3, 4, 5, 6] ⟨(q3 hM33 (by simp only [fVT_L0, h8, h13, h18, h23, h25, h28, h41, h48, h52, h56, h60, h64, hg6, hg16, cs4])), (by omega), (by omega), (by omega), (by omega)⟩
 intro h41
 have g79 := df h41
 obtain rfl : r31 = 0 := by omega
 refine Ke ?_
 have hR80 := q2 hM33 (.brk ()) (by simp only [fVT_L0, h8, h13, h18, h23, h25, h28, h41, hg6, hg16, cs4])
 refine KS ?_
 refine Oq Va (KS ?_)
 have hq := q4 hrr true (by simp only [fVT, h8, h13, h18, h23, h25, h28, h41, hg6, hg16, hR80, cs4]); subst hq
 exact Kr () rfl (.tmp rfl .nil) [] trivial
theorem fn74 (s : GSystem) (sa1 : Option Addr) (sk1 : Nat) (sa2 : Option Addr) (sk2 : Nat) (sa3 : Option Addr) (sk3 : Nat) (hs_0 : i64ok s.Width) (rr : Bool) (hrr : flqref10_Valid s = rr) : FT Tryz.prog 74 #[.agg #[vi s.Width, vl sa1 sk1 s.Deps, vl sa2 sk2 s.Transfers, vl sa3 sk3 s.Boundary]] [S sa1 sk1 s.Deps, S sa2 sk2 s.Transfers, S sa3 sk3 s.Boundary] (fun g : Unit => True) (fun g => vb rr) (fun g => []) := by
 refine FTi Tryz.func74 fun w0 M0 F0 => ?_
 unfold i64ok at hs_0
 refine Fb 24 0 fun _ => Fb 88 1 fun _ => Fb 32 2 fun _ => KS ?_
 refine Oa (Ab [vi s.Width, vl sa1 sk1 s.Deps, vl sa2 sk2 s.Transfers, vl sa3 sk3 s.Boundary]) fun p4 => Oq Va (KS ?_)
 refine Oq (Vfa fo27_3 0) (Oq (VldF sh25 0) (Oq (Vlen sl25) (Oq Va (KS ?_))))
 refine Oq (Vfa fo27_0 0) (Oq (VldF sh3 0) (Oq Vlss (Oq Vm ?_)))
 refine Js 12 ?_ ?_
 ·intro h5
  have g6 := dt h5
  refine Osk (Osk (Osk (Oq Vpt (Oq Vm (Osk (Osk (Oq Vpt (Oq Vm (Osk ?_)))))))))
  refine Osk (Oq Vpt (Oq Vm (Osk (Osk (Osk (Osk (Osk (Oq Vpt (Oq Vm ?_)))))))))
  refine Osk (Osk (Osk (Osk (Osk (Oq Vpt (KS ?_))))))
  refine Kt (KS ?_)
  refine Oq Va (KS ?_)
  have hq := q4 hrr false (by simp only [flqref10_Valid, h5, cs4]); subst hq
  exact Kr () rfl (.tmp rfl .nil) [] trivial
 intro h5
 have g7 := df h5
 refine Oq (Vfa fo27_0 0) (Oq (VldF sh3 0) (Oq Vgtr (Oq Vpf (Oq Vm ?_))))
 refine Js 17 ?_ ?_
 ·intro h8
  have g9 := dt h8
  refine Osk (Osk (Oq Vpt (Oq Vm (Osk (Osk (Oq Vpt (Oq Vm (Osk (Osk ?_)))))))))
  refine Osk (Osk (Osk (Oq Vpt (Oq Vm (Osk (Osk (Osk (Osk (Osk ?_)))))))))
  refine Oq Vpt (KS ?_)
  refine Kt (KS ?_)
  refine Oq Va (KS ?_)
  have hq := q4 hrr false (by simp only [flqref10_Valid, h5, h8, cs4]); subst hq
  exact Kr () rfl (.tmp rfl .nil) [] trivial
 intro h8
 have g10 := df h8
 refine Oq Vm (Oq Vlss (Oq Vpf (Oq Vm ?_)))
 refine Js 21 ?_ ?_
 ·intro h11
  have g12 := dt h11
  refine Osk (Osk (Oq Vpt (Oq Vm (Osk (Osk (Osk (Osk (Osk (Oq Vpt ?_)))))))))
  refine Oq Vm (Osk (Osk (Osk (Osk (Osk (Oq Vpt (KS ?_)))))))
  refine Kt (KS ?_)
  refine Oq Va (KS ?_)
  have hq := q4 hrr false (by simp only [flqref10_Valid, h5, h8, h11, cs4]); subst hq
  exact Kr () rfl (.tmp rfl .nil) [] trivial
 intro h11
 have g13 := df h11
 refine Oq Vm (Oq Vgtr (Oq Vpf (Oq Vm ?_)))
 refine Js 25 ?_ ?_
 ·intro h14
  have g15 := dt h14
  refine Osk (Osk (Osk (Osk (Osk (Oq Vpt (Oq Vm (Osk (Osk (Osk ?_)))))))))
  refine Osk (Osk (Oq Vpt (KS ?_)))
  refine Kt (KS ?_)
  refine Oq Va (KS ?_)
  have hq := q4 hrr false (by simp only [flqref10_Valid, h5, h8, h11, h14, cs4]); subst hq
  exact Kr () rfl (.tmp rfl .nil) [] trivial
 intro h14
 have g16 := df h14
 refine Oq (Vfa fo27_1 0) (Oq (VldF sh23 0) (Oq (Vlen sl23) (Oq Vm (Oq Vneq (Oq Vpf (Oq Vm ?_))))))
 refine Js 32 ?_ ?_
 ·intro h17
  have g18 := ne_of_bne h17
  refine Osk (Osk (Osk (Osk (Osk (Oq Vpt (KS ?_))))))
  refine Kt (KS ?_)
  refine Oq Va (KS ?_)
  have hq := q4 hrr false (by simp only [flqref10_Valid, h5, h8, h11, h14, h17, cs4]); subst hq
  exact Kr () rfl (.tmp rfl .nil) [] trivial
 intro h17
 have g19 := eq_of_bne_false h17
 refine Oq (Vfa fo27_2 0) (Oq (VldF sh24 0) (Oq (Vlen sl24) (Oq Vm (Oq Vneq (Oq Vpf (KS ?_))))))
 refine Kc ?_ ?_
 ·intro h20
  have g21 := ne_of_bne h20
  refine KS ?_
  refine Oq Va (KS ?_)
  have hq := q4 hrr false (by simp only [flqref10_Valid, h5, h8, h11, h14, h17, h20, cs4]); subst hq
  exact Kr () rfl (.tmp rfl .nil) [] trivial
 intro h20
 have g22 := eq_of_bne_false h20
 refine KS ?_
 refine Oq Va (KS ?_)
 refine Oq Va (KS ?_)
 refine Kl (γ := Nat × Int × Int) (fun (r23, edges_24, i_25) => ⟨[(1, p4), (3, vi (s.Boundary.length : Int)), (4, vi edges_24), (5, vi i_25)], [pv p4 [vi s.Width, vl sa1 sk1 s.Deps, vl sa2 sk2 s.Transfers, vl sa3 sk3 s.Boundary], S sa1 sk1 s.Deps, S sa2 sk2 s.Transfers, S sa3 sk3 s.Boundary], flqref10_Valid_L0 s r23 edges_24 i_25 = flqref10_Valid_L0 s (((s.Boundary.length : Int) - 0).toNat) 0 0 ∧ r23 = ((s.Boundary.length : Int) - i_25).toNat ∧ (0 : Int) ≤ i_25 ∧ i_25 ≤ (s.Boundary.length : Int) ∧ (-9223372036854775808 ≤ edges_24 ∧ edges_24 ≤ 9223372036854775807) ∧ (-9223372036854775808 ≤ i_25 ∧ i_25 ≤ 9223372036854775807) ∧ 0 ≤ edges_24 ∧ edges_24 ≤ i_25 * 17592186044416, r23⟩) (((s.Boundary.length : Int) - 0).toNat, 0, 0) [0, 1, 2, 3] ⟨rfl, rfl, (by omega), (by omega), (by omega), (by omega), iv0⟩ ?_
 rintro ⟨r23, edges_24, i_25⟩ ⟨hM26, hr27, hi28, hi29, hk30, hk31, hv32⟩
 refine JJ_nx fun _ _ hL hA => ?_; dsimp only at hL hA; subst hL hA
 refine Fb 24 1 fun _ => Fb 88 2 fun _ => Fb 32 3 fun _ => KS ?_
 refine Oq Vm (Oq Vm (Oq Vlss (KS ?_)))
 refine Kc ?_ ?_
 ·intro h36
  have g37 := dt h36
  obtain ⟨r38, rfl⟩ := scc (n := r23) (by omega)
  refine KS ?_
  refine JJ_peekL i_25.toNat 1 rfl rng fun a39 k40 => ?_
  refine Fb 8 1 fun _ => Fo 1 fun ho42 => ?_
  refine letv (flqref7_Rising (s.Deps.getD i_25.toNat []) (s.Boundary.length : Int)) fun rv43 hg44 => ?_
  refine bool_split (!rv43) ?_ ?_
  ·intro h45
   have h47 := not_true h45
   refine JK_drawK [0, 1, 0, 7, 15, 0, 63, 127, 255, 511, 1023, 511, 4095, 8191, 16383, 32767, 65535, 131071, 262143, 524287, 262143, 2097151, 4194303, 8388607, 16777215, 262143, 33816575, 134217727, 268435455, 536870911, 1073741823, 2147483647, 1073741823, 8589934591, 17179869183, 34359738367, 68719476735, 137438953471, 274877906943, 549755813887, 1099511627775, 549755813887, 4398046511103, 8796093022207, 17592186044415, 549755813887, 35734127902719, 140737488355327, 281474976710655] fmix ?_
   refine Dv [2] (Vfa fo27_1 0) (Dv [2] (VldF sh23 0) (Dv [] Vm (Dv [3] (Vi sl23 0) (Dv [0] (Vld sh22 0) (Dv [] Vm (Dx [1] [] [1, 0] (fun G => vb rv43) [fun G => SP.fact (True)] (fun G => xC [0] ca150 (fn150 ((s.Deps.getD i_25.toNat [])) a39 k40 ((s.Boundary.length : Int)) pre rv43 hg44)) (Db h45 [] Vnot (Dv [] Vm (Ds ?_)))))))))
   refine Ds (Ds (Ds (Ds (Ds (Ds (Dv [] Vpt (Dv [] Vm (Ds (Ds ?_)))))))))
   refine Ds (Ds (Ds (Ds (Ds (Ds (Ds (Ds (Dv [] Vpt (Dv [] Vm ?_)))))))))
   refine Ds (Ds (Ds (Ds (Ds (Ds (Ds (Dv [] Vpt (Dv [] Vm (Ds ?_)))))))))
   refine Ds (Ds (Ds (Ds (Ds (Ds (Ds (Ds (Dv [] Vpt ?_))))))))
   refine Dn ⟨by kernel_rfl, fun G => ?_⟩
   refine Jw2 [(1, p4), (3, vi (s.Boundary.length : Int)), (4, vi edges_24), (5, vi i_25), (92, vb true)] [0, 1, 2, 3, 4, 5] [SP.fact (True)] ?_
   refine Jk [0, 1, 2, 3, 4, 5] (Kt ?_)
   refine KS ?_
   refine Oq Va (KS ?_)
   have hR49 := q2 hM26 (.ret false) (by simp only [flqref10_Valid_L0, h5, h8, h11, h14, h17, h20, h36, h45, h47, hg44, cs4])
   have hq := q4 hrr false (by simp only [flqref10_Valid, h5, h8, h11, h14, h17, h20, h36, h45, h47, hg44, hR49, cs4]); subst hq
   exact Kr () rfl (.tmp rfl .nil) [] trivial
  intro h45
  have h51 := not_false h45
  refine JJ_peek_GTransfer i_25.toNat 4 rfl rng fun a53 k54 a55 k56 a57 k58 hb59 hb60 => ?_
  unfold i64ok at hb59 hb60
  refine Fb 8 1 fun _ => Fb 8 2 fun _ => Fb 16 3 fun _ => ?_
  refine letv (fVT (s.Transfers.getD i_25.toNat default)) fun rv64 hg65 => ?_
  refine bool_split (!rv64) ?_ ?_
  ·intro h66
   have h68 := not_true h66
   refine JK_drawK [0, 1, 0, 7, 15, 0, 63, 127, 255, 511, 1023, 511, 4095, 8191, 16383, 32767, 65535, 131071, 262143, 524287, 262143, 2097151, 4194303, 8388607, 16777215, 262143, 33816575, 134217727, 268435455, 536870911, 1073741823, 2147483647, 1073741823, 8589934591, 17179869183, 34359738367, 68719476735, 137438953471, 274877906943, 549755813887, 1099511627775, 549755813887, 4398046511103, 8796093022207, 17592186044415, 549755813887, 35734127902719, 140737488355327, 281474976710655] fmix ?_
   refine Dv [6] (Vfa fo27_1 0) (Dv [6] (VldF sh23 0) (Dv [] Vm (Dv [7] (Vi sl23 0) (Dv [4] (Vld sh22 0) (Dv [] Vm (Dx [5] [] [1, 0] (fun G => vb rv43) [fun G => SP.fact (True)] (fun G => xC [0] ca150 (fn150 ((s.Deps.getD i_25.toNat [])) a39 k40 ((s.Boundary.length : Int)) pre rv43 hg44)) (Db h45 [] Vnot (Dv [] Vm (Dv [6] (Vfa fo27_2 0) ?_)))))))))
   refine Dv [6] (VldF sh24 0) (Dv [] Vm (Dv [8] (Vi sl24 0) (Dv [0] (VldA sh98 0) (Dx [1, 2, 3] [] [1, 2, 3, 0] (fun G => vb rv64) [fun G => SP.fact (True)] (fun G => xC [0, 1, 2] ca151 (fn151 ((s.Transfers.getD i_25.toNat default)) a53 k54 a55 k56 a57 k58 pre pre rv64 hg65)) (Db h66 [] Vnot (Dv [] Vpf (Dv [] Vm (Ds (Ds ?_)))))))))
   refine Ds (Ds (Ds (Ds (Ds (Ds (Ds (Ds (Dv [] Vpt (Dv [] Vm ?_)))))))))
   refine Ds (Ds (Ds (Ds (Ds (Ds (Ds (Dv [] Vpt (Dv [] Vm (Ds ?_)))))))))
   refine Ds (Ds (Ds (Ds (Ds (Ds (Ds (Ds (Dv [] Vpt ?_))))))))
   refine Dn ⟨by kernel_rfl, fun G => ?_⟩
   refine Jw2 [(1, p4), (3, vi (s.Boundary.length : Int)), (4, vi edges_24), (5, vi i_25), (92, vb true)] [0, 1, 2, 3, 4, 5, 6, 7, 8, 9] [SP.fact (True), SP.fact (True)] ?_
   refine Jk [0, 1, 2, 3, 4, 5, 6, 7, 8, 9] (Kt ?_)
   refine KS ?_
   refine Oq Va (KS ?_)
   have hR70 := q2 hM26 (.ret false) (by simp only [flqref10_Valid_L0, h5, h8, h11, h14, h17, h20, h36, h45, h51, h66, h68, hg44, hg65, cs4])
   have hq := q4 hrr false (by simp only [flqref10_Valid, h5, h8, h11, h14, h17, h20, h36, h45, h51, h66, h68, hg44, hg65, hR70, cs4]); subst hq
   exact Kr () rfl (.tmp rfl .nil) [] trivial
  intro h66
  have h72 := not_false h66
  refine bool_split (((s.Transfers.getD i_25.toNat default).Gen).Width != s.Width) ?_ ?_
  ·intro h74
   have g75 := ne_of_bne h74
   refine JK_drawK [0, 1, 0, 7, 15, 0, 63, 127, 255, 511, 1023, 511, 4095, 8191, 16383, 32767, 65535, 131071, 262143, 524287, 262143, 2097151, 4194303, 8388607, 16777215, 262143, 33816575, 134217727, 268435455, 536870911, 1073741823, 2147483647, 1073741823, 8589934591, 17179869183, 34359738367, 68719476735, 137438953471, 274877906943, 549755813887, 1099511627775, 549755813887, 4398046511103, 8796093022207, 17592186044415, 549755813887, 35734127902719, 140737488355327, 281474976710655] fmix ?_
   refine Dv [6] (Vfa fo27_1 0) (Dv [6] (VldF sh23 0) (Dv [] Vm (Dv [7] (Vi sl23 0) (Dv [4] (Vld sh22 0) (Dv [] Vm (Dx [5] [] [1, 0] (fun G => vb rv43) [fun G => SP.fact (True)] (fun G => xC [0] ca150 (fn150 ((s.Deps.getD i_25.toNat [])) a39 k40 ((s.Boundary.length : Int)) pre rv43 hg44)) (Db h45 [] Vnot (Dv [] Vm (Dv [6] (Vfa fo27_2 0) ?_)))))))))
   refine Dv [6] (VldF sh24 0) (Dv [] Vm (Dv [8] (Vi sl24 0) (Dv [0] (VldA sh98 0) (Dx [1, 2, 3] [] [1, 2, 3, 0] (fun G => vb rv64) [fun G => SP.fact (True)] (fun G => xC [0, 1, 2] ca151 (fn151 ((s.Transfers.getD i_25.toNat default)) a53 k54 a55 k56 a57 k58 pre pre rv64 hg65)) (Db h66 [] Vnot (Dv [] Vpf (Dv [] Vm (Dv [6] (Vfa fo27_2 0) (Dv [6] (VldF sh24 0) ?_)))))))))
   refine Dv [] Vm (Dv [8] (Vi sl24 0) (Dv [0] (Vfa fo98_0 0) (Dv [0] (VfaF fo42_0 0) (Dv [0] (VldF sh3 0) (Dv [6] (Vfa fo27_0 0) (Dv [6] (VldF sh3 0) (Db h74 [] Vneq (Dv [] Vpf (Dv [] Vm ?_)))))))))
   refine Ds (Ds (Ds (Ds (Ds (Ds (Ds (Dv [] Vpt (Dv [] Vm (Ds ?_)))))))))
   refine Ds (Ds (Ds (Ds (Ds (Ds (Ds (Ds (Dv [] Vpt ?_))))))))
   refine Dn ⟨by kernel_rfl, fun G => ?_⟩
   refine Jw2 [(1, p4), (3, vi (s.Boundary.length : Int)), (4, vi edges_24), (5, vi i_25), (92, vb true)] [0, 1, 2, 3, 4, 5, 6, 7, 8, 9] [SP.fact (True), SP.fact (True)] ?_
   refine Jk [0, 1, 2, 3, 4, 5, 6, 7, 8, 9] (Kt ?_)
   refine KS ?_
   refine Oq Va (KS ?_)
   have hR76 := q2 hM26 (.ret false) (by simp only [flqref10_Valid_L0, h5, h8, h11, h14, h17, h20, h36, h45, h51, h66, h72, h74, hg44, hg65, cs4])
   have hq := q4 hrr false (by simp only [flqref10_Valid, h5, h8, h11, h14, h17, h20, h36, h45, h51, h66, h72, h74, hg44, hg65, hR76, cs4]); subst hq
   exact Kr () rfl (.tmp rfl .nil) [] trivial
  intro h74
  have g77 := eq_of_bne_false h74
  refine JJ_peek_GSet i_25.toNat 9 rfl rng fun a78 k79 hb80 => ?_
  unfold i64ok at hb80
  refine Fb 8 1 fun _ => ?_
  refine JK_drawK [0, 1, 0, 7, 15, 0, 63, 127, 255, 511, 1023, 511, 4095, 8191, 16383, 32767, 65535, 131071, 262143, 524287, 262143, 2097151, 4194303, 8388607, 16777215, 262143, 33816575, 134217727, 268435455, 536870911, 1073741823, 2147483647, 1073741823, 8589934591, 17179869183, 34359738367, 68719476735, 137438953471, 274877906943, 549755813887, 1099511627775, 549755813887, 4398046511103, 8796093022207, 17592186044415, 549755813887, 35734127902719, 140737488355327, 281474976710655] fmix ?_
  refine Dv [8] (Vfa fo27_1 0) (Dv [8] (VldF sh23 0) (Dv [] Vm (Dv [9] (Vi sl23 0) (Dv [6] (Vld sh22 0) (Dv [] Vm (Dx [7] [] [1, 0] (fun G => vb rv43) [fun G => SP.fact (True)] (fun G => xC [0] ca150 (fn150 ((s.Deps.getD i_25.toNat [])) a39 k40 ((s.Boundary.length : Int)) pre rv43 hg44)) (Db h45 [] Vnot (Dv [] Vm (Dv [8] (Vfa fo27_2 0) ?_)))))))))
  refine Dv [8] (VldF sh24 0) (Dv [] Vm (Dv [10] (Vi sl24 0) (Dv [2] (VldA sh98 0) (Dx [3, 4, 5] [] [1, 2, 3, 0] (fun G => vb rv64) [fun G => SP.fact (True)] (fun G => xC [0, 1, 2] ca151 (fn151 ((s.Transfers.getD i_25.toNat default)) a53 k54 a55 k56 a57 k58 pre pre rv64 hg65)) (Db h66 [] Vnot (Dv [] Vpf (Dv [] Vm (Dv [8] (Vfa fo27_2 0) (Dv [8] (VldF sh24 0) ?_)))))))))
  refine Dv [] Vm (Dv [10] (Vi sl24 0) (Dv [2] (Vfa fo98_0 0) (Dv [2] (VfaF fo42_0 0) (Dv [2] (VldF sh3 0) (Dv [8] (Vfa fo27_0 0) (Dv [8] (VldF sh3 0) (Db h74 [] Vneq (Dv [] Vpf (Dv [] Vm ?_)))))))))
  refine Dv [8] (Vfa fo27_3 0) (Dv [8] (VldF sh25 0) (Dv [] Vm (Dv [11] (Vi sl25 0) (Dv [0] (VldA sh42 0) ?_))))
  refine letv (flqref1_Valid (s.Boundary.getD i_25.toNat default)) fun rv82 hg83 => ?_
  refine Dx [1] [] [1, 0] (fun G => vb rv82) [fun G => SP.fact (True)] (fun G => xC [0] ca91 (fn91 ((s.Boundary.getD i_25.toNat default)) a78 k79 pre rv82 hg83)) (Dv [] Vnot (Dv [] Vpf ?_))
  refine bool_split (!rv82) ?_ ?_
  ·intro h84
   have h86 := not_true h84
   refine Db h84 [] Vm (Ds (Ds (Ds (Ds (Ds (Ds (Ds (Ds (Ds ?_)))))))))
   refine Dv [] Vpt ?_
   refine Dn ⟨by kernel_rfl, fun G => ?_⟩
   refine Jw2 [(1, p4), (3, vi (s.Boundary.length : Int)), (4, vi edges_24), (5, vi i_25), (92, vb true)] [0, 1, 2, 3, 4, 5, 6, 7, 8, 9, 10, 11] [SP.fact (True), SP.fact (True), SP.fact (True)] ?_
   refine Jk [0, 1, 2, 3, 4, 5, 6, 7, 8, 9, 10, 11] (Kt ?_)
   refine KS ?_
   refine Oq Va (KS ?_)
   have hR88 := q2 hM26 (.ret false) (by simp only [flqref10_Valid_L0, h5, h8, h11, h14, h17, h20, h36, h45, h51, h66, h72, h74, h84, h86, hg44, hg65, hg83, cs4])
   have hq := q4 hrr false (by simp only [flqref10_Valid, h5, h8, h11, h14, h17, h20, h36, h45, h51, h66, h72, h74, h84, h86, hg44, hg65, hg83, hR88, cs4]); subst hq
   exact Kr () rfl (.tmp rfl .nil) [] trivial
  intro h84
  have h90 := not_false h84
  refine Db h84 [] Vm (Dv [8] (Vfa fo27_3 0) (Dv [8] (VldF sh25 0) (Dv [] Vm (Dv [11] (Vi sl25 0) (Dv [0] (Vfa fo42_0 0) (Dv [0] (VldF sh3 0) (Dv [8] (Vfa fo27_0 0) (Dv [8] (VldF sh3 0) (Dv [] Vneq ?_)))))))))
  refine Dv [] Vpf ?_
  refine Dn ⟨by kernel_rfl, fun G => ?_⟩
  refine Jw2 [(1, p4), (3, vi (s.Boundary.length : Int)), (4, vi edges_24), (5, vi i_25), (92, vb ((s.Boundary.getD i_25.toNat default).Width != s.Width))] [0, 1, 2, 3, 4, 5, 6, 7, 8, 9, 10, 11] [SP.fact (True), SP.fact (True), SP.fact (True)] ?_
  refine Jk [0, 1, 2, 3, 4, 5, 6, 7, 8, 9, 10, 11] ?_
  refine Kc ?_ ?_
  ·intro h92
   have g93 := ne_of_bne h92
   refine KS ?_
   refine Oq Va (KS ?_)
   have hR94 := q2 hM26 (.ret false) (by simp only [flqref10_Valid_L0, h5, h8, h11, h14, h17, h20, h36, h45, h51, h66, h72, h74, h84, h90, h92, hg44, hg65, hg83, cs4])
   have hq := q4 hrr false (by simp only [flqref10_Valid, h5, h8, h11, h14, h17, h20, h36, h45, h51, h66, h72, h74, h84, h90, h92, hg44, hg65, hg83, hR94, cs4]); subst hq
   exact Kr () rfl (.tmp rfl .nil) [] trivial
  intro h92
  have g95 := eq_of_bne_false h92
  refine KS ?_
  refine Oq Vm (Oq (Vfa fo27_1 8) (Oq (VldF sh23 8) (Oq Vm (Oq (Vi sl23 9) (Oq (Vld sh22 6) (Oq (Vlen sl22) (Oq Vadd (Oq Va (KS ?_)))))))))
  refine Oq Vm (Oq Vadd (Oq Va (KS ?_)))
  exact Kg (r38, (edges_24 + ((s.Deps.getD i_25.toNat []).length : Int)), (i_25 + 1)) [8, 9, 10, 11] ⟨(q3 hM26 (by simp only [flqref10_Valid_L0, h5, h8, h11, h14, h17, h20, h36, h45, h51, h66, h72, h74, h84, h90, h92, hg44, hg65, hg83, cs4])), (by omega), (by omega), (by omega), (by omega), (by omega), iv1⟩
 intro h36
 have g96 := df h36
 obtain rfl : r23 = 0 := by omega
 refine Ke ?_
 have hR97 := q2 hM26 (.brk edges_24) (by simp only [flqref10_Valid_L0, h5, h8, h11, h14, h17, h20, h36, cs4])
 refine KS ?_
 refine Oq Vm (Oq Vleq (Oq Va (KS ?_)))
 have hq := q4 hrr (decide (edges_24 ≤ 1024)) (by simp only [flqref10_Valid, h5, h8, h11, h14, h17, h20, h36, hR97, cs4]); subst hq
 exact Kr () rfl (.tmp rfl .nil) [] trivial
theorem fn75 (s : GSystem) (sa1 : Option Addr) (sk1 : Nat) (sa2 : Option Addr) (sk2 : Nat) (sa3 : Option Addr) (sk3 : Nat) (hs_0 : i64ok s.Width) (hw0 : 0 ≤ s.Width ∧ s.Width ≤ 1000) (rr : List GSet) (hrr : flqref10_Empty s = rr) : FT Tryz.prog 75 #[.agg #[vi s.Width, vl sa1 sk1 s.Deps, vl sa2 sk2 s.Transfers, vl sa3 sk3 s.Boundary]] [S sa1 sk1 s.Deps, S sa2 sk2 s.Transfers, S sa3 sk3 s.Boundary] (fun g : Value => (rr.length = s.Boundary.length)) (fun g => g) (fun g => [sl g rr]) := by
 refine FTi Tryz.func75 fun w0 M0 F0 => ?_
 unfold i64ok at hs_0
 refine Fb 24 0 fun _ => Fb 88 1 fun _ => Fb 32 2 fun _ => KS ?_
 refine Oa (Ab [vi s.Width, vl sa1 sk1 s.Deps, vl sa2 sk2 s.Transfers, vl sa3 sk3 s.Boundary]) fun p4 => Oq Va (KS ?_)
 refine Oq Va (KS ?_)
 refine Oq Va (KS ?_)
 refine Jl [] (Ent.osNil (α := GSet)) ?_
 refine Kl (γ := Nat × List GSet × Int × Option Addr × Nat) (fun (r5, out_6, n_7, a8, k9) => ⟨[(1, p4), (3, vl a8 k9 out_6), (4, vi n_7)], [O a8 k9 out_6, pv p4 [vi s.Width, vl sa1 sk1 s.Deps, vl sa2 sk2 s.Transfers, vl sa3 sk3 s.Boundary], S sa1 sk1 s.Deps, S sa2 sk2 s.Transfers, S sa3 sk3 s.Boundary], flqref10_Empty_L0 s r5 out_6 n_7 = flqref10_Empty_L0 s (((s.Boundary.length : Int) - 0).toNat) [] 0 ∧ r5 = ((s.Boundary.length : Int) - n_7).toNat ∧ (0 : Int) ≤ n_7 ∧ n_7 ≤ (s.Boundary.length : Int) ∧ (-9223372036854775808 ≤ n_7 ∧ n_7 ≤ 9223372036854775807) ∧ (out_6.length : Int) = n_7, r5⟩) (((s.Boundary.length : Int) - 0).toNat, [], 0, none, 0) [0, 0, 1, 2, 3] ⟨rfl, rfl, (by omega), (by omega), (by omega), iv0⟩ ?_
 rintro ⟨r5, out_6, n_7, a8, k9⟩ ⟨hM10, hr11, hi12, hi13, hk14, hv15⟩
 refine JJ_nx fun _ _ hL hA => ?_; dsimp only at hL hA; subst hL hA
 refine Fb 32 0 fun _ => Fb 24 2 fun _ => Fb 88 3 fun _ => Fb 32 4 fun _ => KS ?_
 refine Oq Vm (Oq (Vfa fo27_3 1) (Oq (VldF sh25 1) (Oq (Vlen sl25) (Oq Vlss (KS ?_)))))
 refine Kc ?_ ?_
 ·intro h20
  have g21 := dt h20
  obtain ⟨r22, rfl⟩ := scc (n := r5) (by omega)
  refine KS ?_
  refine Oq Vm (Oq (Vfa fo27_0 1) (Oq (VldF sh3 1) ?_))
  refine letv (flqref1_Empty s.Width) fun rv24 hg25 => ?_
  have hc26 := fn67 s.Width pre pre rv24 hg25
  refine Oc [] ca67 hc26 ?_
  rintro c23 ⟨he27, he28, he29⟩
  unfold i64ok at he27
  refine Jo 0 ?_; rintro a30 k31 rfl
  refine Fb 8 0 fun _ => Oa (AsV sl25 sz25 [.agg #[vi rv24.Width, vl a30 k31 rv24.Words]] [vi rv24.Width, vl a30 k31 rv24.Words]) fun c33 => ?_
  refine Jo 0 ?_; rintro a34 k35 rfl
  refine Jl [1] (Ent.freeze _ _) ?_
  refine Jl [1, 0] (Ent.cr1 (α := GSet) (A := [S a30 k31 rv24.Words]) _ rv24 _ (Nat.le_of_ble_eq_true rfl) (fun h => ⟨_, rfl, (by unfold i64ok; first | omega | (dsimp only; omega)), sepAll_get (i := 0) rfl h⟩)) ?_
  refine Oa (ApO [3, 0] sl25 sl25 sz25) fun c36 => ?_
  refine Jo 0 ?_; rintro a37 k38 rfl
  refine Fb 32 0 fun _ => ?_
  have hn40 := la out_6 ([rv24] : List GSet)
  refine Oq Va (KS ?_)
  refine Oq Vm (Oq Vadd (Oq Va (KS ?_)))
  exact Kg (r22, (out_6 ++ [rv24]), (n_7 + 1), a37, k38) [0, 2, 3, 4, 5] ⟨(q3 hM10 (by simp only [flqref10_Empty_L0, h20, hg25, cs4])), (by omega), (by omega), (by omega), (by omega), iv1⟩
 intro h20
 have g41 := df h20
 obtain rfl : r5 = 0 := by omega
 refine Ke ?_
 have hR42 := q2 hM10 out_6 (by simp only [flqref10_Empty_L0, h20, cs4])
 refine KS ?_
 refine Oq Vm (Oq Va (KS ?_))
 refine Jl [0] (Ent.freeze _ _) ?_
 have hq := q4 hrr out_6 (by simp only [flqref10_Empty, h20, hR42, cs4]); subst hq
 exact Kr (vl a8 k9 out_6) rfl (.tmp rfl .nil) [0] en
theorem fn161 (s : GSystem) (sa1 : Option Addr) (sk1 : Nat) (sa2 : Option Addr) (sk2 : Nat) (sa3 : Option Addr) (sk3 : Nat) (v : List GSet) (va0 : Option Addr) (vk0 : Nat) (hs_0 : i64ok s.Width) (rr : Int) (hrr : flqref10_values s v = rr) : FT Tryz.prog 161 #[.agg #[vi s.Width, vl sa1 sk1 s.Deps, vl sa2 sk2 s.Transfers, vl sa3 sk3 s.Boundary], vl va0 vk0 v] [S sa1 sk1 s.Deps, S sa2 sk2 s.Transfers, S sa3 sk3 s.Boundary, S va0 vk0 v] (fun g : Unit => i64ok rr) (fun g => vi rr) (fun g => []) := by
 refine FTi Tryz.func161 fun w0 M0 F0 => ?_
 unfold i64ok at hs_0
 refine Fb 24 0 fun _ => Fb 88 1 fun _ => Fb 32 2 fun _ => Fb 32 3 fun _ => KS ?_
 refine Oa (Ab [vi s.Width, vl sa1 sk1 s.Deps, vl sa2 sk2 s.Transfers, vl sa3 sk3 s.Boundary]) fun p5 => Oq Va (KS ?_)
 refine Oq Vm (Oq (Vlen sl25) (Oq (Vfa fo27_3 0) (Oq (VldF sh25 0) (Oq (Vlen sl25) (Oq Vneq (KS ?_))))))
 refine Kc ?_ ?_
 ·intro h6
  have g7 := ne_of_bne h6
  refine KS ?_
  refine Oq Va (KS ?_)
  have hq := q4 hrr 1 (by simp only [flqref10_values, h6, cs4]); subst hq
  exact Kr () rfl (.tmp rfl .nil) [] en
 intro h6
 have g8 := eq_of_bne_false h6
 refine KS ?_
 refine Oq Va (KS ?_)
 refine Kl (γ := Nat × Int) (fun (r9, i_10) => ⟨[(1, vl va0 vk0 v), (2, p5), (5, vi i_10)], [pv p5 [vi s.Width, vl sa1 sk1 s.Deps, vl sa2 sk2 s.Transfers, vl sa3 sk3 s.Boundary], S sa1 sk1 s.Deps, S sa2 sk2 s.Transfers, S sa3 sk3 s.Boundary, S va0 vk0 v], flqref10_values_L0 v r9 i_10 = flqref10_values_L0 v (((v.length : Int) - 0).toNat) 0 ∧ r9 = ((v.length : Int) - i_10).toNat ∧ (0 : Int) ≤ i_10 ∧ i_10 ≤ (v.length : Int) ∧ (-9223372036854775808 ≤ i_10 ∧ i_10 ≤ 9223372036854775807), r9⟩) (((v.length : Int) - 0).toNat, 0) [0, 1, 2, 3, 4] ⟨rfl, rfl, (by omega), (by omega), (by omega)⟩ ?_
 rintro ⟨r9, i_10⟩ ⟨hM11, hr12, hi13, hi14, hk15⟩
 refine JJ_nx fun _ _ hL hA => ?_; dsimp only at hL hA; subst hL hA
 refine Fb 24 1 fun _ => Fb 88 2 fun _ => Fb 32 3 fun _ => Fb 32 4 fun _ => KS ?_
 refine Oq Vm (Oq Vm (Oq (Vlen sl25) (Oq Vlss (KS ?_))))
 refine Kc ?_ ?_
 ·intro h20
  have g21 := dt h20
  obtain ⟨r22, rfl⟩ := scc (n := r9) (by omega)
  refine KS ?_
  refine Oq Vm (Oq Vm (Oq (Vi sl25 4) ?_))
  refine JJ_peek_GSet i_10.toNat 4 rfl rng fun a23 k24 hb25 => ?_
  unfold i64ok at hb25
  refine Fb 8 1 fun _ => Oq (VldA sh42 0) ?_
  refine letv (flqref1_Valid (v.getD i_10.toNat default)) fun rv27 hg28 => ?_
  have hc29 := fn91 ((v.getD i_10.toNat default)) a23 k24 pre rv27 hg28
  refine Oc [1] ca91 hc29 ?_
  rintro - -
  refine Oq Vnot (KS ?_)
  refine Kc ?_ ?_
  ·intro h30
   have h32 := not_true h30
   refine KS ?_
   refine Oq Va (KS ?_)
   have hR34 := q2 hM11 (.ret 1) (by simp only [flqref10_values_L0, h6, h20, h30, h32, hg28, cs4])
   have hq := q4 hrr 1 (by simp only [flqref10_values, h6, h20, h30, h32, hg28, hR34, cs4]); subst hq
   exact Kr () rfl (.tmp rfl .nil) [] en
  intro h30
  have h36 := not_false h30
  refine KS ?_
  refine Oq Vm (Oq Vadd (Oq Va (KS ?_)))
  exact Kg (r22, (i_10 + 1)) [2, 3, 4, 5, 6] ⟨(q3 hM11 (by simp only [flqref10_values_L0, h6, h20, h30, h36, hg28, cs4])), (by omega), (by omega), (by omega), (by omega)⟩
 intro h20
 have g38 := df h20
 obtain rfl : r9 = 0 := by omega
 refine Ke ?_
 have hR39 := q2 hM11 (.brk ()) (by simp only [flqref10_values_L0, h6, h20, cs4])
 refine KS ?_
 refine Oq Va (KS ?_)
 refine Kl (γ := Nat × Int) (fun (r40, i_41) => ⟨[(1, vl va0 vk0 v), (2, p5), (6, vi i_41)], [pv p5 [vi s.Width, vl sa1 sk1 s.Deps, vl sa2 sk2 s.Transfers, vl sa3 sk3 s.Boundary], S sa1 sk1 s.Deps, S sa2 sk2 s.Transfers, S sa3 sk3 s.Boundary, S va0 vk0 v], flqref10_values_L1 s v r40 i_41 = flqref10_values_L1 s v (((v.length : Int) - 0).toNat) 0 ∧ r40 = ((v.length : Int) - i_41).toNat ∧ (0 : Int) ≤ i_41 ∧ i_41 ≤ (v.length : Int) ∧ (-9223372036854775808 ≤ i_41 ∧ i_41 ≤ 9223372036854775807), r40⟩) (((v.length : Int) - 0).toNat, 0) [0, 1, 2, 3, 4] ⟨rfl, rfl, (by omega), (by omega), (by omega)⟩ ?_
 rintro ⟨r40, i_41⟩ ⟨hM42, hr43, hi44, hi45, hk46⟩
 refine JJ_nx fun _ _ hL hA => ?_; dsimp only at hL hA; subst hL hA
 refine Fb 24 1 fun _ => Fb 88 2 fun _ => Fb 32 3 fun _ => Fb 32 4 fun _ => KS ?_
 refine Oq Vm (Oq Vm (Oq (Vlen sl25) (Oq Vlss (KS ?_))))
 refine Kc ?_ ?_
 ·intro h51
  have g52 := dt h51
  obtain ⟨r53, rfl⟩ := scc (n := r40) (by omega)
  refine KS ?_
  refine JJ_peek_GSet i_41.toNat 4 rfl rng fun a54 k55 hb56 => ?_
  unfold i64ok at hb56
  refine Fb 8 1 fun _ => ?_
  refine Kq [0, 0, 3, 7, 15, 0, 32, 127] fmix ?_
  refine Qv [] Vm (Qv [] Vm (Qv [6] (Vi sl25 0) (Qv [0] (Vfa fo42_0 0) (Qv [0] (VldF sh3 0) (Qv [2] (Vfa fo27_0 0) (Qv [2] (VldF sh3 0) (Qv [] Vneq ?_)))))))
  refine Qn ⟨by kernel_rfl, ?_⟩
  refine Kc ?_ ?_
  ·intro h58
   have g59 := ne_of_bne h58
   refine KS ?_
   refine Oq Va (KS ?_)
   have hR60 := q2 hM42 (.ret 2) (by simp only [flqref10_values_L1, h6, h20, h51, h58, hR39, cs4])
   have hq := q4 hrr 2 (by simp only [flqref10_values, h6, h20, h51, h58, hR39, hR60, cs4]); subst hq
   exact Kr () rfl (.tmp rfl .nil) [] en
  intro h58
  have g61 := eq_of_bne_false h58
  refine KS ?_
  refine Oq Vm (Oq Vadd (Oq Va (KS ?_)))
  exact Kg (r53, (i_41 + 1)) [2, 3, 4, 5, 6] ⟨(q3 hM42 (by simp only [flqref10_values_L1, h6, h20, h51, h58, hR39, cs4])), (by omega), (by omega), (by omega), (by omega)⟩
 intro h51
 have g62 := df h51
 obtain rfl : r40 = 0 := by omega
 refine Ke ?_
 have hR63 := q2 hM42 (.brk ()) (by simp only [flqref10_values_L1, h6, h20, h51, hR39, cs4])
 refine KS ?_
 refine Oq Va (KS ?_)
 have hq := q4 hrr 0 (by simp only [flqref10_values, h6, h20, h51, hR39, hR63, cs4]); subst hq
 exact Kr () rfl (.tmp rfl .nil) [] en
theorem fn31 (s : GSet) (sa1 : Option Addr) (sk1 : Nat) (b : Int) (hs_0 : i64ok s.Width) (hb_0 : i64ok b) (rr : Bool) (hrr : flqref1_Has s b = rr) : FT Tryz.prog 31 #[.agg #[vi s.Width, vl sa1 sk1 s.Words], vi b] [S sa1 sk1 s.Words] (fun g : Unit => True) (fun g => vb rr) (fun g => []) := by
 refine FTi Tryz.func31 fun w0 M0 F0 => ?_
 unfold i64ok at hs_0 hb_0
 refine Fb 8 0 fun _ => KS ?_
 refine Oa (Ab [vi s.Width, vl sa1 sk1 s.Words]) fun p2 => Oq Va (KS ?_)
 refine Oq (VldA sh42 0) ?_
 refine letv (flqref1_Valid s) fun rv3 hg4 => ?_
 have hc5 := fn91 s sa1 sk1 pre rv3 hg4
 refine Oc [1] ca91 hc5 ?_
 rintro - -
 refine Oq Vm ?_
 refine Js 7 ?_ ?_
 ·intro h6
  try have hrg := RV_w (s := s) (by simp only [h6, hg4])
  refine Oq Vm (Oq Vgeq (Oq Vpt (Oq Vm ?_)))
  refine Js 11 ?_ ?_
  ·intro h8
   have g9 := dt h8
   refine Oq Vm (Oq (Vfa fo42_0 0) (Oq (VldF sh3 0) (Oq Vlss (Oq Vpt (Oq Vm ?_)))))
   refine Js 17 ?_ ?_
   ·intro h10
    have g11 := dt h10
    refine Oq (Vfa fo42_1 0) (Oq (VldF sh40 0) (Oq Vm (Oq Vquo (Oq (Vi sl40 1) (Oq (VldU sh122 1) (Oq Vm (Oq Vrem (Oq (VcU un3 un123) (Oq VshrU ?_)))))))))
    refine Oq (VandU (b := 1#64)) (Oq (VeqlU (b := 1#64)) (Oq Vpt (Oq Va (KS ?_))))
    have hq := q4 hrr ((((s.Words.getD ((b / 64) : Int).toNat 0#64) >>> (((BitVec.ofInt 64 (b % 64)).toNat : Int)).toNat) &&& 1#64) == 1#64) (by simp only [flqref1_Has, h6, h8, h10, hg4, cs4]); subst hq
    exact Kr () rfl (.tmp rfl .nil) [] trivial
   intro h10
   have g12 := df h10
   refine Osk (Osk (Osk (Osk (Osk (Osk (Osk (Osk (Osk (Osk ?_)))))))))
   refine Osk (Osk (Oq Vpf (Oq Va (KS ?_))))
   have hq := q4 hrr false (by simp only [flqref1_Has, h6, h8, h10, hg4, cs4]); subst hq
   exact Kr () rfl (.tmp rfl .nil) [] trivial
  intro h8
  have g13 := df h8
  refine Osk (Osk (Osk (Osk (Oq Vpf (Oq Vm (Osk (Osk (Osk (Osk ?_)))))))))
  refine Osk (Osk (Osk (Osk (Osk (Osk (Osk (Osk (Oq Vpf (Oq Va ?_)))))))))
  refine KS ?_
  have hq := q4 hrr false (by simp only [flqref1_Has, h6, h8, hg4, cs4]); subst hq
  exact Kr () rfl (.tmp rfl .nil) [] trivial
 intro h6
 refine Osk (Osk (Oq Vpf (Oq Vm (Osk (Osk (Osk (Osk (Oq Vpf (Oq Vm ?_)))))))))
 refine Osk (Osk (Osk (Osk (Osk (Osk (Osk (Osk (Osk (Osk ?_)))))))))
 refine Osk (Osk (Oq Vpf (Oq Va (KS ?_))))
 have hq := q4 hrr false (by simp only [flqref1_Has, h6, hg4, cs4]); subst hq
 exact Kr () rfl (.tmp rfl .nil) [] trivial
theorem fn153 (a : GSet) (aa1 : Option Addr) (ak1 : Nat) (b : GSet) (ba1 : Option Addr) (bk1 : Nat) (one : Bool) (two : Bool) (both : Bool) (ha_0 : i64ok a.Width) (hb_0 : i64ok b.Width) (rr : GSet × Int) (hrr : flqref1_mix a b one two both = rr) : FT Tryz.prog 153 #[.agg #[vi a.Width, vl aa1 ak1 a.Words], .agg #[vi b.Width, vl ba1 bk1 b.Words], vb one, vb two, vb both] [S aa1 ak1 a.Words, S ba1 bk1 b.Words] (fun g : Value => i64ok rr.1.Width ∧ i64ok rr.2) (fun g => .tuple #[.agg #[vi rr.1.Width, g], vi rr.2]) (fun g => [sl g rr.1.Words]) := by
 refine FTi Tryz.func153 fun w0 M0 F0 => ?_
 unfold i64ok at ha_0 hb_0
 refine Fb 8 0 fun _ => Fb 8 1 fun _ => KS ?_
 refine Oa (Ab [vi a.Width, vl aa1 ak1 a.Words]) fun p3 => Oa (Ab [vi b.Width, vl ba1 bk1 b.Words]) fun p4 => Oa (Al ze42 [vi 0, .slice none 0 0]) fun p5 => Oq Va (KS ?_)
 refine Oq (VldA sh42 2) ?_
 refine letv (flqref1_Valid a) fun rv6 hg7 => ?_
 have hc8 := fn91 a aa1 ak1 pre rv6 hg7
 refine Oc [3] ca91 hc8 ?_
 rintro - -
 refine Oq Vnot (Oq Vm ?_)
 refine Js 19 ?_ ?_
 ·intro h9
  have h11 := not_true h9
  refine Osk (Osk (Osk (Oq Vpt (KS ?_))))
  refine Kt (KS ?_)
  refine Oq (Vbd st42 [vi 0, .slice none 0 0]) (Ost (Scl [0] sh42 [vi 0, .slice none 0 0]) (Oq Va (KS ?_)))
  refine Jl [] (Ent.slNil (α := BitVec 64)) ?_
  have hq := q4 hrr ((GSet.mk 0 []), 1) (by simp only [flqref1_mix, h9, h11, hg7, cs4]); subst hq
  exact Kr (.slice none 0 0) rfl (.cellN 1 rfl sh42 rfl (reads_Cl _ _) rfl (.tmp rfl .nil)) [0] en
 intro h9
 have h14 := not_false h9
 try have hrg := RV_w (s := a) (by simp only [h9, h14, hg7])
 refine Oq (VldA sh42 1) ?_
 refine letv (flqref1_Valid b) fun rv16 hg17 => ?_
 have hc18 := fn91 b ba1 bk1 pre rv16 hg17
 refine Oc [4] ca91 hc18 ?_
 rintro - -
 refine Oq Vnot (Oq Vpf (KS ?_))
 refine Kc ?_ ?_
 ·intro h19
  have h21 := not_true h19
  refine KS ?_
  refine Oq (Vbd st42 [vi 0, .slice none 0 0]) (Ost (Scl [0] sh42 [vi 0, .slice none 0 0]) (Oq Va (KS ?_)))
  refine Jl [] (Ent.slNil (α := BitVec 64)) ?_
  have hq := q4 hrr ((GSet.mk 0 []), 1) (by simp only [flqref1_mix, h9, h14, h19, h21, hg7, hg17, cs4]); subst hq
  exact Kr (.slice none 0 0) rfl (.cellN 1 rfl sh42 rfl (reads_Cl _ _) rfl (.tmp rfl .nil)) [0] en
 intro h19
 have h24 := not_false h19
 try have hrg := RV_w (s := a) (by simp only [h9, h14, h19, h24, hg7, hg17])
 refine KS ?_
 refine Oq (Vfa fo42_0 2) (Oq (VldF sh3 2) (Oq (Vfa fo42_0 1) (Oq (VldF sh3 1) (Oq Vneq (KS ?_)))))
 refine Kc ?_ ?_
 ·intro h26
  have g27 := ne_of_bne h26
  refine KS ?_
  refine Oq (Vbd st42 [vi 0, .slice none 0 0]) (Ost (Scl [0] sh42 [vi 0, .slice none 0 0]) (Oq Va (KS ?_)))
  refine Jl [] (Ent.slNil (α := BitVec 64)) ?_
  have hq := q4 hrr ((GSet.mk 0 []), 2) (by simp only [flqref1_mix, h9, h14, h19, h24, h26, hg7, hg17, cs4]); subst hq
  exact Kr (.slice none 0 0) rfl (.cellN 1 rfl sh42 rfl (reads_Cl _ _) rfl (.tmp rfl .nil)) [0] en
 intro h26
 have g28 := eq_of_bne_false h26
 refine KS ?_
 refine Oq (Vfa fo42_0 2) (Oq (VldF sh3 2) ?_)
 refine letv (flqref1_Empty a.Width) fun rv30 hg31 => ?_
 have hc32 := fn67 a.Width pre pre rv30 hg31
 refine Oc [] ca67 hc32 ?_
 rintro c29 ⟨he33, he34, he35⟩
 unfold i64ok at he33
 refine Jo 0 ?_; rintro a36 k37 rfl
 refine Fb 8 0 fun _ => ?_
 refine Oa (Al ze42 [vi 0, .slice none 0 0]) fun p39 => Ost (Scl [0] sh42 [vi rv30.Width, vl a36 k37 rv30.Words]) (KS ?_)
 refine Oq Va (KS ?_)
 refine Kl (γ := Nat × Int × List (BitVec 64) × Int × Option Addr × Nat) (fun (r40, s0_41, s1_42, k_43, a44, k45) => ⟨[(2, vb one), (3, vb two), (4, vb both), (5, p3), (6, p4), (10, p5), (12, p39), (13, vi k_43)], [O a44 k45 s1_42, Cl p39 [vi s0_41, vl a44 k45 s1_42], Cl p5 [vi 0, .slice none 0 0], pv p4 [vi b.Width, vl ba1 bk1 b.Words], pv p3 [vi a.Width, vl aa1 ak1 a.Words], S aa1 ak1 a.Words, S ba1 bk1 b.Words], flqref1_mix_L0 a b one two both r40 s0_41 s1_42 k_43 = flqref1_mix_L0 a b one two both (((a.Width : Int) - 0).toNat) rv30.Width rv30.Words 0 ∧ r40 = ((a.Width : Int) - k_43).toNat ∧ (0 : Int) ≤ k_43 ∧ (k_43 ≤ a.Width ∨ k_43 = 0) ∧ (-9223372036854775808 ≤ s0_41 ∧ s0_41 ≤ 9223372036854775807) ∧ (-9223372036854775808 ≤ k_43 ∧ k_43 ≤ 9223372036854775807) ∧ s0_41 = a.Width ∧ s1_42.length = ((a.Width + 63) / 64).toNat, r40⟩) (((a.Width : Int) - 0).toNat, rv30.Width, rv30.Words, 0, a36, k37) [1, 0, 0, 0, 1, 2, 3] ⟨rfl, rfl, (by omega), (.inr rfl), (by omega), (by omega), iv0, iv0⟩ ?_
 rintro ⟨r40, s0_41, s1_42, k_43, a44, k45⟩ ⟨hM46, hr47, hi48, hi49, hk50, hk51, hv52, hv53⟩
 refine JJ_nx fun _ _ hL hA => ?_; dsimp only at hL hA; subst hL hA
 refine Fb 8 0 fun _ => Fb 8 5 fun _ => Fb 8 6 fun _ => KS ?_
 refine Oq Vm (Oq (Vfa fo42_0 4) (Oq (VldF sh3 4) (Oq Vlss (KS ?_))))
 refine Kc ?_ ?_
 ·intro h57
  have g58 := dt h57
  obtain ⟨r59, rfl⟩ := scc (n := r40) (by omega)
  refine KS ?_
  refine JK_drawK [0, 0, 3, 0, 0, 31, 63, 127] fmix ?_
  refine Dv [4] (VldA sh42 0) (Dv [] Vm ?_)
  refine letv (flqref1_Has a k_43) fun rv60 hg61 => ?_
  refine Dx [5] [] [1, 0] (fun G => vb rv60) [fun G => SP.fact (True)] (fun G => xC [0] ca31 (fn31 a aa1 ak1 k_43 pre pre rv60 hg61)) (Dv [3] (VldA sh42 0) (Dv [] Vm ?_))
  refine letv (flqref1_Has b k_43) fun rv62 hg63 => ?_
  refine Dx [6] [] [1, 0] (fun G => vb rv62) [fun G => SP.fact (True)] (fun G => xC [0] ca31 (fn31 b ba1 bk1 k_43 pre pre rv62 hg63)) (Dv [] Va (Dv [] Va ?_))
  refine Dn ⟨by kernel_rfl, fun G => ?_⟩
  refine Jw2 [(2, vb one), (3, vb two), (4, vb both), (5, p3), (6, p4), (10, p5), (12, p39), (13, vi k_43), (14, vb rv60), (15, vb rv62)] [0, 1, 2, 3, 4, 5, 6] [SP.fact (True), SP.fact (True)] ?_
  refine Jk [0, 0, 0, 0, 1, 2, 3] ?_
  refine KS ?_
  refine Oq Vm (Oq Vm ?_)
  refine Js 47 ?_ ?_
  ·intro h64
   try have hrg := RV_w (s := a) (by simp only [h9, h14, h19, h24, h26, h57, h64, hg7, hg17, hg31, hg61, hg63])
   refine Oq Vm (Oq Vpt (Oq Vm ?_))
   refine Js 50 ?_ ?_
   ·intro h66
    try have hrg := RV_w (s := a) (by simp only [h9, h14, h19, h24, h26, h57, h64, h66, hg7, hg17, hg31, hg61, hg63])
    refine Oq Vm (Oq Vpt (Oq Vm ?_))
    refine Js 53 ?_ ?_
    ·intro h68
     refine Osk (Osk (Osk (Osk (Osk (Osk (Osk (Osk (Oq Vpt (Oq Vm ?_)))))))))
     refine Osk (Osk (Osk (Osk (Osk (Osk (Osk (Osk (Oq Vpt (KS ?_)))))))))
     refine Kt (KS ?_)
     refine Oq (VldA sh42 1) (Oq Vm ?_)
     refine letv (flqref1_Put (GSet.mk s0_41 s1_42) k_43) fun rv71 hg72 => ?_
     refine Oc [0] ca79 (FT_borrow (A := _) hlx (FT_ent (Ent.take (is := [0]) rfl) (fn79 ((GSet.mk s0_41 s1_42)) a44 k45 k_43 pre pre pre pre rv71 hg72))) ?_ (ht := rfl)
     rintro c70 ⟨he73, he74, he75⟩
     unfold i64ok at he73
     have he74 : (rv71.Width = s0_41) := he74
     have he75 : (rv71.Words.length = ((s0_41 + 63) / 64).toNat) := he75
     refine Jo 1 ?_; rintro a76 k77 rfl
     refine Fb 8 1 fun _ => ?_
     refine Ost (Scl [2] sh42 [vi rv71.Width, vl a76 k77 rv71.Words]) (KS ?_)
     refine Oq Vm (Oq Vadd (Oq Va (KS ?_)))
     exact Kg (r59, rv71.Width, rv71.Words, (k_43 + 1), a76, k77) [2, 0, 1, 1, 2, 3, 4] ⟨(q3 hM46 (by simp only [flqref1_mix_L0, h9, h14, h19, h24, h26, h57, h64, h66, h68, hg7, hg17, hg31, hg61, hg63, hg72, cs4])), (by omega), (by omega), (by omega), (by omega), (by omega), iv1, iv1⟩
    intro h68
    refine Oq Vm (Oq Vm ?_)
    refine Js 55 ?_ ?_
    ·intro h80
     try have hrg := RV_w (s := a) (by simp only [h9, h14, h19, h24, h26, h57, h64, h66, h68, h80, hg7, hg17, hg31, hg61, hg63])
     refine Oq Vm (Oq Vnot (Oq Vpt (Oq Vm ?_)))
     refine Js 59 ?_ ?_
     ·intro h82
      exact absurd h82 (by simp [h66])
     intro h82
     have h84 := not_false h82
     try have hrg := RV_w (s := a) (by simp only [h9, h14, h19, h24, h26, h57, h64, h66, h68, h80, h82, h84, hg7, hg17, hg31, hg61, hg63])
     refine Osk (Oq Vpf (Oq Vpf (Oq Vm (Oq Vm (Oq Vnot (Oq Vm ?_))))))
     refine Js 66 ?_ ?_
     ·intro h86
      exact absurd h86 (by simp [h80])
     intro h86
     have h88 := not_false h86
     try have hrg := RV_w (s := a) (by simp only [h9, h14, h19, h24, h26, h57, h64, h66, h68, h80, h82, h84, h86, h88, hg7, hg17, hg31, hg61, hg63])
     refine Osk (Oq Vpf (Oq Vm (Osk (Oq Vpf (Oq Vpf (KS ?_))))))
     refine Kf (KS ?_)
     refine Oq Vm (Oq Vadd (Oq Va (KS ?_)))
     exact Kg (r59, s0_41, s1_42, (k_43 + 1), a44, k45) [0, 0, 0, 0, 1, 2, 3] ⟨(q3 hM46 (by simp only [flqref1_mix_L0, h9, h14, h19, h24, h26, h57, h64, h66, h68, h80, h82, h84, h86, h88, hg7, hg17, hg31, hg61, hg63, cs4])), (by omega), (by omega), (by omega), (by omega), (by omega), iv1, iv1⟩
    intro h80
    exact absurd h80 (by simp [h64])
   intro h66
   refine Osk (Oq Vpf (Oq Vm (Oq Vm (Oq Vm ?_))))
   refine Js 55 ?_ ?_
   ·intro h91
    try have hrg := RV_w (s := a) (by simp only [h9, h14, h19, h24, h26, h57, h64, h66, h91, hg7, hg17, hg31, hg61, hg63])
    refine Oq Vm (Oq Vnot (Oq Vpt (Oq Vm ?_)))
    refine Js 59 ?_ ?_
    ·intro h93
     have h95 := not_true h93
     refine Oq Vm (Oq Vpt (Oq Vpf (Oq Vm ?_)))
     refine Js 63 ?_ ?_
     ·intro h97
      refine Osk (Osk (Osk (Osk (Osk (Osk (Osk (Osk (Oq Vpt (KS ?_)))))))))
      refine Kt (KS ?_)
      refine Oq (VldA sh42 1) (Oq Vm ?_)
      refine letv (flqref1_Put (GSet.mk s0_41 s1_42) k_43) fun rv100 hg101 => ?_
      refine Oc [0] ca79 (FT_borrow (A := _) hlx (FT_ent (Ent.take (is := [0]) rfl) (fn79 ((GSet.mk s0_41 s1_42)) a44 k45 k_43 pre pre pre pre rv100 hg101))) ?_ (ht := rfl)
      rintro c99 ⟨he102, he103, he104⟩
      unfold i64ok at he102
      have he103 : (rv100.Width = s0_41) := he103
      have he104 : (rv100.Words.length = ((s0_41 + 63) / 64).toNat) := he104
      refine Jo 1 ?_; rintro a105 k106 rfl
      refine Fb 8 1 fun _ => ?_
      refine Ost (Scl [2] sh42 [vi rv100.Width, vl a105 k106 rv100.Words]) (KS ?_)
      refine Oq Vm (Oq Vadd (Oq Va (KS ?_)))
      exact Kg (r59, rv100.Width, rv100.Words, (k_43 + 1), a105, k106) [2, 0, 1, 1, 2, 3, 4] ⟨(q3 hM46 (by simp only [flqref1_mix_L0, h9, h14, h19, h24, h26, h57, h64, h66, h91, h93, h95, h97, hg7, hg17, hg31, hg61, hg63, hg101, cs4])), (by omega), (by omega), (by omega), (by omega), (by omega), iv1, iv1⟩
     intro h97
     refine Oq Vm (Oq Vnot (Oq Vm ?_))
     refine Js 66 ?_ ?_
     ·intro h109
      exact absurd h109 (by simp [h91])
     intro h109
     have h111 := not_false h109
     try have hrg := RV_w (s := a) (by simp only [h9, h14, h19, h24, h26, h57, h64, h66, h91, h93, h95, h97, h109, h111, hg7, hg17, hg31, hg61, hg63])
     refine Osk (Oq Vpf (Oq Vm (Osk (Oq Vpf (Oq Vpf (KS ?_))))))
     refine Kf (KS ?_)
     refine Oq Vm (Oq Vadd (Oq Va (KS ?_)))
     exact Kg (r59, s0_41, s1_42, (k_43 + 1), a44, k45) [0, 0, 0, 0, 1, 2, 3] ⟨(q3 hM46 (by simp only [flqref1_mix_L0, h9, h14, h19, h24, h26, h57, h64, h66, h91, h93, h95, h97, h109, h111, hg7, hg17, hg31, hg61, hg63, cs4])), (by omega), (by omega), (by omega), (by omega), (by omega), iv1, iv1⟩
    intro h93
    exact absurd h93 (by simp [h66])
   intro h91
   exact absurd h91 (by simp [h64])
  intro h64
  refine Osk (Oq Vpf (Oq Vm (Osk (Oq Vpf (Oq Vm (Oq Vm (Oq Vm ?_)))))))
  refine Js 55 ?_ ?_
  ·intro h114
   exact absurd h114 (by simp [h64])
  intro h114
  refine Osk (Osk (Oq Vpf (Oq Vm (Osk (Oq Vpf (Oq Vpf (Oq Vm (Oq Vm (Oq Vnot ?_)))))))))
  refine Oq Vm ?_
  refine Js 66 ?_ ?_
  ·intro h116
   have h118 := not_true h116
   refine Oq Vm (Oq Vpt (Oq Vm ?_))
   refine Js 69 ?_ ?_
   ·intro h120
    try have hrg := RV_w (s := a) (by simp only [h9, h14, h19, h24, h26, h57, h64, h114, h116, h118, h120, hg7, hg17, hg31, hg61, hg63])
    refine Oq Vm (Oq Vpt (Oq Vpf (KS ?_)))
    refine Kc ?_ ?_
    ·intro h122
     refine KS ?_
     refine Oq (VldA sh42 1) (Oq Vm ?_)
     refine letv (flqref1_Put (GSet.mk s0_41 s1_42) k_43) fun rv125 hg126 => ?_
     refine Oc [0] ca79 (FT_borrow (A := _) hlx (FT_ent (Ent.take (is := [0]) rfl) (fn79 ((GSet.mk s0_41 s1_42)) a44 k45 k_43 pre pre pre pre rv125 hg126))) ?_ (ht := rfl)
     rintro c124 ⟨he127, he128, he129⟩
     unfold i64ok at he127
     have he128 : (rv125.Width = s0_41) := he128
     have he129 : (rv125.Words.length = ((s0_41 + 63) / 64).toNat) := he129
     refine Jo 1 ?_; rintro a130 k131 rfl
     refine Fb 8 1 fun _ => ?_
     refine Ost (Scl [2] sh42 [vi rv125.Width, vl a130 k131 rv125.Words]) (KS ?_)
     refine Oq Vm (Oq Vadd (Oq Va (KS ?_)))
     exact Kg (r59, rv125.Width, rv125.Words, (k_43 + 1), a130, k131) [2, 0, 1, 1, 2, 3, 4] ⟨(q3 hM46 (by simp only [flqref1_mix_L0, h9, h14, h19, h24, h26, h57, h64, h114, h116, h118, h120, h122, hg7, hg17, hg31, hg61, hg63, hg126, cs4])), (by omega), (by omega), (by omega), (by omega), (by omega), iv1, iv1⟩
    intro h122
    refine KS ?_
    refine Oq Vm (Oq Vadd (Oq Va (KS ?_)))
    exact Kg (r59, s0_41, s1_42, (k_43 + 1), a44, k45) [0, 0, 0, 0, 1, 2, 3] ⟨(q3 hM46 (by simp only [flqref1_mix_L0, h9, h14, h19, h24, h26, h57, h64, h114, h116, h118, h120, h122, hg7, hg17, hg31, hg61, hg63, cs4])), (by omega), (by omega), (by omega), (by omega), (by omega), iv1, iv1⟩
   intro h120
   refine Osk (Oq Vpf (Oq Vpf (KS ?_)))
   refine Kf (KS ?_)
   refine Oq Vm (Oq Vadd (Oq Va (KS ?_)))
   exact Kg (r59, s0_41, s1_42, (k_43 + 1), a44, k45) [0, 0, 0, 0, 1, 2, 3] ⟨(q3 hM46 (by simp only [flqref1_mix_L0, h9, h14, h19, h24, h26, h57, h64, h114, h116, h118, h120, hg7, hg17, hg31, hg61, hg63, cs4])), (by omega), (by omega), (by omega), (by omega), (by omega), iv1, iv1⟩
  intro h116
  exact absurd h116 (by simp [h114])
 intro h57
 have g135 := df h57
 obtain rfl : r40 = 0 := by omega
 refine Ke ?_
 have hR136 := q2 hM46 (s0_41, s1_42) (by simp only [flqref1_mix_L0, h9, h14, h19, h24, h26, h57, hg7, hg17, hg31, cs4])
 refine KS ?_
 refine Oq (VldA sh42 1) (Ost (Scl [2] sh42 [vi s0_41, vl a44 k45 s1_42]) (Oq Va (KS ?_)))
 refine Jl [1] (Ent.freeze _ _) ?_
 have hq := q4 hrr ((GSet.mk s0_41 s1_42), 0) (by simp only [flqref1_mix, h9, h14, h19, h24, h26, h57, hg7, hg17, hg31, hR136, cs4]); subst hq
 exact Kr (vl a44 k45 s1_42) rfl (.cellN 1 rfl sh42 rfl (reads_Cl _ _) rfl (.tmp rfl .nil)) [0] en
theorem fn78 (a : GSet) (aa1 : Option Addr) (ak1 : Nat) (b : GSet) (ba1 : Option Addr) (bk1 : Nat) (ha_0 : i64ok a.Width) (hb_0 : i64ok b.Width) (rr : GSet × Int) (hrr : flqref1_Union a b = rr) : FT Tryz.prog 78 #[.agg #[vi a.Width, vl aa1 ak1 a.Words], .agg #[vi b.Width, vl ba1 bk1 b.Words]] [S aa1 ak1 a.Words, S ba1 bk1 b.Words] (fun g : Value => i64ok rr.1.Width ∧ i64ok rr.2) (fun g => .tuple #[.agg #[vi rr.1.Width, g], vi rr.2]) (fun g => [sl g rr.1.Words]) := by
 refine FTi Tryz.func78 fun w0 M0 F0 => ?_
 unfold i64ok at ha_0 hb_0
 refine Fb 8 0 fun _ => Fb 8 1 fun _ => KS ?_
 refine Oa (Ab [vi a.Width, vl aa1 ak1 a.Words]) fun p3 => Oa (Ab [vi b.Width, vl ba1 bk1 b.Words]) fun p4 => Oa (Al ze42 [vi 0, .slice none 0 0]) fun p5 => Oq Va (KS ?_)
 refine Oq (VldA sh42 2) (Oq (VldA sh42 1) ?_)
 refine letv (flqref1_mix a b true true true) fun rv7 hg8 => ?_
 have hc9 := fn153 a aa1 ak1 b ba1 bk1 true true true pre pre rv7 hg8
 refine Oc [3, 4] ca153 hc9 ?_
 rintro c6 ⟨he10, he11⟩
 unfold i64ok at he10 he11
 refine Jo 0 ?_; rintro a12 k13 rfl
 refine Fb 8 0 fun _ => ?_
 refine Oq Vx (Oq Vx (Ost (Scl [1] sh42 [vi rv7.1.Width, vl a12 k13 rv7.1.Words]) (Oq Va (KS ?_))))
 have hq := q4 hrr (rv7.1, rv7.2) (by simp only [flqref1_Union, hg8, cs4]); subst hq
 exact Kr (vl a12 k13 rv7.1.Words) rfl (.cellN 0 rfl sh42 rfl (reads_Cl _ _) rfl (.tmp rfl .nil)) [1] en
theorem fn22 (a : GSet) (aa1 : Option Addr) (ak1 : Nat) (b : GSet) (ba1 : Option Addr) (bk1 : Nat) (ha_0 : i64ok a.Width) (hb_0 : i64ok b.Width) (rr : GSet) (hrr : flqref1_Join a b = rr) : FT Tryz.prog 22 #[.agg #[vi a.Width, vl aa1 ak1 a.Words], .agg #[vi b.Width, vl ba1 bk1 b.Words]] [S aa1 ak1 a.Words, S ba1 bk1 b.Words] (fun g : Value => i64ok rr.Width) (fun g => .agg #[vi rr.Width, g]) (fun g => [sl g rr.Words]) := by
 refine FTi Tryz.func22 fun w0 M0 F0 => ?_
 unfold i64ok at ha_0 hb_0
 refine Fb 8 0 fun _ => Fb 8 1 fun _ => KS ?_
 refine Oa (Ab [vi a.Width, vl aa1 ak1 a.Words]) fun p3 => Oa (Ab [vi b.Width, vl ba1 bk1 b.Words]) fun p4 => Oa (Al ze42 [vi 0, .slice none 0 0]) fun p5 => KS ?_
 refine Oq (VldA sh42 2) (Oq (VldA sh42 1) ?_)
 refine letv (flqref1_Union a b) fun rv7 hg8 => ?_
 have hc9 := fn78 a aa1 ak1 b ba1 bk1 pre pre rv7 hg8
 refine Oc [3, 4] ca78 hc9 ?_
 rintro c6 ⟨he10, he11⟩
 unfold i64ok at he10 he11
 refine Jo 0 ?_; rintro a12 k13 rfl
 refine Fb 8 0 fun _ => ?_
 refine Oq Vm (Oq Vx (Oq Vx (Oa (Al ze42 [vi 0, .slice none 0 0]) fun p15 => Ost (Scl [0] sh42 [vi rv7.1.Width, vl a12 k13 rv7.1.Words]) (Oq Va (KS ?_)))))
 refine Oq (VldA sh42 0) (Ost (Scl [2] sh42 [vi rv7.1.Width, vl a12 k13 rv7.1.Words]) (KS ?_))
 have hq := q4 hrr rv7.1 (by simp only [flqref1_Join, hg8, cs4]); subst hq
 exact Kr (vl a12 k13 rv7.1.Words) rfl (.cellN 0 rfl sh42 rfl (reads_Cl _ _) rfl .nil) [2] en
theorem fn209 (t : GTransfer) (ta1 : Option Addr) (tk1 : Nat) (ta3 : Option Addr) (tk3 : Nat) (ta4 : Option Addr) (tk4 : Nat) (a : Int) (b : Int) (ht_0 : i64ok t.Gen.Width) (ht_2 : i64ok t.Kill.Width) (ha_0 : i64ok a) (hb_0 : i64ok b) (rr : Bool) (hrr : flqref1_follows t a b = rr) : FT Tryz.prog 209 #[.agg #[vi t.Gen.Width, vl ta1 tk1 t.Gen.Words, vi t.Kill.Width, vl ta3 tk3 t.Kill.Words, vl ta4 tk4 t.Copies], vi a, vi b] [S ta1 tk1 t.Gen.Words, S ta3 tk3 t.Kill.Words, S ta4 tk4 t.Copies] (fun g : Unit => True) (fun g => vb rr) (fun g => []) := by
 refine FTi Tryz.func209 fun w0 M0 F0 => ?_
 unfold i64ok at ht_0 ht_2 ha_0 hb_0
 refine Fb 8 0 fun _ => Fb 8 1 fun _ => Fb 16 2 fun _ => KS ?_
 refine Oa (Ab [vi t.Gen.Width, vl ta1 tk1 t.Gen.Words, vi t.Kill.Width, vl ta3 tk3 t.Kill.Words, vl ta4 tk4 t.Copies]) fun p4 => Oq Va (KS ?_)
 refine Oq Vm (Oq Vm (Oq Veql (Oq Vm ?_)))
 refine Js 11 ?_ ?_
 ·intro h5
  have g6 := eq_of_beq h5
  refine Oq (Vfa fo98_1 0) (Oq (VldG sh42 0 [vi t.Kill.Width, vl ta3 tk3 t.Kill.Words]) (Oq Vm ?_))
  refine letv (flqref1_Has t.Kill a) fun rv7 hg8 => ?_
  have hc9 := fn31 t.Kill ta3 tk3 a pre pre rv7 hg8
  refine Oc [2] ca31 hc9 ?_
  rintro - -
  refine Oq Vnot (Oq Vpt (KS ?_))
  refine Kc ?_ ?_
  ·intro h10
   have h12 := not_true h10
   refine KS ?_
   refine Oq Va (KS ?_)
   have hq := q4 hrr true (by simp only [flqref1_follows, h5, h10, h12, hg8, cs4]); subst hq
   exact Kr () rfl (.tmp rfl .nil) [] trivial
  intro h10
  have h15 := not_false h10
  refine KS ?_
  refine Oq Va (KS ?_)
  refine Kl (γ := Nat × Int) (fun (r17, i_18) => ⟨[(1, vi a), (2, vi b), (3, p4), (7, vi i_18)], [pv p4 [vi t.Gen.Width, vl ta1 tk1 t.Gen.Words, vi t.Kill.Width, vl ta3 tk3 t.Kill.Words, vl ta4 tk4 t.Copies], S ta1 tk1 t.Gen.Words, S ta3 tk3 t.Kill.Words, S ta4 tk4 t.Copies], flqref1_follows_L0 t a b r17 i_18 = flqref1_follows_L0 t a b (((t.Copies.length : Int) - 0).toNat) 0 ∧ r17 = ((t.Copies.length : Int) - i_18).toNat ∧ (0 : Int) ≤ i_18 ∧ i_18 ≤ (t.Copies.length : Int) ∧ (-9223372036854775808 ≤ i_18 ∧ i_18 ≤ 9223372036854775807), r17⟩) (((t.Copies.length : Int) - 0).toNat, 0) [0, 1, 2, 3] ⟨rfl, rfl, (by omega), (by omega), (by omega)⟩ ?_
  rintro ⟨r17, i_18⟩ ⟨hM19, hr20, hi21, hi22, hk23⟩
  refine JJ_nx fun _ _ hL hA => ?_; dsimp only at hL hA; subst hL hA
  refine Fb 8 1 fun _ => Fb 8 2 fun _ => Fb 16 3 fun _ => KS ?_
  refine Oq Vm (Oq (Vfa fo98_2 0) (Oq (VldF sh96 0) (Oq (Vlen sl96) (Oq Vlss (KS ?_)))))
  refine Kc ?_ ?_
  ·intro h27
   have g28 := dt h27
   obtain ⟨r29, rfl⟩ := scc (n := r17) (by omega)
   refine KS ?_
   refine Oq (Vfa fo98_2 0) (Oq (VldF sh96 0) (Oq Vm (Oq (Vi sl96 3) ?_)))
   refine JJ_peek_GCopy i_18.toNat 3 rfl rng fun hb30 hb31 => ?_
   unfold i64ok at hb30 hb31
   refine Oq (Vfa fo147_0 0) (Oq (VldF sh3 0) (Oq Vm (Oq Veql (Oq Vm ?_))))
   refine Js 33 ?_ ?_
   ·intro h32
    have g33 := eq_of_beq h32
    refine Oq (Vfa fo98_2 1) (Oq (VldF sh96 1) (Oq Vm (Oq (Vi sl96 4) (Oq (Vfa fo147_1 0) (Oq (VldF sh3 0) (Oq Vm (Oq Veql (Oq Vpt (KS ?_)))))))))
    refine Kc ?_ ?_
    ·intro h34
     have g35 := eq_of_beq h34
     refine KS ?_
     refine Oq Va (KS ?_)
     have hR36 := q2 hM19 (.ret true) (by simp only [flqref1_follows_L0, h5, h10, h15, h27, h32, h34, hg8, cs4])
     have hq := q4 hrr true (by simp only [flqref1_follows, h5, h10, h15, h27, h32, h34, hg8, hR36, cs4]); subst hq
     exact Kr () rfl (.tmp rfl .nil) [] trivial
    intro h34
    have g37 := ne_of_beq_false h34
    refine KS ?_
    refine Oq Vm (Oq Vadd (Oq Va (KS ?_)))
    exact Kg (r29, (i_18 + 1)) [1, 2, 3, 4] ⟨(q3 hM19 (by simp only [flqref1_follows_L0, h5, h10, h15, h27, h32, h34, hg8, cs4])), (by omega), (by omega), (by omega), (by omega)⟩
   intro h32
   have g38 := ne_of_beq_false h32
   refine Osk (Osk (Osk (Osk (Osk (Osk (Osk (Osk (Oq Vpf (KS ?_)))))))))
   refine Kf (KS ?_)
   refine Oq Vm (Oq Vadd (Oq Va (KS ?_)))
   exact Kg (r29, (i_18 + 1)) [1, 2, 3, 4] ⟨(q3 hM19 (by simp only [flqref1_follows_L0, h5, h10, h15, h27, h32, hg8, cs4])), (by omega), (by omega), (by omega), (by omega)⟩
  intro h27
  have g39 := df h27
  obtain rfl : r17 = 0 := by omega
  refine Ke ?_
  have hR40 := q2 hM19 (.brk ()) (by simp only [flqref1_follows_L0, h5, h10, h15, h27, hg8, cs4])
  refine KS ?_
  refine Oq Va (KS ?_)
  have hq := q4 hrr false (by simp only [flqref1_follows, h5, h10, h15, h27, hg8, hR40, cs4]); subst hq
  exact Kr () rfl (.tmp rfl .nil) [] trivial
 intro h5
 have g41 := ne_of_beq_false h5
 refine Osk (Osk (Osk (Osk (Osk (Oq Vpf (KS ?_))))))
 refine Kf (KS ?_)
 refine Oq Va (KS ?_)
 refine Kl (γ := Nat × Int) (fun (r42, i_43) => ⟨[(1, vi a), (2, vi b), (3, p4), (7, vi i_43)], [pv p4 [vi t.Gen.Width, vl ta1 tk1 t.Gen.Words, vi t.Kill.Width, vl ta3 tk3 t.Kill.Words, vl ta4 tk4 t.Copies], S ta1 tk1 t.Gen.Words, S ta3 tk3 t.Kill.Words, S ta4 tk4 t.Copies], flqref1_follows_L0 t a b r42 i_43 = flqref1_follows_L0 t a b (((t.Copies.length : Int) - 0).toNat) 0 ∧ r42 = ((t.Copies.length : Int) - i_43).toNat ∧ (0 : Int) ≤ i_43 ∧ i_43 ≤ (t.Copies.length : Int) ∧ (-9223372036854775808 ≤ i_43 ∧ i_43 ≤ 9223372036854775807), r42⟩) (((t.Copies.length : Int) - 0).toNat, 0) [0, 1, 2, 3] ⟨rfl, rfl, (by omega), (by omega), (by omega)⟩ ?_
 rintro ⟨r42, i_43⟩ ⟨hM44, hr45, hi46, hi47, hk48⟩
 refine JJ_nx fun _ _ hL hA => ?_; dsimp only at hL hA; subst hL hA
 refine Fb 8 1 fun _ => Fb 8 2 fun _ => Fb 16 3 fun _ => KS ?_
 refine Oq Vm (Oq (Vfa fo98_2 0) (Oq (VldF sh96 0) (Oq (Vlen sl96) (Oq Vlss (KS ?_)))))
 refine Kc ?_ ?_
 ·intro h52
  have g53 := dt h52
  obtain ⟨r54, rfl⟩ := scc (n := r42) (by omega)
  refine KS ?_
  refine Oq (Vfa fo98_2 0) (Oq (VldF sh96 0) (Oq Vm (Oq (Vi sl96 3) ?_)))
  refine JJ_peek_GCopy i_43.toNat 3 rfl rng fun hb55 hb56 => ?_
  unfold i64ok at hb55 hb56
  refine Oq (Vfa fo147_0 0) (Oq (VldF sh3 0) (Oq Vm (Oq Veql (Oq Vm ?_))))
  refine Js 33 ?_ ?_
  ·intro h57
   have g58 := eq_of_beq h57
   refine Oq (Vfa fo98_2 1) (Oq (VldF sh96 1) (Oq Vm (Oq (Vi sl96 4) (Oq (Vfa fo147_1 0) (Oq (VldF sh3 0) (Oq Vm (Oq Veql (Oq Vpt (KS ?_)))))))))
   refine Kc ?_ ?_
   ·intro h59
    have g60 := eq_of_beq h59
    refine KS ?_
    refine Oq Va (KS ?_)
    have hR61 := q2 hM44 (.ret true) (by simp only [flqref1_follows_L0, h5, h52, h57, h59, cs4])
    have hq := q4 hrr true (by simp only [flqref1_follows, h5, h52, h57, h59, hR61, cs4]); subst hq
    exact Kr () rfl (.tmp rfl .nil) [] trivial
   intro h59
   have g62 := ne_of_beq_false h59
   refine KS ?_
   refine Oq Vm (Oq Vadd (Oq Va (KS ?_)))
   exact Kg (r54, (i_43 + 1)) [1, 2, 3, 4] ⟨(q3 hM44 (by simp only [flqref1_follows_L0, h5, h52, h57, h59, cs4])), (by omega), (by omega), (by omega), (by omega)⟩
  intro h57
  have g63 := ne_of_beq_false h57
  refine Osk (Osk (Osk (Osk (Osk (Osk (Osk (Osk (Oq Vpf (KS ?_)))))))))
  refine Kf (KS ?_)
  refine Oq Vm (Oq Vadd (Oq Va (KS ?_)))
  exact Kg (r54, (i_43 + 1)) [1, 2, 3, 4] ⟨(q3 hM44 (by simp only [flqref1_follows_L0, h5, h52, h57, cs4])), (by omega), (by omega), (by omega), (by omega)⟩
 intro h52
 have g64 := df h52
 obtain rfl : r42 = 0 := by omega
 refine Ke ?_
 have hR65 := q2 hM44 (.brk ()) (by simp only [flqref1_follows_L0, h5, h52, cs4])
 refine KS ?_
 refine Oq Va (KS ?_)
 have hq := q4 hrr false (by simp only [flqref1_follows, h5, h52, hR65, cs4]); subst hq
 exact Kr () rfl (.tmp rfl .nil) [] trivial
theorem fn206 (t : GTransfer) (ta1 : Option Addr) (tk1 : Nat) (ta3 : Option Addr) (tk3 : Nat) (ta4 : Option Addr) (tk4 : Nat) (s : GSet) (sa1 : Option Addr) (sk1 : Nat) (ht_0 : i64ok t.Gen.Width) (ht_2 : i64ok t.Kill.Width) (hs_0 : i64ok s.Width) (ht : fVT t = true) (hw : t.Gen.Width = s.Width) (rr : GSet) (hrr : flqref1_value t s = rr) : FT Tryz.prog 206 #[.agg #[vi t.Gen.Width, vl ta1 tk1 t.Gen.Words, vi t.Kill.Width, vl ta3 tk3 t.Kill.Words, vl ta4 tk4 t.Copies], .agg #[vi s.Width, vl sa1 sk1 s.Words]] [S ta1 tk1 t.Gen.Words, S ta3 tk3 t.Kill.Words, S ta4 tk4 t.Copies, S sa1 sk1 s.Words] (fun g : Value => i64ok rr.Width) (fun g => .agg #[vi rr.Width, g]) (fun g => [sl g rr.Words]) := by
 refine FTi Tryz.func206 fun w0 M0 F0 => ?_
 unfold i64ok at ht_0 ht_2 hs_0
 refine Fb 8 0 fun _ => Fb 8 1 fun _ => Fb 16 2 fun _ => Fb 8 3 fun _ => ?_
 have hvt := VT_w ht
 refine KS ?_
 refine Oa (Ab [vi t.Gen.Width, vl ta1 tk1 t.Gen.Words, vi t.Kill.Width, vl ta3 tk3 t.Kill.Words, vl ta4 tk4 t.Copies]) fun p5 => Oa (Ab [vi s.Width, vl sa1 sk1 s.Words]) fun p6 => Oa (Al ze42 [vi 0, .slice none 0 0]) fun p7 => KS ?_
 refine Oq (Vfa fo98_0 2) (Oq (VldG sh42 2 [vi t.Gen.Width, vl ta1 tk1 t.Gen.Words]) (Oa (Al ze42 [vi 0, .slice none 0 0]) fun p8 => Ost (Scl [0] sh42 [vi t.Gen.Width, vl ta1 tk1 t.Gen.Words]) (KS ?_)))
 refine Oq Va (KS ?_)
 refine Kl (γ := Nat × Int × List (BitVec 64) × Int × Option Addr × Nat) (fun (r9, out0_10, out1_11, a_12, a13, k14) => ⟨[(2, p5), (3, p6), (4, p7), (5, p8), (6, vi a_12)], [S a13 k14 out1_11, Cl p8 [vi out0_10, vl a13 k14 out1_11], Cl p7 [vi 0, .slice none 0 0], pv p6 [vi s.Width, vl sa1 sk1 s.Words], pv p5 [vi t.Gen.Width, vl ta1 tk1 t.Gen.Words, vi t.Kill.Width, vl ta3 tk3 t.Kill.Words, vl ta4 tk4 t.Copies], S ta1 tk1 t.Gen.Words, S ta3 tk3 t.Kill.Words, S ta4 tk4 t.Copies, S sa1 sk1 s.Words], flqref1_value_L0 t s r9 out0_10 out1_11 a_12 = flqref1_value_L0 t s (((s.Width : Int) - 0).toNat) t.Gen.Width t.Gen.Words 0 ∧ r9 = ((s.Width : Int) - a_12).toNat ∧ (0 : Int) ≤ a_12 ∧ (a_12 ≤ s.Width ∨ a_12 = 0) ∧ (-9223372036854775808 ≤ out0_10 ∧ out0_10 ≤ 9223372036854775807) ∧ (-9223372036854775808 ≤ a_12 ∧ a_12 ≤ 9223372036854775807) ∧ out0_10 = s.Width ∧ out1_11.length = ((s.Width + 63) / 64).toNat, r9⟩) (((s.Width : Int) - 0).toNat, t.Gen.Width, t.Gen.Words, 0, ta1, tk1) [4, 0, 0, 0, 1, 2, 3, 4, 5] ⟨rfl, rfl, (by omega), (.inr rfl), (by omega), (by omega), iv0, iv0⟩ ?_
 rintro ⟨r9, out0_10, out1_11, a_12, a13, k14⟩ ⟨hM15, hr16, hi17, hi18, hk19, hk20, hv21, hv22⟩
 refine JJ_nx fun _ _ hL hA => ?_; dsimp only at hL hA; subst hL hA
 refine Fb 8 0 fun _ => Fb 8 5 fun _ => Fb 8 6 fun _ => Fb 16 7 fun _ => Fb 8 8 fun _ => KS ?_
 refine Oq Vm (Oq (Vfa fo42_0 3) (Oq (VldF sh3 3) (Oq Vlss (KS ?_))))
 refine Kc ?_ ?_
 ·intro h28
  have g29 := dt h28
  obtain ⟨r30, rfl⟩ := scc (n := r9) (by omega)
  refine KS ?_
  refine Oq Va (KS ?_)
  have hterm43 : flqref1_value_L1 t s a_12 (s.Width.toNat + 1) out0_10 out1_11 0 ≠ LR.oof := value_L1_term _ _ _ _ _ _ _ (by omega) (by omega)
  refine Kl (γ := Nat × Int × List (BitVec 64) × Int × Option Addr × Nat) (fun (r31, out0_32, out1_33, b_34, a35, k36) => ⟨[(2, p5), (3, p6), (4, p7), (5, p8), (6, vi a_12), (7, vi b_34)], [S a35 k36 out1_33, Cl p8 [vi out0_32, vl a35 k36 out1_33], Cl p7 [vi 0, .slice none 0 0], pv p6 [vi s.Width, vl sa1 sk1 s.Words], pv p5 [vi t.Gen.Width, vl ta1 tk1 t.Gen.Words, vi t.Kill.Width, vl ta3 tk3 t.Kill.Words, vl ta4 tk4 t.Copies], S ta1 tk1 t.Gen.Words, S ta3 tk3 t.Kill.Words, S ta4 tk4 t.Copies, S sa1 sk1 s.Words], flqref1_value_L1 t s a_12 r31 out0_32 out1_33 b_34 = flqref1_value_L1 t s a_12 (s.Width.toNat + 1) out0_10 out1_11 0 ∧ (-9223372036854775808 ≤ out0_32 ∧ out0_32 ≤ 9223372036854775807) ∧ (-9223372036854775808 ≤ b_34 ∧ b_34 ≤ 9223372036854775807) ∧ out0_32 = s.Width ∧ out1_33.length = ((s.Width + 63) / 64).toNat ∧ 0 ≤ b_34, r31⟩) ((s.Width.toNat + 1), out0_10, out1_11, 0, a13, k14) [0, 1, 1, 1, 2, 3, 4, 5, 6] ⟨rfl, (by omega), (by omega), iv0, iv0, iv0⟩ ?_
  rintro ⟨r31, out0_32, out1_33, b_34, a35, k36⟩ ⟨hM37, hk38, hk39, hv40, hv41, hv42⟩
  refine JJ_nx fun _ _ hL hA => ?_; dsimp only at hL hA; subst hL hA
  refine Fb 8 0 fun _ => Fb 8 5 fun _ => Fb 8 6 fun _ => Fb 16 7 fun _ => Fb 8 8 fun _ => ?_
  rcases r31 with _ | r31
  ·exact absurd (hM37.symm.trans rfl) hterm43
  refine KS ?_
  refine Oq (VldA sh42 3) (Oq Vm ?_)
  refine letv (flqref1_Has s a_12) fun rv49 hg50 => ?_
  have hc51 := fn31 s sa1 sk1 a_12 pre pre rv49 hg50
  refine Oc [8] ca31 hc51 ?_
  rintro - -
  refine Oq Vm ?_
  refine Js 19 ?_ ?_
  ·intro h52
   refine Oq Vm (Oq (Vfa fo42_0 3) (Oq (VldF sh3 3) (Oq Vlss (Oq Vpt (KS ?_)))))
   refine Kc ?_ ?_
   ·intro h54
    have g55 := dt h54
    refine KS ?_
    refine Oq (VldA sh98 4) (Oq Vm (Oq Vm ?_))
    refine letv (flqref1_follows t a_12 b_34) fun rv56 hg57 => ?_
    have hc58 := fn209 t ta1 tk1 ta3 tk3 ta4 tk4 a_12 b_34 pre pre pre pre rv56 hg57
    refine Oc [5, 6, 7] ca209 hc58 ?_
    rintro - -
    refine KS ?_
    refine Kc ?_ ?_
    ·intro h59
     refine KS ?_
     refine Oq (VldA sh42 1) (Oq Vm ?_)
     refine letv (flqref1_Put (GSet.mk out0_32 out1_33) b_34) fun rv62 hg63 => ?_
     have hc64 := fn79 ((GSet.mk out0_32 out1_33)) a35 k36 b_34 pre pre pre pre rv62 hg63
     refine Oc [0] ca79 hc64 ?_
     rintro c61 ⟨he65, he66, he67⟩
     unfold i64ok at he65
     have he66 : (rv62.Width = out0_32) := he66
     have he67 : (rv62.Words.length = ((out0_32 + 63) / 64).toNat) := he67
     refine Jo 0 ?_; rintro a68 k69 rfl
     refine Fb 8 0 fun _ => ?_
     refine Ost (Scl [2] sh42 [vi rv62.Width, vl a68 k69 rv62.Words]) (KS ?_)
     refine Oq Vm (Oq Vadd (Oq Va (KS ?_)))
     refine Jl [1] (Ent.freeze _ _) ?_
     exact Kg (r31, rv62.Width, rv62.Words, (b_34 + 1), a68, k69) [0, 1, 2, 2, 3, 4, 5, 6, 7] ⟨(q3 hM37 (by simp only [flqref1_value_L1, h28, h52, h54, h59, hg50, hg57, hg63, cs4])), (by omega), (by omega), iv1, iv1, iv1⟩
    intro h59
    refine KS ?_
    refine Oq Vm (Oq Vadd (Oq Va (KS ?_)))
    exact Kg (r31, out0_32, out1_33, (b_34 + 1), a35, k36) [0, 1, 1, 1, 2, 3, 4, 5, 6] ⟨(q3 hM37 (by simp only [flqref1_value_L1, h28, h52, h54, h59, hg50, hg57, cs4])), (by omega), (by omega), iv1, iv1, iv1⟩
   intro h54
   have g72 := df h54
   refine Ke ?_
   have hR73 := q2 hM37 (.brk (out0_32, out1_33)) (by simp only [flqref1_value_L1, h28, h52, h54, hg50, cs4])
   refine KS ?_
   refine Oq Vm (Oq Vadd (Oq Va (KS ?_)))
   exact Kg (r30, out0_32, out1_33, (a_12 + 1), a35, k36) [0, 1, 1, 1, 2, 3, 4, 5, 6] ⟨(q3 hM15 (by simp only [flqref1_value_L0, h28, h52, h54, hg50, hR73, cs4])), (by omega), (by omega), (by omega), (by omega), (by omega), iv1, iv1⟩
  intro h52
  refine Osk (Osk (Osk (Osk (Oq Vpf (KS ?_)))))
  refine Kf ?_
  refine Ke ?_
  have hR75 := q2 hM37 (.brk (out0_32, out1_33)) (by simp only [flqref1_value_L1, h28, h52, hg50, cs4])
  refine KS ?_
  refine Oq Vm (Oq Vadd (Oq Va (KS ?_)))
  exact Kg (r30, out0_32, out1_33, (a_12 + 1), a35, k36) [0, 1, 1, 1, 2, 3, 4, 5, 6] ⟨(q3 hM15 (by simp only [flqref1_value_L0, h28, h52, hg50, hR75, cs4])), (by omega), (by omega), (by omega), (by omega), (by omega), iv1, iv1⟩
 intro h28
 have g76 := df h28
 obtain rfl : r9 = 0 := by omega
 refine Ke ?_
 have hR77 := q2 hM15 (out0_10, out1_11) (by simp only [flqref1_value_L0, h28, cs4])
 refine KS ?_
 refine Oq (VldA sh42 1) (Ost (Scl [2] sh42 [vi out0_10, vl a13 k14 out1_11]) (KS ?_))
 have hq := q4 hrr (GSet.mk out0_10 out1_11) (by simp only [flqref1_value, h28, hR77, cs4]); subst hq
 exact Kr (vl a13 k14 out1_11) rfl (.cellN 0 rfl sh42 rfl (reads_Cl _ _) rfl .nil) [1] en
theorem fn145 (t : GTransfer) (ta1 : Option Addr) (tk1 : Nat) (ta3 : Option Addr) (tk3 : Nat) (ta4 : Option Addr) (tk4 : Nat) (s : GSet) (sa1 : Option Addr) (sk1 : Nat) (ht_0 : i64ok t.Gen.Width) (ht_2 : i64ok t.Kill.Width) (hs_0 : i64ok s.Width) (rr : GSet × Int) (hrr : flqref1_Apply t s = rr) : FT Tryz.prog 145 #[.agg #[vi t.Gen.Width, vl ta1 tk1 t.Gen.Words, vi t.Kill.Width, vl ta3 tk3 t.Kill.Words, vl ta4 tk4 t.Copies], .agg #[vi s.Width, vl sa1 sk1 s.Words]] [S ta1 tk1 t.Gen.Words, S ta3 tk3 t.Kill.Words, S ta4 tk4 t.Copies, S sa1 sk1 s.Words] (fun g : Value => i64ok rr.1.Width ∧ i64ok rr.2) (fun g => .tuple #[.agg #[vi rr.1.Width, g], vi rr.2]) (fun g => [sl g rr.1.Words]) := by
 refine FTi Tryz.func145 fun w0 M0 F0 => ?_
 unfold i64ok at ht_0 ht_2 hs_0
 refine Fb 8 0 fun _ => Fb 8 1 fun _ => Fb 16 2 fun _ => Fb 8 3 fun _ => KS ?_
 refine Oa (Ab [vi t.Gen.Width, vl ta1 tk1 t.Gen.Words, vi t.Kill.Width, vl ta3 tk3 t.Kill.Words, vl ta4 tk4 t.Copies]) fun p5 => Oa (Ab [vi s.Width, vl sa1 sk1 s.Words]) fun p6 => Oa (Al ze42 [vi 0, .slice none 0 0]) fun p7 => Oq Va (KS ?_)
 refine Oq (VldA sh98 2) ?_
 refine letv (fVT t) fun rv8 hg9 => ?_
 have hc10 := fn151 t ta1 tk1 ta3 tk3 ta4 tk4 pre pre rv8 hg9
 refine Oc [3, 4, 5] ca151 hc10 ?_
 rintro - -
 refine Oq Vnot (Oq Vm ?_)
 refine Js 9 ?_ ?_
 ·intro h11
  have h13 := not_true h11
  refine Osk (Osk (Osk (Oq Vpt (KS ?_))))
  refine Kt (KS ?_)
  refine Oq (Vbd st42 [vi 0, .slice none 0 0]) (Ost (Scl [0] sh42 [vi 0, .slice none 0 0]) (Oq Va (KS ?_)))
  refine Jl [] (Ent.slNil (α := BitVec 64)) ?_
  have hq := q4 hrr ((GSet.mk 0 []), 1) (by simp only [flqref1_Apply, h11, h13, hg9, cs4]); subst hq
  exact Kr (.slice none 0 0) rfl (.cellN 1 rfl sh42 rfl (reads_Cl _ _) rfl (.tmp rfl .nil)) [0] en
 intro h11
 have h16 := not_false h11
 refine Oq (VldA sh42 1) ?_
 refine letv (flqref1_Valid s) fun rv18 hg19 => ?_
 have hc20 := fn91 s sa1 sk1 pre rv18 hg19
 refine Oc [6] ca91 hc20 ?_
 rintro - -
 refine Oq Vnot (Oq Vpf (KS ?_))
 refine Kc ?_ ?_
 ·intro h21
  have h23 := not_true h21
  refine KS ?_
  refine Oq (Vbd st42 [vi 0, .slice none 0 0]) (Ost (Scl [0] sh42 [vi 0, .slice none 0 0]) (Oq Va (KS ?_)))
  refine Jl [] (Ent.slNil (α := BitVec 64)) ?_
  have hq := q4 hrr ((GSet.mk 0 []), 1) (by simp only [flqref1_Apply, h11, h16, h21, h23, hg9, hg19, cs4]); subst hq
  exact Kr (.slice none 0 0) rfl (.cellN 1 rfl sh42 rfl (reads_Cl _ _) rfl (.tmp rfl .nil)) [0] en
 intro h21
 have h26 := not_false h21
 refine KS ?_
 refine Oq (Vfa fo98_0 2) (Oq (VfaF fo42_0 2) (Oq (VldF sh3 2) (Oq (Vfa fo42_0 1) (Oq (VldF sh3 1) (Oq Vneq (KS ?_))))))
 refine Kc ?_ ?_
 ·intro h28
  have g29 := ne_of_bne h28
  refine KS ?_
  refine Oq (Vbd st42 [vi 0, .slice none 0 0]) (Ost (Scl [0] sh42 [vi 0, .slice none 0 0]) (Oq Va (KS ?_)))
  refine Jl [] (Ent.slNil (α := BitVec 64)) ?_
  have hq := q4 hrr ((GSet.mk 0 []), 2) (by simp only [flqref1_Apply, h11, h16, h21, h26, h28, hg9, hg19, cs4]); subst hq
  exact Kr (.slice none 0 0) rfl (.cellN 1 rfl sh42 rfl (reads_Cl _ _) rfl (.tmp rfl .nil)) [0] en
 intro h28
 have g30 := eq_of_bne_false h28
 refine KS ?_
 refine Oq (VldA sh98 2) (Oq (VldA sh42 1) ?_)
 refine letv (flqref1_value t s) fun rv32 hg33 => ?_
 have hc34 := fn206 t ta1 tk1 ta3 tk3 ta4 tk4 s sa1 sk1 pre pre pre (by simp only [h11, h16, h21, h26, h28, hg9, hg19]) pre rv32 hg33
 refine Oc [3, 4, 5, 6] ca206 hc34 ?_
 rintro c31 he35
 unfold i64ok at he35
 refine Jo 0 ?_; rintro a36 k37 rfl
 refine Fb 8 0 fun _ => ?_
 refine Ost (Scl [1] sh42 [vi rv32.Width, vl a36 k37 rv32.Words]) (Oq Va (KS ?_))
 have hq := q4 hrr (rv32, 0) (by simp only [flqref1_Apply, h11, h16, h21, h26, h28, hg9, hg19, hg33, cs4]); subst hq
 exact Kr (vl a36 k37 rv32.Words) rfl (.cellN 0 rfl sh42 rfl (reads_Cl _ _) rfl (.tmp rfl .nil)) [1] en
theorem fn162 (s : GSystem) (sa1 : Option Addr) (sk1 : Nat) (sa2 : Option Addr) (sk2 : Nat) (sa3 : Option Addr) (sk3 : Nat) (v : List GSet) (va0 : Option Addr) (vk0 : Nat) (n : Int) (hs_0 : i64ok s.Width) (hn_0 : i64ok n) (hv : VSys s) (hl : v.length = s.Boundary.length) (hn : 0 ≤ n ∧ n < (s.Boundary.length : Int)) (rr : GSet) (hrr : flqref10_right s v n = rr) : FT Tryz.prog 162 #[.agg #[vi s.Width, vl sa1 sk1 s.Deps, vl sa2 sk2 s.Transfers, vl sa3 sk3 s.Boundary], vl va0 vk0 v, vi n] [S sa1 sk1 s.Deps, S sa2 sk2 s.Transfers, S sa3 sk3 s.Boundary, S va0 vk0 v] (fun g : Value => i64ok rr.Width) (fun g => .agg #[vi rr.Width, g]) (fun g => [sl g rr.Words]) := by
 refine FTi Tryz.func162 fun w0 M0 F0 => ?_
 unfold i64ok at hs_0 hn_0
 refine Fb 24 0 fun _ => Fb 88 1 fun _ => Fb 32 2 fun _ => Fb 32 3 fun _ => ?_
 have hv1 := hv.n
 have hv2 := hv.tl
 have hv3 := hv.bl
 have hv4 := hv.w
 have hv5 := hv.dep_len
 refine KS ?_
 refine Oa (Ab [vi s.Width, vl sa1 sk1 s.Deps, vl sa2 sk2 s.Transfers, vl sa3 sk3 s.Boundary]) fun p5 => Oa (Al ze42 [vi 0, .slice none 0 0]) fun p6 => KS ?_
 refine Oq (Vfa fo27_3 1) (Oq (VldF sh25 1) (Oq Vm (Oq (Vi sl25 4) ?_)))
 refine JJ_peek_GSet n.toNat 4 rfl rng fun a7 k8 hb9 => ?_
 unfold i64ok at hb9
 refine Fb 8 1 fun _ => ?_
 refine Oq (VldA sh42 0) (Oa (Al ze42 [vi 0, .slice none 0 0]) fun p11 => Ost (Scl [0] sh42 [vi ((s.Boundary.getD n.toNat default).Width), vl a7 k8 ((s.Boundary.getD n.toNat default).Words)]) (KS ?_))
 refine Oq Va (KS ?_)
 refine Kl (γ := Nat × Int × List (BitVec 64) × Int × Option Addr × Nat) (fun (r12, out0_13, out1_14, i_15, a16, k17) => ⟨[(1, vl va0 vk0 v), (2, vi n), (3, p5), (6, p6), (7, p11), (8, vi i_15)], [S a16 k17 out1_14, Cl p11 [vi out0_13, vl a16 k17 out1_14], Cl p6 [vi 0, .slice none 0 0], pv p5 [vi s.Width, vl sa1 sk1 s.Deps, vl sa2 sk2 s.Transfers, vl sa3 sk3 s.Boundary], S sa1 sk1 s.Deps, S sa2 sk2 s.Transfers, S sa3 sk3 s.Boundary, S va0 vk0 v], flqref10_right_L0 s v n r12 out0_13 out1_14 i_15 = flqref10_right_L0 s v n (((((s.Deps.getD n.toNat []).length : Int) : Int) - 0).toNat) ((s.Boundary.getD n.toNat default).Width) ((s.Boundary.getD n.toNat default).Words) 0 ∧ r12 = ((((s.Deps.getD n.toNat []).length : Int) : Int) - i_15).toNat ∧ (0 : Int) ≤ i_15 ∧ (i_15 ≤ ((s.Deps.getD n.toNat []).length : Int) ∨ i_15 = 0) ∧ (-9223372036854775808 ≤ out0_13 ∧ out0_13 ≤ 9223372036854775807) ∧ (-9223372036854775808 ≤ i_15 ∧ i_15 ≤ 9223372036854775807), r12⟩) (((((s.Deps.getD n.toNat []).length : Int) : Int) - 0).toNat, (s.Boundary.getD n.toNat default).Width, (s.Boundary.getD n.toNat default).Words, 0, a7, k8) [2, 0, 2, 2, 3, 4, 5, 6] ⟨rfl, rfl, (by omega), (.inr rfl), (by omega), (by omega)⟩ ?_
 rintro ⟨r12, out0_13, out1_14, i_15, a16, k17⟩ ⟨hM18, hr19, hi20, hi21, hk22, hk23⟩
 refine JJ_nx fun _ _ hL hA => ?_; dsimp only at hL hA; subst hL hA
 refine Fb 8 0 fun _ => Fb 24 4 fun _ => Fb 88 5 fun _ => Fb 32 6 fun _ => Fb 32 7 fun _ => KS ?_
 refine Oq Vm (Oq (Vfa fo27_1 3) (Oq (VldF sh23 3) (Oq Vm (Oq (Vi sl23 4) ?_))))
 refine JJ_peekL n.toNat 4 rfl rng fun a29 k30 => ?_
 refine Fb 8 1 fun _ => Fo 1 fun ho32 => ?_
 refine Oq (Vld sh22 0) (Oq (Vlen sl22) (Oq Vlss (KS ?_)))
 refine Kc ?_ ?_
 ·intro h33
  have g34 := dt h33
  have hq := hv.dep_mem (j := n) (by omega) (by omega) _ (getD_mem (xs := s.Deps.getD n.toNat []) (i := i_15.toNat) (d := 0) (by omega))
  obtain ⟨r35, rfl⟩ := scc (n := r12) (by omega)
  refine KS ?_
  refine Oq (Vfa fo27_1 5) (Oq (VldF sh23 5) (Oq Vm (Oq (Vi sl23 6) (Oq (Vld sh22 0) (Oq Vm (Oq (Vi sl22 1) ?_))))))
  have hb36 := ok1 (i := i_15.toNat) ho32 rng
  refine Oq (VldI sh3 1) (Oq Va (KS ?_))
  refine JJ_peek_GTransfer (((s.Deps.getD n.toNat []).getD i_15.toNat 0) : Int).toNat 7 rfl rng fun a37 k38 a39 k40 a41 k42 hb43 hb44 => ?_
  unfold i64ok at hb43 hb44
  refine Fb 8 1 fun _ => Fb 8 2 fun _ => Fb 16 3 fun _ => ?_
  refine JJ_peek_GSet (((s.Deps.getD n.toNat []).getD i_15.toNat 0) : Int).toNat 13 rfl rng fun a48 k49 hb50 => ?_
  unfold i64ok at hb50
  refine Fb 8 1 fun _ => ?_
  refine JK_drawK [0, 1, 0, 7, 15, 0, 0, 96, 224, 511, 1023, 2047, 2047, 0, 12287, 32767] fmix ?_
  refine Dv [11] (Vfa fo27_2 0) (Dv [11] (VldF sh24 0) (Dv [] Vm (Dv [13] (Vi sl24 0) (Dv [2] (VldA sh98 0) (Dv [] Vm (Dv [] Vm (Dv [15] (Vi sl25 0) (Dv [0] (VldA sh42 0) ?_))))))))
  refine letv (flqref1_Apply (s.Transfers.getD (((s.Deps.getD n.toNat []).getD i_15.toNat 0) : Int).toNat default) (v.getD (((s.Deps.getD n.toNat []).getD i_15.toNat 0) : Int).toNat default)) fun rv53 hg54 => ?_
  refine Dx [1, 3, 4, 5] [] [2, 3, 4, 5, 0, 1] (fun G => .tuple #[.agg #[vi rv53.1.Width, (G.g 9 0)], vi rv53.2]) [fun G => SP.fact (i64ok rv53.1.Width ∧ i64ok rv53.2), fun G => sl (G.g 9 0) rv53.1.Words] (fun G => xC [1, 2, 3, 0] ca145 (fn145 ((s.Transfers.getD (((s.Deps.getD n.toNat []).getD i_15.toNat 0) : Int).toNat default)) a37 k38 a39 k40 a41 k42 ((v.getD (((s.Deps.getD n.toNat []).getD i_15.toNat 0) : Int).toNat default)) a48 k49 pre pre pre rv53 hg54)) (Dg [] (fun G => .tuple #[.agg #[vi rv53.1.Width, (G.g 9 0)], vi rv53.2]) (fun G => Vm) (Dg [] (fun G => .agg #[vi rv53.1.Width, (G.g 9 0)]) (fun G => Vx) (Dv [] Vx (Dx [] [] [0] (fun G => (G.g 13 0)) [fun G => Cl (G.g 13 0) [vi 0, .slice none 0 0]] (fun G => xA (Al ze42 [vi 0, .slice none 0 0])) (Dx0 [17, 18] [18] [1, 0] [fun G => Cl (G.g 13 0) [vi rv53.1.Width, (G.g 9 0)]] (fun G => x1 0 rfl sl_one fun ho56 => (xS (Scl [1] sh42 [vi rv53.1.Width, (G.g 9 0)] (v := .agg #[vi rv53.1.Width, (G.g 9 0)]) (h1 := show [vi rv53.1.Width, (G.g 9 0)].all (·.oneCell') = true from (by simp only [List.all_cons, List.all_nil, ho56, Bool.and_true, Bool.true_and] <;> rfl))))) (Dv [] Va ?_))))))
  refine Dn ⟨by kernel_rfl, fun G => ?_⟩
  refine Jw2 [(1, vl va0 vk0 v), (2, vi n), (3, p5), (6, p6), (7, p11), (8, vi i_15), (10, (G.g 13 0))] [0, 1, 2, 3, 4, 5, 6, 7, 8, 9, 10, 11, 12, 13, 14, 15] [SP.fact (i64ok rv53.1.Width ∧ i64ok rv53.2), sl (G.g 9 0) rv53.1.Words, Cl (G.g 13 0) [vi rv53.1.Width, (G.g 9 0)]] ?_
  generalize G.g 9 0 = c52, G.g 13 0 = p55
  refine Jf 16 rfl ?_; rintro ⟨he57, he58⟩
  unfold i64ok at he57 he58
  refine Jk [0, 1, 2, 3, 4, 5, 6, 7, 8, 9, 9, 9, 10, 11, 12, 13, 15, 16] ?_
  refine Jo 16 ?_; rintro a59 k60 rfl
  refine Fb 8 16 fun _ => KS ?_
  refine Oq (VldA sh42 9) (Oq (VldA sh42 17) ?_)
  refine letv (flqref1_Join (GSet.mk out0_13 out1_14) rv53.1) fun rv63 hg64 => ?_
  have hc65 := fn22 ((GSet.mk out0_13 out1_14)) a16 k17 rv53.1 a59 k60 pre pre rv63 hg64
  refine Oc [8, 16] ca22 hc65 ?_
  rintro c62 he66
  unfold i64ok at he66
  refine Jo 0 ?_; rintro a67 k68 rfl
  refine Fb 8 0 fun _ => ?_
  refine Ost (Scl [10] sh42 [vi rv63.Width, vl a67 k68 rv63.Words]) (KS ?_)
  refine Oq Vm (Oq Vadd (Oq Va (KS ?_)))
  exact Kg (r35, rv63.Width, rv63.Words, (i_15 + 1), a67, k68) [1, 0, 10, 10, 11, 12, 13, 14] ⟨(q3 hM18 (by simp only [flqref10_right_L0, h33, hg54, hg64, cs4])), (by omega), (by omega), (by omega), (by omega), (by omega)⟩
 intro h33
 have g70 := df h33
 obtain rfl : r12 = 0 := by omega
 refine Ke ?_
 have hR71 := q2 hM18 (out0_13, out1_14) (by simp only [flqref10_right_L0, h33, cs4])
 refine KS ?_
 refine Oq (VldA sh42 3) (Ost (Scl [4] sh42 [vi out0_13, vl a16 k17 out1_14]) (KS ?_))
 have hq := q4 hrr (GSet.mk out0_13 out1_14) (by simp only [flqref10_right, h33, hR71, cs4]); subst hq
 exact Kr (vl a16 k17 out1_14) rfl (.cellN 0 rfl sh42 rfl (reads_Cl _ _) rfl .nil) [3] en
theorem fn152 (s : GSystem) (sa1 : Option Addr) (sk1 : Nat) (sa2 : Option Addr) (sk2 : Nat) (sa3 : Option Addr) (sk3 : Nat) (v : List GSet) (va0 : Option Addr) (vk0 : Nat) (n : Int) (hs_0 : i64ok s.Width) (hn_0 : i64ok n) (rr : GSet × Int) (hrr : flqref10_Right s v n = rr) : FT Tryz.prog 152 #[.agg #[vi s.Width, vl sa1 sk1 s.Deps, vl sa2 sk2 s.Transfers, vl sa3 sk3 s.Boundary], vl va0 vk0 v, vi n] [S sa1 sk1 s.Deps, S sa2 sk2 s.Transfers, S sa3 sk3 s.Boundary, S va0 vk0 v] (fun g : Value => i64ok rr.1.Width ∧ i64ok rr.2) (fun g => .tuple #[.agg #[vi rr.1.Width, g], vi rr.2]) (fun g => [sl g rr.1.Words]) := by
 refine FTi Tryz.func152 fun w0 M0 F0 => ?_
 unfold i64ok at hs_0 hn_0
 refine Fb 24 0 fun _ => Fb 88 1 fun _ => Fb 32 2 fun _ => Fb 32 3 fun _ => KS ?_
 refine Oa (Ab [vi s.Width, vl sa1 sk1 s.Deps, vl sa2 sk2 s.Transfers, vl sa3 sk3 s.Boundary]) fun p5 => Oa (Al ze42 [vi 0, .slice none 0 0]) fun p6 => Oq Va (KS ?_)
 refine Oq (VldA sh27 1) ?_
 refine letv (flqref10_Valid s) fun rv7 hg8 => ?_
 have hc9 := fn74 s sa1 sk1 sa2 sk2 sa3 sk3 pre rv7 hg8
 refine Oc [2, 3, 4] ca74 hc9 ?_
 rintro - -
 refine Oq Vnot (KS ?_)
 refine Kc ?_ ?_
 ·intro h10
  have h12 := not_true h10
  refine KS ?_
  refine Oq (Vbd st42 [vi 0, .slice none 0 0]) (Ost (Scl [0] sh42 [vi 0, .slice none 0 0]) (Oq Va (KS ?_)))
  refine Jl [] (Ent.slNil (α := BitVec 64)) ?_
  have hq := q4 hrr ((GSet.mk 0 []), 1) (by simp only [flqref10_Right, h10, h12, hg8, cs4]); subst hq
  exact Kr (.slice none 0 0) rfl (.cellN 1 rfl sh42 rfl (reads_Cl _ _) rfl (.tmp rfl .nil)) [0] en
 intro h10
 have h15 := not_false h10
 try (have hvs := (RefValid_iff s).1 (by simp only [h10, h15, hg8]); have hv1 := hvs.n; have hv2 := hvs.tl; have hv3 := hvs.bl; have hv4 := hvs.w)
 refine KS ?_
 refine Oq Vm (Oq Vlss (Oq Vm ?_))
 refine Js 15 ?_ ?_
 ·intro h17
  have g18 := dt h17
  refine Osk (Osk (Osk (Osk (Osk (Oq Vpt (KS ?_))))))
  refine Kt (KS ?_)
  refine Oq (Vbd st42 [vi 0, .slice none 0 0]) (Ost (Scl [0] sh42 [vi 0, .slice none 0 0]) (Oq Va (KS ?_)))
  refine Jl [] (Ent.slNil (α := BitVec 64)) ?_
  have hq := q4 hrr ((GSet.mk 0 []), 9) (by simp only [flqref10_Right, h10, h15, h17, hg8, cs4]); subst hq
  exact Kr (.slice none 0 0) rfl (.cellN 1 rfl sh42 rfl (reads_Cl _ _) rfl (.tmp rfl .nil)) [0] en
 intro h17
 have g19 := df h17
 refine Oq Vm (Oq (Vfa fo27_3 1) (Oq (VldF sh25 1) (Oq (Vlen sl25) (Oq Vgeq (Oq Vpf (KS ?_))))))
 refine Kc ?_ ?_
 ·intro h20
  have g21 := dt h20
  refine KS ?_
  refine Oq (Vbd st42 [vi 0, .slice none 0 0]) (Ost (Scl [0] sh42 [vi 0, .slice none 0 0]) (Oq Va (KS ?_)))
  refine Jl [] (Ent.slNil (α := BitVec 64)) ?_
  have hq := q4 hrr ((GSet.mk 0 []), 9) (by simp only [flqref10_Right, h10, h15, h17, h20, hg8, cs4]); subst hq
  exact Kr (.slice none 0 0) rfl (.cellN 1 rfl sh42 rfl (reads_Cl _ _) rfl (.tmp rfl .nil)) [0] en
 intro h20
 have g22 := df h20
 refine KS ?_
 refine Oq (VldA sh27 1) (Oq Vm ?_)
 refine letv (flqref10_values s v) fun rv23 hg24 => ?_
 have hc25 := fn161 s sa1 sk1 sa2 sk2 sa3 sk3 v va0 vk0 pre rv23 hg24
 refine Oc [2, 3, 4, 5] ca161 hc25 ?_
 rintro - he26
 unfold i64ok at he26
 refine Oq Va (KS ?_)
 refine Oq Vm (Oq Vneq (KS ?_))
 refine Kc ?_ ?_
 ·intro h27
  have g28 := ne_of_bne h27
  refine KS ?_
  refine Oq (Vbd st42 [vi 0, .slice none 0 0]) (Oq Vm (Ost (Scl [0] sh42 [vi 0, .slice none 0 0]) (Oq Va (KS ?_))))
  refine Jl [] (Ent.slNil (α := BitVec 64)) ?_
  have hq := q4 hrr ((GSet.mk 0 []), rv23) (by simp only [flqref10_Right, h10, h15, h17, h20, h27, hg8, hg24, cs4]); subst hq
  exact Kr (.slice none 0 0) rfl (.cellN 1 rfl sh42 rfl (reads_Cl _ _) rfl (.tmp rfl .nil)) [0] en
 intro h27
 have g29 := eq_of_bne_false h27
 refine KS ?_
 refine Oq (VldA sh27 1) (Oq Vm (Oq Vm ?_))
 refine letv (flqref10_right s v n) fun rv31 hg32 => ?_
 have hc33 := fn162 s sa1 sk1 sa2 sk2 sa3 sk3 v va0 vk0 n pre pre hvs (values_len (by omega)) pre rv31 hg32
 refine Oc [2, 3, 4, 5] ca162 hc33 ?_
 rintro c30 he34
 unfold i64ok at he34
 refine Jo 0 ?_; rintro a35 k36 rfl
 refine Fb 8 0 fun _ => ?_
 refine Ost (Scl [1] sh42 [vi rv31.Width, vl a35 k36 rv31.Words]) (Oq Va (KS ?_))
 have hq := q4 hrr (rv31, 0) (by simp only [flqref10_Right, h10, h15, h17, h20, h27, hg8, hg24, hg32, cs4]); subst hq
 exact Kr (vl a35 k36 rv31.Words) rfl (.cellN 0 rfl sh42 rfl (reads_Cl _ _) rfl (.tmp rfl .nil)) [1] en
theorem fn76 (s : GSystem) (sa1 : Option Addr) (sk1 : Nat) (sa2 : Option Addr) (sk2 : Nat) (sa3 : Option Addr) (sk3 : Nat) (v : List GSet) (va0 : Option Addr) (vk0 : Nat) (hs_0 : i64ok s.Width) (rr : List GSet × Int) (hrr : flqref10_Next s v = rr) : FT Tryz.prog 76 #[.agg #[vi s.Width, vl sa1 sk1 s.Deps, vl sa2 sk2 s.Transfers, vl sa3 sk3 s.Boundary], vl va0 vk0 v] [S sa1 sk1 s.Deps, S sa2 sk2 s.Transfers, S sa3 sk3 s.Boundary, S va0 vk0 v] (fun g : Value => i64ok rr.2 ∧ (rr.1.length ≤ s.Boundary.length + 1)) (fun g => .tuple #[g, vi rr.2]) (fun g => [sl g rr.1]) := by
 refine FTi Tryz.func76 fun w0 M0 F0 => ?_
 unfold i64ok at hs_0
 refine Fb 24 0 fun _ => Fb 88 1 fun _ => Fb 32 2 fun _ => Fb 32 3 fun _ => KS ?_
 refine Oa (Ab [vi s.Width, vl sa1 sk1 s.Deps, vl sa2 sk2 s.Transfers, vl sa3 sk3 s.Boundary]) fun p5 => Oq Va (Oq Va (KS ?_))
 refine Oq Va (KS ?_)
 refine Oq Va (KS ?_)
 refine Jl [] (Ent.osNil (α := GSet)) ?_
 refine Kl (γ := Nat × List GSet × Int × Option Addr × Nat) (fun (r6, out_7, n_8, a9, k10) => ⟨[(1, vl va0 vk0 v), (2, p5), (6, vl a9 k10 out_7), (7, vi n_8)], [O a9 k10 out_7, pv p5 [vi s.Width, vl sa1 sk1 s.Deps, vl sa2 sk2 s.Transfers, vl sa3 sk3 s.Boundary], S sa1 sk1 s.Deps, S sa2 sk2 s.Transfers, S sa3 sk3 s.Boundary, S va0 vk0 v], flqref10_Next_L0 s v r6 out_7 n_8 = flqref10_Next_L0 s v ((((max (s.Boundary.length : Int) 1) : Int) - 0).toNat) [] 0 ∧ r6 = (((max (s.Boundary.length : Int) 1) : Int) - n_8).toNat ∧ (0 : Int) ≤ n_8 ∧ (n_8 ≤ (max (s.Boundary.length : Int) 1) ∨ n_8 = 0) ∧ (-9223372036854775808 ≤ n_8 ∧ n_8 ≤ 9223372036854775807) ∧ (out_7.length : Int) = n_8, r6⟩) ((((max (s.Boundary.length : Int) 1) : Int) - 0).toNat, [], 0, none, 0) [0, 0, 1, 2, 3, 4] ⟨rfl, rfl, (by omega), (.inr rfl), (by omega), iv0⟩ ?_
 rintro ⟨r6, out_7, n_8, a9, k10⟩ ⟨hM11, hr12, hi13, hi14, hk15, hv16⟩
 refine JJ_nx fun _ _ hL hA => ?_; dsimp only at hL hA; subst hL hA
 refine Fb 32 0 fun _ => Fb 24 2 fun _ => Fb 88 3 fun _ => Fb 32 4 fun _ => Fb 32 5 fun _ => KS ?_
 refine Oq Vm (Oq (Vfa fo27_3 1) (Oq (VldF sh25 1) (Oq (Vlen sl25) (Oq Vmax (Oq Vlss (KS ?_))))))
 refine Kc ?_ ?_
 ·intro h22
  have g23 := dt h22
  obtain ⟨r24, rfl⟩ := scc (n := r6) (by omega)
  refine KS ?_
  refine Oq (VldA sh27 1) (Oq Vm (Oq Vm ?_))
  refine letv (flqref10_Right s v n_8) fun rv26 hg27 => ?_
  have hc28 := fn152 s sa1 sk1 sa2 sk2 sa3 sk3 v va0 vk0 n_8 pre pre rv26 hg27
  refine Oc [2, 3, 4, 5] ca152 hc28 ?_
  rintro c25 ⟨he29, he30⟩
  unfold i64ok at he29 he30
  refine Jo 0 ?_; rintro a31 k32 rfl
  refine Fb 8 0 fun _ => ?_
  refine Oq Vm (Oq Vx (Oq Vx (Oa (Al ze42 [vi 0, .slice none 0 0]) fun p34 => Ost (Scl [0] sh42 [vi rv26.1.Width, vl a31 k32 rv26.1.Words]) (Oq Va (KS ?_)))))
  refine Oq Vm (Oq Vneq (KS ?_))
  refine Kc ?_ ?_
  ·intro h35
   have g36 := ne_of_bne h35
   refine KS ?_
   refine Oq Vm (Oq Va (Oq Va (KS ?_)))
   refine Jl [] (Ent.slNil (α := GSet)) ?_
   have hR37 := q2 hM11 (.ret ([], rv26.2)) (by simp only [flqref10_Next_L0, h22, h35, hg27, cs4])
   have hq := q4 hrr ([], rv26.2) (by simp only [flqref10_Next, h22, h35, hg27, hR37, cs4]); subst hq
   exact Kr (.slice none 0 0) rfl (.tmp rfl (.tmp rfl .nil)) [0] en
  intro h35
  have g38 := eq_of_bne_false h35
  refine KS ?_
  refine Oq Vm (Oq (VldA sh42 0) (Oa (AsV sl25 sz25 [.agg #[vi rv26.1.Width, vl a31 k32 rv26.1.Words]] [vi rv26.1.Width, vl a31 k32 rv26.1.Words]) fun c39 => ?_))
  refine Jo 0 ?_; rintro a40 k41 rfl
  refine Jl [0, 1] (Ent.cr1 (α := GSet) (A := [S a31 k32 rv26.1.Words]) _ rv26.1 _ (Nat.le_of_ble_eq_true rfl) (fun h => ⟨_, rfl, (by unfold i64ok; first | omega | (dsimp only; omega)), sepAll_get (i := 0) rfl h⟩)) ?_
  refine Oa (ApO [4, 0] sl25 sl25 sz25) fun c42 => ?_
  refine Jo 0 ?_; rintro a43 k44 rfl
  refine Fb 32 0 fun _ => ?_
  have hn46 := la out_7 ([rv26.1] : List GSet)
  refine Oq Va (KS ?_)
  refine Oq Vm (Oq Vadd (Oq Va (KS ?_)))
  exact Kg (r24, (out_7 ++ [rv26.1]), (n_8 + 1), a43, k44) [0, 3, 4, 5, 6, 7] ⟨(q3 hM11 (by simp only [flqref10_Next_L0, h22, h35, hg27, cs4])), (by omega), (by omega), (by omega), (by omega), iv1⟩
 intro h22
 have g47 := df h22
 obtain rfl : r6 = 0 := by omega
 refine Ke ?_
 have hR48 := q2 hM11 (.brk out_7) (by simp only [flqref10_Next_L0, h22, cs4])
 refine KS ?_
 refine Oq Vm (Oq Va (Oq Va (KS ?_)))
 refine Jl [0] (Ent.freeze _ _) ?_
 have hq := q4 hrr (out_7, 0) (by simp only [flqref10_Next, h22, hR48, cs4]); subst hq
 exact Kr (vl a9 k10 out_7) rfl (.tmp rfl (.tmp rfl .nil)) [0] en
theorem fn45 (a : GSet) (aa1 : Option Addr) (ak1 : Nat) (b : GSet) (ba1 : Option Addr) (bk1 : Nat) (ha_0 : i64ok a.Width) (hb_0 : i64ok b.Width) (rr : Bool) (hrr : flqref1_Same a b = rr) : FT Tryz.prog 45 #[.agg #[vi a.Width, vl aa1 ak1 a.Words], .agg #[vi b.Width, vl ba1 bk1 b.Words]] [S aa1 ak1 a.Words, S ba1 bk1 b.Words] (fun g : Unit => True) (fun g => vb rr) (fun g => []) := by
 refine FTi Tryz.func45 fun w0 M0 F0 => ?_
 unfold i64ok at ha_0 hb_0
 refine Fb 8 0 fun _ => Fb 8 1 fun _ => KS ?_
 refine Oa (Ab [vi a.Width, vl aa1 ak1 a.Words]) fun p3 => Oa (Ab [vi b.Width, vl ba1 bk1 b.Words]) fun p4 => Oq Va (KS ?_)
 refine Oq (Vfa fo42_0 1) (Oq (VldF sh3 1) (Oq (Vfa fo42_0 0) (Oq (VldF sh3 0) (Oq Vneq (Oq Vm ?_)))))
 refine Js 11 ?_ ?_
 ·intro h5
  have g6 := ne_of_bne h5
  refine Osk (Osk (Osk (Osk (Osk (Osk (Osk (Oq Vpt (KS ?_))))))))
  refine Kt (KS ?_)
  refine Oq Va (KS ?_)
  have hq := q4 hrr false (by simp only [flqref1_Same, h5, cs4]); subst hq
  exact Kr () rfl (.tmp rfl .nil) [] trivial
 intro h5
 have g7 := eq_of_bne_false h5
 refine Oq (Vfa fo42_1 1) (Oq (VldF sh40 1) (Oq (Vlen sl40) (Oq (Vfa fo42_1 0) (Oq (VldF sh40 0) (Oq (Vlen sl40) (Oq Vneq (Oq Vpf (KS ?_))))))))
 refine Kc ?_ ?_
 ·intro h8
  have g9 := ne_of_bne h8
  refine KS ?_
  refine Oq Va (KS ?_)
  have hq := q4 hrr false (by simp only [flqref1_Same, h5, h8, cs4]); subst hq
  exact Kr () rfl (.tmp rfl .nil) [] trivial
 intro h8
 have g10 := eq_of_bne_false h8
 refine KS ?_
 refine Oq Va (KS ?_)
 refine Kl (γ := Nat × Int) (fun (r11, i_12) => ⟨[(2, p3), (3, p4), (5, vi i_12)], [pv p4 [vi b.Width, vl ba1 bk1 b.Words], pv p3 [vi a.Width, vl aa1 ak1 a.Words], S aa1 ak1 a.Words, S ba1 bk1 b.Words], flqref1_Same_L0 a b r11 i_12 = flqref1_Same_L0 a b (((a.Words.length : Int) - 0).toNat) 0 ∧ r11 = ((a.Words.length : Int) - i_12).toNat ∧ (0 : Int) ≤ i_12 ∧ i_12 ≤ (a.Words.length : Int) ∧ (-9223372036854775808 ≤ i_12 ∧ i_12 ≤ 9223372036854775807), r11⟩) (((a.Words.length : Int) - 0).toNat, 0) [0, 1, 2, 3] ⟨rfl, rfl, (by omega), (by omega), (by omega)⟩ ?_
 rintro ⟨r11, i_12⟩ ⟨hM13, hr14, hi15, hi16, hk17⟩
 refine JJ_nx fun _ _ hL hA => ?_; dsimp only at hL hA; subst hL hA
 refine Fb 8 2 fun _ => Fb 8 3 fun _ => KS ?_
 refine Oq Vm (Oq (Vfa fo42_1 1) (Oq (VldF sh40 1) (Oq (Vlen sl40) (Oq Vlss (KS ?_)))))
 refine Kc ?_ ?_
 ·intro h20
  have g21 := dt h20
  obtain ⟨r22, rfl⟩ := scc (n := r11) (by omega)
  refine KS ?_
  refine Kq [0, 1, 0, 7, 15, 0, 32, 0, 224, 480, 1023] fmix ?_
  refine Qv [1] (Vfa fo42_1 0) (Qv [1] (VldF sh40 0) (Qv [] Vm (Qv [2] (Vi sl40 0) (Qv [2] (VldU sh122 0) (Qv [0] (Vfa fo42_1 0) (Qv [0] (VldF sh40 0) (Qv [] Vm (Qv [3] (Vi sl40 0) (Qv [3] (VldU sh122 0) ?_)))))))))
  refine Qv [] VneqU ?_
  refine Qn ⟨by kernel_rfl, ?_⟩
  refine Kc ?_ ?_
  ·intro h23
   have g24 := ne_of_bne h23
   refine KS ?_
   refine Oq Va (KS ?_)
   have hR25 := q2 hM13 (.ret false) (by simp only [flqref1_Same_L0, h5, h8, h20, h23, cs4])
   have hq := q4 hrr false (by simp only [flqref1_Same, h5, h8, h20, h23, hR25, cs4]); subst hq
   exact Kr () rfl (.tmp rfl .nil) [] trivial
  intro h23
  have g26 := eq_of_bne_false h23
  refine KS ?_
  refine Oq Vm (Oq Vadd (Oq Va (KS ?_)))
  exact Kg (r22, (i_12 + 1)) [0, 1, 2, 3] ⟨(q3 hM13 (by simp only [flqref1_Same_L0, h5, h8, h20, h23, cs4])), (by omega), (by omega), (by omega), (by omega)⟩
 intro h20
 have g27 := df h20
 obtain rfl : r11 = 0 := by omega
 refine Ke ?_
 have hR28 := q2 hM13 (.brk ()) (by simp only [flqref1_Same_L0, h5, h8, h20, cs4])
 refine KS ?_
 refine Oq Va (KS ?_)
 have hq := q4 hrr true (by simp only [flqref1_Same, h5, h8, h20, hR28, cs4]); subst hq
 exact Kr () rfl (.tmp rfl .nil) [] trivial
theorem fn77 (a : List GSet) (aa0 : Option Addr) (ak0 : Nat) (b : List GSet) (ba0 : Option Addr) (bk0 : Nat) (rr : Bool) (hrr : flqref10_SameSets a b = rr) : FT Tryz.prog 77 #[vl aa0 ak0 a, vl ba0 bk0 b] [S aa0 ak0 a, S ba0 bk0 b] (fun g : Unit => True) (fun g => vb rr) (fun g => []) := by
 refine FTi Tryz.func77 fun w0 M0 F0 => Fb 32 0 fun _ => Fb 32 1 fun _ => ?_
 refine KS ?_
 refine Oq Va (KS ?_)
 refine Oq Vm (Oq (Vlen sl25) (Oq Vm (Oq (Vlen sl25) (Oq Vneq (KS ?_)))))
 refine Kc ?_ ?_
 ·intro h3
  have g4 := ne_of_bne h3
  refine KS ?_
  refine Oq Va (KS ?_)
  have hq := q4 hrr false (by simp only [flqref10_SameSets, h3, cs4]); subst hq
  exact Kr () rfl (.tmp rfl .nil) [] trivial
 intro h3
 have g5 := eq_of_bne_false h3
 refine KS ?_
 refine Oq Va (KS ?_)
 refine Kl (γ := Nat × Int) (fun (r6, i_7) => ⟨[(0, vl aa0 ak0 a), (1, vl ba0 bk0 b), (5, vi i_7)], [S aa0 ak0 a, S ba0 bk0 b], flqref10_SameSets_L0 a b r6 i_7 = flqref10_SameSets_L0 a b (((a.length : Int) - 0).toNat) 0 ∧ r6 = ((a.length : Int) - i_7).toNat ∧ (0 : Int) ≤ i_7 ∧ i_7 ≤ (a.length : Int) ∧ (-9223372036854775808 ≤ i_7 ∧ i_7 ≤ 9223372036854775807), r6⟩) (((a.length : Int) - 0).toNat, 0) [0, 1] ⟨rfl, rfl, (by omega), (by omega), (by omega)⟩ ?_
 rintro ⟨r6, i_7⟩ ⟨hM8, hr9, hi10, hi11, hk12⟩
 refine JJ_nx fun _ _ hL hA => ?_; dsimp only at hL hA; subst hL hA
 refine Fb 32 0 fun _ => Fb 32 1 fun _ => KS ?_
 refine Oq Vm (Oq Vm (Oq (Vlen sl25) (Oq Vlss (KS ?_))))
 refine Kc ?_ ?_
 ·intro h15
  have g16 := dt h15
  obtain ⟨r17, rfl⟩ := scc (n := r6) (by omega)
  refine KS ?_
  refine JJ_peek_GSet i_7.toNat 0 rfl rng fun a18 k19 hb20 => ?_
  unfold i64ok at hb20
  refine Fb 8 1 fun _ => ?_
  refine JJ_peek_GSet i_7.toNat 3 rfl rng fun a22 k23 hb24 => ?_
  unfold i64ok at hb24
  refine Fb 8 1 fun _ => ?_
  refine JK_drawK [0, 0, 3, 7, 0, 0, 48, 112, 255, 511] fmix ?_
  refine Dv [] Vm (Dv [] Vm (Dv [4] (Vi sl25 0) (Dv [2] (VldA sh42 0) (Dv [] Vm (Dv [] Vm (Dv [5] (Vi sl25 0) (Dv [0] (VldA sh42 0) ?_)))))))
  refine letv (flqref1_Same (a.getD i_7.toNat default) (b.getD i_7.toNat default)) fun rv26 hg27 => ?_
  refine Dx [1, 3] [] [1, 2, 0] (fun G => vb rv26) [fun G => SP.fact (True)] (fun G => xC [1, 0] ca45 (fn45 ((a.getD i_7.toNat default)) a18 k19 ((b.getD i_7.toNat default)) a22 k23 pre pre rv26 hg27)) (Dv [] Vnot ?_)
  refine Dn ⟨by kernel_rfl, fun G => ?_⟩
  refine Jw2 [(0, vl aa0 ak0 a), (1, vl ba0 bk0 b), (5, vi i_7), (26, vb (!rv26))] [0, 1, 2, 3, 4, 5] [SP.fact (True)] ?_
  refine Jk [0, 1, 2, 3, 4, 5] ?_
  refine Kc ?_ ?_
  ·intro h28
   have h30 := not_true h28
   refine KS ?_
   refine Oq Va (KS ?_)
   have hR32 := q2 hM8 (.ret false) (by simp only [flqref10_SameSets_L0, h3, h15, h28, h30, hg27, cs4])
   have hq := q4 hrr false (by simp only [flqref10_SameSets, h3, h15, h28, h30, hg27, hR32, cs4]); subst hq
   exact Kr () rfl (.tmp rfl .nil) [] trivial
  intro h28
  have h34 := not_false h28
  refine KS ?_
  refine Oq Vm (Oq Vadd (Oq Va (KS ?_)))
  exact Kg (r17, (i_7 + 1)) [4, 5] ⟨(q3 hM8 (by simp only [flqref10_SameSets_L0, h3, h15, h28, h34, hg27, cs4])), (by omega), (by omega), (by omega), (by omega)⟩
 intro h15
 have g36 := df h15
 obtain rfl : r6 = 0 := by omega
 refine Ke ?_
 have hR37 := q2 hM8 (.brk ()) (by simp only [flqref10_SameSets_L0, h3, h15, cs4])
 refine KS ?_
 refine Oq Va (KS ?_)
 have hq := q4 hrr true (by simp only [flqref10_SameSets, h3, h15, hR37, cs4]); subst hq
 exact Kr () rfl (.tmp rfl .nil) [] trivial
theorem fn21 (s : GSystem) (sa1 : Option Addr) (sk1 : Nat) (sa2 : Option Addr) (sk2 : Nat) (sa3 : Option Addr) (sk3 : Nat) (hs_0 : i64ok s.Width) (rr : List GSet × Int × Int) (hrr : flqref10_Solve s = rr) : FT Tryz.prog 21 #[.agg #[vi s.Width, vl sa1 sk1 s.Deps, vl sa2 sk2 s.Transfers, vl sa3 sk3 s.Boundary]] [S sa1 sk1 s.Deps, S sa2 sk2 s.Transfers, S sa3 sk3 s.Boundary] (fun g : Value => i64ok rr.2.1 ∧ i64ok rr.2.2 ∧ (rr.1.length ≤ 257)) (fun g => .tuple #[g, vi rr.2.1, vi rr.2.2]) (fun g => [sl g rr.1]) := by
 refine FTi Tryz.func21 fun w0 M0 F0 => ?_
 unfold i64ok at hs_0
 refine Fb 24 0 fun _ => Fb 88 1 fun _ => Fb 32 2 fun _ => KS ?_
 refine Oa (Ab [vi s.Width, vl sa1 sk1 s.Deps, vl sa2 sk2 s.Transfers, vl sa3 sk3 s.Boundary]) fun p4 => Oq Va (Oq Va (Oq Va (KS ?_)))
 refine Oq (VldA sh27 0) ?_
 refine letv (flqref10_Valid s) fun rv5 hg6 => ?_
 have hc7 := fn74 s sa1 sk1 sa2 sk2 sa3 sk3 pre rv5 hg6
 refine Oc [1, 2, 3] ca74 hc7 ?_
 rintro - -
 refine Oq Vnot (KS ?_)
 refine Kc ?_ ?_
 ·intro h8
  have h10 := not_true h8
  refine KS ?_
  refine Oq Va (Oq Va (Oq Va (KS ?_)))
  refine Jl [] (Ent.slNil (α := GSet)) ?_
  have hq := q4 hrr ([], 0, 1) (by simp only [flqref10_Solve, h8, h10, hg6, cs4]); subst hq
  exact Kr (.slice none 0 0) rfl (.tmp rfl (.tmp rfl (.tmp rfl .nil))) [0] en
 intro h8
 have h13 := not_false h8
 try (have hvs := (RefValid_iff s).1 (by simp only [h8, h13, hg6]); have hv1 := hvs.n; have hv3 := hvs.bl; have hv4 := hvs.w; have hbb : s.Boundary.length * s.Width.toNat ≤ 256 * 256 := Nat.mul_le_mul (by omega) (by omega))
 refine KS ?_
 refine Oq (VldA sh27 0) ?_
 refine letv (flqref10_Empty s) fun rv16 hg17 => ?_
 have hc18 := fn75 s sa1 sk1 sa2 sk2 sa3 sk3 pre pre rv16 hg17
 refine Oc [1, 2, 3] ca75 hc18 ?_
 rintro c15 he19
 refine Jo 0 ?_; rintro a20 k21 rfl
 refine Fb 32 0 fun _ => ?_
 refine Oq Va (KS ?_)
 refine Oq Va (KS ?_)
 have hterm32 : flqref10_Solve_L0 s (s.Boundary.length * s.Width.toNat + 2) rv16 0 ≠ LR.oof := (Solve_term (by simp only [h8, h13, hg6, hg17]) (by assumption))
 refine Kl (γ := Nat × List GSet × Int × Option Addr × Nat) (fun (r23, v_24, round_25, a26, k27) => ⟨[(1, p4), (5, vl a26 k27 v_24), (6, vi round_25)], [S a26 k27 v_24, pv p4 [vi s.Width, vl sa1 sk1 s.Deps, vl sa2 sk2 s.Transfers, vl sa3 sk3 s.Boundary], S sa1 sk1 s.Deps, S sa2 sk2 s.Transfers, S sa3 sk3 s.Boundary], flqref10_Solve_L0 s r23 v_24 round_25 = flqref10_Solve_L0 s (s.Boundary.length * s.Width.toNat + 2) rv16 0 ∧ (-9223372036854775808 ≤ round_25 ∧ round_25 ≤ 9223372036854775807) ∧ 0 ≤ round_25 ∧ round_25 + (r23 : Int) = ((s.Boundary.length * s.Width.toNat + 2 : Nat) : Int) ∧ v_24.length ≤ s.Boundary.length + 1, r23⟩) ((s.Boundary.length * s.Width.toNat + 2), rv16, 0, a20, k21) [0, 1, 2, 3, 4] ⟨rfl, (by omega), iv0, iv0⟩ ?_
 rintro ⟨r23, v_24, round_25, a26, k27⟩ ⟨hM28, hk29, hv30, hv31⟩
 refine JJ_nx fun _ _ hL hA => ?_; dsimp only at hL hA; subst hL hA
 refine Fb 32 0 fun _ => Fb 24 2 fun _ => Fb 88 3 fun _ => Fb 32 4 fun _ => ?_
 rcases r23 with _ | r23
 ·exact absurd (hM28.symm.trans rfl) hterm32
 refine KS ?_
 refine Oq (VldA sh27 1) (Oq Vm ?_)
 refine letv (flqref10_Next s v_24) fun rv38 hg39 => ?_
 have hc40 := fn76 s sa1 sk1 sa2 sk2 sa3 sk3 v_24 a26 k27 pre rv38 hg39
 refine Oc [2, 3, 4, 0] ca76 hc40 ?_
 rintro c37 ⟨he41, he42⟩
 unfold i64ok at he41
 refine Jo 0 ?_; rintro a43 k44 rfl
 refine Fb 32 0 fun _ => ?_
 refine Oq Vm (Oq Vx (Oq Vx (Oq Va (Oq Va (KS ?_)))))
 refine Oq Vm (Oq Vm ?_)
 refine letv (flqref10_SameSets rv38.1 v_24) fun rv46 hg47 => ?_
 have hc48 := fn77 rv38.1 a43 k44 v_24 a26 k27 rv46 hg47
 refine Oc [0, 1] ca77 hc48 ?_
 rintro - -
 refine KS ?_
 refine Kc ?_ ?_
 ·intro h49
  try (have hvs := (RefValid_iff s).1 (by simp only [h8, h13, h49, hg6, hg17, hg39, hg47]); have hv1 := hvs.n; have hv3 := hvs.bl; have hv4 := hvs.w; have hbb : s.Boundary.length * s.Width.toNat ≤ 256 * 256 := Nat.mul_le_mul (by omega) (by omega))
  refine KS ?_
  refine Oq Vm (Oq Vm (Oq Va (Oq Va (Oq Va (KS ?_)))))
  have hR51 := q2 hM28 (.ret (v_24, round_25, 0)) (by simp only [flqref10_Solve_L0, h8, h13, h49, hg6, hg17, hg39, hg47, cs4])
  have hq := q4 hrr (v_24, round_25, 0) (by simp only [flqref10_Solve, h8, h13, h49, hg6, hg17, hg39, hg47, hR51, cs4]); subst hq
  exact Kr (vl a26 k27 v_24) rfl (.tmp rfl (.tmp rfl (.tmp rfl .nil))) [1] en
 intro h49
 refine KS ?_
 refine Oq Vm (Oq Va (KS ?_))
 refine Oq Vm (Oq Vadd (Oq Va (KS ?_)))
 exact Kg (r23, rv38.1, (round_25 + 1), a43, k44) [0, 2, 3, 4, 5] ⟨(q3 hM28 (by simp only [flqref10_Solve_L0, h8, h13, h49, hg6, hg17, hg39, hg47, cs4])), (by omega), iv1, iv1⟩
theorem fn32 (kP : Value) (ka : Option Addr) (kk : Nat) (kT : List Int) (kI : Int) (hkI : 0 ≤ kI ∧ kI ≤ (kT.length : Int)) (rr : Gtask × Int) (hrr : flqlaw15_draw kT kI = rr) : FT Tryz.prog 32 #[kP] [Cl kP [vl ka kk kT, vi kI], S ka kk kT] (fun g : Value × Value × Value × Value => i64ok rr.1.S.Width ∧ i64ok rr.1.Root ∧ (0 ≤ rr.2 ∧ rr.2 ≤ (kT.length : Int))) (fun g => .agg #[vi rr.1.S.Width, g.1, g.2.1, g.2.2.1, g.2.2.2, vi rr.1.Root]) (fun g => [sl g.1 rr.1.S.Deps, sl g.2.1 rr.1.S.Transfers, sl g.2.2.1 rr.1.S.Boundary, sl g.2.2.2 rr.1.K, Cl kP [vl ka kk kT, vi rr.2]]) := by
 refine FTi Tryz.func32 fun w0 M0 F0 => Fb 8 1 fun _ => Fo 1 fun ho2 => ?_
 refine KS ?_
 refine Oa (Al ze55 [vi 0, .slice none 0 0, .slice none 0 0, .slice none 0 0, .slice none 0 0, vi 0]) fun p3 => KS ?_
 refine Oq Vm ?_
 refine letv (Tape_System kT kI 6) fun rv7 hg8 => ?_
 have hc9 := fn18 kP ka kk kT kI 6 pre pre pre rv7 hg8
 refine Oc [1, 1] ca18 hc9 ?_
 rintro ⟨c4, c5, c6⟩ ⟨he10, he11, he12⟩
 unfold i64ok at he10
 refine Jo 0 ?_; rintro a13 k14 rfl
 refine Fb 24 0 fun _ => ?_
 refine Jo 1 ?_; rintro a16 k17 rfl
 refine Fb 88 1 fun _ => ?_
 refine Jo 2 ?_; rintro a19 k20 rfl
 refine Fb 32 2 fun _ => ?_
 refine Oq (Vbd st55 [vi rv7.1.Width, vl a13 k14 rv7.1.Deps, vl a16 k17 rv7.1.Transfers, vl a19 k20 rv7.1.Boundary, .slice none 0 0, vi 0]) (Oa (Al ze55 [vi 0, .slice none 0 0, .slice none 0 0, .slice none 0 0, .slice none 0 0, vi 0]) fun p22 => Ost (Scl [0] sh55 [vi rv7.1.Width, vl a13 k14 rv7.1.Deps, vl a16 k17 rv7.1.Transfers, vl a19 k20 rv7.1.Boundary, .slice none 0 0, vi 0]) (KS ?_))
 refine Oq (Vfa fo55_0 0) (Oq (VldG sh27 0 [vi rv7.1.Width, vl a13 k14 rv7.1.Deps, vl a16 k17 rv7.1.Transfers, vl a19 k20 rv7.1.Boundary]) ?_)
 refine letv (flqref10_Solve rv7.1) fun rv24 hg25 => ?_
 have hc26 := fn21 rv7.1 a13 k14 a16 k17 a19 k20 pre rv24 hg25
 refine Oc [1, 2, 3] ca21 hc26 ?_
 rintro c23 ⟨he27, he28, he29⟩
 unfold i64ok at he27 he28
 refine Jo 0 ?_; rintro a30 k31 rfl
 refine Fb 32 0 fun _ => ?_
 refine Oq Vm (Oq Vx (Oq Vx (Oq Vx (Oq Va (Oq Va (Oq Va (KS ?_)))))))
 refine Oq Va (KS ?_)
 refine Jl [] (Ent.osNil (α := GKnown)) ?_
 refine Kl (γ := Nat × Int × List GKnown × Int × Option Addr × Nat) (fun (r33, ti_34, x4_35, i_36, a37, k38) => ⟨[(0, kP), (2, p3), (3, p22), (4, vl a30 k31 rv24.1), (7, vi i_36)], [O a37 k38 x4_35, S a30 k31 rv24.1, Cl p22 [vi rv7.1.Width, vl a13 k14 rv7.1.Deps, vl a16 k17 rv7.1.Transfers, vl a19 k20 rv7.1.Boundary, vl a37 k38 x4_35, vi 0], S a13 k14 rv7.1.Deps, S a16 k17 rv7.1.Transfers, S a19 k20 rv7.1.Boundary, Cl kP [vl ka kk kT, vi ti_34], Cl p3 [vi 0, .slice none 0 0, .slice none 0 0, .slice none 0 0, .slice none 0 0, vi 0], S ka kk kT], flqlaw15_draw_L0 kT rv24.1 r33 ti_34 x4_35 i_36 = flqlaw15_draw_L0 kT rv24.1 (((rv24.1.length : Int) - 0).toNat) rv7.2 [] 0 ∧ r33 = ((rv24.1.length : Int) - i_36).toNat ∧ (0 : Int) ≤ i_36 ∧ i_36 ≤ (rv24.1.length : Int) ∧ (-9223372036854775808 ≤ ti_34 ∧ ti_34 ≤ 9223372036854775807) ∧ (0 ≤ ti_34 ∧ ti_34 ≤ (kT.length : Int)) ∧ (-9223372036854775808 ≤ i_36 ∧ i_36 ≤ 9223372036854775807) ∧ (x4_35.length : Int) ≤ i_36, r33⟩) (((rv24.1.length : Int) - 0).toNat, rv7.2, [], 0, none, 0) [0, 0, 1, 1, 2, 3, 4, 4, 4] ⟨rfl, rfl, (by omega), (by omega), (by omega), (by omega), (by omega), iv0⟩ ?_
 rintro ⟨r33, ti_34, x4_35, i_36, a37, k38⟩ ⟨hM39, hr40, hi41, hi42, hk43, ht44, hk45, hv46⟩
 refine JJ_nx fun _ _ hL hA => ?_; dsimp only at hL hA; subst hL hA
 refine Fb 40 0 fun _ => Fb 32 1 fun _ => Fb 24 3 fun _ => Fb 88 4 fun _ => Fb 32 5 fun _ => Fb 8 8 fun _ => Fo 8 fun ho53 => KS ?_
 refine Oq Vm (Oq Vm (Oq (Vlen sl25) (Oq Vlss (KS ?_))))
 refine Kc ?_ ?_
 ·intro h54
  have g55 := dt h54
  obtain ⟨r56, rfl⟩ := scc (n := r33) (by omega)
  refine KS ?_
  refine Oq Vm ?_
  refine letv (Tape_Next kT ti_34 4) fun rv57 hg58 => ?_
  have hc59 := fn19 kP ka kk kT ti_34 4 pre pre rv57 hg58
  refine Oc [6, 7] ca19 hc59 ?_
  rintro - ⟨he60, he61, he62⟩
  unfold i64ok at he60
  refine Oq Veql (KS ?_)
  refine Kc ?_ ?_
  ·intro h63
   have g64 := eq_of_beq h63
   refine Jp 3 fun hp65 => ?_
   refine JJ_peek_GSet i_36.toNat 3 rfl rng fun a66 k67 hb68 => ?_
   unfold i64ok at hb68
   refine Fb 8 1 fun _ => ?_
   refine JK_drawK [0, 1, 0, 0, 0, 24, 56, 124, 252, 511, 1023, 2047] fmix ?_
   refine Dv [2] (Vfa fo55_1 0) (Dv [6] (VldF sh53 0) (Dv [] Vm (Dv [] Vm (Dv [] Vm (Dv [5] (Vi sl25 0) (Dv [0] (VldA sh42 0) (Dv [] (Vbd st67 [vi i_36, vi ((rv24.1.getD i_36.toNat default).Width), vl a66 k67 ((rv24.1.getD i_36.toNat default).Words)]) (Dx [] [] [0] (fun G => (G.g 8 0)) [fun G => Cr (G.g 8 0) 1 [vi i_36, vi ((rv24.1.getD i_36.toNat default).Width), vl a66 k67 ((rv24.1.getD i_36.toNat default).Words)]] (fun G => xA (AsV sl53 sz53 [.agg #[vi i_36, vi ((rv24.1.getD i_36.toNat default).Width), vl a66 k67 ((rv24.1.getD i_36.toNat default).Words)]] [vi i_36, vi ((rv24.1.getD i_36.toNat default).Width), vl a66 k67 ((rv24.1.getD i_36.toNat default).Words)])) ?_))))))))
   have hn72 := la x4_35 ([(GKnown.mk i_36 (rv24.1.getD i_36.toNat default))] : List GKnown)
   refine Dx [1, 4, 12] [4, 12] [1, 0] (fun G => (G.g 9 0)) [fun G => os (G.g 9 0) ((x4_35 ++ [(GKnown.mk i_36 (rv24.1.getD i_36.toNat default))]) : List GKnown)] (fun G => xp [2, 0] rfl (Ent.cr1 (α := GKnown) (A := [S a66 k67 ((rv24.1.getD i_36.toNat default).Words)]) _ (GKnown.mk i_36 (rv24.1.getD i_36.toNat default)) _ (Nat.le_of_ble_eq_true rfl) (fun h => ⟨_, rfl, (by unfold i64ok; first | omega | (dsimp only; omega)), (by unfold i64ok; first | omega | (dsimp only; omega)), sepAll_get (i := 0) rfl h⟩)) (xA (ApO [3, 0] sl53 sl53 sz53))) (Dv [2] (Vfa fo55_1 0) (Dx0 [6, 13] [6] [1, 0] [fun G => Cl p22 [vi rv7.1.Width, vl a13 k14 rv7.1.Deps, vl a16 k17 rv7.1.Transfers, vl a19 k20 rv7.1.Boundary, (G.g 9 0), vi 0]] (fun G => x1 1 rfl os_one fun ho73 => (xS (OpS.frame [0] rfl (OpS.storeClF [(G.g 9 0)] [vi rv7.1.Width, vl a13 k14 rv7.1.Deps, vl a16 k17 rv7.1.Transfers, vl a19 k20 rv7.1.Boundary, (G.g 9 0), vi 0] rfl rfl rfl sh53 (cells_of_one ho73) rfl (by simp only [List.all_cons, List.all_nil, ho73, Bool.and_true, Bool.true_and] <;> rfl) (Nat.le_of_ble_eq_true rfl) rfl)))) ?_))
   refine Dn ⟨by kernel_rfl, fun G => ?_⟩
   refine Jw2 [(0, kP), (2, p3), (3, p22), (4, vl a30 k31 rv24.1), (7, vi i_36)] [0, 1, 2, 3, 5, 7, 8, 9, 10, 11] [os (G.g 9 0) ((x4_35 ++ [(GKnown.mk i_36 (rv24.1.getD i_36.toNat default))]) : List GKnown), Cl p22 [vi rv7.1.Width, vl a13 k14 rv7.1.Deps, vl a16 k17 rv7.1.Transfers, vl a19 k20 rv7.1.Boundary, (G.g 9 0), vi 0]] ?_
   generalize G.g 9 0 = c71
   refine Jk [0, 1, 3, 3, 4, 5, 6, 7, 7, 8, 8] ?_
   refine Jo 9 ?_; rintro a74 k75 rfl
   refine Fb 40 9 fun _ => KS ?_
   refine Oq Vm (Oq Vadd (Oq Va (KS ?_)))
   exact Kg (r56, rv57.2, (x4_35 ++ [(GKnown.mk i_36 (rv24.1.getD i_36.toNat default))]), (i_36 + 1), a74, k75) [9, 3, 9, 4, 5, 6, 2, 6, 6] ⟨(q3 hM39 (by simp only [flqlaw15_draw_L0, h54, h63, hg8, hg25, hg58, cs4])), (by omega), (by omega), (by omega), (by omega), (by omega), (by omega), iv1⟩
  intro h63
  have g77 := ne_of_beq_false h63
  refine KS ?_
  refine Oq Vm (Oq Vadd (Oq Va (KS ?_)))
  exact Kg (r56, rv57.2, x4_35, (i_36 + 1), a37, k38) [1, 1, 2, 2, 3, 4, 0, 4, 4] ⟨(q3 hM39 (by simp only [flqlaw15_draw_L0, h54, h63, hg8, hg25, hg58, cs4])), (by omega), (by omega), (by omega), (by omega), (by omega), (by omega), iv1⟩
 intro h54
 have g78 := df h54
 obtain rfl : r33 = 0 := by omega
 refine Ke ?_
 have hR79 := q2 hM39 (ti_34, x4_35) (by simp only [flqlaw15_draw_L0, h54, hg8, hg25, cs4])
 refine KS ?_
 refine Oq Vm (Oq Vm (Oq (Vlen sl25) ?_))
 refine letv (Tape_Next kT ti_34 (rv24.1.length : Int)) fun rv80 hg81 => ?_
 have hc82 := fn19 kP ka kk kT ti_34 ((rv24.1.length : Int)) pre pre rv80 hg81
 refine Oc [6, 7] ca19 hc82 ?_
 rintro - ⟨he83, he84, he85⟩
 unfold i64ok at he83
 refine Oq (Vfa fo55_2 3) (Ost (SclF [3] sh3 [vi rv7.1.Width, vl a13 k14 rv7.1.Deps, vl a16 k17 rv7.1.Transfers, vl a19 k20 rv7.1.Boundary, vl a37 k38 x4_35, vi rv80.1]) (KS ?_))
 refine Oq (VldA sh55 0) (Ost (Scl [7] sh55 [vi rv7.1.Width, vl a13 k14 rv7.1.Deps, vl a16 k17 rv7.1.Transfers, vl a19 k20 rv7.1.Boundary, vl a37 k38 x4_35, vi rv80.1]) (KS ?_))
 refine Jl [3] (Ent.freeze _ _) ?_
 have hq := q4 hrr ((Gtask.mk rv7.1 x4_35 rv80.1), rv80.2) (by simp only [flqlaw15_draw, h54, hg8, hg25, hR79, hg81, cs4]); subst hq
 exact Kr (vl a13 k14 rv7.1.Deps, vl a16 k17 rv7.1.Transfers, vl a19 k20 rv7.1.Boundary, vl a37 k38 x4_35) rfl (.cellN 1 rfl sh55 rfl (reads_Cl _ _) rfl .nil) [5, 6, 7, 0, 3] en
theorem fn38 (root : Int) (hroot_0 : i64ok root) (rr : GState) (hrr : solver_Start root = rr) : FT Tryz.prog 38 #[vi root] [] (fun g : Value × Value × Value × Value => i64ok rr.Phase ∧ i64ok rr.At ∧ i64ok rr.Edge ∧ i64ok rr.Steps) (fun g => .agg #[vi rr.Phase, g.1, g.2.1, vi rr.At, vi rr.Edge, g.2.2.1, g.2.2.2, vi rr.Steps]) (fun g => [sl g.1 rr.Cone, sl g.2.1 rr.Leaf, sl g.2.2.1 rr.Values, sl g.2.2.2 rr.Queue]) := by
 refine FTi Tryz.func38 fun w0 M0 F0 => ?_
 unfold i64ok at hroot_0
 refine KS ?_
 refine Oa (Al ze59 [vi 0, .slice none 0 0, .slice none 0 0, vi 0, vi 0, .slice none 0 0, .slice none 0 0, vi 0]) fun p1 => KS ?_
 refine Oq Vm (Oa (AsV sl22 sz22 [vi root] [vi root]) fun c2 => ?_)
 refine Jo 0 ?_; rintro a3 k4 rfl
 refine Oa (AsV sl57 sz57 [vb false] [vb false]) fun c5 => ?_
 refine Jo 0 ?_; rintro a6 k7 rfl
 refine Oq (Vbd st59 [vi 1, .slice a3 1 k4, .slice a6 1 k7, vi 0, vi 0, .slice none 0 0, .slice none 0 0, vi 0]) (Ost (Scl [2] sh59 [vi 1, .slice a3 1 k4, .slice a6 1 k7, vi 0, vi 0, .slice none 0 0, .slice none 0 0, vi 0]) (KS ?_))
 refine Jl [2] (Ent.crInt _ [root] _ _ rfl rfl (by intro x hx; rw [List.mem_singleton] at hx; subst hx; unfold i64ok; omega) (Nat.le_of_ble_eq_true rfl)) ?_
 refine Jl [0] (Ent.freeze _ _) ?_
 refine Jl [2] (Ent.cr1 (α := Bool) (A := []) _ false _ (Nat.le_of_ble_eq_true rfl) (fun _ => rfl)) ?_
 refine Jl [0] (Ent.freeze _ _) ?_
 refine Jl [] (Ent.slNil (α := GSet)) ?_
 refine Jl [] (Ent.slNil (α := Int)) ?_
 have hq := q4 hrr (GState.mk 1 [root] [false] 0 0 [] [] 0) (by simp only [solver_Start, cs4]); subst hq
 exact Kr (.slice a3 1 k4, .slice a6 1 k7, .slice none 0 0, .slice none 0 0) rfl (.cellN 4 rfl sh59 rfl (reads_Cl _ _) rfl .nil) [3, 2, 1, 0] en
theorem fn185 (width : Int) (n : Int) (hwidth_0 : i64ok width) (hn_0 : i64ok n) (rr : Bool) (hrr : equations_sized width n = rr) : FT Tryz.prog 185 #[vi width, vi n] [] (fun g : Unit => True) (fun g => vb rr) (fun g => []) := by
 refine FTi Tryz.func185 fun w0 M0 F0 => ?_
 unfold i64ok at hwidth_0 hn_0
 refine KS ?_
 refine Oq Va (KS ?_)
 refine Oq Vm (Oq Vgeq (Oq Vm ?_))
 refine Js 7 ?_ ?_
 ·intro h1
  have g2 := dt h1
  refine Oq Vm (Oq Vleq (Oq Vpt (Oq Vm ?_)))
  refine Js 11 ?_ ?_
  ·intro h3
   have g4 := dt h3
   refine Oq Vm (Oq Vgeq (Oq Vpt (Oq Vm ?_)))
   refine Js 15 ?_ ?_
   ·intro h5
    have g6 := dt h5
    refine Oq Vm (Oq Vleq (Oq Vpt (Oq Va (KS ?_))))
    have hq := q4 hrr (decide (n ≤ 256)) (by simp only [equations_sized, h1, h3, h5, cs4]); subst hq
    exact Kr () rfl (.tmp rfl .nil) [] trivial
   intro h5
   have g7 := df h5
   refine Osk (Osk (Oq Vpf (Oq Va (KS ?_))))
   have hq := q4 hrr false (by simp only [equations_sized, h1, h3, h5, cs4]); subst hq
   exact Kr () rfl (.tmp rfl .nil) [] trivial
  intro h3
  have g8 := df h3
  refine Osk (Osk (Oq Vpf (Oq Vm (Osk (Osk (Oq Vpf (Oq Va (KS ?_))))))))
  have hq := q4 hrr false (by simp only [equations_sized, h1, h3, cs4]); subst hq
  exact Kr () rfl (.tmp rfl .nil) [] trivial
 intro h1
 have g9 := df h1
 refine Osk (Osk (Oq Vpf (Oq Vm (Osk (Osk (Oq Vpf (Oq Vm (Osk (Osk ?_)))))))))
 refine Oq Vpf (Oq Va (KS ?_))
 have hq := q4 hrr false (by simp only [equations_sized, h1, cs4]); subst hq
 exact Kr () rfl (.tmp rfl .nil) [] trivial
theorem fn186 (l : List Int) (la0 : Option Addr) (lk0 : Nat) (n : Int) (hn_0 : i64ok n) (rr : Bool) (hrr : equations_ascending l n = rr) : FT Tryz.prog 186 #[vl la0 lk0 l, vi n] [S la0 lk0 l] (fun g : Unit => True) (fun g => vb rr) (fun g => []) := by
 refine FTi Tryz.func186 fun w0 M0 F0 => ?_
 unfold i64ok at hn_0
 refine Fb 8 0 fun _ => Fo 0 fun ho2 => KS ?_
 refine Oq Va (KS ?_)
 refine Oq Vm (Oq (Vlen sl22) (Oq Vm (KS ?_)))
 refine Kl (γ := Nat × Int) (fun (r3, v9_4) => ⟨[(0, vl la0 lk0 l), (1, vi n), (7, vl la0 lk0 l), (8, vi (l.length : Int)), (9, vi v9_4)], [S la0 lk0 l], equations_ascending_L0 l n r3 v9_4 = equations_ascending_L0 l n (((l.length : Int) - 0).toNat) 0 ∧ r3 = ((l.length : Int) - v9_4).toNat ∧ (0 : Int) ≤ v9_4 ∧ v9_4 ≤ (l.length : Int) ∧ (-9223372036854775808 ≤ v9_4 ∧ v9_4 ≤ 9223372036854775807), r3⟩) (((l.length : Int) - 0).toNat, 0) [0] ⟨rfl, rfl, (by omega), (by omega), (by omega)⟩ ?_
 rintro ⟨r3, v9_4⟩ ⟨hM5, hr6, hi7, hi8, hk9⟩
 refine JJ_nx fun _ _ hL hA => ?_; dsimp only at hL hA; subst hL hA
 refine Fb 8 0 fun _ => Fo 0 fun ho11 => KS ?_
 refine Oq Vlss (KS ?_)
 refine Kc ?_ ?_
 ·intro h12
  have g13 := dt h12
  obtain ⟨r14, rfl⟩ := scc (n := r3) (by omega)
  refine KS ?_
  refine Oq Vm (Oq (Vi sl22 0) ?_)
  have hb15 := ok1 (i := v9_4.toNat) ho11 rng
  refine Oq (VldI sh3 0) (Oq Va (Oq Va (KS ?_)))
  refine Oq Vm (Oq Vlss (Oq Vm ?_))
  refine Js 16 ?_ ?_
  ·intro h16
   have g17 := dt h16
   refine Osk (Osk (Osk (Oq Vpt (Oq Vm (Osk (Osk (Osk (Osk (Osk ?_)))))))))
   refine Osk (Osk (Osk (Osk (Osk (Osk (Oq Vpt (KS ?_)))))))
   refine Kt (KS ?_)
   refine Oq Va (KS ?_)
   have hR18 := q2 hM5 (.ret false) (by simp only [equations_ascending_L0, h12, h16, cs4])
   have hq := q4 hrr false (by simp only [equations_ascending, h12, h16, hR18, cs4]); subst hq
   exact Kr () rfl (.tmp rfl .nil) [] trivial
  intro h16
  have g19 := df h16
  refine Oq Vm (Oq Vm (Oq Vgeq (Oq Vpf (Oq Vm ?_))))
  refine Js 21 ?_ ?_
  ·intro h20
   have g21 := dt h20
   refine Osk (Osk (Osk (Osk (Osk (Osk (Osk (Osk (Osk (Osk ?_)))))))))
   refine Osk (Oq Vpt (KS ?_))
   refine Kt (KS ?_)
   refine Oq Va (KS ?_)
   have hR22 := q2 hM5 (.ret false) (by simp only [equations_ascending_L0, h12, h16, h20, cs4])
   have hq := q4 hrr false (by simp only [equations_ascending, h12, h16, h20, hR22, cs4]); subst hq
   exact Kr () rfl (.tmp rfl .nil) [] trivial
  intro h20
  have g23 := df h20
  refine Oq Vm (Oq Vgtr (Oq Vm ?_))
  refine Js 24 ?_ ?_
  ·intro h24
   have g25 := dt h24
   refine Oq Vm (Oq Vm (Oq Vm (Oq Vsub (Oq (Vi sl22 0) ?_))))
   have hb26 := ok1 (i := ((v9_4 - 1) : Int).toNat) ho11 rng
   refine Oq (VldI sh3 0) (Oq Vleq (Oq Vpt (Oq Vpf (KS ?_))))
   refine Kc ?_ ?_
   ·intro h27
    have g28 := dt h27
    refine KS ?_
    refine Oq Va (KS ?_)
    have hR29 := q2 hM5 (.ret false) (by simp only [equations_ascending_L0, h12, h16, h20, h24, h27, cs4])
    have hq := q4 hrr false (by simp only [equations_ascending, h12, h16, h20, h24, h27, hR29, cs4]); subst hq
    exact Kr () rfl (.tmp rfl .nil) [] trivial
   intro h27
   have g30 := df h27
   refine KS ?_
   refine Oq Vadd (Oq Vm (KS ?_))
   exact Kg (r14, (v9_4 + 1)) [0] ⟨(q3 hM5 (by simp only [equations_ascending_L0, h12, h16, h20, h24, h27, cs4])), (by omega), (by omega), (by omega), (by omega)⟩
  intro h24
  have g31 := df h24
  refine Osk (Osk (Osk (Osk (Osk (Osk (Osk (Oq Vpf (Oq Vpf (KS ?_)))))))))
  refine Kf (KS ?_)
  refine Oq Vadd (Oq Vm (KS ?_))
  exact Kg (r14, (v9_4 + 1)) [0] ⟨(q3 hM5 (by simp only [equations_ascending_L0, h12, h16, h20, h24, cs4])), (by omega), (by omega), (by omega), (by omega)⟩
 intro h12
 have g32 := df h12
 obtain rfl : r3 = 0 := by omega
 refine Ke ?_
 have hR33 := q2 hM5 (.brk ()) (by simp only [equations_ascending_L0, h12, cs4])
 refine KS ?_
 refine Oq Va (KS ?_)
 have hq := q4 hrr true (by simp only [equations_ascending, h12, hR33, cs4]); subst hq
 exact Kr () rfl (.tmp rfl .nil) [] trivial
theorem fn281 (s : List GSet) (sa0 : Option Addr) (sk0 : Nat) (fF : FuncId) (fC : List Value) (fp : GSet → Bool) (fA : List SP) (hfc : callable Tryz.prog fF = true) (hfF : ∀ x ∈ s, ∀ (a1 : Option Addr) (k1 : Nat), i64ok x.Width → FT Tryz.prog fF ([(.agg #[vi x.Width, vl a1 k1 x.Words] : Value)] ++ fC).toArray ([S a1 k1 x.Words] ++ [pAll fA]) (fun _ : Unit => True) (fun _ => .bool (fp x)) (fun _ => [])) (rr : Int) (hrr : slices_IndexFunc_Set s fp = rr) : FT Tryz.prog 281 #[vl sa0 sk0 s, .func (.func fF) #[] fC.toArray] [S sa0 sk0 s, pAll fA] (fun g : Unit => i64ok rr) (fun g => vi rr) (fun g => []) := by
 refine FTi Tryz.func281 fun w0 M0 F0 => Fb 32 0 fun _ => ?_
 refine KS ?_
 refine Oq Va (KS ?_)
 refine Oq Vm (Oq (Vlen sl25) (Oq Vm (KS ?_)))
 refine Kl (γ := Nat × Int) (fun (r2, v8_3) => ⟨[(0, vl sa0 sk0 s), (1, .func (.func fF) #[] fC.toArray), (7, vi (s.length : Int)), (8, vi v8_3)], [S sa0 sk0 s, pAll fA], slices_IndexFunc_Set_L0 s fp r2 v8_3 = slices_IndexFunc_Set_L0 s fp (((s.length : Int) - 0).toNat) 0 ∧ r2 = ((s.length : Int) - v8_3).toNat ∧ (0 : Int) ≤ v8_3 ∧ v8_3 ≤ (s.length : Int) ∧ (-9223372036854775808 ≤ v8_3 ∧ v8_3 ≤ 9223372036854775807), r2⟩) (((s.length : Int) - 0).toNat, 0) [0, 1] ⟨rfl, rfl, (by omega), (by omega), (by omega)⟩ ?_
 rintro ⟨r2, v8_3⟩ ⟨hM4, hr5, hi6, hi7, hk8⟩
 refine JJ_nx fun _ _ hL hA => ?_; dsimp only at hL hA; subst hL hA
 refine Fb 32 0 fun _ => KS ?_
 refine Oq Vlss (KS ?_)
 refine Kc ?_ ?_
 ·intro h10
  have g11 := dt h10
  obtain ⟨r12, rfl⟩ := scc (n := r2) (by omega)
  refine KS ?_
  refine Oq Vm (Oq Va (KS ?_))
  refine Oq Vm (Oq Vm (Oq Vm (Oq (Vi sl25 0) ?_)))
  refine JJ_peek_GSet v8_3.toNat 0 rfl rng fun a13 k14 hb15 => ?_
  unfold i64ok at hb15
  refine Fb 8 1 fun _ => Oq (VldA sh42 0) ?_
  refine JO_call [1, 3] rfl rfl rfl (OpC.clo («as» := [(.agg #[vi ((s.getD v8_3.toNat default).Width), vl a13 k14 ((s.getD v8_3.toNat default).Words)] : Value)] ++ fC) rfl rfl hfc rfl (by simp)) (hfF (s.getD v8_3.toNat default) (getD_mem rng) a13 k14 (by unfold i64ok; omega)) rfl fun _ _ => ?_
  refine KS ?_
  refine Kc ?_ ?_
  ·intro h17
   refine KS ?_
   refine Oq Vm (Oq Va (KS ?_))
   have hR19 := q2 hM4 (.ret v8_3) (by simp only [slices_IndexFunc_Set_L0, h10, h17, cs4])
   have hq := q4 hrr v8_3 (by simp only [slices_IndexFunc_Set, h10, h17, hR19, cs4]); subst hq
   exact Kr () rfl (.tmp rfl .nil) [] en
  intro h17
  refine KS ?_
  refine Oq Vadd (Oq Vm (KS ?_))
  exact Kg (r12, (v8_3 + 1)) [2, 3] ⟨(q3 hM4 (by simp only [slices_IndexFunc_Set_L0, h10, h17, cs4])), (by omega), (by omega), (by omega), (by omega)⟩
 intro h10
 have g21 := df h10
 obtain rfl : r2 = 0 := by omega
 refine Ke ?_
 have hR22 := q2 hM4 (.brk ()) (by simp only [slices_IndexFunc_Set_L0, h10, cs4])
 refine KS ?_
 refine Oq Va (KS ?_)
 have hq := q4 hrr (-1) (by simp only [slices_IndexFunc_Set, h10, hR22, cs4]); subst hq
 exact Kr () rfl (.tmp rfl .nil) [] en
theorem fn239 (s : List GSet) (sa0 : Option Addr) (sk0 : Nat) (fF : FuncId) (fC : List Value) (fp : GSet → Bool) (fA : List SP) (hfc : callable Tryz.prog fF = true) (hfF : ∀ x ∈ s, ∀ (a1 : Option Addr) (k1 : Nat), i64ok x.Width → FT Tryz.prog fF ([(.agg #[vi x.Width, vl a1 k1 x.Words] : Value)] ++ fC).toArray ([S a1 k1 x.Words] ++ [pAll fA]) (fun _ : Unit => True) (fun _ => .bool (fp x)) (fun _ => [])) (rr : Bool) (hrr : slices_ContainsFunc_Set s fp = rr) : FT Tryz.prog 239 #[vl sa0 sk0 s, .func (.func fF) #[] fC.toArray] [S sa0 sk0 s, pAll fA] (fun g : Unit => True) (fun g => vb rr) (fun g => []) := by
 refine FTi Tryz.func239 fun w0 M0 F0 => Fb 32 0 fun _ => ?_
 refine KS ?_
 refine Oq Va (KS ?_)
 refine Oq Vm (Oq Vm ?_)
 refine letv (slices_IndexFunc_Set s fp) fun rv2 hg3 => ?_
 have hc4 := fn281 s sa0 sk0 fF fC fp fA hfc hfF rv2 hg3
 refine Oc [0, 1] ca281 hc4 ?_
 rintro - he5
 unfold i64ok at he5
 refine Oq Vgeq (Oq Va (KS ?_))
 have hq := q4 hrr (decide (0 ≤ rv2)) (by simp only [slices_ContainsFunc_Set, hg3, cs4]); subst hq
 exact Kr () rfl (.tmp rfl .nil) [] trivial
theorem fn200 (width : Int) (hwidth_0 : i64ok width) (rr : Bool) (hrr : bitset_ranged width = rr) : FT Tryz.prog 200 #[vi width] [] (fun g : Unit => True) (fun g => vb rr) (fun g => []) := by
 refine FTi Tryz.func200 fun w0 M0 F0 => ?_
 unfold i64ok at hwidth_0
 refine KS ?_
 refine Oq Va (KS ?_)
 refine Oq Vm (Oq Vgeq (Oq Vm ?_))
 refine Js 5 ?_ ?_
 ·intro h1
  have g2 := dt h1
  refine Oq Vm (Oq Vleq (Oq Vpt (Oq Va (KS ?_))))
  have hq := q4 hrr (decide (width ≤ 256)) (by simp only [bitset_ranged, h1, cs4]); subst hq
  exact Kr () rfl (.tmp rfl .nil) [] trivial
 intro h1
 have g3 := df h1
 refine Osk (Osk (Oq Vpf (Oq Va (KS ?_))))
 have hq := q4 hrr false (by simp only [bitset_ranged, h1, cs4]); subst hq
 exact Kr () rfl (.tmp rfl .nil) [] trivial
theorem fn201 (width : Int) (hwidth_0 : i64ok width) (hw0 : 0 ≤ width ∧ width ≤ 1000000) (rr : Int) (hrr : bitset_words width = rr) : FT Tryz.prog 201 #[vi width] [] (fun g : Unit => i64ok rr ∧ (rr = (width + 63) / 64)) (fun g => vi rr) (fun g => []) := by
 refine FTi Tryz.func201 fun w0 M0 F0 => ?_
 unfold i64ok at hwidth_0
 refine KS ?_
 refine Oq Va (KS ?_)
 refine Oq Vm (Oq Vadd (Oq Vsub (Oq Vquo (Oq Va (KS ?_)))))
 have hq := q4 hrr (((width + 64) - 1) / 64) (by simp only [bitset_words, cs4]); subst hq
 exact Kr () rfl (.tmp rfl .nil) [] en
theorem fn202 (width : Int) (hwidth_0 : i64ok width) (rr : BitVec 64) (hrr : bitset_spare width = rr) : FT Tryz.prog 202 #[vi width] [] (fun g : Unit => True) (fun g => u64 rr) (fun g => []) := by
 refine FTi Tryz.func202 fun w0 M0 F0 => ?_
 unfold i64ok at hwidth_0
 refine KS ?_
 refine Oq Va (KS ?_)
 refine Oq Vm (Oq (VcU un3 un123) (Oq (VremU (b := 64#64) (by simp)) (Oq (VshlU (a := 18446744073709551615#64)) (Oq Va (KS ?_)))))
 have hq := q4 hrr (18446744073709551615#64 <<< ((((BitVec.ofInt 64 width) % 64#64).toNat : Int)).toNat) (by simp only [bitset_spare, cs4]); subst hq
 exact Kr () rfl (.tmp rfl .nil) [] trivial
theorem fn123 (s : GSet) (sa1 : Option Addr) (sk1 : Nat) (hs_0 : i64ok s.Width) (rr : Bool) (hrr : bitset_Valid s = rr) : FT Tryz.prog 123 #[.agg #[vi s.Width, vl sa1 sk1 s.Words]] [S sa1 sk1 s.Words] (fun g : Unit => True) (fun g => vb rr) (fun g => []) := by
 refine FTi Tryz.func123 fun w0 M0 F0 => ?_
 unfold i64ok at hs_0
 refine Fb 8 0 fun _ => KS ?_
 refine Oa (Ab [vi s.Width, vl sa1 sk1 s.Words]) fun p2 => Oq Va (KS ?_)
 refine JK_drawK [0, 1, 3, 7, 15, 31, 63, 127, 31, 287, 799, 2047, 4095] fmix ?_
 refine Dv [0] (Vfa fo42_0 0) (Dv [0] (VldF sh3 0) ?_)
 refine letv (bitset_ranged s.Width) fun rv3 hg4 => ?_
 refine Dx [] [] [0] (fun G => vb rv3) [fun G => SP.fact (True)] (fun G => xC [] ca200 (fn200 s.Width pre rv3 hg4)) (Dv [] Vnot ?_)
 refine bool_split (!rv3) ?_ ?_
 ·intro h5
  have h7 := not_true h5
  refine Db h5 [] Vm (Ds (Ds (Ds (Ds (Ds (Ds (Ds (Dv [] Vpt ?_))))))))
  refine Dn ⟨by kernel_rfl, fun G => ?_⟩
  refine Jw2 [(1, p2), (15, vb true)] [0, 1] [SP.fact (True)] ?_
  refine Jk [0, 1] (Kt ?_)
  refine KS ?_
  refine Oq Va (KS ?_)
  have hq := q4 hrr false (by simp only [bitset_Valid, h5, h7, hg4, cs4]); subst hq
  exact Kr () rfl (.tmp rfl .nil) [] trivial
 intro h5
 have h10 := not_false h5
 try have hrg := ranged_iff (w := s.Width) (by simp only [h5, h10, hg4])
 refine Db h5 [] Vm (Dv [0] (Vfa fo42_1 0) (Dv [0] (VldF sh40 0) (Dv [] (Vlen sl40) (Dv [0] (Vfa fo42_0 0) (Dv [0] (VldF sh3 0) ?_)))))
 refine letv (bitset_words s.Width) fun rv12 hg13 => ?_
 refine Dx [] [] [0] (fun G => vi rv12) [fun G => SP.fact (i64ok rv12 ∧ (rv12 = (s.Width + 63) / 64))] (fun G => xC [] ca201 (fn201 s.Width pre pre rv12 hg13)) (Dv [] Vneq (Dv [] Vpf ?_))
 refine Dn ⟨by kernel_rfl, fun G => ?_⟩
 refine Jw2 [(1, p2), (15, vb ((s.Words.length : Int) != rv12))] [0, 1] [SP.fact (True), SP.fact (i64ok rv12 ∧ (rv12 = (s.Width + 63) / 64))] ?_
 refine Jf 3 rfl ?_; rintro ⟨he14, he15⟩
 unfold i64ok at he14
 refine Jk [0, 1] ?_
 refine Kc ?_ ?_
 ·intro h16
  have g17 := ne_of_bne h16
  refine KS ?_
  refine Oq Va (KS ?_)
  have hq := q4 hrr false (by simp only [bitset_Valid, h5, h10, h16, hg4, hg13, cs4]); subst hq
  exact Kr () rfl (.tmp rfl .nil) [] trivial
 intro h16
 have g18 := eq_of_bne_false h16
 refine KS ?_
 refine JK_drawK [0, 1, 3, 7, 15, 31, 63, 31, 159, 415, 927, 2047, 4095, 31, 8223, 24607, 65535, 131071, 262143, 524287] fmix ?_
 refine Dv [0] (Vfa fo42_0 0) (Dv [0] (VldF sh3 0) (Dv [] Vrem (Dv [] Veql ?_)))
 refine bool_split ((s.Width % 64) == 0) ?_ ?_
 ·intro h19
  have g20 := eq_of_beq h19
  refine Db h19 [] Vm (Ds (Ds (Ds (Ds (Ds (Ds (Ds (Ds (Ds ?_)))))))))
  refine Ds (Ds (Ds (Ds (Dv [] Vpt (Dv [] Va ?_)))))
  refine Dn ⟨by kernel_rfl, fun G => ?_⟩
  refine Jw2 [(2, vb true)] [0, 1] [] ?_
  have hq := q4 hrr true (by simp only [bitset_Valid, h5, h10, h16, h19, hg4, hg13, cs4]); subst hq
  exact Kr () rfl (.tmp rfl .nil) [] trivial
 intro h19
 have g21 := ne_of_beq_false h19
 refine Db h19 [] Vm (Dv [0] (Vfa fo42_1 0) (Dv [0] (VldF sh40 0) (Dv [0] (Vfa fo42_1 0) (Dv [0] (VldF sh40 0) (Dv [] (Vlen sl40) (Dv [] Vsub (Dv [1] (Vi sl40 0) (Dv [1] (VldU sh122 0) (Dv [0] (Vfa fo42_0 0) ?_)))))))))
 refine Dv [0] (VldF sh3 0) ?_
 refine letv (bitset_spare s.Width) fun rv22 hg23 => ?_
 refine Dx [] [] [0] (fun G => u64 rv22) [fun G => SP.fact (True)] (fun G => xC [] ca202 (fn202 s.Width pre rv22 hg23)) (Dv [] VandU (Dv [] (VeqlU (b := 0#64)) (Dv [] Vpf (Dv [] Va ?_))))
 refine Dn ⟨by kernel_rfl, fun G => ?_⟩
 refine Jw2 [(2, vb (((s.Words.getD (((s.Words.length : Int) - 1) : Int).toNat 0#64) &&& rv22) == 0#64))] [0, 1] [SP.fact (True)] ?_
 refine Jk [0, 1] ?_
 have hq := q4 hrr (((s.Words.getD (((s.Words.length : Int) - 1) : Int).toNat 0#64) &&& rv22) == 0#64) (by simp only [bitset_Valid, h5, h10, h16, h19, hg4, hg13, hg23, cs4]); subst hq
 exact Kr () rfl (.tmp rfl .nil) [] trivial
theorem fn240 (s : GSet) (sa1 : Option Addr) (sk1 : Nat) (cap0P : Value) (cap0 : Int) (hs_0 : i64ok s.Width) (hcap0_0 : i64ok cap0) (rr : Bool) (hrr : equations_sets_1 s cap0 = rr) : FT Tryz.prog 240 #[.agg #[vi s.Width, vl sa1 sk1 s.Words], cap0P] [S sa1 sk1 s.Words, pv cap0P [vi cap0]] (fun g : Unit => True) (fun g => vb rr) (fun g => []) := by
 refine FTi Tryz.func240 fun w0 M0 F0 => ?_
 unfold i64ok at hs_0 hcap0_0
 refine Fb 8 0 fun _ => KS ?_
 refine Oa (Ab [vi s.Width, vl sa1 sk1 s.Words]) fun p2 => Oq Va (KS ?_)
 refine Oq (VldA sh42 0) ?_
 refine letv (bitset_Valid s) fun rv3 hg4 => ?_
 have hc5 := fn123 s sa1 sk1 pre rv3 hg4
 refine Oc [1] ca123 hc5 ?_
 rintro - -
 refine Oq Vnot (Oq Vm ?_)
 refine Js 7 ?_ ?_
 ·intro h6
  have h8 := not_true h6
  refine Osk (Osk (Osk (Osk (Oq Vpt (Oq Va (KS ?_))))))
  have hq := q4 hrr true (by simp only [equations_sets_1, h6, h8, hg4, cs4]); subst hq
  exact Kr () rfl (.tmp rfl .nil) [] trivial
 intro h6
 have h11 := not_false h6
 refine Oq (Vfa fo42_0 0) (Oq (VldF sh3 0) (Oq (Vld sh3 2) (Oq Vneq (Oq Vpf (Oq Va (KS ?_))))))
 have hq := q4 hrr (s.Width != cap0) (by simp only [equations_sets_1, h6, h11, hg4, cs4]); subst hq
 exact Kr () rfl (.tmp rfl .nil) [] trivial
theorem fn187 (width : Int) (l : List GSet) (la0 : Option Addr) (lk0 : Nat) (hwidth_0 : i64ok width) (rr : Bool) (hrr : equations_sets width l = rr) : FT Tryz.prog 187 #[vi width, vl la0 lk0 l] [S la0 lk0 l] (fun g : Unit => True) (fun g => vb rr) (fun g => []) := by
 refine FTi Tryz.func187 fun w0 M0 F0 => ?_
 unfold i64ok at hwidth_0
 refine Fb 32 0 fun _ => KS ?_
 refine Oa (Ab [vi width]) fun p2 => Oq Va (KS ?_)
 refine Oq Vm (Oq (Vf [p2]) ?_)
 refine JJ_ent (Ent.pall [0] rfl rfl) ?_
 refine letv (slices_ContainsFunc_Set l (fun x => equations_sets_1 x width)) fun rv3 hg4 => ?_
 have hc5 := fn239 l la0 lk0 240 [p2] (fun x => equations_sets_1 x width) [pv p2 [vi width]] ca240 (fun x hx a1 k1 hq0 => FT_pall (A1 := _) (fn240 x a1 k1 p2 width hq0 pre _ rfl)) rv3 hg4
 refine Oc [2, 0] ca239 hc5 ?_
 rintro - -
 refine Oq Vnot (Oq Va (KS ?_))
 have hq := q4 hrr (!rv3) (by simp only [equations_sets, hg4, cs4]); subst hq
 exact Kr () rfl (.tmp rfl .nil) [] trivial
theorem fn241 (s : List GTransfer) (sa0 : Option Addr) (sk0 : Nat) (fF : FuncId) (fC : List Value) (fp : GTransfer → Bool) (fA : List SP) (hfc : callable Tryz.prog fF = true) (hfF : ∀ x ∈ s, ∀ (a1 : Option Addr) (k1 : Nat) (a3 : Option Addr) (k3 : Nat) (a4 : Option Addr) (k4 : Nat), i64ok x.Gen.Width → i64ok x.Kill.Width → FT Tryz.prog fF ([(.agg #[vi x.Gen.Width, vl a1 k1 x.Gen.Words, vi x.Kill.Width, vl a3 k3 x.Kill.Words, vl a4 k4 x.Copies] : Value)] ++ fC).toArray ([S a1 k1 x.Gen.Words, S a3 k3 x.Kill.Words, S a4 k4 x.Copies] ++ [pAll fA]) (fun _ : Unit => True) (fun _ => .bool (fp x)) (fun _ => [])) (rr : Int) (hrr : slices_IndexFunc_Transfer s fp = rr) : FT Tryz.prog 241 #[vl sa0 sk0 s, .func (.func fF) #[] fC.toArray] [S sa0 sk0 s, pAll fA] (fun g : Unit => i64ok rr) (fun g => vi rr) (fun g => []) := by
 refine FTi Tryz.func241 fun w0 M0 F0 => Fb 88 0 fun _ => ?_
 refine KS ?_
 refine Oq Va (KS ?_)
 refine Oq Vm (Oq (Vlen sl24) (Oq Vm (KS ?_)))
 refine Kl (γ := Nat × Int) (fun (r2, v8_3) => ⟨[(0, vl sa0 sk0 s), (1, .func (.func fF) #[] fC.toArray), (7, vi (s.length : Int)), (8, vi v8_3)], [S sa0 sk0 s, pAll fA], slices_IndexFunc_Transfer_L0 s fp r2 v8_3 = slices_IndexFunc_Transfer_L0 s fp (((s.length : Int) - 0).toNat) 0 ∧ r2 = ((s.length : Int) - v8_3).toNat ∧ (0 : Int) ≤ v8_3 ∧ v8_3 ≤ (s.length : Int) ∧ (-9223372036854775808 ≤ v8_3 ∧ v8_3 ≤ 9223372036854775807), r2⟩) (((s.length : Int) - 0).toNat, 0) [0, 1] ⟨rfl, rfl, (by omega), (by omega), (by omega)⟩ ?_
 rintro ⟨r2, v8_3⟩ ⟨hM4, hr5, hi6, hi7, hk8⟩
 refine JJ_nx fun _ _ hL hA => ?_; dsimp only at hL hA; subst hL hA
 refine Fb 88 0 fun _ => KS ?_
 refine Oq Vlss (KS ?_)
 refine Kc ?_ ?_
 ·intro h10
  have g11 := dt h10
  obtain ⟨r12, rfl⟩ := scc (n := r2) (by omega)
  refine KS ?_
  refine Oq Vm (Oq Va (KS ?_))
  refine Oq Vm (Oq Vm (Oq Vm (Oq (Vi sl24 0) ?_)))
  refine JJ_peek_GTransfer v8_3.toNat 0 rfl rng fun a13 k14 a15 k16 a17 k18 hb19 hb20 => ?_
  unfold i64ok at hb19 hb20
  refine Fb 8 1 fun _ => Fb 8 2 fun _ => Fb 16 3 fun _ => Oq (VldA sh98 0) ?_
  refine JO_call [1, 2, 3, 5] rfl rfl rfl (OpC.clo («as» := [(.agg #[vi (((s.getD v8_3.toNat default).Gen).Width), vl a13 k14 (((s.getD v8_3.toNat default).Gen).Words), vi (((s.getD v8_3.toNat default).Kill).Width), vl a15 k16 (((s.getD v8_3.toNat default).Kill).Words), vl a17 k18 ((s.getD v8_3.toNat default).Copies)] : Value)] ++ fC) rfl rfl hfc rfl (by simp)) (hfF (s.getD v8_3.toNat default) (getD_mem rng) a13 k14 a15 k16 a17 k18 (by unfold i64ok; omega) (by unfold i64ok; omega)) rfl fun _ _ => ?_
  refine KS ?_
  refine Kc ?_ ?_
  ·intro h24
   refine KS ?_
   refine Oq Vm (Oq Va (KS ?_))
   have hR26 := q2 hM4 (.ret v8_3) (by simp only [slices_IndexFunc_Transfer_L0, h10, h24, cs4])
   have hq := q4 hrr v8_3 (by simp only [slices_IndexFunc_Transfer, h10, h24, hR26, cs4]); subst hq
   exact Kr () rfl (.tmp rfl .nil) [] en
  intro h24
  refine KS ?_
  refine Oq Vadd (Oq Vm (KS ?_))
  exact Kg (r12, (v8_3 + 1)) [4, 5] ⟨(q3 hM4 (by simp only [slices_IndexFunc_Transfer_L0, h10, h24, cs4])), (by omega), (by omega), (by omega), (by omega)⟩
 intro h10
 have g28 := df h10
 obtain rfl : r2 = 0 := by omega
 refine Ke ?_
 have hR29 := q2 hM4 (.brk ()) (by simp only [slices_IndexFunc_Transfer_L0, h10, cs4])
 refine KS ?_
 refine Oq Va (KS ?_)
 have hq := q4 hrr (-1) (by simp only [slices_IndexFunc_Transfer, h10, hR29, cs4]); subst hq
 exact Kr () rfl (.tmp rfl .nil) [] en
theorem fn188 (s : List GTransfer) (sa0 : Option Addr) (sk0 : Nat) (fF : FuncId) (fC : List Value) (fp : GTransfer → Bool) (fA : List SP) (hfc : callable Tryz.prog fF = true) (hfF : ∀ x ∈ s, ∀ (a1 : Option Addr) (k1 : Nat) (a3 : Option Addr) (k3 : Nat) (a4 : Option Addr) (k4 : Nat), i64ok x.Gen.Width → i64ok x.Kill.Width → FT Tryz.prog fF ([(.agg #[vi x.Gen.Width, vl a1 k1 x.Gen.Words, vi x.Kill.Width, vl a3 k3 x.Kill.Words, vl a4 k4 x.Copies] : Value)] ++ fC).toArray ([S a1 k1 x.Gen.Words, S a3 k3 x.Kill.Words, S a4 k4 x.Copies] ++ [pAll fA]) (fun _ : Unit => True) (fun _ => .bool (fp x)) (fun _ => [])) (rr : Bool) (hrr : slices_ContainsFunc_Transfer s fp = rr) : FT Tryz.prog 188 #[vl sa0 sk0 s, .func (.func fF) #[] fC.toArray] [S sa0 sk0 s, pAll fA] (fun g : Unit => True) (fun g => vb rr) (fun g => []) := by
 refine FTi Tryz.func188 fun w0 M0 F0 => Fb 88 0 fun _ => ?_
 refine KS ?_
 refine Oq Va (KS ?_)
 refine Oq Vm (Oq Vm ?_)
 refine letv (slices_IndexFunc_Transfer s fp) fun rv2 hg3 => ?_
 have hc4 := fn241 s sa0 sk0 fF fC fp fA hfc hfF rv2 hg3
 refine Oc [0, 1] ca241 hc4 ?_
 rintro - he5
 unfold i64ok at he5
 refine Oq Vgeq (Oq Va (KS ?_))
 have hq := q4 hrr (decide (0 ≤ rv2)) (by simp only [slices_ContainsFunc_Transfer, hg3, cs4]); subst hq
 exact Kr () rfl (.tmp rfl .nil) [] trivial
theorem fn157 (t : GTransfer) (ta1 : Option Addr) (tk1 : Nat) (ta3 : Option Addr) (tk3 : Nat) (ta4 : Option Addr) (tk4 : Nat) (b : Int) (ht_0 : i64ok t.Gen.Width) (ht_2 : i64ok t.Kill.Width) (hb_0 : i64ok b) (rr : Bool) (hrr : transfer_bit t b = rr) : FT Tryz.prog 157 #[.agg #[vi t.Gen.Width, vl ta1 tk1 t.Gen.Words, vi t.Kill.Width, vl ta3 tk3 t.Kill.Words, vl ta4 tk4 t.Copies], vi b] [S ta1 tk1 t.Gen.Words, S ta3 tk3 t.Kill.Words, S ta4 tk4 t.Copies] (fun g : Unit => True) (fun g => vb rr) (fun g => []) := by
 refine FTi Tryz.func157 fun w0 M0 F0 => ?_
 unfold i64ok at ht_0 ht_2 hb_0
 refine Fb 8 0 fun _ => Fb 8 1 fun _ => Fb 16 2 fun _ => KS ?_
 refine Oa (Ab [vi t.Gen.Width, vl ta1 tk1 t.Gen.Words, vi t.Kill.Width, vl ta3 tk3 t.Kill.Words, vl ta4 tk4 t.Copies]) fun p4 => Oq Va (KS ?_)
 refine Oq Vm (Oq Vgeq (Oq Vm ?_))
 refine Js 7 ?_ ?_
 ·intro h5
  have g6 := dt h5
  refine Oq Vm (Oq (Vfa fo98_0 0) (Oq (VfaF fo42_0 0) (Oq (VldF sh3 0) (Oq Vlss (Oq Vpt (Oq Va (KS ?_)))))))
  have hq := q4 hrr (decide (b < t.Gen.Width)) (by simp only [transfer_bit, h5, cs4]); subst hq
  exact Kr () rfl (.tmp rfl .nil) [] trivial
 intro h5
 have g7 := df h5
 refine Osk (Osk (Osk (Osk (Osk (Oq Vpf (Oq Va (KS ?_)))))))
 have hq := q4 hrr false (by simp only [transfer_bit, h5, cs4]); subst hq
 exact Kr () rfl (.tmp rfl .nil) [] trivial
theorem fn208 (x : Int) (hx_0 : i64ok x) (rr : Bool) (hrr : cmp_isNaN_int x = rr) : FT Tryz.prog 208 #[vi x] [] (fun g : Unit => True) (fun g => vb rr) (fun g => []) := by
 refine FTi Tryz.func208 fun w0 M0 F0 => ?_
 unfold i64ok at hx_0
 refine KS ?_
 refine Oq Va (KS ?_)
 refine Oq Vm (Oq Vm (Oq Vneq (Oq Va (KS ?_))))
 have hq := q4 hrr (x != x) (by simp only [cmp_isNaN_int, cs4]); subst hq
 exact Kr () rfl (.tmp rfl .nil) [] trivial
theorem fn148 (x : Int) (y : Int) (hx_0 : i64ok x) (hy_0 : i64ok y) (rr : Int) (hrr : cmp_Compare_int x y = rr) : FT Tryz.prog 148 #[vi x, vi y] [] (fun g : Unit => i64ok rr) (fun g => vi rr) (fun g => []) := by
 refine FTi Tryz.func148 fun w0 M0 F0 => ?_
 unfold i64ok at hx_0 hy_0
 refine KS ?_
 refine Oq Va (KS ?_)
 refine Oq Vm ?_
 refine letv (cmp_isNaN_int x) fun rv1 hg2 => ?_
 have hc3 := fn208 x pre rv1 hg2
 refine Oc [] ca208 hc3 ?_
 rintro - -
 refine Oq Va (KS ?_)
 refine Oq Vm ?_
 refine letv (cmp_isNaN_int y) fun rv4 hg5 => ?_
 have hc6 := fn208 y pre rv4 hg5
 refine Oc [] ca208 hc6 ?_
 rintro - -
 refine Oq Va (KS ?_)
 refine Oq Vm (KS ?_)
 refine Kc ?_ ?_
 ·intro h7
  refine KS ?_
  refine Oq Vm (KS ?_)
  refine Kc ?_ ?_
  ·intro h9
   refine KS ?_
   refine Oq Va (KS ?_)
   have hq := q4 hrr 0 (by simp only [cmp_Compare_int, h7, h9, hg2, hg5, cs4]); subst hq
   exact Kr () rfl (.tmp rfl .nil) [] en
  intro h9
  refine KS ?_
  refine Oq Va (KS ?_)
  have hq := q4 hrr (-1) (by simp only [cmp_Compare_int, h7, h9, hg2, hg5, cs4]); subst hq
  exact Kr () rfl (.tmp rfl .nil) [] en
 intro h7
 refine KS ?_
 refine Oq Vm (KS ?_)
 refine Kc ?_ ?_
 ·intro h13
  refine KS ?_
  refine Oq Va (KS ?_)
  have hq := q4 hrr 1 (by simp only [cmp_Compare_int, h7, h13, hg2, hg5, cs4]); subst hq
  exact Kr () rfl (.tmp rfl .nil) [] en
 intro h13
 refine KS ?_
 refine Oq Vm (Oq Vm (Oq Vlss (KS ?_)))
 refine Kc ?_ ?_
 ·intro h16
  have g17 := dt h16
  refine KS ?_
  refine Oq Va (KS ?_)
  have hq := q4 hrr (-1) (by simp only [cmp_Compare_int, h7, h13, h16, hg2, hg5, cs4]); subst hq
  exact Kr () rfl (.tmp rfl .nil) [] en
 intro h16
 have g18 := df h16
 refine KS ?_
 refine Oq Vm (Oq Vm (Oq Vgtr (KS ?_)))
 refine Kc ?_ ?_
 ·intro h19
  have g20 := dt h19
  refine KS ?_
  refine Oq Va (KS ?_)
  have hq := q4 hrr 1 (by simp only [cmp_Compare_int, h7, h13, h16, h19, hg2, hg5, cs4]); subst hq
  exact Kr () rfl (.tmp rfl .nil) [] en
 intro h19
 have g21 := df h19
 refine KS ?_
 refine Oq Va (KS ?_)
 have hq := q4 hrr 0 (by simp only [cmp_Compare_int, h7, h13, h16, h19, hg2, hg5, cs4]); subst hq
 exact Kr () rfl (.tmp rfl .nil) [] en
theorem fn259 (vals : List Int) (valsa0 : Option Addr) (valsk0 : Nat) (rr : Int) (hrr : cmp_Or_int vals = rr) : FT Tryz.prog 259 #[vl valsa0 valsk0 vals] [S valsa0 valsk0 vals] (fun g : Unit => i64ok rr) (fun g => vi rr) (fun g => []) := by
 refine FTi Tryz.func259 fun w0 M0 F0 => Fb 8 0 fun _ => Fo 0 fun ho2 => ?_
 refine KS ?_
 refine Oq Va (KS ?_)
 refine Oq Va (KS ?_)
 refine Oq Vm (Oq (Vlen sl22) (Oq Vm (KS ?_)))
 refine Kl (γ := Nat × Int) (fun (r3, v8_4) => ⟨[(3, vi 0), (6, vl valsa0 valsk0 vals), (7, vi (vals.length : Int)), (8, vi v8_4)], [S valsa0 valsk0 vals], cmp_Or_int_L0 vals r3 v8_4 = cmp_Or_int_L0 vals (((vals.length : Int) - 0).toNat) 0 ∧ r3 = ((vals.length : Int) - v8_4).toNat ∧ (0 : Int) ≤ v8_4 ∧ v8_4 ≤ (vals.length : Int) ∧ (-9223372036854775808 ≤ v8_4 ∧ v8_4 ≤ 9223372036854775807), r3⟩) (((vals.length : Int) - 0).toNat, 0) [0] ⟨rfl, rfl, (by omega), (by omega), (by omega)⟩ ?_
 rintro ⟨r3, v8_4⟩ ⟨hM5, hr6, hi7, hi8, hk9⟩
 refine JJ_nx fun _ _ hL hA => ?_; dsimp only at hL hA; subst hL hA
 refine Fb 8 0 fun _ => Fo 0 fun ho11 => KS ?_
 refine Oq Vlss (KS ?_)
 refine Kc ?_ ?_
 ·intro h12
  have g13 := dt h12
  obtain ⟨r14, rfl⟩ := scc (n := r3) (by omega)
  refine KS ?_
  refine Oq (Vi sl22 0) ?_
  have hb15 := ok1 (i := v8_4.toNat) ho11 rng
  refine Oq (VldI sh3 0) (Oq Va (KS ?_))
  refine Oq Vm (Oq Vm (Oq Vneq (KS ?_)))
  refine Kc ?_ ?_
  ·intro h16
   have g17 := ne_of_bne h16
   refine KS ?_
   refine Oq Vm (Oq Va (KS ?_))
   have hR18 := q2 hM5 (.ret (vals.getD v8_4.toNat 0)) (by simp only [cmp_Or_int_L0, h12, h16, cs4])
   have hq := q4 hrr (vals.getD v8_4.toNat 0) (by simp only [cmp_Or_int, h12, h16, hR18, cs4]); subst hq
   exact Kr () rfl (.tmp rfl .nil) [] en
  intro h16
  have g19 := eq_of_bne_false h16
  refine KS ?_
  refine Oq Vadd (Oq Vm (KS ?_))
  exact Kg (r14, (v8_4 + 1)) [0] ⟨(q3 hM5 (by simp only [cmp_Or_int_L0, h12, h16, cs4])), (by omega), (by omega), (by omega), (by omega)⟩
 intro h12
 have g20 := df h12
 obtain rfl : r3 = 0 := by omega
 refine Ke ?_
 have hR21 := q2 hM5 (.brk ()) (by simp only [cmp_Or_int_L0, h12, cs4])
 refine KS ?_
 refine Oq Vm (Oq Va (KS ?_))
 have hq := q4 hrr 0 (by simp only [cmp_Or_int, h12, hR21, cs4]); subst hq
 exact Kr () rfl (.tmp rfl .nil) [] en
end Go.SL.G
