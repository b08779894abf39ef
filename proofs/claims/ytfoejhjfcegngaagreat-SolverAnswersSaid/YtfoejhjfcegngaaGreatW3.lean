/- Part 3 of the walks: mirrors, plain laws and walks used by the last text of this claim. -/
import Derived.Test.YtfoejhjfcegngaaGreatW2
import Derived.Test.YtfoejhjfcegngaaGreatProg
set_option linter.unusedVariables false
set_option linter.unusedSimpArgs false
namespace Go.SL.G
open Go Go.SL Go.Proofs
set_option maxHeartbeats 20000000
set_option maxRecDepth 100000
theorem validDemand_scan (s : GSystem) (k : List GKnown) (st : GState) (r : Nat) (i : Int) : flqref14_validDemand_L0 s k st (r + 1) i = bif rdb s k st i then .ret false else flqref14_validDemand_L0 s k st r (i + 1) := by
  rw [flqref14_validDemand_L0]
  simp only [rfind_eq]
  unfold rdb dN cN
  all_goals (cases decide (i < st.At) <;> cases st.Leaf.getD i.toNat false <;> cases decide (0 ≤ kfind k (st.Cone.getD i.toNat 0) 0) <;> cases flqref14_expanded s st.Cone (st.Cone.getD i.toNat 0) ((s.Deps.getD (st.Cone.getD i.toNat 0).toNat []).length : Int) <;> rfl)
theorem validDemand_iff (s : GSystem) (k : List GKnown) (st : GState) : flqref14_validDemand s k st = true ↔ Dem s k st := by
  have sc := scan (fun r i => flqref14_validDemand_L0 s k st r i) (rdb s k st) false () (fun _ => rfl) (validDemand_scan s k st) ((((((st.Cone.length : Nat) : Int) : Int) - 0).toNat)) 0
  have full : ∀ i : Int, flqref14_expanded s st.Cone (cN st i) ((dN s st i).length : Int) = true ↔ ∀ y ∈ dN s st i, y ∈ st.Cone := fun i => by
    have := expanded_iff s st.Cone (cN st i) ((dN s st i).length : Int) (by omega) (by unfold dN; omega)
    rw [this]
    show (∀ y ∈ (dN s st i).take ((dN s st i).length : Int).toNat, y ∈ st.Cone) ↔ _
    rw [Int.toNat_natCast, List.take_length]
  have tk : ∀ i : Int, ((dN s st i).take st.Edge.toNat).drop 0 = (dN s st i).take st.Edge.toNat := fun i => List.drop_zero
  have bad : ∀ {i : Int}, 0 ≤ i → i < (st.Cone.length : Int) → rdb s k st i = true → Dem s k st → False := by
    intro i i0 i1 hb hd
    unfold rdb at hb
    have h1 := hd.lf i i0 i1
    rw [h1] at hb
    simp only [beq_self_eq_true, Bool.not_true, Bool.false_or, Bool.and_eq_true, Bool.not_eq_true', decide_eq_true_eq, decide_eq_false_iff_not] at hb
    have h2 := hd.cl i i0 i1
    have h3 : dl s st i = dN s st i := by
      unfold dl
      have e1 : (i == st.At) = false := by rw [beq_eq_false_iff_ne]; omega
      rw [e1, h1, decide_eq_false (by omega : ¬ st.At < i), decide_eq_false hb.1.2]
      simp
    rw [h3] at h2
    rw [(full i).2 h2] at hb
    cases hb.2
  unfold flqref14_validDemand
  simp only [rfind_eq]
  by_cases h1 : st.At < 0
  · simp only [decide_eq_true h1, cond_true]; exact ⟨fun h => (by cases h), fun h => by have := h.at_; omega⟩
  by_cases h2 : (st.Cone.length : Int) ≤ st.At
  · simp only [decide_eq_false h1, decide_eq_true h2, cond_true, cond_false]; exact ⟨fun h => (by cases h), fun h => by have := h.at_; omega⟩
  by_cases h3 : 0 < (st.Values.length : Int)
  · simp only [decide_eq_false h1, decide_eq_false h2, decide_eq_true h3, cond_true, cond_false]; exact ⟨fun h => (by cases h), fun h => by have := h.vl; omega⟩
  by_cases h4 : 0 < (st.Queue.length : Int)
  · simp only [decide_eq_false h1, decide_eq_false h2, decide_eq_false h3, decide_eq_true h4, cond_true, cond_false]; exact ⟨fun h => (by cases h), fun h => by have := h.ql; omega⟩
  simp only [decide_eq_false h1, decide_eq_false h2, decide_eq_false h3, decide_eq_false h4, cond_false]
  rcases sc with ⟨e, j, j1, j2, j3⟩ | ⟨e, hk⟩
  · rw [e]
    exact ⟨fun h => (by cases h), fun h => (bad j1 (by omega) j3 h).elim⟩
  · rw [e]
    have hA := hk st.At (by omega) (by omega)
    by_cases h5 : 0 ≤ st.Edge
    case neg => simp only [decide_eq_false h5, cond_false]; exact ⟨fun h => (by cases h), fun h => by have := h.ed; omega⟩
    by_cases h6 : st.Edge ≤ ((s.Deps.getD (st.Cone.getD st.At.toNat 0).toNat []).length : Int)
    case neg => simp only [decide_eq_true h5, decide_eq_false h6, cond_true, cond_false]; exact ⟨fun h => (by cases h), fun h => by have := h.ed; unfold dN cN at this; omega⟩
    simp only [decide_eq_true h5, decide_eq_true h6, cond_true]
    have ex := expanded_iff s st.Cone (cN st st.At) st.Edge h5 h6
    have fin : (0 < st.Edge → kfind k (cN st st.At) 0 < 0) → (flqref14_expanded s st.Cone (cN st st.At) st.Edge = true ↔ Dem s k st) := fun hek => by
      rw [ex]
      constructor
      · intro hx
        have lf : ∀ i : Int, 0 ≤ i → i < (st.Cone.length : Int) → st.Leaf.getD i.toNat false = (decide (i < st.At) && decide (0 ≤ kfind k (cN st i) 0)) := fun i i0 i1 => by
          have := hk i i0 (by omega)
          unfold rdb at this
          rw [Bool.or_eq_false_iff] at this
          simpa using this.1
        refine ⟨by omega, by omega, by omega, ⟨h5, h6⟩, hek, lf, fun i i0 i1 => ?_⟩
        unfold dl
        by_cases e1 : i = st.At
        · subst e1
          simp only [beq_self_eq_true, cond_true]
          rw [tk]; exact hx
        · have e1' : (i == st.At) = false := by rw [beq_eq_false_iff_ne]; exact e1
          rw [e1']
          by_cases e2 : st.At < i
          · rw [decide_eq_true e2]; intro y hy; simp at hy
          · rw [decide_eq_false e2, lf i i0 i1, decide_eq_true (by omega : i < st.At)]
            by_cases e3 : 0 ≤ kfind k (cN st i) 0
            · rw [decide_eq_true e3]; intro y hy; simp at hy
            · rw [decide_eq_false e3]
              have := hk i i0 (by omega)
              unfold rdb at this
              rw [Bool.or_eq_false_iff, decide_eq_true (by omega : i < st.At), decide_eq_false e3] at this
              simp only [Bool.not_false, Bool.and_true, Bool.true_and, Bool.not_eq_false'] at this
              exact (full i).1 this.2
      · intro hd
        have := hd.cl st.At (by omega) (by omega)
        unfold dl at this
        simp only [beq_self_eq_true, cond_true] at this
        rw [tk] at this; exact this
    by_cases h7 : st.Edge = 0
    · have : (st.Edge == 0) = true := by rw [h7]; rfl
      simp only [this, cond_true]
      exact fin (fun h => by omega)
    · have : (st.Edge == 0) = false := by rw [beq_eq_false_iff_ne]; exact h7
      simp only [this, cond_false]
      by_cases h8 : kfind k (st.Cone.getD st.At.toNat 0) 0 < 0
      · simp only [decide_eq_true h8, cond_true]; exact fin (fun _ => h8)
      · simp only [decide_eq_false h8, cond_false]; exact ⟨fun h => (by cases h), fun h => by have := h.ek (by omega); unfold cN at this; omega⟩
theorem solving_brk (s : GSystem) (k : List GKnown) (st : GState) (hl : st.Leaf.length = st.Cone.length) (hr : ∀ x ∈ st.Cone, 0 ≤ x ∧ x < (s.Deps.length : Int)) : ∀ (m : Nat) (l : List Int) (i : Int) (o : List Int), 0 ≤ i → i + m = (st.Cone.length : Int) → (∀ x ∈ l, 0 ≤ x ∧ x < (s.Deps.length : Int)) → flqref14_validSolve_L0 s k st m l i = .brk o → ∀ x ∈ o, 0 ≤ x ∧ x < (s.Deps.length : Int)
  | 0, l, i, o, h0, h1, h2, h => by cases h; exact h2
  | m + 1, l, i, o, h0, h1, h2, h => by
    rw [flqref14_validSolve_L0] at h
    have hp : ∀ x ∈ l ++ [st.Cone.getD i.toNat 0], 0 ≤ x ∧ x < (s.Deps.length : Int) := fun x hx => by
      rcases List.mem_append.1 hx with hx | hx
      · exact h2 x hx
      · simp at hx; subst hx; exact hr _ (by simpa using getD_mem (xs := st.Cone) (i := i.toNat) (d := 0) (by omega))
    simp only [Bool.cond_eq_ite] at h
    repeat' split at h
    all_goals first | (cases h; done) | exact solving_brk s k st hl hr m _ (i + 1) o (by omega) (by omega) hp h | exact solving_brk s k st hl hr m _ (i + 1) o (by omega) (by omega) h2 h
theorem queue_L1 (st : GState) : ∀ (m : Nat) (i : Int), 0 ≤ i → i + m = (st.Queue.length : Int) → (flqref14_validSolve_L1 st m i = .brk () ∧ ∀ j : Int, i ≤ j → j < (st.Queue.length : Int) → 0 ≤ st.Queue.getD j.toNat 0 ∧ st.Queue.getD j.toNat 0 < (st.Cone.length : Int)) ∨ (flqref14_validSolve_L1 st m i = .ret false ∧ ¬ ∀ j : Int, i ≤ j → j < (st.Queue.length : Int) → 0 ≤ st.Queue.getD j.toNat 0 ∧ st.Queue.getD j.toNat 0 < (st.Cone.length : Int))
  | 0, i, h0, h1 => .inl ⟨rfl, fun j a b => by omega⟩
  | m + 1, i, h0, h1 => by
    rw [flqref14_validSolve_L1]
    by_cases a : st.Queue.getD i.toNat 0 < 0
    · rw [decide_eq_true a]
      exact .inr ⟨rfl, fun h => by have := h i (by omega) (by omega); omega⟩
    · by_cases b : (st.Cone.length : Int) ≤ st.Queue.getD i.toNat 0
      · rw [decide_eq_false a, decide_eq_true b]
        exact .inr ⟨rfl, fun h => by have := h i (by omega) (by omega); omega⟩
      · rw [decide_eq_false a, decide_eq_false b]
        simp only [cond_false]
        rcases queue_L1 st m (i + 1) (by omega) (by omega) with ⟨e, h⟩ | ⟨e, h⟩
        · refine .inl ⟨e, fun j j0 j1 => ?_⟩
          rcases Int.lt_or_eq_of_le j0 with h' | rfl
          · exact h j (by omega) j1
          · omega
        · exact .inr ⟨e, fun h' => h fun j j0 j1 => h' j (by omega) j1⟩
theorem solving_ret (s : GSystem) (k : List GKnown) (st : GState) : ∀ (m : Nat) (l : List Int) (i : Int) (r : Bool), flqref14_validSolve_L0 s k st m l i = .ret r → r = false
  | 0, l, i, r, h => by cases h
  | m + 1, l, i, r, h => by
    rw [flqref14_validSolve_L0] at h
    simp only [Bool.cond_eq_ite] at h
    repeat' split at h
    all_goals first | (cases h; rfl) | exact solving_ret s k st m _ _ r h
theorem validSolve_L0_spec {s : GSystem} {k : List GKnown} {st : GState} : ∀ (m : Nat) (l : List Int) (i : Int), 0 ≤ i → i + m = (st.Cone.length : Int) →
    (flqref14_validSolve_L0 s k st m l i = .ret false ∧ ¬ ∀ j : Int, i ≤ j → j < (st.Cone.length : Int) → st.Leaf.getD j.toNat false = decide (0 ≤ kfind k (cN st j) 0) ∧ VSt s.Width (st.Values.getD j.toNat default)) ∨
    (∃ o, flqref14_validSolve_L0 s k st m l i = .brk o ∧ (∀ j : Int, i ≤ j → j < (st.Cone.length : Int) → st.Leaf.getD j.toNat false = decide (0 ≤ kfind k (cN st j) 0) ∧ VSt s.Width (st.Values.getD j.toNat default)) ∧ ∀ x, x ∈ o ↔ x ∈ l ∨ ∃ j : Int, i ≤ j ∧ j < (st.Cone.length : Int) ∧ st.Leaf.getD j.toNat false = true ∧ cN st j = x)
  | 0, l, i, h0, h1 => .inr ⟨l, rfl, fun j a b => by omega, fun x => by
      constructor
      · intro h; exact .inl h
      · rintro (h | ⟨j, a, b, _⟩)
        · exact h
        · omega⟩
  | m + 1, l, i, h0, h1 => by
    rw [flqref14_validSolve_L0]
    simp only [rfind_eq]
    by_cases a : st.Leaf.getD i.toNat false = decide (0 ≤ kfind k (st.Cone.getD i.toNat 0) 0)
    case neg =>
      left
      have e : (st.Leaf.getD i.toNat false == decide (0 ≤ kfind k (st.Cone.getD i.toNat 0) 0)) = false := by rw [beq_eq_false_iff_ne]; exact a
      refine ⟨by simp only [e, Bool.not_false, cond_true], fun h => a ((h i (by omega) (by omega)).1)⟩
    have e : (st.Leaf.getD i.toNat false == decide (0 ≤ kfind k (st.Cone.getD i.toNat 0) 0)) = true := by rw [a]; simp
    simp only [e, Bool.not_true, cond_false]
    cases b : flqref1_Valid (st.Values.getD i.toNat default) with
    | false => exact .inl ⟨rfl, fun h => by rw [VSt_valid (h i (by omega) (by omega)).2] at b; cases b⟩
    | true =>
      simp only [Bool.not_true, cond_false]
      by_cases c : (st.Values.getD i.toNat default).Width = s.Width
      case neg =>
        have e : ((st.Values.getD i.toNat default).Width != s.Width) = true := bne_iff_ne.2 c
        exact .inl ⟨by simp only [e, cond_true], fun h => c (h i (by omega) (by omega)).2.2⟩
      have e : ((st.Values.getD i.toNat default).Width != s.Width) = false := by rw [c]; simp
      simp only [e, cond_false]
      have here : st.Leaf.getD i.toNat false = decide (0 ≤ kfind k (cN st i) 0) ∧ VSt s.Width (st.Values.getD i.toNat default) := ⟨a, (RValid_iff _).1 b, c⟩
      have step : ∀ l', (flqref14_validSolve_L0 s k st m l' (i + 1) = .ret false ∧ ¬ ∀ j : Int, i ≤ j → j < (st.Cone.length : Int) → st.Leaf.getD j.toNat false = decide (0 ≤ kfind k (cN st j) 0) ∧ VSt s.Width (st.Values.getD j.toNat default)) ∨
          (∃ o, flqref14_validSolve_L0 s k st m l' (i + 1) = .brk o ∧ (∀ j : Int, i ≤ j → j < (st.Cone.length : Int) → st.Leaf.getD j.toNat false = decide (0 ≤ kfind k (cN st j) 0) ∧ VSt s.Width (st.Values.getD j.toNat default)) ∧ ∀ x, x ∈ o ↔ x ∈ l' ∨ ∃ j : Int, i + 1 ≤ j ∧ j < (st.Cone.length : Int) ∧ st.Leaf.getD j.toNat false = true ∧ cN st j = x) := by
        intro l'
        rcases validSolve_L0_spec (s := s) (k := k) (st := st) m l' (i + 1) (by omega) (by omega) with ⟨e, h⟩ | ⟨o, e, h, h'⟩
        · exact .inl ⟨e, fun hh => h fun j a b => hh j (by omega) b⟩
        · refine .inr ⟨o, e, fun j j1 j2 => ?_, h'⟩
          by_cases ej : j = i
          · subst ej; exact here
          · exact h j (by omega) j2
      cases hl : st.Leaf.getD i.toNat false with
      | true =>
        simp only [cond_true]
        rcases step (l ++ [st.Cone.getD i.toNat 0]) with h | ⟨o, e, h, h'⟩
        · exact .inl h
        · refine .inr ⟨o, e, h, fun x => (h' x).trans ?_⟩
          simp only [List.mem_append, List.mem_singleton]
          constructor
          · rintro ((h | h) | ⟨j, j1, j2, j3⟩)
            · exact .inl h
            · exact .inr ⟨i, by omega, by omega, hl, h.symm⟩
            · exact .inr ⟨j, by omega, j2, j3⟩
          · rintro (h | ⟨j, j1, j2, j3, j4⟩)
            · exact .inl (.inl h)
            · by_cases ej : j = i
              · subst ej; exact .inl (.inr j4.symm)
              · exact .inr ⟨j, by omega, j2, j3, j4⟩
      | false =>
        simp only [cond_false]
        rcases step l with h | ⟨o, e, h, h'⟩
        · exact .inl h
        · refine .inr ⟨o, e, h, fun x => (h' x).trans ?_⟩
          constructor
          · rintro (h | ⟨j, j1, j2, j3⟩)
            · exact .inl h
            · exact .inr ⟨j, by omega, j2, j3⟩
          · rintro (h | ⟨j, j1, j2, j3, j4⟩)
            · exact .inl h
            · by_cases ej : j = i
              · subst ej; rw [hl] at j3; cases j3
              · exact .inr ⟨j, by omega, j2, j3, j4⟩
theorem validSolve_iff (s : GSystem) (k : List GKnown) (st : GState) : flqref14_validSolve s k st = true ↔ Sol s k st := by
  have hq := queue_L1 st st.Queue.length 0 (by omega) (by omega)
  rw [queue_range] at hq
  have h0 := validSolve_L0_spec (s := s) (k := k) (st := st) st.Cone.length [] 0 (by omega) (by omega)
  unfold flqref14_validSolve
  simp only [show (((((st.Cone.length : Nat) : Int) : Int) - 0).toNat) = st.Cone.length by omega, show (((((st.Queue.length : Nat) : Int) : Int) - 0).toNat) = st.Queue.length by omega]
  by_cases a : st.At = 0
  case neg =>
    have e : (st.At != 0) = true := by simp [a]
    simp only [e, cond_true]; exact ⟨fun h => (by cases h), fun h => absurd h.a0 a⟩
  by_cases b : st.Edge = 0
  case neg =>
    have e : (st.Edge != 0) = true := by simp [b]
    simp only [a, e, bne_self_eq_false, cond_true, cond_false]; exact ⟨fun h => (by cases h), fun h => absurd h.e0 b⟩
  by_cases c : st.Values.length = st.Cone.length
  case neg =>
    have e : (((st.Values.length : Nat) : Int) != ((st.Cone.length : Nat) : Int)) = true := by simp; omega
    simp only [a, b, e, bne_self_eq_false, cond_true, cond_false]; exact ⟨fun h => (by cases h), fun h => absurd h.vl c⟩
  have ec : (((st.Values.length : Nat) : Int) != ((st.Cone.length : Nat) : Int)) = false := by simp [c]
  by_cases d : st.Queue = [] ↔ st.Phase = 3
  case neg =>
    have e : ((((st.Queue.length : Nat) : Int) == 0) == (st.Phase == 3)) = false := by
      rw [beq_eq_false_iff_ne]
      intro h
      apply d
      rw [Bool.eq_iff_iff] at h
      simpa [List.length_eq_zero_iff] using h
    simp only [a, b, ec, e, bne_self_eq_false, cond_true, cond_false, Bool.not_false]; exact ⟨fun h => (by cases h), fun h => absurd h.q3 d⟩
  have ed : ((((st.Queue.length : Nat) : Int) == 0) == (st.Phase == 3)) = true := by
    rw [beq_iff_eq, Bool.eq_iff_iff]
    simpa [List.length_eq_zero_iff] using d
  simp only [a, b, ec, ed, bne_self_eq_false, cond_false, Bool.not_true]
  cases hr : flqref14_repeated st.Queue with
  | true => exact ⟨fun h => (by cases h), fun h => by rw [(repeated_iff _).2 h.qo.1] at hr; cases hr⟩
  | false =>
    have nd := (repeated_iff _).1 hr
    simp only [cond_false]
    have vals : (∀ j : Int, 0 ≤ j → j < (st.Cone.length : Int) → VSt s.Width (st.Values.getD j.toNat default)) ↔ ∀ g ∈ st.Values, VSt s.Width g := by
      constructor
      · intro h g hg
        obtain ⟨j, j0, j1, rfl⟩ := (mem_getDg (d := default)).1 hg
        exact h j j0 (by omega)
      · intro h j j0 j1
        exact h _ (getD_mem (by omega))
    rcases h0 with ⟨e, h⟩ | ⟨o, e, h, ho⟩
    · rw [e]
      exact ⟨fun h => (by cases h), fun hs => absurd (fun j j0 j1 => ⟨hs.lf j j0 j1, vals.2 hs.vv j j0 j1⟩) h⟩
    · rw [e]
      rcases hq with ⟨e2, h2⟩ | ⟨e2, h2⟩
      · simp only [e2]
        rw [closed_iff]
        have key : ∀ x ∈ st.Cone, (x ∉ o ↔ kfind k x 0 < 0) := by
          intro x hx
          obtain ⟨j, j0, j1, rfl⟩ := mem_getD.1 hx
          have hj := (h j j0 j1).1
          rw [ho]
          constructor
          · intro hn
            rcases Int.lt_or_le (kfind k (st.Cone.getD j.toNat 0) 0) 0 with h' | h'
            · exact h'
            · exact absurd (.inr ⟨j, j0, j1, by rw [hj]; exact decide_eq_true h', rfl⟩) hn
          · rintro hn (hc | ⟨i, i0, i1, i2, i3⟩)
            · cases hc
            · have hi := (h i i0 i1).1
              rw [hi, decide_eq_true_eq, i3] at i2; omega
        constructor
        · intro hc
          exact ⟨a, b, c, d, ⟨nd, h2⟩, fun i i0 i1 => (h i i0 i1).1, vals.1 fun j j0 j1 => (h j j0 j1).2, fun x hx hk => hc x hx ((key x hx).2 hk)⟩
        · intro hs x hx hn
          exact hs.cl x hx ((key x hx).1 hn)
      · simp only [e2]
        exact ⟨fun h => (by cases h), fun hs => absurd hs.qo.2 h2⟩

structure VStt (s : GSystem) (k : List GKnown) (st : GState) : Prop where
  v : VSys s
  kn : flqref14_ValidKnown s k = true
  cn : 1 ≤ st.Cone.length
  co : okOut (s.Deps.length : Int) st.Cone
  lf : st.Leaf.length = st.Cone.length
  sp : 0 ≤ st.Steps ∧ st.Steps ≤ 1073741824
  ph : (st.Phase = 1 ∧ Dem s k st) ∨ ((st.Phase = 2 ∨ st.Phase = 3) ∧ flqref14_validSolve s k st = true)
theorem dstep_V {s : GSystem} {k : List GKnown} {st : GState} (h : VStt s k st) (hp : st.Phase = 1) (hd : Dem s k st) {n : Int} (hn : 0 ≤ n ∧ n ≤ 1073741824) : VStt s k (setSteps (dstep s k st) n) := by
  have ha := hd.at_
  have hl := h.lf
  have hed := hd.ed
  have ll : (dlf k st).length = st.Cone.length := by rw [dlf_len]; exact hl
  have lfs := fun (i : Int) (i0 : 0 ≤ i) (i1 : i < (st.Cone.length : Int)) => dlf_spec (s := s) hl hd i0 i1
  have hca := h.co.2 _ (getD_mem (xs := st.Cone) (i := st.At.toNat) (d := 0) (by omega))
  unfold dstep
  split
  · rename_i hc
    have hk : kfind k (cN st st.At) 0 < 0 := by
      have := lfs st.At ha.1 ha.2
      rw [hc.1, decide_eq_true (Int.le_refl _)] at this
      have := this.symm
      simp at this; omega
    have hlf : dlf k st = st.Leaf := by unfold dlf; rw [if_neg (fun h => by omega)]
    have hm : (dN s st st.At).getD st.Edge.toNat 0 ∈ dN s st st.At := getD_mem (by omega)
    have hdr := h.v.dep_mem hca.1 hca.2 _ hm
    have old : ∀ i : Int, 0 ≤ i → i < (st.Cone.length : Int) → i ≠ st.At → ∀ y ∈ (bif decide (st.At < i) then [] else bif st.Leaf.getD i.toNat false then [] else dN s st i), y ∈ st.Cone := by
      intro i i0 i1 ie
      have := hd.cl i i0 i1
      unfold dl at this
      rw [bneI ie] at this; exact this
    have oldA : ∀ y ∈ (dN s st st.At).take st.Edge.toNat, y ∈ st.Cone := by
      have := hd.cl st.At ha.1 ha.2
      unfold dl at this
      simpa using this
    have tk : (dN s st st.At).take (st.Edge + 1).toNat = (dN s st st.At).take st.Edge.toNat ++ [(dN s st st.At).getD st.Edge.toNat 0] := take_succ_getD hed.1 hc.2
    split
    · rename_i hm2
      change VStt s k ⟨st.Phase, st.Cone, dlf k st, st.At, st.Edge + 1, st.Values, st.Queue, n⟩
      refine ⟨h.v, h.kn, h.cn, h.co, ll, hn, .inl ⟨hp, ⟨ha, hd.vl, hd.ql, ⟨by show 0 ≤ st.Edge + 1; omega, by show st.Edge + 1 ≤ ((dN s st st.At).length : Int); omega⟩, fun _ => hk, ?_, ?_⟩⟩⟩
      · intro i i0 i1
        show (dlf k st).getD i.toNat false = _
        rw [hlf]; exact hd.lf i i0 i1
      · intro i i0 i1
        show ∀ y ∈ dl s ⟨st.Phase, st.Cone, dlf k st, st.At, st.Edge + 1, st.Values, st.Queue, n⟩ i, y ∈ st.Cone
        rw [hlf]
        unfold dl
        by_cases ie : i = st.At
        · subst ie
          simp only [beq_self_eq_true, cond_true, List.drop_zero]
          show ∀ y ∈ (dN s st st.At).take (st.Edge + 1).toNat, y ∈ st.Cone
          rw [tk]
          intro y hy
          rcases List.mem_append.1 hy with hy | hy
          · exact oldA y hy
          · rw [List.mem_singleton] at hy; rw [hy]; exact hm2
        · simp only [bneI ie, cond_false]
          exact old i i0 i1 ie
    · rename_i hm2
      let d := (dN s st st.At).getD st.Edge.toNat 0
      have hcN : ∀ i : Int, 0 ≤ i → i < (st.Cone.length : Int) → cN ⟨st.Phase, st.Cone ++ [d], dlf k st ++ [false], st.At, st.Edge + 1, st.Values, st.Queue, n⟩ i = cN st i := fun i i0 i1 => getD_app_left (by omega)
      have hdN : ∀ i : Int, 0 ≤ i → i < (st.Cone.length : Int) → dN s ⟨st.Phase, st.Cone ++ [d], dlf k st ++ [false], st.At, st.Edge + 1, st.Values, st.Queue, n⟩ i = dN s st i := fun i i0 i1 => by
        unfold dN; rw [hcN i i0 i1]
      change VStt s k ⟨st.Phase, st.Cone ++ [d], dlf k st ++ [false], st.At, st.Edge + 1, st.Values, st.Queue, n⟩
      refine ⟨h.v, h.kn, by show 1 ≤ (st.Cone ++ [d]).length; simp, okOut_push h.co (by rw [Has_dec]; exact decide_eq_false hm2) hdr.1 hdr.2, by show (dlf k st ++ [false]).length = (st.Cone ++ [d]).length; simp [ll], hn, .inl ⟨hp, ⟨⟨ha.1, by show st.At < ((st.Cone ++ [d]).length : Int); simp; omega⟩, hd.vl, hd.ql, ?_, fun _ => by show kfind k (cN _ st.At) 0 < 0; rw [hcN _ ha.1 ha.2]; exact hk, ?_, ?_⟩⟩⟩
      · show 0 ≤ st.Edge + 1 ∧ st.Edge + 1 ≤ ((dN s _ st.At).length : Int)
        rw [hdN _ ha.1 ha.2]; omega
      · intro i i0 i1
        have i1 : i < ((st.Cone ++ [d]).length : Int) := i1
        simp at i1
        show (dlf k st ++ [false]).getD i.toNat false = (decide (i < st.At) && decide (0 ≤ kfind k (cN _ i) 0))
        by_cases ie : i < (st.Cone.length : Int)
        · rw [getD_app_left (by omega), hcN i i0 ie, hlf]; exact hd.lf i i0 ie
        · rw [decide_eq_false (show ¬ i < st.At by omega), List.getD_eq_getElem?_getD, List.getElem?_append_right (by omega)]
          rw [show i.toNat - (dlf k st).length = 0 by omega]; rfl
      · intro i i0 i1
        have i1 : i < ((st.Cone ++ [d]).length : Int) := i1
        simp at i1
        show ∀ y ∈ dl s ⟨st.Phase, st.Cone ++ [d], dlf k st ++ [false], st.At, st.Edge + 1, st.Values, st.Queue, n⟩ i, y ∈ st.Cone ++ [d]
        unfold dl
        by_cases ie : i = st.At
        · subst ie
          simp only [beq_self_eq_true, cond_true, List.drop_zero]
          rw [hdN _ ha.1 ha.2]
          show ∀ y ∈ (dN s st st.At).take (st.Edge + 1).toNat, y ∈ st.Cone ++ [d]
          rw [tk]
          intro y hy
          rcases List.mem_append.1 hy with hy | hy
          · exact List.mem_append_left _ (oldA y hy)
          · exact List.mem_append_right _ hy
        · simp only [bneI ie, cond_false]
          by_cases il : i < (st.Cone.length : Int)
          · have := old i i0 il ie
            rw [getD_app_left (by omega), hdN i i0 il, hlf]
            exact fun y hy => List.mem_append_left _ (this y hy)
          · rw [decide_eq_true (show st.At < i by omega)]
            intro y hy; simp at hy
  · rename_i hc
    have part := dl_part hd hl hc
    unfold dnext
    split
    · rename_i hA
      change VStt s k ⟨st.Phase, st.Cone, dlf k st, st.At + 1, 0, st.Values, st.Queue, n⟩
      refine ⟨h.v, h.kn, h.cn, h.co, ll, hn, .inl ⟨hp, ⟨⟨by show 0 ≤ st.At + 1; omega, hA⟩, hd.vl, hd.ql, ⟨Int.le_refl _, Int.natCast_nonneg _⟩, fun h => by exact absurd h (Int.lt_irrefl _), ?_, ?_⟩⟩⟩
      · intro i i0 i1
        refine (lfs i i0 i1).trans ?_
        show _ = (decide (i < st.At + 1) && _)
        congr 1
        rw [Bool.eq_iff_iff]; simp; omega
      · intro i i0 i1
        show ∀ y ∈ dl s ⟨st.Phase, st.Cone, dlf k st, st.At + 1, 0, st.Values, st.Queue, n⟩ i, y ∈ st.Cone
        unfold dl
        by_cases ie : i = st.At + 1
        · subst ie
          simp only [beq_self_eq_true, cond_true, List.drop_zero]
          intro y hy; simp at hy
        · simp only [bneI ie, cond_false]
          by_cases il : st.At + 1 < i
          · rw [decide_eq_true il]; intro y hy; simp at hy
          · rw [decide_eq_false il]
            simp only [cond_false]
            rw [lfs i i0 i1]
            cases hq : (decide (i ≤ st.At) && decide (0 ≤ kfind k (cN st i) 0)) with
            | true => intro y hy; simp at hy
            | false =>
              rw [decide_eq_true (show i ≤ st.At by omega)] at hq
              simp at hq
              exact part i i0 (by omega) (by omega)
    · rename_i hA
      have full : st.At + 1 = (st.Cone.length : Int) := by omega
      have lf2 : ∀ i : Int, 0 ≤ i → i < (st.Cone.length : Int) → (dlf k st).getD i.toNat false = decide (0 ≤ kfind k (cN st i) 0) := fun i i0 i1 => by
        rw [lfs i i0 i1, decide_eq_true (show i ≤ st.At by omega)]; rfl
      have iv := initV_V h.v h.kn (cone := st.Cone) (lf := dlf k st) h.co.2 (fun i hi hh => by
        have := lf2 i (by omega) (by omega)
        rw [Int.toNat_natCast] at this
        rw [this, decide_eq_true_eq] at hh
        exact hh)
      change VStt s k ⟨2, st.Cone, dlf k st, 0, 0, initV s k st.Cone (dlf k st), initQ st.Cone.length, n⟩
      refine ⟨h.v, h.kn, h.cn, h.co, ll, hn, .inr ⟨.inl rfl, (validSolve_iff _ _ _).2 ⟨rfl, rfl, iv.1, ?_, initQ_ok, lf2, iv.2, ?_⟩⟩⟩
      · constructor
        · intro hq
          have : (initQ st.Cone.length).length = 0 := by
            have hq : initQ st.Cone.length = [] := hq
            rw [hq]; rfl
          unfold initQ at this
          simp at this
          have := h.cn
          simp_all
        · intro hq
          have hq : (2 : Int) = 3 := hq
          omega
      · intro x hx hk
        have hx : x ∈ st.Cone := hx
        obtain ⟨i, i0, i1, rfl⟩ := mem_getD.1 hx
        exact part i i0 (by omega) hk

theorem pstep_V {s : GSystem} {k : List GKnown} {st : GState} (h : VStt s k st) (hp : st.Phase = 2) (hs : Sol s k st) {n : Int} (hn : 0 ≤ n ∧ n ≤ 1073741824) : VStt s k (setSteps (pstep s st) n) := by
  obtain ⟨q1, q2, q3⟩ := Sol_q hs (by omega)
  have hpl := pl_PL h.v h.co.2 ⟨q2, q3⟩ (depl s st.Cone st.Leaf (st.Queue.getD 0 0)) st.Values (st.Queue.drop 1) (fun x hx => (mem_depl.1 hx).1) ⟨hs.vl, hs.vv, ⟨hs.qo.1.sublist (List.drop_sublist 1 st.Queue), fun x hx => hs.qo.2 x (List.mem_of_mem_drop hx)⟩⟩
  unfold pstep
  simp only
  generalize pl s st.Cone (st.Queue.getD 0 0) (depl s st.Cone st.Leaf (st.Queue.getD 0 0)) st.Values (st.Queue.drop 1) = r at hpl
  obtain ⟨r1, r2⟩ := r
  change VStt s k ⟨if r2 = [] then 3 else st.Phase, st.Cone, st.Leaf, st.At, st.Edge, r1, r2, n⟩
  refine ⟨h.v, h.kn, h.cn, h.co, h.lf, hn, .inr ⟨?_, (validSolve_iff _ _ _).2 ⟨hs.a0, hs.e0, hpl.vl, ?_, hpl.qo, hs.lf, hpl.vv, hs.cl⟩⟩⟩
  · show (if r2 = [] then 3 else st.Phase) = 2 ∨ (if r2 = [] then 3 else st.Phase) = 3
    split
    · exact .inr rfl
    · exact .inl hp
  · show r2 = [] ↔ (if r2 = [] then 3 else st.Phase) = 3
    split
    · rename_i h; simp [h]
    · rename_i h; simp only [h, false_iff]; omega
theorem VStt_ph {s : GSystem} {k : List GKnown} {st : GState} (h : VStt s k st) : (st.Phase = 1 ∧ Dem s k st) ∨ (st.Phase = 2 ∧ Sol s k st) ∨ (st.Phase = 3 ∧ Sol s k st) := by
  rcases h.ph with h | ⟨a | a, b⟩
  · exact .inl h
  · exact .inr (.inl ⟨a, (validSolve_iff _ _ _).1 b⟩)
  · exact .inr (.inr ⟨a, (validSolve_iff _ _ _).1 b⟩)
theorem sstep_V {s : GSystem} {k : List GKnown} {st : GState} (h : VStt s k st) (hp : st.Phase ≠ 3) : VStt s k (sstep s k st) := by
  have hn : 0 ≤ min (st.Steps + 1) 1073741824 ∧ min (st.Steps + 1) 1073741824 ≤ 1073741824 := by have := h.sp; omega
  unfold sstep
  rcases VStt_ph h with ⟨a, b⟩ | ⟨a, b⟩ | ⟨a, b⟩
  · rw [if_pos a]; exact dstep_V h a b hn
  · rw [if_neg (by omega)]; exact pstep_V h a b hn
  · exact absurd a hp
theorem VStt_D {s : GSystem} {k : List GKnown} {st : GState} (h : VStt s k st) (hd : Dem s k st) : DOk s k st := by
  have hco := okOut_len h.co (by omega)
  have hn := h.v.n
  have ha := hd.at_
  have hed := hd.ed
  have hr := h.co.2 _ (getD_mem (xs := st.Cone) (i := st.At.toNat) (d := 0) (by omega))
  have hdl := h.v.dep_len _ hr.1 hr.2
  refine ⟨⟨h.lf, by omega, h.co.2, hd.vl, hd.ql, fun i hi hl => ?_⟩, ha, hed.1, ?_⟩
  · have := hd.lf (i : Int) (by omega) (by omega)
    rw [Int.toNat_natCast, hl] at this
    have := this.symm
    simp only [Bool.and_eq_true, decide_eq_true_eq] at this
    exact this.2
  · unfold dN cN at hed; omega
theorem VStt_P {s : GSystem} {k : List GKnown} {st : GState} (h : VStt s k st) (hp : st.Phase = 2) (hs : Sol s k st) : POk s st := by
  have hco := okOut_len h.co (by omega)
  have hq := okOut_len hs.qo (by omega)
  have hn := h.v.n
  exact ⟨h.lf, by omega, h.co.2, hs.vl, (Sol_q hs (by omega)).1, hs.qo.2, by omega⟩
theorem VStt_facts {s : GSystem} {k : List GKnown} {st : GState} (h : VStt s k st) : VSys s ∧ (st.Phase = 1 → DOk s k st) ∧ (st.Phase = 2 → POk s st) ∧ (st.Phase = 1 ∨ st.Phase = 2 ∨ st.Phase = 3) := by
  refine ⟨h.v, ?_⟩
  rcases VStt_ph h with ⟨a, b⟩ | ⟨a, b⟩ | ⟨a, b⟩
  · exact ⟨fun _ => VStt_D h b, fun e => by omega, .inl a⟩
  · exact ⟨fun e => by omega, fun _ => VStt_P h a b, .inr (.inl a)⟩
  · exact ⟨fun e => by omega, fun e => by omega, .inr (.inr a)⟩
theorem run_V {s : GSystem} {k : List GKnown} : ∀ (n : Nat) (st : GState), VStt s k st → VStt s k (run s k n st).1
  | 0, st, h => h
  | n + 1, st, h => by
    rw [run]
    split
    · exact h
    · rename_i hp; exact run_V n _ (sstep_V h hp)
theorem start_V {s : GSystem} (hv : VSys s) {k : List GKnown} (hk : flqref14_ValidKnown s k = true) {root : Int} (hr : 0 ≤ root ∧ root < (s.Deps.length : Int)) : VStt s k (flqref14_Start root) := by
  unfold flqref14_Start
  refine ⟨hv, hk, by show 1 ≤ [root].length; simp, ⟨by simp, by simpa using hr⟩, rfl, ⟨Int.le_refl _, by show (0 : Int) ≤ 1073741824; omega⟩, .inl ⟨rfl, ⟨⟨Int.le_refl _, by show (0 : Int) < ([root].length : Int); simp⟩, rfl, rfl, ⟨Int.le_refl _, Int.natCast_nonneg _⟩, fun h => absurd h (Int.lt_irrefl _), fun i i0 i1 => ?_, fun i i0 i1 => ?_⟩⟩⟩
  · have i1 : i < 1 := i1
    show [false].getD i.toNat false = _
    have : i = 0 := by omega
    subst this
    rfl
  · have i1 : i < 1 := i1
    have : i = 0 := by omega
    subst this
    intro y hy
    unfold dl at hy
    simp at hy
theorem dem_edges {s : GSystem} {k : List GKnown} : ∀ (m : Nat) (st : GState), VStt s k st → st.Phase = 1 → Dem s k st → kfind k (cN st st.At) 0 < 0 → st.Edge + m = ((dN s st st.At).length : Int) → st.Steps + m ≤ 1000000000 →
    let r := (run s k m st).1
    VStt s k r ∧ r.Phase = 1 ∧ Dem s k r ∧ r.At = st.At ∧ cN r r.At = cN st st.At ∧ r.Edge = ((dN s st st.At).length : Int) ∧ r.Cone = flqref14_Cone_L1 (dN s st st.At) m st.Cone st.Edge ∧ r.Steps = st.Steps + m
  | 0, st, hV, hp, hd, hk, he, hs => by
    refine ⟨hV, hp, hd, rfl, rfl, by show st.Edge = _; omega, rfl, by show st.Steps = _; omega⟩
  | m + 1, st, hV, hp, hd, hk, he, hs => by
    have ha := hd.at_
    have hed := hd.ed
    have hsp := hV.sp
    have lfa := dlf_spec hV.lf hd ha.1 ha.2
    rw [decide_eq_false (show ¬ 0 ≤ kfind k (cN st st.At) 0 by omega), Bool.and_false] at lfa
    have h1V := sstep_V hV (by omega : st.Phase ≠ 3)
    have e1 := sstep_1 (s := s) (k := k) hp
    have hc : (dlf k st).getD st.At.toNat false = false ∧ st.Edge < ((dN s st st.At).length : Int) := ⟨lfa, by omega⟩
    rw [run_succ (by omega)]
    rw [show flqref14_Cone_L1 (dN s st st.At) (m + 1) st.Cone st.Edge = flqref14_Cone_L1 (dN s st st.At) m (if (dN s st st.At).getD st.Edge.toNat 0 ∈ st.Cone then st.Cone else st.Cone ++ [(dN s st st.At).getD st.Edge.toNat 0]) (st.Edge + 1) by
      rw [flqref14_Cone_L1]
      simp only [Has_dec]
      by_cases hm : (dN s st st.At).getD st.Edge.toNat 0 ∈ st.Cone
      · rw [if_pos hm, decide_eq_true hm]; rfl
      · rw [if_neg hm, decide_eq_false hm]; rfl]
    have key : ∃ st1, sstep s k st = st1 ∧ st1.Phase = 1 ∧ st1.At = st.At ∧ st1.Edge = st.Edge + 1 ∧ st1.Steps = st.Steps + 1 ∧ st1.Cone = (if (dN s st st.At).getD st.Edge.toNat 0 ∈ st.Cone then st.Cone else st.Cone ++ [(dN s st st.At).getD st.Edge.toNat 0]) ∧ cN st1 st.At = cN st st.At := by
      refine ⟨_, rfl, ?_⟩
      rw [e1]
      unfold dstep
      rw [if_pos hc]
      have hmin : min (st.Steps + 1) 1073741824 = st.Steps + 1 := by omega
      by_cases hm : (dN s st st.At).getD st.Edge.toNat 0 ∈ st.Cone
      · rw [if_pos hm]
        exact ⟨hp, rfl, rfl, hmin, (if_pos hm).symm, rfl⟩
      · rw [if_neg hm]
        exact ⟨hp, rfl, rfl, hmin, (if_neg hm).symm, getD_app_left (by omega)⟩
    obtain ⟨st1, e2, p1, p2, p3, p4, p5, p6⟩ := key
    rw [e2] at h1V ⊢
    have hd1 : Dem s k st1 := by
      rcases VStt_ph h1V with ⟨_, b⟩ | ⟨a, _⟩ | ⟨a, _⟩
      · exact b
      · omega
      · omega
    have q1 : cN st1 st1.At = cN st st.At := by rw [p2, p6]
    have q2 : dN s st1 st1.At = dN s st st.At := by unfold dN; rw [q1]
    have ih := dem_edges m st1 h1V p1 hd1 (by rw [q1]; exact hk) (by rw [q2, p3]; omega) (by rw [p4]; omega)
    simp only at ih ⊢
    rw [q2, p2, p3, p4, p5] at ih
    obtain ⟨i1, i2, i3, i4, i5, i6, i7, i8⟩ := ih
    refine ⟨i1, i2, i3, i4, ?_, i6, i7, by rw [i8]; omega⟩
    rw [i4] at i5 ⊢
    rw [i5, p6]
structure AtNode (s : GSystem) (k : List GKnown) (st : GState) (out : List Int) (cost i : Int) : Prop where
  v : VStt s k st
  p : st.Phase = 1
  d : Dem s k st
  c : st.Cone = out
  a : st.At = i
  e : st.Edge = 0
  n : st.Steps = cost
theorem dem_next {s : GSystem} {k : List GKnown} {st : GState} (hV : VStt s k st) (hp : st.Phase = 1) (hd : Dem s k st) (hc : ¬ ((dlf k st).getD st.At.toNat false = false ∧ st.Edge < ((dN s st st.At).length : Int))) (hs : st.Steps + 1 ≤ 1000000000) :
    (st.At + 1 < (st.Cone.length : Int) ∧ AtNode s k (sstep s k st) st.Cone (st.Steps + 1) (st.At + 1)) ∨ (st.At + 1 = (st.Cone.length : Int) ∧ (sstep s k st).Phase = 2 ∧ (sstep s k st).Cone = st.Cone ∧ (sstep s k st).Steps = st.Steps + 1 ∧ (sstep s k st).Values = initV s k st.Cone (dlf k st) ∧ (sstep s k st).Queue = initQ st.Cone.length) := by
  have ha := hd.at_
  have hsp := hV.sp
  have h1V := sstep_V hV (by omega : st.Phase ≠ 3)
  have e1 := sstep_1 (s := s) (k := k) hp
  have hmin : min (st.Steps + 1) 1073741824 = st.Steps + 1 := by omega
  unfold dstep at e1
  rw [if_neg hc] at e1
  unfold dnext at e1
  by_cases hA : st.At + 1 < (st.Cone.length : Int)
  · rw [if_pos hA] at e1
    left
    refine ⟨hA, h1V, by rw [e1]; exact hp, ?_, by rw [e1]; rfl, by rw [e1]; rfl, by rw [e1]; rfl, by rw [e1]; exact hmin⟩
    rcases VStt_ph h1V with ⟨_, b⟩ | ⟨a, _⟩ | ⟨a, _⟩
    · exact b
    · rw [e1] at a; have a : st.Phase = 2 := a; omega
    · rw [e1] at a; have a : st.Phase = 3 := a; omega
  · rw [if_neg hA] at e1
    right
    refine ⟨by omega, by rw [e1]; rfl, by rw [e1]; rfl, by rw [e1]; exact hmin, by rw [e1]; rfl, by rw [e1]; rfl⟩
theorem dem_cone {s : GSystem} {k : List GKnown} {leaves : List Int} (hl : ∀ x, x ∈ leaves ↔ 0 ≤ kfind k x 0) : ∀ (m : Nat) (out : List Int) (cost i : Int) (o : List Int) (c : Int) (st : GState), flqref14_Cone_L0 s leaves m out cost i = .brk (o, c) → c ≤ 100000000 → AtNode s k st out cost i →
    ∃ n : Nat, (n : Int) = c - cost - 1 ∧ (run s k n st).1.Phase = 1 ∧ (run s k (n + 1) st).1.Phase = 2 ∧ (run s k (n + 1) st).1.Cone = o ∧ (run s k (n + 1) st).1.Steps = c
  | 0, out, cost, i, o, c, st, h, hc, ha => by cases h
  | m + 1, out, cost, i, o, c, st, h, hc, ha => by
    have hat := ha.d.at_
    have hvs := ha.v.v
    have hlfe := ha.v.lf
    have hhc := ha.c; have hha := ha.a; have hhe := ha.e; have hhn := ha.n
    rw [hha, hhc] at hat
    rw [flqref14_Cone_L0, decide_eq_true hat.2] at h
    simp only [cond_true] at h
    have hcost := ha.v.sp
    have fin : ∀ (st' : GState) (out' : List Int) (cost' : Int), VStt s k st' → st'.Phase = 1 → Dem s k st' → st'.Cone = out' → st'.At = i → st'.Steps = cost' → ¬ ((dlf k st').getD st'.At.toNat false = false ∧ st'.Edge < ((dN s st' st'.At).length : Int)) → flqref14_Cone_L0 s leaves m out' (cost' + 1) (i + 1) = .brk (o, c) → ∃ n : Nat, (n : Int) = c - cost' - 1 ∧ (run s k n st').1.Phase = 1 ∧ (run s k (n + 1) st').1.Phase = 2 ∧ (run s k (n + 1) st').1.Cone = o ∧ (run s k (n + 1) st').1.Steps = c := by
      intro st' out' cost' h1 h2 h3 h4 h5 h6 h7 h8
      have hcc := Cone_cost_L0 hvs _ _ _ _ _ _ h8
      rcases dem_next h1 h2 h3 h7 (by omega) with ⟨a1, a2⟩ | ⟨a1, a2, a3, a4, _⟩
      · rw [h4, h5, h6] at a2
        obtain ⟨n, n1, n2, n3, n4, n5⟩ := dem_cone hl m out' (cost' + 1) (i + 1) o c _ h8 hc a2
        refine ⟨n + 1, by omega, ?_, ?_, ?_, ?_⟩ <;> (rw [run_succ (by omega)]; assumption)
      · rw [h5, h4] at a1
        have e0 : m ≠ 0 := fun e => by subst e; cases h8
        obtain ⟨m', rfl⟩ := Nat.exists_eq_succ_of_ne_zero e0
        rw [flqref14_Cone_L0, decide_eq_false (show ¬ i + 1 < ((out'.length : Nat) : Int) by omega)] at h8
        simp only [cond_false, LR.brk.injEq, Prod.mk.injEq] at h8
        obtain ⟨rfl, rfl⟩ := h8
        refine ⟨0, by omega, h2, ?_, ?_, ?_⟩
        · rw [run_succ (by omega)]; exact a2
        · rw [run_succ (by omega)]; exact a3.trans h4
        · rw [run_succ (by omega)]; exact a4.trans (by omega)
    have hcn : cN st st.At = out.getD i.toNat 0 := by unfold cN; rw [hhc, hha]
    have lfa := dlf_spec hlfe ha.d (i := st.At) (by omega) (by rw [hha, hhc]; exact hat.2)
    rw [decide_eq_true (Int.le_refl _), Bool.true_and] at lfa
    by_cases hk : 0 ≤ kfind k (cN st st.At) 0
    · have : flqref7_Has leaves (out.getD i.toNat 0) = true := by rw [Has_iff, hl, ← hcn]; exact hk
      rw [this] at h
      simp only [cond_true] at h
      refine fin st out cost ha.v ha.p ha.d hhc hha hhn ?_ h
      rw [lfa, decide_eq_true hk]; simp
    · have : flqref7_Has leaves (out.getD i.toNat 0) = false := by rw [Has_dec]; exact decide_eq_false (fun h => hk (by rw [hcn]; exact (hl _).1 h))
      rw [this] at h
      simp only [cond_false] at h
      have hdd : s.Deps.getD (out.getD i.toNat 0).toNat [] = dN s st st.At := by unfold dN; rw [hcn]
      rw [hdd] at h
      have hcc := Cone_cost_L0 hvs _ _ _ _ _ _ h
      have de := dem_edges (s := s) (k := k) (dN s st st.At).length st ha.v ha.p ha.d (by omega) (by omega) (by omega)
      simp only at de
      obtain ⟨d1, d2, d3, d4, d5, d6, d7, d8⟩ := de
      rw [show ((((dN s st st.At).length : Nat) : Int) - 0).toNat = (dN s st st.At).length by omega] at h
      rw [hhe, hhc] at d7
      rw [← d7, show cost + 1 + ((dN s st st.At).length : Int) = (cost + ((dN s st st.At).length : Int)) + 1 by omega] at h
      have hdN : dN s (run s k (dN s st st.At).length st).1 (run s k (dN s st st.At).length st).1.At = dN s st st.At := by unfold dN at *; rw [d5]
      obtain ⟨n, n1, n2, n3, n4, n5⟩ := fin (run s k (dN s st st.At).length st).1 _ (cost + ((dN s st st.At).length : Int)) d1 d2 d3 rfl (d4.trans hha) (by rw [d8, hhn]) (by rw [d6, hdN]; omega) h
      refine ⟨(dN s st st.At).length + n, by omega, ?_, ?_, ?_, ?_⟩
      · rw [run_add]; exact n2
      all_goals rw [show (dN s st st.At).length + n + 1 = (dN s st st.At).length + (n + 1) by omega, run_add]; assumption
theorem start_at {s : GSystem} {k : List GKnown} {root : Int} (h : VStt s k (flqref14_Start root)) : AtNode s k (flqref14_Start root) [root] 0 0 := by
  refine ⟨h, rfl, ?_, rfl, rfl, rfl, rfl⟩
  rcases VStt_ph h with ⟨_, b⟩ | ⟨a, _⟩ | ⟨a, _⟩
  · exact b
  · have a : (1 : Int) = 2 := a; omega
  · have a : (1 : Int) = 3 := a; omega
structure Inv (s : GSystem) (k : List GKnown) (v : List GSet) (root : Int) (st : GState) : Prop where
  ok : VStt s k st
  si : st.Phase ≠ 1 → SI s k v st
  r : st.Cone.getD 0 0 = root
theorem begin_SI {s : GSystem} {k : List GKnown} {v : List GSet} (hl : Least s v) (hk : KV s k v) {st : GState} (hV : VStt s k st) (hp : st.Phase = 2) {lf : List Bool} (hlf : st.Leaf = lf) (hv : st.Values = initV s k st.Cone lf) (hq : st.Queue = initQ st.Cone.length) : SI s k v st := by
  have hS : Sol s k st := by
    rcases VStt_ph hV with ⟨a, _⟩ | ⟨_, b⟩ | ⟨a, _⟩
    · omega
    · exact b
    · omega
  have leaf : ∀ j : Int, 0 ≤ j → j < (st.Cone.length : Int) → st.Leaf.getD j.toNat false = true → vat st.Values j = vat v (cN st j) := fun j j0 j1 hj => by
    have hkf := hS.lf j j0 j1
    rw [hj] at hkf
    have hkf := of_decide_eq_true hkf.symm
    have := kfind_pos hkf
    rw [hv, initV_at s k st.Cone lf j0 j1]
    unfold initV1
    rw [← hlf, if_pos hj]
    have e := hk _ this.1
    rw [this.2] at e; exact e
  have bd : ∀ j : Int, 0 ≤ j → j < (st.Cone.length : Int) → st.Leaf.getD j.toNat false = false → vat st.Values j = Bd s (cN st j) := fun j j0 j1 hj => by
    rw [hv, initV_at s k st.Cone lf j0 j1]
    unfold initV1
    rw [← hlf, if_neg (by rw [hj]; simp)]; rfl
  refine ⟨hS, fun j j0 j1 => ?_, leaf, fun j j0 j1 hj => by rw [bd j j0 j1 hj]; exact SSub_rfl _, fun a a0 a1 hn => absurd (by rw [hq]; exact mem_initQ a0 a1) hn⟩
  cases hj : st.Leaf.getD j.toNat false with
  | true => rw [leaf j j0 j1 hj]; exact SSub_rfl _
  | false => rw [bd j j0 j1 hj]; exact fix_bd hV.v hl (hV.co.2 _ (getD_mem (xs := st.Cone) (i := j.toNat) (d := 0) (by omega)))
theorem inv_step {s : GSystem} {k : List GKnown} {v : List GSet} (hl : Least s v) (hk : KV s k v) {root : Int} {st : GState} (h : Inv s k v root st) (hp : st.Phase ≠ 3) : Inv s k v root (sstep s k st) := by
  have h1 := sstep_V h.ok hp
  have hcn := h.ok.cn
  rcases VStt_ph h.ok with ⟨a, b⟩ | ⟨a, b⟩ | ⟨a, b⟩
  · by_cases hc : (dlf k st).getD st.At.toNat false = false ∧ st.Edge < ((dN s st st.At).length : Int)
    · have e1 := sstep_1 (s := s) (k := k) a
      unfold dstep at e1
      rw [if_pos hc] at e1
      by_cases hm : (dN s st st.At).getD st.Edge.toNat 0 ∈ st.Cone
      · rw [if_pos hm] at e1
        exact ⟨h1, fun hn => absurd (by rw [e1]; exact a) hn, by rw [e1]; exact h.r⟩
      · rw [if_neg hm] at e1
        exact ⟨h1, fun hn => absurd (by rw [e1]; exact a) hn, by rw [e1]; exact (getD_app_left (by omega)).trans h.r⟩
    · have e1 := sstep_1 (s := s) (k := k) a
      unfold dstep at e1
      rw [if_neg hc] at e1
      unfold dnext at e1
      by_cases hA : st.At + 1 < (st.Cone.length : Int)
      · rw [if_pos hA] at e1
        exact ⟨h1, fun hn => absurd (by rw [e1]; exact a) hn, by rw [e1]; exact h.r⟩
      · rw [if_neg hA] at e1
        exact ⟨h1, fun _ => begin_SI hl hk h1 (by rw [e1]; rfl) (lf := dlf k st) (by rw [e1]; rfl) (by rw [e1]; rfl) (by rw [e1]; rfl), by rw [e1]; exact h.r⟩
  · have hS := h.si (by omega)
    obtain ⟨q1, q2, q3⟩ := Sol_q b hp
    have e1 : sstep s k st = setSteps (pstep s st) (min (st.Steps + 1) 1073741824) := by unfold sstep; rw [if_neg (by omega)]
    have nd : ∀ x, x ∈ st.Queue.drop 1 ↔ x ∈ st.Queue ∧ x ≠ st.Queue.getD 0 0 := by
      cases hq : st.Queue with
      | nil => rw [hq] at q1; simp at q1
      | cons x l =>
        have := b.qo.1
        rw [hq, List.nodup_cons] at this
        intro y
        simp only [List.drop_one, List.tail_cons, List.mem_cons, List.getD_cons_zero]
        constructor
        · intro hy; exact ⟨.inr hy, fun e => this.1 (e ▸ hy)⟩
        · rintro ⟨hy | hy, hne⟩
          · exact absurd hy hne
          · exact hy
    have g0 : GI s k v st.Cone st.Leaf (st.Queue.getD 0 0) (depl s st.Cone st.Leaf (st.Queue.getD 0 0)) st.Values (st.Queue.drop 1) := by
      refine ⟨⟨b.vl, b.vv, ⟨b.qo.1.sublist (List.drop_sublist 1 st.Queue), fun x hx => b.qo.2 x (List.mem_of_mem_drop hx)⟩⟩, hS.le, hS.lf, hS.bd, fun c c0 c1 cq ci => hS.pr c c0 c1 (fun hm => cq ((nd c).2 ⟨hm, ci⟩)), fun _ j hj hn => absurd hj hn⟩
    have g1 := GI_pl h.ok.v hl h.ok.co.2 ⟨q2, q3⟩ _ _ _ (fun j hj => hj) g0
    have hS1 : Sol s k (sstep s k st) := by
      rcases VStt_ph h1 with ⟨c, _⟩ | ⟨_, c⟩ | ⟨_, c⟩
      · exfalso
        rw [e1] at c
        have c : (if (pl s st.Cone (st.Queue.getD 0 0) (depl s st.Cone st.Leaf (st.Queue.getD 0 0)) st.Values (st.Queue.drop 1)).2 = [] then 3 else st.Phase) = 1 := c
        split at c <;> omega
      · exact c
      · exact c
    refine ⟨h1, fun _ => ?_, by rw [e1]; exact h.r⟩
    rw [e1] at hS1 ⊢
    refine ⟨hS1, g1.le, g1.lf, g1.bd, fun c c0 c1 cq j hj => ?_⟩
    by_cases e : c = st.Queue.getD 0 0
    · subst e; exact g1.pi cq j hj (by simp)
    · exact g1.pr c c0 c1 cq e j hj
  · exact absurd a hp
theorem inv_run {s : GSystem} {k : List GKnown} {v : List GSet} (hl : Least s v) (hk : KV s k v) {root : Int} : ∀ (n : Nat) (st : GState), Inv s k v root st → Inv s k v root (run s k n st).1
  | 0, st, h => h
  | n + 1, st, h => by
    rw [run]
    split
    · exact h
    · rename_i hp; exact inv_run hl hk n _ (inv_step hl hk h hp)
theorem inv_start {s : GSystem} {k : List GKnown} {v : List GSet} {root : Int} (h : VStt s k (flqref14_Start root)) : Inv s k v root (flqref14_Start root) := ⟨h, fun hn => absurd rfl hn, rfl⟩
theorem inv_done {s : GSystem} {k : List GKnown} {v : List GSet} (hl : Least s v) {st : GState} (hV : VStt s k st) (h : SI s k v st) (hp : st.Phase = 3) : ∀ j : Int, 0 ≤ j → j < (st.Cone.length : Int) → vat st.Values j = vat v (cN st j) := by
  have hv := hV.v
  have hb := hv.bl
  have hq := h.sol.q3.2 hp
  let z : List GSet := (List.range s.Boundary.length).map fun n : Nat => if (n : Int) ∈ st.Cone then vat st.Values ((st.Cone.idxOf (n : Int) : Nat) : Int) else vat v (n : Int)
  have hz : ∀ n : Int, 0 ≤ n → n < (s.Boundary.length : Int) → vat z n = if n ∈ st.Cone then vat st.Values ((st.Cone.idxOf n : Nat) : Int) else vat v n := fun n n0 n1 => by
    unfold vat z
    rw [List.getD_eq_getElem?_getD, List.getElem?_map, List.getElem?_range (by omega)]
    simp only [Option.map_some, Option.getD_some, Int.toNat_of_nonneg n0]
    rfl
  have idx : ∀ n, n ∈ st.Cone → st.Cone.idxOf n < st.Cone.length ∧ st.Cone.getD (st.Cone.idxOf n) 0 = n := fun n hn => by
    have := List.idxOf_lt_length_of_mem hn
    refine ⟨this, ?_⟩
    rw [List.getD_eq_getElem?_getD, List.getElem?_eq_getElem this]
    simp
  have zV : VVals s z := by
    refine ⟨by simp [z], fun g hg => ?_⟩
    simp only [z, List.mem_map, List.mem_range] at hg
    obtain ⟨n, hn, rfl⟩ := hg
    split
    · rename_i hm
      have := idx _ hm
      exact h.sol.vv _ (getD_mem (by have := h.sol.vl; omega))
    · exact VVals_at hl.v (by omega) (by omega)
  have zle : Le s z v := fun n n0 n1 => by
    rw [hz n n0 n1]
    split
    · rename_i hm
      have hi := idx _ hm
      have := h.le ((st.Cone.idxOf n : Nat) : Int) (by omega) (by omega)
      unfold cN at this
      rw [Int.toNat_natCast, hi.2] at this
      exact this
    · exact SSub_rfl _
  have below : Le s (Fv s z) z := fun n n0 n1 => by
    rw [Fv_at s z n0 n1, hz n n0 n1]
    have n1' : n < (s.Deps.length : Int) := by omega
    have up : SSub (flqref10_right s z n) (vat v n) := by
      have e : vat v n = flqref10_right s v n := by
        have := Fv_at s v n0 n1
        rw [hl.fix] at this; exact this
      rw [e]; exact right_mono hv zV hl.v zle n0 n1'
    split
    · rename_i hm
      have hi := idx _ hm
      have hcN : cN st ((st.Cone.idxOf n : Nat) : Int) = n := by unfold cN; rw [Int.toNat_natCast]; exact hi.2
      cases hlf : st.Leaf.getD ((st.Cone.idxOf n : Nat) : Int).toNat false with
      | true =>
        have := h.lf _ (by omega) (by omega) hlf
        rw [hcN] at this
        rw [this]; exact up
      | false =>
        intro x hx
        rcases (right_iff hv zV n0 n1' x).1 hx with hx | ⟨m, hm', hx⟩
        · have := h.bd _ (by omega) (by omega) hlf
          rw [hcN] at this
          exact this x hx
        · have md := hv.dep_mem n0 n1' m hm'
          have hkn : kfind k n 0 < 0 := by
            have := h.sol.lf ((st.Cone.idxOf n : Nat) : Int) (by omega) (by omega)
            rw [hlf, hcN] at this
            have := of_decide_eq_false this.symm; omega
          have hmc := h.sol.cl n hm hkn m hm'
          have hj := idx _ hmc
          have hcM : cN st ((st.Cone.idxOf m : Nat) : Int) = m := by unfold cN; rw [Int.toNat_natCast]; exact hj.2
          have := h.pr ((st.Cone.idxOf m : Nat) : Int) (by omega) (by omega) (by rw [hq]; simp) ((st.Cone.idxOf n : Nat) : Int) (mem_depl.2 ⟨⟨by omega, by omega⟩, hlf, by
            rw [Int.toNat_natCast, Int.toNat_natCast, hi.2, hj.2]; exact hm'⟩)
          rw [hcM] at this
          refine this x ?_
          rw [hz m md.1 (by omega), if_pos hmc] at hx
          exact hx
    · exact up
  have up := hl.least z zV below
  intro j j0 j1
  have hr := hV.co.2 _ (getD_mem (xs := st.Cone) (i := j.toNat) (d := 0) (by omega))
  have hm : cN st j ∈ st.Cone := getD_mem (xs := st.Cone) (i := j.toNat) (d := 0) (by omega)
  have a := h.sol.vv _ (getD_mem (xs := st.Values) (i := j.toNat) (d := default) (by have := h.sol.vl; omega))
  have b := VVals_at hl.v hr.1 (show _ < (s.Boundary.length : Int) by omega)
  have ei : st.Cone.idxOf (cN st j) = j.toNat := by
    have h1 := idx _ hm
    have nd := nodup_getD.1 hV.co.1
    rcases Int.lt_or_le ((st.Cone.idxOf (cN st j) : Nat) : Int) j with h | h
    · exact absurd (by rw [Int.toNat_natCast]; exact h1.2) (nd _ j (by omega) h j1)
    · rcases Int.lt_or_eq_of_le h with h | h
      · exact absurd (by rw [Int.toNat_natCast]; exact h1.2.symm) (nd j _ j0 h (by omega))
      · omega
  refine SSub_antisymm a b (h.le j j0 j1) ?_
  have := up (cN st j) hr.1 (by show _ < (s.Boundary.length : Int); have := hr.2; unfold cN; omega)
  rw [hz (cN st j) hr.1 (by have := hr.2; unfold cN; omega), if_pos hm, ei, Int.toNat_of_nonneg j0] at this
  exact this

theorem phi_step {s : GSystem} {k : List GKnown} {st : GState} (h : VStt s k st) (hp : st.Phase = 2) : phi s (sstep s k st) + 1 ≤ phi s st ∧ ((sstep s k st).Phase = 2 ∨ (sstep s k st).Phase = 3) ∧ (sstep s k st).Cone = st.Cone := by
  have b : Sol s k st := by
    rcases VStt_ph h with ⟨a, _⟩ | ⟨_, b⟩ | ⟨a, _⟩
    · omega
    · exact b
    · omega
  obtain ⟨q1, q2, q3⟩ := Sol_q b (by omega)
  have g := (pl_grow h.v h.co.2 ⟨q2, q3⟩ (depl s st.Cone st.Leaf (st.Queue.getD 0 0)) st.Values (st.Queue.drop 1) (fun x hx => (mem_depl.1 hx).1) ⟨b.vl, b.vv, ⟨b.qo.1.sublist (List.drop_sublist 1 st.Queue), fun x hx => b.qo.2 x (List.mem_of_mem_drop hx)⟩⟩).2
  have e1 : sstep s k st = setSteps (pstep s st) (min (st.Steps + 1) 1073741824) := by unfold sstep; rw [if_neg (by omega)]
  have m1 := cnt_max st.Cone.length s.Width.toNat st.Values
  have m2 := cnt_max st.Cone.length s.Width.toNat (pl s st.Cone (st.Queue.getD 0 0) (depl s st.Cone st.Leaf (st.Queue.getD 0 0)) st.Values (st.Queue.drop 1)).1
  rw [List.length_drop] at g
  rw [e1]
  refine ⟨?_, ?_, rfl⟩
  · unfold phi
    show (pl s st.Cone (st.Queue.getD 0 0) (depl s st.Cone st.Leaf (st.Queue.getD 0 0)) st.Values (st.Queue.drop 1)).2.length + (st.Cone.length * s.Width.toNat - cnt st.Cone.length s.Width.toNat (pl s st.Cone (st.Queue.getD 0 0) (depl s st.Cone st.Leaf (st.Queue.getD 0 0)) st.Values (st.Queue.drop 1)).1) + 1 ≤ _
    omega
  · show (if (pl s st.Cone (st.Queue.getD 0 0) (depl s st.Cone st.Leaf (st.Queue.getD 0 0)) st.Values (st.Queue.drop 1)).2 = [] then 3 else st.Phase) = 2 ∨ (if (pl s st.Cone (st.Queue.getD 0 0) (depl s st.Cone st.Leaf (st.Queue.getD 0 0)) st.Values (st.Queue.drop 1)).2 = [] then 3 else st.Phase) = 3
    split
    · exact .inr rfl
    · exact .inl hp
theorem phi_run {s : GSystem} {k : List GKnown} : ∀ (n : Nat) (st : GState), VStt s k st → st.Phase = 2 ∨ st.Phase = 3 → phi s st ≤ n → (run s k n st).1.Phase = 3 ∧ (run s k n st).1.Cone = st.Cone
  | 0, st, h, hp, hn => by
    rcases hp with hp | hp
    · have := (phi_step h hp).1; omega
    · exact ⟨hp, rfl⟩
  | n + 1, st, h, hp, hn => by
    rcases hp with hp | hp
    · have hs := phi_step h hp
      rw [run_succ (by omega)]
      have := phi_run n (sstep s k st) (sstep_V h (by omega)) hs.2.1 (by omega)
      exact ⟨this.1, this.2.trans hs.2.2⟩
    · rw [run_done hp]; exact ⟨hp, rfl⟩
theorem phi_le {s : GSystem} {k : List GKnown} {st : GState} (h : VStt s k st) (hp : st.Phase = 2) : phi s st ≤ s.Deps.length + s.Deps.length * s.Width.toNat := by
  have b : Sol s k st := by
    rcases VStt_ph h with ⟨a, _⟩ | ⟨_, b⟩ | ⟨a, _⟩
    · omega
    · exact b
    · omega
  have h1 := okOut_len b.qo (by omega)
  have h2 := okOut_len h.co (by omega)
  have h3 : st.Cone.length * s.Width.toNat ≤ s.Deps.length * s.Width.toNat := Nat.mul_le_mul_right _ (by omega)
  unfold phi; omega
theorem run_all {s : GSystem} {k : List GKnown} {v : List GSet} (hl : Least s v) (hk : KV s k v) {root : Int} (h0 : VStt s k (flqref14_Start root)) (hr : 0 ≤ root ∧ root < (s.Deps.length : Int)) {o : List Int} {c : Int} (hc : flqref14_Cone_L0 s (k.map (·.Node)) (s.Deps.length + 1) [root] 0 0 = .brk (o, c)) (hc0 : c ≤ 100000000) {n : Nat} (hn : c + (s.Deps.length + s.Deps.length * s.Width.toNat : Nat) ≤ n) :
    (run s k n (flqref14_Start root)).1.Phase = 3 ∧ (run s k n (flqref14_Start root)).1.Cone = o ∧ Inv s k v root (run s k n (flqref14_Start root)).1 ∧ vat (run s k n (flqref14_Start root)).1.Values 0 = vat v root := by
  obtain ⟨m, m1, m2, m3, m4, m5⟩ := dem_cone (mem_nodes k) _ _ _ _ _ _ _ hc hc0 (start_at h0)
  have hV := run_V (m + 1) _ h0
  have hp := phi_le hV m3
  have hrun := phi_run (n - (m + 1)) _ hV (.inl m3) (by omega)
  have hI := inv_run hl hk n _ (inv_start h0)
  have e := run_add s k (m + 1) (n - (m + 1)) (flqref14_Start root)
  rw [show m + 1 + (n - (m + 1)) = n by omega] at e
  have e1 : (run s k n (flqref14_Start root)).1 = (run s k (n - (m + 1)) (run s k (m + 1) (flqref14_Start root)).1).1 := by rw [e]
  rw [← e1] at hrun
  refine ⟨hrun.1, hrun.2.trans m4, hI, ?_⟩
  have hcn := hI.ok.cn
  have := inv_done hl hI.ok (hI.si (by omega)) hrun.1 0 (by omega) (by omega)
  rw [this]
  show vat v ((run s k n (flqref14_Start root)).1.Cone.getD 0 0) = _
  rw [hI.r]
theorem VStt_cone {s : GSystem} {k : List GKnown} {st : GState} (h : VStt s k st) : st.Cone.length ≤ s.Deps.length := by have := okOut_len h.co (by omega); omega
theorem run_cost {s : GSystem} {k : List GKnown} : ∀ (n : Nat) (st : GState), VStt s k st → st.Steps + n ≤ 1073741824 → (run s k n st).1.Steps - st.Steps ≤ (run s k n st).2 ∧ (run s k n st).2 ≤ 8 * ((run s k n st).1.Steps - st.Steps)
  | 0, st, h, hn => by rw [run]; dsimp only; omega
  | n + 1, st, h, hn => by
    rw [run]
    split
    · dsimp only; omega
    · rename_i hp
      have hc : 1 ≤ scost s st ∧ scost s st ≤ 8 := by
        unfold scost pcost
        split <;> omega
      have hs : (sstep s k st).Steps = st.Steps + 1 := by
        unfold sstep setSteps
        show min (st.Steps + 1) 1073741824 = _
        omega
      have := run_cost n (sstep s k st) (sstep_V h hp) (by omega)
      dsimp only
      omega
theorem RValid8_iff (s : GSystem) (k : List GKnown) (st : GState) : flqref14_Valid s k st = true ↔ VStt s k st := by
  unfold flqref14_Valid
  cases h1 : flqref10_Valid s with
  | false => exact ⟨fun h => (by cases h), fun h => by rw [(RefValid_iff s).2 h.v] at h1; cases h1⟩
  | true =>
  have hv := (RefValid_iff s).1 h1
  have hbl := hv.bl
  cases h2 : flqref14_ValidKnown s k with
  | false => exact ⟨fun h => (by cases h), fun h => by rw [h.kn] at h2; cases h2⟩
  | true =>
  simp only [Bool.not_true, cond_false]
  by_cases h3 : (st.Cone.length : Int) = 0
  · rw [beqI h3]; exact ⟨fun h => (by cases h), fun h => by have := h.cn; omega⟩
  rw [bneI h3]
  by_cases h8 : (s.Boundary.length : Int) < (st.Cone.length : Int)
  · rw [decide_eq_true h8]; exact ⟨fun h => (by cases h), fun h => by have := okOut_len h.co (by omega); omega⟩
  rw [decide_eq_false h8]
  by_cases h5 : (st.Leaf.length : Int) = (st.Cone.length : Int)
  case neg =>
    have : ((st.Leaf.length : Int) != (st.Cone.length : Int)) = true := by simp [h5]
    rw [this]; exact ⟨fun h => (by cases h), fun h => by have := h.lf; omega⟩
  have e5 : ((st.Leaf.length : Int) != (st.Cone.length : Int)) = false := by simp [h5]
  rw [e5]
  by_cases h9 : (st.Cone.length : Int) < (st.Queue.length : Int)
  · rw [decide_eq_true h9]
    refine ⟨fun h => (by cases h), fun h => ?_⟩
    exfalso
    have hco := h.co.2
    rcases h.ph with ⟨_, h⟩ | ⟨_, h⟩
    · have := h.ql; omega
    · have := okOut_len ((validSolve_iff s k st).1 h).qo (by omega)
      omega
  rw [decide_eq_false h9]
  cases h4 : flqref14_inside s st.Cone with
  | false => exact ⟨fun h => (by cases h), fun h => by rw [(inside_iff s _).2 (by rw [hbl]; exact h.co.2)] at h4; cases h4⟩
  | true =>
  have hin := (inside_iff s _).1 h4
  rw [hbl] at hin
  cases h10 : flqref14_repeated st.Cone with
  | true => exact ⟨fun h => (by cases h), fun h => by rw [(repeated_iff _).2 h.co.1] at h10; cases h10⟩
  | false =>
  have hco : okOut (s.Deps.length : Int) st.Cone := ⟨(repeated_iff _).1 h10, hin⟩
  rw [counter_eq]
  by_cases h6 : 0 ≤ st.Steps
  case neg => rw [decide_eq_false h6]; exact ⟨fun h => (by cases h), fun h => by have := h.sp; omega⟩
  by_cases h7 : st.Steps ≤ 1073741824
  case neg => rw [decide_eq_true h6, decide_eq_false h7]; exact ⟨fun h => (by cases h), fun h => by have := h.sp; omega⟩
  rw [decide_eq_true h6, decide_eq_true h7]
  simp only [cond_false, Bool.not_true, Bool.and_self]
  by_cases p1 : st.Phase = 1
  · rw [beqI p1]
    simp only [cond_true]
    rw [validDemand_iff]
    exact ⟨fun h => ⟨hv, h2, by omega, hco, by omega, by omega, .inl ⟨p1, h⟩⟩, fun h => by rcases h.ph with ⟨_, h⟩ | ⟨h, _⟩; exact h; omega⟩
  · rw [bneI p1]
    by_cases p2 : st.Phase = 2
    · rw [beqI p2]
      simp only [cond_true, cond_false]
      exact ⟨fun h => ⟨hv, h2, by omega, hco, by omega, by omega, .inr ⟨.inl p2, h⟩⟩, fun h => by rcases h.ph with ⟨h, _⟩ | ⟨_, h⟩; omega; exact h⟩
    · rw [bneI p2]
      by_cases p3 : st.Phase = 3
      · rw [beqI p3]
        simp only [cond_true, cond_false]
        exact ⟨fun h => ⟨hv, h2, by omega, hco, by omega, by omega, .inr ⟨.inr p3, h⟩⟩, fun h => by rcases h.ph with ⟨h, _⟩ | ⟨_, h⟩; omega; exact h⟩
      · rw [bneI p3]
        exact ⟨fun h => (by cases h), fun h => by have := h.ph; omega⟩
theorem Dep_L0_spec (s : GSystem) (cone : List Int) (leaf : List Bool) (i : Int) : ∀ (m : Nat) (o : List Int) (j : Int), 0 ≤ j → flqref14_Dependents_L0 s cone leaf i m o j = o ++ ((List.range' j.toNat m).map (fun j : Nat => (j : Int))).filter fun j => !leaf.getD j.toNat false && decide (cone.getD i.toNat 0 ∈ deps s (cone.getD j.toNat 0))
  | 0, o, j, h => by simp [flqref14_Dependents_L0]
  | m + 1, o, j, h => by
    rw [flqref14_Dependents_L0, range'_filter_map]
    simp only [Has_dec, Int.toNat_of_nonneg h]
    rw [Dep_L0_spec s cone leaf i m _ (j + 1) (by omega), Dep_L0_spec s cone leaf i m _ (j + 1) (by omega), show (j + 1).toNat = j.toNat + 1 by omega]
    unfold deps
    cases leaf.getD j.toNat false <;> by_cases e : cone.getD i.toNat 0 ∈ s.Deps.getD (cone.getD j.toNat 0).toNat [] <;> simp [e, -List.getD_eq_getElem?_getD]
theorem RDep_eq {s : GSystem} (hv : VSys s) {cone : List Int} (hc : ∀ x ∈ cone, 0 ≤ x ∧ x < (s.Deps.length : Int)) {leaf : List Bool} (hl : leaf.length = cone.length) {i : Int} (h0 : 0 ≤ i) (h1 : i < (cone.length : Int)) : flqref14_Dependents s cone leaf i = depl s cone leaf i := by
  unfold flqref14_Dependents
  have e : (((leaf.length : Nat) : Int) != ((cone.length : Nat) : Int)) = false := by rw [hl]; simp
  simp only [(RefValid_iff s).2 hv, (inside_iff s cone).2 (by rw [hv.bl]; exact hc), e, decide_eq_false (show ¬ i < 0 by omega), decide_eq_false (show ¬ ((cone.length : Nat) : Int) ≤ i by omega), Bool.not_true, cond_false]
  rw [Dep_L0_spec s cone leaf i _ _ _ (by omega), show ((((cone.length : Nat) : Int) - 0).toNat) = cone.length by omega]
  simp only [List.nil_append, Int.toNat_zero, ← List.range_eq_range']
  rfl
theorem arguments_V {s : GSystem} {k : List GKnown} (h : solver_arguments s k = true) : VSys s := by
  unfold solver_arguments at h
  cases hv : equations_Valid s with
  | true => exact (EValid_iff s).1 hv
  | false => simp only [hv, Bool.not_false, cond_true] at h; cases h
theorem known_L0_eq {s : GSystem} (h : s.Deps.length = s.Boundary.length) (k : List GKnown) : ∀ (m : Nat) (i : Int), solver_arguments_L0 s k m i = flqref14_ValidKnown_L0 s k m i
  | 0, i => rfl
  | m + 1, i => by
    rw [solver_arguments_L0, flqref14_ValidKnown_L0]
    simp only [setValid_eq, h, known_L0_eq h k m (i + 1)]
theorem arguments_eq (s : GSystem) (k : List GKnown) : solver_arguments s k = (equations_Valid s && flqref14_ValidKnown s k) := by
  unfold solver_arguments flqref14_ValidKnown
  cases hv : equations_Valid s with
  | false => rfl
  | true =>
    have vs := (EValid_iff s).1 hv
    simp only [Bool.not_true, cond_false, Bool.true_and, known_L0_eq vs.bl.symm k]
    all_goals (generalize flqref14_ValidKnown_L0 s k _ 0 = r; cases r <;> rfl)
theorem distinct_L0 {l : List Int} {n : Int} : ∀ (m : Nat) (seen : List Bool) (i : Int), 0 ≤ i → i + m = (l.length : Int) → okFound n (l.take i.toNat) seen →
    (solver_distinct_L0 l n m seen i = .brk () ∧ okOut n l) ∨ (solver_distinct_L0 l n m seen i = .ret false ∧ ¬ okOut n l)
  | 0, seen, i, h0, h1, h => .inl ⟨rfl, by have := h.1; rwa [List.take_of_length_le (by omega)] at this⟩
  | m + 1, seen, i, h0, h1, h => by
    rw [solver_distinct_L0]
    have hm := getD_mem (xs := l) (i := i.toNat) (d := 0) (by omega)
    by_cases a : l.getD i.toNat 0 < 0
    · rw [decide_eq_true a]
      exact .inr ⟨rfl, fun ho => by have := ho.2 _ hm; omega⟩
    · by_cases b : n ≤ l.getD i.toNat 0
      · rw [decide_eq_false a, decide_eq_true b]
        exact .inr ⟨rfl, fun ho => by have := ho.2 _ hm; omega⟩
      · simp only [decide_eq_false a, decide_eq_false b, cond_false]
        cases hs : seen.getD (l.getD i.toNat 0).toNat false with
        | true =>
          refine .inr ⟨rfl, fun ho => ?_⟩
          have h3 := (h.2.2 _ (by omega) (by omega)).1 hs
          have h4 := (okOut_take ho (i + 1).toNat).1
          rw [take_succ_getD h0 (by omega), List.nodup_append] at h4
          exact h4.2.2 _ h3 _ (by simp) rfl
        | false =>
          have h5 := okFound_push h hs (by omega) (by omega)
          rw [← take_succ_getD h0 (by omega)] at h5
          exact distinct_L0 m _ (i + 1) (by omega) (by omega) h5
theorem distinct_iff {l : List Int} {n : Int} (hn : 0 ≤ n) : solver_distinct l n = true ↔ okOut n l := by
  have h0 : okFound n (l.take (0 : Int).toNat) (List.replicate n.toNat false) := by
    refine ⟨⟨by simp, by simp⟩, by simp; omega, fun x x0 x1 => ?_⟩
    simp [List.getElem?_replicate]
    split <;> rfl
  unfold solver_distinct
  rw [show ((((l.length : Nat) : Int) : Int) - 0).toNat = l.length by omega]
  rcases distinct_L0 l.length _ 0 (by omega) (by omega) h0 with ⟨e, h⟩ | ⟨e, h⟩
  · rw [e]; exact ⟨fun _ => h, fun _ => rfl⟩
  · rw [e]; exact ⟨fun h => (by cases h), fun h' => absurd h' h⟩
theorem distinct_mem {l : List Int} {n : Int} (h : solver_distinct l n = true) (hn : 0 ≤ n := by omega) : ∀ x ∈ l, 0 ≤ x ∧ x < n := ((distinct_iff hn).1 h).2
theorem distinct_len {l : List Int} {n : Int} (h : solver_distinct l n = true) (hn : 0 ≤ n := by omega) : (l.length : Int) ≤ n := okOut_len ((distinct_iff hn).1 h) hn
theorem distinct_eq {l : List Int} {n : Int} (hn : 0 ≤ n) : solver_distinct l n = (!flqref14_repeated l && decide (∀ x ∈ l, 0 ≤ x ∧ x < n)) := by
  rw [Bool.eq_iff_iff, distinct_iff hn, Bool.and_eq_true, decide_eq_true_eq, Bool.not_eq_true', repeated_iff]
  rfl
theorem pfind_L0 (k : List GKnown) (n : Int) : ∀ (m : Nat) (i : Int), 0 ≤ i → i + m = (k.length : Int) → (slices_IndexFunc_Known_L0 k (fun x => solver_find_1 x n) m i = .brk () ∧ kfind (k.drop i.toNat) n i = -1) ∨ (slices_IndexFunc_Known_L0 k (fun x => solver_find_1 x n) m i = .ret (kfind (k.drop i.toNat) n i))
  | 0, i, h0, h1 => by
    left
    have : k.drop i.toNat = [] := List.drop_eq_nil_of_le (by omega)
    rw [this]; exact ⟨rfl, rfl⟩
  | m + 1, i, h0, h1 => by
    rw [slices_IndexFunc_Known_L0]
    have hl : i.toNat < k.length := by omega
    have hd : k.drop i.toNat = k.getD i.toNat default :: k.drop (i + 1).toNat := by
      rw [List.drop_eq_getElem_cons hl, show (i + 1).toNat = i.toNat + 1 by omega]
      simp [List.getD, List.getElem?_eq_getElem hl]
    rw [hd, kfind]
    unfold solver_find_1
    by_cases he : (k.getD i.toNat default).Node = n
    · right
      rw [if_pos he]
      simp only [he, beq_self_eq_true, cond_true]
    · rw [if_neg he]
      have : ((k.getD i.toNat default).Node == n) = false := by rw [beq_eq_false_iff_ne]; exact he
      simp only [this, cond_false]
      exact pfind_L0 k n m (i + 1) (by omega) (by omega)
theorem pfind_eq (k : List GKnown) (n : Int) : solver_find k n = kfind k n 0 := by
  have h := pfind_L0 k n k.length 0 (by omega) (by omega)
  unfold solver_find slices_IndexFunc_Known
  rw [show ((((k.length : Nat) : Int) : Int) - 0).toNat = k.length by omega]
  simp only [Int.toNat_zero, List.drop_zero] at h
  rcases h with ⟨h, h2⟩ | h
  · rw [h, h2]
  · rw [h]
def pdb (s : GSystem) (k : List GKnown) (st : GState) (i : Int) : Bool := !(st.Leaf.getD i.toNat false == (decide (i < st.At) && decide (0 ≤ kfind k (cN st i) 0))) || slices_ContainsFunc_int (dl s st i) (fun x => solver_demanding_1 x st)
theorem demanding_1_any (s : GSystem) (st : GState) (l : List Int) : slices_ContainsFunc_int l (fun x => solver_demanding_1 x st) = false ↔ ∀ y ∈ l, y ∈ st.Cone := by
  have h := IndexFunc_any l (fun x => solver_demanding_1 x st)
  constructor
  · intro hh y hy
    cases hc : slices_Contains_int st.Cone y with
    | true => exact (Contains_iff _ _).1 hc
    | false => rw [h.2 ⟨y, hy, by unfold solver_demanding_1; simp only [hc]; rfl⟩] at hh; cases hh
  · intro hh
    cases hc : slices_ContainsFunc_int l (fun x => solver_demanding_1 x st) with
    | false => rfl
    | true =>
      obtain ⟨y, hy, e⟩ := h.1 hc
      unfold solver_demanding_1 at e
      simp only [(Contains_iff _ _).2 (hh y hy)] at e; cases e
theorem pdb_false {s : GSystem} {k : List GKnown} {st : GState} {i : Int} : pdb s k st i = false ↔ st.Leaf.getD i.toNat false = (decide (i < st.At) && decide (0 ≤ kfind k (cN st i) 0)) ∧ ∀ y ∈ dl s st i, y ∈ st.Cone := by
  unfold pdb
  rw [Bool.or_eq_false_iff, demanding_1_any s]
  simp
theorem demanding_scan (s : GSystem) (k : List GKnown) (st : GState) (r : Nat) (i : Int) : solver_demanding_L0 s k st (r + 1) i = bif pdb s k st i then .ret false else solver_demanding_L0 s k st r (i + 1) := by
  rw [solver_demanding_L0]
  simp only [pfind_eq]
  unfold pdb dl dN cN
  all_goals (cases decide (i < st.At) <;> cases (i == st.At) <;> cases decide (st.At < i) <;> cases st.Leaf.getD i.toNat false <;> cases decide (0 ≤ kfind k (st.Cone.getD i.toNat 0) 0) <;> rfl)
theorem demanding_iff (s : GSystem) (k : List GKnown) (st : GState) : solver_demanding s k st = true ↔ Dem s k st := by
  have sc := scan (fun r i => solver_demanding_L0 s k st r i) (pdb s k st) false () (fun _ => rfl) (demanding_scan s k st) ((((((st.Cone.length : Nat) : Int) : Int) - 0).toNat)) 0
  have key : (solver_demanding_L0 s k st ((((((st.Cone.length : Nat) : Int) : Int) - 0).toNat)) 0 = .ret false ∧ ¬ ∀ i : Int, 0 ≤ i → i < (st.Cone.length : Int) → pdb s k st i = false) ∨ (solver_demanding_L0 s k st ((((((st.Cone.length : Nat) : Int) : Int) - 0).toNat)) 0 = .brk () ∧ ∀ i : Int, 0 ≤ i → i < (st.Cone.length : Int) → pdb s k st i = false) := by
    rcases sc with ⟨e, j, j1, j2, j3⟩ | ⟨e, h⟩
    · refine .inl ⟨e, fun h => ?_⟩
      rw [h j j1 (by omega)] at j3; cases j3
    · exact .inr ⟨e, fun i i0 i1 => h i i0 (by omega)⟩
  unfold solver_demanding solver_demanding_J0
  simp only [pfind_eq]
  by_cases h1 : st.At < 0
  · simp only [decide_eq_true h1, cond_true]; exact ⟨fun h => (by cases h), fun h => by have := h.at_; omega⟩
  by_cases h2 : (st.Cone.length : Int) ≤ st.At
  · simp only [decide_eq_false h1, decide_eq_true h2, cond_true, cond_false]; exact ⟨fun h => (by cases h), fun h => by have := h.at_; omega⟩
  by_cases h3 : 0 < (st.Values.length : Int)
  · simp only [decide_eq_false h1, decide_eq_false h2, decide_eq_true h3, cond_true, cond_false]; exact ⟨fun h => (by cases h), fun h => by have := h.vl; omega⟩
  by_cases h4 : 0 < (st.Queue.length : Int)
  · simp only [decide_eq_false h1, decide_eq_false h2, decide_eq_false h3, decide_eq_true h4, cond_true, cond_false]; exact ⟨fun h => (by cases h), fun h => by have := h.ql; omega⟩
  by_cases h5 : st.Edge < 0
  · simp only [decide_eq_false h1, decide_eq_false h2, decide_eq_false h3, decide_eq_false h4, decide_eq_true h5, cond_true, cond_false]; exact ⟨fun h => (by cases h), fun h => by have := h.ed; omega⟩
  by_cases h6 : ((s.Deps.getD (st.Cone.getD st.At.toNat 0).toNat []).length : Int) < st.Edge
  · simp only [decide_eq_false h1, decide_eq_false h2, decide_eq_false h3, decide_eq_false h4, decide_eq_false h5, decide_eq_true h6, cond_true, cond_false]; exact ⟨fun h => (by cases h), fun h => by have := h.ed; unfold dN cN at this; omega⟩
  simp only [decide_eq_false h1, decide_eq_false h2, decide_eq_false h3, decide_eq_false h4, decide_eq_false h5, decide_eq_false h6, cond_false]
  have all : (0 < st.Edge → kfind k (cN st st.At) 0 < 0) → ((∀ i : Int, 0 ≤ i → i < (st.Cone.length : Int) → pdb s k st i = false) ↔ Dem s k st) := fun hek => by
    constructor
    · intro h
      exact ⟨by omega, by omega, by omega, by unfold dN cN; omega, hek, fun i i0 i1 => (pdb_false.1 (h i i0 i1)).1, fun i i0 i1 => (pdb_false.1 (h i i0 i1)).2⟩
    · intro h i i0 i1
      exact pdb_false.2 ⟨h.lf i i0 i1, h.cl i i0 i1⟩
  rcases key with ⟨e, hk⟩ | ⟨e, hk⟩
  · rw [e]
    by_cases h7 : 0 < st.Edge
    · simp only [decide_eq_true h7, cond_true]
      by_cases h8 : 0 ≤ kfind k (st.Cone.getD st.At.toNat 0) 0
      · simp only [decide_eq_true h8, cond_true]; exact ⟨fun h => (by cases h), fun h => by have := h.ek h7; unfold cN at this; omega⟩
      · simp only [decide_eq_false h8, cond_false]; exact ⟨fun h => (by cases h), fun h => absurd ((all h.ek).2 h) hk⟩
    · simp only [decide_eq_false h7, cond_false]; exact ⟨fun h => (by cases h), fun h => absurd ((all h.ek).2 h) hk⟩
  · rw [e]
    by_cases h7 : 0 < st.Edge
    · simp only [decide_eq_true h7, cond_true]
      by_cases h8 : 0 ≤ kfind k (st.Cone.getD st.At.toNat 0) 0
      · simp only [decide_eq_true h8, cond_true]; exact ⟨fun h => (by cases h), fun h => by have := h.ek h7; unfold cN at this; omega⟩
      · simp only [decide_eq_false h8, cond_false]; exact ⟨fun _ => (all (fun _ => by unfold cN; omega)).1 hk, fun _ => by trivial⟩
    · simp only [decide_eq_false h7, cond_false]; exact ⟨fun _ => (all (fun h => absurd h h7)).1 hk, fun _ => by trivial⟩
theorem solving_L0_eq (s : GSystem) (k : List GKnown) (st : GState) : ∀ (m : Nat) (l : List Int) (i : Int), solver_solving_L0 s k st m l i = flqref14_validSolve_L0 s k st m l i
  | 0, l, i => rfl
  | m + 1, l, i => by
    rw [solver_solving_L0, flqref14_validSolve_L0]
    simp only [setValid_eq, pfind_eq, rfind_eq, solving_L0_eq s k st m]
theorem solving_eq {s : GSystem} (hv : VSys s) (k : List GKnown) (st : GState) (hl : st.Leaf.length = st.Cone.length) (hr : ∀ x ∈ st.Cone, 0 ≤ x ∧ x < (s.Deps.length : Int)) : solver_solving s k st = flqref14_validSolve s k st := by
  unfold solver_solving flqref14_validSolve
  have hb := solving_brk s k st hl hr st.Cone.length [] 0
  have hq := queue_L1 st st.Queue.length 0 (by omega) (by omega)
  rw [queue_range] at hq
  simp only [solving_L0_eq, distinct_eq (show (0 : Int) ≤ (st.Cone.length : Int) by omega)]
  simp only [show (((((st.Cone.length : Nat) : Int) : Int) - 0).toNat) = st.Cone.length by omega, show (((((st.Queue.length : Nat) : Int) : Int) - 0).toNat) = st.Queue.length by omega]
  cases (st.At != 0) with
  | true => rfl
  | false =>
    cases (st.Edge != 0) with
    | true => rfl
    | false =>
      cases ((st.Values.length : Int) != (st.Cone.length : Int)) with
      | true => rfl
      | false =>
        cases flqref14_repeated st.Queue with
        | true => cases ((st.Queue.length : Int) == 0) <;> cases (st.Phase == 3) <;> rfl
        | false =>
          rcases hq with ⟨e, h⟩ | ⟨e, h⟩
          · rw [decide_eq_true h]
            cases hE : flqref14_validSolve_L0 s k st st.Cone.length [] 0 with
            | oof => cases ((st.Queue.length : Int) == 0) <;> cases (st.Phase == 3) <;> rfl
            | ret r => cases ((st.Queue.length : Int) == 0) <;> cases (st.Phase == 3) <;> rfl
            | brk o =>
              have ho := hb o (by omega) (by omega) (by intro x hx; cases hx) hE
              simp only [e, closedRef_eq hv hr ho]
              all_goals (cases ((st.Queue.length : Int) == 0) <;> cases (st.Phase == 3) <;> rfl)
          · rw [decide_eq_false h]
            cases hE : flqref14_validSolve_L0 s k st st.Cone.length [] 0 with
            | oof => cases ((st.Queue.length : Int) == 0) <;> cases (st.Phase == 3) <;> simp
            | ret r => have := solving_ret s k st _ _ _ _ hE; subst this; cases ((st.Queue.length : Int) == 0) <;> cases (st.Phase == 3) <;> rfl
            | brk o => simp only [e]; cases ((st.Queue.length : Int) == 0) <;> cases (st.Phase == 3) <;> rfl
theorem PV_args {s : GSystem} {k : List GKnown} {st : GState} (h : solver_Valid s k st = true) : solver_arguments s k = true ∧ solver_distinct st.Cone (s.Deps.length : Int) = true ∧ st.Leaf.length = st.Cone.length ∧ 1 ≤ st.Cone.length ∧ 0 ≤ st.Steps ∧ st.Steps ≤ 1073741824 := by
  unfold solver_Valid at h
  simp only [Bool.cond_eq_ite] at h
  repeat' split at h
  all_goals first | (cases h; done) | skip
  all_goals simp_all
  all_goals first | omega | (have := List.length_pos_iff.2 (by assumption : st.Cone ≠ []); omega)
theorem PV_steps {s : GSystem} {k : List GKnown} {st : GState} (h : solver_Valid s k st = true) : 0 ≤ st.Steps ∧ st.Steps ≤ 1073741824 := (PV_args h).2.2.2.2
theorem PV_cone {s : GSystem} {k : List GKnown} {st : GState} (h : solver_Valid s k st = true) : st.Cone.length ≤ 256 := by
  have a := PV_args h
  have v := arguments_V a.1
  have := distinct_len a.2.1 (by omega)
  have := v.n
  omega
theorem PValid8_iff (s : GSystem) (k : List GKnown) (st : GState) : solver_Valid s k st = true ↔ VStt s k st := by
  unfold solver_Valid
  simp only [arguments_eq]
  cases h1 : equations_Valid s with
  | false => exact ⟨fun h => (by cases h), fun h => by rw [(EValid_iff s).2 h.v] at h1; cases h1⟩
  | true =>
  have hv := (EValid_iff s).1 h1
  cases h2 : flqref14_ValidKnown s k with
  | false => exact ⟨fun h => (by cases h), fun h => by rw [h.kn] at h2; cases h2⟩
  | true =>
  simp only [Bool.and_true, Bool.not_true, cond_false]
  by_cases h3 : (st.Cone.length : Int) = 0
  · rw [beqI h3]; exact ⟨fun h => (by cases h), fun h => by have := h.cn; omega⟩
  rw [bneI h3]
  cases h4 : solver_distinct st.Cone (s.Deps.length : Int) with
  | false => exact ⟨fun h => (by cases h), fun h => by rw [(distinct_iff (by omega)).2 h.co] at h4; cases h4⟩
  | true =>
  have hco := (distinct_iff (by omega)).1 h4
  by_cases h5 : (st.Leaf.length : Int) = (st.Cone.length : Int)
  case neg =>
    have : ((st.Leaf.length : Int) != (st.Cone.length : Int)) = true := by simp [h5]
    rw [this]; exact ⟨fun h => (by cases h), fun h => by have := h.lf; omega⟩
  have e5 : ((st.Leaf.length : Int) != (st.Cone.length : Int)) = false := by simp [h5]
  rw [e5]
  by_cases h6 : st.Steps < 0
  · rw [decide_eq_true h6]; exact ⟨fun h => (by cases h), fun h => by have := h.sp; omega⟩
  rw [decide_eq_false h6]
  by_cases h7 : 1073741824 < st.Steps
  · rw [decide_eq_true h7]; exact ⟨fun h => (by cases h), fun h => by have := h.sp; omega⟩
  rw [decide_eq_false h7]
  simp only [cond_false, Bool.not_true]
  rw [solving_eq hv k st (by omega) hco.2]
  by_cases p1 : st.Phase = 1
  · rw [beqI p1]
    simp only [cond_true]
    rw [demanding_iff]
    exact ⟨fun h => ⟨hv, h2, by omega, hco, by omega, by omega, .inl ⟨p1, h⟩⟩, fun h => by rcases h.ph with ⟨_, h⟩ | ⟨h, _⟩; exact h; omega⟩
  · rw [bneI p1]
    by_cases p2 : st.Phase = 2
    · rw [beqI p2]
      simp only [cond_true, cond_false]
      exact ⟨fun h => ⟨hv, h2, by omega, hco, by omega, by omega, .inr ⟨.inl p2, h⟩⟩, fun h => by rcases h.ph with ⟨h, _⟩ | ⟨_, h⟩; omega; exact h⟩
    · rw [bneI p2]
      by_cases p3 : st.Phase = 3
      · rw [beqI p3]
        simp only [cond_true, cond_false]
        exact ⟨fun h => ⟨hv, h2, by omega, hco, by omega, by omega, .inr ⟨.inr p3, h⟩⟩, fun h => by rcases h.ph with ⟨h, _⟩ | ⟨_, h⟩; omega; exact h⟩
      · rw [bneI p3]
        exact ⟨fun h => (by cases h), fun h => by have := h.ph; omega⟩
theorem PV_facts {s : GSystem} {k : List GKnown} {st : GState} (h : solver_Valid s k st = true) : VSys s ∧ (st.Phase = 1 → DOk s k st) ∧ (st.Phase = 2 → POk s st) ∧ (st.Phase = 1 ∨ st.Phase = 2 ∨ st.Phase = 3) := VStt_facts ((PValid8_iff s k st).1 h)
theorem clone_eq (s : GSet) : solver_clone s = s := rfl
theorem copied_L0 (st : GState) : ∀ (m : Nat) (o : List GSet) (i : Int), 0 ≤ i → i + m = (st.Values.length : Int) → solver_copied_L0 st m o i = o ++ st.Values.drop i.toNat
  | 0, o, i, h0, h1 => by
    rw [List.drop_eq_nil_of_le (by omega), List.append_nil]; rfl
  | m + 1, o, i, h0, h1 => by
    rw [solver_copied_L0, copied_L0 st m _ (i + 1) (by omega) (by omega)]
    have hl : i.toNat < st.Values.length := by omega
    rw [List.drop_eq_getElem_cons hl, show (i + 1).toNat = i.toNat + 1 by omega, clone_eq]
    simp [List.getD, List.getElem?_eq_getElem hl]
theorem copied_eq (st : GState) : solver_copied st = st := by
  have h := copied_L0 st st.Values.length [] 0 (by omega) (by omega)
  unfold solver_copied
  rw [show ((((st.Values.length : Nat) : Int) : Int) - 0).toNat = st.Values.length by omega]
  simp only [h]
  rfl
theorem begin_steps (s : GSystem) (k : List GKnown) (st : GState) : (solver_begin s k st).Steps = st.Steps := by
  unfold solver_begin
  rfl
theorem begin_L0_spec (s : GSystem) (k : List GKnown) (st : GState) : ∀ (m : Nat) (v : List GSet) (q : List Int) (i : Int), 0 ≤ i → i + m = (st.Cone.length : Int) →
    solver_begin_L0 s k st m v q i = (v ++ (List.range' i.toNat m).map (fun j : Nat => initV1 s k st.Cone st.Leaf j), ((List.range' i.toNat m).map (fun j : Nat => (j : Int))).reverse ++ q)
  | 0, v, q, i, h0, h1 => by simp [solver_begin_L0]
  | m + 1, v, q, i, h0, h1 => by
    rw [solver_begin_L0]
    simp only [pfind_eq, clone_eq]
    rw [begin_L0_spec s k st m _ _ (i + 1) (by omega) (by omega), begin_L0_spec s k st m _ _ (i + 1) (by omega) (by omega), List.range'_succ, show (i + 1).toNat = i.toNat + 1 by omega]
    simp only [List.map_cons, List.append_assoc, List.singleton_append, Int.toNat_of_nonneg h0, List.reverse_cons, List.cons_append, List.nil_append]
    unfold initV1 Bd
    cases st.Leaf.getD i.toNat false <;> simp
theorem expand_steps {s : GSystem} {k : List GKnown} {st r : GState} (h : solver_expand s k st = r) : r.Steps = st.Steps := by
  subst h
  unfold solver_expand solver_expand_J0 solver_expand_J1
  simp only [Bool.cond_eq_ite]
  repeat' split
  all_goals first | rfl | rw [begin_steps]
theorem expand_eq {s : GSystem} {k : List GKnown} {st : GState} (hv : st.Values = []) (hq : st.Queue = []) (ha : st.At < (st.Cone.length : Int)) : solver_expand s k st = dstep s k st := by
  have hL : ∀ (p a e n : Int) lf, solver_begin s k (GState.mk p st.Cone lf a e st.Values st.Queue n) = GState.mk 2 st.Cone lf 0 e (initV s k st.Cone lf) (initQ st.Cone.length) n := fun p a e n lf => by
    unfold solver_begin
    simp only
    rw [begin_L0_spec _ _ _ _ _ _ _ (by omega) (by show 0 + ((((st.Cone.length : Nat) : Int) - 0).toNat : Int) = (st.Cone.length : Int); omega), hv, hq, show ((((st.Cone.length : Nat) : Int) - 0).toNat) = st.Cone.length by omega]
    simp only [List.nil_append, List.append_nil, Int.toNat_zero, ← List.range_eq_range', initQ_rev]
    rfl
  unfold solver_expand solver_expand_J0 solver_expand_J1 dstep dnext dlf dN cN
  simp only [pfind_eq, hL, Contains_eq, Has_dec]
  by_cases e0 : st.Edge = 0 <;> by_cases kf : 0 ≤ kfind k (st.Cone.getD st.At.toNat 0) 0
  · simp only [e0, kf, true_and, if_true, beq_self_eq_true, decide_true, cond_true]
    generalize (st.Leaf.set st.At.toNat true) = lf
    simp only [Bool.cond_eq_ite, Bool.not_eq_true', decide_eq_true_eq, decide_eq_false_iff_not, beq_iff_eq]
    repeat' split
    all_goals first | rfl | (exfalso; omega) | (exfalso; simp_all; done) | (exfalso; simp_all; omega)
  · simp only [e0, kf, true_and, and_false, if_false, beq_self_eq_true, decide_false, cond_true, cond_false]
    simp only [Bool.cond_eq_ite, Bool.not_eq_true', decide_eq_true_eq, decide_eq_false_iff_not, beq_iff_eq]
    repeat' split
    all_goals first | rfl | (exfalso; omega) | (exfalso; simp_all; done) | (exfalso; simp_all; omega)
  · have eb : (st.Edge == 0) = false := by simp [e0]
    simp only [e0, eb, false_and, if_false, cond_false]
    simp only [Bool.cond_eq_ite, Bool.not_eq_true', decide_eq_true_eq, decide_eq_false_iff_not, beq_iff_eq]
    repeat' split
    all_goals first | rfl | (exfalso; omega) | (exfalso; simp_all; done) | (exfalso; simp_all; omega)
  · have eb : (st.Edge == 0) = false := by simp [e0]
    simp only [e0, eb, false_and, if_false, cond_false]
    simp only [Bool.cond_eq_ite, Bool.not_eq_true', decide_eq_true_eq, decide_eq_false_iff_not, beq_iff_eq]
    repeat' split
    all_goals first | rfl | (exfalso; omega) | (exfalso; simp_all; done) | (exfalso; simp_all; omega)

theorem expand_V {s : GSystem} {k : List GKnown} {st : GState} (h : solver_Valid s k st = true) (hp : st.Phase = 1) (r : GState) (hr : solver_expand s k st = r) : solver_Valid s k (GState.mk r.Phase r.Cone r.Leaf r.At r.Edge r.Values r.Queue (min (r.Steps + 1) 1073741824)) = true := by
  have hV := (PValid8_iff s k st).1 h
  have hsp := hV.sp
  rcases VStt_ph hV with ⟨a, b⟩ | ⟨a, b⟩ | ⟨a, b⟩
  · obtain ⟨e1, e2⟩ := Dem_nil b
    rw [expand_eq e1 e2 b.at_.2] at hr
    subst hr
    exact (PValid8_iff s k _).2 (dstep_V hV a b (by rw [dstep_Steps]; omega))
  · omega
  · omega
theorem PDep_L0 {s : GSystem} {cone : List Int} {leaf : List Bool} {i : Int} : ∀ (m : Nat) (out : List Int) (j : Int), 0 ≤ j → j + m = (cone.length : Int) → (∀ x ∈ out, 0 ≤ x ∧ x < (cone.length : Int)) → ∀ x ∈ cone_Dependents_L0 s cone leaf i m out j, 0 ≤ x ∧ x < (cone.length : Int)
  | 0, out, j, h0, h1, h => h
  | m + 1, out, j, h0, h1, h => by
    rw [cone_Dependents_L0]
    have hp : ∀ x ∈ out ++ [j], 0 ≤ x ∧ x < (cone.length : Int) := fun x hx => by
      rcases List.mem_append.1 hx with hx | hx
      · exact h x hx
      · simp at hx; omega
    simp only [Bool.cond_eq_ite]
    repeat' split
    all_goals first | exact PDep_L0 m _ (j + 1) (by omega) (by omega) hp | exact PDep_L0 m _ (j + 1) (by omega) (by omega) h
theorem PDep_mem {s : GSystem} {cone : List Int} {leaf : List Bool} {i : Int} {r : List Int} (h : cone_Dependents s cone leaf i = r) : ∀ x ∈ r, 0 ≤ x ∧ x < (cone.length : Int) := by
  subst h
  unfold cone_Dependents
  simp only [Bool.cond_eq_ite]
  repeat' split
  all_goals first | (intro x hx; cases hx; done) | exact PDep_L0 _ _ _ (by omega) (by omega) (by intro x hx; cases hx)
theorem PDep_L0_eq (s : GSystem) (cone : List Int) (leaf : List Bool) (i : Int) : ∀ (m : Nat) (o : List Int) (j : Int), cone_Dependents_L0 s cone leaf i m o j = flqref14_Dependents_L0 s cone leaf i m o j
  | 0, o, j => rfl
  | m + 1, o, j => by rw [cone_Dependents_L0, flqref14_Dependents_L0]; simp only [Contains_eq, PDep_L0_eq s cone leaf i m]
theorem PDep_eq {s : GSystem} (hv : VSys s) {cone : List Int} (hc : ∀ x ∈ cone, 0 ≤ x ∧ x < (s.Deps.length : Int)) {leaf : List Bool} (hl : leaf.length = cone.length) {i : Int} (h0 : 0 ≤ i) (h1 : i < (cone.length : Int)) : cone_Dependents s cone leaf i = depl s cone leaf i := by
  rw [← RDep_eq hv hc hl h0 h1]
  unfold cone_Dependents flqref14_Dependents
  simp only [Valid_eq, unknowns_eq hv, PDep_L0_eq]
theorem merge_L0_len (a b : GSet) (f : BitVec 64 → BitVec 64 → BitVec 64) : ∀ (m : Nat) (o : List (BitVec 64)) (i : Int), (bitset_merge_L0 a b f m o i).length = o.length
  | 0, o, i => rfl
  | m + 1, o, i => by rw [bitset_merge_L0, merge_L0_len a b f m]; simp
theorem merge_L0_get (a b : GSet) (f : BitVec 64 → BitVec 64 → BitVec 64) : ∀ (m : Nat) (o : List (BitVec 64)) (i : Int), 0 ≤ i → i + m = (o.length : Int) → ∀ j : Nat, j < o.length → (bitset_merge_L0 a b f m o i).getD j 0#64 = if i ≤ (j : Int) then f (a.Words.getD j 0#64) (b.Words.getD j 0#64) else o.getD j 0#64
  | 0, o, i, h0, h1, j, hj => by
    rw [if_neg (by omega)]; rfl
  | m + 1, o, i, h0, h1, j, hj => by
    rw [bitset_merge_L0, merge_L0_get a b f m _ (i + 1) (by omega) (by simp; omega) j (by simpa using hj)]
    rw [getD_set]
    by_cases e : i.toNat = j
    · rw [if_neg (by omega), if_pos (by omega), if_pos (by omega), e]
    · rw [if_neg (c := _ ∧ _) (fun h => e h.1)]
      by_cases h2 : i ≤ (j : Int)
      · rw [if_pos (by omega), if_pos h2]
      · rw [if_neg (by omega), if_neg h2]
theorem merge_spec {w : Int} {a b : GSet} (f : BitVec 64 → BitVec 64 → BitVec 64) (g : Bool → Bool → Bool) (hf : ∀ u v (j : Nat), (f u v).getLsbD j = g (u.getLsbD j) (v.getLsbD j)) (hg : g false false = false) (ha : VSt w a) (hb : VSt w b) :
    ∃ r, bitset_merge a b f = (r, 0) ∧ VSt w r ∧ ∀ x, flqref1_Has r x = g (flqref1_Has a x) (flqref1_Has b x) := by
  have a1 := VSt_w ha; have b1 := VSt_w hb
  let o := bitset_merge_L0 a b f a.Words.length (List.replicate a.Words.length 0#64) 0
  have ol : o.length = a.Words.length := by rw [merge_L0_len]; simp
  have hbit : ∀ x : Int, 0 ≤ x → x < 64 * (a.Words.length : Int) → bitAt o x = g (bitAt a.Words x) (bitAt b.Words x) := by
    intro x x0 x1
    unfold bitAt
    rw [merge_L0_get a b f a.Words.length (List.replicate a.Words.length 0#64) 0 (by omega) (by simp) (x / 64).toNat (by simp; omega), if_pos (by omega), hf]
  have hv : VSt w ⟨w, o⟩ := by
    refine ⟨⟨a1.1, a1.2.1, by show (o.length : Int) = _; rw [ol]; exact a1.2.2.2, fun x x0 x1 => ?_⟩, rfl⟩
    have x0 : w ≤ x := x0
    have x1 : x < 64 * (o.length : Int) := x1
    show bitAt o x = false
    rw [ol] at x1
    rw [hbit x (by omega) x1, ha.1.2.2.2 x (by omega) (by omega), hb.1.2.2.2 x (by omega) (by omega), hg]
  refine ⟨⟨w, o⟩, ?_, hv, fun x => ?_⟩
  · unfold bitset_merge
    have e : (a.Width != b.Width) = false := by rw [a1.2.2.1, b1.2.2.1]; simp
    rw [a1.2.2.1] at e
    simp only [VSt_pvalid ha, VSt_pvalid hb, Bool.not_true, cond_false, List.length_replicate, a1.2.2.1, e]
    rw [show ((((a.Words.length : Nat) : Int).toNat : Nat) : Int) - 0 = (a.Words.length : Int) by omega, Int.toNat_natCast]
  · rw [Has_eq hv, Has_eq ha, Has_eq hb]
    by_cases x0 : 0 ≤ x
    · by_cases x1 : x < w
      · simp only [decide_eq_true x0, decide_eq_true x1, Bool.true_and]
        exact hbit x x0 (by omega)
      · simp [x1, hg]
    · simp [x0, hg]
theorem bDiff_spec {w : Int} {a b : GSet} (ha : VSt w a) (hb : VSt w b) : ∃ r, bitset_Diff a b = (r, 0) ∧ VSt w r ∧ ∀ x, flqref1_Has r x = (flqref1_Has a x && !flqref1_Has b x) := by
  obtain ⟨r, e, hr, hh⟩ := merge_spec (fun x0 x1 => bitset_Diff_1 x0 x1) (fun p q => p && !q) (fun u v j => by
    unfold bitset_Diff_1
    rw [BitVec.getLsbD_and, BitVec.getLsbD_not]
    by_cases hj : j < 64
    · simp [hj]
    · simp [hj, BitVec.getLsbD_of_ge u j (by omega)]) rfl ha hb
  refine ⟨r, ?_, hr, hh⟩
  unfold bitset_Diff; simp only [e]
theorem bUnion_eq (a b : GSet) : bitset_Union a b = flqref1_Union a b := by
  cases hva : bitset_Valid a with
  | false => unfold bitset_Union bitset_merge flqref1_Union flqref1_mix; simp only [← setValid_eq, hva]; rfl
  | true =>
    cases hvb : bitset_Valid b with
    | false => unfold bitset_Union bitset_merge flqref1_Union flqref1_mix; simp only [← setValid_eq, hva, hvb]; rfl
    | true =>
      by_cases hw : a.Width = b.Width
      · have ha : VSt a.Width a := ⟨(PValid_iff a).1 hva, rfl⟩
        have hb : VSt a.Width b := ⟨(PValid_iff b).1 hvb, hw.symm⟩
        obtain ⟨r, e, hr, hh⟩ := merge_spec (fun x0 x1 => bitset_Union_1 x0 x1) (· || ·) (fun u v j => by simp [bitset_Union_1]) rfl ha hb
        obtain ⟨q, e', hq, hh'⟩ := Union_spec ha hb
        have : r = q := set_ext hr hq fun x _ _ => by rw [hh, hh']
        unfold bitset_Union
        simp only [e, e', this]
      · have e1 : (a.Width != b.Width) = true := by simp [hw]
        unfold bitset_Union bitset_merge flqref1_Union flqref1_mix; simp only [← setValid_eq, hva, hvb, e1]; rfl
theorem within_iff {s : GSet} {b : Int} (h : bitset_within s b = true) : 0 ≤ b ∧ b < s.Width := by
  unfold bitset_within at h
  simp [Bool.cond_eq_ite] at h; omega
theorem within_mk {s : GSet} {b : Int} (h : 0 ≤ b ∧ b < s.Width) : bitset_within s b = true := by
  unfold bitset_within
  simp [Bool.cond_eq_ite]; omega
theorem bHas_eq (s : GSet) (b : Int) : bitset_Has s b = flqref1_Has s b := by
  unfold bitset_Has
  rw [setValid_eq]
  cases hv : flqref1_Valid s with
  | false => unfold flqref1_Has; simp only [hv, cond_false]
  | true =>
    have h : VSt s.Width s := ⟨(RValid_iff s).1 hv, rfl⟩
    have hw := VSt_w h
    rw [Has_eq h]
    simp only [cond_true]
    cases hb : bitset_within s b with
    | true =>
      have := within_iff hb
      simp only [cond_true, decide_eq_true this.1, decide_eq_true this.2, Bool.true_and]
      rw [pos_eq (by omega), bit_test]; rfl
    | false =>
      simp only [cond_false]
      unfold bitset_within at hb
      simp [Bool.cond_eq_ite] at hb
      symm
      rw [Bool.eq_false_iff]
      simp; intro h1 h2; omega
theorem bWith_spec {w : Int} {s : GSet} (hs : VSt w s) {b : Int} (hb : 0 ≤ b ∧ b < w) : ∃ r, bitset_With s b = (r, 0) ∧ VSt w r ∧ ∀ x, flqref1_Has r x = (flqref1_Has s x || x == b) := by
  have hw := VSt_w hs
  let q := s.Words.set (b / 64).toNat ((s.Words.getD (b / 64).toNat 0#64) &&& ~~~(1#64 <<< (b % 64).toNat))
  have ql : q.length = s.Words.length := by simp [q]
  have e1 : q.set (b / 64).toNat ((q.getD (b / 64).toNat 0#64) ||| (1#64 <<< (b % 64).toNat)) = (flqref1_Put s b).Words := by
    rw [Put_words hs hb]
    simp only [q]
    rw [List.set_set]
    congr 1
    rw [List.getD_eq_getElem?_getD, List.getElem?_set, if_pos rfl, if_pos (by omega)]
    simp only [Option.getD_some]
    apply BitVec.eq_of_getLsbD_eq
    intro j hj
    simp only [BitVec.getLsbD_or, BitVec.getLsbD_and, BitVec.getLsbD_not, hj, decide_true, Bool.true_and]
    all_goals (cases (s.Words.getD (b / 64).toNat 0#64).getLsbD j <;> cases (1#64 <<< (b % 64).toNat).getLsbD j <;> rfl)
  refine ⟨flqref1_Put s b, ?_, Put_V hs hb, Put_has hs hb⟩
  unfold bitset_With bitset_changed bitset_put slices_Clone_uint64
  simp only [VSt_pvalid hs, within_mk (s := s) (b := b) (by omega), Bool.not_true, cond_false, cond_true]
  rw [pos_eq (by omega)]
  rw [e1]
  have : (flqref1_Put s b).Width = s.Width := rfl
  rw [← this]
theorem pApply_L0_spec {w : Int} {t : GTransfer} {s : GSet} (hs : VSt w s) (hc : ∀ c ∈ t.Copies, 0 ≤ c.To ∧ c.To < w) : ∀ (m : Nat) (o0 : Int) (o1 : List (BitVec 64)) (i : Int), 0 ≤ i → i + m = (t.Copies.length : Int) → VSt w ⟨o0, o1⟩ →
    VSt w ⟨(transfer_apply_L0 t s m o0 o1 i).1, (transfer_apply_L0 t s m o0 o1 i).2⟩ ∧ ∀ x, flqref1_Has ⟨(transfer_apply_L0 t s m o0 o1 i).1, (transfer_apply_L0 t s m o0 o1 i).2⟩ x = true ↔ flqref1_Has ⟨o0, o1⟩ x = true ∨ ∃ j : Int, i ≤ j ∧ j < i + m ∧ flqref1_Has s (t.Copies.getD j.toNat default).From = true ∧ (t.Copies.getD j.toNat default).To = x
  | 0, o0, o1, i, h0, h1, h => ⟨h, fun x => by
      constructor
      · intro h; exact .inl h
      · rintro (h | ⟨c, c1, c2, _⟩)
        · exact h
        · omega⟩
  | m + 1, o0, o1, i, h0, h1, h => by
    rw [transfer_apply_L0]
    simp only [bHas_eq]
    cases hh : flqref1_Has s (t.Copies.getD i.toNat default).From with
    | false =>
      simp only [cond_false]
      obtain ⟨i1, i2⟩ := pApply_L0_spec (t := t) hs hc m o0 o1 (i + 1) (by omega) (by omega) h
      refine ⟨i1, fun x => (i2 x).trans ?_⟩
      constructor
      · rintro (h | ⟨j, j1, j2, j3⟩)
        · exact .inl h
        · exact .inr ⟨j, by omega, by omega, j3⟩
      · rintro (h | ⟨j, j1, j2, j3, j4⟩)
        · exact .inl h
        · by_cases e : j = i
          · subst e; rw [hh] at j3; cases j3
          · exact .inr ⟨j, by omega, by omega, j3, j4⟩
    | true =>
      simp only [cond_true]
      obtain ⟨r, e, hr, hrh⟩ := bWith_spec h (hc _ (getD_mem (xs := t.Copies) (i := i.toNat) (d := default) (by omega)))
      rw [e]
      obtain ⟨i1, i2⟩ := pApply_L0_spec (t := t) hs hc m r.Width r.Words (i + 1) (by omega) (by omega) hr
      refine ⟨i1, fun x => (i2 x).trans ?_⟩
      rw [show (⟨r.Width, r.Words⟩ : GSet) = r from rfl, hrh]
      simp only [Bool.or_eq_true, beq_iff_eq]
      constructor
      · rintro ((h | h) | ⟨j, j1, j2, j3⟩)
        · exact .inl h
        · exact .inr ⟨i, by omega, by omega, hh, h.symm⟩
        · exact .inr ⟨j, by omega, by omega, j3⟩
      · rintro (h | ⟨j, j1, j2, j3, j4⟩)
        · exact .inl (.inl h)
        · by_cases e : j = i
          · subst e; exact .inl (.inr j4.symm)
          · exact .inr ⟨j, by omega, by omega, j3, j4⟩
theorem pApply_eq (t : GTransfer) (s : GSet) : transfer_Apply t s = flqref1_Apply t s := by
  cases ht : transfer_Valid t with
  | false => unfold transfer_Apply flqref1_Apply; simp only [← transferValid_eq, ht]; rfl
  | true =>
    cases hs : bitset_Valid s with
    | false => unfold transfer_Apply flqref1_Apply; simp only [← transferValid_eq, ht, ← setValid_eq, hs]; rfl
    | true =>
      by_cases hw : t.Gen.Width = s.Width
      case neg =>
        have e1 : (t.Gen.Width != s.Width) = true := by simp [hw]
        unfold transfer_Apply flqref1_Apply; simp only [← transferValid_eq, ht, ← setValid_eq, hs, e1]; rfl
      have hvt : flqref1_ValidTransfer t = true := by rw [← transferValid_eq]; exact ht
      have hVs : VSt s.Width s := ⟨(PValid_iff s).1 hs, rfl⟩
      obtain ⟨q, e, hq, hh⟩ := Apply_spec ⟨hvt, hw⟩ hVs
      have parts := ValidTransfer_parts hvt
      have hg : VSt s.Width t.Gen := ⟨parts.1, hw⟩
      have hk : VSt s.Width t.Kill := ⟨parts.2.1, by rw [← parts.2.2.1]; exact hw⟩
      have hcp := ValidTransfer_copies hvt
      rw [hw] at hcp
      obtain ⟨d, e1, hd, hhd⟩ := bDiff_spec hVs hk
      obtain ⟨u, e2, hu, hhu⟩ := Union_spec hd hg
      obtain ⟨i1, i2⟩ := pApply_L0_spec (t := t) hVs (fun c hc => (hcp c hc).2) t.Copies.length u.Width u.Words 0 (by omega) (by omega) hu
      rw [e]
      unfold transfer_Apply
      have e3 : (t.Gen.Width != s.Width) = false := by simp [hw]
      simp only [ht, hs, e3, Bool.not_true, cond_false]
      have e4 : transfer_apply t s = q := by
        unfold transfer_apply
        simp only [e1, bUnion_eq, e2]
        rw [show ((((t.Copies.length : Nat) : Int) - 0).toNat) = t.Copies.length by omega]
        refine set_ext i1 hq fun x x0 x1 => ?_
        rw [Bool.eq_iff_iff, i2, hh, show (⟨u.Width, u.Words⟩ : GSet) = u from rfl, hhu, hhd]
        simp only [Bool.or_eq_true, Bool.and_eq_true, Bool.not_eq_true', follows_iff]
        constructor
        · rintro ((⟨h1, h2⟩ | h) | ⟨j, j1, j2, j3, j4⟩)
          · exact .inr ⟨x, h1, x0, x1, .inl ⟨rfl, h2⟩⟩
          · exact .inl h
          · exact .inr ⟨_, j3, x0, x1, .inr ⟨_, getD_mem (by omega), rfl, j4⟩⟩
        · rintro (h | ⟨a, h1, _, _, h2 | ⟨c, hc, c1, c2⟩⟩)
          · exact .inl (.inr h)
          · obtain ⟨rfl, h2⟩ := h2; exact .inl (.inl ⟨h1, h2⟩)
          · obtain ⟨j, j0, j1, rfl⟩ := (mem_getDg (d := default)).1 hc
            exact .inr ⟨j, j0, by omega, by rw [c1]; exact h1, c2⟩
      rw [e4]
theorem Equal_words (a b : List (BitVec 64)) : slices_Equal_uint64 a b = flqref1_Same ⟨0, a⟩ ⟨0, b⟩ := by
  have h : ∀ m i, slices_Equal_uint64_L0 a b m i = flqref1_Same_L0 ⟨0, a⟩ ⟨0, b⟩ m i := by
    intro m
    induction m with
    | zero => intro i; rfl
    | succ m ih => intro i; rw [slices_Equal_uint64_L0, flqref1_Same_L0, ih]
  unfold slices_Equal_uint64 flqref1_Same
  rw [h]
  rfl
theorem bEqual_eq {w : Int} {a b : GSet} (ha : VSt w a) (hb : VSt w b) : bitset_Equal a b = flqref1_Same a b := by
  have a1 := VSt_w ha; have b1 := VSt_w hb
  unfold bitset_Equal
  have e : (a.Width == b.Width) = true := by rw [a1.2.2.1, b1.2.2.1]; simp
  simp only [VSt_pvalid ha, VSt_pvalid hb, e, cond_true]
  rw [Equal_words, Bool.eq_iff_iff, Same_iff, Same_iff]
  obtain ⟨wa, la⟩ := a; obtain ⟨wb, lb⟩ := b
  simp only at a1 b1
  rw [a1.2.2.1, b1.2.2.1]
  simp
theorem push_steps {s : GSystem} {st : GState} {r : Int × GState} (h : solver_push s st = r) : r.2.Steps = st.Steps := by
  subst h
  unfold solver_push
  simp only [Bool.cond_eq_ite]
  split <;> rfl
theorem push_L0_eq {s : GSystem} (hv : VSys s) {st : GState} {d : List Int} (hd : ∀ x ∈ d, 0 ≤ x ∧ x < (st.Cone.length : Int)) (hc : ∀ x ∈ st.Cone, 0 ≤ x ∧ x < (s.Deps.length : Int)) (hi : 0 ≤ st.Queue.getD 0 0 ∧ st.Queue.getD 0 0 < (st.Cone.length : Int)) : ∀ (m : Nat) (v : List GSet) (q : List Int) (n : Int), 0 ≤ n → n + m = (d.length : Int) → v.length = st.Cone.length → (∀ g ∈ v, VSt s.Width g) →
    solver_push_L0 s st d m v q n = pl s st.Cone (st.Queue.getD 0 0) (d.drop n.toNat) v q
  | 0, v, q, n, h0, h1, hl, hg => by rw [List.drop_eq_nil_of_le (by omega)]; rfl
  | m + 1, v, q, n, h0, h1, hl, hg => by
    have hj := hd _ (getD_mem (xs := d) (i := n.toNat) (d := 0) (by omega))
    have va : VSt s.Width (vat v (d.getD n.toNat 0)) := hg _ (getD_mem (by omega))
    have vi : VSt s.Width (vat v (st.Queue.getD 0 0)) := hg _ (getD_mem (by omega))
    have hci := hc _ (getD_mem (xs := st.Cone) (i := (st.Queue.getD 0 0).toNat) (d := 0) (by omega))
    have vp : VSt s.Width (app (Tr s (st.Cone.getD (st.Queue.getD 0 0).toNat 0)) (vat v (st.Queue.getD 0 0))) := app_V (VSys_trV hv hci.1 hci.2) vi
    have vj := Join_V va vp
    rw [solver_push_L0, drop_cons h0 (by omega), pl]
    simp only [Contains_eq, Has_dec, pApply_eq, bUnion_eq]
    have e : bitset_Equal (flqref1_Union (v.getD (d.getD n.toNat 0).toNat default) (flqref1_Apply (s.Transfers.getD (st.Cone.getD (st.Queue.getD (0 : Int).toNat 0).toNat 0).toNat default) (v.getD (st.Queue.getD (0 : Int).toNat 0).toNat default)).1).1 (v.getD (d.getD n.toNat 0).toNat default) = flqref1_Same (flqref1_Join (vat v (d.getD n.toNat 0)) (app (Tr s (st.Cone.getD (st.Queue.getD 0 0).toNat 0)) (vat v (st.Queue.getD 0 0)))) (vat v (d.getD n.toNat 0)) := bEqual_eq vj va
    rw [e]
    have ih : ∀ v' q', v'.length = st.Cone.length → (∀ g ∈ v', VSt s.Width g) → solver_push_L0 s st d m v' q' (n + 1) = pl s st.Cone (st.Queue.getD 0 0) (d.drop (n + 1).toNat) v' q' := fun v' q' a b => push_L0_eq hv hd hc hi m v' q' (n + 1) (by omega) (by omega) a b
    have hset : ∀ g ∈ v.set (d.getD n.toNat 0).toNat (flqref1_Join (vat v (d.getD n.toNat 0)) (app (Tr s (st.Cone.getD (st.Queue.getD 0 0).toNat 0)) (vat v (st.Queue.getD 0 0)))), VSt s.Width g := fun g hg' => by
      rcases List.mem_or_eq_of_mem_set hg' with h | h
      · exact hg g h
      · rw [h]; exact vj
    cases hs : flqref1_Same (flqref1_Join (vat v (d.getD n.toNat 0)) (app (Tr s (st.Cone.getD (st.Queue.getD 0 0).toNat 0)) (vat v (st.Queue.getD 0 0)))) (vat v (d.getD n.toNat 0)) with
    | true =>
      simp only [cond_true, if_true]
      exact ih v q hl hg
    | false =>
      simp only [cond_false, Bool.false_eq_true, if_false]
      by_cases hq : d.getD n.toNat 0 ∈ q
      · simp only [hq, decide_true, Bool.not_true, cond_false, if_true]
        exact ih _ q (by simp [hl]) hset
      · simp only [hq, decide_false, Bool.not_false, cond_true, if_false]
        exact ih _ _ (by simp [hl]) hset
theorem push_eq {s : GSystem} {k : List GKnown} {st : GState} (h : VStt s k st) (hs : Sol s k st) (hp : st.Phase ≠ 3) : solver_push s st = (pcost s st, pstep s st) := by
  obtain ⟨q1, q2, q3⟩ := Sol_q hs hp
  have eD : cone_Dependents s st.Cone st.Leaf (st.Queue.getD (0 : Int).toNat 0) = depl s st.Cone st.Leaf (st.Queue.getD 0 0) := PDep_eq h.v h.co.2 h.lf q2 q3
  unfold solver_push
  simp only [eD, List.take_length]
  rw [push_L0_eq h.v (fun x hx => (mem_depl.1 hx).1) h.co.2 ⟨q2, q3⟩ _ _ _ _ (by omega) (by omega) hs.vl hs.vv]
  simp only [Int.toNat_zero, List.drop_zero]
  unfold pstep pcost
  simp only [show (1 : Int).toNat = 1 from rfl]
  generalize pl s st.Cone (st.Queue.getD 0 0) (depl s st.Cone st.Leaf (st.Queue.getD 0 0)) st.Values (List.drop 1 st.Queue) = r
  obtain ⟨r1, r2⟩ := r
  cases r2 with
  | nil => rfl
  | cons a l =>
    have : ((((a :: l).length : Nat) : Int) == 0) = false := by rw [beq_eq_false_iff_ne]; simp; omega
    simp only [this, cond_false]
    rw [if_neg (by simp)]

theorem push_V {s : GSystem} {k : List GKnown} {st : GState} (h : solver_Valid s k st = true) (hp : st.Phase = 2) (r : Int × GState) (hr : solver_push s st = r) : solver_Valid s k (GState.mk r.2.Phase r.2.Cone r.2.Leaf r.2.At r.2.Edge r.2.Values r.2.Queue (min (r.2.Steps + 1) 1073741824)) = true := by
  have hV := (PValid8_iff s k st).1 h
  have hsp := hV.sp
  rcases VStt_ph hV with ⟨a, b⟩ | ⟨a, b⟩ | ⟨a, b⟩
  · omega
  · rw [push_eq hV b (by omega)] at hr
    subst hr
    exact (PValid8_iff s k _).2 (pstep_V hV a b (by show 0 ≤ min ((pstep s st).Steps + 1) 1073741824 ∧ _; rw [pstep_Steps]; omega))
  · omega
theorem PRun_L0 {s : GSystem} {k : List GKnown} : ∀ (m : Nat) (st : GState) (total n : Int), VStt s k st → solver_Run_L0 s k m st.Phase st.Cone st.Leaf st.At st.Edge st.Values st.Queue st.Steps total n =
    ((run s k m st).1.Phase, (run s k m st).1.Cone, (run s k m st).1.Leaf, (run s k m st).1.At, (run s k m st).1.Edge, (run s k m st).1.Values, (run s k m st).1.Queue, (run s k m st).1.Steps, total + (run s k m st).2)
  | 0, st, total, n, h => by simp [solver_Run_L0, run]
  | m + 1, st, total, n, h => by
    rw [solver_Run_L0, run]
    rw [show (⟨st.Phase, st.Cone, st.Leaf, st.At, st.Edge, st.Values, st.Queue, st.Steps⟩ : GState) = st from rfl]
    rcases VStt_ph h with ⟨a, b⟩ | ⟨a, b⟩ | ⟨a, b⟩
    · obtain ⟨e1, e2⟩ := Dem_nil b
      rw [if_neg (by omega), beqI a, expand_eq e1 e2 b.at_.2]
      simp only [cond_true, dstep_Steps]
      have es : sstep s k st = setSteps (dstep s k st) (min (st.Steps + 1) 1073741824) := by unfold sstep; rw [if_pos a]
      have ih := PRun_L0 m (sstep s k st) (total + 1) (n + 1) (sstep_V h (by omega))
      rw [es] at ih
      refine ih.trans ?_
      have ec : scost s st = 1 := by unfold scost; rw [if_pos a]
      rw [ec, es, Int.add_assoc]
    · rw [if_neg (by omega), bneI (show ¬ st.Phase = 1 by omega), beqI a, push_eq h b (by omega)]
      simp only [cond_true, cond_false]
      have es : sstep s k st = setSteps (pstep s st) (min (st.Steps + 1) 1073741824) := by unfold sstep; rw [if_neg (by omega)]
      have ih := PRun_L0 m (sstep s k st) (total + pcost s st) (n + 1) (sstep_V h (by omega))
      rw [es] at ih
      refine ih.trans ?_
      have ec : scost s st = pcost s st := by unfold scost; rw [if_neg (by omega)]
      rw [ec, es, Int.add_assoc]
    · rw [if_pos a, bneI (show ¬ st.Phase = 1 by omega), bneI (show ¬ st.Phase = 2 by omega)]
      simp
theorem PRun_eq {s : GSystem} {k : List GKnown} {st : GState} (h : VStt s k st) {n : Int} (hn : 0 ≤ n) : solver_Run s k st n = ((run s k n.toNat st).1, (run s k n.toNat st).2, 0) := by
  unfold solver_Run
  simp only [(PValid8_iff s k st).2 h, copied_eq, decide_eq_false (show ¬ n < 0 by omega), Bool.not_true, cond_false]
  rw [PRun_L0 _ _ _ _ h]
  simp [show (n - 0).toNat = n.toNat by omega]
theorem Run_small {s : GSystem} {k : List GKnown} {st : GState} {n : Int} {r : GState × Int × Int} (h : solver_Run s k st n = r) (hs : s.Deps.length ≤ 12) : r.1.Cone.length ≤ 12 := by
  subst h
  by_cases hv : solver_Valid s k st = true
  · by_cases hn : 0 ≤ n
    · have hV := (PValid8_iff s k st).1 hv
      rw [PRun_eq hV hn]
      exact Nat.le_trans (VStt_cone (run_V n.toNat st hV)) hs
    · unfold solver_Run
      simp only [hv, Bool.not_true, cond_false, decide_eq_true (show n < 0 by omega), cond_true]
      exact Nat.zero_le _
  · have hv : solver_Valid s k st = false := by simpa using hv
    unfold solver_Run
    simp only [hv, Bool.not_false, cond_true]
    exact Nat.zero_le _
theorem Run_steps {s : GSystem} {k : List GKnown} {st : GState} {n : Int} {r : GState × Int × Int} (h : solver_Run s k st n = r) : 0 ≤ r.1.Steps ∧ r.1.Steps ≤ 1073741824 := by
  subst h
  by_cases hv : solver_Valid s k st = true
  · by_cases hn : 0 ≤ n
    · have hV := (PValid8_iff s k st).1 hv
      rw [PRun_eq hV hn]
      exact (run_V n.toNat st hV).sp
    · unfold solver_Run
      simp only [hv, Bool.not_true, cond_false, decide_eq_true (show n < 0 by omega), cond_true]
      exact ⟨Int.le_refl _, by decide⟩
  · have hv : solver_Valid s k st = false := by simpa using hv
    unfold solver_Run
    simp only [hv, Bool.not_false, cond_true]
    exact ⟨Int.le_refl _, by decide⟩
theorem pStart_eq (root : Int) : solver_Start root = flqref14_Start root := rfl
theorem draw_start {t : List Int} {k : Int} {r : Gtask × Int} (h : flqlaw15_draw t k = r) : flqref14_Valid r.1.S r.1.K (solver_Start r.1.Root) = true ∧ r.1.S.Deps.length ≤ 6 ∧ r.1.S.Width ≤ 4 := by
  subst h
  obtain ⟨v, hx⟩ := draw_task t k
  exact ⟨(RValid8_iff _ _ _).2 (start_V hx.sys (task_known hx) hx.r), (draw_small t k).1, (draw_small t k).2.1⟩
theorem pAnswer_eq {st : GState} (hp : st.Phase = 3) (hl : 1 ≤ st.Values.length) : solver_Answer st = (vat st.Values 0, true) := by
  unfold solver_Answer
  have : (((st.Values.length : Nat) : Int) == 0) = false := by rw [beq_eq_false_iff_ne]; omega
  simp only [hp, bne_self_eq_false, this, cond_false]; rfl
theorem sane15_true : flqlaw15_sane = true := by kernel_rfl
theorem Final_1_lt (a b : GKnown) : decide (solver_Final_1 a b < 0) = decide (a.Node < b.Node) := by
  unfold solver_Final_1
  simp only [Compare_eq]
  by_cases h : a.Node < b.Node
  · simp [h]
  · by_cases h2 : b.Node < a.Node <;> simp [h, h2]
theorem insCmp_eq (l : List GKnown) : slices_insertionSortCmpFunc_Known l 0 (l.length : Int) (fun x0 x1 => solver_Final_1 x0 x1) = srtK GKnown.Node l := by
  unfold slices_insertionSortCmpFunc_Known
  exact insAll GKnown.Node default (slices_insertionSortCmpFunc_Known_L1 fun x0 x1 => solver_Final_1 x0 x1) (slices_insertionSortCmpFunc_Known_L0 0 fun x0 x1 => solver_Final_1 x0 x1) (fun _ _ => rfl) (fun r l j => by rw [slices_insertionSortCmpFunc_Known_L1]; simp only [Final_1_lt, Bool.cond_eq_ite, decide_eq_true_eq]) (fun _ _ => rfl) (fun r l i => rfl) l
theorem SortStable_eq (l : List GKnown) : slices_SortStableFunc_Known l (fun x0 x1 => solver_Final_1 x0 x1) = srtK GKnown.Node l := insCmp_eq l
theorem pFinal_term (st : GState) : ∀ (r : Nat) (out : List GKnown) (i : Int), 0 ≤ i ∧ i ≤ (st.Cone.length : Int) ∧ (st.Cone.length : Int) - i < (r : Int) → solver_Final_L0 st r out i ≠ LR.oof
  | 0, out, i, h => by omega
  | r + 1, out, i, h => by
    rw [solver_Final_L0]
    simp only [Bool.cond_eq_ite, decide_eq_true_eq]
    repeat' split
    all_goals first | (intro h; cases h; done) | exact pFinal_term st r _ _ (by omega)
theorem pFinal_L0 {st : GState} (hp : st.Phase = 3) : ∀ (m : Nat) (l : List GKnown) (i : Int), 0 ≤ i ∧ i ≤ (st.Cone.length : Int) ∧ (st.Cone.length : Int) - i < (m : Int) → solver_Final_L0 st m l i = .brk (l ++ finL st m i)
  | 0, l, i, h => by omega
  | m + 1, l, i, h => by
    rw [solver_Final_L0, finL]
    simp only [hp, beq_self_eq_true, cond_true, Bool.cond_eq_ite, decide_eq_true_eq, clone_eq]
    by_cases hc : i < (st.Cone.length : Int) ∧ i < (st.Leaf.length : Int) ∧ i < (st.Values.length : Int)
    · rw [if_pos (show i < (min (min ((st.Cone.length : Nat) : Int) ((st.Leaf.length : Nat) : Int)) ((st.Values.length : Nat) : Int)) by omega), if_pos hc]
      cases e : st.Leaf.getD i.toNat false with
      | true => simp only [Bool.not_true, Bool.false_eq_true, if_false, if_true]; exact pFinal_L0 hp m _ _ (by omega)
      | false => simp only [Bool.not_false, if_true, Bool.false_eq_true, if_false]; rw [pFinal_L0 hp m _ _ (by omega), List.append_assoc]; rfl
    · rw [if_neg (show ¬ i < (min (min ((st.Cone.length : Nat) : Int) ((st.Leaf.length : Nat) : Int)) ((st.Values.length : Nat) : Int)) by omega), if_neg hc, List.append_nil]
      all_goals simp
theorem pFinal_eq {st : GState} (hp : st.Phase = 3) : solver_Final st = srtK GKnown.Node (finL st (st.Cone.length + 1) 0) := by
  unfold solver_Final
  rw [pFinal_L0 hp _ _ _ (by omega)]
  exact SortStable_eq _
theorem pFinal_nil {st : GState} (hp : st.Phase ≠ 3) : solver_Final st = [] := by
  have e : (st.Phase == 3) = false := by simp [hp]
  unfold solver_Final
  rw [solver_Final_L0, e]; rfl
theorem Final_len {st : GState} {r : List GKnown} (h : solver_Final st = r) : r.length ≤ st.Cone.length := by
  subst h
  by_cases hp : st.Phase = 3
  · rw [pFinal_eq hp, srtK_len]
    have := finL_len st (st.Cone.length + 1) 0 (by omega) (by omega)
    omega
  · rw [pFinal_nil hp]; exact Nat.zero_le _
theorem Less_eq (x y : Int) : cmp_Less_int x y = decide (x < y) := by unfold cmp_Less_int cmp_isNaN_int; simp
theorem insOrd_eq (l : List Int) : slices_insertionSortOrdered_int l 0 (l.length : Int) = srtK (fun x => x) l := by
  unfold slices_insertionSortOrdered_int
  exact insAll (fun x => x) 0 slices_insertionSortOrdered_int_L1 (slices_insertionSortOrdered_int_L0 0) (fun _ _ => rfl) (fun r l j => by rw [slices_insertionSortOrdered_int_L1]; simp only [Less_eq, Bool.cond_eq_ite, decide_eq_true_eq]) (fun _ _ => rfl) (fun r l i => rfl) l
theorem Sort_eq (l : List Int) : slices_Sort_int l = srtK (fun x => x) l := insOrd_eq l
theorem pUsed_term (st : GState) : ∀ (r : Nat) (out : List Int) (i : Int), 0 ≤ i ∧ i ≤ (st.Cone.length : Int) ∧ (st.Cone.length : Int) - i < (r : Int) → solver_Used_L0 st r out i ≠ LR.oof
  | 0, out, i, h => by omega
  | r + 1, out, i, h => by
    rw [solver_Used_L0]
    simp only [Bool.cond_eq_ite, decide_eq_true_eq]
    repeat' split
    all_goals first | (intro h; cases h; done) | exact pUsed_term st r _ _ (by omega)
theorem pUsed_L0 {st : GState} (hp : st.Phase = 3) : ∀ (m : Nat) (l : List Int) (i : Int), 0 ≤ i ∧ i ≤ (st.Cone.length : Int) ∧ (st.Cone.length : Int) - i < (m : Int) → solver_Used_L0 st m l i = .brk (l ++ useL st m i)
  | 0, l, i, h => by omega
  | m + 1, l, i, h => by
    rw [solver_Used_L0, useL]
    simp only [hp, beq_self_eq_true, cond_true, Bool.cond_eq_ite, decide_eq_true_eq]
    by_cases hc : i < (st.Cone.length : Int) ∧ i < (st.Leaf.length : Int)
    · rw [if_pos (show i < (min ((st.Cone.length : Nat) : Int) ((st.Leaf.length : Nat) : Int)) by omega), if_pos hc]
      cases e : st.Leaf.getD i.toNat false with
      | true => simp only [if_true]; rw [pUsed_L0 hp m _ _ (by omega), List.append_assoc]; rfl
      | false => simp only [Bool.false_eq_true, if_false]; exact pUsed_L0 hp m _ _ (by omega)
    · rw [if_neg (show ¬ i < (min ((st.Cone.length : Nat) : Int) ((st.Leaf.length : Nat) : Int)) by omega), if_neg hc, List.append_nil]
      all_goals simp
theorem pUsed_eq {st : GState} (hp : st.Phase = 3) : solver_Used st = srtK (fun x => x) (useL st (st.Cone.length + 1) 0) := by
  unfold solver_Used
  rw [pUsed_L0 hp _ _ _ (by omega)]
  exact Sort_eq _
theorem Used_len {st : GState} {r : List Int} (h : solver_Used st = r) : r.length ≤ st.Cone.length := by
  subst h
  by_cases hp : st.Phase = 3
  · rw [pUsed_eq hp, srtK_len]
    have := useL_len st (st.Cone.length + 1) 0 (by omega) (by omega)
    omega
  · have e : (st.Phase == 3) = false := by simp [hp]
    unfold solver_Used
    rw [solver_Used_L0, e]; exact Nat.zero_le _
theorem noneInv {s : GSystem} {v : List GSet} (h : VVals s v) : slices_ContainsFunc_Set v (fun x => equations_Right_1 x) = false := by
  cases e : slices_ContainsFunc_Set v (fun x => equations_Right_1 x) with
  | false => rfl
  | true =>
    obtain ⟨x, hx, e⟩ := (IndexFuncS_any _ _).1 e
    unfold equations_Right_1 at e
    simp only [VSt_pvalid (h.2 x hx)] at e; cases e
theorem pRight_L0 (s : GSystem) (v : List GSet) (n : Int) : ∀ (m : Nat) (o0 : Int) (o1 : List (BitVec 64)) (i : Int), equations_Right_L0 s v n m o0 o1 i = flqref10_right_L0 s v n m o0 o1 i
  | 0, o0, o1, i => rfl
  | m + 1, o0, o1, i => by
    rw [equations_Right_L0, flqref10_right_L0]
    simp only [pApply_eq, bUnion_eq]
    exact pRight_L0 s v n m _ _ _
theorem pRight_eq {s : GSystem} (hv : VSys s) {v : List GSet} (h : VVals s v) {n : Int} (n0 : 0 ≤ n) (n1 : n < (s.Deps.length : Int)) : equations_Right s v n = (flqref10_right s v n, 0) := by
  have hb := hv.bl
  have hl := h.1
  have e1 : equations_Valid s = true := (EValid_iff s).2 hv
  have e2 : (((v.length : Nat) : Int) != ((s.Deps.length : Nat) : Int)) = false := by simp; omega
  unfold equations_Right flqref10_right
  simp only [e1, e2, Bool.not_true, cond_false, decide_eq_false (show ¬ n < 0 by omega), decide_eq_false (show ¬ (s.Deps.length : Int) ≤ n by omega), noneInv h, sets_of h, pRight_L0]
  have hw := (VSys_bdV hv n0 n1).2
  rw [← hw]
  rfl
theorem pNext_L0 {s : GSystem} (hv : VSys s) {v : List GSet} (h : VVals s v) : ∀ (m : Nat) (o : List GSet) (n : Int), 0 ≤ n → n + m = (s.Deps.length : Int) → fixpoint_Next_L0 s v m o n = .brk (o ++ (List.range' n.toNat m).map fun i : Nat => flqref10_right s v (i : Int))
  | 0, o, n, _, _ => by simp [fixpoint_Next_L0]
  | m + 1, o, n, h0, h1 => by
    rw [fixpoint_Next_L0, pRight_eq hv h h0 (by omega)]
    simp only [bne_self_eq_false, cond_false]
    rw [pNext_L0 hv h m _ (n + 1) (by omega) (by omega), List.range'_succ, show (n + 1).toNat = n.toNat + 1 by omega]
    simp only [List.map_cons, List.append_assoc, List.singleton_append]
    rw [show ((n.toNat : Nat) : Int) = n by omega]
theorem pNext_eq {s : GSystem} (hv : VSys s) {v : List GSet} (h : VVals s v) : fixpoint_Next s v = (Fv s v, 0) := by
  have hb := hv.bl
  unfold fixpoint_Next
  simp only [(EValid_iff s).2 hv, Bool.not_true, cond_false]
  rw [pNext_L0 hv h _ _ _ (by omega) (by omega), show ((((s.Deps.length : Nat) : Int) - 0).toNat) = s.Boundary.length by omega]
  unfold Fv
  simp [List.range_eq_range']
theorem Solve_1_eq {s : GSystem} (hv : VSys s) {v : List GSet} (h : VVals s v) : fixpoint_Solve_1 v s = Fv s v := by
  unfold fixpoint_Solve_1
  simp only [pNext_eq hv h]
theorem bEmpty_eq {w : Int} (h0 : 0 ≤ w) (h1 : w ≤ 256) : bitset_Empty w = (flqref1_Empty w, 0) := by
  have e : bitset_ranged w = true := by unfold bitset_ranged; simp [Bool.cond_eq_ite]; omega
  unfold bitset_Empty flqref1_Empty
  simp only [e, Bool.not_true, cond_false]
  rw [show bitset_words w = (w + 63) / 64 by unfold bitset_words; omega]
theorem pEmpty_L0 {w : Int} (h0 : 0 ≤ w) (h1 : w ≤ 256) : ∀ (m : Nat) (p q : List GSet) (i : Int), p.length = i.toNat → 0 ≤ i → q.length = m → fixpoint_empty_L0 w m (p ++ q) i = p ++ List.replicate m (flqref1_Empty w)
  | 0, p, q, i, hp, hi, hq => by have : q = [] := List.length_eq_zero_iff.1 hq; subst this; rfl
  | m + 1, p, [], i, hp, hi, hq => by cases hq
  | m + 1, p, x :: q, i, hp, hi, hq => by
    rw [fixpoint_empty_L0, bEmpty_eq h0 h1, ← hp]
    have : (p ++ x :: q).set p.length (flqref1_Empty w) = (p ++ [flqref1_Empty w]) ++ q := by simp
    show fixpoint_empty_L0 w m ((p ++ x :: q).set p.length (flqref1_Empty w)) (i + 1) = _
    rw [this, pEmpty_L0 h0 h1 m (p ++ [flqref1_Empty w]) q (i + 1) (by simp; omega) (by omega) (by simpa using hq), List.replicate_succ]
    simp
theorem pEmpty_eq {w n : Int} (h0 : 0 ≤ w) (h1 : w ≤ 256) (hn : 0 ≤ n) : fixpoint_empty w n = List.replicate n.toNat (flqref1_Empty w) := by
  unfold fixpoint_empty
  have := pEmpty_L0 h0 h1 n.toNat [] (List.replicate n.toNat default) 0 rfl (by omega) (by simp)
  rw [List.nil_append] at this
  simp only [List.length_replicate]
  rw [show (((n.toNat : Nat) : Int) - 0).toNat = n.toNat by omega, this]; rfl
theorem EqualFunc_L0 (a b : List GSet) : ∀ (m : Nat) (i : Int), 0 ≤ i → i + m = (a.length : Int) → (slices_EqualFunc_Set_L0 a b (fun x0 x1 => bitset_Equal x0 x1) m i = .brk () ∧ ∀ j : Int, i ≤ j → j < i + m → bitset_Equal (vat a j) (vat b j) = true) ∨
    (slices_EqualFunc_Set_L0 a b (fun x0 x1 => bitset_Equal x0 x1) m i = .ret false ∧ ∃ j : Int, i ≤ j ∧ j < i + m ∧ bitset_Equal (vat a j) (vat b j) = false)
  | 0, i, h0, h1 => .inl ⟨rfl, fun j a b => by omega⟩
  | m + 1, i, h0, h1 => by
    rw [slices_EqualFunc_Set_L0]
    show (_ = _ ∧ _) ∨ (_ = _ ∧ _)
    cases e : bitset_Equal (a.getD i.toNat default) (b.getD i.toNat default) with
    | false => exact .inr ⟨rfl, i, by omega, by omega, e⟩
    | true =>
      simp only [Bool.not_true, cond_false]
      rcases EqualFunc_L0 a b m (i + 1) (by omega) (by omega) with ⟨e1, e2⟩ | ⟨e1, j, j1, j2, j3⟩
      · refine .inl ⟨e1, fun j j1 j2 => ?_⟩
        rcases Int.lt_or_eq_of_le j1 with hj | hj
        · exact e2 j (by omega) (by omega)
        · subst hj; exact e
      · exact .inr ⟨e1, j, by omega, by omega, j3⟩
theorem pEqual_iff {s : GSystem} {a b : List GSet} (ha : VVals s a) (hb : VVals s b) : fixpoint_equal a b = true ↔ a = b := by
  have hl : a.length = b.length := ha.1.trans hb.1.symm
  have key : ∀ j : Int, 0 ≤ j → j < (a.length : Int) → (bitset_Equal (vat a j) (vat b j) = true ↔ vat a j = vat b j) := fun j j0 j1 => by
    have va := VVals_at ha j0 (by have := ha.1; omega)
    have vb := VVals_at hb j0 (by have := ha.1; omega)
    rw [show bitset_Equal (vat a j) (vat b j) = flqref1_Same (vat a j) (vat b j) from bEqual_eq va vb]
    exact Same_iff _ _
  unfold fixpoint_equal slices_EqualFunc_Set
  have e : (((a.length : Nat) : Int) != ((b.length : Nat) : Int)) = false := by simp [hl]
  simp only [e, cond_false]
  rcases EqualFunc_L0 a b ((((a.length : Nat) : Int) - 0).toNat) 0 (by omega) (by omega) with ⟨e1, e2⟩ | ⟨e1, j, j1, j2, j3⟩
  · rw [e1]
    refine ⟨fun _ => ?_, fun _ => rfl⟩
    refine List.ext_getElem hl fun i h1 h2 => ?_
    have := (key i (by omega) (by omega)).1 (e2 i (by omega) (by omega))
    unfold vat at this
    simpa [List.getD, h1, h2] using this
  · rw [e1]
    refine ⟨fun h => (by exact absurd h (by decide)), fun h => ?_⟩
    have := (key j (by omega) (by omega)).2 (by rw [h])
    rw [this] at j3; cases j3
def RoundsOk (w n : Int) (f : List GSet → List GSet) : Prop := fixpoint_rounds_L0 f (n.toNat * w.toNat + 2) (fixpoint_empty w n) (f (fixpoint_empty w n)) 0 ≠ LR.oof

theorem rounds_L0_spec {s : GSystem} (hv : VSys s) {f : List GSet → List GSet} (hf : ∀ v, VVals s v → f v = Fv s v) : ∀ (m : Nat) (v : List GSet) (round : Int), VVals s v → Le s v (Fv s v) → s.Boundary.length * s.Width.toNat < cnt s.Boundary.length s.Width.toNat v + m →
    ∃ u r, fixpoint_rounds_L0 f m v (Fv s v) round = .brk (u, r) ∧ VVals s u ∧ Fv s u = u ∧ ∀ z, VVals s z → Le s (Fv s z) z → Le s v z → Le s u z
  | 0, v, round, h1, h2, h3 => by have := cnt_max s.Boundary.length s.Width.toNat v; omega
  | m + 1, v, round, h1, h2, h3 => by
    have hF := Fv_V hv h1
    rw [fixpoint_rounds_L0]
    cases e : fixpoint_equal v (Fv s v) with
    | true =>
      have e := (pEqual_iff h1 hF).1 e
      exact ⟨v, round, rfl, h1, e.symm, fun z _ _ h => h⟩
    | false =>
      have hne : v ≠ Fv s v := fun h => by
        have := (pEqual_iff h1 hF).2 h
        rw [this] at e; cases e
      have hlt := cnt_lt (n := s.Boundary.length) (w := s.Width.toNat) (fun i hi => h2 i (by omega) (by omega)) (vals_ne h1 hF h2 hne)
      obtain ⟨u, r, e1, e2, e3, e4⟩ := rounds_L0_spec hv hf m (Fv s v) (round + 1) hF (Fv_mono hv h1 hF h2) (by omega)
      refine ⟨u, r, ?_, e2, e3, fun z hz hz2 hz3 => e4 z hz hz2 (Le_trans (Fv_mono hv h1 hz hz3) hz2)⟩
      simp only [Bool.not_false, cond_true]
      rw [hf _ hF]; exact e1
theorem rounds_run {s : GSystem} (hv : VSys s) : ∃ u r, fixpoint_rounds_L0 (fun x0 => fixpoint_Solve_1 x0 s) ((s.Deps.length : Int).toNat * s.Width.toNat + 2) (fixpoint_empty s.Width (s.Deps.length : Int)) (fixpoint_Solve_1 (fixpoint_empty s.Width (s.Deps.length : Int)) s) 0 = .brk (u, r) ∧ Least s u := by
  have hb := hv.bl
  have hw := hv.w
  have e : fixpoint_empty s.Width (s.Deps.length : Int) = flqref10_Empty s := by
    rw [pEmpty_eq hw.1 hw.2 (by omega), Empty_eq, show ((s.Deps.length : Int).toNat) = s.Boundary.length by omega]
  rw [e, Solve_1_eq hv (Empty_VV hv)]
  obtain ⟨u, r, e1, e2, e3, e4⟩ := rounds_L0_spec hv (f := fun x0 => fixpoint_Solve_1 x0 s) (fun v h => Solve_1_eq hv h) ((s.Deps.length : Int).toNat * s.Width.toNat + 2) (flqref10_Empty s) 0 (Empty_VV hv) (Empty_Le hv _) (by rw [show ((s.Deps.length : Int).toNat) = s.Boundary.length by omega]; omega)
  exact ⟨u, r, e1, e2, e3, fun z h1 h2 => e4 z h1 h2 (Empty_Le hv z)⟩
theorem rounds_ok {s : GSystem} (hv : VSys s) : RoundsOk s.Width (s.Deps.length : Int) (fun x0 => fixpoint_Solve_1 x0 s) := by
  obtain ⟨u, r, e, _⟩ := rounds_run hv
  unfold RoundsOk
  show fixpoint_rounds_L0 _ _ _ (fixpoint_Solve_1 _ s) 0 ≠ _
  rw [e]; intro h; cases h
theorem pSolve_spec {s : GSystem} (hv : VSys s) : ∃ u r, fixpoint_Solve s = (u, r, 0) ∧ Least s u := by
  obtain ⟨u, r, e, h⟩ := rounds_run hv
  refine ⟨u, r, ?_, h⟩
  unfold fixpoint_Solve fixpoint_rounds
  simp only [(EValid_iff s).2 hv, Bool.not_true, cond_false, e]

theorem pSolve_len {s : GSystem} {r : List GSet × Int × Int} (h : fixpoint_Solve s = r) (hv : VSys s) : r.1.length = s.Deps.length := by
  subst h
  obtain ⟨u, r, e, hu⟩ := pSolve_spec hv
  rw [e]
  have := hu.v.1
  have := hv.bl
  dsimp only; omega
theorem Edges_term (s : GSystem) : ∀ (r : Nat) (n i : Int), 0 ≤ i ∧ i ≤ (s.Deps.length : Int) ∧ (s.Deps.length : Int) - i < (r : Int) → flqref10_Edges_L0 s r n i ≠ LR.oof
  | 0, n, i, h => by omega
  | r + 1, n, i, h => by
    rw [flqref10_Edges_L0]
    simp only [Bool.cond_eq_ite, decide_eq_true_eq]
    repeat' split
    all_goals first | (intro h; cases h; done) | exact Edges_term s r _ _ (by omega)
theorem Edges_L0 {s : GSystem} (hv : VSys s) : ∀ (m : Nat) (n i : Int), 0 ≤ i → i + m = (s.Deps.length : Int) → flqref10_Edges_L0 s (m + 1) n i = .brk (n + tot s m i)
  | 0, n, i, h0, h1 => by
    rw [flqref10_Edges_L0]
    simp only [(RefValid_iff s).2 hv, cond_true, decide_eq_false (show ¬ i < (s.Deps.length : Int) by omega), cond_false, tot, Int.add_zero]
  | m + 1, n, i, h0, h1 => by
    rw [flqref10_Edges_L0]
    simp only [(RefValid_iff s).2 hv, cond_true, decide_eq_true (show i < (s.Deps.length : Int) by omega)]
    rw [Edges_L0 hv m _ (i + 1) (by omega) (by omega), tot, Int.add_assoc]
theorem Edges_eq {s : GSystem} (hv : VSys s) : flqref10_Edges s = tot s s.Deps.length 0 := by
  unfold flqref10_Edges
  rw [Edges_L0 hv _ _ _ (by omega) (by omega)]
  simp
theorem Answers_L1 {v : List GSet} {n : Int} {l : List GKnown} (hl : ∀ y ∈ l, (0 ≤ y.Node ∧ y.Node < n) ∧ y.Value = vat v y.Node) : ∀ (m : Nat) (j : Int), 0 ≤ j → j + m ≤ (l.length : Int) → flqlaw15_SolverAnswers_L1 v n l m j = .brk ()
  | 0, j, h0, h1 => rfl
  | m + 1, j, h0, h1 => by
    have hy := hl _ (getD_mem (xs := l) (i := j.toNat) (d := default) (by omega))
    have e : flqref1_Same (l.getD j.toNat default).Value (v.getD (l.getD j.toNat default).Node.toNat default) = true := by rw [hy.2]; exact Same_refl _
    rw [flqlaw15_SolverAnswers_L1]
    simp only [decide_eq_false (show ¬ (l.getD j.toNat default).Node < 0 by omega), decide_eq_false (show ¬ n ≤ (l.getD j.toNat default).Node by omega), e, Bool.not_true, cond_false]
    exact Answers_L1 hl m (j + 1) (by omega) (by omega)
theorem Answers_L0 (t : List Int) : ∀ (m : Nat) (k i : Int), flqlaw15_SolverAnswers_L0 t m k i = .brk ()
  | 0, k, i => rfl
  | m + 1, k, i => by
    obtain ⟨v, hx⟩ := draw_task t k
    rw [flqlaw15_SolverAnswers_L0]
    generalize (flqlaw15_draw t k).2 = k2
    have sm := draw_small t k
    generalize (flqlaw15_draw t k).1 = x at hx sm ⊢
    have hw := hx.sys.w
    have hb := hx.sys.bl
    have hul := hx.sv.v.1
    have h0 := start_V hx.sys (task_known hx) hx.r
    have hkv : KV x.S x.K v := fun y hy => (hx.kv y hy).2
    obtain ⟨u, r, e, hu⟩ := pSolve_spec hx.sys
    have huv := Least_one hu hx.sv
    subst huv
    obtain ⟨o, c, e1, e2⟩ := Cone_eq_L0 hx.sys hx.r (task_leaves hx)
    have hmul : (x.S.Deps.length : Int) * (x.S.Width + 1) = ((x.S.Deps.length + x.S.Deps.length * x.S.Width.toNat : Nat) : Int) := by
      rw [Int.mul_add, Int.mul_one, Int.natCast_add, Int.natCast_mul, show ((x.S.Width.toNat : Nat) : Int) = x.S.Width by omega]; omega
    have bound : (x.S.Deps.length + x.S.Deps.length * x.S.Width.toNat : Nat) ≤ 30 := by
      have : x.S.Deps.length * x.S.Width.toNat ≤ 6 * 4 := Nat.mul_le_mul sm.1 (by omega)
      omega
    have hcs := Cone_cost_small sm.2.2 _ _ _ _ _ _ e1
    have htot := tot_nn x.S x.S.Deps.length 0
    have htb : tot x.S x.S.Deps.length 0 ≤ (x.S.Deps.length : Int) * (3 : Nat) := tot_le sm.2.2 _ _
    have run0 := fun (n : Nat) (hn : c + (x.S.Deps.length + x.S.Deps.length * x.S.Width.toNat : Nat) ≤ n) => run_all hx.sv hkv h0 hx.r e1 (by omega) (n := n) hn
    -- the cost of the demand
    have hco : c ≤ x.S.Deps.length + tot x.S x.S.Deps.length 0 := by
      obtain ⟨_, q2, q3, _⟩ := run0 (c.toNat + (x.S.Deps.length + x.S.Deps.length * x.S.Width.toNat)) (by omega)
      have hoc := q3.ok.co
      rw [q2] at hoc
      obtain ⟨e', f1, f2⟩ := Cone_cost_sum _ _ _ _ _ _ (by omega) (by simp) e1
      have := sumF_le (f := dcost x.S) (fun y => by unfold dcost; omega) x.S.Deps.length o hoc.1 hoc.2
      rw [totF_dcost] at this
      simp only [Int.toNat_zero, List.drop_zero] at f2
      omega
    have hN : 0 ≤ (x.S.Deps.length : Int) + tot x.S x.S.Deps.length 0 + (x.S.Deps.length : Int) * (x.S.Width + 1) := by rw [hmul]; omega
    obtain ⟨p1, p2, p3, p4⟩ := run0 ((x.S.Deps.length : Int) + tot x.S x.S.Deps.length 0 + (x.S.Deps.length : Int) * (x.S.Width + 1)).toNat (by rw [hmul]; omega)
    have hcost := run_cost ((x.S.Deps.length : Int) + tot x.S x.S.Deps.length 0 + (x.S.Deps.length : Int) * (x.S.Width + 1)).toNat (flqref14_Start x.Root) h0 (by show (0 : Int) + _ ≤ _; rw [hmul]; omega)
    have hSt : (flqref14_Start x.Root).Steps = 0 := rfl
    rw [hSt] at hcost
    have hV := p3.ok
    have hsi := p3.si (by omega)
    have hvl := hsi.sol.vl
    have hcn := hV.cn
    simp only [e, pStart_eq, Edges_eq hx.sys]
    rw [PRun_eq h0 hN]
    generalize hR : run x.S x.K ((x.S.Deps.length : Int) + tot x.S x.S.Deps.length 0 + (x.S.Deps.length : Int) * (x.S.Width + 1)).toNat (flqref14_Start x.Root) = R at p1 p2 p3 p4 hcost hV hsi hvl hcn ⊢
    have hlen : (((srtK GKnown.Node (finL R.1 (R.1.Cone.length + 1) 0)).length : Nat) : Int) + (((srtK (fun x => x) (useL R.1 (R.1.Cone.length + 1) 0)).length : Nat) : Int) = (R.1.Cone.length : Int) := by
      have := part_len hV.lf (by omega) (R.1.Cone.length + 1) 0 (by omega) (by omega) (by omega)
      rw [srtK_len, srtK_len]; omega
    have hmem : ∀ y ∈ srtK GKnown.Node (finL R.1 (R.1.Cone.length + 1) 0), (0 ≤ y.Node ∧ y.Node < (x.S.Deps.length : Int)) ∧ y.Value = vat u y.Node := fun y hy => by
      rw [srtK_mem] at hy
      obtain ⟨j, j0, j1, rfl⟩ := finL_mem _ _ (by omega) hy
      exact ⟨hV.co.2 _ (getD_mem (xs := R.1.Cone) (i := j.toNat) (d := 0) (by omega)), inv_done hu hV hsi p1 j j0 j1⟩
    have s1 : flqref1_Same (vat R.1.Values 0) (u.getD x.Root.toNat default) = true := by rw [p4]; exact Same_refl _
    simp only [pAnswer_eq p1 (by omega), p1, s1, pFinal_eq p1, pUsed_eq p1, hlen, bne_self_eq_false, cond_false, Bool.not_true, decide_eq_false (show ¬ R.2 < R.1.Steps by omega), decide_eq_false (show ¬ 8 * R.1.Steps < R.2 by omega)]
    rw [Answers_L1 hmem _ _ (by omega) (by omega)]
    exact Answers_L0 t m _ _
theorem SolverAnswers_true (t : List Int) : flqlaw15_SolverAnswers t = true := by
  unfold flqlaw15_SolverAnswers
  simp only [Answers_L0]
  exact sane15_true
theorem st94 : stTy Tryz.prog 94 = some ([(0, 1), (1, 1)], [.slice none 0 0, vi 0]) := by kernel_rfl
theorem un3 : Tryz.prog.underlying 3 = some (.int .i64) := by kernel_rfl
theorem un123 : Tryz.prog.underlying 123 = some (.int .u64) := by kernel_rfl
theorem fo94_1 : fldOff Tryz.prog 94 1 = some 1 := by kernel_rfl
theorem fo94_0 : fldOff Tryz.prog 94 0 = some 0 := by kernel_rfl
theorem sh22 : tyShape Tryz.prog 22 = some (false, 1) := by kernel_rfl
theorem ca69 : callable Tryz.prog 69 = true := by kernel_rfl
theorem fmix : Tryz.prog.follows .mixedOrders = true := by kernel_rfl
theorem sl22 : slTy Tryz.prog 22 = some (3, 1, 8) := by kernel_rfl
theorem sh3 : tyShape Tryz.prog 3 = some (false, 1) := by kernel_rfl
theorem ze42 : zeroOf Tryz.prog 42 = some (.agg #[vi 0, .slice none 0 0]) := by kernel_rfl
theorem sl40 : slTy Tryz.prog 40 = some (122, 1, 8) := by kernel_rfl
theorem sz40 : slZero Tryz.prog 40 = some [u64 (0#64)] := by kernel_rfl
theorem st42 : stTy Tryz.prog 42 = some ([(0, 1), (1, 1)], [vi 0, .slice none 0 0]) := by kernel_rfl
theorem sh42 : tyShape Tryz.prog 42 = some (true, 2) := by kernel_rfl
theorem fo42_0 : fldOff Tryz.prog 42 0 = some 0 := by kernel_rfl
theorem ca67 : callable Tryz.prog 67 = true := by kernel_rfl
theorem fo42_1 : fldOff Tryz.prog 42 1 = some 1 := by kernel_rfl
theorem sh40 : tyShape Tryz.prog 40 = some (false, 1) := by kernel_rfl
theorem sh122 : tyShape Tryz.prog 122 = some (false, 1) := by kernel_rfl
theorem ca79 : callable Tryz.prog 79 = true := by kernel_rfl
theorem ca19 : callable Tryz.prog 19 = true := by kernel_rfl
theorem sz22 : slZero Tryz.prog 22 = some [vi 0] := by kernel_rfl
theorem ze98 : zeroOf Tryz.prog 98 = some (.agg #[vi 0, .slice none 0 0, vi 0, .slice none 0 0, .slice none 0 0]) := by kernel_rfl
theorem st98 : stTy Tryz.prog 98 = some ([(0, 2), (2, 2), (4, 1)], [vi 0, .slice none 0 0, vi 0, .slice none 0 0, .slice none 0 0]) := by kernel_rfl
theorem sh98 : tyShape Tryz.prog 98 = some (true, 5) := by kernel_rfl
theorem fo98_0 : fldOff Tryz.prog 98 0 = some 0 := by kernel_rfl
theorem fo98_1 : fldOff Tryz.prog 98 1 = some 2 := by kernel_rfl
theorem fo98_2 : fldOff Tryz.prog 98 2 = some 4 := by kernel_rfl
theorem sh96 : tyShape Tryz.prog 96 = some (false, 1) := by kernel_rfl
theorem sl96 : slTy Tryz.prog 96 = some (147, 2, 16) := by kernel_rfl
theorem st147 : stTy Tryz.prog 147 = some ([(0, 1), (1, 1)], [vi 0, vi 0]) := by kernel_rfl
theorem sz96 : slZero Tryz.prog 96 = some [vi 0, vi 0] := by kernel_rfl
theorem ze27 : zeroOf Tryz.prog 27 = some (.agg #[vi 0, .slice none 0 0, .slice none 0 0, .slice none 0 0]) := by kernel_rfl
theorem ca66 : callable Tryz.prog 66 = true := by kernel_rfl
theorem st27 : stTy Tryz.prog 27 = some ([(0, 1), (1, 1), (2, 1), (3, 1)], [vi 0, .slice none 0 0, .slice none 0 0, .slice none 0 0]) := by kernel_rfl
theorem sh27 : tyShape Tryz.prog 27 = some (true, 4) := by kernel_rfl
theorem ca46 : callable Tryz.prog 46 = true := by kernel_rfl
theorem fo27_0 : fldOff Tryz.prog 27 0 = some 0 := by kernel_rfl
theorem ca23 : callable Tryz.prog 23 = true := by kernel_rfl
theorem fo27_1 : fldOff Tryz.prog 27 1 = some 1 := by kernel_rfl
theorem sh23 : tyShape Tryz.prog 23 = some (false, 1) := by kernel_rfl
theorem sl23 : slTy Tryz.prog 23 = some (22, 1, 24) := by kernel_rfl
theorem sz23 : slZero Tryz.prog 23 = some [.slice none 0 0] := by kernel_rfl
theorem sz25 : slZero Tryz.prog 25 = some [vi 0, .slice none 0 0] := by kernel_rfl
theorem fo27_2 : fldOff Tryz.prog 27 2 = some 2 := by kernel_rfl
theorem sh24 : tyShape Tryz.prog 24 = some (false, 1) := by kernel_rfl
theorem ca68 : callable Tryz.prog 68 = true := by kernel_rfl
theorem sl24 : slTy Tryz.prog 24 = some (98, 5, 88) := by kernel_rfl
theorem sz24 : slZero Tryz.prog 24 = some [vi 0, .slice none 0 0, vi 0, .slice none 0 0, .slice none 0 0] := by kernel_rfl
theorem fo27_3 : fldOff Tryz.prog 27 3 = some 3 := by kernel_rfl
theorem sh25 : tyShape Tryz.prog 25 = some (false, 1) := by kernel_rfl
theorem sl25 : slTy Tryz.prog 25 = some (42, 2, 32) := by kernel_rfl
theorem fo147_0 : fldOff Tryz.prog 147 0 = some 0 := by kernel_rfl
theorem fo147_1 : fldOff Tryz.prog 147 1 = some 1 := by kernel_rfl
theorem ca91 : callable Tryz.prog 91 = true := by kernel_rfl
theorem sh147 : tyShape Tryz.prog 147 = some (true, 2) := by kernel_rfl
theorem ze147 : zeroOf Tryz.prog 147 = some (.agg #[vi 0, vi 0]) := by kernel_rfl
theorem ca210 : callable Tryz.prog 210 = true := by kernel_rfl
theorem ca150 : callable Tryz.prog 150 = true := by kernel_rfl
theorem ca151 : callable Tryz.prog 151 = true := by kernel_rfl
theorem ca31 : callable Tryz.prog 31 = true := by kernel_rfl
theorem ca153 : callable Tryz.prog 153 = true := by kernel_rfl
theorem ca78 : callable Tryz.prog 78 = true := by kernel_rfl
theorem ca209 : callable Tryz.prog 209 = true := by kernel_rfl
theorem ca206 : callable Tryz.prog 206 = true := by kernel_rfl
theorem ca145 : callable Tryz.prog 145 = true := by kernel_rfl
theorem ca22 : callable Tryz.prog 22 = true := by kernel_rfl
theorem ca74 : callable Tryz.prog 74 = true := by kernel_rfl
theorem ca161 : callable Tryz.prog 161 = true := by kernel_rfl
theorem ca162 : callable Tryz.prog 162 = true := by kernel_rfl
theorem ca152 : callable Tryz.prog 152 = true := by kernel_rfl
theorem ca45 : callable Tryz.prog 45 = true := by kernel_rfl
theorem ca75 : callable Tryz.prog 75 = true := by kernel_rfl
theorem ca76 : callable Tryz.prog 76 = true := by kernel_rfl
theorem ca77 : callable Tryz.prog 77 = true := by kernel_rfl
theorem ze55 : zeroOf Tryz.prog 55 = some (.agg #[vi 0, .slice none 0 0, .slice none 0 0, .slice none 0 0, .slice none 0 0, vi 0]) := by kernel_rfl
theorem ca18 : callable Tryz.prog 18 = true := by kernel_rfl
theorem st55 : stTy Tryz.prog 55 = some ([(0, 4), (4, 1), (5, 1)], [vi 0, .slice none 0 0, .slice none 0 0, .slice none 0 0, .slice none 0 0, vi 0]) := by kernel_rfl
theorem sh55 : tyShape Tryz.prog 55 = some (true, 6) := by kernel_rfl
theorem fo55_0 : fldOff Tryz.prog 55 0 = some 0 := by kernel_rfl
theorem ca21 : callable Tryz.prog 21 = true := by kernel_rfl
theorem fo55_1 : fldOff Tryz.prog 55 1 = some 4 := by kernel_rfl
theorem sh53 : tyShape Tryz.prog 53 = some (false, 1) := by kernel_rfl
theorem st67 : stTy Tryz.prog 67 = some ([(0, 1), (1, 2)], [vi 0, vi 0, .slice none 0 0]) := by kernel_rfl
theorem sl53 : slTy Tryz.prog 53 = some (67, 3, 40) := by kernel_rfl
theorem sz53 : slZero Tryz.prog 53 = some [vi 0, vi 0, .slice none 0 0] := by kernel_rfl
theorem fo55_2 : fldOff Tryz.prog 55 2 = some 5 := by kernel_rfl
theorem ca281 : callable Tryz.prog 281 = true := by kernel_rfl
theorem ca200 : callable Tryz.prog 200 = true := by kernel_rfl
theorem ca201 : callable Tryz.prog 201 = true := by kernel_rfl
theorem ca202 : callable Tryz.prog 202 = true := by kernel_rfl
theorem ca123 : callable Tryz.prog 123 = true := by kernel_rfl
theorem ca240 : callable Tryz.prog 240 = true := by kernel_rfl
theorem ca239 : callable Tryz.prog 239 = true := by kernel_rfl
theorem ca241 : callable Tryz.prog 241 = true := by kernel_rfl
theorem ca208 : callable Tryz.prog 208 = true := by kernel_rfl
theorem ca148 : callable Tryz.prog 148 = true := by kernel_rfl
theorem ca259 : callable Tryz.prog 259 = true := by kernel_rfl
theorem ca157 : callable Tryz.prog 157 = true := by kernel_rfl
theorem ca212 : callable Tryz.prog 212 = true := by kernel_rfl
theorem ca156 : callable Tryz.prog 156 = true := by kernel_rfl
theorem ca190 : callable Tryz.prog 190 = true := by kernel_rfl
theorem ca185 : callable Tryz.prog 185 = true := by kernel_rfl
theorem ca186 : callable Tryz.prog 186 = true := by kernel_rfl
theorem ca187 : callable Tryz.prog 187 = true := by kernel_rfl
theorem ca189 : callable Tryz.prog 189 = true := by kernel_rfl
theorem ca188 : callable Tryz.prog 188 = true := by kernel_rfl
theorem sh67 : tyShape Tryz.prog 67 = some (true, 3) := by kernel_rfl
theorem ze67 : zeroOf Tryz.prog 67 = some (.agg #[vi 0, vi 0, .slice none 0 0]) := by kernel_rfl
theorem fo67_0 : fldOff Tryz.prog 67 0 = some 0 := by kernel_rfl
theorem fo67_1 : fldOff Tryz.prog 67 1 = some 1 := by kernel_rfl
theorem ca109 : callable Tryz.prog 109 = true := by kernel_rfl
theorem ca118 : callable Tryz.prog 118 = true := by kernel_rfl
theorem sz57 : slZero Tryz.prog 57 = some [vb false] := by kernel_rfl
theorem ze57 : zeroOf Tryz.prog 57 = some (.slice none 0 0) := by kernel_rfl
theorem ca82 : callable Tryz.prog 82 = true := by kernel_rfl
theorem ca238 : callable Tryz.prog 238 = true := by kernel_rfl
theorem sh57 : tyShape Tryz.prog 57 = some (false, 1) := by kernel_rfl
theorem sl57 : slTy Tryz.prog 57 = some (4, 1, 1) := by kernel_rfl
theorem sh4 : tyShape Tryz.prog 4 = some (false, 1) := by kernel_rfl
theorem ca211 : callable Tryz.prog 211 = true := by kernel_rfl
theorem ca233 : callable Tryz.prog 233 = true := by kernel_rfl
theorem ca127 : callable Tryz.prog 127 = true := by kernel_rfl
theorem ca129 : callable Tryz.prog 129 = true := by kernel_rfl
theorem fo59_3 : fldOff Tryz.prog 59 3 = some 3 := by kernel_rfl
theorem fo59_1 : fldOff Tryz.prog 59 1 = some 1 := by kernel_rfl
theorem fo59_5 : fldOff Tryz.prog 59 5 = some 5 := by kernel_rfl
theorem fo59_6 : fldOff Tryz.prog 59 6 = some 6 := by kernel_rfl
theorem fo59_2 : fldOff Tryz.prog 59 2 = some 2 := by kernel_rfl
theorem un4 : Tryz.prog.underlying 4 = some .bool := by kernel_rfl
theorem fo59_4 : fldOff Tryz.prog 59 4 = some 4 := by kernel_rfl
theorem ca177 : callable Tryz.prog 177 = true := by kernel_rfl
theorem ca182 : callable Tryz.prog 182 = true := by kernel_rfl
theorem ca198 : callable Tryz.prog 198 = true := by kernel_rfl
theorem ca154 : callable Tryz.prog 154 = true := by kernel_rfl
theorem ca101 : callable Tryz.prog 101 = true := by kernel_rfl
theorem ca183 : callable Tryz.prog 183 = true := by kernel_rfl
theorem fo59_0 : fldOff Tryz.prog 59 0 = some 0 := by kernel_rfl
theorem ze59 : zeroOf Tryz.prog 59 = some (.agg #[vi 0, .slice none 0 0, .slice none 0 0, vi 0, vi 0, .slice none 0 0, .slice none 0 0, vi 0]) := by kernel_rfl
theorem st59 : stTy Tryz.prog 59 = some ([(0, 1), (1, 1), (2, 1), (3, 1), (4, 1), (5, 1), (6, 1), (7, 1)], [vi 0, .slice none 0 0, .slice none 0 0, vi 0, vi 0, .slice none 0 0, .slice none 0 0, vi 0]) := by kernel_rfl
theorem sh59 : tyShape Tryz.prog 59 = some (true, 8) := by kernel_rfl
theorem ca100 : callable Tryz.prog 100 = true := by kernel_rfl
theorem ca102 : callable Tryz.prog 102 = true := by kernel_rfl
theorem ca103 : callable Tryz.prog 103 = true := by kernel_rfl
theorem fo59_7 : fldOff Tryz.prog 59 7 = some 7 := by kernel_rfl
theorem un40 : Tryz.prog.underlying 40 = some (.slice 122) := by kernel_rfl
theorem ca184 : callable Tryz.prog 184 = true := by kernel_rfl
theorem un22 : Tryz.prog.underlying 22 = some (.slice 3) := by kernel_rfl
theorem un57 : Tryz.prog.underlying 57 = some (.slice 4) := by kernel_rfl
theorem ca175 : callable Tryz.prog 175 = true := by kernel_rfl
theorem ca176 : callable Tryz.prog 176 = true := by kernel_rfl
theorem ca106 : callable Tryz.prog 106 = true := by kernel_rfl
theorem ca178 : callable Tryz.prog 178 = true := by kernel_rfl
theorem ca160 : callable Tryz.prog 160 = true := by kernel_rfl
theorem ca236 : callable Tryz.prog 236 = true := by kernel_rfl
theorem ca262 : callable Tryz.prog 262 = true := by kernel_rfl
theorem ca235 : callable Tryz.prog 235 = true := by kernel_rfl
theorem ca299 : callable Tryz.prog 299 = true := by kernel_rfl
theorem ca294 : callable Tryz.prog 294 = true := by kernel_rfl
theorem ca214 : callable Tryz.prog 214 = true := by kernel_rfl
theorem ca180 : callable Tryz.prog 180 = true := by kernel_rfl
theorem ca85 : callable Tryz.prog 85 = true := by kernel_rfl
theorem ca280 : callable Tryz.prog 280 = true := by kernel_rfl
theorem ca234 : callable Tryz.prog 234 = true := by kernel_rfl
theorem ca237 : callable Tryz.prog 237 = true := by kernel_rfl
theorem ca57 : callable Tryz.prog 57 = true := by kernel_rfl
theorem ca179 : callable Tryz.prog 179 = true := by kernel_rfl
theorem ca181 : callable Tryz.prog 181 = true := by kernel_rfl
theorem ca42 : callable Tryz.prog 42 = true := by kernel_rfl
theorem ca93 : callable Tryz.prog 93 = true := by kernel_rfl
theorem ca94 : callable Tryz.prog 94 = true := by kernel_rfl
theorem ca95 : callable Tryz.prog 95 = true := by kernel_rfl
theorem ca35 : callable Tryz.prog 35 = true := by kernel_rfl
theorem ca96 : callable Tryz.prog 96 = true := by kernel_rfl
theorem ca97 : callable Tryz.prog 97 = true := by kernel_rfl
theorem ca38 : callable Tryz.prog 38 = true := by kernel_rfl
theorem ca41 : callable Tryz.prog 41 = true := by kernel_rfl
theorem ca44 : callable Tryz.prog 44 = true := by kernel_rfl
theorem ca242 : callable Tryz.prog 242 = true := by kernel_rfl
theorem ca243 : callable Tryz.prog 243 = true := by kernel_rfl
theorem ca191 : callable Tryz.prog 191 = true := by kernel_rfl
theorem ca192 : callable Tryz.prog 192 = true := by kernel_rfl
theorem ca244 : callable Tryz.prog 244 = true := by kernel_rfl
theorem ca193 : callable Tryz.prog 193 = true := by kernel_rfl
theorem ca112 : callable Tryz.prog 112 = true := by kernel_rfl
theorem ca111 : callable Tryz.prog 111 = true := by kernel_rfl
theorem ca110 : callable Tryz.prog 110 = true := by kernel_rfl
theorem ca257 : callable Tryz.prog 257 = true := by kernel_rfl
theorem ca207 : callable Tryz.prog 207 = true := by kernel_rfl
theorem ca147 : callable Tryz.prog 147 = true := by kernel_rfl
theorem ca146 : callable Tryz.prog 146 = true := by kernel_rfl
theorem ca252 : callable Tryz.prog 252 = true := by kernel_rfl
theorem ca246 : callable Tryz.prog 246 = true := by kernel_rfl
theorem un5 : Tryz.prog.underlying 5 = some (.int .u8) := by kernel_rfl
theorem un122 : Tryz.prog.underlying 122 = some (.int .u64) := by kernel_rfl
theorem un9 : Tryz.prog.underlying 9 = some .string := by kernel_rfl
theorem ca256 : callable Tryz.prog 256 = true := by kernel_rfl
theorem ca204 : callable Tryz.prog 204 = true := by kernel_rfl
theorem ca203 : callable Tryz.prog 203 = true := by kernel_rfl
theorem ca130 : callable Tryz.prog 130 = true := by kernel_rfl
theorem ca17 : callable Tryz.prog 17 = true := by kernel_rfl
theorem ca32 : callable Tryz.prog 32 = true := by kernel_rfl
theorem ca37 : callable Tryz.prog 37 = true := by kernel_rfl
theorem ca63 : callable Tryz.prog 63 = true := by kernel_rfl
theorem ca64 : callable Tryz.prog 64 = true := by kernel_rfl
theorem ca49 : callable Tryz.prog 49 = true := by kernel_rfl
theorem ca65 : callable Tryz.prog 65 = true := by kernel_rfl
theorem fn17 (l : List Int) (la0 : Option Addr) (lk0 : Nat) (rr : Unit) (hrr : flqgen_New l = rr) : FT Tryz.prog 17 #[vl la0 lk0 l] [S la0 lk0 l] (fun g : Value => True) (fun g => g) (fun g => [Cl g [vl la0 lk0 l, vi 0]]) := by
 refine FTi Tryz.func17 fun w0 M0 F0 => ?_
 refine Fb 8 0 fun hl1 => ?_
 refine Fo 0 fun ho2 => ?_
 refine KS ?_
 refine Oq Va (KS ?_)
 refine Oq Vm (Oq (Vbd st94 [vl la0 lk0 l, vi 0]) (Oa (AbO [vl la0 lk0 l, vi 0]) fun p3 => Oq Va (KS ?_)))
 have hq := q4 hrr () (by simp only [flqgen_New, cs4]); subst hq
 exact Kr p3 rfl (.tmp rfl .nil) [0] trivial
theorem fn69 (v : Int) (n : Int) (hv_0 : i64ok v) (hn_0 : i64ok n) (hn1 : 1 ≤ n) (rr : Int) (hrr : flqgen_Mod v n = rr) : FT Tryz.prog 69 #[vi v, vi n] [] (fun g : Unit => i64ok rr ∧ (0 ≤ rr ∧ rr < n)) (fun g => vi rr) (fun g => []) := by
 refine FTi Tryz.func69 fun w0 M0 F0 => ?_
 unfold i64ok at hv_0 hn_0
 have hm := mod_range v n (by omega)
 refine KS ?_
 refine Oq Va (KS ?_)
 refine Oq Vm (Oq (VcU un3 un123) (Oq Vm (Oq (VcU un3 un123) (Oq (VremU (ofInt_ne n (by omega))) (Oq (VcN un123 un3 (h := (mod_le v n (by omega)))) (Oq Va (KS ?_)))))))
 have hq := q4 hrr (((BitVec.ofInt 64 v) % (BitVec.ofInt 64 n)).toNat : Int) (by simp only [flqgen_Mod, cs4]); subst hq
 exact Kr () rfl (.tmp rfl .nil) [] en
theorem fn19 (tP : Value) (ta : Option Addr) (tk : Nat) (tT : List Int) (tI : Int) (n : Int) (htI : 0 ≤ tI ∧ tI ≤ (tT.length : Int)) (hn_0 : i64ok n) (rr : Int × Int) (hrr : Tape_Next tT tI n = rr) : FT Tryz.prog 19 #[tP, vi n] [Cl tP [vl ta tk tT, vi tI], S ta tk tT] (fun g : Unit => i64ok rr.1 ∧ (0 ≤ rr.2 ∧ rr.2 ≤ (tT.length : Int)) ∧ (0 ≤ rr.1 ∧ (rr.1 < n ∨ rr.1 = 0))) (fun g => vi rr.1) (fun g => [Cl tP [vl ta tk tT, vi rr.2]]) := by
 refine FTi Tryz.func19 fun w0 M0 F0 => ?_
 unfold i64ok at hn_0
 refine Fb 8 1 fun hl1 => ?_
 refine Fo 1 fun ho2 => ?_
 refine KS ?_
 refine Oq Va (KS ?_)
 refine Jp 0 fun hp3 => ?_
 refine Kq [0, 1, 3, 7, 15, 31, 63, 7, 135, 391, 903, 1927, 4095, 8191] fmix ?_
 refine Qv [] Vm (Qv [] Vleq ?_)
 refine bool_split (decide (n ≤ 1)) ?_ ?_
 · intro h4
   have g5 := of_decide_eq_true h4
   refine Qb h4 [] Vm (Qs (Qs (Qs (Qs (Qs (Qs (Qs (Qs (Qs ?_)))))))))
   refine Qs (Qv [] Vpt ?_)
   refine Qn ⟨by kernel_rfl, ?_⟩
   refine Kt ?_
   refine KS ?_
   refine Oq Va (KS ?_)
   have hq := q4 hrr (0, tI) (by simp only [Tape_Next, h4, cs4]); subst hq
   exact Kr () rfl (.tmp rfl .nil) [1] en
 intro h4
 have g6 := of_decide_eq_false h4
 refine Qb h4 [] Vm (Qv [] Vm (Qv [0] (Vn 0) (Qv [0] (Vfa fo94_1 0) (Qv [1] (VldF sh3 0) (Qv [] Vm (Qv [0] (Vn 0) (Qv [0] (Vfa fo94_0 0) (Qv [1] (VldF sh22 0) (Qv [] (Vlen sl22) ?_)))))))))
 refine Qv [] Vgeq (Qv [] Vpf ?_)
 refine Qn ⟨by kernel_rfl, ?_⟩
 refine Kc ?_ ?_
 · intro h7
   have g8 := of_decide_eq_true h7
   refine KS ?_
   refine Oq Va (KS ?_)
   have hq := q4 hrr (0, tI) (by simp only [Tape_Next, h4, h7, cs4]); subst hq
   exact Kr () rfl (.tmp rfl .nil) [1] en
 intro h7
 have g9 := of_decide_eq_false h7
 refine KS ?_
 refine Oq Vm (Oq (Vn 1) (Oq (Vfa fo94_1 1) (Oq (VldF sh3 1) (Oq Vadd (Oq (Vn 1) (Oq (Vfa fo94_1 1) (Ost (SclF [1] sh3 [vl ta tk tT, vi (tI + 1)]) (KS ?_))))))))
 refine JK_drawK [0, 1, 3, 7, 0, 16, 48, 112, 240, 511, 1023, 0, 4095, 8191] fmix ?_
 refine Dv [] Vm (Dv [1] (Vn 0) (Dv [1] (Vfa fo94_0 0) (Dv [0] (VldF sh22 0) (Dv [] Vm (Dv [1] (Vn 0) (Dv [1] (Vfa fo94_1 0) (Dv [0] (VldF sh3 0) (Dv [] Vsub (Dv [2] (Vi sl22 0) ?_)))))))))
 have hb10 := ok1 (i := (((tI + 1) - 1) : Int).toNat) ho2 rng
 refine Dv [2] (VldI sh3 0) (Dv [] Vm ?_)
 refine letv (flqgen_Mod (tT.getD (((tI + 1) - 1) : Int).toNat 0) n) fun rv11 hg12 => ?_
 refine Dx [] [] [0] (fun G => vi rv11) [fun G => SP.fact (i64ok rv11 ∧ (0 ≤ rv11 ∧ rv11 < n))] (fun G => xC [] ca69 (fn69 ((tT.getD (((tI + 1) - 1) : Int).toNat 0)) n pre pre pre rv11 hg12)) (Dv [] Va ?_)
 refine Dn ⟨by kernel_rfl, fun G => ?_⟩
 refine Jw2 [(4, vi rv11)] [0, 1, 2] [SP.fact (i64ok rv11 ∧ (0 ≤ rv11 ∧ rv11 < n))] ?_
 refine Jf 3 rfl ?_; rintro ⟨he13, he14⟩
 unfold i64ok at he13
 refine Jk [0, 1] ?_
 have hq := q4 hrr (rv11, (tI + 1)) (by simp only [Tape_Next, h4, h7, hg12, cs4]); subst hq
 exact Kr () rfl (.tmp rfl .nil) [0] en
theorem fn67 (width : Int) (hwidth_0 : i64ok width) (hw0 : 0 ≤ width ∧ width ≤ 1000000) (rr : GSet) (hrr : flqref1_Empty width = rr) : FT Tryz.prog 67 #[vi width] [] (fun g : Value => i64ok rr.Width ∧ (rr.Width = width) ∧ (rr.Words.length = (((width : Int) + 63) / 64).toNat)) (fun g => .agg #[vi rr.Width, g]) (fun g => [os g rr.Words]) := by
 refine FTi Tryz.func67 fun w0 M0 F0 => ?_
 unfold i64ok at hwidth_0
 refine KS ?_
 refine Oa (Al ze42 [vi 0, .slice none 0 0]) fun p1 => KS ?_
 refine Oq Vm (Oq Vm (Oq Vadd (Oq Vquo (Oa (Amk (α := BitVec 64) sl40 sz40 0#64 (fun _ _ => rfl)) fun c2 => ?_))))
 refine Jo 0 ?_; rintro a3 k4 rfl
 refine Fb 8 0 fun hl5 => ?_
 have hn6 := List.length_replicate (n := (((width + 63) / 64) : Int).toNat) (a := 0#64)
 refine Oq (Vbd st42 [vi width, vl a3 k4 (List.replicate (((width + 63) / 64) : Int).toNat 0#64)]) (Ost (Scl [1] sh42 [vi width, vl a3 k4 (List.replicate (((width + 63) / 64) : Int).toNat 0#64)]) (KS ?_))
 have hq := q4 hrr (GSet.mk width (List.replicate (((width + 63) / 64) : Int).toNat 0#64)) (by simp only [flqref1_Empty, cs4]); subst hq
 exact Kr (vl a3 k4 (List.replicate (((width + 63) / 64) : Int).toNat 0#64)) rfl (.cellN 0 rfl sh42 rfl (reads_Cl _ _) rfl .nil) [1] en
theorem fn79 (s : GSet) (sa1 : Option Addr) (sk1 : Nat) (b : Int) (hs_0 : i64ok s.Width) (hb_0 : i64ok b) (hb0 : 0 ≤ b ∧ b < s.Width) (hw0 : s.Width ≤ 1000000) (rr : GSet) (hrr : flqref1_Put s b = rr) : FT Tryz.prog 79 #[.agg #[vi s.Width, vl sa1 sk1 s.Words], vi b] [S sa1 sk1 s.Words] (fun g : Value => i64ok rr.Width ∧ (rr.Width = s.Width) ∧ (rr.Words.length = ((s.Width + 63) / 64).toNat)) (fun g => .agg #[vi rr.Width, g]) (fun g => [os g rr.Words]) := by
 refine FTi Tryz.func79 fun w0 M0 F0 => ?_
 unfold i64ok at hs_0 hb_0
 refine Fb 8 0 fun hl1 => ?_
 refine KS ?_
 refine Oa (Ab [vi s.Width, vl sa1 sk1 s.Words]) fun p2 => Oa (Al ze42 [vi 0, .slice none 0 0]) fun p3 => KS ?_
 refine Oq (Vfa fo42_0 1) (Oq (VldF sh3 1) ?_)
 refine letv (flqref1_Empty s.Width) fun rv5 hg6 => ?_
 have hc7 := fn67 s.Width pre pre rv5 hg6
 refine Oc [] ca67 hc7 ?_
 rintro c4 ⟨he8, he9, he10⟩
 unfold i64ok at he8
 refine Jo 0 ?_; rintro a11 k12 rfl
 refine Fb 8 0 fun hl13 => ?_
 refine Oa (Al ze42 [vi 0, .slice none 0 0]) fun p14 => Ost (Scl [0] sh42 [vi rv5.Width, vl a11 k12 rv5.Words]) (KS ?_)
 refine Oq (Vfa fo42_1 0) (Oq (VldF sh40 0) (Oq (Vfa fo42_1 3) (Oq (VldF sh40 3) (Oa (OpA.frame [1, 3] rfl (OpA.copyS (α := BitVec 64) rfl rfl rfl sl40 rfl)) fun u15 => ?_))))
 have hn16 : (s.Words.take rv5.Words.length ++ rv5.Words.drop s.Words.length).length = rv5.Words.length := len_copy _ _
 refine KS ?_
 refine Oq (Vfa fo42_1 1) (Oq (VldF sh40 1) (Oq Vm (Oq Vquo (Oq (Vi sl40 0) (Oq (VldU sh122 0) (Oq Vm (Oq Vrem (Oq (VcU un3 un123) (Oq (VshlU (a := 1#64)) ?_)))))))))
 refine Oq VorU (Oq (Vi sl40 0) (Ost (SoU [0] sh122) (KS ?_)))
 refine Oq (VldA sh42 1) (Ost (Scl [2] sh42 [vi rv5.Width, vl a11 k12 rv5.Words]) (KS ?_))
 have hq := q4 hrr (GSet.mk rv5.Width ((s.Words.take rv5.Words.length ++ rv5.Words.drop s.Words.length).set ((b / 64) : Int).toNat (((s.Words.take rv5.Words.length ++ rv5.Words.drop s.Words.length).getD ((b / 64) : Int).toNat 0#64) ||| (1#64 <<< (((BitVec.ofInt 64 (b % 64)).toNat : Int)).toNat)))) (by simp only [flqref1_Put, hg6, cs4]); subst hq
 exact Kr (vl a11 k12 rv5.Words) rfl (.cellN 0 rfl sh42 rfl (reads_Cl _ _) rfl .nil) [1] en
theorem fn23 (tP : Value) (ta : Option Addr) (tk : Nat) (tT : List Int) (tI : Int) (width : Int) (htI : 0 ≤ tI ∧ tI ≤ (tT.length : Int)) (hwidth_0 : i64ok width) (hw0 : 0 ≤ width ∧ width ≤ 1000) (rr : GSet × Int) (hrr : Tape_Set tT tI width = rr) : FT Tryz.prog 23 #[tP, vi width] [Cl tP [vl ta tk tT, vi tI], S ta tk tT] (fun g : Value => i64ok rr.1.Width ∧ (0 ≤ rr.2 ∧ rr.2 ≤ (tT.length : Int)) ∧ (rr.1.Width = width) ∧ (rr.1.Words.length = (((width : Int) + 63) / 64).toNat)) (fun g => .agg #[vi rr.1.Width, g]) (fun g => [os g rr.1.Words, Cl tP [vl ta tk tT, vi rr.2]]) := by
 refine FTi Tryz.func23 fun w0 M0 F0 => ?_
 unfold i64ok at hwidth_0
 refine Fb 8 1 fun hl1 => ?_
 refine Fo 1 fun ho2 => ?_
 refine KS ?_
 refine Oa (Al ze42 [vi 0, .slice none 0 0]) fun p3 => KS ?_
 refine Oq Vm ?_
 refine letv (flqref1_Empty width) fun rv5 hg6 => ?_
 have hc7 := fn67 width pre pre rv5 hg6
 refine Oc [] ca67 hc7 ?_
 rintro c4 ⟨he8, he9, he10⟩
 unfold i64ok at he8
 refine Jo 0 ?_; rintro a11 k12 rfl
 refine Fb 8 0 fun hl13 => ?_
 refine Oa (Al ze42 [vi 0, .slice none 0 0]) fun p14 => Ost (Scl [0] sh42 [vi rv5.Width, vl a11 k12 rv5.Words]) (KS ?_)
 refine Oq Va (KS ?_)
 refine Kl (γ := Nat × Int × Int × List (BitVec 64) × Int × Option Addr × Nat) (fun (r15, ti_16, s0_17, s1_18, b_19, a20, k21) => ⟨[(0, tP), (1, vi width), (4, p3), (5, p14), (6, vi b_19)], [O a20 k21 s1_18, Cl p14 [vi s0_17, vl a20 k21 s1_18], Cl p3 [vi 0, .slice none 0 0], Cl tP [vl ta tk tT, vi ti_16], S ta tk tT], Tape_Set_L0 tT r15 ti_16 s0_17 s1_18 b_19 = Tape_Set_L0 tT (((width : Int) - 0).toNat) tI rv5.Width rv5.Words 0 ∧ r15 = ((width : Int) - b_19).toNat ∧ (0 : Int) ≤ b_19 ∧ (b_19 ≤ width ∨ b_19 = 0) ∧ (-9223372036854775808 ≤ ti_16 ∧ ti_16 ≤ 9223372036854775807) ∧ (0 ≤ ti_16 ∧ ti_16 ≤ (tT.length : Int)) ∧ (-9223372036854775808 ≤ s0_17 ∧ s0_17 ≤ 9223372036854775807) ∧ (-9223372036854775808 ≤ b_19 ∧ b_19 ≤ 9223372036854775807) ∧ s0_17 = width ∧ s1_18.length = (((width : Int) + 63) / 64).toNat, r15⟩) (((width : Int) - 0).toNat, tI, rv5.Width, rv5.Words, 0, a11, k12) [1, 0, 0, 0, 0] ⟨rfl, rfl, (by omega), (.inr rfl), (by omega), (by omega), (by omega), (by omega), iv0, iv0⟩ ?_
 rintro ⟨r15, ti_16, s0_17, s1_18, b_19, a20, k21⟩ ⟨hM22, hr23, hi24, hi25, hk26, ht27, hk28, hk29, hv30, hv31⟩
 refine JJ_nx fun _ _ hL hA => ?_; dsimp only at hL hA; subst hL hA
 refine Fb 8 0 fun hl32 => ?_
 refine Fb 8 4 fun hl33 => ?_
 refine Fo 4 fun ho34 => ?_
 refine KS ?_
 refine Oq Vm (Oq Vm (Oq Vlss (KS ?_)))
 refine Kc ?_ ?_
 · intro h35
   have g36 := of_decide_eq_true h35
   obtain ⟨r37, rfl⟩ := scc (n := r15) (by omega)
   refine KS ?_
   refine Oq Vm ?_
   refine letv (Tape_Next tT ti_16 3) fun rv38 hg39 => ?_
   have hc40 := fn19 tP ta tk tT ti_16 3 pre pre rv38 hg39
   refine Oc [3, 3] ca19 hc40 ?_
   rintro - ⟨he41, he42, he43⟩
   unfold i64ok at he41
   refine Oq Veql (KS ?_)
   refine Kc ?_ ?_
   · intro h44
     have g45 := eq_of_beq h44
     refine KS ?_
     refine Oq (VldA sh42 2) (Oq Vm ?_)
     refine letv (flqref1_Put (GSet.mk s0_17 s1_18) b_19) fun rv47 hg48 => ?_
     refine Oc [1] ca79 (FT_borrow (A := _) hlx (FT_ent (Ent.take (is := [0]) rfl) (fn79 ((GSet.mk s0_17 s1_18)) a20 k21 b_19 pre pre pre pre rv47 hg48))) ?_ (ht := rfl)
     rintro c46 ⟨he49, he50, he51⟩
     unfold i64ok at he49
     have he50 : (rv47.Width = s0_17) := he50
     have he51 : (rv47.Words.length = ((s0_17 + 63) / 64).toNat) := he51
     refine Jo 1 ?_; rintro a52 k53 rfl
     refine Fb 8 1 fun hl54 => ?_
     refine Ost (Scl [3] sh42 [vi rv47.Width, vl a52 k53 rv47.Words]) (KS ?_)
     refine Oq Vm (Oq Vadd (Oq Va (KS ?_)))
     exact Kg (r37, rv38.2, rv47.Width, rv47.Words, (b_19 + 1), a52, k53) [2, 0, 2, 1, 1] ⟨(q3 hM22 (by simp only [Tape_Set_L0, h35, h44, hg6, hg39, hg48, cs4])), (by omega), (by omega), (by omega), (by omega), (by omega), (by omega), (by omega), iv1, iv1⟩
   intro h44
   have g55 := ne_of_beq_false h44
   refine KS ?_
   refine Oq Vm (Oq Vadd (Oq Va (KS ?_)))
   exact Kg (r37, rv38.2, s0_17, s1_18, (b_19 + 1), a20, k21) [1, 1, 1, 0, 0] ⟨(q3 hM22 (by simp only [Tape_Set_L0, h35, h44, hg6, hg39, cs4])), (by omega), (by omega), (by omega), (by omega), (by omega), (by omega), (by omega), iv1, iv1⟩
 intro h35
 have g56 := of_decide_eq_false h35
 obtain rfl : r15 = 0 := by omega
 refine Ke ?_
 have hR57 := q2 hM22 (ti_16, s0_17, s1_18) (by simp only [Tape_Set_L0, h35, hg6, cs4])
 refine KS ?_
 refine Oq (VldA sh42 1) (Ost (Scl [2] sh42 [vi s0_17, vl a20 k21 s1_18]) (KS ?_))
 have hq := q4 hrr ((GSet.mk s0_17 s1_18), ti_16) (by simp only [Tape_Set, h35, hg6, hR57, cs4]); subst hq
 exact Kr (vl a20 k21 s1_18) rfl (.cellN 0 rfl sh42 rfl (reads_Cl _ _) rfl .nil) [1, 2] en
theorem fn46 (l : List Int) (la0 : Option Addr) (lk0 : Nat) (n : Int) (hn_0 : i64ok n) (hl0 : l.length ≤ 1000000000) (rr : List Int) (hrr : flqref7_Insert l n = rr) : FT Tryz.prog 46 #[vl la0 lk0 l, vi n] [S la0 lk0 l] (fun g : Value => (rr.length ≤ l.length + 1)) (fun g => g) (fun g => [sl g rr]) := by
 refine FTi Tryz.func46 fun w0 M0 F0 => ?_
 unfold i64ok at hn_0
 refine Fb 8 0 fun hl1 => ?_
 refine Fo 0 fun ho2 => ?_
 refine KS ?_
 refine Oq Va (KS ?_)
 refine Oq Va (KS ?_)
 refine Kl (γ := Nat × Int) (fun (r3, i_4) => ⟨[(0, vl la0 lk0 l), (1, vi n), (5, vi i_4)], [S la0 lk0 l], flqref7_Insert_L0 l n r3 i_4 = flqref7_Insert_L0 l n (((l.length : Int) - 0).toNat) 0 ∧ r3 = ((l.length : Int) - i_4).toNat ∧ (0 : Int) ≤ i_4 ∧ i_4 ≤ (l.length : Int) ∧ (-9223372036854775808 ≤ i_4 ∧ i_4 ≤ 9223372036854775807), r3⟩) (((l.length : Int) - 0).toNat, 0) [0] ⟨rfl, rfl, (by omega), (by omega), (by omega)⟩ ?_
 rintro ⟨r3, i_4⟩ ⟨hM5, hr6, hi7, hi8, hk9⟩
 refine JJ_nx fun _ _ hL hA => ?_; dsimp only at hL hA; subst hL hA
 refine Fb 8 0 fun hl10 => ?_
 refine Fo 0 fun ho11 => ?_
 refine KS ?_
 refine Oq Vm (Oq Vm (Oq (Vlen sl22) (Oq Vlss (Oq Vm ?_))))
 refine Js 11 ?_ ?_
 · intro h12
   have g13 := of_decide_eq_true h12
   obtain ⟨r14, rfl⟩ := scc (n := r3) (by omega)
   refine Oq Vm (Oq Vm (Oq (Vi sl22 0) ?_))
   have hb15 := ok1 (i := i_4.toNat) ho11 rng
   refine Oq (VldI sh3 0) (Oq Vm (Oq Vlss (Oq Vpt (KS ?_))))
   refine Kc ?_ ?_
   · intro h16
     have g17 := of_decide_eq_true h16
     refine KS ?_
     refine Oq Vm (Oq Vadd (Oq Va (KS ?_)))
     exact Kg (r14, (i_4 + 1)) [0] ⟨(q3 hM5 (by simp only [flqref7_Insert_L0, h12, h16, cs4])), (by omega), (by omega), (by omega), (by omega)⟩
   intro h16
   have g18 := of_decide_eq_false h16
   refine Ke ?_
   have hR19 := q2 hM5 i_4 (by simp only [flqref7_Insert_L0, h12, h16, cs4])
   refine KS ?_
   refine Oq Vm (Oq Vm (Oq (Vlen sl22) (Oq Vlss (Oq Vm ?_))))
   refine Js 25 ?_ ?_
   · intro h20
     have g21 := of_decide_eq_true h20
     refine Oq Vm (Oq Vm (Oq (Vi sl22 0) ?_))
     have hb22 := ok1 (i := i_4.toNat) ho11 rng
     refine Oq (VldI sh3 0) (Oq Vm (Oq Veql (Oq Vpt (KS ?_))))
     refine Kc ?_ ?_
     · intro h23
       have g24 := eq_of_beq h23
       refine KS ?_
       refine Oq Vm (Oq Va (KS ?_))
       have hq := q4 hrr l (by simp only [flqref7_Insert, h12, h16, h20, h23, hR19, cs4]); subst hq
       exact Kr (vl la0 lk0 l) rfl (.tmp rfl .nil) [0] en
     intro h23
     have g25 := ne_of_beq_false h23
     refine KS ?_
     refine Oa (As0 sl22) fun c26 => ?_
     refine Jo 0 ?_; rintro a27 k28 rfl
     refine Oq Vm (Oq Vm (Oa (Asl [1] sl22 0 (i_4.toNat)) fun c29 => ?_))
     refine Jo 0 ?_; rintro a30 k31 rfl
     refine Fb 8 0 fun hl32 => ?_
     refine Fo 0 fun ho33 => ?_
     have hn34 : ((l.take (i_4.toNat)).drop 0).length = (i_4.toNat) - 0 := len_slice rng rng
     refine Jl [1] (Ent.crNil (α := Int) _) ?_
     refine Oa (Ap0 [0, 0] sl22 sl22 sz22) fun c35 => ?_
     refine Jo 0 ?_; rintro a36 k37 rfl
     refine Oq Va (KS ?_)
     refine Oq Vm (Oq Vm (Oa (AsV sl22 sz22 [vi n] [vi n]) fun c38 => ?_))
     refine Jo 0 ?_; rintro a39 k40 rfl
     refine Jl [0] (Ent.crInt _ [n] _ _ rfl rfl (by intro x hx; rw [List.mem_singleton] at hx; subst hx; unfold i64ok; omega) (Nat.le_of_ble_eq_true rfl)) ?_
     refine Oa (ApO [1, 0] sl22 sl22 sz22) fun c41 => ?_
     refine Jo 0 ?_; rintro a42 k43 rfl
     refine Fb 8 0 fun hl44 => ?_
     refine Fo 0 fun ho45 => ?_
     have hn46 := la ((l.take (i_4.toNat)).drop 0) ([n] : List Int)
     refine Oq Va (KS ?_)
     refine Oq Vm (Oq Vm (Oq Vm (Oa (Asl [2] sl22 (i_4.toNat) l.length) fun c47 => ?_)))
     refine Jo 0 ?_; rintro a48 k49 rfl
     refine Fb 8 0 fun hl50 => ?_
     refine Fo 0 fun ho51 => ?_
     have hn52 : ((l.take l.length).drop (i_4.toNat)).length = l.length - (i_4.toNat) := len_slice rng rng
     refine Oa (Ap [1, 0] sl22 sl22 sz22) fun c53 => ?_
     refine Jo 0 ?_; rintro a54 k55 rfl
     refine Fb 8 0 fun hl56 => ?_
     refine Fo 0 fun ho57 => ?_
     have hn58 := la ((((l.take (i_4.toNat)).drop 0) ++ [n]) : List Int) ((l.take l.length).drop (i_4.toNat))
     refine Oq Va (KS ?_)
     refine Jl [0] (Ent.freeze _ _) ?_
     have hq := q4 hrr ((((l.take (i_4.toNat)).drop 0) ++ [n]) ++ ((l.take l.length).drop (i_4.toNat))) (by simp only [flqref7_Insert, h12, h16, h20, h23, hR19, cs4]); subst hq
     exact Kr (.slice a54 (((((l.take (i_4.toNat)).drop 0) ++ [n]) ++ ((l.take l.length).drop (i_4.toNat))).length) k55) rfl (.tmp rfl .nil) [0] en
   intro h20
   exact absurd h20 (by simp [h12])
 intro h12
 have g59 := of_decide_eq_false h12
 obtain rfl : r3 = 0 := by omega
 refine Osk (Osk (Osk (Osk (Osk (Osk (Oq Vpf (KS ?_)))))))
 refine Kf ?_
 refine Ke ?_
 have hR60 := q2 hM5 i_4 (by simp only [flqref7_Insert_L0, h12, cs4])
 refine KS ?_
 refine Oq Vm (Oq Vm (Oq (Vlen sl22) (Oq Vlss (Oq Vm ?_))))
 refine Js 25 ?_ ?_
 · intro h61
   exact absurd h61 (by simp [h12])
 intro h61
 have g62 := of_decide_eq_false h61
 refine Osk (Osk (Osk (Osk (Osk (Osk (Oq Vpf (KS ?_)))))))
 refine Kf ?_
 refine KS ?_
 refine Oa (As0 sl22) fun c63 => ?_
 refine Jo 0 ?_; rintro a64 k65 rfl
 refine Oq Vm (Oq Vm (Oa (Asl [1] sl22 0 (i_4.toNat)) fun c66 => ?_))
 refine Jo 0 ?_; rintro a67 k68 rfl
 refine Fb 8 0 fun hl69 => ?_
 refine Fo 0 fun ho70 => ?_
 have hn71 : ((l.take (i_4.toNat)).drop 0).length = (i_4.toNat) - 0 := len_slice rng rng
 refine Jl [1] (Ent.crNil (α := Int) _) ?_
 refine Oa (Ap0 [0, 0] sl22 sl22 sz22) fun c72 => ?_
 refine Jo 0 ?_; rintro a73 k74 rfl
 refine Oq Va (KS ?_)
 refine Oq Vm (Oq Vm (Oa (AsV sl22 sz22 [vi n] [vi n]) fun c75 => ?_))
 refine Jo 0 ?_; rintro a76 k77 rfl
 refine Jl [0] (Ent.crInt _ [n] _ _ rfl rfl (by intro x hx; rw [List.mem_singleton] at hx; subst hx; unfold i64ok; omega) (Nat.le_of_ble_eq_true rfl)) ?_
 refine Oa (ApO [1, 0] sl22 sl22 sz22) fun c78 => ?_
 refine Jo 0 ?_; rintro a79 k80 rfl
 refine Fb 8 0 fun hl81 => ?_
 refine Fo 0 fun ho82 => ?_
 have hn83 := la ((l.take (i_4.toNat)).drop 0) ([n] : List Int)
 refine Oq Va (KS ?_)
 refine Oq Vm (Oq Vm (Oq Vm (Oa (Asl [2] sl22 (i_4.toNat) l.length) fun c84 => ?_)))
 refine Jo 0 ?_; rintro a85 k86 rfl
 refine Fb 8 0 fun hl87 => ?_
 refine Fo 0 fun ho88 => ?_
 have hn89 : ((l.take l.length).drop (i_4.toNat)).length = l.length - (i_4.toNat) := len_slice rng rng
 refine Oa (Ap [1, 0] sl22 sl22 sz22) fun c90 => ?_
 refine Jo 0 ?_; rintro a91 k92 rfl
 refine Fb 8 0 fun hl93 => ?_
 refine Fo 0 fun ho94 => ?_
 have hn95 := la ((((l.take (i_4.toNat)).drop 0) ++ [n]) : List Int) ((l.take l.length).drop (i_4.toNat))
 refine Oq Va (KS ?_)
 refine Jl [0] (Ent.freeze _ _) ?_
 have hq := q4 hrr ((((l.take (i_4.toNat)).drop 0) ++ [n]) ++ ((l.take l.length).drop (i_4.toNat))) (by simp only [flqref7_Insert, h12, h61, hR60, cs4]); subst hq
 exact Kr (.slice a91 (((((l.take (i_4.toNat)).drop 0) ++ [n]) ++ ((l.take l.length).drop (i_4.toNat))).length) k92) rfl (.tmp rfl .nil) [0] en
theorem fn66 (tP : Value) (ta : Option Addr) (tk : Nat) (tT : List Int) (tI : Int) (htI : 0 ≤ tI ∧ tI ≤ (tT.length : Int)) (rr : Int × Int) (hrr : Tape_Width tT tI = rr) : FT Tryz.prog 66 #[tP] [Cl tP [vl ta tk tT, vi tI], S ta tk tT] (fun g : Unit => i64ok rr.1 ∧ (0 ≤ rr.2 ∧ rr.2 ≤ (tT.length : Int)) ∧ (0 ≤ rr.1 ∧ rr.1 ≤ 8)) (fun g => vi rr.1) (fun g => [Cl tP [vl ta tk tT, vi rr.2]]) := by
 refine FTi Tryz.func66 fun w0 M0 F0 => ?_
 refine Fb 8 1 fun hl1 => ?_
 refine Fo 1 fun ho2 => ?_
 refine KS ?_
 refine Oq Va (KS ?_)
 refine Oa (AsV sl22 sz22 [vi 3, vi 1, vi 4, vi 2, vi 6, vi 0, vi 8] [vi 3, vi 1, vi 4, vi 2, vi 6, vi 0, vi 8]) fun c3 => ?_
 refine Jo 0 ?_; rintro a4 k5 rfl
 refine Oq Vm ?_
 refine letv (Tape_Next tT tI 7) fun rv6 hg7 => ?_
 have hc8 := fn19 tP ta tk tT tI 7 pre pre rv6 hg7
 refine Oc [1, 1] ca19 hc8 ?_
 rintro - ⟨he9, he10, he11⟩
 unfold i64ok at he9
 refine Jl [1] (Ent.crInt _ [3, 1, 4, 2, 6, 0, 8] _ _ rfl rfl (by intro x hx; simp only [List.mem_cons, List.not_mem_nil, or_false] at hx; rcases hx with rfl | rfl | rfl | rfl | rfl | rfl | rfl <;> (unfold i64ok; omega)) (Nat.le_of_ble_eq_true rfl)) ?_
 refine Oq (Vi sl22 0) (Oq (VldI sh3 0) (Oq Va (KS ?_)))
 have hq := q4 hrr (([3, 1, 4, 2, 6, 0, 8].getD rv6.1.toNat 0), rv6.2) (by simp only [Tape_Width, hg7, cs4]); subst hq
 exact Kr () rfl (.tmp rfl .nil) [1] ⟨(by rw [← hrr]; exact width_ok _ _), en, (by rw [← hrr]; exact width_rng _ _)⟩
theorem fn68 (tP : Value) (ta : Option Addr) (tk : Nat) (tT : List Int) (tI : Int) (width : Int) (htI : 0 ≤ tI ∧ tI ≤ (tT.length : Int)) (hwidth_0 : i64ok width) (hw0 : 0 ≤ width ∧ width ≤ 1000) (rr : GTransfer × Int) (hrr : Tape_Transfer tT tI width = rr) : FT Tryz.prog 68 #[tP, vi width] [Cl tP [vl ta tk tT, vi tI], S ta tk tT] (fun g : Value × Value × Value => i64ok rr.1.Gen.Width ∧ i64ok rr.1.Kill.Width ∧ (0 ≤ rr.2 ∧ rr.2 ≤ (tT.length : Int)) ∧ (rr.1.Gen.Width = width) ∧ (rr.1.Kill.Width = width) ∧ (rr.1.Copies.length ≤ 12)) (fun g => .agg #[vi rr.1.Gen.Width, g.1, vi rr.1.Kill.Width, g.2.1, g.2.2]) (fun g => [sl g.1 rr.1.Gen.Words, sl g.2.1 rr.1.Kill.Words, sl g.2.2 rr.1.Copies, Cl tP [vl ta tk tT, vi rr.2]]) := by
 refine FTi Tryz.func68 fun w0 M0 F0 => ?_
 unfold i64ok at hwidth_0
 refine Fb 8 1 fun hl1 => ?_
 refine Fo 1 fun ho2 => ?_
 refine KS ?_
 refine Oa (Al ze98 [vi 0, .slice none 0 0, vi 0, .slice none 0 0, .slice none 0 0]) fun p3 => KS ?_
 refine Oq Vm ?_
 refine letv (flqref1_Empty width) fun rv5 hg6 => ?_
 have hc7 := fn67 width pre pre rv5 hg6
 refine Oc [] ca67 hc7 ?_
 rintro c4 ⟨he8, he9, he10⟩
 unfold i64ok at he8
 refine Jo 0 ?_; rintro a11 k12 rfl
 refine Fb 8 0 fun hl13 => ?_
 refine Oq Vm ?_
 have hc15 := fn67 width pre pre rv5 hg6
 refine Oc [] ca67 hc15 ?_
 rintro c14 ⟨he16, he17, he18⟩
 unfold i64ok at he16
 refine Jo 0 ?_; rintro a19 k20 rfl
 refine Oq (Vbd st98 [vi rv5.Width, vl a11 k12 rv5.Words, vi rv5.Width, vl a19 k20 rv5.Words, .slice none 0 0]) (Oa (Al ze98 [vi 0, .slice none 0 0, vi 0, .slice none 0 0, .slice none 0 0]) fun p21 => Ost (Scl [0] sh98 [vi rv5.Width, vl a11 k12 rv5.Words, vi rv5.Width, vl a19 k20 rv5.Words, .slice none 0 0]) (KS ?_))
 refine Oq Va (KS ?_)
 refine Kl (γ := Nat × Int × Int × List (BitVec 64) × Int × List (BitVec 64) × Int × Option Addr × Nat × Option Addr × Nat) (fun (r22, ti_23, f0_24, f1_25, f2_26, f3_27, b_28, a29, k30, a31, k32) => ⟨[(0, tP), (1, vi width), (4, p3), (5, p21), (6, vi b_28)], [O a31 k32 f3_27, O a29 k30 f1_25, Cl p21 [vi f0_24, vl a29 k30 f1_25, vi f2_26, vl a31 k32 f3_27, .slice none 0 0], Cl p3 [vi 0, .slice none 0 0, vi 0, .slice none 0 0, .slice none 0 0], Cl tP [vl ta tk tT, vi ti_23], S ta tk tT], Tape_Transfer_L0 tT r22 ti_23 f0_24 f1_25 f2_26 f3_27 b_28 = Tape_Transfer_L0 tT (((width : Int) - 0).toNat) tI rv5.Width rv5.Words rv5.Width rv5.Words 0 ∧ r22 = ((width : Int) - b_28).toNat ∧ (0 : Int) ≤ b_28 ∧ (b_28 ≤ width ∨ b_28 = 0) ∧ (-9223372036854775808 ≤ ti_23 ∧ ti_23 ≤ 9223372036854775807) ∧ (0 ≤ ti_23 ∧ ti_23 ≤ (tT.length : Int)) ∧ (-9223372036854775808 ≤ f0_24 ∧ f0_24 ≤ 9223372036854775807) ∧ (-9223372036854775808 ≤ f2_26 ∧ f2_26 ≤ 9223372036854775807) ∧ (-9223372036854775808 ≤ b_28 ∧ b_28 ≤ 9223372036854775807) ∧ f0_24 = width ∧ f1_25.length = (((width : Int) + 63) / 64).toNat ∧ f2_26 = width ∧ f3_27.length = (((width : Int) + 63) / 64).toNat, r22⟩) (((width : Int) - 0).toNat, tI, rv5.Width, rv5.Words, rv5.Width, rv5.Words, 0, a11, k12, a19, k20) [1, 1, 0, 0, 0, 0] ⟨rfl, rfl, (by omega), (.inr rfl), (by omega), (by omega), (by omega), (by omega), (by omega), iv0, iv0, iv0, iv0⟩ ?_
 rintro ⟨r22, ti_23, f0_24, f1_25, f2_26, f3_27, b_28, a29, k30, a31, k32⟩ ⟨hM33, hr34, hi35, hi36, hk37, ht38, hk39, hk40, hk41, hv42, hv43, hv44, hv45⟩
 refine JJ_nx fun _ _ hL hA => ?_; dsimp only at hL hA; subst hL hA
 refine Fb 8 0 fun hl46 => ?_
 refine Fb 8 1 fun hl47 => ?_
 refine Fb 8 5 fun hl48 => ?_
 refine Fo 5 fun ho49 => ?_
 refine KS ?_
 refine Oq Vm (Oq Vm (Oq Vlss (KS ?_)))
 refine Kc ?_ ?_
 · intro h50
   have g51 := of_decide_eq_true h50
   obtain ⟨r52, rfl⟩ := scc (n := r22) (by omega)
   refine KS ?_
   refine Oq Vm ?_
   refine letv (Tape_Next tT ti_23 6) fun rv53 hg54 => ?_
   have hc55 := fn19 tP ta tk tT ti_23 6 pre pre rv53 hg54
   refine Oc [4, 4] ca19 hc55 ?_
   rintro - ⟨he56, he57, he58⟩
   unfold i64ok at he56
   refine KS ?_
   refine Oq Veql (Oq Va (KS ?_))
   refine Kc ?_ ?_
   · intro h59
     have g60 := eq_of_beq h59
     refine KS ?_
     refine Oq (Vfa fo98_0 3) (Oq (VldG sh42 3 [vi f0_24, vl a29 k30 f1_25]) (Oq Vm ?_))
     refine letv (flqref1_Put (GSet.mk f0_24 f1_25) b_28) fun rv62 hg63 => ?_
     refine Oc [2] ca79 (FT_borrow (A := _) hlx (FT_ent (Ent.take (is := [0]) rfl) (fn79 ((GSet.mk f0_24 f1_25)) a29 k30 b_28 pre pre pre pre rv62 hg63))) ?_ (ht := rfl)
     rintro c61 ⟨he64, he65, he66⟩
     unfold i64ok at he64
     have he65 : (rv62.Width = f0_24) := he65
     have he66 : (rv62.Words.length = ((f0_24 + 63) / 64).toNat) := he66
     refine Jo 1 ?_; rintro a67 k68 rfl
     refine Fb 8 1 fun hl69 => ?_
     refine Oq (Vfa fo98_0 4) (Ost (SclF [4] sh42 [vi rv62.Width, vl a67 k68 rv62.Words, vi f2_26, vl a31 k32 f3_27, .slice none 0 0]) (KS ?_))
     refine Oq Vm (Oq Vadd (Oq Va (KS ?_)))
     exact Kg (r52, rv53.2, rv62.Width, rv62.Words, f2_26, f3_27, (b_28 + 1), a67, k68, a31, k32) [4, 2, 0, 2, 1, 1] ⟨(q3 hM33 (by simp only [Tape_Transfer_L0, h50, h59, hg6, hg54, hg63, cs4])), (by omega), (by omega), (by omega), (by omega), (by omega), (by omega), (by omega), (by omega), iv1, iv1, iv1, iv1⟩
   intro h59
   have g70 := ne_of_beq_false h59
   refine KS ?_
   refine Oq Veql (Oq Va (KS ?_))
   refine Kc ?_ ?_
   · intro h71
     have g72 := eq_of_beq h71
     refine KS ?_
     refine Kc ?_ ?_
     · intro h73
       have g74 := eq_of_beq h73
       refine KS ?_
       refine Oq (Vfa fo98_1 3) (Oq (VldG sh42 3 [vi f2_26, vl a31 k32 f3_27]) (Oq Vm ?_))
       refine letv (flqref1_Put (GSet.mk f2_26 f3_27) b_28) fun rv76 hg77 => ?_
       refine Oc [1] ca79 (FT_borrow (A := _) hlx (FT_ent (Ent.take (is := [0]) rfl) (fn79 ((GSet.mk f2_26 f3_27)) a31 k32 b_28 pre pre pre pre rv76 hg77))) ?_ (ht := rfl)
       rintro c75 ⟨he78, he79, he80⟩
       unfold i64ok at he78
       have he79 : (rv76.Width = f2_26) := he79
       have he80 : (rv76.Words.length = ((f2_26 + 63) / 64).toNat) := he80
       refine Jo 1 ?_; rintro a81 k82 rfl
       refine Fb 8 1 fun hl83 => ?_
       refine Oq (Vfa fo98_1 4) (Ost (SclF [4] sh42 [vi f0_24, vl a29 k30 f1_25, vi rv76.Width, vl a81 k82 rv76.Words, .slice none 0 0]) (KS ?_))
       refine Oq Vm (Oq Vadd (Oq Va (KS ?_)))
       exact Kg (r52, rv53.2, f0_24, f1_25, rv76.Width, rv76.Words, (b_28 + 1), a29, k30, a81, k82) [2, 3, 0, 2, 1, 1] ⟨(q3 hM33 (by simp only [Tape_Transfer_L0, h50, h59, h71, h73, hg6, hg54, hg77, cs4])), (by omega), (by omega), (by omega), (by omega), (by omega), (by omega), (by omega), (by omega), iv1, iv1, iv1, iv1⟩
     intro h73
     exact absurd h73 (by simp [h71])
   intro h71
   have g84 := ne_of_beq_false h71
   refine KS ?_
   refine Oq Veql (Oq Va (KS ?_))
   refine Kc ?_ ?_
   · intro h85
     have g86 := eq_of_beq h85
     refine KS ?_
     refine Oq (Vfa fo98_1 3) (Oq (VldG sh42 3 [vi f2_26, vl a31 k32 f3_27]) (Oq Vm ?_))
     refine letv (flqref1_Put (GSet.mk f2_26 f3_27) b_28) fun rv88 hg89 => ?_
     refine Oc [1] ca79 (FT_borrow (A := _) hlx (FT_ent (Ent.take (is := [0]) rfl) (fn79 ((GSet.mk f2_26 f3_27)) a31 k32 b_28 pre pre pre pre rv88 hg89))) ?_ (ht := rfl)
     rintro c87 ⟨he90, he91, he92⟩
     unfold i64ok at he90
     have he91 : (rv88.Width = f2_26) := he91
     have he92 : (rv88.Words.length = ((f2_26 + 63) / 64).toNat) := he92
     refine Jo 1 ?_; rintro a93 k94 rfl
     refine Fb 8 1 fun hl95 => ?_
     refine Oq (Vfa fo98_1 4) (Ost (SclF [4] sh42 [vi f0_24, vl a29 k30 f1_25, vi rv88.Width, vl a93 k94 rv88.Words, .slice none 0 0]) (KS ?_))
     refine Oq Vm (Oq Vadd (Oq Va (KS ?_)))
     exact Kg (r52, rv53.2, f0_24, f1_25, rv88.Width, rv88.Words, (b_28 + 1), a29, k30, a93, k94) [2, 3, 0, 2, 1, 1] ⟨(q3 hM33 (by simp only [Tape_Transfer_L0, h50, h59, h71, h85, hg6, hg54, hg89, cs4])), (by omega), (by omega), (by omega), (by omega), (by omega), (by omega), (by omega), (by omega), iv1, iv1, iv1, iv1⟩
   intro h85
   have g96 := ne_of_beq_false h85
   refine KS ?_
   refine Oq Vm (Oq Vadd (Oq Va (KS ?_)))
   exact Kg (r52, rv53.2, f0_24, f1_25, f2_26, f3_27, (b_28 + 1), a29, k30, a31, k32) [1, 1, 1, 1, 0, 0] ⟨(q3 hM33 (by simp only [Tape_Transfer_L0, h50, h59, h71, h85, hg6, hg54, cs4])), (by omega), (by omega), (by omega), (by omega), (by omega), (by omega), (by omega), (by omega), iv1, iv1, iv1, iv1⟩
 intro h50
 have g97 := of_decide_eq_false h50
 obtain rfl : r22 = 0 := by omega
 refine Ke ?_
 have hR98 := q2 hM33 (ti_23, f0_24, f1_25, f2_26, f3_27) (by simp only [Tape_Transfer_L0, h50, hg6, cs4])
 refine KS ?_
 refine Oq Va (KS ?_)
 refine Jl [] (Ent.osNil (α := GCopy)) ?_
 refine Kl (γ := Nat × Int × List GCopy × Int × Option Addr × Nat) (fun (r99, ti_100, f4_101, a_102, a103, k104) => ⟨[(0, tP), (1, vi width), (4, p3), (5, p21), (7, vi a_102)], [O a103 k104 f4_101, O a31 k32 f3_27, O a29 k30 f1_25, Cl p21 [vi f0_24, vl a29 k30 f1_25, vi f2_26, vl a31 k32 f3_27, vl a103 k104 f4_101], Cl p3 [vi 0, .slice none 0 0, vi 0, .slice none 0 0, .slice none 0 0], Cl tP [vl ta tk tT, vi ti_100], S ta tk tT], Tape_Transfer_L1 tT width r99 ti_100 f4_101 a_102 = Tape_Transfer_L1 tT width (((width : Int) - 0).toNat) ti_23 [] 0 ∧ r99 = ((width : Int) - a_102).toNat ∧ (0 : Int) ≤ a_102 ∧ (a_102 ≤ width ∨ a_102 = 0) ∧ (-9223372036854775808 ≤ ti_100 ∧ ti_100 ≤ 9223372036854775807) ∧ (0 ≤ ti_100 ∧ ti_100 ≤ (tT.length : Int)) ∧ (-9223372036854775808 ≤ a_102 ∧ a_102 ≤ 9223372036854775807) ∧ f4_101.length ≤ 12, r99⟩) (((width : Int) - 0).toNat, ti_23, [], 0, none, 0) [0, 0, 0, 0, 0, 0, 0] ⟨rfl, rfl, (by omega), (.inr rfl), (by omega), (by omega), (by omega), iv0⟩ ?_
 rintro ⟨r99, ti_100, f4_101, a_102, a103, k104⟩ ⟨hM105, hr106, hi107, hi108, hk109, ht110, hk111, hv112⟩
 refine JJ_nx fun _ _ hL hA => ?_; dsimp only at hL hA; subst hL hA
 refine Fb 16 0 fun hl113 => ?_
 refine Fb 8 1 fun hl114 => ?_
 refine Fb 8 2 fun hl115 => ?_
 refine Fb 8 6 fun hl116 => ?_
 refine Fo 6 fun ho117 => ?_
 refine KS ?_
 refine Oq Vm (Oq Vm (Oq Vlss (KS ?_)))
 refine Kc ?_ ?_
 · intro h118
   have g119 := of_decide_eq_true h118
   obtain ⟨r120, rfl⟩ := scc (n := r99) (by omega)
   refine KS ?_
   refine Oq Va (KS ?_)
   refine Kl (γ := Nat × Int × List GCopy × Int × Option Addr × Nat) (fun (r121, ti_122, f4_123, b_124, a125, k126) => ⟨[(0, tP), (1, vi width), (4, p3), (5, p21), (7, vi a_102), (8, vi b_124)], [O a125 k126 f4_123, O a31 k32 f3_27, O a29 k30 f1_25, Cl p21 [vi f0_24, vl a29 k30 f1_25, vi f2_26, vl a31 k32 f3_27, vl a125 k126 f4_123], Cl p3 [vi 0, .slice none 0 0, vi 0, .slice none 0 0, .slice none 0 0], Cl tP [vl ta tk tT, vi ti_122], S ta tk tT], Tape_Transfer_L2 tT width a_102 r121 ti_122 f4_123 b_124 = Tape_Transfer_L2 tT width a_102 (((width : Int) - 0).toNat) ti_100 f4_101 0 ∧ r121 = ((width : Int) - b_124).toNat ∧ (0 : Int) ≤ b_124 ∧ (b_124 ≤ width ∨ b_124 = 0) ∧ (-9223372036854775808 ≤ ti_122 ∧ ti_122 ≤ 9223372036854775807) ∧ (0 ≤ ti_122 ∧ ti_122 ≤ (tT.length : Int)) ∧ (-9223372036854775808 ≤ b_124 ∧ b_124 ≤ 9223372036854775807) ∧ f4_123.length ≤ 12, r121⟩) (((width : Int) - 0).toNat, ti_100, f4_101, 0, a103, k104) [0, 0, 0, 0, 0, 0, 0] ⟨rfl, rfl, (by omega), (.inr rfl), (by omega), (by omega), (by omega), iv0⟩ ?_
   rintro ⟨r121, ti_122, f4_123, b_124, a125, k126⟩ ⟨hM127, hr128, hi129, hi130, hk131, ht132, hk133, hv134⟩
   refine JJ_nx fun _ _ hL hA => ?_; dsimp only at hL hA; subst hL hA
   refine Fb 16 0 fun hl135 => ?_
   refine Fb 8 1 fun hl136 => ?_
   refine Fb 8 2 fun hl137 => ?_
   refine Fb 8 6 fun hl138 => ?_
   refine Fo 6 fun ho139 => ?_
   refine KS ?_
   refine Oq Vm (Oq Vm (Oq Vlss (Oq Vm ?_)))
   refine Js 44 ?_ ?_
   · intro h140
     have g141 := of_decide_eq_true h140
     obtain ⟨r142, rfl⟩ := scc (n := r121) (by omega)
     refine Oq (Vfa fo98_2 3) (Oq (VldF sh96 3) (Oq (Vlen sl96) (Oq Vlss (Oq Vpt (KS ?_)))))
     refine Kc ?_ ?_
     · intro h143
       have g144 := of_decide_eq_true h143
       refine KS ?_
       refine Oq Vm (Oq Vm (Oq Vmul ?_))
       refine letv (Tape_Next tT ti_122 (2 * width)) fun rv145 hg146 => ?_
       have hc147 := fn19 tP ta tk tT ti_122 ((2 * width)) pre pre rv145 hg146
       refine Oc [5, 5] ca19 hc147 ?_
       rintro - ⟨he148, he149, he150⟩
       unfold i64ok at he148
       refine Oq Veql (KS ?_)
       refine Kc ?_ ?_
       · intro h151
         have g152 := eq_of_beq h151
         refine KS ?_
         refine Oq (Vfa fo98_2 4) (Oq (VldF sh96 4) (Oq Vm (Oq Vm (Oq (Vbd st147 [vi a_102, vi b_124]) (Oa (AsV sl96 sz96 [.agg #[vi a_102, vi b_124]] [vi a_102, vi b_124]) fun c153 => ?_)))))
         refine Jo 0 ?_; rintro a154 k155 rfl
         refine Jl [0] (Ent.cr1 (α := GCopy) (A := []) _ (GCopy.mk a_102 b_124) _ (Nat.le_of_ble_eq_true rfl) (fun h => ⟨rfl, (by unfold i64ok; first | omega | (dsimp only; omega)), (by unfold i64ok; first | omega | (dsimp only; omega))⟩)) ?_
         refine Oa (ApO [2, 0] sl96 sl96 sz96) fun c156 => ?_
         refine Jo 0 ?_; rintro a157 k158 rfl
         refine Fb 16 0 fun hl159 => ?_
         have hn160 := la f4_123 ([(GCopy.mk a_102 b_124)] : List GCopy)
         refine Oq (Vfa fo98_2 4) (Ost (SclF [4] sh96 [vi f0_24, vl a29 k30 f1_25, vi f2_26, vl a31 k32 f3_27, vl a157 k158 (f4_123 ++ [(GCopy.mk a_102 b_124)])]) (KS ?_))
         refine Oq Vm (Oq Vadd (Oq Va (KS ?_)))
         exact Kg (r142, rv145.2, (f4_123 ++ [(GCopy.mk a_102 b_124)]), (b_124 + 1), a157, k158) [1, 2, 2, 0, 1, 0, 0] ⟨(q3 hM127 (by simp only [Tape_Transfer_L2, h50, h118, h140, h143, h151, hg6, hR98, hg146, cs4])), (by omega), (by omega), (by omega), (by omega), (by omega), (by omega), iv1⟩
       intro h151
       have g161 := ne_of_beq_false h151
       refine KS ?_
       refine Oq Vm (Oq Vadd (Oq Va (KS ?_)))
       exact Kg (r142, rv145.2, f4_123, (b_124 + 1), a125, k126) [1, 1, 1, 1, 1, 0, 0] ⟨(q3 hM127 (by simp only [Tape_Transfer_L2, h50, h118, h140, h143, h151, hg6, hR98, hg146, cs4])), (by omega), (by omega), (by omega), (by omega), (by omega), (by omega), iv1⟩
     intro h143
     have g162 := of_decide_eq_false h143
     refine Ke ?_
     have hR163 := q2 hM127 (ti_122, f4_123) (by simp only [Tape_Transfer_L2, h50, h118, h140, h143, hg6, hR98, cs4])
     refine KS ?_
     refine Oq Vm (Oq Vadd (Oq Va (KS ?_)))
     exact Kg (r120, ti_122, f4_123, (a_102 + 1), a125, k126) [0, 0, 0, 0, 0, 0, 0] ⟨(q3 hM105 (by simp only [Tape_Transfer_L1, h50, h118, h140, h143, hg6, hR98, hR163, cs4])), (by omega), (by omega), (by omega), (by omega), (by omega), (by omega), iv1⟩
   intro h140
   have g164 := of_decide_eq_false h140
   obtain rfl : r121 = 0 := by omega
   refine Osk (Osk (Osk (Osk (Oq Vpf (KS ?_)))))
   refine Kf ?_
   refine Ke ?_
   have hR165 := q2 hM127 (ti_122, f4_123) (by simp only [Tape_Transfer_L2, h50, h118, h140, hg6, hR98, cs4])
   refine KS ?_
   refine Oq Vm (Oq Vadd (Oq Va (KS ?_)))
   exact Kg (r120, ti_122, f4_123, (a_102 + 1), a125, k126) [0, 0, 0, 0, 0, 0, 0] ⟨(q3 hM105 (by simp only [Tape_Transfer_L1, h50, h118, h140, hg6, hR98, hR165, cs4])), (by omega), (by omega), (by omega), (by omega), (by omega), (by omega), iv1⟩
 intro h118
 have g166 := of_decide_eq_false h118
 obtain rfl : r99 = 0 := by omega
 refine Ke ?_
 have hR167 := q2 hM105 (ti_100, f4_101) (by simp only [Tape_Transfer_L1, h50, h118, hg6, hR98, cs4])
 refine KS ?_
 refine Oq (VldA sh98 3) (Ost (Scl [4] sh98 [vi f0_24, vl a29 k30 f1_25, vi f2_26, vl a31 k32 f3_27, vl a103 k104 f4_101]) (KS ?_))
 refine Jl [3] (Ent.freeze _ _) ?_
 refine Jl [3] (Ent.freeze _ _) ?_
 refine Jl [3] (Ent.freeze _ _) ?_
 have hq := q4 hrr ((GTransfer.mk (GSet.mk f0_24 f1_25) (GSet.mk f2_26 f3_27) f4_101), ti_100) (by simp only [Tape_Transfer, h50, h118, hg6, hR98, hR167, cs4]); subst hq
 exact Kr (vl a29 k30 f1_25, vl a31 k32 f3_27, vl a103 k104 f4_101) rfl (.cellN 3 rfl sh98 rfl (reads_Cl _ _) rfl .nil) [2, 1, 0, 5] en
theorem fn18 (tP : Value) (ta : Option Addr) (tk : Nat) (tT : List Int) (tI : Int) (n : Int) (htI : 0 ≤ tI ∧ tI ≤ (tT.length : Int)) (hn_0 : i64ok n) (hn0 : 0 ≤ n ∧ n ≤ 1000) (rr : GSystem × Int) (hrr : Tape_System tT tI n = rr) : FT Tryz.prog 18 #[tP, vi n] [Cl tP [vl ta tk tT, vi tI], S ta tk tT] (fun g : Value × Value × Value => i64ok rr.1.Width ∧ (0 ≤ rr.2 ∧ rr.2 ≤ (tT.length : Int)) ∧ (rr.1.Deps.length ≤ 1001)) (fun g => .agg #[vi rr.1.Width, g.1, g.2.1, g.2.2]) (fun g => [sl g.1 rr.1.Deps, sl g.2.1 rr.1.Transfers, sl g.2.2 rr.1.Boundary, Cl tP [vl ta tk tT, vi rr.2]]) := by
 refine FTi Tryz.func18 fun w0 M0 F0 => ?_
 unfold i64ok at hn_0
 refine Fb 8 1 fun hl1 => ?_
 refine Fo 1 fun ho2 => ?_
 refine KS ?_
 refine Oa (Al ze27 [vi 0, .slice none 0 0, .slice none 0 0, .slice none 0 0]) fun p3 => KS ?_
 refine Oq Vm ?_
 refine letv (Tape_Width tT tI) fun rv4 hg5 => ?_
 have hc6 := fn66 tP ta tk tT tI pre rv4 hg5
 refine Oc [1, 1] ca66 hc6 ?_
 rintro - ⟨he7, he8, he9⟩
 unfold i64ok at he7
 refine Oq Vrem (Oq (Vbd st27 [vi (rv4.1 % 5), .slice none 0 0, .slice none 0 0, .slice none 0 0]) (Oa (Al ze27 [vi 0, .slice none 0 0, .slice none 0 0, .slice none 0 0]) fun p10 => Ost (Scl [0] sh27 [vi (rv4.1 % 5), .slice none 0 0, .slice none 0 0, .slice none 0 0]) (KS ?_)))
 refine Oq Vm (Oq Vm ?_)
 refine letv (Tape_Next tT rv4.2 n) fun rv11 hg12 => ?_
 have hc13 := fn19 tP ta tk tT rv4.2 n pre pre rv11 hg12
 refine Oc [1, 2] ca19 hc13 ?_
 rintro - ⟨he14, he15, he16⟩
 unfold i64ok at he14
 refine Oq Vadd (Oq Va (KS ?_))
 refine Oq Va (KS ?_)
 refine Jl [] (Ent.osNil (α := (List Int))) ?_
 refine Jl [] (Ent.osNil (α := GTransfer)) ?_
 refine Jl [] (Ent.osNil (α := GSet)) ?_
 refine Kl (γ := Nat × Int × List (List Int) × List GTransfer × List GSet × Int × Option Addr × Nat × Option Addr × Nat × Option Addr × Nat) (fun (r17, ti_18, s1_19, s2_20, s3_21, i_22, a23, k24, a25, k26, a27, k28) => ⟨[(0, tP), (4, p3), (5, p10), (1, vi (1 + rv11.1)), (6, vi i_22)], [O a27 k28 s3_21, O a25 k26 s2_20, O a23 k24 s1_19, Cl tP [vl ta tk tT, vi ti_18], Cl p10 [vi (rv4.1 % 5), vl a23 k24 s1_19, vl a25 k26 s2_20, vl a27 k28 s3_21], Cl p3 [vi 0, .slice none 0 0, .slice none 0 0, .slice none 0 0], S ta tk tT], Tape_System_L0 tT (1 + rv11.1) (rv4.1 % 5) r17 ti_18 s1_19 s2_20 s3_21 i_22 = Tape_System_L0 tT (1 + rv11.1) (rv4.1 % 5) ((((1 + rv11.1) : Int) - 0).toNat) rv11.2 [] [] [] 0 ∧ r17 = (((1 + rv11.1) : Int) - i_22).toNat ∧ (0 : Int) ≤ i_22 ∧ i_22 ≤ (1 + rv11.1) ∧ (-9223372036854775808 ≤ ti_18 ∧ ti_18 ≤ 9223372036854775807) ∧ (0 ≤ ti_18 ∧ ti_18 ≤ (tT.length : Int)) ∧ (-9223372036854775808 ≤ i_22 ∧ i_22 ≤ 9223372036854775807) ∧ (s1_19.length : Int) = i_22 ∧ (s2_20.length : Int) = i_22 ∧ (s3_21.length : Int) = i_22, r17⟩) ((((1 + rv11.1) : Int) - 0).toNat, rv11.2, [], [], [], 0, none, 0, none, 0, none, 0) [0, 0, 0, 0, 0, 0, 0] ⟨rfl, rfl, (by omega), (by omega), (by omega), (by omega), (by omega), iv0, iv0, iv0⟩ ?_
 rintro ⟨r17, ti_18, s1_19, s2_20, s3_21, i_22, a23, k24, a25, k26, a27, k28⟩ ⟨hM29, hr30, hi31, hi32, hk33, ht34, hk35, hv36, hv37, hv38⟩
 refine JJ_nx fun _ _ hL hA => ?_; dsimp only at hL hA; subst hL hA
 refine Fb 32 0 fun hl39 => ?_
 refine Fb 88 1 fun hl40 => ?_
 refine Fb 24 2 fun hl41 => ?_
 refine Fb 8 6 fun hl42 => ?_
 refine Fo 6 fun ho43 => ?_
 refine KS ?_
 refine Oq Vm (Oq Vm (Oq Vlss (KS ?_)))
 refine Kc ?_ ?_
 · intro h44
   have g45 := of_decide_eq_true h44
   obtain ⟨r46, rfl⟩ := scc (n := r17) (by omega)
   refine KS ?_
   refine Oq Va (KS ?_)
   refine Oq Vm ?_
   refine letv (Tape_Next tT ti_18 4) fun rv47 hg48 => ?_
   have hc49 := fn19 tP ta tk tT ti_18 4 pre pre rv47 hg48
   refine Oc [3, 5] ca19 hc49 ?_
   rintro - ⟨he50, he51, he52⟩
   unfold i64ok at he50
   refine Oq Va (KS ?_)
   refine Jl [] (Ent.slNil (α := Int)) ?_
   refine Kl (γ := Nat × Int × List Int × Int × Option Addr × Nat) (fun (r53, ti_54, d_55, k_56, a57, k58) => ⟨[(0, tP), (4, p3), (5, p10), (1, vi (1 + rv11.1)), (6, vi i_22), (7, vl a57 k58 d_55), (8, vi k_56)], [S a57 k58 d_55, Cl tP [vl ta tk tT, vi ti_54], O a27 k28 s3_21, O a25 k26 s2_20, O a23 k24 s1_19, Cl p10 [vi (rv4.1 % 5), vl a23 k24 s1_19, vl a25 k26 s2_20, vl a27 k28 s3_21], Cl p3 [vi 0, .slice none 0 0, .slice none 0 0, .slice none 0 0], S ta tk tT], Tape_System_L1 tT (1 + rv11.1) r53 ti_54 d_55 k_56 = Tape_System_L1 tT (1 + rv11.1) (rv47.1.toNat) rv47.2 [] rv47.1 ∧ r53 = k_56.toNat ∧ k_56 ≤ (rv47.1 : Int) ∧ (-9223372036854775808 ≤ ti_54 ∧ ti_54 ≤ 9223372036854775807) ∧ (0 ≤ ti_54 ∧ ti_54 ≤ (tT.length : Int)) ∧ (-9223372036854775808 ≤ k_56 ∧ k_56 ≤ 9223372036854775807) ∧ (d_55.length : Int) + k_56 ≤ 4, r53⟩) (rv47.1.toNat, rv47.2, [], rv47.1, none, 0) [0, 1, 1, 1, 1, 1, 1, 1] ⟨rfl, rfl, (by omega), (by omega), (by omega), (by omega), iv0⟩ ?_
   rintro ⟨r53, ti_54, d_55, k_56, a57, k58⟩ ⟨hM59, hr60, hi61, hk62, ht63, hk64, hv65⟩
   refine JJ_nx fun _ _ hL hA => ?_; dsimp only at hL hA; subst hL hA
   refine Fb 8 0 fun hl66 => ?_
   refine Fo 0 fun ho67 => ?_
   refine Fb 32 2 fun hl68 => ?_
   refine Fb 88 3 fun hl69 => ?_
   refine Fb 24 4 fun hl70 => ?_
   refine Fb 8 7 fun hl71 => ?_
   refine Fo 7 fun ho72 => ?_
   refine KS ?_
   refine Oq Vm (Oq Vgtr (KS ?_))
   refine Kc ?_ ?_
   · intro h73
     have g74 := of_decide_eq_true h73
     obtain ⟨r75, rfl⟩ := scc (n := r53) (by omega)
     refine KS ?_
     refine Oq Vm (Oq Vm (Oq Vm ?_))
     refine letv (Tape_Next tT ti_54 (1 + rv11.1)) fun rv76 hg77 => ?_
     have hc78 := fn19 tP ta tk tT ti_54 ((1 + rv11.1)) pre pre rv76 hg77
     refine Oc [1, 6] ca19 hc78 ?_
     rintro - ⟨he79, he80, he81⟩
     unfold i64ok at he79
     refine letv (flqref7_Insert d_55 rv76.1) fun rv83 hg84 => ?_
     have hc85 := fn46 d_55 a57 k58 rv76.1 pre pre rv83 hg84
     refine Oc [1] ca46 hc85 ?_
     rintro c82 he86
     refine Jo 0 ?_; rintro a87 k88 rfl
     refine Fb 8 0 fun hl89 => ?_
     refine Fo 0 fun ho90 => ?_
     refine Oq Va (KS ?_)
     refine Oq Vm (Oq Vsub (Oq Va (KS ?_)))
     exact Kg (r75, rv76.2, rv83, (k_56 - 1), a87, k88) [0, 1, 2, 2, 2, 2, 2, 2] ⟨(q3 hM59 (by simp only [Tape_System_L1, h44, h73, hg5, hg12, hg48, hg77, hg84, cs4])), (by omega), (by omega), (by omega), (by omega), (by omega), iv1⟩
   intro h73
   have g91 := of_decide_eq_false h73
   obtain rfl : r53 = 0 := by omega
   refine Ke ?_
   have hR92 := q2 hM59 (ti_54, d_55) (by simp only [Tape_System_L1, h44, h73, hg5, hg12, hg48, cs4])
   refine KS ?_
   refine Oq (Vfa fo27_0 5) (Oq (VldF sh3 5) ?_)
   refine letv (flqref1_Empty (rv4.1 % 5)) fun rv94 hg95 => ?_
   have hc96 := fn67 ((rv4.1 % 5)) pre pre rv94 hg95
   refine Oc [] ca67 hc96 ?_
   rintro c93 ⟨he97, he98, he99⟩
   unfold i64ok at he97
   refine Jo 0 ?_; rintro a100 k101 rfl
   refine Fb 8 0 fun hl102 => ?_
   refine Oa (Al ze42 [vi 0, .slice none 0 0]) fun p103 => Ost (Scl [0] sh42 [vi rv94.Width, vl a100 k101 rv94.Words]) (KS ?_)
   refine Oq Vm ?_
   refine letv (Tape_Next tT ti_54 3) fun rv104 hg105 => ?_
   have hc106 := fn19 tP ta tk tT ti_54 3 pre pre rv104 hg105
   refine Oc [3, 8] ca19 hc106 ?_
   rintro - ⟨he107, he108, he109⟩
   unfold i64ok at he107
   refine Oq Veql (KS ?_)
   refine Kc ?_ ?_
   · intro h110
     have g111 := eq_of_beq h110
     refine KS ?_
     refine Oq Vm (Oq (Vfa fo27_0 7) (Oq (VldF sh3 7) ?_))
     refine letv (Tape_Set tT rv104.2 (rv4.1 % 5)) fun rv113 hg114 => ?_
     have hc115 := fn23 tP ta tk tT rv104.2 ((rv4.1 % 5)) pre pre pre rv113 hg114
     refine Oc [0, 8] ca23 hc115 ?_
     rintro c112 ⟨he116, he117, he118, he119⟩
     unfold i64ok at he116
     refine Jo 0 ?_; rintro a120 k121 rfl
     refine Fb 8 0 fun hl122 => ?_
     refine Ost (Scl [2] sh42 [vi rv113.1.Width, vl a120 k121 rv113.1.Words]) (KS ?_)
     refine Jp 8 fun hp123 => ?_
     refine JK_drawK [0, 1, 0, 4, 15, 0, 32, 0, 128, 511, 0, 1024, 0, 0, 8192, 29695, 62463, 131071, 27775, 524287, 1048575, 2097151, 4194303, 8388607] fmix ?_
     refine Dv [0] (Vfa fo27_1 0) (Dv [9] (VldF sh23 0) (Dv [] Vm (Dx [] [] [0] (fun G => (G.g 3 0)) [fun G => Cr (G.g 3 0) 1 [vl a57 k58 d_55]] (fun G => xA (AsV sl23 sz23 [vl a57 k58 d_55] [vl a57 k58 d_55])) ?_)))
     have hn126 := la s1_19 ([d_55] : List (List Int))
     refine Dx [5, 8, 12] [8, 12] [1, 0] (fun G => (G.g 4 0)) [fun G => os (G.g 4 0) ((s1_19 ++ [d_55]) : List (List Int))] (fun G => xp [2, 0] rfl (Ent.cr1 (α := List Int) (A := [S a57 k58 d_55]) _ d_55 _ (Nat.le_of_ble_eq_true rfl) (fun h => ⟨_, rfl, sepAll_get (i := 0) rfl h⟩)) (xA (ApO [3, 0] sl23 sl23 sz23))) (Dv [0] (Vfa fo27_3 0) (Dv [9] (VldF sh25 0) (Dv [1] (VldA sh42 0) (Dx [] [] [0] (fun G => (G.g 8 0)) [fun G => Cr (G.g 8 0) 1 [vi rv113.1.Width, vl a120 k121 rv113.1.Words]] (fun G => xA (AsV sl25 sz25 [.agg #[vi rv113.1.Width, vl a120 k121 rv113.1.Words]] [vi rv113.1.Width, vl a120 k121 rv113.1.Words])) ?_))))
     have hn129 := la s3_21 ([rv113.1] : List GSet)
     refine Dx [2, 6, 14] [2, 6, 14] [1, 0] (fun G => (G.g 9 0)) [fun G => S a120 k121 rv113.1.Words, fun G => os (G.g 9 0) ((s3_21 ++ [rv113.1]) : List GSet)] (fun G => xp [0] rfl (Ent.freeze _ _) (xp [2, 0] rfl (Ent.cr1 (α := GSet) (A := [S a120 k121 rv113.1.Words]) _ rv113.1 _ (Nat.le_of_ble_eq_true rfl) (fun h => ⟨_, rfl, (by unfold i64ok; first | omega | (dsimp only; omega)), sepAll_get (i := 0) rfl h⟩)) (xA (ApO [3, 0] sl25 sl25 sz25)))) (Dv [0] (Vfa fo27_2 0) (Dv [9] (VldF sh24 0) (Dv [] Vm (Dv [0] (Vfa fo27_0 0) (Dv [9] (VldF sh3 0) ?_)))))
     refine letv (Tape_Transfer tT rv113.2 (rv4.1 % 5)) fun rv133 hg134 => ?_
     refine Dx [3, 11] [3] [5, 0, 1, 2, 3, 4] (fun G => .agg #[vi rv133.1.Gen.Width, (G.g 15 0), vi rv133.1.Kill.Width, (G.g 15 1), (G.g 15 2)]) [fun G => SP.fact (i64ok rv133.1.Gen.Width ∧ i64ok rv133.1.Kill.Width ∧ (0 ≤ rv133.2 ∧ rv133.2 ≤ (tT.length : Int)) ∧ (rv133.1.Gen.Width = (rv4.1 % 5)) ∧ (rv133.1.Kill.Width = (rv4.1 % 5)) ∧ (rv133.1.Copies.length ≤ 12)), fun G => sl (G.g 15 0) rv133.1.Gen.Words, fun G => sl (G.g 15 1) rv133.1.Kill.Words, fun G => sl (G.g 15 2) rv133.1.Copies, fun G => Cl tP [vl ta tk tT, vi rv133.2]] (fun G => xC [0, 0] ca68 (fn68 tP ta tk tT rv113.2 ((rv4.1 % 5)) pre pre pre rv133 hg134)) (Dx [] [] [0] (fun G => (G.g 16 0)) [fun G => Cr (G.g 16 0) 1 [vi rv133.1.Gen.Width, (G.g 15 0), vi rv133.1.Kill.Width, (G.g 15 1), (G.g 15 2)]] (fun G => xA (AsV sl24 sz24 [.agg #[vi rv133.1.Gen.Width, (G.g 15 0), vi rv133.1.Kill.Width, (G.g 15 1), (G.g 15 2)]] [vi rv133.1.Gen.Width, (G.g 15 0), vi rv133.1.Kill.Width, (G.g 15 1), (G.g 15 2)])) ?_)
     have hn137 := la s2_20 ([rv133.1] : List GTransfer)
     refine Dx [7, 17, 18, 19, 20, 22] [7, 22] [4, 1, 2, 3, 0] (fun G => (G.g 17 0)) [fun G => os (G.g 17 0) ((s2_20 ++ [rv133.1]) : List GTransfer)] (fun G => by refine xf 1 rfl ?_; rintro ⟨he138, he139, he140, he141, he142, he143⟩; unfold i64ok at he138 he139; exact xp [5, 2, 3, 4] rfl (Ent.cr1 (α := GTransfer) (A := [sl (G.g 15 0) rv133.1.Gen.Words, sl (G.g 15 1) rv133.1.Kill.Words, sl (G.g 15 2) rv133.1.Copies]) _ rv133.1 _ (Nat.le_of_ble_eq_true rfl) (fun h => ⟨_, _, _, rfl, (by unfold i64ok; first | omega | (dsimp only; omega)), sepAll_get (i := 0) rfl h, (by unfold i64ok; first | omega | (dsimp only; omega)), sepAll_get (i := 1) rfl h, sepAll_get (i := 2) rfl h⟩)) (xA (ApO [4, 0] sl24 sl24 sz24))) (Dv [0] (Vfa fo27_1 0) (Dx0 [9, 13] [9] [1, 0] [fun G => Cl p10 [vi (rv4.1 % 5), (G.g 4 0), vl a25 k26 s2_20, vl a27 k28 s3_21]] (fun G => x1 1 rfl os_one fun ho144 => (xS (OpS.frame [0] rfl (OpS.storeClF [(G.g 4 0)] [vi (rv4.1 % 5), (G.g 4 0), vl a25 k26 s2_20, vl a27 k28 s3_21] rfl rfl rfl sh23 (cells_of_one ho144) rfl (by simp only [List.all_cons, List.all_nil, ho144, Bool.and_true, Bool.true_and] <;> rfl) (Nat.le_of_ble_eq_true rfl) rfl)))) (Dv [0] (Vfa fo27_3 0) (Dx0 [16, 24] [24] [1, 0] [fun G => Cl p10 [vi (rv4.1 % 5), (G.g 4 0), vl a25 k26 s2_20, (G.g 9 0)]] (fun G => x1 0 rfl os_one fun ho145 => (xS (OpS.frame [1] rfl (OpS.storeClF [(G.g 9 0)] [vi (rv4.1 % 5), (G.g 4 0), vl a25 k26 s2_20, (G.g 9 0)] rfl rfl rfl sh25 (cells_of_one ho145) rfl (by simp only [List.all_cons, List.all_nil, ho145, Bool.and_true, Bool.true_and] <;> rfl) (Nat.le_of_ble_eq_true rfl) rfl)))) (Dv [0] (Vfa fo27_2 0) (Dx0 [23, 25] [25] [1, 0] [fun G => Cl p10 [vi (rv4.1 % 5), (G.g 4 0), (G.g 17 0), (G.g 9 0)]] (fun G => x1 0 rfl os_one fun ho146 => (xS (OpS.frame [1] rfl (OpS.storeClF [(G.g 17 0)] [vi (rv4.1 % 5), (G.g 4 0), (G.g 17 0), (G.g 9 0)] rfl rfl rfl sh24 (cells_of_one ho146) rfl (by simp only [List.all_cons, List.all_nil, ho146, Bool.and_true, Bool.true_and] <;> rfl) (Nat.le_of_ble_eq_true rfl) rfl)))) ?_))))))
     refine Dn ⟨by kernel_rfl, fun G => ?_⟩
     refine Jw2 [(0, tP), (4, p3), (5, p10), (1, vi (1 + rv11.1)), (6, vi i_22)] [0, 1, 4, 5, 10, 11] [os (G.g 4 0) ((s1_19 ++ [d_55]) : List (List Int)), S a120 k121 rv113.1.Words, os (G.g 9 0) ((s3_21 ++ [rv113.1]) : List GSet), SP.fact (i64ok rv133.1.Gen.Width ∧ i64ok rv133.1.Kill.Width ∧ (0 ≤ rv133.2 ∧ rv133.2 ≤ (tT.length : Int)) ∧ (rv133.1.Gen.Width = (rv4.1 % 5)) ∧ (rv133.1.Kill.Width = (rv4.1 % 5)) ∧ (rv133.1.Copies.length ≤ 12)), sl (G.g 15 0) rv133.1.Gen.Words, sl (G.g 15 1) rv133.1.Kill.Words, sl (G.g 15 2) rv133.1.Copies, Cl tP [vl ta tk tT, vi rv133.2], os (G.g 17 0) ((s2_20 ++ [rv133.1]) : List GTransfer), Cl p10 [vi (rv4.1 % 5), (G.g 4 0), (G.g 17 0), (G.g 9 0)]] ?_
     generalize G.g 4 0 = c125, G.g 9 0 = c128, G.g 15 0 = c130, G.g 15 1 = c131, G.g 15 2 = c132, G.g 17 0 = c136
     refine Jf 9 rfl ?_; rintro ⟨he147, he148, he149, he150, he151, he152⟩
     unfold i64ok at he147 he148
     refine Jk [1, 1, 1, 2, 2, 3, 3, 4, 5, 6, 7, 8, 8, 8] ?_
     refine Jo 5 ?_; rintro a153 k154 rfl
     refine Fb 24 5 fun hl155 => ?_
     refine Jo 7 ?_; rintro a156 k157 rfl
     refine Fb 32 7 fun hl158 => ?_
     refine Jo 8 ?_; rintro a159 k160 rfl
     refine Fb 8 8 fun hl161 => ?_
     refine Jo 9 ?_; rintro a162 k163 rfl
     refine Fb 8 9 fun hl164 => ?_
     refine Jo 10 ?_; rintro a165 k166 rfl
     refine Fb 16 10 fun hl167 => ?_
     refine Jo 12 ?_; rintro a168 k169 rfl
     refine Fb 88 12 fun hl170 => ?_
     refine KS ?_
     refine Oq Vm (Oq Vadd (Oq Va (KS ?_)))
     exact Kg (r46, rv133.2, (s1_19 ++ [d_55]), (s2_20 ++ [rv133.1]), (s3_21 ++ [rv113.1]), (i_22 + 1), a153, k154, a168, k169, a156, k157) [7, 11, 5, 9, 9, 3, 3] ⟨(q3 hM29 (by simp only [Tape_System_L0, h44, h73, h110, hg5, hg12, hg48, hR92, hg95, hg105, hg114, hg134, cs4])), (by omega), (by omega), (by omega), (by omega), (by omega), (by omega), iv1, iv1, iv1⟩
   intro h110
   have g171 := ne_of_beq_false h110
   refine KS ?_
   refine Jp 7 fun hp172 => ?_
   refine JK_drawK [0, 1, 0, 4, 15, 0, 32, 0, 128, 511, 0, 1024, 0, 0, 8192, 29695, 62463, 131071, 27775, 524287, 1048575, 2097151, 4194303, 8388607] fmix ?_
   refine Dv [0] (Vfa fo27_1 0) (Dv [8] (VldF sh23 0) (Dv [] Vm (Dx [] [] [0] (fun G => (G.g 3 0)) [fun G => Cr (G.g 3 0) 1 [vl a57 k58 d_55]] (fun G => xA (AsV sl23 sz23 [vl a57 k58 d_55] [vl a57 k58 d_55])) ?_)))
   have hn175 := la s1_19 ([d_55] : List (List Int))
   refine Dx [4, 7, 11] [7, 11] [1, 0] (fun G => (G.g 4 0)) [fun G => os (G.g 4 0) ((s1_19 ++ [d_55]) : List (List Int))] (fun G => xp [2, 0] rfl (Ent.cr1 (α := List Int) (A := [S a57 k58 d_55]) _ d_55 _ (Nat.le_of_ble_eq_true rfl) (fun h => ⟨_, rfl, sepAll_get (i := 0) rfl h⟩)) (xA (ApO [3, 0] sl23 sl23 sz23))) (Dv [0] (Vfa fo27_3 0) (Dv [8] (VldF sh25 0) (Dv [2] (VldA sh42 0) (Dx [] [] [0] (fun G => (G.g 8 0)) [fun G => Cr (G.g 8 0) 1 [vi rv94.Width, vl a100 k101 rv94.Words]] (fun G => xA (AsV sl25 sz25 [.agg #[vi rv94.Width, vl a100 k101 rv94.Words]] [vi rv94.Width, vl a100 k101 rv94.Words])) ?_))))
   have hn178 := la s3_21 ([rv94] : List GSet)
   refine Dx [3, 5, 13] [3, 5, 13] [1, 0] (fun G => (G.g 9 0)) [fun G => S a100 k101 rv94.Words, fun G => os (G.g 9 0) ((s3_21 ++ [rv94]) : List GSet)] (fun G => xp [0] rfl (Ent.freeze _ _) (xp [2, 0] rfl (Ent.cr1 (α := GSet) (A := [S a100 k101 rv94.Words]) _ rv94 _ (Nat.le_of_ble_eq_true rfl) (fun h => ⟨_, rfl, (by unfold i64ok; first | omega | (dsimp only; omega)), sepAll_get (i := 0) rfl h⟩)) (xA (ApO [3, 0] sl25 sl25 sz25)))) (Dv [0] (Vfa fo27_2 0) (Dv [8] (VldF sh24 0) (Dv [] Vm (Dv [0] (Vfa fo27_0 0) (Dv [8] (VldF sh3 0) ?_)))))
   refine letv (Tape_Transfer tT rv104.2 (rv4.1 % 5)) fun rv182 hg183 => ?_
   refine Dx [1, 10] [1] [5, 0, 1, 2, 3, 4] (fun G => .agg #[vi rv182.1.Gen.Width, (G.g 15 0), vi rv182.1.Kill.Width, (G.g 15 1), (G.g 15 2)]) [fun G => SP.fact (i64ok rv182.1.Gen.Width ∧ i64ok rv182.1.Kill.Width ∧ (0 ≤ rv182.2 ∧ rv182.2 ≤ (tT.length : Int)) ∧ (rv182.1.Gen.Width = (rv4.1 % 5)) ∧ (rv182.1.Kill.Width = (rv4.1 % 5)) ∧ (rv182.1.Copies.length ≤ 12)), fun G => sl (G.g 15 0) rv182.1.Gen.Words, fun G => sl (G.g 15 1) rv182.1.Kill.Words, fun G => sl (G.g 15 2) rv182.1.Copies, fun G => Cl tP [vl ta tk tT, vi rv182.2]] (fun G => xC [0, 0] ca68 (fn68 tP ta tk tT rv104.2 ((rv4.1 % 5)) pre pre pre rv182 hg183)) (Dx [] [] [0] (fun G => (G.g 16 0)) [fun G => Cr (G.g 16 0) 1 [vi rv182.1.Gen.Width, (G.g 15 0), vi rv182.1.Kill.Width, (G.g 15 1), (G.g 15 2)]] (fun G => xA (AsV sl24 sz24 [.agg #[vi rv182.1.Gen.Width, (G.g 15 0), vi rv182.1.Kill.Width, (G.g 15 1), (G.g 15 2)]] [vi rv182.1.Gen.Width, (G.g 15 0), vi rv182.1.Kill.Width, (G.g 15 1), (G.g 15 2)])) ?_)
   have hn186 := la s2_20 ([rv182.1] : List GTransfer)
   refine Dx [6, 16, 17, 18, 19, 21] [6, 21] [4, 1, 2, 3, 0] (fun G => (G.g 17 0)) [fun G => os (G.g 17 0) ((s2_20 ++ [rv182.1]) : List GTransfer)] (fun G => by refine xf 1 rfl ?_; rintro ⟨he187, he188, he189, he190, he191, he192⟩; unfold i64ok at he187 he188; exact xp [5, 2, 3, 4] rfl (Ent.cr1 (α := GTransfer) (A := [sl (G.g 15 0) rv182.1.Gen.Words, sl (G.g 15 1) rv182.1.Kill.Words, sl (G.g 15 2) rv182.1.Copies]) _ rv182.1 _ (Nat.le_of_ble_eq_true rfl) (fun h => ⟨_, _, _, rfl, (by unfold i64ok; first | omega | (dsimp only; omega)), sepAll_get (i := 0) rfl h, (by unfold i64ok; first | omega | (dsimp only; omega)), sepAll_get (i := 1) rfl h, sepAll_get (i := 2) rfl h⟩)) (xA (ApO [4, 0] sl24 sl24 sz24))) (Dv [0] (Vfa fo27_1 0) (Dx0 [8, 12] [8] [1, 0] [fun G => Cl p10 [vi (rv4.1 % 5), (G.g 4 0), vl a25 k26 s2_20, vl a27 k28 s3_21]] (fun G => x1 1 rfl os_one fun ho193 => (xS (OpS.frame [0] rfl (OpS.storeClF [(G.g 4 0)] [vi (rv4.1 % 5), (G.g 4 0), vl a25 k26 s2_20, vl a27 k28 s3_21] rfl rfl rfl sh23 (cells_of_one ho193) rfl (by simp only [List.all_cons, List.all_nil, ho193, Bool.and_true, Bool.true_and] <;> rfl) (Nat.le_of_ble_eq_true rfl) rfl)))) (Dv [0] (Vfa fo27_3 0) (Dx0 [15, 23] [23] [1, 0] [fun G => Cl p10 [vi (rv4.1 % 5), (G.g 4 0), vl a25 k26 s2_20, (G.g 9 0)]] (fun G => x1 0 rfl os_one fun ho194 => (xS (OpS.frame [1] rfl (OpS.storeClF [(G.g 9 0)] [vi (rv4.1 % 5), (G.g 4 0), vl a25 k26 s2_20, (G.g 9 0)] rfl rfl rfl sh25 (cells_of_one ho194) rfl (by simp only [List.all_cons, List.all_nil, ho194, Bool.and_true, Bool.true_and] <;> rfl) (Nat.le_of_ble_eq_true rfl) rfl)))) (Dv [0] (Vfa fo27_2 0) (Dx0 [22, 24] [24] [1, 0] [fun G => Cl p10 [vi (rv4.1 % 5), (G.g 4 0), (G.g 17 0), (G.g 9 0)]] (fun G => x1 0 rfl os_one fun ho195 => (xS (OpS.frame [1] rfl (OpS.storeClF [(G.g 17 0)] [vi (rv4.1 % 5), (G.g 4 0), (G.g 17 0), (G.g 9 0)] rfl rfl rfl sh24 (cells_of_one ho195) rfl (by simp only [List.all_cons, List.all_nil, ho195, Bool.and_true, Bool.true_and] <;> rfl) (Nat.le_of_ble_eq_true rfl) rfl)))) ?_))))))
   refine Dn ⟨by kernel_rfl, fun G => ?_⟩
   refine Jw2 [(0, tP), (4, p3), (5, p10), (1, vi (1 + rv11.1)), (6, vi i_22)] [0, 2, 4, 9, 10] [os (G.g 4 0) ((s1_19 ++ [d_55]) : List (List Int)), S a100 k101 rv94.Words, os (G.g 9 0) ((s3_21 ++ [rv94]) : List GSet), SP.fact (i64ok rv182.1.Gen.Width ∧ i64ok rv182.1.Kill.Width ∧ (0 ≤ rv182.2 ∧ rv182.2 ≤ (tT.length : Int)) ∧ (rv182.1.Gen.Width = (rv4.1 % 5)) ∧ (rv182.1.Kill.Width = (rv4.1 % 5)) ∧ (rv182.1.Copies.length ≤ 12)), sl (G.g 15 0) rv182.1.Gen.Words, sl (G.g 15 1) rv182.1.Kill.Words, sl (G.g 15 2) rv182.1.Copies, Cl tP [vl ta tk tT, vi rv182.2], os (G.g 17 0) ((s2_20 ++ [rv182.1]) : List GTransfer), Cl p10 [vi (rv4.1 % 5), (G.g 4 0), (G.g 17 0), (G.g 9 0)]] ?_
   generalize G.g 4 0 = c174, G.g 9 0 = c177, G.g 15 0 = c179, G.g 15 1 = c180, G.g 15 2 = c181, G.g 17 0 = c185
   refine Jf 8 rfl ?_; rintro ⟨he196, he197, he198, he199, he200, he201⟩
   unfold i64ok at he196 he197
   refine Jk [1, 1, 2, 2, 3, 3, 4, 5, 6, 7, 8, 8, 8] ?_
   refine Jo 4 ?_; rintro a202 k203 rfl
   refine Fb 24 4 fun hl204 => ?_
   refine Jo 6 ?_; rintro a205 k206 rfl
   refine Fb 32 6 fun hl207 => ?_
   refine Jo 7 ?_; rintro a208 k209 rfl
   refine Fb 8 7 fun hl210 => ?_
   refine Jo 8 ?_; rintro a211 k212 rfl
   refine Fb 8 8 fun hl213 => ?_
   refine Jo 9 ?_; rintro a214 k215 rfl
   refine Fb 16 9 fun hl216 => ?_
   refine Jo 11 ?_; rintro a217 k218 rfl
   refine Fb 88 11 fun hl219 => ?_
   refine KS ?_
   refine Oq Vm (Oq Vadd (Oq Va (KS ?_)))
   exact Kg (r46, rv182.2, (s1_19 ++ [d_55]), (s2_20 ++ [rv182.1]), (s3_21 ++ [rv94]), (i_22 + 1), a202, k203, a217, k218, a205, k206) [6, 10, 4, 8, 8, 2, 2] ⟨(q3 hM29 (by simp only [Tape_System_L0, h44, h73, h110, hg5, hg12, hg48, hR92, hg95, hg105, hg183, cs4])), (by omega), (by omega), (by omega), (by omega), (by omega), (by omega), iv1, iv1, iv1⟩
 intro h44
 have g220 := of_decide_eq_false h44
 obtain rfl : r17 = 0 := by omega
 refine Ke ?_
 have hR221 := q2 hM29 (ti_18, s1_19, s2_20, s3_21) (by simp only [Tape_System_L0, h44, hg5, hg12, cs4])
 refine KS ?_
 refine Oq (VldA sh27 4) (Ost (Scl [5] sh27 [vi (rv4.1 % 5), vl a23 k24 s1_19, vl a25 k26 s2_20, vl a27 k28 s3_21]) (KS ?_))
 refine Jl [3] (Ent.freeze _ _) ?_
 refine Jl [3] (Ent.freeze _ _) ?_
 refine Jl [3] (Ent.freeze _ _) ?_
 have hq := q4 hrr ((GSystem.mk (rv4.1 % 5) s1_19 s2_20 s3_21), ti_18) (by simp only [Tape_System, h44, hg5, hg12, hR221, cs4]); subst hq
 exact Kr (vl a23 k24 s1_19, vl a25 k26 s2_20, vl a27 k28 s3_21) rfl (.cellN 3 rfl sh27 rfl (reads_Cl _ _) rfl .nil) [2, 1, 0, 4] en
theorem fn91 (s : GSet) (sa1 : Option Addr) (sk1 : Nat) (hs_0 : i64ok s.Width) (rr : Bool) (hrr : flqref1_Valid s = rr) : FT Tryz.prog 91 #[.agg #[vi s.Width, vl sa1 sk1 s.Words]] [S sa1 sk1 s.Words] (fun g : Unit => True) (fun g => vb rr) (fun g => []) := by
 refine FTi Tryz.func91 fun w0 M0 F0 => ?_
 unfold i64ok at hs_0
 refine Fb 8 0 fun hl1 => ?_
 refine KS ?_
 refine Oa (Ab [vi s.Width, vl sa1 sk1 s.Words]) fun p2 => Oq Va (KS ?_)
 refine Oq (Vfa fo42_0 0) (Oq (VldF sh3 0) (Oq Vlss (Oq Vm ?_)))
 refine Js 7 ?_ ?_
 · intro h3
   have g4 := of_decide_eq_true h3
   refine Osk (Osk (Osk (Oq Vpt (Oq Vm (Osk (Osk (Osk (Osk (Osk ?_)))))))))
   refine Osk (Osk (Osk (Oq Vpt (KS ?_))))
   refine Kt ?_
   refine KS ?_
   refine Oq Va (KS ?_)
   have hq := q4 hrr false (by simp only [flqref1_Valid, h3, cs4]); subst hq
   exact Kr () rfl (.tmp rfl .nil) [] trivial
 intro h3
 have g5 := of_decide_eq_false h3
 refine Oq (Vfa fo42_0 0) (Oq (VldF sh3 0) (Oq Vgtr (Oq Vpf (Oq Vm ?_))))
 refine Js 12 ?_ ?_
 · intro h6
   have g7 := of_decide_eq_true h6
   refine Osk (Osk (Osk (Osk (Osk (Osk (Osk (Osk (Oq Vpt (KS ?_)))))))))
   refine Kt ?_
   refine KS ?_
   refine Oq Va (KS ?_)
   have hq := q4 hrr false (by simp only [flqref1_Valid, h3, h6, cs4]); subst hq
   exact Kr () rfl (.tmp rfl .nil) [] trivial
 intro h6
 have g8 := of_decide_eq_false h6
 refine Oq (Vfa fo42_1 0) (Oq (VldF sh40 0) (Oq (Vlen sl40) (Oq (Vfa fo42_0 0) (Oq (VldF sh3 0) (Oq Vadd (Oq Vquo (Oq Vneq (Oq Vpf (KS ?_)))))))))
 refine Kc ?_ ?_
 · intro h9
   have g10 := ne_of_bne h9
   refine KS ?_
   refine Oq Va (KS ?_)
   have hq := q4 hrr false (by simp only [flqref1_Valid, h3, h6, h9, cs4]); subst hq
   exact Kr () rfl (.tmp rfl .nil) [] trivial
 intro h9
 have g11 := eq_of_bne_false h9
 refine KS ?_
 refine Oq (Vfa fo42_0 0) (Oq (VldF sh3 0) (Oq Va (KS ?_)))
 refine Kl (γ := Nat × Int) (fun (r12, b_13) => ⟨[(1, p2), (3, vi b_13)], [pv p2 [vi s.Width, vl sa1 sk1 s.Words], S sa1 sk1 s.Words], flqref1_Valid_L0 s r12 b_13 = flqref1_Valid_L0 s ((((64 * (s.Words.length : Int)) : Int) - s.Width).toNat) s.Width ∧ r12 = (((64 * (s.Words.length : Int)) : Int) - b_13).toNat ∧ (s.Width : Int) ≤ b_13 ∧ (b_13 ≤ (64 * (s.Words.length : Int)) ∨ b_13 = s.Width) ∧ (-9223372036854775808 ≤ b_13 ∧ b_13 ≤ 9223372036854775807), r12⟩) ((((64 * (s.Words.length : Int)) : Int) - s.Width).toNat, s.Width) [0, 1] ⟨rfl, rfl, (by omega), (.inr rfl), (by omega)⟩ ?_
 rintro ⟨r12, b_13⟩ ⟨hM14, hr15, hi16, hi17, hk18⟩
 refine JJ_nx fun _ _ hL hA => ?_; dsimp only at hL hA; subst hL hA
 refine Fb 8 1 fun hl19 => ?_
 refine KS ?_
 refine Oq Vm (Oq (Vfa fo42_1 0) (Oq (VldF sh40 0) (Oq (Vlen sl40) (Oq Vmul (Oq Vlss (KS ?_))))))
 refine Kc ?_ ?_
 · intro h20
   have g21 := of_decide_eq_true h20
   obtain ⟨r22, rfl⟩ := scc (n := r12) (by omega)
   refine KS ?_
   refine Oq (Vfa fo42_1 0) (Oq (VldF sh40 0) (Oq Vm (Oq Vquo (Oq (Vi sl40 1) (Oq (VldU sh122 1) (Oq Vm (Oq Vrem (Oq (VcU un3 un123) (Oq VshrU ?_)))))))))
   refine Oq (VandU (b := 1#64)) (Oq (VeqlU (b := 1#64)) (KS ?_))
   refine Kc ?_ ?_
   · intro h23
     have g24 := eq_of_beq h23
     refine KS ?_
     refine Oq Va (KS ?_)
     have hR25 := q2 hM14 (.ret false) (by simp only [flqref1_Valid_L0, h3, h6, h9, h20, h23, cs4])
     have hq := q4 hrr false (by simp only [flqref1_Valid, h3, h6, h9, h20, h23, hR25, cs4]); subst hq
     exact Kr () rfl (.tmp rfl .nil) [] trivial
   intro h23
   have g26 := ne_of_beq_false h23
   refine KS ?_
   refine Oq Vm (Oq Vadd (Oq Va (KS ?_)))
   exact Kg (r22, (b_13 + 1)) [0, 1] ⟨(q3 hM14 (by simp only [flqref1_Valid_L0, h3, h6, h9, h20, h23, cs4])), (by omega), (by omega), (by omega), (by omega)⟩
 intro h20
 have g27 := of_decide_eq_false h20
 obtain rfl : r12 = 0 := by omega
 refine Ke ?_
 have hR28 := q2 hM14 (.brk ()) (by simp only [flqref1_Valid_L0, h3, h6, h9, h20, cs4])
 refine KS ?_
 refine Oq Va (KS ?_)
 have hq := q4 hrr true (by simp only [flqref1_Valid, h3, h6, h9, h20, hR28, cs4]); subst hq
 exact Kr () rfl (.tmp rfl .nil) [] trivial
theorem fn150 (l : List Int) (la0 : Option Addr) (lk0 : Nat) (n : Int) (hn_0 : i64ok n) (rr : Bool) (hrr : flqref7_Rising l n = rr) : FT Tryz.prog 150 #[vl la0 lk0 l, vi n] [S la0 lk0 l] (fun g : Unit => True) (fun g => vb rr) (fun g => []) := by
 refine FTi Tryz.func150 fun w0 M0 F0 => ?_
 unfold i64ok at hn_0
 refine Fb 8 0 fun hl1 => ?_
 refine Fo 0 fun ho2 => ?_
 refine KS ?_
 refine Oq Va (KS ?_)
 refine Oq Va (KS ?_)
 refine Kl (γ := Nat × Int) (fun (r3, i_4) => ⟨[(0, vl la0 lk0 l), (1, vi n), (5, vi i_4)], [S la0 lk0 l], flqref7_Rising_L0 l n r3 i_4 = flqref7_Rising_L0 l n (((l.length : Int) - 0).toNat) 0 ∧ r3 = ((l.length : Int) - i_4).toNat ∧ (0 : Int) ≤ i_4 ∧ i_4 ≤ (l.length : Int) ∧ (-9223372036854775808 ≤ i_4 ∧ i_4 ≤ 9223372036854775807), r3⟩) (((l.length : Int) - 0).toNat, 0) [0] ⟨rfl, rfl, (by omega), (by omega), (by omega)⟩ ?_
 rintro ⟨r3, i_4⟩ ⟨hM5, hr6, hi7, hi8, hk9⟩
 refine JJ_nx fun _ _ hL hA => ?_; dsimp only at hL hA; subst hL hA
 refine Fb 8 0 fun hl10 => ?_
 refine Fo 0 fun ho11 => ?_
 refine KS ?_
 refine Oq Vm (Oq Vm (Oq (Vlen sl22) (Oq Vlss (KS ?_))))
 refine Kc ?_ ?_
 · intro h12
   have g13 := of_decide_eq_true h12
   obtain ⟨r14, rfl⟩ := scc (n := r3) (by omega)
   refine KS ?_
   refine Kq [0, 0, 3, 7, 15, 31, 63, 63, 255, 511, 63, 2047, 4095, 8191, 16383, 32767, 65535, 131071, 131071, 393215, 1048575, 2097151, 131071, 131071, 12713983, 29491199, 67108863, 134217727, 268435455] fmix ?_
   refine Qv [] Vm (Qv [] Vm (Qv [0] (Vi sl22 0) ?_))
   have hb15 := ok1 (i := i_4.toNat) ho11 rng
   refine Qv [0] (VldI sh3 0) (Qv [] Vlss ?_)
   refine bool_split (decide ((l.getD i_4.toNat 0) < 0)) ?_ ?_
   · intro h16
     have g17 := of_decide_eq_true h16
     refine Qb h16 [] Vm (Qs (Qs (Qs (Qs (Qs (Qs (Qv [] Vpt (Qv [] Vm (Qs ?_)))))))))
     refine Qs (Qs (Qs (Qs (Qs (Qs (Qs (Qs (Qs (Qs ?_)))))))))
     refine Qs (Qs (Qs (Qv [] Vpt ?_)))
     refine Qn ⟨by kernel_rfl, ?_⟩
     refine Kt ?_
     refine KS ?_
     refine Oq Va (KS ?_)
     have hR18 := q2 hM5 (.ret false) (by simp only [flqref7_Rising_L0, h12, h16, cs4])
     have hq := q4 hrr false (by simp only [flqref7_Rising, h12, h16, hR18, cs4]); subst hq
     exact Kr () rfl (.tmp rfl .nil) [] trivial
   intro h16
   have g19 := of_decide_eq_false h16
   refine Qb h16 [] Vm (Qv [] Vm (Qv [] Vm (Qv [0] (Vi sl22 0) ?_)))
   have hb20 := ok1 (i := i_4.toNat) ho11 rng
   refine Qv [0] (VldI sh3 0) (Qv [] Vm (Qv [] Vgeq (Qv [] Vpf ?_)))
   refine bool_split (decide (n ≤ (l.getD i_4.toNat 0))) ?_ ?_
   · intro h21
     have g22 := of_decide_eq_true h21
     refine Qb h21 [] Vm (Qs (Qs (Qs (Qs (Qs (Qs (Qs (Qs (Qs ?_)))))))))
     refine Qs (Qs (Qs (Qs (Qs (Qv [] Vpt ?_)))))
     refine Qn ⟨by kernel_rfl, ?_⟩
     refine Kt ?_
     refine KS ?_
     refine Oq Va (KS ?_)
     have hR23 := q2 hM5 (.ret false) (by simp only [flqref7_Rising_L0, h12, h16, h21, cs4])
     have hq := q4 hrr false (by simp only [flqref7_Rising, h12, h16, h21, hR23, cs4]); subst hq
     exact Kr () rfl (.tmp rfl .nil) [] trivial
   intro h21
   have g24 := of_decide_eq_false h21
   refine Qb h21 [] Vm (Qv [] Vm (Qv [] Vgtr ?_))
   refine bool_split (decide (0 < i_4)) ?_ ?_
   · intro h25
     have g26 := of_decide_eq_true h25
     refine Qb h25 [] Vm (Qv [] Vm (Qv [] Vm (Qv [] Vsub (Qv [0] (Vi sl22 0) ?_))))
     have hb27 := ok1 (i := ((i_4 - 1) : Int).toNat) ho11 rng
     refine Qv [0] (VldI sh3 0) (Qv [] Vm (Qv [] Vm (Qv [0] (Vi sl22 0) ?_)))
     have hb28 := ok1 (i := i_4.toNat) ho11 rng
     refine Qv [0] (VldI sh3 0) (Qv [] Vgeq (Qv [] Vpt (Qv [] Vpf ?_)))
     refine Qn ⟨by kernel_rfl, ?_⟩
     refine Kc ?_ ?_
     · intro h29
       have g30 := of_decide_eq_true h29
       refine KS ?_
       refine Oq Va (KS ?_)
       have hR31 := q2 hM5 (.ret false) (by simp only [flqref7_Rising_L0, h12, h16, h21, h25, h29, cs4])
       have hq := q4 hrr false (by simp only [flqref7_Rising, h12, h16, h21, h25, h29, hR31, cs4]); subst hq
       exact Kr () rfl (.tmp rfl .nil) [] trivial
     intro h29
     have g32 := of_decide_eq_false h29
     refine KS ?_
     refine Oq Vm (Oq Vadd (Oq Va (KS ?_)))
     exact Kg (r14, (i_4 + 1)) [0] ⟨(q3 hM5 (by simp only [flqref7_Rising_L0, h12, h16, h21, h25, h29, cs4])), (by omega), (by omega), (by omega), (by omega)⟩
   intro h25
   have g33 := of_decide_eq_false h25
   refine Qb h25 [] Vm (Qs (Qs (Qs (Qs (Qs (Qs (Qs (Qs (Qs ?_)))))))))
   refine Qs (Qv [] Vpf (Qv [] Vpf ?_))
   refine Qn ⟨by kernel_rfl, ?_⟩
   refine Kf ?_
   refine KS ?_
   refine Oq Vm (Oq Vadd (Oq Va (KS ?_)))
   exact Kg (r14, (i_4 + 1)) [0] ⟨(q3 hM5 (by simp only [flqref7_Rising_L0, h12, h16, h21, h25, cs4])), (by omega), (by omega), (by omega), (by omega)⟩
 intro h12
 have g34 := of_decide_eq_false h12
 obtain rfl : r3 = 0 := by omega
 refine Ke ?_
 have hR35 := q2 hM5 (.brk ()) (by simp only [flqref7_Rising_L0, h12, cs4])
 refine KS ?_
 refine Oq Va (KS ?_)
 have hq := q4 hrr true (by simp only [flqref7_Rising, h12, hR35, cs4]); subst hq
 exact Kr () rfl (.tmp rfl .nil) [] trivial
theorem fn210 (a : GCopy) (b : GCopy) (ha_0 : i64ok a.From) (ha_1 : i64ok a.To) (hb_0 : i64ok b.From) (hb_1 : i64ok b.To) (rr : Bool) (hrr : flqref1_Before a b = rr) : FT Tryz.prog 210 #[.agg #[vi a.From, vi a.To], .agg #[vi b.From, vi b.To]] [] (fun g : Unit => True) (fun g => vb rr) (fun g => []) := by
 refine FTi Tryz.func210 fun w0 M0 F0 => ?_
 unfold i64ok at ha_0 ha_1 hb_0 hb_1
 refine KS ?_
 refine Oa (Ab [vi a.From, vi a.To]) fun p1 => Oa (Ab [vi b.From, vi b.To]) fun p2 => Oq Va (KS ?_)
 refine Oq (Vfa fo147_0 1) (Oq (VldF sh3 1) (Oq (Vfa fo147_0 0) (Oq (VldF sh3 0) (Oq Vlss (Oq Vm ?_)))))
 refine Js 10 ?_ ?_
 · intro h3
   have g4 := of_decide_eq_true h3
   refine Osk (Osk (Osk (Osk (Osk (Osk (Osk (Osk (Osk (Osk ?_)))))))))
   refine Osk (Osk (Oq Vpt (Oq Va (KS ?_))))
   have hq := q4 hrr true (by simp only [flqref1_Before, h3, cs4]); subst hq
   exact Kr () rfl (.tmp rfl .nil) [] trivial
 intro h3
 have g5 := of_decide_eq_false h3
 refine Oq (Vfa fo147_0 1) (Oq (VldF sh3 1) (Oq (Vfa fo147_0 0) (Oq (VldF sh3 0) (Oq Veql (Oq Vm ?_)))))
 refine Js 16 ?_ ?_
 · intro h6
   have g7 := eq_of_beq h6
   refine Oq (Vfa fo147_1 1) (Oq (VldF sh3 1) (Oq (Vfa fo147_1 0) (Oq (VldF sh3 0) (Oq Vlss (Oq Vpt (Oq Vpf (Oq Va (KS ?_))))))))
   have hq := q4 hrr (decide (a.To < b.To)) (by simp only [flqref1_Before, h3, h6, cs4]); subst hq
   exact Kr () rfl (.tmp rfl .nil) [] trivial
 intro h6
 have g8 := ne_of_beq_false h6
 refine Osk (Osk (Osk (Osk (Osk (Oq Vpf (Oq Vpf (Oq Va (KS ?_))))))))
 have hq := q4 hrr false (by simp only [flqref1_Before, h3, h6, cs4]); subst hq
 exact Kr () rfl (.tmp rfl .nil) [] trivial
theorem fn151 (t : GTransfer) (ta1 : Option Addr) (tk1 : Nat) (ta3 : Option Addr) (tk3 : Nat) (ta4 : Option Addr) (tk4 : Nat) (ht_0 : i64ok t.Gen.Width) (ht_2 : i64ok t.Kill.Width) (rr : Bool) (hrr : flqref1_ValidTransfer t = rr) : FT Tryz.prog 151 #[.agg #[vi t.Gen.Width, vl ta1 tk1 t.Gen.Words, vi t.Kill.Width, vl ta3 tk3 t.Kill.Words, vl ta4 tk4 t.Copies]] [S ta1 tk1 t.Gen.Words, S ta3 tk3 t.Kill.Words, S ta4 tk4 t.Copies] (fun g : Unit => True) (fun g => vb rr) (fun g => []) := by
 refine FTi Tryz.func151 fun w0 M0 F0 => ?_
 unfold i64ok at ht_0 ht_2
 refine Fb 8 0 fun hl1 => ?_
 refine Fb 8 1 fun hl2 => ?_
 refine Fb 16 2 fun hl3 => ?_
 refine KS ?_
 refine Oa (Ab [vi t.Gen.Width, vl ta1 tk1 t.Gen.Words, vi t.Kill.Width, vl ta3 tk3 t.Kill.Words, vl ta4 tk4 t.Copies]) fun p4 => Oq Va (KS ?_)
 refine Oq (Vfa fo98_0 0) (Oq (VldG sh42 0 [vi t.Gen.Width, vl ta1 tk1 t.Gen.Words]) ?_)
 refine letv (flqref1_Valid t.Gen) fun rv5 hg6 => ?_
 have hc7 := fn91 t.Gen ta1 tk1 pre rv5 hg6
 refine Oc [1] ca91 hc7 ?_
 rintro - -
 refine Oq Vnot (Oq Vm ?_)
 refine Js 10 ?_ ?_
 · intro h8
   have h10 := not_true h8
   refine Osk (Osk (Osk (Osk (Oq Vpt (Oq Vm (Osk (Osk (Osk (Osk ?_)))))))))
   refine Osk (Osk (Osk (Oq Vpt (Oq Vm (Osk (Osk (Osk (Osk (Oq Vpt ?_)))))))))
   refine KS ?_
   refine Kt ?_
   refine KS ?_
   refine Oq Va (KS ?_)
   have hq := q4 hrr false (by simp only [flqref1_ValidTransfer, h8, h10, hg6, cs4]); subst hq
   exact Kr () rfl (.tmp rfl .nil) [] trivial
 intro h8
 have h13 := not_false h8
 refine Oq (Vfa fo98_1 0) (Oq (VldG sh42 0 [vi t.Kill.Width, vl ta3 tk3 t.Kill.Words]) ?_)
 refine letv (flqref1_Valid t.Kill) fun rv15 hg16 => ?_
 have hc17 := fn91 t.Kill ta3 tk3 pre rv15 hg16
 refine Oc [2] ca91 hc17 ?_
 rintro - -
 refine Oq Vnot (Oq Vpf (Oq Vm ?_))
 refine Js 16 ?_ ?_
 · intro h18
   have h20 := not_true h18
   refine Osk (Osk (Osk (Osk (Osk (Osk (Osk (Oq Vpt (Oq Vm (Osk ?_)))))))))
   refine Osk (Osk (Osk (Oq Vpt (KS ?_))))
   refine Kt ?_
   refine KS ?_
   refine Oq Va (KS ?_)
   have hq := q4 hrr false (by simp only [flqref1_ValidTransfer, h8, h13, h18, h20, hg6, hg16, cs4]); subst hq
   exact Kr () rfl (.tmp rfl .nil) [] trivial
 intro h18
 have h23 := not_false h18
 refine Oq (Vfa fo98_0 0) (Oq (VfaF fo42_0 0) (Oq (VldF sh3 0) (Oq (Vfa fo98_1 0) (Oq (VfaF fo42_0 0) (Oq (VldF sh3 0) (Oq Vneq (Oq Vpf (Oq Vm ?_))))))))
 refine Js 25 ?_ ?_
 · intro h25
   have g26 := ne_of_bne h25
   refine Osk (Osk (Osk (Osk (Oq Vpt (KS ?_)))))
   refine Kt ?_
   refine KS ?_
   refine Oq Va (KS ?_)
   have hq := q4 hrr false (by simp only [flqref1_ValidTransfer, h8, h13, h18, h23, h25, hg6, hg16, cs4]); subst hq
   exact Kr () rfl (.tmp rfl .nil) [] trivial
 intro h25
 have g27 := eq_of_bne_false h25
 refine Oq (Vfa fo98_2 0) (Oq (VldF sh96 0) (Oq (Vlen sl96) (Oq Vgtr (Oq Vpf (KS ?_)))))
 refine Kc ?_ ?_
 · intro h28
   have g29 := of_decide_eq_true h28
   refine KS ?_
   refine Oq Va (KS ?_)
   have hq := q4 hrr false (by simp only [flqref1_ValidTransfer, h8, h13, h18, h23, h25, h28, hg6, hg16, cs4]); subst hq
   exact Kr () rfl (.tmp rfl .nil) [] trivial
 intro h28
 have g30 := of_decide_eq_false h28
 refine KS ?_
 refine Oq (Vfa fo98_0 0) (Oq (VfaF fo42_0 0) (Oq (VldF sh3 0) (Oq Va (KS ?_))))
 refine Oq Va (KS ?_)
 refine Kl (γ := Nat × Int) (fun (r31, i_32) => ⟨[(1, p4), (3, vi t.Gen.Width), (4, vi i_32)], [pv p4 [vi t.Gen.Width, vl ta1 tk1 t.Gen.Words, vi t.Kill.Width, vl ta3 tk3 t.Kill.Words, vl ta4 tk4 t.Copies], S ta1 tk1 t.Gen.Words, S ta3 tk3 t.Kill.Words, S ta4 tk4 t.Copies], flqref1_ValidTransfer_L0 t r31 i_32 = flqref1_ValidTransfer_L0 t (((t.Copies.length : Int) - 0).toNat) 0 ∧ r31 = ((t.Copies.length : Int) - i_32).toNat ∧ (0 : Int) ≤ i_32 ∧ i_32 ≤ (t.Copies.length : Int) ∧ (-9223372036854775808 ≤ i_32 ∧ i_32 ≤ 9223372036854775807), r31⟩) (((t.Copies.length : Int) - 0).toNat, 0) [0, 1, 2, 3] ⟨rfl, rfl, (by omega), (by omega), (by omega)⟩ ?_
 rintro ⟨r31, i_32⟩ ⟨hM33, hr34, hi35, hi36, hk37⟩
 refine JJ_nx fun _ _ hL hA => ?_; dsimp only at hL hA; subst hL hA
 refine Fb 8 1 fun hl38 => ?_
 refine Fb 8 2 fun hl39 => ?_
 refine Fb 16 3 fun hl40 => ?_
 refine KS ?_
 refine Oq Vm (Oq (Vfa fo98_2 0) (Oq (VldF sh96 0) (Oq (Vlen sl96) (Oq Vlss (KS ?_)))))
 refine Kc ?_ ?_
 · intro h41
   have g42 := of_decide_eq_true h41
   obtain ⟨r43, rfl⟩ := scc (n := r31) (by omega)
   refine KS ?_
   refine Oq (Vfa fo98_2 0) (Oq (VldF sh96 0) (Oq Vm (Oq (Vi sl96 3) ?_)))
   refine JJ_peek_GCopy i_32.toNat 3 rfl rng fun hb44 hb45 => ?_
   unfold i64ok at hb44 hb45
   refine Oq (VldA sh147 0) (Oa (Al ze147 [vi 0, vi 0]) fun p46 => Ost (Scl [0] sh147 [vi ((t.Copies.getD i_32.toNat default).From), vi ((t.Copies.getD i_32.toNat default).To)]) (KS ?_))
   refine Jp 0 fun hp47 => ?_
   refine bool_split (decide ((t.Copies.getD i_32.toNat default).From < 0)) ?_ ?_
   · intro h48
     have g49 := of_decide_eq_true h48
     refine Kq [0, 1, 3, 7, 15, 31, 15, 127, 255, 511, 1023, 2047, 4095, 8191, 16383, 32767, 65535, 32767, 262143, 524287, 1048575, 2097151, 4194303, 8388607, 16777215, 33554431, 16777215, 83886079, 268435455, 536870911, 16777215, 2147483647, 4294967295, 8589934591, 17179869183] fmix ?_
     refine Qv [0] (Vfa fo147_0 0) (Qv [1] (VldF sh3 0) (Qb h48 [] Vlss (Qv [] Vm (Qs (Qs (Qs (Qs (Qv [] Vpt (Qv [] Vm ?_)))))))))
     refine Qs (Qs (Qs (Qv [] Vpt (Qv [] Vm (Qs (Qs (Qs (Qs (Qv [] Vpt ?_)))))))))
     refine Qv [] Vm (Qs (Qs (Qs (Qs (Qs (Qs (Qs (Qs (Qs ?_)))))))))
     refine Qs (Qs (Qs (Qs (Qv [] Vpt ?_))))
     refine Qn ⟨by kernel_rfl, ?_⟩
     refine Kt ?_
     refine KS ?_
     refine Oq Va (KS ?_)
     have hR50 := q2 hM33 (.ret false) (by simp only [flqref1_ValidTransfer_L0, h8, h13, h18, h23, h25, h28, h41, h48, hg6, hg16, cs4])
     have hq := q4 hrr false (by simp only [flqref1_ValidTransfer, h8, h13, h18, h23, h25, h28, h41, h48, hg6, hg16, hR50, cs4]); subst hq
     exact Kr () rfl (.tmp rfl .nil) [] trivial
   intro h48
   have g51 := of_decide_eq_false h48
   refine bool_split (decide (t.Gen.Width ≤ (t.Copies.getD i_32.toNat default).From)) ?_ ?_
   · intro h52
     have g53 := of_decide_eq_true h52
     refine Kq [0, 1, 3, 7, 15, 31, 15, 127, 255, 511, 1023, 2047, 4095, 8191, 16383, 32767, 65535, 32767, 262143, 524287, 1048575, 2097151, 4194303, 8388607, 16777215, 33554431, 16777215, 83886079, 268435455, 536870911, 16777215, 2147483647, 4294967295, 8589934591, 17179869183] fmix ?_
     refine Qv [0] (Vfa fo147_0 0) (Qv [1] (VldF sh3 0) (Qb h48 [] Vlss (Qv [] Vm (Qv [0] (Vfa fo147_0 0) (Qv [1] (VldF sh3 0) (Qv [] Vm (Qb h52 [] Vgeq (Qv [] Vpf (Qv [] Vm ?_)))))))))
     refine Qs (Qs (Qs (Qv [] Vpt (Qv [] Vm (Qs (Qs (Qs (Qs (Qv [] Vpt ?_)))))))))
     refine Qv [] Vm (Qs (Qs (Qs (Qs (Qs (Qs (Qs (Qs (Qs ?_)))))))))
     refine Qs (Qs (Qs (Qs (Qv [] Vpt ?_))))
     refine Qn ⟨by kernel_rfl, ?_⟩
     refine Kt ?_
     refine KS ?_
     refine Oq Va (KS ?_)
     have hR54 := q2 hM33 (.ret false) (by simp only [flqref1_ValidTransfer_L0, h8, h13, h18, h23, h25, h28, h41, h48, h52, hg6, hg16, cs4])
     have hq := q4 hrr false (by simp only [flqref1_ValidTransfer, h8, h13, h18, h23, h25, h28, h41, h48, h52, hg6, hg16, hR54, cs4]); subst hq
     exact Kr () rfl (.tmp rfl .nil) [] trivial
   intro h52
   have g55 := of_decide_eq_false h52
   refine bool_split (decide ((t.Copies.getD i_32.toNat default).To < 0)) ?_ ?_
   · intro h56
     have g57 := of_decide_eq_true h56
     refine Kq [0, 1, 3, 7, 15, 31, 15, 127, 255, 511, 1023, 2047, 4095, 8191, 16383, 32767, 65535, 32767, 262143, 524287, 1048575, 2097151, 4194303, 8388607, 16777215, 33554431, 16777215, 83886079, 268435455, 536870911, 16777215, 2147483647, 4294967295, 8589934591, 17179869183] fmix ?_
     refine Qv [0] (Vfa fo147_0 0) (Qv [1] (VldF sh3 0) (Qb h48 [] Vlss (Qv [] Vm (Qv [0] (Vfa fo147_0 0) (Qv [1] (VldF sh3 0) (Qv [] Vm (Qb h52 [] Vgeq (Qv [] Vpf (Qv [] Vm ?_)))))))))
     refine Qv [0] (Vfa fo147_1 0) (Qv [1] (VldF sh3 0) (Qb h56 [] Vlss (Qv [] Vpf (Qv [] Vm (Qs (Qs (Qs (Qs (Qv [] Vpt ?_)))))))))
     refine Qv [] Vm (Qs (Qs (Qs (Qs (Qs (Qs (Qs (Qs (Qs ?_)))))))))
     refine Qs (Qs (Qs (Qs (Qv [] Vpt ?_))))
     refine Qn ⟨by kernel_rfl, ?_⟩
     refine Kt ?_
     refine KS ?_
     refine Oq Va (KS ?_)
     have hR58 := q2 hM33 (.ret false) (by simp only [flqref1_ValidTransfer_L0, h8, h13, h18, h23, h25, h28, h41, h48, h52, h56, hg6, hg16, cs4])
     have hq := q4 hrr false (by simp only [flqref1_ValidTransfer, h8, h13, h18, h23, h25, h28, h41, h48, h52, h56, hg6, hg16, hR58, cs4]); subst hq
     exact Kr () rfl (.tmp rfl .nil) [] trivial
   intro h56
   have g59 := of_decide_eq_false h56
   refine bool_split (decide (t.Gen.Width ≤ (t.Copies.getD i_32.toNat default).To)) ?_ ?_
   · intro h60
     have g61 := of_decide_eq_true h60
     refine Kq [0, 1, 3, 7, 15, 31, 15, 127, 255, 511, 1023, 2047, 4095, 8191, 16383, 32767, 65535, 32767, 262143, 524287, 1048575, 2097151, 4194303, 8388607, 16777215, 33554431, 16777215, 83886079, 268435455, 536870911, 16777215, 2147483647, 4294967295, 8589934591, 17179869183] fmix ?_
     refine Qv [0] (Vfa fo147_0 0) (Qv [1] (VldF sh3 0) (Qb h48 [] Vlss (Qv [] Vm (Qv [0] (Vfa fo147_0 0) (Qv [1] (VldF sh3 0) (Qv [] Vm (Qb h52 [] Vgeq (Qv [] Vpf (Qv [] Vm ?_)))))))))
     refine Qv [0] (Vfa fo147_1 0) (Qv [1] (VldF sh3 0) (Qb h56 [] Vlss (Qv [] Vpf (Qv [] Vm (Qv [0] (Vfa fo147_1 0) (Qv [1] (VldF sh3 0) (Qv [] Vm (Qb h60 [] Vgeq (Qv [] Vpf ?_)))))))))
     refine Qv [] Vm (Qs (Qs (Qs (Qs (Qs (Qs (Qs (Qs (Qs ?_)))))))))
     refine Qs (Qs (Qs (Qs (Qv [] Vpt ?_))))
     refine Qn ⟨by kernel_rfl, ?_⟩
     refine Kt ?_
     refine KS ?_
     refine Oq Va (KS ?_)
     have hR62 := q2 hM33 (.ret false) (by simp only [flqref1_ValidTransfer_L0, h8, h13, h18, h23, h25, h28, h41, h48, h52, h56, h60, hg6, hg16, cs4])
     have hq := q4 hrr false (by simp only [flqref1_ValidTransfer, h8, h13, h18, h23, h25, h28, h41, h48, h52, h56, h60, hg6, hg16, hR62, cs4]); subst hq
     exact Kr () rfl (.tmp rfl .nil) [] trivial
   intro h60
   have g63 := of_decide_eq_false h60
   refine bool_split (decide (0 < i_32)) ?_ ?_
   · intro h64
     have g65 := of_decide_eq_true h64
     refine JJ_peek_GCopy ((i_32 - 1) : Int).toNat 6 rfl rng fun hb66 hb67 => ?_
     unfold i64ok at hb66 hb67
     refine JK_drawK [0, 1, 3, 7, 15, 31, 15, 127, 255, 511, 1023, 2047, 4095, 8191, 16383, 32767, 65535, 32767, 262143, 524287, 1048575, 2097151, 4194303, 8388607, 16777215, 33554431, 16777215, 83886079, 268435455, 536870911, 16777215, 2147483647, 4294967295, 8589934591, 17179869183] fmix ?_
     refine Dv [1] (Vfa fo147_0 0) (Dv [2] (VldF sh3 0) (Db h48 [] Vlss (Dv [] Vm (Dv [1] (Vfa fo147_0 0) (Dv [2] (VldF sh3 0) (Dv [] Vm (Db h52 [] Vgeq (Dv [] Vpf (Dv [] Vm ?_)))))))))
     refine Dv [1] (Vfa fo147_1 0) (Dv [2] (VldF sh3 0) (Db h56 [] Vlss (Dv [] Vpf (Dv [] Vm (Dv [1] (Vfa fo147_1 0) (Dv [2] (VldF sh3 0) (Dv [] Vm (Db h60 [] Vgeq (Dv [] Vpf ?_)))))))))
     refine Dv [] Vm (Dv [] Vm (Db h64 [] Vgtr (Dv [] Vm (Dv [4] (Vfa fo98_2 0) (Dv [4] (VldF sh96 0) (Dv [] Vm (Dv [] Vsub (Dv [7] (Vi sl96 0) (Dv [0] (VldA sh147 0) ?_)))))))))
     refine Dv [2] (VldA sh147 0) ?_
     refine letv (flqref1_Before (t.Copies.getD ((i_32 - 1) : Int).toNat default) (t.Copies.getD i_32.toNat default)) fun rv68 hg69 => ?_
     refine Dx [] [] [0] (fun G => vb rv68) [fun G => SP.fact (True)] (fun G => xC [] ca210 (fn210 ((t.Copies.getD ((i_32 - 1) : Int).toNat default)) ((t.Copies.getD i_32.toNat default)) pre pre pre pre rv68 hg69)) (Dv [] Vnot (Dv [] Vpt (Dv [] Vpf ?_)))
     refine Dn ⟨by kernel_rfl, fun G => ?_⟩
     refine Jw2 [(1, p4), (3, vi t.Gen.Width), (4, vi i_32), (80, vb (!rv68))] [0, 1, 2, 3, 4, 5, 6, 7] [SP.fact (True)] ?_
     refine Jk [0, 2, 2, 3, 4, 5, 6] ?_
     refine Kc ?_ ?_
     · intro h70
       have h72 := not_true h70
       refine KS ?_
       refine Oq Va (KS ?_)
       have hR74 := q2 hM33 (.ret false) (by simp only [flqref1_ValidTransfer_L0, h8, h13, h18, h23, h25, h28, h41, h48, h52, h56, h60, h64, h70, h72, hg6, hg16, hg69, cs4])
       have hq := q4 hrr false (by simp only [flqref1_ValidTransfer, h8, h13, h18, h23, h25, h28, h41, h48, h52, h56, h60, h64, h70, h72, hg6, hg16, hg69, hR74, cs4]); subst hq
       exact Kr () rfl (.tmp rfl .nil) [] trivial
     intro h70
     have h76 := not_false h70
     refine KS ?_
     refine Oq Vm (Oq Vadd (Oq Va (KS ?_)))
     exact Kg (r43, (i_32 + 1)) [3, 4, 5, 6] ⟨(q3 hM33 (by simp only [flqref1_ValidTransfer_L0, h8, h13, h18, h23, h25, h28, h41, h48, h52, h56, h60, h64, h70, h76, hg6, hg16, hg69, cs4])), (by omega), (by omega), (by omega), (by omega)⟩
   intro h64
   have g78 := of_decide_eq_false h64
   refine Kq [0, 1, 3, 7, 15, 31, 15, 127, 255, 511, 1023, 2047, 4095, 8191, 16383, 32767, 65535, 32767, 262143, 524287, 1048575, 2097151, 4194303, 8388607, 16777215, 33554431, 16777215, 83886079, 268435455, 536870911, 16777215, 2147483647, 4294967295, 8589934591, 17179869183] fmix ?_
   refine Qv [0] (Vfa fo147_0 0) (Qv [1] (VldF sh3 0) (Qb h48 [] Vlss (Qv [] Vm (Qv [0] (Vfa fo147_0 0) (Qv [1] (VldF sh3 0) (Qv [] Vm (Qb h52 [] Vgeq (Qv [] Vpf (Qv [] Vm ?_)))))))))
   refine Qv [0] (Vfa fo147_1 0) (Qv [1] (VldF sh3 0) (Qb h56 [] Vlss (Qv [] Vpf (Qv [] Vm (Qv [0] (Vfa fo147_1 0) (Qv [1] (VldF sh3 0) (Qv [] Vm (Qb h60 [] Vgeq (Qv [] Vpf ?_)))))))))
   refine Qv [] Vm (Qv [] Vm (Qb h64 [] Vgtr (Qv [] Vm (Qs (Qs (Qs (Qs (Qs (Qs ?_)))))))))
   refine Qs (Qs (Qs (Qv [] Vpf (Qv [] Vpf ?_))))
   refine Qn ⟨by kernel_rfl, ?_⟩
   refine Kf ?_
   refine KS ?_
   refine Oq Vm (Oq Vadd (Oq Va (KS ?_)))
   exact Kg (r43, (i_32 + 1)) [3, 4, 5, 6] ⟨(q3 hM33 (by simp only [flqref1_ValidTransfer_L0, h8, h13, h18, h23, h25, h28, h41, h48, h52, h56, h60, h64, hg6, hg16, cs4])), (by omega), (by omega), (by omega), (by omega)⟩
 intro h41
 have g79 := of_decide_eq_false h41
 obtain rfl : r31 = 0 := by omega
 refine Ke ?_
 have hR80 := q2 hM33 (.brk ()) (by simp only [flqref1_ValidTransfer_L0, h8, h13, h18, h23, h25, h28, h41, hg6, hg16, cs4])
 refine KS ?_
 refine Oq Va (KS ?_)
 have hq := q4 hrr true (by simp only [flqref1_ValidTransfer, h8, h13, h18, h23, h25, h28, h41, hg6, hg16, hR80, cs4]); subst hq
 exact Kr () rfl (.tmp rfl .nil) [] trivial
theorem fn74 (s : GSystem) (sa1 : Option Addr) (sk1 : Nat) (sa2 : Option Addr) (sk2 : Nat) (sa3 : Option Addr) (sk3 : Nat) (hs_0 : i64ok s.Width) (rr : Bool) (hrr : flqref10_Valid s = rr) : FT Tryz.prog 74 #[.agg #[vi s.Width, vl sa1 sk1 s.Deps, vl sa2 sk2 s.Transfers, vl sa3 sk3 s.Boundary]] [S sa1 sk1 s.Deps, S sa2 sk2 s.Transfers, S sa3 sk3 s.Boundary] (fun g : Unit => True) (fun g => vb rr) (fun g => []) := by
 refine FTi Tryz.func74 fun w0 M0 F0 => ?_
 unfold i64ok at hs_0
 refine Fb 24 0 fun hl1 => ?_
 refine Fb 88 1 fun hl2 => ?_
 refine Fb 32 2 fun hl3 => ?_
 refine KS ?_
 refine Oa (Ab [vi s.Width, vl sa1 sk1 s.Deps, vl sa2 sk2 s.Transfers, vl sa3 sk3 s.Boundary]) fun p4 => Oq Va (KS ?_)
 refine Oq (Vfa fo27_3 0) (Oq (VldF sh25 0) (Oq (Vlen sl25) (Oq Va (KS ?_))))
 refine Oq (Vfa fo27_0 0) (Oq (VldF sh3 0) (Oq Vlss (Oq Vm ?_)))
 refine Js 12 ?_ ?_
 · intro h5
   have g6 := of_decide_eq_true h5
   refine Osk (Osk (Osk (Oq Vpt (Oq Vm (Osk (Osk (Oq Vpt (Oq Vm (Osk ?_)))))))))
   refine Osk (Oq Vpt (Oq Vm (Osk (Osk (Osk (Osk (Osk (Oq Vpt (Oq Vm ?_)))))))))
   refine Osk (Osk (Osk (Osk (Osk (Oq Vpt (KS ?_))))))
   refine Kt ?_
   refine KS ?_
   refine Oq Va (KS ?_)
   have hq := q4 hrr false (by simp only [flqref10_Valid, h5, cs4]); subst hq
   exact Kr () rfl (.tmp rfl .nil) [] trivial
 intro h5
 have g7 := of_decide_eq_false h5
 refine Oq (Vfa fo27_0 0) (Oq (VldF sh3 0) (Oq Vgtr (Oq Vpf (Oq Vm ?_))))
 refine Js 17 ?_ ?_
 · intro h8
   have g9 := of_decide_eq_true h8
   refine Osk (Osk (Oq Vpt (Oq Vm (Osk (Osk (Oq Vpt (Oq Vm (Osk (Osk ?_)))))))))
   refine Osk (Osk (Osk (Oq Vpt (Oq Vm (Osk (Osk (Osk (Osk (Osk ?_)))))))))
   refine Oq Vpt (KS ?_)
   refine Kt ?_
   refine KS ?_
   refine Oq Va (KS ?_)
   have hq := q4 hrr false (by simp only [flqref10_Valid, h5, h8, cs4]); subst hq
   exact Kr () rfl (.tmp rfl .nil) [] trivial
 intro h8
 have g10 := of_decide_eq_false h8
 refine Oq Vm (Oq Vlss (Oq Vpf (Oq Vm ?_)))
 refine Js 21 ?_ ?_
 · intro h11
   have g12 := of_decide_eq_true h11
   refine Osk (Osk (Oq Vpt (Oq Vm (Osk (Osk (Osk (Osk (Osk (Oq Vpt ?_)))))))))
   refine Oq Vm (Osk (Osk (Osk (Osk (Osk (Oq Vpt (KS ?_)))))))
   refine Kt ?_
   refine KS ?_
   refine Oq Va (KS ?_)
   have hq := q4 hrr false (by simp only [flqref10_Valid, h5, h8, h11, cs4]); subst hq
   exact Kr () rfl (.tmp rfl .nil) [] trivial
 intro h11
 have g13 := of_decide_eq_false h11
 refine Oq Vm (Oq Vgtr (Oq Vpf (Oq Vm ?_)))
 refine Js 25 ?_ ?_
 · intro h14
   have g15 := of_decide_eq_true h14
   refine Osk (Osk (Osk (Osk (Osk (Oq Vpt (Oq Vm (Osk (Osk (Osk ?_)))))))))
   refine Osk (Osk (Oq Vpt (KS ?_)))
   refine Kt ?_
   refine KS ?_
   refine Oq Va (KS ?_)
   have hq := q4 hrr false (by simp only [flqref10_Valid, h5, h8, h11, h14, cs4]); subst hq
   exact Kr () rfl (.tmp rfl .nil) [] trivial
 intro h14
 have g16 := of_decide_eq_false h14
 refine Oq (Vfa fo27_1 0) (Oq (VldF sh23 0) (Oq (Vlen sl23) (Oq Vm (Oq Vneq (Oq Vpf (Oq Vm ?_))))))
 refine Js 32 ?_ ?_
 · intro h17
   have g18 := ne_of_bne h17
   refine Osk (Osk (Osk (Osk (Osk (Oq Vpt (KS ?_))))))
   refine Kt ?_
   refine KS ?_
   refine Oq Va (KS ?_)
   have hq := q4 hrr false (by simp only [flqref10_Valid, h5, h8, h11, h14, h17, cs4]); subst hq
   exact Kr () rfl (.tmp rfl .nil) [] trivial
 intro h17
 have g19 := eq_of_bne_false h17
 refine Oq (Vfa fo27_2 0) (Oq (VldF sh24 0) (Oq (Vlen sl24) (Oq Vm (Oq Vneq (Oq Vpf (KS ?_))))))
 refine Kc ?_ ?_
 · intro h20
   have g21 := ne_of_bne h20
   refine KS ?_
   refine Oq Va (KS ?_)
   have hq := q4 hrr false (by simp only [flqref10_Valid, h5, h8, h11, h14, h17, h20, cs4]); subst hq
   exact Kr () rfl (.tmp rfl .nil) [] trivial
 intro h20
 have g22 := eq_of_bne_false h20
 refine KS ?_
 refine Oq Va (KS ?_)
 refine Oq Va (KS ?_)
 refine Kl (γ := Nat × Int × Int) (fun (r23, edges_24, i_25) => ⟨[(1, p4), (3, vi (s.Boundary.length : Int)), (4, vi edges_24), (5, vi i_25)], [pv p4 [vi s.Width, vl sa1 sk1 s.Deps, vl sa2 sk2 s.Transfers, vl sa3 sk3 s.Boundary], S sa1 sk1 s.Deps, S sa2 sk2 s.Transfers, S sa3 sk3 s.Boundary], flqref10_Valid_L0 s r23 edges_24 i_25 = flqref10_Valid_L0 s (((s.Boundary.length : Int) - 0).toNat) 0 0 ∧ r23 = ((s.Boundary.length : Int) - i_25).toNat ∧ (0 : Int) ≤ i_25 ∧ i_25 ≤ (s.Boundary.length : Int) ∧ (-9223372036854775808 ≤ edges_24 ∧ edges_24 ≤ 9223372036854775807) ∧ (-9223372036854775808 ≤ i_25 ∧ i_25 ≤ 9223372036854775807) ∧ 0 ≤ edges_24 ∧ edges_24 ≤ i_25 * 17592186044416, r23⟩) (((s.Boundary.length : Int) - 0).toNat, 0, 0) [0, 1, 2, 3] ⟨rfl, rfl, (by omega), (by omega), (by omega), (by omega), iv0⟩ ?_
 rintro ⟨r23, edges_24, i_25⟩ ⟨hM26, hr27, hi28, hi29, hk30, hk31, hv32⟩
 refine JJ_nx fun _ _ hL hA => ?_; dsimp only at hL hA; subst hL hA
 refine Fb 24 1 fun hl33 => ?_
 refine Fb 88 2 fun hl34 => ?_
 refine Fb 32 3 fun hl35 => ?_
 refine KS ?_
 refine Oq Vm (Oq Vm (Oq Vlss (KS ?_)))
 refine Kc ?_ ?_
 · intro h36
   have g37 := of_decide_eq_true h36
   obtain ⟨r38, rfl⟩ := scc (n := r23) (by omega)
   refine KS ?_
   refine JJ_peekL i_25.toNat 1 rfl rng fun a39 k40 => ?_
   refine Fb 8 1 fun hl41 => ?_
   refine Fo 1 fun ho42 => ?_
   refine letv (flqref7_Rising (s.Deps.getD i_25.toNat []) (s.Boundary.length : Int)) fun rv43 hg44 => ?_
   refine bool_split (!rv43) ?_ ?_
   · intro h45
     have h47 := not_true h45
     refine JK_drawK [0, 1, 0, 7, 15, 0, 63, 127, 255, 511, 1023, 511, 4095, 8191, 16383, 32767, 65535, 131071, 262143, 524287, 262143, 2097151, 4194303, 8388607, 16777215, 262143, 33816575, 134217727, 268435455, 536870911, 1073741823, 2147483647, 1073741823, 8589934591, 17179869183, 34359738367, 68719476735, 137438953471, 274877906943, 549755813887, 1099511627775, 549755813887, 4398046511103, 8796093022207, 17592186044415, 549755813887, 35734127902719, 140737488355327, 281474976710655] fmix ?_
     refine Dv [2] (Vfa fo27_1 0) (Dv [2] (VldF sh23 0) (Dv [] Vm (Dv [3] (Vi sl23 0) (Dv [0] (Vld sh22 0) (Dv [] Vm (Dx [1] [] [1, 0] (fun G => vb rv43) [fun G => SP.fact (True)] (fun G => xC [0] ca150 (fn150 ((s.Deps.getD i_25.toNat [])) a39 k40 ((s.Boundary.length : Int)) pre rv43 hg44)) (Db h45 [] Vnot (Dv [] Vm (Ds ?_)))))))))
     refine Ds (Ds (Ds (Ds (Ds (Ds (Dv [] Vpt (Dv [] Vm (Ds (Ds ?_)))))))))
     refine Ds (Ds (Ds (Ds (Ds (Ds (Ds (Ds (Dv [] Vpt (Dv [] Vm ?_)))))))))
     refine Ds (Ds (Ds (Ds (Ds (Ds (Ds (Dv [] Vpt (Dv [] Vm (Ds ?_)))))))))
     refine Ds (Ds (Ds (Ds (Ds (Ds (Ds (Ds (Dv [] Vpt ?_))))))))
     refine Dn ⟨by kernel_rfl, fun G => ?_⟩
     refine Jw2 [(1, p4), (3, vi (s.Boundary.length : Int)), (4, vi edges_24), (5, vi i_25), (92, vb true)] [0, 1, 2, 3, 4, 5] [SP.fact (True)] ?_
     refine Jk [0, 1, 2, 3, 4, 5] ?_
     refine Kt ?_
     refine KS ?_
     refine Oq Va (KS ?_)
     have hR49 := q2 hM26 (.ret false) (by simp only [flqref10_Valid_L0, h5, h8, h11, h14, h17, h20, h36, h45, h47, hg44, cs4])
     have hq := q4 hrr false (by simp only [flqref10_Valid, h5, h8, h11, h14, h17, h20, h36, h45, h47, hg44, hR49, cs4]); subst hq
     exact Kr () rfl (.tmp rfl .nil) [] trivial
   intro h45
   have h51 := not_false h45
   refine JJ_peek_GTransfer i_25.toNat 4 rfl rng fun a53 k54 a55 k56 a57 k58 hb59 hb60 => ?_
   unfold i64ok at hb59 hb60
   refine Fb 8 1 fun hl61 => ?_
   refine Fb 8 2 fun hl62 => ?_
   refine Fb 16 3 fun hl63 => ?_
   refine letv (flqref1_ValidTransfer (s.Transfers.getD i_25.toNat default)) fun rv64 hg65 => ?_
   refine bool_split (!rv64) ?_ ?_
   · intro h66
     have h68 := not_true h66
     refine JK_drawK [0, 1, 0, 7, 15, 0, 63, 127, 255, 511, 1023, 511, 4095, 8191, 16383, 32767, 65535, 131071, 262143, 524287, 262143, 2097151, 4194303, 8388607, 16777215, 262143, 33816575, 134217727, 268435455, 536870911, 1073741823, 2147483647, 1073741823, 8589934591, 17179869183, 34359738367, 68719476735, 137438953471, 274877906943, 549755813887, 1099511627775, 549755813887, 4398046511103, 8796093022207, 17592186044415, 549755813887, 35734127902719, 140737488355327, 281474976710655] fmix ?_
     refine Dv [6] (Vfa fo27_1 0) (Dv [6] (VldF sh23 0) (Dv [] Vm (Dv [7] (Vi sl23 0) (Dv [4] (Vld sh22 0) (Dv [] Vm (Dx [5] [] [1, 0] (fun G => vb rv43) [fun G => SP.fact (True)] (fun G => xC [0] ca150 (fn150 ((s.Deps.getD i_25.toNat [])) a39 k40 ((s.Boundary.length : Int)) pre rv43 hg44)) (Db h45 [] Vnot (Dv [] Vm (Dv [6] (Vfa fo27_2 0) ?_)))))))))
     refine Dv [6] (VldF sh24 0) (Dv [] Vm (Dv [8] (Vi sl24 0) (Dv [0] (VldA sh98 0) (Dx [1, 2, 3] [] [1, 2, 3, 0] (fun G => vb rv64) [fun G => SP.fact (True)] (fun G => xC [0, 1, 2] ca151 (fn151 ((s.Transfers.getD i_25.toNat default)) a53 k54 a55 k56 a57 k58 pre pre rv64 hg65)) (Db h66 [] Vnot (Dv [] Vpf (Dv [] Vm (Ds (Ds ?_)))))))))
     refine Ds (Ds (Ds (Ds (Ds (Ds (Ds (Ds (Dv [] Vpt (Dv [] Vm ?_)))))))))
     refine Ds (Ds (Ds (Ds (Ds (Ds (Ds (Dv [] Vpt (Dv [] Vm (Ds ?_)))))))))
     refine Ds (Ds (Ds (Ds (Ds (Ds (Ds (Ds (Dv [] Vpt ?_))))))))
     refine Dn ⟨by kernel_rfl, fun G => ?_⟩
     refine Jw2 [(1, p4), (3, vi (s.Boundary.length : Int)), (4, vi edges_24), (5, vi i_25), (92, vb true)] [0, 1, 2, 3, 4, 5, 6, 7, 8, 9] [SP.fact (True), SP.fact (True)] ?_
     refine Jk [0, 1, 2, 3, 4, 5, 6, 7, 8, 9] ?_
     refine Kt ?_
     refine KS ?_
     refine Oq Va (KS ?_)
     have hR70 := q2 hM26 (.ret false) (by simp only [flqref10_Valid_L0, h5, h8, h11, h14, h17, h20, h36, h45, h51, h66, h68, hg44, hg65, cs4])
     have hq := q4 hrr false (by simp only [flqref10_Valid, h5, h8, h11, h14, h17, h20, h36, h45, h51, h66, h68, hg44, hg65, hR70, cs4]); subst hq
     exact Kr () rfl (.tmp rfl .nil) [] trivial
   intro h66
   have h72 := not_false h66
   refine bool_split (((s.Transfers.getD i_25.toNat default).Gen).Width != s.Width) ?_ ?_
   · intro h74
     have g75 := ne_of_bne h74
     refine JK_drawK [0, 1, 0, 7, 15, 0, 63, 127, 255, 511, 1023, 511, 4095, 8191, 16383, 32767, 65535, 131071, 262143, 524287, 262143, 2097151, 4194303, 8388607, 16777215, 262143, 33816575, 134217727, 268435455, 536870911, 1073741823, 2147483647, 1073741823, 8589934591, 17179869183, 34359738367, 68719476735, 137438953471, 274877906943, 549755813887, 1099511627775, 549755813887, 4398046511103, 8796093022207, 17592186044415, 549755813887, 35734127902719, 140737488355327, 281474976710655] fmix ?_
     refine Dv [6] (Vfa fo27_1 0) (Dv [6] (VldF sh23 0) (Dv [] Vm (Dv [7] (Vi sl23 0) (Dv [4] (Vld sh22 0) (Dv [] Vm (Dx [5] [] [1, 0] (fun G => vb rv43) [fun G => SP.fact (True)] (fun G => xC [0] ca150 (fn150 ((s.Deps.getD i_25.toNat [])) a39 k40 ((s.Boundary.length : Int)) pre rv43 hg44)) (Db h45 [] Vnot (Dv [] Vm (Dv [6] (Vfa fo27_2 0) ?_)))))))))
     refine Dv [6] (VldF sh24 0) (Dv [] Vm (Dv [8] (Vi sl24 0) (Dv [0] (VldA sh98 0) (Dx [1, 2, 3] [] [1, 2, 3, 0] (fun G => vb rv64) [fun G => SP.fact (True)] (fun G => xC [0, 1, 2] ca151 (fn151 ((s.Transfers.getD i_25.toNat default)) a53 k54 a55 k56 a57 k58 pre pre rv64 hg65)) (Db h66 [] Vnot (Dv [] Vpf (Dv [] Vm (Dv [6] (Vfa fo27_2 0) (Dv [6] (VldF sh24 0) ?_)))))))))
     refine Dv [] Vm (Dv [8] (Vi sl24 0) (Dv [0] (Vfa fo98_0 0) (Dv [0] (VfaF fo42_0 0) (Dv [0] (VldF sh3 0) (Dv [6] (Vfa fo27_0 0) (Dv [6] (VldF sh3 0) (Db h74 [] Vneq (Dv [] Vpf (Dv [] Vm ?_)))))))))
     refine Ds (Ds (Ds (Ds (Ds (Ds (Ds (Dv [] Vpt (Dv [] Vm (Ds ?_)))))))))
     refine Ds (Ds (Ds (Ds (Ds (Ds (Ds (Ds (Dv [] Vpt ?_))))))))
     refine Dn ⟨by kernel_rfl, fun G => ?_⟩
     refine Jw2 [(1, p4), (3, vi (s.Boundary.length : Int)), (4, vi edges_24), (5, vi i_25), (92, vb true)] [0, 1, 2, 3, 4, 5, 6, 7, 8, 9] [SP.fact (True), SP.fact (True)] ?_
     refine Jk [0, 1, 2, 3, 4, 5, 6, 7, 8, 9] ?_
     refine Kt ?_
     refine KS ?_
     refine Oq Va (KS ?_)
     have hR76 := q2 hM26 (.ret false) (by simp only [flqref10_Valid_L0, h5, h8, h11, h14, h17, h20, h36, h45, h51, h66, h72, h74, hg44, hg65, cs4])
     have hq := q4 hrr false (by simp only [flqref10_Valid, h5, h8, h11, h14, h17, h20, h36, h45, h51, h66, h72, h74, hg44, hg65, hR76, cs4]); subst hq
     exact Kr () rfl (.tmp rfl .nil) [] trivial
   intro h74
   have g77 := eq_of_bne_false h74
   refine JJ_peek_GSet i_25.toNat 9 rfl rng fun a78 k79 hb80 => ?_
   unfold i64ok at hb80
   refine Fb 8 1 fun hl81 => ?_
   refine JK_drawK [0, 1, 0, 7, 15, 0, 63, 127, 255, 511, 1023, 511, 4095, 8191, 16383, 32767, 65535, 131071, 262143, 524287, 262143, 2097151, 4194303, 8388607, 16777215, 262143, 33816575, 134217727, 268435455, 536870911, 1073741823, 2147483647, 1073741823, 8589934591, 17179869183, 34359738367, 68719476735, 137438953471, 274877906943, 549755813887, 1099511627775, 549755813887, 4398046511103, 8796093022207, 17592186044415, 549755813887, 35734127902719, 140737488355327, 281474976710655] fmix ?_
   refine Dv [8] (Vfa fo27_1 0) (Dv [8] (VldF sh23 0) (Dv [] Vm (Dv [9] (Vi sl23 0) (Dv [6] (Vld sh22 0) (Dv [] Vm (Dx [7] [] [1, 0] (fun G => vb rv43) [fun G => SP.fact (True)] (fun G => xC [0] ca150 (fn150 ((s.Deps.getD i_25.toNat [])) a39 k40 ((s.Boundary.length : Int)) pre rv43 hg44)) (Db h45 [] Vnot (Dv [] Vm (Dv [8] (Vfa fo27_2 0) ?_)))))))))
   refine Dv [8] (VldF sh24 0) (Dv [] Vm (Dv [10] (Vi sl24 0) (Dv [2] (VldA sh98 0) (Dx [3, 4, 5] [] [1, 2, 3, 0] (fun G => vb rv64) [fun G => SP.fact (True)] (fun G => xC [0, 1, 2] ca151 (fn151 ((s.Transfers.getD i_25.toNat default)) a53 k54 a55 k56 a57 k58 pre pre rv64 hg65)) (Db h66 [] Vnot (Dv [] Vpf (Dv [] Vm (Dv [8] (Vfa fo27_2 0) (Dv [8] (VldF sh24 0) ?_)))))))))
   refine Dv [] Vm (Dv [10] (Vi sl24 0) (Dv [2] (Vfa fo98_0 0) (Dv [2] (VfaF fo42_0 0) (Dv [2] (VldF sh3 0) (Dv [8] (Vfa fo27_0 0) (Dv [8] (VldF sh3 0) (Db h74 [] Vneq (Dv [] Vpf (Dv [] Vm ?_)))))))))
   refine Dv [8] (Vfa fo27_3 0) (Dv [8] (VldF sh25 0) (Dv [] Vm (Dv [11] (Vi sl25 0) (Dv [0] (VldA sh42 0) ?_))))
   refine letv (flqref1_Valid (s.Boundary.getD i_25.toNat default)) fun rv82 hg83 => ?_
   refine Dx [1] [] [1, 0] (fun G => vb rv82) [fun G => SP.fact (True)] (fun G => xC [0] ca91 (fn91 ((s.Boundary.getD i_25.toNat default)) a78 k79 pre rv82 hg83)) (Dv [] Vnot (Dv [] Vpf ?_))
   refine bool_split (!rv82) ?_ ?_
   · intro h84
     have h86 := not_true h84
     refine Db h84 [] Vm (Ds (Ds (Ds (Ds (Ds (Ds (Ds (Ds (Ds ?_)))))))))
     refine Dv [] Vpt ?_
     refine Dn ⟨by kernel_rfl, fun G => ?_⟩
     refine Jw2 [(1, p4), (3, vi (s.Boundary.length : Int)), (4, vi edges_24), (5, vi i_25), (92, vb true)] [0, 1, 2, 3, 4, 5, 6, 7, 8, 9, 10, 11] [SP.fact (True), SP.fact (True), SP.fact (True)] ?_
     refine Jk [0, 1, 2, 3, 4, 5, 6, 7, 8, 9, 10, 11] ?_
     refine Kt ?_
     refine KS ?_
     refine Oq Va (KS ?_)
     have hR88 := q2 hM26 (.ret false) (by simp only [flqref10_Valid_L0, h5, h8, h11, h14, h17, h20, h36, h45, h51, h66, h72, h74, h84, h86, hg44, hg65, hg83, cs4])
     have hq := q4 hrr false (by simp only [flqref10_Valid, h5, h8, h11, h14, h17, h20, h36, h45, h51, h66, h72, h74, h84, h86, hg44, hg65, hg83, hR88, cs4]); subst hq
     exact Kr () rfl (.tmp rfl .nil) [] trivial
   intro h84
   have h90 := not_false h84
   refine Db h84 [] Vm (Dv [8] (Vfa fo27_3 0) (Dv [8] (VldF sh25 0) (Dv [] Vm (Dv [11] (Vi sl25 0) (Dv [0] (Vfa fo42_0 0) (Dv [0] (VldF sh3 0) (Dv [8] (Vfa fo27_0 0) (Dv [8] (VldF sh3 0) (Dv [] Vneq ?_)))))))))
   refine Dv [] Vpf ?_
   refine Dn ⟨by kernel_rfl, fun G => ?_⟩
   refine Jw2 [(1, p4), (3, vi (s.Boundary.length : Int)), (4, vi edges_24), (5, vi i_25), (92, vb ((s.Boundary.getD i_25.toNat default).Width != s.Width))] [0, 1, 2, 3, 4, 5, 6, 7, 8, 9, 10, 11] [SP.fact (True), SP.fact (True), SP.fact (True)] ?_
   refine Jk [0, 1, 2, 3, 4, 5, 6, 7, 8, 9, 10, 11] ?_
   refine Kc ?_ ?_
   · intro h92
     have g93 := ne_of_bne h92
     refine KS ?_
     refine Oq Va (KS ?_)
     have hR94 := q2 hM26 (.ret false) (by simp only [flqref10_Valid_L0, h5, h8, h11, h14, h17, h20, h36, h45, h51, h66, h72, h74, h84, h90, h92, hg44, hg65, hg83, cs4])
     have hq := q4 hrr false (by simp only [flqref10_Valid, h5, h8, h11, h14, h17, h20, h36, h45, h51, h66, h72, h74, h84, h90, h92, hg44, hg65, hg83, hR94, cs4]); subst hq
     exact Kr () rfl (.tmp rfl .nil) [] trivial
   intro h92
   have g95 := eq_of_bne_false h92
   refine KS ?_
   refine Oq Vm (Oq (Vfa fo27_1 8) (Oq (VldF sh23 8) (Oq Vm (Oq (Vi sl23 9) (Oq (Vld sh22 6) (Oq (Vlen sl22) (Oq Vadd (Oq Va (KS ?_)))))))))
   refine Oq Vm (Oq Vadd (Oq Va (KS ?_)))
   exact Kg (r38, (edges_24 + ((s.Deps.getD i_25.toNat []).length : Int)), (i_25 + 1)) [8, 9, 10, 11] ⟨(q3 hM26 (by simp only [flqref10_Valid_L0, h5, h8, h11, h14, h17, h20, h36, h45, h51, h66, h72, h74, h84, h90, h92, hg44, hg65, hg83, cs4])), (by omega), (by omega), (by omega), (by omega), (by omega), iv1⟩
 intro h36
 have g96 := of_decide_eq_false h36
 obtain rfl : r23 = 0 := by omega
 refine Ke ?_
 have hR97 := q2 hM26 (.brk edges_24) (by simp only [flqref10_Valid_L0, h5, h8, h11, h14, h17, h20, h36, cs4])
 refine KS ?_
 refine Oq Vm (Oq Vleq (Oq Va (KS ?_)))
 have hq := q4 hrr (decide (edges_24 ≤ 1024)) (by simp only [flqref10_Valid, h5, h8, h11, h14, h17, h20, h36, hR97, cs4]); subst hq
 exact Kr () rfl (.tmp rfl .nil) [] trivial
theorem fn75 (s : GSystem) (sa1 : Option Addr) (sk1 : Nat) (sa2 : Option Addr) (sk2 : Nat) (sa3 : Option Addr) (sk3 : Nat) (hs_0 : i64ok s.Width) (hw0 : 0 ≤ s.Width ∧ s.Width ≤ 1000) (rr : List GSet) (hrr : flqref10_Empty s = rr) : FT Tryz.prog 75 #[.agg #[vi s.Width, vl sa1 sk1 s.Deps, vl sa2 sk2 s.Transfers, vl sa3 sk3 s.Boundary]] [S sa1 sk1 s.Deps, S sa2 sk2 s.Transfers, S sa3 sk3 s.Boundary] (fun g : Value => (rr.length = s.Boundary.length)) (fun g => g) (fun g => [sl g rr]) := by
 refine FTi Tryz.func75 fun w0 M0 F0 => ?_
 unfold i64ok at hs_0
 refine Fb 24 0 fun hl1 => ?_
 refine Fb 88 1 fun hl2 => ?_
 refine Fb 32 2 fun hl3 => ?_
 refine KS ?_
 refine Oa (Ab [vi s.Width, vl sa1 sk1 s.Deps, vl sa2 sk2 s.Transfers, vl sa3 sk3 s.Boundary]) fun p4 => Oq Va (KS ?_)
 refine Oq Va (KS ?_)
 refine Oq Va (KS ?_)
 refine Jl [] (Ent.osNil (α := GSet)) ?_
 refine Kl (γ := Nat × List GSet × Int × Option Addr × Nat) (fun (r5, out_6, n_7, a8, k9) => ⟨[(1, p4), (3, vl a8 k9 out_6), (4, vi n_7)], [O a8 k9 out_6, pv p4 [vi s.Width, vl sa1 sk1 s.Deps, vl sa2 sk2 s.Transfers, vl sa3 sk3 s.Boundary], S sa1 sk1 s.Deps, S sa2 sk2 s.Transfers, S sa3 sk3 s.Boundary], flqref10_Empty_L0 s r5 out_6 n_7 = flqref10_Empty_L0 s (((s.Boundary.length : Int) - 0).toNat) [] 0 ∧ r5 = ((s.Boundary.length : Int) - n_7).toNat ∧ (0 : Int) ≤ n_7 ∧ n_7 ≤ (s.Boundary.length : Int) ∧ (-9223372036854775808 ≤ n_7 ∧ n_7 ≤ 9223372036854775807) ∧ (out_6.length : Int) = n_7, r5⟩) (((s.Boundary.length : Int) - 0).toNat, [], 0, none, 0) [0, 0, 1, 2, 3] ⟨rfl, rfl, (by omega), (by omega), (by omega), iv0⟩ ?_
 rintro ⟨r5, out_6, n_7, a8, k9⟩ ⟨hM10, hr11, hi12, hi13, hk14, hv15⟩
 refine JJ_nx fun _ _ hL hA => ?_; dsimp only at hL hA; subst hL hA
 refine Fb 32 0 fun hl16 => ?_
 refine Fb 24 2 fun hl17 => ?_
 refine Fb 88 3 fun hl18 => ?_
 refine Fb 32 4 fun hl19 => ?_
 refine KS ?_
 refine Oq Vm (Oq (Vfa fo27_3 1) (Oq (VldF sh25 1) (Oq (Vlen sl25) (Oq Vlss (KS ?_)))))
 refine Kc ?_ ?_
 · intro h20
   have g21 := of_decide_eq_true h20
   obtain ⟨r22, rfl⟩ := scc (n := r5) (by omega)
   refine KS ?_
   refine Oq Vm (Oq (Vfa fo27_0 1) (Oq (VldF sh3 1) ?_))
   refine letv (flqref1_Empty s.Width) fun rv24 hg25 => ?_
   have hc26 := fn67 s.Width pre pre rv24 hg25
   refine Oc [] ca67 hc26 ?_
   rintro c23 ⟨he27, he28, he29⟩
   unfold i64ok at he27
   refine Jo 0 ?_; rintro a30 k31 rfl
   refine Fb 8 0 fun hl32 => ?_
   refine Oa (AsV sl25 sz25 [.agg #[vi rv24.Width, vl a30 k31 rv24.Words]] [vi rv24.Width, vl a30 k31 rv24.Words]) fun c33 => ?_
   refine Jo 0 ?_; rintro a34 k35 rfl
   refine Jl [1] (Ent.freeze _ _) ?_
   refine Jl [1, 0] (Ent.cr1 (α := GSet) (A := [S a30 k31 rv24.Words]) _ rv24 _ (Nat.le_of_ble_eq_true rfl) (fun h => ⟨_, rfl, (by unfold i64ok; first | omega | (dsimp only; omega)), sepAll_get (i := 0) rfl h⟩)) ?_
   refine Oa (ApO [3, 0] sl25 sl25 sz25) fun c36 => ?_
   refine Jo 0 ?_; rintro a37 k38 rfl
   refine Fb 32 0 fun hl39 => ?_
   have hn40 := la out_6 ([rv24] : List GSet)
   refine Oq Va (KS ?_)
   refine Oq Vm (Oq Vadd (Oq Va (KS ?_)))
   exact Kg (r22, (out_6 ++ [rv24]), (n_7 + 1), a37, k38) [0, 2, 3, 4, 5] ⟨(q3 hM10 (by simp only [flqref10_Empty_L0, h20, hg25, cs4])), (by omega), (by omega), (by omega), (by omega), iv1⟩
 intro h20
 have g41 := of_decide_eq_false h20
 obtain rfl : r5 = 0 := by omega
 refine Ke ?_
 have hR42 := q2 hM10 out_6 (by simp only [flqref10_Empty_L0, h20, cs4])
 refine KS ?_
 refine Oq Vm (Oq Va (KS ?_))
 refine Jl [0] (Ent.freeze _ _) ?_
 have hq := q4 hrr out_6 (by simp only [flqref10_Empty, h20, hR42, cs4]); subst hq
 exact Kr (vl a8 k9 out_6) rfl (.tmp rfl .nil) [0] en
theorem fn161 (s : GSystem) (sa1 : Option Addr) (sk1 : Nat) (sa2 : Option Addr) (sk2 : Nat) (sa3 : Option Addr) (sk3 : Nat) (v : List GSet) (va0 : Option Addr) (vk0 : Nat) (hs_0 : i64ok s.Width) (rr : Int) (hrr : flqref10_values s v = rr) : FT Tryz.prog 161 #[.agg #[vi s.Width, vl sa1 sk1 s.Deps, vl sa2 sk2 s.Transfers, vl sa3 sk3 s.Boundary], vl va0 vk0 v] [S sa1 sk1 s.Deps, S sa2 sk2 s.Transfers, S sa3 sk3 s.Boundary, S va0 vk0 v] (fun g : Unit => i64ok rr) (fun g => vi rr) (fun g => []) := by
 refine FTi Tryz.func161 fun w0 M0 F0 => ?_
 unfold i64ok at hs_0
 refine Fb 24 0 fun hl1 => ?_
 refine Fb 88 1 fun hl2 => ?_
 refine Fb 32 2 fun hl3 => ?_
 refine Fb 32 3 fun hl4 => ?_
 refine KS ?_
 refine Oa (Ab [vi s.Width, vl sa1 sk1 s.Deps, vl sa2 sk2 s.Transfers, vl sa3 sk3 s.Boundary]) fun p5 => Oq Va (KS ?_)
 refine Oq Vm (Oq (Vlen sl25) (Oq (Vfa fo27_3 0) (Oq (VldF sh25 0) (Oq (Vlen sl25) (Oq Vneq (KS ?_))))))
 refine Kc ?_ ?_
 · intro h6
   have g7 := ne_of_bne h6
   refine KS ?_
   refine Oq Va (KS ?_)
   have hq := q4 hrr 1 (by simp only [flqref10_values, h6, cs4]); subst hq
   exact Kr () rfl (.tmp rfl .nil) [] en
 intro h6
 have g8 := eq_of_bne_false h6
 refine KS ?_
 refine Oq Va (KS ?_)
 refine Kl (γ := Nat × Int) (fun (r9, i_10) => ⟨[(1, vl va0 vk0 v), (2, p5), (5, vi i_10)], [pv p5 [vi s.Width, vl sa1 sk1 s.Deps, vl sa2 sk2 s.Transfers, vl sa3 sk3 s.Boundary], S sa1 sk1 s.Deps, S sa2 sk2 s.Transfers, S sa3 sk3 s.Boundary, S va0 vk0 v], flqref10_values_L0 v r9 i_10 = flqref10_values_L0 v (((v.length : Int) - 0).toNat) 0 ∧ r9 = ((v.length : Int) - i_10).toNat ∧ (0 : Int) ≤ i_10 ∧ i_10 ≤ (v.length : Int) ∧ (-9223372036854775808 ≤ i_10 ∧ i_10 ≤ 9223372036854775807), r9⟩) (((v.length : Int) - 0).toNat, 0) [0, 1, 2, 3, 4] ⟨rfl, rfl, (by omega), (by omega), (by omega)⟩ ?_
 rintro ⟨r9, i_10⟩ ⟨hM11, hr12, hi13, hi14, hk15⟩
 refine JJ_nx fun _ _ hL hA => ?_; dsimp only at hL hA; subst hL hA
 refine Fb 24 1 fun hl16 => ?_
 refine Fb 88 2 fun hl17 => ?_
 refine Fb 32 3 fun hl18 => ?_
 refine Fb 32 4 fun hl19 => ?_
 refine KS ?_
 refine Oq Vm (Oq Vm (Oq (Vlen sl25) (Oq Vlss (KS ?_))))
 refine Kc ?_ ?_
 · intro h20
   have g21 := of_decide_eq_true h20
   obtain ⟨r22, rfl⟩ := scc (n := r9) (by omega)
   refine KS ?_
   refine Oq Vm (Oq Vm (Oq (Vi sl25 4) ?_))
   refine JJ_peek_GSet i_10.toNat 4 rfl rng fun a23 k24 hb25 => ?_
   unfold i64ok at hb25
   refine Fb 8 1 fun hl26 => ?_
   refine Oq (VldA sh42 0) ?_
   refine letv (flqref1_Valid (v.getD i_10.toNat default)) fun rv27 hg28 => ?_
   have hc29 := fn91 ((v.getD i_10.toNat default)) a23 k24 pre rv27 hg28
   refine Oc [1] ca91 hc29 ?_
   rintro - -
   refine Oq Vnot (KS ?_)
   refine Kc ?_ ?_
   · intro h30
     have h32 := not_true h30
     refine KS ?_
     refine Oq Va (KS ?_)
     have hR34 := q2 hM11 (.ret 1) (by simp only [flqref10_values_L0, h6, h20, h30, h32, hg28, cs4])
     have hq := q4 hrr 1 (by simp only [flqref10_values, h6, h20, h30, h32, hg28, hR34, cs4]); subst hq
     exact Kr () rfl (.tmp rfl .nil) [] en
   intro h30
   have h36 := not_false h30
   refine KS ?_
   refine Oq Vm (Oq Vadd (Oq Va (KS ?_)))
   exact Kg (r22, (i_10 + 1)) [2, 3, 4, 5, 6] ⟨(q3 hM11 (by simp only [flqref10_values_L0, h6, h20, h30, h36, hg28, cs4])), (by omega), (by omega), (by omega), (by omega)⟩
 intro h20
 have g38 := of_decide_eq_false h20
 obtain rfl : r9 = 0 := by omega
 refine Ke ?_
 have hR39 := q2 hM11 (.brk ()) (by simp only [flqref10_values_L0, h6, h20, cs4])
 refine KS ?_
 refine Oq Va (KS ?_)
 refine Kl (γ := Nat × Int) (fun (r40, i_41) => ⟨[(1, vl va0 vk0 v), (2, p5), (6, vi i_41)], [pv p5 [vi s.Width, vl sa1 sk1 s.Deps, vl sa2 sk2 s.Transfers, vl sa3 sk3 s.Boundary], S sa1 sk1 s.Deps, S sa2 sk2 s.Transfers, S sa3 sk3 s.Boundary, S va0 vk0 v], flqref10_values_L1 s v r40 i_41 = flqref10_values_L1 s v (((v.length : Int) - 0).toNat) 0 ∧ r40 = ((v.length : Int) - i_41).toNat ∧ (0 : Int) ≤ i_41 ∧ i_41 ≤ (v.length : Int) ∧ (-9223372036854775808 ≤ i_41 ∧ i_41 ≤ 9223372036854775807), r40⟩) (((v.length : Int) - 0).toNat, 0) [0, 1, 2, 3, 4] ⟨rfl, rfl, (by omega), (by omega), (by omega)⟩ ?_
 rintro ⟨r40, i_41⟩ ⟨hM42, hr43, hi44, hi45, hk46⟩
 refine JJ_nx fun _ _ hL hA => ?_; dsimp only at hL hA; subst hL hA
 refine Fb 24 1 fun hl47 => ?_
 refine Fb 88 2 fun hl48 => ?_
 refine Fb 32 3 fun hl49 => ?_
 refine Fb 32 4 fun hl50 => ?_
 refine KS ?_
 refine Oq Vm (Oq Vm (Oq (Vlen sl25) (Oq Vlss (KS ?_))))
 refine Kc ?_ ?_
 · intro h51
   have g52 := of_decide_eq_true h51
   obtain ⟨r53, rfl⟩ := scc (n := r40) (by omega)
   refine KS ?_
   refine JJ_peek_GSet i_41.toNat 4 rfl rng fun a54 k55 hb56 => ?_
   unfold i64ok at hb56
   refine Fb 8 1 fun hl57 => ?_
   refine Kq [0, 0, 3, 7, 15, 0, 32, 127] fmix ?_
   refine Qv [] Vm (Qv [] Vm (Qv [6] (Vi sl25 0) (Qv [0] (Vfa fo42_0 0) (Qv [0] (VldF sh3 0) (Qv [2] (Vfa fo27_0 0) (Qv [2] (VldF sh3 0) (Qv [] Vneq ?_)))))))
   refine Qn ⟨by kernel_rfl, ?_⟩
   refine Kc ?_ ?_
   · intro h58
     have g59 := ne_of_bne h58
     refine KS ?_
     refine Oq Va (KS ?_)
     have hR60 := q2 hM42 (.ret 2) (by simp only [flqref10_values_L1, h6, h20, h51, h58, hR39, cs4])
     have hq := q4 hrr 2 (by simp only [flqref10_values, h6, h20, h51, h58, hR39, hR60, cs4]); subst hq
     exact Kr () rfl (.tmp rfl .nil) [] en
   intro h58
   have g61 := eq_of_bne_false h58
   refine KS ?_
   refine Oq Vm (Oq Vadd (Oq Va (KS ?_)))
   exact Kg (r53, (i_41 + 1)) [2, 3, 4, 5, 6] ⟨(q3 hM42 (by simp only [flqref10_values_L1, h6, h20, h51, h58, hR39, cs4])), (by omega), (by omega), (by omega), (by omega)⟩
 intro h51
 have g62 := of_decide_eq_false h51
 obtain rfl : r40 = 0 := by omega
 refine Ke ?_
 have hR63 := q2 hM42 (.brk ()) (by simp only [flqref10_values_L1, h6, h20, h51, hR39, cs4])
 refine KS ?_
 refine Oq Va (KS ?_)
 have hq := q4 hrr 0 (by simp only [flqref10_values, h6, h20, h51, hR39, hR63, cs4]); subst hq
 exact Kr () rfl (.tmp rfl .nil) [] en
theorem fn31 (s : GSet) (sa1 : Option Addr) (sk1 : Nat) (b : Int) (hs_0 : i64ok s.Width) (hb_0 : i64ok b) (rr : Bool) (hrr : flqref1_Has s b = rr) : FT Tryz.prog 31 #[.agg #[vi s.Width, vl sa1 sk1 s.Words], vi b] [S sa1 sk1 s.Words] (fun g : Unit => True) (fun g => vb rr) (fun g => []) := by
 refine FTi Tryz.func31 fun w0 M0 F0 => ?_
 unfold i64ok at hs_0 hb_0
 refine Fb 8 0 fun hl1 => ?_
 refine KS ?_
 refine Oa (Ab [vi s.Width, vl sa1 sk1 s.Words]) fun p2 => Oq Va (KS ?_)
 refine Oq (VldA sh42 0) ?_
 refine letv (flqref1_Valid s) fun rv3 hg4 => ?_
 have hc5 := fn91 s sa1 sk1 pre rv3 hg4
 refine Oc [1] ca91 hc5 ?_
 rintro - -
 refine Oq Vm ?_
 refine Js 7 ?_ ?_
 · intro h6
   try have hrg := RV_w (s := s) (by simp only [h6, hg4])
   refine Oq Vm (Oq Vgeq (Oq Vpt (Oq Vm ?_)))
   refine Js 11 ?_ ?_
   · intro h8
     have g9 := of_decide_eq_true h8
     refine Oq Vm (Oq (Vfa fo42_0 0) (Oq (VldF sh3 0) (Oq Vlss (Oq Vpt (Oq Vm ?_)))))
     refine Js 17 ?_ ?_
     · intro h10
       have g11 := of_decide_eq_true h10
       refine Oq (Vfa fo42_1 0) (Oq (VldF sh40 0) (Oq Vm (Oq Vquo (Oq (Vi sl40 1) (Oq (VldU sh122 1) (Oq Vm (Oq Vrem (Oq (VcU un3 un123) (Oq VshrU ?_)))))))))
       refine Oq (VandU (b := 1#64)) (Oq (VeqlU (b := 1#64)) (Oq Vpt (Oq Va (KS ?_))))
       have hq := q4 hrr ((((s.Words.getD ((b / 64) : Int).toNat 0#64) >>> (((BitVec.ofInt 64 (b % 64)).toNat : Int)).toNat) &&& 1#64) == 1#64) (by simp only [flqref1_Has, h6, h8, h10, hg4, cs4]); subst hq
       exact Kr () rfl (.tmp rfl .nil) [] trivial
     intro h10
     have g12 := of_decide_eq_false h10
     refine Osk (Osk (Osk (Osk (Osk (Osk (Osk (Osk (Osk (Osk ?_)))))))))
     refine Osk (Osk (Oq Vpf (Oq Va (KS ?_))))
     have hq := q4 hrr false (by simp only [flqref1_Has, h6, h8, h10, hg4, cs4]); subst hq
     exact Kr () rfl (.tmp rfl .nil) [] trivial
   intro h8
   have g13 := of_decide_eq_false h8
   refine Osk (Osk (Osk (Osk (Oq Vpf (Oq Vm (Osk (Osk (Osk (Osk ?_)))))))))
   refine Osk (Osk (Osk (Osk (Osk (Osk (Osk (Osk (Oq Vpf (Oq Va ?_)))))))))
   refine KS ?_
   have hq := q4 hrr false (by simp only [flqref1_Has, h6, h8, hg4, cs4]); subst hq
   exact Kr () rfl (.tmp rfl .nil) [] trivial
 intro h6
 refine Osk (Osk (Oq Vpf (Oq Vm (Osk (Osk (Osk (Osk (Oq Vpf (Oq Vm ?_)))))))))
 refine Osk (Osk (Osk (Osk (Osk (Osk (Osk (Osk (Osk (Osk ?_)))))))))
 refine Osk (Osk (Oq Vpf (Oq Va (KS ?_))))
 have hq := q4 hrr false (by simp only [flqref1_Has, h6, hg4, cs4]); subst hq
 exact Kr () rfl (.tmp rfl .nil) [] trivial
theorem fn153 (a : GSet) (aa1 : Option Addr) (ak1 : Nat) (b : GSet) (ba1 : Option Addr) (bk1 : Nat) (one : Bool) (two : Bool) (both : Bool) (ha_0 : i64ok a.Width) (hb_0 : i64ok b.Width) (rr : GSet × Int) (hrr : flqref1_mix a b one two both = rr) : FT Tryz.prog 153 #[.agg #[vi a.Width, vl aa1 ak1 a.Words], .agg #[vi b.Width, vl ba1 bk1 b.Words], vb one, vb two, vb both] [S aa1 ak1 a.Words, S ba1 bk1 b.Words] (fun g : Value => i64ok rr.1.Width ∧ i64ok rr.2) (fun g => .tuple #[.agg #[vi rr.1.Width, g], vi rr.2]) (fun g => [sl g rr.1.Words]) := by
 refine FTi Tryz.func153 fun w0 M0 F0 => ?_
 unfold i64ok at ha_0 hb_0
 refine Fb 8 0 fun hl1 => ?_
 refine Fb 8 1 fun hl2 => ?_
 refine KS ?_
 refine Oa (Ab [vi a.Width, vl aa1 ak1 a.Words]) fun p3 => Oa (Ab [vi b.Width, vl ba1 bk1 b.Words]) fun p4 => Oa (Al ze42 [vi 0, .slice none 0 0]) fun p5 => Oq Va (KS ?_)
 refine Oq (VldA sh42 2) ?_
 refine letv (flqref1_Valid a) fun rv6 hg7 => ?_
 have hc8 := fn91 a aa1 ak1 pre rv6 hg7
 refine Oc [3] ca91 hc8 ?_
 rintro - -
 refine Oq Vnot (Oq Vm ?_)
 refine Js 19 ?_ ?_
 · intro h9
   have h11 := not_true h9
   refine Osk (Osk (Osk (Oq Vpt (KS ?_))))
   refine Kt ?_
   refine KS ?_
   refine Oq (Vbd st42 [vi 0, .slice none 0 0]) (Ost (Scl [0] sh42 [vi 0, .slice none 0 0]) (Oq Va (KS ?_)))
   refine Jl [] (Ent.slNil (α := BitVec 64)) ?_
   have hq := q4 hrr ((GSet.mk 0 []), 1) (by simp only [flqref1_mix, h9, h11, hg7, cs4]); subst hq
   exact Kr (.slice none 0 0) rfl (.cellN 1 rfl sh42 rfl (reads_Cl _ _) rfl (.tmp rfl .nil)) [0] en
 intro h9
 have h14 := not_false h9
 try have hrg := RV_w (s := a) (by simp only [h9, h14, hg7])
 refine Oq (VldA sh42 1) ?_
 refine letv (flqref1_Valid b) fun rv16 hg17 => ?_
 have hc18 := fn91 b ba1 bk1 pre rv16 hg17
 refine Oc [4] ca91 hc18 ?_
 rintro - -
 refine Oq Vnot (Oq Vpf (KS ?_))
 refine Kc ?_ ?_
 · intro h19
   have h21 := not_true h19
   refine KS ?_
   refine Oq (Vbd st42 [vi 0, .slice none 0 0]) (Ost (Scl [0] sh42 [vi 0, .slice none 0 0]) (Oq Va (KS ?_)))
   refine Jl [] (Ent.slNil (α := BitVec 64)) ?_
   have hq := q4 hrr ((GSet.mk 0 []), 1) (by simp only [flqref1_mix, h9, h14, h19, h21, hg7, hg17, cs4]); subst hq
   exact Kr (.slice none 0 0) rfl (.cellN 1 rfl sh42 rfl (reads_Cl _ _) rfl (.tmp rfl .nil)) [0] en
 intro h19
 have h24 := not_false h19
 try have hrg := RV_w (s := a) (by simp only [h9, h14, h19, h24, hg7, hg17])
 refine KS ?_
 refine Oq (Vfa fo42_0 2) (Oq (VldF sh3 2) (Oq (Vfa fo42_0 1) (Oq (VldF sh3 1) (Oq Vneq (KS ?_)))))
 refine Kc ?_ ?_
 · intro h26
   have g27 := ne_of_bne h26
   refine KS ?_
   refine Oq (Vbd st42 [vi 0, .slice none 0 0]) (Ost (Scl [0] sh42 [vi 0, .slice none 0 0]) (Oq Va (KS ?_)))
   refine Jl [] (Ent.slNil (α := BitVec 64)) ?_
   have hq := q4 hrr ((GSet.mk 0 []), 2) (by simp only [flqref1_mix, h9, h14, h19, h24, h26, hg7, hg17, cs4]); subst hq
   exact Kr (.slice none 0 0) rfl (.cellN 1 rfl sh42 rfl (reads_Cl _ _) rfl (.tmp rfl .nil)) [0] en
 intro h26
 have g28 := eq_of_bne_false h26
 refine KS ?_
 refine Oq (Vfa fo42_0 2) (Oq (VldF sh3 2) ?_)
 refine letv (flqref1_Empty a.Width) fun rv30 hg31 => ?_
 have hc32 := fn67 a.Width pre pre rv30 hg31
 refine Oc [] ca67 hc32 ?_
 rintro c29 ⟨he33, he34, he35⟩
 unfold i64ok at he33
 refine Jo 0 ?_; rintro a36 k37 rfl
 refine Fb 8 0 fun hl38 => ?_
 refine Oa (Al ze42 [vi 0, .slice none 0 0]) fun p39 => Ost (Scl [0] sh42 [vi rv30.Width, vl a36 k37 rv30.Words]) (KS ?_)
 refine Oq Va (KS ?_)
 refine Kl (γ := Nat × Int × List (BitVec 64) × Int × Option Addr × Nat) (fun (r40, s0_41, s1_42, k_43, a44, k45) => ⟨[(2, vb one), (3, vb two), (4, vb both), (5, p3), (6, p4), (10, p5), (12, p39), (13, vi k_43)], [O a44 k45 s1_42, Cl p39 [vi s0_41, vl a44 k45 s1_42], Cl p5 [vi 0, .slice none 0 0], pv p4 [vi b.Width, vl ba1 bk1 b.Words], pv p3 [vi a.Width, vl aa1 ak1 a.Words], S aa1 ak1 a.Words, S ba1 bk1 b.Words], flqref1_mix_L0 a b one two both r40 s0_41 s1_42 k_43 = flqref1_mix_L0 a b one two both (((a.Width : Int) - 0).toNat) rv30.Width rv30.Words 0 ∧ r40 = ((a.Width : Int) - k_43).toNat ∧ (0 : Int) ≤ k_43 ∧ (k_43 ≤ a.Width ∨ k_43 = 0) ∧ (-9223372036854775808 ≤ s0_41 ∧ s0_41 ≤ 9223372036854775807) ∧ (-9223372036854775808 ≤ k_43 ∧ k_43 ≤ 9223372036854775807) ∧ s0_41 = a.Width ∧ s1_42.length = ((a.Width + 63) / 64).toNat, r40⟩) (((a.Width : Int) - 0).toNat, rv30.Width, rv30.Words, 0, a36, k37) [1, 0, 0, 0, 1, 2, 3] ⟨rfl, rfl, (by omega), (.inr rfl), (by omega), (by omega), iv0, iv0⟩ ?_
 rintro ⟨r40, s0_41, s1_42, k_43, a44, k45⟩ ⟨hM46, hr47, hi48, hi49, hk50, hk51, hv52, hv53⟩
 refine JJ_nx fun _ _ hL hA => ?_; dsimp only at hL hA; subst hL hA
 refine Fb 8 0 fun hl54 => ?_
 refine Fb 8 5 fun hl55 => ?_
 refine Fb 8 6 fun hl56 => ?_
 refine KS ?_
 refine Oq Vm (Oq (Vfa fo42_0 4) (Oq (VldF sh3 4) (Oq Vlss (KS ?_))))
 refine Kc ?_ ?_
 · intro h57
   have g58 := of_decide_eq_true h57
   obtain ⟨r59, rfl⟩ := scc (n := r40) (by omega)
   refine KS ?_
   refine JK_drawK [0, 0, 3, 0, 0, 31, 63, 127] fmix ?_
   refine Dv [4] (VldA sh42 0) (Dv [] Vm ?_)
   refine letv (flqref1_Has a k_43) fun rv60 hg61 => ?_
   refine Dx [5] [] [1, 0] (fun G => vb rv60) [fun G => SP.fact (True)] (fun G => xC [0] ca31 (fn31 a aa1 ak1 k_43 pre pre rv60 hg61)) (Dv [3] (VldA sh42 0) (Dv [] Vm ?_))
   refine letv (flqref1_Has b k_43) fun rv62 hg63 => ?_
   refine Dx [6] [] [1, 0] (fun G => vb rv62) [fun G => SP.fact (True)] (fun G => xC [0] ca31 (fn31 b ba1 bk1 k_43 pre pre rv62 hg63)) (Dv [] Va (Dv [] Va ?_))
   refine Dn ⟨by kernel_rfl, fun G => ?_⟩
   refine Jw2 [(2, vb one), (3, vb two), (4, vb both), (5, p3), (6, p4), (10, p5), (12, p39), (13, vi k_43), (14, vb rv60), (15, vb rv62)] [0, 1, 2, 3, 4, 5, 6] [SP.fact (True), SP.fact (True)] ?_
   refine Jk [0, 0, 0, 0, 1, 2, 3] ?_
   refine KS ?_
   refine Oq Vm (Oq Vm ?_)
   refine Js 47 ?_ ?_
   · intro h64
     try have hrg := RV_w (s := a) (by simp only [h9, h14, h19, h24, h26, h57, h64, hg7, hg17, hg31, hg61, hg63])
     refine Oq Vm (Oq Vpt (Oq Vm ?_))
     refine Js 50 ?_ ?_
     · intro h66
       try have hrg := RV_w (s := a) (by simp only [h9, h14, h19, h24, h26, h57, h64, h66, hg7, hg17, hg31, hg61, hg63])
       refine Oq Vm (Oq Vpt (Oq Vm ?_))
       refine Js 53 ?_ ?_
       · intro h68
         refine Osk (Osk (Osk (Osk (Osk (Osk (Osk (Osk (Oq Vpt (Oq Vm ?_)))))))))
         refine Osk (Osk (Osk (Osk (Osk (Osk (Osk (Osk (Oq Vpt (KS ?_)))))))))
         refine Kt ?_
         refine KS ?_
         refine Oq (VldA sh42 1) (Oq Vm ?_)
         refine letv (flqref1_Put (GSet.mk s0_41 s1_42) k_43) fun rv71 hg72 => ?_
         refine Oc [0] ca79 (FT_borrow (A := _) hlx (FT_ent (Ent.take (is := [0]) rfl) (fn79 ((GSet.mk s0_41 s1_42)) a44 k45 k_43 pre pre pre pre rv71 hg72))) ?_ (ht := rfl)
         rintro c70 ⟨he73, he74, he75⟩
         unfold i64ok at he73
         have he74 : (rv71.Width = s0_41) := he74
         have he75 : (rv71.Words.length = ((s0_41 + 63) / 64).toNat) := he75
         refine Jo 1 ?_; rintro a76 k77 rfl
         refine Fb 8 1 fun hl78 => ?_
         refine Ost (Scl [2] sh42 [vi rv71.Width, vl a76 k77 rv71.Words]) (KS ?_)
         refine Oq Vm (Oq Vadd (Oq Va (KS ?_)))
         exact Kg (r59, rv71.Width, rv71.Words, (k_43 + 1), a76, k77) [2, 0, 1, 1, 2, 3, 4] ⟨(q3 hM46 (by simp only [flqref1_mix_L0, h9, h14, h19, h24, h26, h57, h64, h66, h68, hg7, hg17, hg31, hg61, hg63, hg72, cs4])), (by omega), (by omega), (by omega), (by omega), (by omega), iv1, iv1⟩
       intro h68
       refine Oq Vm (Oq Vm ?_)
       refine Js 55 ?_ ?_
       · intro h80
         try have hrg := RV_w (s := a) (by simp only [h9, h14, h19, h24, h26, h57, h64, h66, h68, h80, hg7, hg17, hg31, hg61, hg63])
         refine Oq Vm (Oq Vnot (Oq Vpt (Oq Vm ?_)))
         refine Js 59 ?_ ?_
         · intro h82
           exact absurd h82 (by simp [h66])
         intro h82
         have h84 := not_false h82
         try have hrg := RV_w (s := a) (by simp only [h9, h14, h19, h24, h26, h57, h64, h66, h68, h80, h82, h84, hg7, hg17, hg31, hg61, hg63])
         refine Osk (Oq Vpf (Oq Vpf (Oq Vm (Oq Vm (Oq Vnot (Oq Vm ?_))))))
         refine Js 66 ?_ ?_
         · intro h86
           exact absurd h86 (by simp [h80])
         intro h86
         have h88 := not_false h86
         try have hrg := RV_w (s := a) (by simp only [h9, h14, h19, h24, h26, h57, h64, h66, h68, h80, h82, h84, h86, h88, hg7, hg17, hg31, hg61, hg63])
         refine Osk (Oq Vpf (Oq Vm (Osk (Oq Vpf (Oq Vpf (KS ?_))))))
         refine Kf ?_
         refine KS ?_
         refine Oq Vm (Oq Vadd (Oq Va (KS ?_)))
         exact Kg (r59, s0_41, s1_42, (k_43 + 1), a44, k45) [0, 0, 0, 0, 1, 2, 3] ⟨(q3 hM46 (by simp only [flqref1_mix_L0, h9, h14, h19, h24, h26, h57, h64, h66, h68, h80, h82, h84, h86, h88, hg7, hg17, hg31, hg61, hg63, cs4])), (by omega), (by omega), (by omega), (by omega), (by omega), iv1, iv1⟩
       intro h80
       exact absurd h80 (by simp [h64])
     intro h66
     refine Osk (Oq Vpf (Oq Vm (Oq Vm (Oq Vm ?_))))
     refine Js 55 ?_ ?_
     · intro h91
       try have hrg := RV_w (s := a) (by simp only [h9, h14, h19, h24, h26, h57, h64, h66, h91, hg7, hg17, hg31, hg61, hg63])
       refine Oq Vm (Oq Vnot (Oq Vpt (Oq Vm ?_)))
       refine Js 59 ?_ ?_
       · intro h93
         have h95 := not_true h93
         refine Oq Vm (Oq Vpt (Oq Vpf (Oq Vm ?_)))
         refine Js 63 ?_ ?_
         · intro h97
           refine Osk (Osk (Osk (Osk (Osk (Osk (Osk (Osk (Oq Vpt (KS ?_)))))))))
           refine Kt ?_
           refine KS ?_
           refine Oq (VldA sh42 1) (Oq Vm ?_)
           refine letv (flqref1_Put (GSet.mk s0_41 s1_42) k_43) fun rv100 hg101 => ?_
           refine Oc [0] ca79 (FT_borrow (A := _) hlx (FT_ent (Ent.take (is := [0]) rfl) (fn79 ((GSet.mk s0_41 s1_42)) a44 k45 k_43 pre pre pre pre rv100 hg101))) ?_ (ht := rfl)
           rintro c99 ⟨he102, he103, he104⟩
           unfold i64ok at he102
           have he103 : (rv100.Width = s0_41) := he103
           have he104 : (rv100.Words.length = ((s0_41 + 63) / 64).toNat) := he104
           refine Jo 1 ?_; rintro a105 k106 rfl
           refine Fb 8 1 fun hl107 => ?_
           refine Ost (Scl [2] sh42 [vi rv100.Width, vl a105 k106 rv100.Words]) (KS ?_)
           refine Oq Vm (Oq Vadd (Oq Va (KS ?_)))
           exact Kg (r59, rv100.Width, rv100.Words, (k_43 + 1), a105, k106) [2, 0, 1, 1, 2, 3, 4] ⟨(q3 hM46 (by simp only [flqref1_mix_L0, h9, h14, h19, h24, h26, h57, h64, h66, h91, h93, h95, h97, hg7, hg17, hg31, hg61, hg63, hg101, cs4])), (by omega), (by omega), (by omega), (by omega), (by omega), iv1, iv1⟩
         intro h97
         refine Oq Vm (Oq Vnot (Oq Vm ?_))
         refine Js 66 ?_ ?_
         · intro h109
           exact absurd h109 (by simp [h91])
         intro h109
         have h111 := not_false h109
         try have hrg := RV_w (s := a) (by simp only [h9, h14, h19, h24, h26, h57, h64, h66, h91, h93, h95, h97, h109, h111, hg7, hg17, hg31, hg61, hg63])
         refine Osk (Oq Vpf (Oq Vm (Osk (Oq Vpf (Oq Vpf (KS ?_))))))
         refine Kf ?_
         refine KS ?_
         refine Oq Vm (Oq Vadd (Oq Va (KS ?_)))
         exact Kg (r59, s0_41, s1_42, (k_43 + 1), a44, k45) [0, 0, 0, 0, 1, 2, 3] ⟨(q3 hM46 (by simp only [flqref1_mix_L0, h9, h14, h19, h24, h26, h57, h64, h66, h91, h93, h95, h97, h109, h111, hg7, hg17, hg31, hg61, hg63, cs4])), (by omega), (by omega), (by omega), (by omega), (by omega), iv1, iv1⟩
       intro h93
       exact absurd h93 (by simp [h66])
     intro h91
     exact absurd h91 (by simp [h64])
   intro h64
   refine Osk (Oq Vpf (Oq Vm (Osk (Oq Vpf (Oq Vm (Oq Vm (Oq Vm ?_)))))))
   refine Js 55 ?_ ?_
   · intro h114
     exact absurd h114 (by simp [h64])
   intro h114
   refine Osk (Osk (Oq Vpf (Oq Vm (Osk (Oq Vpf (Oq Vpf (Oq Vm (Oq Vm (Oq Vnot ?_)))))))))
   refine Oq Vm ?_
   refine Js 66 ?_ ?_
   · intro h116
     have h118 := not_true h116
     refine Oq Vm (Oq Vpt (Oq Vm ?_))
     refine Js 69 ?_ ?_
     · intro h120
       try have hrg := RV_w (s := a) (by simp only [h9, h14, h19, h24, h26, h57, h64, h114, h116, h118, h120, hg7, hg17, hg31, hg61, hg63])
       refine Oq Vm (Oq Vpt (Oq Vpf (KS ?_)))
       refine Kc ?_ ?_
       · intro h122
         refine KS ?_
         refine Oq (VldA sh42 1) (Oq Vm ?_)
         refine letv (flqref1_Put (GSet.mk s0_41 s1_42) k_43) fun rv125 hg126 => ?_
         refine Oc [0] ca79 (FT_borrow (A := _) hlx (FT_ent (Ent.take (is := [0]) rfl) (fn79 ((GSet.mk s0_41 s1_42)) a44 k45 k_43 pre pre pre pre rv125 hg126))) ?_ (ht := rfl)
         rintro c124 ⟨he127, he128, he129⟩
         unfold i64ok at he127
         have he128 : (rv125.Width = s0_41) := he128
         have he129 : (rv125.Words.length = ((s0_41 + 63) / 64).toNat) := he129
         refine Jo 1 ?_; rintro a130 k131 rfl
         refine Fb 8 1 fun hl132 => ?_
         refine Ost (Scl [2] sh42 [vi rv125.Width, vl a130 k131 rv125.Words]) (KS ?_)
         refine Oq Vm (Oq Vadd (Oq Va (KS ?_)))
         exact Kg (r59, rv125.Width, rv125.Words, (k_43 + 1), a130, k131) [2, 0, 1, 1, 2, 3, 4] ⟨(q3 hM46 (by simp only [flqref1_mix_L0, h9, h14, h19, h24, h26, h57, h64, h114, h116, h118, h120, h122, hg7, hg17, hg31, hg61, hg63, hg126, cs4])), (by omega), (by omega), (by omega), (by omega), (by omega), iv1, iv1⟩
       intro h122
       refine KS ?_
       refine Oq Vm (Oq Vadd (Oq Va (KS ?_)))
       exact Kg (r59, s0_41, s1_42, (k_43 + 1), a44, k45) [0, 0, 0, 0, 1, 2, 3] ⟨(q3 hM46 (by simp only [flqref1_mix_L0, h9, h14, h19, h24, h26, h57, h64, h114, h116, h118, h120, h122, hg7, hg17, hg31, hg61, hg63, cs4])), (by omega), (by omega), (by omega), (by omega), (by omega), iv1, iv1⟩
     intro h120
     refine Osk (Oq Vpf (Oq Vpf (KS ?_)))
     refine Kf ?_
     refine KS ?_
     refine Oq Vm (Oq Vadd (Oq Va (KS ?_)))
     exact Kg (r59, s0_41, s1_42, (k_43 + 1), a44, k45) [0, 0, 0, 0, 1, 2, 3] ⟨(q3 hM46 (by simp only [flqref1_mix_L0, h9, h14, h19, h24, h26, h57, h64, h114, h116, h118, h120, hg7, hg17, hg31, hg61, hg63, cs4])), (by omega), (by omega), (by omega), (by omega), (by omega), iv1, iv1⟩
   intro h116
   exact absurd h116 (by simp [h114])
 intro h57
 have g135 := of_decide_eq_false h57
 obtain rfl : r40 = 0 := by omega
 refine Ke ?_
 have hR136 := q2 hM46 (s0_41, s1_42) (by simp only [flqref1_mix_L0, h9, h14, h19, h24, h26, h57, hg7, hg17, hg31, cs4])
 refine KS ?_
 refine Oq (VldA sh42 1) (Ost (Scl [2] sh42 [vi s0_41, vl a44 k45 s1_42]) (Oq Va (KS ?_)))
 refine Jl [1] (Ent.freeze _ _) ?_
 have hq := q4 hrr ((GSet.mk s0_41 s1_42), 0) (by simp only [flqref1_mix, h9, h14, h19, h24, h26, h57, hg7, hg17, hg31, hR136, cs4]); subst hq
 exact Kr (vl a44 k45 s1_42) rfl (.cellN 1 rfl sh42 rfl (reads_Cl _ _) rfl (.tmp rfl .nil)) [0] en
theorem fn78 (a : GSet) (aa1 : Option Addr) (ak1 : Nat) (b : GSet) (ba1 : Option Addr) (bk1 : Nat) (ha_0 : i64ok a.Width) (hb_0 : i64ok b.Width) (rr : GSet × Int) (hrr : flqref1_Union a b = rr) : FT Tryz.prog 78 #[.agg #[vi a.Width, vl aa1 ak1 a.Words], .agg #[vi b.Width, vl ba1 bk1 b.Words]] [S aa1 ak1 a.Words, S ba1 bk1 b.Words] (fun g : Value => i64ok rr.1.Width ∧ i64ok rr.2) (fun g => .tuple #[.agg #[vi rr.1.Width, g], vi rr.2]) (fun g => [sl g rr.1.Words]) := by
 refine FTi Tryz.func78 fun w0 M0 F0 => ?_
 unfold i64ok at ha_0 hb_0
 refine Fb 8 0 fun hl1 => ?_
 refine Fb 8 1 fun hl2 => ?_
 refine KS ?_
 refine Oa (Ab [vi a.Width, vl aa1 ak1 a.Words]) fun p3 => Oa (Ab [vi b.Width, vl ba1 bk1 b.Words]) fun p4 => Oa (Al ze42 [vi 0, .slice none 0 0]) fun p5 => Oq Va (KS ?_)
 refine Oq (VldA sh42 2) (Oq (VldA sh42 1) ?_)
 refine letv (flqref1_mix a b true true true) fun rv7 hg8 => ?_
 have hc9 := fn153 a aa1 ak1 b ba1 bk1 true true true pre pre rv7 hg8
 refine Oc [3, 4] ca153 hc9 ?_
 rintro c6 ⟨he10, he11⟩
 unfold i64ok at he10 he11
 refine Jo 0 ?_; rintro a12 k13 rfl
 refine Fb 8 0 fun hl14 => ?_
 refine Oq Vx (Oq Vx (Ost (Scl [1] sh42 [vi rv7.1.Width, vl a12 k13 rv7.1.Words]) (Oq Va (KS ?_))))
 have hq := q4 hrr (rv7.1, rv7.2) (by simp only [flqref1_Union, hg8, cs4]); subst hq
 exact Kr (vl a12 k13 rv7.1.Words) rfl (.cellN 0 rfl sh42 rfl (reads_Cl _ _) rfl (.tmp rfl .nil)) [1] en
theorem fn22 (a : GSet) (aa1 : Option Addr) (ak1 : Nat) (b : GSet) (ba1 : Option Addr) (bk1 : Nat) (ha_0 : i64ok a.Width) (hb_0 : i64ok b.Width) (rr : GSet) (hrr : flqref1_Join a b = rr) : FT Tryz.prog 22 #[.agg #[vi a.Width, vl aa1 ak1 a.Words], .agg #[vi b.Width, vl ba1 bk1 b.Words]] [S aa1 ak1 a.Words, S ba1 bk1 b.Words] (fun g : Value => i64ok rr.Width) (fun g => .agg #[vi rr.Width, g]) (fun g => [sl g rr.Words]) := by
 refine FTi Tryz.func22 fun w0 M0 F0 => ?_
 unfold i64ok at ha_0 hb_0
 refine Fb 8 0 fun hl1 => ?_
 refine Fb 8 1 fun hl2 => ?_
 refine KS ?_
 refine Oa (Ab [vi a.Width, vl aa1 ak1 a.Words]) fun p3 => Oa (Ab [vi b.Width, vl ba1 bk1 b.Words]) fun p4 => Oa (Al ze42 [vi 0, .slice none 0 0]) fun p5 => KS ?_
 refine Oq (VldA sh42 2) (Oq (VldA sh42 1) ?_)
 refine letv (flqref1_Union a b) fun rv7 hg8 => ?_
 have hc9 := fn78 a aa1 ak1 b ba1 bk1 pre pre rv7 hg8
 refine Oc [3, 4] ca78 hc9 ?_
 rintro c6 ⟨he10, he11⟩
 unfold i64ok at he10 he11
 refine Jo 0 ?_; rintro a12 k13 rfl
 refine Fb 8 0 fun hl14 => ?_
 refine Oq Vm (Oq Vx (Oq Vx (Oa (Al ze42 [vi 0, .slice none 0 0]) fun p15 => Ost (Scl [0] sh42 [vi rv7.1.Width, vl a12 k13 rv7.1.Words]) (Oq Va (KS ?_)))))
 refine Oq (VldA sh42 0) (Ost (Scl [2] sh42 [vi rv7.1.Width, vl a12 k13 rv7.1.Words]) (KS ?_))
 have hq := q4 hrr rv7.1 (by simp only [flqref1_Join, hg8, cs4]); subst hq
 exact Kr (vl a12 k13 rv7.1.Words) rfl (.cellN 0 rfl sh42 rfl (reads_Cl _ _) rfl .nil) [2] en
theorem fn209 (t : GTransfer) (ta1 : Option Addr) (tk1 : Nat) (ta3 : Option Addr) (tk3 : Nat) (ta4 : Option Addr) (tk4 : Nat) (a : Int) (b : Int) (ht_0 : i64ok t.Gen.Width) (ht_2 : i64ok t.Kill.Width) (ha_0 : i64ok a) (hb_0 : i64ok b) (rr : Bool) (hrr : flqref1_follows t a b = rr) : FT Tryz.prog 209 #[.agg #[vi t.Gen.Width, vl ta1 tk1 t.Gen.Words, vi t.Kill.Width, vl ta3 tk3 t.Kill.Words, vl ta4 tk4 t.Copies], vi a, vi b] [S ta1 tk1 t.Gen.Words, S ta3 tk3 t.Kill.Words, S ta4 tk4 t.Copies] (fun g : Unit => True) (fun g => vb rr) (fun g => []) := by
 refine FTi Tryz.func209 fun w0 M0 F0 => ?_
 unfold i64ok at ht_0 ht_2 ha_0 hb_0
 refine Fb 8 0 fun hl1 => ?_
 refine Fb 8 1 fun hl2 => ?_
 refine Fb 16 2 fun hl3 => ?_
 refine KS ?_
 refine Oa (Ab [vi t.Gen.Width, vl ta1 tk1 t.Gen.Words, vi t.Kill.Width, vl ta3 tk3 t.Kill.Words, vl ta4 tk4 t.Copies]) fun p4 => Oq Va (KS ?_)
 refine Oq Vm (Oq Vm (Oq Veql (Oq Vm ?_)))
 refine Js 11 ?_ ?_
 · intro h5
   have g6 := eq_of_beq h5
   refine Oq (Vfa fo98_1 0) (Oq (VldG sh42 0 [vi t.Kill.Width, vl ta3 tk3 t.Kill.Words]) (Oq Vm ?_))
   refine letv (flqref1_Has t.Kill a) fun rv7 hg8 => ?_
   have hc9 := fn31 t.Kill ta3 tk3 a pre pre rv7 hg8
   refine Oc [2] ca31 hc9 ?_
   rintro - -
   refine Oq Vnot (Oq Vpt (KS ?_))
   refine Kc ?_ ?_
   · intro h10
     have h12 := not_true h10
     refine KS ?_
     refine Oq Va (KS ?_)
     have hq := q4 hrr true (by simp only [flqref1_follows, h5, h10, h12, hg8, cs4]); subst hq
     exact Kr () rfl (.tmp rfl .nil) [] trivial
   intro h10
   have h15 := not_false h10
   refine KS ?_
   refine Oq Va (KS ?_)
   refine Kl (γ := Nat × Int) (fun (r17, i_18) => ⟨[(1, vi a), (2, vi b), (3, p4), (7, vi i_18)], [pv p4 [vi t.Gen.Width, vl ta1 tk1 t.Gen.Words, vi t.Kill.Width, vl ta3 tk3 t.Kill.Words, vl ta4 tk4 t.Copies], S ta1 tk1 t.Gen.Words, S ta3 tk3 t.Kill.Words, S ta4 tk4 t.Copies], flqref1_follows_L0 t a b r17 i_18 = flqref1_follows_L0 t a b (((t.Copies.length : Int) - 0).toNat) 0 ∧ r17 = ((t.Copies.length : Int) - i_18).toNat ∧ (0 : Int) ≤ i_18 ∧ i_18 ≤ (t.Copies.length : Int) ∧ (-9223372036854775808 ≤ i_18 ∧ i_18 ≤ 9223372036854775807), r17⟩) (((t.Copies.length : Int) - 0).toNat, 0) [0, 1, 2, 3] ⟨rfl, rfl, (by omega), (by omega), (by omega)⟩ ?_
   rintro ⟨r17, i_18⟩ ⟨hM19, hr20, hi21, hi22, hk23⟩
   refine JJ_nx fun _ _ hL hA => ?_; dsimp only at hL hA; subst hL hA
   refine Fb 8 1 fun hl24 => ?_
   refine Fb 8 2 fun hl25 => ?_
   refine Fb 16 3 fun hl26 => ?_
   refine KS ?_
   refine Oq Vm (Oq (Vfa fo98_2 0) (Oq (VldF sh96 0) (Oq (Vlen sl96) (Oq Vlss (KS ?_)))))
   refine Kc ?_ ?_
   · intro h27
     have g28 := of_decide_eq_true h27
     obtain ⟨r29, rfl⟩ := scc (n := r17) (by omega)
     refine KS ?_
     refine Oq (Vfa fo98_2 0) (Oq (VldF sh96 0) (Oq Vm (Oq (Vi sl96 3) ?_)))
     refine JJ_peek_GCopy i_18.toNat 3 rfl rng fun hb30 hb31 => ?_
     unfold i64ok at hb30 hb31
     refine Oq (Vfa fo147_0 0) (Oq (VldF sh3 0) (Oq Vm (Oq Veql (Oq Vm ?_))))
     refine Js 33 ?_ ?_
     · intro h32
       have g33 := eq_of_beq h32
       refine Oq (Vfa fo98_2 1) (Oq (VldF sh96 1) (Oq Vm (Oq (Vi sl96 4) (Oq (Vfa fo147_1 0) (Oq (VldF sh3 0) (Oq Vm (Oq Veql (Oq Vpt (KS ?_)))))))))
       refine Kc ?_ ?_
       · intro h34
         have g35 := eq_of_beq h34
         refine KS ?_
         refine Oq Va (KS ?_)
         have hR36 := q2 hM19 (.ret true) (by simp only [flqref1_follows_L0, h5, h10, h15, h27, h32, h34, hg8, cs4])
         have hq := q4 hrr true (by simp only [flqref1_follows, h5, h10, h15, h27, h32, h34, hg8, hR36, cs4]); subst hq
         exact Kr () rfl (.tmp rfl .nil) [] trivial
       intro h34
       have g37 := ne_of_beq_false h34
       refine KS ?_
       refine Oq Vm (Oq Vadd (Oq Va (KS ?_)))
       exact Kg (r29, (i_18 + 1)) [1, 2, 3, 4] ⟨(q3 hM19 (by simp only [flqref1_follows_L0, h5, h10, h15, h27, h32, h34, hg8, cs4])), (by omega), (by omega), (by omega), (by omega)⟩
     intro h32
     have g38 := ne_of_beq_false h32
     refine Osk (Osk (Osk (Osk (Osk (Osk (Osk (Osk (Oq Vpf (KS ?_)))))))))
     refine Kf ?_
     refine KS ?_
     refine Oq Vm (Oq Vadd (Oq Va (KS ?_)))
     exact Kg (r29, (i_18 + 1)) [1, 2, 3, 4] ⟨(q3 hM19 (by simp only [flqref1_follows_L0, h5, h10, h15, h27, h32, hg8, cs4])), (by omega), (by omega), (by omega), (by omega)⟩
   intro h27
   have g39 := of_decide_eq_false h27
   obtain rfl : r17 = 0 := by omega
   refine Ke ?_
   have hR40 := q2 hM19 (.brk ()) (by simp only [flqref1_follows_L0, h5, h10, h15, h27, hg8, cs4])
   refine KS ?_
   refine Oq Va (KS ?_)
   have hq := q4 hrr false (by simp only [flqref1_follows, h5, h10, h15, h27, hg8, hR40, cs4]); subst hq
   exact Kr () rfl (.tmp rfl .nil) [] trivial
 intro h5
 have g41 := ne_of_beq_false h5
 refine Osk (Osk (Osk (Osk (Osk (Oq Vpf (KS ?_))))))
 refine Kf ?_
 refine KS ?_
 refine Oq Va (KS ?_)
 refine Kl (γ := Nat × Int) (fun (r42, i_43) => ⟨[(1, vi a), (2, vi b), (3, p4), (7, vi i_43)], [pv p4 [vi t.Gen.Width, vl ta1 tk1 t.Gen.Words, vi t.Kill.Width, vl ta3 tk3 t.Kill.Words, vl ta4 tk4 t.Copies], S ta1 tk1 t.Gen.Words, S ta3 tk3 t.Kill.Words, S ta4 tk4 t.Copies], flqref1_follows_L0 t a b r42 i_43 = flqref1_follows_L0 t a b (((t.Copies.length : Int) - 0).toNat) 0 ∧ r42 = ((t.Copies.length : Int) - i_43).toNat ∧ (0 : Int) ≤ i_43 ∧ i_43 ≤ (t.Copies.length : Int) ∧ (-9223372036854775808 ≤ i_43 ∧ i_43 ≤ 9223372036854775807), r42⟩) (((t.Copies.length : Int) - 0).toNat, 0) [0, 1, 2, 3] ⟨rfl, rfl, (by omega), (by omega), (by omega)⟩ ?_
 rintro ⟨r42, i_43⟩ ⟨hM44, hr45, hi46, hi47, hk48⟩
 refine JJ_nx fun _ _ hL hA => ?_; dsimp only at hL hA; subst hL hA
 refine Fb 8 1 fun hl49 => ?_
 refine Fb 8 2 fun hl50 => ?_
 refine Fb 16 3 fun hl51 => ?_
 refine KS ?_
 refine Oq Vm (Oq (Vfa fo98_2 0) (Oq (VldF sh96 0) (Oq (Vlen sl96) (Oq Vlss (KS ?_)))))
 refine Kc ?_ ?_
 · intro h52
   have g53 := of_decide_eq_true h52
   obtain ⟨r54, rfl⟩ := scc (n := r42) (by omega)
   refine KS ?_
   refine Oq (Vfa fo98_2 0) (Oq (VldF sh96 0) (Oq Vm (Oq (Vi sl96 3) ?_)))
   refine JJ_peek_GCopy i_43.toNat 3 rfl rng fun hb55 hb56 => ?_
   unfold i64ok at hb55 hb56
   refine Oq (Vfa fo147_0 0) (Oq (VldF sh3 0) (Oq Vm (Oq Veql (Oq Vm ?_))))
   refine Js 33 ?_ ?_
   · intro h57
     have g58 := eq_of_beq h57
     refine Oq (Vfa fo98_2 1) (Oq (VldF sh96 1) (Oq Vm (Oq (Vi sl96 4) (Oq (Vfa fo147_1 0) (Oq (VldF sh3 0) (Oq Vm (Oq Veql (Oq Vpt (KS ?_)))))))))
     refine Kc ?_ ?_
     · intro h59
       have g60 := eq_of_beq h59
       refine KS ?_
       refine Oq Va (KS ?_)
       have hR61 := q2 hM44 (.ret true) (by simp only [flqref1_follows_L0, h5, h52, h57, h59, cs4])
       have hq := q4 hrr true (by simp only [flqref1_follows, h5, h52, h57, h59, hR61, cs4]); subst hq
       exact Kr () rfl (.tmp rfl .nil) [] trivial
     intro h59
     have g62 := ne_of_beq_false h59
     refine KS ?_
     refine Oq Vm (Oq Vadd (Oq Va (KS ?_)))
     exact Kg (r54, (i_43 + 1)) [1, 2, 3, 4] ⟨(q3 hM44 (by simp only [flqref1_follows_L0, h5, h52, h57, h59, cs4])), (by omega), (by omega), (by omega), (by omega)⟩
   intro h57
   have g63 := ne_of_beq_false h57
   refine Osk (Osk (Osk (Osk (Osk (Osk (Osk (Osk (Oq Vpf (KS ?_)))))))))
   refine Kf ?_
   refine KS ?_
   refine Oq Vm (Oq Vadd (Oq Va (KS ?_)))
   exact Kg (r54, (i_43 + 1)) [1, 2, 3, 4] ⟨(q3 hM44 (by simp only [flqref1_follows_L0, h5, h52, h57, cs4])), (by omega), (by omega), (by omega), (by omega)⟩
 intro h52
 have g64 := of_decide_eq_false h52
 obtain rfl : r42 = 0 := by omega
 refine Ke ?_
 have hR65 := q2 hM44 (.brk ()) (by simp only [flqref1_follows_L0, h5, h52, cs4])
 refine KS ?_
 refine Oq Va (KS ?_)
 have hq := q4 hrr false (by simp only [flqref1_follows, h5, h52, hR65, cs4]); subst hq
 exact Kr () rfl (.tmp rfl .nil) [] trivial
end Go.SL.G
