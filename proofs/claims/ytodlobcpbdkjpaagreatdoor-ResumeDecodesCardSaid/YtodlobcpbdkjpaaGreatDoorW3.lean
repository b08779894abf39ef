/- Part 3 of the walks: mirrors, plain laws and walks used by the last text of this claim. -/
import Derived.Test.YtodlobcpbdkjpaaGreatDoorW2
import Derived.Test.YtodlobcpbdkjpaaGreatDoorProg
set_option linter.unusedVariables false
set_option linter.unusedSimpArgs false
namespace Go.SL.G
open Go Go.SL Go.Proofs
set_option maxHeartbeats 20000000
set_option maxRecDepth 100000
theorem IdxS_L0 (s : List GSet) (fp : GSet → Bool) : ∀ (r k : Nat), k + r = s.length → (sc_IndexFunc_Set_L0 s fp r (k : Int) = .brk () ∧ ∀ x ∈ s.drop k, fp x = false) ∨ (∃ i : Nat, sc_IndexFunc_Set_L0 s fp r (k : Int) = .ret (i : Int) ∧ ∃ x ∈ s.drop k, fp x = true)
 | 0, k, h => .inl ⟨by rw [sc_IndexFunc_Set_L0], fun x hx => by rw [List.drop_of_length_le (by omega)] at hx; cases hx⟩
 | r + 1, k, h => by
  have hi : k < s.length := by omega
  have hd : s.drop k = s.getD k default :: s.drop (k + 1) := by
   rw [List.drop_eq_getElem_cons hi]; simp [List.getD, hi]
  rw [sc_IndexFunc_Set_L0, show ((k : Int)).toNat = k by omega, show ((k : Int) + 1) = ((k + 1 : Nat) : Int) by omega, hd]
  cases c : fp (s.getD k default)
  ·rw [cond_false]
   rcases IdxS_L0 s fp r (k + 1) (by omega) with ⟨h1, h2⟩ | ⟨i, h1, x, h2, h3⟩
   ·exact .inl ⟨h1, fun x hx => by rcases List.mem_cons.1 hx with e | e; rw [e]; exact c; exact h2 x e⟩
   ·exact .inr ⟨i, h1, x, List.mem_cons_of_mem _ h2, h3⟩
  ·rw [cond_true]
   exact .inr ⟨k, rfl, _, List.mem_cons_self, c⟩
theorem CF_set (s : List GSet) (fp : GSet → Bool) : sc_ContainsFunc_Set s fp = s.any fp := by
 unfold sc_ContainsFunc_Set sc_IndexFunc_Set
 rw [show (((((s.length : Nat) : Int) : Int) - 0).toNat) = s.length by omega]
 have h := IdxS_L0 s fp s.length 0 (by omega)
 rw [show ((0 : Nat) : Int) = 0 from rfl, List.drop_zero] at h
 rcases h with ⟨h1, h2⟩ | ⟨i, h1, x, h2, h3⟩
 ·rw [h1]
  have : s.any fp = false := by rw [List.any_eq_false]; intro x hx; rw [h2 x hx]; simp
  rw [this]; rfl
 ·rw [h1]
  have : s.any fp = true := List.any_eq_true.2 ⟨x, h2, h3⟩
  rw [this]
  show decide (0 ≤ (i : Int)) = true
  exact decide_eq_true (by omega)
theorem any_inv (l : List GSet) : (!(sc_ContainsFunc_Set l (fun x => resume_encodable_1 x))) = true ↔ ∀ x ∈ l, bt_Valid x = true := by
 rw [CF_set, Bool.not_eq_true', List.any_eq_false]
 constructor
 ·intro h x hx
  have := h x hx
  unfold resume_encodable_1 at this
  simpa using this
 ·intro h x hx
  unfold resume_encodable_1
  rw [h x hx]; simp
theorem encodable_iff (st : GState) : resume_encodable st = true ↔ EO st := by
 have hc := counters_iff st.Cone
 have hq := counters_iff st.Queue
 have h3 := counters_iff [st.At, st.Edge, st.Steps]
 have hv := any_inv st.Values
 have h3' : (∀ x ∈ [st.At, st.Edge, st.Steps], 0 ≤ x ∧ x ≤ 1073741824) ↔ (0 ≤ st.At ∧ st.At ≤ 1073741824) ∧ (0 ≤ st.Edge ∧ st.Edge ≤ 1073741824) ∧ (0 ≤ st.Steps ∧ st.Steps ≤ 1073741824) := by simp
 rw [h3'] at h3
 have e : resume_encodable st = (decide (1 ≤ st.Phase) && (decide (st.Phase ≤ 3) && (decide (1 ≤ ((st.Cone.length : Nat) : Int)) && (decide (((st.Cone.length : Nat) : Int) ≤ 256) && ((((st.Leaf.length : Nat) : Int) == ((st.Cone.length : Nat) : Int)) && (((((st.Values.length : Nat) : Int) == 0) || (((st.Values.length : Nat) : Int) == ((st.Cone.length : Nat) : Int))) && (decide (((st.Queue.length : Nat) : Int) ≤ 256) && (resume_counters st.Cone && (resume_counters st.Queue && (resume_counters [st.At, st.Edge, st.Steps] && !(sc_ContainsFunc_Set st.Values (fun x => resume_encodable_1 x))))))))))) ) := by
  unfold resume_encodable
  dsimp only
  cases decide (1 ≤ st.Phase) <;> try rfl
  cases decide (st.Phase ≤ 3) <;> try rfl
  cases decide (1 ≤ ((st.Cone.length : Nat) : Int)) <;> try rfl
  cases decide (((st.Cone.length : Nat) : Int) ≤ 256) <;> try rfl
  cases (((st.Leaf.length : Nat) : Int) == ((st.Cone.length : Nat) : Int)) <;> try rfl
  all_goals (cases (((st.Values.length : Nat) : Int) == 0) <;> cases (((st.Values.length : Nat) : Int) == ((st.Cone.length : Nat) : Int)) <;> cases decide (((st.Queue.length : Nat) : Int) ≤ 256) <;> cases resume_counters st.Cone <;> cases resume_counters st.Queue <;> cases resume_counters [st.At, st.Edge, st.Steps] <;> rfl)
 rw [e]
 simp only [Bool.and_eq_true, Bool.or_eq_true, decide_eq_true_eq, beq_iff_eq, hc, hq, h3, hv]
 constructor
 ·rintro ⟨a1, a2, a3, a4, a5, a6, a7, a8, a9, ⟨a10, a11, a12⟩, a13⟩
  exact ⟨⟨a1, a2⟩, ⟨by omega, by omega⟩, by omega, by omega, by omega, a8, a9, a10, a11, a12, a13⟩
 ·intro h
  have := h.cl
  have := h.vl
  have := h.ll
  have := h.ql
  exact ⟨h.ph.1, h.ph.2, by omega, by omega, by omega, by omega, by omega, h.cc, h.qc, ⟨h.ac, h.ec, h.sc⟩, h.vv⟩
def R9 (B : List UInt8) (ph : Int) (co : List Int) (lf : List Bool) (at_ ed : Int) (vs : List GSet) (qu : List Int) (a : Int) (b : Bool) : GState × GReader :=
 bif (!(resume_encodable (GState.mk ph co lf at_ ed vs qu (Reader_Number (GReader.mk B a b) 1073741824).1))) then ((GState.mk ph co lf at_ ed vs qu (Reader_Number (GReader.mk B a b) 1073741824).1), (GReader.mk B (Reader_Number (GReader.mk B a b) 1073741824).2.at_ true)) else ((GState.mk ph co lf at_ ed vs qu (Reader_Number (GReader.mk B a b) 1073741824).1), (GReader.mk B (Reader_Number (GReader.mk B a b) 1073741824).2.at_ (Reader_Number (GReader.mk B a b) 1073741824).2.Bad))
def R8 (B : List UInt8) (ph : Int) (co : List Int) (lf : List Bool) (at_ ed : Int) (vs : List GSet) (a : Int) (b : Bool) : GState × GReader :=
 R9 B ph co lf at_ ed vs (Reader_Numbers (GReader.mk B a b) 1073741824).1 (Reader_Numbers (GReader.mk B a b) 1073741824).2.at_ (Reader_Numbers (GReader.mk B a b) 1073741824).2.Bad
theorem R9_bad (B ph co lf at_ ed vs qu a) : (R9 B ph co lf at_ ed vs qu a true).2.Bad = true := by
 unfold R9
 rw [Number_bad]
 all_goals (cases (!(resume_encodable (GState.mk ph co lf at_ ed vs qu ((0 : Int), GReader.mk B a true).1))) <;> rfl)
theorem R8_bad (B ph co lf at_ ed vs a) : (R8 B ph co lf at_ ed vs a true).2.Bad = true := by
 unfold R8; rw [Numbers_bad B a _ (by omega)]; exact R9_bad ..
theorem Bools_fwd {B : List UInt8} : ∀ (l : List Bool) (p : Nat) (T : List UInt8) (out : List Bool) (v : Int) (rd : GReader), rd.bytes = B → B.drop p = flB l ++ T → resume_Read_L0 rd l.length (p : Int) false out v = (((p + (flB l).length : Nat) : Int), false, out ++ l)
 | [], p, T, out, v, rd, hr, hd => by rw [List.length_nil, resume_Read_L0, flB]; simp
 | x :: l, p, T, out, v, rd, hr, hd => by
  rw [flB, List.append_assoc] at hd
  rw [List.length_cons, resume_Read_L0, hr, Bool_fwd hd]
  try dsimp only
  rw [Bools_fwd l _ T (out ++ [x]) (v + 1) rd hr (by rw [← List.drop_drop, hd, List.drop_left]), flB, List.length_append]
  simp [Nat.add_assoc]
theorem Bools_bad : ∀ (r : Nat) (rd : GReader) (p : Int) (out : List Bool) (v : Int), (resume_Read_L0 rd r p true out v).2.1 = true
 | 0, rd, p, out, v => by rw [resume_Read_L0]
 | r + 1, rd, p, out, v => by
  rw [resume_Read_L0]
  try dsimp only
  rw [Bool_bad]; exact Bools_bad r rd _ _ _
theorem Bools_inv {B : List UInt8} : ∀ (r p : Nat) (out : List Bool) (v : Int) (rd : GReader), rd.bytes = B → p ≤ B.length → (resume_Read_L0 rd r (p : Int) false out v).2.1 = false → ∃ (l : List Bool) (T : List UInt8), l.length = r ∧ B.drop p = flB l ++ T ∧ resume_Read_L0 rd r (p : Int) false out v = (((p + (flB l).length : Nat) : Int), false, out ++ l) ∧ p + (flB l).length ≤ B.length
 | 0, p, out, v, rd, hr, hp, h => by
  rw [resume_Read_L0]
  exact ⟨[], B.drop p, rfl, rfl, by simp [flB], by simpa [flB] using hp⟩
 | r + 1, p, out, v, rd, hr, hp, h => by
  rw [resume_Read_L0, hr] at h ⊢
  try dsimp only at h
  cases c : (Reader_Bool (GReader.mk B (p : Int) false)).2.Bad
  case true => rw [c, Bools_bad] at h; cases h
  obtain ⟨x, T, n2, n3⟩ := Bool_inv hp c
  rw [n3] at h ⊢
  dsimp only at h ⊢
  have hp2 : p + (U (if x then 1 else 0)).length ≤ B.length := by
   have := congrArg List.length n2
   rw [List.length_drop, List.length_append] at this
   have hu := U_pos (if x then 1 else 0)
   omega
  obtain ⟨l, T2, l1, l3, l4, l5⟩ := Bools_inv r _ (out ++ [x]) (v + 1) rd hr hp2 h
  refine ⟨x :: l, T2, by rw [List.length_cons, l1], ?_, ?_, ?_⟩
  ·rw [← List.drop_drop, n2, List.drop_left] at l3
   rw [n2, flB, List.append_assoc, l3]
  ·rw [l4, flB, List.length_append]
   simp [Nat.add_assoc]
  ·rw [flB, List.length_append]; omega
theorem Sets_fwd {B : List UInt8} : ∀ (l : List GSet) (p : Nat) (T : List UInt8) (out : List GSet) (v : Int) (rd : GReader), rd.bytes = B → (∀ x ∈ l, bt_Valid x = true) → B.drop p = flS l ++ T → resume_Read_L1 rd l.length (p : Int) false out v = (((p + (flS l).length : Nat) : Int), false, out ++ l)
 | [], p, T, out, v, rd, hr, hx, hd => by rw [List.length_nil, resume_Read_L1, flS]; simp
 | x :: l, p, T, out, v, rd, hr, hx, hd => by
  rw [flS, List.append_assoc] at hd
  rw [List.length_cons, resume_Read_L1, hr, Set_fwd (hx x List.mem_cons_self) hd]
  try dsimp only
  rw [Sets_fwd l _ T (out ++ [x]) (v + 1) rd hr (fun y hy => hx y (List.mem_cons_of_mem _ hy)) (by rw [← List.drop_drop, hd, List.drop_left]), flS, List.length_append]
  simp [Nat.add_assoc]
theorem Sets_bad : ∀ (r : Nat) (rd : GReader) (p : Int) (out : List GSet) (v : Int), (resume_Read_L1 rd r p true out v).2.1 = true
 | 0, rd, p, out, v => by rw [resume_Read_L1]
 | r + 1, rd, p, out, v => by
  rw [resume_Read_L1]
  try dsimp only
  rw [Set_bad]; exact Sets_bad r rd _ _ _
theorem Sets_inv {B : List UInt8} : ∀ (r p : Nat) (out : List GSet) (v : Int) (rd : GReader), rd.bytes = B → p ≤ B.length → (resume_Read_L1 rd r (p : Int) false out v).2.1 = false → ∃ (l : List GSet) (T : List UInt8), l.length = r ∧ (∀ x ∈ l, bt_Valid x = true) ∧ B.drop p = flS l ++ T ∧ resume_Read_L1 rd r (p : Int) false out v = (((p + (flS l).length : Nat) : Int), false, out ++ l) ∧ p + (flS l).length ≤ B.length
 | 0, p, out, v, rd, hr, hp, h => by
  rw [resume_Read_L1]
  exact ⟨[], B.drop p, rfl, fun x hx => (by cases hx), rfl, by simp [flS], by simpa [flS] using hp⟩
 | r + 1, p, out, v, rd, hr, hp, h => by
  rw [resume_Read_L1, hr] at h ⊢
  try dsimp only at h
  cases c : (Reader_Set (GReader.mk B (p : Int) false)).2.Bad
  case true => rw [c, Sets_bad] at h; cases h
  obtain ⟨x, T, n1, n2, n3, n4⟩ := Set_inv hp c
  rw [n3] at h ⊢
  dsimp only at h ⊢
  obtain ⟨l, T2, l1, l2, l3, l4, l5⟩ := Sets_inv r _ (out ++ [x]) (v + 1) rd hr n4 h
  refine ⟨x :: l, T2, by rw [List.length_cons, l1], fun y hy => ?_, ?_, ?_, ?_⟩
  ·rcases List.mem_cons.1 hy with e | e
   ·rw [e]; exact n1
   ·exact l2 y e
  ·rw [← List.drop_drop, n2, List.drop_left] at l3
   rw [n2, flS, List.append_assoc, l3]
  ·rw [l4, flS, List.length_append]
   simp [Nat.add_assoc]
  ·rw [flS, List.length_append]; omega
theorem Read_fwd {B : List UInt8} {p : Nat} {st : GState} {T : List UInt8} (h : EO st) (hB : B.length ≤ 1073741824) (hd : B.drop p = encSt st ++ T) : resume_Read (GReader.mk B (p : Int) false) = (st, GReader.mk B ((p + (encSt st).length : Nat) : Int) false) := by
 have hp := h.ph
 have hc := h.cl
 have hv := h.vl
 have hl := h.ll
 have ha := h.ac
 have he := h.ec
 have hs := h.sc
 have hd' := hd
 unfold encSt at hd
 simp only [List.append_assoc] at hd
 have dr : ∀ {q : Nat} {X Y : List UInt8}, B.drop q = X ++ Y → B.drop (q + X.length) = Y := fun q => by rw [← List.drop_drop, q, List.drop_left]
 have e1 := Number_fwd (most := 3) (n := st.Phase) (by omega) (by omega) (by omega) hd
 have d1 := dr hd
 have e2 := Numbers_fwd (most := 1073741824) (by omega) hB h.cc d1
 have d2 := dr d1
 have e3 := Bools_fwd st.Leaf _ _ [] 0 (GReader.mk B (p : Int) false) rfl d2
 have d3 := dr d2
 have e4 := Number_fwd (most := 1073741824) (n := st.At) (by omega) (by omega) (by omega) d3
 have d4 := dr d3
 have e5 := Number_fwd (most := 1073741824) (n := st.Edge) (by omega) (by omega) (by omega) d4
 have d5 := dr d4
 have e6 := Number_fwd (most := 256) (n := ((st.Values.length : Nat) : Int)) (by omega) (by omega) (by omega) d5
 have d6 := dr d5
 have e7 := Sets_fwd st.Values _ _ [] 0 (GReader.mk B (p : Int) false) rfl h.vv d6
 have d7 := dr d6
 have e8 := Numbers_fwd (most := 1073741824) (by omega) hB h.qc d7
 have d8 := dr d7
 have e9 := Number_fwd (most := 1073741824) (n := st.Steps) (by omega) (by omega) (by omega) d8
 have hen := (encodable_iff st).2 h
 unfold resume_Read
 dsimp only
 rw [e1]
 dsimp only
 rw [e2]
 dsimp only
 rw [show (((((st.Cone.length : Nat) : Int) : Int) - 0).toNat) = st.Leaf.length by omega, e3]
 dsimp only
 rw [e4]
 dsimp only
 rw [e5]
 dsimp only
 rw [e6]
 dsimp only
 rw [show (((((st.Values.length : Nat) : Int) : Int) - 0).toNat) = st.Values.length by omega, e7]
 dsimp only
 rw [e8]
 dsimp only
 rw [e9]
 dsimp only
 rw [List.nil_append, List.nil_append, hen, Bool.not_true, cond_false]
 have hlen : (encSt st).length = (U st.Phase).length + (encN st.Cone).length + (flB st.Leaf).length + (U st.At).length + (U st.Edge).length + (U ((st.Values.length : Nat) : Int)).length + (flS st.Values).length + (encN st.Queue).length + (U st.Steps).length := by
  unfold encSt; simp only [List.length_append]; omega
 rw [hlen]
 simp [Nat.add_assoc]
def R7 (B : List UInt8) (ph : Int) (co : List Int) (lf : List Bool) (at_ ed n : Int) (a : Int) (b : Bool) : GState × GReader :=
 R8 B ph co lf at_ ed (resume_Read_L1 (GReader.mk B 0 false) ((n - 0).toNat) a b [] 0).2.2 (resume_Read_L1 (GReader.mk B 0 false) ((n - 0).toNat) a b [] 0).1 (resume_Read_L1 (GReader.mk B 0 false) ((n - 0).toNat) a b [] 0).2.1
def R6 (B : List UInt8) (ph : Int) (co : List Int) (lf : List Bool) (at_ ed : Int) (a : Int) (b : Bool) : GState × GReader :=
 R7 B ph co lf at_ ed (Reader_Number (GReader.mk B a b) 256).1 (Reader_Number (GReader.mk B a b) 256).2.at_ (Reader_Number (GReader.mk B a b) 256).2.Bad
def R5 (B : List UInt8) (ph : Int) (co : List Int) (lf : List Bool) (at_ : Int) (a : Int) (b : Bool) : GState × GReader :=
 R6 B ph co lf at_ (Reader_Number (GReader.mk B a b) 1073741824).1 (Reader_Number (GReader.mk B a b) 1073741824).2.at_ (Reader_Number (GReader.mk B a b) 1073741824).2.Bad
def R4 (B : List UInt8) (ph : Int) (co : List Int) (lf : List Bool) (a : Int) (b : Bool) : GState × GReader :=
 R5 B ph co lf (Reader_Number (GReader.mk B a b) 1073741824).1 (Reader_Number (GReader.mk B a b) 1073741824).2.at_ (Reader_Number (GReader.mk B a b) 1073741824).2.Bad
def R3 (B : List UInt8) (ph : Int) (co : List Int) (a : Int) (b : Bool) : GState × GReader :=
 R4 B ph co (resume_Read_L0 (GReader.mk B 0 false) (((((co.length : Nat) : Int) : Int) - 0).toNat) a b [] 0).2.2 (resume_Read_L0 (GReader.mk B 0 false) (((((co.length : Nat) : Int) : Int) - 0).toNat) a b [] 0).1 (resume_Read_L0 (GReader.mk B 0 false) (((((co.length : Nat) : Int) : Int) - 0).toNat) a b [] 0).2.1
def R2 (B : List UInt8) (ph : Int) (a : Int) (b : Bool) : GState × GReader :=
 R3 B ph (Reader_Numbers (GReader.mk B a b) 1073741824).1 (Reader_Numbers (GReader.mk B a b) 1073741824).2.at_ (Reader_Numbers (GReader.mk B a b) 1073741824).2.Bad
theorem Read_R (B : List UInt8) : resume_Read (GReader.mk B 0 false) = R2 B (Reader_Number (GReader.mk B 0 false) 3).1 (Reader_Number (GReader.mk B 0 false) 3).2.at_ (Reader_Number (GReader.mk B 0 false) 3).2.Bad := by
 unfold resume_Read
 dsimp only
 generalize Reader_Number (GReader.mk B 0 false) 3 = r1
 unfold R2 R3
 generalize Reader_Numbers (GReader.mk B r1.2.at_ r1.2.Bad) 1073741824 = r2
 generalize resume_Read_L0 (GReader.mk B 0 false) (((((r2.1.length : Nat) : Int) : Int) - 0).toNat) r2.2.at_ r2.2.Bad [] 0 = r3
 obtain ⟨x1, x2, x3⟩ := r3
 dsimp only
 unfold R4
 generalize Reader_Number (GReader.mk B x1 x2) 1073741824 = r4
 unfold R5
 generalize Reader_Number (GReader.mk B r4.2.at_ r4.2.Bad) 1073741824 = r5
 unfold R6
 generalize Reader_Number (GReader.mk B r5.2.at_ r5.2.Bad) 256 = r6
 unfold R7
 generalize resume_Read_L1 (GReader.mk B 0 false) (((r6.1 : Int) - 0).toNat) r6.2.at_ r6.2.Bad [] 0 = r7
 obtain ⟨y1, y2, y3⟩ := r7
 dsimp only
 unfold R8
 generalize Reader_Numbers (GReader.mk B y1 y2) 1073741824 = r8
 unfold R9
 rfl
theorem R7_bad (B ph co lf at_ ed n a) : (R7 B ph co lf at_ ed n a true).2.Bad = true := by
 unfold R7; rw [Sets_bad]; exact R8_bad ..
theorem R6_bad (B ph co lf at_ ed a) : (R6 B ph co lf at_ ed a true).2.Bad = true := by
 unfold R6; rw [Number_bad]; exact R7_bad ..
theorem R5_bad (B ph co lf at_ a) : (R5 B ph co lf at_ a true).2.Bad = true := by
 unfold R5; rw [Number_bad]; exact R6_bad ..
theorem R4_bad (B ph co lf a) : (R4 B ph co lf a true).2.Bad = true := by
 unfold R4; rw [Number_bad]; exact R5_bad ..
theorem R3_bad (B ph co a) : (R3 B ph co a true).2.Bad = true := by
 unfold R3; rw [Bools_bad]; exact R4_bad ..
theorem R2_bad (B ph a) : (R2 B ph a true).2.Bad = true := by
 unfold R2; rw [Numbers_bad B a _ (by omega)]; exact R3_bad ..
theorem Read_inv {B : List UInt8} (hb : (resume_Read (GReader.mk B 0 false)).2.Bad = false) : ∃ (st : GState) (T : List UInt8), EO st ∧ B = encSt st ++ T ∧ resume_Read (GReader.mk B 0 false) = (st, GReader.mk B (((encSt st).length : Nat) : Int) false) := by
 rw [Read_R] at hb ⊢
 have gl : ∀ {q : Nat} {X Y : List UInt8}, q ≤ B.length → B.drop q = X ++ Y → q + X.length ≤ B.length := fun {q X Y} h1 h => by
  have := congrArg List.length h
  rw [List.length_drop, List.length_append] at this
  omega
 have dr : ∀ {q : Nat} {X Y : List UInt8}, B.drop q = X ++ Y → B.drop (q + X.length) = Y := fun q => by rw [← List.drop_drop, q, List.drop_left]
 rw [show (0 : Int) = ((0 : Nat) : Int) from rfl] at hb ⊢
 cases c1 : (Reader_Number (GReader.mk B ((0 : Nat) : Int) false) 3).2.Bad
 case true => rw [c1, R2_bad] at hb; cases hb
 obtain ⟨ph, T1, a1, a2, a3, a4⟩ := Number_inv (Nat.zero_le _) c1
 have g1 := gl (Nat.zero_le _) a3
 rw [a4] at hb ⊢
 dsimp only at hb ⊢
 unfold R2 at hb ⊢
 cases c2 : (Reader_Numbers (GReader.mk B ((0 + (U ph).length : Nat) : Int) false) 1073741824).2.Bad
 case true => rw [c2, R3_bad] at hb; cases hb
 obtain ⟨co, T2, b1, b2, b3, g2⟩ := Numbers_inv g1 c2
 rw [b3] at hb ⊢
 dsimp only at hb ⊢
 unfold R3 at hb ⊢
 cases c3 : (resume_Read_L0 (GReader.mk B 0 false) (((((co.length : Nat) : Int) : Int) - 0).toNat) ((0 + (U ph).length + (encN co).length : Nat) : Int) false [] 0).2.1
 case true => rw [c3, R4_bad] at hb; cases hb
 obtain ⟨lf, T3, d1, d2, d3, g3⟩ := Bools_inv (B := B) _ _ [] 0 (GReader.mk B 0 false) rfl g2 c3
 rw [d3] at hb ⊢
 dsimp only at hb ⊢
 unfold R4 at hb ⊢
 cases c4 : (Reader_Number (GReader.mk B ((0 + (U ph).length + (encN co).length + (flB lf).length : Nat) : Int) false) 1073741824).2.Bad
 case true => rw [c4, R5_bad] at hb; cases hb
 obtain ⟨at1, T4, f1, f2, f3, f4⟩ := Number_inv g3 c4
 have g4 := gl g3 f3
 rw [f4] at hb ⊢
 dsimp only at hb ⊢
 unfold R5 at hb ⊢
 cases c5 : (Reader_Number (GReader.mk B ((0 + (U ph).length + (encN co).length + (flB lf).length + (U at1).length : Nat) : Int) false) 1073741824).2.Bad
 case true => rw [c5, R6_bad] at hb; cases hb
 obtain ⟨ed, T5, i1, i2, i3, i4⟩ := Number_inv g4 c5
 have g5 := gl g4 i3
 rw [i4] at hb ⊢
 dsimp only at hb ⊢
 unfold R6 at hb ⊢
 cases c6 : (Reader_Number (GReader.mk B ((0 + (U ph).length + (encN co).length + (flB lf).length + (U at1).length + (U ed).length : Nat) : Int) false) 256).2.Bad
 case true => rw [c6, R7_bad] at hb; cases hb
 obtain ⟨nv, T6, j1, j2, j3, j4⟩ := Number_inv g5 c6
 have g6 := gl g5 j3
 rw [j4] at hb ⊢
 dsimp only at hb ⊢
 unfold R7 at hb ⊢
 cases c7 : (resume_Read_L1 (GReader.mk B 0 false) ((nv - 0).toNat) ((0 + (U ph).length + (encN co).length + (flB lf).length + (U at1).length + (U ed).length + (U nv).length : Nat) : Int) false [] 0).2.1
 case true => rw [c7, R8_bad] at hb; cases hb
 obtain ⟨vs, T7, k1, k2, k3, k4, g7⟩ := Sets_inv (B := B) _ _ [] 0 (GReader.mk B 0 false) rfl g6 c7
 rw [k4] at hb ⊢
 dsimp only at hb ⊢
 unfold R8 at hb ⊢
 cases c8 : (Reader_Numbers (GReader.mk B ((0 + (U ph).length + (encN co).length + (flB lf).length + (U at1).length + (U ed).length + (U nv).length + (flS vs).length : Nat) : Int) false) 1073741824).2.Bad
 case true => rw [c8, R9_bad] at hb; cases hb
 obtain ⟨qu, T8, l1, l2, l3, g8⟩ := Numbers_inv g7 c8
 rw [l3] at hb ⊢
 dsimp only at hb ⊢
 unfold R9 at hb ⊢
 cases c10 : resume_encodable (GState.mk ph co ([] ++ lf) at1 ed ([] ++ vs) qu (Reader_Number (GReader.mk B ((0 + (U ph).length + (encN co).length + (flB lf).length + (U at1).length + (U ed).length + (U nv).length + (flS vs).length + (encN qu).length : Nat) : Int) false) 1073741824).1)
 case false => rw [c10] at hb; cases hb
 rw [c10] at hb
 cases c9 : (Reader_Number (GReader.mk B ((0 + (U ph).length + (encN co).length + (flB lf).length + (U at1).length + (U ed).length + (U nv).length + (flS vs).length + (encN qu).length : Nat) : Int) false) 1073741824).2.Bad
 case true => rw [c9] at hb; cases hb
 obtain ⟨sp, T9, m1, m2, m3, m4⟩ := Number_inv g8 c9
 rw [m4] at c10 ⊢
 dsimp only at c10 ⊢
 rw [List.nil_append, List.nil_append] at c10 ⊢
 have hE := (encodable_iff _).1 c10
 have hnv : ((vs.length : Nat) : Int) = nv := by omega
 have h9 := m3
 have h8 := dr l2
 rw [h9] at h8
 rw [← h8] at l2
 have h7 := dr k3
 rw [l2] at h7
 rw [← h7] at k3
 have h6 := dr j3
 rw [k3] at h6
 rw [← h6] at j3
 have h5 := dr i3
 rw [j3] at h5
 rw [← h5] at i3
 have h4 := dr f3
 rw [i3] at h4
 rw [← h4] at f3
 have h3 := dr d2
 rw [f3] at h3
 rw [← h3] at d2
 have h2 := dr b2
 rw [d2] at h2
 rw [← h2] at b2
 have h1 := dr a3
 rw [b2] at h1
 rw [← h1] at a3
 have hall : B = U ph ++ (encN co ++ (flB lf ++ (U at1 ++ (U ed ++ (U nv ++ (flS vs ++ (encN qu ++ (U sp ++ T9)))))))) := a3
 refine ⟨_, T9, hE, ?_, ?_⟩
 ·unfold encSt; dsimp only; rw [hnv]; simp only [List.append_assoc]; exact hall
 ·unfold encSt; dsimp only; rw [hnv]; simp only [List.length_append, Nat.zero_add, Nat.add_assoc]; rfl
theorem Decode_fwd {st : GState} (h : EO st) : resume_Decode (r14_Sealed (encSt st)) = (st, 0) := by
 have hc := cont_Sealed (encSt st)
 have hn := Sealed_len (encSt st)
 have ho : uvarint_Open (r14_Sealed (encSt st)) = 0 := by
  rw [Open_eq, hc, if_neg (by omega), if_pos rfl]
 unfold cont at hc
 have hr := Read_fwd (B := encSt st) (p := 0) (T := []) h (by have := encSt_le h; omega) (by rw [List.drop_zero, List.append_nil])
 rw [show ((0 : Nat) : Int) = 0 from rfl, Nat.zero_add] at hr
 unfold resume_Decode
 dsimp only
 rw [ho, hc, hr]
 unfold Reader_Done
 simp
theorem Decode_inv {b : List UInt8} (h : (resume_Decode b).2 = 0) : ∃ st, EO st ∧ b = r14_Sealed (encSt st) ∧ (resume_Decode b).1 = st := by
 by_cases ho : uvarint_Open b = 0
 case neg =>
  unfold resume_Decode at h
  dsimp only at h
  rw [show (uvarint_Open b != 0) = true by simpa using ho, cond_true] at h
  exact absurd h ho
 unfold resume_Decode at h ⊢
 dsimp only at h ⊢
 rw [ho, show ((0 : Int) != 0) = false from rfl, cond_false] at h ⊢
 rw [show (b.take (((((b.length : Nat) : Int) - 4) : Int).toNat)).drop 0 = cont b from rfl] at h ⊢
 cases hb : (resume_Read (GReader.mk (cont b) 0 false)).2.Bad
 case true => rw [hb] at h; unfold Reader_Done at h; dsimp only at h; rw [Bool.not_true, cond_false, Bool.not_false, cond_true] at h; cases h
 obtain ⟨st, T, n1, n2, n3⟩ := Read_inv hb
 rw [n3] at h ⊢
 unfold Reader_Done at h ⊢
 dsimp only at h ⊢
 rw [Bool.not_false, cond_true] at h ⊢
 by_cases hd : (((encSt st).length : Nat) : Int) = (((cont b).length : Nat) : Int)
 case neg =>
  rw [show ((((encSt st).length : Nat) : Int) == (((cont b).length : Nat) : Int)) = false by simpa using hd, Bool.not_false, cond_true] at h; cases h
 rw [show ((((encSt st).length : Nat) : Int) == (((cont b).length : Nat) : Int)) = true by simpa using hd, Bool.not_true, cond_false]
 have hT : T = [] := by
  have := congrArg List.length n2
  rw [List.length_append] at this
  exact List.eq_nil_of_length_eq_zero (by omega)
 rw [hT, List.append_nil] at n2
 refine ⟨st, n1, ?_, rfl⟩
 rw [Open_eq] at ho
 by_cases c : b.length < 4
 ·rw [if_pos c] at ho; cases ho
 rw [if_neg c] at ho
 by_cases d : r14_Sealed (cont b) = b
 ·rw [← n2, d]
 ·rw [if_neg d] at ho; cases ho
theorem Ints_self (a : List Int) : r7_Ints a a = true := by
 have := scan (fun r i => r7_Ints_L0 a a r i) (fun i => a.getD i.toNat 0 != a.getD i.toNat 0) false () (fun _ => rfl) (fun _ _ => rfl) ((((a.length : Nat) : Int) - 0).toNat) 0
 unfold r7_Ints
 rcases this with ⟨e, j, j1, j2, j3⟩ | ⟨e, h⟩
 ·simp at j3
 ·rw [e]; simp
theorem SameSets_iff (a b : List GSet) : r10_SameSets a b = true ↔ a = b := by
 have sc := scan (fun r i => r10_SameSets_L0 a b r i) (fun i => !(r1_Same (a.getD i.toNat default) (b.getD i.toNat default))) false () (fun _ => rfl) (fun _ _ => rfl) ((((a.length : Nat) : Int) - 0).toNat) 0
 unfold r10_SameSets
 by_cases h2 : a.length = b.length
 case neg =>
  have : (((a.length : Nat) : Int) != ((b.length : Nat) : Int)) = true := by simp; omega
  simp only [this, cond_true]
  constructor
  ·intro h; cases h
  ·intro h; exact absurd (by rw [h]) h2
 have e2 : (((a.length : Nat) : Int) != ((b.length : Nat) : Int)) = false := by simp [h2]
 simp only [e2, cond_false]
 rcases sc with ⟨e, j, j1, j2, j3⟩ | ⟨e, h⟩
 ·rw [e]
  constructor
  ·intro h; cases h
  ·intro h; subst h; rw [Same_refl] at j3; cases j3
 ·rw [e]
  constructor
  ·intro _
   apply List.ext_getElem h2
   intro i i1 i2
   have := h (i : Int) (by omega) (by omega)
   rw [Bool.not_eq_false', Same_iff] at this
   simpa [List.getD, List.getElem?_eq_getElem i1, List.getElem?_eq_getElem i2] using this
  ·intro _; rfl
theorem SameState_self (a : GState) : r14_SameState a a = true := by
 have sc := scan (fun r i => r14_SameState_L0 a a r i) (fun i => !((a.Leaf.getD i.toNat false) == (a.Leaf.getD i.toNat false))) false () (fun _ => rfl) (fun _ _ => rfl) ((((a.Leaf.length : Nat) : Int) - 0).toNat) 0
 unfold r14_SameState
 simp only [bne_self_eq_false, cond_false, Ints_self, (SameSets_iff a.Values a.Values).2 rfl, Bool.not_true]
 rcases sc with ⟨e, j, j1, j2, j3⟩ | ⟨e, h⟩
 ·simp at j3
 ·rw [e]
theorem decodes_true (b : List UInt8) : w18_decodes b = true := by
 by_cases h : (resume_Decode b).2 = 0
 ·obtain ⟨st, n1, n2, n3⟩ := Decode_inv h
  unfold w18_decodes
  dsimp only
  rw [h, n3, ES_enc n1, ← n2]
  simp
 unfold w18_decodes
 dsimp only
 rw [show ((resume_Decode b).2 == 0) = false by simpa using h, cond_false]
 have key : ((resume_Decode b).1 = GState.mk 0 [] [] 0 0 [] [] 0) ∧ (resume_Decode b).2 = if uvarint_Open b = 0 then 13 else uvarint_Open b := by
  unfold resume_Decode at h ⊢
  dsimp only at h ⊢
  by_cases ho : uvarint_Open b = 0
  case neg =>
   rw [show (uvarint_Open b != 0) = true by simpa using ho, cond_true, if_neg ho]
   exact ⟨rfl, rfl⟩
  rw [ho, show ((0 : Int) != 0) = false from rfl, cond_false] at h
  rw [ho, show ((0 : Int) != 0) = false from rfl, cond_false, if_pos rfl]
  generalize resume_Read (GReader.mk ((b.take (((((b.length : Nat) : Int) - 4) : Int).toNat)).drop 0) 0 false) = R at h
  cases hd : Reader_Done (GReader.mk ((b.take (((((b.length : Nat) : Int) - 4) : Int).toNat)).drop 0) R.2.at_ R.2.Bad)
  ·exact ⟨rfl, rfl⟩
  ·rw [hd] at h; exact absurd rfl h
 rw [key.1, key.2, Open_eq]
 rw [show (b.take (((((b.length : Nat) : Int) - 4) : Int).toNat)).drop 0 = cont b from rfl]
 by_cases c : b.length < 4
 ·rw [if_pos c, decide_eq_true (show ((b.length : Nat) : Int) < 4 by omega)]; rfl
 rw [if_neg c, decide_eq_false (show ¬ ((b.length : Nat) : Int) < 4 by omega)]
 by_cases d : r14_Sealed (cont b) = b
 ·rw [if_pos d, d]; simp
 ·rw [if_neg d, show (Str.mk (r14_Sealed (cont b)) != Str.mk b) = true by simpa using d]; rfl
theorem sane18_true : w18_sane = true := by kernel_rfl
theorem ResumeDecodes_L0_brk (t : List Int) : ∀ (r : Nat) (k i : Int), w18_ResumeDecodes_L0 t r k i = .brk ()
 | 0, k, i => by rw [w18_ResumeDecodes_L0]
 | r + 1, k, i => by
  have hE := VStt_EO (state_V (t := t) (i := k) rfl).1
  rw [w18_ResumeDecodes_L0]
  dsimp only
  rw [ES_enc hE]
  dsimp only
  rw [Decode_fwd hE]
  dsimp only
  rw [SameState_self, decodes_true, decodes_true]
  exact ResumeDecodes_L0_brk t r _ _
theorem ResumeDecodes_true (t : List Int) (b : List UInt8) : w18_ResumeDecodes t b = true := by
 unfold w18_ResumeDecodes
 dsimp only
 rw [ResumeDecodes_L0_brk, decodes_true, decodes_true, sane18_true]
 simp
theorem fo39_0 : fldOff Tryz.prog 39 0 = some 0 := by kernel_rfl
theorem sh3 : tyShape Tryz.prog 3 = some (false, 1) := by kernel_rfl
theorem ca112 : callable Tryz.prog 112 = true := by kernel_rfl
theorem fo39_1 : fldOff Tryz.prog 39 1 = some 1 := by kernel_rfl
theorem sh37 : tyShape Tryz.prog 37 = some (false, 1) := by kernel_rfl
theorem sl37 : slTy Tryz.prog 37 = some (68, 1, 8) := by kernel_rfl
theorem ca113 : callable Tryz.prog 113 = true := by kernel_rfl
theorem sh68 : tyShape Tryz.prog 68 = some (false, 1) := by kernel_rfl
theorem ca114 : callable Tryz.prog 114 = true := by kernel_rfl
theorem fmix : Tryz.prog.follows .mixedOrders = true := by kernel_rfl
theorem fo65_1 : fldOff Tryz.prog 65 1 = some 1 := by kernel_rfl
theorem fo65_0 : fldOff Tryz.prog 65 0 = some 0 := by kernel_rfl
theorem sh22 : tyShape Tryz.prog 22 = some (false, 1) := by kernel_rfl
theorem sl22 : slTy Tryz.prog 22 = some (3, 1, 8) := by kernel_rfl
theorem ca28 : callable Tryz.prog 28 = true := by kernel_rfl
theorem ca147 : callable Tryz.prog 147 = true := by kernel_rfl
theorem ca110 : callable Tryz.prog 110 = true := by kernel_rfl
theorem ca109 : callable Tryz.prog 109 = true := by kernel_rfl
theorem ze32 : zeroOf Tryz.prog 32 = some (.agg #[vi 0, .slice none 0 0, .slice none 0 0, .slice none 0 0]) := by kernel_rfl
theorem ca39 : callable Tryz.prog 39 = true := by kernel_rfl
theorem st32 : stTy Tryz.prog 32 = some ([(0, 1), (1, 1), (2, 1), (3, 1)], [vi 0, .slice none 0 0, .slice none 0 0, .slice none 0 0]) := by kernel_rfl
theorem sh32 : tyShape Tryz.prog 32 = some (true, 4) := by kernel_rfl
theorem ca40 : callable Tryz.prog 40 = true := by kernel_rfl
theorem fo32_0 : fldOff Tryz.prog 32 0 = some 0 := by kernel_rfl
theorem ca42 : callable Tryz.prog 42 = true := by kernel_rfl
theorem fo32_1 : fldOff Tryz.prog 32 1 = some 1 := by kernel_rfl
theorem sh29 : tyShape Tryz.prog 29 = some (false, 1) := by kernel_rfl
theorem sl29 : slTy Tryz.prog 29 = some (22, 1, 24) := by kernel_rfl
theorem sz29 : slZero Tryz.prog 29 = some [.slice none 0 0] := by kernel_rfl
theorem fo32_3 : fldOff Tryz.prog 32 3 = some 3 := by kernel_rfl
theorem sh24 : tyShape Tryz.prog 24 = some (false, 1) := by kernel_rfl
theorem sl24 : slTy Tryz.prog 24 = some (39, 2, 32) := by kernel_rfl
theorem sz24 : slZero Tryz.prog 24 = some [vi 0, .slice none 0 0] := by kernel_rfl
theorem fo32_2 : fldOff Tryz.prog 32 2 = some 2 := by kernel_rfl
theorem sh30 : tyShape Tryz.prog 30 = some (false, 1) := by kernel_rfl
theorem ca43 : callable Tryz.prog 43 = true := by kernel_rfl
theorem sl30 : slTy Tryz.prog 30 = some (85, 5, 88) := by kernel_rfl
theorem sz30 : slZero Tryz.prog 30 = some [vi 0, .slice none 0 0, vi 0, .slice none 0 0, .slice none 0 0] := by kernel_rfl
theorem ze39 : zeroOf Tryz.prog 39 = some (.agg #[vi 0, .slice none 0 0]) := by kernel_rfl
theorem sz37 : slZero Tryz.prog 37 = some [u64 (0#64)] := by kernel_rfl
theorem st39 : stTy Tryz.prog 39 = some ([(0, 1), (1, 1)], [vi 0, .slice none 0 0]) := by kernel_rfl
theorem sh39 : tyShape Tryz.prog 39 = some (true, 2) := by kernel_rfl
theorem ca111 : callable Tryz.prog 111 = true := by kernel_rfl
theorem un3 : Tryz.prog.underlying 3 = some (.int .i64) := by kernel_rfl
theorem un69 : Tryz.prog.underlying 69 = some (.int .u64) := by kernel_rfl
theorem ca72 : callable Tryz.prog 72 = true := by kernel_rfl
theorem ze26 : zeroOf Tryz.prog 26 = some (.agg #[vi 0, .slice none 0 0, .slice none 0 0, vi 0, vi 0, .slice none 0 0, .slice none 0 0, vi 0]) := by kernel_rfl
theorem sl23 : slTy Tryz.prog 23 = some (4, 1, 1) := by kernel_rfl
theorem sz23 : slZero Tryz.prog 23 = some [vb false] := by kernel_rfl
theorem st26 : stTy Tryz.prog 26 = some ([(0, 1), (1, 1), (2, 1), (3, 1), (4, 1), (5, 1), (6, 1), (7, 1)], [vi 0, .slice none 0 0, .slice none 0 0, vi 0, vi 0, .slice none 0 0, .slice none 0 0, vi 0]) := by kernel_rfl
theorem sh26 : tyShape Tryz.prog 26 = some (true, 8) := by kernel_rfl
theorem sz22 : slZero Tryz.prog 22 = some [vi 0] := by kernel_rfl
theorem ca9 : callable Tryz.prog 9 = true := by kernel_rfl
theorem ca69 : callable Tryz.prog 69 = true := by kernel_rfl
theorem ca71 : callable Tryz.prog 71 = true := by kernel_rfl
theorem ca70 : callable Tryz.prog 70 = true := by kernel_rfl
theorem ca50 : callable Tryz.prog 50 = true := by kernel_rfl
theorem ca89 : callable Tryz.prog 89 = true := by kernel_rfl
theorem ca90 : callable Tryz.prog 90 = true := by kernel_rfl
theorem fo26_7 : fldOff Tryz.prog 26 7 = some 7 := by kernel_rfl
theorem ca58 : callable Tryz.prog 58 = true := by kernel_rfl
theorem ca92 : callable Tryz.prog 92 = true := by kernel_rfl
theorem ca93 : callable Tryz.prog 93 = true := by kernel_rfl
theorem fo26_3 : fldOff Tryz.prog 26 3 = some 3 := by kernel_rfl
theorem fo26_1 : fldOff Tryz.prog 26 1 = some 1 := by kernel_rfl
theorem fo26_5 : fldOff Tryz.prog 26 5 = some 5 := by kernel_rfl
theorem fo26_6 : fldOff Tryz.prog 26 6 = some 6 := by kernel_rfl
theorem ca133 : callable Tryz.prog 133 = true := by kernel_rfl
theorem fo26_2 : fldOff Tryz.prog 26 2 = some 2 := by kernel_rfl
theorem sh23 : tyShape Tryz.prog 23 = some (false, 1) := by kernel_rfl
theorem sh4 : tyShape Tryz.prog 4 = some (false, 1) := by kernel_rfl
theorem un4 : Tryz.prog.underlying 4 = some .bool := by kernel_rfl
theorem ca134 : callable Tryz.prog 134 = true := by kernel_rfl
theorem fo26_4 : fldOff Tryz.prog 26 4 = some 4 := by kernel_rfl
theorem fo26_0 : fldOff Tryz.prog 26 0 = some 0 := by kernel_rfl
theorem ca91 : callable Tryz.prog 91 = true := by kernel_rfl
theorem ca135 : callable Tryz.prog 135 = true := by kernel_rfl
theorem sh5 : tyShape Tryz.prog 5 = some (false, 1) := by kernel_rfl
theorem un78 : Tryz.prog.underlying 78 = some (.int .u32) := by kernel_rfl
theorem un5 : Tryz.prog.underlying 5 = some (.int .u8) := by kernel_rfl
theorem sl44 : slTy Tryz.prog 44 = some (5, 1, 1) := by kernel_rfl
theorem sz44 : slZero Tryz.prog 44 = some [.int .u8 0] := by kernel_rfl
theorem ca73 : callable Tryz.prog 73 = true := by kernel_rfl
theorem ca75 : callable Tryz.prog 75 = true := by kernel_rfl
theorem ca74 : callable Tryz.prog 74 = true := by kernel_rfl
theorem ca76 : callable Tryz.prog 76 = true := by kernel_rfl
theorem ca46 : callable Tryz.prog 46 = true := by kernel_rfl
theorem ca63 : callable Tryz.prog 63 = true := by kernel_rfl
theorem ca45 : callable Tryz.prog 45 = true := by kernel_rfl
theorem ca62 : callable Tryz.prog 62 = true := by kernel_rfl
theorem st103 : stTy Tryz.prog 103 = some ([(0, 1), (1, 1), (2, 1)], [.slice none 0 0, vi 0, vb false]) := by kernel_rfl
theorem ca65 : callable Tryz.prog 65 = true := by kernel_rfl
theorem ca66 : callable Tryz.prog 66 = true := by kernel_rfl
theorem ca67 : callable Tryz.prog 67 = true := by kernel_rfl
theorem ca44 : callable Tryz.prog 44 = true := by kernel_rfl
theorem sl94 : slTy Tryz.prog 94 = some (9, 1, 16) := by kernel_rfl
theorem sz94 : slZero Tryz.prog 94 = some [.string (bs (Str.mk []))] := by kernel_rfl
theorem sh9 : tyShape Tryz.prog 9 = some (false, 1) := by kernel_rfl
theorem ca56 : callable Tryz.prog 56 = true := by kernel_rfl
theorem ca55 : callable Tryz.prog 55 = true := by kernel_rfl
theorem ca21 : callable Tryz.prog 21 = true := by kernel_rfl
theorem ca29 : callable Tryz.prog 29 = true := by kernel_rfl
theorem un68 : Tryz.prog.underlying 68 = some (.int .u64) := by kernel_rfl
theorem un9 : Tryz.prog.underlying 9 = some .string := by kernel_rfl
theorem un44 : Tryz.prog.underlying 44 = some (.slice 5) := by kernel_rfl
theorem ca19 : callable Tryz.prog 19 = true := by kernel_rfl
theorem ca27 : callable Tryz.prog 27 = true := by kernel_rfl
theorem ca26 : callable Tryz.prog 26 = true := by kernel_rfl
theorem ca38 : callable Tryz.prog 38 = true := by kernel_rfl
theorem ca59 : callable Tryz.prog 59 = true := by kernel_rfl
theorem sh108 : tyShape Tryz.prog 108 = some (true, 2) := by kernel_rfl
theorem ze108 : zeroOf Tryz.prog 108 = some (.agg #[vi 0, vi 0]) := by kernel_rfl
theorem ca129 : callable Tryz.prog 129 = true := by kernel_rfl
theorem ca142 : callable Tryz.prog 142 = true := by kernel_rfl
theorem ca105 : callable Tryz.prog 105 = true := by kernel_rfl
theorem ca60 : callable Tryz.prog 60 = true := by kernel_rfl
theorem ca61 : callable Tryz.prog 61 = true := by kernel_rfl
theorem ca31 : callable Tryz.prog 31 = true := by kernel_rfl
theorem ca32 : callable Tryz.prog 32 = true := by kernel_rfl
theorem ca18 : callable Tryz.prog 18 = true := by kernel_rfl
theorem ca144 : callable Tryz.prog 144 = true := by kernel_rfl
theorem ca106 : callable Tryz.prog 106 = true := by kernel_rfl
theorem fo103_2 : fldOff Tryz.prog 103 2 = some 2 := by kernel_rfl
theorem fo103_1 : fldOff Tryz.prog 103 1 = some 1 := by kernel_rfl
theorem fo103_0 : fldOff Tryz.prog 103 0 = some 0 := by kernel_rfl
theorem sh44 : tyShape Tryz.prog 44 = some (false, 1) := by kernel_rfl
theorem ca64 : callable Tryz.prog 64 = true := by kernel_rfl
theorem ca107 : callable Tryz.prog 107 = true := by kernel_rfl
theorem ca145 : callable Tryz.prog 145 = true := by kernel_rfl
theorem ca146 : callable Tryz.prog 146 = true := by kernel_rfl
theorem ca108 : callable Tryz.prog 108 = true := by kernel_rfl
theorem ca33 : callable Tryz.prog 33 = true := by kernel_rfl
theorem ca34 : callable Tryz.prog 34 = true := by kernel_rfl
theorem ca35 : callable Tryz.prog 35 = true := by kernel_rfl
theorem ca53 : callable Tryz.prog 53 = true := by kernel_rfl
theorem ca8 : callable Tryz.prog 8 = true := by kernel_rfl
theorem ca94 : callable Tryz.prog 94 = true := by kernel_rfl
theorem ca95 : callable Tryz.prog 95 = true := by kernel_rfl
theorem ca96 : callable Tryz.prog 96 = true := by kernel_rfl
theorem ca97 : callable Tryz.prog 97 = true := by kernel_rfl
theorem ca98 : callable Tryz.prog 98 = true := by kernel_rfl
theorem ca25 : callable Tryz.prog 25 = true := by kernel_rfl
theorem ca36 : callable Tryz.prog 36 = true := by kernel_rfl
theorem ca37 : callable Tryz.prog 37 = true := by kernel_rfl
theorem ca14 : callable Tryz.prog 14 = true := by kernel_rfl
theorem ca13 : callable Tryz.prog 13 = true := by kernel_rfl
theorem st65 : stTy Tryz.prog 65 = some ([(0, 1), (1, 1)], [.slice none 0 0, vi 0]) := by kernel_rfl
theorem ca41 : callable Tryz.prog 41 = true := by kernel_rfl
theorem ca68 : callable Tryz.prog 68 = true := by kernel_rfl
theorem ze85 : zeroOf Tryz.prog 85 = some (.agg #[vi 0, .slice none 0 0, vi 0, .slice none 0 0, .slice none 0 0]) := by kernel_rfl
theorem st85 : stTy Tryz.prog 85 = some ([(0, 2), (2, 2), (4, 1)], [vi 0, .slice none 0 0, vi 0, .slice none 0 0, .slice none 0 0]) := by kernel_rfl
theorem sh85 : tyShape Tryz.prog 85 = some (true, 5) := by kernel_rfl
theorem fo85_0 : fldOff Tryz.prog 85 0 = some 0 := by kernel_rfl
theorem fo85_1 : fldOff Tryz.prog 85 1 = some 2 := by kernel_rfl
theorem fo85_2 : fldOff Tryz.prog 85 2 = some 4 := by kernel_rfl
theorem sh83 : tyShape Tryz.prog 83 = some (false, 1) := by kernel_rfl
theorem sl83 : slTy Tryz.prog 83 = some (108, 2, 16) := by kernel_rfl
theorem st108 : stTy Tryz.prog 108 = some ([(0, 1), (1, 1)], [vi 0, vi 0]) := by kernel_rfl
theorem sz83 : slZero Tryz.prog 83 = some [vi 0, vi 0] := by kernel_rfl
theorem fo108_0 : fldOff Tryz.prog 108 0 = some 0 := by kernel_rfl
theorem fo108_1 : fldOff Tryz.prog 108 1 = some 1 := by kernel_rfl
theorem ca86 : callable Tryz.prog 86 = true := by kernel_rfl
theorem ca87 : callable Tryz.prog 87 = true := by kernel_rfl
theorem sl88 : slTy Tryz.prog 88 = some (144, 3, 40) := by kernel_rfl
theorem fo144_0 : fldOff Tryz.prog 144 0 = some 0 := by kernel_rfl
theorem fo144_1 : fldOff Tryz.prog 144 1 = some 1 := by kernel_rfl
theorem ca132 : callable Tryz.prog 132 = true := by kernel_rfl
theorem ca99 : callable Tryz.prog 99 = true := by kernel_rfl
theorem ca136 : callable Tryz.prog 136 = true := by kernel_rfl
theorem ca167 : callable Tryz.prog 167 = true := by kernel_rfl
theorem ca137 : callable Tryz.prog 137 = true := by kernel_rfl
theorem ca168 : callable Tryz.prog 168 = true := by kernel_rfl
theorem ca138 : callable Tryz.prog 138 = true := by kernel_rfl
theorem ca54 : callable Tryz.prog 54 = true := by kernel_rfl
theorem ca6 : callable Tryz.prog 6 = true := by kernel_rfl
theorem ca7 : callable Tryz.prog 7 = true := by kernel_rfl
theorem ca15 : callable Tryz.prog 15 = true := by kernel_rfl
theorem ca17 : callable Tryz.prog 17 = true := by kernel_rfl
theorem ca16 : callable Tryz.prog 16 = true := by kernel_rfl
theorem ca12 : callable Tryz.prog 12 = true := by kernel_rfl
theorem fn147 (s : List Int) (sa0 : Option Addr) (sk0 : Nat) (fF : FuncId) (fC : List Value) (fp : Int → Bool) (fA : List SP) (hfc : callable Tryz.prog fF = true) (hfF : ∀ x ∈ s, i64ok x → FT Tryz.prog fF ([(vi x : Value)] ++ fC).toArray ([] ++ [pAll fA]) (fun _ : Unit => True) (fun _ => .bool (fp x)) (fun _ => [])) (rr : Int) (hrr : sc_IndexFunc_int s fp = rr) : FT Tryz.prog 147 #[vl sa0 sk0 s, .func (.func fF) #[] fC.toArray] [S sa0 sk0 s, pAll fA] (fun g : Unit => i64ok rr) (fun g => vi rr) (fun g => []) := by
 refine FTi Tryz.func147 fun w0 M0 F0 => Fb 8 0 fun _ => Fo 0 fun ho2 => ?_
 refine KS ?_
 refine Oq Va (KS ?_)
 refine Oq Vm (Oq (Vlen sl22) (Oq Vm (KS ?_)))
 refine Kl (γ := Nat × Int) (fun (r3, v8_4) => ⟨[(0, vl sa0 sk0 s), (1, .func (.func fF) #[] fC.toArray), (7, vi (s.length : Int)), (8, vi v8_4)], [S sa0 sk0 s, pAll fA], sc_IndexFunc_int_L0 s fp r3 v8_4 = sc_IndexFunc_int_L0 s fp (((s.length : Int) - 0).toNat) 0 ∧ r3 = ((s.length : Int) - v8_4).toNat ∧ (0 : Int) ≤ v8_4 ∧ v8_4 ≤ (s.length : Int) ∧ (-9223372036854775808 ≤ v8_4 ∧ v8_4 ≤ 9223372036854775807), r3⟩) (((s.length : Int) - 0).toNat, 0) [0, 1] ⟨rfl, rfl, aM1, aM1, aM1⟩ ?_
 rintro ⟨r3, v8_4⟩ ⟨hM5, hr6, hi7, hi8, hk9⟩
 refine JJ_nx fun _ _ hL hA => ?_; dsimp only at hL hA; subst hL hA
 refine Fb 8 0 fun _ => Fo 0 fun ho11 => KS ?_
 refine Oq Vlss (KS ?_)
 refine Kc ?_ ?_
 ·intro h12
  have g13 := dt h12
  obtain ⟨r14, rfl⟩ := scc (n := r3) aM1
  refine KS ?_
  refine Oq Vm (Oq Va (KS ?_))
  refine Oq Vm (Oq Vm (Oq Vm (Oq (Vi sl22 0) ?_)))
  have hb15 := ok1 (i := v8_4.toNat) ho11 rng
  refine Oq (VldI sh3 0) ?_
  refine JO_call [1] rfl rfl rfl (OpC.clo (asv := [(vi (s.getD v8_4.toNat 0) : Value)] ++ fC) rfl rfl hfc rfl (by simp)) (hfF (s.getD v8_4.toNat 0) (getD_mem rng)  pre) rfl fun _ _ => ?_
  refine KS ?_
  refine Kc ?_ ?_
  ·intro h16
   refine KS ?_
   refine Oq Vm (Oq Va (KS ?_))
   have hR18 := q2 hM5 (.ret v8_4) (by simp only [sc_IndexFunc_int_L0, h12, h16, cs4])
   have hq := q4 hrr v8_4 (by simp only [sc_IndexFunc_int, h12, h16, hR18, cs4]); subst hq
   exact Kr () rfl (.tmp rfl .nil) [] en
  intro h16
  refine KS ?_
  refine Oq Vadd (Oq Vm (KS ?_))
  exact Kg (r14, (v8_4 + 1)) [0, 1] ⟨(q3 hM5 (by simp only [sc_IndexFunc_int_L0, h12, h16, cs4])), aM1, aM1, aM1, aM1⟩
 intro h12
 have g20 := df h12
 obtain rfl : r3 = 0 := by omega
 refine Ke ?_
 have hR21 := q2 hM5 (.brk ()) (by simp only [sc_IndexFunc_int_L0, h12, cs4])
 refine KS ?_
 refine Oq Va (KS ?_)
 have hq := q4 hrr (-1) (by simp only [sc_IndexFunc_int, h12, hR21, cs4]); subst hq
 exact Kr () rfl (.tmp rfl .nil) [] en
theorem fn109 (s : List Int) (sa0 : Option Addr) (sk0 : Nat) (fF : FuncId) (fC : List Value) (fp : Int → Bool) (fA : List SP) (hfc : callable Tryz.prog fF = true) (hfF : ∀ x ∈ s, i64ok x → FT Tryz.prog fF ([(vi x : Value)] ++ fC).toArray ([] ++ [pAll fA]) (fun _ : Unit => True) (fun _ => .bool (fp x)) (fun _ => [])) (rr : Bool) (hrr : sc_ContainsFunc_int s fp = rr) : FT Tryz.prog 109 #[vl sa0 sk0 s, .func (.func fF) #[] fC.toArray] [S sa0 sk0 s, pAll fA] (fun g : Unit => True) (fun g => vb rr) (fun g => []) := by
 refine FTi Tryz.func109 fun w0 M0 F0 => Fb 8 0 fun _ => Fo 0 fun ho2 => ?_
 refine KS ?_
 refine Oq Va (KS ?_)
 refine Oq Vm (Oq Vm ?_)
 refine letv (sc_IndexFunc_int s fp) fun rv3 hg4 => ?_
 have hc5 := fn147 s sa0 sk0 fF fC fp fA hfc hfF rv3 hg4
 refine Oc [0, 1] ca147 hc5 ?_
 rintro - he6
 unfold i64ok at he6
 refine Oq Vgeq (Oq Va (KS ?_))
 have hq := q4 hrr (decide (0 ≤ rv3)) (by simp only [sc_ContainsFunc_int, hg4, cs4]); subst hq
 exact Kr () rfl (.tmp rfl .nil) [] trivial
theorem fn110 (n : Int) (hn_0 : i64ok n) (rr : Bool) (hrr : resume_counters_1 n = rr) : FT Tryz.prog 110 #[vi n] [] (fun g : Unit => True) (fun g => vb rr) (fun g => []) := by
 refine FTi Tryz.func110 fun w0 M0 F0 => ?_
 unfold i64ok at hn_0
 refine KS ?_
 refine Oq Va (KS ?_)
 refine Oq Vm (Oq Vlss (Oq Vm ?_))
 refine Js 5 ?_ ?_
 ·intro h1
  have g2 := dt h1
  refine Osk (Osk (Oq Vpt (Oq Va (KS ?_))))
  have hq := q4 hrr true (by simp only [resume_counters_1, h1, cs4]); subst hq
  exact Kr () rfl (.tmp rfl .nil) [] trivial
 intro h1
 have g3 := df h1
 refine Oq Vm (Oq Vgtr (Oq Vpf (Oq Va (KS ?_))))
 have hq := q4 hrr (decide (1073741824 < n)) (by simp only [resume_counters_1, h1, cs4]); subst hq
 exact Kr () rfl (.tmp rfl .nil) [] trivial
theorem fn69 (l : List Int) (la0 : Option Addr) (lk0 : Nat) (rr : Bool) (hrr : resume_counters l = rr) : FT Tryz.prog 69 #[vl la0 lk0 l] [S la0 lk0 l] (fun g : Unit => True) (fun g => vb rr) (fun g => []) := by
 refine FTi Tryz.func69 fun w0 M0 F0 => Fb 8 0 fun _ => Fo 0 fun ho2 => ?_
 refine KS ?_
 refine Oq Va (KS ?_)
 refine Oq Vm ?_
 refine JJ_ent (Ent.pall [] rfl rfl) ?_
 refine letv (sc_ContainsFunc_int l (fun x => resume_counters_1 x)) fun rv3 hg4 => ?_
 have hc5 := fn109 l la0 lk0 110 [] (fun x => resume_counters_1 x) [] ca110 (fun x hx hq0 => FT_pall (A1 := _) (fn110 x   hq0 _ rfl)) rv3 hg4
 refine Oc [1, 0] ca109 hc5 ?_
 rintro - -
 refine Oq Vnot (Oq Va (KS ?_))
 have hq := q4 hrr (!rv3) (by simp only [resume_counters, hg4, cs4]); subst hq
 exact Kr () rfl (.tmp rfl .nil) [] trivial
theorem fn111 (s : List GSet) (sa0 : Option Addr) (sk0 : Nat) (fF : FuncId) (fC : List Value) (fp : GSet → Bool) (fA : List SP) (hfc : callable Tryz.prog fF = true) (hfF : ∀ x ∈ s, ∀ (a1 : Option Addr) (k1 : Nat), i64ok x.Width → FT Tryz.prog fF ([(.agg #[vi x.Width, vl a1 k1 x.Words] : Value)] ++ fC).toArray ([S a1 k1 x.Words] ++ [pAll fA]) (fun _ : Unit => True) (fun _ => .bool (fp x)) (fun _ => [])) (rr : Int) (hrr : sc_IndexFunc_Set s fp = rr) : FT Tryz.prog 111 #[vl sa0 sk0 s, .func (.func fF) #[] fC.toArray] [S sa0 sk0 s, pAll fA] (fun g : Unit => i64ok rr) (fun g => vi rr) (fun g => []) := by
 refine FTi Tryz.func111 fun w0 M0 F0 => Fb 32 0 fun _ => ?_
 refine KS ?_
 refine Oq Va (KS ?_)
 refine Oq Vm (Oq (Vlen sl24) (Oq Vm (KS ?_)))
 refine Kl (γ := Nat × Int) (fun (r2, v8_3) => ⟨[(0, vl sa0 sk0 s), (1, .func (.func fF) #[] fC.toArray), (7, vi (s.length : Int)), (8, vi v8_3)], [S sa0 sk0 s, pAll fA], sc_IndexFunc_Set_L0 s fp r2 v8_3 = sc_IndexFunc_Set_L0 s fp (((s.length : Int) - 0).toNat) 0 ∧ r2 = ((s.length : Int) - v8_3).toNat ∧ (0 : Int) ≤ v8_3 ∧ v8_3 ≤ (s.length : Int) ∧ (-9223372036854775808 ≤ v8_3 ∧ v8_3 ≤ 9223372036854775807), r2⟩) (((s.length : Int) - 0).toNat, 0) [0, 1] ⟨rfl, rfl, aM1, aM1, aM1⟩ ?_
 rintro ⟨r2, v8_3⟩ ⟨hM4, hr5, hi6, hi7, hk8⟩
 refine JJ_nx fun _ _ hL hA => ?_; dsimp only at hL hA; subst hL hA
 refine Fb 32 0 fun _ => KS ?_
 refine Oq Vlss (KS ?_)
 refine Kc ?_ ?_
 ·intro h10
  have g11 := dt h10
  obtain ⟨r12, rfl⟩ := scc (n := r2) aM1
  refine KS ?_
  refine Oq Vm (Oq Va (KS ?_))
  refine Oq Vm (Oq Vm (Oq Vm (Oq (Vi sl24 0) ?_)))
  refine JJ_peek_GSet v8_3.toNat 0 rfl rng fun a13 k14 hb15 => ?_
  unfold i64ok at hb15
  refine Fb 8 1 fun _ => Oq (VldA sh39 0) ?_
  refine JO_call [1, 3] rfl rfl rfl (OpC.clo (asv := [(.agg #[vi ((s.getD v8_3.toNat default).Width), vl a13 k14 ((s.getD v8_3.toNat default).Words)] : Value)] ++ fC) rfl rfl hfc rfl (by simp)) (hfF (s.getD v8_3.toNat default) (getD_mem rng) a13 k14 pre) rfl fun _ _ => ?_
  refine KS ?_
  refine Kc ?_ ?_
  ·intro h17
   refine KS ?_
   refine Oq Vm (Oq Va (KS ?_))
   have hR19 := q2 hM4 (.ret v8_3) (by simp only [sc_IndexFunc_Set_L0, h10, h17, cs4])
   have hq := q4 hrr v8_3 (by simp only [sc_IndexFunc_Set, h10, h17, hR19, cs4]); subst hq
   exact Kr () rfl (.tmp rfl .nil) [] en
  intro h17
  refine KS ?_
  refine Oq Vadd (Oq Vm (KS ?_))
  exact Kg (r12, (v8_3 + 1)) [2, 3] ⟨(q3 hM4 (by simp only [sc_IndexFunc_Set_L0, h10, h17, cs4])), aM1, aM1, aM1, aM1⟩
 intro h10
 have g21 := df h10
 obtain rfl : r2 = 0 := by omega
 refine Ke ?_
 have hR22 := q2 hM4 (.brk ()) (by simp only [sc_IndexFunc_Set_L0, h10, cs4])
 refine KS ?_
 refine Oq Va (KS ?_)
 have hq := q4 hrr (-1) (by simp only [sc_IndexFunc_Set, h10, hR22, cs4]); subst hq
 exact Kr () rfl (.tmp rfl .nil) [] en
theorem fn70 (s : List GSet) (sa0 : Option Addr) (sk0 : Nat) (fF : FuncId) (fC : List Value) (fp : GSet → Bool) (fA : List SP) (hfc : callable Tryz.prog fF = true) (hfF : ∀ x ∈ s, ∀ (a1 : Option Addr) (k1 : Nat), i64ok x.Width → FT Tryz.prog fF ([(.agg #[vi x.Width, vl a1 k1 x.Words] : Value)] ++ fC).toArray ([S a1 k1 x.Words] ++ [pAll fA]) (fun _ : Unit => True) (fun _ => .bool (fp x)) (fun _ => [])) (rr : Bool) (hrr : sc_ContainsFunc_Set s fp = rr) : FT Tryz.prog 70 #[vl sa0 sk0 s, .func (.func fF) #[] fC.toArray] [S sa0 sk0 s, pAll fA] (fun g : Unit => True) (fun g => vb rr) (fun g => []) := by
 refine FTi Tryz.func70 fun w0 M0 F0 => Fb 32 0 fun _ => ?_
 refine KS ?_
 refine Oq Va (KS ?_)
 refine Oq Vm (Oq Vm ?_)
 refine letv (sc_IndexFunc_Set s fp) fun rv2 hg3 => ?_
 have hc4 := fn111 s sa0 sk0 fF fC fp fA hfc hfF rv2 hg3
 refine Oc [0, 1] ca111 hc4 ?_
 rintro - he5
 unfold i64ok at he5
 refine Oq Vgeq (Oq Va (KS ?_))
 have hq := q4 hrr (decide (0 ≤ rv2)) (by simp only [sc_ContainsFunc_Set, hg3, cs4]); subst hq
 exact Kr () rfl (.tmp rfl .nil) [] trivial
theorem fn112 (width : Int) (hwidth_0 : i64ok width) (rr : Bool) (hrr : bt_ranged width = rr) : FT Tryz.prog 112 #[vi width] [] (fun g : Unit => True) (fun g => vb rr) (fun g => []) := by
 refine FTi Tryz.func112 fun w0 M0 F0 => ?_
 unfold i64ok at hwidth_0
 refine KS ?_
 refine Oq Va (KS ?_)
 refine Oq Vm (Oq Vgeq (Oq Vm ?_))
 refine Js 5 ?_ ?_
 ·intro h1
  have g2 := dt h1
  refine Oq Vm (Oq Vleq (Oq Vpt (Oq Va (KS ?_))))
  have hq := q4 hrr (decide (width ≤ 256)) (by simp only [bt_ranged, h1, cs4]); subst hq
  exact Kr () rfl (.tmp rfl .nil) [] trivial
 intro h1
 have g3 := df h1
 refine Osk (Osk (Oq Vpf (Oq Va (KS ?_))))
 have hq := q4 hrr false (by simp only [bt_ranged, h1, cs4]); subst hq
 exact Kr () rfl (.tmp rfl .nil) [] trivial
theorem fn113 (width : Int) (hwidth_0 : i64ok width) (hw0 : 0 ≤ width ∧ width ≤ 1000000) (rr : Int) (hrr : bt_words width = rr) : FT Tryz.prog 113 #[vi width] [] (fun g : Unit => i64ok rr ∧ (rr = (width + 63) / 64)) (fun g => vi rr) (fun g => []) := by
 refine FTi Tryz.func113 fun w0 M0 F0 => ?_
 unfold i64ok at hwidth_0
 refine KS ?_
 refine Oq Va (KS ?_)
 refine Oq Vm (Oq Vadd (Oq Vsub (Oq Vquo (Oq Va (KS ?_)))))
 have hq := q4 hrr (((width + 64) - 1) / 64) (by simp only [bt_words, cs4]); subst hq
 exact Kr () rfl (.tmp rfl .nil) [] en
theorem fn114 (width : Int) (hwidth_0 : i64ok width) (rr : BitVec 64) (hrr : bt_spare width = rr) : FT Tryz.prog 114 #[vi width] [] (fun g : Unit => True) (fun g => u64 rr) (fun g => []) := by
 refine FTi Tryz.func114 fun w0 M0 F0 => ?_
 unfold i64ok at hwidth_0
 refine KS ?_
 refine Oq Va (KS ?_)
 refine Oq Vm (Oq (VcU un3 un69) (Oq (VremU (b := 64#64) (by simp)) (Oq (VshlU (a := 18446744073709551615#64)) (Oq Va (KS ?_)))))
 have hq := q4 hrr (18446744073709551615#64 <<< ((((BitVec.ofInt 64 width) % 64#64).toNat : Int)).toNat) (by simp only [bt_spare, cs4]); subst hq
 exact Kr () rfl (.tmp rfl .nil) [] trivial
theorem fn72 (s : GSet) (sa1 : Option Addr) (sk1 : Nat) (hs_0 : i64ok s.Width) (rr : Bool) (hrr : bt_Valid s = rr) : FT Tryz.prog 72 #[.agg #[vi s.Width, vl sa1 sk1 s.Words]] [S sa1 sk1 s.Words] (fun g : Unit => True) (fun g => vb rr) (fun g => []) := by
 refine FTi Tryz.func72 fun w0 M0 F0 => ?_
 unfold i64ok at hs_0
 refine Fb 8 0 fun _ => KS ?_
 refine Oa (Ab [vi s.Width, vl sa1 sk1 s.Words]) fun p2 => Oq Va (KS ?_)
 refine JK_drawK [0, 1, 3, 7, 15, 31, 63, 127, 31, 287, 799, 2047, 4095] fmix ?_
 refine Dv [0] (Vfa fo39_0 0) (Dv [0] (VldF sh3 0) ?_)
 refine letv (bt_ranged s.Width) fun rv3 hg4 => ?_
 refine Dx [] [] [0] (fun G => vb rv3) [fun G => SP.fact (True)] (fun G => xC [] ca112 (fn112 s.Width pre rv3 hg4)) (Dv [] Vnot ?_)
 refine bool_split (!rv3) ?_ ?_
 ·intro h5
  have h7 := not_true h5
  refine Db h5 [] Vm (Ds (Ds (Ds (Ds (Ds (Ds (Ds (Dv [] Vpt ?_))))))))
  refine Dn ⟨by kernel_rfl, fun G => ?_⟩
  refine Jw2 [(1, p2), (15, vb true)] [0, 1] [SP.fact (True)] ?_
  refine Jk [0, 1] (Kt ?_)
  refine KS ?_
  refine Oq Va (KS ?_)
  have hq := q4 hrr false (by simp only [bt_Valid, h5, h7, hg4, cs4]); subst hq
  exact Kr () rfl (.tmp rfl .nil) [] trivial
 intro h5
 have h10 := not_false h5
 try have hrg := ranged_iff (w := s.Width) (by simp only [h5, h10, hg4])
 refine Db h5 [] Vm (Dv [0] (Vfa fo39_1 0) (Dv [0] (VldF sh37 0) (Dv [] (Vlen sl37) (Dv [0] (Vfa fo39_0 0) (Dv [0] (VldF sh3 0) ?_)))))
 refine letv (bt_words s.Width) fun rv12 hg13 => ?_
 refine Dx [] [] [0] (fun G => vi rv12) [fun G => SP.fact (i64ok rv12 ∧ (rv12 = (s.Width + 63) / 64))] (fun G => xC [] ca113 (fn113 s.Width pre pre rv12 hg13)) (Dv [] Vneq (Dv [] Vpf ?_))
 refine Dn ⟨by kernel_rfl, fun G => ?_⟩
 refine Jw2 [(1, p2), (15, vb ((s.Words.length : Int) != rv12))] [0, 1] [SP.fact (True), SP.fact (i64ok rv12 ∧ (rv12 = (s.Width + 63) / 64))] ?_
 refine Jf 3 rfl ?_; rintro ⟨he14, he15⟩
 unfold i64ok at he14
 refine Jk [0, 1] ?_
 refine Kc ?_ ?_
 ·intro h16
  have g17 := ne_of_bne h16
  refine KS ?_
  refine Oq Va (KS ?_)
  have hq := q4 hrr false (by simp only [bt_Valid, h5, h10, h16, hg4, hg13, cs4]); subst hq
  exact Kr () rfl (.tmp rfl .nil) [] trivial
 intro h16
 have g18 := eq_of_bne_false h16
 refine KS ?_
 refine JK_drawK [0, 1, 3, 7, 15, 31, 63, 31, 159, 415, 927, 2047, 4095, 31, 8223, 24607, 65535, 131071, 262143, 524287] fmix ?_
 refine Dv [0] (Vfa fo39_0 0) (Dv [0] (VldF sh3 0) (Dv [] Vrem (Dv [] Veql ?_)))
 refine bool_split ((s.Width % 64) == 0) ?_ ?_
 ·intro h19
  have g20 := eq_of_beq h19
  refine Db h19 [] Vm (Ds (Ds (Ds (Ds (Ds (Ds (Ds (Ds (Ds ?_)))))))))
  refine Ds (Ds (Ds (Ds (Dv [] Vpt (Dv [] Va ?_)))))
  refine Dn ⟨by kernel_rfl, fun G => ?_⟩
  refine Jw2 [(2, vb true)] [0, 1] [] ?_
  have hq := q4 hrr true (by simp only [bt_Valid, h5, h10, h16, h19, hg4, hg13, cs4]); subst hq
  exact Kr () rfl (.tmp rfl .nil) [] trivial
 intro h19
 have g21 := ne_of_beq_false h19
 refine Db h19 [] Vm (Dv [0] (Vfa fo39_1 0) (Dv [0] (VldF sh37 0) (Dv [0] (Vfa fo39_1 0) (Dv [0] (VldF sh37 0) (Dv [] (Vlen sl37) (Dv [] Vsub (Dv [1] (Vi sl37 0) (Dv [1] (VldU sh68 0) (Dv [0] (Vfa fo39_0 0) ?_)))))))))
 refine Dv [0] (VldF sh3 0) ?_
 refine letv (bt_spare s.Width) fun rv22 hg23 => ?_
 refine Dx [] [] [0] (fun G => u64 rv22) [fun G => SP.fact (True)] (fun G => xC [] ca114 (fn114 s.Width pre rv22 hg23)) (Dv [] VandU (Dv [] (VeqlU (b := 0#64)) (Dv [] Vpf (Dv [] Va ?_))))
 refine Dn ⟨by kernel_rfl, fun G => ?_⟩
 refine Jw2 [(2, vb (((s.Words.getD (((s.Words.length : Int) - 1) : Int).toNat 0#64) &&& rv22) == 0#64))] [0, 1] [SP.fact (True)] ?_
 refine Jk [0, 1] ?_
 have hq := q4 hrr (((s.Words.getD (((s.Words.length : Int) - 1) : Int).toNat 0#64) &&& rv22) == 0#64) (by simp only [bt_Valid, h5, h10, h16, h19, hg4, hg13, hg23, cs4]); subst hq
 exact Kr () rfl (.tmp rfl .nil) [] trivial
theorem fn71 (s : GSet) (sa1 : Option Addr) (sk1 : Nat) (hs_0 : i64ok s.Width) (rr : Bool) (hrr : resume_encodable_1 s = rr) : FT Tryz.prog 71 #[.agg #[vi s.Width, vl sa1 sk1 s.Words]] [S sa1 sk1 s.Words] (fun g : Unit => True) (fun g => vb rr) (fun g => []) := by
 refine FTi Tryz.func71 fun w0 M0 F0 => ?_
 unfold i64ok at hs_0
 refine Fb 8 0 fun _ => KS ?_
 refine Oa (Ab [vi s.Width, vl sa1 sk1 s.Words]) fun p2 => Oq Va (KS ?_)
 refine Oq (VldA sh39 0) ?_
 refine letv (bt_Valid s) fun rv3 hg4 => ?_
 have hc5 := fn72 s sa1 sk1 pre rv3 hg4
 refine Oc [1] ca72 hc5 ?_
 rintro - -
 refine Oq Vnot (Oq Va (KS ?_))
 have hq := q4 hrr (!rv3) (by simp only [resume_encodable_1, hg4, cs4]); subst hq
 exact Kr () rfl (.tmp rfl .nil) [] trivial
theorem fn44 (st : GState) (sta1 : Option Addr) (stk1 : Nat) (sta2 : Option Addr) (stk2 : Nat) (sta5 : Option Addr) (stk5 : Nat) (sta6 : Option Addr) (stk6 : Nat) (hst_0 : i64ok st.Phase) (hst_3 : i64ok st.At) (hst_4 : i64ok st.Edge) (hst_7 : i64ok st.Steps) (rr : Bool) (hrr : resume_encodable st = rr) : FT Tryz.prog 44 #[.agg #[vi st.Phase, vl sta1 stk1 st.Cone, vl sta2 stk2 st.Leaf, vi st.At, vi st.Edge, vl sta5 stk5 st.Values, vl sta6 stk6 st.Queue, vi st.Steps]] [S sta1 stk1 st.Cone, S sta2 stk2 st.Leaf, S sta5 stk5 st.Values, S sta6 stk6 st.Queue] (fun g : Unit => True) (fun g => vb rr) (fun g => []) := by
 refine FTi Tryz.func44 fun w0 M0 F0 => ?_
 unfold i64ok at hst_0 hst_3 hst_4 hst_7
 refine Fb 8 0 fun _ => Fo 0 fun ho2 => Fb 1 1 fun _ => Fb 32 2 fun _ => Fb 8 3 fun _ => Fo 3 fun ho6 => KS ?_
 refine Oa (Ab [vi st.Phase, vl sta1 stk1 st.Cone, vl sta2 stk2 st.Leaf, vi st.At, vi st.Edge, vl sta5 stk5 st.Values, vl sta6 stk6 st.Queue, vi st.Steps]) fun p7 => Oq Va (KS ?_)
 refine Oq (Vfa fo26_1 0) (Oq (VldF sh22 0) (Oq (Vlen sl22) (Oq Va (KS ?_))))
 refine Oq (Vfa fo26_0 0) (Oq (VldF sh3 0) (Oq Vgeq (Oq Vm ?_)))
 refine Js 10 ?_ ?_
 ·intro h8
  have g9 := dt h8
  refine Oq (Vfa fo26_0 0) (Oq (VldF sh3 0) (Oq Vleq (Oq Vpt (Oq Vm ?_))))
  refine Js 15 ?_ ?_
  ·intro h10
   have g11 := dt h10
   refine Oq Vm (Oq Vgeq (Oq Vpt (Oq Vm ?_)))
   refine Js 19 ?_ ?_
   ·intro h12
    have g13 := dt h12
    refine Oq Vm (Oq Vleq (Oq Vpt (Oq Vm ?_)))
    refine Js 23 ?_ ?_
    ·intro h14
     have g15 := dt h14
     refine Oq (Vfa fo26_2 0) (Oq (VldF sh23 0) (Oq (Vlen sl23) (Oq Vm (Oq Veql (Oq Vpt (Oq Vm ?_))))))
     refine Js 30 ?_ ?_
     ·intro h16
      have g17 := eq_of_beq h16
      refine Oq (Vfa fo26_5 0) (Oq (VldF sh24 0) (Oq (Vlen sl24) (Oq Veql (Oq Vm ?_))))
      refine Js 35 ?_ ?_
      ·intro h18
       have g19 := eq_of_beq h18
       refine Osk (Osk (Osk (Osk (Osk (Oq Vpt (Oq Vpt (Oq Vm (Oq (Vfa fo26_6 0) (Oq (VldF sh22 0) ?_)))))))))
       refine Oq (Vlen sl22) (Oq Vleq (Oq Vpt (Oq Vm ?_)))
       refine Js 49 ?_ ?_
       ·intro h20
        have g21 := dt h20
        refine Oq (Vfa fo26_1 0) (Oq (VldF sh22 0) ?_)
        refine letv (resume_counters st.Cone) fun rv22 hg23 => ?_
        have hc24 := fn69 st.Cone sta1 stk1 rv22 hg23
        refine Oc [1] ca69 hc24 ?_
        rintro - -
        refine Oq Vpt (Oq Vm ?_)
        refine Js 54 ?_ ?_
        ·intro h25
         refine Oq (Vfa fo26_6 0) (Oq (VldF sh22 0) ?_)
         refine letv (resume_counters st.Queue) fun rv27 hg28 => ?_
         have hc29 := fn69 st.Queue sta6 stk6 rv27 hg28
         refine Oc [4] ca69 hc29 ?_
         rintro - -
         refine Oq Vpt (Oq Vm ?_)
         refine Js 59 ?_ ?_
         ·intro h30
          refine Oq (Vfa fo26_3 0) (Oq (VldF sh3 0) (Oq (Vfa fo26_4 0) (Oq (VldF sh3 0) (Oq (Vfa fo26_7 0) (Oq (VldF sh3 0) (Oa (AsV sl22 sz22 [vi st.At, vi st.Edge, vi st.Steps] [vi st.At, vi st.Edge, vi st.Steps]) fun c32 => ?_))))))
          refine Jo 0 ?_; rintro a33 k34 rfl
          refine Jl [0] (Ent.crInt _ [st.At, st.Edge, st.Steps] _ _ rfl rfl (by intro x hx; simp only [List.mem_cons, List.not_mem_nil, or_false] at hx; rcases hx with rfl | rfl | rfl <;> (unfold i64ok; omega)) aB1) ?_
          refine letv (resume_counters [st.At, st.Edge, st.Steps]) fun rv35 hg36 => ?_
          refine Oc [0] ca69 (FT_borrow (A := _) (fun _ _ h => by cases h) (FT_ent (Ent.take (is := [0]) rfl) (fn69 ([st.At, st.Edge, st.Steps]) a33 k34 rv35 hg36))) ?_ (ht := rfl)
          rintro - -
          refine Oq Vpt (Oq Vm ?_)
          refine Js 69 ?_ ?_
          ·intro h37
           refine Oq (Vfa fo26_5 1) (Oq (VldF sh24 1) ?_)
           refine JJ_ent (Ent.pall [] rfl rfl) ?_
           refine letv (sc_ContainsFunc_Set st.Values (fun x => resume_encodable_1 x)) fun rv39 hg40 => ?_
           have hc41 := fn70 st.Values sta5 stk5 71 [] (fun x => resume_encodable_1 x) [] ca71 (fun x hx a1 k1 hq0 => FT_pall (A1 := _) (fn71 x a1 k1  hq0 _ rfl)) rv39 hg40
           refine Oc [5, 0] ca70 hc41 ?_
           rintro - -
           refine Oq Vnot (Oq Vpt (Oq Va (KS ?_)))
           have hq := q4 hrr (!rv39) (by simp only [resume_encodable, h8, h10, h12, h14, h16, h18, h20, h25, h30, h37, hg23, hg28, hg36, hg40, cs4]); subst hq
           exact Kr () rfl (.tmp rfl .nil) [] trivial
          intro h37
          refine Osk (Osk (Osk (Osk (Oq Vpf (Oq Va (KS ?_))))))
          have hq := q4 hrr false (by simp only [resume_encodable, h8, h10, h12, h14, h16, h18, h20, h25, h30, h37, hg23, hg28, hg36, cs4]); subst hq
          exact Kr () rfl (.tmp rfl .nil) [] trivial
         intro h30
         refine Osk (Osk (Osk (Osk (Osk (Osk (Osk (Osk (Oq Vpf (Oq Vm ?_)))))))))
         refine Osk (Osk (Osk (Osk (Oq Vpf (Oq Va (KS ?_))))))
         have hq := q4 hrr false (by simp only [resume_encodable, h8, h10, h12, h14, h16, h18, h20, h25, h30, hg23, hg28, cs4]); subst hq
         exact Kr () rfl (.tmp rfl .nil) [] trivial
        intro h25
        refine Osk (Osk (Osk (Oq Vpf (Oq Vm (Osk (Osk (Osk (Osk (Osk ?_)))))))))
        refine Osk (Osk (Osk (Oq Vpf (Oq Vm (Osk (Osk (Osk (Osk (Oq Vpf ?_)))))))))
        refine Oq Va (KS ?_)
        have hq := q4 hrr false (by simp only [resume_encodable, h8, h10, h12, h14, h16, h18, h20, h25, hg23, cs4]); subst hq
        exact Kr () rfl (.tmp rfl .nil) [] trivial
       intro h20
       have g45 := df h20
       refine Osk (Osk (Osk (Oq Vpf (Oq Vm (Osk (Osk (Osk (Oq Vpf (Oq Vm ?_)))))))))
       refine Osk (Osk (Osk (Osk (Osk (Osk (Osk (Osk (Oq Vpf (Oq Vm ?_)))))))))
       refine Osk (Osk (Osk (Osk (Oq Vpf (Oq Va (KS ?_))))))
       have hq := q4 hrr false (by simp only [resume_encodable, h8, h10, h12, h14, h16, h18, h20, cs4]); subst hq
       exact Kr () rfl (.tmp rfl .nil) [] trivial
      intro h18
      have g46 := ne_of_beq_false h18
      refine Oq (Vfa fo26_5 0) (Oq (VldF sh24 0) (Oq (Vlen sl24) (Oq Vm (Oq Veql (Oq Vpf (Oq Vpt (Oq Vm ?_)))))))
      refine Js 43 ?_ ?_
      ·intro h47
       have g48 := eq_of_beq h47
       refine Oq (Vfa fo26_6 0) (Oq (VldF sh22 0) (Oq (Vlen sl22) (Oq Vleq (Oq Vpt (Oq Vm ?_)))))
       refine Js 49 ?_ ?_
       ·intro h49
        have g50 := dt h49
        refine Oq (Vfa fo26_1 0) (Oq (VldF sh22 0) ?_)
        refine letv (resume_counters st.Cone) fun rv51 hg52 => ?_
        have hc53 := fn69 st.Cone sta1 stk1 rv51 hg52
        refine Oc [1] ca69 hc53 ?_
        rintro - -
        refine Oq Vpt (Oq Vm ?_)
        refine Js 54 ?_ ?_
        ·intro h54
         refine Oq (Vfa fo26_6 0) (Oq (VldF sh22 0) ?_)
         refine letv (resume_counters st.Queue) fun rv56 hg57 => ?_
         have hc58 := fn69 st.Queue sta6 stk6 rv56 hg57
         refine Oc [4] ca69 hc58 ?_
         rintro - -
         refine Oq Vpt (Oq Vm ?_)
         refine Js 59 ?_ ?_
         ·intro h59
          refine Oq (Vfa fo26_3 0) (Oq (VldF sh3 0) (Oq (Vfa fo26_4 0) (Oq (VldF sh3 0) (Oq (Vfa fo26_7 0) (Oq (VldF sh3 0) (Oa (AsV sl22 sz22 [vi st.At, vi st.Edge, vi st.Steps] [vi st.At, vi st.Edge, vi st.Steps]) fun c61 => ?_))))))
          refine Jo 0 ?_; rintro a62 k63 rfl
          refine Jl [0] (Ent.crInt _ [st.At, st.Edge, st.Steps] _ _ rfl rfl (by intro x hx; simp only [List.mem_cons, List.not_mem_nil, or_false] at hx; rcases hx with rfl | rfl | rfl <;> (unfold i64ok; omega)) aB1) ?_
          refine letv (resume_counters [st.At, st.Edge, st.Steps]) fun rv64 hg65 => ?_
          refine Oc [0] ca69 (FT_borrow (A := _) (fun _ _ h => by cases h) (FT_ent (Ent.take (is := [0]) rfl) (fn69 ([st.At, st.Edge, st.Steps]) a62 k63 rv64 hg65))) ?_ (ht := rfl)
          rintro - -
          refine Oq Vpt (Oq Vm ?_)
          refine Js 69 ?_ ?_
          ·intro h66
           refine Oq (Vfa fo26_5 1) (Oq (VldF sh24 1) ?_)
           refine JJ_ent (Ent.pall [] rfl rfl) ?_
           refine letv (sc_ContainsFunc_Set st.Values (fun x => resume_encodable_1 x)) fun rv68 hg69 => ?_
           have hc70 := fn70 st.Values sta5 stk5 71 [] (fun x => resume_encodable_1 x) [] ca71 (fun x hx a1 k1 hq0 => FT_pall (A1 := _) (fn71 x a1 k1  hq0 _ rfl)) rv68 hg69
           refine Oc [5, 0] ca70 hc70 ?_
           rintro - -
           refine Oq Vnot (Oq Vpt (Oq Va (KS ?_)))
           have hq := q4 hrr (!rv68) (by simp only [resume_encodable, h8, h10, h12, h14, h16, h18, h47, h49, h54, h59, h66, hg52, hg57, hg65, hg69, cs4]); subst hq
           exact Kr () rfl (.tmp rfl .nil) [] trivial
          intro h66
          refine Osk (Osk (Osk (Osk (Oq Vpf (Oq Va (KS ?_))))))
          have hq := q4 hrr false (by simp only [resume_encodable, h8, h10, h12, h14, h16, h18, h47, h49, h54, h59, h66, hg52, hg57, hg65, cs4]); subst hq
          exact Kr () rfl (.tmp rfl .nil) [] trivial
         intro h59
         refine Osk (Osk (Osk (Osk (Osk (Osk (Osk (Osk (Oq Vpf (Oq Vm ?_)))))))))
         refine Osk (Osk (Osk (Osk (Oq Vpf (Oq Va (KS ?_))))))
         have hq := q4 hrr false (by simp only [resume_encodable, h8, h10, h12, h14, h16, h18, h47, h49, h54, h59, hg52, hg57, cs4]); subst hq
         exact Kr () rfl (.tmp rfl .nil) [] trivial
        intro h54
        refine Osk (Osk (Osk (Oq Vpf (Oq Vm (Osk (Osk (Osk (Osk (Osk ?_)))))))))
        refine Osk (Osk (Osk (Oq Vpf (Oq Vm (Osk (Osk (Osk (Osk (Oq Vpf ?_)))))))))
        refine Oq Va (KS ?_)
        have hq := q4 hrr false (by simp only [resume_encodable, h8, h10, h12, h14, h16, h18, h47, h49, h54, hg52, cs4]); subst hq
        exact Kr () rfl (.tmp rfl .nil) [] trivial
       intro h49
       have g74 := df h49
       refine Osk (Osk (Osk (Oq Vpf (Oq Vm (Osk (Osk (Osk (Oq Vpf (Oq Vm ?_)))))))))
       refine Osk (Osk (Osk (Osk (Osk (Osk (Osk (Osk (Oq Vpf (Oq Vm ?_)))))))))
       refine Osk (Osk (Osk (Osk (Oq Vpf (Oq Va (KS ?_))))))
       have hq := q4 hrr false (by simp only [resume_encodable, h8, h10, h12, h14, h16, h18, h47, h49, cs4]); subst hq
       exact Kr () rfl (.tmp rfl .nil) [] trivial
      intro h47
      have g75 := ne_of_beq_false h47
      refine Osk (Osk (Osk (Osk (Oq Vpf (Oq Vm (Osk (Osk (Osk (Oq Vpf ?_)))))))))
      refine Oq Vm (Osk (Osk (Osk (Oq Vpf (Oq Vm (Osk (Osk (Osk (Osk ?_)))))))))
      refine Osk (Osk (Osk (Osk (Oq Vpf (Oq Vm (Osk (Osk (Osk (Osk ?_)))))))))
      refine Oq Vpf (Oq Va (KS ?_))
      have hq := q4 hrr false (by simp only [resume_encodable, h8, h10, h12, h14, h16, h18, h47, cs4]); subst hq
      exact Kr () rfl (.tmp rfl .nil) [] trivial
     intro h16
     have g76 := ne_of_beq_false h16
     refine Osk (Osk (Osk (Osk (Osk (Osk (Osk (Osk (Osk (Osk ?_)))))))))
     refine Osk (Oq Vpf (Oq Vm (Osk (Osk (Osk (Osk (Oq Vpf (Oq Vm (Osk ?_)))))))))
     refine Osk (Osk (Oq Vpf (Oq Vm (Osk (Osk (Osk (Oq Vpf (Oq Vm (Osk ?_)))))))))
     refine Osk (Osk (Osk (Osk (Osk (Osk (Osk (Oq Vpf (Oq Vm (Osk ?_)))))))))
     refine Osk (Osk (Osk (Oq Vpf (Oq Va (KS ?_)))))
     have hq := q4 hrr false (by simp only [resume_encodable, h8, h10, h12, h14, h16, cs4]); subst hq
     exact Kr () rfl (.tmp rfl .nil) [] trivial
    intro h14
    have g77 := df h14
    refine Osk (Osk (Osk (Osk (Osk (Oq Vpf (Oq Vm (Osk (Osk (Osk ?_)))))))))
    refine Osk (Osk (Osk (Osk (Osk (Osk (Osk (Osk (Oq Vpf (Oq Vm ?_)))))))))
    refine Osk (Osk (Osk (Osk (Oq Vpf (Oq Vm (Osk (Osk (Osk (Oq Vpf ?_)))))))))
    refine Oq Vm (Osk (Osk (Osk (Oq Vpf (Oq Vm (Osk (Osk (Osk (Osk ?_)))))))))
    refine Osk (Osk (Osk (Osk (Oq Vpf (Oq Vm (Osk (Osk (Osk (Osk ?_)))))))))
    refine Oq Vpf (Oq Va (KS ?_))
    have hq := q4 hrr false (by simp only [resume_encodable, h8, h10, h12, h14, cs4]); subst hq
    exact Kr () rfl (.tmp rfl .nil) [] trivial
   intro h12
   have g78 := df h12
   refine Osk (Osk (Oq Vpf (Oq Vm (Osk (Osk (Osk (Osk (Osk (Oq Vpf ?_)))))))))
   refine Oq Vm (Osk (Osk (Osk (Osk (Osk (Osk (Osk (Osk (Osk ?_)))))))))
   refine Osk (Osk (Oq Vpf (Oq Vm (Osk (Osk (Osk (Osk (Oq Vpf (Oq Vm ?_)))))))))
   refine Osk (Osk (Osk (Oq Vpf (Oq Vm (Osk (Osk (Osk (Oq Vpf (Oq Vm ?_)))))))))
   refine Osk (Osk (Osk (Osk (Osk (Osk (Osk (Osk (Oq Vpf (Oq Vm ?_)))))))))
   refine Osk (Osk (Osk (Osk (Oq Vpf (Oq Va (KS ?_))))))
   have hq := q4 hrr false (by simp only [resume_encodable, h8, h10, h12, cs4]); subst hq
   exact Kr () rfl (.tmp rfl .nil) [] trivial
  intro h10
  have g79 := df h10
  refine Osk (Osk (Oq Vpf (Oq Vm (Osk (Osk (Oq Vpf (Oq Vm (Osk (Osk ?_)))))))))
  refine Osk (Osk (Osk (Oq Vpf (Oq Vm (Osk (Osk (Osk (Osk (Osk ?_)))))))))
  refine Osk (Osk (Osk (Osk (Osk (Osk (Oq Vpf (Oq Vm (Osk (Osk ?_)))))))))
  refine Osk (Osk (Oq Vpf (Oq Vm (Osk (Osk (Osk (Oq Vpf (Oq Vm (Osk ?_)))))))))
  refine Osk (Osk (Oq Vpf (Oq Vm (Osk (Osk (Osk (Osk (Osk (Osk ?_)))))))))
  refine Osk (Osk (Oq Vpf (Oq Vm (Osk (Osk (Osk (Osk (Oq Vpf (Oq Va ?_)))))))))
  refine KS ?_
  have hq := q4 hrr false (by simp only [resume_encodable, h8, h10, cs4]); subst hq
  exact Kr () rfl (.tmp rfl .nil) [] trivial
 intro h8
 have g80 := df h8
 refine Osk (Osk (Osk (Oq Vpf (Oq Vm (Osk (Osk (Oq Vpf (Oq Vm (Osk ?_)))))))))
 refine Osk (Oq Vpf (Oq Vm (Osk (Osk (Osk (Osk (Osk (Oq Vpf (Oq Vm ?_)))))))))
 refine Osk (Osk (Osk (Osk (Osk (Osk (Osk (Osk (Osk (Osk ?_)))))))))
 refine Osk (Oq Vpf (Oq Vm (Osk (Osk (Osk (Osk (Oq Vpf (Oq Vm (Osk ?_)))))))))
 refine Osk (Osk (Oq Vpf (Oq Vm (Osk (Osk (Osk (Oq Vpf (Oq Vm (Osk ?_)))))))))
 refine Osk (Osk (Osk (Osk (Osk (Osk (Osk (Oq Vpf (Oq Vm (Osk ?_)))))))))
 refine Osk (Osk (Osk (Oq Vpf (Oq Va (KS ?_)))))
 have hq := q4 hrr false (by simp only [resume_encodable, h8, cs4]); subst hq
 exact Kr () rfl (.tmp rfl .nil) [] trivial
theorem fn73 (b : List UInt8) (ba0 : Option Addr) (bk0 : Nat) (rr : Int) (hrr : uvarint_Checksum b = rr) : FT Tryz.prog 73 #[vl ba0 bk0 b] [S ba0 bk0 b] (fun g : Unit => True) (fun g => .int .u32 rr) (fun g => []) := by
 refine FTi Tryz.func73 fun w0 M0 F0 => Fb 1 0 fun _ => ?_
 refine KS ?_
 refine Oq Va (KS ?_)
 refine Oq Va (KS ?_)
 refine Oq Vm (Oq (Vlen sl44) (Oq Vm (KS ?_)))
 refine Kl (γ := Nat × Int × Int) (fun (r2, sum_3, v8_4) => ⟨[(3, .int .u32 sum_3), (6, vl ba0 bk0 b), (7, vi (b.length : Int)), (8, vi v8_4)], [S ba0 bk0 b], uvarint_Checksum_L0 b r2 sum_3 v8_4 = uvarint_Checksum_L0 b (((b.length : Int) - 0).toNat) 4294967295 0 ∧ r2 = ((b.length : Int) - v8_4).toNat ∧ (0 : Int) ≤ v8_4 ∧ v8_4 ≤ (b.length : Int) ∧ (-9223372036854775808 ≤ sum_3 ∧ sum_3 ≤ 9223372036854775807) ∧ (-9223372036854775808 ≤ v8_4 ∧ v8_4 ≤ 9223372036854775807), r2⟩) (((b.length : Int) - 0).toNat, 4294967295, 0) [0] ⟨rfl, rfl, aM1, aM1, aM1, aM1⟩ ?_
 rintro ⟨r2, sum_3, v8_4⟩ ⟨hM5, hr6, hi7, hi8, hk9, hk10⟩
 refine JJ_nx fun _ _ hL hA => ?_; dsimp only at hL hA; subst hL hA
 refine Fb 1 0 fun _ => KS ?_
 refine Oq Vlss (KS ?_)
 refine Kc ?_ ?_
 ·intro h12
  have g13 := dt h12
  obtain ⟨r14, rfl⟩ := scc (n := r2) aM1
  refine KS ?_
  refine Oq (Vi sl44 0) ?_
  have hb15 := u8b' (b.getD v8_4.toNat 0)
  refine Oq (Vld8 sh5 0) (Oq Va (KS ?_))
  refine Oq Vm (Oq Vm (Oq (VcM un5 un78 wrap_u32) ?_))
  have hb16 : 0 ≤ (bXor .u32 sum_3 (((b.getD v8_4.toNat 0).toNat : Int) % 4294967296)) ∧ (bXor .u32 sum_3 (((b.getD v8_4.toNat 0).toNat : Int) % 4294967296)) ≤ 4294967295 := wrap_u32b _
  refine Oq VxorK (Oq Va (KS ?_))
  refine Oq Vm (KS ?_)
  refine Kl (γ := Nat × Int × Int) (fun (r17, sum_18, v16_19) => ⟨[(6, vl ba0 bk0 b), (7, vi (b.length : Int)), (8, vi v8_4), (3, .int .u32 sum_18), (16, vi v16_19)], [S ba0 bk0 b], uvarint_Checksum_L1 r17 sum_18 v16_19 = uvarint_Checksum_L1 8 (bXor .u32 sum_3 (((b.getD v8_4.toNat 0).toNat : Int) % 4294967296)) 0 ∧ r17 = ((8 : Int) - v16_19).toNat ∧ (0 : Int) ≤ v16_19 ∧ v16_19 ≤ 8 ∧ (-9223372036854775808 ≤ sum_18 ∧ sum_18 ≤ 9223372036854775807) ∧ (-9223372036854775808 ≤ v16_19 ∧ v16_19 ≤ 9223372036854775807), r17⟩) (8, (bXor .u32 sum_3 (((b.getD v8_4.toNat 0).toNat : Int) % 4294967296)), 0) [0] ⟨rfl, rfl, aM1, aM1, aM1, aM1⟩ ?_
  rintro ⟨r17, sum_18, v16_19⟩ ⟨hM20, hr21, hi22, hi23, hk24, hk25⟩
  refine JJ_nx fun _ _ hL hA => ?_; dsimp only at hL hA; subst hL hA
  refine Fb 1 0 fun _ => KS ?_
  refine Oq Vlss (KS ?_)
  refine Kc ?_ ?_
  ·intro h27
   have g28 := dt h27
   obtain ⟨r29, rfl⟩ := scc (n := r17) aM1
   refine KS ?_
   refine Oq Vm (Oq (VshrK (k := .u32) (n := ((1#64).toNat : Int)) (m := 2) (by decide)) (Oq Vm ?_))
   have hb30 : 0 ≤ (bAnd .u32 sum_18 1) ∧ (bAnd .u32 sum_18 1) ≤ 4294967295 := wrap_u32b _
   refine Oq VandK ?_
   have hb31 : 0 ≤ (bNeg .u32 (bAnd .u32 sum_18 1)) ∧ (bNeg .u32 (bAnd .u32 sum_18 1)) ≤ 4294967295 := wrap_u32b _
   refine Oq VnegK ?_
   have hb32 : 0 ≤ (bAnd .u32 3988292384 (bNeg .u32 (bAnd .u32 sum_18 1))) ∧ (bAnd .u32 3988292384 (bNeg .u32 (bAnd .u32 sum_18 1))) ≤ 4294967295 := wrap_u32b _
   refine Oq VandK ?_
   have hb33 : 0 ≤ (bXor .u32 (sum_18 / 2) (bAnd .u32 3988292384 (bNeg .u32 (bAnd .u32 sum_18 1)))) ∧ (bXor .u32 (sum_18 / 2) (bAnd .u32 3988292384 (bNeg .u32 (bAnd .u32 sum_18 1)))) ≤ 4294967295 := wrap_u32b _
   refine Oq VxorK (Oq Va (KS ?_))
   refine Oq Vadd (Oq Vm (KS ?_))
   exact Kg (r29, (bXor .u32 (sum_18 / 2) (bAnd .u32 3988292384 (bNeg .u32 (bAnd .u32 sum_18 1)))), (v16_19 + 1)) [0] ⟨(q3 hM20 (by simp only [uvarint_Checksum_L1, h27, cs4])), aM1, aM1, aM1, aM1, aM1⟩
  intro h27
  have g34 := df h27
  obtain rfl : r17 = 0 := by omega
  refine Ke ?_
  have hR35 := q2 hM20 sum_18 (by simp only [uvarint_Checksum_L1, h27, cs4])
  refine KS ?_
  refine Oq Vadd (Oq Vm (KS ?_))
  exact Kg (r14, sum_18, (v8_4 + 1)) [0] ⟨(q3 hM5 (by simp only [uvarint_Checksum_L0, h12, h27, hR35, cs4])), aM1, aM1, aM1, aM1, aM1⟩
 intro h12
 have g36 := df h12
 obtain rfl : r2 = 0 := by omega
 refine Ke ?_
 have hR37 := q2 hM5 sum_3 (by simp only [uvarint_Checksum_L0, h12, cs4])
 refine KS ?_
 refine Oq Vm ?_
 have hb38 : 0 ≤ (bCom .u32 sum_3) ∧ (bCom .u32 sum_3) ≤ 4294967295 := wrap_u32b _
 refine Oq VcomK (Oq Va (KS ?_))
 have hq := q4 hrr (bCom .u32 sum_3) (by simp only [uvarint_Checksum, h12, hR37, cs4]); subst hq
 exact Kr () rfl (.tmp rfl .nil) [] trivial
theorem fn45 (b : List UInt8) (ba0 : Option Addr) (bk0 : Nat) (hb0 : b.length ≤ 1000000) (rr : List UInt8) (hrr : uvarint_Seal b = rr) : FT Tryz.prog 45 #[vl ba0 bk0 b] [O ba0 bk0 b] (fun g : Value => (rr.length = b.length + 4)) (fun g => g) (fun g => [os g rr]) := by
 refine FTi Tryz.func45 fun w0 M0 F0 => Fb 1 0 fun _ => ?_
 refine KS ?_
 refine Oq Va (KS ?_)
 refine Oq Vm ?_
 refine letv (uvarint_Checksum b) fun rv2 hg3 => ?_
 refine Oc [0] ca73 (FT_borrow (A := _) (fun _ _ h => by cases h) (FT_ent (Ent.take (is := [0]) rfl) (fn73 b ba0 bk0 rv2 hg3))) ?_ (ht := rfl)
 rintro - -
 refine Oq Va (KS ?_)
 refine Oq Vm (Oq Vm (Oq (VshrK (k := .u32) (n := ((24#64).toNat : Int)) (m := 16777216) (by decide)) (Oq (VcM un78 un5 wrap_u8) (Oq Vm (Oq (VshrK (k := .u32) (n := ((16#64).toNat : Int)) (m := 65536) (by decide)) (Oq (VcM un78 un5 wrap_u8) (Oq Vm (Oq (VshrK (k := .u32) (n := ((8#64).toNat : Int)) (m := 256) (by decide)) (Oq (VcM un78 un5 wrap_u8) ?_)))))))))
 refine Oq Vm (Oq (VcM un78 un5 wrap_u8) (Oa (AsV sl44 sz44 [.int .u8 ((rv2 / 16777216) % 256), .int .u8 ((rv2 / 65536) % 256), .int .u8 ((rv2 / 256) % 256), .int .u8 (rv2 % 256)] [.int .u8 ((rv2 / 16777216) % 256), .int .u8 ((rv2 / 65536) % 256), .int .u8 ((rv2 / 256) % 256), .int .u8 (rv2 % 256)]) fun c4 => ?_))
 refine Jo 0 ?_; rintro a5 k6 rfl
 refine Jl [0] (Ent.crOs (α := UInt8) (A := []) _ ([(UInt8.ofNat (((rv2 / 16777216) % 256) : Int).toNat), (UInt8.ofNat (((rv2 / 65536) % 256) : Int).toNat), (UInt8.ofNat (((rv2 / 256) % 256) : Int).toNat), (UInt8.ofNat ((rv2 % 256) : Int).toNat)] : List UInt8) _ aB1 (fun h => ⟨[.int .u8 ((rv2 / 16777216) % 256)], [.int .u8 ((rv2 / 65536) % 256), .int .u8 ((rv2 / 256) % 256), .int .u8 (rv2 % 256)], rfl, (fun _ => u8rd aM1) h, ⟨[.int .u8 ((rv2 / 65536) % 256)], [.int .u8 ((rv2 / 256) % 256), .int .u8 (rv2 % 256)], rfl, (fun _ => u8rd aM1) h, ⟨[.int .u8 ((rv2 / 256) % 256)], [.int .u8 (rv2 % 256)], rfl, (fun _ => u8rd aM1) h, ⟨[.int .u8 (rv2 % 256)], [], rfl, (fun _ => u8rd aM1) h, rfl⟩⟩⟩⟩)) ?_
 refine Oa (ApO [1, 0] sl44 sl44 sz44) fun c7 => ?_
 refine Jo 0 ?_; rintro a8 k9 rfl
 refine Fb 1 0 fun _ => ?_
 have hn11 := la b ([(UInt8.ofNat (((rv2 / 16777216) % 256) : Int).toNat), (UInt8.ofNat (((rv2 / 65536) % 256) : Int).toNat), (UInt8.ofNat (((rv2 / 256) % 256) : Int).toNat), (UInt8.ofNat ((rv2 % 256) : Int).toNat)] : List UInt8)
 refine Oq Va (KS ?_)
 have hq := q4 hrr (b ++ [(UInt8.ofNat (((rv2 / 16777216) % 256) : Int).toNat), (UInt8.ofNat (((rv2 / 65536) % 256) : Int).toNat), (UInt8.ofNat (((rv2 / 256) % 256) : Int).toNat), (UInt8.ofNat ((rv2 % 256) : Int).toNat)]) (by simp only [uvarint_Seal, hg3, cs4]); subst hq
 exact Kr (.slice a8 ((b ++ [(UInt8.ofNat (((rv2 / 16777216) % 256) : Int).toNat), (UInt8.ofNat (((rv2 / 65536) % 256) : Int).toNat), (UInt8.ofNat (((rv2 / 256) % 256) : Int).toNat), (UInt8.ofNat ((rv2 % 256) : Int).toNat)]).length) k9) rfl (.tmp rfl .nil) [0] en
theorem fn75 (b : List UInt8) (ba0 : Option Addr) (bk0 : Nat) (n : Int) (hn_0 : i64ok n) (rr : List UInt8) (hrr : uvarint_Append b n = .ret rr) : FT Tryz.prog 75 #[vl ba0 bk0 b, vi n] [O ba0 bk0 b] (fun g : Value => True) (fun g => g) (fun g => [os g rr]) := by
 refine FTi Tryz.func75 fun w0 M0 F0 => ?_
 unfold i64ok at hn_0
 refine Fb 1 0 fun _ => ?_
 have hx0 := lrn rr; have H := hrr; unfold uvarint_Append at H
 refine KS ?_
 refine Oq Va (KS ?_)
 refine llH H hx0 fun X4 hX5 hx6 HL7 => ?_
 refine Kl (γ := Nat) (fun r2 => ⟨[(0, vl ba0 bk0 b), (1, vi n)], [O ba0 bk0 b], uvarint_Append_L0 n r2 = X4, r2⟩) 1 [0] hX5 ?_
 rintro r2 hM3
 refine JJ_nx fun _ _ hL hA => ?_; dsimp only at hL hA; subst hL hA
 refine Fb 1 0 fun _ => ?_
 rcases r2 with _ | r2
 ·exact absurd (hM3.symm.trans rfl) hx6
 have H := hM3; (try dsimp only at H); rw [uvarint_Append_L0] at H
 refine KS ?_
 refine Oq Vm (Oq Vgeq (KS ?_))
 refine pF H hx6 fun h9 H => ?_
 refine KcF h9 ?_
 have g10 := df h9
 refine Ke ?_
 have H := llB H HL7
 refine KS ?_
 refine Oq Vm (Oq Vm (Oq (VcM un3 un5 wrap_u8) (Oa (AsV sl44 sz44 [.int .u8 (n % 256)] [.int .u8 (n % 256)]) fun c11 => ?_)))
 refine Jo 0 ?_; rintro a12 k13 rfl
 refine Jl [0] (Ent.cr1 (α := UInt8) (A := []) _ (UInt8.ofNat ((n % 256) : Int).toNat) _ aB1 (fun _ => u8rd aM1)) ?_
 refine pC H hx0 fun hc14 H => ?_
 refine Oa (ApO [1, 0] sl44 sl44 sz44) fun c15 => ?_
 refine Jo 0 ?_; rintro a16 k17 rfl
 refine Fb 1 0 fun _ => ?_
 have hn19 := la b ([(UInt8.ofNat ((n % 256) : Int).toNat)] : List UInt8)
 refine Oq Va (KS ?_)
 have hq := rI H; subst hq
 exact Kr (vl a16 k17 (b ++ [(UInt8.ofNat ((n % 256) : Int).toNat)])) rfl (.tmp rfl .nil) [0] trivial
theorem fn74 (b : List UInt8) (ba0 : Option Addr) (bk0 : Nat) (l : List Int) (la0 : Option Addr) (lk0 : Nat) (rr : List UInt8) (hrr : uvarint_AppendNumbers b l = .ret rr) : FT Tryz.prog 74 #[vl ba0 bk0 b, vl la0 lk0 l] [O ba0 bk0 b, S la0 lk0 l] (fun g : Value => True) (fun g => g) (fun g => [os g rr]) := by
 refine FTi Tryz.func74 fun w0 M0 F0 => Fb 1 0 fun _ => Fb 8 1 fun _ => Fo 1 fun ho3 => ?_
 have hx0 := lrn rr; have H := hrr; unfold uvarint_AppendNumbers at H
 refine KS ?_
 refine Oq Va (KS ?_)
 refine Oq Vm (Oq Vm (Oq (Vlen sl22) ?_))
 refine lbH H hx0 fun rv5 hg6 H => ?_
 have hc7 := fn75 b ba0 bk0 ((l.length : Int)) pre rv5 hg6
 refine Oc [0] ca75 hc7 ?_
 rintro c4 -
 refine Jo 0 ?_; rintro a8 k9 rfl
 refine Fb 1 0 fun _ => ?_
 refine Oq Va (KS ?_)
 refine Oq Vm (Oq (Vlen sl22) (Oq Vm (KS ?_)))
 refine llH H hx0 fun X21 hX22 hx23 HL24 => ?_
 refine Kl (γ := Nat × List UInt8 × Int × Option Addr × Nat) (fun (r11, b_12, v13_13, a14, k15) => ⟨[(0, vl a14 k15 b_12), (11, vl la0 lk0 l), (12, vi (l.length : Int)), (13, vi v13_13)], [O a14 k15 b_12, S la0 lk0 l], uvarint_AppendNumbers_L0 l r11 b_12 v13_13 = X21 ∧ r11 = ((l.length : Int) - v13_13).toNat ∧ (0 : Int) ≤ v13_13 ∧ v13_13 ≤ (l.length : Int) ∧ (-9223372036854775808 ≤ v13_13 ∧ v13_13 ≤ 9223372036854775807), r11⟩) (((l.length : Int) - 0).toNat, rv5, 0, a8, k9) [0, 0] ⟨hX22, rfl, aM1, aM1, aM1⟩ ?_
 rintro ⟨r11, b_12, v13_13, a14, k15⟩ ⟨hM16, hr17, hi18, hi19, hk20⟩
 refine JJ_nx fun _ _ hL hA => ?_; dsimp only at hL hA; subst hL hA
 refine Fb 1 0 fun _ => Fb 8 1 fun _ => Fo 1 fun ho27 => KS ?_
 refine Oq Vlss (KS ?_)
 refine Kc ?_ ?_
 ·intro h28
  have g29 := dt h28
  obtain ⟨r30, rfl⟩ := scc (n := r11) aM1
  have H := hM16; (try dsimp only at H); rw [uvarint_AppendNumbers_L0] at H
  refine KS ?_
  refine pC H hx23 fun hc31 H => ?_
  refine Oq (Vi sl22 1) ?_
  have hb32 := ok1 (i := v13_13.toNat) ho27 rng
  refine Oq (VldI sh3 1) (Oq Va (KS ?_))
  refine Oq Vm (Oq Vm ?_)
  refine lbH H hx23 fun rv34 hg35 H => ?_
  have hc36 := fn75 b_12 a14 k15 ((l.getD v13_13.toNat 0)) pre rv34 hg35
  refine Oc [0] ca75 hc36 ?_
  rintro c33 -
  refine Jo 0 ?_; rintro a37 k38 rfl
  refine Fb 1 0 fun _ => ?_
  refine Oq Va (KS ?_)
  refine Oq Vadd (Oq Vm (KS ?_))
  refine pC H hx23 fun hc40 H => ?_
  exact Kg (r30, rv34, (v13_13 + 1), a37, k38) [0, 0] ⟨H, aM1, aM1, aM1, aM1⟩
 intro h28
 have g41 := df h28
 obtain rfl : r11 = 0 := by omega
 have H := hM16; (try dsimp only at H); rw [uvarint_AppendNumbers_L0] at H
 refine Ke ?_
 have H := llB H HL24
 refine KS ?_
 refine Oq Vm (Oq Va (KS ?_))
 have hq := rI H; subst hq
 exact Kr (vl a14 k15 b_12) rfl (.tmp rfl .nil) [0] trivial
theorem fn76 (b : List UInt8) (ba0 : Option Addr) (bk0 : Nat) (is : Bool) (rr : List UInt8) (hrr : uvarint_AppendBool b is = .ret rr) : FT Tryz.prog 76 #[vl ba0 bk0 b, vb is] [O ba0 bk0 b] (fun g : Value => True) (fun g => g) (fun g => [os g rr]) := by
 refine FTi Tryz.func76 fun w0 M0 F0 => Fb 1 0 fun _ => ?_
 have hx0 := lrn rr; have H := hrr; unfold uvarint_AppendBool at H
 refine KS ?_
 refine Oq Va (KS ?_)
 refine Oq Vm (KS ?_)
 refine pF H hx0 fun h2 H => ?_
 refine KcF h2 ?_
 refine KS ?_
 refine Oq Vm (Oa (AsV sl44 sz44 [.int .u8 0] [.int .u8 0]) fun c4 => ?_)
 refine Jo 0 ?_; rintro a5 k6 rfl
 refine Jl [0] (Ent.cr1 (α := UInt8) (A := []) _ (UInt8.ofNat (0 : Int).toNat) _ aB1 (fun _ => u8rd aM1)) ?_
 refine pC H hx0 fun hc7 H => ?_
 refine Oa (ApO [1, 0] sl44 sl44 sz44) fun c8 => ?_
 refine Jo 0 ?_; rintro a9 k10 rfl
 refine Fb 1 0 fun _ => ?_
 have hn12 := la b ([(UInt8.ofNat (0 : Int).toNat)] : List UInt8)
 refine Oq Va (KS ?_)
 have hq := rI H; subst hq
 exact Kr (vl a9 k10 (b ++ [(UInt8.ofNat (0 : Int).toNat)])) rfl (.tmp rfl .nil) [0] trivial
theorem fn46 (b : List UInt8) (ba0 : Option Addr) (bk0 : Nat) (st : GState) (sta1 : Option Addr) (stk1 : Nat) (sta2 : Option Addr) (stk2 : Nat) (sta5 : Option Addr) (stk5 : Nat) (sta6 : Option Addr) (stk6 : Nat) (hst_0 : i64ok st.Phase) (hst_3 : i64ok st.At) (hst_4 : i64ok st.Edge) (hst_7 : i64ok st.Steps) (rr : List UInt8) (hrr : resume_Append b st = .ret rr) : FT Tryz.prog 46 #[vl ba0 bk0 b, .agg #[vi st.Phase, vl sta1 stk1 st.Cone, vl sta2 stk2 st.Leaf, vi st.At, vi st.Edge, vl sta5 stk5 st.Values, vl sta6 stk6 st.Queue, vi st.Steps]] [O ba0 bk0 b, S sta1 stk1 st.Cone, S sta2 stk2 st.Leaf, S sta5 stk5 st.Values, S sta6 stk6 st.Queue, pv (gp 0) (tabV .u8 tzT)] (fun g : Value => True) (fun g => g) (fun g => [os g rr]) := by
 refine FTi Tryz.func46 fun w0 M0 F0 => ?_
 unfold i64ok at hst_0 hst_3 hst_4 hst_7
 refine Fb 1 0 fun _ => Fb 8 1 fun _ => Fo 1 fun ho3 => Fb 1 2 fun _ => Fb 32 3 fun _ => Fb 8 4 fun _ => Fo 4 fun ho7 => ?_
 have hx0 := lrn rr; have H := hrr; unfold resume_Append at H
 refine KS ?_
 refine Oa (Ab [vi st.Phase, vl sta1 stk1 st.Cone, vl sta2 stk2 st.Leaf, vi st.At, vi st.Edge, vl sta5 stk5 st.Values, vl sta6 stk6 st.Queue, vi st.Steps]) fun p8 => Oq Va (KS ?_)
 refine JK_drawK [0, 0, 2, 7, 0, 16, 63, 127] fmix ?_
 refine Dv [] Vm (Dv [0] (Vfa fo26_0 0) (Dv [0] (VldF sh3 0) ?_))
 refine lbH H hx0 fun rv10 hg11 H => ?_
 refine Dx [1] [1] [0, 1] (fun G => (G.g 3 0)) [fun G => SP.fact (True), fun G => os (G.g 3 0) rv10] (fun G => xC [0] ca75 (fn75 b ba0 bk0 st.Phase pre rv10 hg11)) (Dv [0] (Vfa fo26_1 0) (Dv [0] (VldF sh22 0) ?_))
 refine lbH H hx0 fun rv16 hg17 H => ?_
 refine Dx [2, 8] [8] [2, 0, 1] (fun G => (G.g 6 0)) [fun G => SP.fact (True), fun G => os (G.g 6 0) rv16] (fun G => xD [1, 0] ca74 rfl rfl rfl (FT_open (γ := Value) (I := fun g => True) (V := fun g => g) (B := fun g => [os g rv16]) (R := os (G.g 3 0) rv10) os_slice (fun aq12 kq13 eq14 => by rw [eq14]; exact FT_ent (Ent.take (is := [0, 0]) rfl) (fn74 rv10 aq12 kq13 st.Cone sta1 stk1 rv16 hg17)))) (Dg [] (fun G => (G.g 6 0)) (fun G => Va) ?_)
 refine Dn ⟨by kernel_rfl, fun G => ?_⟩
 refine Jw2 [(3, p8), (0, (G.g 6 0))] [0, 2, 3, 4, 5, 6] [SP.fact (True), SP.fact (True), os (G.g 6 0) rv16] ?_
 generalize G.g 6 0 = c15
 refine Jk [0, 1, 2, 3, 4, 5, 8] ?_
 refine Jo 6 ?_; rintro a18 k19 rfl
 refine Fb 1 6 fun _ => KS ?_
 refine Oq (Vfa fo26_2 0) (Oq (VldF sh23 0) (Oq (Vlen sl23) (Oq Vm (KS ?_))))
 refine llH H hx0 fun X31 hX32 hx33 HL34 => ?_
 refine Kl (γ := Nat × List UInt8 × Int × Option Addr × Nat) (fun (r21, b_22, v21_23, a24, k25) => ⟨[(3, p8), (0, vl a24 k25 b_22), (19, vl sta2 stk2 st.Leaf), (20, vi (st.Leaf.length : Int)), (21, vi v21_23)], [O a24 k25 b_22, pv p8 [vi st.Phase, vl sta1 stk1 st.Cone, vl sta2 stk2 st.Leaf, vi st.At, vi st.Edge, vl sta5 stk5 st.Values, vl sta6 stk6 st.Queue, vi st.Steps], S sta1 stk1 st.Cone, S sta2 stk2 st.Leaf, S sta5 stk5 st.Values, S sta6 stk6 st.Queue, pv (gp 0) (tabV .u8 tzT)], resume_Append_L0 st r21 b_22 v21_23 = X31 ∧ r21 = ((st.Leaf.length : Int) - v21_23).toNat ∧ (0 : Int) ≤ v21_23 ∧ v21_23 ≤ (st.Leaf.length : Int) ∧ (-9223372036854775808 ≤ v21_23 ∧ v21_23 ≤ 9223372036854775807), r21⟩) (((st.Leaf.length : Int) - 0).toNat, rv16, 0, a18, k19) [6, 0, 1, 2, 3, 4, 5] ⟨hX32, rfl, aM1, aM1, aM1⟩ ?_
 rintro ⟨r21, b_22, v21_23, a24, k25⟩ ⟨hM26, hr27, hi28, hi29, hk30⟩
 refine JJ_nx fun _ _ hL hA => ?_; dsimp only at hL hA; subst hL hA
 refine Fb 1 0 fun _ => Fb 8 2 fun _ => Fo 2 fun ho37 => Fb 1 3 fun _ => Fb 32 4 fun _ => Fb 8 5 fun _ => Fo 5 fun ho41 => KS ?_
 refine Oq Vlss (KS ?_)
 refine Kc ?_ ?_
 ·intro h42
  have g43 := dt h42
  obtain ⟨r44, rfl⟩ := scc (n := r21) aM1
  have H := hM26; (try dsimp only at H); rw [resume_Append_L0] at H
  refine KS ?_
  refine pC H hx33 fun hc45 H => ?_
  refine Oq (Vi sl23 3) (Oq (VldB sh4 3) (Oq Va (KS ?_)))
  refine Oq Vm (Oq Vm ?_)
  refine lbH H hx33 fun rv47 hg48 H => ?_
  have hc49 := fn76 b_22 a24 k25 ((st.Leaf.getD v21_23.toNat false)) rv47 hg48
  refine Oc [0] ca76 hc49 ?_
  rintro c46 -
  refine Jo 0 ?_; rintro a50 k51 rfl
  refine Fb 1 0 fun _ => ?_
  refine Oq Va (KS ?_)
  refine Oq Vadd (Oq Vm (KS ?_))
  refine pC H hx33 fun hc53 H => ?_
  exact Kg (r44, rv47, (v21_23 + 1), a50, k51) [0, 0, 1, 2, 3, 4, 5] ⟨H, aM1, aM1, aM1, aM1⟩
 intro h42
 have g54 := df h42
 obtain rfl : r21 = 0 := by omega
 have H := hM26; (try dsimp only at H); rw [resume_Append_L0] at H
 refine Ke ?_
 have H := llB H HL34
 refine KS ?_
 refine Oq (Vfa fo26_3 1) (Oq (VldF sh3 1) (Oq (Vfa fo26_4 1) (Oq (VldF sh3 1) (Oq (Vfa fo26_5 1) (Oq (VldF sh24 1) (Oq (Vlen sl24) (Oa (AsV sl22 sz22 [vi st.At, vi st.Edge, vi (st.Values.length : Int)] [vi st.At, vi st.Edge, vi (st.Values.length : Int)]) fun c55 => ?_)))))))
 refine Jo 0 ?_; rintro a56 k57 rfl
 refine Oq (Vlen sl22) (Oq Vm (KS ?_))
 refine Jl [0] (Ent.crInt _ [st.At, st.Edge, (st.Values.length : Int)] _ _ rfl rfl (by intro x hx; simp only [List.mem_cons, List.not_mem_nil, or_false] at hx; rcases hx with rfl | rfl | rfl <;> (unfold i64ok; omega)) aB1) ?_
 refine Fb 8 0 fun _ => Fo 0 fun ho59 => ?_
 refine llH H hx0 fun X70 hX71 hx72 HL73 => ?_
 refine Kl (γ := Nat × List UInt8 × Int × Option Addr × Nat) (fun (r60, b_61, v38_62, a63, k64) => ⟨[(3, p8), (0, vl a63 k64 b_61), (36, .slice a56 3 k57), (37, vi ((3 : Nat) : Int)), (38, vi v38_62)], [O a63 k64 b_61, os (.slice a56 3 k57) ([st.At, st.Edge, (st.Values.length : Int)] : List Int), pv p8 [vi st.Phase, vl sta1 stk1 st.Cone, vl sta2 stk2 st.Leaf, vi st.At, vi st.Edge, vl sta5 stk5 st.Values, vl sta6 stk6 st.Queue, vi st.Steps], S sta1 stk1 st.Cone, S sta2 stk2 st.Leaf, S sta5 stk5 st.Values, S sta6 stk6 st.Queue, pv (gp 0) (tabV .u8 tzT)], resume_Append_L1 st r60 b_61 v38_62 = X70 ∧ r60 = ((((3 : Nat) : Int) : Int) - v38_62).toNat ∧ (0 : Int) ≤ v38_62 ∧ (v38_62 ≤ ((3 : Nat) : Int) ∨ v38_62 = 0) ∧ (-9223372036854775808 ≤ v38_62 ∧ v38_62 ≤ 9223372036854775807), r60⟩) (((((3 : Nat) : Int) : Int) - 0).toNat, b_22, 0, a24, k25) [1, 0, 0, 1, 2, 3, 4, 5] ⟨hX71, rfl, aM1, (.inr rfl), aM1⟩ ?_
 rintro ⟨r60, b_61, v38_62, a63, k64⟩ ⟨hM65, hr66, hi67, hi68, hk69⟩
 refine JJ_nx fun _ _ hL hA => ?_; dsimp only at hL hA; subst hL hA
 refine Fb 1 0 fun _ => Fb 8 1 fun _ => Fo 1 fun ho76 => Fl 1 fun hn77 => ?_
 refine Fb 8 3 fun _ => Fo 3 fun ho79 => Fb 1 4 fun _ => Fb 32 5 fun _ => Fb 8 6 fun _ => Fo 6 fun ho83 => KS ?_
 refine Oq Vlss (KS ?_)
 refine Kc ?_ ?_
 ·intro h84
  have g85 := dt h84
  obtain ⟨r86, rfl⟩ := scc (n := r60) aM1
  have H := hM65; (try dsimp only at H); rw [resume_Append_L1] at H
  refine KS ?_
  refine pC H hx72 fun hc87 H => ?_
  refine Oq (Vi sl22 1) ?_
  have hb88 := ok1 (i := v38_62.toNat) ho76 rng
  refine Oq (VldI sh3 1) (Oq Va (KS ?_))
  refine Oq Vm (Oq Vm ?_)
  refine lbH H hx72 fun rv90 hg91 H => ?_
  have hc92 := fn75 b_61 a63 k64 (([st.At, st.Edge, (st.Values.length : Int)].getD v38_62.toNat 0)) pre rv90 hg91
  refine Oc [0] ca75 hc92 ?_
  rintro c89 -
  refine Jo 0 ?_; rintro a93 k94 rfl
  refine Fb 1 0 fun _ => ?_
  refine Oq Va (KS ?_)
  refine Oq Vadd (Oq Vm (KS ?_))
  refine pC H hx72 fun hc96 H => ?_
  exact Kg (r86, rv90, (v38_62 + 1), a93, k94) [0, 0, 0, 1, 2, 3, 4, 5] ⟨H, aM1, aM1, aM1, aM1⟩
 intro h84
 have g97 := df h84
 obtain rfl : r60 = 0 := by omega
 have H := hM65; (try dsimp only at H); rw [resume_Append_L1] at H
 refine Ke ?_
 have H := llB H HL73
 refine KS ?_
 refine Oq (Vfa fo26_5 2) (Oq (VldF sh24 2) (Oq (Vlen sl24) (Oq Vm (KS ?_))))
 refine llH H hx0 fun X100 hX101 hx102 HL103 => ?_
 refine Kl (γ := Nat) (fun r98 => ⟨[(3, p8), (0, vl a63 k64 b_61), (47, vl sta5 stk5 st.Values), (48, vi (st.Values.length : Int)), (49, vi 0)], [O a63 k64 b_61, pv p8 [vi st.Phase, vl sta1 stk1 st.Cone, vl sta2 stk2 st.Leaf, vi st.At, vi st.Edge, vl sta5 stk5 st.Values, vl sta6 stk6 st.Queue, vi st.Steps], S sta1 stk1 st.Cone, S sta2 stk2 st.Leaf, S sta5 stk5 st.Values, S sta6 stk6 st.Queue, pv (gp 0) (tabV .u8 tzT)], resume_Append_L2 st r98 = X100, r98⟩) 1 [0, 1, 2, 3, 4, 5, 6] hX101 ?_
 rintro r98 hM99
 refine JJ_nx fun _ _ hL hA => ?_; dsimp only at hL hA; subst hL hA
 refine Fb 1 0 fun _ => Fb 8 2 fun _ => Fo 2 fun ho106 => Fb 1 3 fun _ => Fb 32 4 fun _ => Fb 8 5 fun _ => Fo 5 fun ho110 => ?_
 rcases r98 with _ | r98
 ·exact absurd (hM99.symm.trans rfl) hx102
 have H := hM99; (try dsimp only at H); rw [resume_Append_L2] at H
 refine KS ?_
 refine Oq Vlss (KS ?_)
 refine pF H hx102 fun h111 H => ?_
 refine KcF h111 ?_
 have g112 := df h111
 refine Ke ?_
 have H := llB H HL103
 refine KS ?_
 refine JK_drawK [0, 0, 2, 7, 0, 16, 63, 127] fmix ?_
 refine Dv [] Vm (Dv [1] (Vfa fo26_6 0) (Dv [1] (VldF sh22 0) ?_))
 refine lbH H hx0 fun rv114 hg115 H => ?_
 refine Dx [0, 5] [0] [2, 0, 1] (fun G => (G.g 3 0)) [fun G => SP.fact (True), fun G => os (G.g 3 0) rv114] (fun G => xC [0, 0] ca74 (fn74 b_61 a63 k64 st.Queue sta6 stk6 rv114 hg115)) (Dv [1] (Vfa fo26_7 0) (Dv [1] (VldF sh3 0) ?_))
 refine lbH H hx0 fun rv120 hg121 H => ?_
 refine Dx [8] [8] [0, 1] (fun G => (G.g 6 0)) [fun G => SP.fact (True), fun G => os (G.g 6 0) rv120] (fun G => xD [0] ca75 rfl rfl rfl (FT_open (γ := Value) (I := fun g => True) (V := fun g => g) (B := fun g => [os g rv120]) (R := os (G.g 3 0) rv114) os_slice (fun aq116 kq117 eq118 => by rw [eq118]; exact FT_ent (Ent.take (is := [0]) rfl) (fn75 rv114 aq116 kq117 st.Steps pre rv120 hg121)))) (Dg [] (fun G => (G.g 6 0)) (fun G => Va) ?_)
 refine Dn ⟨by kernel_rfl, fun G => ?_⟩
 refine Jw2 [(4, (G.g 6 0))] [1, 2, 3, 4, 5, 6] [SP.fact (True), SP.fact (True), os (G.g 6 0) rv120] ?_
 generalize G.g 6 0 = c119
 refine Jk [0, 1, 2, 3, 4, 5, 8] ?_
 refine Jo 6 ?_; rintro a122 k123 rfl
 refine Fb 1 6 fun _ => ?_
 have hq := rI H; subst hq
 exact Kr (vl a122 k123 rv120) rfl (.tmp rfl .nil) [6] trivial
theorem fn21 (st : GState) (sta1 : Option Addr) (stk1 : Nat) (sta2 : Option Addr) (stk2 : Nat) (sta5 : Option Addr) (stk5 : Nat) (sta6 : Option Addr) (stk6 : Nat) (hst_0 : i64ok st.Phase) (hst_3 : i64ok st.At) (hst_4 : i64ok st.Edge) (hst_7 : i64ok st.Steps) (rr : List UInt8 × Int) (hrr : resume_Encode st = .ret rr) : FT Tryz.prog 21 #[.agg #[vi st.Phase, vl sta1 stk1 st.Cone, vl sta2 stk2 st.Leaf, vi st.At, vi st.Edge, vl sta5 stk5 st.Values, vl sta6 stk6 st.Queue, vi st.Steps]] [S sta1 stk1 st.Cone, S sta2 stk2 st.Leaf, S sta5 stk5 st.Values, S sta6 stk6 st.Queue, pv (gp 0) (tabV .u8 tzT)] (fun g : Value => i64ok rr.2) (fun g => .tuple #[g, vi rr.2]) (fun g => [os g rr.1]) := by
 refine FTi Tryz.func21 fun w0 M0 F0 => ?_
 unfold i64ok at hst_0 hst_3 hst_4 hst_7
 refine Fb 8 0 fun _ => Fo 0 fun ho2 => Fb 1 1 fun _ => Fb 32 2 fun _ => Fb 8 3 fun _ => Fo 3 fun ho6 => ?_
 have hx0 := lrn rr; have H := hrr; unfold resume_Encode at H
 refine KS ?_
 refine Oa (Ab [vi st.Phase, vl sta1 stk1 st.Cone, vl sta2 stk2 st.Leaf, vi st.At, vi st.Edge, vl sta5 stk5 st.Values, vl sta6 stk6 st.Queue, vi st.Steps]) fun p7 => Oq Va (Oq Va (KS ?_))
 refine Oq (VldA sh26 0) ?_
 refine lvH H fun rv8 hg9 H => ?_
 have hc10 := fn44 st sta1 stk1 sta2 stk2 sta5 stk5 sta6 stk6 pre pre pre pre rv8 hg9
 refine Oc [1, 2, 3, 4] ca44 hc10 ?_
 rintro - -
 refine Oq Vnot (KS ?_)
 refine KcH H ?_ ?_
 ·intro h11 H
  have h13 := not_true h11
  refine KS ?_
  refine Oq Va (Oq Va (KS ?_))
  refine Jl [] (Ent.osNil (α := UInt8)) ?_
  have hq := rI H; subst hq
  exact Kr (.slice none 0 0) rfl (.tmp rfl (.tmp rfl .nil)) [0] en
 intro h11 H
 have h16 := not_false h11
 refine KS ?_
 refine Oq (VldA sh26 0) ?_
 refine Jl [] (Ent.osNil (α := UInt8)) ?_
 refine lbH H hx0 fun rv19 hg20 H => ?_
 have hc21 := fn46 (([] : List UInt8)) none 0 st sta1 stk1 sta2 stk2 sta5 stk5 sta6 stk6 pre pre pre pre rv19 hg20
 refine Oc [0, 1, 2, 3, 4, 5] ca46 hc21 ?_
 rintro c18 -
 refine Jo 0 ?_; rintro a22 k23 rfl
 refine Fb 1 0 fun _ => ?_
 refine pC H hx0 fun hc25 H => ?_
 refine lvH H fun rv27 hg28 H => ?_
 have hc29 := fn45 rv19 a22 k23 pre rv27 hg28
 refine Oc [0] ca45 hc29 ?_
 rintro c26 he30
 refine Jo 0 ?_; rintro a31 k32 rfl
 refine Fb 1 0 fun _ => ?_
 refine Oq Va (Oq Va (KS ?_))
 have hq := rI H; subst hq
 exact Kr (vl a31 k32 rv27) rfl (.tmp rfl (.tmp rfl .nil)) [0] en
theorem fn27 (root : Int) (hroot_0 : i64ok root) (rr : GState) (hrr : r14_Start root = rr) : FT Tryz.prog 27 #[vi root] [] (fun g : Value × Value × Value × Value => i64ok rr.Phase ∧ i64ok rr.At ∧ i64ok rr.Edge ∧ i64ok rr.Steps) (fun g => .agg #[vi rr.Phase, g.1, g.2.1, vi rr.At, vi rr.Edge, g.2.2.1, g.2.2.2, vi rr.Steps]) (fun g => [sl g.1 rr.Cone, sl g.2.1 rr.Leaf, sl g.2.2.1 rr.Values, sl g.2.2.2 rr.Queue]) := by
 refine FTi Tryz.func27 fun w0 M0 F0 => ?_
 unfold i64ok at hroot_0
 refine KS ?_
 refine Oa (Al ze26 [vi 0, .slice none 0 0, .slice none 0 0, vi 0, vi 0, .slice none 0 0, .slice none 0 0, vi 0]) fun p1 => KS ?_
 refine Oq Vm (Oa (AsV sl22 sz22 [vi root] [vi root]) fun c2 => ?_)
 refine Jo 0 ?_; rintro a3 k4 rfl
 refine Oa (AsV sl23 sz23 [vb false] [vb false]) fun c5 => ?_
 refine Jo 0 ?_; rintro a6 k7 rfl
 refine Oq (Vbd st26 [vi 1, .slice a3 1 k4, .slice a6 1 k7, vi 0, vi 0, .slice none 0 0, .slice none 0 0, vi 0]) (Ost (Scl [2] sh26 [vi 1, .slice a3 1 k4, .slice a6 1 k7, vi 0, vi 0, .slice none 0 0, .slice none 0 0, vi 0]) (KS ?_))
 refine Jl [2] (Ent.crInt _ [root] _ _ rfl rfl (by intro x hx; rw [List.mem_singleton] at hx; subst hx; unfold i64ok; omega) aB1) ?_
 refine Jl [0] (Ent.freeze _ _) ?_
 refine Jl [2] (Ent.cr1 (α := Bool) (A := []) _ false _ aB1 (fun _ => rfl)) ?_
 refine Jl [0] (Ent.freeze _ _) ?_
 refine Jl [] (Ent.slNil (α := GSet)) ?_
 refine Jl [] (Ent.slNil (α := Int)) ?_
 have hq := q4 hrr (GState.mk 1 [root] [false] 0 0 [] [] 0) (by simp only [r14_Start, cs4]); subst hq
 exact Kr (.slice a3 1 k4, .slice a6 1 k7, .slice none 0 0, .slice none 0 0) rfl (.cellN 4 rfl sh26 rfl (reads_Cl _ _) rfl .nil) [3, 2, 1, 0] en
def lay156_ren : Go.Shelf.Ren := ⟨(fun n => match n with | 156 => 55 | 165 => 100 | 166 => 101 | 169 => 102 | 240 => 139 | 241 => 140 | 276 => 169 | 277 => 170 | _ => 0), (fun n => match n with | 0 => 0 | 3 => 3 | 4 => 4 | 5 => 5 | 9 => 9 | 20 => 20 | 31 => 94 | 37 => 44 | 70 => 127 | 72 => 129 | 75 => 132 | 76 => 133 | 80 => 135 | 127 => 156 | 164 => 176 | _ => 0), (fun _ => 0)⟩
theorem lay156 : Go.Proofs.Lays.n156 Tryz.prog lay156_ren where
 mixed := by kernel_rfl
 f156 := by kernel_rfl
 f165 := by kernel_rfl
 f166 := by kernel_rfl
 f169 := by kernel_rfl
 f240 := by kernel_rfl
 f241 := by kernel_rfl
 f276 := by kernel_rfl
 f277 := by kernel_rfl
 t0 := by kernel_rfl
 a0 := fun w => rfl
 z0 := fun w => rfl
 v0 := fun w => rfl
 t3 := by kernel_rfl
 a3 := fun w => rfl
 z3 := fun w => rfl
 v3 := fun w => rfl
 t4 := by kernel_rfl
 a4 := fun w => rfl
 z4 := fun w => rfl
 v4 := fun w => rfl
 t9 := by kernel_rfl
 a9 := fun w => rfl
 z9 := fun w => rfl
 v9 := fun w => rfl
 t20 := by kernel_rfl
 a20 := fun w => rfl
 z20 := fun w => rfl
 v20 := fun w => rfl
 t31 := by kernel_rfl
 a31 := fun w => rfl
 z31 := fun w => rfl
 v31 := fun w => rfl
 t37 := by kernel_rfl
 a37 := fun w => rfl
 z37 := fun w => rfl
 v37 := fun w => rfl
 t70 := by kernel_rfl
 a70 := fun w => rfl
 z70 := fun w => rfl
 v70 := fun w => rfl
 t72 := by kernel_rfl
 a72 := fun w => rfl
 z72 := fun w => rfl
 v72 := fun w => rfl
 t75 := by kernel_rfl
 a75 := fun w => rfl
 z75 := fun w => rfl
 v75 := fun w => rfl
 t76 := by kernel_rfl
 a76 := fun w => rfl
 z76 := fun w => rfl
 v76 := fun w => rfl
 t127 := by kernel_rfl
 a127 := fun w => rfl
 z127 := fun w => rfl
 v127 := fun w => rfl
 t164 := by kernel_rfl
 a164 := fun w => rfl
 z164 := fun w => rfl
 v164 := fun w => rfl
theorem lay156x : Go.Proofs.Builder.Extra Tryz.prog lay156_ren where
 sizeBuilder := by kernel_rfl
 liesBuilder := by kernel_rfl
 t5 := by kernel_rfl
 a5 := fun w => rfl
 z5 := fun w => rfl
 v5 := fun w => rfl
 infoByte := by kernel_rfl
 cellsByte := by kernel_rfl
 sizeByte := by kernel_rfl
 neB5 := by decide
theorem fn55 (elems : List Str) (elemsa0 : Option Addr) (elemsk0 : Nat) (sep : Str) (hsep_0 : sep.b.length ≤ 140737488355328) (rr : Str) (hrr : strings_Join elems sep = .ret rr) : FT Tryz.prog 55 #[vl elemsa0 elemsk0 elems, .string (bs sep)] [S elemsa0 elemsk0 elems] (fun g : Unit => rr.b.length ≤ 140737488355328) (fun g => .string (bs rr)) (fun g => []) := by
 have hrr' := hrr
 unfold strings_Join at hrr'
 cases hl : decide ((joinS elems sep).b.length ≤ 140737488355328) with
 | false => rw [hl] at hrr'; cases hrr'
 | true =>
 rw [hl] at hrr'; injection hrr' with hrr'; subst hrr'
 have hj0 := of_decide_eq_true hl
 exact FT_join (fun bk o c xs sep w h1 h2 h3 h4 h5 => Go.Proofs.Any.strings_Join lay156 lay156x bk o c xs sep w h1 h2 h3 h4 h5) (fun a c sep w => Go.Proofs.Any.strings_Join_none lay156 lay156x a c sep w) elemsa0 elemsk0 elems sep hj0
def lay171_ren : Go.Shelf.Ren := ⟨(fun n => match n with | 129 => 144 | 171 => 56 | 243 => 103 | 246 => 141 | 283 => 171 | 284 => 172 | 285 => 173 | 286 => 174 | 317 => 183 | 318 => 184 | 319 => 185 | 320 => 186 | 337 => 192 | 338 => 149 | _ => 0), (fun n => match n with | 0 => 0 | 2 => 2 | 3 => 3 | 4 => 4 | 5 => 5 | 9 => 9 | 20 => 20 | 37 => 44 | 46 => 69 | 51 => 78 | 53 => 68 | 171 => 179 | 173 => 181 | 212 => 189 | 213 => 190 | 232 => 193 | 233 => 183 | _ => 0), (fun n => match n with | 17 => 2 | 18 => 3 | 19 => 0 | _ => 0)⟩
theorem lay171 : Go.Proofs.LaysM.n171 Tryz.prog lay171_ren where
 mixed := by kernel_rfl
 f129 := by kernel_rfl
 f171 := by kernel_rfl
 f243 := by kernel_rfl
 f246 := by kernel_rfl
 f283 := by kernel_rfl
 f284 := by kernel_rfl
 f285 := by kernel_rfl
 f286 := by kernel_rfl
 f317 := by kernel_rfl
 f318 := by kernel_rfl
 f319 := by kernel_rfl
 f320 := by kernel_rfl
 f337 := by kernel_rfl
 f338 := by kernel_rfl
 t0 := by kernel_rfl
 a0 := fun w => rfl
 z0 := fun w => rfl
 v0 := fun w => rfl
 t2 := by kernel_rfl
 a2 := fun w => rfl
 z2 := fun w => rfl
 v2 := fun w => rfl
 t3 := by kernel_rfl
 a3 := fun w => rfl
 z3 := fun w => rfl
 v3 := fun w => rfl
 t4 := by kernel_rfl
 a4 := fun w => rfl
 z4 := fun w => rfl
 v4 := fun w => rfl
 t5 := by kernel_rfl
 a5 := fun w => rfl
 z5 := fun w => rfl
 v5 := fun w => rfl
 t9 := by kernel_rfl
 a9 := fun w => rfl
 z9 := fun w => rfl
 v9 := fun w => rfl
 t20 := by kernel_rfl
 a20 := fun w => rfl
 z20 := fun w => rfl
 v20 := fun w => rfl
 t37 := by kernel_rfl
 a37 := fun w => rfl
 z37 := fun w => rfl
 v37 := fun w => rfl
 t46 := by kernel_rfl
 a46 := fun w => rfl
 z46 := fun w => rfl
 v46 := fun w => rfl
 t51 := by kernel_rfl
 a51 := fun w => rfl
 z51 := fun w => rfl
 v51 := fun w => rfl
 t53 := by kernel_rfl
 a53 := fun w => rfl
 z53 := fun w => rfl
 v53 := fun w => rfl
 t171 := by kernel_rfl
 a171 := fun w => rfl
 z171 := fun w => rfl
 v171 := fun w => rfl
 t173 := by kernel_rfl
 a173 := fun w => rfl
 z173 := fun w => rfl
 v173 := fun w => rfl
 t212 := by kernel_rfl
 a212 := fun w => rfl
 z212 := fun w => rfl
 v212 := fun w => rfl
 t213 := by kernel_rfl
 a213 := fun w => rfl
 z213 := fun w => rfl
 t232 := by kernel_rfl
 a232 := fun w => rfl
 z232 := fun w => rfl
 v232 := fun w => rfl
 t233 := by kernel_rfl
 a233 := fun w => rfl
 z233 := fun w => rfl
 v233 := fun w => rfl
 g17 := by kernel_rfl
 g18 := by kernel_rfl
 g19 := by kernel_rfl
 i0 := by kernel_rfl
 i2 := by kernel_rfl
 i3 := by kernel_rfl
 i4 := by kernel_rfl
 i5 := by kernel_rfl
 i9 := by kernel_rfl
 i20 := by kernel_rfl
 i37 := by kernel_rfl
 i46 := by kernel_rfl
 i51 := by kernel_rfl
 i53 := by kernel_rfl
 i171 := by kernel_rfl
 i173 := by kernel_rfl
 i212 := by kernel_rfl
 i232 := by kernel_rfl
 i233 := by kernel_rfl
 m17 := by kernel_rfl
 m18 := by kernel_rfl
 m19 := by kernel_rfl
theorem fn56 (i : Int) (hi_0 : i64ok i) (rr : Str) (hrr : st_Itoa i = .ret rr) : FT Tryz.prog 56 #[vi i] [tbx 2 (tabV .u64 pw10)] (fun g : Unit => rr.b.length ≤ 140737488355328) (fun g => .string (bs rr)) (fun g => []) := by
 have hm : st_Itoa i = .ret (itoaS i) := rfl
 rw [hm] at hrr
 injection hrr with hrr
 subst hrr
 exact fun w M F ok h => (FT_itoa (g := 2) (t := pw10) (by kernel_rfl) (by decide +kernel) (fun n h0 h1 w htab => Go.Proofs.Any.strconv_Itoa lay171 n h0 h1 w htab) i hi_0 w M F ok h).mono fun e w2 ⟨g2, M2, F2, h1, h2, h3⟩ => ⟨g2, M2, F2, h1, h2.1, h3⟩
theorem fn29 (st : GState) (sta1 : Option Addr) (stk1 : Nat) (sta2 : Option Addr) (stk2 : Nat) (sta5 : Option Addr) (stk5 : Nat) (sta6 : Option Addr) (stk6 : Nat) (hst_0 : i64ok st.Phase) (hst_3 : i64ok st.At) (hst_4 : i64ok st.Edge) (hst_7 : i64ok st.Steps) (rr : Str) (hrr : resume_Text st = .ret rr) : FT Tryz.prog 29 #[.agg #[vi st.Phase, vl sta1 stk1 st.Cone, vl sta2 stk2 st.Leaf, vi st.At, vi st.Edge, vl sta5 stk5 st.Values, vl sta6 stk6 st.Queue, vi st.Steps]] [S sta1 stk1 st.Cone, S sta2 stk2 st.Leaf, S sta5 stk5 st.Values, S sta6 stk6 st.Queue, tbx 2 (tabV .u64 pw10)] (fun g : Unit => rr.b.length ≤ 140737488355328) (fun g => .string (bs rr)) (fun g => []) := by
 refine FTi Tryz.func29 fun w0 M0 F0 => ?_
 unfold i64ok at hst_0 hst_3 hst_4 hst_7
 refine Fb 8 0 fun _ => Fo 0 fun ho2 => Fb 1 1 fun _ => Fb 32 2 fun _ => Fb 8 3 fun _ => Fo 3 fun ho6 => ?_
 have hx0 := lrn rr; have H := hrr; unfold resume_Text at H
 refine KS ?_
 refine Oa (Ab [vi st.Phase, vl sta1 stk1 st.Cone, vl sta2 stk2 st.Leaf, vi st.At, vi st.Edge, vl sta5 stk5 st.Values, vl sta6 stk6 st.Queue, vi st.Steps]) fun p7 => Oq Va (KS ?_)
 refine Oa (AsV sl94 sz94 [.string (bs (Str.mk [63])), .string (bs (Str.mk [100, 101, 109, 97, 110, 100])), .string (bs (Str.mk [115, 111, 108, 118, 101])), .string (bs (Str.mk [100, 111, 110, 101]))] [.string (bs (Str.mk [63])), .string (bs (Str.mk [100, 101, 109, 97, 110, 100])), .string (bs (Str.mk [115, 111, 108, 118, 101])), .string (bs (Str.mk [100, 111, 110, 101]))]) fun c8 => ?_
 refine Jo 0 ?_; rintro a9 k10 rfl
 refine Oq Va (KS ?_)
 refine Oq (Vfa fo26_0 1) (Oq (VldF sh3 1) (Oq Va (KS ?_)))
 refine Oq Vm (Oq Vlss (Oq Vm ?_))
 refine pF H hx0 fun h11 H => ?_
 refine JsF 10 h11 ?_
 have g12 := df h11
 refine Oq Vm (Oq Vm (Oq (Vlen sl94) (Oq Vgeq (Oq Vpf (KS ?_)))))
 refine pF H hx0 fun h13 H => ?_
 refine KcF h13 ?_
 have g14 := df h13
 refine KS ?_
 refine JK_drawK [0, 0, 3, 7, 0, 16, 48, 112, 0, 256, 768, 2032, 0, 4096, 12288, 32752, 65535, 131071, 262143, 524287] fmix ?_
 refine Dv [] Vm (Dv [] Vm ?_)
 refine pC H hx0 fun hc15 H => ?_
 refine Dx [0] [0] [0] (fun G => (eptr 1 (.slice a9 4 k10) st.Phase.toNat)) [fun G => os (.slice a9 4 k10) ([(Str.mk [63]), (Str.mk [100, 101, 109, 97, 110, 100]), (Str.mk [115, 111, 108, 118, 101]), (Str.mk [100, 111, 110, 101])] : List Str)] (fun G => xp [0] rfl (Ent.crOs (α := Str) (A := []) _ ([(Str.mk [63]), (Str.mk [100, 101, 109, 97, 110, 100]), (Str.mk [115, 111, 108, 118, 101]), (Str.mk [100, 111, 110, 101])] : List Str) _ aB1 (fun h => ⟨[.string (bs (Str.mk [63]))], [.string (bs (Str.mk [100, 101, 109, 97, 110, 100])), .string (bs (Str.mk [115, 111, 108, 118, 101])), .string (bs (Str.mk [100, 111, 110, 101]))], rfl, (fun _ => ⟨rfl, by first | omega | (simp; done) | (dsimp only; omega) | exact lit_bl rfl⟩) h, ⟨[.string (bs (Str.mk [100, 101, 109, 97, 110, 100]))], [.string (bs (Str.mk [115, 111, 108, 118, 101])), .string (bs (Str.mk [100, 111, 110, 101]))], rfl, (fun _ => ⟨rfl, by first | omega | (simp; done) | (dsimp only; omega) | exact lit_bl rfl⟩) h, ⟨[.string (bs (Str.mk [115, 111, 108, 118, 101]))], [.string (bs (Str.mk [100, 111, 110, 101]))], rfl, (fun _ => ⟨rfl, by first | omega | (simp; done) | (dsimp only; omega) | exact lit_bl rfl⟩) h, ⟨[.string (bs (Str.mk [100, 111, 110, 101]))], [], rfl, (fun _ => ⟨rfl, by first | omega | (simp; done) | (dsimp only; omega) | exact lit_bl rfl⟩) h, rfl⟩⟩⟩⟩)) (xV (Vi sl94 0))) (Dv [7] (VldS sh9 0) (Dv [1] (Vfa fo26_1 0) (Dv [1] (VldF sh22 0) (Dv [] (Vlen sl22) ?_))))
 refine lbH H hx0 fun rv16 hg17 H => ?_
 refine Dx [6] [] [1, 0] (fun G => .string (bs rv16)) [fun G => SP.fact (rv16.b.length ≤ 140737488355328)] (fun G => xC [0] ca56 (fn56 ((st.Cone.length : Int)) pre rv16 hg17)) (Dv [1] (Vfa fo26_6 0) (Dv [1] (VldF sh22 0) (Dv [] (Vlen sl22) ?_)))
 refine lbH H hx0 fun rv18 hg19 H => ?_
 refine Dx [6] [] [1, 0] (fun G => .string (bs rv18)) [fun G => SP.fact (rv18.b.length ≤ 140737488355328)] (fun G => xC [0] ca56 (fn56 ((st.Queue.length : Int)) pre rv18 hg19)) (Dv [1] (Vfa fo26_7 0) (Dv [1] (VldF sh3 0) (Dv [] Vmax ?_)))
 refine lbH H hx0 fun rv20 hg21 H => ?_
 refine Dx [6] [] [1, 0] (fun G => .string (bs rv20)) [fun G => SP.fact (rv20.b.length ≤ 140737488355328)] (fun G => xC [0] ca56 (fn56 ((max st.Steps 0)) pre rv20 hg21)) (Dx [] [] [0] (fun G => (G.g 16 0)) [fun G => Cr (G.g 16 0) 4 [.string (bs ([(Str.mk [63]), (Str.mk [100, 101, 109, 97, 110, 100]), (Str.mk [115, 111, 108, 118, 101]), (Str.mk [100, 111, 110, 101])].getD st.Phase.toNat default)), .string (bs rv16), .string (bs rv18), .string (bs rv20)]] (fun G => xA (AsV sl94 sz94 [.string (bs ([(Str.mk [63]), (Str.mk [100, 101, 109, 97, 110, 100]), (Str.mk [115, 111, 108, 118, 101]), (Str.mk [100, 111, 110, 101])].getD st.Phase.toNat default)), .string (bs rv16), .string (bs rv18), .string (bs rv20)] [.string (bs ([(Str.mk [63]), (Str.mk [100, 101, 109, 97, 110, 100]), (Str.mk [115, 111, 108, 118, 101]), (Str.mk [100, 111, 110, 101])].getD st.Phase.toNat default)), .string (bs rv16), .string (bs rv18), .string (bs rv20)])) ?_)
 refine lbH H hx0 fun rv26 hg27 H => ?_
 refine Dx [8, 9, 10, 11] [11] [2, 3, 4, 1, 0] (fun G => .string (bs rv26)) [fun G => sl (G.g 16 0) ([([(Str.mk [63]), (Str.mk [100, 101, 109, 97, 110, 100]), (Str.mk [115, 111, 108, 118, 101]), (Str.mk [100, 111, 110, 101])].getD st.Phase.toNat default), rv16, rv18, rv20] : List Str), fun G => SP.fact (rv26.b.length ≤ 140737488355328)] (fun G => by refine xf 0 rfl ?_; rintro he28; refine xf 1 rfl ?_; rintro he29; refine xf 2 rfl ?_; rintro he30; exact xp [3] rfl (Ent.crOs (α := Str) (A := []) _ ([([(Str.mk [63]), (Str.mk [100, 101, 109, 97, 110, 100]), (Str.mk [115, 111, 108, 118, 101]), (Str.mk [100, 111, 110, 101])].getD st.Phase.toNat default), rv16, rv18, rv20] : List Str) _ aB1 (fun h => ⟨[.string (bs ([(Str.mk [63]), (Str.mk [100, 101, 109, 97, 110, 100]), (Str.mk [115, 111, 108, 118, 101]), (Str.mk [100, 111, 110, 101])].getD st.Phase.toNat default))], [.string (bs rv16), .string (bs rv18), .string (bs rv20)], rfl, (fun _ => ⟨rfl, by first | omega | (simp; done) | (dsimp only; omega) | exact lit_bl rfl⟩) h, ⟨[.string (bs rv16)], [.string (bs rv18), .string (bs rv20)], rfl, (fun _ => ⟨rfl, by first | omega | (simp; done) | (dsimp only; omega) | exact lit_bl rfl⟩) h, ⟨[.string (bs rv18)], [.string (bs rv20)], rfl, (fun _ => ⟨rfl, by first | omega | (simp; done) | (dsimp only; omega) | exact lit_bl rfl⟩) h, ⟨[.string (bs rv20)], [], rfl, (fun _ => ⟨rfl, by first | omega | (simp; done) | (dsimp only; omega) | exact lit_bl rfl⟩) h, rfl⟩⟩⟩⟩)) (xp [0] rfl (Ent.freeze _ _) (xD [0] ca55 rfl rfl rfl (FT_open (γ := Unit) (I := fun g => rv26.b.length ≤ 140737488355328) (V := fun g => .string (bs rv26)) (B := fun g => []) (R := sl (G.g 16 0) ([([(Str.mk [63]), (Str.mk [100, 101, 109, 97, 110, 100]), (Str.mk [115, 111, 108, 118, 101]), (Str.mk [100, 111, 110, 101])].getD st.Phase.toNat default), rv16, rv18, rv20] : List Str)) sl_slice (fun aq23 kq24 eq25 => by rw [eq25]; exact FT_ent (Ent.take (is := [0]) rfl) (fn55 ([([(Str.mk [63]), (Str.mk [100, 101, 109, 97, 110, 100]), (Str.mk [115, 111, 108, 118, 101]), (Str.mk [100, 111, 110, 101])].getD st.Phase.toNat default), rv16, rv18, rv20]) aq23 kq24 ((Str.mk [32])) pre rv26 hg27)))))) ?_
 have hb31 := sadd_len rv26 (Str.mk [10])
 have hb32 : (Str.mk [10]).b.length = 1 := rfl
 refine pC H hx0 fun hc33 H => ?_
 refine Dv [] (VadS (l := rv26) (m := (Str.mk [10]))) (Dv [] Va ?_)
 refine Dn ⟨by kernel_rfl, fun G => ?_⟩
 refine Jw2 [(2, .string (bs (rv26 ++ (Str.mk [10]))))] [1, 2, 3, 4, 5, 6] [os (.slice a9 4 k10) ([(Str.mk [63]), (Str.mk [100, 101, 109, 97, 110, 100]), (Str.mk [115, 111, 108, 118, 101]), (Str.mk [100, 111, 110, 101])] : List Str), SP.fact (rv16.b.length ≤ 140737488355328), SP.fact (rv18.b.length ≤ 140737488355328), SP.fact (rv20.b.length ≤ 140737488355328), sl (G.g 16 0) ([([(Str.mk [63]), (Str.mk [100, 101, 109, 97, 110, 100]), (Str.mk [115, 111, 108, 118, 101]), (Str.mk [100, 111, 110, 101])].getD st.Phase.toNat default), rv16, rv18, rv20] : List Str), SP.fact (rv26.b.length ≤ 140737488355328)] ?_
 generalize G.g 16 0 = c22
 refine Jf 7 rfl ?_; rintro he34
 refine Jf 8 rfl ?_; rintro he35
 refine Jf 9 rfl ?_; rintro he36
 refine Jf 11 rfl ?_; rintro he37
 refine Jk [0, 1, 2, 3, 4, 5, 6, 9] ?_
 refine Jo 7 ?_; rintro a38 k39 rfl
 refine Fb 16 7 fun _ => ?_
 refine FoS 7 fun ho41 => ?_
 have hq := rI H; subst hq
 exact Kr () rfl (.tmp rfl .nil) [] en
theorem fn12O  (rr : Bool) (hrr : w18_saneO = .ret rr) : FT Tryz.prog 12 #[] [pv (gp 0) (tabV .u8 tzT), tbx 2 (tabV .u64 pw10)] (fun g : Unit => True) (fun g => vb rr) (fun g => []) := by
 refine FTi Tryz.func12 fun w0 M0 F0 => ?_
 have hx0 := lrn rr; have H := hrr; unfold w18_saneO at H
 refine KS ?_
 refine Oq Va (KS ?_)
 refine lvH H fun rv5 hg6 H => ?_
 have hc7 := fn27 0 pre rv5 hg6
 refine Oc [] ca27 hc7 ?_
 rintro ⟨c1, c2, c3, c4⟩ ⟨he8, he9, he10, he11⟩
 unfold i64ok at he8 he9 he10 he11
 refine Jo 0 ?_; rintro a12 k13 rfl
 refine Fb 8 0 fun _ => Fo 0 fun ho15 => ?_
 refine Jo 1 ?_; rintro a16 k17 rfl
 refine Fb 1 1 fun _ => ?_
 refine Jo 2 ?_; rintro a19 k20 rfl
 refine Fb 32 2 fun _ => ?_
 refine Jo 3 ?_; rintro a22 k23 rfl
 refine Fb 8 3 fun _ => Fo 3 fun ho25 => ?_
 refine lbH H hx0 fun rv27 hg28 H => ?_
 have hc29 := fn21 rv5 a12 k13 a16 k17 a19 k20 a22 k23 pre pre pre pre rv27 hg28
 refine Oc [0, 1, 2, 3, 4] ca21 hc29 ?_
 rintro c26 he30
 unfold i64ok at he30
 refine Jo 0 ?_; rintro a31 k32 rfl
 refine Fb 1 0 fun _ => ?_
 refine Oq Vm (Oq Vx (Oq Vx (Oq Va (Oq Va (KS ?_)))))
 refine Oq (Vbd st26 [vi 1, .slice none 0 0, .slice none 0 0, vi 0, vi 0, .slice none 0 0, .slice none 0 0, vi 0]) ?_
 refine Jl [] (Ent.slNil (α := Int)) ?_
 refine Jl [] (Ent.slNil (α := Bool)) ?_
 refine Jl [] (Ent.slNil (α := GSet)) ?_
 refine lbH H hx0 fun rv35 hg36 H => ?_
 have hc37 := fn21 ((GState.mk 1 [] [] 0 0 [] [] 0)) none 0 none 0 none 0 none 0 pre pre pre pre rv35 hg36
 refine Oc [2, 1, 0, 2, 8] ca21 hc37 ?_
 rintro c34 he38
 unfold i64ok at he38
 refine Jo 0 ?_; rintro a39 k40 rfl
 refine Fb 1 0 fun _ => ?_
 refine Oq Vm (Oq Vx (Oq Vx (Oq Va (Oq Va (KS ?_)))))
 refine Oq Vm (Oq Veql (Oq Vm ?_))
 refine pT H hx0 fun h42 H => ?_
 refine JsT 17 h42 ?_
 have g43 := eq_of_beq h42
 refine Oq Vm (Oq (Vlen sl44) (Oq Veql (Oq Vpt (Oq Vm ?_))))
 refine pT H hx0 fun h44 H => ?_
 refine JsT 22 h44 ?_
 have g45 := eq_of_beq h44
 refine Oq Vm ?_
 refine pC H hx0 fun hc46 H => ?_
 refine Oa (AslO [4] sl44 0 ((9 : Int).toNat)) fun c47 => ?_
 refine Jo 0 ?_; rintro a48 k49 rfl
 refine Fb 1 0 fun _ => ?_
 have hn51 : ((rv27.1.take ((9 : Int).toNat)).drop 0).length = ((9 : Int).toNat) - 0 := len_slice rng rng
 refine Jl [0] (Ent.freeze _ _) ?_
 refine Oq (VbS0 (xs := ((rv27.1.take ((9 : Int).toNat)).drop 0)) un44 un5 un9 0) (Oq (VeqS (l := (Str.mk ((rv27.1.take ((9 : Int).toNat)).drop 0))) (m := (Str.mk [1, 1, 0, 0, 0, 0, 0, 0, 0]))) (Oq Vpt (Oq Vm ?_)))
 refine pT H hx0 fun h52 H => ?_
 refine JsT 28 h52 ?_
 have g53 := eq_of_beq h52
 refine Oq Vm (Oq Veql (Oq Vpt (Oq Vm ?_)))
 refine pT H hx0 fun h54 H => ?_
 refine JsT 32 h54 ?_
 have g55 := eq_of_beq h54
 have hc60 := fn27 0 pre rv5 hg6
 refine Oc [] ca27 hc60 ?_
 rintro ⟨c56, c57, c58, c59⟩ ⟨he61, he62, he63, he64⟩
 unfold i64ok at he61 he62 he63 he64
 refine Jo 0 ?_; rintro a65 k66 rfl
 refine Jo 1 ?_; rintro a67 k68 rfl
 refine Jo 2 ?_; rintro a69 k70 rfl
 refine Jo 3 ?_; rintro a71 k72 rfl
 refine lbH H hx0 fun rv73 hg74 H => ?_
 have hc75 := fn29 rv5 a65 k66 a67 k68 a69 k70 a71 k72 pre pre pre pre rv73 hg74
 refine Oc [0, 1, 2, 3, 14] ca29 hc75 ?_
 rintro - he76
 refine Oq (VeqS (l := rv73) (m := (Str.mk [100, 101, 109, 97, 110, 100, 32, 49, 32, 48, 32, 48, 10]))) (Oq Vpt (Oq Va (KS ?_)))
 have hq := rI H; subst hq
 exact Kr () rfl (.tmp rfl .nil) [] trivial
theorem w18_sane_c : w18_saneO = .ret true := by kernel_rfl
theorem fn12  (rr : Bool) (hrr : w18_sane = rr) : FT Tryz.prog 12 #[] [pv (gp 0) (tabV .u8 tzT), tbx 2 (tabV .u64 pw10)] (fun g : Unit => True) (fun g => vb rr) (fun g => []) := by
 subst hrr; exact fn12O  true w18_sane_c
theorem fn38 (b : List UInt8) (ba0 : Option Addr) (bk0 : Nat) (rr : Int) (hrr : r14_Checksum b = rr) : FT Tryz.prog 38 #[vl ba0 bk0 b] [S ba0 bk0 b] (fun g : Unit => True) (fun g => .int .u32 rr) (fun g => []) := by
 refine FTi Tryz.func38 fun w0 M0 F0 => Fb 1 0 fun _ => ?_
 refine KS ?_
 refine Oq Va (KS ?_)
 refine Oq Va (KS ?_)
 refine Oq Va (KS ?_)
 refine Kl (γ := Nat × Int × Int) (fun (r2, c_3, i_4) => ⟨[(0, vl ba0 bk0 b), (3, .int .u32 c_3), (4, vi i_4)], [S ba0 bk0 b], r14_Checksum_L0 b r2 c_3 i_4 = r14_Checksum_L0 b (((b.length : Int) - 0).toNat) 4294967295 0 ∧ r2 = ((b.length : Int) - i_4).toNat ∧ (0 : Int) ≤ i_4 ∧ i_4 ≤ (b.length : Int) ∧ (-9223372036854775808 ≤ c_3 ∧ c_3 ≤ 9223372036854775807) ∧ (-9223372036854775808 ≤ i_4 ∧ i_4 ≤ 9223372036854775807), r2⟩) (((b.length : Int) - 0).toNat, 4294967295, 0) [0] ⟨rfl, rfl, aM1, aM1, aM1, aM1⟩ ?_
 rintro ⟨r2, c_3, i_4⟩ ⟨hM5, hr6, hi7, hi8, hk9, hk10⟩
 refine JJ_nx fun _ _ hL hA => ?_; dsimp only at hL hA; subst hL hA
 refine Fb 1 0 fun _ => KS ?_
 refine Oq Vm (Oq Vm (Oq (Vlen sl44) (Oq Vlss (KS ?_))))
 refine Kc ?_ ?_
 ·intro h12
  have g13 := dt h12
  obtain ⟨r14, rfl⟩ := scc (n := r2) aM1
  refine KS ?_
  refine Oq Vm (Oq Vm (Oq Vm (Oq (Vi sl44 0) ?_)))
  have hb15 := u8b' (b.getD i_4.toNat 0)
  refine Oq (Vld8 sh5 0) (Oq (VcM un5 un78 wrap_u32) ?_)
  have hb16 : 0 ≤ (bXor .u32 c_3 (((b.getD i_4.toNat 0).toNat : Int) % 4294967296)) ∧ (bXor .u32 c_3 (((b.getD i_4.toNat 0).toNat : Int) % 4294967296)) ≤ 4294967295 := wrap_u32b _
  refine Oq VxorK (Oq Va (KS ?_))
  refine Oq Va (KS ?_)
  refine Kl (γ := Nat × Int × Int) (fun (r17, c_18, k_19) => ⟨[(0, vl ba0 bk0 b), (4, vi i_4), (3, .int .u32 c_18), (5, vi k_19)], [S ba0 bk0 b], r14_Checksum_L1 r17 c_18 k_19 = r14_Checksum_L1 8 (bXor .u32 c_3 (((b.getD i_4.toNat 0).toNat : Int) % 4294967296)) 0 ∧ r17 = ((8 : Int) - k_19).toNat ∧ (0 : Int) ≤ k_19 ∧ k_19 ≤ 8 ∧ (-9223372036854775808 ≤ c_18 ∧ c_18 ≤ 9223372036854775807) ∧ (-9223372036854775808 ≤ k_19 ∧ k_19 ≤ 9223372036854775807), r17⟩) (8, (bXor .u32 c_3 (((b.getD i_4.toNat 0).toNat : Int) % 4294967296)), 0) [0] ⟨rfl, rfl, aM1, aM1, aM1, aM1⟩ ?_
  rintro ⟨r17, c_18, k_19⟩ ⟨hM20, hr21, hi22, hi23, hk24, hk25⟩
  refine JJ_nx fun _ _ hL hA => ?_; dsimp only at hL hA; subst hL hA
  refine Fb 1 0 fun _ => KS ?_
  refine Oq Vm (Oq Vlss (KS ?_))
  refine Kc ?_ ?_
  ·intro h27
   have g28 := dt h27
   obtain ⟨r29, rfl⟩ := scc (n := r17) aM1
   refine KS ?_
   refine Oq Vm ?_
   have hb30 : 0 ≤ (bAnd .u32 c_18 1) ∧ (bAnd .u32 c_18 1) ≤ 4294967295 := wrap_u32b _
   refine Oq VandK (Oq Veql (KS ?_))
   refine Kc ?_ ?_
   ·intro h31
    have g32 := eq_of_beq h31
    refine KS ?_
    refine Oq Vm (Oq (VshrK (k := .u32) (n := ((1#64).toNat : Int)) (m := 2) (by decide)) ?_)
    have hb33 : 0 ≤ (bXor .u32 (c_18 / 2) 3988292384) ∧ (bXor .u32 (c_18 / 2) 3988292384) ≤ 4294967295 := wrap_u32b _
    refine Oq VxorK (Oq Va (KS ?_))
    refine Oq Vm (Oq Vadd (Oq Va (KS ?_)))
    exact Kg (r29, (bXor .u32 (c_18 / 2) 3988292384), (k_19 + 1)) [0] ⟨(q3 hM20 (by simp only [r14_Checksum_L1, h27, h31, cs4])), aM1, aM1, aM1, aM1, aM1⟩
   intro h31
   have g34 := ne_of_beq_false h31
   refine KS ?_
   refine Oq Vm (Oq (VshrK (k := .u32) (n := ((1#64).toNat : Int)) (m := 2) (by decide)) (Oq Va (KS ?_)))
   refine Oq Vm (Oq Vadd (Oq Va (KS ?_)))
   exact Kg (r29, (c_18 / 2), (k_19 + 1)) [0] ⟨(q3 hM20 (by simp only [r14_Checksum_L1, h27, h31, cs4])), aM1, aM1, aM1, aM1, aM1⟩
  intro h27
  have g35 := df h27
  obtain rfl : r17 = 0 := by omega
  refine Ke ?_
  have hR36 := q2 hM20 c_18 (by simp only [r14_Checksum_L1, h27, cs4])
  refine KS ?_
  refine Oq Vm (Oq Vadd (Oq Va (KS ?_)))
  exact Kg (r14, c_18, (i_4 + 1)) [0] ⟨(q3 hM5 (by simp only [r14_Checksum_L0, h12, h27, hR36, cs4])), aM1, aM1, aM1, aM1, aM1⟩
 intro h12
 have g37 := df h12
 obtain rfl : r2 = 0 := by omega
 refine Ke ?_
 have hR38 := q2 hM5 c_3 (by simp only [r14_Checksum_L0, h12, cs4])
 refine KS ?_
 refine Oq Vm ?_
 have hb39 : 0 ≤ (bCom .u32 c_3) ∧ (bCom .u32 c_3) ≤ 4294967295 := wrap_u32b _
 refine Oq VcomK (Oq Va (KS ?_))
 have hq := q4 hrr (bCom .u32 c_3) (by simp only [r14_Checksum, h12, hR38, cs4]); subst hq
 exact Kr () rfl (.tmp rfl .nil) [] trivial
theorem fn18 (b : List UInt8) (ba0 : Option Addr) (bk0 : Nat) (hb0 : b.length ≤ 1000000) (rr : List UInt8) (hrr : r14_Sealed b = rr) : FT Tryz.prog 18 #[vl ba0 bk0 b] [S ba0 bk0 b] (fun g : Value => (rr.length = b.length + 4)) (fun g => g) (fun g => [os g rr]) := by
 refine FTi Tryz.func18 fun w0 M0 F0 => Fb 1 0 fun _ => ?_
 refine KS ?_
 refine Oq Va (KS ?_)
 refine Oq Vm ?_
 refine letv (r14_Checksum b) fun rv2 hg3 => ?_
 have hc4 := fn38 b ba0 bk0 rv2 hg3
 refine Oc [0] ca38 hc4 ?_
 rintro - -
 refine Oq Va (KS ?_)
 refine Oa (As0 sl44) fun c5 => ?_
 refine Jo 0 ?_; rintro a6 k7 rfl
 refine Oq Vm ?_
 refine Jl [0] (Ent.crNil (α := UInt8) _) ?_
 refine Oa (Ap0 [0, 0] sl44 sl44 sz44) fun c8 => ?_
 refine Jo 0 ?_; rintro a9 k10 rfl
 refine Oq Vm (Oq (VshrK (k := .u32) (n := ((24#64).toNat : Int)) (m := 16777216) (by decide)) (Oq (VcM un78 un5 wrap_u8) (Oq Vm (Oq (VshrK (k := .u32) (n := ((16#64).toNat : Int)) (m := 65536) (by decide)) (Oq (VcM un78 un5 wrap_u8) (Oq Vm (Oq (VshrK (k := .u32) (n := ((8#64).toNat : Int)) (m := 256) (by decide)) (Oq (VcM un78 un5 wrap_u8) (Oq Vm ?_)))))))))
 refine Oq (VcM un78 un5 wrap_u8) (Oa (AsV sl44 sz44 [.int .u8 ((rv2 / 16777216) % 256), .int .u8 ((rv2 / 65536) % 256), .int .u8 ((rv2 / 256) % 256), .int .u8 (rv2 % 256)] [.int .u8 ((rv2 / 16777216) % 256), .int .u8 ((rv2 / 65536) % 256), .int .u8 ((rv2 / 256) % 256), .int .u8 (rv2 % 256)]) fun c11 => ?_)
 refine Jo 0 ?_; rintro a12 k13 rfl
 refine Jl [0] (Ent.crOs (α := UInt8) (A := []) _ ([(UInt8.ofNat (((rv2 / 16777216) % 256) : Int).toNat), (UInt8.ofNat (((rv2 / 65536) % 256) : Int).toNat), (UInt8.ofNat (((rv2 / 256) % 256) : Int).toNat), (UInt8.ofNat ((rv2 % 256) : Int).toNat)] : List UInt8) _ aB1 (fun h => ⟨[.int .u8 ((rv2 / 16777216) % 256)], [.int .u8 ((rv2 / 65536) % 256), .int .u8 ((rv2 / 256) % 256), .int .u8 (rv2 % 256)], rfl, (fun _ => u8rd aM1) h, ⟨[.int .u8 ((rv2 / 65536) % 256)], [.int .u8 ((rv2 / 256) % 256), .int .u8 (rv2 % 256)], rfl, (fun _ => u8rd aM1) h, ⟨[.int .u8 ((rv2 / 256) % 256)], [.int .u8 (rv2 % 256)], rfl, (fun _ => u8rd aM1) h, ⟨[.int .u8 (rv2 % 256)], [], rfl, (fun _ => u8rd aM1) h, rfl⟩⟩⟩⟩)) ?_
 refine Oa (ApO [1, 0] sl44 sl44 sz44) fun c14 => ?_
 refine Jo 0 ?_; rintro a15 k16 rfl
 refine Fb 1 0 fun _ => ?_
 have hn18 := la b ([(UInt8.ofNat (((rv2 / 16777216) % 256) : Int).toNat), (UInt8.ofNat (((rv2 / 65536) % 256) : Int).toNat), (UInt8.ofNat (((rv2 / 256) % 256) : Int).toNat), (UInt8.ofNat ((rv2 % 256) : Int).toNat)] : List UInt8)
 refine Oq Va (KS ?_)
 have hq := q4 hrr (b ++ [(UInt8.ofNat (((rv2 / 16777216) % 256) : Int).toNat), (UInt8.ofNat (((rv2 / 65536) % 256) : Int).toNat), (UInt8.ofNat (((rv2 / 256) % 256) : Int).toNat), (UInt8.ofNat ((rv2 % 256) : Int).toNat)]) (by simp only [r14_Sealed, hg3, cs4]); subst hq
 exact Kr (.slice a15 ((b ++ [(UInt8.ofNat (((rv2 / 16777216) % 256) : Int).toNat), (UInt8.ofNat (((rv2 / 65536) % 256) : Int).toNat), (UInt8.ofNat (((rv2 / 256) % 256) : Int).toNat), (UInt8.ofNat ((rv2 % 256) : Int).toNat)]).length) k16) rfl (.tmp rfl .nil) [0] en
theorem fn58 (n : Int) (hn_0 : i64ok n) (rr : Bool) (hrr : r14_counter n = rr) : FT Tryz.prog 58 #[vi n] [] (fun g : Unit => True) (fun g => vb rr) (fun g => []) := by
 refine FTi Tryz.func58 fun w0 M0 F0 => ?_
 unfold i64ok at hn_0
 refine KS ?_
 refine Oq Va (KS ?_)
 refine Oq Vm (Oq Vgeq (Oq Vm ?_))
 refine Js 5 ?_ ?_
 ·intro h1
  have g2 := dt h1
  refine Oq Vm (Oq Vleq (Oq Vpt (Oq Va (KS ?_))))
  have hq := q4 hrr (decide (n ≤ 1073741824)) (by simp only [r14_counter, h1, cs4]); subst hq
  exact Kr () rfl (.tmp rfl .nil) [] trivial
 intro h1
 have g3 := df h1
 refine Osk (Osk (Oq Vpf (Oq Va (KS ?_))))
 have hq := q4 hrr false (by simp only [r14_counter, h1, cs4]); subst hq
 exact Kr () rfl (.tmp rfl .nil) [] trivial
theorem fn59 (s : GSet) (sa1 : Option Addr) (sk1 : Nat) (hs_0 : i64ok s.Width) (rr : Bool) (hrr : r1_Valid s = rr) : FT Tryz.prog 59 #[.agg #[vi s.Width, vl sa1 sk1 s.Words]] [S sa1 sk1 s.Words] (fun g : Unit => True) (fun g => vb rr) (fun g => []) := by
 refine FTi Tryz.func59 fun w0 M0 F0 => ?_
 unfold i64ok at hs_0
 refine Fb 8 0 fun _ => KS ?_
 refine Oa (Ab [vi s.Width, vl sa1 sk1 s.Words]) fun p2 => Oq Va (KS ?_)
 refine Oq (Vfa fo39_0 0) (Oq (VldF sh3 0) (Oq Vlss (Oq Vm ?_)))
 refine Js 7 ?_ ?_
 ·intro h3
  have g4 := dt h3
  refine Osk (Osk (Osk (Oq Vpt (Oq Vm (Osk (Osk (Osk (Osk (Osk ?_)))))))))
  refine Osk (Osk (Osk (Oq Vpt (KS ?_))))
  refine Kt (KS ?_)
  refine Oq Va (KS ?_)
  have hq := q4 hrr false (by simp only [r1_Valid, h3, cs4]); subst hq
  exact Kr () rfl (.tmp rfl .nil) [] trivial
 intro h3
 have g5 := df h3
 refine Oq (Vfa fo39_0 0) (Oq (VldF sh3 0) (Oq Vgtr (Oq Vpf (Oq Vm ?_))))
 refine Js 12 ?_ ?_
 ·intro h6
  have g7 := dt h6
  refine Osk (Osk (Osk (Osk (Osk (Osk (Osk (Osk (Oq Vpt (KS ?_)))))))))
  refine Kt (KS ?_)
  refine Oq Va (KS ?_)
  have hq := q4 hrr false (by simp only [r1_Valid, h3, h6, cs4]); subst hq
  exact Kr () rfl (.tmp rfl .nil) [] trivial
 intro h6
 have g8 := df h6
 refine Oq (Vfa fo39_1 0) (Oq (VldF sh37 0) (Oq (Vlen sl37) (Oq (Vfa fo39_0 0) (Oq (VldF sh3 0) (Oq Vadd (Oq Vquo (Oq Vneq (Oq Vpf (KS ?_)))))))))
 refine Kc ?_ ?_
 ·intro h9
  have g10 := ne_of_bne h9
  refine KS ?_
  refine Oq Va (KS ?_)
  have hq := q4 hrr false (by simp only [r1_Valid, h3, h6, h9, cs4]); subst hq
  exact Kr () rfl (.tmp rfl .nil) [] trivial
 intro h9
 have g11 := eq_of_bne_false h9
 refine KS ?_
 refine Oq (Vfa fo39_0 0) (Oq (VldF sh3 0) (Oq Va (KS ?_)))
 refine Kl (γ := Nat × Int) (fun (r12, b_13) => ⟨[(1, p2), (3, vi b_13)], [pv p2 [vi s.Width, vl sa1 sk1 s.Words], S sa1 sk1 s.Words], r1_Valid_L0 s r12 b_13 = r1_Valid_L0 s ((((64 * (s.Words.length : Int)) : Int) - s.Width).toNat) s.Width ∧ r12 = (((64 * (s.Words.length : Int)) : Int) - b_13).toNat ∧ (s.Width : Int) ≤ b_13 ∧ (b_13 ≤ (64 * (s.Words.length : Int)) ∨ b_13 = s.Width) ∧ (-9223372036854775808 ≤ b_13 ∧ b_13 ≤ 9223372036854775807), r12⟩) ((((64 * (s.Words.length : Int)) : Int) - s.Width).toNat, s.Width) [0, 1] ⟨rfl, rfl, aM1, (.inr rfl), aM1⟩ ?_
 rintro ⟨r12, b_13⟩ ⟨hM14, hr15, hi16, hi17, hk18⟩
 refine JJ_nx fun _ _ hL hA => ?_; dsimp only at hL hA; subst hL hA
 refine Fb 8 1 fun _ => KS ?_
 refine Oq Vm (Oq (Vfa fo39_1 0) (Oq (VldF sh37 0) (Oq (Vlen sl37) (Oq Vmul (Oq Vlss (KS ?_))))))
 refine Kc ?_ ?_
 ·intro h20
  have g21 := dt h20
  obtain ⟨r22, rfl⟩ := scc (n := r12) aM1
  refine KS ?_
  refine Oq (Vfa fo39_1 0) (Oq (VldF sh37 0) (Oq Vm (Oq Vquo (Oq (Vi sl37 1) (Oq (VldU sh68 1) (Oq Vm (Oq Vrem (Oq (VcU un3 un69) (Oq VshrU ?_)))))))))
  refine Oq (VandU (b := 1#64)) (Oq (VeqlU (b := 1#64)) (KS ?_))
  refine Kc ?_ ?_
  ·intro h23
   have g24 := eq_of_beq h23
   refine KS ?_
   refine Oq Va (KS ?_)
   have hR25 := q2 hM14 (.ret false) (by simp only [r1_Valid_L0, h20, h23, cs4])
   have hq := q4 hrr false (by simp only [r1_Valid, h3, h6, h9, h20, h23, hR25, cs4]); subst hq
   exact Kr () rfl (.tmp rfl .nil) [] trivial
  intro h23
  have g26 := ne_of_beq_false h23
  refine KS ?_
  refine Oq Vm (Oq Vadd (Oq Va (KS ?_)))
  exact Kg (r22, (b_13 + 1)) [0, 1] ⟨(q3 hM14 (by simp only [r1_Valid_L0, h20, h23, cs4])), aM1, aM1, aM1, aM1⟩
 intro h20
 have g27 := df h20
 obtain rfl : r12 = 0 := by omega
 refine Ke ?_
 have hR28 := q2 hM14 (.brk ()) (by simp only [r1_Valid_L0, h20, cs4])
 refine KS ?_
 refine Oq Va (KS ?_)
 have hq := q4 hrr true (by simp only [r1_Valid, h3, h6, h9, h20, hR28, cs4]); subst hq
 exact Kr () rfl (.tmp rfl .nil) [] trivial
theorem fn31 (st : GState) (sta1 : Option Addr) (stk1 : Nat) (sta2 : Option Addr) (stk2 : Nat) (sta5 : Option Addr) (stk5 : Nat) (sta6 : Option Addr) (stk6 : Nat) (hst_0 : i64ok st.Phase) (hst_3 : i64ok st.At) (hst_4 : i64ok st.Edge) (hst_7 : i64ok st.Steps) (rr : Bool) (hrr : r14_Encodable st = rr) : FT Tryz.prog 31 #[.agg #[vi st.Phase, vl sta1 stk1 st.Cone, vl sta2 stk2 st.Leaf, vi st.At, vi st.Edge, vl sta5 stk5 st.Values, vl sta6 stk6 st.Queue, vi st.Steps]] [S sta1 stk1 st.Cone, S sta2 stk2 st.Leaf, S sta5 stk5 st.Values, S sta6 stk6 st.Queue] (fun g : Unit => True) (fun g => vb rr) (fun g => []) := by
 refine FTi Tryz.func31 fun w0 M0 F0 => ?_
 unfold i64ok at hst_0 hst_3 hst_4 hst_7
 refine Fb 8 0 fun _ => Fo 0 fun ho2 => Fb 1 1 fun _ => Fb 32 2 fun _ => Fb 8 3 fun _ => Fo 3 fun ho6 => KS ?_
 refine Oa (Ab [vi st.Phase, vl sta1 stk1 st.Cone, vl sta2 stk2 st.Leaf, vi st.At, vi st.Edge, vl sta5 stk5 st.Values, vl sta6 stk6 st.Queue, vi st.Steps]) fun p7 => Oq Va (KS ?_)
 refine Oq (Vfa fo26_0 0) (Oq (VldF sh3 0) (Oq Vlss (Oq Vm ?_)))
 refine Js 8 ?_ ?_
 ·intro h8
  have g9 := dt h8
  refine Osk (Osk (Osk (Oq Vpt (Oq Vm (Osk (Osk (Osk (Osk (Oq Vpt ?_)))))))))
  refine Oq Vm (Osk (Osk (Osk (Osk (Oq Vpt (Oq Vm (Osk (Osk (Osk ?_)))))))))
  refine Osk (Osk (Osk (Osk (Oq Vpt (Oq Vm (Osk (Osk (Osk (Osk ?_)))))))))
  refine Osk (Osk (Osk (Osk (Osk (Osk (Osk (Osk (Osk (Oq Vpt ?_)))))))))
  refine Oq Vm (Osk (Osk (Osk (Osk (Oq Vpt (Oq Vm (Osk (Osk (Osk ?_)))))))))
  refine Osk (Oq Vpt (Oq Vm (Osk (Osk (Osk (Osk (Oq Vpt (Oq Vm (Osk ?_)))))))))
  refine Osk (Osk (Osk (Oq Vpt (KS ?_))))
  refine Kt (KS ?_)
  refine Oq Va (KS ?_)
  have hq := q4 hrr false (by simp only [r14_Encodable, h8, cs4]); subst hq
  exact Kr () rfl (.tmp rfl .nil) [] trivial
 intro h8
 have g10 := df h8
 refine Oq (Vfa fo26_0 0) (Oq (VldF sh3 0) (Oq Vgtr (Oq Vpf (Oq Vm ?_))))
 refine Js 13 ?_ ?_
 ·intro h11
  have g12 := dt h11
  refine Osk (Osk (Osk (Osk (Oq Vpt (Oq Vm (Osk (Osk (Osk (Osk ?_)))))))))
  refine Oq Vpt (Oq Vm (Osk (Osk (Osk (Osk (Osk (Osk (Osk (Oq Vpt ?_)))))))))
  refine Oq Vm (Osk (Osk (Osk (Osk (Osk (Osk (Osk (Osk (Osk ?_)))))))))
  refine Osk (Osk (Osk (Osk (Oq Vpt (Oq Vm (Osk (Osk (Osk (Osk ?_)))))))))
  refine Oq Vpt (Oq Vm (Osk (Osk (Osk (Osk (Oq Vpt (Oq Vm (Osk (Osk ?_)))))))))
  refine Osk (Osk (Oq Vpt (Oq Vm (Osk (Osk (Osk (Osk (Oq Vpt (KS ?_)))))))))
  refine Kt (KS ?_)
  refine Oq Va (KS ?_)
  have hq := q4 hrr false (by simp only [r14_Encodable, h8, h11, cs4]); subst hq
  exact Kr () rfl (.tmp rfl .nil) [] trivial
 intro h11
 have g13 := df h11
 refine Oq (Vfa fo26_1 0) (Oq (VldF sh22 0) (Oq (Vlen sl22) (Oq Vlss (Oq Vpf (Oq Vm ?_)))))
 refine Js 19 ?_ ?_
 ·intro h14
  have g15 := dt h14
  refine Osk (Osk (Osk (Osk (Oq Vpt (Oq Vm (Osk (Osk (Osk (Osk ?_)))))))))
  refine Osk (Osk (Osk (Oq Vpt (Oq Vm (Osk (Osk (Osk (Osk (Osk ?_)))))))))
  refine Osk (Osk (Osk (Osk (Osk (Osk (Osk (Osk (Oq Vpt (Oq Vm ?_)))))))))
  refine Osk (Osk (Osk (Osk (Oq Vpt (Oq Vm (Osk (Osk (Osk (Osk ?_)))))))))
  refine Oq Vpt (Oq Vm (Osk (Osk (Osk (Osk (Oq Vpt (Oq Vm (Osk (Osk ?_)))))))))
  refine Osk (Osk (Oq Vpt (KS ?_)))
  refine Kt (KS ?_)
  refine Oq Va (KS ?_)
  have hq := q4 hrr false (by simp only [r14_Encodable, h8, h11, h14, cs4]); subst hq
  exact Kr () rfl (.tmp rfl .nil) [] trivial
 intro h14
 have g16 := df h14
 refine Oq (Vfa fo26_1 0) (Oq (VldF sh22 0) (Oq (Vlen sl22) (Oq Vgtr (Oq Vpf (Oq Vm ?_)))))
 refine Js 25 ?_ ?_
 ·intro h17
  have g18 := dt h17
  refine Osk (Osk (Osk (Osk (Osk (Osk (Osk (Oq Vpt (Oq Vm (Osk ?_)))))))))
  refine Osk (Osk (Osk (Osk (Osk (Osk (Osk (Osk (Osk (Osk ?_)))))))))
  refine Osk (Osk (Oq Vpt (Oq Vm (Osk (Osk (Osk (Osk (Oq Vpt (Oq Vm ?_)))))))))
  refine Osk (Osk (Osk (Osk (Oq Vpt (Oq Vm (Osk (Osk (Osk (Osk ?_)))))))))
  refine Oq Vpt (Oq Vm (Osk (Osk (Osk (Osk (Oq Vpt (KS ?_)))))))
  refine Kt (KS ?_)
  refine Oq Va (KS ?_)
  have hq := q4 hrr false (by simp only [r14_Encodable, h8, h11, h14, h17, cs4]); subst hq
  exact Kr () rfl (.tmp rfl .nil) [] trivial
 intro h17
 have g19 := df h17
 refine Oq (Vfa fo26_2 0) (Oq (VldF sh23 0) (Oq (Vlen sl23) (Oq (Vfa fo26_1 0) (Oq (VldF sh22 0) (Oq (Vlen sl22) (Oq Vneq (Oq Vpf (Oq Vm ?_))))))))
 refine Js 34 ?_ ?_
 ·intro h20
  have g21 := ne_of_bne h20
  refine Osk (Osk (Osk (Osk (Osk (Osk (Osk (Osk (Osk (Osk ?_)))))))))
  refine Osk (Osk (Osk (Oq Vpt (Oq Vm (Osk (Osk (Osk (Osk (Oq Vpt ?_)))))))))
  refine Oq Vm (Osk (Osk (Osk (Osk (Oq Vpt (Oq Vm (Osk (Osk (Osk ?_)))))))))
  refine Osk (Oq Vpt (Oq Vm (Osk (Osk (Osk (Osk (Oq Vpt (KS ?_))))))))
  refine Kt (KS ?_)
  refine Oq Va (KS ?_)
  have hq := q4 hrr false (by simp only [r14_Encodable, h8, h11, h14, h17, h20, cs4]); subst hq
  exact Kr () rfl (.tmp rfl .nil) [] trivial
 intro h20
 have g22 := eq_of_bne_false h20
 refine Oq (Vfa fo26_5 0) (Oq (VldF sh24 0) (Oq (Vlen sl24) (Oq Vneq (Oq Vm ?_))))
 refine Js 39 ?_ ?_
 ·intro h23
  have g24 := ne_of_bne h23
  refine Oq (Vfa fo26_5 0) (Oq (VldF sh24 0) (Oq (Vlen sl24) (Oq (Vfa fo26_1 0) (Oq (VldF sh22 0) (Oq (Vlen sl22) (Oq Vneq (Oq Vpt (Oq Vpf (Oq Vm ?_)))))))))
  refine Js 49 ?_ ?_
  ·intro h25
   have g26 := ne_of_bne h25
   refine Osk (Osk (Osk (Osk (Oq Vpt (Oq Vm (Osk (Osk (Osk (Osk ?_)))))))))
   refine Oq Vpt (Oq Vm (Osk (Osk (Osk (Osk (Oq Vpt (Oq Vm (Osk (Osk ?_)))))))))
   refine Osk (Osk (Oq Vpt (KS ?_)))
   refine Kt (KS ?_)
   refine Oq Va (KS ?_)
   have hq := q4 hrr false (by simp only [r14_Encodable, h8, h11, h14, h17, h20, h23, h25, cs4]); subst hq
   exact Kr () rfl (.tmp rfl .nil) [] trivial
  intro h25
  have g27 := eq_of_bne_false h25
  refine Oq (Vfa fo26_6 0) (Oq (VldF sh22 0) (Oq (Vlen sl22) (Oq Vgtr (Oq Vpf (Oq Vm ?_)))))
  refine Js 55 ?_ ?_
  ·intro h28
   have g29 := dt h28
   refine Osk (Osk (Osk (Osk (Oq Vpt (Oq Vm (Osk (Osk (Osk (Osk ?_)))))))))
   refine Oq Vpt (Oq Vm (Osk (Osk (Osk (Osk (Oq Vpt (KS ?_)))))))
   refine Kt (KS ?_)
   refine Oq Va (KS ?_)
   have hq := q4 hrr false (by simp only [r14_Encodable, h8, h11, h14, h17, h20, h23, h25, h28, cs4]); subst hq
   exact Kr () rfl (.tmp rfl .nil) [] trivial
  intro h28
  have g30 := df h28
  refine Oq (Vfa fo26_3 0) (Oq (VldF sh3 0) ?_)
  refine letv (r14_counter st.At) fun rv31 hg32 => ?_
  have hc33 := fn58 st.At pre rv31 hg32
  refine Oc [] ca58 hc33 ?_
  rintro - -
  refine Oq Vnot (Oq Vpf (Oq Vm ?_))
  refine Js 61 ?_ ?_
  ·intro h34
   have h36 := not_true h34
   refine Osk (Osk (Osk (Osk (Oq Vpt (Oq Vm (Osk (Osk (Osk (Osk ?_)))))))))
   refine Oq Vpt (KS ?_)
   refine Kt (KS ?_)
   refine Oq Va (KS ?_)
   have hq := q4 hrr false (by simp only [r14_Encodable, h8, h11, h14, h17, h20, h23, h25, h28, h34, h36, hg32, cs4]); subst hq
   exact Kr () rfl (.tmp rfl .nil) [] trivial
  intro h34
  have h39 := not_false h34
  refine Oq (Vfa fo26_4 0) (Oq (VldF sh3 0) ?_)
  refine letv (r14_counter st.Edge) fun rv41 hg42 => ?_
  have hc43 := fn58 st.Edge pre rv41 hg42
  refine Oc [] ca58 hc43 ?_
  rintro - -
  refine Oq Vnot (Oq Vpf (Oq Vm ?_))
  refine Js 67 ?_ ?_
  ·intro h44
   have h46 := not_true h44
   refine Osk (Osk (Osk (Osk (Oq Vpt (KS ?_)))))
   refine Kt (KS ?_)
   refine Oq Va (KS ?_)
   have hq := q4 hrr false (by simp only [r14_Encodable, h8, h11, h14, h17, h20, h23, h25, h28, h34, h39, h44, h46, hg32, hg42, cs4]); subst hq
   exact Kr () rfl (.tmp rfl .nil) [] trivial
  intro h44
  have h49 := not_false h44
  refine Oq (Vfa fo26_7 0) (Oq (VldF sh3 0) ?_)
  refine letv (r14_counter st.Steps) fun rv51 hg52 => ?_
  have hc53 := fn58 st.Steps pre rv51 hg52
  refine Oc [] ca58 hc53 ?_
  rintro - -
  refine Oq Vnot (Oq Vpf (KS ?_))
  refine Kc ?_ ?_
  ·intro h54
   have h56 := not_true h54
   refine KS ?_
   refine Oq Va (KS ?_)
   have hq := q4 hrr false (by simp only [r14_Encodable, h8, h11, h14, h17, h20, h23, h25, h28, h34, h39, h44, h49, h54, h56, hg32, hg42, hg52, cs4]); subst hq
   exact Kr () rfl (.tmp rfl .nil) [] trivial
  intro h54
  have h59 := not_false h54
  refine KS ?_
  refine Oq Va (KS ?_)
  refine Kl (γ := Nat × Int) (fun (r61, i_62) => ⟨[(1, p7), (3, vi i_62)], [pv p7 [vi st.Phase, vl sta1 stk1 st.Cone, vl sta2 stk2 st.Leaf, vi st.At, vi st.Edge, vl sta5 stk5 st.Values, vl sta6 stk6 st.Queue, vi st.Steps], S sta1 stk1 st.Cone, S sta2 stk2 st.Leaf, S sta5 stk5 st.Values, S sta6 stk6 st.Queue], r14_Encodable_L0 st r61 i_62 = r14_Encodable_L0 st (((st.Cone.length : Int) - 0).toNat) 0 ∧ r61 = ((st.Cone.length : Int) - i_62).toNat ∧ (0 : Int) ≤ i_62 ∧ i_62 ≤ (st.Cone.length : Int) ∧ (-9223372036854775808 ≤ i_62 ∧ i_62 ≤ 9223372036854775807), r61⟩) (((st.Cone.length : Int) - 0).toNat, 0) [0, 1, 2, 3, 4] ⟨rfl, rfl, aM1, aM1, aM1⟩ ?_
  rintro ⟨r61, i_62⟩ ⟨hM63, hr64, hi65, hi66, hk67⟩
  refine JJ_nx fun _ _ hL hA => ?_; dsimp only at hL hA; subst hL hA
  refine Fb 8 1 fun _ => Fo 1 fun ho69 => Fb 1 2 fun _ => Fb 32 3 fun _ => Fb 8 4 fun _ => Fo 4 fun ho73 => KS ?_
  refine Oq Vm (Oq (Vfa fo26_1 0) (Oq (VldF sh22 0) (Oq (Vlen sl22) (Oq Vlss (KS ?_)))))
  refine Kc ?_ ?_
  ·intro h74
   have g75 := dt h74
   obtain ⟨r76, rfl⟩ := scc (n := r61) aM1
   refine KS ?_
   refine Oq (Vfa fo26_1 0) (Oq (VldF sh22 0) (Oq Vm (Oq (Vi sl22 1) ?_)))
   have hb77 := ok1 (i := i_62.toNat) ho69 rng
   refine Oq (VldI sh3 1) ?_
   refine letv (r14_counter (st.Cone.getD i_62.toNat 0)) fun rv78 hg79 => ?_
   have hc80 := fn58 ((st.Cone.getD i_62.toNat 0)) pre rv78 hg79
   refine Oc [] ca58 hc80 ?_
   rintro - -
   refine Oq Vnot (Oq Vm ?_)
   refine Js 87 ?_ ?_
   ·intro h81
    have h83 := not_true h81
    refine Osk (Osk (Osk (Osk (Osk (Osk (Osk (Osk (Osk (Osk ?_)))))))))
    refine Osk (Osk (Osk (Oq Vpt (KS ?_))))
    refine Kt (KS ?_)
    refine Oq Va (KS ?_)
    have hR85 := q2 hM63 (.ret false) (by simp only [r14_Encodable_L0, h74, h81, h83, hg79, cs4])
    have hq := q4 hrr false (by simp only [r14_Encodable, h8, h11, h14, h17, h20, h23, h25, h28, h34, h39, h44, h49, h54, h59, h74, h81, h83, hg32, hg42, hg52, hg79, hR85, cs4]); subst hq
    exact Kr () rfl (.tmp rfl .nil) [] trivial
   intro h81
   have h87 := not_false h81
   refine Oq (Vfa fo26_5 0) (Oq (VldF sh24 0) (Oq (Vlen sl24) (Oq Vgtr (Oq Vm ?_))))
   refine Js 92 ?_ ?_
   ·intro h89
    have g90 := dt h89
    refine Oq (Vfa fo26_5 0) (Oq (VldF sh24 0) (Oq Vm (Oq (Vi sl24 3) ?_)))
    refine JJ_peek_GSet i_62.toNat 3 rfl rng fun a91 k92 hb93 => ?_
    unfold i64ok at hb93
    refine Fb 8 1 fun _ => Oq (VldA sh39 0) ?_
    refine letv (r1_Valid (st.Values.getD i_62.toNat default)) fun rv95 hg96 => ?_
    have hc97 := fn59 ((st.Values.getD i_62.toNat default)) a91 k92 pre rv95 hg96
    refine Oc [1] ca59 hc97 ?_
    rintro - -
    refine Oq Vnot (Oq Vpt (Oq Vpf (KS ?_)))
    refine Kc ?_ ?_
    ·intro h98
     have h100 := not_true h98
     refine KS ?_
     refine Oq Va (KS ?_)
     have hR102 := q2 hM63 (.ret false) (by simp only [r14_Encodable_L0, h74, h81, h87, h89, h98, h100, hg79, hg96, cs4])
     have hq := q4 hrr false (by simp only [r14_Encodable, h8, h11, h14, h17, h20, h23, h25, h28, h34, h39, h44, h49, h54, h59, h74, h81, h87, h89, h98, h100, hg32, hg42, hg52, hg79, hg96, hR102, cs4]); subst hq
     exact Kr () rfl (.tmp rfl .nil) [] trivial
    intro h98
    have h104 := not_false h98
    refine KS ?_
    refine Oq Vm (Oq Vadd (Oq Va (KS ?_)))
    exact Kg (r76, (i_62 + 1)) [2, 3, 4, 5, 6] ⟨(q3 hM63 (by simp only [r14_Encodable_L0, h74, h81, h87, h89, h98, h104, hg79, hg96, cs4])), aM1, aM1, aM1, aM1⟩
   intro h89
   have g106 := df h89
   refine Osk (Osk (Osk (Osk (Osk (Osk (Osk (Oq Vpf (Oq Vpf (KS ?_)))))))))
   refine Kf (KS ?_)
   refine Oq Vm (Oq Vadd (Oq Va (KS ?_)))
   exact Kg (r76, (i_62 + 1)) [0, 1, 2, 3, 4] ⟨(q3 hM63 (by simp only [r14_Encodable_L0, h74, h81, h87, h89, hg79, cs4])), aM1, aM1, aM1, aM1⟩
  intro h74
  have g107 := df h74
  obtain rfl : r61 = 0 := by omega
  refine Ke ?_
  have hR108 := q2 hM63 (.brk ()) (by simp only [r14_Encodable_L0, h74, cs4])
  refine KS ?_
  refine Oq Va (KS ?_)
  refine Kl (γ := Nat × Int) (fun (r109, i_110) => ⟨[(1, p7), (4, vi i_110)], [pv p7 [vi st.Phase, vl sta1 stk1 st.Cone, vl sta2 stk2 st.Leaf, vi st.At, vi st.Edge, vl sta5 stk5 st.Values, vl sta6 stk6 st.Queue, vi st.Steps], S sta1 stk1 st.Cone, S sta2 stk2 st.Leaf, S sta5 stk5 st.Values, S sta6 stk6 st.Queue], r14_Encodable_L1 st r109 i_110 = r14_Encodable_L1 st (((st.Queue.length : Int) - 0).toNat) 0 ∧ r109 = ((st.Queue.length : Int) - i_110).toNat ∧ (0 : Int) ≤ i_110 ∧ i_110 ≤ (st.Queue.length : Int) ∧ (-9223372036854775808 ≤ i_110 ∧ i_110 ≤ 9223372036854775807), r109⟩) (((st.Queue.length : Int) - 0).toNat, 0) [0, 1, 2, 3, 4] ⟨rfl, rfl, aM1, aM1, aM1⟩ ?_
  rintro ⟨r109, i_110⟩ ⟨hM111, hr112, hi113, hi114, hk115⟩
  refine JJ_nx fun _ _ hL hA => ?_; dsimp only at hL hA; subst hL hA
  refine Fb 8 1 fun _ => Fo 1 fun ho117 => Fb 1 2 fun _ => Fb 32 3 fun _ => Fb 8 4 fun _ => Fo 4 fun ho121 => KS ?_
  refine Oq Vm (Oq (Vfa fo26_6 0) (Oq (VldF sh22 0) (Oq (Vlen sl22) (Oq Vlss (KS ?_)))))
  refine Kc ?_ ?_
  ·intro h122
   have g123 := dt h122
   obtain ⟨r124, rfl⟩ := scc (n := r109) aM1
   refine KS ?_
   refine Oq (Vfa fo26_6 0) (Oq (VldF sh22 0) (Oq Vm (Oq (Vi sl22 4) ?_)))
   have hb125 := ok1 (i := i_110.toNat) ho121 rng
   refine Oq (VldI sh3 4) ?_
   refine letv (r14_counter (st.Queue.getD i_110.toNat 0)) fun rv126 hg127 => ?_
   have hc128 := fn58 ((st.Queue.getD i_110.toNat 0)) pre rv126 hg127
   refine Oc [] ca58 hc128 ?_
   rintro - -
   refine Oq Vnot (KS ?_)
   refine Kc ?_ ?_
   ·intro h129
    have h131 := not_true h129
    refine KS ?_
    refine Oq Va (KS ?_)
    have hR133 := q2 hM111 (.ret false) (by simp only [r14_Encodable_L1, h122, h129, h131, hg127, cs4])
    have hq := q4 hrr false (by simp only [r14_Encodable, h8, h11, h14, h17, h20, h23, h25, h28, h34, h39, h44, h49, h54, h59, h74, h122, h129, h131, hg32, hg42, hg52, hR108, hg127, hR133, cs4]); subst hq
    exact Kr () rfl (.tmp rfl .nil) [] trivial
   intro h129
   have h135 := not_false h129
   refine KS ?_
   refine Oq Vm (Oq Vadd (Oq Va (KS ?_)))
   exact Kg (r124, (i_110 + 1)) [0, 1, 2, 3, 4] ⟨(q3 hM111 (by simp only [r14_Encodable_L1, h122, h129, h135, hg127, cs4])), aM1, aM1, aM1, aM1⟩
  intro h122
  have g137 := df h122
  obtain rfl : r109 = 0 := by omega
  refine Ke ?_
  have hR138 := q2 hM111 (.brk ()) (by simp only [r14_Encodable_L1, h122, cs4])
  refine KS ?_
  refine Oq Va (KS ?_)
  have hq := q4 hrr true (by simp only [r14_Encodable, h8, h11, h14, h17, h20, h23, h25, h28, h34, h39, h44, h49, h54, h59, h74, h122, hg32, hg42, hg52, hR108, hR138, cs4]); subst hq
  exact Kr () rfl (.tmp rfl .nil) [] trivial
 intro h23
 have g139 := eq_of_bne_false h23
 refine Osk (Osk (Osk (Osk (Osk (Osk (Osk (Oq Vpf (Oq Vpf (Oq Vm ?_)))))))))
 refine Oq (Vfa fo26_6 0) (Oq (VldF sh22 0) (Oq (Vlen sl22) (Oq Vgtr (Oq Vpf (Oq Vm ?_)))))
 refine Js 55 ?_ ?_
 ·intro h140
  have g141 := dt h140
  refine Osk (Osk (Osk (Osk (Oq Vpt (Oq Vm (Osk (Osk (Osk (Osk ?_)))))))))
  refine Oq Vpt (Oq Vm (Osk (Osk (Osk (Osk (Oq Vpt (KS ?_)))))))
  refine Kt (KS ?_)
  refine Oq Va (KS ?_)
  have hq := q4 hrr false (by simp only [r14_Encodable, h8, h11, h14, h17, h20, h23, h140, cs4]); subst hq
  exact Kr () rfl (.tmp rfl .nil) [] trivial
 intro h140
 have g142 := df h140
 refine Oq (Vfa fo26_3 0) (Oq (VldF sh3 0) ?_)
 refine letv (r14_counter st.At) fun rv143 hg144 => ?_
 have hc145 := fn58 st.At pre rv143 hg144
 refine Oc [] ca58 hc145 ?_
 rintro - -
 refine Oq Vnot (Oq Vpf (Oq Vm ?_))
 refine Js 61 ?_ ?_
 ·intro h146
  have h148 := not_true h146
  refine Osk (Osk (Osk (Osk (Oq Vpt (Oq Vm (Osk (Osk (Osk (Osk ?_)))))))))
  refine Oq Vpt (KS ?_)
  refine Kt (KS ?_)
  refine Oq Va (KS ?_)
  have hq := q4 hrr false (by simp only [r14_Encodable, h8, h11, h14, h17, h20, h23, h140, h146, h148, hg144, cs4]); subst hq
  exact Kr () rfl (.tmp rfl .nil) [] trivial
 intro h146
 have h151 := not_false h146
 refine Oq (Vfa fo26_4 0) (Oq (VldF sh3 0) ?_)
 refine letv (r14_counter st.Edge) fun rv153 hg154 => ?_
 have hc155 := fn58 st.Edge pre rv153 hg154
 refine Oc [] ca58 hc155 ?_
 rintro - -
 refine Oq Vnot (Oq Vpf (Oq Vm ?_))
 refine Js 67 ?_ ?_
 ·intro h156
  have h158 := not_true h156
  refine Osk (Osk (Osk (Osk (Oq Vpt (KS ?_)))))
  refine Kt (KS ?_)
  refine Oq Va (KS ?_)
  have hq := q4 hrr false (by simp only [r14_Encodable, h8, h11, h14, h17, h20, h23, h140, h146, h151, h156, h158, hg144, hg154, cs4]); subst hq
  exact Kr () rfl (.tmp rfl .nil) [] trivial
 intro h156
 have h161 := not_false h156
 refine Oq (Vfa fo26_7 0) (Oq (VldF sh3 0) ?_)
 refine letv (r14_counter st.Steps) fun rv163 hg164 => ?_
 have hc165 := fn58 st.Steps pre rv163 hg164
 refine Oc [] ca58 hc165 ?_
 rintro - -
 refine Oq Vnot (Oq Vpf (KS ?_))
 refine Kc ?_ ?_
 ·intro h166
  have h168 := not_true h166
  refine KS ?_
  refine Oq Va (KS ?_)
  have hq := q4 hrr false (by simp only [r14_Encodable, h8, h11, h14, h17, h20, h23, h140, h146, h151, h156, h161, h166, h168, hg144, hg154, hg164, cs4]); subst hq
  exact Kr () rfl (.tmp rfl .nil) [] trivial
 intro h166
 have h171 := not_false h166
 refine KS ?_
 refine Oq Va (KS ?_)
 refine Kl (γ := Nat × Int) (fun (r173, i_174) => ⟨[(1, p7), (3, vi i_174)], [pv p7 [vi st.Phase, vl sta1 stk1 st.Cone, vl sta2 stk2 st.Leaf, vi st.At, vi st.Edge, vl sta5 stk5 st.Values, vl sta6 stk6 st.Queue, vi st.Steps], S sta1 stk1 st.Cone, S sta2 stk2 st.Leaf, S sta5 stk5 st.Values, S sta6 stk6 st.Queue], r14_Encodable_L0 st r173 i_174 = r14_Encodable_L0 st (((st.Cone.length : Int) - 0).toNat) 0 ∧ r173 = ((st.Cone.length : Int) - i_174).toNat ∧ (0 : Int) ≤ i_174 ∧ i_174 ≤ (st.Cone.length : Int) ∧ (-9223372036854775808 ≤ i_174 ∧ i_174 ≤ 9223372036854775807), r173⟩) (((st.Cone.length : Int) - 0).toNat, 0) [0, 1, 2, 3, 4] ⟨rfl, rfl, aM1, aM1, aM1⟩ ?_
 rintro ⟨r173, i_174⟩ ⟨hM175, hr176, hi177, hi178, hk179⟩
 refine JJ_nx fun _ _ hL hA => ?_; dsimp only at hL hA; subst hL hA
 refine Fb 8 1 fun _ => Fo 1 fun ho181 => Fb 1 2 fun _ => Fb 32 3 fun _ => Fb 8 4 fun _ => Fo 4 fun ho185 => KS ?_
 refine Oq Vm (Oq (Vfa fo26_1 0) (Oq (VldF sh22 0) (Oq (Vlen sl22) (Oq Vlss (KS ?_)))))
 refine Kc ?_ ?_
 ·intro h186
  have g187 := dt h186
  obtain ⟨r188, rfl⟩ := scc (n := r173) aM1
  refine KS ?_
  refine Oq (Vfa fo26_1 0) (Oq (VldF sh22 0) (Oq Vm (Oq (Vi sl22 1) ?_)))
  have hb189 := ok1 (i := i_174.toNat) ho181 rng
  refine Oq (VldI sh3 1) ?_
  refine letv (r14_counter (st.Cone.getD i_174.toNat 0)) fun rv190 hg191 => ?_
  have hc192 := fn58 ((st.Cone.getD i_174.toNat 0)) pre rv190 hg191
  refine Oc [] ca58 hc192 ?_
  rintro - -
  refine Oq Vnot (Oq Vm ?_)
  refine Js 87 ?_ ?_
  ·intro h193
   have h195 := not_true h193
   refine Osk (Osk (Osk (Osk (Osk (Osk (Osk (Osk (Osk (Osk ?_)))))))))
   refine Osk (Osk (Osk (Oq Vpt (KS ?_))))
   refine Kt (KS ?_)
   refine Oq Va (KS ?_)
   have hR197 := q2 hM175 (.ret false) (by simp only [r14_Encodable_L0, h186, h193, h195, hg191, cs4])
   have hq := q4 hrr false (by simp only [r14_Encodable, h8, h11, h14, h17, h20, h23, h140, h146, h151, h156, h161, h166, h171, h186, h193, h195, hg144, hg154, hg164, hg191, hR197, cs4]); subst hq
   exact Kr () rfl (.tmp rfl .nil) [] trivial
  intro h193
  have h199 := not_false h193
  refine Oq (Vfa fo26_5 0) (Oq (VldF sh24 0) (Oq (Vlen sl24) (Oq Vgtr (Oq Vm ?_))))
  refine Js 92 ?_ ?_
  ·intro h201
   have g202 := dt h201
   refine Oq (Vfa fo26_5 0) (Oq (VldF sh24 0) (Oq Vm (Oq (Vi sl24 3) ?_)))
   refine JJ_peek_GSet i_174.toNat 3 rfl rng fun a203 k204 hb205 => ?_
   unfold i64ok at hb205
   refine Fb 8 1 fun _ => Oq (VldA sh39 0) ?_
   refine letv (r1_Valid (st.Values.getD i_174.toNat default)) fun rv207 hg208 => ?_
   have hc209 := fn59 ((st.Values.getD i_174.toNat default)) a203 k204 pre rv207 hg208
   refine Oc [1] ca59 hc209 ?_
   rintro - -
   refine Oq Vnot (Oq Vpt (Oq Vpf (KS ?_)))
   refine Kc ?_ ?_
   ·intro h210
    have h212 := not_true h210
    refine KS ?_
    refine Oq Va (KS ?_)
    have hR214 := q2 hM175 (.ret false) (by simp only [r14_Encodable_L0, h186, h193, h199, h201, h210, h212, hg191, hg208, cs4])
    have hq := q4 hrr false (by simp only [r14_Encodable, h8, h11, h14, h17, h20, h23, h140, h146, h151, h156, h161, h166, h171, h186, h193, h199, h201, h210, h212, hg144, hg154, hg164, hg191, hg208, hR214, cs4]); subst hq
    exact Kr () rfl (.tmp rfl .nil) [] trivial
   intro h210
   have h216 := not_false h210
   refine KS ?_
   refine Oq Vm (Oq Vadd (Oq Va (KS ?_)))
   exact Kg (r188, (i_174 + 1)) [2, 3, 4, 5, 6] ⟨(q3 hM175 (by simp only [r14_Encodable_L0, h186, h193, h199, h201, h210, h216, hg191, hg208, cs4])), aM1, aM1, aM1, aM1⟩
  intro h201
  have g218 := df h201
  refine Osk (Osk (Osk (Osk (Osk (Osk (Osk (Oq Vpf (Oq Vpf (KS ?_)))))))))
  refine Kf (KS ?_)
  refine Oq Vm (Oq Vadd (Oq Va (KS ?_)))
  exact Kg (r188, (i_174 + 1)) [0, 1, 2, 3, 4] ⟨(q3 hM175 (by simp only [r14_Encodable_L0, h186, h193, h199, h201, hg191, cs4])), aM1, aM1, aM1, aM1⟩
 intro h186
 have g219 := df h186
 obtain rfl : r173 = 0 := by omega
 refine Ke ?_
 have hR220 := q2 hM175 (.brk ()) (by simp only [r14_Encodable_L0, h186, cs4])
 refine KS ?_
 refine Oq Va (KS ?_)
 refine Kl (γ := Nat × Int) (fun (r221, i_222) => ⟨[(1, p7), (4, vi i_222)], [pv p7 [vi st.Phase, vl sta1 stk1 st.Cone, vl sta2 stk2 st.Leaf, vi st.At, vi st.Edge, vl sta5 stk5 st.Values, vl sta6 stk6 st.Queue, vi st.Steps], S sta1 stk1 st.Cone, S sta2 stk2 st.Leaf, S sta5 stk5 st.Values, S sta6 stk6 st.Queue], r14_Encodable_L1 st r221 i_222 = r14_Encodable_L1 st (((st.Queue.length : Int) - 0).toNat) 0 ∧ r221 = ((st.Queue.length : Int) - i_222).toNat ∧ (0 : Int) ≤ i_222 ∧ i_222 ≤ (st.Queue.length : Int) ∧ (-9223372036854775808 ≤ i_222 ∧ i_222 ≤ 9223372036854775807), r221⟩) (((st.Queue.length : Int) - 0).toNat, 0) [0, 1, 2, 3, 4] ⟨rfl, rfl, aM1, aM1, aM1⟩ ?_
 rintro ⟨r221, i_222⟩ ⟨hM223, hr224, hi225, hi226, hk227⟩
 refine JJ_nx fun _ _ hL hA => ?_; dsimp only at hL hA; subst hL hA
 refine Fb 8 1 fun _ => Fo 1 fun ho229 => Fb 1 2 fun _ => Fb 32 3 fun _ => Fb 8 4 fun _ => Fo 4 fun ho233 => KS ?_
 refine Oq Vm (Oq (Vfa fo26_6 0) (Oq (VldF sh22 0) (Oq (Vlen sl22) (Oq Vlss (KS ?_)))))
 refine Kc ?_ ?_
 ·intro h234
  have g235 := dt h234
  obtain ⟨r236, rfl⟩ := scc (n := r221) aM1
  refine KS ?_
  refine Oq (Vfa fo26_6 0) (Oq (VldF sh22 0) (Oq Vm (Oq (Vi sl22 4) ?_)))
  have hb237 := ok1 (i := i_222.toNat) ho233 rng
  refine Oq (VldI sh3 4) ?_
  refine letv (r14_counter (st.Queue.getD i_222.toNat 0)) fun rv238 hg239 => ?_
  have hc240 := fn58 ((st.Queue.getD i_222.toNat 0)) pre rv238 hg239
  refine Oc [] ca58 hc240 ?_
  rintro - -
  refine Oq Vnot (KS ?_)
  refine Kc ?_ ?_
  ·intro h241
   have h243 := not_true h241
   refine KS ?_
   refine Oq Va (KS ?_)
   have hR245 := q2 hM223 (.ret false) (by simp only [r14_Encodable_L1, h234, h241, h243, hg239, cs4])
   have hq := q4 hrr false (by simp only [r14_Encodable, h8, h11, h14, h17, h20, h23, h140, h146, h151, h156, h161, h166, h171, h186, h234, h241, h243, hg144, hg154, hg164, hR220, hg239, hR245, cs4]); subst hq
   exact Kr () rfl (.tmp rfl .nil) [] trivial
  intro h241
  have h247 := not_false h241
  refine KS ?_
  refine Oq Vm (Oq Vadd (Oq Va (KS ?_)))
  exact Kg (r236, (i_222 + 1)) [0, 1, 2, 3, 4] ⟨(q3 hM223 (by simp only [r14_Encodable_L1, h234, h241, h247, hg239, cs4])), aM1, aM1, aM1, aM1⟩
 intro h234
 have g249 := df h234
 obtain rfl : r221 = 0 := by omega
 refine Ke ?_
 have hR250 := q2 hM223 (.brk ()) (by simp only [r14_Encodable_L1, h234, cs4])
 refine KS ?_
 refine Oq Va (KS ?_)
 have hq := q4 hrr true (by simp only [r14_Encodable, h8, h11, h14, h17, h20, h23, h140, h146, h151, h156, h161, h166, h171, h186, h234, hg144, hg154, hg164, hR220, hR250, cs4]); subst hq
 exact Kr () rfl (.tmp rfl .nil) [] trivial
theorem fn60 (b : List UInt8) (ba0 : Option Addr) (bk0 : Nat) (n : Int) (hn_0 : i64ok n) (hb0 : b.length ≤ 1000000) (hn0 : 0 ≤ n) (rr : List UInt8) (hrr : r14_Uvarint b n = rr) : FT Tryz.prog 60 #[vl ba0 bk0 b, vi n] [O ba0 bk0 b] (fun g : Value => (rr.length ≤ b.length + 11)) (fun g => g) (fun g => [os g rr]) := by
 refine FTi Tryz.func60 fun w0 M0 F0 => ?_
 unfold i64ok at hn_0
 refine Fb 1 0 fun _ => KS ?_
 refine Oq Va (KS ?_)
 have hterm11 : r14_Uvarint_L0 10 b n ≠ LR.oof := (r14_Uvarint_t 9 _ _ aM1 (p9 aM1))
 refine Kl (γ := Nat × List UInt8 × Int × Option Addr × Nat) (fun (r2, b_3, n_4, a5, k6) => ⟨[(0, vl a5 k6 b_3), (1, vi n_4)], [O a5 k6 b_3], r14_Uvarint_L0 r2 b_3 n_4 = r14_Uvarint_L0 10 b n ∧ (-9223372036854775808 ≤ n_4 ∧ n_4 ≤ 9223372036854775807) ∧ (0 ≤ n_4) ∧ (b_3.length + r2 ≤ b.length + 10), r2⟩) (10, b, n, ba0, bk0) [0] ⟨rfl, aM1, iv0, iv0⟩ ?_
 rintro ⟨r2, b_3, n_4, a5, k6⟩ ⟨hM7, hk8, hv9, hv10⟩
 refine JJ_nx fun _ _ hL hA => ?_; dsimp only at hL hA; subst hL hA
 refine Fb 1 0 fun _ => ?_
 rcases r2 with _ | r2
 ·exact absurd (hM7.symm.trans rfl) hterm11
 refine KS ?_
 refine Oq Vm (Oq Vgtr (KS ?_))
 refine Kc ?_ ?_
 ·intro h13
  have g14 := dt h13
  refine KS ?_
  refine Oq Vm (Oq Vm ?_)
  have hb15 := iand_ok n_4 127
  refine Oq VandI ?_
  have hb16 : -9223372036854775808 ≤ (bOr .i64 (iand n_4 127) 128) ∧ (bOr .i64 (iand n_4 127) 128) ≤ 9223372036854775807 := wrap_i64b _
  refine Oq VorK (Oq (VcM un3 un5 wrap_u8) (Oa (AsV sl44 sz44 [.int .u8 ((bOr .i64 (iand n_4 127) 128) % 256)] [.int .u8 ((bOr .i64 (iand n_4 127) 128) % 256)]) fun c17 => ?_))
  refine Jo 0 ?_; rintro a18 k19 rfl
  refine Jl [0] (Ent.cr1 (α := UInt8) (A := []) _ (UInt8.ofNat (((bOr .i64 (iand n_4 127) 128) % 256) : Int).toNat) _ aB1 (fun _ => u8rd aM1)) ?_
  refine Oa (ApO [1, 0] sl44 sl44 sz44) fun c20 => ?_
  refine Jo 0 ?_; rintro a21 k22 rfl
  refine Fb 1 0 fun _ => ?_
  have hn24 := la b_3 ([(UInt8.ofNat (((bOr .i64 (iand n_4 127) 128) % 256) : Int).toNat)] : List UInt8)
  refine Oq Va (KS ?_)
  refine Oq Vm (Oq (VshrK (k := .i64) (n := ((7#64).toNat : Int)) (m := 128) (by decide)) (Oq Va (KS ?_)))
  exact Kg (r2, (b_3 ++ [(UInt8.ofNat (((bOr .i64 (iand n_4 127) 128) % 256) : Int).toNat)]), (n_4 / 128), a21, k22) [0] ⟨(q3 hM7 (by simp only [r14_Uvarint_L0, h13, cs4])), aM1, iv1, iv1⟩
 intro h13
 have g25 := df h13
 refine Ke ?_
 have hR26 := q2 hM7 (.brk (b_3, n_4)) (by simp only [r14_Uvarint_L0, h13, cs4])
 refine KS ?_
 refine Oq Vm (Oq Vm (Oq (VcM un3 un5 wrap_u8) (Oa (AsV sl44 sz44 [.int .u8 (n_4 % 256)] [.int .u8 (n_4 % 256)]) fun c27 => ?_)))
 refine Jo 0 ?_; rintro a28 k29 rfl
 refine Jl [0] (Ent.cr1 (α := UInt8) (A := []) _ (UInt8.ofNat ((n_4 % 256) : Int).toNat) _ aB1 (fun _ => u8rd aM1)) ?_
 refine Oa (ApO [1, 0] sl44 sl44 sz44) fun c30 => ?_
 refine Jo 0 ?_; rintro a31 k32 rfl
 refine Fb 1 0 fun _ => ?_
 have hn34 := la b_3 ([(UInt8.ofNat ((n_4 % 256) : Int).toNat)] : List UInt8)
 refine Oq Va (KS ?_)
 have hq := q4 hrr (b_3 ++ [(UInt8.ofNat ((n_4 % 256) : Int).toNat)]) (by simp only [r14_Uvarint, h13, hR26, cs4]); subst hq
 exact Kr (vl a31 k32 (b_3 ++ [(UInt8.ofNat ((n_4 % 256) : Int).toNat)])) rfl (.tmp rfl .nil) [0] en
theorem fn142 (s : GSet) (sa1 : Option Addr) (sk1 : Nat) (b : Int) (hs_0 : i64ok s.Width) (hb_0 : i64ok b) (rr : Bool) (hrr : r1_Has s b = rr) : FT Tryz.prog 142 #[.agg #[vi s.Width, vl sa1 sk1 s.Words], vi b] [S sa1 sk1 s.Words] (fun g : Unit => True) (fun g => vb rr) (fun g => []) := by
 refine FTi Tryz.func142 fun w0 M0 F0 => ?_
 unfold i64ok at hs_0 hb_0
 refine Fb 8 0 fun _ => KS ?_
 refine Oa (Ab [vi s.Width, vl sa1 sk1 s.Words]) fun p2 => Oq Va (KS ?_)
 refine Oq (VldA sh39 0) ?_
 refine letv (r1_Valid s) fun rv3 hg4 => ?_
 have hc5 := fn59 s sa1 sk1 pre rv3 hg4
 refine Oc [1] ca59 hc5 ?_
 rintro - -
 refine Oq Vm ?_
 refine Js 7 ?_ ?_
 ·intro h6
  try have hrg := RV_w (s := s) (by simp only [h6, hg4])
  refine Oq Vm (Oq Vgeq (Oq Vpt (Oq Vm ?_)))
  refine Js 11 ?_ ?_
  ·intro h8
   have g9 := dt h8
   refine Oq Vm (Oq (Vfa fo39_0 0) (Oq (VldF sh3 0) (Oq Vlss (Oq Vpt (Oq Vm ?_)))))
   refine Js 17 ?_ ?_
   ·intro h10
    have g11 := dt h10
    refine Oq (Vfa fo39_1 0) (Oq (VldF sh37 0) (Oq Vm (Oq Vquo (Oq (Vi sl37 1) (Oq (VldU sh68 1) (Oq Vm (Oq Vrem (Oq (VcU un3 un69) (Oq VshrU ?_)))))))))
    refine Oq (VandU (b := 1#64)) (Oq (VeqlU (b := 1#64)) (Oq Vpt (Oq Va (KS ?_))))
    have hq := q4 hrr ((((s.Words.getD ((b / 64) : Int).toNat 0#64) >>> (((BitVec.ofInt 64 (b % 64)).toNat : Int)).toNat) &&& 1#64) == 1#64) (by simp only [r1_Has, h6, h8, h10, hg4, cs4]); subst hq
    exact Kr () rfl (.tmp rfl .nil) [] trivial
   intro h10
   have g12 := df h10
   refine Osk (Osk (Osk (Osk (Osk (Osk (Osk (Osk (Osk (Osk ?_)))))))))
   refine Osk (Osk (Oq Vpf (Oq Va (KS ?_))))
   have hq := q4 hrr false (by simp only [r1_Has, h6, h8, h10, hg4, cs4]); subst hq
   exact Kr () rfl (.tmp rfl .nil) [] trivial
  intro h8
  have g13 := df h8
  refine Osk (Osk (Osk (Osk (Oq Vpf (Oq Vm (Osk (Osk (Osk (Osk ?_)))))))))
  refine Osk (Osk (Osk (Osk (Osk (Osk (Osk (Osk (Oq Vpf (Oq Va ?_)))))))))
  refine KS ?_
  have hq := q4 hrr false (by simp only [r1_Has, h6, h8, hg4, cs4]); subst hq
  exact Kr () rfl (.tmp rfl .nil) [] trivial
 intro h6
 refine Osk (Osk (Oq Vpf (Oq Vm (Osk (Osk (Osk (Osk (Oq Vpf (Oq Vm ?_)))))))))
 refine Osk (Osk (Osk (Osk (Osk (Osk (Osk (Osk (Osk (Osk ?_)))))))))
 refine Osk (Osk (Oq Vpf (Oq Va (KS ?_))))
 have hq := q4 hrr false (by simp only [r1_Has, h6, hg4, cs4]); subst hq
 exact Kr () rfl (.tmp rfl .nil) [] trivial
theorem fn105 (s : GSet) (sa1 : Option Addr) (sk1 : Nat) (hs_0 : i64ok s.Width) (rr : List Int) (hrr : r1_Members s = rr) : FT Tryz.prog 105 #[.agg #[vi s.Width, vl sa1 sk1 s.Words]] [S sa1 sk1 s.Words] (fun g : Value => True) (fun g => g) (fun g => [sl g rr]) := by
 refine FTi Tryz.func105 fun w0 M0 F0 => ?_
 unfold i64ok at hs_0
 refine Fb 8 0 fun _ => KS ?_
 refine Oa (Ab [vi s.Width, vl sa1 sk1 s.Words]) fun p2 => Oq Va (KS ?_)
 refine Oq Va (KS ?_)
 refine Oq Va (KS ?_)
 refine Jl [] (Ent.osNil (α := Int)) ?_
 have hterm12 : r1_Members_L0 s (s.Width.toNat + 1) [] 0 ≠ LR.oof := Members_L0_term _ _ _ _ aM1 aM1
 refine Kl (γ := Nat × List Int × Int × Option Addr × Nat) (fun (r3, out_4, b_5, a6, k7) => ⟨[(1, p2), (3, vl a6 k7 out_4), (4, vi b_5)], [O a6 k7 out_4, pv p2 [vi s.Width, vl sa1 sk1 s.Words], S sa1 sk1 s.Words], r1_Members_L0 s r3 out_4 b_5 = r1_Members_L0 s (s.Width.toNat + 1) [] 0 ∧ (-9223372036854775808 ≤ b_5 ∧ b_5 ≤ 9223372036854775807) ∧ 0 ≤ b_5 ∧ (out_4.length : Int) ≤ b_5, r3⟩) ((s.Width.toNat + 1), [], 0, none, 0) [0, 0, 1] ⟨rfl, aM1, iv0, iv0⟩ ?_
 rintro ⟨r3, out_4, b_5, a6, k7⟩ ⟨hM8, hk9, hv10, hv11⟩
 refine JJ_nx fun _ _ hL hA => ?_; dsimp only at hL hA; subst hL hA
 refine Fb 8 0 fun _ => Fo 0 fun ho14 => Fb 8 2 fun _ => ?_
 rcases r3 with _ | r3
 ·exact absurd (hM8.symm.trans rfl) hterm12
 refine KS ?_
 refine Oq (VldA sh39 1) ?_
 refine letv (r1_Valid s) fun rv16 hg17 => ?_
 have hc18 := fn59 s sa1 sk1 pre rv16 hg17
 refine Oc [2] ca59 hc18 ?_
 rintro - -
 refine Oq Vm ?_
 refine Js 7 ?_ ?_
 ·intro h19
  try have hrg := RV_w (s := s) (by simp only [h19, hg17])
  refine Oq Vm (Oq (Vfa fo39_0 1) (Oq (VldF sh3 1) (Oq Vlss (Oq Vpt (KS ?_)))))
  refine Kc ?_ ?_
  ·intro h21
   have g22 := dt h21
   refine KS ?_
   refine Oq (VldA sh39 1) (Oq Vm ?_)
   refine letv (r1_Has s b_5) fun rv23 hg24 => ?_
   have hc25 := fn142 s sa1 sk1 b_5 pre pre rv23 hg24
   refine Oc [2] ca142 hc25 ?_
   rintro - -
   refine KS ?_
   refine Kc ?_ ?_
   ·intro h26
    try have hrg := RV_w (s := s) (by simp only [h19, h21, h26, hg17, hg24])
    refine KS ?_
    refine Oq Vm (Oq Vm (Oa (AsV sl22 sz22 [vi b_5] [vi b_5]) fun c28 => ?_))
    refine Jo 0 ?_; rintro a29 k30 rfl
    refine Jl [0] (Ent.crInt _ [b_5] _ _ rfl rfl (by intro x hx; rw [List.mem_singleton] at hx; subst hx; unfold i64ok; omega) aB1) ?_
    refine Oa (ApO [1, 0] sl22 sl22 sz22) fun c31 => ?_
    refine Jo 0 ?_; rintro a32 k33 rfl
    refine Fb 8 0 fun _ => Fo 0 fun ho35 => ?_
    have hn36 := la out_4 ([b_5] : List Int)
    refine Oq Va (KS ?_)
    refine Oq Vm (Oq Vadd (Oq Va (KS ?_)))
    exact Kg (r3, (out_4 ++ [b_5]), (b_5 + 1), a32, k33) [0, 0, 1] ⟨(q3 hM8 (by simp only [r1_Members_L0, h19, h21, h26, hg17, hg24, cs4])), aM1, iv1, iv1⟩
   intro h26
   refine KS ?_
   refine Oq Vm (Oq Vadd (Oq Va (KS ?_)))
   exact Kg (r3, out_4, (b_5 + 1), a6, k7) [0, 0, 1] ⟨(q3 hM8 (by simp only [r1_Members_L0, h19, h21, h26, hg17, hg24, cs4])), aM1, iv1, iv1⟩
  intro h21
  have g38 := df h21
  refine Ke ?_
  have hR39 := q2 hM8 (.brk out_4) (by simp only [r1_Members_L0, h19, h21, hg17, cs4])
  refine KS ?_
  refine Oq Vm (Oq Va (KS ?_))
  refine Jl [0] (Ent.freeze _ _) ?_
  have hq := q4 hrr out_4 (by simp only [r1_Members, h19, h21, hg17, hR39, cs4]); subst hq
  exact Kr (vl a6 k7 out_4) rfl (.tmp rfl .nil) [0] trivial
 intro h19
 refine Osk (Osk (Osk (Osk (Oq Vpf (KS ?_)))))
 refine Kf ?_
 refine Ke ?_
 have hR41 := q2 hM8 (.brk out_4) (by simp only [r1_Members_L0, h19, hg17, cs4])
 refine KS ?_
 refine Oq Vm (Oq Va (KS ?_))
 refine Jl [0] (Ent.freeze _ _) ?_
 have hq := q4 hrr out_4 (by simp only [r1_Members, h19, hg17, hR41, cs4]); subst hq
 exact Kr (vl a6 k7 out_4) rfl (.tmp rfl .nil) [0] trivial
theorem fn61 (b : List UInt8) (ba0 : Option Addr) (bk0 : Nat) (s : GSet) (sa1 : Option Addr) (sk1 : Nat) (hs_0 : i64ok s.Width) (hb0 : b.length ≤ 900000) (hv0 : 0 ≤ s.Width ∧ s.Width ≤ 256) (rr : List UInt8) (hrr : r14_members b s = rr) : FT Tryz.prog 61 #[vl ba0 bk0 b, .agg #[vi s.Width, vl sa1 sk1 s.Words]] [O ba0 bk0 b, S sa1 sk1 s.Words] (fun g : Value => (rr.length ≤ b.length + 2850)) (fun g => g) (fun g => [os g rr]) := by
 refine FTi Tryz.func61 fun w0 M0 F0 => ?_
 unfold i64ok at hs_0
 refine Fb 1 0 fun _ => Fb 8 1 fun _ => ?_
 have hwd := hv0
 refine KS ?_
 refine Oa (Ab [vi s.Width, vl sa1 sk1 s.Words]) fun p3 => Oq Va (KS ?_)
 refine Oq (VldA sh39 0) ?_
 refine letv (r1_Members s) fun rv5 hg6 => ?_
 have hMA := rMem_asl hg6; have hml := hMA.2.1
 have hc7 := fn105 s sa1 sk1 pre rv5 hg6
 refine Oc [2] ca105 hc7 ?_
 rintro c4 -
 refine Jo 0 ?_; rintro a8 k9 rfl
 refine Fb 8 0 fun _ => Fo 0 fun ho11 => ?_
 refine Oq Va (KS ?_)
 refine Oq Vm (Oq (Vfa fo39_0 1) (Oq (VldF sh3 1) ?_))
 refine letv (r14_Uvarint b s.Width) fun rv13 hg14 => ?_
 have hc15 := fn60 b ba0 bk0 s.Width pre pre pre rv13 hg14
 refine Oc [2] ca60 hc15 ?_
 rintro c12 he16
 refine Jo 0 ?_; rintro a17 k18 rfl
 refine Fb 1 0 fun _ => ?_
 refine Oq Vm (Oq (Vlen sl22) ?_)
 refine letv (r14_Uvarint rv13 (rv5.length : Int)) fun rv21 hg22 => ?_
 have hc23 := fn60 rv13 a17 k18 ((rv5.length : Int)) pre pre pre rv21 hg22
 refine Oc [0] ca60 hc23 ?_
 rintro c20 he24
 refine Jo 0 ?_; rintro a25 k26 rfl
 refine Fb 1 0 fun _ => ?_
 refine Oq Va (KS ?_)
 refine Oq Va (KS ?_)
 refine Oq Va (KS ?_)
 refine Kl (γ := Nat × List UInt8 × Int × Int × Option Addr × Nat) (fun (r28, b_29, last_30, i_31, a32, k33) => ⟨[(5, vl a8 k9 rv5), (0, vl a32 k33 b_29), (6, vi last_30), (7, vi i_31)], [O a32 k33 b_29, S a8 k9 rv5], r14_members_L0 rv5 r28 b_29 last_30 i_31 = r14_members_L0 rv5 (((rv5.length : Int) - 0).toNat) rv21 (-1) 0 ∧ r28 = ((rv5.length : Int) - i_31).toNat ∧ (0 : Int) ≤ i_31 ∧ i_31 ≤ (rv5.length : Int) ∧ (-9223372036854775808 ≤ last_30 ∧ last_30 ≤ 9223372036854775807) ∧ (-9223372036854775808 ≤ i_31 ∧ i_31 ≤ 9223372036854775807) ∧ (LS rv5 i_31 last_30) ∧ ((b_29.length : Int) ≤ (b.length : Int) + 22 + 11 * i_31), r28⟩) (((rv5.length : Int) - 0).toNat, rv21, -1, 0, a25, k26) [0, 0] ⟨rfl, rfl, aM1, aM1, aM1, aM1, (LS_0 hMA), iv0⟩ ?_
 rintro ⟨r28, b_29, last_30, i_31, a32, k33⟩ ⟨hM34, hr35, hi36, hi37, hk38, hk39, hv40, hv41⟩
 refine JJ_nx fun _ _ hL hA => ?_; dsimp only at hL hA; subst hL hA
 refine Fb 1 0 fun _ => Fb 8 1 fun _ => Fo 1 fun ho44 => KS ?_
 refine Oq Vm (Oq Vm (Oq (Vlen sl22) (Oq Vlss (KS ?_))))
 refine Kc ?_ ?_
 ·intro h45
  have g46 := dt h45
  have hls := LS_get (by assumption : LS _ i_31 _) aM1 aM1; have hag := MAsc_get (i := i_31) hMA aM1 aM1
  obtain ⟨r47, rfl⟩ := scc (n := r28) aM1
  refine KS ?_
  refine Oq Vm (Oq Vm (Oq Vm (Oq (Vi sl22 1) ?_)))
  have hb48 := ok1 (i := i_31.toNat) ho44 rng
  refine Oq (VldI sh3 1) (Oq Vm (Oq Vsub (Oq Vsub ?_)))
  refine letv (r14_Uvarint b_29 (((rv5.getD i_31.toNat 0) - last_30) - 1)) fun rv50 hg51 => ?_
  have hc52 := fn60 b_29 a32 k33 ((((rv5.getD i_31.toNat 0) - last_30) - 1)) pre pre pre rv50 hg51
  refine Oc [0] ca60 hc52 ?_
  rintro c49 he53
  refine Jo 0 ?_; rintro a54 k55 rfl
  refine Fb 1 0 fun _ => ?_
  refine Oq Va (KS ?_)
  refine Oq Vm (Oq Vm (Oq (Vi sl22 1) ?_))
  have hb57 := ok1 (i := i_31.toNat) ho44 rng
  refine Oq (VldI sh3 1) (Oq Va (KS ?_))
  refine Oq Vm (Oq Vadd (Oq Va (KS ?_)))
  exact Kg (r47, rv50, (rv5.getD i_31.toNat 0), (i_31 + 1), a54, k55) [0, 0] ⟨(q3 hM34 (by simp only [r14_members_L0, h45, hg51, cs4])), aM1, aM1, aM1, aM1, aM1, (LS_step hMA aM1 aM1), iv1⟩
 intro h45
 have g58 := df h45
 obtain rfl : r28 = 0 := by omega
 refine Ke ?_
 have hR59 := q2 hM34 b_29 (by simp only [r14_members_L0, h45, cs4])
 refine KS ?_
 refine Oq Vm (Oq Va (KS ?_))
 have hq := q4 hrr b_29 (by simp only [r14_members, h45, hg6, hg14, hg22, hR59, cs4]); subst hq
 exact Kr (vl a32 k33 b_29) rfl (.tmp rfl .nil) [0] en
theorem fn32 (st : GState) (sta1 : Option Addr) (stk1 : Nat) (sta2 : Option Addr) (stk2 : Nat) (sta5 : Option Addr) (stk5 : Nat) (sta6 : Option Addr) (stk6 : Nat) (hst_0 : i64ok st.Phase) (hst_3 : i64ok st.At) (hst_4 : i64ok st.Edge) (hst_7 : i64ok st.Steps) (he0 : EO st) (rr : List UInt8) (hrr : r14_StateBytes st = rr) : FT Tryz.prog 32 #[.agg #[vi st.Phase, vl sta1 stk1 st.Cone, vl sta2 stk2 st.Leaf, vi st.At, vi st.Edge, vl sta5 stk5 st.Values, vl sta6 stk6 st.Queue, vi st.Steps]] [S sta1 stk1 st.Cone, S sta2 stk2 st.Leaf, S sta5 stk5 st.Values, S sta6 stk6 st.Queue] (fun g : Value => (rr.length ≤ 800000)) (fun g => g) (fun g => [os g rr]) := by
 refine FTi Tryz.func32 fun w0 M0 F0 => ?_
 unfold i64ok at hst_0 hst_3 hst_4 hst_7
 refine Fb 8 0 fun _ => Fo 0 fun ho2 => Fb 1 1 fun _ => Fb 32 2 fun _ => Fb 8 3 fun _ => Fo 3 fun ho6 => ?_
 have h_cl := he0.cl
 have h_vl := he0.vl
 have h_ll := he0.ll
 have h_ql := he0.ql
 have h_ph := he0.ph
 have h_ac := he0.ac
 have h_ec := he0.ec
 have h_sc := he0.sc
 have hnl : ([] : List UInt8).length = 0 := rfl
 refine KS ?_
 refine Oa (Ab [vi st.Phase, vl sta1 stk1 st.Cone, vl sta2 stk2 st.Leaf, vi st.At, vi st.Edge, vl sta5 stk5 st.Values, vl sta6 stk6 st.Queue, vi st.Steps]) fun p7 => Oq Va (KS ?_)
 refine JK_drawK [0, 1, 3, 0, 8, 24, 63, 127] fmix ?_
 refine Dv [0] (Vfa fo26_0 0) (Dv [0] (VldF sh3 0) ?_)
 refine letv (r14_Uvarint ([] : List UInt8) st.Phase) fun rv9 hg10 => ?_
 refine Dx [] [] [0, 1] (fun G => (G.g 2 0)) [fun G => SP.fact ((rv9.length ≤ ([] : List UInt8).length + 11)), fun G => os (G.g 2 0) rv9] (fun G => xp [] rfl (Ent.osNil (α := UInt8)) (xC [0] ca60 (fn60 (([] : List UInt8)) none 0 st.Phase pre pre (by first | omega | exact (he0.cc _ (getD_mem aM1)).1 | exact (he0.qc _ (getD_mem aM1)).1 | exact tri_nn aM1 aM1 aM1 _) rv9 hg10))) (Dv [0] (Vfa fo26_1 0) (Dv [0] (VldF sh22 0) (Dv [] (Vlen sl22) ?_)))
 refine letv (r14_Uvarint rv9 (st.Cone.length : Int)) fun rv15 hg16 => ?_
 refine Dx [5, 6] [6] [2, 0, 1] (fun G => (G.g 6 0)) [fun G => SP.fact ((rv15.length ≤ rv9.length + 11)), fun G => os (G.g 6 0) rv15] (fun G => by refine xf 0 rfl ?_; rintro he17; exact xD [1] ca60 rfl rfl rfl (FT_open (γ := Value) (I := fun g => (rv15.length ≤ rv9.length + 11)) (V := fun g => g) (B := fun g => [os g rv15]) (R := os (G.g 2 0) rv9) os_slice (fun aq11 kq12 eq13 => by rw [eq13]; exact FT_ent (Ent.take (is := [0]) rfl) (fn60 rv9 aq11 kq12 ((st.Cone.length : Int)) pre pre (by first | omega | exact (he0.cc _ (getD_mem aM1)).1 | exact (he0.qc _ (getD_mem aM1)).1 | exact tri_nn aM1 aM1 aM1 _) rv15 hg16)))) (Dg [] (fun G => (G.g 6 0)) (fun G => Va) ?_)
 refine Dn ⟨by kernel_rfl, fun G => ?_⟩
 refine Jw2 [(1, p7), (3, (G.g 6 0))] [0, 1, 2, 3, 4] [SP.fact ((rv9.length ≤ ([] : List UInt8).length + 11)), SP.fact ((rv15.length ≤ rv9.length + 11)), os (G.g 6 0) rv15] ?_
 generalize G.g 6 0 = c14
 refine Jf 5 rfl ?_; rintro he18
 refine Jf 6 rfl ?_; rintro he19
 refine Jk [0, 1, 2, 3, 4, 7] ?_
 refine Jo 5 ?_; rintro a20 k21 rfl
 refine Fb 1 5 fun _ => KS ?_
 refine Oq Va (KS ?_)
 refine Kl (γ := Nat × List UInt8 × Int × Option Addr × Nat) (fun (r23, b_24, i_25, a26, k27) => ⟨[(1, p7), (3, vl a26 k27 b_24), (4, vi i_25)], [O a26 k27 b_24, pv p7 [vi st.Phase, vl sta1 stk1 st.Cone, vl sta2 stk2 st.Leaf, vi st.At, vi st.Edge, vl sta5 stk5 st.Values, vl sta6 stk6 st.Queue, vi st.Steps], S sta1 stk1 st.Cone, S sta2 stk2 st.Leaf, S sta5 stk5 st.Values, S sta6 stk6 st.Queue], r14_StateBytes_L0 st r23 b_24 i_25 = r14_StateBytes_L0 st (((st.Cone.length : Int) - 0).toNat) rv15 0 ∧ r23 = ((st.Cone.length : Int) - i_25).toNat ∧ (0 : Int) ≤ i_25 ∧ i_25 ≤ (st.Cone.length : Int) ∧ (-9223372036854775808 ≤ i_25 ∧ i_25 ≤ 9223372036854775807) ∧ ((b_24.length : Int) ≤ 30 + 11 * i_25), r23⟩) (((st.Cone.length : Int) - 0).toNat, rv15, 0, a20, k21) [5, 0, 1, 2, 3, 4] ⟨rfl, rfl, aM1, aM1, aM1, iv0⟩ ?_
 rintro ⟨r23, b_24, i_25, a26, k27⟩ ⟨hM28, hr29, hi30, hi31, hk32, hv33⟩
 refine JJ_nx fun _ _ hL hA => ?_; dsimp only at hL hA; subst hL hA
 refine Fb 1 0 fun _ => Fb 8 2 fun _ => Fo 2 fun ho36 => Fb 1 3 fun _ => Fb 32 4 fun _ => Fb 8 5 fun _ => Fo 5 fun ho40 => KS ?_
 refine Oq Vm (Oq (Vfa fo26_1 1) (Oq (VldF sh22 1) (Oq (Vlen sl22) (Oq Vlss (KS ?_)))))
 refine Kc ?_ ?_
 ·intro h41
  have g42 := dt h41
  obtain ⟨r43, rfl⟩ := scc (n := r23) aM1
  refine KS ?_
  refine Oq Vm (Oq (Vfa fo26_1 1) (Oq (VldF sh22 1) (Oq Vm (Oq (Vi sl22 2) ?_))))
  have hb44 := ok1 (i := i_25.toNat) ho36 rng
  refine Oq (VldI sh3 2) ?_
  refine letv (r14_Uvarint b_24 (st.Cone.getD i_25.toNat 0)) fun rv46 hg47 => ?_
  have hc48 := fn60 b_24 a26 k27 ((st.Cone.getD i_25.toNat 0)) pre pre (by first | omega | exact (he0.cc _ (getD_mem aM1)).1 | exact (he0.qc _ (getD_mem aM1)).1 | exact tri_nn aM1 aM1 aM1 _) rv46 hg47
  refine Oc [0] ca60 hc48 ?_
  rintro c45 he49
  refine Jo 0 ?_; rintro a50 k51 rfl
  refine Fb 1 0 fun _ => ?_
  refine Oq Va (KS ?_)
  refine Oq Vm (Oq Vadd (Oq Va (KS ?_)))
  exact Kg (r43, rv46, (i_25 + 1), a50, k51) [0, 0, 1, 2, 3, 4] ⟨(q3 hM28 (by simp only [r14_StateBytes_L0, h41, hg47, cs4])), aM1, aM1, aM1, aM1, iv1⟩
 intro h41
 have g53 := df h41
 obtain rfl : r23 = 0 := by omega
 refine Ke ?_
 have hR54 := q2 hM28 b_24 (by simp only [r14_StateBytes_L0, h41, cs4])
 refine KS ?_
 refine Oq Va (KS ?_)
 refine Kl (γ := Nat × List UInt8 × Int × Option Addr × Nat) (fun (r55, b_56, i_57, a58, k59) => ⟨[(1, p7), (3, vl a58 k59 b_56), (5, vi i_57)], [O a58 k59 b_56, pv p7 [vi st.Phase, vl sta1 stk1 st.Cone, vl sta2 stk2 st.Leaf, vi st.At, vi st.Edge, vl sta5 stk5 st.Values, vl sta6 stk6 st.Queue, vi st.Steps], S sta1 stk1 st.Cone, S sta2 stk2 st.Leaf, S sta5 stk5 st.Values, S sta6 stk6 st.Queue], r14_StateBytes_L1 st r55 b_56 i_57 = r14_StateBytes_L1 st (((st.Leaf.length : Int) - 0).toNat) b_24 0 ∧ r55 = ((st.Leaf.length : Int) - i_57).toNat ∧ (0 : Int) ≤ i_57 ∧ i_57 ≤ (st.Leaf.length : Int) ∧ (-9223372036854775808 ≤ i_57 ∧ i_57 ≤ 9223372036854775807) ∧ ((b_56.length : Int) ≤ 3000 + 11 * i_57), r55⟩) (((st.Leaf.length : Int) - 0).toNat, b_24, 0, a26, k27) [0, 0, 1, 2, 3, 4] ⟨rfl, rfl, aM1, aM1, aM1, iv0⟩ ?_
 rintro ⟨r55, b_56, i_57, a58, k59⟩ ⟨hM60, hr61, hi62, hi63, hk64, hv65⟩
 refine JJ_nx fun _ _ hL hA => ?_; dsimp only at hL hA; subst hL hA
 refine Fb 1 0 fun _ => Fb 8 2 fun _ => Fo 2 fun ho68 => Fb 1 3 fun _ => Fb 32 4 fun _ => Fb 8 5 fun _ => Fo 5 fun ho72 => KS ?_
 refine Oq Vm (Oq (Vfa fo26_2 1) (Oq (VldF sh23 1) (Oq (Vlen sl23) (Oq Vlss (KS ?_)))))
 refine Kc ?_ ?_
 ·intro h73
  have g74 := dt h73
  obtain ⟨r75, rfl⟩ := scc (n := r55) aM1
  refine KS ?_
  refine Oq Va (KS ?_)
  refine Oq (Vfa fo26_2 1) (Oq (VldF sh23 1) (Oq Vm (Oq (Vi sl23 3) (Oq (VldB sh4 3) (KS ?_)))))
  refine Kc ?_ ?_
  ·intro h76
   refine KS ?_
   refine Oq Va (KS ?_)
   refine Oq Vm (Oq Vm ?_)
   refine letv (r14_Uvarint b_56 1) fun rv79 hg80 => ?_
   have hc81 := fn60 b_56 a58 k59 1 pre pre (by first | omega | exact (he0.cc _ (getD_mem aM1)).1 | exact (he0.qc _ (getD_mem aM1)).1 | exact tri_nn aM1 aM1 aM1 _) rv79 hg80
   refine Oc [0] ca60 hc81 ?_
   rintro c78 he82
   refine Jo 0 ?_; rintro a83 k84 rfl
   refine Fb 1 0 fun _ => ?_
   refine Oq Va (KS ?_)
   refine Oq Vm (Oq Vadd (Oq Va (KS ?_)))
   exact Kg (r75, rv79, (i_57 + 1), a83, k84) [0, 0, 1, 2, 3, 4] ⟨(q3 hM60 (by simp only [r14_StateBytes_L1, h73, h76, hg80, cs4])), aM1, aM1, aM1, aM1, iv1⟩
  intro h76
  refine KS ?_
  refine Oq Vm (Oq Vm ?_)
  refine letv (r14_Uvarint b_56 0) fun rv88 hg89 => ?_
  have hc90 := fn60 b_56 a58 k59 0 pre pre (by first | omega | exact (he0.cc _ (getD_mem aM1)).1 | exact (he0.qc _ (getD_mem aM1)).1 | exact tri_nn aM1 aM1 aM1 _) rv88 hg89
  refine Oc [0] ca60 hc90 ?_
  rintro c87 he91
  refine Jo 0 ?_; rintro a92 k93 rfl
  refine Fb 1 0 fun _ => ?_
  refine Oq Va (KS ?_)
  refine Oq Vm (Oq Vadd (Oq Va (KS ?_)))
  exact Kg (r75, rv88, (i_57 + 1), a92, k93) [0, 0, 1, 2, 3, 4] ⟨(q3 hM60 (by simp only [r14_StateBytes_L1, h73, h76, hg89, cs4])), aM1, aM1, aM1, aM1, iv1⟩
 intro h73
 have g95 := df h73
 obtain rfl : r55 = 0 := by omega
 refine Ke ?_
 have hR96 := q2 hM60 b_56 (by simp only [r14_StateBytes_L1, h73, cs4])
 refine KS ?_
 refine JK_drawK [0, 0, 2, 7, 0, 16, 63, 0, 128, 384, 1023, 2047] fmix ?_
 refine Dv [] Vm (Dv [1] (Vfa fo26_3 0) (Dv [1] (VldF sh3 0) ?_))
 refine letv (r14_Uvarint b_56 st.At) fun rv98 hg99 => ?_
 refine Dx [0] [0] [0, 1] (fun G => (G.g 3 0)) [fun G => SP.fact ((rv98.length ≤ b_56.length + 11)), fun G => os (G.g 3 0) rv98] (fun G => xC [0] ca60 (fn60 b_56 a58 k59 st.At pre pre (by first | omega | exact (he0.cc _ (getD_mem aM1)).1 | exact (he0.qc _ (getD_mem aM1)).1 | exact tri_nn aM1 aM1 aM1 _) rv98 hg99)) (Dv [1] (Vfa fo26_4 0) (Dv [1] (VldF sh3 0) ?_))
 refine letv (r14_Uvarint rv98 st.Edge) fun rv104 hg105 => ?_
 refine Dx [6, 7] [7] [2, 0, 1] (fun G => (G.g 6 0)) [fun G => SP.fact ((rv104.length ≤ rv98.length + 11)), fun G => os (G.g 6 0) rv104] (fun G => by refine xf 0 rfl ?_; rintro he106; exact xD [1] ca60 rfl rfl rfl (FT_open (γ := Value) (I := fun g => (rv104.length ≤ rv98.length + 11)) (V := fun g => g) (B := fun g => [os g rv104]) (R := os (G.g 3 0) rv98) os_slice (fun aq100 kq101 eq102 => by rw [eq102]; exact FT_ent (Ent.take (is := [0]) rfl) (fn60 rv98 aq100 kq101 st.Edge pre pre (by first | omega | exact (he0.cc _ (getD_mem aM1)).1 | exact (he0.qc _ (getD_mem aM1)).1 | exact tri_nn aM1 aM1 aM1 _) rv104 hg105)))) (Dv [1] (Vfa fo26_5 0) (Dv [1] (VldF sh24 0) (Dv [] (Vlen sl24) ?_)))
 refine letv (r14_Uvarint rv104 (st.Values.length : Int)) fun rv111 hg112 => ?_
 refine Dx [6, 8, 9] [9] [2, 3, 0, 1] (fun G => (G.g 10 0)) [fun G => SP.fact ((rv111.length ≤ rv104.length + 11)), fun G => os (G.g 10 0) rv111] (fun G => by refine xf 0 rfl ?_; rintro he113; refine xf 1 rfl ?_; rintro he114; exact xD [2] ca60 rfl rfl rfl (FT_open (γ := Value) (I := fun g => (rv111.length ≤ rv104.length + 11)) (V := fun g => g) (B := fun g => [os g rv111]) (R := os (G.g 6 0) rv104) os_slice (fun aq107 kq108 eq109 => by rw [eq109]; exact FT_ent (Ent.take (is := [0]) rfl) (fn60 rv104 aq107 kq108 ((st.Values.length : Int)) pre pre (by first | omega | exact (he0.cc _ (getD_mem aM1)).1 | exact (he0.qc _ (getD_mem aM1)).1 | exact tri_nn aM1 aM1 aM1 _) rv111 hg112)))) (Dg [] (fun G => (G.g 10 0)) (fun G => Va) ?_)
 refine Dn ⟨by kernel_rfl, fun G => ?_⟩
 refine Jw2 [(1, p7), (3, (G.g 10 0))] [1, 2, 3, 4, 5] [SP.fact ((rv98.length ≤ b_56.length + 11)), SP.fact ((rv104.length ≤ rv98.length + 11)), SP.fact ((rv111.length ≤ rv104.length + 11)), os (G.g 10 0) rv111] ?_
 generalize G.g 10 0 = c110
 refine Jf 5 rfl ?_; rintro he115
 refine Jf 6 rfl ?_; rintro he116
 refine Jf 7 rfl ?_; rintro he117
 refine Jk [0, 1, 2, 3, 4, 8] ?_
 refine Jo 5 ?_; rintro a118 k119 rfl
 refine Fb 1 5 fun _ => KS ?_
 refine Oq Va (KS ?_)
 refine Kl (γ := Nat × List UInt8 × Int × Option Addr × Nat) (fun (r121, b_122, i_123, a124, k125) => ⟨[(1, p7), (3, vl a124 k125 b_122), (7, vi i_123)], [O a124 k125 b_122, pv p7 [vi st.Phase, vl sta1 stk1 st.Cone, vl sta2 stk2 st.Leaf, vi st.At, vi st.Edge, vl sta5 stk5 st.Values, vl sta6 stk6 st.Queue, vi st.Steps], S sta1 stk1 st.Cone, S sta2 stk2 st.Leaf, S sta5 stk5 st.Values, S sta6 stk6 st.Queue], r14_StateBytes_L2 st r121 b_122 i_123 = r14_StateBytes_L2 st (((st.Values.length : Int) - 0).toNat) rv111 0 ∧ r121 = ((st.Values.length : Int) - i_123).toNat ∧ (0 : Int) ≤ i_123 ∧ i_123 ≤ (st.Values.length : Int) ∧ (-9223372036854775808 ≤ i_123 ∧ i_123 ≤ 9223372036854775807) ∧ ((b_122.length : Int) ≤ 6000 + 2900 * i_123), r121⟩) (((st.Values.length : Int) - 0).toNat, rv111, 0, a118, k119) [5, 0, 1, 2, 3, 4] ⟨rfl, rfl, aM1, aM1, aM1, iv0⟩ ?_
 rintro ⟨r121, b_122, i_123, a124, k125⟩ ⟨hM126, hr127, hi128, hi129, hk130, hv131⟩
 refine JJ_nx fun _ _ hL hA => ?_; dsimp only at hL hA; subst hL hA
 refine Fb 1 0 fun _ => Fb 8 2 fun _ => Fo 2 fun ho134 => Fb 1 3 fun _ => Fb 32 4 fun _ => Fb 8 5 fun _ => Fo 5 fun ho138 => KS ?_
 refine Oq Vm (Oq (Vfa fo26_5 1) (Oq (VldF sh24 1) (Oq (Vlen sl24) (Oq Vlss (KS ?_)))))
 refine Kc ?_ ?_
 ·intro h139
  have g140 := dt h139
  obtain ⟨r141, rfl⟩ := scc (n := r121) aM1
  refine KS ?_
  refine Oq Vm (Oq (Vfa fo26_5 1) (Oq (VldF sh24 1) (Oq Vm (Oq (Vi sl24 4) ?_))))
  refine JJ_peek_GSet i_123.toNat 4 rfl rng fun a142 k143 hb144 => ?_
  unfold i64ok at hb144
  refine Fb 8 1 fun _ => Oq (VldA sh39 0) ?_
  refine letv (r14_members b_122 (st.Values.getD i_123.toNat default)) fun rv147 hg148 => ?_
  have hc149 := fn61 b_122 a124 k125 ((st.Values.getD i_123.toNat default)) a142 k143 pre pre (Valid_wd (he0.vv _ (getD_mem aM1))) rv147 hg148
  refine Oc [2, 1] ca61 hc149 ?_
  rintro c146 he150
  refine Jo 0 ?_; rintro a151 k152 rfl
  refine Fb 1 0 fun _ => ?_
  refine Oq Va (KS ?_)
  refine Oq Vm (Oq Vadd (Oq Va (KS ?_)))
  exact Kg (r141, rv147, (i_123 + 1), a151, k152) [0, 2, 3, 4, 5, 6] ⟨(q3 hM126 (by simp only [r14_StateBytes_L2, h139, hg148, cs4])), aM1, aM1, aM1, aM1, iv1⟩
 intro h139
 have g154 := df h139
 obtain rfl : r121 = 0 := by omega
 refine Ke ?_
 have hR155 := q2 hM126 b_122 (by simp only [r14_StateBytes_L2, h139, cs4])
 refine KS ?_
 refine Oq Vm (Oq (Vfa fo26_6 1) (Oq (VldF sh22 1) (Oq (Vlen sl22) ?_)))
 refine letv (r14_Uvarint b_122 (st.Queue.length : Int)) fun rv157 hg158 => ?_
 have hc159 := fn60 b_122 a124 k125 ((st.Queue.length : Int)) pre pre (by first | omega | exact (he0.cc _ (getD_mem aM1)).1 | exact (he0.qc _ (getD_mem aM1)).1 | exact tri_nn aM1 aM1 aM1 _) rv157 hg158
 refine Oc [0] ca60 hc159 ?_
 rintro c156 he160
 refine Jo 0 ?_; rintro a161 k162 rfl
 refine Fb 1 0 fun _ => ?_
 refine Oq Va (KS ?_)
 refine Oq Va (KS ?_)
 refine Kl (γ := Nat × List UInt8 × Int × Option Addr × Nat) (fun (r164, b_165, i_166, a167, k168) => ⟨[(1, p7), (3, vl a167 k168 b_165), (8, vi i_166)], [O a167 k168 b_165, pv p7 [vi st.Phase, vl sta1 stk1 st.Cone, vl sta2 stk2 st.Leaf, vi st.At, vi st.Edge, vl sta5 stk5 st.Values, vl sta6 stk6 st.Queue, vi st.Steps], S sta1 stk1 st.Cone, S sta2 stk2 st.Leaf, S sta5 stk5 st.Values, S sta6 stk6 st.Queue], r14_StateBytes_L3 st r164 b_165 i_166 = r14_StateBytes_L3 st (((st.Queue.length : Int) - 0).toNat) rv157 0 ∧ r164 = ((st.Queue.length : Int) - i_166).toNat ∧ (0 : Int) ≤ i_166 ∧ i_166 ≤ (st.Queue.length : Int) ∧ (-9223372036854775808 ≤ i_166 ∧ i_166 ≤ 9223372036854775807) ∧ ((b_165.length : Int) ≤ 760000 + 11 * i_166), r164⟩) (((st.Queue.length : Int) - 0).toNat, rv157, 0, a161, k162) [0, 0, 1, 2, 3, 4] ⟨rfl, rfl, aM1, aM1, aM1, iv0⟩ ?_
 rintro ⟨r164, b_165, i_166, a167, k168⟩ ⟨hM169, hr170, hi171, hi172, hk173, hv174⟩
 refine JJ_nx fun _ _ hL hA => ?_; dsimp only at hL hA; subst hL hA
 refine Fb 1 0 fun _ => Fb 8 2 fun _ => Fo 2 fun ho177 => Fb 1 3 fun _ => Fb 32 4 fun _ => Fb 8 5 fun _ => Fo 5 fun ho181 => KS ?_
 refine Oq Vm (Oq (Vfa fo26_6 1) (Oq (VldF sh22 1) (Oq (Vlen sl22) (Oq Vlss (KS ?_)))))
 refine Kc ?_ ?_
 ·intro h182
  have g183 := dt h182
  obtain ⟨r184, rfl⟩ := scc (n := r164) aM1
  refine KS ?_
  refine Oq Vm (Oq (Vfa fo26_6 1) (Oq (VldF sh22 1) (Oq Vm (Oq (Vi sl22 5) ?_))))
  have hb185 := ok1 (i := i_166.toNat) ho181 rng
  refine Oq (VldI sh3 5) ?_
  refine letv (r14_Uvarint b_165 (st.Queue.getD i_166.toNat 0)) fun rv187 hg188 => ?_
  have hc189 := fn60 b_165 a167 k168 ((st.Queue.getD i_166.toNat 0)) pre pre (by first | omega | exact (he0.cc _ (getD_mem aM1)).1 | exact (he0.qc _ (getD_mem aM1)).1 | exact tri_nn aM1 aM1 aM1 _) rv187 hg188
  refine Oc [0] ca60 hc189 ?_
  rintro c186 he190
  refine Jo 0 ?_; rintro a191 k192 rfl
  refine Fb 1 0 fun _ => ?_
  refine Oq Va (KS ?_)
  refine Oq Vm (Oq Vadd (Oq Va (KS ?_)))
  exact Kg (r184, rv187, (i_166 + 1), a191, k192) [0, 0, 1, 2, 3, 4] ⟨(q3 hM169 (by simp only [r14_StateBytes_L3, h182, hg188, cs4])), aM1, aM1, aM1, aM1, iv1⟩
 intro h182
 have g194 := df h182
 obtain rfl : r164 = 0 := by omega
 refine Ke ?_
 have hR195 := q2 hM169 b_165 (by simp only [r14_StateBytes_L3, h182, cs4])
 refine KS ?_
 refine Oq Vm (Oq (Vfa fo26_7 1) (Oq (VldF sh3 1) ?_))
 refine letv (r14_Uvarint b_165 st.Steps) fun rv197 hg198 => ?_
 have hc199 := fn60 b_165 a167 k168 st.Steps pre pre (by first | omega | exact (he0.cc _ (getD_mem aM1)).1 | exact (he0.qc _ (getD_mem aM1)).1 | exact tri_nn aM1 aM1 aM1 _) rv197 hg198
 refine Oc [0] ca60 hc199 ?_
 rintro c196 he200
 refine Jo 0 ?_; rintro a201 k202 rfl
 refine Fb 1 0 fun _ => ?_
 refine Oq Va (KS ?_)
 have hq := q4 hrr rv197 (by simp only [r14_StateBytes, h41, h73, h139, h182, hg10, hg16, hR54, hR96, hg99, hg105, hg112, hR155, hg158, hR195, hg198, cs4]); subst hq
 exact Kr (vl a201 k202 rv197) rfl (.tmp rfl .nil) [0] en
theorem fn13 (st : GState) (sta1 : Option Addr) (stk1 : Nat) (sta2 : Option Addr) (stk2 : Nat) (sta5 : Option Addr) (stk5 : Nat) (sta6 : Option Addr) (stk6 : Nat) (hst_0 : i64ok st.Phase) (hst_3 : i64ok st.At) (hst_4 : i64ok st.Edge) (hst_7 : i64ok st.Steps) (rr : List UInt8 × Int) (hrr : r14_EncodeState st = rr) : FT Tryz.prog 13 #[.agg #[vi st.Phase, vl sta1 stk1 st.Cone, vl sta2 stk2 st.Leaf, vi st.At, vi st.Edge, vl sta5 stk5 st.Values, vl sta6 stk6 st.Queue, vi st.Steps]] [S sta1 stk1 st.Cone, S sta2 stk2 st.Leaf, S sta5 stk5 st.Values, S sta6 stk6 st.Queue] (fun g : Value => i64ok rr.2 ∧ (rr.1.length ≤ 800004)) (fun g => .tuple #[g, vi rr.2]) (fun g => [os g rr.1]) := by
 refine FTi Tryz.func13 fun w0 M0 F0 => ?_
 unfold i64ok at hst_0 hst_3 hst_4 hst_7
 refine Fb 8 0 fun _ => Fo 0 fun ho2 => Fb 1 1 fun _ => Fb 32 2 fun _ => Fb 8 3 fun _ => Fo 3 fun ho6 => KS ?_
 refine Oa (Ab [vi st.Phase, vl sta1 stk1 st.Cone, vl sta2 stk2 st.Leaf, vi st.At, vi st.Edge, vl sta5 stk5 st.Values, vl sta6 stk6 st.Queue, vi st.Steps]) fun p7 => Oq Va (Oq Va (KS ?_))
 refine Oq (VldA sh26 0) ?_
 refine letv (r14_Encodable st) fun rv8 hg9 => ?_
 have hc10 := fn31 st sta1 stk1 sta2 stk2 sta5 stk5 sta6 stk6 pre pre pre pre rv8 hg9
 refine Oc [1, 2, 3, 4] ca31 hc10 ?_
 rintro - -
 refine Oq Vnot (KS ?_)
 refine Kc ?_ ?_
 ·intro h11
  have h13 := not_true h11
  refine KS ?_
  refine Oq Va (Oq Va (KS ?_))
  refine Jl [] (Ent.osNil (α := UInt8)) ?_
  have hq := q4 hrr (([] : List UInt8), 1) (by simp only [r14_EncodeState, h11, h13, hg9, cs4]); subst hq
  exact Kr (.slice none 0 0) rfl (.tmp rfl (.tmp rfl .nil)) [0] en
 intro h11
 have h16 := not_false h11
 have heo := Encodable_EO (by assumption) h11
 refine KS ?_
 refine Oq (VldA sh26 0) ?_
 refine letv (r14_StateBytes st) fun rv19 hg20 => ?_
 have hc21 := fn32 st sta1 stk1 sta2 stk2 sta5 stk5 sta6 stk6 pre pre pre pre heo rv19 hg20
 refine Oc [1, 2, 3, 4] ca32 hc21 ?_
 rintro c18 he22
 refine Jo 0 ?_; rintro a23 k24 rfl
 refine Fb 1 0 fun _ => ?_
 refine Jl [0] (Ent.freeze _ _) ?_
 refine letv (r14_Sealed rv19) fun rv27 hg28 => ?_
 have hc29 := fn18 rv19 a23 k24 pre rv27 hg28
 refine Oc [0] ca18 hc29 ?_
 rintro c26 he30
 refine Jo 0 ?_; rintro a31 k32 rfl
 refine Fb 1 0 fun _ => ?_
 refine Oq Va (Oq Va (KS ?_))
 have hq := q4 hrr (rv27, 0) (by simp only [r14_EncodeState, h11, h16, hg9, hg20, hg28, cs4]); subst hq
 exact Kr (vl a31 k32 rv27) rfl (.tmp rfl (.tmp rfl .nil)) [0] en
theorem fn62 (s1 : List UInt8) (s1a0 : Option Addr) (s1k0 : Nat) (s2 : List UInt8) (s2a0 : Option Addr) (s2k0 : Nat) (rr : Bool) (hrr : sc_Equal_byte s1 s2 = rr) : FT Tryz.prog 62 #[vl s1a0 s1k0 s1, vl s2a0 s2k0 s2] [S s1a0 s1k0 s1, S s2a0 s2k0 s2] (fun g : Unit => True) (fun g => vb rr) (fun g => []) := by
 refine FTi Tryz.func62 fun w0 M0 F0 => Fb 1 0 fun _ => Fb 1 1 fun _ => ?_
 refine KS ?_
 refine Oq Va (KS ?_)
 refine Oq Vm (Oq (Vlen sl44) (Oq Vm (Oq (Vlen sl44) (Oq Vneq (KS ?_)))))
 refine Kc ?_ ?_
 ·intro h3
  have g4 := ne_of_bne h3
  refine KS ?_
  refine Oq Va (KS ?_)
  have hq := q4 hrr false (by simp only [sc_Equal_byte, h3, cs4]); subst hq
  exact Kr () rfl (.tmp rfl .nil) [] trivial
 intro h3
 have g5 := eq_of_bne_false h3
 refine KS ?_
 refine Oq Vm (Oq (Vlen sl44) (Oq Vm (KS ?_)))
 refine Kl (γ := Nat × Int) (fun (r6, v13_7) => ⟨[(0, vl s1a0 s1k0 s1), (1, vl s2a0 s2k0 s2), (12, vi (s1.length : Int)), (13, vi v13_7)], [S s1a0 s1k0 s1, S s2a0 s2k0 s2], sc_Equal_byte_L0 s1 s2 r6 v13_7 = sc_Equal_byte_L0 s1 s2 (((s1.length : Int) - 0).toNat) 0 ∧ r6 = ((s1.length : Int) - v13_7).toNat ∧ (0 : Int) ≤ v13_7 ∧ v13_7 ≤ (s1.length : Int) ∧ (-9223372036854775808 ≤ v13_7 ∧ v13_7 ≤ 9223372036854775807), r6⟩) (((s1.length : Int) - 0).toNat, 0) [0, 1] ⟨rfl, rfl, aM1, aM1, aM1⟩ ?_
 rintro ⟨r6, v13_7⟩ ⟨hM8, hr9, hi10, hi11, hk12⟩
 refine JJ_nx fun _ _ hL hA => ?_; dsimp only at hL hA; subst hL hA
 refine Fb 1 0 fun _ => Fb 1 1 fun _ => KS ?_
 refine Oq Vlss (KS ?_)
 refine Kc ?_ ?_
 ·intro h15
  have g16 := dt h15
  obtain ⟨r17, rfl⟩ := scc (n := r6) aM1
  refine KS ?_
  refine Oq Vm (Oq Va (KS ?_))
  refine Kq [0, 0, 3, 7, 0, 0, 48, 112, 255] fmix ?_
  refine Qv [] Vm (Qv [] Vm (Qv [0] (Vi sl44 0) ?_))
  have hb18 := u8b' (s1.getD v13_7.toNat 0)
  refine Qv [0] (Vld8 sh5 0) (Qv [] Vm (Qv [] Vm (Qv [1] (Vi sl44 0) ?_)))
  have hb19 := u8b' (s2.getD v13_7.toNat 0)
  refine Qv [1] (Vld8 sh5 0) (Qv [] Vneq ?_)
  refine Qn ⟨by kernel_rfl, ?_⟩
  refine Kc ?_ ?_
  ·intro h20
   have g21 := ne_of_bne h20
   refine KS ?_
   refine Oq Va (KS ?_)
   have hR22 := q2 hM8 (.ret false) (by simp only [sc_Equal_byte_L0, h15, h20, cs4])
   have hq := q4 hrr false (by simp only [sc_Equal_byte, h3, h15, h20, hR22, cs4]); subst hq
   exact Kr () rfl (.tmp rfl .nil) [] trivial
  intro h20
  have g23 := eq_of_bne_false h20
  refine KS ?_
  refine Oq Vadd (Oq Vm (KS ?_))
  exact Kg (r17, (v13_7 + 1)) [0, 1] ⟨(q3 hM8 (by simp only [sc_Equal_byte_L0, h15, h20, cs4])), aM1, aM1, aM1, aM1⟩
 intro h15
 have g24 := df h15
 obtain rfl : r6 = 0 := by omega
 refine Ke ?_
 have hR25 := q2 hM8 (.brk ()) (by simp only [sc_Equal_byte_L0, h15, cs4])
 refine KS ?_
 refine Oq Va (KS ?_)
 have hq := q4 hrr true (by simp only [sc_Equal_byte, h3, h15, hR25, cs4]); subst hq
 exact Kr () rfl (.tmp rfl .nil) [] trivial
theorem fn63 (s : List UInt8) (sa0 : Option Addr) (sk0 : Nat) (rr : List UInt8) (hrr : sc_Clone_byte s = rr) : FT Tryz.prog 63 #[vl sa0 sk0 s] [S sa0 sk0 s] (fun g : Value => (rr.length = s.length)) (fun g => g) (fun g => [os g rr]) := by
 have hm : sc_Clone_byte s = s := rfl
 rw [hm] at hrr
 subst hrr
 refine FTi Tryz.func63 fun w0 M0 F0 => ?_
 refine KS ?_
 refine Oq Va ?_
 refine KS ?_
 refine Oq Vm ?_
 refine Oq (VeqN un44) ?_
 refine KS ?_
 refine Kc ?_ ?_
 ·intro h
  refine Jnil 0 h ?_
  intro h0
  subst h0
  refine KS ?_
  refine Oq Va ?_
  refine KS ?_
  refine Jl [] (Ent.osNil (α := UInt8)) ?_
  exact Kr (.slice none 0 0) rfl (.tmp rfl .nil) [0] rfl
 ·intro _
  refine KS ?_
  refine Oa (As0 sl44) fun c1 => ?_
  refine Jo 0 ?_; rintro a2 k3 rfl
  refine Oq Vm ?_
  refine Fb 1 1 fun hl => ?_
  refine Jl [0] (Ent.crNil (α := UInt8) _) ?_
  refine Oa (Ap0 [0, 0] sl44 sl44 sz44) fun c4 => ?_
  refine Oq Va ?_
  refine KS ?_
  exact Kr c4 rfl (.tmp rfl .nil) [0] rfl
theorem fn33 (b : List UInt8) (ba0 : Option Addr) (bk0 : Nat) (hb0 : b.length ≤ 1000000) (rr : Int) (hrr : uvarint_Open b = rr) : FT Tryz.prog 33 #[vl ba0 bk0 b] [S ba0 bk0 b] (fun g : Value × Value => i64ok rr) (fun g => .tuple #[g.1, vi rr]) (fun g => [cndL (rr == 0) [Cl g.1 [g.2, vi 0, vb false], sl g.2 ((b.take ((((b.length : Int) - 4) : Int).toNat)).drop 0)]]) := by
 refine FTi Tryz.func33 fun w0 M0 F0 => Fb 1 0 fun _ => ?_
 refine KS ?_
 refine Oq Va (Oq Va (KS ?_))
 refine Oq Vm (Oq (Vlen sl44) (Oq Vlss (KS ?_)))
 refine Kc ?_ ?_
 ·intro h2
  have g3 := dt h2
  refine KS ?_
  refine Oq Va (Oq Va (KS ?_))
  refine Jl [] (Ent.cnd0 (c := (12 == 0)) [Cl (.pointer none) [.slice none 0 0, vi 0, vb false], sl (.slice none 0 0) ((b.take ((((b.length : Int) - 4) : Int).toNat)).drop 0)] rfl) ?_
  have hq := q4 hrr 12 (by simp only [uvarint_Open, h2, cs4]); subst hq
  exact Kr (.pointer none, .slice none 0 0) rfl (.tmp rfl (.tmp rfl .nil)) [0] en
 intro h2
 have g4 := df h2
 refine KS ?_
 refine Oq Vm (Oq Vm (Oq (Vlen sl44) (Oq Vsub (Oa (Asl [0] sl44 0 ((((b.length : Int) - 4) : Int).toNat)) fun c5 => ?_))))
 refine Jo 0 ?_; rintro a6 k7 rfl
 refine Fb 1 0 fun _ => ?_
 have hn9 : ((b.take ((((b.length : Int) - 4) : Int).toNat)).drop 0).length = ((((b.length : Int) - 4) : Int).toNat) - 0 := len_slice rng rng
 refine Oq Va (KS ?_)
 refine Oq Vm ?_
 refine letv (sc_Clone_byte ((b.take ((((b.length : Int) - 4) : Int).toNat)).drop 0)) fun rv11 hg12 => ?_
 have hc13 := fn63 (((b.take ((((b.length : Int) - 4) : Int).toNat)).drop 0)) a6 k7 rv11 hg12
 refine Oc [0] ca63 hc13 ?_
 rintro c10 he14
 refine Jo 0 ?_; rintro a15 k16 rfl
 refine Fb 1 0 fun _ => ?_
 refine letv (uvarint_Seal rv11) fun rv19 hg20 => ?_
 have hc21 := fn45 rv11 a15 k16 pre rv19 hg20
 refine Oc [0] ca45 hc21 ?_
 rintro c18 he22
 refine Jo 0 ?_; rintro a23 k24 rfl
 refine Fb 1 0 fun _ => Oq Vm ?_
 refine Jl [0] (Ent.freeze _ _) ?_
 refine letv (sc_Equal_byte rv19 b) fun rv26 hg27 => ?_
 have hc28 := fn62 rv19 a23 k24 b ba0 bk0 rv26 hg27
 refine Oc [0, 2] ca62 hc28 ?_
 rintro - -
 refine Oq Vnot (KS ?_)
 refine Kc ?_ ?_
 ·intro h29
  have h31 := not_true h29
  refine KS ?_
  refine Oq Va (Oq Va (KS ?_))
  refine Jl [] (Ent.cnd0 (c := (14 == 0)) [Cl (.pointer none) [.slice none 0 0, vi 0, vb false], sl (.slice none 0 0) ((b.take ((((b.length : Int) - 4) : Int).toNat)).drop 0)] rfl) ?_
  have hq := q4 hrr 14 (by simp only [uvarint_Open, h2, h29, h31, hg12, hg20, hg27, cs4]); subst hq
  exact Kr (.pointer none, .slice none 0 0) rfl (.tmp rfl (.tmp rfl .nil)) [0] en
 intro h29
 have h34 := not_false h29
 refine KS ?_
 refine Oq Vm (Oq (Vbd st103 [.slice a6 (((b.take ((((b.length : Int) - 4) : Int).toNat)).drop 0).length) k7, vi 0, vb false]) (Oa (AbO [.slice a6 (((b.take ((((b.length : Int) - 4) : Int).toNat)).drop 0).length) k7, vi 0, vb false]) fun p36 => Oq Va (Oq Va (KS ?_))))
 refine Jl [0, 1] (Ent.cnd1 (0 == 0) [Cl p36 [.slice a6 (((b.take ((((b.length : Int) - 4) : Int).toNat)).drop 0).length) k7, vi 0, vb false], S a6 k7 ((b.take ((((b.length : Int) - 4) : Int).toNat)).drop 0)]) ?_
 have hq := q4 hrr 0 (by simp only [uvarint_Open, h2, h29, h34, hg12, hg20, hg27, cs4]); subst hq
 exact Kr (p36, .slice a6 (((b.take ((((b.length : Int) - 4) : Int).toNat)).drop 0).length) k7) rfl (.tmp rfl (.tmp rfl .nil)) [0] en
theorem fn144 (x : BitVec 64) (hx0 : x.toNat = 1073741824) (rr : Int) (hrr : bits_Len64 x = rr) : FT Tryz.prog 144 #[u64 x] [] (fun g : Unit => i64ok rr ∧ (rr ≤ 1000)) (fun g => vi rr) (fun g => []) := by
 refine FTi Tryz.func144 fun w0 M0 F0 => ?_
 have hs16 : (x >>> (((16#64).toNat : Int)).toNat).toNat = 16384 := by rw [show (((16#64).toNat : Int)).toNat = 16 by decide, BitVec.toNat_ushiftRight, Nat.shiftRight_eq_div_pow, hx0]
 have hs8 : ((x >>> (((16#64).toNat : Int)).toNat) >>> (((8#64).toNat : Int)).toNat).toNat = 64 := by rw [show (((8#64).toNat : Int)).toNat = 8 by decide, BitVec.toNat_ushiftRight, Nat.shiftRight_eq_div_pow, hs16]
 have hs9 : ((x >>> Int.toNat 16) >>> Int.toNat 8).toNat = 64 := hs8
 have hu8 := u8b (tab0.b.getD ((((x >>> Int.toNat 16) >>> Int.toNat 8).toNat : Int) : Int).toNat 0)
 refine KS ?_
 refine Oq Va (KS ?_)
 refine Oq Vm (Oq (Vgeq (a := (x.toNat : Int)) (b := 4294967296)) (KS ?_))
 refine Kc ?_ ?_
 ·intro h1
  have g2 := dt h1
  exfalso; omega
 intro h1
 have g3 := df h1
 refine KS ?_
 refine Oq Vm (Oq (Vgeq (a := (x.toNat : Int)) (b := 65536)) (KS ?_))
 refine Kc ?_ ?_
 ·intro h4
  have g5 := dt h4
  refine KS ?_
  refine Oq Vm (Oq VshrU (Oq Va (KS ?_)))
  refine Oq Vm (Oq Vadd (Oq Va (KS ?_)))
  refine Oq Vm (Oq (Vgeq (a := ((x >>> (((16#64).toNat : Int)).toNat).toNat : Int)) (b := 256)) (KS ?_))
  refine Kc ?_ ?_
  ·intro h6
   have g7 := dt h6
   refine KS ?_
   refine Oq Vm (Oq VshrU (Oq Va (KS ?_)))
   refine Oq Vm (Oq Vadd (Oq Va (KS ?_)))
   refine Oq Vm (Oq Vm (Oq (VcU8 un68 un5) ?_))
   refine Oq (Vix un9 (l := tab0) (h := ⟨by omega, by rw [show tab0.b.length = 256 from rfl]; omega⟩)) ?_
   have hb8 := u8b (tab0.b.getD ((((x >>> (((16#64).toNat : Int)).toNat) >>> (((8#64).toNat : Int)).toNat).toNat : Int) : Int).toNat 0)
   refine Oq (VcK un5 un3) (Oq Vadd (Oq Va (KS ?_)))
   have hq := q4 hrr (((0 + 16) + 8) + ((tab0.b.getD ((((x >>> (((16#64).toNat : Int)).toNat) >>> (((8#64).toNat : Int)).toNat).toNat : Int) : Int).toNat 0).toNat : Int)) (by simp only [bits_Len64, h1, h4, h6, cs4]); subst hq
   exact Kr () rfl (.tmp rfl .nil) [] ⟨en, (by have := u8b (tab0.b.getD ((((x >>> Int.toNat 16) >>> Int.toNat 8).toNat : Int) : Int).toNat 0); omega)⟩
  intro h6
  have g9 := df h6
  exfalso; omega
 intro h4
 have g10 := df h4
 exfalso; omega
theorem fn106 (x : BitVec 64) (hx0 : x.toNat = 1073741824) (rr : Int) (hrr : bits_Len x = rr) : FT Tryz.prog 106 #[u64 x] [] (fun g : Unit => i64ok rr) (fun g => vi rr) (fun g => []) := by
 refine FTi Tryz.func106 fun w0 M0 F0 => ?_
 refine KS ?_
 refine Oq Va (KS ?_)
 refine Kf (KS ?_)
 refine Oq Vm ?_
 refine letv (bits_Len64 x) fun rv1 hg2 => ?_
 have hc3 := fn144 x pre rv1 hg2
 refine Oc [] ca144 hc3 ?_
 rintro - ⟨he4, he5⟩
 unfold i64ok at he4
 refine Oq Va (KS ?_)
 have hq := q4 hrr rv1 (by simp only [bits_Len, hg2, cs4]); subst hq
 exact Kr () rfl (.tmp rfl .nil) [] en
theorem fn64 (rdP : Value) (rd : GReader) (rda0 : Option Addr) (rdk0 : Nat) (most : Int) (hrd_1 : i64ok rd.at_) (hmost_0 : i64ok most) (hr0 : 0 ≤ rd.at_ ∧ rd.at_ ≤ (rd.bytes.length : Int)) (hm0 : 0 ≤ most) (rr : Int × GReader) (hrr : Reader_Number rd most = rr) : FT Tryz.prog 64 #[rdP, vi most] [Cl rdP [vl rda0 rdk0 rd.bytes, vi rd.at_, vb rd.Bad], S rda0 rdk0 rd.bytes] (fun g : Unit => i64ok rr.1 ∧ i64ok rr.2.at_ ∧ (0 ≤ rr.1 ∧ rr.1 ≤ most) ∧ (0 ≤ rr.2.at_ ∧ rr.2.at_ ≤ (rd.bytes.length : Int))) (fun g => vi rr.1) (fun g => [Cl rdP [vl rda0 rdk0 rd.bytes, vi rr.2.at_, vb rr.2.Bad]]) := by
 refine FTi Tryz.func64 fun w0 M0 F0 => ?_
 unfold i64ok at hrd_1 hmost_0
 refine Fb 1 1 fun _ => KS ?_
 refine Oq Va (KS ?_)
 refine Oq Va (KS ?_)
 refine letv (bits_Len (1073741824#64)) fun rv2 hg3 => ?_
 have hln := Len_31 hg3
 have hc4 := fn106 (1073741824#64) rfl rv2 hg3
 refine Oc [] ca106 hc4 ?_
 rintro - he5
 unfold i64ok at he5
 refine Oq Vadd (Oq Vquo (Oq Vm (KS ?_)))
 refine Kl (γ := Nat × Int × Int × Int) (fun (r6, rd1_7, n_8, v11_9) => ⟨[(0, rdP), (1, vi most), (5, vi n_8), (10, vi ((rv2 + 6) / 7)), (11, vi v11_9)], [Cl rdP [vl rda0 rdk0 rd.bytes, vi rd1_7, vb rd.Bad], S rda0 rdk0 rd.bytes], Reader_Number_L0 rd most r6 rd1_7 n_8 v11_9 = Reader_Number_L0 rd most (((((rv2 + 6) / 7) : Int) - 0).toNat) rd.at_ 0 0 ∧ r6 = ((((rv2 + 6) / 7) : Int) - v11_9).toNat ∧ (0 : Int) ≤ v11_9 ∧ (v11_9 ≤ ((rv2 + 6) / 7) ∨ v11_9 = 0) ∧ (-9223372036854775808 ≤ rd1_7 ∧ rd1_7 ≤ 9223372036854775807) ∧ (-9223372036854775808 ≤ n_8 ∧ n_8 ≤ 9223372036854775807) ∧ (-9223372036854775808 ≤ v11_9 ∧ v11_9 ≤ 9223372036854775807) ∧ (0 ≤ rd1_7 ∧ rd1_7 ≤ (rd.bytes.length : Int)) ∧ (NB n_8 v11_9), r6⟩) (((((rv2 + 6) / 7) : Int) - 0).toNat, rd.at_, 0, 0) [0, 0] ⟨rfl, rfl, aM1, (.inr rfl), aM1, aM1, aM1, iv0, NB_0⟩ ?_
 rintro ⟨r6, rd1_7, n_8, v11_9⟩ ⟨hM10, hr11, hi12, hi13, hk14, hk15, hk16, hv17, hv18⟩
 refine JJ_nx fun _ _ hL hA => ?_; dsimp only at hL hA; subst hL hA
 refine Fb 1 1 fun _ => KS ?_
 refine Oq Vlss (KS ?_)
 refine Kc ?_ ?_
 ·intro h20
  have g21 := dt h20
  obtain ⟨r22, rfl⟩ := scc (n := r6) aM1
  refine KS ?_
  refine Oq Vm (Oq Va (KS ?_))
  refine Jp 0 fun hp23 => ?_
  refine Kq [0, 1, 3, 7, 15, 31, 63, 127, 255, 31, 543, 1567, 3615, 7711, 16383, 32767] fmix ?_
  refine Qv [] Vm (Qv [0] (Vn 0) (Qv [0] (Vfa fo103_2 0) (Qv [1] (VldF sh4 0) ?_)))
  refine bool_split rd.Bad ?_ ?_
  ·intro h24
   refine Qb h24 [] Vm (Qs (Qs (Qs (Qs (Qs (Qs (Qs (Qs (Qs ?_)))))))))
   refine Qs (Qv [] Vpt ?_)
   refine Qn ⟨by kernel_rfl, ?_⟩
   refine Kt ?_
   refine Ke ?_
   have hR26 := q2 hM10 (.brk rd1_7) (by simp only [Reader_Number_L0, h20, h24, cs4])
   refine KS ?_
   refine Oq Vm (Oq (Vn 1) (Oq (Vfa fo103_2 1) (Ost (SclF [1] sh4 [vl rda0 rdk0 rd.bytes, vi rd1_7, vb true]) (KS ?_))))
   refine Oq Va (KS ?_)
   have hq := q4 hrr (0, (GReader.mk rd.bytes rd1_7 true)) (by simp only [Reader_Number, h20, h24, hg3, hR26, cs4]); subst hq
   exact Kr () rfl (.tmp rfl .nil) [0] en
  intro h24
  refine Qb h24 [] Vm (Qv [] Vm (Qv [0] (Vn 0) (Qv [0] (Vfa fo103_1 0) (Qv [1] (VldF sh3 0) (Qv [] Vm (Qv [0] (Vn 0) (Qv [0] (Vfa fo103_0 0) (Qv [1] (VldF sh44 0) (Qv [] (Vlen sl44) ?_)))))))))
  refine Qv [] Veql (Qv [] Vpf ?_)
  refine Qn ⟨by kernel_rfl, ?_⟩
  refine Kc ?_ ?_
  ·intro h28
   have g29 := eq_of_beq h28
   refine Ke ?_
   have hR30 := q2 hM10 (.brk rd1_7) (by simp only [Reader_Number_L0, h20, h24, h28, cs4])
   refine KS ?_
   refine Oq Vm (Oq (Vn 1) (Oq (Vfa fo103_2 1) (Ost (SclF [1] sh4 [vl rda0 rdk0 rd.bytes, vi rd1_7, vb true]) (KS ?_))))
   refine Oq Va (KS ?_)
   have hq := q4 hrr (0, (GReader.mk rd.bytes rd1_7 true)) (by simp only [Reader_Number, h20, h24, h28, hg3, hR30, cs4]); subst hq
   exact Kr () rfl (.tmp rfl .nil) [0] en
  intro h28
  have g31 := ne_of_beq_false h28
  refine KS ?_
  refine Kq [0, 1, 3, 7, 0, 16, 48, 112, 255, 511, 1023] fmix ?_
  refine Qv [] Vm (Qv [0] (Vn 0) (Qv [0] (Vfa fo103_0 0) (Qv [1] (VldF sh44 0) (Qv [] Vm (Qv [0] (Vn 0) (Qv [0] (Vfa fo103_1 0) (Qv [1] (VldF sh3 0) (Qv [2] (Vi sl44 0) ?_))))))))
  have hb32 := u8b' (rd.bytes.getD rd1_7.toNat 0)
  refine Qv [2] (Vld8 sh5 0) (Qv [] Va ?_)
  refine Qn ⟨by kernel_rfl, ?_⟩
  refine KS ?_
  refine Oq Vm (Oq (Vn 1) (Oq (Vfa fo103_1 1) (Oq (VldF sh3 1) (Oq Vadd (Oq (Vn 1) (Oq (Vfa fo103_1 1) (Ost (SclF [1] sh3 [vl rda0 rdk0 rd.bytes, vi (rd1_7 + 1), vb rd.Bad]) (KS ?_))))))))
  refine Oq Vm (Oq Vm ?_)
  have hb33 : 0 ≤ (bAn .u8 ((rd.bytes.getD rd1_7.toNat 0).toNat : Int) 128) ∧ (bAn .u8 ((rd.bytes.getD rd1_7.toNat 0).toNat : Int) 128) ≤ 255 := wrap_u8b _
  refine Oq VanK (Oq (VcK un5 un3) (Oq Vm (Oq Vmul (Oq (VshlI (a := (bAn .u8 ((rd.bytes.getD rd1_7.toNat 0).toNat : Int) 128)) (n := (7 * v11_9)) (h := (shl_ok aM1 aM1))) ?_))))
  have hb34 : -9223372036854775808 ≤ (bOr .i64 n_8 ((bAn .u8 ((rd.bytes.getD rd1_7.toNat 0).toNat : Int) 128) * 2 ^ ((7 * v11_9) : Int).toNat)) ∧ (bOr .i64 n_8 ((bAn .u8 ((rd.bytes.getD rd1_7.toNat 0).toNat : Int) 128) * 2 ^ ((7 * v11_9) : Int).toNat)) ≤ 9223372036854775807 := wrap_i64b _
  refine Oq VorK (Oq Va (KS ?_))
  refine Oq Vm (Oq Vlss (KS ?_))
  refine Kc ?_ ?_
  ·intro h35
   have g36 := dt h35
   have hnx := NB_i (NB_step (c := ((rd.bytes.getD rd1_7.toNat 0).toNat : Int)) (by assumption : NB _ _) aM1 aM1)
   refine KS ?_
   refine Oq Vm (Oq Vm (Oq Veql (Oq Vm ?_)))
   refine Js 60 ?_ ?_
   ·intro h37
    have g38 := eq_of_beq h37
    refine Oq Vm (Oq Vgtr (Oq Vpt (Oq Vm ?_)))
    refine Js 64 ?_ ?_
    ·intro h39
     have g40 := dt h39
     refine Osk (Osk (Osk (Oq Vpt (Oq (Vn 0) (Oq (Vfa fo103_2 0) (Ost (SclF [0] sh4 [vl rda0 rdk0 rd.bytes, vi (rd1_7 + 1), vb true]) (KS ?_)))))))
     refine Oq Vm (Oq (Vn 0) (Oq (Vfa fo103_2 0) (Oq (VldF sh4 0) (KS ?_))))
     refine Kt (KS ?_)
     refine Oq Va (KS ?_)
     have hR41 := q2 hM10 (.ret (0, (GReader.mk rd.bytes (rd1_7 + 1) true))) (by simp only [Reader_Number_L0, h20, h24, h28, h35, h37, h39, cs4])
     have hq := q4 hrr (0, (GReader.mk rd.bytes (rd1_7 + 1) true)) (by simp only [Reader_Number, h20, h24, h28, h35, h37, h39, hg3, hR41, cs4]); subst hq
     exact Kr () rfl (.tmp rfl .nil) [0] en
    intro h39
    have g42 := df h39
    refine Oq Vm (Oq Vm (Oq Vgtr (Oq Vpf (Oq (Vn 0) (Oq (Vfa fo103_2 0) (Ost (SclF [0] sh4 [vl rda0 rdk0 rd.bytes, vi (rd1_7 + 1), vb (decide (most < (bOr .i64 n_8 ((bAn .u8 ((rd.bytes.getD rd1_7.toNat 0).toNat : Int) 128) * 2 ^ ((7 * v11_9) : Int).toNat))))]) (KS ?_)))))))
    refine Oq Vm (Oq (Vn 0) (Oq (Vfa fo103_2 0) (Oq (VldF sh4 0) (KS ?_))))
    refine Kc ?_ ?_
    ·intro h43
     have g44 := dt h43
     refine KS ?_
     refine Oq Va (KS ?_)
     have hR45 := q2 hM10 (.ret (0, (GReader.mk rd.bytes (rd1_7 + 1) (decide (most < (bOr .i64 n_8 ((bAn .u8 ((rd.bytes.getD rd1_7.toNat 0).toNat : Int) 128) * 2 ^ ((7 * v11_9) : Int).toNat))))))) (by simp only [Reader_Number_L0, h20, h24, h28, h35, h37, h39, h43, cs4])
     have hq := q4 hrr (0, (GReader.mk rd.bytes (rd1_7 + 1) (decide (most < (bOr .i64 n_8 ((bAn .u8 ((rd.bytes.getD rd1_7.toNat 0).toNat : Int) 128) * 2 ^ ((7 * v11_9) : Int).toNat)))))) (by simp only [Reader_Number, h20, h24, h28, h35, h37, h39, h43, hg3, hR45, cs4]); subst hq
     exact Kr () rfl (.tmp rfl .nil) [0] en
    intro h43
    have g46 := df h43
    refine KS ?_
    refine Oq Vm (Oq Va (KS ?_))
    have hR47 := q2 hM10 (.ret ((bOr .i64 n_8 ((bAn .u8 ((rd.bytes.getD rd1_7.toNat 0).toNat : Int) 128) * 2 ^ ((7 * v11_9) : Int).toNat)), (GReader.mk rd.bytes (rd1_7 + 1) (decide (most < (bOr .i64 n_8 ((bAn .u8 ((rd.bytes.getD rd1_7.toNat 0).toNat : Int) 128) * 2 ^ ((7 * v11_9) : Int).toNat))))))) (by simp only [Reader_Number_L0, h20, h24, h28, h35, h37, h39, h43, cs4])
    have hq := q4 hrr ((bOr .i64 n_8 ((bAn .u8 ((rd.bytes.getD rd1_7.toNat 0).toNat : Int) 128) * 2 ^ ((7 * v11_9) : Int).toNat)), (GReader.mk rd.bytes (rd1_7 + 1) (decide (most < (bOr .i64 n_8 ((bAn .u8 ((rd.bytes.getD rd1_7.toNat 0).toNat : Int) 128) * 2 ^ ((7 * v11_9) : Int).toNat)))))) (by simp only [Reader_Number, h20, h24, h28, h35, h37, h39, h43, hg3, hR47, cs4]); subst hq
    exact Kr () rfl (.tmp rfl .nil) [0] en
   intro h37
   have g48 := ne_of_beq_false h37
   refine Osk (Osk (Oq Vpf (Oq Vm (Oq Vm (Oq Vm (Oq Vgtr (Oq Vpf (Oq (Vn 0) (Oq (Vfa fo103_2 0) ?_)))))))))
   refine Ost (SclF [0] sh4 [vl rda0 rdk0 rd.bytes, vi (rd1_7 + 1), vb (decide (most < (bOr .i64 n_8 ((bAn .u8 ((rd.bytes.getD rd1_7.toNat 0).toNat : Int) 128) * 2 ^ ((7 * v11_9) : Int).toNat))))]) (KS ?_)
   refine Oq Vm (Oq (Vn 0) (Oq (Vfa fo103_2 0) (Oq (VldF sh4 0) (KS ?_))))
   refine Kc ?_ ?_
   ·intro h49
    have g50 := dt h49
    refine KS ?_
    refine Oq Va (KS ?_)
    have hR51 := q2 hM10 (.ret (0, (GReader.mk rd.bytes (rd1_7 + 1) (decide (most < (bOr .i64 n_8 ((bAn .u8 ((rd.bytes.getD rd1_7.toNat 0).toNat : Int) 128) * 2 ^ ((7 * v11_9) : Int).toNat))))))) (by simp only [Reader_Number_L0, h20, h24, h28, h35, h37, h49, cs4])
    have hq := q4 hrr (0, (GReader.mk rd.bytes (rd1_7 + 1) (decide (most < (bOr .i64 n_8 ((bAn .u8 ((rd.bytes.getD rd1_7.toNat 0).toNat : Int) 128) * 2 ^ ((7 * v11_9) : Int).toNat)))))) (by simp only [Reader_Number, h20, h24, h28, h35, h37, h49, hg3, hR51, cs4]); subst hq
    exact Kr () rfl (.tmp rfl .nil) [0] en
   intro h49
   have g52 := df h49
   refine KS ?_
   refine Oq Vm (Oq Va (KS ?_))
   have hR53 := q2 hM10 (.ret ((bOr .i64 n_8 ((bAn .u8 ((rd.bytes.getD rd1_7.toNat 0).toNat : Int) 128) * 2 ^ ((7 * v11_9) : Int).toNat)), (GReader.mk rd.bytes (rd1_7 + 1) (decide (most < (bOr .i64 n_8 ((bAn .u8 ((rd.bytes.getD rd1_7.toNat 0).toNat : Int) 128) * 2 ^ ((7 * v11_9) : Int).toNat))))))) (by simp only [Reader_Number_L0, h20, h24, h28, h35, h37, h49, cs4])
   have hq := q4 hrr ((bOr .i64 n_8 ((bAn .u8 ((rd.bytes.getD rd1_7.toNat 0).toNat : Int) 128) * 2 ^ ((7 * v11_9) : Int).toNat)), (GReader.mk rd.bytes (rd1_7 + 1) (decide (most < (bOr .i64 n_8 ((bAn .u8 ((rd.bytes.getD rd1_7.toNat 0).toNat : Int) 128) * 2 ^ ((7 * v11_9) : Int).toNat)))))) (by simp only [Reader_Number, h20, h24, h28, h35, h37, h49, hg3, hR53, cs4]); subst hq
   exact Kr () rfl (.tmp rfl .nil) [0] en
  intro h35
  have g54 := df h35
  have hnx := NB_i (NB_step (c := ((rd.bytes.getD rd1_7.toNat 0).toNat : Int)) (by assumption : NB _ _) aM1 aM1)
  refine KS ?_
  refine Oq Vadd (Oq Vm (KS ?_))
  exact Kg (r22, (rd1_7 + 1), (bOr .i64 n_8 ((bAn .u8 ((rd.bytes.getD rd1_7.toNat 0).toNat : Int) 128) * 2 ^ ((7 * v11_9) : Int).toNat)), (v11_9 + 1)) [0, 1] ⟨(q3 hM10 (by simp only [Reader_Number_L0, h20, h24, h28, h35, cs4])), aM1, aM1, aM1, aM1, aM1, aM1, iv1, (NB_step (by assumption) aM1 aM1)⟩
 intro h20
 have g55 := df h20
 obtain rfl : r6 = 0 := by omega
 refine Ke ?_
 have hR56 := q2 hM10 (.brk rd1_7) (by simp only [Reader_Number_L0, h20, cs4])
 refine KS ?_
 refine Oq Vm (Oq (Vn 0) (Oq (Vfa fo103_2 0) (Ost (SclF [0] sh4 [vl rda0 rdk0 rd.bytes, vi rd1_7, vb true]) (KS ?_))))
 refine Oq Va (KS ?_)
 have hq := q4 hrr (0, (GReader.mk rd.bytes rd1_7 true)) (by simp only [Reader_Number, h20, hg3, hR56, cs4]); subst hq
 exact Kr () rfl (.tmp rfl .nil) [0] en
theorem fn107 (rdP : Value) (rd : GReader) (rda0 : Option Addr) (rdk0 : Nat) (hrd_1 : i64ok rd.at_) (hr0 : 0 ≤ rd.at_ ∧ rd.at_ ≤ (rd.bytes.length : Int)) (rr : Int × GReader) (hrr : Reader_Length rd = rr) : FT Tryz.prog 107 #[rdP] [Cl rdP [vl rda0 rdk0 rd.bytes, vi rd.at_, vb rd.Bad], S rda0 rdk0 rd.bytes] (fun g : Unit => i64ok rr.1 ∧ i64ok rr.2.at_ ∧ (0 ≤ rr.1 ∧ rr.1 ≤ (rd.bytes.length : Int)) ∧ (0 ≤ rr.2.at_ ∧ rr.2.at_ ≤ (rd.bytes.length : Int))) (fun g => vi rr.1) (fun g => [Cl rdP [vl rda0 rdk0 rd.bytes, vi rr.2.at_, vb rr.2.Bad]]) := by
 refine FTi Tryz.func107 fun w0 M0 F0 => ?_
 unfold i64ok at hrd_1
 refine Fb 1 1 fun _ => KS ?_
 refine Oq Va (KS ?_)
 refine Jp 0 fun hp2 => ?_
 refine JK_drawK [0, 0, 2, 6, 14, 30, 0, 64, 192, 448, 1022, 2047, 4095] fmix ?_
 refine Dv [] Vm (Dv [] Vm (Dv [0] (Vn 0) (Dv [0] (Vfa fo103_0 0) (Dv [1] (VldF sh44 0) (Dv [] (Vlen sl44) (Dv [] Vm (Dv [0] (Vn 0) (Dv [0] (Vfa fo103_1 0) (Dv [1] (VldF sh3 0) ?_)))))))))
 refine Dv [] Vsub ?_
 refine letv (Reader_Number rd ((rd.bytes.length : Int) - rd.at_)) fun rv3 hg4 => ?_
 refine Dx [1, 2] [1] [2, 0, 1] (fun G => vi rv3.1) [fun G => SP.fact (i64ok rv3.1 ∧ i64ok rv3.2.at_ ∧ (0 ≤ rv3.1 ∧ rv3.1 ≤ ((rd.bytes.length : Int) - rd.at_)) ∧ (0 ≤ rv3.2.at_ ∧ rv3.2.at_ ≤ (rd.bytes.length : Int))), fun G => Cl rdP [vl rda0 rdk0 rd.bytes, vi rv3.2.at_, vb rv3.2.Bad]] (fun G => xC [0, 0] ca64 (fn64 rdP rd rda0 rdk0 (((rd.bytes.length : Int) - rd.at_)) pre pre pre pre rv3 hg4)) (Dv [] Va ?_)
 refine Dn ⟨by kernel_rfl, fun G => ?_⟩
 refine Jw2 [(2, vi rv3.1)] [0, 2] [SP.fact (i64ok rv3.1 ∧ i64ok rv3.2.at_ ∧ (0 ≤ rv3.1 ∧ rv3.1 ≤ ((rd.bytes.length : Int) - rd.at_)) ∧ (0 ≤ rv3.2.at_ ∧ rv3.2.at_ ≤ (rd.bytes.length : Int))), Cl rdP [vl rda0 rdk0 rd.bytes, vi rv3.2.at_, vb rv3.2.Bad]] ?_
 refine Jf 2 rfl ?_; rintro ⟨he5, he6, he7, he8⟩
 unfold i64ok at he5 he6
 refine Jk [1, 3] ?_
 have hq := q4 hrr (rv3.1, (GReader.mk rd.bytes rv3.2.at_ rv3.2.Bad)) (by simp only [Reader_Length, hg4, cs4]); subst hq
 exact Kr () rfl (.tmp rfl .nil) [1] en
theorem fn65 (rdP : Value) (rd : GReader) (rda0 : Option Addr) (rdk0 : Nat) (most : Int) (hrd_1 : i64ok rd.at_) (hmost_0 : i64ok most) (hr0 : 0 ≤ rd.at_ ∧ rd.at_ ≤ (rd.bytes.length : Int)) (hl0 : rd.bytes.length ≤ 2000000) (hm0 : 0 ≤ most) (rr : List Int × GReader) (hrr : Reader_Numbers rd most = rr) : FT Tryz.prog 65 #[rdP, vi most] [Cl rdP [vl rda0 rdk0 rd.bytes, vi rd.at_, vb rd.Bad], S rda0 rdk0 rd.bytes] (fun g : Value => i64ok rr.2.at_ ∧ (rr.1.length ≤ 2000000) ∧ (0 ≤ rr.2.at_ ∧ rr.2.at_ ≤ (rd.bytes.length : Int))) (fun g => g) (fun g => [sl g rr.1, Cl rdP [vl rda0 rdk0 rd.bytes, vi rr.2.at_, vb rr.2.Bad]]) := by
 refine FTi Tryz.func65 fun w0 M0 F0 => ?_
 unfold i64ok at hrd_1 hmost_0
 refine Fb 1 1 fun _ => KS ?_
 refine Oq Va (KS ?_)
 refine Oq Va (KS ?_)
 refine Oq Vm ?_
 refine letv (Reader_Length rd) fun rv2 hg3 => ?_
 have hc4 := fn107 rdP rd rda0 rdk0 pre pre rv2 hg3
 refine Oc [0, 0] ca107 hc4 ?_
 rintro - ⟨he5, he6, he7, he8⟩
 unfold i64ok at he5 he6
 refine Oq Vm (KS ?_)
 refine Jl [] (Ent.osNil (α := Int)) ?_
 refine Kl (γ := Nat × Int × Bool × List Int × Int × Option Addr × Nat) (fun (r9, rd1_10, rd2_11, out_12, v8_13, a14, k15) => ⟨[(0, rdP), (1, vi most), (5, vl a14 k15 out_12), (7, vi rv2.1), (8, vi v8_13)], [O a14 k15 out_12, Cl rdP [vl rda0 rdk0 rd.bytes, vi rd1_10, vb rd2_11], S rda0 rdk0 rd.bytes], Reader_Numbers_L0 rd most r9 rd1_10 rd2_11 out_12 v8_13 = Reader_Numbers_L0 rd most (((rv2.1 : Int) - 0).toNat) rv2.2.at_ rv2.2.Bad [] 0 ∧ r9 = ((rv2.1 : Int) - v8_13).toNat ∧ (0 : Int) ≤ v8_13 ∧ (v8_13 ≤ rv2.1 ∨ v8_13 = 0) ∧ (-9223372036854775808 ≤ rd1_10 ∧ rd1_10 ≤ 9223372036854775807) ∧ (-9223372036854775808 ≤ v8_13 ∧ v8_13 ≤ 9223372036854775807) ∧ (0 ≤ rd1_10 ∧ rd1_10 ≤ (rd.bytes.length : Int)) ∧ ((out_12.length : Int) ≤ v8_13), r9⟩) (((rv2.1 : Int) - 0).toNat, rv2.2.at_, rv2.2.Bad, [], 0, none, 0) [0, 0, 0] ⟨rfl, rfl, aM1, (.inr rfl), aM1, aM1, iv0, iv0⟩ ?_
 rintro ⟨r9, rd1_10, rd2_11, out_12, v8_13, a14, k15⟩ ⟨hM16, hr17, hi18, hi19, hk20, hk21, hv22, hv23⟩
 refine JJ_nx fun _ _ hL hA => ?_; dsimp only at hL hA; subst hL hA
 refine Fb 8 0 fun _ => Fo 0 fun ho25 => Fb 1 2 fun _ => KS ?_
 refine Oq Vlss (KS ?_)
 refine Kc ?_ ?_
 ·intro h27
  have g28 := dt h27
  obtain ⟨r29, rfl⟩ := scc (n := r9) aM1
  refine KS ?_
  refine Oq Vm (Oq Vm (Oq Vm ?_))
  refine letv (Reader_Number (GReader.mk rd.bytes rd1_10 rd2_11) most) fun rv30 hg31 => ?_
  have hc32 := fn64 rdP (GReader.mk rd.bytes rd1_10 rd2_11) rda0 rdk0 most pre pre pre pre rv30 hg31
  refine Oc [1, 1] ca64 hc32 ?_
  rintro - ⟨he33, he34, he35, he36⟩
  unfold i64ok at he33 he34
  have he36 : (0 ≤ rv30.2.at_ ∧ rv30.2.at_ ≤ (rd.bytes.length : Int)) := he36
  refine Oa (AsV sl22 sz22 [vi rv30.1] [vi rv30.1]) fun c37 => ?_
  refine Jo 0 ?_; rintro a38 k39 rfl
  refine Jl [0] (Ent.crInt _ [rv30.1] _ _ rfl rfl (by intro x hx; rw [List.mem_singleton] at hx; subst hx; unfold i64ok; omega) aB1) ?_
  refine Oa (ApO [2, 0] sl22 sl22 sz22) fun c40 => ?_
  refine Jo 0 ?_; rintro a41 k42 rfl
  refine Fb 8 0 fun _ => Fo 0 fun ho44 => ?_
  have hn45 := la out_12 ([rv30.1] : List Int)
  refine Oq Va (KS ?_)
  refine Oq Vm (Oq (Vn 1) (Oq (Vfa fo103_2 1) (Oq (VldF sh4 1) (KS ?_))))
  refine Kc ?_ ?_
  ·intro h46
   refine KS ?_
   refine Oq Va (KS ?_)
   refine Jl [] (Ent.slNil (α := Int)) ?_
   have hR48 := q2 hM16 (.ret (([] : List Int), (GReader.mk rd.bytes rv30.2.at_ rv30.2.Bad))) (by simp only [Reader_Numbers_L0, h27, h46, hg31, cs4])
   have hq := q4 hrr (([] : List Int), (GReader.mk rd.bytes rv30.2.at_ rv30.2.Bad)) (by simp only [Reader_Numbers, h27, h46, hg3, hg31, hR48, cs4]); subst hq
   exact Kr (.slice none 0 0) rfl (.tmp rfl .nil) [0, 2] en
  intro h46
  refine KS ?_
  refine Oq Vadd (Oq Vm (KS ?_))
  exact Kg (r29, rv30.2.at_, rv30.2.Bad, (out_12 ++ [rv30.1]), (v8_13 + 1), a41, k42) [0, 0, 0] ⟨(q3 hM16 (by simp only [Reader_Numbers_L0, h27, h46, hg31, cs4])), aM1, aM1, aM1, aM1, aM1, iv1, iv1⟩
 intro h27
 have g50 := df h27
 obtain rfl : r9 = 0 := by omega
 refine Ke ?_
 have hR51 := q2 hM16 (.brk (rd1_10, rd2_11, out_12)) (by simp only [Reader_Numbers_L0, h27, cs4])
 refine KS ?_
 refine Oq Vm (Oq Va (KS ?_))
 refine Jl [0] (Ent.freeze _ _) ?_
 have hq := q4 hrr (out_12, (GReader.mk rd.bytes rd1_10 rd2_11)) (by simp only [Reader_Numbers, h27, hg3, hR51, cs4]); subst hq
 exact Kr (vl a14 k15 out_12) rfl (.tmp rfl .nil) [0, 1] en
theorem fn66 (rdP : Value) (rd : GReader) (rda0 : Option Addr) (rdk0 : Nat) (hrd_1 : i64ok rd.at_) (hr0 : 0 ≤ rd.at_ ∧ rd.at_ ≤ (rd.bytes.length : Int)) (rr : Bool × GReader) (hrr : Reader_Bool rd = rr) : FT Tryz.prog 66 #[rdP] [Cl rdP [vl rda0 rdk0 rd.bytes, vi rd.at_, vb rd.Bad], S rda0 rdk0 rd.bytes] (fun g : Unit => i64ok rr.2.at_ ∧ (0 ≤ rr.2.at_ ∧ rr.2.at_ ≤ (rd.bytes.length : Int))) (fun g => vb rr.1) (fun g => [Cl rdP [vl rda0 rdk0 rd.bytes, vi rr.2.at_, vb rr.2.Bad]]) := by
 refine FTi Tryz.func66 fun w0 M0 F0 => ?_
 unfold i64ok at hrd_1
 refine Fb 1 1 fun _ => KS ?_
 refine Oq Va (KS ?_)
 refine Oq Vm ?_
 refine letv (Reader_Number rd 1) fun rv2 hg3 => ?_
 have hc4 := fn64 rdP rd rda0 rdk0 1 pre pre pre pre rv2 hg3
 refine Oc [0, 0] ca64 hc4 ?_
 rintro - ⟨he5, he6, he7, he8⟩
 unfold i64ok at he5 he6
 refine Oq Veql (Oq Va (KS ?_))
 have hq := q4 hrr ((rv2.1 == 1), (GReader.mk rd.bytes rv2.2.at_ rv2.2.Bad)) (by simp only [Reader_Bool, hg3, cs4]); subst hq
 exact Kr () rfl (.tmp rfl .nil) [0] en
theorem fn145 (width : Int) (hwidth_0 : i64ok width) (rr : GSet × Int) (hrr : bt_Empty width = rr) : FT Tryz.prog 145 #[vi width] [] (fun g : Value => i64ok rr.1.Width ∧ i64ok rr.2 ∧ (0 ≤ rr.1.Width ∧ rr.1.Width ≤ 256) ∧ (rr.1.Words.length = ((rr.1.Width + 63) / 64).toNat)) (fun g => .tuple #[.agg #[vi rr.1.Width, g], vi rr.2]) (fun g => [os g rr.1.Words]) := by
 refine FTi Tryz.func145 fun w0 M0 F0 => ?_
 unfold i64ok at hwidth_0
 refine KS ?_
 refine Oa (Al ze39 [vi 0, .slice none 0 0]) fun p1 => Oq Va (KS ?_)
 refine Oq Vm ?_
 refine letv (bt_ranged width) fun rv2 hg3 => ?_
 have hc4 := fn112 width pre rv2 hg3
 refine Oc [] ca112 hc4 ?_
 rintro - -
 refine Oq Vnot (KS ?_)
 refine Kc ?_ ?_
 ·intro h5
  have h7 := not_true h5
  refine KS ?_
  refine Oq (Vbd st39 [vi 0, .slice none 0 0]) (Ost (Scl [0] sh39 [vi 0, .slice none 0 0]) (Oq Va (KS ?_)))
  refine Jl [] (Ent.osNil (α := BitVec 64)) ?_
  have hq := q4 hrr ((GSet.mk 0 []), 3) (by simp only [bt_Empty, h5, h7, hg3, cs4]); subst hq
  exact Kr (.slice none 0 0) rfl (.cellN 1 rfl sh39 rfl (reads_Cl _ _) rfl (.tmp rfl .nil)) [0] en
 intro h5
 have h10 := not_false h5
 have hrg := ranged_iff (w := width) (by simp only [h5, h10, hg3])
 refine KS ?_
 refine Oq Vm (Oq Vm ?_)
 refine letv (bt_words width) fun rv12 hg13 => ?_
 have hc14 := fn113 width pre pre rv12 hg13
 refine Oc [] ca113 hc14 ?_
 rintro - ⟨he15, he16⟩
 unfold i64ok at he15
 refine Oa (Amk (α := BitVec 64) sl37 sz37 0#64 (fun _ _ => rfl)) fun c17 => ?_
 refine Jo 0 ?_; rintro a18 k19 rfl
 refine Fb 8 0 fun _ => ?_
 have hn21 := List.length_replicate (n := rv12.toNat) (a := (0#64 : BitVec 64))
 refine Oq (Vbd st39 [vi width, vl a18 k19 (List.replicate rv12.toNat 0#64)]) (Ost (Scl [1] sh39 [vi width, vl a18 k19 (List.replicate rv12.toNat 0#64)]) (Oq Va (KS ?_)))
 have hq := q4 hrr ((GSet.mk width (List.replicate rv12.toNat 0#64)), 0) (by simp only [bt_Empty, h5, h10, hg3, hg13, cs4]); subst hq
 exact Kr (vl a18 k19 (List.replicate rv12.toNat 0#64)) rfl (.cellN 0 rfl sh39 rfl (reads_Cl _ _) rfl (.tmp rfl .nil)) [1] en
theorem fn146 (s : GSet) (sa1 : Option Addr) (sk1 : Nat) (b : Int) (hs_0 : i64ok s.Width) (hb_0 : i64ok b) (hb0 : 0 ≤ b ∧ b / 64 < (s.Words.length : Int)) (rr : List (BitVec 64)) (hrr : bt_put s b = rr) : FT Tryz.prog 146 #[.agg #[vi s.Width, vl sa1 sk1 s.Words], vi b] [O sa1 sk1 s.Words] (fun g : Unit => True) (fun g => .tuple #[]) (fun g => [os (vl sa1 sk1 s.Words) rr]) := by
 refine FTi Tryz.func146 fun w0 M0 F0 => ?_
 unfold i64ok at hs_0 hb_0
 refine Fb 8 0 fun _ => KS ?_
 refine Oa (Ab [vi s.Width, vl sa1 sk1 s.Words]) fun p2 => KS ?_
 refine Oq (Vfa fo39_1 0) (Oq (VldF sh37 0) (Oq Vm (Oq Vquo (Oq (Vi sl37 1) (Oq (VldU sh68 1) (Oq Vm (Oq (VcU un3 un69) (Oq (VremU (b := 64#64) (by simp)) (Oq (VshlU (a := 1#64)) ?_)))))))))
 refine Oq VorU (Oq (Vi sl37 1) (Ost (SoU [1] sh68) (KS ?_)))
 refine Fl 0 fun hn3 => ?_
 have hq := q4 hrr (s.Words.set ((b / 64) : Int).toNat ((s.Words.getD ((b / 64) : Int).toNat 0#64) ||| (1#64 <<< ((((BitVec.ofInt 64 b) % 64#64).toNat : Int)).toNat))) (by simp only [bt_put, cs4]); subst hq
 exact Kz () rfl .nil [0] trivial
theorem fn108 (width : Int) (members : List Int) (membersa0 : Option Addr) (membersk0 : Nat) (hwidth_0 : i64ok width) (hn0 : members.length ≤ 100000) (rr : GSet × Int) (hrr : bt_Of width members = rr) : FT Tryz.prog 108 #[vi width, vl membersa0 membersk0 members] [S membersa0 membersk0 members] (fun g : Value => i64ok rr.1.Width ∧ i64ok rr.2) (fun g => .tuple #[.agg #[vi rr.1.Width, g], vi rr.2]) (fun g => [os g rr.1.Words]) := by
 refine FTi Tryz.func108 fun w0 M0 F0 => ?_
 unfold i64ok at hwidth_0
 refine Fb 8 0 fun _ => Fo 0 fun ho2 => KS ?_
 refine Oa (Al ze39 [vi 0, .slice none 0 0]) fun p3 => Oq Va (KS ?_)
 refine Oq Vm ?_
 refine letv (bt_Empty width) fun rv5 hg6 => ?_
 have hc7 := fn145 width pre rv5 hg6
 refine Oc [] ca145 hc7 ?_
 rintro c4 ⟨he8, he9, he10, he11⟩
 unfold i64ok at he8 he9
 refine Jo 0 ?_; rintro a12 k13 rfl
 refine Fb 8 0 fun _ => ?_
 refine Oq Vm (Oq Vx (Oq Vx (Oa (Al ze39 [vi 0, .slice none 0 0]) fun p15 => Ost (Scl [0] sh39 [vi rv5.1.Width, vl a12 k13 rv5.1.Words]) (Oq Va (KS ?_)))))
 refine Oq Vm (Oq (Vlen sl22) (Oq Vm (KS ?_)))
 refine Kl (γ := Nat × List (BitVec 64) × Int × Option Addr × Nat) (fun (r16, s1_17, v17_18, a19, k20) => ⟨[(4, p3), (6, p15), (7, vi rv5.2), (15, vl membersa0 membersk0 members), (16, vi (members.length : Int)), (17, vi v17_18)], [O a19 k20 s1_17, Cl p15 [vi rv5.1.Width, vl a19 k20 s1_17], Cl p3 [vi 0, .slice none 0 0], S membersa0 membersk0 members], bt_Of_L0 members rv5.1.Width r16 s1_17 v17_18 = bt_Of_L0 members rv5.1.Width (((members.length : Int) - 0).toNat) rv5.1.Words 0 ∧ r16 = ((members.length : Int) - v17_18).toNat ∧ (0 : Int) ≤ v17_18 ∧ v17_18 ≤ (members.length : Int) ∧ (-9223372036854775808 ≤ v17_18 ∧ v17_18 ≤ 9223372036854775807) ∧ (s1_17.length = ((rv5.1.Width + 63) / 64).toNat), r16⟩) (((members.length : Int) - 0).toNat, rv5.1.Words, 0, a12, k13) [1, 0, 0, 0] ⟨rfl, rfl, aM1, aM1, aM1, iv0⟩ ?_
 rintro ⟨r16, s1_17, v17_18, a19, k20⟩ ⟨hM21, hr22, hi23, hi24, hk25, hv26⟩
 refine JJ_nx fun _ _ hL hA => ?_; dsimp only at hL hA; subst hL hA
 refine Fb 8 0 fun _ => Fb 8 3 fun _ => Fo 3 fun ho29 => KS ?_
 refine Oq Vlss (KS ?_)
 refine Kc ?_ ?_
 ·intro h30
  have g31 := dt h30
  obtain ⟨r32, rfl⟩ := scc (n := r16) aM1
  refine KS ?_
  refine Oq (Vi sl22 3) ?_
  have hb33 := ok1 (i := v17_18.toNat) ho29 rng
  refine Oq (VldI sh3 3) (Oq Va (KS ?_))
  refine Oq Vm (Oq Vlss (Oq Vm ?_))
  refine Js 23 ?_ ?_
  ·intro h34
   have g35 := dt h34
   refine Osk (Osk (Osk (Osk (Oq Vpt (KS ?_)))))
   refine Kt (KS ?_)
   refine Oq (Vbd st39 [vi 0, .slice none 0 0]) (Ost (Scl [2] sh39 [vi 0, .slice none 0 0]) (Oq Va (KS ?_)))
   refine Jl [] (Ent.osNil (α := BitVec 64)) ?_
   have hR36 := q2 hM21 (.ret ((GSet.mk 0 []), 3)) (by simp only [bt_Of_L0, h30, h34, cs4])
   have hq := q4 hrr ((GSet.mk 0 []), 3) (by simp only [bt_Of, h30, h34, hg6, hR36, cs4]); subst hq
   exact Kr (.slice none 0 0) rfl (.cellN 1 rfl sh39 rfl (reads_Cl _ _) rfl (.tmp rfl .nil)) [0] en
  intro h34
  have g37 := df h34
  refine Oq Vm (Oq (Vfa fo39_0 1) (Oq (VldF sh3 1) (Oq Vgeq (Oq Vpf (KS ?_)))))
  refine Kc ?_ ?_
  ·intro h38
   have g39 := dt h38
   refine KS ?_
   refine Oq (Vbd st39 [vi 0, .slice none 0 0]) (Ost (Scl [2] sh39 [vi 0, .slice none 0 0]) (Oq Va (KS ?_)))
   refine Jl [] (Ent.osNil (α := BitVec 64)) ?_
   have hR40 := q2 hM21 (.ret ((GSet.mk 0 []), 3)) (by simp only [bt_Of_L0, h30, h34, h38, cs4])
   have hq := q4 hrr ((GSet.mk 0 []), 3) (by simp only [bt_Of, h30, h34, h38, hg6, hR40, cs4]); subst hq
   exact Kr (.slice none 0 0) rfl (.cellN 1 rfl sh39 rfl (reads_Cl _ _) rfl (.tmp rfl .nil)) [0] en
  intro h38
  have g41 := df h38
  refine KS ?_
  refine Oq (VldA sh39 1) (Oq Vm ?_)
  refine letv (bt_put (GSet.mk rv5.1.Width s1_17) (members.getD v17_18.toNat 0)) fun rv42 hg43 => ?_
  have hpl := put_len hg43
  dsimp only at hpl
  have hc44 := fn146 ((GSet.mk rv5.1.Width s1_17)) a19 k20 ((members.getD v17_18.toNat 0)) pre pre pre rv42 hg43
  refine Oc [0] ca146 hc44 ?_
  rintro - -
  refine KS ?_
  refine Oq Vadd (Oq Vm (KS ?_))
  refine Fl 0 fun hn45 => ?_; (try unfold vl); rw [← hn45]
  exact Kg (r32, rv42, (v17_18 + 1), a19, k20) [0, 0, 0, 0] ⟨(q3 hM21 (by simp only [bt_Of_L0, h30, h34, h38, hg43, cs4])), aM1, aM1, aM1, aM1, iv1⟩
 intro h30
 have g46 := df h30
 obtain rfl : r16 = 0 := by omega
 refine Ke ?_
 have hR47 := q2 hM21 (.brk s1_17) (by simp only [bt_Of_L0, h30, cs4])
 refine KS ?_
 refine Oq (VldA sh39 1) (Oq Vm (Ost (Scl [2] sh39 [vi rv5.1.Width, vl a19 k20 s1_17]) (Oq Va (KS ?_))))
 have hq := q4 hrr ((GSet.mk rv5.1.Width s1_17), rv5.2) (by simp only [bt_Of, h30, hg6, hR47, cs4]); subst hq
 exact Kr (vl a19 k20 s1_17) rfl (.cellN 0 rfl sh39 rfl (reads_Cl _ _) rfl (.tmp rfl .nil)) [1] en
theorem fn67 (rdP : Value) (rd : GReader) (rda0 : Option Addr) (rdk0 : Nat) (hrd_1 : i64ok rd.at_) (hr0 : 0 ≤ rd.at_ ∧ rd.at_ ≤ (rd.bytes.length : Int)) (rr : GSet × GReader) (hrr : Reader_Set rd = rr) : FT Tryz.prog 67 #[rdP] [Cl rdP [vl rda0 rdk0 rd.bytes, vi rd.at_, vb rd.Bad], S rda0 rdk0 rd.bytes] (fun g : Value => i64ok rr.1.Width ∧ i64ok rr.2.at_ ∧ (0 ≤ rr.2.at_ ∧ rr.2.at_ ≤ (rd.bytes.length : Int))) (fun g => .agg #[vi rr.1.Width, g]) (fun g => [sl g rr.1.Words, Cl rdP [vl rda0 rdk0 rd.bytes, vi rr.2.at_, vb rr.2.Bad]]) := by
 refine FTi Tryz.func67 fun w0 M0 F0 => ?_
 unfold i64ok at hrd_1
 refine Fb 1 1 fun _ => KS ?_
 refine Oa (Al ze39 [vi 0, .slice none 0 0]) fun p2 => KS ?_
 refine Oq Vm ?_
 refine letv (Reader_Number rd 256) fun rv3 hg4 => ?_
 have hc5 := fn64 rdP rd rda0 rdk0 256 pre pre pre pre rv3 hg4
 refine Oc [1, 1] ca64 hc5 ?_
 rintro - ⟨he6, he7, he8, he9⟩
 unfold i64ok at he6 he7
 refine Oq Va (KS ?_)
 refine Oq Va (KS ?_)
 refine Oq Va (KS ?_)
 refine Oq Vm (Oq Vm ?_)
 refine letv (Reader_Number (GReader.mk rd.bytes rv3.2.at_ rv3.2.Bad) rv3.1) fun rv10 hg11 => ?_
 have hc12 := fn64 rdP (GReader.mk rd.bytes rv3.2.at_ rv3.2.Bad) rda0 rdk0 rv3.1 pre pre pre pre rv10 hg11
 refine Oc [0, 1] ca64 hc12 ?_
 rintro - ⟨he13, he14, he15, he16⟩
 unfold i64ok at he13 he14
 have he16 : (0 ≤ rv10.2.at_ ∧ rv10.2.at_ ≤ (rd.bytes.length : Int)) := he16
 refine Oq Vm (KS ?_)
 refine Jl [] (Ent.osNil (α := Int)) ?_
 refine Kl (γ := Nat × Int × Bool × List Int × Int × Int × Option Addr × Nat) (fun (r17, rd1_18, rd2_19, members_20, last_21, v13_22, a23, k24) => ⟨[(0, rdP), (2, p2), (3, vi rv3.1), (4, vl a23 k24 members_20), (5, vi last_21), (12, vi rv10.1), (13, vi v13_22)], [O a23 k24 members_20, Cl rdP [vl rda0 rdk0 rd.bytes, vi rd1_18, vb rd2_19], Cl p2 [vi 0, .slice none 0 0], S rda0 rdk0 rd.bytes], Reader_Set_L0 rd r17 rd1_18 rd2_19 members_20 last_21 v13_22 = Reader_Set_L0 rd (((rv10.1 : Int) - 0).toNat) rv10.2.at_ rv10.2.Bad [] (-1) 0 ∧ r17 = ((rv10.1 : Int) - v13_22).toNat ∧ (0 : Int) ≤ v13_22 ∧ (v13_22 ≤ rv10.1 ∨ v13_22 = 0) ∧ (-9223372036854775808 ≤ rd1_18 ∧ rd1_18 ≤ 9223372036854775807) ∧ (-9223372036854775808 ≤ last_21 ∧ last_21 ≤ 9223372036854775807) ∧ (-9223372036854775808 ≤ v13_22 ∧ v13_22 ≤ 9223372036854775807) ∧ (0 ≤ rd1_18 ∧ rd1_18 ≤ (rd.bytes.length : Int)) ∧ ((members_20.length : Int) ≤ v13_22) ∧ (-1 ≤ last_21 ∧ last_21 ≤ 257 * v13_22), r17⟩) (((rv10.1 : Int) - 0).toNat, rv10.2.at_, rv10.2.Bad, [], -1, 0, none, 0) [0, 0, 0, 0] ⟨rfl, rfl, aM1, (.inr rfl), aM1, aM1, aM1, iv0, iv0, iv0⟩ ?_
 rintro ⟨r17, rd1_18, rd2_19, members_20, last_21, v13_22, a23, k24⟩ ⟨hM25, hr26, hi27, hi28, hk29, hk30, hk31, hv32, hv33, hv34⟩
 refine JJ_nx fun _ _ hL hA => ?_; dsimp only at hL hA; subst hL hA
 refine Fb 8 0 fun _ => Fo 0 fun ho36 => Fb 1 3 fun _ => KS ?_
 refine Oq Vlss (KS ?_)
 refine Kc ?_ ?_
 ·intro h38
  have g39 := dt h38
  obtain ⟨r40, rfl⟩ := scc (n := r17) aM1
  refine KS ?_
  refine Oq Vm (Oq Vm ?_)
  refine letv (Reader_Number (GReader.mk rd.bytes rd1_18 rd2_19) 256) fun rv41 hg42 => ?_
  have hc43 := fn64 rdP (GReader.mk rd.bytes rd1_18 rd2_19) rda0 rdk0 256 pre pre pre pre rv41 hg42
  refine Oc [1, 2] ca64 hc43 ?_
  rintro - ⟨he44, he45, he46, he47⟩
  unfold i64ok at he44 he45
  have he47 : (0 ≤ rv41.2.at_ ∧ rv41.2.at_ ≤ (rd.bytes.length : Int)) := he47
  refine Oq Vadd (Oq Vadd (Oq Va (KS ?_)))
  refine Oq Vm (Oq Vm (Oa (AsV sl22 sz22 [vi (last_21 + (1 + rv41.1))] [vi (last_21 + (1 + rv41.1))]) fun c48 => ?_))
  refine Jo 0 ?_; rintro a49 k50 rfl
  refine Jl [0] (Ent.crInt _ [(last_21 + (1 + rv41.1))] _ _ rfl rfl (by intro x hx; rw [List.mem_singleton] at hx; subst hx; unfold i64ok; omega) aB1) ?_
  refine Oa (ApO [2, 0] sl22 sl22 sz22) fun c51 => ?_
  refine Jo 0 ?_; rintro a52 k53 rfl
  refine Fb 8 0 fun _ => Fo 0 fun ho55 => ?_
  have hn56 := la members_20 ([(last_21 + (1 + rv41.1))] : List Int)
  refine Oq Va (KS ?_)
  refine Oq Vadd (Oq Vm (KS ?_))
  exact Kg (r40, rv41.2.at_, rv41.2.Bad, (members_20 ++ [(last_21 + (1 + rv41.1))]), (last_21 + (1 + rv41.1)), (v13_22 + 1), a52, k53) [0, 0, 0, 0] ⟨(q3 hM25 (by simp only [Reader_Set_L0, h38, hg42, cs4])), aM1, aM1, aM1, aM1, aM1, aM1, iv1, iv1, iv1⟩
 intro h38
 have g57 := df h38
 obtain rfl : r17 = 0 := by omega
 refine Ke ?_
 have hR58 := q2 hM25 (rd1_18, rd2_19, members_20) (by simp only [Reader_Set_L0, h38, cs4])
 refine KS ?_
 refine Oq Vm (Oq Vm ?_)
 refine letv (bt_Of rv3.1 members_20) fun rv60 hg61 => ?_
 refine Oc [0] ca108 (FT_borrow (A := _) hlx (FT_ent (Ent.take (is := [0]) rfl) (fn108 rv3.1 members_20 a23 k24 pre pre rv60 hg61))) ?_ (ht := rfl)
 rintro c59 ⟨he62, he63⟩
 unfold i64ok at he62 he63
 refine Jo 1 ?_; rintro a64 k65 rfl
 refine Fb 8 1 fun _ => ?_
 refine Oq Vm (Oq Vx (Oq Vx (Oa (Al ze39 [vi 0, .slice none 0 0]) fun p67 => Ost (Scl [0] sh39 [vi rv60.1.Width, vl a64 k65 rv60.1.Words]) (Oq Va (KS ?_)))))
 refine Oq Vm (Oq Vneq (KS ?_))
 refine Kc ?_ ?_
 ·intro h68
  have g69 := ne_of_bne h68
  refine KS ?_
  refine Oq Vm (Oq (Vn 3) (Oq (Vfa fo103_2 3) (Ost (SclF [3] sh4 [vl rda0 rdk0 rd.bytes, vi rd1_18, vb true]) (KS ?_))))
  refine Oq (VldA sh39 1) (Ost (Scl [4] sh39 [vi rv60.1.Width, vl a64 k65 rv60.1.Words]) (KS ?_))
  refine Jl [4] (Ent.freeze _ _) ?_
  have hq := q4 hrr (rv60.1, (GReader.mk rd.bytes rd1_18 true)) (by simp only [Reader_Set, h38, h68, hg4, hg11, hR58, hg61, cs4]); subst hq
  exact Kr (vl a64 k65 rv60.1.Words) rfl (.cellN 1 rfl sh39 rfl (reads_Cl _ _) rfl .nil) [0, 2] en
 intro h68
 have g70 := eq_of_bne_false h68
 refine KS ?_
 refine Oq (VldA sh39 0) (Ost (Scl [4] sh39 [vi rv60.1.Width, vl a64 k65 rv60.1.Words]) (KS ?_))
 refine Jl [3] (Ent.freeze _ _) ?_
 have hq := q4 hrr (rv60.1, (GReader.mk rd.bytes rd1_18 rd2_19)) (by simp only [Reader_Set, h38, h68, hg4, hg11, hR58, hg61, cs4]); subst hq
 exact Kr (vl a64 k65 rv60.1.Words) rfl (.cellN 1 rfl sh39 rfl (reads_Cl _ _) rfl .nil) [0, 4] en
theorem fn34 (rdP : Value) (rd : GReader) (rda0 : Option Addr) (rdk0 : Nat) (hrd_1 : i64ok rd.at_) (hr0 : 0 ≤ rd.at_ ∧ rd.at_ ≤ (rd.bytes.length : Int)) (hl0 : rd.bytes.length ≤ 2000000) (rr : GState × GReader) (hrr : resume_Read rd = rr) : FT Tryz.prog 34 #[rdP] [Cl rdP [vl rda0 rdk0 rd.bytes, vi rd.at_, vb rd.Bad], S rda0 rdk0 rd.bytes] (fun g : Value × Value × Value × Value => i64ok rr.1.Phase ∧ i64ok rr.1.At ∧ i64ok rr.1.Edge ∧ i64ok rr.1.Steps ∧ i64ok rr.2.at_ ∧ (0 ≤ rr.2.at_ ∧ rr.2.at_ ≤ (rd.bytes.length : Int))) (fun g => .agg #[vi rr.1.Phase, g.1, g.2.1, vi rr.1.At, vi rr.1.Edge, g.2.2.1, g.2.2.2, vi rr.1.Steps]) (fun g => [sl g.1 rr.1.Cone, sl g.2.1 rr.1.Leaf, sl g.2.2.1 rr.1.Values, sl g.2.2.2 rr.1.Queue, Cl rdP [vl rda0 rdk0 rd.bytes, vi rr.2.at_, vb rr.2.Bad]]) := by
 refine FTi Tryz.func34 fun w0 M0 F0 => ?_
 unfold i64ok at hrd_1
 refine Fb 1 1 fun _ => KS ?_
 refine Oa (Al ze26 [vi 0, .slice none 0 0, .slice none 0 0, vi 0, vi 0, .slice none 0 0, .slice none 0 0, vi 0]) fun p2 => KS ?_
 refine Oq Vm ?_
 refine letv (Reader_Number rd 3) fun rv3 hg4 => ?_
 have hc5 := fn64 rdP rd rda0 rdk0 3 pre pre pre pre rv3 hg4
 refine Oc [1, 1] ca64 hc5 ?_
 rintro - ⟨he6, he7, he8, he9⟩
 unfold i64ok at he6 he7
 refine Oq Vm ?_
 refine letv (Reader_Numbers (GReader.mk rd.bytes rv3.2.at_ rv3.2.Bad) 1073741824) fun rv11 hg12 => ?_
 have hc13 := fn65 rdP (GReader.mk rd.bytes rv3.2.at_ rv3.2.Bad) rda0 rdk0 1073741824 pre pre pre pre pre rv11 hg12
 refine Oc [0, 1] ca65 hc13 ?_
 rintro c10 ⟨he14, he15, he16⟩
 unfold i64ok at he14
 have he16 : (0 ≤ rv11.2.at_ ∧ rv11.2.at_ ≤ (rd.bytes.length : Int)) := he16
 refine Jo 0 ?_; rintro a17 k18 rfl
 refine Fb 8 0 fun _ => Fo 0 fun ho20 => ?_
 refine Oq (Vbd st26 [vi rv3.1, vl a17 k18 rv11.1, .slice none 0 0, vi 0, vi 0, .slice none 0 0, .slice none 0 0, vi 0]) (Oa (Al ze26 [vi 0, .slice none 0 0, .slice none 0 0, vi 0, vi 0, .slice none 0 0, .slice none 0 0, vi 0]) fun p21 => Ost (Scl [0] sh26 [vi rv3.1, vl a17 k18 rv11.1, .slice none 0 0, vi 0, vi 0, .slice none 0 0, .slice none 0 0, vi 0]) (KS ?_))
 refine Oq (Vfa fo26_1 0) (Oq (VldF sh22 0) (Oq (Vlen sl22) (Oq Vm (KS ?_))))
 refine Jl [] (Ent.osNil (α := Bool)) ?_
 refine Kl (γ := Nat × Int × Bool × List Bool × Int × Option Addr × Nat) (fun (r22, rd1_23, rd2_24, st2_25, v12_26, a27, k28) => ⟨[(0, rdP), (2, p2), (3, p21), (11, vi (rv11.1.length : Int)), (12, vi v12_26)], [O a27 k28 st2_25, Cl p21 [vi rv3.1, vl a17 k18 rv11.1, vl a27 k28 st2_25, vi 0, vi 0, .slice none 0 0, .slice none 0 0, vi 0], S a17 k18 rv11.1, Cl rdP [vl rda0 rdk0 rd.bytes, vi rd1_23, vb rd2_24], Cl p2 [vi 0, .slice none 0 0, .slice none 0 0, vi 0, vi 0, .slice none 0 0, .slice none 0 0, vi 0], S rda0 rdk0 rd.bytes], resume_Read_L0 rd r22 rd1_23 rd2_24 st2_25 v12_26 = resume_Read_L0 rd (((rv11.1.length : Int) - 0).toNat) rv11.2.at_ rv11.2.Bad [] 0 ∧ r22 = ((rv11.1.length : Int) - v12_26).toNat ∧ (0 : Int) ≤ v12_26 ∧ v12_26 ≤ (rv11.1.length : Int) ∧ (-9223372036854775808 ≤ rd1_23 ∧ rd1_23 ≤ 9223372036854775807) ∧ (-9223372036854775808 ≤ v12_26 ∧ v12_26 ≤ 9223372036854775807) ∧ (0 ≤ rd1_23 ∧ rd1_23 ≤ (rd.bytes.length : Int)) ∧ ((st2_25.length : Int) ≤ v12_26), r22⟩) (((rv11.1.length : Int) - 0).toNat, rv11.2.at_, rv11.2.Bad, [], 0, none, 0) [0, 0, 0, 1, 1, 1] ⟨rfl, rfl, aM1, aM1, aM1, aM1, iv0, iv0⟩ ?_
 rintro ⟨r22, rd1_23, rd2_24, st2_25, v12_26, a27, k28⟩ ⟨hM29, hr30, hi31, hi32, hk33, hk34, hv35, hv36⟩
 refine JJ_nx fun _ _ hL hA => ?_; dsimp only at hL hA; subst hL hA
 refine Fb 1 0 fun _ => Fb 8 2 fun _ => Fo 2 fun ho39 => Fb 1 5 fun _ => KS ?_
 refine Oq Vlss (KS ?_)
 refine Kc ?_ ?_
 ·intro h41
  have g42 := dt h41
  obtain ⟨r43, rfl⟩ := scc (n := r22) aM1
  refine KS ?_
  refine Jp 1 fun hp44 => ?_
  refine JK_drawK [0, 1, 0, 4, 12, 31, 63, 127] fmix ?_
  refine Dv [0] (Vfa fo26_2 0) (Dv [2] (VldF sh23 0) (Dv [] Vm ?_))
  refine letv (Reader_Bool (GReader.mk rd.bytes rd1_23 rd2_24)) fun rv45 hg46 => ?_
  refine Dx [4, 6] [4] [2, 0, 1] (fun G => vb rv45.1) [fun G => SP.fact (i64ok rv45.2.at_ ∧ (0 ≤ rv45.2.at_ ∧ rv45.2.at_ ≤ ((GReader.mk rd.bytes rd1_23 rd2_24).bytes.length : Int))), fun G => Cl rdP [vl rda0 rdk0 rd.bytes, vi rv45.2.at_, vb rv45.2.Bad]] (fun G => xC [0, 0] ca66 (fn66 rdP (GReader.mk rd.bytes rd1_23 rd2_24) rda0 rdk0 pre pre rv45 hg46)) (Dx [] [] [0] (fun G => (G.g 4 0)) [fun G => Cr (G.g 4 0) 1 [vb rv45.1]] (fun G => xA (AsV sl23 sz23 [vb rv45.1] [vb rv45.1])) ?_)
  have hn49 := la st2_25 ([rv45.1] : List Bool)
  refine Dx [1, 7, 9] [1, 9] [1, 0] (fun G => (G.g 5 0)) [fun G => os (G.g 5 0) ((st2_25 ++ [rv45.1]) : List Bool)] (fun G => by refine xf 1 rfl ?_; rintro ⟨he50, he51⟩; unfold i64ok at he50; exact xp [2] rfl (Ent.cr1 (α := Bool) (A := []) _ rv45.1 _ aB1 (fun _ => rfl)) (xA (ApO [1, 0] sl23 sl23 sz23))) (Dv [0] (Vfa fo26_2 0) (Dx0 [2, 10] [2] [1, 0] [fun G => Cl p21 [vi rv3.1, vl a17 k18 rv11.1, (G.g 5 0), vi 0, vi 0, .slice none 0 0, .slice none 0 0, vi 0]] (fun G => x1 1 rfl os_one fun ho52 => (xS (OpS.frame [0] rfl (OpS.storeClF [(G.g 5 0)] [vi rv3.1, vl a17 k18 rv11.1, (G.g 5 0), vi 0, vi 0, .slice none 0 0, .slice none 0 0, vi 0] rfl rfl rfl sh23 (cells_of_one ho52) rfl (by simp only [List.all_cons, List.all_nil, ho52, Bool.and_true, Bool.true_and] <;> rfl) aB1 rfl)))) ?_))
  refine Dn ⟨by kernel_rfl, fun G => ?_⟩
  refine Jw2 [(0, rdP), (2, p2), (3, p21), (11, vi (rv11.1.length : Int)), (12, vi v12_26)] [0, 3, 5, 6] [SP.fact (i64ok rv45.2.at_ ∧ (0 ≤ rv45.2.at_ ∧ rv45.2.at_ ≤ ((GReader.mk rd.bytes rd1_23 rd2_24).bytes.length : Int))), Cl rdP [vl rda0 rdk0 rd.bytes, vi rv45.2.at_, vb rv45.2.Bad], os (G.g 5 0) ((st2_25 ++ [rv45.1]) : List Bool), Cl p21 [vi rv3.1, vl a17 k18 rv11.1, (G.g 5 0), vi 0, vi 0, .slice none 0 0, .slice none 0 0, vi 0]] ?_
  generalize G.g 5 0 = c48
  refine Jf 4 rfl ?_; rintro ⟨he53, he54⟩
  unfold i64ok at he53
  refine Jk [1, 2, 2, 4, 4, 4] ?_
  refine Jo 4 ?_; rintro a55 k56 rfl
  refine Fb 1 4 fun _ => KS ?_
  refine Oq Vadd (Oq Vm (KS ?_))
  exact Kg (r43, rv45.2.at_, rv45.2.Bad, (st2_25 ++ [rv45.1]), (v12_26 + 1), a55, k56) [4, 4, 0, 3, 1, 1] ⟨(q3 hM29 (by simp only [resume_Read_L0, h41, hg46, cs4])), aM1, aM1, aM1, aM1, aM1, iv1, iv1⟩
 intro h41
 have g58 := df h41
 obtain rfl : r22 = 0 := by omega
 refine Ke ?_
 have hR59 := q2 hM29 (rd1_23, rd2_24, st2_25) (by simp only [resume_Read_L0, h41, cs4])
 refine KS ?_
 refine Oq Vm ?_
 refine letv (Reader_Number (GReader.mk rd.bytes rd1_23 rd2_24) 1073741824) fun rv60 hg61 => ?_
 have hc62 := fn64 rdP (GReader.mk rd.bytes rd1_23 rd2_24) rda0 rdk0 1073741824 pre pre pre pre rv60 hg61
 refine Oc [3, 4] ca64 hc62 ?_
 rintro - ⟨he63, he64, he65, he66⟩
 unfold i64ok at he63 he64
 have he66 : (0 ≤ rv60.2.at_ ∧ rv60.2.at_ ≤ (rd.bytes.length : Int)) := he66
 refine Oq Vm ?_
 refine letv (Reader_Number (GReader.mk rd.bytes rv60.2.at_ rv60.2.Bad) 1073741824) fun rv67 hg68 => ?_
 have hc69 := fn64 rdP (GReader.mk rd.bytes rv60.2.at_ rv60.2.Bad) rda0 rdk0 1073741824 pre pre pre pre rv67 hg68
 refine Oc [0, 4] ca64 hc69 ?_
 rintro - ⟨he70, he71, he72, he73⟩
 unfold i64ok at he70 he71
 have he73 : (0 ≤ rv67.2.at_ ∧ rv67.2.at_ ≤ (rd.bytes.length : Int)) := he73
 refine Oq (Vfa fo26_3 2) (Ost (SclF [2] sh3 [vi rv3.1, vl a17 k18 rv11.1, vl a27 k28 st2_25, vi rv60.1, vi 0, .slice none 0 0, .slice none 0 0, vi 0]) (Oq (Vfa fo26_4 0) (Ost (SclF [0] sh3 [vi rv3.1, vl a17 k18 rv11.1, vl a27 k28 st2_25, vi rv60.1, vi rv67.1, .slice none 0 0, .slice none 0 0, vi 0]) (KS ?_))))
 refine Oq Vm ?_
 refine letv (Reader_Number (GReader.mk rd.bytes rv67.2.at_ rv67.2.Bad) 256) fun rv74 hg75 => ?_
 have hc76 := fn64 rdP (GReader.mk rd.bytes rv67.2.at_ rv67.2.Bad) rda0 rdk0 256 pre pre pre pre rv74 hg75
 refine Oc [1, 4] ca64 hc76 ?_
 rintro - ⟨he77, he78, he79, he80⟩
 unfold i64ok at he77 he78
 have he80 : (0 ≤ rv74.2.at_ ∧ rv74.2.at_ ≤ (rd.bytes.length : Int)) := he80
 refine Oq Vm (KS ?_)
 refine Jl [] (Ent.osNil (α := GSet)) ?_
 refine Kl (γ := Nat × Int × Bool × List GSet × Int × Option Addr × Nat) (fun (r81, rd1_82, rd2_83, st5_84, v30_85, a86, k87) => ⟨[(0, rdP), (2, p2), (3, p21), (29, vi rv74.1), (30, vi v30_85)], [O a86 k87 st5_84, Cl rdP [vl rda0 rdk0 rd.bytes, vi rd1_82, vb rd2_83], Cl p21 [vi rv3.1, vl a17 k18 rv11.1, vl a27 k28 st2_25, vi rv60.1, vi rv67.1, vl a86 k87 st5_84, .slice none 0 0, vi 0], O a27 k28 st2_25, S a17 k18 rv11.1, Cl p2 [vi 0, .slice none 0 0, .slice none 0 0, vi 0, vi 0, .slice none 0 0, .slice none 0 0, vi 0], S rda0 rdk0 rd.bytes], resume_Read_L1 rd r81 rd1_82 rd2_83 st5_84 v30_85 = resume_Read_L1 rd (((rv74.1 : Int) - 0).toNat) rv74.2.at_ rv74.2.Bad [] 0 ∧ r81 = ((rv74.1 : Int) - v30_85).toNat ∧ (0 : Int) ≤ v30_85 ∧ (v30_85 ≤ rv74.1 ∨ v30_85 = 0) ∧ (-9223372036854775808 ≤ rd1_82 ∧ rd1_82 ≤ 9223372036854775807) ∧ (-9223372036854775808 ≤ v30_85 ∧ v30_85 ≤ 9223372036854775807) ∧ (0 ≤ rd1_82 ∧ rd1_82 ≤ (rd.bytes.length : Int)) ∧ ((st5_84.length : Int) ≤ v30_85), r81⟩) (((rv74.1 : Int) - 0).toNat, rv74.2.at_, rv74.2.Bad, [], 0, none, 0) [0, 0, 0, 0, 0, 1, 1] ⟨rfl, rfl, aM1, (.inr rfl), aM1, aM1, iv0, iv0⟩ ?_
 rintro ⟨r81, rd1_82, rd2_83, st5_84, v30_85, a86, k87⟩ ⟨hM88, hr89, hi90, hi91, hk92, hk93, hv94, hv95⟩
 refine JJ_nx fun _ _ hL hA => ?_; dsimp only at hL hA; subst hL hA
 refine Fb 32 0 fun _ => Fb 1 3 fun _ => Fb 8 4 fun _ => Fo 4 fun ho99 => Fb 1 6 fun _ => KS ?_
 refine Oq Vlss (KS ?_)
 refine Kc ?_ ?_
 ·intro h101
  have g102 := dt h101
  obtain ⟨r103, rfl⟩ := scc (n := r81) aM1
  refine KS ?_
  refine Jp 2 fun hp104 => ?_
  refine JK_drawK [0, 1, 0, 4, 12, 31, 63, 127] fmix ?_
  refine Dv [0] (Vfa fo26_5 0) (Dv [3] (VldF sh24 0) (Dv [] Vm ?_))
  refine letv (Reader_Set (GReader.mk rd.bytes rd1_82 rd2_83)) fun rv106 hg107 => ?_
  refine Dx [2, 7] [2] [3, 0, 1, 2] (fun G => .agg #[vi rv106.1.Width, (G.g 3 0)]) [fun G => SP.fact (i64ok rv106.1.Width ∧ i64ok rv106.2.at_ ∧ (0 ≤ rv106.2.at_ ∧ rv106.2.at_ ≤ ((GReader.mk rd.bytes rd1_82 rd2_83).bytes.length : Int))), fun G => sl (G.g 3 0) rv106.1.Words, fun G => Cl rdP [vl rda0 rdk0 rd.bytes, vi rv106.2.at_, vb rv106.2.Bad]] (fun G => xC [0, 0] ca67 (fn67 rdP (GReader.mk rd.bytes rd1_82 rd2_83) rda0 rdk0 pre pre rv106 hg107)) (Dx [] [] [0] (fun G => (G.g 4 0)) [fun G => Cr (G.g 4 0) 1 [vi rv106.1.Width, (G.g 3 0)]] (fun G => xA (AsV sl24 sz24 [.agg #[vi rv106.1.Width, (G.g 3 0)]] [vi rv106.1.Width, (G.g 3 0)])) ?_)
  have hn110 := la st5_84 ([rv106.1] : List GSet)
  refine Dx [1, 8, 9, 11] [1, 11] [2, 1, 0] (fun G => (G.g 5 0)) [fun G => os (G.g 5 0) ((st5_84 ++ [rv106.1]) : List GSet)] (fun G => by refine xf 1 rfl ?_; rintro ⟨he111, he112, he113⟩; unfold i64ok at he111 he112; exact xp [3, 2] rfl (Ent.cr1 (α := GSet) (A := [sl (G.g 3 0) rv106.1.Words]) _ rv106.1 _ aB1 (fun h => ⟨_, rfl, aL1, sepAll_get (i := 0) rfl h⟩)) (xA (ApO [2, 0] sl24 sl24 sz24))) (Dv [0] (Vfa fo26_5 0) (Dx0 [3, 12] [3] [1, 0] [fun G => Cl p21 [vi rv3.1, vl a17 k18 rv11.1, vl a27 k28 st2_25, vi rv60.1, vi rv67.1, (G.g 5 0), .slice none 0 0, vi 0]] (fun G => x1 1 rfl os_one fun ho114 => (xS (OpS.frame [0] rfl (OpS.storeClF [(G.g 5 0)] [vi rv3.1, vl a17 k18 rv11.1, vl a27 k28 st2_25, vi rv60.1, vi rv67.1, (G.g 5 0), .slice none 0 0, vi 0] rfl rfl rfl sh24 (cells_of_one ho114) rfl (by simp only [List.all_cons, List.all_nil, ho114, Bool.and_true, Bool.true_and] <;> rfl) aB1 rfl)))) ?_))
  refine Dn ⟨by kernel_rfl, fun G => ?_⟩
  refine Jw2 [(0, rdP), (2, p2), (3, p21), (29, vi rv74.1), (30, vi v30_85)] [0, 4, 5, 6, 7] [SP.fact (i64ok rv106.1.Width ∧ i64ok rv106.2.at_ ∧ (0 ≤ rv106.2.at_ ∧ rv106.2.at_ ≤ ((GReader.mk rd.bytes rd1_82 rd2_83).bytes.length : Int))), sl (G.g 3 0) rv106.1.Words, Cl rdP [vl rda0 rdk0 rd.bytes, vi rv106.2.at_, vb rv106.2.Bad], os (G.g 5 0) ((st5_84 ++ [rv106.1]) : List GSet), Cl p21 [vi rv3.1, vl a17 k18 rv11.1, vl a27 k28 st2_25, vi rv60.1, vi rv67.1, (G.g 5 0), .slice none 0 0, vi 0]] ?_
  generalize G.g 3 0 = c105, G.g 5 0 = c109
  refine Jf 5 rfl ?_; rintro ⟨he115, he116, he117⟩
  unfold i64ok at he115 he116
  refine Jk [1, 1, 2, 2, 4, 5, 5, 5] ?_
  refine Jo 4 ?_; rintro a118 k119 rfl
  refine Fb 8 4 fun _ => ?_
  refine Jo 6 ?_; rintro a121 k122 rfl
  refine Fb 32 6 fun _ => KS ?_
  refine Oq Vadd (Oq Vm (KS ?_))
  exact Kg (r103, rv106.2.at_, rv106.2.Bad, (st5_84 ++ [rv106.1]), (v30_85 + 1), a121, k122) [6, 5, 5, 0, 0, 1, 1] ⟨(q3 hM88 (by simp only [resume_Read_L1, h101, hg107, cs4])), aM1, aM1, aM1, aM1, aM1, iv1, iv1⟩
 intro h101
 have g124 := df h101
 obtain rfl : r81 = 0 := by omega
 refine Ke ?_
 have hR125 := q2 hM88 (rd1_82, rd2_83, st5_84) (by simp only [resume_Read_L1, h101, cs4])
 refine KS ?_
 refine Oq Vm ?_
 refine letv (Reader_Numbers (GReader.mk rd.bytes rd1_82 rd2_83) 1073741824) fun rv127 hg128 => ?_
 have hc129 := fn65 rdP (GReader.mk rd.bytes rd1_82 rd2_83) rda0 rdk0 1073741824 pre pre pre pre pre rv127 hg128
 refine Oc [1, 5] ca65 hc129 ?_
 rintro c126 ⟨he130, he131, he132⟩
 unfold i64ok at he130
 have he132 : (0 ≤ rv127.2.at_ ∧ rv127.2.at_ ≤ (rd.bytes.length : Int)) := he132
 refine Jo 0 ?_; rintro a133 k134 rfl
 refine Fb 8 0 fun _ => Fo 0 fun ho136 => Oq Vm ?_
 refine letv (Reader_Number (GReader.mk rd.bytes rv127.2.at_ rv127.2.Bad) 1073741824) fun rv137 hg138 => ?_
 have hc139 := fn64 rdP (GReader.mk rd.bytes rv127.2.at_ rv127.2.Bad) rda0 rdk0 1073741824 pre pre pre pre rv137 hg138
 refine Oc [1, 6] ca64 hc139 ?_
 rintro - ⟨he140, he141, he142, he143⟩
 unfold i64ok at he140 he141
 have he143 : (0 ≤ rv137.2.at_ ∧ rv137.2.at_ ≤ (rd.bytes.length : Int)) := he143
 refine Oq (Vfa fo26_6 3) (Ost (SclF [3] sh22 [vi rv3.1, vl a17 k18 rv11.1, vl a27 k28 st2_25, vi rv60.1, vi rv67.1, vl a86 k87 st5_84, vl a133 k134 rv127.1, vi 0]) (Oq (Vfa fo26_7 0) (Ost (SclF [0] sh3 [vi rv3.1, vl a17 k18 rv11.1, vl a27 k28 st2_25, vi rv60.1, vi rv67.1, vl a86 k87 st5_84, vl a133 k134 rv127.1, vi rv137.1]) (KS ?_))))
 refine Oq (VldA sh26 0) ?_
 refine Jl [3] (Ent.freeze _ _) ?_
 refine letv (resume_encodable (GState.mk rv3.1 rv11.1 st2_25 rv60.1 rv67.1 st5_84 rv127.1 rv137.1)) fun rv144 hg145 => ?_
 refine Oc [4, 4, 0, 3] ca44 (FT_borrow (A := _) (fun _ _ h => by cases h) (FT_ent (Ent.take (is := [1, 0, 2, 3]) rfl) (fn44 ((GState.mk rv3.1 rv11.1 st2_25 rv60.1 rv67.1 st5_84 rv127.1 rv137.1)) a17 k18 a27 k28 a86 k87 a133 k134 pre pre pre pre rv144 hg145))) ?_ (ht := rfl)
 rintro - -
 refine Oq Vnot (KS ?_)
 refine Kc ?_ ?_
 ·intro h146
  have h148 := not_true h146
  refine KS ?_
  refine Oq Vm (Oq (Vn 3) (Oq (Vfa fo103_2 3) (Ost (SclF [3] sh4 [vl rda0 rdk0 rd.bytes, vi rv137.2.at_, vb true]) (KS ?_))))
  refine Oq (VldA sh26 3) (Ost (Scl [6] sh26 [vi rv3.1, vl a17 k18 rv11.1, vl a27 k28 st2_25, vi rv60.1, vi rv67.1, vl a86 k87 st5_84, vl a133 k134 rv127.1, vi rv137.1]) (KS ?_))
  refine Jl [2] (Ent.freeze _ _) ?_
  have hq := q4 hrr ((GState.mk rv3.1 rv11.1 st2_25 rv60.1 rv67.1 st5_84 rv127.1 rv137.1), (GReader.mk rd.bytes rv137.2.at_ true)) (by simp only [resume_Read, h41, h101, h146, h148, hg4, hg12, hR59, hg61, hg68, hg75, hR125, hg128, hg138, hg145, cs4]); subst hq
  exact Kr (vl a17 k18 rv11.1, vl a27 k28 st2_25, vl a86 k87 st5_84, vl a133 k134 rv127.1) rfl (.cellN 1 rfl sh26 rfl (reads_Cl _ _) rfl .nil) [6, 0, 3, 5, 2] en
 intro h146
 have h151 := not_false h146
 refine KS ?_
 refine Oq (VldA sh26 2) (Ost (Scl [6] sh26 [vi rv3.1, vl a17 k18 rv11.1, vl a27 k28 st2_25, vi rv60.1, vi rv67.1, vl a86 k87 st5_84, vl a133 k134 rv127.1, vi rv137.1]) (KS ?_))
 refine Jl [1] (Ent.freeze _ _) ?_
 have hq := q4 hrr ((GState.mk rv3.1 rv11.1 st2_25 rv60.1 rv67.1 st5_84 rv127.1 rv137.1), (GReader.mk rd.bytes rv137.2.at_ rv137.2.Bad)) (by simp only [resume_Read, h41, h101, h146, h151, hg4, hg12, hR59, hg61, hg68, hg75, hR125, hg128, hg138, hg145, cs4]); subst hq
 exact Kr (vl a17 k18 rv11.1, vl a27 k28 st2_25, vl a86 k87 st5_84, vl a133 k134 rv127.1) rfl (.cellN 1 rfl sh26 rfl (reads_Cl _ _) rfl .nil) [6, 0, 2, 5, 4] en
theorem fn35 (rdP : Value) (rd : GReader) (rda0 : Option Addr) (rdk0 : Nat) (hrd_1 : i64ok rd.at_) (rr : Bool) (hrr : Reader_Done rd = rr) : FT Tryz.prog 35 #[rdP] [Cl rdP [vl rda0 rdk0 rd.bytes, vi rd.at_, vb rd.Bad], S rda0 rdk0 rd.bytes] (fun g : Unit => True) (fun g => vb rr) (fun g => [Cl rdP [vl rda0 rdk0 rd.bytes, vi rd.at_, vb rd.Bad]]) := by
 refine FTi Tryz.func35 fun w0 M0 F0 => ?_
 unfold i64ok at hrd_1
 refine Fb 1 1 fun _ => KS ?_
 refine Oq Va (KS ?_)
 refine Jp 0 fun hp2 => ?_
 refine Kq [0, 1, 3, 7, 15, 31, 63, 127, 255, 511, 63, 1087, 3135, 7231, 15423, 32767, 65535, 131071] fmix ?_
 refine Qv [] Vm (Qv [0] (Vn 0) (Qv [0] (Vfa fo103_2 0) (Qv [1] (VldF sh4 0) (Qv [] Vnot ?_))))
 refine bool_split (!rd.Bad) ?_ ?_
 ·intro h3
  have h5 := not_true h3
  refine Qb h3 [] Vm (Qv [] Vm (Qv [0] (Vn 0) (Qv [0] (Vfa fo103_1 0) (Qv [1] (VldF sh3 0) (Qv [] Vm (Qv [0] (Vn 0) (Qv [0] (Vfa fo103_0 0) (Qv [1] (VldF sh44 0) (Qv [] (Vlen sl44) ?_)))))))))
  refine Qv [] Veql (Qv [] Vpt (Qv [] Va ?_))
  refine Qn ⟨by kernel_rfl, ?_⟩
  have hq := q4 hrr (rd.at_ == (rd.bytes.length : Int)) (by simp only [Reader_Done, h3, h5, cs4]); subst hq
  exact Kr () rfl (.tmp rfl .nil) [1] trivial
 intro h3
 have h8 := not_false h3
 refine Qb h3 [] Vm (Qs (Qs (Qs (Qs (Qs (Qs (Qs (Qs (Qs ?_)))))))))
 refine Qs (Qv [] Vpf (Qv [] Va ?_))
 refine Qn ⟨by kernel_rfl, ?_⟩
 have hq := q4 hrr false (by simp only [Reader_Done, h3, h8, cs4]); subst hq
 exact Kr () rfl (.tmp rfl .nil) [1] trivial
theorem fn14 (b : List UInt8) (ba0 : Option Addr) (bk0 : Nat) (hb0 : b.length ≤ 1000000) (rr : GState × Int) (hrr : resume_Decode b = rr) : FT Tryz.prog 14 #[vl ba0 bk0 b] [S ba0 bk0 b] (fun g : Value × Value × Value × Value => i64ok rr.1.Phase ∧ i64ok rr.1.At ∧ i64ok rr.1.Edge ∧ i64ok rr.1.Steps ∧ i64ok rr.2) (fun g => .tuple #[.agg #[vi rr.1.Phase, g.1, g.2.1, vi rr.1.At, vi rr.1.Edge, g.2.2.1, g.2.2.2, vi rr.1.Steps], vi rr.2]) (fun g => [sl g.1 rr.1.Cone, sl g.2.1 rr.1.Leaf, sl g.2.2.1 rr.1.Values, sl g.2.2.2 rr.1.Queue]) := by
 refine FTi Tryz.func14 fun w0 M0 F0 => Fb 1 0 fun _ => ?_
 refine KS ?_
 refine Oa (Al ze26 [vi 0, .slice none 0 0, .slice none 0 0, vi 0, vi 0, .slice none 0 0, .slice none 0 0, vi 0]) fun p2 => Oq Va (KS ?_)
 refine Oq Vm ?_
 refine letv (uvarint_Open b) fun rv5 hg6 => ?_
 have hc7 := fn33 b ba0 bk0 pre rv5 hg6
 refine Oc [1] ca33 hc7 ?_
 rintro ⟨c3, c4⟩ he8
 unfold i64ok at he8
 refine Oq Vm (Oq Vx (Oq Vx (Oq Va (Oq Va (KS ?_)))))
 refine Oq Vm (Oq Vneq (KS ?_))
 refine Kc ?_ ?_
 ·intro h9
  have g10 := ne_of_bne h9
  refine KS ?_
  refine Oq (Vbd st26 [vi 0, .slice none 0 0, .slice none 0 0, vi 0, vi 0, .slice none 0 0, .slice none 0 0, vi 0]) (Oq Vm (Ost (Scl [1] sh26 [vi 0, .slice none 0 0, .slice none 0 0, vi 0, vi 0, .slice none 0 0, .slice none 0 0, vi 0]) (Oq Va (KS ?_))))
  refine Jl [] (Ent.slNil (α := Int)) ?_
  refine Jl [] (Ent.slNil (α := Bool)) ?_
  refine Jl [] (Ent.slNil (α := GSet)) ?_
  have hq := q4 hrr ((GState.mk 0 [] [] 0 0 [] [] 0), rv5) (by simp only [resume_Decode, h9, hg6, cs4]); subst hq
  exact Kr (.slice none 0 0, .slice none 0 0, .slice none 0 0, .slice none 0 0) rfl (.cellN 3 rfl sh26 rfl (reads_Cl _ _) rfl (.tmp rfl .nil)) [2, 1, 0, 2] en
 intro h9
 have g11 := eq_of_bne_false h9
 refine Jl [0] (Ent.cndE (bneT h9)) ?_
 refine Jo 1 ?_; rintro a12 k13 rfl
 refine Fb 1 1 fun _ => KS ?_
 refine Oq Vm ?_
 refine letv (resume_Read (GReader.mk ((b.take ((((b.length : Int) - 4) : Int).toNat)).drop 0) 0 false)) fun rv19 hg20 => ?_
 have hc21 := fn34 c3 (GReader.mk ((b.take ((((b.length : Int) - 4) : Int).toNat)).drop 0) 0 false) a12 k13 pre pre pre rv19 hg20
 refine Oc [0, 0] ca34 hc21 ?_
 rintro ⟨c15, c16, c17, c18⟩ ⟨he22, he23, he24, he25, he26, he27⟩
 unfold i64ok at he22 he23 he24 he25 he26
 have he27 : (0 ≤ rv19.2.at_ ∧ rv19.2.at_ ≤ (((b.take ((((b.length : Int) - 4) : Int).toNat)).drop 0).length : Int)) := he27
 refine Jo 0 ?_; rintro a28 k29 rfl
 refine Fb 8 0 fun _ => Fo 0 fun ho31 => ?_
 refine Jo 1 ?_; rintro a32 k33 rfl
 refine Fb 1 1 fun _ => ?_
 refine Jo 2 ?_; rintro a35 k36 rfl
 refine Fb 32 2 fun _ => ?_
 refine Jo 3 ?_; rintro a38 k39 rfl
 refine Fb 8 3 fun _ => Fo 3 fun ho41 => ?_
 refine Oa (Al ze26 [vi 0, .slice none 0 0, .slice none 0 0, vi 0, vi 0, .slice none 0 0, .slice none 0 0, vi 0]) fun p42 => Ost (Scl [0] sh26 [vi rv19.1.Phase, vl a28 k29 rv19.1.Cone, vl a32 k33 rv19.1.Leaf, vi rv19.1.At, vi rv19.1.Edge, vl a35 k36 rv19.1.Values, vl a38 k39 rv19.1.Queue, vi rv19.1.Steps]) (KS ?_)
 refine Oq Vm ?_
 refine letv (Reader_Done (GReader.mk ((b.take ((((b.length : Int) - 4) : Int).toNat)).drop 0) rv19.2.at_ rv19.2.Bad)) fun rv43 hg44 => ?_
 have hc45 := fn35 c3 (GReader.mk ((b.take ((((b.length : Int) - 4) : Int).toNat)).drop 0) rv19.2.at_ rv19.2.Bad) a12 k13 pre rv43 hg44
 refine Oc [5, 5] ca35 hc45 ?_
 rintro - -
 refine Oq Vnot (KS ?_)
 refine Kc ?_ ?_
 ·intro h46
  have h48 := not_true h46
  refine KS ?_
  refine Oq (Vbd st26 [vi 0, .slice none 0 0, .slice none 0 0, vi 0, vi 0, .slice none 0 0, .slice none 0 0, vi 0]) (Ost (Scl [7] sh26 [vi 0, .slice none 0 0, .slice none 0 0, vi 0, vi 0, .slice none 0 0, .slice none 0 0, vi 0]) (Oq Va (KS ?_)))
  refine Jl [] (Ent.slNil (α := Int)) ?_
  refine Jl [] (Ent.slNil (α := Bool)) ?_
  refine Jl [] (Ent.slNil (α := GSet)) ?_
  have hq := q4 hrr ((GState.mk 0 [] [] 0 0 [] [] 0), 13) (by simp only [resume_Decode, h9, h46, h48, hg6, hg20, hg44, cs4]); subst hq
  exact Kr (.slice none 0 0, .slice none 0 0, .slice none 0 0, .slice none 0 0) rfl (.cellN 3 rfl sh26 rfl (reads_Cl _ _) rfl (.tmp rfl .nil)) [2, 1, 0, 2] en
 intro h46
 have h51 := not_false h46
 refine KS ?_
 refine Oq (VldA sh26 1) (Ost (Scl [7] sh26 [vi rv19.1.Phase, vl a28 k29 rv19.1.Cone, vl a32 k33 rv19.1.Leaf, vi rv19.1.At, vi rv19.1.Edge, vl a35 k36 rv19.1.Values, vl a38 k39 rv19.1.Queue, vi rv19.1.Steps]) (Oq Va (KS ?_)))
 have hq := q4 hrr (rv19.1, 0) (by simp only [resume_Decode, h9, h46, h51, hg6, hg20, hg44, cs4]); subst hq
 exact Kr (vl a28 k29 rv19.1.Cone, vl a32 k33 rv19.1.Leaf, vl a35 k36 rv19.1.Values, vl a38 k39 rv19.1.Queue) rfl (.cellN 0 rfl sh26 rfl (reads_Cl _ _) rfl (.tmp rfl .nil)) [3, 4, 5, 6] en
theorem fn36 (a : List Int) (aa0 : Option Addr) (ak0 : Nat) (b : List Int) (ba0 : Option Addr) (bk0 : Nat) (rr : Bool) (hrr : r7_Ints a b = rr) : FT Tryz.prog 36 #[vl aa0 ak0 a, vl ba0 bk0 b] [S aa0 ak0 a, S ba0 bk0 b] (fun g : Unit => True) (fun g => vb rr) (fun g => []) := by
 refine FTi Tryz.func36 fun w0 M0 F0 => Fb 8 0 fun _ => Fo 0 fun ho2 => Fb 8 1 fun _ => Fo 1 fun ho4 => ?_
 refine KS ?_
 refine Oq Va (KS ?_)
 refine Oq Vm (Oq (Vlen sl22) (Oq Vm (Oq (Vlen sl22) (Oq Vneq (KS ?_)))))
 refine Kc ?_ ?_
 ·intro h5
  have g6 := ne_of_bne h5
  refine KS ?_
  refine Oq Va (KS ?_)
  have hq := q4 hrr false (by simp only [r7_Ints, h5, cs4]); subst hq
  exact Kr () rfl (.tmp rfl .nil) [] trivial
 intro h5
 have g7 := eq_of_bne_false h5
 refine KS ?_
 refine Oq Va (KS ?_)
 refine Kl (γ := Nat × Int) (fun (r8, i_9) => ⟨[(0, vl aa0 ak0 a), (1, vl ba0 bk0 b), (5, vi i_9)], [S aa0 ak0 a, S ba0 bk0 b], r7_Ints_L0 a b r8 i_9 = r7_Ints_L0 a b (((a.length : Int) - 0).toNat) 0 ∧ r8 = ((a.length : Int) - i_9).toNat ∧ (0 : Int) ≤ i_9 ∧ i_9 ≤ (a.length : Int) ∧ (-9223372036854775808 ≤ i_9 ∧ i_9 ≤ 9223372036854775807), r8⟩) (((a.length : Int) - 0).toNat, 0) [0, 1] ⟨rfl, rfl, aM1, aM1, aM1⟩ ?_
 rintro ⟨r8, i_9⟩ ⟨hM10, hr11, hi12, hi13, hk14⟩
 refine JJ_nx fun _ _ hL hA => ?_; dsimp only at hL hA; subst hL hA
 refine Fb 8 0 fun _ => Fo 0 fun ho16 => Fb 8 1 fun _ => Fo 1 fun ho18 => KS ?_
 refine Oq Vm (Oq Vm (Oq (Vlen sl22) (Oq Vlss (KS ?_))))
 refine Kc ?_ ?_
 ·intro h19
  have g20 := dt h19
  obtain ⟨r21, rfl⟩ := scc (n := r8) aM1
  refine KS ?_
  refine Kq [0, 0, 3, 7, 0, 0, 48, 112, 255] fmix ?_
  refine Qv [] Vm (Qv [] Vm (Qv [0] (Vi sl22 0) ?_))
  have hb22 := ok1 (i := i_9.toNat) ho16 rng
  refine Qv [0] (VldI sh3 0) (Qv [] Vm (Qv [] Vm (Qv [1] (Vi sl22 0) ?_)))
  have hb23 := ok1 (i := i_9.toNat) ho18 rng
  refine Qv [1] (VldI sh3 0) (Qv [] Vneq ?_)
  refine Qn ⟨by kernel_rfl, ?_⟩
  refine Kc ?_ ?_
  ·intro h24
   have g25 := ne_of_bne h24
   refine KS ?_
   refine Oq Va (KS ?_)
   have hR26 := q2 hM10 (.ret false) (by simp only [r7_Ints_L0, h19, h24, cs4])
   have hq := q4 hrr false (by simp only [r7_Ints, h5, h19, h24, hR26, cs4]); subst hq
   exact Kr () rfl (.tmp rfl .nil) [] trivial
  intro h24
  have g27 := eq_of_bne_false h24
  refine KS ?_
  refine Oq Vm (Oq Vadd (Oq Va (KS ?_)))
  exact Kg (r21, (i_9 + 1)) [0, 1] ⟨(q3 hM10 (by simp only [r7_Ints_L0, h19, h24, cs4])), aM1, aM1, aM1, aM1⟩
 intro h19
 have g28 := df h19
 obtain rfl : r8 = 0 := by omega
 refine Ke ?_
 have hR29 := q2 hM10 (.brk ()) (by simp only [r7_Ints_L0, h19, cs4])
 refine KS ?_
 refine Oq Va (KS ?_)
 have hq := q4 hrr true (by simp only [r7_Ints, h5, h19, hR29, cs4]); subst hq
 exact Kr () rfl (.tmp rfl .nil) [] trivial
theorem fn25 (a : GSet) (aa1 : Option Addr) (ak1 : Nat) (b : GSet) (ba1 : Option Addr) (bk1 : Nat) (ha_0 : i64ok a.Width) (hb_0 : i64ok b.Width) (rr : Bool) (hrr : r1_Same a b = rr) : FT Tryz.prog 25 #[.agg #[vi a.Width, vl aa1 ak1 a.Words], .agg #[vi b.Width, vl ba1 bk1 b.Words]] [S aa1 ak1 a.Words, S ba1 bk1 b.Words] (fun g : Unit => True) (fun g => vb rr) (fun g => []) := by
 refine FTi Tryz.func25 fun w0 M0 F0 => ?_
 unfold i64ok at ha_0 hb_0
 refine Fb 8 0 fun _ => Fb 8 1 fun _ => KS ?_
 refine Oa (Ab [vi a.Width, vl aa1 ak1 a.Words]) fun p3 => Oa (Ab [vi b.Width, vl ba1 bk1 b.Words]) fun p4 => Oq Va (KS ?_)
 refine Oq (Vfa fo39_0 1) (Oq (VldF sh3 1) (Oq (Vfa fo39_0 0) (Oq (VldF sh3 0) (Oq Vneq (Oq Vm ?_)))))
 refine Js 11 ?_ ?_
 ·intro h5
  have g6 := ne_of_bne h5
  refine Osk (Osk (Osk (Osk (Osk (Osk (Osk (Oq Vpt (KS ?_))))))))
  refine Kt (KS ?_)
  refine Oq Va (KS ?_)
  have hq := q4 hrr false (by simp only [r1_Same, h5, cs4]); subst hq
  exact Kr () rfl (.tmp rfl .nil) [] trivial
 intro h5
 have g7 := eq_of_bne_false h5
 refine Oq (Vfa fo39_1 1) (Oq (VldF sh37 1) (Oq (Vlen sl37) (Oq (Vfa fo39_1 0) (Oq (VldF sh37 0) (Oq (Vlen sl37) (Oq Vneq (Oq Vpf (KS ?_))))))))
 refine Kc ?_ ?_
 ·intro h8
  have g9 := ne_of_bne h8
  refine KS ?_
  refine Oq Va (KS ?_)
  have hq := q4 hrr false (by simp only [r1_Same, h5, h8, cs4]); subst hq
  exact Kr () rfl (.tmp rfl .nil) [] trivial
 intro h8
 have g10 := eq_of_bne_false h8
 refine KS ?_
 refine Oq Va (KS ?_)
 refine Kl (γ := Nat × Int) (fun (r11, i_12) => ⟨[(2, p3), (3, p4), (5, vi i_12)], [pv p4 [vi b.Width, vl ba1 bk1 b.Words], pv p3 [vi a.Width, vl aa1 ak1 a.Words], S aa1 ak1 a.Words, S ba1 bk1 b.Words], r1_Same_L0 a b r11 i_12 = r1_Same_L0 a b (((a.Words.length : Int) - 0).toNat) 0 ∧ r11 = ((a.Words.length : Int) - i_12).toNat ∧ (0 : Int) ≤ i_12 ∧ i_12 ≤ (a.Words.length : Int) ∧ (-9223372036854775808 ≤ i_12 ∧ i_12 ≤ 9223372036854775807), r11⟩) (((a.Words.length : Int) - 0).toNat, 0) [0, 1, 2, 3] ⟨rfl, rfl, aM1, aM1, aM1⟩ ?_
 rintro ⟨r11, i_12⟩ ⟨hM13, hr14, hi15, hi16, hk17⟩
 refine JJ_nx fun _ _ hL hA => ?_; dsimp only at hL hA; subst hL hA
 refine Fb 8 2 fun _ => Fb 8 3 fun _ => KS ?_
 refine Oq Vm (Oq (Vfa fo39_1 1) (Oq (VldF sh37 1) (Oq (Vlen sl37) (Oq Vlss (KS ?_)))))
 refine Kc ?_ ?_
 ·intro h20
  have g21 := dt h20
  obtain ⟨r22, rfl⟩ := scc (n := r11) aM1
  refine KS ?_
  refine Kq [0, 1, 0, 7, 15, 0, 32, 0, 224, 480, 1023] fmix ?_
  refine Qv [1] (Vfa fo39_1 0) (Qv [1] (VldF sh37 0) (Qv [] Vm (Qv [2] (Vi sl37 0) (Qv [2] (VldU sh68 0) (Qv [0] (Vfa fo39_1 0) (Qv [0] (VldF sh37 0) (Qv [] Vm (Qv [3] (Vi sl37 0) (Qv [3] (VldU sh68 0) ?_)))))))))
  refine Qv [] VneqU ?_
  refine Qn ⟨by kernel_rfl, ?_⟩
  refine Kc ?_ ?_
  ·intro h23
   have g24 := ne_of_bne h23
   refine KS ?_
   refine Oq Va (KS ?_)
   have hR25 := q2 hM13 (.ret false) (by simp only [r1_Same_L0, h20, h23, cs4])
   have hq := q4 hrr false (by simp only [r1_Same, h5, h8, h20, h23, hR25, cs4]); subst hq
   exact Kr () rfl (.tmp rfl .nil) [] trivial
  intro h23
  have g26 := eq_of_bne_false h23
  refine KS ?_
  refine Oq Vm (Oq Vadd (Oq Va (KS ?_)))
  exact Kg (r22, (i_12 + 1)) [0, 1, 2, 3] ⟨(q3 hM13 (by simp only [r1_Same_L0, h20, h23, cs4])), aM1, aM1, aM1, aM1⟩
 intro h20
 have g27 := df h20
 obtain rfl : r11 = 0 := by omega
 refine Ke ?_
 have hR28 := q2 hM13 (.brk ()) (by simp only [r1_Same_L0, h20, cs4])
 refine KS ?_
 refine Oq Va (KS ?_)
 have hq := q4 hrr true (by simp only [r1_Same, h5, h8, h20, hR28, cs4]); subst hq
 exact Kr () rfl (.tmp rfl .nil) [] trivial
theorem fn37 (a : List GSet) (aa0 : Option Addr) (ak0 : Nat) (b : List GSet) (ba0 : Option Addr) (bk0 : Nat) (rr : Bool) (hrr : r10_SameSets a b = rr) : FT Tryz.prog 37 #[vl aa0 ak0 a, vl ba0 bk0 b] [S aa0 ak0 a, S ba0 bk0 b] (fun g : Unit => True) (fun g => vb rr) (fun g => []) := by
 refine FTi Tryz.func37 fun w0 M0 F0 => Fb 32 0 fun _ => Fb 32 1 fun _ => ?_
 refine KS ?_
 refine Oq Va (KS ?_)
 refine Oq Vm (Oq (Vlen sl24) (Oq Vm (Oq (Vlen sl24) (Oq Vneq (KS ?_)))))
 refine Kc ?_ ?_
 ·intro h3
  have g4 := ne_of_bne h3
  refine KS ?_
  refine Oq Va (KS ?_)
  have hq := q4 hrr false (by simp only [r10_SameSets, h3, cs4]); subst hq
  exact Kr () rfl (.tmp rfl .nil) [] trivial
 intro h3
 have g5 := eq_of_bne_false h3
 refine KS ?_
 refine Oq Va (KS ?_)
 refine Kl (γ := Nat × Int) (fun (r6, i_7) => ⟨[(0, vl aa0 ak0 a), (1, vl ba0 bk0 b), (5, vi i_7)], [S aa0 ak0 a, S ba0 bk0 b], r10_SameSets_L0 a b r6 i_7 = r10_SameSets_L0 a b (((a.length : Int) - 0).toNat) 0 ∧ r6 = ((a.length : Int) - i_7).toNat ∧ (0 : Int) ≤ i_7 ∧ i_7 ≤ (a.length : Int) ∧ (-9223372036854775808 ≤ i_7 ∧ i_7 ≤ 9223372036854775807), r6⟩) (((a.length : Int) - 0).toNat, 0) [0, 1] ⟨rfl, rfl, aM1, aM1, aM1⟩ ?_
 rintro ⟨r6, i_7⟩ ⟨hM8, hr9, hi10, hi11, hk12⟩
 refine JJ_nx fun _ _ hL hA => ?_; dsimp only at hL hA; subst hL hA
 refine Fb 32 0 fun _ => Fb 32 1 fun _ => KS ?_
 refine Oq Vm (Oq Vm (Oq (Vlen sl24) (Oq Vlss (KS ?_))))
 refine Kc ?_ ?_
 ·intro h15
  have g16 := dt h15
  obtain ⟨r17, rfl⟩ := scc (n := r6) aM1
  refine KS ?_
  refine JJ_peek_GSet i_7.toNat 0 rfl rng fun a18 k19 hb20 => ?_
  unfold i64ok at hb20
  refine Fb 8 1 fun _ => ?_
  refine JJ_peek_GSet i_7.toNat 3 rfl rng fun a22 k23 hb24 => ?_
  unfold i64ok at hb24
  refine Fb 8 1 fun _ => ?_
  refine JK_drawK [0, 0, 3, 7, 0, 0, 48, 112, 255, 511] fmix ?_
  refine Dv [] Vm (Dv [] Vm (Dv [4] (Vi sl24 0) (Dv [2] (VldA sh39 0) (Dv [] Vm (Dv [] Vm (Dv [5] (Vi sl24 0) (Dv [0] (VldA sh39 0) ?_)))))))
  refine letv (r1_Same (a.getD i_7.toNat default) (b.getD i_7.toNat default)) fun rv26 hg27 => ?_
  refine Dx [1, 3] [] [1, 2, 0] (fun G => vb rv26) [fun G => SP.fact (True)] (fun G => xC [1, 0] ca25 (fn25 ((a.getD i_7.toNat default)) a18 k19 ((b.getD i_7.toNat default)) a22 k23 pre pre rv26 hg27)) (Dv [] Vnot ?_)
  refine Dn ⟨by kernel_rfl, fun G => ?_⟩
  refine Jw2 [(0, vl aa0 ak0 a), (1, vl ba0 bk0 b), (5, vi i_7), (26, vb (!rv26))] [0, 1, 2, 3, 4, 5] [SP.fact (True)] ?_
  refine Jk [0, 1, 2, 3, 4, 5] ?_
  refine Kc ?_ ?_
  ·intro h28
   have h30 := not_true h28
   refine KS ?_
   refine Oq Va (KS ?_)
   have hR32 := q2 hM8 (.ret false) (by simp only [r10_SameSets_L0, h15, h28, h30, hg27, cs4])
   have hq := q4 hrr false (by simp only [r10_SameSets, h3, h15, h28, h30, hg27, hR32, cs4]); subst hq
   exact Kr () rfl (.tmp rfl .nil) [] trivial
  intro h28
  have h34 := not_false h28
  refine KS ?_
  refine Oq Vm (Oq Vadd (Oq Va (KS ?_)))
  exact Kg (r17, (i_7 + 1)) [4, 5] ⟨(q3 hM8 (by simp only [r10_SameSets_L0, h15, h28, h34, hg27, cs4])), aM1, aM1, aM1, aM1⟩
 intro h15
 have g36 := df h15
 obtain rfl : r6 = 0 := by omega
 refine Ke ?_
 have hR37 := q2 hM8 (.brk ()) (by simp only [r10_SameSets_L0, h15, cs4])
 refine KS ?_
 refine Oq Va (KS ?_)
 have hq := q4 hrr true (by simp only [r10_SameSets, h3, h15, hR37, cs4]); subst hq
 exact Kr () rfl (.tmp rfl .nil) [] trivial
theorem fn15 (a : GState) (aa1 : Option Addr) (ak1 : Nat) (aa2 : Option Addr) (ak2 : Nat) (aa5 : Option Addr) (ak5 : Nat) (aa6 : Option Addr) (ak6 : Nat) (b : GState) (ba1 : Option Addr) (bk1 : Nat) (ba2 : Option Addr) (bk2 : Nat) (ba5 : Option Addr) (bk5 : Nat) (ba6 : Option Addr) (bk6 : Nat) (ha_0 : i64ok a.Phase) (ha_3 : i64ok a.At) (ha_4 : i64ok a.Edge) (ha_7 : i64ok a.Steps) (hb_0 : i64ok b.Phase) (hb_3 : i64ok b.At) (hb_4 : i64ok b.Edge) (hb_7 : i64ok b.Steps) (rr : Bool) (hrr : r14_SameState a b = rr) : FT Tryz.prog 15 #[.agg #[vi a.Phase, vl aa1 ak1 a.Cone, vl aa2 ak2 a.Leaf, vi a.At, vi a.Edge, vl aa5 ak5 a.Values, vl aa6 ak6 a.Queue, vi a.Steps], .agg #[vi b.Phase, vl ba1 bk1 b.Cone, vl ba2 bk2 b.Leaf, vi b.At, vi b.Edge, vl ba5 bk5 b.Values, vl ba6 bk6 b.Queue, vi b.Steps]] [S aa1 ak1 a.Cone, S aa2 ak2 a.Leaf, S aa5 ak5 a.Values, S aa6 ak6 a.Queue, S ba1 bk1 b.Cone, S ba2 bk2 b.Leaf, S ba5 bk5 b.Values, S ba6 bk6 b.Queue] (fun g : Unit => True) (fun g => vb rr) (fun g => []) := by
 refine FTi Tryz.func15 fun w0 M0 F0 => ?_
 unfold i64ok at ha_0 ha_3 ha_4 ha_7 hb_0 hb_3 hb_4 hb_7
 refine Fb 8 0 fun _ => Fo 0 fun ho2 => Fb 1 1 fun _ => Fb 32 2 fun _ => Fb 8 3 fun _ => Fo 3 fun ho6 => Fb 8 4 fun _ => Fo 4 fun ho8 => ?_
 refine Fb 1 5 fun _ => Fb 32 6 fun _ => Fb 8 7 fun _ => Fo 7 fun ho12 => KS ?_
 refine Oa (Ab [vi a.Phase, vl aa1 ak1 a.Cone, vl aa2 ak2 a.Leaf, vi a.At, vi a.Edge, vl aa5 ak5 a.Values, vl aa6 ak6 a.Queue, vi a.Steps]) fun p13 => Oa (Ab [vi b.Phase, vl ba1 bk1 b.Cone, vl ba2 bk2 b.Leaf, vi b.At, vi b.Edge, vl ba5 bk5 b.Values, vl ba6 bk6 b.Queue, vi b.Steps]) fun p14 => Oq Va (KS ?_)
 refine Oq (Vfa fo26_0 1) (Oq (VldF sh3 1) (Oq (Vfa fo26_0 0) (Oq (VldF sh3 0) (Oq Vneq (Oq Vm ?_)))))
 refine Js 11 ?_ ?_
 ·intro h15
  have g16 := ne_of_bne h15
  refine Osk (Osk (Osk (Osk (Osk (Osk (Oq Vpt (Oq Vm (Osk (Osk ?_)))))))))
  refine Osk (Osk (Osk (Oq Vpt (Oq Vm (Osk (Osk (Osk (Osk (Osk ?_)))))))))
  refine Oq Vpt (Oq Vm (Osk (Osk (Osk (Osk (Osk (Osk (Oq Vpt (Oq Vm ?_)))))))))
  refine Osk (Osk (Osk (Osk (Osk (Osk (Oq Vpt (Oq Vm (Osk (Osk ?_)))))))))
  refine Osk (Osk (Osk (Oq Vpt (Oq Vm (Osk (Osk (Osk (Osk (Osk ?_)))))))))
  refine Osk (Osk (Oq Vpt (KS ?_)))
  refine Kt (KS ?_)
  refine Oq Va (KS ?_)
  have hq := q4 hrr false (by simp only [r14_SameState, h15, cs4]); subst hq
  exact Kr () rfl (.tmp rfl .nil) [] trivial
 intro h15
 have g17 := eq_of_bne_false h15
 refine Oq (Vfa fo26_1 1) (Oq (VldF sh22 1) (Oq (Vfa fo26_1 0) (Oq (VldF sh22 0) ?_)))
 refine letv (r7_Ints a.Cone b.Cone) fun rv18 hg19 => ?_
 have hc20 := fn36 a.Cone aa1 ak1 b.Cone ba1 bk1 rv18 hg19
 refine Oc [2, 6] ca36 hc20 ?_
 rintro - -
 refine Oq Vnot (Oq Vpf (Oq Vm ?_))
 refine Js 19 ?_ ?_
 ·intro h21
  have h23 := not_true h21
  refine Osk (Osk (Osk (Osk (Osk (Oq Vpt (Oq Vm (Osk (Osk (Osk ?_)))))))))
  refine Osk (Osk (Oq Vpt (Oq Vm (Osk (Osk (Osk (Osk (Osk (Osk ?_)))))))))
  refine Oq Vpt (Oq Vm (Osk (Osk (Osk (Osk (Osk (Osk (Oq Vpt (Oq Vm ?_)))))))))
  refine Osk (Osk (Osk (Osk (Osk (Oq Vpt (Oq Vm (Osk (Osk (Osk ?_)))))))))
  refine Osk (Osk (Osk (Osk (Oq Vpt (KS ?_)))))
  refine Kt (KS ?_)
  refine Oq Va (KS ?_)
  have hq := q4 hrr false (by simp only [r14_SameState, h15, h21, h23, hg19, cs4]); subst hq
  exact Kr () rfl (.tmp rfl .nil) [] trivial
 intro h21
 have h26 := not_false h21
 refine Oq (Vfa fo26_3 1) (Oq (VldF sh3 1) (Oq (Vfa fo26_3 0) (Oq (VldF sh3 0) (Oq Vneq (Oq Vpf (Oq Vm ?_))))))
 refine Js 26 ?_ ?_
 ·intro h28
  have g29 := ne_of_bne h28
  refine Osk (Osk (Osk (Osk (Osk (Oq Vpt (Oq Vm (Osk (Osk (Osk ?_)))))))))
  refine Osk (Osk (Osk (Oq Vpt (Oq Vm (Osk (Osk (Osk (Osk (Osk ?_)))))))))
  refine Osk (Oq Vpt (Oq Vm (Osk (Osk (Osk (Osk (Osk (Oq Vpt (Oq Vm ?_)))))))))
  refine Osk (Osk (Osk (Osk (Osk (Osk (Osk (Oq Vpt (KS ?_))))))))
  refine Kt (KS ?_)
  refine Oq Va (KS ?_)
  have hq := q4 hrr false (by simp only [r14_SameState, h15, h21, h26, h28, hg19, cs4]); subst hq
  exact Kr () rfl (.tmp rfl .nil) [] trivial
 intro h28
 have g30 := eq_of_bne_false h28
 refine Oq (Vfa fo26_4 1) (Oq (VldF sh3 1) (Oq (Vfa fo26_4 0) (Oq (VldF sh3 0) (Oq Vneq (Oq Vpf (Oq Vm ?_))))))
 refine Js 33 ?_ ?_
 ·intro h31
  have g32 := ne_of_bne h31
  refine Osk (Osk (Osk (Osk (Osk (Osk (Oq Vpt (Oq Vm (Osk (Osk ?_)))))))))
  refine Osk (Osk (Osk (Osk (Oq Vpt (Oq Vm (Osk (Osk (Osk (Osk ?_)))))))))
  refine Osk (Oq Vpt (Oq Vm (Osk (Osk (Osk (Osk (Osk (Osk (Osk ?_)))))))))
  refine Oq Vpt (KS ?_)
  refine Kt (KS ?_)
  refine Oq Va (KS ?_)
  have hq := q4 hrr false (by simp only [r14_SameState, h15, h21, h26, h28, h31, hg19, cs4]); subst hq
  exact Kr () rfl (.tmp rfl .nil) [] trivial
 intro h31
 have g33 := eq_of_bne_false h31
 refine Oq (Vfa fo26_5 1) (Oq (VldF sh24 1) (Oq (Vfa fo26_5 0) (Oq (VldF sh24 0) ?_)))
 refine letv (r10_SameSets a.Values b.Values) fun rv34 hg35 => ?_
 have hc36 := fn37 a.Values aa5 ak5 b.Values ba5 bk5 rv34 hg35
 refine Oc [4, 8] ca37 hc36 ?_
 rintro - -
 refine Oq Vnot (Oq Vpf (Oq Vm ?_))
 refine Js 41 ?_ ?_
 ·intro h37
  have h39 := not_true h37
  refine Osk (Osk (Osk (Osk (Osk (Osk (Oq Vpt (Oq Vm (Osk (Osk ?_)))))))))
  refine Osk (Osk (Osk (Oq Vpt (Oq Vm (Osk (Osk (Osk (Osk (Osk ?_)))))))))
  refine Osk (Osk (Oq Vpt (KS ?_)))
  refine Kt (KS ?_)
  refine Oq Va (KS ?_)
  have hq := q4 hrr false (by simp only [r14_SameState, h15, h21, h26, h28, h31, h37, h39, hg19, hg35, cs4]); subst hq
  exact Kr () rfl (.tmp rfl .nil) [] trivial
 intro h37
 have h42 := not_false h37
 refine Oq (Vfa fo26_6 1) (Oq (VldF sh22 1) (Oq (Vfa fo26_6 0) (Oq (VldF sh22 0) ?_)))
 refine letv (r7_Ints a.Queue b.Queue) fun rv44 hg45 => ?_
 have hc46 := fn36 a.Queue aa6 ak6 b.Queue ba6 bk6 rv44 hg45
 refine Oc [5, 9] ca36 hc46 ?_
 rintro - -
 refine Oq Vnot (Oq Vpf (Oq Vm ?_))
 refine Js 49 ?_ ?_
 ·intro h47
  have h49 := not_true h47
  refine Osk (Osk (Osk (Osk (Osk (Oq Vpt (Oq Vm (Osk (Osk (Osk ?_)))))))))
  refine Osk (Osk (Osk (Osk (Oq Vpt (KS ?_)))))
  refine Kt (KS ?_)
  refine Oq Va (KS ?_)
  have hq := q4 hrr false (by simp only [r14_SameState, h15, h21, h26, h28, h31, h37, h42, h47, h49, hg19, hg35, hg45, cs4]); subst hq
  exact Kr () rfl (.tmp rfl .nil) [] trivial
 intro h47
 have h52 := not_false h47
 refine Oq (Vfa fo26_7 1) (Oq (VldF sh3 1) (Oq (Vfa fo26_7 0) (Oq (VldF sh3 0) (Oq Vneq (Oq Vpf (Oq Vm ?_))))))
 refine Js 56 ?_ ?_
 ·intro h54
  have g55 := ne_of_bne h54
  refine Osk (Osk (Osk (Osk (Osk (Osk (Osk (Oq Vpt (KS ?_))))))))
  refine Kt (KS ?_)
  refine Oq Va (KS ?_)
  have hq := q4 hrr false (by simp only [r14_SameState, h15, h21, h26, h28, h31, h37, h42, h47, h52, h54, hg19, hg35, hg45, cs4]); subst hq
  exact Kr () rfl (.tmp rfl .nil) [] trivial
 intro h54
 have g56 := eq_of_bne_false h54
 refine Oq (Vfa fo26_2 1) (Oq (VldF sh23 1) (Oq (Vlen sl23) (Oq (Vfa fo26_2 0) (Oq (VldF sh23 0) (Oq (Vlen sl23) (Oq Vneq (Oq Vpf (KS ?_))))))))
 refine Kc ?_ ?_
 ·intro h57
  have g58 := ne_of_bne h57
  refine KS ?_
  refine Oq Va (KS ?_)
  have hq := q4 hrr false (by simp only [r14_SameState, h15, h21, h26, h28, h31, h37, h42, h47, h52, h54, h57, hg19, hg35, hg45, cs4]); subst hq
  exact Kr () rfl (.tmp rfl .nil) [] trivial
 intro h57
 have g59 := eq_of_bne_false h57
 refine KS ?_
 refine Oq Va (KS ?_)
 refine Kl (γ := Nat × Int) (fun (r60, i_61) => ⟨[(2, p13), (3, p14), (5, vi i_61)], [pv p14 [vi b.Phase, vl ba1 bk1 b.Cone, vl ba2 bk2 b.Leaf, vi b.At, vi b.Edge, vl ba5 bk5 b.Values, vl ba6 bk6 b.Queue, vi b.Steps], pv p13 [vi a.Phase, vl aa1 ak1 a.Cone, vl aa2 ak2 a.Leaf, vi a.At, vi a.Edge, vl aa5 ak5 a.Values, vl aa6 ak6 a.Queue, vi a.Steps], S aa1 ak1 a.Cone, S aa2 ak2 a.Leaf, S aa5 ak5 a.Values, S aa6 ak6 a.Queue, S ba1 bk1 b.Cone, S ba2 bk2 b.Leaf, S ba5 bk5 b.Values, S ba6 bk6 b.Queue], r14_SameState_L0 a b r60 i_61 = r14_SameState_L0 a b (((a.Leaf.length : Int) - 0).toNat) 0 ∧ r60 = ((a.Leaf.length : Int) - i_61).toNat ∧ (0 : Int) ≤ i_61 ∧ i_61 ≤ (a.Leaf.length : Int) ∧ (-9223372036854775808 ≤ i_61 ∧ i_61 ≤ 9223372036854775807), r60⟩) (((a.Leaf.length : Int) - 0).toNat, 0) [0, 1, 2, 3, 4, 5, 6, 7, 8, 9] ⟨rfl, rfl, aM1, aM1, aM1⟩ ?_
 rintro ⟨r60, i_61⟩ ⟨hM62, hr63, hi64, hi65, hk66⟩
 refine JJ_nx fun _ _ hL hA => ?_; dsimp only at hL hA; subst hL hA
 refine Fb 8 2 fun _ => Fo 2 fun ho68 => Fb 1 3 fun _ => Fb 32 4 fun _ => Fb 8 5 fun _ => Fo 5 fun ho72 => Fb 8 6 fun _ => Fo 6 fun ho74 => ?_
 refine Fb 1 7 fun _ => Fb 32 8 fun _ => Fb 8 9 fun _ => Fo 9 fun ho78 => KS ?_
 refine Oq Vm (Oq (Vfa fo26_2 1) (Oq (VldF sh23 1) (Oq (Vlen sl23) (Oq Vlss (KS ?_)))))
 refine Kc ?_ ?_
 ·intro h79
  have g80 := dt h79
  obtain ⟨r81, rfl⟩ := scc (n := r60) aM1
  refine KS ?_
  refine Kq [0, 1, 0, 7, 15, 0, 32, 0, 224, 480, 1023] fmix ?_
  refine Qv [1] (Vfa fo26_2 0) (Qv [1] (VldF sh23 0) (Qv [] Vm (Qv [3] (Vi sl23 0) (Qv [3] (VldB sh4 0) (Qv [0] (Vfa fo26_2 0) (Qv [0] (VldF sh23 0) (Qv [] Vm (Qv [7] (Vi sl23 0) (Qv [7] (VldB sh4 0) ?_)))))))))
  refine Qv [] (Vnb un4) ?_
  refine Qn ⟨by kernel_rfl, ?_⟩
  refine Kc ?_ ?_
  ·intro h82
   refine KS ?_
   refine Oq Va (KS ?_)
   have hR84 := q2 hM62 (.ret false) (by simp only [r14_SameState_L0, h79, h82, cs4])
   have hq := q4 hrr false (by simp only [r14_SameState, h15, h21, h26, h28, h31, h37, h42, h47, h52, h54, h57, h79, h82, hg19, hg35, hg45, hR84, cs4]); subst hq
   exact Kr () rfl (.tmp rfl .nil) [] trivial
  intro h82
  refine KS ?_
  refine Oq Vm (Oq Vadd (Oq Va (KS ?_)))
  exact Kg (r81, (i_61 + 1)) [0, 1, 2, 3, 4, 5, 6, 7, 8, 9] ⟨(q3 hM62 (by simp only [r14_SameState_L0, h79, h82, cs4])), aM1, aM1, aM1, aM1⟩
 intro h79
 have g86 := df h79
 obtain rfl : r60 = 0 := by omega
 refine Ke ?_
 have hR87 := q2 hM62 (.brk ()) (by simp only [r14_SameState_L0, h79, cs4])
 refine KS ?_
 refine Oq Va (KS ?_)
 have hq := q4 hrr true (by simp only [r14_SameState, h15, h21, h26, h28, h31, h37, h42, h47, h52, h54, h57, h79, hg19, hg35, hg45, hR87, cs4]); subst hq
 exact Kr () rfl (.tmp rfl .nil) [] trivial
theorem fn16 (b : List UInt8) (ba0 : Option Addr) (bk0 : Nat) (hb0 : b.length ≤ 1000000) (rr : Bool) (hrr : w18_decodes b = rr) : FT Tryz.prog 16 #[vl ba0 bk0 b] [S ba0 bk0 b] (fun g : Unit => True) (fun g => vb rr) (fun g => []) := by
 refine FTi Tryz.func16 fun w0 M0 F0 => Fb 1 0 fun _ => ?_
 refine KS ?_
 refine Oq Va (KS ?_)
 refine Oq Vm ?_
 refine letv (resume_Decode b) fun rv6 hg7 => ?_
 have hc8 := fn14 b ba0 bk0 pre rv6 hg7
 refine Oc [0] ca14 hc8 ?_
 rintro ⟨c2, c3, c4, c5⟩ ⟨he9, he10, he11, he12, he13⟩
 unfold i64ok at he9 he10 he11 he12 he13
 refine Jo 0 ?_; rintro a14 k15 rfl
 refine Fb 8 0 fun _ => Fo 0 fun ho17 => ?_
 refine Jo 1 ?_; rintro a18 k19 rfl
 refine Fb 1 1 fun _ => ?_
 refine Jo 2 ?_; rintro a21 k22 rfl
 refine Fb 32 2 fun _ => ?_
 refine Jo 3 ?_; rintro a24 k25 rfl
 refine Fb 8 3 fun _ => Fo 3 fun ho27 => ?_
 refine Oq Vm (Oq Vx (Oq Vx (Oa (Al ze26 [vi 0, .slice none 0 0, .slice none 0 0, vi 0, vi 0, .slice none 0 0, .slice none 0 0, vi 0]) fun p28 => Ost (Scl [0] sh26 [vi rv6.1.Phase, vl a14 k15 rv6.1.Cone, vl a18 k19 rv6.1.Leaf, vi rv6.1.At, vi rv6.1.Edge, vl a21 k22 rv6.1.Values, vl a24 k25 rv6.1.Queue, vi rv6.1.Steps]) (Oq Va (KS ?_)))))
 refine Oq Vm (Oq Veql (KS ?_))
 refine Kc ?_ ?_
 ·intro h29
  have g30 := eq_of_beq h29
  refine KS ?_
  refine Oq (VldA sh26 0) ?_
  refine letv (r14_EncodeState rv6.1) fun rv32 hg33 => ?_
  have hc34 := fn13 rv6.1 a14 k15 a18 k19 a21 k22 a24 k25 pre pre pre pre rv32 hg33
  refine Oc [1, 2, 3, 4] ca13 hc34 ?_
  rintro c31 ⟨he35, he36⟩
  unfold i64ok at he35
  refine Jo 0 ?_; rintro a37 k38 rfl
  refine Fb 1 0 fun _ => ?_
  refine Oq Vm (Oq Vx (Oq Vx (Oq Va (Oq Va (KS ?_)))))
  refine Oq Vm (Oq Veql (Oq Vm ?_))
  refine Js 21 ?_ ?_
  ·intro h40
   have g41 := eq_of_beq h40
   refine Oq Vm ?_
   refine Jl [0] (Ent.freeze _ _) ?_
   refine Oq (VbS0 (xs := rv32.1) un44 un5 un9 0) (Oq Vm (Oq (VbS0 (xs := b) un44 un5 un9 6) (Oq (VeqS (l := (Str.mk rv32.1)) (m := (Str.mk b))) (Oq Vpt (Oq Va (KS ?_))))))
   have hq := q4 hrr ((Str.mk rv32.1) == (Str.mk b)) (by simp only [w18_decodes, h29, h40, hg7, hg33, cs4]); subst hq
   exact Kr () rfl (.tmp rfl .nil) [] trivial
  intro h40
  have g42 := ne_of_beq_false h40
  refine Osk (Osk (Osk (Osk (Osk (Oq Vpf (Oq Va (KS ?_)))))))
  have hq := q4 hrr false (by simp only [w18_decodes, h29, h40, hg7, hg33, cs4]); subst hq
  exact Kr () rfl (.tmp rfl .nil) [] trivial
 intro h29
 have g43 := ne_of_beq_false h29
 refine KS ?_
 refine Oq (Vfa fo26_1 0) (Oq (VldF sh22 0) (Oq (Vlen sl22) (Oq Vgtr (Oq Vm ?_))))
 refine Js 32 ?_ ?_
 ·intro h44
  have g45 := dt h44
  refine Osk (Osk (Osk (Oq Vpt (KS ?_))))
  refine Kt (KS ?_)
  refine Oq Va (KS ?_)
  have hq := q4 hrr false (by simp only [w18_decodes, h29, h44, hg7, cs4]); subst hq
  exact Kr () rfl (.tmp rfl .nil) [] trivial
 intro h44
 have g46 := df h44
 refine Oq (Vfa fo26_0 0) (Oq (VldF sh3 0) (Oq Vneq (Oq Vpf (KS ?_))))
 refine Kc ?_ ?_
 ·intro h47
  have g48 := ne_of_bne h47
  refine KS ?_
  refine Oq Va (KS ?_)
  have hq := q4 hrr false (by simp only [w18_decodes, h29, h44, h47, hg7, cs4]); subst hq
  exact Kr () rfl (.tmp rfl .nil) [] trivial
 intro h47
 have g49 := eq_of_bne_false h47
 refine KS ?_
 refine Oq Vm (Oq (Vlen sl44) (Oq Vlss (KS ?_)))
 refine Kc ?_ ?_
 ·intro h50
  have g51 := dt h50
  refine KS ?_
  refine Oq Vm (Oq Veql (Oq Va (KS ?_)))
  have hq := q4 hrr (rv6.2 == 12) (by simp only [w18_decodes, h29, h44, h47, h50, hg7, cs4]); subst hq
  exact Kr () rfl (.tmp rfl .nil) [] trivial
 intro h50
 have g52 := df h50
 refine KS ?_
 refine JK_drawK [0, 0, 2, 6, 15, 31, 63, 0, 128, 511] fmix ?_
 refine Dv [] Vm (Dv [] Vm (Dv [] (Vlen sl44) (Dv [] Vsub (Dx [5] [] [1, 0] (fun G => (G.g 4 0)) [fun G => sl (G.g 4 0) ((b.take ((((b.length : Int) - 4) : Int).toNat)).drop 0)] (fun G => xA (Asl [0] sl44 0 ((((b.length : Int) - 4) : Int).toNat))) ?_))))
 refine letv (r14_Sealed ((b.take ((((b.length : Int) - 4) : Int).toNat)).drop 0)) fun rv58 hg59 => ?_
 refine Dx [6] [] [2, 0, 1] (fun G => (G.g 5 0)) [fun G => SP.fact ((rv58.length = ((b.take ((((b.length : Int) - 4) : Int).toNat)).drop 0).length + 4)), fun G => os (G.g 5 0) rv58] (fun G => xD [0] ca18 rfl rfl rfl (FT_open (γ := Value) (I := fun g => (rv58.length = ((b.take ((((b.length : Int) - 4) : Int).toNat)).drop 0).length + 4)) (V := fun g => g) (B := fun g => [os g rv58]) (R := sl (G.g 4 0) ((b.take ((((b.length : Int) - 4) : Int).toNat)).drop 0)) sl_slice (fun aq54 kq55 eq56 => by rw [eq56]; exact FT_ent (Ent.take (is := [0]) rfl) (fn18 (((b.take ((((b.length : Int) - 4) : Int).toNat)).drop 0)) aq54 kq55 pre rv58 hg59)))) (Dx [8] [8] [0] (fun G => .string (bs (Str.mk rv58))) [fun G => sl (G.g 5 0) rv58] (fun G => xp [0] rfl (Ent.freeze _ _) (xV (VbS (xs := rv58) un44 un5 un9 0 (hl := (by exact seal_pos (by assumption)))))) (Dv [] Vm (Dv [5] (VbS0 (xs := b) un44 un5 un9 0) (Dv [] (VneS (l := (Str.mk rv58)) (m := (Str.mk b))) ?_))))
 refine Dn ⟨by kernel_rfl, fun G => ?_⟩
 refine Jw2 [(4, vi rv6.2), (51, vb ((Str.mk rv58) != (Str.mk b)))] [0, 1, 2, 3, 4, 5] [sl (G.g 4 0) ((b.take ((((b.length : Int) - 4) : Int).toNat)).drop 0), SP.fact ((rv58.length = ((b.take ((((b.length : Int) - 4) : Int).toNat)).drop 0).length + 4)), sl (G.g 5 0) rv58] ?_
 generalize G.g 4 0 = c53, G.g 5 0 = c57
 refine Jf 7 rfl ?_; rintro he60
 refine Jk [0, 0, 1, 2, 3, 4, 5, 7] ?_
 refine Jo 6 ?_; rintro a61 k62 rfl
 refine Fb 1 6 fun _ => ?_
 refine Jo 7 ?_; rintro a64 k65 rfl
 refine Fb 1 7 fun _ => ?_
 refine Kc ?_ ?_
 ·intro h67
  have g68 := ne_of_bne h67
  refine KS ?_
  refine Oq Vm (Oq Veql (Oq Va (KS ?_)))
  have hq := q4 hrr (rv6.2 == 14) (by simp only [w18_decodes, h29, h44, h47, h50, h67, hg7, hg59, cs4]); subst hq
  exact Kr () rfl (.tmp rfl .nil) [] trivial
 intro h67
 have g69 := eq_of_bne_false h67
 refine KS ?_
 refine Oq Vm (Oq Veql (Oq Va (KS ?_)))
 have hq := q4 hrr (rv6.2 == 13) (by simp only [w18_decodes, h29, h44, h47, h50, h67, hg7, hg59, cs4]); subst hq
 exact Kr () rfl (.tmp rfl .nil) [] trivial
theorem fn28 (v : Int) (n : Int) (hv_0 : i64ok v) (hn_0 : i64ok n) (hn1 : 1 ≤ n) (rr : Int) (hrr : g_Mod v n = rr) : FT Tryz.prog 28 #[vi v, vi n] [] (fun g : Unit => i64ok rr ∧ (0 ≤ rr ∧ rr < n)) (fun g => vi rr) (fun g => []) := by
 refine FTi Tryz.func28 fun w0 M0 F0 => ?_
 unfold i64ok at hv_0 hn_0
 have hm := mod_range v n aM1
 refine KS ?_
 refine Oq Va (KS ?_)
 refine Oq Vm (Oq (VcU un3 un69) (Oq Vm (Oq (VcU un3 un69) (Oq (VremU (ofInt_ne n aM1)) (Oq (VcN un69 un3 (h := (mod_le v n aM1))) (Oq Va (KS ?_)))))))
 have hq := q4 hrr (((BitVec.ofInt 64 v) % (BitVec.ofInt 64 n)).toNat : Int) (by simp only [g_Mod, cs4]); subst hq
 exact Kr () rfl (.tmp rfl .nil) [] en
theorem fn9 (tP : Value) (ta : Option Addr) (tk : Nat) (tT : List Int) (tI : Int) (n : Int) (htI : 0 ≤ tI ∧ tI ≤ (tT.length : Int)) (hn_0 : i64ok n) (rr : Int × Int) (hrr : tp_Next tT tI n = rr) : FT Tryz.prog 9 #[tP, vi n] [Cl tP [vl ta tk tT, vi tI], S ta tk tT] (fun g : Unit => i64ok rr.1 ∧ (0 ≤ rr.2 ∧ rr.2 ≤ (tT.length : Int)) ∧ (0 ≤ rr.1 ∧ (rr.1 < n ∨ rr.1 = 0))) (fun g => vi rr.1) (fun g => [Cl tP [vl ta tk tT, vi rr.2]]) := by
 refine FTi Tryz.func9 fun w0 M0 F0 => ?_
 unfold i64ok at hn_0
 refine Fb 8 1 fun _ => Fo 1 fun ho2 => KS ?_
 refine Oq Va (KS ?_)
 refine Jp 0 fun hp3 => ?_
 refine Kq [0, 1, 3, 7, 15, 31, 63, 7, 135, 391, 903, 1927, 4095, 8191] fmix ?_
 refine Qv [] Vm (Qv [] Vleq ?_)
 refine bool_split (decide (n ≤ 1)) ?_ ?_
 ·intro h4
  have g5 := dt h4
  refine Qb h4 [] Vm (Qs (Qs (Qs (Qs (Qs (Qs (Qs (Qs (Qs ?_)))))))))
  refine Qs (Qv [] Vpt ?_)
  refine Qn ⟨by kernel_rfl, ?_⟩
  refine Kt (KS ?_)
  refine Oq Va (KS ?_)
  have hq := q4 hrr (0, tI) (by simp only [tp_Next, h4, cs4]); subst hq
  exact Kr () rfl (.tmp rfl .nil) [1] en
 intro h4
 have g6 := df h4
 refine Qb h4 [] Vm (Qv [] Vm (Qv [0] (Vn 0) (Qv [0] (Vfa fo65_1 0) (Qv [1] (VldF sh3 0) (Qv [] Vm (Qv [0] (Vn 0) (Qv [0] (Vfa fo65_0 0) (Qv [1] (VldF sh22 0) (Qv [] (Vlen sl22) ?_)))))))))
 refine Qv [] Vgeq (Qv [] Vpf ?_)
 refine Qn ⟨by kernel_rfl, ?_⟩
 refine Kc ?_ ?_
 ·intro h7
  have g8 := dt h7
  refine KS ?_
  refine Oq Va (KS ?_)
  have hq := q4 hrr (0, tI) (by simp only [tp_Next, h4, h7, cs4]); subst hq
  exact Kr () rfl (.tmp rfl .nil) [1] en
 intro h7
 have g9 := df h7
 refine KS ?_
 refine Oq Vm (Oq (Vn 1) (Oq (Vfa fo65_1 1) (Oq (VldF sh3 1) (Oq Vadd (Oq (Vn 1) (Oq (Vfa fo65_1 1) (Ost (SclF [1] sh3 [vl ta tk tT, vi (tI + 1)]) (KS ?_))))))))
 refine JK_drawK [0, 1, 3, 7, 0, 16, 48, 112, 240, 511, 1023, 0, 4095, 8191] fmix ?_
 refine Dv [] Vm (Dv [1] (Vn 0) (Dv [1] (Vfa fo65_0 0) (Dv [0] (VldF sh22 0) (Dv [] Vm (Dv [1] (Vn 0) (Dv [1] (Vfa fo65_1 0) (Dv [0] (VldF sh3 0) (Dv [] Vsub (Dv [2] (Vi sl22 0) ?_)))))))))
 have hb10 := ok1 (i := (((tI + 1) - 1) : Int).toNat) ho2 rng
 refine Dv [2] (VldI sh3 0) (Dv [] Vm ?_)
 refine letv (g_Mod (tT.getD (((tI + 1) - 1) : Int).toNat 0) n) fun rv11 hg12 => ?_
 refine Dx [] [] [0] (fun G => vi rv11) [fun G => SP.fact (i64ok rv11 ∧ (0 ≤ rv11 ∧ rv11 < n))] (fun G => xC [] ca28 (fn28 ((tT.getD (((tI + 1) - 1) : Int).toNat 0)) n pre pre pre rv11 hg12)) (Dv [] Va ?_)
 refine Dn ⟨by kernel_rfl, fun G => ?_⟩
 refine Jw2 [(4, vi rv11)] [0, 1, 2] [SP.fact (i64ok rv11 ∧ (0 ≤ rv11 ∧ rv11 < n))] ?_
 refine Jf 3 rfl ?_; rintro ⟨he13, he14⟩
 unfold i64ok at he13
 refine Jk [0, 1] ?_
 have hq := q4 hrr (rv11, (tI + 1)) (by simp only [tp_Next, h4, h7, hg12, cs4]); subst hq
 exact Kr () rfl (.tmp rfl .nil) [0] en
end Go.SL.G
