/- Part 3 of the walks: mirrors, plain laws and walks used by the last text of this claim. -/
import Derived.Test.YtaecnbagiemkbaaGreatDoorW2
import Derived.Test.YtaecnbagiemkbaaGreatDoorProg
set_option linter.unusedVariables false
set_option linter.unusedSimpArgs false
namespace Go.SL.G
open Go Go.SL Go.Proofs
set_option maxHeartbeats 20000000
set_option maxRecDepth 100000
theorem sc_L0 (p : GProgram) (l : List GNode) (i : Int) : ∀ (r k0 : Nat) (out : List Int), k0 + r = l.length → ∀ k : Int, k ∈ r7_successors_L0 p l i r out (k0 : Int) ↔ k ∈ out ∨ (((k0 : Int) ≤ k ∧ k < (l.length : Int)) ∧ (l.getD k.toNat default).Kind = 4 ∧ (stO p (l.getD k.toNat default)).Targets.getD 0 default = (p.Funcs.getD (l.getD i.toNat default).Func.toNat default).Name)
 | 0, k0, out, h, k => by
  rw [r7_successors_L0]
  exact ⟨.inl, fun hh => hh.resolve_right (fun h => by omega)⟩
 | r + 1, k0, out, h, k => by
  rw [r7_successors_L0, show (k0 : Int) + 1 = ((k0 + 1 : Nat) : Int) by omega]
  have ih := fun out => sc_L0 p l i r (k0 + 1) out (by omega) k
  have up : ∀ Q : Int → Prop, ((((k0 + 1 : Nat) : Int) ≤ k ∧ k < (l.length : Int)) ∧ Q k) ∨ (k = (k0 : Int) ∧ Q (k0 : Int)) ↔ ((k0 : Int) ≤ k ∧ k < (l.length : Int)) ∧ Q k := fun Q => by
   constructor
   ·rintro (⟨h1, h2⟩ | ⟨rfl, h2⟩)
    ·exact ⟨by omega, h2⟩
    ·exact ⟨by omega, h2⟩
   ·rintro ⟨h1, h2⟩
    by_cases e : k = (k0 : Int)
    ·exact .inr ⟨e, e ▸ h2⟩
    ·exact .inl ⟨by omega, h2⟩
  have up := up (fun k => (l.getD k.toNat default).Kind = 4 ∧ (stO p (l.getD k.toNat default)).Targets.getD 0 default = (p.Funcs.getD (l.getD i.toNat default).Func.toNat default).Name)
  try dsimp only at up
  rw [← up]
  cases c1 : (l.getD (k0 : Int).toNat default).Kind == 4
  ·rw [cond_false, ih]
   have c1' : ¬ (l.getD (k0 : Int).toNat default).Kind = 4 := beq_eq_false_iff_ne.1 c1
   exact ⟨fun h => h.elim .inl (fun h => .inr (.inl h)), fun h => h.elim .inl (fun h => h.elim .inr (fun h => absurd h.2.1 c1'))⟩
  ·rw [cond_true]
   have c1' := eq_of_beq c1
   change k ∈ (bif ((stO p (l.getD (k0 : Int).toNat default)).Targets.getD 0 default == (p.Funcs.getD (l.getD i.toNat default).Func.toNat default).Name) then _ else _) ↔ _
   cases c2 : (stO p (l.getD (k0 : Int).toNat default)).Targets.getD 0 default == (p.Funcs.getD (l.getD i.toNat default).Func.toNat default).Name
   ·rw [cond_false, ih]
    have c2' := beq_eq_false_iff_ne.1 c2
    exact ⟨fun h => h.elim .inl (fun h => .inr (.inl h)), fun h => h.elim .inl (fun h => h.elim .inr (fun h => absurd h.2.2 c2'))⟩
   ·rw [cond_true, ih, List.mem_append, List.mem_singleton]
    have c2' := eq_of_beq c2
    constructor
    ·rintro ((h | h) | h)
     ·exact .inl h
     ·exact .inr (.inr ⟨h, c1', c2'⟩)
     ·exact .inr (.inl h)
    ·rintro (h | h | h)
     ·exact .inl (.inl h)
     ·exact .inr h
     ·exact .inl (.inr h.1)
theorem sc_L1 (p : GProgram) (l : List GNode) (i : Int) : ∀ (r : Nat) (t : Int) (out : List Int), 0 ≤ t → t + (r : Int) = ((stO p (l.getD i.toNat default)).Targets.length : Int) → r7_successors_L1 p l i r out t = out ++ ((stO p (l.getD i.toNat default)).Targets.drop t.toNat).map fun t => r7_Index l (GNode.mk 3 (l.getD i.toNat default).Func (r4_Place (r4_BlockNames (p.Funcs.getD (l.getD i.toNat default).Func.toNat default)) t) 0)
 | 0, t, out, h0, h1 => by rw [r7_successors_L1, List.drop_of_length_le (by omega)]; simp
 | r + 1, t, out, h0, h1 => by
  rw [r7_successors_L1, getD_dropz h0 (by omega), List.map_cons]
  try dsimp only
  rw [sc_L1 p l i r (t + 1) _ (by omega) (by omega), List.append_assoc]
  rfl
theorem suc3 {p : GProgram} {l : List GNode} {i : Int} (h3 : (l.getD i.toNat default).Kind = 3) : r7_successors p l i = (nxt p (l.getD i.toNat default) (stO p (l.getD i.toNat default))).map (r7_Index l) := by
 have hL := sc_L1 p l i ((((((stO p (l.getD i.toNat default)).Targets.length : Nat) : Int) : Int) - 0).toNat) 0 [] (by omega) (by omega)
 rw [show (0 : Int).toNat = 0 from rfl, List.drop_zero, List.nil_append] at hL
 have e : ∀ {x y : List Int} {c : Bool}, (bif c then x else y) = if c = true then x else y := fun {x y c} => by cases c <;> rfl
 unfold r7_successors
 dsimp only
 change (bif (l.getD i.toNat default).Kind == 1 then _ else bif (l.getD i.toNat default).Kind == 2 then _ else bif (stO p (l.getD i.toNat default)).Op == 9 then _ else bif (stO p (l.getD i.toNat default)).Op == 3 then (bif (l.getD i.toNat default).Kind == 3 then [(r7_ends l (r7_function p ((stO p (l.getD i.toNat default)).Targets.getD 0 default))).1] else _) else bif (stO p (l.getD i.toNat default)).Op == 7 then r7_successors_L1 p l i ((((((stO p (l.getD i.toNat default)).Targets.length : Nat) : Int) : Int) - 0).toNat) [] 0 else bif (stO p (l.getD i.toNat default)).Op == 8 then r7_successors_L1 p l i ((((((stO p (l.getD i.toNat default)).Targets.length : Nat) : Int) : Int) - 0).toNat) [] 0 else _) = _
 rw [hL, h3, show ((3 : Int) == 1) = false from rfl, show ((3 : Int) == 2) = false from rfl, show ((3 : Int) == 3) = true from rfl, cond_false, cond_false, cond_true, fun_eq]
 unfold nxt r7_ends r7_stmtNode
 generalize stO p (l.getD i.toNat default) = s
 by_cases c9 : s.Op = 9
 ·rw [beq_iff_eq.2 c9, if_neg (by omega), if_pos c9]; rfl
 rw [beq_eq_false_iff_ne.2 c9, cond_false]
 by_cases c3 : s.Op = 3
 ·rw [beq_iff_eq.2 c3, if_neg (by omega), if_neg c9, if_pos c3]; rfl
 rw [beq_eq_false_iff_ne.2 c3, cond_false]
 by_cases c7 : s.Op = 7
 ·rw [beq_iff_eq.2 c7, cond_true, if_pos (.inl c7), List.map_map]; rfl
 rw [beq_eq_false_iff_ne.2 c7, cond_false]
 by_cases c8 : s.Op = 8
 ·rw [beq_iff_eq.2 c8, cond_true, if_pos (.inr c8), List.map_map]; rfl
 rw [beq_eq_false_iff_ne.2 c8, cond_false, if_neg (by omega), if_neg c9, if_neg c3]; rfl
theorem suc4 {p : GProgram} {l : List GNode} {i : Int} (h4 : (l.getD i.toNat default).Kind = 4) (h3 : (stO p (l.getD i.toNat default)).Op = 3) : r7_successors p l i = [r7_Index l (GNode.mk 3 (l.getD i.toNat default).Func (l.getD i.toNat default).Block ((l.getD i.toNat default).Stmt + 1))] := by
 unfold r7_successors
 dsimp only
 change (bif (l.getD i.toNat default).Kind == 1 then _ else bif (l.getD i.toNat default).Kind == 2 then _ else bif (stO p (l.getD i.toNat default)).Op == 9 then _ else bif (stO p (l.getD i.toNat default)).Op == 3 then (bif (l.getD i.toNat default).Kind == 3 then _ else bif (stO p (l.getD i.toNat default)).Op == 7 then _ else bif (stO p (l.getD i.toNat default)).Op == 8 then _ else _) else _) = _
 rw [h4, h3]; rfl
theorem suc1 {p : GProgram} {l : List GNode} {i : Int} (h1 : (l.getD i.toNat default).Kind = 1) : r7_successors p l i = [r7_Index l (GNode.mk 3 (l.getD i.toNat default).Func 0 0)] := by
 unfold r7_successors
 rw [h1]; rfl
theorem suc2 {p : GProgram} {l : List GNode} {i : Int} (h2 : (l.getD i.toNat default).Kind = 2) : r7_successors p l i = r7_successors_L0 p l i (((((l.length : Nat) : Int) : Int) - 0).toNat) [] 0 := by
 unfold r7_successors
 rw [h2]; rfl
theorem suc_iff {p : GProgram} (hc : CkP p) {i k : Int} (hi : 0 ≤ i ∧ i < ((nF 0 p.Funcs).length : Int)) : k ∈ r7_successors p (nF 0 p.Funcs) i ↔ (i, k) ∈ (nF 0 p.Funcs).flatMap (ned (numM (nF 0 p.Funcs)) p) := by
 rw [edge_at hc hi]
 have hnd := nF_nd hc.val
 have hn : (nF 0 p.Funcs).getD i.toNat default ∈ nF 0 p.Funcs := getD_mem (by omega)
 have ix : ∀ {a}, a ∈ nF 0 p.Funcs → r7_Index (nF 0 p.Funcs) a = nmb (numM (nF 0 p.Funcs)) a := fun ha => idx_eq hnd ha
 obtain ⟨r1, r2⟩ := nF_rg hn
 have hk : ((nF 0 p.Funcs).getD i.toNat default).Kind = 1 ∨ ((nF 0 p.Funcs).getD i.toNat default).Kind = 2 ∨ ((nF 0 p.Funcs).getD i.toNat default).Kind = 3 ∨ ((nF 0 p.Funcs).getD i.toNat default).Kind = 4 := by omega
 rcases hk with hk | hk | hk | hk
 ·rw [suc1 hk, List.mem_singleton]
  have hin : ((nF 0 p.Funcs).getD i.toNat default, GNode.mk 3 ((nF 0 p.Funcs).getD i.toNat default).Func 0 0) ∈ nedN p ((nF 0 p.Funcs).getD i.toNat default) := by
   unfold nedN; rw [if_pos hk]; exact List.mem_singleton.2 rfl
  rw [ix (nedN_in hc hn _ hin).2]
  constructor
  ·intro e; exact ⟨_, hn, _, hin, e.symm⟩
  ·rintro ⟨n0, h0, b, hb, e⟩
   rcases nedN_c hb with ⟨-, h2, h3⟩ | ⟨h1, ⟨h2, -⟩ | ⟨-, ⟨h2, -⟩ | ⟨h2, -⟩⟩⟩
   ·rw [← e, h3, h2]
   ·rw [h2, h1] at hk; cases hk
   ·rw [h2] at hk; cases hk
   ·rw [h2] at hk; cases hk
 ·rw [suc2 hk]
  have h0 := sc_L0 p (nF 0 p.Funcs) i (((((nF 0 p.Funcs).length : Nat) : Int) : Int) - 0).toNat 0 [] (by omega) k
  rw [show ((0 : Nat) : Int) = 0 from rfl] at h0
  rw [h0]
  constructor
  ·rintro (h | ⟨h1, h2, h3⟩)
   ·cases h
   ·have hkn : (nF 0 p.Funcs).getD k.toNat default ∈ nF 0 p.Funcs := getD_mem (by omega)
    have hkg := nmb_get hnd h1
    generalize (nF 0 p.Funcs).getD k.toNat default = n4 at *
    obtain ⟨o1, o2⟩ := r_in hkn h2
    have hst := st_at hc o2 rfl
    have hso : stO p (GNode.mk 3 n4.Func n4.Block n4.Stmt) = stO p n4 := rfl
    have hr := ret_in (p := p) (n := GNode.mk 3 n4.Func n4.Block n4.Stmt) rfl (by rw [hso]; exact o1)
    rw [hso] at hr hst
    have hcal := cal_in (hst.2.1 o1)
    have hf : cal p (stO p n4) = ((nF 0 p.Funcs).getD i.toNat default).Func := by
     have e := hcal.2.trans h3
     rcases Int.lt_trichotomy (cal p (stO p n4)) ((nF 0 p.Funcs).getD i.toNat default).Func with c | c | c
     ·exact absurd e (hc.nm _ r1.1 r1.2 _ hcal.1.1 c)
     ·exact c
     ·exact absurd e.symm (hc.nm _ hcal.1.1 hcal.1.2 _ r1.1 c)
    have e4 : GNode.mk 4 n4.Func n4.Block n4.Stmt = n4 := by
     obtain ⟨a, f, b, s⟩ := n4; dsimp only at h2; rw [h2]
    have e2 : GNode.mk 2 (cal p (stO p n4)) (-1) (-1) = (nF 0 p.Funcs).getD i.toNat default := by
     rw [hf]
     rcases r2 with ⟨-, q1, q2⟩ | ⟨q, -⟩
     ·generalize (nF 0 p.Funcs).getD i.toNat default = n at *
      obtain ⟨a, f, b, s⟩ := n
      dsimp only at hk q1 q2
      rw [hk, q1, q2]
     ·omega
    refine ⟨_, o2, n4, ?_, hkg⟩
    have := hr.1
    rw [e2] at this
    rwa [show GNode.mk 4 (GNode.mk 3 n4.Func n4.Block n4.Stmt).Func (GNode.mk 3 n4.Func n4.Block n4.Stmt).Block (GNode.mk 3 n4.Func n4.Block n4.Stmt).Stmt = n4 from e4] at this
  ·rintro ⟨n0, h0, b, hb, e⟩
   right
   have hbin := (nedN_in hc h0 _ hb).2
   have hbr := nmb_rg hnd hbin
   rw [e] at hbr
   rcases nedN_c hb with ⟨h1, h2, -⟩ | ⟨h1, ⟨h2, -⟩ | ⟨h3, ⟨h2, h4⟩ | ⟨h2, -⟩⟩⟩
   ·rw [h2, h1] at hk; cases hk
   ·rw [h2, h1] at hk; cases hk
   ·refine ⟨hbr.1, ?_, ?_⟩
    ·rw [hbr.2, h4]
    ·rw [hbr.2, h2, h4]
     exact (cal_in ((st_at hc h0 h1).2.1 h3)).2.symm
   ·rw [h2] at hk; cases hk
 ·rw [suc3 hk, List.mem_map]
  constructor
  ·rintro ⟨b, hb, e⟩
   have hin := nxt_in hk hb
   rw [ix (nedN_in hc hn _ hin).2] at e
   exact ⟨_, hn, b, hin, e⟩
  ·rintro ⟨n0, h0, b, hb, e⟩
   rcases nedN_c hb with ⟨h1, h2, -⟩ | ⟨h1, ⟨h2, h3⟩ | ⟨-, ⟨h2, -⟩ | ⟨h2, -⟩⟩⟩
   ·rw [h2, h1] at hk; cases hk
   ·refine ⟨b, h2 ▸ h3, ?_⟩
    rw [ix (nedN_in hc h0 _ hb).2, e]
   ·rw [h2] at hk; cases hk
   ·rw [h2] at hk; cases hk
 ·obtain ⟨o1, o2⟩ := r_in hn hk
  rw [suc4 hk o1, List.mem_singleton]
  have e4 : GNode.mk 4 ((nF 0 p.Funcs).getD i.toNat default).Func ((nF 0 p.Funcs).getD i.toNat default).Block ((nF 0 p.Funcs).getD i.toNat default).Stmt = (nF 0 p.Funcs).getD i.toNat default := by
   generalize (nF 0 p.Funcs).getD i.toNat default = n at *
   obtain ⟨a, f, b, s⟩ := n
   dsimp only at hk ⊢
   rw [hk]
  have hr := (ret_in (p := p) (n := GNode.mk 3 ((nF 0 p.Funcs).getD i.toNat default).Func ((nF 0 p.Funcs).getD i.toNat default).Block ((nF 0 p.Funcs).getD i.toNat default).Stmt) rfl o1).2
  dsimp only at hr
  rw [e4] at hr
  rw [ix (nedN_in hc o2 _ hr).2]
  constructor
  ·intro e; exact ⟨_, o2, _, hr, e.symm⟩
  ·rintro ⟨n0, h0, b, hb, e⟩
   rcases nedN_c hb with ⟨h1, h2, -⟩ | ⟨h1, ⟨h2, -⟩ | ⟨h3, ⟨h2, -⟩ | ⟨h2, h4⟩⟩⟩
   ·rw [h2, h1] at hk; cases hk
   ·rw [h2, h1] at hk; cases hk
   ·rw [h2] at hk; cases hk
   ·rw [← e, h4, h2]
theorem suc_rg {p : GProgram} {l : List GNode} {i : Int} {r : List Int} (hck : CkP p) (hl : l = nF 0 p.Funcs) (hi : 0 ≤ i ∧ i < (l.length : Int)) (h : r7_successors p l i = r) : ∀ x ∈ r, 0 ≤ x ∧ x < (l.length : Int) := by
 subst hl; subst h
 intro x hx
 obtain ⟨n0, hn0, b, hb, eb⟩ := (edge_at hck hi).1 ((suc_iff hck hi).1 hx)
 rw [← eb]
 exact (nmb_rg (nF_nd hck.val) (nedN_in hck hn0 _ hb).2).1
theorem Ins_L0 (l : List Int) (x : Int) : ∀ (r : Nat) (i : Int), 0 ≤ i → i + (r : Int) = (l.length : Int) → ∃ o : Nat, r7_Insert_L0 l x r i = (o : Int) ∧ i.toNat ≤ o ∧ o ≤ l.length ∧ (∀ k, i.toNat ≤ k → k < o → l.getD k 0 < x) ∧ (o < l.length → x ≤ l.getD o 0)
 | 0, i, h0, h => ⟨i.toNat, by rw [r7_Insert_L0]; omega, Nat.le_refl _, by omega, fun k h1 h2 => by omega, fun hh => by omega⟩
 | r + 1, i, h0, h => by
  rw [r7_Insert_L0]
  by_cases c : l.getD i.toNat 0 < x
  ·rw [decide_eq_true c, cond_true]
   obtain ⟨o, h1, h2, h3, h4, h5⟩ := Ins_L0 l x r (i + 1) (by omega) (by omega)
   refine ⟨o, h1, by omega, h3, fun k k1 k2 => ?_, h5⟩
   by_cases e : k = i.toNat
   ·rw [e]; exact c
   ·exact h4 k (by omega) k2
  ·rw [decide_eq_false c, cond_false]
   exact ⟨i.toNat, by omega, Nat.le_refl _, by omega, fun k h1 h2 => by omega, fun hh => by omega⟩
theorem Insert_spec {l : List Int} {n x : Int} (h : Asc l n) (hx : 0 ≤ x ∧ x < n) : Asc (r7_Insert l x) n ∧ ∀ y, y ∈ r7_Insert l x ↔ y = x ∨ y ∈ l := by
 obtain ⟨o, h1, -, h3, h4, h5⟩ := Ins_L0 l x (((((l.length : Nat) : Int) : Int) - 0).toNat) 0 (by omega) (by omega)
 have core : (o < l.length → x < l.getD o 0) → Asc ((((l.take (((o : Nat) : Int) : Int).toNat).drop 0) ++ [x]) ++ ((l.take l.length).drop (((o : Nat) : Int) : Int).toNat)) n ∧ ∀ y, y ∈ ((((l.take (((o : Nat) : Int) : Int).toNat).drop 0) ++ [x]) ++ ((l.take l.length).drop (((o : Nat) : Int) : Int).toNat)) ↔ y = x ∨ y ∈ l := by
  intro hgt
  rw [Int.toNat_natCast, List.drop_zero, List.take_length]
  obtain ⟨p1, p2⟩ := (Asc_iff l n).1 h
  have ht : ∀ y ∈ l.take o, y < x := by
   intro y hy
   obtain ⟨k, hk, e⟩ := List.mem_iff_getElem.1 hy
   rw [List.length_take] at hk
   have := h4 k (by omega) (by omega)
   rw [getD_lt (by omega)] at this
   rw [List.getElem_take] at e
   rw [← e]; exact this
  have hd : ∀ y ∈ l.drop o, x < y := by
   intro y hy
   obtain ⟨k, hk, e⟩ := List.mem_iff_getElem.1 hy
   rw [List.length_drop] at hk
   rw [List.getElem_drop] at e
   have h0 := hgt (by omega)
   by_cases k0 : k = 0
   ·subst k0
    rw [getD_lt (by omega)] at h0
    rw [← e]; exact h0
   ·have h6 := Asc_lt h o (k - 1) (by omega)
    rw [show o + (k - 1) + 1 = o + k by omega, getD_lt (k := o + k) (by omega), e] at h6
    omega
  refine ⟨(Asc_iff _ _).2 ⟨List.pairwise_append.2 ⟨List.pairwise_append.2 ⟨p1.sublist (List.take_sublist _ _), List.pairwise_singleton _ _, fun a ha b hb => ?_⟩, p1.sublist (List.drop_sublist _ _), fun a ha b hb => ?_⟩, fun y hy => ?_⟩, fun y => ?_⟩
  ·rw [List.mem_singleton] at hb; rw [hb]; exact ht a ha
  ·rcases List.mem_append.1 ha with ha | ha
   ·exact Int.lt_trans (ht a ha) (hd b hb)
   ·rw [List.mem_singleton] at ha; rw [ha]; exact hd b hb
  ·rcases List.mem_append.1 hy with hy | hy
   ·rcases List.mem_append.1 hy with hy | hy
    ·exact p2 y (List.mem_of_mem_take hy)
    ·rw [List.mem_singleton] at hy; rw [hy]; exact hx
   ·exact p2 y (List.mem_of_mem_drop hy)
  ·rw [List.mem_append, List.mem_append, List.mem_singleton]
   constructor
   ·rintro ((hy | hy) | hy)
    ·exact .inr (List.mem_of_mem_take hy)
    ·exact .inl hy
    ·exact .inr (List.mem_of_mem_drop hy)
   ·rintro (hy | hy)
    ·exact .inl (.inr hy)
    ·rw [← List.take_append_drop o l, List.mem_append] at hy
     rcases hy with hy | hy
     ·exact .inl (.inl hy)
     ·exact .inr hy
 unfold r7_Insert
 rw [h1]
 dsimp only
 by_cases c : o < l.length
 ·rw [decide_eq_true (by omega : ((o : Nat) : Int) < ((l.length : Nat) : Int)), cond_true]
  have h6 := h5 c
  rw [show (l.getD (((o : Nat) : Int)).toNat 0) = l.getD o 0 by rw [Int.toNat_natCast]]
  by_cases e : l.getD o 0 = x
  ·rw [beq_iff_eq.2 e, cond_true]
   refine ⟨h, fun y => ⟨.inr, ?_⟩⟩
   rintro (rfl | hy)
   ·rw [← e]; exact getD_mem c
   ·exact hy
  ·rw [beq_eq_false_iff_ne.2 e, cond_false]
   exact core fun _ => by omega
 ·rw [decide_eq_false (by omega : ¬ ((o : Nat) : Int) < ((l.length : Nat) : Int)), cond_false]
  exact core fun hh => absurd hh c
theorem VF.ins {S P : List (List Int)} {n a b : Nat} (h : VF S P n) (ha : a < n) (hb : b < n) : VF (S.set a (r7_Insert (S.getD a []) (b : Int))) (P.set b (r7_Insert (P.getD b []) (a : Int))) n := by
 have hA := Insert_spec (h.sa a ha) (x := (b : Int)) (by omega)
 have hB := Insert_spec (h.pa b hb) (x := (a : Int)) (by omega)
 have e1 := h.sl; have e2 := h.pl
 refine ⟨by rw [List.length_set]; exact e1, by rw [List.length_set]; exact e2, fun k hk => ?_, fun k hk => ?_, fun i k hi hk => ?_⟩
 ·rw [gset (by omega)]; split
  ·exact hA.1
  ·exact h.sa k hk
 ·rw [gset (by omega)]; split
  ·exact hB.1
  ·exact h.pa k hk
 ·rw [gset (by omega), gset (by omega)]
  by_cases c1 : i = a
  ·rw [if_pos c1]
   by_cases c2 : k = b
   ·rw [if_pos c2]
    exact ⟨fun _ => (hB.2 _).2 (.inl (by omega)), fun _ => (hA.2 _).2 (.inl (by omega))⟩
   ·rw [if_neg c2, hA.2, ← h.mi i k hi hk, c1]
    exact ⟨fun hh => hh.resolve_left (by omega), .inr⟩
  ·rw [if_neg c1]
   by_cases c2 : k = b
   ·rw [if_pos c2, hB.2, h.mi i k hi hk, c2]
    exact ⟨.inr, fun hh => hh.resolve_left (by omega)⟩
   ·rw [if_neg c2]; exact h.mi i k hi hk
theorem VF_ins' {S P : List (List Int)} {n : Nat} {i x : Int} {r1 r2 : List Int} (h : VF S P n) (e1 : r7_Insert (S.getD i.toNat []) x = r1) (e2 : r7_Insert (P.getD x.toNat []) i = r2) (hi : 0 ≤ i ∧ i < (n : Int)) (hx : 0 ≤ x ∧ x < (n : Int)) : VF (S.set i.toNat r1) (P.set x.toNat r2) n := by
 have := h.ins (a := i.toNat) (b := x.toNat) (by omega) (by omega)
 rw [show ((i.toNat : Nat) : Int) = i by omega, show ((x.toNat : Nat) : Int) = x by omega] at this
 rw [← e1, ← e2]; exact this
theorem rB_L1 {i n : Nat} {s : List Int} (hi : i < n) (hs : ∀ x ∈ s, 0 ≤ x ∧ x < (n : Int)) : ∀ (r k : Nat) (S P : List (List Int)), k + r = s.length → VF S P n → VF (r7_Build_L1 (i : Int) s r S P (k : Int)).1 (r7_Build_L1 (i : Int) s r S P (k : Int)).2 n ∧ ∀ a, a < n → ∀ y, y ∈ (r7_Build_L1 (i : Int) s r S P (k : Int)).1.getD a [] ↔ y ∈ S.getD a [] ∨ (a = i ∧ y ∈ s.drop k)
 | 0, k, S, P, h, hv => by
  rw [r7_Build_L1, List.drop_of_length_le (by omega)]
  exact ⟨hv, fun a ha y => ⟨.inl, fun hh => hh.resolve_right (fun h => by cases h.2)⟩⟩
 | r + 1, k, S, P, h, hv => by
  rw [r7_Build_L1, show (k : Int) + 1 = ((k + 1 : Nat) : Int) by omega]
  try dsimp only
  rw [Int.toNat_natCast, Int.toNat_natCast]
  have hx := hs _ (getD_mem (xs := s) (i := k) (d := 0) (by omega))
  have hI := hv.ins (a := i) (b := (s.getD k 0).toNat) hi (by omega)
  rw [show (((s.getD k 0).toNat : Nat) : Int) = s.getD k 0 by omega] at hI
  obtain ⟨a1, a2⟩ := rB_L1 hi hs r (k + 1) _ _ (by omega) hI
  refine ⟨a1, fun a ha y => (a2 a ha y).trans ?_⟩
  have e1 := hv.sl
  rw [gset (by omega), dropc (l := s) (i := k) (by omega), List.mem_cons]
  by_cases e : a = i
  ·rw [if_pos e, (Insert_spec (hv.sa i hi) hx).2, e]
   constructor
   ·rintro ((h | h) | ⟨h, h'⟩)
    ·exact .inr ⟨rfl, .inl h⟩
    ·exact .inl h
    ·exact .inr ⟨rfl, .inr h'⟩
   ·rintro (h | ⟨h, h' | h'⟩)
    ·exact .inl (.inr h)
    ·exact .inl (.inl h')
    ·exact .inr ⟨rfl, h'⟩
  ·rw [if_neg e]
   exact ⟨fun h => h.elim .inl (fun h => absurd h.1 e), fun h => h.elim .inl (fun h => absurd h.1 e)⟩
theorem rB_L0 {p : GProgram} {l : List GNode} (hs : ∀ i : Int, 0 ≤ i → i < (l.length : Int) → ∀ x ∈ r7_successors p l i, 0 ≤ x ∧ x < (l.length : Int)) : ∀ (r i : Nat) (S P : List (List Int)), i + r = l.length → VF S P l.length → (∀ a, a < l.length → ∀ y, y ∈ S.getD a [] ↔ a < i ∧ y ∈ r7_successors p l (a : Int)) →
  VF (r7_Build_L0 p l r S P (i : Int)).1 (r7_Build_L0 p l r S P (i : Int)).2 l.length ∧ ∀ a, a < l.length → ∀ y, y ∈ (r7_Build_L0 p l r S P (i : Int)).1.getD a [] ↔ y ∈ r7_successors p l (a : Int)
 | 0, i, S, P, h, hv, hm => by
  rw [r7_Build_L0]
  exact ⟨hv, fun a ha y => (hm a ha y).trans ⟨fun h => h.2, fun h => ⟨by omega, h⟩⟩⟩
 | r + 1, i, S, P, h, hv, hm => by
  rw [r7_Build_L0, show (i : Int) + 1 = ((i + 1 : Nat) : Int) by omega]
  try dsimp only
  obtain ⟨a1, a2⟩ := rB_L1 (i := i) (n := l.length) (by omega) (hs (i : Int) (by omega) (by omega)) (r7_successors p l (i : Int)).length 0 S P (by omega) hv
  rw [show (((((r7_successors p l (i : Int)).length : Nat) : Int) : Int) - 0).toNat = (r7_successors p l (i : Int)).length by omega]
  rw [show ((0 : Nat) : Int) = 0 from rfl] at a1 a2
  generalize r7_Build_L1 (i : Int) (r7_successors p l (i : Int)) (r7_successors p l (i : Int)).length S P 0 = R at *
  obtain ⟨S1, P1⟩ := R
  refine rB_L0 hs r (i + 1) S1 P1 (by omega) a1 fun a ha y => (a2 a ha y).trans ?_
  rw [hm a ha y, List.drop_zero]
  constructor
  ·rintro (⟨h1, h2⟩ | ⟨rfl, h2⟩)
   ·exact ⟨by omega, h2⟩
   ·exact ⟨by omega, h2⟩
  ·rintro ⟨h1, h2⟩
   by_cases e : a = i
   ·subst e; exact .inr ⟨rfl, h2⟩
   ·exact .inl ⟨by omega, h2⟩
theorem rBuild_eq {p : GProgram} (hc : ((vd_Check p).2 != 0) = false) : r7_Build p = gh_Build p := by
 obtain ⟨S, P, e, hvf, hed, -, -, -⟩ := Build_spec hc
 have hck : CkP p := CkP_of (by rw [← Check_eq]; exact hc)
 have hl : r7_List p = nF 0 p.Funcs := by rw [List7_eq, List_eq, hc, cond_false]
 have hs : ∀ i : Int, 0 ≤ i → i < ((nF 0 p.Funcs).length : Int) → ∀ x ∈ r7_successors p (nF 0 p.Funcs) i, 0 ≤ x ∧ x < ((nF 0 p.Funcs).length : Int) := fun i h0 h1 x hx => by
  obtain ⟨n0, hn0, b, hb, eb⟩ := (edge_at hck ⟨h0, h1⟩).1 ((suc_iff hck ⟨h0, h1⟩).1 hx)
  rw [← eb]
  exact (nmb_rg (nF_nd hck.val) (nedN_in hck hn0 _ hb).2).1
 obtain ⟨v1, v2⟩ := rB_L0 hs (nF 0 p.Funcs).length 0 _ _ (by omega) (VF.nil _) (fun a ha y => by
  rw [List.getD_eq_getElem?_getD, List.getElem?_replicate]
  constructor
  ·intro h; split at h <;> cases h
  ·intro h; omega)
 rw [e]
 unfold r7_Build
 dsimp only
 rw [← Check_eq, hc, cond_false, hl]
 rw [show (((((nF 0 p.Funcs).length : Nat) : Int) : Int) - 0).toNat = (nF 0 p.Funcs).length by omega, Int.toNat_natCast]
 rw [show ((0 : Nat) : Int) = 0 from rfl] at v1 v2
 generalize r7_Build_L0 p (nF 0 p.Funcs) (nF 0 p.Funcs).length (List.replicate (nF 0 p.Funcs).length []) (List.replicate (nF 0 p.Funcs).length []) 0 = R at *
 obtain ⟨S1, P1⟩ := R
 dsimp only at v1 v2 ⊢
 have mem : ∀ a : Nat, a < (nF 0 p.Funcs).length → ∀ y, y ∈ S1.getD a [] ↔ y ∈ S.getD a [] := fun a ha y => by
  have h1 := hed (a : Int) y (by omega) (by omega)
  rw [Int.toNat_natCast] at h1
  rw [v2 a ha, h1, suc_iff hck ⟨by omega, by omega⟩]
 have e1 : S1 = S := LL_ext v1.sl hvf.sl fun k hk => Asc_ext (v1.sa k hk) (hvf.sa k hk) (mem k hk)
 have e2 : P1 = P := LL_ext v1.pl hvf.pl fun k hk => Asc_ext (v1.pa k hk) (hvf.pa k hk) fun x => by
  constructor
  ·intro hx
   have hr := Asc_mem (v1.pa k hk) hx
   have h1 := (v1.mi x.toNat k (by omega) hk).2 (by rw [show ((x.toNat : Nat) : Int) = x by omega]; exact hx)
   have h2 := (hvf.mi x.toNat k (by omega) hk).1 ((mem _ (by omega) _).1 h1)
   rwa [show ((x.toNat : Nat) : Int) = x by omega] at h2
  ·intro hx
   have hr := Asc_mem (hvf.pa k hk) hx
   have h1 := (hvf.mi x.toNat k (by omega) hk).2 (by rw [show ((x.toNat : Nat) : Int) = x by omega]; exact hx)
   have h2 := (v1.mi x.toNat k (by omega) hk).1 ((mem _ (by omega) _).2 h1)
   rwa [show ((x.toNat : Nat) : Int) = x by omega] at h2
 rw [e1, e2]
theorem Ints_self (a : List Int) : r7_Ints a a = true := by
 have := scan (fun r i => r7_Ints_L0 a a r i) (fun i => a.getD i.toNat 0 != a.getD i.toNat 0) false () (fun _ => rfl) (fun _ _ => rfl) ((((a.length : Nat) : Int) - 0).toNat) 0
 unfold r7_Ints
 rcases this with ⟨e, j, j1, j2, j3⟩ | ⟨e, h⟩
 ·simp at j3
 ·rw [e]; simp
theorem SL_L0 (a : List (List Int)) : ∀ (r : Nat) (i : Int), r7_SameLists_L0 a a r i = .brk ()
 | 0, i => by rw [r7_SameLists_L0]
 | r + 1, i => by rw [r7_SameLists_L0, Ints_self]; exact SL_L0 a r (i + 1)
theorem SL_refl (a : List (List Int)) : r7_SameLists a a = true := by
 unfold r7_SameLists
 rw [show (((a.length : Nat) : Int) != ((a.length : Nat) : Int)) = false by simp, SL_L0]; rfl
theorem SG_L0 (a : GGraph) : ∀ (r : Nat) (i : Int), r7_SameGraph_L0 a a r i = .brk ()
 | 0, i => by rw [r7_SameGraph_L0]
 | r + 1, i => by rw [r7_SameGraph_L0, bne_self_eq_false, cond_false]; exact SG_L0 a r (i + 1)
theorem SG_refl (a : GGraph) : r7_SameGraph a a = true := by
 unfold r7_SameGraph
 rw [show (((a.Nodes.length : Nat) : Int) != ((a.Nodes.length : Nat) : Int)) = false by simp, SL_refl, SL_refl, SG_L0]; rfl
theorem builds_true (p : GProgram) : w8_builds p = true := by
 have h : r7_Build p = gh_Build p := by
  cases hc : (vd_Check p).2 != 0
  ·exact rBuild_eq hc
  ·unfold r7_Build gh_Build
   dsimp only
   rw [← Check_eq, hc]; rfl
 unfold w8_builds
 rw [h]
 dsimp only
 rw [SG_refl]
 simp
theorem CopyProgram_eq (p : GProgram) : g_CopyProgram p = p := by
 have e2 : ∀ i k, g_CopyProgram_L2 p i k ((((((p.Funcs.getD (i : Int).toNat default).Blocks).getD (k : Int).toNat default).Stmts).length : Int) - 0).toNat [] 0 = ((((p.Funcs.getD (i : Int).toNat default).Blocks).getD (k : Int).toNat default).Stmts) := fun i k => by
  rw [appL (g := id) (g_CopyProgram_L2 p i k) (fun _ _ => by rw [g_CopyProgram_L2]) (fun r b j _ _ => by rw [g_CopyProgram_L2]; rfl), List.map_id]
 have e1 : ∀ i, g_CopyProgram_L1 p i ((((p.Funcs.getD (i : Int).toNat default).Blocks).length : Int) - 0).toNat [] 0 = ((p.Funcs.getD (i : Int).toNat default).Blocks) := fun i => by
  rw [appL (g := id) (g_CopyProgram_L1 p i) (fun _ _ => by rw [g_CopyProgram_L1]) (fun r b j _ _ => by rw [g_CopyProgram_L1, e2]; rfl), List.map_id]
 unfold g_CopyProgram
 rw [appL (g := id) (g_CopyProgram_L0 p) (fun _ _ => by rw [g_CopyProgram_L0]) (fun r b j _ _ => by rw [g_CopyProgram_L0, e1]; rfl), List.map_id]
theorem spoil_1 {p q : GProgram} {t : List Int} {i : Int} {R : Int × Int} (hp : SpP p) (hq : g_CopyProgram p = q) (h : tp_Next t i ((q.Funcs.length : Nat) : Int) = R) : (1 ≤ q.Funcs.length ∧ q.Funcs.length ≤ 3) ∧ 0 ≤ R.1 ∧ R.1 < ((q.Funcs.length : Nat) : Int) ∧ 1 ≤ (q.Funcs.getD (R.1 : Int).toNat default).Blocks.length ∧ (q.Funcs.getD (R.1 : Int).toNat default).Blocks.length ≤ 3 := by
 rw [CopyProgram_eq] at hq
 subst hq; subst h
 have h1 := Next_rg t i ((p.Funcs.length : Nat) : Int) (by have := hp.1.2; omega)
 have h2 := hp.1.1
 exact ⟨hp.1, h1.1, by omega, (SpP_b hp ⟨h1.1, by omega⟩).1⟩
theorem spoil_2 {p q : GProgram} (hp : SpP p) (hq : g_CopyProgram p = q) (i k : Nat) : ((q.Funcs.getD i default).Blocks.getD k default).Stmts.length ≤ 4 := by
 rw [CopyProgram_eq] at hq
 subst hq
 by_cases hi : i < p.Funcs.length
 ·have h := (SpP_b hp (i := (i : Int)) (by omega)).2
  have h3 : QL ((p.Funcs.getD i default).Blocks.getD k default) = true := all_get1 h rfl
  exact of_decide_eq_true h3
 ·rw [show p.Funcs.getD i default = default from by rw [List.getD_eq_getElem?_getD, List.getElem?_eq_none (by omega)]; rfl]
  rw [show (default : GFunc).Blocks = [] from rfl]
  simp [show (default : GBlock).Stmts = [] from rfl]
theorem spoil_3 {p q : GProgram} (hp : SpP p) (hq : g_CopyProgram p = q) (i k j : Nat) : (((q.Funcs.getD i default).Blocks.getD k default).Stmts.getD j default).Uses.length ≤ 3 ∧ (((q.Funcs.getD i default).Blocks.getD k default).Stmts.getD j default).Targets.length ≤ 2 := by
 rw [CopyProgram_eq] at hq
 subst hq
 have g1 : QF 3 2 (p.Funcs.getD i default) = true := all_get1 hp.2.2 rfl
 have g2 : QB 3 2 ((p.Funcs.getD i default).Blocks.getD k default) = true := all_get1 g1 rfl
 have g3 : QS 3 2 (((p.Funcs.getD i default).Blocks.getD k default).Stmts.getD j default) = true := all_get1 g2 rfl
 unfold QS at g3
 simpa using g3
theorem Spoil_PSm {t : List Int} {i : Int} {p : GProgram} {r : GProgram × Int} (h : tp_SpoilProgram t i p = r) (hp : SpP p) : PSm r.1 = true := by
 refine QP_PSm (u := 5) (v := 3) ?_ (by omega) (by omega)
 have mS : ∀ s, QS 3 2 s = true → QS 5 3 s = true := fun s h => by
  unfold QS at *; simp only [Bool.and_eq_true, decide_eq_true_eq] at h ⊢; omega
 have mB : ∀ b, QB 3 2 b = true → QB 5 3 b = true := fun b h => List.all_eq_true.2 fun s hs => mS s (List.all_eq_true.1 h s hs)
 have mF : ∀ f, QF 3 2 f = true → QF 5 3 f = true := fun f h => List.all_eq_true.2 fun s hs => mB s (List.all_eq_true.1 h s hs)
 have mP : QP 5 3 p = true := List.all_eq_true.2 fun s hs => mF s (List.all_eq_true.1 hp.2.2 s hs)
 have gF : ∀ n, QF 3 2 (p.Funcs.getD n default) = true := fun n => all_get1 hp.2.2 rfl
 subst h
 unfold tp_SpoilProgram
 rw [CopyProgram_eq]
 dsimp only
 generalize (tp_Next t i ((p.Funcs.length : Nat) : Int)) = R1
 have g1 := gF (R1.1 : Int).toNat
 generalize hf : p.Funcs.getD (R1.1 : Int).toNat default = f at g1 ⊢
 generalize (tp_Next t R1.2 ((f.Blocks.length : Nat) : Int)) = R2
 have g2 : QB 3 2 (f.Blocks.getD (R2.1 : Int).toNat default) = true := all_get1 g1 rfl
 generalize hb : f.Blocks.getD (R2.1 : Int).toNat default = b at g2 ⊢
 have wF : ∀ x, QF 5 3 x = true → QP 5 3 (GProgram.mk (p.Funcs.set (R1.1 : Int).toNat x)) = true := fun x hx => all_set1 mP hx
 have wB : ∀ (n : Str) x, QB 5 3 x = true → QP 5 3 (GProgram.mk (p.Funcs.set (R1.1 : Int).toNat (GFunc.mk n (f.Blocks.set (R2.1 : Int).toNat x)))) = true := fun n x hx => wF _ (all_set1 (mF f g1) hx)
 have wN : ∀ (n : Str), QP 5 3 (GProgram.mk (p.Funcs.set (R1.1 : Int).toNat (GFunc.mk n f.Blocks))) = true := fun n => wF _ (mF f g1)
 have bS := mB b g2
 generalize tp_Next t R2.2 ((b.Stmts.length : Nat) : Int) = R3
 have g3 : QS 3 2 (b.Stmts.getD (R3.1 : Int).toNat default) = true := all_get1 g2 rfl
 generalize hs : b.Stmts.getD (R3.1 : Int).toNat default = s at g3 ⊢
 have wS : ∀ (n m : Str) (x : GStmt), QS 5 3 x = true → QP 5 3 (GProgram.mk (p.Funcs.set (R1.1 : Int).toNat (GFunc.mk n (f.Blocks.set (R2.1 : Int).toNat (GBlock.mk m (b.Stmts.set (R3.1 : Int).toNat x)))))) = true := fun n m x hx => wB n _ (all_set1 bS hx)
 have wA : ∀ (n m : Str) (x : GStmt), QS 3 2 x = true → QP 5 3 (GProgram.mk (p.Funcs.set (R1.1 : Int).toNat (GFunc.mk n (f.Blocks.set (R2.1 : Int).toNat (GBlock.mk m (b.Stmts ++ [x])))))) = true := fun n m x hx => wB n _ (by unfold QB; dsimp only; rw [List.all_append, show b.Stmts.all (QS 5 3) = true from bS, List.all_cons, mS x hx]; rfl)
 unfold QS at g3
 simp only [Bool.and_eq_true, decide_eq_true_eq] at g3
 have kc : ∀ (c : Bool) (x y : GProgram × Int), QP 5 3 x.1 = true → QP 5 3 y.1 = true → QP 5 3 (bif c then x else y).1 = true := fun c x y h1 h2 => by cases c; exact h2; exact h1
 have hu : ∀ (o : Int) (d : Str) (n : Nat) (m : List Str), m.length ≤ 2 → QS 5 3 (GStmt.mk o d (((s.Uses ++ m).take n).drop 0) s.Targets) = true := fun o d n m hm => by
  unfold QS; simp; omega
 have hq : ∀ (o : Int) (d : Str), QS 5 3 (GStmt.mk o d s.Uses s.Targets) = true := fun o d => by
  unfold QS; simp; omega
 refine kc _ _ _ (wA _ _ _ (stmt_Q _ _ _)) ?_
 refine kc _ _ _ (wN _) ?_
 refine kc _ _ _ (wB _ _ bS) ?_
 refine kc _ _ _ (wS _ _ _ (hq _ _)) ?_
 refine kc _ _ _ (wS _ _ _ (hq _ _)) ?_
 refine kc _ _ _ (wS _ _ _ (hu _ _ _ _ (by simp))) ?_
 refine kc _ _ _ (wS _ _ _ (by unfold QS; simp; omega)) ?_
 refine kc _ _ _ (kc _ _ _ (wS _ _ _ (by unfold QS; simp; omega)) mP) ?_
 refine kc _ _ _ (wB _ _ ?_) ?_
 ·unfold QB
  dsimp only
  refine List.all_eq_true.2 fun x hx => ?_
  rw [List.drop_zero] at hx
  exact List.all_eq_true.1 bS x (List.mem_of_mem_take hx)
 refine kc _ _ _ (wA _ _ _ (stmt_Q _ _ _)) ?_
 refine wF _ ?_
 unfold QF
 dsimp only
 rw [List.all_append, show f.Blocks.all (QB 5 3) = true from mF f g1, List.all_cons, show QB 5 3 (f.Blocks.getD (0 : Int).toNat default) = true from all_get1 (mF f g1) rfl]; rfl
theorem sane8_true : w8_sane = true := by kernel_rfl
theorem GraphBuilds_true (t : List Int) (p : GProgram) : w8_GraphBuilds t p = true := by
 unfold w8_GraphBuilds
 dsimp only
 rw [builds_true, sane8_true]
 all_goals (cases g_HugeProgram p <;> rfl)
theorem st34 : stTy Tryz.prog 34 = some ([(0, 1), (1, 1)], [.slice none 0 0, vi 0]) := by kernel_rfl
theorem un3 : Tryz.prog.underlying 3 = some (.int .i64) := by kernel_rfl
theorem un93 : Tryz.prog.underlying 93 = some (.int .u64) := by kernel_rfl
theorem fo34_1 : fldOff Tryz.prog 34 1 = some 1 := by kernel_rfl
theorem fo34_0 : fldOff Tryz.prog 34 0 = some 0 := by kernel_rfl
theorem sh22 : tyShape Tryz.prog 22 = some (false, 1) := by kernel_rfl
theorem sl22 : slTy Tryz.prog 22 = some (3, 1, 8) := by kernel_rfl
theorem ca21 : callable Tryz.prog 21 = true := by kernel_rfl
theorem fo44_1 : fldOff Tryz.prog 44 1 = some 1 := by kernel_rfl
theorem fo44_2 : fldOff Tryz.prog 44 2 = some 2 := by kernel_rfl
theorem sh36 : tyShape Tryz.prog 36 = some (false, 1) := by kernel_rfl
theorem fo44_3 : fldOff Tryz.prog 44 3 = some 3 := by kernel_rfl
theorem ca117 : callable Tryz.prog 117 = true := by kernel_rfl
theorem fo44_0 : fldOff Tryz.prog 44 0 = some 0 := by kernel_rfl
theorem sh3 : tyShape Tryz.prog 3 = some (false, 1) := by kernel_rfl
theorem fmix : Tryz.prog.follows .mixedOrders = true := by kernel_rfl
theorem sl36 : slTy Tryz.prog 36 = some (9, 1, 16) := by kernel_rfl
theorem sz36 : slZero Tryz.prog 36 = some [.string (bs (Str.mk []))] := by kernel_rfl
theorem ca10 : callable Tryz.prog 10 = true := by kernel_rfl
theorem un9 : Tryz.prog.underlying 9 = some .string := by kernel_rfl
theorem ca62 : callable Tryz.prog 62 = true := by kernel_rfl
theorem ca63 : callable Tryz.prog 63 = true := by kernel_rfl
theorem ca116 : callable Tryz.prog 116 = true := by kernel_rfl
theorem sh9 : tyShape Tryz.prog 9 = some (false, 1) := by kernel_rfl
theorem ze44 : zeroOf Tryz.prog 44 = some (.agg #[vi 0, .string (bs (Str.mk [])), .slice none 0 0, .slice none 0 0]) := by kernel_rfl
theorem ca13 : callable Tryz.prog 13 = true := by kernel_rfl
theorem st44 : stTy Tryz.prog 44 = some ([(0, 1), (1, 1), (2, 1), (3, 1)], [vi 0, .string (bs (Str.mk [])), .slice none 0 0, .slice none 0 0]) := by kernel_rfl
theorem fo25_0 : fldOff Tryz.prog 25 0 = some 0 := by kernel_rfl
theorem sh23 : tyShape Tryz.prog 23 = some (false, 1) := by kernel_rfl
theorem sl23 : slTy Tryz.prog 23 = some (39, 2, 40) := by kernel_rfl
theorem sh39 : tyShape Tryz.prog 39 = some (true, 2) := by kernel_rfl
theorem ze39 : zeroOf Tryz.prog 39 = some (.agg #[.string (bs (Str.mk [])), .slice none 0 0]) := by kernel_rfl
theorem fo39_0 : fldOff Tryz.prog 39 0 = some 0 := by kernel_rfl
theorem fo39_1 : fldOff Tryz.prog 39 1 = some 1 := by kernel_rfl
theorem sh37 : tyShape Tryz.prog 37 = some (false, 1) := by kernel_rfl
theorem sl37 : slTy Tryz.prog 37 = some (42, 2, 40) := by kernel_rfl
theorem sh42 : tyShape Tryz.prog 42 = some (true, 2) := by kernel_rfl
theorem ze42 : zeroOf Tryz.prog 42 = some (.agg #[.string (bs (Str.mk [])), .slice none 0 0]) := by kernel_rfl
theorem fo42_0 : fldOff Tryz.prog 42 0 = some 0 := by kernel_rfl
theorem fo42_1 : fldOff Tryz.prog 42 1 = some 1 := by kernel_rfl
theorem sh40 : tyShape Tryz.prog 40 = some (false, 1) := by kernel_rfl
theorem sl40 : slTy Tryz.prog 40 = some (44, 4, 72) := by kernel_rfl
theorem sh44 : tyShape Tryz.prog 44 = some (true, 4) := by kernel_rfl
theorem ca95 : callable Tryz.prog 95 = true := by kernel_rfl
theorem ze25 : zeroOf Tryz.prog 25 = some (.agg #[.slice none 0 0]) := by kernel_rfl
theorem st39 : stTy Tryz.prog 39 = some ([(0, 1), (1, 1)], [.string (bs (Str.mk [])), .slice none 0 0]) := by kernel_rfl
theorem st42 : stTy Tryz.prog 42 = some ([(0, 1), (1, 1)], [.string (bs (Str.mk [])), .slice none 0 0]) := by kernel_rfl
theorem ca11 : callable Tryz.prog 11 = true := by kernel_rfl
theorem sz40 : slZero Tryz.prog 40 = some [vi 0, .string (bs (Str.mk [])), .slice none 0 0, .slice none 0 0] := by kernel_rfl
theorem ca12 : callable Tryz.prog 12 = true := by kernel_rfl
theorem sz37 : slZero Tryz.prog 37 = some [.string (bs (Str.mk [])), .slice none 0 0] := by kernel_rfl
theorem sz23 : slZero Tryz.prog 23 = some [.string (bs (Str.mk [])), .slice none 0 0] := by kernel_rfl
theorem sh25 : tyShape Tryz.prog 25 = some (true, 1) := by kernel_rfl
theorem ca120 : callable Tryz.prog 120 = true := by kernel_rfl
theorem ca102 : callable Tryz.prog 102 = true := by kernel_rfl
theorem ca124 : callable Tryz.prog 124 = true := by kernel_rfl
theorem ca121 : callable Tryz.prog 121 = true := by kernel_rfl
theorem ca103 : callable Tryz.prog 103 = true := by kernel_rfl
theorem ca104 : callable Tryz.prog 104 = true := by kernel_rfl
theorem ca105 : callable Tryz.prog 105 = true := by kernel_rfl
theorem un36 : Tryz.prog.underlying 36 = some (.slice 9) := by kernel_rfl
theorem ca122 : callable Tryz.prog 122 = true := by kernel_rfl
theorem ca69 : callable Tryz.prog 69 = true := by kernel_rfl
theorem ca106 : callable Tryz.prog 106 = true := by kernel_rfl
theorem ca108 : callable Tryz.prog 108 = true := by kernel_rfl
theorem ca107 : callable Tryz.prog 107 = true := by kernel_rfl
theorem ca72 : callable Tryz.prog 72 = true := by kernel_rfl
theorem ca71 : callable Tryz.prog 71 = true := by kernel_rfl
theorem ca70 : callable Tryz.prog 70 = true := by kernel_rfl
theorem mt94 : mpTy Tryz.prog 94 = some (9, 4) := by kernel_rfl
theorem ze4 : zeroOf Tryz.prog 4 = some (vb false) := by kernel_rfl
theorem ca109 : callable Tryz.prog 109 = true := by kernel_rfl
theorem un4 : Tryz.prog.underlying 4 = some .bool := by kernel_rfl
theorem ze65 : zeroOf Tryz.prog 65 = some (.agg #[vi 0, vi 0, vi 0, vi 0]) := by kernel_rfl
theorem ca74 : callable Tryz.prog 74 = true := by kernel_rfl
theorem ca73 : callable Tryz.prog 73 = true := by kernel_rfl
theorem st65 : stTy Tryz.prog 65 = some ([(0, 1), (1, 1), (2, 1), (3, 1)], [vi 0, vi 0, vi 0, vi 0]) := by kernel_rfl
theorem sh65 : tyShape Tryz.prog 65 = some (true, 4) := by kernel_rfl
theorem ca75 : callable Tryz.prog 75 = true := by kernel_rfl
theorem ca39 : callable Tryz.prog 39 = true := by kernel_rfl
theorem ze3 : zeroOf Tryz.prog 3 = some (vi 0) := by kernel_rfl
theorem ca76 : callable Tryz.prog 76 = true := by kernel_rfl
theorem ca77 : callable Tryz.prog 77 = true := by kernel_rfl
theorem sh94 : tyShape Tryz.prog 94 = some (false, 1) := by kernel_rfl
theorem ze94 : zeroOf Tryz.prog 94 = some (.map none) := by kernel_rfl
theorem ze36 : zeroOf Tryz.prog 36 = some (.slice none 0 0) := by kernel_rfl
theorem ze116 : zeroOf Tryz.prog 116 = some (.nilFunc) := by kernel_rfl
theorem sh116 : tyShape Tryz.prog 116 = some (false, 1) := by kernel_rfl
theorem ca79 : callable Tryz.prog 79 = true := by kernel_rfl
theorem ca78 : callable Tryz.prog 78 = true := by kernel_rfl
theorem ca41 : callable Tryz.prog 41 = true := by kernel_rfl
theorem ca40 : callable Tryz.prog 40 = true := by kernel_rfl
theorem ca42 : callable Tryz.prog 42 = true := by kernel_rfl
theorem ca43 : callable Tryz.prog 43 = true := by kernel_rfl
theorem ca44 : callable Tryz.prog 44 = true := by kernel_rfl
theorem ca22 : callable Tryz.prog 22 = true := by kernel_rfl
theorem sl48 : slTy Tryz.prog 48 = some (65, 4, 32) := by kernel_rfl
theorem sz48 : slZero Tryz.prog 48 = some [vi 0, vi 0, vi 0, vi 0] := by kernel_rfl
theorem ca80 : callable Tryz.prog 80 = true := by kernel_rfl
theorem fo72_0 : fldOff Tryz.prog 72 0 = some 0 := by kernel_rfl
theorem fo51_1 : fldOff Tryz.prog 51 1 = some 1 := by kernel_rfl
theorem sh49 : tyShape Tryz.prog 49 = some (false, 1) := by kernel_rfl
theorem sl49 : slTy Tryz.prog 49 = some (22, 1, 24) := by kernel_rfl
theorem ca45 : callable Tryz.prog 45 = true := by kernel_rfl
theorem sz22 : slZero Tryz.prog 22 = some [vi 0] := by kernel_rfl
theorem fo51_2 : fldOff Tryz.prog 51 2 = some 2 := by kernel_rfl
theorem ki65 : keyInts Tryz.prog 65 4 = true := by kernel_rfl
theorem kk_GNode : KK Tryz.prog 65 ev_GNode ok_GNode := kStruct (fun x : GNode => [x.Kind, x.Func, x.Block, x.Stmt]) ok_GNode ki65 (fun x y h => by cases x; cases y; simpa using h) (fun _ => rfl) (fun x hx y hy => by simp only [List.mem_cons, List.not_mem_nil, or_false] at hy; obtain ⟨h0, h1, h2, h3⟩ := hx; rcases hy with rfl | rfl | rfl | rfl <;> assumption)
theorem mt70 : mpTy Tryz.prog 70 = some (65, 3) := by kernel_rfl
theorem fo72_1 : fldOff Tryz.prog 72 1 = some 3 := by kernel_rfl
theorem sh70 : tyShape Tryz.prog 70 = some (false, 1) := by kernel_rfl
theorem ca82 : callable Tryz.prog 82 = true := by kernel_rfl
theorem ca81 : callable Tryz.prog 81 = true := by kernel_rfl
theorem ca25 : callable Tryz.prog 25 = true := by kernel_rfl
theorem fo65_1 : fldOff Tryz.prog 65 1 = some 1 := by kernel_rfl
theorem fo65_2 : fldOff Tryz.prog 65 2 = some 2 := by kernel_rfl
theorem fo65_3 : fldOff Tryz.prog 65 3 = some 3 := by kernel_rfl
theorem ca46 : callable Tryz.prog 46 = true := by kernel_rfl
theorem ca24 : callable Tryz.prog 24 = true := by kernel_rfl
theorem ca48 : callable Tryz.prog 48 = true := by kernel_rfl
theorem ca47 : callable Tryz.prog 47 = true := by kernel_rfl
theorem ca83 : callable Tryz.prog 83 = true := by kernel_rfl
theorem un140 : Tryz.prog.underlying 140 = some (.int .u64) := by kernel_rfl
theorem un5 : Tryz.prog.underlying 5 = some (.int .u8) := by kernel_rfl
theorem ca93 : callable Tryz.prog 93 = true := by kernel_rfl
theorem ca50 : callable Tryz.prog 50 = true := by kernel_rfl
theorem ca49 : callable Tryz.prog 49 = true := by kernel_rfl
theorem ze51 : zeroOf Tryz.prog 51 = some (.agg #[.slice none 0 0, .slice none 0 0, .slice none 0 0]) := by kernel_rfl
theorem st51 : stTy Tryz.prog 51 = some ([(0, 1), (1, 1), (2, 1)], [.slice none 0 0, .slice none 0 0, .slice none 0 0]) := by kernel_rfl
theorem sh51 : tyShape Tryz.prog 51 = some (true, 3) := by kernel_rfl
theorem ca23 : callable Tryz.prog 23 = true := by kernel_rfl
theorem sz49 : slZero Tryz.prog 49 = some [.slice none 0 0] := by kernel_rfl
theorem st72 : stTy Tryz.prog 72 = some ([(0, 3), (3, 1)], [.slice none 0 0, .slice none 0 0, .slice none 0 0, .map none]) := by kernel_rfl
theorem fo65_0 : fldOff Tryz.prog 65 0 = some 0 := by kernel_rfl
theorem ca26 : callable Tryz.prog 26 = true := by kernel_rfl
theorem ca27 : callable Tryz.prog 27 = true := by kernel_rfl
theorem ca94 : callable Tryz.prog 94 = true := by kernel_rfl
theorem ca61 : callable Tryz.prog 61 = true := by kernel_rfl
theorem ca96 : callable Tryz.prog 96 = true := by kernel_rfl
theorem ca54 : callable Tryz.prog 54 = true := by kernel_rfl
theorem ca53 : callable Tryz.prog 53 = true := by kernel_rfl
theorem ca51 : callable Tryz.prog 51 = true := by kernel_rfl
theorem ca52 : callable Tryz.prog 52 = true := by kernel_rfl
theorem ca55 : callable Tryz.prog 55 = true := by kernel_rfl
theorem ca56 : callable Tryz.prog 56 = true := by kernel_rfl
theorem ca57 : callable Tryz.prog 57 = true := by kernel_rfl
theorem ca28 : callable Tryz.prog 28 = true := by kernel_rfl
theorem eqi65 : eqInts Tryz.prog 65 4 = true := by kernel_rfl
theorem ca97 : callable Tryz.prog 97 = true := by kernel_rfl
theorem ca58 : callable Tryz.prog 58 = true := by kernel_rfl
theorem ca59 : callable Tryz.prog 59 = true := by kernel_rfl
theorem ca60 : callable Tryz.prog 60 = true := by kernel_rfl
theorem ca29 : callable Tryz.prog 29 = true := by kernel_rfl
theorem ca30 : callable Tryz.prog 30 = true := by kernel_rfl
theorem ca31 : callable Tryz.prog 31 = true := by kernel_rfl
theorem ca19 : callable Tryz.prog 19 = true := by kernel_rfl
theorem fo51_0 : fldOff Tryz.prog 51 0 = some 0 := by kernel_rfl
theorem sh48 : tyShape Tryz.prog 48 = some (false, 1) := by kernel_rfl
theorem ca32 : callable Tryz.prog 32 = true := by kernel_rfl
theorem ca14 : callable Tryz.prog 14 = true := by kernel_rfl
theorem ca15 : callable Tryz.prog 15 = true := by kernel_rfl
theorem ca16 : callable Tryz.prog 16 = true := by kernel_rfl
theorem ca17 : callable Tryz.prog 17 = true := by kernel_rfl
theorem st90 : stTy Tryz.prog 90 = some ([(0, 1), (1, 1), (2, 1), (3, 1)], [vi 0, .string (bs (Str.mk [])), vi 0, vi 0]) := by kernel_rfl
theorem sl80 : slTy Tryz.prog 80 = some (90, 4, 40) := by kernel_rfl
theorem sz80 : slZero Tryz.prog 80 = some [vi 0, .string (bs (Str.mk [])), vi 0, vi 0] := by kernel_rfl
theorem fo85_2 : fldOff Tryz.prog 85 2 = some 2 := by kernel_rfl
theorem sh52 : tyShape Tryz.prog 52 = some (false, 1) := by kernel_rfl
theorem fo85_1 : fldOff Tryz.prog 85 1 = some 1 := by kernel_rfl
theorem fo85_0 : fldOff Tryz.prog 85 0 = some 0 := by kernel_rfl
theorem sh80 : tyShape Tryz.prog 80 = some (false, 1) := by kernel_rfl
theorem fo90_0 : fldOff Tryz.prog 90 0 = some 0 := by kernel_rfl
theorem fo90_1 : fldOff Tryz.prog 90 1 = some 1 := by kernel_rfl
theorem ca34 : callable Tryz.prog 34 = true := by kernel_rfl
theorem ca98 : callable Tryz.prog 98 = true := by kernel_rfl
theorem ca99 : callable Tryz.prog 99 = true := by kernel_rfl
theorem ca65 : callable Tryz.prog 65 = true := by kernel_rfl
theorem ca66 : callable Tryz.prog 66 = true := by kernel_rfl
theorem ca64 : callable Tryz.prog 64 = true := by kernel_rfl
theorem ca100 : callable Tryz.prog 100 = true := by kernel_rfl
theorem ca101 : callable Tryz.prog 101 = true := by kernel_rfl
theorem ca67 : callable Tryz.prog 67 = true := by kernel_rfl
theorem ca33 : callable Tryz.prog 33 = true := by kernel_rfl
theorem st85 : stTy Tryz.prog 85 = some ([(0, 1), (1, 1), (2, 1)], [.slice none 0 0, vi 0, vi 0]) := by kernel_rfl
theorem ca36 : callable Tryz.prog 36 = true := by kernel_rfl
theorem ca68 : callable Tryz.prog 68 = true := by kernel_rfl
theorem ca38 : callable Tryz.prog 38 = true := by kernel_rfl
theorem ca37 : callable Tryz.prog 37 = true := by kernel_rfl
theorem ca18 : callable Tryz.prog 18 = true := by kernel_rfl
theorem ca20 : callable Tryz.prog 20 = true := by kernel_rfl
theorem ca4 : callable Tryz.prog 4 = true := by kernel_rfl
theorem ca5 : callable Tryz.prog 5 = true := by kernel_rfl
theorem ca6 : callable Tryz.prog 6 = true := by kernel_rfl
theorem ca7 : callable Tryz.prog 7 = true := by kernel_rfl
theorem ca8 : callable Tryz.prog 8 = true := by kernel_rfl
theorem ca9 : callable Tryz.prog 9 = true := by kernel_rfl
theorem fn4 (l : List Int) (la0 : Option Addr) (lk0 : Nat) (rr : Unit) (hrr : g_New l = rr) : FT Tryz.prog 4 #[vl la0 lk0 l] [S la0 lk0 l] (fun g : Value => True) (fun g => g) (fun g => [Cl g [vl la0 lk0 l, vi 0]]) := by
 refine FTi Tryz.func4 fun w0 M0 F0 => Fb 8 0 fun _ => Fo 0 fun ho2 => ?_
 refine KS ?_
 refine Oq Va (KS ?_)
 refine Oq Vm (Oq (Vbd st34 [vl la0 lk0 l, vi 0]) (Oa (AbO [vl la0 lk0 l, vi 0]) fun p3 => Oq Va (KS ?_)))
 have hq := q4 hrr () (by simp only [g_New, cs4]); subst hq
 exact Kr p3 rfl (.tmp rfl .nil) [0] trivial
theorem fn21 (v : Int) (n : Int) (hv_0 : i64ok v) (hn_0 : i64ok n) (hn1 : 1 ≤ n) (rr : Int) (hrr : g_Mod v n = rr) : FT Tryz.prog 21 #[vi v, vi n] [] (fun g : Unit => i64ok rr ∧ (0 ≤ rr ∧ rr < n)) (fun g => vi rr) (fun g => []) := by
 refine FTi Tryz.func21 fun w0 M0 F0 => ?_
 unfold i64ok at hv_0 hn_0
 have hm := mod_range v n aM1
 refine KS ?_
 refine Oq Va (KS ?_)
 refine Oq Vm (Oq (VcU un3 un93) (Oq Vm (Oq (VcU un3 un93) (Oq (VremU (ofInt_ne n aM1)) (Oq (VcN un93 un3 (h := (mod_le v n aM1))) (Oq Va (KS ?_)))))))
 have hq := q4 hrr (((BitVec.ofInt 64 v) % (BitVec.ofInt 64 n)).toNat : Int) (by simp only [g_Mod, cs4]); subst hq
 exact Kr () rfl (.tmp rfl .nil) [] en
theorem fn10 (tP : Value) (ta : Option Addr) (tk : Nat) (tT : List Int) (tI : Int) (n : Int) (htI : 0 ≤ tI ∧ tI ≤ (tT.length : Int)) (hn_0 : i64ok n) (rr : Int × Int) (hrr : tp_Next tT tI n = rr) : FT Tryz.prog 10 #[tP, vi n] [Cl tP [vl ta tk tT, vi tI], S ta tk tT] (fun g : Unit => i64ok rr.1 ∧ (0 ≤ rr.2 ∧ rr.2 ≤ (tT.length : Int)) ∧ (0 ≤ rr.1 ∧ (rr.1 < n ∨ rr.1 = 0))) (fun g => vi rr.1) (fun g => [Cl tP [vl ta tk tT, vi rr.2]]) := by
 refine FTi Tryz.func10 fun w0 M0 F0 => ?_
 unfold i64ok at hn_0
 refine Fb 8 1 fun _ => Fo 1 fun ho2 => KS ?_
 refine Oq Va (KS ?_)
 refine Jp 0 fun hp3 => ?_
 refine Kq [0, 1, 3, 7, 15, 31, 63, 7, 135, 391, 903, 1927, 4095, 8191] fmix ?_
 refine Qv [] Vm (Qv [] Vleq ?_)
 refine bool_split (decide (n ≤ 1)) ?_ ?_
 ·intro h4
  have g5 := dt h4
  refine Qb h4 [] Vm (Qs (Qs (Qs (Qs (Qs (Qs (Qs (Qs (Qs ?_)))))))))
  refine Qs (Qv [] Vpt ?_)
  refine Qn ⟨by kernel_rfl, ?_⟩
  refine Kt (KS ?_)
  refine Oq Va (KS ?_)
  have hq := q4 hrr (0, tI) (by simp only [tp_Next, h4, cs4]); subst hq
  exact Kr () rfl (.tmp rfl .nil) [1] en
 intro h4
 have g6 := df h4
 refine Qb h4 [] Vm (Qv [] Vm (Qv [0] (Vn 0) (Qv [0] (Vfa fo34_1 0) (Qv [1] (VldF sh3 0) (Qv [] Vm (Qv [0] (Vn 0) (Qv [0] (Vfa fo34_0 0) (Qv [1] (VldF sh22 0) (Qv [] (Vlen sl22) ?_)))))))))
 refine Qv [] Vgeq (Qv [] Vpf ?_)
 refine Qn ⟨by kernel_rfl, ?_⟩
 refine Kc ?_ ?_
 ·intro h7
  have g8 := dt h7
  refine KS ?_
  refine Oq Va (KS ?_)
  have hq := q4 hrr (0, tI) (by simp only [tp_Next, h4, h7, cs4]); subst hq
  exact Kr () rfl (.tmp rfl .nil) [1] en
 intro h7
 have g9 := df h7
 refine KS ?_
 refine Oq Vm (Oq (Vn 1) (Oq (Vfa fo34_1 1) (Oq (VldF sh3 1) (Oq Vadd (Oq (Vn 1) (Oq (Vfa fo34_1 1) (Ost (SclF [1] sh3 [vl ta tk tT, vi (tI + 1)]) (KS ?_))))))))
 refine JK_drawK [0, 1, 3, 7, 0, 16, 48, 112, 240, 511, 1023, 0, 4095, 8191] fmix ?_
 refine Dv [] Vm (Dv [1] (Vn 0) (Dv [1] (Vfa fo34_0 0) (Dv [0] (VldF sh22 0) (Dv [] Vm (Dv [1] (Vn 0) (Dv [1] (Vfa fo34_1 0) (Dv [0] (VldF sh3 0) (Dv [] Vsub (Dv [2] (Vi sl22 0) ?_)))))))))
 have hb10 := ok1 (i := (((tI + 1) - 1) : Int).toNat) ho2 rng
 refine Dv [2] (VldI sh3 0) (Dv [] Vm ?_)
 refine letv (g_Mod (tT.getD (((tI + 1) - 1) : Int).toNat 0) n) fun rv11 hg12 => ?_
 refine Dx [] [] [0] (fun G => vi rv11) [fun G => SP.fact (i64ok rv11 ∧ (0 ≤ rv11 ∧ rv11 < n))] (fun G => xC [] ca21 (fn21 ((tT.getD (((tI + 1) - 1) : Int).toNat 0)) n pre pre pre rv11 hg12)) (Dv [] Va ?_)
 refine Dn ⟨by kernel_rfl, fun G => ?_⟩
 refine Jw2 [(4, vi rv11)] [0, 1, 2] [SP.fact (i64ok rv11 ∧ (0 ≤ rv11 ∧ rv11 < n))] ?_
 refine Jf 3 rfl ?_; rintro ⟨he13, he14⟩
 unfold i64ok at he13
 refine Jk [0, 1] ?_
 have hq := q4 hrr (rv11, (tI + 1)) (by simp only [tp_Next, h4, h7, hg12, cs4]); subst hq
 exact Kr () rfl (.tmp rfl .nil) [0] en
theorem fn13 (tP : Value) (ta : Option Addr) (tk : Nat) (tT : List Int) (tI : Int) (htI : 0 ≤ tI ∧ tI ≤ (tT.length : Int)) (rr : Str × Int) (hrr : tp_name tT tI = rr) : FT Tryz.prog 13 #[tP] [Cl tP [vl ta tk tT, vi tI], S ta tk tT] (fun g : Unit => rr.1.b.length ≤ 140737488355328 ∧ (0 ≤ rr.2 ∧ rr.2 ≤ (tT.length : Int))) (fun g => .string (bs rr.1)) (fun g => [Cl tP [vl ta tk tT, vi rr.2]]) := by
 refine FTi Tryz.func13 fun w0 M0 F0 => Fb 8 1 fun _ => Fo 1 fun ho2 => ?_
 refine KS ?_
 refine Oq Va (KS ?_)
 refine Oa (AsV sl36 sz36 [.string (bs (Str.mk [120])), .string (bs (Str.mk [121])), .string (bs (Str.mk [122])), .string (bs (Str.mk [119]))] [.string (bs (Str.mk [120])), .string (bs (Str.mk [121])), .string (bs (Str.mk [122])), .string (bs (Str.mk [119]))]) fun c3 => ?_
 refine Jo 0 ?_; rintro a4 k5 rfl
 refine Oq Vm ?_
 refine letv (tp_Next tT tI 4) fun rv6 hg7 => ?_
 have hc8 := fn10 tP ta tk tT tI 4 pre pre rv6 hg7
 refine Oc [1, 1] ca10 hc8 ?_
 rintro - ⟨he9, he10, he11⟩
 unfold i64ok at he9
 refine Jl [1] (Ent.crOs (α := Str) (A := []) _ ([(Str.mk [120]), (Str.mk [121]), (Str.mk [122]), (Str.mk [119])] : List Str) _ aB1 (fun h => ⟨[.string (bs (Str.mk [120]))], [.string (bs (Str.mk [121])), .string (bs (Str.mk [122])), .string (bs (Str.mk [119]))], rfl, (fun _ => ⟨rfl, by first | omega | (simp; done) | (dsimp only; omega) | exact lit_bl rfl⟩) h, ⟨[.string (bs (Str.mk [121]))], [.string (bs (Str.mk [122])), .string (bs (Str.mk [119]))], rfl, (fun _ => ⟨rfl, by first | omega | (simp; done) | (dsimp only; omega) | exact lit_bl rfl⟩) h, ⟨[.string (bs (Str.mk [122]))], [.string (bs (Str.mk [119]))], rfl, (fun _ => ⟨rfl, by first | omega | (simp; done) | (dsimp only; omega) | exact lit_bl rfl⟩) h, ⟨[.string (bs (Str.mk [119]))], [], rfl, (fun _ => ⟨rfl, by first | omega | (simp; done) | (dsimp only; omega) | exact lit_bl rfl⟩) h, rfl⟩⟩⟩⟩)) ?_
 refine Oq (Vi sl36 0) ?_
 refine Fb 16 0 fun _ => ?_
 refine FoS 0 fun ho13 => ?_
 have hb14 := okS (i := rv6.1.toNat) ho13 rng
 refine Oq (VldS sh9 0) (Oq Va (KS ?_))
 have hq := q4 hrr (([(Str.mk [120]), (Str.mk [121]), (Str.mk [122]), (Str.mk [119])].getD rv6.1.toNat default), rv6.2) (by simp only [tp_name, hg7, cs4]); subst hq
 exact Kr () rfl (.tmp rfl .nil) [1] en
theorem fn11 (tP : Value) (ta : Option Addr) (tk : Nat) (tT : List Int) (tI : Int) (funcs : Int) (htI : 0 ≤ tI ∧ tI ≤ (tT.length : Int)) (hfuncs_0 : i64ok funcs) (hfu : funcs ≤ 3) (rr : GStmt × Int) (hrr : tp_stmt tT tI funcs = rr) : FT Tryz.prog 11 #[tP, vi funcs] [Cl tP [vl ta tk tT, vi tI], S ta tk tT] (fun g : Value × Value => i64ok rr.1.Op ∧ rr.1.Def.b.length ≤ 140737488355328 ∧ (0 ≤ rr.2 ∧ rr.2 ≤ (tT.length : Int))) (fun g => .agg #[vi rr.1.Op, .string (bs rr.1.Def), g.1, g.2]) (fun g => [os g.1 rr.1.Uses, os g.2 rr.1.Targets, Cl tP [vl ta tk tT, vi rr.2]]) := by
 refine FTi Tryz.func11 fun w0 M0 F0 => ?_
 unfold i64ok at hfuncs_0
 refine Fb 8 1 fun _ => Fo 1 fun ho2 => KS ?_
 refine Oa (Al ze44 [vi 0, .string (bs (Str.mk [])), .slice none 0 0, .slice none 0 0]) fun p3 => KS ?_
 refine Oq Vm ?_
 refine letv (tp_Next tT tI 9) fun rv4 hg5 => ?_
 have hc6 := fn10 tP ta tk tT tI 9 pre pre rv4 hg5
 refine Oc [1, 1] ca10 hc6 ?_
 rintro - ⟨he7, he8, he9⟩
 unfold i64ok at he7
 refine KS ?_
 refine Oq Veql (Oq Va (KS ?_))
 refine Kc ?_ ?_
 ·intro h10
  have g11 := eq_of_beq h10
  refine KS ?_
  refine Oq Vm ?_
  refine letv (tp_name tT rv4.2) fun rv12 hg13 => ?_
  have hc14 := fn13 tP ta tk tT rv4.2 pre rv12 hg13
  refine Oc [0, 1] ca13 hc14 ?_
  rintro - ⟨he15, he16⟩
  refine Oq Vm ?_
  refine letv (tp_name tT rv12.2) fun rv17 hg18 => ?_
  have hc19 := fn13 tP ta tk tT rv12.2 pre rv17 hg18
  refine Oc [0, 1] ca13 hc19 ?_
  rintro - ⟨he20, he21⟩
  refine Oa (AsV sl36 sz36 [.string (bs rv12.1), .string (bs rv17.1)] [.string (bs rv12.1), .string (bs rv17.1)]) fun c22 => ?_
  refine Jo 0 ?_; rintro a23 k24 rfl
  refine Oq Vm ?_
  refine letv (tp_Next tT rv17.2 2) fun rv25 hg26 => ?_
  have hc27 := fn10 tP ta tk tT rv17.2 2 pre pre rv25 hg26
  refine Oc [1, 2] ca10 hc27 ?_
  rintro - ⟨he28, he29, he30⟩
  unfold i64ok at he28
  refine Oq Vadd ?_
  refine Jl [1] (Ent.crOs (α := Str) (A := []) _ ([rv12.1, rv17.1] : List Str) _ aB1 (fun h => ⟨[.string (bs rv12.1)], [.string (bs rv17.1)], rfl, (fun _ => ⟨rfl, by first | omega | (simp; done) | (dsimp only; omega) | exact lit_bl rfl⟩) h, ⟨[.string (bs rv17.1)], [], rfl, (fun _ => ⟨rfl, by first | omega | (simp; done) | (dsimp only; omega) | exact lit_bl rfl⟩) h, rfl⟩⟩)) ?_
  refine Oa (AslO [0] sl36 0 (((1 + rv25.1) : Int).toNat)) fun c31 => ?_
  refine Jo 0 ?_; rintro a32 k33 rfl
  refine Fb 16 0 fun _ => ?_
  refine FoS 0 fun ho35 => ?_
  have hn36 : (([rv12.1, rv17.1].take (((1 + rv25.1) : Int).toNat)).drop 0).length = (((1 + rv25.1) : Int).toNat) - 0 := len_slice rng rng
  refine Oq (Vbd st44 [vi 2, .string (bs (Str.mk [])), .slice a32 ((([rv12.1, rv17.1].take (((1 + rv25.1) : Int).toNat)).drop 0).length) k33, .slice none 0 0]) (Ost (Scl [2] sh44 [vi 2, .string (bs (Str.mk [])), .slice a32 ((([rv12.1, rv17.1].take (((1 + rv25.1) : Int).toNat)).drop 0).length) k33, .slice none 0 0]) (KS ?_))
  refine Jl [] (Ent.osNil (α := Str)) ?_
  have hq := q4 hrr ((GStmt.mk 2 (Str.mk []) (([rv12.1, rv17.1].take (((1 + rv25.1) : Int).toNat)).drop 0) []), rv25.2) (by simp only [tp_stmt, h10, hg5, hg13, hg18, hg26, cs4]); subst hq
  exact Kr (.slice a32 ((([rv12.1, rv17.1].take (((1 + rv25.1) : Int).toNat)).drop 0).length) k33, .slice none 0 0) rfl (.cellN 1 rfl sh44 rfl (reads_Cl _ _) rfl .nil) [2, 0, 1] en
 intro h10
 have g37 := ne_of_beq_false h10
 refine KS ?_
 refine Oq Veql (Oq Va (KS ?_))
 refine Kc ?_ ?_
 ·intro h38
  have g39 := eq_of_beq h38
  refine KS ?_
  refine Oq Vm ?_
  refine letv (tp_name tT rv4.2) fun rv40 hg41 => ?_
  have hc42 := fn13 tP ta tk tT rv4.2 pre rv40 hg41
  refine Oc [0, 1] ca13 hc42 ?_
  rintro - ⟨he43, he44⟩
  refine Oq (Vbd st44 [vi 4, .string (bs rv40.1), .slice none 0 0, .slice none 0 0]) (Ost (Scl [1] sh44 [vi 4, .string (bs rv40.1), .slice none 0 0, .slice none 0 0]) (KS ?_))
  refine Jl [] (Ent.osNil (α := Str)) ?_
  refine Jl [] (Ent.osNil (α := Str)) ?_
  have hq := q4 hrr ((GStmt.mk 4 rv40.1 [] []), rv40.2) (by simp only [tp_stmt, h10, h38, hg5, hg41, cs4]); subst hq
  exact Kr (.slice none 0 0, .slice none 0 0) rfl (.cellN 2 rfl sh44 rfl (reads_Cl _ _) rfl .nil) [1, 0, 1] en
 intro h38
 have g45 := ne_of_beq_false h38
 refine KS ?_
 refine Oq Veql (Oq Va (KS ?_))
 refine Kc ?_ ?_
 ·intro h46
  have g47 := eq_of_beq h46
  refine KS ?_
  refine Oq Vm ?_
  refine letv (tp_name tT rv4.2) fun rv48 hg49 => ?_
  have hc50 := fn13 tP ta tk tT rv4.2 pre rv48 hg49
  refine Oc [0, 1] ca13 hc50 ?_
  rintro - ⟨he51, he52⟩
  refine Oa (AsV sl36 sz36 [.string (bs rv48.1)] [.string (bs rv48.1)]) fun c53 => ?_
  refine Jo 0 ?_; rintro a54 k55 rfl
  refine Oq (Vbd st44 [vi 5, .string (bs (Str.mk [])), .slice a54 1 k55, .slice none 0 0]) (Ost (Scl [2] sh44 [vi 5, .string (bs (Str.mk [])), .slice a54 1 k55, .slice none 0 0]) (KS ?_))
  refine Jl [1] (Ent.cr1 (α := Str) (A := []) _ rv48.1 _ aB1 (fun _ => ⟨rfl, aS1⟩)) ?_
  refine Jl [] (Ent.osNil (α := Str)) ?_
  have hq := q4 hrr ((GStmt.mk 5 (Str.mk []) [rv48.1] []), rv48.2) (by simp only [tp_stmt, h10, h38, h46, hg5, hg49, cs4]); subst hq
  exact Kr (.slice a54 1 k55, .slice none 0 0) rfl (.cellN 2 rfl sh44 rfl (reads_Cl _ _) rfl .nil) [1, 0, 1] en
 intro h46
 have g56 := ne_of_beq_false h46
 refine KS ?_
 refine Oq Veql (Oq Va (KS ?_))
 refine Kc ?_ ?_
 ·intro h57
  have g58 := eq_of_beq h57
  refine KS ?_
  refine Oq Vm ?_
  refine letv (tp_name tT rv4.2) fun rv59 hg60 => ?_
  have hc61 := fn13 tP ta tk tT rv4.2 pre rv59 hg60
  refine Oc [0, 1] ca13 hc61 ?_
  rintro - ⟨he62, he63⟩
  refine Oq (Vbd st44 [vi 6, .string (bs rv59.1), .slice none 0 0, .slice none 0 0]) (Ost (Scl [1] sh44 [vi 6, .string (bs rv59.1), .slice none 0 0, .slice none 0 0]) (KS ?_))
  refine Jl [] (Ent.osNil (α := Str)) ?_
  refine Jl [] (Ent.osNil (α := Str)) ?_
  have hq := q4 hrr ((GStmt.mk 6 rv59.1 [] []), rv59.2) (by simp only [tp_stmt, h10, h38, h46, h57, hg5, hg60, cs4]); subst hq
  exact Kr (.slice none 0 0, .slice none 0 0) rfl (.cellN 2 rfl sh44 rfl (reads_Cl _ _) rfl .nil) [1, 0, 1] en
 intro h57
 have g64 := ne_of_beq_false h57
 refine KS ?_
 refine Oq Veql (Oq Va (KS ?_))
 refine Kc ?_ ?_
 ·intro h65
  have g66 := eq_of_beq h65
  refine KS ?_
  refine Kc ?_ ?_
  ·intro h67
   have g68 := eq_of_beq h67
   refine KS ?_
   refine Oa (AsV sl36 sz36 [.string (bs (Str.mk [109])), .string (bs (Str.mk [102])), .string (bs (Str.mk [103]))] [.string (bs (Str.mk [109])), .string (bs (Str.mk [102])), .string (bs (Str.mk [103]))]) fun c69 => ?_
   refine Jo 0 ?_; rintro a70 k71 rfl
   refine Oq Vm (Oq Vm ?_)
   refine letv (tp_Next tT rv4.2 funcs) fun rv72 hg73 => ?_
   have hc74 := fn10 tP ta tk tT rv4.2 funcs pre pre rv72 hg73
   refine Oc [1, 2] ca10 hc74 ?_
   rintro - ⟨he75, he76, he77⟩
   unfold i64ok at he75
   refine Jl [1] (Ent.crOs (α := Str) (A := []) _ ([(Str.mk [109]), (Str.mk [102]), (Str.mk [103])] : List Str) _ aB1 (fun h => ⟨[.string (bs (Str.mk [109]))], [.string (bs (Str.mk [102])), .string (bs (Str.mk [103]))], rfl, (fun _ => ⟨rfl, by first | omega | (simp; done) | (dsimp only; omega) | exact lit_bl rfl⟩) h, ⟨[.string (bs (Str.mk [102]))], [.string (bs (Str.mk [103]))], rfl, (fun _ => ⟨rfl, by first | omega | (simp; done) | (dsimp only; omega) | exact lit_bl rfl⟩) h, ⟨[.string (bs (Str.mk [103]))], [], rfl, (fun _ => ⟨rfl, by first | omega | (simp; done) | (dsimp only; omega) | exact lit_bl rfl⟩) h, rfl⟩⟩⟩)) ?_
   refine Oq (Vi sl36 0) ?_
   refine Fb 16 0 fun _ => ?_
   refine FoS 0 fun ho79 => ?_
   have hb80 := okS (i := rv72.1.toNat) ho79 rng
   refine Oq (VldS sh9 0) (Oa (AsV sl36 sz36 [.string (bs ([(Str.mk [109]), (Str.mk [102]), (Str.mk [103])].getD rv72.1.toNat default))] [.string (bs ([(Str.mk [109]), (Str.mk [102]), (Str.mk [103])].getD rv72.1.toNat default))]) fun c81 => ?_)
   refine Jo 0 ?_; rintro a82 k83 rfl
   refine Oq (Vbd st44 [vi 3, .string (bs (Str.mk [])), .slice none 0 0, .slice a82 1 k83]) (Ost (Scl [3] sh44 [vi 3, .string (bs (Str.mk [])), .slice none 0 0, .slice a82 1 k83]) (KS ?_))
   refine Jl [] (Ent.osNil (α := Str)) ?_
   refine Jl [2] (Ent.cr1 (α := Str) (A := []) _ ([(Str.mk [109]), (Str.mk [102]), (Str.mk [103])].getD rv72.1.toNat default) _ aB1 (fun _ => ⟨rfl, aS1⟩)) ?_
   have hq := q4 hrr ((GStmt.mk 3 (Str.mk []) [] [([(Str.mk [109]), (Str.mk [102]), (Str.mk [103])].getD rv72.1.toNat default)]), rv72.2) (by simp only [tp_stmt, h10, h38, h46, h57, h65, h67, hg5, hg73, cs4]); subst hq
   exact Kr (.slice none 0 0, .slice a82 1 k83) rfl (.cellN 2 rfl sh44 rfl (reads_Cl _ _) rfl .nil) [1, 0, 2] en
  intro h67
  exact absurd h67 (by first | (simp [h65]; done) | (simp only [bne, h65]; decide) | (simp only [bne, h65, Bool.not_true, Bool.not_false]; decide) | (exfalso; omega) | (intro hq; simp only [bne, hq, Bool.not_false, Bool.not_true, reduceCtorEq] at h65))
 intro h65
 have g84 := ne_of_beq_false h65
 refine KS ?_
 refine Oq Veql (Oq Va (KS ?_))
 refine Kc ?_ ?_
 ·intro h85
  have g86 := eq_of_beq h85
  refine KS ?_
  refine Oa (AsV sl36 sz36 [.string (bs (Str.mk [109])), .string (bs (Str.mk [102])), .string (bs (Str.mk [103]))] [.string (bs (Str.mk [109])), .string (bs (Str.mk [102])), .string (bs (Str.mk [103]))]) fun c87 => ?_
  refine Jo 0 ?_; rintro a88 k89 rfl
  refine Oq Vm (Oq Vm ?_)
  refine letv (tp_Next tT rv4.2 funcs) fun rv90 hg91 => ?_
  have hc92 := fn10 tP ta tk tT rv4.2 funcs pre pre rv90 hg91
  refine Oc [1, 2] ca10 hc92 ?_
  rintro - ⟨he93, he94, he95⟩
  unfold i64ok at he93
  refine Jl [1] (Ent.crOs (α := Str) (A := []) _ ([(Str.mk [109]), (Str.mk [102]), (Str.mk [103])] : List Str) _ aB1 (fun h => ⟨[.string (bs (Str.mk [109]))], [.string (bs (Str.mk [102])), .string (bs (Str.mk [103]))], rfl, (fun _ => ⟨rfl, by first | omega | (simp; done) | (dsimp only; omega) | exact lit_bl rfl⟩) h, ⟨[.string (bs (Str.mk [102]))], [.string (bs (Str.mk [103]))], rfl, (fun _ => ⟨rfl, by first | omega | (simp; done) | (dsimp only; omega) | exact lit_bl rfl⟩) h, ⟨[.string (bs (Str.mk [103]))], [], rfl, (fun _ => ⟨rfl, by first | omega | (simp; done) | (dsimp only; omega) | exact lit_bl rfl⟩) h, rfl⟩⟩⟩)) ?_
  refine Oq (Vi sl36 0) ?_
  refine Fb 16 0 fun _ => ?_
  refine FoS 0 fun ho97 => ?_
  have hb98 := okS (i := rv90.1.toNat) ho97 rng
  refine Oq (VldS sh9 0) (Oa (AsV sl36 sz36 [.string (bs ([(Str.mk [109]), (Str.mk [102]), (Str.mk [103])].getD rv90.1.toNat default))] [.string (bs ([(Str.mk [109]), (Str.mk [102]), (Str.mk [103])].getD rv90.1.toNat default))]) fun c99 => ?_)
  refine Jo 0 ?_; rintro a100 k101 rfl
  refine Oq (Vbd st44 [vi 3, .string (bs (Str.mk [])), .slice none 0 0, .slice a100 1 k101]) (Ost (Scl [3] sh44 [vi 3, .string (bs (Str.mk [])), .slice none 0 0, .slice a100 1 k101]) (KS ?_))
  refine Jl [] (Ent.osNil (α := Str)) ?_
  refine Jl [2] (Ent.cr1 (α := Str) (A := []) _ ([(Str.mk [109]), (Str.mk [102]), (Str.mk [103])].getD rv90.1.toNat default) _ aB1 (fun _ => ⟨rfl, aS1⟩)) ?_
  have hq := q4 hrr ((GStmt.mk 3 (Str.mk []) [] [([(Str.mk [109]), (Str.mk [102]), (Str.mk [103])].getD rv90.1.toNat default)]), rv90.2) (by simp only [tp_stmt, h10, h38, h46, h57, h65, h85, hg5, hg91, cs4]); subst hq
  exact Kr (.slice none 0 0, .slice a100 1 k101) rfl (.cellN 2 rfl sh44 rfl (reads_Cl _ _) rfl .nil) [1, 0, 2] en
 intro h85
 have g102 := ne_of_beq_false h85
 refine KS ?_
 refine Oq Vm ?_
 refine letv (tp_name tT rv4.2) fun rv103 hg104 => ?_
 have hc105 := fn13 tP ta tk tT rv4.2 pre rv103 hg104
 refine Oc [0, 1] ca13 hc105 ?_
 rintro - ⟨he106, he107⟩
 refine Oq Vm ?_
 refine letv (tp_name tT rv103.2) fun rv108 hg109 => ?_
 have hc110 := fn13 tP ta tk tT rv103.2 pre rv108 hg109
 refine Oc [0, 1] ca13 hc110 ?_
 rintro - ⟨he111, he112⟩
 refine Oq Vm ?_
 refine letv (tp_name tT rv108.2) fun rv113 hg114 => ?_
 have hc115 := fn13 tP ta tk tT rv108.2 pre rv113 hg114
 refine Oc [0, 1] ca13 hc115 ?_
 rintro - ⟨he116, he117⟩
 refine Oq Vm ?_
 refine letv (tp_name tT rv113.2) fun rv118 hg119 => ?_
 have hc120 := fn13 tP ta tk tT rv113.2 pre rv118 hg119
 refine Oc [0, 1] ca13 hc120 ?_
 rintro - ⟨he121, he122⟩
 refine Oa (AsV sl36 sz36 [.string (bs rv108.1), .string (bs rv113.1), .string (bs rv118.1)] [.string (bs rv108.1), .string (bs rv113.1), .string (bs rv118.1)]) fun c123 => ?_
 refine Jo 0 ?_; rintro a124 k125 rfl
 refine Oq Vm ?_
 refine letv (tp_Next tT rv118.2 4) fun rv126 hg127 => ?_
 have hc128 := fn10 tP ta tk tT rv118.2 4 pre pre rv126 hg127
 refine Oc [1, 2] ca10 hc128 ?_
 rintro - ⟨he129, he130, he131⟩
 unfold i64ok at he129
 refine Jl [1] (Ent.crOs (α := Str) (A := []) _ ([rv108.1, rv113.1, rv118.1] : List Str) _ aB1 (fun h => ⟨[.string (bs rv108.1)], [.string (bs rv113.1), .string (bs rv118.1)], rfl, (fun _ => ⟨rfl, by first | omega | (simp; done) | (dsimp only; omega) | exact lit_bl rfl⟩) h, ⟨[.string (bs rv113.1)], [.string (bs rv118.1)], rfl, (fun _ => ⟨rfl, by first | omega | (simp; done) | (dsimp only; omega) | exact lit_bl rfl⟩) h, ⟨[.string (bs rv118.1)], [], rfl, (fun _ => ⟨rfl, by first | omega | (simp; done) | (dsimp only; omega) | exact lit_bl rfl⟩) h, rfl⟩⟩⟩)) ?_
 refine Oa (AslO [0] sl36 0 (rv126.1.toNat)) fun c132 => ?_
 refine Jo 0 ?_; rintro a133 k134 rfl
 refine Fb 16 0 fun _ => ?_
 refine FoS 0 fun ho136 => ?_
 have hn137 : (([rv108.1, rv113.1, rv118.1].take (rv126.1.toNat)).drop 0).length = (rv126.1.toNat) - 0 := len_slice rng rng
 refine Oq (Vbd st44 [vi 1, .string (bs rv103.1), vl a133 k134 (([rv108.1, rv113.1, rv118.1].take (rv126.1.toNat)).drop 0), .slice none 0 0]) (Ost (Scl [2] sh44 [vi 1, .string (bs rv103.1), vl a133 k134 (([rv108.1, rv113.1, rv118.1].take (rv126.1.toNat)).drop 0), .slice none 0 0]) (KS ?_))
 refine Jl [] (Ent.osNil (α := Str)) ?_
 have hq := q4 hrr ((GStmt.mk 1 rv103.1 (([rv108.1, rv113.1, rv118.1].take (rv126.1.toNat)).drop 0) []), rv126.2) (by simp only [tp_stmt, h10, h38, h46, h57, h65, h85, hg5, hg104, hg109, hg114, hg119, hg127, cs4]); subst hq
 exact Kr (vl a133 k134 (([rv108.1, rv113.1, rv118.1].take (rv126.1.toNat)).drop 0), .slice none 0 0) rfl (.cellN 1 rfl sh44 rfl (reads_Cl _ _) rfl .nil) [2, 0, 1] en
theorem fn12 (i : Int) (hi_0 : i64ok i) (hi2 : (0 ≤ i ∧ i < 3)) (rr : Str) (hrr : g_func2 i = rr) : FT Tryz.prog 12 #[vi i] [] (fun g : Unit => rr.b.length ≤ 140737488355328) (fun g => .string (bs rr)) (fun g => []) := by
 refine FTi Tryz.func12 fun w0 M0 F0 => ?_
 unfold i64ok at hi_0
 refine KS ?_
 refine Oq Va (KS ?_)
 refine Oa (AsV sl36 sz36 [.string (bs (Str.mk [97])), .string (bs (Str.mk [98])), .string (bs (Str.mk [99]))] [.string (bs (Str.mk [97])), .string (bs (Str.mk [98])), .string (bs (Str.mk [99]))]) fun c1 => ?_
 refine Jo 0 ?_; rintro a2 k3 rfl
 refine Oq Vm ?_
 refine Jl [0] (Ent.crOs (α := Str) (A := []) _ ([(Str.mk [97]), (Str.mk [98]), (Str.mk [99])] : List Str) _ aB1 (fun h => ⟨[.string (bs (Str.mk [97]))], [.string (bs (Str.mk [98])), .string (bs (Str.mk [99]))], rfl, (fun _ => ⟨rfl, by first | omega | (simp; done) | (dsimp only; omega) | exact lit_bl rfl⟩) h, ⟨[.string (bs (Str.mk [98]))], [.string (bs (Str.mk [99]))], rfl, (fun _ => ⟨rfl, by first | omega | (simp; done) | (dsimp only; omega) | exact lit_bl rfl⟩) h, ⟨[.string (bs (Str.mk [99]))], [], rfl, (fun _ => ⟨rfl, by first | omega | (simp; done) | (dsimp only; omega) | exact lit_bl rfl⟩) h, rfl⟩⟩⟩)) ?_
 refine Oq (Vi sl36 0) ?_
 refine Fb 16 0 fun _ => ?_
 refine FoS 0 fun ho5 => ?_
 have hb6 := okS (i := i.toNat) ho5 rng
 refine Oq (VldS sh9 0) (Oq Va (KS ?_))
 have hq := q4 hrr ([(Str.mk [97]), (Str.mk [98]), (Str.mk [99])].getD i.toNat default) (by simp only [g_func2, cs4]); subst hq
 exact Kr () rfl (.tmp rfl .nil) [] en
theorem fn5 (tP : Value) (ta : Option Addr) (tk : Nat) (tT : List Int) (tI : Int) (htI : 0 ≤ tI ∧ tI ≤ (tT.length : Int)) (rr : GProgram × Int) (hrr : tp_Program tT tI = rr) : FT Tryz.prog 5 #[tP] [Cl tP [vl ta tk tT, vi tI], S ta tk tT] (fun g : Value => (0 ≤ rr.2 ∧ rr.2 ≤ (tT.length : Int))) (fun g => .agg #[g]) (fun g => [sl g rr.1.Funcs, Cl tP [vl ta tk tT, vi rr.2]]) := by
 refine FTi Tryz.func5 fun w0 M0 F0 => Fb 8 1 fun _ => Fo 1 fun ho2 => ?_
 refine KS ?_
 refine Oa (Al ze25 [.slice none 0 0]) fun p3 => KS ?_
 refine Oa (Al ze25 [.slice none 0 0]) fun p4 => KS ?_
 refine Oq Vm ?_
 refine letv (tp_Next tT tI 3) fun rv5 hg6 => ?_
 have hc7 := fn10 tP ta tk tT tI 3 pre pre rv5 hg6
 refine Oc [2, 2] ca10 hc7 ?_
 rintro - ⟨he8, he9, he10⟩
 unfold i64ok at he8
 refine Oq Vadd (Oq Va (KS ?_))
 refine Oq Va (KS ?_)
 refine Jl [] (Ent.osNil (α := GFunc)) ?_
 refine Kl (γ := Nat × Int × List GFunc × Int × Option Addr × Nat) (fun (r11, ti_12, p0_13, i_14, a15, k16) => ⟨[(0, tP), (2, p3), (3, p4), (4, vi (1 + rv5.1)), (5, vi i_14)], [O a15 k16 p0_13, Cl tP [vl ta tk tT, vi ti_12], Cl p4 [vl a15 k16 p0_13], Cl p3 [.slice none 0 0], S ta tk tT], tp_Program_L0 tT (1 + rv5.1) r11 ti_12 p0_13 i_14 = tp_Program_L0 tT (1 + rv5.1) ((((1 + rv5.1) : Int) - 0).toNat) rv5.2 [] 0 ∧ r11 = (((1 + rv5.1) : Int) - i_14).toNat ∧ (0 : Int) ≤ i_14 ∧ (i_14 ≤ (1 + rv5.1) ∨ i_14 = 0) ∧ (-9223372036854775808 ≤ ti_12 ∧ ti_12 ≤ 9223372036854775807) ∧ (0 ≤ ti_12 ∧ ti_12 ≤ (tT.length : Int)) ∧ (-9223372036854775808 ≤ i_14 ∧ i_14 ≤ 9223372036854775807) ∧ ((p0_13.length : Int) = i_14), r11⟩) ((((1 + rv5.1) : Int) - 0).toNat, rv5.2, [], 0, none, 0) [0, 0, 0, 0, 0] ⟨rfl, rfl, aM1, (.inr rfl), aM1, aM1, aM1, iv0⟩ ?_
 rintro ⟨r11, ti_12, p0_13, i_14, a15, k16⟩ ⟨hM17, hr18, hi19, hi20, hk21, ht22, hk23, hv24⟩
 refine JJ_nx fun _ _ hL hA => ?_; dsimp only at hL hA; subst hL hA
 refine Fb 40 0 fun _ => Fb 8 4 fun _ => Fo 4 fun ho27 => KS ?_
 refine Oq Vm (Oq Vm (Oq Vlss (KS ?_)))
 refine Kc ?_ ?_
 ·intro h28
  have g29 := dt h28
  obtain ⟨r30, rfl⟩ := scc (n := r11) aM1
  refine KS ?_
  refine Oa (AsV sl36 sz36 [.string (bs (Str.mk [109])), .string (bs (Str.mk [102])), .string (bs (Str.mk [103]))] [.string (bs (Str.mk [109])), .string (bs (Str.mk [102])), .string (bs (Str.mk [103]))]) fun c31 => ?_
  refine Jo 0 ?_; rintro a32 k33 rfl
  refine Oq Vm ?_
  refine Jl [0] (Ent.crOs (α := Str) (A := []) _ ([(Str.mk [109]), (Str.mk [102]), (Str.mk [103])] : List Str) _ aB1 (fun h => ⟨[.string (bs (Str.mk [109]))], [.string (bs (Str.mk [102])), .string (bs (Str.mk [103]))], rfl, (fun _ => ⟨rfl, by first | omega | (simp; done) | (dsimp only; omega) | exact lit_bl rfl⟩) h, ⟨[.string (bs (Str.mk [102]))], [.string (bs (Str.mk [103]))], rfl, (fun _ => ⟨rfl, by first | omega | (simp; done) | (dsimp only; omega) | exact lit_bl rfl⟩) h, ⟨[.string (bs (Str.mk [103]))], [], rfl, (fun _ => ⟨rfl, by first | omega | (simp; done) | (dsimp only; omega) | exact lit_bl rfl⟩) h, rfl⟩⟩⟩)) ?_
  refine Oq (Vi sl36 0) ?_
  refine Fb 16 0 fun _ => ?_
  refine FoS 0 fun ho35 => ?_
  have hb36 := okS (i := i_14.toNat) ho35 rng
  refine Oq (VldS sh9 0) (Oq (Vbd st39 [.string (bs ([(Str.mk [109]), (Str.mk [102]), (Str.mk [103])].getD i_14.toNat default)), .slice none 0 0]) (Oa (Al ze39 [.string (bs (Str.mk [])), .slice none 0 0]) fun p37 => Ost (Scl [0] sh39 [.string (bs ([(Str.mk [109]), (Str.mk [102]), (Str.mk [103])].getD i_14.toNat default)), .slice none 0 0]) (KS ?_)))
  refine Oq Vm ?_
  refine letv (tp_Next tT ti_12 3) fun rv38 hg39 => ?_
  have hc40 := fn10 tP ta tk tT ti_12 3 pre pre rv38 hg39
  refine Oc [3, 5] ca10 hc40 ?_
  rintro - ⟨he41, he42, he43⟩
  unfold i64ok at he41
  refine Oq Vadd (Oq Va (KS ?_))
  refine Oq Va (KS ?_)
  refine Jl [] (Ent.osNil (α := GBlock)) ?_
  refine Kl (γ := Nat × Int × List GBlock × Int × Option Addr × Nat) (fun (r44, ti_45, f1_46, k_47, a48, k49) => ⟨[(0, tP), (2, p3), (3, p4), (4, vi (1 + rv5.1)), (5, vi i_14), (6, p37), (7, vi (1 + rv38.1)), (8, vi k_47)], [O a48 k49 f1_46, Cl tP [vl ta tk tT, vi ti_45], Cl p37 [.string (bs ([(Str.mk [109]), (Str.mk [102]), (Str.mk [103])].getD i_14.toNat default)), vl a48 k49 f1_46], O a15 k16 p0_13, Cl p4 [vl a15 k16 p0_13], Cl p3 [.slice none 0 0], S ta tk tT], tp_Program_L1 tT (1 + rv5.1) (1 + rv38.1) r44 ti_45 f1_46 k_47 = tp_Program_L1 tT (1 + rv5.1) (1 + rv38.1) ((((1 + rv38.1) : Int) - 0).toNat) rv38.2 [] 0 ∧ r44 = (((1 + rv38.1) : Int) - k_47).toNat ∧ (0 : Int) ≤ k_47 ∧ (k_47 ≤ (1 + rv38.1) ∨ k_47 = 0) ∧ (-9223372036854775808 ≤ ti_45 ∧ ti_45 ≤ 9223372036854775807) ∧ (0 ≤ ti_45 ∧ ti_45 ≤ (tT.length : Int)) ∧ (-9223372036854775808 ≤ k_47 ∧ k_47 ≤ 9223372036854775807) ∧ ((f1_46.length : Int) = k_47), r44⟩) ((((1 + rv38.1) : Int) - 0).toNat, rv38.2, [], 0, none, 0) [0, 0, 0, 1, 1, 1, 1] ⟨rfl, rfl, aM1, (.inr rfl), aM1, aM1, aM1, iv0⟩ ?_
  rintro ⟨r44, ti_45, f1_46, k_47, a48, k49⟩ ⟨hM50, hr51, hi52, hi53, hk54, ht55, hk56, hv57⟩
  refine JJ_nx fun _ _ hL hA => ?_; dsimp only at hL hA; subst hL hA
  refine Fb 40 0 fun _ => Fb 40 3 fun _ => Fb 8 6 fun _ => Fo 6 fun ho61 => KS ?_
  refine Oq Vm (Oq Vm (Oq Vlss (KS ?_)))
  refine Kc ?_ ?_
  ·intro h62
   have g63 := dt h62
   obtain ⟨r64, rfl⟩ := scc (n := r44) aM1
   refine KS ?_
   refine Oa (AsV sl36 sz36 [.string (bs (Str.mk [97])), .string (bs (Str.mk [98])), .string (bs (Str.mk [99]))] [.string (bs (Str.mk [97])), .string (bs (Str.mk [98])), .string (bs (Str.mk [99]))]) fun c65 => ?_
   refine Jo 0 ?_; rintro a66 k67 rfl
   refine Oq Vm ?_
   refine Jl [0] (Ent.crOs (α := Str) (A := []) _ ([(Str.mk [97]), (Str.mk [98]), (Str.mk [99])] : List Str) _ aB1 (fun h => ⟨[.string (bs (Str.mk [97]))], [.string (bs (Str.mk [98])), .string (bs (Str.mk [99]))], rfl, (fun _ => ⟨rfl, by first | omega | (simp; done) | (dsimp only; omega) | exact lit_bl rfl⟩) h, ⟨[.string (bs (Str.mk [98]))], [.string (bs (Str.mk [99]))], rfl, (fun _ => ⟨rfl, by first | omega | (simp; done) | (dsimp only; omega) | exact lit_bl rfl⟩) h, ⟨[.string (bs (Str.mk [99]))], [], rfl, (fun _ => ⟨rfl, by first | omega | (simp; done) | (dsimp only; omega) | exact lit_bl rfl⟩) h, rfl⟩⟩⟩)) ?_
   refine Oq (Vi sl36 0) ?_
   refine Fb 16 0 fun _ => ?_
   refine FoS 0 fun ho69 => ?_
   have hb70 := okS (i := k_47.toNat) ho69 rng
   refine Oq (VldS sh9 0) (Oq (Vbd st42 [.string (bs ([(Str.mk [97]), (Str.mk [98]), (Str.mk [99])].getD k_47.toNat default)), .slice none 0 0]) (Oa (Al ze42 [.string (bs (Str.mk [])), .slice none 0 0]) fun p71 => Ost (Scl [0] sh42 [.string (bs ([(Str.mk [97]), (Str.mk [98]), (Str.mk [99])].getD k_47.toNat default)), .slice none 0 0]) (KS ?_)))
   refine Oq Vm ?_
   refine letv (tp_Next tT ti_45 4) fun rv72 hg73 => ?_
   have hc74 := fn10 tP ta tk tT ti_45 4 pre pre rv72 hg73
   refine Oc [3, 7] ca10 hc74 ?_
   rintro - ⟨he75, he76, he77⟩
   unfold i64ok at he75
   refine Oq Va (KS ?_)
   refine Jl [] (Ent.osNil (α := GStmt)) ?_
   refine Kl (γ := Nat × Int × List GStmt × Int × Option Addr × Nat) (fun (r78, ti_79, b1_80, n_81, a82, k83) => ⟨[(0, tP), (2, p3), (3, p4), (4, vi (1 + rv5.1)), (5, vi i_14), (6, p37), (7, vi (1 + rv38.1)), (8, vi k_47), (9, p71), (10, vi n_81)], [O a82 k83 b1_80, Cl tP [vl ta tk tT, vi ti_79], Cl p71 [.string (bs ([(Str.mk [97]), (Str.mk [98]), (Str.mk [99])].getD k_47.toNat default)), vl a82 k83 b1_80], O a48 k49 f1_46, Cl p37 [.string (bs ([(Str.mk [109]), (Str.mk [102]), (Str.mk [103])].getD i_14.toNat default)), vl a48 k49 f1_46], O a15 k16 p0_13, Cl p4 [vl a15 k16 p0_13], Cl p3 [.slice none 0 0], S ta tk tT], tp_Program_L2 tT (1 + rv5.1) r78 ti_79 b1_80 n_81 = tp_Program_L2 tT (1 + rv5.1) (rv72.1.toNat) rv72.2 [] rv72.1 ∧ r78 = n_81.toNat ∧ n_81 ≤ (rv72.1 : Int) ∧ (-9223372036854775808 ≤ ti_79 ∧ ti_79 ≤ 9223372036854775807) ∧ (0 ≤ ti_79 ∧ ti_79 ≤ (tT.length : Int)) ∧ (-9223372036854775808 ≤ n_81 ∧ n_81 ≤ 9223372036854775807) ∧ ((b1_80.length : Int) + n_81 ≤ 3 ∧ 0 ≤ n_81), r78⟩) (rv72.1.toNat, rv72.2, [], rv72.1, none, 0) [0, 0, 0, 1, 1, 1, 1, 1, 1] ⟨rfl, rfl, aM1, aM1, aM1, aM1, iv0⟩ ?_
   rintro ⟨r78, ti_79, b1_80, n_81, a82, k83⟩ ⟨hM84, hr85, hi86, hk87, ht88, hk89, hv90⟩
   refine JJ_nx fun _ _ hL hA => ?_; dsimp only at hL hA; subst hL hA
   refine Fb 72 0 fun _ => Fb 40 3 fun _ => Fb 40 5 fun _ => Fb 8 8 fun _ => Fo 8 fun ho95 => KS ?_
   refine Oq Vm (Oq Vgtr (KS ?_))
   refine Kc ?_ ?_
   ·intro h96
    have g97 := dt h96
    obtain ⟨r98, rfl⟩ := scc (n := r78) aM1
    refine KS ?_
    refine Jp 2 fun hp99 => ?_
    refine JK_drawK [0, 1, 0, 0, 12, 28, 63, 127, 255] fmix ?_
    refine Dv [0] (Vfa fo42_1 0) (Dv [3] (VldF sh40 0) (Dv [] Vm (Dv [] Vm ?_)))
    refine letv (tp_stmt tT ti_79 (1 + rv5.1)) fun rv102 hg103 => ?_
    refine Dx [2, 9] [2] [4, 0, 1, 1, 1] (fun G => .agg #[vi rv102.1.Op, .string (bs rv102.1.Def), (G.g 4 0), (G.g 4 1)]) [fun G => SP.fact (i64ok rv102.1.Op ∧ rv102.1.Def.b.length ≤ 140737488355328 ∧ (0 ≤ rv102.2 ∧ rv102.2 ≤ (tT.length : Int))), fun G => os (G.g 4 0) rv102.1.Uses, fun G => os (G.g 4 1) rv102.1.Targets, fun G => Cl tP [vl ta tk tT, vi rv102.2]] (fun G => xC [0, 0] ca11 (fn11 tP ta tk tT ti_79 ((1 + rv5.1)) pre pre pre rv102 hg103)) (Dx [] [] [0] (fun G => (G.g 5 0)) [fun G => Cr (G.g 5 0) 1 [vi rv102.1.Op, .string (bs rv102.1.Def), (G.g 4 0), (G.g 4 1)]] (fun G => xA (AsV sl40 sz40 [.agg #[vi rv102.1.Op, .string (bs rv102.1.Def), (G.g 4 0), (G.g 4 1)]] [vi rv102.1.Op, .string (bs rv102.1.Def), (G.g 4 0), (G.g 4 1)])) ?_)
    have hn106 := la b1_80 ([rv102.1] : List GStmt)
    refine Dx [1, 10, 11, 12, 14] [1, 11, 12, 14] [5, 1, 2, 0] (fun G => (G.g 6 0)) [fun G => sl (G.g 4 0) rv102.1.Uses, fun G => sl (G.g 4 1) rv102.1.Targets, fun G => os (G.g 6 0) ((b1_80 ++ [rv102.1]) : List GStmt)] (fun G => by refine xf 1 rfl ?_; rintro ⟨he107, he108, he109⟩; unfold i64ok at he107; exact xp [2] rfl (Ent.freeze _ _) (xp [3] rfl (Ent.freeze _ _) (xp [4, 1, 0] rfl (Ent.cr1 (α := GStmt) (A := [sl (G.g 4 0) rv102.1.Uses, sl (G.g 4 1) rv102.1.Targets]) _ rv102.1 _ aB1 (fun h => ⟨_, _, rfl, aL1, aS1, sepAll_get (i := 0) rfl h, sepAll_get (i := 1) rfl h⟩)) (xA (ApO [5, 0] sl40 sl40 sz40))))) (Dv [0] (Vfa fo42_1 0) (Dx0 [3, 17] [3] [1, 0] [fun G => Cl p71 [.string (bs ([(Str.mk [97]), (Str.mk [98]), (Str.mk [99])].getD k_47.toNat default)), (G.g 6 0)]] (fun G => x1 1 rfl os_one fun ho110 => (xS (OpS.frame [0] rfl (OpS.storeClF [(G.g 6 0)] [.string (bs ([(Str.mk [97]), (Str.mk [98]), (Str.mk [99])].getD k_47.toNat default)), (G.g 6 0)] rfl rfl rfl sh40 (cells_of_one ho110) rfl (by simp only [List.all_cons, List.all_nil, ho110, Bool.and_true, Bool.true_and] <;> rfl) aB1 rfl)))) ?_))
    refine Dn ⟨by kernel_rfl, fun G => ?_⟩
    refine Jw2 [(0, tP), (2, p3), (3, p4), (4, vi (1 + rv5.1)), (5, vi i_14), (6, p37), (7, vi (1 + rv38.1)), (8, vi k_47), (9, p71), (10, vi n_81)] [0, 4, 5, 6, 7, 8, 9] [SP.fact (i64ok rv102.1.Op ∧ rv102.1.Def.b.length ≤ 140737488355328 ∧ (0 ≤ rv102.2 ∧ rv102.2 ≤ (tT.length : Int))), Cl tP [vl ta tk tT, vi rv102.2], sl (G.g 4 0) rv102.1.Uses, sl (G.g 4 1) rv102.1.Targets, os (G.g 6 0) ((b1_80 ++ [rv102.1]) : List GStmt), Cl p71 [.string (bs ([(Str.mk [97]), (Str.mk [98]), (Str.mk [99])].getD k_47.toNat default)), (G.g 6 0)]] ?_
    generalize G.g 4 0 = c100, G.g 4 1 = c101, G.g 6 0 = c105
    refine Jf 7 rfl ?_; rintro ⟨he111, he112, he113⟩
    unfold i64ok at he111
    refine Jk [1, 1, 1, 1, 1, 1, 3, 3, 4, 5, 5] ?_
    refine Jo 7 ?_; rintro a114 k115 rfl
    refine Fb 16 7 fun _ => ?_
    refine FoS 7 fun ho117 => ?_
    refine Jo 8 ?_; rintro a118 k119 rfl
    refine Fb 16 8 fun _ => ?_
    refine FoS 8 fun ho121 => ?_
    refine Jo 9 ?_; rintro a122 k123 rfl
    refine Fb 72 9 fun _ => KS ?_
    refine Oq Vm (Oq Vsub (Oq Va (KS ?_)))
    exact Kg (r98, rv102.2, (b1_80 ++ [rv102.1]), (n_81 - 1), a122, k123) [9, 6, 8, 0, 0, 0, 0, 0, 0] ⟨(q3 hM84 (by simp only [tp_Program_L2, h96, hg103, cs4])), aM1, aM1, aM1, aM1, aM1, iv1⟩
   intro h96
   have g125 := df h96
   obtain rfl : r78 = 0 := by omega
   refine Ke ?_
   have hR126 := q2 hM84 (ti_79, b1_80) (by simp only [tp_Program_L2, h96, cs4])
   refine KS ?_
   refine Oq Vm (Oq Vm ?_)
   refine letv (tp_Next tT ti_79 (1 + rv38.1)) fun rv127 hg128 => ?_
   have hc129 := fn10 tP ta tk tT ti_79 ((1 + rv38.1)) pre pre rv127 hg128
   refine Oc [1, 7] ca10 hc129 ?_
   rintro - ⟨he130, he131, he132⟩
   unfold i64ok at he130
   refine letv (g_func2 rv127.1) fun rv133 hg134 => ?_
   have hc135 := fn12 rv127.1 pre pre rv133 hg134
   refine Oc [] ca12 hc135 ?_
   rintro - he136
   refine Oq Va (KS ?_)
   refine Oq Vm ?_
   refine letv (tp_Next tT rv127.2 4) fun rv137 hg138 => ?_
   have hc139 := fn10 tP ta tk tT rv127.2 4 pre pre rv137 hg138
   refine Oc [0, 7] ca10 hc139 ?_
   rintro - ⟨he140, he141, he142⟩
   unfold i64ok at he140
   refine KS ?_
   refine Oq Veql (Oq Va (KS ?_))
   refine Kc ?_ ?_
   ·intro h143
    have g144 := eq_of_beq h143
    refine KS ?_
    refine Oq (Vfa fo42_1 2) (Oq (VldF sh40 2) (Oq (Vbd st44 [vi 9, .string (bs (Str.mk [])), .slice none 0 0, .slice none 0 0]) (Oa (AsV sl40 sz40 [.agg #[vi 9, .string (bs (Str.mk [])), .slice none 0 0, .slice none 0 0]] [vi 9, .string (bs (Str.mk [])), .slice none 0 0, .slice none 0 0]) fun c145 => ?_)))
    refine Jo 0 ?_; rintro a146 k147 rfl
    refine Jl [0] (Ent.cr1 (α := GStmt) (A := []) _ (GStmt.mk 9 (Str.mk []) [] []) _ aB1 (fun h => ⟨_, _, rfl, aL1, aS1, slrd_nil, slrd_nil⟩)) ?_
    refine Oa (ApO [2, 0] sl40 sl40 sz40) fun c148 => ?_
    refine Jo 0 ?_; rintro a149 k150 rfl
    refine Fb 72 0 fun _ => ?_
    have hn152 := la b1_80 ([(GStmt.mk 9 (Str.mk []) [] [])] : List GStmt)
    refine Oq (Vfa fo42_1 2) (Ost (SclF [2] sh40 [.string (bs ([(Str.mk [97]), (Str.mk [98]), (Str.mk [99])].getD k_47.toNat default)), vl a149 k150 (b1_80 ++ [(GStmt.mk 9 (Str.mk []) [] [])])]) (KS ?_))
    refine Oq (Vfa fo39_1 4) (Oq (VldF sh37 4) (Oq (VldA sh42 0) (Oa (AsV sl37 sz37 [.agg #[.string (bs ([(Str.mk [97]), (Str.mk [98]), (Str.mk [99])].getD k_47.toNat default)), vl a149 k150 (b1_80 ++ [(GStmt.mk 9 (Str.mk []) [] [])])]] [.string (bs ([(Str.mk [97]), (Str.mk [98]), (Str.mk [99])].getD k_47.toNat default)), vl a149 k150 (b1_80 ++ [(GStmt.mk 9 (Str.mk []) [] [])])]) fun c153 => ?_)))
    refine Jo 0 ?_; rintro a154 k155 rfl
    refine Jl [2] (Ent.freeze _ _) ?_
    refine Jl [1, 0] (Ent.cr1 (α := GBlock) (A := [S a149 k150 ((b1_80 ++ [(GStmt.mk 9 (Str.mk []) [] [])]) : List GStmt)]) _ (GBlock.mk ([(Str.mk [97]), (Str.mk [98]), (Str.mk [99])].getD k_47.toNat default) (b1_80 ++ [(GStmt.mk 9 (Str.mk []) [] [])])) _ aB1 (fun h => ⟨_, rfl, aS1, sepAll_get (i := 0) rfl h⟩)) ?_
    refine Oa (ApO [5, 0] sl37 sl37 sz37) fun c156 => ?_
    refine Jo 0 ?_; rintro a157 k158 rfl
    refine Fb 40 0 fun _ => ?_
    have hn160 := la f1_46 ([(GBlock.mk ([(Str.mk [97]), (Str.mk [98]), (Str.mk [99])].getD k_47.toNat default) (b1_80 ++ [(GStmt.mk 9 (Str.mk []) [] [])]))] : List GBlock)
    refine Oq (Vfa fo39_1 5) (Ost (SclF [5] sh37 [.string (bs ([(Str.mk [109]), (Str.mk [102]), (Str.mk [103])].getD i_14.toNat default)), .slice a157 ((f1_46 ++ [(GBlock.mk ([(Str.mk [97]), (Str.mk [98]), (Str.mk [99])].getD k_47.toNat default) (b1_80 ++ [(GStmt.mk 9 (Str.mk []) [] [])]))]).length) k158]) (KS ?_))
    refine Oq Vm (Oq Vadd (Oq Va (KS ?_)))
    exact Kg (r64, rv137.2, (f1_46 ++ [(GBlock.mk ([(Str.mk [97]), (Str.mk [98]), (Str.mk [99])].getD k_47.toNat default) (b1_80 ++ [(GStmt.mk 9 (Str.mk []) [] [])]))]), (k_47 + 1), a157, k158) [1, 4, 0, 3, 3, 3, 3] ⟨(q3 hM50 (by simp only [tp_Program_L1, h62, h96, h143, hg73, hR126, hg128, hg134, hg138, cs4])), aM1, aM1, aM1, aM1, aM1, aM1, iv1⟩
   intro h143
   have g161 := ne_of_beq_false h143
   refine KS ?_
   refine Oq Veql (Oq Va (KS ?_))
   refine Kc ?_ ?_
   ·intro h162
    have g163 := eq_of_beq h162
    refine KS ?_
    refine Oq (Vfa fo42_1 2) (Oq (VldF sh40 2) (Oq Vm (Oa (AsV sl36 sz36 [.string (bs rv133)] [.string (bs rv133)]) fun c164 => ?_)))
    refine Jo 0 ?_; rintro a165 k166 rfl
    refine Oq (Vbd st44 [vi 7, .string (bs (Str.mk [])), .slice none 0 0, .slice a165 1 k166]) (Oa (AsV sl40 sz40 [.agg #[vi 7, .string (bs (Str.mk [])), .slice none 0 0, .slice a165 1 k166]] [vi 7, .string (bs (Str.mk [])), .slice none 0 0, .slice a165 1 k166]) fun c167 => ?_)
    refine Jo 0 ?_; rintro a168 k169 rfl
    refine Jl [1] (Ent.cr1 (α := Str) (A := []) _ rv133 _ aB1 (fun _ => ⟨rfl, aS1⟩)) ?_
    refine Jl [0] (Ent.freeze _ _) ?_
    refine Jl [1, 0] (Ent.cr1 (α := GStmt) (A := [sl (.slice a165 1 k166) ([rv133] : List Str)]) _ (GStmt.mk 7 (Str.mk []) [] [rv133]) _ aB1 (fun h => ⟨_, _, rfl, aL1, aS1, slrd_nil, sepAll_get (i := 0) rfl h⟩)) ?_
    refine Oa (ApO [4, 0] sl40 sl40 sz40) fun c170 => ?_
    refine Jo 0 ?_; rintro a171 k172 rfl
    refine Fb 72 0 fun _ => ?_
    have hn174 := la b1_80 ([(GStmt.mk 7 (Str.mk []) [] [rv133])] : List GStmt)
    refine Oq (Vfa fo42_1 4) (Ost (SclF [4] sh40 [.string (bs ([(Str.mk [97]), (Str.mk [98]), (Str.mk [99])].getD k_47.toNat default)), vl a171 k172 (b1_80 ++ [(GStmt.mk 7 (Str.mk []) [] [rv133])])]) (KS ?_))
    refine Oq (Vfa fo39_1 6) (Oq (VldF sh37 6) (Oq (VldA sh42 0) (Oa (AsV sl37 sz37 [.agg #[.string (bs ([(Str.mk [97]), (Str.mk [98]), (Str.mk [99])].getD k_47.toNat default)), vl a171 k172 (b1_80 ++ [(GStmt.mk 7 (Str.mk []) [] [rv133])])]] [.string (bs ([(Str.mk [97]), (Str.mk [98]), (Str.mk [99])].getD k_47.toNat default)), vl a171 k172 (b1_80 ++ [(GStmt.mk 7 (Str.mk []) [] [rv133])])]) fun c175 => ?_)))
    refine Jo 0 ?_; rintro a176 k177 rfl
    refine Jl [2] (Ent.freeze _ _) ?_
    refine Jl [1, 0] (Ent.cr1 (α := GBlock) (A := [S a171 k172 ((b1_80 ++ [(GStmt.mk 7 (Str.mk []) [] [rv133])]) : List GStmt)]) _ (GBlock.mk ([(Str.mk [97]), (Str.mk [98]), (Str.mk [99])].getD k_47.toNat default) (b1_80 ++ [(GStmt.mk 7 (Str.mk []) [] [rv133])])) _ aB1 (fun h => ⟨_, rfl, aS1, sepAll_get (i := 0) rfl h⟩)) ?_
    refine Oa (ApO [7, 0] sl37 sl37 sz37) fun c178 => ?_
    refine Jo 0 ?_; rintro a179 k180 rfl
    refine Fb 40 0 fun _ => ?_
    have hn182 := la f1_46 ([(GBlock.mk ([(Str.mk [97]), (Str.mk [98]), (Str.mk [99])].getD k_47.toNat default) (b1_80 ++ [(GStmt.mk 7 (Str.mk []) [] [rv133])]))] : List GBlock)
    refine Oq (Vfa fo39_1 7) (Ost (SclF [7] sh37 [.string (bs ([(Str.mk [109]), (Str.mk [102]), (Str.mk [103])].getD i_14.toNat default)), .slice a179 ((f1_46 ++ [(GBlock.mk ([(Str.mk [97]), (Str.mk [98]), (Str.mk [99])].getD k_47.toNat default) (b1_80 ++ [(GStmt.mk 7 (Str.mk []) [] [rv133])]))]).length) k180]) (KS ?_))
    refine Oq Vm (Oq Vadd (Oq Va (KS ?_)))
    exact Kg (r64, rv137.2, (f1_46 ++ [(GBlock.mk ([(Str.mk [97]), (Str.mk [98]), (Str.mk [99])].getD k_47.toNat default) (b1_80 ++ [(GStmt.mk 7 (Str.mk []) [] [rv133])]))]), (k_47 + 1), a179, k180) [1, 6, 0, 5, 5, 5, 5] ⟨(q3 hM50 (by simp only [tp_Program_L1, h62, h96, h143, h162, hg73, hR126, hg128, hg134, hg138, cs4])), aM1, aM1, aM1, aM1, aM1, aM1, iv1⟩
   intro h162
   have g183 := ne_of_beq_false h162
   refine Jp 2 fun hp184 => ?_
   refine JK_drawK [0, 1, 0, 4, 12, 0, 0, 0, 204, 460, 1004, 2044, 4092, 8191, 16383, 32767] fmix ?_
   refine Dv [0] (Vfa fo42_1 0) (Dv [3] (VldF sh40 0) (Dv [] Vm ?_))
   refine letv (tp_name tT rv137.2) fun rv185 hg186 => ?_
   refine Dx [1, 9] [1] [2, 0, 1] (fun G => .string (bs rv185.1)) [fun G => SP.fact (rv185.1.b.length ≤ 140737488355328 ∧ (0 ≤ rv185.2 ∧ rv185.2 ≤ (tT.length : Int))), fun G => Cl tP [vl ta tk tT, vi rv185.2]] (fun G => xC [0, 0] ca13 (fn13 tP ta tk tT rv137.2 pre rv185 hg186)) (Dx [] [] [0] (fun G => (G.g 4 0)) [fun G => Cr (G.g 4 0) 1 [.string (bs rv185.1)]] (fun G => xA (AsV sl36 sz36 [.string (bs rv185.1)] [.string (bs rv185.1)])) (Dv [] Vm (Dv [] Vm (Dv [] Vm ?_))))
   refine letv (tp_Next tT rv185.2 (1 + rv38.1)) fun rv188 hg189 => ?_
   refine Dx [9, 10, 11] [11] [2, 3, 0, 1] (fun G => vi rv188.1) [fun G => SP.fact (i64ok rv188.1 ∧ (0 ≤ rv188.2 ∧ rv188.2 ≤ (tT.length : Int)) ∧ (0 ≤ rv188.1 ∧ (rv188.1 < (1 + rv38.1) ∨ rv188.1 = 0))), fun G => Cl tP [vl ta tk tT, vi rv188.2]] (fun G => by refine xf 1 rfl ?_; rintro ⟨he190, he191⟩; exact xC [2, 0] ca10 (fn10 tP ta tk tT rv185.2 ((1 + rv38.1)) pre pre rv188 hg189)) ?_
   refine letv (g_func2 rv188.1) fun rv192 hg193 => ?_
   refine Dx [13] [] [1, 0] (fun G => .string (bs rv192)) [fun G => SP.fact (rv192.b.length ≤ 140737488355328)] (fun G => by refine xf 0 rfl ?_; rintro ⟨he194, he195, he196⟩; unfold i64ok at he194; exact xC [] ca12 (fn12 rv188.1 pre pre rv192 hg193)) (Dx [] [] [0] (fun G => (G.g 10 0)) [fun G => Cr (G.g 10 0) 2 [.string (bs rv133), .string (bs rv192)]] (fun G => xA (AsV sl36 sz36 [.string (bs rv133), .string (bs rv192)] [.string (bs rv133), .string (bs rv192)])) ?_)
   refine Dx [12, 16] [] [0, 0] (fun G => .agg #[vi 8, .string (bs (Str.mk [])), (G.g 4 0), (G.g 10 0)]) [] (fun G => xV (v := .agg #[vi 8, .string (bs (Str.mk [])), (G.g 4 0), (G.g 10 0)]) (Vo 0 rfl (isO_Cr _ _ _) fun aq198 kq199 eq200 => (by rw [eq200]; exact Vo 1 rfl (isO_Cr _ _ _) fun aq201 kq202 eq203 => (by rw [eq203]; exact Vbd st44 [vi 8, .string (bs (Str.mk [])), .slice aq198 1 kq199, .slice aq201 2 kq202])))) (Dx [] [] [0] (fun G => (G.g 12 0)) [fun G => Cr (G.g 12 0) 1 [vi 8, .string (bs (Str.mk [])), (G.g 4 0), (G.g 10 0)]] (fun G => xA (AsV sl40 sz40 [.agg #[vi 8, .string (bs (Str.mk [])), (G.g 4 0), (G.g 10 0)]] [vi 8, .string (bs (Str.mk [])), (G.g 4 0), (G.g 10 0)])) ?_)
   have hn206 := la b1_80 ([(GStmt.mk 8 (Str.mk []) [rv185.1] [rv133, rv192])] : List GStmt)
   refine Dx [2, 10, 12, 15, 16, 17] [2, 12, 16, 17] [5, 6, 1, 2, 0] (fun G => (G.g 13 0)) [fun G => sl (G.g 4 0) ([rv185.1] : List Str), fun G => sl (G.g 10 0) ([rv133, rv192] : List Str), fun G => os (G.g 13 0) ((b1_80 ++ [(GStmt.mk 8 (Str.mk []) [rv185.1] [rv133, rv192])]) : List GStmt)] (fun G => by refine xf 1 rfl ?_; rintro ⟨he207, he208⟩; refine xf 3 rfl ?_; rintro he209; exact xp [2] rfl (Ent.cr1 (α := Str) (A := []) _ rv185.1 _ aB1 (fun _ => ⟨rfl, aS1⟩)) (xp [0] rfl (Ent.freeze _ _) (xp [4] rfl (Ent.crOs (α := Str) (A := []) _ ([rv133, rv192] : List Str) _ aB1 (fun h => ⟨[.string (bs rv133)], [.string (bs rv192)], rfl, (fun _ => ⟨rfl, by first | omega | (simp; done) | (dsimp only; omega) | exact lit_bl rfl⟩) h, ⟨[.string (bs rv192)], [], rfl, (fun _ => ⟨rfl, by first | omega | (simp; done) | (dsimp only; omega) | exact lit_bl rfl⟩) h, rfl⟩⟩)) (xp [0] rfl (Ent.freeze _ _) (xp [5, 1, 0] rfl (Ent.cr1 (α := GStmt) (A := [sl (G.g 4 0) ([rv185.1] : List Str), sl (G.g 10 0) ([rv133, rv192] : List Str)]) _ (GStmt.mk 8 (Str.mk []) [rv185.1] [rv133, rv192]) _ aB1 (fun h => ⟨_, _, rfl, aL1, aS1, sepAll_get (i := 0) rfl h, sepAll_get (i := 1) rfl h⟩)) (xA (ApO [5, 0] sl40 sl40 sz40))))))) (Dv [0] (Vfa fo42_1 0) (Dx0 [3, 20] [3] [1, 0] [fun G => Cl p71 [.string (bs ([(Str.mk [97]), (Str.mk [98]), (Str.mk [99])].getD k_47.toNat default)), (G.g 13 0)]] (fun G => x1 1 rfl os_one fun ho210 => (xS (OpS.frame [0] rfl (OpS.storeClF [(G.g 13 0)] [.string (bs ([(Str.mk [97]), (Str.mk [98]), (Str.mk [99])].getD k_47.toNat default)), (G.g 13 0)] rfl rfl rfl sh40 (cells_of_one ho210) rfl (by simp only [List.all_cons, List.all_nil, ho210, Bool.and_true, Bool.true_and] <;> rfl) aB1 rfl)))) ?_))
   refine Dn ⟨by kernel_rfl, fun G => ?_⟩
   refine Jw2 [(0, tP), (2, p3), (3, p4), (4, vi (1 + rv5.1)), (5, vi i_14), (6, p37), (7, vi (1 + rv38.1)), (8, vi k_47), (9, p71)] [0, 4, 5, 6, 7, 8, 9] [SP.fact (rv185.1.b.length ≤ 140737488355328 ∧ (0 ≤ rv185.2 ∧ rv185.2 ≤ (tT.length : Int))), SP.fact (i64ok rv188.1 ∧ (0 ≤ rv188.2 ∧ rv188.2 ≤ (tT.length : Int)) ∧ (0 ≤ rv188.1 ∧ (rv188.1 < (1 + rv38.1) ∨ rv188.1 = 0))), Cl tP [vl ta tk tT, vi rv188.2], SP.fact (rv192.b.length ≤ 140737488355328), sl (G.g 4 0) ([rv185.1] : List Str), sl (G.g 10 0) ([rv133, rv192] : List Str), os (G.g 13 0) ((b1_80 ++ [(GStmt.mk 8 (Str.mk []) [rv185.1] [rv133, rv192])]) : List GStmt), Cl p71 [.string (bs ([(Str.mk [97]), (Str.mk [98]), (Str.mk [99])].getD k_47.toNat default)), (G.g 13 0)]] ?_
   generalize G.g 4 0 = c187, G.g 10 0 = c197, G.g 13 0 = c205
   refine Jf 7 rfl ?_; rintro ⟨he211, he212⟩
   refine Jf 8 rfl ?_; rintro ⟨he213, he214, he215⟩
   unfold i64ok at he213
   refine Jf 10 rfl ?_; rintro he216
   refine Jk [1, 1, 1, 1, 1, 1, 4, 5, 6, 7, 7] ?_
   refine Jo 7 ?_; rintro a217 k218 rfl
   refine Fb 16 7 fun _ => ?_
   refine FoS 7 fun ho220 => ?_
   refine Jo 8 ?_; rintro a221 k222 rfl
   refine Fb 16 8 fun _ => ?_
   refine FoS 8 fun ho224 => ?_
   refine Jo 9 ?_; rintro a225 k226 rfl
   refine Fb 72 9 fun _ => KS ?_
   refine Oq (Vfa fo39_1 1) (Oq (VldF sh37 1) (Oq (VldA sh42 10) (Oa (AsV sl37 sz37 [.agg #[.string (bs ([(Str.mk [97]), (Str.mk [98]), (Str.mk [99])].getD k_47.toNat default)), vl a225 k226 (b1_80 ++ [(GStmt.mk 8 (Str.mk []) [rv185.1] [rv133, rv192])])]] [.string (bs ([(Str.mk [97]), (Str.mk [98]), (Str.mk [99])].getD k_47.toNat default)), vl a225 k226 (b1_80 ++ [(GStmt.mk 8 (Str.mk []) [rv185.1] [rv133, rv192])])]) fun c228 => ?_)))
   refine Jo 0 ?_; rintro a229 k230 rfl
   refine Jl [10] (Ent.freeze _ _) ?_
   refine Jl [1, 0] (Ent.cr1 (α := GBlock) (A := [S a225 k226 ((b1_80 ++ [(GStmt.mk 8 (Str.mk []) [rv185.1] [rv133, rv192])]) : List GStmt)]) _ (GBlock.mk ([(Str.mk [97]), (Str.mk [98]), (Str.mk [99])].getD k_47.toNat default) (b1_80 ++ [(GStmt.mk 8 (Str.mk []) [rv185.1] [rv133, rv192])])) _ aB1 (fun h => ⟨_, rfl, aS1, sepAll_get (i := 0) rfl h⟩)) ?_
   refine Oa (ApO [3, 0] sl37 sl37 sz37) fun c231 => ?_
   refine Jo 0 ?_; rintro a232 k233 rfl
   refine Fb 40 0 fun _ => ?_
   have hn235 := la f1_46 ([(GBlock.mk ([(Str.mk [97]), (Str.mk [98]), (Str.mk [99])].getD k_47.toNat default) (b1_80 ++ [(GStmt.mk 8 (Str.mk []) [rv185.1] [rv133, rv192])]))] : List GBlock)
   refine Oq (Vfa fo39_1 3) (Ost (SclF [3] sh37 [.string (bs ([(Str.mk [109]), (Str.mk [102]), (Str.mk [103])].getD i_14.toNat default)), .slice a232 ((f1_46 ++ [(GBlock.mk ([(Str.mk [97]), (Str.mk [98]), (Str.mk [99])].getD k_47.toNat default) (b1_80 ++ [(GStmt.mk 8 (Str.mk []) [rv185.1] [rv133, rv192])]))]).length) k233]) (KS ?_))
   refine Oq Vm (Oq Vadd (Oq Va (KS ?_)))
   exact Kg (r64, rv188.2, (f1_46 ++ [(GBlock.mk ([(Str.mk [97]), (Str.mk [98]), (Str.mk [99])].getD k_47.toNat default) (b1_80 ++ [(GStmt.mk 8 (Str.mk []) [rv185.1] [rv133, rv192])]))]), (k_47 + 1), a232, k233) [1, 7, 0, 2, 2, 2, 2] ⟨(q3 hM50 (by simp only [tp_Program_L1, h62, h96, h143, h162, hg73, hR126, hg128, hg134, hg138, hg186, hg189, hg193, cs4])), aM1, aM1, aM1, aM1, aM1, aM1, iv1⟩
  intro h62
  have g236 := df h62
  obtain rfl : r44 = 0 := by omega
  refine Ke ?_
  have hR237 := q2 hM50 (ti_45, f1_46) (by simp only [tp_Program_L1, h62, cs4])
  refine KS ?_
  refine Oq (Vfa fo25_0 4) (Oq (VldF sh23 4) (Oq (VldA sh39 2) (Oa (AsV sl23 sz23 [.agg #[.string (bs ([(Str.mk [109]), (Str.mk [102]), (Str.mk [103])].getD i_14.toNat default)), vl a48 k49 f1_46]] [.string (bs ([(Str.mk [109]), (Str.mk [102]), (Str.mk [103])].getD i_14.toNat default)), vl a48 k49 f1_46]) fun c238 => ?_)))
  refine Jo 0 ?_; rintro a239 k240 rfl
  refine Jl [1] (Ent.freeze _ _) ?_
  refine Jl [1, 0] (Ent.cr1 (α := GFunc) (A := [S a48 k49 f1_46]) _ (GFunc.mk ([(Str.mk [109]), (Str.mk [102]), (Str.mk [103])].getD i_14.toNat default) f1_46) _ aB1 (fun h => ⟨_, rfl, aS1, sepAll_get (i := 0) rfl h⟩)) ?_
  refine Oa (ApO [5, 0] sl23 sl23 sz23) fun c241 => ?_
  refine Jo 0 ?_; rintro a242 k243 rfl
  refine Fb 40 0 fun _ => ?_
  have hn245 := la p0_13 ([(GFunc.mk ([(Str.mk [109]), (Str.mk [102]), (Str.mk [103])].getD i_14.toNat default) f1_46)] : List GFunc)
  refine Oq (Vfa fo25_0 5) (Ost (SclF [5] sh23 [vl a242 k243 (p0_13 ++ [(GFunc.mk ([(Str.mk [109]), (Str.mk [102]), (Str.mk [103])].getD i_14.toNat default) f1_46)])]) (KS ?_))
  refine Oq Vm (Oq Vadd (Oq Va (KS ?_)))
  exact Kg (r30, ti_45, (p0_13 ++ [(GFunc.mk ([(Str.mk [109]), (Str.mk [102]), (Str.mk [103])].getD i_14.toNat default) f1_46)]), (i_14 + 1), a242, k243) [1, 3, 0, 3, 3] ⟨(q3 hM17 (by simp only [tp_Program_L0, h28, h62, hg39, hR237, cs4])), aM1, aM1, aM1, aM1, aM1, aM1, iv1⟩
 intro h28
 have g246 := df h28
 obtain rfl : r11 = 0 := by omega
 refine Ke ?_
 have hR247 := q2 hM17 (ti_12, p0_13) (by simp only [tp_Program_L0, h28, cs4])
 refine KS ?_
 refine Oq (VldA sh25 2) (Ost (Scl [3] sh25 [vl a15 k16 p0_13]) (KS ?_))
 refine Jl [1] (Ent.freeze _ _) ?_
 have hq := q4 hrr ((GProgram.mk p0_13), ti_12) (by simp only [tp_Program, h28, hg6, hR247, cs4]); subst hq
 exact Kr (vl a15 k16 p0_13) rfl (.cellN 1 rfl sh25 rfl (reads_Cl _ _) rfl .nil) [0, 2] en
theorem fn102 (c : Int) (hc_0 : 0 ≤ c ∧ c ≤ 255) (rr : Bool) (hrr : lx_letter c = rr) : FT Tryz.prog 102 #[.int .u8 c] [] (fun g : Unit => True) (fun g => vb rr) (fun g => []) := by
 refine FTi Tryz.func102 fun w0 M0 F0 => ?_
 refine KS ?_
 refine Oq Va (KS ?_)
 refine Oq Vm (Oq Vgeq (Oq Vm ?_))
 refine Js 5 ?_ ?_
 ·intro h1
  have g2 := dt h1
  refine Oq Vm (Oq Vleq (Oq Vpt (Oq Vm ?_)))
  refine Js 9 ?_ ?_
  ·intro h3
   have g4 := dt h3
   refine Osk (Osk (Osk (Osk (Osk (Osk (Oq Vpt (Oq Va (KS ?_))))))))
   have hq := q4 hrr true (by simp only [lx_letter, h1, h3, cs4]); subst hq
   exact Kr () rfl (.tmp rfl .nil) [] trivial
  intro h3
  have g5 := df h3
  refine Oq Vm (Oq Vgeq (Oq Vm ?_))
  refine Js 12 ?_ ?_
  ·intro h6
   have g7 := dt h6
   refine Oq Vm (Oq Vleq (Oq Vpt (Oq Vpf (Oq Va (KS ?_)))))
   have hq := q4 hrr (decide (c ≤ 90)) (by simp only [lx_letter, h1, h3, h6, cs4]); subst hq
   exact Kr () rfl (.tmp rfl .nil) [] trivial
  intro h6
  have g8 := df h6
  refine Osk (Osk (Oq Vpf (Oq Vpf (Oq Va (KS ?_)))))
  have hq := q4 hrr false (by simp only [lx_letter, h1, h3, h6, cs4]); subst hq
  exact Kr () rfl (.tmp rfl .nil) [] trivial
 intro h1
 have g9 := df h1
 refine Osk (Osk (Oq Vpf (Oq Vm (Oq Vm (Oq Vgeq (Oq Vm ?_))))))
 refine Js 12 ?_ ?_
 ·intro h10
  have g11 := dt h10
  refine Oq Vm (Oq Vleq (Oq Vpt (Oq Vpf (Oq Va (KS ?_)))))
  have hq := q4 hrr (decide (c ≤ 90)) (by simp only [lx_letter, h1, h10, cs4]); subst hq
  exact Kr () rfl (.tmp rfl .nil) [] trivial
 intro h10
 have g12 := df h10
 refine Osk (Osk (Oq Vpf (Oq Vpf (Oq Va (KS ?_)))))
 have hq := q4 hrr false (by simp only [lx_letter, h1, h10, cs4]); subst hq
 exact Kr () rfl (.tmp rfl .nil) [] trivial
theorem fn120 (s : List Str) (sa0 : Option Addr) (sk0 : Nat) (v : Str) (hv_0 : v.b.length ≤ 140737488355328) (rr : Int) (hrr : sc_Index_string s v = rr) : FT Tryz.prog 120 #[vl sa0 sk0 s, .string (bs v)] [S sa0 sk0 s] (fun g : Unit => i64ok rr) (fun g => vi rr) (fun g => []) := by
 refine FTi Tryz.func120 fun w0 M0 F0 => Fb 16 0 fun _ => ?_
 refine FoS 0 fun ho2 => ?_
 refine KS ?_
 refine Oq Va (KS ?_)
 refine Oq Vm (Oq (Vlen sl36) (Oq Vm (KS ?_)))
 refine Kl (γ := Nat × Int) (fun (r3, v8_4) => ⟨[(0, vl sa0 sk0 s), (1, .string (bs v)), (7, vi (s.length : Int)), (8, vi v8_4)], [S sa0 sk0 s], sc_Index_string_L0 s v r3 v8_4 = sc_Index_string_L0 s v (((s.length : Int) - 0).toNat) 0 ∧ r3 = ((s.length : Int) - v8_4).toNat ∧ (0 : Int) ≤ v8_4 ∧ v8_4 ≤ (s.length : Int) ∧ (-9223372036854775808 ≤ v8_4 ∧ v8_4 ≤ 9223372036854775807), r3⟩) (((s.length : Int) - 0).toNat, 0) [0] ⟨rfl, rfl, aM1, aM1, aM1⟩ ?_
 rintro ⟨r3, v8_4⟩ ⟨hM5, hr6, hi7, hi8, hk9⟩
 refine JJ_nx fun _ _ hL hA => ?_; dsimp only at hL hA; subst hL hA
 refine Fb 16 0 fun _ => ?_
 refine FoS 0 fun ho11 => ?_
 refine KS ?_
 refine Oq Vlss (KS ?_)
 refine Kc ?_ ?_
 ·intro h12
  have g13 := dt h12
  obtain ⟨r14, rfl⟩ := scc (n := r3) aM1
  refine KS ?_
  refine Oq Vm (Oq Va (KS ?_))
  refine Oq Vm (Oq Vm (Oq Vm (Oq (Vi sl36 0) ?_)))
  have hb15 := okS (i := v8_4.toNat) ho11 rng
  refine Oq (VldS sh9 0) (Oq (VeqS (l := v) (m := (s.getD v8_4.toNat default))) (KS ?_))
  refine Kc ?_ ?_
  ·intro h16
   have g17 := eq_of_beq h16
   refine KS ?_
   refine Oq Vm (Oq Va (KS ?_))
   have hR18 := q2 hM5 (.ret v8_4) (by simp only [sc_Index_string_L0, h12, h16, cs4])
   have hq := q4 hrr v8_4 (by simp only [sc_Index_string, h12, h16, hR18, cs4]); subst hq
   exact Kr () rfl (.tmp rfl .nil) [] en
  intro h16
  have g19 := ne_of_beq_false h16
  refine KS ?_
  refine Oq Vadd (Oq Vm (KS ?_))
  exact Kg (r14, (v8_4 + 1)) [0] ⟨(q3 hM5 (by simp only [sc_Index_string_L0, h12, h16, cs4])), aM1, aM1, aM1, aM1⟩
 intro h12
 have g20 := df h12
 obtain rfl : r3 = 0 := by omega
 refine Ke ?_
 have hR21 := q2 hM5 (.brk ()) (by simp only [sc_Index_string_L0, h12, cs4])
 refine KS ?_
 refine Oq Va (KS ?_)
 have hq := q4 hrr (-1) (by simp only [sc_Index_string, h12, hR21, cs4]); subst hq
 exact Kr () rfl (.tmp rfl .nil) [] en
theorem fn103 (s : List Str) (sa0 : Option Addr) (sk0 : Nat) (v : Str) (hv_0 : v.b.length ≤ 140737488355328) (rr : Bool) (hrr : sc_Contains_string s v = rr) : FT Tryz.prog 103 #[vl sa0 sk0 s, .string (bs v)] [S sa0 sk0 s] (fun g : Unit => True) (fun g => vb rr) (fun g => []) := by
 refine FTi Tryz.func103 fun w0 M0 F0 => Fb 16 0 fun _ => ?_
 refine FoS 0 fun ho2 => ?_
 refine KS ?_
 refine Oq Va (KS ?_)
 refine Oq Vm (Oq Vm ?_)
 refine letv (sc_Index_string s v) fun rv3 hg4 => ?_
 have hc5 := fn120 s sa0 sk0 v pre rv3 hg4
 refine Oc [0] ca120 hc5 ?_
 rintro - he6
 unfold i64ok at he6
 refine Oq Vgeq (Oq Va (KS ?_))
 have hq := q4 hrr (decide (0 ≤ rv3)) (by simp only [sc_Contains_string, hg4, cs4]); subst hq
 exact Kr () rfl (.tmp rfl .nil) [] trivial
theorem fn124 (c : Int) (hc_0 : 0 ≤ c ∧ c ≤ 255) (rr : Bool) (hrr : lx_digit c = rr) : FT Tryz.prog 124 #[.int .u8 c] [] (fun g : Unit => True) (fun g => vb rr) (fun g => []) := by
 refine FTi Tryz.func124 fun w0 M0 F0 => ?_
 refine KS ?_
 refine Oq Va (KS ?_)
 refine Oq Vm (Oq Vgeq (Oq Vm ?_))
 refine Js 5 ?_ ?_
 ·intro h1
  have g2 := dt h1
  refine Oq Vm (Oq Vleq (Oq Vpt (Oq Va (KS ?_))))
  have hq := q4 hrr (decide (c ≤ 57)) (by simp only [lx_digit, h1, cs4]); subst hq
  exact Kr () rfl (.tmp rfl .nil) [] trivial
 intro h1
 have g3 := df h1
 refine Osk (Osk (Oq Vpf (Oq Va (KS ?_))))
 have hq := q4 hrr false (by simp only [lx_digit, h1, cs4]); subst hq
 exact Kr () rfl (.tmp rfl .nil) [] trivial
theorem fn121 (c : Int) (hc_0 : 0 ≤ c ∧ c ≤ 255) (rr : Bool) (hrr : lx_part c = rr) : FT Tryz.prog 121 #[.int .u8 c] [] (fun g : Unit => True) (fun g => vb rr) (fun g => []) := by
 refine FTi Tryz.func121 fun w0 M0 F0 => ?_
 refine KS ?_
 refine Oq Va (KS ?_)
 refine Oq Vm ?_
 refine letv (lx_letter c) fun rv1 hg2 => ?_
 have hc3 := fn102 c pre rv1 hg2
 refine Oc [] ca102 hc3 ?_
 rintro - -
 refine Oq Vm ?_
 refine Js 5 ?_ ?_
 ·intro h4
  refine Osk (Osk (Oq Vpt (Oq Vm (Osk (Osk (Oq Vpt (Oq Va (KS ?_))))))))
  have hq := q4 hrr true (by simp only [lx_part, h4, hg2, cs4]); subst hq
  exact Kr () rfl (.tmp rfl .nil) [] trivial
 intro h4
 refine Oq Vm ?_
 refine letv (lx_digit c) fun rv7 hg8 => ?_
 have hc9 := fn124 c pre rv7 hg8
 refine Oc [] ca124 hc9 ?_
 rintro - -
 refine Oq Vpf (Oq Vm ?_)
 refine Js 9 ?_ ?_
 ·intro h10
  refine Osk (Osk (Oq Vpt (Oq Va (KS ?_))))
  have hq := q4 hrr true (by simp only [lx_part, h4, h10, hg2, hg8, cs4]); subst hq
  exact Kr () rfl (.tmp rfl .nil) [] trivial
 intro h10
 refine Oq Vm (Oq Veql (Oq Vpf (Oq Va (KS ?_))))
 have hq := q4 hrr (c == 95) (by simp only [lx_part, h4, h10, hg2, hg8, cs4]); subst hq
 exact Kr () rfl (.tmp rfl .nil) [] trivial
theorem fn104 (s : Str) (i : Int) (hs_0 : s.b.length ≤ 140737488355328) (hi_0 : i64ok i) (hi0 : 0 ≤ i ∧ i ≤ (s.b.length : Int)) (rr : Int) (hrr : lx_wordEnd s i = rr) : FT Tryz.prog 104 #[.string (bs s), vi i] [] (fun g : Unit => i64ok rr ∧ (i ≤ rr ∧ rr ≤ (s.b.length : Int))) (fun g => vi rr) (fun g => []) := by
 refine FTi Tryz.func104 fun w0 M0 F0 => ?_
 unfold i64ok at hi_0
 refine KS ?_
 refine Oq Va (KS ?_)
 refine Kl (γ := Nat × Int) (fun (r1, i_2) => ⟨[(0, .string (bs s)), (1, vi i_2)], [], lx_wordEnd_L0 s r1 i_2 = lx_wordEnd_L0 s (((s.b.length : Int) - i).toNat) i ∧ r1 = ((s.b.length : Int) - i_2).toNat ∧ (i : Int) ≤ i_2 ∧ (i_2 ≤ (s.b.length : Int) ∨ i_2 = i) ∧ (-9223372036854775808 ≤ i_2 ∧ i_2 ≤ 9223372036854775807), r1⟩) (((s.b.length : Int) - i).toNat, i) [] ⟨rfl, rfl, aM1, (.inr rfl), aM1⟩ ?_
 rintro ⟨r1, i_2⟩ ⟨hM3, hr4, hi5, hi6, hk7⟩
 refine JJ_nx fun _ _ hL hA => ?_; dsimp only at hL hA; subst hL hA
 refine KS ?_
 refine Oq Vm (Oq Vm (Oq (VlS un9 (l := s)) (Oq Vlss (Oq Vm ?_))))
 refine Js 9 ?_ ?_
 ·intro h8
  have g9 := dt h8
  obtain ⟨r10, rfl⟩ := scc (n := r1) aM1
  refine Oq Vm (Oq Vm (Oq (Vix un9 (l := s)) ?_))
  have hb11 := u8b (s.b.getD i_2.toNat 0)
  refine letv (lx_part ((s.b.getD i_2.toNat 0).toNat : Int)) fun rv12 hg13 => ?_
  have hc14 := fn121 (((s.b.getD i_2.toNat 0).toNat : Int)) pre rv12 hg13
  refine Oc [] ca121 hc14 ?_
  rintro - -
  refine Oq Vpt (KS ?_)
  refine Kc ?_ ?_
  ·intro h15
   refine KS ?_
   refine Oq Vm (Oq Vadd (Oq Va (KS ?_)))
   exact Kg (r10, (i_2 + 1)) [] ⟨(q3 hM3 (by simp only [lx_wordEnd_L0, h8, h15, hg13, cs4])), aM1, aM1, aM1, aM1⟩
  intro h15
  refine Ke ?_
  have hR18 := q2 hM3 i_2 (by simp only [lx_wordEnd_L0, h8, h15, hg13, cs4])
  refine KS ?_
  refine Oq Vm (Oq Va (KS ?_))
  have hq := q4 hrr i_2 (by simp only [lx_wordEnd, h8, h15, hg13, hR18, cs4]); subst hq
  exact Kr () rfl (.tmp rfl .nil) [] en
 intro h8
 have g19 := df h8
 obtain rfl : r1 = 0 := by omega
 refine Osk (Osk (Osk (Osk (Oq Vpf (KS ?_)))))
 refine Kf ?_
 refine Ke ?_
 have hR20 := q2 hM3 i_2 (by simp only [lx_wordEnd_L0, h8, cs4])
 refine KS ?_
 refine Oq Vm (Oq Va (KS ?_))
 have hq := q4 hrr i_2 (by simp only [lx_wordEnd, h8, hR20, cs4]); subst hq
 exact Kr () rfl (.tmp rfl .nil) [] en
theorem fn69 (s : Str) (kwLA : Option Addr) (kwLK : Nat) (hs_0 : s.b.length ≤ 140737488355328) (rr : Bool) (hrr : lx_IsName s = rr) : FT Tryz.prog 69 #[.string (bs s)] [pv (gp 0) [vl kwLA kwLK kwL], S kwLA kwLK kwL] (fun g : Unit => True) (fun g => vb rr) (fun g => []) := by
 refine FTi Tryz.func69 fun w0 M0 F0 => Fb 16 1 fun _ => ?_
 refine FoS 1 fun ho2 => ?_
 refine KS ?_
 refine Oq Va (KS ?_)
 refine Oq Vm (Oq (VeqS (l := s) (m := (Str.mk []))) (Oq Vm ?_))
 refine Js 5 ?_ ?_
 ·intro h3
  have g4 := eq_of_beq h3
  refine Osk (Osk (Osk (Oq Vpt (Oq Vm (Osk (Osk (Osk (Osk (Oq Vpt ?_)))))))))
  refine Oq Vm (Osk (Osk (Osk (Oq Vpt (KS ?_)))))
  refine Kt (KS ?_)
  refine Oq Va (KS ?_)
  have hq := q4 hrr false (by simp only [lx_IsName, h3, cs4]); subst hq
  exact Kr () rfl (.tmp rfl .nil) [] trivial
 intro h3
 have g5 := ne_of_beq_false h3
 have hsp := str_pos h3
 refine Oq Vm (Oq (VlS un9 (l := s)) (Oq Vgtr (Oq Vpf (Oq Vm ?_))))
 refine Js 10 ?_ ?_
 ·intro h6
  have g7 := dt h6
  refine Osk (Osk (Osk (Osk (Oq Vpt (Oq Vm (Osk (Osk (Osk (Oq Vpt ?_)))))))))
  refine KS ?_
  refine Kt (KS ?_)
  refine Oq Va (KS ?_)
  have hq := q4 hrr false (by simp only [lx_IsName, h3, h6, cs4]); subst hq
  exact Kr () rfl (.tmp rfl .nil) [] trivial
 intro h6
 have g8 := df h6
 refine Oq Vm (Oq (Vix un9 (l := s)) ?_)
 have hb9 := u8b (s.b.getD (0 : Int).toNat 0)
 refine letv (lx_letter ((s.b.getD (0 : Int).toNat 0).toNat : Int)) fun rv10 hg11 => ?_
 have hc12 := fn102 (((s.b.getD (0 : Int).toNat 0).toNat : Int)) pre rv10 hg11
 refine Oc [] ca102 hc12 ?_
 rintro - -
 refine Oq Vnot (Oq Vpf (Oq Vm ?_))
 refine Js 16 ?_ ?_
 ·intro h13
  have h15 := not_true h13
  refine Osk (Osk (Osk (Oq Vpt (KS ?_))))
  refine Kt (KS ?_)
  refine Oq Va (KS ?_)
  have hq := q4 hrr false (by simp only [lx_IsName, h3, h6, h13, h15, hg11, cs4]); subst hq
  exact Kr () rfl (.tmp rfl .nil) [] trivial
 intro h13
 have h18 := not_false h13
 refine Oq (Vld sh36 0) (Oq Vm ?_)
 refine letv (sc_Contains_string kwL s) fun rv20 hg21 => ?_
 have hc22 := fn103 kwL kwLA kwLK s pre rv20 hg21
 refine Oc [1] ca103 hc22 ?_
 rintro - -
 refine Oq Vpf (KS ?_)
 refine Kc ?_ ?_
 ·intro h23
  refine KS ?_
  refine Oq Va (KS ?_)
  have hq := q4 hrr false (by simp only [lx_IsName, h3, h6, h13, h18, h23, hg11, hg21, cs4]); subst hq
  exact Kr () rfl (.tmp rfl .nil) [] trivial
 intro h23
 refine KS ?_
 refine Oq Vm ?_
 refine letv (lx_wordEnd s 0) fun rv26 hg27 => ?_
 have hc28 := fn104 s 0 pre pre pre rv26 hg27
 refine Oc [] ca104 hc28 ?_
 rintro - ⟨he29, he30⟩
 unfold i64ok at he29
 refine Oq Vm (Oq (VlS un9 (l := s)) (Oq Veql (Oq Va (KS ?_))))
 have hq := q4 hrr (rv26 == (s.b.length : Int)) (by simp only [lx_IsName, h3, h6, h13, h18, h23, hg11, hg21, hg27, cs4]); subst hq
 exact Kr () rfl (.tmp rfl .nil) [] trivial
theorem fn105 (s : List GStmt) (sa0 : Option Addr) (sk0 : Nat) (fF : FuncId) (fC : List Value) (fp : GStmt → Bool) (fA : List SP) (hfc : callable Tryz.prog fF = true) (hfF : ∀ x ∈ s, ∀ (a2 : Option Addr) (k2 : Nat) (a3 : Option Addr) (k3 : Nat), i64ok x.Op → x.Def.b.length ≤ 140737488355328 → FT Tryz.prog fF ([(.agg #[vi x.Op, .string (bs x.Def), vl a2 k2 x.Uses, vl a3 k3 x.Targets] : Value)] ++ fC).toArray ([S a2 k2 x.Uses, S a3 k3 x.Targets] ++ [pAll fA]) (fun _ : Unit => True) (fun _ => .bool (fp x)) (fun _ => [])) (rr : Int) (hrr : sc_IndexFunc_Stmt s fp = rr) : FT Tryz.prog 105 #[vl sa0 sk0 s, .func (.func fF) #[] fC.toArray] [S sa0 sk0 s, pAll fA] (fun g : Unit => i64ok rr) (fun g => vi rr) (fun g => []) := by
 refine FTi Tryz.func105 fun w0 M0 F0 => Fb 72 0 fun _ => ?_
 refine KS ?_
 refine Oq Va (KS ?_)
 refine Oq Vm (Oq (Vlen sl40) (Oq Vm (KS ?_)))
 refine Kl (γ := Nat × Int) (fun (r2, v8_3) => ⟨[(0, vl sa0 sk0 s), (1, .func (.func fF) #[] fC.toArray), (7, vi (s.length : Int)), (8, vi v8_3)], [S sa0 sk0 s, pAll fA], sc_IndexFunc_Stmt_L0 s fp r2 v8_3 = sc_IndexFunc_Stmt_L0 s fp (((s.length : Int) - 0).toNat) 0 ∧ r2 = ((s.length : Int) - v8_3).toNat ∧ (0 : Int) ≤ v8_3 ∧ v8_3 ≤ (s.length : Int) ∧ (-9223372036854775808 ≤ v8_3 ∧ v8_3 ≤ 9223372036854775807), r2⟩) (((s.length : Int) - 0).toNat, 0) [0, 1] ⟨rfl, rfl, aM1, aM1, aM1⟩ ?_
 rintro ⟨r2, v8_3⟩ ⟨hM4, hr5, hi6, hi7, hk8⟩
 refine JJ_nx fun _ _ hL hA => ?_; dsimp only at hL hA; subst hL hA
 refine Fb 72 0 fun _ => KS ?_
 refine Oq Vlss (KS ?_)
 refine Kc ?_ ?_
 ·intro h10
  have g11 := dt h10
  obtain ⟨r12, rfl⟩ := scc (n := r2) aM1
  refine KS ?_
  refine Oq Vm (Oq Va (KS ?_))
  refine Oq Vm (Oq Vm (Oq Vm (Oq (Vi sl40 0) ?_)))
  refine JJ_peek_GStmt v8_3.toNat 0 rfl rng fun a13 k14 a15 k16 hb17 hb18 => ?_
  unfold i64ok at hb17
  refine Fb 16 1 fun _ => ?_
  refine FoS 1 fun ho20 => ?_
  refine Fb 16 2 fun _ => ?_
  refine FoS 2 fun ho22 => ?_
  refine Oq (VldA sh44 0) ?_
  refine JO_call [1, 2, 4] rfl rfl rfl (OpC.clo (asv := [(.agg #[vi ((s.getD v8_3.toNat default).Op), .string (bs ((s.getD v8_3.toNat default).Def)), vl a13 k14 ((s.getD v8_3.toNat default).Uses), vl a15 k16 ((s.getD v8_3.toNat default).Targets)] : Value)] ++ fC) rfl rfl hfc rfl (by simp)) (hfF (s.getD v8_3.toNat default) (getD_mem rng) a13 k14 a15 k16 pre pre) rfl fun _ _ => ?_
  refine KS ?_
  refine Kc ?_ ?_
  ·intro h23
   refine KS ?_
   refine Oq Vm (Oq Va (KS ?_))
   have hR25 := q2 hM4 (.ret v8_3) (by simp only [sc_IndexFunc_Stmt_L0, h10, h23, cs4])
   have hq := q4 hrr v8_3 (by simp only [sc_IndexFunc_Stmt, h10, h23, hR25, cs4]); subst hq
   exact Kr () rfl (.tmp rfl .nil) [] en
  intro h23
  refine KS ?_
  refine Oq Vadd (Oq Vm (KS ?_))
  exact Kg (r12, (v8_3 + 1)) [3, 4] ⟨(q3 hM4 (by simp only [sc_IndexFunc_Stmt_L0, h10, h23, cs4])), aM1, aM1, aM1, aM1⟩
 intro h10
 have g27 := df h10
 obtain rfl : r2 = 0 := by omega
 refine Ke ?_
 have hR28 := q2 hM4 (.brk ()) (by simp only [sc_IndexFunc_Stmt_L0, h10, cs4])
 refine KS ?_
 refine Oq Va (KS ?_)
 have hq := q4 hrr (-1) (by simp only [sc_IndexFunc_Stmt, h10, hR28, cs4]); subst hq
 exact Kr () rfl (.tmp rfl .nil) [] en
theorem fn70 (s : List GStmt) (sa0 : Option Addr) (sk0 : Nat) (fF : FuncId) (fC : List Value) (fp : GStmt → Bool) (fA : List SP) (hfc : callable Tryz.prog fF = true) (hfF : ∀ x ∈ s, ∀ (a2 : Option Addr) (k2 : Nat) (a3 : Option Addr) (k3 : Nat), i64ok x.Op → x.Def.b.length ≤ 140737488355328 → FT Tryz.prog fF ([(.agg #[vi x.Op, .string (bs x.Def), vl a2 k2 x.Uses, vl a3 k3 x.Targets] : Value)] ++ fC).toArray ([S a2 k2 x.Uses, S a3 k3 x.Targets] ++ [pAll fA]) (fun _ : Unit => True) (fun _ => .bool (fp x)) (fun _ => [])) (rr : Bool) (hrr : sc_ContainsFunc_Stmt s fp = rr) : FT Tryz.prog 70 #[vl sa0 sk0 s, .func (.func fF) #[] fC.toArray] [S sa0 sk0 s, pAll fA] (fun g : Unit => True) (fun g => vb rr) (fun g => []) := by
 refine FTi Tryz.func70 fun w0 M0 F0 => Fb 72 0 fun _ => ?_
 refine KS ?_
 refine Oq Va (KS ?_)
 refine Oq Vm (Oq Vm ?_)
 refine letv (sc_IndexFunc_Stmt s fp) fun rv2 hg3 => ?_
 have hc4 := fn105 s sa0 sk0 fF fC fp fA hfc hfF rv2 hg3
 refine Oc [0, 1] ca105 hc4 ?_
 rintro - he5
 unfold i64ok at he5
 refine Oq Vgeq (Oq Va (KS ?_))
 have hq := q4 hrr (decide (0 ≤ rv2)) (by simp only [sc_ContainsFunc_Stmt, hg3, cs4]); subst hq
 exact Kr () rfl (.tmp rfl .nil) [] trivial
theorem fn106 (s : List Str) (sa0 : Option Addr) (sk0 : Nat) (rr : List Str) (hrr : sc_Clone_string s = rr) : FT Tryz.prog 106 #[vl sa0 sk0 s] [S sa0 sk0 s] (fun g : Value => (rr.length = s.length)) (fun g => g) (fun g => [os g rr]) := by
 have hm : sc_Clone_string s = s := rfl
 rw [hm] at hrr
 subst hrr
 refine FTi Tryz.func106 fun w0 M0 F0 => ?_
 refine KS ?_
 refine Oq Va ?_
 refine KS ?_
 refine Oq Vm ?_
 refine Oq (VeqN un36) ?_
 refine KS ?_
 refine Kc ?_ ?_
 ·intro h
  refine Jnil 0 h ?_
  intro h0
  subst h0
  refine KS ?_
  refine Oq Va ?_
  refine KS ?_
  refine Jl [] (Ent.osNil (α := Str)) ?_
  exact Kr (.slice none 0 0) rfl (.tmp rfl .nil) [0] rfl
 ·intro _
  refine KS ?_
  refine Oa (As0 sl36) fun c1 => ?_
  refine Jo 0 ?_; rintro a2 k3 rfl
  refine Oq Vm ?_
  refine Fb 16 1 fun hl => ?_
  refine Jl [0] (Ent.crNil (α := Str) _) ?_
  refine Oa (Ap0 [0, 0] sl36 sl36 sz36) fun c4 => ?_
  refine Oq Va ?_
  refine KS ?_
  exact Kr c4 rfl (.tmp rfl .nil) [0] rfl
theorem fn122 (s : List Str) (sa0 : Option Addr) (sk0 : Nat) (fF : FuncId) (fC : List Value) (fp : Str → Bool) (fA : List SP) (hfc : callable Tryz.prog fF = true) (hfF : ∀ x ∈ s, x.b.length ≤ 140737488355328 → FT Tryz.prog fF ([(.string (bs x) : Value)] ++ fC).toArray ([] ++ [pAll fA]) (fun _ : Unit => True) (fun _ => .bool (fp x)) (fun _ => [])) (rr : Int) (hrr : sc_IndexFunc_string s fp = rr) : FT Tryz.prog 122 #[vl sa0 sk0 s, .func (.func fF) #[] fC.toArray] [S sa0 sk0 s, pAll fA] (fun g : Unit => i64ok rr) (fun g => vi rr) (fun g => []) := by
 refine FTi Tryz.func122 fun w0 M0 F0 => Fb 16 0 fun _ => ?_
 refine FoS 0 fun ho2 => ?_
 refine KS ?_
 refine Oq Va (KS ?_)
 refine Oq Vm (Oq (Vlen sl36) (Oq Vm (KS ?_)))
 refine Kl (γ := Nat × Int) (fun (r3, v8_4) => ⟨[(0, vl sa0 sk0 s), (1, .func (.func fF) #[] fC.toArray), (7, vi (s.length : Int)), (8, vi v8_4)], [S sa0 sk0 s, pAll fA], sc_IndexFunc_string_L0 s fp r3 v8_4 = sc_IndexFunc_string_L0 s fp (((s.length : Int) - 0).toNat) 0 ∧ r3 = ((s.length : Int) - v8_4).toNat ∧ (0 : Int) ≤ v8_4 ∧ v8_4 ≤ (s.length : Int) ∧ (-9223372036854775808 ≤ v8_4 ∧ v8_4 ≤ 9223372036854775807), r3⟩) (((s.length : Int) - 0).toNat, 0) [0, 1] ⟨rfl, rfl, aM1, aM1, aM1⟩ ?_
 rintro ⟨r3, v8_4⟩ ⟨hM5, hr6, hi7, hi8, hk9⟩
 refine JJ_nx fun _ _ hL hA => ?_; dsimp only at hL hA; subst hL hA
 refine Fb 16 0 fun _ => ?_
 refine FoS 0 fun ho11 => ?_
 refine KS ?_
 refine Oq Vlss (KS ?_)
 refine Kc ?_ ?_
 ·intro h12
  have g13 := dt h12
  obtain ⟨r14, rfl⟩ := scc (n := r3) aM1
  refine KS ?_
  refine Oq Vm (Oq Va (KS ?_))
  refine Oq Vm (Oq Vm (Oq Vm (Oq (Vi sl36 0) ?_)))
  have hb15 := okS (i := v8_4.toNat) ho11 rng
  refine Oq (VldS sh9 0) ?_
  refine JO_call [1] rfl rfl rfl (OpC.clo (asv := [(.string (bs (s.getD v8_4.toNat default)) : Value)] ++ fC) rfl rfl hfc rfl (by simp)) (hfF (s.getD v8_4.toNat default) (getD_mem rng)  pre) rfl fun _ _ => ?_
  refine KS ?_
  refine Kc ?_ ?_
  ·intro h16
   refine KS ?_
   refine Oq Vm (Oq Va (KS ?_))
   have hR18 := q2 hM5 (.ret v8_4) (by simp only [sc_IndexFunc_string_L0, h12, h16, cs4])
   have hq := q4 hrr v8_4 (by simp only [sc_IndexFunc_string, h12, h16, hR18, cs4]); subst hq
   exact Kr () rfl (.tmp rfl .nil) [] en
  intro h16
  refine KS ?_
  refine Oq Vadd (Oq Vm (KS ?_))
  exact Kg (r14, (v8_4 + 1)) [0, 1] ⟨(q3 hM5 (by simp only [sc_IndexFunc_string_L0, h12, h16, cs4])), aM1, aM1, aM1, aM1⟩
 intro h12
 have g20 := df h12
 obtain rfl : r3 = 0 := by omega
 refine Ke ?_
 have hR21 := q2 hM5 (.brk ()) (by simp only [sc_IndexFunc_string_L0, h12, cs4])
 refine KS ?_
 refine Oq Va (KS ?_)
 have hq := q4 hrr (-1) (by simp only [sc_IndexFunc_string, h12, hR21, cs4]); subst hq
 exact Kr () rfl (.tmp rfl .nil) [] en
theorem fn107 (s : List Str) (sa0 : Option Addr) (sk0 : Nat) (fF : FuncId) (fC : List Value) (fp : Str → Bool) (fA : List SP) (hfc : callable Tryz.prog fF = true) (hfF : ∀ x ∈ s, x.b.length ≤ 140737488355328 → FT Tryz.prog fF ([(.string (bs x) : Value)] ++ fC).toArray ([] ++ [pAll fA]) (fun _ : Unit => True) (fun _ => .bool (fp x)) (fun _ => [])) (rr : Bool) (hrr : sc_ContainsFunc_string s fp = rr) : FT Tryz.prog 107 #[vl sa0 sk0 s, .func (.func fF) #[] fC.toArray] [S sa0 sk0 s, pAll fA] (fun g : Unit => True) (fun g => vb rr) (fun g => []) := by
 refine FTi Tryz.func107 fun w0 M0 F0 => Fb 16 0 fun _ => ?_
 refine FoS 0 fun ho2 => ?_
 refine KS ?_
 refine Oq Va (KS ?_)
 refine Oq Vm (Oq Vm ?_)
 refine letv (sc_IndexFunc_string s fp) fun rv3 hg4 => ?_
 have hc5 := fn122 s sa0 sk0 fF fC fp fA hfc hfF rv3 hg4
 refine Oc [0, 1] ca122 hc5 ?_
 rintro - he6
 unfold i64ok at he6
 refine Oq Vgeq (Oq Va (KS ?_))
 have hq := q4 hrr (decide (0 ≤ rv3)) (by simp only [sc_ContainsFunc_string, hg4, cs4]); subst hq
 exact Kr () rfl (.tmp rfl .nil) [] trivial
theorem fn108 (n : Str) (kwLA : Option Addr) (kwLK : Nat) (hn_0 : n.b.length ≤ 140737488355328) (rr : Bool) (hrr : sx_valid_1 n = rr) : FT Tryz.prog 108 #[.string (bs n)] [pv (gp 0) [vl kwLA kwLK kwL], S kwLA kwLK kwL] (fun g : Unit => True) (fun g => vb rr) (fun g => []) := by
 refine FTi Tryz.func108 fun w0 M0 F0 => Fb 16 1 fun _ => ?_
 refine FoS 1 fun ho2 => ?_
 refine KS ?_
 refine Oq Va (KS ?_)
 refine Oq Vm ?_
 refine letv (lx_IsName n) fun rv3 hg4 => ?_
 have hc5 := fn69 n kwLA kwLK pre rv3 hg4
 refine Oc [0, 1] ca69 hc5 ?_
 rintro - -
 refine Oq Vnot (Oq Va (KS ?_))
 have hq := q4 hrr (!rv3) (by simp only [sx_valid_1, hg4, cs4]); subst hq
 exact Kr () rfl (.tmp rfl .nil) [] trivial
theorem fn72 (s : GStmt) (sa2 : Option Addr) (sk2 : Nat) (sa3 : Option Addr) (sk3 : Nat) (kwLA : Option Addr) (kwLK : Nat) (hs_0 : i64ok s.Op) (hs_1 : s.Def.b.length ≤ 140737488355328) (hsm : SSm s = true) (rr : Bool) (hrr : sx_valid s = rr) : FT Tryz.prog 72 #[.agg #[vi s.Op, .string (bs s.Def), vl sa2 sk2 s.Uses, vl sa3 sk3 s.Targets]] [S sa2 sk2 s.Uses, S sa3 sk3 s.Targets, pv (gp 0) [vl kwLA kwLK kwL], S kwLA kwLK kwL] (fun g : Unit => True) (fun g => vb rr) (fun g => []) := by
 refine FTi Tryz.func72 fun w0 M0 F0 => ?_
 unfold i64ok at hs_0
 refine Fb 16 0 fun _ => ?_
 refine FoS 0 fun ho2 => ?_
 refine Fb 16 1 fun _ => ?_
 refine FoS 1 fun ho4 => ?_
 refine Fb 16 3 fun _ => ?_
 refine FoS 3 fun ho6 => ?_
 have hsl := SSm_l hsm
 refine KS ?_
 refine Oa (Ab [vi s.Op, .string (bs s.Def), vl sa2 sk2 s.Uses, vl sa3 sk3 s.Targets]) fun p7 => Oq Va (KS ?_)
 refine Kq [0, 1, 3, 0, 15, 31] fmix ?_
 refine Qv [0] (Vfa fo44_2 0) (Qv [0] (VldF sh36 0) (Qv [] (Vlen sl36) (Qv [] Va (Qv [] Va (Qv [] Va ?_)))))
 refine Qn ⟨by kernel_rfl, ?_⟩
 refine KS ?_
 refine Oq (Vfa fo44_0 0) (Oq (VldF sh3 0) (KS ?_))
 refine Oq Veql (Oq Va (KS ?_))
 refine Kc ?_ ?_
 ·intro h8
  have g9 := eq_of_beq h8
  refine Ke ?_
  refine KS ?_
  refine Oq Va (KS ?_)
  refine Ke ?_
  refine KS ?_
  refine JK_drawK [0, 1, 3, 0, 8, 31, 63] fmix ?_
  refine Dv [0] (Vfa fo44_2 0) (Dv [0] (VldF sh36 0) ?_)
  refine letv (sc_Clone_string s.Uses) fun rv11 hg12 => ?_
  refine Dx [1] [] [2, 0, 1] (fun G => (G.g 2 0)) [fun G => SP.fact ((rv11.length = s.Uses.length)), fun G => os (G.g 2 0) rv11] (fun G => xC [0] ca106 (fn106 s.Uses sa2 sk2 rv11 hg12)) (Dv [0] (Vfa fo44_3 0) (Dv [0] (VldF sh36 0) ?_))
  have hn14 := la rv11 s.Targets
  refine Dx [2, 5, 6] [6] [1, 2, 0] (fun G => (G.g 5 0)) [fun G => os (G.g 5 0) (rv11 ++ s.Targets)] (fun G => by refine xf 1 rfl ?_; rintro he15; exact xA (Ap [2, 0] sl36 sl36 sz36)) (Dg [] (fun G => (G.g 5 0)) (fun G => Va) ?_)
  refine Dn ⟨by kernel_rfl, fun G => ?_⟩
  refine Jw2 [(1, p7), (4, vi (s.Uses.length : Int)), (5, vi 0), (3, vi 1), (6, (G.g 5 0))] [0, 1, 2, 3, 4] [SP.fact ((rv11.length = s.Uses.length)), os (G.g 5 0) (rv11 ++ s.Targets)] ?_
  generalize G.g 5 0 = c13
  refine Jf 5 rfl ?_; rintro he16
  refine Jk [0, 1, 2, 3, 4, 6] ?_
  refine Jo 5 ?_; rintro a17 k18 rfl
  refine Fb 16 5 fun _ => ?_
  refine FoS 5 fun ho20 => ?_
  refine KS ?_
  refine Oq Vm (Oq Veql (KS ?_))
  refine Kt (KS ?_)
  refine Oq Vm (Oq (Vfa fo44_1 0) (Oq (VldF sh9 0) (Oa (AsV sl36 sz36 [.string (bs s.Def)] [.string (bs s.Def)]) fun c21 => ?_)))
  refine Jo 0 ?_; rintro a22 k23 rfl
  refine Jl [0] (Ent.cr1 (α := Str) (A := []) _ s.Def _ aB1 (fun _ => ⟨rfl, aS1⟩)) ?_
  refine Oa (ApO [6, 0] sl36 sl36 sz36) fun c24 => ?_
  refine Jo 0 ?_; rintro a25 k26 rfl
  refine Fb 16 0 fun _ => ?_
  refine FoS 0 fun ho28 => ?_
  have hn29 := la (rv11 ++ s.Targets) ([s.Def] : List Str)
  refine Oq Va (KS ?_)
  refine Oq Vm (Oq Veql (Oq Vm (Osk (Osk (Osk (Oq Vpt (Oq Vm (Oq (Vfa fo44_2 1) (Oq (VldF sh36 1) ?_)))))))))
  refine Oq (Vlen sl36) (Oq Vm (Oq Veql (Oq Vpt (Oq Vm ?_))))
  refine Js 64 ?_ ?_
  ·intro h30
   have g31 := eq_of_beq h30
   refine Oq Vm (Oq Vleq (Oq Vpt (Oq Vm ?_)))
   refine Js 68 ?_ ?_
   ·intro h32
    have g33 := dt h32
    refine Oq (Vfa fo44_3 1) (Oq (VldF sh36 1) (Oq (Vlen sl36) (Oq Vm (Oq Veql (Oq Vpt (Oq Vm ?_))))))
    refine Js 75 ?_ ?_
    ·intro h34
     have g35 := eq_of_beq h34
     refine Oq Vm ?_
     refine Jl [0] (Ent.freeze _ _) ?_
     refine JJ_ent (Ent.pall [4, 5] rfl rfl) ?_
     refine letv (sc_ContainsFunc_string ((rv11 ++ s.Targets) ++ [s.Def]) (fun x => sx_valid_1 x)) fun rv36 hg37 => ?_
     have hc38 := fn107 (((rv11 ++ s.Targets) ++ [s.Def])) a25 k26 108 [] (fun x => sx_valid_1 x) [pv (gp 0) [vl kwLA kwLK kwL], S kwLA kwLK kwL] ca108 (fun x hx hq0 => FT_pall (A1 := _) (fn108 x  kwLA kwLK hq0 _ rfl)) rv36 hg37
     refine Oc [1, 0] ca107 hc38 ?_
     rintro - -
     refine Oq Vnot (Oq Vpt (Oq Va (KS ?_)))
     have hq := q4 hrr (!rv36) (by simp only [sx_valid, h8, h30, h32, h34, hg12, hg37, cs4]); subst hq
     exact Kr () rfl (.tmp rfl .nil) [] trivial
    intro h34
    have g39 := ne_of_beq_false h34
    refine Osk (Osk (Osk (Oq Vpf (Oq Va (KS ?_)))))
    have hq := q4 hrr false (by simp only [sx_valid, h8, h30, h32, h34, hg12, cs4]); subst hq
    exact Kr () rfl (.tmp rfl .nil) [] trivial
   intro h32
   have g40 := df h32
   refine Osk (Osk (Osk (Osk (Osk (Oq Vpf (Oq Vm (Osk (Osk (Osk ?_)))))))))
   refine Oq Vpf (Oq Va (KS ?_))
   have hq := q4 hrr false (by simp only [sx_valid, h8, h30, h32, hg12, cs4]); subst hq
   exact Kr () rfl (.tmp rfl .nil) [] trivial
  intro h30
  have g41 := ne_of_beq_false h30
  refine Osk (Osk (Oq Vpf (Oq Vm (Osk (Osk (Osk (Osk (Osk (Oq Vpf ?_)))))))))
  refine Oq Vm (Osk (Osk (Osk (Oq Vpf (Oq Va (KS ?_))))))
  have hq := q4 hrr false (by simp only [sx_valid, h8, h30, hg12, cs4]); subst hq
  exact Kr () rfl (.tmp rfl .nil) [] trivial
 intro h8
 have g42 := ne_of_beq_false h8
 refine KS ?_
 refine Oq Veql (Oq Va (KS ?_))
 refine Kc ?_ ?_
 ·intro h43
  have g44 := eq_of_beq h43
  refine Ke ?_
  refine KS ?_
  refine Oq Vm (Oq Vmax (Oq Va (KS ?_)))
  refine Ke ?_
  refine KS ?_
  refine JK_drawK [0, 1, 3, 0, 8, 31, 63] fmix ?_
  refine Dv [0] (Vfa fo44_2 0) (Dv [0] (VldF sh36 0) ?_)
  refine letv (sc_Clone_string s.Uses) fun rv46 hg47 => ?_
  refine Dx [1] [] [2, 0, 1] (fun G => (G.g 2 0)) [fun G => SP.fact ((rv46.length = s.Uses.length)), fun G => os (G.g 2 0) rv46] (fun G => xC [0] ca106 (fn106 s.Uses sa2 sk2 rv46 hg47)) (Dv [0] (Vfa fo44_3 0) (Dv [0] (VldF sh36 0) ?_))
  have hn49 := la rv46 s.Targets
  refine Dx [2, 5, 6] [6] [1, 2, 0] (fun G => (G.g 5 0)) [fun G => os (G.g 5 0) (rv46 ++ s.Targets)] (fun G => by refine xf 1 rfl ?_; rintro he50; exact xA (Ap [2, 0] sl36 sl36 sz36)) (Dg [] (fun G => (G.g 5 0)) (fun G => Va) ?_)
  refine Dn ⟨by kernel_rfl, fun G => ?_⟩
  refine Jw2 [(1, p7), (3, vi 0), (5, vi 0), (4, vi (max (s.Uses.length : Int) 1)), (6, (G.g 5 0))] [0, 1, 2, 3, 4] [SP.fact ((rv46.length = s.Uses.length)), os (G.g 5 0) (rv46 ++ s.Targets)] ?_
  generalize G.g 5 0 = c48
  refine Jf 5 rfl ?_; rintro he51
  refine Jk [0, 1, 2, 3, 4, 6] ?_
  refine Jo 5 ?_; rintro a52 k53 rfl
  refine Fb 16 5 fun _ => ?_
  refine FoS 5 fun ho55 => ?_
  refine KS ?_
  refine Oq Vm (Oq Veql (KS ?_))
  refine Kf (KS ?_)
  refine Oq Vm (Oq Veql (Oq Vm (Oq (Vfa fo44_1 0) (Oq (VldF sh9 0) (Oq (VeqS (l := s.Def) (m := (Str.mk []))) (Oq Vpf (Oq Vm ?_)))))))
  refine Js 57 ?_ ?_
  ·intro h56
   have g57 := eq_of_beq h56
   refine Oq (Vfa fo44_2 0) (Oq (VldF sh36 0) (Oq (Vlen sl36) (Oq Vm (Oq Veql (Oq Vpt (Oq Vm ?_))))))
   refine Js 64 ?_ ?_
   ·intro h58
    have g59 := eq_of_beq h58
    refine Oq Vm (Oq Vleq (Oq Vpt (Oq Vm ?_)))
    refine Js 68 ?_ ?_
    ·intro h60
     have g61 := dt h60
     refine Oq (Vfa fo44_3 0) (Oq (VldF sh36 0) (Oq (Vlen sl36) (Oq Vm (Oq Veql (Oq Vpt (Oq Vm ?_))))))
     refine Js 75 ?_ ?_
     ·intro h62
      have g63 := eq_of_beq h62
      refine Oq Vm ?_
      refine Jl [5] (Ent.freeze _ _) ?_
      refine JJ_ent (Ent.pall [4, 5] rfl rfl) ?_
      refine letv (sc_ContainsFunc_string (rv46 ++ s.Targets) (fun x => sx_valid_1 x)) fun rv64 hg65 => ?_
      have hc66 := fn107 ((rv46 ++ s.Targets)) a52 k53 108 [] (fun x => sx_valid_1 x) [pv (gp 0) [vl kwLA kwLK kwL], S kwLA kwLK kwL] ca108 (fun x hx hq0 => FT_pall (A1 := _) (fn108 x  kwLA kwLK hq0 _ rfl)) rv64 hg65
      refine Oc [1, 0] ca107 hc66 ?_
      rintro - -
      refine Oq Vnot (Oq Vpt (Oq Va (KS ?_)))
      have hq := q4 hrr (!rv64) (by simp only [sx_valid, h8, h43, h56, h58, h60, h62, hg47, hg65, cs4]); subst hq
      exact Kr () rfl (.tmp rfl .nil) [] trivial
     intro h62
     have g67 := ne_of_beq_false h62
     refine Osk (Osk (Osk (Oq Vpf (Oq Va (KS ?_)))))
     have hq := q4 hrr false (by simp only [sx_valid, h8, h43, h56, h58, h60, h62, hg47, cs4]); subst hq
     exact Kr () rfl (.tmp rfl .nil) [] trivial
    intro h60
    have g68 := df h60
    refine Osk (Osk (Osk (Osk (Osk (Oq Vpf (Oq Vm (Osk (Osk (Osk ?_)))))))))
    refine Oq Vpf (Oq Va (KS ?_))
    have hq := q4 hrr false (by simp only [sx_valid, h8, h43, h56, h58, h60, hg47, cs4]); subst hq
    exact Kr () rfl (.tmp rfl .nil) [] trivial
   intro h58
   have g69 := ne_of_beq_false h58
   refine Osk (Osk (Oq Vpf (Oq Vm (Osk (Osk (Osk (Osk (Osk (Oq Vpf ?_)))))))))
   refine Oq Vm (Osk (Osk (Osk (Oq Vpf (Oq Va (KS ?_))))))
   have hq := q4 hrr false (by simp only [sx_valid, h8, h43, h56, h58, hg47, cs4]); subst hq
   exact Kr () rfl (.tmp rfl .nil) [] trivial
  intro h56
  have g70 := ne_of_beq_false h56
  refine Osk (Osk (Osk (Osk (Osk (Oq Vpf (Oq Vm (Osk (Osk (Oq Vpf ?_)))))))))
  refine Oq Vm (Osk (Osk (Osk (Osk (Osk (Oq Vpf (Oq Vm (Osk (Osk ?_)))))))))
  refine Osk (Oq Vpf (Oq Va (KS ?_)))
  have hq := q4 hrr false (by simp only [sx_valid, h8, h43, h56, hg47, cs4]); subst hq
  exact Kr () rfl (.tmp rfl .nil) [] trivial
 intro h43
 have g71 := ne_of_beq_false h43
 refine KS ?_
 refine Oq Veql (Oq Va (KS ?_))
 refine Kc ?_ ?_
 ·intro h72
  have g73 := eq_of_beq h72
  refine Ke ?_
  refine KS ?_
  refine Oq Va (KS ?_)
  refine Ke ?_
  refine KS ?_
  refine JK_drawK [0, 1, 3, 0, 8, 31, 63] fmix ?_
  refine Dv [0] (Vfa fo44_2 0) (Dv [0] (VldF sh36 0) ?_)
  refine letv (sc_Clone_string s.Uses) fun rv75 hg76 => ?_
  refine Dx [1] [] [2, 0, 1] (fun G => (G.g 2 0)) [fun G => SP.fact ((rv75.length = s.Uses.length)), fun G => os (G.g 2 0) rv75] (fun G => xC [0] ca106 (fn106 s.Uses sa2 sk2 rv75 hg76)) (Dv [0] (Vfa fo44_3 0) (Dv [0] (VldF sh36 0) ?_))
  have hn78 := la rv75 s.Targets
  refine Dx [2, 5, 6] [6] [1, 2, 0] (fun G => (G.g 5 0)) [fun G => os (G.g 5 0) (rv75 ++ s.Targets)] (fun G => by refine xf 1 rfl ?_; rintro he79; exact xA (Ap [2, 0] sl36 sl36 sz36)) (Dg [] (fun G => (G.g 5 0)) (fun G => Va) ?_)
  refine Dn ⟨by kernel_rfl, fun G => ?_⟩
  refine Jw2 [(1, p7), (3, vi 0), (5, vi 0), (4, vi 1), (6, (G.g 5 0))] [0, 1, 2, 3, 4] [SP.fact ((rv75.length = s.Uses.length)), os (G.g 5 0) (rv75 ++ s.Targets)] ?_
  generalize G.g 5 0 = c77
  refine Jf 5 rfl ?_; rintro he80
  refine Jk [0, 1, 2, 3, 4, 6] ?_
  refine Jo 5 ?_; rintro a81 k82 rfl
  refine Fb 16 5 fun _ => ?_
  refine FoS 5 fun ho84 => ?_
  refine KS ?_
  refine Oq Vm (Oq Veql (KS ?_))
  refine Kf (KS ?_)
  refine Oq Vm (Oq Veql (Oq Vm (Oq (Vfa fo44_1 0) (Oq (VldF sh9 0) (Oq (VeqS (l := s.Def) (m := (Str.mk []))) (Oq Vpf (Oq Vm ?_)))))))
  refine Js 57 ?_ ?_
  ·intro h85
   have g86 := eq_of_beq h85
   refine Oq (Vfa fo44_2 0) (Oq (VldF sh36 0) (Oq (Vlen sl36) (Oq Vm (Oq Veql (Oq Vpt (Oq Vm ?_))))))
   refine Js 64 ?_ ?_
   ·intro h87
    have g88 := eq_of_beq h87
    refine Oq Vm (Oq Vleq (Oq Vpt (Oq Vm (Oq (Vfa fo44_3 0) (Oq (VldF sh36 0) (Oq (Vlen sl36) (Oq Vm (Oq Veql (Oq Vpt ?_)))))))))
    refine Oq Vm ?_
    refine Js 75 ?_ ?_
    ·intro h89
     have g90 := eq_of_beq h89
     refine Oq Vm ?_
     refine Jl [5] (Ent.freeze _ _) ?_
     refine JJ_ent (Ent.pall [4, 5] rfl rfl) ?_
     refine letv (sc_ContainsFunc_string (rv75 ++ s.Targets) (fun x => sx_valid_1 x)) fun rv91 hg92 => ?_
     have hc93 := fn107 ((rv75 ++ s.Targets)) a81 k82 108 [] (fun x => sx_valid_1 x) [pv (gp 0) [vl kwLA kwLK kwL], S kwLA kwLK kwL] ca108 (fun x hx hq0 => FT_pall (A1 := _) (fn108 x  kwLA kwLK hq0 _ rfl)) rv91 hg92
     refine Oc [1, 0] ca107 hc93 ?_
     rintro - -
     refine Oq Vnot (Oq Vpt (Oq Va (KS ?_)))
     have hq := q4 hrr (!rv91) (by simp only [sx_valid, h8, h43, h72, h85, h87, h89, hg76, hg92, cs4]); subst hq
     exact Kr () rfl (.tmp rfl .nil) [] trivial
    intro h89
    have g94 := ne_of_beq_false h89
    refine Osk (Osk (Osk (Oq Vpf (Oq Va (KS ?_)))))
    have hq := q4 hrr false (by simp only [sx_valid, h8, h43, h72, h85, h87, h89, hg76, cs4]); subst hq
    exact Kr () rfl (.tmp rfl .nil) [] trivial
   intro h87
   have g95 := ne_of_beq_false h87
   refine Osk (Osk (Oq Vpf (Oq Vm (Osk (Osk (Osk (Osk (Osk (Oq Vpf ?_)))))))))
   refine Oq Vm (Osk (Osk (Osk (Oq Vpf (Oq Va (KS ?_))))))
   have hq := q4 hrr false (by simp only [sx_valid, h8, h43, h72, h85, h87, hg76, cs4]); subst hq
   exact Kr () rfl (.tmp rfl .nil) [] trivial
  intro h85
  have g96 := ne_of_beq_false h85
  refine Osk (Osk (Osk (Osk (Osk (Oq Vpf (Oq Vm (Osk (Osk (Oq Vpf ?_)))))))))
  refine Oq Vm (Osk (Osk (Osk (Osk (Osk (Oq Vpf (Oq Vm (Osk (Osk ?_)))))))))
  refine Osk (Oq Vpf (Oq Va (KS ?_)))
  have hq := q4 hrr false (by simp only [sx_valid, h8, h43, h72, h85, hg76, cs4]); subst hq
  exact Kr () rfl (.tmp rfl .nil) [] trivial
 intro h72
 have g97 := ne_of_beq_false h72
 refine KS ?_
 refine Oq Veql (Oq Va (KS ?_))
 refine Kc ?_ ?_
 ·intro h98
  have g99 := eq_of_beq h98
  refine KS ?_
  refine Kc ?_ ?_
  ·intro h100
   have g101 := eq_of_beq h100
   refine Ke ?_
   refine KS ?_
   refine Oq Va (KS ?_)
   refine Oq Va (KS ?_)
   refine Ke ?_
   refine KS ?_
   refine JK_drawK [0, 1, 3, 0, 8, 31, 63] fmix ?_
   refine Dv [0] (Vfa fo44_2 0) (Dv [0] (VldF sh36 0) ?_)
   refine letv (sc_Clone_string s.Uses) fun rv103 hg104 => ?_
   refine Dx [1] [] [2, 0, 1] (fun G => (G.g 2 0)) [fun G => SP.fact ((rv103.length = s.Uses.length)), fun G => os (G.g 2 0) rv103] (fun G => xC [0] ca106 (fn106 s.Uses sa2 sk2 rv103 hg104)) (Dv [0] (Vfa fo44_3 0) (Dv [0] (VldF sh36 0) ?_))
   have hn106 := la rv103 s.Targets
   refine Dx [2, 5, 6] [6] [1, 2, 0] (fun G => (G.g 5 0)) [fun G => os (G.g 5 0) (rv103 ++ s.Targets)] (fun G => by refine xf 1 rfl ?_; rintro he107; exact xA (Ap [2, 0] sl36 sl36 sz36)) (Dg [] (fun G => (G.g 5 0)) (fun G => Va) ?_)
   refine Dn ⟨by kernel_rfl, fun G => ?_⟩
   refine Jw2 [(1, p7), (5, vi 0), (3, vi 1), (4, vi 0), (6, (G.g 5 0))] [0, 1, 2, 3, 4] [SP.fact ((rv103.length = s.Uses.length)), os (G.g 5 0) (rv103 ++ s.Targets)] ?_
   generalize G.g 5 0 = c105
   refine Jf 5 rfl ?_; rintro he108
   refine Jk [0, 1, 2, 3, 4, 6] ?_
   refine Jo 5 ?_; rintro a109 k110 rfl
   refine Fb 16 5 fun _ => ?_
   refine FoS 5 fun ho112 => ?_
   refine KS ?_
   refine Oq Vm (Oq Veql (KS ?_))
   refine Kt (KS ?_)
   refine Oq Vm (Oq (Vfa fo44_1 0) (Oq (VldF sh9 0) (Oa (AsV sl36 sz36 [.string (bs s.Def)] [.string (bs s.Def)]) fun c113 => ?_)))
   refine Jo 0 ?_; rintro a114 k115 rfl
   refine Jl [0] (Ent.cr1 (α := Str) (A := []) _ s.Def _ aB1 (fun _ => ⟨rfl, aS1⟩)) ?_
   refine Oa (ApO [6, 0] sl36 sl36 sz36) fun c116 => ?_
   refine Jo 0 ?_; rintro a117 k118 rfl
   refine Fb 16 0 fun _ => ?_
   refine FoS 0 fun ho120 => ?_
   have hn121 := la (rv103 ++ s.Targets) ([s.Def] : List Str)
   refine Oq Va (KS ?_)
   refine Oq Vm (Oq Veql (Oq Vm (Osk (Osk (Osk (Oq Vpt (Oq Vm (Oq (Vfa fo44_2 1) (Oq (VldF sh36 1) ?_)))))))))
   refine Oq (Vlen sl36) (Oq Vm (Oq Veql (Oq Vpt (Oq Vm ?_))))
   refine Js 64 ?_ ?_
   ·intro h122
    have g123 := eq_of_beq h122
    refine Oq Vm (Oq Vleq (Oq Vpt (Oq Vm (Oq (Vfa fo44_3 1) (Oq (VldF sh36 1) (Oq (Vlen sl36) (Oq Vm (Oq Veql (Oq Vpt ?_)))))))))
    refine Oq Vm ?_
    refine Js 75 ?_ ?_
    ·intro h124
     have g125 := eq_of_beq h124
     refine Oq Vm ?_
     refine Jl [0] (Ent.freeze _ _) ?_
     refine JJ_ent (Ent.pall [4, 5] rfl rfl) ?_
     refine letv (sc_ContainsFunc_string ((rv103 ++ s.Targets) ++ [s.Def]) (fun x => sx_valid_1 x)) fun rv126 hg127 => ?_
     have hc128 := fn107 (((rv103 ++ s.Targets) ++ [s.Def])) a117 k118 108 [] (fun x => sx_valid_1 x) [pv (gp 0) [vl kwLA kwLK kwL], S kwLA kwLK kwL] ca108 (fun x hx hq0 => FT_pall (A1 := _) (fn108 x  kwLA kwLK hq0 _ rfl)) rv126 hg127
     refine Oc [1, 0] ca107 hc128 ?_
     rintro - -
     refine Oq Vnot (Oq Vpt (Oq Va (KS ?_)))
     have hq := q4 hrr (!rv126) (by simp only [sx_valid, h8, h43, h72, h98, h100, h122, h124, hg104, hg127, cs4]); subst hq
     exact Kr () rfl (.tmp rfl .nil) [] trivial
    intro h124
    have g129 := ne_of_beq_false h124
    refine Osk (Osk (Osk (Oq Vpf (Oq Va (KS ?_)))))
    have hq := q4 hrr false (by simp only [sx_valid, h8, h43, h72, h98, h100, h122, h124, hg104, cs4]); subst hq
    exact Kr () rfl (.tmp rfl .nil) [] trivial
   intro h122
   have g130 := ne_of_beq_false h122
   refine Osk (Osk (Oq Vpf (Oq Vm (Osk (Osk (Osk (Osk (Osk (Oq Vpf ?_)))))))))
   refine Oq Vm (Osk (Osk (Osk (Oq Vpf (Oq Va (KS ?_))))))
   have hq := q4 hrr false (by simp only [sx_valid, h8, h43, h72, h98, h100, h122, hg104, cs4]); subst hq
   exact Kr () rfl (.tmp rfl .nil) [] trivial
  intro h100
  exact absurd h100 (by first | (simp [h98]; done) | (simp only [bne, h98]; decide) | (simp only [bne, h98, Bool.not_true, Bool.not_false]; decide) | (exfalso; omega) | (intro hq; simp only [bne, hq, Bool.not_false, Bool.not_true, reduceCtorEq] at h98))
 intro h98
 have g131 := ne_of_beq_false h98
 refine KS ?_
 refine Oq Veql (Oq Va (KS ?_))
 refine Kc ?_ ?_
 ·intro h132
  have g133 := eq_of_beq h132
  refine Ke ?_
  refine KS ?_
  refine Oq Va (KS ?_)
  refine Oq Va (KS ?_)
  refine Ke ?_
  refine KS ?_
  refine JK_drawK [0, 1, 3, 0, 8, 31, 63] fmix ?_
  refine Dv [0] (Vfa fo44_2 0) (Dv [0] (VldF sh36 0) ?_)
  refine letv (sc_Clone_string s.Uses) fun rv135 hg136 => ?_
  refine Dx [1] [] [2, 0, 1] (fun G => (G.g 2 0)) [fun G => SP.fact ((rv135.length = s.Uses.length)), fun G => os (G.g 2 0) rv135] (fun G => xC [0] ca106 (fn106 s.Uses sa2 sk2 rv135 hg136)) (Dv [0] (Vfa fo44_3 0) (Dv [0] (VldF sh36 0) ?_))
  have hn138 := la rv135 s.Targets
  refine Dx [2, 5, 6] [6] [1, 2, 0] (fun G => (G.g 5 0)) [fun G => os (G.g 5 0) (rv135 ++ s.Targets)] (fun G => by refine xf 1 rfl ?_; rintro he139; exact xA (Ap [2, 0] sl36 sl36 sz36)) (Dg [] (fun G => (G.g 5 0)) (fun G => Va) ?_)
  refine Dn ⟨by kernel_rfl, fun G => ?_⟩
  refine Jw2 [(1, p7), (5, vi 0), (3, vi 1), (4, vi 0), (6, (G.g 5 0))] [0, 1, 2, 3, 4] [SP.fact ((rv135.length = s.Uses.length)), os (G.g 5 0) (rv135 ++ s.Targets)] ?_
  generalize G.g 5 0 = c137
  refine Jf 5 rfl ?_; rintro he140
  refine Jk [0, 1, 2, 3, 4, 6] ?_
  refine Jo 5 ?_; rintro a141 k142 rfl
  refine Fb 16 5 fun _ => ?_
  refine FoS 5 fun ho144 => ?_
  refine KS ?_
  refine Oq Vm (Oq Veql (KS ?_))
  refine Kt (KS ?_)
  refine Oq Vm (Oq (Vfa fo44_1 0) (Oq (VldF sh9 0) (Oa (AsV sl36 sz36 [.string (bs s.Def)] [.string (bs s.Def)]) fun c145 => ?_)))
  refine Jo 0 ?_; rintro a146 k147 rfl
  refine Jl [0] (Ent.cr1 (α := Str) (A := []) _ s.Def _ aB1 (fun _ => ⟨rfl, aS1⟩)) ?_
  refine Oa (ApO [6, 0] sl36 sl36 sz36) fun c148 => ?_
  refine Jo 0 ?_; rintro a149 k150 rfl
  refine Fb 16 0 fun _ => ?_
  refine FoS 0 fun ho152 => ?_
  have hn153 := la (rv135 ++ s.Targets) ([s.Def] : List Str)
  refine Oq Va (KS ?_)
  refine Oq Vm (Oq Veql (Oq Vm (Osk (Osk (Osk (Oq Vpt (Oq Vm (Oq (Vfa fo44_2 1) (Oq (VldF sh36 1) ?_)))))))))
  refine Oq (Vlen sl36) (Oq Vm (Oq Veql (Oq Vpt (Oq Vm ?_))))
  refine Js 64 ?_ ?_
  ·intro h154
   have g155 := eq_of_beq h154
   refine Oq Vm (Oq Vleq (Oq Vpt (Oq Vm (Oq (Vfa fo44_3 1) (Oq (VldF sh36 1) (Oq (Vlen sl36) (Oq Vm (Oq Veql (Oq Vpt ?_)))))))))
   refine Oq Vm ?_
   refine Js 75 ?_ ?_
   ·intro h156
    have g157 := eq_of_beq h156
    refine Oq Vm ?_
    refine Jl [0] (Ent.freeze _ _) ?_
    refine JJ_ent (Ent.pall [4, 5] rfl rfl) ?_
    refine letv (sc_ContainsFunc_string ((rv135 ++ s.Targets) ++ [s.Def]) (fun x => sx_valid_1 x)) fun rv158 hg159 => ?_
    have hc160 := fn107 (((rv135 ++ s.Targets) ++ [s.Def])) a149 k150 108 [] (fun x => sx_valid_1 x) [pv (gp 0) [vl kwLA kwLK kwL], S kwLA kwLK kwL] ca108 (fun x hx hq0 => FT_pall (A1 := _) (fn108 x  kwLA kwLK hq0 _ rfl)) rv158 hg159
    refine Oc [1, 0] ca107 hc160 ?_
    rintro - -
    refine Oq Vnot (Oq Vpt (Oq Va (KS ?_)))
    have hq := q4 hrr (!rv158) (by simp only [sx_valid, h8, h43, h72, h98, h132, h154, h156, hg136, hg159, cs4]); subst hq
    exact Kr () rfl (.tmp rfl .nil) [] trivial
   intro h156
   have g161 := ne_of_beq_false h156
   refine Osk (Osk (Osk (Oq Vpf (Oq Va (KS ?_)))))
   have hq := q4 hrr false (by simp only [sx_valid, h8, h43, h72, h98, h132, h154, h156, hg136, cs4]); subst hq
   exact Kr () rfl (.tmp rfl .nil) [] trivial
  intro h154
  have g162 := ne_of_beq_false h154
  refine Osk (Osk (Oq Vpf (Oq Vm (Osk (Osk (Osk (Osk (Osk (Oq Vpf ?_)))))))))
  refine Oq Vm (Osk (Osk (Osk (Oq Vpf (Oq Va (KS ?_))))))
  have hq := q4 hrr false (by simp only [sx_valid, h8, h43, h72, h98, h132, h154, hg136, cs4]); subst hq
  exact Kr () rfl (.tmp rfl .nil) [] trivial
 intro h132
 have g163 := ne_of_beq_false h132
 refine KS ?_
 refine Oq Veql (Oq Va (KS ?_))
 refine Kc ?_ ?_
 ·intro h164
  have g165 := eq_of_beq h164
  refine Ke ?_
  refine KS ?_
  refine Oq Va (KS ?_)
  refine Oq Vm (Oq Vadd (Oq Va (KS ?_)))
  refine Oq Vm (Oq Vadd (Oq Va (KS ?_)))
  refine Oq (Vfa fo44_0 0) (Oq (VldF sh3 0) (Oq Vneq (KS ?_)))
  refine Kc ?_ ?_
  ·intro h166
   exact absurd h166 (by first | (simp [h164]; done) | (simp only [bne, h164]; decide) | (simp only [bne, h164, Bool.not_true, Bool.not_false]; decide) | (exfalso; omega) | (intro hq; simp only [bne, hq, Bool.not_false, Bool.not_true, reduceCtorEq] at h164))
  intro h166
  have g167 := eq_of_bne_false h166
  refine KS ?_
  refine Ke ?_
  refine KS ?_
  refine JK_drawK [0, 1, 3, 0, 8, 31, 63] fmix ?_
  refine Dv [0] (Vfa fo44_2 0) (Dv [0] (VldF sh36 0) ?_)
  refine letv (sc_Clone_string s.Uses) fun rv169 hg170 => ?_
  refine Dx [1] [] [2, 0, 1] (fun G => (G.g 2 0)) [fun G => SP.fact ((rv169.length = s.Uses.length)), fun G => os (G.g 2 0) rv169] (fun G => xC [0] ca106 (fn106 s.Uses sa2 sk2 rv169 hg170)) (Dv [0] (Vfa fo44_3 0) (Dv [0] (VldF sh36 0) ?_))
  have hn172 := la rv169 s.Targets
  refine Dx [2, 5, 6] [6] [1, 2, 0] (fun G => (G.g 5 0)) [fun G => os (G.g 5 0) (rv169 ++ s.Targets)] (fun G => by refine xf 1 rfl ?_; rintro he173; exact xA (Ap [2, 0] sl36 sl36 sz36)) (Dg [] (fun G => (G.g 5 0)) (fun G => Va) ?_)
  refine Dn ⟨by kernel_rfl, fun G => ?_⟩
  refine Jw2 [(1, p7), (3, vi 0), (4, vi 1), (5, vi ((0 + 1) + 1)), (6, (G.g 5 0))] [0, 1, 2, 3, 4] [SP.fact ((rv169.length = s.Uses.length)), os (G.g 5 0) (rv169 ++ s.Targets)] ?_
  generalize G.g 5 0 = c171
  refine Jf 5 rfl ?_; rintro he174
  refine Jk [0, 1, 2, 3, 4, 6] ?_
  refine Jo 5 ?_; rintro a175 k176 rfl
  refine Fb 16 5 fun _ => ?_
  refine FoS 5 fun ho178 => ?_
  refine KS ?_
  refine Oq Vm (Oq Veql (KS ?_))
  refine Kf (KS ?_)
  refine Oq Vm (Oq Veql (Oq Vm (Oq (Vfa fo44_1 0) (Oq (VldF sh9 0) (Oq (VeqS (l := s.Def) (m := (Str.mk []))) (Oq Vpf (Oq Vm ?_)))))))
  refine Js 57 ?_ ?_
  ·intro h179
   have g180 := eq_of_beq h179
   refine Oq (Vfa fo44_2 0) (Oq (VldF sh36 0) (Oq (Vlen sl36) (Oq Vm (Oq Veql (Oq Vpt (Oq Vm ?_))))))
   refine Js 64 ?_ ?_
   ·intro h181
    have g182 := eq_of_beq h181
    refine Oq Vm (Oq Vleq (Oq Vpt (Oq Vm (Oq (Vfa fo44_3 0) (Oq (VldF sh36 0) (Oq (Vlen sl36) (Oq Vm (Oq Veql (Oq Vpt ?_)))))))))
    refine Oq Vm ?_
    refine Js 75 ?_ ?_
    ·intro h183
     have g184 := eq_of_beq h183
     refine Oq Vm ?_
     refine Jl [5] (Ent.freeze _ _) ?_
     refine JJ_ent (Ent.pall [4, 5] rfl rfl) ?_
     refine letv (sc_ContainsFunc_string (rv169 ++ s.Targets) (fun x => sx_valid_1 x)) fun rv185 hg186 => ?_
     have hc187 := fn107 ((rv169 ++ s.Targets)) a175 k176 108 [] (fun x => sx_valid_1 x) [pv (gp 0) [vl kwLA kwLK kwL], S kwLA kwLK kwL] ca108 (fun x hx hq0 => FT_pall (A1 := _) (fn108 x  kwLA kwLK hq0 _ rfl)) rv185 hg186
     refine Oc [1, 0] ca107 hc187 ?_
     rintro - -
     refine Oq Vnot (Oq Vpt (Oq Va (KS ?_)))
     have hq := q4 hrr (!rv185) (by simp only [sx_valid, h8, h43, h72, h98, h132, h164, h166, h179, h181, h183, hg170, hg186, cs4]); subst hq
     exact Kr () rfl (.tmp rfl .nil) [] trivial
    intro h183
    have g188 := ne_of_beq_false h183
    refine Osk (Osk (Osk (Oq Vpf (Oq Va (KS ?_)))))
    have hq := q4 hrr false (by simp only [sx_valid, h8, h43, h72, h98, h132, h164, h166, h179, h181, h183, hg170, cs4]); subst hq
    exact Kr () rfl (.tmp rfl .nil) [] trivial
   intro h181
   have g189 := ne_of_beq_false h181
   refine Osk (Osk (Oq Vpf (Oq Vm (Osk (Osk (Osk (Osk (Osk (Oq Vpf ?_)))))))))
   refine Oq Vm (Osk (Osk (Osk (Oq Vpf (Oq Va (KS ?_))))))
   have hq := q4 hrr false (by simp only [sx_valid, h8, h43, h72, h98, h132, h164, h166, h179, h181, hg170, cs4]); subst hq
   exact Kr () rfl (.tmp rfl .nil) [] trivial
  intro h179
  have g190 := ne_of_beq_false h179
  refine Osk (Osk (Osk (Osk (Osk (Oq Vpf (Oq Vm (Osk (Osk (Oq Vpf ?_)))))))))
  refine Oq Vm (Osk (Osk (Osk (Osk (Osk (Oq Vpf (Oq Vm (Osk (Osk ?_)))))))))
  refine Osk (Oq Vpf (Oq Va (KS ?_)))
  have hq := q4 hrr false (by simp only [sx_valid, h8, h43, h72, h98, h132, h164, h166, h179, hg170, cs4]); subst hq
  exact Kr () rfl (.tmp rfl .nil) [] trivial
 intro h164
 have g191 := ne_of_beq_false h164
 refine KS ?_
 refine Oq Veql (Oq Va (KS ?_))
 refine Kc ?_ ?_
 ·intro h192
  have g193 := eq_of_beq h192
  refine KS ?_
  refine Kc ?_ ?_
  ·intro h194
   have g195 := eq_of_beq h194
   refine Ke ?_
   refine KS ?_
   refine Oq Vm (Oq Vadd (Oq Va (KS ?_)))
   refine Oq (Vfa fo44_0 0) (Oq (VldF sh3 0) (Oq Vneq (KS ?_)))
   refine Kc ?_ ?_
   ·intro h196
    have g197 := ne_of_bne h196
    refine KS ?_
    refine Oq Va (KS ?_)
    refine Ke ?_
    refine KS ?_
    refine JK_drawK [0, 1, 3, 0, 8, 31, 63] fmix ?_
    refine Dv [0] (Vfa fo44_2 0) (Dv [0] (VldF sh36 0) ?_)
    refine letv (sc_Clone_string s.Uses) fun rv199 hg200 => ?_
    refine Dx [1] [] [2, 0, 1] (fun G => (G.g 2 0)) [fun G => SP.fact ((rv199.length = s.Uses.length)), fun G => os (G.g 2 0) rv199] (fun G => xC [0] ca106 (fn106 s.Uses sa2 sk2 rv199 hg200)) (Dv [0] (Vfa fo44_3 0) (Dv [0] (VldF sh36 0) ?_))
    have hn202 := la rv199 s.Targets
    refine Dx [2, 5, 6] [6] [1, 2, 0] (fun G => (G.g 5 0)) [fun G => os (G.g 5 0) (rv199 ++ s.Targets)] (fun G => by refine xf 1 rfl ?_; rintro he203; exact xA (Ap [2, 0] sl36 sl36 sz36)) (Dg [] (fun G => (G.g 5 0)) (fun G => Va) ?_)
    refine Dn ⟨by kernel_rfl, fun G => ?_⟩
    refine Jw2 [(1, p7), (3, vi 0), (5, vi (0 + 1)), (4, vi 0), (6, (G.g 5 0))] [0, 1, 2, 3, 4] [SP.fact ((rv199.length = s.Uses.length)), os (G.g 5 0) (rv199 ++ s.Targets)] ?_
    generalize G.g 5 0 = c201
    refine Jf 5 rfl ?_; rintro he204
    refine Jk [0, 1, 2, 3, 4, 6] ?_
    refine Jo 5 ?_; rintro a205 k206 rfl
    refine Fb 16 5 fun _ => ?_
    refine FoS 5 fun ho208 => ?_
    refine KS ?_
    refine Oq Vm (Oq Veql (KS ?_))
    refine Kf (KS ?_)
    refine Oq Vm (Oq Veql (Oq Vm (Oq (Vfa fo44_1 0) (Oq (VldF sh9 0) (Oq (VeqS (l := s.Def) (m := (Str.mk []))) (Oq Vpf (Oq Vm ?_)))))))
    refine Js 57 ?_ ?_
    ·intro h209
     have g210 := eq_of_beq h209
     refine Oq (Vfa fo44_2 0) (Oq (VldF sh36 0) (Oq (Vlen sl36) (Oq Vm (Oq Veql (Oq Vpt (Oq Vm ?_))))))
     refine Js 64 ?_ ?_
     ·intro h211
      have g212 := eq_of_beq h211
      refine Oq Vm (Oq Vleq (Oq Vpt (Oq Vm (Oq (Vfa fo44_3 0) (Oq (VldF sh36 0) (Oq (Vlen sl36) (Oq Vm (Oq Veql (Oq Vpt ?_)))))))))
      refine Oq Vm ?_
      refine Js 75 ?_ ?_
      ·intro h213
       have g214 := eq_of_beq h213
       refine Oq Vm ?_
       refine Jl [5] (Ent.freeze _ _) ?_
       refine JJ_ent (Ent.pall [4, 5] rfl rfl) ?_
       refine letv (sc_ContainsFunc_string (rv199 ++ s.Targets) (fun x => sx_valid_1 x)) fun rv215 hg216 => ?_
       have hc217 := fn107 ((rv199 ++ s.Targets)) a205 k206 108 [] (fun x => sx_valid_1 x) [pv (gp 0) [vl kwLA kwLK kwL], S kwLA kwLK kwL] ca108 (fun x hx hq0 => FT_pall (A1 := _) (fn108 x  kwLA kwLK hq0 _ rfl)) rv215 hg216
       refine Oc [1, 0] ca107 hc217 ?_
       rintro - -
       refine Oq Vnot (Oq Vpt (Oq Va (KS ?_)))
       have hq := q4 hrr (!rv215) (by simp only [sx_valid, h8, h43, h72, h98, h132, h164, h192, h194, h196, h209, h211, h213, hg200, hg216, cs4]); subst hq
       exact Kr () rfl (.tmp rfl .nil) [] trivial
      intro h213
      have g218 := ne_of_beq_false h213
      refine Osk (Osk (Osk (Oq Vpf (Oq Va (KS ?_)))))
      have hq := q4 hrr false (by simp only [sx_valid, h8, h43, h72, h98, h132, h164, h192, h194, h196, h209, h211, h213, hg200, cs4]); subst hq
      exact Kr () rfl (.tmp rfl .nil) [] trivial
     intro h211
     have g219 := ne_of_beq_false h211
     refine Osk (Osk (Oq Vpf (Oq Vm (Osk (Osk (Osk (Osk (Osk (Oq Vpf ?_)))))))))
     refine Oq Vm (Osk (Osk (Osk (Oq Vpf (Oq Va (KS ?_))))))
     have hq := q4 hrr false (by simp only [sx_valid, h8, h43, h72, h98, h132, h164, h192, h194, h196, h209, h211, hg200, cs4]); subst hq
     exact Kr () rfl (.tmp rfl .nil) [] trivial
    intro h209
    have g220 := ne_of_beq_false h209
    refine Osk (Osk (Osk (Osk (Osk (Oq Vpf (Oq Vm (Osk (Osk (Oq Vpf ?_)))))))))
    refine Oq Vm (Osk (Osk (Osk (Osk (Osk (Oq Vpf (Oq Vm (Osk (Osk ?_)))))))))
    refine Osk (Oq Vpf (Oq Va (KS ?_)))
    have hq := q4 hrr false (by simp only [sx_valid, h8, h43, h72, h98, h132, h164, h192, h194, h196, h209, hg200, cs4]); subst hq
    exact Kr () rfl (.tmp rfl .nil) [] trivial
   intro h196
   exact absurd h196 (by first | (simp [h164]; done) | (simp only [bne, h164]; decide) | (simp only [bne, h164, Bool.not_true, Bool.not_false]; decide) | (exfalso; omega) | (intro hq; simp only [bne, hq, Bool.not_false, Bool.not_true, reduceCtorEq] at h164))
  intro h194
  exact absurd h194 (by first | (simp [h192]; done) | (simp only [bne, h192]; decide) | (simp only [bne, h192, Bool.not_true, Bool.not_false]; decide) | (exfalso; omega) | (intro hq; simp only [bne, hq, Bool.not_false, Bool.not_true, reduceCtorEq] at h192))
 intro h192
 have g221 := ne_of_beq_false h192
 refine KS ?_
 refine Oq Veql (Oq Va (KS ?_))
 refine Kc ?_ ?_
 ·intro h222
  have g223 := eq_of_beq h222
  refine Ke ?_
  refine KS ?_
  refine Oq Vm (Oq Vadd (Oq Va (KS ?_)))
  refine Oq (Vfa fo44_0 0) (Oq (VldF sh3 0) (Oq Vneq (KS ?_)))
  refine Kc ?_ ?_
  ·intro h224
   have g225 := ne_of_bne h224
   refine KS ?_
   refine Oq Va (KS ?_)
   refine Ke ?_
   refine KS ?_
   refine JK_drawK [0, 1, 3, 0, 8, 31, 63] fmix ?_
   refine Dv [0] (Vfa fo44_2 0) (Dv [0] (VldF sh36 0) ?_)
   refine letv (sc_Clone_string s.Uses) fun rv227 hg228 => ?_
   refine Dx [1] [] [2, 0, 1] (fun G => (G.g 2 0)) [fun G => SP.fact ((rv227.length = s.Uses.length)), fun G => os (G.g 2 0) rv227] (fun G => xC [0] ca106 (fn106 s.Uses sa2 sk2 rv227 hg228)) (Dv [0] (Vfa fo44_3 0) (Dv [0] (VldF sh36 0) ?_))
   have hn230 := la rv227 s.Targets
   refine Dx [2, 5, 6] [6] [1, 2, 0] (fun G => (G.g 5 0)) [fun G => os (G.g 5 0) (rv227 ++ s.Targets)] (fun G => by refine xf 1 rfl ?_; rintro he231; exact xA (Ap [2, 0] sl36 sl36 sz36)) (Dg [] (fun G => (G.g 5 0)) (fun G => Va) ?_)
   refine Dn ⟨by kernel_rfl, fun G => ?_⟩
   refine Jw2 [(1, p7), (3, vi 0), (5, vi (0 + 1)), (4, vi 0), (6, (G.g 5 0))] [0, 1, 2, 3, 4] [SP.fact ((rv227.length = s.Uses.length)), os (G.g 5 0) (rv227 ++ s.Targets)] ?_
   generalize G.g 5 0 = c229
   refine Jf 5 rfl ?_; rintro he232
   refine Jk [0, 1, 2, 3, 4, 6] ?_
   refine Jo 5 ?_; rintro a233 k234 rfl
   refine Fb 16 5 fun _ => ?_
   refine FoS 5 fun ho236 => ?_
   refine KS ?_
   refine Oq Vm (Oq Veql (KS ?_))
   refine Kf (KS ?_)
   refine Oq Vm (Oq Veql (Oq Vm (Oq (Vfa fo44_1 0) (Oq (VldF sh9 0) (Oq (VeqS (l := s.Def) (m := (Str.mk []))) (Oq Vpf (Oq Vm ?_)))))))
   refine Js 57 ?_ ?_
   ·intro h237
    have g238 := eq_of_beq h237
    refine Oq (Vfa fo44_2 0) (Oq (VldF sh36 0) (Oq (Vlen sl36) (Oq Vm (Oq Veql (Oq Vpt (Oq Vm ?_))))))
    refine Js 64 ?_ ?_
    ·intro h239
     have g240 := eq_of_beq h239
     refine Oq Vm (Oq Vleq (Oq Vpt (Oq Vm (Oq (Vfa fo44_3 0) (Oq (VldF sh36 0) (Oq (Vlen sl36) (Oq Vm (Oq Veql (Oq Vpt ?_)))))))))
     refine Oq Vm ?_
     refine Js 75 ?_ ?_
     ·intro h241
      have g242 := eq_of_beq h241
      refine Oq Vm ?_
      refine Jl [5] (Ent.freeze _ _) ?_
      refine JJ_ent (Ent.pall [4, 5] rfl rfl) ?_
      refine letv (sc_ContainsFunc_string (rv227 ++ s.Targets) (fun x => sx_valid_1 x)) fun rv243 hg244 => ?_
      have hc245 := fn107 ((rv227 ++ s.Targets)) a233 k234 108 [] (fun x => sx_valid_1 x) [pv (gp 0) [vl kwLA kwLK kwL], S kwLA kwLK kwL] ca108 (fun x hx hq0 => FT_pall (A1 := _) (fn108 x  kwLA kwLK hq0 _ rfl)) rv243 hg244
      refine Oc [1, 0] ca107 hc245 ?_
      rintro - -
      refine Oq Vnot (Oq Vpt (Oq Va (KS ?_)))
      have hq := q4 hrr (!rv243) (by simp only [sx_valid, h8, h43, h72, h98, h132, h164, h192, h222, h224, h237, h239, h241, hg228, hg244, cs4]); subst hq
      exact Kr () rfl (.tmp rfl .nil) [] trivial
     intro h241
     have g246 := ne_of_beq_false h241
     refine Osk (Osk (Osk (Oq Vpf (Oq Va (KS ?_)))))
     have hq := q4 hrr false (by simp only [sx_valid, h8, h43, h72, h98, h132, h164, h192, h222, h224, h237, h239, h241, hg228, cs4]); subst hq
     exact Kr () rfl (.tmp rfl .nil) [] trivial
    intro h239
    have g247 := ne_of_beq_false h239
    refine Osk (Osk (Oq Vpf (Oq Vm (Osk (Osk (Osk (Osk (Osk (Oq Vpf ?_)))))))))
    refine Oq Vm (Osk (Osk (Osk (Oq Vpf (Oq Va (KS ?_))))))
    have hq := q4 hrr false (by simp only [sx_valid, h8, h43, h72, h98, h132, h164, h192, h222, h224, h237, h239, hg228, cs4]); subst hq
    exact Kr () rfl (.tmp rfl .nil) [] trivial
   intro h237
   have g248 := ne_of_beq_false h237
   refine Osk (Osk (Osk (Osk (Osk (Oq Vpf (Oq Vm (Osk (Osk (Oq Vpf ?_)))))))))
   refine Oq Vm (Osk (Osk (Osk (Osk (Osk (Oq Vpf (Oq Vm (Osk (Osk ?_)))))))))
   refine Osk (Oq Vpf (Oq Va (KS ?_)))
   have hq := q4 hrr false (by simp only [sx_valid, h8, h43, h72, h98, h132, h164, h192, h222, h224, h237, hg228, cs4]); subst hq
   exact Kr () rfl (.tmp rfl .nil) [] trivial
  intro h224
  exact absurd h224 (by first | (simp [h164]; done) | (simp only [bne, h164]; decide) | (simp only [bne, h164, Bool.not_true, Bool.not_false]; decide) | (exfalso; omega) | (intro hq; simp only [bne, hq, Bool.not_false, Bool.not_true, reduceCtorEq] at h164))
 intro h222
 have g249 := ne_of_beq_false h222
 refine KS ?_
 refine Oq Veql (Oq Va (KS ?_))
 refine Kc ?_ ?_
 ·intro h250
  have g251 := eq_of_beq h250
  refine Ke ?_
  refine KS ?_
  refine Oq Va (KS ?_)
  refine Ke ?_
  refine KS ?_
  refine JK_drawK [0, 1, 3, 0, 8, 31, 63] fmix ?_
  refine Dv [0] (Vfa fo44_2 0) (Dv [0] (VldF sh36 0) ?_)
  refine letv (sc_Clone_string s.Uses) fun rv253 hg254 => ?_
  refine Dx [1] [] [2, 0, 1] (fun G => (G.g 2 0)) [fun G => SP.fact ((rv253.length = s.Uses.length)), fun G => os (G.g 2 0) rv253] (fun G => xC [0] ca106 (fn106 s.Uses sa2 sk2 rv253 hg254)) (Dv [0] (Vfa fo44_3 0) (Dv [0] (VldF sh36 0) ?_))
  have hn256 := la rv253 s.Targets
  refine Dx [2, 5, 6] [6] [1, 2, 0] (fun G => (G.g 5 0)) [fun G => os (G.g 5 0) (rv253 ++ s.Targets)] (fun G => by refine xf 1 rfl ?_; rintro he257; exact xA (Ap [2, 0] sl36 sl36 sz36)) (Dg [] (fun G => (G.g 5 0)) (fun G => Va) ?_)
  refine Dn ⟨by kernel_rfl, fun G => ?_⟩
  refine Jw2 [(1, p7), (3, vi 0), (5, vi 0), (4, vi 0), (6, (G.g 5 0))] [0, 1, 2, 3, 4] [SP.fact ((rv253.length = s.Uses.length)), os (G.g 5 0) (rv253 ++ s.Targets)] ?_
  generalize G.g 5 0 = c255
  refine Jf 5 rfl ?_; rintro he258
  refine Jk [0, 1, 2, 3, 4, 6] ?_
  refine Jo 5 ?_; rintro a259 k260 rfl
  refine Fb 16 5 fun _ => ?_
  refine FoS 5 fun ho262 => ?_
  refine KS ?_
  refine Oq Vm (Oq Veql (KS ?_))
  refine Kf (KS ?_)
  refine Oq Vm (Oq Veql (Oq Vm (Oq (Vfa fo44_1 0) (Oq (VldF sh9 0) (Oq (VeqS (l := s.Def) (m := (Str.mk []))) (Oq Vpf (Oq Vm ?_)))))))
  refine Js 57 ?_ ?_
  ·intro h263
   have g264 := eq_of_beq h263
   refine Oq (Vfa fo44_2 0) (Oq (VldF sh36 0) (Oq (Vlen sl36) (Oq Vm (Oq Veql (Oq Vpt (Oq Vm ?_))))))
   refine Js 64 ?_ ?_
   ·intro h265
    have g266 := eq_of_beq h265
    refine Oq Vm (Oq Vleq (Oq Vpt (Oq Vm (Oq (Vfa fo44_3 0) (Oq (VldF sh36 0) (Oq (Vlen sl36) (Oq Vm (Oq Veql (Oq Vpt ?_)))))))))
    refine Oq Vm ?_
    refine Js 75 ?_ ?_
    ·intro h267
     have g268 := eq_of_beq h267
     refine Oq Vm ?_
     refine Jl [5] (Ent.freeze _ _) ?_
     refine JJ_ent (Ent.pall [4, 5] rfl rfl) ?_
     refine letv (sc_ContainsFunc_string (rv253 ++ s.Targets) (fun x => sx_valid_1 x)) fun rv269 hg270 => ?_
     have hc271 := fn107 ((rv253 ++ s.Targets)) a259 k260 108 [] (fun x => sx_valid_1 x) [pv (gp 0) [vl kwLA kwLK kwL], S kwLA kwLK kwL] ca108 (fun x hx hq0 => FT_pall (A1 := _) (fn108 x  kwLA kwLK hq0 _ rfl)) rv269 hg270
     refine Oc [1, 0] ca107 hc271 ?_
     rintro - -
     refine Oq Vnot (Oq Vpt (Oq Va (KS ?_)))
     have hq := q4 hrr (!rv269) (by simp only [sx_valid, h8, h43, h72, h98, h132, h164, h192, h222, h250, h263, h265, h267, hg254, hg270, cs4]); subst hq
     exact Kr () rfl (.tmp rfl .nil) [] trivial
    intro h267
    have g272 := ne_of_beq_false h267
    refine Osk (Osk (Osk (Oq Vpf (Oq Va (KS ?_)))))
    have hq := q4 hrr false (by simp only [sx_valid, h8, h43, h72, h98, h132, h164, h192, h222, h250, h263, h265, h267, hg254, cs4]); subst hq
    exact Kr () rfl (.tmp rfl .nil) [] trivial
   intro h265
   have g273 := ne_of_beq_false h265
   refine Osk (Osk (Oq Vpf (Oq Vm (Osk (Osk (Osk (Osk (Osk (Oq Vpf ?_)))))))))
   refine Oq Vm (Osk (Osk (Osk (Oq Vpf (Oq Va (KS ?_))))))
   have hq := q4 hrr false (by simp only [sx_valid, h8, h43, h72, h98, h132, h164, h192, h222, h250, h263, h265, hg254, cs4]); subst hq
   exact Kr () rfl (.tmp rfl .nil) [] trivial
  intro h263
  have g274 := ne_of_beq_false h263
  refine Osk (Osk (Osk (Osk (Osk (Oq Vpf (Oq Vm (Osk (Osk (Oq Vpf ?_)))))))))
  refine Oq Vm (Osk (Osk (Osk (Osk (Osk (Oq Vpf (Oq Vm (Osk (Osk ?_)))))))))
  refine Osk (Oq Vpf (Oq Va (KS ?_)))
  have hq := q4 hrr false (by simp only [sx_valid, h8, h43, h72, h98, h132, h164, h192, h222, h250, h263, hg254, cs4]); subst hq
  exact Kr () rfl (.tmp rfl .nil) [] trivial
 intro h250
 have g275 := ne_of_beq_false h250
 refine KS ?_
 refine Ke ?_
 refine KS ?_
 refine Oq Va (KS ?_)
 have hq := q4 hrr false (by simp only [sx_valid, h8, h43, h72, h98, h132, h164, h192, h222, h250, cs4]); subst hq
 exact Kr () rfl (.tmp rfl .nil) [] trivial
theorem fn71 (s : GStmt) (sa2 : Option Addr) (sk2 : Nat) (sa3 : Option Addr) (sk3 : Nat) (kwLA : Option Addr) (kwLK : Nat) (hs_0 : i64ok s.Op) (hs_1 : s.Def.b.length ≤ 140737488355328) (hsm : SSm s = true) (rr : Bool) (hrr : sx_Valid_1 s = rr) : FT Tryz.prog 71 #[.agg #[vi s.Op, .string (bs s.Def), vl sa2 sk2 s.Uses, vl sa3 sk3 s.Targets]] [S sa2 sk2 s.Uses, S sa3 sk3 s.Targets, pv (gp 0) [vl kwLA kwLK kwL], S kwLA kwLK kwL] (fun g : Unit => True) (fun g => vb rr) (fun g => []) := by
 refine FTi Tryz.func71 fun w0 M0 F0 => ?_
 unfold i64ok at hs_0
 refine Fb 16 0 fun _ => ?_
 refine FoS 0 fun ho2 => ?_
 refine Fb 16 1 fun _ => ?_
 refine FoS 1 fun ho4 => ?_
 refine Fb 16 3 fun _ => ?_
 refine FoS 3 fun ho6 => ?_
 refine KS ?_
 refine Oa (Ab [vi s.Op, .string (bs s.Def), vl sa2 sk2 s.Uses, vl sa3 sk3 s.Targets]) fun p7 => Oq Va (KS ?_)
 refine Oq (VldA sh44 0) ?_
 refine letv (sx_valid s) fun rv8 hg9 => ?_
 have hc10 := fn72 s sa2 sk2 sa3 sk3 kwLA kwLK pre pre pre rv8 hg9
 refine Oc [1, 2, 3, 4] ca72 hc10 ?_
 rintro - -
 refine Oq Vnot (Oq Va (KS ?_))
 have hq := q4 hrr (!rv8) (by simp only [sx_Valid_1, hg9, cs4]); subst hq
 exact Kr () rfl (.tmp rfl .nil) [] trivial
theorem fn39 (p : GProgram) (pa0 : Option Addr) (pk0 : Nat) (kwLA : Option Addr) (kwLK : Nat) (hps : PSm p = true) (rr : Bool) (hrr : sx_Valid p = rr) : FT Tryz.prog 39 #[.agg #[vl pa0 pk0 p.Funcs]] [S pa0 pk0 p.Funcs, pv (gp 0) [vl kwLA kwLK kwL], S kwLA kwLK kwL] (fun g : Unit => True) (fun g => vb rr) (fun g => []) := by
 refine FTi Tryz.func39 fun w0 M0 F0 => Fb 40 0 fun _ => Fb 16 2 fun _ => ?_
 refine FoS 2 fun ho3 => ?_
 refine KS ?_
 refine Oa (Ab [vl pa0 pk0 p.Funcs]) fun p4 => Oq Va (KS ?_)
 refine Oq (Vfa fo25_0 0) (Oq (VldF sh23 0) (Oq (Vlen sl23) (Oq Vlss (Oq Vm ?_))))
 refine Js 11 ?_ ?_
 ·intro h5
  have g6 := dt h5
  refine Osk (Osk (Osk (Osk (Oq Vpt (KS ?_)))))
  refine Kt (KS ?_)
  refine Oq Va (KS ?_)
  have hq := q4 hrr false (by simp only [sx_Valid, h5, cs4]); subst hq
  exact Kr () rfl (.tmp rfl .nil) [] trivial
 intro h5
 have g7 := df h5
 refine Oq (Vfa fo25_0 0) (Oq (VldF sh23 0) (Oq (Vlen sl23) (Oq Vgtr (Oq Vpf (KS ?_)))))
 refine Kc ?_ ?_
 ·intro h8
  have g9 := dt h8
  have hfm := PSm_f hps (i := 8) aM1
  refine KS ?_
  refine Oq Va (KS ?_)
  have hq := q4 hrr false (by simp only [sx_Valid, h5, h8, cs4]); subst hq
  exact Kr () rfl (.tmp rfl .nil) [] trivial
 intro h8
 have g10 := df h8
 refine KS ?_
 refine Oq (Vfa fo25_0 0) (Oq (VldF sh23 0) (Oq (Vlen sl23) (Oq Vm (KS ?_))))
 refine Kl (γ := Nat × Int) (fun (r11, v20_12) => ⟨[(18, vl pa0 pk0 p.Funcs), (19, vi (p.Funcs.length : Int)), (20, vi v20_12)], [S pa0 pk0 p.Funcs, pv (gp 0) [vl kwLA kwLK kwL], S kwLA kwLK kwL], sx_Valid_L0 p r11 v20_12 = sx_Valid_L0 p (((p.Funcs.length : Int) - 0).toNat) 0 ∧ r11 = ((p.Funcs.length : Int) - v20_12).toNat ∧ (0 : Int) ≤ v20_12 ∧ v20_12 ≤ (p.Funcs.length : Int) ∧ (-9223372036854775808 ≤ v20_12 ∧ v20_12 ≤ 9223372036854775807), r11⟩) (((p.Funcs.length : Int) - 0).toNat, 0) [1, 2, 3] ⟨rfl, rfl, aM1, aM1, aM1⟩ ?_
 rintro ⟨r11, v20_12⟩ ⟨hM13, hr14, hi15, hi16, hk17⟩
 refine JJ_nx fun _ _ hL hA => ?_; dsimp only at hL hA; subst hL hA
 refine Fb 40 0 fun _ => Fb 16 2 fun _ => ?_
 refine FoS 2 fun ho20 => ?_
 refine KS ?_
 refine Oq Vlss (KS ?_)
 refine Kc ?_ ?_
 ·intro h21
  have g22 := dt h21
  have hfm := PSm_f hps (i := v20_12) aM1
  obtain ⟨r23, rfl⟩ := scc (n := r11) aM1
  refine KS ?_
  refine Oq (Vi sl23 0) ?_
  refine JJ_peek_GFunc v20_12.toNat 0 rfl rng fun a24 k25 hb26 => ?_
  refine Fb 40 1 fun _ => ?_
  refine Oq (VldA sh39 0) (Oa (Al ze39 [.string (bs (Str.mk [])), .slice none 0 0]) fun p28 => Ost (Scl [0] sh39 [.string (bs ((p.Funcs.getD v20_12.toNat default).Name)), vl a24 k25 ((p.Funcs.getD v20_12.toNat default).Blocks)]) (KS ?_))
  refine Oq (Vfa fo39_0 0) (Oq (VldF sh9 0) ?_)
  refine letv (lx_IsName ((p.Funcs.getD v20_12.toNat default).Name)) fun rv29 hg30 => ?_
  have hc31 := fn69 ((p.Funcs.getD v20_12.toNat default).Name) kwLA kwLK pre rv29 hg30
  refine Oc [4, 5] ca69 hc31 ?_
  rintro - -
  refine Oq Vnot (Oq Vm ?_)
  refine Js 28 ?_ ?_
  ·intro h32
   have h34 := not_true h32
   refine Osk (Osk (Osk (Osk (Oq Vpt (Oq Vm (Osk (Osk (Osk (Osk ?_)))))))))
   refine Oq Vpt (KS ?_)
   refine Kt (KS ?_)
   refine Oq Va (KS ?_)
   have hR36 := q2 hM13 (.ret false) (by simp only [sx_Valid_L0, h21, h32, h34, hg30, cs4])
   have hq := q4 hrr false (by simp only [sx_Valid, h5, h8, h21, h32, h34, hg30, hR36, cs4]); subst hq
   exact Kr () rfl (.tmp rfl .nil) [] trivial
  intro h32
  have h38 := not_false h32
  refine Oq (Vfa fo39_1 0) (Oq (VldF sh37 0) (Oq (Vlen sl37) (Oq Vlss (Oq Vpf (Oq Vm ?_)))))
  refine Js 34 ?_ ?_
  ·intro h40
   have g41 := dt h40
   refine Osk (Osk (Osk (Osk (Oq Vpt (KS ?_)))))
   refine Kt (KS ?_)
   refine Oq Va (KS ?_)
   have hR42 := q2 hM13 (.ret false) (by simp only [sx_Valid_L0, h21, h32, h38, h40, hg30, cs4])
   have hq := q4 hrr false (by simp only [sx_Valid, h5, h8, h21, h32, h38, h40, hg30, hR42, cs4]); subst hq
   exact Kr () rfl (.tmp rfl .nil) [] trivial
  intro h40
  have g43 := df h40
  refine Oq (Vfa fo39_1 0) (Oq (VldF sh37 0) (Oq (Vlen sl37) (Oq Vgtr (Oq Vpf (KS ?_)))))
  refine Kc ?_ ?_
  ·intro h44
   have g45 := dt h44
   have hbm := FSm_b hfm (i := 16) aM1
   refine KS ?_
   refine Oq Va (KS ?_)
   have hR46 := q2 hM13 (.ret false) (by simp only [sx_Valid_L0, h21, h32, h38, h40, h44, hg30, cs4])
   have hq := q4 hrr false (by simp only [sx_Valid, h5, h8, h21, h32, h38, h40, h44, hg30, hR46, cs4]); subst hq
   exact Kr () rfl (.tmp rfl .nil) [] trivial
  intro h44
  have g47 := df h44
  refine KS ?_
  refine Oq (Vfa fo39_1 0) (Oq (VldF sh37 0) (Oq (Vlen sl37) (Oq Vm (KS ?_))))
  refine Kl (γ := Nat × Int) (fun (r48, v43_49) => ⟨[(18, vl pa0 pk0 p.Funcs), (19, vi (p.Funcs.length : Int)), (20, vi v20_12), (41, vl a24 k25 ((p.Funcs.getD v20_12.toNat default).Blocks)), (42, vi (((p.Funcs.getD v20_12.toNat default).Blocks).length : Int)), (43, vi v43_49)], [S a24 k25 ((p.Funcs.getD v20_12.toNat default).Blocks), S pa0 pk0 p.Funcs, pv (gp 0) [vl kwLA kwLK kwL], S kwLA kwLK kwL], sx_Valid_L1 ((p.Funcs.getD v20_12.toNat default).Blocks) r48 v43_49 = sx_Valid_L1 ((p.Funcs.getD v20_12.toNat default).Blocks) ((((((p.Funcs.getD v20_12.toNat default).Blocks).length : Int) : Int) - 0).toNat) 0 ∧ r48 = (((((p.Funcs.getD v20_12.toNat default).Blocks).length : Int) : Int) - v43_49).toNat ∧ (0 : Int) ≤ v43_49 ∧ (v43_49 ≤ (((p.Funcs.getD v20_12.toNat default).Blocks).length : Int) ∨ v43_49 = 0) ∧ (-9223372036854775808 ≤ v43_49 ∧ v43_49 ≤ 9223372036854775807), r48⟩) ((((((p.Funcs.getD v20_12.toNat default).Blocks).length : Int) : Int) - 0).toNat, 0) [2, 3, 4, 5] ⟨rfl, rfl, aM1, (.inr rfl), aM1⟩ ?_
  rintro ⟨r48, v43_49⟩ ⟨hM50, hr51, hi52, hi53, hk54⟩
  refine JJ_nx fun _ _ hL hA => ?_; dsimp only at hL hA; subst hL hA
  refine Fb 40 0 fun _ => Fb 40 1 fun _ => Fb 16 3 fun _ => ?_
  refine FoS 3 fun ho58 => ?_
  refine KS ?_
  refine Oq Vlss (KS ?_)
  refine Kc ?_ ?_
  ·intro h59
   have g60 := dt h59
   have hbm := FSm_b hfm (i := v43_49) aM1
   obtain ⟨r61, rfl⟩ := scc (n := r48) aM1
   refine KS ?_
   refine Oq (Vi sl37 0) ?_
   refine JJ_peek_GBlock v43_49.toNat 0 rfl rng fun a62 k63 hb64 => ?_
   refine Fb 72 1 fun _ => ?_
   refine Oq (VldA sh42 0) (Oa (Al ze42 [.string (bs (Str.mk [])), .slice none 0 0]) fun p66 => Ost (Scl [0] sh42 [.string (bs ((((p.Funcs.getD v20_12.toNat default).Blocks).getD v43_49.toNat default).Name)), .slice a62 (((((p.Funcs.getD v20_12.toNat default).Blocks).getD v43_49.toNat default).Stmts).length) k63]) (KS ?_))
   refine Oq (Vfa fo42_0 0) (Oq (VldF sh9 0) ?_)
   refine letv (lx_IsName ((((p.Funcs.getD v20_12.toNat default).Blocks).getD v43_49.toNat default).Name)) fun rv67 hg68 => ?_
   have hc69 := fn69 ((((p.Funcs.getD v20_12.toNat default).Blocks).getD v43_49.toNat default).Name) kwLA kwLK pre rv67 hg68
   refine Oc [5, 6] ca69 hc69 ?_
   rintro - -
   refine Oq Vnot (Oq Vm ?_)
   refine Js 51 ?_ ?_
   ·intro h70
    have h72 := not_true h70
    refine Osk (Osk (Osk (Osk (Oq Vpt (Oq Vm (Osk (Osk (Osk (Osk ?_)))))))))
    refine Oq Vpt (Oq Vm (Osk (Osk (Osk (Oq Vpt (KS ?_))))))
    refine Kt (KS ?_)
    refine Oq Va (KS ?_)
    have hR74 := q2 hM50 (.ret false) (by simp only [sx_Valid_L1, h59, h70, h72, hg68, cs4])
    have hR75 := q2 hM13 (.ret false) (by simp only [sx_Valid_L0, h21, h32, h38, h40, h44, h59, h70, h72, hg30, hg68, hR74, cs4])
    have hq := q4 hrr false (by simp only [sx_Valid, h5, h8, h21, h32, h38, h40, h44, h59, h70, h72, hg30, hg68, hR74, hR75, cs4]); subst hq
    exact Kr () rfl (.tmp rfl .nil) [] trivial
   intro h70
   have h77 := not_false h70
   refine Oq (Vfa fo42_1 0) (Oq (VldF sh40 0) (Oq (Vlen sl40) (Oq Vlss (Oq Vpf (Oq Vm ?_)))))
   refine Js 57 ?_ ?_
   ·intro h79
    have g80 := dt h79
    refine Osk (Osk (Osk (Osk (Oq Vpt (Oq Vm (Osk (Osk (Osk (Oq Vpt ?_)))))))))
    refine KS ?_
    refine Kt (KS ?_)
    refine Oq Va (KS ?_)
    have hR81 := q2 hM50 (.ret false) (by simp only [sx_Valid_L1, h59, h70, h77, h79, hg68, cs4])
    have hR82 := q2 hM13 (.ret false) (by simp only [sx_Valid_L0, h21, h32, h38, h40, h44, h59, h70, h77, h79, hg30, hg68, hR81, cs4])
    have hq := q4 hrr false (by simp only [sx_Valid, h5, h8, h21, h32, h38, h40, h44, h59, h70, h77, h79, hg30, hg68, hR81, hR82, cs4]); subst hq
    exact Kr () rfl (.tmp rfl .nil) [] trivial
   intro h79
   have g83 := df h79
   refine Oq (Vfa fo42_1 0) (Oq (VldF sh40 0) (Oq (Vlen sl40) (Oq Vgtr (Oq Vpf (Oq Vm ?_)))))
   refine Js 63 ?_ ?_
   ·intro h84
    have g85 := dt h84
    refine Osk (Osk (Osk (Oq Vpt (KS ?_))))
    refine Kt (KS ?_)
    refine Oq Va (KS ?_)
    have hR86 := q2 hM50 (.ret false) (by simp only [sx_Valid_L1, h59, h70, h77, h79, h84, hg68, cs4])
    have hR87 := q2 hM13 (.ret false) (by simp only [sx_Valid_L0, h21, h32, h38, h40, h44, h59, h70, h77, h79, h84, hg30, hg68, hR86, cs4])
    have hq := q4 hrr false (by simp only [sx_Valid, h5, h8, h21, h32, h38, h40, h44, h59, h70, h77, h79, h84, hg30, hg68, hR86, hR87, cs4]); subst hq
    exact Kr () rfl (.tmp rfl .nil) [] trivial
   intro h84
   have g88 := df h84
   refine Oq (Vfa fo42_1 0) (Oq (VldF sh40 0) ?_)
   refine JJ_ent (Ent.pall [5, 6] rfl rfl) ?_
   refine letv (sc_ContainsFunc_Stmt ((((p.Funcs.getD v20_12.toNat default).Blocks).getD v43_49.toNat default).Stmts) (fun x => sx_Valid_1 x)) fun rv89 hg90 => ?_
   have hc91 := fn70 ((((p.Funcs.getD v20_12.toNat default).Blocks).getD v43_49.toNat default).Stmts) a62 k63 71 [] (fun x => sx_Valid_1 x) [pv (gp 0) [vl kwLA kwLK kwL], S kwLA kwLK kwL] ca71 (fun x hx a2 k2 a3 k3 hq0 hq1 => FT_pall (A1 := _) (fn71 x a2 k2 a3 k3 kwLA kwLK hq0 hq1 (BSm_m hbm hx) _ rfl)) rv89 hg90
   refine Oc [3, 0] ca70 hc91 ?_
   rintro - -
   refine Oq Vpf (KS ?_)
   refine Kc ?_ ?_
   ·intro h92
    refine KS ?_
    refine Oq Va (KS ?_)
    have hR94 := q2 hM50 (.ret false) (by simp only [sx_Valid_L1, h59, h70, h77, h79, h84, h92, hg68, hg90, cs4])
    have hR95 := q2 hM13 (.ret false) (by simp only [sx_Valid_L0, h21, h32, h38, h40, h44, h59, h70, h77, h79, h84, h92, hg30, hg68, hg90, hR94, cs4])
    have hq := q4 hrr false (by simp only [sx_Valid, h5, h8, h21, h32, h38, h40, h44, h59, h70, h77, h79, h84, h92, hg30, hg68, hg90, hR94, hR95, cs4]); subst hq
    exact Kr () rfl (.tmp rfl .nil) [] trivial
   intro h92
   refine KS ?_
   refine Oq Vadd (Oq Vm (KS ?_))
   exact Kg (r61, (v43_49 + 1)) [4, 5, 6, 7] ⟨(q3 hM50 (by simp only [sx_Valid_L1, h59, h70, h77, h79, h84, h92, hg68, hg90, cs4])), aM1, aM1, aM1, aM1⟩
  intro h59
  have g97 := df h59
  obtain rfl : r48 = 0 := by omega
  refine Ke ?_
  have hR98 := q2 hM50 (.brk ()) (by simp only [sx_Valid_L1, h59, cs4])
  refine KS ?_
  refine Oq Vadd (Oq Vm (KS ?_))
  exact Kg (r23, (v20_12 + 1)) [1, 2, 3] ⟨(q3 hM13 (by simp only [sx_Valid_L0, h21, h32, h38, h40, h44, h59, hg30, hR98, cs4])), aM1, aM1, aM1, aM1⟩
 intro h21
 have g99 := df h21
 obtain rfl : r11 = 0 := by omega
 refine Ke ?_
 have hR100 := q2 hM13 (.brk ()) (by simp only [sx_Valid_L0, h21, cs4])
 refine KS ?_
 refine Oq Va (KS ?_)
 have hq := q4 hrr true (by simp only [sx_Valid, h5, h8, h21, hR100, cs4]); subst hq
 exact Kr () rfl (.tmp rfl .nil) [] trivial
theorem fn40 (l : List GFunc) (la0 : Option Addr) (lk0 : Nat) (nameF : FuncId) (nameC : List Value) (namep : GFunc → Str) (nameA : List SP) (hnamec : callable Tryz.prog nameF = true) (hnameF : ∀ x0, ∀ (a0 : Option Addr) (k0 : Nat), x0.Name.b.length ≤ 140737488355328 → FT Tryz.prog nameF ([(.agg #[.string (bs x0.Name), vl a0 k0 x0.Blocks] : Value)] ++ nameC).toArray ([S a0 k0 x0.Blocks] ++ [pAll nameA]) (fun _ : Unit => (namep x0).b.length ≤ 140737488355328) (fun _ => .string (bs (namep x0))) (fun _ => [])) (rr : Int × (List (Str × Bool))) (hrr : vd_duplicate_Func l namep = rr) : FT Tryz.prog 40 #[vl la0 lk0 l, .func (.func nameF) #[] nameC.toArray] [S la0 lk0 l, pAll nameA] (fun g : Value => i64ok rr.1) (fun g => .tuple #[vi rr.1, g]) (fun g => [Mp vstr vb okStr g rr.2]) := by
 refine FTi Tryz.func40 fun w0 M0 F0 => Fb 40 0 fun _ => ?_
 refine KS ?_
 refine Oq Va (Oq Va (KS ?_))
 refine Oa (Amp (κ := Str) (ν := Bool) (ek := vstr) (ev := vb) (ok := okStr)) fun p2 => ?_
 refine Jom 0 ?_; rintro b3 rfl
 refine Oq Va (KS ?_)
 refine Oq Va (KS ?_)
 refine Oq Vm (Oq (Vlen sl23) (Oq Vm (KS ?_)))
 refine Kl (γ := Nat × (List (Str × Bool)) × Int × Int) (fun (r4, known_5, at__6, v13_7) => ⟨[(1, .func (.func nameF) #[] nameC.toArray), (6, (mv b3)), (7, vi at__6), (11, vl la0 lk0 l), (12, vi (l.length : Int)), (13, vi v13_7)], [Mp vstr vb okStr (mv b3) known_5, S la0 lk0 l, pAll nameA], vd_duplicate_Func_L0 l namep r4 known_5 at__6 v13_7 = vd_duplicate_Func_L0 l namep (((l.length : Int) - 0).toNat) [] (-1) 0 ∧ r4 = ((l.length : Int) - v13_7).toNat ∧ (0 : Int) ≤ v13_7 ∧ v13_7 ≤ (l.length : Int) ∧ (-9223372036854775808 ≤ at__6 ∧ at__6 ≤ 9223372036854775807) ∧ (-9223372036854775808 ≤ v13_7 ∧ v13_7 ≤ 9223372036854775807), r4⟩) (((l.length : Int) - 0).toNat, [], -1, 0) [0, 0, 1] ⟨rfl, rfl, aM1, aM1, aM1, aM1⟩ ?_
 rintro ⟨r4, known_5, at__6, v13_7⟩ ⟨hM8, hr9, hi10, hi11, hk12, hk13⟩
 refine JJ_nx fun _ _ hL hA => ?_; dsimp only at hL hA; subst hL hA
 refine Fb 40 1 fun _ => KS ?_
 refine Oq Vlss (KS ?_)
 refine Kc ?_ ?_
 ·intro h15
  have g16 := dt h15
  obtain ⟨r17, rfl⟩ := scc (n := r4) aM1
  refine KS ?_
  refine Oq Vm (Oq (Vi sl23 1) ?_)
  refine JJ_peek_GFunc v13_7.toNat 1 rfl rng fun a18 k19 hb20 => ?_
  refine Fb 40 1 fun _ => ?_
  refine Oq (VldA sh39 0) (Oa (Al ze39 [.string (bs (Str.mk [])), .slice none 0 0]) fun p22 => Oq Va (Ost (Scl [0] sh39 [.string (bs ((l.getD v13_7.toNat default).Name)), vl a18 k19 ((l.getD v13_7.toNat default).Blocks)]) (KS ?_)))
  refine Oq Vm (Oq Vm (Oq (VldA sh39 0) ?_))
  refine JO_call [2, 5] rfl rfl rfl (OpC.clo (asv := [(.agg #[.string (bs ((l.getD v13_7.toNat default).Name)), vl a18 k19 ((l.getD v13_7.toNat default).Blocks)] : Value)] ++ nameC) rfl rfl hnamec rfl (by simp)) (hnameF (l.getD v13_7.toNat default) a18 k19 pre) rfl fun _ he23 => ?_
  refine Oq (Vmk1 3 false mt94 (kStr un9) ze4 (ek := vstr) (ev := vb) (ok := okStr) (key := (namep (l.getD v13_7.toNat default))) pre) (Oq Vm ?_)
  refine Js 23 ?_ ?_
  ·intro h24
   refine Oq Vm (Oq Vlss (Oq Vpt (KS ?_)))
   refine Kc ?_ ?_
   ·intro h26
    have g27 := dt h26
    refine KS ?_
    refine Oq Vm (Oq Va (KS ?_))
    refine Oq Vm (Oq Vm (Oq (VldA sh39 0) ?_))
    refine JO_call [2, 5] rfl rfl rfl (OpC.clo (asv := [(.agg #[.string (bs ((l.getD v13_7.toNat default).Name)), vl a18 k19 ((l.getD v13_7.toNat default).Blocks)] : Value)] ++ nameC) rfl rfl hnamec rfl (by simp)) (hnameF (l.getD v13_7.toNat default) a18 k19 pre) rfl fun _ he28 => ?_
    refine Ost (Smp [3] mt94 (kStr un9) true (ek := vstr) (ev := vb) (ok := okStr) (key := (namep (l.getD v13_7.toNat default))) pre) (KS ?_)
    refine Oq Vadd (Oq Vm (KS ?_))
    exact Kg (r17, (mset known_5 (namep (l.getD v13_7.toNat default)) true), v13_7, (v13_7 + 1)) [0, 3, 4] ⟨(q3 hM8 (by simp only [vd_duplicate_Func_L0, h15, h24, h26, cs4])), aM1, aM1, aM1, aM1, aM1⟩
   intro h26
   have g29 := df h26
   refine KS ?_
   refine Oq Vm (Oq Vm (Oq (VldA sh39 0) ?_))
   refine JO_call [2, 5] rfl rfl rfl (OpC.clo (asv := [(.agg #[.string (bs ((l.getD v13_7.toNat default).Name)), vl a18 k19 ((l.getD v13_7.toNat default).Blocks)] : Value)] ++ nameC) rfl rfl hnamec rfl (by simp)) (hnameF (l.getD v13_7.toNat default) a18 k19 pre) rfl fun _ he30 => ?_
   refine Ost (Smp [3] mt94 (kStr un9) true (ek := vstr) (ev := vb) (ok := okStr) (key := (namep (l.getD v13_7.toNat default))) pre) (KS ?_)
   refine Oq Vadd (Oq Vm (KS ?_))
   exact Kg (r17, (mset known_5 (namep (l.getD v13_7.toNat default)) true), at__6, (v13_7 + 1)) [0, 3, 4] ⟨(q3 hM8 (by simp only [vd_duplicate_Func_L0, h15, h24, h26, cs4])), aM1, aM1, aM1, aM1, aM1⟩
  intro h24
  refine Osk (Osk (Oq Vpf (KS ?_)))
  refine Kf (KS ?_)
  refine Oq Vm (Oq Vm (Oq (VldA sh39 0) ?_))
  refine JO_call [2, 5] rfl rfl rfl (OpC.clo (asv := [(.agg #[.string (bs ((l.getD v13_7.toNat default).Name)), vl a18 k19 ((l.getD v13_7.toNat default).Blocks)] : Value)] ++ nameC) rfl rfl hnamec rfl (by simp)) (hnameF (l.getD v13_7.toNat default) a18 k19 pre) rfl fun _ he32 => ?_
  refine Ost (Smp [3] mt94 (kStr un9) true (ek := vstr) (ev := vb) (ok := okStr) (key := (namep (l.getD v13_7.toNat default))) pre) (KS ?_)
  refine Oq Vadd (Oq Vm (KS ?_))
  exact Kg (r17, (mset known_5 (namep (l.getD v13_7.toNat default)) true), at__6, (v13_7 + 1)) [0, 3, 4] ⟨(q3 hM8 (by simp only [vd_duplicate_Func_L0, h15, h24, cs4])), aM1, aM1, aM1, aM1, aM1⟩
 intro h15
 have g33 := df h15
 obtain rfl : r4 = 0 := by omega
 refine Ke ?_
 have hR34 := q2 hM8 (known_5, at__6) (by simp only [vd_duplicate_Func_L0, h15, cs4])
 refine KS ?_
 refine Oq Vm (Oq Vm (Oq Va (Oq Va (KS ?_))))
 have hq := q4 hrr (at__6, known_5) (by simp only [vd_duplicate_Func, h15, hR34, cs4]); subst hq
 exact Kr (mv b3) rfl (.tmp rfl (.tmp rfl .nil)) [0] en
theorem fn41 (f : GFunc) (fa1 : Option Addr) (fk1 : Nat) (hf_0 : f.Name.b.length ≤ 140737488355328) (rr : Str) (hrr : vd_Check_1 f = rr) : FT Tryz.prog 41 #[.agg #[.string (bs f.Name), vl fa1 fk1 f.Blocks]] [S fa1 fk1 f.Blocks] (fun g : Unit => rr.b.length ≤ 140737488355328) (fun g => .string (bs rr)) (fun g => []) := by
 refine FTi Tryz.func41 fun w0 M0 F0 => Fb 40 0 fun _ => ?_
 refine KS ?_
 refine Oa (Ab [.string (bs f.Name), vl fa1 fk1 f.Blocks]) fun p2 => Oq Va (KS ?_)
 refine Oq (Vfa fo39_0 0) (Oq (VldF sh9 0) (Oq Va (KS ?_)))
 have hq := q4 hrr f.Name (by simp only [vd_Check_1, cs4]); subst hq
 exact Kr () rfl (.tmp rfl .nil) [] en
theorem fn73 (l : List GBlock) (la0 : Option Addr) (lk0 : Nat) (nameF : FuncId) (nameC : List Value) (namep : GBlock → Str) (nameA : List SP) (hnamec : callable Tryz.prog nameF = true) (hnameF : ∀ x0, ∀ (a0 : Option Addr) (k0 : Nat), x0.Name.b.length ≤ 140737488355328 → FT Tryz.prog nameF ([(.agg #[.string (bs x0.Name), vl a0 k0 x0.Stmts] : Value)] ++ nameC).toArray ([S a0 k0 x0.Stmts] ++ [pAll nameA]) (fun _ : Unit => (namep x0).b.length ≤ 140737488355328) (fun _ => .string (bs (namep x0))) (fun _ => [])) (rr : Int × (List (Str × Bool))) (hrr : vd_duplicate_Block l namep = rr) : FT Tryz.prog 73 #[vl la0 lk0 l, .func (.func nameF) #[] nameC.toArray] [S la0 lk0 l, pAll nameA] (fun g : Value => i64ok rr.1) (fun g => .tuple #[vi rr.1, g]) (fun g => [Mp vstr vb okStr g rr.2]) := by
 refine FTi Tryz.func73 fun w0 M0 F0 => Fb 40 0 fun _ => ?_
 refine KS ?_
 refine Oq Va (Oq Va (KS ?_))
 refine Oa (Amp (κ := Str) (ν := Bool) (ek := vstr) (ev := vb) (ok := okStr)) fun p2 => ?_
 refine Jom 0 ?_; rintro b3 rfl
 refine Oq Va (KS ?_)
 refine Oq Va (KS ?_)
 refine Oq Vm (Oq (Vlen sl37) (Oq Vm (KS ?_)))
 refine Kl (γ := Nat × (List (Str × Bool)) × Int × Int) (fun (r4, known_5, at__6, v13_7) => ⟨[(1, .func (.func nameF) #[] nameC.toArray), (6, (mv b3)), (7, vi at__6), (11, vl la0 lk0 l), (12, vi (l.length : Int)), (13, vi v13_7)], [Mp vstr vb okStr (mv b3) known_5, S la0 lk0 l, pAll nameA], vd_duplicate_Block_L0 l namep r4 known_5 at__6 v13_7 = vd_duplicate_Block_L0 l namep (((l.length : Int) - 0).toNat) [] (-1) 0 ∧ r4 = ((l.length : Int) - v13_7).toNat ∧ (0 : Int) ≤ v13_7 ∧ v13_7 ≤ (l.length : Int) ∧ (-9223372036854775808 ≤ at__6 ∧ at__6 ≤ 9223372036854775807) ∧ (-9223372036854775808 ≤ v13_7 ∧ v13_7 ≤ 9223372036854775807), r4⟩) (((l.length : Int) - 0).toNat, [], -1, 0) [0, 0, 1] ⟨rfl, rfl, aM1, aM1, aM1, aM1⟩ ?_
 rintro ⟨r4, known_5, at__6, v13_7⟩ ⟨hM8, hr9, hi10, hi11, hk12, hk13⟩
 refine JJ_nx fun _ _ hL hA => ?_; dsimp only at hL hA; subst hL hA
 refine Fb 40 1 fun _ => KS ?_
 refine Oq Vlss (KS ?_)
 refine Kc ?_ ?_
 ·intro h15
  have g16 := dt h15
  obtain ⟨r17, rfl⟩ := scc (n := r4) aM1
  refine KS ?_
  refine Oq Vm (Oq (Vi sl37 1) ?_)
  refine JJ_peek_GBlock v13_7.toNat 1 rfl rng fun a18 k19 hb20 => ?_
  refine Fb 72 1 fun _ => ?_
  refine Oq (VldA sh42 0) (Oa (Al ze42 [.string (bs (Str.mk [])), .slice none 0 0]) fun p22 => Oq Va (Ost (Scl [0] sh42 [.string (bs ((l.getD v13_7.toNat default).Name)), vl a18 k19 ((l.getD v13_7.toNat default).Stmts)]) (KS ?_)))
  refine Oq Vm (Oq Vm (Oq (VldA sh42 0) ?_))
  refine JO_call [2, 5] rfl rfl rfl (OpC.clo (asv := [(.agg #[.string (bs ((l.getD v13_7.toNat default).Name)), vl a18 k19 ((l.getD v13_7.toNat default).Stmts)] : Value)] ++ nameC) rfl rfl hnamec rfl (by simp)) (hnameF (l.getD v13_7.toNat default) a18 k19 pre) rfl fun _ he23 => ?_
  refine Oq (Vmk1 3 false mt94 (kStr un9) ze4 (ek := vstr) (ev := vb) (ok := okStr) (key := (namep (l.getD v13_7.toNat default))) pre) (Oq Vm ?_)
  refine Js 23 ?_ ?_
  ·intro h24
   refine Oq Vm (Oq Vlss (Oq Vpt (KS ?_)))
   refine Kc ?_ ?_
   ·intro h26
    have g27 := dt h26
    refine KS ?_
    refine Oq Vm (Oq Va (KS ?_))
    refine Oq Vm (Oq Vm (Oq (VldA sh42 0) ?_))
    refine JO_call [2, 5] rfl rfl rfl (OpC.clo (asv := [(.agg #[.string (bs ((l.getD v13_7.toNat default).Name)), vl a18 k19 ((l.getD v13_7.toNat default).Stmts)] : Value)] ++ nameC) rfl rfl hnamec rfl (by simp)) (hnameF (l.getD v13_7.toNat default) a18 k19 pre) rfl fun _ he28 => ?_
    refine Ost (Smp [3] mt94 (kStr un9) true (ek := vstr) (ev := vb) (ok := okStr) (key := (namep (l.getD v13_7.toNat default))) pre) (KS ?_)
    refine Oq Vadd (Oq Vm (KS ?_))
    exact Kg (r17, (mset known_5 (namep (l.getD v13_7.toNat default)) true), v13_7, (v13_7 + 1)) [0, 3, 4] ⟨(q3 hM8 (by simp only [vd_duplicate_Block_L0, h15, h24, h26, cs4])), aM1, aM1, aM1, aM1, aM1⟩
   intro h26
   have g29 := df h26
   refine KS ?_
   refine Oq Vm (Oq Vm (Oq (VldA sh42 0) ?_))
   refine JO_call [2, 5] rfl rfl rfl (OpC.clo (asv := [(.agg #[.string (bs ((l.getD v13_7.toNat default).Name)), vl a18 k19 ((l.getD v13_7.toNat default).Stmts)] : Value)] ++ nameC) rfl rfl hnamec rfl (by simp)) (hnameF (l.getD v13_7.toNat default) a18 k19 pre) rfl fun _ he30 => ?_
   refine Ost (Smp [3] mt94 (kStr un9) true (ek := vstr) (ev := vb) (ok := okStr) (key := (namep (l.getD v13_7.toNat default))) pre) (KS ?_)
   refine Oq Vadd (Oq Vm (KS ?_))
   exact Kg (r17, (mset known_5 (namep (l.getD v13_7.toNat default)) true), at__6, (v13_7 + 1)) [0, 3, 4] ⟨(q3 hM8 (by simp only [vd_duplicate_Block_L0, h15, h24, h26, cs4])), aM1, aM1, aM1, aM1, aM1⟩
  intro h24
  refine Osk (Osk (Oq Vpf (KS ?_)))
  refine Kf (KS ?_)
  refine Oq Vm (Oq Vm (Oq (VldA sh42 0) ?_))
  refine JO_call [2, 5] rfl rfl rfl (OpC.clo (asv := [(.agg #[.string (bs ((l.getD v13_7.toNat default).Name)), vl a18 k19 ((l.getD v13_7.toNat default).Stmts)] : Value)] ++ nameC) rfl rfl hnamec rfl (by simp)) (hnameF (l.getD v13_7.toNat default) a18 k19 pre) rfl fun _ he32 => ?_
  refine Ost (Smp [3] mt94 (kStr un9) true (ek := vstr) (ev := vb) (ok := okStr) (key := (namep (l.getD v13_7.toNat default))) pre) (KS ?_)
  refine Oq Vadd (Oq Vm (KS ?_))
  exact Kg (r17, (mset known_5 (namep (l.getD v13_7.toNat default)) true), at__6, (v13_7 + 1)) [0, 3, 4] ⟨(q3 hM8 (by simp only [vd_duplicate_Block_L0, h15, h24, cs4])), aM1, aM1, aM1, aM1, aM1⟩
 intro h15
 have g33 := df h15
 obtain rfl : r4 = 0 := by omega
 refine Ke ?_
 have hR34 := q2 hM8 (known_5, at__6) (by simp only [vd_duplicate_Block_L0, h15, cs4])
 refine KS ?_
 refine Oq Vm (Oq Vm (Oq Va (Oq Va (KS ?_))))
 have hq := q4 hrr (at__6, known_5) (by simp only [vd_duplicate_Block, h15, hR34, cs4]); subst hq
 exact Kr (mv b3) rfl (.tmp rfl (.tmp rfl .nil)) [0] en
theorem fn74 (b : GBlock) (ba1 : Option Addr) (bk1 : Nat) (hb_0 : b.Name.b.length ≤ 140737488355328) (rr : Str) (hrr : vd_function_1 b = rr) : FT Tryz.prog 74 #[.agg #[.string (bs b.Name), vl ba1 bk1 b.Stmts]] [S ba1 bk1 b.Stmts] (fun g : Unit => rr.b.length ≤ 140737488355328) (fun g => .string (bs rr)) (fun g => []) := by
 refine FTi Tryz.func74 fun w0 M0 F0 => Fb 72 0 fun _ => ?_
 refine KS ?_
 refine Oa (Ab [.string (bs b.Name), vl ba1 bk1 b.Stmts]) fun p2 => Oq Va (KS ?_)
 refine Oq (Vfa fo42_0 0) (Oq (VldF sh9 0) (Oq Va (KS ?_)))
 have hq := q4 hrr b.Name (by simp only [vd_function_1, cs4]); subst hq
 exact Kr () rfl (.tmp rfl .nil) [] en
theorem fn109 (s : GStmt) (sa2 : Option Addr) (sk2 : Nat) (sa3 : Option Addr) (sk3 : Nat) (hs_0 : i64ok s.Op) (hs_1 : s.Def.b.length ≤ 140737488355328) (rr : Bool) (hrr : vd_terminator s = rr) : FT Tryz.prog 109 #[.agg #[vi s.Op, .string (bs s.Def), vl sa2 sk2 s.Uses, vl sa3 sk3 s.Targets]] [S sa2 sk2 s.Uses, S sa3 sk3 s.Targets] (fun g : Unit => True) (fun g => vb rr) (fun g => []) := by
 refine FTi Tryz.func109 fun w0 M0 F0 => ?_
 unfold i64ok at hs_0
 refine Fb 16 0 fun _ => ?_
 refine FoS 0 fun ho2 => ?_
 refine Fb 16 1 fun _ => ?_
 refine FoS 1 fun ho4 => ?_
 refine KS ?_
 refine Oa (Ab [vi s.Op, .string (bs s.Def), vl sa2 sk2 s.Uses, vl sa3 sk3 s.Targets]) fun p5 => Oq Va (KS ?_)
 refine Oq (Vfa fo44_0 0) (Oq (VldF sh3 0) (Oq Veql (Oq Vm ?_)))
 refine Js 6 ?_ ?_
 ·intro h6
  have g7 := eq_of_beq h6
  refine Osk (Osk (Osk (Oq Vpt (Oq Vm (Osk (Osk (Osk (Oq Vpt (Oq Va ?_)))))))))
  refine KS ?_
  have hq := q4 hrr true (by simp only [vd_terminator, h6, cs4]); subst hq
  exact Kr () rfl (.tmp rfl .nil) [] trivial
 intro h6
 have g8 := ne_of_beq_false h6
 refine Oq (Vfa fo44_0 0) (Oq (VldF sh3 0) (Oq Veql (Oq Vpf (Oq Vm ?_))))
 refine Js 11 ?_ ?_
 ·intro h9
  have g10 := eq_of_beq h9
  refine Osk (Osk (Osk (Oq Vpt (Oq Va (KS ?_)))))
  have hq := q4 hrr true (by simp only [vd_terminator, h6, h9, cs4]); subst hq
  exact Kr () rfl (.tmp rfl .nil) [] trivial
 intro h9
 have g11 := ne_of_beq_false h9
 refine Oq (Vfa fo44_0 0) (Oq (VldF sh3 0) (Oq Veql (Oq Vpf (Oq Va (KS ?_)))))
 have hq := q4 hrr (s.Op == 9) (by simp only [vd_terminator, h6, h9, cs4]); subst hq
 exact Kr () rfl (.tmp rfl .nil) [] trivial
theorem fn75 (s : GStmt) (sa2 : Option Addr) (sk2 : Nat) (sa3 : Option Addr) (sk3 : Nat) (last : Bool) (knownP : Value) (known : List (Str × Bool)) (hs_0 : i64ok s.Op) (hs_1 : s.Def.b.length ≤ 140737488355328) (rr : Int) (hrr : vd_statement s last known = rr) : FT Tryz.prog 75 #[.agg #[vi s.Op, .string (bs s.Def), vl sa2 sk2 s.Uses, vl sa3 sk3 s.Targets], vb last, knownP] [S sa2 sk2 s.Uses, S sa3 sk3 s.Targets, Mp vstr vb okStr knownP known] (fun g : Unit => i64ok rr) (fun g => vi rr) (fun g => [Mp vstr vb okStr knownP known]) := by
 refine FTi Tryz.func75 fun w0 M0 F0 => ?_
 unfold i64ok at hs_0
 refine Fb 16 0 fun _ => ?_
 refine FoS 0 fun ho2 => ?_
 refine Fb 16 1 fun _ => ?_
 refine FoS 1 fun ho4 => ?_
 refine KS ?_
 refine Oa (Ab [vi s.Op, .string (bs s.Def), vl sa2 sk2 s.Uses, vl sa3 sk3 s.Targets]) fun p5 => Oq Va (KS ?_)
 refine Oq (VldA sh44 0) ?_
 refine letv (vd_terminator s) fun rv6 hg7 => ?_
 have hc8 := fn109 s sa2 sk2 sa3 sk3 pre pre rv6 hg7
 refine Oc [1, 2] ca109 hc8 ?_
 rintro - -
 refine Oq Vm (Oq (Vnb un4) (KS ?_))
 refine Kc ?_ ?_
 ·intro h9
  refine KS ?_
  refine Oq Va (KS ?_)
  have hq := q4 hrr 4 (by simp only [vd_statement, h9, hg7, cs4]); subst hq
  exact Kr () rfl (.tmp rfl .nil) [3] en
 intro h9
 refine KS ?_
 refine Oq (Vfa fo44_3 0) (Oq (VldF sh36 0) (Oq (Vlen sl36) (Oq Vm (KS ?_))))
 refine Kl (γ := Nat × Int) (fun (r12, v16_13) => ⟨[(2, knownP), (14, vl sa3 sk3 s.Targets), (15, vi (s.Targets.length : Int)), (16, vi v16_13)], [S sa3 sk3 s.Targets, Mp vstr vb okStr knownP known], vd_statement_L0 s known r12 v16_13 = vd_statement_L0 s known (((s.Targets.length : Int) - 0).toNat) 0 ∧ r12 = ((s.Targets.length : Int) - v16_13).toNat ∧ (0 : Int) ≤ v16_13 ∧ v16_13 ≤ (s.Targets.length : Int) ∧ (-9223372036854775808 ≤ v16_13 ∧ v16_13 ≤ 9223372036854775807), r12⟩) (((s.Targets.length : Int) - 0).toNat, 0) [2, 3] ⟨rfl, rfl, aM1, aM1, aM1⟩ ?_
 rintro ⟨r12, v16_13⟩ ⟨hM14, hr15, hi16, hi17, hk18⟩
 refine JJ_nx fun _ _ hL hA => ?_; dsimp only at hL hA; subst hL hA
 refine Fb 16 0 fun _ => ?_
 refine FoS 0 fun ho20 => ?_
 refine KS ?_
 refine Oq Vlss (KS ?_)
 refine Kc ?_ ?_
 ·intro h21
  have g22 := dt h21
  obtain ⟨r23, rfl⟩ := scc (n := r12) aM1
  refine KS ?_
  refine Oq (Vi sl36 0) ?_
  have hb24 := okS (i := v16_13.toNat) ho20 rng
  refine Oq (VldS sh9 0) (Oq Va (KS ?_))
  refine Oq Vm (Oq Vm (Oq (Vmk1 1 false mt94 (kStr un9) ze4 (ek := vstr) (ev := vb) (ok := okStr) (key := (s.Targets.getD v16_13.toNat default)) pre) (Oq Vnot (KS ?_))))
  refine Kc ?_ ?_
  ·intro h25
   have h27 := not_true h25
   refine KS ?_
   refine Oq Va (KS ?_)
   have hR29 := q2 hM14 (.ret 5) (by simp only [vd_statement_L0, h21, h25, h27, cs4])
   have hq := q4 hrr 5 (by simp only [vd_statement, h9, h21, h25, h27, hg7, hR29, cs4]); subst hq
   exact Kr () rfl (.tmp rfl .nil) [1] en
  intro h25
  have h31 := not_false h25
  refine KS ?_
  refine Oq Vadd (Oq Vm (KS ?_))
  exact Kg (r23, (v16_13 + 1)) [0, 1] ⟨(q3 hM14 (by simp only [vd_statement_L0, h21, h25, h31, cs4])), aM1, aM1, aM1, aM1⟩
 intro h21
 have g33 := df h21
 obtain rfl : r12 = 0 := by omega
 refine Ke ?_
 have hR34 := q2 hM14 (.brk ()) (by simp only [vd_statement_L0, h21, cs4])
 refine KS ?_
 refine Oq Va (KS ?_)
 have hq := q4 hrr 0 (by simp only [vd_statement, h9, h21, hg7, hR34, cs4]); subst hq
 exact Kr () rfl (.tmp rfl .nil) [1] en
theorem fn42 (f : GFunc) (fa1 : Option Addr) (fk1 : Nat) (i : Int) (funcsP : Value) (funcs : List (Str × Bool)) (hf_0 : f.Name.b.length ≤ 140737488355328) (hi_0 : i64ok i) (rr : GNode × Int) (hrr : vd_function f i funcs = rr) : FT Tryz.prog 42 #[.agg #[.string (bs f.Name), vl fa1 fk1 f.Blocks], vi i, funcsP] [S fa1 fk1 f.Blocks, Mp vstr vb okStr funcsP funcs] (fun g : Unit => i64ok rr.1.Kind ∧ i64ok rr.1.Func ∧ i64ok rr.1.Block ∧ i64ok rr.1.Stmt ∧ i64ok rr.2) (fun g => .tuple #[.agg #[vi rr.1.Kind, vi rr.1.Func, vi rr.1.Block, vi rr.1.Stmt], vi rr.2]) (fun g => [Mp vstr vb okStr funcsP funcs]) := by
 refine FTi Tryz.func42 fun w0 M0 F0 => ?_
 unfold i64ok at hi_0
 refine Fb 40 0 fun _ => KS ?_
 refine Oa (Ab [.string (bs f.Name), vl fa1 fk1 f.Blocks]) fun p2 => Oa (Al ze65 [vi 0, vi 0, vi 0, vi 0]) fun p3 => Oq Va (KS ?_)
 refine Oq (Vfa fo39_1 1) (Oq (VldF sh37 1) ?_)
 refine JJ_ent (Ent.pall [] rfl rfl) ?_
 refine letv (vd_duplicate_Block f.Blocks (fun x0 => vd_function_1 x0)) fun rv5 hg6 => ?_
 have hc7 := fn73 f.Blocks fa1 fk1 74 [] (fun x0 => vd_function_1 x0) [] ca74 (fun x0 a0 k0 hq0 => FT_pall (A1 := _) (fn74 x0 a0 k0  hq0 _ rfl)) rv5 hg6
 refine Oc [3, 0] ca73 hc7 ?_
 rintro c4 he8
 unfold i64ok at he8
 refine Jom 0 ?_; rintro b9 rfl
 refine Oq Vm (Oq Vx (Oq Vx (Oq Va (Oq Va (KS ?_)))))
 refine Oq Vm (Oq Vgeq (KS ?_))
 refine Kc ?_ ?_
 ·intro h10
  have g11 := dt h10
  refine KS ?_
  refine Oq Vm (Oq Vm (Oq (Vbd st65 [vi 3, vi i, vi rv5.1, vi (-1)]) (Ost (Scl [2] sh65 [vi 3, vi i, vi rv5.1, vi (-1)]) (Oq Va (KS ?_)))))
  have hq := q4 hrr ((GNode.mk 3 i rv5.1 (-1)), 6) (by simp only [vd_function, h10, hg6, cs4]); subst hq
  exact Kr () rfl (.cellN 0 rfl sh65 rfl (reads_Cl _ _) rfl (.tmp rfl .nil)) [5] en
 intro h10
 have g12 := df h10
 refine KS ?_
 refine Oq (Vfa fo39_1 3) (Oq (VldF sh37 3) (Oq (Vlen sl37) (Oq Vm (KS ?_))))
 refine Kl (γ := Nat × Int) (fun (r13, v30_14) => ⟨[(1, vi i), (2, funcsP), (6, p3), (9, (mv b9)), (28, vl fa1 fk1 f.Blocks), (29, vi (f.Blocks.length : Int)), (30, vi v30_14)], [Mp vstr vb okStr (mv b9) rv5.2, pAll [], Cl p3 [vi 0, vi 0, vi 0, vi 0], S fa1 fk1 f.Blocks, Mp vstr vb okStr funcsP funcs], vd_function_L0 f i funcs rv5.2 r13 v30_14 = vd_function_L0 f i funcs rv5.2 (((f.Blocks.length : Int) - 0).toNat) 0 ∧ r13 = ((f.Blocks.length : Int) - v30_14).toNat ∧ (0 : Int) ≤ v30_14 ∧ v30_14 ≤ (f.Blocks.length : Int) ∧ (-9223372036854775808 ≤ v30_14 ∧ v30_14 ≤ 9223372036854775807), r13⟩) (((f.Blocks.length : Int) - 0).toNat, 0) [0, 0, 1, 2, 3] ⟨rfl, rfl, aM1, aM1, aM1⟩ ?_
 rintro ⟨r13, v30_14⟩ ⟨hM15, hr16, hi17, hi18, hk19⟩
 refine JJ_nx fun _ _ hL hA => ?_; dsimp only at hL hA; subst hL hA
 refine Fb 40 3 fun _ => KS ?_
 refine Oq Vlss (KS ?_)
 refine Kc ?_ ?_
 ·intro h21
  have g22 := dt h21
  obtain ⟨r23, rfl⟩ := scc (n := r13) aM1
  refine KS ?_
  refine Oq Vm (Oq (Vi sl37 3) ?_)
  refine JJ_peek_GBlock v30_14.toNat 3 rfl rng fun a24 k25 hb26 => ?_
  refine Fb 72 1 fun _ => ?_
  refine Oq (VldA sh42 0) (Oa (Al ze42 [.string (bs (Str.mk [])), .slice none 0 0]) fun p28 => Oq Va (Ost (Scl [0] sh42 [.string (bs ((f.Blocks.getD v30_14.toNat default).Name)), vl a24 k25 ((f.Blocks.getD v30_14.toNat default).Stmts)]) (KS ?_)))
  refine Oq (Vfa fo42_1 0) (Oq (VldF sh40 0) (Oq (Vlen sl40) (Oq Vm (KS ?_))))
  refine Kl (γ := Nat × Int) (fun (r29, v38_30) => ⟨[(1, vi i), (2, funcsP), (6, p3), (9, (mv b9)), (28, vl fa1 fk1 f.Blocks), (29, vi (f.Blocks.length : Int)), (30, vi v30_14), (11, p28), (10, vi v30_14), (36, vl a24 k25 ((f.Blocks.getD v30_14.toNat default).Stmts)), (37, vi (((f.Blocks.getD v30_14.toNat default).Stmts).length : Int)), (38, vi v38_30)], [Cl p28 [.string (bs ((f.Blocks.getD v30_14.toNat default).Name)), vl a24 k25 ((f.Blocks.getD v30_14.toNat default).Stmts)], S a24 k25 ((f.Blocks.getD v30_14.toNat default).Stmts), Mp vstr vb okStr (mv b9) rv5.2, pAll [], Cl p3 [vi 0, vi 0, vi 0, vi 0], S fa1 fk1 f.Blocks, Mp vstr vb okStr funcsP funcs], vd_function_L1 i funcs rv5.2 v30_14 ((f.Blocks.getD v30_14.toNat default).Stmts) ((f.Blocks.getD v30_14.toNat default).Stmts) r29 v38_30 = vd_function_L1 i funcs rv5.2 v30_14 ((f.Blocks.getD v30_14.toNat default).Stmts) ((f.Blocks.getD v30_14.toNat default).Stmts) ((((((f.Blocks.getD v30_14.toNat default).Stmts).length : Int) : Int) - 0).toNat) 0 ∧ r29 = (((((f.Blocks.getD v30_14.toNat default).Stmts).length : Int) : Int) - v38_30).toNat ∧ (0 : Int) ≤ v38_30 ∧ (v38_30 ≤ (((f.Blocks.getD v30_14.toNat default).Stmts).length : Int) ∨ v38_30 = 0) ∧ (-9223372036854775808 ≤ v38_30 ∧ v38_30 ≤ 9223372036854775807), r29⟩) ((((((f.Blocks.getD v30_14.toNat default).Stmts).length : Int) : Int) - 0).toNat, 0) [0, 1, 2, 2, 3, 3, 4] ⟨rfl, rfl, aM1, (.inr rfl), aM1⟩ ?_
  rintro ⟨r29, v38_30⟩ ⟨hM31, hr32, hi33, hi34, hk35⟩
  refine JJ_nx fun _ _ hL hA => ?_; dsimp only at hL hA; subst hL hA
  refine Fb 72 1 fun _ => Fb 40 5 fun _ => KS ?_
  refine Oq Vlss (KS ?_)
  refine Kc ?_ ?_
  ·intro h38
   have g39 := dt h38
   obtain ⟨r40, rfl⟩ := scc (n := r29) aM1
   refine KS ?_
   refine Oq Vm (Oq (Vi sl40 1) ?_)
   refine JJ_peek_GStmt v38_30.toNat 1 rfl rng fun a41 k42 a43 k44 hb45 hb46 => ?_
   unfold i64ok at hb45
   refine Fb 16 1 fun _ => ?_
   refine FoS 1 fun ho48 => ?_
   refine Fb 16 2 fun _ => ?_
   refine FoS 2 fun ho50 => ?_
   refine Oq (VldA sh44 0) (Oa (Al ze44 [vi 0, .string (bs (Str.mk [])), .slice none 0 0, .slice none 0 0]) fun p51 => Oq Va (Ost (Scl [0] sh44 [vi ((((f.Blocks.getD v30_14.toNat default).Stmts).getD v38_30.toNat default).Op), .string (bs ((((f.Blocks.getD v30_14.toNat default).Stmts).getD v38_30.toNat default).Def)), .slice a41 (((((f.Blocks.getD v30_14.toNat default).Stmts).getD v38_30.toNat default).Uses).length) k42, .slice a43 (((((f.Blocks.getD v30_14.toNat default).Stmts).getD v38_30.toNat default).Targets).length) k44]) (KS ?_)))
   refine Oq Vm (Oq Va (KS ?_))
   refine Oq (Vfa fo44_0 0) (Oq (VldF sh3 0) (Oq Veql (KS ?_)))
   refine Kc ?_ ?_
   ·intro h52
    have g53 := eq_of_beq h52
    refine KS ?_
    refine Oq Vm (Oq Va (KS ?_))
    refine Oq (VldA sh44 0) (Oq Vm (Oq (Vfa fo42_1 4) (Oq (VldF sh40 4) (Oq (Vlen sl40) (Oq Vsub (Oq Veql (Oq Vm ?_)))))))
    refine letv (vd_statement (((f.Blocks.getD v30_14.toNat default).Stmts).getD v38_30.toNat default) (v38_30 == ((((f.Blocks.getD v30_14.toNat default).Stmts).length : Int) - 1)) funcs) fun rv54 hg55 => ?_
    have hc56 := fn75 ((((f.Blocks.getD v30_14.toNat default).Stmts).getD v38_30.toNat default)) a41 k42 a43 k44 ((v38_30 == ((((f.Blocks.getD v30_14.toNat default).Stmts).length : Int) - 1))) funcsP funcs pre pre rv54 hg55
    refine Oc [2, 3, 10] ca75 hc56 ?_
    rintro - he57
    unfold i64ok at he57
    refine Oq Va (KS ?_)
    refine Oq Vm (Oq Vneq (KS ?_))
    refine Kc ?_ ?_
    ·intro h58
     have g59 := ne_of_bne h58
     refine KS ?_
     refine Oq Vm (Oq Vm (Oq Vm (Oq (Vbd st65 [vi 3, vi i, vi v30_14, vi v38_30]) (Oq Vm (Ost (Scl [9] sh65 [vi 3, vi i, vi v30_14, vi v38_30]) (Oq Va (KS ?_)))))))
     have hR60 := q2 hM31 (.ret ((GNode.mk 3 i v30_14 v38_30), rv54)) (by simp only [vd_function_L1, h38, h52, h58, hg55, cs4])
     have hR61 := q2 hM15 (.ret ((GNode.mk 3 i v30_14 v38_30), rv54)) (by simp only [vd_function_L0, h21, h38, h52, h58, hg55, hR60, cs4])
     have hq := q4 hrr ((GNode.mk 3 i v30_14 v38_30), rv54) (by simp only [vd_function, h10, h21, h38, h52, h58, hg6, hg55, hR60, hR61, cs4]); subst hq
     exact Kr () rfl (.cellN 0 rfl sh65 rfl (reads_Cl _ _) rfl (.tmp rfl .nil)) [1] en
    intro h58
    have g62 := eq_of_bne_false h58
    refine KS ?_
    refine Oq Vadd (Oq Vm (KS ?_))
    exact Kg (r40, (v38_30 + 1)) [5, 5, 6, 6, 7, 7, 0] ⟨(q3 hM31 (by simp only [vd_function_L1, h38, h52, h58, hg55, cs4])), aM1, aM1, aM1, aM1⟩
   intro h52
   have g63 := ne_of_beq_false h52
   refine KS ?_
   refine Oq (VldA sh44 0) (Oq Vm (Oq (Vfa fo42_1 4) (Oq (VldF sh40 4) (Oq (Vlen sl40) (Oq Vsub (Oq Veql (Oq Vm ?_)))))))
   refine letv (vd_statement (((f.Blocks.getD v30_14.toNat default).Stmts).getD v38_30.toNat default) (v38_30 == ((((f.Blocks.getD v30_14.toNat default).Stmts).length : Int) - 1)) rv5.2) fun rv64 hg65 => ?_
   have hc66 := fn75 ((((f.Blocks.getD v30_14.toNat default).Stmts).getD v38_30.toNat default)) a41 k42 a43 k44 ((v38_30 == ((((f.Blocks.getD v30_14.toNat default).Stmts).length : Int) - 1))) (mv b9) rv5.2 pre pre rv64 hg65
   refine Oc [2, 3, 6] ca75 hc66 ?_
   rintro - he67
   unfold i64ok at he67
   refine Oq Va (KS ?_)
   refine Oq Vm (Oq Vneq (KS ?_))
   refine Kc ?_ ?_
   ·intro h68
    have g69 := ne_of_bne h68
    refine KS ?_
    refine Oq Vm (Oq Vm (Oq Vm (Oq (Vbd st65 [vi 3, vi i, vi v30_14, vi v38_30]) (Oq Vm (Ost (Scl [8] sh65 [vi 3, vi i, vi v30_14, vi v38_30]) (Oq Va (KS ?_)))))))
    have hR70 := q2 hM31 (.ret ((GNode.mk 3 i v30_14 v38_30), rv64)) (by simp only [vd_function_L1, h38, h52, h68, hg65, cs4])
    have hR71 := q2 hM15 (.ret ((GNode.mk 3 i v30_14 v38_30), rv64)) (by simp only [vd_function_L0, h21, h38, h52, h68, hg65, hR70, cs4])
    have hq := q4 hrr ((GNode.mk 3 i v30_14 v38_30), rv64) (by simp only [vd_function, h10, h21, h38, h52, h68, hg6, hg65, hR70, hR71, cs4]); subst hq
    exact Kr () rfl (.cellN 0 rfl sh65 rfl (reads_Cl _ _) rfl (.tmp rfl .nil)) [10] en
   intro h68
   have g72 := eq_of_bne_false h68
   refine KS ?_
   refine Oq Vadd (Oq Vm (KS ?_))
   exact Kg (r40, (v38_30 + 1)) [5, 5, 0, 5, 6, 6, 7] ⟨(q3 hM31 (by simp only [vd_function_L1, h38, h52, h68, hg65, cs4])), aM1, aM1, aM1, aM1⟩
  intro h38
  have g73 := df h38
  obtain rfl : r29 = 0 := by omega
  refine Ke ?_
  have hR74 := q2 hM31 (.brk ()) (by simp only [vd_function_L1, h38, cs4])
  refine KS ?_
  refine Oq Vadd (Oq Vm (KS ?_))
  exact Kg (r23, (v30_14 + 1)) [2, 2, 3, 3, 4] ⟨(q3 hM15 (by simp only [vd_function_L0, h21, h38, hR74, cs4])), aM1, aM1, aM1, aM1⟩
 intro h21
 have g75 := df h21
 obtain rfl : r13 = 0 := by omega
 refine Ke ?_
 have hR76 := q2 hM15 (.brk ()) (by simp only [vd_function_L0, h21, cs4])
 refine KS ?_
 refine Oq (Vbd st65 [vi 0, vi 0, vi 0, vi 0]) (Ost (Scl [2] sh65 [vi 0, vi 0, vi 0, vi 0]) (Oq Va (KS ?_)))
 have hq := q4 hrr ((GNode.mk 0 0 0 0), 0) (by simp only [vd_function, h10, h21, hg6, hR76, cs4]); subst hq
 exact Kr () rfl (.cellN 0 rfl sh65 rfl (reads_Cl _ _) rfl (.tmp rfl .nil)) [4] en
theorem fn77 (s : GStmt) (sa2 : Option Addr) (sk2 : Nat) (sa3 : Option Addr) (sk3 : Nat) (cap0P : Value) (cap0 : Int) (cap1P : Value) (cap1 : Int) (hs_0 : i64ok s.Op) (hs_1 : s.Def.b.length ≤ 140737488355328) (hcap0_0 : i64ok cap0) (hcap1_0 : i64ok cap1) (hn : 0 ≤ cap0 ∧ cap0 ≤ 100000 ∧ 0 ≤ cap1 ∧ cap1 ≤ 100000) (rr : Int × Int) (hrr : vd_Sizes_1 s cap0 cap1 = rr) : FT Tryz.prog 77 #[.agg #[vi s.Op, .string (bs s.Def), vl sa2 sk2 s.Uses, vl sa3 sk3 s.Targets], cap0P, cap1P] [S sa2 sk2 s.Uses, S sa3 sk3 s.Targets, Cl cap0P [vi cap0], Cl cap1P [vi cap1]] (fun g : Unit => i64ok rr.1 ∧ i64ok rr.2 ∧ (cap0 ≤ rr.1 ∧ rr.1 ≤ cap0 + 2 ∧ cap1 ≤ rr.2 ∧ rr.2 ≤ cap1 + 3)) (fun g => .tuple #[]) (fun g => [Cl cap0P [vi rr.1], Cl cap1P [vi rr.2]]) := by
 refine FTi Tryz.func77 fun w0 M0 F0 => ?_
 unfold i64ok at hs_0 hcap0_0 hcap1_0
 refine Fb 16 0 fun _ => ?_
 refine FoS 0 fun ho2 => ?_
 refine Fb 16 1 fun _ => ?_
 refine FoS 1 fun ho4 => ?_
 refine KS ?_
 refine Oa (Ab [vi s.Op, .string (bs s.Def), vl sa2 sk2 s.Uses, vl sa3 sk3 s.Targets]) fun p5 => KS ?_
 refine Oq (Vld sh3 3) (Oq Vadd (Ost (Scl [3] sh3 [vi (cap0 + 1)]) (KS ?_)))
 refine Oq (Vfa fo44_0 1) (Oq (VldF sh3 1) (KS ?_))
 refine Oq Veql (Oq Va (KS ?_))
 refine Kc ?_ ?_
 ·intro h6
  have g7 := eq_of_beq h6
  refine KS ?_
  refine Oq (Vld sh3 0) (Oq Vadd (Ost (Scl [0] sh3 [vi ((cap0 + 1) + 1)]) (KS ?_)))
  refine Oq (Vld sh3 4) (Oq Vadd (Ost (Scl [4] sh3 [vi (cap1 + 3)]) (KS ?_)))
  have hq := q4 hrr (((cap0 + 1) + 1), (cap1 + 3)) (by simp only [vd_Sizes_1, h6, cs4]); subst hq
  exact Kz () rfl .nil [1, 0] en
 intro h6
 have g8 := ne_of_beq_false h6
 refine KS ?_
 refine Oq Veql (Oq Va (KS ?_))
 refine Kc ?_ ?_
 ·intro h9
  have g10 := eq_of_beq h9
  refine KS ?_
  refine Oq (Vld sh3 4) (Oq Vadd (Ost (Scl [4] sh3 [vi (cap1 + 2)]) (KS ?_)))
  have hq := q4 hrr ((cap0 + 1), (cap1 + 2)) (by simp only [vd_Sizes_1, h6, h9, cs4]); subst hq
  exact Kz () rfl .nil [1, 0] en
 intro h9
 have g11 := ne_of_beq_false h9
 refine KS ?_
 refine Oq (Vld sh3 4) (Oq Vadd (Ost (Scl [4] sh3 [vi (cap1 + 1)]) (KS ?_)))
 have hq := q4 hrr ((cap0 + 1), (cap1 + 1)) (by simp only [vd_Sizes_1, h6, h9, cs4]); subst hq
 exact Kz () rfl .nil [1, 0] en
theorem fn76m0 (p : GProgram) (pa0 : Option Addr) (pk0 : Nat) (st0P : Value) (st0 : Int) (st1P : Value) (st1 : Int) (kwLA : Option Addr) (kwLK : Nat) (hst0_0 : i64ok st0) (hst1_0 : i64ok st1) (hps : PSm p = true) (hn : 0 ≤ st0 ∧ st0 ≤ 100 ∧ 0 ≤ st1 ∧ st1 ≤ 100) (rr : Int × Int) (hrr : vd_each_Sizes_1 p st0 st1 = rr) : FT Tryz.prog 76 #[.agg #[vl pa0 pk0 p.Funcs], .func (.func 77) #[] #[st0P, st1P]] [S pa0 pk0 p.Funcs, Cl st0P [vi st0], Cl st1P [vi st1], pv (gp 0) [vl kwLA kwLK kwL], S kwLA kwLK kwL] (fun g : Unit => i64ok rr.1 ∧ i64ok rr.2 ∧ (0 ≤ rr.1 ∧ rr.1 ≤ 10000 ∧ 0 ≤ rr.2 ∧ rr.2 ≤ 20000)) (fun g => .tuple #[]) (fun g => [Cl st0P [vi rr.1], Cl st1P [vi rr.2]]) := by
 refine FTi Tryz.func76 fun w0 M0 F0 => ?_
 unfold i64ok at hst0_0 hst1_0
 refine Fb 40 0 fun _ => Fb 16 4 fun _ => ?_
 refine FoS 4 fun ho3 => ?_
 refine KS ?_
 refine Oa (Ab [vl pa0 pk0 p.Funcs]) fun p4 => KS ?_
 refine Oq (VldA sh25 0) ?_
 refine letv (sx_Valid p) fun rv5 hg6 => ?_
 have hc7 := fn39 p pa0 pk0 kwLA kwLK pre rv5 hg6
 refine Oc [1, 4, 5] ca39 hc7 ?_
 rintro - -
 refine Oq Vnot (KS ?_)
 refine Kc ?_ ?_
 ·intro h8
  have h10 := not_true h8
  have hq := q4 hrr (st0, st1) (by simp only [vd_each_Sizes_1, h8, h10, hg6, cs4]); subst hq
  exact Kr () rfl .nil [2, 2] en
 intro h8
 have h13 := not_false h8
 try have hVb := SVal_b (p := p) (by simp only [h8, h13, hg6])
 refine KS ?_
 refine Oq (Vfa fo25_0 0) (Oq (VldF sh23 0) (Oq (Vlen sl23) (Oq Vm (KS ?_))))
 refine Kl (γ := Nat × Int × Int × Int) (fun (r15, st00_16, st10_17, v16_18) => ⟨[(1, .func (.func 77) #[] #[st0P, st1P]), (14, vl pa0 pk0 p.Funcs), (15, vi (p.Funcs.length : Int)), (16, vi v16_18)], [S pa0 pk0 p.Funcs, Cl st0P [vi st00_16], Cl st1P [vi st10_17], pv (gp 0) [vl kwLA kwLK kwL], S kwLA kwLK kwL], vd_each_Sizes_1_L0 p r15 st00_16 st10_17 v16_18 = vd_each_Sizes_1_L0 p (((p.Funcs.length : Int) - 0).toNat) st0 st1 0 ∧ r15 = ((p.Funcs.length : Int) - v16_18).toNat ∧ (0 : Int) ≤ v16_18 ∧ v16_18 ≤ (p.Funcs.length : Int) ∧ (-9223372036854775808 ≤ st00_16 ∧ st00_16 ≤ 9223372036854775807) ∧ (-9223372036854775808 ≤ st10_17 ∧ st10_17 ≤ 9223372036854775807) ∧ (-9223372036854775808 ≤ v16_18 ∧ v16_18 ≤ 9223372036854775807) ∧ (0 ≤ st00_16 ∧ st00_16 ≤ 100 + 1100 * v16_18) ∧ (0 ≤ st10_17 ∧ st10_17 ≤ 100 + 1600 * v16_18), r15⟩) (((p.Funcs.length : Int) - 0).toNat, st0, st1, 0) [1, 2, 2, 2, 3] ⟨rfl, rfl, aM1, aM1, aM1, aM1, aM1, iv0, iv0⟩ ?_
 rintro ⟨r15, st00_16, st10_17, v16_18⟩ ⟨hM19, hr20, hi21, hi22, hk23, hk24, hk25, hv26, hv27⟩
 refine JJ_nx fun _ _ hL hA => ?_; dsimp only at hL hA; subst hL hA
 refine Fb 40 0 fun _ => Fb 16 4 fun _ => ?_
 refine FoS 4 fun ho30 => ?_
 refine KS ?_
 refine Oq Vlss (KS ?_)
 refine Kc ?_ ?_
 ·intro h31
  have g32 := dt h31
  have hVf := hVb.2 v16_18.toNat
  obtain ⟨r33, rfl⟩ := scc (n := r15) aM1
  refine KS ?_
  refine Oq (Vi sl23 0) ?_
  refine JJ_peek_GFunc v16_18.toNat 0 rfl rng fun a34 k35 hb36 => ?_
  refine Fb 40 1 fun _ => ?_
  refine Oq (VldA sh39 0) (Oa (Al ze39 [.string (bs (Str.mk [])), .slice none 0 0]) fun p38 => Ost (Scl [0] sh39 [.string (bs ((p.Funcs.getD v16_18.toNat default).Name)), vl a34 k35 ((p.Funcs.getD v16_18.toNat default).Blocks)]) (KS ?_))
  refine Oq (Vfa fo39_1 0) (Oq (VldF sh37 0) (Oq (Vlen sl37) (Oq Vm (KS ?_))))
  refine Kl (γ := Nat × Int × Int × Int) (fun (r39, st00_40, st10_41, v23_42) => ⟨[(1, .func (.func 77) #[] #[st0P, st1P]), (14, vl pa0 pk0 p.Funcs), (15, vi (p.Funcs.length : Int)), (16, vi v16_18), (21, vl a34 k35 ((p.Funcs.getD v16_18.toNat default).Blocks)), (22, vi (((p.Funcs.getD v16_18.toNat default).Blocks).length : Int)), (23, vi v23_42)], [S a34 k35 ((p.Funcs.getD v16_18.toNat default).Blocks), S pa0 pk0 p.Funcs, Cl st0P [vi st00_40], Cl st1P [vi st10_41], pv (gp 0) [vl kwLA kwLK kwL], S kwLA kwLK kwL], vd_each_Sizes_1_L1 ((p.Funcs.getD v16_18.toNat default).Blocks) r39 st00_40 st10_41 v23_42 = vd_each_Sizes_1_L1 ((p.Funcs.getD v16_18.toNat default).Blocks) ((((((p.Funcs.getD v16_18.toNat default).Blocks).length : Int) : Int) - 0).toNat) st00_16 st10_17 0 ∧ r39 = (((((p.Funcs.getD v16_18.toNat default).Blocks).length : Int) : Int) - v23_42).toNat ∧ (0 : Int) ≤ v23_42 ∧ (v23_42 ≤ (((p.Funcs.getD v16_18.toNat default).Blocks).length : Int) ∨ v23_42 = 0) ∧ (-9223372036854775808 ≤ st00_40 ∧ st00_40 ≤ 9223372036854775807) ∧ (-9223372036854775808 ≤ st10_41 ∧ st10_41 ≤ 9223372036854775807) ∧ (-9223372036854775808 ≤ v23_42 ∧ v23_42 ≤ 9223372036854775807) ∧ (0 ≤ st00_40 ∧ st00_40 ≤ st00_16 + 66 * v23_42) ∧ (0 ≤ st10_41 ∧ st10_41 ≤ st10_17 + 98 * v23_42), r39⟩) ((((((p.Funcs.getD v16_18.toNat default).Blocks).length : Int) : Int) - 0).toNat, st00_16, st10_17, 0) [2, 3, 4, 4, 4, 5] ⟨rfl, rfl, aM1, (.inr rfl), aM1, aM1, aM1, iv0, iv0⟩ ?_
  rintro ⟨r39, st00_40, st10_41, v23_42⟩ ⟨hM43, hr44, hi45, hi46, hk47, hk48, hk49, hv50, hv51⟩
  refine JJ_nx fun _ _ hL hA => ?_; dsimp only at hL hA; subst hL hA
  refine Fb 40 0 fun _ => Fb 40 1 fun _ => Fb 16 5 fun _ => ?_
  refine FoS 5 fun ho55 => ?_
  refine KS ?_
  refine Oq Vlss (KS ?_)
  refine Kc ?_ ?_
  ·intro h56
   have g57 := dt h56
   have hVk := hVf.2 v23_42.toNat
   obtain ⟨r58, rfl⟩ := scc (n := r39) aM1
   refine KS ?_
   refine Oq (Vi sl37 0) ?_
   refine JJ_peek_GBlock v23_42.toNat 0 rfl rng fun a59 k60 hb61 => ?_
   refine Fb 72 1 fun _ => ?_
   refine Oq (VldA sh42 0) (Oa (Al ze42 [.string (bs (Str.mk [])), .slice none 0 0]) fun p63 => Ost (Scl [0] sh42 [.string (bs ((((p.Funcs.getD v16_18.toNat default).Blocks).getD v23_42.toNat default).Name)), .slice a59 (((((p.Funcs.getD v16_18.toNat default).Blocks).getD v23_42.toNat default).Stmts).length) k60]) (KS ?_))
   refine Oq (Vfa fo42_1 0) (Oq (VldF sh40 0) (Oq (Vlen sl40) (Oq Vm (KS ?_))))
   refine Kl (γ := Nat × Int × Int × Int) (fun (r64, st00_65, st10_66, v30_67) => ⟨[(1, .func (.func 77) #[] #[st0P, st1P]), (14, vl pa0 pk0 p.Funcs), (15, vi (p.Funcs.length : Int)), (16, vi v16_18), (21, vl a34 k35 ((p.Funcs.getD v16_18.toNat default).Blocks)), (22, vi (((p.Funcs.getD v16_18.toNat default).Blocks).length : Int)), (23, vi v23_42), (28, .slice a59 (((((p.Funcs.getD v16_18.toNat default).Blocks).getD v23_42.toNat default).Stmts).length) k60), (29, vi (((((p.Funcs.getD v16_18.toNat default).Blocks).getD v23_42.toNat default).Stmts).length : Int)), (30, vi v30_67)], [S a59 k60 ((((p.Funcs.getD v16_18.toNat default).Blocks).getD v23_42.toNat default).Stmts), S a34 k35 ((p.Funcs.getD v16_18.toNat default).Blocks), S pa0 pk0 p.Funcs, Cl st0P [vi st00_65], Cl st1P [vi st10_66], pv (gp 0) [vl kwLA kwLK kwL], S kwLA kwLK kwL], vd_each_Sizes_1_L2 ((((p.Funcs.getD v16_18.toNat default).Blocks).getD v23_42.toNat default).Stmts) r64 st00_65 st10_66 v30_67 = vd_each_Sizes_1_L2 ((((p.Funcs.getD v16_18.toNat default).Blocks).getD v23_42.toNat default).Stmts) ((((((((p.Funcs.getD v16_18.toNat default).Blocks).getD v23_42.toNat default).Stmts).length : Int) : Int) - 0).toNat) st00_40 st10_41 0 ∧ r64 = (((((((p.Funcs.getD v16_18.toNat default).Blocks).getD v23_42.toNat default).Stmts).length : Int) : Int) - v30_67).toNat ∧ (0 : Int) ≤ v30_67 ∧ (v30_67 ≤ (((((p.Funcs.getD v16_18.toNat default).Blocks).getD v23_42.toNat default).Stmts).length : Int) ∨ v30_67 = 0) ∧ (-9223372036854775808 ≤ st00_65 ∧ st00_65 ≤ 9223372036854775807) ∧ (-9223372036854775808 ≤ st10_66 ∧ st10_66 ≤ 9223372036854775807) ∧ (-9223372036854775808 ≤ v30_67 ∧ v30_67 ≤ 9223372036854775807) ∧ (0 ≤ st00_65 ∧ st00_65 ≤ st00_40 + 2 * v30_67) ∧ (0 ≤ st10_66 ∧ st10_66 ≤ st10_41 + 3 * v30_67), r64⟩) ((((((((p.Funcs.getD v16_18.toNat default).Blocks).getD v23_42.toNat default).Stmts).length : Int) : Int) - 0).toNat, st00_40, st10_41, 0) [2, 3, 4, 5, 5, 5, 6] ⟨rfl, rfl, aM1, (.inr rfl), aM1, aM1, aM1, iv0, iv0⟩ ?_
   rintro ⟨r64, st00_65, st10_66, v30_67⟩ ⟨hM68, hr69, hi70, hi71, hk72, hk73, hk74, hv75, hv76⟩
   refine JJ_nx fun _ _ hL hA => ?_; dsimp only at hL hA; subst hL hA
   refine Fb 72 0 fun _ => Fb 40 1 fun _ => Fb 40 2 fun _ => Fb 16 6 fun _ => ?_
   refine FoS 6 fun ho81 => ?_
   refine KS ?_
   refine Oq Vlss (KS ?_)
   refine Kc ?_ ?_
   ·intro h82
    have g83 := dt h82
    have hVs := hVk.2 v30_67.toNat
    obtain ⟨r84, rfl⟩ := scc (n := r64) aM1
    refine KS ?_
    refine Oq (Vi sl40 0) ?_
    refine JJ_peek_GStmt v30_67.toNat 0 rfl rng fun a85 k86 a87 k88 hb89 hb90 => ?_
    unfold i64ok at hb89
    refine Fb 16 1 fun _ => ?_
    refine FoS 1 fun ho92 => ?_
    refine Fb 16 2 fun _ => ?_
    refine FoS 2 fun ho94 => ?_
    refine Oq (VldA sh44 0) (Oa (Al ze44 [vi 0, .string (bs (Str.mk [])), .slice none 0 0, .slice none 0 0]) fun p95 => Ost (Scl [0] sh44 [vi ((((((p.Funcs.getD v16_18.toNat default).Blocks).getD v23_42.toNat default).Stmts).getD v30_67.toNat default).Op), .string (bs ((((((p.Funcs.getD v16_18.toNat default).Blocks).getD v23_42.toNat default).Stmts).getD v30_67.toNat default).Def)), .slice a85 (((((((p.Funcs.getD v16_18.toNat default).Blocks).getD v23_42.toNat default).Stmts).getD v30_67.toNat default).Uses).length) k86, .slice a87 (((((((p.Funcs.getD v16_18.toNat default).Blocks).getD v23_42.toNat default).Stmts).getD v30_67.toNat default).Targets).length) k88]) (KS ?_))
    refine Oq Vm (Oq (VldA sh44 0) ?_)
    refine letv (vd_Sizes_1 (((((p.Funcs.getD v16_18.toNat default).Blocks).getD v23_42.toNat default).Stmts).getD v30_67.toNat default) st00_65 st10_66) fun rv96 hg97 => ?_
    have hc98 := fn77 ((((((p.Funcs.getD v16_18.toNat default).Blocks).getD v23_42.toNat default).Stmts).getD v30_67.toNat default)) a85 k86 a87 k88 st0P st00_65 st1P st10_66 pre pre pre pre pre rv96 hg97
    refine JO_call [2, 3, 7, 7] rfl rfl rfl (OpC.clo (asv := [(.agg #[vi ((((((p.Funcs.getD v16_18.toNat default).Blocks).getD v23_42.toNat default).Stmts).getD v30_67.toNat default).Op), .string (bs ((((((p.Funcs.getD v16_18.toNat default).Blocks).getD v23_42.toNat default).Stmts).getD v30_67.toNat default).Def)), .slice a85 (((((((p.Funcs.getD v16_18.toNat default).Blocks).getD v23_42.toNat default).Stmts).getD v30_67.toNat default).Uses).length) k86, .slice a87 (((((((p.Funcs.getD v16_18.toNat default).Blocks).getD v23_42.toNat default).Stmts).getD v30_67.toNat default).Targets).length) k88] : Value), (st0P : Value), (st1P : Value)]) rfl rfl ca77 rfl (by simp)) hc98 rfl ?_
    rintro - ⟨he99, he100, he101⟩
    unfold i64ok at he99 he100
    refine KS ?_
    refine Oq Vadd (Oq Vm (KS ?_))
    exact Kg (r84, rv96.1, rv96.2, (v30_67 + 1)) [6, 7, 8, 0, 0, 7, 8] ⟨(q3 hM68 (by simp only [vd_each_Sizes_1_L2, h82, hg97, cs4])), aM1, aM1, aM1, aM1, aM1, aM1, iv1, iv1⟩
   intro h82
   have g102 := df h82
   obtain rfl : r64 = 0 := by omega
   refine Ke ?_
   have hR103 := q2 hM68 (st00_65, st10_66) (by simp only [vd_each_Sizes_1_L2, h82, cs4])
   refine KS ?_
   refine Oq Vadd (Oq Vm (KS ?_))
   exact Kg (r58, st00_65, st10_66, (v23_42 + 1)) [1, 2, 3, 3, 3, 4] ⟨(q3 hM43 (by simp only [vd_each_Sizes_1_L1, h56, h82, hR103, cs4])), aM1, aM1, aM1, aM1, aM1, aM1, iv1, iv1⟩
  intro h56
  have g104 := df h56
  obtain rfl : r39 = 0 := by omega
  refine Ke ?_
  have hR105 := q2 hM43 (st00_40, st10_41) (by simp only [vd_each_Sizes_1_L1, h56, cs4])
  refine KS ?_
  refine Oq Vadd (Oq Vm (KS ?_))
  exact Kg (r33, st00_40, st10_41, (v16_18 + 1)) [1, 2, 2, 2, 3] ⟨(q3 hM19 (by simp only [vd_each_Sizes_1_L0, h31, h56, hR105, cs4])), aM1, aM1, aM1, aM1, aM1, aM1, iv1, iv1⟩
 intro h31
 have g106 := df h31
 obtain rfl : r15 = 0 := by omega
 refine Ke ?_
 have hR107 := q2 hM19 (st00_16, st10_17) (by simp only [vd_each_Sizes_1_L0, h31, cs4])
 have hq := q4 hrr (st00_16, st10_17) (by simp only [vd_each_Sizes_1, h8, h13, h31, hg6, hR107, cs4]); subst hq
 exact Kz () rfl .nil [1, 1] en
theorem fn43 (p : GProgram) (pa0 : Option Addr) (pk0 : Nat) (kwLA : Option Addr) (kwLK : Nat) (hps : PSm p = true) (rr : Int × Int) (hrr : vd_Sizes p = rr) : FT Tryz.prog 43 #[.agg #[vl pa0 pk0 p.Funcs]] [S pa0 pk0 p.Funcs, pv (gp 0) [vl kwLA kwLK kwL], S kwLA kwLK kwL] (fun g : Unit => i64ok rr.1 ∧ i64ok rr.2 ∧ (0 ≤ rr.1 ∧ rr.1 ≤ 10000 ∧ 0 ≤ rr.2 ∧ rr.2 ≤ 20000)) (fun g => .tuple #[vi rr.1, vi rr.2]) (fun g => []) := by
 refine FTi Tryz.func43 fun w0 M0 F0 => Fb 40 0 fun _ => Fb 16 2 fun _ => ?_
 refine FoS 2 fun ho3 => ?_
 refine KS ?_
 refine Oa (Ab [vl pa0 pk0 p.Funcs]) fun p4 => Oq Va (Oq Va (KS ?_))
 refine Oq (VldA sh25 0) ?_
 refine letv (sx_Valid p) fun rv5 hg6 => ?_
 have hc7 := fn39 p pa0 pk0 kwLA kwLK pre rv5 hg6
 refine Oc [1, 2, 3] ca39 hc7 ?_
 rintro - -
 refine Oq Vnot (KS ?_)
 refine Kc ?_ ?_
 ·intro h8
  have h10 := not_true h8
  refine KS ?_
  refine Oq Va (Oq Va (KS ?_))
  have hq := q4 hrr (0, 0) (by simp only [vd_Sizes, h8, h10, hg6, cs4]); subst hq
  exact Kr () rfl (.tmp rfl (.tmp rfl .nil)) [] en
 intro h8
 have h13 := not_false h8
 try have hVb := SVal_b (p := p) (by simp only [h8, h13, hg6])
 refine KS ?_
 refine JK_drawK [0, 1, 3, 7, 0, 16, 48, 0, 0, 399, 1023] fmix ?_
 refine Dv [0] (Vfa fo25_0 0) (Dv [0] (VldF sh23 0) (Dv [] (Vlen sl23) (Dv [] Vmul (Dv [0] (Vfa fo25_0 0) (Dv [0] (VldF sh23 0) (Dv [] (Vlen sl23) (Dx [] [] [0] (fun G => (G.g 7 0)) [fun G => Cl (G.g 7 0) [vi 0]] (fun G => xA (Al ze3 [vi 0])) (Dx [] [] [0] (fun G => (G.g 8 0)) [fun G => Cl (G.g 8 0) [vi 0]] (fun G => xA (Al ze3 [vi 0])) (Dx0 [4] [4] [0] [fun G => Cl (G.g 7 0) [vi (2 * (p.Funcs.length : Int))]] (fun G => xS (Scl [0] sh3 [vi (2 * (p.Funcs.length : Int))])) ?_)))))))))
 refine Dx0 [5] [5] [0] [fun G => Cl (G.g 8 0) [vi (p.Funcs.length : Int)]] (fun G => xS (Scl [0] sh3 [vi (p.Funcs.length : Int)])) ?_
 refine Dn ⟨by kernel_rfl, fun G => ?_⟩
 refine Jw2 [(1, p4), (4, (G.g 7 0)), (5, (G.g 8 0))] [0, 1, 2, 3] [Cl (G.g 7 0) [vi (2 * (p.Funcs.length : Int))], Cl (G.g 8 0) [vi (p.Funcs.length : Int)]] ?_
 generalize G.g 7 0 = p15, G.g 8 0 = p16
 refine KS ?_
 refine Oq (VldA sh25 0) (Oq (Vf [p15, p16]) ?_)
 refine letv (vd_each_Sizes_1 p (2 * (p.Funcs.length : Int)) (p.Funcs.length : Int)) fun rv17 hg18 => ?_
 have hc19 := fn76m0 p pa0 pk0 p15 (2 * (p.Funcs.length : Int)) p16 (p.Funcs.length : Int) kwLA kwLK pre pre pre pre rv17 hg18
 refine Oc [1, 4, 4, 2, 3] ca76 hc19 ?_
 rintro - ⟨he20, he21, he22⟩
 unfold i64ok at he20 he21
 refine KS ?_
 refine Kq [0, 0, 1, 7] fmix ?_
 refine Qv [0] (Vld sh3 0) (Qv [1] (Vld sh3 0) (Qv [] Va (Qv [] Va ?_)))
 refine Qn ⟨by kernel_rfl, ?_⟩
 have hq := q4 hrr (rv17.1, rv17.2) (by simp only [vd_Sizes, h8, h13, hg6, hg18, cs4]); subst hq
 exact Kr () rfl (.tmp rfl (.tmp rfl .nil)) [] en
theorem fn78 (n : Str) (cap0P : Value) (cap0 : List (Str × Bool)) (cap0m0 : Value) (cap1P : Value) (cap1 : List Str) (cap1a0 : Option Addr) (cap1k0 : Nat) (hn_0 : n.b.length ≤ 140737488355328) (ho : cap1.length ≤ 1000000) (rr : (List (Str × Bool)) × List Str) (hrr : vd_Variables_1 n cap0 cap1 = rr) : FT Tryz.prog 78 #[.string (bs n), cap0P, cap1P] [Cl cap0P [cap0m0], Mp vstr vb okStr cap0m0 cap0, Cl cap1P [vl cap1a0 cap1k0 cap1], O cap1a0 cap1k0 cap1] (fun g : Value => (rr.2.length ≤ cap1.length + 1)) (fun g => .tuple #[]) (fun g => [Cl cap0P [cap0m0], Mp vstr vb okStr cap0m0 rr.1, Cl cap1P [g], os g rr.2]) := by
 refine FTi Tryz.func78 fun w0 M0 F0 => Fb 16 3 fun _ => ?_
 refine FoS 3 fun ho2 => ?_
 refine KS ?_
 refine Oq Vm (Oq (VneS (l := n) (m := (Str.mk []))) (Oq Vm ?_))
 refine Js 6 ?_ ?_
 ·intro h3
  have g4 := ne_of_bne h3
  refine Oq (Vld sh94 0) (Oq Vm (Oq (Vmk1 1 false mt94 (kStr un9) ze4 (ek := vstr) (ev := vb) (ok := okStr) (key := n) pre) (Oq Vnot (Oq Vpt (KS ?_)))))
  refine Kc ?_ ?_
  ·intro h5
   have h7 := not_true h5
   refine KS ?_
   refine Oq (Vld sh94 0) (Oq Vm (Ost (Smp [1] mt94 (kStr un9) true (ek := vstr) (ev := vb) (ok := okStr) (key := n) pre) (KS ?_)))
   refine Oq (Vld sh36 2) (Oq Vm (Oa (AsV sl36 sz36 [.string (bs n)] [.string (bs n)]) fun c9 => ?_))
   refine Jo 0 ?_; rintro a10 k11 rfl
   refine Jl [0] (Ent.cr1 (α := Str) (A := []) _ n _ aB1 (fun _ => ⟨rfl, aS1⟩)) ?_
   refine Oa (ApO [4, 0] sl36 sl36 sz36) fun c12 => ?_
   refine Jo 0 ?_; rintro a13 k14 rfl
   refine Fb 16 0 fun _ => ?_
   refine FoS 0 fun ho16 => ?_
   have hn17 := la cap1 ([n] : List Str)
   refine Ost (Scl [3] sh36 [vl a13 k14 (cap1 ++ [n])]) (KS ?_)
   have hq := q4 hrr ((mset cap0 n true), (cap1 ++ [n])) (by simp only [vd_Variables_1, h3, h5, h7, cs4]); subst hq
   exact Kz (vl a13 k14 (cap1 ++ [n])) rfl .nil [3, 2, 0, 0] en
  intro h5
  have h19 := not_false h5
  refine KS ?_
  have hq := q4 hrr (cap0, cap1) (by simp only [vd_Variables_1, h3, h5, h19, cs4]); subst hq
  exact Kz (vl cap1a0 cap1k0 cap1) rfl .nil [0, 0, 0, 0] en
 intro h3
 have g21 := eq_of_bne_false h3
 refine Osk (Osk (Osk (Osk (Oq Vpf (KS ?_)))))
 refine Kf (KS ?_)
 have hq := q4 hrr (cap0, cap1) (by simp only [vd_Variables_1, h3, cs4]); subst hq
 exact Kz (vl cap1a0 cap1k0 cap1) rfl .nil [0, 0, 0, 0] en
theorem fn79m0 (s : GStmt) (sa2 : Option Addr) (sk2 : Nat) (sa3 : Option Addr) (sk3 : Nat) (st0P : Value) (st0 : List (Str × Bool)) (st0m0 : Value) (st1P : Value) (st1 : List Str) (st1a0 : Option Addr) (st1k0 : Nat) (cap0P : Value) (hs_0 : i64ok s.Op) (hs_1 : s.Def.b.length ≤ 140737488355328) (ho : st1.length ≤ 900000 ∧ s.Uses.length ≤ 4) (rr : (List (Str × Bool)) × List Str) (hrr : vd_Variables_2_Variables_1 s st0 st1 = rr) : FT Tryz.prog 79 #[.agg #[vi s.Op, .string (bs s.Def), vl sa2 sk2 s.Uses, vl sa3 sk3 s.Targets], cap0P] [S sa2 sk2 s.Uses, S sa3 sk3 s.Targets, Cl st0P [st0m0], Mp vstr vb okStr st0m0 st0, Cl st1P [vl st1a0 st1k0 st1], O st1a0 st1k0 st1, pv cap0P [.func (.func 78) #[] #[st0P, st1P]]] (fun g : Value => (rr.2.length ≤ st1.length + 5)) (fun g => .tuple #[]) (fun g => [Cl st0P [st0m0], Mp vstr vb okStr st0m0 rr.1, Cl st1P [g], os g rr.2]) := by
 refine FTi Tryz.func79 fun w0 M0 F0 => ?_
 unfold i64ok at hs_0
 refine Fb 16 0 fun _ => ?_
 refine FoS 0 fun ho2 => ?_
 refine Fb 16 1 fun _ => ?_
 refine FoS 1 fun ho4 => ?_
 refine Fb 16 5 fun _ => ?_
 refine FoS 5 fun ho6 => ?_
 refine KS ?_
 refine Oa (Ab [vi s.Op, .string (bs s.Def), vl sa2 sk2 s.Uses, vl sa3 sk3 s.Targets]) fun p7 => KS ?_
 refine Oq (Vld sh116 7) (Oq (Vfa fo44_1 0) (Oq (VldF sh9 0) ?_))
 refine letv (vd_Variables_1 s.Def st0 st1) fun rv9 hg10 => ?_
 have hc11 := fn78 s.Def st0P st0 st0m0 st1P st1 st1a0 st1k0 pre pre rv9 hg10
 refine JO_call [3, 3, 3, 3] rfl rfl rfl (OpC.clo (asv := [(.string (bs s.Def) : Value), (st0P : Value), (st1P : Value)]) rfl rfl ca78 rfl (by simp)) hc11 rfl ?_
 rintro c8 he12
 refine Jo 3 ?_; rintro a13 k14 rfl
 refine Fb 16 3 fun _ => ?_
 refine FoS 3 fun ho16 => ?_
 refine KS ?_
 refine Oq (Vfa fo44_2 4) (Oq (VldF sh36 4) (Oq (Vlen sl36) (Oq Vm (KS ?_))))
 refine Kl (γ := Nat × (List (Str × Bool)) × List Str × Int × Option Addr × Nat) (fun (r17, st00_18, st10_19, v12_20, a21, k22) => ⟨[(1, cap0P), (10, vl sa2 sk2 s.Uses), (11, vi (s.Uses.length : Int)), (12, vi v12_20)], [O a21 k22 st10_19, Cl st0P [st0m0], Mp vstr vb okStr st0m0 st00_18, Cl st1P [vl a21 k22 st10_19], S sa2 sk2 s.Uses, pv cap0P [.func (.func 78) #[] #[st0P, st1P]]], vd_Variables_2_Variables_1_L0 s r17 st00_18 st10_19 v12_20 = vd_Variables_2_Variables_1_L0 s (((s.Uses.length : Int) - 0).toNat) rv9.1 rv9.2 0 ∧ r17 = ((s.Uses.length : Int) - v12_20).toNat ∧ (0 : Int) ≤ v12_20 ∧ v12_20 ≤ (s.Uses.length : Int) ∧ (-9223372036854775808 ≤ v12_20 ∧ v12_20 ≤ 9223372036854775807) ∧ ((st10_19.length : Int) ≤ (st1.length : Int) + 1 + v12_20), r17⟩) (((s.Uses.length : Int) - 0).toNat, rv9.1, rv9.2, 0, a13, k14) [3, 0, 0, 0, 1, 3] ⟨rfl, rfl, aM1, aM1, aM1, iv0⟩ ?_
 rintro ⟨r17, st00_18, st10_19, v12_20, a21, k22⟩ ⟨hM23, hr24, hi25, hi26, hk27, hv28⟩
 refine JJ_nx fun _ _ hL hA => ?_; dsimp only at hL hA; subst hL hA
 refine Fb 16 0 fun _ => ?_
 refine FoS 0 fun ho30 => ?_
 refine Fb 16 4 fun _ => ?_
 refine FoS 4 fun ho32 => ?_
 refine KS ?_
 refine Oq Vlss (KS ?_)
 refine Kc ?_ ?_
 ·intro h33
  have g34 := dt h33
  obtain ⟨r35, rfl⟩ := scc (n := r17) aM1
  refine KS ?_
  refine Oq (Vi sl36 4) ?_
  have hb36 := okS (i := v12_20.toNat) ho32 rng
  refine Oq (VldS sh9 4) (Oq Va (KS ?_))
  refine Oq (Vld sh116 5) (Oq Vm ?_)
  refine letv (vd_Variables_1 (s.Uses.getD v12_20.toNat default) st00_18 st10_19) fun rv38 hg39 => ?_
  have hc40 := fn78 ((s.Uses.getD v12_20.toNat default)) st0P st00_18 st0m0 st1P st10_19 a21 k22 pre pre rv38 hg39
  refine JO_call [1, 1, 1, 0] rfl rfl rfl (OpC.clo (asv := [(.string (bs (s.Uses.getD v12_20.toNat default)) : Value), (st0P : Value), (st1P : Value)]) rfl rfl ca78 rfl (by simp)) hc40 rfl ?_
  rintro c37 he41
  refine Jo 3 ?_; rintro a42 k43 rfl
  refine Fb 16 3 fun _ => ?_
  refine FoS 3 fun ho45 => ?_
  refine KS ?_
  refine Oq Vadd (Oq Vm (KS ?_))
  exact Kg (r35, rv38.1, rv38.2, (v12_20 + 1), a42, k43) [3, 0, 0, 0, 0, 1] ⟨(q3 hM23 (by simp only [vd_Variables_2_Variables_1_L0, h33, hg39, cs4])), aM1, aM1, aM1, aM1, iv1⟩
 intro h33
 have g46 := df h33
 obtain rfl : r17 = 0 := by omega
 refine Ke ?_
 have hR47 := q2 hM23 (st00_18, st10_19) (by simp only [vd_Variables_2_Variables_1_L0, h33, cs4])
 have hq := q4 hrr (st00_18, st10_19) (by simp only [vd_Variables_2_Variables_1, h33, hg10, hR47, cs4]); subst hq
 exact Kz (vl a21 k22 st10_19) rfl .nil [1, 1, 1, 0] en
theorem fn76m1 (p : GProgram) (pa0 : Option Addr) (pk0 : Nat) (st1P : Value) (st1 : List (Str × Bool)) (st1m0 : Value) (st2P : Value) (st2 : List Str) (st2a0 : Option Addr) (st2k0 : Nat) (st0P : Value) (kwLA : Option Addr) (kwLK : Nat) (hps : PSm p = true) (ho : st2.length = 0) (rr : (List (Str × Bool)) × List Str) (hrr : vd_each_Variables_2 p st1 st2 = rr) : FT Tryz.prog 76 #[.agg #[vl pa0 pk0 p.Funcs], .func (.func 79) #[] #[st0P]] [S pa0 pk0 p.Funcs, Cl st1P [st1m0], Mp vstr vb okStr st1m0 st1, Cl st2P [vl st2a0 st2k0 st2], O st2a0 st2k0 st2, pv st0P [.func (.func 78) #[] #[st1P, st2P]], pv (gp 0) [vl kwLA kwLK kwL], S kwLA kwLK kwL] (fun g : Value => (rr.2.length ≤ 30000)) (fun g => .tuple #[]) (fun g => [Cl st1P [st1m0], Mp vstr vb okStr st1m0 rr.1, Cl st2P [g], os g rr.2]) := by
 refine FTi Tryz.func76 fun w0 M0 F0 => Fb 40 0 fun _ => Fb 16 4 fun _ => ?_
 refine FoS 4 fun ho3 => ?_
 refine Fb 16 7 fun _ => ?_
 refine FoS 7 fun ho5 => ?_
 refine KS ?_
 refine Oa (Ab [vl pa0 pk0 p.Funcs]) fun p6 => KS ?_
 refine Oq (VldA sh25 0) ?_
 refine letv (sx_Valid p) fun rv7 hg8 => ?_
 have hc9 := fn39 p pa0 pk0 kwLA kwLK pre rv7 hg8
 refine Oc [1, 7, 8] ca39 hc9 ?_
 rintro - -
 refine Oq Vnot (KS ?_)
 refine Kc ?_ ?_
 ·intro h10
  have h12 := not_true h10
  have hq := q4 hrr (st1, st2) (by simp only [vd_each_Variables_2, h10, h12, hg8, cs4]); subst hq
  exact Kr (vl st2a0 st2k0 st2) rfl .nil [2, 2, 2, 2] en
 intro h10
 have h15 := not_false h10
 try have hVb := SVal_b (p := p) (by simp only [h10, h15, hg8])
 refine KS ?_
 refine Oq (Vfa fo25_0 0) (Oq (VldF sh23 0) (Oq (Vlen sl23) (Oq Vm (KS ?_))))
 refine Kl (γ := Nat × (List (Str × Bool)) × List Str × Int × Option Addr × Nat) (fun (r17, st10_18, st20_19, v16_20, a21, k22) => ⟨[(1, .func (.func 79) #[] #[st0P]), (14, vl pa0 pk0 p.Funcs), (15, vi (p.Funcs.length : Int)), (16, vi v16_20)], [O a21 k22 st20_19, S pa0 pk0 p.Funcs, Cl st1P [st1m0], Mp vstr vb okStr st1m0 st10_18, Cl st2P [vl a21 k22 st20_19], pv st0P [.func (.func 78) #[] #[st1P, st2P]], pv (gp 0) [vl kwLA kwLK kwL], S kwLA kwLK kwL], vd_each_Variables_2_L0 p r17 st10_18 st20_19 v16_20 = vd_each_Variables_2_L0 p (((p.Funcs.length : Int) - 0).toNat) st1 st2 0 ∧ r17 = ((p.Funcs.length : Int) - v16_20).toNat ∧ (0 : Int) ≤ v16_20 ∧ v16_20 ≤ (p.Funcs.length : Int) ∧ (-9223372036854775808 ≤ v16_20 ∧ v16_20 ≤ 9223372036854775807) ∧ ((st20_19.length : Int) ≤ 3000 * v16_20), r17⟩) (((p.Funcs.length : Int) - 0).toNat, st1, st2, 0, st2a0, st2k0) [5, 1, 2, 2, 2, 2, 3, 4] ⟨rfl, rfl, aM1, aM1, aM1, iv0⟩ ?_
 rintro ⟨r17, st10_18, st20_19, v16_20, a21, k22⟩ ⟨hM23, hr24, hi25, hi26, hk27, hv28⟩
 refine JJ_nx fun _ _ hL hA => ?_; dsimp only at hL hA; subst hL hA
 refine Fb 16 0 fun _ => ?_
 refine FoS 0 fun ho30 => ?_
 refine Fb 40 1 fun _ => Fb 16 7 fun _ => ?_
 refine FoS 7 fun ho33 => ?_
 refine KS ?_
 refine Oq Vlss (KS ?_)
 refine Kc ?_ ?_
 ·intro h34
  have g35 := dt h34
  have hVf := hVb.2 v16_20.toNat
  obtain ⟨r36, rfl⟩ := scc (n := r17) aM1
  refine KS ?_
  refine Oq (Vi sl23 1) ?_
  refine JJ_peek_GFunc v16_20.toNat 1 rfl rng fun a37 k38 hb39 => ?_
  refine Fb 40 1 fun _ => ?_
  refine Oq (VldA sh39 0) (Oa (Al ze39 [.string (bs (Str.mk [])), .slice none 0 0]) fun p41 => Ost (Scl [0] sh39 [.string (bs ((p.Funcs.getD v16_20.toNat default).Name)), vl a37 k38 ((p.Funcs.getD v16_20.toNat default).Blocks)]) (KS ?_))
  refine Oq (Vfa fo39_1 0) (Oq (VldF sh37 0) (Oq (Vlen sl37) (Oq Vm (KS ?_))))
  refine Kl (γ := Nat × (List (Str × Bool)) × List Str × Int × Option Addr × Nat) (fun (r42, st10_43, st20_44, v23_45, a46, k47) => ⟨[(1, .func (.func 79) #[] #[st0P]), (14, vl pa0 pk0 p.Funcs), (15, vi (p.Funcs.length : Int)), (16, vi v16_20), (21, vl a37 k38 ((p.Funcs.getD v16_20.toNat default).Blocks)), (22, vi (((p.Funcs.getD v16_20.toNat default).Blocks).length : Int)), (23, vi v23_45)], [O a46 k47 st20_44, S a37 k38 ((p.Funcs.getD v16_20.toNat default).Blocks), S pa0 pk0 p.Funcs, Cl st1P [st1m0], Mp vstr vb okStr st1m0 st10_43, Cl st2P [vl a46 k47 st20_44], pv st0P [.func (.func 78) #[] #[st1P, st2P]], pv (gp 0) [vl kwLA kwLK kwL], S kwLA kwLK kwL], vd_each_Variables_2_L1 ((p.Funcs.getD v16_20.toNat default).Blocks) r42 st10_43 st20_44 v23_45 = vd_each_Variables_2_L1 ((p.Funcs.getD v16_20.toNat default).Blocks) ((((((p.Funcs.getD v16_20.toNat default).Blocks).length : Int) : Int) - 0).toNat) st10_18 st20_19 0 ∧ r42 = (((((p.Funcs.getD v16_20.toNat default).Blocks).length : Int) : Int) - v23_45).toNat ∧ (0 : Int) ≤ v23_45 ∧ (v23_45 ≤ (((p.Funcs.getD v16_20.toNat default).Blocks).length : Int) ∨ v23_45 = 0) ∧ (-9223372036854775808 ≤ v23_45 ∧ v23_45 ≤ 9223372036854775807) ∧ ((st20_44.length : Int) ≤ (st20_19.length : Int) + 180 * v23_45), r42⟩) ((((((p.Funcs.getD v16_20.toNat default).Blocks).length : Int) : Int) - 0).toNat, st10_18, st20_19, 0, a21, k22) [3, 2, 3, 4, 4, 4, 4, 5, 6] ⟨rfl, rfl, aM1, (.inr rfl), aM1, iv0⟩ ?_
  rintro ⟨r42, st10_43, st20_44, v23_45, a46, k47⟩ ⟨hM48, hr49, hi50, hi51, hk52, hv53⟩
  refine JJ_nx fun _ _ hL hA => ?_; dsimp only at hL hA; subst hL hA
  refine Fb 16 0 fun _ => ?_
  refine FoS 0 fun ho55 => ?_
  refine Fb 40 1 fun _ => Fb 40 2 fun _ => Fb 16 8 fun _ => ?_
  refine FoS 8 fun ho59 => ?_
  refine KS ?_
  refine Oq Vlss (KS ?_)
  refine Kc ?_ ?_
  ·intro h60
   have g61 := dt h60
   have hVk := hVf.2 v23_45.toNat
   obtain ⟨r62, rfl⟩ := scc (n := r42) aM1
   refine KS ?_
   refine Oq (Vi sl37 1) ?_
   refine JJ_peek_GBlock v23_45.toNat 1 rfl rng fun a63 k64 hb65 => ?_
   refine Fb 72 1 fun _ => ?_
   refine Oq (VldA sh42 0) (Oa (Al ze42 [.string (bs (Str.mk [])), .slice none 0 0]) fun p67 => Ost (Scl [0] sh42 [.string (bs ((((p.Funcs.getD v16_20.toNat default).Blocks).getD v23_45.toNat default).Name)), .slice a63 (((((p.Funcs.getD v16_20.toNat default).Blocks).getD v23_45.toNat default).Stmts).length) k64]) (KS ?_))
   refine Oq (Vfa fo42_1 0) (Oq (VldF sh40 0) (Oq (Vlen sl40) (Oq Vm (KS ?_))))
   refine Kl (γ := Nat × (List (Str × Bool)) × List Str × Int × Option Addr × Nat) (fun (r68, st10_69, st20_70, v30_71, a72, k73) => ⟨[(1, .func (.func 79) #[] #[st0P]), (14, vl pa0 pk0 p.Funcs), (15, vi (p.Funcs.length : Int)), (16, vi v16_20), (21, vl a37 k38 ((p.Funcs.getD v16_20.toNat default).Blocks)), (22, vi (((p.Funcs.getD v16_20.toNat default).Blocks).length : Int)), (23, vi v23_45), (28, .slice a63 (((((p.Funcs.getD v16_20.toNat default).Blocks).getD v23_45.toNat default).Stmts).length) k64), (29, vi (((((p.Funcs.getD v16_20.toNat default).Blocks).getD v23_45.toNat default).Stmts).length : Int)), (30, vi v30_71)], [O a72 k73 st20_70, S a63 k64 ((((p.Funcs.getD v16_20.toNat default).Blocks).getD v23_45.toNat default).Stmts), S a37 k38 ((p.Funcs.getD v16_20.toNat default).Blocks), S pa0 pk0 p.Funcs, Cl st1P [st1m0], Mp vstr vb okStr st1m0 st10_69, Cl st2P [vl a72 k73 st20_70], pv st0P [.func (.func 78) #[] #[st1P, st2P]], pv (gp 0) [vl kwLA kwLK kwL], S kwLA kwLK kwL], vd_each_Variables_2_L2 ((((p.Funcs.getD v16_20.toNat default).Blocks).getD v23_45.toNat default).Stmts) r68 st10_69 st20_70 v30_71 = vd_each_Variables_2_L2 ((((p.Funcs.getD v16_20.toNat default).Blocks).getD v23_45.toNat default).Stmts) ((((((((p.Funcs.getD v16_20.toNat default).Blocks).getD v23_45.toNat default).Stmts).length : Int) : Int) - 0).toNat) st10_43 st20_44 0 ∧ r68 = (((((((p.Funcs.getD v16_20.toNat default).Blocks).getD v23_45.toNat default).Stmts).length : Int) : Int) - v30_71).toNat ∧ (0 : Int) ≤ v30_71 ∧ (v30_71 ≤ (((((p.Funcs.getD v16_20.toNat default).Blocks).getD v23_45.toNat default).Stmts).length : Int) ∨ v30_71 = 0) ∧ (-9223372036854775808 ≤ v30_71 ∧ v30_71 ≤ 9223372036854775807) ∧ ((st20_70.length : Int) ≤ (st20_44.length : Int) + 5 * v30_71), r68⟩) ((((((((p.Funcs.getD v16_20.toNat default).Blocks).getD v23_45.toNat default).Stmts).length : Int) : Int) - 0).toNat, st10_43, st20_44, 0, a46, k47) [3, 2, 3, 4, 5, 5, 5, 5, 6, 7] ⟨rfl, rfl, aM1, (.inr rfl), aM1, iv0⟩ ?_
   rintro ⟨r68, st10_69, st20_70, v30_71, a72, k73⟩ ⟨hM74, hr75, hi76, hi77, hk78, hv79⟩
   refine JJ_nx fun _ _ hL hA => ?_; dsimp only at hL hA; subst hL hA
   refine Fb 16 0 fun _ => ?_
   refine FoS 0 fun ho81 => ?_
   refine Fb 72 1 fun _ => Fb 40 2 fun _ => Fb 40 3 fun _ => Fb 16 9 fun _ => ?_
   refine FoS 9 fun ho86 => ?_
   refine KS ?_
   refine Oq Vlss (KS ?_)
   refine Kc ?_ ?_
   ·intro h87
    have g88 := dt h87
    have hVs := hVk.2 v30_71.toNat
    obtain ⟨r89, rfl⟩ := scc (n := r68) aM1
    refine KS ?_
    refine Oq (Vi sl40 1) ?_
    refine JJ_peek_GStmt v30_71.toNat 1 rfl rng fun a90 k91 a92 k93 hb94 hb95 => ?_
    unfold i64ok at hb94
    refine Fb 16 1 fun _ => ?_
    refine FoS 1 fun ho97 => ?_
    refine Fb 16 2 fun _ => ?_
    refine FoS 2 fun ho99 => ?_
    refine Oq (VldA sh44 0) (Oa (Al ze44 [vi 0, .string (bs (Str.mk [])), .slice none 0 0, .slice none 0 0]) fun p100 => Ost (Scl [0] sh44 [vi ((((((p.Funcs.getD v16_20.toNat default).Blocks).getD v23_45.toNat default).Stmts).getD v30_71.toNat default).Op), .string (bs ((((((p.Funcs.getD v16_20.toNat default).Blocks).getD v23_45.toNat default).Stmts).getD v30_71.toNat default).Def)), .slice a90 (((((((p.Funcs.getD v16_20.toNat default).Blocks).getD v23_45.toNat default).Stmts).getD v30_71.toNat default).Uses).length) k91, .slice a92 (((((((p.Funcs.getD v16_20.toNat default).Blocks).getD v23_45.toNat default).Stmts).getD v30_71.toNat default).Targets).length) k93]) (KS ?_))
    refine Oq Vm (Oq (VldA sh44 0) ?_)
    refine letv (vd_Variables_2_Variables_1 (((((p.Funcs.getD v16_20.toNat default).Blocks).getD v23_45.toNat default).Stmts).getD v30_71.toNat default) st10_69 st20_70) fun rv102 hg103 => ?_
    have hc104 := fn79m0 ((((((p.Funcs.getD v16_20.toNat default).Blocks).getD v23_45.toNat default).Stmts).getD v30_71.toNat default)) a90 k91 a92 k93 st1P st10_69 st1m0 st2P st20_70 a72 k73 st0P pre pre pre rv102 hg103
    refine JO_call [2, 3, 8, 8, 8, 4, 7] rfl rfl rfl (OpC.clo (asv := [(.agg #[vi ((((((p.Funcs.getD v16_20.toNat default).Blocks).getD v23_45.toNat default).Stmts).getD v30_71.toNat default).Op), .string (bs ((((((p.Funcs.getD v16_20.toNat default).Blocks).getD v23_45.toNat default).Stmts).getD v30_71.toNat default).Def)), .slice a90 (((((((p.Funcs.getD v16_20.toNat default).Blocks).getD v23_45.toNat default).Stmts).getD v30_71.toNat default).Uses).length) k91, .slice a92 (((((((p.Funcs.getD v16_20.toNat default).Blocks).getD v23_45.toNat default).Stmts).getD v30_71.toNat default).Targets).length) k93] : Value), (st0P : Value)]) rfl rfl ca79 rfl (by simp)) hc104 rfl ?_
    rintro c101 he105
    refine Jo 3 ?_; rintro a106 k107 rfl
    refine Fb 16 3 fun _ => ?_
    refine FoS 3 fun ho109 => ?_
    refine KS ?_
    refine Oq Vadd (Oq Vm (KS ?_))
    exact Kg (r89, rv102.1, rv102.2, (v30_71 + 1), a106, k107) [3, 7, 8, 9, 0, 0, 0, 7, 8, 9] ⟨(q3 hM74 (by simp only [vd_each_Variables_2_L2, h87, hg103, cs4])), aM1, aM1, aM1, aM1, iv1⟩
   intro h87
   have g110 := df h87
   obtain rfl : r68 = 0 := by omega
   refine Ke ?_
   have hR111 := q2 hM74 (st10_69, st20_70) (by simp only [vd_each_Variables_2_L2, h87, cs4])
   refine KS ?_
   refine Oq Vadd (Oq Vm (KS ?_))
   exact Kg (r62, st10_69, st20_70, (v23_45 + 1), a72, k73) [0, 1, 2, 3, 3, 3, 3, 4, 5] ⟨(q3 hM48 (by simp only [vd_each_Variables_2_L1, h60, h87, hR111, cs4])), aM1, aM1, aM1, aM1, iv1⟩
  intro h60
  have g112 := df h60
  obtain rfl : r42 = 0 := by omega
  refine Ke ?_
  have hR113 := q2 hM48 (st10_43, st20_44) (by simp only [vd_each_Variables_2_L1, h60, cs4])
  refine KS ?_
  refine Oq Vadd (Oq Vm (KS ?_))
  exact Kg (r36, st10_43, st20_44, (v16_20 + 1), a46, k47) [0, 1, 2, 2, 2, 2, 3, 4] ⟨(q3 hM23 (by simp only [vd_each_Variables_2_L0, h34, h60, hR113, cs4])), aM1, aM1, aM1, aM1, iv1⟩
 intro h34
 have g114 := df h34
 obtain rfl : r17 = 0 := by omega
 refine Ke ?_
 have hR115 := q2 hM23 (st10_18, st20_19) (by simp only [vd_each_Variables_2_L0, h34, cs4])
 have hq := q4 hrr (st10_18, st20_19) (by simp only [vd_each_Variables_2, h10, h15, h34, hg8, hR115, cs4]); subst hq
 exact Kz (vl a21 k22 st20_19) rfl .nil [2, 2, 2, 0] en
theorem fn44 (p : GProgram) (pa0 : Option Addr) (pk0 : Nat) (kwLA : Option Addr) (kwLK : Nat) (hps : PSm p = true) (rr : List Str) (hrr : vd_Variables p = rr) : FT Tryz.prog 44 #[.agg #[vl pa0 pk0 p.Funcs]] [S pa0 pk0 p.Funcs, pv (gp 0) [vl kwLA kwLK kwL], S kwLA kwLK kwL] (fun g : Value => (rr.length ≤ 30000)) (fun g => g) (fun g => [sl g rr]) := by
 refine FTi Tryz.func44 fun w0 M0 F0 => Fb 40 0 fun _ => Fb 16 2 fun _ => ?_
 refine FoS 2 fun ho3 => ?_
 refine KS ?_
 refine Oa (Ab [vl pa0 pk0 p.Funcs]) fun p4 => Oq Va (KS ?_)
 refine Oa (Amp (κ := Str) (ν := Bool) (ek := vstr) (ev := vb) (ok := okStr)) fun p5 => ?_
 refine Jom 0 ?_; rintro b6 rfl
 refine Oa (Al ze94 [.map none]) fun p7 => Ost (Scl [0] sh94 [(mv b6)]) (KS ?_)
 refine Oa (Al ze36 [.slice none 0 0]) fun p8 => KS ?_
 refine Oq (Vf [p7, p8]) (Oa (Al ze116 [.nilFunc]) fun p9 => Ost (Scl [0] sh116 [.func (.func 78) #[] #[p7, p8]]) (KS ?_))
 refine Oq (VldA sh25 4) (Oq (Vf [p9]) ?_)
 refine Jl [] (Ent.osNil (α := Str)) ?_
 refine Jl [1] (Ent.freezeCl _ _) ?_
 refine letv (vd_each_Variables_2 p [] ([] : List Str)) fun rv11 hg12 => ?_
 have hc13 := fn76m1 p pa0 pk0 p7 [] (mv b6) p8 ([] : List Str) none 0 p9 kwLA kwLK pre pre rv11 hg12
 refine Oc [6, 3, 3, 2, 1, 0, 3, 4] ca76 hc13 ?_
 rintro c10 he14
 refine Jo 3 ?_; rintro a15 k16 rfl
 refine Fb 16 3 fun _ => ?_
 refine FoS 3 fun ho18 => ?_
 refine KS ?_
 refine Oq (Vld sh36 2) (Oq Va (KS ?_))
 refine Jl [3] (Ent.freeze _ _) ?_
 have hq := q4 hrr rv11.2 (by simp only [vd_Variables, hg12, cs4]); subst hq
 exact Kr (vl a15 k16 rv11.2) rfl (.tmp rfl .nil) [0] en
theorem fn22 (p : GProgram) (pa0 : Option Addr) (pk0 : Nat) (kwLA : Option Addr) (kwLK : Nat) (hps : PSm p = true) (rr : GNode × Int) (hrr : vd_Check p = rr) : FT Tryz.prog 22 #[.agg #[vl pa0 pk0 p.Funcs]] [S pa0 pk0 p.Funcs, pv (gp 0) [vl kwLA kwLK kwL], S kwLA kwLK kwL] (fun g : Unit => i64ok rr.1.Kind ∧ i64ok rr.1.Func ∧ i64ok rr.1.Block ∧ i64ok rr.1.Stmt ∧ i64ok rr.2) (fun g => .tuple #[.agg #[vi rr.1.Kind, vi rr.1.Func, vi rr.1.Block, vi rr.1.Stmt], vi rr.2]) (fun g => []) := by
 refine FTi Tryz.func22 fun w0 M0 F0 => Fb 40 0 fun _ => Fb 16 2 fun _ => ?_
 refine FoS 2 fun ho3 => ?_
 refine KS ?_
 refine Oa (Ab [vl pa0 pk0 p.Funcs]) fun p4 => Oa (Al ze65 [vi 0, vi 0, vi 0, vi 0]) fun p5 => Oq Va (KS ?_)
 refine Oq (VldA sh25 1) ?_
 refine letv (sx_Valid p) fun rv6 hg7 => ?_
 have hc8 := fn39 p pa0 pk0 kwLA kwLK pre rv6 hg7
 refine Oc [2, 3, 4] ca39 hc8 ?_
 rintro - -
 refine Oq Vnot (KS ?_)
 refine Kc ?_ ?_
 ·intro h9
  have h11 := not_true h9
  refine KS ?_
  refine Oq (Vbd st65 [vi 0, vi 0, vi 0, vi 0]) (Ost (Scl [0] sh65 [vi 0, vi 0, vi 0, vi 0]) (Oq Va (KS ?_)))
  have hq := q4 hrr ((GNode.mk 0 0 0 0), 1) (by simp only [vd_Check, h9, h11, hg7, cs4]); subst hq
  exact Kr () rfl (.cellN 0 rfl sh65 rfl (reads_Cl _ _) rfl (.tmp rfl .nil)) [] en
 intro h9
 have h14 := not_false h9
 refine KS ?_
 refine Oq (Vfa fo25_0 1) (Oq (VldF sh23 1) ?_)
 refine JJ_ent (Ent.pall [] rfl rfl) ?_
 refine letv (vd_duplicate_Func p.Funcs (fun x0 => vd_Check_1 x0)) fun rv17 hg18 => ?_
 have hc19 := fn40 p.Funcs pa0 pk0 41 [] (fun x0 => vd_Check_1 x0) [] ca41 (fun x0 a0 k0 hq0 => FT_pall (A1 := _) (fn41 x0 a0 k0  hq0 _ rfl)) rv17 hg18
 refine Oc [3, 0] ca40 hc19 ?_
 rintro c16 he20
 unfold i64ok at he20
 refine Jom 0 ?_; rintro b21 rfl
 refine Oq Vm (Oq Vx (Oq Vx (Oq Va (Oq Va (KS ?_)))))
 refine Oq Vm (Oq Vgeq (KS ?_))
 refine Kc ?_ ?_
 ·intro h22
  have g23 := dt h22
  refine KS ?_
  refine Oq Vm (Oq (Vbd st65 [vi 1, vi rv17.1, vi (-1), vi (-1)]) (Ost (Scl [2] sh65 [vi 1, vi rv17.1, vi (-1), vi (-1)]) (Oq Va (KS ?_))))
  have hq := q4 hrr ((GNode.mk 1 rv17.1 (-1) (-1)), 6) (by simp only [vd_Check, h9, h14, h22, hg7, hg18, cs4]); subst hq
  exact Kr () rfl (.cellN 0 rfl sh65 rfl (reads_Cl _ _) rfl (.tmp rfl .nil)) [] en
 intro h22
 have g24 := df h22
 refine KS ?_
 refine Oq (Vfa fo25_0 3) (Oq (VldF sh23 3) (Oq (Vlen sl23) (Oq Vm (KS ?_))))
 refine Kl (γ := Nat × Int) (fun (r25, v29_26) => ⟨[(1, p4), (2, p5), (5, (mv b21)), (27, vl pa0 pk0 p.Funcs), (28, vi (p.Funcs.length : Int)), (29, vi v29_26)], [Mp vstr vb okStr (mv b21) rv17.2, pAll [], Cl p5 [vi 0, vi 0, vi 0, vi 0], pv p4 [vl pa0 pk0 p.Funcs], S pa0 pk0 p.Funcs, pv (gp 0) [vl kwLA kwLK kwL], S kwLA kwLK kwL], vd_Check_L0 p rv17.2 r25 v29_26 = vd_Check_L0 p rv17.2 (((p.Funcs.length : Int) - 0).toNat) 0 ∧ r25 = ((p.Funcs.length : Int) - v29_26).toNat ∧ (0 : Int) ≤ v29_26 ∧ v29_26 ≤ (p.Funcs.length : Int) ∧ (-9223372036854775808 ≤ v29_26 ∧ v29_26 ≤ 9223372036854775807), r25⟩) (((p.Funcs.length : Int) - 0).toNat, 0) [0, 0, 1, 1, 2, 3, 4] ⟨rfl, rfl, aM1, aM1, aM1⟩ ?_
 rintro ⟨r25, v29_26⟩ ⟨hM27, hr28, hi29, hi30, hk31⟩
 refine JJ_nx fun _ _ hL hA => ?_; dsimp only at hL hA; subst hL hA
 refine Fb 40 4 fun _ => Fb 16 6 fun _ => ?_
 refine FoS 6 fun ho34 => ?_
 refine KS ?_
 refine Oq Vlss (KS ?_)
 refine Kc ?_ ?_
 ·intro h35
  have g36 := dt h35
  obtain ⟨r37, rfl⟩ := scc (n := r25) aM1
  refine KS ?_
  refine Oq Vm (Oq (Vi sl23 4) ?_)
  refine JJ_peek_GFunc v29_26.toNat 4 rfl rng fun a38 k39 hb40 => ?_
  refine Fb 40 1 fun _ => ?_
  refine Oq (VldA sh39 0) (Oa (Al ze39 [.string (bs (Str.mk [])), .slice none 0 0]) fun p42 => Oq Va (Ost (Scl [0] sh39 [.string (bs ((p.Funcs.getD v29_26.toNat default).Name)), vl a38 k39 ((p.Funcs.getD v29_26.toNat default).Blocks)]) (KS ?_)))
  refine Oq (VldA sh39 0) (Oq Vm (Oq Vm ?_))
  refine letv (vd_function (p.Funcs.getD v29_26.toNat default) v29_26 rv17.2) fun rv43 hg44 => ?_
  have hc45 := fn42 ((p.Funcs.getD v29_26.toNat default)) a38 k39 v29_26 (mv b21) rv17.2 pre pre rv43 hg44
  refine Oc [2, 3] ca42 hc45 ?_
  rintro - ⟨he46, he47, he48, he49, he50⟩
  unfold i64ok at he46 he47 he48 he49 he50
  refine Oq Vm (Oq Vx (Oq Vx (Oa (Al ze65 [vi 0, vi 0, vi 0, vi 0]) fun p51 => Ost (Scl [0] sh65 [vi rv43.1.Kind, vi rv43.1.Func, vi rv43.1.Block, vi rv43.1.Stmt]) (Oq Va (KS ?_)))))
  refine Oq Vm (Oq Vneq (KS ?_))
  refine Kc ?_ ?_
  ·intro h52
   have g53 := ne_of_bne h52
   refine KS ?_
   refine Oq (VldA sh65 0) (Oq Vm (Ost (Scl [6] sh65 [vi rv43.1.Kind, vi rv43.1.Func, vi rv43.1.Block, vi rv43.1.Stmt]) (Oq Va (KS ?_))))
   have hR54 := q2 hM27 (.ret (rv43.1, rv43.2)) (by simp only [vd_Check_L0, h35, h52, hg44, cs4])
   have hq := q4 hrr (rv43.1, rv43.2) (by simp only [vd_Check, h9, h14, h22, h35, h52, hg7, hg18, hg44, hR54, cs4]); subst hq
   exact Kr () rfl (.cellN 0 rfl sh65 rfl (reads_Cl _ _) rfl (.tmp rfl .nil)) [] en
  intro h52
  have g55 := eq_of_bne_false h52
  refine KS ?_
  refine Oq Vadd (Oq Vm (KS ?_))
  exact Kg (r37, (v29_26 + 1)) [1, 4, 5, 5, 6, 7, 8] ⟨(q3 hM27 (by simp only [vd_Check_L0, h35, h52, hg44, cs4])), aM1, aM1, aM1, aM1⟩
 intro h35
 have g56 := df h35
 obtain rfl : r25 = 0 := by omega
 refine Ke ?_
 have hR57 := q2 hM27 (.brk ()) (by simp only [vd_Check_L0, h35, cs4])
 refine KS ?_
 refine Oq (VldA sh25 3) ?_
 refine letv (vd_Sizes p) fun rv58 hg59 => ?_
 have hc60 := fn43 p pa0 pk0 kwLA kwLK pre rv58 hg59
 refine Oc [4, 5, 6] ca43 hc60 ?_
 rintro - ⟨he61, he62, he63⟩
 unfold i64ok at he61 he62
 refine Oq Vm (Oq Vx (Oq Vx (Oq Va (Oq Va (KS ?_)))))
 refine Oq (VldA sh25 3) ?_
 refine letv (vd_Variables p) fun rv65 hg66 => ?_
 have hc67 := fn44 p pa0 pk0 kwLA kwLK pre rv65 hg66
 refine Oc [4, 5, 6] ca44 hc67 ?_
 rintro c64 he68
 refine Jo 0 ?_; rintro a69 k70 rfl
 refine Fb 16 0 fun _ => ?_
 refine FoS 0 fun ho72 => ?_
 refine Oq (Vlen sl36) (Oq Vgtr (Oq Vm ?_))
 refine Js 55 ?_ ?_
 ·intro h73
  have g74 := dt h73
  refine Osk (Osk (Oq Vpt (Oq Vm (Osk (Osk (Oq Vpt (KS ?_)))))))
  refine Kt (KS ?_)
  refine Oq (Vbd st65 [vi 0, vi 0, vi 0, vi 0]) (Ost (Scl [3] sh65 [vi 0, vi 0, vi 0, vi 0]) (Oq Va (KS ?_)))
  have hq := q4 hrr ((GNode.mk 0 0 0 0), 7) (by simp only [vd_Check, h9, h14, h22, h35, h73, hg7, hg18, hR57, hg59, hg66, cs4]); subst hq
  exact Kr () rfl (.cellN 0 rfl sh65 rfl (reads_Cl _ _) rfl (.tmp rfl .nil)) [] en
 intro h73
 have g75 := df h73
 refine Oq Vm (Oq Vgtr (Oq Vpf (Oq Vm ?_)))
 refine Js 59 ?_ ?_
 ·intro h76
  have g77 := dt h76
  refine Osk (Osk (Oq Vpt (KS ?_)))
  refine Kt (KS ?_)
  refine Oq (Vbd st65 [vi 0, vi 0, vi 0, vi 0]) (Ost (Scl [3] sh65 [vi 0, vi 0, vi 0, vi 0]) (Oq Va (KS ?_)))
  have hq := q4 hrr ((GNode.mk 0 0 0 0), 7) (by simp only [vd_Check, h9, h14, h22, h35, h73, h76, hg7, hg18, hR57, hg59, hg66, cs4]); subst hq
  exact Kr () rfl (.cellN 0 rfl sh65 rfl (reads_Cl _ _) rfl (.tmp rfl .nil)) [] en
 intro h76
 have g78 := df h76
 refine Oq Vm (Oq Vgtr (Oq Vpf (KS ?_)))
 refine Kc ?_ ?_
 ·intro h79
  have g80 := dt h79
  refine KS ?_
  refine Oq (Vbd st65 [vi 0, vi 0, vi 0, vi 0]) (Ost (Scl [3] sh65 [vi 0, vi 0, vi 0, vi 0]) (Oq Va (KS ?_)))
  have hq := q4 hrr ((GNode.mk 0 0 0 0), 7) (by simp only [vd_Check, h9, h14, h22, h35, h73, h76, h79, hg7, hg18, hR57, hg59, hg66, cs4]); subst hq
  exact Kr () rfl (.cellN 0 rfl sh65 rfl (reads_Cl _ _) rfl (.tmp rfl .nil)) [] en
 intro h79
 have g81 := df h79
 refine KS ?_
 refine Oq (Vbd st65 [vi 0, vi 0, vi 0, vi 0]) (Ost (Scl [3] sh65 [vi 0, vi 0, vi 0, vi 0]) (Oq Va (KS ?_)))
 have hq := q4 hrr ((GNode.mk 0 0 0 0), 0) (by simp only [vd_Check, h9, h14, h22, h35, h73, h76, h79, hg7, hg18, hR57, hg59, hg66, cs4]); subst hq
 exact Kr () rfl (.cellN 0 rfl sh65 rfl (reads_Cl _ _) rfl (.tmp rfl .nil)) [] en
theorem fn23 (p : GProgram) (pa0 : Option Addr) (pk0 : Nat) (kwLA : Option Addr) (kwLK : Nat) (hps : PSm p = true) (rr : List GNode) (hrr : nd_List p = rr) : FT Tryz.prog 23 #[.agg #[vl pa0 pk0 p.Funcs]] [S pa0 pk0 p.Funcs, pv (gp 0) [vl kwLA kwLK kwL], S kwLA kwLK kwL] (fun g : Value => (rr.length ≤ 20000)) (fun g => g) (fun g => [sl g rr]) := by
 refine FTi Tryz.func23 fun w0 M0 F0 => Fb 40 0 fun _ => Fb 16 2 fun _ => ?_
 refine FoS 2 fun ho3 => ?_
 refine KS ?_
 refine Oa (Ab [vl pa0 pk0 p.Funcs]) fun p4 => Oq Va (KS ?_)
 refine Oq (VldA sh25 0) ?_
 refine letv (vd_Check p) fun rv5 hg6 => ?_
 have hc7 := fn22 p pa0 pk0 kwLA kwLK pre rv5 hg6
 refine Oc [1, 2, 3] ca22 hc7 ?_
 rintro - ⟨he8, he9, he10, he11, he12⟩
 unfold i64ok at he8 he9 he10 he11 he12
 refine Oq Vm (Oq Vx (Oq Vx (Oa (Al ze65 [vi 0, vi 0, vi 0, vi 0]) fun p13 => Ost (Scl [0] sh65 [vi rv5.1.Kind, vi rv5.1.Func, vi rv5.1.Block, vi rv5.1.Stmt]) (Oq Va (KS ?_)))))
 refine Oq Vm (Oq Vneq (KS ?_))
 refine Kc ?_ ?_
 ·intro h14
  have g15 := ne_of_bne h14
  refine KS ?_
  refine Oq Va (KS ?_)
  refine Jl [] (Ent.slNil (α := GNode)) ?_
  have hq := q4 hrr ([] : List GNode) (by simp only [nd_List, h14, hg6, cs4]); subst hq
  exact Kr (.slice none 0 0) rfl (.tmp rfl .nil) [0] en
 intro h14
 have g16 := eq_of_bne_false h14
 have hVb := SVal_b (p := p) (Check_b (by assumption) (by assumption))
 refine KS ?_
 refine Oq Va (KS ?_)
 refine Oq (Vfa fo25_0 1) (Oq (VldF sh23 1) (Oq (Vlen sl23) (Oq Vm (KS ?_))))
 refine Jl [] (Ent.osNil (α := GNode)) ?_
 refine Kl (γ := Nat × List GNode × Int × Option Addr × Nat) (fun (r17, out_18, v22_19, a20, k21) => ⟨[(5, vl a20 k21 out_18), (20, vl pa0 pk0 p.Funcs), (21, vi (p.Funcs.length : Int)), (22, vi v22_19)], [O a20 k21 out_18, S pa0 pk0 p.Funcs, pv (gp 0) [vl kwLA kwLK kwL], S kwLA kwLK kwL], nd_List_L0 p r17 out_18 v22_19 = nd_List_L0 p (((p.Funcs.length : Int) - 0).toNat) [] 0 ∧ r17 = ((p.Funcs.length : Int) - v22_19).toNat ∧ (0 : Int) ≤ v22_19 ∧ v22_19 ≤ (p.Funcs.length : Int) ∧ (-9223372036854775808 ≤ v22_19 ∧ v22_19 ≤ 9223372036854775807) ∧ ((out_18.length : Int) ≤ 1100 * v22_19), r17⟩) (((p.Funcs.length : Int) - 0).toNat, [], 0, none, 0) [0, 2, 3, 4] ⟨rfl, rfl, aM1, aM1, aM1, iv0⟩ ?_
 rintro ⟨r17, out_18, v22_19, a20, k21⟩ ⟨hM22, hr23, hi24, hi25, hk26, hv27⟩
 refine JJ_nx fun _ _ hL hA => ?_; dsimp only at hL hA; subst hL hA
 refine Fb 32 0 fun _ => Fb 40 1 fun _ => Fb 16 3 fun _ => ?_
 refine FoS 3 fun ho31 => ?_
 refine KS ?_
 refine Oq Vlss (KS ?_)
 refine Kc ?_ ?_
 ·intro h32
  have g33 := dt h32
  have hVf := hVb.2 v22_19.toNat
  have hb8 : v22_19 ≤ 7 := by have := hVb.1; omega
  obtain ⟨r34, rfl⟩ := scc (n := r17) aM1
  refine KS ?_
  refine Oq Vm (Oq (Vi sl23 1) ?_)
  refine JJ_peek_GFunc v22_19.toNat 1 rfl rng fun a35 k36 hb37 => ?_
  refine Fb 40 1 fun _ => ?_
  refine Oq (VldA sh39 0) (Oa (Al ze39 [.string (bs (Str.mk [])), .slice none 0 0]) fun p39 => Oq Va (Ost (Scl [0] sh39 [.string (bs ((p.Funcs.getD v22_19.toNat default).Name)), vl a35 k36 ((p.Funcs.getD v22_19.toNat default).Blocks)]) (KS ?_)))
  refine Oq Vm (Oq Vm (Oq (Vbd st65 [vi 1, vi v22_19, vi (-1), vi (-1)]) (Oa (AsV sl48 sz48 [.agg #[vi 1, vi v22_19, vi (-1), vi (-1)]] [vi 1, vi v22_19, vi (-1), vi (-1)]) fun c40 => ?_)))
  refine Jo 0 ?_; rintro a41 k42 rfl
  refine Jl [0] (Ent.cr1 (α := GNode) (A := []) _ (GNode.mk 1 v22_19 (-1) (-1)) _ aB1 (fun h => ⟨rfl, aL1, aL1, aL1, aL1⟩)) ?_
  refine Oa (ApO [4, 0] sl48 sl48 sz48) fun c43 => ?_
  refine Jo 0 ?_; rintro a44 k45 rfl
  refine Fb 32 0 fun _ => ?_
  have hn47 := la out_18 ([(GNode.mk 1 v22_19 (-1) (-1))] : List GNode)
  refine Oq Va (KS ?_)
  refine Oq (Vfa fo39_1 1) (Oq (VldF sh37 1) (Oq (Vlen sl37) (Oq Vm (KS ?_))))
  refine Kl (γ := Nat × List GNode × Int × Option Addr × Nat) (fun (r48, out_49, v35_50, a51, k52) => ⟨[(20, vl pa0 pk0 p.Funcs), (21, vi (p.Funcs.length : Int)), (22, vi v22_19), (6, vi v22_19), (5, vl a51 k52 out_49), (33, vl a35 k36 ((p.Funcs.getD v22_19.toNat default).Blocks)), (34, vi (((p.Funcs.getD v22_19.toNat default).Blocks).length : Int)), (35, vi v35_50)], [O a51 k52 out_49, S a35 k36 ((p.Funcs.getD v22_19.toNat default).Blocks), S pa0 pk0 p.Funcs, pv (gp 0) [vl kwLA kwLK kwL], S kwLA kwLK kwL], nd_List_L1 v22_19 ((p.Funcs.getD v22_19.toNat default).Blocks) r48 out_49 v35_50 = nd_List_L1 v22_19 ((p.Funcs.getD v22_19.toNat default).Blocks) ((((((p.Funcs.getD v22_19.toNat default).Blocks).length : Int) : Int) - 0).toNat) (out_18 ++ [(GNode.mk 1 v22_19 (-1) (-1))]) 0 ∧ r48 = (((((p.Funcs.getD v22_19.toNat default).Blocks).length : Int) : Int) - v35_50).toNat ∧ (0 : Int) ≤ v35_50 ∧ (v35_50 ≤ (((p.Funcs.getD v22_19.toNat default).Blocks).length : Int) ∨ v35_50 = 0) ∧ (-9223372036854775808 ≤ v35_50 ∧ v35_50 ≤ 9223372036854775807) ∧ ((out_49.length : Int) ≤ 1100 * v22_19 + 1 + 66 * v35_50), r48⟩) ((((((p.Funcs.getD v22_19.toNat default).Blocks).length : Int) : Int) - 0).toNat, (out_18 ++ [(GNode.mk 1 v22_19 (-1) (-1))]), 0, a44, k45) [0, 2, 3, 4, 5] ⟨rfl, rfl, aM1, (.inr rfl), aM1, iv0⟩ ?_
  rintro ⟨r48, out_49, v35_50, a51, k52⟩ ⟨hM53, hr54, hi55, hi56, hk57, hv58⟩
  refine JJ_nx fun _ _ hL hA => ?_; dsimp only at hL hA; subst hL hA
  refine Fb 32 0 fun _ => Fb 40 1 fun _ => Fb 40 2 fun _ => Fb 16 4 fun _ => ?_
  refine FoS 4 fun ho63 => ?_
  refine KS ?_
  refine Oq Vlss (KS ?_)
  refine Kc ?_ ?_
  ·intro h64
   have g65 := dt h64
   have hVk := hVf.2 v35_50.toNat
   have hb16 : v35_50 ≤ 15 := by have := hVf.1; omega
   obtain ⟨r66, rfl⟩ := scc (n := r48) aM1
   refine KS ?_
   refine Oq Vm (Oq (Vi sl37 1) ?_)
   refine JJ_peek_GBlock v35_50.toNat 1 rfl rng fun a67 k68 hb69 => ?_
   refine Fb 72 1 fun _ => ?_
   refine Oq (VldA sh42 0) (Oa (Al ze42 [.string (bs (Str.mk [])), .slice none 0 0]) fun p71 => Oq Va (Ost (Scl [0] sh42 [.string (bs ((((p.Funcs.getD v22_19.toNat default).Blocks).getD v35_50.toNat default).Name)), .slice a67 (((((p.Funcs.getD v22_19.toNat default).Blocks).getD v35_50.toNat default).Stmts).length) k68]) (KS ?_)))
   refine Oq (Vfa fo42_1 0) (Oq (VldF sh40 0) (Oq (Vlen sl40) (Oq Vm (KS ?_))))
   refine Kl (γ := Nat × List GNode × Int × Option Addr × Nat) (fun (r72, out_73, v43_74, a75, k76) => ⟨[(20, vl pa0 pk0 p.Funcs), (21, vi (p.Funcs.length : Int)), (22, vi v22_19), (6, vi v22_19), (5, vl a75 k76 out_73), (33, vl a35 k36 ((p.Funcs.getD v22_19.toNat default).Blocks)), (34, vi (((p.Funcs.getD v22_19.toNat default).Blocks).length : Int)), (35, vi v35_50), (8, vi v35_50), (41, .slice a67 (((((p.Funcs.getD v22_19.toNat default).Blocks).getD v35_50.toNat default).Stmts).length) k68), (42, vi (((((p.Funcs.getD v22_19.toNat default).Blocks).getD v35_50.toNat default).Stmts).length : Int)), (43, vi v43_74)], [O a75 k76 out_73, S a67 k68 ((((p.Funcs.getD v22_19.toNat default).Blocks).getD v35_50.toNat default).Stmts), S a35 k36 ((p.Funcs.getD v22_19.toNat default).Blocks), S pa0 pk0 p.Funcs, pv (gp 0) [vl kwLA kwLK kwL], S kwLA kwLK kwL], nd_List_L2 v22_19 v35_50 ((((p.Funcs.getD v22_19.toNat default).Blocks).getD v35_50.toNat default).Stmts) r72 out_73 v43_74 = nd_List_L2 v22_19 v35_50 ((((p.Funcs.getD v22_19.toNat default).Blocks).getD v35_50.toNat default).Stmts) ((((((((p.Funcs.getD v22_19.toNat default).Blocks).getD v35_50.toNat default).Stmts).length : Int) : Int) - 0).toNat) out_49 0 ∧ r72 = (((((((p.Funcs.getD v22_19.toNat default).Blocks).getD v35_50.toNat default).Stmts).length : Int) : Int) - v43_74).toNat ∧ (0 : Int) ≤ v43_74 ∧ (v43_74 ≤ (((((p.Funcs.getD v22_19.toNat default).Blocks).getD v35_50.toNat default).Stmts).length : Int) ∨ v43_74 = 0) ∧ (-9223372036854775808 ≤ v43_74 ∧ v43_74 ≤ 9223372036854775807) ∧ ((out_73.length : Int) ≤ 1100 * v22_19 + 1 + 66 * v35_50 + 2 * v43_74), r72⟩) ((((((((p.Funcs.getD v22_19.toNat default).Blocks).getD v35_50.toNat default).Stmts).length : Int) : Int) - 0).toNat, out_49, 0, a51, k52) [3, 2, 3, 4, 5, 6] ⟨rfl, rfl, aM1, (.inr rfl), aM1, iv0⟩ ?_
   rintro ⟨r72, out_73, v43_74, a75, k76⟩ ⟨hM77, hr78, hi79, hi80, hk81, hv82⟩
   refine JJ_nx fun _ _ hL hA => ?_; dsimp only at hL hA; subst hL hA
   refine Fb 32 0 fun _ => Fb 72 1 fun _ => Fb 40 2 fun _ => Fb 40 3 fun _ => Fb 16 5 fun _ => ?_
   refine FoS 5 fun ho88 => ?_
   refine KS ?_
   refine Oq Vlss (KS ?_)
   refine Kc ?_ ?_
   ·intro h89
    have g90 := dt h89
    have hb32 : v43_74 ≤ 31 := by have := hVk.1; omega
    obtain ⟨r91, rfl⟩ := scc (n := r72) aM1
    refine KS ?_
    refine Oq Vm (Oq (Vi sl40 1) ?_)
    refine JJ_peek_GStmt v43_74.toNat 1 rfl rng fun a92 k93 a94 k95 hb96 hb97 => ?_
    unfold i64ok at hb96
    refine Fb 16 1 fun _ => ?_
    refine FoS 1 fun ho99 => ?_
    refine Fb 16 2 fun _ => ?_
    refine FoS 2 fun ho101 => ?_
    refine Oq (VldA sh44 0) (Oa (Al ze44 [vi 0, .string (bs (Str.mk [])), .slice none 0 0, .slice none 0 0]) fun p102 => Oq Va (Ost (Scl [0] sh44 [vi ((((((p.Funcs.getD v22_19.toNat default).Blocks).getD v35_50.toNat default).Stmts).getD v43_74.toNat default).Op), .string (bs ((((((p.Funcs.getD v22_19.toNat default).Blocks).getD v35_50.toNat default).Stmts).getD v43_74.toNat default).Def)), .slice a92 (((((((p.Funcs.getD v22_19.toNat default).Blocks).getD v35_50.toNat default).Stmts).getD v43_74.toNat default).Uses).length) k93, .slice a94 (((((((p.Funcs.getD v22_19.toNat default).Blocks).getD v35_50.toNat default).Stmts).getD v43_74.toNat default).Targets).length) k95]) (KS ?_)))
    refine Oq Vm (Oq Vm (Oq Vm (Oq Vm (Oq (Vbd st65 [vi 3, vi v22_19, vi v35_50, vi v43_74]) (Oa (AsV sl48 sz48 [.agg #[vi 3, vi v22_19, vi v35_50, vi v43_74]] [vi 3, vi v22_19, vi v35_50, vi v43_74]) fun c103 => ?_)))))
    refine Jo 0 ?_; rintro a104 k105 rfl
    refine Jl [0] (Ent.cr1 (α := GNode) (A := []) _ (GNode.mk 3 v22_19 v35_50 v43_74) _ aB1 (fun h => ⟨rfl, aL1, aL1, aL1, aL1⟩)) ?_
    refine Oa (ApO [5, 0] sl48 sl48 sz48) fun c106 => ?_
    refine Jo 0 ?_; rintro a107 k108 rfl
    refine Fb 32 0 fun _ => ?_
    have hn110 := la out_73 ([(GNode.mk 3 v22_19 v35_50 v43_74)] : List GNode)
    refine Oq Va (KS ?_)
    refine Oq (Vfa fo44_0 1) (Oq (VldF sh3 1) (Oq Veql (KS ?_)))
    refine Kc ?_ ?_
    ·intro h111
     have g112 := eq_of_beq h111
     refine KS ?_
     refine Oq Vm (Oq Vm (Oq Vm (Oq Vm (Oq (Vbd st65 [vi 4, vi v22_19, vi v35_50, vi v43_74]) (Oa (AsV sl48 sz48 [.agg #[vi 4, vi v22_19, vi v35_50, vi v43_74]] [vi 4, vi v22_19, vi v35_50, vi v43_74]) fun c113 => ?_)))))
     refine Jo 0 ?_; rintro a114 k115 rfl
     refine Jl [0] (Ent.cr1 (α := GNode) (A := []) _ (GNode.mk 4 v22_19 v35_50 v43_74) _ aB1 (fun h => ⟨rfl, aL1, aL1, aL1, aL1⟩)) ?_
     refine Oa (ApO [1, 0] sl48 sl48 sz48) fun c116 => ?_
     refine Jo 0 ?_; rintro a117 k118 rfl
     refine Fb 32 0 fun _ => ?_
     have hn120 := la ((out_73 ++ [(GNode.mk 3 v22_19 v35_50 v43_74)]) : List GNode) ([(GNode.mk 4 v22_19 v35_50 v43_74)] : List GNode)
     refine Oq Va (KS ?_)
     refine Oq Vadd (Oq Vm (KS ?_))
     exact Kg (r91, ((out_73 ++ [(GNode.mk 3 v22_19 v35_50 v43_74)]) ++ [(GNode.mk 4 v22_19 v35_50 v43_74)]), (v43_74 + 1), a117, k118) [0, 4, 5, 6, 7, 8] ⟨(q3 hM77 (by simp only [nd_List_L2, h89, h111, cs4])), aM1, aM1, aM1, aM1, iv1⟩
    intro h111
    have g121 := ne_of_beq_false h111
    refine KS ?_
    refine Oq Vadd (Oq Vm (KS ?_))
    exact Kg (r91, (out_73 ++ [(GNode.mk 3 v22_19 v35_50 v43_74)]), (v43_74 + 1), a107, k108) [0, 4, 5, 6, 7, 8] ⟨(q3 hM77 (by simp only [nd_List_L2, h89, h111, cs4])), aM1, aM1, aM1, aM1, iv1⟩
   intro h89
   have g122 := df h89
   obtain rfl : r72 = 0 := by omega
   refine Ke ?_
   have hR123 := q2 hM77 out_73 (by simp only [nd_List_L2, h89, cs4])
   refine KS ?_
   refine Oq Vadd (Oq Vm (KS ?_))
   exact Kg (r66, out_73, (v35_50 + 1), a75, k76) [0, 1, 2, 3, 4] ⟨(q3 hM53 (by simp only [nd_List_L1, h64, h89, hR123, cs4])), aM1, aM1, aM1, aM1, iv1⟩
  intro h64
  have g124 := df h64
  obtain rfl : r48 = 0 := by omega
  refine Ke ?_
  have hR125 := q2 hM53 out_49 (by simp only [nd_List_L1, h64, cs4])
  refine KS ?_
  refine Oq Vm (Oq Vm (Oq (Vbd st65 [vi 2, vi v22_19, vi (-1), vi (-1)]) (Oa (AsV sl48 sz48 [.agg #[vi 2, vi v22_19, vi (-1), vi (-1)]] [vi 2, vi v22_19, vi (-1), vi (-1)]) fun c126 => ?_)))
  refine Jo 0 ?_; rintro a127 k128 rfl
  refine Jl [0] (Ent.cr1 (α := GNode) (A := []) _ (GNode.mk 2 v22_19 (-1) (-1)) _ aB1 (fun h => ⟨rfl, aL1, aL1, aL1, aL1⟩)) ?_
  refine Oa (ApO [1, 0] sl48 sl48 sz48) fun c129 => ?_
  refine Jo 0 ?_; rintro a130 k131 rfl
  refine Fb 32 0 fun _ => ?_
  have hn133 := la out_49 ([(GNode.mk 2 v22_19 (-1) (-1))] : List GNode)
  refine Oq Va (KS ?_)
  refine Oq Vadd (Oq Vm (KS ?_))
  exact Kg (r34, (out_49 ++ [(GNode.mk 2 v22_19 (-1) (-1))]), (v22_19 + 1), a130, k131) [0, 1, 2, 3] ⟨(q3 hM22 (by simp only [nd_List_L0, h32, h64, hR125, cs4])), aM1, aM1, aM1, aM1, iv1⟩
 intro h32
 have g134 := df h32
 obtain rfl : r17 = 0 := by omega
 refine Ke ?_
 have hR135 := q2 hM22 out_18 (by simp only [nd_List_L0, h32, cs4])
 refine KS ?_
 refine Oq Vm (Oq Va (KS ?_))
 refine Jl [0] (Ent.freeze _ _) ?_
 have hq := q4 hrr out_18 (by simp only [nd_List, h14, h32, hg6, hR135, cs4]); subst hq
 exact Kr (vl a20 k21 out_18) rfl (.tmp rfl .nil) [0] en
theorem fn80 (s : List Int) (sa0 : Option Addr) (sk0 : Nat) (v : Int) (hv_0 : i64ok v) (rr : Int) (hrr : sc_Index_int s v = rr) : FT Tryz.prog 80 #[vl sa0 sk0 s, vi v] [S sa0 sk0 s] (fun g : Unit => i64ok rr) (fun g => vi rr) (fun g => []) := by
 refine FTi Tryz.func80 fun w0 M0 F0 => ?_
 unfold i64ok at hv_0
 refine Fb 8 0 fun _ => Fo 0 fun ho2 => KS ?_
 refine Oq Va (KS ?_)
 refine Oq Vm (Oq (Vlen sl22) (Oq Vm (KS ?_)))
 refine Kl (γ := Nat × Int) (fun (r3, v8_4) => ⟨[(0, vl sa0 sk0 s), (1, vi v), (7, vi (s.length : Int)), (8, vi v8_4)], [S sa0 sk0 s], sc_Index_int_L0 s v r3 v8_4 = sc_Index_int_L0 s v (((s.length : Int) - 0).toNat) 0 ∧ r3 = ((s.length : Int) - v8_4).toNat ∧ (0 : Int) ≤ v8_4 ∧ v8_4 ≤ (s.length : Int) ∧ (-9223372036854775808 ≤ v8_4 ∧ v8_4 ≤ 9223372036854775807), r3⟩) (((s.length : Int) - 0).toNat, 0) [0] ⟨rfl, rfl, aM1, aM1, aM1⟩ ?_
 rintro ⟨r3, v8_4⟩ ⟨hM5, hr6, hi7, hi8, hk9⟩
 refine JJ_nx fun _ _ hL hA => ?_; dsimp only at hL hA; subst hL hA
 refine Fb 8 0 fun _ => Fo 0 fun ho11 => KS ?_
 refine Oq Vlss (KS ?_)
 refine Kc ?_ ?_
 ·intro h12
  have g13 := dt h12
  obtain ⟨r14, rfl⟩ := scc (n := r3) aM1
  refine KS ?_
  refine Oq Vm (Oq Va (KS ?_))
  refine Oq Vm (Oq Vm (Oq Vm (Oq (Vi sl22 0) ?_)))
  have hb15 := ok1 (i := v8_4.toNat) ho11 rng
  refine Oq (VldI sh3 0) (Oq Veql (KS ?_))
  refine Kc ?_ ?_
  ·intro h16
   have g17 := eq_of_beq h16
   refine KS ?_
   refine Oq Vm (Oq Va (KS ?_))
   have hR18 := q2 hM5 (.ret v8_4) (by simp only [sc_Index_int_L0, h12, h16, cs4])
   have hq := q4 hrr v8_4 (by simp only [sc_Index_int, h12, h16, hR18, cs4]); subst hq
   exact Kr () rfl (.tmp rfl .nil) [] en
  intro h16
  have g19 := ne_of_beq_false h16
  refine KS ?_
  refine Oq Vadd (Oq Vm (KS ?_))
  exact Kg (r14, (v8_4 + 1)) [0] ⟨(q3 hM5 (by simp only [sc_Index_int_L0, h12, h16, cs4])), aM1, aM1, aM1, aM1⟩
 intro h12
 have g20 := df h12
 obtain rfl : r3 = 0 := by omega
 refine Ke ?_
 have hR21 := q2 hM5 (.brk ()) (by simp only [sc_Index_int_L0, h12, cs4])
 refine KS ?_
 refine Oq Va (KS ?_)
 have hq := q4 hrr (-1) (by simp only [sc_Index_int, h12, hR21, cs4]); subst hq
 exact Kr () rfl (.tmp rfl .nil) [] en
theorem fn45 (s : List Int) (sa0 : Option Addr) (sk0 : Nat) (v : Int) (hv_0 : i64ok v) (rr : Bool) (hrr : sc_Contains_int s v = rr) : FT Tryz.prog 45 #[vl sa0 sk0 s, vi v] [S sa0 sk0 s] (fun g : Unit => True) (fun g => vb rr) (fun g => []) := by
 refine FTi Tryz.func45 fun w0 M0 F0 => ?_
 unfold i64ok at hv_0
 refine Fb 8 0 fun _ => Fo 0 fun ho2 => KS ?_
 refine Oq Va (KS ?_)
 refine Oq Vm (Oq Vm ?_)
 refine letv (sc_Index_int s v) fun rv3 hg4 => ?_
 have hc5 := fn80 s sa0 sk0 v pre rv3 hg4
 refine Oc [0] ca80 hc5 ?_
 rintro - he6
 unfold i64ok at he6
 refine Oq Vgeq (Oq Va (KS ?_))
 have hq := q4 hrr (decide (0 ≤ rv3)) (by simp only [sc_Contains_int, hg4, cs4]); subst hq
 exact Kr () rfl (.tmp rfl .nil) [] trivial
theorem fn24 (bP : Value) (b : Gbuilder) (ba0 : Option Addr) (bk0 : Nat) (ba1 : Option Addr) (bk1 : Nat) (ba2 : Option Addr) (bk2 : Nat) (bm3 : Value) (from_ : Int) (to_ : Int) (hfrom__0 : i64ok from_) (hto__0 : i64ok to_) (hb : BOk b) (hf0 : 0 ≤ from_ ∧ from_ < (b.g.Succ.length : Int) ∧ 0 ≤ to_ ∧ to_ < (b.g.Succ.length : Int)) (rr : Gbuilder) (hrr : bd_edge b from_ to_ = rr) : FT Tryz.prog 24 #[bP, vi from_, vi to_] [Cl bP [vl ba0 bk0 b.g.Nodes, vl ba1 bk1 b.g.Succ, vl ba2 bk2 b.g.Pred, bm3], S ba0 bk0 b.g.Nodes, D ba1 bk1 b.g.Succ, D ba2 bk2 b.g.Pred, Mp ev_GNode vi ok_GNode bm3 b.number] (fun g : Value × Value × Value => (BOk rr) ∧ (rr.g.Succ.length = b.g.Succ.length)) (fun g => .tuple #[]) (fun g => [Cl bP [g.1, g.2.1, g.2.2, bm3], sl g.1 rr.g.Nodes, ds g.2.1 rr.g.Succ, ds g.2.2 rr.g.Pred, Mp ev_GNode vi ok_GNode bm3 rr.number]) := by
 refine FTi Tryz.func24 fun w0 M0 F0 => ?_
 unfold i64ok at hfrom__0 hto__0
 refine Fb 32 1 fun _ => ?_
 refine FbD 24 2 fun _ => ?_
 refine FbD 24 3 fun _ => ?_
 have hps := hb.ps
 have hn0 := hb.n0
 have hnb := hb.nb
 have hsl := hb.sl (i := from_) aM1
 have hpl := hb.pl (i := to_) aM1
 refine KS ?_
 refine Oq Vm (Oq (Vn 0) (Oq (Vfa fo72_0 0) (Oq (VfaF fo51_1 0) (Oq (VldF sh49 0) (Oq Vm (Oq (Vi sl49 2) ?_))))))
 refine JJ_openDL from_.toNat 2 rfl rng fun a4 k5 => ?_
 refine Fb 8 1 fun _ => Fo 1 fun ho7 => ?_
 refine Oq (Vld sh22 0) (Oq Vm ?_)
 refine letv (sc_Contains_int (b.g.Succ.getD from_.toNat []) to_) fun rv8 hg9 => ?_
 refine Oc [1] ca45 (FT_borrow (A := _) (fun _ _ h => by cases h) (FT_ent (Ent.take (is := [0]) rfl) (fn45 ((b.g.Succ.getD from_.toNat [])) a4 k5 to_ pre rv8 hg9))) ?_ (ht := rfl)
 rintro - -
 refine KS ?_
 refine Kc ?_ ?_
 ·intro h10
  refine Jl [1, 0] (Ent.closeS (A := [O a4 k5 ((b.g.Succ.getD from_.toNat []) : List Int)]) _ _ _ _ [] innL) ?_
  have hq := q4 hrr b (by simp only [bd_edge, h10, hg9, cs4]); subst hq
  exact Kr (vl ba0 bk0 b.g.Nodes, vl ba1 bk1 b.g.Succ, vl ba2 bk2 b.g.Pred) rfl .nil [1, 1, 0, 1, 1] ⟨((edge_f hrr hb aM1 aM1).1), ((edge_f hrr hb aM1 aM1).2)⟩
 intro h10
 refine KS ?_
 refine Jp 2 fun hp13 => ?_
 refine JK_drawK [0, 1, 3, 7, 15, 0, 0, 64, 192, 448, 960, 0, 4032, 8128, 0, 16384, 65472, 131071, 262143] fmix ?_
 refine Dv [] Vm (Dv [0] (Vn 0) (Dv [0] (Vfa fo72_0 0) (Dv [0] (VfaF fo51_1 0) (Dv [3] (VldF sh49 0) (Dv [] Vm (Dv [] Vm (Dv [0] (Vn 0) (Dv [0] (Vfa fo72_0 0) (Dv [0] (VfaF fo51_1 0) ?_)))))))))
 refine Dv [3] (VldF sh49 0) (Dv [] Vm (Dv [2] (Vi sl49 0) (Dv [2] (Vld sh22 0) (Dv [] Vm (Dx [] [] [0] (fun G => (G.g 15 0)) [fun G => Cr (G.g 15 0) 1 [vi to_]] (fun G => xA (AsV sl22 sz22 [vi to_] [vi to_])) ?_)))))
 have hn16 := la ((b.g.Succ.getD from_.toNat []) : List Int) ([to_] : List Int)
 refine Dx [1, 7] [1, 7] [0] (fun G => (G.g 16 0)) [fun G => os (G.g 16 0) (((b.g.Succ.getD from_.toNat []) ++ [to_]) : List Int)] (fun G => xp [1] rfl (Ent.crInt _ [to_] _ _ rfl rfl (by intro x hx; rw [List.mem_singleton] at hx; subst hx; unfold i64ok; omega) aB1) (xA (ApO [1, 0] sl22 sl22 sz22))) (Dv [2] (Vi sl49 0) (Dx0 [2, 8] [2] [1, 0] [fun G => dh (vl ba1 bk1 b.g.Succ) (b.g.Succ : List (List Int)) from_.toNat [(G.g 16 0)]] (fun G => x1 1 rfl os_one fun ho17 => (xS (SoHr0 (α := (List Int)) [0] sh22 [(G.g 16 0)] [(G.g 16 0)] (cells_of_one ho17) rfl (by simp only [List.all_cons, List.all_nil, ho17, Bool.and_true, Bool.true_and] <;> rfl)))) ?_))
 refine Dn ⟨by kernel_rfl, fun G => ?_⟩
 refine Jw2 [(0, bP), (1, vi from_), (2, vi to_)] [0, 3, 4, 5, 6] [os (G.g 16 0) (((b.g.Succ.getD from_.toNat []) ++ [to_]) : List Int), dh (vl ba1 bk1 b.g.Succ) (b.g.Succ : List (List Int)) from_.toNat [(G.g 16 0)]] ?_
 generalize G.g 16 0 = c15
 refine Jk [1, 1, 2, 2, 2, 2] ?_
 refine Jo 4 ?_; rintro a18 k19 rfl
 refine Fb 8 4 fun _ => Fo 4 fun ho21 => ?_
 refine Jp 0 fun hp22 => ?_
 refine JJ_openDL to_.toNat 3 rfl rng fun a23 k24 => ?_
 refine Fb 8 1 fun _ => Fo 1 fun ho26 => ?_
 refine JK_drawK [0, 1, 3, 7, 15, 0, 0, 64, 192, 448, 960, 0, 4032, 8128, 0, 16384, 65472, 131071, 262143] fmix ?_
 refine Dv [] Vm (Dv [2] (Vn 0) (Dv [2] (Vfa fo72_0 0) (Dv [2] (VfaF fo51_2 0) (Dv [3] (VldF sh49 0) (Dv [] Vm (Dv [] Vm (Dv [2] (Vn 0) (Dv [2] (Vfa fo72_0 0) (Dv [2] (VfaF fo51_2 0) ?_)))))))))
 refine Dv [3] (VldF sh49 0) (Dv [] Vm (Dv [0] (Vi sl49 0) (Dv [0] (Vld sh22 0) (Dv [] Vm (Dx [] [] [0] (fun G => (G.g 15 0)) [fun G => Cr (G.g 15 0) 1 [vi from_]] (fun G => xA (AsV sl22 sz22 [vi from_] [vi from_])) ?_)))))
 have hn29 := la ((b.g.Pred.getD to_.toNat []) : List Int) ([from_] : List Int)
 refine Dx [1, 8] [1, 8] [0] (fun G => (G.g 16 0)) [fun G => os (G.g 16 0) (((b.g.Pred.getD to_.toNat []) ++ [from_]) : List Int)] (fun G => xp [1] rfl (Ent.crInt _ [from_] _ _ rfl rfl (by intro x hx; rw [List.mem_singleton] at hx; subst hx; unfold i64ok; omega) aB1) (xA (ApO [1, 0] sl22 sl22 sz22))) (Dv [0] (Vi sl49 0) (Dx0 [0, 9] [0] [1, 0] [fun G => dh (vl ba2 bk2 b.g.Pred) (b.g.Pred : List (List Int)) to_.toNat [(G.g 16 0)]] (fun G => x1 1 rfl os_one fun ho30 => (xS (SoHr0 (α := (List Int)) [0] sh22 [(G.g 16 0)] [(G.g 16 0)] (cells_of_one ho30) rfl (by simp only [List.all_cons, List.all_nil, ho30, Bool.and_true, Bool.true_and] <;> rfl)))) ?_))
 refine Dn ⟨by kernel_rfl, fun G => ?_⟩
 refine Jw2 [] [2, 3, 4, 5, 6, 7] [os (G.g 16 0) (((b.g.Pred.getD to_.toNat []) ++ [from_]) : List Int), dh (vl ba2 bk2 b.g.Pred) (b.g.Pred : List (List Int)) to_.toNat [(G.g 16 0)]] ?_
 generalize G.g 16 0 = c28
 refine Jk [1, 1, 2, 2, 2, 2, 2] ?_
 refine Jo 5 ?_; rintro a31 k32 rfl
 refine Fb 8 5 fun _ => Fo 5 fun ho34 => ?_
 refine Jl [4, 3] (Ent.closeD (A := [O a18 k19 (((b.g.Succ.getD from_.toNat []) ++ [to_]) : List Int)]) _ _ _ _ ((b.g.Succ.getD from_.toNat []) ++ [to_]) innL) ?_
 refine Jl [5, 4] (Ent.closeD (A := [O a31 k32 (((b.g.Pred.getD to_.toNat []) ++ [from_]) : List Int)]) _ _ _ _ ((b.g.Pred.getD to_.toNat []) ++ [from_]) innL) ?_
 have hq := q4 hrr (Gbuilder.mk (GGraph.mk b.g.Nodes (b.g.Succ.set from_.toNat ((b.g.Succ.getD from_.toNat []) ++ [to_])) (b.g.Pred.set to_.toNat ((b.g.Pred.getD to_.toNat []) ++ [from_]))) b.number) (by simp only [bd_edge, h10, hg9, cs4]); subst hq
 exact Kz (vl ba0 bk0 b.g.Nodes, vl ba1 bk1 b.g.Succ, vl ba2 bk2 b.g.Pred) rfl .nil [2, 2, 1, 0, 1] ⟨((edge_f hrr hb aM1 aM1).1), ((edge_f hrr hb aM1 aM1).2)⟩
theorem fn25 (bP : Value) (b : Gbuilder) (ba0 : Option Addr) (bk0 : Nat) (ba1 : Option Addr) (bk1 : Nat) (ba2 : Option Addr) (bk2 : Nat) (bm3 : Value) (kind : Int) (f : Int) (block : Int) (stmt : Int) (hkind_0 : i64ok kind) (hf_0 : i64ok f) (hblock_0 : i64ok block) (hstmt_0 : i64ok stmt) (hb : BOk b) (rr : Int) (hrr : bd_at b kind f block stmt = rr) : FT Tryz.prog 25 #[bP, vi kind, vi f, vi block, vi stmt] [Cl bP [vl ba0 bk0 b.g.Nodes, vl ba1 bk1 b.g.Succ, vl ba2 bk2 b.g.Pred, bm3], S ba0 bk0 b.g.Nodes, D ba1 bk1 b.g.Succ, D ba2 bk2 b.g.Pred, Mp ev_GNode vi ok_GNode bm3 b.number] (fun g : Unit => i64ok rr ∧ (0 ≤ rr ∧ rr < (b.g.Succ.length : Int))) (fun g => vi rr) (fun g => [Cl bP [vl ba0 bk0 b.g.Nodes, vl ba1 bk1 b.g.Succ, vl ba2 bk2 b.g.Pred, bm3], D ba1 bk1 b.g.Succ, D ba2 bk2 b.g.Pred, Mp ev_GNode vi ok_GNode bm3 b.number]) := by
 refine FTi Tryz.func25 fun w0 M0 F0 => ?_
 unfold i64ok at hkind_0 hf_0 hblock_0 hstmt_0
 refine Fb 32 1 fun _ => ?_
 refine FbD 24 2 fun _ => ?_
 refine FbD 24 3 fun _ => ?_
 have hps := hb.ps
 have hn0 := hb.n0
 have hnb := hb.nb
 have hat := at_f hb kind f block stmt
 unfold bd_at at hat
 refine KS ?_
 refine Oq Va (KS ?_)
 refine Oq Vm (Oq (Vn 0) (Oq (Vfa fo72_1 0) (Oq (VldF sh70 0) (Oq Vm (Oq Vm (Oq Vm (Oq Vm (Oq (Vbd st65 [vi kind, vi f, vi block, vi stmt]) (Oq (Vmk1 4 0 mt70 kk_GNode ze3 (ek := ev_GNode) (ev := vi) (ok := ok_GNode) (key := (GNode.mk kind f block stmt)) preK) ?_)))))))))
 refine Oq Va (KS ?_)
 have hq := q4 hrr ((mget b.number (GNode.mk kind f block stmt)).getD 0) (by simp only [bd_at, cs4]); subst hq
 exact Kr () rfl (.tmp rfl .nil) [0, 1, 1, 1] ⟨en, (at_r hrr hb)⟩
theorem fn81 (s : List GBlock) (sa0 : Option Addr) (sk0 : Nat) (fF : FuncId) (fC : List Value) (fp : GBlock → Bool) (fA : List SP) (hfc : callable Tryz.prog fF = true) (hfF : ∀ x ∈ s, ∀ (a1 : Option Addr) (k1 : Nat), x.Name.b.length ≤ 140737488355328 → FT Tryz.prog fF ([(.agg #[.string (bs x.Name), vl a1 k1 x.Stmts] : Value)] ++ fC).toArray ([S a1 k1 x.Stmts] ++ [pAll fA]) (fun _ : Unit => True) (fun _ => .bool (fp x)) (fun _ => [])) (rr : Int) (hrr : sc_IndexFunc_Block s fp = rr) : FT Tryz.prog 81 #[vl sa0 sk0 s, .func (.func fF) #[] fC.toArray] [S sa0 sk0 s, pAll fA] (fun g : Unit => i64ok rr) (fun g => vi rr) (fun g => []) := by
 refine FTi Tryz.func81 fun w0 M0 F0 => Fb 40 0 fun _ => ?_
 refine KS ?_
 refine Oq Va (KS ?_)
 refine Oq Vm (Oq (Vlen sl37) (Oq Vm (KS ?_)))
 refine Kl (γ := Nat × Int) (fun (r2, v8_3) => ⟨[(0, vl sa0 sk0 s), (1, .func (.func fF) #[] fC.toArray), (7, vi (s.length : Int)), (8, vi v8_3)], [S sa0 sk0 s, pAll fA], sc_IndexFunc_Block_L0 s fp r2 v8_3 = sc_IndexFunc_Block_L0 s fp (((s.length : Int) - 0).toNat) 0 ∧ r2 = ((s.length : Int) - v8_3).toNat ∧ (0 : Int) ≤ v8_3 ∧ v8_3 ≤ (s.length : Int) ∧ (-9223372036854775808 ≤ v8_3 ∧ v8_3 ≤ 9223372036854775807), r2⟩) (((s.length : Int) - 0).toNat, 0) [0, 1] ⟨rfl, rfl, aM1, aM1, aM1⟩ ?_
 rintro ⟨r2, v8_3⟩ ⟨hM4, hr5, hi6, hi7, hk8⟩
 refine JJ_nx fun _ _ hL hA => ?_; dsimp only at hL hA; subst hL hA
 refine Fb 40 0 fun _ => KS ?_
 refine Oq Vlss (KS ?_)
 refine Kc ?_ ?_
 ·intro h10
  have g11 := dt h10
  obtain ⟨r12, rfl⟩ := scc (n := r2) aM1
  refine KS ?_
  refine Oq Vm (Oq Va (KS ?_))
  refine Oq Vm (Oq Vm (Oq Vm (Oq (Vi sl37 0) ?_)))
  refine JJ_peek_GBlock v8_3.toNat 0 rfl rng fun a13 k14 hb15 => ?_
  refine Fb 72 1 fun _ => Oq (VldA sh42 0) ?_
  refine JO_call [1, 3] rfl rfl rfl (OpC.clo (asv := [(.agg #[.string (bs ((s.getD v8_3.toNat default).Name)), vl a13 k14 ((s.getD v8_3.toNat default).Stmts)] : Value)] ++ fC) rfl rfl hfc rfl (by simp)) (hfF (s.getD v8_3.toNat default) (getD_mem rng) a13 k14 pre) rfl fun _ _ => ?_
  refine KS ?_
  refine Kc ?_ ?_
  ·intro h17
   refine KS ?_
   refine Oq Vm (Oq Va (KS ?_))
   have hR19 := q2 hM4 (.ret v8_3) (by simp only [sc_IndexFunc_Block_L0, h10, h17, cs4])
   have hq := q4 hrr v8_3 (by simp only [sc_IndexFunc_Block, h10, h17, hR19, cs4]); subst hq
   exact Kr () rfl (.tmp rfl .nil) [] en
  intro h17
  refine KS ?_
  refine Oq Vadd (Oq Vm (KS ?_))
  exact Kg (r12, (v8_3 + 1)) [2, 3] ⟨(q3 hM4 (by simp only [sc_IndexFunc_Block_L0, h10, h17, cs4])), aM1, aM1, aM1, aM1⟩
 intro h10
 have g21 := df h10
 obtain rfl : r2 = 0 := by omega
 refine Ke ?_
 have hR22 := q2 hM4 (.brk ()) (by simp only [sc_IndexFunc_Block_L0, h10, cs4])
 refine KS ?_
 refine Oq Va (KS ?_)
 have hq := q4 hrr (-1) (by simp only [sc_IndexFunc_Block, h10, hR22, cs4]); subst hq
 exact Kr () rfl (.tmp rfl .nil) [] en
theorem fn82 (x : GBlock) (xa1 : Option Addr) (xk1 : Nat) (cap0P : Value) (cap0 : Str) (hx_0 : x.Name.b.length ≤ 140737488355328) (rr : Bool) (hrr : bd_first_1 x cap0 = rr) : FT Tryz.prog 82 #[.agg #[.string (bs x.Name), vl xa1 xk1 x.Stmts], cap0P] [S xa1 xk1 x.Stmts, pv cap0P [.string (bs cap0)]] (fun g : Unit => True) (fun g => vb rr) (fun g => []) := by
 refine FTi Tryz.func82 fun w0 M0 F0 => Fb 72 0 fun _ => ?_
 refine KS ?_
 refine Oa (Ab [.string (bs x.Name), vl xa1 xk1 x.Stmts]) fun p2 => Oq Va (KS ?_)
 refine Oq (Vfa fo42_0 0) (Oq (VldF sh9 0) (Oq (Vld sh9 2) (Oq (VeqS (l := x.Name) (m := cap0)) (Oq Va (KS ?_)))))
 have hq := q4 hrr (x.Name == cap0) (by simp only [bd_first_1, cs4]); subst hq
 exact Kr () rfl (.tmp rfl .nil) [] trivial
theorem fn46 (bP : Value) (b : Gbuilder) (ba0 : Option Addr) (bk0 : Nat) (ba1 : Option Addr) (bk1 : Nat) (ba2 : Option Addr) (bk2 : Nat) (bm3 : Value) (p : GProgram) (pa0 : Option Addr) (pk0 : Nat) (f : Int) (name : Str) (hf_0 : i64ok f) (hname_0 : name.b.length ≤ 140737488355328) (hb : BOk b) (hf0 : 0 ≤ f ∧ f < (p.Funcs.length : Int)) (rr : Int) (hrr : bd_first b p f name = rr) : FT Tryz.prog 46 #[bP, .agg #[vl pa0 pk0 p.Funcs], vi f, .string (bs name)] [Cl bP [vl ba0 bk0 b.g.Nodes, vl ba1 bk1 b.g.Succ, vl ba2 bk2 b.g.Pred, bm3], S ba0 bk0 b.g.Nodes, D ba1 bk1 b.g.Succ, D ba2 bk2 b.g.Pred, Mp ev_GNode vi ok_GNode bm3 b.number, S pa0 pk0 p.Funcs] (fun g : Unit => i64ok rr ∧ (0 ≤ rr ∧ rr < (b.g.Succ.length : Int))) (fun g => vi rr) (fun g => [Cl bP [vl ba0 bk0 b.g.Nodes, vl ba1 bk1 b.g.Succ, vl ba2 bk2 b.g.Pred, bm3], D ba1 bk1 b.g.Succ, D ba2 bk2 b.g.Pred, Mp ev_GNode vi ok_GNode bm3 b.number]) := by
 refine FTi Tryz.func46 fun w0 M0 F0 => ?_
 unfold i64ok at hf_0
 refine Fb 32 1 fun _ => ?_
 refine FbD 24 2 fun _ => ?_
 refine FbD 24 3 fun _ => ?_
 refine Fb 40 5 fun _ => ?_
 have hps := hb.ps
 have hn0 := hb.n0
 have hnb := hb.nb
 refine KS ?_
 refine Oa (Ab [vl pa0 pk0 p.Funcs]) fun p5 => Oa (Ab [.string (bs name)]) fun p6 => Oq Va (KS ?_)
 refine Oq (Vfa fo25_0 1) (Oq (VldF sh23 1) (Oq Vm (Oq (Vi sl23 7) ?_)))
 refine JJ_peek_GFunc f.toNat 7 rfl rng fun a7 k8 hb9 => ?_
 refine Fb 40 1 fun _ => ?_
 refine Oq (Vfa fo39_1 0) (Oq (VldF sh37 0) (Oq (Vf [p6]) ?_))
 refine JJ_ent (Ent.pall [2] rfl rfl) ?_
 refine letv (sc_IndexFunc_Block ((p.Funcs.getD f.toNat default).Blocks) (fun x => bd_first_1 x name)) fun rv11 hg12 => ?_
 have hc13 := fn81 ((p.Funcs.getD f.toNat default).Blocks) a7 k8 82 [p6] (fun x => bd_first_1 x name) [pv p6 [.string (bs name)]] ca82 (fun x hx a1 k1 hq0 => FT_pall (A1 := _) (fn82 x a1 k1 p6 name hq0 _ rfl)) rv11 hg12
 refine Oc [2, 0] ca81 hc13 ?_
 rintro - he14
 unfold i64ok at he14
 refine Oq Va (KS ?_)
 refine Oq Vm (Oq Vm (Oq Vm ?_))
 refine letv (bd_at b 3 f rv11 0) fun rv15 hg16 => ?_
 have hc17 := fn25 bP b ba0 bk0 ba1 bk1 ba2 bk2 bm3 3 f rv11 0 pre pre pre pre hb rv15 hg16
 refine Oc [5, 5, 6, 6, 6] ca25 hc17 ?_
 rintro - ⟨he18, he19⟩
 unfold i64ok at he18
 refine Oq Va (KS ?_)
 have hq := q4 hrr rv15 (by simp only [bd_first, hg12, hg16, cs4]); subst hq
 exact Kr () rfl (.tmp rfl .nil) [0, 0, 0, 0] ⟨en, (first_f hrr hb)⟩
theorem fn47 (s : List GFunc) (sa0 : Option Addr) (sk0 : Nat) (fF : FuncId) (fC : List Value) (fp : GFunc → Bool) (fA : List SP) (hfc : callable Tryz.prog fF = true) (hfF : ∀ x ∈ s, ∀ (a1 : Option Addr) (k1 : Nat), x.Name.b.length ≤ 140737488355328 → FT Tryz.prog fF ([(.agg #[.string (bs x.Name), vl a1 k1 x.Blocks] : Value)] ++ fC).toArray ([S a1 k1 x.Blocks] ++ [pAll fA]) (fun _ : Unit => True) (fun _ => .bool (fp x)) (fun _ => [])) (rr : Int) (hrr : sc_IndexFunc_Func s fp = rr) : FT Tryz.prog 47 #[vl sa0 sk0 s, .func (.func fF) #[] fC.toArray] [S sa0 sk0 s, pAll fA] (fun g : Unit => i64ok rr) (fun g => vi rr) (fun g => []) := by
 refine FTi Tryz.func47 fun w0 M0 F0 => Fb 40 0 fun _ => ?_
 refine KS ?_
 refine Oq Va (KS ?_)
 refine Oq Vm (Oq (Vlen sl23) (Oq Vm (KS ?_)))
 refine Kl (γ := Nat × Int) (fun (r2, v8_3) => ⟨[(0, vl sa0 sk0 s), (1, .func (.func fF) #[] fC.toArray), (7, vi (s.length : Int)), (8, vi v8_3)], [S sa0 sk0 s, pAll fA], sc_IndexFunc_Func_L0 s fp r2 v8_3 = sc_IndexFunc_Func_L0 s fp (((s.length : Int) - 0).toNat) 0 ∧ r2 = ((s.length : Int) - v8_3).toNat ∧ (0 : Int) ≤ v8_3 ∧ v8_3 ≤ (s.length : Int) ∧ (-9223372036854775808 ≤ v8_3 ∧ v8_3 ≤ 9223372036854775807), r2⟩) (((s.length : Int) - 0).toNat, 0) [0, 1] ⟨rfl, rfl, aM1, aM1, aM1⟩ ?_
 rintro ⟨r2, v8_3⟩ ⟨hM4, hr5, hi6, hi7, hk8⟩
 refine JJ_nx fun _ _ hL hA => ?_; dsimp only at hL hA; subst hL hA
 refine Fb 40 0 fun _ => KS ?_
 refine Oq Vlss (KS ?_)
 refine Kc ?_ ?_
 ·intro h10
  have g11 := dt h10
  obtain ⟨r12, rfl⟩ := scc (n := r2) aM1
  refine KS ?_
  refine Oq Vm (Oq Va (KS ?_))
  refine Oq Vm (Oq Vm (Oq Vm (Oq (Vi sl23 0) ?_)))
  refine JJ_peek_GFunc v8_3.toNat 0 rfl rng fun a13 k14 hb15 => ?_
  refine Fb 40 1 fun _ => Oq (VldA sh39 0) ?_
  refine JO_call [1, 3] rfl rfl rfl (OpC.clo (asv := [(.agg #[.string (bs ((s.getD v8_3.toNat default).Name)), vl a13 k14 ((s.getD v8_3.toNat default).Blocks)] : Value)] ++ fC) rfl rfl hfc rfl (by simp)) (hfF (s.getD v8_3.toNat default) (getD_mem rng) a13 k14 pre) rfl fun _ _ => ?_
  refine KS ?_
  refine Kc ?_ ?_
  ·intro h17
   refine KS ?_
   refine Oq Vm (Oq Va (KS ?_))
   have hR19 := q2 hM4 (.ret v8_3) (by simp only [sc_IndexFunc_Func_L0, h10, h17, cs4])
   have hq := q4 hrr v8_3 (by simp only [sc_IndexFunc_Func, h10, h17, hR19, cs4]); subst hq
   exact Kr () rfl (.tmp rfl .nil) [] en
  intro h17
  refine KS ?_
  refine Oq Vadd (Oq Vm (KS ?_))
  exact Kg (r12, (v8_3 + 1)) [2, 3] ⟨(q3 hM4 (by simp only [sc_IndexFunc_Func_L0, h10, h17, cs4])), aM1, aM1, aM1, aM1⟩
 intro h10
 have g21 := df h10
 obtain rfl : r2 = 0 := by omega
 refine Ke ?_
 have hR22 := q2 hM4 (.brk ()) (by simp only [sc_IndexFunc_Func_L0, h10, cs4])
 refine KS ?_
 refine Oq Va (KS ?_)
 have hq := q4 hrr (-1) (by simp only [sc_IndexFunc_Func, h10, hR22, cs4]); subst hq
 exact Kr () rfl (.tmp rfl .nil) [] en
theorem fn48 (x : GFunc) (xa1 : Option Addr) (xk1 : Nat) (cap0P : Value) (cap0 : GStmt) (cap0a2 : Option Addr) (cap0k2 : Nat) (cap0a3 : Option Addr) (cap0k3 : Nat) (hx_0 : x.Name.b.length ≤ 140737488355328) (hcap0_0 : i64ok cap0.Op) (ht0 : 0 < cap0.Targets.length) (rr : Bool) (hrr : bd_stmt_1 x cap0 = rr) : FT Tryz.prog 48 #[.agg #[.string (bs x.Name), vl xa1 xk1 x.Blocks], cap0P] [S xa1 xk1 x.Blocks, pv cap0P [vi cap0.Op, .string (bs cap0.Def), vl cap0a2 cap0k2 cap0.Uses, vl cap0a3 cap0k3 cap0.Targets], S cap0a2 cap0k2 cap0.Uses, S cap0a3 cap0k3 cap0.Targets] (fun g : Unit => True) (fun g => vb rr) (fun g => []) := by
 refine FTi Tryz.func48 fun w0 M0 F0 => ?_
 unfold i64ok at hcap0_0
 refine Fb 40 0 fun _ => Fb 16 2 fun _ => ?_
 refine FoS 2 fun ho3 => ?_
 refine Fb 16 3 fun _ => ?_
 refine FoS 3 fun ho5 => ?_
 refine KS ?_
 refine Oa (Ab [.string (bs x.Name), vl xa1 xk1 x.Blocks]) fun p6 => Oq Va (KS ?_)
 refine Kq [0, 1, 0, 4, 12, 28, 63, 127] fmix ?_
 refine Qv [0] (Vfa fo39_0 0) (Qv [0] (VldF sh9 0) (Qv [2] (Vfa fo44_3 0) (Qv [2] (VldF sh36 0) (Qv [4] (Vi sl36 0) ?_))))
 have hb7 := okS (i := (0 : Int).toNat) ho5 rng
 refine Qv [4] (VldS sh9 0) (Qv [] (VeqS (l := x.Name) (m := (cap0.Targets.getD (0 : Int).toNat default))) (Qv [] Va ?_))
 refine Qn ⟨by kernel_rfl, ?_⟩
 have hq := q4 hrr (x.Name == (cap0.Targets.getD (0 : Int).toNat default)) (by simp only [bd_stmt_1, cs4]); subst hq
 exact Kr () rfl (.tmp rfl .nil) [] trivial
end Go.SL.G
