/- Part 3 of the walks: mirrors, plain laws and walks used by the last text of this claim. -/
import Derived.Test.YtbccjgpbflaibaaGreatW2
import Derived.Test.YtbccjgpbflaibaaGreatProg
set_option linter.unusedVariables false
set_option linter.unusedSimpArgs false
namespace Go.SL.G
open Go Go.SL Go.Proofs
set_option maxHeartbeats 20000000
set_option maxRecDepth 100000
structure BInv (s : GSystem) (last : GHop) (k : Nat) (next : List (GHop × List GHop)) (level : List GHop) : Prop where
 lev : ∀ x, x ∈ level ↔ Dst s last k x
 key : ∀ x, (mget next x).isSome = true ↔ ∃ j, j ≤ k ∧ Pth s last j x
 zero : mget next last = some []
 val : ∀ j x, j + 1 ≤ k → Dst s last (j + 1) x → ∀ y, y ∈ (mget next x).getD [] ↔ Dst s last j y ∧ tfl s x y
 noo : ∀ j x, j < k → Dst s last j x → wt_origin s x = false
 nd : (next.map (·.1)).Nodup
 cnt : k + 1 ≤ next.length
 lnd : level.Nodup
theorem BInv_0 (s : GSystem) (last : GHop) : BInv s last 0 (mset ([] : List (GHop × List GHop)) last []) [last] := by
 refine ⟨fun x => ?_, fun x => ?_, by simp [mset, mget], fun j x h => by omega, fun j x h => by omega, by simp [mset], by simp [mset], by simp⟩
 ·rw [List.mem_singleton]
  exact ⟨fun h => ⟨h, fun j hj => by omega⟩, fun h => h.1⟩
 ·simp only [mset, mget]
  by_cases c : last = x
  ·subst c; simp only [if_pos, Option.isSome_some]; exact ⟨fun _ => ⟨0, Nat.le_refl _, rfl⟩, fun _ => trivial⟩
  ·rw [if_neg c]
   refine ⟨fun h => (by cases h), ?_⟩
   rintro ⟨j, hj, hp⟩
   have : j = 0 := by omega
   subst this
   exact absurd (show x = last from hp).symm c
theorem BInv_end {s : GSystem} {last : GHop} {k : Nat} {next : List (GHop × List GHop)} {level : List GHop} (h : BInv s last k next level) {found : List (GHop × List GHop)} (hf : FInv next (fun y z => y ∈ level ∧ tfl s z y) found []) (ho : ∀ x ∈ level, wt_origin s x = false) : ∀ j x, Pth s last j x → wt_origin s x = false := by
 intro j x hp
 obtain ⟨i, _, hd⟩ := Dst_min hp
 rcases Nat.lt_trichotomy i k with c | c | c
 ·exact h.noo i x c hd
 ·subst c; exact ho x ((h.lev x).2 hd)
 ·exfalso
  obtain ⟨y, hy⟩ := Dst_down (k := k + 1) (i - (k + 1)) (x := x) (by rw [show k + 1 + (i - (k + 1)) = i by omega]; exact hd)
  obtain ⟨z, a, b⟩ := Dst_pred hy
  have hs : (mget found y).isSome = true := (hf.iso y).2 ⟨⟨z, (h.lev z).2 a, b⟩, by
   cases e : (mget next y).isSome with
   | false => rfl
   | true =>
    obtain ⟨q, hq, hp⟩ := (h.key y).1 e
    exact absurd hp (hy.2 q (by omega))⟩
  cases (hf.fur y).2 hs
def FRes (s : GSystem) (last : GHop) (res : List GHop × Bool × Int) : Prop :=
 (∃ k p, res = (p, true, 0) ∧ GP s last k (fun x => Dst s last k x ∧ wt_origin s x = true) p ∧ (∀ j x, j < k → Dst s last j x → wt_origin s x = false) ∧ (∃ x, Dst s last k x ∧ wt_origin s x = true) ∧ (k : Int) + 1 ≤ (s.Deps.length : Int) * s.Width) ∨
 (res = ([], false, 0) ∧ ∀ j x, Pth s last j x → wt_origin s x = false)
theorem origin_iff (s : GSystem) (h : GHop) : wt_origin s h = true ↔ r1_Has (Bd s h.Node) h.Bit = true ∨ ∃ m ∈ deps s h.Node, r1_Has (Tr s m).Gen h.Bit = true := by
 unfold wt_origin Bd
 simp only [bHas_eq]
 have h2 := IndexFunc_any (s.Deps.getD h.Node.toNat []) (fun x => wt_origin_1 x s h)
 cases e : r1_Has (s.Boundary.getD h.Node.toNat default) h.Bit with
 | true => simp
 | false =>
  simp only [cond_false, Bool.false_eq_true, false_or]
  refine h2.trans ?_
  unfold wt_origin_1 deps Tr
  simp only [bHas_eq]
theorem BInv_max {s : GSystem} (hv : VSys s) {last : GHop} (hl : HopR s last) {k : Nat} {next : List (GHop × List GHop)} {level : List GHop} (h : BInv s last k next level) : (next.length : Int) ≤ (s.Deps.length : Int) * s.Width := by
 have hr : ∀ x ∈ next.map (·.1), HopR s x := fun x hx => by
  obtain ⟨j, _, hp⟩ := (h.key x).1 (isSome_mem.2 hx)
  exact Pth_rng hv hl hp
 rcases hops_le h.nd hr with c | c
 ·rwa [List.length_map] at c
 ·have h0 : next.length = 0 := by
   have := congrArg List.length c
   rwa [List.length_map] at this
  have := h.cnt
  omega
theorem BInv_lvl {s : GSystem} (hv : VSys s) {last : GHop} (hl : HopR s last) {k : Nat} {next : List (GHop × List GHop)} {level : List GHop} (h : BInv s last k next level) : (level.length : Int) ≤ 65536 := by
 have := dw_le hv
 rcases hops_le h.lnd (fun x hx => Pth_rng hv hl ((h.lev x).1 hx).1) with c | c
 ·omega
 ·rw [c]; decide
theorem BInv_vals {s : GSystem} (hv : VSys s) {last : GHop} (hl : HopR s last) {k : Nat} {next : List (GHop × List GHop)} {level : List GHop} (h : BInv s last k next level) : ∀ e ∈ next, ∀ x ∈ e.2, HopR s x := fun e he x hx => by
 have hg : mget next e.1 = some e.2 := (mget_iff h.nd).2 he
 obtain ⟨j, hj, hp⟩ := (h.key e.1).1 (by rw [hg]; rfl)
 obtain ⟨i, hi, hd⟩ := Dst_min hp
 cases i with
 | zero =>
  have : e.1 = last := hd.1
  rw [this, h.zero] at hg
  rw [← Option.some.inj hg] at hx
  cases hx
 | succ i =>
  have := h.val i e.1 (by omega) hd x
  rw [hg] at this
  exact Pth_rng hv hl (this.1 hx).1.1
theorem BInv_rng {s : GSystem} (hv : VSys s) {last : GHop} (hl : HopR s last) {next : List (GHop × List GHop)} {level : List GHop} (h : ∃ k, BInv s last k next level) : ∀ x ∈ level, HopR s x := fun x hx => by
 obtain ⟨k, h⟩ := h
 exact Pth_rng hv hl ((h.lev x).1 hx).1
theorem BInv_len {s : GSystem} (hv : VSys s) {last : GHop} (hl : HopR s last) {next : List (GHop × List GHop)} {level : List GHop} (h : ∃ k, BInv s last k next level) : (next.length : Int) ≤ (s.Deps.length : Int) * s.Width := by
 obtain ⟨k, h⟩ := h
 exact BInv_max hv hl h
theorem BInv_lvl' {s : GSystem} (hv : VSys s) {last : GHop} (hl : HopR s last) {next : List (GHop × List GHop)} {level : List GHop} (h : ∃ k, BInv s last k next level) : (level.length : Int) ≤ 65536 := by
 obtain ⟨k, h⟩ := h
 exact BInv_lvl hv hl h
theorem vals_B {s : GSystem} (hv : VSys s) {last : GHop} (hl : HopR s last) {next : List (GHop × List GHop)} {level : List GHop} (h : ∃ k, BInv s last k next level) : ∀ e ∈ next, ∀ x ∈ e.2, HopB x := fun e he x hx => by
 obtain ⟨k, h⟩ := h
 exact HopR_B hv (BInv_vals hv hl h e he x hx)
open Classical in
theorem noPath {s : GSystem} (hv : VSys s) {u : List GSet} (hl : Least s u) {last : GHop} (hr : HopR s last) (hno : ∀ j x, Pth s last j x → wt_origin s x = false) : r1_Has (vat u last.Node) last.Bit = false := by
 have hb := hv.bl
 have hw := hv.w
 have hr1 := hr.1.1
 have hr2 := hr.1.2
 let Q : GHop → Prop := fun x => ∃ j, Pth s last j x
 have hex : ∀ i : Nat, ∃ g, VSt s.Width g ∧ ∀ x, r1_Has g x = true ↔ r1_Has (vat u (i : Int)) x = true ∧ (0 ≤ x ∧ x < s.Width) ∧ ¬ Q ⟨(i : Int), x⟩ := fun i => by
  obtain ⟨g, hg, hh⟩ := mkset hw.1 hw.2 (fun x => r1_Has (vat u (i : Int)) x && decide (¬ Q ⟨(i : Int), x⟩)) s.Width.toNat (by omega)
  refine ⟨g, hg, fun x => ?_⟩
  rw [hh, Int.toNat_of_nonneg hw.1]
  simp only [Bool.and_eq_true, decide_eq_true_eq]
  exact ⟨fun ⟨⟨a, b⟩, c, d⟩ => ⟨c, ⟨a, b⟩, d⟩, fun ⟨c, ⟨a, b⟩, d⟩ => ⟨⟨a, b⟩, c, d⟩⟩
 let v : List GSet := (List.range s.Boundary.length).map fun i => Classical.choose (hex i)
 have hvl : v.length = s.Boundary.length := by simp [v]
 have hat : ∀ n : Int, 0 ≤ n → n < (s.Boundary.length : Int) → vat v n = Classical.choose (hex n.toNat) := fun n n0 n1 => by
  unfold vat
  simp only [v, List.getD]
  rw [List.getElem?_map, List.getElem?_range (by omega)]
  rfl
 have hvv : VVals s v := by
  refine ⟨hvl, fun g hg => ?_⟩
  obtain ⟨i, _, rfl⟩ := List.mem_map.1 hg
  exact (Classical.choose_spec (hex i)).1
 have hh : ∀ n : Int, 0 ≤ n → n < (s.Boundary.length : Int) → ∀ x, r1_Has (vat v n) x = true ↔ r1_Has (vat u n) x = true ∧ (0 ≤ x ∧ x < s.Width) ∧ ¬ Q ⟨n, x⟩ := fun n n0 n1 x => by
  rw [hat n n0 n1, (Classical.choose_spec (hex n.toNat)).2 x, show ((n.toNat : Nat) : Int) = n by omega]
 have hle : Le s v u := fun n n0 n1 x hx => ((hh n n0 n1 x).1 hx).1
 have hF : Le s (Fv s v) v := fun n n0 n1 x hx => by
  have hu : r1_Has (vat u n) x = true := by
   have := Fv_mono hv hvv hl.v hle n n0 n1 x hx
   rwa [hl.fix] at this
  have hrx := Has_rng (VVals_at hl.v n0 n1) hu
  refine (hh n n0 n1 x).2 ⟨hu, hrx, ?_⟩
  rintro ⟨j, hj⟩
  have hor := hno j _ hj
  rw [Fv_at s v n0 n1, right_iff hv hvv n0 (by omega)] at hx
  have ho := (origin_iff s ⟨n, x⟩).2
  rcases hx with h | ⟨m, hm, h⟩
  ·rw [ho (.inl h)] at hor; cases hor
  ·have hmr := hv.dep_mem n0 (by omega) m hm
   rcases (app_iff (VSys_trV hv hmr.1 hmr.2) (VVals_at hvv hmr.1 (by omega)) x).1 h with h | ⟨a, ha, _, _, hf⟩
   ·rw [ho (.inr ⟨m, hm, h⟩)] at hor; cases hor
   ·have := (hh m hmr.1 (by omega) a).1 ha
    exact this.2.2 ⟨j + 1, _, hj, hm, this.2.1, hf⟩
 have := hl.least v hvv hF last.Node hr.1.1 (by omega)
 cases e : r1_Has (vat u last.Node) last.Bit with
 | false => rfl
 | true => exact absurd ⟨0, rfl⟩ ((hh last.Node hr.1.1 (by omega) last.Bit).1 (this last.Bit e)).2.2
theorem Del_L0 (p : GHop → Bool) (s0 : List GHop) : ∀ (r : Nat) (s' : List GHop) (i j : Int) (R : List GHop × Int), 0 ≤ i → i ≤ j → j + r = (s0.length : Int) → s'.length = s0.length → s'.take i.toNat = (s0.take j.toNat).filter (fun x => !p x) → s'.drop j.toNat = s0.drop j.toNat →
  sc_DeleteFunc_Hop_L0 p r s' i j = R → R.1.length = s0.length ∧ (0 ≤ R.2 ∧ R.2 ≤ (s0.length : Int)) ∧ R.1.take R.2.toNat = s0.filter (fun x => !p x)
 | 0, s', i, j, R, h0, h1, h2, hl, ht, hd, e => by
  rw [sc_DeleteFunc_Hop_L0] at e
  subst e
  refine ⟨hl, ⟨h0, by omega⟩, ?_⟩
  rw [ht, List.take_of_length_le (by omega)]
 | r + 1, s', i, j, R, h0, h1, h2, hl, ht, hd, e => by
  have hj : j.toNat < s0.length := by omega
  have hj' : j.toNat < s'.length := by omega
  have hx : s'.getD j.toNat default = s0[j.toNat] := by
   have := congrArg (fun l => l[0]?) hd
   simp only [List.getElem?_drop, Nat.add_zero] at this
   simp [List.getD, this, hj]
  have htk : s0.take (j + 1).toNat = s0.take j.toNat ++ [s0[j.toNat]] := by
   rw [show (j + 1).toNat = j.toNat + 1 by omega, List.take_add_one, List.getElem?_eq_getElem hj]; rfl
  have hdj : s'.drop (j + 1).toNat = s0.drop (j + 1).toNat := by
   have := congrArg (List.drop 1) hd
   rw [List.drop_drop, List.drop_drop] at this
   rw [show (j + 1).toNat = j.toNat + 1 by omega]; exact this
  rw [sc_DeleteFunc_Hop_L0, hx] at e
  cases c : p s0[j.toNat] with
  | true =>
   rw [c] at e
   exact Del_L0 p s0 r s' i (j + 1) R h0 (by omega) (by omega) hl (by rw [htk, List.filter_append, ht]; simp [c]) hdj e
  | false =>
   rw [c] at e
   refine Del_L0 p s0 r _ (i + 1) (j + 1) R (by omega) (by omega) (by omega) (by rw [List.length_set]; exact hl) ?_ ?_ e
   ·rw [htk, List.filter_append, ← ht, show (i + 1).toNat = i.toNat + 1 by omega, List.take_add_one, List.getElem?_set_self (by omega), List.take_set_of_le (by omega)]
    simp [c]
   ·rw [List.drop_set_of_lt (by omega)]; exact hdj
theorem Delete_eq (s : List GHop) (p : GHop → Bool) : sc_DeleteFunc_Hop s p = s.filter (fun x => !p x) := by
 unfold sc_DeleteFunc_Hop sc_IndexFunc_Hop
 rcases scan1 (fun r i => sc_IndexFunc_Hop_L0 s p r i) (fun i => p (s.getD i.toNat default)) () (fun _ => rfl) (fun _ _ => rfl) ((((s.length : Nat) : Int) - 0).toNat) 0 with ⟨j, e, j1, j2, j3, j4⟩ | ⟨e, h⟩
 ·try dsimp only at e
  rw [e]
  have hne : (j == -1) = false := by simp; omega
  have hj : j.toNat < s.length := by omega
  dsimp only
  rw [hne, cond_false]
  have hpre : ∀ x ∈ s.take j.toNat, (!p x) = true := fun x hx => by
   obtain ⟨i, hi, rfl⟩ := List.mem_iff_getElem.1 hx
   have hi' : i < j.toNat := by rw [List.length_take] at hi; omega
   rw [List.getElem_take]
   have := j4 (i : Int) (by omega) (by omega)
   rw [Int.toNat_natCast] at this
   have hg : s.getD i default = s[i] := by simp [List.getD, show i < s.length by omega]
   rw [hg] at this
   rw [this]; rfl
  have hg : s.getD j.toNat default = s[j.toNat] := by simp [List.getD, hj]
  rw [hg] at j3
  obtain ⟨q1, q2, q3⟩ := Del_L0 p s (((((s.length : Nat) : Int) : Int) - (j + 1)).toNat) s j (j + 1) _ (by omega) (by omega) (by omega) rfl (by
   rw [show (j + 1).toNat = j.toNat + 1 by omega, List.take_add_one, List.getElem?_eq_getElem hj, List.filter_append, List.filter_eq_self.2 hpre]
   simp [j3]) rfl rfl
  generalize sc_DeleteFunc_Hop_L0 p (((((s.length : Nat) : Int) : Int) - (j + 1)).toNat) s j (j + 1) = R at q1 q2 q3 ⊢
  obtain ⟨r0, r1⟩ := R
  dsimp only at q1 q2 q3 ⊢
  rw [List.drop_zero, List.take_append_of_le_length (by rw [List.length_take]; omega), List.take_take, Nat.min_self, q3]
 ·try dsimp only at e
  rw [e]
  dsimp only
  simp only [beq_self_eq_true, cond_true]
  symm
  refine List.filter_eq_self.2 fun x hx => ?_
  obtain ⟨j, j1, j2, e3⟩ := (mem_getDg (d := default)).1 hx
  have := h j j1 (by omega)
  rw [e3] at this
  simp [this]
theorem starts_mem (s : GSystem) (level : List GHop) (x : GHop) : x ∈ sc_DeleteFunc_Hop (sc_Clone_Hop level) (fun x => wt_Find_1 x s) ↔ x ∈ level ∧ wt_origin s x = true := by
 rw [Delete_eq]
 unfold sc_Clone_Hop wt_Find_1
 rw [List.mem_filter]
 simp
theorem starts_B {s : GSystem} (hv : VSys s) {last : GHop} (hl : HopR s last) {next : List (GHop × List GHop)} {level cl st : List GHop} (h : ∃ k, BInv s last k next level) (hc : sc_Clone_Hop level = cl) (hs : sc_DeleteFunc_Hop cl (fun x => wt_Find_1 x s) = st) : ∀ x ∈ st, HopB x := fun x hx => by
 subst hc
 subst hs
 exact HopR_B hv (BInv_rng hv hl h x ((starts_mem s level x).1 hx).1)
theorem compare_neg (a b : GHop) : (decide (wt_compare a b < 0) = true → hle a b) ∧ (decide (wt_compare a b < 0) = false → hle b a) := by
 unfold wt_compare hle
 by_cases h : a.Node = b.Node
 ·have e : (a.Node != b.Node) = false := by simp [h]
  rw [e, cond_false]
  exact ⟨fun q => by have := of_decide_eq_true q; omega, fun q => by have := of_decide_eq_false q; omega⟩
 ·have e : (a.Node != b.Node) = true := by simp [h]
  rw [e, cond_true]
  exact ⟨fun q => by have := of_decide_eq_true q; omega, fun q => by have := of_decide_eq_false q; omega⟩
theorem MinFunc_L0 (x : List GHop) : ∀ (r : Nat) (m0 m1 i : Int) (R : Int × Int), 0 ≤ i → i + r = (x.length : Int) → sc_MinFunc_Hop_L0 x (fun a b => wt_compare a b) r m0 m1 i = R →
  ((⟨R.1, R.2⟩ : GHop) = ⟨m0, m1⟩ ∨ (⟨R.1, R.2⟩ : GHop) ∈ x) ∧ hle ⟨R.1, R.2⟩ ⟨m0, m1⟩ ∧ ∀ j : Int, i ≤ j → j < (x.length : Int) → hle ⟨R.1, R.2⟩ (x.getD j.toNat default)
 | 0, m0, m1, i, R, h0, h1, e => by
  rw [sc_MinFunc_Hop_L0] at e
  subst e
  exact ⟨.inl rfl, hle_refl _, fun j a b => by omega⟩
 | r + 1, m0, m1, i, R, h0, h1, e => by
  rw [sc_MinFunc_Hop_L0] at e
  have hc := compare_neg (x.getD i.toNat default) ⟨m0, m1⟩
  cases e1 : decide (wt_compare (x.getD i.toNat default) (GHop.mk m0 m1) < 0) with
  | true =>
   rw [e1, cond_true] at e
   obtain ⟨a, b, c⟩ := MinFunc_L0 x r _ _ (i + 1) R (by omega) (by omega) e
   have hb : hle ⟨R.1, R.2⟩ (x.getD i.toNat default) := b
   refine ⟨.inr ?_, hle_trans hb (hc.1 e1), fun j j0 j1 => ?_⟩
   ·rcases a with a | a
    ·rw [a]; exact getD_mem (by omega)
    ·exact a
   ·by_cases q : j = i
    ·subst q; exact hb
    ·exact c j (by omega) j1
  | false =>
   rw [e1, cond_false] at e
   obtain ⟨a, b, c⟩ := MinFunc_L0 x r _ _ (i + 1) R (by omega) (by omega) e
   refine ⟨a, b, fun j j0 j1 => ?_⟩
   by_cases q : j = i
   ·subst q; exact hle_trans b (hc.2 e1)
   ·exact c j (by omega) j1
theorem MinFunc_spec {x : List GHop} (hx : x ≠ []) : Mn (· ∈ x) (sc_MinFunc_Hop x (fun a b => wt_compare a b)) := by
 have hl : 0 < x.length := List.length_pos_iff.2 hx
 obtain ⟨a, b, c⟩ := MinFunc_L0 x (((((x.length : Nat) : Int) : Int) - 1).toNat) ((x.getD (0 : Int).toNat default).Node) ((x.getD (0 : Int).toNat default).Bit) 1 _ (by omega) (by omega) rfl
 unfold sc_MinFunc_Hop
 generalize sc_MinFunc_Hop_L0 x (fun a b => wt_compare a b) (((((x.length : Nat) : Int) : Int) - 1).toNat) ((x.getD (0 : Int).toNat default).Node) ((x.getD (0 : Int).toNat default).Bit) 1 = R at a b c ⊢
 obtain ⟨r0, r1⟩ := R
 dsimp only at a b c ⊢
 have h0 : x.getD (0 : Int).toNat default ∈ x := getD_mem (by omega)
 refine ⟨a.elim (fun a => by rw [a]; exact h0) id, fun y hy => ?_⟩
 obtain ⟨j, j0, j1, rfl⟩ := (mem_getDg (d := default)).1 hy
 by_cases q : j = 0
 ·subst q; exact b
 ·exact c j (by omega) j1
theorem first_spec {s : GSystem} {last : GHop} {K : Nat} {next : List (GHop × List GHop)} {level : List GHop} (h : BInv s last K next level) : ∀ (k r : Nat) (l out : List GHop) (S : GHop → Prop), k + 2 ≤ r → k ≤ K → (∀ x, x ∈ l ↔ S x) → (∀ x, S x → Dst s last k x) → (∃ x, S x) →
  ∃ p, wt_first_L0 next r l out = .brk (out ++ p) ∧ GP s last k S p
 | k, 0, l, out, S, hr, _, _, _, _ => by omega
 | k, 1, l, out, S, hr, _, _, _, _ => by omega
 | 0, r + 2, l, out, S, hr, hk, hl, hd, ⟨x0, hx0⟩ => by
  have hne : l ≠ [] := List.ne_nil_of_mem ((hl x0).2 hx0)
  have hm := MinFunc_spec hne
  have hlast : sc_MinFunc_Hop l (fun a b => wt_compare a b) = last := (hd _ ((hl _).1 hm.1)).1
  have hpos : 0 < l.length := List.length_pos_iff.2 hne
  refine ⟨[last], ?_, last, ?_, rfl⟩
  ·rw [wt_first_L0, decide_eq_true (by omega), cond_true]
   dsimp only
   rw [hlast, h.zero, wt_first_L0]
   rfl
  ·rw [hlast] at hm
   exact ⟨(hl _).1 hm.1, fun x hx => hm.2 x ((hl x).2 hx)⟩
 | k + 1, r + 2, l, out, S, hr, hk, hl, hd, ⟨x0, hx0⟩ => by
  have hne : l ≠ [] := List.ne_nil_of_mem ((hl x0).2 hx0)
  have hm := MinFunc_spec hne
  have hpos : 0 < l.length := List.length_pos_iff.2 hne
  generalize hmm : sc_MinFunc_Hop l (fun a b => wt_compare a b) = m at hm
  have hmd := hd _ ((hl _).1 hm.1)
  obtain ⟨p, e, g⟩ := first_spec h k (r + 1) ((mget next m).getD []) (out ++ [m]) (fun y => Dst s last k y ∧ tfl s m y) (by omega) (by omega) (h.val k m hk hmd) (fun x hx => hx.1) (by obtain ⟨y, a, b⟩ := Dst_pred hmd; exact ⟨y, a, b⟩)
  refine ⟨m :: p, ?_, m, p, ⟨(hl _).1 hm.1, fun x hx => hm.2 x ((hl x).2 hx)⟩, rfl, g⟩
  rw [wt_first_L0, decide_eq_true (by omega), cond_true]
  dsimp only
  rw [hmm, e]; simp
theorem first_t {s : GSystem} {last : GHop} {next : List (GHop × List GHop)} {level cl st : List GHop} (h : ∃ k, BInv s last k next level) (hc : sc_Clone_Hop level = cl) (hs : sc_DeleteFunc_Hop cl (fun x => wt_Find_1 x s) = st) (hp : 0 < ((st.length : Nat) : Int)) : wt_first_L0 next ((next.length : Nat) + 2) st [] ≠ .oof := by
 subst hc
 obtain ⟨k, h⟩ := h
 have hst := starts_mem s level
 rw [hs] at hst
 have hcnt := h.cnt
 obtain ⟨x0, hx0⟩ := List.exists_mem_of_length_pos (l := st) (by omega)
 have hx0' := (hst x0).1 hx0
 obtain ⟨p, e, g⟩ := first_spec h k (((next.length : Nat)) + 2) st [] (fun x => Dst s last k x ∧ wt_origin s x = true) (by omega) (Nat.le_refl _) (fun x => by rw [hst, h.lev]) (fun x hx => hx.1) ⟨x0, (h.lev x0).1 hx0'.1, hx0'.2⟩
 rw [e]; intro h; cases h
theorem ContainsCopy_iff (l : List GCopy) (v : GCopy) : sc_Contains_Copy l v = true ↔ v ∈ l := by
 have hc : ∀ x : GCopy, ([v.From, v.To] == [x.From, x.To]) = true ↔ x = v := fun x => by
  cases x; cases v; simp; exact ⟨fun h => ⟨h.1.symm, h.2.symm⟩, fun h => ⟨h.1.symm, h.2.symm⟩⟩
 unfold sc_Contains_Copy sc_Index_Copy
 rcases scan' (fun r i => sc_Index_Copy_L0 l v r i) (fun i => [v.From, v.To] == [(l.getD i.toNat default).From, (l.getD i.toNat default).To]) () (fun _ => rfl) (fun _ _ => rfl) ((((l.length : Nat) : Int) - 0).toNat) 0 with ⟨j, e, j1, j2, j3⟩ | ⟨e, h⟩
 ·try dsimp only at e
  rw [e]
  have := (hc _).1 j3
  exact ⟨fun _ => this ▸ getD_mem (by omega), fun _ => by simpa using j1⟩
 ·try dsimp only at e
  rw [e]
  refine ⟨fun h => by simp at h, fun hm => ?_⟩
  obtain ⟨j, j1, j2, e3⟩ := (mem_getDg (d := default)).1 hm
  have := h j j1 (by omega)
  rw [(hc _).2 e3] at this; cases this
theorem before_L1_mem (s : GSystem) (h : GHop) (m : Int) : ∀ (r : Nat) (out : List GHop) (v : Int) (x : GHop), 0 ≤ v → (x ∈ wt_before_L1 h m ((s.Transfers.getD m.toNat default).Kill).Width ((s.Transfers.getD m.toNat default).Kill).Words ((s.Transfers.getD m.toNat default).Copies) r out v ↔ x ∈ out ∨ (x.Node = m ∧ (v ≤ x.Bit ∧ x.Bit < v + r) ∧ r1_follows (Tr s m) x.Bit h.Bit = true))
 | 0, out, v, x, h0 => by
  rw [wt_before_L1]
  exact ⟨.inl, fun h => h.elim id fun h => absurd h.2.1 (by omega)⟩
 | r + 1, out, v, x, h0 => by
  have hf : r1_follows (Tr s m) v h.Bit = (bif (v == h.Bit) then (bif (!bt_Has ((s.Transfers.getD m.toNat default).Kill) v) then true else sc_Contains_Copy ((s.Transfers.getD m.toNat default).Copies) (GCopy.mk v h.Bit)) else sc_Contains_Copy ((s.Transfers.getD m.toNat default).Copies) (GCopy.mk v h.Bit)) := by
   rw [Bool.eq_iff_iff, follows_iff]
   have hcc : (∃ c ∈ (Tr s m).Copies, c.From = v ∧ c.To = h.Bit) ↔ sc_Contains_Copy ((s.Transfers.getD m.toNat default).Copies) (GCopy.mk v h.Bit) = true := by
    rw [ContainsCopy_iff]
    constructor
    ·rintro ⟨⟨a, b⟩, hc, rfl, rfl⟩; exact hc
    ·exact fun hc => ⟨_, hc, rfl, rfl⟩
   rw [hcc]
   unfold Tr
   by_cases e : v = h.Bit
   ·have e' : (v == h.Bit) = true := by simpa using e
    rw [e', cond_true, bHas_eq]
    cases r1_Has (s.Transfers.getD m.toNat default).Kill v <;> simp [e]
   ·have e' : (v == h.Bit) = false := by simpa using e
    rw [e', cond_false]; simp [e]
  have key : ∀ (o : List GHop), (x ∈ o ↔ x ∈ out ∨ (r1_follows (Tr s m) v h.Bit = true ∧ x = ⟨m, v⟩)) → (x ∈ wt_before_L1 h m ((s.Transfers.getD m.toNat default).Kill).Width ((s.Transfers.getD m.toNat default).Kill).Words ((s.Transfers.getD m.toNat default).Copies) r o (v + 1) ↔ x ∈ out ∨ (x.Node = m ∧ (v ≤ x.Bit ∧ x.Bit < v + ((r + 1 : Nat) : Int)) ∧ r1_follows (Tr s m) x.Bit h.Bit = true)) := fun o ho => by
   rw [before_L1_mem s h m r o (v + 1) x (by omega), ho]
   obtain ⟨xn, xb⟩ := x
   constructor
   ·rintro ((h | ⟨h1, h2⟩) | ⟨h1, h2, h3⟩)
    ·exact .inl h
    ·cases h2; exact .inr ⟨rfl, ⟨by dsimp only; omega, by dsimp only; omega⟩, h1⟩
    ·exact .inr ⟨h1, by dsimp only at h2 ⊢; omega, h3⟩
   ·rintro (h | ⟨h1, h2, h3⟩)
    ·exact .inl (.inl h)
    ·dsimp only at h1 h2 h3
     by_cases e : xb = v
     ·subst e; subst h1; exact .inl (.inr ⟨h3, rfl⟩)
     ·exact .inr ⟨h1, by dsimp only; omega, h3⟩
  rw [wt_before_L1]
  have hy : r1_follows (Tr s m) v h.Bit = true → (x ∈ out ++ [GHop.mk m v] ↔ x ∈ out ∨ (r1_follows (Tr s m) v h.Bit = true ∧ x = ⟨m, v⟩)) := fun e => by simp [e]
  have hn : r1_follows (Tr s m) v h.Bit = false → (x ∈ out ↔ x ∈ out ∨ (r1_follows (Tr s m) v h.Bit = true ∧ x = ⟨m, v⟩)) := fun e => by simp [e]
  cases e1 : (v == h.Bit) with
  | true =>
   rw [e1, cond_true] at hf
   simp only [cond_true]
   cases e2 : bt_Has ((s.Transfers.getD m.toNat default).Kill) v with
   | false =>
    rw [e2] at hf
    have e2' : bt_Has (GSet.mk ((s.Transfers.getD m.toNat default).Kill).Width ((s.Transfers.getD m.toNat default).Kill).Words) v = false := e2
    simp only [e2', Bool.not_false, cond_true]
    exact key _ (hy hf)
   | true =>
    rw [e2] at hf
    have e2' : bt_Has (GSet.mk ((s.Transfers.getD m.toNat default).Kill).Width ((s.Transfers.getD m.toNat default).Kill).Words) v = true := e2
    simp only [e2', Bool.not_true, cond_false]
    simp only [Bool.not_true, cond_false] at hf
    cases e3 : sc_Contains_Copy ((s.Transfers.getD m.toNat default).Copies) (GCopy.mk v h.Bit) with
    | true => exact key _ (hy (hf.trans e3))
    | false => exact key _ (hn (hf.trans e3))
  | false =>
   rw [e1, cond_false] at hf
   simp only [cond_false]
   cases e3 : sc_Contains_Copy ((s.Transfers.getD m.toNat default).Copies) (GCopy.mk v h.Bit) with
   | true => exact key _ (hy (hf.trans e3))
   | false => exact key _ (hn (hf.trans e3))
theorem before_L0_mem (s : GSystem) (h : GHop) : ∀ (r : Nat) (out : List GHop) (v : Int) (x : GHop), 0 ≤ v → (x ∈ wt_before_L0 s h r out v ↔ x ∈ out ∨ ((∃ j : Int, v ≤ j ∧ j < v + r ∧ (deps s h.Node).getD j.toNat 0 = x.Node) ∧ (0 ≤ x.Bit ∧ x.Bit < s.Width) ∧ r1_follows (Tr s x.Node) x.Bit h.Bit = true))
 | 0, out, v, x, h0 => by
  rw [wt_before_L0]
  exact ⟨.inl, fun h => h.elim id fun ⟨⟨j, a, b, _⟩, _⟩ => absurd a (by omega)⟩
 | r + 1, out, v, x, h0 => by
  rw [wt_before_L0]
  have := before_L1_mem s h ((s.Deps.getD (h.Node : Int).toNat []).getD (v : Int).toNat 0) (((s.Width : Int) - 0).toNat) out 0 x (by omega)
  try dsimp only
  rw [before_L0_mem s h r _ (v + 1) x (by omega), this]
  unfold deps
  constructor
  ·rintro ((h | ⟨h1, h2, h3⟩) | ⟨⟨j, a, b, c⟩, h2⟩)
   ·exact .inl h
   ·exact .inr ⟨⟨v, by omega, by omega, h1.symm⟩, by omega, h1 ▸ h3⟩
   ·exact .inr ⟨⟨j, by omega, by omega, c⟩, h2⟩
  ·rintro (h | ⟨⟨j, a, b, c⟩, h2, h3⟩)
   ·exact .inl (.inl h)
   ·by_cases e : j = v
    ·subst e; exact .inl (.inr ⟨c.symm, by omega, c ▸ h3⟩)
    ·exact .inr ⟨⟨j, by omega, by omega, c⟩, h2, h3⟩
theorem before_iff (s : GSystem) (h b : GHop) : b ∈ wt_before s h ↔ tfl s b h := by
 unfold wt_before
 have := before_L0_mem s h ((((((s.Deps.getD (h.Node : Int).toNat []).length : Nat) : Int) : Int) - 0).toNat) [] 0 b (by omega)
 try dsimp only
 rw [this]
 unfold tfl
 rw [mem_getD]
 constructor
 ·rintro (h | ⟨⟨j, a, b, c⟩, h2⟩)
  ·cases h
  ·exact ⟨⟨j, a, by unfold deps; omega, c⟩, h2⟩
 ·rintro ⟨⟨j, a, b, c⟩, h2⟩
  exact .inr ⟨⟨j, a, by unfold deps at b; omega, c⟩, h2⟩
theorem Find_L2_inv {next : List (GHop × List GHop)} (h0 h1 : Int) (v : List GHop) : ∀ (r : Nat) (found : List (GHop × List GHop)) (further : List GHop) (i : Int) (R : GHop → GHop → Prop), 0 ≤ i → i + r = (v.length : Int) → FInv next R found further →
  FInv next (fun y z => R y z ∨ (y = ⟨h0, h1⟩ ∧ ∃ j : Int, i ≤ j ∧ j < i + r ∧ v.getD j.toNat default = z)) (wt_Find_L2 next h0 h1 v r found further i).1 (wt_Find_L2 next h0 h1 v r found further i).2
 | 0, found, further, i, R, i0, i1, h => h.congr fun y z => ⟨.inl, fun h => h.elim id fun ⟨_, j, a, b, _⟩ => absurd a (by omega)⟩
 | r + 1, found, further, i, R, i0, i1, h => by
  have fin : ∀ f u, FInv next (fun y z => R y z ∨ (y = ⟨h0, h1⟩ ∧ z = v.getD i.toNat default)) f u → FInv next (fun y z => R y z ∨ (y = ⟨h0, h1⟩ ∧ ∃ j : Int, i ≤ j ∧ j < i + ((r + 1 : Nat) : Int) ∧ v.getD j.toNat default = z)) (wt_Find_L2 next h0 h1 v r f u (i + 1)).1 (wt_Find_L2 next h0 h1 v r f u (i + 1)).2 := fun f u hf =>
   (Find_L2_inv h0 h1 v r f u (i + 1) _ (by omega) (by omega) hf).congr fun y z => by
    constructor
    ·rintro ((a | ⟨a, b⟩) | ⟨a, j, b, c, d⟩)
     ·exact .inl a
     ·exact .inr ⟨a, i, by omega, by omega, b.symm⟩
     ·exact .inr ⟨a, j, by omega, by omega, d⟩
    ·rintro (a | ⟨a, j, b, c, d⟩)
     ·exact .inl (.inl a)
     ·by_cases e : j = i
      ·subst e; exact .inl (.inr ⟨a, d.symm⟩)
      ·exact .inr ⟨a, j, by omega, by omega, d⟩
  rw [wt_Find_L2]
  cases e1 : (mget next (v.getD (i : Int).toNat default)).isSome with
  | true => exact fin _ _ (h.old e1)
  | false =>
   simp only [cond_false]
   cases e2 : (mget found (v.getD (i : Int).toNat default)).isSome with
   | true =>
    simp only [cond_true, mset_mset]
    exact fin _ _ (h.new e1 (fun z => ⟨.inl, fun q => q.elim id fun q => by rw [q, h.fur]; exact e2⟩) h.fnd)
   | false =>
    simp only [cond_false, mset_mset]
    refine fin _ _ (h.new e1 (fun z => by simp) (List.nodup_append.2 ⟨h.fnd, by simp, fun a ha c hc e => ?_⟩))
    rw [List.mem_singleton] at hc
    have := (h.fur a).1 ha
    rw [e, hc, e2] at this; cases this
theorem L3_get {d : List (GHop × List GHop)} (h : (d.map (·.1)).Nodup) (n : List (GHop × List GHop)) (x : GHop) : mget (wt_Find_L3 d n) x = (mget d x).or (mget n x) := mrange_get (f := wt_Find_L3) (fun _ => rfl) (fun _ _ _ => rfl) h n x
theorem L3_len : ∀ (d n : List (GHop × List GHop)), n.length ≤ (wt_Find_L3 d n).length
 | [], n => Nat.le_refl _
 | e :: d, n => by
  rw [wt_Find_L3]
  exact Nat.le_trans (mset_len n e.1 e.2).1 (L3_len d _)
theorem L3_len1 {d n : List (GHop × List GHop)} (h : d ≠ []) (hk : ∀ e ∈ d, e.1 ∉ n.map (·.1)) : n.length + 1 ≤ (wt_Find_L3 d n).length := by
 cases d with
 | nil => exact absurd rfl h
 | cons e d =>
  rw [wt_Find_L3]
  have := (mset_len n e.1 e.2).2 (hk e (by simp))
  have := L3_len d (mset n e.1 e.2)
  omega
theorem BInv_step {s : GSystem} {last : GHop} {k : Nat} {next : List (GHop × List GHop)} {level : List GHop} (h : BInv s last k next level) {found : List (GHop × List GHop)} {further : List GHop} (hf : FInv next (fun y z => y ∈ level ∧ tfl s z y) found further) (hn : further ≠ []) (ho : ∀ x ∈ level, wt_origin s x = false) : BInv s last (k + 1) (wt_Find_L3 found next) further := by
 have hD : ∀ x, (mget found x).isSome = true ↔ Dst s last (k + 1) x := fun x => by
  rw [hf.iso]
  constructor
  ·rintro ⟨⟨y, hy, ht⟩, hx⟩
   have hd := (h.lev y).1 hy
   refine ⟨⟨y, hd.1, ht⟩, fun j hj hp => ?_⟩
   have := (h.key x).2 ⟨j, by omega, hp⟩
   rw [hx] at this; cases this
  ·intro hd
   obtain ⟨y, a, b⟩ := Dst_pred hd
   refine ⟨⟨y, (h.lev y).2 a, b⟩, ?_⟩
   cases e : (mget next x).isSome with
   | false => rfl
   | true =>
    obtain ⟨j, hj, hp⟩ := (h.key x).1 e
    exact absurd hp (hd.2 j (by omega))
 have hget := L3_get hf.nd next
 have hold : ∀ x, (∃ j, j ≤ k ∧ Pth s last j x) → mget (wt_Find_L3 found next) x = mget next x := fun x hx => by
  rw [hget]
  cases e : mget found x with
  | none => simp
  | some v =>
   have := (hD x).1 (by rw [e]; rfl)
   obtain ⟨j, hj, hp⟩ := hx
   exact absurd hp (this.2 j (by omega))
 refine ⟨fun x => (hf.fur x).trans (hD x), fun x => ?_, ?_, fun j x hj hd y => ?_, fun j x hj hd => ?_, (mrange_nd (f := wt_Find_L3) (fun _ => rfl) (fun _ _ _ => rfl) _ _).2 h.nd, ?_, hf.fnd⟩
 ·rw [hget]
  constructor
  ·intro hs
   cases e : mget found x with
   | some v => exact ⟨k + 1, Nat.le_refl _, ((hD x).1 (by rw [e]; rfl)).1⟩
   | none =>
    rw [e, Option.none_or] at hs
    obtain ⟨j, a, b⟩ := (h.key x).1 hs
    exact ⟨j, by omega, b⟩
  ·rintro ⟨j, a, b⟩
   obtain ⟨i, c, d⟩ := Dst_min b
   by_cases c2 : i = k + 1
   ·subst c2
    have := (hD x).2 d
    cases e : mget found x with
    | some v => rfl
    | none => rw [e] at this; cases this
   ·have := (h.key x).2 ⟨i, by omega, d.1⟩
    cases e : mget found x with
    | some v => rfl
    | none => rw [Option.none_or]; exact this
 ·rw [hold last ⟨0, by omega, rfl⟩]; exact h.zero
 ·by_cases c : j + 1 ≤ k
  ·rw [hold x ⟨j + 1, c, hd.1⟩]; exact h.val j x c hd y
  ·have : j = k := by omega
   subst this
   have hs := (hD x).2 hd
   have hv := hf.val x y
   rw [hget]
   cases e : mget found x with
   | none => rw [e] at hs; cases hs
   | some v =>
    rw [e] at hv
    rw [Option.some_or, hv, h.lev]
    have hnx := ((hf.iso x).1 hs).2
    exact ⟨fun q => q.1, fun q => ⟨q, hnx⟩⟩
 ·by_cases c : j < k
  ·exact h.noo j x c hd
  ·have : j = k := by omega
   subst this
   exact ho x ((h.lev x).2 hd)
 ·have hfn : found ≠ [] := by
   obtain ⟨x, hx⟩ := List.exists_mem_of_ne_nil _ hn
   have := (hf.fur x).1 hx
   rintro rfl
   cases this
  have := L3_len1 hfn fun e he hk => by
   have h1 := isSome_mem.2 (List.mem_map_of_mem (f := (·.1)) he)
   have h2 := ((hf.iso e.1).1 h1).2
   rw [isSome_mem.2 hk] at h2; cases h2
  have := h.cnt
  omega
theorem Find_L1_inv {s : GSystem} {next : List (GHop × List GHop)} (lv : List GHop) : ∀ (r : Nat) (found : List (GHop × List GHop)) (further : List GHop) (i : Int) (R : GHop → GHop → Prop), 0 ≤ i → i + r = (lv.length : Int) → FInv next R found further →
  FInv next (fun y z => R y z ∨ (tfl s z y ∧ ∃ j : Int, i ≤ j ∧ j < i + r ∧ lv.getD j.toNat default = y)) (wt_Find_L1 s next lv r found further i).1 (wt_Find_L1 s next lv r found further i).2
 | 0, found, further, i, R, i0, i1, h => h.congr fun y z => ⟨.inl, fun h => h.elim id fun ⟨_, j, a, b, _⟩ => absurd a (by omega)⟩
 | r + 1, found, further, i, R, i0, i1, h => by
  have q := Find_L2_inv ((lv.getD (i : Int).toNat default).Node) ((lv.getD (i : Int).toNat default).Bit) (wt_before s (lv.getD (i : Int).toNat default)) (((((wt_before s (lv.getD (i : Int).toNat default)).length : Nat) : Int) - 0).toNat) found further 0 R (by omega) (by omega) h
  rw [wt_Find_L1]
  refine (Find_L1_inv lv r _ _ (i + 1) _ (by omega) (by omega) q).congr fun y z => ?_
  have hb : (∃ j : Int, 0 ≤ j ∧ j < 0 + ((((((wt_before s (lv.getD (i : Int).toNat default)).length : Nat) : Int) - 0).toNat : Nat) : Int) ∧ (wt_before s (lv.getD (i : Int).toNat default)).getD j.toNat default = z) ↔ tfl s z (lv.getD (i : Int).toNat default) := by
   rw [← before_iff, mem_getDg (d := default)]
   exact ⟨fun ⟨j, a, b, c⟩ => ⟨j, a, by omega, c⟩, fun ⟨j, a, b, c⟩ => ⟨j, a, by omega, c⟩⟩
  rw [hb]
  have he : (⟨(lv.getD (i : Int).toNat default).Node, (lv.getD (i : Int).toNat default).Bit⟩ : GHop) = lv.getD (i : Int).toNat default := rfl
  rw [he]
  constructor
  ·rintro ((a | ⟨a, b⟩) | ⟨a, j, b, c, d⟩)
   ·exact .inl a
   ·subst a; exact .inr ⟨b, i, by omega, by omega, rfl⟩
   ·exact .inr ⟨a, j, by omega, by omega, d⟩
  ·rintro (a | ⟨a, j, b, c, d⟩)
   ·exact .inl (.inl a)
   ·by_cases e : j = i
    ·subst e; subst d; exact .inl (.inr ⟨rfl, a⟩)
    ·exact .inr ⟨a, j, by omega, by omega, d⟩
theorem Find_round {s : GSystem} {next : List (GHop × List GHop)} {lv : List GHop} {o : List (GHop × List GHop) × List GHop} (e : wt_Find_L1 s next lv (((((lv.length : Nat) : Int) : Int) - 0).toNat) [] [] 0 = o) : FInv next (fun y z => y ∈ lv ∧ tfl s z y) o.1 o.2 := by
 rw [← e]
 refine (Find_L1_inv lv _ [] [] 0 _ (by omega) (by omega) (FInv.nil next)).congr fun y z => ?_
 rw [mem_getDg (d := default)]
 constructor
 ·rintro (a | ⟨a, j, b, c, d⟩)
  ·exact a.elim
  ·exact ⟨⟨j, b, by omega, d⟩, a⟩
 ·rintro ⟨⟨j, b, c, d⟩, a⟩
  exact .inr ⟨a, j, b, by omega, d⟩
theorem Find_L0_spec {s : GSystem} (hv : VSys s) {last : GHop} (hl : HopR s last) : ∀ (r k : Nat) (next : List (GHop × List GHop)) (level : List GHop), BInv s last k next level → (s.Deps.length : Int) * s.Width + 1 ≤ (next.length : Int) + r → ∃ res, wt_Find_L0 s r next level = .ret res ∧ FRes s last res
 | 0, k, next, level, h, hr => by
  have := BInv_max hv hl h
  omega
 | r + 1, k, next, level, h, hr => by
  have hst := starts_mem s level
  have hmax := BInv_max hv hl h
  have hcnt := h.cnt
  rw [wt_Find_L0]
  dsimp only
  generalize sc_DeleteFunc_Hop (sc_Clone_Hop level) (fun x => wt_Find_1 x s) = st at hst ⊢
  by_cases c : st = []
  ·subst c
   have ho : ∀ x ∈ level, wt_origin s x = false := fun x hx => by
    cases e : wt_origin s x with
    | false => rfl
    | true => cases (hst x).2 ⟨hx, e⟩
   have hf := Find_round (s := s) (next := next) (lv := level) rfl
   rw [decide_eq_false (by simp), cond_false]
   generalize wt_Find_L1 s next level (((((level.length : Nat) : Int) : Int) - 0).toNat) [] [] 0 = o at hf ⊢
   obtain ⟨o1, o2⟩ := o
   dsimp only at hf ⊢
   by_cases d : o2 = []
   ·subst d
    exact ⟨_, rfl, .inr ⟨rfl, BInv_end h hf ho⟩⟩
   ·have e2 : (((o2.length : Nat) : Int) == 0) = false := by
     have := List.length_pos_iff.2 d
     simp; omega
    rw [e2, cond_false]
    have hs := BInv_step h hf d ho
    have hn1 : next.length + 1 ≤ (wt_Find_L3 o1 next).length := by
     have hfn : o1 ≠ [] := by
      obtain ⟨x, hx⟩ := List.exists_mem_of_ne_nil _ d
      have := (hf.fur x).1 hx
      rintro rfl
      cases this
     exact L3_len1 hfn fun e he hk => by
      have h1 := isSome_mem.2 (List.mem_map_of_mem (f := (·.1)) he)
      have h2 := ((hf.iso e.1).1 h1).2
      rw [isSome_mem.2 hk] at h2; cases h2
    exact Find_L0_spec hv hl r (k + 1) _ _ hs (by omega)
  ·have hpos := List.length_pos_iff.2 c
   obtain ⟨x0, hx0⟩ := List.exists_mem_of_ne_nil _ c
   have hx0' := (hst x0).1 hx0
   obtain ⟨p, e, g⟩ := first_spec h k (((next.length : Nat)) + 2) st [] (fun x => Dst s last k x ∧ wt_origin s x = true) (by omega) (Nat.le_refl _) (fun x => by rw [hst, h.lev]) (fun x hx => hx.1) ⟨x0, (h.lev x0).1 hx0'.1, hx0'.2⟩
   rw [decide_eq_true (by omega), cond_true]
   unfold wt_first
   rw [e]
   exact ⟨_, rfl, .inl ⟨k, p, rfl, g, h.noo, ⟨x0, (h.lev x0).1 hx0'.1, hx0'.2⟩, by omega⟩⟩
theorem Find_spec {s : GSystem} {n b : Int} (h : wt_arguments s n b = 0) : FRes s ⟨n, b⟩ (wt_Find s n b) := by
 obtain ⟨hv, hn, hb⟩ := (wargs_iff s n b).1 h
 have hbw : ((s.Deps.length * s.Width.toNat : Nat) : Int) = (s.Deps.length : Int) * s.Width := by
  have := hv.w.1
  rw [Int.natCast_mul, Int.toNat_of_nonneg this]
 obtain ⟨res, e, hr⟩ := Find_L0_spec hv (last := ⟨n, b⟩) ⟨hn, hb⟩ ((s.Deps.length * s.Width.toNat : Nat) + 2) 0 _ _ (BInv_0 s ⟨n, b⟩) (by omega)
 have e' : (wt_arguments s n b != 0) = false := by simpa using h
 unfold wt_Find
 simp only [e', cond_false]
 rw [e]
 exact hr
theorem Find_t {s : GSystem} {n b : Int} (hv : VSys s) (hn : 0 ≤ n ∧ n < (s.Deps.length : Int)) (hb : 0 ≤ b ∧ b < s.Width) : wt_Find_L0 s ((s.Deps.length * s.Width.toNat : Nat) + 2) (mset ([] : List (GHop × List GHop)) (GHop.mk n b) ([] : List GHop)) [(GHop.mk n b)] ≠ .oof := by
 have hbw : ((s.Deps.length * s.Width.toNat : Nat) : Int) = (s.Deps.length : Int) * s.Width := by
  have := hv.w.1
  rw [Int.natCast_mul, Int.toNat_of_nonneg this]
 obtain ⟨res, e, hr⟩ := Find_L0_spec hv (last := ⟨n, b⟩) ⟨hn, hb⟩ ((s.Deps.length * s.Width.toNat : Nat) + 2) 0 _ _ (BInv_0 s ⟨n, b⟩) (by omega)
 rw [e]; intro h; cases h
theorem Find_step {s : GSystem} {last : GHop} {next : List (GHop × List GHop)} {level cl st : List GHop} (h : ∃ k, BInv s last k next level) (hc : sc_Clone_Hop level = cl) (hs : sc_DeleteFunc_Hop cl (fun x => wt_Find_1 x s) = st) (hp : ¬ 0 < ((st.length : Nat) : Int)) {found : List (GHop × List GHop)} {further : List GHop}
  (hf : wt_Find_L1 s next level (((((level.length : Nat) : Int) : Int) - 0).toNat) [] [] 0 = (found, further)) (hn : ¬ ((further.length : Nat) : Int) = 0) {nx : List (GHop × List GHop)} (h3 : wt_Find_L3 found next = nx) : ∃ k, BInv s last k nx further := by
 subst hc
 obtain ⟨k, h⟩ := h
 have hst := starts_mem s level
 rw [hs] at hst
 have hse : st = [] := List.length_eq_zero_iff.1 (by omega)
 subst hse
 have ho : ∀ x ∈ level, wt_origin s x = false := fun x hx => by
  cases e : wt_origin s x with
  | false => rfl
  | true => cases (hst x).2 ⟨hx, e⟩
 rw [← h3]
 exact ⟨k + 1, BInv_step h (Find_round hf) (fun e => hn (by rw [e]; rfl)) ho⟩
theorem Absent_spec {s : GSystem} {n b : Int} (h : wt_arguments s n b = 0) {u : List GSet} {k : Int} (e : fx_Solve s = (u, k, 0)) : wt_Absent s n b = bif r1_Has (vat u n) b then ([], false, 0) else (u, true, 0) := by
 have e' : (wt_arguments s n b != 0) = false := by simpa using h
 unfold wt_Absent
 simp only [e', cond_false, e, bHas_eq]
 rfl
theorem Contains_iff (l : List Int) (n : Int) : sc_Contains_int l n = true ↔ n ∈ l := by
 have := scan' (fun r i => sc_Index_int_L0 l n r i) (fun i => n == l.getD i.toNat 0) () (fun _ => rfl) (fun _ _ => rfl) ((((l.length : Nat) : Int) - 0).toNat) 0
 unfold sc_Contains_int sc_Index_int
 rw [mem_getD]
 rcases this with ⟨j, e, j1, j2, j3⟩ | ⟨e, h⟩
 ·rw [e]
  exact ⟨fun _ => ⟨j, j1, by omega, (eq_of_beq j3).symm⟩, fun _ => by simpa using j1⟩
 ·rw [e]
  refine ⟨fun h => by simp at h, ?_⟩
  rintro ⟨j, j1, j2, j3⟩
  have := h j j1 (by omega)
  simp only [j3] at this; simp at this
theorem IndexFuncC_any (s : List GCopy) (fp : GCopy → Bool) : sc_ContainsFunc_Copy s fp = true ↔ ∃ x ∈ s, fp x = true := by
 have := scan' (fun r i => sc_IndexFunc_Copy_L0 s fp r i) (fun i => fp (s.getD i.toNat default)) () (fun _ => rfl) (fun _ _ => rfl) ((((s.length : Nat) : Int) - 0).toNat) 0
 unfold sc_ContainsFunc_Copy sc_IndexFunc_Copy
 rcases this with ⟨j, e, j1, j2, j3⟩ | ⟨e, h⟩
 ·rw [e]
  exact ⟨fun _ => ⟨_, getD_mem (by omega), j3⟩, fun _ => by simpa using j1⟩
 ·rw [e]
  refine ⟨fun h => by simp at h, ?_⟩
  rintro ⟨x, hx, hf⟩
  obtain ⟨j, j1, j2, rfl⟩ := (mem_getDg (d := default)).1 hx
  rw [h j j1 (by omega)] at hf; cases hf
theorem copied_iff (t : GTransfer) (a b : Int) : tf_copied t (GCopy.mk a b) = true ↔ ∃ c ∈ t.Copies, c.From = a ∧ c.To = b := by
 unfold tf_copied
 rw [IndexFuncC_any]
 simp [tf_copied_1]
theorem tfollows_iff (t : GTransfer) (a b : Int) : tf_follows t a b = true ↔ (a = b ∧ r1_Has t.Kill a = false) ∨ ∃ c ∈ t.Copies, c.From = a ∧ c.To = b := by
 unfold tf_follows
 rw [← copied_iff]
 by_cases h : a = b
 ·subst h
  simp only [beq_self_eq_true, cond_true, bHas_eq]
  cases e : r1_Has t.Kill a <;> simp
 ·have : (a == b) = false := by simpa using h
  simp [this, h]
theorem tfollows_eq (t : GTransfer) (a b : Int) : tf_follows t a b = r1_follows t a b := by
 rw [Bool.eq_iff_iff, tfollows_iff, follows_iff]
def hopOK (s : GSystem) (l : List GHop) (j : Int) : Prop := wt_arguments s (hopAt l j).Node (hopAt l j).Bit = 0 ∧ (j = 0 → wt_origin s (hopAt l j) = true) ∧
 (0 < j → sc_Contains_int (deps s (hopAt l j).Node) (hopAt l (j - 1)).Node = true ∧ tf_Follows (Tr s (hopAt l (j - 1)).Node) (hopAt l (j - 1)).Bit (hopAt l j).Bit = true)
theorem wFollows {t : GTransfer} {a b : Int} (h : tf_Follows t a b = true) : r1_follows t a b = true := by
 unfold tf_Follows at h
 rw [← tfollows_eq]
 cases e1 : tf_Valid t <;> simp only [e1, cond_true, cond_false] at h
 ·cases h
 cases e2 : tf_bit t a <;> simp only [e2, cond_true, cond_false] at h
 ·cases h
 cases e3 : tf_bit t b <;> simp only [e3, cond_true, cond_false] at h
 ·cases h
 exact h
theorem wCheck_L0_or (s : GSystem) (l : List GHop) : ∀ (m : Nat) (i : Int), 0 ≤ i → (wt_Check_L0 s l m i = .brk () ∧ ∀ j, i ≤ j → j < i + m → hopOK s l j) ∨ (wt_Check_L0 s l m i = .ret false ∧ ¬ (∀ j, i ≤ j → j < i + m → hopOK s l j))
 | 0, i, _ => .inl ⟨rfl, fun j a b => by omega⟩
 | m + 1, i, hi => by
  by_cases hk : hopOK s l i
  ·have e : wt_Check_L0 s l (m + 1) i = wt_Check_L0 s l m (i + 1) := by
    obtain ⟨k1, k2, k3⟩ := hk
    unfold hopAt at k1 k2 k3
    rw [wt_Check_L0]
    by_cases c : i = 0
    ·subst c
     have := k2 rfl
     have k1' : (wt_arguments s (l.getD (0 : Int).toNat default).Node (l.getD (0 : Int).toNat default).Bit != 0) = false := by rw [k1]; rfl
     simp only [k1', this, show decide ((0 : Int) < 0) = false from rfl, cs4, beq_self_eq_true]
    ·have c1 : (i == 0) = false := by simpa using c
     have c2 : 0 < i := by omega
     obtain ⟨a, b⟩ := k3 c2
     unfold deps at a
     unfold Tr at b
     have k1' : (wt_arguments s (l.getD i.toNat default).Node (l.getD i.toNat default).Bit != 0) = false := by rw [k1]; rfl
     simp only [k1', c1, decide_eq_true c2, a, b, cs4, beq_self_eq_true]
   rw [e]
   rcases wCheck_L0_or s l m (i + 1) (by omega) with ⟨a, b⟩ | ⟨a, b⟩
   ·refine .inl ⟨a, fun j j1 j2 => ?_⟩
    by_cases c : j = i
    ·subst c; exact hk
    ·exact b j (by omega) (by omega)
   ·exact .inr ⟨a, fun g => b fun j j1 j2 => g j (by omega) (by omega)⟩
  ·refine .inr ⟨?_, fun g => hk (g i (by omega) (by omega))⟩
   rw [wt_Check_L0]
   by_cases e1 : wt_arguments s (l.getD i.toNat default).Node (l.getD i.toNat default).Bit = 0
   ·have k1' : (wt_arguments s (l.getD i.toNat default).Node (l.getD i.toNat default).Bit != 0) = false := by rw [e1]; rfl
    by_cases c : i = 0
    ·subst c
     cases e2 : wt_origin s (l.getD (0 : Int).toNat default) with
     | false => simp only [k1', e2, cs4, beq_self_eq_true]
     | true => exact absurd ⟨e1, fun _ => e2, fun h => by omega⟩ hk
    ·have c1 : (i == 0) = false := by simpa using c
     have c2 : 0 < i := by omega
     cases e3 : sc_Contains_int (s.Deps.getD (l.getD i.toNat default).Node.toNat []) (l.getD (i - 1).toNat default).Node with
     | false => simp only [k1', c1, decide_eq_true c2, e3, cs4, beq_self_eq_true]
     | true =>
      cases e4 : tf_Follows (s.Transfers.getD (l.getD (i - 1).toNat default).Node.toNat default) (l.getD (i - 1).toNat default).Bit (l.getD i.toNat default).Bit with
      | false => simp only [k1', c1, decide_eq_true c2, e3, e4, cs4, beq_self_eq_true]
      | true => exact absurd ⟨e1, fun h => absurd h c, fun _ => ⟨e3, e4⟩⟩ hk
   ·have : (wt_arguments s (l.getD i.toNat default).Node (l.getD i.toNat default).Bit != 0) = true := by simpa using e1
    simp only [this, cond_true]
theorem wCheck_iff (s : GSystem) (n b : Int) (l : List GHop) : wt_Check s n b l = true ↔ wt_arguments s n b = 0 ∧ l ≠ [] ∧ (hopAt l ((l.length : Int) - 1) = ⟨n, b⟩) ∧ ∀ j, 0 ≤ j → j < (l.length : Int) → hopOK s l j := by
 unfold wt_Check
 by_cases e1 : wt_arguments s n b = 0
 ·have e1' : (wt_arguments s n b != 0) = false := by simpa using e1
  simp only [e1', cond_false]
  by_cases e2 : l = []
  ·subst e2; simp
  ·have e2' : (((l.length : Nat) : Int) == 0) = false := by simpa using e2
   simp only [e2', cond_false]
   have e3 : ([(l.getD ((((l.length : Nat) : Int) - 1) : Int).toNat default).Node, (l.getD ((((l.length : Nat) : Int) - 1) : Int).toNat default).Bit] != [n, b]) = false ↔ hopAt l ((l.length : Int) - 1) = ⟨n, b⟩ := by
    unfold hopAt
    generalize l.getD ((((l.length : Nat) : Int) - 1) : Int).toNat default = h
    cases h; simp
   cases e4 : ([(l.getD ((((l.length : Nat) : Int) - 1) : Int).toNat default).Node, (l.getD ((((l.length : Nat) : Int) - 1) : Int).toNat default).Bit] != [n, b]) with
   | true => rw [e4] at e3; simp at e3; simp [e3]
   | false =>
    have e5 := e3.1 e4
    simp only [cond_false]
    rcases wCheck_L0_or s l ((((l.length : Nat) : Int) - 0).toNat) 0 (by omega) with ⟨a, h⟩ | ⟨a, h⟩
    ·rw [a]
     exact ⟨fun _ => ⟨e1, e2, e5, fun j j0 j1 => h j j0 (by omega)⟩, fun _ => rfl⟩
    ·rw [a]
     exact ⟨fun g => absurd g (by decide), fun g => absurd (fun j j0 j1 => g.2.2.2 j j0 (by omega)) h⟩
 ·have e1' : (wt_arguments s n b != 0) = true := by simpa using e1
  simp [e1', e1]
theorem wCheck_sound {s : GSystem} (hv : VSys s) {u : List GSet} (hu : VVals s u) (hf : Fv s u = u) {n b : Int} {l : List GHop} (h : wt_Check s n b l = true) : r1_Has (vat u n) b = true := by
 obtain ⟨h1, h2, h3, h4⟩ := (wCheck_iff s n b l).1 h
 have key : ∀ k : Nat, k < l.length → r1_Has (vat u (hopAt l k).Node) (hopAt l k).Bit = true := by
  intro k
  induction k with
  | zero =>
   intro hk
   obtain ⟨a1, a2, _⟩ := h4 0 (by omega) (by omega)
   have a1 := (wargs_iff _ _ _).1 a1
   refine (fix_iff hv hu hf a1.2.1.1 a1.2.1.2 _).2 ?_
   rcases (origin_iff _ _).1 (a2 rfl) with e | ⟨m, hm, e⟩
   ·exact .inl e
   ·exact .inr ⟨m, hm, .inl e⟩
  | succ k ih =>
   intro hk
   obtain ⟨a1, _, a3⟩ := h4 ((k + 1 : Nat) : Int) (by omega) (by omega)
   have a1 := (wargs_iff _ _ _).1 a1
   obtain ⟨c1, c2⟩ := a3 (by omega)
   rw [show (((k + 1 : Nat) : Int) - 1) = (k : Int) by omega] at c1 c2
   refine (fix_iff hv hu hf a1.2.1.1 a1.2.1.2 _).2 (.inr ⟨_, (Contains_iff _ _).1 c1, .inr ⟨_, ih (by omega), a1.2.2.1, a1.2.2.2, wFollows c2⟩⟩)
 have hl : 0 < l.length := List.length_pos_iff.2 h2
 have := key (l.length - 1) (by omega)
 rw [show ((l.length - 1 : Nat) : Int) = (l.length : Int) - 1 by omega, h3] at this
 exact this
theorem ways_ok {s : GSystem} {n b : Int} (h : wt_arguments s n b = 0) {k : Nat} {p : List GHop} (g : GP s ⟨n, b⟩ k (fun x => Dst s ⟨n, b⟩ k x ∧ wt_origin s x = true) p) : p.length = k + 1 ∧ wt_Check s n b p = true := by
 obtain ⟨hv, hn, hb⟩ := (wargs_iff s n b).1 h
 have hr : HopR s ⟨n, b⟩ := ⟨hn, hb⟩
 obtain ⟨q1, q2, q3, q4⟩ := GP_facts k _ p (fun x hx => hx.1) g
 refine ⟨q1, (wCheck_iff s n b p).2 ⟨h, fun e => by rw [e] at q1; simp at q1, ?_, fun j j0 j1 => ?_⟩⟩
 ·have := q3 k (Nat.le_refl _)
  rw [Nat.sub_self] at this
  unfold hopAt
  rw [show ((p.length : Int) - 1).toNat = k by omega]
  exact this.1
 ·have hj : hopAt p j = p.getD j.toNat default := rfl
  have hjr := Pth_rng hv hr (q3 j.toNat (by omega)).1
  refine ⟨(wargs_iff _ _ _).2 ⟨hv, by rw [hj]; exact hjr.1, by rw [hj]; exact hjr.2⟩, ?_, fun j2 => ?_⟩
  ·rintro rfl
   exact q2.2
  ·have ht := q4 (j - 1).toNat (by omega)
   rw [show (j - 1).toNat + 1 = j.toNat by omega] at ht
   have hpr := Pth_rng hv hr (q3 (j - 1).toNat (by omega)).1
   refine ⟨(Contains_iff _ _).2 ht.1, ?_⟩
   have htr := VSys_trV hv hpr.1.1 hpr.1.2
   have hb1 := hpr.2; have hb2 := hjr.2
   unfold tf_Follows Tr
   unfold hopAt
   rw [transferValid_eq, htr.1]
   have w2 := htr.2
   have tb : ∀ x, 0 ≤ x → x < s.Width → tf_bit (s.Transfers.getD (p.getD (j - 1).toNat default).Node.toNat default) x = true := fun x a c => by
    unfold tf_bit
    rw [decide_eq_true a, cond_true, decide_eq_true (by omega)]
   rw [tb _ hb1.1 hb1.2, tb _ hb2.1 hb2.2, tfollows_eq]
   exact ht.2.2
theorem pop_eq (x : BitVec 64) : bits_OnesCount64 x = ((sumN (bl 64 x.toNat) : Nat) : Int) := by
 unfold bits_OnesCount64
 dsimp only
 obtain ⟨h1, h2⟩ := pop_steps (x := x) rfl rfl rfl rfl rfl rfl
 rw [iand127 h2, h1]
theorem pop_zero (x : BitVec 64) : bits_OnesCount64 x = 0 ↔ x = 0#64 := by
 rw [pop_eq]
 have := sumN_bl_zero 64 x.toNat x.isLt
 constructor
 ·intro h
  exact BitVec.eq_of_toNat_eq (this.1 (by omega))
 ·rintro rfl
  have h := this.2 rfl
  omega
theorem pop_rng (x : BitVec 64) : 0 ≤ bits_OnesCount64 x ∧ bits_OnesCount64 x ≤ 64 := by
 rw [pop_eq]
 have := sumN_bl_le 64 x.toNat
 omega
theorem Count_L0_zero (s : GSet) : ∀ (m : Nat) (n i : Int), 0 ≤ n → n ≤ bt_Count_L0 s m n i ∧ (bt_Count_L0 s m n i = 0 → n = 0 ∧ ∀ j, i ≤ j → j < i + m → s.Words.getD j.toNat 0#64 = 0#64)
 | 0, n, i, hn => ⟨by rw [bt_Count_L0]; omega, fun h => ⟨by rw [bt_Count_L0] at h; exact h, fun j a b => by omega⟩⟩
 | m + 1, n, i, hn => by
  rw [bt_Count_L0]
  have hr := pop_rng (s.Words.getD i.toNat 0#64)
  obtain ⟨a, b⟩ := Count_L0_zero s m (n + bits_OnesCount64 (s.Words.getD i.toNat 0#64)) (i + 1) (by omega)
  refine ⟨by omega, fun h => ?_⟩
  obtain ⟨c, d⟩ := b h
  refine ⟨by omega, fun j j0 j1 => ?_⟩
  by_cases e : j = i
  ·subst e; exact (pop_zero _).1 (by omega)
  ·exact d j (by omega) (by omega)
theorem Count_zeros (s : GSet) (h : ∀ j : Int, s.Words.getD j.toNat 0#64 = 0#64) : ∀ (m : Nat) (n i : Int), bt_Count_L0 s m n i = n
 | 0, n, i => rfl
 | m + 1, n, i => by
  rw [bt_Count_L0, h i, (pop_zero 0#64).2 rfl, Int.add_zero]
  exact Count_zeros s h m n (i + 1)
theorem Count_zero {w : Int} {s : GSet} (hs : VSt w s) (h : bt_Count s = 0) (x : Int) : r1_Has s x = false := by
 unfold bt_Count at h
 simp only [VSt_pvalid hs, cond_true] at h
 have hz := ((Count_L0_zero s ((((s.Words.length : Nat) : Int) - 0).toNat) 0 0 (by omega)).2 h).2
 rw [Has_eq hs]
 by_cases h0 : 0 ≤ x
 ·have : bitAt s.Words x = false := by
   unfold bitAt
   have : s.Words.getD (x / 64).toNat 0#64 = 0#64 := by
    by_cases c : (x / 64).toNat < s.Words.length
    ·have := hz (x / 64) (by omega) (by omega)
     exact this
    ·simp [List.getD, List.getElem?_eq_none (Nat.le_of_not_lt c)]
   rw [this]; simp
  simp [this]
 ·simp [h0]
theorem bSubset_sub {w : Int} {a b : GSet} (ha : VSt w a) (hb : VSt w b) (h : bt_Subset a b = true) : SSub a b := by
 obtain ⟨r, e, hr, hh⟩ := bDiff_spec ha hb
 unfold bt_Subset at h
 simp only [e, beq_self_eq_true, cond_true, beq_iff_eq] at h
 intro x hx
 have := Count_zero hr h x
 rw [hh, hx] at this
 simpa using this
theorem bSubset_iff {w : Int} {a b : GSet} (ha : VSt w a) (hb : VSt w b) : bt_Subset a b = true ↔ SSub a b := by
 refine ⟨bSubset_sub ha hb, fun h => ?_⟩
 obtain ⟨r, e, hr, hh⟩ := bDiff_spec ha hb
 have hw := VSt_w hr
 have hE : VSt w (r1_Empty w) := Empty_V hw.1 hw.2.1
 have hre : r = r1_Empty w := set_ext hr hE fun x _ _ => by
  rw [hh, Empty_has hw.1 hw.2.1]
  cases c : r1_Has a x with
  | false => rfl
  | true => rw [h x c]; rfl
 unfold bt_Subset
 simp only [e, beq_self_eq_true, cond_true, beq_iff_eq]
 unfold bt_Count
 simp only [VSt_pvalid hr, cond_true]
 refine Count_zeros r (fun j => ?_) _ _ _
 rw [hre]
 unfold r1_Empty
 simp [List.getD, List.getElem?_replicate]
 split <;> rfl
theorem isAbove_L0 (v nx : List GSet) : ∀ (m : Nat) (i : Int), (fx_IsAbove_L0 v nx m i = .brk () ∧ ∀ j, i ≤ j → j < i + m → bt_Subset (vat nx j) (vat v j) = true) ∨ fx_IsAbove_L0 v nx m i = .ret false
 | 0, i => .inl ⟨rfl, fun j a b => by omega⟩
 | m + 1, i => by
  rw [fx_IsAbove_L0]
  cases e : bt_Subset (nx.getD i.toNat default) (v.getD i.toNat default) with
  | false => exact .inr rfl
  | true =>
   simp only [Bool.not_true, cond_false]
   rcases isAbove_L0 v nx m (i + 1) with ⟨a, b⟩ | a
   ·refine .inl ⟨a, fun j j1 j2 => ?_⟩
    by_cases c : j = i
    ·subst c; exact e
    ·exact b j (by omega) (by omega)
   ·exact .inr a
theorem isAbove_len {s : GSystem} {v : List GSet} (h : fx_IsAbove s v = true) : v.length = s.Boundary.length := by
 unfold fx_IsAbove at h
 cases e : ((fx_Next s v).2 != 0) with
 | true => simp only [e, cond_true] at h; cases h
 | false => exact (pNext_ok rfl e).2.1.1
theorem isAbove_sound {s : GSystem} {v : List GSet} (h : fx_IsAbove s v = true) : VSys s ∧ VVals s v ∧ Le s (Fv s v) v := by
 unfold fx_IsAbove at h
 cases e : ((fx_Next s v).2 != 0) with
 | true => simp only [e, cond_true] at h; cases h
 | false =>
  obtain ⟨hv, hvv, hx⟩ := pNext_ok rfl e
  simp only [e, cond_false] at h
  refine ⟨hv, hvv, fun n n0 n1 => ?_⟩
  rcases isAbove_L0 v (fx_Next s v).1 (((((fx_Next s v).1.length : Nat) : Int) - 0).toNat) 0 with ⟨a, b⟩ | a
  ·have hl : (fx_Next s v).1.length = s.Boundary.length := by rw [hx, Fv_len]
   have := b n n0 (by omega)
   rw [hx] at this
   exact bSubset_sub (VVals_at (Fv_V hv hvv) n0 n1) (VVals_at hvv n0 n1) this
  ·rw [a] at h; cases h
theorem isAbove_iff (s : GSystem) (v : List GSet) : fx_IsAbove s v = true ↔ VSys s ∧ VVals s v ∧ Le s (Fv s v) v := by
 refine ⟨isAbove_sound, ?_⟩
 rintro ⟨hv, hvv, hle⟩
 unfold fx_IsAbove
 simp only [pNext_eq hv hvv, bne_self_eq_false, cond_false]
 have hl := Fv_len s v
 rcases scan (fun r i => fx_IsAbove_L0 v (Fv s v) r i) (fun i => !bt_Subset (vat (Fv s v) i) (vat v i)) false () (fun _ => rfl) (fun _ _ => rfl) (((((Fv s v).length : Nat) : Int) - 0).toNat) 0 with ⟨a, j, j0, j1, hj⟩ | ⟨a, ha⟩
 ·have := (bSubset_iff (VVals_at (Fv_V hv hvv) j0 (by omega)) (VVals_at hvv j0 (by omega))).2 (hle j j0 (by omega))
  unfold vat at this hj
  rw [this] at hj; cases hj
 ·try dsimp only at a
  rw [a]
theorem Decides_L1 {s : GSystem} (hv : VSys s) {u : List GSet} {k : Int} (e : fx_Solve s = (u, k, 0)) (hl : Least s u) {n : Int} (hn : 0 ≤ n ∧ n < (s.Deps.length : Int)) : ∀ (r : Nat) (b : Int), 0 ≤ b → b + r = s.Width → w16_WitnessDecides_L1 s.Width s.Deps s.Transfers s.Boundary u n r b = .brk ()
 | 0, b, h0, h1 => rfl
 | r + 1, b, h0, h1 => by
  have hs : (GSystem.mk s.Width s.Deps s.Transfers s.Boundary) = s := rfl
  have ha := (wargs_iff s n b).2 ⟨hv, hn, by omega⟩
  have hA := Absent_spec ha e
  have ih := Decides_L1 hv e hl hn r (b + 1) (by omega) (by omega)
  rw [w16_WitnessDecides_L1, hs]
  dsimp only
  rcases Find_spec ha with ⟨q, p, hf, g, _, _, hq⟩ | ⟨hf, hno⟩
  ·obtain ⟨hlen, hck⟩ := ways_ok ha g
   have hhas := wCheck_sound hv hl.v hl.fix hck
   rw [hhas, cond_true] at hA
   have hhas' : r1_Has (u.getD n.toNat default) b = true := hhas
   simp only [hf, hA, hhas', hck, bne_self_eq_false, cond_false, cond_true, Bool.not_true, beq_self_eq_true, show (true == false) = false from rfl]
   rw [decide_eq_false (by rw [hlen]; omega), cond_false]
   exact ih
  ·have hhas := noPath hv hl (last := ⟨n, b⟩) ⟨hn, h0, by show b < s.Width; omega⟩ hno
   dsimp only at hhas
   rw [hhas, cond_false] at hA
   have hhas' : r1_Has (u.getD n.toNat default) b = false := hhas
   have hab : wt_CheckAbsent s n b u = true := by
    unfold wt_CheckAbsent
    rw [ha]
    have h1 := (isAbove_iff s u).2 ⟨hv, hl.v, by rw [hl.fix]; exact Le_refl _ _⟩
    simp only [beq_self_eq_true, cond_true, h1, bHas_eq, hhas', Bool.not_false]
   have hnn : 0 ≤ ((s.Deps.length : Nat) : Int) * s.Width := Int.mul_nonneg (by omega) hv.w.1
   simp only [hf, hA, hhas', hab, bne_self_eq_false, cond_false, cond_true, Bool.not_true, Bool.not_false, beq_self_eq_true, show (false == true) = false from rfl, List.length_nil]
   rw [decide_eq_false (by simpa using hnn), cond_false]
   exact ih
theorem Decides_L0 {s : GSystem} (hv : VSys s) {u : List GSet} {k : Int} (e : fx_Solve s = (u, k, 0)) (hl : Least s u) : ∀ (r : Nat) (n : Int), 0 ≤ n → n + r = (s.Deps.length : Int) → w16_WitnessDecides_L0 s.Width s.Deps s.Transfers s.Boundary u r n = .brk ()
 | 0, n, h0, h1 => rfl
 | r + 1, n, h0, h1 => by
  have hw := hv.w
  rw [w16_WitnessDecides_L0, Decides_L1 hv e hl (n := n) ⟨h0, by omega⟩ _ 0 (by omega) (by omega)]
  exact Decides_L0 hv e hl r (n + 1) (by omega) (by omega)
theorem WitnessDecides_true (t : List Int) : w16_WitnessDecides t = true := by
 have hd := System_facts (t := t) (k := 0) (n := 5) rfl (by omega)
 obtain ⟨u, k, e, hl⟩ := pSolve_spec hd.1
 unfold w16_WitnessDecides
 simp only [e, bne_self_eq_false, cond_false]
 rw [Decides_L0 hd.1 e hl _ 0 (by omega) (by omega)]
 rfl
theorem sl22 : slTy Tryz.prog 22 = some (3, 1, 8) := by kernel_rfl
theorem sh3 : tyShape Tryz.prog 3 = some (false, 1) := by kernel_rfl
theorem fmix : Tryz.prog.follows .mixedOrders = true := by kernel_rfl
theorem fo27_3 : fldOff Tryz.prog 27 3 = some 3 := by kernel_rfl
theorem sh25 : tyShape Tryz.prog 25 = some (false, 1) := by kernel_rfl
theorem sl25 : slTy Tryz.prog 25 = some (42, 2, 32) := by kernel_rfl
theorem fo27_0 : fldOff Tryz.prog 27 0 = some 0 := by kernel_rfl
theorem fo27_1 : fldOff Tryz.prog 27 1 = some 1 := by kernel_rfl
theorem sh23 : tyShape Tryz.prog 23 = some (false, 1) := by kernel_rfl
theorem sl23 : slTy Tryz.prog 23 = some (22, 1, 24) := by kernel_rfl
theorem fo27_2 : fldOff Tryz.prog 27 2 = some 2 := by kernel_rfl
theorem sh24 : tyShape Tryz.prog 24 = some (false, 1) := by kernel_rfl
theorem sl24 : slTy Tryz.prog 24 = some (65, 5, 88) := by kernel_rfl
theorem sh22 : tyShape Tryz.prog 22 = some (false, 1) := by kernel_rfl
theorem sh65 : tyShape Tryz.prog 65 = some (true, 5) := by kernel_rfl
theorem ca68 : callable Tryz.prog 68 = true := by kernel_rfl
theorem fo65_0 : fldOff Tryz.prog 65 0 = some 0 := by kernel_rfl
theorem sh42 : tyShape Tryz.prog 42 = some (true, 2) := by kernel_rfl
theorem ca53 : callable Tryz.prog 53 = true := by kernel_rfl
theorem fo65_1 : fldOff Tryz.prog 65 1 = some 2 := by kernel_rfl
theorem fo65_2 : fldOff Tryz.prog 65 2 = some 4 := by kernel_rfl
theorem sh63 : tyShape Tryz.prog 63 = some (false, 1) := by kernel_rfl
theorem sl63 : slTy Tryz.prog 63 = some (105, 2, 16) := by kernel_rfl
theorem sh105 : tyShape Tryz.prog 105 = some (true, 2) := by kernel_rfl
theorem ze105 : zeroOf Tryz.prog 105 = some (.agg #[vi 0, vi 0]) := by kernel_rfl
theorem ca107 : callable Tryz.prog 107 = true := by kernel_rfl
theorem ca170 : callable Tryz.prog 170 = true := by kernel_rfl
theorem fo42_0 : fldOff Tryz.prog 42 0 = some 0 := by kernel_rfl
theorem fo42_1 : fldOff Tryz.prog 42 1 = some 1 := by kernel_rfl
theorem sh40 : tyShape Tryz.prog 40 = some (false, 1) := by kernel_rfl
theorem sl40 : slTy Tryz.prog 40 = some (91, 1, 8) := by kernel_rfl
theorem sh91 : tyShape Tryz.prog 91 = some (false, 1) := by kernel_rfl
theorem un3 : Tryz.prog.underlying 3 = some (.int .i64) := by kernel_rfl
theorem un92 : Tryz.prog.underlying 92 = some (.int .u64) := by kernel_rfl
theorem ca113 : callable Tryz.prog 113 = true := by kernel_rfl
theorem ca114 : callable Tryz.prog 114 = true := by kernel_rfl
theorem ca115 : callable Tryz.prog 115 = true := by kernel_rfl
theorem ca79 : callable Tryz.prog 79 = true := by kernel_rfl
theorem ca136 : callable Tryz.prog 136 = true := by kernel_rfl
theorem ca135 : callable Tryz.prog 135 = true := by kernel_rfl
theorem ca137 : callable Tryz.prog 137 = true := by kernel_rfl
theorem ca174 : callable Tryz.prog 174 = true := by kernel_rfl
theorem fo105_0 : fldOff Tryz.prog 105 0 = some 0 := by kernel_rfl
theorem fo105_1 : fldOff Tryz.prog 105 1 = some 1 := by kernel_rfl
theorem ca147 : callable Tryz.prog 147 = true := by kernel_rfl
theorem ca146 : callable Tryz.prog 146 = true := by kernel_rfl
theorem sz22 : slZero Tryz.prog 22 = some [vi 0] := by kernel_rfl
theorem ca9 : callable Tryz.prog 9 = true := by kernel_rfl
theorem ca76 : callable Tryz.prog 76 = true := by kernel_rfl
theorem ca109 : callable Tryz.prog 109 = true := by kernel_rfl
theorem ca75 : callable Tryz.prog 75 = true := by kernel_rfl
theorem ca98 : callable Tryz.prog 98 = true := by kernel_rfl
theorem ca93 : callable Tryz.prog 93 = true := by kernel_rfl
theorem ca94 : callable Tryz.prog 94 = true := by kernel_rfl
theorem ca95 : callable Tryz.prog 95 = true := by kernel_rfl
theorem ca97 : callable Tryz.prog 97 = true := by kernel_rfl
theorem ca96 : callable Tryz.prog 96 = true := by kernel_rfl
theorem ca56 : callable Tryz.prog 56 = true := by kernel_rfl
theorem ca141 : callable Tryz.prog 141 = true := by kernel_rfl
theorem ca143 : callable Tryz.prog 143 = true := by kernel_rfl
theorem sh27 : tyShape Tryz.prog 27 = some (true, 4) := by kernel_rfl
theorem ca80 : callable Tryz.prog 80 = true := by kernel_rfl
theorem ca108 : callable Tryz.prog 108 = true := by kernel_rfl
theorem ca111 : callable Tryz.prog 111 = true := by kernel_rfl
theorem ca144 : callable Tryz.prog 144 = true := by kernel_rfl
theorem ca47 : callable Tryz.prog 47 = true := by kernel_rfl
theorem ca181 : callable Tryz.prog 181 = true := by kernel_rfl
theorem fo37_1 : fldOff Tryz.prog 37 1 = some 1 := by kernel_rfl
theorem fo37_0 : fldOff Tryz.prog 37 0 = some 0 := by kernel_rfl
theorem ca73 : callable Tryz.prog 73 = true := by kernel_rfl
theorem ca72 : callable Tryz.prog 72 = true := by kernel_rfl
theorem ca74 : callable Tryz.prog 74 = true := by kernel_rfl
theorem ca175 : callable Tryz.prog 175 = true := by kernel_rfl
theorem eqi105 : eqInts Tryz.prog 105 2 = true := by kernel_rfl
theorem ca149 : callable Tryz.prog 149 = true := by kernel_rfl
theorem ca148 : callable Tryz.prog 148 = true := by kernel_rfl
theorem ze65 : zeroOf Tryz.prog 65 = some (.agg #[vi 0, .slice none 0 0, vi 0, .slice none 0 0, .slice none 0 0]) := by kernel_rfl
theorem st65 : stTy Tryz.prog 65 = some ([(0, 2), (2, 2), (4, 1)], [vi 0, .slice none 0 0, vi 0, .slice none 0 0, .slice none 0 0]) := by kernel_rfl
theorem st105 : stTy Tryz.prog 105 = some ([(0, 1), (1, 1)], [vi 0, vi 0]) := by kernel_rfl
theorem sz63 : slZero Tryz.prog 63 = some [vi 0, vi 0] := by kernel_rfl
theorem ca110 : callable Tryz.prog 110 = true := by kernel_rfl
theorem ca77 : callable Tryz.prog 77 = true := by kernel_rfl
theorem eqi37 : eqInts Tryz.prog 37 2 = true := by kernel_rfl
theorem ca44 : callable Tryz.prog 44 = true := by kernel_rfl
theorem ca45 : callable Tryz.prog 45 = true := by kernel_rfl
theorem ca42 : callable Tryz.prog 42 = true := by kernel_rfl
theorem ca61 : callable Tryz.prog 61 = true := by kernel_rfl
theorem ca62 : callable Tryz.prog 62 = true := by kernel_rfl
theorem ca60 : callable Tryz.prog 60 = true := by kernel_rfl
theorem ca63 : callable Tryz.prog 63 = true := by kernel_rfl
theorem ca64 : callable Tryz.prog 64 = true := by kernel_rfl
theorem ca102 : callable Tryz.prog 102 = true := by kernel_rfl
theorem ze37 : zeroOf Tryz.prog 37 = some (.agg #[vi 0, vi 0]) := by kernel_rfl
theorem un28 : Tryz.prog.underlying 28 = some (.slice 37) := by kernel_rfl
theorem sl28 : slTy Tryz.prog 28 = some (37, 2, 16) := by kernel_rfl
theorem sz28 : slZero Tryz.prog 28 = some [vi 0, vi 0] := by kernel_rfl
theorem sh37 : tyShape Tryz.prog 37 = some (true, 2) := by kernel_rfl
theorem ca43 : callable Tryz.prog 43 = true := by kernel_rfl
theorem st37 : stTy Tryz.prog 37 = some ([(0, 1), (1, 1)], [vi 0, vi 0]) := by kernel_rfl
theorem ca105 : callable Tryz.prog 105 = true := by kernel_rfl
theorem un40 : Tryz.prog.underlying 40 = some (.slice 91) := by kernel_rfl
theorem ze42 : zeroOf Tryz.prog 42 = some (.agg #[vi 0, .slice none 0 0]) := by kernel_rfl
theorem sz40 : slZero Tryz.prog 40 = some [u64 (0#64)] := by kernel_rfl
theorem st42 : stTy Tryz.prog 42 = some ([(0, 1), (1, 1)], [vi 0, .slice none 0 0]) := by kernel_rfl
theorem ca151 : callable Tryz.prog 151 = true := by kernel_rfl
theorem ca150 : callable Tryz.prog 150 = true := by kernel_rfl
theorem ca173 : callable Tryz.prog 173 = true := by kernel_rfl
theorem ca142 : callable Tryz.prog 142 = true := by kernel_rfl
theorem ca185 : callable Tryz.prog 185 = true := by kernel_rfl
theorem ca184 : callable Tryz.prog 184 = true := by kernel_rfl
theorem ca172 : callable Tryz.prog 172 = true := by kernel_rfl
theorem ca29 : callable Tryz.prog 29 = true := by kernel_rfl
theorem sz25 : slZero Tryz.prog 25 = some [vi 0, .slice none 0 0] := by kernel_rfl
theorem ca101 : callable Tryz.prog 101 = true := by kernel_rfl
theorem un91 : Tryz.prog.underlying 91 = some (.int .u64) := by kernel_rfl
theorem ca152 : callable Tryz.prog 152 = true := by kernel_rfl
theorem ca112 : callable Tryz.prog 112 = true := by kernel_rfl
theorem ca78 : callable Tryz.prog 78 = true := by kernel_rfl
theorem ca59 : callable Tryz.prog 59 = true := by kernel_rfl
theorem ca46 : callable Tryz.prog 46 = true := by kernel_rfl
theorem ki37 : keyInts Tryz.prog 37 2 = true := by kernel_rfl
theorem kk_GHop : KK Tryz.prog 37 ev_GHop ok_GHop := kStruct (fun x : GHop => [x.Node, x.Bit]) ok_GHop ki37 (fun x y h => by cases x; cases y; simpa using h) (fun _ => rfl) (fun x hx y hy => by simp only [List.mem_cons, List.not_mem_nil, or_false] at hy; obtain ⟨h0, h1⟩ := hx; rcases hy with rfl | rfl <;> assumption)
theorem mt97 : mpTy Tryz.prog 97 = some (37, 28) := by kernel_rfl
theorem ze28 : zeroOf Tryz.prog 28 = some (.slice none 0 0) := by kernel_rfl
theorem ca104 : callable Tryz.prog 104 = true := by kernel_rfl
theorem ca103 : callable Tryz.prog 103 = true := by kernel_rfl
theorem ca145 : callable Tryz.prog 145 = true := by kernel_rfl
theorem ze142 : zeroOf Tryz.prog 142 = some (.agg #[vi 0, vi 0, vi 0, vi 0]) := by kernel_rfl
theorem ca160 : callable Tryz.prog 160 = true := by kernel_rfl
theorem ca159 : callable Tryz.prog 159 = true := by kernel_rfl
theorem ca162 : callable Tryz.prog 162 = true := by kernel_rfl
theorem ca163 : callable Tryz.prog 163 = true := by kernel_rfl
theorem ca126 : callable Tryz.prog 126 = true := by kernel_rfl
theorem st142 : stTy Tryz.prog 142 = some ([(0, 1), (1, 1), (2, 1), (3, 1)], [vi 0, vi 0, vi 0, vi 0]) := by kernel_rfl
theorem sh142 : tyShape Tryz.prog 142 = some (true, 4) := by kernel_rfl
theorem un9 : Tryz.prog.underlying 9 = some .string := by kernel_rfl
theorem st129 : stTy Tryz.prog 129 = some ([(0, 1), (1, 1), (2, 1), (3, 1)], [vi 0, .string (bs (Str.mk [])), vi 0, vi 0]) := by kernel_rfl
theorem sl116 : slTy Tryz.prog 116 = some (129, 4, 40) := by kernel_rfl
theorem sz116 : slZero Tryz.prog 116 = some [vi 0, .string (bs (Str.mk [])), vi 0, vi 0] := by kernel_rfl
theorem ca119 : callable Tryz.prog 119 = true := by kernel_rfl
theorem ca120 : callable Tryz.prog 120 = true := by kernel_rfl
theorem fo121_2 : fldOff Tryz.prog 121 2 = some 2 := by kernel_rfl
theorem sh33 : tyShape Tryz.prog 33 = some (false, 1) := by kernel_rfl
theorem fo121_1 : fldOff Tryz.prog 121 1 = some 1 := by kernel_rfl
theorem fo121_0 : fldOff Tryz.prog 121 0 = some 0 := by kernel_rfl
theorem sh116 : tyShape Tryz.prog 116 = some (false, 1) := by kernel_rfl
theorem fo129_0 : fldOff Tryz.prog 129 0 = some 0 := by kernel_rfl
theorem fo129_1 : fldOff Tryz.prog 129 1 = some 1 := by kernel_rfl
theorem sh9 : tyShape Tryz.prog 9 = some (false, 1) := by kernel_rfl
theorem ca85 : callable Tryz.prog 85 = true := by kernel_rfl
theorem sl138 : slTy Tryz.prog 138 = some (9, 1, 16) := by kernel_rfl
theorem sz138 : slZero Tryz.prog 138 = some [.string (bs (Str.mk []))] := by kernel_rfl
theorem ca182 : callable Tryz.prog 182 = true := by kernel_rfl
theorem ca176 : callable Tryz.prog 176 = true := by kernel_rfl
theorem ca154 : callable Tryz.prog 154 = true := by kernel_rfl
theorem ca155 : callable Tryz.prog 155 = true := by kernel_rfl
theorem ca122 : callable Tryz.prog 122 = true := by kernel_rfl
theorem ze140 : zeroOf Tryz.prog 140 = some (.agg #[vi 0, .string (bs (Str.mk [])), .slice none 0 0, .slice none 0 0]) := by kernel_rfl
theorem fo140_0 : fldOff Tryz.prog 140 0 = some 0 := by kernel_rfl
theorem fo140_2 : fldOff Tryz.prog 140 2 = some 2 := by kernel_rfl
theorem sh138 : tyShape Tryz.prog 138 = some (false, 1) := by kernel_rfl
theorem ca177 : callable Tryz.prog 177 = true := by kernel_rfl
theorem ca123 : callable Tryz.prog 123 = true := by kernel_rfl
theorem sh140 : tyShape Tryz.prog 140 = some (true, 4) := by kernel_rfl
theorem fo140_1 : fldOff Tryz.prog 140 1 = some 1 := by kernel_rfl
theorem ca178 : callable Tryz.prog 178 = true := by kernel_rfl
theorem ze168 : zeroOf Tryz.prog 168 = some (.agg #[.string (bs (Str.mk [])), .slice none 0 0]) := by kernel_rfl
theorem ca121 : callable Tryz.prog 121 = true := by kernel_rfl
theorem fo168_0 : fldOff Tryz.prog 168 0 = some 0 := by kernel_rfl
theorem ca156 : callable Tryz.prog 156 = true := by kernel_rfl
theorem fo168_1 : fldOff Tryz.prog 168 1 = some 1 := by kernel_rfl
theorem sh166 : tyShape Tryz.prog 166 = some (false, 1) := by kernel_rfl
theorem sl166 : slTy Tryz.prog 166 = some (140, 4, 72) := by kernel_rfl
theorem ca157 : callable Tryz.prog 157 = true := by kernel_rfl
theorem sz166 : slZero Tryz.prog 166 = some [vi 0, .string (bs (Str.mk [])), .slice none 0 0, .slice none 0 0] := by kernel_rfl
theorem sh168 : tyShape Tryz.prog 168 = some (true, 2) := by kernel_rfl
theorem ze126 : zeroOf Tryz.prog 126 = some (.agg #[.string (bs (Str.mk [])), .slice none 0 0]) := by kernel_rfl
theorem fo126_0 : fldOff Tryz.prog 126 0 = some 0 := by kernel_rfl
theorem fo126_1 : fldOff Tryz.prog 126 1 = some 1 := by kernel_rfl
theorem sh124 : tyShape Tryz.prog 124 = some (false, 1) := by kernel_rfl
theorem sl124 : slTy Tryz.prog 124 = some (168, 2, 40) := by kernel_rfl
theorem ca124 : callable Tryz.prog 124 = true := by kernel_rfl
theorem sz124 : slZero Tryz.prog 124 = some [.string (bs (Str.mk [])), .slice none 0 0] := by kernel_rfl
theorem sh126 : tyShape Tryz.prog 126 = some (true, 2) := by kernel_rfl
theorem ze84 : zeroOf Tryz.prog 84 = some (.agg #[.slice none 0 0]) := by kernel_rfl
theorem ca84 : callable Tryz.prog 84 = true := by kernel_rfl
theorem st121 : stTy Tryz.prog 121 = some ([(0, 1), (1, 1), (2, 1)], [.slice none 0 0, vi 0, vi 0]) := by kernel_rfl
theorem fo84_0 : fldOff Tryz.prog 84 0 = some 0 := by kernel_rfl
theorem sh82 : tyShape Tryz.prog 82 = some (false, 1) := by kernel_rfl
theorem sl82 : slTy Tryz.prog 82 = some (126, 2, 40) := by kernel_rfl
theorem ca87 : callable Tryz.prog 87 = true := by kernel_rfl
theorem sz82 : slZero Tryz.prog 82 = some [.string (bs (Str.mk [])), .slice none 0 0] := by kernel_rfl
theorem sh84 : tyShape Tryz.prog 84 = some (true, 1) := by kernel_rfl
theorem fo140_3 : fldOff Tryz.prog 140 3 = some 3 := by kernel_rfl
theorem ca183 : callable Tryz.prog 183 = true := by kernel_rfl
theorem ca179 : callable Tryz.prog 179 = true := by kernel_rfl
theorem ca129 : callable Tryz.prog 129 = true := by kernel_rfl
theorem ca158 : callable Tryz.prog 158 = true := by kernel_rfl
theorem ca180 : callable Tryz.prog 180 = true := by kernel_rfl
theorem un4 : Tryz.prog.underlying 4 = some .bool := by kernel_rfl
theorem ca161 : callable Tryz.prog 161 = true := by kernel_rfl
theorem ca125 : callable Tryz.prog 125 = true := by kernel_rfl
theorem sl133 : slTy Tryz.prog 133 = some (142, 4, 32) := by kernel_rfl
theorem sz133 : slZero Tryz.prog 133 = some [vi 0, vi 0, vi 0, vi 0] := by kernel_rfl
theorem eqi142 : eqInts Tryz.prog 142 4 = true := by kernel_rfl
theorem ca127 : callable Tryz.prog 127 = true := by kernel_rfl
theorem ca167 : callable Tryz.prog 167 = true := by kernel_rfl
theorem ca131 : callable Tryz.prog 131 = true := by kernel_rfl
theorem fo142_0 : fldOff Tryz.prog 142 0 = some 0 := by kernel_rfl
theorem st140 : stTy Tryz.prog 140 = some ([(0, 1), (1, 1), (2, 1), (3, 1)], [vi 0, .string (bs (Str.mk [])), .slice none 0 0, .slice none 0 0]) := by kernel_rfl
theorem fo142_1 : fldOff Tryz.prog 142 1 = some 1 := by kernel_rfl
theorem fo142_2 : fldOff Tryz.prog 142 2 = some 2 := by kernel_rfl
theorem fo142_3 : fldOff Tryz.prog 142 3 = some 3 := by kernel_rfl
theorem ca90 : callable Tryz.prog 90 = true := by kernel_rfl
theorem ca128 : callable Tryz.prog 128 = true := by kernel_rfl
theorem st174 : stTy Tryz.prog 174 = some ([(0, 1), (1, 1)], [vi 0, vi 0]) := by kernel_rfl
theorem sl130 : slTy Tryz.prog 130 = some (174, 2, 16) := by kernel_rfl
theorem sz130 : slZero Tryz.prog 130 = some [vi 0, vi 0] := by kernel_rfl
theorem ca164 : callable Tryz.prog 164 = true := by kernel_rfl
theorem ca165 : callable Tryz.prog 165 = true := by kernel_rfl
theorem ze27 : zeroOf Tryz.prog 27 = some (.agg #[vi 0, .slice none 0 0, .slice none 0 0, .slice none 0 0]) := by kernel_rfl
theorem ca27 : callable Tryz.prog 27 = true := by kernel_rfl
theorem st27 : stTy Tryz.prog 27 = some ([(0, 1), (1, 1), (2, 1), (3, 1)], [vi 0, .slice none 0 0, .slice none 0 0, .slice none 0 0]) := by kernel_rfl
theorem ca28 : callable Tryz.prog 28 = true := by kernel_rfl
theorem ca13 : callable Tryz.prog 13 = true := by kernel_rfl
theorem sz23 : slZero Tryz.prog 23 = some [.slice none 0 0] := by kernel_rfl
theorem ca30 : callable Tryz.prog 30 = true := by kernel_rfl
theorem sz24 : slZero Tryz.prog 24 = some [vi 0, .slice none 0 0, vi 0, .slice none 0 0, .slice none 0 0] := by kernel_rfl
theorem ze135 : zeroOf Tryz.prog 135 = some (.agg #[.slice none 0 0, .slice none 0 0, .slice none 0 0]) := by kernel_rfl
theorem st135 : stTy Tryz.prog 135 = some ([(0, 1), (1, 1), (2, 1)], [.slice none 0 0, .slice none 0 0, .slice none 0 0]) := by kernel_rfl
theorem sh135 : tyShape Tryz.prog 135 = some (true, 3) := by kernel_rfl
theorem ca130 : callable Tryz.prog 130 = true := by kernel_rfl
theorem fo135_1 : fldOff Tryz.prog 135 1 = some 1 := by kernel_rfl
theorem fo135_2 : fldOff Tryz.prog 135 2 = some 2 := by kernel_rfl
theorem ca21 : callable Tryz.prog 21 = true := by kernel_rfl
theorem ca106 : callable Tryz.prog 106 = true := by kernel_rfl
theorem ca41 : callable Tryz.prog 41 = true := by kernel_rfl
theorem fo210_0 : fldOff Tryz.prog 210 0 = some 0 := by kernel_rfl
theorem ze210 : zeroOf Tryz.prog 210 = some (.agg #[vi 0, .slice none 0 0, .slice none 0 0]) := by kernel_rfl
theorem st210 : stTy Tryz.prog 210 = some ([(0, 2), (2, 1)], [vi 0, .slice none 0 0, .slice none 0 0]) := by kernel_rfl
theorem sh210 : tyShape Tryz.prog 210 = some (true, 3) := by kernel_rfl
theorem fo210_1 : fldOff Tryz.prog 210 1 = some 2 := by kernel_rfl
theorem ca153 : callable Tryz.prog 153 = true := by kernel_rfl
theorem ca169 : callable Tryz.prog 169 = true := by kernel_rfl
theorem ca168 : callable Tryz.prog 168 = true := by kernel_rfl
theorem fo174_1 : fldOff Tryz.prog 174 1 = some 1 := by kernel_rfl
theorem ca132 : callable Tryz.prog 132 = true := by kernel_rfl
theorem ca133 : callable Tryz.prog 133 = true := by kernel_rfl
theorem ca134 : callable Tryz.prog 134 = true := by kernel_rfl
theorem fo174_0 : fldOff Tryz.prog 174 0 = some 0 := by kernel_rfl
theorem ca88 : callable Tryz.prog 88 = true := by kernel_rfl
theorem ca89 : callable Tryz.prog 89 = true := by kernel_rfl
theorem fo135_0 : fldOff Tryz.prog 135 0 = some 0 := by kernel_rfl
theorem sh133 : tyShape Tryz.prog 133 = some (false, 1) := by kernel_rfl
theorem ca92 : callable Tryz.prog 92 = true := by kernel_rfl
theorem ca50 : callable Tryz.prog 50 = true := by kernel_rfl
theorem ca51 : callable Tryz.prog 51 = true := by kernel_rfl
theorem ca25 : callable Tryz.prog 25 = true := by kernel_rfl
theorem ca52 : callable Tryz.prog 52 = true := by kernel_rfl
theorem ca14 : callable Tryz.prog 14 = true := by kernel_rfl
theorem ca171 : callable Tryz.prog 171 = true := by kernel_rfl
theorem ca140 : callable Tryz.prog 140 = true := by kernel_rfl
theorem ca139 : callable Tryz.prog 139 = true := by kernel_rfl
theorem ca138 : callable Tryz.prog 138 = true := by kernel_rfl
theorem ca99 : callable Tryz.prog 99 = true := by kernel_rfl
theorem ca100 : callable Tryz.prog 100 = true := by kernel_rfl
theorem ca58 : callable Tryz.prog 58 = true := by kernel_rfl
theorem ca57 : callable Tryz.prog 57 = true := by kernel_rfl
theorem ca24 : callable Tryz.prog 24 = true := by kernel_rfl
theorem st60 : stTy Tryz.prog 60 = some ([(0, 1), (1, 1)], [.slice none 0 0, vi 0]) := by kernel_rfl
theorem fo60_1 : fldOff Tryz.prog 60 1 = some 1 := by kernel_rfl
theorem fo60_0 : fldOff Tryz.prog 60 0 = some 0 := by kernel_rfl
theorem ca31 : callable Tryz.prog 31 = true := by kernel_rfl
theorem ca7 : callable Tryz.prog 7 = true := by kernel_rfl
theorem ca8 : callable Tryz.prog 8 = true := by kernel_rfl
theorem ca26 : callable Tryz.prog 26 = true := by kernel_rfl
theorem ca16 : callable Tryz.prog 16 = true := by kernel_rfl
theorem ca20 : callable Tryz.prog 20 = true := by kernel_rfl
theorem fn93 (width : Int) (n : Int) (hwidth_0 : i64ok width) (hn_0 : i64ok n) (rr : Bool) (hrr : eq_sized width n = rr) : FT Tryz.prog 93 #[vi width, vi n] [] (fun g : Unit => True) (fun g => vb rr) (fun g => []) := by
 refine FTi Tryz.func93 fun w0 M0 F0 => ?_
 unfold i64ok at hwidth_0 hn_0
 refine KS ?_
 refine Oq Va (KS ?_)
 refine Oq Vm (Oq Vgeq (Oq Vm ?_))
 refine Js 7 ?_ ?_
 ·intro h1
  have g2 := dt h1
  refine Oq Vm (Oq Vleq (Oq Vpt (Oq Vm ?_)))
  refine Js 11 ?_ ?_
  ·intro h3
   have g4 := dt h3
   refine Oq Vm (Oq Vgeq (Oq Vpt (Oq Vm ?_)))
   refine Js 15 ?_ ?_
   ·intro h5
    have g6 := dt h5
    refine Oq Vm (Oq Vleq (Oq Vpt (Oq Va (KS ?_))))
    have hq := q4 hrr (decide (n ≤ 256)) (by simp only [eq_sized, h1, h3, h5, cs4]); subst hq
    exact Kr () rfl (.tmp rfl .nil) [] trivial
   intro h5
   have g7 := df h5
   refine Osk (Osk (Oq Vpf (Oq Va (KS ?_))))
   have hq := q4 hrr false (by simp only [eq_sized, h1, h3, h5, cs4]); subst hq
   exact Kr () rfl (.tmp rfl .nil) [] trivial
  intro h3
  have g8 := df h3
  refine Osk (Osk (Oq Vpf (Oq Vm (Osk (Osk (Oq Vpf (Oq Va (KS ?_))))))))
  have hq := q4 hrr false (by simp only [eq_sized, h1, h3, cs4]); subst hq
  exact Kr () rfl (.tmp rfl .nil) [] trivial
 intro h1
 have g9 := df h1
 refine Osk (Osk (Oq Vpf (Oq Vm (Osk (Osk (Oq Vpf (Oq Vm (Osk (Osk ?_)))))))))
 refine Oq Vpf (Oq Va (KS ?_))
 have hq := q4 hrr false (by simp only [eq_sized, h1, cs4]); subst hq
 exact Kr () rfl (.tmp rfl .nil) [] trivial
theorem fn94 (l : List Int) (la0 : Option Addr) (lk0 : Nat) (n : Int) (hn_0 : i64ok n) (rr : Bool) (hrr : eq_ascending l n = rr) : FT Tryz.prog 94 #[vl la0 lk0 l, vi n] [S la0 lk0 l] (fun g : Unit => True) (fun g => vb rr) (fun g => []) := by
 refine FTi Tryz.func94 fun w0 M0 F0 => ?_
 unfold i64ok at hn_0
 refine Fb 8 0 fun _ => Fo 0 fun ho2 => KS ?_
 refine Oq Va (KS ?_)
 refine Oq Vm (Oq (Vlen sl22) (Oq Vm (KS ?_)))
 refine Kl (γ := Nat × Int) (fun (r3, v9_4) => ⟨[(0, vl la0 lk0 l), (1, vi n), (7, vl la0 lk0 l), (8, vi (l.length : Int)), (9, vi v9_4)], [S la0 lk0 l], eq_ascending_L0 l n r3 v9_4 = eq_ascending_L0 l n (((l.length : Int) - 0).toNat) 0 ∧ r3 = ((l.length : Int) - v9_4).toNat ∧ (0 : Int) ≤ v9_4 ∧ v9_4 ≤ (l.length : Int) ∧ (-9223372036854775808 ≤ v9_4 ∧ v9_4 ≤ 9223372036854775807), r3⟩) (((l.length : Int) - 0).toNat, 0) [0] ⟨rfl, rfl, aM1, aM1, aM1⟩ ?_
 rintro ⟨r3, v9_4⟩ ⟨hM5, hr6, hi7, hi8, hk9⟩
 refine JJ_nx fun _ _ hL hA => ?_; dsimp only at hL hA; subst hL hA
 refine Fb 8 0 fun _ => Fo 0 fun ho11 => KS ?_
 refine Oq Vlss (KS ?_)
 refine Kc ?_ ?_
 ·intro h12
  have g13 := dt h12
  obtain ⟨r14, rfl⟩ := scc (n := r3) aM1
  refine KS ?_
  refine Oq Vm (Oq (Vi sl22 0) ?_)
  have hb15 := ok1 (i := v9_4.toNat) ho11 rng
  refine Oq (VldI sh3 0) (Oq Va (Oq Va (KS ?_)))
  refine Oq Vm (Oq Vlss (Oq Vm ?_))
  refine Js 16 ?_ ?_
  ·intro h16
   have g17 := dt h16
   refine Osk (Osk (Osk (Oq Vpt (Oq Vm (Osk (Osk (Osk (Osk (Osk ?_)))))))))
   refine Osk (Osk (Osk (Osk (Osk (Osk (Oq Vpt (KS ?_)))))))
   refine Kt (KS ?_)
   refine Oq Va (KS ?_)
   have hR18 := q2 hM5 (.ret false) (by simp only [eq_ascending_L0, h12, h16, cs4])
   have hq := q4 hrr false (by simp only [eq_ascending, h12, h16, hR18, cs4]); subst hq
   exact Kr () rfl (.tmp rfl .nil) [] trivial
  intro h16
  have g19 := df h16
  refine Oq Vm (Oq Vm (Oq Vgeq (Oq Vpf (Oq Vm ?_))))
  refine Js 21 ?_ ?_
  ·intro h20
   have g21 := dt h20
   refine Osk (Osk (Osk (Osk (Osk (Osk (Osk (Osk (Osk (Osk ?_)))))))))
   refine Osk (Oq Vpt (KS ?_))
   refine Kt (KS ?_)
   refine Oq Va (KS ?_)
   have hR22 := q2 hM5 (.ret false) (by simp only [eq_ascending_L0, h12, h16, h20, cs4])
   have hq := q4 hrr false (by simp only [eq_ascending, h12, h16, h20, hR22, cs4]); subst hq
   exact Kr () rfl (.tmp rfl .nil) [] trivial
  intro h20
  have g23 := df h20
  refine Oq Vm (Oq Vgtr (Oq Vm ?_))
  refine Js 24 ?_ ?_
  ·intro h24
   have g25 := dt h24
   refine Oq Vm (Oq Vm (Oq Vm (Oq Vsub (Oq (Vi sl22 0) ?_))))
   have hb26 := ok1 (i := ((v9_4 - 1) : Int).toNat) ho11 rng
   refine Oq (VldI sh3 0) (Oq Vleq (Oq Vpt (Oq Vpf (KS ?_))))
   refine Kc ?_ ?_
   ·intro h27
    have g28 := dt h27
    refine KS ?_
    refine Oq Va (KS ?_)
    have hR29 := q2 hM5 (.ret false) (by simp only [eq_ascending_L0, h12, h16, h20, h24, h27, cs4])
    have hq := q4 hrr false (by simp only [eq_ascending, h12, h16, h20, h24, h27, hR29, cs4]); subst hq
    exact Kr () rfl (.tmp rfl .nil) [] trivial
   intro h27
   have g30 := df h27
   refine KS ?_
   refine Oq Vadd (Oq Vm (KS ?_))
   exact Kg (r14, (v9_4 + 1)) [0] ⟨(q3 hM5 (by simp only [eq_ascending_L0, h12, h16, h20, h24, h27, cs4])), aM1, aM1, aM1, aM1⟩
  intro h24
  have g31 := df h24
  refine Osk (Osk (Osk (Osk (Osk (Osk (Osk (Oq Vpf (Oq Vpf (KS ?_)))))))))
  refine Kf (KS ?_)
  refine Oq Vadd (Oq Vm (KS ?_))
  exact Kg (r14, (v9_4 + 1)) [0] ⟨(q3 hM5 (by simp only [eq_ascending_L0, h12, h16, h20, h24, cs4])), aM1, aM1, aM1, aM1⟩
 intro h12
 have g32 := df h12
 obtain rfl : r3 = 0 := by omega
 refine Ke ?_
 have hR33 := q2 hM5 (.brk ()) (by simp only [eq_ascending_L0, h12, cs4])
 refine KS ?_
 refine Oq Va (KS ?_)
 have hq := q4 hrr true (by simp only [eq_ascending, h12, hR33, cs4]); subst hq
 exact Kr () rfl (.tmp rfl .nil) [] trivial
theorem fn170 (s : List GSet) (sa0 : Option Addr) (sk0 : Nat) (fF : FuncId) (fC : List Value) (fp : GSet → Bool) (fA : List SP) (hfc : callable Tryz.prog fF = true) (hfF : ∀ x ∈ s, ∀ (a1 : Option Addr) (k1 : Nat), i64ok x.Width → FT Tryz.prog fF ([(.agg #[vi x.Width, vl a1 k1 x.Words] : Value)] ++ fC).toArray ([S a1 k1 x.Words] ++ [pAll fA]) (fun _ : Unit => True) (fun _ => .bool (fp x)) (fun _ => [])) (rr : Int) (hrr : sc_IndexFunc_Set s fp = rr) : FT Tryz.prog 170 #[vl sa0 sk0 s, .func (.func fF) #[] fC.toArray] [S sa0 sk0 s, pAll fA] (fun g : Unit => i64ok rr) (fun g => vi rr) (fun g => []) := by
 refine FTi Tryz.func170 fun w0 M0 F0 => Fb 32 0 fun _ => ?_
 refine KS ?_
 refine Oq Va (KS ?_)
 refine Oq Vm (Oq (Vlen sl25) (Oq Vm (KS ?_)))
 refine Kl (γ := Nat × Int) (fun (r2, v8_3) => ⟨[(0, vl sa0 sk0 s), (1, .func (.func fF) #[] fC.toArray), (7, vi (s.length : Int)), (8, vi v8_3)], [S sa0 sk0 s, pAll fA], sc_IndexFunc_Set_L0 s fp r2 v8_3 = sc_IndexFunc_Set_L0 s fp (((s.length : Int) - 0).toNat) 0 ∧ r2 = ((s.length : Int) - v8_3).toNat ∧ (0 : Int) ≤ v8_3 ∧ v8_3 ≤ (s.length : Int) ∧ (-9223372036854775808 ≤ v8_3 ∧ v8_3 ≤ 9223372036854775807), r2⟩) (((s.length : Int) - 0).toNat, 0) [0, 1] ⟨rfl, rfl, aM1, aM1, aM1⟩ ?_
 rintro ⟨r2, v8_3⟩ ⟨hM4, hr5, hi6, hi7, hk8⟩
 refine JJ_nx fun _ _ hL hA => ?_; dsimp only at hL hA; subst hL hA
 refine Fb 32 0 fun _ => KS ?_
 refine Oq Vlss (KS ?_)
 refine Kc ?_ ?_
 ·intro h10
  have g11 := dt h10
  obtain ⟨r12, rfl⟩ := scc (n := r2) aM1
  refine KS ?_
  refine Oq Vm (Oq Va (KS ?_))
  refine Oq Vm (Oq Vm (Oq Vm (Oq (Vi sl25 0) ?_)))
  refine JJ_peek_GSet v8_3.toNat 0 rfl rng fun a13 k14 hb15 => ?_
  unfold i64ok at hb15
  refine Fb 8 1 fun _ => Oq (VldA sh42 0) ?_
  refine JO_call [1, 3] rfl rfl rfl (OpC.clo (asv := [(.agg #[vi ((s.getD v8_3.toNat default).Width), vl a13 k14 ((s.getD v8_3.toNat default).Words)] : Value)] ++ fC) rfl rfl hfc rfl (by simp)) (hfF (s.getD v8_3.toNat default) (getD_mem rng) a13 k14 pre) rfl fun _ _ => ?_
  refine KS ?_
  refine Kc ?_ ?_
  ·intro h17
   refine KS ?_
   refine Oq Vm (Oq Va (KS ?_))
   have hR19 := q2 hM4 (.ret v8_3) (by simp only [sc_IndexFunc_Set_L0, h10, h17, cs4])
   have hq := q4 hrr v8_3 (by simp only [sc_IndexFunc_Set, h10, h17, hR19, cs4]); subst hq
   exact Kr () rfl (.tmp rfl .nil) [] en
  intro h17
  refine KS ?_
  refine Oq Vadd (Oq Vm (KS ?_))
  exact Kg (r12, (v8_3 + 1)) [2, 3] ⟨(q3 hM4 (by simp only [sc_IndexFunc_Set_L0, h10, h17, cs4])), aM1, aM1, aM1, aM1⟩
 intro h10
 have g21 := df h10
 obtain rfl : r2 = 0 := by omega
 refine Ke ?_
 have hR22 := q2 hM4 (.brk ()) (by simp only [sc_IndexFunc_Set_L0, h10, cs4])
 refine KS ?_
 refine Oq Va (KS ?_)
 have hq := q4 hrr (-1) (by simp only [sc_IndexFunc_Set, h10, hR22, cs4]); subst hq
 exact Kr () rfl (.tmp rfl .nil) [] en
theorem fn135 (s : List GSet) (sa0 : Option Addr) (sk0 : Nat) (fF : FuncId) (fC : List Value) (fp : GSet → Bool) (fA : List SP) (hfc : callable Tryz.prog fF = true) (hfF : ∀ x ∈ s, ∀ (a1 : Option Addr) (k1 : Nat), i64ok x.Width → FT Tryz.prog fF ([(.agg #[vi x.Width, vl a1 k1 x.Words] : Value)] ++ fC).toArray ([S a1 k1 x.Words] ++ [pAll fA]) (fun _ : Unit => True) (fun _ => .bool (fp x)) (fun _ => [])) (rr : Bool) (hrr : sc_ContainsFunc_Set s fp = rr) : FT Tryz.prog 135 #[vl sa0 sk0 s, .func (.func fF) #[] fC.toArray] [S sa0 sk0 s, pAll fA] (fun g : Unit => True) (fun g => vb rr) (fun g => []) := by
 refine FTi Tryz.func135 fun w0 M0 F0 => Fb 32 0 fun _ => ?_
 refine KS ?_
 refine Oq Va (KS ?_)
 refine Oq Vm (Oq Vm ?_)
 refine letv (sc_IndexFunc_Set s fp) fun rv2 hg3 => ?_
 have hc4 := fn170 s sa0 sk0 fF fC fp fA hfc hfF rv2 hg3
 refine Oc [0, 1] ca170 hc4 ?_
 rintro - he5
 unfold i64ok at he5
 refine Oq Vgeq (Oq Va (KS ?_))
 have hq := q4 hrr (decide (0 ≤ rv2)) (by simp only [sc_ContainsFunc_Set, hg3, cs4]); subst hq
 exact Kr () rfl (.tmp rfl .nil) [] trivial
theorem fn113 (width : Int) (hwidth_0 : i64ok width) (rr : Bool) (hrr : bt_ranged width = rr) : FT Tryz.prog 113 #[vi width] [] (fun g : Unit => True) (fun g => vb rr) (fun g => []) := by
 refine FTi Tryz.func113 fun w0 M0 F0 => ?_
 unfold i64ok at hwidth_0
 refine KS ?_
 refine Oq Va (KS ?_)
 refine Oq Vm (Oq Vgeq (Oq Vm ?_))
 refine Js 5 ?_ ?_
 ·intro h1
  have g2 := dt h1
  refine Oq Vm (Oq Vleq (Oq Vpt (Oq Va (KS ?_))))
  have hq := q4 hrr (decide (width ≤ 256)) (by simp only [bt_ranged, h1, cs4]); subst hq
  exact Kr () rfl (.tmp rfl .nil) [] trivial
 intro h1
 have g3 := df h1
 refine Osk (Osk (Oq Vpf (Oq Va (KS ?_))))
 have hq := q4 hrr false (by simp only [bt_ranged, h1, cs4]); subst hq
 exact Kr () rfl (.tmp rfl .nil) [] trivial
theorem fn114 (width : Int) (hwidth_0 : i64ok width) (hw0 : 0 ≤ width ∧ width ≤ 1000000) (rr : Int) (hrr : bt_words width = rr) : FT Tryz.prog 114 #[vi width] [] (fun g : Unit => i64ok rr ∧ (rr = (width + 63) / 64)) (fun g => vi rr) (fun g => []) := by
 refine FTi Tryz.func114 fun w0 M0 F0 => ?_
 unfold i64ok at hwidth_0
 refine KS ?_
 refine Oq Va (KS ?_)
 refine Oq Vm (Oq Vadd (Oq Vsub (Oq Vquo (Oq Va (KS ?_)))))
 have hq := q4 hrr (((width + 64) - 1) / 64) (by simp only [bt_words, cs4]); subst hq
 exact Kr () rfl (.tmp rfl .nil) [] en
theorem fn115 (width : Int) (hwidth_0 : i64ok width) (rr : BitVec 64) (hrr : bt_spare width = rr) : FT Tryz.prog 115 #[vi width] [] (fun g : Unit => True) (fun g => u64 rr) (fun g => []) := by
 refine FTi Tryz.func115 fun w0 M0 F0 => ?_
 unfold i64ok at hwidth_0
 refine KS ?_
 refine Oq Va (KS ?_)
 refine Oq Vm (Oq (VcU un3 un92) (Oq (VremU (b := 64#64) (by simp)) (Oq (VshlU (a := 18446744073709551615#64)) (Oq Va (KS ?_)))))
 have hq := q4 hrr (18446744073709551615#64 <<< ((((BitVec.ofInt 64 width) % 64#64).toNat : Int)).toNat) (by simp only [bt_spare, cs4]); subst hq
 exact Kr () rfl (.tmp rfl .nil) [] trivial
theorem fn79 (s : GSet) (sa1 : Option Addr) (sk1 : Nat) (hs_0 : i64ok s.Width) (rr : Bool) (hrr : bt_Valid s = rr) : FT Tryz.prog 79 #[.agg #[vi s.Width, vl sa1 sk1 s.Words]] [S sa1 sk1 s.Words] (fun g : Unit => True) (fun g => vb rr) (fun g => []) := by
 refine FTi Tryz.func79 fun w0 M0 F0 => ?_
 unfold i64ok at hs_0
 refine Fb 8 0 fun _ => KS ?_
 refine Oa (Ab [vi s.Width, vl sa1 sk1 s.Words]) fun p2 => Oq Va (KS ?_)
 refine JK_drawK [0, 1, 3, 7, 15, 31, 63, 127, 31, 287, 799, 2047, 4095] fmix ?_
 refine Dv [0] (Vfa fo42_0 0) (Dv [0] (VldF sh3 0) ?_)
 refine letv (bt_ranged s.Width) fun rv3 hg4 => ?_
 refine Dx [] [] [0] (fun G => vb rv3) [fun G => SP.fact (True)] (fun G => xC [] ca113 (fn113 s.Width pre rv3 hg4)) (Dv [] Vnot ?_)
 refine bool_split (!rv3) ?_ ?_
 ·intro h5
  have h7 := not_true h5
  refine Db h5 [] Vm (Ds (Ds (Ds (Ds (Ds (Ds (Ds (Dv [] Vpt ?_))))))))
  refine Dn ⟨by kernel_rfl, fun G => ?_⟩
  refine Jw2 [(1, p2), (15, vb true)] [0, 1] [SP.fact (True)] ?_
  refine Jk [0, 1] (Kt ?_)
  refine KS ?_
  refine Oq Va (KS ?_)
  have hq := q4 hrr false (by simp only [bt_Valid, h5, h7, hg4, cs4]); subst hq
  exact Kr () rfl (.tmp rfl .nil) [] trivial
 intro h5
 have h10 := not_false h5
 try have hrg := ranged_iff (w := s.Width) (by simp only [h5, h10, hg4])
 refine Db h5 [] Vm (Dv [0] (Vfa fo42_1 0) (Dv [0] (VldF sh40 0) (Dv [] (Vlen sl40) (Dv [0] (Vfa fo42_0 0) (Dv [0] (VldF sh3 0) ?_)))))
 refine letv (bt_words s.Width) fun rv12 hg13 => ?_
 refine Dx [] [] [0] (fun G => vi rv12) [fun G => SP.fact (i64ok rv12 ∧ (rv12 = (s.Width + 63) / 64))] (fun G => xC [] ca114 (fn114 s.Width pre pre rv12 hg13)) (Dv [] Vneq (Dv [] Vpf ?_))
 refine Dn ⟨by kernel_rfl, fun G => ?_⟩
 refine Jw2 [(1, p2), (15, vb ((s.Words.length : Int) != rv12))] [0, 1] [SP.fact (True), SP.fact (i64ok rv12 ∧ (rv12 = (s.Width + 63) / 64))] ?_
 refine Jf 3 rfl ?_; rintro ⟨he14, he15⟩
 unfold i64ok at he14
 refine Jk [0, 1] ?_
 refine Kc ?_ ?_
 ·intro h16
  have g17 := ne_of_bne h16
  refine KS ?_
  refine Oq Va (KS ?_)
  have hq := q4 hrr false (by simp only [bt_Valid, h5, h10, h16, hg4, hg13, cs4]); subst hq
  exact Kr () rfl (.tmp rfl .nil) [] trivial
 intro h16
 have g18 := eq_of_bne_false h16
 refine KS ?_
 refine JK_drawK [0, 1, 3, 7, 15, 31, 63, 31, 159, 415, 927, 2047, 4095, 31, 8223, 24607, 65535, 131071, 262143, 524287] fmix ?_
 refine Dv [0] (Vfa fo42_0 0) (Dv [0] (VldF sh3 0) (Dv [] Vrem (Dv [] Veql ?_)))
 refine bool_split ((s.Width % 64) == 0) ?_ ?_
 ·intro h19
  have g20 := eq_of_beq h19
  refine Db h19 [] Vm (Ds (Ds (Ds (Ds (Ds (Ds (Ds (Ds (Ds ?_)))))))))
  refine Ds (Ds (Ds (Ds (Dv [] Vpt (Dv [] Va ?_)))))
  refine Dn ⟨by kernel_rfl, fun G => ?_⟩
  refine Jw2 [(2, vb true)] [0, 1] [] ?_
  have hq := q4 hrr true (by simp only [bt_Valid, h5, h10, h16, h19, hg4, hg13, cs4]); subst hq
  exact Kr () rfl (.tmp rfl .nil) [] trivial
 intro h19
 have g21 := ne_of_beq_false h19
 refine Db h19 [] Vm (Dv [0] (Vfa fo42_1 0) (Dv [0] (VldF sh40 0) (Dv [0] (Vfa fo42_1 0) (Dv [0] (VldF sh40 0) (Dv [] (Vlen sl40) (Dv [] Vsub (Dv [1] (Vi sl40 0) (Dv [1] (VldU sh91 0) (Dv [0] (Vfa fo42_0 0) ?_)))))))))
 refine Dv [0] (VldF sh3 0) ?_
 refine letv (bt_spare s.Width) fun rv22 hg23 => ?_
 refine Dx [] [] [0] (fun G => u64 rv22) [fun G => SP.fact (True)] (fun G => xC [] ca115 (fn115 s.Width pre rv22 hg23)) (Dv [] VandU (Dv [] (VeqlU (b := 0#64)) (Dv [] Vpf (Dv [] Va ?_))))
 refine Dn ⟨by kernel_rfl, fun G => ?_⟩
 refine Jw2 [(2, vb (((s.Words.getD (((s.Words.length : Int) - 1) : Int).toNat 0#64) &&& rv22) == 0#64))] [0, 1] [SP.fact (True)] ?_
 refine Jk [0, 1] ?_
 have hq := q4 hrr (((s.Words.getD (((s.Words.length : Int) - 1) : Int).toNat 0#64) &&& rv22) == 0#64) (by simp only [bt_Valid, h5, h10, h16, h19, hg4, hg13, hg23, cs4]); subst hq
 exact Kr () rfl (.tmp rfl .nil) [] trivial
theorem fn136 (s : GSet) (sa1 : Option Addr) (sk1 : Nat) (cap0P : Value) (cap0 : Int) (hs_0 : i64ok s.Width) (hcap0_0 : i64ok cap0) (rr : Bool) (hrr : eq_sets_1 s cap0 = rr) : FT Tryz.prog 136 #[.agg #[vi s.Width, vl sa1 sk1 s.Words], cap0P] [S sa1 sk1 s.Words, pv cap0P [vi cap0]] (fun g : Unit => True) (fun g => vb rr) (fun g => []) := by
 refine FTi Tryz.func136 fun w0 M0 F0 => ?_
 unfold i64ok at hs_0 hcap0_0
 refine Fb 8 0 fun _ => KS ?_
 refine Oa (Ab [vi s.Width, vl sa1 sk1 s.Words]) fun p2 => Oq Va (KS ?_)
 refine Oq (VldA sh42 0) ?_
 refine letv (bt_Valid s) fun rv3 hg4 => ?_
 have hc5 := fn79 s sa1 sk1 pre rv3 hg4
 refine Oc [1] ca79 hc5 ?_
 rintro - -
 refine Oq Vnot (Oq Vm ?_)
 refine Js 7 ?_ ?_
 ·intro h6
  have h8 := not_true h6
  refine Osk (Osk (Osk (Osk (Oq Vpt (Oq Va (KS ?_))))))
  have hq := q4 hrr true (by simp only [eq_sets_1, h6, h8, hg4, cs4]); subst hq
  exact Kr () rfl (.tmp rfl .nil) [] trivial
 intro h6
 have h11 := not_false h6
 refine Oq (Vfa fo42_0 0) (Oq (VldF sh3 0) (Oq (Vld sh3 2) (Oq Vneq (Oq Vpf (Oq Va (KS ?_))))))
 have hq := q4 hrr (s.Width != cap0) (by simp only [eq_sets_1, h6, h11, hg4, cs4]); subst hq
 exact Kr () rfl (.tmp rfl .nil) [] trivial
theorem fn95 (width : Int) (l : List GSet) (la0 : Option Addr) (lk0 : Nat) (hwidth_0 : i64ok width) (rr : Bool) (hrr : eq_sets width l = rr) : FT Tryz.prog 95 #[vi width, vl la0 lk0 l] [S la0 lk0 l] (fun g : Unit => True) (fun g => vb rr) (fun g => []) := by
 refine FTi Tryz.func95 fun w0 M0 F0 => ?_
 unfold i64ok at hwidth_0
 refine Fb 32 0 fun _ => KS ?_
 refine Oa (Ab [vi width]) fun p2 => Oq Va (KS ?_)
 refine Oq Vm (Oq (Vf [p2]) ?_)
 refine JJ_ent (Ent.pall [0] rfl rfl) ?_
 refine letv (sc_ContainsFunc_Set l (fun x => eq_sets_1 x width)) fun rv3 hg4 => ?_
 have hc5 := fn135 l la0 lk0 136 [p2] (fun x => eq_sets_1 x width) [pv p2 [vi width]] ca136 (fun x hx a1 k1 hq0 => FT_pall (A1 := _) (fn136 x a1 k1 p2 width hq0 pre _ rfl)) rv3 hg4
 refine Oc [2, 0] ca135 hc5 ?_
 rintro - -
 refine Oq Vnot (Oq Va (KS ?_))
 have hq := q4 hrr (!rv3) (by simp only [eq_sets, hg4, cs4]); subst hq
 exact Kr () rfl (.tmp rfl .nil) [] trivial
theorem fn137 (s : List GTransfer) (sa0 : Option Addr) (sk0 : Nat) (fF : FuncId) (fC : List Value) (fp : GTransfer → Bool) (fA : List SP) (hfc : callable Tryz.prog fF = true) (hfF : ∀ x ∈ s, ∀ (a1 : Option Addr) (k1 : Nat) (a3 : Option Addr) (k3 : Nat) (a4 : Option Addr) (k4 : Nat), i64ok x.Gen.Width → i64ok x.Kill.Width → FT Tryz.prog fF ([(.agg #[vi x.Gen.Width, vl a1 k1 x.Gen.Words, vi x.Kill.Width, vl a3 k3 x.Kill.Words, vl a4 k4 x.Copies] : Value)] ++ fC).toArray ([S a1 k1 x.Gen.Words, S a3 k3 x.Kill.Words, S a4 k4 x.Copies] ++ [pAll fA]) (fun _ : Unit => True) (fun _ => .bool (fp x)) (fun _ => [])) (rr : Int) (hrr : sc_IndexFunc_Transfer s fp = rr) : FT Tryz.prog 137 #[vl sa0 sk0 s, .func (.func fF) #[] fC.toArray] [S sa0 sk0 s, pAll fA] (fun g : Unit => i64ok rr) (fun g => vi rr) (fun g => []) := by
 refine FTi Tryz.func137 fun w0 M0 F0 => Fb 88 0 fun _ => ?_
 refine KS ?_
 refine Oq Va (KS ?_)
 refine Oq Vm (Oq (Vlen sl24) (Oq Vm (KS ?_)))
 refine Kl (γ := Nat × Int) (fun (r2, v8_3) => ⟨[(0, vl sa0 sk0 s), (1, .func (.func fF) #[] fC.toArray), (7, vi (s.length : Int)), (8, vi v8_3)], [S sa0 sk0 s, pAll fA], sc_IndexFunc_Transfer_L0 s fp r2 v8_3 = sc_IndexFunc_Transfer_L0 s fp (((s.length : Int) - 0).toNat) 0 ∧ r2 = ((s.length : Int) - v8_3).toNat ∧ (0 : Int) ≤ v8_3 ∧ v8_3 ≤ (s.length : Int) ∧ (-9223372036854775808 ≤ v8_3 ∧ v8_3 ≤ 9223372036854775807), r2⟩) (((s.length : Int) - 0).toNat, 0) [0, 1] ⟨rfl, rfl, aM1, aM1, aM1⟩ ?_
 rintro ⟨r2, v8_3⟩ ⟨hM4, hr5, hi6, hi7, hk8⟩
 refine JJ_nx fun _ _ hL hA => ?_; dsimp only at hL hA; subst hL hA
 refine Fb 88 0 fun _ => KS ?_
 refine Oq Vlss (KS ?_)
 refine Kc ?_ ?_
 ·intro h10
  have g11 := dt h10
  obtain ⟨r12, rfl⟩ := scc (n := r2) aM1
  refine KS ?_
  refine Oq Vm (Oq Va (KS ?_))
  refine Oq Vm (Oq Vm (Oq Vm (Oq (Vi sl24 0) ?_)))
  refine JJ_peek_GTransfer v8_3.toNat 0 rfl rng fun a13 k14 a15 k16 a17 k18 hb19 hb20 => ?_
  unfold i64ok at hb19 hb20
  refine Fb 8 1 fun _ => Fb 8 2 fun _ => Fb 16 3 fun _ => Oq (VldA sh65 0) ?_
  refine JO_call [1, 2, 3, 5] rfl rfl rfl (OpC.clo (asv := [(.agg #[vi (((s.getD v8_3.toNat default).Gen).Width), vl a13 k14 (((s.getD v8_3.toNat default).Gen).Words), vi (((s.getD v8_3.toNat default).Kill).Width), vl a15 k16 (((s.getD v8_3.toNat default).Kill).Words), vl a17 k18 ((s.getD v8_3.toNat default).Copies)] : Value)] ++ fC) rfl rfl hfc rfl (by simp)) (hfF (s.getD v8_3.toNat default) (getD_mem rng) a13 k14 a15 k16 a17 k18 pre pre) rfl fun _ _ => ?_
  refine KS ?_
  refine Kc ?_ ?_
  ·intro h24
   refine KS ?_
   refine Oq Vm (Oq Va (KS ?_))
   have hR26 := q2 hM4 (.ret v8_3) (by simp only [sc_IndexFunc_Transfer_L0, h10, h24, cs4])
   have hq := q4 hrr v8_3 (by simp only [sc_IndexFunc_Transfer, h10, h24, hR26, cs4]); subst hq
   exact Kr () rfl (.tmp rfl .nil) [] en
  intro h24
  refine KS ?_
  refine Oq Vadd (Oq Vm (KS ?_))
  exact Kg (r12, (v8_3 + 1)) [4, 5] ⟨(q3 hM4 (by simp only [sc_IndexFunc_Transfer_L0, h10, h24, cs4])), aM1, aM1, aM1, aM1⟩
 intro h10
 have g28 := df h10
 obtain rfl : r2 = 0 := by omega
 refine Ke ?_
 have hR29 := q2 hM4 (.brk ()) (by simp only [sc_IndexFunc_Transfer_L0, h10, cs4])
 refine KS ?_
 refine Oq Va (KS ?_)
 have hq := q4 hrr (-1) (by simp only [sc_IndexFunc_Transfer, h10, hR29, cs4]); subst hq
 exact Kr () rfl (.tmp rfl .nil) [] en
theorem fn96 (s : List GTransfer) (sa0 : Option Addr) (sk0 : Nat) (fF : FuncId) (fC : List Value) (fp : GTransfer → Bool) (fA : List SP) (hfc : callable Tryz.prog fF = true) (hfF : ∀ x ∈ s, ∀ (a1 : Option Addr) (k1 : Nat) (a3 : Option Addr) (k3 : Nat) (a4 : Option Addr) (k4 : Nat), i64ok x.Gen.Width → i64ok x.Kill.Width → FT Tryz.prog fF ([(.agg #[vi x.Gen.Width, vl a1 k1 x.Gen.Words, vi x.Kill.Width, vl a3 k3 x.Kill.Words, vl a4 k4 x.Copies] : Value)] ++ fC).toArray ([S a1 k1 x.Gen.Words, S a3 k3 x.Kill.Words, S a4 k4 x.Copies] ++ [pAll fA]) (fun _ : Unit => True) (fun _ => .bool (fp x)) (fun _ => [])) (rr : Bool) (hrr : sc_ContainsFunc_Transfer s fp = rr) : FT Tryz.prog 96 #[vl sa0 sk0 s, .func (.func fF) #[] fC.toArray] [S sa0 sk0 s, pAll fA] (fun g : Unit => True) (fun g => vb rr) (fun g => []) := by
 refine FTi Tryz.func96 fun w0 M0 F0 => Fb 88 0 fun _ => ?_
 refine KS ?_
 refine Oq Va (KS ?_)
 refine Oq Vm (Oq Vm ?_)
 refine letv (sc_IndexFunc_Transfer s fp) fun rv2 hg3 => ?_
 have hc4 := fn137 s sa0 sk0 fF fC fp fA hfc hfF rv2 hg3
 refine Oc [0, 1] ca137 hc4 ?_
 rintro - he5
 unfold i64ok at he5
 refine Oq Vgeq (Oq Va (KS ?_))
 have hq := q4 hrr (decide (0 ≤ rv2)) (by simp only [sc_ContainsFunc_Transfer, hg3, cs4]); subst hq
 exact Kr () rfl (.tmp rfl .nil) [] trivial
theorem fn146 (vals : List Int) (valsa0 : Option Addr) (valsk0 : Nat) (rr : Int) (hrr : cmp_Or_int vals = rr) : FT Tryz.prog 146 #[vl valsa0 valsk0 vals] [S valsa0 valsk0 vals] (fun g : Unit => i64ok rr) (fun g => vi rr) (fun g => []) := by
 refine FTi Tryz.func146 fun w0 M0 F0 => Fb 8 0 fun _ => Fo 0 fun ho2 => ?_
 refine KS ?_
 refine Oq Va (KS ?_)
 refine Oq Va (KS ?_)
 refine Oq Vm (Oq (Vlen sl22) (Oq Vm (KS ?_)))
 refine Kl (γ := Nat × Int) (fun (r3, v8_4) => ⟨[(3, vi 0), (6, vl valsa0 valsk0 vals), (7, vi (vals.length : Int)), (8, vi v8_4)], [S valsa0 valsk0 vals], cmp_Or_int_L0 vals r3 v8_4 = cmp_Or_int_L0 vals (((vals.length : Int) - 0).toNat) 0 ∧ r3 = ((vals.length : Int) - v8_4).toNat ∧ (0 : Int) ≤ v8_4 ∧ v8_4 ≤ (vals.length : Int) ∧ (-9223372036854775808 ≤ v8_4 ∧ v8_4 ≤ 9223372036854775807), r3⟩) (((vals.length : Int) - 0).toNat, 0) [0] ⟨rfl, rfl, aM1, aM1, aM1⟩ ?_
 rintro ⟨r3, v8_4⟩ ⟨hM5, hr6, hi7, hi8, hk9⟩
 refine JJ_nx fun _ _ hL hA => ?_; dsimp only at hL hA; subst hL hA
 refine Fb 8 0 fun _ => Fo 0 fun ho11 => KS ?_
 refine Oq Vlss (KS ?_)
 refine Kc ?_ ?_
 ·intro h12
  have g13 := dt h12
  obtain ⟨r14, rfl⟩ := scc (n := r3) aM1
  refine KS ?_
  refine Oq (Vi sl22 0) ?_
  have hb15 := ok1 (i := v8_4.toNat) ho11 rng
  refine Oq (VldI sh3 0) (Oq Va (KS ?_))
  refine Oq Vm (Oq Vm (Oq Vneq (KS ?_)))
  refine Kc ?_ ?_
  ·intro h16
   have g17 := ne_of_bne h16
   refine KS ?_
   refine Oq Vm (Oq Va (KS ?_))
   have hR18 := q2 hM5 (.ret (vals.getD v8_4.toNat 0)) (by simp only [cmp_Or_int_L0, h12, h16, cs4])
   have hq := q4 hrr (vals.getD v8_4.toNat 0) (by simp only [cmp_Or_int, h12, h16, hR18, cs4]); subst hq
   exact Kr () rfl (.tmp rfl .nil) [] en
  intro h16
  have g19 := eq_of_bne_false h16
  refine KS ?_
  refine Oq Vadd (Oq Vm (KS ?_))
  exact Kg (r14, (v8_4 + 1)) [0] ⟨(q3 hM5 (by simp only [cmp_Or_int_L0, h12, h16, cs4])), aM1, aM1, aM1, aM1⟩
 intro h12
 have g20 := df h12
 obtain rfl : r3 = 0 := by omega
 refine Ke ?_
 have hR21 := q2 hM5 (.brk ()) (by simp only [cmp_Or_int_L0, h12, cs4])
 refine KS ?_
 refine Oq Vm (Oq Va (KS ?_))
 have hq := q4 hrr 0 (by simp only [cmp_Or_int, h12, hR21, cs4]); subst hq
 exact Kr () rfl (.tmp rfl .nil) [] en
theorem fn174 (x : Int) (hx_0 : i64ok x) (rr : Bool) (hrr : cmp_isNaN_int x = rr) : FT Tryz.prog 174 #[vi x] [] (fun g : Unit => True) (fun g => vb rr) (fun g => []) := by
 refine FTi Tryz.func174 fun w0 M0 F0 => ?_
 unfold i64ok at hx_0
 refine KS ?_
 refine Oq Va (KS ?_)
 refine Oq Vm (Oq Vm (Oq Vneq (Oq Va (KS ?_))))
 have hq := q4 hrr (x != x) (by simp only [cmp_isNaN_int, cs4]); subst hq
 exact Kr () rfl (.tmp rfl .nil) [] trivial
theorem fn147 (x : Int) (y : Int) (hx_0 : i64ok x) (hy_0 : i64ok y) (rr : Int) (hrr : cmp_Compare_int x y = rr) : FT Tryz.prog 147 #[vi x, vi y] [] (fun g : Unit => i64ok rr) (fun g => vi rr) (fun g => []) := by
 refine FTi Tryz.func147 fun w0 M0 F0 => ?_
 unfold i64ok at hx_0 hy_0
 refine KS ?_
 refine Oq Va (KS ?_)
 refine Oq Vm ?_
 refine letv (cmp_isNaN_int x) fun rv1 hg2 => ?_
 have hc3 := fn174 x pre rv1 hg2
 refine Oc [] ca174 hc3 ?_
 rintro - -
 refine Oq Va (KS ?_)
 refine Oq Vm ?_
 refine letv (cmp_isNaN_int y) fun rv4 hg5 => ?_
 have hc6 := fn174 y pre rv4 hg5
 refine Oc [] ca174 hc6 ?_
 rintro - -
 refine Oq Va (KS ?_)
 refine Oq Vm (KS ?_)
 refine Kc ?_ ?_
 ·intro h7
  refine KS ?_
  refine Oq Vm (KS ?_)
  refine Kc ?_ ?_
  ·intro h9
   refine KS ?_
   refine Oq Va (KS ?_)
   have hq := q4 hrr 0 (by simp only [cmp_Compare_int, h7, h9, hg2, hg5, cs4]); subst hq
   exact Kr () rfl (.tmp rfl .nil) [] en
  intro h9
  refine KS ?_
  refine Oq Va (KS ?_)
  have hq := q4 hrr (-1) (by simp only [cmp_Compare_int, h7, h9, hg2, hg5, cs4]); subst hq
  exact Kr () rfl (.tmp rfl .nil) [] en
 intro h7
 refine KS ?_
 refine Oq Vm (KS ?_)
 refine Kc ?_ ?_
 ·intro h13
  refine KS ?_
  refine Oq Va (KS ?_)
  have hq := q4 hrr 1 (by simp only [cmp_Compare_int, h7, h13, hg2, hg5, cs4]); subst hq
  exact Kr () rfl (.tmp rfl .nil) [] en
 intro h13
 refine KS ?_
 refine Oq Vm (Oq Vm (Oq Vlss (KS ?_)))
 refine Kc ?_ ?_
 ·intro h16
  have g17 := dt h16
  refine KS ?_
  refine Oq Va (KS ?_)
  have hq := q4 hrr (-1) (by simp only [cmp_Compare_int, h7, h13, h16, hg2, hg5, cs4]); subst hq
  exact Kr () rfl (.tmp rfl .nil) [] en
 intro h16
 have g18 := df h16
 refine KS ?_
 refine Oq Vm (Oq Vm (Oq Vgtr (KS ?_)))
 refine Kc ?_ ?_
 ·intro h19
  have g20 := dt h19
  refine KS ?_
  refine Oq Va (KS ?_)
  have hq := q4 hrr 1 (by simp only [cmp_Compare_int, h7, h13, h16, h19, hg2, hg5, cs4]); subst hq
  exact Kr () rfl (.tmp rfl .nil) [] en
 intro h19
 have g21 := df h19
 refine KS ?_
 refine Oq Va (KS ?_)
 have hq := q4 hrr 0 (by simp only [cmp_Compare_int, h7, h13, h16, h19, hg2, hg5, cs4]); subst hq
 exact Kr () rfl (.tmp rfl .nil) [] en
theorem fn109 (a : GCopy) (b : GCopy) (ha_0 : i64ok a.From) (ha_1 : i64ok a.To) (hb_0 : i64ok b.From) (hb_1 : i64ok b.To) (rr : Int) (hrr : tf_compare a b = rr) : FT Tryz.prog 109 #[.agg #[vi a.From, vi a.To], .agg #[vi b.From, vi b.To]] [] (fun g : Unit => i64ok rr) (fun g => vi rr) (fun g => []) := by
 refine FTi Tryz.func109 fun w0 M0 F0 => ?_
 unfold i64ok at ha_0 ha_1 hb_0 hb_1
 refine KS ?_
 refine Oa (Ab [vi a.From, vi a.To]) fun p1 => Oa (Ab [vi b.From, vi b.To]) fun p2 => Oq Va (KS ?_)
 refine JK_drawK [0, 1, 0, 4, 15, 0, 32, 0, 128, 511, 1023, 2047, 4095] fmix ?_
 refine Dv [1] (Vfa fo105_0 0) (Dv [1] (VldF sh3 0) (Dv [0] (Vfa fo105_0 0) (Dv [0] (VldF sh3 0) ?_)))
 refine letv (cmp_Compare_int a.From b.From) fun rv3 hg4 => ?_
 refine Dx [] [] [0] (fun G => vi rv3) [fun G => SP.fact (i64ok rv3)] (fun G => xC [] ca147 (fn147 a.From b.From pre pre rv3 hg4)) (Dv [1] (Vfa fo105_1 0) (Dv [1] (VldF sh3 0) (Dv [0] (Vfa fo105_1 0) (Dv [0] (VldF sh3 0) ?_))))
 refine letv (cmp_Compare_int a.To b.To) fun rv5 hg6 => ?_
 refine Dx [] [] [0] (fun G => vi rv5) [fun G => SP.fact (i64ok rv5)] (fun G => xC [] ca147 (fn147 a.To b.To pre pre rv5 hg6)) (Dx [] [] [0] (fun G => (G.g 10 0)) [fun G => Cr (G.g 10 0) 2 [vi rv3, vi rv5]] (fun G => xA (AsV sl22 sz22 [vi rv3, vi rv5] [vi rv3, vi rv5])) ?_)
 refine letv (cmp_Or_int [rv3, rv5]) fun rv11 hg12 => ?_
 refine Dx [2, 3, 4] [4] [2, 3, 1, 0] (fun G => vi rv11) [fun G => sl (G.g 10 0) ([rv3, rv5] : List Int), fun G => SP.fact (i64ok rv11)] (fun G => by refine xf 0 rfl ?_; rintro he13; unfold i64ok at he13; refine xf 1 rfl ?_; rintro he14; unfold i64ok at he14; exact xp [2] rfl (Ent.crInt _ [rv3, rv5] _ _ rfl rfl (by intro x hx; simp only [List.mem_cons, List.not_mem_nil, or_false] at hx; rcases hx with rfl | rfl <;> (unfold i64ok; omega)) aB1) (xp [0] rfl (Ent.freeze _ _) (xD [0] ca146 rfl rfl rfl (FT_open (γ := Unit) (I := fun g => i64ok rv11) (V := fun g => vi rv11) (B := fun g => []) (R := sl (G.g 10 0) ([rv3, rv5] : List Int)) sl_slice (fun aq8 kq9 eq10 => by rw [eq10]; exact FT_ent (Ent.take (is := [0]) rfl) (fn146 ([rv3, rv5]) aq8 kq9 rv11 hg12)))))) (Dv [] Va ?_)
 refine Dn ⟨by kernel_rfl, fun G => ?_⟩
 refine Jw2 [(4, vi rv11)] [0, 1] [SP.fact (i64ok rv3), SP.fact (i64ok rv5), sl (G.g 10 0) ([rv3, rv5] : List Int), SP.fact (i64ok rv11)] ?_
 generalize G.g 10 0 = c7
 refine Jf 2 rfl ?_; rintro he15
 unfold i64ok at he15
 refine Jf 3 rfl ?_; rintro he16
 unfold i64ok at he16
 refine Jf 5 rfl ?_; rintro he17
 unfold i64ok at he17
 refine Jk [0, 1, 4] ?_
 refine Jo 2 ?_; rintro a18 k19 rfl
 refine Fb 8 2 fun _ => Fo 2 fun ho21 => ?_
 have hq := q4 hrr rv11 (by simp only [tf_compare, hg4, hg6, hg12, cs4]); subst hq
 exact Kr () rfl (.tmp rfl .nil) [] en
theorem fn76 (t : GTransfer) (ta1 : Option Addr) (tk1 : Nat) (ta3 : Option Addr) (tk3 : Nat) (ta4 : Option Addr) (tk4 : Nat) (b : Int) (ht_0 : i64ok t.Gen.Width) (ht_2 : i64ok t.Kill.Width) (hb_0 : i64ok b) (rr : Bool) (hrr : tf_bit t b = rr) : FT Tryz.prog 76 #[.agg #[vi t.Gen.Width, vl ta1 tk1 t.Gen.Words, vi t.Kill.Width, vl ta3 tk3 t.Kill.Words, vl ta4 tk4 t.Copies], vi b] [S ta1 tk1 t.Gen.Words, S ta3 tk3 t.Kill.Words, S ta4 tk4 t.Copies] (fun g : Unit => True) (fun g => vb rr) (fun g => []) := by
 refine FTi Tryz.func76 fun w0 M0 F0 => ?_
 unfold i64ok at ht_0 ht_2 hb_0
 refine Fb 8 0 fun _ => Fb 8 1 fun _ => Fb 16 2 fun _ => KS ?_
 refine Oa (Ab [vi t.Gen.Width, vl ta1 tk1 t.Gen.Words, vi t.Kill.Width, vl ta3 tk3 t.Kill.Words, vl ta4 tk4 t.Copies]) fun p4 => Oq Va (KS ?_)
 refine Oq Vm (Oq Vgeq (Oq Vm ?_))
 refine Js 7 ?_ ?_
 ·intro h5
  have g6 := dt h5
  refine Oq Vm (Oq (Vfa fo65_0 0) (Oq (VfaF fo42_0 0) (Oq (VldF sh3 0) (Oq Vlss (Oq Vpt (Oq Va (KS ?_)))))))
  have hq := q4 hrr (decide (b < t.Gen.Width)) (by simp only [tf_bit, h5, cs4]); subst hq
  exact Kr () rfl (.tmp rfl .nil) [] trivial
 intro h5
 have g7 := df h5
 refine Osk (Osk (Osk (Osk (Osk (Oq Vpf (Oq Va (KS ?_)))))))
 have hq := q4 hrr false (by simp only [tf_bit, h5, cs4]); subst hq
 exact Kr () rfl (.tmp rfl .nil) [] trivial
theorem fn75 (t : GTransfer) (ta1 : Option Addr) (tk1 : Nat) (ta3 : Option Addr) (tk3 : Nat) (ta4 : Option Addr) (tk4 : Nat) (ht_0 : i64ok t.Gen.Width) (ht_2 : i64ok t.Kill.Width) (rr : Bool) (hrr : tf_Valid t = rr) : FT Tryz.prog 75 #[.agg #[vi t.Gen.Width, vl ta1 tk1 t.Gen.Words, vi t.Kill.Width, vl ta3 tk3 t.Kill.Words, vl ta4 tk4 t.Copies]] [S ta1 tk1 t.Gen.Words, S ta3 tk3 t.Kill.Words, S ta4 tk4 t.Copies] (fun g : Unit => True) (fun g => vb rr) (fun g => []) := by
 refine FTi Tryz.func75 fun w0 M0 F0 => ?_
 unfold i64ok at ht_0 ht_2
 refine Fb 8 0 fun _ => Fb 8 1 fun _ => Fb 16 2 fun _ => KS ?_
 refine Oa (Ab [vi t.Gen.Width, vl ta1 tk1 t.Gen.Words, vi t.Kill.Width, vl ta3 tk3 t.Kill.Words, vl ta4 tk4 t.Copies]) fun p4 => Oq Va (KS ?_)
 refine Oq (Vfa fo65_0 0) (Oq (VldG sh42 0 [vi t.Gen.Width, vl ta1 tk1 t.Gen.Words]) ?_)
 refine letv (bt_Valid t.Gen) fun rv5 hg6 => ?_
 have hc7 := fn79 t.Gen ta1 tk1 pre rv5 hg6
 refine Oc [1] ca79 hc7 ?_
 rintro - -
 refine Oq Vnot (Oq Vm ?_)
 refine Js 9 ?_ ?_
 ·intro h8
  have h10 := not_true h8
  refine Osk (Osk (Osk (Osk (Oq Vpt (Oq Vm (Osk (Osk (Osk (Osk ?_)))))))))
  refine Osk (Osk (Osk (Oq Vpt (Oq Vm (Osk (Osk (Osk (Osk (Oq Vpt ?_)))))))))
  refine KS ?_
  refine Kt (KS ?_)
  refine Oq Va (KS ?_)
  have hq := q4 hrr false (by simp only [tf_Valid, h8, h10, hg6, cs4]); subst hq
  exact Kr () rfl (.tmp rfl .nil) [] trivial
 intro h8
 have h13 := not_false h8
 refine Oq (Vfa fo65_1 0) (Oq (VldG sh42 0 [vi t.Kill.Width, vl ta3 tk3 t.Kill.Words]) ?_)
 refine letv (bt_Valid t.Kill) fun rv15 hg16 => ?_
 have hc17 := fn79 t.Kill ta3 tk3 pre rv15 hg16
 refine Oc [2] ca79 hc17 ?_
 rintro - -
 refine Oq Vnot (Oq Vpf (Oq Vm ?_))
 refine Js 15 ?_ ?_
 ·intro h18
  have h20 := not_true h18
  refine Osk (Osk (Osk (Osk (Osk (Osk (Osk (Oq Vpt (Oq Vm (Osk ?_)))))))))
  refine Osk (Osk (Osk (Oq Vpt (KS ?_))))
  refine Kt (KS ?_)
  refine Oq Va (KS ?_)
  have hq := q4 hrr false (by simp only [tf_Valid, h8, h13, h18, h20, hg6, hg16, cs4]); subst hq
  exact Kr () rfl (.tmp rfl .nil) [] trivial
 intro h18
 have h23 := not_false h18
 refine Oq (Vfa fo65_0 0) (Oq (VfaF fo42_0 0) (Oq (VldF sh3 0) (Oq (Vfa fo65_1 0) (Oq (VfaF fo42_0 0) (Oq (VldF sh3 0) (Oq Vneq (Oq Vpf (Oq Vm ?_))))))))
 refine Js 24 ?_ ?_
 ·intro h25
  have g26 := ne_of_bne h25
  refine Osk (Osk (Osk (Osk (Oq Vpt (KS ?_)))))
  refine Kt (KS ?_)
  refine Oq Va (KS ?_)
  have hq := q4 hrr false (by simp only [tf_Valid, h8, h13, h18, h23, h25, hg6, hg16, cs4]); subst hq
  exact Kr () rfl (.tmp rfl .nil) [] trivial
 intro h25
 have g27 := eq_of_bne_false h25
 refine Oq (Vfa fo65_2 0) (Oq (VldF sh63 0) (Oq (Vlen sl63) (Oq Vgtr (Oq Vpf (KS ?_)))))
 refine Kc ?_ ?_
 ·intro h28
  have g29 := dt h28
  refine KS ?_
  refine Oq Va (KS ?_)
  have hq := q4 hrr false (by simp only [tf_Valid, h8, h13, h18, h23, h25, h28, hg6, hg16, cs4]); subst hq
  exact Kr () rfl (.tmp rfl .nil) [] trivial
 intro h28
 have g30 := df h28
 refine KS ?_
 refine Oq (Vfa fo65_2 0) (Oq (VldF sh63 0) (Oq (Vlen sl63) (Oq Vm (KS ?_))))
 refine Kl (γ := Nat × Int) (fun (r31, v33_32) => ⟨[(1, p4), (31, vl ta4 tk4 t.Copies), (32, vi (t.Copies.length : Int)), (33, vi v33_32)], [pv p4 [vi t.Gen.Width, vl ta1 tk1 t.Gen.Words, vi t.Kill.Width, vl ta3 tk3 t.Kill.Words, vl ta4 tk4 t.Copies], S ta1 tk1 t.Gen.Words, S ta3 tk3 t.Kill.Words, S ta4 tk4 t.Copies], tf_Valid_L0 t r31 v33_32 = tf_Valid_L0 t (((t.Copies.length : Int) - 0).toNat) 0 ∧ r31 = ((t.Copies.length : Int) - v33_32).toNat ∧ (0 : Int) ≤ v33_32 ∧ v33_32 ≤ (t.Copies.length : Int) ∧ (-9223372036854775808 ≤ v33_32 ∧ v33_32 ≤ 9223372036854775807), r31⟩) (((t.Copies.length : Int) - 0).toNat, 0) [0, 1, 2, 3] ⟨rfl, rfl, aM1, aM1, aM1⟩ ?_
 rintro ⟨r31, v33_32⟩ ⟨hM33, hr34, hi35, hi36, hk37⟩
 refine JJ_nx fun _ _ hL hA => ?_; dsimp only at hL hA; subst hL hA
 refine Fb 8 1 fun _ => Fb 8 2 fun _ => Fb 16 3 fun _ => KS ?_
 refine Oq Vlss (KS ?_)
 refine Kc ?_ ?_
 ·intro h41
  have g42 := dt h41
  obtain ⟨r43, rfl⟩ := scc (n := r31) aM1
  refine KS ?_
  refine Oq Vm (Oq (Vi sl63 3) ?_)
  refine JJ_peek_GCopy v33_32.toNat 3 rfl rng fun hb44 hb45 => ?_
  unfold i64ok at hb44 hb45
  refine Oq (VldA sh105 0) (Oa (Al ze105 [vi 0, vi 0]) fun p46 => Oq Va (Ost (Scl [0] sh105 [vi ((t.Copies.getD v33_32.toNat default).From), vi ((t.Copies.getD v33_32.toNat default).To)]) (KS ?_)))
  refine Jp 0 fun hp47 => ?_
  refine letv (tf_bit t ((t.Copies.getD v33_32.toNat default).From)) fun rv48 hg49 => ?_
  refine bool_split (!rv48) ?_ ?_
  ·intro h50
   have h52 := not_true h50
   refine JK_drawK [0, 0, 2, 7, 15, 31, 63, 63, 191, 511, 1023, 2047, 4095, 8191, 16383, 32767, 65535, 131071, 65535, 327679, 1048575, 2097151, 65535, 8388607, 16777215, 33554431, 67108863] fmix ?_
   refine Dv [3] (VldA sh65 0) (Dv [0] (Vfa fo105_0 0) (Dv [1] (VldF sh3 0) (Dx [4, 5, 6] [] [1, 2, 3, 0] (fun G => vb rv48) [fun G => SP.fact (True)] (fun G => xC [0, 1, 2] ca76 (fn76 t ta1 tk1 ta3 tk3 ta4 tk4 ((t.Copies.getD v33_32.toNat default).From) pre pre pre rv48 hg49)) (Db h50 [] Vnot (Dv [] Vm (Ds (Ds (Ds (Ds ?_)))))))))
   refine Ds (Dv [] Vpt (Dv [] Vm (Ds (Ds (Ds (Ds (Ds (Ds (Ds ?_)))))))))
   refine Ds (Ds (Ds (Ds (Ds (Ds (Dv [] Vpt ?_))))))
   refine Dn ⟨by kernel_rfl, fun G => ?_⟩
   refine Jw2 [(1, p4), (31, vl ta4 tk4 t.Copies), (32, vi (t.Copies.length : Int)), (33, vi v33_32), (64, vb true)] [0, 1, 2, 3, 4, 5, 6] [SP.fact (True)] ?_
   refine Jk [1, 1, 2, 3, 4, 5] (Kt ?_)
   refine KS ?_
   refine Oq Va (KS ?_)
   have hR54 := q2 hM33 (.ret false) (by simp only [tf_Valid_L0, h41, h50, h52, hg49, cs4])
   have hq := q4 hrr false (by simp only [tf_Valid, h8, h13, h18, h23, h25, h28, h41, h50, h52, hg6, hg16, hg49, hR54, cs4]); subst hq
   exact Kr () rfl (.tmp rfl .nil) [] trivial
  intro h50
  have h56 := not_false h50
  refine letv (tf_bit t ((t.Copies.getD v33_32.toNat default).To)) fun rv58 hg59 => ?_
  refine bool_split (!rv58) ?_ ?_
  ·intro h60
   have h62 := not_true h60
   refine JK_drawK [0, 0, 2, 7, 15, 31, 63, 63, 191, 511, 1023, 2047, 4095, 8191, 16383, 32767, 65535, 131071, 65535, 327679, 1048575, 2097151, 65535, 8388607, 16777215, 33554431, 67108863] fmix ?_
   refine Dv [3] (VldA sh65 0) (Dv [0] (Vfa fo105_0 0) (Dv [1] (VldF sh3 0) (Dx [4, 5, 6] [] [1, 2, 3, 0] (fun G => vb rv48) [fun G => SP.fact (True)] (fun G => xC [0, 1, 2] ca76 (fn76 t ta1 tk1 ta3 tk3 ta4 tk4 ((t.Copies.getD v33_32.toNat default).From) pre pre pre rv48 hg49)) (Db h50 [] Vnot (Dv [] Vm (Dv [3] (VldA sh65 0) (Dv [0] (Vfa fo105_1 0) (Dv [1] (VldF sh3 0) (Dx [4, 5, 6] [] [1, 2, 3, 0] (fun G => vb rv58) [fun G => SP.fact (True)] (fun G => xC [0, 1, 2] ca76 (fn76 t ta1 tk1 ta3 tk3 ta4 tk4 ((t.Copies.getD v33_32.toNat default).To) pre pre pre rv58 hg59)) ?_)))))))))
   refine Db h60 [] Vnot (Dv [] Vpf (Dv [] Vm (Ds (Ds (Ds (Ds (Ds (Ds (Ds ?_)))))))))
   refine Ds (Ds (Ds (Ds (Ds (Ds (Dv [] Vpt ?_))))))
   refine Dn ⟨by kernel_rfl, fun G => ?_⟩
   refine Jw2 [(1, p4), (31, vl ta4 tk4 t.Copies), (32, vi (t.Copies.length : Int)), (33, vi v33_32), (64, vb true)] [0, 1, 2, 3, 4, 5, 6] [SP.fact (True), SP.fact (True)] ?_
   refine Jk [1, 1, 2, 3, 4, 5] (Kt ?_)
   refine KS ?_
   refine Oq Va (KS ?_)
   have hR64 := q2 hM33 (.ret false) (by simp only [tf_Valid_L0, h41, h50, h56, h60, h62, hg49, hg59, cs4])
   have hq := q4 hrr false (by simp only [tf_Valid, h8, h13, h18, h23, h25, h28, h41, h50, h56, h60, h62, hg6, hg16, hg49, hg59, hR64, cs4]); subst hq
   exact Kr () rfl (.tmp rfl .nil) [] trivial
  intro h60
  have h66 := not_false h60
  refine bool_split (decide (0 < v33_32)) ?_ ?_
  ·intro h68
   have g69 := dt h68
   refine JJ_peek_GCopy ((v33_32 - 1) : Int).toNat 6 rfl rng fun hb70 hb71 => ?_
   unfold i64ok at hb70 hb71
   refine JK_drawK [0, 0, 2, 7, 15, 31, 63, 63, 191, 511, 1023, 2047, 4095, 8191, 16383, 32767, 65535, 131071, 65535, 327679, 1048575, 2097151, 65535, 8388607, 16777215, 33554431, 67108863] fmix ?_
   refine Dv [4] (VldA sh65 0) (Dv [1] (Vfa fo105_0 0) (Dv [2] (VldF sh3 0) (Dx [5, 6, 7] [] [1, 2, 3, 0] (fun G => vb rv48) [fun G => SP.fact (True)] (fun G => xC [0, 1, 2] ca76 (fn76 t ta1 tk1 ta3 tk3 ta4 tk4 ((t.Copies.getD v33_32.toNat default).From) pre pre pre rv48 hg49)) (Db h50 [] Vnot (Dv [] Vm (Dv [4] (VldA sh65 0) (Dv [1] (Vfa fo105_1 0) (Dv [2] (VldF sh3 0) (Dx [5, 6, 7] [] [1, 2, 3, 0] (fun G => vb rv58) [fun G => SP.fact (True)] (fun G => xC [0, 1, 2] ca76 (fn76 t ta1 tk1 ta3 tk3 ta4 tk4 ((t.Copies.getD v33_32.toNat default).To) pre pre pre rv58 hg59)) ?_)))))))))
   refine Db h60 [] Vnot (Dv [] Vpf (Dv [] Vm (Dv [] Vm (Db h68 [] Vgtr (Dv [] Vm (Dv [4] (Vfa fo65_2 0) (Dv [4] (VldF sh63 0) (Dv [] Vm (Dv [] Vsub ?_)))))))))
   refine Dv [7] (Vi sl63 0) (Dv [0] (VldA sh105 0) (Dv [2] (VldA sh105 0) ?_))
   refine letv (tf_compare (t.Copies.getD ((v33_32 - 1) : Int).toNat default) (t.Copies.getD v33_32.toNat default)) fun rv72 hg73 => ?_
   refine Dx [] [] [0] (fun G => vi rv72) [fun G => SP.fact (i64ok rv72)] (fun G => xC [] ca109 (fn109 ((t.Copies.getD ((v33_32 - 1) : Int).toNat default)) ((t.Copies.getD v33_32.toNat default)) pre pre pre pre rv72 hg73)) (Dv [] Vgeq (Dv [] Vpt (Dv [] Vpf ?_)))
   refine Dn ⟨by kernel_rfl, fun G => ?_⟩
   refine Jw2 [(1, p4), (31, vl ta4 tk4 t.Copies), (32, vi (t.Copies.length : Int)), (33, vi v33_32), (64, vb (decide (0 ≤ rv72)))] [0, 1, 2, 3, 4, 5, 6, 7] [SP.fact (True), SP.fact (True), SP.fact (i64ok rv72)] ?_
   refine Jf 10 rfl ?_; rintro he74
   unfold i64ok at he74
   refine Jk [0, 2, 2, 3, 4, 5, 6] ?_
   refine Kc ?_ ?_
   ·intro h75
    have g76 := dt h75
    refine KS ?_
    refine Oq Va (KS ?_)
    have hR77 := q2 hM33 (.ret false) (by simp only [tf_Valid_L0, h41, h50, h56, h60, h66, h68, h75, hg49, hg59, hg73, cs4])
    have hq := q4 hrr false (by simp only [tf_Valid, h8, h13, h18, h23, h25, h28, h41, h50, h56, h60, h66, h68, h75, hg6, hg16, hg49, hg59, hg73, hR77, cs4]); subst hq
    exact Kr () rfl (.tmp rfl .nil) [] trivial
   intro h75
   have g78 := df h75
   refine KS ?_
   refine Oq Vadd (Oq Vm (KS ?_))
   exact Kg (r43, (v33_32 + 1)) [3, 4, 5, 6] ⟨(q3 hM33 (by simp only [tf_Valid_L0, h41, h50, h56, h60, h66, h68, h75, hg49, hg59, hg73, cs4])), aM1, aM1, aM1, aM1⟩
  intro h68
  have g79 := df h68
  refine JK_drawK [0, 0, 2, 7, 15, 31, 63, 63, 191, 511, 1023, 2047, 4095, 8191, 16383, 32767, 65535, 131071, 65535, 327679, 1048575, 2097151, 65535, 8388607, 16777215, 33554431, 67108863] fmix ?_
  refine Dv [3] (VldA sh65 0) (Dv [0] (Vfa fo105_0 0) (Dv [1] (VldF sh3 0) (Dx [4, 5, 6] [] [1, 2, 3, 0] (fun G => vb rv48) [fun G => SP.fact (True)] (fun G => xC [0, 1, 2] ca76 (fn76 t ta1 tk1 ta3 tk3 ta4 tk4 ((t.Copies.getD v33_32.toNat default).From) pre pre pre rv48 hg49)) (Db h50 [] Vnot (Dv [] Vm (Dv [3] (VldA sh65 0) (Dv [0] (Vfa fo105_1 0) (Dv [1] (VldF sh3 0) (Dx [4, 5, 6] [] [1, 2, 3, 0] (fun G => vb rv58) [fun G => SP.fact (True)] (fun G => xC [0, 1, 2] ca76 (fn76 t ta1 tk1 ta3 tk3 ta4 tk4 ((t.Copies.getD v33_32.toNat default).To) pre pre pre rv58 hg59)) ?_)))))))))
  refine Db h60 [] Vnot (Dv [] Vpf (Dv [] Vm (Dv [] Vm (Db h68 [] Vgtr (Dv [] Vm (Ds (Ds (Ds (Ds ?_)))))))))
  refine Ds (Ds (Ds (Ds (Ds (Dv [] Vpf (Dv [] Vpf ?_))))))
  refine Dn ⟨by kernel_rfl, fun G => ?_⟩
  refine Jw2 [(1, p4), (31, vl ta4 tk4 t.Copies), (32, vi (t.Copies.length : Int)), (33, vi v33_32), (64, vb false)] [0, 1, 2, 3, 4, 5, 6] [SP.fact (True), SP.fact (True)] ?_
  refine Jk [1, 1, 2, 3, 4, 5] (Kf ?_)
  refine KS ?_
  refine Oq Vadd (Oq Vm (KS ?_))
  exact Kg (r43, (v33_32 + 1)) [2, 3, 4, 5] ⟨(q3 hM33 (by simp only [tf_Valid_L0, h41, h50, h56, h60, h66, h68, hg49, hg59, cs4])), aM1, aM1, aM1, aM1⟩
 intro h41
 have g80 := df h41
 obtain rfl : r31 = 0 := by omega
 refine Ke ?_
 have hR81 := q2 hM33 (.brk ()) (by simp only [tf_Valid_L0, h41, cs4])
 refine KS ?_
 refine Oq Va (KS ?_)
 have hq := q4 hrr true (by simp only [tf_Valid, h8, h13, h18, h23, h25, h28, h41, hg6, hg16, hR81, cs4]); subst hq
 exact Kr () rfl (.tmp rfl .nil) [] trivial
theorem fn98 (width : Int) (f : GTransfer) (fa1 : Option Addr) (fk1 : Nat) (fa3 : Option Addr) (fk3 : Nat) (fa4 : Option Addr) (fk4 : Nat) (hwidth_0 : i64ok width) (hf_0 : i64ok f.Gen.Width) (hf_2 : i64ok f.Kill.Width) (rr : Bool) (hrr : eq_fits width f = rr) : FT Tryz.prog 98 #[vi width, .agg #[vi f.Gen.Width, vl fa1 fk1 f.Gen.Words, vi f.Kill.Width, vl fa3 fk3 f.Kill.Words, vl fa4 fk4 f.Copies]] [S fa1 fk1 f.Gen.Words, S fa3 fk3 f.Kill.Words, S fa4 fk4 f.Copies] (fun g : Unit => True) (fun g => vb rr) (fun g => []) := by
 refine FTi Tryz.func98 fun w0 M0 F0 => ?_
 unfold i64ok at hwidth_0 hf_0 hf_2
 refine Fb 8 0 fun _ => Fb 8 1 fun _ => Fb 16 2 fun _ => KS ?_
 refine Oa (Ab [vi f.Gen.Width, vl fa1 fk1 f.Gen.Words, vi f.Kill.Width, vl fa3 fk3 f.Kill.Words, vl fa4 fk4 f.Copies]) fun p4 => Oq Va (KS ?_)
 refine Oq (VldA sh65 0) ?_
 refine letv (tf_Valid f) fun rv5 hg6 => ?_
 have hc7 := fn75 f fa1 fk1 fa3 fk3 fa4 fk4 pre pre rv5 hg6
 refine Oc [1, 2, 3] ca75 hc7 ?_
 rintro - -
 refine Oq Vm ?_
 refine Js 7 ?_ ?_
 ·intro h8
  refine Oq (Vfa fo65_0 0) (Oq (VfaF fo42_0 0) (Oq (VldF sh3 0) (Oq Vm (Oq Veql (Oq Vpt (Oq Va (KS ?_)))))))
  have hq := q4 hrr (f.Gen.Width == width) (by simp only [eq_fits, h8, hg6, cs4]); subst hq
  exact Kr () rfl (.tmp rfl .nil) [] trivial
 intro h8
 refine Osk (Osk (Osk (Osk (Osk (Oq Vpf (Oq Va (KS ?_)))))))
 have hq := q4 hrr false (by simp only [eq_fits, h8, hg6, cs4]); subst hq
 exact Kr () rfl (.tmp rfl .nil) [] trivial
theorem fn97 (f : GTransfer) (fa1 : Option Addr) (fk1 : Nat) (fa3 : Option Addr) (fk3 : Nat) (fa4 : Option Addr) (fk4 : Nat) (cap0P : Value) (cap0 : GSystem) (cap0a1 : Option Addr) (cap0k1 : Nat) (cap0a2 : Option Addr) (cap0k2 : Nat) (cap0a3 : Option Addr) (cap0k3 : Nat) (hf_0 : i64ok f.Gen.Width) (hf_2 : i64ok f.Kill.Width) (hcap0_0 : i64ok cap0.Width) (rr : Bool) (hrr : eq_Valid_1 f cap0 = rr) : FT Tryz.prog 97 #[.agg #[vi f.Gen.Width, vl fa1 fk1 f.Gen.Words, vi f.Kill.Width, vl fa3 fk3 f.Kill.Words, vl fa4 fk4 f.Copies], cap0P] [S fa1 fk1 f.Gen.Words, S fa3 fk3 f.Kill.Words, S fa4 fk4 f.Copies, pv cap0P [vi cap0.Width, vl cap0a1 cap0k1 cap0.Deps, vl cap0a2 cap0k2 cap0.Transfers, vl cap0a3 cap0k3 cap0.Boundary], S cap0a1 cap0k1 cap0.Deps, S cap0a2 cap0k2 cap0.Transfers, S cap0a3 cap0k3 cap0.Boundary] (fun g : Unit => True) (fun g => vb rr) (fun g => []) := by
 refine FTi Tryz.func97 fun w0 M0 F0 => ?_
 unfold i64ok at hf_0 hf_2 hcap0_0
 refine Fb 8 0 fun _ => Fb 8 1 fun _ => Fb 16 2 fun _ => Fb 24 4 fun _ => Fb 88 5 fun _ => Fb 32 6 fun _ => KS ?_
 refine Oa (Ab [vi f.Gen.Width, vl fa1 fk1 f.Gen.Words, vi f.Kill.Width, vl fa3 fk3 f.Kill.Words, vl fa4 fk4 f.Copies]) fun p7 => Oq Va (KS ?_)
 refine Oq (Vfa fo27_0 4) (Oq (VldF sh3 4) (Oq (VldA sh65 0) ?_))
 refine letv (eq_fits cap0.Width f) fun rv8 hg9 => ?_
 have hc10 := fn98 cap0.Width f fa1 fk1 fa3 fk3 fa4 fk4 pre pre pre rv8 hg9
 refine Oc [1, 2, 3] ca98 hc10 ?_
 rintro - -
 refine Oq Vnot (Oq Va (KS ?_))
 have hq := q4 hrr (!rv8) (by simp only [eq_Valid_1, hg9, cs4]); subst hq
 exact Kr () rfl (.tmp rfl .nil) [] trivial
theorem fn56 (s : GSystem) (sa1 : Option Addr) (sk1 : Nat) (sa2 : Option Addr) (sk2 : Nat) (sa3 : Option Addr) (sk3 : Nat) (hs_0 : i64ok s.Width) (rr : Bool) (hrr : eq_Valid s = rr) : FT Tryz.prog 56 #[.agg #[vi s.Width, vl sa1 sk1 s.Deps, vl sa2 sk2 s.Transfers, vl sa3 sk3 s.Boundary]] [S sa1 sk1 s.Deps, S sa2 sk2 s.Transfers, S sa3 sk3 s.Boundary] (fun g : Unit => True) (fun g => vb rr) (fun g => []) := by
 refine FTi Tryz.func56 fun w0 M0 F0 => ?_
 unfold i64ok at hs_0
 refine Fb 24 0 fun _ => Fb 88 1 fun _ => Fb 32 2 fun _ => KS ?_
 refine Oa (Ab [vi s.Width, vl sa1 sk1 s.Deps, vl sa2 sk2 s.Transfers, vl sa3 sk3 s.Boundary]) fun p4 => Oq Va (KS ?_)
 refine Oq (Vfa fo27_1 0) (Oq (VldF sh23 0) (Oq (Vlen sl23) (Oq Va (KS ?_))))
 refine Oq (Vfa fo27_0 0) (Oq (VldF sh3 0) (Oq Vm ?_))
 refine letv (eq_sized s.Width (s.Deps.length : Int)) fun rv5 hg6 => ?_
 have hc7 := fn93 s.Width ((s.Deps.length : Int)) pre pre rv5 hg6
 refine Oc [] ca93 hc7 ?_
 rintro - -
 refine Oq Vnot (Oq Vm ?_)
 refine Js 15 ?_ ?_
 ·intro h8
  have h10 := not_true h8
  refine Osk (Osk (Osk (Osk (Osk (Oq Vpt (Oq Vm (Osk (Osk (Osk ?_)))))))))
  refine Osk (Osk (Oq Vpt (KS ?_)))
  refine Kt (KS ?_)
  refine Oq Va (KS ?_)
  have hq := q4 hrr false (by simp only [eq_Valid, h8, h10, hg6, cs4]); subst hq
  exact Kr () rfl (.tmp rfl .nil) [] trivial
 intro h8
 have h13 := not_false h8
 refine Oq (Vfa fo27_2 0) (Oq (VldF sh24 0) (Oq (Vlen sl24) (Oq Vm (Oq Vneq (Oq Vpf (Oq Vm ?_))))))
 refine Js 22 ?_ ?_
 ·intro h15
  have g16 := ne_of_bne h15
  refine Osk (Osk (Osk (Osk (Osk (Oq Vpt (KS ?_))))))
  refine Kt (KS ?_)
  refine Oq Va (KS ?_)
  have hq := q4 hrr false (by simp only [eq_Valid, h8, h13, h15, hg6, cs4]); subst hq
  exact Kr () rfl (.tmp rfl .nil) [] trivial
 intro h15
 have g17 := eq_of_bne_false h15
 refine Oq (Vfa fo27_3 0) (Oq (VldF sh25 0) (Oq (Vlen sl25) (Oq Vm (Oq Vneq (Oq Vpf (KS ?_))))))
 refine Kc ?_ ?_
 ·intro h18
  have g19 := ne_of_bne h18
  refine KS ?_
  refine Oq Va (KS ?_)
  have hq := q4 hrr false (by simp only [eq_Valid, h8, h13, h15, h18, hg6, cs4]); subst hq
  exact Kr () rfl (.tmp rfl .nil) [] trivial
 intro h18
 have g20 := eq_of_bne_false h18
 refine KS ?_
 refine Oq Va (KS ?_)
 refine Oq (Vfa fo27_1 0) (Oq (VldF sh23 0) (Oq (Vlen sl23) (Oq Vm (KS ?_))))
 refine Kl (γ := Nat × Int × Int) (fun (r21, edges_22, v32_23) => ⟨[(1, p4), (3, vi (s.Deps.length : Int)), (4, vi edges_22), (30, vl sa1 sk1 s.Deps), (31, vi (s.Deps.length : Int)), (32, vi v32_23)], [pv p4 [vi s.Width, vl sa1 sk1 s.Deps, vl sa2 sk2 s.Transfers, vl sa3 sk3 s.Boundary], S sa1 sk1 s.Deps, S sa2 sk2 s.Transfers, S sa3 sk3 s.Boundary], eq_Valid_L0 s r21 edges_22 v32_23 = eq_Valid_L0 s (((s.Deps.length : Int) - 0).toNat) 0 0 ∧ r21 = ((s.Deps.length : Int) - v32_23).toNat ∧ (0 : Int) ≤ v32_23 ∧ v32_23 ≤ (s.Deps.length : Int) ∧ (-9223372036854775808 ≤ edges_22 ∧ edges_22 ≤ 9223372036854775807) ∧ (-9223372036854775808 ≤ v32_23 ∧ v32_23 ≤ 9223372036854775807) ∧ 0 ≤ edges_22 ∧ edges_22 ≤ 1024, r21⟩) (((s.Deps.length : Int) - 0).toNat, 0, 0) [0, 1, 2, 3] ⟨rfl, rfl, aM1, aM1, aM1, aM1, iv0⟩ ?_
 rintro ⟨r21, edges_22, v32_23⟩ ⟨hM24, hr25, hi26, hi27, hk28, hk29, hv30⟩
 refine JJ_nx fun _ _ hL hA => ?_; dsimp only at hL hA; subst hL hA
 refine Fb 24 1 fun _ => Fb 88 2 fun _ => Fb 32 3 fun _ => KS ?_
 refine Oq Vlss (KS ?_)
 refine Kc ?_ ?_
 ·intro h34
  have g35 := dt h34
  obtain ⟨r36, rfl⟩ := scc (n := r21) aM1
  refine KS ?_
  refine Oq (Vi sl23 1) ?_
  refine JJ_peekL v32_23.toNat 1 rfl rng fun a37 k38 => ?_
  refine Fb 8 1 fun _ => Fo 1 fun ho40 => ?_
  refine Oq (Vld sh22 0) (Oq Va (KS ?_))
  refine Oq Vm (Oq Vm (Oq (Vlen sl22) (Oq Vadd (Oq Va (KS ?_)))))
  refine Oq Vm (Oq Vgtr (Oq Vm ?_))
  refine Js 42 ?_ ?_
  ·intro h41
   have g42 := dt h41
   refine Osk (Osk (Osk (Osk (Oq Vpt (KS ?_)))))
   refine Kt (KS ?_)
   refine Oq Va (KS ?_)
   have hR43 := q2 hM24 (.ret false) (by simp only [eq_Valid_L0, h34, h41, cs4])
   have hq := q4 hrr false (by simp only [eq_Valid, h8, h13, h15, h18, h34, h41, hg6, hR43, cs4]); subst hq
   exact Kr () rfl (.tmp rfl .nil) [] trivial
  intro h41
  have g44 := df h41
  refine Oq Vm (Oq Vm ?_)
  refine letv (eq_ascending (s.Deps.getD v32_23.toNat []) (s.Deps.length : Int)) fun rv45 hg46 => ?_
  have hc47 := fn94 ((s.Deps.getD v32_23.toNat [])) a37 k38 ((s.Deps.length : Int)) pre rv45 hg46
  refine Oc [1] ca94 hc47 ?_
  rintro - -
  refine Oq Vnot (Oq Vpf (KS ?_))
  refine Kc ?_ ?_
  ·intro h48
   have h50 := not_true h48
   refine KS ?_
   refine Oq Va (KS ?_)
   have hR52 := q2 hM24 (.ret false) (by simp only [eq_Valid_L0, h34, h41, h48, h50, hg46, cs4])
   have hq := q4 hrr false (by simp only [eq_Valid, h8, h13, h15, h18, h34, h41, h48, h50, hg6, hg46, hR52, cs4]); subst hq
   exact Kr () rfl (.tmp rfl .nil) [] trivial
  intro h48
  have h54 := not_false h48
  refine KS ?_
  refine Oq Vadd (Oq Vm (KS ?_))
  exact Kg (r36, (edges_22 + ((s.Deps.getD v32_23.toNat []).length : Int)), (v32_23 + 1)) [2, 3, 4, 5] ⟨(q3 hM24 (by simp only [eq_Valid_L0, h34, h41, h48, h54, hg46, cs4])), aM1, aM1, aM1, aM1, aM1, iv1⟩
 intro h34
 have g56 := df h34
 obtain rfl : r21 = 0 := by omega
 refine Ke ?_
 have hR57 := q2 hM24 (.brk ()) (by simp only [eq_Valid_L0, h34, cs4])
 refine KS ?_
 refine Oq (Vfa fo27_0 0) (Oq (VldF sh3 0) (Oq (Vfa fo27_3 0) (Oq (VldF sh25 0) ?_)))
 refine letv (eq_sets s.Width s.Boundary) fun rv58 hg59 => ?_
 have hc60 := fn95 s.Width s.Boundary sa3 sk3 pre rv58 hg59
 refine Oc [3] ca95 hc60 ?_
 rintro - -
 refine Oq Vm ?_
 refine Js 54 ?_ ?_
 ·intro h61
  refine Oq (Vfa fo27_2 0) (Oq (VldF sh24 0) (Oq (Vf [p4]) ?_))
  refine JJ_ent (Ent.pall [0, 1, 2, 3] rfl rfl) ?_
  refine letv (sc_ContainsFunc_Transfer s.Transfers (fun x => eq_Valid_1 x s)) fun rv63 hg64 => ?_
  have hc65 := fn96 s.Transfers sa2 sk2 97 [p4] (fun x => eq_Valid_1 x s) [pv p4 [vi s.Width, vl sa1 sk1 s.Deps, vl sa2 sk2 s.Transfers, vl sa3 sk3 s.Boundary], S sa1 sk1 s.Deps, S sa2 sk2 s.Transfers, S sa3 sk3 s.Boundary] ca97 (fun x hx a1 k1 a3 k3 a4 k4 hq0 hq2 => FT_pall (A1 := _) (fn97 x a1 k1 a3 k3 a4 k4 p4 s sa1 sk1 sa2 sk2 sa3 sk3 hq0 hq2 pre _ rfl)) rv63 hg64
  refine Oc [3, 0] ca96 hc65 ?_
  rintro - -
  refine Oq Vnot (Oq Vpt (Oq Va (KS ?_)))
  have hq := q4 hrr (!rv63) (by simp only [eq_Valid, h8, h13, h15, h18, h34, h61, hg6, hR57, hg59, hg64, cs4]); subst hq
  exact Kr () rfl (.tmp rfl .nil) [] trivial
 intro h61
 refine Osk (Osk (Osk (Osk (Osk (Oq Vpf (Oq Va (KS ?_)))))))
 have hq := q4 hrr false (by simp only [eq_Valid, h8, h13, h15, h18, h34, h61, hg6, hR57, hg59, cs4]); subst hq
 exact Kr () rfl (.tmp rfl .nil) [] trivial
theorem fn42 (s : GSystem) (sa1 : Option Addr) (sk1 : Nat) (sa2 : Option Addr) (sk2 : Nat) (sa3 : Option Addr) (sk3 : Nat) (n : Int) (bit : Int) (hs_0 : i64ok s.Width) (hn_0 : i64ok n) (hbit_0 : i64ok bit) (rr : Int) (hrr : wt_arguments s n bit = rr) : FT Tryz.prog 42 #[.agg #[vi s.Width, vl sa1 sk1 s.Deps, vl sa2 sk2 s.Transfers, vl sa3 sk3 s.Boundary], vi n, vi bit] [S sa1 sk1 s.Deps, S sa2 sk2 s.Transfers, S sa3 sk3 s.Boundary] (fun g : Unit => i64ok rr) (fun g => vi rr) (fun g => []) := by
 refine FTi Tryz.func42 fun w0 M0 F0 => ?_
 unfold i64ok at hs_0 hn_0 hbit_0
 refine Fb 24 0 fun _ => Fb 88 1 fun _ => Fb 32 2 fun _ => KS ?_
 refine Oa (Ab [vi s.Width, vl sa1 sk1 s.Deps, vl sa2 sk2 s.Transfers, vl sa3 sk3 s.Boundary]) fun p4 => Oq Va (KS ?_)
 refine Oq (VldA sh27 0) ?_
 refine letv (eq_Valid s) fun rv5 hg6 => ?_
 have hc7 := fn56 s sa1 sk1 sa2 sk2 sa3 sk3 pre rv5 hg6
 refine Oc [1, 2, 3] ca56 hc7 ?_
 rintro - -
 refine Oq Vnot (Oq Va (KS ?_))
 refine Kc ?_ ?_
 ·intro h8
  have h10 := not_true h8
  refine KS ?_
  refine Oq Va (KS ?_)
  have hq := q4 hrr 1 (by simp only [wt_arguments, h8, h10, hg6, cs4]); subst hq
  exact Kr () rfl (.tmp rfl .nil) [] en
 intro h8
 have h13 := not_false h8
 refine KS ?_
 refine Oq Vm (Oq Vlss (Oq Vm ?_))
 refine Js 14 ?_ ?_
 ·intro h15
  have g16 := dt h15
  refine Osk (Osk (Osk (Osk (Osk (Oq Vpt (Oq Va (KS ?_)))))))
  refine Kt (KS ?_)
  refine Oq Va (KS ?_)
  have hq := q4 hrr 9 (by simp only [wt_arguments, h8, h13, h15, hg6, cs4]); subst hq
  exact Kr () rfl (.tmp rfl .nil) [] en
 intro h15
 have g17 := df h15
 refine Oq Vm (Oq (Vfa fo27_1 0) (Oq (VldF sh23 0) (Oq (Vlen sl23) (Oq Vgeq (Oq Vpf (Oq Va (KS ?_)))))))
 refine Kc ?_ ?_
 ·intro h18
  have g19 := dt h18
  refine KS ?_
  refine Oq Va (KS ?_)
  have hq := q4 hrr 9 (by simp only [wt_arguments, h8, h13, h15, h18, hg6, cs4]); subst hq
  exact Kr () rfl (.tmp rfl .nil) [] en
 intro h18
 have g20 := df h18
 refine KS ?_
 refine Oq Vm (Oq Vlss (Oq Vm ?_))
 refine Js 24 ?_ ?_
 ·intro h21
  have g22 := dt h21
  refine Osk (Osk (Osk (Osk (Oq Vpt (Oq Va (KS ?_))))))
  refine Kt (KS ?_)
  refine Oq Va (KS ?_)
  have hq := q4 hrr 3 (by simp only [wt_arguments, h8, h13, h15, h18, h21, hg6, cs4]); subst hq
  exact Kr () rfl (.tmp rfl .nil) [] en
 intro h21
 have g23 := df h21
 refine Oq Vm (Oq (Vfa fo27_0 0) (Oq (VldF sh3 0) (Oq Vgeq (Oq Vpf (Oq Va (KS ?_))))))
 refine Kc ?_ ?_
 ·intro h24
  have g25 := dt h24
  refine KS ?_
  refine Oq Va (KS ?_)
  have hq := q4 hrr 3 (by simp only [wt_arguments, h8, h13, h15, h18, h21, h24, hg6, cs4]); subst hq
  exact Kr () rfl (.tmp rfl .nil) [] en
 intro h24
 have g26 := df h24
 refine KS ?_
 refine Oq Va (KS ?_)
 have hq := q4 hrr 0 (by simp only [wt_arguments, h8, h13, h15, h18, h21, h24, hg6, cs4]); subst hq
 exact Kr () rfl (.tmp rfl .nil) [] en
theorem fn80 (s : GSet) (sa1 : Option Addr) (sk1 : Nat) (b : Int) (hs_0 : i64ok s.Width) (hb_0 : i64ok b) (rr : Bool) (hrr : bt_within s b = rr) : FT Tryz.prog 80 #[.agg #[vi s.Width, vl sa1 sk1 s.Words], vi b] [S sa1 sk1 s.Words] (fun g : Unit => True) (fun g => vb rr) (fun g => []) := by
 refine FTi Tryz.func80 fun w0 M0 F0 => ?_
 unfold i64ok at hs_0 hb_0
 refine Fb 8 0 fun _ => KS ?_
 refine Oa (Ab [vi s.Width, vl sa1 sk1 s.Words]) fun p2 => Oq Va (KS ?_)
 refine Oq Vm (Oq Vgeq (Oq Vm ?_))
 refine Js 7 ?_ ?_
 ·intro h3
  have g4 := dt h3
  refine Oq Vm (Oq (Vfa fo42_0 0) (Oq (VldF sh3 0) (Oq Vlss (Oq Vpt (Oq Va (KS ?_))))))
  have hq := q4 hrr (decide (b < s.Width)) (by simp only [bt_within, h3, cs4]); subst hq
  exact Kr () rfl (.tmp rfl .nil) [] trivial
 intro h3
 have g5 := df h3
 refine Osk (Osk (Osk (Osk (Oq Vpf (Oq Va (KS ?_))))))
 have hq := q4 hrr false (by simp only [bt_within, h3, cs4]); subst hq
 exact Kr () rfl (.tmp rfl .nil) [] trivial
theorem fn47 (s : GSet) (sa1 : Option Addr) (sk1 : Nat) (b : Int) (hs_0 : i64ok s.Width) (hb_0 : i64ok b) (rr : Bool) (hrr : bt_Has s b = rr) : FT Tryz.prog 47 #[.agg #[vi s.Width, vl sa1 sk1 s.Words], vi b] [S sa1 sk1 s.Words] (fun g : Unit => True) (fun g => vb rr) (fun g => []) := by
 refine FTi Tryz.func47 fun w0 M0 F0 => ?_
 unfold i64ok at hs_0 hb_0
 refine Fb 8 0 fun _ => KS ?_
 refine Oa (Ab [vi s.Width, vl sa1 sk1 s.Words]) fun p2 => Oq Va (KS ?_)
 refine Oq (VldA sh42 0) ?_
 refine letv (bt_Valid s) fun rv3 hg4 => ?_
 have hc5 := fn79 s sa1 sk1 pre rv3 hg4
 refine Oc [1] ca79 hc5 ?_
 rintro - -
 refine Oq Vm ?_
 refine Js 7 ?_ ?_
 ·intro h6
  try have hrg := PV_w (s := s) (by simp only [h6, hg4])
  try have hwi := within_iff (s := s) (b := b) (by simp only [h6, hg4])
  refine Oq (VldA sh42 0) (Oq Vm ?_)
  refine letv (bt_within s b) fun rv8 hg9 => ?_
  have hc10 := fn80 s sa1 sk1 b pre pre rv8 hg9
  refine Oc [1] ca80 hc10 ?_
  rintro - -
  refine Oq Vpt (Oq Vm ?_)
  refine Js 12 ?_ ?_
  ·intro h11
   try have hrg := PV_w (s := s) (by simp only [h6, h11, hg4, hg9])
   try have hwi := within_iff (s := s) (b := b) (by simp only [h6, h11, hg4, hg9])
   refine Oq (Vfa fo42_1 0) (Oq (VldF sh40 0) (Oq Vm (Oq Vquo (Oq (Vi sl40 1) (Oq (VldU sh91 1) (Oq Vm (Oq (VcU un3 un92) (Oq (VremU (b := 64#64) (by simp)) (Oq VshrU ?_)))))))))
   refine Oq (VandU (b := 1#64)) (Oq (VeqlU (b := 1#64)) (Oq Vpt (Oq Va (KS ?_))))
   have hq := q4 hrr ((((s.Words.getD ((b / 64) : Int).toNat 0#64) >>> ((((BitVec.ofInt 64 b) % 64#64).toNat : Int)).toNat) &&& 1#64) == 1#64) (by simp only [bt_Has, h6, h11, hg4, hg9, cs4]); subst hq
   exact Kr () rfl (.tmp rfl .nil) [] trivial
  intro h11
  refine Osk (Osk (Osk (Osk (Osk (Osk (Osk (Osk (Osk (Osk ?_)))))))))
  refine Osk (Osk (Oq Vpf (Oq Va (KS ?_))))
  have hq := q4 hrr false (by simp only [bt_Has, h6, h11, hg4, hg9, cs4]); subst hq
  exact Kr () rfl (.tmp rfl .nil) [] trivial
 intro h6
 refine Osk (Osk (Osk (Oq Vpf (Oq Vm (Osk (Osk (Osk (Osk (Osk ?_)))))))))
 refine Osk (Osk (Osk (Osk (Osk (Osk (Osk (Oq Vpf (Oq Va (KS ?_)))))))))
 have hq := q4 hrr false (by simp only [bt_Has, h6, hg4, cs4]); subst hq
 exact Kr () rfl (.tmp rfl .nil) [] trivial
theorem fn108 (s : List Int) (sa0 : Option Addr) (sk0 : Nat) (fF : FuncId) (fC : List Value) (fp : Int → Bool) (fA : List SP) (hfc : callable Tryz.prog fF = true) (hfF : ∀ x ∈ s, i64ok x → FT Tryz.prog fF ([(vi x : Value)] ++ fC).toArray ([] ++ [pAll fA]) (fun _ : Unit => True) (fun _ => .bool (fp x)) (fun _ => [])) (rr : Int) (hrr : sc_IndexFunc_int s fp = rr) : FT Tryz.prog 108 #[vl sa0 sk0 s, .func (.func fF) #[] fC.toArray] [S sa0 sk0 s, pAll fA] (fun g : Unit => i64ok rr) (fun g => vi rr) (fun g => []) := by
 refine FTi Tryz.func108 fun w0 M0 F0 => Fb 8 0 fun _ => Fo 0 fun ho2 => ?_
 refine KS ?_
 refine Oq Va (KS ?_)
 refine Oq Vm (Oq (Vlen sl22) (Oq Vm (KS ?_)))
 refine Kl (γ := Nat × Int) (fun (r3, v8_4) => ⟨[(0, vl sa0 sk0 s), (1, .func (.func fF) #[] fC.toArray), (7, vi (s.length : Int)), (8, vi v8_4)], [S sa0 sk0 s, pAll fA], sc_IndexFunc_int_L0 s fp r3 v8_4 = sc_IndexFunc_int_L0 s fp (((s.length : Int) - 0).toNat) 0 ∧ r3 = ((s.length : Int) - v8_4).toNat ∧ (0 : Int) ≤ v8_4 ∧ v8_4 ≤ (s.length : Int) ∧ (-9223372036854775808 ≤ v8_4 ∧ v8_4 ≤ 9223372036854775807), r3⟩) (((s.length : Int) - 0).toNat, 0) [0, 1] ⟨rfl, rfl, aM1, aM1, aM1⟩ ?_
 rintro ⟨r3, v8_4⟩ ⟨hM5, hr6, hi7, hi8, hk9⟩
 refine JJ_nx fun _ _ hL hA => ?_; dsimp only at hL hA; subst hL hA
 refine Fb 8 0 fun _ => Fo 0 fun ho11 => KS ?_
 refine Oq Vlss (KS ?_)
 refine Kc ?_ ?_
 ·intro h12
  have g13 := dt h12
  obtain ⟨r14, rfl⟩ := scc (n := r3) aM1
  refine KS ?_
  refine Oq Vm (Oq Va (KS ?_))
  refine Oq Vm (Oq Vm (Oq Vm (Oq (Vi sl22 0) ?_)))
  have hb15 := ok1 (i := v8_4.toNat) ho11 rng
  refine Oq (VldI sh3 0) ?_
  refine JO_call [1] rfl rfl rfl (OpC.clo (asv := [(vi (s.getD v8_4.toNat 0) : Value)] ++ fC) rfl rfl hfc rfl (by simp)) (hfF (s.getD v8_4.toNat 0) (getD_mem rng)  pre) rfl fun _ _ => ?_
  refine KS ?_
  refine Kc ?_ ?_
  ·intro h16
   refine KS ?_
   refine Oq Vm (Oq Va (KS ?_))
   have hR18 := q2 hM5 (.ret v8_4) (by simp only [sc_IndexFunc_int_L0, h12, h16, cs4])
   have hq := q4 hrr v8_4 (by simp only [sc_IndexFunc_int, h12, h16, hR18, cs4]); subst hq
   exact Kr () rfl (.tmp rfl .nil) [] en
  intro h16
  refine KS ?_
  refine Oq Vadd (Oq Vm (KS ?_))
  exact Kg (r14, (v8_4 + 1)) [0, 1] ⟨(q3 hM5 (by simp only [sc_IndexFunc_int_L0, h12, h16, cs4])), aM1, aM1, aM1, aM1⟩
 intro h12
 have g20 := df h12
 obtain rfl : r3 = 0 := by omega
 refine Ke ?_
 have hR21 := q2 hM5 (.brk ()) (by simp only [sc_IndexFunc_int_L0, h12, cs4])
 refine KS ?_
 refine Oq Va (KS ?_)
 have hq := q4 hrr (-1) (by simp only [sc_IndexFunc_int, h12, hR21, cs4]); subst hq
 exact Kr () rfl (.tmp rfl .nil) [] en
theorem fn72 (s : List Int) (sa0 : Option Addr) (sk0 : Nat) (fF : FuncId) (fC : List Value) (fp : Int → Bool) (fA : List SP) (hfc : callable Tryz.prog fF = true) (hfF : ∀ x ∈ s, i64ok x → FT Tryz.prog fF ([(vi x : Value)] ++ fC).toArray ([] ++ [pAll fA]) (fun _ : Unit => True) (fun _ => .bool (fp x)) (fun _ => [])) (rr : Bool) (hrr : sc_ContainsFunc_int s fp = rr) : FT Tryz.prog 72 #[vl sa0 sk0 s, .func (.func fF) #[] fC.toArray] [S sa0 sk0 s, pAll fA] (fun g : Unit => True) (fun g => vb rr) (fun g => []) := by
 refine FTi Tryz.func72 fun w0 M0 F0 => Fb 8 0 fun _ => Fo 0 fun ho2 => ?_
 refine KS ?_
 refine Oq Va (KS ?_)
 refine Oq Vm (Oq Vm ?_)
 refine letv (sc_IndexFunc_int s fp) fun rv3 hg4 => ?_
 have hc5 := fn108 s sa0 sk0 fF fC fp fA hfc hfF rv3 hg4
 refine Oc [0, 1] ca108 hc5 ?_
 rintro - he6
 unfold i64ok at he6
 refine Oq Vgeq (Oq Va (KS ?_))
 have hq := q4 hrr (decide (0 ≤ rv3)) (by simp only [sc_ContainsFunc_int, hg4, cs4]); subst hq
 exact Kr () rfl (.tmp rfl .nil) [] trivial
theorem fn73 (k : Int) (cap0P : Value) (cap0 : GSystem) (cap0a1 : Option Addr) (cap0k1 : Nat) (cap0a2 : Option Addr) (cap0k2 : Nat) (cap0a3 : Option Addr) (cap0k3 : Nat) (cap1P : Value) (cap1 : GHop) (hk_0 : i64ok k) (hcap0_0 : i64ok cap0.Width) (hcap1_0 : i64ok cap1.Node) (hcap1_1 : i64ok cap1.Bit) (hv0 : VSys cap0) (hk0 : 0 ≤ k ∧ k < (cap0.Deps.length : Int)) (rr : Bool) (hrr : wt_origin_1 k cap0 cap1 = rr) : FT Tryz.prog 73 #[vi k, cap0P, cap1P] [pv cap0P [vi cap0.Width, vl cap0a1 cap0k1 cap0.Deps, vl cap0a2 cap0k2 cap0.Transfers, vl cap0a3 cap0k3 cap0.Boundary], S cap0a1 cap0k1 cap0.Deps, S cap0a2 cap0k2 cap0.Transfers, S cap0a3 cap0k3 cap0.Boundary, pv cap1P [vi cap1.Node, vi cap1.Bit]] (fun g : Unit => True) (fun g => vb rr) (fun g => []) := by
 refine FTi Tryz.func73 fun w0 M0 F0 => ?_
 unfold i64ok at hk_0 hcap0_0 hcap1_0 hcap1_1
 refine Fb 24 1 fun _ => Fb 88 2 fun _ => Fb 32 3 fun _ => ?_
 have hv2 := hv0.tl
 have hv3 := hv0.bl
 refine KS ?_
 refine Oq Va (KS ?_)
 refine JJ_peek_GTransfer k.toNat 2 rfl rng fun a4 k5 a6 k7 a8 k9 hb10 hb11 => ?_
 unfold i64ok at hb10 hb11
 refine Fb 8 1 fun _ => Fb 8 2 fun _ => Fb 16 3 fun _ => ?_
 refine JK_drawK [0, 1, 0, 7, 15, 31, 0, 64, 255, 511] fmix ?_
 refine Dv [4] (Vfa fo27_2 0) (Dv [4] (VldF sh24 0) (Dv [] Vm (Dv [6] (Vi sl24 0) (Dv [0] (Vfa fo65_0 0) (Dv [0] (VldG sh42 0 [vi (((cap0.Transfers.getD k.toNat default).Gen).Width), vl a4 k5 (((cap0.Transfers.getD k.toNat default).Gen).Words)]) (Dv [8] (Vfa fo37_1 0) (Dv [8] (VldF sh3 0) ?_)))))))
 refine letv (bt_Has ((cap0.Transfers.getD k.toNat default).Gen) cap1.Bit) fun rv15 hg16 => ?_
 refine Dx [1] [] [1, 0] (fun G => vb rv15) [fun G => SP.fact (True)] (fun G => xC [0] ca47 (fn47 (((cap0.Transfers.getD k.toNat default).Gen)) a4 k5 cap1.Bit pre pre rv15 hg16)) (Dv [] Va ?_)
 refine Dn ⟨by kernel_rfl, fun G => ?_⟩
 refine Jw2 [(4, vb rv15)] [0, 1, 2, 3, 4, 5, 6, 7, 8] [SP.fact (True)] ?_
 refine Jk [0, 1, 2, 3, 4, 5, 6, 7, 8] ?_
 have hq := q4 hrr rv15 (by simp only [wt_origin_1, hg16, cs4]); subst hq
 exact Kr () rfl (.tmp rfl .nil) [] trivial
theorem fn43 (s : GSystem) (sa1 : Option Addr) (sk1 : Nat) (sa2 : Option Addr) (sk2 : Nat) (sa3 : Option Addr) (sk3 : Nat) (h : GHop) (hs_0 : i64ok s.Width) (hh_0 : i64ok h.Node) (hh_1 : i64ok h.Bit) (hv0 : VSys s) (hn0 : 0 ≤ h.Node ∧ h.Node < (s.Deps.length : Int)) (rr : Bool) (hrr : wt_origin s h = rr) : FT Tryz.prog 43 #[.agg #[vi s.Width, vl sa1 sk1 s.Deps, vl sa2 sk2 s.Transfers, vl sa3 sk3 s.Boundary], .agg #[vi h.Node, vi h.Bit]] [S sa1 sk1 s.Deps, S sa2 sk2 s.Transfers, S sa3 sk3 s.Boundary] (fun g : Unit => True) (fun g => vb rr) (fun g => []) := by
 refine FTi Tryz.func43 fun w0 M0 F0 => ?_
 unfold i64ok at hs_0 hh_0 hh_1
 refine Fb 24 0 fun _ => Fb 88 1 fun _ => Fb 32 2 fun _ => ?_
 have hv2 := hv0.tl
 have hv3 := hv0.bl
 refine KS ?_
 refine Oa (Ab [vi s.Width, vl sa1 sk1 s.Deps, vl sa2 sk2 s.Transfers, vl sa3 sk3 s.Boundary]) fun p4 => Oa (Ab [vi h.Node, vi h.Bit]) fun p5 => Oq Va (KS ?_)
 refine JJ_peek_GSet h.Node.toNat 4 rfl rng fun a6 k7 hb8 => ?_
 unfold i64ok at hb8
 refine Fb 8 1 fun _ => ?_
 refine letv (bt_Has (s.Boundary.getD h.Node.toNat default) h.Bit) fun rv10 hg11 => ?_
 refine bool_split rv10 ?_ ?_
 ·intro h12
  refine JK_drawK [0, 1, 0, 4, 15, 31, 0, 64, 255, 511, 1023, 2047, 1023, 5119, 16383, 32767, 1023, 131071, 262143, 524287] fmix ?_
  refine Dv [3] (Vfa fo27_3 0) (Dv [3] (VldF sh25 0) (Dv [2] (Vfa fo37_0 0) (Dv [2] (VldF sh3 0) (Dv [6] (Vi sl25 0) (Dv [0] (VldA sh42 0) (Dv [2] (Vfa fo37_1 0) (Dv [2] (VldF sh3 0) ?_)))))))
  refine Dx [1] [] [1, 0] (fun G => vb true) [fun G => SP.fact (True)] (fun G => xC [0] ca47 (fn47 ((s.Boundary.getD h.Node.toNat default)) a6 k7 h.Bit pre pre rv10 hg11)) ?_ (hV := fun _ _ => congrArg Value.bool h12)
  refine Dv [] Vm (Ds (Ds (Ds (Ds (Ds (Ds (Ds (Ds (Dv [] Vpt ?_)))))))))
  refine Dv [] Va ?_
  refine Dn ⟨by kernel_rfl, fun G => ?_⟩
  refine Jw2 [(4, vb true)] [0, 1, 2, 3, 4, 5, 6] [SP.fact (True)] ?_
  refine Jk [0, 1, 2, 3, 4, 5, 6] ?_
  have hq := q4 hrr true (by simp only [wt_origin, h12, hg11, cs4]); subst hq
  exact Kr () rfl (.tmp rfl .nil) [] trivial
 intro h12
 refine JJ_peekL h.Node.toNat 4 rfl rng fun a15 k16 => ?_
 refine Fb 8 1 fun _ => Fo 1 fun ho18 => ?_
 refine JK_drawK [0, 1, 0, 4, 15, 31, 0, 64, 255, 511, 1023, 2047, 1023, 5119, 16383, 32767, 1023, 131071, 262143, 524287] fmix ?_
 refine Dv [5] (Vfa fo27_3 0) (Dv [5] (VldF sh25 0) (Dv [4] (Vfa fo37_0 0) (Dv [4] (VldF sh3 0) (Dv [8] (Vi sl25 0) (Dv [2] (VldA sh42 0) (Dv [4] (Vfa fo37_1 0) (Dv [4] (VldF sh3 0) ?_)))))))
 refine Dx [3] [] [1, 0] (fun G => vb false) [fun G => SP.fact (True)] (fun G => xC [0] ca47 (fn47 ((s.Boundary.getD h.Node.toNat default)) a6 k7 h.Bit pre pre rv10 hg11)) ?_ (hV := fun _ _ => congrArg Value.bool h12)
 refine Dv [] Vm (Dv [5] (Vfa fo27_1 0) (Dv [5] (VldF sh23 0) (Dv [4] (Vfa fo37_0 0) (Dv [4] (VldF sh3 0) (Dv [6] (Vi sl23 0) (Dv [0] (Vld sh22 0) (Dv [] (Vf [p4, p5]) ?_)))))))
 refine letv (sc_ContainsFunc_int (s.Deps.getD h.Node.toNat []) (fun x => wt_origin_1 x s h)) fun rv19 hg20 => ?_
 refine Dx [1, 4, 5, 6, 7, 8] [] [2, 3, 4, 5, 6, 7, 1, 0] (fun G => vb rv19) [fun G => pAll [pv p4 [vi s.Width, vl sa1 sk1 s.Deps, vl sa2 sk2 s.Transfers, vl sa3 sk3 s.Boundary], S sa1 sk1 s.Deps, S sa2 sk2 s.Transfers, S sa3 sk3 s.Boundary, pv p5 [vi h.Node, vi h.Bit]], fun G => SP.fact (True)] (fun G => xp [2, 3, 4, 5, 1] rfl (Ent.pallT rfl) (xC [1, 0] ca72 (fn72 ((s.Deps.getD h.Node.toNat [])) a15 k16 73 [p4, p5] (fun x => wt_origin_1 x s h) [pv p4 [vi s.Width, vl sa1 sk1 s.Deps, vl sa2 sk2 s.Transfers, vl sa3 sk3 s.Boundary], S sa1 sk1 s.Deps, S sa2 sk2 s.Transfers, S sa3 sk3 s.Boundary, pv p5 [vi h.Node, vi h.Bit]] ca73 (fun x hx hq0 => FT_pall (A1 := _) (fn73 x  p4 s sa1 sk1 sa2 sk2 sa3 sk3 p5 h hq0 pre pre pre hv0 (hv0.dep_mem hn0.1 hn0.2 _ hx) _ rfl)) rv19 hg20))) (Dv [] Vpf (Dv [] Va ?_))
 refine Dn ⟨by kernel_rfl, fun G => ?_⟩
 refine Jw2 [(4, vb rv19)] [0, 1, 2, 3, 4, 5, 6, 7, 8] [SP.fact (True), pAll [pv p4 [vi s.Width, vl sa1 sk1 s.Deps, vl sa2 sk2 s.Transfers, vl sa3 sk3 s.Boundary], S sa1 sk1 s.Deps, S sa2 sk2 s.Transfers, S sa3 sk3 s.Boundary, pv p5 [vi h.Node, vi h.Bit]], SP.fact (True)] ?_
 refine Jk [0, 1, 2, 3, 4, 5, 6, 7, 8, 10] ?_
 have hq := q4 hrr rv19 (by simp only [wt_origin, h12, hg11, hg20, cs4]); subst hq
 exact Kr () rfl (.tmp rfl .nil) [] trivial
theorem fn74 (s : List Int) (sa0 : Option Addr) (sk0 : Nat) (v : Int) (hv_0 : i64ok v) (rr : Int) (hrr : sc_Index_int s v = rr) : FT Tryz.prog 74 #[vl sa0 sk0 s, vi v] [S sa0 sk0 s] (fun g : Unit => i64ok rr) (fun g => vi rr) (fun g => []) := by
 refine FTi Tryz.func74 fun w0 M0 F0 => ?_
 unfold i64ok at hv_0
 refine Fb 8 0 fun _ => Fo 0 fun ho2 => KS ?_
 refine Oq Va (KS ?_)
 refine Oq Vm (Oq (Vlen sl22) (Oq Vm (KS ?_)))
 refine Kl (γ := Nat × Int) (fun (r3, v8_4) => ⟨[(0, vl sa0 sk0 s), (1, vi v), (7, vi (s.length : Int)), (8, vi v8_4)], [S sa0 sk0 s], sc_Index_int_L0 s v r3 v8_4 = sc_Index_int_L0 s v (((s.length : Int) - 0).toNat) 0 ∧ r3 = ((s.length : Int) - v8_4).toNat ∧ (0 : Int) ≤ v8_4 ∧ v8_4 ≤ (s.length : Int) ∧ (-9223372036854775808 ≤ v8_4 ∧ v8_4 ≤ 9223372036854775807), r3⟩) (((s.length : Int) - 0).toNat, 0) [0] ⟨rfl, rfl, aM1, aM1, aM1⟩ ?_
 rintro ⟨r3, v8_4⟩ ⟨hM5, hr6, hi7, hi8, hk9⟩
 refine JJ_nx fun _ _ hL hA => ?_; dsimp only at hL hA; subst hL hA
 refine Fb 8 0 fun _ => Fo 0 fun ho11 => KS ?_
 refine Oq Vlss (KS ?_)
 refine Kc ?_ ?_
 ·intro h12
  have g13 := dt h12
  obtain ⟨r14, rfl⟩ := scc (n := r3) aM1
  refine KS ?_
  refine Oq Vm (Oq Va (KS ?_))
  refine Oq Vm (Oq Vm (Oq Vm (Oq (Vi sl22 0) ?_)))
  have hb15 := ok1 (i := v8_4.toNat) ho11 rng
  refine Oq (VldI sh3 0) (Oq Veql (KS ?_))
  refine Kc ?_ ?_
  ·intro h16
   have g17 := eq_of_beq h16
   refine KS ?_
   refine Oq Vm (Oq Va (KS ?_))
   have hR18 := q2 hM5 (.ret v8_4) (by simp only [sc_Index_int_L0, h12, h16, cs4])
   have hq := q4 hrr v8_4 (by simp only [sc_Index_int, h12, h16, hR18, cs4]); subst hq
   exact Kr () rfl (.tmp rfl .nil) [] en
  intro h16
  have g19 := ne_of_beq_false h16
  refine KS ?_
  refine Oq Vadd (Oq Vm (KS ?_))
  exact Kg (r14, (v8_4 + 1)) [0] ⟨(q3 hM5 (by simp only [sc_Index_int_L0, h12, h16, cs4])), aM1, aM1, aM1, aM1⟩
 intro h12
 have g20 := df h12
 obtain rfl : r3 = 0 := by omega
 refine Ke ?_
 have hR21 := q2 hM5 (.brk ()) (by simp only [sc_Index_int_L0, h12, cs4])
 refine KS ?_
 refine Oq Va (KS ?_)
 have hq := q4 hrr (-1) (by simp only [sc_Index_int, h12, hR21, cs4]); subst hq
 exact Kr () rfl (.tmp rfl .nil) [] en
theorem fn44 (s : List Int) (sa0 : Option Addr) (sk0 : Nat) (v : Int) (hv_0 : i64ok v) (rr : Bool) (hrr : sc_Contains_int s v = rr) : FT Tryz.prog 44 #[vl sa0 sk0 s, vi v] [S sa0 sk0 s] (fun g : Unit => True) (fun g => vb rr) (fun g => []) := by
 refine FTi Tryz.func44 fun w0 M0 F0 => ?_
 unfold i64ok at hv_0
 refine Fb 8 0 fun _ => Fo 0 fun ho2 => KS ?_
 refine Oq Va (KS ?_)
 refine Oq Vm (Oq Vm ?_)
 refine letv (sc_Index_int s v) fun rv3 hg4 => ?_
 have hc5 := fn74 s sa0 sk0 v pre rv3 hg4
 refine Oc [0] ca74 hc5 ?_
 rintro - he6
 unfold i64ok at he6
 refine Oq Vgeq (Oq Va (KS ?_))
 have hq := q4 hrr (decide (0 ≤ rv3)) (by simp only [sc_Contains_int, hg4, cs4]); subst hq
 exact Kr () rfl (.tmp rfl .nil) [] trivial
theorem fn175 (s : List GCopy) (sa0 : Option Addr) (sk0 : Nat) (fF : FuncId) (fC : List Value) (fp : GCopy → Bool) (fA : List SP) (hfc : callable Tryz.prog fF = true) (hfF : ∀ x ∈ s, i64ok x.From → i64ok x.To → FT Tryz.prog fF ([(.agg #[vi x.From, vi x.To] : Value)] ++ fC).toArray ([] ++ [pAll fA]) (fun _ : Unit => True) (fun _ => .bool (fp x)) (fun _ => [])) (rr : Int) (hrr : sc_IndexFunc_Copy s fp = rr) : FT Tryz.prog 175 #[vl sa0 sk0 s, .func (.func fF) #[] fC.toArray] [S sa0 sk0 s, pAll fA] (fun g : Unit => i64ok rr) (fun g => vi rr) (fun g => []) := by
 refine FTi Tryz.func175 fun w0 M0 F0 => Fb 16 0 fun _ => ?_
 refine KS ?_
 refine Oq Va (KS ?_)
 refine Oq Vm (Oq (Vlen sl63) (Oq Vm (KS ?_)))
 refine Kl (γ := Nat × Int) (fun (r2, v8_3) => ⟨[(0, vl sa0 sk0 s), (1, .func (.func fF) #[] fC.toArray), (7, vi (s.length : Int)), (8, vi v8_3)], [S sa0 sk0 s, pAll fA], sc_IndexFunc_Copy_L0 s fp r2 v8_3 = sc_IndexFunc_Copy_L0 s fp (((s.length : Int) - 0).toNat) 0 ∧ r2 = ((s.length : Int) - v8_3).toNat ∧ (0 : Int) ≤ v8_3 ∧ v8_3 ≤ (s.length : Int) ∧ (-9223372036854775808 ≤ v8_3 ∧ v8_3 ≤ 9223372036854775807), r2⟩) (((s.length : Int) - 0).toNat, 0) [0, 1] ⟨rfl, rfl, aM1, aM1, aM1⟩ ?_
 rintro ⟨r2, v8_3⟩ ⟨hM4, hr5, hi6, hi7, hk8⟩
 refine JJ_nx fun _ _ hL hA => ?_; dsimp only at hL hA; subst hL hA
 refine Fb 16 0 fun _ => KS ?_
 refine Oq Vlss (KS ?_)
 refine Kc ?_ ?_
 ·intro h10
  have g11 := dt h10
  obtain ⟨r12, rfl⟩ := scc (n := r2) aM1
  refine KS ?_
  refine Oq Vm (Oq Va (KS ?_))
  refine Oq Vm (Oq Vm (Oq Vm (Oq (Vi sl63 0) ?_)))
  refine JJ_peek_GCopy v8_3.toNat 0 rfl rng fun hb13 hb14 => ?_
  unfold i64ok at hb13 hb14
  refine Oq (VldA sh105 0) ?_
  refine JO_call [2] rfl rfl rfl (OpC.clo (asv := [(.agg #[vi ((s.getD v8_3.toNat default).From), vi ((s.getD v8_3.toNat default).To)] : Value)] ++ fC) rfl rfl hfc rfl (by simp)) (hfF (s.getD v8_3.toNat default) (getD_mem rng)  pre pre) rfl fun _ _ => ?_
  refine KS ?_
  refine Kc ?_ ?_
  ·intro h15
   refine KS ?_
   refine Oq Vm (Oq Va (KS ?_))
   have hR17 := q2 hM4 (.ret v8_3) (by simp only [sc_IndexFunc_Copy_L0, h10, h15, cs4])
   have hq := q4 hrr v8_3 (by simp only [sc_IndexFunc_Copy, h10, h15, hR17, cs4]); subst hq
   exact Kr () rfl (.tmp rfl .nil) [] en
  intro h15
  refine KS ?_
  refine Oq Vadd (Oq Vm (KS ?_))
  exact Kg (r12, (v8_3 + 1)) [1, 2] ⟨(q3 hM4 (by simp only [sc_IndexFunc_Copy_L0, h10, h15, cs4])), aM1, aM1, aM1, aM1⟩
 intro h10
 have g19 := df h10
 obtain rfl : r2 = 0 := by omega
 refine Ke ?_
 have hR20 := q2 hM4 (.brk ()) (by simp only [sc_IndexFunc_Copy_L0, h10, cs4])
 refine KS ?_
 refine Oq Va (KS ?_)
 have hq := q4 hrr (-1) (by simp only [sc_IndexFunc_Copy, h10, hR20, cs4]); subst hq
 exact Kr () rfl (.tmp rfl .nil) [] en
theorem fn148 (s : List GCopy) (sa0 : Option Addr) (sk0 : Nat) (fF : FuncId) (fC : List Value) (fp : GCopy → Bool) (fA : List SP) (hfc : callable Tryz.prog fF = true) (hfF : ∀ x ∈ s, i64ok x.From → i64ok x.To → FT Tryz.prog fF ([(.agg #[vi x.From, vi x.To] : Value)] ++ fC).toArray ([] ++ [pAll fA]) (fun _ : Unit => True) (fun _ => .bool (fp x)) (fun _ => [])) (rr : Bool) (hrr : sc_ContainsFunc_Copy s fp = rr) : FT Tryz.prog 148 #[vl sa0 sk0 s, .func (.func fF) #[] fC.toArray] [S sa0 sk0 s, pAll fA] (fun g : Unit => True) (fun g => vb rr) (fun g => []) := by
 refine FTi Tryz.func148 fun w0 M0 F0 => Fb 16 0 fun _ => ?_
 refine KS ?_
 refine Oq Va (KS ?_)
 refine Oq Vm (Oq Vm ?_)
 refine letv (sc_IndexFunc_Copy s fp) fun rv2 hg3 => ?_
 have hc4 := fn175 s sa0 sk0 fF fC fp fA hfc hfF rv2 hg3
 refine Oc [0, 1] ca175 hc4 ?_
 rintro - he5
 unfold i64ok at he5
 refine Oq Vgeq (Oq Va (KS ?_))
 have hq := q4 hrr (decide (0 ≤ rv2)) (by simp only [sc_ContainsFunc_Copy, hg3, cs4]); subst hq
 exact Kr () rfl (.tmp rfl .nil) [] trivial
theorem fn149 (x : GCopy) (cap0P : Value) (cap0 : GCopy) (hx_0 : i64ok x.From) (hx_1 : i64ok x.To) (hcap0_0 : i64ok cap0.From) (hcap0_1 : i64ok cap0.To) (rr : Bool) (hrr : tf_copied_1 x cap0 = rr) : FT Tryz.prog 149 #[.agg #[vi x.From, vi x.To], cap0P] [pv cap0P [vi cap0.From, vi cap0.To]] (fun g : Unit => True) (fun g => vb rr) (fun g => []) := by
 refine FTi Tryz.func149 fun w0 M0 F0 => ?_
 unfold i64ok at hx_0 hx_1 hcap0_0 hcap0_1
 refine KS ?_
 refine Oa (Ab [vi x.From, vi x.To]) fun p1 => Oq Va (KS ?_)
 refine Oq (VldA sh105 0) (Oq (VldA sh105 1) (Oq (VeqA eqi105 (l := [x.From, x.To]) (m := [cap0.From, cap0.To])) (Oq Va (KS ?_))))
 have hq := q4 hrr ([x.From, x.To] == [cap0.From, cap0.To]) (by simp only [tf_copied_1, cs4]); subst hq
 exact Kr () rfl (.tmp rfl .nil) [] trivial
theorem fn110 (t : GTransfer) (ta1 : Option Addr) (tk1 : Nat) (ta3 : Option Addr) (tk3 : Nat) (ta4 : Option Addr) (tk4 : Nat) (c : GCopy) (ht_0 : i64ok t.Gen.Width) (ht_2 : i64ok t.Kill.Width) (hc_0 : i64ok c.From) (hc_1 : i64ok c.To) (rr : Bool) (hrr : tf_copied t c = rr) : FT Tryz.prog 110 #[.agg #[vi t.Gen.Width, vl ta1 tk1 t.Gen.Words, vi t.Kill.Width, vl ta3 tk3 t.Kill.Words, vl ta4 tk4 t.Copies], .agg #[vi c.From, vi c.To]] [S ta1 tk1 t.Gen.Words, S ta3 tk3 t.Kill.Words, S ta4 tk4 t.Copies] (fun g : Unit => True) (fun g => vb rr) (fun g => []) := by
 refine FTi Tryz.func110 fun w0 M0 F0 => ?_
 unfold i64ok at ht_0 ht_2 hc_0 hc_1
 refine Fb 8 0 fun _ => Fb 8 1 fun _ => Fb 16 2 fun _ => KS ?_
 refine Oa (Ab [vi t.Gen.Width, vl ta1 tk1 t.Gen.Words, vi t.Kill.Width, vl ta3 tk3 t.Kill.Words, vl ta4 tk4 t.Copies]) fun p4 => Oa (Ab [vi c.From, vi c.To]) fun p5 => Oq Va (KS ?_)
 refine Oq (Vfa fo65_2 1) (Oq (VldF sh63 1) (Oq (Vf [p5]) ?_))
 refine JJ_ent (Ent.pall [0] rfl rfl) ?_
 refine letv (sc_ContainsFunc_Copy t.Copies (fun x => tf_copied_1 x c)) fun rv6 hg7 => ?_
 have hc8 := fn148 t.Copies ta4 tk4 149 [p5] (fun x => tf_copied_1 x c) [pv p5 [vi c.From, vi c.To]] ca149 (fun x hx hq0 hq1 => FT_pall (A1 := _) (fn149 x  p5 c hq0 hq1 pre pre _ rfl)) rv6 hg7
 refine Oc [5, 0] ca148 hc8 ?_
 rintro - -
 refine Oq Va (KS ?_)
 have hq := q4 hrr rv6 (by simp only [tf_copied, hg7, cs4]); subst hq
 exact Kr () rfl (.tmp rfl .nil) [] trivial
theorem fn77 (t : GTransfer) (ta1 : Option Addr) (tk1 : Nat) (ta3 : Option Addr) (tk3 : Nat) (ta4 : Option Addr) (tk4 : Nat) (from_ : Int) (to_ : Int) (ht_0 : i64ok t.Gen.Width) (ht_2 : i64ok t.Kill.Width) (hfrom__0 : i64ok from_) (hto__0 : i64ok to_) (rr : Bool) (hrr : tf_follows t from_ to_ = rr) : FT Tryz.prog 77 #[.agg #[vi t.Gen.Width, vl ta1 tk1 t.Gen.Words, vi t.Kill.Width, vl ta3 tk3 t.Kill.Words, vl ta4 tk4 t.Copies], vi from_, vi to_] [S ta1 tk1 t.Gen.Words, S ta3 tk3 t.Kill.Words, S ta4 tk4 t.Copies] (fun g : Unit => True) (fun g => vb rr) (fun g => []) := by
 refine FTi Tryz.func77 fun w0 M0 F0 => ?_
 unfold i64ok at ht_0 ht_2 hfrom__0 hto__0
 refine Fb 8 0 fun _ => Fb 8 1 fun _ => Fb 16 2 fun _ => KS ?_
 refine Oa (Ab [vi t.Gen.Width, vl ta1 tk1 t.Gen.Words, vi t.Kill.Width, vl ta3 tk3 t.Kill.Words, vl ta4 tk4 t.Copies]) fun p4 => Oq Va (KS ?_)
 refine Oq Vm (Oq Vm (Oq Veql (Oq Vm ?_)))
 refine Js 10 ?_ ?_
 ·intro h5
  have g6 := eq_of_beq h5
  refine Oq (Vfa fo65_1 0) (Oq (VldG sh42 0 [vi t.Kill.Width, vl ta3 tk3 t.Kill.Words]) (Oq Vm ?_))
  refine letv (bt_Has t.Kill to_) fun rv7 hg8 => ?_
  have hc9 := fn47 t.Kill ta3 tk3 to_ pre pre rv7 hg8
  refine Oc [2] ca47 hc9 ?_
  rintro - -
  refine Oq Vnot (Oq Vpt (Oq Vm ?_))
  refine Js 17 ?_ ?_
  ·intro h10
   have h12 := not_true h10
   refine Osk (Osk (Osk (Osk (Osk (Oq Vpt (Oq Va (KS ?_)))))))
   have hq := q4 hrr true (by simp only [tf_follows, h5, h10, h12, hg8, cs4]); subst hq
   exact Kr () rfl (.tmp rfl .nil) [] trivial
  intro h10
  have h15 := not_false h10
  refine Oq (VldA sh65 0) (Oq Vm (Oq Vm (Oq (Vbd st105 [vi from_, vi to_]) ?_)))
  refine letv (tf_copied t (GCopy.mk from_ to_)) fun rv17 hg18 => ?_
  have hc19 := fn110 t ta1 tk1 ta3 tk3 ta4 tk4 ((GCopy.mk from_ to_)) pre pre pre pre rv17 hg18
  refine Oc [1, 2, 3] ca110 hc19 ?_
  rintro - -
  refine Oq Vpf (Oq Va (KS ?_))
  have hq := q4 hrr rv17 (by simp only [tf_follows, h5, h10, h15, hg8, hg18, cs4]); subst hq
  exact Kr () rfl (.tmp rfl .nil) [] trivial
 intro h5
 have g20 := ne_of_beq_false h5
 refine Osk (Osk (Osk (Osk (Osk (Oq Vpf (Oq Vm (Oq (VldA sh65 0) (Oq Vm (Oq Vm ?_)))))))))
 refine Oq (Vbd st105 [vi from_, vi to_]) ?_
 refine letv (tf_copied t (GCopy.mk from_ to_)) fun rv21 hg22 => ?_
 have hc23 := fn110 t ta1 tk1 ta3 tk3 ta4 tk4 ((GCopy.mk from_ to_)) pre pre pre pre rv21 hg22
 refine Oc [1, 2, 3] ca110 hc23 ?_
 rintro - -
 refine Oq Vpf (Oq Va (KS ?_))
 have hq := q4 hrr rv21 (by simp only [tf_follows, h5, hg22, cs4]); subst hq
 exact Kr () rfl (.tmp rfl .nil) [] trivial
theorem fn45 (t : GTransfer) (ta1 : Option Addr) (tk1 : Nat) (ta3 : Option Addr) (tk3 : Nat) (ta4 : Option Addr) (tk4 : Nat) (from_ : Int) (to_ : Int) (ht_0 : i64ok t.Gen.Width) (ht_2 : i64ok t.Kill.Width) (hfrom__0 : i64ok from_) (hto__0 : i64ok to_) (rr : Bool) (hrr : tf_Follows t from_ to_ = rr) : FT Tryz.prog 45 #[.agg #[vi t.Gen.Width, vl ta1 tk1 t.Gen.Words, vi t.Kill.Width, vl ta3 tk3 t.Kill.Words, vl ta4 tk4 t.Copies], vi from_, vi to_] [S ta1 tk1 t.Gen.Words, S ta3 tk3 t.Kill.Words, S ta4 tk4 t.Copies] (fun g : Unit => True) (fun g => vb rr) (fun g => []) := by
 refine FTi Tryz.func45 fun w0 M0 F0 => ?_
 unfold i64ok at ht_0 ht_2 hfrom__0 hto__0
 refine Fb 8 0 fun _ => Fb 8 1 fun _ => Fb 16 2 fun _ => KS ?_
 refine Oa (Ab [vi t.Gen.Width, vl ta1 tk1 t.Gen.Words, vi t.Kill.Width, vl ta3 tk3 t.Kill.Words, vl ta4 tk4 t.Copies]) fun p4 => Oq Va (KS ?_)
 refine Oq (VldA sh65 0) ?_
 refine letv (tf_Valid t) fun rv5 hg6 => ?_
 have hc7 := fn75 t ta1 tk1 ta3 tk3 ta4 tk4 pre pre rv5 hg6
 refine Oc [1, 2, 3] ca75 hc7 ?_
 rintro - -
 refine Oq Vm ?_
 refine Js 9 ?_ ?_
 ·intro h8
  refine Oq (VldA sh65 0) (Oq Vm ?_)
  refine letv (tf_bit t from_) fun rv10 hg11 => ?_
  have hc12 := fn76 t ta1 tk1 ta3 tk3 ta4 tk4 from_ pre pre pre rv10 hg11
  refine Oc [1, 2, 3] ca76 hc12 ?_
  rintro - -
  refine Oq Vpt (Oq Vm ?_)
  refine Js 14 ?_ ?_
  ·intro h13
   refine Oq (VldA sh65 0) (Oq Vm ?_)
   refine letv (tf_bit t to_) fun rv15 hg16 => ?_
   have hc17 := fn76 t ta1 tk1 ta3 tk3 ta4 tk4 to_ pre pre pre rv15 hg16
   refine Oc [1, 2, 3] ca76 hc17 ?_
   rintro - -
   refine Oq Vpt (Oq Vm ?_)
   refine Js 19 ?_ ?_
   ·intro h18
    refine Oq (VldA sh65 0) (Oq Vm (Oq Vm ?_))
    refine letv (tf_follows t from_ to_) fun rv20 hg21 => ?_
    have hc22 := fn77 t ta1 tk1 ta3 tk3 ta4 tk4 from_ to_ pre pre pre pre rv20 hg21
    refine Oc [1, 2, 3] ca77 hc22 ?_
    rintro - -
    refine Oq Vpt (Oq Va (KS ?_))
    have hq := q4 hrr rv20 (by simp only [tf_Follows, h8, h13, h18, hg6, hg11, hg16, hg21, cs4]); subst hq
    exact Kr () rfl (.tmp rfl .nil) [] trivial
   intro h18
   refine Osk (Osk (Osk (Osk (Oq Vpf (Oq Va (KS ?_))))))
   have hq := q4 hrr false (by simp only [tf_Follows, h8, h13, h18, hg6, hg11, hg16, cs4]); subst hq
   exact Kr () rfl (.tmp rfl .nil) [] trivial
  intro h13
  refine Osk (Osk (Osk (Oq Vpf (Oq Vm (Osk (Osk (Osk (Osk (Oq Vpf ?_)))))))))
  refine Oq Va (KS ?_)
  have hq := q4 hrr false (by simp only [tf_Follows, h8, h13, hg6, hg11, cs4]); subst hq
  exact Kr () rfl (.tmp rfl .nil) [] trivial
 intro h8
 refine Osk (Osk (Osk (Oq Vpf (Oq Vm (Osk (Osk (Osk (Oq Vpf (Oq Vm ?_)))))))))
 refine Osk (Osk (Osk (Osk (Oq Vpf (Oq Va (KS ?_))))))
 have hq := q4 hrr false (by simp only [tf_Follows, h8, hg6, cs4]); subst hq
 exact Kr () rfl (.tmp rfl .nil) [] trivial
theorem fn14 (s : GSystem) (sa1 : Option Addr) (sk1 : Nat) (sa2 : Option Addr) (sk2 : Nat) (sa3 : Option Addr) (sk3 : Nat) (n : Int) (bit : Int) (l : List GHop) (la0 : Option Addr) (lk0 : Nat) (hs_0 : i64ok s.Width) (hn_0 : i64ok n) (hbit_0 : i64ok bit) (rr : Bool) (hrr : wt_Check s n bit l = rr) : FT Tryz.prog 14 #[.agg #[vi s.Width, vl sa1 sk1 s.Deps, vl sa2 sk2 s.Transfers, vl sa3 sk3 s.Boundary], vi n, vi bit, vl la0 lk0 l] [S sa1 sk1 s.Deps, S sa2 sk2 s.Transfers, S sa3 sk3 s.Boundary, S la0 lk0 l] (fun g : Unit => True) (fun g => vb rr) (fun g => []) := by
 refine FTi Tryz.func14 fun w0 M0 F0 => ?_
 unfold i64ok at hs_0 hn_0 hbit_0
 refine Fb 24 0 fun _ => Fb 88 1 fun _ => Fb 32 2 fun _ => Fb 16 3 fun _ => KS ?_
 refine Oa (Ab [vi s.Width, vl sa1 sk1 s.Deps, vl sa2 sk2 s.Transfers, vl sa3 sk3 s.Boundary]) fun p5 => Oq Va (KS ?_)
 refine Oq (VldA sh27 0) (Oq Vm (Oq Vm ?_))
 refine letv (wt_arguments s n bit) fun rv6 hg7 => ?_
 have hc8 := fn42 s sa1 sk1 sa2 sk2 sa3 sk3 n bit pre pre pre rv6 hg7
 refine Oc [1, 2, 3] ca42 hc8 ?_
 rintro - he9
 unfold i64ok at he9
 refine Oq Vneq (Oq Vm ?_)
 refine Js 16 ?_ ?_
 ·intro h10
  have g11 := ne_of_bne h10
  refine Osk (Osk (Osk (Oq Vpt (Oq Vm (Osk (Osk (Osk (Osk (Osk ?_)))))))))
  refine Osk (Osk (Osk (Osk (Osk (Oq Vpt (KS ?_))))))
  refine Kt (KS ?_)
  refine Oq Va (KS ?_)
  have hq := q4 hrr false (by simp only [wt_Check, h10, hg7, cs4]); subst hq
  exact Kr () rfl (.tmp rfl .nil) [] trivial
 intro h10
 have g12 := eq_of_bne_false h10
 have hwa := wargs_0 (by assumption : wt_arguments s _ _ = rv6) h10; have hwt := hwa.2.1; have hwb := hwa.1.bl; have hwc := hwa.1.tl
 refine Oq Vm (Oq (Vlen sl28) (Oq Veql (Oq Vpf (Oq Vm ?_))))
 refine Js 21 ?_ ?_
 ·intro h13
  have g14 := eq_of_beq h13
  refine Osk (Osk (Osk (Osk (Osk (Osk (Osk (Osk (Osk (Osk ?_)))))))))
  refine Oq Vpt (KS ?_)
  refine Kt (KS ?_)
  refine Oq Va (KS ?_)
  have hq := q4 hrr false (by simp only [wt_Check, h10, h13, hg7, cs4]); subst hq
  exact Kr () rfl (.tmp rfl .nil) [] trivial
 intro h13
 have g15 := ne_of_beq_false h13
 refine Oq Vm (Oq Vm (Oq (Vlen sl28) (Oq Vsub (Oq (Vi sl28 4) ?_))))
 refine JJ_peek_GHop (((l.length : Int) - 1) : Int).toNat 4 rfl rng fun hb16 hb17 => ?_
 unfold i64ok at hb16 hb17
 refine Oq (VldA sh37 0) (Oq Vm (Oq Vm (Oq (Vbd st37 [vi n, vi bit]) (Oq (VneA eqi37 (l := [(l.getD (((l.length : Int) - 1) : Int).toNat default).Node, (l.getD (((l.length : Int) - 1) : Int).toNat default).Bit]) (m := [n, bit])) (Oq Vpf (KS ?_))))))
 refine Kc ?_ ?_
 ·intro h18
  have g19 := ne_of_bne h18
  refine KS ?_
  refine Oq Va (KS ?_)
  have hq := q4 hrr false (by simp only [wt_Check, h10, h13, h18, hg7, cs4]); subst hq
  exact Kr () rfl (.tmp rfl .nil) [] trivial
 intro h18
 have g20 := eq_of_bne_false h18
 refine KS ?_
 refine Oq Vm (Oq (Vlen sl28) (Oq Vm (KS ?_)))
 refine Kl (γ := Nat × Int) (fun (r21, v35_22) => ⟨[(3, vl la0 lk0 l), (4, p5), (33, vl la0 lk0 l), (34, vi (l.length : Int)), (35, vi v35_22)], [pv p5 [vi s.Width, vl sa1 sk1 s.Deps, vl sa2 sk2 s.Transfers, vl sa3 sk3 s.Boundary], S sa1 sk1 s.Deps, S sa2 sk2 s.Transfers, S sa3 sk3 s.Boundary, S la0 lk0 l], wt_Check_L0 s l r21 v35_22 = wt_Check_L0 s l (((l.length : Int) - 0).toNat) 0 ∧ r21 = ((l.length : Int) - v35_22).toNat ∧ (0 : Int) ≤ v35_22 ∧ v35_22 ≤ (l.length : Int) ∧ (-9223372036854775808 ≤ v35_22 ∧ v35_22 ≤ 9223372036854775807), r21⟩) (((l.length : Int) - 0).toNat, 0) [1, 2, 3, 4, 5] ⟨rfl, rfl, aM1, aM1, aM1⟩ ?_
 rintro ⟨r21, v35_22⟩ ⟨hM23, hr24, hi25, hi26, hk27⟩
 refine JJ_nx fun _ _ hL hA => ?_; dsimp only at hL hA; subst hL hA
 refine Fb 24 1 fun _ => Fb 88 2 fun _ => Fb 32 3 fun _ => Fb 16 4 fun _ => KS ?_
 refine Oq Vlss (KS ?_)
 refine Kc ?_ ?_
 ·intro h32
  have g33 := dt h32
  obtain ⟨r34, rfl⟩ := scc (n := r21) aM1
  refine KS ?_
  refine Oq Vm (Oq (Vi sl28 4) ?_)
  refine JJ_peek_GHop v35_22.toNat 4 rfl rng fun hb35 hb36 => ?_
  unfold i64ok at hb35 hb36
  refine Oq (VldA sh37 0) (Oa (Al ze37 [vi 0, vi 0]) fun p37 => Oq Va (Ost (Scl [0] sh37 [vi ((l.getD v35_22.toNat default).Node), vi ((l.getD v35_22.toNat default).Bit)]) (KS ?_)))
  refine Oq (VldA sh27 2) (Oq (Vfa fo37_0 0) (Oq (VldF sh3 0) (Oq (Vfa fo37_1 0) (Oq (VldF sh3 0) ?_))))
  refine letv (wt_arguments s ((l.getD v35_22.toNat default).Node) ((l.getD v35_22.toNat default).Bit)) fun rv38 hg39 => ?_
  have hc40 := fn42 s sa1 sk1 sa2 sk2 sa3 sk3 ((l.getD v35_22.toNat default).Node) ((l.getD v35_22.toNat default).Bit) pre pre pre rv38 hg39
  refine Oc [3, 4, 5] ca42 hc40 ?_
  rintro - he41
  unfold i64ok at he41
  refine Oq Vneq (Oq Vm ?_)
  refine Js 47 ?_ ?_
  ·intro h42
   have g43 := ne_of_bne h42
   refine Osk (Osk (Osk (Osk (Osk (Osk (Osk (Osk (Oq Vpt (KS ?_)))))))))
   refine Kt (KS ?_)
   refine Oq Va (KS ?_)
   have hR44 := q2 hM23 (.ret false) (by simp only [wt_Check_L0, h32, h42, hg39, cs4])
   have hq := q4 hrr false (by simp only [wt_Check, h10, h13, h18, h32, h42, hg7, hg39, hR44, cs4]); subst hq
   exact Kr () rfl (.tmp rfl .nil) [] trivial
  intro h42
  have g45 := eq_of_bne_false h42
  have hwa := wargs_0 (by assumption : wt_arguments s _ _ = rv38) h42; have hwt := hwa.2.1; have hwb := hwa.1.bl; have hwc := hwa.1.tl
  refine Oq Vm (Oq Veql (Oq Vm ?_))
  refine Js 50 ?_ ?_
  ·intro h46
   have g47 := eq_of_beq h46
   refine Oq (VldA sh27 2) (Oq (VldA sh37 0) ?_)
   refine letv (wt_origin s (l.getD v35_22.toNat default)) fun rv48 hg49 => ?_
   have hc50 := fn43 s sa1 sk1 sa2 sk2 sa3 sk3 ((l.getD v35_22.toNat default)) pre pre pre hwa.1 hwa.2.1 rv48 hg49
   refine Oc [3, 4, 5] ca43 hc50 ?_
   rintro - -
   refine Oq Vnot (Oq Vpt (Oq Vpf (KS ?_)))
   refine Kc ?_ ?_
   ·intro h51
    have h53 := not_true h51
    refine KS ?_
    refine Oq Va (KS ?_)
    have hR55 := q2 hM23 (.ret false) (by simp only [wt_Check_L0, h32, h42, h46, h51, h53, hg39, hg49, cs4])
    have hq := q4 hrr false (by simp only [wt_Check, h10, h13, h18, h32, h42, h46, h51, h53, hg7, hg39, hg49, hR55, cs4]); subst hq
    exact Kr () rfl (.tmp rfl .nil) [] trivial
   intro h51
   have h57 := not_false h51
   try (have hq := hwa.1.dep_mem hwa.2.1.1 hwa.2.1.2 _ ((Contains_iff _ _).1 ((by assumption : sc_Contains_int _ _ = rv48).trans h57)))
   refine KS ?_
   refine Jp 0 fun hp59 => ?_
   refine bool_split (decide (0 < v35_22)) ?_ ?_
   ·intro h60
    have g61 := dt h60
    refine JJ_peekL ((l.getD v35_22.toNat default).Node : Int).toNat 4 rfl rng fun a62 k63 => ?_
    refine Fb 8 1 fun _ => Fo 1 fun ho65 => ?_
    refine JJ_peek_GHop ((v35_22 - 1) : Int).toNat 9 rfl rng fun hb66 hb67 => ?_
    unfold i64ok at hb66 hb67
    refine letv (sc_Contains_int (s.Deps.getD ((l.getD v35_22.toNat default).Node : Int).toNat []) ((l.getD ((v35_22 - 1) : Int).toNat default).Node)) fun rv68 hg69 => ?_
    refine bool_split rv68 ?_ ?_
    ·intro h70
     try (have hq := hwa.1.dep_mem hwa.2.1.1 hwa.2.1.2 _ ((Contains_iff _ _).1 ((by assumption : sc_Contains_int _ _ = rv68).trans h70)))
     refine JJ_peek_GTransfer ((l.getD ((v35_22 - 1) : Int).toNat default).Node : Int).toNat 8 rfl rng fun a72 k73 a74 k75 a76 k77 hb78 hb79 => ?_
     unfold i64ok at hb78 hb79
     refine Fb 8 1 fun _ => Fb 8 2 fun _ => Fb 16 3 fun _ => ?_
     refine JK_drawK [0, 1, 3, 7, 15, 7, 39, 127, 255, 7, 7, 1031, 3591, 7687, 15879, 32767, 65535, 131071, 262143, 131071, 131071, 1179647, 3801087, 7995391, 16383999, 33554431, 67108863, 131071, 131071, 268566527, 939655167, 2013396991, 4160880639, 131071, 8590065663, 34359738367, 68719476735, 137438953471, 274877906943] fmix ?_
     refine Dv [] Vm (Db h60 [] Vgtr (Dv [] Vm (Dv [10] (Vfa fo27_1 0) (Dv [10] (VldF sh23 0) (Dv [7] (Vfa fo37_0 0) (Dv [8] (VldF sh3 0) (Dv [11] (Vi sl23 0) (Dv [5] (Vld sh22 0) (Dv [] Vm ?_)))))))))
     refine Dv [] Vm (Dv [] Vsub (Dv [14] (Vi sl28 0) (Dv [4] (Vfa fo37_0 0) (Dv [4] (VldF sh3 0) ?_))))
     refine Dx [6] [] [1, 0] (fun G => vb true) [fun G => SP.fact (True)] (fun G => xC [0] ca44 (fn44 ((s.Deps.getD ((l.getD v35_22.toNat default).Node : Int).toNat [])) a62 k63 ((l.getD ((v35_22 - 1) : Int).toNat default).Node) pre rv68 hg69)) ?_ (hV := fun _ _ => congrArg Value.bool h70)
     refine Dv [] Vm (Dv [10] (Vfa fo27_2 0) (Dv [10] (VldF sh24 0) (Dv [] Vm (Dv [] Vm (Dv [] Vsub (Dv [14] (Vi sl28 0) (Dv [4] (Vfa fo37_0 0) (Dv [4] (VldF sh3 0) (Dv [12] (Vi sl24 0) ?_)))))))))
     refine Dv [0] (VldA sh65 0) (Dv [] Vm (Dv [] Vm (Dv [] Vsub (Dv [14] (Vi sl28 0) (Dv [4] (Vfa fo37_1 0) (Dv [4] (VldF sh3 0) (Dv [7] (Vfa fo37_1 0) (Dv [8] (VldF sh3 0) ?_))))))))
     refine letv (tf_Follows (s.Transfers.getD ((l.getD ((v35_22 - 1) : Int).toNat default).Node : Int).toNat default) ((l.getD ((v35_22 - 1) : Int).toNat default).Bit) ((l.getD v35_22.toNat default).Bit)) fun rv83 hg84 => ?_
     refine Dx [1, 2, 3] [] [1, 2, 3, 0] (fun G => vb rv83) [fun G => SP.fact (True)] (fun G => xC [0, 1, 2] ca45 (fn45 ((s.Transfers.getD ((l.getD ((v35_22 - 1) : Int).toNat default).Node : Int).toNat default)) a72 k73 a74 k75 a76 k77 ((l.getD ((v35_22 - 1) : Int).toNat default).Bit) ((l.getD v35_22.toNat default).Bit) pre pre pre pre rv83 hg84)) (Dv [] Vpt (Dv [] Vnot (Dv [] Vpt ?_)))
     refine Dn ⟨by kernel_rfl, fun G => ?_⟩
     refine Jw2 [(3, vl la0 lk0 l), (4, p5), (33, vl la0 lk0 l), (34, vi (l.length : Int)), (35, vi v35_22), (95, vb (!rv83))] [0, 1, 2, 3, 4, 5, 6, 7, 8, 9, 10, 11, 12, 13, 14] [SP.fact (True), SP.fact (True)] ?_
     refine Jk [0, 1, 2, 3, 4, 5, 6, 8, 8, 9, 10, 11, 12, 13] ?_
     refine Kc ?_ ?_
     ·intro h85
      have h87 := not_true h85
      refine KS ?_
      refine Oq Va (KS ?_)
      have hR89 := q2 hM23 (.ret false) (by simp only [wt_Check_L0, h32, h42, h46, h51, h57, h60, h70, h85, h87, hg39, hg49, hg69, hg84, cs4])
      have hq := q4 hrr false (by simp only [wt_Check, h10, h13, h18, h32, h42, h46, h51, h57, h60, h70, h85, h87, hg7, hg39, hg49, hg69, hg84, hR89, cs4]); subst hq
      exact Kr () rfl (.tmp rfl .nil) [] trivial
     intro h85
     have h91 := not_false h85
     try (have hq := hwa.1.dep_mem hwa.2.1.1 hwa.2.1.2 _ ((Contains_iff _ _).1 ((by assumption : sc_Contains_int _ _ = rv83).trans h91)))
     refine KS ?_
     refine Oq Vadd (Oq Vm (KS ?_))
     exact Kg (r34, (v35_22 + 1)) [9, 10, 11, 12, 13] ⟨(q3 hM23 (by simp only [wt_Check_L0, h32, h42, h46, h51, h57, h60, h70, h85, h91, hg39, hg49, hg69, hg84, cs4])), aM1, aM1, aM1, aM1⟩
    intro h70
    refine JK_drawK [0, 1, 3, 7, 15, 7, 39, 127, 255, 7, 7, 1031, 3591, 7687, 15879, 32767, 65535, 131071, 262143, 131071, 131071, 1179647, 3801087, 7995391, 16383999, 33554431, 67108863, 131071, 131071, 268566527, 939655167, 2013396991, 4160880639, 131071, 8590065663, 34359738367, 68719476735, 137438953471, 274877906943] fmix ?_
    refine Dv [] Vm (Db h60 [] Vgtr (Dv [] Vm (Dv [6] (Vfa fo27_1 0) (Dv [6] (VldF sh23 0) (Dv [3] (Vfa fo37_0 0) (Dv [4] (VldF sh3 0) (Dv [7] (Vi sl23 0) (Dv [1] (Vld sh22 0) (Dv [] Vm ?_)))))))))
    refine Dv [] Vm (Dv [] Vsub (Dv [10] (Vi sl28 0) (Dv [0] (Vfa fo37_0 0) (Dv [0] (VldF sh3 0) ?_))))
    refine Dx [2] [] [1, 0] (fun G => vb false) [fun G => SP.fact (True)] (fun G => xC [0] ca44 (fn44 ((s.Deps.getD ((l.getD v35_22.toNat default).Node : Int).toNat [])) a62 k63 ((l.getD ((v35_22 - 1) : Int).toNat default).Node) pre rv68 hg69)) ?_ (hV := fun _ _ => congrArg Value.bool h70)
    refine Dv [] Vm (Ds (Ds (Ds (Ds (Ds (Ds (Ds (Ds (Ds ?_)))))))))
    refine Ds (Ds (Ds (Ds (Ds (Ds (Ds (Ds (Ds (Ds ?_)))))))))
    refine Dv [] Vpf (Dv [] Vnot (Dv [] Vpt ?_))
    refine Dn ⟨by kernel_rfl, fun G => ?_⟩
    refine Jw2 [(3, vl la0 lk0 l), (4, p5), (33, vl la0 lk0 l), (34, vi (l.length : Int)), (35, vi v35_22), (95, vb true)] [0, 1, 2, 3, 4, 5, 6, 7, 8, 9, 10] [SP.fact (True)] ?_
    refine Jk [0, 1, 2, 4, 4, 5, 6, 7, 8, 9] (Kt ?_)
    refine KS ?_
    refine Oq Va (KS ?_)
    have hR94 := q2 hM23 (.ret false) (by simp only [wt_Check_L0, h32, h42, h46, h51, h57, h60, h70, hg39, hg49, hg69, cs4])
    have hq := q4 hrr false (by simp only [wt_Check, h10, h13, h18, h32, h42, h46, h51, h57, h60, h70, hg7, hg39, hg49, hg69, hR94, cs4]); subst hq
    exact Kr () rfl (.tmp rfl .nil) [] trivial
   intro h60
   have g95 := df h60
   refine Kq [0, 1, 3, 7, 15, 7, 39, 127, 255, 7, 7, 1031, 3591, 7687, 15879, 32767, 65535, 131071, 262143, 131071, 131071, 1179647, 3801087, 7995391, 16383999, 33554431, 67108863, 131071, 131071, 268566527, 939655167, 2013396991, 4160880639, 131071, 8590065663, 34359738367, 68719476735, 137438953471, 274877906943] fmix ?_
   refine Qv [] Vm (Qb h60 [] Vgtr (Qv [] Vm (Qs (Qs (Qs (Qs (Qs (Qs (Qs ?_)))))))))
   refine Qs (Qs (Qs (Qs (Qs (Qs (Qs (Qs (Qs (Qs ?_)))))))))
   refine Qs (Qs (Qs (Qs (Qs (Qs (Qs (Qs (Qs (Qs ?_)))))))))
   refine Qs (Qs (Qs (Qs (Qs (Qs (Qs (Qs (Qv [] Vpf ?_))))))))
   refine Qn ⟨by kernel_rfl, ?_⟩
   refine Kf (KS ?_)
   refine Oq Vadd (Oq Vm (KS ?_))
   exact Kg (r34, (v35_22 + 1)) [3, 4, 5, 6, 7] ⟨(q3 hM23 (by simp only [wt_Check_L0, h32, h42, h46, h51, h57, h60, hg39, hg49, cs4])), aM1, aM1, aM1, aM1⟩
  intro h46
  have g96 := ne_of_beq_false h46
  refine Osk (Osk (Osk (Osk (Oq Vpf (Oq Vpf (KS ?_))))))
  refine Kf (KS ?_)
  refine Jp 0 fun hp97 => ?_
  refine bool_split (decide (0 < v35_22)) ?_ ?_
  ·intro h98
   have g99 := dt h98
   refine JJ_peekL ((l.getD v35_22.toNat default).Node : Int).toNat 4 rfl rng fun a100 k101 => ?_
   refine Fb 8 1 fun _ => Fo 1 fun ho103 => ?_
   refine JJ_peek_GHop ((v35_22 - 1) : Int).toNat 9 rfl rng fun hb104 hb105 => ?_
   unfold i64ok at hb104 hb105
   refine letv (sc_Contains_int (s.Deps.getD ((l.getD v35_22.toNat default).Node : Int).toNat []) ((l.getD ((v35_22 - 1) : Int).toNat default).Node)) fun rv106 hg107 => ?_
   refine bool_split rv106 ?_ ?_
   ·intro h108
    try (have hq := hwa.1.dep_mem hwa.2.1.1 hwa.2.1.2 _ ((Contains_iff _ _).1 ((by assumption : sc_Contains_int _ _ = rv106).trans h108)))
    refine JJ_peek_GTransfer ((l.getD ((v35_22 - 1) : Int).toNat default).Node : Int).toNat 8 rfl rng fun a110 k111 a112 k113 a114 k115 hb116 hb117 => ?_
    unfold i64ok at hb116 hb117
    refine Fb 8 1 fun _ => Fb 8 2 fun _ => Fb 16 3 fun _ => ?_
    refine JK_drawK [0, 1, 3, 7, 15, 7, 39, 127, 255, 7, 7, 1031, 3591, 7687, 15879, 32767, 65535, 131071, 262143, 131071, 131071, 1179647, 3801087, 7995391, 16383999, 33554431, 67108863, 131071, 131071, 268566527, 939655167, 2013396991, 4160880639, 131071, 8590065663, 34359738367, 68719476735, 137438953471, 274877906943] fmix ?_
    refine Dv [] Vm (Db h98 [] Vgtr (Dv [] Vm (Dv [10] (Vfa fo27_1 0) (Dv [10] (VldF sh23 0) (Dv [7] (Vfa fo37_0 0) (Dv [8] (VldF sh3 0) (Dv [11] (Vi sl23 0) (Dv [5] (Vld sh22 0) (Dv [] Vm ?_)))))))))
    refine Dv [] Vm (Dv [] Vsub (Dv [14] (Vi sl28 0) (Dv [4] (Vfa fo37_0 0) (Dv [4] (VldF sh3 0) ?_))))
    refine Dx [6] [] [1, 0] (fun G => vb true) [fun G => SP.fact (True)] (fun G => xC [0] ca44 (fn44 ((s.Deps.getD ((l.getD v35_22.toNat default).Node : Int).toNat [])) a100 k101 ((l.getD ((v35_22 - 1) : Int).toNat default).Node) pre rv106 hg107)) ?_ (hV := fun _ _ => congrArg Value.bool h108)
    refine Dv [] Vm (Dv [10] (Vfa fo27_2 0) (Dv [10] (VldF sh24 0) (Dv [] Vm (Dv [] Vm (Dv [] Vsub (Dv [14] (Vi sl28 0) (Dv [4] (Vfa fo37_0 0) (Dv [4] (VldF sh3 0) (Dv [12] (Vi sl24 0) ?_)))))))))
    refine Dv [0] (VldA sh65 0) (Dv [] Vm (Dv [] Vm (Dv [] Vsub (Dv [14] (Vi sl28 0) (Dv [4] (Vfa fo37_1 0) (Dv [4] (VldF sh3 0) (Dv [7] (Vfa fo37_1 0) (Dv [8] (VldF sh3 0) ?_))))))))
    refine letv (tf_Follows (s.Transfers.getD ((l.getD ((v35_22 - 1) : Int).toNat default).Node : Int).toNat default) ((l.getD ((v35_22 - 1) : Int).toNat default).Bit) ((l.getD v35_22.toNat default).Bit)) fun rv121 hg122 => ?_
    refine Dx [1, 2, 3] [] [1, 2, 3, 0] (fun G => vb rv121) [fun G => SP.fact (True)] (fun G => xC [0, 1, 2] ca45 (fn45 ((s.Transfers.getD ((l.getD ((v35_22 - 1) : Int).toNat default).Node : Int).toNat default)) a110 k111 a112 k113 a114 k115 ((l.getD ((v35_22 - 1) : Int).toNat default).Bit) ((l.getD v35_22.toNat default).Bit) pre pre pre pre rv121 hg122)) (Dv [] Vpt (Dv [] Vnot (Dv [] Vpt ?_)))
    refine Dn ⟨by kernel_rfl, fun G => ?_⟩
    refine Jw2 [(3, vl la0 lk0 l), (4, p5), (33, vl la0 lk0 l), (34, vi (l.length : Int)), (35, vi v35_22), (95, vb (!rv121))] [0, 1, 2, 3, 4, 5, 6, 7, 8, 9, 10, 11, 12, 13, 14] [SP.fact (True), SP.fact (True)] ?_
    refine Jk [0, 1, 2, 3, 4, 5, 6, 8, 8, 9, 10, 11, 12, 13] ?_
    refine Kc ?_ ?_
    ·intro h123
     have h125 := not_true h123
     refine KS ?_
     refine Oq Va (KS ?_)
     have hR127 := q2 hM23 (.ret false) (by simp only [wt_Check_L0, h32, h42, h46, h98, h108, h123, h125, hg39, hg107, hg122, cs4])
     have hq := q4 hrr false (by simp only [wt_Check, h10, h13, h18, h32, h42, h46, h98, h108, h123, h125, hg7, hg39, hg107, hg122, hR127, cs4]); subst hq
     exact Kr () rfl (.tmp rfl .nil) [] trivial
    intro h123
    have h129 := not_false h123
    try (have hq := hwa.1.dep_mem hwa.2.1.1 hwa.2.1.2 _ ((Contains_iff _ _).1 ((by assumption : sc_Contains_int _ _ = rv121).trans h129)))
    refine KS ?_
    refine Oq Vadd (Oq Vm (KS ?_))
    exact Kg (r34, (v35_22 + 1)) [9, 10, 11, 12, 13] ⟨(q3 hM23 (by simp only [wt_Check_L0, h32, h42, h46, h98, h108, h123, h129, hg39, hg107, hg122, cs4])), aM1, aM1, aM1, aM1⟩
   intro h108
   refine JK_drawK [0, 1, 3, 7, 15, 7, 39, 127, 255, 7, 7, 1031, 3591, 7687, 15879, 32767, 65535, 131071, 262143, 131071, 131071, 1179647, 3801087, 7995391, 16383999, 33554431, 67108863, 131071, 131071, 268566527, 939655167, 2013396991, 4160880639, 131071, 8590065663, 34359738367, 68719476735, 137438953471, 274877906943] fmix ?_
   refine Dv [] Vm (Db h98 [] Vgtr (Dv [] Vm (Dv [6] (Vfa fo27_1 0) (Dv [6] (VldF sh23 0) (Dv [3] (Vfa fo37_0 0) (Dv [4] (VldF sh3 0) (Dv [7] (Vi sl23 0) (Dv [1] (Vld sh22 0) (Dv [] Vm ?_)))))))))
   refine Dv [] Vm (Dv [] Vsub (Dv [10] (Vi sl28 0) (Dv [0] (Vfa fo37_0 0) (Dv [0] (VldF sh3 0) ?_))))
   refine Dx [2] [] [1, 0] (fun G => vb false) [fun G => SP.fact (True)] (fun G => xC [0] ca44 (fn44 ((s.Deps.getD ((l.getD v35_22.toNat default).Node : Int).toNat [])) a100 k101 ((l.getD ((v35_22 - 1) : Int).toNat default).Node) pre rv106 hg107)) ?_ (hV := fun _ _ => congrArg Value.bool h108)
   refine Dv [] Vm (Ds (Ds (Ds (Ds (Ds (Ds (Ds (Ds (Ds ?_)))))))))
   refine Ds (Ds (Ds (Ds (Ds (Ds (Ds (Ds (Ds (Ds ?_)))))))))
   refine Dv [] Vpf (Dv [] Vnot (Dv [] Vpt ?_))
   refine Dn ⟨by kernel_rfl, fun G => ?_⟩
   refine Jw2 [(3, vl la0 lk0 l), (4, p5), (33, vl la0 lk0 l), (34, vi (l.length : Int)), (35, vi v35_22), (95, vb true)] [0, 1, 2, 3, 4, 5, 6, 7, 8, 9, 10] [SP.fact (True)] ?_
   refine Jk [0, 1, 2, 4, 4, 5, 6, 7, 8, 9] (Kt ?_)
   refine KS ?_
   refine Oq Va (KS ?_)
   have hR132 := q2 hM23 (.ret false) (by simp only [wt_Check_L0, h32, h42, h46, h98, h108, hg39, hg107, cs4])
   have hq := q4 hrr false (by simp only [wt_Check, h10, h13, h18, h32, h42, h46, h98, h108, hg7, hg39, hg107, hR132, cs4]); subst hq
   exact Kr () rfl (.tmp rfl .nil) [] trivial
  intro h98
  have g133 := df h98
  refine Kq [0, 1, 3, 7, 15, 7, 39, 127, 255, 7, 7, 1031, 3591, 7687, 15879, 32767, 65535, 131071, 262143, 131071, 131071, 1179647, 3801087, 7995391, 16383999, 33554431, 67108863, 131071, 131071, 268566527, 939655167, 2013396991, 4160880639, 131071, 8590065663, 34359738367, 68719476735, 137438953471, 274877906943] fmix ?_
  refine Qv [] Vm (Qb h98 [] Vgtr (Qv [] Vm (Qs (Qs (Qs (Qs (Qs (Qs (Qs ?_)))))))))
  refine Qs (Qs (Qs (Qs (Qs (Qs (Qs (Qs (Qs (Qs ?_)))))))))
  refine Qs (Qs (Qs (Qs (Qs (Qs (Qs (Qs (Qs (Qs ?_)))))))))
  refine Qs (Qs (Qs (Qs (Qs (Qs (Qs (Qs (Qv [] Vpf ?_))))))))
  refine Qn ⟨by kernel_rfl, ?_⟩
  refine Kf (KS ?_)
  refine Oq Vadd (Oq Vm (KS ?_))
  exact Kg (r34, (v35_22 + 1)) [3, 4, 5, 6, 7] ⟨(q3 hM23 (by simp only [wt_Check_L0, h32, h42, h46, h98, hg39, cs4])), aM1, aM1, aM1, aM1⟩
 intro h32
 have g134 := df h32
 obtain rfl : r21 = 0 := by omega
 refine Ke ?_
 have hR135 := q2 hM23 (.brk ()) (by simp only [wt_Check_L0, h32, cs4])
 refine KS ?_
 refine Oq Va (KS ?_)
 have hq := q4 hrr true (by simp only [wt_Check, h10, h13, h18, h32, hg7, hR135, cs4]); subst hq
 exact Kr () rfl (.tmp rfl .nil) [] trivial
theorem fn141 (v : GSet) (va1 : Option Addr) (vk1 : Nat) (hv_0 : i64ok v.Width) (rr : Bool) (hrr : eq_Right_1 v = rr) : FT Tryz.prog 141 #[.agg #[vi v.Width, vl va1 vk1 v.Words]] [S va1 vk1 v.Words] (fun g : Unit => True) (fun g => vb rr) (fun g => []) := by
 refine FTi Tryz.func141 fun w0 M0 F0 => ?_
 unfold i64ok at hv_0
 refine Fb 8 0 fun _ => KS ?_
 refine Oa (Ab [vi v.Width, vl va1 vk1 v.Words]) fun p2 => Oq Va (KS ?_)
 refine Oq (VldA sh42 0) ?_
 refine letv (bt_Valid v) fun rv3 hg4 => ?_
 have hc5 := fn79 v va1 vk1 pre rv3 hg4
 refine Oc [1] ca79 hc5 ?_
 rintro - -
 refine Oq Vnot (Oq Va (KS ?_))
 have hq := q4 hrr (!rv3) (by simp only [eq_Right_1, hg4, cs4]); subst hq
 exact Kr () rfl (.tmp rfl .nil) [] trivial
theorem fn142 (s : List (BitVec 64)) (sa0 : Option Addr) (sk0 : Nat) (rr : List (BitVec 64)) (hrr : sc_Clone_uint64 s = rr) : FT Tryz.prog 142 #[vl sa0 sk0 s] [S sa0 sk0 s] (fun g : Value => (rr.length = s.length)) (fun g => g) (fun g => [os g rr]) := by
 have hm : sc_Clone_uint64 s = s := rfl
 rw [hm] at hrr
 subst hrr
 refine FTi Tryz.func142 fun w0 M0 F0 => ?_
 refine KS ?_
 refine Oq Va ?_
 refine KS ?_
 refine Oq Vm ?_
 refine Oq (VeqN un40) ?_
 refine KS ?_
 refine Kc ?_ ?_
 ·intro h
  refine Jnil 0 h ?_
  intro h0
  subst h0
  refine KS ?_
  refine Oq Va ?_
  refine KS ?_
  refine Jl [] (Ent.osNil (α := BitVec 64)) ?_
  exact Kr (.slice none 0 0) rfl (.tmp rfl .nil) [0] rfl
 ·intro _
  refine KS ?_
  refine Oa (As0 sl40) fun c1 => ?_
  refine Jo 0 ?_; rintro a2 k3 rfl
  refine Oq Vm ?_
  refine Fb 8 1 fun hl => ?_
  refine Jl [0] (Ent.crNil (α := BitVec 64) _) ?_
  refine Oa (Ap0 [0, 0] sl40 sl40 sz40) fun c4 => ?_
  refine Oq Va ?_
  refine KS ?_
  exact Kr c4 rfl (.tmp rfl .nil) [0] rfl
theorem fn150 (a : GSet) (aa1 : Option Addr) (ak1 : Nat) (b : GSet) (ba1 : Option Addr) (bk1 : Nat) (combineF : FuncId) (combineC : List Value) (combinep : (BitVec 64) → (BitVec 64) → (BitVec 64)) (combineA : List SP) (ha_0 : i64ok a.Width) (hb_0 : i64ok b.Width) (hcombinec : callable Tryz.prog combineF = true) (hcombineF : ∀ x0 x1, FT Tryz.prog combineF ([u64 x0, u64 x1] ++ combineC).toArray ([] ++ [pAll combineA]) (fun _ : Unit => True) (fun _ => u64 (combinep x0 x1)) (fun _ => [])) (rr : GSet × Int) (hrr : bt_merge a b combinep = rr) : FT Tryz.prog 150 #[.agg #[vi a.Width, vl aa1 ak1 a.Words], .agg #[vi b.Width, vl ba1 bk1 b.Words], .func (.func combineF) #[] combineC.toArray] [S aa1 ak1 a.Words, S ba1 bk1 b.Words, pAll combineA] (fun g : Value => i64ok rr.1.Width ∧ i64ok rr.2) (fun g => .tuple #[.agg #[vi rr.1.Width, g], vi rr.2]) (fun g => [sl g rr.1.Words]) := by
 refine FTi Tryz.func150 fun w0 M0 F0 => ?_
 unfold i64ok at ha_0 hb_0
 refine Fb 8 0 fun _ => Fb 8 1 fun _ => KS ?_
 refine Oa (Ab [vi a.Width, vl aa1 ak1 a.Words]) fun p3 => Oa (Ab [vi b.Width, vl ba1 bk1 b.Words]) fun p4 => Oa (Al ze42 [vi 0, .slice none 0 0]) fun p5 => Oq Va (KS ?_)
 refine Oq (VldA sh42 2) ?_
 refine letv (bt_Valid a) fun rv6 hg7 => ?_
 have hc8 := fn79 a aa1 ak1 pre rv6 hg7
 refine Oc [3] ca79 hc8 ?_
 rintro - -
 refine Oq Vnot (Oq Vm ?_)
 refine Js 14 ?_ ?_
 ·intro h9
  have h11 := not_true h9
  refine Osk (Osk (Osk (Oq Vpt (Oq Va (KS ?_)))))
  refine Kt (KS ?_)
  refine Oq (Vbd st42 [vi 0, .slice none 0 0]) (Ost (Scl [0] sh42 [vi 0, .slice none 0 0]) (Oq Va (KS ?_)))
  refine Jl [] (Ent.slNil (α := BitVec 64)) ?_
  have hq := q4 hrr ((GSet.mk 0 []), 1) (by simp only [bt_merge, h9, h11, hg7, cs4]); subst hq
  exact Kr (.slice none 0 0) rfl (.cellN 1 rfl sh42 rfl (reads_Cl _ _) rfl (.tmp rfl .nil)) [0] en
 intro h9
 have h14 := not_false h9
 try have hra := PV_w (s := a) (by simp only [h9, h14, hg7])
 try have hrb := PV_w (s := b) (by simp only [h9, h14, hg7])
 refine Oq (VldA sh42 1) ?_
 refine letv (bt_Valid b) fun rv16 hg17 => ?_
 have hc18 := fn79 b ba1 bk1 pre rv16 hg17
 refine Oc [4] ca79 hc18 ?_
 rintro - -
 refine Oq Vnot (Oq Vpf (Oq Va (KS ?_)))
 refine Kc ?_ ?_
 ·intro h19
  have h21 := not_true h19
  refine KS ?_
  refine Oq (Vbd st42 [vi 0, .slice none 0 0]) (Ost (Scl [0] sh42 [vi 0, .slice none 0 0]) (Oq Va (KS ?_)))
  refine Jl [] (Ent.slNil (α := BitVec 64)) ?_
  have hq := q4 hrr ((GSet.mk 0 []), 1) (by simp only [bt_merge, h9, h14, h19, h21, hg7, hg17, cs4]); subst hq
  exact Kr (.slice none 0 0) rfl (.cellN 1 rfl sh42 rfl (reads_Cl _ _) rfl (.tmp rfl .nil)) [0] en
 intro h19
 have h24 := not_false h19
 try have hra := PV_w (s := a) (by simp only [h9, h14, h19, h24, hg7, hg17])
 try have hrb := PV_w (s := b) (by simp only [h9, h14, h19, h24, hg7, hg17])
 refine KS ?_
 refine Oq (Vfa fo42_0 2) (Oq (VldF sh3 2) (Oq (Vfa fo42_0 1) (Oq (VldF sh3 1) (Oq Vneq (Oq Va (KS ?_))))))
 refine Kc ?_ ?_
 ·intro h26
  have g27 := ne_of_bne h26
  refine KS ?_
  refine Oq (Vbd st42 [vi 0, .slice none 0 0]) (Ost (Scl [0] sh42 [vi 0, .slice none 0 0]) (Oq Va (KS ?_)))
  refine Jl [] (Ent.slNil (α := BitVec 64)) ?_
  have hq := q4 hrr ((GSet.mk 0 []), 2) (by simp only [bt_merge, h9, h14, h19, h24, h26, hg7, hg17, cs4]); subst hq
  exact Kr (.slice none 0 0) rfl (.cellN 1 rfl sh42 rfl (reads_Cl _ _) rfl (.tmp rfl .nil)) [0] en
 intro h26
 have g28 := eq_of_bne_false h26
 refine KS ?_
 refine JK_drawK [0, 1, 0, 4, 12, 28, 63, 0, 255] fmix ?_
 refine Dv [2] (Vfa fo42_0 0) (Dv [2] (VldF sh3 0) (Dv [2] (Vfa fo42_1 0) (Dv [2] (VldF sh40 0) (Dv [] (Vlen sl40) ?_))))
 have hn30 := List.length_replicate (n := (a.Words.length : Int).toNat) (a := (0#64 : BitVec 64))
 refine Dx [] [] [0] (fun G => (G.g 5 0)) [fun G => os (G.g 5 0) ((List.replicate (a.Words.length : Int).toNat 0#64) : List (BitVec 64))] (fun G => xA (Amk (α := BitVec 64) sl40 sz40 0#64 (fun _ _ => rfl))) ?_
 refine Dx [6] [] [0] (fun G => .agg #[vi a.Width, (G.g 5 0)]) [] (fun G => xV (v := .agg #[vi a.Width, (G.g 5 0)]) (Vo 0 rfl (isO_os _ _) fun aq31 kq32 eq33 => (by rw [eq33]; exact Vbd st42 [vi a.Width, .slice aq31 (((List.replicate (a.Words.length : Int).toNat 0#64) : List (BitVec 64)).length) kq32]))) (Dx [] [] [0] (fun G => (G.g 7 0)) [fun G => Cl (G.g 7 0) [vi 0, .slice none 0 0]] (fun G => xA (Al ze42 [vi 0, .slice none 0 0])) (Dx0 [6, 7] [7] [1, 0] [fun G => Cl (G.g 7 0) [vi a.Width, (G.g 5 0)]] (fun G => x1 0 rfl os_one fun ho35 => (xS (Scl [1] sh42 [vi a.Width, (G.g 5 0)] (v := .agg #[vi a.Width, (G.g 5 0)]) (h1 := show [vi a.Width, (G.g 5 0)].all (·.oneCell') = true from (by simp only [List.all_cons, List.all_nil, ho35, Bool.and_true, Bool.true_and] <;> rfl))))) ?_))
 refine Dn ⟨by kernel_rfl, fun G => ?_⟩
 refine Jw2 [(2, .func (.func combineF) #[] combineC.toArray), (3, p3), (4, p4), (6, p5), (8, (G.g 7 0))] [0, 1, 2, 3, 4, 5] [os (G.g 5 0) ((List.replicate (a.Words.length : Int).toNat 0#64) : List (BitVec 64)), Cl (G.g 7 0) [vi a.Width, (G.g 5 0)]] ?_
 generalize G.g 5 0 = c29, G.g 7 0 = p34
 refine Jo 6 ?_; rintro a36 k37 rfl
 refine Fb 8 6 fun _ => KS ?_
 refine Oq (Vfa fo42_1 7) (Oq (VldF sh40 7) (Oq (Vlen sl40) (Oq Vm (KS ?_))))
 refine Kl (γ := Nat × List (BitVec 64) × Int) (fun (r39, out1_40, v37_41) => ⟨[(2, .func (.func combineF) #[] combineC.toArray), (3, p3), (4, p4), (6, p5), (8, p34), (36, vi (((List.replicate (a.Words.length : Int).toNat 0#64).length : Nat) : Int)), (37, vi v37_41)], [Cl p5 [vi 0, .slice none 0 0], pv p4 [vi b.Width, vl ba1 bk1 b.Words], pv p3 [vi a.Width, vl aa1 ak1 a.Words], S aa1 ak1 a.Words, S ba1 bk1 b.Words, pAll combineA, os (vl a36 k37 (List.replicate (a.Words.length : Int).toNat 0#64)) out1_40, Cl p34 [vi a.Width, vl a36 k37 (List.replicate (a.Words.length : Int).toNat 0#64)]], bt_merge_L0 a b combinep r39 out1_40 v37_41 = bt_merge_L0 a b combinep ((((((List.replicate (a.Words.length : Int).toNat 0#64).length : Nat) : Int) : Int) - 0).toNat) (List.replicate (a.Words.length : Int).toNat 0#64) 0 ∧ r39 = (((((List.replicate (a.Words.length : Int).toNat 0#64).length : Nat) : Int) : Int) - v37_41).toNat ∧ (0 : Int) ≤ v37_41 ∧ (v37_41 ≤ (((List.replicate (a.Words.length : Int).toNat 0#64).length : Nat) : Int) ∨ v37_41 = 0) ∧ (-9223372036854775808 ≤ v37_41 ∧ v37_41 ≤ 9223372036854775807) ∧ out1_40.length = a.Words.length, r39⟩) ((((((List.replicate (a.Words.length : Int).toNat 0#64).length : Nat) : Int) : Int) - 0).toNat, (List.replicate (a.Words.length : Int).toNat 0#64), 0) [0, 0, 1, 2, 3, 4, 5, 5] ⟨rfl, rfl, aM1, (.inr rfl), aM1, iv0⟩ ?_
 rintro ⟨r39, out1_40, v37_41⟩ ⟨hM42, hr43, hi44, hi45, hk46, hv47⟩
 refine JJ_nx fun _ _ hL hA => ?_; dsimp only at hL hA; subst hL hA
 refine Fb 8 3 fun _ => Fb 8 4 fun _ => Fb 8 6 fun _ => Fl 6 fun hn51 => ?_
 refine KS ?_
 refine Oq Vlss (KS ?_)
 refine Kc ?_ ?_
 ·intro h52
  have g53 := dt h52
  obtain ⟨r54, rfl⟩ := scc (n := r39) aM1
  refine KS ?_
  refine Oq Vm (Oq Va (KS ?_))
  refine Jp 7 fun hp55 => ?_
  refine JK_drawK [0, 1, 0, 0, 0, 16, 0, 112, 240, 0, 512, 0, 3584, 7680, 16376, 32767, 65535] fmix ?_
  refine Dv [0] (Vfa fo42_1 0) (Dv [8] (VldF sh40 0) (Dv [] Vm (Dv [] Vm (Dv [3] (Vfa fo42_1 0) (Dv [3] (VldF sh40 0) (Dv [] Vm (Dv [4] (Vi sl40 0) (Dv [4] (VldU sh91 0) (Dv [2] (Vfa fo42_1 0) ?_)))))))))
  refine Dv [2] (VldF sh40 0) (Dv [] Vm (Dv [5] (Vi sl40 0) (Dv [5] (VldU sh91 0) (Dx [6] [] [1, 0] (fun G => u64 (combinep (a.Words.getD v37_41.toNat 0#64) (b.Words.getD v37_41.toNat 0#64))) [fun G => SP.fact (True)] (fun G => xE (asv := [(u64 (a.Words.getD v37_41.toNat 0#64) : Value), (u64 (b.Words.getD v37_41.toNat 0#64) : Value)] ++ combineC) [0] hcombinec rfl rfl rfl (by simp) rfl (hcombineF (a.Words.getD v37_41.toNat 0#64) (b.Words.getD v37_41.toNat 0#64)  )) (Dv [7] (Vi sl40 0) (Dx0 [7] [7] [0] [fun G => os (vl a36 k37 (List.replicate (a.Words.length : Int).toNat 0#64)) (out1_40.set v37_41.toNat (combinep (a.Words.getD v37_41.toNat 0#64) (b.Words.getD v37_41.toNat 0#64)))] (fun G => xS (SoU [0] sh91)) ?_))))))
  refine Dn ⟨by kernel_rfl, fun G => ?_⟩
  refine Jw2 [(2, .func (.func combineF) #[] combineC.toArray), (3, p3), (4, p4), (6, p5), (8, p34), (36, vi (((List.replicate (a.Words.length : Int).toNat 0#64).length : Nat) : Int)), (37, vi v37_41)] [0, 1, 2, 3, 4, 5, 6, 8] [SP.fact (True), os (vl a36 k37 (List.replicate (a.Words.length : Int).toNat 0#64)) (out1_40.set v37_41.toNat (combinep (a.Words.getD v37_41.toNat 0#64) (b.Words.getD v37_41.toNat 0#64)))] ?_
  refine Jk [1, 1, 2, 3, 4, 5, 6, 7] ?_
  refine KS ?_
  refine Oq Vadd (Oq Vm (KS ?_))
  exact Kg (r54, (out1_40.set v37_41.toNat (combinep (a.Words.getD v37_41.toNat 0#64) (b.Words.getD v37_41.toNat 0#64))), (v37_41 + 1)) [0, 0, 1, 2, 3, 4, 6, 5] ⟨(q3 hM42 (by simp only [bt_merge_L0, h52, cs4])), aM1, aM1, aM1, aM1, iv1⟩
 intro h52
 have g56 := df h52
 obtain rfl : r39 = 0 := by omega
 refine Ke ?_
 have hR57 := q2 hM42 out1_40 (by simp only [bt_merge_L0, h52, cs4])
 refine KS ?_
 refine Oq (VldA sh42 7) (Ost (Scl [0] sh42 [vi a.Width, vl a36 k37 (List.replicate (a.Words.length : Int).toNat 0#64)]) (Oq Va (KS ?_)))
 refine Jl [6] (Ent.freeze _ _) ?_
 have hq := q4 hrr ((GSet.mk a.Width out1_40), 0) (by simp only [bt_merge, h9, h14, h19, h24, h26, h52, hg7, hg17, hR57, cs4]); subst hq
 exact Kr (vl a36 k37 (List.replicate (a.Words.length : Int).toNat 0#64)) rfl (.cellN 1 rfl sh42 rfl (reads_Cl _ _) rfl (.tmp rfl .nil)) [0] en
theorem fn151 (x : BitVec 64) (y : BitVec 64) (rr : BitVec 64) (hrr : bt_Diff_1 x y = rr) : FT Tryz.prog 151 #[u64 x, u64 y] [] (fun g : Unit => True) (fun g => u64 rr) (fun g => []) := by
 refine FTi Tryz.func151 fun w0 M0 F0 => ?_
 refine KS ?_
 refine Oq Va (KS ?_)
 refine Oq Vm (Oq Vm (Oq VandNotU (Oq Va (KS ?_))))
 have hq := q4 hrr (x &&& ~~~y) (by simp only [bt_Diff_1, cs4]); subst hq
 exact Kr () rfl (.tmp rfl .nil) [] trivial
theorem fn111 (a : GSet) (aa1 : Option Addr) (ak1 : Nat) (b : GSet) (ba1 : Option Addr) (bk1 : Nat) (ha_0 : i64ok a.Width) (hb_0 : i64ok b.Width) (rr : GSet × Int) (hrr : bt_Diff a b = rr) : FT Tryz.prog 111 #[.agg #[vi a.Width, vl aa1 ak1 a.Words], .agg #[vi b.Width, vl ba1 bk1 b.Words]] [S aa1 ak1 a.Words, S ba1 bk1 b.Words] (fun g : Value => i64ok rr.1.Width ∧ i64ok rr.2) (fun g => .tuple #[.agg #[vi rr.1.Width, g], vi rr.2]) (fun g => [sl g rr.1.Words]) := by
 refine FTi Tryz.func111 fun w0 M0 F0 => ?_
 unfold i64ok at ha_0 hb_0
 refine Fb 8 0 fun _ => Fb 8 1 fun _ => KS ?_
 refine Oa (Ab [vi a.Width, vl aa1 ak1 a.Words]) fun p3 => Oa (Ab [vi b.Width, vl ba1 bk1 b.Words]) fun p4 => Oa (Al ze42 [vi 0, .slice none 0 0]) fun p5 => Oq Va (KS ?_)
 refine Oq (VldA sh42 2) (Oq (VldA sh42 1) ?_)
 refine JJ_ent (Ent.pall [] rfl rfl) ?_
 refine letv (bt_merge a b (fun x0 x1 => bt_Diff_1 x0 x1)) fun rv7 hg8 => ?_
 have hc9 := fn150 a aa1 ak1 b ba1 bk1 151 [] (fun x0 x1 => bt_Diff_1 x0 x1) [] pre pre ca151 (fun x0 x1 => FT_pall (A1 := []) (fn151 x0 x1   _ rfl)) rv7 hg8
 refine Oc [4, 5, 0] ca150 hc9 ?_
 rintro c6 ⟨he10, he11⟩
 unfold i64ok at he10 he11
 refine Jo 0 ?_; rintro a12 k13 rfl
 refine Fb 8 0 fun _ => ?_
 refine Oq Vx (Oq Vx (Ost (Scl [2] sh42 [vi rv7.1.Width, vl a12 k13 rv7.1.Words]) (Oq Va (KS ?_))))
 have hq := q4 hrr (rv7.1, rv7.2) (by simp only [bt_Diff, hg8, cs4]); subst hq
 exact Kr (vl a12 k13 rv7.1.Words) rfl (.cellN 0 rfl sh42 rfl (reads_Cl _ _) rfl (.tmp rfl .nil)) [1] en
theorem fn173 (x : BitVec 64) (y : BitVec 64) (rr : BitVec 64) (hrr : bt_Union_1 x y = rr) : FT Tryz.prog 173 #[u64 x, u64 y] [] (fun g : Unit => True) (fun g => u64 rr) (fun g => []) := by
 refine FTi Tryz.func173 fun w0 M0 F0 => ?_
 refine KS ?_
 refine Oq Va (KS ?_)
 refine Oq Vm (Oq Vm (Oq VorU (Oq Va (KS ?_))))
 have hq := q4 hrr (x ||| y) (by simp only [bt_Union_1, cs4]); subst hq
 exact Kr () rfl (.tmp rfl .nil) [] trivial
theorem fn144 (a : GSet) (aa1 : Option Addr) (ak1 : Nat) (b : GSet) (ba1 : Option Addr) (bk1 : Nat) (ha_0 : i64ok a.Width) (hb_0 : i64ok b.Width) (rr : GSet × Int) (hrr : bt_Union a b = rr) : FT Tryz.prog 144 #[.agg #[vi a.Width, vl aa1 ak1 a.Words], .agg #[vi b.Width, vl ba1 bk1 b.Words]] [S aa1 ak1 a.Words, S ba1 bk1 b.Words] (fun g : Value => i64ok rr.1.Width ∧ i64ok rr.2) (fun g => .tuple #[.agg #[vi rr.1.Width, g], vi rr.2]) (fun g => [sl g rr.1.Words]) := by
 refine FTi Tryz.func144 fun w0 M0 F0 => ?_
 unfold i64ok at ha_0 hb_0
 refine Fb 8 0 fun _ => Fb 8 1 fun _ => KS ?_
 refine Oa (Ab [vi a.Width, vl aa1 ak1 a.Words]) fun p3 => Oa (Ab [vi b.Width, vl ba1 bk1 b.Words]) fun p4 => Oa (Al ze42 [vi 0, .slice none 0 0]) fun p5 => Oq Va (KS ?_)
 refine Oq (VldA sh42 2) (Oq (VldA sh42 1) ?_)
 refine JJ_ent (Ent.pall [] rfl rfl) ?_
 refine letv (bt_merge a b (fun x0 x1 => bt_Union_1 x0 x1)) fun rv7 hg8 => ?_
 have hc9 := fn150 a aa1 ak1 b ba1 bk1 173 [] (fun x0 x1 => bt_Union_1 x0 x1) [] pre pre ca173 (fun x0 x1 => FT_pall (A1 := []) (fn173 x0 x1   _ rfl)) rv7 hg8
 refine Oc [4, 5, 0] ca150 hc9 ?_
 rintro c6 ⟨he10, he11⟩
 unfold i64ok at he10 he11
 refine Jo 0 ?_; rintro a12 k13 rfl
 refine Fb 8 0 fun _ => ?_
 refine Oq Vx (Oq Vx (Ost (Scl [2] sh42 [vi rv7.1.Width, vl a12 k13 rv7.1.Words]) (Oq Va (KS ?_))))
 have hq := q4 hrr (rv7.1, rv7.2) (by simp only [bt_Union, hg8, cs4]); subst hq
 exact Kr (vl a12 k13 rv7.1.Words) rfl (.cellN 0 rfl sh42 rfl (reads_Cl _ _) rfl (.tmp rfl .nil)) [1] en
theorem fn185 (s : GSet) (sa1 : Option Addr) (sk1 : Nat) (b : Int) (hs_0 : i64ok s.Width) (hb_0 : i64ok b) (hb0 : 0 ≤ b ∧ b / 64 < (s.Words.length : Int)) (rr : List (BitVec 64)) (hrr : bt_put s b = rr) : FT Tryz.prog 185 #[.agg #[vi s.Width, vl sa1 sk1 s.Words], vi b] [O sa1 sk1 s.Words] (fun g : Unit => True) (fun g => .tuple #[]) (fun g => [os (vl sa1 sk1 s.Words) rr]) := by
 refine FTi Tryz.func185 fun w0 M0 F0 => ?_
 unfold i64ok at hs_0 hb_0
 refine Fb 8 0 fun _ => KS ?_
 refine Oa (Ab [vi s.Width, vl sa1 sk1 s.Words]) fun p2 => KS ?_
 refine Oq (Vfa fo42_1 0) (Oq (VldF sh40 0) (Oq Vm (Oq Vquo (Oq (Vi sl40 1) (Oq (VldU sh91 1) (Oq Vm (Oq (VcU un3 un92) (Oq (VremU (b := 64#64) (by simp)) (Oq (VshlU (a := 1#64)) ?_)))))))))
 refine Oq VorU (Oq (Vi sl40 1) (Ost (SoU [1] sh91) (KS ?_)))
 refine Fl 0 fun hn3 => ?_
 have hq := q4 hrr (s.Words.set ((b / 64) : Int).toNat ((s.Words.getD ((b / 64) : Int).toNat 0#64) ||| (1#64 <<< ((((BitVec.ofInt 64 b) % 64#64).toNat : Int)).toNat))) (by simp only [bt_put, cs4]); subst hq
 exact Kz () rfl .nil [0] trivial
theorem fn184 (s : GSet) (sa1 : Option Addr) (sk1 : Nat) (b : Int) (member : Bool) (hs_0 : i64ok s.Width) (hb_0 : i64ok b) (rr : GSet × Int) (hrr : bt_changed s b member = rr) : FT Tryz.prog 184 #[.agg #[vi s.Width, vl sa1 sk1 s.Words], vi b, vb member] [S sa1 sk1 s.Words] (fun g : Value => i64ok rr.1.Width ∧ i64ok rr.2) (fun g => .tuple #[.agg #[vi rr.1.Width, g], vi rr.2]) (fun g => [sl g rr.1.Words]) := by
 refine FTi Tryz.func184 fun w0 M0 F0 => ?_
 unfold i64ok at hs_0 hb_0
 refine Fb 8 0 fun _ => KS ?_
 refine Oa (Ab [vi s.Width, vl sa1 sk1 s.Words]) fun p2 => Oa (Al ze42 [vi 0, .slice none 0 0]) fun p3 => Oq Va (KS ?_)
 refine Oq (VldA sh42 1) ?_
 refine letv (bt_Valid s) fun rv4 hg5 => ?_
 have hc6 := fn79 s sa1 sk1 pre rv4 hg5
 refine Oc [2] ca79 hc6 ?_
 rintro - -
 refine Oq Vnot (Oq Va (KS ?_))
 refine Kc ?_ ?_
 ·intro h7
  have h9 := not_true h7
  refine KS ?_
  refine Oq (Vbd st42 [vi 0, .slice none 0 0]) (Ost (Scl [0] sh42 [vi 0, .slice none 0 0]) (Oq Va (KS ?_)))
  refine Jl [] (Ent.slNil (α := BitVec 64)) ?_
  have hq := q4 hrr ((GSet.mk 0 []), 1) (by simp only [bt_changed, h7, h9, hg5, cs4]); subst hq
  exact Kr (.slice none 0 0) rfl (.cellN 1 rfl sh42 rfl (reads_Cl _ _) rfl (.tmp rfl .nil)) [0] en
 intro h7
 have h12 := not_false h7
 try have hrg := PV_w (s := s) (by simp only [h7, h12, hg5])
 try have hwi := within_iff (s := s) (b := b) (by simp only [h7, h12, hg5])
 refine KS ?_
 refine Oq (VldA sh42 1) (Oq Vm ?_)
 refine letv (bt_within s b) fun rv14 hg15 => ?_
 have hc16 := fn80 s sa1 sk1 b pre pre rv14 hg15
 refine Oc [2] ca80 hc16 ?_
 rintro - -
 refine Oq Vnot (Oq Va (KS ?_))
 refine Kc ?_ ?_
 ·intro h17
  have h19 := not_true h17
  refine KS ?_
  refine Oq (Vbd st42 [vi 0, .slice none 0 0]) (Ost (Scl [0] sh42 [vi 0, .slice none 0 0]) (Oq Va (KS ?_)))
  refine Jl [] (Ent.slNil (α := BitVec 64)) ?_
  have hq := q4 hrr ((GSet.mk 0 []), 3) (by simp only [bt_changed, h7, h12, h17, h19, hg5, hg15, cs4]); subst hq
  exact Kr (.slice none 0 0) rfl (.cellN 1 rfl sh42 rfl (reads_Cl _ _) rfl (.tmp rfl .nil)) [0] en
 intro h17
 have h22 := not_false h17
 try have hrg := PV_w (s := s) (by simp only [h7, h12, h17, h22, hg5, hg15])
 try have hwi := within_iff (s := s) (b := b) (by simp only [h7, h12, h17, h22, hg5, hg15])
 refine KS ?_
 refine JK_drawK [0, 1, 0, 4, 12, 31, 0, 127] fmix ?_
 refine Dv [1] (Vfa fo42_0 0) (Dv [1] (VldF sh3 0) (Dv [1] (Vfa fo42_1 0) (Dv [1] (VldF sh40 0) ?_)))
 refine letv (sc_Clone_uint64 s.Words) fun rv25 hg26 => Dx [2] [] [2, 0, 1] (fun G => (G.g 4 0)) [fun G => SP.fact ((rv25.length = s.Words.length)), fun G => os (G.g 4 0) rv25] (fun G => xC [0] ca142 (fn142 s.Words sa1 sk1 rv25 hg26)) ?_
 refine Dx [4] [] [0] (fun G => .agg #[vi s.Width, (G.g 4 0)]) [] (fun G => xV (v := .agg #[vi s.Width, (G.g 4 0)]) (Vo 0 rfl (isO_os _ _) fun aq27 kq28 eq29 => (by rw [eq29]; exact Vbd st42 [vi s.Width, .slice aq27 ((rv25 : List (BitVec 64)).length) kq28]))) (Dx [] [] [0] (fun G => (G.g 6 0)) [fun G => Cl (G.g 6 0) [vi 0, .slice none 0 0]] (fun G => xA (Al ze42 [vi 0, .slice none 0 0])) (Dx0 [4, 5] [5] [1, 0] [fun G => Cl (G.g 6 0) [vi s.Width, (G.g 4 0)]] (fun G => x1 0 rfl os_one fun ho31 => (xS (Scl [1] sh42 [vi s.Width, (G.g 4 0)] (v := .agg #[vi s.Width, (G.g 4 0)]) (h1 := show [vi s.Width, (G.g 4 0)].all (·.oneCell') = true from (by simp only [List.all_cons, List.all_nil, ho31, Bool.and_true, Bool.true_and] <;> rfl))))) ?_))
 refine Dn ⟨by kernel_rfl, fun G => ?_⟩
 refine Jw2 [(1, vi b), (2, vb member), (6, p3), (8, (G.g 6 0))] [0, 1, 2] [SP.fact ((rv25.length = s.Words.length)), os (G.g 4 0) rv25, Cl (G.g 6 0) [vi s.Width, (G.g 4 0)]] ?_
 generalize G.g 4 0 = c24, G.g 6 0 = p30
 refine Jf 3 rfl ?_; rintro he32
 refine Jk [0, 0, 1, 3, 3] ?_
 refine Jo 3 ?_; rintro a33 k34 rfl
 refine Fb 8 3 fun _ => KS ?_
 refine Oq (Vfa fo42_1 4) (Oq (VldF sh40 4) (Oq Vm (Oq Vquo (Oq (Vi sl40 3) (Oq (VldU sh91 3) (Oq Vm (Oq (VcU un3 un92) (Oq (VremU (b := 64#64) (by simp)) (Oq (VshlU (a := 1#64)) ?_)))))))))
 refine Oq VandNotU (Oq (Vi sl40 3) (Ost (SoU [3] sh91) (KS ?_)))
 refine Oq Vm (KS ?_)
 refine Kc ?_ ?_
 ·intro h36
  refine KS ?_
  refine Oq (VldA sh42 4) (Oq Vm ?_)
  refine Fl 0 fun hn38 => ?_; (try unfold vl); rw [← hn38]
  refine letv (bt_put (GSet.mk s.Width (rv25.set ((b / 64) : Int).toNat ((rv25.getD ((b / 64) : Int).toNat 0#64) &&& ~~~(1#64 <<< ((((BitVec.ofInt 64 b) % 64#64).toNat : Int)).toNat)))) b) fun rv39 hg40 => ?_
  have hc41 := fn185 ((GSet.mk s.Width (rv25.set ((b / 64) : Int).toNat ((rv25.getD ((b / 64) : Int).toNat 0#64) &&& ~~~(1#64 <<< ((((BitVec.ofInt 64 b) % 64#64).toNat : Int)).toNat))))) a33 k34 b pre pre pre rv39 hg40
  refine Oc [0] ca185 hc41 ?_
  rintro - -
  refine KS ?_
  refine Oq (VldA sh42 4) (Ost (Scl [1] sh42 [vi s.Width, .slice a33 ((rv25.set ((b / 64) : Int).toNat ((rv25.getD ((b / 64) : Int).toNat 0#64) &&& ~~~(1#64 <<< ((((BitVec.ofInt 64 b) % 64#64).toNat : Int)).toNat))).length) k34]) (Oq Va (KS ?_)))
  refine Jl [1] (Ent.freeze _ _) ?_
  have hq := q4 hrr ((GSet.mk s.Width rv39), 0) (by simp only [bt_changed, h7, h12, h17, h22, h36, hg5, hg15, hg26, hg40, cs4]); subst hq
  exact Kr (.slice a33 ((rv25.set ((b / 64) : Int).toNat ((rv25.getD ((b / 64) : Int).toNat 0#64) &&& ~~~(1#64 <<< ((((BitVec.ofInt 64 b) % 64#64).toNat : Int)).toNat))).length) k34) rfl (.cellN 1 rfl sh42 rfl (reads_Cl _ _) rfl (.tmp rfl .nil)) [0] en
 intro h36
 refine KS ?_
 refine Oq (VldA sh42 4) (Ost (Scl [1] sh42 [vi s.Width, vl a33 k34 rv25]) (Oq Va (KS ?_)))
 refine Jl [1] (Ent.freeze _ _) ?_
 have hq := q4 hrr ((GSet.mk s.Width (rv25.set ((b / 64) : Int).toNat ((rv25.getD ((b / 64) : Int).toNat 0#64) &&& ~~~(1#64 <<< ((((BitVec.ofInt 64 b) % 64#64).toNat : Int)).toNat)))), 0) (by simp only [bt_changed, h7, h12, h17, h22, h36, hg5, hg15, hg26, cs4]); subst hq
 exact Kr (vl a33 k34 rv25) rfl (.cellN 1 rfl sh42 rfl (reads_Cl _ _) rfl (.tmp rfl .nil)) [0] en
theorem fn181 (s : GSet) (sa1 : Option Addr) (sk1 : Nat) (b : Int) (hs_0 : i64ok s.Width) (hb_0 : i64ok b) (rr : GSet × Int) (hrr : bt_With s b = rr) : FT Tryz.prog 181 #[.agg #[vi s.Width, vl sa1 sk1 s.Words], vi b] [S sa1 sk1 s.Words] (fun g : Value => i64ok rr.1.Width ∧ i64ok rr.2) (fun g => .tuple #[.agg #[vi rr.1.Width, g], vi rr.2]) (fun g => [sl g rr.1.Words]) := by
 refine FTi Tryz.func181 fun w0 M0 F0 => ?_
 unfold i64ok at hs_0 hb_0
 refine Fb 8 0 fun _ => KS ?_
 refine Oa (Ab [vi s.Width, vl sa1 sk1 s.Words]) fun p2 => Oa (Al ze42 [vi 0, .slice none 0 0]) fun p3 => Oq Va (KS ?_)
 refine Oq (VldA sh42 1) (Oq Vm ?_)
 refine letv (bt_changed s b true) fun rv5 hg6 => ?_
 have hc7 := fn184 s sa1 sk1 b true pre pre rv5 hg6
 refine Oc [2] ca184 hc7 ?_
 rintro c4 ⟨he8, he9⟩
 unfold i64ok at he8 he9
 refine Jo 0 ?_; rintro a10 k11 rfl
 refine Fb 8 0 fun _ => ?_
 refine Oq Vx (Oq Vx (Ost (Scl [1] sh42 [vi rv5.1.Width, vl a10 k11 rv5.1.Words]) (Oq Va (KS ?_))))
 have hq := q4 hrr (rv5.1, rv5.2) (by simp only [bt_With, hg6, cs4]); subst hq
 exact Kr (vl a10 k11 rv5.1.Words) rfl (.cellN 0 rfl sh42 rfl (reads_Cl _ _) rfl (.tmp rfl .nil)) [1] en
theorem fn172 (t : GTransfer) (ta1 : Option Addr) (tk1 : Nat) (ta3 : Option Addr) (tk3 : Nat) (ta4 : Option Addr) (tk4 : Nat) (s : GSet) (sa1 : Option Addr) (sk1 : Nat) (ht_0 : i64ok t.Gen.Width) (ht_2 : i64ok t.Kill.Width) (hs_0 : i64ok s.Width) (rr : GSet) (hrr : tf_apply t s = rr) : FT Tryz.prog 172 #[.agg #[vi t.Gen.Width, vl ta1 tk1 t.Gen.Words, vi t.Kill.Width, vl ta3 tk3 t.Kill.Words, vl ta4 tk4 t.Copies], .agg #[vi s.Width, vl sa1 sk1 s.Words]] [S ta1 tk1 t.Gen.Words, S ta3 tk3 t.Kill.Words, S ta4 tk4 t.Copies, S sa1 sk1 s.Words] (fun g : Value => i64ok rr.Width) (fun g => .agg #[vi rr.Width, g]) (fun g => [sl g rr.Words]) := by
 refine FTi Tryz.func172 fun w0 M0 F0 => ?_
 unfold i64ok at ht_0 ht_2 hs_0
 refine Fb 8 0 fun _ => Fb 8 1 fun _ => Fb 16 2 fun _ => Fb 8 3 fun _ => KS ?_
 refine Oa (Ab [vi t.Gen.Width, vl ta1 tk1 t.Gen.Words, vi t.Kill.Width, vl ta3 tk3 t.Kill.Words, vl ta4 tk4 t.Copies]) fun p5 => Oa (Ab [vi s.Width, vl sa1 sk1 s.Words]) fun p6 => Oa (Al ze42 [vi 0, .slice none 0 0]) fun p7 => KS ?_
 refine Oq (VldA sh42 1) (Oq (Vfa fo65_1 2) (Oq (VldG sh42 2 [vi t.Kill.Width, vl ta3 tk3 t.Kill.Words]) ?_))
 refine letv (bt_Diff s t.Kill) fun rv9 hg10 => ?_
 have hc11 := fn111 s sa1 sk1 t.Kill ta3 tk3 pre pre rv9 hg10
 refine Oc [6, 4] ca111 hc11 ?_
 rintro c8 ⟨he12, he13⟩
 unfold i64ok at he12 he13
 refine Jo 0 ?_; rintro a14 k15 rfl
 refine Fb 8 0 fun _ => ?_
 refine Oq Vm (Oq Vx (Oq Vx (Oa (Al ze42 [vi 0, .slice none 0 0]) fun p17 => Ost (Scl [0] sh42 [vi rv9.1.Width, vl a14 k15 rv9.1.Words]) (Oq Va (KS ?_)))))
 refine Oq (VldA sh42 0) (Oq (Vfa fo65_0 4) (Oq (VldG sh42 4 [vi t.Gen.Width, vl ta1 tk1 t.Gen.Words]) ?_))
 refine letv (bt_Union rv9.1 t.Gen) fun rv19 hg20 => ?_
 have hc21 := fn144 rv9.1 a14 k15 t.Gen ta1 tk1 pre pre rv19 hg20
 refine Oc [1, 5] ca144 hc21 ?_
 rintro c18 ⟨he22, he23⟩
 unfold i64ok at he22 he23
 refine Jo 0 ?_; rintro a24 k25 rfl
 refine Fb 8 0 fun _ => ?_
 refine Oq Vm (Oq Vx (Oq Vx (Ost (Scl [1] sh42 [vi rv19.1.Width, vl a24 k25 rv19.1.Words]) (KS ?_))))
 refine Oq (Vfa fo65_2 5) (Oq (VldF sh63 5) (Oq (Vlen sl63) (Oq Vm (KS ?_))))
 refine Kl (γ := Nat × Int × List (BitVec 64) × Int × Option Addr × Nat) (fun (r27, out0_28, out1_29, v26_30, a31, k32) => ⟨[(3, p6), (4, p7), (5, p17), (24, vl ta4 tk4 t.Copies), (25, vi (t.Copies.length : Int)), (26, vi v26_30)], [S a31 k32 out1_29, Cl p17 [vi out0_28, vl a31 k32 out1_29], Cl p7 [vi 0, .slice none 0 0], pv p6 [vi s.Width, vl sa1 sk1 s.Words], S ta4 tk4 t.Copies, S sa1 sk1 s.Words], tf_apply_L0 t s r27 out0_28 out1_29 v26_30 = tf_apply_L0 t s (((t.Copies.length : Int) - 0).toNat) rv19.1.Width rv19.1.Words 0 ∧ r27 = ((t.Copies.length : Int) - v26_30).toNat ∧ (0 : Int) ≤ v26_30 ∧ v26_30 ≤ (t.Copies.length : Int) ∧ (-9223372036854775808 ≤ out0_28 ∧ out0_28 ≤ 9223372036854775807) ∧ (-9223372036854775808 ≤ v26_30 ∧ v26_30 ≤ 9223372036854775807), r27⟩) (((t.Copies.length : Int) - 0).toNat, rv19.1.Width, rv19.1.Words, 0, a24, k25) [1, 0, 2, 2, 6, 7] ⟨rfl, rfl, aM1, aM1, aM1, aM1⟩ ?_
 rintro ⟨r27, out0_28, out1_29, v26_30, a31, k32⟩ ⟨hM33, hr34, hi35, hi36, hk37, hk38⟩
 refine JJ_nx fun _ _ hL hA => ?_; dsimp only at hL hA; subst hL hA
 refine Fb 8 0 fun _ => Fb 16 4 fun _ => Fb 8 5 fun _ => KS ?_
 refine Oq Vlss (KS ?_)
 refine Kc ?_ ?_
 ·intro h42
  have g43 := dt h42
  obtain ⟨r44, rfl⟩ := scc (n := r27) aM1
  refine KS ?_
  refine Oq (Vi sl63 4) ?_
  refine JJ_peek_GCopy v26_30.toNat 4 rfl rng fun hb45 hb46 => ?_
  unfold i64ok at hb45 hb46
  refine Oq (VldA sh105 0) (Oa (Al ze105 [vi 0, vi 0]) fun p47 => Ost (Scl [0] sh105 [vi ((t.Copies.getD v26_30.toNat default).From), vi ((t.Copies.getD v26_30.toNat default).To)]) (KS ?_))
  refine Oq (VldA sh42 5) (Oq (Vfa fo105_0 0) (Oq (VldF sh3 0) ?_))
  refine letv (bt_Has s ((t.Copies.getD v26_30.toNat default).From)) fun rv48 hg49 => ?_
  have hc50 := fn47 s sa1 sk1 ((t.Copies.getD v26_30.toNat default).From) pre pre rv48 hg49
  refine Oc [7] ca47 hc50 ?_
  rintro - -
  refine KS ?_
  refine Kc ?_ ?_
  ·intro h51
   refine KS ?_
   refine Oq (VldA sh42 3) (Oq (Vfa fo105_1 0) (Oq (VldF sh3 0) ?_))
   refine letv (bt_With (GSet.mk out0_28 out1_29) ((t.Copies.getD v26_30.toNat default).To)) fun rv54 hg55 => ?_
   have hc56 := fn181 ((GSet.mk out0_28 out1_29)) a31 k32 ((t.Copies.getD v26_30.toNat default).To) pre pre rv54 hg55
   refine Oc [2] ca181 hc56 ?_
   rintro c53 ⟨he57, he58⟩
   unfold i64ok at he57 he58
   refine Jo 0 ?_; rintro a59 k60 rfl
   refine Fb 8 0 fun _ => ?_
   refine Oq Vm (Oq Vx (Oq Vx (Ost (Scl [4] sh42 [vi rv54.1.Width, vl a59 k60 rv54.1.Words]) (KS ?_))))
   refine Oq Vadd (Oq Vm (KS ?_))
   exact Kg (r44, rv54.1.Width, rv54.1.Words, (v26_30 + 1), a59, k60) [1, 0, 4, 4, 5, 6] ⟨(q3 hM33 (by simp only [tf_apply_L0, h42, h51, hg49, hg55, cs4])), aM1, aM1, aM1, aM1, aM1⟩
  intro h51
  refine KS ?_
  refine Oq Vadd (Oq Vm (KS ?_))
  exact Kg (r44, out0_28, out1_29, (v26_30 + 1), a31, k32) [2, 3, 3, 3, 4, 5] ⟨(q3 hM33 (by simp only [tf_apply_L0, h42, h51, hg49, cs4])), aM1, aM1, aM1, aM1, aM1⟩
 intro h42
 have g63 := df h42
 obtain rfl : r27 = 0 := by omega
 refine Ke ?_
 have hR64 := q2 hM33 (out0_28, out1_29) (by simp only [tf_apply_L0, h42, cs4])
 refine KS ?_
 refine Oq (VldA sh42 1) (Ost (Scl [2] sh42 [vi out0_28, vl a31 k32 out1_29]) (KS ?_))
 have hq := q4 hrr (GSet.mk out0_28 out1_29) (by simp only [tf_apply, h42, hg10, hg20, hR64, cs4]); subst hq
 exact Kr (vl a31 k32 out1_29) rfl (.cellN 0 rfl sh42 rfl (reads_Cl _ _) rfl .nil) [1] en
theorem fn143 (t : GTransfer) (ta1 : Option Addr) (tk1 : Nat) (ta3 : Option Addr) (tk3 : Nat) (ta4 : Option Addr) (tk4 : Nat) (s : GSet) (sa1 : Option Addr) (sk1 : Nat) (ht_0 : i64ok t.Gen.Width) (ht_2 : i64ok t.Kill.Width) (hs_0 : i64ok s.Width) (rr : GSet × Int) (hrr : tf_Apply t s = rr) : FT Tryz.prog 143 #[.agg #[vi t.Gen.Width, vl ta1 tk1 t.Gen.Words, vi t.Kill.Width, vl ta3 tk3 t.Kill.Words, vl ta4 tk4 t.Copies], .agg #[vi s.Width, vl sa1 sk1 s.Words]] [S ta1 tk1 t.Gen.Words, S ta3 tk3 t.Kill.Words, S ta4 tk4 t.Copies, S sa1 sk1 s.Words] (fun g : Value => i64ok rr.1.Width ∧ i64ok rr.2) (fun g => .tuple #[.agg #[vi rr.1.Width, g], vi rr.2]) (fun g => [sl g rr.1.Words]) := by
 refine FTi Tryz.func143 fun w0 M0 F0 => ?_
 unfold i64ok at ht_0 ht_2 hs_0
 refine Fb 8 0 fun _ => Fb 8 1 fun _ => Fb 16 2 fun _ => Fb 8 3 fun _ => KS ?_
 refine Oa (Ab [vi t.Gen.Width, vl ta1 tk1 t.Gen.Words, vi t.Kill.Width, vl ta3 tk3 t.Kill.Words, vl ta4 tk4 t.Copies]) fun p5 => Oa (Ab [vi s.Width, vl sa1 sk1 s.Words]) fun p6 => Oa (Al ze42 [vi 0, .slice none 0 0]) fun p7 => Oq Va (KS ?_)
 refine Oq (VldA sh65 2) ?_
 refine letv (tf_Valid t) fun rv8 hg9 => ?_
 have hc10 := fn75 t ta1 tk1 ta3 tk3 ta4 tk4 pre pre rv8 hg9
 refine Oc [3, 4, 5] ca75 hc10 ?_
 rintro - -
 refine Oq Vnot (Oq Vm ?_)
 refine Js 10 ?_ ?_
 ·intro h11
  have h13 := not_true h11
  refine Osk (Osk (Osk (Oq Vpt (Oq Va (KS ?_)))))
  refine Kt (KS ?_)
  refine Oq (Vbd st42 [vi 0, .slice none 0 0]) (Ost (Scl [0] sh42 [vi 0, .slice none 0 0]) (Oq Va (KS ?_)))
  refine Jl [] (Ent.slNil (α := BitVec 64)) ?_
  have hq := q4 hrr ((GSet.mk 0 []), 1) (by simp only [tf_Apply, h11, h13, hg9, cs4]); subst hq
  exact Kr (.slice none 0 0) rfl (.cellN 1 rfl sh42 rfl (reads_Cl _ _) rfl (.tmp rfl .nil)) [0] en
 intro h11
 have h16 := not_false h11
 refine Oq (VldA sh42 1) ?_
 refine letv (bt_Valid s) fun rv18 hg19 => ?_
 have hc20 := fn79 s sa1 sk1 pre rv18 hg19
 refine Oc [6] ca79 hc20 ?_
 rintro - -
 refine Oq Vnot (Oq Vpf (Oq Va (KS ?_)))
 refine Kc ?_ ?_
 ·intro h21
  have h23 := not_true h21
  refine KS ?_
  refine Oq (Vbd st42 [vi 0, .slice none 0 0]) (Ost (Scl [0] sh42 [vi 0, .slice none 0 0]) (Oq Va (KS ?_)))
  refine Jl [] (Ent.slNil (α := BitVec 64)) ?_
  have hq := q4 hrr ((GSet.mk 0 []), 1) (by simp only [tf_Apply, h11, h16, h21, h23, hg9, hg19, cs4]); subst hq
  exact Kr (.slice none 0 0) rfl (.cellN 1 rfl sh42 rfl (reads_Cl _ _) rfl (.tmp rfl .nil)) [0] en
 intro h21
 have h26 := not_false h21
 refine KS ?_
 refine Oq (Vfa fo65_0 2) (Oq (VfaF fo42_0 2) (Oq (VldF sh3 2) (Oq (Vfa fo42_0 1) (Oq (VldF sh3 1) (Oq Vneq (Oq Va (KS ?_)))))))
 refine Kc ?_ ?_
 ·intro h28
  have g29 := ne_of_bne h28
  refine KS ?_
  refine Oq (Vbd st42 [vi 0, .slice none 0 0]) (Ost (Scl [0] sh42 [vi 0, .slice none 0 0]) (Oq Va (KS ?_)))
  refine Jl [] (Ent.slNil (α := BitVec 64)) ?_
  have hq := q4 hrr ((GSet.mk 0 []), 2) (by simp only [tf_Apply, h11, h16, h21, h26, h28, hg9, hg19, cs4]); subst hq
  exact Kr (.slice none 0 0) rfl (.cellN 1 rfl sh42 rfl (reads_Cl _ _) rfl (.tmp rfl .nil)) [0] en
 intro h28
 have g30 := eq_of_bne_false h28
 refine KS ?_
 refine Oq (VldA sh65 2) (Oq (VldA sh42 1) ?_)
 refine letv (tf_apply t s) fun rv32 hg33 => ?_
 have hc34 := fn172 t ta1 tk1 ta3 tk3 ta4 tk4 s sa1 sk1 pre pre pre rv32 hg33
 refine Oc [3, 4, 5, 6] ca172 hc34 ?_
 rintro c31 he35
 unfold i64ok at he35
 refine Jo 0 ?_; rintro a36 k37 rfl
 refine Fb 8 0 fun _ => ?_
 refine Ost (Scl [1] sh42 [vi rv32.Width, vl a36 k37 rv32.Words]) (Oq Va (KS ?_))
 have hq := q4 hrr (rv32, 0) (by simp only [tf_Apply, h11, h16, h21, h26, h28, hg9, hg19, hg33, cs4]); subst hq
 exact Kr (vl a36 k37 rv32.Words) rfl (.cellN 0 rfl sh42 rfl (reads_Cl _ _) rfl (.tmp rfl .nil)) [1] en
theorem fn101 (s : GSystem) (sa1 : Option Addr) (sk1 : Nat) (sa2 : Option Addr) (sk2 : Nat) (sa3 : Option Addr) (sk3 : Nat) (values : List GSet) (valuesa0 : Option Addr) (valuesk0 : Nat) (n : Int) (hs_0 : i64ok s.Width) (hn_0 : i64ok n) (rr : GSet × Int) (hrr : eq_Right s values n = rr) : FT Tryz.prog 101 #[.agg #[vi s.Width, vl sa1 sk1 s.Deps, vl sa2 sk2 s.Transfers, vl sa3 sk3 s.Boundary], vl valuesa0 valuesk0 values, vi n] [S sa1 sk1 s.Deps, S sa2 sk2 s.Transfers, S sa3 sk3 s.Boundary, S valuesa0 valuesk0 values] (fun g : Value => i64ok rr.1.Width ∧ i64ok rr.2) (fun g => .tuple #[.agg #[vi rr.1.Width, g], vi rr.2]) (fun g => [sl g rr.1.Words]) := by
 refine FTi Tryz.func101 fun w0 M0 F0 => ?_
 unfold i64ok at hs_0 hn_0
 refine Fb 24 0 fun _ => Fb 88 1 fun _ => Fb 32 2 fun _ => Fb 32 3 fun _ => KS ?_
 refine Oa (Ab [vi s.Width, vl sa1 sk1 s.Deps, vl sa2 sk2 s.Transfers, vl sa3 sk3 s.Boundary]) fun p5 => Oa (Al ze42 [vi 0, .slice none 0 0]) fun p6 => Oq Va (KS ?_)
 refine Oq (VldA sh27 1) ?_
 refine letv (eq_Valid s) fun rv7 hg8 => ?_
 have hc9 := fn56 s sa1 sk1 sa2 sk2 sa3 sk3 pre rv7 hg8
 refine Oc [2, 3, 4] ca56 hc9 ?_
 rintro - -
 refine Oq Vnot (Oq Va (KS ?_))
 refine Kc ?_ ?_
 ·intro h10
  have h12 := not_true h10
  refine KS ?_
  refine Oq (Vbd st42 [vi 0, .slice none 0 0]) (Ost (Scl [0] sh42 [vi 0, .slice none 0 0]) (Oq Va (KS ?_)))
  refine Jl [] (Ent.slNil (α := BitVec 64)) ?_
  have hq := q4 hrr ((GSet.mk 0 []), 1) (by simp only [eq_Right, h10, h12, hg8, cs4]); subst hq
  exact Kr (.slice none 0 0) rfl (.cellN 1 rfl sh42 rfl (reads_Cl _ _) rfl (.tmp rfl .nil)) [0] en
 intro h10
 have h15 := not_false h10
 try (have hvs := (EValid_iff s).1 (by simp only [h10, h15, hg8]); have hv1 := hvs.n; have hv2 := hvs.tl; have hv3 := hvs.bl; have hv4 := hvs.w; have hv5 := hvs.dep_len)
 refine KS ?_
 refine Oq Vm (Oq Vlss (Oq Vm ?_))
 refine Js 21 ?_ ?_
 ·intro h17
  have g18 := dt h17
  refine Osk (Osk (Osk (Osk (Osk (Oq Vpt (Oq Va (KS ?_)))))))
  refine Kt (KS ?_)
  refine Oq (Vbd st42 [vi 0, .slice none 0 0]) (Ost (Scl [0] sh42 [vi 0, .slice none 0 0]) (Oq Va (KS ?_)))
  refine Jl [] (Ent.slNil (α := BitVec 64)) ?_
  have hq := q4 hrr ((GSet.mk 0 []), 9) (by simp only [eq_Right, h10, h15, h17, hg8, cs4]); subst hq
  exact Kr (.slice none 0 0) rfl (.cellN 1 rfl sh42 rfl (reads_Cl _ _) rfl (.tmp rfl .nil)) [0] en
 intro h17
 have g19 := df h17
 refine Oq Vm (Oq (Vfa fo27_1 1) (Oq (VldF sh23 1) (Oq (Vlen sl23) (Oq Vgeq (Oq Vpf (Oq Va (KS ?_)))))))
 refine Kc ?_ ?_
 ·intro h20
  have g21 := dt h20
  refine KS ?_
  refine Oq (Vbd st42 [vi 0, .slice none 0 0]) (Ost (Scl [0] sh42 [vi 0, .slice none 0 0]) (Oq Va (KS ?_)))
  refine Jl [] (Ent.slNil (α := BitVec 64)) ?_
  have hq := q4 hrr ((GSet.mk 0 []), 9) (by simp only [eq_Right, h10, h15, h17, h20, hg8, cs4]); subst hq
  exact Kr (.slice none 0 0) rfl (.cellN 1 rfl sh42 rfl (reads_Cl _ _) rfl (.tmp rfl .nil)) [0] en
 intro h20
 have g22 := df h20
 refine KS ?_
 refine Oq Vm (Oq (Vlen sl25) (Oq (Vfa fo27_1 1) (Oq (VldF sh23 1) (Oq (Vlen sl23) (Oq Vneq (Oq Vm ?_))))))
 refine Js 36 ?_ ?_
 ·intro h23
  have g24 := ne_of_bne h23
  refine Osk (Osk (Oq Vpt (Oq Va (KS ?_))))
  refine Kt (KS ?_)
  refine Oq (Vbd st42 [vi 0, .slice none 0 0]) (Ost (Scl [0] sh42 [vi 0, .slice none 0 0]) (Oq Va (KS ?_)))
  refine Jl [] (Ent.slNil (α := BitVec 64)) ?_
  have hq := q4 hrr ((GSet.mk 0 []), 1) (by simp only [eq_Right, h10, h15, h17, h20, h23, hg8, cs4]); subst hq
  exact Kr (.slice none 0 0) rfl (.cellN 1 rfl sh42 rfl (reads_Cl _ _) rfl (.tmp rfl .nil)) [0] en
 intro h23
 have g25 := eq_of_bne_false h23
 refine Oq Vm ?_
 refine JJ_ent (Ent.pall [] rfl rfl) ?_
 refine letv (sc_ContainsFunc_Set values (fun x => eq_Right_1 x)) fun rv26 hg27 => ?_
 have hc28 := fn135 values valuesa0 valuesk0 141 [] (fun x => eq_Right_1 x) [] ca141 (fun x hx a1 k1 hq0 => FT_pall (A1 := _) (fn141 x a1 k1  hq0 _ rfl)) rv26 hg27
 refine Oc [6, 0] ca135 hc28 ?_
 rintro - -
 refine Oq Vpf (Oq Va (KS ?_))
 refine Kc ?_ ?_
 ·intro h29
  try (have hvs := (EValid_iff s).1 (by simp only [h10, h15, h17, h20, h23, h29, hg8, hg27]); have hv1 := hvs.n; have hv2 := hvs.tl; have hv3 := hvs.bl; have hv4 := hvs.w; have hv5 := hvs.dep_len)
  refine KS ?_
  refine Oq (Vbd st42 [vi 0, .slice none 0 0]) (Ost (Scl [1] sh42 [vi 0, .slice none 0 0]) (Oq Va (KS ?_)))
  refine Jl [] (Ent.slNil (α := BitVec 64)) ?_
  have hq := q4 hrr ((GSet.mk 0 []), 1) (by simp only [eq_Right, h10, h15, h17, h20, h23, h29, hg8, hg27, cs4]); subst hq
  exact Kr (.slice none 0 0) rfl (.cellN 1 rfl sh42 rfl (reads_Cl _ _) rfl (.tmp rfl .nil)) [0] en
 intro h29
 refine KS ?_
 refine Oq (Vfa fo27_0 2) (Oq (VldF sh3 2) (Oq Vm ?_))
 refine letv (eq_sets s.Width values) fun rv32 hg33 => ?_
 have hc34 := fn95 s.Width values valuesa0 valuesk0 pre rv32 hg33
 refine Oc [6] ca95 hc34 ?_
 rintro - -
 refine Oq Vnot (Oq Va (KS ?_))
 refine Kc ?_ ?_
 ·intro h35
  have h37 := not_true h35
  refine KS ?_
  refine Oq (Vbd st42 [vi 0, .slice none 0 0]) (Ost (Scl [1] sh42 [vi 0, .slice none 0 0]) (Oq Va (KS ?_)))
  refine Jl [] (Ent.slNil (α := BitVec 64)) ?_
  have hq := q4 hrr ((GSet.mk 0 []), 2) (by simp only [eq_Right, h10, h15, h17, h20, h23, h29, h35, h37, hg8, hg27, hg33, cs4]); subst hq
  exact Kr (.slice none 0 0) rfl (.cellN 1 rfl sh42 rfl (reads_Cl _ _) rfl (.tmp rfl .nil)) [0] en
 intro h35
 have h40 := not_false h35
 try (have hvs := (EValid_iff s).1 (by simp only [h10, h15, h17, h20, h23, h29, h35, h40, hg8, hg27, hg33]); have hv1 := hvs.n; have hv2 := hvs.tl; have hv3 := hvs.bl; have hv4 := hvs.w; have hv5 := hvs.dep_len)
 refine KS ?_
 refine JJ_peek_GSet n.toNat 5 rfl rng fun a42 k43 hb44 => ?_
 unfold i64ok at hb44
 refine Fb 8 1 fun _ => ?_
 refine JK_drawK [0, 1, 0, 4, 0, 28, 60, 124, 252, 511, 0, 2047] fmix ?_
 refine Dv [4] (Vfa fo27_0 0) (Dv [4] (VldF sh3 0) (Dv [4] (Vfa fo27_3 0) (Dv [4] (VldF sh25 0) (Dv [] Vm (Dv [7] (Vi sl25 0) (Dv [0] (Vfa fo42_1 0) (Dv [0] (VldF sh40 0) ?_)))))))
 refine letv (sc_Clone_uint64 ((s.Boundary.getD n.toNat default).Words)) fun rv47 hg48 => Dx [1] [] [2, 0, 1] (fun G => (G.g 8 0)) [fun G => SP.fact ((rv47.length = ((s.Boundary.getD n.toNat default).Words).length)), fun G => os (G.g 8 0) rv47] (fun G => xC [0] ca142 (fn142 ((s.Boundary.getD n.toNat default).Words) a42 k43 rv47 hg48)) ?_
 refine Dx [10] [] [0] (fun G => .agg #[vi s.Width, (G.g 8 0)]) [] (fun G => xV (v := .agg #[vi s.Width, (G.g 8 0)]) (Vo 0 rfl (isO_os _ _) fun aq49 kq50 eq51 => (by rw [eq51]; exact Vbd st42 [vi s.Width, .slice aq49 ((rv47 : List (BitVec 64)).length) kq50]))) (Dx [] [] [0] (fun G => (G.g 10 0)) [fun G => Cl (G.g 10 0) [vi 0, .slice none 0 0]] (fun G => xA (Al ze42 [vi 0, .slice none 0 0])) (Dx0 [10, 11] [11] [1, 0] [fun G => Cl (G.g 10 0) [vi s.Width, (G.g 8 0)]] (fun G => x1 0 rfl os_one fun ho53 => (xS (Scl [1] sh42 [vi s.Width, (G.g 8 0)] (v := .agg #[vi s.Width, (G.g 8 0)]) (h1 := show [vi s.Width, (G.g 8 0)].all (·.oneCell') = true from (by simp only [List.all_cons, List.all_nil, ho53, Bool.and_true, Bool.true_and] <;> rfl))))) ?_))
 refine Dn ⟨by kernel_rfl, fun G => ?_⟩
 refine Jw2 [(1, vl valuesa0 valuesk0 values), (2, vi n), (3, p5), (6, p6), (8, (G.g 10 0))] [0, 1, 2, 3, 4, 5, 6, 7, 8] [SP.fact ((rv47.length = ((s.Boundary.getD n.toNat default).Words).length)), os (G.g 8 0) rv47, Cl (G.g 10 0) [vi s.Width, (G.g 8 0)]] ?_
 generalize G.g 8 0 = c46, G.g 10 0 = p52
 refine Jf 9 rfl ?_; rintro he54
 refine Jk [0, 1, 2, 3, 3, 4, 5, 6, 7, 9, 9] ?_
 refine Jo 9 ?_; rintro a55 k56 rfl
 refine Fb 8 9 fun _ => KS ?_
 refine Oq (Vfa fo27_1 4) (Oq (VldF sh23 4) (Oq Vm (Oq (Vi sl23 5) ?_)))
 refine JJ_peekL n.toNat 5 rfl rng fun a58 k59 => ?_
 refine Fb 8 1 fun _ => Fo 1 fun ho61 => ?_
 refine Oq (Vld sh22 0) (Oq (Vlen sl22) (Oq Vm (KS ?_)))
 refine Jl [11] (Ent.freeze _ _) ?_
 refine Kl (γ := Nat × Int × List (BitVec 64) × Int × Option Addr × Nat) (fun (r62, out0_63, out1_64, v64_65, a66, k67) => ⟨[(1, vl valuesa0 valuesk0 values), (3, p5), (6, p6), (8, p52), (62, vl a58 k59 (s.Deps.getD n.toNat [])), (63, vi ((s.Deps.getD n.toNat []).length : Int)), (64, vi v64_65)], [S a66 k67 out1_64, S a58 k59 ((s.Deps.getD n.toNat []) : List Int), pAll [], Cl p6 [vi 0, .slice none 0 0], pv p5 [vi s.Width, vl sa1 sk1 s.Deps, vl sa2 sk2 s.Transfers, vl sa3 sk3 s.Boundary], S sa1 sk1 s.Deps, S sa2 sk2 s.Transfers, S sa3 sk3 s.Boundary, S valuesa0 valuesk0 values, Cl p52 [vi out0_63, vl a66 k67 out1_64]], eq_Right_L0 s values n r62 out0_63 out1_64 v64_65 = eq_Right_L0 s values n (((((s.Deps.getD n.toNat []).length : Int) : Int) - 0).toNat) s.Width rv47 0 ∧ r62 = ((((s.Deps.getD n.toNat []).length : Int) : Int) - v64_65).toNat ∧ (0 : Int) ≤ v64_65 ∧ (v64_65 ≤ ((s.Deps.getD n.toNat []).length : Int) ∨ v64_65 = 0) ∧ (-9223372036854775808 ≤ out0_63 ∧ out0_63 ≤ 9223372036854775807) ∧ (-9223372036854775808 ≤ v64_65 ∧ v64_65 ≤ 9223372036854775807), r62⟩) (((((s.Deps.getD n.toNat []).length : Int) : Int) - 0).toNat, s.Width, rv47, 0, a55, k56) [0, 2, 5, 6, 6, 7, 8, 9, 10, 11] ⟨rfl, rfl, aM1, (.inr rfl), aM1, aM1⟩ ?_
 rintro ⟨r62, out0_63, out1_64, v64_65, a66, k67⟩ ⟨hM68, hr69, hi70, hi71, hk72, hk73⟩
 refine JJ_nx fun _ _ hL hA => ?_; dsimp only at hL hA; subst hL hA
 refine Fb 8 0 fun _ => Fb 8 1 fun _ => Fo 1 fun ho76 => Fb 24 5 fun _ => Fb 88 6 fun _ => Fb 32 7 fun _ => Fb 32 8 fun _ => KS ?_
 refine Oq Vlss (KS ?_)
 refine Kc ?_ ?_
 ·intro h81
  have g82 := dt h81
  have hq := hvs.dep_mem (j := n) aM1 aM1 _ (getD_mem (xs := s.Deps.getD n.toNat []) (i := v64_65.toNat) (d := 0) aM1)
  obtain ⟨r83, rfl⟩ := scc (n := r62) aM1
  refine KS ?_
  refine Oq (Vi sl22 1) ?_
  have hb84 := ok1 (i := v64_65.toNat) ho76 rng
  refine Oq (VldI sh3 1) (Oq Va (KS ?_))
  refine JJ_peek_GTransfer (((s.Deps.getD n.toNat []).getD v64_65.toNat 0) : Int).toNat 6 rfl rng fun a85 k86 a87 k88 a89 k90 hb91 hb92 => ?_
  unfold i64ok at hb91 hb92
  refine Fb 8 1 fun _ => Fb 8 2 fun _ => Fb 16 3 fun _ => ?_
  refine JJ_peek_GSet (((s.Deps.getD n.toNat []).getD v64_65.toNat 0) : Int).toNat 12 rfl rng fun a96 k97 hb98 => ?_
  unfold i64ok at hb98
  refine Fb 8 1 fun _ => ?_
  refine JK_drawK [0, 1, 0, 7, 15, 0, 0, 96, 224, 511, 1023, 2047, 2047, 0, 12287, 32767] fmix ?_
  refine Dv [10] (Vfa fo27_2 0) (Dv [10] (VldF sh24 0) (Dv [] Vm (Dv [12] (Vi sl24 0) (Dv [2] (VldA sh65 0) (Dv [] Vm (Dv [] Vm (Dv [14] (Vi sl25 0) (Dv [0] (VldA sh42 0) ?_))))))))
  refine letv (tf_Apply (s.Transfers.getD (((s.Deps.getD n.toNat []).getD v64_65.toNat 0) : Int).toNat default) (values.getD (((s.Deps.getD n.toNat []).getD v64_65.toNat 0) : Int).toNat default)) fun rv101 hg102 => ?_
  refine Dx [1, 3, 4, 5] [] [2, 3, 4, 5, 0, 1] (fun G => .tuple #[.agg #[vi rv101.1.Width, (G.g 9 0)], vi rv101.2]) [fun G => SP.fact (i64ok rv101.1.Width ∧ i64ok rv101.2), fun G => sl (G.g 9 0) rv101.1.Words] (fun G => xC [1, 2, 3, 0] ca143 (fn143 ((s.Transfers.getD (((s.Deps.getD n.toNat []).getD v64_65.toNat 0) : Int).toNat default)) a85 k86 a87 k88 a89 k90 ((values.getD (((s.Deps.getD n.toNat []).getD v64_65.toNat 0) : Int).toNat default)) a96 k97 pre pre pre rv101 hg102)) (Dg [] (fun G => .tuple #[.agg #[vi rv101.1.Width, (G.g 9 0)], vi rv101.2]) (fun G => Vm) (Dg [] (fun G => .agg #[vi rv101.1.Width, (G.g 9 0)]) (fun G => Vx) (Dv [] Vx (Dx [] [] [0] (fun G => (G.g 13 0)) [fun G => Cl (G.g 13 0) [vi 0, .slice none 0 0]] (fun G => xA (Al ze42 [vi 0, .slice none 0 0])) (Dx0 [17, 18] [18] [1, 0] [fun G => Cl (G.g 13 0) [vi rv101.1.Width, (G.g 9 0)]] (fun G => x1 0 rfl sl_one fun ho104 => (xS (Scl [1] sh42 [vi rv101.1.Width, (G.g 9 0)] (v := .agg #[vi rv101.1.Width, (G.g 9 0)]) (h1 := show [vi rv101.1.Width, (G.g 9 0)].all (·.oneCell') = true from (by simp only [List.all_cons, List.all_nil, ho104, Bool.and_true, Bool.true_and] <;> rfl))))) (Dv [] Va ?_))))))
  refine Dn ⟨by kernel_rfl, fun G => ?_⟩
  refine Jw2 [(1, vl valuesa0 valuesk0 values), (3, p5), (6, p6), (8, p52), (62, vl a58 k59 (s.Deps.getD n.toNat [])), (63, vi ((s.Deps.getD n.toNat []).length : Int)), (64, vi v64_65), (11, (G.g 13 0))] [0, 1, 2, 3, 4, 5, 6, 7, 8, 9, 10, 11, 12, 13, 14, 15] [SP.fact (i64ok rv101.1.Width ∧ i64ok rv101.2), sl (G.g 9 0) rv101.1.Words, Cl (G.g 13 0) [vi rv101.1.Width, (G.g 9 0)]] ?_
  generalize G.g 9 0 = c100, G.g 13 0 = p103
  refine Jf 16 rfl ?_; rintro ⟨he105, he106⟩
  unfold i64ok at he105 he106
  refine Jk [0, 1, 2, 3, 4, 5, 6, 7, 8, 9, 9, 10, 11, 12, 13, 14, 15, 16] ?_
  refine Jo 16 ?_; rintro a107 k108 rfl
  refine Fb 8 16 fun _ => KS ?_
  refine Oq (VldA sh42 15) (Oq (VldA sh42 17) ?_)
  refine letv (bt_Union (GSet.mk out0_63 out1_64) rv101.1) fun rv111 hg112 => ?_
  have hc113 := fn144 ((GSet.mk out0_63 out1_64)) a66 k67 rv101.1 a107 k108 pre pre rv111 hg112
  refine Oc [6, 16] ca144 hc113 ?_
  rintro c110 ⟨he114, he115⟩
  unfold i64ok at he114 he115
  refine Jo 0 ?_; rintro a116 k117 rfl
  refine Fb 8 0 fun _ => ?_
  refine Oq Vm (Oq Vx (Oq Vx (Ost (Scl [16] sh42 [vi rv111.1.Width, vl a116 k117 rv111.1.Words]) (KS ?_))))
  refine Oq Vadd (Oq Vm (KS ?_))
  exact Kg (r83, rv111.1.Width, rv111.1.Words, (v64_65 + 1), a116, k117) [1, 9, 10, 11, 11, 12, 13, 14, 15, 0] ⟨(q3 hM68 (by simp only [eq_Right_L0, h81, hg102, hg112, cs4])), aM1, aM1, aM1, aM1, aM1⟩
 intro h81
 have g119 := df h81
 obtain rfl : r62 = 0 := by omega
 refine Ke ?_
 have hR120 := q2 hM68 (out0_63, out1_64) (by simp only [eq_Right_L0, h81, cs4])
 refine KS ?_
 refine Oq (VldA sh42 9) (Ost (Scl [3] sh42 [vi out0_63, vl a66 k67 out1_64]) (Oq Va (KS ?_)))
 have hq := q4 hrr ((GSet.mk out0_63 out1_64), 0) (by simp only [eq_Right, h10, h15, h17, h20, h23, h29, h35, h40, h81, hg8, hg27, hg33, hg48, hR120, cs4]); subst hq
 exact Kr (vl a66 k67 out1_64) rfl (.cellN 0 rfl sh42 rfl (reads_Cl _ _) rfl (.tmp rfl .nil)) [1] en
theorem fn59 (s : GSystem) (sa1 : Option Addr) (sk1 : Nat) (sa2 : Option Addr) (sk2 : Nat) (sa3 : Option Addr) (sk3 : Nat) (values : List GSet) (valuesa0 : Option Addr) (valuesk0 : Nat) (hs_0 : i64ok s.Width) (rr : List GSet × Int) (hrr : fx_Next s values = rr) : FT Tryz.prog 59 #[.agg #[vi s.Width, vl sa1 sk1 s.Deps, vl sa2 sk2 s.Transfers, vl sa3 sk3 s.Boundary], vl valuesa0 valuesk0 values] [S sa1 sk1 s.Deps, S sa2 sk2 s.Transfers, S sa3 sk3 s.Boundary, S valuesa0 valuesk0 values] (fun g : Value => i64ok rr.2) (fun g => .tuple #[g, vi rr.2]) (fun g => [sl g rr.1]) := by
 refine FTi Tryz.func59 fun w0 M0 F0 => ?_
 unfold i64ok at hs_0
 refine Fb 24 0 fun _ => Fb 88 1 fun _ => Fb 32 2 fun _ => Fb 32 3 fun _ => KS ?_
 refine Oa (Ab [vi s.Width, vl sa1 sk1 s.Deps, vl sa2 sk2 s.Transfers, vl sa3 sk3 s.Boundary]) fun p5 => Oq Va (Oq Va (KS ?_))
 refine Oq (VldA sh27 0) ?_
 refine letv (eq_Valid s) fun rv6 hg7 => ?_
 have hc8 := fn56 s sa1 sk1 sa2 sk2 sa3 sk3 pre rv6 hg7
 refine Oc [1, 2, 3] ca56 hc8 ?_
 rintro - -
 refine Oq Vnot (KS ?_)
 refine Kc ?_ ?_
 ·intro h9
  have h11 := not_true h9
  refine KS ?_
  refine Oq Va (Oq Va (KS ?_))
  refine Jl [] (Ent.slNil (α := GSet)) ?_
  have hq := q4 hrr (([] : List GSet), 1) (by simp only [fx_Next, h9, h11, hg7, cs4]); subst hq
  exact Kr (.slice none 0 0) rfl (.tmp rfl (.tmp rfl .nil)) [0] en
 intro h9
 have h14 := not_false h9
 try (have hvs := (EValid_iff s).1 (by simp only [h9, h14, hg7]); have hv1 := hvs.n)
 refine KS ?_
 refine Oq Va (KS ?_)
 refine Oq (Vfa fo27_1 0) (Oq (VldF sh23 0) (Oq (Vlen sl23) (Oq Vm (KS ?_))))
 refine Jl [] (Ent.osNil (α := GSet)) ?_
 refine Kl (γ := Nat × List GSet × Int × Option Addr × Nat) (fun (r16, out_17, v16_18, a19, k20) => ⟨[(1, vl valuesa0 valuesk0 values), (2, p5), (6, vl a19 k20 out_17), (15, vi (s.Deps.length : Int)), (16, vi v16_18)], [O a19 k20 out_17, pv p5 [vi s.Width, vl sa1 sk1 s.Deps, vl sa2 sk2 s.Transfers, vl sa3 sk3 s.Boundary], S sa1 sk1 s.Deps, S sa2 sk2 s.Transfers, S sa3 sk3 s.Boundary, S valuesa0 valuesk0 values], fx_Next_L0 s values r16 out_17 v16_18 = fx_Next_L0 s values (((s.Deps.length : Int) - 0).toNat) [] 0 ∧ r16 = ((s.Deps.length : Int) - v16_18).toNat ∧ (0 : Int) ≤ v16_18 ∧ v16_18 ≤ (s.Deps.length : Int) ∧ (-9223372036854775808 ≤ v16_18 ∧ v16_18 ≤ 9223372036854775807) ∧ (out_17.length : Int) ≤ v16_18, r16⟩) (((s.Deps.length : Int) - 0).toNat, [], 0, none, 0) [0, 0, 1, 2, 3, 4] ⟨rfl, rfl, aM1, aM1, aM1, iv0⟩ ?_
 rintro ⟨r16, out_17, v16_18, a19, k20⟩ ⟨hM21, hr22, hi23, hi24, hk25, hv26⟩
 refine JJ_nx fun _ _ hL hA => ?_; dsimp only at hL hA; subst hL hA
 refine Fb 32 0 fun _ => Fb 24 2 fun _ => Fb 88 3 fun _ => Fb 32 4 fun _ => Fb 32 5 fun _ => KS ?_
 refine Oq Vlss (KS ?_)
 refine Kc ?_ ?_
 ·intro h32
  have g33 := dt h32
  obtain ⟨r34, rfl⟩ := scc (n := r16) aM1
  refine KS ?_
  refine Oq Vm (Oq Va (KS ?_))
  refine Oq (VldA sh27 1) (Oq Vm (Oq Vm ?_))
  refine letv (eq_Right s values v16_18) fun rv36 hg37 => ?_
  have hc38 := fn101 s sa1 sk1 sa2 sk2 sa3 sk3 values valuesa0 valuesk0 v16_18 pre pre rv36 hg37
  refine Oc [2, 3, 4, 5] ca101 hc38 ?_
  rintro c35 ⟨he39, he40⟩
  unfold i64ok at he39 he40
  refine Jo 0 ?_; rintro a41 k42 rfl
  refine Fb 8 0 fun _ => ?_
  refine Oq Vm (Oq Vx (Oq Vx (Oa (Al ze42 [vi 0, .slice none 0 0]) fun p44 => Ost (Scl [0] sh42 [vi rv36.1.Width, vl a41 k42 rv36.1.Words]) (Oq Va (KS ?_)))))
  refine Oq Vm (Oq Vneq (KS ?_))
  refine Kc ?_ ?_
  ·intro h45
   have g46 := ne_of_bne h45
   refine KS ?_
   refine Oq Vm (Oq Va (Oq Va (KS ?_)))
   refine Jl [] (Ent.slNil (α := GSet)) ?_
   have hR47 := q2 hM21 (.ret (([] : List GSet), rv36.2)) (by simp only [fx_Next_L0, h32, h45, hg37, cs4])
   have hq := q4 hrr (([] : List GSet), rv36.2) (by simp only [fx_Next, h9, h14, h32, h45, hg7, hg37, hR47, cs4]); subst hq
   exact Kr (.slice none 0 0) rfl (.tmp rfl (.tmp rfl .nil)) [0] en
  intro h45
  have g48 := eq_of_bne_false h45
  refine KS ?_
  refine Oq Vm (Oq (VldA sh42 0) (Oa (AsV sl25 sz25 [.agg #[vi rv36.1.Width, vl a41 k42 rv36.1.Words]] [vi rv36.1.Width, vl a41 k42 rv36.1.Words]) fun c49 => ?_))
  refine Jo 0 ?_; rintro a50 k51 rfl
  refine Jl [0, 1] (Ent.cr1 (α := GSet) (A := [S a41 k42 rv36.1.Words]) _ rv36.1 _ aB1 (fun h => ⟨_, rfl, aL1, sepAll_get (i := 0) rfl h⟩)) ?_
  refine Oa (ApO [4, 0] sl25 sl25 sz25) fun c52 => ?_
  refine Jo 0 ?_; rintro a53 k54 rfl
  refine Fb 32 0 fun _ => ?_
  have hn56 := la out_17 ([rv36.1] : List GSet)
  refine Oq Va (KS ?_)
  refine Oq Vadd (Oq Vm (KS ?_))
  exact Kg (r34, (out_17 ++ [rv36.1]), (v16_18 + 1), a53, k54) [0, 3, 4, 5, 6, 7] ⟨(q3 hM21 (by simp only [fx_Next_L0, h32, h45, hg37, cs4])), aM1, aM1, aM1, aM1, iv1⟩
 intro h32
 have g57 := df h32
 obtain rfl : r16 = 0 := by omega
 refine Ke ?_
 have hR58 := q2 hM21 (.brk out_17) (by simp only [fx_Next_L0, h32, cs4])
 refine KS ?_
 refine Oq Vm (Oq Va (Oq Va (KS ?_)))
 refine Jl [0] (Ent.freeze _ _) ?_
 have hq := q4 hrr (out_17, 0) (by simp only [fx_Next, h9, h14, h32, hg7, hR58, cs4]); subst hq
 exact Kr (vl a19 k20 out_17) rfl (.tmp rfl (.tmp rfl .nil)) [0] en
theorem fn152 (x : BitVec 64) (rr : Int) (hrr : bits_OnesCount64 x = rr) : FT Tryz.prog 152 #[u64 x] [] (fun g : Unit => i64ok rr ∧ (0 ≤ rr ∧ rr ≤ 127)) (fun g => vi rr) (fun g => []) := by
 refine FTi Tryz.func152 fun w0 M0 F0 => ?_
 refine KS ?_
 refine Oq Va (KS ?_)
 refine Oq Vm (Oq VshrU (Oq (VandU (b := 6148914691236517205#64)) (Oq Vm (Oq (VandU (b := 6148914691236517205#64)) (Oq VaddU ?_)))))
 generalize hg2 : ((x >>> Int.toNat 1) &&& 6148914691236517205#64) + (x &&& 6148914691236517205#64) = rv1
 refine Oq Va (KS ?_)
 refine Oq Vm (Oq VshrU (Oq (VandU (b := 3689348814741910323#64)) (Oq Vm (Oq (VandU (b := 3689348814741910323#64)) (Oq VaddU ?_)))))
 generalize hg4 : ((rv1 >>> Int.toNat 2) &&& 3689348814741910323#64) + (rv1 &&& 3689348814741910323#64) = rv3
 refine Oq Va (KS ?_)
 refine Oq Vm (Oq VshrU (Oq Vm (Oq VaddU (Oq (VandU (b := 1085102592571150095#64)) ?_))))
 generalize hg6 : ((rv3 >>> Int.toNat 4) + rv3) &&& 1085102592571150095#64 = rv5
 refine Oq Va (KS ?_)
 refine Oq Vm (Oq Vm (Oq VshrU (Oq VaddU ?_)))
 generalize hg8 : rv5 + (rv5 >>> Int.toNat 8) = rv7
 refine Oq Va (KS ?_)
 refine Oq Vm (Oq Vm (Oq VshrU (Oq VaddU ?_)))
 generalize hg10 : rv7 + (rv7 >>> Int.toNat 16) = rv9
 refine Oq Va (KS ?_)
 refine Oq Vm (Oq Vm (Oq VshrU (Oq VaddU ?_)))
 generalize hg12 : rv9 + (rv9 >>> Int.toNat 32) = rv11
 refine Oq Va (KS ?_)
 refine Oq Vm (Oq (VcN un91 un3 (h := (pop_top hg2 hg4 hg6 hg8 hg10 hg12))) ?_)
 have hb13 := iand_ok (rv11.toNat : Int) 127
 refine Oq VandI (Oq Va (KS ?_))
 have hq := q4 hrr (iand (rv11.toNat : Int) 127) (by subst hg2 hg4 hg6 hg8 hg10 hg12; rfl); subst hq
 exact Kr () rfl (.tmp rfl .nil) [] ⟨by unfold i64ok; omega, by have h1 := pop_top hg2 hg4 hg6 hg8 hg10 hg12; have h2 := iand127 (n := rv11.toNat) aM1; omega⟩
theorem fn112 (s : GSet) (sa1 : Option Addr) (sk1 : Nat) (hs_0 : i64ok s.Width) (rr : Int) (hrr : bt_Count s = rr) : FT Tryz.prog 112 #[.agg #[vi s.Width, vl sa1 sk1 s.Words]] [S sa1 sk1 s.Words] (fun g : Unit => i64ok rr) (fun g => vi rr) (fun g => []) := by
 refine FTi Tryz.func112 fun w0 M0 F0 => ?_
 unfold i64ok at hs_0
 refine Fb 8 0 fun _ => KS ?_
 refine Oa (Ab [vi s.Width, vl sa1 sk1 s.Words]) fun p2 => Oq Va (KS ?_)
 refine Oq Va (KS ?_)
 refine Oq (VldA sh42 0) ?_
 refine letv (bt_Valid s) fun rv3 hg4 => ?_
 have hc5 := fn79 s sa1 sk1 pre rv3 hg4
 refine Oc [1] ca79 hc5 ?_
 rintro - -
 refine KS ?_
 refine Kc ?_ ?_
 ·intro h6
  have hpw := PV_w (s := s) (by simp only [h6, hg4])
  refine KS ?_
  refine Oq (Vfa fo42_1 0) (Oq (VldF sh40 0) (Oq (Vlen sl40) (Oq Vm (KS ?_))))
  refine Kl (γ := Nat × Int × Int) (fun (r8, n_9, v11_10) => ⟨[(3, vi n_9), (9, vl sa1 sk1 s.Words), (10, vi (s.Words.length : Int)), (11, vi v11_10)], [S sa1 sk1 s.Words], bt_Count_L0 s r8 n_9 v11_10 = bt_Count_L0 s (((s.Words.length : Int) - 0).toNat) 0 0 ∧ r8 = ((s.Words.length : Int) - v11_10).toNat ∧ (0 : Int) ≤ v11_10 ∧ v11_10 ≤ (s.Words.length : Int) ∧ (-9223372036854775808 ≤ n_9 ∧ n_9 ≤ 9223372036854775807) ∧ (-9223372036854775808 ≤ v11_10 ∧ v11_10 ≤ 9223372036854775807) ∧ (0 ≤ n_9 ∧ n_9 ≤ 127 * v11_10), r8⟩) (((s.Words.length : Int) - 0).toNat, 0, 0) [1] ⟨rfl, rfl, aM1, aM1, aM1, aM1, iv0⟩ ?_
  rintro ⟨r8, n_9, v11_10⟩ ⟨hM11, hr12, hi13, hi14, hk15, hk16, hv17⟩
  refine JJ_nx fun _ _ hL hA => ?_; dsimp only at hL hA; subst hL hA
  refine Fb 8 0 fun _ => KS ?_
  refine Oq Vlss (KS ?_)
  refine Kc ?_ ?_
  ·intro h19
   have g20 := dt h19
   obtain ⟨r21, rfl⟩ := scc (n := r8) aM1
   refine KS ?_
   refine Oq (Vi sl40 0) (Oq (VldU sh91 0) (Oq Va (KS ?_)))
   refine Oq Vm (Oq Vm ?_)
   refine letv (bits_OnesCount64 (s.Words.getD v11_10.toNat 0#64)) fun rv22 hg23 => ?_
   have hc24 := fn152 ((s.Words.getD v11_10.toNat 0#64)) rv22 hg23
   refine Oc [] ca152 hc24 ?_
   rintro - ⟨he25, he26⟩
   unfold i64ok at he25
   refine Oq Vadd (Oq Va (KS ?_))
   refine Oq Vadd (Oq Vm (KS ?_))
   exact Kg (r21, (n_9 + rv22), (v11_10 + 1)) [0] ⟨(q3 hM11 (by simp only [bt_Count_L0, h19, hg23, cs4])), aM1, aM1, aM1, aM1, aM1, iv1⟩
  intro h19
  have g27 := df h19
  obtain rfl : r8 = 0 := by omega
  refine Ke ?_
  have hR28 := q2 hM11 n_9 (by simp only [bt_Count_L0, h19, cs4])
  refine KS ?_
  refine Oq Vm (Oq Va (KS ?_))
  have hq := q4 hrr n_9 (by simp only [bt_Count, h6, h19, hg4, hR28, cs4]); subst hq
  exact Kr () rfl (.tmp rfl .nil) [] en
 intro h6
 refine KS ?_
 refine Oq Vm (Oq Va (KS ?_))
 have hq := q4 hrr 0 (by simp only [bt_Count, h6, hg4, cs4]); subst hq
 exact Kr () rfl (.tmp rfl .nil) [] en
theorem fn78 (a : GSet) (aa1 : Option Addr) (ak1 : Nat) (b : GSet) (ba1 : Option Addr) (bk1 : Nat) (ha_0 : i64ok a.Width) (hb_0 : i64ok b.Width) (rr : Bool) (hrr : bt_Subset a b = rr) : FT Tryz.prog 78 #[.agg #[vi a.Width, vl aa1 ak1 a.Words], .agg #[vi b.Width, vl ba1 bk1 b.Words]] [S aa1 ak1 a.Words, S ba1 bk1 b.Words] (fun g : Unit => True) (fun g => vb rr) (fun g => []) := by
 refine FTi Tryz.func78 fun w0 M0 F0 => ?_
 unfold i64ok at ha_0 hb_0
 refine Fb 8 0 fun _ => Fb 8 1 fun _ => KS ?_
 refine Oa (Ab [vi a.Width, vl aa1 ak1 a.Words]) fun p3 => Oa (Ab [vi b.Width, vl ba1 bk1 b.Words]) fun p4 => Oq Va (KS ?_)
 refine Oq (VldA sh42 1) (Oq (VldA sh42 0) ?_)
 refine letv (bt_Diff a b) fun rv6 hg7 => ?_
 have hc8 := fn111 a aa1 ak1 b ba1 bk1 pre pre rv6 hg7
 refine Oc [2, 3] ca111 hc8 ?_
 rintro c5 ⟨he9, he10⟩
 unfold i64ok at he9 he10
 refine Jo 0 ?_; rintro a11 k12 rfl
 refine Fb 8 0 fun _ => ?_
 refine Oq Vm (Oq Vx (Oq Vx (Oa (Al ze42 [vi 0, .slice none 0 0]) fun p14 => Ost (Scl [0] sh42 [vi rv6.1.Width, vl a11 k12 rv6.1.Words]) (Oq Va (KS ?_)))))
 refine Oq Vm (Oq Veql (Oq Vm ?_))
 refine Js 15 ?_ ?_
 ·intro h15
  have g16 := eq_of_beq h15
  refine Oq (VldA sh42 0) ?_
  refine letv (bt_Count rv6.1) fun rv17 hg18 => ?_
  have hc19 := fn112 rv6.1 a11 k12 pre rv17 hg18
  refine Oc [1] ca112 hc19 ?_
  rintro - he20
  unfold i64ok at he20
  refine Oq Veql (Oq Vpt (Oq Va (KS ?_)))
  have hq := q4 hrr (rv17 == 0) (by simp only [bt_Subset, h15, hg7, hg18, cs4]); subst hq
  exact Kr () rfl (.tmp rfl .nil) [] trivial
 intro h15
 have g21 := ne_of_beq_false h15
 refine Osk (Osk (Osk (Oq Vpf (Oq Va (KS ?_)))))
 have hq := q4 hrr false (by simp only [bt_Subset, h15, hg7, cs4]); subst hq
 exact Kr () rfl (.tmp rfl .nil) [] trivial
theorem fn46 (s : GSystem) (sa1 : Option Addr) (sk1 : Nat) (sa2 : Option Addr) (sk2 : Nat) (sa3 : Option Addr) (sk3 : Nat) (values : List GSet) (valuesa0 : Option Addr) (valuesk0 : Nat) (hs_0 : i64ok s.Width) (rr : Bool) (hrr : fx_IsAbove s values = rr) : FT Tryz.prog 46 #[.agg #[vi s.Width, vl sa1 sk1 s.Deps, vl sa2 sk2 s.Transfers, vl sa3 sk3 s.Boundary], vl valuesa0 valuesk0 values] [S sa1 sk1 s.Deps, S sa2 sk2 s.Transfers, S sa3 sk3 s.Boundary, S valuesa0 valuesk0 values] (fun g : Unit => True) (fun g => vb rr) (fun g => []) := by
 refine FTi Tryz.func46 fun w0 M0 F0 => ?_
 unfold i64ok at hs_0
 refine Fb 24 0 fun _ => Fb 88 1 fun _ => Fb 32 2 fun _ => Fb 32 3 fun _ => KS ?_
 refine Oa (Ab [vi s.Width, vl sa1 sk1 s.Deps, vl sa2 sk2 s.Transfers, vl sa3 sk3 s.Boundary]) fun p5 => Oq Va (KS ?_)
 refine Oq (VldA sh27 0) (Oq Vm ?_)
 refine letv (fx_Next s values) fun rv7 hg8 => ?_
 have hc9 := fn59 s sa1 sk1 sa2 sk2 sa3 sk3 values valuesa0 valuesk0 pre rv7 hg8
 refine Oc [1, 2, 3, 4] ca59 hc9 ?_
 rintro c6 he10
 unfold i64ok at he10
 refine Jo 0 ?_; rintro a11 k12 rfl
 refine Fb 32 0 fun _ => ?_
 refine Oq Vm (Oq Vx (Oq Vx (Oq Va (Oq Va (KS ?_)))))
 refine Oq Vm (Oq Vneq (KS ?_))
 refine Kc ?_ ?_
 ·intro h14
  have g15 := ne_of_bne h14
  refine KS ?_
  refine Oq Va (KS ?_)
  have hq := q4 hrr false (by simp only [fx_IsAbove, h14, hg8, cs4]); subst hq
  exact Kr () rfl (.tmp rfl .nil) [] trivial
 intro h14
 have g16 := eq_of_bne_false h14
 obtain ⟨hnv, hnw, hnx⟩ := pNext_ok (by assumption : fx_Next s values = rv7) h14; have hnl := hnw.1; have hnb := hnv.bl; have hn1 := hnv.n; have hne : rv7.1.length = s.Boundary.length := by rw [hnx, Fv_len]
 refine KS ?_
 refine Oq Vm (Oq (Vlen sl25) (Oq Vm (KS ?_)))
 refine Kl (γ := Nat × Int) (fun (r17, v18_18) => ⟨[(1, vl valuesa0 valuesk0 values), (5, vl a11 k12 rv7.1), (17, vi (rv7.1.length : Int)), (18, vi v18_18)], [S a11 k12 rv7.1, S valuesa0 valuesk0 values], fx_IsAbove_L0 values rv7.1 r17 v18_18 = fx_IsAbove_L0 values rv7.1 (((rv7.1.length : Int) - 0).toNat) 0 ∧ r17 = ((rv7.1.length : Int) - v18_18).toNat ∧ (0 : Int) ≤ v18_18 ∧ v18_18 ≤ (rv7.1.length : Int) ∧ (-9223372036854775808 ≤ v18_18 ∧ v18_18 ≤ 9223372036854775807), r17⟩) (((rv7.1.length : Int) - 0).toNat, 0) [0, 5] ⟨rfl, rfl, aM1, aM1, aM1⟩ ?_
 rintro ⟨r17, v18_18⟩ ⟨hM19, hr20, hi21, hi22, hk23⟩
 refine JJ_nx fun _ _ hL hA => ?_; dsimp only at hL hA; subst hL hA
 refine Fb 32 0 fun _ => Fb 32 1 fun _ => KS ?_
 refine Oq Vlss (KS ?_)
 refine Kc ?_ ?_
 ·intro h26
  have g27 := dt h26
  obtain ⟨r28, rfl⟩ := scc (n := r17) aM1
  refine KS ?_
  refine Oq Vm (Oq Va (KS ?_))
  refine JJ_peek_GSet v18_18.toNat 0 rfl rng fun a29 k30 hb31 => ?_
  unfold i64ok at hb31
  refine Fb 8 1 fun _ => ?_
  refine JJ_peek_GSet v18_18.toNat 3 rfl rng fun a33 k34 hb35 => ?_
  unfold i64ok at hb35
  refine Fb 8 1 fun _ => ?_
  refine JK_drawK [0, 0, 3, 7, 0, 0, 48, 112, 255, 511] fmix ?_
  refine Dv [] Vm (Dv [] Vm (Dv [4] (Vi sl25 0) (Dv [2] (VldA sh42 0) (Dv [] Vm (Dv [] Vm (Dv [5] (Vi sl25 0) (Dv [0] (VldA sh42 0) ?_)))))))
  refine letv (bt_Subset (rv7.1.getD v18_18.toNat default) (values.getD v18_18.toNat default)) fun rv37 hg38 => ?_
  refine Dx [1, 3] [] [1, 2, 0] (fun G => vb rv37) [fun G => SP.fact (True)] (fun G => xC [1, 0] ca78 (fn78 ((rv7.1.getD v18_18.toNat default)) a29 k30 ((values.getD v18_18.toNat default)) a33 k34 pre pre rv37 hg38)) (Dv [] Vnot ?_)
  refine Dn ⟨by kernel_rfl, fun G => ?_⟩
  refine Jw2 [(1, vl valuesa0 valuesk0 values), (5, vl a11 k12 rv7.1), (17, vi (rv7.1.length : Int)), (18, vi v18_18), (30, vb (!rv37))] [0, 1, 2, 3, 4, 5] [SP.fact (True)] ?_
  refine Jk [0, 1, 2, 3, 4, 5] ?_
  refine Kc ?_ ?_
  ·intro h39
   have h41 := not_true h39
   refine KS ?_
   refine Oq Va (KS ?_)
   have hR43 := q2 hM19 (.ret false) (by simp only [fx_IsAbove_L0, h26, h39, h41, hg38, cs4])
   have hq := q4 hrr false (by simp only [fx_IsAbove, h14, h26, h39, h41, hg8, hg38, hR43, cs4]); subst hq
   exact Kr () rfl (.tmp rfl .nil) [] trivial
  intro h39
  have h45 := not_false h39
  refine KS ?_
  refine Oq Vadd (Oq Vm (KS ?_))
  exact Kg (r28, (v18_18 + 1)) [4, 5] ⟨(q3 hM19 (by simp only [fx_IsAbove_L0, h26, h39, h45, hg38, cs4])), aM1, aM1, aM1, aM1⟩
 intro h26
 have g47 := df h26
 obtain rfl : r17 = 0 := by omega
 refine Ke ?_
 have hR48 := q2 hM19 (.brk ()) (by simp only [fx_IsAbove_L0, h26, cs4])
 refine KS ?_
 refine Oq Va (KS ?_)
 have hq := q4 hrr true (by simp only [fx_IsAbove, h14, h26, hg8, hR48, cs4]); subst hq
 exact Kr () rfl (.tmp rfl .nil) [] trivial
theorem fn16 (s : GSystem) (sa1 : Option Addr) (sk1 : Nat) (sa2 : Option Addr) (sk2 : Nat) (sa3 : Option Addr) (sk3 : Nat) (n : Int) (bit : Int) (values : List GSet) (valuesa0 : Option Addr) (valuesk0 : Nat) (hs_0 : i64ok s.Width) (hn_0 : i64ok n) (hbit_0 : i64ok bit) (rr : Bool) (hrr : wt_CheckAbsent s n bit values = rr) : FT Tryz.prog 16 #[.agg #[vi s.Width, vl sa1 sk1 s.Deps, vl sa2 sk2 s.Transfers, vl sa3 sk3 s.Boundary], vi n, vi bit, vl valuesa0 valuesk0 values] [S sa1 sk1 s.Deps, S sa2 sk2 s.Transfers, S sa3 sk3 s.Boundary, S valuesa0 valuesk0 values] (fun g : Unit => True) (fun g => vb rr) (fun g => []) := by
 refine FTi Tryz.func16 fun w0 M0 F0 => ?_
 unfold i64ok at hs_0 hn_0 hbit_0
 refine Fb 24 0 fun _ => Fb 88 1 fun _ => Fb 32 2 fun _ => Fb 32 3 fun _ => KS ?_
 refine Oa (Ab [vi s.Width, vl sa1 sk1 s.Deps, vl sa2 sk2 s.Transfers, vl sa3 sk3 s.Boundary]) fun p5 => Oq Va (KS ?_)
 refine Oq (VldA sh27 0) (Oq Vm (Oq Vm ?_))
 refine letv (wt_arguments s n bit) fun rv6 hg7 => ?_
 have hc8 := fn42 s sa1 sk1 sa2 sk2 sa3 sk3 n bit pre pre pre rv6 hg7
 refine Oc [1, 2, 3] ca42 hc8 ?_
 rintro - he9
 unfold i64ok at he9
 refine Oq Veql (Oq Vm ?_)
 refine Js 14 ?_ ?_
 ·intro h10
  have g11 := eq_of_beq h10
  have hwa := wargs_1 (by assumption : wt_arguments s _ _ = rv6) h10; have hwb := hwa.1.bl; have hwt := hwa.2.1
  refine Oq (VldA sh27 0) (Oq Vm ?_)
  refine letv (fx_IsAbove s values) fun rv12 hg13 => ?_
  have hc14 := fn46 s sa1 sk1 sa2 sk2 sa3 sk3 values valuesa0 valuesk0 pre rv12 hg13
  refine Oc [1, 2, 3, 4] ca46 hc14 ?_
  rintro - -
  refine Oq Vpt (Oq Vm ?_)
  refine Js 19 ?_ ?_
  ·intro h15
   try (have hab := isAbove_len ((by assumption : fx_IsAbove s values = rv12).trans h15))
   refine Oq Vm (Oq Vm (Oq (Vi sl25 4) ?_))
   refine JJ_peek_GSet n.toNat 4 rfl rng fun a17 k18 hb19 => ?_
   unfold i64ok at hb19
   refine Fb 8 1 fun _ => ?_
   refine Oq (VldA sh42 0) (Oq Vm ?_)
   refine letv (bt_Has (values.getD n.toNat default) bit) fun rv21 hg22 => ?_
   have hc23 := fn47 ((values.getD n.toNat default)) a17 k18 bit pre pre rv21 hg22
   refine Oc [1] ca47 hc23 ?_
   rintro - -
   refine Oq Vnot (Oq Vpt (Oq Va (KS ?_)))
   have hq := q4 hrr (!rv21) (by simp only [wt_CheckAbsent, h10, h15, hg7, hg13, hg22, cs4]); subst hq
   exact Kr () rfl (.tmp rfl .nil) [] trivial
  intro h15
  refine Osk (Osk (Osk (Osk (Osk (Osk (Osk (Oq Vpf (Oq Va (KS ?_)))))))))
  have hq := q4 hrr false (by simp only [wt_CheckAbsent, h10, h15, hg7, hg13, cs4]); subst hq
  exact Kr () rfl (.tmp rfl .nil) [] trivial
 intro h10
 have g25 := ne_of_beq_false h10
 refine Osk (Osk (Osk (Oq Vpf (Oq Vm (Osk (Osk (Osk (Osk (Osk ?_)))))))))
 refine Osk (Osk (Oq Vpf (Oq Va (KS ?_))))
 have hq := q4 hrr false (by simp only [wt_CheckAbsent, h10, hg7, cs4]); subst hq
 exact Kr () rfl (.tmp rfl .nil) [] trivial
theorem fn102 (s : List GHop) (sa0 : Option Addr) (sk0 : Nat) (fF : FuncId) (fC : List Value) (fp : GHop → Bool) (fA : List SP) (hfc : callable Tryz.prog fF = true) (hfF : ∀ x ∈ s, i64ok x.Node → i64ok x.Bit → FT Tryz.prog fF ([(.agg #[vi x.Node, vi x.Bit] : Value)] ++ fC).toArray ([] ++ [pAll fA]) (fun _ : Unit => True) (fun _ => .bool (fp x)) (fun _ => [])) (rr : Int) (hrr : sc_IndexFunc_Hop s fp = rr) : FT Tryz.prog 102 #[vl sa0 sk0 s, .func (.func fF) #[] fC.toArray] [S sa0 sk0 s, pAll fA] (fun g : Unit => i64ok rr ∧ (-1 ≤ rr ∧ rr < (s.length : Int))) (fun g => vi rr) (fun g => []) := by
 refine FTi Tryz.func102 fun w0 M0 F0 => Fb 16 0 fun _ => ?_
 refine KS ?_
 refine Oq Va (KS ?_)
 refine Oq Vm (Oq (Vlen sl28) (Oq Vm (KS ?_)))
 refine Kl (γ := Nat × Int) (fun (r2, v8_3) => ⟨[(0, vl sa0 sk0 s), (1, .func (.func fF) #[] fC.toArray), (7, vi (s.length : Int)), (8, vi v8_3)], [S sa0 sk0 s, pAll fA], sc_IndexFunc_Hop_L0 s fp r2 v8_3 = sc_IndexFunc_Hop_L0 s fp (((s.length : Int) - 0).toNat) 0 ∧ r2 = ((s.length : Int) - v8_3).toNat ∧ (0 : Int) ≤ v8_3 ∧ v8_3 ≤ (s.length : Int) ∧ (-9223372036854775808 ≤ v8_3 ∧ v8_3 ≤ 9223372036854775807), r2⟩) (((s.length : Int) - 0).toNat, 0) [0, 1] ⟨rfl, rfl, aM1, aM1, aM1⟩ ?_
 rintro ⟨r2, v8_3⟩ ⟨hM4, hr5, hi6, hi7, hk8⟩
 refine JJ_nx fun _ _ hL hA => ?_; dsimp only at hL hA; subst hL hA
 refine Fb 16 0 fun _ => KS ?_
 refine Oq Vlss (KS ?_)
 refine Kc ?_ ?_
 ·intro h10
  have g11 := dt h10
  obtain ⟨r12, rfl⟩ := scc (n := r2) aM1
  refine KS ?_
  refine Oq Vm (Oq Va (KS ?_))
  refine Oq Vm (Oq Vm (Oq Vm (Oq (Vi sl28 0) ?_)))
  refine JJ_peek_GHop v8_3.toNat 0 rfl rng fun hb13 hb14 => ?_
  unfold i64ok at hb13 hb14
  refine Oq (VldA sh37 0) ?_
  refine JO_call [2] rfl rfl rfl (OpC.clo (asv := [(.agg #[vi ((s.getD v8_3.toNat default).Node), vi ((s.getD v8_3.toNat default).Bit)] : Value)] ++ fC) rfl rfl hfc rfl (by simp)) (hfF (s.getD v8_3.toNat default) (getD_mem rng)  pre pre) rfl fun _ _ => ?_
  refine KS ?_
  refine Kc ?_ ?_
  ·intro h15
   refine KS ?_
   refine Oq Vm (Oq Va (KS ?_))
   have hR17 := q2 hM4 (.ret v8_3) (by simp only [sc_IndexFunc_Hop_L0, h10, h15, cs4])
   have hq := q4 hrr v8_3 (by simp only [sc_IndexFunc_Hop, h10, h15, hR17, cs4]); subst hq
   exact Kr () rfl (.tmp rfl .nil) [] en
  intro h15
  refine KS ?_
  refine Oq Vadd (Oq Vm (KS ?_))
  exact Kg (r12, (v8_3 + 1)) [1, 2] ⟨(q3 hM4 (by simp only [sc_IndexFunc_Hop_L0, h10, h15, cs4])), aM1, aM1, aM1, aM1⟩
 intro h10
 have g19 := df h10
 obtain rfl : r2 = 0 := by omega
 refine Ke ?_
 have hR20 := q2 hM4 (.brk ()) (by simp only [sc_IndexFunc_Hop_L0, h10, cs4])
 refine KS ?_
 refine Oq Va (KS ?_)
 have hq := q4 hrr (-1) (by simp only [sc_IndexFunc_Hop, h10, hR20, cs4]); subst hq
 exact Kr () rfl (.tmp rfl .nil) [] en
theorem fn60 (s : List GHop) (sa0 : Option Addr) (sk0 : Nat) (delF : FuncId) (delC : List Value) (delp : GHop → Bool) (delA : List SP) (hdelc : callable Tryz.prog delF = true) (hdelF : ∀ x ∈ s, i64ok x.Node → i64ok x.Bit → FT Tryz.prog delF ([(.agg #[vi x.Node, vi x.Bit] : Value)] ++ delC).toArray ([] ++ [pAll delA]) (fun _ : Unit => True) (fun _ => .bool (delp x)) (fun _ => [])) (rr : List GHop) (hrr : sc_DeleteFunc_Hop s delp = rr) : FT Tryz.prog 60 #[vl sa0 sk0 s, .func (.func delF) #[] delC.toArray] [O sa0 sk0 s, pAll delA] (fun g : Value => True) (fun g => g) (fun g => [os g rr]) := by
 refine FTi Tryz.func60 fun w0 M0 F0 => Fb 16 0 fun _ => ?_
 refine KS ?_
 refine Oq Va (KS ?_)
 refine Oq Vm (Oq Vm ?_)
 refine letv (sc_IndexFunc_Hop s delp) fun rv2 hg3 => ?_
 refine Oc [0, 0] ca102 (FT_borrow (A := _) (fun _ _ h => by cases h) (FT_ent (Ent.take (is := [0, 1]) rfl) (fn102 s sa0 sk0 delF delC delp delA hdelc hdelF rv2 hg3))) ?_ (ht := rfl)
 rintro - ⟨he4, he5⟩
 unfold i64ok at he4
 refine Oq Va (KS ?_)
 refine Oq Vm (Oq Veql (KS ?_))
 refine Kc ?_ ?_
 ·intro h6
  have g7 := eq_of_beq h6
  refine KS ?_
  refine Oq Vm (Oq Va (KS ?_))
  have hq := q4 hrr s (by simp only [sc_DeleteFunc_Hop, h6, hg3, cs4]); subst hq
  exact Kr (vl sa0 sk0 s) rfl (.tmp rfl .nil) [0] trivial
 intro h6
 have g8 := ne_of_beq_false h6
 refine KS ?_
 refine Oq Vm (Oq Vadd (Oq Va (KS ?_)))
 refine Kl (γ := Nat × List GHop × Int × Int) (fun (r9, s_10, i_11, j_12) => ⟨[(0, vl sa0 sk0 s), (1, .func (.func delF) #[] delC.toArray), (5, vi i_11), (6, vi j_12)], [os (vl sa0 sk0 s) s_10, pAll delA], sc_DeleteFunc_Hop_L0 delp r9 s_10 i_11 j_12 = sc_DeleteFunc_Hop_L0 delp (((s.length : Int) - (rv2 + 1)).toNat) s rv2 (rv2 + 1) ∧ r9 = ((s.length : Int) - j_12).toNat ∧ ((rv2 + 1) : Int) ≤ j_12 ∧ (j_12 ≤ (s.length : Int) ∨ j_12 = (rv2 + 1)) ∧ (-9223372036854775808 ≤ i_11 ∧ i_11 ≤ 9223372036854775807) ∧ (-9223372036854775808 ≤ j_12 ∧ j_12 ≤ 9223372036854775807) ∧ (∀ x ∈ s_10, x ∈ s) ∧ (0 ≤ i_11 ∧ i_11 < j_12) ∧ (s_10.length = s.length), r9⟩) (((s.length : Int) - (rv2 + 1)).toNat, s, rv2, (rv2 + 1)) [0, 0] ⟨rfl, rfl, aM1, (.inr rfl), aM1, aM1, (fun x h => h), iv0, iv0⟩ ?_
 rintro ⟨r9, s_10, i_11, j_12⟩ ⟨hM13, hr14, hi15, hi16, hk17, hk18, hv19, hv20, hv21⟩
 refine JJ_nx fun _ _ hL hA => ?_; dsimp only at hL hA; subst hL hA
 refine Fb 16 0 fun _ => Fl 0 fun hn23 => ?_
 refine KS ?_
 refine Oq Vm (Oq Vm (Oq (Vlen sl28) (Oq Vlss (KS ?_))))
 refine Kc ?_ ?_
 ·intro h24
  have g25 := dt h24
  obtain ⟨r26, rfl⟩ := scc (n := r9) aM1
  refine KS ?_
  refine Oq Vm (Oq Vm (Oq (Vi sl28 0) ?_))
  refine JJ_peekO_GHop j_12.toNat 0 rfl rng fun hb27 hb28 => ?_
  unfold i64ok at hb27 hb28
  refine Oq (VldA sh37 0) (Oa (Al ze37 [vi 0, vi 0]) fun p29 => Ost (Scl [0] sh37 [vi ((s_10.getD j_12.toNat default).Node), vi ((s_10.getD j_12.toNat default).Bit)]) (KS ?_))
  refine Oq Vm (Oq (VldA sh37 0) ?_)
  refine JO_call [2] rfl rfl rfl (OpC.clo (asv := [(.agg #[vi ((s_10.getD j_12.toNat default).Node), vi ((s_10.getD j_12.toNat default).Bit)] : Value)] ++ delC) rfl rfl hdelc rfl (by simp)) (hdelF (s_10.getD j_12.toNat default) ((by assumption : ∀ x ∈ _, x ∈ s) _ (getD_mem rng))  pre pre) rfl fun _ _ => ?_
  refine Oq Vnot (KS ?_)
  refine Kc ?_ ?_
  ·intro h30
   have h32 := not_true h30
   refine KS ?_
   refine Oq Vm (Oq Vm (Oq (VldA sh37 0) (Oq (Vi sl28 1) ?_)))
   refine Jl [1] (Ent.oread _ _ _ _) ?_
   refine Ost (So (Rs := []) [0] sh37 (s_10.getD j_12.toNat default) (fun h => ⟨rfl, aL1, aL1⟩)) (KS ?_)
   refine Oq Vm (Oq Vadd (Oq Va (KS ?_)))
   refine Oq Vm (Oq Vadd (Oq Va (KS ?_)))
   exact Kg (r26, (s_10.set i_11.toNat (s_10.getD j_12.toNat default)), (i_11 + 1), (j_12 + 1)) [0, 1] ⟨(q3 hM13 (by simp only [sc_DeleteFunc_Hop_L0, h24, h30, h32, cs4])), aM1, aM1, aM1, aM1, aM1, (by first | assumption | exact fun x h => (List.mem_or_eq_of_mem_set h).elim ((by assumption : ∀ x ∈ _, x ∈ s) x) (fun e => e ▸ (by assumption : ∀ x ∈ _, x ∈ s) _ (getD_mem rng))), iv1, iv1⟩
  intro h30
  have h35 := not_false h30
  refine KS ?_
  refine Oq Vm (Oq Vadd (Oq Va (KS ?_)))
  refine Jl [1] (Ent.oread _ _ _ _) ?_
  exact Kg (r26, s_10, i_11, (j_12 + 1)) [0, 1] ⟨(q3 hM13 (by simp only [sc_DeleteFunc_Hop_L0, h24, h30, h35, cs4])), aM1, aM1, aM1, aM1, aM1, (by first | assumption | exact fun x h => (List.mem_or_eq_of_mem_set h).elim ((by assumption : ∀ x ∈ _, x ∈ s) x) (fun e => e ▸ (by assumption : ∀ x ∈ _, x ∈ s) _ (getD_mem rng))), iv1, iv1⟩
 intro h24
 have g37 := df h24
 obtain rfl : r9 = 0 := by omega
 refine Ke ?_
 have hR38 := q2 hM13 (s_10, i_11) (by simp only [sc_DeleteFunc_Hop_L0, h24, cs4])
 refine KS ?_
 refine Oq Vm (Oq Vm (Oq (VslA sl28 0 (i_11.toNat)) ?_))
 refine Oan (OpA.frame [0] rfl (OpA.clearR (α := GHop) (z := (GHop.mk 0 0)) sl28 (zv := .agg #[vi 0, vi 0]) ze37 (fun _ _ => ⟨rfl, (by unfold i64ok; decide), (by unfold i64ok; decide)⟩) (i_11.toNat) rfl rfl aM1)) fun _ => ?_
 have hn39 : ((s_10.take (i_11.toNat)) ++ (List.replicate (s.length - i_11.toNat) (GHop.mk 0 0))).length = s_10.length := by simp only [List.length_append, List.length_take, List.length_replicate]; omega
 refine KS ?_
 refine Oq Vm (Oq Vm (Oa (AslO [0] sl28 0 (i_11.toNat)) fun c40 => ?_))
 refine Jo 0 ?_; rintro a41 k42 rfl
 refine Fb 16 0 fun _ => ?_
 have hn44 : ((((s_10.take (i_11.toNat)) ++ (List.replicate (s.length - i_11.toNat) (GHop.mk 0 0))).take (i_11.toNat)).drop 0).length = (i_11.toNat) - 0 := len_slice rng rng
 refine Oq Va (KS ?_)
 have hq := q4 hrr ((((s_10.take (i_11.toNat)) ++ (List.replicate (s.length - i_11.toNat) (GHop.mk 0 0))).take (i_11.toNat)).drop 0) (by simp only [sc_DeleteFunc_Hop, h6, h24, hg3, hR38, cs4]); subst hq
 exact Kr (.slice a41 (((((s_10.take (i_11.toNat)) ++ (List.replicate (s.length - i_11.toNat) (GHop.mk 0 0))).take (i_11.toNat)).drop 0).length) k42) rfl (.tmp rfl .nil) [0] trivial
theorem fn61 (s : List GHop) (sa0 : Option Addr) (sk0 : Nat) (rr : List GHop) (hrr : sc_Clone_Hop s = rr) : FT Tryz.prog 61 #[vl sa0 sk0 s] [S sa0 sk0 s] (fun g : Value => (rr.length = s.length)) (fun g => g) (fun g => [os g rr]) := by
 have hm : sc_Clone_Hop s = s := rfl
 rw [hm] at hrr
 subst hrr
 refine FTi Tryz.func61 fun w0 M0 F0 => ?_
 refine KS ?_
 refine Oq Va ?_
 refine KS ?_
 refine Oq Vm ?_
 refine Oq (VeqN un28) ?_
 refine KS ?_
 refine Kc ?_ ?_
 ·intro h
  refine Jnil 0 h ?_
  intro h0
  subst h0
  refine KS ?_
  refine Oq Va ?_
  refine KS ?_
  refine Jl [] (Ent.osNil (α := GHop)) ?_
  exact Kr (.slice none 0 0) rfl (.tmp rfl .nil) [0] rfl
 ·intro _
  refine KS ?_
  refine Oa (As0 sl28) fun c1 => ?_
  refine Jo 0 ?_; rintro a2 k3 rfl
  refine Oq Vm ?_
  refine Fb 16 1 fun hl => ?_
  refine Jl [0] (Ent.crNil (α := GHop) _) ?_
  refine Oa (Ap0 [0, 0] sl28 sl28 sz28) fun c4 => ?_
  refine Oq Va ?_
  refine KS ?_
  exact Kr c4 rfl (.tmp rfl .nil) [0] rfl
theorem fn62 (h : GHop) (cap0P : Value) (cap0 : GSystem) (cap0a1 : Option Addr) (cap0k1 : Nat) (cap0a2 : Option Addr) (cap0k2 : Nat) (cap0a3 : Option Addr) (cap0k3 : Nat) (hh_0 : i64ok h.Node) (hh_1 : i64ok h.Bit) (hcap0_0 : i64ok cap0.Width) (hv0 : VSys cap0) (hn0 : 0 ≤ h.Node ∧ h.Node < (cap0.Deps.length : Int)) (rr : Bool) (hrr : wt_Find_1 h cap0 = rr) : FT Tryz.prog 62 #[.agg #[vi h.Node, vi h.Bit], cap0P] [pv cap0P [vi cap0.Width, vl cap0a1 cap0k1 cap0.Deps, vl cap0a2 cap0k2 cap0.Transfers, vl cap0a3 cap0k3 cap0.Boundary], S cap0a1 cap0k1 cap0.Deps, S cap0a2 cap0k2 cap0.Transfers, S cap0a3 cap0k3 cap0.Boundary] (fun g : Unit => True) (fun g => vb rr) (fun g => []) := by
 refine FTi Tryz.func62 fun w0 M0 F0 => ?_
 unfold i64ok at hh_0 hh_1 hcap0_0
 refine Fb 24 1 fun _ => Fb 88 2 fun _ => Fb 32 3 fun _ => KS ?_
 refine Oa (Ab [vi h.Node, vi h.Bit]) fun p4 => Oq Va (KS ?_)
 refine Oq (VldA sh27 1) (Oq (VldA sh37 0) ?_)
 refine letv (wt_origin cap0 h) fun rv5 hg6 => ?_
 have hc7 := fn43 cap0 cap0a1 cap0k1 cap0a2 cap0k2 cap0a3 cap0k3 h pre pre pre hv0 hn0 rv5 hg6
 refine Oc [2, 3, 4] ca43 hc7 ?_
 rintro - -
 refine Oq Vnot (Oq Va (KS ?_))
 have hq := q4 hrr (!rv5) (by simp only [wt_Find_1, hg6, cs4]); subst hq
 exact Kr () rfl (.tmp rfl .nil) [] trivial
theorem fn103 (x : List GHop) (xa0 : Option Addr) (xk0 : Nat) (cmpF : FuncId) (cmpC : List Value) (cmpp : GHop → GHop → Int) (cmpA : List SP) (hcmpc : callable Tryz.prog cmpF = true) (hcmpF : ∀ x0 x1, i64ok x0.Node → i64ok x0.Bit → i64ok x1.Node → i64ok x1.Bit → x0 ∈ x → x1 ∈ x → FT Tryz.prog cmpF ([(.agg #[vi x0.Node, vi x0.Bit] : Value), (.agg #[vi x1.Node, vi x1.Bit] : Value)] ++ cmpC).toArray ([] ++ [pAll cmpA]) (fun _ : Unit => i64ok (cmpp x0 x1)) (fun _ => vi (cmpp x0 x1)) (fun _ => [])) (hl0 : 1 ≤ x.length) (rr : GHop) (hrr : sc_MinFunc_Hop x cmpp = rr) : FT Tryz.prog 103 #[vl xa0 xk0 x, .func (.func cmpF) #[] cmpC.toArray] [S xa0 xk0 x, pAll cmpA] (fun g : Unit => i64ok rr.Node ∧ i64ok rr.Bit) (fun g => .agg #[vi rr.Node, vi rr.Bit]) (fun g => []) := by
 refine FTi Tryz.func103 fun w0 M0 F0 => Fb 16 0 fun _ => ?_
 refine KS ?_
 refine Oa (Al ze37 [vi 0, vi 0]) fun p2 => KS ?_
 refine Oq Vm (Oq (Vlen sl28) (Oq Vlss (KS ?_)))
 refine Kc ?_ ?_
 ·intro h3
  have g4 := dt h3
  exfalso; omega
 intro h3
 have g5 := df h3
 refine KS ?_
 refine Oq Vm (Oq (Vi sl28 1) ?_)
 refine JJ_peek_GHop (0 : Int).toNat 1 rfl rng fun hb6 hb7 => ?_
 unfold i64ok at hb6 hb7
 refine Oq (VldA sh37 0) (Oa (Al ze37 [vi 0, vi 0]) fun p8 => Ost (Scl [0] sh37 [vi ((x.getD (0 : Int).toNat default).Node), vi ((x.getD (0 : Int).toNat default).Bit)]) (KS ?_))
 refine Oq Va (KS ?_)
 refine Kl (γ := Nat × Int × Int × Int) (fun (r9, m0_10, m1_11, i_12) => ⟨[(0, vl xa0 xk0 x), (1, .func (.func cmpF) #[] cmpC.toArray), (4, p2), (5, p8), (6, vi i_12)], [Cl p8 [vi m0_10, vi m1_11], Cl p2 [vi 0, vi 0], S xa0 xk0 x, pAll cmpA], sc_MinFunc_Hop_L0 x cmpp r9 m0_10 m1_11 i_12 = sc_MinFunc_Hop_L0 x cmpp (((x.length : Int) - 1).toNat) ((x.getD (0 : Int).toNat default).Node) ((x.getD (0 : Int).toNat default).Bit) 1 ∧ r9 = ((x.length : Int) - i_12).toNat ∧ (1 : Int) ≤ i_12 ∧ (i_12 ≤ (x.length : Int) ∨ i_12 = 1) ∧ (-9223372036854775808 ≤ m0_10 ∧ m0_10 ≤ 9223372036854775807) ∧ (-9223372036854775808 ≤ m1_11 ∧ m1_11 ≤ 9223372036854775807) ∧ (-9223372036854775808 ≤ i_12 ∧ i_12 ≤ 9223372036854775807) ∧ ((GHop.mk m0_10 m1_11) ∈ x), r9⟩) (((x.length : Int) - 1).toNat, (x.getD (0 : Int).toNat default).Node, (x.getD (0 : Int).toNat default).Bit, 1) [0, 1, 1, 2] ⟨rfl, rfl, aM1, (.inr rfl), aM1, aM1, aM1, (getD_mem rng)⟩ ?_
 rintro ⟨r9, m0_10, m1_11, i_12⟩ ⟨hM13, hr14, hi15, hi16, hk17, hk18, hk19, hv20⟩
 refine JJ_nx fun _ _ hL hA => ?_; dsimp only at hL hA; subst hL hA
 refine Fb 16 2 fun _ => KS ?_
 refine Oq Vm (Oq Vm (Oq (Vlen sl28) (Oq Vlss (KS ?_))))
 refine Kc ?_ ?_
 ·intro h22
  have g23 := dt h22
  obtain ⟨r24, rfl⟩ := scc (n := r9) aM1
  refine KS ?_
  refine JJ_peek_GHop i_12.toNat 2 rfl rng fun hb25 hb26 => ?_
  unfold i64ok at hb25 hb26
  refine JK_drawK [0, 0, 0, 6, 14, 0, 63, 127] fmix ?_
  refine Dv [] Vm (Dv [] Vm (Dv [] Vm (Dv [3] (Vi sl28 0) (Dv [0] (VldA sh37 0) (Dv [1] (VldA sh37 0) (Dx [4] [] [1, 0] (fun G => vi (cmpp (x.getD i_12.toNat default) (GHop.mk m0_10 m1_11))) [fun G => SP.fact (i64ok (cmpp (x.getD i_12.toNat default) (GHop.mk m0_10 m1_11)))] (fun G => xE (asv := [(.agg #[vi ((x.getD i_12.toNat default).Node), vi ((x.getD i_12.toNat default).Bit)] : Value), (.agg #[vi m0_10, vi m1_11] : Value)] ++ cmpC) [0] hcmpc rfl rfl rfl (by simp) rfl (hcmpF (x.getD i_12.toNat default) (GHop.mk m0_10 m1_11)  pre pre pre pre (by first | assumption | exact getD_mem rng) (by first | assumption | exact getD_mem rng))) (Dv [] Vlss ?_)))))))
  refine Dn ⟨by kernel_rfl, fun G => ?_⟩
  refine Jw2 [(0, vl xa0 xk0 x), (1, .func (.func cmpF) #[] cmpC.toArray), (4, p2), (5, p8), (6, vi i_12), (27, vb (decide ((cmpp (x.getD i_12.toNat default) (GHop.mk m0_10 m1_11)) < 0)))] [0, 1, 2, 3, 4] [SP.fact (i64ok (cmpp (x.getD i_12.toNat default) (GHop.mk m0_10 m1_11)))] ?_
  refine Jf 5 rfl ?_; rintro he27
  unfold i64ok at he27
  refine Jk [0, 1, 1, 1, 2] ?_
  refine Kc ?_ ?_
  ·intro h28
   have g29 := dt h28
   refine KS ?_
   refine Oq Vm (Oq Vm (Oq (Vi sl28 3) (Oq (VldA sh37 0) (Ost (Scl [1] sh37 [vi ((x.getD i_12.toNat default).Node), vi ((x.getD i_12.toNat default).Bit)]) (KS ?_)))))
   refine Oq Vm (Oq Vadd (Oq Va (KS ?_)))
   exact Kg (r24, (x.getD i_12.toNat default).Node, (x.getD i_12.toNat default).Bit, (i_12 + 1)) [0, 1, 1, 2] ⟨(q3 hM13 (by simp only [sc_MinFunc_Hop_L0, h22, h28, cs4])), aM1, aM1, aM1, aM1, aM1, aM1, (by first | assumption | exact getD_mem rng)⟩
  intro h28
  have g30 := df h28
  refine KS ?_
  refine Oq Vm (Oq Vadd (Oq Va (KS ?_)))
  exact Kg (r24, m0_10, m1_11, (i_12 + 1)) [1, 1, 1, 2] ⟨(q3 hM13 (by simp only [sc_MinFunc_Hop_L0, h22, h28, cs4])), aM1, aM1, aM1, aM1, aM1, aM1, (by first | assumption | exact getD_mem rng)⟩
 intro h22
 have g31 := df h22
 obtain rfl : r9 = 0 := by omega
 refine Ke ?_
 have hR32 := q2 hM13 (m0_10, m1_11) (by simp only [sc_MinFunc_Hop_L0, h22, cs4])
 refine KS ?_
 refine Oq (VldA sh37 0) (Ost (Scl [1] sh37 [vi m0_10, vi m1_11]) (KS ?_))
 have hq := q4 hrr (GHop.mk m0_10 m1_11) (by simp only [sc_MinFunc_Hop, h3, h22, hR32, cs4]); subst hq
 exact Kr () rfl (.cellN 0 rfl sh37 rfl (reads_Cl _ _) rfl .nil) [] en
theorem fn104 (a : GHop) (b : GHop) (ha_0 : i64ok a.Node) (ha_1 : i64ok a.Bit) (hb_0 : i64ok b.Node) (hb_1 : i64ok b.Bit) (hb0 : HopB a ∧ HopB b) (rr : Int) (hrr : wt_compare a b = rr) : FT Tryz.prog 104 #[.agg #[vi a.Node, vi a.Bit], .agg #[vi b.Node, vi b.Bit]] [] (fun g : Unit => i64ok rr) (fun g => vi rr) (fun g => []) := by
 refine FTi Tryz.func104 fun w0 M0 F0 => ?_
 unfold i64ok at ha_0 ha_1 hb_0 hb_1
 unfold HopB at hb0
 refine KS ?_
 refine Oa (Ab [vi a.Node, vi a.Bit]) fun p1 => Oa (Ab [vi b.Node, vi b.Bit]) fun p2 => Oq Va (KS ?_)
 refine Oq (Vfa fo37_0 1) (Oq (VldF sh3 1) (Oq (Vfa fo37_0 0) (Oq (VldF sh3 0) (Oq Vneq (KS ?_)))))
 refine Kc ?_ ?_
 ·intro h3
  have g4 := ne_of_bne h3
  refine KS ?_
  refine Oq (Vfa fo37_0 1) (Oq (VldF sh3 1) (Oq (Vfa fo37_0 0) (Oq (VldF sh3 0) (Oq Vsub (Oq Va (KS ?_))))))
  have hq := q4 hrr (a.Node - b.Node) (by simp only [wt_compare, h3, cs4]); subst hq
  exact Kr () rfl (.tmp rfl .nil) [] en
 intro h3
 have g5 := eq_of_bne_false h3
 refine KS ?_
 refine Oq (Vfa fo37_1 1) (Oq (VldF sh3 1) (Oq (Vfa fo37_1 0) (Oq (VldF sh3 0) (Oq Vsub (Oq Va (KS ?_))))))
 have hq := q4 hrr (a.Bit - b.Bit) (by simp only [wt_compare, h3, cs4]); subst hq
 exact Kr () rfl (.tmp rfl .nil) [] en
theorem fn63 (l : List GHop) (la0 : Option Addr) (lk0 : Nat) (nextP : Value) (next : List (GHop × List GHop)) (hl0 : ∀ h ∈ l, HopB h) (hn0 : ∀ e ∈ next, ∀ h ∈ e.2, HopB h) (hb0 : next.length ≤ 70000) (ht0 : wt_first_L0 next ((next.length : Nat) + 2) l [] ≠ LR.oof) (rr : List GHop) (hrr : wt_first l next = rr) : FT Tryz.prog 63 #[vl la0 lk0 l, nextP] [S la0 lk0 l, MS GHop ev_GHop ok_GHop nextP next] (fun g : Value => True) (fun g => g) (fun g => [sl g rr, MS GHop ev_GHop ok_GHop nextP next]) := by
 refine FTi Tryz.func63 fun w0 M0 F0 => Fb 16 0 fun _ => ?_
 refine KS ?_
 refine Oq Va (KS ?_)
 refine Oq Va (KS ?_)
 refine Jl [] (Ent.osNil (α := GHop)) ?_
 have hterm12 : wt_first_L0 next ((next.length : Nat) + 2) l [] ≠ LR.oof := ht0
 refine Kl (γ := Nat × List GHop × List GHop × Option Addr × Nat × Option Addr × Nat) (fun (r2, l_3, out_4, a5, k6, a7, k8) => ⟨[(0, vl a5 k6 l_3), (1, nextP), (5, vl a7 k8 out_4)], [O a7 k8 out_4, S a5 k6 l_3, MS GHop ev_GHop ok_GHop nextP next], wt_first_L0 next r2 l_3 out_4 = wt_first_L0 next ((next.length : Nat) + 2) l [] ∧ (∀ h ∈ l_3, HopB h) ∧ ((out_4.length : Int) + (r2 : Int) ≤ (next.length : Int) + 2), r2⟩) (((next.length : Nat) + 2), l, [], la0, lk0, none, 0) [0, 0, 1] ⟨rfl, hl0, iv0⟩ ?_
 rintro ⟨r2, l_3, out_4, a5, k6, a7, k8⟩ ⟨hM9, hv10, hv11⟩
 refine JJ_nx fun _ _ hL hA => ?_; dsimp only at hL hA; subst hL hA
 refine Fb 16 0 fun _ => Fb 16 1 fun _ => ?_
 rcases r2 with _ | r2
 ·exact absurd (hM9.symm.trans rfl) hterm12
 refine KS ?_
 refine Oq Vm (Oq (Vlen sl28) (Oq Vgtr (KS ?_)))
 refine Kc ?_ ?_
 ·intro h15
  have g16 := dt h15
  refine KS ?_
  refine Oq Vm ?_
  refine JJ_ent (Ent.pall [] rfl rfl) ?_
  refine letv (sc_MinFunc_Hop l_3 (fun x0 x1 => wt_compare x0 x1)) fun rv17 hg18 => ?_
  have hc19 := fn103 l_3 a5 k6 104 [] (fun x0 x1 => wt_compare x0 x1) [] ca104 (fun x0 x1 hq0 hq1 hq2 hq3 hz0 hz1 => FT_pall (A1 := []) (fn104 x0 x1  hq0 hq1 hq2 hq3 ⟨(by assumption : ∀ h ∈ _, HopB h) _ hz0, (by assumption : ∀ h ∈ _, HopB h) _ hz1⟩ _ rfl)) pre rv17 hg18
  refine Oc [2, 0] ca103 hc19 ?_
  rintro - ⟨he20, he21⟩
  unfold i64ok at he20 he21
  refine Oa (Al ze37 [vi 0, vi 0]) fun p22 => Ost (Scl [0] sh37 [vi rv17.Node, vi rv17.Bit]) (KS ?_)
  refine Oq Vm (Oq (VldA sh37 0) (Oa (AsV sl28 sz28 [.agg #[vi rv17.Node, vi rv17.Bit]] [vi rv17.Node, vi rv17.Bit]) fun c23 => ?_))
  refine Jo 0 ?_; rintro a24 k25 rfl
  refine Jl [0] (Ent.cr1 (α := GHop) (A := []) _ rv17 _ aB1 (fun h => ⟨rfl, aL1, aL1⟩)) ?_
  refine Oa (ApO [3, 0] sl28 sl28 sz28) fun c26 => ?_
  refine Jo 0 ?_; rintro a27 k28 rfl
  refine Fb 16 0 fun _ => ?_
  have hn30 := la out_4 ([rv17] : List GHop)
  refine Oq Va (KS ?_)
  refine Oq Vm (Oq (VldA sh37 1) (Oa (Amlk 4 mt97 kk_GHop ze28 (key := rv17) preK) fun c31 => ?_))
  refine Jo 0 ?_; rintro a32 k33 rfl
  refine Fb 16 0 fun _ => ?_
  refine Oq Va (KS ?_)
  exact Kg (r2, ((mget next rv17).getD []), (out_4 ++ [rv17]), a32, k33, a27, k28) [1, 0, 4] ⟨(q3 hM9 (by simp only [wt_first_L0, h15, hg18, cs4])), (mget_all hn0 _), iv1⟩
 intro h15
 have g35 := df h15
 refine Ke ?_
 have hR36 := q2 hM9 (.brk out_4) (by simp only [wt_first_L0, h15, cs4])
 refine KS ?_
 refine Oq Vm (Oq Va (KS ?_))
 refine Jl [0] (Ent.freeze _ _) ?_
 have hq := q4 hrr out_4 (by simp only [wt_first, h15, hR36, cs4]); subst hq
 exact Kr (vl a7 k8 out_4) rfl (.tmp rfl .nil) [0, 2] trivial
theorem fn145 (s : List GCopy) (sa0 : Option Addr) (sk0 : Nat) (v : GCopy) (hv_0 : i64ok v.From) (hv_1 : i64ok v.To) (rr : Int) (hrr : sc_Index_Copy s v = rr) : FT Tryz.prog 145 #[vl sa0 sk0 s, .agg #[vi v.From, vi v.To]] [S sa0 sk0 s] (fun g : Unit => i64ok rr) (fun g => vi rr) (fun g => []) := by
 refine FTi Tryz.func145 fun w0 M0 F0 => ?_
 unfold i64ok at hv_0 hv_1
 refine Fb 16 0 fun _ => KS ?_
 refine Oa (Ab [vi v.From, vi v.To]) fun p2 => Oq Va (KS ?_)
 refine Oq Vm (Oq (Vlen sl63) (Oq Vm (KS ?_)))
 refine Kl (γ := Nat × Int) (fun (r3, v8_4) => ⟨[(0, vl sa0 sk0 s), (3, p2), (7, vi (s.length : Int)), (8, vi v8_4)], [pv p2 [vi v.From, vi v.To], S sa0 sk0 s], sc_Index_Copy_L0 s v r3 v8_4 = sc_Index_Copy_L0 s v (((s.length : Int) - 0).toNat) 0 ∧ r3 = ((s.length : Int) - v8_4).toNat ∧ (0 : Int) ≤ v8_4 ∧ v8_4 ≤ (s.length : Int) ∧ (-9223372036854775808 ≤ v8_4 ∧ v8_4 ≤ 9223372036854775807), r3⟩) (((s.length : Int) - 0).toNat, 0) [0, 1] ⟨rfl, rfl, aM1, aM1, aM1⟩ ?_
 rintro ⟨r3, v8_4⟩ ⟨hM5, hr6, hi7, hi8, hk9⟩
 refine JJ_nx fun _ _ hL hA => ?_; dsimp only at hL hA; subst hL hA
 refine Fb 16 1 fun _ => KS ?_
 refine Oq Vlss (KS ?_)
 refine Kc ?_ ?_
 ·intro h11
  have g12 := dt h11
  obtain ⟨r13, rfl⟩ := scc (n := r3) aM1
  refine KS ?_
  refine Oq Vm (Oq Va (KS ?_))
  refine JJ_peek_GCopy v8_4.toNat 1 rfl rng fun hb14 hb15 => ?_
  unfold i64ok at hb14 hb15
  refine Kq [0, 0, 0, 6, 14, 31] fmix ?_
  refine Qv [1] (VldA sh105 0) (Qv [] Vm (Qv [] Vm (Qv [2] (Vi sl63 0) (Qv [0] (VldA sh105 0) (Qv [] (VeqA eqi105 (l := [v.From, v.To]) (m := [(s.getD v8_4.toNat default).From, (s.getD v8_4.toNat default).To])) ?_)))))
  refine Qn ⟨by kernel_rfl, ?_⟩
  refine Kc ?_ ?_
  ·intro h16
   have g17 := eq_of_beq h16
   refine KS ?_
   refine Oq Vm (Oq Va (KS ?_))
   have hR18 := q2 hM5 (.ret v8_4) (by simp only [sc_Index_Copy_L0, h11, h16, cs4])
   have hq := q4 hrr v8_4 (by simp only [sc_Index_Copy, h11, h16, hR18, cs4]); subst hq
   exact Kr () rfl (.tmp rfl .nil) [] en
  intro h16
  have g19 := ne_of_beq_false h16
  refine KS ?_
  refine Oq Vadd (Oq Vm (KS ?_))
  exact Kg (r13, (v8_4 + 1)) [1, 2] ⟨(q3 hM5 (by simp only [sc_Index_Copy_L0, h11, h16, cs4])), aM1, aM1, aM1, aM1⟩
 intro h11
 have g20 := df h11
 obtain rfl : r3 = 0 := by omega
 refine Ke ?_
 have hR21 := q2 hM5 (.brk ()) (by simp only [sc_Index_Copy_L0, h11, cs4])
 refine KS ?_
 refine Oq Va (KS ?_)
 have hq := q4 hrr (-1) (by simp only [sc_Index_Copy, h11, hR21, cs4]); subst hq
 exact Kr () rfl (.tmp rfl .nil) [] en
theorem fn105 (s : List GCopy) (sa0 : Option Addr) (sk0 : Nat) (v : GCopy) (hv_0 : i64ok v.From) (hv_1 : i64ok v.To) (rr : Bool) (hrr : sc_Contains_Copy s v = rr) : FT Tryz.prog 105 #[vl sa0 sk0 s, .agg #[vi v.From, vi v.To]] [S sa0 sk0 s] (fun g : Unit => True) (fun g => vb rr) (fun g => []) := by
 refine FTi Tryz.func105 fun w0 M0 F0 => ?_
 unfold i64ok at hv_0 hv_1
 refine Fb 16 0 fun _ => KS ?_
 refine Oa (Ab [vi v.From, vi v.To]) fun p2 => Oq Va (KS ?_)
 refine Oq Vm (Oq (VldA sh105 0) ?_)
 refine letv (sc_Index_Copy s v) fun rv3 hg4 => ?_
 have hc5 := fn145 s sa0 sk0 v pre pre rv3 hg4
 refine Oc [1] ca145 hc5 ?_
 rintro - he6
 unfold i64ok at he6
 refine Oq Vgeq (Oq Va (KS ?_))
 have hq := q4 hrr (decide (0 ≤ rv3)) (by simp only [sc_Contains_Copy, hg4, cs4]); subst hq
 exact Kr () rfl (.tmp rfl .nil) [] trivial
end Go.SL.G
