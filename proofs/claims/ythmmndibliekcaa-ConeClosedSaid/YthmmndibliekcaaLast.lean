/- ConeClosed of flqlaw14 holds: for every tape the law answers true and leaves its argument as it was. Conditions: none beyond the given row's own. -/
import Derived.Test.YthmmndibliekcaaW4
import Derived.Test.YthmmndibliekcaaRows
set_option linter.unusedVariables false
set_option linter.unusedSimpArgs false
namespace Go.SL.G
open Go Go.SL
theorem ConeClosed_L0_mem {t : List Int} {x : Int} : ∀ (m : Nat) (k : Int) (set_ : List Int) (i : Int), x ∈ set_ → x ∈ flqlaw14_ConeClosed_L0 t m k set_ i
  | 0, k, set_, i, h => h
  | m + 1, k, set_, i, h => by
    rw [flqlaw14_ConeClosed_L0]
    cases (Tape_Next t k 2).1 == 1 with
    | true => exact ConeClosed_L0_mem m _ _ _ ((Insert_mem _ _ _).2 (.inl h))
    | false => exact ConeClosed_L0_mem m _ _ _ h
theorem ConeClosed_L1_brk {s : GSystem} {leaves c set_ : List Int} (h : cone_Closed s set_ leaves = true → ∀ x ∈ c, x ∈ set_) : ∀ (m : Nat) (i : Int), 0 ≤ i → i ≤ (c.length : Int) → (c.length : Int) < i + m → flqlaw14_ConeClosed_L1 s.Width s.Deps s.Transfers s.Boundary leaves c set_ m i = .brk ()
  | 0, i, _, _, h2 => by omega
  | m + 1, i, h0, h1, h2 => by
    rw [flqlaw14_ConeClosed_L1]
    show (bif cone_Closed s set_ leaves then _ else _) = _
    cases hc : cone_Closed s set_ leaves with
    | false => rfl
    | true =>
      by_cases hi : i < (c.length : Int)
      · simp only [cond_true, decide_eq_true hi]
        rw [(Has_iff _ _).2 (h hc _ (getD_mem (xs := c) (i := i.toNat) (d := 0) (by omega)))]
        exact ConeClosed_L1_brk h m (i + 1) (by omega) (by omega) (by omega)
      · simp only [cond_true, decide_eq_false hi, cond_false]
theorem ConeClosed_true (t : List Int) : flqlaw14_ConeClosed t = true := by
  have hv := System_V t 0 (n := 7) (by omega)
  unfold flqlaw14_ConeClosed
  simp only
  generalize hS : Tape_System t 0 7 = S at hv
  have hn := hv.n
  have hr := Next_lt t S.2 (S.1.Deps.length : Int) (by omega) (by omega)
  generalize Tape_Next t S.2 (S.1.Deps.length : Int) = R at hr
  have hx := Next_lt t R.2 (S.1.Deps.length : Int) (by omega) (by omega)
  generalize Tape_Next t R.2 (S.1.Deps.length : Int) = X at hx
  generalize Tape_Next t X.2 2 = Q
  have hl : ∀ x ∈ (([X.1].take ((Q.1 : Int).toNat)).drop 0), 0 ≤ x ∧ x < (S.1.Deps.length : Int) := by
    intro x h
    rw [List.drop_zero] at h
    have := List.mem_of_mem_take h
    simp at this; subst this; exact hx
  generalize (([X.1].take ((Q.1 : Int).toNat)).drop 0) = leaves at hl
  obtain ⟨out, cost, e, h1, h2, h3⟩ := Cone_spec hv hr hl
  rw [e]
  simp only [h2, (Has_iff _ _).2 h1, bne_self_eq_false, Bool.not_true, cond_false]
  rw [ConeClosed_L1_brk (fun hc => h3 _ hc (ConeClosed_L0_mem _ _ _ _ (by simp))) _ 0 (by omega) (by omega) (by omega)]
  exact sane_true
end Go.SL.G
namespace Go.Proofs.Ythmmndibliekcaa
open Go Go.SL Go.SL.G Go.WideShapes Go.ChangeShapes
theorem rt3 : RdT Try.prog 3 Int := rdT_int Try.underlying3
theorem rt22 : RdT Try.prog 22 (List Int) := rdT_slice rt3 Try.underlying22 (by kernel_rfl) (by kernel_rfl)
set_option maxHeartbeats 4000000 in
set_option maxRecDepth 100000 in
theorem coneClosed_holds : Rows.ConeClosedSaid := by
  refine law_holds 4 Try.f4 (tb := 4) rfl rfl rfl rfl rfl rfl rfl ⟨rfl, rfl, rfl, rfl, rfl⟩ rfl rfl rfl rfl rfl rfl rfl rfl rfl (by kernel_rfl) Try.func4 (by kernel_rfl)
    (of_decide_eq_true (by kernel_rfl)) (by unfold Func.isWrapper; first | (rw [if_pos (by decide +kernel)]; kernel_rfl) | (rw [if_neg (by decide +kernel)]; exact ⟨rfl, rfl⟩)) (by kernel_rfl) (by kernel_rfl)
    ⟨rfl, fun H ds hd => ?_⟩ (by kernel_rfl) (by kernel_rfl) rfl Try.underlying4 (fun os started H enc => ChangeSpec.witness6 (enc := enc) (C := Try.checked) false ⟨#[], #[.slice none 0 0], []⟩ 30 (by kernel_rfl) (by kernel_rfl) (by kernel_rfl) (by kernel_rfl)) ?_
  · have hd : ds.length = 1 := hd
    match ds, hd with
    | [d0], _ => rfl
  · intro H enc W base args ds ps hval hA hw
    rw [Try.params4] at hA hw hval
    obtain ⟨v0, vs0, d0, ds0, p0, z0, hargs0, rfl, rfl, t0, hA0⟩ := trodAll_cons hA
    obtain ⟨e1, rfl, rfl⟩ := trodAll_nil hA0
    subst e1
    obtain rfl : args = #[v0] := by cases args; simp_all
    simp only [DataW.weightsEach, List.all_append, Bool.and_eq_true] at hw
    obtain ⟨w0, _⟩ := hw
    obtain ⟨x0, a0, k0, rfl, h0⟩ := arg_slice rt22 Try.underlying22 (hval 0 22 v0 rfl rfl) t0 w0
    exact ⟨_, Unit, _, _, (sepAll_p rfl h0 sepAll_n), fn4 x0 a0 k0 true (ConeClosed_true x0)⟩
end Go.Proofs.Ythmmndibliekcaa
