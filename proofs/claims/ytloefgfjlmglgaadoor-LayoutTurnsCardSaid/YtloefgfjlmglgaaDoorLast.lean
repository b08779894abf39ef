/- LayoutTurns of flqlaw33 holds: for every input the law answers true and leaves its arguments as they were. Conditions: none beyond the given row's own. -/
import Derived.Test.YtloefgfjlmglgaaDoorW2
import Derived.Test.YtloefgfjlmglgaaDoorRows
import Derived.Test.YtloefgfjlmglgaaDoorTie
import Derived.Test.YtloefgfjlmglgaaDoorCards
import Derived.SevenTiedAt
import Derived.Test.YtloefgfjlmglgaaDoorC0
import Derived.Test.YtloefgfjlmglgaaDoorC1
import Derived.Test.YtloefgfjlmglgaaDoorC2
import Derived.Test.YtloefgfjlmglgaaDoorC3
import Derived.Test.YtloefgfjlmglgaaDoorC4
import Derived.Test.YtloefgfjlmglgaaDoorC5
set_option linter.unusedVariables false
namespace Go.Proofs.YtloefgfjlmglgaaDoor
open Go Go.SL Go.SL.G Go.WideShapes Go.ChangeShapes
set_option maxRecDepth 100000
set_option maxHeartbeats 4000000
theorem c_all : joinedFacts Tryd.pinned.checked.prog 3 Tryd.f3 Rows.layoutTurnsSpec Rows.layoutTurnsRow = true := joined_mk (by kernel_rfl) c_laid c_maps (by kernel_rfl) (by kernel_rfl) c_in c_unf c_rec c_named (by kernel_rfl) (by kernel_rfl) (by kernel_rfl) (by kernel_rfl) c_heard c_may c_lift c_make (by kernel_rfl)
theorem rt3 : RdT Tryd.prog 3 Int := rdT_int Tryd.underlying3
theorem rt22 : RdT Tryd.prog 22 (List Int) := rdT_slice rt3 Tryd.underlying22 (by kernel_rfl) (by kernel_rfl)
theorem arg_i8 {P : Program} {w : World} {T : TypeId} (hT : P.underlying T = some (.int .i8)) {v : Value} {base : Nat} (hok : Value.okWide P w .any base T v) : ∃ x : Int, v = .int .i8 x ∧ -128 ≤ x ∧ x ≤ 127 := by
  obtain ⟨n, rfl⟩ := okWide_int hT hok
  simp only [Value.okWide, hT, Cell.okWide, Cell.ok, true_and] at hok
  exact ⟨n, rfl, hok⟩
set_option maxHeartbeats 4000000 in
set_option maxRecDepth 100000 in
theorem layoutTurns_holds : Rows.LayoutTurnsSaid := by
  refine law_holdsL 3 Tryd.f3 (tb := 4) rfl rfl rfl rfl rfl rfl rfl ⟨rfl, rfl, rfl, rfl, rfl⟩ rfl rfl rfl rfl rfl rfl rfl rfl rfl c_fn Tryd.func3 c_all
    (of_decide_eq_true (by kernel_rfl)) (by unfold Func.isWrapper; first | (rw [if_pos (by decide +kernel)]; kernel_rfl) | (rw [if_neg (by decide +kernel)]; exact ⟨rfl, rfl⟩)) (by kernel_rfl) (by kernel_rfl)
    ⟨rfl, fun H ds hd => ?_⟩ c_laid (by kernel_rfl) rfl Tryd.underlying4 (fun os started H enc => ChangeSpec.witness_shaped (enc := enc) (C := Tryd.checked) (os := os) (X := fun w _ => laidMetH Tryd.prog Rows.layoutTurnsRow.laid w) false (World.doorLaid Tryd.prog 400 os) #[.slice none 0 0, .int .i8 0, .int .i8 0] 30 rfl (World.shaped_of_RefB (by kernel_rfl) (by kernel_rfl)) (by kernel_rfl) (by kernel_rfl) (by kernel_rfl) (laidMetH_of_parts3 (fuel := 8) (laidMet_of_run' 8 (by kernel_rfl) (by kernel_rfl)) (by kernel_rfl) (by kernel_rfl))) ?_
  · have hd : ds.length = 3 := hd
    match ds, hd with
    | [d0, d1, d2], _ => rfl
  · intro H enc W base args ds ps hval hA hw hL
    rw [Tryd.params3] at hA hw hval
    obtain ⟨v0, vs0, d0, ds0, p0, z0, hargs0, rfl, rfl, t0, hA0⟩ := trodAll_cons hA
    obtain ⟨v1, vs1, d1, ds1, p1, z1, hargs1, rfl, rfl, t1, hA1⟩ := trodAll_cons hA0
    obtain ⟨v2, vs2, d2, ds2, p2, z2, hargs2, rfl, rfl, t2, hA2⟩ := trodAll_cons hA1
    obtain ⟨e1, rfl, rfl⟩ := trodAll_nil hA2
    subst e1
    subst hargs2
    subst hargs1
    obtain rfl : args = #[v0, v1, v2] := by cases args; simp_all
    simp only [DataW.weightsEach, List.all_append, Bool.and_eq_true] at hw
    obtain ⟨w0, w1, w2, _⟩ := hw
    obtain ⟨x0, a0, k0, rfl, h0⟩ := arg_slice rt22 Tryd.underlying22 (hval 0 22 v0 rfl rfl) t0 w0
    obtain ⟨x1, rfl, h1⟩ := arg_i8 Tryd.underlying23 (hval 1 23 v1 rfl rfl)
    obtain ⟨x2, rfl, h2⟩ := arg_i8 Tryd.underlying23 (hval 2 23 v2 rfl rfl)
    exact ⟨_, Unit, _, _, (sepAll_p rfl h0 sepAll_n), fn3 x0 a0 k0 x1 x2 h1 h2 true (LayoutTurns_true x0 x1 x2)⟩
set_option maxRecDepth 100000 in
theorem layoutTurnsCard_holds : Rows.LayoutTurnsCardSaid :=
  Claim7.holds_tied_plain_at .later [] [.data, .data, .data] true (true, "ba633ca655d7bcac5800901be342f9b4f0b9996669fa7874ba9ba3a087c88f65") false
    layoutTurns_holds (fun _ h => by cases h) (by kernel_rfl) (fun _ h => by cases h) layoutTurns_row_tie rfl ⟨rfl, rfl⟩ (by kernel_rfl) rfl
    (fun f fn hf hfn => by
      obtain rfl : f = 3 := Option.some.inj ((show Tryd.prog.funcNamed "flowquery/flqlaw33.LayoutTurns" = some 3 by kernel_rfl).symm.trans hf) |>.symm
      obtain rfl : fn = Tryd.f3 := (Option.some.inj (Tryd.func3.symm.trans hfn)).symm
      exact ⟨by kernel_rfl, fun j t ht => by
        rw [Tryd.params3] at ht
        rcases j with _ | _ | _ | j
        · obtain rfl : 22 = t := by simpa using ht
          exact (show Tryd.prog.wantsStandIn 22 = false by kernel_rfl)
        · obtain rfl : 23 = t := by simpa using ht
          exact (show Tryd.prog.wantsStandIn 23 = false by kernel_rfl)
        · obtain rfl : 23 = t := by simpa using ht
          exact (show Tryd.prog.wantsStandIn 23 = false by kernel_rfl)
        · simp at ht⟩)
    (by kernel_rfl)
end Go.Proofs.YtloefgfjlmglgaaDoor
