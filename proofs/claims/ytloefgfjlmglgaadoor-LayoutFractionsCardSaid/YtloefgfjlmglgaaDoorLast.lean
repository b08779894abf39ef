/- LayoutFractions of flqlaw33 holds: for every input the law answers true and leaves its arguments as they were. Conditions: none beyond the given row's own. -/
import Derived.Test.YtloefgfjlmglgaaDoorW2
import Derived.Test.YtloefgfjlmglgaaDoorRows
import Derived.Test.YtloefgfjlmglgaaDoorTie
import Derived.Test.YtloefgfjlmglgaaDoorCards
import Derived.SevenTiedAt
import Derived.Test.YtloefgfjlmglgaaDoorC0
import Derived.Test.YtloefgfjlmglgaaDoorC1
import Derived.Test.YtloefgfjlmglgaaDoorC2
import Derived.Test.YtloefgfjlmglgaaDoorC3
import Derived.Test.YtloefgfjlmglgaaDoorC4
import Derived.Test.YtloefgfjlmglgaaDoorC5
set_option linter.unusedVariables false
namespace Go.Proofs.YtloefgfjlmglgaaDoor
open Go Go.SL Go.SL.G Go.WideShapes Go.ChangeShapes
set_option maxRecDepth 100000
set_option maxHeartbeats 4000000
theorem c_all : joinedFacts Tryd.pinned.checked.prog 4 Tryd.f4 Rows.layoutFractionsSpec Rows.layoutFractionsRow = true := joined_mk (by kernel_rfl) c_laid c_maps (by kernel_rfl) (by kernel_rfl) c_in c_unf c_rec c_named (by kernel_rfl) (by kernel_rfl) (by kernel_rfl) (by kernel_rfl) c_heard c_may c_lift c_make (by kernel_rfl)
theorem arg_flo {P : Program} {w : World} {T : TypeId} (hT : P.underlying T = some (.float .f64)) {v : Value} {base : Nat} (hok : Value.okWide P w .any base T v) : ∃ x : Flo, v = flo x := by
  have h : Cell.okWide P w .any base T v := by simpa only [Value.okWide, hT] using hok
  cases v with
  | float k b =>
    simp only [Cell.okWide, hT, Cell.ok] at h
    obtain ⟨rfl, hb⟩ := h
    have hb : b < 2 ^ 64 := hb
    refine ⟨⟨BitVec.ofNat 64 b⟩, ?_⟩
    unfold flo
    rw [BitVec.toNat_ofNat, Nat.mod_eq_of_lt hb]
  | _ => simp only [Cell.okWide, hT, Cell.ok] at h
set_option maxHeartbeats 4000000 in
set_option maxRecDepth 100000 in
theorem layoutFractions_holds : Rows.LayoutFractionsSaid := by
  refine law_holdsL 4 Tryd.f4 (tb := 4) rfl rfl rfl rfl rfl rfl rfl ⟨rfl, rfl, rfl, rfl, rfl⟩ rfl rfl rfl rfl rfl rfl rfl rfl rfl c_fn Tryd.func4 c_all
    (of_decide_eq_true (by kernel_rfl)) (by unfold Func.isWrapper; first | (rw [if_pos (by decide +kernel)]; kernel_rfl) | (rw [if_neg (by decide +kernel)]; exact ⟨rfl, rfl⟩)) (by kernel_rfl) (by kernel_rfl)
    ⟨rfl, fun H ds hd => ?_⟩ c_laid (by kernel_rfl) rfl Tryd.underlying4 (fun os started H enc => ChangeSpec.witness_shaped (enc := enc) (C := Tryd.checked) (os := os) (X := fun w _ => laidMetH Tryd.prog Rows.layoutFractionsRow.laid w) false (World.doorLaid Tryd.prog 400 os) #[flo (Flo.mk 0#64), flo (Flo.mk 0#64)] 30 rfl (World.shaped_of_RefB (by kernel_rfl) (by kernel_rfl)) (by kernel_rfl) (by kernel_rfl) (by kernel_rfl) (laidMetH_of_parts3 (fuel := 8) (laidMet_of_run' 8 (by kernel_rfl) (by kernel_rfl)) (by kernel_rfl) (by kernel_rfl))) ?_
  · have hd : ds.length = 2 := hd
    match ds, hd with
    | [d0, d1], _ => rfl
  · intro H enc W base args ds ps hval hA hw hL
    rw [Tryd.params4] at hA hw hval
    obtain ⟨v0, vs0, d0, ds0, p0, z0, hargs0, rfl, rfl, t0, hA0⟩ := trodAll_cons hA
    obtain ⟨v1, vs1, d1, ds1, p1, z1, hargs1, rfl, rfl, t1, hA1⟩ := trodAll_cons hA0
    obtain ⟨e1, rfl, rfl⟩ := trodAll_nil hA1
    subst e1
    subst hargs1
    obtain rfl : args = #[v0, v1] := by cases args; simp_all
    simp only [DataW.weightsEach, List.all_append, Bool.and_eq_true] at hw
    obtain ⟨w0, w1, _⟩ := hw
    obtain ⟨x0, rfl⟩ := arg_flo Tryd.underlying36 (hval 0 36 v0 rfl rfl)
    obtain ⟨x1, rfl⟩ := arg_flo Tryd.underlying36 (hval 1 36 v1 rfl rfl)
    exact ⟨_, Unit, _, _, sepAll_n, fn4 x0 x1 true (LayoutFractions_true x0 x1)⟩
set_option maxRecDepth 100000 in
theorem layoutFractionsCard_holds : Rows.LayoutFractionsCardSaid :=
  Claim7.holds_tied_plain_at .later [] [.data, .data, .data] true (true, "ba633ca655d7bcac5800901be342f9b4f0b9996669fa7874ba9ba3a087c88f65") false
    layoutFractions_holds (fun _ h => by cases h) (by kernel_rfl) (fun _ h => by cases h) layoutFractions_row_tie rfl ⟨rfl, rfl⟩ (by kernel_rfl) rfl
    (fun f fn hf hfn => by
      obtain rfl : f = 4 := Option.some.inj ((show Tryd.prog.funcNamed "flowquery/flqlaw33.LayoutFractions" = some 4 by kernel_rfl).symm.trans hf) |>.symm
      obtain rfl : fn = Tryd.f4 := (Option.some.inj (Tryd.func4.symm.trans hfn)).symm
      exact ⟨by kernel_rfl, fun j t ht => by
        rw [Tryd.params4] at ht
        rcases j with _ | _ | j
        · obtain rfl : 36 = t := by simpa using ht
          exact (show Tryd.prog.wantsStandIn 36 = false by kernel_rfl)
        · obtain rfl : 36 = t := by simpa using ht
          exact (show Tryd.prog.wantsStandIn 36 = false by kernel_rfl)
        · simp at ht⟩)
    (by kernel_rfl)
end Go.Proofs.YtloefgfjlmglgaaDoor
