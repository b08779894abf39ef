/- ResumeContinues of flqlaw18 holds: for every input the law answers true and leaves its arguments as they were. Conditions: none beyond the given row's own. -/
import Derived.Test.YtodlobcpbdkjpaaGreatDoorW5
import Derived.Test.YtodlobcpbdkjpaaGreatDoorRows
import Derived.Test.YtodlobcpbdkjpaaGreatDoorTie
import Derived.Test.YtodlobcpbdkjpaaGreatDoorCards
import Derived.SevenTiedAt
import Derived.Test.YtodlobcpbdkjpaaGreatDoorC0
import Derived.Test.YtodlobcpbdkjpaaGreatDoorC1
import Derived.Test.YtodlobcpbdkjpaaGreatDoorC2
import Derived.Test.YtodlobcpbdkjpaaGreatDoorC3
import Derived.Test.YtodlobcpbdkjpaaGreatDoorC4
import Derived.Test.YtodlobcpbdkjpaaGreatDoorC5
set_option linter.unusedVariables false
namespace Go.Proofs.YtodlobcpbdkjpaaGreatDoor
open Go Go.SL Go.SL.G Go.WideShapes Go.ChangeShapes
set_option maxRecDepth 100000
set_option maxHeartbeats 4000000
theorem c_all : joinedFacts Tryz.pinned.checked.prog 5 Tryz.f5 Rows.resumeContinuesSpec Rows.resumeContinuesRow = true := joined_mk (by kernel_rfl) c_laid c_maps (by kernel_rfl) (by kernel_rfl) c_in c_unf c_rec c_named (by kernel_rfl) (by kernel_rfl) (by kernel_rfl) (by kernel_rfl) c_heard c_may c_lift c_make (by kernel_rfl)
theorem rt3 : RdT Tryz.prog 3 Int := rdT_int Tryz.underlying3
theorem rt22 : RdT Tryz.prog 22 (List Int) := rdT_slice rt3 Tryz.underlying22 (by kernel_rfl) (by kernel_rfl)
set_option maxHeartbeats 4000000 in
set_option maxRecDepth 100000 in
theorem resumeContinues_holds : Rows.ResumeContinuesSaid := by
  refine law_holdsL 5 Tryz.f5 (tb := 4) rfl rfl rfl rfl rfl rfl rfl ⟨rfl, rfl, rfl, rfl, rfl⟩ rfl rfl rfl rfl rfl rfl rfl rfl rfl c_fn Tryz.func5 c_all
    (of_decide_eq_true (by kernel_rfl)) (by unfold Func.isWrapper; first | (rw [if_pos (by decide +kernel)]; kernel_rfl) | (rw [if_neg (by decide +kernel)]; exact ⟨rfl, rfl⟩)) (by kernel_rfl) (by kernel_rfl)
    ⟨rfl, fun H ds hd => ?_⟩ c_laid (by kernel_rfl) rfl Tryz.underlying4 (fun os started H enc => ChangeSpec.witness_shaped (enc := enc) (C := Tryz.checked) (os := os) (X := fun w _ => laidMetH Tryz.prog Rows.resumeContinuesRow.laid w) false (World.doorLaid Tryz.prog 400 os) #[.slice none 0 0] 30 rfl (World.shaped_of_RefB (by kernel_rfl) (by kernel_rfl)) (by kernel_rfl) (by kernel_rfl) (by kernel_rfl) (laidMetH_of_parts3 (fuel := 8) (laidMet_of_run' 8 (by kernel_rfl) (by kernel_rfl)) (by kernel_rfl) (by kernel_rfl))) ?_
  · have hd : ds.length = 1 := hd
    match ds, hd with
    | [d0], _ => rfl
  · intro H enc W base args ds ps hval hA hw hL
    rw [Tryz.params5] at hA hw hval
    obtain ⟨v0, vs0, d0, ds0, p0, z0, hargs0, rfl, rfl, t0, hA0⟩ := trodAll_cons hA
    obtain ⟨e1, rfl, rfl⟩ := trodAll_nil hA0
    subst e1
    obtain rfl : args = #[v0] := by cases args; simp_all
    simp only [DataW.weightsEach, List.all_append, Bool.and_eq_true] at hw
    obtain ⟨w0, _⟩ := hw
    obtain ⟨x0, a0, k0, rfl, h0⟩ := arg_slice rt22 Tryz.underlying22 (hval 0 22 v0 rfl rfl) t0 w0
    have hg0 := laid_tab (T := 183) (e := 5) (g := 0) (nm := "math/bits.deBruijn64tab") (k := .u8) (L := tzT) Tryz.underlying183 Tryz.underlying5 (by kernel_rfl) (by kernel_rfl) (by kernel_rfl) (by kernel_rfl) (by decide) (by kernel_rfl) (laid_tail (by kernel_rfl) hL)
    have hg1 := laid_tabX (T := 189) (e := 68) (g := 2) (nm := "internal/strconv.uint64pow10") (k := .u64) (L := pw10) Tryz.underlying189 Tryz.underlying68 (by kernel_rfl) (by kernel_rfl) (by kernel_rfl) (by kernel_rfl) (by kernel_rfl) (laid_tail (by kernel_rfl) (laid_tail (by kernel_rfl) hL))
    exact ⟨_, Unit, _, _, (sepAll_p rfl h0 (sepAll_app (hg0 _) (hg1 _))), fn5 x0 a0 k0 true (ResumeContinues_true x0)⟩
set_option maxRecDepth 100000 in
theorem resumeContinuesCard_holds : Rows.ResumeContinuesCardSaid :=
  Claim7.holds_tied_plain_at .later [] [.data, .data, .data] true (true, "fa2a9040bb6362e76e5292935a38906bb452508d4bfb3eefdf45c05414f7ed95") false
    resumeContinues_holds (fun _ h => by cases h) (by kernel_rfl) (fun _ h => by cases h) resumeContinues_row_tie rfl ⟨rfl, rfl⟩ (by kernel_rfl) rfl
    (fun f fn hf hfn => by
      obtain rfl : f = 5 := Option.some.inj ((show Tryz.prog.funcNamed "flowquery/flqlaw18.ResumeContinues" = some 5 by kernel_rfl).symm.trans hf) |>.symm
      obtain rfl : fn = Tryz.f5 := (Option.some.inj (Tryz.func5.symm.trans hfn)).symm
      exact ⟨by kernel_rfl, fun j t ht => by
        rw [Tryz.params5] at ht
        rcases j with _ | j
        · obtain rfl : 22 = t := by simpa using ht
          exact (show Tryz.prog.wantsStandIn 22 = false by kernel_rfl)
        · simp at ht⟩)
    (by kernel_rfl)
end Go.Proofs.YtodlobcpbdkjpaaGreatDoor
