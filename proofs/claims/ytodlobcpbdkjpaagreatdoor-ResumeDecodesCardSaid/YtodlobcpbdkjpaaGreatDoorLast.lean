/- ResumeDecodes of flqlaw18 holds: for every input the law answers true and leaves its arguments as they were. Conditions: none beyond the given row's own. -/
import Derived.Test.YtodlobcpbdkjpaaGreatDoorW5
import Derived.Test.YtodlobcpbdkjpaaGreatDoorRows
import Derived.Test.YtodlobcpbdkjpaaGreatDoorTie
import Derived.Test.YtodlobcpbdkjpaaGreatDoorCards
import Derived.SevenTiedAt
import Derived.Test.YtodlobcpbdkjpaaGreatDoorC0
import Derived.Test.YtodlobcpbdkjpaaGreatDoorC1
import Derived.Test.YtodlobcpbdkjpaaGreatDoorC2
import Derived.Test.YtodlobcpbdkjpaaGreatDoorC3
import Derived.Test.YtodlobcpbdkjpaaGreatDoorC4
import Derived.Test.YtodlobcpbdkjpaaGreatDoorC5
set_option linter.unusedVariables false
namespace Go.Proofs.YtodlobcpbdkjpaaGreatDoor
open Go Go.SL Go.SL.G Go.WideShapes Go.ChangeShapes
set_option maxRecDepth 100000
set_option maxHeartbeats 4000000
theorem c_all : joinedFacts Tryz.pinned.checked.prog 4 Tryz.f4 Rows.resumeDecodesSpec Rows.resumeDecodesRow = true := joined_mk (by kernel_rfl) c_laid c_maps (by kernel_rfl) (by kernel_rfl) c_in c_unf c_rec c_named (by kernel_rfl) (by kernel_rfl) (by kernel_rfl) (by kernel_rfl) c_heard c_may c_lift c_make (by kernel_rfl)
theorem rt3 : RdT Tryz.prog 3 Int := rdT_int Tryz.underlying3
theorem rt22 : RdT Tryz.prog 22 (List Int) := rdT_slice rt3 Tryz.underlying22 (by kernel_rfl) (by kernel_rfl)
theorem rdT_u8 {P : Program} {T : TypeId} (hT : P.underlying T = some (.int .u8)) : RdT P T UInt8 := ⟨by
  intro H enc w n cs x h _
  cases n with
  | zero => simp [DataW.trod] at h
  | succ n =>
    unfold DataW.trod at h
    rw [hT] at h
    split at h <;> try (simp_all; done)
    rename_i k k' m heq
    cases heq
    split at h
    · rename_i hc
      obtain ⟨rfl, hw⟩ := hc
      simp only [Lit.wf, Bool.and_eq_true, decide_eq_true_eq] at hw
      simp [IntKind.min, IntKind.max, IntKind.bits, IntKind.signed] at hw
      refine ⟨UInt8.ofNat m.toNat, ?_⟩
      show [Value.int .u8 m] = [Value.int .u8 ((UInt8.ofNat m.toNat).toNat : Int)]
      rw [UInt8.toNat_ofNat']
      congr 2
      omega
    · cases h⟩
theorem rt5 : RdT Tryz.prog 5 UInt8 := rdT_u8 Tryz.underlying5
theorem rt44 : RdT Tryz.prog 44 (List UInt8) := rdT_slice rt5 Tryz.underlying44 (by kernel_rfl) (by kernel_rfl)
set_option maxHeartbeats 4000000 in
set_option maxRecDepth 100000 in
theorem resumeDecodes_holds : Rows.ResumeDecodesSaid := by
  refine law_holdsL 4 Tryz.f4 (tb := 4) rfl rfl rfl rfl rfl rfl rfl ⟨rfl, rfl, rfl, rfl, rfl⟩ rfl rfl rfl rfl rfl rfl rfl rfl rfl c_fn Tryz.func4 c_all
    (of_decide_eq_true (by kernel_rfl)) (by unfold Func.isWrapper; first | (rw [if_pos (by decide +kernel)]; kernel_rfl) | (rw [if_neg (by decide +kernel)]; exact ⟨rfl, rfl⟩)) (by kernel_rfl) (by kernel_rfl)
    ⟨rfl, fun H ds hd => ?_⟩ c_laid (by kernel_rfl) rfl Tryz.underlying4 (fun os started H enc => ChangeSpec.witness_shaped (enc := enc) (C := Tryz.checked) (os := os) (X := fun w _ => laidMetH Tryz.prog Rows.resumeDecodesRow.laid w) false (World.doorLaid Tryz.prog 400 os) #[.slice none 0 0, .slice none 0 0] 30 rfl (World.shaped_of_RefB (by kernel_rfl) (by kernel_rfl)) (by kernel_rfl) (by kernel_rfl) (by kernel_rfl) (laidMetH_of_parts3 (fuel := 8) (laidMet_of_run' 8 (by kernel_rfl) (by kernel_rfl)) (by kernel_rfl) (by kernel_rfl))) ?_
  · have hd : ds.length = 2 := hd
    match ds, hd with
    | [d0, d1], _ => rfl
  · intro H enc W base args ds ps hval hA hw hL
    rw [Tryz.params4] at hA hw hval
    obtain ⟨v0, vs0, d0, ds0, p0, z0, hargs0, rfl, rfl, t0, hA0⟩ := trodAll_cons hA
    obtain ⟨v1, vs1, d1, ds1, p1, z1, hargs1, rfl, rfl, t1, hA1⟩ := trodAll_cons hA0
    obtain ⟨e1, rfl, rfl⟩ := trodAll_nil hA1
    subst e1
    subst hargs1
    obtain rfl : args = #[v0, v1] := by cases args; simp_all
    simp only [DataW.weightsEach, List.all_append, Bool.and_eq_true] at hw
    obtain ⟨w0, w1, _⟩ := hw
    obtain ⟨x0, a0, k0, rfl, h0⟩ := arg_slice rt22 Tryz.underlying22 (hval 0 22 v0 rfl rfl) t0 w0
    obtain ⟨x1, a1, k1, rfl, h1⟩ := arg_slice rt44 Tryz.underlying44 (hval 1 44 v1 rfl rfl) t1 w1
    have hg0 := laid_tab (T := 183) (e := 5) (g := 0) (nm := "math/bits.deBruijn64tab") (k := .u8) (L := tzT) Tryz.underlying183 Tryz.underlying5 (by kernel_rfl) (by kernel_rfl) (by kernel_rfl) (by kernel_rfl) (by decide) (by kernel_rfl) (laid_tail (by kernel_rfl) hL)
    have hg1 := laid_tabX (T := 189) (e := 68) (g := 2) (nm := "internal/strconv.uint64pow10") (k := .u64) (L := pw10) Tryz.underlying189 Tryz.underlying68 (by kernel_rfl) (by kernel_rfl) (by kernel_rfl) (by kernel_rfl) (by kernel_rfl) (laid_tail (by kernel_rfl) (laid_tail (by kernel_rfl) hL))
    exact ⟨_, Unit, _, _, (sepAll_p rfl h0 (sepAll_p rfl h1 (sepAll_app (hg0 _) (hg1 _)))), fn4 x0 a0 k0 x1 a1 k1 true (ResumeDecodes_true x0 x1)⟩
set_option maxRecDepth 100000 in
theorem resumeDecodesCard_holds : Rows.ResumeDecodesCardSaid :=
  Claim7.holds_tied_plain_at .later [] [.data, .data, .data] true (true, "fa2a9040bb6362e76e5292935a38906bb452508d4bfb3eefdf45c05414f7ed95") false
    resumeDecodes_holds (fun _ h => by cases h) (by kernel_rfl) (fun _ h => by cases h) resumeDecodes_row_tie rfl ⟨rfl, rfl⟩ (by kernel_rfl) rfl
    (fun f fn hf hfn => by
      obtain rfl : f = 4 := Option.some.inj ((show Tryz.prog.funcNamed "flowquery/flqlaw18.ResumeDecodes" = some 4 by kernel_rfl).symm.trans hf) |>.symm
      obtain rfl : fn = Tryz.f4 := (Option.some.inj (Tryz.func4.symm.trans hfn)).symm
      exact ⟨by kernel_rfl, fun j t ht => by
        rw [Tryz.params4] at ht
        rcases j with _ | _ | j
        · obtain rfl : 22 = t := by simpa using ht
          exact (show Tryz.prog.wantsStandIn 22 = false by kernel_rfl)
        · obtain rfl : 44 = t := by simpa using ht
          exact (show Tryz.prog.wantsStandIn 44 = false by kernel_rfl)
        · simp at ht⟩)
    (by kernel_rfl)
end Go.Proofs.YtodlobcpbdkjpaaGreatDoor
