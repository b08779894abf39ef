/- Part 3 of the walks: mirrors, plain laws and walks used by the last text of this claim. -/
import Derived.Test.YtbccjgpbflaibaaGreatW2
import Derived.Test.YtbccjgpbflaibaaGreatProg
set_option linter.unusedVariables false
set_option linter.unusedSimpArgs false
namespace Go.SL.G
open Go Go.SL Go.Proofs
set_option maxHeartbeats 20000000
set_option maxRecDepth 100000
theorem ze27 : zeroOf Tryz.prog 27 = some (.agg #[vi 0, .slice none 0 0, .slice none 0 0, .slice none 0 0]) := by kernel_rfl
theorem ca27 : callable Tryz.prog 27 = true := by kernel_rfl
theorem st27 : stTy Tryz.prog 27 = some ([(0, 1), (1, 1), (2, 1), (3, 1)], [vi 0, .slice none 0 0, .slice none 0 0, .slice none 0 0]) := by kernel_rfl
theorem sh27 : tyShape Tryz.prog 27 = some (true, 4) := by kernel_rfl
theorem ca28 : callable Tryz.prog 28 = true := by kernel_rfl
theorem fo27_0 : fldOff Tryz.prog 27 0 = some 0 := by kernel_rfl
theorem ca13 : callable Tryz.prog 13 = true := by kernel_rfl
theorem fo27_1 : fldOff Tryz.prog 27 1 = some 1 := by kernel_rfl
theorem sh23 : tyShape Tryz.prog 23 = some (false, 1) := by kernel_rfl
theorem sl23 : slTy Tryz.prog 23 = some (22, 1, 24) := by kernel_rfl
theorem sz23 : slZero Tryz.prog 23 = some [.slice none 0 0] := by kernel_rfl
theorem fo27_3 : fldOff Tryz.prog 27 3 = some 3 := by kernel_rfl
theorem sh25 : tyShape Tryz.prog 25 = some (false, 1) := by kernel_rfl
theorem sl25 : slTy Tryz.prog 25 = some (42, 2, 32) := by kernel_rfl
theorem sz25 : slZero Tryz.prog 25 = some [vi 0, .slice none 0 0] := by kernel_rfl
theorem fo27_2 : fldOff Tryz.prog 27 2 = some 2 := by kernel_rfl
theorem sh24 : tyShape Tryz.prog 24 = some (false, 1) := by kernel_rfl
theorem ca30 : callable Tryz.prog 30 = true := by kernel_rfl
theorem sl24 : slTy Tryz.prog 24 = some (65, 5, 88) := by kernel_rfl
theorem sz24 : slZero Tryz.prog 24 = some [vi 0, .slice none 0 0, vi 0, .slice none 0 0, .slice none 0 0] := by kernel_rfl
theorem ca21 : callable Tryz.prog 21 = true := by kernel_rfl
theorem ca41 : callable Tryz.prog 41 = true := by kernel_rfl
theorem ca106 : callable Tryz.prog 106 = true := by kernel_rfl
theorem ca153 : callable Tryz.prog 153 = true := by kernel_rfl
theorem ca71 : callable Tryz.prog 71 = true := by kernel_rfl
theorem ca40 : callable Tryz.prog 40 = true := by kernel_rfl
theorem ca118 : callable Tryz.prog 118 = true := by kernel_rfl
theorem ca12 : callable Tryz.prog 12 = true := by kernel_rfl
theorem ca36 : callable Tryz.prog 36 = true := by kernel_rfl
theorem ca81 : callable Tryz.prog 81 = true := by kernel_rfl
theorem ca83 : callable Tryz.prog 83 = true := by kernel_rfl
theorem ca69 : callable Tryz.prog 69 = true := by kernel_rfl
theorem ca70 : callable Tryz.prog 70 = true := by kernel_rfl
theorem ca37 : callable Tryz.prog 37 = true := by kernel_rfl
theorem ca38 : callable Tryz.prog 38 = true := by kernel_rfl
theorem ca39 : callable Tryz.prog 39 = true := by kernel_rfl
theorem ca170 : callable Tryz.prog 170 = true := by kernel_rfl
theorem ca113 : callable Tryz.prog 113 = true := by kernel_rfl
theorem ca114 : callable Tryz.prog 114 = true := by kernel_rfl
theorem ca115 : callable Tryz.prog 115 = true := by kernel_rfl
theorem ca79 : callable Tryz.prog 79 = true := by kernel_rfl
theorem ca136 : callable Tryz.prog 136 = true := by kernel_rfl
theorem ca135 : callable Tryz.prog 135 = true := by kernel_rfl
theorem ca137 : callable Tryz.prog 137 = true := by kernel_rfl
theorem ca174 : callable Tryz.prog 174 = true := by kernel_rfl
theorem ca147 : callable Tryz.prog 147 = true := by kernel_rfl
theorem ca146 : callable Tryz.prog 146 = true := by kernel_rfl
theorem sz22 : slZero Tryz.prog 22 = some [vi 0] := by kernel_rfl
theorem ca9 : callable Tryz.prog 9 = true := by kernel_rfl
theorem ca76 : callable Tryz.prog 76 = true := by kernel_rfl
theorem ca109 : callable Tryz.prog 109 = true := by kernel_rfl
theorem ca75 : callable Tryz.prog 75 = true := by kernel_rfl
theorem ca98 : callable Tryz.prog 98 = true := by kernel_rfl
theorem ca93 : callable Tryz.prog 93 = true := by kernel_rfl
theorem ca94 : callable Tryz.prog 94 = true := by kernel_rfl
theorem ca95 : callable Tryz.prog 95 = true := by kernel_rfl
theorem ca97 : callable Tryz.prog 97 = true := by kernel_rfl
theorem ca96 : callable Tryz.prog 96 = true := by kernel_rfl
theorem ca56 : callable Tryz.prog 56 = true := by kernel_rfl
theorem ca80 : callable Tryz.prog 80 = true := by kernel_rfl
theorem ca108 : callable Tryz.prog 108 = true := by kernel_rfl
theorem fo37_1 : fldOff Tryz.prog 37 1 = some 1 := by kernel_rfl
theorem ca47 : callable Tryz.prog 47 = true := by kernel_rfl
theorem fo37_0 : fldOff Tryz.prog 37 0 = some 0 := by kernel_rfl
theorem ca73 : callable Tryz.prog 73 = true := by kernel_rfl
theorem ca72 : callable Tryz.prog 72 = true := by kernel_rfl
theorem ca74 : callable Tryz.prog 74 = true := by kernel_rfl
theorem ca175 : callable Tryz.prog 175 = true := by kernel_rfl
theorem eqi105 : eqInts Tryz.prog 105 2 = true := by kernel_rfl
theorem ca149 : callable Tryz.prog 149 = true := by kernel_rfl
theorem ca148 : callable Tryz.prog 148 = true := by kernel_rfl
theorem ca110 : callable Tryz.prog 110 = true := by kernel_rfl
theorem ca77 : callable Tryz.prog 77 = true := by kernel_rfl
theorem ca42 : callable Tryz.prog 42 = true := by kernel_rfl
theorem sl28 : slTy Tryz.prog 28 = some (37, 2, 16) := by kernel_rfl
theorem sh37 : tyShape Tryz.prog 37 = some (true, 2) := by kernel_rfl
theorem st37 : stTy Tryz.prog 37 = some ([(0, 1), (1, 1)], [vi 0, vi 0]) := by kernel_rfl
theorem eqi37 : eqInts Tryz.prog 37 2 = true := by kernel_rfl
theorem ze37 : zeroOf Tryz.prog 37 = some (.agg #[vi 0, vi 0]) := by kernel_rfl
theorem ca43 : callable Tryz.prog 43 = true := by kernel_rfl
theorem ca44 : callable Tryz.prog 44 = true := by kernel_rfl
theorem ca45 : callable Tryz.prog 45 = true := by kernel_rfl
theorem un40 : Tryz.prog.underlying 40 = some (.slice 91) := by kernel_rfl
theorem ca151 : callable Tryz.prog 151 = true := by kernel_rfl
theorem ca150 : callable Tryz.prog 150 = true := by kernel_rfl
theorem ca173 : callable Tryz.prog 173 = true := by kernel_rfl
theorem ca142 : callable Tryz.prog 142 = true := by kernel_rfl
theorem ca185 : callable Tryz.prog 185 = true := by kernel_rfl
theorem ca184 : callable Tryz.prog 184 = true := by kernel_rfl
theorem ca111 : callable Tryz.prog 111 = true := by kernel_rfl
theorem ca144 : callable Tryz.prog 144 = true := by kernel_rfl
theorem ca181 : callable Tryz.prog 181 = true := by kernel_rfl
theorem ca172 : callable Tryz.prog 172 = true := by kernel_rfl
theorem ca141 : callable Tryz.prog 141 = true := by kernel_rfl
theorem ca143 : callable Tryz.prog 143 = true := by kernel_rfl
theorem ca101 : callable Tryz.prog 101 = true := by kernel_rfl
theorem un91 : Tryz.prog.underlying 91 = some (.int .u64) := by kernel_rfl
theorem ca152 : callable Tryz.prog 152 = true := by kernel_rfl
theorem ca112 : callable Tryz.prog 112 = true := by kernel_rfl
theorem ca59 : callable Tryz.prog 59 = true := by kernel_rfl
theorem ca78 : callable Tryz.prog 78 = true := by kernel_rfl
theorem ca46 : callable Tryz.prog 46 = true := by kernel_rfl
theorem ca49 : callable Tryz.prog 49 = true := by kernel_rfl
theorem ca102 : callable Tryz.prog 102 = true := by kernel_rfl
theorem un28 : Tryz.prog.underlying 28 = some (.slice 37) := by kernel_rfl
theorem sz28 : slZero Tryz.prog 28 = some [vi 0, vi 0] := by kernel_rfl
theorem ki37 : keyInts Tryz.prog 37 2 = true := by kernel_rfl
theorem kk_GHop : KK Tryz.prog 37 ev_GHop ok_GHop := kStruct (fun x : GHop => [x.Node, x.Bit]) ok_GHop ki37 (fun x y h => by cases x; cases y; simpa using h) (fun _ => rfl) (fun x hx y hy => by simp only [List.mem_cons, List.not_mem_nil, or_false] at hy; obtain ⟨h0, h1⟩ := hx; rcases hy with rfl | rfl <;> assumption)
theorem mt97 : mpTy Tryz.prog 97 = some (37, 28) := by kernel_rfl
theorem ze28 : zeroOf Tryz.prog 28 = some (.slice none 0 0) := by kernel_rfl
theorem ca104 : callable Tryz.prog 104 = true := by kernel_rfl
theorem ca103 : callable Tryz.prog 103 = true := by kernel_rfl
theorem ca61 : callable Tryz.prog 61 = true := by kernel_rfl
theorem ca62 : callable Tryz.prog 62 = true := by kernel_rfl
theorem ca60 : callable Tryz.prog 60 = true := by kernel_rfl
theorem ca63 : callable Tryz.prog 63 = true := by kernel_rfl
theorem ca64 : callable Tryz.prog 64 = true := by kernel_rfl
theorem un9 : Tryz.prog.underlying 9 = some .string := by kernel_rfl
theorem st129 : stTy Tryz.prog 129 = some ([(0, 1), (1, 1), (2, 1), (3, 1)], [vi 0, .string (bs (Str.mk [])), vi 0, vi 0]) := by kernel_rfl
theorem sl116 : slTy Tryz.prog 116 = some (129, 4, 40) := by kernel_rfl
theorem sz116 : slZero Tryz.prog 116 = some [vi 0, .string (bs (Str.mk [])), vi 0, vi 0] := by kernel_rfl
theorem ca119 : callable Tryz.prog 119 = true := by kernel_rfl
theorem ca120 : callable Tryz.prog 120 = true := by kernel_rfl
theorem fo121_2 : fldOff Tryz.prog 121 2 = some 2 := by kernel_rfl
theorem sh33 : tyShape Tryz.prog 33 = some (false, 1) := by kernel_rfl
theorem fo121_1 : fldOff Tryz.prog 121 1 = some 1 := by kernel_rfl
theorem fo121_0 : fldOff Tryz.prog 121 0 = some 0 := by kernel_rfl
theorem sh116 : tyShape Tryz.prog 116 = some (false, 1) := by kernel_rfl
theorem fo129_0 : fldOff Tryz.prog 129 0 = some 0 := by kernel_rfl
theorem fo129_1 : fldOff Tryz.prog 129 1 = some 1 := by kernel_rfl
theorem sh9 : tyShape Tryz.prog 9 = some (false, 1) := by kernel_rfl
theorem ca85 : callable Tryz.prog 85 = true := by kernel_rfl
theorem sl138 : slTy Tryz.prog 138 = some (9, 1, 16) := by kernel_rfl
theorem sz138 : slZero Tryz.prog 138 = some [.string (bs (Str.mk []))] := by kernel_rfl
theorem ca182 : callable Tryz.prog 182 = true := by kernel_rfl
theorem ca176 : callable Tryz.prog 176 = true := by kernel_rfl
theorem ca154 : callable Tryz.prog 154 = true := by kernel_rfl
theorem ca155 : callable Tryz.prog 155 = true := by kernel_rfl
theorem ca122 : callable Tryz.prog 122 = true := by kernel_rfl
theorem ze140 : zeroOf Tryz.prog 140 = some (.agg #[vi 0, .string (bs (Str.mk [])), .slice none 0 0, .slice none 0 0]) := by kernel_rfl
theorem fo140_0 : fldOff Tryz.prog 140 0 = some 0 := by kernel_rfl
theorem fo140_2 : fldOff Tryz.prog 140 2 = some 2 := by kernel_rfl
theorem sh138 : tyShape Tryz.prog 138 = some (false, 1) := by kernel_rfl
theorem ca177 : callable Tryz.prog 177 = true := by kernel_rfl
theorem ca123 : callable Tryz.prog 123 = true := by kernel_rfl
theorem sh140 : tyShape Tryz.prog 140 = some (true, 4) := by kernel_rfl
theorem fo140_1 : fldOff Tryz.prog 140 1 = some 1 := by kernel_rfl
theorem ca178 : callable Tryz.prog 178 = true := by kernel_rfl
theorem ze168 : zeroOf Tryz.prog 168 = some (.agg #[.string (bs (Str.mk [])), .slice none 0 0]) := by kernel_rfl
theorem ca121 : callable Tryz.prog 121 = true := by kernel_rfl
theorem fo168_0 : fldOff Tryz.prog 168 0 = some 0 := by kernel_rfl
theorem ca156 : callable Tryz.prog 156 = true := by kernel_rfl
theorem fo168_1 : fldOff Tryz.prog 168 1 = some 1 := by kernel_rfl
theorem sh166 : tyShape Tryz.prog 166 = some (false, 1) := by kernel_rfl
theorem sl166 : slTy Tryz.prog 166 = some (140, 4, 72) := by kernel_rfl
theorem ca157 : callable Tryz.prog 157 = true := by kernel_rfl
theorem sz166 : slZero Tryz.prog 166 = some [vi 0, .string (bs (Str.mk [])), .slice none 0 0, .slice none 0 0] := by kernel_rfl
theorem sh168 : tyShape Tryz.prog 168 = some (true, 2) := by kernel_rfl
theorem ze126 : zeroOf Tryz.prog 126 = some (.agg #[.string (bs (Str.mk [])), .slice none 0 0]) := by kernel_rfl
theorem fo126_0 : fldOff Tryz.prog 126 0 = some 0 := by kernel_rfl
theorem fo126_1 : fldOff Tryz.prog 126 1 = some 1 := by kernel_rfl
theorem sh124 : tyShape Tryz.prog 124 = some (false, 1) := by kernel_rfl
theorem sl124 : slTy Tryz.prog 124 = some (168, 2, 40) := by kernel_rfl
theorem ca124 : callable Tryz.prog 124 = true := by kernel_rfl
theorem sz124 : slZero Tryz.prog 124 = some [.string (bs (Str.mk [])), .slice none 0 0] := by kernel_rfl
theorem sh126 : tyShape Tryz.prog 126 = some (true, 2) := by kernel_rfl
theorem ze84 : zeroOf Tryz.prog 84 = some (.agg #[.slice none 0 0]) := by kernel_rfl
theorem ca84 : callable Tryz.prog 84 = true := by kernel_rfl
theorem st121 : stTy Tryz.prog 121 = some ([(0, 1), (1, 1), (2, 1)], [.slice none 0 0, vi 0, vi 0]) := by kernel_rfl
theorem fo84_0 : fldOff Tryz.prog 84 0 = some 0 := by kernel_rfl
theorem sh82 : tyShape Tryz.prog 82 = some (false, 1) := by kernel_rfl
theorem sl82 : slTy Tryz.prog 82 = some (126, 2, 40) := by kernel_rfl
theorem ca87 : callable Tryz.prog 87 = true := by kernel_rfl
theorem sz82 : slZero Tryz.prog 82 = some [.string (bs (Str.mk [])), .slice none 0 0] := by kernel_rfl
theorem sh84 : tyShape Tryz.prog 84 = some (true, 1) := by kernel_rfl
theorem fo140_3 : fldOff Tryz.prog 140 3 = some 3 := by kernel_rfl
theorem ca183 : callable Tryz.prog 183 = true := by kernel_rfl
theorem ca179 : callable Tryz.prog 179 = true := by kernel_rfl
theorem ca129 : callable Tryz.prog 129 = true := by kernel_rfl
theorem ca158 : callable Tryz.prog 158 = true := by kernel_rfl
theorem ca180 : callable Tryz.prog 180 = true := by kernel_rfl
theorem un4 : Tryz.prog.underlying 4 = some .bool := by kernel_rfl
theorem ca161 : callable Tryz.prog 161 = true := by kernel_rfl
theorem ze142 : zeroOf Tryz.prog 142 = some (.agg #[vi 0, vi 0, vi 0, vi 0]) := by kernel_rfl
theorem ca160 : callable Tryz.prog 160 = true := by kernel_rfl
theorem ca159 : callable Tryz.prog 159 = true := by kernel_rfl
theorem ca162 : callable Tryz.prog 162 = true := by kernel_rfl
theorem ca163 : callable Tryz.prog 163 = true := by kernel_rfl
theorem ca126 : callable Tryz.prog 126 = true := by kernel_rfl
theorem st142 : stTy Tryz.prog 142 = some ([(0, 1), (1, 1), (2, 1), (3, 1)], [vi 0, vi 0, vi 0, vi 0]) := by kernel_rfl
theorem sh142 : tyShape Tryz.prog 142 = some (true, 4) := by kernel_rfl
theorem ca125 : callable Tryz.prog 125 = true := by kernel_rfl
theorem sl133 : slTy Tryz.prog 133 = some (142, 4, 32) := by kernel_rfl
theorem sz133 : slZero Tryz.prog 133 = some [vi 0, vi 0, vi 0, vi 0] := by kernel_rfl
theorem eqi142 : eqInts Tryz.prog 142 4 = true := by kernel_rfl
theorem ca127 : callable Tryz.prog 127 = true := by kernel_rfl
theorem ca167 : callable Tryz.prog 167 = true := by kernel_rfl
theorem ca131 : callable Tryz.prog 131 = true := by kernel_rfl
theorem fo142_0 : fldOff Tryz.prog 142 0 = some 0 := by kernel_rfl
theorem st140 : stTy Tryz.prog 140 = some ([(0, 1), (1, 1), (2, 1), (3, 1)], [vi 0, .string (bs (Str.mk [])), .slice none 0 0, .slice none 0 0]) := by kernel_rfl
theorem fo142_1 : fldOff Tryz.prog 142 1 = some 1 := by kernel_rfl
theorem fo142_2 : fldOff Tryz.prog 142 2 = some 2 := by kernel_rfl
theorem fo142_3 : fldOff Tryz.prog 142 3 = some 3 := by kernel_rfl
theorem ca90 : callable Tryz.prog 90 = true := by kernel_rfl
theorem ca128 : callable Tryz.prog 128 = true := by kernel_rfl
theorem st174 : stTy Tryz.prog 174 = some ([(0, 1), (1, 1)], [vi 0, vi 0]) := by kernel_rfl
theorem sl130 : slTy Tryz.prog 130 = some (174, 2, 16) := by kernel_rfl
theorem sz130 : slZero Tryz.prog 130 = some [vi 0, vi 0] := by kernel_rfl
theorem ca164 : callable Tryz.prog 164 = true := by kernel_rfl
theorem ca165 : callable Tryz.prog 165 = true := by kernel_rfl
theorem ze135 : zeroOf Tryz.prog 135 = some (.agg #[.slice none 0 0, .slice none 0 0, .slice none 0 0]) := by kernel_rfl
theorem st135 : stTy Tryz.prog 135 = some ([(0, 1), (1, 1), (2, 1)], [.slice none 0 0, .slice none 0 0, .slice none 0 0]) := by kernel_rfl
theorem sh135 : tyShape Tryz.prog 135 = some (true, 3) := by kernel_rfl
theorem ca130 : callable Tryz.prog 130 = true := by kernel_rfl
theorem fo135_1 : fldOff Tryz.prog 135 1 = some 1 := by kernel_rfl
theorem fo135_2 : fldOff Tryz.prog 135 2 = some 2 := by kernel_rfl
theorem fo210_0 : fldOff Tryz.prog 210 0 = some 0 := by kernel_rfl
theorem ze210 : zeroOf Tryz.prog 210 = some (.agg #[vi 0, .slice none 0 0, .slice none 0 0]) := by kernel_rfl
theorem st210 : stTy Tryz.prog 210 = some ([(0, 2), (2, 1)], [vi 0, .slice none 0 0, .slice none 0 0]) := by kernel_rfl
theorem sh210 : tyShape Tryz.prog 210 = some (true, 3) := by kernel_rfl
theorem fo210_1 : fldOff Tryz.prog 210 1 = some 2 := by kernel_rfl
theorem ca169 : callable Tryz.prog 169 = true := by kernel_rfl
theorem ca168 : callable Tryz.prog 168 = true := by kernel_rfl
theorem fo174_1 : fldOff Tryz.prog 174 1 = some 1 := by kernel_rfl
theorem ca132 : callable Tryz.prog 132 = true := by kernel_rfl
theorem ca133 : callable Tryz.prog 133 = true := by kernel_rfl
theorem ca134 : callable Tryz.prog 134 = true := by kernel_rfl
theorem fo174_0 : fldOff Tryz.prog 174 0 = some 0 := by kernel_rfl
theorem ca88 : callable Tryz.prog 88 = true := by kernel_rfl
theorem ca89 : callable Tryz.prog 89 = true := by kernel_rfl
theorem fo135_0 : fldOff Tryz.prog 135 0 = some 0 := by kernel_rfl
theorem sh133 : tyShape Tryz.prog 133 = some (false, 1) := by kernel_rfl
theorem ca92 : callable Tryz.prog 92 = true := by kernel_rfl
theorem ca50 : callable Tryz.prog 50 = true := by kernel_rfl
theorem ca51 : callable Tryz.prog 51 = true := by kernel_rfl
theorem ca25 : callable Tryz.prog 25 = true := by kernel_rfl
theorem ca52 : callable Tryz.prog 52 = true := by kernel_rfl
theorem ca14 : callable Tryz.prog 14 = true := by kernel_rfl
theorem st60 : stTy Tryz.prog 60 = some ([(0, 1), (1, 1)], [.slice none 0 0, vi 0]) := by kernel_rfl
theorem ca7 : callable Tryz.prog 7 = true := by kernel_rfl
theorem ca8 : callable Tryz.prog 8 = true := by kernel_rfl
theorem ca11 : callable Tryz.prog 11 = true := by kernel_rfl
theorem ca18 : callable Tryz.prog 18 = true := by kernel_rfl
theorem ca16 : callable Tryz.prog 16 = true := by kernel_rfl
theorem ca20 : callable Tryz.prog 20 = true := by kernel_rfl
theorem fn53 (s : GSet) (sa1 : Option Addr) (sk1 : Nat) (hs_0 : i64ok s.Width) (rr : Bool) (hrr : r1_Valid s = rr) : FT Tryz.prog 53 #[.agg #[vi s.Width, vl sa1 sk1 s.Words]] [S sa1 sk1 s.Words] (fun g : Unit => True) (fun g => vb rr) (fun g => []) := by
 refine FTi Tryz.func53 fun w0 M0 F0 => ?_
 unfold i64ok at hs_0
 refine Fb 8 0 fun _ => KS ?_
 refine Oa (Ab [vi s.Width, vl sa1 sk1 s.Words]) fun p2 => Oq Va (KS ?_)
 refine Oq (Vfa fo42_0 0) (Oq (VldF sh3 0) (Oq Vlss (Oq Vm ?_)))
 refine Js 7 ?_ ?_
 ·intro h3
  have g4 := dt h3
  refine Osk (Osk (Osk (Oq Vpt (Oq Vm (Osk (Osk (Osk (Osk (Osk ?_)))))))))
  refine Osk (Osk (Osk (Oq Vpt (KS ?_))))
  refine Kt (KS ?_)
  refine Oq Va (KS ?_)
  have hq := q4 hrr false (by simp only [r1_Valid, h3, cs4]); subst hq
  exact Kr () rfl (.tmp rfl .nil) [] trivial
 intro h3
 have g5 := df h3
 refine Oq (Vfa fo42_0 0) (Oq (VldF sh3 0) (Oq Vgtr (Oq Vpf (Oq Vm ?_))))
 refine Js 12 ?_ ?_
 ·intro h6
  have g7 := dt h6
  refine Osk (Osk (Osk (Osk (Osk (Osk (Osk (Osk (Oq Vpt (KS ?_)))))))))
  refine Kt (KS ?_)
  refine Oq Va (KS ?_)
  have hq := q4 hrr false (by simp only [r1_Valid, h3, h6, cs4]); subst hq
  exact Kr () rfl (.tmp rfl .nil) [] trivial
 intro h6
 have g8 := df h6
 refine Oq (Vfa fo42_1 0) (Oq (VldF sh40 0) (Oq (Vlen sl40) (Oq (Vfa fo42_0 0) (Oq (VldF sh3 0) (Oq Vadd (Oq Vquo (Oq Vneq (Oq Vpf (KS ?_)))))))))
 refine Kc ?_ ?_
 ·intro h9
  have g10 := ne_of_bne h9
  refine KS ?_
  refine Oq Va (KS ?_)
  have hq := q4 hrr false (by simp only [r1_Valid, h3, h6, h9, cs4]); subst hq
  exact Kr () rfl (.tmp rfl .nil) [] trivial
 intro h9
 have g11 := eq_of_bne_false h9
 refine KS ?_
 refine Oq (Vfa fo42_0 0) (Oq (VldF sh3 0) (Oq Va (KS ?_)))
 refine Kl (γ := Nat × Int) (fun (r12, b_13) => ⟨[(1, p2), (3, vi b_13)], [pv p2 [vi s.Width, vl sa1 sk1 s.Words], S sa1 sk1 s.Words], r1_Valid_L0 s r12 b_13 = r1_Valid_L0 s ((((64 * (s.Words.length : Int)) : Int) - s.Width).toNat) s.Width ∧ r12 = (((64 * (s.Words.length : Int)) : Int) - b_13).toNat ∧ (s.Width : Int) ≤ b_13 ∧ (b_13 ≤ (64 * (s.Words.length : Int)) ∨ b_13 = s.Width) ∧ (-9223372036854775808 ≤ b_13 ∧ b_13 ≤ 9223372036854775807), r12⟩) ((((64 * (s.Words.length : Int)) : Int) - s.Width).toNat, s.Width) [0, 1] ⟨rfl, rfl, aM1, (.inr rfl), aM1⟩ ?_
 rintro ⟨r12, b_13⟩ ⟨hM14, hr15, hi16, hi17, hk18⟩
 refine JJ_nx fun _ _ hL hA => ?_; dsimp only at hL hA; subst hL hA
 refine Fb 8 1 fun _ => KS ?_
 refine Oq Vm (Oq (Vfa fo42_1 0) (Oq (VldF sh40 0) (Oq (Vlen sl40) (Oq Vmul (Oq Vlss (KS ?_))))))
 refine Kc ?_ ?_
 ·intro h20
  have g21 := dt h20
  obtain ⟨r22, rfl⟩ := scc (n := r12) aM1
  refine KS ?_
  refine Oq (Vfa fo42_1 0) (Oq (VldF sh40 0) (Oq Vm (Oq Vquo (Oq (Vi sl40 1) (Oq (VldU sh91 1) (Oq Vm (Oq Vrem (Oq (VcU un3 un92) (Oq VshrU ?_)))))))))
  refine Oq (VandU (b := 1#64)) (Oq (VeqlU (b := 1#64)) (KS ?_))
  refine Kc ?_ ?_
  ·intro h23
   have g24 := eq_of_beq h23
   refine KS ?_
   refine Oq Va (KS ?_)
   have hR25 := q2 hM14 (.ret false) (by simp only [r1_Valid_L0, h20, h23, cs4])
   have hq := q4 hrr false (by simp only [r1_Valid, h3, h6, h9, h20, h23, hR25, cs4]); subst hq
   exact Kr () rfl (.tmp rfl .nil) [] trivial
  intro h23
  have g26 := ne_of_beq_false h23
  refine KS ?_
  refine Oq Vm (Oq Vadd (Oq Va (KS ?_)))
  exact Kg (r22, (b_13 + 1)) [0, 1] ⟨(q3 hM14 (by simp only [r1_Valid_L0, h20, h23, cs4])), aM1, aM1, aM1, aM1⟩
 intro h20
 have g27 := df h20
 obtain rfl : r12 = 0 := by omega
 refine Ke ?_
 have hR28 := q2 hM14 (.brk ()) (by simp only [r1_Valid_L0, h20, cs4])
 refine KS ?_
 refine Oq Va (KS ?_)
 have hq := q4 hrr true (by simp only [r1_Valid, h3, h6, h9, h20, hR28, cs4]); subst hq
 exact Kr () rfl (.tmp rfl .nil) [] trivial
theorem fn67 (l : List Int) (la0 : Option Addr) (lk0 : Nat) (n : Int) (hn_0 : i64ok n) (rr : Bool) (hrr : r7_Rising l n = rr) : FT Tryz.prog 67 #[vl la0 lk0 l, vi n] [S la0 lk0 l] (fun g : Unit => True) (fun g => vb rr) (fun g => []) := by
 refine FTi Tryz.func67 fun w0 M0 F0 => ?_
 unfold i64ok at hn_0
 refine Fb 8 0 fun _ => Fo 0 fun ho2 => KS ?_
 refine Oq Va (KS ?_)
 refine Oq Va (KS ?_)
 refine Kl (γ := Nat × Int) (fun (r3, i_4) => ⟨[(0, vl la0 lk0 l), (1, vi n), (5, vi i_4)], [S la0 lk0 l], r7_Rising_L0 l n r3 i_4 = r7_Rising_L0 l n (((l.length : Int) - 0).toNat) 0 ∧ r3 = ((l.length : Int) - i_4).toNat ∧ (0 : Int) ≤ i_4 ∧ i_4 ≤ (l.length : Int) ∧ (-9223372036854775808 ≤ i_4 ∧ i_4 ≤ 9223372036854775807), r3⟩) (((l.length : Int) - 0).toNat, 0) [0] ⟨rfl, rfl, aM1, aM1, aM1⟩ ?_
 rintro ⟨r3, i_4⟩ ⟨hM5, hr6, hi7, hi8, hk9⟩
 refine JJ_nx fun _ _ hL hA => ?_; dsimp only at hL hA; subst hL hA
 refine Fb 8 0 fun _ => Fo 0 fun ho11 => KS ?_
 refine Oq Vm (Oq Vm (Oq (Vlen sl22) (Oq Vlss (KS ?_))))
 refine Kc ?_ ?_
 ·intro h12
  have g13 := dt h12
  obtain ⟨r14, rfl⟩ := scc (n := r3) aM1
  refine KS ?_
  refine Kq [0, 0, 3, 7, 15, 31, 63, 63, 255, 511, 63, 2047, 4095, 8191, 16383, 32767, 65535, 131071, 131071, 393215, 1048575, 2097151, 131071, 131071, 12713983, 29491199, 67108863, 134217727, 268435455] fmix ?_
  refine Qv [] Vm (Qv [] Vm (Qv [0] (Vi sl22 0) ?_))
  have hb15 := ok1 (i := i_4.toNat) ho11 rng
  refine Qv [0] (VldI sh3 0) (Qv [] Vlss ?_)
  refine bool_split (decide ((l.getD i_4.toNat 0) < 0)) ?_ ?_
  ·intro h16
   have g17 := dt h16
   refine Qb h16 [] Vm (Qs (Qs (Qs (Qs (Qs (Qs (Qv [] Vpt (Qv [] Vm (Qs ?_)))))))))
   refine Qs (Qs (Qs (Qs (Qs (Qs (Qs (Qs (Qs (Qs ?_)))))))))
   refine Qs (Qs (Qs (Qv [] Vpt ?_)))
   refine Qn ⟨by kernel_rfl, ?_⟩
   refine Kt (KS ?_)
   refine Oq Va (KS ?_)
   have hR18 := q2 hM5 (.ret false) (by simp only [r7_Rising_L0, h12, h16, cs4])
   have hq := q4 hrr false (by simp only [r7_Rising, h12, h16, hR18, cs4]); subst hq
   exact Kr () rfl (.tmp rfl .nil) [] trivial
  intro h16
  have g19 := df h16
  refine Qb h16 [] Vm (Qv [] Vm (Qv [] Vm (Qv [0] (Vi sl22 0) ?_)))
  have hb20 := ok1 (i := i_4.toNat) ho11 rng
  refine Qv [0] (VldI sh3 0) (Qv [] Vm (Qv [] Vgeq (Qv [] Vpf ?_)))
  refine bool_split (decide (n ≤ (l.getD i_4.toNat 0))) ?_ ?_
  ·intro h21
   have g22 := dt h21
   refine Qb h21 [] Vm (Qs (Qs (Qs (Qs (Qs (Qs (Qs (Qs (Qs ?_)))))))))
   refine Qs (Qs (Qs (Qs (Qs (Qv [] Vpt ?_)))))
   refine Qn ⟨by kernel_rfl, ?_⟩
   refine Kt (KS ?_)
   refine Oq Va (KS ?_)
   have hR23 := q2 hM5 (.ret false) (by simp only [r7_Rising_L0, h12, h16, h21, cs4])
   have hq := q4 hrr false (by simp only [r7_Rising, h12, h16, h21, hR23, cs4]); subst hq
   exact Kr () rfl (.tmp rfl .nil) [] trivial
  intro h21
  have g24 := df h21
  refine Qb h21 [] Vm (Qv [] Vm (Qv [] Vgtr ?_))
  refine bool_split (decide (0 < i_4)) ?_ ?_
  ·intro h25
   have g26 := dt h25
   refine Qb h25 [] Vm (Qv [] Vm (Qv [] Vm (Qv [] Vsub (Qv [0] (Vi sl22 0) ?_))))
   have hb27 := ok1 (i := ((i_4 - 1) : Int).toNat) ho11 rng
   refine Qv [0] (VldI sh3 0) (Qv [] Vm (Qv [] Vm (Qv [0] (Vi sl22 0) ?_)))
   have hb28 := ok1 (i := i_4.toNat) ho11 rng
   refine Qv [0] (VldI sh3 0) (Qv [] Vgeq (Qv [] Vpt (Qv [] Vpf ?_)))
   refine Qn ⟨by kernel_rfl, ?_⟩
   refine Kc ?_ ?_
   ·intro h29
    have g30 := dt h29
    refine KS ?_
    refine Oq Va (KS ?_)
    have hR31 := q2 hM5 (.ret false) (by simp only [r7_Rising_L0, h12, h16, h21, h25, h29, cs4])
    have hq := q4 hrr false (by simp only [r7_Rising, h12, h16, h21, h25, h29, hR31, cs4]); subst hq
    exact Kr () rfl (.tmp rfl .nil) [] trivial
   intro h29
   have g32 := df h29
   refine KS ?_
   refine Oq Vm (Oq Vadd (Oq Va (KS ?_)))
   exact Kg (r14, (i_4 + 1)) [0] ⟨(q3 hM5 (by simp only [r7_Rising_L0, h12, h16, h21, h25, h29, cs4])), aM1, aM1, aM1, aM1⟩
  intro h25
  have g33 := df h25
  refine Qb h25 [] Vm (Qs (Qs (Qs (Qs (Qs (Qs (Qs (Qs (Qs ?_)))))))))
  refine Qs (Qv [] Vpf (Qv [] Vpf ?_))
  refine Qn ⟨by kernel_rfl, ?_⟩
  refine Kf (KS ?_)
  refine Oq Vm (Oq Vadd (Oq Va (KS ?_)))
  exact Kg (r14, (i_4 + 1)) [0] ⟨(q3 hM5 (by simp only [r7_Rising_L0, h12, h16, h21, h25, cs4])), aM1, aM1, aM1, aM1⟩
 intro h12
 have g34 := df h12
 obtain rfl : r3 = 0 := by omega
 refine Ke ?_
 have hR35 := q2 hM5 (.brk ()) (by simp only [r7_Rising_L0, h12, cs4])
 refine KS ?_
 refine Oq Va (KS ?_)
 have hq := q4 hrr true (by simp only [r7_Rising, h12, hR35, cs4]); subst hq
 exact Kr () rfl (.tmp rfl .nil) [] trivial
theorem fn107 (a : GCopy) (b : GCopy) (ha_0 : i64ok a.From) (ha_1 : i64ok a.To) (hb_0 : i64ok b.From) (hb_1 : i64ok b.To) (rr : Bool) (hrr : r1_Before a b = rr) : FT Tryz.prog 107 #[.agg #[vi a.From, vi a.To], .agg #[vi b.From, vi b.To]] [] (fun g : Unit => True) (fun g => vb rr) (fun g => []) := by
 refine FTi Tryz.func107 fun w0 M0 F0 => ?_
 unfold i64ok at ha_0 ha_1 hb_0 hb_1
 refine KS ?_
 refine Oa (Ab [vi a.From, vi a.To]) fun p1 => Oa (Ab [vi b.From, vi b.To]) fun p2 => Oq Va (KS ?_)
 refine Oq (Vfa fo105_0 1) (Oq (VldF sh3 1) (Oq (Vfa fo105_0 0) (Oq (VldF sh3 0) (Oq Vlss (Oq Vm ?_)))))
 refine Js 10 ?_ ?_
 ·intro h3
  have g4 := dt h3
  refine Osk (Osk (Osk (Osk (Osk (Osk (Osk (Osk (Osk (Osk ?_)))))))))
  refine Osk (Osk (Oq Vpt (Oq Va (KS ?_))))
  have hq := q4 hrr true (by simp only [r1_Before, h3, cs4]); subst hq
  exact Kr () rfl (.tmp rfl .nil) [] trivial
 intro h3
 have g5 := df h3
 refine Oq (Vfa fo105_0 1) (Oq (VldF sh3 1) (Oq (Vfa fo105_0 0) (Oq (VldF sh3 0) (Oq Veql (Oq Vm ?_)))))
 refine Js 16 ?_ ?_
 ·intro h6
  have g7 := eq_of_beq h6
  refine Oq (Vfa fo105_1 1) (Oq (VldF sh3 1) (Oq (Vfa fo105_1 0) (Oq (VldF sh3 0) (Oq Vlss (Oq Vpt (Oq Vpf (Oq Va (KS ?_))))))))
  have hq := q4 hrr (decide (a.To < b.To)) (by simp only [r1_Before, h3, h6, cs4]); subst hq
  exact Kr () rfl (.tmp rfl .nil) [] trivial
 intro h6
 have g8 := ne_of_beq_false h6
 refine Osk (Osk (Osk (Osk (Osk (Oq Vpf (Oq Vpf (Oq Va (KS ?_))))))))
 have hq := q4 hrr false (by simp only [r1_Before, h3, h6, cs4]); subst hq
 exact Kr () rfl (.tmp rfl .nil) [] trivial
theorem fn68 (t : GTransfer) (ta1 : Option Addr) (tk1 : Nat) (ta3 : Option Addr) (tk3 : Nat) (ta4 : Option Addr) (tk4 : Nat) (ht_0 : i64ok t.Gen.Width) (ht_2 : i64ok t.Kill.Width) (rr : Bool) (hrr : r1_ValidTransfer t = rr) : FT Tryz.prog 68 #[.agg #[vi t.Gen.Width, vl ta1 tk1 t.Gen.Words, vi t.Kill.Width, vl ta3 tk3 t.Kill.Words, vl ta4 tk4 t.Copies]] [S ta1 tk1 t.Gen.Words, S ta3 tk3 t.Kill.Words, S ta4 tk4 t.Copies] (fun g : Unit => True) (fun g => vb rr) (fun g => []) := by
 refine FTi Tryz.func68 fun w0 M0 F0 => ?_
 unfold i64ok at ht_0 ht_2
 refine Fb 8 0 fun _ => Fb 8 1 fun _ => Fb 16 2 fun _ => KS ?_
 refine Oa (Ab [vi t.Gen.Width, vl ta1 tk1 t.Gen.Words, vi t.Kill.Width, vl ta3 tk3 t.Kill.Words, vl ta4 tk4 t.Copies]) fun p4 => Oq Va (KS ?_)
 refine Oq (Vfa fo65_0 0) (Oq (VldG sh42 0 [vi t.Gen.Width, vl ta1 tk1 t.Gen.Words]) ?_)
 refine letv (r1_Valid t.Gen) fun rv5 hg6 => ?_
 have hc7 := fn53 t.Gen ta1 tk1 pre rv5 hg6
 refine Oc [1] ca53 hc7 ?_
 rintro - -
 refine Oq Vnot (Oq Vm ?_)
 refine Js 10 ?_ ?_
 ·intro h8
  have h10 := not_true h8
  refine Osk (Osk (Osk (Osk (Oq Vpt (Oq Vm (Osk (Osk (Osk (Osk ?_)))))))))
  refine Osk (Osk (Osk (Oq Vpt (Oq Vm (Osk (Osk (Osk (Osk (Oq Vpt ?_)))))))))
  refine KS ?_
  refine Kt (KS ?_)
  refine Oq Va (KS ?_)
  have hq := q4 hrr false (by simp only [r1_ValidTransfer, h8, h10, hg6, cs4]); subst hq
  exact Kr () rfl (.tmp rfl .nil) [] trivial
 intro h8
 have h13 := not_false h8
 refine Oq (Vfa fo65_1 0) (Oq (VldG sh42 0 [vi t.Kill.Width, vl ta3 tk3 t.Kill.Words]) ?_)
 refine letv (r1_Valid t.Kill) fun rv15 hg16 => ?_
 have hc17 := fn53 t.Kill ta3 tk3 pre rv15 hg16
 refine Oc [2] ca53 hc17 ?_
 rintro - -
 refine Oq Vnot (Oq Vpf (Oq Vm ?_))
 refine Js 16 ?_ ?_
 ·intro h18
  have h20 := not_true h18
  refine Osk (Osk (Osk (Osk (Osk (Osk (Osk (Oq Vpt (Oq Vm (Osk ?_)))))))))
  refine Osk (Osk (Osk (Oq Vpt (KS ?_))))
  refine Kt (KS ?_)
  refine Oq Va (KS ?_)
  have hq := q4 hrr false (by simp only [r1_ValidTransfer, h8, h13, h18, h20, hg6, hg16, cs4]); subst hq
  exact Kr () rfl (.tmp rfl .nil) [] trivial
 intro h18
 have h23 := not_false h18
 refine Oq (Vfa fo65_0 0) (Oq (VfaF fo42_0 0) (Oq (VldF sh3 0) (Oq (Vfa fo65_1 0) (Oq (VfaF fo42_0 0) (Oq (VldF sh3 0) (Oq Vneq (Oq Vpf (Oq Vm ?_))))))))
 refine Js 25 ?_ ?_
 ·intro h25
  have g26 := ne_of_bne h25
  refine Osk (Osk (Osk (Osk (Oq Vpt (KS ?_)))))
  refine Kt (KS ?_)
  refine Oq Va (KS ?_)
  have hq := q4 hrr false (by simp only [r1_ValidTransfer, h8, h13, h18, h23, h25, hg6, hg16, cs4]); subst hq
  exact Kr () rfl (.tmp rfl .nil) [] trivial
 intro h25
 have g27 := eq_of_bne_false h25
 refine Oq (Vfa fo65_2 0) (Oq (VldF sh63 0) (Oq (Vlen sl63) (Oq Vgtr (Oq Vpf (KS ?_)))))
 refine Kc ?_ ?_
 ·intro h28
  have g29 := dt h28
  refine KS ?_
  refine Oq Va (KS ?_)
  have hq := q4 hrr false (by simp only [r1_ValidTransfer, h8, h13, h18, h23, h25, h28, hg6, hg16, cs4]); subst hq
  exact Kr () rfl (.tmp rfl .nil) [] trivial
 intro h28
 have g30 := df h28
 refine KS ?_
 refine Oq (Vfa fo65_0 0) (Oq (VfaF fo42_0 0) (Oq (VldF sh3 0) (Oq Va (KS ?_))))
 refine Oq Va (KS ?_)
 refine Kl (γ := Nat × Int) (fun (r31, i_32) => ⟨[(1, p4), (3, vi t.Gen.Width), (4, vi i_32)], [pv p4 [vi t.Gen.Width, vl ta1 tk1 t.Gen.Words, vi t.Kill.Width, vl ta3 tk3 t.Kill.Words, vl ta4 tk4 t.Copies], S ta1 tk1 t.Gen.Words, S ta3 tk3 t.Kill.Words, S ta4 tk4 t.Copies], r1_ValidTransfer_L0 t r31 i_32 = r1_ValidTransfer_L0 t (((t.Copies.length : Int) - 0).toNat) 0 ∧ r31 = ((t.Copies.length : Int) - i_32).toNat ∧ (0 : Int) ≤ i_32 ∧ i_32 ≤ (t.Copies.length : Int) ∧ (-9223372036854775808 ≤ i_32 ∧ i_32 ≤ 9223372036854775807), r31⟩) (((t.Copies.length : Int) - 0).toNat, 0) [0, 1, 2, 3] ⟨rfl, rfl, aM1, aM1, aM1⟩ ?_
 rintro ⟨r31, i_32⟩ ⟨hM33, hr34, hi35, hi36, hk37⟩
 refine JJ_nx fun _ _ hL hA => ?_; dsimp only at hL hA; subst hL hA
 refine Fb 8 1 fun _ => Fb 8 2 fun _ => Fb 16 3 fun _ => KS ?_
 refine Oq Vm (Oq (Vfa fo65_2 0) (Oq (VldF sh63 0) (Oq (Vlen sl63) (Oq Vlss (KS ?_)))))
 refine Kc ?_ ?_
 ·intro h41
  have g42 := dt h41
  obtain ⟨r43, rfl⟩ := scc (n := r31) aM1
  refine KS ?_
  refine Oq (Vfa fo65_2 0) (Oq (VldF sh63 0) (Oq Vm (Oq (Vi sl63 3) ?_)))
  refine JJ_peek_GCopy i_32.toNat 3 rfl rng fun hb44 hb45 => ?_
  unfold i64ok at hb44 hb45
  refine Oq (VldA sh105 0) (Oa (Al ze105 [vi 0, vi 0]) fun p46 => Ost (Scl [0] sh105 [vi ((t.Copies.getD i_32.toNat default).From), vi ((t.Copies.getD i_32.toNat default).To)]) (KS ?_))
  refine Jp 0 fun hp47 => ?_
  refine bool_split (decide ((t.Copies.getD i_32.toNat default).From < 0)) ?_ ?_
  ·intro h48
   have g49 := dt h48
   refine Kq [0, 1, 3, 7, 15, 31, 15, 127, 255, 511, 1023, 2047, 4095, 8191, 16383, 32767, 65535, 32767, 262143, 524287, 1048575, 2097151, 4194303, 8388607, 16777215, 33554431, 16777215, 83886079, 268435455, 536870911, 16777215, 2147483647, 4294967295, 8589934591, 17179869183] fmix ?_
   refine Qv [0] (Vfa fo105_0 0) (Qv [1] (VldF sh3 0) (Qb h48 [] Vlss (Qv [] Vm (Qs (Qs (Qs (Qs (Qv [] Vpt (Qv [] Vm ?_)))))))))
   refine Qs (Qs (Qs (Qv [] Vpt (Qv [] Vm (Qs (Qs (Qs (Qs (Qv [] Vpt ?_)))))))))
   refine Qv [] Vm (Qs (Qs (Qs (Qs (Qs (Qs (Qs (Qs (Qs ?_)))))))))
   refine Qs (Qs (Qs (Qs (Qv [] Vpt ?_))))
   refine Qn ⟨by kernel_rfl, ?_⟩
   refine Kt (KS ?_)
   refine Oq Va (KS ?_)
   have hR50 := q2 hM33 (.ret false) (by simp only [r1_ValidTransfer_L0, h41, h48, cs4])
   have hq := q4 hrr false (by simp only [r1_ValidTransfer, h8, h13, h18, h23, h25, h28, h41, h48, hg6, hg16, hR50, cs4]); subst hq
   exact Kr () rfl (.tmp rfl .nil) [] trivial
  intro h48
  have g51 := df h48
  refine bool_split (decide (t.Gen.Width ≤ (t.Copies.getD i_32.toNat default).From)) ?_ ?_
  ·intro h52
   have g53 := dt h52
   refine Kq [0, 1, 3, 7, 15, 31, 15, 127, 255, 511, 1023, 2047, 4095, 8191, 16383, 32767, 65535, 32767, 262143, 524287, 1048575, 2097151, 4194303, 8388607, 16777215, 33554431, 16777215, 83886079, 268435455, 536870911, 16777215, 2147483647, 4294967295, 8589934591, 17179869183] fmix ?_
   refine Qv [0] (Vfa fo105_0 0) (Qv [1] (VldF sh3 0) (Qb h48 [] Vlss (Qv [] Vm (Qv [0] (Vfa fo105_0 0) (Qv [1] (VldF sh3 0) (Qv [] Vm (Qb h52 [] Vgeq (Qv [] Vpf (Qv [] Vm ?_)))))))))
   refine Qs (Qs (Qs (Qv [] Vpt (Qv [] Vm (Qs (Qs (Qs (Qs (Qv [] Vpt ?_)))))))))
   refine Qv [] Vm (Qs (Qs (Qs (Qs (Qs (Qs (Qs (Qs (Qs ?_)))))))))
   refine Qs (Qs (Qs (Qs (Qv [] Vpt ?_))))
   refine Qn ⟨by kernel_rfl, ?_⟩
   refine Kt (KS ?_)
   refine Oq Va (KS ?_)
   have hR54 := q2 hM33 (.ret false) (by simp only [r1_ValidTransfer_L0, h41, h48, h52, cs4])
   have hq := q4 hrr false (by simp only [r1_ValidTransfer, h8, h13, h18, h23, h25, h28, h41, h48, h52, hg6, hg16, hR54, cs4]); subst hq
   exact Kr () rfl (.tmp rfl .nil) [] trivial
  intro h52
  have g55 := df h52
  refine bool_split (decide ((t.Copies.getD i_32.toNat default).To < 0)) ?_ ?_
  ·intro h56
   have g57 := dt h56
   refine Kq [0, 1, 3, 7, 15, 31, 15, 127, 255, 511, 1023, 2047, 4095, 8191, 16383, 32767, 65535, 32767, 262143, 524287, 1048575, 2097151, 4194303, 8388607, 16777215, 33554431, 16777215, 83886079, 268435455, 536870911, 16777215, 2147483647, 4294967295, 8589934591, 17179869183] fmix ?_
   refine Qv [0] (Vfa fo105_0 0) (Qv [1] (VldF sh3 0) (Qb h48 [] Vlss (Qv [] Vm (Qv [0] (Vfa fo105_0 0) (Qv [1] (VldF sh3 0) (Qv [] Vm (Qb h52 [] Vgeq (Qv [] Vpf (Qv [] Vm ?_)))))))))
   refine Qv [0] (Vfa fo105_1 0) (Qv [1] (VldF sh3 0) (Qb h56 [] Vlss (Qv [] Vpf (Qv [] Vm (Qs (Qs (Qs (Qs (Qv [] Vpt ?_)))))))))
   refine Qv [] Vm (Qs (Qs (Qs (Qs (Qs (Qs (Qs (Qs (Qs ?_)))))))))
   refine Qs (Qs (Qs (Qs (Qv [] Vpt ?_))))
   refine Qn ⟨by kernel_rfl, ?_⟩
   refine Kt (KS ?_)
   refine Oq Va (KS ?_)
   have hR58 := q2 hM33 (.ret false) (by simp only [r1_ValidTransfer_L0, h41, h48, h52, h56, cs4])
   have hq := q4 hrr false (by simp only [r1_ValidTransfer, h8, h13, h18, h23, h25, h28, h41, h48, h52, h56, hg6, hg16, hR58, cs4]); subst hq
   exact Kr () rfl (.tmp rfl .nil) [] trivial
  intro h56
  have g59 := df h56
  refine bool_split (decide (t.Gen.Width ≤ (t.Copies.getD i_32.toNat default).To)) ?_ ?_
  ·intro h60
   have g61 := dt h60
   refine Kq [0, 1, 3, 7, 15, 31, 15, 127, 255, 511, 1023, 2047, 4095, 8191, 16383, 32767, 65535, 32767, 262143, 524287, 1048575, 2097151, 4194303, 8388607, 16777215, 33554431, 16777215, 83886079, 268435455, 536870911, 16777215, 2147483647, 4294967295, 8589934591, 17179869183] fmix ?_
   refine Qv [0] (Vfa fo105_0 0) (Qv [1] (VldF sh3 0) (Qb h48 [] Vlss (Qv [] Vm (Qv [0] (Vfa fo105_0 0) (Qv [1] (VldF sh3 0) (Qv [] Vm (Qb h52 [] Vgeq (Qv [] Vpf (Qv [] Vm ?_)))))))))
   refine Qv [0] (Vfa fo105_1 0) (Qv [1] (VldF sh3 0) (Qb h56 [] Vlss (Qv [] Vpf (Qv [] Vm (Qv [0] (Vfa fo105_1 0) (Qv [1] (VldF sh3 0) (Qv [] Vm (Qb h60 [] Vgeq (Qv [] Vpf ?_)))))))))
   refine Qv [] Vm (Qs (Qs (Qs (Qs (Qs (Qs (Qs (Qs (Qs ?_)))))))))
   refine Qs (Qs (Qs (Qs (Qv [] Vpt ?_))))
   refine Qn ⟨by kernel_rfl, ?_⟩
   refine Kt (KS ?_)
   refine Oq Va (KS ?_)
   have hR62 := q2 hM33 (.ret false) (by simp only [r1_ValidTransfer_L0, h41, h48, h52, h56, h60, cs4])
   have hq := q4 hrr false (by simp only [r1_ValidTransfer, h8, h13, h18, h23, h25, h28, h41, h48, h52, h56, h60, hg6, hg16, hR62, cs4]); subst hq
   exact Kr () rfl (.tmp rfl .nil) [] trivial
  intro h60
  have g63 := df h60
  refine bool_split (decide (0 < i_32)) ?_ ?_
  ·intro h64
   have g65 := dt h64
   refine JJ_peek_GCopy ((i_32 - 1) : Int).toNat 6 rfl rng fun hb66 hb67 => ?_
   unfold i64ok at hb66 hb67
   refine JK_drawK [0, 1, 3, 7, 15, 31, 15, 127, 255, 511, 1023, 2047, 4095, 8191, 16383, 32767, 65535, 32767, 262143, 524287, 1048575, 2097151, 4194303, 8388607, 16777215, 33554431, 16777215, 83886079, 268435455, 536870911, 16777215, 2147483647, 4294967295, 8589934591, 17179869183] fmix ?_
   refine Dv [1] (Vfa fo105_0 0) (Dv [2] (VldF sh3 0) (Db h48 [] Vlss (Dv [] Vm (Dv [1] (Vfa fo105_0 0) (Dv [2] (VldF sh3 0) (Dv [] Vm (Db h52 [] Vgeq (Dv [] Vpf (Dv [] Vm ?_)))))))))
   refine Dv [1] (Vfa fo105_1 0) (Dv [2] (VldF sh3 0) (Db h56 [] Vlss (Dv [] Vpf (Dv [] Vm (Dv [1] (Vfa fo105_1 0) (Dv [2] (VldF sh3 0) (Dv [] Vm (Db h60 [] Vgeq (Dv [] Vpf ?_)))))))))
   refine Dv [] Vm (Dv [] Vm (Db h64 [] Vgtr (Dv [] Vm (Dv [4] (Vfa fo65_2 0) (Dv [4] (VldF sh63 0) (Dv [] Vm (Dv [] Vsub (Dv [7] (Vi sl63 0) (Dv [0] (VldA sh105 0) ?_)))))))))
   refine Dv [2] (VldA sh105 0) ?_
   refine letv (r1_Before (t.Copies.getD ((i_32 - 1) : Int).toNat default) (t.Copies.getD i_32.toNat default)) fun rv68 hg69 => ?_
   refine Dx [] [] [0] (fun G => vb rv68) [fun G => SP.fact (True)] (fun G => xC [] ca107 (fn107 ((t.Copies.getD ((i_32 - 1) : Int).toNat default)) ((t.Copies.getD i_32.toNat default)) pre pre pre pre rv68 hg69)) (Dv [] Vnot (Dv [] Vpt (Dv [] Vpf ?_)))
   refine Dn ⟨by kernel_rfl, fun G => ?_⟩
   refine Jw2 [(1, p4), (3, vi t.Gen.Width), (4, vi i_32), (80, vb (!rv68))] [0, 1, 2, 3, 4, 5, 6, 7] [SP.fact (True)] ?_
   refine Jk [0, 2, 2, 3, 4, 5, 6] ?_
   refine Kc ?_ ?_
   ·intro h70
    have h72 := not_true h70
    refine KS ?_
    refine Oq Va (KS ?_)
    have hR74 := q2 hM33 (.ret false) (by simp only [r1_ValidTransfer_L0, h41, h48, h52, h56, h60, h64, h70, h72, hg69, cs4])
    have hq := q4 hrr false (by simp only [r1_ValidTransfer, h8, h13, h18, h23, h25, h28, h41, h48, h52, h56, h60, h64, h70, h72, hg6, hg16, hg69, hR74, cs4]); subst hq
    exact Kr () rfl (.tmp rfl .nil) [] trivial
   intro h70
   have h76 := not_false h70
   refine KS ?_
   refine Oq Vm (Oq Vadd (Oq Va (KS ?_)))
   exact Kg (r43, (i_32 + 1)) [3, 4, 5, 6] ⟨(q3 hM33 (by simp only [r1_ValidTransfer_L0, h41, h48, h52, h56, h60, h64, h70, h76, hg69, cs4])), aM1, aM1, aM1, aM1⟩
  intro h64
  have g78 := df h64
  refine Kq [0, 1, 3, 7, 15, 31, 15, 127, 255, 511, 1023, 2047, 4095, 8191, 16383, 32767, 65535, 32767, 262143, 524287, 1048575, 2097151, 4194303, 8388607, 16777215, 33554431, 16777215, 83886079, 268435455, 536870911, 16777215, 2147483647, 4294967295, 8589934591, 17179869183] fmix ?_
  refine Qv [0] (Vfa fo105_0 0) (Qv [1] (VldF sh3 0) (Qb h48 [] Vlss (Qv [] Vm (Qv [0] (Vfa fo105_0 0) (Qv [1] (VldF sh3 0) (Qv [] Vm (Qb h52 [] Vgeq (Qv [] Vpf (Qv [] Vm ?_)))))))))
  refine Qv [0] (Vfa fo105_1 0) (Qv [1] (VldF sh3 0) (Qb h56 [] Vlss (Qv [] Vpf (Qv [] Vm (Qv [0] (Vfa fo105_1 0) (Qv [1] (VldF sh3 0) (Qv [] Vm (Qb h60 [] Vgeq (Qv [] Vpf ?_)))))))))
  refine Qv [] Vm (Qv [] Vm (Qb h64 [] Vgtr (Qv [] Vm (Qs (Qs (Qs (Qs (Qs (Qs ?_)))))))))
  refine Qs (Qs (Qs (Qv [] Vpf (Qv [] Vpf ?_))))
  refine Qn ⟨by kernel_rfl, ?_⟩
  refine Kf (KS ?_)
  refine Oq Vm (Oq Vadd (Oq Va (KS ?_)))
  exact Kg (r43, (i_32 + 1)) [3, 4, 5, 6] ⟨(q3 hM33 (by simp only [r1_ValidTransfer_L0, h41, h48, h52, h56, h60, h64, cs4])), aM1, aM1, aM1, aM1⟩
 intro h41
 have g79 := df h41
 obtain rfl : r31 = 0 := by omega
 refine Ke ?_
 have hR80 := q2 hM33 (.brk ()) (by simp only [r1_ValidTransfer_L0, h41, cs4])
 refine KS ?_
 refine Oq Va (KS ?_)
 have hq := q4 hrr true (by simp only [r1_ValidTransfer, h8, h13, h18, h23, h25, h28, h41, hg6, hg16, hR80, cs4]); subst hq
 exact Kr () rfl (.tmp rfl .nil) [] trivial
theorem fn36 (s : GSystem) (sa1 : Option Addr) (sk1 : Nat) (sa2 : Option Addr) (sk2 : Nat) (sa3 : Option Addr) (sk3 : Nat) (hs_0 : i64ok s.Width) (rr : Bool) (hrr : r10_Valid s = rr) : FT Tryz.prog 36 #[.agg #[vi s.Width, vl sa1 sk1 s.Deps, vl sa2 sk2 s.Transfers, vl sa3 sk3 s.Boundary]] [S sa1 sk1 s.Deps, S sa2 sk2 s.Transfers, S sa3 sk3 s.Boundary] (fun g : Unit => True) (fun g => vb rr) (fun g => []) := by
 refine FTi Tryz.func36 fun w0 M0 F0 => ?_
 unfold i64ok at hs_0
 refine Fb 24 0 fun _ => Fb 88 1 fun _ => Fb 32 2 fun _ => KS ?_
 refine Oa (Ab [vi s.Width, vl sa1 sk1 s.Deps, vl sa2 sk2 s.Transfers, vl sa3 sk3 s.Boundary]) fun p4 => Oq Va (KS ?_)
 refine Oq (Vfa fo27_3 0) (Oq (VldF sh25 0) (Oq (Vlen sl25) (Oq Va (KS ?_))))
 refine Oq (Vfa fo27_0 0) (Oq (VldF sh3 0) (Oq Vlss (Oq Vm ?_)))
 refine Js 12 ?_ ?_
 ·intro h5
  have g6 := dt h5
  refine Osk (Osk (Osk (Oq Vpt (Oq Vm (Osk (Osk (Oq Vpt (Oq Vm (Osk ?_)))))))))
  refine Osk (Oq Vpt (Oq Vm (Osk (Osk (Osk (Osk (Osk (Oq Vpt (Oq Vm ?_)))))))))
  refine Osk (Osk (Osk (Osk (Osk (Oq Vpt (KS ?_))))))
  refine Kt (KS ?_)
  refine Oq Va (KS ?_)
  have hq := q4 hrr false (by simp only [r10_Valid, h5, cs4]); subst hq
  exact Kr () rfl (.tmp rfl .nil) [] trivial
 intro h5
 have g7 := df h5
 refine Oq (Vfa fo27_0 0) (Oq (VldF sh3 0) (Oq Vgtr (Oq Vpf (Oq Vm ?_))))
 refine Js 17 ?_ ?_
 ·intro h8
  have g9 := dt h8
  refine Osk (Osk (Oq Vpt (Oq Vm (Osk (Osk (Oq Vpt (Oq Vm (Osk (Osk ?_)))))))))
  refine Osk (Osk (Osk (Oq Vpt (Oq Vm (Osk (Osk (Osk (Osk (Osk ?_)))))))))
  refine Oq Vpt (KS ?_)
  refine Kt (KS ?_)
  refine Oq Va (KS ?_)
  have hq := q4 hrr false (by simp only [r10_Valid, h5, h8, cs4]); subst hq
  exact Kr () rfl (.tmp rfl .nil) [] trivial
 intro h8
 have g10 := df h8
 refine Oq Vm (Oq Vlss (Oq Vpf (Oq Vm ?_)))
 refine Js 21 ?_ ?_
 ·intro h11
  have g12 := dt h11
  refine Osk (Osk (Oq Vpt (Oq Vm (Osk (Osk (Osk (Osk (Osk (Oq Vpt ?_)))))))))
  refine Oq Vm (Osk (Osk (Osk (Osk (Osk (Oq Vpt (KS ?_)))))))
  refine Kt (KS ?_)
  refine Oq Va (KS ?_)
  have hq := q4 hrr false (by simp only [r10_Valid, h5, h8, h11, cs4]); subst hq
  exact Kr () rfl (.tmp rfl .nil) [] trivial
 intro h11
 have g13 := df h11
 refine Oq Vm (Oq Vgtr (Oq Vpf (Oq Vm ?_)))
 refine Js 25 ?_ ?_
 ·intro h14
  have g15 := dt h14
  refine Osk (Osk (Osk (Osk (Osk (Oq Vpt (Oq Vm (Osk (Osk (Osk ?_)))))))))
  refine Osk (Osk (Oq Vpt (KS ?_)))
  refine Kt (KS ?_)
  refine Oq Va (KS ?_)
  have hq := q4 hrr false (by simp only [r10_Valid, h5, h8, h11, h14, cs4]); subst hq
  exact Kr () rfl (.tmp rfl .nil) [] trivial
 intro h14
 have g16 := df h14
 refine Oq (Vfa fo27_1 0) (Oq (VldF sh23 0) (Oq (Vlen sl23) (Oq Vm (Oq Vneq (Oq Vpf (Oq Vm ?_))))))
 refine Js 32 ?_ ?_
 ·intro h17
  have g18 := ne_of_bne h17
  refine Osk (Osk (Osk (Osk (Osk (Oq Vpt (KS ?_))))))
  refine Kt (KS ?_)
  refine Oq Va (KS ?_)
  have hq := q4 hrr false (by simp only [r10_Valid, h5, h8, h11, h14, h17, cs4]); subst hq
  exact Kr () rfl (.tmp rfl .nil) [] trivial
 intro h17
 have g19 := eq_of_bne_false h17
 refine Oq (Vfa fo27_2 0) (Oq (VldF sh24 0) (Oq (Vlen sl24) (Oq Vm (Oq Vneq (Oq Vpf (KS ?_))))))
 refine Kc ?_ ?_
 ·intro h20
  have g21 := ne_of_bne h20
  refine KS ?_
  refine Oq Va (KS ?_)
  have hq := q4 hrr false (by simp only [r10_Valid, h5, h8, h11, h14, h17, h20, cs4]); subst hq
  exact Kr () rfl (.tmp rfl .nil) [] trivial
 intro h20
 have g22 := eq_of_bne_false h20
 refine KS ?_
 refine Oq Va (KS ?_)
 refine Oq Va (KS ?_)
 refine Kl (γ := Nat × Int × Int) (fun (r23, edges_24, i_25) => ⟨[(1, p4), (3, vi (s.Boundary.length : Int)), (4, vi edges_24), (5, vi i_25)], [pv p4 [vi s.Width, vl sa1 sk1 s.Deps, vl sa2 sk2 s.Transfers, vl sa3 sk3 s.Boundary], S sa1 sk1 s.Deps, S sa2 sk2 s.Transfers, S sa3 sk3 s.Boundary], r10_Valid_L0 s r23 edges_24 i_25 = r10_Valid_L0 s (((s.Boundary.length : Int) - 0).toNat) 0 0 ∧ r23 = ((s.Boundary.length : Int) - i_25).toNat ∧ (0 : Int) ≤ i_25 ∧ i_25 ≤ (s.Boundary.length : Int) ∧ (-9223372036854775808 ≤ edges_24 ∧ edges_24 ≤ 9223372036854775807) ∧ (-9223372036854775808 ≤ i_25 ∧ i_25 ≤ 9223372036854775807) ∧ 0 ≤ edges_24 ∧ edges_24 ≤ i_25 * 17592186044416, r23⟩) (((s.Boundary.length : Int) - 0).toNat, 0, 0) [0, 1, 2, 3] ⟨rfl, rfl, aM1, aM1, aM1, aM1, iv0⟩ ?_
 rintro ⟨r23, edges_24, i_25⟩ ⟨hM26, hr27, hi28, hi29, hk30, hk31, hv32⟩
 refine JJ_nx fun _ _ hL hA => ?_; dsimp only at hL hA; subst hL hA
 refine Fb 24 1 fun _ => Fb 88 2 fun _ => Fb 32 3 fun _ => KS ?_
 refine Oq Vm (Oq Vm (Oq Vlss (KS ?_)))
 refine Kc ?_ ?_
 ·intro h36
  have g37 := dt h36
  obtain ⟨r38, rfl⟩ := scc (n := r23) aM1
  refine KS ?_
  refine JJ_peekL i_25.toNat 1 rfl rng fun a39 k40 => ?_
  refine Fb 8 1 fun _ => Fo 1 fun ho42 => ?_
  refine letv (r7_Rising (s.Deps.getD i_25.toNat []) (s.Boundary.length : Int)) fun rv43 hg44 => ?_
  refine bool_split (!rv43) ?_ ?_
  ·intro h45
   have h47 := not_true h45
   refine JK_drawK [0, 1, 0, 7, 15, 0, 63, 127, 255, 511, 1023, 511, 4095, 8191, 16383, 32767, 65535, 131071, 262143, 524287, 262143, 2097151, 4194303, 8388607, 16777215, 262143, 33816575, 134217727, 268435455, 536870911, 1073741823, 2147483647, 1073741823, 8589934591, 17179869183, 34359738367, 68719476735, 137438953471, 274877906943, 549755813887, 1099511627775, 549755813887, 4398046511103, 8796093022207, 17592186044415, 549755813887, 35734127902719, 140737488355327, 281474976710655] fmix ?_
   refine Dv [2] (Vfa fo27_1 0) (Dv [2] (VldF sh23 0) (Dv [] Vm (Dv [3] (Vi sl23 0) (Dv [0] (Vld sh22 0) (Dv [] Vm (Dx [1] [] [1, 0] (fun G => vb rv43) [fun G => SP.fact (True)] (fun G => xC [0] ca67 (fn67 ((s.Deps.getD i_25.toNat [])) a39 k40 ((s.Boundary.length : Int)) pre rv43 hg44)) (Db h45 [] Vnot (Dv [] Vm (Ds ?_)))))))))
   refine Ds (Ds (Ds (Ds (Ds (Ds (Dv [] Vpt (Dv [] Vm (Ds (Ds ?_)))))))))
   refine Ds (Ds (Ds (Ds (Ds (Ds (Ds (Ds (Dv [] Vpt (Dv [] Vm ?_)))))))))
   refine Ds (Ds (Ds (Ds (Ds (Ds (Ds (Dv [] Vpt (Dv [] Vm (Ds ?_)))))))))
   refine Ds (Ds (Ds (Ds (Ds (Ds (Ds (Ds (Dv [] Vpt ?_))))))))
   refine Dn ⟨by kernel_rfl, fun G => ?_⟩
   refine Jw2 [(1, p4), (3, vi (s.Boundary.length : Int)), (4, vi edges_24), (5, vi i_25), (92, vb true)] [0, 1, 2, 3, 4, 5] [SP.fact (True)] ?_
   refine Jk [0, 1, 2, 3, 4, 5] (Kt ?_)
   refine KS ?_
   refine Oq Va (KS ?_)
   have hR49 := q2 hM26 (.ret false) (by simp only [r10_Valid_L0, h36, h45, h47, hg44, cs4])
   have hq := q4 hrr false (by simp only [r10_Valid, h5, h8, h11, h14, h17, h20, h36, h45, h47, hg44, hR49, cs4]); subst hq
   exact Kr () rfl (.tmp rfl .nil) [] trivial
  intro h45
  have h51 := not_false h45
  refine JJ_peek_GTransfer i_25.toNat 4 rfl rng fun a53 k54 a55 k56 a57 k58 hb59 hb60 => ?_
  unfold i64ok at hb59 hb60
  refine Fb 8 1 fun _ => Fb 8 2 fun _ => Fb 16 3 fun _ => ?_
  refine letv (r1_ValidTransfer (s.Transfers.getD i_25.toNat default)) fun rv64 hg65 => ?_
  refine bool_split (!rv64) ?_ ?_
  ·intro h66
   have h68 := not_true h66
   refine JK_drawK [0, 1, 0, 7, 15, 0, 63, 127, 255, 511, 1023, 511, 4095, 8191, 16383, 32767, 65535, 131071, 262143, 524287, 262143, 2097151, 4194303, 8388607, 16777215, 262143, 33816575, 134217727, 268435455, 536870911, 1073741823, 2147483647, 1073741823, 8589934591, 17179869183, 34359738367, 68719476735, 137438953471, 274877906943, 549755813887, 1099511627775, 549755813887, 4398046511103, 8796093022207, 17592186044415, 549755813887, 35734127902719, 140737488355327, 281474976710655] fmix ?_
   refine Dv [6] (Vfa fo27_1 0) (Dv [6] (VldF sh23 0) (Dv [] Vm (Dv [7] (Vi sl23 0) (Dv [4] (Vld sh22 0) (Dv [] Vm (Dx [5] [] [1, 0] (fun G => vb rv43) [fun G => SP.fact (True)] (fun G => xC [0] ca67 (fn67 ((s.Deps.getD i_25.toNat [])) a39 k40 ((s.Boundary.length : Int)) pre rv43 hg44)) (Db h45 [] Vnot (Dv [] Vm (Dv [6] (Vfa fo27_2 0) ?_)))))))))
   refine Dv [6] (VldF sh24 0) (Dv [] Vm (Dv [8] (Vi sl24 0) (Dv [0] (VldA sh65 0) (Dx [1, 2, 3] [] [1, 2, 3, 0] (fun G => vb rv64) [fun G => SP.fact (True)] (fun G => xC [0, 1, 2] ca68 (fn68 ((s.Transfers.getD i_25.toNat default)) a53 k54 a55 k56 a57 k58 pre pre rv64 hg65)) (Db h66 [] Vnot (Dv [] Vpf (Dv [] Vm (Ds (Ds ?_)))))))))
   refine Ds (Ds (Ds (Ds (Ds (Ds (Ds (Ds (Dv [] Vpt (Dv [] Vm ?_)))))))))
   refine Ds (Ds (Ds (Ds (Ds (Ds (Ds (Dv [] Vpt (Dv [] Vm (Ds ?_)))))))))
   refine Ds (Ds (Ds (Ds (Ds (Ds (Ds (Ds (Dv [] Vpt ?_))))))))
   refine Dn ⟨by kernel_rfl, fun G => ?_⟩
   refine Jw2 [(1, p4), (3, vi (s.Boundary.length : Int)), (4, vi edges_24), (5, vi i_25), (92, vb true)] [0, 1, 2, 3, 4, 5, 6, 7, 8, 9] [SP.fact (True), SP.fact (True)] ?_
   refine Jk [0, 1, 2, 3, 4, 5, 6, 7, 8, 9] (Kt ?_)
   refine KS ?_
   refine Oq Va (KS ?_)
   have hR70 := q2 hM26 (.ret false) (by simp only [r10_Valid_L0, h36, h45, h51, h66, h68, hg44, hg65, cs4])
   have hq := q4 hrr false (by simp only [r10_Valid, h5, h8, h11, h14, h17, h20, h36, h45, h51, h66, h68, hg44, hg65, hR70, cs4]); subst hq
   exact Kr () rfl (.tmp rfl .nil) [] trivial
  intro h66
  have h72 := not_false h66
  refine bool_split (((s.Transfers.getD i_25.toNat default).Gen).Width != s.Width) ?_ ?_
  ·intro h74
   have g75 := ne_of_bne h74
   refine JK_drawK [0, 1, 0, 7, 15, 0, 63, 127, 255, 511, 1023, 511, 4095, 8191, 16383, 32767, 65535, 131071, 262143, 524287, 262143, 2097151, 4194303, 8388607, 16777215, 262143, 33816575, 134217727, 268435455, 536870911, 1073741823, 2147483647, 1073741823, 8589934591, 17179869183, 34359738367, 68719476735, 137438953471, 274877906943, 549755813887, 1099511627775, 549755813887, 4398046511103, 8796093022207, 17592186044415, 549755813887, 35734127902719, 140737488355327, 281474976710655] fmix ?_
   refine Dv [6] (Vfa fo27_1 0) (Dv [6] (VldF sh23 0) (Dv [] Vm (Dv [7] (Vi sl23 0) (Dv [4] (Vld sh22 0) (Dv [] Vm (Dx [5] [] [1, 0] (fun G => vb rv43) [fun G => SP.fact (True)] (fun G => xC [0] ca67 (fn67 ((s.Deps.getD i_25.toNat [])) a39 k40 ((s.Boundary.length : Int)) pre rv43 hg44)) (Db h45 [] Vnot (Dv [] Vm (Dv [6] (Vfa fo27_2 0) ?_)))))))))
   refine Dv [6] (VldF sh24 0) (Dv [] Vm (Dv [8] (Vi sl24 0) (Dv [0] (VldA sh65 0) (Dx [1, 2, 3] [] [1, 2, 3, 0] (fun G => vb rv64) [fun G => SP.fact (True)] (fun G => xC [0, 1, 2] ca68 (fn68 ((s.Transfers.getD i_25.toNat default)) a53 k54 a55 k56 a57 k58 pre pre rv64 hg65)) (Db h66 [] Vnot (Dv [] Vpf (Dv [] Vm (Dv [6] (Vfa fo27_2 0) (Dv [6] (VldF sh24 0) ?_)))))))))
   refine Dv [] Vm (Dv [8] (Vi sl24 0) (Dv [0] (Vfa fo65_0 0) (Dv [0] (VfaF fo42_0 0) (Dv [0] (VldF sh3 0) (Dv [6] (Vfa fo27_0 0) (Dv [6] (VldF sh3 0) (Db h74 [] Vneq (Dv [] Vpf (Dv [] Vm ?_)))))))))
   refine Ds (Ds (Ds (Ds (Ds (Ds (Ds (Dv [] Vpt (Dv [] Vm (Ds ?_)))))))))
   refine Ds (Ds (Ds (Ds (Ds (Ds (Ds (Ds (Dv [] Vpt ?_))))))))
   refine Dn ⟨by kernel_rfl, fun G => ?_⟩
   refine Jw2 [(1, p4), (3, vi (s.Boundary.length : Int)), (4, vi edges_24), (5, vi i_25), (92, vb true)] [0, 1, 2, 3, 4, 5, 6, 7, 8, 9] [SP.fact (True), SP.fact (True)] ?_
   refine Jk [0, 1, 2, 3, 4, 5, 6, 7, 8, 9] (Kt ?_)
   refine KS ?_
   refine Oq Va (KS ?_)
   have hR76 := q2 hM26 (.ret false) (by simp only [r10_Valid_L0, h36, h45, h51, h66, h72, h74, hg44, hg65, cs4])
   have hq := q4 hrr false (by simp only [r10_Valid, h5, h8, h11, h14, h17, h20, h36, h45, h51, h66, h72, h74, hg44, hg65, hR76, cs4]); subst hq
   exact Kr () rfl (.tmp rfl .nil) [] trivial
  intro h74
  have g77 := eq_of_bne_false h74
  refine JJ_peek_GSet i_25.toNat 9 rfl rng fun a78 k79 hb80 => ?_
  unfold i64ok at hb80
  refine Fb 8 1 fun _ => ?_
  refine JK_drawK [0, 1, 0, 7, 15, 0, 63, 127, 255, 511, 1023, 511, 4095, 8191, 16383, 32767, 65535, 131071, 262143, 524287, 262143, 2097151, 4194303, 8388607, 16777215, 262143, 33816575, 134217727, 268435455, 536870911, 1073741823, 2147483647, 1073741823, 8589934591, 17179869183, 34359738367, 68719476735, 137438953471, 274877906943, 549755813887, 1099511627775, 549755813887, 4398046511103, 8796093022207, 17592186044415, 549755813887, 35734127902719, 140737488355327, 281474976710655] fmix ?_
  refine Dv [8] (Vfa fo27_1 0) (Dv [8] (VldF sh23 0) (Dv [] Vm (Dv [9] (Vi sl23 0) (Dv [6] (Vld sh22 0) (Dv [] Vm (Dx [7] [] [1, 0] (fun G => vb rv43) [fun G => SP.fact (True)] (fun G => xC [0] ca67 (fn67 ((s.Deps.getD i_25.toNat [])) a39 k40 ((s.Boundary.length : Int)) pre rv43 hg44)) (Db h45 [] Vnot (Dv [] Vm (Dv [8] (Vfa fo27_2 0) ?_)))))))))
  refine Dv [8] (VldF sh24 0) (Dv [] Vm (Dv [10] (Vi sl24 0) (Dv [2] (VldA sh65 0) (Dx [3, 4, 5] [] [1, 2, 3, 0] (fun G => vb rv64) [fun G => SP.fact (True)] (fun G => xC [0, 1, 2] ca68 (fn68 ((s.Transfers.getD i_25.toNat default)) a53 k54 a55 k56 a57 k58 pre pre rv64 hg65)) (Db h66 [] Vnot (Dv [] Vpf (Dv [] Vm (Dv [8] (Vfa fo27_2 0) (Dv [8] (VldF sh24 0) ?_)))))))))
  refine Dv [] Vm (Dv [10] (Vi sl24 0) (Dv [2] (Vfa fo65_0 0) (Dv [2] (VfaF fo42_0 0) (Dv [2] (VldF sh3 0) (Dv [8] (Vfa fo27_0 0) (Dv [8] (VldF sh3 0) (Db h74 [] Vneq (Dv [] Vpf (Dv [] Vm ?_)))))))))
  refine Dv [8] (Vfa fo27_3 0) (Dv [8] (VldF sh25 0) (Dv [] Vm (Dv [11] (Vi sl25 0) (Dv [0] (VldA sh42 0) ?_))))
  refine letv (r1_Valid (s.Boundary.getD i_25.toNat default)) fun rv82 hg83 => ?_
  refine Dx [1] [] [1, 0] (fun G => vb rv82) [fun G => SP.fact (True)] (fun G => xC [0] ca53 (fn53 ((s.Boundary.getD i_25.toNat default)) a78 k79 pre rv82 hg83)) (Dv [] Vnot (Dv [] Vpf ?_))
  refine bool_split (!rv82) ?_ ?_
  ·intro h84
   have h86 := not_true h84
   refine Db h84 [] Vm (Ds (Ds (Ds (Ds (Ds (Ds (Ds (Ds (Ds ?_)))))))))
   refine Dv [] Vpt ?_
   refine Dn ⟨by kernel_rfl, fun G => ?_⟩
   refine Jw2 [(1, p4), (3, vi (s.Boundary.length : Int)), (4, vi edges_24), (5, vi i_25), (92, vb true)] [0, 1, 2, 3, 4, 5, 6, 7, 8, 9, 10, 11] [SP.fact (True), SP.fact (True), SP.fact (True)] ?_
   refine Jk [0, 1, 2, 3, 4, 5, 6, 7, 8, 9, 10, 11] (Kt ?_)
   refine KS ?_
   refine Oq Va (KS ?_)
   have hR88 := q2 hM26 (.ret false) (by simp only [r10_Valid_L0, h36, h45, h51, h66, h72, h74, h84, h86, hg44, hg65, hg83, cs4])
   have hq := q4 hrr false (by simp only [r10_Valid, h5, h8, h11, h14, h17, h20, h36, h45, h51, h66, h72, h74, h84, h86, hg44, hg65, hg83, hR88, cs4]); subst hq
   exact Kr () rfl (.tmp rfl .nil) [] trivial
  intro h84
  have h90 := not_false h84
  refine Db h84 [] Vm (Dv [8] (Vfa fo27_3 0) (Dv [8] (VldF sh25 0) (Dv [] Vm (Dv [11] (Vi sl25 0) (Dv [0] (Vfa fo42_0 0) (Dv [0] (VldF sh3 0) (Dv [8] (Vfa fo27_0 0) (Dv [8] (VldF sh3 0) (Dv [] Vneq ?_)))))))))
  refine Dv [] Vpf ?_
  refine Dn ⟨by kernel_rfl, fun G => ?_⟩
  refine Jw2 [(1, p4), (3, vi (s.Boundary.length : Int)), (4, vi edges_24), (5, vi i_25), (92, vb ((s.Boundary.getD i_25.toNat default).Width != s.Width))] [0, 1, 2, 3, 4, 5, 6, 7, 8, 9, 10, 11] [SP.fact (True), SP.fact (True), SP.fact (True)] ?_
  refine Jk [0, 1, 2, 3, 4, 5, 6, 7, 8, 9, 10, 11] ?_
  refine Kc ?_ ?_
  ·intro h92
   have g93 := ne_of_bne h92
   refine KS ?_
   refine Oq Va (KS ?_)
   have hR94 := q2 hM26 (.ret false) (by simp only [r10_Valid_L0, h36, h45, h51, h66, h72, h74, h84, h90, h92, hg44, hg65, hg83, cs4])
   have hq := q4 hrr false (by simp only [r10_Valid, h5, h8, h11, h14, h17, h20, h36, h45, h51, h66, h72, h74, h84, h90, h92, hg44, hg65, hg83, hR94, cs4]); subst hq
   exact Kr () rfl (.tmp rfl .nil) [] trivial
  intro h92
  have g95 := eq_of_bne_false h92
  refine KS ?_
  refine Oq Vm (Oq (Vfa fo27_1 8) (Oq (VldF sh23 8) (Oq Vm (Oq (Vi sl23 9) (Oq (Vld sh22 6) (Oq (Vlen sl22) (Oq Vadd (Oq Va (KS ?_)))))))))
  refine Oq Vm (Oq Vadd (Oq Va (KS ?_)))
  exact Kg (r38, (edges_24 + ((s.Deps.getD i_25.toNat []).length : Int)), (i_25 + 1)) [8, 9, 10, 11] ⟨(q3 hM26 (by simp only [r10_Valid_L0, h36, h45, h51, h66, h72, h74, h84, h90, h92, hg44, hg65, hg83, cs4])), aM1, aM1, aM1, aM1, aM1, iv1⟩
 intro h36
 have g96 := df h36
 obtain rfl : r23 = 0 := by omega
 refine Ke ?_
 have hR97 := q2 hM26 (.brk edges_24) (by simp only [r10_Valid_L0, h36, cs4])
 refine KS ?_
 refine Oq Vm (Oq Vleq (Oq Va (KS ?_)))
 have hq := q4 hrr (decide (edges_24 ≤ 1024)) (by simp only [r10_Valid, h5, h8, h11, h14, h17, h20, h36, hR97, cs4]); subst hq
 exact Kr () rfl (.tmp rfl .nil) [] trivial
theorem fn29 (width : Int) (hwidth_0 : i64ok width) (hw0 : 0 ≤ width ∧ width ≤ 1000000) (rr : GSet) (hrr : r1_Empty width = rr) : FT Tryz.prog 29 #[vi width] [] (fun g : Value => i64ok rr.Width ∧ (rr.Width = width) ∧ (rr.Words.length = (((width : Int) + 63) / 64).toNat)) (fun g => .agg #[vi rr.Width, g]) (fun g => [os g rr.Words]) := by
 refine FTi Tryz.func29 fun w0 M0 F0 => ?_
 unfold i64ok at hwidth_0
 refine KS ?_
 refine Oa (Al ze42 [vi 0, .slice none 0 0]) fun p1 => KS ?_
 refine Oq Vm (Oq Vm (Oq Vadd (Oq Vquo (Oa (Amk (α := BitVec 64) sl40 sz40 0#64 (fun _ _ => rfl)) fun c2 => ?_))))
 refine Jo 0 ?_; rintro a3 k4 rfl
 refine Fb 8 0 fun _ => ?_
 have hn6 := List.length_replicate (n := (((width + 63) / 64) : Int).toNat) (a := (0#64 : BitVec 64))
 refine Oq (Vbd st42 [vi width, vl a3 k4 (List.replicate (((width + 63) / 64) : Int).toNat 0#64)]) (Ost (Scl [1] sh42 [vi width, vl a3 k4 (List.replicate (((width + 63) / 64) : Int).toNat 0#64)]) (KS ?_))
 have hq := q4 hrr (GSet.mk width (List.replicate (((width + 63) / 64) : Int).toNat 0#64)) (by simp only [r1_Empty, cs4]); subst hq
 exact Kr (vl a3 k4 (List.replicate (((width + 63) / 64) : Int).toNat 0#64)) rfl (.cellN 0 rfl sh42 rfl (reads_Cl _ _) rfl .nil) [1] en
theorem fn37 (s : GSystem) (sa1 : Option Addr) (sk1 : Nat) (sa2 : Option Addr) (sk2 : Nat) (sa3 : Option Addr) (sk3 : Nat) (hs_0 : i64ok s.Width) (hw0 : 0 ≤ s.Width ∧ s.Width ≤ 1000) (rr : List GSet) (hrr : r10_Empty s = rr) : FT Tryz.prog 37 #[.agg #[vi s.Width, vl sa1 sk1 s.Deps, vl sa2 sk2 s.Transfers, vl sa3 sk3 s.Boundary]] [S sa1 sk1 s.Deps, S sa2 sk2 s.Transfers, S sa3 sk3 s.Boundary] (fun g : Value => (rr.length = s.Boundary.length)) (fun g => g) (fun g => [sl g rr]) := by
 refine FTi Tryz.func37 fun w0 M0 F0 => ?_
 unfold i64ok at hs_0
 refine Fb 24 0 fun _ => Fb 88 1 fun _ => Fb 32 2 fun _ => KS ?_
 refine Oa (Ab [vi s.Width, vl sa1 sk1 s.Deps, vl sa2 sk2 s.Transfers, vl sa3 sk3 s.Boundary]) fun p4 => Oq Va (KS ?_)
 refine Oq Va (KS ?_)
 refine Oq Va (KS ?_)
 refine Jl [] (Ent.osNil (α := GSet)) ?_
 refine Kl (γ := Nat × List GSet × Int × Option Addr × Nat) (fun (r5, out_6, n_7, a8, k9) => ⟨[(1, p4), (3, vl a8 k9 out_6), (4, vi n_7)], [O a8 k9 out_6, pv p4 [vi s.Width, vl sa1 sk1 s.Deps, vl sa2 sk2 s.Transfers, vl sa3 sk3 s.Boundary], S sa1 sk1 s.Deps, S sa2 sk2 s.Transfers, S sa3 sk3 s.Boundary], r10_Empty_L0 s r5 out_6 n_7 = r10_Empty_L0 s (((s.Boundary.length : Int) - 0).toNat) [] 0 ∧ r5 = ((s.Boundary.length : Int) - n_7).toNat ∧ (0 : Int) ≤ n_7 ∧ n_7 ≤ (s.Boundary.length : Int) ∧ (-9223372036854775808 ≤ n_7 ∧ n_7 ≤ 9223372036854775807) ∧ (out_6.length : Int) = n_7, r5⟩) (((s.Boundary.length : Int) - 0).toNat, [], 0, none, 0) [0, 0, 1, 2, 3] ⟨rfl, rfl, aM1, aM1, aM1, iv0⟩ ?_
 rintro ⟨r5, out_6, n_7, a8, k9⟩ ⟨hM10, hr11, hi12, hi13, hk14, hv15⟩
 refine JJ_nx fun _ _ hL hA => ?_; dsimp only at hL hA; subst hL hA
 refine Fb 32 0 fun _ => Fb 24 2 fun _ => Fb 88 3 fun _ => Fb 32 4 fun _ => KS ?_
 refine Oq Vm (Oq (Vfa fo27_3 1) (Oq (VldF sh25 1) (Oq (Vlen sl25) (Oq Vlss (KS ?_)))))
 refine Kc ?_ ?_
 ·intro h20
  have g21 := dt h20
  obtain ⟨r22, rfl⟩ := scc (n := r5) aM1
  refine KS ?_
  refine Oq Vm (Oq (Vfa fo27_0 1) (Oq (VldF sh3 1) ?_))
  refine letv (r1_Empty s.Width) fun rv24 hg25 => ?_
  have hc26 := fn29 s.Width pre pre rv24 hg25
  refine Oc [] ca29 hc26 ?_
  rintro c23 ⟨he27, he28, he29⟩
  unfold i64ok at he27
  refine Jo 0 ?_; rintro a30 k31 rfl
  refine Fb 8 0 fun _ => Oa (AsV sl25 sz25 [.agg #[vi rv24.Width, vl a30 k31 rv24.Words]] [vi rv24.Width, vl a30 k31 rv24.Words]) fun c33 => ?_
  refine Jo 0 ?_; rintro a34 k35 rfl
  refine Jl [1] (Ent.freeze _ _) ?_
  refine Jl [1, 0] (Ent.cr1 (α := GSet) (A := [S a30 k31 rv24.Words]) _ rv24 _ aB1 (fun h => ⟨_, rfl, aL1, sepAll_get (i := 0) rfl h⟩)) ?_
  refine Oa (ApO [3, 0] sl25 sl25 sz25) fun c36 => ?_
  refine Jo 0 ?_; rintro a37 k38 rfl
  refine Fb 32 0 fun _ => ?_
  have hn40 := la out_6 ([rv24] : List GSet)
  refine Oq Va (KS ?_)
  refine Oq Vm (Oq Vadd (Oq Va (KS ?_)))
  exact Kg (r22, (out_6 ++ [rv24]), (n_7 + 1), a37, k38) [0, 2, 3, 4, 5] ⟨(q3 hM10 (by simp only [r10_Empty_L0, h20, hg25, cs4])), aM1, aM1, aM1, aM1, iv1⟩
 intro h20
 have g41 := df h20
 obtain rfl : r5 = 0 := by omega
 refine Ke ?_
 have hR42 := q2 hM10 out_6 (by simp only [r10_Empty_L0, h20, cs4])
 refine KS ?_
 refine Oq Vm (Oq Va (KS ?_))
 refine Jl [0] (Ent.freeze _ _) ?_
 have hq := q4 hrr out_6 (by simp only [r10_Empty, h20, hR42, cs4]); subst hq
 exact Kr (vl a8 k9 out_6) rfl (.tmp rfl .nil) [0] en
theorem fn81 (s : GSystem) (sa1 : Option Addr) (sk1 : Nat) (sa2 : Option Addr) (sk2 : Nat) (sa3 : Option Addr) (sk3 : Nat) (v : List GSet) (va0 : Option Addr) (vk0 : Nat) (hs_0 : i64ok s.Width) (rr : Int) (hrr : r10_values s v = rr) : FT Tryz.prog 81 #[.agg #[vi s.Width, vl sa1 sk1 s.Deps, vl sa2 sk2 s.Transfers, vl sa3 sk3 s.Boundary], vl va0 vk0 v] [S sa1 sk1 s.Deps, S sa2 sk2 s.Transfers, S sa3 sk3 s.Boundary, S va0 vk0 v] (fun g : Unit => i64ok rr) (fun g => vi rr) (fun g => []) := by
 refine FTi Tryz.func81 fun w0 M0 F0 => ?_
 unfold i64ok at hs_0
 refine Fb 24 0 fun _ => Fb 88 1 fun _ => Fb 32 2 fun _ => Fb 32 3 fun _ => KS ?_
 refine Oa (Ab [vi s.Width, vl sa1 sk1 s.Deps, vl sa2 sk2 s.Transfers, vl sa3 sk3 s.Boundary]) fun p5 => Oq Va (KS ?_)
 refine Oq Vm (Oq (Vlen sl25) (Oq (Vfa fo27_3 0) (Oq (VldF sh25 0) (Oq (Vlen sl25) (Oq Vneq (KS ?_))))))
 refine Kc ?_ ?_
 ·intro h6
  have g7 := ne_of_bne h6
  refine KS ?_
  refine Oq Va (KS ?_)
  have hq := q4 hrr 1 (by simp only [r10_values, h6, cs4]); subst hq
  exact Kr () rfl (.tmp rfl .nil) [] en
 intro h6
 have g8 := eq_of_bne_false h6
 refine KS ?_
 refine Oq Va (KS ?_)
 refine Kl (γ := Nat × Int) (fun (r9, i_10) => ⟨[(1, vl va0 vk0 v), (2, p5), (5, vi i_10)], [pv p5 [vi s.Width, vl sa1 sk1 s.Deps, vl sa2 sk2 s.Transfers, vl sa3 sk3 s.Boundary], S sa1 sk1 s.Deps, S sa2 sk2 s.Transfers, S sa3 sk3 s.Boundary, S va0 vk0 v], r10_values_L0 v r9 i_10 = r10_values_L0 v (((v.length : Int) - 0).toNat) 0 ∧ r9 = ((v.length : Int) - i_10).toNat ∧ (0 : Int) ≤ i_10 ∧ i_10 ≤ (v.length : Int) ∧ (-9223372036854775808 ≤ i_10 ∧ i_10 ≤ 9223372036854775807), r9⟩) (((v.length : Int) - 0).toNat, 0) [0, 1, 2, 3, 4] ⟨rfl, rfl, aM1, aM1, aM1⟩ ?_
 rintro ⟨r9, i_10⟩ ⟨hM11, hr12, hi13, hi14, hk15⟩
 refine JJ_nx fun _ _ hL hA => ?_; dsimp only at hL hA; subst hL hA
 refine Fb 24 1 fun _ => Fb 88 2 fun _ => Fb 32 3 fun _ => Fb 32 4 fun _ => KS ?_
 refine Oq Vm (Oq Vm (Oq (Vlen sl25) (Oq Vlss (KS ?_))))
 refine Kc ?_ ?_
 ·intro h20
  have g21 := dt h20
  obtain ⟨r22, rfl⟩ := scc (n := r9) aM1
  refine KS ?_
  refine Oq Vm (Oq Vm (Oq (Vi sl25 4) ?_))
  refine JJ_peek_GSet i_10.toNat 4 rfl rng fun a23 k24 hb25 => ?_
  unfold i64ok at hb25
  refine Fb 8 1 fun _ => Oq (VldA sh42 0) ?_
  refine letv (r1_Valid (v.getD i_10.toNat default)) fun rv27 hg28 => ?_
  have hc29 := fn53 ((v.getD i_10.toNat default)) a23 k24 pre rv27 hg28
  refine Oc [1] ca53 hc29 ?_
  rintro - -
  refine Oq Vnot (KS ?_)
  refine Kc ?_ ?_
  ·intro h30
   have h32 := not_true h30
   refine KS ?_
   refine Oq Va (KS ?_)
   have hR34 := q2 hM11 (.ret 1) (by simp only [r10_values_L0, h20, h30, h32, hg28, cs4])
   have hq := q4 hrr 1 (by simp only [r10_values, h6, h20, h30, h32, hg28, hR34, cs4]); subst hq
   exact Kr () rfl (.tmp rfl .nil) [] en
  intro h30
  have h36 := not_false h30
  refine KS ?_
  refine Oq Vm (Oq Vadd (Oq Va (KS ?_)))
  exact Kg (r22, (i_10 + 1)) [2, 3, 4, 5, 6] ⟨(q3 hM11 (by simp only [r10_values_L0, h20, h30, h36, hg28, cs4])), aM1, aM1, aM1, aM1⟩
 intro h20
 have g38 := df h20
 obtain rfl : r9 = 0 := by omega
 refine Ke ?_
 have hR39 := q2 hM11 (.brk ()) (by simp only [r10_values_L0, h20, cs4])
 refine KS ?_
 refine Oq Va (KS ?_)
 refine Kl (γ := Nat × Int) (fun (r40, i_41) => ⟨[(1, vl va0 vk0 v), (2, p5), (6, vi i_41)], [pv p5 [vi s.Width, vl sa1 sk1 s.Deps, vl sa2 sk2 s.Transfers, vl sa3 sk3 s.Boundary], S sa1 sk1 s.Deps, S sa2 sk2 s.Transfers, S sa3 sk3 s.Boundary, S va0 vk0 v], r10_values_L1 s v r40 i_41 = r10_values_L1 s v (((v.length : Int) - 0).toNat) 0 ∧ r40 = ((v.length : Int) - i_41).toNat ∧ (0 : Int) ≤ i_41 ∧ i_41 ≤ (v.length : Int) ∧ (-9223372036854775808 ≤ i_41 ∧ i_41 ≤ 9223372036854775807), r40⟩) (((v.length : Int) - 0).toNat, 0) [0, 1, 2, 3, 4] ⟨rfl, rfl, aM1, aM1, aM1⟩ ?_
 rintro ⟨r40, i_41⟩ ⟨hM42, hr43, hi44, hi45, hk46⟩
 refine JJ_nx fun _ _ hL hA => ?_; dsimp only at hL hA; subst hL hA
 refine Fb 24 1 fun _ => Fb 88 2 fun _ => Fb 32 3 fun _ => Fb 32 4 fun _ => KS ?_
 refine Oq Vm (Oq Vm (Oq (Vlen sl25) (Oq Vlss (KS ?_))))
 refine Kc ?_ ?_
 ·intro h51
  have g52 := dt h51
  obtain ⟨r53, rfl⟩ := scc (n := r40) aM1
  refine KS ?_
  refine JJ_peek_GSet i_41.toNat 4 rfl rng fun a54 k55 hb56 => ?_
  unfold i64ok at hb56
  refine Fb 8 1 fun _ => ?_
  refine Kq [0, 0, 3, 7, 15, 0, 32, 127] fmix ?_
  refine Qv [] Vm (Qv [] Vm (Qv [6] (Vi sl25 0) (Qv [0] (Vfa fo42_0 0) (Qv [0] (VldF sh3 0) (Qv [2] (Vfa fo27_0 0) (Qv [2] (VldF sh3 0) (Qv [] Vneq ?_)))))))
  refine Qn ⟨by kernel_rfl, ?_⟩
  refine Kc ?_ ?_
  ·intro h58
   have g59 := ne_of_bne h58
   refine KS ?_
   refine Oq Va (KS ?_)
   have hR60 := q2 hM42 (.ret 2) (by simp only [r10_values_L1, h51, h58, cs4])
   have hq := q4 hrr 2 (by simp only [r10_values, h6, h20, h51, h58, hR39, hR60, cs4]); subst hq
   exact Kr () rfl (.tmp rfl .nil) [] en
  intro h58
  have g61 := eq_of_bne_false h58
  refine KS ?_
  refine Oq Vm (Oq Vadd (Oq Va (KS ?_)))
  exact Kg (r53, (i_41 + 1)) [2, 3, 4, 5, 6] ⟨(q3 hM42 (by simp only [r10_values_L1, h51, h58, cs4])), aM1, aM1, aM1, aM1⟩
 intro h51
 have g62 := df h51
 obtain rfl : r40 = 0 := by omega
 refine Ke ?_
 have hR63 := q2 hM42 (.brk ()) (by simp only [r10_values_L1, h51, cs4])
 refine KS ?_
 refine Oq Va (KS ?_)
 have hq := q4 hrr 0 (by simp only [r10_values, h6, h20, h51, hR39, hR63, cs4]); subst hq
 exact Kr () rfl (.tmp rfl .nil) [] en
theorem fn21 (s : GSet) (sa1 : Option Addr) (sk1 : Nat) (b : Int) (hs_0 : i64ok s.Width) (hb_0 : i64ok b) (rr : Bool) (hrr : r1_Has s b = rr) : FT Tryz.prog 21 #[.agg #[vi s.Width, vl sa1 sk1 s.Words], vi b] [S sa1 sk1 s.Words] (fun g : Unit => True) (fun g => vb rr) (fun g => []) := by
 refine FTi Tryz.func21 fun w0 M0 F0 => ?_
 unfold i64ok at hs_0 hb_0
 refine Fb 8 0 fun _ => KS ?_
 refine Oa (Ab [vi s.Width, vl sa1 sk1 s.Words]) fun p2 => Oq Va (KS ?_)
 refine Oq (VldA sh42 0) ?_
 refine letv (r1_Valid s) fun rv3 hg4 => ?_
 have hc5 := fn53 s sa1 sk1 pre rv3 hg4
 refine Oc [1] ca53 hc5 ?_
 rintro - -
 refine Oq Vm ?_
 refine Js 7 ?_ ?_
 ·intro h6
  try have hrg := RV_w (s := s) (by simp only [h6, hg4])
  refine Oq Vm (Oq Vgeq (Oq Vpt (Oq Vm ?_)))
  refine Js 11 ?_ ?_
  ·intro h8
   have g9 := dt h8
   refine Oq Vm (Oq (Vfa fo42_0 0) (Oq (VldF sh3 0) (Oq Vlss (Oq Vpt (Oq Vm ?_)))))
   refine Js 17 ?_ ?_
   ·intro h10
    have g11 := dt h10
    refine Oq (Vfa fo42_1 0) (Oq (VldF sh40 0) (Oq Vm (Oq Vquo (Oq (Vi sl40 1) (Oq (VldU sh91 1) (Oq Vm (Oq Vrem (Oq (VcU un3 un92) (Oq VshrU ?_)))))))))
    refine Oq (VandU (b := 1#64)) (Oq (VeqlU (b := 1#64)) (Oq Vpt (Oq Va (KS ?_))))
    have hq := q4 hrr ((((s.Words.getD ((b / 64) : Int).toNat 0#64) >>> (((BitVec.ofInt 64 (b % 64)).toNat : Int)).toNat) &&& 1#64) == 1#64) (by simp only [r1_Has, h6, h8, h10, hg4, cs4]); subst hq
    exact Kr () rfl (.tmp rfl .nil) [] trivial
   intro h10
   have g12 := df h10
   refine Osk (Osk (Osk (Osk (Osk (Osk (Osk (Osk (Osk (Osk ?_)))))))))
   refine Osk (Osk (Oq Vpf (Oq Va (KS ?_))))
   have hq := q4 hrr false (by simp only [r1_Has, h6, h8, h10, hg4, cs4]); subst hq
   exact Kr () rfl (.tmp rfl .nil) [] trivial
  intro h8
  have g13 := df h8
  refine Osk (Osk (Osk (Osk (Oq Vpf (Oq Vm (Osk (Osk (Osk (Osk ?_)))))))))
  refine Osk (Osk (Osk (Osk (Osk (Osk (Osk (Osk (Oq Vpf (Oq Va ?_)))))))))
  refine KS ?_
  have hq := q4 hrr false (by simp only [r1_Has, h6, h8, hg4, cs4]); subst hq
  exact Kr () rfl (.tmp rfl .nil) [] trivial
 intro h6
 refine Osk (Osk (Oq Vpf (Oq Vm (Osk (Osk (Osk (Osk (Oq Vpf (Oq Vm ?_)))))))))
 refine Osk (Osk (Osk (Osk (Osk (Osk (Osk (Osk (Osk (Osk ?_)))))))))
 refine Osk (Osk (Oq Vpf (Oq Va (KS ?_))))
 have hq := q4 hrr false (by simp only [r1_Has, h6, hg4, cs4]); subst hq
 exact Kr () rfl (.tmp rfl .nil) [] trivial
theorem fn106 (t : GTransfer) (ta1 : Option Addr) (tk1 : Nat) (ta3 : Option Addr) (tk3 : Nat) (ta4 : Option Addr) (tk4 : Nat) (a : Int) (b : Int) (ht_0 : i64ok t.Gen.Width) (ht_2 : i64ok t.Kill.Width) (ha_0 : i64ok a) (hb_0 : i64ok b) (rr : Bool) (hrr : r1_follows t a b = rr) : FT Tryz.prog 106 #[.agg #[vi t.Gen.Width, vl ta1 tk1 t.Gen.Words, vi t.Kill.Width, vl ta3 tk3 t.Kill.Words, vl ta4 tk4 t.Copies], vi a, vi b] [S ta1 tk1 t.Gen.Words, S ta3 tk3 t.Kill.Words, S ta4 tk4 t.Copies] (fun g : Unit => True) (fun g => vb rr) (fun g => []) := by
 refine FTi Tryz.func106 fun w0 M0 F0 => ?_
 unfold i64ok at ht_0 ht_2 ha_0 hb_0
 refine Fb 8 0 fun _ => Fb 8 1 fun _ => Fb 16 2 fun _ => KS ?_
 refine Oa (Ab [vi t.Gen.Width, vl ta1 tk1 t.Gen.Words, vi t.Kill.Width, vl ta3 tk3 t.Kill.Words, vl ta4 tk4 t.Copies]) fun p4 => Oq Va (KS ?_)
 refine Oq Vm (Oq Vm (Oq Veql (Oq Vm ?_)))
 refine Js 11 ?_ ?_
 ·intro h5
  have g6 := eq_of_beq h5
  refine Oq (Vfa fo65_1 0) (Oq (VldG sh42 0 [vi t.Kill.Width, vl ta3 tk3 t.Kill.Words]) (Oq Vm ?_))
  refine letv (r1_Has t.Kill a) fun rv7 hg8 => ?_
  have hc9 := fn21 t.Kill ta3 tk3 a pre pre rv7 hg8
  refine Oc [2] ca21 hc9 ?_
  rintro - -
  refine Oq Vnot (Oq Vpt (KS ?_))
  refine Kc ?_ ?_
  ·intro h10
   have h12 := not_true h10
   refine KS ?_
   refine Oq Va (KS ?_)
   have hq := q4 hrr true (by simp only [r1_follows, h5, h10, h12, hg8, cs4]); subst hq
   exact Kr () rfl (.tmp rfl .nil) [] trivial
  intro h10
  have h15 := not_false h10
  refine KS ?_
  refine Oq Va (KS ?_)
  refine Kl (γ := Nat × Int) (fun (r17, i_18) => ⟨[(1, vi a), (2, vi b), (3, p4), (7, vi i_18)], [pv p4 [vi t.Gen.Width, vl ta1 tk1 t.Gen.Words, vi t.Kill.Width, vl ta3 tk3 t.Kill.Words, vl ta4 tk4 t.Copies], S ta1 tk1 t.Gen.Words, S ta3 tk3 t.Kill.Words, S ta4 tk4 t.Copies], r1_follows_L0 t a b r17 i_18 = r1_follows_L0 t a b (((t.Copies.length : Int) - 0).toNat) 0 ∧ r17 = ((t.Copies.length : Int) - i_18).toNat ∧ (0 : Int) ≤ i_18 ∧ i_18 ≤ (t.Copies.length : Int) ∧ (-9223372036854775808 ≤ i_18 ∧ i_18 ≤ 9223372036854775807), r17⟩) (((t.Copies.length : Int) - 0).toNat, 0) [0, 1, 2, 3] ⟨rfl, rfl, aM1, aM1, aM1⟩ ?_
  rintro ⟨r17, i_18⟩ ⟨hM19, hr20, hi21, hi22, hk23⟩
  refine JJ_nx fun _ _ hL hA => ?_; dsimp only at hL hA; subst hL hA
  refine Fb 8 1 fun _ => Fb 8 2 fun _ => Fb 16 3 fun _ => KS ?_
  refine Oq Vm (Oq (Vfa fo65_2 0) (Oq (VldF sh63 0) (Oq (Vlen sl63) (Oq Vlss (KS ?_)))))
  refine Kc ?_ ?_
  ·intro h27
   have g28 := dt h27
   obtain ⟨r29, rfl⟩ := scc (n := r17) aM1
   refine KS ?_
   refine Oq (Vfa fo65_2 0) (Oq (VldF sh63 0) (Oq Vm (Oq (Vi sl63 3) ?_)))
   refine JJ_peek_GCopy i_18.toNat 3 rfl rng fun hb30 hb31 => ?_
   unfold i64ok at hb30 hb31
   refine Oq (Vfa fo105_0 0) (Oq (VldF sh3 0) (Oq Vm (Oq Veql (Oq Vm ?_))))
   refine Js 33 ?_ ?_
   ·intro h32
    have g33 := eq_of_beq h32
    refine Oq (Vfa fo65_2 1) (Oq (VldF sh63 1) (Oq Vm (Oq (Vi sl63 4) (Oq (Vfa fo105_1 0) (Oq (VldF sh3 0) (Oq Vm (Oq Veql (Oq Vpt (KS ?_)))))))))
    refine Kc ?_ ?_
    ·intro h34
     have g35 := eq_of_beq h34
     refine KS ?_
     refine Oq Va (KS ?_)
     have hR36 := q2 hM19 (.ret true) (by simp only [r1_follows_L0, h27, h32, h34, cs4])
     have hq := q4 hrr true (by simp only [r1_follows, h5, h10, h15, h27, h32, h34, hg8, hR36, cs4]); subst hq
     exact Kr () rfl (.tmp rfl .nil) [] trivial
    intro h34
    have g37 := ne_of_beq_false h34
    refine KS ?_
    refine Oq Vm (Oq Vadd (Oq Va (KS ?_)))
    exact Kg (r29, (i_18 + 1)) [1, 2, 3, 4] ⟨(q3 hM19 (by simp only [r1_follows_L0, h27, h32, h34, cs4])), aM1, aM1, aM1, aM1⟩
   intro h32
   have g38 := ne_of_beq_false h32
   refine Osk (Osk (Osk (Osk (Osk (Osk (Osk (Osk (Oq Vpf (KS ?_)))))))))
   refine Kf (KS ?_)
   refine Oq Vm (Oq Vadd (Oq Va (KS ?_)))
   exact Kg (r29, (i_18 + 1)) [1, 2, 3, 4] ⟨(q3 hM19 (by simp only [r1_follows_L0, h27, h32, cs4])), aM1, aM1, aM1, aM1⟩
  intro h27
  have g39 := df h27
  obtain rfl : r17 = 0 := by omega
  refine Ke ?_
  have hR40 := q2 hM19 (.brk ()) (by simp only [r1_follows_L0, h27, cs4])
  refine KS ?_
  refine Oq Va (KS ?_)
  have hq := q4 hrr false (by simp only [r1_follows, h5, h10, h15, h27, hg8, hR40, cs4]); subst hq
  exact Kr () rfl (.tmp rfl .nil) [] trivial
 intro h5
 have g41 := ne_of_beq_false h5
 refine Osk (Osk (Osk (Osk (Osk (Oq Vpf (KS ?_))))))
 refine Kf (KS ?_)
 refine Oq Va (KS ?_)
 refine Kl (γ := Nat × Int) (fun (r42, i_43) => ⟨[(1, vi a), (2, vi b), (3, p4), (7, vi i_43)], [pv p4 [vi t.Gen.Width, vl ta1 tk1 t.Gen.Words, vi t.Kill.Width, vl ta3 tk3 t.Kill.Words, vl ta4 tk4 t.Copies], S ta1 tk1 t.Gen.Words, S ta3 tk3 t.Kill.Words, S ta4 tk4 t.Copies], r1_follows_L0 t a b r42 i_43 = r1_follows_L0 t a b (((t.Copies.length : Int) - 0).toNat) 0 ∧ r42 = ((t.Copies.length : Int) - i_43).toNat ∧ (0 : Int) ≤ i_43 ∧ i_43 ≤ (t.Copies.length : Int) ∧ (-9223372036854775808 ≤ i_43 ∧ i_43 ≤ 9223372036854775807), r42⟩) (((t.Copies.length : Int) - 0).toNat, 0) [0, 1, 2, 3] ⟨rfl, rfl, aM1, aM1, aM1⟩ ?_
 rintro ⟨r42, i_43⟩ ⟨hM44, hr45, hi46, hi47, hk48⟩
 refine JJ_nx fun _ _ hL hA => ?_; dsimp only at hL hA; subst hL hA
 refine Fb 8 1 fun _ => Fb 8 2 fun _ => Fb 16 3 fun _ => KS ?_
 refine Oq Vm (Oq (Vfa fo65_2 0) (Oq (VldF sh63 0) (Oq (Vlen sl63) (Oq Vlss (KS ?_)))))
 refine Kc ?_ ?_
 ·intro h52
  have g53 := dt h52
  obtain ⟨r54, rfl⟩ := scc (n := r42) aM1
  refine KS ?_
  refine Oq (Vfa fo65_2 0) (Oq (VldF sh63 0) (Oq Vm (Oq (Vi sl63 3) ?_)))
  refine JJ_peek_GCopy i_43.toNat 3 rfl rng fun hb55 hb56 => ?_
  unfold i64ok at hb55 hb56
  refine Oq (Vfa fo105_0 0) (Oq (VldF sh3 0) (Oq Vm (Oq Veql (Oq Vm ?_))))
  refine Js 33 ?_ ?_
  ·intro h57
   have g58 := eq_of_beq h57
   refine Oq (Vfa fo65_2 1) (Oq (VldF sh63 1) (Oq Vm (Oq (Vi sl63 4) (Oq (Vfa fo105_1 0) (Oq (VldF sh3 0) (Oq Vm (Oq Veql (Oq Vpt (KS ?_)))))))))
   refine Kc ?_ ?_
   ·intro h59
    have g60 := eq_of_beq h59
    refine KS ?_
    refine Oq Va (KS ?_)
    have hR61 := q2 hM44 (.ret true) (by simp only [r1_follows_L0, h52, h57, h59, cs4])
    have hq := q4 hrr true (by simp only [r1_follows, h5, h52, h57, h59, hR61, cs4]); subst hq
    exact Kr () rfl (.tmp rfl .nil) [] trivial
   intro h59
   have g62 := ne_of_beq_false h59
   refine KS ?_
   refine Oq Vm (Oq Vadd (Oq Va (KS ?_)))
   exact Kg (r54, (i_43 + 1)) [1, 2, 3, 4] ⟨(q3 hM44 (by simp only [r1_follows_L0, h52, h57, h59, cs4])), aM1, aM1, aM1, aM1⟩
  intro h57
  have g63 := ne_of_beq_false h57
  refine Osk (Osk (Osk (Osk (Osk (Osk (Osk (Osk (Oq Vpf (KS ?_)))))))))
  refine Kf (KS ?_)
  refine Oq Vm (Oq Vadd (Oq Va (KS ?_)))
  exact Kg (r54, (i_43 + 1)) [1, 2, 3, 4] ⟨(q3 hM44 (by simp only [r1_follows_L0, h52, h57, cs4])), aM1, aM1, aM1, aM1⟩
 intro h52
 have g64 := df h52
 obtain rfl : r42 = 0 := by omega
 refine Ke ?_
 have hR65 := q2 hM44 (.brk ()) (by simp only [r1_follows_L0, h52, cs4])
 refine KS ?_
 refine Oq Va (KS ?_)
 have hq := q4 hrr false (by simp only [r1_follows, h5, h52, hR65, cs4]); subst hq
 exact Kr () rfl (.tmp rfl .nil) [] trivial
theorem fn41 (s : GSet) (sa1 : Option Addr) (sk1 : Nat) (b : Int) (hs_0 : i64ok s.Width) (hb_0 : i64ok b) (hb0 : 0 ≤ b ∧ b < s.Width) (hw0 : s.Width ≤ 1000000) (rr : GSet) (hrr : r1_Put s b = rr) : FT Tryz.prog 41 #[.agg #[vi s.Width, vl sa1 sk1 s.Words], vi b] [S sa1 sk1 s.Words] (fun g : Value => i64ok rr.Width ∧ (rr.Width = s.Width) ∧ (rr.Words.length = ((s.Width + 63) / 64).toNat)) (fun g => .agg #[vi rr.Width, g]) (fun g => [os g rr.Words]) := by
 refine FTi Tryz.func41 fun w0 M0 F0 => ?_
 unfold i64ok at hs_0 hb_0
 refine Fb 8 0 fun _ => KS ?_
 refine Oa (Ab [vi s.Width, vl sa1 sk1 s.Words]) fun p2 => Oa (Al ze42 [vi 0, .slice none 0 0]) fun p3 => KS ?_
 refine Oq (Vfa fo42_0 1) (Oq (VldF sh3 1) ?_)
 refine letv (r1_Empty s.Width) fun rv5 hg6 => ?_
 have hc7 := fn29 s.Width pre pre rv5 hg6
 refine Oc [] ca29 hc7 ?_
 rintro c4 ⟨he8, he9, he10⟩
 unfold i64ok at he8
 refine Jo 0 ?_; rintro a11 k12 rfl
 refine Fb 8 0 fun _ => ?_
 refine Oa (Al ze42 [vi 0, .slice none 0 0]) fun p14 => Ost (Scl [0] sh42 [vi rv5.Width, vl a11 k12 rv5.Words]) (KS ?_)
 refine Oq (Vfa fo42_1 0) (Oq (VldF sh40 0) (Oq (Vfa fo42_1 3) (Oq (VldF sh40 3) (Oa (OpA.frame [1, 3] rfl (OpA.copyS (α := BitVec 64) rfl rfl rfl sl40 rfl)) fun u15 => ?_))))
 have hn16 : (s.Words.take rv5.Words.length ++ rv5.Words.drop s.Words.length).length = rv5.Words.length := len_copy _ _
 refine KS ?_
 refine Oq (Vfa fo42_1 1) (Oq (VldF sh40 1) (Oq Vm (Oq Vquo (Oq (Vi sl40 0) (Oq (VldU sh91 0) (Oq Vm (Oq Vrem (Oq (VcU un3 un92) (Oq (VshlU (a := 1#64)) ?_)))))))))
 refine Oq VorU (Oq (Vi sl40 0) (Ost (SoU [0] sh91) (KS ?_)))
 refine Oq (VldA sh42 1) (Ost (Scl [2] sh42 [vi rv5.Width, vl a11 k12 rv5.Words]) (KS ?_))
 have hq := q4 hrr (GSet.mk rv5.Width ((s.Words.take rv5.Words.length ++ rv5.Words.drop s.Words.length).set ((b / 64) : Int).toNat (((s.Words.take rv5.Words.length ++ rv5.Words.drop s.Words.length).getD ((b / 64) : Int).toNat 0#64) ||| (1#64 <<< (((BitVec.ofInt 64 (b % 64)).toNat : Int)).toNat)))) (by simp only [r1_Put, hg6, cs4]); subst hq
 exact Kr (vl a11 k12 rv5.Words) rfl (.cellN 0 rfl sh42 rfl (reads_Cl _ _) rfl .nil) [1] en
theorem fn153 (t : GTransfer) (ta1 : Option Addr) (tk1 : Nat) (ta3 : Option Addr) (tk3 : Nat) (ta4 : Option Addr) (tk4 : Nat) (s : GSet) (sa1 : Option Addr) (sk1 : Nat) (ht_0 : i64ok t.Gen.Width) (ht_2 : i64ok t.Kill.Width) (hs_0 : i64ok s.Width) (ht : r1_ValidTransfer t = true) (hw : t.Gen.Width = s.Width) (rr : GSet) (hrr : r1_value t s = rr) : FT Tryz.prog 153 #[.agg #[vi t.Gen.Width, vl ta1 tk1 t.Gen.Words, vi t.Kill.Width, vl ta3 tk3 t.Kill.Words, vl ta4 tk4 t.Copies], .agg #[vi s.Width, vl sa1 sk1 s.Words]] [S ta1 tk1 t.Gen.Words, S ta3 tk3 t.Kill.Words, S ta4 tk4 t.Copies, S sa1 sk1 s.Words] (fun g : Value => i64ok rr.Width) (fun g => .agg #[vi rr.Width, g]) (fun g => [sl g rr.Words]) := by
 refine FTi Tryz.func153 fun w0 M0 F0 => ?_
 unfold i64ok at ht_0 ht_2 hs_0
 refine Fb 8 0 fun _ => Fb 8 1 fun _ => Fb 16 2 fun _ => Fb 8 3 fun _ => ?_
 have hvt := VT_w ht
 refine KS ?_
 refine Oa (Ab [vi t.Gen.Width, vl ta1 tk1 t.Gen.Words, vi t.Kill.Width, vl ta3 tk3 t.Kill.Words, vl ta4 tk4 t.Copies]) fun p5 => Oa (Ab [vi s.Width, vl sa1 sk1 s.Words]) fun p6 => Oa (Al ze42 [vi 0, .slice none 0 0]) fun p7 => KS ?_
 refine Oq (Vfa fo65_0 2) (Oq (VldG sh42 2 [vi t.Gen.Width, vl ta1 tk1 t.Gen.Words]) (Oa (Al ze42 [vi 0, .slice none 0 0]) fun p8 => Ost (Scl [0] sh42 [vi t.Gen.Width, vl ta1 tk1 t.Gen.Words]) (KS ?_)))
 refine Oq Va (KS ?_)
 refine Kl (γ := Nat × Int × List (BitVec 64) × Int × Option Addr × Nat) (fun (r9, out0_10, out1_11, a_12, a13, k14) => ⟨[(2, p5), (3, p6), (4, p7), (5, p8), (6, vi a_12)], [S a13 k14 out1_11, Cl p8 [vi out0_10, vl a13 k14 out1_11], Cl p7 [vi 0, .slice none 0 0], pv p6 [vi s.Width, vl sa1 sk1 s.Words], pv p5 [vi t.Gen.Width, vl ta1 tk1 t.Gen.Words, vi t.Kill.Width, vl ta3 tk3 t.Kill.Words, vl ta4 tk4 t.Copies], S ta1 tk1 t.Gen.Words, S ta3 tk3 t.Kill.Words, S ta4 tk4 t.Copies, S sa1 sk1 s.Words], r1_value_L0 t s r9 out0_10 out1_11 a_12 = r1_value_L0 t s (((s.Width : Int) - 0).toNat) t.Gen.Width t.Gen.Words 0 ∧ r9 = ((s.Width : Int) - a_12).toNat ∧ (0 : Int) ≤ a_12 ∧ (a_12 ≤ s.Width ∨ a_12 = 0) ∧ (-9223372036854775808 ≤ out0_10 ∧ out0_10 ≤ 9223372036854775807) ∧ (-9223372036854775808 ≤ a_12 ∧ a_12 ≤ 9223372036854775807) ∧ out0_10 = s.Width ∧ out1_11.length = ((s.Width + 63) / 64).toNat, r9⟩) (((s.Width : Int) - 0).toNat, t.Gen.Width, t.Gen.Words, 0, ta1, tk1) [4, 0, 0, 0, 1, 2, 3, 4, 5] ⟨rfl, rfl, aM1, (.inr rfl), aM1, aM1, iv0, iv0⟩ ?_
 rintro ⟨r9, out0_10, out1_11, a_12, a13, k14⟩ ⟨hM15, hr16, hi17, hi18, hk19, hk20, hv21, hv22⟩
 refine JJ_nx fun _ _ hL hA => ?_; dsimp only at hL hA; subst hL hA
 refine Fb 8 0 fun _ => Fb 8 5 fun _ => Fb 8 6 fun _ => Fb 16 7 fun _ => Fb 8 8 fun _ => KS ?_
 refine Oq Vm (Oq (Vfa fo42_0 3) (Oq (VldF sh3 3) (Oq Vlss (KS ?_))))
 refine Kc ?_ ?_
 ·intro h28
  have g29 := dt h28
  obtain ⟨r30, rfl⟩ := scc (n := r9) aM1
  refine KS ?_
  refine Oq Va (KS ?_)
  have hterm43 : r1_value_L1 t s a_12 (s.Width.toNat + 1) out0_10 out1_11 0 ≠ LR.oof := value_L1_term _ _ _ _ _ _ _ aM1 aM1
  refine Kl (γ := Nat × Int × List (BitVec 64) × Int × Option Addr × Nat) (fun (r31, out0_32, out1_33, b_34, a35, k36) => ⟨[(2, p5), (3, p6), (4, p7), (5, p8), (6, vi a_12), (7, vi b_34)], [S a35 k36 out1_33, Cl p8 [vi out0_32, vl a35 k36 out1_33], Cl p7 [vi 0, .slice none 0 0], pv p6 [vi s.Width, vl sa1 sk1 s.Words], pv p5 [vi t.Gen.Width, vl ta1 tk1 t.Gen.Words, vi t.Kill.Width, vl ta3 tk3 t.Kill.Words, vl ta4 tk4 t.Copies], S ta1 tk1 t.Gen.Words, S ta3 tk3 t.Kill.Words, S ta4 tk4 t.Copies, S sa1 sk1 s.Words], r1_value_L1 t s a_12 r31 out0_32 out1_33 b_34 = r1_value_L1 t s a_12 (s.Width.toNat + 1) out0_10 out1_11 0 ∧ (-9223372036854775808 ≤ out0_32 ∧ out0_32 ≤ 9223372036854775807) ∧ (-9223372036854775808 ≤ b_34 ∧ b_34 ≤ 9223372036854775807) ∧ out0_32 = s.Width ∧ out1_33.length = ((s.Width + 63) / 64).toNat ∧ 0 ≤ b_34, r31⟩) ((s.Width.toNat + 1), out0_10, out1_11, 0, a13, k14) [0, 1, 1, 1, 2, 3, 4, 5, 6] ⟨rfl, aM1, aM1, iv0, iv0, iv0⟩ ?_
  rintro ⟨r31, out0_32, out1_33, b_34, a35, k36⟩ ⟨hM37, hk38, hk39, hv40, hv41, hv42⟩
  refine JJ_nx fun _ _ hL hA => ?_; dsimp only at hL hA; subst hL hA
  refine Fb 8 0 fun _ => Fb 8 5 fun _ => Fb 8 6 fun _ => Fb 16 7 fun _ => Fb 8 8 fun _ => ?_
  rcases r31 with _ | r31
  ·exact absurd (hM37.symm.trans rfl) hterm43
  refine KS ?_
  refine Oq (VldA sh42 3) (Oq Vm ?_)
  refine letv (r1_Has s a_12) fun rv49 hg50 => ?_
  have hc51 := fn21 s sa1 sk1 a_12 pre pre rv49 hg50
  refine Oc [8] ca21 hc51 ?_
  rintro - -
  refine Oq Vm ?_
  refine Js 19 ?_ ?_
  ·intro h52
   refine Oq Vm (Oq (Vfa fo42_0 3) (Oq (VldF sh3 3) (Oq Vlss (Oq Vpt (KS ?_)))))
   refine Kc ?_ ?_
   ·intro h54
    have g55 := dt h54
    refine KS ?_
    refine Oq (VldA sh65 4) (Oq Vm (Oq Vm ?_))
    refine letv (r1_follows t a_12 b_34) fun rv56 hg57 => ?_
    have hc58 := fn106 t ta1 tk1 ta3 tk3 ta4 tk4 a_12 b_34 pre pre pre pre rv56 hg57
    refine Oc [5, 6, 7] ca106 hc58 ?_
    rintro - -
    refine KS ?_
    refine Kc ?_ ?_
    ·intro h59
     refine KS ?_
     refine Oq (VldA sh42 1) (Oq Vm ?_)
     refine letv (r1_Put (GSet.mk out0_32 out1_33) b_34) fun rv62 hg63 => ?_
     have hc64 := fn41 ((GSet.mk out0_32 out1_33)) a35 k36 b_34 pre pre pre pre rv62 hg63
     refine Oc [0] ca41 hc64 ?_
     rintro c61 ⟨he65, he66, he67⟩
     unfold i64ok at he65
     have he66 : (rv62.Width = out0_32) := he66
     have he67 : (rv62.Words.length = ((out0_32 + 63) / 64).toNat) := he67
     refine Jo 0 ?_; rintro a68 k69 rfl
     refine Fb 8 0 fun _ => ?_
     refine Ost (Scl [2] sh42 [vi rv62.Width, vl a68 k69 rv62.Words]) (KS ?_)
     refine Oq Vm (Oq Vadd (Oq Va (KS ?_)))
     refine Jl [1] (Ent.freeze _ _) ?_
     exact Kg (r31, rv62.Width, rv62.Words, (b_34 + 1), a68, k69) [0, 1, 2, 2, 3, 4, 5, 6, 7] ⟨(q3 hM37 (by simp only [r1_value_L1, h52, h54, h59, hg50, hg57, hg63, cs4])), aM1, aM1, iv1, iv1, iv1⟩
    intro h59
    refine KS ?_
    refine Oq Vm (Oq Vadd (Oq Va (KS ?_)))
    exact Kg (r31, out0_32, out1_33, (b_34 + 1), a35, k36) [0, 1, 1, 1, 2, 3, 4, 5, 6] ⟨(q3 hM37 (by simp only [r1_value_L1, h52, h54, h59, hg50, hg57, cs4])), aM1, aM1, iv1, iv1, iv1⟩
   intro h54
   have g72 := df h54
   refine Ke ?_
   have hR73 := q2 hM37 (.brk (out0_32, out1_33)) (by simp only [r1_value_L1, h52, h54, hg50, cs4])
   refine KS ?_
   refine Oq Vm (Oq Vadd (Oq Va (KS ?_)))
   exact Kg (r30, out0_32, out1_33, (a_12 + 1), a35, k36) [0, 1, 1, 1, 2, 3, 4, 5, 6] ⟨(q3 hM15 (by simp only [r1_value_L0, h28, h52, h54, hg50, hR73, cs4])), aM1, aM1, aM1, aM1, aM1, iv1, iv1⟩
  intro h52
  refine Osk (Osk (Osk (Osk (Oq Vpf (KS ?_)))))
  refine Kf ?_
  refine Ke ?_
  have hR75 := q2 hM37 (.brk (out0_32, out1_33)) (by simp only [r1_value_L1, h52, hg50, cs4])
  refine KS ?_
  refine Oq Vm (Oq Vadd (Oq Va (KS ?_)))
  exact Kg (r30, out0_32, out1_33, (a_12 + 1), a35, k36) [0, 1, 1, 1, 2, 3, 4, 5, 6] ⟨(q3 hM15 (by simp only [r1_value_L0, h28, h52, hg50, hR75, cs4])), aM1, aM1, aM1, aM1, aM1, iv1, iv1⟩
 intro h28
 have g76 := df h28
 obtain rfl : r9 = 0 := by omega
 refine Ke ?_
 have hR77 := q2 hM15 (out0_10, out1_11) (by simp only [r1_value_L0, h28, cs4])
 refine KS ?_
 refine Oq (VldA sh42 1) (Ost (Scl [2] sh42 [vi out0_10, vl a13 k14 out1_11]) (KS ?_))
 have hq := q4 hrr (GSet.mk out0_10 out1_11) (by simp only [r1_value, h28, hR77, cs4]); subst hq
 exact Kr (vl a13 k14 out1_11) rfl (.cellN 0 rfl sh42 rfl (reads_Cl _ _) rfl .nil) [1] en
theorem fn118 (t : GTransfer) (ta1 : Option Addr) (tk1 : Nat) (ta3 : Option Addr) (tk3 : Nat) (ta4 : Option Addr) (tk4 : Nat) (s : GSet) (sa1 : Option Addr) (sk1 : Nat) (ht_0 : i64ok t.Gen.Width) (ht_2 : i64ok t.Kill.Width) (hs_0 : i64ok s.Width) (rr : GSet × Int) (hrr : r1_Apply t s = rr) : FT Tryz.prog 118 #[.agg #[vi t.Gen.Width, vl ta1 tk1 t.Gen.Words, vi t.Kill.Width, vl ta3 tk3 t.Kill.Words, vl ta4 tk4 t.Copies], .agg #[vi s.Width, vl sa1 sk1 s.Words]] [S ta1 tk1 t.Gen.Words, S ta3 tk3 t.Kill.Words, S ta4 tk4 t.Copies, S sa1 sk1 s.Words] (fun g : Value => i64ok rr.1.Width ∧ i64ok rr.2) (fun g => .tuple #[.agg #[vi rr.1.Width, g], vi rr.2]) (fun g => [sl g rr.1.Words]) := by
 refine FTi Tryz.func118 fun w0 M0 F0 => ?_
 unfold i64ok at ht_0 ht_2 hs_0
 refine Fb 8 0 fun _ => Fb 8 1 fun _ => Fb 16 2 fun _ => Fb 8 3 fun _ => KS ?_
 refine Oa (Ab [vi t.Gen.Width, vl ta1 tk1 t.Gen.Words, vi t.Kill.Width, vl ta3 tk3 t.Kill.Words, vl ta4 tk4 t.Copies]) fun p5 => Oa (Ab [vi s.Width, vl sa1 sk1 s.Words]) fun p6 => Oa (Al ze42 [vi 0, .slice none 0 0]) fun p7 => Oq Va (KS ?_)
 refine Oq (VldA sh65 2) ?_
 refine letv (r1_ValidTransfer t) fun rv8 hg9 => ?_
 have hc10 := fn68 t ta1 tk1 ta3 tk3 ta4 tk4 pre pre rv8 hg9
 refine Oc [3, 4, 5] ca68 hc10 ?_
 rintro - -
 refine Oq Vnot (Oq Vm ?_)
 refine Js 9 ?_ ?_
 ·intro h11
  have h13 := not_true h11
  refine Osk (Osk (Osk (Oq Vpt (KS ?_))))
  refine Kt (KS ?_)
  refine Oq (Vbd st42 [vi 0, .slice none 0 0]) (Ost (Scl [0] sh42 [vi 0, .slice none 0 0]) (Oq Va (KS ?_)))
  refine Jl [] (Ent.slNil (α := BitVec 64)) ?_
  have hq := q4 hrr ((GSet.mk 0 []), 1) (by simp only [r1_Apply, h11, h13, hg9, cs4]); subst hq
  exact Kr (.slice none 0 0) rfl (.cellN 1 rfl sh42 rfl (reads_Cl _ _) rfl (.tmp rfl .nil)) [0] en
 intro h11
 have h16 := not_false h11
 refine Oq (VldA sh42 1) ?_
 refine letv (r1_Valid s) fun rv18 hg19 => ?_
 have hc20 := fn53 s sa1 sk1 pre rv18 hg19
 refine Oc [6] ca53 hc20 ?_
 rintro - -
 refine Oq Vnot (Oq Vpf (KS ?_))
 refine Kc ?_ ?_
 ·intro h21
  have h23 := not_true h21
  refine KS ?_
  refine Oq (Vbd st42 [vi 0, .slice none 0 0]) (Ost (Scl [0] sh42 [vi 0, .slice none 0 0]) (Oq Va (KS ?_)))
  refine Jl [] (Ent.slNil (α := BitVec 64)) ?_
  have hq := q4 hrr ((GSet.mk 0 []), 1) (by simp only [r1_Apply, h11, h16, h21, h23, hg9, hg19, cs4]); subst hq
  exact Kr (.slice none 0 0) rfl (.cellN 1 rfl sh42 rfl (reads_Cl _ _) rfl (.tmp rfl .nil)) [0] en
 intro h21
 have h26 := not_false h21
 refine KS ?_
 refine Oq (Vfa fo65_0 2) (Oq (VfaF fo42_0 2) (Oq (VldF sh3 2) (Oq (Vfa fo42_0 1) (Oq (VldF sh3 1) (Oq Vneq (KS ?_))))))
 refine Kc ?_ ?_
 ·intro h28
  have g29 := ne_of_bne h28
  refine KS ?_
  refine Oq (Vbd st42 [vi 0, .slice none 0 0]) (Ost (Scl [0] sh42 [vi 0, .slice none 0 0]) (Oq Va (KS ?_)))
  refine Jl [] (Ent.slNil (α := BitVec 64)) ?_
  have hq := q4 hrr ((GSet.mk 0 []), 2) (by simp only [r1_Apply, h11, h16, h21, h26, h28, hg9, hg19, cs4]); subst hq
  exact Kr (.slice none 0 0) rfl (.cellN 1 rfl sh42 rfl (reads_Cl _ _) rfl (.tmp rfl .nil)) [0] en
 intro h28
 have g30 := eq_of_bne_false h28
 refine KS ?_
 refine Oq (VldA sh65 2) (Oq (VldA sh42 1) ?_)
 refine letv (r1_value t s) fun rv32 hg33 => ?_
 have hc34 := fn153 t ta1 tk1 ta3 tk3 ta4 tk4 s sa1 sk1 pre pre pre (by simp only [h11, h16, h21, h26, h28, hg9, hg19]) pre rv32 hg33
 refine Oc [3, 4, 5, 6] ca153 hc34 ?_
 rintro c31 he35
 unfold i64ok at he35
 refine Jo 0 ?_; rintro a36 k37 rfl
 refine Fb 8 0 fun _ => ?_
 refine Ost (Scl [1] sh42 [vi rv32.Width, vl a36 k37 rv32.Words]) (Oq Va (KS ?_))
 have hq := q4 hrr (rv32, 0) (by simp only [r1_Apply, h11, h16, h21, h26, h28, hg9, hg19, hg33, cs4]); subst hq
 exact Kr (vl a36 k37 rv32.Words) rfl (.cellN 0 rfl sh42 rfl (reads_Cl _ _) rfl (.tmp rfl .nil)) [1] en
theorem fn71 (a : GSet) (aa1 : Option Addr) (ak1 : Nat) (b : GSet) (ba1 : Option Addr) (bk1 : Nat) (one : Bool) (two : Bool) (both : Bool) (ha_0 : i64ok a.Width) (hb_0 : i64ok b.Width) (rr : GSet × Int) (hrr : r1_mix a b one two both = rr) : FT Tryz.prog 71 #[.agg #[vi a.Width, vl aa1 ak1 a.Words], .agg #[vi b.Width, vl ba1 bk1 b.Words], vb one, vb two, vb both] [S aa1 ak1 a.Words, S ba1 bk1 b.Words] (fun g : Value => i64ok rr.1.Width ∧ i64ok rr.2) (fun g => .tuple #[.agg #[vi rr.1.Width, g], vi rr.2]) (fun g => [sl g rr.1.Words]) := by
 refine FTi Tryz.func71 fun w0 M0 F0 => ?_
 unfold i64ok at ha_0 hb_0
 refine Fb 8 0 fun _ => Fb 8 1 fun _ => KS ?_
 refine Oa (Ab [vi a.Width, vl aa1 ak1 a.Words]) fun p3 => Oa (Ab [vi b.Width, vl ba1 bk1 b.Words]) fun p4 => Oa (Al ze42 [vi 0, .slice none 0 0]) fun p5 => Oq Va (KS ?_)
 refine Oq (VldA sh42 2) ?_
 refine letv (r1_Valid a) fun rv6 hg7 => ?_
 have hc8 := fn53 a aa1 ak1 pre rv6 hg7
 refine Oc [3] ca53 hc8 ?_
 rintro - -
 refine Oq Vnot (Oq Vm ?_)
 refine Js 19 ?_ ?_
 ·intro h9
  have h11 := not_true h9
  refine Osk (Osk (Osk (Oq Vpt (KS ?_))))
  refine Kt (KS ?_)
  refine Oq (Vbd st42 [vi 0, .slice none 0 0]) (Ost (Scl [0] sh42 [vi 0, .slice none 0 0]) (Oq Va (KS ?_)))
  refine Jl [] (Ent.slNil (α := BitVec 64)) ?_
  have hq := q4 hrr ((GSet.mk 0 []), 1) (by simp only [r1_mix, h9, h11, hg7, cs4]); subst hq
  exact Kr (.slice none 0 0) rfl (.cellN 1 rfl sh42 rfl (reads_Cl _ _) rfl (.tmp rfl .nil)) [0] en
 intro h9
 have h14 := not_false h9
 try have hrg := RV_w (s := a) (by simp only [h9, h14, hg7])
 refine Oq (VldA sh42 1) ?_
 refine letv (r1_Valid b) fun rv16 hg17 => ?_
 have hc18 := fn53 b ba1 bk1 pre rv16 hg17
 refine Oc [4] ca53 hc18 ?_
 rintro - -
 refine Oq Vnot (Oq Vpf (KS ?_))
 refine Kc ?_ ?_
 ·intro h19
  have h21 := not_true h19
  refine KS ?_
  refine Oq (Vbd st42 [vi 0, .slice none 0 0]) (Ost (Scl [0] sh42 [vi 0, .slice none 0 0]) (Oq Va (KS ?_)))
  refine Jl [] (Ent.slNil (α := BitVec 64)) ?_
  have hq := q4 hrr ((GSet.mk 0 []), 1) (by simp only [r1_mix, h9, h14, h19, h21, hg7, hg17, cs4]); subst hq
  exact Kr (.slice none 0 0) rfl (.cellN 1 rfl sh42 rfl (reads_Cl _ _) rfl (.tmp rfl .nil)) [0] en
 intro h19
 have h24 := not_false h19
 try have hrg := RV_w (s := a) (by simp only [h9, h14, h19, h24, hg7, hg17])
 refine KS ?_
 refine Oq (Vfa fo42_0 2) (Oq (VldF sh3 2) (Oq (Vfa fo42_0 1) (Oq (VldF sh3 1) (Oq Vneq (KS ?_)))))
 refine Kc ?_ ?_
 ·intro h26
  have g27 := ne_of_bne h26
  refine KS ?_
  refine Oq (Vbd st42 [vi 0, .slice none 0 0]) (Ost (Scl [0] sh42 [vi 0, .slice none 0 0]) (Oq Va (KS ?_)))
  refine Jl [] (Ent.slNil (α := BitVec 64)) ?_
  have hq := q4 hrr ((GSet.mk 0 []), 2) (by simp only [r1_mix, h9, h14, h19, h24, h26, hg7, hg17, cs4]); subst hq
  exact Kr (.slice none 0 0) rfl (.cellN 1 rfl sh42 rfl (reads_Cl _ _) rfl (.tmp rfl .nil)) [0] en
 intro h26
 have g28 := eq_of_bne_false h26
 refine KS ?_
 refine Oq (Vfa fo42_0 2) (Oq (VldF sh3 2) ?_)
 refine letv (r1_Empty a.Width) fun rv30 hg31 => ?_
 have hc32 := fn29 a.Width pre pre rv30 hg31
 refine Oc [] ca29 hc32 ?_
 rintro c29 ⟨he33, he34, he35⟩
 unfold i64ok at he33
 refine Jo 0 ?_; rintro a36 k37 rfl
 refine Fb 8 0 fun _ => ?_
 refine Oa (Al ze42 [vi 0, .slice none 0 0]) fun p39 => Ost (Scl [0] sh42 [vi rv30.Width, vl a36 k37 rv30.Words]) (KS ?_)
 refine Oq Va (KS ?_)
 refine Kl (γ := Nat × Int × List (BitVec 64) × Int × Option Addr × Nat) (fun (r40, s0_41, s1_42, k_43, a44, k45) => ⟨[(2, vb one), (3, vb two), (4, vb both), (5, p3), (6, p4), (10, p5), (12, p39), (13, vi k_43)], [O a44 k45 s1_42, Cl p39 [vi s0_41, vl a44 k45 s1_42], Cl p5 [vi 0, .slice none 0 0], pv p4 [vi b.Width, vl ba1 bk1 b.Words], pv p3 [vi a.Width, vl aa1 ak1 a.Words], S aa1 ak1 a.Words, S ba1 bk1 b.Words], r1_mix_L0 a b one two both r40 s0_41 s1_42 k_43 = r1_mix_L0 a b one two both (((a.Width : Int) - 0).toNat) rv30.Width rv30.Words 0 ∧ r40 = ((a.Width : Int) - k_43).toNat ∧ (0 : Int) ≤ k_43 ∧ (k_43 ≤ a.Width ∨ k_43 = 0) ∧ (-9223372036854775808 ≤ s0_41 ∧ s0_41 ≤ 9223372036854775807) ∧ (-9223372036854775808 ≤ k_43 ∧ k_43 ≤ 9223372036854775807) ∧ s0_41 = a.Width ∧ s1_42.length = ((a.Width + 63) / 64).toNat, r40⟩) (((a.Width : Int) - 0).toNat, rv30.Width, rv30.Words, 0, a36, k37) [1, 0, 0, 0, 1, 2, 3] ⟨rfl, rfl, aM1, (.inr rfl), aM1, aM1, iv0, iv0⟩ ?_
 rintro ⟨r40, s0_41, s1_42, k_43, a44, k45⟩ ⟨hM46, hr47, hi48, hi49, hk50, hk51, hv52, hv53⟩
 refine JJ_nx fun _ _ hL hA => ?_; dsimp only at hL hA; subst hL hA
 refine Fb 8 0 fun _ => Fb 8 5 fun _ => Fb 8 6 fun _ => KS ?_
 refine Oq Vm (Oq (Vfa fo42_0 4) (Oq (VldF sh3 4) (Oq Vlss (KS ?_))))
 refine Kc ?_ ?_
 ·intro h57
  have g58 := dt h57
  obtain ⟨r59, rfl⟩ := scc (n := r40) aM1
  refine KS ?_
  refine JK_drawK [0, 0, 3, 0, 0, 31, 63, 127] fmix ?_
  refine Dv [4] (VldA sh42 0) (Dv [] Vm ?_)
  refine letv (r1_Has a k_43) fun rv60 hg61 => ?_
  refine Dx [5] [] [1, 0] (fun G => vb rv60) [fun G => SP.fact (True)] (fun G => xC [0] ca21 (fn21 a aa1 ak1 k_43 pre pre rv60 hg61)) (Dv [3] (VldA sh42 0) (Dv [] Vm ?_))
  refine letv (r1_Has b k_43) fun rv62 hg63 => ?_
  refine Dx [6] [] [1, 0] (fun G => vb rv62) [fun G => SP.fact (True)] (fun G => xC [0] ca21 (fn21 b ba1 bk1 k_43 pre pre rv62 hg63)) (Dv [] Va (Dv [] Va ?_))
  refine Dn ⟨by kernel_rfl, fun G => ?_⟩
  refine Jw2 [(2, vb one), (3, vb two), (4, vb both), (5, p3), (6, p4), (10, p5), (12, p39), (13, vi k_43), (14, vb rv60), (15, vb rv62)] [0, 1, 2, 3, 4, 5, 6] [SP.fact (True), SP.fact (True)] ?_
  refine Jk [0, 0, 0, 0, 1, 2, 3] ?_
  refine KS ?_
  refine Oq Vm (Oq Vm ?_)
  refine Js 47 ?_ ?_
  ·intro h64
   try have hrg := RV_w (s := a) (by simp only [h9, h14, h19, h24, h26, h57, h64, hg7, hg17, hg31, hg61, hg63])
   refine Oq Vm (Oq Vpt (Oq Vm ?_))
   refine Js 50 ?_ ?_
   ·intro h66
    try have hrg := RV_w (s := a) (by simp only [h9, h14, h19, h24, h26, h57, h64, h66, hg7, hg17, hg31, hg61, hg63])
    refine Oq Vm (Oq Vpt (Oq Vm ?_))
    refine Js 53 ?_ ?_
    ·intro h68
     refine Osk (Osk (Osk (Osk (Osk (Osk (Osk (Osk (Oq Vpt (Oq Vm ?_)))))))))
     refine Osk (Osk (Osk (Osk (Osk (Osk (Osk (Osk (Oq Vpt (KS ?_)))))))))
     refine Kt (KS ?_)
     refine Oq (VldA sh42 1) (Oq Vm ?_)
     refine letv (r1_Put (GSet.mk s0_41 s1_42) k_43) fun rv71 hg72 => ?_
     refine Oc [0] ca41 (FT_borrow (A := _) hlx (FT_ent (Ent.take (is := [0]) rfl) (fn41 ((GSet.mk s0_41 s1_42)) a44 k45 k_43 pre pre pre pre rv71 hg72))) ?_ (ht := rfl)
     rintro c70 ⟨he73, he74, he75⟩
     unfold i64ok at he73
     have he74 : (rv71.Width = s0_41) := he74
     have he75 : (rv71.Words.length = ((s0_41 + 63) / 64).toNat) := he75
     refine Jo 1 ?_; rintro a76 k77 rfl
     refine Fb 8 1 fun _ => ?_
     refine Ost (Scl [2] sh42 [vi rv71.Width, vl a76 k77 rv71.Words]) (KS ?_)
     refine Oq Vm (Oq Vadd (Oq Va (KS ?_)))
     exact Kg (r59, rv71.Width, rv71.Words, (k_43 + 1), a76, k77) [2, 0, 1, 1, 2, 3, 4] ⟨(q3 hM46 (by simp only [r1_mix_L0, h57, h64, h66, h68, hg61, hg63, hg72, cs4])), aM1, aM1, aM1, aM1, aM1, iv1, iv1⟩
    intro h68
    refine Oq Vm (Oq Vm ?_)
    refine Js 55 ?_ ?_
    ·intro h80
     try have hrg := RV_w (s := a) (by simp only [h9, h14, h19, h24, h26, h57, h64, h66, h68, h80, hg7, hg17, hg31, hg61, hg63])
     refine Oq Vm (Oq Vnot (Oq Vpt (Oq Vm ?_)))
     refine Js 59 ?_ ?_
     ·intro h82
      exact absurd h82 (by first | (simp [h66]; done) | (simp only [bne, h66]; decide) | (simp only [bne, h66, Bool.not_true, Bool.not_false]; decide) | (exfalso; omega) | (intro hq; simp only [bne, hq, Bool.not_false, Bool.not_true, reduceCtorEq] at h66))
     intro h82
     have h84 := not_false h82
     try have hrg := RV_w (s := a) (by simp only [h9, h14, h19, h24, h26, h57, h64, h66, h68, h80, h82, h84, hg7, hg17, hg31, hg61, hg63])
     refine Osk (Oq Vpf (Oq Vpf (Oq Vm (Oq Vm (Oq Vnot (Oq Vm ?_))))))
     refine Js 66 ?_ ?_
     ·intro h86
      exact absurd h86 (by first | (simp [h80]; done) | (simp only [bne, h80]; decide) | (simp only [bne, h80, Bool.not_true, Bool.not_false]; decide) | (exfalso; omega) | (intro hq; simp only [bne, hq, Bool.not_false, Bool.not_true, reduceCtorEq] at h80))
     intro h86
     have h88 := not_false h86
     try have hrg := RV_w (s := a) (by simp only [h9, h14, h19, h24, h26, h57, h64, h66, h68, h80, h82, h84, h86, h88, hg7, hg17, hg31, hg61, hg63])
     refine Osk (Oq Vpf (Oq Vm (Osk (Oq Vpf (Oq Vpf (KS ?_))))))
     refine Kf (KS ?_)
     refine Oq Vm (Oq Vadd (Oq Va (KS ?_)))
     exact Kg (r59, s0_41, s1_42, (k_43 + 1), a44, k45) [0, 0, 0, 0, 1, 2, 3] ⟨(q3 hM46 (by simp only [r1_mix_L0, h57, h64, h66, h68, h80, h82, h84, h86, h88, hg61, hg63, cs4])), aM1, aM1, aM1, aM1, aM1, iv1, iv1⟩
    intro h80
    exact absurd h80 (by first | (simp [h64]; done) | (simp only [bne, h64]; decide) | (simp only [bne, h64, Bool.not_true, Bool.not_false]; decide) | (exfalso; omega) | (intro hq; simp only [bne, hq, Bool.not_false, Bool.not_true, reduceCtorEq] at h64))
   intro h66
   refine Osk (Oq Vpf (Oq Vm (Oq Vm (Oq Vm ?_))))
   refine Js 55 ?_ ?_
   ·intro h91
    try have hrg := RV_w (s := a) (by simp only [h9, h14, h19, h24, h26, h57, h64, h66, h91, hg7, hg17, hg31, hg61, hg63])
    refine Oq Vm (Oq Vnot (Oq Vpt (Oq Vm ?_)))
    refine Js 59 ?_ ?_
    ·intro h93
     have h95 := not_true h93
     refine Oq Vm (Oq Vpt (Oq Vpf (Oq Vm ?_)))
     refine Js 63 ?_ ?_
     ·intro h97
      refine Osk (Osk (Osk (Osk (Osk (Osk (Osk (Osk (Oq Vpt (KS ?_)))))))))
      refine Kt (KS ?_)
      refine Oq (VldA sh42 1) (Oq Vm ?_)
      refine letv (r1_Put (GSet.mk s0_41 s1_42) k_43) fun rv100 hg101 => ?_
      refine Oc [0] ca41 (FT_borrow (A := _) hlx (FT_ent (Ent.take (is := [0]) rfl) (fn41 ((GSet.mk s0_41 s1_42)) a44 k45 k_43 pre pre pre pre rv100 hg101))) ?_ (ht := rfl)
      rintro c99 ⟨he102, he103, he104⟩
      unfold i64ok at he102
      have he103 : (rv100.Width = s0_41) := he103
      have he104 : (rv100.Words.length = ((s0_41 + 63) / 64).toNat) := he104
      refine Jo 1 ?_; rintro a105 k106 rfl
      refine Fb 8 1 fun _ => ?_
      refine Ost (Scl [2] sh42 [vi rv100.Width, vl a105 k106 rv100.Words]) (KS ?_)
      refine Oq Vm (Oq Vadd (Oq Va (KS ?_)))
      exact Kg (r59, rv100.Width, rv100.Words, (k_43 + 1), a105, k106) [2, 0, 1, 1, 2, 3, 4] ⟨(q3 hM46 (by simp only [r1_mix_L0, h57, h64, h66, h91, h93, h95, h97, hg61, hg63, hg101, cs4])), aM1, aM1, aM1, aM1, aM1, iv1, iv1⟩
     intro h97
     refine Oq Vm (Oq Vnot (Oq Vm ?_))
     refine Js 66 ?_ ?_
     ·intro h109
      exact absurd h109 (by first | (simp [h91]; done) | (simp only [bne, h91]; decide) | (simp only [bne, h91, Bool.not_true, Bool.not_false]; decide) | (exfalso; omega) | (intro hq; simp only [bne, hq, Bool.not_false, Bool.not_true, reduceCtorEq] at h91))
     intro h109
     have h111 := not_false h109
     try have hrg := RV_w (s := a) (by simp only [h9, h14, h19, h24, h26, h57, h64, h66, h91, h93, h95, h97, h109, h111, hg7, hg17, hg31, hg61, hg63])
     refine Osk (Oq Vpf (Oq Vm (Osk (Oq Vpf (Oq Vpf (KS ?_))))))
     refine Kf (KS ?_)
     refine Oq Vm (Oq Vadd (Oq Va (KS ?_)))
     exact Kg (r59, s0_41, s1_42, (k_43 + 1), a44, k45) [0, 0, 0, 0, 1, 2, 3] ⟨(q3 hM46 (by simp only [r1_mix_L0, h57, h64, h66, h91, h93, h95, h97, h109, h111, hg61, hg63, cs4])), aM1, aM1, aM1, aM1, aM1, iv1, iv1⟩
    intro h93
    exact absurd h93 (by first | (simp [h66]; done) | (simp only [bne, h66]; decide) | (simp only [bne, h66, Bool.not_true, Bool.not_false]; decide) | (exfalso; omega) | (intro hq; simp only [bne, hq, Bool.not_false, Bool.not_true, reduceCtorEq] at h66))
   intro h91
   exact absurd h91 (by first | (simp [h64]; done) | (simp only [bne, h64]; decide) | (simp only [bne, h64, Bool.not_true, Bool.not_false]; decide) | (exfalso; omega) | (intro hq; simp only [bne, hq, Bool.not_false, Bool.not_true, reduceCtorEq] at h64))
  intro h64
  refine Osk (Oq Vpf (Oq Vm (Osk (Oq Vpf (Oq Vm (Oq Vm (Oq Vm ?_)))))))
  refine Js 55 ?_ ?_
  ·intro h114
   exact absurd h114 (by first | (simp [h64]; done) | (simp only [bne, h64]; decide) | (simp only [bne, h64, Bool.not_true, Bool.not_false]; decide) | (exfalso; omega) | (intro hq; simp only [bne, hq, Bool.not_false, Bool.not_true, reduceCtorEq] at h64))
  intro h114
  refine Osk (Osk (Oq Vpf (Oq Vm (Osk (Oq Vpf (Oq Vpf (Oq Vm (Oq Vm (Oq Vnot ?_)))))))))
  refine Oq Vm ?_
  refine Js 66 ?_ ?_
  ·intro h116
   have h118 := not_true h116
   refine Oq Vm (Oq Vpt (Oq Vm ?_))
   refine Js 69 ?_ ?_
   ·intro h120
    try have hrg := RV_w (s := a) (by simp only [h9, h14, h19, h24, h26, h57, h64, h114, h116, h118, h120, hg7, hg17, hg31, hg61, hg63])
    refine Oq Vm (Oq Vpt (Oq Vpf (KS ?_)))
    refine Kc ?_ ?_
    ·intro h122
     refine KS ?_
     refine Oq (VldA sh42 1) (Oq Vm ?_)
     refine letv (r1_Put (GSet.mk s0_41 s1_42) k_43) fun rv125 hg126 => ?_
     refine Oc [0] ca41 (FT_borrow (A := _) hlx (FT_ent (Ent.take (is := [0]) rfl) (fn41 ((GSet.mk s0_41 s1_42)) a44 k45 k_43 pre pre pre pre rv125 hg126))) ?_ (ht := rfl)
     rintro c124 ⟨he127, he128, he129⟩
     unfold i64ok at he127
     have he128 : (rv125.Width = s0_41) := he128
     have he129 : (rv125.Words.length = ((s0_41 + 63) / 64).toNat) := he129
     refine Jo 1 ?_; rintro a130 k131 rfl
     refine Fb 8 1 fun _ => ?_
     refine Ost (Scl [2] sh42 [vi rv125.Width, vl a130 k131 rv125.Words]) (KS ?_)
     refine Oq Vm (Oq Vadd (Oq Va (KS ?_)))
     exact Kg (r59, rv125.Width, rv125.Words, (k_43 + 1), a130, k131) [2, 0, 1, 1, 2, 3, 4] ⟨(q3 hM46 (by simp only [r1_mix_L0, h57, h64, h114, h116, h118, h120, h122, hg61, hg63, hg126, cs4])), aM1, aM1, aM1, aM1, aM1, iv1, iv1⟩
    intro h122
    refine KS ?_
    refine Oq Vm (Oq Vadd (Oq Va (KS ?_)))
    exact Kg (r59, s0_41, s1_42, (k_43 + 1), a44, k45) [0, 0, 0, 0, 1, 2, 3] ⟨(q3 hM46 (by simp only [r1_mix_L0, h57, h64, h114, h116, h118, h120, h122, hg61, hg63, cs4])), aM1, aM1, aM1, aM1, aM1, iv1, iv1⟩
   intro h120
   refine Osk (Oq Vpf (Oq Vpf (KS ?_)))
   refine Kf (KS ?_)
   refine Oq Vm (Oq Vadd (Oq Va (KS ?_)))
   exact Kg (r59, s0_41, s1_42, (k_43 + 1), a44, k45) [0, 0, 0, 0, 1, 2, 3] ⟨(q3 hM46 (by simp only [r1_mix_L0, h57, h64, h114, h116, h118, h120, hg61, hg63, cs4])), aM1, aM1, aM1, aM1, aM1, iv1, iv1⟩
  intro h116
  exact absurd h116 (by first | (simp [h114]; done) | (simp only [bne, h114]; decide) | (simp only [bne, h114, Bool.not_true, Bool.not_false]; decide) | (exfalso; omega) | (intro hq; simp only [bne, hq, Bool.not_false, Bool.not_true, reduceCtorEq] at h114))
 intro h57
 have g135 := df h57
 obtain rfl : r40 = 0 := by omega
 refine Ke ?_
 have hR136 := q2 hM46 (s0_41, s1_42) (by simp only [r1_mix_L0, h57, cs4])
 refine KS ?_
 refine Oq (VldA sh42 1) (Ost (Scl [2] sh42 [vi s0_41, vl a44 k45 s1_42]) (Oq Va (KS ?_)))
 refine Jl [1] (Ent.freeze _ _) ?_
 have hq := q4 hrr ((GSet.mk s0_41 s1_42), 0) (by simp only [r1_mix, h9, h14, h19, h24, h26, h57, hg7, hg17, hg31, hR136, cs4]); subst hq
 exact Kr (vl a44 k45 s1_42) rfl (.cellN 1 rfl sh42 rfl (reads_Cl _ _) rfl (.tmp rfl .nil)) [0] en
theorem fn40 (a : GSet) (aa1 : Option Addr) (ak1 : Nat) (b : GSet) (ba1 : Option Addr) (bk1 : Nat) (ha_0 : i64ok a.Width) (hb_0 : i64ok b.Width) (rr : GSet × Int) (hrr : r1_Union a b = rr) : FT Tryz.prog 40 #[.agg #[vi a.Width, vl aa1 ak1 a.Words], .agg #[vi b.Width, vl ba1 bk1 b.Words]] [S aa1 ak1 a.Words, S ba1 bk1 b.Words] (fun g : Value => i64ok rr.1.Width ∧ i64ok rr.2) (fun g => .tuple #[.agg #[vi rr.1.Width, g], vi rr.2]) (fun g => [sl g rr.1.Words]) := by
 refine FTi Tryz.func40 fun w0 M0 F0 => ?_
 unfold i64ok at ha_0 hb_0
 refine Fb 8 0 fun _ => Fb 8 1 fun _ => KS ?_
 refine Oa (Ab [vi a.Width, vl aa1 ak1 a.Words]) fun p3 => Oa (Ab [vi b.Width, vl ba1 bk1 b.Words]) fun p4 => Oa (Al ze42 [vi 0, .slice none 0 0]) fun p5 => Oq Va (KS ?_)
 refine Oq (VldA sh42 2) (Oq (VldA sh42 1) ?_)
 refine letv (r1_mix a b true true true) fun rv7 hg8 => ?_
 have hc9 := fn71 a aa1 ak1 b ba1 bk1 true true true pre pre rv7 hg8
 refine Oc [3, 4] ca71 hc9 ?_
 rintro c6 ⟨he10, he11⟩
 unfold i64ok at he10 he11
 refine Jo 0 ?_; rintro a12 k13 rfl
 refine Fb 8 0 fun _ => ?_
 refine Oq Vx (Oq Vx (Ost (Scl [1] sh42 [vi rv7.1.Width, vl a12 k13 rv7.1.Words]) (Oq Va (KS ?_))))
 have hq := q4 hrr (rv7.1, rv7.2) (by simp only [r1_Union, hg8, cs4]); subst hq
 exact Kr (vl a12 k13 rv7.1.Words) rfl (.cellN 0 rfl sh42 rfl (reads_Cl _ _) rfl (.tmp rfl .nil)) [1] en
theorem fn12 (a : GSet) (aa1 : Option Addr) (ak1 : Nat) (b : GSet) (ba1 : Option Addr) (bk1 : Nat) (ha_0 : i64ok a.Width) (hb_0 : i64ok b.Width) (rr : GSet) (hrr : r1_Join a b = rr) : FT Tryz.prog 12 #[.agg #[vi a.Width, vl aa1 ak1 a.Words], .agg #[vi b.Width, vl ba1 bk1 b.Words]] [S aa1 ak1 a.Words, S ba1 bk1 b.Words] (fun g : Value => i64ok rr.Width) (fun g => .agg #[vi rr.Width, g]) (fun g => [sl g rr.Words]) := by
 refine FTi Tryz.func12 fun w0 M0 F0 => ?_
 unfold i64ok at ha_0 hb_0
 refine Fb 8 0 fun _ => Fb 8 1 fun _ => KS ?_
 refine Oa (Ab [vi a.Width, vl aa1 ak1 a.Words]) fun p3 => Oa (Ab [vi b.Width, vl ba1 bk1 b.Words]) fun p4 => Oa (Al ze42 [vi 0, .slice none 0 0]) fun p5 => KS ?_
 refine Oq (VldA sh42 2) (Oq (VldA sh42 1) ?_)
 refine letv (r1_Union a b) fun rv7 hg8 => ?_
 have hc9 := fn40 a aa1 ak1 b ba1 bk1 pre pre rv7 hg8
 refine Oc [3, 4] ca40 hc9 ?_
 rintro c6 ⟨he10, he11⟩
 unfold i64ok at he10 he11
 refine Jo 0 ?_; rintro a12 k13 rfl
 refine Fb 8 0 fun _ => ?_
 refine Oq Vm (Oq Vx (Oq Vx (Oa (Al ze42 [vi 0, .slice none 0 0]) fun p15 => Ost (Scl [0] sh42 [vi rv7.1.Width, vl a12 k13 rv7.1.Words]) (Oq Va (KS ?_)))))
 refine Oq (VldA sh42 0) (Ost (Scl [2] sh42 [vi rv7.1.Width, vl a12 k13 rv7.1.Words]) (KS ?_))
 have hq := q4 hrr rv7.1 (by simp only [r1_Join, hg8, cs4]); subst hq
 exact Kr (vl a12 k13 rv7.1.Words) rfl (.cellN 0 rfl sh42 rfl (reads_Cl _ _) rfl .nil) [2] en
theorem fn83 (s : GSystem) (sa1 : Option Addr) (sk1 : Nat) (sa2 : Option Addr) (sk2 : Nat) (sa3 : Option Addr) (sk3 : Nat) (v : List GSet) (va0 : Option Addr) (vk0 : Nat) (n : Int) (hs_0 : i64ok s.Width) (hn_0 : i64ok n) (hv : VSys s) (hl : v.length = s.Boundary.length) (hn : 0 ≤ n ∧ n < (s.Boundary.length : Int)) (rr : GSet) (hrr : r10_right s v n = rr) : FT Tryz.prog 83 #[.agg #[vi s.Width, vl sa1 sk1 s.Deps, vl sa2 sk2 s.Transfers, vl sa3 sk3 s.Boundary], vl va0 vk0 v, vi n] [S sa1 sk1 s.Deps, S sa2 sk2 s.Transfers, S sa3 sk3 s.Boundary, S va0 vk0 v] (fun g : Value => i64ok rr.Width) (fun g => .agg #[vi rr.Width, g]) (fun g => [sl g rr.Words]) := by
 refine FTi Tryz.func83 fun w0 M0 F0 => ?_
 unfold i64ok at hs_0 hn_0
 refine Fb 24 0 fun _ => Fb 88 1 fun _ => Fb 32 2 fun _ => Fb 32 3 fun _ => ?_
 have hv1 := hv.n
 have hv2 := hv.tl
 have hv3 := hv.bl
 have hv4 := hv.w
 have hv5 := hv.dep_len
 refine KS ?_
 refine Oa (Ab [vi s.Width, vl sa1 sk1 s.Deps, vl sa2 sk2 s.Transfers, vl sa3 sk3 s.Boundary]) fun p5 => Oa (Al ze42 [vi 0, .slice none 0 0]) fun p6 => KS ?_
 refine Oq (Vfa fo27_3 1) (Oq (VldF sh25 1) (Oq Vm (Oq (Vi sl25 4) ?_)))
 refine JJ_peek_GSet n.toNat 4 rfl rng fun a7 k8 hb9 => ?_
 unfold i64ok at hb9
 refine Fb 8 1 fun _ => ?_
 refine Oq (VldA sh42 0) (Oa (Al ze42 [vi 0, .slice none 0 0]) fun p11 => Ost (Scl [0] sh42 [vi ((s.Boundary.getD n.toNat default).Width), vl a7 k8 ((s.Boundary.getD n.toNat default).Words)]) (KS ?_))
 refine Oq Va (KS ?_)
 refine Kl (γ := Nat × Int × List (BitVec 64) × Int × Option Addr × Nat) (fun (r12, out0_13, out1_14, i_15, a16, k17) => ⟨[(1, vl va0 vk0 v), (2, vi n), (3, p5), (6, p6), (7, p11), (8, vi i_15)], [S a16 k17 out1_14, Cl p11 [vi out0_13, vl a16 k17 out1_14], Cl p6 [vi 0, .slice none 0 0], pv p5 [vi s.Width, vl sa1 sk1 s.Deps, vl sa2 sk2 s.Transfers, vl sa3 sk3 s.Boundary], S sa1 sk1 s.Deps, S sa2 sk2 s.Transfers, S sa3 sk3 s.Boundary, S va0 vk0 v], r10_right_L0 s v n r12 out0_13 out1_14 i_15 = r10_right_L0 s v n (((((s.Deps.getD n.toNat []).length : Int) : Int) - 0).toNat) ((s.Boundary.getD n.toNat default).Width) ((s.Boundary.getD n.toNat default).Words) 0 ∧ r12 = ((((s.Deps.getD n.toNat []).length : Int) : Int) - i_15).toNat ∧ (0 : Int) ≤ i_15 ∧ (i_15 ≤ ((s.Deps.getD n.toNat []).length : Int) ∨ i_15 = 0) ∧ (-9223372036854775808 ≤ out0_13 ∧ out0_13 ≤ 9223372036854775807) ∧ (-9223372036854775808 ≤ i_15 ∧ i_15 ≤ 9223372036854775807), r12⟩) (((((s.Deps.getD n.toNat []).length : Int) : Int) - 0).toNat, (s.Boundary.getD n.toNat default).Width, (s.Boundary.getD n.toNat default).Words, 0, a7, k8) [2, 0, 2, 2, 3, 4, 5, 6] ⟨rfl, rfl, aM1, (.inr rfl), aM1, aM1⟩ ?_
 rintro ⟨r12, out0_13, out1_14, i_15, a16, k17⟩ ⟨hM18, hr19, hi20, hi21, hk22, hk23⟩
 refine JJ_nx fun _ _ hL hA => ?_; dsimp only at hL hA; subst hL hA
 refine Fb 8 0 fun _ => Fb 24 4 fun _ => Fb 88 5 fun _ => Fb 32 6 fun _ => Fb 32 7 fun _ => KS ?_
 refine Oq Vm (Oq (Vfa fo27_1 3) (Oq (VldF sh23 3) (Oq Vm (Oq (Vi sl23 4) ?_))))
 refine JJ_peekL n.toNat 4 rfl rng fun a29 k30 => ?_
 refine Fb 8 1 fun _ => Fo 1 fun ho32 => ?_
 refine Oq (Vld sh22 0) (Oq (Vlen sl22) (Oq Vlss (KS ?_)))
 refine Kc ?_ ?_
 ·intro h33
  have g34 := dt h33
  have hq := hv.dep_mem (j := n) aM1 aM1 _ (getD_mem (xs := s.Deps.getD n.toNat []) (i := i_15.toNat) (d := 0) aM1)
  obtain ⟨r35, rfl⟩ := scc (n := r12) aM1
  refine KS ?_
  refine Oq (Vfa fo27_1 5) (Oq (VldF sh23 5) (Oq Vm (Oq (Vi sl23 6) (Oq (Vld sh22 0) (Oq Vm (Oq (Vi sl22 1) ?_))))))
  have hb36 := ok1 (i := i_15.toNat) ho32 rng
  refine Oq (VldI sh3 1) (Oq Va (KS ?_))
  refine JJ_peek_GTransfer (((s.Deps.getD n.toNat []).getD i_15.toNat 0) : Int).toNat 7 rfl rng fun a37 k38 a39 k40 a41 k42 hb43 hb44 => ?_
  unfold i64ok at hb43 hb44
  refine Fb 8 1 fun _ => Fb 8 2 fun _ => Fb 16 3 fun _ => ?_
  refine JJ_peek_GSet (((s.Deps.getD n.toNat []).getD i_15.toNat 0) : Int).toNat 13 rfl rng fun a48 k49 hb50 => ?_
  unfold i64ok at hb50
  refine Fb 8 1 fun _ => ?_
  refine JK_drawK [0, 1, 0, 7, 15, 0, 0, 96, 224, 511, 1023, 2047, 2047, 0, 12287, 32767] fmix ?_
  refine Dv [11] (Vfa fo27_2 0) (Dv [11] (VldF sh24 0) (Dv [] Vm (Dv [13] (Vi sl24 0) (Dv [2] (VldA sh65 0) (Dv [] Vm (Dv [] Vm (Dv [15] (Vi sl25 0) (Dv [0] (VldA sh42 0) ?_))))))))
  refine letv (r1_Apply (s.Transfers.getD (((s.Deps.getD n.toNat []).getD i_15.toNat 0) : Int).toNat default) (v.getD (((s.Deps.getD n.toNat []).getD i_15.toNat 0) : Int).toNat default)) fun rv53 hg54 => ?_
  refine Dx [1, 3, 4, 5] [] [2, 3, 4, 5, 0, 1] (fun G => .tuple #[.agg #[vi rv53.1.Width, (G.g 9 0)], vi rv53.2]) [fun G => SP.fact (i64ok rv53.1.Width ∧ i64ok rv53.2), fun G => sl (G.g 9 0) rv53.1.Words] (fun G => xC [1, 2, 3, 0] ca118 (fn118 ((s.Transfers.getD (((s.Deps.getD n.toNat []).getD i_15.toNat 0) : Int).toNat default)) a37 k38 a39 k40 a41 k42 ((v.getD (((s.Deps.getD n.toNat []).getD i_15.toNat 0) : Int).toNat default)) a48 k49 pre pre pre rv53 hg54)) (Dg [] (fun G => .tuple #[.agg #[vi rv53.1.Width, (G.g 9 0)], vi rv53.2]) (fun G => Vm) (Dg [] (fun G => .agg #[vi rv53.1.Width, (G.g 9 0)]) (fun G => Vx) (Dv [] Vx (Dx [] [] [0] (fun G => (G.g 13 0)) [fun G => Cl (G.g 13 0) [vi 0, .slice none 0 0]] (fun G => xA (Al ze42 [vi 0, .slice none 0 0])) (Dx0 [17, 18] [18] [1, 0] [fun G => Cl (G.g 13 0) [vi rv53.1.Width, (G.g 9 0)]] (fun G => x1 0 rfl sl_one fun ho56 => (xS (Scl [1] sh42 [vi rv53.1.Width, (G.g 9 0)] (v := .agg #[vi rv53.1.Width, (G.g 9 0)]) (h1 := show [vi rv53.1.Width, (G.g 9 0)].all (·.oneCell') = true from (by simp only [List.all_cons, List.all_nil, ho56, Bool.and_true, Bool.true_and] <;> rfl))))) (Dv [] Va ?_))))))
  refine Dn ⟨by kernel_rfl, fun G => ?_⟩
  refine Jw2 [(1, vl va0 vk0 v), (2, vi n), (3, p5), (6, p6), (7, p11), (8, vi i_15), (10, (G.g 13 0))] [0, 1, 2, 3, 4, 5, 6, 7, 8, 9, 10, 11, 12, 13, 14, 15] [SP.fact (i64ok rv53.1.Width ∧ i64ok rv53.2), sl (G.g 9 0) rv53.1.Words, Cl (G.g 13 0) [vi rv53.1.Width, (G.g 9 0)]] ?_
  generalize G.g 9 0 = c52, G.g 13 0 = p55
  refine Jf 16 rfl ?_; rintro ⟨he57, he58⟩
  unfold i64ok at he57 he58
  refine Jk [0, 1, 2, 3, 4, 5, 6, 7, 8, 9, 9, 9, 10, 11, 12, 13, 15, 16] ?_
  refine Jo 16 ?_; rintro a59 k60 rfl
  refine Fb 8 16 fun _ => KS ?_
  refine Oq (VldA sh42 9) (Oq (VldA sh42 17) ?_)
  refine letv (r1_Join (GSet.mk out0_13 out1_14) rv53.1) fun rv63 hg64 => ?_
  have hc65 := fn12 ((GSet.mk out0_13 out1_14)) a16 k17 rv53.1 a59 k60 pre pre rv63 hg64
  refine Oc [8, 16] ca12 hc65 ?_
  rintro c62 he66
  unfold i64ok at he66
  refine Jo 0 ?_; rintro a67 k68 rfl
  refine Fb 8 0 fun _ => ?_
  refine Ost (Scl [10] sh42 [vi rv63.Width, vl a67 k68 rv63.Words]) (KS ?_)
  refine Oq Vm (Oq Vadd (Oq Va (KS ?_)))
  exact Kg (r35, rv63.Width, rv63.Words, (i_15 + 1), a67, k68) [1, 0, 10, 10, 11, 12, 13, 14] ⟨(q3 hM18 (by simp only [r10_right_L0, h33, hg54, hg64, cs4])), aM1, aM1, aM1, aM1, aM1⟩
 intro h33
 have g70 := df h33
 obtain rfl : r12 = 0 := by omega
 refine Ke ?_
 have hR71 := q2 hM18 (out0_13, out1_14) (by simp only [r10_right_L0, h33, cs4])
 refine KS ?_
 refine Oq (VldA sh42 3) (Ost (Scl [4] sh42 [vi out0_13, vl a16 k17 out1_14]) (KS ?_))
 have hq := q4 hrr (GSet.mk out0_13 out1_14) (by simp only [r10_right, h33, hR71, cs4]); subst hq
 exact Kr (vl a16 k17 out1_14) rfl (.cellN 0 rfl sh42 rfl (reads_Cl _ _) rfl .nil) [3] en
theorem fn69 (s : GSystem) (sa1 : Option Addr) (sk1 : Nat) (sa2 : Option Addr) (sk2 : Nat) (sa3 : Option Addr) (sk3 : Nat) (v : List GSet) (va0 : Option Addr) (vk0 : Nat) (n : Int) (hs_0 : i64ok s.Width) (hn_0 : i64ok n) (rr : GSet × Int) (hrr : r10_Right s v n = rr) : FT Tryz.prog 69 #[.agg #[vi s.Width, vl sa1 sk1 s.Deps, vl sa2 sk2 s.Transfers, vl sa3 sk3 s.Boundary], vl va0 vk0 v, vi n] [S sa1 sk1 s.Deps, S sa2 sk2 s.Transfers, S sa3 sk3 s.Boundary, S va0 vk0 v] (fun g : Value => i64ok rr.1.Width ∧ i64ok rr.2) (fun g => .tuple #[.agg #[vi rr.1.Width, g], vi rr.2]) (fun g => [sl g rr.1.Words]) := by
 refine FTi Tryz.func69 fun w0 M0 F0 => ?_
 unfold i64ok at hs_0 hn_0
 refine Fb 24 0 fun _ => Fb 88 1 fun _ => Fb 32 2 fun _ => Fb 32 3 fun _ => KS ?_
 refine Oa (Ab [vi s.Width, vl sa1 sk1 s.Deps, vl sa2 sk2 s.Transfers, vl sa3 sk3 s.Boundary]) fun p5 => Oa (Al ze42 [vi 0, .slice none 0 0]) fun p6 => Oq Va (KS ?_)
 refine Oq (VldA sh27 1) ?_
 refine letv (r10_Valid s) fun rv7 hg8 => ?_
 have hc9 := fn36 s sa1 sk1 sa2 sk2 sa3 sk3 pre rv7 hg8
 refine Oc [2, 3, 4] ca36 hc9 ?_
 rintro - -
 refine Oq Vnot (KS ?_)
 refine Kc ?_ ?_
 ·intro h10
  have h12 := not_true h10
  refine KS ?_
  refine Oq (Vbd st42 [vi 0, .slice none 0 0]) (Ost (Scl [0] sh42 [vi 0, .slice none 0 0]) (Oq Va (KS ?_)))
  refine Jl [] (Ent.slNil (α := BitVec 64)) ?_
  have hq := q4 hrr ((GSet.mk 0 []), 1) (by simp only [r10_Right, h10, h12, hg8, cs4]); subst hq
  exact Kr (.slice none 0 0) rfl (.cellN 1 rfl sh42 rfl (reads_Cl _ _) rfl (.tmp rfl .nil)) [0] en
 intro h10
 have h15 := not_false h10
 try (have hvs := (RefValid_iff s).1 (by simp only [h10, h15, hg8]); have hv1 := hvs.n; have hv2 := hvs.tl; have hv3 := hvs.bl; have hv4 := hvs.w)
 refine KS ?_
 refine Oq Vm (Oq Vlss (Oq Vm ?_))
 refine Js 15 ?_ ?_
 ·intro h17
  have g18 := dt h17
  refine Osk (Osk (Osk (Osk (Osk (Oq Vpt (KS ?_))))))
  refine Kt (KS ?_)
  refine Oq (Vbd st42 [vi 0, .slice none 0 0]) (Ost (Scl [0] sh42 [vi 0, .slice none 0 0]) (Oq Va (KS ?_)))
  refine Jl [] (Ent.slNil (α := BitVec 64)) ?_
  have hq := q4 hrr ((GSet.mk 0 []), 9) (by simp only [r10_Right, h10, h15, h17, hg8, cs4]); subst hq
  exact Kr (.slice none 0 0) rfl (.cellN 1 rfl sh42 rfl (reads_Cl _ _) rfl (.tmp rfl .nil)) [0] en
 intro h17
 have g19 := df h17
 refine Oq Vm (Oq (Vfa fo27_3 1) (Oq (VldF sh25 1) (Oq (Vlen sl25) (Oq Vgeq (Oq Vpf (KS ?_))))))
 refine Kc ?_ ?_
 ·intro h20
  have g21 := dt h20
  refine KS ?_
  refine Oq (Vbd st42 [vi 0, .slice none 0 0]) (Ost (Scl [0] sh42 [vi 0, .slice none 0 0]) (Oq Va (KS ?_)))
  refine Jl [] (Ent.slNil (α := BitVec 64)) ?_
  have hq := q4 hrr ((GSet.mk 0 []), 9) (by simp only [r10_Right, h10, h15, h17, h20, hg8, cs4]); subst hq
  exact Kr (.slice none 0 0) rfl (.cellN 1 rfl sh42 rfl (reads_Cl _ _) rfl (.tmp rfl .nil)) [0] en
 intro h20
 have g22 := df h20
 refine KS ?_
 refine Oq (VldA sh27 1) (Oq Vm ?_)
 refine letv (r10_values s v) fun rv23 hg24 => ?_
 have hc25 := fn81 s sa1 sk1 sa2 sk2 sa3 sk3 v va0 vk0 pre rv23 hg24
 refine Oc [2, 3, 4, 5] ca81 hc25 ?_
 rintro - he26
 unfold i64ok at he26
 refine Oq Va (KS ?_)
 refine Oq Vm (Oq Vneq (KS ?_))
 refine Kc ?_ ?_
 ·intro h27
  have g28 := ne_of_bne h27
  refine KS ?_
  refine Oq (Vbd st42 [vi 0, .slice none 0 0]) (Oq Vm (Ost (Scl [0] sh42 [vi 0, .slice none 0 0]) (Oq Va (KS ?_))))
  refine Jl [] (Ent.slNil (α := BitVec 64)) ?_
  have hq := q4 hrr ((GSet.mk 0 []), rv23) (by simp only [r10_Right, h10, h15, h17, h20, h27, hg8, hg24, cs4]); subst hq
  exact Kr (.slice none 0 0) rfl (.cellN 1 rfl sh42 rfl (reads_Cl _ _) rfl (.tmp rfl .nil)) [0] en
 intro h27
 have g29 := eq_of_bne_false h27
 refine KS ?_
 refine Oq (VldA sh27 1) (Oq Vm (Oq Vm ?_))
 refine letv (r10_right s v n) fun rv31 hg32 => ?_
 have hc33 := fn83 s sa1 sk1 sa2 sk2 sa3 sk3 v va0 vk0 n pre pre hvs (values_len aM1) pre rv31 hg32
 refine Oc [2, 3, 4, 5] ca83 hc33 ?_
 rintro c30 he34
 unfold i64ok at he34
 refine Jo 0 ?_; rintro a35 k36 rfl
 refine Fb 8 0 fun _ => ?_
 refine Ost (Scl [1] sh42 [vi rv31.Width, vl a35 k36 rv31.Words]) (Oq Va (KS ?_))
 have hq := q4 hrr (rv31, 0) (by simp only [r10_Right, h10, h15, h17, h20, h27, hg8, hg24, hg32, cs4]); subst hq
 exact Kr (vl a35 k36 rv31.Words) rfl (.cellN 0 rfl sh42 rfl (reads_Cl _ _) rfl (.tmp rfl .nil)) [1] en
theorem fn38 (s : GSystem) (sa1 : Option Addr) (sk1 : Nat) (sa2 : Option Addr) (sk2 : Nat) (sa3 : Option Addr) (sk3 : Nat) (v : List GSet) (va0 : Option Addr) (vk0 : Nat) (hs_0 : i64ok s.Width) (rr : List GSet × Int) (hrr : r10_Next s v = rr) : FT Tryz.prog 38 #[.agg #[vi s.Width, vl sa1 sk1 s.Deps, vl sa2 sk2 s.Transfers, vl sa3 sk3 s.Boundary], vl va0 vk0 v] [S sa1 sk1 s.Deps, S sa2 sk2 s.Transfers, S sa3 sk3 s.Boundary, S va0 vk0 v] (fun g : Value => i64ok rr.2 ∧ (rr.1.length ≤ s.Boundary.length + 1)) (fun g => .tuple #[g, vi rr.2]) (fun g => [sl g rr.1]) := by
 refine FTi Tryz.func38 fun w0 M0 F0 => ?_
 unfold i64ok at hs_0
 refine Fb 24 0 fun _ => Fb 88 1 fun _ => Fb 32 2 fun _ => Fb 32 3 fun _ => KS ?_
 refine Oa (Ab [vi s.Width, vl sa1 sk1 s.Deps, vl sa2 sk2 s.Transfers, vl sa3 sk3 s.Boundary]) fun p5 => Oq Va (Oq Va (KS ?_))
 refine Oq Va (KS ?_)
 refine Oq Va (KS ?_)
 refine Jl [] (Ent.osNil (α := GSet)) ?_
 refine Kl (γ := Nat × List GSet × Int × Option Addr × Nat) (fun (r6, out_7, n_8, a9, k10) => ⟨[(1, vl va0 vk0 v), (2, p5), (6, vl a9 k10 out_7), (7, vi n_8)], [O a9 k10 out_7, pv p5 [vi s.Width, vl sa1 sk1 s.Deps, vl sa2 sk2 s.Transfers, vl sa3 sk3 s.Boundary], S sa1 sk1 s.Deps, S sa2 sk2 s.Transfers, S sa3 sk3 s.Boundary, S va0 vk0 v], r10_Next_L0 s v r6 out_7 n_8 = r10_Next_L0 s v ((((max (s.Boundary.length : Int) 1) : Int) - 0).toNat) [] 0 ∧ r6 = (((max (s.Boundary.length : Int) 1) : Int) - n_8).toNat ∧ (0 : Int) ≤ n_8 ∧ (n_8 ≤ (max (s.Boundary.length : Int) 1) ∨ n_8 = 0) ∧ (-9223372036854775808 ≤ n_8 ∧ n_8 ≤ 9223372036854775807) ∧ (out_7.length : Int) = n_8, r6⟩) ((((max (s.Boundary.length : Int) 1) : Int) - 0).toNat, [], 0, none, 0) [0, 0, 1, 2, 3, 4] ⟨rfl, rfl, aM1, (.inr rfl), aM1, iv0⟩ ?_
 rintro ⟨r6, out_7, n_8, a9, k10⟩ ⟨hM11, hr12, hi13, hi14, hk15, hv16⟩
 refine JJ_nx fun _ _ hL hA => ?_; dsimp only at hL hA; subst hL hA
 refine Fb 32 0 fun _ => Fb 24 2 fun _ => Fb 88 3 fun _ => Fb 32 4 fun _ => Fb 32 5 fun _ => KS ?_
 refine Oq Vm (Oq (Vfa fo27_3 1) (Oq (VldF sh25 1) (Oq (Vlen sl25) (Oq Vmax (Oq Vlss (KS ?_))))))
 refine Kc ?_ ?_
 ·intro h22
  have g23 := dt h22
  obtain ⟨r24, rfl⟩ := scc (n := r6) aM1
  refine KS ?_
  refine Oq (VldA sh27 1) (Oq Vm (Oq Vm ?_))
  refine letv (r10_Right s v n_8) fun rv26 hg27 => ?_
  have hc28 := fn69 s sa1 sk1 sa2 sk2 sa3 sk3 v va0 vk0 n_8 pre pre rv26 hg27
  refine Oc [2, 3, 4, 5] ca69 hc28 ?_
  rintro c25 ⟨he29, he30⟩
  unfold i64ok at he29 he30
  refine Jo 0 ?_; rintro a31 k32 rfl
  refine Fb 8 0 fun _ => ?_
  refine Oq Vm (Oq Vx (Oq Vx (Oa (Al ze42 [vi 0, .slice none 0 0]) fun p34 => Ost (Scl [0] sh42 [vi rv26.1.Width, vl a31 k32 rv26.1.Words]) (Oq Va (KS ?_)))))
  refine Oq Vm (Oq Vneq (KS ?_))
  refine Kc ?_ ?_
  ·intro h35
   have g36 := ne_of_bne h35
   refine KS ?_
   refine Oq Vm (Oq Va (Oq Va (KS ?_)))
   refine Jl [] (Ent.slNil (α := GSet)) ?_
   have hR37 := q2 hM11 (.ret (([] : List GSet), rv26.2)) (by simp only [r10_Next_L0, h22, h35, hg27, cs4])
   have hq := q4 hrr (([] : List GSet), rv26.2) (by simp only [r10_Next, h22, h35, hg27, hR37, cs4]); subst hq
   exact Kr (.slice none 0 0) rfl (.tmp rfl (.tmp rfl .nil)) [0] en
  intro h35
  have g38 := eq_of_bne_false h35
  refine KS ?_
  refine Oq Vm (Oq (VldA sh42 0) (Oa (AsV sl25 sz25 [.agg #[vi rv26.1.Width, vl a31 k32 rv26.1.Words]] [vi rv26.1.Width, vl a31 k32 rv26.1.Words]) fun c39 => ?_))
  refine Jo 0 ?_; rintro a40 k41 rfl
  refine Jl [0, 1] (Ent.cr1 (α := GSet) (A := [S a31 k32 rv26.1.Words]) _ rv26.1 _ aB1 (fun h => ⟨_, rfl, aL1, sepAll_get (i := 0) rfl h⟩)) ?_
  refine Oa (ApO [4, 0] sl25 sl25 sz25) fun c42 => ?_
  refine Jo 0 ?_; rintro a43 k44 rfl
  refine Fb 32 0 fun _ => ?_
  have hn46 := la out_7 ([rv26.1] : List GSet)
  refine Oq Va (KS ?_)
  refine Oq Vm (Oq Vadd (Oq Va (KS ?_)))
  exact Kg (r24, (out_7 ++ [rv26.1]), (n_8 + 1), a43, k44) [0, 3, 4, 5, 6, 7] ⟨(q3 hM11 (by simp only [r10_Next_L0, h22, h35, hg27, cs4])), aM1, aM1, aM1, aM1, iv1⟩
 intro h22
 have g47 := df h22
 obtain rfl : r6 = 0 := by omega
 refine Ke ?_
 have hR48 := q2 hM11 (.brk out_7) (by simp only [r10_Next_L0, h22, cs4])
 refine KS ?_
 refine Oq Vm (Oq Va (Oq Va (KS ?_)))
 refine Jl [0] (Ent.freeze _ _) ?_
 have hq := q4 hrr (out_7, 0) (by simp only [r10_Next, h22, hR48, cs4]); subst hq
 exact Kr (vl a9 k10 out_7) rfl (.tmp rfl (.tmp rfl .nil)) [0] en
theorem fn70 (a : GSet) (aa1 : Option Addr) (ak1 : Nat) (b : GSet) (ba1 : Option Addr) (bk1 : Nat) (ha_0 : i64ok a.Width) (hb_0 : i64ok b.Width) (rr : Bool) (hrr : r1_Same a b = rr) : FT Tryz.prog 70 #[.agg #[vi a.Width, vl aa1 ak1 a.Words], .agg #[vi b.Width, vl ba1 bk1 b.Words]] [S aa1 ak1 a.Words, S ba1 bk1 b.Words] (fun g : Unit => True) (fun g => vb rr) (fun g => []) := by
 refine FTi Tryz.func70 fun w0 M0 F0 => ?_
 unfold i64ok at ha_0 hb_0
 refine Fb 8 0 fun _ => Fb 8 1 fun _ => KS ?_
 refine Oa (Ab [vi a.Width, vl aa1 ak1 a.Words]) fun p3 => Oa (Ab [vi b.Width, vl ba1 bk1 b.Words]) fun p4 => Oq Va (KS ?_)
 refine Oq (Vfa fo42_0 1) (Oq (VldF sh3 1) (Oq (Vfa fo42_0 0) (Oq (VldF sh3 0) (Oq Vneq (Oq Vm ?_)))))
 refine Js 11 ?_ ?_
 ·intro h5
  have g6 := ne_of_bne h5
  refine Osk (Osk (Osk (Osk (Osk (Osk (Osk (Oq Vpt (KS ?_))))))))
  refine Kt (KS ?_)
  refine Oq Va (KS ?_)
  have hq := q4 hrr false (by simp only [r1_Same, h5, cs4]); subst hq
  exact Kr () rfl (.tmp rfl .nil) [] trivial
 intro h5
 have g7 := eq_of_bne_false h5
 refine Oq (Vfa fo42_1 1) (Oq (VldF sh40 1) (Oq (Vlen sl40) (Oq (Vfa fo42_1 0) (Oq (VldF sh40 0) (Oq (Vlen sl40) (Oq Vneq (Oq Vpf (KS ?_))))))))
 refine Kc ?_ ?_
 ·intro h8
  have g9 := ne_of_bne h8
  refine KS ?_
  refine Oq Va (KS ?_)
  have hq := q4 hrr false (by simp only [r1_Same, h5, h8, cs4]); subst hq
  exact Kr () rfl (.tmp rfl .nil) [] trivial
 intro h8
 have g10 := eq_of_bne_false h8
 refine KS ?_
 refine Oq Va (KS ?_)
 refine Kl (γ := Nat × Int) (fun (r11, i_12) => ⟨[(2, p3), (3, p4), (5, vi i_12)], [pv p4 [vi b.Width, vl ba1 bk1 b.Words], pv p3 [vi a.Width, vl aa1 ak1 a.Words], S aa1 ak1 a.Words, S ba1 bk1 b.Words], r1_Same_L0 a b r11 i_12 = r1_Same_L0 a b (((a.Words.length : Int) - 0).toNat) 0 ∧ r11 = ((a.Words.length : Int) - i_12).toNat ∧ (0 : Int) ≤ i_12 ∧ i_12 ≤ (a.Words.length : Int) ∧ (-9223372036854775808 ≤ i_12 ∧ i_12 ≤ 9223372036854775807), r11⟩) (((a.Words.length : Int) - 0).toNat, 0) [0, 1, 2, 3] ⟨rfl, rfl, aM1, aM1, aM1⟩ ?_
 rintro ⟨r11, i_12⟩ ⟨hM13, hr14, hi15, hi16, hk17⟩
 refine JJ_nx fun _ _ hL hA => ?_; dsimp only at hL hA; subst hL hA
 refine Fb 8 2 fun _ => Fb 8 3 fun _ => KS ?_
 refine Oq Vm (Oq (Vfa fo42_1 1) (Oq (VldF sh40 1) (Oq (Vlen sl40) (Oq Vlss (KS ?_)))))
 refine Kc ?_ ?_
 ·intro h20
  have g21 := dt h20
  obtain ⟨r22, rfl⟩ := scc (n := r11) aM1
  refine KS ?_
  refine Kq [0, 1, 0, 7, 15, 0, 32, 0, 224, 480, 1023] fmix ?_
  refine Qv [1] (Vfa fo42_1 0) (Qv [1] (VldF sh40 0) (Qv [] Vm (Qv [2] (Vi sl40 0) (Qv [2] (VldU sh91 0) (Qv [0] (Vfa fo42_1 0) (Qv [0] (VldF sh40 0) (Qv [] Vm (Qv [3] (Vi sl40 0) (Qv [3] (VldU sh91 0) ?_)))))))))
  refine Qv [] VneqU ?_
  refine Qn ⟨by kernel_rfl, ?_⟩
  refine Kc ?_ ?_
  ·intro h23
   have g24 := ne_of_bne h23
   refine KS ?_
   refine Oq Va (KS ?_)
   have hR25 := q2 hM13 (.ret false) (by simp only [r1_Same_L0, h20, h23, cs4])
   have hq := q4 hrr false (by simp only [r1_Same, h5, h8, h20, h23, hR25, cs4]); subst hq
   exact Kr () rfl (.tmp rfl .nil) [] trivial
  intro h23
  have g26 := eq_of_bne_false h23
  refine KS ?_
  refine Oq Vm (Oq Vadd (Oq Va (KS ?_)))
  exact Kg (r22, (i_12 + 1)) [0, 1, 2, 3] ⟨(q3 hM13 (by simp only [r1_Same_L0, h20, h23, cs4])), aM1, aM1, aM1, aM1⟩
 intro h20
 have g27 := df h20
 obtain rfl : r11 = 0 := by omega
 refine Ke ?_
 have hR28 := q2 hM13 (.brk ()) (by simp only [r1_Same_L0, h20, cs4])
 refine KS ?_
 refine Oq Va (KS ?_)
 have hq := q4 hrr true (by simp only [r1_Same, h5, h8, h20, hR28, cs4]); subst hq
 exact Kr () rfl (.tmp rfl .nil) [] trivial
theorem fn39 (a : List GSet) (aa0 : Option Addr) (ak0 : Nat) (b : List GSet) (ba0 : Option Addr) (bk0 : Nat) (rr : Bool) (hrr : r10_SameSets a b = rr) : FT Tryz.prog 39 #[vl aa0 ak0 a, vl ba0 bk0 b] [S aa0 ak0 a, S ba0 bk0 b] (fun g : Unit => True) (fun g => vb rr) (fun g => []) := by
 refine FTi Tryz.func39 fun w0 M0 F0 => Fb 32 0 fun _ => Fb 32 1 fun _ => ?_
 refine KS ?_
 refine Oq Va (KS ?_)
 refine Oq Vm (Oq (Vlen sl25) (Oq Vm (Oq (Vlen sl25) (Oq Vneq (KS ?_)))))
 refine Kc ?_ ?_
 ·intro h3
  have g4 := ne_of_bne h3
  refine KS ?_
  refine Oq Va (KS ?_)
  have hq := q4 hrr false (by simp only [r10_SameSets, h3, cs4]); subst hq
  exact Kr () rfl (.tmp rfl .nil) [] trivial
 intro h3
 have g5 := eq_of_bne_false h3
 refine KS ?_
 refine Oq Va (KS ?_)
 refine Kl (γ := Nat × Int) (fun (r6, i_7) => ⟨[(0, vl aa0 ak0 a), (1, vl ba0 bk0 b), (5, vi i_7)], [S aa0 ak0 a, S ba0 bk0 b], r10_SameSets_L0 a b r6 i_7 = r10_SameSets_L0 a b (((a.length : Int) - 0).toNat) 0 ∧ r6 = ((a.length : Int) - i_7).toNat ∧ (0 : Int) ≤ i_7 ∧ i_7 ≤ (a.length : Int) ∧ (-9223372036854775808 ≤ i_7 ∧ i_7 ≤ 9223372036854775807), r6⟩) (((a.length : Int) - 0).toNat, 0) [0, 1] ⟨rfl, rfl, aM1, aM1, aM1⟩ ?_
 rintro ⟨r6, i_7⟩ ⟨hM8, hr9, hi10, hi11, hk12⟩
 refine JJ_nx fun _ _ hL hA => ?_; dsimp only at hL hA; subst hL hA
 refine Fb 32 0 fun _ => Fb 32 1 fun _ => KS ?_
 refine Oq Vm (Oq Vm (Oq (Vlen sl25) (Oq Vlss (KS ?_))))
 refine Kc ?_ ?_
 ·intro h15
  have g16 := dt h15
  obtain ⟨r17, rfl⟩ := scc (n := r6) aM1
  refine KS ?_
  refine JJ_peek_GSet i_7.toNat 0 rfl rng fun a18 k19 hb20 => ?_
  unfold i64ok at hb20
  refine Fb 8 1 fun _ => ?_
  refine JJ_peek_GSet i_7.toNat 3 rfl rng fun a22 k23 hb24 => ?_
  unfold i64ok at hb24
  refine Fb 8 1 fun _ => ?_
  refine JK_drawK [0, 0, 3, 7, 0, 0, 48, 112, 255, 511] fmix ?_
  refine Dv [] Vm (Dv [] Vm (Dv [4] (Vi sl25 0) (Dv [2] (VldA sh42 0) (Dv [] Vm (Dv [] Vm (Dv [5] (Vi sl25 0) (Dv [0] (VldA sh42 0) ?_)))))))
  refine letv (r1_Same (a.getD i_7.toNat default) (b.getD i_7.toNat default)) fun rv26 hg27 => ?_
  refine Dx [1, 3] [] [1, 2, 0] (fun G => vb rv26) [fun G => SP.fact (True)] (fun G => xC [1, 0] ca70 (fn70 ((a.getD i_7.toNat default)) a18 k19 ((b.getD i_7.toNat default)) a22 k23 pre pre rv26 hg27)) (Dv [] Vnot ?_)
  refine Dn ⟨by kernel_rfl, fun G => ?_⟩
  refine Jw2 [(0, vl aa0 ak0 a), (1, vl ba0 bk0 b), (5, vi i_7), (26, vb (!rv26))] [0, 1, 2, 3, 4, 5] [SP.fact (True)] ?_
  refine Jk [0, 1, 2, 3, 4, 5] ?_
  refine Kc ?_ ?_
  ·intro h28
   have h30 := not_true h28
   refine KS ?_
   refine Oq Va (KS ?_)
   have hR32 := q2 hM8 (.ret false) (by simp only [r10_SameSets_L0, h15, h28, h30, hg27, cs4])
   have hq := q4 hrr false (by simp only [r10_SameSets, h3, h15, h28, h30, hg27, hR32, cs4]); subst hq
   exact Kr () rfl (.tmp rfl .nil) [] trivial
  intro h28
  have h34 := not_false h28
  refine KS ?_
  refine Oq Vm (Oq Vadd (Oq Va (KS ?_)))
  exact Kg (r17, (i_7 + 1)) [4, 5] ⟨(q3 hM8 (by simp only [r10_SameSets_L0, h15, h28, h34, hg27, cs4])), aM1, aM1, aM1, aM1⟩
 intro h15
 have g36 := df h15
 obtain rfl : r6 = 0 := by omega
 refine Ke ?_
 have hR37 := q2 hM8 (.brk ()) (by simp only [r10_SameSets_L0, h15, cs4])
 refine KS ?_
 refine Oq Va (KS ?_)
 have hq := q4 hrr true (by simp only [r10_SameSets, h3, h15, hR37, cs4]); subst hq
 exact Kr () rfl (.tmp rfl .nil) [] trivial
theorem fn11 (s : GSystem) (sa1 : Option Addr) (sk1 : Nat) (sa2 : Option Addr) (sk2 : Nat) (sa3 : Option Addr) (sk3 : Nat) (hs_0 : i64ok s.Width) (rr : List GSet × Int × Int) (hrr : r10_Solve s = rr) : FT Tryz.prog 11 #[.agg #[vi s.Width, vl sa1 sk1 s.Deps, vl sa2 sk2 s.Transfers, vl sa3 sk3 s.Boundary]] [S sa1 sk1 s.Deps, S sa2 sk2 s.Transfers, S sa3 sk3 s.Boundary] (fun g : Value => i64ok rr.2.1 ∧ i64ok rr.2.2 ∧ (rr.1.length ≤ 257)) (fun g => .tuple #[g, vi rr.2.1, vi rr.2.2]) (fun g => [sl g rr.1]) := by
 refine FTi Tryz.func11 fun w0 M0 F0 => ?_
 unfold i64ok at hs_0
 refine Fb 24 0 fun _ => Fb 88 1 fun _ => Fb 32 2 fun _ => KS ?_
 refine Oa (Ab [vi s.Width, vl sa1 sk1 s.Deps, vl sa2 sk2 s.Transfers, vl sa3 sk3 s.Boundary]) fun p4 => Oq Va (Oq Va (Oq Va (KS ?_)))
 refine Oq (VldA sh27 0) ?_
 refine letv (r10_Valid s) fun rv5 hg6 => ?_
 have hc7 := fn36 s sa1 sk1 sa2 sk2 sa3 sk3 pre rv5 hg6
 refine Oc [1, 2, 3] ca36 hc7 ?_
 rintro - -
 refine Oq Vnot (KS ?_)
 refine Kc ?_ ?_
 ·intro h8
  have h10 := not_true h8
  refine KS ?_
  refine Oq Va (Oq Va (Oq Va (KS ?_)))
  refine Jl [] (Ent.slNil (α := GSet)) ?_
  have hq := q4 hrr (([] : List GSet), 0, 1) (by simp only [r10_Solve, h8, h10, hg6, cs4]); subst hq
  exact Kr (.slice none 0 0) rfl (.tmp rfl (.tmp rfl (.tmp rfl .nil))) [0] en
 intro h8
 have h13 := not_false h8
 try (have hvs := (RefValid_iff s).1 (by simp only [h8, h13, hg6]); have hv1 := hvs.n; have hv3 := hvs.bl; have hv4 := hvs.w; have hbb : s.Boundary.length * s.Width.toNat ≤ 256 * 256 := Nat.mul_le_mul aM1 aM1)
 refine KS ?_
 refine Oq (VldA sh27 0) ?_
 refine letv (r10_Empty s) fun rv16 hg17 => ?_
 have hc18 := fn37 s sa1 sk1 sa2 sk2 sa3 sk3 pre pre rv16 hg17
 refine Oc [1, 2, 3] ca37 hc18 ?_
 rintro c15 he19
 refine Jo 0 ?_; rintro a20 k21 rfl
 refine Fb 32 0 fun _ => ?_
 refine Oq Va (KS ?_)
 refine Oq Va (KS ?_)
 have hterm32 : r10_Solve_L0 s (s.Boundary.length * s.Width.toNat + 2) rv16 0 ≠ LR.oof := (Solve_term (by simp only [h8, h13, hg6, hg17]) (by assumption))
 refine Kl (γ := Nat × List GSet × Int × Option Addr × Nat) (fun (r23, v_24, round_25, a26, k27) => ⟨[(1, p4), (5, vl a26 k27 v_24), (6, vi round_25)], [S a26 k27 v_24, pv p4 [vi s.Width, vl sa1 sk1 s.Deps, vl sa2 sk2 s.Transfers, vl sa3 sk3 s.Boundary], S sa1 sk1 s.Deps, S sa2 sk2 s.Transfers, S sa3 sk3 s.Boundary], r10_Solve_L0 s r23 v_24 round_25 = r10_Solve_L0 s (s.Boundary.length * s.Width.toNat + 2) rv16 0 ∧ (-9223372036854775808 ≤ round_25 ∧ round_25 ≤ 9223372036854775807) ∧ 0 ≤ round_25 ∧ round_25 + (r23 : Int) = ((s.Boundary.length * s.Width.toNat + 2 : Nat) : Int) ∧ v_24.length ≤ s.Boundary.length + 1, r23⟩) ((s.Boundary.length * s.Width.toNat + 2), rv16, 0, a20, k21) [0, 1, 2, 3, 4] ⟨rfl, aM1, iv0, iv0⟩ ?_
 rintro ⟨r23, v_24, round_25, a26, k27⟩ ⟨hM28, hk29, hv30, hv31⟩
 refine JJ_nx fun _ _ hL hA => ?_; dsimp only at hL hA; subst hL hA
 refine Fb 32 0 fun _ => Fb 24 2 fun _ => Fb 88 3 fun _ => Fb 32 4 fun _ => ?_
 rcases r23 with _ | r23
 ·exact absurd (hM28.symm.trans rfl) hterm32
 refine KS ?_
 refine Oq (VldA sh27 1) (Oq Vm ?_)
 refine letv (r10_Next s v_24) fun rv38 hg39 => ?_
 have hc40 := fn38 s sa1 sk1 sa2 sk2 sa3 sk3 v_24 a26 k27 pre rv38 hg39
 refine Oc [2, 3, 4, 0] ca38 hc40 ?_
 rintro c37 ⟨he41, he42⟩
 unfold i64ok at he41
 refine Jo 0 ?_; rintro a43 k44 rfl
 refine Fb 32 0 fun _ => ?_
 refine Oq Vm (Oq Vx (Oq Vx (Oq Va (Oq Va (KS ?_)))))
 refine Oq Vm (Oq Vm ?_)
 refine letv (r10_SameSets rv38.1 v_24) fun rv46 hg47 => ?_
 have hc48 := fn39 rv38.1 a43 k44 v_24 a26 k27 rv46 hg47
 refine Oc [0, 1] ca39 hc48 ?_
 rintro - -
 refine KS ?_
 refine Kc ?_ ?_
 ·intro h49
  try (have hvs := (RefValid_iff s).1 (by simp only [h8, h13, h49, hg6, hg17, hg39, hg47]); have hv1 := hvs.n; have hv3 := hvs.bl; have hv4 := hvs.w; have hbb : s.Boundary.length * s.Width.toNat ≤ 256 * 256 := Nat.mul_le_mul aM1 aM1)
  refine KS ?_
  refine Oq Vm (Oq Vm (Oq Va (Oq Va (Oq Va (KS ?_)))))
  have hR51 := q2 hM28 (.ret (v_24, round_25, 0)) (by simp only [r10_Solve_L0, h49, hg39, hg47, cs4])
  have hq := q4 hrr (v_24, round_25, 0) (by simp only [r10_Solve, h8, h13, h49, hg6, hg17, hg39, hg47, hR51, cs4]); subst hq
  exact Kr (vl a26 k27 v_24) rfl (.tmp rfl (.tmp rfl (.tmp rfl .nil))) [1] en
 intro h49
 refine KS ?_
 refine Oq Vm (Oq Va (KS ?_))
 refine Oq Vm (Oq Vadd (Oq Va (KS ?_)))
 exact Kg (r23, rv38.1, (round_25 + 1), a43, k44) [0, 2, 3, 4, 5] ⟨(q3 hM28 (by simp only [r10_Solve_L0, h49, hg39, hg47, cs4])), aM1, iv1, iv1⟩
theorem fn93 (width : Int) (n : Int) (hwidth_0 : i64ok width) (hn_0 : i64ok n) (rr : Bool) (hrr : eq_sized width n = rr) : FT Tryz.prog 93 #[vi width, vi n] [] (fun g : Unit => True) (fun g => vb rr) (fun g => []) := by
 refine FTi Tryz.func93 fun w0 M0 F0 => ?_
 unfold i64ok at hwidth_0 hn_0
 refine KS ?_
 refine Oq Va (KS ?_)
 refine Oq Vm (Oq Vgeq (Oq Vm ?_))
 refine Js 7 ?_ ?_
 ·intro h1
  have g2 := dt h1
  refine Oq Vm (Oq Vleq (Oq Vpt (Oq Vm ?_)))
  refine Js 11 ?_ ?_
  ·intro h3
   have g4 := dt h3
   refine Oq Vm (Oq Vgeq (Oq Vpt (Oq Vm ?_)))
   refine Js 15 ?_ ?_
   ·intro h5
    have g6 := dt h5
    refine Oq Vm (Oq Vleq (Oq Vpt (Oq Va (KS ?_))))
    have hq := q4 hrr (decide (n ≤ 256)) (by simp only [eq_sized, h1, h3, h5, cs4]); subst hq
    exact Kr () rfl (.tmp rfl .nil) [] trivial
   intro h5
   have g7 := df h5
   refine Osk (Osk (Oq Vpf (Oq Va (KS ?_))))
   have hq := q4 hrr false (by simp only [eq_sized, h1, h3, h5, cs4]); subst hq
   exact Kr () rfl (.tmp rfl .nil) [] trivial
  intro h3
  have g8 := df h3
  refine Osk (Osk (Oq Vpf (Oq Vm (Osk (Osk (Oq Vpf (Oq Va (KS ?_))))))))
  have hq := q4 hrr false (by simp only [eq_sized, h1, h3, cs4]); subst hq
  exact Kr () rfl (.tmp rfl .nil) [] trivial
 intro h1
 have g9 := df h1
 refine Osk (Osk (Oq Vpf (Oq Vm (Osk (Osk (Oq Vpf (Oq Vm (Osk (Osk ?_)))))))))
 refine Oq Vpf (Oq Va (KS ?_))
 have hq := q4 hrr false (by simp only [eq_sized, h1, cs4]); subst hq
 exact Kr () rfl (.tmp rfl .nil) [] trivial
theorem fn94 (l : List Int) (la0 : Option Addr) (lk0 : Nat) (n : Int) (hn_0 : i64ok n) (rr : Bool) (hrr : eq_ascending l n = rr) : FT Tryz.prog 94 #[vl la0 lk0 l, vi n] [S la0 lk0 l] (fun g : Unit => True) (fun g => vb rr) (fun g => []) := by
 refine FTi Tryz.func94 fun w0 M0 F0 => ?_
 unfold i64ok at hn_0
 refine Fb 8 0 fun _ => Fo 0 fun ho2 => KS ?_
 refine Oq Va (KS ?_)
 refine Oq Vm (Oq (Vlen sl22) (Oq Vm (KS ?_)))
 refine Kl (γ := Nat × Int) (fun (r3, v9_4) => ⟨[(0, vl la0 lk0 l), (1, vi n), (7, vl la0 lk0 l), (8, vi (l.length : Int)), (9, vi v9_4)], [S la0 lk0 l], eq_ascending_L0 l n r3 v9_4 = eq_ascending_L0 l n (((l.length : Int) - 0).toNat) 0 ∧ r3 = ((l.length : Int) - v9_4).toNat ∧ (0 : Int) ≤ v9_4 ∧ v9_4 ≤ (l.length : Int) ∧ (-9223372036854775808 ≤ v9_4 ∧ v9_4 ≤ 9223372036854775807), r3⟩) (((l.length : Int) - 0).toNat, 0) [0] ⟨rfl, rfl, aM1, aM1, aM1⟩ ?_
 rintro ⟨r3, v9_4⟩ ⟨hM5, hr6, hi7, hi8, hk9⟩
 refine JJ_nx fun _ _ hL hA => ?_; dsimp only at hL hA; subst hL hA
 refine Fb 8 0 fun _ => Fo 0 fun ho11 => KS ?_
 refine Oq Vlss (KS ?_)
 refine Kc ?_ ?_
 ·intro h12
  have g13 := dt h12
  obtain ⟨r14, rfl⟩ := scc (n := r3) aM1
  refine KS ?_
  refine Oq Vm (Oq (Vi sl22 0) ?_)
  have hb15 := ok1 (i := v9_4.toNat) ho11 rng
  refine Oq (VldI sh3 0) (Oq Va (Oq Va (KS ?_)))
  refine Oq Vm (Oq Vlss (Oq Vm ?_))
  refine Js 16 ?_ ?_
  ·intro h16
   have g17 := dt h16
   refine Osk (Osk (Osk (Oq Vpt (Oq Vm (Osk (Osk (Osk (Osk (Osk ?_)))))))))
   refine Osk (Osk (Osk (Osk (Osk (Osk (Oq Vpt (KS ?_)))))))
   refine Kt (KS ?_)
   refine Oq Va (KS ?_)
   have hR18 := q2 hM5 (.ret false) (by simp only [eq_ascending_L0, h12, h16, cs4])
   have hq := q4 hrr false (by simp only [eq_ascending, h12, h16, hR18, cs4]); subst hq
   exact Kr () rfl (.tmp rfl .nil) [] trivial
  intro h16
  have g19 := df h16
  refine Oq Vm (Oq Vm (Oq Vgeq (Oq Vpf (Oq Vm ?_))))
  refine Js 21 ?_ ?_
  ·intro h20
   have g21 := dt h20
   refine Osk (Osk (Osk (Osk (Osk (Osk (Osk (Osk (Osk (Osk ?_)))))))))
   refine Osk (Oq Vpt (KS ?_))
   refine Kt (KS ?_)
   refine Oq Va (KS ?_)
   have hR22 := q2 hM5 (.ret false) (by simp only [eq_ascending_L0, h12, h16, h20, cs4])
   have hq := q4 hrr false (by simp only [eq_ascending, h12, h16, h20, hR22, cs4]); subst hq
   exact Kr () rfl (.tmp rfl .nil) [] trivial
  intro h20
  have g23 := df h20
  refine Oq Vm (Oq Vgtr (Oq Vm ?_))
  refine Js 24 ?_ ?_
  ·intro h24
   have g25 := dt h24
   refine Oq Vm (Oq Vm (Oq Vm (Oq Vsub (Oq (Vi sl22 0) ?_))))
   have hb26 := ok1 (i := ((v9_4 - 1) : Int).toNat) ho11 rng
   refine Oq (VldI sh3 0) (Oq Vleq (Oq Vpt (Oq Vpf (KS ?_))))
   refine Kc ?_ ?_
   ·intro h27
    have g28 := dt h27
    refine KS ?_
    refine Oq Va (KS ?_)
    have hR29 := q2 hM5 (.ret false) (by simp only [eq_ascending_L0, h12, h16, h20, h24, h27, cs4])
    have hq := q4 hrr false (by simp only [eq_ascending, h12, h16, h20, h24, h27, hR29, cs4]); subst hq
    exact Kr () rfl (.tmp rfl .nil) [] trivial
   intro h27
   have g30 := df h27
   refine KS ?_
   refine Oq Vadd (Oq Vm (KS ?_))
   exact Kg (r14, (v9_4 + 1)) [0] ⟨(q3 hM5 (by simp only [eq_ascending_L0, h12, h16, h20, h24, h27, cs4])), aM1, aM1, aM1, aM1⟩
  intro h24
  have g31 := df h24
  refine Osk (Osk (Osk (Osk (Osk (Osk (Osk (Oq Vpf (Oq Vpf (KS ?_)))))))))
  refine Kf (KS ?_)
  refine Oq Vadd (Oq Vm (KS ?_))
  exact Kg (r14, (v9_4 + 1)) [0] ⟨(q3 hM5 (by simp only [eq_ascending_L0, h12, h16, h20, h24, cs4])), aM1, aM1, aM1, aM1⟩
 intro h12
 have g32 := df h12
 obtain rfl : r3 = 0 := by omega
 refine Ke ?_
 have hR33 := q2 hM5 (.brk ()) (by simp only [eq_ascending_L0, h12, cs4])
 refine KS ?_
 refine Oq Va (KS ?_)
 have hq := q4 hrr true (by simp only [eq_ascending, h12, hR33, cs4]); subst hq
 exact Kr () rfl (.tmp rfl .nil) [] trivial
theorem fn170 (s : List GSet) (sa0 : Option Addr) (sk0 : Nat) (fF : FuncId) (fC : List Value) (fp : GSet → Bool) (fA : List SP) (hfc : callable Tryz.prog fF = true) (hfF : ∀ x ∈ s, ∀ (a1 : Option Addr) (k1 : Nat), i64ok x.Width → FT Tryz.prog fF ([(.agg #[vi x.Width, vl a1 k1 x.Words] : Value)] ++ fC).toArray ([S a1 k1 x.Words] ++ [pAll fA]) (fun _ : Unit => True) (fun _ => .bool (fp x)) (fun _ => [])) (rr : Int) (hrr : sc_IndexFunc_Set s fp = rr) : FT Tryz.prog 170 #[vl sa0 sk0 s, .func (.func fF) #[] fC.toArray] [S sa0 sk0 s, pAll fA] (fun g : Unit => i64ok rr) (fun g => vi rr) (fun g => []) := by
 refine FTi Tryz.func170 fun w0 M0 F0 => Fb 32 0 fun _ => ?_
 refine KS ?_
 refine Oq Va (KS ?_)
 refine Oq Vm (Oq (Vlen sl25) (Oq Vm (KS ?_)))
 refine Kl (γ := Nat × Int) (fun (r2, v8_3) => ⟨[(0, vl sa0 sk0 s), (1, .func (.func fF) #[] fC.toArray), (7, vi (s.length : Int)), (8, vi v8_3)], [S sa0 sk0 s, pAll fA], sc_IndexFunc_Set_L0 s fp r2 v8_3 = sc_IndexFunc_Set_L0 s fp (((s.length : Int) - 0).toNat) 0 ∧ r2 = ((s.length : Int) - v8_3).toNat ∧ (0 : Int) ≤ v8_3 ∧ v8_3 ≤ (s.length : Int) ∧ (-9223372036854775808 ≤ v8_3 ∧ v8_3 ≤ 9223372036854775807), r2⟩) (((s.length : Int) - 0).toNat, 0) [0, 1] ⟨rfl, rfl, aM1, aM1, aM1⟩ ?_
 rintro ⟨r2, v8_3⟩ ⟨hM4, hr5, hi6, hi7, hk8⟩
 refine JJ_nx fun _ _ hL hA => ?_; dsimp only at hL hA; subst hL hA
 refine Fb 32 0 fun _ => KS ?_
 refine Oq Vlss (KS ?_)
 refine Kc ?_ ?_
 ·intro h10
  have g11 := dt h10
  obtain ⟨r12, rfl⟩ := scc (n := r2) aM1
  refine KS ?_
  refine Oq Vm (Oq Va (KS ?_))
  refine Oq Vm (Oq Vm (Oq Vm (Oq (Vi sl25 0) ?_)))
  refine JJ_peek_GSet v8_3.toNat 0 rfl rng fun a13 k14 hb15 => ?_
  unfold i64ok at hb15
  refine Fb 8 1 fun _ => Oq (VldA sh42 0) ?_
  refine JO_call [1, 3] rfl rfl rfl (OpC.clo (asv := [(.agg #[vi ((s.getD v8_3.toNat default).Width), vl a13 k14 ((s.getD v8_3.toNat default).Words)] : Value)] ++ fC) rfl rfl hfc rfl (by simp)) (hfF (s.getD v8_3.toNat default) (getD_mem rng) a13 k14 pre) rfl fun _ _ => ?_
  refine KS ?_
  refine Kc ?_ ?_
  ·intro h17
   refine KS ?_
   refine Oq Vm (Oq Va (KS ?_))
   have hR19 := q2 hM4 (.ret v8_3) (by simp only [sc_IndexFunc_Set_L0, h10, h17, cs4])
   have hq := q4 hrr v8_3 (by simp only [sc_IndexFunc_Set, h10, h17, hR19, cs4]); subst hq
   exact Kr () rfl (.tmp rfl .nil) [] en
  intro h17
  refine KS ?_
  refine Oq Vadd (Oq Vm (KS ?_))
  exact Kg (r12, (v8_3 + 1)) [2, 3] ⟨(q3 hM4 (by simp only [sc_IndexFunc_Set_L0, h10, h17, cs4])), aM1, aM1, aM1, aM1⟩
 intro h10
 have g21 := df h10
 obtain rfl : r2 = 0 := by omega
 refine Ke ?_
 have hR22 := q2 hM4 (.brk ()) (by simp only [sc_IndexFunc_Set_L0, h10, cs4])
 refine KS ?_
 refine Oq Va (KS ?_)
 have hq := q4 hrr (-1) (by simp only [sc_IndexFunc_Set, h10, hR22, cs4]); subst hq
 exact Kr () rfl (.tmp rfl .nil) [] en
theorem fn135 (s : List GSet) (sa0 : Option Addr) (sk0 : Nat) (fF : FuncId) (fC : List Value) (fp : GSet → Bool) (fA : List SP) (hfc : callable Tryz.prog fF = true) (hfF : ∀ x ∈ s, ∀ (a1 : Option Addr) (k1 : Nat), i64ok x.Width → FT Tryz.prog fF ([(.agg #[vi x.Width, vl a1 k1 x.Words] : Value)] ++ fC).toArray ([S a1 k1 x.Words] ++ [pAll fA]) (fun _ : Unit => True) (fun _ => .bool (fp x)) (fun _ => [])) (rr : Bool) (hrr : sc_ContainsFunc_Set s fp = rr) : FT Tryz.prog 135 #[vl sa0 sk0 s, .func (.func fF) #[] fC.toArray] [S sa0 sk0 s, pAll fA] (fun g : Unit => True) (fun g => vb rr) (fun g => []) := by
 refine FTi Tryz.func135 fun w0 M0 F0 => Fb 32 0 fun _ => ?_
 refine KS ?_
 refine Oq Va (KS ?_)
 refine Oq Vm (Oq Vm ?_)
 refine letv (sc_IndexFunc_Set s fp) fun rv2 hg3 => ?_
 have hc4 := fn170 s sa0 sk0 fF fC fp fA hfc hfF rv2 hg3
 refine Oc [0, 1] ca170 hc4 ?_
 rintro - he5
 unfold i64ok at he5
 refine Oq Vgeq (Oq Va (KS ?_))
 have hq := q4 hrr (decide (0 ≤ rv2)) (by simp only [sc_ContainsFunc_Set, hg3, cs4]); subst hq
 exact Kr () rfl (.tmp rfl .nil) [] trivial
theorem fn113 (width : Int) (hwidth_0 : i64ok width) (rr : Bool) (hrr : bt_ranged width = rr) : FT Tryz.prog 113 #[vi width] [] (fun g : Unit => True) (fun g => vb rr) (fun g => []) := by
 refine FTi Tryz.func113 fun w0 M0 F0 => ?_
 unfold i64ok at hwidth_0
 refine KS ?_
 refine Oq Va (KS ?_)
 refine Oq Vm (Oq Vgeq (Oq Vm ?_))
 refine Js 5 ?_ ?_
 ·intro h1
  have g2 := dt h1
  refine Oq Vm (Oq Vleq (Oq Vpt (Oq Va (KS ?_))))
  have hq := q4 hrr (decide (width ≤ 256)) (by simp only [bt_ranged, h1, cs4]); subst hq
  exact Kr () rfl (.tmp rfl .nil) [] trivial
 intro h1
 have g3 := df h1
 refine Osk (Osk (Oq Vpf (Oq Va (KS ?_))))
 have hq := q4 hrr false (by simp only [bt_ranged, h1, cs4]); subst hq
 exact Kr () rfl (.tmp rfl .nil) [] trivial
theorem fn114 (width : Int) (hwidth_0 : i64ok width) (hw0 : 0 ≤ width ∧ width ≤ 1000000) (rr : Int) (hrr : bt_words width = rr) : FT Tryz.prog 114 #[vi width] [] (fun g : Unit => i64ok rr ∧ (rr = (width + 63) / 64)) (fun g => vi rr) (fun g => []) := by
 refine FTi Tryz.func114 fun w0 M0 F0 => ?_
 unfold i64ok at hwidth_0
 refine KS ?_
 refine Oq Va (KS ?_)
 refine Oq Vm (Oq Vadd (Oq Vsub (Oq Vquo (Oq Va (KS ?_)))))
 have hq := q4 hrr (((width + 64) - 1) / 64) (by simp only [bt_words, cs4]); subst hq
 exact Kr () rfl (.tmp rfl .nil) [] en
theorem fn115 (width : Int) (hwidth_0 : i64ok width) (rr : BitVec 64) (hrr : bt_spare width = rr) : FT Tryz.prog 115 #[vi width] [] (fun g : Unit => True) (fun g => u64 rr) (fun g => []) := by
 refine FTi Tryz.func115 fun w0 M0 F0 => ?_
 unfold i64ok at hwidth_0
 refine KS ?_
 refine Oq Va (KS ?_)
 refine Oq Vm (Oq (VcU un3 un92) (Oq (VremU (b := 64#64) (by simp)) (Oq (VshlU (a := 18446744073709551615#64)) (Oq Va (KS ?_)))))
 have hq := q4 hrr (18446744073709551615#64 <<< ((((BitVec.ofInt 64 width) % 64#64).toNat : Int)).toNat) (by simp only [bt_spare, cs4]); subst hq
 exact Kr () rfl (.tmp rfl .nil) [] trivial
theorem fn79 (s : GSet) (sa1 : Option Addr) (sk1 : Nat) (hs_0 : i64ok s.Width) (rr : Bool) (hrr : bt_Valid s = rr) : FT Tryz.prog 79 #[.agg #[vi s.Width, vl sa1 sk1 s.Words]] [S sa1 sk1 s.Words] (fun g : Unit => True) (fun g => vb rr) (fun g => []) := by
 refine FTi Tryz.func79 fun w0 M0 F0 => ?_
 unfold i64ok at hs_0
 refine Fb 8 0 fun _ => KS ?_
 refine Oa (Ab [vi s.Width, vl sa1 sk1 s.Words]) fun p2 => Oq Va (KS ?_)
 refine JK_drawK [0, 1, 3, 7, 15, 31, 63, 127, 31, 287, 799, 2047, 4095] fmix ?_
 refine Dv [0] (Vfa fo42_0 0) (Dv [0] (VldF sh3 0) ?_)
 refine letv (bt_ranged s.Width) fun rv3 hg4 => ?_
 refine Dx [] [] [0] (fun G => vb rv3) [fun G => SP.fact (True)] (fun G => xC [] ca113 (fn113 s.Width pre rv3 hg4)) (Dv [] Vnot ?_)
 refine bool_split (!rv3) ?_ ?_
 ·intro h5
  have h7 := not_true h5
  refine Db h5 [] Vm (Ds (Ds (Ds (Ds (Ds (Ds (Ds (Dv [] Vpt ?_))))))))
  refine Dn ⟨by kernel_rfl, fun G => ?_⟩
  refine Jw2 [(1, p2), (15, vb true)] [0, 1] [SP.fact (True)] ?_
  refine Jk [0, 1] (Kt ?_)
  refine KS ?_
  refine Oq Va (KS ?_)
  have hq := q4 hrr false (by simp only [bt_Valid, h5, h7, hg4, cs4]); subst hq
  exact Kr () rfl (.tmp rfl .nil) [] trivial
 intro h5
 have h10 := not_false h5
 try have hrg := ranged_iff (w := s.Width) (by simp only [h5, h10, hg4])
 refine Db h5 [] Vm (Dv [0] (Vfa fo42_1 0) (Dv [0] (VldF sh40 0) (Dv [] (Vlen sl40) (Dv [0] (Vfa fo42_0 0) (Dv [0] (VldF sh3 0) ?_)))))
 refine letv (bt_words s.Width) fun rv12 hg13 => ?_
 refine Dx [] [] [0] (fun G => vi rv12) [fun G => SP.fact (i64ok rv12 ∧ (rv12 = (s.Width + 63) / 64))] (fun G => xC [] ca114 (fn114 s.Width pre pre rv12 hg13)) (Dv [] Vneq (Dv [] Vpf ?_))
 refine Dn ⟨by kernel_rfl, fun G => ?_⟩
 refine Jw2 [(1, p2), (15, vb ((s.Words.length : Int) != rv12))] [0, 1] [SP.fact (True), SP.fact (i64ok rv12 ∧ (rv12 = (s.Width + 63) / 64))] ?_
 refine Jf 3 rfl ?_; rintro ⟨he14, he15⟩
 unfold i64ok at he14
 refine Jk [0, 1] ?_
 refine Kc ?_ ?_
 ·intro h16
  have g17 := ne_of_bne h16
  refine KS ?_
  refine Oq Va (KS ?_)
  have hq := q4 hrr false (by simp only [bt_Valid, h5, h10, h16, hg4, hg13, cs4]); subst hq
  exact Kr () rfl (.tmp rfl .nil) [] trivial
 intro h16
 have g18 := eq_of_bne_false h16
 refine KS ?_
 refine JK_drawK [0, 1, 3, 7, 15, 31, 63, 31, 159, 415, 927, 2047, 4095, 31, 8223, 24607, 65535, 131071, 262143, 524287] fmix ?_
 refine Dv [0] (Vfa fo42_0 0) (Dv [0] (VldF sh3 0) (Dv [] Vrem (Dv [] Veql ?_)))
 refine bool_split ((s.Width % 64) == 0) ?_ ?_
 ·intro h19
  have g20 := eq_of_beq h19
  refine Db h19 [] Vm (Ds (Ds (Ds (Ds (Ds (Ds (Ds (Ds (Ds ?_)))))))))
  refine Ds (Ds (Ds (Ds (Dv [] Vpt (Dv [] Va ?_)))))
  refine Dn ⟨by kernel_rfl, fun G => ?_⟩
  refine Jw2 [(2, vb true)] [0, 1] [] ?_
  have hq := q4 hrr true (by simp only [bt_Valid, h5, h10, h16, h19, hg4, hg13, cs4]); subst hq
  exact Kr () rfl (.tmp rfl .nil) [] trivial
 intro h19
 have g21 := ne_of_beq_false h19
 refine Db h19 [] Vm (Dv [0] (Vfa fo42_1 0) (Dv [0] (VldF sh40 0) (Dv [0] (Vfa fo42_1 0) (Dv [0] (VldF sh40 0) (Dv [] (Vlen sl40) (Dv [] Vsub (Dv [1] (Vi sl40 0) (Dv [1] (VldU sh91 0) (Dv [0] (Vfa fo42_0 0) ?_)))))))))
 refine Dv [0] (VldF sh3 0) ?_
 refine letv (bt_spare s.Width) fun rv22 hg23 => ?_
 refine Dx [] [] [0] (fun G => u64 rv22) [fun G => SP.fact (True)] (fun G => xC [] ca115 (fn115 s.Width pre rv22 hg23)) (Dv [] VandU (Dv [] (VeqlU (b := 0#64)) (Dv [] Vpf (Dv [] Va ?_))))
 refine Dn ⟨by kernel_rfl, fun G => ?_⟩
 refine Jw2 [(2, vb (((s.Words.getD (((s.Words.length : Int) - 1) : Int).toNat 0#64) &&& rv22) == 0#64))] [0, 1] [SP.fact (True)] ?_
 refine Jk [0, 1] ?_
 have hq := q4 hrr (((s.Words.getD (((s.Words.length : Int) - 1) : Int).toNat 0#64) &&& rv22) == 0#64) (by simp only [bt_Valid, h5, h10, h16, h19, hg4, hg13, hg23, cs4]); subst hq
 exact Kr () rfl (.tmp rfl .nil) [] trivial
theorem fn136 (s : GSet) (sa1 : Option Addr) (sk1 : Nat) (cap0P : Value) (cap0 : Int) (hs_0 : i64ok s.Width) (hcap0_0 : i64ok cap0) (rr : Bool) (hrr : eq_sets_1 s cap0 = rr) : FT Tryz.prog 136 #[.agg #[vi s.Width, vl sa1 sk1 s.Words], cap0P] [S sa1 sk1 s.Words, pv cap0P [vi cap0]] (fun g : Unit => True) (fun g => vb rr) (fun g => []) := by
 refine FTi Tryz.func136 fun w0 M0 F0 => ?_
 unfold i64ok at hs_0 hcap0_0
 refine Fb 8 0 fun _ => KS ?_
 refine Oa (Ab [vi s.Width, vl sa1 sk1 s.Words]) fun p2 => Oq Va (KS ?_)
 refine Oq (VldA sh42 0) ?_
 refine letv (bt_Valid s) fun rv3 hg4 => ?_
 have hc5 := fn79 s sa1 sk1 pre rv3 hg4
 refine Oc [1] ca79 hc5 ?_
 rintro - -
 refine Oq Vnot (Oq Vm ?_)
 refine Js 7 ?_ ?_
 ·intro h6
  have h8 := not_true h6
  refine Osk (Osk (Osk (Osk (Oq Vpt (Oq Va (KS ?_))))))
  have hq := q4 hrr true (by simp only [eq_sets_1, h6, h8, hg4, cs4]); subst hq
  exact Kr () rfl (.tmp rfl .nil) [] trivial
 intro h6
 have h11 := not_false h6
 refine Oq (Vfa fo42_0 0) (Oq (VldF sh3 0) (Oq (Vld sh3 2) (Oq Vneq (Oq Vpf (Oq Va (KS ?_))))))
 have hq := q4 hrr (s.Width != cap0) (by simp only [eq_sets_1, h6, h11, hg4, cs4]); subst hq
 exact Kr () rfl (.tmp rfl .nil) [] trivial
theorem fn95 (width : Int) (l : List GSet) (la0 : Option Addr) (lk0 : Nat) (hwidth_0 : i64ok width) (rr : Bool) (hrr : eq_sets width l = rr) : FT Tryz.prog 95 #[vi width, vl la0 lk0 l] [S la0 lk0 l] (fun g : Unit => True) (fun g => vb rr) (fun g => []) := by
 refine FTi Tryz.func95 fun w0 M0 F0 => ?_
 unfold i64ok at hwidth_0
 refine Fb 32 0 fun _ => KS ?_
 refine Oa (Ab [vi width]) fun p2 => Oq Va (KS ?_)
 refine Oq Vm (Oq (Vf [p2]) ?_)
 refine JJ_ent (Ent.pall [0] rfl rfl) ?_
 refine letv (sc_ContainsFunc_Set l (fun x => eq_sets_1 x width)) fun rv3 hg4 => ?_
 have hc5 := fn135 l la0 lk0 136 [p2] (fun x => eq_sets_1 x width) [pv p2 [vi width]] ca136 (fun x hx a1 k1 hq0 => FT_pall (A1 := _) (fn136 x a1 k1 p2 width hq0 pre _ rfl)) rv3 hg4
 refine Oc [2, 0] ca135 hc5 ?_
 rintro - -
 refine Oq Vnot (Oq Va (KS ?_))
 have hq := q4 hrr (!rv3) (by simp only [eq_sets, hg4, cs4]); subst hq
 exact Kr () rfl (.tmp rfl .nil) [] trivial
theorem fn137 (s : List GTransfer) (sa0 : Option Addr) (sk0 : Nat) (fF : FuncId) (fC : List Value) (fp : GTransfer → Bool) (fA : List SP) (hfc : callable Tryz.prog fF = true) (hfF : ∀ x ∈ s, ∀ (a1 : Option Addr) (k1 : Nat) (a3 : Option Addr) (k3 : Nat) (a4 : Option Addr) (k4 : Nat), i64ok x.Gen.Width → i64ok x.Kill.Width → FT Tryz.prog fF ([(.agg #[vi x.Gen.Width, vl a1 k1 x.Gen.Words, vi x.Kill.Width, vl a3 k3 x.Kill.Words, vl a4 k4 x.Copies] : Value)] ++ fC).toArray ([S a1 k1 x.Gen.Words, S a3 k3 x.Kill.Words, S a4 k4 x.Copies] ++ [pAll fA]) (fun _ : Unit => True) (fun _ => .bool (fp x)) (fun _ => [])) (rr : Int) (hrr : sc_IndexFunc_Transfer s fp = rr) : FT Tryz.prog 137 #[vl sa0 sk0 s, .func (.func fF) #[] fC.toArray] [S sa0 sk0 s, pAll fA] (fun g : Unit => i64ok rr) (fun g => vi rr) (fun g => []) := by
 refine FTi Tryz.func137 fun w0 M0 F0 => Fb 88 0 fun _ => ?_
 refine KS ?_
 refine Oq Va (KS ?_)
 refine Oq Vm (Oq (Vlen sl24) (Oq Vm (KS ?_)))
 refine Kl (γ := Nat × Int) (fun (r2, v8_3) => ⟨[(0, vl sa0 sk0 s), (1, .func (.func fF) #[] fC.toArray), (7, vi (s.length : Int)), (8, vi v8_3)], [S sa0 sk0 s, pAll fA], sc_IndexFunc_Transfer_L0 s fp r2 v8_3 = sc_IndexFunc_Transfer_L0 s fp (((s.length : Int) - 0).toNat) 0 ∧ r2 = ((s.length : Int) - v8_3).toNat ∧ (0 : Int) ≤ v8_3 ∧ v8_3 ≤ (s.length : Int) ∧ (-9223372036854775808 ≤ v8_3 ∧ v8_3 ≤ 9223372036854775807), r2⟩) (((s.length : Int) - 0).toNat, 0) [0, 1] ⟨rfl, rfl, aM1, aM1, aM1⟩ ?_
 rintro ⟨r2, v8_3⟩ ⟨hM4, hr5, hi6, hi7, hk8⟩
 refine JJ_nx fun _ _ hL hA => ?_; dsimp only at hL hA; subst hL hA
 refine Fb 88 0 fun _ => KS ?_
 refine Oq Vlss (KS ?_)
 refine Kc ?_ ?_
 ·intro h10
  have g11 := dt h10
  obtain ⟨r12, rfl⟩ := scc (n := r2) aM1
  refine KS ?_
  refine Oq Vm (Oq Va (KS ?_))
  refine Oq Vm (Oq Vm (Oq Vm (Oq (Vi sl24 0) ?_)))
  refine JJ_peek_GTransfer v8_3.toNat 0 rfl rng fun a13 k14 a15 k16 a17 k18 hb19 hb20 => ?_
  unfold i64ok at hb19 hb20
  refine Fb 8 1 fun _ => Fb 8 2 fun _ => Fb 16 3 fun _ => Oq (VldA sh65 0) ?_
  refine JO_call [1, 2, 3, 5] rfl rfl rfl (OpC.clo (asv := [(.agg #[vi (((s.getD v8_3.toNat default).Gen).Width), vl a13 k14 (((s.getD v8_3.toNat default).Gen).Words), vi (((s.getD v8_3.toNat default).Kill).Width), vl a15 k16 (((s.getD v8_3.toNat default).Kill).Words), vl a17 k18 ((s.getD v8_3.toNat default).Copies)] : Value)] ++ fC) rfl rfl hfc rfl (by simp)) (hfF (s.getD v8_3.toNat default) (getD_mem rng) a13 k14 a15 k16 a17 k18 pre pre) rfl fun _ _ => ?_
  refine KS ?_
  refine Kc ?_ ?_
  ·intro h24
   refine KS ?_
   refine Oq Vm (Oq Va (KS ?_))
   have hR26 := q2 hM4 (.ret v8_3) (by simp only [sc_IndexFunc_Transfer_L0, h10, h24, cs4])
   have hq := q4 hrr v8_3 (by simp only [sc_IndexFunc_Transfer, h10, h24, hR26, cs4]); subst hq
   exact Kr () rfl (.tmp rfl .nil) [] en
  intro h24
  refine KS ?_
  refine Oq Vadd (Oq Vm (KS ?_))
  exact Kg (r12, (v8_3 + 1)) [4, 5] ⟨(q3 hM4 (by simp only [sc_IndexFunc_Transfer_L0, h10, h24, cs4])), aM1, aM1, aM1, aM1⟩
 intro h10
 have g28 := df h10
 obtain rfl : r2 = 0 := by omega
 refine Ke ?_
 have hR29 := q2 hM4 (.brk ()) (by simp only [sc_IndexFunc_Transfer_L0, h10, cs4])
 refine KS ?_
 refine Oq Va (KS ?_)
 have hq := q4 hrr (-1) (by simp only [sc_IndexFunc_Transfer, h10, hR29, cs4]); subst hq
 exact Kr () rfl (.tmp rfl .nil) [] en
theorem fn96 (s : List GTransfer) (sa0 : Option Addr) (sk0 : Nat) (fF : FuncId) (fC : List Value) (fp : GTransfer → Bool) (fA : List SP) (hfc : callable Tryz.prog fF = true) (hfF : ∀ x ∈ s, ∀ (a1 : Option Addr) (k1 : Nat) (a3 : Option Addr) (k3 : Nat) (a4 : Option Addr) (k4 : Nat), i64ok x.Gen.Width → i64ok x.Kill.Width → FT Tryz.prog fF ([(.agg #[vi x.Gen.Width, vl a1 k1 x.Gen.Words, vi x.Kill.Width, vl a3 k3 x.Kill.Words, vl a4 k4 x.Copies] : Value)] ++ fC).toArray ([S a1 k1 x.Gen.Words, S a3 k3 x.Kill.Words, S a4 k4 x.Copies] ++ [pAll fA]) (fun _ : Unit => True) (fun _ => .bool (fp x)) (fun _ => [])) (rr : Bool) (hrr : sc_ContainsFunc_Transfer s fp = rr) : FT Tryz.prog 96 #[vl sa0 sk0 s, .func (.func fF) #[] fC.toArray] [S sa0 sk0 s, pAll fA] (fun g : Unit => True) (fun g => vb rr) (fun g => []) := by
 refine FTi Tryz.func96 fun w0 M0 F0 => Fb 88 0 fun _ => ?_
 refine KS ?_
 refine Oq Va (KS ?_)
 refine Oq Vm (Oq Vm ?_)
 refine letv (sc_IndexFunc_Transfer s fp) fun rv2 hg3 => ?_
 have hc4 := fn137 s sa0 sk0 fF fC fp fA hfc hfF rv2 hg3
 refine Oc [0, 1] ca137 hc4 ?_
 rintro - he5
 unfold i64ok at he5
 refine Oq Vgeq (Oq Va (KS ?_))
 have hq := q4 hrr (decide (0 ≤ rv2)) (by simp only [sc_ContainsFunc_Transfer, hg3, cs4]); subst hq
 exact Kr () rfl (.tmp rfl .nil) [] trivial
theorem fn146 (vals : List Int) (valsa0 : Option Addr) (valsk0 : Nat) (rr : Int) (hrr : cmp_Or_int vals = rr) : FT Tryz.prog 146 #[vl valsa0 valsk0 vals] [S valsa0 valsk0 vals] (fun g : Unit => i64ok rr) (fun g => vi rr) (fun g => []) := by
 refine FTi Tryz.func146 fun w0 M0 F0 => Fb 8 0 fun _ => Fo 0 fun ho2 => ?_
 refine KS ?_
 refine Oq Va (KS ?_)
 refine Oq Va (KS ?_)
 refine Oq Vm (Oq (Vlen sl22) (Oq Vm (KS ?_)))
 refine Kl (γ := Nat × Int) (fun (r3, v8_4) => ⟨[(3, vi 0), (6, vl valsa0 valsk0 vals), (7, vi (vals.length : Int)), (8, vi v8_4)], [S valsa0 valsk0 vals], cmp_Or_int_L0 vals r3 v8_4 = cmp_Or_int_L0 vals (((vals.length : Int) - 0).toNat) 0 ∧ r3 = ((vals.length : Int) - v8_4).toNat ∧ (0 : Int) ≤ v8_4 ∧ v8_4 ≤ (vals.length : Int) ∧ (-9223372036854775808 ≤ v8_4 ∧ v8_4 ≤ 9223372036854775807), r3⟩) (((vals.length : Int) - 0).toNat, 0) [0] ⟨rfl, rfl, aM1, aM1, aM1⟩ ?_
 rintro ⟨r3, v8_4⟩ ⟨hM5, hr6, hi7, hi8, hk9⟩
 refine JJ_nx fun _ _ hL hA => ?_; dsimp only at hL hA; subst hL hA
 refine Fb 8 0 fun _ => Fo 0 fun ho11 => KS ?_
 refine Oq Vlss (KS ?_)
 refine Kc ?_ ?_
 ·intro h12
  have g13 := dt h12
  obtain ⟨r14, rfl⟩ := scc (n := r3) aM1
  refine KS ?_
  refine Oq (Vi sl22 0) ?_
  have hb15 := ok1 (i := v8_4.toNat) ho11 rng
  refine Oq (VldI sh3 0) (Oq Va (KS ?_))
  refine Oq Vm (Oq Vm (Oq Vneq (KS ?_)))
  refine Kc ?_ ?_
  ·intro h16
   have g17 := ne_of_bne h16
   refine KS ?_
   refine Oq Vm (Oq Va (KS ?_))
   have hR18 := q2 hM5 (.ret (vals.getD v8_4.toNat 0)) (by simp only [cmp_Or_int_L0, h12, h16, cs4])
   have hq := q4 hrr (vals.getD v8_4.toNat 0) (by simp only [cmp_Or_int, h12, h16, hR18, cs4]); subst hq
   exact Kr () rfl (.tmp rfl .nil) [] en
  intro h16
  have g19 := eq_of_bne_false h16
  refine KS ?_
  refine Oq Vadd (Oq Vm (KS ?_))
  exact Kg (r14, (v8_4 + 1)) [0] ⟨(q3 hM5 (by simp only [cmp_Or_int_L0, h12, h16, cs4])), aM1, aM1, aM1, aM1⟩
 intro h12
 have g20 := df h12
 obtain rfl : r3 = 0 := by omega
 refine Ke ?_
 have hR21 := q2 hM5 (.brk ()) (by simp only [cmp_Or_int_L0, h12, cs4])
 refine KS ?_
 refine Oq Vm (Oq Va (KS ?_))
 have hq := q4 hrr 0 (by simp only [cmp_Or_int, h12, hR21, cs4]); subst hq
 exact Kr () rfl (.tmp rfl .nil) [] en
theorem fn174 (x : Int) (hx_0 : i64ok x) (rr : Bool) (hrr : cmp_isNaN_int x = rr) : FT Tryz.prog 174 #[vi x] [] (fun g : Unit => True) (fun g => vb rr) (fun g => []) := by
 refine FTi Tryz.func174 fun w0 M0 F0 => ?_
 unfold i64ok at hx_0
 refine KS ?_
 refine Oq Va (KS ?_)
 refine Oq Vm (Oq Vm (Oq Vneq (Oq Va (KS ?_))))
 have hq := q4 hrr (x != x) (by simp only [cmp_isNaN_int, cs4]); subst hq
 exact Kr () rfl (.tmp rfl .nil) [] trivial
theorem fn147 (x : Int) (y : Int) (hx_0 : i64ok x) (hy_0 : i64ok y) (rr : Int) (hrr : cmp_Compare_int x y = rr) : FT Tryz.prog 147 #[vi x, vi y] [] (fun g : Unit => i64ok rr) (fun g => vi rr) (fun g => []) := by
 refine FTi Tryz.func147 fun w0 M0 F0 => ?_
 unfold i64ok at hx_0 hy_0
 refine KS ?_
 refine Oq Va (KS ?_)
 refine Oq Vm ?_
 refine letv (cmp_isNaN_int x) fun rv1 hg2 => ?_
 have hc3 := fn174 x pre rv1 hg2
 refine Oc [] ca174 hc3 ?_
 rintro - -
 refine Oq Va (KS ?_)
 refine Oq Vm ?_
 refine letv (cmp_isNaN_int y) fun rv4 hg5 => ?_
 have hc6 := fn174 y pre rv4 hg5
 refine Oc [] ca174 hc6 ?_
 rintro - -
 refine Oq Va (KS ?_)
 refine Oq Vm (KS ?_)
 refine Kc ?_ ?_
 ·intro h7
  refine KS ?_
  refine Oq Vm (KS ?_)
  refine Kc ?_ ?_
  ·intro h9
   refine KS ?_
   refine Oq Va (KS ?_)
   have hq := q4 hrr 0 (by simp only [cmp_Compare_int, h7, h9, hg2, hg5, cs4]); subst hq
   exact Kr () rfl (.tmp rfl .nil) [] en
  intro h9
  refine KS ?_
  refine Oq Va (KS ?_)
  have hq := q4 hrr (-1) (by simp only [cmp_Compare_int, h7, h9, hg2, hg5, cs4]); subst hq
  exact Kr () rfl (.tmp rfl .nil) [] en
 intro h7
 refine KS ?_
 refine Oq Vm (KS ?_)
 refine Kc ?_ ?_
 ·intro h13
  refine KS ?_
  refine Oq Va (KS ?_)
  have hq := q4 hrr 1 (by simp only [cmp_Compare_int, h7, h13, hg2, hg5, cs4]); subst hq
  exact Kr () rfl (.tmp rfl .nil) [] en
 intro h13
 refine KS ?_
 refine Oq Vm (Oq Vm (Oq Vlss (KS ?_)))
 refine Kc ?_ ?_
 ·intro h16
  have g17 := dt h16
  refine KS ?_
  refine Oq Va (KS ?_)
  have hq := q4 hrr (-1) (by simp only [cmp_Compare_int, h7, h13, h16, hg2, hg5, cs4]); subst hq
  exact Kr () rfl (.tmp rfl .nil) [] en
 intro h16
 have g18 := df h16
 refine KS ?_
 refine Oq Vm (Oq Vm (Oq Vgtr (KS ?_)))
 refine Kc ?_ ?_
 ·intro h19
  have g20 := dt h19
  refine KS ?_
  refine Oq Va (KS ?_)
  have hq := q4 hrr 1 (by simp only [cmp_Compare_int, h7, h13, h16, h19, hg2, hg5, cs4]); subst hq
  exact Kr () rfl (.tmp rfl .nil) [] en
 intro h19
 have g21 := df h19
 refine KS ?_
 refine Oq Va (KS ?_)
 have hq := q4 hrr 0 (by simp only [cmp_Compare_int, h7, h13, h16, h19, hg2, hg5, cs4]); subst hq
 exact Kr () rfl (.tmp rfl .nil) [] en
theorem fn109 (a : GCopy) (b : GCopy) (ha_0 : i64ok a.From) (ha_1 : i64ok a.To) (hb_0 : i64ok b.From) (hb_1 : i64ok b.To) (rr : Int) (hrr : tf_compare a b = rr) : FT Tryz.prog 109 #[.agg #[vi a.From, vi a.To], .agg #[vi b.From, vi b.To]] [] (fun g : Unit => i64ok rr) (fun g => vi rr) (fun g => []) := by
 refine FTi Tryz.func109 fun w0 M0 F0 => ?_
 unfold i64ok at ha_0 ha_1 hb_0 hb_1
 refine KS ?_
 refine Oa (Ab [vi a.From, vi a.To]) fun p1 => Oa (Ab [vi b.From, vi b.To]) fun p2 => Oq Va (KS ?_)
 refine JK_drawK [0, 1, 0, 4, 15, 0, 32, 0, 128, 511, 1023, 2047, 4095] fmix ?_
 refine Dv [1] (Vfa fo105_0 0) (Dv [1] (VldF sh3 0) (Dv [0] (Vfa fo105_0 0) (Dv [0] (VldF sh3 0) ?_)))
 refine letv (cmp_Compare_int a.From b.From) fun rv3 hg4 => ?_
 refine Dx [] [] [0] (fun G => vi rv3) [fun G => SP.fact (i64ok rv3)] (fun G => xC [] ca147 (fn147 a.From b.From pre pre rv3 hg4)) (Dv [1] (Vfa fo105_1 0) (Dv [1] (VldF sh3 0) (Dv [0] (Vfa fo105_1 0) (Dv [0] (VldF sh3 0) ?_))))
 refine letv (cmp_Compare_int a.To b.To) fun rv5 hg6 => ?_
 refine Dx [] [] [0] (fun G => vi rv5) [fun G => SP.fact (i64ok rv5)] (fun G => xC [] ca147 (fn147 a.To b.To pre pre rv5 hg6)) (Dx [] [] [0] (fun G => (G.g 10 0)) [fun G => Cr (G.g 10 0) 2 [vi rv3, vi rv5]] (fun G => xA (AsV sl22 sz22 [vi rv3, vi rv5] [vi rv3, vi rv5])) ?_)
 refine letv (cmp_Or_int [rv3, rv5]) fun rv11 hg12 => ?_
 refine Dx [2, 3, 4] [4] [2, 3, 1, 0] (fun G => vi rv11) [fun G => sl (G.g 10 0) ([rv3, rv5] : List Int), fun G => SP.fact (i64ok rv11)] (fun G => by refine xf 0 rfl ?_; rintro he13; unfold i64ok at he13; refine xf 1 rfl ?_; rintro he14; unfold i64ok at he14; exact xp [2] rfl (Ent.crInt _ [rv3, rv5] _ _ rfl rfl (by intro x hx; simp only [List.mem_cons, List.not_mem_nil, or_false] at hx; rcases hx with rfl | rfl <;> (unfold i64ok; omega)) aB1) (xp [0] rfl (Ent.freeze _ _) (xD [0] ca146 rfl rfl rfl (FT_open (γ := Unit) (I := fun g => i64ok rv11) (V := fun g => vi rv11) (B := fun g => []) (R := sl (G.g 10 0) ([rv3, rv5] : List Int)) sl_slice (fun aq8 kq9 eq10 => by rw [eq10]; exact FT_ent (Ent.take (is := [0]) rfl) (fn146 ([rv3, rv5]) aq8 kq9 rv11 hg12)))))) (Dv [] Va ?_)
 refine Dn ⟨by kernel_rfl, fun G => ?_⟩
 refine Jw2 [(4, vi rv11)] [0, 1] [SP.fact (i64ok rv3), SP.fact (i64ok rv5), sl (G.g 10 0) ([rv3, rv5] : List Int), SP.fact (i64ok rv11)] ?_
 generalize G.g 10 0 = c7
 refine Jf 2 rfl ?_; rintro he15
 unfold i64ok at he15
 refine Jf 3 rfl ?_; rintro he16
 unfold i64ok at he16
 refine Jf 5 rfl ?_; rintro he17
 unfold i64ok at he17
 refine Jk [0, 1, 4] ?_
 refine Jo 2 ?_; rintro a18 k19 rfl
 refine Fb 8 2 fun _ => Fo 2 fun ho21 => ?_
 have hq := q4 hrr rv11 (by simp only [tf_compare, hg4, hg6, hg12, cs4]); subst hq
 exact Kr () rfl (.tmp rfl .nil) [] en
theorem fn76 (t : GTransfer) (ta1 : Option Addr) (tk1 : Nat) (ta3 : Option Addr) (tk3 : Nat) (ta4 : Option Addr) (tk4 : Nat) (b : Int) (ht_0 : i64ok t.Gen.Width) (ht_2 : i64ok t.Kill.Width) (hb_0 : i64ok b) (rr : Bool) (hrr : tf_bit t b = rr) : FT Tryz.prog 76 #[.agg #[vi t.Gen.Width, vl ta1 tk1 t.Gen.Words, vi t.Kill.Width, vl ta3 tk3 t.Kill.Words, vl ta4 tk4 t.Copies], vi b] [S ta1 tk1 t.Gen.Words, S ta3 tk3 t.Kill.Words, S ta4 tk4 t.Copies] (fun g : Unit => True) (fun g => vb rr) (fun g => []) := by
 refine FTi Tryz.func76 fun w0 M0 F0 => ?_
 unfold i64ok at ht_0 ht_2 hb_0
 refine Fb 8 0 fun _ => Fb 8 1 fun _ => Fb 16 2 fun _ => KS ?_
 refine Oa (Ab [vi t.Gen.Width, vl ta1 tk1 t.Gen.Words, vi t.Kill.Width, vl ta3 tk3 t.Kill.Words, vl ta4 tk4 t.Copies]) fun p4 => Oq Va (KS ?_)
 refine Oq Vm (Oq Vgeq (Oq Vm ?_))
 refine Js 7 ?_ ?_
 ·intro h5
  have g6 := dt h5
  refine Oq Vm (Oq (Vfa fo65_0 0) (Oq (VfaF fo42_0 0) (Oq (VldF sh3 0) (Oq Vlss (Oq Vpt (Oq Va (KS ?_)))))))
  have hq := q4 hrr (decide (b < t.Gen.Width)) (by simp only [tf_bit, h5, cs4]); subst hq
  exact Kr () rfl (.tmp rfl .nil) [] trivial
 intro h5
 have g7 := df h5
 refine Osk (Osk (Osk (Osk (Osk (Oq Vpf (Oq Va (KS ?_)))))))
 have hq := q4 hrr false (by simp only [tf_bit, h5, cs4]); subst hq
 exact Kr () rfl (.tmp rfl .nil) [] trivial
theorem fn75 (t : GTransfer) (ta1 : Option Addr) (tk1 : Nat) (ta3 : Option Addr) (tk3 : Nat) (ta4 : Option Addr) (tk4 : Nat) (ht_0 : i64ok t.Gen.Width) (ht_2 : i64ok t.Kill.Width) (rr : Bool) (hrr : tf_Valid t = rr) : FT Tryz.prog 75 #[.agg #[vi t.Gen.Width, vl ta1 tk1 t.Gen.Words, vi t.Kill.Width, vl ta3 tk3 t.Kill.Words, vl ta4 tk4 t.Copies]] [S ta1 tk1 t.Gen.Words, S ta3 tk3 t.Kill.Words, S ta4 tk4 t.Copies] (fun g : Unit => True) (fun g => vb rr) (fun g => []) := by
 refine FTi Tryz.func75 fun w0 M0 F0 => ?_
 unfold i64ok at ht_0 ht_2
 refine Fb 8 0 fun _ => Fb 8 1 fun _ => Fb 16 2 fun _ => KS ?_
 refine Oa (Ab [vi t.Gen.Width, vl ta1 tk1 t.Gen.Words, vi t.Kill.Width, vl ta3 tk3 t.Kill.Words, vl ta4 tk4 t.Copies]) fun p4 => Oq Va (KS ?_)
 refine Oq (Vfa fo65_0 0) (Oq (VldG sh42 0 [vi t.Gen.Width, vl ta1 tk1 t.Gen.Words]) ?_)
 refine letv (bt_Valid t.Gen) fun rv5 hg6 => ?_
 have hc7 := fn79 t.Gen ta1 tk1 pre rv5 hg6
 refine Oc [1] ca79 hc7 ?_
 rintro - -
 refine Oq Vnot (Oq Vm ?_)
 refine Js 9 ?_ ?_
 ·intro h8
  have h10 := not_true h8
  refine Osk (Osk (Osk (Osk (Oq Vpt (Oq Vm (Osk (Osk (Osk (Osk ?_)))))))))
  refine Osk (Osk (Osk (Oq Vpt (Oq Vm (Osk (Osk (Osk (Osk (Oq Vpt ?_)))))))))
  refine KS ?_
  refine Kt (KS ?_)
  refine Oq Va (KS ?_)
  have hq := q4 hrr false (by simp only [tf_Valid, h8, h10, hg6, cs4]); subst hq
  exact Kr () rfl (.tmp rfl .nil) [] trivial
 intro h8
 have h13 := not_false h8
 refine Oq (Vfa fo65_1 0) (Oq (VldG sh42 0 [vi t.Kill.Width, vl ta3 tk3 t.Kill.Words]) ?_)
 refine letv (bt_Valid t.Kill) fun rv15 hg16 => ?_
 have hc17 := fn79 t.Kill ta3 tk3 pre rv15 hg16
 refine Oc [2] ca79 hc17 ?_
 rintro - -
 refine Oq Vnot (Oq Vpf (Oq Vm ?_))
 refine Js 15 ?_ ?_
 ·intro h18
  have h20 := not_true h18
  refine Osk (Osk (Osk (Osk (Osk (Osk (Osk (Oq Vpt (Oq Vm (Osk ?_)))))))))
  refine Osk (Osk (Osk (Oq Vpt (KS ?_))))
  refine Kt (KS ?_)
  refine Oq Va (KS ?_)
  have hq := q4 hrr false (by simp only [tf_Valid, h8, h13, h18, h20, hg6, hg16, cs4]); subst hq
  exact Kr () rfl (.tmp rfl .nil) [] trivial
 intro h18
 have h23 := not_false h18
 refine Oq (Vfa fo65_0 0) (Oq (VfaF fo42_0 0) (Oq (VldF sh3 0) (Oq (Vfa fo65_1 0) (Oq (VfaF fo42_0 0) (Oq (VldF sh3 0) (Oq Vneq (Oq Vpf (Oq Vm ?_))))))))
 refine Js 24 ?_ ?_
 ·intro h25
  have g26 := ne_of_bne h25
  refine Osk (Osk (Osk (Osk (Oq Vpt (KS ?_)))))
  refine Kt (KS ?_)
  refine Oq Va (KS ?_)
  have hq := q4 hrr false (by simp only [tf_Valid, h8, h13, h18, h23, h25, hg6, hg16, cs4]); subst hq
  exact Kr () rfl (.tmp rfl .nil) [] trivial
 intro h25
 have g27 := eq_of_bne_false h25
 refine Oq (Vfa fo65_2 0) (Oq (VldF sh63 0) (Oq (Vlen sl63) (Oq Vgtr (Oq Vpf (KS ?_)))))
 refine Kc ?_ ?_
 ·intro h28
  have g29 := dt h28
  refine KS ?_
  refine Oq Va (KS ?_)
  have hq := q4 hrr false (by simp only [tf_Valid, h8, h13, h18, h23, h25, h28, hg6, hg16, cs4]); subst hq
  exact Kr () rfl (.tmp rfl .nil) [] trivial
 intro h28
 have g30 := df h28
 refine KS ?_
 refine Oq (Vfa fo65_2 0) (Oq (VldF sh63 0) (Oq (Vlen sl63) (Oq Vm (KS ?_))))
 refine Kl (γ := Nat × Int) (fun (r31, v33_32) => ⟨[(1, p4), (31, vl ta4 tk4 t.Copies), (32, vi (t.Copies.length : Int)), (33, vi v33_32)], [pv p4 [vi t.Gen.Width, vl ta1 tk1 t.Gen.Words, vi t.Kill.Width, vl ta3 tk3 t.Kill.Words, vl ta4 tk4 t.Copies], S ta1 tk1 t.Gen.Words, S ta3 tk3 t.Kill.Words, S ta4 tk4 t.Copies], tf_Valid_L0 t r31 v33_32 = tf_Valid_L0 t (((t.Copies.length : Int) - 0).toNat) 0 ∧ r31 = ((t.Copies.length : Int) - v33_32).toNat ∧ (0 : Int) ≤ v33_32 ∧ v33_32 ≤ (t.Copies.length : Int) ∧ (-9223372036854775808 ≤ v33_32 ∧ v33_32 ≤ 9223372036854775807), r31⟩) (((t.Copies.length : Int) - 0).toNat, 0) [0, 1, 2, 3] ⟨rfl, rfl, aM1, aM1, aM1⟩ ?_
 rintro ⟨r31, v33_32⟩ ⟨hM33, hr34, hi35, hi36, hk37⟩
 refine JJ_nx fun _ _ hL hA => ?_; dsimp only at hL hA; subst hL hA
 refine Fb 8 1 fun _ => Fb 8 2 fun _ => Fb 16 3 fun _ => KS ?_
 refine Oq Vlss (KS ?_)
 refine Kc ?_ ?_
 ·intro h41
  have g42 := dt h41
  obtain ⟨r43, rfl⟩ := scc (n := r31) aM1
  refine KS ?_
  refine Oq Vm (Oq (Vi sl63 3) ?_)
  refine JJ_peek_GCopy v33_32.toNat 3 rfl rng fun hb44 hb45 => ?_
  unfold i64ok at hb44 hb45
  refine Oq (VldA sh105 0) (Oa (Al ze105 [vi 0, vi 0]) fun p46 => Oq Va (Ost (Scl [0] sh105 [vi ((t.Copies.getD v33_32.toNat default).From), vi ((t.Copies.getD v33_32.toNat default).To)]) (KS ?_)))
  refine Jp 0 fun hp47 => ?_
  refine letv (tf_bit t ((t.Copies.getD v33_32.toNat default).From)) fun rv48 hg49 => ?_
  refine bool_split (!rv48) ?_ ?_
  ·intro h50
   have h52 := not_true h50
   refine JK_drawK [0, 0, 2, 7, 15, 31, 63, 63, 191, 511, 1023, 2047, 4095, 8191, 16383, 32767, 65535, 131071, 65535, 327679, 1048575, 2097151, 65535, 8388607, 16777215, 33554431, 67108863] fmix ?_
   refine Dv [3] (VldA sh65 0) (Dv [0] (Vfa fo105_0 0) (Dv [1] (VldF sh3 0) (Dx [4, 5, 6] [] [1, 2, 3, 0] (fun G => vb rv48) [fun G => SP.fact (True)] (fun G => xC [0, 1, 2] ca76 (fn76 t ta1 tk1 ta3 tk3 ta4 tk4 ((t.Copies.getD v33_32.toNat default).From) pre pre pre rv48 hg49)) (Db h50 [] Vnot (Dv [] Vm (Ds (Ds (Ds (Ds ?_)))))))))
   refine Ds (Dv [] Vpt (Dv [] Vm (Ds (Ds (Ds (Ds (Ds (Ds (Ds ?_)))))))))
   refine Ds (Ds (Ds (Ds (Ds (Ds (Dv [] Vpt ?_))))))
   refine Dn ⟨by kernel_rfl, fun G => ?_⟩
   refine Jw2 [(1, p4), (31, vl ta4 tk4 t.Copies), (32, vi (t.Copies.length : Int)), (33, vi v33_32), (64, vb true)] [0, 1, 2, 3, 4, 5, 6] [SP.fact (True)] ?_
   refine Jk [1, 1, 2, 3, 4, 5] (Kt ?_)
   refine KS ?_
   refine Oq Va (KS ?_)
   have hR54 := q2 hM33 (.ret false) (by simp only [tf_Valid_L0, h41, h50, h52, hg49, cs4])
   have hq := q4 hrr false (by simp only [tf_Valid, h8, h13, h18, h23, h25, h28, h41, h50, h52, hg6, hg16, hg49, hR54, cs4]); subst hq
   exact Kr () rfl (.tmp rfl .nil) [] trivial
  intro h50
  have h56 := not_false h50
  refine letv (tf_bit t ((t.Copies.getD v33_32.toNat default).To)) fun rv58 hg59 => ?_
  refine bool_split (!rv58) ?_ ?_
  ·intro h60
   have h62 := not_true h60
   refine JK_drawK [0, 0, 2, 7, 15, 31, 63, 63, 191, 511, 1023, 2047, 4095, 8191, 16383, 32767, 65535, 131071, 65535, 327679, 1048575, 2097151, 65535, 8388607, 16777215, 33554431, 67108863] fmix ?_
   refine Dv [3] (VldA sh65 0) (Dv [0] (Vfa fo105_0 0) (Dv [1] (VldF sh3 0) (Dx [4, 5, 6] [] [1, 2, 3, 0] (fun G => vb rv48) [fun G => SP.fact (True)] (fun G => xC [0, 1, 2] ca76 (fn76 t ta1 tk1 ta3 tk3 ta4 tk4 ((t.Copies.getD v33_32.toNat default).From) pre pre pre rv48 hg49)) (Db h50 [] Vnot (Dv [] Vm (Dv [3] (VldA sh65 0) (Dv [0] (Vfa fo105_1 0) (Dv [1] (VldF sh3 0) (Dx [4, 5, 6] [] [1, 2, 3, 0] (fun G => vb rv58) [fun G => SP.fact (True)] (fun G => xC [0, 1, 2] ca76 (fn76 t ta1 tk1 ta3 tk3 ta4 tk4 ((t.Copies.getD v33_32.toNat default).To) pre pre pre rv58 hg59)) ?_)))))))))
   refine Db h60 [] Vnot (Dv [] Vpf (Dv [] Vm (Ds (Ds (Ds (Ds (Ds (Ds (Ds ?_)))))))))
   refine Ds (Ds (Ds (Ds (Ds (Ds (Dv [] Vpt ?_))))))
   refine Dn ⟨by kernel_rfl, fun G => ?_⟩
   refine Jw2 [(1, p4), (31, vl ta4 tk4 t.Copies), (32, vi (t.Copies.length : Int)), (33, vi v33_32), (64, vb true)] [0, 1, 2, 3, 4, 5, 6] [SP.fact (True), SP.fact (True)] ?_
   refine Jk [1, 1, 2, 3, 4, 5] (Kt ?_)
   refine KS ?_
   refine Oq Va (KS ?_)
   have hR64 := q2 hM33 (.ret false) (by simp only [tf_Valid_L0, h41, h50, h56, h60, h62, hg49, hg59, cs4])
   have hq := q4 hrr false (by simp only [tf_Valid, h8, h13, h18, h23, h25, h28, h41, h50, h56, h60, h62, hg6, hg16, hg49, hg59, hR64, cs4]); subst hq
   exact Kr () rfl (.tmp rfl .nil) [] trivial
  intro h60
  have h66 := not_false h60
  refine bool_split (decide (0 < v33_32)) ?_ ?_
  ·intro h68
   have g69 := dt h68
   refine JJ_peek_GCopy ((v33_32 - 1) : Int).toNat 6 rfl rng fun hb70 hb71 => ?_
   unfold i64ok at hb70 hb71
   refine JK_drawK [0, 0, 2, 7, 15, 31, 63, 63, 191, 511, 1023, 2047, 4095, 8191, 16383, 32767, 65535, 131071, 65535, 327679, 1048575, 2097151, 65535, 8388607, 16777215, 33554431, 67108863] fmix ?_
   refine Dv [4] (VldA sh65 0) (Dv [1] (Vfa fo105_0 0) (Dv [2] (VldF sh3 0) (Dx [5, 6, 7] [] [1, 2, 3, 0] (fun G => vb rv48) [fun G => SP.fact (True)] (fun G => xC [0, 1, 2] ca76 (fn76 t ta1 tk1 ta3 tk3 ta4 tk4 ((t.Copies.getD v33_32.toNat default).From) pre pre pre rv48 hg49)) (Db h50 [] Vnot (Dv [] Vm (Dv [4] (VldA sh65 0) (Dv [1] (Vfa fo105_1 0) (Dv [2] (VldF sh3 0) (Dx [5, 6, 7] [] [1, 2, 3, 0] (fun G => vb rv58) [fun G => SP.fact (True)] (fun G => xC [0, 1, 2] ca76 (fn76 t ta1 tk1 ta3 tk3 ta4 tk4 ((t.Copies.getD v33_32.toNat default).To) pre pre pre rv58 hg59)) ?_)))))))))
   refine Db h60 [] Vnot (Dv [] Vpf (Dv [] Vm (Dv [] Vm (Db h68 [] Vgtr (Dv [] Vm (Dv [4] (Vfa fo65_2 0) (Dv [4] (VldF sh63 0) (Dv [] Vm (Dv [] Vsub ?_)))))))))
   refine Dv [7] (Vi sl63 0) (Dv [0] (VldA sh105 0) (Dv [2] (VldA sh105 0) ?_))
   refine letv (tf_compare (t.Copies.getD ((v33_32 - 1) : Int).toNat default) (t.Copies.getD v33_32.toNat default)) fun rv72 hg73 => ?_
   refine Dx [] [] [0] (fun G => vi rv72) [fun G => SP.fact (i64ok rv72)] (fun G => xC [] ca109 (fn109 ((t.Copies.getD ((v33_32 - 1) : Int).toNat default)) ((t.Copies.getD v33_32.toNat default)) pre pre pre pre rv72 hg73)) (Dv [] Vgeq (Dv [] Vpt (Dv [] Vpf ?_)))
   refine Dn ⟨by kernel_rfl, fun G => ?_⟩
   refine Jw2 [(1, p4), (31, vl ta4 tk4 t.Copies), (32, vi (t.Copies.length : Int)), (33, vi v33_32), (64, vb (decide (0 ≤ rv72)))] [0, 1, 2, 3, 4, 5, 6, 7] [SP.fact (True), SP.fact (True), SP.fact (i64ok rv72)] ?_
   refine Jf 10 rfl ?_; rintro he74
   unfold i64ok at he74
   refine Jk [0, 2, 2, 3, 4, 5, 6] ?_
   refine Kc ?_ ?_
   ·intro h75
    have g76 := dt h75
    refine KS ?_
    refine Oq Va (KS ?_)
    have hR77 := q2 hM33 (.ret false) (by simp only [tf_Valid_L0, h41, h50, h56, h60, h66, h68, h75, hg49, hg59, hg73, cs4])
    have hq := q4 hrr false (by simp only [tf_Valid, h8, h13, h18, h23, h25, h28, h41, h50, h56, h60, h66, h68, h75, hg6, hg16, hg49, hg59, hg73, hR77, cs4]); subst hq
    exact Kr () rfl (.tmp rfl .nil) [] trivial
   intro h75
   have g78 := df h75
   refine KS ?_
   refine Oq Vadd (Oq Vm (KS ?_))
   exact Kg (r43, (v33_32 + 1)) [3, 4, 5, 6] ⟨(q3 hM33 (by simp only [tf_Valid_L0, h41, h50, h56, h60, h66, h68, h75, hg49, hg59, hg73, cs4])), aM1, aM1, aM1, aM1⟩
  intro h68
  have g79 := df h68
  refine JK_drawK [0, 0, 2, 7, 15, 31, 63, 63, 191, 511, 1023, 2047, 4095, 8191, 16383, 32767, 65535, 131071, 65535, 327679, 1048575, 2097151, 65535, 8388607, 16777215, 33554431, 67108863] fmix ?_
  refine Dv [3] (VldA sh65 0) (Dv [0] (Vfa fo105_0 0) (Dv [1] (VldF sh3 0) (Dx [4, 5, 6] [] [1, 2, 3, 0] (fun G => vb rv48) [fun G => SP.fact (True)] (fun G => xC [0, 1, 2] ca76 (fn76 t ta1 tk1 ta3 tk3 ta4 tk4 ((t.Copies.getD v33_32.toNat default).From) pre pre pre rv48 hg49)) (Db h50 [] Vnot (Dv [] Vm (Dv [3] (VldA sh65 0) (Dv [0] (Vfa fo105_1 0) (Dv [1] (VldF sh3 0) (Dx [4, 5, 6] [] [1, 2, 3, 0] (fun G => vb rv58) [fun G => SP.fact (True)] (fun G => xC [0, 1, 2] ca76 (fn76 t ta1 tk1 ta3 tk3 ta4 tk4 ((t.Copies.getD v33_32.toNat default).To) pre pre pre rv58 hg59)) ?_)))))))))
  refine Db h60 [] Vnot (Dv [] Vpf (Dv [] Vm (Dv [] Vm (Db h68 [] Vgtr (Dv [] Vm (Ds (Ds (Ds (Ds ?_)))))))))
  refine Ds (Ds (Ds (Ds (Ds (Dv [] Vpf (Dv [] Vpf ?_))))))
  refine Dn ⟨by kernel_rfl, fun G => ?_⟩
  refine Jw2 [(1, p4), (31, vl ta4 tk4 t.Copies), (32, vi (t.Copies.length : Int)), (33, vi v33_32), (64, vb false)] [0, 1, 2, 3, 4, 5, 6] [SP.fact (True), SP.fact (True)] ?_
  refine Jk [1, 1, 2, 3, 4, 5] (Kf ?_)
  refine KS ?_
  refine Oq Vadd (Oq Vm (KS ?_))
  exact Kg (r43, (v33_32 + 1)) [2, 3, 4, 5] ⟨(q3 hM33 (by simp only [tf_Valid_L0, h41, h50, h56, h60, h66, h68, hg49, hg59, cs4])), aM1, aM1, aM1, aM1⟩
 intro h41
 have g80 := df h41
 obtain rfl : r31 = 0 := by omega
 refine Ke ?_
 have hR81 := q2 hM33 (.brk ()) (by simp only [tf_Valid_L0, h41, cs4])
 refine KS ?_
 refine Oq Va (KS ?_)
 have hq := q4 hrr true (by simp only [tf_Valid, h8, h13, h18, h23, h25, h28, h41, hg6, hg16, hR81, cs4]); subst hq
 exact Kr () rfl (.tmp rfl .nil) [] trivial
theorem fn98 (width : Int) (f : GTransfer) (fa1 : Option Addr) (fk1 : Nat) (fa3 : Option Addr) (fk3 : Nat) (fa4 : Option Addr) (fk4 : Nat) (hwidth_0 : i64ok width) (hf_0 : i64ok f.Gen.Width) (hf_2 : i64ok f.Kill.Width) (rr : Bool) (hrr : eq_fits width f = rr) : FT Tryz.prog 98 #[vi width, .agg #[vi f.Gen.Width, vl fa1 fk1 f.Gen.Words, vi f.Kill.Width, vl fa3 fk3 f.Kill.Words, vl fa4 fk4 f.Copies]] [S fa1 fk1 f.Gen.Words, S fa3 fk3 f.Kill.Words, S fa4 fk4 f.Copies] (fun g : Unit => True) (fun g => vb rr) (fun g => []) := by
 refine FTi Tryz.func98 fun w0 M0 F0 => ?_
 unfold i64ok at hwidth_0 hf_0 hf_2
 refine Fb 8 0 fun _ => Fb 8 1 fun _ => Fb 16 2 fun _ => KS ?_
 refine Oa (Ab [vi f.Gen.Width, vl fa1 fk1 f.Gen.Words, vi f.Kill.Width, vl fa3 fk3 f.Kill.Words, vl fa4 fk4 f.Copies]) fun p4 => Oq Va (KS ?_)
 refine Oq (VldA sh65 0) ?_
 refine letv (tf_Valid f) fun rv5 hg6 => ?_
 have hc7 := fn75 f fa1 fk1 fa3 fk3 fa4 fk4 pre pre rv5 hg6
 refine Oc [1, 2, 3] ca75 hc7 ?_
 rintro - -
 refine Oq Vm ?_
 refine Js 7 ?_ ?_
 ·intro h8
  refine Oq (Vfa fo65_0 0) (Oq (VfaF fo42_0 0) (Oq (VldF sh3 0) (Oq Vm (Oq Veql (Oq Vpt (Oq Va (KS ?_)))))))
  have hq := q4 hrr (f.Gen.Width == width) (by simp only [eq_fits, h8, hg6, cs4]); subst hq
  exact Kr () rfl (.tmp rfl .nil) [] trivial
 intro h8
 refine Osk (Osk (Osk (Osk (Osk (Oq Vpf (Oq Va (KS ?_)))))))
 have hq := q4 hrr false (by simp only [eq_fits, h8, hg6, cs4]); subst hq
 exact Kr () rfl (.tmp rfl .nil) [] trivial
theorem fn97 (f : GTransfer) (fa1 : Option Addr) (fk1 : Nat) (fa3 : Option Addr) (fk3 : Nat) (fa4 : Option Addr) (fk4 : Nat) (cap0P : Value) (cap0 : GSystem) (cap0a1 : Option Addr) (cap0k1 : Nat) (cap0a2 : Option Addr) (cap0k2 : Nat) (cap0a3 : Option Addr) (cap0k3 : Nat) (hf_0 : i64ok f.Gen.Width) (hf_2 : i64ok f.Kill.Width) (hcap0_0 : i64ok cap0.Width) (rr : Bool) (hrr : eq_Valid_1 f cap0 = rr) : FT Tryz.prog 97 #[.agg #[vi f.Gen.Width, vl fa1 fk1 f.Gen.Words, vi f.Kill.Width, vl fa3 fk3 f.Kill.Words, vl fa4 fk4 f.Copies], cap0P] [S fa1 fk1 f.Gen.Words, S fa3 fk3 f.Kill.Words, S fa4 fk4 f.Copies, pv cap0P [vi cap0.Width, vl cap0a1 cap0k1 cap0.Deps, vl cap0a2 cap0k2 cap0.Transfers, vl cap0a3 cap0k3 cap0.Boundary], S cap0a1 cap0k1 cap0.Deps, S cap0a2 cap0k2 cap0.Transfers, S cap0a3 cap0k3 cap0.Boundary] (fun g : Unit => True) (fun g => vb rr) (fun g => []) := by
 refine FTi Tryz.func97 fun w0 M0 F0 => ?_
 unfold i64ok at hf_0 hf_2 hcap0_0
 refine Fb 8 0 fun _ => Fb 8 1 fun _ => Fb 16 2 fun _ => Fb 24 4 fun _ => Fb 88 5 fun _ => Fb 32 6 fun _ => KS ?_
 refine Oa (Ab [vi f.Gen.Width, vl fa1 fk1 f.Gen.Words, vi f.Kill.Width, vl fa3 fk3 f.Kill.Words, vl fa4 fk4 f.Copies]) fun p7 => Oq Va (KS ?_)
 refine Oq (Vfa fo27_0 4) (Oq (VldF sh3 4) (Oq (VldA sh65 0) ?_))
 refine letv (eq_fits cap0.Width f) fun rv8 hg9 => ?_
 have hc10 := fn98 cap0.Width f fa1 fk1 fa3 fk3 fa4 fk4 pre pre pre rv8 hg9
 refine Oc [1, 2, 3] ca98 hc10 ?_
 rintro - -
 refine Oq Vnot (Oq Va (KS ?_))
 have hq := q4 hrr (!rv8) (by simp only [eq_Valid_1, hg9, cs4]); subst hq
 exact Kr () rfl (.tmp rfl .nil) [] trivial
theorem fn56 (s : GSystem) (sa1 : Option Addr) (sk1 : Nat) (sa2 : Option Addr) (sk2 : Nat) (sa3 : Option Addr) (sk3 : Nat) (hs_0 : i64ok s.Width) (rr : Bool) (hrr : eq_Valid s = rr) : FT Tryz.prog 56 #[.agg #[vi s.Width, vl sa1 sk1 s.Deps, vl sa2 sk2 s.Transfers, vl sa3 sk3 s.Boundary]] [S sa1 sk1 s.Deps, S sa2 sk2 s.Transfers, S sa3 sk3 s.Boundary] (fun g : Unit => True) (fun g => vb rr) (fun g => []) := by
 refine FTi Tryz.func56 fun w0 M0 F0 => ?_
 unfold i64ok at hs_0
 refine Fb 24 0 fun _ => Fb 88 1 fun _ => Fb 32 2 fun _ => KS ?_
 refine Oa (Ab [vi s.Width, vl sa1 sk1 s.Deps, vl sa2 sk2 s.Transfers, vl sa3 sk3 s.Boundary]) fun p4 => Oq Va (KS ?_)
 refine Oq (Vfa fo27_1 0) (Oq (VldF sh23 0) (Oq (Vlen sl23) (Oq Va (KS ?_))))
 refine Oq (Vfa fo27_0 0) (Oq (VldF sh3 0) (Oq Vm ?_))
 refine letv (eq_sized s.Width (s.Deps.length : Int)) fun rv5 hg6 => ?_
 have hc7 := fn93 s.Width ((s.Deps.length : Int)) pre pre rv5 hg6
 refine Oc [] ca93 hc7 ?_
 rintro - -
 refine Oq Vnot (Oq Vm ?_)
 refine Js 15 ?_ ?_
 ·intro h8
  have h10 := not_true h8
  refine Osk (Osk (Osk (Osk (Osk (Oq Vpt (Oq Vm (Osk (Osk (Osk ?_)))))))))
  refine Osk (Osk (Oq Vpt (KS ?_)))
  refine Kt (KS ?_)
  refine Oq Va (KS ?_)
  have hq := q4 hrr false (by simp only [eq_Valid, h8, h10, hg6, cs4]); subst hq
  exact Kr () rfl (.tmp rfl .nil) [] trivial
 intro h8
 have h13 := not_false h8
 refine Oq (Vfa fo27_2 0) (Oq (VldF sh24 0) (Oq (Vlen sl24) (Oq Vm (Oq Vneq (Oq Vpf (Oq Vm ?_))))))
 refine Js 22 ?_ ?_
 ·intro h15
  have g16 := ne_of_bne h15
  refine Osk (Osk (Osk (Osk (Osk (Oq Vpt (KS ?_))))))
  refine Kt (KS ?_)
  refine Oq Va (KS ?_)
  have hq := q4 hrr false (by simp only [eq_Valid, h8, h13, h15, hg6, cs4]); subst hq
  exact Kr () rfl (.tmp rfl .nil) [] trivial
 intro h15
 have g17 := eq_of_bne_false h15
 refine Oq (Vfa fo27_3 0) (Oq (VldF sh25 0) (Oq (Vlen sl25) (Oq Vm (Oq Vneq (Oq Vpf (KS ?_))))))
 refine Kc ?_ ?_
 ·intro h18
  have g19 := ne_of_bne h18
  refine KS ?_
  refine Oq Va (KS ?_)
  have hq := q4 hrr false (by simp only [eq_Valid, h8, h13, h15, h18, hg6, cs4]); subst hq
  exact Kr () rfl (.tmp rfl .nil) [] trivial
 intro h18
 have g20 := eq_of_bne_false h18
 refine KS ?_
 refine Oq Va (KS ?_)
 refine Oq (Vfa fo27_1 0) (Oq (VldF sh23 0) (Oq (Vlen sl23) (Oq Vm (KS ?_))))
 refine Kl (γ := Nat × Int × Int) (fun (r21, edges_22, v32_23) => ⟨[(1, p4), (3, vi (s.Deps.length : Int)), (4, vi edges_22), (30, vl sa1 sk1 s.Deps), (31, vi (s.Deps.length : Int)), (32, vi v32_23)], [pv p4 [vi s.Width, vl sa1 sk1 s.Deps, vl sa2 sk2 s.Transfers, vl sa3 sk3 s.Boundary], S sa1 sk1 s.Deps, S sa2 sk2 s.Transfers, S sa3 sk3 s.Boundary], eq_Valid_L0 s r21 edges_22 v32_23 = eq_Valid_L0 s (((s.Deps.length : Int) - 0).toNat) 0 0 ∧ r21 = ((s.Deps.length : Int) - v32_23).toNat ∧ (0 : Int) ≤ v32_23 ∧ v32_23 ≤ (s.Deps.length : Int) ∧ (-9223372036854775808 ≤ edges_22 ∧ edges_22 ≤ 9223372036854775807) ∧ (-9223372036854775808 ≤ v32_23 ∧ v32_23 ≤ 9223372036854775807) ∧ 0 ≤ edges_22 ∧ edges_22 ≤ 1024, r21⟩) (((s.Deps.length : Int) - 0).toNat, 0, 0) [0, 1, 2, 3] ⟨rfl, rfl, aM1, aM1, aM1, aM1, iv0⟩ ?_
 rintro ⟨r21, edges_22, v32_23⟩ ⟨hM24, hr25, hi26, hi27, hk28, hk29, hv30⟩
 refine JJ_nx fun _ _ hL hA => ?_; dsimp only at hL hA; subst hL hA
 refine Fb 24 1 fun _ => Fb 88 2 fun _ => Fb 32 3 fun _ => KS ?_
 refine Oq Vlss (KS ?_)
 refine Kc ?_ ?_
 ·intro h34
  have g35 := dt h34
  obtain ⟨r36, rfl⟩ := scc (n := r21) aM1
  refine KS ?_
  refine Oq (Vi sl23 1) ?_
  refine JJ_peekL v32_23.toNat 1 rfl rng fun a37 k38 => ?_
  refine Fb 8 1 fun _ => Fo 1 fun ho40 => ?_
  refine Oq (Vld sh22 0) (Oq Va (KS ?_))
  refine Oq Vm (Oq Vm (Oq (Vlen sl22) (Oq Vadd (Oq Va (KS ?_)))))
  refine Oq Vm (Oq Vgtr (Oq Vm ?_))
  refine Js 42 ?_ ?_
  ·intro h41
   have g42 := dt h41
   refine Osk (Osk (Osk (Osk (Oq Vpt (KS ?_)))))
   refine Kt (KS ?_)
   refine Oq Va (KS ?_)
   have hR43 := q2 hM24 (.ret false) (by simp only [eq_Valid_L0, h34, h41, cs4])
   have hq := q4 hrr false (by simp only [eq_Valid, h8, h13, h15, h18, h34, h41, hg6, hR43, cs4]); subst hq
   exact Kr () rfl (.tmp rfl .nil) [] trivial
  intro h41
  have g44 := df h41
  refine Oq Vm (Oq Vm ?_)
  refine letv (eq_ascending (s.Deps.getD v32_23.toNat []) (s.Deps.length : Int)) fun rv45 hg46 => ?_
  have hc47 := fn94 ((s.Deps.getD v32_23.toNat [])) a37 k38 ((s.Deps.length : Int)) pre rv45 hg46
  refine Oc [1] ca94 hc47 ?_
  rintro - -
  refine Oq Vnot (Oq Vpf (KS ?_))
  refine Kc ?_ ?_
  ·intro h48
   have h50 := not_true h48
   refine KS ?_
   refine Oq Va (KS ?_)
   have hR52 := q2 hM24 (.ret false) (by simp only [eq_Valid_L0, h34, h41, h48, h50, hg46, cs4])
   have hq := q4 hrr false (by simp only [eq_Valid, h8, h13, h15, h18, h34, h41, h48, h50, hg6, hg46, hR52, cs4]); subst hq
   exact Kr () rfl (.tmp rfl .nil) [] trivial
  intro h48
  have h54 := not_false h48
  refine KS ?_
  refine Oq Vadd (Oq Vm (KS ?_))
  exact Kg (r36, (edges_22 + ((s.Deps.getD v32_23.toNat []).length : Int)), (v32_23 + 1)) [2, 3, 4, 5] ⟨(q3 hM24 (by simp only [eq_Valid_L0, h34, h41, h48, h54, hg46, cs4])), aM1, aM1, aM1, aM1, aM1, iv1⟩
 intro h34
 have g56 := df h34
 obtain rfl : r21 = 0 := by omega
 refine Ke ?_
 have hR57 := q2 hM24 (.brk ()) (by simp only [eq_Valid_L0, h34, cs4])
 refine KS ?_
 refine Oq (Vfa fo27_0 0) (Oq (VldF sh3 0) (Oq (Vfa fo27_3 0) (Oq (VldF sh25 0) ?_)))
 refine letv (eq_sets s.Width s.Boundary) fun rv58 hg59 => ?_
 have hc60 := fn95 s.Width s.Boundary sa3 sk3 pre rv58 hg59
 refine Oc [3] ca95 hc60 ?_
 rintro - -
 refine Oq Vm ?_
 refine Js 54 ?_ ?_
 ·intro h61
  refine Oq (Vfa fo27_2 0) (Oq (VldF sh24 0) (Oq (Vf [p4]) ?_))
  refine JJ_ent (Ent.pall [0, 1, 2, 3] rfl rfl) ?_
  refine letv (sc_ContainsFunc_Transfer s.Transfers (fun x => eq_Valid_1 x s)) fun rv63 hg64 => ?_
  have hc65 := fn96 s.Transfers sa2 sk2 97 [p4] (fun x => eq_Valid_1 x s) [pv p4 [vi s.Width, vl sa1 sk1 s.Deps, vl sa2 sk2 s.Transfers, vl sa3 sk3 s.Boundary], S sa1 sk1 s.Deps, S sa2 sk2 s.Transfers, S sa3 sk3 s.Boundary] ca97 (fun x hx a1 k1 a3 k3 a4 k4 hq0 hq2 => FT_pall (A1 := _) (fn97 x a1 k1 a3 k3 a4 k4 p4 s sa1 sk1 sa2 sk2 sa3 sk3 hq0 hq2 pre _ rfl)) rv63 hg64
  refine Oc [3, 0] ca96 hc65 ?_
  rintro - -
  refine Oq Vnot (Oq Vpt (Oq Va (KS ?_)))
  have hq := q4 hrr (!rv63) (by simp only [eq_Valid, h8, h13, h15, h18, h34, h61, hg6, hR57, hg59, hg64, cs4]); subst hq
  exact Kr () rfl (.tmp rfl .nil) [] trivial
 intro h61
 refine Osk (Osk (Osk (Osk (Osk (Oq Vpf (Oq Va (KS ?_)))))))
 have hq := q4 hrr false (by simp only [eq_Valid, h8, h13, h15, h18, h34, h61, hg6, hR57, hg59, cs4]); subst hq
 exact Kr () rfl (.tmp rfl .nil) [] trivial
theorem fn42 (s : GSystem) (sa1 : Option Addr) (sk1 : Nat) (sa2 : Option Addr) (sk2 : Nat) (sa3 : Option Addr) (sk3 : Nat) (n : Int) (bit : Int) (hs_0 : i64ok s.Width) (hn_0 : i64ok n) (hbit_0 : i64ok bit) (rr : Int) (hrr : wt_arguments s n bit = rr) : FT Tryz.prog 42 #[.agg #[vi s.Width, vl sa1 sk1 s.Deps, vl sa2 sk2 s.Transfers, vl sa3 sk3 s.Boundary], vi n, vi bit] [S sa1 sk1 s.Deps, S sa2 sk2 s.Transfers, S sa3 sk3 s.Boundary] (fun g : Unit => i64ok rr) (fun g => vi rr) (fun g => []) := by
 refine FTi Tryz.func42 fun w0 M0 F0 => ?_
 unfold i64ok at hs_0 hn_0 hbit_0
 refine Fb 24 0 fun _ => Fb 88 1 fun _ => Fb 32 2 fun _ => KS ?_
 refine Oa (Ab [vi s.Width, vl sa1 sk1 s.Deps, vl sa2 sk2 s.Transfers, vl sa3 sk3 s.Boundary]) fun p4 => Oq Va (KS ?_)
 refine Oq (VldA sh27 0) ?_
 refine letv (eq_Valid s) fun rv5 hg6 => ?_
 have hc7 := fn56 s sa1 sk1 sa2 sk2 sa3 sk3 pre rv5 hg6
 refine Oc [1, 2, 3] ca56 hc7 ?_
 rintro - -
 refine Oq Vnot (Oq Va (KS ?_))
 refine Kc ?_ ?_
 ·intro h8
  have h10 := not_true h8
  refine KS ?_
  refine Oq Va (KS ?_)
  have hq := q4 hrr 1 (by simp only [wt_arguments, h8, h10, hg6, cs4]); subst hq
  exact Kr () rfl (.tmp rfl .nil) [] en
 intro h8
 have h13 := not_false h8
 refine KS ?_
 refine Oq Vm (Oq Vlss (Oq Vm ?_))
 refine Js 14 ?_ ?_
 ·intro h15
  have g16 := dt h15
  refine Osk (Osk (Osk (Osk (Osk (Oq Vpt (Oq Va (KS ?_)))))))
  refine Kt (KS ?_)
  refine Oq Va (KS ?_)
  have hq := q4 hrr 9 (by simp only [wt_arguments, h8, h13, h15, hg6, cs4]); subst hq
  exact Kr () rfl (.tmp rfl .nil) [] en
 intro h15
 have g17 := df h15
 refine Oq Vm (Oq (Vfa fo27_1 0) (Oq (VldF sh23 0) (Oq (Vlen sl23) (Oq Vgeq (Oq Vpf (Oq Va (KS ?_)))))))
 refine Kc ?_ ?_
 ·intro h18
  have g19 := dt h18
  refine KS ?_
  refine Oq Va (KS ?_)
  have hq := q4 hrr 9 (by simp only [wt_arguments, h8, h13, h15, h18, hg6, cs4]); subst hq
  exact Kr () rfl (.tmp rfl .nil) [] en
 intro h18
 have g20 := df h18
 refine KS ?_
 refine Oq Vm (Oq Vlss (Oq Vm ?_))
 refine Js 24 ?_ ?_
 ·intro h21
  have g22 := dt h21
  refine Osk (Osk (Osk (Osk (Oq Vpt (Oq Va (KS ?_))))))
  refine Kt (KS ?_)
  refine Oq Va (KS ?_)
  have hq := q4 hrr 3 (by simp only [wt_arguments, h8, h13, h15, h18, h21, hg6, cs4]); subst hq
  exact Kr () rfl (.tmp rfl .nil) [] en
 intro h21
 have g23 := df h21
 refine Oq Vm (Oq (Vfa fo27_0 0) (Oq (VldF sh3 0) (Oq Vgeq (Oq Vpf (Oq Va (KS ?_))))))
 refine Kc ?_ ?_
 ·intro h24
  have g25 := dt h24
  refine KS ?_
  refine Oq Va (KS ?_)
  have hq := q4 hrr 3 (by simp only [wt_arguments, h8, h13, h15, h18, h21, h24, hg6, cs4]); subst hq
  exact Kr () rfl (.tmp rfl .nil) [] en
 intro h24
 have g26 := df h24
 refine KS ?_
 refine Oq Va (KS ?_)
 have hq := q4 hrr 0 (by simp only [wt_arguments, h8, h13, h15, h18, h21, h24, hg6, cs4]); subst hq
 exact Kr () rfl (.tmp rfl .nil) [] en
theorem fn80 (s : GSet) (sa1 : Option Addr) (sk1 : Nat) (b : Int) (hs_0 : i64ok s.Width) (hb_0 : i64ok b) (rr : Bool) (hrr : bt_within s b = rr) : FT Tryz.prog 80 #[.agg #[vi s.Width, vl sa1 sk1 s.Words], vi b] [S sa1 sk1 s.Words] (fun g : Unit => True) (fun g => vb rr) (fun g => []) := by
 refine FTi Tryz.func80 fun w0 M0 F0 => ?_
 unfold i64ok at hs_0 hb_0
 refine Fb 8 0 fun _ => KS ?_
 refine Oa (Ab [vi s.Width, vl sa1 sk1 s.Words]) fun p2 => Oq Va (KS ?_)
 refine Oq Vm (Oq Vgeq (Oq Vm ?_))
 refine Js 7 ?_ ?_
 ·intro h3
  have g4 := dt h3
  refine Oq Vm (Oq (Vfa fo42_0 0) (Oq (VldF sh3 0) (Oq Vlss (Oq Vpt (Oq Va (KS ?_))))))
  have hq := q4 hrr (decide (b < s.Width)) (by simp only [bt_within, h3, cs4]); subst hq
  exact Kr () rfl (.tmp rfl .nil) [] trivial
 intro h3
 have g5 := df h3
 refine Osk (Osk (Osk (Osk (Oq Vpf (Oq Va (KS ?_))))))
 have hq := q4 hrr false (by simp only [bt_within, h3, cs4]); subst hq
 exact Kr () rfl (.tmp rfl .nil) [] trivial
theorem fn47 (s : GSet) (sa1 : Option Addr) (sk1 : Nat) (b : Int) (hs_0 : i64ok s.Width) (hb_0 : i64ok b) (rr : Bool) (hrr : bt_Has s b = rr) : FT Tryz.prog 47 #[.agg #[vi s.Width, vl sa1 sk1 s.Words], vi b] [S sa1 sk1 s.Words] (fun g : Unit => True) (fun g => vb rr) (fun g => []) := by
 refine FTi Tryz.func47 fun w0 M0 F0 => ?_
 unfold i64ok at hs_0 hb_0
 refine Fb 8 0 fun _ => KS ?_
 refine Oa (Ab [vi s.Width, vl sa1 sk1 s.Words]) fun p2 => Oq Va (KS ?_)
 refine Oq (VldA sh42 0) ?_
 refine letv (bt_Valid s) fun rv3 hg4 => ?_
 have hc5 := fn79 s sa1 sk1 pre rv3 hg4
 refine Oc [1] ca79 hc5 ?_
 rintro - -
 refine Oq Vm ?_
 refine Js 7 ?_ ?_
 ·intro h6
  try have hrg := PV_w (s := s) (by simp only [h6, hg4])
  try have hwi := within_iff (s := s) (b := b) (by simp only [h6, hg4])
  refine Oq (VldA sh42 0) (Oq Vm ?_)
  refine letv (bt_within s b) fun rv8 hg9 => ?_
  have hc10 := fn80 s sa1 sk1 b pre pre rv8 hg9
  refine Oc [1] ca80 hc10 ?_
  rintro - -
  refine Oq Vpt (Oq Vm ?_)
  refine Js 12 ?_ ?_
  ·intro h11
   try have hrg := PV_w (s := s) (by simp only [h6, h11, hg4, hg9])
   try have hwi := within_iff (s := s) (b := b) (by simp only [h6, h11, hg4, hg9])
   refine Oq (Vfa fo42_1 0) (Oq (VldF sh40 0) (Oq Vm (Oq Vquo (Oq (Vi sl40 1) (Oq (VldU sh91 1) (Oq Vm (Oq (VcU un3 un92) (Oq (VremU (b := 64#64) (by simp)) (Oq VshrU ?_)))))))))
   refine Oq (VandU (b := 1#64)) (Oq (VeqlU (b := 1#64)) (Oq Vpt (Oq Va (KS ?_))))
   have hq := q4 hrr ((((s.Words.getD ((b / 64) : Int).toNat 0#64) >>> ((((BitVec.ofInt 64 b) % 64#64).toNat : Int)).toNat) &&& 1#64) == 1#64) (by simp only [bt_Has, h6, h11, hg4, hg9, cs4]); subst hq
   exact Kr () rfl (.tmp rfl .nil) [] trivial
  intro h11
  refine Osk (Osk (Osk (Osk (Osk (Osk (Osk (Osk (Osk (Osk ?_)))))))))
  refine Osk (Osk (Oq Vpf (Oq Va (KS ?_))))
  have hq := q4 hrr false (by simp only [bt_Has, h6, h11, hg4, hg9, cs4]); subst hq
  exact Kr () rfl (.tmp rfl .nil) [] trivial
 intro h6
 refine Osk (Osk (Osk (Oq Vpf (Oq Vm (Osk (Osk (Osk (Osk (Osk ?_)))))))))
 refine Osk (Osk (Osk (Osk (Osk (Osk (Osk (Oq Vpf (Oq Va (KS ?_)))))))))
 have hq := q4 hrr false (by simp only [bt_Has, h6, hg4, cs4]); subst hq
 exact Kr () rfl (.tmp rfl .nil) [] trivial
theorem fn108 (s : List Int) (sa0 : Option Addr) (sk0 : Nat) (fF : FuncId) (fC : List Value) (fp : Int → Bool) (fA : List SP) (hfc : callable Tryz.prog fF = true) (hfF : ∀ x ∈ s, i64ok x → FT Tryz.prog fF ([(vi x : Value)] ++ fC).toArray ([] ++ [pAll fA]) (fun _ : Unit => True) (fun _ => .bool (fp x)) (fun _ => [])) (rr : Int) (hrr : sc_IndexFunc_int s fp = rr) : FT Tryz.prog 108 #[vl sa0 sk0 s, .func (.func fF) #[] fC.toArray] [S sa0 sk0 s, pAll fA] (fun g : Unit => i64ok rr) (fun g => vi rr) (fun g => []) := by
 refine FTi Tryz.func108 fun w0 M0 F0 => Fb 8 0 fun _ => Fo 0 fun ho2 => ?_
 refine KS ?_
 refine Oq Va (KS ?_)
 refine Oq Vm (Oq (Vlen sl22) (Oq Vm (KS ?_)))
 refine Kl (γ := Nat × Int) (fun (r3, v8_4) => ⟨[(0, vl sa0 sk0 s), (1, .func (.func fF) #[] fC.toArray), (7, vi (s.length : Int)), (8, vi v8_4)], [S sa0 sk0 s, pAll fA], sc_IndexFunc_int_L0 s fp r3 v8_4 = sc_IndexFunc_int_L0 s fp (((s.length : Int) - 0).toNat) 0 ∧ r3 = ((s.length : Int) - v8_4).toNat ∧ (0 : Int) ≤ v8_4 ∧ v8_4 ≤ (s.length : Int) ∧ (-9223372036854775808 ≤ v8_4 ∧ v8_4 ≤ 9223372036854775807), r3⟩) (((s.length : Int) - 0).toNat, 0) [0, 1] ⟨rfl, rfl, aM1, aM1, aM1⟩ ?_
 rintro ⟨r3, v8_4⟩ ⟨hM5, hr6, hi7, hi8, hk9⟩
 refine JJ_nx fun _ _ hL hA => ?_; dsimp only at hL hA; subst hL hA
 refine Fb 8 0 fun _ => Fo 0 fun ho11 => KS ?_
 refine Oq Vlss (KS ?_)
 refine Kc ?_ ?_
 ·intro h12
  have g13 := dt h12
  obtain ⟨r14, rfl⟩ := scc (n := r3) aM1
  refine KS ?_
  refine Oq Vm (Oq Va (KS ?_))
  refine Oq Vm (Oq Vm (Oq Vm (Oq (Vi sl22 0) ?_)))
  have hb15 := ok1 (i := v8_4.toNat) ho11 rng
  refine Oq (VldI sh3 0) ?_
  refine JO_call [1] rfl rfl rfl (OpC.clo (asv := [(vi (s.getD v8_4.toNat 0) : Value)] ++ fC) rfl rfl hfc rfl (by simp)) (hfF (s.getD v8_4.toNat 0) (getD_mem rng)  pre) rfl fun _ _ => ?_
  refine KS ?_
  refine Kc ?_ ?_
  ·intro h16
   refine KS ?_
   refine Oq Vm (Oq Va (KS ?_))
   have hR18 := q2 hM5 (.ret v8_4) (by simp only [sc_IndexFunc_int_L0, h12, h16, cs4])
   have hq := q4 hrr v8_4 (by simp only [sc_IndexFunc_int, h12, h16, hR18, cs4]); subst hq
   exact Kr () rfl (.tmp rfl .nil) [] en
  intro h16
  refine KS ?_
  refine Oq Vadd (Oq Vm (KS ?_))
  exact Kg (r14, (v8_4 + 1)) [0, 1] ⟨(q3 hM5 (by simp only [sc_IndexFunc_int_L0, h12, h16, cs4])), aM1, aM1, aM1, aM1⟩
 intro h12
 have g20 := df h12
 obtain rfl : r3 = 0 := by omega
 refine Ke ?_
 have hR21 := q2 hM5 (.brk ()) (by simp only [sc_IndexFunc_int_L0, h12, cs4])
 refine KS ?_
 refine Oq Va (KS ?_)
 have hq := q4 hrr (-1) (by simp only [sc_IndexFunc_int, h12, hR21, cs4]); subst hq
 exact Kr () rfl (.tmp rfl .nil) [] en
theorem fn72 (s : List Int) (sa0 : Option Addr) (sk0 : Nat) (fF : FuncId) (fC : List Value) (fp : Int → Bool) (fA : List SP) (hfc : callable Tryz.prog fF = true) (hfF : ∀ x ∈ s, i64ok x → FT Tryz.prog fF ([(vi x : Value)] ++ fC).toArray ([] ++ [pAll fA]) (fun _ : Unit => True) (fun _ => .bool (fp x)) (fun _ => [])) (rr : Bool) (hrr : sc_ContainsFunc_int s fp = rr) : FT Tryz.prog 72 #[vl sa0 sk0 s, .func (.func fF) #[] fC.toArray] [S sa0 sk0 s, pAll fA] (fun g : Unit => True) (fun g => vb rr) (fun g => []) := by
 refine FTi Tryz.func72 fun w0 M0 F0 => Fb 8 0 fun _ => Fo 0 fun ho2 => ?_
 refine KS ?_
 refine Oq Va (KS ?_)
 refine Oq Vm (Oq Vm ?_)
 refine letv (sc_IndexFunc_int s fp) fun rv3 hg4 => ?_
 have hc5 := fn108 s sa0 sk0 fF fC fp fA hfc hfF rv3 hg4
 refine Oc [0, 1] ca108 hc5 ?_
 rintro - he6
 unfold i64ok at he6
 refine Oq Vgeq (Oq Va (KS ?_))
 have hq := q4 hrr (decide (0 ≤ rv3)) (by simp only [sc_ContainsFunc_int, hg4, cs4]); subst hq
 exact Kr () rfl (.tmp rfl .nil) [] trivial
theorem fn73 (k : Int) (cap0P : Value) (cap0 : GSystem) (cap0a1 : Option Addr) (cap0k1 : Nat) (cap0a2 : Option Addr) (cap0k2 : Nat) (cap0a3 : Option Addr) (cap0k3 : Nat) (cap1P : Value) (cap1 : GHop) (hk_0 : i64ok k) (hcap0_0 : i64ok cap0.Width) (hcap1_0 : i64ok cap1.Node) (hcap1_1 : i64ok cap1.Bit) (hv0 : VSys cap0) (hk0 : 0 ≤ k ∧ k < (cap0.Deps.length : Int)) (rr : Bool) (hrr : wt_origin_1 k cap0 cap1 = rr) : FT Tryz.prog 73 #[vi k, cap0P, cap1P] [pv cap0P [vi cap0.Width, vl cap0a1 cap0k1 cap0.Deps, vl cap0a2 cap0k2 cap0.Transfers, vl cap0a3 cap0k3 cap0.Boundary], S cap0a1 cap0k1 cap0.Deps, S cap0a2 cap0k2 cap0.Transfers, S cap0a3 cap0k3 cap0.Boundary, pv cap1P [vi cap1.Node, vi cap1.Bit]] (fun g : Unit => True) (fun g => vb rr) (fun g => []) := by
 refine FTi Tryz.func73 fun w0 M0 F0 => ?_
 unfold i64ok at hk_0 hcap0_0 hcap1_0 hcap1_1
 refine Fb 24 1 fun _ => Fb 88 2 fun _ => Fb 32 3 fun _ => ?_
 have hv2 := hv0.tl
 have hv3 := hv0.bl
 refine KS ?_
 refine Oq Va (KS ?_)
 refine JJ_peek_GTransfer k.toNat 2 rfl rng fun a4 k5 a6 k7 a8 k9 hb10 hb11 => ?_
 unfold i64ok at hb10 hb11
 refine Fb 8 1 fun _ => Fb 8 2 fun _ => Fb 16 3 fun _ => ?_
 refine JK_drawK [0, 1, 0, 7, 15, 31, 0, 64, 255, 511] fmix ?_
 refine Dv [4] (Vfa fo27_2 0) (Dv [4] (VldF sh24 0) (Dv [] Vm (Dv [6] (Vi sl24 0) (Dv [0] (Vfa fo65_0 0) (Dv [0] (VldG sh42 0 [vi (((cap0.Transfers.getD k.toNat default).Gen).Width), vl a4 k5 (((cap0.Transfers.getD k.toNat default).Gen).Words)]) (Dv [8] (Vfa fo37_1 0) (Dv [8] (VldF sh3 0) ?_)))))))
 refine letv (bt_Has ((cap0.Transfers.getD k.toNat default).Gen) cap1.Bit) fun rv15 hg16 => ?_
 refine Dx [1] [] [1, 0] (fun G => vb rv15) [fun G => SP.fact (True)] (fun G => xC [0] ca47 (fn47 (((cap0.Transfers.getD k.toNat default).Gen)) a4 k5 cap1.Bit pre pre rv15 hg16)) (Dv [] Va ?_)
 refine Dn ⟨by kernel_rfl, fun G => ?_⟩
 refine Jw2 [(4, vb rv15)] [0, 1, 2, 3, 4, 5, 6, 7, 8] [SP.fact (True)] ?_
 refine Jk [0, 1, 2, 3, 4, 5, 6, 7, 8] ?_
 have hq := q4 hrr rv15 (by simp only [wt_origin_1, hg16, cs4]); subst hq
 exact Kr () rfl (.tmp rfl .nil) [] trivial
theorem fn43 (s : GSystem) (sa1 : Option Addr) (sk1 : Nat) (sa2 : Option Addr) (sk2 : Nat) (sa3 : Option Addr) (sk3 : Nat) (h : GHop) (hs_0 : i64ok s.Width) (hh_0 : i64ok h.Node) (hh_1 : i64ok h.Bit) (hv0 : VSys s) (hn0 : 0 ≤ h.Node ∧ h.Node < (s.Deps.length : Int)) (rr : Bool) (hrr : wt_origin s h = rr) : FT Tryz.prog 43 #[.agg #[vi s.Width, vl sa1 sk1 s.Deps, vl sa2 sk2 s.Transfers, vl sa3 sk3 s.Boundary], .agg #[vi h.Node, vi h.Bit]] [S sa1 sk1 s.Deps, S sa2 sk2 s.Transfers, S sa3 sk3 s.Boundary] (fun g : Unit => True) (fun g => vb rr) (fun g => []) := by
 refine FTi Tryz.func43 fun w0 M0 F0 => ?_
 unfold i64ok at hs_0 hh_0 hh_1
 refine Fb 24 0 fun _ => Fb 88 1 fun _ => Fb 32 2 fun _ => ?_
 have hv2 := hv0.tl
 have hv3 := hv0.bl
 refine KS ?_
 refine Oa (Ab [vi s.Width, vl sa1 sk1 s.Deps, vl sa2 sk2 s.Transfers, vl sa3 sk3 s.Boundary]) fun p4 => Oa (Ab [vi h.Node, vi h.Bit]) fun p5 => Oq Va (KS ?_)
 refine JJ_peek_GSet h.Node.toNat 4 rfl rng fun a6 k7 hb8 => ?_
 unfold i64ok at hb8
 refine Fb 8 1 fun _ => ?_
 refine letv (bt_Has (s.Boundary.getD h.Node.toNat default) h.Bit) fun rv10 hg11 => ?_
 refine bool_split rv10 ?_ ?_
 ·intro h12
  refine JK_drawK [0, 1, 0, 4, 15, 31, 0, 64, 255, 511, 1023, 2047, 1023, 5119, 16383, 32767, 1023, 131071, 262143, 524287] fmix ?_
  refine Dv [3] (Vfa fo27_3 0) (Dv [3] (VldF sh25 0) (Dv [2] (Vfa fo37_0 0) (Dv [2] (VldF sh3 0) (Dv [6] (Vi sl25 0) (Dv [0] (VldA sh42 0) (Dv [2] (Vfa fo37_1 0) (Dv [2] (VldF sh3 0) ?_)))))))
  refine Dx [1] [] [1, 0] (fun G => vb true) [fun G => SP.fact (True)] (fun G => xC [0] ca47 (fn47 ((s.Boundary.getD h.Node.toNat default)) a6 k7 h.Bit pre pre rv10 hg11)) ?_ (hV := fun _ _ => congrArg Value.bool h12)
  refine Dv [] Vm (Ds (Ds (Ds (Ds (Ds (Ds (Ds (Ds (Dv [] Vpt ?_)))))))))
  refine Dv [] Va ?_
  refine Dn ⟨by kernel_rfl, fun G => ?_⟩
  refine Jw2 [(4, vb true)] [0, 1, 2, 3, 4, 5, 6] [SP.fact (True)] ?_
  refine Jk [0, 1, 2, 3, 4, 5, 6] ?_
  have hq := q4 hrr true (by simp only [wt_origin, h12, hg11, cs4]); subst hq
  exact Kr () rfl (.tmp rfl .nil) [] trivial
 intro h12
 refine JJ_peekL h.Node.toNat 4 rfl rng fun a15 k16 => ?_
 refine Fb 8 1 fun _ => Fo 1 fun ho18 => ?_
 refine JK_drawK [0, 1, 0, 4, 15, 31, 0, 64, 255, 511, 1023, 2047, 1023, 5119, 16383, 32767, 1023, 131071, 262143, 524287] fmix ?_
 refine Dv [5] (Vfa fo27_3 0) (Dv [5] (VldF sh25 0) (Dv [4] (Vfa fo37_0 0) (Dv [4] (VldF sh3 0) (Dv [8] (Vi sl25 0) (Dv [2] (VldA sh42 0) (Dv [4] (Vfa fo37_1 0) (Dv [4] (VldF sh3 0) ?_)))))))
 refine Dx [3] [] [1, 0] (fun G => vb false) [fun G => SP.fact (True)] (fun G => xC [0] ca47 (fn47 ((s.Boundary.getD h.Node.toNat default)) a6 k7 h.Bit pre pre rv10 hg11)) ?_ (hV := fun _ _ => congrArg Value.bool h12)
 refine Dv [] Vm (Dv [5] (Vfa fo27_1 0) (Dv [5] (VldF sh23 0) (Dv [4] (Vfa fo37_0 0) (Dv [4] (VldF sh3 0) (Dv [6] (Vi sl23 0) (Dv [0] (Vld sh22 0) (Dv [] (Vf [p4, p5]) ?_)))))))
 refine letv (sc_ContainsFunc_int (s.Deps.getD h.Node.toNat []) (fun x => wt_origin_1 x s h)) fun rv19 hg20 => ?_
 refine Dx [1, 4, 5, 6, 7, 8] [] [2, 3, 4, 5, 6, 7, 1, 0] (fun G => vb rv19) [fun G => pAll [pv p4 [vi s.Width, vl sa1 sk1 s.Deps, vl sa2 sk2 s.Transfers, vl sa3 sk3 s.Boundary], S sa1 sk1 s.Deps, S sa2 sk2 s.Transfers, S sa3 sk3 s.Boundary, pv p5 [vi h.Node, vi h.Bit]], fun G => SP.fact (True)] (fun G => xp [2, 3, 4, 5, 1] rfl (Ent.pallT rfl) (xC [1, 0] ca72 (fn72 ((s.Deps.getD h.Node.toNat [])) a15 k16 73 [p4, p5] (fun x => wt_origin_1 x s h) [pv p4 [vi s.Width, vl sa1 sk1 s.Deps, vl sa2 sk2 s.Transfers, vl sa3 sk3 s.Boundary], S sa1 sk1 s.Deps, S sa2 sk2 s.Transfers, S sa3 sk3 s.Boundary, pv p5 [vi h.Node, vi h.Bit]] ca73 (fun x hx hq0 => FT_pall (A1 := _) (fn73 x  p4 s sa1 sk1 sa2 sk2 sa3 sk3 p5 h hq0 pre pre pre hv0 (hv0.dep_mem hn0.1 hn0.2 _ hx) _ rfl)) rv19 hg20))) (Dv [] Vpf (Dv [] Va ?_))
 refine Dn ⟨by kernel_rfl, fun G => ?_⟩
 refine Jw2 [(4, vb rv19)] [0, 1, 2, 3, 4, 5, 6, 7, 8] [SP.fact (True), pAll [pv p4 [vi s.Width, vl sa1 sk1 s.Deps, vl sa2 sk2 s.Transfers, vl sa3 sk3 s.Boundary], S sa1 sk1 s.Deps, S sa2 sk2 s.Transfers, S sa3 sk3 s.Boundary, pv p5 [vi h.Node, vi h.Bit]], SP.fact (True)] ?_
 refine Jk [0, 1, 2, 3, 4, 5, 6, 7, 8, 10] ?_
 have hq := q4 hrr rv19 (by simp only [wt_origin, h12, hg11, hg20, cs4]); subst hq
 exact Kr () rfl (.tmp rfl .nil) [] trivial
theorem fn74 (s : List Int) (sa0 : Option Addr) (sk0 : Nat) (v : Int) (hv_0 : i64ok v) (rr : Int) (hrr : sc_Index_int s v = rr) : FT Tryz.prog 74 #[vl sa0 sk0 s, vi v] [S sa0 sk0 s] (fun g : Unit => i64ok rr) (fun g => vi rr) (fun g => []) := by
 refine FTi Tryz.func74 fun w0 M0 F0 => ?_
 unfold i64ok at hv_0
 refine Fb 8 0 fun _ => Fo 0 fun ho2 => KS ?_
 refine Oq Va (KS ?_)
 refine Oq Vm (Oq (Vlen sl22) (Oq Vm (KS ?_)))
 refine Kl (γ := Nat × Int) (fun (r3, v8_4) => ⟨[(0, vl sa0 sk0 s), (1, vi v), (7, vi (s.length : Int)), (8, vi v8_4)], [S sa0 sk0 s], sc_Index_int_L0 s v r3 v8_4 = sc_Index_int_L0 s v (((s.length : Int) - 0).toNat) 0 ∧ r3 = ((s.length : Int) - v8_4).toNat ∧ (0 : Int) ≤ v8_4 ∧ v8_4 ≤ (s.length : Int) ∧ (-9223372036854775808 ≤ v8_4 ∧ v8_4 ≤ 9223372036854775807), r3⟩) (((s.length : Int) - 0).toNat, 0) [0] ⟨rfl, rfl, aM1, aM1, aM1⟩ ?_
 rintro ⟨r3, v8_4⟩ ⟨hM5, hr6, hi7, hi8, hk9⟩
 refine JJ_nx fun _ _ hL hA => ?_; dsimp only at hL hA; subst hL hA
 refine Fb 8 0 fun _ => Fo 0 fun ho11 => KS ?_
 refine Oq Vlss (KS ?_)
 refine Kc ?_ ?_
 ·intro h12
  have g13 := dt h12
  obtain ⟨r14, rfl⟩ := scc (n := r3) aM1
  refine KS ?_
  refine Oq Vm (Oq Va (KS ?_))
  refine Oq Vm (Oq Vm (Oq Vm (Oq (Vi sl22 0) ?_)))
  have hb15 := ok1 (i := v8_4.toNat) ho11 rng
  refine Oq (VldI sh3 0) (Oq Veql (KS ?_))
  refine Kc ?_ ?_
  ·intro h16
   have g17 := eq_of_beq h16
   refine KS ?_
   refine Oq Vm (Oq Va (KS ?_))
   have hR18 := q2 hM5 (.ret v8_4) (by simp only [sc_Index_int_L0, h12, h16, cs4])
   have hq := q4 hrr v8_4 (by simp only [sc_Index_int, h12, h16, hR18, cs4]); subst hq
   exact Kr () rfl (.tmp rfl .nil) [] en
  intro h16
  have g19 := ne_of_beq_false h16
  refine KS ?_
  refine Oq Vadd (Oq Vm (KS ?_))
  exact Kg (r14, (v8_4 + 1)) [0] ⟨(q3 hM5 (by simp only [sc_Index_int_L0, h12, h16, cs4])), aM1, aM1, aM1, aM1⟩
 intro h12
 have g20 := df h12
 obtain rfl : r3 = 0 := by omega
 refine Ke ?_
 have hR21 := q2 hM5 (.brk ()) (by simp only [sc_Index_int_L0, h12, cs4])
 refine KS ?_
 refine Oq Va (KS ?_)
 have hq := q4 hrr (-1) (by simp only [sc_Index_int, h12, hR21, cs4]); subst hq
 exact Kr () rfl (.tmp rfl .nil) [] en
theorem fn44 (s : List Int) (sa0 : Option Addr) (sk0 : Nat) (v : Int) (hv_0 : i64ok v) (rr : Bool) (hrr : sc_Contains_int s v = rr) : FT Tryz.prog 44 #[vl sa0 sk0 s, vi v] [S sa0 sk0 s] (fun g : Unit => True) (fun g => vb rr) (fun g => []) := by
 refine FTi Tryz.func44 fun w0 M0 F0 => ?_
 unfold i64ok at hv_0
 refine Fb 8 0 fun _ => Fo 0 fun ho2 => KS ?_
 refine Oq Va (KS ?_)
 refine Oq Vm (Oq Vm ?_)
 refine letv (sc_Index_int s v) fun rv3 hg4 => ?_
 have hc5 := fn74 s sa0 sk0 v pre rv3 hg4
 refine Oc [0] ca74 hc5 ?_
 rintro - he6
 unfold i64ok at he6
 refine Oq Vgeq (Oq Va (KS ?_))
 have hq := q4 hrr (decide (0 ≤ rv3)) (by simp only [sc_Contains_int, hg4, cs4]); subst hq
 exact Kr () rfl (.tmp rfl .nil) [] trivial
theorem fn175 (s : List GCopy) (sa0 : Option Addr) (sk0 : Nat) (fF : FuncId) (fC : List Value) (fp : GCopy → Bool) (fA : List SP) (hfc : callable Tryz.prog fF = true) (hfF : ∀ x ∈ s, i64ok x.From → i64ok x.To → FT Tryz.prog fF ([(.agg #[vi x.From, vi x.To] : Value)] ++ fC).toArray ([] ++ [pAll fA]) (fun _ : Unit => True) (fun _ => .bool (fp x)) (fun _ => [])) (rr : Int) (hrr : sc_IndexFunc_Copy s fp = rr) : FT Tryz.prog 175 #[vl sa0 sk0 s, .func (.func fF) #[] fC.toArray] [S sa0 sk0 s, pAll fA] (fun g : Unit => i64ok rr) (fun g => vi rr) (fun g => []) := by
 refine FTi Tryz.func175 fun w0 M0 F0 => Fb 16 0 fun _ => ?_
 refine KS ?_
 refine Oq Va (KS ?_)
 refine Oq Vm (Oq (Vlen sl63) (Oq Vm (KS ?_)))
 refine Kl (γ := Nat × Int) (fun (r2, v8_3) => ⟨[(0, vl sa0 sk0 s), (1, .func (.func fF) #[] fC.toArray), (7, vi (s.length : Int)), (8, vi v8_3)], [S sa0 sk0 s, pAll fA], sc_IndexFunc_Copy_L0 s fp r2 v8_3 = sc_IndexFunc_Copy_L0 s fp (((s.length : Int) - 0).toNat) 0 ∧ r2 = ((s.length : Int) - v8_3).toNat ∧ (0 : Int) ≤ v8_3 ∧ v8_3 ≤ (s.length : Int) ∧ (-9223372036854775808 ≤ v8_3 ∧ v8_3 ≤ 9223372036854775807), r2⟩) (((s.length : Int) - 0).toNat, 0) [0, 1] ⟨rfl, rfl, aM1, aM1, aM1⟩ ?_
 rintro ⟨r2, v8_3⟩ ⟨hM4, hr5, hi6, hi7, hk8⟩
 refine JJ_nx fun _ _ hL hA => ?_; dsimp only at hL hA; subst hL hA
 refine Fb 16 0 fun _ => KS ?_
 refine Oq Vlss (KS ?_)
 refine Kc ?_ ?_
 ·intro h10
  have g11 := dt h10
  obtain ⟨r12, rfl⟩ := scc (n := r2) aM1
  refine KS ?_
  refine Oq Vm (Oq Va (KS ?_))
  refine Oq Vm (Oq Vm (Oq Vm (Oq (Vi sl63 0) ?_)))
  refine JJ_peek_GCopy v8_3.toNat 0 rfl rng fun hb13 hb14 => ?_
  unfold i64ok at hb13 hb14
  refine Oq (VldA sh105 0) ?_
  refine JO_call [2] rfl rfl rfl (OpC.clo (asv := [(.agg #[vi ((s.getD v8_3.toNat default).From), vi ((s.getD v8_3.toNat default).To)] : Value)] ++ fC) rfl rfl hfc rfl (by simp)) (hfF (s.getD v8_3.toNat default) (getD_mem rng)  pre pre) rfl fun _ _ => ?_
  refine KS ?_
  refine Kc ?_ ?_
  ·intro h15
   refine KS ?_
   refine Oq Vm (Oq Va (KS ?_))
   have hR17 := q2 hM4 (.ret v8_3) (by simp only [sc_IndexFunc_Copy_L0, h10, h15, cs4])
   have hq := q4 hrr v8_3 (by simp only [sc_IndexFunc_Copy, h10, h15, hR17, cs4]); subst hq
   exact Kr () rfl (.tmp rfl .nil) [] en
  intro h15
  refine KS ?_
  refine Oq Vadd (Oq Vm (KS ?_))
  exact Kg (r12, (v8_3 + 1)) [1, 2] ⟨(q3 hM4 (by simp only [sc_IndexFunc_Copy_L0, h10, h15, cs4])), aM1, aM1, aM1, aM1⟩
 intro h10
 have g19 := df h10
 obtain rfl : r2 = 0 := by omega
 refine Ke ?_
 have hR20 := q2 hM4 (.brk ()) (by simp only [sc_IndexFunc_Copy_L0, h10, cs4])
 refine KS ?_
 refine Oq Va (KS ?_)
 have hq := q4 hrr (-1) (by simp only [sc_IndexFunc_Copy, h10, hR20, cs4]); subst hq
 exact Kr () rfl (.tmp rfl .nil) [] en
theorem fn148 (s : List GCopy) (sa0 : Option Addr) (sk0 : Nat) (fF : FuncId) (fC : List Value) (fp : GCopy → Bool) (fA : List SP) (hfc : callable Tryz.prog fF = true) (hfF : ∀ x ∈ s, i64ok x.From → i64ok x.To → FT Tryz.prog fF ([(.agg #[vi x.From, vi x.To] : Value)] ++ fC).toArray ([] ++ [pAll fA]) (fun _ : Unit => True) (fun _ => .bool (fp x)) (fun _ => [])) (rr : Bool) (hrr : sc_ContainsFunc_Copy s fp = rr) : FT Tryz.prog 148 #[vl sa0 sk0 s, .func (.func fF) #[] fC.toArray] [S sa0 sk0 s, pAll fA] (fun g : Unit => True) (fun g => vb rr) (fun g => []) := by
 refine FTi Tryz.func148 fun w0 M0 F0 => Fb 16 0 fun _ => ?_
 refine KS ?_
 refine Oq Va (KS ?_)
 refine Oq Vm (Oq Vm ?_)
 refine letv (sc_IndexFunc_Copy s fp) fun rv2 hg3 => ?_
 have hc4 := fn175 s sa0 sk0 fF fC fp fA hfc hfF rv2 hg3
 refine Oc [0, 1] ca175 hc4 ?_
 rintro - he5
 unfold i64ok at he5
 refine Oq Vgeq (Oq Va (KS ?_))
 have hq := q4 hrr (decide (0 ≤ rv2)) (by simp only [sc_ContainsFunc_Copy, hg3, cs4]); subst hq
 exact Kr () rfl (.tmp rfl .nil) [] trivial
theorem fn149 (x : GCopy) (cap0P : Value) (cap0 : GCopy) (hx_0 : i64ok x.From) (hx_1 : i64ok x.To) (hcap0_0 : i64ok cap0.From) (hcap0_1 : i64ok cap0.To) (rr : Bool) (hrr : tf_copied_1 x cap0 = rr) : FT Tryz.prog 149 #[.agg #[vi x.From, vi x.To], cap0P] [pv cap0P [vi cap0.From, vi cap0.To]] (fun g : Unit => True) (fun g => vb rr) (fun g => []) := by
 refine FTi Tryz.func149 fun w0 M0 F0 => ?_
 unfold i64ok at hx_0 hx_1 hcap0_0 hcap0_1
 refine KS ?_
 refine Oa (Ab [vi x.From, vi x.To]) fun p1 => Oq Va (KS ?_)
 refine Oq (VldA sh105 0) (Oq (VldA sh105 1) (Oq (VeqA eqi105 (l := [x.From, x.To]) (m := [cap0.From, cap0.To])) (Oq Va (KS ?_))))
 have hq := q4 hrr ([x.From, x.To] == [cap0.From, cap0.To]) (by simp only [tf_copied_1, cs4]); subst hq
 exact Kr () rfl (.tmp rfl .nil) [] trivial
theorem fn110 (t : GTransfer) (ta1 : Option Addr) (tk1 : Nat) (ta3 : Option Addr) (tk3 : Nat) (ta4 : Option Addr) (tk4 : Nat) (c : GCopy) (ht_0 : i64ok t.Gen.Width) (ht_2 : i64ok t.Kill.Width) (hc_0 : i64ok c.From) (hc_1 : i64ok c.To) (rr : Bool) (hrr : tf_copied t c = rr) : FT Tryz.prog 110 #[.agg #[vi t.Gen.Width, vl ta1 tk1 t.Gen.Words, vi t.Kill.Width, vl ta3 tk3 t.Kill.Words, vl ta4 tk4 t.Copies], .agg #[vi c.From, vi c.To]] [S ta1 tk1 t.Gen.Words, S ta3 tk3 t.Kill.Words, S ta4 tk4 t.Copies] (fun g : Unit => True) (fun g => vb rr) (fun g => []) := by
 refine FTi Tryz.func110 fun w0 M0 F0 => ?_
 unfold i64ok at ht_0 ht_2 hc_0 hc_1
 refine Fb 8 0 fun _ => Fb 8 1 fun _ => Fb 16 2 fun _ => KS ?_
 refine Oa (Ab [vi t.Gen.Width, vl ta1 tk1 t.Gen.Words, vi t.Kill.Width, vl ta3 tk3 t.Kill.Words, vl ta4 tk4 t.Copies]) fun p4 => Oa (Ab [vi c.From, vi c.To]) fun p5 => Oq Va (KS ?_)
 refine Oq (Vfa fo65_2 1) (Oq (VldF sh63 1) (Oq (Vf [p5]) ?_))
 refine JJ_ent (Ent.pall [0] rfl rfl) ?_
 refine letv (sc_ContainsFunc_Copy t.Copies (fun x => tf_copied_1 x c)) fun rv6 hg7 => ?_
 have hc8 := fn148 t.Copies ta4 tk4 149 [p5] (fun x => tf_copied_1 x c) [pv p5 [vi c.From, vi c.To]] ca149 (fun x hx hq0 hq1 => FT_pall (A1 := _) (fn149 x  p5 c hq0 hq1 pre pre _ rfl)) rv6 hg7
 refine Oc [5, 0] ca148 hc8 ?_
 rintro - -
 refine Oq Va (KS ?_)
 have hq := q4 hrr rv6 (by simp only [tf_copied, hg7, cs4]); subst hq
 exact Kr () rfl (.tmp rfl .nil) [] trivial
theorem fn77 (t : GTransfer) (ta1 : Option Addr) (tk1 : Nat) (ta3 : Option Addr) (tk3 : Nat) (ta4 : Option Addr) (tk4 : Nat) (from_ : Int) (to_ : Int) (ht_0 : i64ok t.Gen.Width) (ht_2 : i64ok t.Kill.Width) (hfrom__0 : i64ok from_) (hto__0 : i64ok to_) (rr : Bool) (hrr : tf_follows t from_ to_ = rr) : FT Tryz.prog 77 #[.agg #[vi t.Gen.Width, vl ta1 tk1 t.Gen.Words, vi t.Kill.Width, vl ta3 tk3 t.Kill.Words, vl ta4 tk4 t.Copies], vi from_, vi to_] [S ta1 tk1 t.Gen.Words, S ta3 tk3 t.Kill.Words, S ta4 tk4 t.Copies] (fun g : Unit => True) (fun g => vb rr) (fun g => []) := by
 refine FTi Tryz.func77 fun w0 M0 F0 => ?_
 unfold i64ok at ht_0 ht_2 hfrom__0 hto__0
 refine Fb 8 0 fun _ => Fb 8 1 fun _ => Fb 16 2 fun _ => KS ?_
 refine Oa (Ab [vi t.Gen.Width, vl ta1 tk1 t.Gen.Words, vi t.Kill.Width, vl ta3 tk3 t.Kill.Words, vl ta4 tk4 t.Copies]) fun p4 => Oq Va (KS ?_)
 refine Oq Vm (Oq Vm (Oq Veql (Oq Vm ?_)))
 refine Js 10 ?_ ?_
 ·intro h5
  have g6 := eq_of_beq h5
  refine Oq (Vfa fo65_1 0) (Oq (VldG sh42 0 [vi t.Kill.Width, vl ta3 tk3 t.Kill.Words]) (Oq Vm ?_))
  refine letv (bt_Has t.Kill to_) fun rv7 hg8 => ?_
  have hc9 := fn47 t.Kill ta3 tk3 to_ pre pre rv7 hg8
  refine Oc [2] ca47 hc9 ?_
  rintro - -
  refine Oq Vnot (Oq Vpt (Oq Vm ?_))
  refine Js 17 ?_ ?_
  ·intro h10
   have h12 := not_true h10
   refine Osk (Osk (Osk (Osk (Osk (Oq Vpt (Oq Va (KS ?_)))))))
   have hq := q4 hrr true (by simp only [tf_follows, h5, h10, h12, hg8, cs4]); subst hq
   exact Kr () rfl (.tmp rfl .nil) [] trivial
  intro h10
  have h15 := not_false h10
  refine Oq (VldA sh65 0) (Oq Vm (Oq Vm (Oq (Vbd st105 [vi from_, vi to_]) ?_)))
  refine letv (tf_copied t (GCopy.mk from_ to_)) fun rv17 hg18 => ?_
  have hc19 := fn110 t ta1 tk1 ta3 tk3 ta4 tk4 ((GCopy.mk from_ to_)) pre pre pre pre rv17 hg18
  refine Oc [1, 2, 3] ca110 hc19 ?_
  rintro - -
  refine Oq Vpf (Oq Va (KS ?_))
  have hq := q4 hrr rv17 (by simp only [tf_follows, h5, h10, h15, hg8, hg18, cs4]); subst hq
  exact Kr () rfl (.tmp rfl .nil) [] trivial
 intro h5
 have g20 := ne_of_beq_false h5
 refine Osk (Osk (Osk (Osk (Osk (Oq Vpf (Oq Vm (Oq (VldA sh65 0) (Oq Vm (Oq Vm ?_)))))))))
 refine Oq (Vbd st105 [vi from_, vi to_]) ?_
 refine letv (tf_copied t (GCopy.mk from_ to_)) fun rv21 hg22 => ?_
 have hc23 := fn110 t ta1 tk1 ta3 tk3 ta4 tk4 ((GCopy.mk from_ to_)) pre pre pre pre rv21 hg22
 refine Oc [1, 2, 3] ca110 hc23 ?_
 rintro - -
 refine Oq Vpf (Oq Va (KS ?_))
 have hq := q4 hrr rv21 (by simp only [tf_follows, h5, hg22, cs4]); subst hq
 exact Kr () rfl (.tmp rfl .nil) [] trivial
theorem fn45 (t : GTransfer) (ta1 : Option Addr) (tk1 : Nat) (ta3 : Option Addr) (tk3 : Nat) (ta4 : Option Addr) (tk4 : Nat) (from_ : Int) (to_ : Int) (ht_0 : i64ok t.Gen.Width) (ht_2 : i64ok t.Kill.Width) (hfrom__0 : i64ok from_) (hto__0 : i64ok to_) (rr : Bool) (hrr : tf_Follows t from_ to_ = rr) : FT Tryz.prog 45 #[.agg #[vi t.Gen.Width, vl ta1 tk1 t.Gen.Words, vi t.Kill.Width, vl ta3 tk3 t.Kill.Words, vl ta4 tk4 t.Copies], vi from_, vi to_] [S ta1 tk1 t.Gen.Words, S ta3 tk3 t.Kill.Words, S ta4 tk4 t.Copies] (fun g : Unit => True) (fun g => vb rr) (fun g => []) := by
 refine FTi Tryz.func45 fun w0 M0 F0 => ?_
 unfold i64ok at ht_0 ht_2 hfrom__0 hto__0
 refine Fb 8 0 fun _ => Fb 8 1 fun _ => Fb 16 2 fun _ => KS ?_
 refine Oa (Ab [vi t.Gen.Width, vl ta1 tk1 t.Gen.Words, vi t.Kill.Width, vl ta3 tk3 t.Kill.Words, vl ta4 tk4 t.Copies]) fun p4 => Oq Va (KS ?_)
 refine Oq (VldA sh65 0) ?_
 refine letv (tf_Valid t) fun rv5 hg6 => ?_
 have hc7 := fn75 t ta1 tk1 ta3 tk3 ta4 tk4 pre pre rv5 hg6
 refine Oc [1, 2, 3] ca75 hc7 ?_
 rintro - -
 refine Oq Vm ?_
 refine Js 9 ?_ ?_
 ·intro h8
  refine Oq (VldA sh65 0) (Oq Vm ?_)
  refine letv (tf_bit t from_) fun rv10 hg11 => ?_
  have hc12 := fn76 t ta1 tk1 ta3 tk3 ta4 tk4 from_ pre pre pre rv10 hg11
  refine Oc [1, 2, 3] ca76 hc12 ?_
  rintro - -
  refine Oq Vpt (Oq Vm ?_)
  refine Js 14 ?_ ?_
  ·intro h13
   refine Oq (VldA sh65 0) (Oq Vm ?_)
   refine letv (tf_bit t to_) fun rv15 hg16 => ?_
   have hc17 := fn76 t ta1 tk1 ta3 tk3 ta4 tk4 to_ pre pre pre rv15 hg16
   refine Oc [1, 2, 3] ca76 hc17 ?_
   rintro - -
   refine Oq Vpt (Oq Vm ?_)
   refine Js 19 ?_ ?_
   ·intro h18
    refine Oq (VldA sh65 0) (Oq Vm (Oq Vm ?_))
    refine letv (tf_follows t from_ to_) fun rv20 hg21 => ?_
    have hc22 := fn77 t ta1 tk1 ta3 tk3 ta4 tk4 from_ to_ pre pre pre pre rv20 hg21
    refine Oc [1, 2, 3] ca77 hc22 ?_
    rintro - -
    refine Oq Vpt (Oq Va (KS ?_))
    have hq := q4 hrr rv20 (by simp only [tf_Follows, h8, h13, h18, hg6, hg11, hg16, hg21, cs4]); subst hq
    exact Kr () rfl (.tmp rfl .nil) [] trivial
   intro h18
   refine Osk (Osk (Osk (Osk (Oq Vpf (Oq Va (KS ?_))))))
   have hq := q4 hrr false (by simp only [tf_Follows, h8, h13, h18, hg6, hg11, hg16, cs4]); subst hq
   exact Kr () rfl (.tmp rfl .nil) [] trivial
  intro h13
  refine Osk (Osk (Osk (Oq Vpf (Oq Vm (Osk (Osk (Osk (Osk (Oq Vpf ?_)))))))))
  refine Oq Va (KS ?_)
  have hq := q4 hrr false (by simp only [tf_Follows, h8, h13, hg6, hg11, cs4]); subst hq
  exact Kr () rfl (.tmp rfl .nil) [] trivial
 intro h8
 refine Osk (Osk (Osk (Oq Vpf (Oq Vm (Osk (Osk (Osk (Oq Vpf (Oq Vm ?_)))))))))
 refine Osk (Osk (Osk (Osk (Oq Vpf (Oq Va (KS ?_))))))
 have hq := q4 hrr false (by simp only [tf_Follows, h8, hg6, cs4]); subst hq
 exact Kr () rfl (.tmp rfl .nil) [] trivial
theorem fn14 (s : GSystem) (sa1 : Option Addr) (sk1 : Nat) (sa2 : Option Addr) (sk2 : Nat) (sa3 : Option Addr) (sk3 : Nat) (n : Int) (bit : Int) (l : List GHop) (la0 : Option Addr) (lk0 : Nat) (hs_0 : i64ok s.Width) (hn_0 : i64ok n) (hbit_0 : i64ok bit) (rr : Bool) (hrr : wt_Check s n bit l = rr) : FT Tryz.prog 14 #[.agg #[vi s.Width, vl sa1 sk1 s.Deps, vl sa2 sk2 s.Transfers, vl sa3 sk3 s.Boundary], vi n, vi bit, vl la0 lk0 l] [S sa1 sk1 s.Deps, S sa2 sk2 s.Transfers, S sa3 sk3 s.Boundary, S la0 lk0 l] (fun g : Unit => True) (fun g => vb rr) (fun g => []) := by
 refine FTi Tryz.func14 fun w0 M0 F0 => ?_
 unfold i64ok at hs_0 hn_0 hbit_0
 refine Fb 24 0 fun _ => Fb 88 1 fun _ => Fb 32 2 fun _ => Fb 16 3 fun _ => KS ?_
 refine Oa (Ab [vi s.Width, vl sa1 sk1 s.Deps, vl sa2 sk2 s.Transfers, vl sa3 sk3 s.Boundary]) fun p5 => Oq Va (KS ?_)
 refine Oq (VldA sh27 0) (Oq Vm (Oq Vm ?_))
 refine letv (wt_arguments s n bit) fun rv6 hg7 => ?_
 have hc8 := fn42 s sa1 sk1 sa2 sk2 sa3 sk3 n bit pre pre pre rv6 hg7
 refine Oc [1, 2, 3] ca42 hc8 ?_
 rintro - he9
 unfold i64ok at he9
 refine Oq Vneq (Oq Vm ?_)
 refine Js 16 ?_ ?_
 ·intro h10
  have g11 := ne_of_bne h10
  refine Osk (Osk (Osk (Oq Vpt (Oq Vm (Osk (Osk (Osk (Osk (Osk ?_)))))))))
  refine Osk (Osk (Osk (Osk (Osk (Oq Vpt (KS ?_))))))
  refine Kt (KS ?_)
  refine Oq Va (KS ?_)
  have hq := q4 hrr false (by simp only [wt_Check, h10, hg7, cs4]); subst hq
  exact Kr () rfl (.tmp rfl .nil) [] trivial
 intro h10
 have g12 := eq_of_bne_false h10
 have hwa := wargs_0 (by assumption : wt_arguments s _ _ = rv6) h10; have hwt := hwa.2.1; have hwb := hwa.1.bl; have hwc := hwa.1.tl
 refine Oq Vm (Oq (Vlen sl28) (Oq Veql (Oq Vpf (Oq Vm ?_))))
 refine Js 21 ?_ ?_
 ·intro h13
  have g14 := eq_of_beq h13
  refine Osk (Osk (Osk (Osk (Osk (Osk (Osk (Osk (Osk (Osk ?_)))))))))
  refine Oq Vpt (KS ?_)
  refine Kt (KS ?_)
  refine Oq Va (KS ?_)
  have hq := q4 hrr false (by simp only [wt_Check, h10, h13, hg7, cs4]); subst hq
  exact Kr () rfl (.tmp rfl .nil) [] trivial
 intro h13
 have g15 := ne_of_beq_false h13
 refine Oq Vm (Oq Vm (Oq (Vlen sl28) (Oq Vsub (Oq (Vi sl28 4) ?_))))
 refine JJ_peek_GHop (((l.length : Int) - 1) : Int).toNat 4 rfl rng fun hb16 hb17 => ?_
 unfold i64ok at hb16 hb17
 refine Oq (VldA sh37 0) (Oq Vm (Oq Vm (Oq (Vbd st37 [vi n, vi bit]) (Oq (VneA eqi37 (l := [(l.getD (((l.length : Int) - 1) : Int).toNat default).Node, (l.getD (((l.length : Int) - 1) : Int).toNat default).Bit]) (m := [n, bit])) (Oq Vpf (KS ?_))))))
 refine Kc ?_ ?_
 ·intro h18
  have g19 := ne_of_bne h18
  refine KS ?_
  refine Oq Va (KS ?_)
  have hq := q4 hrr false (by simp only [wt_Check, h10, h13, h18, hg7, cs4]); subst hq
  exact Kr () rfl (.tmp rfl .nil) [] trivial
 intro h18
 have g20 := eq_of_bne_false h18
 refine KS ?_
 refine Oq Vm (Oq (Vlen sl28) (Oq Vm (KS ?_)))
 refine Kl (γ := Nat × Int) (fun (r21, v35_22) => ⟨[(3, vl la0 lk0 l), (4, p5), (33, vl la0 lk0 l), (34, vi (l.length : Int)), (35, vi v35_22)], [pv p5 [vi s.Width, vl sa1 sk1 s.Deps, vl sa2 sk2 s.Transfers, vl sa3 sk3 s.Boundary], S sa1 sk1 s.Deps, S sa2 sk2 s.Transfers, S sa3 sk3 s.Boundary, S la0 lk0 l], wt_Check_L0 s l r21 v35_22 = wt_Check_L0 s l (((l.length : Int) - 0).toNat) 0 ∧ r21 = ((l.length : Int) - v35_22).toNat ∧ (0 : Int) ≤ v35_22 ∧ v35_22 ≤ (l.length : Int) ∧ (-9223372036854775808 ≤ v35_22 ∧ v35_22 ≤ 9223372036854775807), r21⟩) (((l.length : Int) - 0).toNat, 0) [1, 2, 3, 4, 5] ⟨rfl, rfl, aM1, aM1, aM1⟩ ?_
 rintro ⟨r21, v35_22⟩ ⟨hM23, hr24, hi25, hi26, hk27⟩
 refine JJ_nx fun _ _ hL hA => ?_; dsimp only at hL hA; subst hL hA
 refine Fb 24 1 fun _ => Fb 88 2 fun _ => Fb 32 3 fun _ => Fb 16 4 fun _ => KS ?_
 refine Oq Vlss (KS ?_)
 refine Kc ?_ ?_
 ·intro h32
  have g33 := dt h32
  obtain ⟨r34, rfl⟩ := scc (n := r21) aM1
  refine KS ?_
  refine Oq Vm (Oq (Vi sl28 4) ?_)
  refine JJ_peek_GHop v35_22.toNat 4 rfl rng fun hb35 hb36 => ?_
  unfold i64ok at hb35 hb36
  refine Oq (VldA sh37 0) (Oa (Al ze37 [vi 0, vi 0]) fun p37 => Oq Va (Ost (Scl [0] sh37 [vi ((l.getD v35_22.toNat default).Node), vi ((l.getD v35_22.toNat default).Bit)]) (KS ?_)))
  refine Oq (VldA sh27 2) (Oq (Vfa fo37_0 0) (Oq (VldF sh3 0) (Oq (Vfa fo37_1 0) (Oq (VldF sh3 0) ?_))))
  refine letv (wt_arguments s ((l.getD v35_22.toNat default).Node) ((l.getD v35_22.toNat default).Bit)) fun rv38 hg39 => ?_
  have hc40 := fn42 s sa1 sk1 sa2 sk2 sa3 sk3 ((l.getD v35_22.toNat default).Node) ((l.getD v35_22.toNat default).Bit) pre pre pre rv38 hg39
  refine Oc [3, 4, 5] ca42 hc40 ?_
  rintro - he41
  unfold i64ok at he41
  refine Oq Vneq (Oq Vm ?_)
  refine Js 47 ?_ ?_
  ·intro h42
   have g43 := ne_of_bne h42
   refine Osk (Osk (Osk (Osk (Osk (Osk (Osk (Osk (Oq Vpt (KS ?_)))))))))
   refine Kt (KS ?_)
   refine Oq Va (KS ?_)
   have hR44 := q2 hM23 (.ret false) (by simp only [wt_Check_L0, h32, h42, hg39, cs4])
   have hq := q4 hrr false (by simp only [wt_Check, h10, h13, h18, h32, h42, hg7, hg39, hR44, cs4]); subst hq
   exact Kr () rfl (.tmp rfl .nil) [] trivial
  intro h42
  have g45 := eq_of_bne_false h42
  have hwa := wargs_0 (by assumption : wt_arguments s _ _ = rv38) h42; have hwt := hwa.2.1; have hwb := hwa.1.bl; have hwc := hwa.1.tl
  refine Oq Vm (Oq Veql (Oq Vm ?_))
  refine Js 50 ?_ ?_
  ·intro h46
   have g47 := eq_of_beq h46
   refine Oq (VldA sh27 2) (Oq (VldA sh37 0) ?_)
   refine letv (wt_origin s (l.getD v35_22.toNat default)) fun rv48 hg49 => ?_
   have hc50 := fn43 s sa1 sk1 sa2 sk2 sa3 sk3 ((l.getD v35_22.toNat default)) pre pre pre hwa.1 hwa.2.1 rv48 hg49
   refine Oc [3, 4, 5] ca43 hc50 ?_
   rintro - -
   refine Oq Vnot (Oq Vpt (Oq Vpf (KS ?_)))
   refine Kc ?_ ?_
   ·intro h51
    have h53 := not_true h51
    refine KS ?_
    refine Oq Va (KS ?_)
    have hR55 := q2 hM23 (.ret false) (by simp only [wt_Check_L0, h32, h42, h46, h51, h53, hg39, hg49, cs4])
    have hq := q4 hrr false (by simp only [wt_Check, h10, h13, h18, h32, h42, h46, h51, h53, hg7, hg39, hg49, hR55, cs4]); subst hq
    exact Kr () rfl (.tmp rfl .nil) [] trivial
   intro h51
   have h57 := not_false h51
   try (have hq := hwa.1.dep_mem hwa.2.1.1 hwa.2.1.2 _ ((Contains_iff _ _).1 ((by assumption : sc_Contains_int _ _ = rv48).trans h57)))
   refine KS ?_
   refine Jp 0 fun hp59 => ?_
   refine bool_split (decide (0 < v35_22)) ?_ ?_
   ·intro h60
    have g61 := dt h60
    refine JJ_peekL ((l.getD v35_22.toNat default).Node : Int).toNat 4 rfl rng fun a62 k63 => ?_
    refine Fb 8 1 fun _ => Fo 1 fun ho65 => ?_
    refine JJ_peek_GHop ((v35_22 - 1) : Int).toNat 9 rfl rng fun hb66 hb67 => ?_
    unfold i64ok at hb66 hb67
    refine letv (sc_Contains_int (s.Deps.getD ((l.getD v35_22.toNat default).Node : Int).toNat []) ((l.getD ((v35_22 - 1) : Int).toNat default).Node)) fun rv68 hg69 => ?_
    refine bool_split rv68 ?_ ?_
    ·intro h70
     try (have hq := hwa.1.dep_mem hwa.2.1.1 hwa.2.1.2 _ ((Contains_iff _ _).1 ((by assumption : sc_Contains_int _ _ = rv68).trans h70)))
     refine JJ_peek_GTransfer ((l.getD ((v35_22 - 1) : Int).toNat default).Node : Int).toNat 8 rfl rng fun a72 k73 a74 k75 a76 k77 hb78 hb79 => ?_
     unfold i64ok at hb78 hb79
     refine Fb 8 1 fun _ => Fb 8 2 fun _ => Fb 16 3 fun _ => ?_
     refine JK_drawK [0, 1, 3, 7, 15, 7, 39, 127, 255, 7, 7, 1031, 3591, 7687, 15879, 32767, 65535, 131071, 262143, 131071, 131071, 1179647, 3801087, 7995391, 16383999, 33554431, 67108863, 131071, 131071, 268566527, 939655167, 2013396991, 4160880639, 131071, 8590065663, 34359738367, 68719476735, 137438953471, 274877906943] fmix ?_
     refine Dv [] Vm (Db h60 [] Vgtr (Dv [] Vm (Dv [10] (Vfa fo27_1 0) (Dv [10] (VldF sh23 0) (Dv [7] (Vfa fo37_0 0) (Dv [8] (VldF sh3 0) (Dv [11] (Vi sl23 0) (Dv [5] (Vld sh22 0) (Dv [] Vm ?_)))))))))
     refine Dv [] Vm (Dv [] Vsub (Dv [14] (Vi sl28 0) (Dv [4] (Vfa fo37_0 0) (Dv [4] (VldF sh3 0) ?_))))
     refine Dx [6] [] [1, 0] (fun G => vb true) [fun G => SP.fact (True)] (fun G => xC [0] ca44 (fn44 ((s.Deps.getD ((l.getD v35_22.toNat default).Node : Int).toNat [])) a62 k63 ((l.getD ((v35_22 - 1) : Int).toNat default).Node) pre rv68 hg69)) ?_ (hV := fun _ _ => congrArg Value.bool h70)
     refine Dv [] Vm (Dv [10] (Vfa fo27_2 0) (Dv [10] (VldF sh24 0) (Dv [] Vm (Dv [] Vm (Dv [] Vsub (Dv [14] (Vi sl28 0) (Dv [4] (Vfa fo37_0 0) (Dv [4] (VldF sh3 0) (Dv [12] (Vi sl24 0) ?_)))))))))
     refine Dv [0] (VldA sh65 0) (Dv [] Vm (Dv [] Vm (Dv [] Vsub (Dv [14] (Vi sl28 0) (Dv [4] (Vfa fo37_1 0) (Dv [4] (VldF sh3 0) (Dv [7] (Vfa fo37_1 0) (Dv [8] (VldF sh3 0) ?_))))))))
     refine letv (tf_Follows (s.Transfers.getD ((l.getD ((v35_22 - 1) : Int).toNat default).Node : Int).toNat default) ((l.getD ((v35_22 - 1) : Int).toNat default).Bit) ((l.getD v35_22.toNat default).Bit)) fun rv83 hg84 => ?_
     refine Dx [1, 2, 3] [] [1, 2, 3, 0] (fun G => vb rv83) [fun G => SP.fact (True)] (fun G => xC [0, 1, 2] ca45 (fn45 ((s.Transfers.getD ((l.getD ((v35_22 - 1) : Int).toNat default).Node : Int).toNat default)) a72 k73 a74 k75 a76 k77 ((l.getD ((v35_22 - 1) : Int).toNat default).Bit) ((l.getD v35_22.toNat default).Bit) pre pre pre pre rv83 hg84)) (Dv [] Vpt (Dv [] Vnot (Dv [] Vpt ?_)))
     refine Dn ⟨by kernel_rfl, fun G => ?_⟩
     refine Jw2 [(3, vl la0 lk0 l), (4, p5), (33, vl la0 lk0 l), (34, vi (l.length : Int)), (35, vi v35_22), (95, vb (!rv83))] [0, 1, 2, 3, 4, 5, 6, 7, 8, 9, 10, 11, 12, 13, 14] [SP.fact (True), SP.fact (True)] ?_
     refine Jk [0, 1, 2, 3, 4, 5, 6, 8, 8, 9, 10, 11, 12, 13] ?_
     refine Kc ?_ ?_
     ·intro h85
      have h87 := not_true h85
      refine KS ?_
      refine Oq Va (KS ?_)
      have hR89 := q2 hM23 (.ret false) (by simp only [wt_Check_L0, h32, h42, h46, h51, h57, h60, h70, h85, h87, hg39, hg49, hg69, hg84, cs4])
      have hq := q4 hrr false (by simp only [wt_Check, h10, h13, h18, h32, h42, h46, h51, h57, h60, h70, h85, h87, hg7, hg39, hg49, hg69, hg84, hR89, cs4]); subst hq
      exact Kr () rfl (.tmp rfl .nil) [] trivial
     intro h85
     have h91 := not_false h85
     try (have hq := hwa.1.dep_mem hwa.2.1.1 hwa.2.1.2 _ ((Contains_iff _ _).1 ((by assumption : sc_Contains_int _ _ = rv83).trans h91)))
     refine KS ?_
     refine Oq Vadd (Oq Vm (KS ?_))
     exact Kg (r34, (v35_22 + 1)) [9, 10, 11, 12, 13] ⟨(q3 hM23 (by simp only [wt_Check_L0, h32, h42, h46, h51, h57, h60, h70, h85, h91, hg39, hg49, hg69, hg84, cs4])), aM1, aM1, aM1, aM1⟩
    intro h70
    refine JK_drawK [0, 1, 3, 7, 15, 7, 39, 127, 255, 7, 7, 1031, 3591, 7687, 15879, 32767, 65535, 131071, 262143, 131071, 131071, 1179647, 3801087, 7995391, 16383999, 33554431, 67108863, 131071, 131071, 268566527, 939655167, 2013396991, 4160880639, 131071, 8590065663, 34359738367, 68719476735, 137438953471, 274877906943] fmix ?_
    refine Dv [] Vm (Db h60 [] Vgtr (Dv [] Vm (Dv [6] (Vfa fo27_1 0) (Dv [6] (VldF sh23 0) (Dv [3] (Vfa fo37_0 0) (Dv [4] (VldF sh3 0) (Dv [7] (Vi sl23 0) (Dv [1] (Vld sh22 0) (Dv [] Vm ?_)))))))))
    refine Dv [] Vm (Dv [] Vsub (Dv [10] (Vi sl28 0) (Dv [0] (Vfa fo37_0 0) (Dv [0] (VldF sh3 0) ?_))))
    refine Dx [2] [] [1, 0] (fun G => vb false) [fun G => SP.fact (True)] (fun G => xC [0] ca44 (fn44 ((s.Deps.getD ((l.getD v35_22.toNat default).Node : Int).toNat [])) a62 k63 ((l.getD ((v35_22 - 1) : Int).toNat default).Node) pre rv68 hg69)) ?_ (hV := fun _ _ => congrArg Value.bool h70)
    refine Dv [] Vm (Ds (Ds (Ds (Ds (Ds (Ds (Ds (Ds (Ds ?_)))))))))
    refine Ds (Ds (Ds (Ds (Ds (Ds (Ds (Ds (Ds (Ds ?_)))))))))
    refine Dv [] Vpf (Dv [] Vnot (Dv [] Vpt ?_))
    refine Dn ⟨by kernel_rfl, fun G => ?_⟩
    refine Jw2 [(3, vl la0 lk0 l), (4, p5), (33, vl la0 lk0 l), (34, vi (l.length : Int)), (35, vi v35_22), (95, vb true)] [0, 1, 2, 3, 4, 5, 6, 7, 8, 9, 10] [SP.fact (True)] ?_
    refine Jk [0, 1, 2, 4, 4, 5, 6, 7, 8, 9] (Kt ?_)
    refine KS ?_
    refine Oq Va (KS ?_)
    have hR94 := q2 hM23 (.ret false) (by simp only [wt_Check_L0, h32, h42, h46, h51, h57, h60, h70, hg39, hg49, hg69, cs4])
    have hq := q4 hrr false (by simp only [wt_Check, h10, h13, h18, h32, h42, h46, h51, h57, h60, h70, hg7, hg39, hg49, hg69, hR94, cs4]); subst hq
    exact Kr () rfl (.tmp rfl .nil) [] trivial
   intro h60
   have g95 := df h60
   refine Kq [0, 1, 3, 7, 15, 7, 39, 127, 255, 7, 7, 1031, 3591, 7687, 15879, 32767, 65535, 131071, 262143, 131071, 131071, 1179647, 3801087, 7995391, 16383999, 33554431, 67108863, 131071, 131071, 268566527, 939655167, 2013396991, 4160880639, 131071, 8590065663, 34359738367, 68719476735, 137438953471, 274877906943] fmix ?_
   refine Qv [] Vm (Qb h60 [] Vgtr (Qv [] Vm (Qs (Qs (Qs (Qs (Qs (Qs (Qs ?_)))))))))
   refine Qs (Qs (Qs (Qs (Qs (Qs (Qs (Qs (Qs (Qs ?_)))))))))
   refine Qs (Qs (Qs (Qs (Qs (Qs (Qs (Qs (Qs (Qs ?_)))))))))
   refine Qs (Qs (Qs (Qs (Qs (Qs (Qs (Qs (Qv [] Vpf ?_))))))))
   refine Qn ⟨by kernel_rfl, ?_⟩
   refine Kf (KS ?_)
   refine Oq Vadd (Oq Vm (KS ?_))
   exact Kg (r34, (v35_22 + 1)) [3, 4, 5, 6, 7] ⟨(q3 hM23 (by simp only [wt_Check_L0, h32, h42, h46, h51, h57, h60, hg39, hg49, cs4])), aM1, aM1, aM1, aM1⟩
  intro h46
  have g96 := ne_of_beq_false h46
  refine Osk (Osk (Osk (Osk (Oq Vpf (Oq Vpf (KS ?_))))))
  refine Kf (KS ?_)
  refine Jp 0 fun hp97 => ?_
  refine bool_split (decide (0 < v35_22)) ?_ ?_
  ·intro h98
   have g99 := dt h98
   refine JJ_peekL ((l.getD v35_22.toNat default).Node : Int).toNat 4 rfl rng fun a100 k101 => ?_
   refine Fb 8 1 fun _ => Fo 1 fun ho103 => ?_
   refine JJ_peek_GHop ((v35_22 - 1) : Int).toNat 9 rfl rng fun hb104 hb105 => ?_
   unfold i64ok at hb104 hb105
   refine letv (sc_Contains_int (s.Deps.getD ((l.getD v35_22.toNat default).Node : Int).toNat []) ((l.getD ((v35_22 - 1) : Int).toNat default).Node)) fun rv106 hg107 => ?_
   refine bool_split rv106 ?_ ?_
   ·intro h108
    try (have hq := hwa.1.dep_mem hwa.2.1.1 hwa.2.1.2 _ ((Contains_iff _ _).1 ((by assumption : sc_Contains_int _ _ = rv106).trans h108)))
    refine JJ_peek_GTransfer ((l.getD ((v35_22 - 1) : Int).toNat default).Node : Int).toNat 8 rfl rng fun a110 k111 a112 k113 a114 k115 hb116 hb117 => ?_
    unfold i64ok at hb116 hb117
    refine Fb 8 1 fun _ => Fb 8 2 fun _ => Fb 16 3 fun _ => ?_
    refine JK_drawK [0, 1, 3, 7, 15, 7, 39, 127, 255, 7, 7, 1031, 3591, 7687, 15879, 32767, 65535, 131071, 262143, 131071, 131071, 1179647, 3801087, 7995391, 16383999, 33554431, 67108863, 131071, 131071, 268566527, 939655167, 2013396991, 4160880639, 131071, 8590065663, 34359738367, 68719476735, 137438953471, 274877906943] fmix ?_
    refine Dv [] Vm (Db h98 [] Vgtr (Dv [] Vm (Dv [10] (Vfa fo27_1 0) (Dv [10] (VldF sh23 0) (Dv [7] (Vfa fo37_0 0) (Dv [8] (VldF sh3 0) (Dv [11] (Vi sl23 0) (Dv [5] (Vld sh22 0) (Dv [] Vm ?_)))))))))
    refine Dv [] Vm (Dv [] Vsub (Dv [14] (Vi sl28 0) (Dv [4] (Vfa fo37_0 0) (Dv [4] (VldF sh3 0) ?_))))
    refine Dx [6] [] [1, 0] (fun G => vb true) [fun G => SP.fact (True)] (fun G => xC [0] ca44 (fn44 ((s.Deps.getD ((l.getD v35_22.toNat default).Node : Int).toNat [])) a100 k101 ((l.getD ((v35_22 - 1) : Int).toNat default).Node) pre rv106 hg107)) ?_ (hV := fun _ _ => congrArg Value.bool h108)
    refine Dv [] Vm (Dv [10] (Vfa fo27_2 0) (Dv [10] (VldF sh24 0) (Dv [] Vm (Dv [] Vm (Dv [] Vsub (Dv [14] (Vi sl28 0) (Dv [4] (Vfa fo37_0 0) (Dv [4] (VldF sh3 0) (Dv [12] (Vi sl24 0) ?_)))))))))
    refine Dv [0] (VldA sh65 0) (Dv [] Vm (Dv [] Vm (Dv [] Vsub (Dv [14] (Vi sl28 0) (Dv [4] (Vfa fo37_1 0) (Dv [4] (VldF sh3 0) (Dv [7] (Vfa fo37_1 0) (Dv [8] (VldF sh3 0) ?_))))))))
    refine letv (tf_Follows (s.Transfers.getD ((l.getD ((v35_22 - 1) : Int).toNat default).Node : Int).toNat default) ((l.getD ((v35_22 - 1) : Int).toNat default).Bit) ((l.getD v35_22.toNat default).Bit)) fun rv121 hg122 => ?_
    refine Dx [1, 2, 3] [] [1, 2, 3, 0] (fun G => vb rv121) [fun G => SP.fact (True)] (fun G => xC [0, 1, 2] ca45 (fn45 ((s.Transfers.getD ((l.getD ((v35_22 - 1) : Int).toNat default).Node : Int).toNat default)) a110 k111 a112 k113 a114 k115 ((l.getD ((v35_22 - 1) : Int).toNat default).Bit) ((l.getD v35_22.toNat default).Bit) pre pre pre pre rv121 hg122)) (Dv [] Vpt (Dv [] Vnot (Dv [] Vpt ?_)))
    refine Dn ⟨by kernel_rfl, fun G => ?_⟩
    refine Jw2 [(3, vl la0 lk0 l), (4, p5), (33, vl la0 lk0 l), (34, vi (l.length : Int)), (35, vi v35_22), (95, vb (!rv121))] [0, 1, 2, 3, 4, 5, 6, 7, 8, 9, 10, 11, 12, 13, 14] [SP.fact (True), SP.fact (True)] ?_
    refine Jk [0, 1, 2, 3, 4, 5, 6, 8, 8, 9, 10, 11, 12, 13] ?_
    refine Kc ?_ ?_
    ·intro h123
     have h125 := not_true h123
     refine KS ?_
     refine Oq Va (KS ?_)
     have hR127 := q2 hM23 (.ret false) (by simp only [wt_Check_L0, h32, h42, h46, h98, h108, h123, h125, hg39, hg107, hg122, cs4])
     have hq := q4 hrr false (by simp only [wt_Check, h10, h13, h18, h32, h42, h46, h98, h108, h123, h125, hg7, hg39, hg107, hg122, hR127, cs4]); subst hq
     exact Kr () rfl (.tmp rfl .nil) [] trivial
    intro h123
    have h129 := not_false h123
    try (have hq := hwa.1.dep_mem hwa.2.1.1 hwa.2.1.2 _ ((Contains_iff _ _).1 ((by assumption : sc_Contains_int _ _ = rv121).trans h129)))
    refine KS ?_
    refine Oq Vadd (Oq Vm (KS ?_))
    exact Kg (r34, (v35_22 + 1)) [9, 10, 11, 12, 13] ⟨(q3 hM23 (by simp only [wt_Check_L0, h32, h42, h46, h98, h108, h123, h129, hg39, hg107, hg122, cs4])), aM1, aM1, aM1, aM1⟩
   intro h108
   refine JK_drawK [0, 1, 3, 7, 15, 7, 39, 127, 255, 7, 7, 1031, 3591, 7687, 15879, 32767, 65535, 131071, 262143, 131071, 131071, 1179647, 3801087, 7995391, 16383999, 33554431, 67108863, 131071, 131071, 268566527, 939655167, 2013396991, 4160880639, 131071, 8590065663, 34359738367, 68719476735, 137438953471, 274877906943] fmix ?_
   refine Dv [] Vm (Db h98 [] Vgtr (Dv [] Vm (Dv [6] (Vfa fo27_1 0) (Dv [6] (VldF sh23 0) (Dv [3] (Vfa fo37_0 0) (Dv [4] (VldF sh3 0) (Dv [7] (Vi sl23 0) (Dv [1] (Vld sh22 0) (Dv [] Vm ?_)))))))))
   refine Dv [] Vm (Dv [] Vsub (Dv [10] (Vi sl28 0) (Dv [0] (Vfa fo37_0 0) (Dv [0] (VldF sh3 0) ?_))))
   refine Dx [2] [] [1, 0] (fun G => vb false) [fun G => SP.fact (True)] (fun G => xC [0] ca44 (fn44 ((s.Deps.getD ((l.getD v35_22.toNat default).Node : Int).toNat [])) a100 k101 ((l.getD ((v35_22 - 1) : Int).toNat default).Node) pre rv106 hg107)) ?_ (hV := fun _ _ => congrArg Value.bool h108)
   refine Dv [] Vm (Ds (Ds (Ds (Ds (Ds (Ds (Ds (Ds (Ds ?_)))))))))
   refine Ds (Ds (Ds (Ds (Ds (Ds (Ds (Ds (Ds (Ds ?_)))))))))
   refine Dv [] Vpf (Dv [] Vnot (Dv [] Vpt ?_))
   refine Dn ⟨by kernel_rfl, fun G => ?_⟩
   refine Jw2 [(3, vl la0 lk0 l), (4, p5), (33, vl la0 lk0 l), (34, vi (l.length : Int)), (35, vi v35_22), (95, vb true)] [0, 1, 2, 3, 4, 5, 6, 7, 8, 9, 10] [SP.fact (True)] ?_
   refine Jk [0, 1, 2, 4, 4, 5, 6, 7, 8, 9] (Kt ?_)
   refine KS ?_
   refine Oq Va (KS ?_)
   have hR132 := q2 hM23 (.ret false) (by simp only [wt_Check_L0, h32, h42, h46, h98, h108, hg39, hg107, cs4])
   have hq := q4 hrr false (by simp only [wt_Check, h10, h13, h18, h32, h42, h46, h98, h108, hg7, hg39, hg107, hR132, cs4]); subst hq
   exact Kr () rfl (.tmp rfl .nil) [] trivial
  intro h98
  have g133 := df h98
  refine Kq [0, 1, 3, 7, 15, 7, 39, 127, 255, 7, 7, 1031, 3591, 7687, 15879, 32767, 65535, 131071, 262143, 131071, 131071, 1179647, 3801087, 7995391, 16383999, 33554431, 67108863, 131071, 131071, 268566527, 939655167, 2013396991, 4160880639, 131071, 8590065663, 34359738367, 68719476735, 137438953471, 274877906943] fmix ?_
  refine Qv [] Vm (Qb h98 [] Vgtr (Qv [] Vm (Qs (Qs (Qs (Qs (Qs (Qs (Qs ?_)))))))))
  refine Qs (Qs (Qs (Qs (Qs (Qs (Qs (Qs (Qs (Qs ?_)))))))))
  refine Qs (Qs (Qs (Qs (Qs (Qs (Qs (Qs (Qs (Qs ?_)))))))))
  refine Qs (Qs (Qs (Qs (Qs (Qs (Qs (Qs (Qv [] Vpf ?_))))))))
  refine Qn ⟨by kernel_rfl, ?_⟩
  refine Kf (KS ?_)
  refine Oq Vadd (Oq Vm (KS ?_))
  exact Kg (r34, (v35_22 + 1)) [3, 4, 5, 6, 7] ⟨(q3 hM23 (by simp only [wt_Check_L0, h32, h42, h46, h98, hg39, cs4])), aM1, aM1, aM1, aM1⟩
 intro h32
 have g134 := df h32
 obtain rfl : r21 = 0 := by omega
 refine Ke ?_
 have hR135 := q2 hM23 (.brk ()) (by simp only [wt_Check_L0, h32, cs4])
 refine KS ?_
 refine Oq Va (KS ?_)
 have hq := q4 hrr true (by simp only [wt_Check, h10, h13, h18, h32, hg7, hR135, cs4]); subst hq
 exact Kr () rfl (.tmp rfl .nil) [] trivial
theorem fn141 (v : GSet) (va1 : Option Addr) (vk1 : Nat) (hv_0 : i64ok v.Width) (rr : Bool) (hrr : eq_Right_1 v = rr) : FT Tryz.prog 141 #[.agg #[vi v.Width, vl va1 vk1 v.Words]] [S va1 vk1 v.Words] (fun g : Unit => True) (fun g => vb rr) (fun g => []) := by
 refine FTi Tryz.func141 fun w0 M0 F0 => ?_
 unfold i64ok at hv_0
 refine Fb 8 0 fun _ => KS ?_
 refine Oa (Ab [vi v.Width, vl va1 vk1 v.Words]) fun p2 => Oq Va (KS ?_)
 refine Oq (VldA sh42 0) ?_
 refine letv (bt_Valid v) fun rv3 hg4 => ?_
 have hc5 := fn79 v va1 vk1 pre rv3 hg4
 refine Oc [1] ca79 hc5 ?_
 rintro - -
 refine Oq Vnot (Oq Va (KS ?_))
 have hq := q4 hrr (!rv3) (by simp only [eq_Right_1, hg4, cs4]); subst hq
 exact Kr () rfl (.tmp rfl .nil) [] trivial
theorem fn142 (s : List (BitVec 64)) (sa0 : Option Addr) (sk0 : Nat) (rr : List (BitVec 64)) (hrr : sc_Clone_uint64 s = rr) : FT Tryz.prog 142 #[vl sa0 sk0 s] [S sa0 sk0 s] (fun g : Value => (rr.length = s.length)) (fun g => g) (fun g => [os g rr]) := by
 have hm : sc_Clone_uint64 s = s := rfl
 rw [hm] at hrr
 subst hrr
 refine FTi Tryz.func142 fun w0 M0 F0 => ?_
 refine KS ?_
 refine Oq Va ?_
 refine KS ?_
 refine Oq Vm ?_
 refine Oq (VeqN un40) ?_
 refine KS ?_
 refine Kc ?_ ?_
 ·intro h
  refine Jnil 0 h ?_
  intro h0
  subst h0
  refine KS ?_
  refine Oq Va ?_
  refine KS ?_
  refine Jl [] (Ent.osNil (α := BitVec 64)) ?_
  exact Kr (.slice none 0 0) rfl (.tmp rfl .nil) [0] rfl
 ·intro _
  refine KS ?_
  refine Oa (As0 sl40) fun c1 => ?_
  refine Jo 0 ?_; rintro a2 k3 rfl
  refine Oq Vm ?_
  refine Fb 8 1 fun hl => ?_
  refine Jl [0] (Ent.crNil (α := BitVec 64) _) ?_
  refine Oa (Ap0 [0, 0] sl40 sl40 sz40) fun c4 => ?_
  refine Oq Va ?_
  refine KS ?_
  exact Kr c4 rfl (.tmp rfl .nil) [0] rfl
theorem fn150 (a : GSet) (aa1 : Option Addr) (ak1 : Nat) (b : GSet) (ba1 : Option Addr) (bk1 : Nat) (combineF : FuncId) (combineC : List Value) (combinep : (BitVec 64) → (BitVec 64) → (BitVec 64)) (combineA : List SP) (ha_0 : i64ok a.Width) (hb_0 : i64ok b.Width) (hcombinec : callable Tryz.prog combineF = true) (hcombineF : ∀ x0 x1, FT Tryz.prog combineF ([u64 x0, u64 x1] ++ combineC).toArray ([] ++ [pAll combineA]) (fun _ : Unit => True) (fun _ => u64 (combinep x0 x1)) (fun _ => [])) (rr : GSet × Int) (hrr : bt_merge a b combinep = rr) : FT Tryz.prog 150 #[.agg #[vi a.Width, vl aa1 ak1 a.Words], .agg #[vi b.Width, vl ba1 bk1 b.Words], .func (.func combineF) #[] combineC.toArray] [S aa1 ak1 a.Words, S ba1 bk1 b.Words, pAll combineA] (fun g : Value => i64ok rr.1.Width ∧ i64ok rr.2) (fun g => .tuple #[.agg #[vi rr.1.Width, g], vi rr.2]) (fun g => [sl g rr.1.Words]) := by
 refine FTi Tryz.func150 fun w0 M0 F0 => ?_
 unfold i64ok at ha_0 hb_0
 refine Fb 8 0 fun _ => Fb 8 1 fun _ => KS ?_
 refine Oa (Ab [vi a.Width, vl aa1 ak1 a.Words]) fun p3 => Oa (Ab [vi b.Width, vl ba1 bk1 b.Words]) fun p4 => Oa (Al ze42 [vi 0, .slice none 0 0]) fun p5 => Oq Va (KS ?_)
 refine Oq (VldA sh42 2) ?_
 refine letv (bt_Valid a) fun rv6 hg7 => ?_
 have hc8 := fn79 a aa1 ak1 pre rv6 hg7
 refine Oc [3] ca79 hc8 ?_
 rintro - -
 refine Oq Vnot (Oq Vm ?_)
 refine Js 14 ?_ ?_
 ·intro h9
  have h11 := not_true h9
  refine Osk (Osk (Osk (Oq Vpt (Oq Va (KS ?_)))))
  refine Kt (KS ?_)
  refine Oq (Vbd st42 [vi 0, .slice none 0 0]) (Ost (Scl [0] sh42 [vi 0, .slice none 0 0]) (Oq Va (KS ?_)))
  refine Jl [] (Ent.slNil (α := BitVec 64)) ?_
  have hq := q4 hrr ((GSet.mk 0 []), 1) (by simp only [bt_merge, h9, h11, hg7, cs4]); subst hq
  exact Kr (.slice none 0 0) rfl (.cellN 1 rfl sh42 rfl (reads_Cl _ _) rfl (.tmp rfl .nil)) [0] en
 intro h9
 have h14 := not_false h9
 try have hra := PV_w (s := a) (by simp only [h9, h14, hg7])
 try have hrb := PV_w (s := b) (by simp only [h9, h14, hg7])
 refine Oq (VldA sh42 1) ?_
 refine letv (bt_Valid b) fun rv16 hg17 => ?_
 have hc18 := fn79 b ba1 bk1 pre rv16 hg17
 refine Oc [4] ca79 hc18 ?_
 rintro - -
 refine Oq Vnot (Oq Vpf (Oq Va (KS ?_)))
 refine Kc ?_ ?_
 ·intro h19
  have h21 := not_true h19
  refine KS ?_
  refine Oq (Vbd st42 [vi 0, .slice none 0 0]) (Ost (Scl [0] sh42 [vi 0, .slice none 0 0]) (Oq Va (KS ?_)))
  refine Jl [] (Ent.slNil (α := BitVec 64)) ?_
  have hq := q4 hrr ((GSet.mk 0 []), 1) (by simp only [bt_merge, h9, h14, h19, h21, hg7, hg17, cs4]); subst hq
  exact Kr (.slice none 0 0) rfl (.cellN 1 rfl sh42 rfl (reads_Cl _ _) rfl (.tmp rfl .nil)) [0] en
 intro h19
 have h24 := not_false h19
 try have hra := PV_w (s := a) (by simp only [h9, h14, h19, h24, hg7, hg17])
 try have hrb := PV_w (s := b) (by simp only [h9, h14, h19, h24, hg7, hg17])
 refine KS ?_
 refine Oq (Vfa fo42_0 2) (Oq (VldF sh3 2) (Oq (Vfa fo42_0 1) (Oq (VldF sh3 1) (Oq Vneq (Oq Va (KS ?_))))))
 refine Kc ?_ ?_
 ·intro h26
  have g27 := ne_of_bne h26
  refine KS ?_
  refine Oq (Vbd st42 [vi 0, .slice none 0 0]) (Ost (Scl [0] sh42 [vi 0, .slice none 0 0]) (Oq Va (KS ?_)))
  refine Jl [] (Ent.slNil (α := BitVec 64)) ?_
  have hq := q4 hrr ((GSet.mk 0 []), 2) (by simp only [bt_merge, h9, h14, h19, h24, h26, hg7, hg17, cs4]); subst hq
  exact Kr (.slice none 0 0) rfl (.cellN 1 rfl sh42 rfl (reads_Cl _ _) rfl (.tmp rfl .nil)) [0] en
 intro h26
 have g28 := eq_of_bne_false h26
 refine KS ?_
 refine JK_drawK [0, 1, 0, 4, 12, 28, 63, 0, 255] fmix ?_
 refine Dv [2] (Vfa fo42_0 0) (Dv [2] (VldF sh3 0) (Dv [2] (Vfa fo42_1 0) (Dv [2] (VldF sh40 0) (Dv [] (Vlen sl40) ?_))))
 have hn30 := List.length_replicate (n := (a.Words.length : Int).toNat) (a := (0#64 : BitVec 64))
 refine Dx [] [] [0] (fun G => (G.g 5 0)) [fun G => os (G.g 5 0) ((List.replicate (a.Words.length : Int).toNat 0#64) : List (BitVec 64))] (fun G => xA (Amk (α := BitVec 64) sl40 sz40 0#64 (fun _ _ => rfl))) ?_
 refine Dx [6] [] [0] (fun G => .agg #[vi a.Width, (G.g 5 0)]) [] (fun G => xV (v := .agg #[vi a.Width, (G.g 5 0)]) (Vo 0 rfl (isO_os _ _) fun aq31 kq32 eq33 => (by rw [eq33]; exact Vbd st42 [vi a.Width, .slice aq31 (((List.replicate (a.Words.length : Int).toNat 0#64) : List (BitVec 64)).length) kq32]))) (Dx [] [] [0] (fun G => (G.g 7 0)) [fun G => Cl (G.g 7 0) [vi 0, .slice none 0 0]] (fun G => xA (Al ze42 [vi 0, .slice none 0 0])) (Dx0 [6, 7] [7] [1, 0] [fun G => Cl (G.g 7 0) [vi a.Width, (G.g 5 0)]] (fun G => x1 0 rfl os_one fun ho35 => (xS (Scl [1] sh42 [vi a.Width, (G.g 5 0)] (v := .agg #[vi a.Width, (G.g 5 0)]) (h1 := show [vi a.Width, (G.g 5 0)].all (·.oneCell') = true from (by simp only [List.all_cons, List.all_nil, ho35, Bool.and_true, Bool.true_and] <;> rfl))))) ?_))
 refine Dn ⟨by kernel_rfl, fun G => ?_⟩
 refine Jw2 [(2, .func (.func combineF) #[] combineC.toArray), (3, p3), (4, p4), (6, p5), (8, (G.g 7 0))] [0, 1, 2, 3, 4, 5] [os (G.g 5 0) ((List.replicate (a.Words.length : Int).toNat 0#64) : List (BitVec 64)), Cl (G.g 7 0) [vi a.Width, (G.g 5 0)]] ?_
 generalize G.g 5 0 = c29, G.g 7 0 = p34
 refine Jo 6 ?_; rintro a36 k37 rfl
 refine Fb 8 6 fun _ => KS ?_
 refine Oq (Vfa fo42_1 7) (Oq (VldF sh40 7) (Oq (Vlen sl40) (Oq Vm (KS ?_))))
 refine Kl (γ := Nat × List (BitVec 64) × Int) (fun (r39, out1_40, v37_41) => ⟨[(2, .func (.func combineF) #[] combineC.toArray), (3, p3), (4, p4), (6, p5), (8, p34), (36, vi (((List.replicate (a.Words.length : Int).toNat 0#64).length : Nat) : Int)), (37, vi v37_41)], [Cl p5 [vi 0, .slice none 0 0], pv p4 [vi b.Width, vl ba1 bk1 b.Words], pv p3 [vi a.Width, vl aa1 ak1 a.Words], S aa1 ak1 a.Words, S ba1 bk1 b.Words, pAll combineA, os (vl a36 k37 (List.replicate (a.Words.length : Int).toNat 0#64)) out1_40, Cl p34 [vi a.Width, vl a36 k37 (List.replicate (a.Words.length : Int).toNat 0#64)]], bt_merge_L0 a b combinep r39 out1_40 v37_41 = bt_merge_L0 a b combinep ((((((List.replicate (a.Words.length : Int).toNat 0#64).length : Nat) : Int) : Int) - 0).toNat) (List.replicate (a.Words.length : Int).toNat 0#64) 0 ∧ r39 = (((((List.replicate (a.Words.length : Int).toNat 0#64).length : Nat) : Int) : Int) - v37_41).toNat ∧ (0 : Int) ≤ v37_41 ∧ (v37_41 ≤ (((List.replicate (a.Words.length : Int).toNat 0#64).length : Nat) : Int) ∨ v37_41 = 0) ∧ (-9223372036854775808 ≤ v37_41 ∧ v37_41 ≤ 9223372036854775807) ∧ out1_40.length = a.Words.length, r39⟩) ((((((List.replicate (a.Words.length : Int).toNat 0#64).length : Nat) : Int) : Int) - 0).toNat, (List.replicate (a.Words.length : Int).toNat 0#64), 0) [0, 0, 1, 2, 3, 4, 5, 5] ⟨rfl, rfl, aM1, (.inr rfl), aM1, iv0⟩ ?_
 rintro ⟨r39, out1_40, v37_41⟩ ⟨hM42, hr43, hi44, hi45, hk46, hv47⟩
 refine JJ_nx fun _ _ hL hA => ?_; dsimp only at hL hA; subst hL hA
 refine Fb 8 3 fun _ => Fb 8 4 fun _ => Fb 8 6 fun _ => Fl 6 fun hn51 => ?_
 refine KS ?_
 refine Oq Vlss (KS ?_)
 refine Kc ?_ ?_
 ·intro h52
  have g53 := dt h52
  obtain ⟨r54, rfl⟩ := scc (n := r39) aM1
  refine KS ?_
  refine Oq Vm (Oq Va (KS ?_))
  refine Jp 7 fun hp55 => ?_
  refine JK_drawK [0, 1, 0, 0, 0, 16, 0, 112, 240, 0, 512, 0, 3584, 7680, 16376, 32767, 65535] fmix ?_
  refine Dv [0] (Vfa fo42_1 0) (Dv [8] (VldF sh40 0) (Dv [] Vm (Dv [] Vm (Dv [3] (Vfa fo42_1 0) (Dv [3] (VldF sh40 0) (Dv [] Vm (Dv [4] (Vi sl40 0) (Dv [4] (VldU sh91 0) (Dv [2] (Vfa fo42_1 0) ?_)))))))))
  refine Dv [2] (VldF sh40 0) (Dv [] Vm (Dv [5] (Vi sl40 0) (Dv [5] (VldU sh91 0) (Dx [6] [] [1, 0] (fun G => u64 (combinep (a.Words.getD v37_41.toNat 0#64) (b.Words.getD v37_41.toNat 0#64))) [fun G => SP.fact (True)] (fun G => xE (asv := [(u64 (a.Words.getD v37_41.toNat 0#64) : Value), (u64 (b.Words.getD v37_41.toNat 0#64) : Value)] ++ combineC) [0] hcombinec rfl rfl rfl (by simp) rfl (hcombineF (a.Words.getD v37_41.toNat 0#64) (b.Words.getD v37_41.toNat 0#64)  )) (Dv [7] (Vi sl40 0) (Dx0 [7] [7] [0] [fun G => os (vl a36 k37 (List.replicate (a.Words.length : Int).toNat 0#64)) (out1_40.set v37_41.toNat (combinep (a.Words.getD v37_41.toNat 0#64) (b.Words.getD v37_41.toNat 0#64)))] (fun G => xS (SoU [0] sh91)) ?_))))))
  refine Dn ⟨by kernel_rfl, fun G => ?_⟩
  refine Jw2 [(2, .func (.func combineF) #[] combineC.toArray), (3, p3), (4, p4), (6, p5), (8, p34), (36, vi (((List.replicate (a.Words.length : Int).toNat 0#64).length : Nat) : Int)), (37, vi v37_41)] [0, 1, 2, 3, 4, 5, 6, 8] [SP.fact (True), os (vl a36 k37 (List.replicate (a.Words.length : Int).toNat 0#64)) (out1_40.set v37_41.toNat (combinep (a.Words.getD v37_41.toNat 0#64) (b.Words.getD v37_41.toNat 0#64)))] ?_
  refine Jk [1, 1, 2, 3, 4, 5, 6, 7] ?_
  refine KS ?_
  refine Oq Vadd (Oq Vm (KS ?_))
  exact Kg (r54, (out1_40.set v37_41.toNat (combinep (a.Words.getD v37_41.toNat 0#64) (b.Words.getD v37_41.toNat 0#64))), (v37_41 + 1)) [0, 0, 1, 2, 3, 4, 6, 5] ⟨(q3 hM42 (by simp only [bt_merge_L0, h52, cs4])), aM1, aM1, aM1, aM1, iv1⟩
 intro h52
 have g56 := df h52
 obtain rfl : r39 = 0 := by omega
 refine Ke ?_
 have hR57 := q2 hM42 out1_40 (by simp only [bt_merge_L0, h52, cs4])
 refine KS ?_
 refine Oq (VldA sh42 7) (Ost (Scl [0] sh42 [vi a.Width, vl a36 k37 (List.replicate (a.Words.length : Int).toNat 0#64)]) (Oq Va (KS ?_)))
 refine Jl [6] (Ent.freeze _ _) ?_
 have hq := q4 hrr ((GSet.mk a.Width out1_40), 0) (by simp only [bt_merge, h9, h14, h19, h24, h26, h52, hg7, hg17, hR57, cs4]); subst hq
 exact Kr (vl a36 k37 (List.replicate (a.Words.length : Int).toNat 0#64)) rfl (.cellN 1 rfl sh42 rfl (reads_Cl _ _) rfl (.tmp rfl .nil)) [0] en
theorem fn151 (x : BitVec 64) (y : BitVec 64) (rr : BitVec 64) (hrr : bt_Diff_1 x y = rr) : FT Tryz.prog 151 #[u64 x, u64 y] [] (fun g : Unit => True) (fun g => u64 rr) (fun g => []) := by
 refine FTi Tryz.func151 fun w0 M0 F0 => ?_
 refine KS ?_
 refine Oq Va (KS ?_)
 refine Oq Vm (Oq Vm (Oq VandNotU (Oq Va (KS ?_))))
 have hq := q4 hrr (x &&& ~~~y) (by simp only [bt_Diff_1, cs4]); subst hq
 exact Kr () rfl (.tmp rfl .nil) [] trivial
theorem fn111 (a : GSet) (aa1 : Option Addr) (ak1 : Nat) (b : GSet) (ba1 : Option Addr) (bk1 : Nat) (ha_0 : i64ok a.Width) (hb_0 : i64ok b.Width) (rr : GSet × Int) (hrr : bt_Diff a b = rr) : FT Tryz.prog 111 #[.agg #[vi a.Width, vl aa1 ak1 a.Words], .agg #[vi b.Width, vl ba1 bk1 b.Words]] [S aa1 ak1 a.Words, S ba1 bk1 b.Words] (fun g : Value => i64ok rr.1.Width ∧ i64ok rr.2) (fun g => .tuple #[.agg #[vi rr.1.Width, g], vi rr.2]) (fun g => [sl g rr.1.Words]) := by
 refine FTi Tryz.func111 fun w0 M0 F0 => ?_
 unfold i64ok at ha_0 hb_0
 refine Fb 8 0 fun _ => Fb 8 1 fun _ => KS ?_
 refine Oa (Ab [vi a.Width, vl aa1 ak1 a.Words]) fun p3 => Oa (Ab [vi b.Width, vl ba1 bk1 b.Words]) fun p4 => Oa (Al ze42 [vi 0, .slice none 0 0]) fun p5 => Oq Va (KS ?_)
 refine Oq (VldA sh42 2) (Oq (VldA sh42 1) ?_)
 refine JJ_ent (Ent.pall [] rfl rfl) ?_
 refine letv (bt_merge a b (fun x0 x1 => bt_Diff_1 x0 x1)) fun rv7 hg8 => ?_
 have hc9 := fn150 a aa1 ak1 b ba1 bk1 151 [] (fun x0 x1 => bt_Diff_1 x0 x1) [] pre pre ca151 (fun x0 x1 => FT_pall (A1 := []) (fn151 x0 x1   _ rfl)) rv7 hg8
 refine Oc [4, 5, 0] ca150 hc9 ?_
 rintro c6 ⟨he10, he11⟩
 unfold i64ok at he10 he11
 refine Jo 0 ?_; rintro a12 k13 rfl
 refine Fb 8 0 fun _ => ?_
 refine Oq Vx (Oq Vx (Ost (Scl [2] sh42 [vi rv7.1.Width, vl a12 k13 rv7.1.Words]) (Oq Va (KS ?_))))
 have hq := q4 hrr (rv7.1, rv7.2) (by simp only [bt_Diff, hg8, cs4]); subst hq
 exact Kr (vl a12 k13 rv7.1.Words) rfl (.cellN 0 rfl sh42 rfl (reads_Cl _ _) rfl (.tmp rfl .nil)) [1] en
theorem fn173 (x : BitVec 64) (y : BitVec 64) (rr : BitVec 64) (hrr : bt_Union_1 x y = rr) : FT Tryz.prog 173 #[u64 x, u64 y] [] (fun g : Unit => True) (fun g => u64 rr) (fun g => []) := by
 refine FTi Tryz.func173 fun w0 M0 F0 => ?_
 refine KS ?_
 refine Oq Va (KS ?_)
 refine Oq Vm (Oq Vm (Oq VorU (Oq Va (KS ?_))))
 have hq := q4 hrr (x ||| y) (by simp only [bt_Union_1, cs4]); subst hq
 exact Kr () rfl (.tmp rfl .nil) [] trivial
theorem fn144 (a : GSet) (aa1 : Option Addr) (ak1 : Nat) (b : GSet) (ba1 : Option Addr) (bk1 : Nat) (ha_0 : i64ok a.Width) (hb_0 : i64ok b.Width) (rr : GSet × Int) (hrr : bt_Union a b = rr) : FT Tryz.prog 144 #[.agg #[vi a.Width, vl aa1 ak1 a.Words], .agg #[vi b.Width, vl ba1 bk1 b.Words]] [S aa1 ak1 a.Words, S ba1 bk1 b.Words] (fun g : Value => i64ok rr.1.Width ∧ i64ok rr.2) (fun g => .tuple #[.agg #[vi rr.1.Width, g], vi rr.2]) (fun g => [sl g rr.1.Words]) := by
 refine FTi Tryz.func144 fun w0 M0 F0 => ?_
 unfold i64ok at ha_0 hb_0
 refine Fb 8 0 fun _ => Fb 8 1 fun _ => KS ?_
 refine Oa (Ab [vi a.Width, vl aa1 ak1 a.Words]) fun p3 => Oa (Ab [vi b.Width, vl ba1 bk1 b.Words]) fun p4 => Oa (Al ze42 [vi 0, .slice none 0 0]) fun p5 => Oq Va (KS ?_)
 refine Oq (VldA sh42 2) (Oq (VldA sh42 1) ?_)
 refine JJ_ent (Ent.pall [] rfl rfl) ?_
 refine letv (bt_merge a b (fun x0 x1 => bt_Union_1 x0 x1)) fun rv7 hg8 => ?_
 have hc9 := fn150 a aa1 ak1 b ba1 bk1 173 [] (fun x0 x1 => bt_Union_1 x0 x1) [] pre pre ca173 (fun x0 x1 => FT_pall (A1 := []) (fn173 x0 x1   _ rfl)) rv7 hg8
 refine Oc [4, 5, 0] ca150 hc9 ?_
 rintro c6 ⟨he10, he11⟩
 unfold i64ok at he10 he11
 refine Jo 0 ?_; rintro a12 k13 rfl
 refine Fb 8 0 fun _ => ?_
 refine Oq Vx (Oq Vx (Ost (Scl [2] sh42 [vi rv7.1.Width, vl a12 k13 rv7.1.Words]) (Oq Va (KS ?_))))
 have hq := q4 hrr (rv7.1, rv7.2) (by simp only [bt_Union, hg8, cs4]); subst hq
 exact Kr (vl a12 k13 rv7.1.Words) rfl (.cellN 0 rfl sh42 rfl (reads_Cl _ _) rfl (.tmp rfl .nil)) [1] en
theorem fn185 (s : GSet) (sa1 : Option Addr) (sk1 : Nat) (b : Int) (hs_0 : i64ok s.Width) (hb_0 : i64ok b) (hb0 : 0 ≤ b ∧ b / 64 < (s.Words.length : Int)) (rr : List (BitVec 64)) (hrr : bt_put s b = rr) : FT Tryz.prog 185 #[.agg #[vi s.Width, vl sa1 sk1 s.Words], vi b] [O sa1 sk1 s.Words] (fun g : Unit => True) (fun g => .tuple #[]) (fun g => [os (vl sa1 sk1 s.Words) rr]) := by
 refine FTi Tryz.func185 fun w0 M0 F0 => ?_
 unfold i64ok at hs_0 hb_0
 refine Fb 8 0 fun _ => KS ?_
 refine Oa (Ab [vi s.Width, vl sa1 sk1 s.Words]) fun p2 => KS ?_
 refine Oq (Vfa fo42_1 0) (Oq (VldF sh40 0) (Oq Vm (Oq Vquo (Oq (Vi sl40 1) (Oq (VldU sh91 1) (Oq Vm (Oq (VcU un3 un92) (Oq (VremU (b := 64#64) (by simp)) (Oq (VshlU (a := 1#64)) ?_)))))))))
 refine Oq VorU (Oq (Vi sl40 1) (Ost (SoU [1] sh91) (KS ?_)))
 refine Fl 0 fun hn3 => ?_
 have hq := q4 hrr (s.Words.set ((b / 64) : Int).toNat ((s.Words.getD ((b / 64) : Int).toNat 0#64) ||| (1#64 <<< ((((BitVec.ofInt 64 b) % 64#64).toNat : Int)).toNat))) (by simp only [bt_put, cs4]); subst hq
 exact Kz () rfl .nil [0] trivial
theorem fn184 (s : GSet) (sa1 : Option Addr) (sk1 : Nat) (b : Int) (member : Bool) (hs_0 : i64ok s.Width) (hb_0 : i64ok b) (rr : GSet × Int) (hrr : bt_changed s b member = rr) : FT Tryz.prog 184 #[.agg #[vi s.Width, vl sa1 sk1 s.Words], vi b, vb member] [S sa1 sk1 s.Words] (fun g : Value => i64ok rr.1.Width ∧ i64ok rr.2) (fun g => .tuple #[.agg #[vi rr.1.Width, g], vi rr.2]) (fun g => [sl g rr.1.Words]) := by
 refine FTi Tryz.func184 fun w0 M0 F0 => ?_
 unfold i64ok at hs_0 hb_0
 refine Fb 8 0 fun _ => KS ?_
 refine Oa (Ab [vi s.Width, vl sa1 sk1 s.Words]) fun p2 => Oa (Al ze42 [vi 0, .slice none 0 0]) fun p3 => Oq Va (KS ?_)
 refine Oq (VldA sh42 1) ?_
 refine letv (bt_Valid s) fun rv4 hg5 => ?_
 have hc6 := fn79 s sa1 sk1 pre rv4 hg5
 refine Oc [2] ca79 hc6 ?_
 rintro - -
 refine Oq Vnot (Oq Va (KS ?_))
 refine Kc ?_ ?_
 ·intro h7
  have h9 := not_true h7
  refine KS ?_
  refine Oq (Vbd st42 [vi 0, .slice none 0 0]) (Ost (Scl [0] sh42 [vi 0, .slice none 0 0]) (Oq Va (KS ?_)))
  refine Jl [] (Ent.slNil (α := BitVec 64)) ?_
  have hq := q4 hrr ((GSet.mk 0 []), 1) (by simp only [bt_changed, h7, h9, hg5, cs4]); subst hq
  exact Kr (.slice none 0 0) rfl (.cellN 1 rfl sh42 rfl (reads_Cl _ _) rfl (.tmp rfl .nil)) [0] en
 intro h7
 have h12 := not_false h7
 try have hrg := PV_w (s := s) (by simp only [h7, h12, hg5])
 try have hwi := within_iff (s := s) (b := b) (by simp only [h7, h12, hg5])
 refine KS ?_
 refine Oq (VldA sh42 1) (Oq Vm ?_)
 refine letv (bt_within s b) fun rv14 hg15 => ?_
 have hc16 := fn80 s sa1 sk1 b pre pre rv14 hg15
 refine Oc [2] ca80 hc16 ?_
 rintro - -
 refine Oq Vnot (Oq Va (KS ?_))
 refine Kc ?_ ?_
 ·intro h17
  have h19 := not_true h17
  refine KS ?_
  refine Oq (Vbd st42 [vi 0, .slice none 0 0]) (Ost (Scl [0] sh42 [vi 0, .slice none 0 0]) (Oq Va (KS ?_)))
  refine Jl [] (Ent.slNil (α := BitVec 64)) ?_
  have hq := q4 hrr ((GSet.mk 0 []), 3) (by simp only [bt_changed, h7, h12, h17, h19, hg5, hg15, cs4]); subst hq
  exact Kr (.slice none 0 0) rfl (.cellN 1 rfl sh42 rfl (reads_Cl _ _) rfl (.tmp rfl .nil)) [0] en
 intro h17
 have h22 := not_false h17
 try have hrg := PV_w (s := s) (by simp only [h7, h12, h17, h22, hg5, hg15])
 try have hwi := within_iff (s := s) (b := b) (by simp only [h7, h12, h17, h22, hg5, hg15])
 refine KS ?_
 refine JK_drawK [0, 1, 0, 4, 12, 31, 0, 127] fmix ?_
 refine Dv [1] (Vfa fo42_0 0) (Dv [1] (VldF sh3 0) (Dv [1] (Vfa fo42_1 0) (Dv [1] (VldF sh40 0) ?_)))
 refine letv (sc_Clone_uint64 s.Words) fun rv25 hg26 => Dx [2] [] [2, 0, 1] (fun G => (G.g 4 0)) [fun G => SP.fact ((rv25.length = s.Words.length)), fun G => os (G.g 4 0) rv25] (fun G => xC [0] ca142 (fn142 s.Words sa1 sk1 rv25 hg26)) ?_
 refine Dx [4] [] [0] (fun G => .agg #[vi s.Width, (G.g 4 0)]) [] (fun G => xV (v := .agg #[vi s.Width, (G.g 4 0)]) (Vo 0 rfl (isO_os _ _) fun aq27 kq28 eq29 => (by rw [eq29]; exact Vbd st42 [vi s.Width, .slice aq27 ((rv25 : List (BitVec 64)).length) kq28]))) (Dx [] [] [0] (fun G => (G.g 6 0)) [fun G => Cl (G.g 6 0) [vi 0, .slice none 0 0]] (fun G => xA (Al ze42 [vi 0, .slice none 0 0])) (Dx0 [4, 5] [5] [1, 0] [fun G => Cl (G.g 6 0) [vi s.Width, (G.g 4 0)]] (fun G => x1 0 rfl os_one fun ho31 => (xS (Scl [1] sh42 [vi s.Width, (G.g 4 0)] (v := .agg #[vi s.Width, (G.g 4 0)]) (h1 := show [vi s.Width, (G.g 4 0)].all (·.oneCell') = true from (by simp only [List.all_cons, List.all_nil, ho31, Bool.and_true, Bool.true_and] <;> rfl))))) ?_))
 refine Dn ⟨by kernel_rfl, fun G => ?_⟩
 refine Jw2 [(1, vi b), (2, vb member), (6, p3), (8, (G.g 6 0))] [0, 1, 2] [SP.fact ((rv25.length = s.Words.length)), os (G.g 4 0) rv25, Cl (G.g 6 0) [vi s.Width, (G.g 4 0)]] ?_
 generalize G.g 4 0 = c24, G.g 6 0 = p30
 refine Jf 3 rfl ?_; rintro he32
 refine Jk [0, 0, 1, 3, 3] ?_
 refine Jo 3 ?_; rintro a33 k34 rfl
 refine Fb 8 3 fun _ => KS ?_
 refine Oq (Vfa fo42_1 4) (Oq (VldF sh40 4) (Oq Vm (Oq Vquo (Oq (Vi sl40 3) (Oq (VldU sh91 3) (Oq Vm (Oq (VcU un3 un92) (Oq (VremU (b := 64#64) (by simp)) (Oq (VshlU (a := 1#64)) ?_)))))))))
 refine Oq VandNotU (Oq (Vi sl40 3) (Ost (SoU [3] sh91) (KS ?_)))
 refine Oq Vm (KS ?_)
 refine Kc ?_ ?_
 ·intro h36
  refine KS ?_
  refine Oq (VldA sh42 4) (Oq Vm ?_)
  refine Fl 0 fun hn38 => ?_; (try unfold vl); rw [← hn38]
  refine letv (bt_put (GSet.mk s.Width (rv25.set ((b / 64) : Int).toNat ((rv25.getD ((b / 64) : Int).toNat 0#64) &&& ~~~(1#64 <<< ((((BitVec.ofInt 64 b) % 64#64).toNat : Int)).toNat)))) b) fun rv39 hg40 => ?_
  have hc41 := fn185 ((GSet.mk s.Width (rv25.set ((b / 64) : Int).toNat ((rv25.getD ((b / 64) : Int).toNat 0#64) &&& ~~~(1#64 <<< ((((BitVec.ofInt 64 b) % 64#64).toNat : Int)).toNat))))) a33 k34 b pre pre pre rv39 hg40
  refine Oc [0] ca185 hc41 ?_
  rintro - -
  refine KS ?_
  refine Oq (VldA sh42 4) (Ost (Scl [1] sh42 [vi s.Width, .slice a33 ((rv25.set ((b / 64) : Int).toNat ((rv25.getD ((b / 64) : Int).toNat 0#64) &&& ~~~(1#64 <<< ((((BitVec.ofInt 64 b) % 64#64).toNat : Int)).toNat))).length) k34]) (Oq Va (KS ?_)))
  refine Jl [1] (Ent.freeze _ _) ?_
  have hq := q4 hrr ((GSet.mk s.Width rv39), 0) (by simp only [bt_changed, h7, h12, h17, h22, h36, hg5, hg15, hg26, hg40, cs4]); subst hq
  exact Kr (.slice a33 ((rv25.set ((b / 64) : Int).toNat ((rv25.getD ((b / 64) : Int).toNat 0#64) &&& ~~~(1#64 <<< ((((BitVec.ofInt 64 b) % 64#64).toNat : Int)).toNat))).length) k34) rfl (.cellN 1 rfl sh42 rfl (reads_Cl _ _) rfl (.tmp rfl .nil)) [0] en
 intro h36
 refine KS ?_
 refine Oq (VldA sh42 4) (Ost (Scl [1] sh42 [vi s.Width, vl a33 k34 rv25]) (Oq Va (KS ?_)))
 refine Jl [1] (Ent.freeze _ _) ?_
 have hq := q4 hrr ((GSet.mk s.Width (rv25.set ((b / 64) : Int).toNat ((rv25.getD ((b / 64) : Int).toNat 0#64) &&& ~~~(1#64 <<< ((((BitVec.ofInt 64 b) % 64#64).toNat : Int)).toNat)))), 0) (by simp only [bt_changed, h7, h12, h17, h22, h36, hg5, hg15, hg26, cs4]); subst hq
 exact Kr (vl a33 k34 rv25) rfl (.cellN 1 rfl sh42 rfl (reads_Cl _ _) rfl (.tmp rfl .nil)) [0] en
theorem fn181 (s : GSet) (sa1 : Option Addr) (sk1 : Nat) (b : Int) (hs_0 : i64ok s.Width) (hb_0 : i64ok b) (rr : GSet × Int) (hrr : bt_With s b = rr) : FT Tryz.prog 181 #[.agg #[vi s.Width, vl sa1 sk1 s.Words], vi b] [S sa1 sk1 s.Words] (fun g : Value => i64ok rr.1.Width ∧ i64ok rr.2) (fun g => .tuple #[.agg #[vi rr.1.Width, g], vi rr.2]) (fun g => [sl g rr.1.Words]) := by
 refine FTi Tryz.func181 fun w0 M0 F0 => ?_
 unfold i64ok at hs_0 hb_0
 refine Fb 8 0 fun _ => KS ?_
 refine Oa (Ab [vi s.Width, vl sa1 sk1 s.Words]) fun p2 => Oa (Al ze42 [vi 0, .slice none 0 0]) fun p3 => Oq Va (KS ?_)
 refine Oq (VldA sh42 1) (Oq Vm ?_)
 refine letv (bt_changed s b true) fun rv5 hg6 => ?_
 have hc7 := fn184 s sa1 sk1 b true pre pre rv5 hg6
 refine Oc [2] ca184 hc7 ?_
 rintro c4 ⟨he8, he9⟩
 unfold i64ok at he8 he9
 refine Jo 0 ?_; rintro a10 k11 rfl
 refine Fb 8 0 fun _ => ?_
 refine Oq Vx (Oq Vx (Ost (Scl [1] sh42 [vi rv5.1.Width, vl a10 k11 rv5.1.Words]) (Oq Va (KS ?_))))
 have hq := q4 hrr (rv5.1, rv5.2) (by simp only [bt_With, hg6, cs4]); subst hq
 exact Kr (vl a10 k11 rv5.1.Words) rfl (.cellN 0 rfl sh42 rfl (reads_Cl _ _) rfl (.tmp rfl .nil)) [1] en
theorem fn172 (t : GTransfer) (ta1 : Option Addr) (tk1 : Nat) (ta3 : Option Addr) (tk3 : Nat) (ta4 : Option Addr) (tk4 : Nat) (s : GSet) (sa1 : Option Addr) (sk1 : Nat) (ht_0 : i64ok t.Gen.Width) (ht_2 : i64ok t.Kill.Width) (hs_0 : i64ok s.Width) (rr : GSet) (hrr : tf_apply t s = rr) : FT Tryz.prog 172 #[.agg #[vi t.Gen.Width, vl ta1 tk1 t.Gen.Words, vi t.Kill.Width, vl ta3 tk3 t.Kill.Words, vl ta4 tk4 t.Copies], .agg #[vi s.Width, vl sa1 sk1 s.Words]] [S ta1 tk1 t.Gen.Words, S ta3 tk3 t.Kill.Words, S ta4 tk4 t.Copies, S sa1 sk1 s.Words] (fun g : Value => i64ok rr.Width) (fun g => .agg #[vi rr.Width, g]) (fun g => [sl g rr.Words]) := by
 refine FTi Tryz.func172 fun w0 M0 F0 => ?_
 unfold i64ok at ht_0 ht_2 hs_0
 refine Fb 8 0 fun _ => Fb 8 1 fun _ => Fb 16 2 fun _ => Fb 8 3 fun _ => KS ?_
 refine Oa (Ab [vi t.Gen.Width, vl ta1 tk1 t.Gen.Words, vi t.Kill.Width, vl ta3 tk3 t.Kill.Words, vl ta4 tk4 t.Copies]) fun p5 => Oa (Ab [vi s.Width, vl sa1 sk1 s.Words]) fun p6 => Oa (Al ze42 [vi 0, .slice none 0 0]) fun p7 => KS ?_
 refine Oq (VldA sh42 1) (Oq (Vfa fo65_1 2) (Oq (VldG sh42 2 [vi t.Kill.Width, vl ta3 tk3 t.Kill.Words]) ?_))
 refine letv (bt_Diff s t.Kill) fun rv9 hg10 => ?_
 have hc11 := fn111 s sa1 sk1 t.Kill ta3 tk3 pre pre rv9 hg10
 refine Oc [6, 4] ca111 hc11 ?_
 rintro c8 ⟨he12, he13⟩
 unfold i64ok at he12 he13
 refine Jo 0 ?_; rintro a14 k15 rfl
 refine Fb 8 0 fun _ => ?_
 refine Oq Vm (Oq Vx (Oq Vx (Oa (Al ze42 [vi 0, .slice none 0 0]) fun p17 => Ost (Scl [0] sh42 [vi rv9.1.Width, vl a14 k15 rv9.1.Words]) (Oq Va (KS ?_)))))
 refine Oq (VldA sh42 0) (Oq (Vfa fo65_0 4) (Oq (VldG sh42 4 [vi t.Gen.Width, vl ta1 tk1 t.Gen.Words]) ?_))
 refine letv (bt_Union rv9.1 t.Gen) fun rv19 hg20 => ?_
 have hc21 := fn144 rv9.1 a14 k15 t.Gen ta1 tk1 pre pre rv19 hg20
 refine Oc [1, 5] ca144 hc21 ?_
 rintro c18 ⟨he22, he23⟩
 unfold i64ok at he22 he23
 refine Jo 0 ?_; rintro a24 k25 rfl
 refine Fb 8 0 fun _ => ?_
 refine Oq Vm (Oq Vx (Oq Vx (Ost (Scl [1] sh42 [vi rv19.1.Width, vl a24 k25 rv19.1.Words]) (KS ?_))))
 refine Oq (Vfa fo65_2 5) (Oq (VldF sh63 5) (Oq (Vlen sl63) (Oq Vm (KS ?_))))
 refine Kl (γ := Nat × Int × List (BitVec 64) × Int × Option Addr × Nat) (fun (r27, out0_28, out1_29, v26_30, a31, k32) => ⟨[(3, p6), (4, p7), (5, p17), (24, vl ta4 tk4 t.Copies), (25, vi (t.Copies.length : Int)), (26, vi v26_30)], [S a31 k32 out1_29, Cl p17 [vi out0_28, vl a31 k32 out1_29], Cl p7 [vi 0, .slice none 0 0], pv p6 [vi s.Width, vl sa1 sk1 s.Words], S ta4 tk4 t.Copies, S sa1 sk1 s.Words], tf_apply_L0 t s r27 out0_28 out1_29 v26_30 = tf_apply_L0 t s (((t.Copies.length : Int) - 0).toNat) rv19.1.Width rv19.1.Words 0 ∧ r27 = ((t.Copies.length : Int) - v26_30).toNat ∧ (0 : Int) ≤ v26_30 ∧ v26_30 ≤ (t.Copies.length : Int) ∧ (-9223372036854775808 ≤ out0_28 ∧ out0_28 ≤ 9223372036854775807) ∧ (-9223372036854775808 ≤ v26_30 ∧ v26_30 ≤ 9223372036854775807), r27⟩) (((t.Copies.length : Int) - 0).toNat, rv19.1.Width, rv19.1.Words, 0, a24, k25) [1, 0, 2, 2, 6, 7] ⟨rfl, rfl, aM1, aM1, aM1, aM1⟩ ?_
 rintro ⟨r27, out0_28, out1_29, v26_30, a31, k32⟩ ⟨hM33, hr34, hi35, hi36, hk37, hk38⟩
 refine JJ_nx fun _ _ hL hA => ?_; dsimp only at hL hA; subst hL hA
 refine Fb 8 0 fun _ => Fb 16 4 fun _ => Fb 8 5 fun _ => KS ?_
 refine Oq Vlss (KS ?_)
 refine Kc ?_ ?_
 ·intro h42
  have g43 := dt h42
  obtain ⟨r44, rfl⟩ := scc (n := r27) aM1
  refine KS ?_
  refine Oq (Vi sl63 4) ?_
  refine JJ_peek_GCopy v26_30.toNat 4 rfl rng fun hb45 hb46 => ?_
  unfold i64ok at hb45 hb46
  refine Oq (VldA sh105 0) (Oa (Al ze105 [vi 0, vi 0]) fun p47 => Ost (Scl [0] sh105 [vi ((t.Copies.getD v26_30.toNat default).From), vi ((t.Copies.getD v26_30.toNat default).To)]) (KS ?_))
  refine Oq (VldA sh42 5) (Oq (Vfa fo105_0 0) (Oq (VldF sh3 0) ?_))
  refine letv (bt_Has s ((t.Copies.getD v26_30.toNat default).From)) fun rv48 hg49 => ?_
  have hc50 := fn47 s sa1 sk1 ((t.Copies.getD v26_30.toNat default).From) pre pre rv48 hg49
  refine Oc [7] ca47 hc50 ?_
  rintro - -
  refine KS ?_
  refine Kc ?_ ?_
  ·intro h51
   refine KS ?_
   refine Oq (VldA sh42 3) (Oq (Vfa fo105_1 0) (Oq (VldF sh3 0) ?_))
   refine letv (bt_With (GSet.mk out0_28 out1_29) ((t.Copies.getD v26_30.toNat default).To)) fun rv54 hg55 => ?_
   have hc56 := fn181 ((GSet.mk out0_28 out1_29)) a31 k32 ((t.Copies.getD v26_30.toNat default).To) pre pre rv54 hg55
   refine Oc [2] ca181 hc56 ?_
   rintro c53 ⟨he57, he58⟩
   unfold i64ok at he57 he58
   refine Jo 0 ?_; rintro a59 k60 rfl
   refine Fb 8 0 fun _ => ?_
   refine Oq Vm (Oq Vx (Oq Vx (Ost (Scl [4] sh42 [vi rv54.1.Width, vl a59 k60 rv54.1.Words]) (KS ?_))))
   refine Oq Vadd (Oq Vm (KS ?_))
   exact Kg (r44, rv54.1.Width, rv54.1.Words, (v26_30 + 1), a59, k60) [1, 0, 4, 4, 5, 6] ⟨(q3 hM33 (by simp only [tf_apply_L0, h42, h51, hg49, hg55, cs4])), aM1, aM1, aM1, aM1, aM1⟩
  intro h51
  refine KS ?_
  refine Oq Vadd (Oq Vm (KS ?_))
  exact Kg (r44, out0_28, out1_29, (v26_30 + 1), a31, k32) [2, 3, 3, 3, 4, 5] ⟨(q3 hM33 (by simp only [tf_apply_L0, h42, h51, hg49, cs4])), aM1, aM1, aM1, aM1, aM1⟩
 intro h42
 have g63 := df h42
 obtain rfl : r27 = 0 := by omega
 refine Ke ?_
 have hR64 := q2 hM33 (out0_28, out1_29) (by simp only [tf_apply_L0, h42, cs4])
 refine KS ?_
 refine Oq (VldA sh42 1) (Ost (Scl [2] sh42 [vi out0_28, vl a31 k32 out1_29]) (KS ?_))
 have hq := q4 hrr (GSet.mk out0_28 out1_29) (by simp only [tf_apply, h42, hg10, hg20, hR64, cs4]); subst hq
 exact Kr (vl a31 k32 out1_29) rfl (.cellN 0 rfl sh42 rfl (reads_Cl _ _) rfl .nil) [1] en
theorem fn143 (t : GTransfer) (ta1 : Option Addr) (tk1 : Nat) (ta3 : Option Addr) (tk3 : Nat) (ta4 : Option Addr) (tk4 : Nat) (s : GSet) (sa1 : Option Addr) (sk1 : Nat) (ht_0 : i64ok t.Gen.Width) (ht_2 : i64ok t.Kill.Width) (hs_0 : i64ok s.Width) (rr : GSet × Int) (hrr : tf_Apply t s = rr) : FT Tryz.prog 143 #[.agg #[vi t.Gen.Width, vl ta1 tk1 t.Gen.Words, vi t.Kill.Width, vl ta3 tk3 t.Kill.Words, vl ta4 tk4 t.Copies], .agg #[vi s.Width, vl sa1 sk1 s.Words]] [S ta1 tk1 t.Gen.Words, S ta3 tk3 t.Kill.Words, S ta4 tk4 t.Copies, S sa1 sk1 s.Words] (fun g : Value => i64ok rr.1.Width ∧ i64ok rr.2) (fun g => .tuple #[.agg #[vi rr.1.Width, g], vi rr.2]) (fun g => [sl g rr.1.Words]) := by
 refine FTi Tryz.func143 fun w0 M0 F0 => ?_
 unfold i64ok at ht_0 ht_2 hs_0
 refine Fb 8 0 fun _ => Fb 8 1 fun _ => Fb 16 2 fun _ => Fb 8 3 fun _ => KS ?_
 refine Oa (Ab [vi t.Gen.Width, vl ta1 tk1 t.Gen.Words, vi t.Kill.Width, vl ta3 tk3 t.Kill.Words, vl ta4 tk4 t.Copies]) fun p5 => Oa (Ab [vi s.Width, vl sa1 sk1 s.Words]) fun p6 => Oa (Al ze42 [vi 0, .slice none 0 0]) fun p7 => Oq Va (KS ?_)
 refine Oq (VldA sh65 2) ?_
 refine letv (tf_Valid t) fun rv8 hg9 => ?_
 have hc10 := fn75 t ta1 tk1 ta3 tk3 ta4 tk4 pre pre rv8 hg9
 refine Oc [3, 4, 5] ca75 hc10 ?_
 rintro - -
 refine Oq Vnot (Oq Vm ?_)
 refine Js 10 ?_ ?_
 ·intro h11
  have h13 := not_true h11
  refine Osk (Osk (Osk (Oq Vpt (Oq Va (KS ?_)))))
  refine Kt (KS ?_)
  refine Oq (Vbd st42 [vi 0, .slice none 0 0]) (Ost (Scl [0] sh42 [vi 0, .slice none 0 0]) (Oq Va (KS ?_)))
  refine Jl [] (Ent.slNil (α := BitVec 64)) ?_
  have hq := q4 hrr ((GSet.mk 0 []), 1) (by simp only [tf_Apply, h11, h13, hg9, cs4]); subst hq
  exact Kr (.slice none 0 0) rfl (.cellN 1 rfl sh42 rfl (reads_Cl _ _) rfl (.tmp rfl .nil)) [0] en
 intro h11
 have h16 := not_false h11
 refine Oq (VldA sh42 1) ?_
 refine letv (bt_Valid s) fun rv18 hg19 => ?_
 have hc20 := fn79 s sa1 sk1 pre rv18 hg19
 refine Oc [6] ca79 hc20 ?_
 rintro - -
 refine Oq Vnot (Oq Vpf (Oq Va (KS ?_)))
 refine Kc ?_ ?_
 ·intro h21
  have h23 := not_true h21
  refine KS ?_
  refine Oq (Vbd st42 [vi 0, .slice none 0 0]) (Ost (Scl [0] sh42 [vi 0, .slice none 0 0]) (Oq Va (KS ?_)))
  refine Jl [] (Ent.slNil (α := BitVec 64)) ?_
  have hq := q4 hrr ((GSet.mk 0 []), 1) (by simp only [tf_Apply, h11, h16, h21, h23, hg9, hg19, cs4]); subst hq
  exact Kr (.slice none 0 0) rfl (.cellN 1 rfl sh42 rfl (reads_Cl _ _) rfl (.tmp rfl .nil)) [0] en
 intro h21
 have h26 := not_false h21
 refine KS ?_
 refine Oq (Vfa fo65_0 2) (Oq (VfaF fo42_0 2) (Oq (VldF sh3 2) (Oq (Vfa fo42_0 1) (Oq (VldF sh3 1) (Oq Vneq (Oq Va (KS ?_)))))))
 refine Kc ?_ ?_
 ·intro h28
  have g29 := ne_of_bne h28
  refine KS ?_
  refine Oq (Vbd st42 [vi 0, .slice none 0 0]) (Ost (Scl [0] sh42 [vi 0, .slice none 0 0]) (Oq Va (KS ?_)))
  refine Jl [] (Ent.slNil (α := BitVec 64)) ?_
  have hq := q4 hrr ((GSet.mk 0 []), 2) (by simp only [tf_Apply, h11, h16, h21, h26, h28, hg9, hg19, cs4]); subst hq
  exact Kr (.slice none 0 0) rfl (.cellN 1 rfl sh42 rfl (reads_Cl _ _) rfl (.tmp rfl .nil)) [0] en
 intro h28
 have g30 := eq_of_bne_false h28
 refine KS ?_
 refine Oq (VldA sh65 2) (Oq (VldA sh42 1) ?_)
 refine letv (tf_apply t s) fun rv32 hg33 => ?_
 have hc34 := fn172 t ta1 tk1 ta3 tk3 ta4 tk4 s sa1 sk1 pre pre pre rv32 hg33
 refine Oc [3, 4, 5, 6] ca172 hc34 ?_
 rintro c31 he35
 unfold i64ok at he35
 refine Jo 0 ?_; rintro a36 k37 rfl
 refine Fb 8 0 fun _ => ?_
 refine Ost (Scl [1] sh42 [vi rv32.Width, vl a36 k37 rv32.Words]) (Oq Va (KS ?_))
 have hq := q4 hrr (rv32, 0) (by simp only [tf_Apply, h11, h16, h21, h26, h28, hg9, hg19, hg33, cs4]); subst hq
 exact Kr (vl a36 k37 rv32.Words) rfl (.cellN 0 rfl sh42 rfl (reads_Cl _ _) rfl (.tmp rfl .nil)) [1] en
end Go.SL.G
