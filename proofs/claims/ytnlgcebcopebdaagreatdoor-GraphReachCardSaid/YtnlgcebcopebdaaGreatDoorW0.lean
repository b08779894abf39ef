/- Part 0 of the walks: the logic used by the last text of this claim. -/
import Derived.WalkKit
import Derived.Deep.LoopGhost
import Derived.Orders
import Derived.Scope
import Derived.Maps.Keyed
import Derived.Maps.RangeRun
import Derived.DeepKeys4
import Derived.Carry
import Derived.Handed
import Derived.JoinedOf
import Derived.ChangeSame
import Derived.Lib.RowBridge
import Derived.LaidMore
import Derived.LaidHandle
import Derived.LaidLaws
import Derived.MakeChecks
import Derived.Stop.Joined
set_option linter.unusedVariables false
set_option linter.unusedSimpArgs false
namespace Go.SL
open Go
abbrev Blk := Nat -> Prop
structure Ext (w : World) (M : Blk) (w' : World) (M' : Blk) : Prop where
 os : w'.os = w.os
 tape : w'.tape = w.tape
 out : w'.output = w.output
 size : w.heap.size <= w'.heap.size
 old : ∀ b, b < w.heap.size -> ¬ M b -> ¬ M' b /\ w'.heap[b]? = w.heap[b]?
theorem Ext.refl (w : World) (M : Blk) : Ext w M w M := ⟨rfl, rfl, rfl, Nat.le_refl _, fun _ _ h => ⟨h, rfl⟩⟩
theorem Ext.trans {w M w1 M1 w2 M2} (h : Ext w M w1 M1) (k : Ext w1 M1 w2 M2) : Ext w M w2 M2 :=
 ⟨k.os.trans h.os, k.tape.trans h.tape, k.out.trans h.out, Nat.le_trans h.size k.size, fun b hb hm => by
  obtain ⟨m1, e1⟩ := h.old b hb hm
  obtain ⟨m2, e2⟩ := k.old b (Nat.lt_of_lt_of_le hb h.size) m1
  exact ⟨m2, e2.trans e1⟩⟩
def Qsb (F : Blk) (w w' : World) : Prop := ∀ b, F b -> w'.heap[b]? = w.heap[b]?
structure SP where
 h : World -> Blk -> Blk -> Prop
 p : Bool
 st : ∀ {w M F w' M'}, h w M F -> Ext w M w' M' -> Qsb F w w' -> h w' M' F
 up : ∀ {w M F F'}, h w M F -> (∀ b, F b -> F' b) -> h w M F'
 pers : p = true -> ∀ {w M F F'}, h w M F -> h w M F'
def Qbi : List SP -> World -> Blk -> Blk -> Prop
 | [], _, _, _ => True
 | R :: A, w, M, F => ∃ F1 F2 : Blk, (∀ b, F1 b -> F b) /\ (∀ b, F2 b -> F b) /\ (∀ b, F1 b -> F2 b -> False) /\ R.h w M F1 /\ Qbi A w M F2
theorem QcT {A : List SP} : ∀ {w M F w' M'}, Qbi A w M F -> Ext w M w' M' -> Qsb F w w' -> Qbi A w' M' F := by
 induction A with
 | nil => intros; trivial
 | cons R A ih =>
  intro w M F w' M' ⟨F1, F2, h1, h2, hd, hR, hA⟩ e k
  exact ⟨F1, F2, h1, h2, hd, R.st hR e (fun b hb => k b (h1 b hb)), ih hA e (fun b hb => k b (h2 b hb))⟩
theorem QdW {A : List SP} : ∀ {w M F F'}, Qbi A w M F -> (∀ b, F b -> F' b) -> Qbi A w M F' := by
 cases A with
 | nil => intros; trivial
 | cons R A =>
  intro w M F F' ⟨F1, F2, h1, h2, hd, hR, hA⟩ e
  exact ⟨F1, F2, fun b h => e b (h1 b h), fun b h => e b (h2 b h), hd, hR, hA⟩
theorem Qbe {A : List SP} : ∀ {i : Nat} {R : SP} {w : World} {M F : Blk}, A[i]? = some R -> Qbi A w M F -> R.h w M F := by
 induction A with
 | nil => intro i R w M F h; simp at h
 | cons S A ih =>
  intro i R w M F h ⟨F1, F2, h1, h2, hd, hR, hA⟩
  cases i with
  | zero => simp at h; subst h; exact S.up hR h1
  | succ i => simp at h; exact R.up (ih h hA) h2
theorem QiS {A : List SP} : ∀ {i : Nat} {R : SP} {w : World} {M F : Blk}, A[i]? = some R -> Qbi A w M F -> Qbi (R :: A.eraseIdx i) w M F := by
 induction A with
 | nil => intro i R w M F h; simp at h
 | cons S A ih =>
  intro i R w M F h hs
  cases i with
  | zero => simp at h; subst h; simpa using hs
  | succ i =>
   simp at h
   obtain ⟨F1, F2, h1, h2, hd, hR, hA⟩ := hs
   obtain ⟨G1, G2, k1, k2, kd, kR, kA⟩ := ih h hA
   refine ⟨G1, fun b => F1 b \/ G2 b, fun b hb => h2 b (k1 b hb), ?_, ?_, kR, ?_⟩
   ·rintro b (hb | hb)
    ·exact h1 b hb
    ·exact h2 b (k2 b hb)
   ·rintro b hb (hb' | hb')
    ·exact hd b hb' (k1 b hb)
    ·exact kd b hb hb'
   ·simp only [List.eraseIdx_cons_succ]
    exact ⟨F1, G2, fun b hb => .inl hb, fun b hb => .inr hb, fun b hb hb' => hd b hb (k2 b hb'), hR, kA⟩
theorem QdR {A B : List SP} : ∀ {w M F}, Qbi (A ++ B) w M F -> ∃ F1 F2 : Blk, (∀ b, F1 b -> F b) /\ (∀ b, F2 b -> F b) /\ (∀ b, F1 b -> F2 b -> False) /\ Qbi A w M F1 /\ Qbi B w M F2 := by
 induction A with
 | nil => intro w M F h; exact ⟨fun _ => False, F, fun _ h => h.elim, fun _ h => h, fun _ h _ => h, trivial, h⟩
 | cons R A ih =>
  intro w M F ⟨F1, F2, h1, h2, hd, hR, hA⟩
  obtain ⟨G1, G2, k1, k2, kd, kA, kB⟩ := ih hA
  refine ⟨fun b => F1 b \/ G1 b, G2, ?_, fun b hb => h2 b (k2 b hb), ?_, ?_, kB⟩
  ·rintro b (hb | hb)
   ·exact h1 b hb
   ·exact h2 b (k1 b hb)
  ·rintro b (hb | hb) hb'
   ·exact hd b hb (k2 b hb')
   ·exact kd b hb hb'
  ·exact ⟨F1, G1, fun b hb => .inl hb, fun b hb => .inr hb, fun b hb hb' => hd b hb (k1 b hb'), hR, kA⟩
theorem QcP {A B : List SP} : ∀ {w M} {F F1 F2 : Blk}, (∀ b, F1 b -> F b) -> (∀ b, F2 b -> F b) -> (∀ b, F1 b -> F2 b -> False) -> Qbi A w M F1 -> Qbi B w M F2 -> Qbi (A ++ B) w M F := by
 induction A with
 | nil => intro w M F F1 F2 h1 h2 hd hA hB; exact QdW hB h2
 | cons R A ih =>
  intro w M F F1 F2 h1 h2 hd ⟨G1, G2, k1, k2, kd, kR, kA⟩ hB
  refine ⟨G1, fun b => G2 b \/ F2 b, fun b hb => h1 b (k1 b hb), ?_, ?_, kR, ?_⟩
  ·rintro b (hb | hb)
   ·exact h1 b (k2 b hb)
   ·exact h2 b hb
  ·rintro b hb (hb' | hb')
   ·exact kd b hb hb'
   ·exact hd b (k1 b hb) hb'
  ·exact ih (fun b hb => .inl hb) (fun b hb => .inr hb) (fun b hb hb' => hd b (k2 b hb) hb') kA hB
def take : List SP -> List Nat -> Option (List SP × List SP)
 | A, [] => some ([], A)
 | A, i :: is => match A[i]? with
  | none => none
  | some R => match take (bif R.p then A else A.eraseIdx i) is with
   | some (x, y) => some (R :: x, y)
   | none => none
theorem QeE {is : List Nat} : ∀ {A Ac Ar w M F}, take A is = some (Ac, Ar) -> Qbi A w M F -> Qbi (Ac ++ Ar) w M F := by
 induction is with
 | nil => intro A Ac Ar w M F h hs; simp [take] at h; obtain ⟨rfl, rfl⟩ := h; exact hs
 | cons i is ih =>
  intro A Ac Ar w M F h hs
  simp only [take] at h
  split at h
  ·simp at h
  ·rename_i R hR
   split at h
   ·rename_i x y ht
    simp at h
    obtain ⟨rfl, rfl⟩ := h
    cases hp : R.p with
    | false =>
     rw [hp] at ht
     obtain ⟨F1, F2, h1, h2, hd, kR, kA⟩ := QiS hR hs
     exact ⟨F1, F2, h1, h2, hd, kR, ih ht kA⟩
    | true =>
     rw [hp] at ht
     have := Qbe hR hs
     exact ⟨fun _ => False, F, fun _ h => h.elim, fun _ h => h, fun _ h _ => h, R.pers hp this, ih ht hs⟩
   ·simp at h
structure Ok (w : World) (M F : Blk) : Prop where
 bd : ∀ b, M b -> b < w.heap.size
 sub : ∀ b, F b -> M b
structure Qfc (w : World) (M F : Blk) (w' : World) (M' F' : Blk) : Prop where
 ext : Ext w M w' M'
 ok : Ok w' M' F'
 fr : ∀ b, M b -> ¬ F b -> M' b /\ ¬ F' b /\ w'.heap[b]? = w.heap[b]?
theorem Qfc.refl {w M F} (h : Ok w M F) : Qfc w M F w M F := ⟨Ext.refl _ _, h, fun b h1 h2 => ⟨h1, h2, rfl⟩⟩
theorem Qfc.trans {w M F w1 M1 F1 w2 M2 F2} (h : Qfc w M F w1 M1 F1) (k : Qfc w1 M1 F1 w2 M2 F2) : Qfc w M F w2 M2 F2 :=
 ⟨h.ext.trans k.ext, k.ok, fun b hm hf => by
  obtain ⟨a1, a2, a3⟩ := h.fr b hm hf
  obtain ⟨b1, b2, b3⟩ := k.fr b a1 a2
  exact ⟨b1, b2, b3.trans a3⟩⟩
theorem Qfc.frame {w M w' M'} {F F1 F2 F1' : Blk} (ok : Ok w M F) (h1 : ∀ b, F1 b -> F b) (h2 : ∀ b, F2 b -> F b) (hd : ∀ b, F1 b -> F2 b -> False)
  (s : Qfc w M F1 w' M' F1') : Qfc w M F w' M' (fun b => F1' b \/ F2 b) /\ Qsb F2 w w' /\ (∀ b, F1' b -> F2 b -> False) := by
 have key : ∀ b, F2 b -> M' b /\ ¬ F1' b /\ w'.heap[b]? = w.heap[b]? := fun b hb => s.fr b (ok.sub b (h2 b hb)) (fun h => hd b h hb)
 refine ⟨⟨s.ext, ⟨s.ok.bd, ?_⟩, ?_⟩, fun b hb => (key b hb).2.2, fun b hb hb' => (key b hb').2.1 hb⟩
 ·rintro b (hb | hb)
  ·exact s.ok.sub b hb
  ·exact (key b hb).1
 ·intro b hm hf
  obtain ⟨a1, a2, a3⟩ := s.fr b hm (fun h => hf (h1 b h))
  exact ⟨a1, fun h => h.elim a2 (fun h => hf (h2 b h)), a3⟩
abbrev Env := List (Nat × Value)
def Env.get : Env -> Nat -> Option Value
 | [], _ => none
 | (s, v) :: L, t => bif Nat.beq t s then some v else Env.get L t
def Env.ev (L : Env) : Operand -> Option Value
 | .tmp t => L.get t
 | .const v => some v
 | .global g => some (.pointer (some ⟨g, 0, none⟩))
 | .func f => some (.func (.func f) #[] #[])
def Env.sat (L : Env) (a : Act) : Prop := ∀ t v, L.get t = some v -> a.tmps.getD t undef = v
theorem Env.sat_eval {L : Env} {a : Act} (h : L.sat a) {x : Operand} {v : Value} (hx : L.ev x = some v) : a.eval x = v := by
 cases x <;> simp only [Env.ev, Act.eval, Option.some.injEq] at *
 ·exact h _ _ hx
 ·exact hx
 ·exact hx
 ·exact hx
theorem Env.sat_put {L : Env} {a : Act} {n d : Nat} {v : Value} (h : L.sat a) (hn : a.tmps.size = n) (hd : Nat.blt d n = true) : Env.sat ((d, v) :: L) (a.put (some d) v) := by
 have hd' : d < a.tmps.size := by rw [hn]; exact Nat.blt_eq ▸ hd
 intro t u hu
 simp only [Env.get] at hu
 simp only [Act.put]
 cases htd : Nat.beq t d with
 | true =>
  have : t = d := Nat.eq_of_beq_eq_true htd
  subst this
  rw [htd] at hu
  simp at hu
  simp [hd', hu]
 | false =>
  have hne : d ≠ t := fun e => by subst e; simp [Nat.beq_refl] at htd
  rw [htd] at hu
  have := h t u hu
  simp only [Array.getD_eq_getD_getElem?] at this ⊢
  rw [Array.getElem?_setIfInBounds_ne hne]; exact this
def Env.sub (L' L : Env) : Prop := ∀ t v, L'.get t = some v -> L.get t = some v
theorem Env.sub_nil (L : Env) : Env.sub [] L := fun _ _ h => by simp [Env.get] at h
theorem Env.sub_cons {L' L : Env} {t : Nat} {v : Value} (h : L.get t = some v) (hs : Env.sub L' L) : Env.sub ((t, v) :: L') L := by
 intro u x hx
 simp only [Env.get] at hx
 cases e : Nat.beq u t with
 | true => rw [e] at hx; have := Nat.eq_of_beq_eq_true e; subst this; simp at hx; rw [<- hx]; exact h
 | false => rw [e] at hx; exact hs u x hx
theorem Env.sat_sub {L' L : Env} {a : Act} (hs : Env.sub L' L) (h : L.sat a) : L'.sat a := fun t v hv => h t v (hs t v hv)
inductive Kn where
 | code (c : Code)
 | blk (id : Nat)
 | goal (G : Act -> World -> Prop)
def wpK (P : Program) (Q : Exit -> Act -> World -> Prop) : List Kn -> Exit -> Act -> World -> Prop
 | [], e, a, w => Q e a w
 | .code c :: ks, .normal, a, w => c.wp P (wpK P Q ks) a w
 | .code _ :: ks, e, a, w => wpK P Q ks e a w
 | .blk id :: ks, .exit j, a, w => if j = id then wpK P Q ks .normal a w else wpK P Q ks (.exit j) a w
 | .blk _ :: ks, e, a, w => wpK P Q ks e a w
 | .goal G :: _, .normal, a, w => G a w
 | .goal _ :: ks, e, a, w => wpK P Q ks e a w
structure Cx where
 P : Program
 n : Nat
 w0 : World
 M0 : Blk
 F0 : Blk
 Q : Exit -> Act -> World -> Prop
structure St (C : Cx) (L : Env) (A : List SP) (a : Act) (w : World) (M F : Blk) : Prop where
 step : Qfc C.w0 C.M0 C.F0 w M F
 sz : a.tmps.size = C.n
 df : a.defers = []
 sat : L.sat a
 sp : Qbi A w M F
def JJ (C : Cx) (X : Act -> World -> Prop) (L : Env) (A : List SP) : Prop := ∀ a w M F, St C L A a w M F -> X a w
abbrev JK (C : Cx) (ks : List Kn) (L : Env) (A : List SP) : Prop :=
 JJ C (fun a w => wpK C.P C.Q ks .normal a w) L A
abbrev JO (C : Cx) (ops : Array Oper) (os : List Oper) (ks : List Kn) (L : Env) (A : List SP) : Prop :=
 JJ C (fun a w => wpList C.P ops (wpK C.P C.Q ks) os a w) L A
section
variable {C : Cx} {ks : List Kn} {L : Env} {A : List SP}
theorem Qrk {x y : Code} (h : JK C (.code x :: .code y :: ks) L A) : JK C (.code (.seq x y) :: ks) L A := by
 intro a w M F st
 have := h a w M F st
 simp only [wpK] at this ⊢
 refine wp_seq (wp_mono this ?_)
 intro e a w hq
 cases e <;> simpa [wpK, Exit.then] using hq
theorem Qp7 (h : JK C ks L A) : JK C (.code .skip :: ks) L A := fun a w M F st => wp_skip (h a w M F st)
theorem Qn5 {id : Nat} {c : Code} (h : JK C (.code c :: .blk id :: ks) L A) : JK C (.code (.block id c) :: ks) L A := by
 intro a w M F st
 have := h a w M F st
 simp only [wpK] at this ⊢
 refine wp_block (wp_mono this ?_)
 intro e a w hq
 cases e <;> simp [wpK, Exit.inBlock] at hq ⊢
 all_goals exact hq
theorem QqK {id : Nat} (h : JK C ks L A) : JK C (.blk id :: ks) L A := fun a w M F st => h a w M F st
def Qkf (id : Nat) : List Kn -> Option (List Kn)
 | [] => none
 | .blk j :: ks => bif Nat.beq id j then some ks else Qkf id ks
 | _ :: ks => Qkf id ks
theorem Qk5 {P Q id} : ∀ {ks ks'}, Qkf id ks = some ks' -> ∀ a w, wpK P Q ks' .normal a w -> wpK P Q ks (.exit id) a w := by
 intro ks
 induction ks with
 | nil => intro ks' h; simp [Qkf] at h
 | cons k ks ih =>
  intro ks' h a w hq
  cases k with
  | code c => simp only [Qkf] at h; simp only [wpK]; exact ih h a w hq
  | goal G => simp only [Qkf] at h; simp only [wpK]; exact ih h a w hq
  | blk j =>
   simp only [Qkf] at h
   simp only [wpK]
   cases e : Nat.beq id j with
   | true => rw [e] at h; have := Nat.eq_of_beq_eq_true e; subst this; simp at h; subst h; simpa using hq
   | false =>
    rw [e] at h
    have : id ≠ j := fun e' => by subst e'; simp [Nat.beq_refl] at e
    rw [if_neg this]
    exact ih h a w hq
theorem QoZ {id : Nat} {ks' : List Kn} (hp : Qkf id ks = some ks') (h : JK C ks' L A) : JK C (.code (.exit id) :: ks) L A :=
 fun a w M F st => wp_exit (Qk5 hp a w (h a w M F st))
theorem Qpn {P Q} : ∀ {ks : List Kn} {a w}, Q .ret a w -> wpK P Q ks .ret a w := by
 intro ks
 induction ks with
 | nil => intro a w h; exact h
 | cons k ks ih => intro a w h; cases k <;> simp only [wpK] <;> exact ih h
theorem QqF (h : ∀ a w M F, St C L A a w M F -> C.Q .ret a w) : JK C (.code .ret :: ks) L A :=
 fun a w M F st => wp_ret (Qpn (h a w M F st))
theorem QqI (h : ∀ a w M F, St C L A a w M F -> C.Q .normal a w) : JK C [] L A := h
theorem Qlb {c : Operand} {x y : Code} {b : Bool} (hc : L.ev c = some (.bool b)) (ht : b = true -> JK C (.code x :: ks) L A) (hf : b = false -> JK C (.code y :: ks) L A) :
  JK C (.code (.cond c x y) :: ks) L A := by
 intro a w M F st
 refine wp_cond_split (Env.sat_eval st.sat hc) (fun h => ht h a w M F st) (fun h => hf h a w M F st)
theorem QmR {id : Nat} {l : List Oper} (h : JO C l.toArray l ks L A) : JK C (.code (.region id l.toArray false) :: ks) L A :=
 fun a w M F st => wp_region_lit (h a w M F st)
theorem QqU {ops : Array Oper} (h : JK C ks L A) : JO C ops [] ks L A := fun a w M F st => wpList_nil (h a w M F st)
def Ent (A A' : List SP) : Prop := ∀ w M F, Ok w M F -> Qbi A w M F -> ∃ M' F', Qfc w M F w M' F' /\ Qbi A' w M' F'
theorem Ent.refl (A : List SP) : Ent A A := fun _ M F ok h => ⟨M, F, Qfc.refl ok, h⟩
theorem Ent.trans {A B D : List SP} (h : Ent A B) (k : Ent B D) : Ent A D := fun w M F ok hs => by
 obtain ⟨M1, F1, s1, h1⟩ := h w M F ok hs
 obtain ⟨M2, F2, s2, h2⟩ := k w M1 F1 s1.ok h1
 exact ⟨M2, F2, s1.trans s2, h2⟩
theorem Ent.take {A Ac Ar : List SP} {is} (h : SL.take A is = some (Ac, Ar)) : Ent A Ac := fun w M F ok hs => by
 obtain ⟨F1, F2, h1, h2, hd, hA, hB⟩ := QdR (QeE h hs)
 exact ⟨M, F, Qfc.refl ok, QdW hA h1⟩
theorem Ent.local {A Ac Ar B : List SP} {is} (h : SL.take A is = some (Ac, Ar)) (e : Ent Ac B) : Ent A (B ++ Ar) := fun w M F ok hs => by
 obtain ⟨F1, F2, h1, h2, hd, hA, hB⟩ := QdR (QeE h hs)
 obtain ⟨M', F1', s, hB'⟩ := e w M F1 ⟨ok.bd, fun b hb => ok.sub b (h1 b hb)⟩ hA
 obtain ⟨s', kp, hd'⟩ := Qfc.frame ok h1 h2 hd s
 exact ⟨M', _, s', QcP (fun b hb => .inl hb) (fun b hb => .inr hb) hd' hB' (QcT hB s.ext kp)⟩
theorem St.weaken {L' A' a w M F} (st : St C L A a w M F) (hL : Env.sub L' L) (hA : Ent A A') : ∃ M' F', St C L' A' a w M' F' := by
 obtain ⟨M', F', s, h⟩ := hA w M F st.step.ok st.sp
 exact ⟨M', F', st.step.trans s, st.sz, st.df, Env.sat_sub hL st.sat, h⟩
theorem QgP {X L' A'} (hL : Env.sub L' L) (hA : Ent A A') (h : JJ C X L' A') : JJ C X L A := fun a w M F st => by
 obtain ⟨M', F', st'⟩ := st.weaken hL hA
 exact h a w M' F' st'
theorem Qfe {X A'} (hA : Ent A A') (h : JJ C X L A') : JJ C X L A := QgP (fun _ _ h => h) hA h
theorem Qp0 {γ : Type} {c : Code} (IL : γ -> Env) (IA : γ -> List SP) (I : γ -> Prop) (μ : γ -> Nat) (g0 : γ) (hI : I g0) (hL : Env.sub (IL g0) L) (hA : Ent A (IA g0))
  (round : ∀ g, I g -> JK C (.code c :: .goal (fun a w => ∃ g' M F, I g' /\ μ g' < μ g /\ St C (IL g') (IA g') a w M F) :: ks) (IL g) (IA g)) : JK C (.code (.loop c) :: ks) L A := by
 intro a w M F st
 obtain ⟨M', F', st'⟩ := st.weaken hL hA
 refine wp_loop_ghost (fun n a w => ∃ g M F, μ g = n /\ I g /\ St C (IL g) (IA g) a w M F) (μ g0) ⟨g0, M', F', rfl, hI, st'⟩ ?_
 rintro n a w ⟨g, M, F, rfl, hIg, stg⟩
 have := round g hIg a w M F stg
 simp only [wpK] at this
 refine wp_mono this ?_
 intro e a w hq
 cases e with
 | normal =>
  simp only [wpK] at hq
  obtain ⟨g', M', F', h1, h2, h3⟩ := hq
  exact ⟨μ g', h2, g', M', F', rfl, h1, h3⟩
 | _ => simpa only [wpK, Exit.then] using hq
theorem QpF {γ : Type} {IL : γ -> Env} {IA : γ -> List SP} {I : γ -> Prop} {m : γ -> Prop} (g' : γ) (hI : I g') (hm : m g') (hL : Env.sub (IL g') L) (hA : Ent A (IA g')) :
  JK C (.goal (fun a w => ∃ g' M F, I g' /\ m g' /\ St C (IL g') (IA g') a w M F) :: ks) L A := by
 intro a w M F st
 obtain ⟨M', F', st'⟩ := st.weaken hL hA
 exact ⟨g', M', F', hI, hm, st'⟩
end
end Go.SL
namespace Go.SL
open Go
def Qbd (P : Program) (T : TypeId) : Option (Bool × Nat) :=
 match P.underlying T, P.info? T with
 | some (.struct _), some i => some (true, i.size)
 | some (.array _ _), some i => some (true, i.size)
 | some _, some i => some (false, i.size)
 | _, _ => none
theorem Qir {P : Program} {T : TypeId} {b n} (h : Qbd P T = some (b, n)) (w : World) : (isAgg T).run P w = .ok b w := by
 unfold Qbd at h
 cases hu : P.underlying T with
 | none => simp [hu] at h
 | some d =>
  cases hi : P.info? T with
  | none => rw [hu, hi] at h; cases d <;> simp at h
  | some i => rw [hu, hi] at h; cases d <;> simp at h <;> simp [isAgg, run_underlying hu, h]
theorem QhO {P : Program} {T : TypeId} {b n} (h : Qbd P T = some (b, n)) (w : World) : (sizeOf T).run P w = .ok n w := by
 unfold Qbd at h
 cases hu : P.underlying T with
 | none => simp [hu] at h
 | some d =>
  cases hi : P.info? T with
  | none => rw [hu, hi] at h; cases d <;> simp at h
  | some i => rw [hu, hi] at h; cases d <;> simp at h <;> simp [sizeOf, typeInfo, hi, h]
def QfF (P : Program) (T : TypeId) : Option (TypeId × Nat × Nat) :=
 match P.underlying T with
 | some (.slice e) => (P.info? e).map fun i => (e, i.size, i.bytes)
 | _ => none
theorem QdS {P : Program} {T e n by_} (h : QfF P T = some (e, n, by_)) : P.underlying T = some (.slice e) := by
 unfold QfF at h
 cases hu : P.underlying T with
 | none => simp [hu] at h
 | some d => rw [hu] at h; cases d <;> simp at h; obtain ⟨i, h1, h2, h3⟩ := h; rw [h2]
theorem Qi5 {P : Program} {T e n by_} (h : QfF P T = some (e, n, by_)) : ∃ i, P.info? e = some i /\ i.size = n /\ i.bytes = by_ := by
 unfold QfF at h
 cases hu : P.underlying T with
 | none => simp [hu] at h
 | some d => rw [hu] at h; cases d <;> simp at h; rename_i e'; obtain ⟨i, hi, rfl, h1, h2⟩ := h; exact ⟨i, hi, h1, h2⟩
theorem Qd8 {P : Program} {T e n by_} (h : QfF P T = some (e, n, by_)) (w : World) : (sizeOf e).run P w = .ok n w := by
 obtain ⟨i, h1, h2, h3⟩ := Qi5 h
 simp [sizeOf, typeInfo, h1, h2]
def QcU (P : Program) (S : TypeId) (f : Nat) : Option Nat :=
 match P.underlying S with
 | some (.struct fs) => match fs[f]? with
  | some fd => match P.info? fd.type with
   | some i => bif Nat.beq i.size 0 then none else some fd.offset
   | none => none
  | none => none
 | _ => none
theorem Qhl {P : Program} {S f off} (h : QcU P S f = some off) (a : Addr) (w : World) :
  (Instr.fieldAt S (.pointer (some a)) f).run P w = .ok (.pointer (some (a.add off))) w := by
 unfold QcU at h
 cases hu : P.underlying S with
 | none => simp [hu] at h
 | some d =>
  rw [hu] at h
  cases d <;> simp at h
  rename_i fs
  cases hf : fs[f]? with
  | none => simp [hf] at h
  | some fd =>
   rw [hf] at h
   simp at h
   cases hi : P.info? fd.type with
   | none => simp [hi] at h
   | some i =>
    rw [hi] at h
    cases hz : Nat.beq i.size 0 with
    | true => simp [hz] at h
    | false =>
     simp [hz] at h
     have : i.size ≠ 0 := fun e => by rw [e] at hz; simp at hz
     simp [Instr.fieldAt, run_underlying hu, hf, Instr.sureAddr, fieldPlace, sizeOf, typeInfo, hi, this, h]
def Value.one (v : Value) : Prop := v.oneCell' = true
def pv (p : Value) (cs : List Value) : SP where
 h w M _ := ∃ b off cells T fz, p = .pointer (some ⟨b, off, none⟩) /\ w.heap[b]? = some (.cells cells T fz) /\ ¬ M b /\ ∀ (j : Nat) (u : Value), cs[j]? = some u -> cells[off + j]? = some u
 p := true
 st := by
  rintro w M F w' M' ⟨b, off, cells, T, fz, h1, h2, h3, h4⟩ e k
  have hb : b < w.heap.size := by
   rcases Nat.lt_or_ge b w.heap.size with h | h
   ·exact h
   ·simp [Array.getElem?_eq_none h] at h2
  obtain ⟨m, q⟩ := e.old b hb h3
  exact ⟨b, off, cells, T, fz, h1, q.trans h2, m, h4⟩
 up := fun h _ => h
 pers := fun _ => fun h => h
def Cl (p : Value) (cs : List Value) : SP where
 h w _ F := ∃ b T, F b /\ p = .pointer (some ⟨b, 0, none⟩) /\ w.heap[b]? = some (.cells cs.toArray T (0, 0))
 p := false
 st := by
  rintro w M F w' M' ⟨b, T, h1, h2, h3⟩ e k
  exact ⟨b, T, h1, h2, (k b h1).trans h3⟩
 up := fun ⟨b, T, h1, h2, h3⟩ e => ⟨b, T, e b h1, h2, h3⟩
 pers := by simp
class Rep (α : Type) where
 sz : Nat
 bytes : Nat
 pos : 0 < sz
 bpos : 0 < bytes
 rd : World -> Blk -> List Value -> α -> Prop
 len : ∀ {w M cs x}, rd w M cs x -> cs.length = sz
 one : ∀ {w M cs x}, rd w M cs x -> ∀ v ∈ cs, v.oneCell' = true
 st : ∀ {w M cs x w' M'}, rd w M cs x -> Ext w M w' M' -> rd w' M' cs x
def rdp {α : Type} [Rep α] (cs : List Value) (x : α) : SP where
 h w M _ := Rep.rd w M cs x
 p := true
 st := fun h e _ => Rep.st h e
 up := fun h _ => h
 pers := fun _ => fun h => h
def Qer {α : Type} [Rep α] (w : World) (M : Blk) (cells : Array Value) (off : Nat) (xs : List α) : Prop :=
 ∀ (i : Nat) (x : α), xs[i]? = some x -> ∃ ecs : List Value, (∀ (j : Nat) (u : Value), ecs[j]? = some u -> cells[off + i * Rep.sz α + j]? = some u) /\ Rep.rd w M ecs x
theorem Qe7 {α : Type} [Rep α] {w M w' M'} {cells : Array Value} {off : Nat} {xs : List α} (h : Qer w M cells off xs) (e : Ext w M w' M') : Qer w' M' cells off xs :=
 fun i x hx => let ⟨ecs, h1, h2⟩ := h i x hx; ⟨ecs, h1, Rep.st h2 e⟩
def QdA : Nat := 2 ^ 47
def QiJ {α : Type} [Rep α] (w : World) (M : Blk) (c : Value) (xs : List α) : Prop :=
 xs.length * Rep.bytes α <= QdA /\ ∃ a k, c = .slice a xs.length k /\ xs.length <= k /\
  match (a : Option Addr) with
  | none => xs = [] /\ k = 0
  | some ad => xs = [] \/ ∃ cells T fz, ad.spot = none /\ w.heap[ad.block]? = some (.cells cells T fz) /\ ¬ M ad.block /\ Qer w M cells ad.off xs
theorem Qfm {α : Type} [Rep α] {w M w' M'} {c : Value} {xs : List α} (h : QiJ w M c xs) (e : Ext w M w' M') : QiJ w' M' c xs := by
 obtain ⟨hb, a, k, hc, hk, h⟩ := h
 refine ⟨hb, a, k, hc, hk, ?_⟩
 cases a with
 | none => exact h
 | some ad =>
  rcases h with h | ⟨cells, T, fz, h0, h1, h2, h3⟩
  ·exact .inl h
  ·have hb : ad.block < w.heap.size := by
    rcases Nat.lt_or_ge ad.block w.heap.size with h | h
    ·exact h
    ·simp [Array.getElem?_eq_none h] at h1
   obtain ⟨m, q⟩ := e.old _ hb h2
   exact .inr ⟨cells, T, fz, h0, q.trans h1, m, Qe7 h3 e⟩
def sl {α : Type} [Rep α] (c : Value) (xs : List α) : SP where
 h w M _ := QiJ w M c xs
 p := true
 st := fun h e _ => Qfm h e
 up := fun h _ => h
 pers := fun _ => fun h => h
def os {α : Type} [Rep α] (c : Value) (xs : List α) : SP where
 h w M F := xs.length * Rep.bytes α <= QdA /\ ∃ a k, c = .slice a xs.length k /\ xs.length <= k /\
  match (a : Option Addr) with
  | none => xs = [] /\ k = 0
  | some ad => ∃ cells T, ad.spot = none /\ F ad.block /\ w.heap[ad.block]? = some (.cells cells T (0, 0)) /\ ad.off + k * Rep.sz α <= cells.size /\ Qer w M cells ad.off xs
 p := false
 st := by
  rintro w M F w' M' ⟨hb, a, k, hc, hk, h⟩ e kp
  refine ⟨hb, a, k, hc, hk, ?_⟩
  cases a with
  | none => exact h
  | some ad =>
   obtain ⟨cells, T, h0, h1, h2, h3, h4⟩ := h
   exact ⟨cells, T, h0, h1, (kp _ h1).trans h2, h3, Qe7 h4 e⟩
 up := by
  rintro w M F F' ⟨hb, a, k, hc, hk, h⟩ e
  refine ⟨hb, a, k, hc, hk, ?_⟩
  cases a with
  | none => exact h
  | some ad =>
   obtain ⟨cells, T, h0, h1, h2, h3, h4⟩ := h
   exact ⟨cells, T, h0, e _ h1, h2, h3, h4⟩
 pers := by simp
def Qim (p : Value) (n : Nat) : Value := match p with | .pointer (some a) => .pointer (some (a.add n)) | v => v
def QfO (sz : Nat) (c : Value) (i : Nat) : Value := match c with | .slice (some a) _ _ => .pointer (some (a.add (i * sz))) | _ => .pointer none
theorem QbE (b off n : Nat) : (⟨b, off, none⟩ : Addr).add n = ⟨b, off + n, none⟩ := by unfold Addr.add; split <;> simp_all
theorem Qmj (p : Value) (m n : Nat) : Qim (Qim p m) n = Qim p (m + n) := by
 unfold Qim
 cases p with
 | pointer a =>
  cases a with
  | none => rfl
  | some a =>
   simp only [Addr.add]
   by_cases h1 : m = 0 <;> by_cases h2 : n = 0 <;> simp [h1, h2, Nat.add_assoc]
 | _ => rfl
def OpV (P : Program) (L : Env) (A : List SP) (o : Oper) (v : Value) : Prop :=
 ∀ (ρ : Operand -> Value), (∀ x u, L.ev x = some u -> ρ x = u) -> ∀ w M F, Ok w M F -> Qbi A w M F -> (execOp ρ o).run P w = .ok (.value v) w
section
variable {C : Cx} {ks : List Kn} {L : Env} {A : List SP} {ops : Array Oper} {rest : List Oper} {o : Oper}
theorem QuE {d v} (hg : o.guard = none) (hd : o.dst = some d) (hn : Nat.blt d C.n = true) (hv : OpV C.P L A o v)
  (h : JO C ops rest ks ((d, v) :: L) A) : JO C ops (o :: rest) ks L A := by
 intro a w M F st
 refine wpList_plain hg fun K hK => ?_
 have hr := hv a.eval (fun x u hx => Env.sat_eval st.sat hx) w M F st.step.ok st.sp
 rw [Oper.wp, hr, Oper.upon_value, hd]
 exact hK _ _ (h _ w M F ⟨st.step, by simp [Act.put, st.sz], st.df, Env.sat_put st.sat st.sz hn, st.sp⟩)
theorem QpD {d j dj b} (hg : o.guard = some (j, b)) (hd : o.dst = some d) (hn : Nat.blt d C.n = true) (hj : ((ops[j]?).bind (·.dst)) = some dj) (hjn : Nat.blt dj C.n = true) (hv : L.get dj = some (.bool (!b)))
  (h : JO C ops rest ks ((d, undef) :: L) A) : JO C ops (o :: rest) ks L A := by
 intro a w M F st
 refine wpList_step fun K hK => ?_
 have hdj : dj < a.tmps.size := by rw [st.sz]; exact Nat.blt_eq ▸ hjn
 have h1 := st.sat _ _ hv
 have hy : yielded ops a.tmps j = some (!b) := by
  unfold yielded
  rw [hj]
  simp only [Option.bind_some]
  rw [Array.getElem?_eq_getElem hdj]
  simp only [Array.getD_eq_getD_getElem?, Array.getElem?_eq_getElem hdj, Option.getD_some] at h1
  rw [h1]
 have : Region.wanted o (yielded ops a.tmps) = false := by
  simp only [Region.wanted, hg, hy]; cases b <;> rfl
 rw [this, hd]
 exact hK _ _ (h _ w M F ⟨st.step, by simp [Act.put, st.sz], st.df, Env.sat_put st.sat st.sz hn, st.sp⟩)
theorem QnX {j dj b} (hg : o.guard = some (j, b)) (hj : ((ops[j]?).bind (·.dst)) = some dj) (hjn : Nat.blt dj C.n = true) (hv : L.get dj = some (.bool b))
  (h : JO C ops ({ o with guard := none } :: rest) ks L A) : JO C ops (o :: rest) ks L A := by
 intro a w M F st
 have hdj : dj < a.tmps.size := by rw [st.sz]; exact Nat.blt_eq ▸ hjn
 have h1 := st.sat _ _ hv
 have hy : yielded ops a.tmps j = some b := by
  unfold yielded
  rw [hj]
  simp only [Option.bind_some]
  rw [Array.getElem?_eq_getElem hdj]
  simp only [Array.getD_eq_getD_getElem?, Array.getElem?_eq_getElem hdj, Option.getD_some] at h1
  rw [h1]
 have : Region.wanted o (yielded ops a.tmps) = true := by
  simp only [Region.wanted, hg, hy]; cases b <;> rfl
 have h2 := h a w M F st
 unfold wpList at h2 ⊢
 have e1 : Region.wanted { o with guard := none } (yielded ops a.tmps) = true := rfl
 rw [e1] at h2
 rw [this]
 simpa [Oper.wp, Oper.upon, Oper.asks, execOp] using h2
end
end Go.SL
namespace Go.SL
open Go
def Qac (x : Int) : Prop := -9223372036854775808 <= x /\ x <= 9223372036854775807
def u64 (b : BitVec 64) : Value := .int .u64 (b.toNat : Int)
section
variable {P : Program} {L : Env} {A : List SP} {o : Oper}
theorem OpV.move {x v} (hop : o.op = .move x) (hx : L.ev x = some v) : OpV P L A o v := fun ρ hρ w M F ok hs => by
 simp [execOp, hop, hρ _ _ hx]
theorem OpV.assign {x v} (hop : o.op = .assign x) (hx : L.ev x = some v) : OpV P L A o v := fun ρ hρ w M F ok hs => by
 simp [execOp, hop, hρ _ _ hx]
theorem OpV.pickT {c x y v} (hop : o.op = .pick c x y) (hc : L.ev c = some (.bool true)) (hx : L.ev x = some v) : OpV P L A o v := fun ρ hρ w M F ok hs => by
 simp [execOp, hop, hρ _ _ hc, hρ _ _ hx, asBool]
theorem OpV.pickF {c x y v} (hop : o.op = .pick c x y) (hc : L.ev c = some (.bool false)) (hy : L.ev y = some v) : OpV P L A o v := fun ρ hρ w M F ok hs => by
 simp [execOp, hop, hρ _ _ hc, hρ _ _ hy, asBool]
theorem QbY {op : BinOp} {T x y yt k a b} {r : Value} (hop : o.op = .binOp op T x y yt) (hx : L.ev x = some (.int k a)) (hy : L.ev y = some (.int k b))
  (h : ∀ w, (binOp op T (.int k a) (.int k b)).run P w = .ok r w) : OpV P L A o r := fun ρ hρ w M F ok hs => by
 have : (eqGuard op T x y (.int k a) (.int k b)).run P w = .ok () w := by unfold eqGuard; cases op <;> simp
 simp [execOp, hop, hρ _ _ hx, hρ _ _ hy, this, h]
theorem OpV.eql {T x y yt k a b} (hop : o.op = .binOp .eql T x y yt) (hx : L.ev x = some (.int k a)) (hy : L.ev y = some (.int k b)) : OpV P L A o (.bool (a == b)) :=
 QbY hop hx hy fun w => by simp [binOp, Op.intCmp]
theorem OpV.neq {T x y yt k a b} (hop : o.op = .binOp .neq T x y yt) (hx : L.ev x = some (.int k a)) (hy : L.ev y = some (.int k b)) : OpV P L A o (.bool (a != b)) :=
 QbY hop hx hy fun w => by simp [binOp, Op.intCmp]
theorem OpV.lss {T x y yt k a b} (hop : o.op = .binOp .lss T x y yt) (hx : L.ev x = some (.int k a)) (hy : L.ev y = some (.int k b)) : OpV P L A o (.bool (decide (a < b))) :=
 QbY hop hx hy fun w => by simp [binOp, Op.intCmp]
theorem OpV.leq {T x y yt k a b} (hop : o.op = .binOp .leq T x y yt) (hx : L.ev x = some (.int k a)) (hy : L.ev y = some (.int k b)) : OpV P L A o (.bool (decide (a <= b))) :=
 QbY hop hx hy fun w => by simp [binOp, Op.intCmp]
theorem OpV.gtr {T x y yt k a b} (hop : o.op = .binOp .gtr T x y yt) (hx : L.ev x = some (.int k a)) (hy : L.ev y = some (.int k b)) : OpV P L A o (.bool (decide (b < a))) :=
 QbY hop hx hy fun w => by simp [binOp, Op.intCmp]
theorem OpV.geq {T x y yt k a b} (hop : o.op = .binOp .geq T x y yt) (hx : L.ev x = some (.int k a)) (hy : L.ev y = some (.int k b)) : OpV P L A o (.bool (decide (b <= a))) :=
 QbY hop hx hy fun w => by simp [binOp, Op.intCmp]
theorem OpV.add {T x y yt a b} (hop : o.op = .binOp .add T x y yt) (hx : L.ev x = some (.int .i64 a)) (hy : L.ev y = some (.int .i64 b)) (h : Qac (a + b)) : OpV P L A o (.int .i64 (a + b)) :=
 QbY hop hx hy fun w => by simp [binOp, Op.intArith, IntWalk.i64_in _ h]
theorem OpV.sub {T x y yt a b} (hop : o.op = .binOp .sub T x y yt) (hx : L.ev x = some (.int .i64 a)) (hy : L.ev y = some (.int .i64 b)) (h : Qac (a - b)) : OpV P L A o (.int .i64 (a - b)) :=
 QbY hop hx hy fun w => by simp [binOp, Op.intArith, IntWalk.i64_in _ h]
theorem OpV.mul {T x y yt a b} (hop : o.op = .binOp .mul T x y yt) (hx : L.ev x = some (.int .i64 a)) (hy : L.ev y = some (.int .i64 b)) (h : Qac (a * b)) : OpV P L A o (.int .i64 (a * b)) :=
 QbY hop hx hy fun w => by simp [binOp, Op.intArith, IntWalk.i64_in _ h]
theorem OpV.quo {T x y yt a b} (hop : o.op = .binOp .quo T x y yt) (hx : L.ev x = some (.int .i64 a)) (hy : L.ev y = some (.int .i64 b)) (h : 0 <= a /\ a <= 9223372036854775807 /\ 1 <= b) : OpV P L A o (.int .i64 (a / b)) :=
 QbY hop hx hy fun w => by
  have : ¬ b = 0 := by omega
  simp [binOp, Op.intDiv, this, IntWalk.i64_quo _ _ h]
theorem OpV.rem {T x y yt a b} (hop : o.op = .binOp .rem T x y yt) (hx : L.ev x = some (.int .i64 a)) (hy : L.ev y = some (.int .i64 b)) (h : 0 <= a /\ 1 <= b) : OpV P L A o (.int .i64 (a % b)) :=
 QbY hop hx hy fun w => by
  have : ¬ b = 0 := by omega
  simp [binOp, Op.intDiv, this, Int.tmod_eq_emod_of_nonneg h.1]
theorem OpV.not {T x b} (hop : o.op = .unOp .not T x) (hx : L.ev x = some (.bool b)) : OpV P L A o (.bool (!b)) := fun ρ hρ w M F ok hs => by
 simp [execOp, hop, hρ _ _ hx, Op.unary]
theorem QnJ {T a b} (hT : P.underlying T = some .bool) (w : World) : (binOp .eql T (.bool a) (.bool b)).run P w = .ok (.bool (a == b)) w := by
 have e1 : binOp .eql T (.bool a) (.bool b) = (do pure (.bool (<- Op.equalIn (9999 + 1) T (.bool a) (.bool b)))) := rfl
 have e2 : (Op.equalIn (9999 + 1) T (.bool a) (.bool b)).run P w = .ok (a == b) w := by
  rw [Op.equalIn]; simp [run_underlying hT]
 rw [e1, Sem.run_bind, e2]; rfl
theorem QnW {T a b} (hT : P.underlying T = some .bool) (w : World) : (binOp .neq T (.bool a) (.bool b)).run P w = .ok (.bool (!(a == b))) w := by
 have e1 : binOp .neq T (.bool a) (.bool b) = (do pure (.bool (!(<- Op.equalIn (9999 + 1) T (.bool a) (.bool b))))) := rfl
 have e2 : (Op.equalIn (9999 + 1) T (.bool a) (.bool b)).run P w = .ok (a == b) w := by
  rw [Op.equalIn]; simp [run_underlying hT]
 rw [e1, Sem.run_bind, e2]; rfl
theorem Qhn {op : BinOp} {T x y yt a b} {r : Value} (hop : o.op = .binOp op T x y yt) (hx : L.ev x = some (.bool a)) (hy : L.ev y = some (.bool b))
  (h : ∀ w, (binOp op T (.bool a) (.bool b)).run P w = .ok r w) : OpV P L A o r := fun ρ hρ w M F ok hs => by
 have : (eqGuard op T x y (.bool a) (.bool b)).run P w = .ok () w := by unfold eqGuard; cases op <;> simp
 have e : execOp ρ o = (do pure (.value (<- (do eqGuard op T x y (ρ x) (ρ y); binOp op T (ρ x) (ρ y))))) := by unfold execOp; rw [hop]
 rw [e, hρ _ _ hx, hρ _ _ hy]
 simp only [Sem.run_bind, this, h, Result.andThen_ok, Sem.run_pure]
theorem OpV.eqlB {T x y yt a b} (hop : o.op = .binOp .eql T x y yt) (hT : P.underlying T = some .bool) (hx : L.ev x = some (.bool a)) (hy : L.ev y = some (.bool b)) : OpV P L A o (.bool (a == b)) :=
 Qhn hop hx hy (QnJ hT)
theorem OpV.neqB {T x y yt a b} (hop : o.op = .binOp .neq T x y yt) (hT : P.underlying T = some .bool) (hx : L.ev x = some (.bool a)) (hy : L.ev y = some (.bool b)) : OpV P L A o (.bool (!(a == b))) :=
 Qhn hop hx hy (QnW hT)
theorem OpV.extract {t i vs v} (hop : o.op = .extract t i) (hx : L.ev t = some (.tuple vs)) (hv : vs[i]? = some v) : OpV P L A o v := fun ρ hρ w M F ok hs => by
 simp [execOp, hop, hρ _ _ hx, Instr.extract, hv]
theorem Qhu {b xs ats ty} {r : Value} {ρ : Operand -> Value} (hop : o.op = .call { callee := .builtin b, args := xs, argTypes := ats }) (hty : o.type = ty) (w : World)
  (h : ∀ cs, (builtin b ats ty cs (xs.map ρ)).run P w = .ok (.value r) w) : (execOp ρ o).run P w = .ok (.value r) w := by
 have e : execOp ρ o = builtin b ats ty (xs.map fun | .const _ => true | _ => false) (xs.map ρ) := by unfold execOp; rw [hop, <- hty]; rfl
 rw [e]; exact h _
theorem OpV.len {x T a n k} (hop : o.op = .call { callee := .builtin .len, args := #[x], argTypes := #[T] }) (hx : L.ev x = some (.slice a n k)) {e m by_} (hT : QfF P T = some (e, m, by_)) : OpV P L A o (.int .i64 n) := fun ρ hρ w M F ok hs => by
 refine Qhu hop rfl w fun cs => ?_
 simp [builtin, hρ _ _ hx, Builtin.len_, run_underlying (QdS hT), goInt]
theorem OpV.lenS {x T s} (hop : o.op = .call { callee := .builtin .len, args := #[x], argTypes := #[T] }) (hx : L.ev x = some (.string s)) (hT : P.underlying T = some .string) : OpV P L A o (.int .i64 s.size) := fun ρ hρ w M F ok hs => by
 refine Qhu hop rfl w fun cs => ?_
 simp [builtin, hρ _ _ hx, Builtin.len_, run_underlying hT, goInt]
theorem OpV.makeFunc {fn : Fn} {xs ys : Array Operand} {vs ws : Array Value} (hop : o.op = .makeFunc fn xs ys) (hx : ∀ ρ : Operand -> Value, (∀ x u, L.ev x = some u -> ρ x = u) -> xs.map ρ = vs /\ ys.map ρ = ws) : OpV P L A o (.func fn vs ws) := fun ρ hρ w M F ok hs => by
 obtain ⟨h1, h2⟩ := hx ρ hρ
 simp [execOp, hop, h1, h2, Instr.makeFunc]
theorem QqR {p cs w M F} (h : (pv p cs).h w M F) : ∃ b off, p = .pointer (some ⟨b, off, none⟩) := by obtain ⟨b, off, _, _, _, h, _⟩ := h; exact ⟨b, off, h⟩
theorem QrN {p cs w M F} (h : (Cl p cs).h w M F) : ∃ b off, p = .pointer (some ⟨b, off, none⟩) := by obtain ⟨b, _, _, h, _⟩ := h; exact ⟨b, 0, h⟩
def Qh5 (R : SP) (p : Value) : Prop := ∀ {w M F}, R.h w M F -> ∃ b off, p = .pointer (some ⟨b, off, none⟩)
theorem QjU (p cs) : Qh5 (pv p cs) p := QqR
theorem Qj3 (p cs) : Qh5 (Cl p cs) p := QrN
theorem OpV.nilCheck {x p R} {i : Nat} (hop : o.op = .nilCheck x) (hx : L.ev x = some p) (hA : A[i]? = some R) (hp : Qh5 R p) : OpV P L A o p := fun ρ hρ w M F ok hs => by
 obtain ⟨b, off, rfl⟩ := hp (Qbe hA hs)
 simp [execOp, hop, hρ _ _ hx]
theorem OpV.fieldAddr {S x f p R off} {i : Nat} (hop : o.op = .fieldAddr S x f) (hx : L.ev x = some p) (hS : QcU P S f = some off) (hA : A[i]? = some R) (hp : Qh5 R p) : OpV P L A o (Qim p off) := fun ρ hρ w M F ok hs => by
 obtain ⟨b, off', rfl⟩ := hp (Qbe hA hs)
 simp [execOp, hop, hρ _ _ hx, Qhl hS, Qim]
theorem OpV.fieldAddrF {S x f p n R off} {i : Nat} (hop : o.op = .fieldAddr S x f) (hx : L.ev x = some (Qim p n)) (hS : QcU P S f = some off) (hA : A[i]? = some R) (hp : Qh5 R p) : OpV P L A o (Qim p (n + off)) := fun ρ hρ w M F ok hs => by
 obtain ⟨b, off', rfl⟩ := hp (Qbe hA hs)
 rw [<- Qmj]
 simp [execOp, hop, hρ _ _ hx, Qhl hS, Qim]
def QgK (R : SP) (p : Value) (cs : List Value) : Prop := ∀ {w M F}, R.h w M F -> ∃ b off, p = .pointer (some ⟨b, off, none⟩) /\ ∀ (j : Nat) (u : Value), cs[j]? = some u -> w.cell? ⟨b, off + j, none⟩ = some u
theorem QiD (p cs) : QgK (pv p cs) p cs := by
 rintro w M F ⟨b, off, cells, T, fz, h1, h2, h3, h4⟩
 exact ⟨b, off, h1, fun j u hu => by simp [World.cell?, h2, h4 j u hu]⟩
theorem QaB (p cs) : QgK (Cl p cs) p cs := by
 rintro w M F ⟨b, T, h0, h1, h2⟩
 exact ⟨b, 0, h1, fun j u hu => by simp [World.cell?, h2, hu]⟩
theorem Qjg {T n p b off} {v : Value} {w : World} (hT : Qbd P T = some (false, n)) (h : w.cell? ⟨b, off, none⟩ = some v) (hp : p = .pointer (some ⟨b, off, none⟩)) : (Instr.loadAt T p).run P w = .ok v w := by
 subst hp
 simp [Instr.loadAt, Instr.sureAddr, loadVar, Qir hT, h]
theorem Qi9 {T n p b off} {cs : List Value} {w : World} (hT : Qbd P T = some (true, n)) (hn : cs.length = n) (h : ∀ (j : Nat) (u : Value), cs[j]? = some u -> w.cell? ⟨b, off + j, none⟩ = some u) (hp : p = .pointer (some ⟨b, off, none⟩)) : (Instr.loadAt T p).run P w = .ok (.agg cs.toArray) w := by
 subst hp; subst hn
 simp [Instr.loadAt, Instr.sureAddr, loadVar, Qir hT, QhO hT, run_loadCells_list (P := P) w ⟨b, off, none⟩ cs (fun j v hv => by rw [QbE]; exact h j v hv)]
theorem OpV.load {T x p n R cs v} {i : Nat} (hop : o.op = .load T x) (hx : L.ev x = some p) (hT : Qbd P T = some (false, n)) (hA : A[i]? = some R) (hR : QgK R p cs) (hv : cs[0]? = some v) : OpV P L A o v := fun ρ hρ w M F ok hs => by
 obtain ⟨b, off, hp, hc⟩ := hR (Qbe hA hs)
 simp [execOp, hop, hρ _ _ hx, Qjg hT (hc 0 v hv) hp]
theorem OpV.loadF {T x p m n R cs v} {i : Nat} (hop : o.op = .load T x) (hx : L.ev x = some (Qim p m)) (hT : Qbd P T = some (false, n)) (hA : A[i]? = some R) (hR : QgK R p cs) (hv : cs[m]? = some v) : OpV P L A o v := fun ρ hρ w M F ok hs => by
 obtain ⟨b, off, hp, hc⟩ := hR (Qbe hA hs)
 simp [execOp, hop, hρ _ _ hx, Qjg hT (hc m v hv) (p := Qim p m) (by rw [hp]; simp [Qim, QbE])]
theorem OpV.loadA {T x p n R cs} {i : Nat} (hop : o.op = .load T x) (hx : L.ev x = some p) (hT : Qbd P T = some (true, n)) (hA : A[i]? = some R) (hR : QgK R p cs) (hn : cs.length = n) : OpV P L A o (.agg cs.toArray) := fun ρ hρ w M F ok hs => by
 obtain ⟨b, off, hp, hc⟩ := hR (Qbe hA hs)
 simp [execOp, hop, hρ _ _ hx, Qi9 hT hn hc hp]
theorem OpV.loadAF {T x p m n R cs} {i : Nat} (ds : List Value) (hop : o.op = .load T x) (hx : L.ev x = some (Qim p m)) (hT : Qbd P T = some (true, n)) (hA : A[i]? = some R) (hR : QgK R p cs) (hn : ds.length = n) (hd : (cs.drop m).take n = ds) : OpV P L A o (.agg ds.toArray) := fun ρ hρ w M F ok hs => by
 obtain ⟨b, off, hp, hc⟩ := hR (Qbe hA hs)
 simp [execOp, hop, hρ _ _ hx, Qi9 hT hn (b := b) (off := off + m) (w := w) (p := Qim p m) (fun j u hu => by
  rw [<- hd] at hu
  have := hc (m + j) u (by
   rw [List.getElem?_take] at hu
   split at hu
   ·simpa [List.getElem?_drop] using hu
   ·simp at hu)
  rw [Nat.add_assoc]; exact this) (by rw [hp]; simp [Qim, QbE])]
def Qoh (R : SP) (c : Value) (len sz : Nat) : Prop := ∀ {w M F}, R.h w M F -> ∃ a k, c = .slice a len k /\ (len = 0 \/ ∃ b off, a = some ⟨b, off, none⟩)
theorem Qpf {α : Type} [Rep α] (c : Value) (xs : List α) : Qoh (sl c xs) c xs.length (Rep.sz α) := by
 rintro w M F ⟨hb, a, k, hc, hk, h⟩
 refine ⟨a, k, hc, ?_⟩
 cases a with
 | none => left; simp [h.1]
 | some ad =>
  rcases h with h | ⟨cells, T, fz, h0, h1, h2, h3⟩
  ·left; simp [h]
  ·right; exact ⟨ad.block, ad.off, by cases ad; simp_all⟩
theorem Qkg {α : Type} [Rep α] (c : Value) (xs : List α) : Qoh (os c xs) c xs.length (Rep.sz α) := by
 rintro w M F ⟨hb, a, k, hc, hk, h⟩
 refine ⟨a, k, hc, ?_⟩
 cases a with
 | none => left; simp [h.1]
 | some ad =>
  obtain ⟨cells, T, h0, h1, h2, h3, h4⟩ := h
  right; exact ⟨ad.block, ad.off, by cases ad; simp_all⟩
theorem OpV.indexAddr {T x ix c k R len sz e by_} {i : Int} {m : Nat} (hop : o.op = .indexAddr T x ix) (hx : L.ev x = some c) (hi : L.ev ix = some (.int k i)) (hT : QfF P T = some (e, sz, by_)) (hA : A[m]? = some R) (hR : Qoh R c len sz)
  (h : 0 <= i /\ i < len) : OpV P L A o (QfO sz c i.toNat) := fun ρ hρ w M F ok hs => by
 obtain ⟨a, k', hc, h0 | ⟨b, off, rfl⟩⟩ := hR (Qbe hA hs)
 ·omega
 ·subst hc
  simp [execOp, hop, hρ _ _ hx, hρ _ _ hi, Instr.indexAt, asIntOf, run_underlying (QdS hT), Qd8 hT, h, QfO]
def QmD (P : Program) (T : TypeId) : Option (List (Nat × Nat) × List Value) :=
 match P.underlying T, P.info? T with
 | some (.struct fs), some i => match i.zero with
  | some z => (fs.toList.mapM fun (f : Field) => (P.info? f.type).map fun j => (f.offset, j.size)).map fun l => (l, z.cells.toList)
  | none => none
 | _, _ => none
theorem QlF {α β : Type} {P : Program} (f : α -> Sem β) (g : α -> Option β) (w : World) (hfg : ∀ a b, g a = some b -> (f a).run P w = .ok b w) :
  ∀ (l : List α) (r : List β), l.mapM g = some r -> (l.mapM f).run P w = .ok r w
 | [], r, h => by simp at h; subst h; rfl
 | a :: l, r, h => by
  simp only [List.mapM_cons] at h ⊢
  cases ha : g a with
  | none => simp [ha] at h
  | some b =>
   simp only [ha] at h
   cases hl : l.mapM g with
   | none => simp [hl] at h
   | some s =>
    simp [hl] at h
    subst h
    simp [hfg a b ha, QlF f g w hfg l s hl]
theorem Qns {T ps zs} (h : QmD P T = some (ps, zs)) : ∃ fs z, P.underlying T = some (.struct fs) /\ (∀ w, (zeroValue T).run P w = .ok z w) /\ z.cells = zs.toArray /\ ∀ w, (fs.mapM fun (f : Field) => do pure (f.offset, <- sizeOf f.type) : Sem (Array (Nat × Nat))).run P w = .ok ps.toArray w := by
 unfold QmD at h
 cases hu : P.underlying T with
 | none => simp [hu] at h
 | some d =>
  cases hi : P.info? T with
  | none => rw [hu, hi] at h; cases d <;> simp at h
  | some i =>
   rw [hu, hi] at h
   cases d <;> simp at h
   rename_i fs
   cases hz : i.zero with
   | none => simp [hz] at h
   | some z =>
    simp only [hz] at h
    simp only [Option.map_eq_some_iff, Prod.mk.injEq] at h
    obtain ⟨l, h1, h2, h3⟩ := h
    refine ⟨fs, z, rfl, fun w => by simp [zeroValue, typeInfo, hi, hz], by rw [<- h3], fun w => ?_⟩
    subst h2
    rw [<- Array.toArray_toList (xs := fs), List.mapM_toArray]
    have := QlF (P := P) (fun (f : Field) => do pure (f.offset, <- sizeOf f.type) : Field -> Sem (Nat × Nat)) (fun (f : Field) => (P.info? f.type).map fun j => (f.offset, j.size)) w (fun a b hb => by
     cases hj : P.info? a.type with
     | none => simp [hj] at hb
     | some j => simp [hj] at hb; simp [sizeOf, typeInfo, hj, hb]) _ _ h1
    simp only [Sem.run_bind, Sem.run_map, this, Result.andThen_ok]
theorem OpV.build {T xs ps zs vs rs} (hop : o.op = .build T xs) (hT : QmD P T = some (ps, zs))
  (hx : ∀ ρ : Operand -> Value, (∀ x u, L.ev x = some u -> ρ x = u) -> xs.map (fun (i, x) => (i, ρ x)) = vs)
  (hr : Instr.fill (ps.toArray[·]?) zs.toArray vs.toList = some rs) : OpV P L A o (.agg rs) := fun ρ hρ w M F ok hs => by
 obtain ⟨fs, z, h1, h2, h3, h4⟩ := Qns hT
 have e := hx ρ hρ
 simp only [execOp, hop]
 have h4' := h4 w
 simp only [Instr.build, Sem.run_bind, h2, run_underlying h1, h3, e, Result.andThen_ok, Sem.run_pure, h4']
 simp only [hr]
 rfl
end
end Go.SL
namespace Go.SL
open Go
def OpA (P : Program) (L : Env) (A : List SP) (o : Oper) {γ : Type} (V : γ -> Value) (B : γ -> List SP) : Prop :=
 ∀ (ρ : Operand -> Value), (∀ x u, L.ev x = some u -> ρ x = u) -> ∀ w M F, Ok w M F -> Qbi A w M F ->
  ∃ g w' M' F', (execOp ρ o).run P w = .ok (.value (V g)) w' /\ Qfc w M F w' M' F' /\ Qbi (B g) w' M' F'
def OpS (P : Program) (L : Env) (A : List SP) (o : Oper) (B : List SP) : Prop :=
 ∀ (ρ : Operand -> Value), (∀ x u, L.ev x = some u -> ρ x = u) -> ∀ w M F, Ok w M F -> Qbi A w M F ->
  ∃ w' M' F', (execOp ρ o).run P w = .ok .skip w' /\ Qfc w M F w' M' F' /\ Qbi B w' M' F'
def FT (P : Program) (f : FuncId) (args : Array Value) (A : List SP) {γ : Type} (I : γ -> Prop) (V : γ -> Value) (B : γ -> List SP) : Prop :=
 ∀ w M F, Ok w M F -> Qbi A w M F -> Calls P f args w (fun e w' => ∃ g M' F', e = .returned (V g) /\ I g /\ Qfc w M F w' M' F' /\ Qbi (B g) w' M' F')
def OpC (L : Env) (P : Program) (o : Oper) (f : FuncId) (args : Array Value) : Prop :=
 ∀ (ρ : Operand -> Value), (∀ x u, L.ev x = some u -> ρ x = u) -> ∀ w, (execOp ρ o).run P w = .ok (.enter f args) w
section
variable {C : Cx} {ks : List Kn} {L : Env} {A : List SP} {ops : Array Oper} {rest : List Oper} {o : Oper}
theorem QrD {d} {γ : Type} {V : γ -> Value} {B : γ -> List SP} (hg : o.guard = none) (hd : o.dst = some d) (hn : Nat.blt d C.n = true) (hv : OpA C.P L A o V B)
  (h : ∀ g, JO C ops rest ks ((d, V g) :: L) (B g)) : JO C ops (o :: rest) ks L A := by
 intro a w M F st
 refine wpList_plain hg fun K hK => ?_
 obtain ⟨g, w', M', F', hr, hs, hsp⟩ := hv a.eval (fun x u hx => Env.sat_eval st.sat hx) w M F st.step.ok st.sp
 rw [Oper.wp, hr, Oper.upon_value, hd]
 exact hK _ _ (h g _ w' M' F' ⟨st.step.trans hs, by simp [Act.put, st.sz], st.df, Env.sat_put st.sat st.sz hn, hsp⟩)
theorem Qnx {B : List SP} (hg : o.guard = none) (hd : o.dst = none) (hv : OpS C.P L A o B)
  (h : JO C ops rest ks L B) : JO C ops (o :: rest) ks L A := by
 intro a w M F st
 refine wpList_plain hg fun K hK => ?_
 obtain ⟨w', M', F', hr, hs, hsp⟩ := hv a.eval (fun x u hx => Env.sat_eval st.sat hx) w M F st.step.ok st.sp
 rw [Oper.wp, hr, Oper.upon_skip, hd]
 exact hK _ _ (h _ w' M' F' ⟨st.step.trans hs, st.sz, st.df, st.sat, hsp⟩)
theorem Qd0 {d f args} {γ : Type} {I : γ -> Prop} {V : γ -> Value} {B : γ -> List SP} {Ac Ar : List SP} (is : List Nat) (hg : o.guard = none) (hd : o.dst = some d) (hn : Nat.blt d C.n = true) (hc : OpC L C.P o f args)
  (hf : FT C.P f args Ac I V B) (ht : take A is = some (Ac, Ar)) (h : ∀ g, I g -> JO C ops rest ks ((d, V g) :: L) (B g ++ Ar)) : JO C ops (o :: rest) ks L A := by
 intro a w M F st
 refine wpList_plain hg fun K hK => ?_
 have hr := hc a.eval (fun x u hx => Env.sat_eval st.sat hx) w
 rw [Oper.wp, hr, Oper.upon_enter]
 obtain ⟨F1, F2, h1, h2, hdj, hA, hB⟩ := QdR (QeE ht st.sp)
 refine (hf w M F1 ⟨st.step.ok.bd, fun b hb => st.step.ok.sub b (h1 b hb)⟩ hA).mono ?_
 rintro e w' ⟨g, M', F1', rfl, hI, s, hB'⟩
 obtain ⟨s', kp, hd'⟩ := Qfc.frame st.step.ok h1 h2 hdj s
 rw [hd]
 exact hK _ _ (h g hI _ w' M' _ ⟨st.step.trans s', by simp [Act.put, st.sz], st.df, Env.sat_put st.sat st.sz hn,
  QcP (fun b hb => .inl hb) (fun b hb => .inr hb) hd' hB' (QcT hB s.ext kp)⟩)
theorem OpA.frame {P} {γ : Type} {V : γ -> Value} {B : γ -> List SP} {Ac Ar : List SP} (is : List Nat) (ht : take A is = some (Ac, Ar)) (h : OpA P L Ac o V B) : OpA P L A o V (fun g => B g ++ Ar) := fun ρ hρ w M F ok hs => by
 obtain ⟨F1, F2, h1, h2, hd, hA, hB⟩ := QdR (QeE ht hs)
 obtain ⟨g, w', M', F1', hr, s, hB'⟩ := h ρ hρ w M F1 ⟨ok.bd, fun b hb => ok.sub b (h1 b hb)⟩ hA
 obtain ⟨s', kp, hd'⟩ := Qfc.frame ok h1 h2 hd s
 exact ⟨g, w', M', _, hr, s', QcP (fun b hb => .inl hb) (fun b hb => .inr hb) hd' hB' (QcT hB s.ext kp)⟩
theorem OpS.frame {P} {B : List SP} {Ac Ar : List SP} (is : List Nat) (ht : take A is = some (Ac, Ar)) (h : OpS P L Ac o B) : OpS P L A o (B ++ Ar) := fun ρ hρ w M F ok hs => by
 obtain ⟨F1, F2, h1, h2, hd, hA, hB⟩ := QdR (QeE ht hs)
 obtain ⟨w', M', F1', hr, s, hB'⟩ := h ρ hρ w M F1 ⟨ok.bd, fun b hb => ok.sub b (h1 b hb)⟩ hA
 obtain ⟨s', kp, hd'⟩ := Qfc.frame ok h1 h2 hd s
 exact ⟨w', M', _, hr, s', QcP (fun b hb => .inl hb) (fun b hb => .inr hb) hd' hB' (QcT hB s.ext kp)⟩
end
theorem Qjt {w : World} {M F : Blk} (ok : Ok w M F) (o : Obj) : Qfc w M F { w with heap := w.heap.push o } M F := by
 refine ⟨⟨rfl, rfl, rfl, by simp, fun b hb hm => ⟨hm, ?_⟩⟩, ⟨fun b hb => ?_, ok.sub⟩, fun b hb hf => ⟨hb, hf, ?_⟩⟩
 ·simp only [Array.getElem?_push]; rw [if_neg (by omega)]
 ·have := ok.bd b hb; simp; omega
 ·have := ok.bd b hb; simp only [Array.getElem?_push]; rw [if_neg (by omega)]
theorem QfA {w : World} {M F : Blk} (ok : Ok w M F) (o : Obj) : Qfc w M F { w with heap := w.heap.push o } (fun b => M b \/ b = w.heap.size) (fun b => F b \/ b = w.heap.size) := by
 refine ⟨⟨rfl, rfl, rfl, by simp, fun b hb hm => ⟨?_, ?_⟩⟩, ⟨?_, ?_⟩, fun b hb hf => ⟨.inl hb, ?_, ?_⟩⟩
 ·rintro (h | h)
  ·exact hm h
  ·omega
 ·simp only [Array.getElem?_push]; rw [if_neg (by omega)]
 ·rintro b (h | h)
  ·have := ok.bd b h; simp; omega
  ·simp; omega
 ·rintro b (h | h)
  ·exact .inl (ok.sub b h)
  ·exact .inr h
 ·have := ok.bd b hb
  rintro (h | h)
  ·exact hf h
  ·omega
 ·have := ok.bd b hb; simp only [Array.getElem?_push]; rw [if_neg (by omega)]
theorem QiY {w : World} {M F : Blk} (ok : Ok w M F) : Qfc w M F { w with drawn := w.drawn + 1 } M F :=
 ⟨⟨rfl, rfl, rfl, Nat.le_refl _, fun b hb hm => ⟨hm, rfl⟩⟩, ⟨ok.bd, ok.sub⟩, fun b hb hf => ⟨hb, hf, rfl⟩⟩
theorem QfR {w : World} {M F : Blk} (ok : Ok w M F) {g : Nat} (hg : F g) (cs : Array Value) : Qfc w M F (w.setRow g cs) M F := by
 refine ⟨⟨rfl, rfl, rfl, by simp [World.setRow], fun b hb hm => ⟨hm, ?_⟩⟩, ⟨fun b hb => by simpa [World.setRow] using ok.bd b hb, ok.sub⟩, fun b hb hf => ⟨hb, hf, ?_⟩⟩
 ·exact setRow_other w g b cs (fun e => hm (e ▸ ok.sub g hg))
 ·exact setRow_other w g b cs (fun e => hf (e ▸ hg))
section
variable {P : Program} {L : Env} {A : List SP} {o : Oper}
theorem OpA.box {T x v} (hop : o.op = .box T x) (hx : L.ev x = some v) : OpA P L A o (fun p : Value => p) (fun p => pv p v.cells.toList :: A) := fun ρ hρ w M F ok hs => by
 have s := Qjt ok (.cells v.cells T)
 refine ⟨.pointer (some ⟨w.heap.size, 0, none⟩), _, M, F, ?_, s, ?_⟩
 ·simp [execOp, hop, hρ _ _ hx, Instr.box, newVar, newRow]
 ·refine ⟨fun _ => False, F, fun _ h => h.elim, fun _ h => h, fun _ h _ => h, ?_, QcT hs s.ext (fun b hb => ?_)⟩
  ·exact ⟨w.heap.size, 0, v.cells, T, (0, 0), rfl, by simp, fun h => by have := ok.bd _ h; omega, fun j u hu => by simpa using hu⟩
  ·have := ok.bd b (ok.sub b hb); simp only [Array.getElem?_push]; rw [if_neg (by omega)]
theorem QiQ {w : World} {M F : Blk} (ok : Ok w M F) (hs : Qbi A w M F) (cs : Array Value) (T : TypeId) (R : SP)
  (hR : ∀ F1 : Blk, F1 w.heap.size -> R.h { w with heap := w.heap.push (.cells cs T) } (fun b => M b \/ b = w.heap.size) F1) :
  ∃ M' F', Qfc w M F { w with heap := w.heap.push (.cells cs T) } M' F' /\ Qbi (R :: A) { w with heap := w.heap.push (.cells cs T) } M' F' := by
 have s := QfA ok (.cells cs T)
 refine ⟨_, _, s, fun b => b = w.heap.size, F, fun b h => .inr h, fun b h => .inl h, fun b h h' => ?_, hR _ rfl, QcT hs s.ext (fun b hb => ?_)⟩
 ·have := ok.bd b (ok.sub b h'); omega
 ·have := ok.bd b (ok.sub b hb); simp only [Array.getElem?_push]; rw [if_neg (by omega)]
theorem OpA.boxOwn {T x v} (hop : o.op = .box T x) (hx : L.ev x = some v) : OpA P L A o (fun p : Value => p) (fun p => Cl p v.cells.toList :: A) := fun ρ hρ w M F ok hs => by
 obtain ⟨M', F', s, h⟩ := QiQ ok hs v.cells T (Cl (.pointer (some ⟨w.heap.size, 0, none⟩)) v.cells.toList) (fun F1 h => ⟨w.heap.size, T, h, rfl, by simp⟩)
 refine ⟨.pointer (some ⟨w.heap.size, 0, none⟩), _, M', F', ?_, s, h⟩
 simp [execOp, hop, hρ _ _ hx, Instr.box, newVar, newRow]
def QeK (P : Program) (T : TypeId) : Option Value := (P.info? T).bind (·.zero)
theorem Qhv {T z} (h : QeK P T = some z) (w : World) : (zeroValue T).run P w = .ok z w := by
 unfold QeK at h
 cases hi : P.info? T with
 | none => simp [hi] at h
 | some i => simp [hi] at h; simp [zeroValue, typeInfo, hi, h]
theorem OpA.alloc {T z} (hop : o.op = .alloc T) (hz : QeK P T = some z) : OpA P L A o (fun p : Value => p) (fun p => Cl p z.cells.toList :: A) := fun ρ hρ w M F ok hs => by
 obtain ⟨M', F', s, h⟩ := QiQ ok hs z.cells T (Cl (.pointer (some ⟨w.heap.size, 0, none⟩)) z.cells.toList) (fun F1 h => ⟨w.heap.size, T, h, rfl, by simp⟩)
 refine ⟨.pointer (some ⟨w.heap.size, 0, none⟩), _, M', F', ?_, s, h⟩
 simp [execOp, hop, Instr.alloc, Qhv hz, newVar, newRow]
theorem QgM {T n b off} {v : Value} {cells : Array Value} {E : TypeId} {w : World} {bb} (hT : Qbd P T = some (bb, n)) (hn : v.cells.size = n)
  (h1 : ∀ u ∈ v.cells.toList, u.oneCell' = true) (hb : w.heap[b]? = some (.cells cells E (0, 0))) (hf : off + v.cells.size <= cells.size) :
  (Instr.storeAt T (.pointer (some ⟨b, off, none⟩)) v).run P w = .ok () (w.setRow b (cells.toList.take off ++ v.cells.toList ++ cells.toList.drop (off + v.cells.size)).toArray) := by
 have := run_storeCells_at P b off E v.cells.toList 0 cells w hb (by simpa using hf) h1
 simp only [Nat.add_zero, Array.length_toList] at this
 simp [Instr.storeAt, Instr.sureAddr, storeVar, QhO hT, hn, this]
theorem QiX {T x y p q v cs bb n} (m : Nat) (ds cs' : List Value) (hop : o.op = .store T x y) (hx : L.ev x = some q) (hq : ∀ b, p = .pointer (some ⟨b, 0, none⟩) -> q = .pointer (some ⟨b, m, none⟩)) (hy : L.ev y = some v) (hT : Qbd P T = some (bb, n)) (hv : v.cells.toList = ds) (hn : ds.length = n)
  (h1 : ds.all (·.oneCell') = true) (hl : m + n <= cs.length) (hc : cs.take m ++ ds ++ cs.drop (m + n) = cs') :
  OpS P L [Cl p cs] o [Cl p cs'] := fun ρ hρ w M F ok hs => by
 obtain ⟨F1, F2, k1, k2, kd, ⟨b, E, h2, h3, h4⟩, _⟩ := hs
 have hn' : v.cells.size = n := by rw [<- Array.length_toList, hv, hn]
 have hr := QgM (P := P) (w := w) (off := m) hT hn' (fun u hu => by rw [hv] at hu; exact List.all_eq_true.1 h1 u hu) h4 (by simp [hn']; omega)
 refine ⟨w.setRow b cs'.toArray, M, F, ?_, QfR ok (k1 b h2) _, F, fun _ => False, fun _ h => h, fun _ h => h.elim, fun _ _ h => h, ⟨b, E, k1 b h2, h3, ?_⟩, trivial⟩
 ·rw [hn', hv] at hr
  simp only [List.toList_toArray] at hr
  rw [hc] at hr
  simp [execOp, hop, hρ _ _ hx, hρ _ _ hy, hq b h3, hr]
 ·exact setRow_heap w b _ _ E (0, 0) h4
theorem OpS.storeCl {T x y p v cs bb n} (ds cs' : List Value) (hop : o.op = .store T x y) (hx : L.ev x = some p) (hy : L.ev y = some v) (hT : Qbd P T = some (bb, n)) (hv : v.cells.toList = ds) (hn : ds.length = n)
  (h1 : ds.all (·.oneCell') = true) (hl : n <= cs.length) (hc : ds ++ cs.drop n = cs') : OpS P L [Cl p cs] o [Cl p cs'] :=
 QiX 0 ds cs' hop hx (fun b h => h) hy hT hv hn h1 (by omega) (by simpa using hc)
theorem OpS.storeClF {T x y p v cs bb n} {m : Nat} (ds cs' : List Value) (hop : o.op = .store T x y) (hx : L.ev x = some (Qim p m)) (hy : L.ev y = some v) (hT : Qbd P T = some (bb, n)) (hv : v.cells.toList = ds) (hn : ds.length = n)
  (h1 : ds.all (·.oneCell') = true) (hl : m + n <= cs.length) (hc : cs.take m ++ ds ++ cs.drop (m + n) = cs') : OpS P L [Cl p cs] o [Cl p cs'] :=
 QiX m ds cs' hop hx (fun b h => by rw [h]; simp [Qim, QbE]) hy hT hv hn h1 hl hc
end
end Go.SL
namespace Go.SL
open Go
section
variable {α : Type} [Rep α]
theorem QjN {w : World} {M : Blk} {cells : Array Value} {off : Nat} {xs : List α} (h : Qer w M cells off xs) :
  ∃ fl : List Value, fl.length = xs.length * Rep.sz α /\ (∀ (j : Nat) (u : Value), fl[j]? = some u -> cells[off + j]? = some u) /\ (∀ u ∈ fl, u.oneCell' = true) /\
   (xs ≠ [] -> off + fl.length <= cells.size) /\
   ∀ (cells' : Array Value) (off' : Nat), (∀ (j : Nat) (u : Value), fl[j]? = some u -> cells'[off' + j]? = some u) -> Qer w M cells' off' xs := by
 induction xs generalizing off with
 | nil => exact ⟨[], by simp, by simp, by simp, by simp, fun _ _ _ i x hx => by simp at hx⟩
 | cons x xs ih =>
  obtain ⟨ecs, e1, e2⟩ := h 0 x rfl
  have hl : ecs.length = Rep.sz α := Rep.len e2
  have hrest : Qer w M cells (off + Rep.sz α) xs := fun i y hy => by
   obtain ⟨fs, f1, f2⟩ := h (i + 1) y (by simpa using hy)
   exact ⟨fs, fun j u hu => by have := f1 j u hu; rw [show off + Rep.sz α + i * Rep.sz α + j = off + (i + 1) * Rep.sz α + j by rw [Nat.add_mul]; omega]; exact this, f2⟩
  obtain ⟨fl, k1, k2, k3, k4, k5⟩ := ih hrest
  refine ⟨ecs ++ fl, by simp [hl, k1, Nat.add_mul]; omega, ?_, ?_, ?_, ?_⟩
  ·intro j u hu
   rcases Nat.lt_or_ge j ecs.length with hj | hj
   ·rw [List.getElem?_append_left hj] at hu; simpa using e1 j u hu
   ·rw [List.getElem?_append_right hj] at hu
    have := k2 _ u hu
    rw [<- this]; congr 1; omega
  ·intro u hu
   rcases List.mem_append.1 hu with hu | hu
   ·exact Rep.one e2 u hu
   ·exact k3 u hu
  ·intro _
   have hsz := Rep.pos (α := α)
   have : ecs[Rep.sz α - 1]? = some (ecs[Rep.sz α - 1]'(by omega)) := List.getElem?_eq_getElem _
   have := e1 _ _ this
   have hlt : off + 0 * Rep.sz α + (Rep.sz α - 1) < cells.size := by
    rcases Nat.lt_or_ge (off + 0 * Rep.sz α + (Rep.sz α - 1)) cells.size with h' | h'
    ·exact h'
    ·rw [Array.getElem?_eq_none h'] at this; simp at this
   by_cases hx : xs = []
   ·subst hx; simp at k1; simp [hl, k1]; omega
   ·have := k4 hx; simp [hl]; omega
  ·intro cells' off' hc i y hy
   cases i with
   | zero =>
    simp at hy; subst hy
    exact ⟨ecs, fun j u hu => by
     have hj : j < ecs.length := by
      rcases Nat.lt_or_ge j ecs.length with h' | h'
      ·exact h'
      ·simp [List.getElem?_eq_none h'] at hu
     have := hc j u (by rw [List.getElem?_append_left hj]; exact hu)
     simpa using this, e2⟩
   | succ i =>
    have := k5 cells' (off' + Rep.sz α) (fun j u hu => by
     have := hc (ecs.length + j) u (by rw [List.getElem?_append_right (by omega)]; simpa using hu)
     rw [hl] at this
     rw [<- this]; congr 1; omega) i y (by simpa using hy)
    obtain ⟨fs, f1, f2⟩ := this
    exact ⟨fs, fun j u hu => by have := f1 j u hu; rw [show off' + (i + 1) * Rep.sz α + j = off' + Rep.sz α + i * Rep.sz α + j by rw [Nat.add_mul]; omega]; exact this, f2⟩
theorem Qio {w : World} {M : Blk} {cells : Array Value} {off : Nat} {xs ys : List α} (h : Qer w M cells off xs) (k : Qer w M cells (off + xs.length * Rep.sz α) ys) : Qer w M cells off (xs ++ ys) := fun i x hx => by
 rcases Nat.lt_or_ge i xs.length with hi | hi
 ·rw [List.getElem?_append_left hi] at hx; exact h i x hx
 ·rw [List.getElem?_append_right hi] at hx
  obtain ⟨ecs, e1, e2⟩ := k _ x hx
  refine ⟨ecs, fun j u hu => ?_, e2⟩
  have := e1 j u hu
  rw [<- this]; congr 1
  have : i * Rep.sz α = xs.length * Rep.sz α + (i - xs.length) * Rep.sz α := by rw [<- Nat.add_mul]; congr 1; omega
  omega
def Src (R : SP) (c : Value) (ys : List α) : Prop := ∀ {w M F}, R.h w M F -> ys.length * Rep.bytes α <= QdA /\ ∃ a k, c = .slice a ys.length k /\
 (ys = [] \/ ∃ b off cells T fz, a = some ⟨b, off, none⟩ /\ w.heap[b]? = some (.cells cells T fz) /\ Qer w M cells off ys)
theorem Qq6 (c : Value) (ys : List α) : Src (sl c ys) c ys := by
 rintro w M F ⟨hb, a, k, hc, hk, h⟩
 refine ⟨hb, a, k, hc, ?_⟩
 cases a with
 | none => exact .inl h.1
 | some ad =>
  rcases h with h | ⟨cells, T, fz, h0, h1, h2, h3⟩
  ·exact .inl h
  ·exact .inr ⟨ad.block, ad.off, cells, T, fz, by cases ad; simp_all, h1, h3⟩
theorem QqY (c : Value) (ys : List α) : Src (os c ys) c ys := by
 rintro w M F ⟨hb, a, k, hc, hk, h⟩
 refine ⟨hb, a, k, hc, ?_⟩
 cases a with
 | none => exact .inl h.1
 | some ad =>
  obtain ⟨cells, T, h0, h1, h2, h3, h4⟩ := h
  exact .inr ⟨ad.block, ad.off, cells, T, (0, 0), by cases ad; simp_all, h2, h4⟩
theorem Ent.osNil : Ent [] [os (α := α) (.slice none 0 0) []] := fun w M F ok _ =>
 ⟨M, F, Qfc.refl ok, F, fun _ => False, fun _ h => h, fun _ h => h.elim, fun _ _ h => h, ⟨by simp, none, 0, rfl, by simp, rfl, rfl⟩, trivial⟩
theorem Ent.slNil : Ent [] [sl (α := α) (.slice none 0 0) []] := fun w M F ok _ =>
 ⟨M, F, Qfc.refl ok, F, fun _ => False, fun _ h => h, fun _ h => h.elim, fun _ _ h => h, ⟨by simp, none, 0, rfl, by simp, rfl, rfl⟩, trivial⟩
theorem QiU {w : World} {M F : Blk} (ok : Ok w M F) (b : Nat) (hb : F b) : Qfc w M F w (fun x => M x /\ x ≠ b) (fun x => F x /\ x ≠ b) := by
 refine ⟨⟨rfl, rfl, rfl, Nat.le_refl _, fun x hx hm => ⟨fun h => hm h.1, rfl⟩⟩, ⟨fun x h => ok.bd x h.1, fun x h => ⟨ok.sub x h.1, h.2⟩⟩, fun x hm hf => ⟨⟨hm, fun e => hf (e ▸ hb)⟩, fun h => hf h.1, rfl⟩⟩
theorem Ent.freeze (c : Value) (xs : List α) : Ent [os c xs] [sl c xs] := fun w M F ok hs => by
 obtain ⟨F1, F2, k1, k2, kd, ⟨hb, a, k, hc, hk, h⟩, _⟩ := hs
 cases a with
 | none => exact ⟨M, F, Qfc.refl ok, F, fun _ => False, fun _ h => h, fun _ h => h.elim, fun _ _ h => h, ⟨hb, none, k, hc, hk, h⟩, trivial⟩
 | some ad =>
  obtain ⟨cells, T, h0, h1, h2, h3, h4⟩ := h
  have s := QiU ok ad.block (k1 _ h1)
  exact ⟨_, _, s, _, fun _ => False, fun _ h => h, fun _ h => h.elim, fun _ _ h => h, ⟨hb, some ad, k, hc, hk, .inr ⟨cells, T, (0, 0), h0, h2, fun h => h.2 rfl, Qe7 h4 s.ext⟩⟩, trivial⟩
theorem Ent.freezeCl (p : Value) (cs : List Value) : Ent [Cl p cs] [pv p cs] := fun w M F ok hs => by
 obtain ⟨F1, F2, k1, k2, kd, ⟨b, T, h1, h2, h3⟩, _⟩ := hs
 have s := QiU ok b (k1 _ h1)
 exact ⟨_, _, s, _, fun _ => False, fun _ h => h, fun _ h => h.elim, fun _ _ h => h, ⟨b, 0, cs.toArray, T, (0, 0), h2, h3, fun h => h.2 rfl, fun j u hu => by simpa using hu⟩, trivial⟩
theorem QeQ {C : Cx} {X : Act -> World -> Prop} {L : Env} {A : List SP} {R : SP} {φ : Prop} (i : Nat) (hA : A[i]? = some R) (hR : ∀ {w M F}, R.h w M F -> φ) (h : φ -> JJ C X L A) : JJ C X L A :=
 fun a w M F st => h (hR (Qbe hA st.sp)) a w M F st
theorem Qnu {c : Value} {xs : List α} {w M F} (h : (sl c xs).h w M F) : xs.length * Rep.bytes α <= QdA := h.1
theorem Qnv {c : Value} {xs : List α} {w M F} (h : (os c xs).h w M F) : xs.length * Rep.bytes α <= QdA := h.1
theorem QlG {C : Cx} {X : Act -> World -> Prop} {L : Env} {A : List SP} {R : SP} {c : Value} {n : Nat} (i : Nat) (hA : A[i]? = some R) (hR : ∀ {w M F}, R.h w M F -> ∃ a k, c = .slice a n k)
  (h : ∀ a k, c = .slice a n k -> JJ C X L A) : JJ C X L A :=
 fun a w M F st => by
  obtain ⟨b, k, e⟩ := hR (Qbe hA st.sp)
  exact h b k e a w M F st
theorem QiM {c : Value} {xs : List α} {w M F} (h : (sl c xs).h w M F) : ∃ a k, c = .slice a xs.length k := by obtain ⟨_, a, k, h, _⟩ := h; exact ⟨a, k, h⟩
theorem Qj8 {c : Value} {xs : List α} {w M F} (h : (os c xs).h w M F) : ∃ a k, c = .slice a xs.length k := by obtain ⟨_, a, k, h, _⟩ := h; exact ⟨a, k, h⟩
theorem Qh7 {C : Cx} {X : Act -> World -> Prop} {L : Env} {A : List SP} {c : Value} {xs : List α} (i m : Nat) (hA : A[m]? = some (sl c xs)) (hi : i < xs.length)
  (d : α) (h : ∀ cs, JJ C X L (pv (QfO (Rep.sz α) c i) cs :: rdp cs (xs.getD i d) :: A)) : JJ C X L A := fun a w M F st => by
 obtain ⟨hb, ao, k, hc, hk, hh⟩ := Qbe hA st.sp
 cases ao with
 | none => have := hh.1; subst this; simp at hi
 | some ad =>
  rcases hh with hh | ⟨cells, T, fz, h0, h1, h2, h3⟩
  ·subst hh; simp at hi
  ·obtain ⟨ecs, e1, e2⟩ := h3 i xs[i] (List.getElem?_eq_getElem hi)
   refine h ecs a w M F ⟨st.step, st.sz, st.df, st.sat, fun _ => False, F, fun _ h => h.elim, fun _ h => h, fun _ h _ => h, ?_, fun _ => False, F, fun _ h => h.elim, fun _ h => h, fun _ h _ => h, ?_, st.sp⟩
   ·obtain ⟨b, off, sp⟩ := ad
    simp at h0; subst h0
    exact ⟨b, off + i * Rep.sz α, cells, T, fz, by rw [hc]; simp [QfO, QbE], h1, h2, e1⟩
   ·have : xs.getD i d = xs[i] := by simp [List.getD, List.getElem?_eq_getElem hi]
    show Rep.rd w M ecs (xs.getD i d)
    rw [this]; exact e2
def oread (c : Value) (xs : List α) (i : Nat) (cs : List Value) : SP where
 h w M F := (os c xs).h w M F /\ ∃ b off, QfO (Rep.sz α) c i = .pointer (some ⟨b, off, none⟩) /\ (∃ cells T fz, F b /\ w.heap[b]? = some (.cells cells T fz) /\ ∀ (j : Nat) (u : Value), cs[j]? = some u -> cells[off + j]? = some u)
 p := false
 st := by
  rintro w M F w' M' ⟨h, b, off, h1, cells, T, fz, h2, h3, h4⟩ e k
  exact ⟨(os c xs).st h e k, b, off, h1, cells, T, fz, h2, (k b h2).trans h3, h4⟩
 up := by
  rintro w M F F' ⟨h, b, off, h1, cells, T, fz, h2, h3, h4⟩ e
  exact ⟨(os c xs).up h e, b, off, h1, cells, T, fz, e b h2, h3, h4⟩
 pers := by simp
class RepE (α : Type) extends Rep α where
 ex : α -> List Value
 ok : α -> Prop
 ex_eq : ∀ {w M cs x}, rd w M cs x -> cs = ex x /\ ok x
 rd_ex : ∀ {w M x}, ok x -> rd w M (ex x) x
theorem Qka {β : Type} [RepE β] (c : Value) (xs : List β) (i : Nat) (d : β) (hi : i < xs.length) : QgK (sl c xs) (QfO (Rep.sz β) c i) (RepE.ex (xs.getD i d)) := by
 rintro w M F ⟨hb, ao, k, hc, hk, hh⟩
 cases ao with
 | none => have := hh.1; subst this; simp at hi
 | some ad =>
  rcases hh with hh | ⟨cells, T, fz, h0, h1, h2, h3⟩
  ·subst hh; simp at hi
  ·obtain ⟨ecs, e1, e2⟩ := h3 i xs[i] (List.getElem?_eq_getElem hi)
   have : xs.getD i d = xs[i] := by simp [List.getD, List.getElem?_eq_getElem hi]
   rw [this, <- (RepE.ex_eq e2).1]
   obtain ⟨b, off, sp⟩ := ad
   simp at h0; subst h0
   exact ⟨b, off + i * Rep.sz β, by rw [hc]; simp [QfO, QbE], fun j u hu => by simp [World.cell?, h1, e1 j u hu]⟩
theorem QjQ {β : Type} [RepE β] (c : Value) (xs : List β) (i : Nat) (d : β) (hi : i < xs.length) : QgK (os c xs) (QfO (Rep.sz β) c i) (RepE.ex (xs.getD i d)) := by
 rintro w M F ⟨hb, ao, k, hc, hk, hh⟩
 cases ao with
 | none => have := hh.1; subst this; simp at hi
 | some ad =>
  obtain ⟨cells, T, h0, h1, h2, h3, h4⟩ := hh
  obtain ⟨ecs, e1, e2⟩ := h4 i xs[i] (List.getElem?_eq_getElem hi)
  have : xs.getD i d = xs[i] := by simp [List.getD, List.getElem?_eq_getElem hi]
  rw [this, <- (RepE.ex_eq e2).1]
  obtain ⟨b, off, sp⟩ := ad
  simp at h0; subst h0
  exact ⟨b, off + i * Rep.sz β, by rw [hc]; simp [QfO, QbE], fun j u hu => by simp [World.cell?, h2, e1 j u hu]⟩
theorem QrJ {β : Type} [RepE β] {c : Value} {xs : List β} {w M F} (h : (sl c xs).h w M F) : ∀ x ∈ xs, RepE.ok x := by
 obtain ⟨hb, ao, k, hc, hk, hh⟩ := h
 intro x hx
 cases ao with
 | none => have := hh.1; subst this; simp at hx
 | some ad =>
  rcases hh with hh | ⟨cells, T, fz, h0, h1, h2, h3⟩
  ·subst hh; simp at hx
  ·obtain ⟨i, hi, e⟩ := List.mem_iff_getElem.1 hx
   obtain ⟨ecs, e1, e2⟩ := h3 i x (by rw [List.getElem?_eq_getElem hi, e])
   exact (RepE.ex_eq e2).2
end
end Go.SL
namespace Go.SL
open Go
def Cr (c : Value) (n : Nat) (cs : List Value) : SP where
 h w _ F := ∃ b T, F b /\ c = .slice (some ⟨b, 0, none⟩) n n /\ w.heap[b]? = some (.cells cs.toArray T (0, 0))
 p := false
 st := by
  rintro w M F w' M' ⟨b, T, h1, h2, h3⟩ e k
  exact ⟨b, T, h1, h2, (k b h1).trans h3⟩
 up := fun ⟨b, T, h1, h2, h3⟩ e => ⟨b, T, e b h1, h2, h3⟩
 pers := by simp
def rdl {α : Type} [Rep α] (w : World) (M : Blk) : List Value -> List α -> Prop
 | cs, [] => cs = []
 | cs, x :: xs => ∃ e r, cs = e ++ r /\ Rep.rd w M e x /\ rdl w M r xs
theorem QkD {α : Type} [Rep α] {w : World} {M : Blk} : ∀ (xs : List α) (cs : List Value), rdl w M cs xs -> cs.length = xs.length * Rep.sz α /\ ∀ (cells : Array Value) (off : Nat), (∀ (j : Nat) (u : Value), cs[j]? = some u -> cells[off + j]? = some u) -> Qer w M cells off xs
 | [], cs, h => by
  simp [rdl] at h; subst h
  exact ⟨by simp, fun _ _ _ i x hx => by simp at hx⟩
 | x :: xs, cs, ⟨e, r, h1, h2, h3⟩ => by
  obtain ⟨k1, k2⟩ := QkD xs r h3
  have hl := Rep.len h2
  subst h1
  refine ⟨by simp [hl, k1, Nat.add_mul]; omega, fun cells off hc => ?_⟩
  intro i y hy
  cases i with
  | zero =>
   simp at hy; subst hy
   exact ⟨e, fun j u hu => by
    have hj : j < e.length := by
     rcases Nat.lt_or_ge j e.length with h' | h'
     ·exact h'
     ·simp [List.getElem?_eq_none h'] at hu
    have := hc j u (by rw [List.getElem?_append_left hj]; exact hu)
    simpa using this, h2⟩
  | succ i =>
   obtain ⟨fs, f1, f2⟩ := k2 cells (off + Rep.sz α) (fun j u hu => by
    have := hc (e.length + j) u (by rw [List.getElem?_append_right (by omega)]; simpa using hu)
    rw [hl] at this
    rw [<- this]; congr 1; omega) i y (by simpa using hy)
   exact ⟨fs, fun j u hu => by have := f1 j u hu; rw [show off + (i + 1) * Rep.sz α + j = off + Rep.sz α + i * Rep.sz α + j by rw [Nat.add_mul]; omega]; exact this, f2⟩
theorem Ent.crOs {α : Type} [Rep α] {A : List SP} (c : Value) (xs : List α) (cs : List Value) (hb : xs.length * Rep.bytes α <= QdA) (hr : ∀ {w M F}, Qbi A w M F -> rdl w M cs xs) : Ent (Cr c xs.length cs :: A) (os c xs :: A) := fun w M F ok hs => by
 obtain ⟨F1, F2, k1, k2, kd, ⟨b, T, h1, h2, h3⟩, hA⟩ := hs
 obtain ⟨l1, l2⟩ := QkD xs cs (hr hA)
 exact ⟨M, F, Qfc.refl ok, F1, F2, k1, k2, kd, ⟨hb, _, _, h2, Nat.le_refl _, cs.toArray, T, rfl, h1, h3, by simp [l1], l2 _ _ (fun j u hu => by simpa using hu)⟩, hA⟩
section
variable {P : Program} {L : Env} {A : List SP} {o : Oper}
def QdX (P : Program) (T : TypeId) : Option (List Value) :=
 match QfF P T with
 | some (e, _, _) => (QeK P e).map (·.cells.toList)
 | none => none
theorem Qif {T e n by_ zs} (h : QdX P T = some zs) (hT : QfF P T = some (e, n, by_)) : ∃ z, (∀ w, (zeroValue e).run P w = .ok z w) /\ z.cells = zs.toArray := by
 unfold QdX at h
 rw [hT] at h
 simp only [Option.map_eq_some_iff] at h
 obtain ⟨z, h1, h2⟩ := h
 exact ⟨z, fun w => Qhv h1 w, by rw [<- h2]⟩
theorem OpA.buildSlice {T n xs e sz by_ zs vs} {rs : Array Value} (hop : o.op = .buildSlice T n xs) (hT : QfF P T = some (e, sz, by_)) (hz : QdX P T = some zs) (hn : Nat.ble (n * sz) 16777216 = true)
  (hx : ∀ ρ : Operand -> Value, (∀ x u, L.ev x = some u -> ρ x = u) -> xs.map (fun (i, x) => (i, ρ x)) = vs)
  (hr : Instr.fill (fun i => some (i * sz, sz)) ((Array.range (n * sz)).map (zs.toArray[· % zs.toArray.size]!)) vs.toList = some rs) :
  OpA P L A o (fun c : Value => c) (fun c => Cr c n rs.toList :: A) := fun ρ hρ w M F ok hs => by
 obtain ⟨z, h1, h2⟩ := Qif hz hT
 have he := hx ρ hρ
 obtain ⟨M', F', s, h⟩ := QiQ ok hs rs e (Cr (.slice (some ⟨w.heap.size, 0, none⟩) n n) n rs.toList) (fun F1 h => ⟨w.heap.size, e, h, rfl, by simp⟩)
 refine ⟨.slice (some ⟨w.heap.size, 0, none⟩) n n, _, M', F', ?_, s, h⟩
 have hn' : ¬ 2 ^ 24 < n * sz := by have := Nat.le_of_ble_eq_true hn; omega
 simp only [execOp, hop]
 by_cases h0 : n * sz = 0
 ·have hr' : Instr.fill (fun i => some (i * sz, sz)) (Array.map (fun x => (#[] : Array Value)[x % 0]!) (Array.range (n * sz))) vs.toList = some rs := by
   rw [<- hr]; congr 1; simp [h0]
  simp [Instr.buildSlice, run_underlying (QdS hT), Qd8 hT, hn', h0, he, newRow]
  rw [h0] at hr'
  simp at hr'
  simp [hr']
 ·simp [Instr.buildSlice, run_underlying (QdS hT), Qd8 hT, hn', h0, he, newRow, h1, h2]
  simp at hr
  simp [hr]
theorem OpA.makeSlice {T l cp e sz by_ zs} {n : Int} {α : Type} [Rep α] (z0 : α) (hop : o.op = .makeSlice T l cp) (hl : L.ev l = some (.int .i64 n)) (hc : L.ev cp = some (.int .i64 n)) (hT : QfF P T = some (e, sz, by_)) (hz : QdX P T = some zs)
  (hs : Rep.sz α = sz) (hb : Rep.bytes α = by_) (h0 : 0 <= n) (h1 : n * by_ <= 140737488355328) (hzr : ∀ w M, Rep.rd w M zs z0) :
  OpA P L A o (fun c : Value => c) (fun c => os c (List.replicate n.toNat z0) :: A) := fun ρ hρ w M F ok hsA => by
 obtain ⟨z, k1, k2⟩ := Qif hz hT
 obtain ⟨m, rfl⟩ := Int.eq_ofNat_of_zero_le h0
 obtain ⟨i, i1, i2, i3⟩ := Qi5 hT
 have hzl : zs.length = sz := by rw [<- hs]; exact Rep.len (hzr w M)
 have hpos : 0 < sz := hs ▸ Rep.pos (α := α)
 have hbp : 0 < by_ := hb ▸ Rep.bpos (α := α)
 have hm : (m : Int) <= 140737488355328 := by
  have : (m : Int) * 1 <= m * by_ := Int.mul_le_mul_of_nonneg_left (by omega) (by omega)
  omega
 have hw : IntKind.i64.wrap (m : Int) = m := IntWalk.i64_in _ (by omega)
 let cells : Array Value := (Array.range (m * sz)).map (z.cells[· % z.cells.size]!)
 obtain ⟨M', F', s, h⟩ := QiQ ok hsA cells e (os (.slice (some ⟨w.heap.size, 0, none⟩) m m) (List.replicate m z0)) (fun F1 h => by
  refine ⟨?_, some ⟨w.heap.size, 0, none⟩, m, by simp, by simp, cells, e, rfl, h, by simp, by simp [cells, hs], ?_⟩
  ·simp only [List.length_replicate, hb, QdA]
   have : ((m * by_ : Nat) : Int) <= 140737488355328 := by push_cast; exact h1
   omega
  ·intro j x hx
   have hj : j < m := by
    rcases Nat.lt_or_ge j m with h' | h'
    ·exact h'
    ·simp [List.getElem?_eq_none (l := List.replicate m z0) (by simpa using h')] at hx
   have : x = z0 := by rw [List.getElem?_replicate, if_pos hj] at hx; simpa using hx.symm
   subst this
   refine ⟨zs, fun t u hu => ?_, Rep.st (hzr w M) (QfA ok (.cells cells e)).ext⟩
   have ht : t < sz := by
    rcases Nat.lt_or_ge t zs.length with h' | h'
    ·omega
    ·simp [List.getElem?_eq_none h'] at hu
   have hlt : j * sz + t < m * sz := by
    have : (j + 1) * sz <= m * sz := Nat.mul_le_mul_right _ hj
    rw [Nat.add_mul] at this; omega
   have hmod : (j * sz + t) % sz = t := by rw [Nat.add_comm, Nat.add_mul_mod_self_right, Nat.mod_eq_of_lt ht]
   simp only [cells, hs, Nat.zero_add, Array.getElem?_map, k2]
   rw [Array.getElem?_range, if_pos hlt]
   simp [hzl, hmod, getElem!_def, hu])
 refine ⟨.slice (some ⟨w.heap.size, 0, none⟩) m m, _, M', F', ?_, s, by simpa using h⟩
 have t1 : ¬ 281474976710656 < (i.bytes : Int) * (m : Int) := by
  rw [i3, Int.mul_comm]; omega
 have t2 : ¬ ((m : Int) < 0) := by omega
 simp only [execOp, hop]
 by_cases hm0 : m = 0
 ·subst hm0
  simp at t1 hw
  simp [Instr.makeSlice, run_underlying (QdS hT), hρ _ _ hl, hρ _ _ hc, asInt, asIntOf, typeInfo, i1, hw, Qd8 hT, newRow, cells, show Array.range 0 = #[] from rfl]
 ·have hms : ¬ m * sz = 0 := fun e => by rcases Nat.mul_eq_zero.1 e with h | h <;> omega
  have hms' : ¬ (m = 0 \/ sz = 0) := by omega
  simp [Instr.makeSlice, run_underlying (QdS hT), hρ _ _ hl, hρ _ _ hc, asInt, asIntOf, typeInfo, i1, hw, t1, t2, Qd8 hT, hms', newRow, k1, cells]
  intro h; exact absurd h hms
theorem Ql2 (n c : Nat) (h : c < n) : Builtin.nextslicecap n c <= 2 * n := by
 unfold Builtin.nextslicecap
 split
 ·omega
 ·split
  ·omega
  ·rename_i h1 h2
   have key : ∀ r c, c <= 2 * n -> 256 <= n -> Builtin.growBy n r c <= 2 * n := by
    intro r
    induction r with
    | zero => intro c hc _; simpa [Builtin.growBy] using hc
    | succ r ih =>
     intro c hc hn
     simp only [Builtin.growBy]
     split
     ·exact hc
     ·rename_i h'; exact ih _ (by omega) hn
   exact key 4 c (by omega) (by omega)
theorem Qgc {sz n : Nat} {a : Option Addr} {k : Nat} {w : World} (fl : List Value) (hl : fl.length = n * sz) (h : n = 0 \/ ∃ b off, a = some ⟨b, off, none⟩ /\ ∀ (j : Nat) (u : Value), fl[j]? = some u -> w.cell? ⟨b, off + j, none⟩ = some u) (m : Nat) :
  (Builtin.firstCells sz n (.slice a m k)).run P w = .ok fl.toArray w := by
 rcases h with h | ⟨b, off, rfl, h⟩
 ·subst h
  simp at hl; subst hl
  cases a <;> simp [Builtin.firstCells, loadCells, loadCellsFrom]
 ·simp only [Builtin.firstCells]
  rw [<- hl]
  exact run_loadCells_list w ⟨b, off, none⟩ fl (fun j v hv => by rw [QbE]; exact h j v hv)
theorem Qjv (z : Array Value) (n : Nat) : (Builtin.zeroCells z n).size = n * z.size := by simp [Builtin.zeroCells]
theorem OpA.append {T T2 x y c d e sz by_ zs e2 sz2 by2} {α : Type} [Rep α] {xs ys : List α} {R : SP} (hop : o.op = .call { callee := .builtin .append, args := #[x, y], argTypes := #[T, T2] })
  (hx : L.ev x = some c) (hy : L.ev y = some d) (hT : QfF P T = some (e, sz, by_)) (hT2 : QfF P T2 = some (e2, sz2, by2)) (hz : QdX P T = some zs) (hzl : zs.length = sz) (hs : Rep.sz α = sz) (hb : Rep.bytes α = by_)
  (hR : Src R d ys) (hlen : (xs.length + ys.length) * Rep.bytes α <= QdA) :
  OpA P L [os c xs, R] o (fun c : Value => c) (fun c => [os c (xs ++ ys), R]) := fun ρ hρ w M F ok hsA => by
 obtain ⟨F1, F2', k1, k2, kd, hos, F2, _, q1, _, _, hRr, _⟩ := hsA
 have hF2 : ∀ b, F2 b -> F2' b := q1
 obtain ⟨hbx, a, k, rfl, hk, hcase⟩ := hos
 obtain ⟨hby, a2, m2, rfl, hsrc⟩ := hR hRr
 obtain ⟨z, z1, z2⟩ := Qif hz hT
 obtain ⟨i, i1, i2, i3⟩ := Qi5 hT
 have hbp : 0 < by_ := hb ▸ Rep.bpos (α := α)
 -- the source's cells
 obtain ⟨fl, hfl, hfr, hf1, hfe⟩ : ∃ fl : List Value, fl.length = ys.length * sz /\ (ys.length = 0 \/ ∃ b off, a2 = some ⟨b, off, none⟩ /\ ∀ (j : Nat) (u : Value), fl[j]? = some u -> w.cell? ⟨b, off + j, none⟩ = some u) /\ (∀ u ∈ fl, u.oneCell' = true) /\
   ∀ (cells' : Array Value) (off' : Nat), (∀ (j : Nat) (u : Value), fl[j]? = some u -> cells'[off' + j]? = some u) -> Qer w M cells' off' ys := by
  rcases hsrc with h | ⟨b, off, cells, T', fz, h1, h2, h3⟩
  ·subst h; exact ⟨[], by simp, .inl rfl, by simp, fun _ _ _ i x hx => by simp at hx⟩
  ·obtain ⟨fl, f1, f2, f3, f4, f5⟩ := QjN h3
   exact ⟨fl, by rw [f1, hs], .inr ⟨b, off, h1, fun j u hu => by simp [World.cell?, h2, f2 j u hu]⟩, f3, f5⟩
 have hnew : ∀ m, (Builtin.firstCells sz ys.length (.slice a2 m m2)).run P w = .ok fl.toArray w := fun m => Qgc fl hfl hfr m
 have hex : ∀ (r : Value) (w' : World), (∀ cs, (builtin .append #[T, T2] o.type cs (#[x, y].map ρ)).run P w = .ok (.value r) w') -> (execOp ρ o).run P w = .ok (.value r) w' := by
  intro r w' h
  have e : execOp ρ o = builtin .append #[T, T2] o.type (#[x, y].map fun | .const _ => true | _ => false) (#[x, y].map ρ) := by unfold execOp; rw [hop]; rfl
  rw [e]; exact h _
 have hred : ∀ (r : Value) (w' : World), (Builtin.append_ #[T, T2] o.type #[.slice a xs.length k, .slice a2 ys.length m2]).run P w = .ok r w' -> ∀ cs, (builtin .append #[T, T2] o.type cs (#[x, y].map ρ)).run P w = .ok (.value r) w' := by
  intro r w' h cs
  simp [builtin, hρ _ _ hx, hρ _ _ hy, h]
 by_cases hroom : xs.length + ys.length <= k
 · -- in place
  cases a with
  | none =>
   obtain ⟨rfl, rfl⟩ := hcase
   have hy0 : ys = [] := by cases ys with | nil => rfl | cons _ _ => simp at hroom
   subst hy0
   refine ⟨.slice none 0 0, w, M, F, hex _ _ (hred _ _ ?_), Qfc.refl ok, F1, F2', k1, k2, kd, ⟨by simp, none, 0, by simp, by simp, by simp⟩, F2, _, q1, fun _ h => h.elim, fun _ _ h => h, hRr, trivial⟩
   have hnew' := hnew 0
   simp at hfl; subst hfl
   simp only [List.length_nil] at hnew'
   simp [Builtin.append_, run_underlying (QdS hT), run_underlying (QdS hT2), Qd8 hT, Builtin.lenOf, hnew']
  | some ad =>
   obtain ⟨cells, E, s0, s1, s2, s3, s4⟩ := hcase
   obtain ⟨b, off, sp⟩ := ad
   simp at s0 s1 s2 s3 s4; subst s0
   have hfit : off + xs.length * sz + fl.length <= cells.size := by
    have : (xs.length + ys.length) * sz <= k * sz := Nat.mul_le_mul_right _ hroom
    rw [Nat.add_mul] at this; rw [hfl, hs] at *; omega
   have hst := run_storeCells_at P b (off + xs.length * sz) E fl 0 cells w s2 (by simpa using hfit) hf1
   simp only [Nat.add_zero] at hst
   have hb1 : F b := k1 b s1
   have hstep := QfR ok hb1 (cells.toList.take (off + xs.length * sz) ++ fl ++ cells.toList.drop (off + xs.length * sz + fl.length)).toArray
   have hsetF1 : Qfc w M F1 _ M F1 := QfR ⟨ok.bd, fun b hb => ok.sub b (k1 b hb)⟩ s1 (cells.toList.take (off + xs.length * sz) ++ fl ++ cells.toList.drop (off + xs.length * sz + fl.length)).toArray
   refine ⟨.slice (some ⟨b, off, none⟩) (xs.length + ys.length) k, _, M, F, hex _ _ (hred _ _ ?_), hstep, F1, F2', k1, k2, kd, ?_, F2, _, q1, fun _ h => h.elim, fun _ _ h => h, ?_, trivial⟩
   ·have hnew' := hnew ys.length
    simp [Builtin.append_, run_underlying (QdS hT), run_underlying (QdS hT2), Qd8 hT, Builtin.lenOf, hroom, hnew', QbE, hst]
   ·refine ⟨by simpa using hlen, some ⟨b, off, none⟩, k, by simp, by simpa using hroom, _, E, rfl, s1, setRow_heap w b _ _ E (0, 0) s2, ?_, ?_⟩
    ·simp only [List.size_toArray, List.length_append, List.length_take, List.length_drop, Array.length_toList]
     rw [hs] at s3 ⊢; omega
    ·refine Qio ?_ ?_
     ·intro j x hx
      obtain ⟨ecs, e1, e2⟩ := s4 j x hx
      refine ⟨ecs, fun t u hu => ?_, Rep.st e2 hstep.ext⟩
      have ht : t < ecs.length := by
       rcases Nat.lt_or_ge t ecs.length with h' | h'
       ·exact h'
       ·simp [List.getElem?_eq_none h'] at hu
      rw [Rep.len e2, hs] at ht
      have hj : j < xs.length := by
       rcases Nat.lt_or_ge j xs.length with h' | h'
       ·exact h'
       ·simp [List.getElem?_eq_none h'] at hx
      have hjl : (j + 1) * sz <= xs.length * sz := Nat.mul_le_mul_right _ hj
      rw [Nat.add_mul] at hjl
      have := e1 t u hu
      rw [hs] at this ⊢
      simp only [List.getElem?_toArray, List.append_assoc]
      rw [List.getElem?_append_left (by simp; omega), List.getElem?_take, if_pos (by omega)]
      simpa using this
     ·have := hfe (cells.toList.take (off + xs.length * sz) ++ fl ++ cells.toList.drop (off + xs.length * sz + fl.length)).toArray (off + xs.length * Rep.sz α) (fun j u hu => by
       have hj : j < fl.length := by
        rcases Nat.lt_or_ge j fl.length with h' | h'
        ·exact h'
        ·simp [List.getElem?_eq_none h'] at hu
       rw [hs]
       simp only [List.getElem?_toArray, List.append_assoc]
       rw [List.getElem?_append_right (by simp; omega), List.getElem?_append_left (by simp; omega)]
       simp only [List.length_take, Array.length_toList]
       rw [Nat.min_eq_left (by omega), Nat.add_sub_cancel_left]; exact hu)
      exact Qe7 this hstep.ext
   ·exact R.st hRr hstep.ext (fun b' hb' => setRow_other w b b' _ (fun e => kd b s1 (hF2 b (e ▸ hb'))))
 · -- a new block
  have hcap : Builtin.nextslicecap (xs.length + ys.length) k * by_ <= 2 ^ 48 := by
   have h1 := Ql2 (xs.length + ys.length) k (by omega)
   have h2 := Nat.mul_le_mul_right by_ h1
   rw [hb] at hlen; unfold QdA at hlen
   have : 2 * (xs.length + ys.length) * by_ = 2 * ((xs.length + ys.length) * by_) := by rw [Nat.mul_assoc]
   omega
  -- the old cells
  obtain ⟨ol, hol, hor, hoe⟩ : ∃ ol : List Value, ol.length = xs.length * sz /\ (xs.length = 0 \/ ∃ b off, a = some ⟨b, off, none⟩ /\ ∀ (j : Nat) (u : Value), ol[j]? = some u -> w.cell? ⟨b, off + j, none⟩ = some u) /\
    ∀ (cells' : Array Value) (off' : Nat), (∀ (j : Nat) (u : Value), ol[j]? = some u -> cells'[off' + j]? = some u) -> Qer w M cells' off' xs := by
   cases a with
   | none => obtain ⟨rfl, _⟩ := hcase; exact ⟨[], by simp, .inl rfl, fun _ _ _ i x hx => by simp at hx⟩
   | some ad =>
    obtain ⟨cells, E, s0, s1, s2, s3, s4⟩ := hcase
    obtain ⟨b, off, sp⟩ := ad
    simp at s0 s1 s2 s3 s4; subst s0
    obtain ⟨ol, f1, f2, f3, f4, f5⟩ := QjN s4
    exact ⟨ol, by rw [f1, hs], .inr ⟨b, off, rfl, fun j u hu => by simp [World.cell?, s2, f2 j u hu]⟩, f5⟩
  let nc := (xs.length + ys.length) + (w.tape w.drawn (.appendCap (xs.length + ys.length) k e)) % (2 ^ 63 - (xs.length + ys.length))
  let cells : Array Value := ol.toArray ++ fl.toArray ++ Builtin.zeroCells zs.toArray (nc - (xs.length + ys.length))
  have ok1 : Ok { w with drawn := w.drawn + 1 } M F := ⟨ok.bd, ok.sub⟩
  let w1 : World := { w with drawn := w.drawn + 1 }
  have hst1 : Qfc w M F w1 M F := QiY ok
  have hst2 := QfA ok1 (.cells cells e)
  have hst := hst1.trans hst2
  refine ⟨.slice (some ⟨w.heap.size, 0, none⟩) (xs.length + ys.length) nc, _, _, _, hex _ _ (hred _ _ ?_), hst, fun b => b = w.heap.size, F2', fun b h => .inr h, fun b h => .inl (k2 b h), fun b h h' => by have := ok.bd b (ok.sub b (k2 b h')); omega, ?_, F2, _, q1, fun _ h => h.elim, fun _ _ h => h, ?_, trivial⟩
  ·have ho : (Builtin.firstCells sz xs.length (.slice a xs.length k)).run P w1 = .ok ol.toArray w1 := Qgc ol hol (by
    rcases hor with h | ⟨b, off, h1, h2⟩
    ·exact .inl h
    ·exact .inr ⟨b, off, h1, h2⟩) _
   have hn : (Builtin.firstCells sz ys.length (.slice a2 ys.length m2)).run P w1 = .ok fl.toArray w1 := Qgc fl hfl (by
    rcases hfr with h | ⟨b, off, h1, h2⟩
    ·exact .inl h
    ·exact .inr ⟨b, off, h1, h2⟩) _
   have hf : (Question.appendCap (xs.length + ys.length) k e).forced = false := rfl
   have hcap' : ¬ (281474976710656 < Builtin.nextslicecap (xs.length + ys.length) k * i.bytes) := by rw [i3]; omega
   have hb0 : ¬ i.bytes = 0 := by omega
   simp only [Builtin.append_, List.getElem?_toArray]
   simp [run_underlying (QdS hT), run_underlying (QdS hT2), Qd8 hT, Builtin.lenOf, hroom, typeInfo, i1, hb0, hcap', choose, Sem.run, hf, Question.cut]
   simp only [show ∀ w : World, World.drew w = { w with drawn := w.drawn + 1 } from fun _ => rfl]
   rw [ho]
   simp only [Result.andThen_ok]
   rw [hn]
   simp only [Result.andThen_ok]
   simp [z1, z2, newRow, cells, nc]
   exact ⟨rfl, rfl⟩
  ·refine ⟨by simpa using hlen, some ⟨w.heap.size, 0, none⟩, nc, by simp, by simp [nc], cells, e, rfl, rfl, by simp, ?_, ?_⟩
   ·simp only [cells, Array.size_append, Qjv, List.size_toArray, hol, hfl, hzl, hs]
    have : nc * sz = (xs.length + ys.length) * sz + (nc - (xs.length + ys.length)) * sz := by rw [<- Nat.add_mul]; congr 1; simp [nc]
    have h2 : (xs.length + ys.length) * sz = xs.length * sz + ys.length * sz := Nat.add_mul _ _ _
    omega
   ·refine Qio (Qe7 (hoe cells 0 fun j u hu => ?_) hst.ext) (Qe7 (hfe cells _ fun j u hu => ?_) hst.ext)
    ·have hj : j < ol.length := by
      rcases Nat.lt_or_ge j ol.length with h' | h'
      ·exact h'
      ·simp [List.getElem?_eq_none h'] at hu
     simp only [cells, Array.append_assoc, Nat.zero_add]
     rw [Array.getElem?_append_left (by simpa using hj)]
     simpa using hu
    ·have hj : j < fl.length := by
      rcases Nat.lt_or_ge j fl.length with h' | h'
      ·exact h'
      ·simp [List.getElem?_eq_none h'] at hu
     simp only [cells, Array.append_assoc, Nat.zero_add]
     rw [Array.getElem?_append_right (by simp [hol, hs]), Array.getElem?_append_left (by simp [hol, hs]; omega)]
     simp only [List.size_toArray, hol, hs, Nat.add_sub_cancel_left]
     simpa using hu
  ·refine R.st hRr hst.ext (fun b hb => ?_)
   have := ok.bd b (ok.sub b (k2 b (hF2 b hb)))
   show (w.heap.push _)[b]? = _
   rw [Array.getElem?_push, if_neg (by omega)]
end
end Go.SL
namespace Go.SL
open Go
def Env.evs (L : Env) : List Operand -> Option (List Value)
 | [] => some []
 | x :: xs => match L.ev x with
  | some v => match Env.evs L xs with
   | some vs => some (v :: vs)
   | none => none
  | none => none
theorem Env.evs_map {L : Env} {ρ : Operand -> Value} (hρ : ∀ x u, L.ev x = some u -> ρ x = u) : ∀ {xs : List Operand} {vs : List Value}, L.evs xs = some vs -> xs.map ρ = vs
 | [], vs, h => by simp [Env.evs] at h; subst h; rfl
 | x :: xs, vs, h => by
  simp only [Env.evs] at h
  split at h
  ·rename_i v hv
   split at h
   ·rename_i us hu
    simp at h; subst h
    simp [hρ _ _ hv, Env.evs_map hρ hu]
   ·simp at h
  ·simp at h
def Env.evp (L : Env) : List (Nat × Operand) -> Option (List (Nat × Value))
 | [] => some []
 | (i, x) :: xs => match L.ev x with
  | some v => match Env.evp L xs with
   | some vs => some ((i, v) :: vs)
   | none => none
  | none => none
theorem Env.evp_map {L : Env} : ∀ {xs : List (Nat × Operand)} {vs : List (Nat × Value)}, L.evp xs = some vs -> ∀ ρ : Operand -> Value, (∀ x u, L.ev x = some u -> ρ x = u) -> xs.toArray.map (fun (i, x) => (i, ρ x)) = vs.toArray
 | [], vs, h, ρ, hρ => by simp [Env.evp] at h; subst h; simp
 | (i, x) :: xs, vs, h, ρ, hρ => by
  simp only [Env.evp] at h
  split at h
  ·rename_i v hv
   split at h
   ·rename_i us hu
    simp at h; subst h
    have := Env.evp_map hu ρ hρ
    simp at this
    simp [hρ _ _ hv, this]
   ·simp at h
  ·simp at h
def Qam (P : Program) (f : FuncId) : Bool :=
 match P.funcs[f]? with
 | some fn => !(fn.name == "runtime.NumGoroutine") && fn.body.isSome
 | none => false
theorem QgW {P : Program} {f : FuncId} (h : Qam P f = true) (args : Array Value) (w : World) : (callFunc f args).run P w = .ok (.enter f args) w := by
 unfold Qam at h
 cases hf : P.funcs[f]? with
 | none => simp [hf] at h
 | some fn =>
  rw [hf] at h
  simp only [Bool.and_eq_true, Bool.not_eq_true'] at h
  have h2 : fn.body.isNone = false := by cases hb : fn.body <;> simp_all
  have h3 : ¬ fn.name = "runtime.NumGoroutine" := by simpa using h.1
  have h4 : ¬ fn.body = none := by intro e; simp [e] at h2
  simp [callFunc, hf, h3, h4]
theorem OpC.fn {P : Program} {L : Env} {o : Oper} {f : FuncId} {xs : Array Operand} {ts : Array TypeId} {vs : List Value} (hop : o.op = .call { callee := .value (.func f), args := xs, argTypes := ts }) (hf : Qam P f = true)
  (hx : L.evs xs.toList = some vs) : OpC L P o f vs.toArray := fun ρ hρ w => by
 have e1 : xs.map ρ = vs.toArray := by
  have := Env.evs_map hρ hx
  apply Array.ext'
  simpa using this
 have e : execOp ρ o = callFunc f (#[] ++ xs.map ρ ++ #[]) := by
  unfold execOp; rw [hop]
  simp only [resolve]
  rw [hρ (.func f) _ rfl]
  rfl
 rw [e, e1, QgW hf]
 simp
theorem OpC.clo {P : Program} {L : Env} {o : Oper} {f : FuncId} {t : Nat} {xs : Array Operand} {ts : Array TypeId} {vs as : List Value} {fs cs : Array Value} (hop : o.op = .call { callee := .value (.tmp t), args := xs, argTypes := ts })
  (ht : L.get t = some (.func (.func f) fs cs)) (hf : Qam P f = true)
  (hx : L.evs xs.toList = some vs) (ha : fs.toList ++ vs ++ cs.toList = as) : OpC L P o f as.toArray := fun ρ hρ w => by
 have e1 : xs.map ρ = vs.toArray := by
  have := Env.evs_map hρ hx
  apply Array.ext'
  simpa using this
 have e : execOp ρ o = callFunc f (fs ++ xs.map ρ ++ cs) := by
  unfold execOp; rw [hop]
  simp only [resolve]
  rw [hρ (.tmp t) _ ht]
  rfl
 rw [e, e1, QgW hf]
 have : fs ++ vs.toArray ++ cs = as.toArray := by rw [<- ha]; apply Array.ext'; simp
 rw [this]
def cx (P : Program) (fn : Func) (w0 : World) (M0 F0 : Blk) {γ : Type} (I : γ -> Prop) (V : γ -> Value) (B : γ -> List SP) : Cx :=
 ⟨P, fn.ntmps, w0, M0, F0, bodyPost P fn (fun e w' => ∃ g M' F', e = .returned (V g) /\ I g /\ Qfc w0 M0 F0 w' M' F' /\ Qbi (B g) w' M' F')⟩
def QjG : Nat -> List Value -> Env
 | _, [] => []
 | n, v :: vs => (n, v) :: QjG (n + 1) vs
theorem QjD : ∀ (vs : List Value) (n t : Nat) (v : Value), (QjG n vs).get t = some v -> n <= t /\ vs[t - n]? = some v
 | [], n, t, v, h => by simp [QjG, Env.get] at h
 | x :: vs, n, t, v, h => by
  simp only [QjG, Env.get] at h
  cases e : Nat.beq t n with
  | true =>
   rw [e] at h
   have := Nat.eq_of_beq_eq_true e
   subst this; simp at h; subst h
   simp
  | false =>
   rw [e] at h
   obtain ⟨h1, h2⟩ := QjD vs (n + 1) t v h
   refine ⟨by omega, ?_⟩
   rw [show t - n = (t - (n + 1)) + 1 by omega]
   simpa using h2
theorem QnA {P : Program} {f : FuncId} {fn : Func} {c : Code} {args : List Value} {A : List SP} {γ : Type} {I : γ -> Prop} {V : γ -> Value} {B : γ -> List SP}
  (hf : P.funcs[f]? = some fn) (hb : fn.body = some c) (hn : Nat.ble args.length fn.ntmps = true)
  (h : ∀ w0 M0 F0, JK (cx P fn w0 M0 F0 I V B) [.code c] (QjG 0 args) A) : FT P f args.toArray A I V B := fun w M F ok hs => by
 refine calls_of_wp hf hb ?_
 have hn' := Nat.le_of_ble_eq_true hn
 have := h w M F { tmps := args.toArray ++ Array.replicate (fn.ntmps - args.toArray.size) undef, defers := [] } w M F ⟨Qfc.refl ok, by simp [cx]; omega, rfl, ?_, hs⟩
 ·simp only [wpK] at this
  refine wp_mono this ?_
  intro e a w' hq
  cases e <;> exact hq
 ·intro t v hv
  obtain ⟨_, h2⟩ := QjD _ _ _ _ hv
  simp at h2
  have ht : t < args.length := by
   rcases Nat.lt_or_ge t args.length with h' | h'
   ·exact h'
   ·simp [List.getElem?_eq_none h'] at h2
  simp only [Array.getD_eq_getD_getElem?]
  rw [Array.getElem?_append_left (by simpa using ht)]
  simp [h2]
inductive Qle (P : Program) (L : Env) (A : List SP) : List ResultVar -> List Value -> Prop
 | nil : Qle P L A [] []
 | tmp {t v rs vs} (h : L.get t = some v) (r : Qle P L A rs vs) : Qle P L A (.tmp t :: rs) (v :: vs)
 | cell1 {t T p n R cs v rs vs} (i : Nat) (h : L.get t = some p) (hT : Qbd P T = some (false, n)) (hA : A[i]? = some R) (hR : QgK R p cs) (hv : cs[0]? = some v) (r : Qle P L A rs vs) : Qle P L A (.cell t T :: rs) (v :: vs)
 | cellN {t T p n R cs rs vs} (i : Nat) (h : L.get t = some p) (hT : Qbd P T = some (true, n)) (hA : A[i]? = some R) (hR : QgK R p cs) (hn : cs.length = n) (r : Qle P L A rs vs) : Qle P L A (.cell t T :: rs) (.agg cs.toArray :: vs)
theorem Qle.run {P : Program} {L : Env} {A : List SP} {rs vs} (h : Qle P L A rs vs) {a : Act} {w : World} {M F : Blk} (hL : L.sat a) (hs : Qbi A w M F) :
  (rs.mapM fun | .tmp t => pure (a.tmps.getD t undef) | .cell q t => do loadVar t (<- asAddr (a.tmps.getD q undef)) : Sem (List Value)).run P w = .ok vs w := by
 induction h with
 | nil => rfl
 | tmp h r ih => simp only [List.mapM_cons, Sem.run_bind, Sem.run_pure, hL _ _ h, Result.andThen_ok, ih]
 | cell1 i h hT hA hR hv r ih =>
  obtain ⟨b, off, hp, hc⟩ := hR (Qbe hA hs)
  have := Qjg (P := P) hT (hc 0 _ hv) hp
  simp only [Instr.loadAt, Sem.run_bind] at this
  subst hp
  have ha : asAddr (Value.pointer (some ⟨b, off, none⟩)) = pure ⟨b, off, none⟩ := rfl
  simp only [List.mapM_cons, Sem.run_bind, hL _ _ h, ha, Sem.run_pure, Result.andThen_ok]
  simp only [Instr.sureAddr, Sem.run_pure, Result.andThen_ok] at this
  rw [this]
  simp only [Result.andThen_ok]
  rw [ih]; rfl
 | cellN i h hT hA hR hn r ih =>
  obtain ⟨b, off, hp, hc⟩ := hR (Qbe hA hs)
  have := Qi9 (P := P) hT hn hc hp
  simp only [Instr.loadAt, Sem.run_bind] at this
  subst hp
  have ha : asAddr (Value.pointer (some ⟨b, off, none⟩)) = pure ⟨b, off, none⟩ := rfl
  simp only [List.mapM_cons, Sem.run_bind, hL _ _ h, ha, Sem.run_pure, Result.andThen_ok]
  simp only [Instr.sureAddr, Sem.run_pure, Result.andThen_ok] at this
  rw [this]
  simp only [Result.andThen_ok]
  rw [ih]; rfl
def Qqm : List Value -> Value
 | [v] => v
 | vs => .tuple vs.toArray
theorem Qjh {P : Program} {fn : Func} {L : Env} {A : List SP} {rs vs} (hr : fn.results = rs.toArray) (h : Qle P L A rs vs) {a : Act} {w : World} {M F : Blk} (hL : L.sat a) (hs : Qbi A w M F) :
  (results fn a.tmps).run P w = .ok (Qqm vs) w := by
 have := Qle.run h hL hs
 unfold results
 rw [hr]
 simp only [List.mapM_toArray, Sem.run_bind, Sem.run_map]
 erw [this]
 match vs with
 | [] => rfl
 | [v] => rfl
 | _ :: _ :: _ => simp [Qqm]
section
variable {P : Program} {fn : Func} {w0 : World} {M0 F0 : Blk} {γ : Type} {I : γ -> Prop} {V : γ -> Value} {B : γ -> List SP} {ks : List Kn} {L : Env} {A : List SP}
theorem Qm3 {rs vs} (g : γ) (hr : fn.results = rs.toArray) (h : Qle P L A rs vs) (hV : V g = Qqm vs) (hI : I g) (hE : Ent A (B g)) : JK (cx P fn w0 M0 F0 I V B) (.code .ret :: ks) L A :=
 QqF fun a w M F st => by
  obtain ⟨M', F', s, hs⟩ := hE w M F st.step.ok st.sp
  exact ⟨st.df, _, Qjh hr h st.sat st.sp, g, M', F', by rw [hV], hI, st.step.trans s, hs⟩
theorem QpC {rs vs} (g : γ) (hr : fn.results = rs.toArray) (h : Qle P L A rs vs) (hV : V g = Qqm vs) (hI : I g) (hE : Ent A (B g)) : JK (cx P fn w0 M0 F0 I V B) [] L A :=
 QqI fun a w M F st => by
  obtain ⟨M', F', s, hs⟩ := hE w M F st.step.ok st.sp
  exact ⟨st.df, _, Qjh hr h st.sat st.sp, g, M', F', by rw [hV], hI, st.step.trans s, hs⟩
end
end Go.SL
namespace Go.SL
open Go
instance : RepE Int where
 sz := 1
 bytes := 8
 pos := by decide
 bpos := by decide
 rd _ _ cs x := cs = [.int .i64 x] /\ Qac x
 len := by rintro w M cs x ⟨rfl, _⟩; rfl
 one := by rintro w M cs x ⟨rfl, _⟩ v hv; simp at hv; subst hv; rfl
 st := fun h _ => h
 ex x := [.int .i64 x]
 ok := Qac
 ex_eq := fun h => h
 rd_ex := fun h => ⟨rfl, h⟩
instance : RepE Bool where
 sz := 1
 bytes := 1
 pos := by decide
 bpos := by decide
 rd _ _ cs x := cs = [.bool x]
 len := by rintro w M cs x rfl; rfl
 one := by rintro w M cs x rfl v hv; simp at hv; subst hv; rfl
 st := fun h _ => h
 ex x := [.bool x]
 ok _ := True
 ex_eq := fun h => ⟨h, trivial⟩
 rd_ex := fun _ => rfl
instance : RepE (BitVec 64) where
 sz := 1
 bytes := 8
 pos := by decide
 bpos := by decide
 rd _ _ cs x := cs = [u64 x]
 len := by rintro w M cs x rfl; rfl
 one := by rintro w M cs x rfl v hv; simp at hv; subst hv; rfl
 st := fun h _ => h
 ex x := [u64 x]
 ok _ := True
 ex_eq := fun h => ⟨h, trivial⟩
 rd_ex := fun _ => rfl
theorem Qfa {α : Type} [Rep α] {w M c} {xs : List α} (h : QiJ w M c xs) : c.oneCell' = true := by
 obtain ⟨_, a, k, rfl, _⟩ := h; rfl
instance instRepList {α : Type} [Rep α] : Rep (List α) where
 sz := 1
 bytes := 24
 pos := by decide
 bpos := by decide
 rd w M cs xs := ∃ c, cs = [c] /\ QiJ w M c xs
 len := by rintro w M cs x ⟨c, rfl, _⟩; rfl
 one := by rintro w M cs x ⟨c, rfl, h⟩ v hv; simp at hv; subst hv; exact Qfa h
 st := fun ⟨c, h1, h2⟩ e => ⟨c, h1, Qfm h2 e⟩
theorem QfB {α : Type} [Rep α] {C : Cx} {X : Act -> World -> Prop} {L : Env} {A : List SP} {c : Value} {xs : List (List α)} (i m : Nat) (hA : A[m]? = some (sl c xs)) (hi : i < xs.length)
  (h : ∀ a k, JJ C X L (pv (QfO 1 c i) [.slice a (xs.getD i []).length k] :: sl (.slice a (xs.getD i []).length k) (xs.getD i []) :: A)) : JJ C X L A := by
 refine Qh7 i m hA hi [] fun cs => ?_
 intro a w M F st
 obtain ⟨F1, F2, k1, k2, kd, hp, F3, F4, k3, k4, kd', hr, hs⟩ := st.sp
 obtain ⟨c', rfl, hsl⟩ := hr
 obtain ⟨hb, ao, k, rfl, hk⟩ := hsl
 exact h ao k a w M F ⟨st.step, st.sz, st.df, st.sat, F1, F2, k1, k2, kd, hp, F3, F4, k3, k4, kd', ⟨hb, ao, k, rfl, hk⟩, hs⟩
end Go.SL
namespace Go.SL
open Go
abbrev GV := Nat -> List Value
def GV.upd (G : GV) (i : Nat) (x : List Value) : GV := fun j => bif Nat.beq j i then x else G j
def OpX (P : Program) (L : Env) (A : List SP) (o : Oper) (V : List Value -> Value) (B : List Value -> List SP) : Prop :=
 ∀ (a : Act) (w : World) (M F : Blk) (next : Act -> World -> Prop) (Q : Exit -> Act -> World -> Prop), (∀ x ∈ o.op.operands, ∀ u, L.ev x = some u -> a.eval x = u) -> Ok w M F -> Qbi A w M F ->
  (∀ g w' M' F', Qfc w M F w' M' F' -> Qbi (B g) w' M' F' -> next (a.put o.dst (V g)) w') -> o.wp P a w next Q
theorem QiK {L : Env} {a : Act} {o : Oper} (hs : ∀ cs b, o.op ≠ .select cs b) (h : ∀ x ∈ o.op.operands, ∀ u, L.ev x = some u -> a.eval x = u) :
  ∃ ρ : Operand -> Value, (∀ x u, L.ev x = some u -> ρ x = u) /\ execOp a.eval o = execOp ρ o := by
 classical
 refine ⟨fun x => if x ∈ o.op.operands then a.eval x else (L.ev x).getD undef, fun x u hx => ?_, ?_⟩
 ·by_cases hm : x ∈ o.op.operands
  ·simp [hm, h x hm u hx]
  ·simp [hm, hx]
 ·exact execOp_congr o hs fun x hx => by simp [hx]
theorem OpX.ofV {P L A o v} (hs : ∀ cs b, o.op ≠ .select cs b) (h : OpV P L A o v) : OpX P L A o (fun _ => v) (fun _ => A) := by
 intro a w M F next Q hx ok hsp hn
 obtain ⟨ρ, h1, h2⟩ := QiK hs hx
 rw [Oper.wp, h2, h ρ h1 w M F ok hsp, Oper.upon_value]
 exact hn [] w M F (Qfc.refl ok) hsp
theorem OpX.ofA {P L A o} {V : Value -> Value} {B : Value -> List SP} (hs : ∀ cs b, o.op ≠ .select cs b) (h : OpA P L A o V B) : OpX P L A o (fun g => V (g.getD 0 undef)) (fun g => B (g.getD 0 undef)) := by
 intro a w M F next Q hx ok hsp hn
 obtain ⟨ρ, h1, h2⟩ := QiK hs hx
 obtain ⟨g, w', M', F', hr, hst, hsp'⟩ := h ρ h1 w M F ok hsp
 rw [Oper.wp, h2, hr, Oper.upon_value]
 exact hn [g] w' M' F' hst hsp'
theorem OpX.ofS {P L A o B v} (hs : ∀ cs b, o.op ≠ .select cs b) (hd : o.dst = none) (h : OpS P L A o B) : OpX P L A o (fun _ => v) (fun _ => B) := by
 intro a w M F next Q hx ok hsp hn
 obtain ⟨ρ, h1, h2⟩ := QiK hs hx
 obtain ⟨w', M', F', hr, hst, hsp'⟩ := h ρ h1 w M F ok hsp
 rw [Oper.wp, h2, hr, Oper.upon_skip]
 have := hn [] w' M' F' hst hsp'
 rw [hd] at this ⊢; exact this
def SP.fact (φ : Prop) : SP where
 h _ _ _ := φ
 p := true
 st := fun h _ _ => h
 up := fun h _ => h
 pers := fun _ => fun h => h
theorem Qht {A : List SP} {w M F} {φ : Prop} (hφ : φ) (h : Qbi A w M F) : Qbi (SP.fact φ :: A) w M F :=
 ⟨fun _ => False, F, fun _ h => h.elim, fun _ h => h, fun _ h _ => h, hφ, h⟩
theorem OpX.ofC {P L o f args} {γ : Type} {I : γ -> Prop} {V : γ -> Value} {B : γ -> List SP} {A : List SP} (enc : γ -> List Value) (dec : List Value -> γ) (hed : ∀ g, dec (enc g) = g) (hs : ∀ cs b, o.op ≠ .select cs b) (hc : OpC L P o f args) (hf : FT P f args A I V B) :
  OpX P L A o (fun g => V (dec g)) (fun g => SP.fact (I (dec g)) :: B (dec g)) := by
 intro a w M F next Q hx ok hsp hn
 obtain ⟨ρ, h1, h2⟩ := QiK hs hx
 rw [Oper.wp, h2, hc ρ h1 w, Oper.upon_enter]
 refine (hf w M F ok hsp).mono ?_
 rintro e w' ⟨g, M', F', rfl, hI, hst, hsp'⟩
 have := hn (enc g) w' M' F' hst
 simp only [hed] at this
 exact this (Qht hI hsp')
structure Qdj where
 prod : Option Nat
 cons : Option Nat
 deps : List Nat
 R : List (List Value) -> SP
structure OpD where
 deps : List Nat
 V : List (List Value) -> Value
 uses : List Nat
 wanted : Bool
def Qdj.at (s : Qdj) (G : GV) : SP := s.R (s.deps.map G)
def OpD.val (o : OpD) (G : GV) : Value := o.V (o.deps.map G)
def Qe0 (ops : Array Oper) (ds : List OpD) (G : GV) (p : Nat -> Bool) : Nat -> Env
 | 0 => []
 | n + 1 => match bif p n then (ops[n]?).bind (·.dst) else none with
  | some d => (d, ((ds[n]?).map (·.val G)).getD undef) :: Qe0 ops ds G p n
  | none => Qe0 ops ds G p n
def Qgn (ops : Array Oper) (i : Nat) : List Nat := ((ops[i]?).map fun o => (o.after.toList.filter (Region.binds .any)).map (·.on)).getD []
def Qch (done : Nat -> Bool) (s : Qdj) : Bool :=
 (match s.prod with | none => true | some i => done i) && (match s.cons with | none => true | some i => !done i)
def QfP (ds : List OpD) (i : Nat) : List Nat := ((ds[i]?).map (·.uses)).getD []
def pick (S : List Qdj) (p : Nat -> Qdj -> Bool) : List Qdj := (S.zipIdx.filter fun (s, k) => p k s).map (·.1)
def Qh2 (ds : List OpD) (i : Nat) (k : Nat) (s : Qdj) : Bool := (QfP ds i).contains k
def QhF (ds : List OpD) (i : Nat) (k : Nat) (s : Qdj) : Bool := ((QfP ds i).contains k && s.cons != some i) || s.prod == some i
def Qig (ops : Array Oper) (o : Oper) : List Nat := o.looksAt ops
theorem QfN {S : List Qdj} {p q : Nat -> Qdj -> Bool} (h : ∀ s k, (s, k) ∈ S.zipIdx -> p k s = q k s) : pick S p = pick S q := by
 unfold pick
 congr 1
 apply List.filter_congr
 rintro ⟨s, k⟩ hm
 exact h s k hm
def Qa4 (n : Nat) (S : List Qdj) (p : Nat -> Qdj -> Bool) : List Qdj := ((S.zipIdx n).filter fun (s, k) => p k s).map (·.1)
theorem QfQ (S : List Qdj) (p) : pick S p = Qa4 0 S p := rfl
theorem Qib {f : Qdj -> SP} {p q : Nat -> Qdj -> Bool} : ∀ (S : List Qdj) (n : Nat) {w M F}, Qbi ((Qa4 n S p).map f) w M F ->
  ∃ F1 F2 : Blk, (∀ b, F1 b -> F b) /\ (∀ b, F2 b -> F b) /\ (∀ b, F1 b -> F2 b -> False) /\ Qbi ((Qa4 n S (fun k s => p k s && q k s)).map f) w M F1 /\ Qbi ((Qa4 n S (fun k s => p k s && !q k s)).map f) w M F2
 | [], n, w, M, F, h => ⟨fun _ => False, fun _ => False, fun _ h => h.elim, fun _ h => h.elim, fun _ h _ => h, trivial, trivial⟩
 | s :: S, n, w, M, F, h => by
  have e : ∀ r : Nat -> Qdj -> Bool, Qa4 n (s :: S) r = bif r n s then s :: Qa4 (n + 1) S r else Qa4 (n + 1) S r := fun r => by
   unfold Qa4
   rw [List.zipIdx_cons, List.filter_cons]
   cases h : r n s <;> simp [h]
  rw [e] at h
  simp only [e]
  cases hp : p n s with
  | false =>
   rw [hp] at h
   simpa using Qib S (n + 1) h
  | true =>
   rw [hp] at h
   simp only [cond_true, List.map_cons] at h
   obtain ⟨A1, A2, a1, a2, ad, aR, aS⟩ := h
   obtain ⟨F1, F2, h1, h2, hd, k1, k2⟩ := Qib (p := p) (q := q) S (n + 1) aS
   cases hq : q n s with
   | true =>
    simp only [Bool.true_and, Bool.not_true, cond_true, cond_false, List.map_cons]
    refine ⟨fun b => A1 b \/ F1 b, F2, ?_, fun b hb => a2 b (h2 b hb), ?_, ⟨A1, F1, fun b h => .inl h, fun b h => .inr h, fun b h h' => ad b h (h1 b h'), aR, k1⟩, k2⟩
    ·rintro b (h | h)
     ·exact a1 b h
     ·exact a2 b (h1 b h)
    ·rintro b (h | h) h'
     ·exact ad b h (h2 b h')
     ·exact hd b h h'
   | false =>
    simp only [Bool.true_and, Bool.not_false, cond_true, cond_false, List.map_cons]
    refine ⟨F1, fun b => A1 b \/ F2 b, fun b hb => a2 b (h1 b hb), ?_, ?_, k1, ⟨A1, F2, fun b h => .inl h, fun b h => .inr h, fun b h h' => ad b h (h2 b h'), aR, k2⟩⟩
    ·rintro b (h | h)
     ·exact a1 b h
     ·exact a2 b (h2 b h)
    ·rintro b h (h' | h')
     ·exact ad b h' (h1 b h)
     ·exact hd b h h'
theorem QhS {f : Qdj -> SP} {p q : Nat -> Qdj -> Bool} (hpq : ∀ k s, ¬ (p k s = true /\ q k s = true)) : ∀ (S : List Qdj) (n : Nat) {w M} {F F1 F2 : Blk}, (∀ b, F1 b -> F b) -> (∀ b, F2 b -> F b) -> (∀ b, F1 b -> F2 b -> False) ->
  Qbi ((Qa4 n S p).map f) w M F1 -> Qbi ((Qa4 n S q).map f) w M F2 -> Qbi ((Qa4 n S (fun k s => p k s || q k s)).map f) w M F
 | [], n, w, M, F, F1, F2, h1, h2, hd, hp, hq => trivial
 | s :: S, n, w, M, F, F1, F2, h1, h2, hd, hp, hq => by
  have e : ∀ r : Nat -> Qdj -> Bool, Qa4 n (s :: S) r = bif r n s then s :: Qa4 (n + 1) S r else Qa4 (n + 1) S r := fun r => by
   unfold Qa4
   rw [List.zipIdx_cons, List.filter_cons]
   cases h : r n s <;> simp [h]
  rw [e] at hp hq ⊢
  cases ep : p n s with
  | true =>
   have eq : q n s = false := by cases h : q n s with | false => rfl | true => exact absurd ⟨ep, h⟩ (hpq n s)
   rw [ep] at hp; rw [eq] at hq
   simp only [cond_true, cond_false, List.map_cons, Bool.true_or] at hp hq ⊢
   obtain ⟨A1, A2, a1, a2, ad, aR, aS⟩ := hp
   refine ⟨A1, fun b => A2 b \/ F2 b, fun b h => h1 b (a1 b h), ?_, ?_, aR, QhS hpq S (n + 1) (fun b h => .inl h) (fun b h => .inr h) (fun b h h' => hd b (a2 b h) h') aS hq⟩
   ·rintro b (h | h)
    ·exact h1 b (a2 b h)
    ·exact h2 b h
   ·rintro b h (h' | h')
    ·exact ad b h h'
    ·exact hd b (a1 b h) h'
  | false =>
   rw [ep] at hp
   cases eq : q n s with
   | true =>
    rw [eq] at hq
    simp only [cond_true, cond_false, List.map_cons, Bool.false_or] at hp hq ⊢
    obtain ⟨A1, A2, a1, a2, ad, aR, aS⟩ := hq
    refine ⟨A1, fun b => F1 b \/ A2 b, fun b h => h2 b (a1 b h), ?_, ?_, aR, QhS hpq S (n + 1) (fun b h => .inl h) (fun b h => .inr h) (fun b h h' => hd b h (a2 b h')) hp aS⟩
    ·rintro b (h | h)
     ·exact h1 b h
     ·exact h2 b (a2 b h)
    ·rintro b h (h' | h')
     ·exact hd b h' (a1 b h)
     ·exact ad b h h'
   | false =>
    rw [eq] at hq
    simp only [cond_false, Bool.or_false] at hp hq ⊢
    exact QhS hpq S (n + 1) h1 h2 hd hp hq
theorem QeB (L1 L2 : Env) (t : Nat) : Env.get (L1 ++ L2) t = match Env.get L1 t with | some v => some v | none => Env.get L2 t := by
 induction L1 with
 | nil => rfl
 | cons x L1 ih =>
  obtain ⟨s, v⟩ := x
  simp only [List.cons_append, Env.get]
  cases Nat.beq t s <;> simp [ih]
theorem QeJ {ops : Array Oper} {ds : List OpD} {G G' : GV} {p q : Nat -> Bool} {t : Nat} : ∀ (n : Nat), (∀ j, j < n -> (ops[j]?).bind (·.dst) = some t -> p j = q j /\ (p j = true -> ((ds[j]?).map (·.val G)).getD undef = ((ds[j]?).map (·.val G')).getD undef)) ->
  (Qe0 ops ds G p n).get t = (Qe0 ops ds G' q n).get t
 | 0, _ => rfl
 | n + 1, h => by
  have ih := QeJ (G := G) (G' := G') n (fun j hj hd => h j (by omega) hd)
  simp only [Qe0]
  cases hd : (ops[n]?).bind (·.dst) with
  | none => cases p n <;> cases q n <;> simpa using ih
  | some d =>
   by_cases hdt : d = t
   ·subst hdt
    obtain ⟨e1, e2⟩ := h n (by omega) hd
    rw [<- e1]
    cases hp : p n with
    | false => simpa using ih
    | true => simp [Env.get, e2 hp]
   ·have hb : Nat.beq t d = false := by cases e : Nat.beq t d with | false => rfl | true => exact absurd (Nat.eq_of_beq_eq_true e).symm hdt
    cases p n <;> cases q n <;> simp [Env.get, hb, ih]
theorem QgF {ops : Array Oper} {ds : List OpD} {G : GV} {p : Nat -> Bool} {t i : Nat} (hi : (ops[i]?).bind (·.dst) = some t) (hp : p i = true) : ∀ (n : Nat), i < n -> (∀ j, i < j -> j < n -> (ops[j]?).bind (·.dst) = some t -> p j = false) ->
  (Qe0 ops ds G p n).get t = some (((ds[i]?).map (·.val G)).getD undef)
 | 0, h, _ => by omega
 | n + 1, h, hj => by
  simp only [Qe0]
  by_cases e : i = n
  ·subst e
   rw [hp, hi]
   simp [Env.get]
  ·have ih := QgF (ds := ds) (G := G) hi hp n (by omega) (fun j h1 h2 h3 => hj j h1 (by omega) h3)
   cases hd : (ops[n]?).bind (·.dst) with
   | none => cases p n <;> simpa using ih
   | some d =>
    by_cases hdt : d = t
    ·subst hdt
     rw [hj n (by omega) (by omega) hd]
     simpa using ih
    ·have hb : Nat.beq t d = false := by cases e : Nat.beq t d with | false => rfl | true => exact absurd (Nat.eq_of_beq_eq_true e).symm hdt
     cases p n <;> simp [Env.get, hb, ih]
def QoF (v : Value) : Option Bool := match v with | .bool x => some x | _ => none
def isB (v : Value) (b : Bool) : Bool := QoF v == some b
def QjB (C : Cx) (L : Env) (ops : Array Oper) (ds : List OpD) (S : List Qdj) (i : Nat) (o : Oper) (d : OpD) : Prop :=
 (match o.guard with
  | none => d.wanted = true
  | some (j, b) => ∃ dj, (ops[j]?).bind (·.dst) = some dj /\ Nat.blt dj C.n = true /\ ∀ G : GV, ∃ v, (Qe0 ops ds G (fun k => Nat.blt k i) ops.size ++ L).get dj = some v /\ isB v b = d.wanted) /\
 (bif d.wanted then ∀ G : GV, OpX C.P (Qe0 ops ds G (fun k => Nat.blt k i) ops.size ++ L) ((pick S (Qh2 ds i)).map (·.at G)) o (fun g => d.val (G.upd i g)) (fun g => (pick S (QhF ds i)).map (·.at (G.upd i g)))
  else (∀ G, d.val G = undef) /\ d.uses = [] /\ S.all (fun s => s.prod != some i) = true)
def QiC (C : Cx) (L : Env) (ops : Array Oper) (ds : List OpD) (S : List Qdj) : Nat -> List Oper -> List OpD -> Prop
 | i, o :: os, d :: ds' => QjB C L ops ds S i o d /\ QiC C L ops ds S (i + 1) os ds'
 | _, _, _ => True
theorem Qis {C L ops ds S} : ∀ (os : List Oper) (ds' : List OpD) (n i : Nat) (o : Oper) (d : OpD), QiC C L ops ds S n os ds' -> os[i]? = some o -> ds'[i]? = some d -> QjB C L ops ds S (n + i) o d
 | [], _, _, _, _, _, _, h, _ => by simp at h
 | _ :: _, [], _, _, _, _, _, _, h => by simp at h
 | o :: os, d :: ds', n, 0, o', d', hg, h1, h2 => by simp at h1 h2; subst h1; subst h2; exact hg.1
 | o :: os, d :: ds', n, i + 1, o', d', hg, h1, h2 => by
  have := Qis os ds' (n + 1) i o' d' hg.2 (by simpa using h1) (by simpa using h2)
  rwa [show n + 1 + i = n + (i + 1) by omega] at this
section
variable {C : Cx} {ks : List Kn} {L : Env} {A : List SP} {ops : Array Oper} {ds : List OpD} {S : List Qdj} {pre : List (List Nat)}
structure Chk (C : Cx) (ops : Array Oper) (ds : List OpD) (pre : List (List Nat)) (S : List Qdj) : Prop where
 len : ds.length = ops.size
 e1 : ∀ i : Nat, i < ops.size -> ∀ j ∈ Qgn ops i, j < i /\ j ∈ pre.getD i []
 e2 : ∀ i : Nat, i < ops.size -> ∀ j ∈ pre.getD i [], j < i /\ (j ∈ Qgn ops i \/ ∃ k ∈ Qgn ops i, j ∈ pre.getD k [])
 sel : ∀ (i : Nat) (o : Oper), ops[i]? = some o -> ∀ cs b, o.op ≠ .select cs b
 dst : ∀ (i : Nat) (o : Oper) (d : Nat), ops[i]? = some o -> o.dst = some d -> Nat.blt d C.n = true
 grd : ∀ (i : Nat) (o : Oper) (j : Nat) (b : Bool), ops[i]? = some o -> o.guard = some (j, b) -> j ∈ pre.getD i []
 tmp : ∀ (i : Nat) (o : Oper), ops[i]? = some o -> ∀ j : Nat, j < ops.size -> i ≠ j -> ∀ d, (ops[j]?).bind (·.dst) = some d -> j ∈ pre.getD i [] \/ i ∈ pre.getD j [] \/ (d ∉ Qig ops o /\ o.dst ≠ some d)
 val : ∀ (i : Nat) (d : OpD), ds[i]? = some d -> ∀ j ∈ d.deps, j = i \/ j ∈ pre.getD i []
 use : ∀ i : Nat, i < ops.size -> ∀ (s : Qdj) (k : Nat), (s, k) ∈ S.zipIdx -> k ∈ QfP ds i -> (∀ j, s.prod = some j -> j ∈ pre.getD i []) /\ (∀ j, s.cons = some j -> j = i \/ i ∈ pre.getD j [])
 con : ∀ i : Nat, i < ops.size -> ∀ (s : Qdj) (k : Nat), (s, k) ∈ S.zipIdx -> s.cons = some i -> k ∈ QfP ds i
 dep : ∀ i : Nat, i < ops.size -> ∀ (s : Qdj) (k : Nat), (s, k) ∈ S.zipIdx -> i ∈ s.deps -> ∃ j, s.prod = some j /\ (i = j \/ i ∈ pre.getD j [])
def Qho (ops : Array Oper) (D : Nat -> Bool) : Prop := ∀ i, D i = true -> i < ops.size /\ ∀ j ∈ Qgn ops i, D j = true
theorem QjS (ck : Chk C ops ds pre S) {D : Nat -> Bool} (hD : Qho ops D) : ∀ n i, i < n -> i < ops.size -> (∀ j ∈ Qgn ops i, D j = true) -> ∀ j ∈ pre.getD i [], D j = true
 | 0, i, h, _, _ => by omega
 | n + 1, i, h, hi, hd => fun j hj => by
  obtain ⟨_, h1 | ⟨k, hk, hjk⟩⟩ := ck.e2 i hi j hj
  ·exact hd j h1
  ·have hki := (ck.e1 i hi k hk).1
   exact QjS ck hD n k (by omega) (by omega) (hD k (hd k hk)).2 j hjk
theorem QfT (ck : Chk C ops ds pre S) {D : Nat -> Bool} (hD : Qho ops D) {i : Nat} (h : D i = true) : ∀ j ∈ pre.getD i [], D j = true :=
 QjS ck hD (i + 1) i (by omega) (hD i h).1 (hD i h).2
theorem QiL (G : GV) (i : Nat) (x : List Value) (l : List Nat) (h : i ∉ l) : l.map (G.upd i x) = l.map G := by
 apply List.map_congr_left
 intro j hj
 have : Nat.beq j i = false := by cases e : Nat.beq j i with | false => rfl | true => exact absurd (Nat.eq_of_beq_eq_true e ▸ hj) h
 simp [GV.upd, this]
theorem QmG (o : Oper) {t : Nat} (h : Operand.tmp t ∈ o.op.operands) : t ∈ Qig ops o :=
 List.mem_append_left _ (List.mem_filterMap.2 ⟨.tmp t, by simpa using h, rfl⟩)
structure DSt (C : Cx) (L : Env) (ops : Array Oper) (ds : List OpD) (S : List Qdj) (D : Nat -> Bool) (a : Act) (w : World) : Prop where
 ex : ∃ (G : GV) (M F : Blk), Qfc C.w0 C.M0 C.F0 w M F /\ a.tmps.size = C.n /\ a.defers = [] /\ Env.sat (Qe0 ops ds G D ops.size ++ L) a /\ Qbi ((pick S (fun _ s => Qch D s)).map (·.at G)) w M F
theorem QmY (ck : Chk C ops ds pre S) {D : Nat -> Bool} (hD : Qho ops D) {i : Nat} {o : Oper} {d : OpD} (ho : ops[i]? = some o) (hd : ds[i]? = some d) (hi : D i = false) (hr : ∀ j ∈ Qgn ops i, D j = true)
  (good : QjB C L ops ds S i o d) {a : Act} {w : World} (st : DSt C L ops ds S D a w) {K : Act -> World -> Prop} {Q : Exit -> Act -> World -> Prop}
  (hK : ∀ a w, DSt C L ops ds S (fun j => D j || Nat.beq j i) a w -> K a w) : wpOp C.P ops Q i K a w := by
 have hin : i < ops.size := by
  rcases Nat.lt_or_ge i ops.size with h' | h'
  ·exact h'
  ·simp [Array.getElem?_eq_none h'] at ho
 obtain ⟨G, M, F, hst, hsz, hdf, hsat, hsp⟩ := st.ex
 have hpre := QjS ck hD (i + 1) i (by omega) hin hr
 -- what of the temporaries is known
 have order : ∀ t, t ∈ Qig ops o \/ o.dst = some t -> ∀ j, j < ops.size -> (ops[j]?).bind (·.dst) = some t -> D j = Nat.blt j i := by
  intro t ht j hj hdj
  by_cases hji : j = i
  ·subst hji
   rw [hi]
   cases e : Nat.blt j j with
   | false => rfl
   | true => have := Nat.blt_eq ▸ e; omega
  ·rcases ck.tmp i o ho j hj (Ne.symm hji) t hdj with h1 | h1 | ⟨h1, h2⟩
   ·rw [hpre j h1]
    have := (ck.e2 i hin j h1).1
    exact (show Nat.blt j i = true by rw [Nat.blt_eq]; exact this).symm
   ·have hDj : D j = false := by
     cases e : D j with
     | false => rfl
     | true => have := QfT ck hD e i h1; rw [hi] at this; exact absurd this (by simp)
    rw [hDj]
    have := (ck.e2 j hj i h1).1
    cases e : Nat.blt j i with
    | false => rfl
    | true => have := Nat.blt_eq ▸ e; omega
   ·rcases ht with h | h
    ·exact absurd h h1
    ·exact absurd h h2
 have same : ∀ t, t ∈ Qig ops o -> (Qe0 ops ds G D ops.size ++ L).get t = (Qe0 ops ds G (fun k => Nat.blt k i) ops.size ++ L).get t := by
  intro t ht
  rw [QeB, QeB, QeJ (G := G) (G' := G) (q := fun k => Nat.blt k i) ops.size (fun j hj hdj => ⟨order t (.inl ht) j hj hdj, fun _ => rfl⟩)]
 have hev : ∀ x ∈ o.op.operands, ∀ u, Env.ev (Qe0 ops ds G (fun k => Nat.blt k i) ops.size ++ L) x = some u -> a.eval x = u := by
  intro x hx u hu
  refine Env.sat_eval hsat ?_
  cases x with
  | tmp t => simp only [Env.ev] at hu ⊢; rw [same t (QmG o hx)]; exact hu
  | _ => exact hu
 -- D and i
 let D' : Nat -> Bool := fun j => D j || Nat.beq j i
 have hD'i : D' i = true := by simp [D']
 have hD'n : ∀ j, j ≠ i -> D' j = D j := fun j hj => by
  have : Nat.beq j i = false := by cases e : Nat.beq j i with | false => rfl | true => exact absurd (Nat.eq_of_beq_eq_true e) hj
  simp [D', this]
 -- the frame behind it
 have hsat' : ∀ g, Env.sat (Qe0 ops ds (G.upd i g) D' ops.size ++ L) (a.put o.dst (d.val (G.upd i g))) := by
  intro g t u hu
  have hvals : ∀ j, j < ops.size -> D j = true -> ((ds[j]?).map (·.val G)).getD undef = ((ds[j]?).map (·.val (G.upd i g))).getD undef := by
   intro j hj hDj
   cases hdj : ds[j]? with
   | none => rfl
   | some e =>
    simp only [Option.map_some, Option.getD_some, OpD.val]
    rw [QiL]
    intro hm
    rcases ck.val j e hdj i hm with h1 | h1
    ·subst h1; rw [hi] at hDj; exact absurd hDj (by simp)
    ·have := QfT ck hD hDj i h1; rw [hi] at this; exact absurd this (by simp)
  by_cases ht : o.dst = some t
  ·have hb : (ops[i]?).bind (·.dst) = some t := by rw [ho]; exact ht
   have top := QgF (ds := ds) (G := G.upd i g) (p := D') hb hD'i ops.size hin (fun j h1 h2 h3 => by
    rw [hD'n j (by omega), order t (.inr ht) j h2 h3]
    cases e : Nat.blt j i with
    | false => rfl
    | true => have := Nat.blt_eq ▸ e; omega)
   rw [QeB, top] at hu
   simp only [hd, Option.map_some, Option.getD_some, Option.some.injEq] at hu
   have hn : t < a.tmps.size := by rw [hsz]; exact Nat.blt_eq ▸ ck.dst i o t ho ht
   rw [ht]
   simp [Act.put, hn, hu]
  ·have e : (Qe0 ops ds (G.upd i g) D' ops.size).get t = (Qe0 ops ds G D ops.size).get t := by
    refine (QeJ ops.size (fun j hj hdj => ?_)).symm
    have hji : j ≠ i := fun e => by subst e; rw [ho] at hdj; exact ht hdj
    exact ⟨(hD'n j hji).symm, fun h => hvals j hj h⟩
   rw [QeB, e, <- QeB] at hu
   have := hsat t u hu
   cases hdst : o.dst with
   | none => exact this
   | some x =>
    have hne : x ≠ t := fun e => ht (by rw [hdst, e])
    simp only [Act.put, Array.getD_eq_getD_getElem?] at this ⊢
    rw [Array.getElem?_setIfInBounds_ne hne]; exact this
 -- the resources
 have live_use : ∀ s k, (s, k) ∈ S.zipIdx -> Qh2 ds i k s = true -> Qch D s = true := by
  intro s k hm hu
  have hu' : k ∈ QfP ds i := by simpa [Qh2] using hu
  obtain ⟨h1, h2⟩ := ck.use i hin s k hm hu'
  simp only [Qch, Bool.and_eq_true]
  constructor
  ·cases hp : s.prod with
   | none => rfl
   | some j => exact hpre j (h1 j hp)
  ·cases hc : s.cons with
   | none => rfl
   | some j =>
    simp only [Bool.not_eq_true']
    rcases h2 j hc with e | e
    ·rw [e]; exact hi
    ·cases eD : D j with
     | false => rfl
     | true =>
      have := QfT ck hD eD i e; rw [hi] at this; exact absurd this (by simp)
 have split := Qib (f := fun s : Qdj => s.at G) (p := fun _ s => Qch D s) (q := Qh2 ds i) S 0 hsp
 obtain ⟨F1, F2, k1, k2, kd, hU, hRest⟩ := split
 have eU : Qa4 0 S (fun k s => Qch D s && Qh2 ds i k s) = pick S (Qh2 ds i) := by
  rw [<- QfQ]
  refine QfN fun s k hm => ?_
  cases hu : Qh2 ds i k s with
  | false => simp
  | true => simp [live_use s k hm hu]
 rw [eU] at hU
 have hRest' : ∀ g, ∀ w' M', Qbi ((Qa4 0 S (fun k s => Qch D s && !Qh2 ds i k s)).map (·.at G)) w' M' F2 -> Qbi ((Qa4 0 S (fun k s => Qch D s && !Qh2 ds i k s)).map (·.at (G.upd i g))) w' M' F2 := by
  intro g w' M' h
  have : (Qa4 0 S (fun k s => Qch D s && !Qh2 ds i k s)).map (·.at G) = (Qa4 0 S (fun k s => Qch D s && !Qh2 ds i k s)).map (·.at (G.upd i g)) := by
   refine List.map_congr_left fun s hs => ?_
   obtain ⟨⟨s', k⟩, hm, rfl⟩ := List.mem_map.1 hs
   obtain ⟨hm, hl⟩ := List.mem_filter.1 hm
   simp only [Bool.and_eq_true] at hl
   unfold Qdj.at
   rw [QiL]
   intro hdep
   obtain ⟨j, hp, hij⟩ := ck.dep i hin s' k hm hdep
   have hDj : D j = true := by
    have := hl.1
    simp only [Qch, hp, Bool.and_eq_true] at this
    exact this.1
   rcases hij with e | e
   ·subst e; rw [hi] at hDj; exact absurd hDj (by simp)
   ·have := QfT ck hD hDj i e; rw [hi] at this; exact absurd this (by simp)
  rw [<- this]; exact h
 have live' : ∀ s k, (s, k) ∈ S.zipIdx -> Qch D' s = (QhF ds i k s || (Qch D s && !Qh2 ds i k s)) := by
  intro s k hm
  cases hu : Qh2 ds i k s with
  | true =>
   have hl := live_use s k hm hu
   have hu' : (QfP ds i).contains k = true := hu
   simp only [Qch, Bool.and_eq_true] at hl
   simp only [QhF, hu', Bool.true_and, Bool.not_true, Bool.and_false, Bool.or_false]
   have hp : s.prod ≠ some i := fun e => by rw [e] at hl; simp [hi] at hl
   have hp' : (s.prod == some i) = false := by simpa using hp
   rw [hp', Bool.or_false]
   have l1 : (match s.prod with | none => true | some j => D' j) = true := by
    cases e : s.prod with
    | none => rfl
    | some j => rw [e] at hl; simp only [D']; simp [hl.1]
   simp only [Qch, l1, Bool.true_and]
   cases e : s.cons with
   | none => rfl
   | some j =>
    by_cases hji : j = i
    ·subst hji; simp [hD'i]
    ·rw [e] at hl
     simp only [hD'n j hji]
     have h2 : (!D j) = true := hl.2
     rw [h2]
     simp [hji]
  | false =>
   have hu' : (QfP ds i).contains k = false := hu
   have hc : s.cons ≠ some i := fun e => by have := ck.con i hin s k hm e; simp [this] at hu'
   simp only [QhF, hu', Bool.false_and, Bool.false_or, Bool.not_false, Bool.and_true]
   by_cases hp : s.prod = some i
   ·have l0 : Qch D s = false := by simp [Qch, hp, hi]
    rw [l0]
    simp only [Qch, hp, hD'i, Bool.true_and, beq_self_eq_true, Bool.or_false]
    cases e : s.cons with
    | none => rfl
    | some j =>
     have hji : j ≠ i := fun e' => hc (by rw [e, e'])
     simp only [hD'n j hji, Bool.not_eq_true']
     cases eD : D j with
     | false => rfl
     | true =>
      have hj := (hD j eD).1
      have hju := ck.con j hj s k hm e
      have := (ck.use j hj s k hm hju).1 i hp
      have := QfT ck hD eD i this
      rw [hi] at this; exact absurd this (by simp)
   ·have hp' : (s.prod == some i) = false := by simpa using hp
    rw [hp', Bool.false_or]
    simp only [Qch]
    congr 1
    ·cases e : s.prod with
     | none => rfl
     | some j => exact hD'n j (fun e' => hp (by rw [e, e']))
    ·cases e : s.cons with
     | none => rfl
     | some j => simp only; rw [hD'n j (fun e' => hc (by rw [e, e']))]
 have eJ : pick S (fun _ s => Qch D' s) = Qa4 0 S (fun k s => QhF ds i k s || (Qch D s && !Qh2 ds i k s)) := by
  rw [<- QfQ]
  exact QfN fun s k hm => live' s k hm
 have disj : ∀ k s, (s, k) ∈ S.zipIdx -> ¬ (QhF ds i k s = true /\ (Qch D s && !Qh2 ds i k s) = true) := by
  rintro k s hm ⟨h1, h2⟩
  simp only [Bool.and_eq_true, Bool.not_eq_true'] at h2
  have hu' : (QfP ds i).contains k = false := h2.2
  simp only [QhF, hu', Bool.false_and, Bool.false_or, beq_iff_eq] at h1
  have := h2.1
  simp [Qch, h1, hi] at this
 have join : ∀ g w' M' (F' F1' : Blk), (∀ b, F1' b -> F' b) -> (∀ b, F2 b -> F' b) -> (∀ b, F1' b -> F2 b -> False) -> Qbi ((pick S (QhF ds i)).map (·.at (G.upd i g))) w' M' F1' -> Qbi ((Qa4 0 S (fun k s => Qch D s && !Qh2 ds i k s)).map (·.at (G.upd i g))) w' M' F2 ->
   Qbi ((pick S (fun _ s => Qch D' s)).map (·.at (G.upd i g))) w' M' F' := by
  intro g w' M' F' F1' a1 a2 a3 h1 h2
  rw [eJ]
  have hq : pick S (QhF ds i) = Qa4 0 S (fun k s => QhF ds i k s && !(Qch D s && !Qh2 ds i k s)) := by
   rw [<- QfQ]
   refine QfN fun s k hm => ?_
   cases e1 : QhF ds i k s with
   | false => rfl
   | true =>
    cases e2 : (Qch D s && !Qh2 ds i k s) with
    | false => rfl
    | true => exact absurd ⟨e1, e2⟩ (disj k s hm)
  rw [hq] at h1
  have := QhS (f := fun s : Qdj => s.at (G.upd i g)) (p := fun k s => QhF ds i k s && !(Qch D s && !Qh2 ds i k s)) (q := fun k s => Qch D s && !Qh2 ds i k s) (fun k s => by
   rintro ⟨x, y⟩
   rw [y] at x; simp at x) S 0 a1 a2 a3 h1 h2
  have e : Qa4 0 S (fun k s => (QhF ds i k s && !(Qch D s && !Qh2 ds i k s)) || (Qch D s && !Qh2 ds i k s)) = Qa4 0 S (fun k s => QhF ds i k s || (Qch D s && !Qh2 ds i k s)) := by
   rw [<- QfQ, <- QfQ]
   refine QfN fun s k hm => ?_
   cases QhF ds i k s <;> cases (Qch D s && !Qh2 ds i k s) <;> rfl
  rw [e] at this; exact this
 -- the operation
 obtain ⟨hg, hx⟩ := good
 have hwant : Region.wanted o (yielded ops a.tmps) = d.wanted := by
  cases eg : o.guard with
  | none => rw [eg] at hg; simp only at hg; simp [Region.wanted, eg, hg]
  | some jb =>
   obtain ⟨j, b⟩ := jb
   rw [eg] at hg
   obtain ⟨dj, h1, h2, h3⟩ := hg
   have hjn : dj ∈ Qig ops o := by
    refine List.mem_append_right _ ?_
    rw [eg]; simp [h1]
   obtain ⟨v, h4, hv⟩ := h3 G
   rw [<- same dj hjn] at h4
   have h5 := hsat dj _ h4
   have hdj : dj < a.tmps.size := by rw [hsz]; exact Nat.blt_eq ▸ h2
   have hget : a.tmps[dj]? = some v := by
    rw [Array.getElem?_eq_getElem hdj]
    simp only [Array.getD_eq_getD_getElem?, Array.getElem?_eq_getElem hdj, Option.getD_some] at h5
    rw [h5]
   have hy : yielded ops a.tmps j = QoF v := by
    unfold yielded
    rw [h1]
    simp only [Option.bind_some, hget]
    cases v <;> rfl
   simp only [Region.wanted, eg, hy]
   exact hv
 unfold wpOp
 rw [ho]
 simp only [hwant]
 cases ew : d.wanted with
 | true =>
  rw [ew] at hx
  simp only [cond_true] at hx
  simp only [if_true]
  left
  refine hx G a w M F1 _ _ hev ⟨hst.ok.bd, fun b hb => hst.ok.sub b (k1 b hb)⟩ hU ?_
  intro g w' M' F1' hs' hB
  obtain ⟨s', kp, hd'⟩ := Qfc.frame hst.ok k1 k2 kd hs'
  refine hK _ _ ⟨G.upd i g, M', _, hst.trans s', ?_, ?_, hsat' g, ?_⟩
  ·cases o.dst <;> simp [Act.put, hsz]
  ·cases o.dst <;> simp [Act.put, hdf]
  ·exact join g w' M' _ F1' (fun b h => .inl h) (fun b h => .inr h) hd' hB (hRest' g w' M' (QcT hRest hs'.ext kp))
 | false =>
  rw [ew] at hx
  simp only [cond_false] at hx
  simp only [Bool.false_eq_true, if_false]
  obtain ⟨x1, x2, x3⟩ := hx
  have hv := hsat' []
  rw [x1] at hv
  refine hK _ _ ⟨G.upd i [], M, F, hst, ?_, ?_, hv, ?_⟩
  ·cases o.dst <;> simp [Act.put, hsz]
  ·cases o.dst <;> simp [Act.put, hdf]
  ·have hu0 : ∀ k s, Qh2 ds i k s = false := fun k s => by simp [Qh2, QfP, hd, x2]
   have ha0 : pick S (QhF ds i) = [] := by
    unfold pick
    rw [List.map_eq_nil_iff, List.filter_eq_nil_iff]
    rintro ⟨s, k⟩ hm
    have hs := (List.mem_zipIdx hm).2.2
    have : s ∈ S := by rw [hs]; exact List.getElem_mem _
    have := List.all_eq_true.1 x3 s this
    have hu' : (QfP ds i).contains k = false := hu0 k s
    simp [QhF, hu']
    exact ⟨fun h => by simp [h] at hu', by simpa using this⟩
   exact join [] w M F (fun _ => False) (fun _ h => h.elim) (fun b h => k2 b h) (fun _ h _ => h) (by rw [ha0]; trivial) (hRest' [] w M hRest)
theorem QnC (ck : Chk C ops ds pre S) (good : ∀ (i : Nat) (o : Oper) (d : OpD), ops[i]? = some o -> ds[i]? = some d -> QjB C L ops ds S i o d) {Q : Exit -> Act -> World -> Prop}
  (hQ : ∀ a w, DSt C L ops ds S (fun j => Nat.blt j ops.size) a w -> Q .normal a w) :
  ∀ (fuel : Nat) (listed : Array Bool) (a : Act) (w : World), listed.size = ops.size -> ((List.range ops.size).filter fun i => !listed.getD i false).length = fuel -> Qho ops (fun j => listed.getD j false) -> DSt C L ops ds S (fun j => listed.getD j false) a w ->
   wpAny C.P .any ops Q fuel listed a w := by
 have hready : ∀ (listed : Array Bool), listed.size = ops.size -> ∀ i, i ∈ Region.ready .any ops listed ↔ i < ops.size /\ listed.getD i false = false /\ ∀ j ∈ Qgn ops i, listed.getD j false = true := by
  intro listed hl i
  simp only [Region.ready, List.mem_filter, List.mem_range, Bool.and_eq_true]
  constructor
  ·rintro ⟨h1, h2, h3⟩
   refine ⟨h1, ?_, ?_⟩
   ·simp [Array.getD_eq_getD_getElem?, Array.getElem?_eq_getElem (xs := listed) (i := i) (by omega)] at h2 ⊢; exact h2
   ·intro j hj
    rw [Array.getElem?_eq_getElem h1] at h3
    simp only [Option.map_some, Option.getD_some, Array.all_eq_true_iff_forall_mem] at h3
    simp only [Qgn, Array.getElem?_eq_getElem h1, Option.map_some, Option.getD_some, List.mem_map, List.mem_filter] at hj
    obtain ⟨e, ⟨he, hb⟩, rfl⟩ := hj
    have := h3 e (by simpa using he)
    simpa [hb] using this
  ·rintro ⟨h1, h2, h3⟩
   refine ⟨h1, ?_, ?_⟩
   ·simp [Array.getD_eq_getD_getElem?, Array.getElem?_eq_getElem (xs := listed) (i := i) (by omega)] at h2 ⊢; exact h2
   ·rw [Array.getElem?_eq_getElem h1]
    simp only [Option.map_some, Option.getD_some, Array.all_eq_true_iff_forall_mem]
    intro e he
    cases hb : Region.binds .any e with
    | false => simp
    | true =>
     have := h3 e.on (by simp only [Qgn, Array.getElem?_eq_getElem h1, Option.map_some, Option.getD_some, List.mem_map, List.mem_filter]; exact ⟨e, ⟨by simpa using he, hb⟩, rfl⟩)
     simp [this]
 -- where nothing is ready all is done
 have hdone : ∀ (listed : Array Bool), listed.size = ops.size -> Region.ready .any ops listed = [] -> ∀ n i, i < n -> i < ops.size -> listed.getD i false = true := by
  intro listed hl hr n
  induction n with
  | zero => intro i h; omega
  | succ n ih =>
   intro i h hi
   cases e : listed.getD i false with
   | true => rfl
   | false =>
    have : i ∈ Region.ready .any ops listed := (hready listed hl i).2 ⟨hi, e, fun j hj => ih j (by have := (ck.e1 i hi j hj).1; omega) (by have := (ck.e1 i hi j hj).1; omega)⟩
    rw [hr] at this; cases this
 have hfin : ∀ (listed : Array Bool) a w, listed.size = ops.size -> Region.ready .any ops listed = [] -> DSt C L ops ds S (fun j => listed.getD j false) a w -> Q .normal a w := by
  intro listed a w hl hr st
  refine hQ a w ?_
  have : (fun j => listed.getD j false) = fun j => Nat.blt j ops.size := by
   funext j
   cases e : Nat.blt j ops.size with
   | true => exact hdone listed hl hr (j + 1) j (by omega) (Nat.blt_eq ▸ e)
   | false =>
    have : ¬ j < ops.size := fun h => by rw [show Nat.blt j ops.size = true by rw [Nat.blt_eq]; exact h] at e; cases e
    simp [Array.getElem?_eq_none (xs := listed) (i := j) (by omega)]
  rw [<- this]; exact st
 intro fuel
 induction fuel with
 | zero =>
  intro listed a w hl hc hcl st
  have hr : Region.ready .any ops listed = [] := by
   cases e : Region.ready .any ops listed with
   | nil => rfl
   | cons x xs =>
    have hx := (hready listed hl x).1 (by rw [e]; exact List.mem_cons_self)
    have : x ∈ (List.range ops.size).filter fun i => !listed.getD i false := List.mem_filter.2 ⟨List.mem_range.2 hx.1, by rw [hx.2.1]; rfl⟩
    rw [List.length_eq_zero_iff.1 hc] at this; cases this
  exact ⟨hr, hfin listed a w hl hr st⟩
 | succ fuel ih =>
  intro listed a w hl hc hcl st
  refine ⟨fun hr => hfin listed a w hl hr st, fun i hi => ?_⟩
  obtain ⟨h1, h2, h3⟩ := (hready listed hl i).1 hi
  have ho := Array.getElem?_eq_getElem h1
  have hdl : i < ds.length := by rw [ck.len]; exact h1
  have hset : (fun j => (listed.setIfInBounds i true).getD j false) = fun j => listed.getD j false || Nat.beq j i := by
   funext j
   simp only [Array.getD_eq_getD_getElem?]
   by_cases hji : j = i
   ·subst hji
    simp [show j < listed.size by omega]
   ·rw [Array.getElem?_setIfInBounds_ne (Ne.symm hji)]
    have : Nat.beq j i = false := by cases e : Nat.beq j i with | false => rfl | true => exact absurd (Nat.eq_of_beq_eq_true e) hji
    simp [this]
  refine QmY ck hcl ho (List.getElem?_eq_getElem hdl) h2 h3 (good i _ _ ho (List.getElem?_eq_getElem hdl)) st ?_
  intro a' w' st'
  refine ih _ a' w' (by simp [hl]) ?_ ?_ (by rw [hset]; exact st')
  ·have e : (List.range ops.size).filter (fun j => !(listed.setIfInBounds i true).getD j false) = ((List.range ops.size).filter fun j => !listed.getD j false).erase i := by
    have hnd : ((List.range ops.size).filter fun j => !listed.getD j false).Nodup := List.nodup_range.sublist List.filter_sublist
    rw [hnd.erase_eq_filter, List.filter_filter]
    apply List.filter_congr
    intro j _
    have := congrFun hset j
    rw [show (listed.setIfInBounds i true).getD j false = (listed.getD j false || Nat.beq j i) from this]
    by_cases hji : j = i
    ·subst hji; simp
    ·have hb : Nat.beq j i = false := by cases e : Nat.beq j i with | false => rfl | true => exact absurd (Nat.eq_of_beq_eq_true e) hji
     simp [hb, hji]
   rw [e, List.length_erase_of_mem (List.mem_filter.2 ⟨List.mem_range.2 h1, by rw [h2]; rfl⟩), hc]; rfl
  ·rw [hset]
   intro j hj
   simp only [Bool.or_eq_true] at hj
   rcases hj with hj | hj
   ·exact ⟨(hcl j hj).1, fun k hk => by have := (hcl j hj).2 k hk; simp only at this; simp [this]⟩
   ·have := Nat.eq_of_beq_eq_true hj
    subst this
    exact ⟨h1, fun k hk => by show (listed.getD k false || _) = true; rw [h3 k hk]; rfl⟩
theorem Qn6 {id : Nat} (ds : List OpD) (pre : List (List Nat)) (S : List Qdj) (hm : C.P.follows .mixedOrders = true) (ck : Chk C ops ds pre S) (hA : (pick S (fun _ s => Qch (fun _ => false) s)).map (·.at (fun _ => [])) = A)
  (good : QiC C L ops ds S 0 ops.toList ds)
  (h : ∀ G : GV, JK C ks (Qe0 ops ds G (fun j => Nat.blt j ops.size) ops.size ++ L) ((pick S (fun _ s => Qch (fun j => Nat.blt j ops.size) s)).map (·.at G))) : JK C (.code (.region id ops true) :: ks) L A := by
 intro a w M F st
 simp only [wpK]
 refine wp_region_any hm ?_
 have hw0 : ∀ n, Qe0 ops ds (fun _ => []) (fun _ => false) n = [] := by
  intro n
  induction n with
  | zero => rfl
  | succ n ih => simp [Qe0, ih]
 have hrep : (fun j => (Array.replicate ops.size false).getD j false) = fun _ => false := by
  funext j
  simp only [Array.getD_eq_getD_getElem?, Array.getElem?_replicate]
  split <;> rfl
 refine QnC (L := L) ck (fun i o d ho hd => ?_) ?_ ops.size _ a _ (by simp) ?_ ?_ ?_
 ·have := Qis ops.toList ds 0 i o d good (by simpa using ho) hd
  simpa using this
 ·intro a w ⟨G, M, F, h1, h2, h3, h4, h5⟩
  exact h G a w M F ⟨h1, h2, h3, h4, h5⟩
 ·have : (fun i => !(Array.replicate ops.size false).getD i false) = fun _ => true := by
   funext i
   have := congrFun hrep i
   rw [show (Array.replicate ops.size false).getD i false = false from this]; rfl
  rw [this, List.filter_eq_self.2 (fun _ _ => rfl), List.length_range]
 ·rw [hrep]; intro i hi; simp at hi
 ·rw [hrep]
  refine ⟨fun _ => [], M, F, ?_, st.sz, st.df, ?_, ?_⟩
  ·exact st.step.trans (QiY st.step.ok)
  ·rw [hw0]; exact st.sat
  ·rw [hA]
   exact QcT st.sp (QiY st.step.ok).ext (fun b hb => rfl)
end
end Go.SL
namespace Go.SL
open Go
inductive LR (σ ρ : Type) where
 | brk (s : σ)
 | ret (r : ρ)
 | oof
theorem QnE {C : Cx} {X : Act -> World -> Prop} {L : Env} {A : List SP} (t : Nat) {e : Bool} (he : L.get t = some (.bool e)) (hT : e = true -> JJ C X ((t, .bool true) :: L) A) (hF : e = false -> JJ C X ((t, .bool false) :: L) A) : JJ C X L A := by
 cases e with
 | true => exact QgP (L' := (t, .bool true) :: L) (Env.sub_cons he (fun _ _ h => h)) (Ent.refl A) (hT rfl)
 | false => exact QgP (L' := (t, .bool false) :: L) (Env.sub_cons he (fun _ _ h => h)) (Ent.refl A) (hF rfl)
theorem QqD {C : Cx} {X : Act -> World -> Prop} {L : Env} {A Ac Ar B : List SP} (is : List Nat) (ht : take A is = some (Ac, Ar)) (e : Ent Ac B) (h : JJ C X L (B ++ Ar)) : JJ C X L A := Qfe (Ent.local ht e) h
theorem Qo9 {C : Cx} {X : Act -> World -> Prop} {L : Env} {A Ac Ar : List SP} (is : List Nat) (ht : take A is = some (Ac, Ar)) (h : JJ C X L Ac) : JJ C X L A := Qfe (Ent.take ht) h
theorem Qna {w M} : ∀ (xs : List Int), (∀ x ∈ xs, Qac x) -> rdl w M (xs.map (Value.int .i64)) xs
 | [], _ => rfl
 | x :: xs, h => ⟨[.int .i64 x], xs.map (Value.int .i64), rfl, ⟨rfl, h x (by simp)⟩, Qna xs (fun y hy => h y (by simp [hy]))⟩
theorem Ent.crNil {α : Type} [Rep α] (c : Value) : Ent [Cr c 0 []] [os (α := α) c []] := Ent.crOs (A := []) c [] [] (by simp) (fun _ => rfl)
theorem Ent.crInt (c : Value) (xs : List Int) (n : Nat) (cs : List Value) (hn : n = xs.length) (hc : cs = xs.map (Value.int .i64)) (hok : ∀ x ∈ xs, Qac x) (hb : xs.length <= 17592186044416) : Ent [Cr c n cs] [os c xs] := by
 subst hn; subst hc
 exact Ent.crOs (A := []) c xs _ (by show xs.length * 8 <= 2 ^ 47; omega) (fun _ => Qna xs hok)
theorem Ent.cr1 {α : Type} [Rep α] {A : List SP} (c : Value) (x : α) (cs : List Value) (hb : Rep.bytes α <= QdA) (hr : ∀ {w M F}, Qbi A w M F -> Rep.rd w M cs x) : Ent (Cr c 1 cs :: A) (os c [x] :: A) :=
 Ent.crOs c [x] cs (by simpa using hb) (fun h => ⟨cs, [], by simp, hr h, rfl⟩)
theorem OpA.app {P : Program} {L : Env} {o : Oper} {T T2 x y c d e sz by_ zs e2 sz2 by2} {α : Type} [Rep α] {xs ys : List α} (hop : o.op = .call { callee := .builtin .append, args := #[x, y], argTypes := #[T, T2] })
  (hx : L.ev x = some c) (hy : L.ev y = some d) (hT : QfF P T = some (e, sz, by_)) (hT2 : QfF P T2 = some (e2, sz2, by2)) (hz : QdX P T = some zs) (hzl : zs.length = sz) (hs : Rep.sz α = sz) (hb : Rep.bytes α = by_)
  (hlen : (xs.length + ys.length) * Rep.bytes α <= QdA) :
  OpA P L [os c xs, sl d ys] o (fun c : Value => c) (fun c => [os c (xs ++ ys)]) := fun ρ hρ w M F ok hs' => by
 obtain ⟨g, w', M', F', hr, hst, hsp⟩ := OpA.append hop hx hy hT hT2 hz hzl hs hb (Qq6 d ys) hlen ρ hρ w M F ok hs'
 obtain ⟨F1, F2, k1, k2, kd, h1, h2⟩ := hsp
 exact ⟨g, w', M', F', hr, hst, F1, F2, k1, k2, kd, h1, trivial⟩
theorem OpA.appO {P : Program} {L : Env} {o : Oper} {T T2 x y c d e sz by_ zs e2 sz2 by2} {α : Type} [Rep α] {xs ys : List α} (hop : o.op = .call { callee := .builtin .append, args := #[x, y], argTypes := #[T, T2] })
  (hx : L.ev x = some c) (hy : L.ev y = some d) (hT : QfF P T = some (e, sz, by_)) (hT2 : QfF P T2 = some (e2, sz2, by2)) (hz : QdX P T = some zs) (hzl : zs.length = sz) (hs : Rep.sz α = sz) (hb : Rep.bytes α = by_)
  (hlen : (xs.length + ys.length) * Rep.bytes α <= QdA) :
  OpA P L [os c xs, os d ys] o (fun c : Value => c) (fun c => [os c (xs ++ ys)]) := fun ρ hρ w M F ok hs' => by
 obtain ⟨g, w', M', F', hr, hst, hsp⟩ := OpA.append hop hx hy hT hT2 hz hzl hs hb (QqY d ys) hlen ρ hρ w M F ok hs'
 obtain ⟨F1, F2, k1, k2, kd, h1, h2⟩ := hsp
 exact ⟨g, w', M', F', hr, hst, F1, F2, k1, k2, kd, h1, trivial⟩
theorem QlK (n : Int) : IntKind.u64.wrap n = ((BitVec.ofInt 64 n).toNat : Int) := by
 have h : IntKind.u64.wrap n = n % 18446744073709551616 := by
  simp [IntKind.wrap, IntKind.bits, IntKind.signed]
 rw [h, BitVec.toNat_ofInt]
 have := Int.emod_nonneg n (show (18446744073709551616 : Int) ≠ 0 by decide)
 simp
 omega
theorem OpV.convU {P : Program} {L : Env} {A : List SP} {o : Oper} {s d x n} (hop : o.op = .convert s d x) (hs : P.underlying s = some (.int .i64)) (hd : P.underlying d = some (.int .u64)) (hx : L.ev x = some (.int .i64 n)) : OpV P L A o (u64 (BitVec.ofInt 64 n)) := fun ρ hρ w M F ok hs' => by
 simp [execOp, hop, hρ _ _ hx, convert, run_underlying hs, run_underlying hd, Conv.intToInt, QlK, u64]
theorem OpV.convI {P : Program} {L : Env} {A : List SP} {o : Oper} {s d x b} (hop : o.op = .convert s d x) (hs : P.underlying s = some (.int .u64)) (hd : P.underlying d = some (.int .i64)) (hx : L.ev x = some (u64 b)) (h : (b.toNat : Int) <= 9223372036854775807) : OpV P L A o (.int .i64 (b.toNat : Int)) := fun ρ hρ w M F ok hs' => by
 have : IntKind.i64.wrap (b.toNat : Int) = b.toNat := IntWalk.i64_in _ (by omega)
 simp [execOp, hop, hρ _ _ hx, convert, u64, run_underlying hs, run_underlying hd, Conv.intToInt, this]
theorem Qhk (b : BitVec 64) : IntKind.u64.wrap (b.toNat : Int) = (b.toNat : Int) := by
 have := b.isLt
 exact IntWalk.u64_in _ (by omega)
theorem QgC (b : BitVec 64) : BitVec.ofInt 64 (b.toNat : Int) = b := by
 apply BitVec.eq_of_toNat_eq
 rw [BitVec.toNat_ofInt]
 have := b.isLt
 omega
theorem QjW {P : Program} {L : Env} {A : List SP} {o : Oper} {op : BinOp} {T x y yt} {a b : BitVec 64} {r : BitVec 64} (hop : o.op = .binOp op T x y yt) (hx : L.ev x = some (u64 a)) (hy : L.ev y = some (u64 b))
  (h : ∀ w, (binOp op T (u64 a) (u64 b)).run P w = .ok (u64 r) w) : OpV P L A o (u64 r) := QbY hop hx hy h
theorem OpV.xorU {P : Program} {L : Env} {A : List SP} {o : Oper} {T x y yt} {a b : BitVec 64} (hop : o.op = .binOp .xor T x y yt) (hx : L.ev x = some (u64 a)) (hy : L.ev y = some (u64 b)) : OpV P L A o (u64 (a ^^^ b)) :=
 QjW hop hx hy fun w => by
  have e : (binOp .xor T (u64 a) (u64 b)) = pure (.int .u64 (IntKind.u64.wrap ((BitVec.ofInt 64 (a.toNat : Int) ^^^ BitVec.ofInt 64 (b.toNat : Int)).toNat : Int))) := rfl
  rw [e, QgC, QgC, Qhk]; rfl
theorem OpV.andU {P : Program} {L : Env} {A : List SP} {o : Oper} {T x y yt} {a b : BitVec 64} (hop : o.op = .binOp .and T x y yt) (hx : L.ev x = some (u64 a)) (hy : L.ev y = some (u64 b)) : OpV P L A o (u64 (a &&& b)) :=
 QjW hop hx hy fun w => by
  have e : (binOp .and T (u64 a) (u64 b)) = pure (.int .u64 (IntKind.u64.wrap ((BitVec.ofInt 64 (a.toNat : Int) &&& BitVec.ofInt 64 (b.toNat : Int)).toNat : Int))) := rfl
  rw [e, QgC, QgC, Qhk]; rfl
theorem OpV.remU {P : Program} {L : Env} {A : List SP} {o : Oper} {T x y yt} {a b : BitVec 64} (hop : o.op = .binOp .rem T x y yt) (hx : L.ev x = some (u64 a)) (hy : L.ev y = some (u64 b)) (h : b ≠ 0) : OpV P L A o (u64 (a % b)) :=
 QjW hop hx hy fun w => by
  have hb : ¬ ((b.toNat : Int) = 0) := by
   intro e
   have h0 : b.toNat = 0 := by omega
   exact h (BitVec.eq_of_toNat_eq (by rw [h0]; rfl))
  have e : (binOp .rem T (u64 a) (u64 b)) = Op.intDiv .rem .u64 (a.toNat : Int) (b.toNat : Int) := rfl
  rw [e]
  simp only [Op.intDiv, if_neg hb, Sem.run_pure]
  congr 2
theorem OpV.shlU {P : Program} {L : Env} {A : List SP} {o : Oper} {T x y yt} {k : IntKind} {a : BitVec 64} {n : Int} (hop : o.op = .binOp .shl T x y yt) (hx : L.ev x = some (u64 a)) (hy : L.ev y = some (.int k n)) (h : 0 <= n) : OpV P L A o (u64 (a <<< n.toNat)) := fun ρ hρ w M F ok hs => by
 have hg : (eqGuard .shl T x y (u64 a) (.int k n)).run P w = .ok () w := by unfold eqGuard; simp
 have e : execOp ρ o = (do pure (.value (<- (do eqGuard .shl T x y (ρ x) (ρ y); binOp .shl T (ρ x) (ρ y))))) := by unfold execOp; rw [hop]
 have hn : ¬ n < 0 := by omega
 have e2 : binOp .shl T (u64 a) (.int k n) = Op.shift .shl .u64 (a.toNat : Int) k n := rfl
 rw [e, hρ _ _ hx, hρ _ _ hy]
 simp only [Sem.run_bind, hg, Result.andThen_ok, e2, Op.shift, if_neg hn, Sem.run_pure]
 congr 2
 show Value.int .u64 _ = Value.int .u64 _
 congr 1
 rw [QlK]
 congr 1
 simp only [IntKind.bits]
 rw [BitVec.toNat_ofInt, BitVec.toNat_shiftLeft, Nat.shiftLeft_eq]
 have e3 : ((a.toNat : Int) * 2 ^ (min n.toNat 64)) = ((a.toNat * 2 ^ (min n.toNat 64) : Nat) : Int) := by push_cast; rfl
 rw [e3]
 have e4 : ((2 ^ 64 : Nat) : Int) = ((2 ^ 64 : Nat) : Int) := rfl
 rw [<- Int.natCast_emod]
 simp only [Int.toNat_natCast]
 rcases Nat.lt_or_ge n.toNat 64 with h1 | h1
 ·rw [Nat.min_eq_left (by omega)]
 ·rw [Nat.min_eq_right h1, Nat.mul_mod_left]
  have : (2 : Nat) ^ n.toNat = 2 ^ 64 * 2 ^ (n.toNat - 64) := by rw [<- Nat.pow_add]; congr 1; omega
  rw [this, <- Nat.mul_assoc, Nat.mul_comm a.toNat, Nat.mul_assoc, Nat.mul_mod_right]
theorem OpV.shrU {P : Program} {L : Env} {A : List SP} {o : Oper} {T x y yt} {k : IntKind} {a : BitVec 64} {n : Int} (hop : o.op = .binOp .shr T x y yt) (hx : L.ev x = some (u64 a)) (hy : L.ev y = some (.int k n)) (h : 0 <= n) : OpV P L A o (u64 (a >>> n.toNat)) := fun ρ hρ w M F ok hs => by
 have hg : (eqGuard .shr T x y (u64 a) (.int k n)).run P w = .ok () w := by unfold eqGuard; simp
 have e : execOp ρ o = (do pure (.value (<- (do eqGuard .shr T x y (ρ x) (ρ y); binOp .shr T (ρ x) (ρ y))))) := by unfold execOp; rw [hop]
 have hn : ¬ n < 0 := by omega
 have e2 : binOp .shr T (u64 a) (.int k n) = Op.shift .shr .u64 (a.toNat : Int) k n := rfl
 rw [e, hρ _ _ hx, hρ _ _ hy]
 simp only [Sem.run_bind, hg, Result.andThen_ok, e2, Op.shift, if_neg hn, Sem.run_pure]
 congr 2
 show Value.int .u64 _ = Value.int .u64 _
 congr 1
 simp only [IntKind.bits]
 rw [BitVec.toNat_ushiftRight, Nat.shiftRight_eq_div_pow]
 have e3 : ((2 : Int) ^ (min n.toNat 64)) = ((2 ^ (min n.toNat 64) : Nat) : Int) := by push_cast; rfl
 rw [e3, Int.fdiv_eq_ediv_of_nonneg _ (Int.natCast_nonneg _), <- Int.natCast_ediv]
 congr 1
 rcases Nat.lt_or_ge n.toNat 64 with h1 | h1
 ·rw [Nat.min_eq_left (by omega)]
 ·rw [Nat.min_eq_right h1]
  have hl := a.isLt
  have : (2 : Nat) ^ 64 <= 2 ^ n.toNat := Nat.pow_le_pow_right (by omega) h1
  rw [Nat.div_eq_of_lt hl, Nat.div_eq_of_lt (by omega)]
end Go.SL
namespace Go.SL
open Go
theorem not_true {b : Bool} (h : (!b) = true) : b = false := by cases b <;> simp_all
theorem not_false {b : Bool} (h : (!b) = false) : b = true := by cases b <;> simp_all
theorem QbH {α : Type} [BEq α] [LawfulBEq α] {a b : α} (h : (a != b) = true) : a ≠ b := by simpa using h
theorem Qaz {α : Type} [BEq α] [LawfulBEq α] {a b : α} (h : (a != b) = false) : a = b := by simpa using h
theorem Qo4 {xs : List Int} {i : Nat} {d : Int} (h : ∀ x ∈ xs, RepE.ok x) (hi : i < xs.length) : Qac (xs.getD i d) := by
 have : xs.getD i d = xs[i] := by simp [List.getD, List.getElem?_eq_getElem hi]
 rw [this]; exact h _ (List.getElem_mem hi)
theorem Qqu {β : Type} [RepE β] {c : Value} {xs : List β} {w M F} (h : (os c xs).h w M F) : ∀ x ∈ xs, RepE.ok x := by
 obtain ⟨hb, ao, k, hc, hk, hh⟩ := h
 intro x hx
 cases ao with
 | none => have := hh.1; subst this; simp at hx
 | some ad =>
  obtain ⟨cells, T, h0, h1, h2, h3, h4⟩ := hh
  obtain ⟨i, hi, e⟩ := List.mem_iff_getElem.1 hx
  obtain ⟨ecs, e1, e2⟩ := h4 i x (by rw [List.getElem?_eq_getElem hi, e])
  exact (RepE.ex_eq e2).2
theorem Qoe {α : Type} [Rep α] {a n k} {xs : List α} {w M F} (h : (os (.slice a n k) xs).h w M F) : xs.length = n := by
 obtain ⟨_, a', k', h, _⟩ := h; injection h with _ h2 _; exact h2.symm
theorem QrP {α : Type} [Rep α] {a n k} {xs : List α} {w M F} (h : (sl (.slice a n k) xs).h w M F) : xs.length = n := by
 obtain ⟨_, a', k', h, _⟩ := h; injection h with _ h2 _; exact h2.symm
theorem Qo1 {L : Env} {ρ : Operand -> Value} (hρ : ∀ x u, L.ev x = some u -> ρ x = u) {xs : Array Operand} {vs : Array Value} (h : L.evs xs.toList = some vs.toList) : xs.map ρ = vs := by
 have := Env.evs_map hρ h
 apply Array.ext'
 simpa using this
theorem QkF {α : Type} [Rep α] {w : World} {M : Blk} {cells : Array Value} {off : Nat} {xs : List α} (h : Qer w M cells off xs) (i : Nat) (y : α) (ds : List Value) (hy : Rep.rd w M ds y) (hi : i < xs.length) (hf : off + xs.length * Rep.sz α <= cells.size) :
  Qer w M (cells.toList.take (off + i * Rep.sz α) ++ ds ++ cells.toList.drop (off + i * Rep.sz α + Rep.sz α)).toArray off (xs.set i y) := by
 have hds := Rep.len hy
 intro j x hx
 have hj : j < xs.length := by
  rcases Nat.lt_or_ge j (xs.set i y).length with h' | h'
  ·simpa using h'
  ·simp [List.getElem?_eq_none h'] at hx
 have hbi : (i + 1) * Rep.sz α <= xs.length * Rep.sz α := Nat.mul_le_mul_right _ hi
 have hbj : (j + 1) * Rep.sz α <= xs.length * Rep.sz α := Nat.mul_le_mul_right _ hj
 rw [Nat.add_mul] at hbi hbj
 by_cases hij : j = i
 ·subst hij
  simp [hj] at hx
  subst hx
  refine ⟨ds, fun t u hu => ?_, hy⟩
  have ht : t < ds.length := by
   rcases Nat.lt_or_ge t ds.length with h' | h'
   ·exact h'
   ·simp [List.getElem?_eq_none h'] at hu
  simp only [List.getElem?_toArray, List.append_assoc]
  rw [List.getElem?_append_right (by simp; omega), List.getElem?_append_left (by simp; omega)]
  simp only [List.length_take, Array.length_toList]
  rw [Nat.min_eq_left (by omega), Nat.add_sub_cancel_left]; exact hu
 ·rw [List.getElem?_set_ne (Ne.symm hij)] at hx
  obtain ⟨ecs, e1, e2⟩ := h j x hx
  refine ⟨ecs, fun t u hu => ?_, e2⟩
  have ht : t < ecs.length := by
   rcases Nat.lt_or_ge t ecs.length with h' | h'
   ·exact h'
   ·simp [List.getElem?_eq_none h'] at hu
  rw [Rep.len e2] at ht
  have := e1 t u hu
  simp only [List.getElem?_toArray, List.append_assoc]
  rcases Nat.lt_or_gt_of_ne hij with hlt | hgt
  ·have : (j + 1) * Rep.sz α <= i * Rep.sz α := Nat.mul_le_mul_right _ hlt
   rw [Nat.add_mul] at this
   rw [List.getElem?_append_left (by simp; omega), List.getElem?_take, if_pos (by omega)]
   simpa using e1 t u hu
  ·have : (i + 1) * Rep.sz α <= j * Rep.sz α := Nat.mul_le_mul_right _ hgt
   rw [Nat.add_mul] at this
   rw [List.getElem?_append_right (by simp; omega), List.getElem?_append_right (by simp; omega), List.getElem?_drop]
   simp only [List.length_take, Array.length_toList, hds]
   rw [Nat.min_eq_left (by omega)]
   have e := e1 t u hu
   rw [<- Array.getElem?_toList] at e
   rw [<- e]; congr 1; omega
theorem OpS.storeOs' {P : Program} {L : Env} {o : Oper} {α : Type} [Rep α] {T x y a n k i v bb m} {xs : List α} {Rs : List SP} (z : α) (ds : List Value) (hop : o.op = .store T x y) (hx : L.ev x = some (QfO (Rep.sz α) (.slice a n k) i)) (hy : L.ev y = some v) (hT : Qbd P T = some (bb, m)) (hv : v.cells.toList = ds) (hm : Rep.sz α = m)
  (hr : ∀ {w M F}, Qbi Rs w M F -> Rep.rd w M ds z) (hi : i < xs.length) : OpS P L (os (.slice a n k) xs :: Rs) o (os (.slice a n k) (xs.set i z) :: Rs) := fun ρ hρ w M F ok hs => by
 obtain ⟨F1, F2, k1, k2, kd, hos, hRs⟩ := hs
 obtain ⟨hb, a', k', hc, hk, hh⟩ := hos
 injection hc with c1 c2 c3
 subst c1; subst c2; subst c3
 have hrd := hr hRs
 cases a with
 | none => have := hh.1; subst this; simp at hi
 | some ad =>
  obtain ⟨cells, E, h0, h1, h2, h3, h4⟩ := hh
  obtain ⟨b, off, sp⟩ := ad
  simp at h0 h1 h2 h3 h4; subst h0
  have hds := Rep.len hrd
  have hbi : (i + 1) * Rep.sz α <= xs.length * Rep.sz α := Nat.mul_le_mul_right _ hi
  have hbk : xs.length * Rep.sz α <= k * Rep.sz α := Nat.mul_le_mul_right _ hk
  rw [Nat.add_mul] at hbi
  have hn' : v.cells.size = m := by rw [<- Array.length_toList, hv, hds, hm]
  have hr' := QgM (P := P) (w := w) (off := off + i * Rep.sz α) hT hn' (fun u hu => by rw [hv] at hu; exact Rep.one hrd u hu) h2 (by rw [hn', <- hm]; omega)
  have hstep := QfR ok (k1 b h1) (cells.toList.take (off + i * Rep.sz α) ++ ds ++ cells.toList.drop (off + i * Rep.sz α + Rep.sz α)).toArray
  refine ⟨_, M, F, ?_, hstep, F1, F2, k1, k2, kd, ?_, ?_⟩
  ·rw [hv, hn', <- hm] at hr'
   have hp : QfO (Rep.sz α) (.slice (some ⟨b, off, none⟩) xs.length k) i = .pointer (some ⟨b, off + i * Rep.sz α, none⟩) := by simp [QfO, QbE]
   simp [execOp, hop, hρ _ _ hx, hρ _ _ hy, hp, hr']
  ·refine ⟨by simpa using hb, some ⟨b, off, none⟩, k, by simp, by simpa using hk, _, E, rfl, h1, setRow_heap w b _ _ E (0, 0) h2, ?_, ?_⟩
   ·simp only [List.size_toArray, List.length_append, List.length_take, List.length_drop, Array.length_toList, hds]; omega
   ·exact Qe7 (QkF h4 i z ds hrd hi (by omega)) hstep.ext
  ·exact QcT hRs hstep.ext (fun b' hb' => setRow_other w b b' _ (fun e => kd b h1 (e ▸ hb')))
theorem OpS.storeOs {P : Program} {L : Env} {o : Oper} {β : Type} [RepE β] {T x y a n k i v bb m} {xs : List β} (z : β) (hop : o.op = .store T x y) (hx : L.ev x = some (QfO (Rep.sz β) (.slice a n k) i)) (hy : L.ev y = some v) (hT : Qbd P T = some (bb, m)) (hv : v.cells.toList = RepE.ex z) (hm : Rep.sz β = m)
  (hok : RepE.ok z) (hi : i < xs.length) : OpS P L [os (.slice a n k) xs] o [os (.slice a n k) (xs.set i z)] :=
 OpS.storeOs' z (RepE.ex z) hop hx hy hT hv hm (fun _ => RepE.rd_ex hok) hi
theorem OpA.sliceSl {P : Program} {L : Env} {o : Oper} {α : Type} [Rep α] {T x a n k e sz by_} {xs : List α} {lo hi : Option Operand} (l h : Nat) (hop : o.op = .slice T x lo hi none) (hx : L.ev x = some (.slice a n k)) (hT : QfF P T = some (e, sz, by_)) (hs : Rep.sz α = sz)
  (hlo : match lo with | none => l = 0 | some y => ∃ kk, L.ev y = some (.int kk (l : Int))) (hhi : match hi with | none => h = xs.length | some y => ∃ kk, L.ev y = some (.int kk (h : Int))) (h1 : l <= h) (h2 : h <= xs.length) :
  OpA P L [sl (.slice a n k) xs] o (fun c : Value => c) (fun c => [sl c ((xs.take h).drop l)]) := fun ρ hρ w M F ok hsA => by
 obtain ⟨F1, F2, k1, k2, kd, ⟨hb, a', k', hc, hk, hh⟩, _⟩ := hsA
 injection hc with c1 c2 c3
 subst c1; subst c2; subst c3
 have hrun : (execOp ρ o).run P w = .ok (.value (.slice (if k = l then a else a.map (·.add (l * sz))) (h - l) (k - l))) w := by
  have hu := QdS hT
  have e1 : execOp ρ o = (do pure (.value (<- Instr.sliceAt T (ρ x) (lo.map ρ) (hi.map ρ) ((none : Option Operand).map ρ)))) := by unfold execOp; rw [hop]
  rw [e1, hρ _ _ hx]
  simp only [Instr.sliceAt, Instr.slice, Sem.run_bind, run_underlying hu, Result.andThen_ok, Option.map_none]
  have hsz := Qd8 hT w
  cases lo with
  | none =>
   simp only at hlo
   cases hi with
   | none =>
    simp only at hhi; subst hlo; subst hhi
    simp [Instr.sliceBounds, hsz]
   | some y =>
    obtain ⟨kk, hy⟩ := hhi; subst hlo
    have hle : (h : Int) <= k := by omega
    have hle' : h <= k := by omega
    simp [Instr.sliceBounds, Instr.sliceBound, hρ _ _ hy, asIntOf, hle', hsz]
  | some z =>
   obtain ⟨kz, hz⟩ := hlo
   cases hi with
   | none =>
    simp only at hhi; subst hhi
    have hle : (l : Int) <= xs.length := by omega
    simp [Instr.sliceBounds, Instr.sliceBound, hρ _ _ hz, asIntOf, hle, hsz, h1]
   | some y =>
    obtain ⟨kk, hy⟩ := hhi
    have hle : (h : Int) <= k := by omega
    have hle2 : (l : Int) <= h := by omega
    simp [Instr.sliceBounds, Instr.sliceBound, hρ _ _ hy, hρ _ _ hz, asIntOf, hle, hle2, hsz, h1, show h <= k by omega]
 have hlen : ((xs.take h).drop l).length = h - l := by simp; omega
 refine ⟨_, w, M, F, hrun, Qfc.refl ok, F, fun _ => False, fun _ h => h, fun _ h => h.elim, fun _ _ h => h, ⟨?_, _, _, by rw [hlen], by rw [hlen]; omega, ?_⟩, trivial⟩
 ·have : ((xs.take h).drop l).length * Rep.bytes α <= xs.length * Rep.bytes α := Nat.mul_le_mul_right _ (by rw [hlen]; omega)
  omega
 ·by_cases hkl : k = l
  ·rw [if_pos hkl]
   have hx0 : (xs.take h).drop l = [] := by apply List.eq_nil_of_length_eq_zero; rw [hlen]; omega
   cases a with
   | none => exact ⟨hx0, by omega⟩
   | some ad => exact .inl hx0
  ·rw [if_neg hkl]
   cases a with
   | none => obtain ⟨rfl, hk0⟩ := hh; exact ⟨by simp, by omega⟩
   | some ad =>
    rcases hh with hh | ⟨cells, E, fz, q0, q1, q2, q3⟩
    ·exact .inl (by subst hh; simp)
    ·right
     obtain ⟨b, off, sp⟩ := ad
     simp at q0 q1 q2 q3; subst q0
     refine ⟨cells, E, fz, by simp [QbE], by simpa [QbE] using q1, by simpa [QbE] using q2, ?_⟩
     intro i y hy
     rw [List.getElem?_drop, List.getElem?_take] at hy
     split at hy
     ·obtain ⟨ecs, e1, e2⟩ := q3 (l + i) y hy
      refine ⟨ecs, fun j u hu => ?_, e2⟩
      have := e1 j u hu
      rw [<- this]
      congr 1
      simp only [QbE, hs]
      rw [Nat.add_mul, <- hs]; omega
     ·simp at hy
end Go.SL
namespace Go.SL
open Go
theorem Qn2 {c : Value} {n cs} {w M F} (h : (Cr c n cs).h w M F) : ∃ a k, c = .slice a n k := by obtain ⟨b, T, _, h, _⟩ := h; exact ⟨_, _, h⟩
theorem Qkh {α : Type} [Rep α] {w : World} {M : Blk} : QiJ (α := α) w M (.slice none 0 0) [] := ⟨by simp, none, 0, rfl, by simp, rfl, rfl⟩
theorem Qqp {L : Env} {x : Operand} {k : IntKind} {n : Int} (h : L.ev x = some (.int k n)) (h0 : 0 <= n) : L.ev x = some (.int k (n.toNat : Int)) := by rw [h, Int.toNat_of_nonneg h0]
theorem Qgi {α : Type} {xs : List α} {l h : Nat} (h1 : l <= h) (h2 : h <= xs.length) : ((xs.take h).drop l).length = h - l := by simp; omega
end Go.SL
namespace Go.SL
open Go
theorem Qn0 {C : Cx} {ks : List Kn} {L : Env} {A : List SP} {c : Operand} {x y : Code} (hc : L.ev c = some (.bool true)) (h : JK C (.code x :: ks) L A) : JK C (.code (.cond c x y) :: ks) L A :=
 Qlb hc (fun _ => h) (fun e => by cases e)
theorem Qn8 {C : Cx} {ks : List Kn} {L : Env} {A : List SP} {c : Operand} {x y : Code} (hc : L.ev c = some (.bool false)) (h : JK C (.code y :: ks) L A) : JK C (.code (.cond c x y) :: ks) L A :=
 Qlb hc (fun e => by cases e) (fun _ => h)
theorem Qbl {p : Prop} (e : Bool) (hT : e = true -> p) (hF : e = false -> p) : p := by cases e with | true => exact hT rfl | false => exact hF rfl
theorem OpX.fact {P L A o R} {V : List Value -> Value} {B : List Value -> List SP} {φ : Prop} (i : Nat) (hA : A[i]? = some R) (hR : ∀ {w M F}, R.h w M F -> φ) (h : φ -> OpX P L A o V B) : OpX P L A o V B := by
 intro a w M F next Q hx ok hsp hn
 exact h (hR (Qbe hA hsp)) a w M F next Q hx ok hsp hn
theorem OpX.pre {P L A Ac Ar B' o} {V : List Value -> Value} {B : List Value -> List SP} (is : List Nat) (ht : take A is = some (Ac, Ar)) (e : Ent Ac B') (h : OpX P L (B' ++ Ar) o V B) : OpX P L A o V B := by
 intro a w M F next Q hx ok hsp hn
 obtain ⟨M', F', s, h1⟩ := Ent.local ht e w M F ok hsp
 exact h a w M' F' next Q hx s.ok h1 (fun g w' M'' F'' s' h' => hn g w' M'' F'' (s.trans s') h')
theorem OpX.post {P L A o} {V : List Value -> Value} {B B' : List Value -> List SP} (e : ∀ g, Ent (B g) (B' g)) (h : OpX P L A o V B) : OpX P L A o V B' := by
 intro a w M F next Q hx ok hsp hn
 refine h a w M F next Q hx ok hsp (fun g w' M' F' s h' => ?_)
 obtain ⟨M2, F2, s2, h2⟩ := e g w' M' F' s.ok h'
 exact hn g w' M2 F2 (s.trans s2) h2
end Go.SL
namespace Go.SL
open Go
theorem OpX.frame {P L A Ac Ar o} {V : List Value -> Value} {B : List Value -> List SP} (is : List Nat) (ht : take A is = some (Ac, Ar)) (h : OpX P L Ac o V B) : OpX P L A o V (fun g => B g ++ Ar) := by
 intro a w M F next Q hx ok hs hn
 obtain ⟨F1, F2, h1, h2, hd, hA, hB⟩ := QdR (QeE ht hs)
 refine h a w M F1 next Q hx ⟨ok.bd, fun b hb => ok.sub b (h1 b hb)⟩ hA (fun g w' M' F1' s hB' => ?_)
 obtain ⟨s', kp, hd'⟩ := Qfc.frame ok h1 h2 hd s
 exact hn g w' M' _ s' (QcP (fun b hb => .inl hb) (fun b hb => .inr hb) hd' hB' (QcT hB s.ext kp))
theorem Ent.of_eq {A A' : List SP} (h : A = A') : Ent A A' := h ▸ Ent.refl A
section
variable {C : Cx} {L : Env} {ops : Array Oper} {ds : List OpD} {S : List Qdj} {i : Nat} {o : Oper} {d : OpD}
theorem Qn4 {C : Cx} {ks : List Kn} {L : Env} {A : List SP} {ops : Array Oper} {rest : List Oper} {o : Oper} {d j dj b} (hg : o.guard = some (j, b)) (hd : o.dst = some d) (hn : Nat.blt d C.n = true) (hj : ((ops[j]?).bind (·.dst)) = some dj) (hjn : Nat.blt dj C.n = true) (hv : L.get dj = some undef)
  (h : JO C ops rest ks ((d, undef) :: L) A) : JO C ops (o :: rest) ks L A := by
 intro a w M F st
 refine wpList_step fun K hK => ?_
 have hdj : dj < a.tmps.size := by rw [st.sz]; exact Nat.blt_eq ▸ hjn
 have h1 := st.sat _ _ hv
 have hy : yielded ops a.tmps j = none := by
  unfold yielded
  rw [hj]
  simp only [Option.bind_some]
  rw [Array.getElem?_eq_getElem hdj]
  simp only [Array.getD_eq_getD_getElem?, Array.getElem?_eq_getElem hdj, Option.getD_some] at h1
  rw [h1]; rfl
 have : Region.wanted o (yielded ops a.tmps) = false := by
  simp only [Region.wanted, hg, hy]; cases b <;> rfl
 rw [this, hd]
 exact hK _ _ (h _ w M F ⟨st.step, by simp [Act.put, st.sz], st.df, Env.sat_put st.sat st.sz hn, st.sp⟩)
end
end Go.SL
namespace Go.SL
open Go
theorem OpA.buildSlice0 {P : Program} {L : Env} {A : List SP} {o : Oper} {T e sz by_} (hop : o.op = .buildSlice T 0 #[]) (hT : QfF P T = some (e, sz, by_)) :
  OpA P L A o (fun c : Value => c) (fun c => Cr c 0 [] :: A) := fun ρ hρ w M F ok hs => by
 obtain ⟨M', F', s, h⟩ := QiQ ok hs #[] e (Cr (.slice (some ⟨w.heap.size, 0, none⟩) 0 0) 0 []) (fun F1 h => ⟨w.heap.size, e, h, rfl, by simp⟩)
 refine ⟨.slice (some ⟨w.heap.size, 0, none⟩) 0 0, _, M', F', ?_, s, h⟩
 simp only [execOp, hop]
 simp [Instr.buildSlice, run_underlying (QdS hT), Qd8 hT, newRow, Instr.fill, show Array.range 0 = #[] from rfl]
end Go.SL
namespace Go.SL
open Go
def Qhf (FA : List SP) : SP where
 h w M F := ∀ R ∈ FA, R.p = true /\ R.h w M F
 p := true
 st := fun h e k R hR => ⟨(h R hR).1, R.st (h R hR).2 e k⟩
 up := fun h e R hR => ⟨(h R hR).1, R.up (h R hR).2 e⟩
 pers := fun _ => fun h R hR => ⟨(h R hR).1, R.pers (h R hR).1 (h R hR).2⟩
theorem Qld {FA : List SP} : ∀ {w M F}, (∀ R ∈ FA, R.p = true /\ R.h w M F) -> Qbi FA w M F := by
 induction FA with
 | nil => intros; trivial
 | cons R FA ih =>
  intro w M F h
  exact ⟨fun _ => False, F, fun _ h => h.elim, fun _ h => h, fun _ h _ => h, R.pers (h R (by simp)).1 (h R (by simp)).2, ih fun S hS => h S (by simp [hS])⟩
theorem Qex {P : Program} {f : FuncId} {args : Array Value} {A1 FA : List SP} {γ : Type} {I : γ -> Prop} {V : γ -> Value} {B : γ -> List SP} (h : FT P f args (A1 ++ FA) I V B) : FT P f args (A1 ++ [Qhf FA]) I V B := by
 intro w M F ok hs
 obtain ⟨F1, F2, h1, h2, hd, hA, F3, F4, h3, h4, hd2, hp, _⟩ := QdR hs
 exact h w M F ok (QcP h1 (fun b h => h2 b (h3 b h)) (fun b a b' => hd b a (h3 b b')) hA (Qld hp))
theorem Ent.pall {A Ac Ar : List SP} (is : List Nat) (ht : SL.take A is = some (Ac, Ar)) (hp : Ac.all (·.p) = true) : Ent A (Qhf Ac :: A) := by
 intro w M F ok hs
 refine ⟨M, F, Qfc.refl ok, fun _ => False, F, fun _ h => h.elim, fun _ h => h, fun _ h _ => h, ?_, hs⟩
 intro R hR
 have hpR := List.all_eq_true.1 hp R hR
 refine ⟨hpR, ?_⟩
 have key : ∀ (is : List Nat) (A Ac Ar : List SP) (w : World) (M F : Blk), SL.take A is = some (Ac, Ar) -> Qbi A w M F -> ∀ R ∈ Ac, R.p = true -> R.h w M (fun _ => False) := by
  intro is
  induction is with
  | nil => intro A Ac Ar w M F h hs R hR; simp [SL.take] at h; rw [h.1] at hR; cases hR
  | cons i is ih =>
   intro A Ac Ar w M F h hs R hR hp
   simp only [SL.take] at h
   split at h
   ·simp at h
   ·rename_i S hS
    split at h
    ·rename_i x y ht
     simp at h
     obtain ⟨rfl, rfl⟩ := h
     rcases List.mem_cons.1 hR with e | e
     ·subst e; exact R.pers hp (Qbe hS hs)
     ·cases hSp : S.p with
      | true => rw [hSp] at ht; exact ih _ _ _ w M F ht hs R e hp
      | false =>
       rw [hSp] at ht
       obtain ⟨G1, G2, k1, k2, kd, kR, kA⟩ := QiS hS hs
       exact ih _ _ _ w M G2 ht kA R e hp
    ·simp at h
 exact key is A Ac Ar w M F ht hs R hR hpR
theorem Qcw {α : Type} {xs : List α} {i : Nat} {d : α} (hi : i < xs.length) : xs.getD i d ∈ xs := by
 have : xs.getD i d = xs[i] := by simp [List.getD, List.getElem?_eq_getElem hi]
 rw [this]; exact List.getElem_mem hi
theorem Qn1 (l : List Value) (j off : Nat) (cs : Array Value) (h : off + j + l.length <= cs.size) :
  (l.zipIdx j).foldl (fun cs (c, j) => cs.setIfInBounds (off + j) c) cs = (cs.toList.take (off + j) ++ l ++ cs.toList.drop (off + j + l.length)).toArray := by
 induction l generalizing j cs with
 | nil => simp
 | cons c l ih =>
  simp only [List.zipIdx_cons, List.foldl_cons]
  simp only [List.length_cons] at h
  rw [ih (j + 1) _ (by simp; omega)]
  apply Array.toList_inj.1
  apply List.ext_getElem?
  intro i
  simp only [Array.toList_setIfInBounds]
  simp only [List.getElem?_append, List.length_append, List.length_take, List.length_set, Array.length_toList, List.getElem?_take, List.getElem?_set, List.getElem?_drop, List.length_cons, List.getElem?_cons]
  by_cases h1 : i < off + j
  ·simp [h1, show i < off + (j+1) by omega, show i < min (off + (j+1)) cs.size by omega, show i < min (off + (j+1)) cs.size + l.length by omega, show i < min (off+j) cs.size by omega, show i < min (off+j) cs.size + (l.length+1) by omega, show ¬ (off + j = i) by omega]
  by_cases h2 : i = off + j
  ·subst h2
   simp [show off + j < off + (j+1) by omega, show off + j < min (off + (j+1)) cs.size by omega, show min (off+j) cs.size = off + j by omega, show off + j < cs.size by omega, show off + j < min (off + (j+1)) cs.size + l.length by omega]
  ·by_cases h3 : i < off + j + (l.length + 1)
   ·simp [h1, show ¬ i < off + (j+1) by omega, show min (off + (j+1)) cs.size = off + j + 1 by omega, show min (off+j) cs.size = off + j by omega, show ¬ (i - (off+j) = 0) by omega, h3, show i < off + j + 1 + l.length by omega, show ¬ i < off + j + 1 by omega]
    congr 1
   ·simp [h1, show ¬ i < off + (j+1) by omega, show min (off + (j+1)) cs.size = off + j + 1 by omega, show min (off+j) cs.size = off + j by omega, show ¬ (i - (off+j) = 0) by omega, h3, show ¬ i < off + j + 1 + l.length by omega, show ¬ i < off + j + 1 by omega]
    rw [if_neg (by omega)]
    congr 1; omega
def Qgy : List Value -> List Value | [] => [] | v :: vs => v.cells.toList ++ Qgy vs
theorem QlW {sz : Nat} : ∀ (vs : List Value) (s : Nat) (cells : Array Value), (∀ v ∈ vs, v.cells.size = sz) -> cells.size = s * sz + vs.length * sz ->
  Instr.fill (fun i => some (i * sz, sz)) cells ((vs.zipIdx s).map (fun p => (p.2, p.1))) = some (cells.toList.take (s * sz) ++ Qgy vs).toArray
 | [], s, cells, _, hs => by
  simp [Instr.fill, Qgy]
  simp at hs
  rw [<- hs, <- Array.length_toList, List.take_length]
 | v :: vs, s, cells, hv, hs => by
  have h1 := hv v (by simp)
  simp only [List.length_cons, Nat.add_mul, Nat.one_mul] at hs
  have h2 : (v.cells.zipIdx.foldl (fun cs (c, j) => cs.setIfInBounds (s * sz + j) c) cells) = (cells.toList.take (s * sz) ++ v.cells.toList ++ cells.toList.drop (s * sz + sz)).toArray := by
   have := Qn1 v.cells.toList 0 (s * sz) cells (by simp [h1]; omega)
   simp only [Nat.add_zero, Array.length_toList, h1] at this
   rw [<- this, <- Array.foldl_toList]
   simp
  simp only [List.zipIdx_cons, List.map_cons, Instr.fill]
  rw [if_neg (by simp [h1]; omega), h2, QlW vs (s + 1) _ (fun v h => hv v (by simp [h])) (by simp [h1, Nat.add_mul]; omega)]
  simp only [Qgy, Nat.add_mul, Nat.one_mul]
  congr 2
  rw [<- List.append_assoc]
  congr 1
  have : (List.take (s * sz) cells.toList ++ v.cells.toList).length = s * sz + sz := by simp [h1]; omega
  rw [List.take_append_of_le_length (by omega), <- this, List.take_length]
section
variable {P : Program} {L : Env} {A : List SP} {o : Oper}
theorem OpA.buildSliceV {T n xs e sz by_ zs ps} (vs cs : List Value) (hop : o.op = .buildSlice T n xs) (hT : QfF P T = some (e, sz, by_)) (hz : QdX P T = some zs) (hn : Nat.ble (n * sz) 16777216 = true)
  (hx : ∀ ρ : Operand -> Value, (∀ x u, L.ev x = some u -> ρ x = u) -> xs.map (fun (i, x) => (i, ρ x)) = ps)
  (hp : ps = ((vs.zipIdx 0).map (fun p => (p.2, p.1))).toArray) (hl : vs.length = n) (hv : vs.all (fun v => Nat.beq v.cells.size sz) = true) (hc : Qgy vs = cs) :
  OpA P L A o (fun c : Value => c) (fun c => Cr c n cs :: A) := by
 have := OpA.buildSlice (P := P) (L := L) (A := A) (rs := (Qgy vs).toArray) hop hT hz hn hx (by
  rw [hp]
  have h := QlW (sz := sz) vs 0 ((Array.range (n * sz)).map (zs.toArray[· % zs.toArray.size]!)) (fun v h => Nat.eq_of_beq_eq_true (List.all_eq_true.1 hv v h)) (by simp [hl])
  simpa using h)
 rw [<- hc]; simpa using this
end
section
variable {α : Type} [Rep α]
theorem QjH {w : World} {M : Blk} {cells : Array Value} {off : Nat} {xs : List α} (n : Nat) (h : Qer w M cells off xs) : Qer w M cells off (xs.take n) := fun i x hx => by
 refine h i x ?_
 rw [List.getElem?_take] at hx
 split at hx
 ·exact hx
 ·cases hx
theorem QjA {w : World} {M : Blk} {cells : Array Value} {off : Nat} {xs : List α} (n : Nat) (h : Qer w M cells off xs) : Qer w M cells (off + n * Rep.sz α) (xs.drop n) := fun i x hx => by
 rw [List.getElem?_drop] at hx
 obtain ⟨e, e1, e2⟩ := h _ x hx
 exact ⟨e, fun j u hu => by rw [<- e1 j u hu]; congr 1; rw [Nat.add_mul]; omega, e2⟩
variable {P : Program} {L : Env} {A : List SP} {o : Oper}
end
theorem Env.sub_ev {L' L : Env} (hs : Env.sub L' L) {x : Operand} {u : Value} (h : L'.ev x = some u) : L.ev x = some u := by
 cases x with
 | tmp t => exact hs t u h
 | _ => exact h
theorem OpX.start {P : Program} {L L' : Env} {A A' : List SP} {o : Oper} {V V' : List Value -> Value} {B B' : List Value -> List SP} (hs : Env.sub L' L) (hA : A = A') (hV : V = V') (hB : B = B') (h : OpX P L' A' o V' B') : OpX P L A o V B := by
 subst hA; subst hV; subst hB
 intro a w M F next Q hx ok hsp hn
 exact h a w M F next Q (fun x hm u hu => hx x hm u (Env.sub_ev hs hu)) ok hsp hn
theorem Qfd {α : Type} [Rep α] {c : Value} {xs : List α} {w M F} (h : (os c xs).h w M F) : c.oneCell' = true := by
 obtain ⟨_, a, k, rfl, _⟩ := h; rfl
theorem QlX {α : Type} [Rep α] {c : Value} {xs : List α} {w M F} (h : (sl c xs).h w M F) : c.oneCell' = true := by
 obtain ⟨_, a, k, rfl, _⟩ := h; rfl
theorem Qb9 {v : Value} (h : v.oneCell' = true) : v.cells.toList = [v] := by
 cases v <;> first | rfl | (simp [Value.oneCell'] at h)
def isP (p : Value) : Prop := ∃ b off, p = .pointer (some ⟨b, off, none⟩)
theorem Qq8 {p : Value} {cs : List Value} {w M F} (h : (Cl p cs).h w M F) : isP p := by
 obtain ⟨b, T, _, h, _⟩ := h; exact ⟨b, 0, h⟩
theorem Qrs {p : Value} {cs : List Value} {w M F} (h : (pv p cs).h w M F) : isP p := by
 obtain ⟨b, off, cells, T, fz, h, _⟩ := h; exact ⟨b, off, h⟩
theorem Qh6 (p : Value) : Qh5 (SP.fact (isP p)) p := fun h => h
theorem Ql1 {C : Cx} {X : Act -> World -> Prop} {L : Env} {A : List SP} {φ : Prop} (hφ : φ) (h : JJ C X L (SP.fact φ :: A)) : JJ C X L A :=
 fun a w M F st => h a w M F ⟨st.step, st.sz, st.df, st.sat, Qht hφ st.sp⟩
def lax (R : SP) : Prop := ∀ {w : World} {M M' F : Blk}, (∀ b, M b -> M' b) -> R.h w M F -> R.h w M' F
theorem QjM : ∀ {A : List SP}, (∀ R ∈ A, lax R) -> ∀ {w : World} {M M' F : Blk}, (∀ b, M b -> M' b) -> Qbi A w M F -> Qbi A w M' F
 | [], _, _, _, _, _, _, _ => trivial
 | R :: A, h, w, M, M', F, hm, ⟨F1, F2, h1, h2, hd, hR, hA⟩ => ⟨F1, F2, h1, h2, hd, h R (by simp) hm hR, QjM (fun R hR => h R (by simp [hR])) hm hA⟩
theorem Qgm {α : Type} [Rep α] {P : Program} {f : FuncId} {args : Array Value} {A : List SP} {γ : Type} {I : γ -> Prop} {V : γ -> Value} {B : γ -> List SP} {c : Value} {xs : List α}
  (hB : ∀ g, ∀ R ∈ B g, lax R) (h : FT P f args (sl c xs :: A) I V B) : FT P f args (os c xs :: A) I V (fun g => os c xs :: B g) := by
 intro w M F ok hs
 obtain ⟨F1, F2, h1, h2, hd, hos, hA⟩ := hs
 have e1 : Ext w M w (fun b => M b /\ ¬ F1 b) := ⟨rfl, rfl, rfl, Nat.le_refl _, fun b _ hm => ⟨fun h => hm h.1, rfl⟩⟩
 have ok1 : Ok w (fun b => M b /\ ¬ F1 b) F2 := ⟨fun b h => ok.bd b h.1, fun b h => ⟨ok.sub b (h2 b h), fun h' => hd b h' h⟩⟩
 have hsl : (sl c xs).h w (fun b => M b /\ ¬ F1 b) (fun _ => False) := by
  obtain ⟨hb, a, k, hc, hk, h⟩ := hos
  cases a with
  | none => exact ⟨hb, none, k, hc, hk, h⟩
  | some ad =>
   obtain ⟨cells, T, q0, q1, q2, q3, q4⟩ := h
   exact ⟨hb, some ad, k, hc, hk, .inr ⟨cells, T, (0, 0), q0, q2, fun h => h.2 q1, Qe7 q4 e1⟩⟩
 have hA1 := QcT hA e1 (fun _ _ => rfl)
 refine (h w _ F2 ok1 ⟨fun _ => False, F2, fun _ h => h.elim, fun _ h => h, fun _ h _ => h, hsl, hA1⟩).mono ?_
 rintro e w' ⟨g, M', F', rfl, hI, s, hB'⟩
 have key : ∀ b, F1 b -> ¬ M' b /\ w'.heap[b]? = w.heap[b]? := fun b hb => s.ext.old b (ok.bd b (ok.sub b (h1 b hb))) (fun h => h.2 hb)
 have ext : Ext w M w' (fun b => M' b \/ F1 b) := ⟨s.ext.os, s.ext.tape, s.ext.out, s.ext.size, fun b hb hm => by
  obtain ⟨m1, q⟩ := s.ext.old b hb (fun h => hm h.1)
  exact ⟨fun h => h.elim m1 (fun h => hm (ok.sub b (h1 b h))), q⟩⟩
 refine ⟨g, fun b => M' b \/ F1 b, fun b => F' b \/ F1 b, rfl, hI, ⟨ext, ⟨?_, ?_⟩, ?_⟩, F1, F', fun b h => .inr h, fun b h => .inl h, fun b h h' => (key b h).1 (s.ok.sub b h'), ?_, ?_⟩
 ·rintro b (h | h)
  ·exact s.ok.bd b h
  ·exact Nat.lt_of_lt_of_le (ok.bd b (ok.sub b (h1 b h))) s.ext.size
 ·rintro b (h | h)
  ·exact .inl (s.ok.sub b h)
  ·exact .inr h
 ·intro b hm hf
  obtain ⟨a1, a2, a3⟩ := s.fr b ⟨hm, fun h => hf (h1 b h)⟩ (fun h => hf (h2 b h))
  exact ⟨.inl a1, fun h => h.elim a2 (fun h => hf (h1 b h)), a3⟩
 ·exact (os c xs).st hos ext (fun b hb => (key b hb).2)
 ·exact QjM (hB g) (fun b h => .inl h) hB'
theorem QhU {P : Program} {f : FuncId} {args : Array Value} {A A' : List SP} {γ : Type} {I : γ -> Prop} {V : γ -> Value} {B : γ -> List SP} (e : Ent A' A) (h : FT P f args A I V B) : FT P f args A' I V B := by
 intro w M F ok hs
 obtain ⟨M1, F1, s1, h1⟩ := e w M F ok hs
 refine (h w M1 F1 s1.ok h1).mono ?_
 rintro e w' ⟨g, M', F', rfl, hI, s, hB'⟩
 exact ⟨g, M', F', rfl, hI, s1.trans s, hB'⟩
theorem Qk8 {P : Program} {f : FuncId} {args : Array Value} {A : List SP} {γ : Type} {I : γ -> Prop} {V : γ -> Value} {B : γ -> List SP} {R : SP} {c : Value} {n : Nat}
  (hR : ∀ {w M F}, R.h w M F -> ∃ a k, c = .slice a n k) (h : ∀ a k, c = .slice a n k -> FT P f args (R :: A) I V B) : FT P f args (R :: A) I V B := by
 intro w M F ok hs
 obtain ⟨F1, F2, h1, h2, hd, hr, hA⟩ := hs
 obtain ⟨a, k, e⟩ := hR hr
 exact h a k e w M F ok ⟨F1, F2, h1, h2, hd, hr, hA⟩
def bnd (L : Env) (o : Option Operand) (d l : Nat) : Prop := match o with | none => l = d | some y => ∃ kk, L.ev y = some (.int kk (l : Int))
theorem QkO {P : Program} {L : Env} {o : Oper} {T x a n k e sz by_} {lo hi mx : Option Operand} (l h m : Nat) (hop : o.op = .slice T x lo hi mx) (hx : L.ev x = some (.slice a n k)) (hT : QfF P T = some (e, sz, by_))
  (hlo : bnd L lo 0 l) (hhi : bnd L hi n h)
  (hmx : bnd L mx k m) (h1 : l <= h) (h2 : h <= m) (h3 : m <= k) (hh : hi = none -> mx = none)
  (ρ : Operand -> Value) (hρ : ∀ x u, L.ev x = some u -> ρ x = u) (w : World) :
  (execOp ρ o).run P w = .ok (.value (.slice (if m = l then a else a.map (·.add (l * sz))) (h - l) (m - l))) w := by
 have hu := QdS hT
 have e1 : execOp ρ o = (do pure (.value (<- Instr.sliceAt T (ρ x) (lo.map ρ) (hi.map ρ) (mx.map ρ)))) := by unfold execOp; rw [hop]
 rw [e1, hρ _ _ hx]
 simp only [Instr.sliceAt, Instr.slice, Sem.run_bind, run_underlying hu, Result.andThen_ok]
 have hsz := Qd8 hT w
 have q1 : (m : Int) <= k := by omega
 have q2 : (h : Int) <= m := by omega
 have q3 : (l : Int) <= h := by omega
 have q4 : (h : Int) <= k := by omega
 cases mx with
 | none =>
  simp only [bnd] at hmx; subst hmx
  cases lo with
  | none =>
   simp only [bnd] at hlo; subst hlo
   cases hi with
   | none => simp only [bnd] at hhi; subst hhi; simp [Instr.sliceBounds, hsz]
   | some y => obtain ⟨kk, hy⟩ := hhi; simp [Instr.sliceBounds, Instr.sliceBound, hρ _ _ hy, asIntOf, h2, hsz]
  | some z =>
   obtain ⟨kz, hz⟩ := hlo
   cases hi with
   | none => simp only [bnd] at hhi; subst hhi; simp [Instr.sliceBounds, Instr.sliceBound, hρ _ _ hz, asIntOf, hsz, h1]
   | some y => obtain ⟨kk, hy⟩ := hhi; simp [Instr.sliceBounds, Instr.sliceBound, hρ _ _ hy, hρ _ _ hz, asIntOf, hsz, h1, h2]
 | some u =>
  obtain ⟨ku, hu2⟩ := hmx
  cases lo with
  | none =>
   simp only [bnd] at hlo; subst hlo
   cases hi with
   | none => cases hh rfl
   | some y => obtain ⟨kk, hy⟩ := hhi; simp [Instr.sliceBounds, Instr.sliceBound, hρ _ _ hu2, hρ _ _ hy, asIntOf, h2, h3, hsz]
  | some z =>
   obtain ⟨kz, hz⟩ := hlo
   cases hi with
   | none => cases hh rfl
   | some y => obtain ⟨kk, hy⟩ := hhi; simp [Instr.sliceBounds, Instr.sliceBound, hρ _ _ hu2, hρ _ _ hy, hρ _ _ hz, asIntOf, hsz, h1, h2, h3]
section
variable {α : Type} [Rep α]
theorem Qnt {w : World} {M : Blk} {a : Option Addr} {k sz : Nat} {xs : List α} {l h m : Nat} (hs : Rep.sz α = sz) (hr : QiJ w M (.slice a xs.length k) xs) (h1 : l <= h) (h2 : h <= xs.length) (h3 : h <= m) (h4 : m <= k) :
  QiJ w M (.slice (if m = l then a else a.map (·.add (l * sz))) (h - l) (m - l)) ((xs.take h).drop l) := by
 obtain ⟨hb, a', k', hc, hk, hh⟩ := hr
 injection hc with c1 c2 c3
 subst c1; subst c3
 have hlen : ((xs.take h).drop l).length = h - l := by simp; omega
 refine ⟨?_, _, _, by rw [hlen], by rw [hlen]; omega, ?_⟩
 ·have : ((xs.take h).drop l).length * Rep.bytes α <= xs.length * Rep.bytes α := Nat.mul_le_mul_right _ (by rw [hlen]; omega)
  omega
 ·by_cases hkl : m = l
  ·rw [if_pos hkl]
   have hx0 : (xs.take h).drop l = [] := by apply List.eq_nil_of_length_eq_zero; rw [hlen]; omega
   cases a with
   | none => exact ⟨hx0, by omega⟩
   | some ad => exact .inl hx0
  ·rw [if_neg hkl]
   cases a with
   | none => obtain ⟨rfl, hk0⟩ := hh; exact ⟨by simp, by omega⟩
   | some ad =>
    rcases hh with hh | ⟨cells, E, fz, q0, q1, q2, q3⟩
    ·exact .inl (by subst hh; simp)
    ·right
     obtain ⟨b, off, sp⟩ := ad
     simp at q0 q1 q2 q3; subst q0
     exact ⟨cells, E, fz, by simp [QbE], by simpa [QbE] using q1, by simpa [QbE] using q2, by
      have := QjA l (QjH h q3)
      rw [hs] at this
      simpa [QbE] using this⟩
variable {P : Program} {L : Env} {o : Oper}
theorem OpA.sliceSl3 {T x a n k e sz by_} {xs : List α} {lo : Option Operand} {y z : Operand} (l h m : Nat) (hop : o.op = .slice T x lo (some y) (some z)) (hx : L.ev x = some (.slice a n k)) (hT : QfF P T = some (e, sz, by_)) (hs : Rep.sz α = sz)
  (hlo : bnd L lo 0 l) (hhi : ∃ kk, L.ev y = some (.int kk (h : Int))) (hmx : ∃ kk, L.ev z = some (.int kk (m : Int))) (h1 : l <= h) (h2 : h <= xs.length) (h3 : h <= m) (h4 : m <= xs.length) :
  OpA P L [sl (.slice a n k) xs] o (fun c : Value => c) (fun c => [sl c ((xs.take h).drop l)]) := fun ρ hρ w M F ok hsA => by
 obtain ⟨F1, F2, k1, k2, kd, hr, _⟩ := hsA
 have hr' := hr
 obtain ⟨hb, a', k', hc, hk, hh⟩ := hr'
 injection hc with c1 c2 c3
 subst c1; subst c2; subst c3
 exact ⟨_, w, M, F, QkO l h m hop hx hT hlo hhi hmx h1 h3 (by omega) (fun h => by cases h) ρ hρ w, Qfc.refl ok, F, fun _ => False, fun _ h => h, fun _ h => h.elim, fun _ _ h => h, Qnt hs hr h1 h2 h3 (by omega), trivial⟩
theorem OpA.sliceOs {T x a n k e sz by_} {xs : List α} {lo hi : Option Operand} (l h : Nat) (hop : o.op = .slice T x lo hi none) (hx : L.ev x = some (.slice a n k)) (hT : QfF P T = some (e, sz, by_)) (hs : Rep.sz α = sz)
  (hlo : bnd L lo 0 l) (hhi : bnd L hi xs.length h) (h1 : l <= h) (h2 : h <= xs.length) :
  OpA P L [os (.slice a n k) xs] o (fun c : Value => c) (fun c => [os c ((xs.take h).drop l)]) := fun ρ hρ w M F ok hsA => by
 obtain ⟨F1, F2, k1, k2, kd, ⟨hb, a', k', hc, hk, hh⟩, _⟩ := hsA
 injection hc with c1 c2 c3
 subst c1; subst c2; subst c3
 have hlen : ((xs.take h).drop l).length = h - l := by simp; omega
 refine ⟨_, w, M, F, QkO l h k hop hx hT hlo hhi rfl h1 (by omega) (Nat.le_refl _) (fun _ => rfl) ρ hρ w, Qfc.refl ok, F1, fun _ => False, k1, fun _ h => h.elim, fun _ _ h => h, ⟨?_, _, _, by rw [hlen], by rw [hlen]; omega, ?_⟩, trivial⟩
 ·have : ((xs.take h).drop l).length * Rep.bytes α <= xs.length * Rep.bytes α := Nat.mul_le_mul_right _ (by rw [hlen]; omega)
  omega
 ·by_cases hkl : k = l
  ·rw [if_pos hkl]
   have hx0 : (xs.take h).drop l = [] := by apply List.eq_nil_of_length_eq_zero; rw [hlen]; omega
   cases a with
   | none => exact ⟨hx0, by omega⟩
   | some ad =>
    obtain ⟨cells, E, q0, q1, q2, q3, q4⟩ := hh
    exact ⟨cells, E, q0, q1, q2, by subst hkl; simp; omega, by rw [hx0]; intro i y hy; simp at hy⟩
  ·rw [if_neg hkl]
   cases a with
   | none => obtain ⟨rfl, hk0⟩ := hh; exact ⟨by simp, by omega⟩
   | some ad =>
    obtain ⟨cells, E, q0, q1, q2, q3, q4⟩ := hh
    obtain ⟨b, off, sp⟩ := ad
    simp at q0 q1 q2 q3 q4; subst q0
    refine ⟨cells, E, by simp [QbE], by simpa [QbE] using q1, by simpa [QbE] using q2, ?_, ?_⟩
    ·have : l * sz + (k - l) * sz = k * sz := by rw [<- Nat.add_mul]; congr 1; omega
     simp only [QbE]; rw [hs] at q3 ⊢; omega
    ·have := QjA l (QjH h q4)
     rw [hs] at this
     simpa [QbE] using this
end
theorem OpS.storeOsI {P : Program} {L : Env} {o : Oper} {T x y a n k i bb} {xs : List Int} {z : Int} (hop : o.op = .store T x y) (hx : L.ev x = some (QfO 1 (.slice a n k) i)) (hy : L.ev y = some (.int .i64 z)) (hT : Qbd P T = some (bb, 1)) (hok : Qac z) (hi : i < xs.length) : OpS P L [os (.slice a n k) xs] o [os (.slice a n k) (xs.set i z)] :=
 OpS.storeOs z hop hx hy hT rfl rfl hok hi
theorem OpS.storeOsB {P : Program} {L : Env} {o : Oper} {T x y a n k i bb} {xs : List Bool} {z : Bool} (hop : o.op = .store T x y) (hx : L.ev x = some (QfO 1 (.slice a n k) i)) (hy : L.ev y = some (.bool z)) (hT : Qbd P T = some (bb, 1)) (hi : i < xs.length) : OpS P L [os (.slice a n k) xs] o [os (.slice a n k) (xs.set i z)] :=
 OpS.storeOs z hop hx hy hT rfl rfl trivial hi
end Go.SL
namespace Go.SL
open Go
def pkq (q : Qdj -> Bool) (S : List Qdj) : List Nat -> List Qdj
 | [] => []
 | k :: us => match S[k]? with
  | some s => bif q s then s :: pkq q S us else pkq q S us
  | none => pkq q S us
def isN (o : Option Nat) (i : Nat) : Bool := match o with | some j => Nat.beq j i | none => false
theorem Qm0 {o : Option Nat} {i : Nat} : isN o i = (o == some i) := by
 cases o with
 | none => rfl
 | some j => show Nat.beq j i = (some j == some i); rw [Bool.eq_iff_iff]; simp
def pk (S : List Qdj) (us : List Nat) (G : GV) : List SP := (pkq (fun _ => true) S us).map (·.at G)
def kp (S : List Qdj) (us : List Nat) (i : Nat) (G : GV) : List SP := (pkq (fun s => !isN s.cons i) S us).map (·.at G)
def Qrn (n : Nat) (ms : List Nat) : List (List Nat) := ms.map fun m => (List.range n).filter fun j => m.testBit j
theorem Qe8 {n : Nat} {ms : List Nat} {i j : Nat} : j ∈ (Qrn n ms).getD i [] ↔ j < n /\ (ms.getD i 0).testBit j = true := by
 simp only [Qrn, List.getD_eq_getElem?_getD, List.getElem?_map]
 cases ms[i]? with
 | none => simp
 | some m => simp
section
variable (n : Nat) (ops : Array Oper) (ds : List OpD) (ms : List Nat) (S : List Qdj) (i : Nat)
def prM (i j : Nat) : Bool := (ms.getD i 0).testBit j
def QiW : Bool :=
 (Qgn ops i).all (fun j => Nat.blt j i && prM ms i j) &&
 (List.range ops.size).all (fun j => !prM ms i j || (Nat.blt j i && ((Qgn ops i).contains j || (Qgn ops i).any (fun k => prM ms k j))))
def QhI : Bool :=
 match ops[i]? with
 | none => false
 | some o => (!(match o.op with | .select .. => true | _ => false)) && (match o.dst with | none => true | some d => Nat.blt d n) &&
  (match o.guard with | none => true | some (j, _) => prM ms i j && Nat.blt j ops.size) &&
  (List.range ops.size).all fun j => Nat.beq i j || (match (ops[j]?).bind (·.dst) with
   | none => true
   | some d => prM ms i j || prM ms j i || (!(Qig ops o).contains d && o.dst != some d))
def QlT : Bool := (((ds[i]?).map (·.deps)).getD []).all (fun j => Nat.beq i j || (prM ms i j && Nat.blt j ops.size))
def QiI (s : Qdj) (k : Nat) : Bool :=
 (bif (QfP ds i).contains k then (match s.prod with | none => true | some j => prM ms i j && Nat.blt j ops.size) && (match s.cons with | none => true | some j => Nat.beq j i || prM ms j i) else s.cons != some i) &&
 (bif s.deps.contains i then (match s.prod with | none => false | some j => Nat.beq i j || prM ms j i) else true)
def Qk4 : Bool :=
 Nat.beq ds.length ops.size && (List.range ops.size).all fun i =>
  QiW ops ms i && QhI n ops ms i && QlT ops ds ms i && S.zipIdx.all fun (s, k) => QiI ops ds ms i s k
end
theorem QpY {C : Cx} {ops : Array Oper} {ds : List OpD} {S : List Qdj} {ms : List Nat} (h : Qk4 C.n ops ds ms S = true) : Chk C ops ds (Qrn ops.size ms) S := by
 simp only [Qk4, Bool.and_eq_true, List.all_eq_true, List.mem_range] at h
 obtain ⟨h0, h⟩ := h
 have hlt : ∀ i o, ops[i]? = some o -> i < ops.size := fun i o ho => by
  rcases Nat.lt_or_ge i ops.size with h' | h'
  ·exact h'
  ·simp [Array.getElem?_eq_none h'] at ho
 have e1 : ∀ i : Nat, i < ops.size -> ∀ j ∈ Qgn ops i, j < i /\ j ∈ (Qrn ops.size ms).getD i [] := by
  intro i hi j hj
  obtain ⟨⟨⟨a, _⟩, _⟩, _⟩ := h i hi
  simp only [QiW, Bool.and_eq_true, List.all_eq_true] at a
  have := a.1 j hj
  have hji : j < i := Nat.blt_eq ▸ this.1
  exact ⟨hji, Qe8.2 ⟨by omega, this.2⟩⟩
 refine ⟨Nat.eq_of_beq_eq_true h0, e1, ?_, ?_, ?_, ?_, ?_, ?_, ?_, ?_, ?_⟩
 ·intro i hi j hj
  obtain ⟨hjn, hj⟩ := Qe8.1 hj
  obtain ⟨⟨⟨a, _⟩, _⟩, _⟩ := h i hi
  simp only [QiW, Bool.and_eq_true, List.all_eq_true, List.mem_range] at a
  have := a.2 j hjn
  simp only [prM, hj, Bool.not_true, Bool.false_or, Bool.and_eq_true, Bool.or_eq_true, List.contains_iff_mem, List.any_eq_true] at this
  refine ⟨Nat.blt_eq ▸ this.1, ?_⟩
  rcases this.2 with h1 | ⟨k, h1, h2⟩
  ·exact .inl h1
  ·exact .inr ⟨k, h1, Qe8.2 ⟨hjn, h2⟩⟩
 ·intro i o ho cs b hsel
  obtain ⟨⟨⟨_, a⟩, _⟩, _⟩ := h i (hlt i o ho)
  simp [QhI, ho, hsel] at a
 ·intro i o d ho hd
  obtain ⟨⟨⟨_, a⟩, _⟩, _⟩ := h i (hlt i o ho)
  simp only [QhI, ho, Bool.and_eq_true] at a
  have := a.1.1.2
  rw [hd] at this
  exact this
 ·intro i o j b ho hg
  obtain ⟨⟨⟨_, a⟩, _⟩, _⟩ := h i (hlt i o ho)
  simp only [QhI, ho, Bool.and_eq_true] at a
  have := a.1.2
  rw [hg] at this
  simp only [Bool.and_eq_true] at this
  exact Qe8.2 ⟨Nat.blt_eq ▸ this.2, this.1⟩
 ·intro i o ho j hj hij d hd
  have hi := hlt i o ho
  obtain ⟨⟨⟨_, a⟩, _⟩, _⟩ := h i hi
  simp only [QhI, ho, Bool.and_eq_true, List.all_eq_true, List.mem_range] at a
  have := a.2 j hj
  rw [hd] at this
  have hne : Nat.beq i j = false := by cases e : Nat.beq i j with | false => rfl | true => exact absurd (Nat.eq_of_beq_eq_true e) hij
  simp only [hne, Bool.false_or, Bool.or_eq_true, Bool.and_eq_true, Bool.not_eq_true', List.contains_iff_mem] at this
  rcases this with (h1 | h1) | h1
  ·exact .inl (Qe8.2 ⟨hj, h1⟩)
  ·exact .inr (.inl (Qe8.2 ⟨hi, h1⟩))
  ·refine .inr (.inr ⟨?_, ?_⟩)
   ·intro hm
    have := h1.1
    simp [hm] at this
   ·intro e; have := h1.2; simp [e] at this
 ·intro i d hd j hj
  have hi : i < ops.size := by
   rw [<- Nat.eq_of_beq_eq_true h0]
   rcases Nat.lt_or_ge i ds.length with h' | h'
   ·exact h'
   ·simp [List.getElem?_eq_none h'] at hd
  obtain ⟨⟨⟨_, _⟩, a⟩, _⟩ := h i hi
  simp only [QlT, hd, Option.map_some, Option.getD_some, List.all_eq_true, Bool.or_eq_true, Bool.and_eq_true] at a
  rcases a j hj with h1 | h1
  ·exact .inl (Nat.eq_of_beq_eq_true h1).symm
  ·exact .inr (Qe8.2 ⟨Nat.blt_eq ▸ h1.2, h1.1⟩)
 ·intro i hi s k hm hu
  have a := (h i hi).2 (s, k) hm
  simp only [QiI, Bool.and_eq_true] at a
  have hc : (QfP ds i).contains k = true := by simpa using hu
  rw [hc] at a
  simp only [cond_true, Bool.and_eq_true] at a
  refine ⟨fun j hj => ?_, fun j hj => ?_⟩
  ·have := a.1.1; rw [hj] at this
   simp only [Bool.and_eq_true] at this
   exact Qe8.2 ⟨Nat.blt_eq ▸ this.2, this.1⟩
  ·have := a.1.2; rw [hj] at this
   simp only [Bool.or_eq_true] at this
   rcases this with h1 | h1
   ·exact .inl (Nat.eq_of_beq_eq_true h1)
   ·exact .inr (Qe8.2 ⟨hi, h1⟩)
 ·intro i hi s k hm hc
  have a := (h i hi).2 (s, k) hm
  simp only [QiI, Bool.and_eq_true] at a
  cases e : (QfP ds i).contains k with
  | true => simpa using e
  | false => rw [e] at a; simp [hc] at a
 ·intro i hi s k hm hd
  have a := (h i hi).2 (s, k) hm
  simp only [QiI, Bool.and_eq_true] at a
  have hc : s.deps.contains i = true := by simpa using hd
  have a2 := a.2
  rw [hc] at a2
  simp only [cond_true] at a2
  cases hp : s.prod with
  | none => rw [hp] at a2; simp at a2
  | some j =>
   rw [hp] at a2
   simp only [Bool.or_eq_true] at a2
   rcases a2 with h1 | h1
   ·exact ⟨j, rfl, .inl (Nat.eq_of_beq_eq_true h1)⟩
   ·exact ⟨j, rfl, .inr (Qe8.2 ⟨hi, h1⟩)⟩
def Qnp : List Nat -> Bool
 | a :: b :: l => Nat.blt a b && Qnp (b :: l)
 | _ => true
def Qi3 (n : Nat) (ops : Array Oper) (ds : List OpD) (ms : List Nat) (S : List Qdj) : Bool :=
 Qk4 n ops ds ms S && ds.all fun d => Qnp d.uses
theorem Qkt {a : Nat} {l : List Nat} (h : Qnp (a :: l) = true) : Qnp l = true := by
 cases l with
 | nil => rfl
 | cons b l => simp only [Qnp, Bool.and_eq_true] at h; exact h.2
theorem Qla : ∀ {l : List Nat} {a : Nat}, Qnp (a :: l) = true -> ∀ b ∈ l, a < b
 | [], _, _, b, hb => by cases hb
 | c :: l, a, h, b, hb => by
  have h1 : a < c := by simp only [Qnp, Bool.and_eq_true] at h; exact Nat.blt_eq ▸ h.1
  rcases List.mem_cons.1 hb with rfl | hb
  ·exact h1
  ·exact Nat.lt_trans h1 (Qla (Qkt h) b hb)
theorem Qdq (n : Nat) (s : Qdj) (S : List Qdj) (r : Nat -> Qdj -> Bool) : Qa4 n (s :: S) r = bif r n s then s :: Qa4 (n + 1) S r else Qa4 (n + 1) S r := by
 unfold Qa4
 rw [List.zipIdx_cons, List.filter_cons]
 cases h : r n s <;> simp [h]
theorem QeM (r : Nat -> Qdj -> Bool) : ∀ (A B : List Qdj) (n : Nat), Qa4 n (A ++ B) r = Qa4 n A r ++ Qa4 (n + A.length) B r
 | [], B, n => by simp [Qa4]
 | s :: A, B, n => by
  rw [List.cons_append, Qdq, Qdq, QeM r A B (n + 1)]
  rw [show n + (s :: A).length = n + 1 + A.length by simp; omega]
  cases r n s <;> simp
theorem Qga {r r' : Nat -> Qdj -> Bool} : ∀ (S : List Qdj) (n : Nat), (∀ k s, S[k]? = some s -> r (n + k) s = r' (n + k) s) -> Qa4 n S r = Qa4 n S r'
 | [], n, _ => rfl
 | s :: S, n, h => by
  have h0 : r n s = r' n s := by simpa using h 0 s rfl
  have h1 := Qga S (n + 1) (r := r) (r' := r') (fun k t hk => by
   have := h (k + 1) t (by simpa using hk)
   rw [show n + 1 + k = n + (k + 1) by omega]; exact this)
  rw [Qdq, Qdq, h0, h1]
theorem QfD {r : Nat -> Qdj -> Bool} : ∀ (S : List Qdj) (n : Nat), (∀ k s, S[k]? = some s -> r (n + k) s = false) -> Qa4 n S r = []
 | [], n, _ => rfl
 | s :: S, n, h => by
  rw [Qdq, (by simpa using h 0 s rfl : r n s = false), QfD S (n + 1) (fun k t hk => by
   have := h (k + 1) t (by simpa using hk)
   rw [show n + 1 + k = n + (k + 1) by omega]; exact this)]
  rfl
theorem Qf4 {r : Nat -> Qdj -> Bool} : ∀ (S : List Qdj) (n : Nat), (∀ k s, S[k]? = some s -> r (n + k) s = true) -> Qa4 n S r = S
 | [], n, _ => rfl
 | s :: S, n, h => by
  rw [Qdq, (by simpa using h 0 s rfl : r n s = true), Qf4 S (n + 1) (fun k t hk => by
   have := h (k + 1) t (by simpa using hk)
   rw [show n + 1 + k = n + (k + 1) by omega]; exact this)]
  rfl
def pkm (q : Qdj -> Bool) (m : Nat) (S : List Qdj) : List Nat -> List Qdj
 | [] => []
 | k :: us => match S[k - m]? with
  | some s => bif q s then s :: pkm q m S us else pkm q m S us
  | none => pkm q m S us
theorem QlI (q : Qdj -> Bool) (S : List Qdj) : ∀ us, pkm q 0 S us = pkq q S us
 | [] => rfl
 | k :: us => by simp only [pkm, pkq, QlI q S us]; rfl
theorem Qi0 (q : Qdj -> Bool) (m : Nat) (s : Qdj) (S : List Qdj) : ∀ us, (∀ k ∈ us, m + 1 <= k) -> pkm q m (s :: S) us = pkm q (m + 1) S us
 | [], _ => rfl
 | k :: us, h => by
  have hk := h k (by simp)
  simp only [pkm, Qi0 q m s S us (fun j hj => h j (by simp [hj]))]
  rw [show k - m = (k - (m + 1)) + 1 by omega, List.getElem?_cons_succ]
theorem Qng (q : Qdj -> Bool) (m : Nat) : ∀ us, pkm q m [] us = []
 | [] => rfl
 | k :: us => by simp [pkm, Qng q m us]
theorem Qgx (q : Qdj -> Bool) : ∀ (S : List Qdj) (m : Nat) (us : List Nat), Qnp us = true -> (∀ k ∈ us, m <= k) -> Qa4 m S (fun k s => us.contains k && q s) = pkm q m S us
 | [], m, us, h, hm => by rw [Qng]; rfl
 | s :: S, m, [], h, hm => by
  rw [QfD]
  ·rfl
  ·intro k t _; simp
 | s :: S, m, k :: us, h, hm => by
  rw [Qdq]
  by_cases e : k = m
  ·subst e
   have hlt := Qla h
   have ih := Qgx q S (k + 1) us (Qkt h) (fun j hj => hlt j hj)
   have e2 : Qa4 (k + 1) S (fun j t => (k :: us).contains j && q t) = Qa4 (k + 1) S (fun j t => us.contains j && q t) := by
    refine Qga S (k + 1) (fun j t _ => ?_)
    congr 1
    rw [List.contains_cons]
    have : (k + 1 + j == k) = false := by simp; omega
    rw [this, Bool.false_or]
   rw [e2, ih]
   simp only [pkm, Nat.sub_self, List.getElem?_cons_zero]
   rw [Qi0 q k s S us (fun j hj => hlt j hj)]
   simp
  ·have hk := hm k (by simp)
   have hall : ∀ j ∈ k :: us, m + 1 <= j := by
    intro j hj
    rcases List.mem_cons.1 hj with rfl | hj
    ·omega
    ·have := Qla h j hj; omega
   have hc : (k :: us).contains m = false := by
    cases e : (k :: us).contains m with
    | false => rfl
    | true => have := hall m (by simpa using e); omega
   rw [hc, Bool.false_and, cond_false, Qgx q S (m + 1) (k :: us) h hall, Qi0 q m s S (k :: us) hall]
theorem Qkw (q : Qdj -> Bool) (S : List Qdj) (us : List Nat) (h : Qnp us = true) : pick S (fun k s => us.contains k && q s) = pkq q S us := by
 rw [QfQ, Qgx q S 0 us h (fun k _ => Nat.zero_le k), QlI]
structure Qrl (C : Cx) (ops : Array Oper) (L : GV -> Env) (T : List Qdj) (i : Nat) (o : Oper) (d : OpD) (n : List Qdj) : Prop where
 prod : ∀ s ∈ n, s.prod = some i
 grd : match o.guard with
  | none => d.wanted = true
  | some (j, b) => ∃ dj, (ops[j]?).bind (·.dst) = some dj /\ Nat.blt dj C.n = true /\ ∀ G : GV, ∃ v, (L G).get dj = some v /\ isB v b = d.wanted
 run : bif d.wanted then ∀ G : GV, OpX C.P (L G) (pk T d.uses G) o (fun g => d.val (G.upd i g)) (fun g => kp T d.uses i G ++ n.map (·.at (G.upd i g)))
  else (∀ G, d.val G = undef) /\ d.uses = [] /\ n = []
def nxt (L : GV -> Env) (o : Oper) (d : OpD) : GV -> Env := fun G => match o.dst with | some t => (t, d.val G) :: L G | none => L G
def JD (C : Cx) (ops : Array Oper) : Nat -> List Oper -> (GV -> Env) -> List Qdj -> (List OpD -> List Qdj -> (GV -> Env) -> Prop) -> Prop
 | _, [], L, _, X => X [] [] L
 | i, o :: os, L, T, X => ∃ (d : OpD) (n : List Qdj), Qrl C ops L T i o d n /\ JD C ops (i + 1) os (nxt L o d) (T ++ n) (fun ds N L' => X (d :: ds) (n ++ N) L')
inductive Gd (C : Cx) (ops : Array Oper) : Nat -> List Oper -> List OpD -> List Qdj -> (GV -> Env) -> List Qdj -> (GV -> Env) -> Prop
 | nil {i L T} : Gd C ops i [] [] [] L T L
 | cons {i o os d ds n N L T L'} (h : Qrl C ops L T i o d n) (r : Gd C ops (i + 1) os ds N (nxt L o d) (T ++ n) L') : Gd C ops i (o :: os) (d :: ds) (n ++ N) L T L'
theorem QrF {C : Cx} {ops : Array Oper} : ∀ {os i L T} {X : List OpD -> List Qdj -> (GV -> Env) -> Prop}, JD C ops i os L T X -> ∃ ds N L', X ds N L' /\ Gd C ops i os ds N L T L'
 | [], i, L, T, X, h => ⟨[], [], L, h, .nil⟩
 | o :: os, i, L, T, X, ⟨d, n, h1, h2⟩ => by
  obtain ⟨ds, N, L', hX, hg⟩ := QrF h2
  exact ⟨d :: ds, n ++ N, L', hX, .cons h1 hg⟩
theorem Gd.prods {C : Cx} {ops : Array Oper} {i os ds N L T L'} (h : Gd C ops i os ds N L T L') : ∀ s ∈ N, ∃ p, i <= p /\ s.prod = some p := by
 induction h with
 | nil => intro s hs; cases hs
 | cons h r ih =>
  intro s hs
  rcases List.mem_append.1 hs with hs | hs
  ·exact ⟨_, Nat.le_refl _, h.prod s hs⟩
  ·obtain ⟨p, h1, h2⟩ := ih s hs; exact ⟨p, by omega, h2⟩
theorem Gd.good {C : Cx} {ops : Array Oper} {dsA : List OpD} {S : List Qdj} {L0 : Env} {pre : List (List Nat)} (ck : Chk C ops dsA pre S) (hinc : ∀ d ∈ dsA, Qnp d.uses = true) {i os ds N L T L'} (h : Gd C ops i os ds N L T L') :
  (∀ k d, ds[k]? = some d -> dsA[i + k]? = some d) -> (∀ k o, os[k]? = some o -> ops[i + k]? = some o) -> i + os.length = ops.size -> S = T ++ N -> (∀ s ∈ T, ∀ p, s.prod = some p -> p < i) ->
  (∀ G t, (L G).get t = (Qe0 ops dsA G (fun k => Nat.blt k i) ops.size ++ L0).get t) ->
  (∀ k o d, os[k]? = some o -> ds[k]? = some d -> QjB C L0 ops dsA S (i + k) o d) /\ (∀ G t, (L' G).get t = (Qe0 ops dsA G (fun k => Nat.blt k ops.size) ops.size ++ L0).get t) := by
 induction h with
 | nil =>
  rename_i i L T
  intro _ _ hi _ _ hL
  refine ⟨fun k o d ho => by simp at ho, ?_⟩
  simp at hi
  rw [<- hi]; rw [hi]; rw [hi] at hL; exact hL
 | cons h r ih =>
  rename_i i o os d ds n N L T L'
  intro hds hos hi hS hT hL
  have hin : i < ops.size := by simp at hi; omega
  have hd : dsA[i]? = some d := by simpa using hds 0 d rfl
  have ho : ops[i]? = some o := by simpa using hos 0 o rfl
  have huse : QfP dsA i = d.uses := by simp [QfP, hd]
  have hi2 := hinc d (List.mem_of_getElem? hd)
  have hNp := r.prods
  -- the uses lie in T
  have hlt : ∀ k ∈ d.uses, k < S.length -> k < T.length := by
   intro k hk hkS
   rcases Nat.lt_or_ge k T.length with h' | h'
   ·exact h'
   ·have hm : (S[k], k) ∈ S.zipIdx := by rw [List.mk_mem_zipIdx_iff_getElem?]; exact List.getElem?_eq_getElem hkS
    obtain ⟨h1, _⟩ := ck.use i hin S[k] k hm (by rw [huse]; exact hk)
    have hin2 : S[k] ∈ n ++ N := by
     subst hS
     rw [List.getElem_append_right h']; exact List.getElem_mem _
    have : ∃ p, i <= p /\ S[k].prod = some p := by
     rcases List.mem_append.1 hin2 with hm | hm
     ·exact ⟨i, Nat.le_refl _, h.prod _ hm⟩
     ·obtain ⟨p, hp, hq⟩ := hNp _ hm; exact ⟨p, by omega, hq⟩
    obtain ⟨p, hp, hq⟩ := this
    have := (ck.e2 i hin p (h1 p hq)).1
    omega
  have pkS : ∀ q, pkq q S d.uses = pkq q T d.uses := by
   intro q
   subst hS
   clear huse hd hi2 hds
   generalize d.uses = us at hlt
   induction us with
   | nil => rfl
   | cons k us ih =>
    have ih := ih (fun j hj => hlt j (by simp [hj]))
    simp only [pkq, ih]
    rcases Nat.lt_or_ge k T.length with h' | h'
    ·rw [List.getElem?_append_left h']
    ·have : ¬ k < (T ++ (n ++ N)).length := fun hk => by have := hlt k (by simp) hk; omega
     rw [List.getElem?_eq_none (by omega), List.getElem?_eq_none h']
  have hsub : ∀ G, Env.sub (L G) (Qe0 ops dsA G (fun k => Nat.blt k i) ops.size ++ L0) := fun G t v hv => by rw [<- hL]; exact hv
  have hU : ∀ G, (pick S (Qh2 dsA i)).map (·.at G) = pk T d.uses G := by
   intro G
   unfold pk
   rw [<- pkS, <- Qkw (fun _ => true) S d.uses hi2]
   congr 1
   refine QfN fun s k _ => ?_
   simp [Qh2, huse]
  have hAft : pick S (QhF dsA i) = pkq (fun s => !isN s.cons i) T d.uses ++ n := by
   have e1 : pick S (QhF dsA i) = Qa4 0 T (QhF dsA i) ++ Qa4 T.length n (QhF dsA i) ++ Qa4 (T.length + n.length) N (QhF dsA i) := by
    rw [QfQ, hS, QeM, QeM]
    simp
   have eT : Qa4 0 T (QhF dsA i) = Qa4 0 T (fun k s => d.uses.contains k && !isN s.cons i) := by
    refine Qga T 0 (fun k s hk => ?_)
    have hm := List.mem_of_getElem? hk
    have : (s.prod == some i) = false := by
     cases hp : s.prod with
     | none => rfl
     | some p => have := hT s hm p hp; simp; omega
    simp only [QhF, huse, this, Bool.or_false, Qm0]; rfl
   have eTS : Qa4 0 T (fun k s => d.uses.contains k && !isN s.cons i) = pkq (fun s => !isN s.cons i) T d.uses := by
    rw [<- QfQ]; exact Qkw _ T d.uses hi2
   have en : Qa4 T.length n (QhF dsA i) = n := by
    refine Qf4 n _ (fun k s hk => ?_)
    have := h.prod s (List.mem_of_getElem? hk)
    simp [QhF, this]
   have eN : Qa4 (T.length + n.length) N (QhF dsA i) = [] := by
    refine QfD N _ (fun k s hk => ?_)
    obtain ⟨p, hp, hq⟩ := hNp s (List.mem_of_getElem? hk)
    have hkN : k < N.length := by
     rcases Nat.lt_or_ge k N.length with h' | h'
     ·exact h'
     ·simp [List.getElem?_eq_none h'] at hk
    have h1 : d.uses.contains (T.length + n.length + k) = false := by
     cases e : d.uses.contains (T.length + n.length + k) with
     | false => rfl
     | true =>
      have := hlt _ (by simpa using e) (by rw [hS]; simp; omega)
      omega
    have h2 : (s.prod == some i) = false := by rw [hq]; simp; omega
    simp only [QhF, huse, h1, h2, Bool.false_and, Bool.or_false]
   rw [e1, eT, eTS, en, eN, List.append_nil]
  have hB : ∀ (G : GV), (fun g => (pick S (QhF dsA i)).map (·.at (G.upd i g))) = fun g => kp T d.uses i G ++ n.map (·.at (G.upd i g)) := by
   intro G
   funext g
   rw [hAft, List.map_append]
   congr 1
   unfold kp
   refine List.map_congr_left fun s hs => ?_
   unfold Qdj.at
   rw [QiL]
   intro hdep
   -- the slot is one of those used: its producer comes before
   have hsT : ∃ k, k ∈ d.uses /\ T[k]? = some s := by
    clear hAft hU pkS huse hd hi2 hds hlt
    generalize d.uses = us at hs
    induction us with
    | nil => cases hs
    | cons k us ih =>
     simp only [pkq] at hs
     cases e : T[k]? with
     | none => rw [e] at hs; obtain ⟨j, h1, h2⟩ := ih hs; exact ⟨j, by simp [h1], h2⟩
     | some s' =>
      rw [e] at hs
      simp only at hs
      cases eq : !isN s'.cons i with
      | false => rw [eq] at hs; obtain ⟨j, h1, h2⟩ := ih hs; exact ⟨j, by simp [h1], h2⟩
      | true =>
       rw [eq] at hs
       simp only [cond_true] at hs
       rcases List.mem_cons.1 hs with rfl | hs
       ·exact ⟨k, by simp, e⟩
       ·obtain ⟨j, h1, h2⟩ := ih hs; exact ⟨j, by simp [h1], h2⟩
   obtain ⟨k, hk, hkT⟩ := hsT
   have hkl : k < T.length := by
    rcases Nat.lt_or_ge k T.length with h' | h'
    ·exact h'
    ·simp [List.getElem?_eq_none h'] at hkT
   have hm : (s, k) ∈ S.zipIdx := by rw [List.mk_mem_zipIdx_iff_getElem?, hS, List.getElem?_append_left hkl]; exact hkT
   obtain ⟨j, hj, hij⟩ := ck.dep i hin s k hm hdep
   have hjT := hT s (List.mem_of_getElem? hkT) j hj
   rcases hij with e | e
   ·omega
   ·have hjn : j < ops.size := by omega
    have := (ck.e2 j hjn i e).1; omega
  have hnext : ∀ G t, (nxt L o d G).get t = (Qe0 ops dsA G (fun k => Nat.blt k (i + 1)) ops.size ++ L0).get t := by
   intro G t
   have hblt : ∀ j, j ≠ i -> Nat.blt j (i + 1) = Nat.blt j i := by
    intro j hj
    rw [Bool.eq_iff_iff]; simp only [Nat.blt_eq]; omega
   by_cases hdt : o.dst = some t
   ·have hb : (ops[i]?).bind (·.dst) = some t := by rw [ho]; exact hdt
    have top := QgF (ds := dsA) (G := G) (p := fun k => Nat.blt k (i + 1)) hb (by simp) ops.size hin (fun j h1 h2 h3 => by
     cases e : Nat.blt j (i + 1) with
     | false => rfl
     | true => have := Nat.blt_eq ▸ e; omega)
    rw [QeB, top, hd]
    simp [nxt, hdt, Env.get]
   ·have e : (Qe0 ops dsA G (fun k => Nat.blt k (i + 1)) ops.size).get t = (Qe0 ops dsA G (fun k => Nat.blt k i) ops.size).get t := by
     refine QeJ ops.size (fun j hj hdj => ⟨hblt j (fun e => ?_), fun _ => rfl⟩)
     subst e; rw [ho] at hdj; exact hdt hdj
    rw [QeB, e, <- QeB, <- hL]
    unfold nxt
    cases hdst : o.dst with
    | none => rfl
    | some x =>
     have hb : Nat.beq t x = false := by cases e : Nat.beq t x with | false => rfl | true => exact absurd (by rw [hdst, Nat.eq_of_beq_eq_true e]) hdt
     simp [Env.get, hb]
  obtain ⟨g1, g2⟩ := ih (fun k e he => by have := hds (k + 1) e (by simpa using he); rw [show i + 1 + k = i + (k + 1) by omega]; exact this)
   (fun k e he => by have := hos (k + 1) e (by simpa using he); rw [show i + 1 + k = i + (k + 1) by omega]; exact this)
   (by simp at hi; omega) (by rw [hS, List.append_assoc]) (fun s hs p hp => by
    rcases List.mem_append.1 hs with hs | hs
    ·have := hT s hs p hp; omega
    ·have := h.prod s hs; rw [this] at hp; simp at hp; omega) hnext
  refine ⟨fun k o' d' ho' hd' => ?_, g2⟩
  cases k with
  | succ k =>
   have := g1 k o' d' (by simpa using ho') (by simpa using hd')
   rw [show i + (k + 1) = i + 1 + k by omega]; exact this
  | zero =>
   simp at ho' hd'
   subst ho'; subst hd'
   refine ⟨?_, ?_⟩
   ·have hg := h.grd
    cases eg : o.guard with
    | none => rw [eg] at hg; exact hg
    | some jb =>
     obtain ⟨j, b⟩ := jb
     rw [eg] at hg
     obtain ⟨dj, h1, h2, h3⟩ := hg
     refine ⟨dj, h1, h2, fun G => ?_⟩
     obtain ⟨v, h4, h5⟩ := h3 G
     exact ⟨v, hsub G dj v h4, h5⟩
   ·have hr := h.run
    cases ew : d.wanted with
    | true =>
     rw [ew] at hr
     simp only [cond_true] at hr ⊢
     intro G
     exact OpX.start (hsub G) (hU G) rfl (hB G) (hr G)
    | false =>
     rw [ew] at hr
     simp only [cond_false] at hr ⊢
     obtain ⟨x1, x2, x3⟩ := hr
     refine ⟨x1, x2, List.all_eq_true.2 fun s hs => ?_⟩
     rw [hS, x3, List.nil_append] at hs
     rcases List.mem_append.1 hs with hs | hs
     ·cases hp : s.prod with
      | none => rfl
      | some p => have := hT s hs p hp; simp; omega
     ·obtain ⟨p, hp, hq⟩ := hNp s hs
      rw [hq]; simp; omega
def Qdg : List SP -> List (Option Nat) -> List Qdj
 | [], _ => []
 | R :: A, [] => ⟨none, none, [], fun _ => R⟩ :: Qdg A []
 | R :: A, c :: cs => ⟨none, c, [], fun _ => R⟩ :: Qdg A cs
theorem QgB : ∀ (A : List SP) (cs : List (Option Nat)), ∀ s ∈ Qdg A cs, s.prod = none
 | [], _, s, h => by simp [Qdg] at h
 | R :: A, [], s, h => by
  rcases List.mem_cons.1 h with rfl | h
  ·rfl
  ·exact QgB A [] s h
 | R :: A, c :: cs, s, h => by
  rcases List.mem_cons.1 h with rfl | h
  ·rfl
  ·exact QgB A cs s h
theorem QhQ (G : GV) : ∀ (A : List SP) (cs : List (Option Nat)), (Qdg A cs).map (·.at G) = A
 | [], _ => by simp [Qdg]
 | R :: A, [] => by simp only [Qdg, List.map_cons, QhQ G A []]; rfl
 | R :: A, c :: cs => by simp only [Qdg, List.map_cons, QhQ G A cs]; rfl
theorem QjC : ∀ (A : List SP), ∀ s ∈ Qdg A [], s.prod = none /\ s.cons = none
 | [], s, h => by simp [Qdg] at h
 | R :: A, s, h => by
  rcases List.mem_cons.1 h with rfl | h
  ·exact ⟨rfl, rfl⟩
  ·exact QjC A s h
theorem Qmq {C : Cx} {ops : Array Oper} : ∀ {os : List Oper} {i : Nat} {L : GV -> Env} {T : List Qdj} {X Y : List OpD -> List Qdj -> (GV -> Env) -> Prop}, (∀ ds N L', X ds N L' -> Y ds N L') -> JD C ops i os L T X -> JD C ops i os L T Y
 | [], i, L, T, X, Y, h, hx => h _ _ _ hx
 | o :: os, i, L, T, X, Y, h, ⟨d, n, h1, h2⟩ => ⟨d, n, h1, Qmq (fun ds N L' hx => h _ _ _ hx) h2⟩
theorem Qly {C : Cx} {ks : List Kn} {L : Env} {A : List SP} {id : Nat} {l : List Oper} (ms : List Nat) (cs : List (Option Nat)) (hm : C.P.follows .mixedOrders = true)
  (h : JD C l.toArray 0 l (fun _ => L) (Qdg A cs) (fun ds N L' => Qi3 C.n l.toArray ds ms (Qdg A cs ++ N) = true /\ ∀ G : GV, JK C ks (L' G) ((pick (Qdg A cs ++ N) (fun _ s => Qch (fun j => Nat.blt j l.toArray.size) s)).map (·.at G)))) :
  JK C (.code (.region id l.toArray true) :: ks) L A := by
 obtain ⟨ds, N, L', ⟨hok, hX⟩, hg⟩ := QrF h
 simp only [Qi3, Bool.and_eq_true, List.all_eq_true] at hok
 obtain ⟨hok, hinc⟩ := hok
 have ck := QpY hok
 have hw0 : ∀ G n, Qe0 l.toArray ds G (fun k => Nat.blt k 0) n = [] := by
  intro G n
  induction n with
  | zero => rfl
  | succ n ih =>
   have : Nat.blt n 0 = false := by cases n <;> rfl
   simp only [Qe0, this, cond_false, ih]
 obtain ⟨g1, g2⟩ := hg.good (dsA := ds) (S := Qdg A cs ++ N) (L0 := L) ck hinc (fun k d hd => by simpa using hd) (fun k o ho => by simpa using ho) (by simp) rfl
  (fun s hs p hp => by rw [QgB A cs s hs] at hp; cases hp) (fun G t => by rw [hw0]; rfl)
 refine Qn6 ds (Qrn l.toArray.size ms) (Qdg A cs ++ N) hm ck ?_ ?_ ?_
 ·rw [QfQ, QeM, Qf4, QfD, List.append_nil, QhQ]
  ·intro k s hk
   obtain ⟨p, _, hq⟩ := hg.prods s (List.mem_of_getElem? hk)
   simp [Qch, hq]
  ·intro k s hk
   have := QgB A cs s (List.mem_of_getElem? hk)
   simp [Qch, this]
   cases s.cons <;> rfl
 ·have : ∀ (os : List Oper) (ds' : List OpD) (i : Nat), (∀ k o d, os[k]? = some o -> ds'[k]? = some d -> QjB C L l.toArray ds (Qdg A cs ++ N) (i + k) o d) -> QiC C L l.toArray ds (Qdg A cs ++ N) i os ds' := by
   intro os
   induction os with
   | nil => intro ds' i _; cases ds' <;> trivial
   | cons o os ih =>
    intro ds' i hk
    cases ds' with
    | nil => trivial
    | cons d ds' =>
     refine ⟨by simpa using hk 0 o d rfl rfl, ih ds' (i + 1) (fun k o' d' h1 h2 => ?_)⟩
     have := hk (k + 1) o' d' (by simpa using h1) (by simpa using h2)
     rw [show i + 1 + k = i + (k + 1) by omega]; exact this
  simpa using this l ds 0 (fun k o d h1 h2 => g1 k o d h1 h2)
 ·intro G
  refine QgP (fun t v hv => ?_) (Ent.refl _) (hX G)
  rw [<- g2]; exact hv
section
variable {C : Cx} {ops : Array Oper} {L : GV -> Env} {T : List Qdj} {i : Nat} {o : Oper} {os : List Oper} {X : List OpD -> List Qdj -> (GV -> Env) -> Prop}
def Wd (C : Cx) (ops : Array Oper) (L : GV -> Env) (o : Oper) (b' : Bool) : Prop := match o.guard with
  | none => b' = true
  | some (j, b) => ∃ dj, (ops[j]?).bind (·.dst) = some dj /\ Nat.blt dj C.n = true /\ ∀ G : GV, ∃ v, (L G).get dj = some v /\ isB v b = b'
theorem wn (h : o.guard = none) : Wd C ops L o true := by unfold Wd; rw [h]
theorem wt {j dj : Nat} {b : Bool} (h : o.guard = some (j, b)) (hj : (ops[j]?).bind (·.dst) = some dj) (hn : Nat.blt dj C.n = true) (hv : ∀ {G : GV}, (L G).get dj = some (.bool b)) : Wd C ops L o true := by
 unfold Wd; rw [h]
 exact ⟨dj, hj, hn, fun G => ⟨_, hv, by cases b <;> rfl⟩⟩
theorem ws {j dj : Nat} {b : Bool} (h : o.guard = some (j, b)) (hj : (ops[j]?).bind (·.dst) = some dj) (hn : Nat.blt dj C.n = true) (v : Value) (hv : ∀ {G : GV}, (L G).get dj = some v) (hb : isB v b = false) : Wd C ops L o false := by
 unfold Wd; rw [h]
 exact ⟨dj, hj, hn, fun G => ⟨_, hv, hb⟩⟩
theorem Qpm {d : Nat} (hw : Wd C ops L o false) (hd : o.dst = some d) (h : JD C ops (i + 1) os (fun G => (d, undef) :: L G) T (fun ds N L' => X (⟨[], fun _ => undef, [], false⟩ :: ds) N L')) : JD C ops i (o :: os) L T X := by
 refine ⟨⟨[], fun _ => undef, [], false⟩, [], ⟨(fun _ h => by cases h), hw, fun _ => rfl, rfl, rfl⟩, ?_⟩
 have e : nxt L o ⟨[], fun _ => undef, [], false⟩ = fun G => (d, undef) :: L G := by funext G; simp [nxt, hd, OpD.val]
 rw [e, List.append_nil]
 exact h
theorem QvP (us deps : List Nat) (V : List (List Value) -> Value) (n : List Qdj) {T' : List Qdj} {d : Nat} (hw : Wd C ops L o true) (hd : o.dst = some d) (hp : n.all (fun s => isN s.prod i) = true) (hT : T ++ n = T')
  (hx : ∀ G : GV, OpX C.P (L G) (pk T us G) o (fun g => V (deps.map (G.upd i g))) (fun g => kp T us i G ++ n.map (·.at (G.upd i g))))
  (h : JD C ops (i + 1) os (fun G => (d, V (deps.map G)) :: L G) T' (fun ds N L' => X (⟨deps, V, us, true⟩ :: ds) (n ++ N) L')) : JD C ops i (o :: os) L T X := by
 subst hT
 refine ⟨⟨deps, V, us, true⟩, n, ⟨fun s hs => by simpa [Qm0] using List.all_eq_true.1 hp s hs, hw, hx⟩, ?_⟩
 have e : nxt L o ⟨deps, V, us, true⟩ = fun G => (d, V (deps.map G)) :: L G := by funext G; simp [nxt, hd, OpD.val]
 rw [e]; exact h
theorem Qkn {G : GV} {q : Qdj -> Bool} {S : List Qdj} : ∀ (us : List Nat), ((pkq q S us).map (·.at G)).Sublist ((pkq (fun _ => true) S us).map (·.at G))
 | [] => .slnil
 | k :: us => by
  simp only [pkq]
  cases S[k]? with
  | none => exact Qkn us
  | some s =>
   cases hq : q s with
   | true => simp only [hq, cond_true, List.map_cons]; exact (Qkn us).cons_cons _
   | false => simp only [hq, cond_true, cond_false, List.map_cons]; exact (Qkn us).cons _
theorem Qju {A B : List SP} (h : A.Sublist B) : ∀ {w M F}, Qbi B w M F -> Qbi A w M F := by
 induction h with
 | slnil => intros; trivial
 | cons a h ih => intro w M F ⟨F1, F2, h1, h2, hd, hR, hA⟩; exact QdW (ih hA) h2
 | cons_cons a h ih => intro w M F ⟨F1, F2, h1, h2, hd, hR, hA⟩; exact ⟨F1, F2, h1, h2, hd, hR, ih hA⟩
theorem QtI (us deps : List Nat) (V : List (List Value) -> Value) {d : Nat} (hw : Wd C ops L o true) (hd : o.dst = some d) (hs : (match o.op with | .select .. => true | _ => false) = false)
  (hv : ∀ {G : GV}, OpV C.P (L G) (pk T us G) o (V (deps.map G))) (hdeps : deps.contains i = false)
  (h : JD C ops (i + 1) os (fun G => (d, V (deps.map G)) :: L G) T (fun ds N L' => X (⟨deps, V, us, true⟩ :: ds) N L')) : JD C ops i (o :: os) L T X := by
 refine QvP us deps V [] hw hd rfl (List.append_nil T) (fun G => ?_) h
 refine OpX.start (fun _ _ h => h) rfl (V' := fun _ => V (deps.map G)) ?_ rfl ?_
 ·funext g
  rw [QiL]
  simpa using hdeps
 ·refine OpX.post (fun g => ?_) (OpX.ofV (fun cs b e => by simp [e] at hs) hv)
  intro w M F ok hsp
  refine ⟨M, F, Qfc.refl ok, ?_⟩
  simp only [List.map_nil, List.append_nil]
  exact Qju (Qkn us) hsp
theorem Qvw (us : List Nat) {v : Value} {d : Nat} (hw : Wd C ops L o true) (hd : o.dst = some d) (hs : (match o.op with | .select .. => true | _ => false) = false)
  (hv : ∀ {G : GV}, OpV C.P (L G) (pk T us G) o v)
  (h : JD C ops (i + 1) os (fun G => (d, v) :: L G) T (fun ds N L' => X (⟨[], fun _ => v, us, true⟩ :: ds) N L')) : JD C ops i (o :: os) L T X :=
 QtI us [] (fun _ => v) hw hd hs hv rfl h
end
def pkA (A : List SP) : List Nat -> List SP
 | [] => []
 | k :: us => match A[k]? with
  | some R => R :: pkA A us
  | none => pkA A us
theorem Ql7 (A : List SP) : ∀ k : Nat, (Qdg A [])[k]? = (A[k]?).map fun R => (⟨none, none, [], fun _ => R⟩ : Qdj) := by
 induction A with
 | nil => intro k; simp [Qdg]
 | cons R A ih =>
  intro k
  cases k with
  | zero => simp [Qdg]
  | succ k => simp only [Qdg, List.getElem?_cons_succ]; exact ih k
theorem Qkx (A : List SP) (G : GV) : ∀ us, pk (Qdg A []) us G = pkA A us
 | [] => rfl
 | k :: us => by
  have ih := Qkx A G us
  unfold pk at ih ⊢
  simp only [pkq, pkA, Ql7]
  cases A[k]? with
  | none => simpa using ih
  | some R => simp only [Option.map_some, cond_true, List.map_cons, ih]; rfl
def JQ (C : Cx) (ops : Array Oper) (i : Nat) (os : List Oper) (L : Env) (A : List SP) (X : List OpD -> Env -> Prop) : Prop :=
 JD C ops i os (fun _ => L) (Qdg A []) (fun ds N L' => N = [] /\ X ds (L' (fun _ => [])) /\ ∀ G, L' G = L' (fun _ => []))
def Wq (C : Cx) (ops : Array Oper) (L : Env) (o : Oper) (b' : Bool) : Prop := Wd C ops (fun _ => L) o b'
section
variable {C : Cx} {ops : Array Oper} {L : Env} {A : List SP} {i : Nat} {o : Oper} {os : List Oper} {X : List OpD -> Env -> Prop}
theorem qn (h : o.guard = none) : Wq C ops L o true := wn h
theorem qt {j dj : Nat} {b : Bool} (h : o.guard = some (j, b)) (hj : (ops[j]?).bind (·.dst) = some dj) (hn : Nat.blt dj C.n = true) (hv : L.get dj = some (.bool b)) : Wq C ops L o true := wt h hj hn hv
theorem qs {j dj : Nat} {b : Bool} (h : o.guard = some (j, b)) (hj : (ops[j]?).bind (·.dst) = some dj) (hn : Nat.blt dj C.n = true) (v : Value) (hv : L.get dj = some v) (hb : isB v b = false) : Wq C ops L o false := ws h hj hn v hv hb
theorem QrE (h : X [] L) : JQ C ops i [] L A X := ⟨rfl, h, fun _ => rfl⟩
theorem QpU {d : Nat} (hw : Wq C ops L o false) (hd : o.dst = some d) (h : JQ C ops (i + 1) os ((d, undef) :: L) A (fun ds L' => X (⟨[], fun _ => undef, [], false⟩ :: ds) L')) : JQ C ops i (o :: os) L A X := Qpm hw hd h
theorem QtZ (us : List Nat) {v : Value} {d : Nat} (hw : Wq C ops L o true) (hd : o.dst = some d) (hs : (match o.op with | .select .. => true | _ => false) = false) (hv : OpV C.P L (pkA A us) o v)
  (h : JQ C ops (i + 1) os ((d, v) :: L) A (fun ds L' => X (⟨[], fun _ => v, us, true⟩ :: ds) L')) : JQ C ops i (o :: os) L A X :=
 Qvw us hw hd hs (fun {G} => by rw [Qkx]; exact hv) h
theorem Qu1 {e b : Bool} (he : e = b) (us : List Nat) {d : Nat} (hw : Wq C ops L o true) (hd : o.dst = some d) (hs : (match o.op with | .select .. => true | _ => false) = false) (hv : OpV C.P L (pkA A us) o (.bool e))
  (h : JQ C ops (i + 1) os ((d, .bool b) :: L) A (fun ds L' => X (⟨[], fun _ => .bool b, us, true⟩ :: ds) L')) : JQ C ops i (o :: os) L A X := by
 subst he; exact QtZ us hw hd hs hv h
theorem QnN {ks : List Kn} {id : Nat} {l : List Oper} (ms : List Nat) (hm : C.P.follows .mixedOrders = true)
  (h : JQ C l.toArray 0 l L A (fun ds L' => Qi3 C.n l.toArray ds ms (Qdg A []) = true /\ JK C ks L' A)) :
  JK C (.code (.region id l.toArray true) :: ks) L A := by
 refine Qly ms [] hm ?_
 refine Qmq (fun ds N L' => ?_) h
 rintro ⟨rfl, ⟨h1, h2⟩, h3⟩
 rw [List.append_nil]
 refine ⟨h1, fun G => ?_⟩
 have : (pick (Qdg A []) (fun _ s => Qch (fun j => Nat.blt j l.toArray.size) s)) = Qdg A [] := by
  rw [QfQ]
  refine Qf4 _ _ (fun k s hk => ?_)
  obtain ⟨h1, h2⟩ := QjC A s (List.mem_of_getElem? hk)
  simp [Qch, h1, h2]
 rw [this, QhQ, h3 G]
 exact h2
end
theorem Env.sub_all {L' L : Env} (h : L'.map (fun p => L.get p.1) = L'.map (fun p => some p.2)) : Env.sub L' L := by
 induction L' with
 | nil => exact Env.sub_nil _
 | cons p L' ih =>
  obtain ⟨t, v⟩ := p
  simp only [List.map_cons, List.cons.injEq] at h
  exact Env.sub_cons h.1 (ih h.2)
end Go.SL
namespace Go.SL
open Go
theorem QaK {α : Sort _} {p : Prop} (x : α) (h : ∀ r, x = r -> p) : p := h x rfl
theorem OpA.app0 {P : Program} {L : Env} {o : Oper} {T T2 x y c d e sz by_ zs e2 sz2 by2} {α : Type} [Rep α] {ys : List α} (hop : o.op = .call { callee := .builtin .append, args := #[x, y], argTypes := #[T, T2] })
  (hx : L.ev x = some c) (hy : L.ev y = some d) (hT : QfF P T = some (e, sz, by_)) (hT2 : QfF P T2 = some (e2, sz2, by2)) (hz : QdX P T = some zs) (hzl : zs.length = sz) (hs : Rep.sz α = sz) (hb : Rep.bytes α = by_)
  (hlen : ys.length * Rep.bytes α <= QdA) : OpA P L [os (α := α) c [], sl d ys] o (fun c : Value => c) (fun c => [os c ys]) := by
 simpa using OpA.app (xs := []) (ys := ys) hop hx hy hT hT2 hz hzl hs hb (by simpa using hlen)
theorem OpX.postR {P : Program} {L : Env} {A : List SP} {o : Oper} {V : List Value -> Value} {B B' : List Value -> List SP} (h : OpX P L A o V B) (e : ∀ g, Ent (B g) (B' g)) : OpX P L A o V B' := OpX.post e h
section
variable {α : Type} [Rep α]
theorem QnB {C : Cx} {X : Act -> World -> Prop} {L : Env} {A Ac Ar : List SP} {c : Value} {xs : List α} (i m : Nat) (ht : take A [m] = some ([os c xs], Ar)) (hi : i < xs.length)
  (d : α) (h : ∀ cs, JJ C X L (rdp cs (xs.getD i d) :: oread c xs i cs :: Ar)) : JJ C X L A := fun a w M F st => by
 have hs := QeE ht st.sp
 obtain ⟨F1, F2, k1, k2, kd, hos, hA⟩ := hs
 have hos' := hos
 obtain ⟨hb, ao, k, hc, hk, hh⟩ := hos
 cases ao with
 | none => have := hh.1; subst this; simp at hi
 | some ad =>
  obtain ⟨cells, T, h0, h1, h2, h3, h4⟩ := hh
  obtain ⟨ecs, e1, e2⟩ := h4 i xs[i] (List.getElem?_eq_getElem hi)
  have e3 : xs.getD i d = xs[i] := by simp [List.getD, List.getElem?_eq_getElem hi]
  refine h ecs a w M F ⟨st.step, st.sz, st.df, st.sat, fun _ => False, F, fun _ h => h.elim, fun _ h => h, fun _ h _ => h, ?_, F1, F2, k1, k2, kd, ?_, hA⟩
  ·show Rep.rd w M ecs (xs.getD i d)
   rw [e3]; exact e2
  ·refine ⟨hos', ad.block, ad.off + i * Rep.sz α, ?_, cells, T, (0, 0), h1, h2, e1⟩
   obtain ⟨b, off, sp⟩ := ad
   simp at h0; subst h0
   rw [hc]; simp [QfO, QbE]
theorem Ent.oread (c : Value) (xs : List α) (i : Nat) (cs : List Value) : Ent [oread c xs i cs] [os c xs] := fun w M F ok hs => by
 obtain ⟨F1, F2, k1, k2, kd, ⟨h, _⟩, hA⟩ := hs
 exact ⟨M, F, Qfc.refl ok, F1, F2, k1, k2, kd, h, trivial⟩
theorem Qe4 (c : Value) (xs : List α) (i : Nat) (cs : List Value) : QgK (oread c xs i cs) (QfO (Rep.sz α) c i) cs := by
 rintro w M F ⟨h, b, off, h1, cells, T, fz, h2, h3, h4⟩
 exact ⟨b, off, h1, fun j u hu => by simp [World.cell?, h3, h4 j u hu]⟩
theorem QfS (c : Value) (xs : List α) (i : Nat) (cs : List Value) : Qh5 (oread c xs i cs) (QfO (Rep.sz α) c i) := by
 rintro w M F ⟨h, b, off, h1, _⟩
 exact ⟨b, off, h1⟩
theorem QjK (c : Value) (xs : List α) (i : Nat) (cs : List Value) : Qoh (oread c xs i cs) c xs.length (Rep.sz α) := fun h => Qkg c xs h.1
def QkH (c : Value) (xs : List α) (i : Nat) (cs : List Value) (j : Nat) (ds : List Value) : SP where
 h w M F := (oread c xs i cs).h w M F /\ (oread c xs j ds).h w M F
 p := false
 st := by rintro w M F w' M' ⟨h1, h2⟩ e k; exact ⟨(oread c xs i cs).st h1 e k, (oread c xs j ds).st h2 e k⟩
 up := by rintro w M F F' ⟨h1, h2⟩ e; exact ⟨(oread c xs i cs).up h1 e, (oread c xs j ds).up h2 e⟩
 pers := by simp
theorem QhM (c : Value) (xs : List α) (i : Nat) (cs : List Value) (j : Nat) (ds : List Value) : QgK (QkH c xs i cs j ds) (QfO (Rep.sz α) c i) cs := fun h => Qe4 c xs i cs h.1
theorem QhR (c : Value) (xs : List α) (i : Nat) (cs : List Value) (j : Nat) (ds : List Value) : QgK (QkH c xs i cs j ds) (QfO (Rep.sz α) c j) ds := fun h => Qe4 c xs j ds h.2
theorem Qi7 (c : Value) (xs : List α) (i : Nat) (cs : List Value) (j : Nat) (ds : List Value) : Qh5 (QkH c xs i cs j ds) (QfO (Rep.sz α) c i) := fun h => QfS c xs i cs h.1
theorem QiZ (c : Value) (xs : List α) (i : Nat) (cs : List Value) (j : Nat) (ds : List Value) : Qh5 (QkH c xs i cs j ds) (QfO (Rep.sz α) c j) := fun h => QfS c xs j ds h.2
theorem Qp4 (c : Value) (xs : List α) (i : Nat) (cs : List Value) (j : Nat) (ds : List Value) : Qoh (QkH c xs i cs j ds) c xs.length (Rep.sz α) := fun h => QjK c xs i cs h.1
theorem Qky {C : Cx} {X : Act -> World -> Prop} {L : Env} {A Ar : List SP} {c : Value} {xs : List (List α)} (i m : Nat) (ht : take A [m] = some ([os c xs], Ar)) (hi : i < xs.length)
  (h : ∀ a k, JJ C X L (oread c xs i [.slice a (xs.getD i []).length k] :: sl (.slice a (xs.getD i []).length k) (xs.getD i []) :: Ar)) : JJ C X L A := by
 refine QnB (Ac := A) i m ht hi [] fun cs => ?_
 intro a w M F st
 obtain ⟨F1, F2, q1, q2, qd, hr, F3, F4, q3, q4, qd2, hp, hs⟩ := st.sp
 obtain ⟨c0, rfl, h0⟩ := hr
 have g0 := h0
 obtain ⟨_, a0, k0, rfl, _⟩ := h0
 exact h a0 k0 a w M F ⟨st.step, st.sz, st.df, st.sat, F3, F4, fun b h => q2 b (q3 b h), fun b h => q2 b (q4 b h), qd2, hp, fun _ => False, F4, fun _ h => h.elim, fun _ h => h, fun _ h _ => h, g0, hs⟩
end
end Go.SL
namespace Go.SL
open Go
@[reducible] def GV.g (G : GV) (i q : Nat) : Value := (G i).getD q undef
def idx (j : Nat) : List Nat -> Nat -> Option Nat
 | [], _ => none
 | k :: ds, n => bif Nat.beq k j then some n else idx j ds (n + 1)
def unr (ds : List Nat) (l : List (List Value)) : GV := fun j => match idx j ds 0 with | some k => l.getD k [] | none => []
def dpt (ms : List Nat) (i : Nat) : List Nat := i :: (List.range i).filter fun j => (ms.getD i 0).testBit j
structure TS where
 prod : Option Nat
 R : GV -> SP
structure OpK where
 V : GV -> Value
 uses : List Nat
 takes : List Nat
 wanted : Bool
def Qpk (k : Nat) : List Nat -> Bool
 | [] => false
 | j :: l => Nat.beq j k || Qpk k l
def pkT (T : List TS) (G : GV) : List Nat -> List SP
 | [] => []
 | k :: us => match T[k]? with
  | some s => s.R G :: pkT T G us
  | none => pkT T G us
def kpT (T : List TS) (tk : List Nat) (G : GV) : List Nat -> List SP
 | [] => []
 | k :: us => match T[k]? with
  | some s => bif Qpk k tk then kpT T tk G us else s.R G :: kpT T tk G us
  | none => kpT T tk G us
structure Qoy (C : Cx) (ops : Array Oper) (ms : List Nat) (L : GV -> Env) (T : List TS) (i : Nat) (o : Oper) (d : OpK) (n : List (GV -> SP)) : Prop where
 grd : match o.guard with
  | none => d.wanted = true
  | some (j, b) => ∃ dj, (ops[j]?).bind (·.dst) = some dj /\ Nat.blt dj C.n = true /\ ∀ G : GV, ∃ v, (L G).get dj = some v /\ isB v b = d.wanted
 run : bif d.wanted then ∀ G : GV, OpX C.P (L G) (pkT T G d.uses) o (fun g => d.V (G.upd i g)) (fun g => kpT T d.takes G d.uses ++ n.map (fun R => R (G.upd i g)))
  else (∀ G, d.V G = undef) /\ d.uses = [] /\ n = []
 rV : ∀ G, d.V (unr (dpt ms i) ((dpt ms i).map G)) = d.V G
 rN : ∀ G, n.map (fun R => R (unr (dpt ms i) ((dpt ms i).map G))) = n.map (fun R => R G)
def Qmf (L : GV -> Env) (o : Oper) (d : OpK) : GV -> Env := fun G => match o.dst with | some t => (t, d.V G) :: L G | none => L G
def mkT (i : Nat) (n : List (GV -> SP)) : List TS := n.map fun R => ⟨some i, R⟩
def JD2 (C : Cx) (ops : Array Oper) (ms : List Nat) : Nat -> List Oper -> (GV -> Env) -> List TS -> (List OpK -> List TS -> (GV -> Env) -> Prop) -> Prop
 | _, [], L, _, X => X [] [] L
 | i, o :: os, L, T, X => ∃ (d : OpK) (n : List (GV -> SP)), Qoy C ops ms L T i o d n /\ JD2 C ops ms (i + 1) os (Qmf L o d) (T ++ mkT i n) (fun ds N L' => X (d :: ds) (mkT i n ++ N) L')
inductive Gd2 (C : Cx) (ops : Array Oper) (ms : List Nat) : Nat -> List Oper -> List OpK -> List TS -> (GV -> Env) -> List TS -> (GV -> Env) -> Prop
 | nil {i L T} : Gd2 C ops ms i [] [] [] L T L
 | cons {i o os d ds n N L T L'} (h : Qoy C ops ms L T i o d n) (r : Gd2 C ops ms (i + 1) os ds N (Qmf L o d) (T ++ mkT i n) L') : Gd2 C ops ms i (o :: os) (d :: ds) (mkT i n ++ N) L T L'
theorem QoU {C : Cx} {ops : Array Oper} {ms : List Nat} : ∀ {os i L T} {X : List OpK -> List TS -> (GV -> Env) -> Prop}, JD2 C ops ms i os L T X -> ∃ ds N L', X ds N L' /\ Gd2 C ops ms i os ds N L T L'
 | [], i, L, T, X, h => ⟨[], [], L, h, .nil⟩
 | o :: os, i, L, T, X, ⟨d, n, h1, h2⟩ => by
  obtain ⟨ds, N, L', hX, hg⟩ := QoU h2
  exact ⟨d :: ds, mkT i n ++ N, L', hX, .cons h1 hg⟩
def cvO (ms : List Nat) : Nat -> List OpK -> List OpD
 | _, [] => []
 | i, d :: ds => ⟨dpt ms i, fun l => d.V (unr (dpt ms i) l), d.uses, d.wanted⟩ :: cvO ms (i + 1) ds
def Qe6 : List OpK -> Nat -> Nat -> Option Nat
 | [], _, _ => none
 | d :: ds, i, k => bif Qpk k d.takes then some i else Qe6 ds (i + 1) k
def cvD (ms : List Nat) (p : Option Nat) : List Nat := match p with | none => [] | some i => dpt ms i
def cvS (ms : List Nat) (κ : Nat -> Option Nat) : Nat -> List TS -> List Qdj
 | _, [] => []
 | k, s :: T => ⟨s.prod, κ k, cvD ms s.prod, fun l => s.R (unr (cvD ms s.prod) l)⟩ :: cvS ms κ (k + 1) T
theorem Qg7 (ms κ) : ∀ k T N, cvS ms κ k (T ++ N) = cvS ms κ k T ++ cvS ms κ (k + T.length) N
 | _, [], N => by simp [cvS]
 | k, s :: T, N => by simp only [List.cons_append, cvS, List.length_cons, Qg7 ms κ (k + 1) T N]; rw [show k + 1 + T.length = k + (T.length + 1) by omega]
theorem Qkj (ms κ) : ∀ k T (j : Nat), (cvS ms κ k T)[j]? = (T[j]?).map fun s => ⟨s.prod, κ (k + j), cvD ms s.prod, fun l => s.R (unr (cvD ms s.prod) l)⟩
 | _, [], j => by simp [cvS]
 | k, s :: T, 0 => by simp [cvS]
 | k, s :: T, j + 1 => by simp only [cvS, List.getElem?_cons_succ, Qkj ms κ (k + 1) T j]; rw [show k + 1 + j = k + (j + 1) by omega]
def QnV (κ : Nat -> Option Nat) : Nat -> List OpK -> Bool
 | _, [] => true
 | i, d :: ds => d.uses.all (fun k => isN (κ k) i == Qpk k d.takes) && QnV κ (i + 1) ds
def Qpa (ms : List Nat) (T : List TS) : Prop := ∀ s ∈ T, ∀ G : GV, s.R (unr (cvD ms s.prod) ((cvD ms s.prod).map G)) = s.R G
theorem Qre {ms κ} {T : List TS} (hT : Qpa ms T) (G : GV) : ∀ us, pk (cvS ms κ 0 T) us G = pkT T G us
 | [] => rfl
 | k :: us => by
  have ih := Qre (κ := κ) hT G us
  unfold pk at ih ⊢
  simp only [pkq, pkT, Qkj]
  cases hk : T[k]? with
  | none => simpa using ih
  | some s =>
   simp only [Option.map_some, cond_true, List.map_cons, ih]
   congr 1
   exact hT s (List.mem_of_getElem? hk) G
theorem Qqw {ms κ} {T : List TS} (hT : Qpa ms T) (G : GV) {i : Nat} {tk : List Nat} : ∀ us, (∀ k ∈ us, isN (κ k) i = Qpk k tk) -> kp (cvS ms κ 0 T) us i G = kpT T tk G us
 | [], _ => rfl
 | k :: us, h => by
  have ih := Qqw (κ := κ) hT G (i := i) (tk := tk) us (fun j hj => h j (by simp [hj]))
  have hk0 := h k (by simp)
  unfold kp at ih ⊢
  simp only [pkq, kpT, Qkj]
  cases hk : T[k]? with
  | none => simpa using ih
  | some s =>
   simp only [Option.map_some, Nat.zero_add, hk0]
   cases Qpk k tk with
   | true => simp only [Bool.not_true, cond_false, cond_true]; exact ih
   | false =>
    simp only [Bool.not_false, cond_true, cond_false, List.map_cons, ih]
    congr 1
    exact hT s (List.mem_of_getElem? hk) G
theorem Gd2.conv {C : Cx} {ops : Array Oper} {ms : List Nat} {κ : Nat -> Option Nat} {i os ds N L T L'} (h : Gd2 C ops ms i os ds N L T L') (hT : Qpa ms T) (hk : QnV κ i ds = true) :
  Gd C ops i os (cvO ms i ds) (cvS ms κ T.length N) L (cvS ms κ 0 T) L' /\ Qpa ms (T ++ N) := by
 induction h with
 | nil => rename_i i L T; exact ⟨.nil, by simpa using hT⟩
 | cons h r ih =>
  rename_i i o os d ds n N L T L'
  simp only [QnV, Bool.and_eq_true, List.all_eq_true, beq_iff_eq] at hk
  have hT2 : Qpa ms (T ++ mkT i n) := by
   intro s hs G
   rcases List.mem_append.1 hs with hs | hs
   ·exact hT s hs G
   ·obtain ⟨R, hR, rfl⟩ := List.mem_map.1 hs
    have := h.rN G
    have := List.map_inj_left.1 this R hR
    exact this
  obtain ⟨ih, hr⟩ := ih hT2 hk.2
  have e1 : cvS ms κ 0 (T ++ mkT i n) = cvS ms κ 0 T ++ cvS ms κ T.length (mkT i n) := by rw [Qg7, Nat.zero_add]
  have e2 : Qmf L o d = nxt L o ⟨dpt ms i, fun l => d.V (unr (dpt ms i) l), d.uses, d.wanted⟩ := by
   funext G
   simp only [Qmf, nxt, OpD.val, h.rV G]
   all_goals (cases o.dst <;> rfl)
  have e3 : cvS ms κ T.length (mkT i n ++ N) = cvS ms κ T.length (mkT i n) ++ cvS ms κ (T ++ mkT i n).length N := by rw [Qg7, List.length_append]
  rw [e1, e2] at ih
  rw [e3]
  refine ⟨.cons ?_ ih, by rw [<- List.append_assoc]; exact hr⟩
  have hrun := h.run
  refine ⟨fun s hs => ?_, h.grd, ?_⟩
  ·obtain ⟨k, hk', e⟩ := List.getElem_of_mem hs
   have := Qkj ms κ T.length (mkT i n) k
   rw [List.getElem?_eq_getElem hk', e] at this
   cases hq : (mkT i n)[k]? with
   | none => rw [hq] at this; simp at this
   | some t =>
    rw [hq] at this
    simp only [Option.map_some, Option.some.injEq] at this
    rw [this]
    obtain ⟨R, _, rfl⟩ := List.mem_map.1 (List.mem_of_getElem? hq)
    rfl
  ·revert hrun
   cases d.wanted with
   | false => rintro ⟨a, b, c⟩; exact ⟨fun G => a _, b, by rw [c]; rfl⟩
   | true =>
    intro hrun G
    have := hrun G
    have hpk := Qre (κ := κ) hT G d.uses
    have hkp := Qqw (κ := κ) hT G (i := i) (tk := d.takes) d.uses hk.1
    show OpX C.P (L G) (pk (cvS ms κ 0 T) d.uses G) o (fun g => d.V (unr (dpt ms i) ((dpt ms i).map (G.upd i g)))) (fun g => kp (cvS ms κ 0 T) d.uses i G ++ (cvS ms κ T.length (mkT i n)).map (·.at (G.upd i g)))
    rw [hpk, hkp]
    have ev : (fun g => d.V (unr (dpt ms i) ((dpt ms i).map (G.upd i g)))) = fun g => d.V (G.upd i g) := by funext g; exact h.rV _
    have en : ∀ g, (cvS ms κ T.length (mkT i n)).map (·.at (G.upd i g)) = n.map (fun R => R (G.upd i g)) := by
     intro g
     have hn := h.rN (G.upd i g)
     have gen : ∀ (m : List (GV -> SP)) (k : Nat), (cvS ms κ k (mkT i m)).map (·.at (G.upd i g)) = m.map (fun R => R (unr (dpt ms i) ((dpt ms i).map (G.upd i g)))) := by
      intro m
      induction m with
      | nil => intro k; rfl
      | cons R m ihm => intro k; exact congrArg (List.cons _) (ihm (k + 1))
     rw [gen, hn]
    rw [ev]
    have : (fun g => kpT T d.takes G d.uses ++ (cvS ms κ T.length (mkT i n)).map (·.at (G.upd i g))) = fun g => kpT T d.takes G d.uses ++ n.map (fun R => R (G.upd i g)) := by funext g; rw [en]
    rw [this]
    exact hrun G
def T0 : List SP -> List TS
 | [] => []
 | R :: A => ⟨none, fun _ => R⟩ :: T0 A
def Qrv (κ : Nat -> Option Nat) : Nat -> List SP -> List (Option Nat)
 | _, [] => []
 | k, _ :: A => κ k :: Qrv κ (k + 1) A
theorem QmP (ms κ) : ∀ k A, cvS ms κ k (T0 A) = Qdg A (Qrv κ k A)
 | _, [] => rfl
 | k, R :: A => by simp only [T0, cvS, Qrv, Qdg, QmP ms κ (k + 1) A]; rfl
theorem Qmz (ms) : ∀ A, Qpa ms (T0 A)
 | [] => fun s hs => by cases hs
 | R :: A => fun s hs G => by
  rcases List.mem_cons.1 hs with rfl | hs
  ·rfl
  ·exact Qmz ms A s hs G
def lft (κ : Nat -> Option Nat) (G : GV) : Nat -> List TS -> List SP
 | _, [] => []
 | k, s :: T => match κ k with
  | none => s.R G :: lft κ G (k + 1) T
  | some _ => lft κ G (k + 1) T
theorem Gd.jd {C : Cx} {ops : Array Oper} {X : List OpD -> List Qdj -> (GV -> Env) -> Prop} {i os ds N L T L'} (h : Gd C ops i os ds N L T L') (hX : X ds N L') : JD C ops i os L T X := by
 induction h generalizing X with
 | nil => exact hX
 | cons h r ih => exact ⟨_, _, h, ih hX⟩
theorem Qor {ms κ} (G : GV) : ∀ (T : List TS) (k m : Nat), Qpa ms T -> ((Qa4 m (cvS ms κ k T) (fun _ s => s.cons.isNone)).map (·.at G)) = lft κ G k T
 | [], k, m, _ => rfl
 | s :: T, k, m, hT => by
  have ih := Qor (κ := κ) G T (k + 1) (m + 1) (fun s hs => hT s (by simp [hs]))
  simp only [cvS, Qdq, lft]
  cases κ k with
  | none =>
   simp only [Option.isNone_none, cond_true, List.map_cons, ih]
   congr 1
   exact hT s (by simp) G
  | some j => simp only [Option.isNone_some, cond_false, ih]
def okK (n : Nat) (ops : Array Oper) (ms : List Nat) (A : List SP) (ds : List OpK) (N : List TS) : Bool :=
 QnV (Qe6 ds 0) 0 ds && (cvS ms (Qe6 ds 0) 0 (T0 A ++ N)).all (fun s => Qch (fun j => Nat.blt j ops.size) s == s.cons.isNone) && Qi3 n ops (cvO ms 0 ds) ms (cvS ms (Qe6 ds 0) 0 (T0 A ++ N))
theorem Qat {C : Cx} {ks : List Kn} {L : Env} {A : List SP} {id : Nat} {l : List Oper} (ms : List Nat) (hm : C.P.follows .mixedOrders = true)
  (h : JD2 C l.toArray ms 0 l (fun _ => L) (T0 A) (fun ds N L' => okK C.n l.toArray ms A ds N = true /\ ∀ G : GV, JK C ks (L' G) (lft (Qe6 ds 0) G 0 (T0 A ++ N)))) :
  JK C (.code (.region id l.toArray true) :: ks) L A := by
 obtain ⟨ds, N, L', ⟨hok, hX⟩, hg⟩ := QoU h
 simp only [okK, Bool.and_eq_true] at hok
 obtain ⟨⟨h1, h2⟩, h3⟩ := hok
 obtain ⟨hc, hR⟩ := hg.conv (κ := Qe6 ds 0) (Qmz ms A) h1
 have hS : cvS ms (Qe6 ds 0) 0 (T0 A ++ N) = Qdg A (Qrv (Qe6 ds 0) 0 A) ++ cvS ms (Qe6 ds 0) (T0 A).length N := by rw [Qg7, QmP, Nat.zero_add]
 rw [QmP] at hc
 refine Qly ms (Qrv (Qe6 ds 0) 0 A) hm (hc.jd ⟨by rw [<- hS]; exact h3, fun G => ?_⟩)
 rw [<- hS]
 have e : pick (cvS ms (Qe6 ds 0) 0 (T0 A ++ N)) (fun _ s => Qch (fun j => Nat.blt j l.toArray.size) s) = Qa4 0 (cvS ms (Qe6 ds 0) 0 (T0 A ++ N)) (fun _ s => s.cons.isNone) := by
  rw [<- QfQ]
  refine QfN (fun s k hm => ?_)
  have hs : s ∈ cvS ms (Qe6 ds 0) 0 (T0 A ++ N) := by
   have := List.fst_mem_of_mem_zipIdx hm
   exact this
  exact eq_of_beq (List.all_eq_true.1 h2 s hs)
 rw [e, Qor G _ 0 0 hR]
 exact hX G
section
variable {C : Cx} {ops : Array Oper} {ms : List Nat} {L : GV -> Env} {T : List TS} {i : Nat} {o : Oper} {os : List Oper} {X : List OpK -> List TS -> (GV -> Env) -> Prop}
theorem Dn (h : X [] [] L) : JD2 C ops ms i [] L T X := h
theorem Qvi {d : Nat} (h : JD2 C ops ms (i + 1) os (fun G => (d, undef) :: L G) T (fun ds N L' => X (⟨fun _ => undef, [], [], false⟩ :: ds) N L'))
  (hw : Wd C ops L o false := by exact ws rfl rfl rfl _ rfl rfl) (hd : o.dst = some d := by exact rfl) : JD2 C ops ms i (o :: os) L T X := by
 refine ⟨⟨fun _ => undef, [], [], false⟩, [], ⟨hw, ⟨fun _ => rfl, rfl, rfl⟩, fun _ => rfl, fun _ => rfl⟩, ?_⟩
 have e : Qmf L o ⟨fun _ => undef, [], [], false⟩ = fun G => (d, undef) :: L G := by funext G; simp [Qmf, hd]
 rw [e]
 simp only [mkT, List.map_nil, List.append_nil, List.nil_append]
 exact h
def Ql9 (A : List SP) (is : List Nat) : Option (List SP) := (take A is).map (·.1)
theorem Ds {op : Op} {ty : TypeId} {pos : String} {af : Array Edge} {gd : Option (Nat × Bool)} {d : Nat} (h : JD2 C ops ms (i + 1) os (fun G => (d, undef) :: L G) T (fun ds N L' => X (⟨fun _ => undef, [], [], false⟩ :: ds) N L'))
  (hw : Wd C ops L ⟨some d, op, ty, pos, af, gd⟩ false := by exact ws rfl rfl rfl _ rfl rfl) : JD2 C ops ms i (⟨some d, op, ty, pos, af, gd⟩ :: os) L T X := Qvi h hw rfl
theorem QkB {A B : List SP} {is : List Nat} (h : Ql9 A is = some B) : Ent A B := by
 unfold Ql9 at h
 cases ht : take A is with
 | none => rw [ht] at h; cases h
 | some p => rw [ht] at h; obtain ⟨x, y⟩ := p; simp at h; subst h; exact Ent.take ht
theorem Qu6 (us tk ix : List Nat) (V : GV -> Value) (n : List (GV -> SP)) {d : Nat} {Vc : GV -> List Value -> Value} {Bc : GV -> List Value -> List SP}
  (hx : ∀ G : GV, OpX C.P (L G) (pkT T G us) o (Vc G) (Bc G))
  (h : JD2 C ops ms (i + 1) os (fun G => (d, V G) :: L G) (T ++ mkT i n) (fun ds N L' => X (⟨V, us, tk, true⟩ :: ds) (mkT i n ++ N) L'))
  (hV : ∀ G g, Vc G g = V (G.upd i g) := by intro G g; kernel_rfl)
  (hB : ∀ G g, Ql9 (Bc G g) ix = some (kpT T tk G us ++ n.map (fun R => R (G.upd i g))) := by intro G g; kernel_rfl)
  (rV : ∀ G, V (unr (dpt ms i) ((dpt ms i).map G)) = V G := by intro G; kernel_rfl)
  (rN : ∀ G, n.map (fun R => R (unr (dpt ms i) ((dpt ms i).map G))) = n.map (fun R => R G) := by intro G; kernel_rfl)
  (hw : Wd C ops L o true := by first | exact wn rfl | exact wt rfl rfl rfl rfl) (hd : o.dst = some d := by exact rfl) : JD2 C ops ms i (o :: os) L T X := by
 refine ⟨⟨V, us, tk, true⟩, n, ⟨hw, fun G => ?_, rV, rN⟩, ?_⟩
 ·have e : Vc G = fun g => V (G.upd i g) := funext fun g => hV G g
  exact OpX.postR (e ▸ hx G) (fun g => QkB (hB G g))
 ·have e : Qmf L o ⟨V, us, tk, true⟩ = fun G => (d, V G) :: L G := by funext G; simp [Qmf, hd]
  rw [e]; exact h
theorem Dx {op : Op} {ty : TypeId} {pos : String} {af : Array Edge} {gd : Option (Nat × Bool)} (us tk ix : List Nat) (V : GV -> Value) (n : List (GV -> SP)) {d : Nat} {Vc : GV -> List Value -> Value} {Bc : GV -> List Value -> List SP}
  (hx : ∀ G : GV, OpX C.P (L G) (pkT T G us) ⟨some d, op, ty, pos, af, gd⟩ (Vc G) (Bc G))
  (h : JD2 C ops ms (i + 1) os (fun G => (d, V G) :: L G) (T ++ mkT i n) (fun ds N L' => X (⟨V, us, tk, true⟩ :: ds) (mkT i n ++ N) L'))
  (hV : ∀ G g, Vc G g = V (G.upd i g) := by intro G g; kernel_rfl)
  (hB : ∀ G g, Ql9 (Bc G g) ix = some (kpT T tk G us ++ n.map (fun R => R (G.upd i g))) := by intro G g; kernel_rfl)
  (rV : ∀ G, V (unr (dpt ms i) ((dpt ms i).map G)) = V G := by intro G; kernel_rfl)
  (rN : ∀ G, n.map (fun R => R (unr (dpt ms i) ((dpt ms i).map G))) = n.map (fun R => R G) := by intro G; kernel_rfl)
  (hw : Wd C ops L ⟨some d, op, ty, pos, af, gd⟩ true := by first | exact wn rfl | exact wt rfl rfl rfl rfl) : JD2 C ops ms i (⟨some d, op, ty, pos, af, gd⟩ :: os) L T X := Qu6 us tk ix V n hx h hV hB rV rN hw rfl
theorem QsH (us tk ix : List Nat) (n : List (GV -> SP)) {Vc : GV -> List Value -> Value} {Bc : GV -> List Value -> List SP}
  (hx : ∀ G : GV, OpX C.P (L G) (pkT T G us) o (Vc G) (Bc G))
  (h : JD2 C ops ms (i + 1) os L (T ++ mkT i n) (fun ds N L' => X (⟨fun _ => undef, us, tk, true⟩ :: ds) (mkT i n ++ N) L'))
  (hV : ∀ G g, Vc G g = undef := by intro G g; kernel_rfl)
  (hB : ∀ G g, Ql9 (Bc G g) ix = some (kpT T tk G us ++ n.map (fun R => R (G.upd i g))) := by intro G g; kernel_rfl)
  (rN : ∀ G, n.map (fun R => R (unr (dpt ms i) ((dpt ms i).map G))) = n.map (fun R => R G) := by intro G; kernel_rfl)
  (hw : Wd C ops L o true := by first | exact wn rfl | exact wt rfl rfl rfl rfl) (hd : o.dst = none := by exact rfl) : JD2 C ops ms i (o :: os) L T X := by
 refine ⟨⟨fun _ => undef, us, tk, true⟩, n, ⟨hw, fun G => ?_, fun _ => rfl, rN⟩, ?_⟩
 ·have e : Vc G = fun g => undef := funext fun g => hV G g
  exact OpX.postR (e ▸ hx G) (fun g => QkB (hB G g))
 ·have e : Qmf L o ⟨fun _ => undef, us, tk, true⟩ = L := by funext G; simp [Qmf, hd]
  rw [e]; exact h
theorem Dx0 {op : Op} {ty : TypeId} {pos : String} {af : Array Edge} {gd : Option (Nat × Bool)} (us tk ix : List Nat) (n : List (GV -> SP)) {Vc : GV -> List Value -> Value} {Bc : GV -> List Value -> List SP}
  (hx : ∀ G : GV, OpX C.P (L G) (pkT T G us) ⟨none, op, ty, pos, af, gd⟩ (Vc G) (Bc G))
  (h : JD2 C ops ms (i + 1) os L (T ++ mkT i n) (fun ds N L' => X (⟨fun _ => undef, us, tk, true⟩ :: ds) (mkT i n ++ N) L'))
  (hV : ∀ G g, Vc G g = undef := by intro G g; kernel_rfl)
  (hB : ∀ G g, Ql9 (Bc G g) ix = some (kpT T tk G us ++ n.map (fun R => R (G.upd i g))) := by intro G g; kernel_rfl)
  (rN : ∀ G, n.map (fun R => R (unr (dpt ms i) ((dpt ms i).map G))) = n.map (fun R => R G) := by intro G; kernel_rfl)
  (hw : Wd C ops L ⟨none, op, ty, pos, af, gd⟩ true := by first | exact wn rfl | exact wt rfl rfl rfl rfl) : JD2 C ops ms i (⟨none, op, ty, pos, af, gd⟩ :: os) L T X := QsH us tk ix n hx h hV hB rN hw rfl
theorem Qua (us : List Nat) (V : GV -> Value) {d : Nat} (hv : ∀ G : GV, OpV C.P (L G) (pkT T G us) o (V G))
  (h : JD2 C ops ms (i + 1) os (fun G => (d, V G) :: L G) T (fun ds N L' => X (⟨V, us, [], true⟩ :: ds) N L'))
  (hu : ∀ G g, V (G.upd i g) = V G := by intro G g; kernel_rfl)
  (rV : ∀ G, V (unr (dpt ms i) ((dpt ms i).map G)) = V G := by intro G; kernel_rfl)
  (hs : (match o.op with | .select .. => true | _ => false) = false := by exact rfl)
  (hw : Wd C ops L o true := by first | exact wn rfl | exact wt rfl rfl rfl rfl) (hd : o.dst = some d := by exact rfl) : JD2 C ops ms i (o :: os) L T X := by
 refine ⟨⟨V, us, [], true⟩, [], ⟨hw, fun G => ?_, rV, fun _ => rfl⟩, ?_⟩
 ·have e : (fun g => V (G.upd i g)) = fun _ => V G := funext fun g => hu G g
  show OpX C.P (L G) (pkT T G us) o (fun g => V (G.upd i g)) _
  rw [e]
  refine OpX.post (fun g => ?_) (OpX.ofV (fun cs b e => by simp [e] at hs) (hv G))
  have : ∀ us, kpT T [] G us = pkT T G us := by
   intro us
   induction us with
   | nil => rfl
   | cons k us ih =>
    simp only [kpT, pkT]
    cases T[k]? with
    | none => exact ih
    | some s => simp only [Qpk, cond_false, ih]
  show Ent _ (kpT T [] G us ++ [])
  rw [this, List.append_nil]
  exact Ent.refl _
 ·have e : Qmf L o ⟨V, us, [], true⟩ = fun G => (d, V G) :: L G := by funext G; simp [Qmf, hd]
  rw [e]
  simp only [mkT, List.map_nil, List.append_nil, List.nil_append]
  exact h
theorem Dg {op : Op} {ty : TypeId} {pos : String} {af : Array Edge} {gd : Option (Nat × Bool)} (us : List Nat) (V : GV -> Value) {d : Nat} (hv : ∀ G : GV, OpV C.P (L G) (pkT T G us) ⟨some d, op, ty, pos, af, gd⟩ (V G))
  (h : JD2 C ops ms (i + 1) os (fun G => (d, V G) :: L G) T (fun ds N L' => X (⟨V, us, [], true⟩ :: ds) N L'))
  (hu : ∀ G g, V (G.upd i g) = V G := by intro G g; kernel_rfl)
  (rV : ∀ G, V (unr (dpt ms i) ((dpt ms i).map G)) = V G := by intro G; kernel_rfl)
  (hs : (match op with | .select .. => true | _ => false) = false := by exact rfl)
  (hw : Wd C ops L ⟨some d, op, ty, pos, af, gd⟩ true := by first | exact wn rfl | exact wt rfl rfl rfl rfl) : JD2 C ops ms i (⟨some d, op, ty, pos, af, gd⟩ :: os) L T X := Qua us V hv h hu rV hs hw rfl
theorem Quk (us : List Nat) {v : Value} {d : Nat} (hv : ∀ {G : GV}, OpV C.P (L G) (pkT T G us) o v)
  (h : JD2 C ops ms (i + 1) os (fun G => (d, v) :: L G) T (fun ds N L' => X (⟨fun _ => v, us, [], true⟩ :: ds) N L'))
  (hs : (match o.op with | .select .. => true | _ => false) = false := by exact rfl)
  (hw : Wd C ops L o true := by first | exact wn rfl | exact wt rfl rfl rfl rfl) (hd : o.dst = some d := by exact rfl) : JD2 C ops ms i (o :: os) L T X :=
 Qua us (fun _ => v) (fun _ => hv) h (fun _ _ => rfl) (fun _ => rfl) hs hw hd
theorem Dv {op : Op} {ty : TypeId} {pos : String} {af : Array Edge} {gd : Option (Nat × Bool)} (us : List Nat) {v : Value} {d : Nat} (hv : ∀ {G : GV}, OpV C.P (L G) (pkT T G us) ⟨some d, op, ty, pos, af, gd⟩ v)
  (h : JD2 C ops ms (i + 1) os (fun G => (d, v) :: L G) T (fun ds N L' => X (⟨fun _ => v, us, [], true⟩ :: ds) N L'))
  (hs : (match op with | .select .. => true | _ => false) = false := by exact rfl)
  (hw : Wd C ops L ⟨some d, op, ty, pos, af, gd⟩ true := by first | exact wn rfl | exact wt rfl rfl rfl rfl) : JD2 C ops ms i (⟨some d, op, ty, pos, af, gd⟩ :: os) L T X := Quk us hv h hs hw rfl
theorem QuW {e b : Bool} (he : e = b) (us : List Nat) {d : Nat} (hv : ∀ {G : GV}, OpV C.P (L G) (pkT T G us) o (.bool e))
  (h : JD2 C ops ms (i + 1) os (fun G => (d, .bool b) :: L G) T (fun ds N L' => X (⟨fun _ => .bool b, us, [], true⟩ :: ds) N L'))
  (hs : (match o.op with | .select .. => true | _ => false) = false := by exact rfl)
  (hw : Wd C ops L o true := by first | exact wn rfl | exact wt rfl rfl rfl rfl) (hd : o.dst = some d := by exact rfl) : JD2 C ops ms i (o :: os) L T X := by
 subst he; exact Quk us hv h hs hw hd
theorem Db {op : Op} {ty : TypeId} {pos : String} {af : Array Edge} {gd : Option (Nat × Bool)} {e b : Bool} (he : e = b) (us : List Nat) {d : Nat} (hv : ∀ {G : GV}, OpV C.P (L G) (pkT T G us) ⟨some d, op, ty, pos, af, gd⟩ (.bool e))
  (h : JD2 C ops ms (i + 1) os (fun G => (d, .bool b) :: L G) T (fun ds N L' => X (⟨fun _ => .bool b, us, [], true⟩ :: ds) N L'))
  (hs : (match op with | .select .. => true | _ => false) = false := by exact rfl)
  (hw : Wd C ops L ⟨some d, op, ty, pos, af, gd⟩ true := by first | exact wn rfl | exact wt rfl rfl rfl rfl) : JD2 C ops ms i (⟨some d, op, ty, pos, af, gd⟩ :: os) L T X := QuW he us hv h hs hw rfl
end
end Go.SL
