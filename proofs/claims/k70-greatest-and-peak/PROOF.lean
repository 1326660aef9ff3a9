import PyProof.Rows.All
import Wide.All
import OpenK.AllK
import Wide.FinOn
import HandS.GenList
import HandS.ForMost
import HandS.Evl
import KE.SortKeyHeap
import PyProof.TupleOfSeq
import HandS.Nested
import HandS.OwnEq
import PyProof.RulesMatch
import KE.GoesMore
import HandS.Iter
import PyProof.ReprRoads
import PyProof.FitsInt
import HandS.EndTab
import HandS.Codes
import HandS.Style
import HandS.Wide
import HandS.IsInst
import HandS.Star
import HandS.MakeKwOnly
import HandS.Defaults
import HandS.Words
import HandS.Flow
import HandS.More
import HandS.HeadHook4
import KE.KStateDown
import Lean
import HandS.Head0
import HandS.Head1
import HandS.Head2
import HandS.HeadEnd
import HandS.HeadHook1
import HandS.HeadHook2
import HandS.HeadHook3
import HandS.WordsExc
import PySem.Challenge.RW_spanloops_k70_greatest_and_peak
set_option Elab.async false
set_option linter.all false
set_option maxRecDepth 100000
set_option maxHeartbeats 4000000
/-! Sleeping generators: code that never wakes them runs alike whatever they hold. -/
namespace Gx
open PySem
open Sem (wp)

theorem no_unsup {M : Model} {Γ : Ctx} {p : Pos} {t : Sem PySem.Fin} {fs : List Frame} {s s' : Shared} {e : End} (h : Runs M Γ p t fs s e s') : ∀ w, t = .unsupported w → False := by
  induction h <;> intro w hw <;> first | (cases hw; done) | (rename_i ih _; exact ih w hw) | (rename_i ih; exact ih w hw) | (rename_i ih _ _; exact ih w hw) | (rename_i ih _ _ _; exact ih w hw)

/-- a sleeper with its continuation taken away -/
def pz : GenState → GenState
  | .suspended _ l c p fs cl => .suspended (fun _ => .unsupported "") l c p fs cl
  | x => x
theorem pz_seen (x : GenState) : (pz x).seen = x.seen := by cases x <;> rfl
theorem pz_bare (x : GenState) : (pz x).bare = x.bare := by cases x <;> rfl

theorem split_app : ∀ {a b : List Frame}, splitAtGen a = none → splitAtGen b = none → splitAtGen (a ++ b) = none
  | [], _, _, h => h
  | .gen g k l c p :: r, _, h, _ => by simp [splitAtGen] at h
  | .ret k h g l c p kp :: r, b, h1, h2 => by
    have h3 : (splitAtGen r).map (fun (x : List Frame × (Nat × (GenResult → Sem PySem.Fin) × Code × Pos) × List Frame) => ((Frame.ret k h g l c p kp :: x.1, x.2.1, x.2.2) : List Frame × (Nat × (GenResult → Sem PySem.Fin) × Code × Pos) × List Frame)) = none := h1
    have h4 : splitAtGen r = none := by
      cases e : splitAtGen r with
      | none => rfl
      | some x => rw [e] at h3; cases h3
    show (splitAtGen (r ++ b)).map _ = none
    rw [split_app h4 h2]; rfl
theorem split_pre : ∀ {a pre rest : List Frame} {x : Nat × (GenResult → Sem PySem.Fin) × Code × Pos}, splitAtGen a = some (pre, x, rest) →
    splitAtGen pre = none ∧ (∃ l, .gen x.1 x.2.1 l x.2.2.1 x.2.2.2 ∈ a) ∧ ∀ F ∈ rest, F ∈ a
  | [], _, _, _, h => by simp [splitAtGen] at h
  | .gen g k l c p :: r, pre, rest, x, h => by
    simp only [splitAtGen, Option.some.injEq, Prod.mk.injEq] at h
    obtain ⟨rfl, rfl, rfl⟩ := h
    exact ⟨rfl, ⟨l, List.mem_cons_self⟩, fun F hF => List.mem_cons_of_mem _ hF⟩
  | .ret k hd g l c p kp :: r, pre, rest, x, h => by
    have h3 : (splitAtGen r).map (fun (x : List Frame × (Nat × (GenResult → Sem PySem.Fin) × Code × Pos) × List Frame) => ((Frame.ret k hd g l c p kp :: x.1, x.2.1, x.2.2) : List Frame × (Nat × (GenResult → Sem PySem.Fin) × Code × Pos) × List Frame)) = some (pre, x, rest) := h
    cases e : splitAtGen r with
    | none => rw [e] at h3; cases h3
    | some y =>
      rw [e] at h3
      simp only [Option.map_some, Option.some.injEq, Prod.mk.injEq] at h3
      obtain ⟨rfl, h4, h5⟩ := h3
      obtain ⟨y1, y2, y3⟩ := y
      simp only at h4 h5
      subst h4 h5
      obtain ⟨i1, ⟨l2, i2⟩, i3⟩ := split_pre e
      refine ⟨?_, ⟨l2, List.mem_cons_of_mem _ i2⟩, fun F hF => List.mem_cons_of_mem _ (i3 F hF)⟩
      show (splitAtGen y1).map _ = none
      rw [i1]; rfl

/-- who sleeps: B i is what really sleeps at i; in s the sleepers have lost their continuations; all other sleepers have plain frames -/
structure Slp (B : Nat → Option GenState) (s : Shared) : Prop where
  at_ : ∀ i x, B i = some x → (∃ k l c p fs cl, x = .suspended k l c p fs cl) ∧ s.gens[i]? = some (pz x)
  rest : ∀ i k l c p fs cl, B i = none → s.gens[i]? = some (.suspended k l c p fs cl) → splitAtGen fs = none
def real (B : Nat → Option GenState) (s : Shared) : Shared := { s with gens := s.gens.mapIdx fun i y => (B i).getD y }
def Off (B : Nat → Option GenState) (fs : List Frame) : Prop := ∀ g k l c p, Frame.gen g k l c p ∈ fs → B g = none

section
variable {B : Nat → Option GenState} {s : Shared} {g : Nat} {x y : GenState}
theorem real_get (i : Nat) : (real B s).gens[i]? = (s.gens[i]?).map fun y => (B i).getD y := by
  show (s.gens.mapIdx _)[i]? = _
  rw [Array.getElem?_mapIdx]
theorem real_out (h : B g = none) : (real B s).gens[g]? = s.gens[g]? := by
  rw [real_get, h]
  cases s.gens[g]? <;> rfl
theorem real_size : (real B s).gens.size = s.gens.size := by
  show (s.gens.mapIdx _).size = _
  simp
theorem real_set (h : B g = none) : real B (s.setGen g x) = (real B s).setGen g x := by
  unfold real Shared.setGen
  congr 1
  apply Array.ext_getElem?
  intro i
  simp only [Array.getElem?_mapIdx, Array.getElem?_setIfInBounds, Array.size_mapIdx]
  by_cases e : g = i
  · subst e
    rw [if_pos rfl, if_pos rfl]
    split
    · rw [Option.map_some, h]; rfl
    · rfl
  · rw [if_neg e, if_neg e]
theorem Slp.set (S : Slp B s) (h : B g = none) (hx : ∀ k l c p fs cl, x = .suspended k l c p fs cl → splitAtGen fs = none) : Slp B (s.setGen g x) := by
  refine ⟨fun i y e => ?_, fun i k l c p fs cl hb e => ?_⟩
  · obtain ⟨h1, h2⟩ := S.at_ i y e
    refine ⟨h1, ?_⟩
    have ne : g ≠ i := fun z => by subst z; rw [h] at e; cases e
    show (s.gens.setIfInBounds g x)[i]? = _
    rw [Array.getElem?_setIfInBounds_ne ne]; exact h2
  · have e' : (s.gens.setIfInBounds g x)[i]? = some (.suspended k l c p fs cl) := e
    by_cases z : g = i
    · subst z
      rw [Array.getElem?_setIfInBounds] at e'
      rw [if_pos rfl] at e'
      split at e'
      · exact hx k l c p fs cl (Option.some.inj e')
      · cases e'
    · rw [Array.getElem?_setIfInBounds_ne z] at e'
      exact S.rest i k l c p fs cl hb e'
theorem Slp.of (S : Slp B s) {s' : Shared} (h : s'.gens = s.gens) : Slp B s' := ⟨fun i y e => by rw [h]; exact S.at_ i y e, fun i k l c p fs cl hb e => S.rest i k l c p fs cl hb (by rw [← h]; exact e)⟩
theorem Slp.push (S : Slp B s) {c : Code} : Slp B { s with gens := s.gens.push (.fresh c) } := by
  refine ⟨fun i y e => ?_, fun i k l c' p fs cl hb e => ?_⟩
  · obtain ⟨h1, h2⟩ := S.at_ i y e
    refine ⟨h1, ?_⟩
    have lt := (Array.getElem?_eq_some_iff.mp h2).1
    show (s.gens.push _)[i]? = _
    rw [Array.getElem?_push, if_neg (Nat.ne_of_lt lt)]; exact h2
  · have e' : (s.gens.push (GenState.fresh c))[i]? = some (.suspended k l c' p fs cl) := e
    rw [Array.getElem?_push] at e'
    split at e'
    · cases e'
    · exact S.rest i k l c' p fs cl hb e'
theorem Slp.size (S : Slp B s) : B s.gens.size = none := by
  cases e : B s.gens.size with
  | none => rfl
  | some y =>
    have h := (S.at_ _ y e).2
    have := (Array.getElem?_eq_some_iff.mp h).1
    exact absurd this (Nat.lt_irrefl _)
theorem real_push (S : Slp B s) {c : Code} : real B { s with gens := s.gens.push (.fresh c) } = { real B s with gens := (real B s).gens.push (.fresh c) } := by
  unfold real
  congr 1
  apply Array.ext_getElem?
  intro i
  simp only [Array.getElem?_mapIdx, Array.getElem?_push, Array.size_mapIdx]
  by_cases e : i = s.gens.size
  · rw [if_pos e, if_pos e, e, Option.map_some, S.size]; rfl
  · rw [if_neg e, if_neg e]
end

theorem Slp.awake {B : Nat → Option GenState} {s : Shared} (S : Slp B s) {g : Nat} {y : GenState} (q : s.gens[g]? = some y) (h : ∀ k l c p fs cl, y ≠ .suspended k l c p fs cl) : B g = none := by
  cases hB : B g with
  | none => rfl
  | some x =>
    obtain ⟨⟨k, l, c, p, fs, cl, rfl⟩, q2⟩ := S.at_ g x hB
    rw [q] at q2
    exact (h _ _ _ _ _ _ (Option.some.inj q2)).elim
theorem Slp.seen {B : Nat → Option GenState} {s : Shared} (S : Slp B s) {g : Nat} {y : GenState} (q : s.gens[g]? = some y) : ∃ z, (real B s).gens[g]? = some z ∧ z.seen = y.seen := by
  cases hB : B g with
  | none => exact ⟨y, (real_out hB).trans q, rfl⟩
  | some x =>
    have q2 := (S.at_ g x hB).2
    rw [q] at q2
    have e2 : y = pz x := Option.some.inj q2
    refine ⟨x, ?_, ?_⟩
    · rw [real_get, q, Option.map_some, hB]; rfl
    · rw [e2, pz_seen]

theorem Slp.sleeping {B : Nat → Option GenState} {s : Shared} (S : Slp B s) {g : Nat} {k l c p fs cl} (q : s.gens[g]? = some (.suspended k l c p fs cl)) : (B g = none ∧ splitAtGen fs = none) ∨ ∀ r, k r = .unsupported "" := by
  cases hB : B g with
  | none => exact .inl ⟨rfl, S.rest g _ _ _ _ _ _ hB q⟩
  | some x =>
    obtain ⟨⟨k', l', c', p', fs', cl', rfl⟩, q2⟩ := S.at_ g x hB
    rw [q] at q2
    cases q2
    exact .inr fun _ => rfl
theorem off_of_split {B : Nat → Option GenState} : ∀ {l : List Frame}, splitAtGen l = none → Off B l
  | [], _ => fun _ _ _ _ _ z => by simp at z
  | .gen g k l c p :: r, h => by simp [splitAtGen] at h
  | .ret k h g l c p kp :: r, hn => fun g' k' l' c' p' hm => by
    have h3 : (splitAtGen r).map (fun (x : List Frame × (Nat × (GenResult → Sem PySem.Fin) × Code × Pos) × List Frame) => ((Frame.ret k h g l c p kp :: x.1, x.2.1, x.2.2) : List Frame × (Nat × (GenResult → Sem PySem.Fin) × Code × Pos) × List Frame)) = none := hn
    have h4 : splitAtGen r = none := by
      cases e : splitAtGen r with
      | none => rfl
      | some x => rw [e] at h3; cases h3
    rcases List.mem_cons.mp hm with z | z
    · cases z
    · exact off_of_split h4 _ _ _ _ _ z

theorem susp_of_genState {e : End} (hs : ∀ v g l k c p fs, e = .susp v g l k c p fs → splitAtGen fs = none) : ∀ k l c p fs cl, e.genState = .suspended k l c p fs cl → splitAtGen fs = none := by
  intro k l c p fs cl h
  cases e with
  | ret r => cases h
  | susp v g l' k' c' p' fs' =>
    simp only [End.genState, GenState.suspended.injEq] at h
    obtain ⟨_, _, _, _, rfl, _⟩ := h
    exact hs _ _ _ _ _ _ _ rfl

theorem runs_real {M : Model} {B : Nat → Option GenState} {Γ : Ctx} {p : Pos} {t : Sem PySem.Fin} {fs : List Frame} {s s' : Shared} {e : End} (h : Runs M Γ p t fs s e s') :
    Slp B s → Off B fs → Slp B s' ∧ (∀ v g l k c p fs, e = .susp v g l k c p fs → splitAtGen fs = none) ∧ Runs M Γ p t fs (real B s) e (real B s') := by
  have no : Off B [] := fun _ _ _ _ _ z => by simp at z
  induction h with
  | done => intro S _; exact ⟨S, (fun _ _ _ _ _ _ _ z => by cases z), .done⟩
  | raise => intro S _; exact ⟨S, (fun _ _ _ _ _ _ _ z => by cases z), .raise⟩
  | again q _ ih => intro S o; obtain ⟨a, b, c⟩ := ih S no; exact ⟨a, b, .again q c⟩
  | rule _ ih => intro S o; obtain ⟨a, b, c⟩ := ih S no; exact ⟨a, b, .rule c⟩
  | «at» _ ih => intro S o; obtain ⟨a, b, c⟩ := ih S no; exact ⟨a, b, .at c⟩
  | load q _ ih => intro S o; obtain ⟨a, b, c⟩ := ih S no; exact ⟨a, b, .load q c⟩
  | update q _ ih => intro S o; obtain ⟨a, b, c⟩ := ih (S.of rfl) no; exact ⟨a, b, .update q c⟩
  | loadIfAlive _ ih => intro S o; obtain ⟨a, b, c⟩ := ih S no; exact ⟨a, b, .loadIfAlive c⟩
  | point _ ih => intro S o; obtain ⟨a, b, c⟩ := ih S no; exact ⟨a, b, .point c⟩
  | alloc _ ih => intro S o; obtain ⟨a, b, c⟩ := ih (S.of rfl) no; exact ⟨a, b, .alloc c⟩
  | fresh _ ih => intro S o; obtain ⟨a, b, c⟩ := ih (S.of rfl) no; exact ⟨a, b, .fresh c⟩
  | ask _ ih => intro S o; obtain ⟨a, b, c⟩ := ih S no; exact ⟨a, b, .ask c⟩
  | choose q _ ih => intro S o; obtain ⟨a, b, c⟩ := ih (S.of rfl) no; exact ⟨a, b, .choose q c⟩
  | os _ ih => intro S o; obtain ⟨a, b, c⟩ := ih (S.of rfl) no; exact ⟨a, b, .os c⟩
  | handled _ ih => intro S o; obtain ⟨a, b, c⟩ := ih S no; exact ⟨a, b, .handled c⟩
  | genState q _ ih =>
    intro S o
    obtain ⟨a, b, c⟩ := ih S no
    obtain ⟨z, hz, hs⟩ := S.seen q
    exact ⟨a, b, .genState hz (by rw [hs]; exact c)⟩
  | stack _ ih => intro S o; obtain ⟨a, b, c⟩ := ih S no; exact ⟨a, b, .stack c⟩
  | thread _ ih => intro S o; obtain ⟨a, b, c⟩ := ih S no; exact ⟨a, b, .thread c⟩
  | newGen _ ih => intro S o; obtain ⟨a, b, c⟩ := ih S.push no; rw [real_push S] at c; exact ⟨a, b, .newGen (by rw [real_size]; exact c)⟩
  | call _ _ ih1 ih2 =>
    intro S o
    obtain ⟨a1, _, c1⟩ := ih1 S no
    obtain ⟨a2, b2, c2⟩ := ih2 a1 no
    exact ⟨a2, b2, .call c1 c2⟩
  | callSusp _ ih =>
    intro S o
    obtain ⟨a, b, c⟩ := ih S no
    refine ⟨a, fun v g l k c p fs z => ?_, .callSusp c⟩
    cases z
    exact split_app (b _ _ _ _ _ _ _ rfl) rfl
  | «yield» => intro S o; exact ⟨S, (fun _ _ _ _ _ _ _ z => by cases z; rfl), .yield⟩
  | resumeFresh q _ qt _ ih1 ih2 =>
    intro S o
    have hB := S.awake q (fun _ _ _ _ _ _ z => by cases z)
    obtain ⟨a1, b1, c1⟩ := ih1 (S.set hB fun _ _ _ _ _ _ z => by cases z) no
    obtain ⟨a2, b2, c2⟩ := ih2 (a1.set hB (susp_of_genState b1)) no
    rw [real_set hB] at c1 c2
    exact ⟨a2, b2, .resumeFresh ((real_out hB).trans q) c1 qt c2⟩
  | resumeSuspended q r1 qt _ ih1 ih2 =>
    intro S o
    rcases S.sleeping q with ⟨hB, hs⟩ | hn
    · have ho := off_of_split (B := B) hs
      obtain ⟨a1, b1, c1⟩ := ih1 (S.set hB fun _ _ _ _ _ _ z => by cases z) ho
      obtain ⟨a2, b2, c2⟩ := ih2 (a1.set hB (susp_of_genState b1)) no
      rw [real_set hB] at c1 c2
      exact ⟨a2, b2, .resumeSuspended ((real_out hB).trans q) c1 qt c2⟩
    · exact (no_unsup r1 _ (hn _)).elim
  | resumeJustStarted q hv _ ih =>
    intro S o
    have hB := S.awake q (fun _ _ _ _ _ _ z => by cases z)
    obtain ⟨a, b, c⟩ := ih S no
    exact ⟨a, b, .resumeJustStarted ((real_out hB).trans q) hv c⟩
  | resumeThrowFresh q _ ih =>
    intro S o
    have hB := S.awake q (fun _ _ _ _ _ _ z => by cases z)
    obtain ⟨a, b, c⟩ := ih (S.set hB fun _ _ _ _ _ _ z => by cases z) no
    rw [real_set hB] at c
    exact ⟨a, b, .resumeThrowFresh ((real_out hB).trans q) c⟩
  | resumeRunning q _ ih =>
    intro S o
    have hB := S.awake q (fun _ _ _ _ _ _ z => by cases z)
    obtain ⟨a, b, c⟩ := ih S no
    exact ⟨a, b, .resumeRunning ((real_out hB).trans q) c⟩
  | resumeFinished q _ ih =>
    intro S o
    have hB := S.awake q (fun _ _ _ _ _ _ z => by cases z)
    obtain ⟨a, b, c⟩ := ih S no
    exact ⟨a, b, .resumeFinished ((real_out hB).trans q) c⟩
  | segRet _ _ ih1 ih2 =>
    intro S o
    obtain ⟨a1, _, c1⟩ := ih1 S no
    obtain ⟨a2, b2, c2⟩ := ih2 a1 fun g k l c p hm => o g k l c p (List.mem_cons_of_mem _ hm)
    exact ⟨a2, b2, .segRet c1 c2⟩
  | segGen _ _ ih1 ih2 =>
    intro S o
    have hB := o _ _ _ _ _ List.mem_cons_self
    obtain ⟨a1, _, c1⟩ := ih1 S no
    obtain ⟨a2, b2, c2⟩ := ih2 (a1.set hB fun _ _ _ _ _ _ z => by cases z) fun g k l c p hm => o g k l c p (List.mem_cons_of_mem _ hm)
    rw [real_set hB] at c2
    exact ⟨a2, b2, .segGen c1 c2⟩
  | segSuspOut q _ ih =>
    intro S o
    obtain ⟨a, b, c⟩ := ih S no
    refine ⟨a, fun v g l k c p fs z => ?_, .segSuspOut q c⟩
    cases z
    exact split_app (b _ _ _ _ _ _ _ rfl) q
  | segSuspGen q _ qt _ ih1 ih2 =>
    intro S o
    obtain ⟨hp, ⟨l, hm⟩, hr⟩ := split_pre q
    have hB := o _ _ _ _ _ hm
    obtain ⟨a1, b1, c1⟩ := ih1 S no
    obtain ⟨a2, b2, c2⟩ := ih2 (a1.set hB (susp_of_genState fun _ _ _ _ _ _ _ z => by cases z; exact split_app (b1 _ _ _ _ _ _ _ rfl) hp)) fun g k l c p hm => o g k l c p (hr _ hm)
    rw [real_set hB] at c2
    exact ⟨a2, b2, .segSuspGen q c1 qt c2⟩

theorem off_nil {B : Nat → Option GenState} : Off B [] := fun _ _ _ _ _ z => by simp at z
theorem wakes_real {M : Model} {B : Nat → Option GenState} {Γ : Ctx} {p : Pos} {g : Nat} {r : Resume} {s s' : Shared} {res : GenResult} (S : Slp B s) (h : Wakes M Γ p g r s res s') : Slp B s' ∧ Wakes M Γ p g r (real B s) res (real B s') := by
  unfold Wakes at h ⊢
  cases q : s.gens[g]? with
  | none => rw [q] at h; exact h.elim
  | some y =>
    rw [q] at h
    cases y with
    | fresh c =>
      have hB := S.awake q (fun _ _ _ _ _ _ z => by cases z)
      rw [real_out hB, q]
      have hset : ∀ (e₁ : End) (s₁ : Shared), Runs M (Γ.wake c p) p (M.den c) [] (s.setGen g .running) e₁ s₁ → Slp B (s₁.setGen g e₁.genState) ∧ Runs M (Γ.wake c p) p (M.den c) [] ((real B s).setGen g .running) e₁ (real B s₁) := fun e₁ s₁ hr => by
        obtain ⟨a1, b1, c1⟩ := runs_real hr (S.set hB fun _ _ _ _ _ _ z => by cases z) off_nil
        rw [real_set hB] at c1
        exact ⟨a1.set hB (susp_of_genState b1), c1⟩
      cases r with
      | throw x =>
        obtain ⟨h1, h2⟩ := h
        subst h2
        exact ⟨S.set hB (fun _ _ _ _ _ _ z => by cases z), h1, real_set hB⟩
      | send v =>
        cases v with
        | none =>
          obtain ⟨e₁, s₁, hr, hq, h1, rfl⟩ := h
          obtain ⟨a, b⟩ := hset e₁ s₁ hr
          exact ⟨a, e₁, real B s₁, b, hq, h1, real_set hB⟩
        | _ =>
          obtain ⟨h1, rfl⟩ := h
          exact ⟨S, h1, rfl⟩
    | suspended k₀ l₀ c₀ p₀ fs cl =>
      obtain ⟨e₁, s₁, hr, hq, h1, rfl⟩ := h
      rcases S.sleeping q with ⟨hB, hs⟩ | hn
      · rw [real_out hB, q]
        obtain ⟨a1, b1, c1⟩ := runs_real hr (S.set hB fun _ _ _ _ _ _ z => by cases z) (off_of_split hs)
        rw [real_set hB] at c1
        exact ⟨a1.set hB (susp_of_genState b1), e₁, real B s₁, c1, hq, h1, real_set hB⟩
      · exact (no_unsup hr _ (hn _)).elim
    | running =>
      have hB := S.awake q (fun _ _ _ _ _ _ z => by cases z)
      rw [real_out hB, q]
      obtain ⟨h1, rfl⟩ := h
      exact ⟨S, h1, rfl⟩
    | finished =>
      have hB := S.awake q (fun _ _ _ _ _ _ z => by cases z)
      rw [real_out hB, q]
      obtain ⟨h1, rfl⟩ := h
      exact ⟨S, h1, rfl⟩

def RealQ {α : Type} (B : Nat → Option GenState) (Q : α → Shared → Prop) : α → Shared → Prop := fun a s' => ∃ s'', s' = real B s'' ∧ Slp B s'' ∧ Q a s''
theorem wp_real {α : Type} (M : Model) (B : Nat → Option GenState) (Γ : Ctx) (t : Sem α) : ∀ (Q : α → Pos → Shared → Prop) (E : Value → Pos → Shared → Prop) (p : Pos) (s : Shared), Slp B s → wp M Γ t Q E p s →
    wp M Γ t (fun a p' s' => ∃ s'', s' = real B s'' ∧ Slp B s'' ∧ Q a p' s'') (fun e p' s' => ∃ s'', s' = real B s'' ∧ Slp B s'' ∧ E e p' s'') p (real B s) := by
  induction t with
  | pure a => intro Q E p s hS h; exact ⟨s, rfl, hS, h⟩
  | raise e => intro Q E p s hS h; exact ⟨s, rfl, hS, h⟩
  | unsupported _ => intro Q E p s _ h; exact h
  | finish _ => intro Q E p s _ h; exact h
  | rule _ k ih => intro Q E p s hS h; exact ih () Q E p s hS h
  | «at» p' k ih => intro Q E p s hS h; exact ih () Q E p' s hS h
  | load a _ k ih => intro Q E p s hS h; obtain ⟨o, ho, h⟩ := h; exact ⟨o, ho, ih o Q E p s hS h⟩
  | update a _ f k ih => intro Q E p s hS h; exact ⟨h.1, ih () Q E p { s with heap := s.heap.update a f } (hS.of rfl) h.2⟩
  | loadIfAlive a k ih => intro Q E p s hS h; exact ih _ Q E p s hS h
  | point _ k ih => intro Q E p s hS h; exact ih () Q E p s hS h
  | register _ _ => intro Q E p s _ h; exact h
  | alloc o k ih => intro Q E p s hS h; exact ih _ Q E p { s with heap := s.heap.push o } (hS.of rfl) h
  | fresh k ih => intro Q E p s hS h; exact ih _ Q E p { s with toks := s.toks + 1 } (hS.of rfl) h
  | ask k ih => intro Q E p s hS h; exact ih _ Q E p s hS h
  | choose src m k ih => intro Q E p s hS h; exact ⟨h.1, ih _ Q E p { s with drawn := s.drawn.bump src } (hS.of rfl) h.2⟩
  | os q _ k ih => intro Q E p s hS h; exact ih _ Q E p { s with os := (Os.step s.os q).1 } (hS.of rfl) h
  | call c hd _ _ k ih =>
    intro Q E p s hS h
    obtain ⟨r, s', hr, h⟩ := h
    obtain ⟨a, _, c⟩ := runs_real hr hS off_nil
    exact ⟨r, real B s', c, ih r Q E p s' a h⟩
  | handled own k ih => intro Q E p s hS h; exact ih _ Q E p s hS h
  | genState g k ih =>
    intro Q E p s hS h
    obtain ⟨st, hs, h⟩ := h
    obtain ⟨z, hz, e⟩ := hS.seen hs
    exact ⟨z, hz, by rw [e]; exact ih _ Q E p s hS h⟩
  | newGen c k ih =>
    intro Q E p s hS h
    have q := ih _ Q E p _ hS.push h
    rw [real_push hS] at q
    show wp M Γ (k (real B s).gens.size) _ _ p { real B s with gens := (real B s).gens.push (.fresh c) }
    rw [real_size]; exact q
  | resume g r _ k ih =>
    intro Q E p s hS h
    obtain ⟨res, s', hw, h⟩ := h
    obtain ⟨a, b⟩ := wakes_real hS hw
    exact ⟨res, real B s', b, ih res Q E p s' a h⟩
  | yield _ _ _ _ => intro Q E p s _ h; exact h
  | stack k ih => intro Q E p s hS h; exact ih _ Q E p s hS h
  | fork _ _ => intro Q E p s _ h; exact h
  | thread k ih => intro Q E p s hS h; exact ih _ Q E p s hS h
  | await _ _ _ _ _ => intro Q E p s _ h; exact h

theorem wpAny_real {α : Type} {M : Model} {A : Around} {t : Sem α} {Q : α → Shared → Prop} {E : Value → Shared → Prop} {B : Nat → Option GenState} {s : Shared} (S : Slp B s) (h : wpAny M A t Q E s) :
    wpAny M A t (RealQ B Q) (RealQ B E) (real B s) := fun Γ p hΓ => wp_real M B Γ t _ _ p s S (h Γ p hΓ)

/-! ### putting all to sleep -/
def sleepers (s : Shared) (i : Nat) : Option GenState := match s.gens[i]? with
  | some (.suspended k l c p fs cl) => some (.suspended k l c p fs cl)
  | _ => none
def poison (s : Shared) : Shared := { s with gens := s.gens.map pz }
theorem slp_poison (s : Shared) : Slp (sleepers s) (poison s) := by
  have hg : ∀ i : Nat, (poison s).gens[i]? = (s.gens[i]?).map pz := fun i => by
    show (s.gens.map pz)[i]? = _
    rw [Array.getElem?_map]
  refine ⟨fun i x e => ?_, fun i k l c p fs cl hb e => ?_⟩
  · unfold sleepers at e
    rw [hg]
    cases q : s.gens[i]? with
    | none => rw [q] at e; cases e
    | some y =>
      rw [q] at e
      cases y with
      | suspended k l c p fs cl => cases e; exact ⟨⟨k, l, c, p, fs, cl, rfl⟩, rfl⟩
      | _ => cases e
  · rw [hg] at e
    unfold sleepers at hb
    cases q : s.gens[i]? with
    | none => rw [q] at e; cases e
    | some y =>
      rw [q] at e hb
      cases y with
      | suspended k l c p fs cl => cases hb
      | _ => cases e
theorem real_poison (s : Shared) : real (sleepers s) (poison s) = s := by
  obtain ⟨hp, gs, dr, tk, os⟩ := s
  unfold real poison
  congr 1
  apply Array.ext_getElem?
  intro i
  rw [Array.getElem?_mapIdx, Array.getElem?_map]
  unfold sleepers
  cases q : gs[i]? with
  | none => rfl
  | some y => cases y <;> simp [q, pz]
theorem real_sleeping {s s'' : Shared} {g : Nat} {k l c p fs cl} (q : s.gens[g]? = some (.suspended k l c p fs cl)) (S : Slp (sleepers s) s'') : (real (sleepers s) s'').gens[g]? = some (.suspended k l c p fs cl) := by
  have hB : sleepers s g = some (.suspended k l c p fs cl) := by unfold sleepers; rw [q]
  rw [real_get, (S.at_ g _ hB).2, Option.map_some, hB]; rfl
/-- what a generator's number holds while it sleeps stays through any code that is shown over the poisoned state -/
theorem wpAny_sleep {α : Type} {M : Model} {A : Around} {t : Sem α} {Q : α → Shared → Prop} {E : Value → Shared → Prop} {s : Shared} (h : wpAny M A t Q E (poison s)) :
    wpAny M A t (RealQ (sleepers s) Q) (RealQ (sleepers s) E) s := by
  have q := wpAny_real (slp_poison s) h
  rw [real_poison] at q
  exact q
end Gx

/-! A generator that sleeps while its consumer goes on: its frame over the consumer's state, taken anew at each waking. -/
namespace Gx
open PySem PySem.Spec PyProof.Rows L2 GenW

def trunc (h : Heap) (L : Nat) : Heap := { h with objs := h.objs.extract 0 L }
theorem trunc_get {h : Heap} {L b : Nat} (hb : b < L) : (trunc h L).get? b = h.get? b := by
  have e : (trunc h L).objs[b]? = h.objs[b]? := by
    show (h.objs.extract 0 L)[b]? = h.objs[b]?
    rw [Array.getElem?_extract]
    simp only [Nat.zero_add, Nat.sub_zero]
    split
    · rfl
    · rename_i hn
      exact (Array.getElem?_eq_none (by omega)).symm
  unfold Heap.get?
  rw [e]
theorem trunc_some {h : Heap} {L b : Nat} {o : Obj} (e : (trunc h L).get? b = some o) : b < L ∧ h.get? b = some o := by
  have h1 : b < (trunc h L).objs.size := Heap.lt_size e
  have h2 : (trunc h L).objs.size ≤ L := by
    show (h.objs.extract 0 L).size ≤ L
    rw [Array.size_extract]; omega
  have h3 : b < L := Nat.lt_of_lt_of_le h1 h2
  exact ⟨h3, by rw [← trunc_get h3]; exact e⟩
theorem trunc_size {h : Heap} {L : Nat} (hl : L ≤ h.objs.size) : (trunc h L).objs.size = L := by
  show (h.objs.extract 0 L).size = L
  rw [Array.size_extract]; omega

def isCell (o : Obj) : Bool := match o.data with
  | .cell _ => true
  | _ => false
theorem isCell_no {o : Obj} (h : isCell o = false) : ∀ v, o.data ≠ .cell v := fun v e => by unfold isCell at h; rw [e] at h; cases h
theorem isCell_of {o : Obj} (h : ∀ v, o.data ≠ .cell v) : isCell o = false := by
  unfold isCell
  cases e : o.data with
  | cell v => exact absurd e (h v)
  | _ => rfl

/-- all that stands at L and above, is not tracked, is no cell and not the generator's own -/
def pinsOf (own : List Addr) (L : Addr) (s : Shared) (H : Hp) : List (Addr × Obj) := (List.range s.heap.objs.size).filterMap fun b =>
  if L ≤ b ∧ b ∉ own ∧ (H b).isNone = true then (match s.heap.get? b with
    | some o => if isCell o then none else some (b, o)
    | none => none) else none
theorem mem_pinsOf {own : List Addr} {L b : Addr} {s : Shared} {H : Hp} {o : Obj} (h1 : L ≤ b) (h2 : b ∉ own) (h3 : H b = none) (h4 : s.heap.get? b = some o) (h5 : ∀ v, o.data ≠ .cell v) : (b, o) ∈ pinsOf own L s H := by
  refine List.mem_filterMap.mpr ⟨b, List.mem_range.mpr (Heap.lt_size h4), ?_⟩
  rw [if_pos ⟨h1, h2, by rw [h3]; rfl⟩, h4]
  show (if isCell o then none else some (b, o)) = some (b, o)
  rw [isCell_of h5]; rfl
theorem of_pinsOf {own : List Addr} {L : Addr} {s : Shared} {H : Hp} {p : Addr × Obj} (h : p ∈ pinsOf own L s H) : L ≤ p.1 ∧ p.1 ∉ own ∧ H p.1 = none ∧ s.heap.get? p.1 = some p.2 ∧ ∀ v, p.2.data ≠ .cell v := by
  obtain ⟨b, _, e⟩ := List.mem_filterMap.mp h
  split at e
  · rename_i hc
    obtain ⟨c1, c2, c3⟩ := hc
    cases q : s.heap.get? b with
    | none => rw [q] at e; cases e
    | some o =>
      rw [q] at e
      have e' : (if isCell o then none else some (b, o)) = some p := e
      cases ic : isCell o with
      | true => rw [ic] at e'; cases e'
      | false =>
        rw [ic] at e'
        have e2 : (b, o) = p := Option.some.inj e'
        subst e2
        refine ⟨c1, c2, ?_, q, isCell_no ic⟩
        cases hh : H b with
        | none => rfl
        | some u => rw [hh] at c3; cases c3
  · cases e

/-- a generator's frame beside its consumer -/
structure GP where
  X : Cx
  pins : List (Addr × Obj)
  N : List Str
  qual : Str
  scope : Scope
  f : Addr
  cd : Value
  A : Around
  L : Addr
  keep : List Addr
abbrev GP.env (G : GP) : Env := envOfC G.qual G.scope G.L G.f G.cd
def GP.cx (G : GP) (s0 : Shared) (H0 : Hp) (pn : List (Addr × Obj)) : Cx where
  prog := G.X.prog
  w := G.X.w
  K := G.X.K
  mg := G.X.mg
  base := G.X.base
  A := G.A.deeper G.env
  N := G.N
  s_0 := s0
  H_0 := H0
  env := G.env
  outer := G.X.stack
  stack := G.env :: G.X.stack
  ex := []
  fn := fun _ => true
  calm := true
  pn := pn
  xe := fun _ _ => False

/-- what a generator's scope is like (no cells: nothing of it is captured) -/
structure YScope (N ps : List Str) (sc : Scope) : Prop where
  kind : sc.kind = .function
  co : sc.isCoroutine = false
  gen : sc.isGenerator = true
  nd : N.Nodup
  pre : N.take ps.length = ps
  par : ∀ x ∈ ps, sc.names.lookup x = some .local
  plain : ∀ y ∈ sc.names, y.2 ≠ .free ∧ y.2 ≠ .cell

theorem cells_none : ∀ {names : List (Str × NameKind)} {n : Addr} {acc : List (Str × Addr)}, (∀ y ∈ names, y.2 ≠ .cell) → cellsFrom n names acc = acc
  | [], _, _, _ => rfl
  | (x, k) :: r, n, acc, h => by
    have hk : k ≠ .cell := h (x, k) List.mem_cons_self
    have ih := cells_none (names := r) (n := n) (acc := acc) fun y hy => h y (List.mem_cons_of_mem _ hy)
    cases k <;> first | exact absurd rfl hk | (unfold cellsFrom; exact ih) | (simp only [cellsFrom]; exact ih)
theorem YScope.cells {N ps : List Str} {sc : Scope} (S : YScope N ps sc) {n : Addr} : cellsFrom n sc.names [] = [] := cells_none fun y hy => (S.plain y hy).2

/-- what holds of the frame for as long as it lives -/
structure GOk (G : GP) : Prop where
  frames : G.A.frames = some G.X.stack
  hd : G.A.handled = none
  kind : G.scope.kind = .function
  cells : cellsFrom (G.L + 1) G.scope.names [] = []
  plain : ∀ y ∈ G.scope.names, y.2 ≠ .free ∧ y.2 ≠ .cell
  nd : G.N.Nodup
  frLt : ∀ b ∈ frs G.X.stack, b < G.L
  pinLt : ∀ p ∈ G.X.pn ++ G.pins, p.1 < G.L
  cellLt : ∀ x c, G.X.env.cells.lookup x = some c → c < G.L
  exOk : ∀ b, G.L ≤ b → b ≠ G.X.env.locals → b ∈ G.X.ex ∨ G.X.s_0.heap.objs.size ≤ b
  bsz : G.X.base.objs.size ≤ G.L
  locNe : G.X.env.locals ≠ G.L
  keepNe : ∀ b ∈ G.keep, b ≠ G.X.env.locals

/-- the consumer as it is at a waking; own: the generator's own objects -/
structure RB (G : GP) (own : List Addr) (sr : Shared) (Hr : Hp) (σc : L2.St) : Prop where
  inv : Inv G.X G.pins σc Hr sr
  lt : G.L < sr.heap.objs.size
  ownL : G.L ∈ own
  keep : ∀ b ∈ G.keep, ∃ o, (b, o) ∈ pinsOf own G.L sr Hr
  loc : G.X.env.locals ∉ own
abbrev GP.at_ (G : GP) (own : List Addr) (sr : Shared) (Hr : Hp) : Cx := G.cx { sr with heap := trunc sr.heap G.L } Hr (pinsOf own G.L sr Hr)

/-- the generator runs -/
def Run (G : GP) (sr : Shared) (ip : List (Addr × Obj)) (σg σc : L2.St) (H : Hp) (s : Shared) : Prop :=
  ∃ Hr own, RB G own sr Hr σc ∧ Inv (G.at_ own sr Hr) ip σg H s ∧ (∀ p ∈ ip, ∀ q ∈ pinsOf own G.L sr Hr, q.1 ≠ p.1) ∧ ∀ p ∈ ip, G.L ≤ p.1 ∧ p.1 ≠ G.X.env.locals

section
variable {G : GP} {own : List Addr} {sr s : Shared} {Hr H : Hp} {σg σc : L2.St} {ip : List (Addr × Obj)}
theorem RB.locals (R : RB G own sr Hr σc) (ok : GOk G) : G.X.env.locals < G.L ∨ ∃ o, (G.X.env.locals, o) ∈ pinsOf own G.L sr Hr := by
  by_cases h : G.X.env.locals < G.L
  · exact .inl h
  · obtain ⟨m, ⟨o, es, ep, ho, hd, _⟩, _⟩ := R.inv.loc
    exact .inr ⟨o, mem_pinsOf (Nat.le_of_not_lt h) R.loc R.inv.free ho fun v e => by rw [hd] at e; cases e⟩
/-- THE LINK: what the generator's running keeps of the consumer -/
theorem RB.link (ok : GOk G) (R : RB G own sr Hr σc) (I : Inv (G.at_ own sr Hr) ip σg H s) : Inv G.X G.pins σc H s := by
  have szL : G.L ≤ sr.heap.objs.size := Nat.le_of_lt R.lt
  let ch : List Addr := (List.range sr.heap.objs.size).filter fun b => decide (G.L ≤ b) && !((pinsOf own G.L sr Hr).any fun p => p.1 == b)
  have hchm : ∀ b, b ∈ ch ↔ b < sr.heap.objs.size ∧ G.L ≤ b ∧ ∀ p ∈ pinsOf own G.L sr Hr, p.1 ≠ b := fun b => by
    simp only [ch, List.mem_filter, List.mem_range, Bool.and_eq_true, decide_eq_true_eq, Bool.not_eq_true', List.any_eq_false, beq_iff_eq]
  have pinned : ∀ {b o}, G.L ≤ b → b ∉ ch → sr.heap.get? b = some o → s.heap.get? b = some o ∧ H b = none := fun {b o} hL hc e => by
    have hn : ¬ (∀ p ∈ pinsOf own G.L sr Hr, p.1 ≠ b) := fun z => hc ((hchm b).mpr ⟨Heap.lt_size e, hL, z⟩)
    obtain ⟨p, hp⟩ := Classical.not_forall.mp hn
    obtain ⟨hp, hb⟩ : p ∈ pinsOf own G.L sr Hr ∧ p.1 = b := by
      by_cases hm : p ∈ pinsOf own G.L sr Hr
      · refine ⟨hm, ?_⟩
        by_cases hb : p.1 = b
        · exact hb
        · exact absurd (fun _ => hb) hp
      · exact absurd (fun z => absurd z hm) hp
    obtain ⟨_, _, _, e1, _⟩ := of_pinsOf hp
    rw [hb, e] at e1
    obtain ⟨e2, e3, _⟩ := I.pin p (List.mem_append_left _ hp)
    rw [hb] at e2 e3
    exact ⟨e2.trans e1.symm, e3⟩
  have low : ∀ {b : Addr} {o}, b < G.L → sr.heap.get? b = some o → (trunc sr.heap G.L).get? b = some o := fun hb e => (trunc_get hb).trans e
  refine R.inv.call' (ch := ch) I.os ⟨fun b o e n hb hc => ?_, fun b o e n hb hc => ?_, fun b o e n hc => ?_, fun b o e hc => ?_, I.base.tups, I.base.frzs, I.base.tbls⟩ I.hok I.bare fun b hb => ?_
  · by_cases hL : b < G.L
    · exact I.base.keep b o (low hL e) n hb (by simp [GP.cx])
    · exact (pinned (Nat.le_of_not_lt hL) hc e).1
  · by_cases hL : b < G.L
    · exact I.base.slot b o (low hL e) n hb (by simp [GP.cx])
    · exact ⟨o.slots, (pinned (Nat.le_of_not_lt hL) hc e).1⟩
  · by_cases hL : b < G.L
    · exact I.base.free b o (low hL e) n (by simp [GP.cx])
    · exact (pinned (Nat.le_of_not_lt hL) hc e).2
  · by_cases hL : b < G.L
    · exact I.base.there b o (low hL e) (by simp [GP.cx])
    · exact ⟨o, (pinned (Nat.le_of_not_lt hL) hc e).1⟩
  · obtain ⟨h1, h2, h3⟩ := (hchm b).mp hb
    have hne : b ≠ G.X.env.locals := fun z => by
      rcases R.locals ok with q | ⟨o, q⟩
      · rw [z] at h2; exact absurd (Nat.lt_of_lt_of_le q h2) (Nat.lt_irrefl _)
      · exact h3 _ q z.symm
    refine ⟨ok.exOk b h2 hne, hne, fun x c e z => ?_, fun p hp z => ?_⟩
    · have := ok.cellLt x c e
      rw [z] at this
      exact absurd (Nat.lt_of_lt_of_le this h2) (Nat.lt_irrefl _)
    · have := ok.pinLt p hp
      rw [z] at this
      exact absurd (Nat.lt_of_lt_of_le this h2) (Nat.lt_irrefl _)
/-- the generator's own objects, as the consumer must leave them -/
def ownPins (G : GP) (ip : List (Addr × Obj)) (s : Shared) : List (Addr × Obj) := pinsAt [G.L] s.heap ++ ip
theorem Run.consumer (ok : GOk G) (R : Run G sr ip σg σc H s) : Inv G.X G.pins σc H s := by
  obtain ⟨Hr, own, rb, I, _⟩ := R
  exact rb.link ok I
theorem GOk.sub {G : GP} (ok : GOk G) (stk : G.X.stack = G.X.outer ∨ (G.X.stack = G.X.env :: G.X.outer ∧ G.X.env.frame = some G.X.env.locals)) : ∀ b ∈ frs G.X.outer, b < G.L := fun b hb => by
  refine ok.frLt b ?_
  rcases stk with e | ⟨e, hf⟩
  · rw [e]; exact hb
  · rw [e]
    unfold frs at hb ⊢
    rw [List.filterMap_cons]
    split
    · exact hb
    · exact List.mem_cons_of_mem _ hb
theorem Run.mine (ok : GOk G) (R : Run G sr ip σg σc H s) : (∃ oL, (G.L, oL) ∈ ownPins G ip s) ∧ ∀ p ∈ ownPins G ip s, s.heap.get? p.1 = some p.2 ∧ H p.1 = none ∧ p.1 ≠ G.X.env.locals ∧ p.1 ∉ frs G.X.outer ∧ (∀ v, p.2.data ≠ .cell v) ∧ G.L ≤ p.1 := by
  obtain ⟨Hr, own, rb, I, h1, h2⟩ := R
  obtain ⟨m, ⟨oL, es, ep, hL, hd, _⟩, _⟩ := I.loc
  have hL' : s.heap.get? G.L = some oL := hL
  refine ⟨⟨oL, List.mem_append_left _ (mem_pinsAt (List.mem_singleton.mpr rfl) hL')⟩, fun p hp => ?_⟩
  have sub := ok.sub rb.inv.ok.stk
  rcases List.mem_append.mp hp with z | z
  · obtain ⟨z1, z2⟩ := of_pinsAt z
    have e1 : p.1 = G.L := List.mem_singleton.mp z1
    rw [e1] at z2 ⊢
    rw [hL'] at z2
    cases z2
    exact ⟨hL', I.free, ok.locNe.symm, fun hm => absurd (sub _ hm) (Nat.lt_irrefl _), (fun v e => by rw [hd] at e; cases e), Nat.le_refl _⟩
  · obtain ⟨e1, e2, e3, e4, e5⟩ := I.pin p (List.mem_append_right _ z)
    obtain ⟨h3, h4⟩ := h2 p z
    exact ⟨e1, e2, h4, fun hm => absurd (Nat.lt_of_lt_of_le (sub _ hm) h3) (Nat.lt_irrefl _), e5, h3⟩
theorem Run.kept (ok : GOk G) (R : Run G sr ip σg σc H s) : ∀ b ∈ G.keep, ∃ o, sr.heap.get? b = some o ∧ s.heap.get? b = some o ∧ H b = none ∧ b ≠ G.X.env.locals ∧ b ∉ frs G.X.outer ∧ (∀ v, o.data ≠ .cell v) ∧ G.L ≤ b := by
  obtain ⟨Hr, own, rb, I, h1, h2⟩ := R
  intro b hb
  obtain ⟨o, hp⟩ := rb.keep b hb
  have sub := ok.sub rb.inv.ok.stk
  obtain ⟨e1, e2, e3, e4, e5⟩ := I.pin _ (List.mem_append_left _ hp)
  obtain ⟨k1, _, _, k4, _⟩ := of_pinsOf hp
  exact ⟨o, k4, e1, e2, ok.keepNe b hb, fun hm => absurd (Nat.lt_of_lt_of_le (sub _ hm) k1) (Nat.lt_irrefl _), e5, k1⟩
/-- a frame asleep: what of the heap it leans on -/
structure Asleep (G : GP) (ip : List (Addr × Obj)) (σg : L2.St) (s : Shared) : Prop where
  loc : ∃ m, s.heap.Ns G.L m ∧ ∀ (i : Nat) (x : Str) (v : V), G.N[i]? = some x → σg[i]? = some (some v) → Vis G.scope x → ∃ u, RelV v u ∧ G.env.kindOf x = some .local ∧ m x = some u
  pin : ∀ p ∈ ip, p.1 ≠ G.L ∧ (∀ v, p.2.data ≠ .cell v) ∧ G.L ≤ p.1 ∧ p.1 ≠ G.X.env.locals
  keep : ∀ b ∈ G.keep, G.L ≤ b ∧ b ≠ G.L ∧ ∀ q ∈ ip, q.1 ≠ b
  len : σg.length = G.N.length
theorem Run.asleep (ok : GOk G) (R : Run G sr ip σg σc H s) : Asleep G ip σg s := by
  obtain ⟨Hr, own, rb, I, h1, h2⟩ := R
  have hk : ∀ x, G.env.kindOf x = some .cell ∨ G.env.kindOf x = some .free → False := fun x hx => by
    have hx' : G.scope.names.lookup x = some .cell ∨ G.scope.names.lookup x = some .free := hx
    rcases hx' with e | e
    · exact (ok.plain _ (PySem.mem_of_lookup e)).2 rfl
    · exact (ok.plain _ (PySem.mem_of_lookup e)).1 rfl
  refine ⟨?_, fun p hp => ?_, fun p hp => ?_, I.len⟩
  · obtain ⟨m, hn, hl⟩ := I.loc
    refine ⟨m, hn, fun i x v e1 e2 e3 => ?_⟩
    obtain ⟨u, r, l⟩ := hl i x v e1 e2 e3
    rcases l with ⟨l1, l2⟩ | ⟨k, _⟩
    · exact ⟨u, r, l1, l2⟩
    · exact (hk x k).elim
  · obtain ⟨e1, e2, e3, e4, e5⟩ := I.pin p (List.mem_append_right _ hp)
    exact ⟨e3, e5, (h2 p hp).1, (h2 p hp).2⟩
  · obtain ⟨o, hp'⟩ := rb.keep p hp
    obtain ⟨k1, k2, k3, k4, k5⟩ := of_pinsOf hp'
    exact ⟨k1, fun e => k2 (by rw [show (p, o).1 = p from rfl, e]; exact rb.ownL), fun q hq e => h1 q hq (p, o) hp' e.symm⟩
/-- THE WAKING: the consumer went on, the generator's own objects stand as they stood -/
theorem Asleep.wake {s' : Shared} {H' : Hp} {σc' : L2.St} (ok : GOk G) (R : Asleep G ip σg s) (I' : Inv G.X G.pins σc' H' s') (hL : ∃ oL, s.heap.get? G.L = some oL ∧ s'.heap.get? G.L = some oL ∧ H' G.L = none)
    (kept : ∀ p ∈ ip, s'.heap.get? p.1 = some p.2 ∧ H' p.1 = none) (stay : ∀ b ∈ G.keep, ∃ o, s'.heap.get? b = some o ∧ (∀ v, o.data ≠ .cell v) ∧ H' b = none) : Run G s' ip σg σc' H' s' := by
  obtain ⟨loc, pin, keep, len⟩ := R
  obtain ⟨oL, hLs, hL', hLn⟩ := hL
  have ltL : G.L < s'.heap.objs.size := Heap.lt_size hL'
  have szL : (trunc s'.heap G.L).objs.size = G.L := trunc_size (Nat.le_of_lt ltL)
  let own' : List Addr := G.L :: ip.map (·.1)
  have hin : ∀ p ∈ ip, p.1 ∈ own' := fun p hp => List.mem_cons_of_mem _ (List.mem_map.mpr ⟨p, hp, rfl⟩)
  have rb' : RB G own' s' H' σc' := ⟨I', ltL, List.mem_cons_self, fun p hp => by
    obtain ⟨k1, k2, k4⟩ := keep p hp
    obtain ⟨o, z1, k3, z2⟩ := stay p hp
    refine ⟨o, mem_pinsOf k1 (fun z => ?_) z2 z1 k3⟩
    rcases List.mem_cons.mp z with e | e
    · exact k2 e
    · obtain ⟨q, hq, e⟩ := List.mem_map.mp e
      exact k4 q hq e, fun z => by
    rcases List.mem_cons.mp z with e | e
    · exact ok.locNe e
    · obtain ⟨p, hp, e⟩ := List.mem_map.mp e
      exact (pin p hp).2.2.2 e⟩
  have sub : ∀ b ∈ frs G.X.stack, b < G.L := ok.frLt
  have noC : ∀ x, (G.env).cells.lookup x = none := fun x => by
    show (cellsFrom (G.L + 1) G.scope.names []).lookup x = none
    rw [ok.cells]; rfl
  have noC' : ∀ (x : Str) (c : Addr), G.env.cells.lookup x = some c → False := fun x c e => by rw [noC x] at e; cases e
  have hk : ∀ x, G.env.kindOf x = some .cell ∨ G.env.kindOf x = some .free → False := fun x hx => by
    have hx' : G.scope.names.lookup x = some .cell ∨ G.scope.names.lookup x = some .free := hx
    rcases hx' with e | e
    · exact (ok.plain _ (PySem.mem_of_lookup e)).2 rfl
    · exact (ok.plain _ (PySem.mem_of_lookup e)).1 rfl
  refine ⟨H', own', rb', ?_, fun p hp q hq z => (of_pinsOf hq).2.1 (by rw [z]; exact hin p hp), fun p hp => ⟨(pin p hp).2.2.1, (pin p hp).2.2.2⟩⟩
  refine ⟨⟨I'.ok.mod, ok.kind, rfl, rfl, ?_, fun x y c e => ?_, fun x hx => (hk x hx).elim, fun x c _ e => ?_, fun _ => ok.hd, Around.frames_deeper ok.frames, .inr ⟨rfl, rfl⟩, fun b z => by simp [GP.cx] at z, fun b o e => ?_, ?_, fun b o _ z => by simp [GP.cx] at z, fun b z => by simp [GP.cx] at z, ?_, fun b hb => ?_⟩,
    rfl, I'.bare, Un.kept fun b o e => (trunc_some e).2, ?_, fun x c e => ?_, hLn, fun x c e => ?_, fun p hp => ?_, I'.hok, len⟩
  · show (trunc s'.heap G.L).objs.size ≤ G.L
    rw [szL]; exact Nat.le_refl _
  · exact (noC' x c e).elim
  · exact (noC' x c e).elim
  · obtain ⟨e1, e2⟩ := I'.bs b o e
    exact ⟨(trunc_get (Nat.lt_of_lt_of_le (Heap.lt_size e) ok.bsz)).trans e1, e2⟩
  · show G.X.base.objs.size ≤ (trunc s'.heap G.L).objs.size
    rw [szL]; exact ok.bsz
  · have all : ∀ (l : List Env), (∀ b ∈ frs l, b < G.L) → s'.heap.FunFrames G.X.base l → (trunc s'.heap G.L).FunFrames G.X.base l := by
      intro l
      induction l with
      | nil => intro _ _; trivial
      | cons env r ih =>
        intro hs hl
        obtain ⟨hk, ⟨L1, o, hf, hn, ho, hd⟩, hr⟩ := hl
        have hb : L1 < G.L := hs L1 (by unfold frs; rw [List.filterMap_cons, hf]; exact List.mem_cons_self)
        exact ⟨hk, ⟨L1, o, hf, hn, (trunc_get hb).trans ho, hd⟩, ih (fun b hb => hs b (by unfold frs; rw [List.filterMap_cons, hf]; exact List.mem_cons_of_mem _ hb)) hr⟩
    exact all _ sub I'.stack
  · exact I'.stkFree b hb
  · obtain ⟨m, hn, hl⟩ := loc
    refine ⟨m, hn.at' fun o e => ?_, fun i x v e1 e2 e3 => ?_⟩
    · rw [hLs] at e; cases e
      exact hL'
    · obtain ⟨u, r, l1, l2⟩ := hl i x v e1 e2 e3
      exact ⟨u, r, .inl ⟨l1, l2⟩⟩
  · exact (noC' x c e).elim
  · exact (noC' x c e).elim
  · rcases List.mem_append.mp hp with z | z
    · obtain ⟨z1, z2, z3, z4, z5⟩ := of_pinsOf (show p ∈ pinsOf own' G.L s' H' from z)
      refine ⟨z4, z3, fun e => z2 (by rw [show p.1 = G.L from e]; exact List.mem_cons_self), fun hm => ?_, z5⟩
      exact absurd (Nat.lt_of_lt_of_le (sub _ hm) z1) (Nat.lt_irrefl _)
    · obtain ⟨p1, p2, p3, p4⟩ := pin p z
      obtain ⟨k1, k2⟩ := kept p z
      exact ⟨k1, k2, p1, fun hm => absurd (Nat.lt_of_lt_of_le (sub _ hm) p3) (Nat.lt_irrefl _), p2⟩
theorem Run.wake {s' : Shared} {H' : Hp} {σc' : L2.St} (ok : GOk G) (R : Run G sr ip σg σc H s) (I' : Inv G.X G.pins σc' H' s') (kept : ∀ p ∈ ownPins G ip s, s'.heap.get? p.1 = some p.2 ∧ H' p.1 = none)
    (stay : ∀ b ∈ G.keep, ∃ o, s'.heap.get? b = some o ∧ (∀ v, o.data ≠ .cell v) ∧ H' b = none) : Run G s' ip σg σc' H' s' := by
  obtain ⟨⟨oL, hoL⟩, hown⟩ := R.mine ok
  obtain ⟨k1, k2⟩ := kept _ hoL
  exact (R.asleep ok).wake ok I' ⟨oL, (hown _ hoL).1, k1, k2⟩ (fun p hp => kept p (List.mem_append_right _ hp)) stay
end
end Gx

/-! The body of a generator def, its consumer's turn within: yield is the consumer's turn. -/
namespace Gx
open PySem PySem.Spec PyProof.Rows L2 GenW

/-- what is wanted behind a statement of a generator: fuel (the yields that may come), its slots, the consumer's slots, the heap -/
structure YEnds where
  nx : Nat → L2.St → L2.St → Hp → Prop
  rt : Nat → V → L2.St → Hp → Prop := fun _ _ _ _ => False
  bk : Nat → L2.St → L2.St → Hp → Prop := fun _ _ _ _ => False
  ct : Nat → L2.St → L2.St → Hp → Prop := fun _ _ _ _ => False
/-- the consumer's turn: the item, its slots, the heap, what then -/
abbrev YH := V → L2.St → Hp → (L2.St → Hp → Prop) → Prop
abbrev TY := YH → YEnds → Nat → L2.St → L2.St → Hp → Prop
def YPr (G : GP) (Y : YH) : Protocol := fun n s₀ v s kap => ∃ (x : V) (σc : L2.St) (H : Hp) (k : L2.St → Hp → Prop) (own : List (Addr × Obj)), RelV x v ∧ Inv G.X G.pins σc H s ∧
  (∀ p ∈ own, s.heap.get? p.1 = some p.2 ∧ H p.1 = none ∧ p.1 ≠ G.X.env.locals ∧ p.1 ∉ frs G.X.outer ∧ (∀ v, p.2.data ≠ .cell v) ∧ G.L ≤ p.1) ∧ (∀ b ∈ G.keep, ∃ o, s₀.heap.get? b = some o ∧ s.heap.get? b = some o ∧ H b = none ∧ b ≠ G.X.env.locals ∧ b ∉ frs G.X.outer ∧ (∀ v, o.data ≠ .cell v) ∧ G.L ≤ b) ∧ Y x σc H k ∧
  ∀ s' σc' H', Inv G.X G.pins σc' H' s' → (∀ p ∈ own, s'.heap.get? p.1 = some p.2 ∧ H' p.1 = none) → (∀ b ∈ G.keep, ∃ o, s'.heap.get? b = some o ∧ (∀ v, o.data ≠ .cell v) ∧ H' b = none) → k σc' H' → kap (.send .none) s'
/-- where the generator's code stands -/
structure YC (G : GP) (A' : Around) (c : Code) (fs : List Frame) (gd : Bool → Bool) : Prop where
  over : A'.over c fs = G.A.deeper G.env
  split : splitAtGen fs = none
  guard : fs.any Frame.guarded = false
  gd : gd false = false
def YSP (G : GP) (s₀ : Shared) (ip : List (Addr × Obj)) (D : YEnds) (n : Nat) (f : Flow) (s : Shared) : Prop :=
  match f with
  | .next => ∃ σg σc H, Run G s₀ ip σg σc H s ∧ D.nx n σg σc H
  | .brk => ∃ σg σc H, Run G s₀ ip σg σc H s ∧ D.bk n σg σc H
  | .cont => ∃ σg σc H, Run G s₀ ip σg σc H s ∧ D.ct n σg σc H
  | .ret u => ∃ v σg σc H, Run G s₀ ip σg σc H s ∧ RelV v u ∧ D.rt n v σc H
def YK (G : GP) (ip : List (Addr × Obj)) (Y : YH) (A' : Around) (R : GenEnd) (c : Code) (fs : List Frame) (K : Flow → Sem PySem.Fin) (D : YEnds) : Prop :=
  ∀ (n : Nat) (s₀ : Shared) (f : Flow) (s : Shared), YSP G s₀ ip D n f s → Seg (model G.X.prog G.X.w) A' R (YPr G Y) n s₀ c (K f) fs s
structure YS (G : GP) (st : Stmt) (t : TY) : Prop where
  run : ∀ (A' : Around) (Y : YH) (ip : List (Addr × Obj)) (R : GenEnd) (n : Nat) (s₀ : Shared) (c : Code) (fs : List Frame) (K : Flow → Sem PySem.Fin) (J : Value → Sem PySem.Fin) (gd : Bool → Bool) (lv : List Value → List Value) (s : Shared) (σg σc : L2.St) (H : Hp) (D : YEnds),
    YC G A' c fs gd → YK G ip Y A' R c fs K D → Run G s₀ ip σg σc H s → t Y D n σg σc H →
    Seg (model G.X.prog G.X.w) A' R (YPr G Y) n s₀ c ((exec st G.env).wrap K J gd lv) fs s
structure YSs (G : GP) (st : List Stmt) (t : TY) : Prop where
  run : ∀ (A' : Around) (Y : YH) (ip : List (Addr × Obj)) (R : GenEnd) (n : Nat) (s₀ : Shared) (c : Code) (fs : List Frame) (K : Flow → Sem PySem.Fin) (J : Value → Sem PySem.Fin) (gd : Bool → Bool) (lv : List Value → List Value) (s : Shared) (σg σc : L2.St) (H : Hp) (D : YEnds),
    YC G A' c fs gd → YK G ip Y A' R c fs K D → Run G s₀ ip σg σc H s → t Y D n σg σc H →
    Seg (model G.X.prog G.X.w) A' R (YPr G Y) n s₀ c ((execs st G.env).wrap K J gd lv) fs s

section
variable {G : GP} {st : Stmt} {rest : List Stmt}
/-- a statement that hands out nothing -/
def yPlain (t : TS) : TY := fun _ D n σg σc H => t { nx := fun σ' H' => D.nx n σ' σc H', rt := fun v H' => D.rt n v σc H', bk := fun σ' H' => D.bk n σ' σc H', ct := fun σ' H' => D.ct n σ' σc H' } σg H
theorem ys_ps {t : TS} (h : ∀ s0 H0 pn, PS (G.cx s0 H0 pn) st t) : YS G st (yPlain t) := by
  refine ⟨fun A' Y ip R n s₀ c fs K J gd lv s σg σc H D yc k hR ht => ?_⟩
  obtain ⟨Hr, own, rb, I, h1, h2⟩ := hR
  refine seg_wrap ?_
  rw [yc.over]
  refine wpAny_mono ((h { s₀ with heap := trunc s₀.heap G.L } Hr (pinsOf own G.L s₀ Hr)).run ip s σg H _ I ht) (fun f s' hs => k n s₀ f s' ?_) fun x s' hx => hx.elim
  cases f with
  | next => obtain ⟨σ', H', I', q⟩ := hs; exact ⟨σ', σc, H', ⟨Hr, own, rb, I', h1, h2⟩, q⟩
  | brk => obtain ⟨σ', H', I', q⟩ := hs; exact ⟨σ', σc, H', ⟨Hr, own, rb, I', h1, h2⟩, q⟩
  | cont => obtain ⟨σ', H', I', q⟩ := hs; exact ⟨σ', σc, H', ⟨Hr, own, rb, I', h1, h2⟩, q⟩
  | ret u => obtain ⟨v, σ', H', I', r, q⟩ := hs; exact ⟨v, σ', σc, H', ⟨Hr, own, rb, I', h1, h2⟩, r, q⟩
def yNil : TY := fun _ D n σg σc H => D.nx n σg σc H
theorem yss_nil : YSs G [] yNil := by
  refine ⟨fun A' Y ip R n s₀ c fs K J gd lv s σg σc H D yc k hR ht => ?_⟩
  exact seg_execs_nil (k n s₀ .next s ⟨σg, σc, H, hR, ht⟩)
def yThen (t u : TY) : TY := fun Y D n σg σc H => t Y { D with nx := fun n' σg' σc' H' => u Y D n' σg' σc' H' } n σg σc H
theorem yss_cons {t u : TY} (a : YS G st t) (b : YSs G rest u) : YSs G (st :: rest) (yThen t u) := by
  refine ⟨fun A' Y ip R n s₀ c fs K J gd lv s σg σc H D yc k hR ht => ?_⟩
  refine seg_execs_cons ?_
  refine a.run A' Y ip R n s₀ c fs _ J gd lv s σg σc H { D with nx := fun n' σg' σc' H' => u Y D n' σg' σc' H' } yc (fun n' s₀' f s' hs => ?_) hR ht
  cases f with
  | next =>
    obtain ⟨σg', σc', H', R', q⟩ := hs
    exact b.run A' Y ip R n' s₀' c fs K J gd lv s' σg' σc' H' D yc k R' q
  | brk => exact k n' s₀' .brk s' hs
  | cont => exact k n' s₀' .cont s' hs
  | ret u => exact k n' s₀' (.ret u) s' hs
theorem yss_one {t : TY} (a : YS G st t) : YSs G [st] (yThen t yNil) := yss_cons a yss_nil

/-! ### yield -/
def yYield (te : TE) : TY := fun Y D n σg σc H => ∃ m, n = m + 1 ∧ te σg H fun x H1 => Y x σc H1 fun σc' H2 => D.nx m σg σc' H2
theorem ys_yield {e : Expr} {te : TE} {yp pos : Pos} (ok : GOk G) (he : ∀ s0 H0 pn, PE (G.cx s0 H0 pn) e te) (hco : G.scope.isCoroutine = false := by rfl) (hi : interactive G.env = false := by rfl) : YS G (.Expr (.Yield (some e) yp) pos) (yYield te) := by
  refine ⟨fun A' Y ip R n s₀ c fs K J gd lv s σg σc H D yc k hR ht => ?_⟩
  obtain ⟨m, rfl, ht⟩ := ht
  obtain ⟨Hr, own, rb, I, h1, h2⟩ := hR
  refine seg_Expr_Yield yc.split yc.gd yc.guard ?_ hco hi
  rw [yc.over]
  refine wpAny_mono ((he { s₀ with heap := trunc s₀.heap G.L } Hr (pinsOf own G.L s₀ Hr)).run ip s σg H _ I ht) (fun v s' hv => ?_) fun x s' hx => hx.elim
  obtain ⟨x, H1, I1, rv, q⟩ := hv
  have R1 : Run G s₀ ip σg σc H1 s' := ⟨Hr, own, rb, I1, h1, h2⟩
  intro kap hk
  refine ⟨x, σc, H1, _, ownPins G ip s', rv, R1.consumer ok, (R1.mine ok).2, R1.kept ok, q, fun s'' σc' H' I' kept stay k' => hk .none s'' ?_⟩
  exact k m s'' .next s'' ⟨σg, σc', H', R1.wake ok I' kept stay, k'⟩

/-! ### if -/
def yIf (tc : TT) (ta tb : TY) : TY := fun Y D n σg σc H => tc σg H fun b H1 => if b = true then ta Y D n σg σc H1 else tb Y D n σg σc H1
theorem ys_if {test : Expr} {body orelse : List Stmt} {pos : Pos} {tc : TT} {ta tb : TY} (hc : ∀ s0 H0 pn, PT (G.cx s0 H0 pn) test tc) (ha : YSs G body ta) (hb : YSs G orelse tb) : YS G (.If test body orelse pos) (yIf tc ta tb) := by
  refine ⟨fun A' Y ip R n s₀ c fs K J gd lv s σg σc H D yc k hR ht => ?_⟩
  obtain ⟨Hr, own, rb, I, h1, h2⟩ := hR
  show Seg _ _ _ _ _ _ _ ((standAt pos >>= fun _ => isTrue test G.env (eval test G.env) >>= fun b => if b = true then execs body G.env else execs orelse G.env).wrap K J gd lv) fs s
  refine seg_bind_wrap (wpAny_standAt ?_)
  refine seg_bind_wrap ?_
  rw [yc.over]
  refine wpAny_mono ((hc { s₀ with heap := trunc s₀.heap G.L } Hr (pinsOf own G.L s₀ Hr)).run ip s σg H _ I ht) (fun b s' hv => ?_) fun x s' hx => hx.elim
  obtain ⟨H1, I1, q⟩ := hv
  have R1 : Run G s₀ ip σg σc H1 s' := ⟨Hr, own, rb, I1, h1, h2⟩
  cases b with
  | true => exact ha.run A' Y ip R n s₀ c fs K J gd lv s' σg σc H1 D yc k R1 q
  | false => exact hb.run A' Y ip R n s₀ c fs K J gd lv s' σg σc H1 D yc k R1 q

/-! ### for -/
def yFor (wi : TI) (g : TG) (tb : TY) : TY := fun Y D n σg σc H => wi σg H fun J H1 => ∃ W : Nat → Nat → Nat → L2.St → L2.St → Hp → Prop, (∃ m, W 0 m n σg σc H1) ∧ ∀ i m n σg σc H, W i m n σg σc H →
  (J.stop i H ∧ D.nx n σg σc H) ∨ (J.go i H ∧ ∃ N : Nat → L2.St → L2.St → Hp → Prop, (∀ n' σg' σc' H', N n' σg' σc' H' → ∃ m', m' < m ∧ W (i + 1) m' n' σg' σc' H') ∧
    ∀ x H', J.yld i H x H' → g x σg H' fun σ2 H2 => tb Y { D with nx := N, ct := N, bk := D.nx } n σ2 σc H2)
theorem yc_loop {A' : Around} {c c' : Code} {fs : List Frame} {gd : Bool → Bool} {k : Result → Sem PySem.Fin} {l kp : List Value} {p : Pos} (yc : YC G A' c fs gd) (hw : c'.weight = 0) (hu : c'.cUnits = 0) :
    YC G A' c' (.ret k none (gd false) l c p kp :: fs) id where
  over := (over_loop hw hu).trans yc.over
  split := by
    show (splitAtGen fs).map _ = none
    rw [yc.split]; rfl
  guard := by
    show (gd false || fs.any Frame.guarded) = false
    rw [yc.gd, yc.guard]; rfl
  gd := rfl
theorem pinsAt_keep {fp : List Addr} {h h' : Heap} (k : ∀ b ∈ fp, ∃ o, h.get? b = some o ∧ h'.get? b = some o) : pinsAt fp h' = pinsAt fp h := by
  unfold pinsAt
  induction fp with
  | nil => rfl
  | cons b r ih =>
    obtain ⟨o, e1, e2⟩ := k b List.mem_cons_self
    rw [List.filterMap_cons, List.filterMap_cons, e1, e2]
    show (b, o) :: _ = (b, o) :: _
    rw [ih fun c hc => k c (List.mem_cons_of_mem _ hc)]
theorem ys_for {tg iter : Expr} {body : List Stmt} {wi : TI} {g : TG} {tb : TY} {pos : Pos} (ok : GOk G) (hi : ∀ s0 H0 pn, PI (G.cx s0 H0 pn) tg iter wi) (hg : ∀ s0 H0 pn, PG (G.cx s0 H0 pn) tg g) (hb : YSs G body tb)
    (hs : ∀ x, foldedSetIterable iter G.env x = pure x := by intro _; rfl) : YS G (.For tg iter body [] pos) (yFor wi g tb) := by
  refine ⟨fun A' Y ip R n s₀ c fs K J gd lv s σg σc H D yc k hR ht => ?_⟩
  obtain ⟨Hr, own, rb, I, h1, h2⟩ := hR
  show Seg _ _ _ _ _ _ _ ((standAt pos >>= fun _ => eval iter G.env >>= fun y => foldedSetIterable iter G.env y >>= fun x => standAt iter.pos >>= fun _ => holding [x] (pyIter x) >>= fun it => runOwn (.forLoop tg it body [] G.env) G.env).wrap K J gd lv) fs s
  refine seg_bind_wrap (wpAny_standAt ?_)
  refine seg_bind_wrap ?_
  rw [yc.over]
  refine wpAny_mono ((hi { s₀ with heap := trunc s₀.heap G.L } Hr (pinsOf own G.L s₀ Hr)).run ip s σg H _ I ht) (fun v s1 hv => ?_) fun x s' hx => hx.elim
  refine seg_bind_wrap (wpAny_of_eq (hs v) ?_)
  refine seg_bind_wrap (wpAny_standAt ?_)
  refine seg_bind_wrap (wpAny_holding ?_)
  rw [yc.over]
  refine wpAny_mono hv (fun itv s2 hv2 => ?_) fun x s' hx => hx.elim
  obtain ⟨it, fp, tn, Jt, H2, rfl, I2, T, st2, f2, W, ⟨m0, w0⟩, turn⟩ := hv2
  refine seg_call fun p => ?_
  have szL : (trunc s₀.heap G.L).objs.size = G.L := trunc_size (Nat.le_of_lt rb.lt)
  have ltL : ∀ b ∈ fp, G.L ≤ b := fun b hb => by
    obtain ⟨_, _, _, f3, _⟩ := f2 b hb
    rcases f3 with z | z
    · simp [GP.cx] at z
    · have z' : (trunc s₀.heap G.L).objs.size ≤ b := z
      rw [szL] at z'; exact z'
  have ipne : ∀ b ∈ fp, ∀ p ∈ ip, p.1 ≠ b := fun b hb p hp => (f2 b hb).2.2.2.2.2 p (List.mem_append_right _ hp)
  have locne : ∀ b ∈ fp, b ≠ G.X.env.locals := fun b hb z => by
    rcases rb.locals ok with q | ⟨o, q⟩
    · rw [← z] at q; exact absurd (Nat.lt_of_lt_of_le q (ltL b hb)) (Nat.lt_irrefl _)
    · exact (f2 b hb).2.2.2.2.2 _ (List.mem_append_left _ q) z.symm
  -- the loop's records as they stand
  have start2 : Run G s₀ (ip ++ pinsAt fp s2.heap) σg σc H2 s2 := by
    refine ⟨Hr, own, rb, I2.pinned f2 (T.obj _ _ st2), fun p hp q hq => ?_, fun p hp => ?_⟩
    · rcases List.mem_append.mp hp with z | z
      · exact h1 p z q hq
      · exact (f2 p.1 (of_pinsAt z).1).2.2.2.2.2 q (List.mem_append_left _ hq)
    · rcases List.mem_append.mp hp with z | z
      · exact h2 p z
      · exact ⟨ltL _ (of_pinsAt z).1, locne _ (of_pinsAt z).1⟩
  -- a running with its records: they may turn
  have open_ : ∀ {sr' : Shared} {σ' σc' : L2.St} {H' : Hp} {s' : Shared} {i : Nat}, Run G sr' (ip ++ pinsAt fp s'.heap) σ' σc' H' s' → tn i s'.heap →
      ∃ Hr' own', RB G own' sr' Hr' σc' ∧ Inv (G.at_ own' sr' Hr') ip σ' H' s' ∧ (∀ b ∈ fp, FpOk (G.at_ own' sr' Hr') ip H' b) ∧ (∀ p ∈ ip ++ pinsAt fp s'.heap, ∀ q ∈ pinsOf own' G.L sr' Hr', q.1 ≠ p.1) ∧ ∀ p ∈ ip, G.L ≤ p.1 ∧ p.1 ≠ G.X.env.locals := fun {sr' σ' σc' H' s' i} hR' st' => by
    obtain ⟨Hr', own', rb', I', h1', h2'⟩ := hR'
    have szL' : (trunc sr'.heap G.L).objs.size = G.L := trunc_size (Nat.le_of_lt rb'.lt)
    refine ⟨Hr', own', rb', I'.unpinned, fun b hb => ?_, h1', fun p hp => h2' p (List.mem_append_left _ hp)⟩
    obtain ⟨o, e, _⟩ := T.obj _ _ st' b hb
    have hm : (b, o) ∈ pinsAt fp s'.heap := mem_pinsAt hb e
    obtain ⟨e1, e2, e3, e4, _⟩ := I'.pin (b, o) (List.mem_append_right _ (List.mem_append_right _ hm))
    refine ⟨e2, e3, e4, .inr ?_, fun x c z => ?_, fun p hp => ?_⟩
    · show (trunc sr'.heap G.L).objs.size ≤ b
      rw [szL']; exact ltL b hb
    · have z' : (cellsFrom (G.L + 1) G.scope.names []).lookup x = some c := z
      rw [ok.cells] at z'; cases z'
    · rcases List.mem_append.mp hp with z | z
      · exact h1' (b, o) (List.mem_append_right _ hm) p z
      · exact ipne b hb p z
  have yl := fun (kk : Result → Sem PySem.Fin) => yc_loop (G := G) (k := kk) (c' := .forLoop tg (.ref it) body [] G.env) (l := lv []) (kp := []) (p := p) yc rfl rfl
  have loop : ∀ (m i n : Nat) (s₀ s : Shared) (σg σc : L2.St) (H : Hp), W i m n σg σc H → Run G s₀ (ip ++ pinsAt fp s.heap) σg σc H s → tn i s.heap →
      Seg (model G.X.prog G.X.w) A' R (YPr G Y) n s₀ (.forLoop tg (.ref it) body [] G.env) ((model G.X.prog G.X.w).den (.forLoop tg (.ref it) body [] G.env))
        (.ret (fun r => ((match r with | .ok f => (.pure f : Sem Flow) | .error e => .raise e).onRaise (cameBack G.env)).wrap K J gd lv) none (gd false) (lv []) c p [] :: fs) s := by
    intro m
    induction m using Nat.strongRecOn with
    | ind m ih =>
      intro i n s₀ s σg σc H w hR st
      obtain ⟨Hr', own', rb', I', fok, h1', h2'⟩ := open_ hR st
      show Seg _ A' R _ n s₀ _ ((forTurn tg (.ref it) body [] G.env).onRaise (fun x => do noteFrame x G.env; theTreesLotGoes x)) _ s
      unfold forTurn
      rw [Sem.onRaise_eq_wrap]
      refine seg_bind_wrap (wpAny_standAt ?_)
      refine seg_bind_wrap ?_
      rw [(yl _).over]
      refine wpAny_onRaise ?_
      rcases turn i m n σg σc H w with ⟨stop, qn⟩ | ⟨go, N, hN, step⟩
      · refine wpAny_mono (T.done (G.at_ own' s₀ Hr') rfl rfl rfl rfl i ip s σg H (fun _ _ => False) I' fok st stop) (fun r s1 hr => ?_) fun x s' hx => hx.elim
        obtain ⟨rfl, I1⟩ := hr
        have R1 : Run G s₀ ip σg σc H s1 := ⟨Hr', own', rb', I1, fun p hp q hq => h1' p (List.mem_append_left _ hp) q hq, h2'⟩
        show Seg _ _ _ _ _ _ _ (.pure (.again (.block [] G.env))) _ _
        refine seg_again rfl ?_
        show Seg _ _ _ _ _ _ _ ((execs [] G.env).onRaise (fun x => do noteFrame x G.env; theTreesLotGoes x) >>= fun f => pure (PySem.Fin.done f)) _ _
        rw [Sem.onRaise_eq_wrap, Sem.bind_eq_wrap', Sem.wrap_wrap]
        refine seg_execs_nil ?_
        exact seg_leaf (.ok .next) (k n s₀ .next s1 ⟨σg, σc, H, R1, qn⟩)
      · refine wpAny_mono (T.item (G.at_ own' s₀ Hr') rfl rfl rfl rfl i ip s σg H (fun _ _ => False) I' fok st go) (fun r s1 hr => ?_) fun x s' hx => hx.elim
        obtain ⟨u, rfl, h4⟩ := hr
        refine seg_bind_wrap ?_
        rw [(yl _).over]
        refine wpAny_mono h4 (fun _ s5 h5 => ?_) fun x s' hx => hx.elim
        obtain ⟨x, H5, I5, r5, y5, st5, fr5⟩ := h5
        have fok5 : ∀ b ∈ fp, FpOk (G.at_ own' s₀ Hr') ip H5 b := fun b hb => ⟨fr5 b hb, (fok b hb).2⟩
        have I5' := I5.pinned fok5 (T.obj _ _ st5)
        refine seg_bind_wrap ?_
        rw [(yl _).over]
        refine wpAny_mono ((hg { s₀ with heap := trunc s₀.heap G.L } Hr' (pinsOf own' G.L s₀ Hr')).run _ s5 σg H5 x u _ I5' r5 (step x H5 y5)) (fun _ s6 h6 => ?_) fun x s' hx => hx.elim
        obtain ⟨σ6, H6, I6, q6⟩ := h6
        have R6 : Run G s₀ (ip ++ pinsAt fp s5.heap) σ6 σc H6 s6 := by
          refine ⟨Hr', own', rb', I6, fun p hp q hq => ?_, fun p hp => ?_⟩
          · rcases List.mem_append.mp hp with z | z
            · exact h1' p (List.mem_append_left _ z) q hq
            · exact (fok5 p.1 (of_pinsAt z).1).2.2.2.2.2 q (List.mem_append_left _ hq)
          · rcases List.mem_append.mp hp with z | z
            · exact h2' p z
            · exact ⟨ltL _ (of_pinsAt z).1, locne _ (of_pinsAt z).1⟩
        rw [Sem.bind_eq_wrap', Sem.wrap_wrap]
        refine hb.run A' Y (ip ++ pinsAt fp s5.heap) R n s₀ _ _ _ _ id id s6 σ6 σc H6 { D with nx := N, ct := N, bk := D.nx } (yl _) (fun n' s₀' f s7 hs7 => ?_) R6 q6
        have again : ∀ {σ7 σc7 : L2.St} {H7 : Hp}, Run G s₀' (ip ++ pinsAt fp s5.heap) σ7 σc7 H7 s7 → N n' σ7 σc7 H7 → Seg (model G.X.prog G.X.w) A' R (YPr G Y) n' s₀' (.forLoop tg (.ref it) body [] G.env) (.pure (.again (.forLoop tg (.ref it) body [] G.env)))
            (.ret (fun r => ((match r with | .ok f => (.pure f : Sem Flow) | .error e => .raise e).onRaise (cameBack G.env)).wrap K J gd lv) none (gd false) (lv []) c p [] :: fs) s7 := fun {σ7 σc7 H7} R7 n7 => by
          obtain ⟨m', hm, w7⟩ := hN n' σ7 σc7 H7 n7
          have kp : ∀ b ∈ fp, ∃ o, s5.heap.get? b = some o ∧ s7.heap.get? b = some o := fun b hb => by
            obtain ⟨o, e, _⟩ := T.obj _ _ st5 b hb
            obtain ⟨Hr7, own7, rb7, I7, _⟩ := R7
            exact ⟨o, e, (I7.pin (b, o) (List.mem_append_right _ (List.mem_append_right _ (mem_pinsAt hb e)))).1⟩
          have e7 := pinsAt_keep kp
          refine seg_again rfl (ih m' hm (i + 1) n' s₀' s7 σ7 σc7 H7 w7 (by rw [e7]; exact R7) (T.keep _ _ _ st5 fun b hb o e => ?_))
          obtain ⟨o', e1, e2⟩ := kp b hb
          rw [e] at e1; cases e1
          exact e2
        have drop : ∀ {σ7 σc7 : L2.St} {H7 : Hp}, Run G s₀' (ip ++ pinsAt fp s5.heap) σ7 σc7 H7 s7 → Run G s₀' ip σ7 σc7 H7 s7 := fun {σ7 σc7 H7} R7 => by
          obtain ⟨Hr7, own7, rb7, I7, a7, b7⟩ := R7
          exact ⟨Hr7, own7, rb7, I7.unpinned, fun p hp => a7 p (List.mem_append_left _ hp), fun p hp => b7 p (List.mem_append_left _ hp)⟩
        cases f with
        | next => obtain ⟨σ7, σc7, H7, R7, n7⟩ := hs7; exact again R7 n7
        | cont => obtain ⟨σ7, σc7, H7, R7, n7⟩ := hs7; exact again R7 n7
        | brk => obtain ⟨σ7, σc7, H7, R7, q7⟩ := hs7; exact seg_leaf (.ok .next) (k n' s₀' .next s7 ⟨σ7, σc7, H7, drop R7, q7⟩)
        | ret v => obtain ⟨x7, σ7, σc7, H7, R7, r7, q7⟩ := hs7; exact seg_leaf (.ok (.ret v)) (k n' s₀' (.ret v) s7 ⟨x7, σ7, σc7, H7, drop R7, r7, q7⟩)
  exact loop m0 0 n s₀ s2 σg σc H2 w0 start2 st2
end
end Gx

/-! A generator def called, woken; loops over it. -/
namespace Gx
open PySem PySem.Spec PyProof.Rows L2 GenW

/-- what it does when it is woken once more, one yield less left -/
def Later (M : Model) (A : Around) (R : GenEnd) (Y : Protocol) (n : Nat) (gs : GenState) (r : Resume) (s : Shared) : Prop := match n with
  | 0 => False
  | m + 1 => gs.Goes M A R Y m r s
/-- a generator is woken: it hands out, and sleeps; or it ends -/
theorem resume_y {M : Model} {A : Around} {R : GenEnd} {Y : Protocol} {n : Nat} {E : Value → Shared → Prop} {s : Shared} {g : Nat} {gs : GenState} {r : Resume} {l : List Value} {α : Type} {k : GenResult → Sem α} {Q : α → Shared → Prop}
    (at_ : s.gens[g]? = some gs) (go : gs.Goes M A R Y n r (s.setGen g .running))
    (ends : ∀ x s₁, R n (s.setGen g .running) x s₁ → wpAny M A (k (End.ret x).result) Q E (s₁.setGen g .finished))
    (hands : ∀ v s₁ k' l' c' p' fs', (GenState.suspended k' l' c' p' fs' false).bare = true → Y (n - 1) (s.setGen g .running) v s₁ (Later M A R Y n (.suspended k' l' c' p' fs' false)) →
      wpAny M A (k (.yielded v)) Q E (s₁.setGen g (.suspended k' l' c' p' fs' false))) :
    wpAny M A (.resume g r l k) Q E s := fun Γ p inA => by
  rw [Sem.wp_resume]
  have woken : ∀ c, (Γ.wake c p).Woken A := fun c => inA.wake c p
  have over : ∀ (e₁ : End) (s₁ : Shared), SegEnd R Y n (Seg.next M A R Y n) (s.setGen g .running) e₁ s₁ →
      e₁.quiet = true ∧ Sem.wp M Γ (k e₁.result) (fun a _ s' => Q a s') (fun e _ s' => E e s') p (s₁.setGen g e₁.genState) := fun e₁ s₁ he => by
    cases e₁ with
    | ret x => exact ⟨rfl, ends x s₁ he Γ p inA⟩
    | susp v b l₀ k₀ c₀ p₀ fs₀ =>
      have hq : (!(b || fs₀.any Frame.guarded)) = true := he.1
      have hb : (b || fs₀.any Frame.guarded) = false := by
        cases z : (b || fs₀.any Frame.guarded) with
        | false => rfl
        | true => rw [z] at hq; cases hq
      refine ⟨hq, ?_⟩
      show Sem.wp M Γ (k (.yielded v)) _ _ p (s₁.setGen g (.suspended k₀ l₀ c₀ p₀ fs₀ (b || fs₀.any Frame.guarded)))
      rw [hb]
      refine hands v s₁ k₀ l₀ c₀ p₀ fs₀ rfl ?_ Γ p inA
      cases n with
      | zero => exact he.2
      | succ m => exact he.2
  cases gs with
  | fresh c =>
    obtain ⟨rfl, sg⟩ := go
    obtain ⟨e₁, s₁, hr, he⟩ := seg_iff.mp sg (Γ.wake c p) p rfl (woken c)
    obtain ⟨q1, q2⟩ := over e₁ s₁ he
    exact ⟨_, _, by unfold Wakes; rw [at_]; exact ⟨e₁, s₁, hr, q1, rfl, rfl⟩, q2⟩
  | suspended k₀ l₀ c₀ p₀ fs₀ cl =>
    obtain ⟨e₁, s₁, hr, he⟩ := seg_iff.mp go (Γ.wake c₀ p) p₀ rfl (woken c₀)
    obtain ⟨q1, q2⟩ := over e₁ s₁ he
    exact ⟨_, _, by unfold Wakes; rw [at_]; exact ⟨e₁, s₁, hr, q1, rfl, rfl⟩, q2⟩
  | running => exact go.elim
  | finished => exact go.elim

/-- next(g): an item, or the end; no exception -/
theorem next_y {P : Program} {w : World} {A : Around} {E : Value → Shared → Prop} {s : Shared} {a : Addr} {g n : Nat} {gs : GenState} {F : Nat → Shared → Shared → Prop} {Y : Protocol} {Q : Option Value → Shared → Prop} (hh : A.handled = none)
    (hl : s.heap.NoLimit) (hroom : A.depth < recursionLimit) (hg : s.heap.IsGen a g) (hgs : s.gens[g]? = some gs)
    (go : gs.Goes (model P w) A.in1 (fun n s₀ r s₁ => (r = .ok (.ret .none) ∨ r = .ok .next) ∧ F n s₀ s₁) Y n (.send .none) (s.setGen g .running))
    (hands : ∀ v s₁ k' l' c' p' fs', Y (n - 1) (s.setGen g .running) v s₁ (Later (model P w) A.in1 (fun n s₀ r s₁ => (r = .ok (.ret .none) ∨ r = .ok .next) ∧ F n s₀ s₁) Y n (.suspended k' l' c' p' fs' false)) → Q (some v) (s₁.setGen g (.suspended k' l' c' p' fs' false)))
    (ends : ∀ s₁, F n (s.setGen g .running) s₁ → ∀ h', (∀ b o, s₁.heap.get? b = some o → h'.get? b = some o) → Q none { s₁.setGen g .finished with heap := h' }) :
    wpAny (model P w) A (pyNext (.ref a)) Q E s := by
  unfold pyNext
  refine wpAny_bind (wpAny_attempt (wpAny_callSpecial?_slot (name := Str.ofString "__next__") hg.typeIs slot_gen_next
    (wpAny_call_entry slot_gen_next hg.typeIs entry_gen_next ?_ (args_gen_next _))))
  show wpAny _ A.in1 (Builtin.Generator.genWake (.ref a) (.send .none)) _ _ s
  unfold Builtin.Generator.genWake
  refine wpAny_bind (wpAny_holding (wpAny_genNumber hg (wpAny_bind (wpAny_genState hgs ?_))))
  cases gs with
  | running => exact go.elim
  | finished => exact go.elim
  | _ =>
    refine wpAny_bind (wpAny_roomToWake hl hroom ?_)
    show wpAny _ A.in1 (.resume g (.send .none) [] _) _ _ s
    refine resume_y hgs go (fun x s₁ hx => ?_) (fun v s₁ k' l' c' p' fs' _ hv => ?_)
    · obtain ⟨hr, hp⟩ := hx
      have hres : End.result (.ret x) = .returned .none := by
        rcases hr with hr | hr <;> rw [hr] <;> rfl
      rw [hres]
      show wpAny _ A.in1 (newExc (.type "StopIteration") [] >>= _) _ _ _
      refine wpAny_bind ?_
      simp only [newExc, newTuple]
      refine wpAny_bind (wpAny_newObj_type ?_ (by size_fits))
      refine wpAny_bind (m := firstArgMember _ _) (wpAny_of_eq (a := Value.none) (by first | rfl | (simp only [firstArgMember]; rfl)) ?_)
      refine wpAny_newObj_type ?_ (by size_fits)
      simp only [raiseNew]
      refine wpAny_bind (wpAny_bind (wpAny_handled ?_))
      first | rw [show A.in1.handled = none from hh] | rw [hh]
      refine wpAny_throw ?_
      refine wpAny_bind (wpAny_isInstance (T := "StopIteration") (b := true) ⟨_, Heap.get?_push_size _ rfl, rfl⟩ isSubtype_stop ?_)
      exact wpAny_pure (ends s₁ hp _ fun b o hb => Heap.get?_push_of_some _ (Heap.get?_push_of_some _ hb))
    · exact wpAny_pure ⟨v, rfl, wpAny_pure (hands v s₁ k' l' c' p' fs' hv)⟩
end Gx

/-! A generator def's promise; its call; for over it. -/
namespace Gx
open PySem PySem.Spec PyProof.Rows L2 GenW

/-- a generator def's promise: the arguments, the heap, the consumer's turn, what the end wants, the consumer's slots -/
abbrev SpY := List V → Hp → YH → (L2.St → Hp → Prop) → L2.St → Prop
/-- how a generator's run ends -/
def YFin (G : GP) (Q : L2.St → Hp → Prop) : Nat → Shared → Shared → Prop := fun n s₀ s =>
  ∃ σ H, Inv G.X G.pins σ H s ∧ (∀ b ∈ G.keep, ∃ o, s₀.heap.get? b = some o ∧ s.heap.get? b = some o ∧ H b = none ∧ b ≠ G.X.env.locals ∧ b ∉ frs G.X.outer ∧ (∀ v, o.data ≠ .cell v) ∧ G.L ≤ b) ∧ Q σ H
abbrev YEnd (G : GP) (Q : L2.St → Hp → Prop) : GenEnd := fun n s₀ r s => (r = .ok (.ret .none) ∨ r = .ok .next) ∧ YFin G Q n s₀ s
structure IsGenO (o : Obj) (g : Nat) : Prop where
  cls : o.cls = .type "generator"
  data : ∃ nm qn, o.data = .fields #[.int g 0, nm, qn]
  slots : o.slots = #[]
theorem IsGenO.at {o : Obj} {g : Nat} (x : IsGenO o g) {h : Heap} {a : Addr} (e : h.get? a = some o) : h.IsGen a g := let ⟨nm, qn, d⟩ := x.data; ⟨o, nm, qn, e, x.cls, d, x.slots⟩
theorem IsGenO.nocell {o : Obj} {g : Nat} (x : IsGenO o g) : ∀ v, o.data ≠ .cell v := fun v e => by
  obtain ⟨nm, qn, d⟩ := x.data
  rw [d] at e; cases e
/-- a generator that has not begun: its frame at L, its object at a; P .. base: the program's; s: the state at the call -/
def YBorn (P : Program) (w : World) (K : PySem.W.Frag) (mg : Str → Option Value) (base : Heap) (k : Nat) (s : Shared) (sp : SpY) (vs : List V) (u : Value) (s' : Shared) : Prop :=
  ∃ (N : List Str) (qual : Str) (scope : Scope) (f : Addr) (cd : Value) (a : Addr) (g : Nat) (c : Code) (oL oa : Obj),
    u = .ref a ∧ s.heap.objs.size < a ∧ s'.heap.get? s.heap.objs.size = some oL ∧ s'.heap.get? a = some oa ∧ (∀ v, oL.data ≠ .cell v) ∧ IsGenO oa g ∧ s'.gens[g]? = some (.fresh c) ∧
    s'.os = s.os ∧ AllBare s'.gens ∧ (∀ b o, s.heap.get? b = some o → s'.heap.get? b = some o) ∧
    scope.kind = .function ∧ N.Nodup ∧ (∀ y ∈ scope.names, y.2 ≠ .free ∧ y.2 ≠ .cell) ∧
    ∀ (X : Cx) (pins : List (Addr × Obj)) (A : Around) (keep : List Addr) (σ : L2.St) (s2 : Shared) (H2 : Hp) (Y : YH) (Q : L2.St → Hp → Prop), X.prog = P → X.w = w → X.K = K → X.mg = mg → X.base = base → Room (k + 1) A →
      GOk ⟨X, pins, N, qual, scope, f, cd, A, s.heap.objs.size, keep⟩ → Inv X pins σ H2 s2 → s2.heap.get? s.heap.objs.size = some oL → H2 s.heap.objs.size = none →
      (∀ b ∈ keep, s.heap.objs.size < b ∧ ∃ o, s2.heap.get? b = some o ∧ (∀ v, o.data ≠ .cell v) ∧ H2 b = none) → sp vs H2 Y Q σ →
      ∃ n, Seg (model P w) A (YEnd ⟨X, pins, N, qual, scope, f, cd, A, s.heap.objs.size, keep⟩ Q) (YPr ⟨X, pins, N, qual, scope, f, cd, A, s.heap.objs.size, keep⟩ Y) n s2 c ((model P w).den c) [] s2
structure YFn (P : Program) (w : World) (K : PySem.W.Frag) (mg : Str → Option Value) (base : Heap) (k : Nat) (f : Addr) (fd : FuncData) (ps : List Str) (sp : SpY) : Prop where
  len : ∀ vs H Y Q σ, sp vs H Y Q σ → vs.length = ps.length
  run : ∀ (A : Around) (outer : List Env) (s : Shared) (H : Hp) (args : Args) (us : List Value) (vs : List V), vs.length = ps.length → Room k A → Env0 P w K mg base A outer s H → BindsTo s fd args (ps.zip us) → Vals vs us →
    codeAny (model P w) A (.call (.ref f) args) (fun r s' => match r with | .ok (.ret u) => YBorn P w K mg base k s sp vs u s' | _ => False) s

/-- THE RULE: a generator def, by its body -/
theorem yfn_of {P : Program} {w : World} {K : PySem.W.Frag} {mg : Str → Option Value} {base : Heap} {k : Nat} {f : Addr} {name qual : Str} {params : Arguments} {body : List Stmt} {scope : Scope} {dV kV doc pm cdv ct oc : Value} {an od : Option Addr}
    {osl : Array (Option Value)} {N ps : List Str} {sp : SpY} (lk : K.lookup f = some ⟨oc, od, .func (PySem.W.fnOf name qual params body scope dV kV doc pm an cdv ct), osl⟩) (hcd : PySem.W.codeIn K cdv qual = true) (S : YScope N ps scope)
    (len : ∀ vs H Y Q σ, sp vs H Y Q σ → vs.length = ps.length)
    (hbody : ∀ (G : GP), G.X.prog = P → G.X.w = w → G.X.K = K → G.X.mg = mg → G.X.base = base → G.N = N → G.qual = qual → G.scope = scope → GOk G → Room k (G.A.deeper G.env) →
      ∃ t, YSs G body t ∧ ∀ vs H Y Q σ, sp vs H Y Q σ → ∃ n, t Y { nx := fun _ _ σ' H' => Q σ' H', rt := fun _ v σ' H' => v = .non ∧ Q σ' H' } n (start N vs) σ H) :
    YFn P w K mg base k f (PySem.W.fnOf name qual params body scope dV kV doc pm an cdv ct) ps sp := by
  refine ⟨len, fun A outer s H args us vs hl hr e0 hb r => ?_⟩
  have KX : K.In s.heap := e0.mod.kin.keeps fun b o e => (e0.bs b o e).1
  have lim : s.heap.NoLimit := e0.mod.nolimit.keeps fun b o e => (e0.bs b o e).1
  have hkind : ∀ y ∈ ps.zip us, scope.names.lookup y.1 = some .local ∨ (scope.names.lookup y.1 = some .cell ∧ ((cellsFrom (s.heap.objs.size + 1) scope.names []).lookup y.1).isSome = true) := fun ⟨n, v⟩ hy => .inl (S.par n (List.of_mem_zip hy).1)
  refine codeAny_call_generator hr.depth (KX _ _ lk) rfl S.co S.gen rfl (PySem.W.codeRec_of KX hcd) (hb _ _ _ _ ?_)
  refine wpAny_newFunctionEnv_cells S.kind hkind fun env he s1 x => ?_
  subst he
  refine ⟨lim.keeps x.toInCall.keep, ?_⟩
  obtain ⟨h1, tk, es1, hk1⟩ := x.done
  have gen1 : s1.gens = s.gens := by rw [es1]
  have ns1 := x.toInCall.ns
  obtain ⟨oL, esL, epL, hoL, hdL, _⟩ := id ns1
  have lt1 : s.heap.objs.size < s1.heap.objs.size := ns1.lt
  have kp1 : ∀ b o, s.heap.get? b = some o → s1.heap.get? b = some o := x.toInCall.keep
  have sub : ∀ {go : Obj} {b : Addr} {o : Obj}, s1.heap.get? b = some o → (s1.heap.push go).get? b = some o := fun {go b o} e => Heap.get?_push_of_some _ e
  have born : ∀ (go : Obj) (tk2 : Nat), IsGenO go s1.gens.size → (∀ h : Heap, (h.push go).get? h.objs.size = some go) →
      YBorn P w K mg base k s sp vs (.ref s1.heap.objs.size) { s1 with gens := s1.gens.push (.fresh (.func body (envOfC qual scope s.heap.objs.size f cdv))), toks := tk2, heap := s1.heap.push go } := by
    intro go tk2 hgo hgp
    refine ⟨N, qual, scope, f, cdv, s1.heap.objs.size, s1.gens.size, _, oL, go, rfl, lt1, sub hoL, hgp _, fun v e => (by rw [hdL] at e; cases e), hgo, Array.getElem?_push_size .., (by rw [es1] : s1.os = s.os), AllBare.push (by rw [gen1]; exact e0.bare) rfl, fun b o e => sub (kp1 b o e), S.kind, S.nd, S.plain, ?_⟩
    intro X pins Aw keep σ s2 H2 Y Q hP hw hK hmg hbs hrw ok I2 eL nL kept hsp
    obtain ⟨t, ht, hq⟩ := hbody ⟨X, pins, N, qual, scope, f, cdv, Aw, s.heap.objs.size, keep⟩ hP hw hK hmg hbs rfl rfl rfl ok (hrw.deeper _)
    obtain ⟨n, hq⟩ := hq vs H2 Y Q σ hsp
    have hpl : ps.length ≤ N.length := by have := congrArg List.length S.pre; rw [List.length_take] at this; omega
    have ndP : ps.Nodup := by rw [← S.pre]; exact S.nd.sublist (List.take_sublist _ _)
    have hvs : vs.length = us.length := r.length
    have A0 : Asleep ⟨X, pins, N, qual, scope, f, cdv, Aw, s.heap.objs.size, keep⟩ [] (start N vs) s1 := by
      refine ⟨⟨_, ns1, fun i y v h1 h2 h3 => ?_⟩, fun p hp => by simp at hp, fun b hb => ?_, ?_⟩
      · have hi : i < vs.length := by
          unfold L2.start at h2
          by_cases hi : i < vs.length
          · exact hi
          · rw [List.getElem?_append_right (by simpa using hi), List.getElem?_replicate] at h2
            split at h2 <;> cases h2
        have ha : vs[i]? = some v := by
          unfold L2.start at h2
          rw [List.getElem?_append_left (by simpa using hi), List.getElem?_map] at h2
          cases e : vs[i]? with
          | none => rw [e] at h2; cases h2
          | some z => rw [e] at h2; cases h2; rfl
        obtain ⟨u, hu, rv⟩ := r.get ha
        have hp : ps[i]? = some y := by
          rw [← S.pre, List.getElem?_take_of_lt (by omega)]; exact h1
        have kk := S.par y (List.mem_of_getElem? hp)
        exact ⟨u, rv, kk, bindL_get ndP hp hu kk⟩
      · obtain ⟨q1, o, q2, q3, q4⟩ := kept b hb
        exact ⟨Nat.le_of_lt q1, Nat.ne_of_gt q1, fun q hq => by simp at hq⟩
      · unfold L2.start
        show _ = N.length
        rw [List.length_append, List.length_map, List.length_replicate]
        omega
    have R0 : Run ⟨X, pins, N, qual, scope, f, cdv, Aw, s.heap.objs.size, keep⟩ s2 [] (start N vs) σ H2 s2 :=
      A0.wake ok I2 ⟨oL, hoL, eL, nL⟩ (fun p hp => by simp at hp) fun b hb => (kept b hb).2
    refine ⟨n, ?_⟩
    subst hP hw
    refine seg_func ?_
    refine ht.run Aw Y [] _ n s2 _ [] _ _ id id s2 (start N vs) σ H2 _ ⟨over_func, rfl, rfl, rfl⟩ (fun n' s₀ fl s' hs => ?_) R0 hq
    have fin : ∀ {u : Value}, u = .none → (∃ σg σ' H', Run ⟨X, pins, N, qual, scope, f, cdv, Aw, s.heap.objs.size, keep⟩ s₀ [] σg σ' H' s' ∧ Q σ' H') → Seg (model X.prog X.w) Aw (YEnd ⟨X, pins, N, qual, scope, f, cdv, Aw, s.heap.objs.size, keep⟩ Q) (YPr ⟨X, pins, N, qual, scope, f, cdv, Aw, s.heap.objs.size, keep⟩ Y) n' s₀
        (.func body (envOfC qual scope s.heap.objs.size f cdv)) (.pure (.done (.ret u))) [] s' := fun {u} hu hex => by
      obtain ⟨σg, σ', H', R', q⟩ := hex
      subst hu
      exact seg_end (.ok (.ret .none)) ⟨.inl rfl, σ', H', R'.consumer ok, R'.kept ok, q⟩
    cases fl with
    | next => obtain ⟨σg, σ', H', R', q⟩ := hs; exact fin rfl ⟨σg, σ', H', R', q⟩
    | brk => obtain ⟨_, _, _, _, q⟩ := hs; exact q.elim
    | cont => obtain ⟨_, _, _, _, q⟩ := hs; exact q.elim
    | ret u =>
      obtain ⟨v, σg, σ', H', R', rv, ev, q⟩ := hs
      subst ev
      exact fin rv ⟨σg, σ', H', R', q⟩
  exact born _ _ ⟨rfl, ⟨_, _, rfl⟩, rfl⟩ fun h => Heap.get?_push_size _ rfl

/-! ### the call as an expression -/
/-- the generator object has come to a consumer -/
def YMade (X : Cx) (pins : List (Addr × Obj)) (k : Nat) (σ : L2.St) (H1 : Hp) (sp : SpY) (vs : List V) (u : Value) (s' : Shared) : Prop :=
  ∃ sc, Inv X pins σ H1 sc ∧ YBorn X.prog X.w X.K X.mg X.base k sc sp vs u s'
/-- an expression whose value is a generator that has not begun: its arguments' reading -/
structure PGenY (X : Cx) (k : Nat) (e : Expr) (sp : SpY) (ta : TA) : Prop where
  run : ∀ (pins : List (Addr × Obj)) (s : Shared) (σ : L2.St) (H : Hp) (R : List V → Hp → Prop), (∀ vs H1, R vs H1 → ∃ Hx Y Q σ', sp vs Hx Y Q σ') → Inv X pins σ H s → ta σ H R →
    wpAny (model X.prog X.w) X.A (eval e X.env) (fun u s' => ∃ vs H1, R vs H1 ∧ YMade X pins k σ H1 sp vs u s') X.xe s
section
variable {X : Cx} {k : Nat} {f C : Addr} {fd : FuncData} {ps : List Str} {sp : SpY} {dvs : List V} {ds : List Value} {x m : Str} {p pos pos' apos : Pos} {o : Expr} {ta : TE}
theorem run_yfn {pins : List (Addr × Obj)} {σ : L2.St} {H : Hp} {s : Shared} {us : List Value} {vs : List V} {E1 : Value → Shared → Prop} (F : YFn X.prog X.w X.K X.mg X.base k f fd ps sp) (hr : Room k X.A) (hb : Binds X.K fd ps ds) (hd : Vals dvs ds)
    (I : Inv X pins σ H s) (r : Vals vs us) (h : ∃ Hx Y Q σ', sp (vs ++ dvs) Hx Y Q σ') : wpAny (model X.prog X.w) X.A (call (.ref f) us) (fun u s' => YMade X pins k σ H sp (vs ++ dvs) u s') E1 s := by
  have r2 : Vals (vs ++ dvs) (us ++ ds) := r.append hd
  obtain ⟨Hx, Y, Q, σ', h⟩ := h
  have hl2 : (us ++ ds).length = ps.length := by rw [← r2.length]; exact F.len _ _ _ _ _ h
  refine wpAny_call (codeAny_mono (F.run X.A X.stack s H ⟨us, []⟩ (us ++ ds) (vs ++ dvs) (F.len _ _ _ _ _ h) hr I.env0 (hb s us I.kIn hl2) r2) fun r s' hq => ?_)
  cases r with
  | error e => exact False.elim hq
  | ok fl =>
    cases fl with
    | ret u => exact ⟨s, I, hq⟩
    | next => exact False.elim hq
    | brk => exact False.elim hq
    | cont => exact False.elim hq
def tMethY (C : Addr) (m : Str) (dvs : List V) (ta : TE) (t : TA) : TA := fun σ H R => ta σ H fun x H1 => ∃ a dx fs, x = .ref a ∧ H1 a = some (.ins C dx fs) ∧ fs.lookup m = none ∧ t σ H1 fun vs H2 => R (x :: (vs ++ dvs)) H2
/-- o.m(e, ..) of a generator method -/
theorem pgy_meth {pl : Sem Bool} {e : Expr} {es : List Expr} {t : TA} (he : PE X o ta) (c : Cls X.K C) (hm : Meth X.K C m f) (F : YFn X.prog X.w X.K X.mg X.base k f fd ps sp) (hr : Room k X.A) (hb : Binds X.K fd ps ds) (hd : Vals dvs ds) (ha : PA X (e :: es) t)
    (hst : starEach (e :: es) X.env = (false, eval e X.env) :: starEach es X.env := by rfl) (hpl : (backTo pos' (starEach es X.env)).any (·.1) = false := by rfl)
    (ht : eval (.Call (.Attribute o m apos) (e :: es) [] pos') X.env = (do
      let ov ← eval o X.env
      standAt apos.atName
      let (f, first) ← holding [ov] (getMethod ov m pl)
      callWith pos' f first (backTo pos' (starEach (e :: es) X.env)) (backToKw pos' (keywordEach [] X.env))) := by rfl) :
    PGenY X k (.Call (.Attribute o m apos) (e :: es) [] pos') sp (tMethY C m dvs ta t) := by
  refine ⟨fun pins s σ H R hR I h => ?_⟩
  refine PySem.W.methodCall_KW (pl := pl) (thn (he.run pins s σ H _ I h) fun u s1 ⟨x, H1, I1, rx, a, dx, fs, ex, ea, l, q⟩ => ?_) ht
  subst ex
  obtain rfl : u = Value.ref a := rx
  refine getmeth_ok I1 ea c hm l ?_
  refine PySem.W.callWith_K (first := [.ref a]) (h₀ := X.base) I.ok.mod.kin hm.kp (thn (ha.run pos' pins s1 σ H1 _ I1 q) fun us s2 ⟨vs, H2, I2, r, q3⟩ => ⟨I2.kIn, ?_⟩) hst hpl
  exact thn (run_yfn (us := .ref a :: us) (vs := .ref a :: vs) F hr hb hd I2 (.cons rfl r) (hR _ _ q3)) fun u s3 y => ⟨_, H2, q3, y⟩
/-- f(e, ..) of a generator def -/
theorem pgy_call {e : Expr} {es : List Expr} {t : TA} (F : YFn X.prog X.w X.K X.mg X.base k f fd ps sp) (hr : Room k X.A) (hg : Gl X x) (hm : X.mg x = some (.ref f)) (hk : PySem.W.keepIn X.K (.ref f) = true) (hb : Binds X.K fd ps ds) (hd : Vals dvs ds)
    (ha : PA X (e :: es) t) (hdb : (x == ("__debug__" : Str)) = false := by decide) (he : starEach (e :: es) X.env = (false, eval e X.env) :: starEach es X.env := by rfl) (hpl : (backTo pos' (starEach es X.env)).any (·.1) = false := by rfl) :
    PGenY X k (.Call (.Name x p) (e :: es) [] pos') sp (fun σ H R => t σ H fun vs H1 => R (vs ++ dvs) H1) := by
  refine ⟨fun pins s σ H R hR I h => ?_⟩
  refine wpAny_Call_Name_kw (ld_glob I hg hm ?_ hdb)
  refine PySem.W.callWith_K (h₀ := X.base) I.ok.mod.kin hk (thn (ha.run pos' pins s σ H _ I h) fun us s1 ⟨vs, H1, I1, r, q2⟩ => ⟨I1.kIn, ?_⟩) he hpl
  exact thn (run_yfn F hr hb hd I1 r (hR _ _ q2)) fun u s3 y => ⟨_, H1, q2, y⟩
end

/-! ### states that part in their generators alone -/
theorem Inv.regen {X : Cx} {pins : List (Addr × Obj)} {σ : L2.St} {H : Hp} {s : Shared} {G' : Array GenState} (I : Inv X pins σ H s) (hb : AllBare G') : Inv X pins σ H { s with gens := G' } :=
  I.call' (ch := []) (s' := { s with gens := G' }) rfl (Un.kept fun _ _ e => e) I.hok hb fun b z => by simp at z
theorem bare_poison {s : Shared} (h : AllBare s.gens) : AllBare (poison s).gens := fun y hy => by
  have hy' : y ∈ s.gens.map pz := hy
  obtain ⟨x, hx, rfl⟩ := Array.mem_map.mp hy'
  rw [pz_bare]; exact h x hx
theorem bare_real {B : Nat → Option GenState} {s : Shared} (S : Slp B s) (h : AllBare s.gens) : AllBare (real B s).gens := fun y hy => by
  obtain ⟨i, hi, e⟩ := Array.mem_iff_getElem.mp hy
  have e2 : (real B s).gens[i]? = some y := by rw [Array.getElem?_eq_getElem hi, e]
  rw [real_get] at e2
  cases q : s.gens[i]? with
  | none => rw [q] at e2; cases e2
  | some z =>
    rw [q] at e2
    have e3 : (B i).getD z = y := Option.some.inj e2
    cases hB : B i with
    | none =>
      rw [hB] at e3
      have e4 : z = y := e3
      rw [← e4]; exact h z (Array.mem_of_getElem? q)
    | some x =>
      rw [hB] at e3
      have e4 : x = y := e3
      have q2 := (S.at_ i x hB).2
      rw [q] at q2
      rw [← e4, ← pz_bare, ← Option.some.inj q2]
      exact h z (Array.mem_of_getElem? q)
theorem Inv.poisoned {X : Cx} {pins : List (Addr × Obj)} {σ : L2.St} {H : Hp} {s : Shared} (I : Inv X pins σ H s) : Inv X pins σ H (poison s) := Inv.regen I (bare_poison I.bare)
theorem Inv.realed {X : Cx} {pins : List (Addr × Obj)} {σ : L2.St} {H : Hp} {B : Nat → Option GenState} {s : Shared} (I : Inv X pins σ H s) (S : Slp B s) : Inv X pins σ H (real B s) := Inv.regen I (bare_real S I.bare)
theorem Inv.setg {X : Cx} {pins : List (Addr × Obj)} {σ : L2.St} {H : Hp} {s : Shared} {g : Nat} {x : GenState} (I : Inv X pins σ H s) (hx : x.bare = true) : Inv X pins σ H (s.setGen g x) := Inv.regen I (allBare_setGen I.bare hx)
end Gx

/-! for over a generator -/
namespace Gx
open PySem PySem.Spec PyProof.Rows L2 GenW

section
variable {X : Cx} {k : Nat} {sp : SpY} {ta : TA} {pos : Pos}
/-- the frame's standing facts, where the consumer is the def's own body that called -/
theorem gok_of {pins : List (Addr × Obj)} {σ : L2.St} {H : Hp} {sc : Shared} {N : List Str} {qual : Str} {scope : Scope} {f : Addr} {cd : Value} {A : Around} {keep : List Addr} (I : Inv X pins σ H sc) (hc : X.calm = true) (hfr : A.frames = some X.stack) (hh : A.handled = none)
    (kind : scope.kind = .function) (nd : N.Nodup) (plain : ∀ y ∈ scope.names, y.2 ≠ .free ∧ y.2 ≠ .cell) (hk : ∀ b ∈ keep, sc.heap.objs.size ≤ b) : GOk ⟨X, pins, N, qual, scope, f, cd, A, sc.heap.objs.size, keep⟩ where
  frames := hfr
  hd := hh
  kind := kind
  cells := cells_none fun y hy => (plain y hy).2
  plain := plain
  nd := nd
  frLt := fun b hb => by
    rcases List.mem_cons.mp (I.stkSub b hb) with z | z
    · rw [z]; exact I.lt
    · obtain ⟨_, o, ho, _⟩ := I.funs.mem z
      exact Heap.lt_size ho
  pinLt := fun p hp => Heap.lt_size (I.pin p hp).1
  cellLt := fun x c e => by
    obtain ⟨v, q⟩ := I.cell x c e
    exact q.lt
  exOk := fun b hb _ => .inr (Nat.le_trans I.sz hb)
  bsz := Nat.le_trans I.ok.bsz I.sz
  locNe := Nat.ne_of_lt I.lt
  keepNe := fun b hb => Nat.ne_of_gt (Nat.lt_of_lt_of_le I.lt (hk b hb))

def tForY (sp : SpY) (ta : TA) (g : TG) (tb : TS) : TS := fun D σ H => ta σ H fun vs H1 =>
  sp vs H1 (fun x σ' H' k => g x σ' H' fun σ2 H2 => tb { nx := k, ct := k, rt := fun _ _ => False, bk := fun _ _ => False } σ2 H2) D.nx σ
theorem ps_forY {tg e : Expr} {body : List Stmt} {g : TG} {tb : TS} (hp : PassesOwn (model X.prog X.w) X.A X.env X.xe) (hc : X.calm = true) (he : PGenY X k e sp ta) (hr : Room (k + 2) X.A) (hg : PG X.nox tg g) (hb : PSs X.nox body tb)
    (hs : ∀ x, foldedSetIterable e X.env x = pure x := by intro _; rfl) : PS X (.For tg e body [] pos) (tForY sp ta g tb) := by
  refine ⟨fun pins s σ H D I h => ?_⟩
  refine wpAny_For (thn (he.run pins s σ H _ (fun vs H1 z => ⟨_, _, _, _, z⟩) I h) fun u s1 hu => ?_) hs
  obtain ⟨vs, H1, hsp, sc, Ic, N, qual, scope, f, cd, a, gn, c, oL, oa, rfl, lt, eL, ea, ncL, ig, eg, eos, bare, kept, kind, nd, plain, starts⟩ := hu
  have I1 : Inv X pins σ H1 s1 := Ic.call' (ch := []) eos (Un.kept kept) (Ic.hok.kept kept) bare fun b z => by simp at z
  have nL : H1 sc.heap.objs.size = none := Ic.hok.fresh (Nat.le_refl _)
  have na : H1 a = none := Ic.hok.fresh (Nat.le_of_lt lt)
  refine wpAny_pyIter_gen (ig.at ea) ?_
  have hfr : X.A.in1.frames = some X.stack := Ic.ok.frames
  have hh : X.A.in1.handled = none := Ic.ok.hd hc
  let G : GP := ⟨X, pins, N, qual, scope, f, cd, X.A.in1, sc.heap.objs.size, [a]⟩
  have ok : GOk G := gok_of Ic hc hfr hh kind nd plain fun b hb => by rw [List.mem_singleton.mp hb]; exact Nat.le_of_lt lt
  obtain ⟨n, sg⟩ := starts X pins X.A.in1 [a] σ (s1.setGen gn .running) H1 _ D.nx rfl rfl rfl rfl rfl (Room.in1 hr) ok (Inv.setg I1 rfl) eL nL
    (fun b hb => by rw [List.mem_singleton.mp hb]; exact ⟨lt, oa, ea, ig.nocell, na⟩) hsp
  let Y : YH := fun x σ' H' k => g x σ' H' fun σ2 H2 => tb { nx := k, ct := k, rt := fun _ _ => False, bk := fun _ _ => False } σ2 H2
  refine codeAny_forLoop_any (fun m s => ∃ σ H gs, Inv X pins σ H s ∧ s.gens[gn]? = some gs ∧ s.heap.get? a = some oa ∧ H a = none ∧
    gs.Goes (model X.prog X.w) X.A.in1 (YEnd G D.nx) (YPr G Y) m (.send .none) (s.setGen gn .running)) ?_ n ⟨σ, H1, .fresh c, I1, eg, ea, na, rfl, sg⟩
  rintro m s3 ⟨σ3, H3, gs, I3, eg3, ea3, na3, go3⟩
  have lt3 : gn < s3.gens.size := (Array.getElem?_eq_some_iff.mp eg3).1
  refine wpAny_gsz (n := gn + 1) lt3 (next_y (F := YFin G D.nx) (Ic.ok.hd hc) I3.nolimit hr.depth (ig.at ea3) eg3 go3 (fun v s4 k' l' c' p' fs' hy hsz => ?_) fun s4 hend h' hk _ => ?_)
  · obtain ⟨x, σc, H4, kk, own, rv, I4, ownok, keepok, hy, wake⟩ := hy
    obtain ⟨oa', z1, ea4, na4, _, nf4, nc4, _⟩ := keepok a (List.mem_singleton.mpr rfl)
    have e0 : oa' = oa := by
      have z1' : s3.heap.get? a = some oa' := z1
      rw [ea3] at z1'; exact (Option.some.inj z1').symm
    subst e0
    let s5 : Shared := s4.setGen gn (.suspended k' l' c' p' fs' false)
    have I5 : Inv X pins σc H4 s5 := Inv.setg I4 rfl
    have ea5 : s5.heap.get? a = some oa' := ea4
    have hlt : gn < s4.gens.size := by
      have q : (s4.setGen gn (.suspended k' l' c' p' fs' false)).gens.size = s4.gens.size := setGen_size _ _ _
      have q2 : gn + 1 ≤ (s4.setGen gn (.suspended k' l' c' p' fs' false)).gens.size := hsz
      omega
    obtain ⟨nm, qn, hd⟩ := ig.data
    show wpAny _ _ (letOwnedTupleGo tg (.ref a) v) _ _ s5
    refine go_of (s := s5) ea5 ig.cls hd (by decide) ?_
    have Ip : Inv X.nox (pins ++ (own ++ [(a, oa')])) σc H4 (poison s5) := by
      refine Inv.poisoned (Inv.wish ?_ _)
      refine I5.pins_of fun p hp => ?_
      rcases List.mem_append.mp hp with z | z
      · exact I5.pin p (List.mem_append_right _ z)
      · rcases List.mem_append.mp z with z | z
        · obtain ⟨w1, w2, w3, w4, w5, _⟩ := ownok p z
          exact ⟨w1, w2, w3, w4, w5⟩
        · rw [List.mem_singleton.mp z]
          exact ⟨ea5, na4, fun q => by
            have := Ic.lt
            rw [show (a, oa').1 = a from rfl] at q
            rw [q] at lt
            exact absurd (Nat.lt_trans lt this) (Nat.lt_irrefl _), nf4, nc4⟩
    have pg := hg.run _ (poison s5) σc H4 x v _ Ip rv hy
    refine wpAny_mono (wpAny_sleep pg) (fun _ s6 hs6 => ?_) fun _ _ z => (by obtain ⟨_, _, _, z⟩ := z; exact z.elim)
    obtain ⟨s6', rfl, S6, σ6, H6, I6, q6⟩ := hs6
    refine wpAny_mono (wpAny_real S6 (hb.run _ s6' σ6 H6 _ I6 q6)) (fun fl s7 hs7 => ?_) fun _ _ z => (by obtain ⟨_, _, _, z⟩ := z; exact z.elim)
    obtain ⟨s7', rfl, S7, hs7⟩ := hs7
    have again : ∀ {σ7 : L2.St} {H7 : Hp}, Inv X.nox (pins ++ (own ++ [(a, oa')])) σ7 H7 s7' → kk σ7 H7 → ∃ m', m' < m ∧ ∃ σ H gs, Inv X pins σ H (real (sleepers s5) s7') ∧ (real (sleepers s5) s7').gens[gn]? = some gs ∧ (real (sleepers s5) s7').heap.get? a = some oa' ∧ H a = none ∧
        gs.Goes (model X.prog X.w) X.A.in1 (YEnd G D.nx) (YPr G Y) m' (.send .none) ((real (sleepers s5) s7').setGen gn .running) := fun {σ7 H7} I7 k7 => by
      have J7 : Inv X (pins ++ (own ++ [(a, oa')])) σ7 H7 (real (sleepers s5) s7') := Inv.realed I7.unwish S7
      have J8 : Inv X pins σ7 H7 (real (sleepers s5) s7') := J7.unpinned
      have pin7 : ∀ p ∈ own ++ [(a, oa')], (real (sleepers s5) s7').heap.get? p.1 = some p.2 ∧ H7 p.1 = none := fun p hp => by
        obtain ⟨w1, w2, _⟩ := J7.pin p (List.mem_append_right _ (List.mem_append_right _ hp))
        exact ⟨w1, w2⟩
      obtain ⟨wa1, wa2⟩ := pin7 (a, oa') (List.mem_append_right _ (List.mem_singleton.mpr rfl))
      have lat := wake ((real (sleepers s5) s7').setGen gn .running) σ7 H7 (Inv.setg J8 rfl) (fun p hp => pin7 p (List.mem_append_left _ hp)) (fun b hb => by rw [List.mem_singleton.mp hb]; exact ⟨oa', wa1, nc4, wa2⟩) k7
      cases m with
      | zero => exact lat.elim
      | succ m =>
        refine ⟨m, Nat.lt_succ_self m, σ7, H7, .suspended k' l' c' p' fs' false, J8, ?_, wa1, wa2, lat⟩
        refine real_sleeping (s := s5) ?_ S7
        exact setGen_at hlt
    cases fl with
    | next => obtain ⟨σ7, H7, I7, k7⟩ := hs7; exact again I7 k7
    | cont => obtain ⟨σ7, H7, I7, k7⟩ := hs7; exact again I7 k7
    | brk => obtain ⟨_, _, _, z⟩ := hs7; exact z.elim
    | ret v => obtain ⟨_, _, _, _, _, z⟩ := hs7; exact z.elim
  · obtain ⟨σ4, H4, I4, _, q4⟩ := hend
    refine wpAny_execs_nil ⟨σ4, H4, ?_, q4⟩
    have J : Inv X pins σ4 H4 { s4 with heap := h' } := I4.kept (t' := s4.toks) hk
    exact Inv.regen J (allBare_setGen (s := s4) I4.bare rfl)
end
end Gx

/-! a list comprehension over a generator; list(g) -/
namespace Gx
open PySem PySem.Spec PyProof.Rows L2 GenW

/-- more may turn -/
theorem Inv.moreEx {X : Cx} {pins : List (Addr × Obj)} {σ : L2.St} {H : Hp} {s : Shared} {ex : List Addr} (I : Inv X pins σ H s) (he : X.ex = [])
    (h : ∀ b ∈ ex, b ≠ X.env.locals ∧ (∀ x c, X.env.cells.lookup x = some c → c ≠ b) ∧ X.base.objs.size ≤ b ∧ b ∉ X.fs) : Inv { X with ex := ex } pins σ H s :=
  ⟨⟨I.ok.mod, I.ok.kind, I.ok.glob, I.ok.blt, I.ok.above, I.ok.inj, I.ok.has, I.ok.cab, I.ok.hd, I.ok.frames, I.ok.stk, fun b hb => ⟨(h b hb).1, (h b hb).2.1⟩, I.ok.bs, I.ok.bsz, fun b o e hb => absurd (Nat.lt_of_lt_of_le (Heap.lt_size e) (h b hb).2.2.1) (Nat.lt_irrefl _), fun b hb => (h b hb).2.2.2, I.ok.funs, I.ok.frf⟩,
    I.os, I.bare, I.base.mono (fun _ z => z) (fun b hb => by rw [he] at hb; simp at hb), I.loc, I.cell, I.free, I.freeC, I.pin, I.hok, I.len⟩

section
variable {X : Cx} {k : Nat} {sp : SpY} {ta : TA}
def yTurn (g : TG) (tt : TT) (te : TE) (vs : List Nat) (D : Addr) : YH := fun x σ' H' k => g x σ' H' fun σ2 H2 => tt σ2 H2 fun b H3 =>
  if b = true then te σ2 H3 fun y H4 => ∃ acc, H4 D = some (.lst acc) ∧ acc.length < sizeLine ∧ k (wipe σ2 vs) (upd H4 D (.lst (acc ++ [y]))) else k (wipe σ2 vs) H3
/-- [elt for target in g if ..]: D the new list -/
def tLcY (sp : SpY) (ta : TA) (g : TG) (tt : TT) (te : TE) (vs : List Nat) : TE := fun σ H Q => ta σ H fun us H1 => (∃ Hx Y Q' σ', sp us Hx Y Q' σ') ∧ ∀ D, H1 D = none →
  sp us (upd H1 D (.lst [])) (yTurn g tt te vs D) (fun _ H' => Q (.ref D) H') (wipe σ vs)
theorem lcY_core {pins : List (Addr × Obj)} {s : Shared} {σ : L2.St} {H : Hp} {Q : VK} {elt tg iter : Expr} {ifs : List Expr} {scope : Scope} {own : List (Str × Nat)} {pos pos' : Pos} {g : TG} {tt : TT} {te : TE} {use : Option (Value → Sem Unit)} {Qf : Value → Shared → Prop}
    (hc : X.calm = true) (hN : X.N.Nodup) (I : Inv X pins σ H s) (hgen : PGenY X k iter sp ta) (hr : Room (k + 2) X.A) (ok : BlkOk X.N X.env.scope scope own) (hnc : ∀ y ∈ scope.names, y.2 ≠ .cell)
    (hg : ∀ (s : Shared) (H : Hp) (C : Addr) (cl : List (Str × Addr)) (fp : List Addr), PG (X.blk s H scope (compEnvC scope cl C X.env) fp) tg g) (ht : ∀ (s : Shared) (H : Hp) (C : Addr) (cl : List (Str × Addr)) (fp : List Addr), PTs (X.blk s H scope (compEnvC scope cl C X.env) fp) ifs tt)
    (he : ∀ (s : Shared) (H : Hp) (C : Addr) (cl : List (Str × Addr)) (fp : List Addr), PE (X.blk s H scope (compEnvC scope cl C X.env) fp) elt te) (hs : ∀ x, foldedSetIterable iter X.env x = pure x)
    (h : tLcY sp ta g tt te (own.map (·.2)) σ H Q)
    (hRR : ∀ D C s' m H', Inv X pins σ H' s' → Q (.ref D) H' → s'.heap.Ns C m → FpOk X pins H' C → compPost (model X.prog X.w) X.A X.xe use Qf (.ref D) C (.ok .next) s') :
    wpAny (model X.prog X.w) X.A (comprehension (.ListComp elt [⟨tg, iter, ifs, 0⟩] scope pos) scope X.env pos' (newList []) false (eval iter X.env) use) Qf X.xe s := by
  have hfree : ∀ y ∈ scope.names, y.2 = .free → ∃ c, X.env.cells.lookup y.1 = some c := fun y hy e => by
    rcases ok.free y hy e with k | k
    · exact I.ok.has _ (.inl k)
    · exact I.ok.has _ (.inr k)
  refine wpAny_comprehension_free (use := use) rfl hs (closure_ok hfree) ok.kind (fun y hy e => by rw [ok.uniq y hy, e])
    (thn (hgen.run pins s σ H _ (fun vs H1 z => z.1) I h) fun u s2 hu => ?_)
  obtain ⟨us, H2, ⟨_, hsp⟩, sc, Ic, N, qual, gscope, f, cd, a, gn, c, oL, oa, rfl, lt, eL, ea, ncL, ig, eg, eos, bare, kept, kind, nd, plain, starts⟩ := hu
  refine wpAny_pyIter_gen (ig.at ea) ?_
  have I2 : Inv X pins σ H2 s2 := Ic.call' (ch := []) eos (Un.kept kept) (Ic.hok.kept kept) bare fun b z => by simp at z
  have nL : H2 sc.heap.objs.size = none := Ic.hok.fresh (Nat.le_refl _)
  have na : H2 a = none := Ic.hok.fresh (Nat.le_of_lt lt)
  have lt2 : a < s2.heap.objs.size := Heap.lt_size ea
  refine wpAny_newObj_type (newEnv_comp ?_) (by show 0 ≤ sizeLine; decide)
  generalize hD : s2.heap.objs.size = D
  have hDn : H2 D = none := I2.hok.fresh (Nat.le_of_eq hD)
  have hsp := hsp D hDn
  generalize hs3 : ({ s2 with heap := s2.heap.push { cls := .type "list", data := .seq ([] : List Value).toArray } } : Shared) = s3
  have h3 : s3.heap = s2.heap.push { cls := .type "list", data := .seq ([] : List Value).toArray } := by rw [← hs3]
  have g3 : s3.gens = s2.gens := by rw [← hs3]
  have k3 : ∀ b o, s2.heap.get? b = some o → s3.heap.get? b = some o := fun b o e => by rw [h3]; exact Heap.get?_push_of_some _ e
  have z3 : s3.heap.objs.size = D + 1 := by rw [h3, Heap.size_push, hD]
  have I3 : Inv X pins σ (upd H2 D (.lst [])) s3 := by
    rw [← hs3]
    refine I2.laid (t' := s2.toks) (fun b o e => Heap.get?_push_of_some _ e) (Nat.le_of_eq hD) ⟨Nat.zero_le _, [], 0, .nil, ?_⟩
    rw [← hD]
    exact Heap.get?_push_size _ rfl
  have I4 := block_start (fp := []) I3 ok hN fun b hb => by simp at hb
  have ecells : cellsFrom (s3.heap.objs.size + 1) scope.names (cloFrom X.env.cells scope.names []) = cloFrom X.env.cells scope.names [] := cells_none hnc
  have cellLow : ∀ x c, (cellsFrom (s3.heap.objs.size + 1) scope.names (cloFrom X.env.cells scope.names [])).lookup x = some c → c < sc.heap.objs.size := fun x c e => by
    rw [ecells] at e
    rcases cloFrom_mem (PySem.mem_of_lookup e) with z | ⟨z1, z2⟩
    · simp at z
    · obtain ⟨c', ec⟩ := hfree _ z1 rfl
      rw [ec] at z2
      have z3 : c = c' := z2
      subst z3
      obtain ⟨v, q⟩ := Ic.cell _ _ ec
      exact q.lt
  let exs : List Addr := (List.range s3.heap.objs.size).filter fun b => decide (sc.heap.objs.size ≤ b)
  have exm : ∀ b, b ∈ exs ↔ b < s3.heap.objs.size ∧ sc.heap.objs.size ≤ b := fun b => by simp [exs]
  have frLt : ∀ b ∈ frs X.stack, b < sc.heap.objs.size := fun b hb => by
    rcases List.mem_cons.mp (Ic.stkSub b hb) with z | z
    · rw [z]; exact Ic.lt
    · obtain ⟨_, o, ho, _⟩ := Ic.funs.mem z
      exact Heap.lt_size ho
  have I4x := Inv.moreEx (ex := exs) I4 rfl fun b hb => by
    obtain ⟨b1, b2⟩ := (exm b).mp hb
    refine ⟨Nat.ne_of_lt b1, fun x c e z => ?_, Nat.le_trans (Nat.le_trans Ic.ok.bsz Ic.sz) b2, fun hm => absurd (Nat.lt_of_lt_of_le (frLt b hm) b2) (Nat.lt_irrefl _)⟩
    have := cellLow x c e
    rw [z] at this
    exact absurd (Nat.lt_of_lt_of_le this b2) (Nat.lt_irrefl _)
  have pg := hg s3 (upd H2 D (.lst [])) s3.heap.objs.size (cellsFrom (s3.heap.objs.size + 1) scope.names (cloFrom X.env.cells scope.names [])) exs
  have pt := ht s3 (upd H2 D (.lst [])) s3.heap.objs.size (cellsFrom (s3.heap.objs.size + 1) scope.names (cloFrom X.env.cells scope.names [])) exs
  have pe := he s3 (upd H2 D (.lst [])) s3.heap.objs.size (cellsFrom (s3.heap.objs.size + 1) scope.names (cloFrom X.env.cells scope.names [])) exs
  show codeAny _ _ (.compStart (.ListComp elt [⟨tg, iter, ifs, 0⟩] scope pos) 0 (.ref a) (.ref D) (compEnvC scope (cellsFrom (s3.heap.objs.size + 1) scope.names (cloFrom X.env.cells scope.names [])) s3.heap.objs.size X.env)) (compPost (model X.prog X.w) X.A X.xe use Qf (.ref D) s3.heap.objs.size) { s3 with heap := pushCells (s3.heap.push { cls := .type "dict", data := .dict #[] }) scope.names }
  generalize hce : compEnvC scope (cellsFrom (s3.heap.objs.size + 1) scope.names (cloFrom X.env.cells scope.names [])) s3.heap.objs.size X.env = ce at I4x pg pt pe ⊢
  have cL : ce.locals = s3.heap.objs.size := by subst hce; rfl
  have cC : ce.cells = cellsFrom (s3.heap.objs.size + 1) scope.names (cloFrom X.env.cells scope.names []) := by subst hce; rfl
  generalize hH3 : upd H2 D (.lst []) = H3 at I3 I4x pg pt pe hsp
  generalize hs4 : ({ s3 with heap := pushCells (s3.heap.push { cls := .type "dict", data := .dict #[] }) scope.names } : Shared) = s4 at I4x ⊢
  have g4 : s4.gens = s3.gens := by rw [← hs4]
  have k4 : ∀ b o, s3.heap.get? b = some o → s4.heap.get? b = some o := fun b o e => by rw [← hs4]; exact pushCells_keeps _ _ _ _ (Heap.get?_push_of_some _ e)
  have ea4 : s4.heap.get? a = some oa := k4 _ _ (k3 _ _ ea)
  have eL4 : s4.heap.get? sc.heap.objs.size = some oL := k4 _ _ (k3 _ _ eL)
  have eg4 : s4.gens[gn]? = some (.fresh c) := by rw [g4, g3]; exact eg
  have na4 : H3 a = none := by rw [← hH3, upd_ne (by rw [← hD]; exact Nat.ne_of_lt lt2)]; exact na
  have nL4 : H3 sc.heap.objs.size = none := by rw [← hH3, upd_ne (by rw [← hD]; exact Nat.ne_of_lt (Nat.lt_trans lt lt2))]; exact nL
  let Xb : Cx := X.blk s3 H3 scope ce exs
  have hfr : X.A.in1.frames = some X.stack := Ic.ok.frames
  have hh : X.A.in1.handled = none := Ic.ok.hd hc
  have big : a < D + 1 := by rw [← hD]; exact Nat.lt_succ_of_lt lt2
  let G : GP := ⟨Xb, [], N, qual, gscope, f, cd, X.A.in1, sc.heap.objs.size, [a]⟩
  have gok : GOk G := ⟨hfr, hh, kind, cells_none fun y hy => (plain y hy).2, plain, nd, frLt, fun p hp => absurd (show p ∈ ([] : List (Addr × Obj)) ++ [] from hp) (by simp), fun x c e => cellLow x c (by rw [← cC]; exact e), fun b hb hne => by
      by_cases hlt : b < s3.heap.objs.size
      · exact .inl ((exm b).mpr ⟨hlt, hb⟩)
      · exact .inr (Nat.le_of_not_lt hlt), Nat.le_trans Ic.ok.bsz Ic.sz, fun z => by
      have z' : ce.locals = sc.heap.objs.size := z
      rw [cL, z3] at z'
      exact absurd (Nat.lt_trans lt (z' ▸ big)) (Nat.lt_irrefl _), fun b hb z => by
      have z' : b = ce.locals := z
      rw [List.mem_singleton.mp hb, cL, z3] at z'
      rw [← z'] at big
      exact Nat.lt_irrefl _ big⟩
  obtain ⟨n, sg⟩ := starts Xb [] X.A.in1 [a] (wipe σ (own.map (·.2))) (s4.setGen gn .running) H3 _ _ rfl rfl rfl rfl rfl (Room.in1 hr) gok (Inv.setg I4x rfl) eL4 nL4
    (fun b hb => by rw [List.mem_singleton.mp hb]; exact ⟨lt, oa, ea4, ig.nocell, na4⟩) hsp
  have loop : codeAny (model X.prog X.w) X.A (.compLoop (.ListComp elt [⟨tg, iter, ifs, 0⟩] scope pos) 0 (.ref a) (.ref D) ce) (compPost (model X.prog X.w) X.A X.xe use Qf (.ref D) s3.heap.objs.size) s4 := by
    refine compLoop_any (fun m s => ∃ σ' H gs, Inv Xb [] σ' H s ∧ s.gens[gn]? = some gs ∧ s.heap.get? a = some oa ∧ H a = none ∧
      gs.Goes (model X.prog X.w) X.A.in1 (YEnd G fun _ H' => Q (.ref D) H') (YPr G (yTurn g tt te (own.map (·.2)) D)) m (.send .none) (s.setGen gn .running)) ?_ n ⟨_, H3, .fresh c, I4x, eg4, ea4, na4, rfl, sg⟩
    rintro m s5 ⟨σ5, H5, gs, I5, eg5, ea5, na5, go5⟩
    have lt5 : gn < s5.gens.size := (Array.getElem?_eq_some_iff.mp eg5).1
    refine wpAny_gsz (n := gn + 1) lt5 (next_y (F := YFin G fun _ H' => Q (.ref D) H') (Ic.ok.hd hc) I5.nolimit hr.depth (ig.at ea5) eg5 go5 (fun v s6 k' l' c' p' fs' hy hsz => ?_) fun s6 hend h' hk _ => ?_)
    · obtain ⟨x, σc, H6, kk, ow, rv, I6, ownok, keepok, hy, wake⟩ := hy
      obtain ⟨oa', z1, ea6, na6, ne6, nf6, nc6, _⟩ := keepok a (List.mem_singleton.mpr rfl)
      have e0 : oa' = oa := by
        have z1' : s5.heap.get? a = some oa' := z1
        rw [ea5] at z1'; exact (Option.some.inj z1').symm
      subst e0
      have hlt : gn < s6.gens.size := by
        have q : (s6.setGen gn (.suspended k' l' c' p' fs' false)).gens.size = s6.gens.size := setGen_size _ _ _
        have q2 : gn + 1 ≤ (s6.setGen gn (.suspended k' l' c' p' fs' false)).gens.size := hsz
        omega
      let s7 : Shared := s6.setGen gn (.suspended k' l' c' p' fs' false)
      have I7 : Inv Xb [] σc H6 s7 := Inv.setg I6 rfl
      have ea7 : s7.heap.get? a = some oa' := ea6
      obtain ⟨nm, qn, hd⟩ := ig.data
      show wpAny _ _ (letOwnedTupleGo tg (.ref a) v) _ _ s7
      refine go_of (s := s7) ea7 ig.cls hd (by decide) ?_
      have Ip : Inv Xb ([] ++ (ow ++ [(a, oa')])) σc H6 (poison s7) := by
        refine Inv.poisoned (I7.pins_of fun p hp => ?_)
        rcases List.mem_append.mp hp with z | z
        · simp at z
        · rcases List.mem_append.mp z with z | z
          · obtain ⟨w1, w2, w3, w4, w5, _⟩ := ownok p z
            exact ⟨w1, w2, w3, w4, w5⟩
          · rw [List.mem_singleton.mp z]
            exact ⟨ea7, na6, ne6, nf6, nc6⟩
      refine thnF (wpAny_mono (wpAny_sleep (pg.run _ (poison s7) σc H6 x v _ Ip rv hy)) (fun _ _ z => z) fun _ _ z => (by obtain ⟨_, _, _, z⟩ := z; exact z)) fun _ s8 hs8 => ?_
      obtain ⟨s8', rfl, S8, σ8, H8, I8, q8⟩ := hs8
      refine thnF (wpAny_mono (wpAny_real S8 (pt.run _ s8' σ8 H8 _ I8 q8)) (fun _ _ z => z) fun _ _ z => (by obtain ⟨_, _, _, z⟩ := z; exact z)) fun b s9 hs9 => ?_
      obtain ⟨s9', rfl, S9, H9, I9, q9⟩ := hs9
      have fin : ∀ {s' : Shared} {H' : Hp}, Slp (sleepers s7) s' → Inv Xb ([] ++ (ow ++ [(a, oa')])) σ8 H' s' → kk (wipe σ8 (own.map (·.2))) H' → ∃ m', m' < m ∧ ∃ σ' H gs, Inv Xb [] σ' H (real (sleepers s7) s') ∧ (real (sleepers s7) s').gens[gn]? = some gs ∧ (real (sleepers s7) s').heap.get? a = some oa' ∧ H a = none ∧
          gs.Goes (model X.prog X.w) X.A.in1 (YEnd G fun _ H' => Q (.ref D) H') (YPr G (yTurn g tt te (own.map (·.2)) D)) m' (.send .none) ((real (sleepers s7) s').setGen gn .running) := fun {s' H'} S' I' k' => by
        have J7 : Inv Xb ([] ++ (ow ++ [(a, oa')])) σ8 H' (real (sleepers s7) s') := Inv.realed I' S'
        have J8 : Inv Xb [] (wipe σ8 (own.map (·.2))) H' (real (sleepers s7) s') := (J7.unpinned (pins := [])).weak (wipe_length _ _) fun j v e => (wipe_some e).1
        have pin7 : ∀ p ∈ ow ++ [(a, oa')], (real (sleepers s7) s').heap.get? p.1 = some p.2 ∧ H' p.1 = none := fun p hp => by
          obtain ⟨w1, w2, _⟩ := J7.pin p (List.mem_append_right _ (List.mem_append_right _ hp))
          exact ⟨w1, w2⟩
        obtain ⟨wa1, wa2⟩ := pin7 (a, oa') (List.mem_append_right _ (List.mem_singleton.mpr rfl))
        have lat := wake ((real (sleepers s7) s').setGen gn .running) _ H' (Inv.setg J8 rfl) (fun p hp => pin7 p (List.mem_append_left _ hp)) (fun b hb => by rw [List.mem_singleton.mp hb]; exact ⟨oa', wa1, nc6, wa2⟩) k'
        cases m with
        | zero => exact lat.elim
        | succ m => exact ⟨m, Nat.lt_succ_self m, _, H', _, J8, real_sleeping (s := s7) (setGen_at hlt) S', wa1, wa2, lat⟩
      cases b with
      | false =>
        simp only [Bool.false_eq_true, if_false] at q9 ⊢
        exact fin S9 I9 q9
      | true =>
        simp only [if_true] at q9 ⊢
        refine thnF (wpAny_mono (wpAny_real S9 (pe.run _ s9' σ8 H9 _ I9 q9)) (fun _ _ z => z) fun _ _ z => (by obtain ⟨_, _, _, z⟩ := z; exact z)) fun z s10 hs10 => ?_
        obtain ⟨s10', rfl, S10, yv, H10, I10, r10, acc, hD10, hz10, nx⟩ := hs10
        refine thnF (wpAny_mono (wpAny_real (Q := fun _ s' => Inv Xb ([] ++ (ow ++ [(a, oa')])) σ8 (upd H10 D (.lst (acc ++ [yv]))) s') (E := fun _ _ => False) S10 (app_ok (X := Xb) I10 hD10 hz10 r10 fun s11 I11 => I11)) (fun _ _ z => z) fun _ _ z => (by obtain ⟨_, _, _, z⟩ := z; exact z)) fun _ s11 hs11 => ?_
        obtain ⟨s11', rfl, S11, I11⟩ := hs11
        exact fin S11 I11 nx
    · obtain ⟨σ6, H6, I6, _, q6⟩ := hend
      have J : Inv Xb [] σ6 H6 { s6.setGen gn .finished with heap := h' } := Inv.regen (show Inv Xb [] σ6 H6 { s6 with heap := h' } from I6.kept (t' := s6.toks) hk) (allBare_setGen (s := s6) I6.bare rfl)
      have I8 : Inv X pins σ H6 { s6.setGen gn .finished with heap := h' } := I3.call' (ch := exs) J.os J.base J.hok J.bare fun b hb => by
        obtain ⟨b1, b2⟩ := (exm b).mp hb
        refine ⟨.inr (Nat.le_trans Ic.sz b2), Nat.ne_of_gt (Nat.lt_of_lt_of_le Ic.lt b2), fun x c e z => ?_, fun p hp z => ?_⟩
        · obtain ⟨v, q⟩ := Ic.cell x c e
          have := q.lt
          rw [z] at this
          exact absurd (Nat.lt_of_lt_of_le this b2) (Nat.lt_irrefl _)
        · have := Heap.lt_size (Ic.pin p hp).1
          rw [z] at this
          exact absurd (Nat.lt_of_lt_of_le this b2) (Nat.lt_irrefl _)
      have nC : H6 s3.heap.objs.size = none := by
        have z : H6 ce.locals = none := J.free
        rw [cL] at z
        exact z
      obtain ⟨m', hn, _⟩ := J.loc
      have hn : ({ s6.setGen gn .finished with heap := h' } : Shared).heap.Ns ce.locals m' := hn
      rw [cL] at hn
      exact hRR D s3.heap.objs.size _ m' H6 I8 q6 hn (I3.fpOk (Nat.le_refl _) nC)
  exact codeAny_compStart_list loop (wpAny_pyIter_gen (ig.at ea4) loop)
/-- [elt for target in g(..) if ..] as a value -/
theorem pe_lcY {elt tg iter : Expr} {ifs : List Expr} {scope : Scope} {own : List (Str × Nat)} {pos : Pos} {g : TG} {tt : TT} {te : TE} (hc : X.calm = true) (hN : X.N.Nodup) (hgen : PGenY X k iter sp ta) (hr : Room (k + 2) X.A) (ok : BlkOk X.N X.env.scope scope own) (hnc : ∀ y ∈ scope.names, y.2 ≠ .cell)
    (hg : ∀ (s : Shared) (H : Hp) (C : Addr) (cl : List (Str × Addr)) (fp : List Addr), PG (X.blk s H scope (compEnvC scope cl C X.env) fp) tg g) (ht : ∀ (s : Shared) (H : Hp) (C : Addr) (cl : List (Str × Addr)) (fp : List Addr), PTs (X.blk s H scope (compEnvC scope cl C X.env) fp) ifs tt)
    (he : ∀ (s : Shared) (H : Hp) (C : Addr) (cl : List (Str × Addr)) (fp : List Addr), PE (X.blk s H scope (compEnvC scope cl C X.env) fp) elt te) (hs : ∀ x, foldedSetIterable iter X.env x = pure x := by intro _; rfl) :
    PE X (.ListComp elt [⟨tg, iter, ifs, 0⟩] scope pos) (tLcY sp ta g tt te (own.map (·.2))) := by
  refine ⟨fun pins s σ H Q I h => ?_⟩
  rw [eval_ListComp]
  refine lcY_core hc hN I hgen hr ok hnc hg ht he hs h fun D C s' m H' I' q hn f => ⟨m, hn, fun h'' sb => ?_⟩
  obtain ⟨f0, f1, f2, f3, f4, f5⟩ := f
  exact ⟨.ref D, H', I'.turned (t' := s'.toks) (fun b o hb e => (sb.2 b hb).trans e) f0 f1 f3 f4 f5, rfl, q⟩
end
end Gx

/-! list(g) -/
namespace Gx
open PySem PySem.Spec PyProof.Rows L2 GenW

section
variable {X : Cx} {k : Nat} {sp : SpY} {ta : TA}
def yFill (S : Addr) : YH := fun x σ' H' k => ∃ ys, H' S = some (.lst ys) ∧ ys.length < sizeLine ∧ k σ' (upd H' S (.lst (ys ++ [x])))
/-- one more item on a tracked list -/
theorem filled {pins : List (Addr × Obj)} {σ : L2.St} {H : Hp} {s : Shared} {S : Addr} {ys : List V} {x : V} {v : Value} {its : List Value} {n : Nat} (I : Inv X pins σ H s) (hS : H S = some (.lst ys)) (hz : ys.length < sizeLine) (ri : Vals ys its) (rv : RelV x v)
    (e : s.heap.get? S = some { cls := .type "list", data := .seq its.toArray n }) : Inv X pins σ (upd H S (.lst (ys ++ [x]))) { s with heap := s.heap.update S (Obj.mapSeq (·.push v)) } := by
  have e2 := Heap.get?_update_self (Obj.mapSeq (·.push v)) e rfl
  refine I.write (t' := s.toks) (by rw [hS]; trivial) (.inl rfl) (fun b u hb q => (Heap.get?_update_other _ _ (Ne.symm hb)).trans q) ⟨_, e2⟩ ⟨by rw [List.length_append]; exact hz, its ++ [v], ?_, ri.append (.cons rv .nil), ?_⟩
  rotate_left
  · rw [e2]
    show some ({ cls := .type "list", data := _ } : Obj) = _
    have q : its.toArray.push v = (its ++ [v]).toArray := by simp
    first
      | (rw [← q]; rfl)
      | (simp only [q]; rfl)
theorem drainY {pins : List (Addr × Obj)} {A : Around} {G : GP} {Q : L2.St → Hp → Prop} {R : Result → Shared → Prop} {S a : Addr} {gn : Nat} {oa : Obj} {res : Value} (hG : G.X = X) (hGp : G.pins = pins) (hGk : G.keep = [a]) (ig : IsGenO oa gn)
    (hh : A.handled = none) (hd : A.depth < recursionLimit) (hend : ∀ s' σ H, Inv X pins σ H s' → Q σ H → R (.ok (.ret res)) s') :
    ∀ (m : Nat) (s : Shared) (σ : L2.St) (H : Hp) (gs : GenState), Inv X pins σ H s → s.gens[gn]? = some gs → s.heap.get? a = some oa → H a = none → gs.Goes (model X.prog X.w) A.in1.in1 (YEnd G Q) (YPr G (yFill S)) m (.send .none) (s.setGen gn .running) →
      codeAny (model X.prog X.w) A (.builtin "list.extend.loop" ⟨[.ref S, .ref a, res], []⟩) R s := by
  intro m
  induction m with
  | zero =>
    intro s σ H gs I eg ea na go
    have lt : gn < s.gens.size := (Array.getElem?_eq_some_iff.mp eg).1
    refine codeAny_builtin F.entry_extend_loop ?_
    rw [Around.under_plainId F.plain_extend_loop _]
    refine wpAny_bind (m := pyNext (.ref a)) (next_y (A := A.in1) (F := YFin G Q) hh I.nolimit hd (ig.at ea) eg go (fun v s6 k' l' c' p' fs' hy => ?_) fun s6 he h' hk => ?_)
    · obtain ⟨x, σc, H6, kk, ow, rv, I6, ownok, keepok, ⟨ys, hS, hz, hk⟩, wake⟩ := hy
      rw [hG, hGp] at I6
      rw [hGk] at keepok wake
      obtain ⟨oa', z1, ea6, na6, _, _, nc6, _⟩ := keepok a (List.mem_singleton.mpr rfl)
      obtain ⟨hz', its, n, ri, e⟩ := I6.hok S _ hS
      have neS : ∀ b o, s6.heap.get? b = some o → H6 b = none → b ≠ S := fun b o _ hn z => by rw [z, hS] at hn; cases hn
      have upd_ : ∀ b o, b ≠ S → s6.heap.get? b = some o → (s6.heap.update S (Obj.mapSeq (·.push v))).get? b = some o := fun b o hb q => (Heap.get?_update_other _ _ (Ne.symm hb)).trans q
      have hl := ri.length
      have J : Inv X pins σc (upd H6 S (.lst (ys ++ [x]))) { s6 with heap := s6.heap.update S (Obj.mapSeq (·.push v)) } := filled I6 hS hz ri rv e
      refine (wake ({ s6 with heap := s6.heap.update S (Obj.mapSeq (·.push v)) } : Shared) σc _ (by rw [hG, hGp]; exact J) (fun p hp => ?_) (fun b hb => ?_) hk).elim
      · obtain ⟨w1, w2, _⟩ := ownok p hp
        have ne := neS _ _ w1 w2
        exact ⟨upd_ _ _ ne w1, by rw [upd_ne ne]; exact w2⟩
      · rw [List.mem_singleton.mp hb]
        have ne := neS _ _ ea6 na6
        exact ⟨oa', upd_ _ _ ne ea6, nc6, by rw [upd_ne ne]; exact na6⟩
    · obtain ⟨σ6, H6, I6, _, q6⟩ := he
      rw [hG, hGp] at I6
      exact wpAny_pure (hend _ σ6 H6 (Inv.regen (show Inv X pins σ6 H6 { s6 with heap := h' } from I6.kept (t' := s6.toks) hk) (allBare_setGen (s := s6) I6.bare rfl)) q6)
  | succ m ih =>
    intro s σ H gs I eg ea na go
    have lt : gn < s.gens.size := (Array.getElem?_eq_some_iff.mp eg).1
    refine codeAny_builtin F.entry_extend_loop ?_
    rw [Around.under_plainId F.plain_extend_loop _]
    refine wpAny_bind (m := pyNext (.ref a)) (wpAny_gsz (n := gn + 1) lt (next_y (A := A.in1) (F := YFin G Q) hh I.nolimit hd (ig.at ea) eg go (fun v s6 k' l' c' p' fs' hy hsz => ?_) fun s6 he h' hk _ => ?_))
    · obtain ⟨x, σc, H6, kk, ow, rv, I6, ownok, keepok, ⟨ys, hS, hz, hk⟩, wake⟩ := hy
      rw [hG, hGp] at I6
      rw [hGk] at keepok wake
      obtain ⟨oa', z1, ea6, na6, _, _, nc6, _⟩ := keepok a (List.mem_singleton.mpr rfl)
      have e0 : oa' = oa := by
        have z1' : s.heap.get? a = some oa' := z1
        rw [ea] at z1'; exact (Option.some.inj z1').symm
      subst e0
      have hlt : gn < s6.gens.size := by
        have q : (s6.setGen gn (.suspended k' l' c' p' fs' false)).gens.size = s6.gens.size := setGen_size _ _ _
        have q2 : gn + 1 ≤ (s6.setGen gn (.suspended k' l' c' p' fs' false)).gens.size := hsz
        omega
      obtain ⟨hz', its, n, ri, e⟩ := I6.hok S _ hS
      have neS : ∀ b o, s6.heap.get? b = some o → H6 b = none → b ≠ S := fun b o _ hn z => by rw [z, hS] at hn; cases hn
      have upd_ : ∀ b o, b ≠ S → s6.heap.get? b = some o → (s6.heap.update S (Obj.mapSeq (·.push v))).get? b = some o := fun b o hb q => (Heap.get?_update_other _ _ (Ne.symm hb)).trans q
      have hl := ri.length
      let s7 : Shared := { s6.setGen gn (.suspended k' l' c' p' fs' false) with heap := s6.heap.update S (Obj.mapSeq (·.push v)) }
      have J0 : Inv X pins σc (upd H6 S (.lst (ys ++ [x]))) { s6 with heap := s6.heap.update S (Obj.mapSeq (·.push v)) } := filled I6 hS hz ri rv e
      have J : Inv X pins σc (upd H6 S (.lst (ys ++ [x]))) s7 := Inv.regen J0 (allBare_setGen (s := s6) I6.bare rfl)
      have nea := neS _ _ ea6 na6
      have lat := wake (s7.setGen gn .running) σc _ (by rw [hG, hGp]; exact Inv.setg J rfl) (fun p hp => by
        obtain ⟨w1, w2, _⟩ := ownok p hp
        have ne := neS _ _ w1 w2
        exact ⟨upd_ _ _ ne w1, by rw [upd_ne ne]; exact w2⟩) (fun b hb => by
        rw [List.mem_singleton.mp hb]
        exact ⟨oa', upd_ _ _ nea ea6, nc6, by rw [upd_ne nea]; exact na6⟩) hk
      show wpAny _ A.in1 (updateSeq S (·.push v) >>= _) _ _ _
      refine wpAny_bind (wpAny_updateSeq (s := s6.setGen gn (.suspended k' l' c' p' fs' false)) e rfl (wpAny_pure ⟨plainId_quiet F.plain_extend_loop _, ?_⟩) (by rw [List.size_toArray]; omega) (by show (its.toArray.push v).size ≤ sizeLine + 1; rw [Array.size_push, List.size_toArray]; omega))
      exact ih s7 σc _ _ J (setGen_at hlt) (upd_ _ _ nea ea6) (by rw [upd_ne nea]; exact na6) lat
    · obtain ⟨σ6, H6, I6, _, q6⟩ := he
      rw [hG, hGp] at I6
      exact wpAny_pure (hend _ σ6 H6 (Inv.regen (show Inv X pins σ6 H6 { s6 with heap := h' } from I6.kept (t' := s6.toks) hk) (allBare_setGen (s := s6) I6.bare rfl)) q6)

/-- list(g(..)) -/
def tListY (sp : SpY) (ta : TA) : TE := fun σ H Q => ta σ H fun vs H1 => (∃ Hx Y Q' σ', sp vs Hx Y Q' σ') ∧ ∀ S, H1 S = none → sp vs (upd H1 S (.lst [])) (yFill S) (fun σ' H' => σ' = σ ∧ Q (.ref S) H') σ
theorem pe_listY {e : Expr} {nm : Str} {p pos : Pos} (hc : X.calm = true) (hgen : PGenY X k e sp ta) (hr : Room (k + 4) X.A) (hg : Gl X nm) (hmg : X.mg nm = none) (hv : bootBuiltins nm = some (.type "list")) (hnm : nm ≠ "__name__" := by decide) (hdb : (nm == ("__debug__" : Str)) = false := by decide)
    (he : starEach [e] X.env = (false, eval e X.env) :: starEach [] X.env := by rfl) : PE X (.Call (.Name nm p) [e] [] pos) (tListY sp ta) := by
  refine ⟨fun pins s σ H Q I hq => ?_⟩
  refine wpAny_Call_Name_kw (ld_blt I hg hmg hv ?_ hnm hdb)
  refine PyProof.Rows.callWith_type1 ?_ he rfl
  rw [he]
  show wpAny _ _ (spliced ((false, eval e X.env) :: backTo pos (starEach [] X.env))) _ _ s
  refine Calls.spliced_cons (thn (hgen.run pins s σ H _ (fun _ _ z => z.1) I hq) fun u s1 hu => ?_)
  refine Calls.spliced_nil ?_
  obtain ⟨us, H1, ⟨_, hsp⟩, sc, Ic, N, qual, gscope, f, cd, a, gn, c, oL, oa, rfl, lt, eL, ea, ncL, ig, eg, eos, bare, kept, kind, nd, plain, starts⟩ := hu
  have I1 : Inv X pins σ H1 s1 := Ic.call' (ch := []) eos (Un.kept kept) (Ic.hok.kept kept) bare fun b z => by simp at z
  have nL : H1 sc.heap.objs.size = none := Ic.hok.fresh (Nat.le_refl _)
  have na : H1 a = none := Ic.hok.fresh (Nat.le_of_lt lt)
  have lta : a < s1.heap.objs.size := Heap.lt_size ea
  have ltL : sc.heap.objs.size < s1.heap.objs.size := Nat.lt_trans lt lta
  have nS : H1 s1.heap.objs.size = none := I1.hok.fresh (Nat.le_refl _)
  have hsp := hsp _ nS
  have hSa : s1.heap.objs.size ≠ a := Nat.ne_of_gt lta
  refine callType_codes (Q₁ := fun obj s₁ => obj = .ref s1.heap.objs.size ∧ s₁ = { s1 with heap := s1.heap.push { cls := .type "list", data := .seq #[] } }) F.called_list (F.typeCall_list_1 _) F.entry_list_init
    (code_list_new _ ⟨rfl, rfl⟩) fun obj s₁ h₁ => ?_
  obtain ⟨rfl, rfl⟩ := h₁
  have g1 : (s1.heap.push { cls := .type "list", data := .seq #[] }).get? s1.heap.objs.size = some { cls := .type "list", data := .seq #[] } := Heap.get?_push_size _ rfl
  refine ⟨⟨_, g1, rfl⟩, F.args_list_init_2 _ _, ?_⟩
  show wpAny _ X.A.in1.in1 (do let old ← Builtin.List.listItems (.ref s1.heap.objs.size); Builtin.List.listUpdate (.ref s1.heap.objs.size) (fun _ => #[]); letGo old.toList.reverse; Builtin.List.listExtendWith (.ref s1.heap.objs.size) (.ref a) .none) _ _ _
  refine wpAny_bind ?_
  unfold Builtin.List.listItems
  refine wpAny_bind (wpAny_seqItems g1 rfl (wpAny_pure ?_))
  show wpAny _ X.A.in1.in1 (updateSeq s1.heap.objs.size (fun _ => #[]) >>= fun _ => letGo (#[] : Array Value).toList.reverse >>= fun _ => Builtin.List.listExtendWith (.ref s1.heap.objs.size) (.ref a) .none) _ _ _
  refine wpAny_bind (wpAny_updateSeq g1 rfl ?_)
  have g2 := Heap.get?_update_self (Obj.mapSeq (fun _ => (#[] : Array Value))) g1 rfl
  refine wpAny_bind (wpAny_letGo ?_)
  unfold Builtin.List.listExtendWith
  have up : ∀ (h : Heap) (f : Obj → Obj), (∀ b o, s1.heap.get? b = some o → h.get? b = some o) → ∀ b o, s1.heap.get? b = some o → (h.update s1.heap.objs.size f).get? b = some o := fun h f q b o e =>
    (Heap.get?_update_other _ _ (Ne.symm (Nat.ne_of_lt (Heap.lt_size e)))).trans (q b o e)
  have k1 : ∀ b o, s1.heap.get? b = some o → (s1.heap.push { cls := .type "list", data := .seq #[] }).get? b = some o := fun b o e => Heap.get?_push_of_some _ e
  have k2 := up _ (Obj.mapSeq (fun _ => (#[] : Array Value))) k1
  have gty : ∀ {h : Heap}, (∀ b o, s1.heap.get? b = some o → h.get? b = some o) → h.IsGen a gn := fun {h} q => ig.at (q a oa ea)
  refine wpAny_bind (wpAny_typeOf (Heap.IsGen.typeIs (s := { s1 with heap := _ }) (gty k2)) ?_)
  have h1 : Builtin.List.listSameRef (.ref s1.heap.objs.size) (.ref a) = false := by simp [Builtin.List.listSameRef, hSa]
  have h2 : (Value.type "generator" == Value.type "list") = false := by decide
  have h3 : (Value.type "generator" == Value.type "tuple") = false := by decide
  simp only [h1, h2, h3, Bool.or_false, Bool.false_eq_true, if_false]
  refine wpAny_bind (wpAny_pyIter_gen (s := { s1 with heap := _ }) (gty k2) ?_)
  refine wpAny_bind (wpAny_holding ?_)
  unfold Builtin.List.listLengthHint
  refine wpAny_bind (wpAny_specialOf (Heap.IsGen.typeIs (s := { s1 with heap := _ }) (gty k2)) F.gen_no_len ?_)
  show wpAny _ X.A.in1.in1 (specialOf (Value.ref a) (Str.ofString "__length_hint__") >>= _) _ _ _
  refine wpAny_bind (wpAny_specialOf (Heap.IsGen.typeIs (s := { s1 with heap := _ }) (gty k2)) F.gen_no_hint ?_)
  refine wpAny_pure ?_
  show wpAny _ X.A.in1.in1 (rule "list.extend.makes-room" >>= fun _ => Builtin.List.listTouch (.ref s1.heap.objs.size) >>= fun _ =>
    again (.builtin "list.extend.loop" ⟨[.ref s1.heap.objs.size, .ref a, .none], []⟩)) _ _ _
  refine wpAny_bind (wpAny_rule ?_)
  refine wpAny_bind ?_
  show wpAny _ X.A.in1.in1 (updateSeq s1.heap.objs.size (·.push .none) >>= fun _ => updateSeq s1.heap.objs.size (·.pop)) _ _ _
  refine wpAny_bind (wpAny_updateSeq g2 rfl ?_)
  have g3 := Heap.get?_update_self (Obj.mapSeq (·.push Value.none)) g2 rfl
  refine wpAny_updateSeq (hz := by seq_fits) g3 rfl ?_
  have g4 := Heap.get?_update_self (Obj.mapSeq (·.pop)) g3 rfl
  have k4 := up _ (Obj.mapSeq (·.pop)) (up _ (Obj.mapSeq (·.push Value.none)) k2)
  refine wpAny_pure ⟨plainId_quiet F.plain_extend_loop _, ?_⟩
  have hfr : X.A.in1.in1.in1.frames = some X.stack := Ic.ok.frames
  have hh : X.A.in1.in1.in1.handled = none := Ic.ok.hd hc
  let G : GP := ⟨X, pins, N, qual, gscope, f, cd, X.A.in1.in1.in1, sc.heap.objs.size, [a]⟩
  have gok : GOk G := gok_of Ic hc hfr hh kind nd plain fun b hb => by rw [List.mem_singleton.mp hb]; exact Nat.le_of_lt lt
  have I4 : Inv X pins σ (upd H1 s1.heap.objs.size (.lst [])) { s1 with heap := _ } := I1.laid (t' := s1.toks) k4 (Nat.le_refl _) ⟨Nat.zero_le _, [], _, .nil, g4⟩
  have naS : upd H1 s1.heap.objs.size (.lst []) a = none := by rw [upd_ne (Ne.symm hSa)]; exact na
  have nLS : upd H1 s1.heap.objs.size (.lst []) sc.heap.objs.size = none := by rw [upd_ne (Nat.ne_of_lt ltL)]; exact nL
  obtain ⟨n, sg⟩ := starts X pins X.A.in1.in1.in1 [a] σ (Shared.setGen { s1 with heap := _ } gn .running) _ _ (fun σ' H' => σ' = σ ∧ Q (.ref s1.heap.objs.size) H') rfl rfl rfl rfl rfl
    ⟨hr.hd, by have := hr.dp; show X.A.depth + 3 * (k + 1) + 5 < _; omega, by have := hr.un; show X.A.units + 1 + 1 + 1 + 16 * (k + 1) + 200 < _; omega⟩ gok (Inv.setg I4 rfl) (k4 _ _ eL) nLS
    (fun b hb => by rw [List.mem_singleton.mp hb]; exact ⟨lt, oa, k4 _ _ ea, ig.nocell, naS⟩) hsp
  exact drainY (G := G) (A := X.A.in1) rfl rfl rfl ig hr.hd (by have := hr.dp; show X.A.depth < _; omega) (fun s' σ' H' I' q => ⟨rfl, .ref s1.heap.objs.size, H', by rw [← q.1]; exact I', rfl, q.2⟩) n _ σ _ (.fresh c) I4 eg (k4 _ _ ea) naS ⟨rfl, sg⟩
end
end Gx

/-! sorted(xs, key=..): keys that are tuples of whole numbers, all of one length (the empty one too) -/
namespace Gx
open PySem PySem.Spec PyProof.Rows L2 PySem.W

section
variable {prog : Program} {w : World} {A : Around} {s : Shared}
def rowD (l : List Int) : PyData := .tuple (l.map .int)
theorem rows_alike {kz : List (List Int)} : AllAlike (kz.map rowD) := fun d hd d' hd' => by
  obtain ⟨x, _, rfl⟩ := List.mem_map.mp hd
  obtain ⟨y, _, rfl⟩ := List.mem_map.mp hd'
  unfold rowD
  simp only [alike]
  exact alike_ints x y
theorem rowD_depth (l : List Int) : (rowD l).depth = 1 := by
  unfold rowD
  rw [PyData.depth, depth_ints]
theorem sortsAt_nils {vs : List Value} {kz : List (List Int)} (h0 : ∀ k ∈ kz, k = []) (e : EachIs (fun v d => ∃ as, Reads s.heap v d as) vs (kz.map rowD)) (hu : A.units + 1 < cLine) : SortsAt prog w A s (dataKind s.heap (kz.map rowD)) vs := by
  have hal : AllAlike (kz.map rowD) := rows_alike
  have nil_of : ∀ d ∈ kz.map rowD, d = .tuple [] := fun d hd => by
    obtain ⟨k, hk, rfl⟩ := List.mem_map.mp hd
    rw [h0 k hk]; rfl
  refine ⟨fun v hv => ?_, oneType', ?_, fun h2 E Q hq => ?_⟩
  · obtain ⟨d, hd, as, r⟩ := e.left v hv
    exact ⟨_, dataKind_some hal hd r⟩
  · intro E x y a b Q ha hb hq
    obtain ⟨d, as, hd, ra, rfl⟩ := dataKind_inv ha
    obtain ⟨d', as', hd', rb, rfl⟩ := dataKind_inv hb
    rw [keyLt'_oneType, oneLt'_eq]
    have hq' : Q (dataLt d d') s := hq
    rw [nil_of d hd] at ra hq'
    rw [nil_of d' hd'] at rb hq'
    cases ra with
    | @tuple l o xs n _ _ h1 h2 h3 h4 =>
      cases rb with
      | @tuple l' o' xs' n' _ _ k1 k2 k3 k4 =>
        have n1 : xs.size = 0 := by simpa using PySem.SeqAt.ReadsAll.length _ _ _ h4
        have n2 : xs'.size = 0 := by simpa using PySem.SeqAt.ReadsAll.length _ _ _ k4
        have hf : dataLt (.tuple []) (.tuple []) = false := by
          rw [dataLt_tuple]; exact lex_irrefl _
        rw [hf] at hq'
        simp only [if_true]
        refine wpAny_bind (wpAny_cRoomFor (by omega) ?_)
        obtain ⟨cls, dd, data, sl⟩ := o
        obtain ⟨cls2, dd2, data2, sl2⟩ := o'
        simp only at h2 h3 k2 k3
        subst h2 h3 k2 k3
        refine wpAny_bind (wpAny_callSpecialIfBound?_slot (T := "tuple") ⟨_, h1, rfl⟩ F.slot_tuple_lt (call_meets F.slot_tuple_lt ⟨_, h1, rfl⟩ F.entry_tuple_lt (F.args_tuple_lt_2 _ _)
          (PySem.SeqAt.tuple_ltAt l l' xs xs' n n' dd dd2 sl sl2 (fun _ => false) (fun _ => false)) ⟨h1, k1, fun j j1 _ => absurd j1 (by omega), fun j j1 _ => absurd j1 (by omega), ?_⟩))
        rw [n1, n2]
        exact wpAny_truthy_bool hq'
  · rw [keyKind'_eq, List.mapM_toArray, map_eq_pure_bind]
    have tupAt : ∀ v ∈ vs, ∃ a o items n, v = .ref a ∧ s.heap.get? a = some o ∧ o.cls = .type "tuple" ∧ o.data = .seq items n ∧ items.size = 0 := fun v hv => by
      obtain ⟨d, hd, as, r⟩ := e.left v hv
      rw [nil_of d hd] at r
      cases r with
      | @tuple l o xs n _ _ h1 h2 h3 h4 =>
        exact ⟨l, o, xs, n, rfl, h1, h2, h3, by simpa using PySem.SeqAt.ReadsAll.length _ _ _ h4⟩
    refine wpAny_bind (wpAny_bind (kas_mapM (r := none) _ (fun v hv Q' hq => ?_) (wpAny_pure ?_)))
    · obtain ⟨a, o, items, n, rfl, h1, h2, h3, h4⟩ := tupAt v hv
      rw [kas_first_eq]
      refine wpAny_bind (Looks.here (show Looks _ s.heap (typeOf (.ref a)) o.cls from (Looks.ld h1).andThen .now) ?_)
      rw [h2, if_neg (by first | decide | simp)]
      refine wpAny_bind (listItems_at h1 h3 (wpAny_pure ?_))
      rw [Array.getElem?_eq_none (by omega)]
      exact hq
    · have hne : vs ≠ [] := fun z => by rw [z] at h2; simp at h2
      rw [if_neg (by
        cases vs with
        | nil => exact absurd rfl hne
        | cons v r => simp), if_neg (by
        cases vs with
        | nil => exact absurd rfl hne
        | cons v r => simp)]
      rw [oneTypeOnly'_eq, List.mapM_toArray, map_eq_pure_bind]
      refine wpAny_bind (wpAny_bind (wpAny_bind (kas_mapM (r := Value.type "tuple") _ (fun v hv Q' hq => ?_) (wpAny_pure ?_))))
      · obtain ⟨a, o, items, n, rfl, h1, h2, h3, h4⟩ := tupAt v hv
        refine Looks.here (show Looks _ s.heap (typeOf (.ref a)) o.cls from (Looks.ld h1).andThen .now) ?_
        rw [h2]; exact hq
      · cases vs with
        | nil => exact absurd rfl hne
        | cons v r =>
          have hall : ((List.map (fun _ => Value.type "tuple") (v :: r)).toArray.all fun x => x == Value.type "tuple") = true := by
            simp only [List.all_toArray, List.all_map, List.all_eq_true]
            intro _ _
            first | rfl | decide
          have h0 : (List.map (fun _ => Value.type "tuple") (v :: r)).toArray[0]? = some (Value.type "tuple") := by simp
          rw [h0]
          simp only [hall, if_true]
          exact wpAny_pure (wpAny_pure hq)
/-- keys that are tuples of whole numbers, all of one length -/
theorem sortsAt_rows {vs : List Value} {kz : List (List Int)} {d : Nat} (hd : ∀ k ∈ kz, k.length = d) (e : EachIs (fun v d => ∃ as, Reads s.heap v d as) vs (kz.map rowD)) (hu : A.units + 1 < cLine) : SortsAt prog w A s (dataKind s.heap (kz.map rowD)) vs := by
  cases d with
  | zero => exact sortsAt_nils (fun k hk => List.length_eq_zero_iff.mp (hd k hk)) e hu
  | succ d =>
    refine SortsAt.data e rows_alike (.inl fun q hq => ?_) fun q hq => ?_
    · obtain ⟨k, hk, rfl⟩ := List.mem_map.mp hq
      cases k with
      | nil => exact absurd (hd _ hk) (by simp)
      | cons x r => exact ⟨.int x, r.map .int, rfl⟩
    · obtain ⟨k, hk, rfl⟩ := List.mem_map.mp hq
      rw [rowD_depth]; exact hu
/-- the order of the keys: that of lists of numbers -/
theorem dataLe_keys {β : Type} (k : β → List Int) : dataLe false (fun b => rowD (k b)) = fun p q => decide (k p ≤ k q) := by
  funext p q
  show (!dataLt (.tuple ((k q).map .int)) (.tuple ((k p).map .int))) = _
  rw [dataLt_tuple]
  show (!rowLt ((k q).map .int) ((k p).map .int)) = _
  rw [dataLt_ints]
  by_cases h : k q < k p
  · have h' : ¬ k p ≤ k q := fun r => List.not_lt.mpr r h
    simp [h, h']
  · have h' : k p ≤ k q := List.not_lt.mp h
    simp [h, h']
end

section
variable {X : Cx} {pins : List (Addr × Obj)} {σ : L2.St} {H : Hp} {s : Shared} {h' : Heap}
/-- untracked objects of ours have changed; one of them is known from now on -/
theorem Inv.adopt {t' : Nat} {ch : List Addr} {a : Addr} {o : HO} (I : Inv X pins σ H s) (k : ∀ b u, b ∉ ch → s.heap.get? b = some u → h'.get? b = some u) (hf : ∀ b ∈ ch, FpOk X pins H b) (ha : a ∈ ch)
    (new : ObjOk X.prog X.w (upd H a o) h' a o) : Inv X pins σ (upd H a o) { s with heap := h', toks := t' } := by
  have hn : H a = none := (hf a ha).1
  have nit : ∀ b u, H b = some u → b ∉ ch := fun b u e z => by
    have q := (hf b z).1
    rw [q] at e; cases e
  refine I.step (g' := s.gens) (d' := s.drawn) (ch := ch) (fun b hb => ⟨(hf b hb).2.2.2.1, (hf b hb).2.1, (hf b hb).2.2.2.2.1, (hf b hb).2.2.2.2.2⟩) (fun b o _ _ hc e _ => k b o hc e) (fun b o _ _ hc e _ => ⟨o.slots, k b o hc e⟩)
    (fun b o hc e n => ?_) (fun b o hc e => ⟨o, k b o hc e⟩) (fun b xs e => ?_) (fun b o u e => ?_) (fun b ps e => ⟨#[], ?_⟩) (fun m hm => ?_) (fun b u e => ?_) I.bare
  · rw [upd_ne (fun z => hc (by rw [z]; exact ha))]; exact n
  · rw [upd_ne (ne_of_none e hn)]; exact e
  · rw [upd_ne (ne_of_none e hn)]; exact e
  · rw [upd_ne (ne_of_none e hn), e]; simp
  · obtain ⟨o, es, ep, ho, r⟩ := hm
    exact ⟨o, es, ep, k _ o (fun z => (hf _ z).2.1 rfl) ho, r⟩
  · by_cases hb : b = a
    · subst hb
      rw [upd_same] at e
      cases e
      exact new
    · rw [upd_ne hb] at e
      refine (I.hok b u e).stay (fun c v hc q => k c v ?_ q) (fun c q => by rw [upd_ne (ne_of_none q hn)]; exact q) fun c xs q => by rw [upd_ne (ne_of_none q hn)]; exact q
      rcases hc with z | z
      · rw [z]; exact nit b u e
      · exact nit c _ z
/-- the heap without the object at a -/
def hole (h : Heap) (a : Addr) : Heap := { h with objs := h.objs.setIfInBounds a { cls := .none, data := .freed } }
theorem hole_self {h : Heap} {a : Addr} : (hole h a).get? a = none := by
  unfold hole Heap.get?
  simp only [Array.getElem?_setIfInBounds_self]
  by_cases hlt : a < h.objs.size
  · simp [hlt]
  · simp [hlt]
theorem hole_ne {h : Heap} {a b : Addr} (hb : b ≠ a) : (hole h a).get? b = h.get? b := by
  unfold hole Heap.get?
  simp only [Array.getElem?_setIfInBounds_ne (Ne.symm hb)]
theorem vals_each : ∀ {xs : List V} {vs : List Value}, Vals xs vs → EachIs (fun v x => RelV x v) vs xs
  | _, _, .nil => .nil
  | _, _, .cons r t => .cons r (vals_each t)
theorem each_vals : ∀ {xs : List V} {vs : List Value}, EachIs (fun v x => RelV x v) vs xs → Vals xs vs
  | _, _, .nil => .nil
  | _, _, .cons r t => .cons r (each_vals t)
theorem pin_fp {p : Addr × Obj} (I : Inv X pins σ H s) (hp : p ∈ X.pn ++ pins) (h0 : X.s_0.heap.objs.size ≤ p.1) (hc : ∀ v, p.2.data ≠ .cell v) {pins' : List (Addr × Obj)} (hn : ∀ q ∈ X.pn ++ pins', q.1 ≠ p.1) : FpOk X pins' H p.1 := by
  obtain ⟨e, n, ne, nf, d⟩ := I.pin p hp
  refine ⟨n, ne, nf, .inr h0, fun x c ec z => ?_, hn⟩
  obtain ⟨v, o, ho, hd⟩ := I.cell x c ec
  rw [z, e] at ho
  cases ho
  exact hc v hd
end

theorem vals_readsAll {h : Heap} : ∀ {ns : List Int} {vs : List Value}, Vals (ns.map V.int) vs → ReadsAll h vs (ns.map .int) []
  | [], _, r => by
    cases r
    exact .nil
  | n :: ns, _, r => by
    cases r with
    | cons q t =>
      obtain ⟨tk, rfl⟩ := q
      exact ReadsAll.cons (as := []) (bs := []) (.int n tk) (vals_readsAll t)
section
variable {X : Cx} {pins : List (Addr × Obj)} {σ : L2.St} {H : Hp} {s : Shared}
theorem row_reads {t : Addr} {ns : List Int} (I : Inv X pins σ H s) (e : H t = some (.tup (ns.map V.int))) : Reads s.heap (.ref t) (rowD ns) [] := by
  obtain ⟨its, r, ⟨o, ho, hc, n, hd⟩, _⟩ := I.tuple (SqT.of e)
  exact .tuple ho hc hd (by simpa using vals_readsAll r)

/-- what a call of the key function gives -/
def KeyEnds (X : Cx) (pins : List (Addr × Obj)) (σ : L2.St) (H : Hp) (k : List Int) : Value → Shared → Prop := fun u s' => ∃ t H', u = .ref t ∧ Inv X pins σ H' s' ∧ H' t = some (.tup (k.map V.int)) ∧ L2.Ext H H'
/-- the key function's promise, wherever it stands while the list is sorted -/
def KeyTurn (X : Cx) (A : Around) (pins : List (Addr × Obj)) (σ : L2.St) (H : Hp) (f : Value) (xs : List V) (k : V → List Int) : Prop :=
  ∀ (pins' : List (Addr × Obj)) (s' : Shared) (H' : Hp) (x : V) (v : Value), x ∈ xs → RelV x v → (∀ p ∈ pins, p ∈ pins') → Inv X pins' σ H' s' → L2.Ext H H' → wpAny (model X.prog X.w) A (call f [v]) (KeyEnds X pins' σ H' (k x)) (fun _ _ => False) s'

theorem keyI_rest {A : Around} {P : PySem.Fin → Shared → Prop} {E : Value → Shared → Prop} {f : Value} {a kS : Addr} {e1 : Nat} {vs : List Value} {xs : List V} {k : V → List Int} {d : Nat} (I : Inv X (pins ++ [(a, seqObj "list" #[] e1)]) σ H s)
    (nk : s.heap.get? kS = some (seqObj "list" #[] 0)) (fk : FpOk X (pins ++ [(a, seqObj "list" #[] e1)]) H kS) (ha0 : X.s_0.heap.objs.size ≤ a) (hk0 : X.s_0.heap.objs.size ≤ kS) (han : ∀ q ∈ X.pn ++ pins, q.1 ≠ a) (r : Vals xs vs) (hZ : vs.length ≤ sizeLine) (hd : ∀ x ∈ xs, (k x).length = d) (hu : A.units + 1 < cLine)
    (turn : KeyTurn X A pins σ H f xs k)
    (h : ∀ (s' : Shared) (H' : Hp), Inv X pins σ (upd H' a (.lst (xs.mergeSort fun p q => decide (k p ≤ k q)))) s' → L2.Ext H H' → H' a = none → P (.done (.ret .none)) s') :
    wpAny (model X.prog X.w) A (ksk_rest a f false vs.toArray e1 (.ref kS)) P E s := by
  have hlen := r.length
  unfold ksk_rest
  refine wpAny_bind (wpAny_rule ?_)
  first
    | rw [List.forIn_toArray]
    | (rw [← Array.forIn_toList]; simp only [List.toList_toArray])
    | rw [← Array.forIn_toList]
  refine wpAny_bind (ksk_fold (fun i s' => ∃ H' kA e, Inv X (pins ++ [(a, seqObj "list" #[] e1), (kS, seqObj "list" kA e)]) σ H' s' ∧ L2.Ext H H' ∧ EachIs (fun v x => ∃ t, v = .ref t ∧ H' t = some (.tup ((k x).map V.int))) kA.toList (xs.take i)) vs 0 s
    ⟨H, #[], 0, I.pins_of fun p hp => ?_, fun _ _ e => e, by rw [List.take_zero]; exact EachIs.nil⟩ ?step ?done)
  · rcases List.mem_append.mp hp with z | z
    · exact I.pin p (List.mem_append_right _ (List.mem_append_left _ z))
    · rcases List.mem_cons.mp z with z | z
      · rw [z]; exact I.pin _ (List.mem_append_right _ (List.mem_append_right _ (List.mem_singleton.mpr rfl)))
      · rw [List.mem_singleton.mp z]
        exact ⟨nk, fk.1, fk.2.1, fk.2.2.1, fun v z => by cases z⟩
  case step =>
    rintro j v s' hv ⟨H', kA, e, I', ext, hk⟩
    simp only [Nat.zero_add] at hk ⊢
    have hj : j < vs.length := (List.getElem?_eq_some_iff.mp hv).1
    obtain ⟨x, hx⟩ : ∃ x, xs[j]? = some x := ⟨_, List.getElem?_eq_getElem (by omega)⟩
    obtain ⟨v', hv', rv⟩ := r.get hx
    rw [hv] at hv'
    cases hv'
    have hz : kA.size ≤ vs.length := by
      have h1 := hk.length
      rw [Array.length_toList, List.length_take] at h1
      omega
    refine wpAny_bind (wpAny_attempt (wpAny_mono (turn _ s' H' x v (List.mem_of_getElem? hx) rv (fun p hp => List.mem_append_left _ hp) I' ext) (fun u s'' he => ?_) fun _ _ hF => hF.elim))
    obtain ⟨t, H'', rfl, I'', ht, ext'⟩ := he
    try dsimp only
    have pa := I''.pin (a, seqObj "list" #[] e1) (List.mem_append_right _ (List.mem_append_right _ List.mem_cons_self))
    have pk := I''.pin (kS, seqObj "list" kA e) (List.mem_append_right _ (List.mem_append_right _ (List.mem_cons_of_mem _ (List.mem_singleton.mpr rfl))))
    have nk2 : s''.heap.get? kS = some (seqObj "list" kA e) := pk.1
    have s1 := Heap.SameBut.update s''.heap kS (Obj.mapSeq (·.push (.ref t)))
    obtain ⟨c2, hc2⟩ : ∃ c2, (s''.heap.update kS (Obj.mapSeq (·.push (.ref t)))).get? kS = some (seqObj "list" (kA.push (.ref t)) c2) := ⟨_, get?_update_seq nk2 (·.push (.ref t))⟩
    have hka : kS ≠ a := fun z => fk.2.2.2.2.2 (a, seqObj "list" #[] e1) (List.mem_append_right _ (List.mem_append_right _ (List.mem_singleton.mpr rfl))) z.symm
    refine wpAny_bind (listUpdate_at nk2 rfl ?_ (Nat.le_trans hz hZ) (Nat.le_trans (Nat.le_of_eq (Array.size_push ..)) (Nat.succ_le_succ (Nat.le_trans hz hZ))))
    have Ib : Inv X (pins ++ [(a, seqObj "list" #[] e1)]) σ H'' s'' := I''.pins_of fun p hp => by
      rcases List.mem_append.mp hp with z | z
      · exact I''.pin p (List.mem_append_right _ (List.mem_append_left _ z))
      · rw [List.mem_singleton.mp z]; exact pa
    have It : Inv X (pins ++ [(a, seqObj "list" #[] e1)]) σ H'' { s'' with heap := s''.heap.update kS (Obj.mapSeq (·.push (.ref t))) } :=
      Ib.turned (t' := s''.toks) (it := kS) (fun b o hb q => (s1.2 b hb).trans q) pk.2.1 pk.2.2.1 (.inr hk0) fk.2.2.2.2.1 fk.2.2.2.2.2
    refine wpAny_pure ⟨rfl, H'', kA.push (.ref t), c2, It.pins_of fun p hp => ?_, fun b o q => ext' b o (ext b o q), ?_⟩
    · rcases List.mem_append.mp hp with z | z
      · exact It.pin p (List.mem_append_right _ (List.mem_append_left _ z))
      · rcases List.mem_cons.mp z with z | z
        · rw [z]; exact It.pin _ (List.mem_append_right _ (List.mem_append_right _ (List.mem_singleton.mpr rfl)))
        · rw [List.mem_singleton.mp z]
          exact ⟨hc2, pk.2.1, pk.2.2.1, pk.2.2.2.1, fun v z => by cases z⟩
    · have ek : xs.take (j + 1) = xs.take j ++ [x] := by rw [List.take_add_one, hx]; simp
      have ea : (kA.push (Value.ref t)).toList = kA.toList ++ [.ref t] := by simp
      rw [ea, ek]
      refine each_snoc (R := fun (v : Value) (x : V) => ∃ t, v = .ref t ∧ H'' t = some (.tup ((k x).map V.int))) ⟨t, rfl, ht⟩ (hk.mono fun v x q => ?_)
      obtain ⟨t', e1, e2⟩ := q
      exact ⟨t', e1, ext' _ _ e2⟩
  case done =>
    rintro s' ⟨H', kA, e, I', ext, hk⟩
    have e3 : xs.take (0 + vs.length) = xs := List.take_of_length_le (by omega)
    rw [e3] at hk
    have hsz : kA.size = vs.length := by
      have h1 := hk.length
      rw [Array.length_toList] at h1
      omega
    have pa := I'.pin (a, seqObj "list" #[] e1) (List.mem_append_right _ (List.mem_append_right _ List.mem_cons_self))
    have pk := I'.pin (kS, seqObj "list" kA e) (List.mem_append_right _ (List.mem_append_right _ (List.mem_cons_of_mem _ (List.mem_singleton.mpr rfl))))
    have hka : kS ≠ a := fun z => fk.2.2.2.2.2 (a, seqObj "list" #[] e1) (List.mem_append_right _ (List.mem_append_right _ (List.mem_singleton.mpr rfl))) z.symm
    try dsimp only
    refine wpAny_bind (listItems_at pk.1 rfl ?_)
    have hR : EachIs (fun v d => ∃ as, Reads s'.heap v d as) kA.toList ((xs.map k).map rowD) := by
      rw [List.map_map]
      exact each_map (R := fun v d => ∃ as, Reads s'.heap v d as) (rowD ∘ k) (hk.mono fun v x ⟨t, e1, e2⟩ => ⟨[], by rw [e1]; exact row_reads I' e2⟩)
    have S : SortsAt X.prog X.w A s' (dataKind s'.heap ((xs.map k).map rowD)) kA.toList := sortsAt_rows (d := d) (fun q hq => by
      obtain ⟨x, hx, rfl⟩ := List.mem_map.mp hq
      exact hd x hx) hR hu
    refine keyH_end (h₁ := hole s'.heap kS) (b := false) (fun b o _ q => by
      by_cases hb : b = kS
      · rw [hb, hole_self] at q; cases q
      · rw [hole_ne hb] at q; exact q) hole_self pk.1 pa.1 hka S hsz hZ fun h3 tk3 c k3 n3 => ?_
    have ko : KeyedOut false (xs.map fun x => rowD (k x)) vs (sortVals (dataKind s'.heap ((xs.map k).map rowD)) false kA.toList vs) := by
      have e0 : (xs.map fun x => rowD (k x)) = (xs.map k).map rowD := by rw [List.map_map]; rfl
      rw [e0]
      exact ⟨s'.heap, kA.toList, rows_alike, rfl, hR⟩
    have out := keyedOut_each (fun x => rowD (k x)) ko (vals_each r)
    rw [dataLe_keys] at out
    have outV := each_vals out
    have fa : FpOk X pins H' a := pin_fp I' (p := (a, seqObj "list" #[] e1)) (List.mem_append_right _ (List.mem_append_right _ List.mem_cons_self)) ha0 (fun v z => by cases z) han
    have fkk : FpOk X pins H' kS := pin_fp I' (p := (kS, seqObj "list" kA e)) (List.mem_append_right _ (List.mem_append_right _ (List.mem_cons_of_mem _ (List.mem_singleton.mpr rfl)))) hk0 (fun v z => by cases z) fun q hq =>
      fk.2.2.2.2.2 q ((List.mem_append.mp hq).elim (fun z => List.mem_append_left _ z) fun z => List.mem_append_right _ (List.mem_append_left _ z))
    have I2 : Inv X pins σ H' s' := I'.unpinned
    refine h _ H' (Inv.adopt (ch := [a, kS]) I2 (fun b o hb q => k3 b o (fun z => hb (by simp [z])) (by rw [hole_ne fun z => hb (by simp [z])]; exact q)) (fun b hb => ?_) (by simp) ?_) ext pa.2.1
    · rcases List.mem_cons.mp hb with z | z
      · rw [z]; exact fa
      · rw [List.mem_singleton.mp z]; exact fkk
    · refine ⟨?_, _, c, outV, n3⟩
      rw [outV.length, sortVals_length false (by rw [Array.length_toList]; exact hsz)]
      exact hZ
end
end Gx

/-! sorted(xs, key=lambda x: ..), the lambda with captured names -/
namespace Gx
open PySem PySem.Spec PyProof.Rows L2 PySem.W LamX NdefX

section
variable {X : Cx} {pins : List (Addr × Obj)} {σ : L2.St} {H : Hp} {s : Shared}
theorem push_size (h : Heap) (o : Obj) : (h.push o).objs.size = h.objs.size + 1 := size_push' ..
/-- sorted(l, key=f), l a list or a tuple -/
theorem sortedI {l q : Addr} {xs : List V} {k : V → List Int} {d : Nat} {Q : VK} {E : Value → Shared → Prop} (I : Inv X pins σ H s) (hl : SqL X.K H l xs ∨ SqT X.K H l xs) (hd : ∀ x ∈ xs, (k x).length = d) (hu : X.A.units + 3 < cLine)
    (turn : KeyTurn X X.A.in1.in1 pins σ H (.ref q) xs k) (h : ∀ (H' : Hp) (a : Addr), L2.Ext H H' → H' a = none → Q (.ref a) (upd H' a (.lst (xs.mergeSort fun p q => decide (k p ≤ k q))))) :
    wpAny (model X.prog X.w) X.A (call (.builtin "sorted") [.ref l] [(Str.ofString "key", .ref q)]) (EP X pins σ Q) E s := by
  obtain ⟨its, r, T, o, n, hT, ho, hc, hdt, hz⟩ : ∃ (its : List Value) (_ : Vals xs its) (T : String) (o : Obj) (n : Nat), (T = "list" ∨ T = "tuple") ∧ s.heap.get? l = some o ∧ o.cls = .type T ∧ o.data = .seq its.toArray n ∧ xs.length ≤ sizeLine := by
    rcases hl with hl | hl
    · obtain ⟨its, r, ⟨o, n, ho, hc, _, hd⟩, hz⟩ := I.list hl
      exact ⟨its, r, "list", o, n, .inl rfl, ho, hc, hd, hz⟩
    · obtain ⟨its, r, ⟨o, ho, hc, n, hd⟩, hz⟩ := I.tuple hl
      exact ⟨its, r, "tuple", o, n, .inr rfl, ho, hc, hd, hz⟩
  have hL : its.length ≤ sizeLine := by rw [← r.length]; exact hz
  refine call_function_entry_kw kind_sorted plain_sorted entry_sorted (ksk_s1 _ _) ?_
  unfold Builtin.«sorted»
  refine wpAny_bind (m := checkCount "sorted" 1 1 _) (wpAny_pure ?_)
  refine wpAny_bind (PySem.wpAny_collect_seq l hT ho hc hdt (fun h1 k1 => ?_) (by rw [List.size_toArray]; exact hL))
  refine wpAny_bind (wpAny_newList ?_ (by simpa using hL))
  have I1 : Inv X pins σ H { s with heap := h1, toks := s.toks } := I.kept k1
  have sz1 : X.s_0.heap.objs.size ≤ h1.objs.size := I1.sz
  have na : H h1.objs.size = none := I1.hok.fresh (Nat.le_refl _)
  have goA : (h1.push (seqObj "list" its.toArray 0)).get? h1.objs.size = some (seqObj "list" its.toArray 0) := Heap.get?_push_size _ rfl
  refine wpAny_bind (wpAny_holding (wpAny_call_entry_kw slot_list_sort ⟨_, Heap.get?_push_size _ rfl, rfl⟩ entry_list_sort ?_ (ksk_l1 _ _)))
  show wpAny (model X.prog X.w) X.A.in1.in1 (Builtin.«list.sort» ⟨[.ref h1.objs.size], [(Str.ofString "key", .ref q)]⟩) _ _ { s with heap := h1.push (seqObj "list" its.toArray 0) }
  rw [ksk_t1]
  obtain ⟨e1, ho1⟩ : ∃ e1, ((h1.push (seqObj "list" its.toArray 0)).update h1.objs.size (Obj.mapSeq fun _ => (#[] : Array Value))).get? h1.objs.size = some (seqObj "list" #[] e1) := ⟨_, get?_update_seq goA fun _ => #[]⟩
  have hkS : (((h1.push (seqObj "list" its.toArray 0)).update h1.objs.size (Obj.mapSeq fun _ => (#[] : Array Value))).push (seqObj "tuple" its.toArray 0)).objs.size = h1.objs.size + 2 := by
    rw [size_push', Heap.size_update, size_push']
  unfold ksk_tree
  refine wpAny_bind (listItems_at goA rfl ?_)
  refine wpAny_bind (listUpdate_at goA rfl ?_ (by rw [List.size_toArray]; exact hL) (Nat.zero_le _))
  refine wpAny_bind (seqEpoch_at ho1 rfl ?_)
  refine wpAny_bind (wpAny_newTuple ?_ (by show its.length ≤ _; exact hL))
  refine wpAny_bind (wpAny_newList ?_ (Nat.zero_le _))
  refine wpAny_holding ?_
  have kp : ∀ b o, h1.get? b = some o → (sortingHeap (h1.push (seqObj "list" its.toArray 0)) h1.objs.size its).get? b = some o := fun b o e =>
    sortingHeap_old (Nat.ne_of_lt (Heap.lt_size e)) (Heap.get?_push_of_some _ e)
  have I4 : Inv X pins σ H { s with heap := sortingHeap (h1.push (seqObj "list" its.toArray 0)) h1.objs.size its, toks := s.toks } := I1.kept kp
  have ga : (sortingHeap (h1.push (seqObj "list" its.toArray 0)) h1.objs.size its).get? h1.objs.size = some (seqObj "list" #[] e1) := Heap.get?_push_of_some _ (Heap.get?_push_of_some _ ho1)
  have nofs : ∀ b, h1.objs.size ≤ b → b ∉ X.fs := fun b hb => I1.nofs hb
  have locLt : X.env.locals < h1.objs.size := I1.lt
  have cellLt : ∀ b, h1.objs.size ≤ b → ∀ x c, X.env.cells.lookup x = some c → c ≠ b := fun b hb x c e z => by
    obtain ⟨v, q⟩ := I1.cell x c e
    rw [z] at q
    exact absurd (Nat.lt_of_lt_of_le q.lt hb) (Nat.lt_irrefl _)
  have pinLt : ∀ b, h1.objs.size ≤ b → ∀ p ∈ X.pn ++ pins, p.1 ≠ b := fun b hb p hp z => by
    have e := (I1.pin p hp).1
    rw [z] at e
    exact absurd (Nat.lt_of_lt_of_le (Heap.lt_size e) hb) (Nat.lt_irrefl _)
  have I5 : Inv X (pins ++ [(h1.objs.size, seqObj "list" #[] e1)]) σ H { s with heap := sortingHeap (h1.push (seqObj "list" its.toArray 0)) h1.objs.size its, toks := s.toks } := I4.pins_of fun p hp => by
    rcases List.mem_append.mp hp with z | z
    · exact I4.pin p (List.mem_append_right _ z)
    · rw [List.mem_singleton.mp z]
      exact ⟨ga, na, Nat.ne_of_gt locLt, nofs _ (Nat.le_refl _), fun v z => by cases z⟩
  show wpAny (model X.prog X.w) X.A.in1.in1 (ksk_rest h1.objs.size (.ref q) false its.toArray e1 (.ref (((h1.push (seqObj "list" its.toArray 0)).update h1.objs.size (Obj.mapSeq fun _ => (#[] : Array Value))).push (seqObj "tuple" its.toArray 0)).objs.size)) _ _
    { s with heap := sortingHeap (h1.push (seqObj "list" its.toArray 0)) h1.objs.size its }
  refine keyI_rest (d := d) I5 (Heap.get?_push_size _ rfl) ?_ sz1 (by rw [hkS]; omega) (pinLt _ (Nat.le_refl _)) r hL hd (by show X.A.units + 1 + 1 + 1 < _; omega) turn fun s' H' I' ext hn => ⟨_, rfl, wpAny_pure ⟨_, rfl, .ref h1.objs.size, _, I', rfl, h H' _ ext hn⟩⟩
  rw [hkS]
  have l2 : h1.objs.size ≤ h1.objs.size + 2 := by omega
  refine ⟨I1.hok.fresh l2, Nat.ne_of_gt (Nat.lt_of_lt_of_le locLt l2), nofs _ l2, .inr (Nat.le_trans sz1 l2), cellLt _ l2, fun p hp => ?_⟩
  rcases List.mem_append.mp hp with z | z
  · exact pinLt _ l2 p (List.mem_append_left _ z)
  · rcases List.mem_append.mp z with z | z
    · exact pinLt _ l2 p (List.mem_append_right _ z)
    · rw [List.mem_singleton.mp z]
      show h1.objs.size ≠ h1.objs.size + 2
      omega
end
end Gx

/-! sorted(xs, key=lambda x: ..): the expression -/
namespace Gx
open PySem PySem.Spec PyProof.Rows L2 PySem.W LamX NdefX

abbrev lamF (qual : Str) (params : Arguments) (scope : Scope) (cl : List (Str × Addr)) (c' : Addr) : NF := ⟨"<lambda>", qual, params, [], scope, cl, c'⟩
section
variable {X : Cx} {pins : List (Addr × Obj)} {σ : L2.St} {H : Hp} {s : Shared} {ps fr N : List Str} {scope : Scope} {params : Arguments} {body : Expr} {js : List Nat} {j : Nat} {tb : TE}
/-- a lambda of one parameter called while a list is sorted -/
theorem lam_turn {A : Around} {f c' : Addr} {qual : Str} {cl : List (Str × Addr)} {pm ctv : Value} {xs : List V} {k : V → List Int} (S : NScope N ps fr scope) (hps : ps.length = 1)
    (hb : ∀ (u : Value), bindArgs (kla_fn "<lambda>" qual params body scope cl pm (.ref c') ctv) ⟨[u], []⟩ = pure (ps.zip [u])) (hfr : A.frames = some X.stack) (hr : Room (j + 1) A)
    (cp : Caps X cl fr js) (hf : (f, kla_obj "<lambda>" qual params body scope cl pm c' ctv) ∈ pins) (hc : H c' = some (CodeO c' qual))
    (hbody : ∀ (A : Around) (outer : List Env) (s : Shared) (H : Hp), Room j (A.deeper (envF (lamF qual params scope cl c') f s.heap.objs.size)) → PE (ncx C8.CX0 X.prog X.w X.K X.mg X.base N (lamF qual params scope cl c') f A outer s H C8.E0).nox body tb)
    (ht : ∀ x ∈ xs, ∀ H3, L2.Ext H H3 → tb (startF N [x] (js.map (slotAt σ))) H3 fun y H4 => ∃ t, y = .ref t ∧ H4 t = some (.tup ((k x).map V.int)) ∧ L2.Ext H3 H4) :
    KeyTurn X A pins σ H (.ref f) xs k := by
  intro pins' s' H' x v hx rv hsub I ext
  have of1 : s'.heap.get? f = some (kla_obj "<lambda>" qual params body scope cl pm c' ctv) := (I.pin _ (List.mem_append_right _ (hsub _ hf))).1
  have hc' : H' c' = some (CodeO c' qual) := ext _ _ hc
  have C := cells_of I cp
  have e0 : Env0 X.prog X.w X.K X.mg X.base A X.stack s' H' := ⟨hfr, I.ok.mod, I.bs, Nat.le_trans I.ok.bsz I.sz, I.stack, I.stkFree, I.hok, I.bare⟩
  have rc : codeAny (model X.prog X.w) A (.call (.ref f) ⟨[v], []⟩) (CR C8.CX0 X.stack X.prog X.w H' s' (fun y H4 => ∃ t, y = .ref t ∧ H4 t = some (.tup ((k x).map V.int)) ∧ L2.Ext H' H4) C8.E0) s' := by
    refine kla_callFunE hr.depth of1 rfl S.co S.gen rfl (codeO_at I.hok hc') ?_
    rw [hb v]
    refine wpAny_pure (wpAny_newFunctionEnv S.nocell (fun ⟨n, _⟩ hy => S.par n (List.of_mem_zip hy).1) (fun h₁ hns hsb => ⟨I.nolimit.fresh _ hsb, ?_⟩) S.kind)
    show codeAny _ _ (.expr body (envF (lamF qual params scope cl c') f s'.heap.objs.size)) _ _
    have kp : ∀ b o, s'.heap.get? b = some o → h₁.get? b = some o := fun b o e => hsb.extBut b o (Nat.ne_of_lt (Heap.lt_size e)) (Heap.get?_push_of_some _ e)
    have J : Inv (ncx C8.CX0 X.prog X.w X.K X.mg X.base N (lamF qual params scope cl c') f A X.stack s' H' C8.E0) [] (startF N [x] (js.map (slotAt σ))) H' { s' with heap := h₁, toks := s'.toks + (ps.zip [v]).length } :=
      inv_startN (F := lamF qual params scope cl c') (f := f) S hr.hd e0 (by rw [hps]; rfl) (.cons rv .nil) C hns kp
    refine kla_codeExpr (wpAny_mono ((hbody A X.stack s' H' (hr.deeper _)).nox.run [] _ _ H' _ J (ht x hx H' ext)) (fun v s'' hq => ?_) fun e s'' hq => hq)
    obtain ⟨w', H4, J', rv', q⟩ := hq
    exact ⟨w', H4, J'.os, J'.bare, J'.base, J'.hok, rv', q⟩
  refine wpAny_call (codeAny_mono rc fun r s2 hq => ?_)
  cases r with
  | error e => exact (show False from hq).elim
  | ok fl =>
    cases fl with
    | ret u =>
      obtain ⟨y, H4, I4, r4, t, rfl, h1, h2⟩ := I.after hq
      exact ⟨t, H4, r4, I4, h1, h2⟩
    | next => exact False.elim hq
    | brk => exact False.elim hq
    | cont => exact False.elim hq
/-- sorted(xs, key=lambda x: body): ps the parameter, fr the captured names, js where these stand -/
def tSortK (K : Frag) (T : List (Addr × Str)) (N : List Str) (js : List Nat) (te tb : TE) : TE := fun σ H Q => te σ H fun v H1 => ∃ (l : Addr) (xs : List V) (k : V → List Int) (d : Nat), v = .ref l ∧ (SqL K H1 l xs ∨ SqT K H1 l xs) ∧ (∀ x ∈ xs, (k x).length = d) ∧ Tabs T H1 ∧
  ∀ H2, ExtN H1 H2 → Tabs T H2 → (∀ x ∈ xs, ∀ H3, L2.Ext H2 H3 → tb (startF N [x] (js.map (slotAt σ))) H3 fun y H4 => ∃ t, y = .ref t ∧ H4 t = some (.tup ((k x).map V.int)) ∧ L2.Ext H3 H4) ∧
    ∀ H3 a, L2.Ext H2 H3 → H3 a = none → Q (.ref a) (upd H3 a (.lst (xs.mergeSort fun p q => decide (k p ≤ k q))))

theorem pe_sortK {nm : Str} {e : Expr} {te : TE} {T : List (Addr × Str)} {c P : Addr} {p lpos kpos pos : Pos} (hg : Gl X nm) (hm : X.mg nm = none) (hv : bootBuiltins nm = some (.builtin "sorted")) (he : PE X e te) (hr : Room (j + 3) X.A)
    (TB : TabB X.base X.mg c P) (hcode : X.env.code = .ref c) (hmT : (P, X.env.qual ++ "<lambda>") ∈ T) (hu : ∀ p ∈ T, p.1 = P → p.2 = X.env.qual ++ "<lambda>") (hdef : defaultsOf params X.env = ([], []))
    (S : NScope N ps fr scope) (hps : ps.length = 1) (hfree : ∀ y ∈ scope.names, y.2 = .free → X.env.scope.names.lookup y.1 = some .cell ∨ X.env.scope.names.lookup y.1 = some .free) (hfr : ∀ y ∈ fr, (y, NameKind.free) ∈ scope.names) (hjs : js.map (fun j => X.N[j]?) = fr.map some)
    (hb : ∀ (q : Str) (cl : List (Str × Addr)) (pm cv ctv : Value) (u : Value), bindArgs (kla_fn "<lambda>" q params body scope cl pm cv ctv) ⟨[u], []⟩ = pure (ps.zip [u]))
    (hbody : ∀ (f c' : Addr) (cl : List (Str × Addr)) (A : Around) (outer : List Env) (s : Shared) (H : Hp), Room j (A.deeper (envF (lamF (X.env.qual ++ "<lambda>") params scope cl c') f s.heap.objs.size)) →
      PE (ncx C8.CX0 X.prog X.w X.K X.mg X.base N (lamF (X.env.qual ++ "<lambda>") params scope cl c') f A outer s H C8.E0).nox body tb)
    (hn : nm ≠ "__name__" := by decide) (hdb : (nm == ("__debug__" : Str)) = false := by decide)
    (hee : backTo pos (starEach [e] X.env) = (false, eval e X.env) :: backTo pos (starEach [] X.env) := by rfl) (hpl : (backTo pos (starEach [e] X.env)).any (·.1) = false := by rfl)
    (hkk : backToKw pos (keywordEach [⟨some (Str.ofString "key"), .Lambda params body scope lpos, kpos⟩] X.env) = [(some (Str.ofString "key"), (do let v ← eval (.Lambda params body scope lpos) X.env; standAt pos; pure v))] := by rfl) :
    PE X (.Call (.Name nm p) [e] [⟨some (Str.ofString "key"), .Lambda params body scope lpos, kpos⟩] pos) (tSortK X.K T N js te tb) := by
  refine ⟨fun pins s σ H Q I h => ?_⟩
  refine wpAny_Call_Name_kw (ld_blt I hg hm hv ?_ hn hdb)
  refine PyProof.Rows.callWith_kw ?_ hee hpl (by rw [hkk]; rfl) (by rw [hkk]; rfl)
  rw [hee, hkk]
  show wpAny _ _ (spliced ((false, eval e X.env) :: [])) _ _ s
  refine Calls.spliced_cons (thn (he.run pins s σ H _ I h) fun u s1 ⟨v, H1, I1, r1, l, xs, k, d, ev, hl, hd, hT, hk⟩ => ?_)
  subst ev
  obtain rfl : u = Value.ref l := r1
  refine Calls.spliced_nil ?_
  show wpAny _ _ (evalAll [do let v ← eval (.Lambda params body scope lpos) X.env; standAt pos; pure v]) _ _ s1
  have hfree' : ∀ y ∈ scope.names, y.2 = .free → ∃ c, X.env.cells.lookup y.1 = some c := fun y hy e => (hfree y hy e).elim (fun z => I1.ok.has _ (.inl z)) fun z => I1.ok.has _ (.inr z)
  refine wpAny_evalAll_cons (wpAny_bind (lam_make2 I1 TB hcode hmT hu hT hdef hfree' fun f c' pm' ctv H2 s2 I2 eN T2 hf hfn hfr2 hco => wpAny_bind (wpAny_standAt (wpAny_pure ?_))))
  refine wpAny_evalAll_nil ?_
  show wpAny _ X.A (call (.builtin "sorted") [.ref l] [(Str.ofString "key", .ref f)]) _ _ s2
  obtain ⟨h1, h2⟩ := hk H2 eN T2
  have lt0 : X.env.locals ≠ f := fun z => by
    obtain ⟨m, ⟨o, es, ep, ho, hd, _⟩, _⟩ := I2.loc
    rw [z, hf] at ho
    cases ho
    cases hd
  have nfs : f ∉ X.fs := fun z => hfr2 (by
    rcases I2.ok.stk with q | ⟨q, _⟩
    · rw [q]; exact z
    · rw [q]
      unfold frs
      rw [List.filterMap_cons]
      split
      · exact z
      · exact List.mem_cons_of_mem _ z)
  have I3 : Inv X (pins ++ [(f, kla_obj "<lambda>" (X.env.qual ++ "<lambda>") params body scope (cloFrom X.env.cells scope.names []) pm' c' ctv)]) σ H2 s2 := I2.pins_of fun p hp => by
    rcases List.mem_append.mp hp with z | z
    · exact I2.pin p (List.mem_append_right _ z)
    · rw [List.mem_singleton.mp z]
      exact ⟨hf, hfn, lt0.symm, nfs, fun v z => by cases z⟩
  have rdN : ∀ {o : HO}, (∀ ps, o ≠ .tbl ps) → Rd H1 l o → Rd H2 l o := fun {o} n q => q.elim (fun z => .inl (eN _ _ z n)) fun ⟨od, z⟩ => .inr ⟨od, eN _ _ z fun ps q => by cases q⟩
  have hl2 : SqL X.K H2 l xs ∨ SqT X.K H2 l xs := hl.elim (fun z => .inl (z.elim (fun z => .inl (rdN (fun ps q => by cases q) z)) .inr)) fun z => .inr (z.elim (fun z => .inl (rdN (fun ps q => by cases q) z)) .inr)
  have turn : KeyTurn X X.A.in1.in1 (pins ++ [(f, kla_obj "<lambda>" (X.env.qual ++ "<lambda>") params body scope (cloFrom X.env.cells scope.names []) pm' c' ctv)]) σ H2 (.ref f) xs k :=
    lam_turn (j := j) S hps (fun u => hb _ _ _ _ _ u) I2.ok.frames ⟨hr.hd, by have := hr.dp; show X.A.depth + 3 * (j + 1) + 5 < _; omega, by have := hr.un; show X.A.units + 1 + 1 + 16 * (j + 1) + 200 < _; omega⟩
      (Caps.made I2.ok hfree hfr hjs) (List.mem_append_right _ (List.mem_singleton.mpr rfl)) hco (hbody f c' _) h1
  refine wpAny_mono (sortedI (Q := Q) I3 hl2 hd (by have := hr.un; omega) turn h2) (fun u s' hq => ?_) fun _ _ z => z
  obtain ⟨y, H', I', r', q⟩ := hq
  exact ⟨y, H', I'.unpinned, r', q⟩
end
end Gx

/-! match on a text -/
namespace Gx
open PySem PySem.Spec PyProof.Rows L2
section
variable {X : Cx} {t : TS} {u : Str → TS}
/-- the cases of a match whose subject is the text x -/
structure PM (X : Cx) (cs : List MatchCase) (t : Str → TS) : Prop where
  run : ∀ (first : Bool) (pins : List (Addr × Obj)) (s : Shared) (σ : L2.St) (H : Hp) (D : Ends) (x : Str) (v : Value), Inv X pins σ H s → RelV (.str x) v → t x D σ H → wpAny (model X.prog X.w) X.A (matchCases cs X.env v first) (SP X pins D) X.xe s
theorem pm_nil : PM X [] (fun _ D σ H => D.nx σ H) := ⟨fun _ _ _ σ H D _ _ I _ h => wpAny_matchCases_nil ⟨σ, H, I, h⟩⟩
/-- case _: .. -/
theorem pm_any {body : List Stmt} {cs : List MatchCase} {pos : Pos} (hb : PSs X body t) : PM X (⟨.MatchAs none none pos, none, body⟩ :: cs) (fun _ => t) := by
  refine ⟨fun _ pins s σ H D x v I _ h => ?_⟩
  refine wpAny_matchCases_cons (wpAny_matchPattern_Capture ?_)
  refine wpAny_assignInOrder_none ?_
  exact hb.run pins s σ H D I h
/-- case 'y': .. -/
theorem pm_str {y : Str} {body : List Stmt} {cs : List MatchCase} {j : Nat} {p pos : Pos} (hb : PSs X body t) (hr : PM X cs u) : PM X (⟨.MatchValue (.Constant (.str y) j p) pos, none, body⟩ :: cs) (fun x => if x = y then t else u x) := by
  refine ⟨fun _ pins s σ H D x v I rv h => ?_⟩
  refine wpAny_matchCases_cons (wpAny_matchPattern_Value (thn ((pe_str (pos := p)).run pins s σ H (fun z H1 => z = .str y ∧ H1 = H) I ⟨rfl, rfl⟩) fun w s1 ⟨z, H1, I1, r1, e1, e2⟩ => ?_))
  subst e1 e2
  refine thn (op_eq pins s1 σ H1 (.str x) (.str y) v w (fun z H2 => z = .bl (decide (x = y)) ∧ H2 = H1) I1 rv r1 ?_) fun c s2 ⟨z, H2, I2, r2, e1, e2⟩ => ?_
  · exact ⟨rfl, congrArg V.bl (by simp), rfl⟩
  subst e1 e2
  obtain rfl : c = Value.bool (decide (x = y)) := r2
  refine wpAny_truthy_bool ?_
  by_cases hxy : x = y
  · have h' : t D σ H2 := by simpa [hxy] using h
    simp only [hxy, decide_true, if_true]
    exact wpAny_assignInOrder_none (hb.run pins s2 σ H2 D I2 h')
  · have h' : u x D σ H2 := by simpa [hxy] using h
    simp only [hxy, decide_false, Bool.false_eq_true, if_false]
    exact hr.run false pins s2 σ H2 D x v I2 rv h'
/-- match e: .. -/
theorem ps_match {e : Expr} {te : TE} {cs : List MatchCase} {pos : Pos} (he : PE X e te) (hc : PM X cs u) : PS X (.Match e cs pos) (fun D σ H => te σ H fun v H1 => ∃ x, v = .str x ∧ u x D σ H1) := by
  refine ⟨fun pins s σ H D I h => ?_⟩
  refine wpAny_Match (thn (he.run pins s σ H _ I h) fun v s1 ⟨y, H1, I1, r1, x, e1, q⟩ => ?_)
  subst e1
  exact hc.run true pins s1 σ H1 D x v I1 r1 q
end
end Gx

/-! enumerate of a list or a tuple -/
namespace Gx
open PySem PySem.Spec PyProof.Rows L2
open AutoSeq1 (wpAny_loadPart')

theorem enum_newT (l : Addr) (items : Array Value) (n : Nat) (dct : Option Addr) (sl : Array (Option Value)) :
    Meets (Builtin.«enumerate.__new__» ⟨[.type "enumerate", .ref l], []⟩) (fun _ R s => s.heap.get? l = some { cls := .type "tuple", dict := dct, data := .seq items n, slots := sl } ∧
      R (.ok (.ret (.ref (s.heap.push { cls := .type "tuple_iterator", data := .fields #[.ref l, .int 0 0] }).objs.size)))
        { s with heap := (s.heap.push { cls := .type "tuple_iterator", data := .fields #[.ref l, .int 0 0] }).push { cls := .type "enumerate", data := .fields #[.none, .bool false, .ref s.heap.objs.size, rawInt 0, .none, .none] } }) :=
  .of_wp fun prog w A R s h => by
    obtain ⟨hp, g, d, tk, os⟩ := s; obtain ⟨hl, h⟩ := h
    have hsub := sub_enumerate
    have hL : Heap.IsTuple (Shared.heap ⟨hp, g, d, tk, os⟩) l items := ⟨_, hl, rfl, n, rfl⟩
    wp_walk using wpAny_loadPart' hl
    refine wpAny_stack_any fun st => wpAny_pure ?_
    split
    · rename_i c _ _ _ _ _
      cases (c == Value.type "enumerate")
      · wp_walk using wpAny_loadPart' hl, PySem.wpAny_pyIter_tuple hL
        exact ⟨_, rfl, h⟩
      · wp_walk using wpAny_loadPart' hl, PySem.wpAny_pyIter_tuple hL
        exact ⟨_, rfl, h⟩
    · wp_walk using wpAny_loadPart' hl, PySem.wpAny_pyIter_tuple hL
      exact ⟨_, rfl, h⟩

section
variable {prog : Program} {w : World} {A : Around} {E : Value → Shared → Prop} {s : Shared}
theorem call_enumT {l : Addr} {items : Array Value} {Q : Value → Shared → Prop} (hL : s.heap.IsTuple l items)
    (h : ∀ g', IsEnum g' (s.heap.objs.size + 1) s.heap.objs.size 0 .none → g'.IsTupleIter s.heap.objs.size l 0 → (∀ b o, s.heap.get? b = some o → g'.get? b = some o) → Q (.ref (s.heap.objs.size + 1)) { s with heap := g' }) :
    wpAny (model prog w) A (call (.type "enumerate") [.ref l]) Q E s := by
  obtain ⟨⟨c, dct, dt, sl⟩, hl, hc, n, hd⟩ := hL
  have hc' : c = .type "tuple" := hc
  have hd' : dt = .seq items n := hd
  subst hc' hd'
  refine callType_new F.called_enumerate (by decide) (F.typeCall_enumerate_1 _) (F.newCall_enumerate_1 _) (fun obj => F.args_object_init_2 obj _) F.entry_enumerate_new (enum_newT l items n dct sl) ⟨hl, ?_⟩
  generalize hg1 : s.heap.push { cls := .type "tuple_iterator", data := .fields #[.ref l, .int 0 0] } = g1
  have z1 : g1.objs.size = s.heap.objs.size + 1 := by rw [← hg1, Heap.size_push]
  have i1 : g1.get? s.heap.objs.size = some { cls := .type "tuple_iterator", data := .fields #[.ref l, .int 0 0] } := by rw [← hg1]; exact Heap.get?_push_size _ rfl
  have k1 : ∀ b o, s.heap.get? b = some o → g1.get? b = some o := fun b o e => by rw [← hg1]; exact Heap.get?_push_of_some _ e
  show _ ∧ _
  have he : IsEnum (g1.push { cls := .type "enumerate", data := .fields #[.none, .bool false, .ref s.heap.objs.size, rawInt 0, .none, .none] }) (s.heap.objs.size + 1) s.heap.objs.size 0 .none := by
    rw [← z1]; exact Heap.get?_push_size _ rfl
  rw [z1]
  exact ⟨⟨_, he, rfl⟩, h _ he ⟨_, Heap.get?_push_of_some _ i1, rfl, rfl⟩ fun b o e => Heap.get?_push_of_some _ (k1 b o e)⟩
end
def IteT (K : PySem.W.Frag) (a : Addr) : It :=
  ⟨fun i H => ∃ (xs : List V) (x : V), SqT K H a xs ∧ xs[i]? = some x, fun i H v H' => ∃ T x, v = .ref T ∧ H T = none ∧ H' = upd H T (.tup [.int (i : Nat), x]) ∧ ∀ xs, SqT K H a xs → xs[i]? = some x, fun i H => ∃ xs : List V, SqT K H a xs ∧ xs.length ≤ i⟩
theorem turn_enumT {P : Program} {w : World} {K : PySem.W.Frag} {elts : List Expr} {kk : Nat} {tpos : Pos} (a e it : Addr) :
    Turn P w K (.Tuple elts kk tpos) (IteT K a) [e, it] e (fun i h => (∃ old, IsEnum h e it ((i : Nat) : Int) old) ∧ h.IsTupleIter it a i ∧ e ≠ it ∧ it ≠ a) where
  mem := by simp
  obj := fun i h st b hb => by
    obtain ⟨⟨old, he⟩, ⟨o, ho, hc, hd⟩, _⟩ := st
    have e' : b = e ∨ b = it := by simpa using hb
    rcases e' with z | z
    · rw [z]; exact ⟨_, he, fun v q => nomatch q⟩
    · rw [z]; exact ⟨o, ho, fun v q => by rw [hd] at q; cases q⟩
  keep := fun i h h' st k => let ⟨⟨old, he⟩, ⟨o, ho, r⟩, hne⟩ := st; ⟨⟨old, k e (by simp) _ he⟩, ⟨o, k it (by simp) o ho, r⟩, hne⟩
  item := by
    intro X hP hw hK hc i pins s σ H E I hf st hg
    subst hP hw hK
    obtain ⟨⟨old, he⟩, hit, hne, hia⟩ := st
    obtain ⟨xs, x, hq, hx⟩ := hg
    obtain ⟨its, rv, p, hz⟩ := I.tuple hq
    obtain ⟨u, hu, ru⟩ := rv.get hx
    have hel : e < s.heap.objs.size := Heap.lt_size he
    have hil : it < s.heap.objs.size := by obtain ⟨_, q, _⟩ := hit; exact Heap.lt_size q
    have hea : e ≠ a := fun z => by
      obtain ⟨o, ho, hcl, _⟩ := p
      have hT : s.TypeIs (.ref e) "enumerate" := ⟨_, he, rfl⟩
      obtain ⟨o', ho', hc'⟩ := hT
      rw [z, ho] at ho'
      rw [← Option.some.inj ho', hcl] at hc'
      exact absurd hc' (by decide)
    have hi : i < its.toArray.size := by
      rw [List.size_toArray]
      exact (List.getElem?_eq_some_iff.mp hu).1
    refine PySem.wpAny_pyNext_enum_itemD (Draws.tuple (A := X.A.in1) (by simpa using I.ok.hd hc) it a (Ne.symm hia) its.toArray) he ⟨hit, p⟩ hi hne (by simp [hne, hea]) fun u' h' tk hP ho hst' hT hsz hk => ?_
    have eu : u' = u := by
      have q : its.toArray[i]? = some u' := hP
      rw [List.getElem?_toArray, hu] at q
      exact (Option.some.inj q).symm
    subst eu
    refine ⟨_, rfl, wpAny_letOwnedTupleGo_enum (s := { s with heap := h', toks := tk + 1 }) ho fun h'' he' sb => ?_⟩
    have hT2 : h''.get? s.heap.objs.size = some { cls := .type "tuple", data := .seq #[.int i tk, u'] } := (sb.2 _ (Nat.ne_of_gt hel)).trans hT
    have new : ObjOk X.prog X.w (upd H s.heap.objs.size (.tup [.int (i : Nat), x])) h'' s.heap.objs.size (.tup [.int (i : Nat), x]) :=
      ⟨by show 2 ≤ sizeLine; decide, [.int i tk, u'], .cons ⟨_, rfl⟩ (.cons ru .nil), ⟨_, hT2, rfl, _, rfl⟩⟩
    have I1 : Inv X pins σ (upd H s.heap.objs.size (.tup [.int (i : Nat), x])) { s with heap := h'', toks := tk + 1 } :=
      I.turnedNew (ch := [e, it]) (fun b ob hb q => (sb.2 b (fun z => hb (by simp [z]))).trans (hk b ob (fun z => hb (by simp [z])) (fun z => hb (by simp [z])) q)) hf (Nat.le_refl _) new
    refine ⟨.ref s.heap.objs.size, _, I1, rfl, ⟨_, x, rfl, I.hok.fresh (Nat.le_refl _), rfl, fun ys hy => by rw [I.tuple_inj hy hq]; exact hx⟩, ⟨⟨u', ?_⟩, ?_, hne, hia⟩, fun b hb => ?_⟩
    · have e1 : ((i + 1 : Nat) : Int) = (i : Int) + 1 := by omega
      rw [e1]; exact he'
    · obtain ⟨o, ho2, r⟩ := hst'.1
      exact ⟨o, (sb.2 it (Ne.symm hne)).trans ho2, r⟩
    · have hb' : b < s.heap.objs.size := by
        have e' : b = e ∨ b = it := by simpa using hb
        rcases e' with z | z
        · rw [z]; exact hel
        · rw [z]; exact hil
      rw [upd_ne (Nat.ne_of_lt hb')]
      exact (hf b hb).1
  done := by
    intro X hP hw hK hc i pins s σ H E I hf st hg
    subst hP hw hK
    obtain ⟨⟨old, he⟩, hit, hne, hia⟩ := st
    obtain ⟨xs, hq, hx⟩ := hg
    obtain ⟨its, rv, p, hz⟩ := I.tuple hq
    obtain ⟨f0, f1, f2, f3, f4, f5⟩ := hf it (by simp)
    have hl := rv.length
    have hT : s.TypeIs (.ref e) "enumerate" := ⟨_, he, rfl⟩
    unfold pyNext
    refine wpAny_bind (wpAny_attempt (wpAny_callSpecial?_slot (name := Str.ofString "__next__") hT F.slot_enumerate_next
      (wpAny_call_entry F.slot_enumerate_next hT F.entry_enumerate_next ?_ (F.args_enumerate_next_1 _))))
    show wpAny _ _ (field (.ref e) 2 >>= _) _ _ _
    refine wpAny_bind (wpAny_field he rfl (x := .ref it) rfl ?_)
    refine wpAny_bind (wpAny_nextOf_tuple_end (by simpa using I.ok.hd hc) hit p (by simp; omega) fun h' x he' hx' => ?_)
    obtain ⟨o, ho, hco⟩ := hx'
    refine wpAny_bind (wpAny_isInstance (T := "StopIteration") (b := true) ⟨o, ho, hco⟩ isSubtype_stop ?_)
    exact wpAny_pure ⟨rfl, I.turned (t' := s.toks) (fun b o hb q => he' b o hb q) f0 f1 f3 f4 f5⟩
  self := fun A i s Q E st h => let ⟨⟨_, he⟩, _⟩ := st; wpAny_pyIter_enum he h

def iEnumS (K : PySem.W.Frag) (ta : TA) : TI := fun σ H R => ta σ H fun vs H1 => ∃ a xs, vs = [.ref a] ∧ ((SqL K H1 a xs ∧ R (Ite K a) H1) ∨ (SqT K H1 a xs ∧ R (IteT K a) H1))
theorem pi_enumS {X : Cx} {e : Expr} {ta : TA} {p pos tpos : Pos} {elts : List Expr} {kk : Nat} (hg : Gl X "enumerate") (hm : X.mg "enumerate" = none) (ha : PA X [e] ta) (hs : starEach [e] X.env = [(false, eval e X.env)] := by rfl) :
    PI X (.Tuple elts kk tpos) (.Call (.Name "enumerate" p) [e] [] pos) (iEnumS X.K ta) := by
  refine ⟨fun pins s σ H R I h => ?_⟩
  refine Call_ (ld_blt I hg hm boot_enumerate (PyProof.Rows.callWith_type1 (thn (ha.run pos pins s σ H _ I h) fun us s1 ⟨vs, H1, I1, r1, q1⟩ => ?_) hs rfl))
  obtain ⟨a, xs, ex, hq⟩ := q1
  subst ex
  have fp2 : ∀ b ∈ [s1.heap.objs.size + 1, s1.heap.objs.size], FpOk X pins H1 b := fun b hb => by
    have hle : s1.heap.objs.size ≤ b := by
      rcases List.mem_cons.mp hb with z | z
      · rw [z]; exact Nat.le_add_right _ _
      · rw [List.mem_singleton.mp z]; exact Nat.le_refl _
    exact I1.fpOk hle (I1.hok.fresh hle)
  cases r1 with
  | cons r rr =>
    cases rr
    cases r
    rcases hq with ⟨hq, q⟩ | ⟨hq, q⟩
    · obtain ⟨its, rv, p', hz⟩ := I1.list hq
      refine call_enumerate_list p'.isList fun h' he hit hsz hk => wpAny_pyIter_enum he ?_
      have I2 : Inv X pins σ H1 { s1 with heap := h' } := I1.kept (t' := s1.toks) hk
      exact ⟨s1.heap.objs.size + 1, [s1.heap.objs.size + 1, s1.heap.objs.size], _, _, H1, rfl, I2, turn_enum a (s1.heap.objs.size + 1) s1.heap.objs.size, ⟨⟨.none, he⟩, hit, Nat.succ_ne_self _⟩, fp2, q⟩
    · obtain ⟨its, rv, p', hz⟩ := I1.tuple hq
      refine call_enumT p' fun g' he hit hk => wpAny_pyIter_enum he ?_
      have I2 : Inv X pins σ H1 { s1 with heap := g' } := I1.kept (t' := s1.toks) hk
      have hia : s1.heap.objs.size ≠ a := fun z => by
        obtain ⟨o, ho, _⟩ := p'
        exact absurd (Heap.lt_size ho) (by rw [← z]; exact Nat.lt_irrefl _)
      exact ⟨s1.heap.objs.size + 1, [s1.heap.objs.size + 1, s1.heap.objs.size], _, _, H1, rfl, I2, turn_enumT a (s1.heap.objs.size + 1) s1.heap.objs.size, ⟨⟨.none, he⟩, hit, Nat.succ_ne_self _, hia⟩, fp2, q⟩
end Gx

/-! repr of data -/
namespace Gx
open PySem PySem.Spec PyProof.Rows L2
/-- repr(x) of data -/
def rRepr (X : Cx) : List V → Hp → VK → Prop := fun xs H Q => ∃ (a : Addr) (d : PyData), xs = [.ref a] ∧ Dp X.K H (.ref a) d ∧ d.showable = true ∧ d.hasDict = false ∧ X.A.units + (d.depth + 1) < cLine ∧ d.shown.length ≤ sizeLine ∧ Q (.str d.shown) H
theorem cr_repr {X : Cx} (hg : X.A.guards = some []) : CallR X (.builtin "repr") (rRepr X) := by
  intro pins s σ H xs us Q I r h
  obtain ⟨a, d, rfl, hd, hs, hn, hu, hz, q⟩ := h
  rw [Vals.ref1 r]
  obtain ⟨as, rd⟩ := Dp.reads I d _ _ hd (show RelV (.ref a) (.ref a) from rfl)
  refine repr_of_reads' rd hs (PyData.noDict_hsm hn) hg hu (fun _ _ e => e) (fun h' u tk hk => ?_) hz
  exact ⟨.str d.shown, H, I.kept hk, ⟨u, rfl⟩, q⟩

/-! lengths -/
mutual
def cap : PyData → Nat
  | .none => 4
  | .bool _ => 5
  | .int _ => 42
  | .str _ => 0
  | .list xs => 2 + capAll xs
  | .tuple xs => 3 + capAll xs
  | .dict _ => 0
def capAll : List PyData → Nat
  | [] => 0
  | x :: xs => cap x + 2 + capAll xs
end
mutual
def tame : PyData → Bool
  | .none | .bool _ => true
  | .int i => decide (i.natAbs < 10 ^ 40)
  | .str _ | .dict _ => false
  | .list xs | .tuple xs => tameAll xs
def tameAll : List PyData → Bool
  | [] => true
  | x :: xs => tame x && tameAll xs
end
theorem textFrom_le : ∀ (ts : List Str) (k : Nat) (acc : Str), (textFrom k acc ts).length ≤ acc.length + piled ts
  | [], _, acc => Nat.le_refl _
  | t :: r, k, acc => by
    have ih := textFrom_le r (k + 1) (acc ++ (if k > 0 then ", " else "" : String) ++ t)
    have e : (acc ++ (if k > 0 then ", " else "" : String) ++ t).length ≤ acc.length + 2 + t.length := by
      rw [strLen_append, strLen_append]
      have : ((if k > 0 then ", " else "" : String) : Str).length ≤ 2 := by split <;> decide
      omega
    rw [piled_cons]
    show (textFrom (k + 1) (acc ++ (if k > 0 then ", " else "" : String) ++ t) r).length ≤ acc.length + (t.length + 2 + piled r)
    omega
theorem tupleText_le (ts : List Str) : (tupleText ts).length ≤ 3 + piled ts := by
  unfold tupleText
  rw [strLen_append, strLen_append]
  have e1 : ("(" : Str).length = 1 := rfl
  have e2 : ((if ts.length == 1 then ",)" else ")" : String) : Str).length ≤ 2 := by split <;> decide
  have e3 : (Str.join ", " ts).length ≤ piled ts := by
    cases ts with
    | nil => exact Nat.le_refl _
    | cons t r =>
      have := join_length_add (t :: r) (by simp)
      omega
  omega
mutual
theorem shown_le : ∀ d : PyData, tame d = true → d.shown.length ≤ cap d
  | .none, _ => by simp only [PyData.shown, cap]; decide
  | .bool b, _ => by
    simp only [PyData.shown, cap]
    cases b <;> decide
  | .int i, h => by
    simp only [tame, decide_eq_true_eq] at h
    simp only [PyData.shown, cap]
    have := int_text_length_le10 (k := 40) (by decide) h
    show (Str.ofString (toString i)).length ≤ 42
    rw [PySem.ofString_length]
    omega
  | .str _, h => by simp only [tame] at h; cases h
  | .dict _, h => by simp only [tame] at h; cases h
  | .list xs, h => by
    simp only [tame] at h
    simp only [PyData.shown, cap]
    have ih := shownAll_le xs h
    unfold listText
    rw [strLen_append]
    have := textFrom_le (PyData.shownAll xs) 0 "["
    have e1 : ("[" : Str).length = 1 := rfl
    have e2 : ("]" : Str).length = 1 := rfl
    omega
  | .tuple xs, h => by
    simp only [tame] at h
    simp only [PyData.shown, cap]
    have ih := shownAll_le xs h
    have := tupleText_le (PyData.shownAll xs)
    omega
theorem shownAll_le : ∀ xs : List PyData, tameAll xs = true → piled (PyData.shownAll xs) ≤ capAll xs
  | [], _ => by simp only [PyData.shownAll, capAll, piled_nil]; exact Nat.le_refl _
  | x :: xs, h => by
    simp only [tameAll, Bool.and_eq_true] at h
    simp only [PyData.shownAll, capAll, piled_cons]
    have h1 := shown_le x h.1
    have h2 := shownAll_le xs h.2
    omega
end
mutual
theorem tame_show : ∀ d : PyData, tame d = true → d.showable = true ∧ d.hasDict = false
  | .none, _ => by simp [PyData.showable, PyData.hasDict]
  | .bool b, _ => by simp [PyData.showable, PyData.hasDict]
  | .int i, h => by
    simp only [tame, decide_eq_true_eq] at h
    simp only [PyData.showable, PyData.hasDict, decide_eq_true_eq, and_true]
    have h2 : i.natAbs < 2 ^ 1920 := Nat.lt_of_lt_of_le h (by decide +kernel)
    by_cases h0 : i.natAbs = 0
    · rw [h0]; decide
    · exact (Nat.log2_lt h0).mpr h2
  | .str _, h => by simp only [tame] at h; cases h
  | .dict _, h => by simp only [tame] at h; cases h
  | .list xs, h => by
    simp only [tame] at h
    simp only [PyData.showable, PyData.hasDict]
    exact tameAll_show xs h
  | .tuple xs, h => by
    simp only [tame] at h
    simp only [PyData.showable, PyData.hasDict]
    exact tameAll_show xs h
theorem tameAll_show : ∀ xs : List PyData, tameAll xs = true → PyData.showableAll xs = true ∧ PyData.hasDictAll xs = false
  | [], _ => by simp [PyData.showableAll, PyData.hasDictAll]
  | x :: xs, h => by
    simp only [tameAll, Bool.and_eq_true] at h
    obtain ⟨h1, h2⟩ := tame_show x h.1
    obtain ⟨h3, h4⟩ := tameAll_show xs h.2
    simp [PyData.showableAll, PyData.hasDictAll, h1, h2, h3, h4]
end
theorem tameAll_map {α : Type} {f : α → PyData} {xs : List α} (h : ∀ x ∈ xs, tame (f x) = true) : tameAll (xs.map f) = true := by
  induction xs with
  | nil => simp [tameAll]
  | cons x xs ih =>
    simp only [List.map_cons, tameAll, Bool.and_eq_true]
    exact ⟨h x List.mem_cons_self, ih fun y hy => h y (List.mem_cons_of_mem _ hy)⟩
theorem capAll_map {α : Type} {f : α → PyData} {xs : List α} {c : Nat} (h : ∀ x ∈ xs, cap (f x) ≤ c) : capAll (xs.map f) ≤ xs.length * (c + 2) := by
  induction xs with
  | nil => simp [capAll]
  | cons x xs ih =>
    simp only [List.map_cons, capAll, List.length_cons]
    have h1 := h x List.mem_cons_self
    have h2 := ih fun y hy => h y (List.mem_cons_of_mem _ hy)
    rw [Nat.add_mul]
    omega
theorem depthAll_map {α : Type} {f : α → PyData} {xs : List α} {c : Nat} (h : ∀ x ∈ xs, (f x).depth ≤ c) : PyData.depthAll (xs.map f) ≤ c := by
  induction xs with
  | nil => simp [PyData.depthAll]
  | cons x xs ih =>
    simp only [List.map_cons, PyData.depthAll]
    have h1 := h x List.mem_cons_self
    have h2 := ih fun y hy => h y (List.mem_cons_of_mem _ hy)
    omega
end Gx

/-! a law's end, its promise asked at the first call alone (there nothing is being shown: repr is free) -/
namespace Gx
open PySem PySem.Spec PyProof.Rows L2 LamX

/-- the tables and the script, as the law meets them -/
noncomputable def H0 (K : PySem.W.Frag) (cs : List (Addr × Addr)) (a : Addr) (vs : List Value) (ns : List Int) : Hp := open Classical in fun b =>
  if b ∈ cs.map Prod.snd then some (.tbl #[]) else if b = a ∧ K.lookup a = none then some (.frz { cls := .type "list", data := .seq vs.toArray } (.lst (ns.map V.int))) else none
section
variable {P : Program} {w : World} {K : PySem.W.Frag} {mg mb : Str → Option Value} {fa a : Addr} {cs : List (Addr × Addr)} {t : Shared} {vs : List Value} {ns : List Int}
theorem H0_tab {p : Addr × Addr} (hp : p ∈ cs) : H0 K cs a vs ns p.2 = some (.tbl #[]) := by
  unfold H0
  rw [if_pos (List.mem_map.mpr ⟨p, hp, rfl⟩)]
theorem H0_scr (ha : a ∉ cs.map Prod.snd) (hk : K.lookup a = none) : H0 K cs a vs ns a = some (.frz { cls := .type "list", data := .seq vs.toArray } (.lst (ns.map V.int))) := by
  unfold H0
  rw [if_neg ha, if_pos ⟨rfl, hk⟩]
theorem H0_cases {b : Addr} {u : HO} (e : H0 K cs a vs ns b = some u) : (b ∈ cs.map Prod.snd ∧ u = .tbl #[]) ∨ (b = a ∧ K.lookup a = none ∧ u = .frz { cls := .type "list", data := .seq vs.toArray } (.lst (ns.map V.int))) := by
  unfold H0 at e
  split at e
  · rename_i h
    exact .inl ⟨h, (Option.some.inj e).symm⟩
  · split at e
    · rename_i h
      exact .inr ⟨h.1, h.2, (Option.some.inj e).symm⟩
    · cases e
theorem law_first (KX : K.In t.heap) (hns : t.heap.Ns mainGlobals mg) (hb : t.heap.Ns builtinsNs mb) (hbb : ∀ x : Str, x ≠ "__name__" → mb x = bootBuiltins x) (hlim : t.heap.NoLimit) (hg : t.gens = #[])
    (hT : ∀ p ∈ cs, t.heap.get? p.2 = some { cls := .none, data := .fields #[] }) (nT : ∀ p ∈ cs, K.lookup p.2 = none) (C : ∀ p ∈ cs, PySem.W.CodeHd t.heap p.1 p.2)
    (hbm : ∃ (bm : Addr) (ob : Obj), mg "__builtins__" = some (.ref bm) ∧ bm ≠ builtinsNs ∧ t.heap.get? bm = some ob ∧ ob.cls = .type "module" ∧ ob.dict = some builtinsNs ∧ ob.data = .plain)
    (ha : t.heap.get? a = some { cls := .type "list", data := .seq vs.toArray }) (hi : IntsAre vs ns) (hl : ns.length ≤ sizeLine)
    (F : ∀ (base : Heap) (H : Hp), K.In base → base.Ns mainGlobals mg → (∀ p ∈ cs, TabB base mg p.1 p.2) → Env0 P w K mg base callerA [] t H → (∀ p ∈ cs, H p.2 = some (.tbl #[])) → SqL K H a (ns.map V.int) →
      codeAny (model P w) callerA (.call (.ref fa) ⟨[.ref a], []⟩) (CR C8.CX0 [] P w H t (fun v _ => v = .bl true) C8.E0) t) :
    codeAny (model P w) callerA (.call (.ref fa) ⟨[.ref a], []⟩) (fun r s' => r = .ok (.ret (.bool true)) ∧ OldK t.heap s'.heap ∧ s'.os = t.os ∧ AllBare s'.gens) t := by
  have lenV := hi.length
  have tabAt : ∀ {b : Addr}, b ∈ cs.map Prod.snd → t.heap.get? b = some { cls := .none, data := .fields #[] } := fun {b} m => by
    obtain ⟨p, hp, rfl⟩ := List.mem_map.mp m
    exact hT p hp
  have outK : ∀ {b : Addr}, b ∈ cs.map Prod.snd → K.lookup b = none := fun {b} m => by
    obtain ⟨p, hp, rfl⟩ := List.mem_map.mp m
    exact nT p hp
  have aT : a ∉ cs.map Prod.snd := fun m => by
    have q := (tabAt m).symm.trans ha
    exact nomatch (congrArg Obj.data (Option.some.inj q))
  let H := H0 K cs a vs ns
  have okH : HOk P w H t.heap := fun b u e => by
    rcases H0_cases e with ⟨m, rfl⟩ | ⟨rfl, _, rfl⟩
    · exact tabAt m
    · exact ⟨ha, by rw [List.length_map]; exact hl, vs, _, vals_ints hi, ha⟩
  -- what isn't a table and isn't the script is hidden from nothing
  have vis : ∀ {b : Addr} {o : Obj}, t.heap.get? b = some o → (∀ x n, o.data ≠ .seq x n) → (∀ x, o.data = .fields x → x.size ≠ 0) → H b = none := fun {b o} e h1 h2 => by
    cases q : H b with
    | none => rfl
    | some u =>
      rcases H0_cases q with ⟨m, _⟩ | ⟨rfl, _, _⟩
      · rw [tabAt m] at e
        cases e
        exact absurd rfl (h2 _ rfl)
      · rw [ha] at e
        cases e
        exact absurd rfl (h1 _ _)
  have dictVis : ∀ {b : Addr} {o : Obj} {es : Array DictEntry} {ep : Nat}, t.heap.get? b = some o → o.data = .dict es ep → H b = none := fun {b o es ep} e d => vis e (fun x n z => by rw [d] at z; cases z) fun x z => by rw [d] at z; cases z
  have nsB : ∀ {b : Addr} {m : Str → Option Value}, t.heap.Ns b m → (hidT t.heap H).Ns b m := fun {b m} ⟨o, es, ep, e, d, r⟩ => ⟨o, es, ep, hidT_get e (dictVis e d), d, r⟩
  have KB : K.In (hidT t.heap H) := fun b o e => hidT_get (KX b o e) (by
    cases q : H b with
    | none => rfl
    | some u =>
      rcases H0_cases q with ⟨m, _⟩ | ⟨rfl, hk, _⟩
      · rw [outK m] at e; cases e
      · rw [hk] at e; cases e)
  have md : L2.Mod K mg (hidT t.heap H) := ⟨KB, nsB hns, ⟨mb, nsB hb, hbb⟩, let ⟨mc, h1, h2⟩ := hlim; ⟨mc, nsB h1, h2⟩⟩
  have TB : ∀ p ∈ cs, TabB (hidT t.heap H) mg p.1 p.2 := fun p hp => by
    have tp := hT p hp
    refine ⟨?_, ?_, fun z => ?_⟩
    · obtain ⟨o, us, file, tf, flags, tg, inF, text, tt, e1, r1, r2, r3, rest⟩ := C p hp
      refine ⟨o, us, file, tf, flags, tg, inF, text, tt, hidT_get e1 (vis e1 (fun x n z => by rw [r2] at z; cases z) fun x z => ?_), r1, r2, r3, rest⟩
      rw [r2] at z
      cases z
      intro z0
      rw [Array.getElem?_eq_none (by omega)] at r3
      cases r3
    · obtain ⟨bm, ob, b1, b2, b3, b4, b5, b6⟩ := hbm
      refine ⟨bm, ob, b1, b2, fun q => ?_, fun q => ?_, hidT_get b3 (vis b3 (fun x n z => by rw [b6] at z; cases z) fun x z => by rw [b6] at z; cases z), b4, b5, b6⟩
      · obtain ⟨o, es, ep, e, hd, _⟩ := hns
        rw [q, e] at b3
        cases b3
        rw [hd] at b6
        cases b6
      · rw [q, tp] at b3
        cases b3
        cases b6
    · obtain ⟨o, es, ep, e, hd, _⟩ := hns
      rw [z, tp] at e
      cases e
      cases hd
  have e0 : Env0 P w K mg (hidT t.heap H) callerA [] t H := ⟨rfl, md, fun b o e => of_hidT e, Nat.le_of_eq (hidT_size _ _), trivial, fun b m => absurd (show b ∈ ([] : List Addr) from m) List.not_mem_nil, okH, .of_eq hg⟩
  have sq : SqL K H a (ns.map V.int) := by
    cases hk : K.lookup a with
    | none => exact .inl (.inr ⟨_, H0_scr aT hk⟩)
    | some o =>
      have e := KX a o hk
      rw [ha] at e
      cases e
      exact .inr ⟨_, vs.toArray, _, hk, rfl, rfl, rfl, by rw [List.size_toArray, lenV]; exact hl, by simpa using vals_ints hi⟩
  refine codeAny_mono (F _ H KB (nsB hns) TB e0 (fun p hp => H0_tab hp) sq) fun r s' h => ?_
  cases r with
  | error e => exact (show False from h).elim
  | ok fl =>
    cases fl with
    | next => exact (show False from h).elim
    | brk => exact (show False from h).elim
    | cont => exact (show False from h).elim
    | ret u =>
      obtain ⟨v, H', os, bare, un, hok', r', q⟩ := h
      have q' : v = .bl true := q
      subst q'
      obtain rfl : u = Value.bool true := r'
      have stay : ∀ b o, b ∉ cs.map Prod.snd → t.heap.get? b = some o → s'.heap.get? b = some o := fun b o nb e => by
        cases q : H b with
        | none => exact un.keep b o e q (fun z => absurd (show b ∈ ([] : List Addr) from z) List.not_mem_nil) List.not_mem_nil
        | some u =>
          rcases H0_cases q with ⟨m, _⟩ | ⟨rfl, _, rfl⟩
          · exact absurd m nb
          · have z := (hok' _ _ (un.frzs _ _ _ q)).1
            rw [ha] at e
            cases e
            exact z
      have grown : ∀ p ∈ cs, ∃ more : Array Value, s'.heap.get? p.2 = some { cls := .none, data := .fields more } := fun p hp => by
        obtain ⟨more, z⟩ := un.tbls p.2 #[] (H0_tab hp)
        exact ⟨_, hok' p.2 _ z⟩
      refine ⟨rfl, ⟨fun b o e => ?_, fun b o e => ?_⟩, os, bare⟩
      · by_cases m : b ∈ cs.map Prod.snd
        · obtain ⟨p, hp, rfl⟩ := List.mem_map.mp m
          obtain ⟨more, z⟩ := grown p hp
          rw [hT p hp] at e
          cases e
          exact .inr (.inl ⟨((C p hp).tab (hT p hp)).isCodeTable, rfl, #[], more, rfl, by rw [Array.empty_append]; exact z⟩)
        · exact .inl (stay b o m e)
      · by_cases m : b ∈ cs.map Prod.snd
        · obtain ⟨p, hp, rfl⟩ := List.mem_map.mp m
          obtain ⟨more, z⟩ := grown p hp
          exact ⟨_, z⟩
        · exact ⟨o, stay b o m e⟩
end

/-- what the head tells of the law at its heap h -/
def LawFirst (l : PySem.W.OpenLaw) (w : World) (K : PySem.W.Frag) (n : Nat) (mg : Str → Option Value) (fa : Addr) (h : Heap) : Prop :=
  ∃ cs : List (Addr × Addr), (∀ p ∈ cs, h.get? p.2 = some { cls := .none, data := .fields #[] }) ∧ (∀ p ∈ cs, K.lookup p.2 = none) ∧ (∀ p ∈ cs, PySem.W.CodeHd h p.1 p.2) ∧
    ∀ (base : Heap) (H : Hp) (t : Shared) (a : Addr) (ns : List Int), K.In base → base.Ns mainGlobals mg → (∀ p ∈ cs, TabB base mg p.1 p.2) → Env0 l.prog w K mg base callerA [] t H → (∀ p ∈ cs, H p.2 = some (.tbl #[])) → SqL K H a (ns.map V.int) → ns.length ≤ n → (∀ z ∈ ns, Builtin.Int.intBits z ≤ 1048576) →
      codeAny (model l.prog w) callerA (.call (.ref fa) ⟨[.ref a], []⟩) (CR C8.CX0 [] l.prog w H t (fun v _ => v = .bl true) C8.E0) t
theorem walk_first {l : PySem.W.OpenLaw} {n : Nat} {q : Program} {loose : List Str} {XP : (Str → Option Value) → Heap → Prop} {YP : World → Heap → Prop} {d : DefRec} (hn : l.most = some n) (hn2 : n ≤ sizeLine) (hdf : d.params.defaults = [])
    (F : ∀ (w : World) (mg : Str → Option Value) (fa : Addr) (h : Heap), YP w h → h.Ns mainGlobals mg → mg d.name = some (.ref fa) → ∃ K : PySem.W.Frag, K.In h ∧ LawFirst l w K n mg fa h) :
    PySem.W.WalkO q loose XP YP l.row.toRowW d [] (fun f vs => PySem.call f vs) := by
  refine Att.attach_callB hn hdf fun w s₀ s₁ mg mb fa o pm cd doc a vs ns G Y ho hd hcd hmg hobj hints hlen hbits hg => ?_
  obtain ⟨K, KX, cs, hT, nT, C, hF⟩ := F w mg fa _ Y G.T.g hmg
  exact law_first KX G.T.g G.T.b G.T.builtins G.T.nolimit hg hT nT C G.T.bmain hobj hints (Nat.le_trans hlen hn2) fun base H h1 h2 h3 h4 h5 h6 => hF base H s₁ a ns h1 h2 h3 h4 h5 h6 hlen hbits
end Gx

/-! defs and methods known by their promises; data of the heap -/
namespace Gx
open PySem PySem.Spec PyProof.Rows L2 LamX Evl

/-- what is never evaluated -/
theorem pe_never {X : Cx} {e : Expr} : PE X e (fun _ _ _ => False) := ⟨fun _ _ _ _ _ _ h => h.elim⟩
theorem pi_never {X : Cx} {tg e : Expr} : PI X tg e (fun _ _ _ => False) := ⟨fun _ _ _ _ _ _ h => h.elim⟩
/-- the def named x keeps sp -/
structure Kn (P : Program) (w : World) (K : PySem.W.Frag) (mg : Str → Option Value) (base : Heap) (k : Nat) (x : Str) (sp : Sp) : Prop where
  ex : ∃ (f : Addr) (fd : FuncData) (ps : List Str), FnOk P w K mg base L2.CX0 k f fd ps sp ∧ mg x = some (.ref f) ∧ PySem.W.keepIn K (.ref f) = true ∧ L2.Binds K fd ps []
/-- the method m of the class at C keeps sp -/
structure KnM (P : Program) (w : World) (K : PySem.W.Frag) (mg : Str → Option Value) (base : Heap) (k : Nat) (C : Addr) (m : Str) (sp : Sp) : Prop where
  ex : ∃ (f : Addr) (fd : FuncData) (ps : List Str), FnOk P w K mg base L2.CX0 k f fd ps sp ∧ Meth K C m f ∧ L2.Binds K fd ps []
section
variable {X : Cx} {k j : Nat} {x m : Str} {C : Addr} {sp : Sp} {t : TA} {e o : Expr} {es : List Expr} {p pos apos : Pos} {ta : TE}
theorem pe_kn (G : Kn X.prog X.w X.K X.mg X.base k x sp) (hr : Room j X.A) (hg : Gl X x) (ha : PA X (e :: es) t) (hk : k ≤ j := by decide) (hdb : (x == ("__debug__" : Str)) = false := by decide)
    (he : starEach (e :: es) X.env = (false, eval e X.env) :: starEach es X.env := by rfl) (hpl : (backTo pos (starEach es X.env)).any (·.1) = false := by rfl) : PE X (.Call (.Name x p) (e :: es) [] pos) (tCall sp [] L2.E0 t) := by
  obtain ⟨f, fd, ps, F, hm, kp, b⟩ := G.ex
  exact pe_call F (hr.mono hk) hg hm kp b .nil L2.pass0 ha hdb he hpl
theorem pe_knm {pl : Sem Bool} (ho : PE X o ta) (c : Cls X.K C) (G : KnM X.prog X.w X.K X.mg X.base k C m sp) (hr : Room j X.A) (ha : PA X (e :: es) t) (hk : k ≤ j := by decide)
    (he : starEach (e :: es) X.env = (false, eval e X.env) :: starEach es X.env := by rfl) (hpl : (backTo pos (starEach es X.env)).any (·.1) = false := by rfl)
    (ht : eval (.Call (.Attribute o m apos) (e :: es) [] pos) X.env = (do
      let ov ← eval o X.env
      standAt apos.atName
      let (f, first) ← holding [ov] (getMethod ov m pl)
      callWith pos f first (backTo pos (starEach (e :: es) X.env)) (backToKw pos (keywordEach [] X.env))) := by rfl) : PE X (.Call (.Attribute o m apos) (e :: es) [] pos) (tMeth C m sp [] L2.E0 ta t) := by
  obtain ⟨f, fd, ps, F, hm, b⟩ := G.ex
  exact pe_meth ho c hm F (hr.mono hk) b .nil L2.pass0 ha he hpl ht
end

/-! ### data -/
def dIsInt : PyData → Bool
  | .int _ => true
  | _ => false
def dType : PyData → String
  | .none => "NoneType"
  | .bool _ => "bool"
  | .int _ => "int"
  | .str _ => "str"
  | .list _ => "list"
  | .tuple _ => "tuple"
  | .dict _ => "dict"
section
variable {K : PySem.W.Frag} {H H' : Hp} {v : V} {d : PyData}
theorem rd_ext {a : Addr} {o : HO} (e : ExtN H H') (n : ∀ ps, o ≠ .tbl ps) (h : Rd H a o) : Rd H' a o := h.elim (fun z => .inl (e _ _ z n)) fun ⟨od, z⟩ => .inr ⟨od, e _ _ z fun _ q => by cases q⟩
theorem sqL_ext {a : Addr} {xs : List V} (e : ExtN H H') (h : SqL K H a xs) : SqL K H' a xs := h.elim (fun z => .inl (rd_ext e (fun _ q => by cases q) z)) .inr
theorem sqT_ext {a : Addr} {xs : List V} (e : ExtN H H') (h : SqT K H a xs) : SqT K H' a xs := h.elim (fun z => .inl (rd_ext e (fun _ q => by cases q) z)) .inr
mutual
theorem dp_ext (e : ExtN H H') : ∀ {v : V} {d : PyData}, Dp K H v d → Dp K H' v d
  | _, _, .non => .non
  | _, _, .bl b => .bl b
  | _, _, .int i => .int i
  | _, _, .str x => .str x
  | _, _, .lst h t => .lst (sqL_ext e h) (dpAll_ext e t)
  | _, _, .tup h t => .tup (sqT_ext e h) (dpAll_ext e t)
theorem dpAll_ext (e : ExtN H H') : ∀ {vs : List V} {ds : List PyData}, DpAll K H vs ds → DpAll K H' vs ds
  | _, _, .nil => .nil
  | _, _, .cons h t => .cons (dp_ext e h) (dpAll_ext e t)
end
theorem exN {H H' : Hp} (e : Ex H H') : ExtN H H' := fun b o h _ => e b o h
theorem dpAll_len : ∀ {vs : List V} {ds : List PyData}, DpAll K H vs ds → vs.length = ds.length
  | _, _, .nil => rfl
  | _, _, .cons _ t => congrArg (· + 1) (dpAll_len t)
theorem dpAll_at : ∀ {vs : List V} {ds : List PyData} {i : Nat} {v : V}, DpAll K H vs ds → vs[i]? = some v → ∃ d, ds[i]? = some d ∧ Dp K H v d
  | _, _, _, _, .nil, h => by simp at h
  | _, _, 0, _, .cons h t, e => by
    simp at e
    subst e
    exact ⟨_, rfl, h⟩
  | _, _, i + 1, _, .cons h t, e => by
    simp only [List.getElem?_cons_succ] at e ⊢
    exact dpAll_at t e
theorem dpAll_app : ∀ {vs us : List V} {ds es : List PyData}, DpAll K H vs ds → DpAll K H us es → DpAll K H (vs ++ us) (ds ++ es)
  | _, _, _, _, .nil, q => q
  | _, _, _, _, .cons h t, q => .cons h (dpAll_app t q)
theorem dpAll_ints : ∀ ns : List Int, DpAll K H (ns.map V.int) (ns.map .int)
  | [] => .nil
  | n :: ns => .cons (.int n) (dpAll_ints ns)
theorem dpAll_ints_inv : ∀ {vs : List V} {ns : List Int}, DpAll K H vs (ns.map .int) → vs = ns.map V.int
  | _, [], h => by cases h; rfl
  | _, n :: ns, h => by
    cases h with
    | cons h t =>
      cases h
      rw [dpAll_ints_inv t]; rfl
/-- a tuple of whole numbers -/
theorem dp_row {ns : List Int} (h : Dp K H v (.tuple (ns.map .int))) : ∃ t, v = .ref t ∧ SqT K H t (ns.map V.int) := by
  cases h with
  | tup h t => exact ⟨_, rfl, by rw [← dpAll_ints_inv t]; exact h⟩
theorem dp_pair {a b : Int} (h : Dp K H v (.tuple [.int a, .int b])) : ∃ t, v = .ref t ∧ SqT K H t [.int a, .int b] := dp_row (ns := [a, b]) h
theorem dp_of_pair {t : Addr} {a b : Int} (h : SqT K H t [.int a, .int b]) : Dp K H (.ref t) (.tuple [.int a, .int b]) := .tup h (.cons (.int a) (.cons (.int b) .nil))
theorem sqL_ty {a : Addr} {xs : List V} (h : SqL K H a xs) : TyX K H (.ref a) (.type "list") := by
  rcases h with (h | ⟨o, h⟩) | ⟨o, its, n, hk, hc, _⟩
  · exact .base (.lst h)
  · exact .base (.frz h)
  · exact .kList hk hc
theorem sqT_ty {a : Addr} {xs : List V} (h : SqT K H a xs) : TyX K H (.ref a) (.type "tuple") := by
  rcases h with (h | ⟨o, h⟩) | ⟨o, its, n, hk, hc, _⟩
  · exact .base (.tup h)
  · exact .fTuple h
  · exact .kTuple hk hc
theorem dp_ty (h : Dp K H v d) : TyX K H v (.type (dType d)) := by
  cases h with
  | non => exact .base .non
  | bl b => exact .base (.bl b)
  | int i => exact .base (.int i)
  | str x => exact .base (.str x)
  | lst h _ => exact sqL_ty h
  | tup h _ => exact sqT_ty h
theorem dp_type6 (h : Dp K H v d) : dType d = "NoneType" ∨ dType d = "bool" ∨ dType d = "int" ∨ dType d = "str" ∨ dType d = "list" ∨ dType d = "tuple" := by
  cases h <;> simp [dType]
/-- isinstance of data -/
theorem rv_isi {c : String} (hc : c = "int" ∨ c = "bool" ∨ c = "tuple" ∨ c = "str" ∨ c = "list") (h : Dp K H v d) {Q : VK} (q : Q (.bl (decide (dType d = c) || (decide (c = "int") && decide (dType d = "bool")))) H) : rIsi K [v, .ty c] H Q := by
  refine ⟨v, .ty c, .type (dType d), .type c, _, rfl, .ty c, dp_ty h, kit_ty ?_, q⟩
  rcases dp_type6 h with e | e | e | e | e | e <;> rw [e] <;> rcases hc with rfl | rfl | rfl | rfl | rfl <;> decide +kernel
end
end Gx

/-! globals of the module as facts over K; defs whose code object is known (lambdas) -/
namespace Gx
open PySem PySem.Spec PyProof.Rows L2 LamX Evl He

section
variable {X : Cx} {x : Str} {pos : Pos}
theorem pe_gint {i : Int} (hg : Gl X x) (hm : ∃ t, X.mg x = some (.int i t)) (hd : (x == ("__debug__" : Str)) = false := by decide) : PE X (.Name x pos) (tC (.int i)) := by
  obtain ⟨t, h⟩ := hm
  exact pe_glob hg h ⟨_, rfl⟩ hd
theorem pe_gref {a : Addr} (hg : Gl X x) (hm : X.mg x = some (.ref a)) (hd : (x == ("__debug__" : Str)) = false := by decide) : PE X (.Name x pos) (tC (.ref a)) := pe_glob hg hm rfl hd
end
/-! ### a tuple of texts at the top -/
def strsB : List Value → List Str → Bool
  | [], [] => true
  | .str x _ :: us, y :: ys => decide (x = y) && strsB us ys
  | _, _ => false
theorem strsB_vals : ∀ {us : List Value} {ys : List Str}, strsB us ys = true → Vals (ys.map V.str) us
  | [], [], _ => .nil
  | .str x t :: us, y :: ys, h => by
    obtain ⟨h1, h2⟩ := ba h
    have e := of_decide_eq_true h1
    subst e
    exact .cons ⟨t, rfl⟩ (strsB_vals h2)
  | [], _ :: _, h => by cases h
  | u :: us, [], h => by cases u <;> cases h
  | .none :: _, _ :: _, h => by cases h
  | .bool _ :: _, _ :: _, h => by cases h
  | .int _ _ :: _, _ :: _, h => by cases h
  | .ref _ :: _, _ :: _, h => by cases h
  | .type _ :: _, _ :: _, h => by cases h
  | .float _ _ :: _, _ :: _, h => by cases h
  | .bytes _ _ :: _, _ :: _, h => by cases h
  | .builtin _ :: _, _ :: _, h => by cases h
  | .ellipsis :: _, _ :: _, h => by cases h
  | .notImplemented :: _, _ :: _, h => by cases h
def tupB (K : PySem.W.Frag) (x : Str) (l : List Str) : Bool := match K.lookup (ga K x) with
  | some ⟨.type c, _, .seq its _, _⟩ => decide (c = "tuple") && (decide (its.size ≤ 1000) && strsB its.toList l)
  | _ => false
theorem tupB_ok {K : PySem.W.Frag} {x : Str} {l : List Str} (h : tupB K x l = true) (H : Hp) : SqT K H (ga K x) (l.map V.str) := by
  unfold tupB at h
  split at h
  · rename_i c dd its n sl hk
    obtain ⟨h1, h2⟩ := ba h
    obtain ⟨h3, h4⟩ := ba h2
    have e := of_decide_eq_true h1
    subst e
    exact .inr ⟨_, its, n, hk, rfl, rfl, Nat.le_trans (of_decide_eq_true h3) (by decide), strsB_vals h4⟩
  · cases h
/-- an int under a text key of a dict at the top -/
def dictIntB (K : PySem.W.Frag) (x k : Str) (i : Int) : Bool := match PySem.W.nsIn K (ga K x) k with
  | some (some (.int j _)) => decide (j = i)
  | _ => false
theorem dictIntB_ok {K : PySem.W.Frag} {w : World} {x k : Str} {i : Int} (h : dictIntB K x k i = true) (d : ∃ es n, KDict K w (ga K x) es n) : KDct K w (ga K x) k (.int i) := by
  unfold dictIntB at h
  obtain ⟨es, n, hd⟩ := d
  split at h
  · rename_i j t hk
    have e := of_decide_eq_true h
    subst e
    exact ⟨es, n, .int j t, hd.at_, hd.lit, hk, ⟨t, rfl⟩⟩
  · cases h
section
variable {P : Program} {w : World} {K : PySem.W.Frag} {mg : Str → Option Value} {base : Heap} {x qual : Str} {params : Arguments} {body : List Stmt} {scope : Scope} {dvs : List V} {kws : List (Str × V)} {p : Str × Option Str} {fd : FuncData}
/-- a def by its body, its own code object known (a lambda within asks it) -/
theorem okC {CX : CXT} {N ps : List Str} {k : Nat} {sp : Sp} (F : FunD K x qual params body scope dvs kws (fAd K p) fd) (S : FnScope N ps scope) (len : ∀ vs H Q E, sp vs H Q E → vs.length = ps.length)
    (hbody : ∀ (A : Around) (outer : List Env) (s : Shared) (H : Hp) (vs : List V) (Q : VK) (E : XK), Room k (A.deeper (envOfC qual scope s.heap.objs.size (fAd K p) (.ref (codeOf K p)))) → sp vs H Q E →
      ∃ t, PSs (cxOf CX P w K mg base N qual scope (fAd K p) (.ref (codeOf K p)) A outer s H E) body t ∧ t { nx := fun _ H' => Q .non H', rt := Q } (L2.start N vs) H) : FnOk P w K mg base CX (k + 1) (fAd K p) fd ps sp := by
  obtain ⟨oc, od, dV, kV, doc, pm, an, cdv, ct, osl, rfl, lk, hcd, _, _⟩ := F.ex
  obtain ⟨c, e⟩ := codeIn_ref hcd
  subst e
  have ec : codeOf K p = c := codeOf_eq lk rfl
  refine fn_of lk hcd S len fun A outer s H vs Q E hr hsp => ?_
  have q := hbody A outer s H vs Q E (by rw [ec]; exact hr) hsp
  rw [ec] at q
  exact q
theorem kn_of {k : Nat} {sp : Sp} {ps : List Str} (F : FunD K x qual params body scope [] kws (fAd K (x, none)) fd) (G : FnOk P w K mg base L2.CX0 k (fAd K (x, none)) fd ps sp) (g : mg x = some (.ref (fAd K (x, none))))
    (h : ∀ (kV doc pm : Value) (an : Option Addr) (cdv ct : Value) (us : List Value), us.length = ps.length → bindArgs (PySem.W.fnOf x qual params body scope .none kV doc pm an cdv ct) ⟨us, []⟩ = pure (ps.zip us)) : Kn P w K mg base k x sp :=
  ⟨_, fd, ps, G, g, F.kp, F.bindsN h⟩
theorem knm_of {k : Nat} {C : Addr} {m : Str} {sp : Sp} {ps : List Str} {f : Addr} (F : FunD K x qual params body scope [] kws f fd) (G : FnOk P w K mg base L2.CX0 k f fd ps sp) (hm : Meth K C m f)
    (h : ∀ (kV doc pm : Value) (an : Option Addr) (cdv ct : Value) (us : List Value), us.length = ps.length → bindArgs (PySem.W.fnOf x qual params body scope .none kV doc pm an cdv ct) ⟨us, []⟩ = pure (ps.zip us)) : KnM P w K mg base k C m sp :=
  ⟨_, fd, ps, G, hm, F.bindsN h⟩
end
end Gx

/-! what readings evaluate to (over growing heaps) -/
namespace Gx
open PySem PySem.Spec PyProof.Rows L2 LamX Evl He

/-- a truth about data, the heap grown -/
def spD (K : PySem.W.Frag) (f : PyData → Bool) : Sp := fun vs H Q _ => ∃ v d, vs = [v] ∧ Dp K H v d ∧ ∀ H', Ex H H' → Q (.bl (f d)) H'
section
variable {K : PySem.W.Frag} {σ : L2.St} {H : Hp} {te ta tb tc : TE} {v x : V} {d : PyData}
theorem dp_ex {H' : Hp} (e : Ex H H') (h : Dp K H v d) : Dp K H' v d := dp_ext (exN e) h
theorem ev_isi {c : String} (hc : c = "int" ∨ c = "bool" ∨ c = "tuple" ∨ c = "str" ∨ c = "list") (h : Ev te σ H v) (hd : Dp K H v d) :
    Ev (tCB (rIsi K) (tCons te (tCons (tC (.ty c)) tNil))) σ H (.bl (decide (dType d = c) || (decide (c = "int") && decide (dType d = "bool")))) := fun H1 e Q q =>
  h H1 e _ fun H2 e2 => rv_isi hc (dp_ex (e.trans e2) hd) (q H2 e2)
theorem ev_spD {f : PyData → Bool} {E : XK} (h : Ev te σ H v) (hd : Dp K H v d) : Ev (tCall (spD K f) [] E (tCons te tNil)) σ H (.bl (f d)) := fun H1 e Q q =>
  h H1 e _ fun H2 e2 => ⟨v, d, rfl, dp_ex (e.trans e2) hd, fun H3 e3 => q H3 (e2.trans e3)⟩
/-- a op b op' c of whole numbers -/
theorem ev_chainI {r r' : R2} {i j k : Int} {p p' : Bool} (ha : Ev ta σ H (.int i)) (hb : Ev tb σ H (.int j)) (hr : RV r (.int i) (.int j) H (.bl p)) (hc : Ev tc σ H (.int k)) (hr' : RV r' (.int j) (.int k) H (.bl p')) :
    Ev (tChain r r' ta tb tc) σ H (.bl (p && p')) := fun H1 e Q q =>
  ha H1 e _ fun H2 e2 => hb H2 (e.trans e2) _ fun H3 e3 => hr H3 ((e.trans e2).trans e3) _ fun H4 e4 => ⟨p, rfl, by
    cases p with
    | true =>
      rw [if_pos rfl]
      exact hc H4 (((e.trans e2).trans e3).trans e4) _ fun H5 e5 => hr' H5 ((((e.trans e2).trans e3).trans e4).trans e5) _ fun H6 e6 => q H6 ((((e2.trans e3).trans e4).trans e5).trans e6)
    | false =>
      rw [if_neg Bool.false_ne_true]
      exact q H4 ((e2.trans e3).trans e4)⟩
theorem rv_le {i j : Int} : RV (rI0 fun i j => .bl (decide (i ≤ j))) (.int i) (.int j) H (.bl (decide (i ≤ j))) := rv_I0
theorem rv_lt {i j : Int} : RV (rI0 fun i j => .bl (decide (i < j))) (.int i) (.int j) H (.bl (decide (i < j))) := rv_I0
/-- x in (a, b) -/
theorem ev_in2 {a b : V} (hx : Ev te σ H x) (ha : Ev ta σ H a) (hb : Ev tb σ H b) (fx : flatV x = true) (fa : flatV a = true) (fb : flatV b = true) :
    Ev (tOp (rIn K false) te (tTup (tCons ta (tCons tb tNil)))) σ H (.bl (inV x [a, b])) := ev_inU hx (eu_tup (ea_cons ha (ea_cons hb ea_nil)) (by show 2 ≤ 100000; decide)) fx (by simp [fa, fb])
/-- t[i] of a tuple that stands -/
theorem ev_ixT {p : Addr} {xs : List V} {i : Int} (ht : Ev te σ H (.ref p)) (hs : SqT K H p xs) (ha : atI xs i = some v) : Ev (tOp (rIxT K) te (tC (.int i))) σ H v := ev_op ht ev_c (rv_ixT hs ha)
theorem ev_lenT {p : Addr} {xs : List V} (ha : Ev ta σ H (.ref p)) (h : SqT K H p xs) : Ev (tCB (rLenS K) (tCons ta tNil)) σ H (.int (xs.length : Int)) := fun H1 e Q q =>
  ha H1 e _ fun H2 e2 => ⟨p, xs, rfl, Or.inr (ex_t (e.trans e2) h), q H2 e2⟩
end
/-! a if t else b as a test -/
def tIfT (t ta tb : TT) : TT := fun σ H Q => t σ H fun c H1 => if c = true then ta σ H1 Q else tb σ H1 Q
theorem pt_never {X : Cx} {e : Expr} : PT X e (fun _ _ _ => False) := ⟨fun _ _ _ _ _ _ h => h.elim⟩
theorem pt_ifExp {X : Cx} {c a b : Expr} {t ta tb : TT} {pos : Pos} (hc : PT X c t) (ha : PT X a ta) (hb : PT X b tb) : PT X (.IfExp c a b pos) (tIfT t ta tb) := by
  refine ⟨fun pins s σ H Q I h => ?_⟩
  refine isTrue_IfExp (thn (hc.run pins s σ H _ I h) fun d s1 ⟨H1, I1, q1⟩ => ?_)
  cases d with
  | true => exact ha.run pins s1 σ H1 Q I1 q1
  | false => exact hb.run pins s1 σ H1 Q I1 q1
theorem et_if {σ : L2.St} {H : Hp} {t ta tb : TT} {b c : Bool} (h : EvT t σ H b) (h1 : b = true → EvT ta σ H c) (h2 : b = false → EvT tb σ H c) : EvT (tIfT t ta tb) σ H c := fun H1 e Q q => h H1 e _ fun H2 e2 => by
  cases b with
  | true =>
    rw [if_pos rfl]
    exact h1 rfl H2 (e.trans e2) Q fun H3 e3 => q H3 (e2.trans e3)
  | false =>
    rw [if_neg Bool.false_ne_true]
    exact h2 rfl H2 (e.trans e2) Q fun H3 e3 => q H3 (e2.trans e3)
end Gx

/-! the sweep's plain meanings -/
namespace Gx
open PySem PySem.Spec PyProof.Rows L2 LamX Evl He
def FIRST : Int := -(10 ^ 31)
def LAST : Int := 10 ^ 31
def MOST : Int := 10 ^ 30
def nearB (i : Int) : Bool := decide (-MOST ≤ i) && decide (i ≤ MOST)
def edgeB (i : Int) : Bool := (decide (i = FIRST) || decide (i = LAST)) || nearB i
def edgeD : PyData → Bool
  | .int i => edgeB i
  | _ => false
def pairD : PyData → Bool
  | .tuple [a, b] => edgeD a && edgeD b
  | _ => false
def stretchD : PyData → Bool
  | .tuple [.int a, .int b] => (edgeB a && edgeB b) && (decide (FIRST < b) && (decide (a < LAST) && decide (a ≤ b)))
  | _ => false
def spNear : Sp := fun vs H Q _ => ∃ i, vs = [.int i] ∧ ∀ H', Ex H H' → Q (.bl (nearB i)) H'
theorem ev_near {σ : L2.St} {H : Hp} {te : TE} {i : Int} {E : XK} (h : Ev te σ H (.int i)) : Ev (tCall spNear [] E (tCons te tNil)) σ H (.bl (nearB i)) := fun H1 e Q q => h H1 e _ fun H2 e2 => ⟨i, rfl, fun H3 e3 => q H3 (e2.trans e3)⟩
/-- what is_integer, is_edge say -/
theorem edge_val (i : Int) : (dIsInt (.int i) && (inV (.int i) [.int (-(10 ^ 31)), .int (10 ^ 31)] || nearB i)) = edgeD (.int i) := by
  have e : ∀ a b : Int, (a == b) = decide (b = a) := fun a b => by
    by_cases h : b = a
    · rw [h]; simp
    · rw [decide_eq_false h]; exact beq_eq_false_iff_ne.mpr fun z => h z.symm
  simp only [inV, List.any_cons, List.any_nil, eqV, e, Bool.or_false, dIsInt, Bool.true_and]
  rfl
theorem decV {i j : Int} : decide (V.int i = V.int j) = decide (i = j) := by simp
/-- a pair, by its parts -/
theorem ev_pair {K : PySem.W.Frag} {σ : L2.St} {H : Hp} {v : V} {d : PyData} {E : XK} (hv : σ[0]? = some (some v)) (hd : Dp K H v d) :
    Ev (tAndV (tCB (rIsi K) (tCons (tVar 0) (tCons (tC (.ty "tuple")) tNil))) (tAndV (tOp rEq (tCB (rLenS K) (tCons (tVar 0) tNil)) (tC (.int 2)))
      (tAndV (tCall (spD K edgeD) [] E (tCons (tOp (rIxT K) (tVar 0) (tC (.int 0))) tNil)) (tCall (spD K edgeD) [] E (tCons (tOp (rIxT K) (tVar 0) (tC (.int 1))) tNil))))) σ H (.bl (pairD d)) := by
  have no : ∀ {b : Bool} {t : TE}, dType d ≠ "tuple" → b = false → Ev (tAndV (tCB (rIsi K) (tCons (tVar 0) (tCons (tC (.ty "tuple")) tNil))) t) σ H (.bl b) := fun {b t} h hb => by
    refine ev_is (ev_andV (b := false) (ev_isi (by simp) (ev_var hv) hd) fun z => ?_) ?_
    · simp [h] at z
    · rw [hb]; simp [h]
  cases hd with
  | @tup t xs ds hs ha =>
    refine ev_is (ev_andV (b := pairD (.tuple ds)) (ev_isi (by simp) (ev_var hv) (.tup hs ha)) fun _ => ?_) (by simp [dType])
    have hl := dpAll_len ha
    have l := ev_op (ev_lenT (K := K) (σ := σ) (ev_var (i := 0) hv) hs) (ev_c (v := V.int 2)) (rv_eq (H := H) (x := V.int (xs.length : Int)) (y := V.int 2) rfl)
    cases ha with
    | nil => exact ev_is (ev_andV (b := false) l fun z => by simp at z) (by simp [pairD])
    | cons h1 t1 =>
      cases t1 with
      | nil => exact ev_is (ev_andV (b := false) l fun z => by simp at z) (by simp [pairD])
      | cons h2 t2 =>
        cases t2 with
        | cons h3 t3 => exact ev_is (ev_andV (b := false) l fun z => by simp at z; omega) (by simp [pairD])
        | nil => exact ev_is (ev_andV l fun _ => ev_andV (ev_spD (ev_ixT (ev_var hv) hs rfl) h1) fun _ => ev_spD (ev_ixT (ev_var hv) hs rfl) h2) (by simp [pairD])
  | non => exact no (by simp [dType]) rfl
  | bl b => exact no (by simp [dType]) rfl
  | int i => exact no (by simp [dType]) rfl
  | str x => exact no (by simp [dType]) rfl
  | lst h t => exact no (by simp [dType]) rfl
theorem pair_ints {d : PyData} (h : pairD d = true) : ∃ a b, d = .tuple [.int a, .int b] := by
  unfold pairD at h
  split at h
  · rename_i a b
    obtain ⟨h1, h2⟩ := Bool.and_eq_true_iff.mp h
    cases a <;> simp [edgeD] at h1
    cases b <;> simp [edgeD] at h2
    exact ⟨_, _, rfl⟩
  · cases h
theorem stretch_no {d : PyData} (h : pairD d = false) : stretchD d = false := by
  cases q : stretchD d with
  | false => rfl
  | true =>
    unfold stretchD at q
    split at q
    · rename_i a b
      rw [show pairD (.tuple [.int a, .int b]) = (edgeB a && edgeB b) from rfl] at h
      rw [h] at q
      cases q
    · cases q
end Gx

/-! loops over enumerate, targets -/
namespace Gx
open PySem PySem.Spec PyProof.Rows L2 LamX Evl He
section
variable {K : PySem.W.Frag} {σ : L2.St} {H : Hp} {te : TE} {D : Ends} {tb : TS} {g : TG} {t u : TG}
/-- a, b = a tuple of two -/
theorem g_nn {T : Addr} {x y : V} {i j : Nat} {Q : L2.St → Hp → Prop} (h : SqT K H T [x, y]) (k : Q ((σ.set i (some x)).set j (some y)) H) : gTup K 2 (gCons (gName i) (gCons (gName j) gNil)) (.ref T) σ H Q :=
  ⟨T, [x, y], rfl, h, rfl, x, [y], rfl, y, [], rfl, rfl, k⟩
/-- i, (a, b) = a tuple of one and a tuple of two -/
theorem g_nnn {T U : Addr} {x y z : V} {i j l : Nat} {Q : L2.St → Hp → Prop} (h : SqT K H T [x, .ref U]) (h2 : SqT K H U [y, z]) (k : Q (((σ.set i (some x)).set j (some y)).set l (some z)) H) :
    gTup K 2 (gCons (gName i) (gCons (gTup K 2 (gCons (gName j) (gCons (gName l) gNil))) gNil)) (.ref T) σ H Q :=
  ⟨T, [x, .ref U], rfl, h, rfl, x, [.ref U], rfl, .ref U, [], rfl, U, [y, z], rfl, h2, rfl, y, [z], rfl, z, [], rfl, rfl, rfl, k⟩
/-- for .. in enumerate(a list or tuple) -/
theorem s_forE {a : Addr} {xs : List V} (h : Ev te σ H (.ref a)) (hx : SqL K H a xs ∨ SqT K H a xs) (Pv : Nat → L2.St → Hp → Prop) (h0 : ∀ H1, Ex H H1 → Pv 0 σ H1) (hl : ∀ i σ' H', i ≤ xs.length → Pv i σ' H' → SqL K H a xs → SqL K H' a xs) (hl2 : ∀ i σ' H', i ≤ xs.length → Pv i σ' H' → SqT K H a xs → SqT K H' a xs)
    (hs : ∀ i x σ' H' T, xs[i]? = some x → Pv i σ' H' → H' T = none → g (.ref T) σ' (upd H' T (.tup [.int (i : Nat), x])) fun σ2 H2 => tb { D with nx := Pv (i + 1), ct := Pv (i + 1), bk := D.nx } σ2 H2) (hd : ∀ σ' H', Pv xs.length σ' H' → D.nx σ' H') :
    tFor (iEnumS K (tCons te tNil)) g tb D σ H := by
  refine h H (Ex.refl H) _ fun H1 e => ⟨a, xs, rfl, ?_⟩
  have fin : ∀ {i : Nat}, i ≤ xs.length → ¬ i < xs.length → i = xs.length := fun h1 h2 => by omega
  rcases hx with hx | hx
  · refine .inl ⟨ex_l e hx, fun i m σ' H' => i ≤ xs.length ∧ m = xs.length - i ∧ Pv i σ' H', ⟨_, Nat.zero_le _, rfl, h0 H1 e⟩, fun i m σ' H' ⟨hi, hm, hp⟩ => ?_⟩
    have sq := hl i σ' H' hi hp hx
    by_cases hlt : i < xs.length
    · refine .inr ⟨⟨xs, xs[i], sq, List.getElem?_eq_getElem hlt⟩, Pv (i + 1), fun σ2 H2 hN => ⟨xs.length - (i + 1), by omega, hlt, rfl, hN⟩, fun x H2 ⟨T, y, ex, hT, eH, hy⟩ => ?_⟩
      subst ex eH
      exact hs i y σ' H' T (hy xs sq) hp hT
    · have := fin hi hlt
      subst this
      exact .inl ⟨⟨xs, sq, Nat.le_refl _⟩, hd σ' H' hp⟩
  · refine .inr ⟨ex_t e hx, fun i m σ' H' => i ≤ xs.length ∧ m = xs.length - i ∧ Pv i σ' H', ⟨_, Nat.zero_le _, rfl, h0 H1 e⟩, fun i m σ' H' ⟨hi, hm, hp⟩ => ?_⟩
    have sq := hl2 i σ' H' hi hp hx
    by_cases hlt : i < xs.length
    · refine .inr ⟨⟨xs, xs[i], sq, List.getElem?_eq_getElem hlt⟩, Pv (i + 1), fun σ2 H2 hN => ⟨xs.length - (i + 1), by omega, hlt, rfl, hN⟩, fun x H2 ⟨T, y, ex, hT, eH, hy⟩ => ?_⟩
      subst ex eH
      exact hs i y σ' H' T (hy xs sq) hp hT
    · have := fin hi hlt
      subst this
      exact .inl ⟨⟨xs, sq, Nat.le_refl _⟩, hd σ' H' hp⟩
end
/-- all of them stretches: nothing is raised -/
def spCheck (K : PySem.W.Frag) : Sp := fun vs H Q _ => ∃ a xs ds, vs = [.ref a] ∧ (SqL K H a xs ∨ SqT K H a xs) ∧ DpAll K H xs ds ∧ (∀ d ∈ ds, stretchD d = true) ∧ ∀ H', Ex H H' → Q .non H'
section
variable {K : PySem.W.Frag} {σ : L2.St} {H : Hp} {te : TE} {D : Ends} {t u : TS} {x y : Str}
theorem mT (h : x = y) (k : t D σ H) : (if x = y then t else u) D σ H := by rw [if_pos h]; exact k
theorem mF (h : ¬ x = y) (k : u D σ H) : (if x = y then t else u) D σ H := by rw [if_neg h]; exact k
theorem s_match {u : Str → TS} (h : Ev te σ H (.str x)) (k : ∀ H1, Ex H H1 → u x D σ H1) : (fun (D : Ends) σ H => te σ H fun v H1 => ∃ x, v = .str x ∧ u x D σ H1) D σ H := h H (Ex.refl H) _ fun H1 e => ⟨x, rfl, k H1 e⟩
end
/-- the seven orders of stretches -/
def spanOrders : List Str := ["any", "begin", "begin end", "begin back", "end", "end begin", "end back"]
def rank (o : Str) (a b : Int) : List Int :=
  if o = "begin" then [a] else if o = "begin end" then [a, b] else if o = "begin back" then [a, -b] else if o = "end" then [b] else if o = "end begin" then [b, a] else if o = "end back" then [b, -a] else []
def rankLen (o : Str) : Nat :=
  if o = "begin" then 1 else if o = "begin end" then 2 else if o = "begin back" then 2 else if o = "end" then 1 else if o = "end begin" then 2 else if o = "end back" then 2 else 0
theorem rank_len (o : Str) (a b : Int) : (rank o a b).length = rankLen o := by
  unfold rank rankLen
  repeat' split
  all_goals rfl
def spRank (K : PySem.W.Frag) : Sp := fun vs H Q _ => ∃ o t a b, vs = [.str o, .ref t] ∧ o ∈ spanOrders ∧ SqT K H t [.int a, .int b] ∧ ∀ p H', H p = none → Ex H H' → H' p = some (.tup ((rank o a b).map V.int)) → Q (.ref p) H'
/-- a text among written ones -/
def spWord (K : PySem.W.Frag) : Sp := fun vs H Q _ => ∃ x p ws, vs = [.str x, .ref p] ∧ SqT K H p ((ws : List Str).map V.str) ∧ ∀ H', Ex H H' → Q (.bl (decide (x ∈ ws))) H'
theorem inV_str (x : Str) : ∀ ws : List Str, inV (.str x) (ws.map V.str) = decide (x ∈ ws)
  | [] => rfl
  | w :: ws => by
    have e : inV (.str x) ((w :: ws).map V.str) = ((w == x) || inV (.str x) (ws.map V.str)) := rfl
    rw [e, inV_str x ws]
    by_cases h : x = w
    · subst h; simp
    · have h' : (w == x) = false := beq_eq_false_iff_ne.mpr (Ne.symm h)
      rw [h']
      simp [h]
theorem flat_strs (ws : List Str) : (ws.map V.str).all flatV = true := by
  rw [List.all_map]
  exact List.all_eq_true.mpr fun _ _ => rfl
def spRead : Sp := fun vs H Q _ => ∃ o, vs = [.str o] ∧ o ∈ spanOrders ∧ ∀ H', Ex H H' → Q (.str "stretches") H'
def spItems (K : PySem.W.Frag) : Sp := fun vs H Q _ => ∃ a xs ds, vs = [.str "stretches", .ref a] ∧ (SqL K H a xs ∨ SqT K H a xs) ∧ DpAll K H xs ds ∧ (∀ d ∈ ds, stretchD d = true) ∧ ∀ H', Ex H H' → Q .non H'
end Gx

/-! rows: lists of pairs of whole numbers; sorting them by a key -/
namespace Gx
open PySem PySem.Spec PyProof.Rows L2 LamX NdefX Evl He
def rowOf (H : Hp) (x : V) : Int × Int := match x with
  | .ref t => (match H t with
    | some (.tup [.int a, .int b]) => (a, b)
    | _ => (0, 0))
  | _ => (0, 0)
theorem rowOf_at {H : Hp} {t : Addr} {a b : Int} (h : H t = some (.tup [.int a, .int b])) : rowOf H (.ref t) = (a, b) := by
  simp only [rowOf, h]
def IsRow (H : Hp) (x : V) : Prop := ∃ t a b, x = .ref t ∧ H t = some (.tup [.int a, .int b])
structure Rows (H : Hp) (xs : List V) (rs : List (Int × Int)) : Prop where
  all : ∀ x ∈ xs, IsRow H x
  val : rs = xs.map (rowOf H)
def rowP (r : Int × Int) : PyData := .tuple [.int r.1, .int r.2]
/-- nothing but a table may have stood there -/
def New (H : Hp) (a : Addr) : Prop := ∀ o, H a = some o → ∃ ps, o = .tbl ps
section
variable {K : PySem.W.Frag} {H H' : Hp} {xs ys : List V} {rs ss : List (Int × Int)} {x : V}
theorem IsRow.ext (e : ExtN H H') (h : IsRow H x) : IsRow H' x := by
  obtain ⟨t, a, b, rfl, h⟩ := h
  exact ⟨t, a, b, rfl, e _ _ h fun _ z => by cases z⟩
theorem rowOf_ext (e : ExtN H H') (h : IsRow H x) : rowOf H' x = rowOf H x := by
  obtain ⟨t, a, b, rfl, h⟩ := h
  rw [rowOf_at h, rowOf_at (e _ _ h fun _ z => by cases z)]
theorem Rows.ext (e : ExtN H H') (h : Rows H xs rs) : Rows H' xs rs :=
  ⟨fun x hx => (h.all x hx).ext e, by rw [h.val]; exact List.map_congr_left fun x hx => (rowOf_ext e (h.all x hx)).symm⟩
theorem Rows.nil : Rows H [] [] := ⟨fun _ h => by simp at h, rfl⟩
theorem Rows.app (h : Rows H xs rs) (q : Rows H ys ss) : Rows H (xs ++ ys) (rs ++ ss) :=
  ⟨fun x hx => (List.mem_append.mp hx).elim (h.all x) (q.all x), by rw [h.val, q.val, List.map_append]⟩
theorem Rows.one {t : Addr} {a b : Int} (h : H t = some (.tup [.int a, .int b])) : Rows H [.ref t] [(a, b)] :=
  ⟨fun x hx => by rw [List.mem_singleton.mp hx]; exact ⟨t, a, b, rfl, h⟩, by rw [List.map_singleton, rowOf_at h]⟩
theorem Rows.two {t u : Addr} {a b c d : Int} (h : H t = some (.tup [.int a, .int b])) (h2 : H u = some (.tup [.int c, .int d])) : Rows H [.ref t, .ref u] [(a, b), (c, d)] := (Rows.one h).app (Rows.one h2)
theorem Rows.len (h : Rows H xs rs) : xs.length = rs.length := by rw [h.val, List.length_map]
theorem Rows.at_ (h : Rows H xs rs) {i : Nat} (e : xs[i]? = some x) : ∃ t a b, x = .ref t ∧ H t = some (.tup [.int a, .int b]) ∧ rs[i]? = some (a, b) := by
  obtain ⟨t, a, b, rfl, ht⟩ := h.all x (List.mem_of_getElem? e)
  exact ⟨t, a, b, rfl, ht, by rw [h.val, List.getElem?_map, e]; show some (rowOf H (.ref t)) = _; rw [rowOf_at ht]⟩
theorem Rows.of_at (h : Rows H xs rs) {i : Nat} {r : Int × Int} (e : rs[i]? = some r) : ∃ t, xs[i]? = some (.ref t) ∧ H t = some (.tup [.int r.1, .int r.2]) := by
  obtain ⟨hi, _⟩ := List.getElem?_eq_some_iff.mp e
  have hx : i < xs.length := by rw [h.len]; exact hi
  obtain ⟨t, a, b, e1, e2, e3⟩ := h.at_ (List.getElem?_eq_getElem hx)
  rw [e] at e3
  cases e3
  exact ⟨t, by rw [← e1]; exact List.getElem?_eq_getElem hx, e2⟩
theorem Rows.data : ∀ {xs : List V} {rs : List (Int × Int)}, Rows H xs rs → DpAll K H xs (rs.map rowP)
  | [], _, h => by rw [h.val]; exact .nil
  | x :: xs, _, h => by
    rw [h.val]
    obtain ⟨t, a, b, rfl, ht⟩ := h.all x List.mem_cons_self
    refine .cons ?_ (Rows.data (xs := xs) ⟨fun y hy => h.all y (List.mem_cons_of_mem _ hy), rfl⟩)
    rw [rowOf_at ht]
    exact dp_of_pair (SqT.of ht)
theorem Rows.sort {kf : Int × Int → List Int} (h : Rows H xs rs) : Rows H (xs.mergeSort fun p q => decide (kf (rowOf H p) ≤ kf (rowOf H q))) (rs.mergeSort fun p q => decide (kf p ≤ kf q)) :=
  ⟨fun x hx => h.all x ((List.mergeSort_perm xs _).mem_iff.mp hx), by
    rw [h.val]
    exact (List.map_mergeSort (r := fun p q => decide (kf (rowOf H p) ≤ kf (rowOf H q))) (s := fun p q => decide (kf p ≤ kf q)) (f := rowOf H) (l := xs) fun a _ b _ => rfl).symm⟩
theorem New.of_none {a : Addr} (h : H a = none) : New H a := fun o e => by rw [h] at e; cases e
theorem New.back {a : Addr} (e : ExtN H H') (h : New H' a) : New H a := fun o ho => by
  cases o with
  | tbl ps => exact ⟨ps, rfl⟩
  | _ => exact absurd (h _ (e _ _ ho fun _ z => by cases z)) (fun ⟨_, z⟩ => by cases z)
theorem New.ne {a b : Addr} {o : HO} (h : New H a) (e : H b = some o) (n : ∀ ps, o ≠ .tbl ps) : b ≠ a := fun z => by
  rw [z] at e
  obtain ⟨ps, q⟩ := h _ e
  exact n ps q
end
section
variable {K : PySem.W.Frag} {T : List (Addr × Str)} {N : List Str} {js : List Nat} {te tb : TE} {σ : L2.St} {H : Hp} {l : Addr} {xs : List V} {rs : List (Int × Int)} {kf : Int × Int → List Int} {d : Nat}
/-- sorted(rows, key=lambda ..): what the reading asks -/
theorem sortK_of {Q : VK} (h : Ev te σ H (.ref l)) (hx : SqL K H l xs ∨ SqT K H l xs) (hr : Rows H xs rs) (hd : ∀ r, (kf r).length = d) (hT : Tabs T H)
    (hb : ∀ t a b H3, ExtN H H3 → H3 t = some (.tup [.int a, .int b]) → EvU tb (startF N [.ref t] (js.map (slotAt σ))) H3 ((kf (a, b)).map V.int))
    (k : ∀ a H' ys, ExtN H H' → Tabs T H' → New H a → H' a = some (.lst ys) → Rows H' ys (rs.mergeSort fun p q => decide (kf p ≤ kf q)) → Q (.ref a) H') : tSortK K T N js te tb σ H Q := by
  refine h H (Ex.refl H) _ fun H1 e => ?_
  have e1 := exN e
  have hr1 := hr.ext e1
  refine ⟨l, xs, fun x => kf (rowOf H1 x), d, rfl, hx.elim (fun z => .inl (ex_l e z)) fun z => .inr (ex_t e z), fun x _ => hd _, Tabs.ext hT e, fun H2 e2 T2 => ⟨fun x m H3 e3 => ?_, fun H3 a e3 hn => ?_⟩⟩
  · obtain ⟨t, a, b, rfl, ht⟩ := hr1.all x m
    have e4 : ExtN H1 H3 := e2.trans (exN e3)
    have ht3 := e4 _ _ ht fun _ z => by cases z
    refine hb t a b H3 (e1.trans e4) ht3 H3 (Ex.refl H3) _ fun p H4 hp e5 h5 => ⟨p, rfl, ?_, e5⟩
    rw [h5]
    simp only [rowOf_at ht]
  · have e4 : ExtN H1 H3 := e2.trans (exN e3)
    have e5 : Ex H3 (upd H3 a (.lst (xs.mergeSort fun p q => decide (kf (rowOf H1 p) ≤ kf (rowOf H1 q))))) := Ex.new hn
    exact k a _ _ ((e1.trans e4).trans (exN e5)) (Tabs.ext (Tabs.ext T2 e3) e5) (New.back (e1.trans e4) (New.of_none hn)) upd_same ((hr1.sort (kf := kf)).ext (e4.trans (exN e5)))
end
/-- a row that is a stretch -/
def stretchR (r : Int × Int) : Bool := stretchD (rowP r)
def sortRows (o : Str) (rs : List (Int × Int)) : List (Int × Int) := rs.mergeSort fun p q => decide (rank o p.1 p.2 ≤ rank o q.1 q.2)
/-- sort_items, the items right -/
def spSort (K : PySem.W.Frag) (T : List (Addr × Str)) : Sp := fun vs H Q _ => ∃ o l xs rs, vs = [.str o, .ref l] ∧ o ∈ spanOrders ∧ (SqL K H l xs ∨ SqT K H l xs) ∧ Rows H xs rs ∧ (∀ r ∈ rs, stretchR r = true) ∧ Tabs T H ∧
  ∀ a H' ys, ExtN H H' → Tabs T H' → New H a → H' a = some (.lst ys) → Rows H' ys (sortRows o rs) → Q (.ref a) H'
theorem rows_good {rs : List (Int × Int)} (h : ∀ r ∈ rs, stretchR r = true) : ∀ d ∈ rs.map rowP, stretchD d = true := fun d hd => by
  obtain ⟨r, hr, rfl⟩ := List.mem_map.mp hd
  exact h r hr
section
variable {K : PySem.W.Frag} {σ : L2.St} {H : Hp} {te tf : TE} {E : XK}
theorem ev_word {x : Str} {p : Addr} {ws : List Str} (h : Ev te σ H (.str x)) (h2 : Ev tf σ H (.ref p)) (hs : SqT K H p (ws.map V.str)) : Ev (tCall (spWord K) [] E (tCons te (tCons tf tNil))) σ H (.bl (decide (x ∈ ws))) := fun H1 e Q q =>
  h H1 e _ fun H2 e2 => h2 H2 (e.trans e2) _ fun H3 e3 => ⟨x, p, ws, rfl, ex_t ((e.trans e2).trans e3) hs, fun H4 e4 => q H4 ((e2.trans e3).trans e4)⟩
theorem ev_read {o : Str} (h : Ev te σ H (.str o)) (ho : o ∈ spanOrders) : Ev (tCall spRead [] E (tCons te tNil)) σ H (.str "stretches") := fun H1 e Q q =>
  h H1 e _ fun H2 e2 => ⟨o, rfl, ho, fun H3 e3 => q H3 (e2.trans e3)⟩
theorem ev_items {l : Addr} {xs : List V} {rs : List (Int × Int)} (h : Ev te σ H (.str "stretches")) (h2 : Ev tf σ H (.ref l)) (hx : SqL K H l xs ∨ SqT K H l xs) (hr : Rows H xs rs) (hg : ∀ r ∈ rs, stretchR r = true) :
    Ev (tCall (spItems K) [] E (tCons te (tCons tf tNil))) σ H .non := fun H1 e Q q =>
  h H1 e _ fun H2 e2 => h2 H2 (e.trans e2) _ fun H3 e3 =>
    have e4 := (e.trans e2).trans e3
    ⟨l, xs, rs.map rowP, rfl, hx.elim (fun z => .inl (ex_l e4 z)) (fun z => .inr (ex_t e4 z)), (hr.ext (exN e4)).data, rows_good hg, fun H4 e5 => q H4 ((e2.trans e3).trans e5)⟩
theorem ev_check {l : Addr} {xs : List V} {rs : List (Int × Int)} (h2 : Ev tf σ H (.ref l)) (hx : SqL K H l xs ∨ SqT K H l xs) (hr : Rows H xs rs) (hg : ∀ r ∈ rs, stretchR r = true) :
    Ev (tCall (spCheck K) [] E (tCons tf tNil)) σ H .non := fun H1 e Q q =>
  h2 H1 e _ fun H2 e2 =>
    have e4 := e.trans e2
    ⟨l, xs, rs.map rowP, rfl, hx.elim (fun z => .inl (ex_l e4 z)) (fun z => .inr (ex_t e4 z)), (hr.ext (exN e4)).data, rows_good hg, fun H4 e5 => q H4 (e2.trans e5)⟩
theorem eu_rank {o : Str} {t : Addr} {a b : Int} (h : Ev te σ H (.str o)) (h2 : Ev tf σ H (.ref t)) (ho : o ∈ spanOrders) (ht : SqT K H t [.int a, .int b]) : EvU (tCall (spRank K) [] E (tCons te (tCons tf tNil))) σ H ((rank o a b).map V.int) := fun H1 e Q q =>
  h H1 e _ fun H2 e2 => h2 H2 (e.trans e2) _ fun H3 e3 => ⟨o, t, a, b, rfl, ho, ex_t ((e.trans e2).trans e3) ht, fun p H4 hp e4 h4 => q p H4 (fresh_back (e2.trans e3) hp) ((e2.trans e3).trans e4) h4⟩
end
end Gx

/-! a sweep's options -/
namespace Gx
open PySem PySem.Spec PyProof.Rows L2 LamX NdefX Evl He
structure Opt where
  order : Str
  ties : Str
  settles : Bool
  skips : Bool
  glues : Bool
  drops : Bool
def tieWords : List Str := ["ends", "begins", "list"]
def Opt.ok (o : Opt) : Prop := o.order ∈ spanOrders ∧ o.ties ∈ tieWords
def Opt.fields (o : Opt) : List (Str × V) := [("order", .str o.order), ("ties", .str o.ties), ("settles", .bl o.settles), ("skips", .bl o.skips), ("glues", .bl o.glues), ("drops", .bl o.drops)]
/-- __init__ with right options -/
def spInit (K : PySem.W.Frag) (C : Addr) : Sp := fun vs H Q _ => ∃ x dx, ∃ o : Opt, vs = [.ref x, .str o.order, .str o.ties, .bl o.settles, .bl o.skips, .bl o.glues, .bl o.drops] ∧ H x = some (.ins C dx []) ∧ o.ok ∧ ∀ H', Ex (upd H x (.ins C dx o.fields)) H' → Q .non H'
/-- the sweep at x -/
def SwAt (C : Addr) (H : Hp) (x : Addr) (o : Opt) : Prop := ∃ dx, H x = some (.ins C dx o.fields)
section
variable {K : PySem.W.Frag} {σ : L2.St} {H : Hp} {ta tv te : TE} {D : Ends} {y : V}
theorem ex_set {H H2 : Hp} {x : Addr} {o o' : HO} (e : Ex (upd H x o) H2) : Ex (upd H x o') (upd H2 x o') := fun b u hb => by
  by_cases z : b = x
  · rw [z, upd_same] at hb ⊢
    exact hb
  · rw [upd_ne z] at hb ⊢
    exact e b u (by rw [upd_ne z]; exact hb)
theorem ex_self {H : Hp} {x : Addr} {o : HO} (h : H x = some o) : Ex (upd H x o) H := fun b u hb => by
  by_cases z : b = x
  · rw [z, upd_same] at hb
    rw [z, h]; exact hb
  · rw [upd_ne z] at hb
    exact hb
theorem s_fld {a C dx : Addr} {fs : List (Str × V)} {f : Str} (hv : Ev tv σ H y) (ha : Ev ta σ H (.ref a)) (h : H a = some (.ins C dx fs)) (c : Cls K C) (n : NoAttr K C f) (hl : fs.length < 1000) (k : ∀ H1, Ex H H1 → D.nx σ (upd H1 a (.ins C dx (putF f y fs)))) : sFld K ta tv f D σ H :=
  hv H (Ex.refl H) _ fun H1 e1 => ha H1 e1 _ fun H2 e2 => ⟨a, C, dx, fs, rfl, (e1.trans e2) _ _ h, c, n, hl, k H2 (e1.trans e2)⟩
/-- x.f of an instance that stands -/
theorem ev_fld {a C dx : Addr} {fs : List (Str × V)} {f : Str} (ha : Ev ta σ H (.ref a)) (h : H a = some (.ins C dx fs)) (c : Cls K C) (n : NoAttr K C f) (hl : fs.lookup f = some y) : Ev (tFld K ta f) σ H y := fun H1 e Q q =>
  ha H1 e _ fun H2 e2 => ⟨a, C, dx, fs, y, rfl, e2 _ _ (e _ _ h), c, n, hl, q H2 e2⟩
/-- an argument list some of whose items are new: P tells them -/
def EvN (ta : TA) (σ : L2.St) (H : Hp) (P : List V → Hp → Prop) : Prop := ∀ H1, Ex H H1 → ∀ Q : List V → Hp → Prop, (∀ xs H2, Ex H1 H2 → P xs H2 → Q xs H2) → ta σ H1 Q
theorem en_nil : EvN tNil σ H fun xs _ => xs = [] := fun H1 _ Q q => q [] H1 (Ex.refl H1) rfl
theorem en_consU {tr : TA} {us : List V} {P : List V → Hp → Prop} (h : EvU te σ H us) (hr : EvN tr σ H P) : EvN (tCons te tr) σ H fun xs H' => ∃ p ys, xs = .ref p :: ys ∧ H' p = some (.tup us) ∧ P ys H' := fun H1 e Q q =>
  h H1 e _ fun p H2 _ e2 hp => hr H2 (e.trans e2) _ fun ys H3 e3 hP => q _ H3 (e2.trans e3) ⟨p, ys, rfl, e3 _ _ hp, hP⟩
theorem en_consV {tr : TA} {v : V} {P : List V → Hp → Prop} (h : Ev te σ H v) (hr : EvN tr σ H P) : EvN (tCons te tr) σ H fun xs H' => ∃ ys, xs = v :: ys ∧ P ys H' := fun H1 e Q q =>
  h H1 e _ fun H2 e2 => hr H2 (e.trans e2) _ fun ys H3 e3 hP => q _ H3 (e2.trans e3) ⟨ys, rfl, hP⟩
theorem en_tup {ta : TA} {P : List V → Hp → Prop} {Q : VK} (h : EvN ta σ H P) (hl : ∀ xs H', P xs H' → xs.length ≤ 100000) (k : ∀ p xs H1 H2, Ex H H1 → P xs H1 → H1 p = none → H2 = upd H1 p (.tup xs) → Q (.ref p) H2) : tTup ta σ H Q :=
  h H (Ex.refl H) _ fun xs H1 e hP => ⟨sz_of (hl xs H1 hP), fun p hp => k p xs H1 _ e hP hp rfl⟩
theorem en_lst {ta : TA} {P : List V → Hp → Prop} {Q : VK} (h : EvN ta σ H P) (hl : ∀ xs H', P xs H' → xs.length ≤ 100000) (k : ∀ p xs H1 H2, Ex H H1 → P xs H1 → H1 p = none → H2 = upd H1 p (.lst xs) → Q (.ref p) H2) : tLst ta σ H Q :=
  h H (Ex.refl H) _ fun xs H1 e hP => ⟨sz_of (hl xs H1 hP), fun p hp => k p xs H1 _ e hP hp rfl⟩
theorem eu_pair {v w : V} (h : Ev ta σ H v) (h2 : Ev tv σ H w) : EvU (tTup (tCons ta (tCons tv tNil))) σ H [v, w] := eu_tup (ea_cons h (ea_cons h2 ea_nil)) (by show 2 ≤ 100000; decide)
/-- a tuple of four new pairs (text, truth) -/
theorem four_pairs {t1 t2 t3 t4 : TE} {s1 s2 s3 s4 : Str} {b1 b2 b3 b4 : Bool} {Q : VK} (h1 : Ev t1 σ H (.bl b1)) (h2 : Ev t2 σ H (.bl b2)) (h3 : Ev t3 σ H (.bl b3)) (h4 : Ev t4 σ H (.bl b4))
    (k : ∀ p H1 xs, Ex H H1 → H1 p = some (.tup xs) → xs.length = 4 → (∀ x ∈ xs, ∃ q s b, x = .ref q ∧ H1 q = some (.tup [.str s, .bl b])) → Q (.ref p) H1) :
    tTup (tCons (tTup (tCons (tC (.str s1)) (tCons t1 tNil))) (tCons (tTup (tCons (tC (.str s2)) (tCons t2 tNil))) (tCons (tTup (tCons (tC (.str s3)) (tCons t3 tNil))) (tCons (tTup (tCons (tC (.str s4)) (tCons t4 tNil))) tNil)))) σ H Q := by
  refine en_tup (en_consU (eu_pair ev_c h1) (en_consU (eu_pair ev_c h2) (en_consU (eu_pair ev_c h3) (en_consU (eu_pair ev_c h4) en_nil)))) (fun xs H' hP => ?_) fun p xs H1 H2 e hP hp eH => ?_
  · obtain ⟨p1, _, rfl, _, p2, _, rfl, _, p3, _, rfl, _, p4, _, rfl, _, rfl⟩ := hP
    show 4 ≤ 100000
    decide
  · obtain ⟨p1, _, rfl, u1, p2, _, rfl, u2, p3, _, rfl, u3, p4, _, rfl, u4, rfl⟩ := hP
    subst eH
    have e5 : Ex H1 (upd H1 p (.tup [.ref p1, .ref p2, .ref p3, .ref p4])) := Ex.new hp
    refine k p _ [.ref p1, .ref p2, .ref p3, .ref p4] (e.trans e5) upd_same rfl fun x hx => ?_
    simp only [List.mem_cons, List.not_mem_nil, or_false] at hx
    rcases hx with rfl | rfl | rfl | rfl
    · exact ⟨p1, s1, b1, rfl, e5 _ _ u1⟩
    · exact ⟨p2, s2, b2, rfl, e5 _ _ u2⟩
    · exact ⟨p3, s3, b3, rfl, e5 _ _ u3⟩
    · exact ⟨p4, s4, b4, rfl, e5 _ _ u4⟩
/-- for .. in a tuple made on the way -/
theorem s_forTN {tl : TE} {g : TG} {tb : TS} {C : List V → Hp → Prop} (h : ∀ Q : VK, (∀ p H1 xs, Ex H H1 → H1 p = some (.tup xs) → C xs H1 → Q (.ref p) H1) → tl σ H Q)
    (k : ∀ p H1 xs, Ex H H1 → H1 p = some (.tup xs) → C xs H1 → ∃ Pv : Nat → L2.St → Hp → Prop, Pv 0 σ H1 ∧ (∀ i σ' H', Pv i σ' H' → SqT K H' p xs) ∧
      (∀ i x σ' H', xs[i]? = some x → Pv i σ' H' → g x σ' H' fun σ2 H2 => tb { D with nx := Pv (i + 1), ct := Pv (i + 1), bk := D.nx } σ2 H2) ∧ ∀ σ' H', Pv xs.length σ' H' → D.nx σ' H') : tFor (iTup K tl) g tb D σ H :=
  h _ fun p H1 xs e hp hc => by
    obtain ⟨Pv, h0, hl, hs, hd⟩ := k p H1 xs e hp hc
    exact ⟨p, rfl, ⟨xs, SqT.of hp⟩, for_tup Pv h0 (fun i σ' H' _ q => hl i σ' H' q) hs hd⟩
theorem pl {f : Str} {v : V} : ∀ {fs : List (Str × V)} {n : Nat}, fs.length ≤ n → (putF f v fs).length ≤ n + 1
  | [], n, _ => by simp [putF]
  | (g, x) :: r, n, h => by
    unfold putF
    split
    · exact Nat.le_succ_of_le h
    · obtain ⟨m, rfl⟩ : ∃ m, n = m + 1 := ⟨n - 1, by simp at h; omega⟩
      exact Nat.succ_le_succ (pl (by simpa using h))
theorem p0 : ([] : List (Str × V)).length ≤ 0 := Nat.le_refl _
theorem lt1000 {n m : Nat} (h : n ≤ m) (hm : m < 1000 := by decide) : n < 1000 := Nat.lt_of_le_of_lt h hm
end
end Gx

/-! what the sweep computes -/
namespace Gx
open PySem PySem.Spec PyProof.Rows L2 LamX NdefX Evl He
abbrev Row := Int × Int
def sgn (t : Str) : Int := if t = "ends" then 1 else if t = "begins" then -1 else 0
def stepsOf (skips : Bool) (rs : List Row) : List Row := rs.flatMap fun r => if decide (r.1 < r.2) || !skips then [(r.1, 1), (r.2, -1)] else []
def changeKey (t : Str) (r : Row) : List Int := [r.1, sgn t * r.2]
def changesOf (o : Opt) (rs : List Row) : List Row := (stepsOf o.skips (sortRows o.order rs)).mergeSort fun p q => decide (changeKey o.ties p ≤ changeKey o.ties q)
/-- the changes, of right items -/
def spChanges (K : PySem.W.Frag) (C : Addr) (T : List (Addr × Str)) : Sp := fun vs H Q _ => ∃ x l o xs rs, vs = [.ref x, .ref l] ∧ SwAt C H x o ∧ o.ok ∧ (SqL K H l xs ∨ SqT K H l xs) ∧ Rows H xs rs ∧ (∀ r ∈ rs, stretchR r = true) ∧ rs.length ≤ 1000 ∧ Tabs T H ∧
  ∀ a H' ys, ExtN H H' → Tabs T H' → New H a → H' a = some (.lst ys) → Rows H' ys (changesOf o rs) → Q (.ref a) H'
section
variable {K : PySem.W.Frag} {σ : L2.St} {H H' : Hp} {te tf tl : TE} {E : XK} {D : Ends} {g : TG} {tb : TS}
theorem SwAt.ext {C x : Addr} {o : Opt} (e : ExtN H H') (h : SwAt C H x o) : SwAt C H' x o := by
  obtain ⟨dx, h⟩ := h
  exact ⟨dx, e _ _ h fun _ z => by cases z⟩
theorem extN_mut {p : Addr} {o : HO} (e : ExtN H H') (n : New H p) : ExtN H (upd H' p o) := fun b u hb nu => by
  rw [upd_ne (n.ne hb nu)]
  exact e b u hb nu
theorem tabs_upd {T : List (Addr × Str)} {p : Addr} {us vs : List V} (h : H p = some (.lst us)) (t : Tabs T H) : Tabs T (upd H p (.lst vs)) := fun q hq => by
  obtain ⟨ps, h1, h2, h3⟩ := t q hq
  refine ⟨ps, by rw [upd_ne (ne_of h1 h (by intro z; cases z))]; exact h1, h2, fun pos cv hc => ?_⟩
  obtain ⟨c, e1, e2⟩ := h3 pos cv hc
  refine ⟨c, e1, by rw [upd_ne (ne_of e2 h (by unfold CodeO; intro z; cases z))]; exact e2⟩
theorem rows_upd {p : Addr} {us vs xs : List V} {rs : List Row} (h : H p = some (.lst us)) (r : Rows H xs rs) : Rows (upd H p (.lst vs)) xs rs := by
  refine ⟨fun x hx => ?_, ?_⟩
  · obtain ⟨t, a, b, rfl, ht⟩ := r.all x hx
    exact ⟨t, a, b, rfl, by rw [upd_ne (ne_of ht h (by intro z; cases z))]; exact ht⟩
  · rw [r.val]
    refine List.map_congr_left fun x hx => ?_
    obtain ⟨t, a, b, rfl, ht⟩ := r.all x hx
    rw [rowOf_at ht, rowOf_at (show upd H p (.lst vs) t = _ by rw [upd_ne (ne_of ht h (by intro z; cases z))]; exact ht)]
/-- for .. in a list made on the way (by a call that may change tables) -/
theorem s_forLN {C : Addr → List V → Hp → Prop} (h : ∀ Q : VK, (∀ p H1 xs, H1 p = some (.lst xs) → C p xs H1 → Q (.ref p) H1) → tl σ H Q)
    (k : ∀ p H1 xs, H1 p = some (.lst xs) → C p xs H1 → ∃ Pv : Nat → L2.St → Hp → Prop, Pv 0 σ H1 ∧ (∀ i σ' H', Pv i σ' H' → SqL K H' p xs) ∧
      (∀ i x σ' H', xs[i]? = some x → Pv i σ' H' → g x σ' H' fun σ2 H2 => tb { D with nx := Pv (i + 1), ct := Pv (i + 1), bk := D.nx } σ2 H2) ∧ ∀ σ' H', Pv xs.length σ' H' → D.nx σ' H') : tFor (iList K tl) g tb D σ H :=
  h _ fun p H1 xs hp hc => by
    obtain ⟨Pv, h0, hl, hs, hd⟩ := k p H1 xs hp hc
    exact ⟨p, rfl, ⟨xs, SqL.of hp⟩, for_list Pv h0 (fun i σ' H' _ q => hl i σ' H' q) hs hd⟩
theorem ev_kd {w : World} {p : Addr} {z : Str} {v : V} (h : Ev te σ H (.ref p)) (h2 : Ev tf σ H (.str z)) (kd : KDct K w p z v) : Ev (tOp (rIxD K w) te tf) σ H v := ev_op h h2 fun H1 _ Q q => ⟨p, z, v, rfl, rfl, kd, q H1 (Ex.refl H1)⟩
end
theorem sgn_small {t : Str} : -(2 ^ 64) < sgn t ∧ sgn t < 2 ^ 64 := by
  unfold sgn
  split
  · decide
  · split <;> decide
theorem steps_take (b : Bool) (rs : List Row) (i : Nat) (r : Row) (h : rs[i]? = some r) : stepsOf b (rs.take (i + 1)) = stepsOf b (rs.take i) ++ (if decide (r.1 < r.2) || !b then [(r.1, 1), (r.2, -1)] else []) := by
  unfold stepsOf
  rw [List.take_add_one, h]
  simp [List.flatMap_append]
theorem steps_len (b : Bool) : ∀ rs : List Row, (stepsOf b rs).length ≤ 2 * rs.length
  | [] => by simp [stepsOf]
  | r :: rs => by
    have ih := steps_len b rs
    have e : stepsOf b (r :: rs) = (if decide (r.1 < r.2) || !b then [(r.1, 1), (r.2, -1)] else []) ++ stepsOf b rs := rfl
    rw [e, List.length_append, List.length_cons]
    split <;> simp <;> omega
theorem ix_tupK {X : Cx} {K : PySem.W.Frag} (h : X.K = K) : IxR X (rIxT K) := by rw [← h]; exact ix_tup
theorem ix_listK {X : Cx} {K : PySem.W.Frag} (h : X.K = K) : IxR X (rIxL K) := by rw [← h]; exact ix_list
theorem call1 {σ : L2.St} {H : Hp} {te : TE} {v : V} {sp : Sp} {E : XK} {Q : VK} (h : Ev te σ H v) (k : ∀ H1, Ex H H1 → sp [v] H1 Q E) : tCall sp [] E (tCons te tNil) σ H Q :=
  h H (Ex.refl H) _ fun H1 e1 => k H1 e1
theorem call2 {σ : L2.St} {H : Hp} {te tf : TE} {v u : V} {sp : Sp} {E : XK} {Q : VK} (h : Ev te σ H v) (h2 : Ev tf σ H u) (k : ∀ H1, Ex H H1 → sp [v, u] H1 Q E) : tCall sp [] E (tCons te (tCons tf tNil)) σ H Q :=
  h H (Ex.refl H) _ fun H1 e1 => h2 H1 e1 _ fun H2 e2 => k H2 (e1.trans e2)
/-- x.m(e), x an instance -/
theorem meth1 {σ : L2.St} {H : Hp} {ta te : TE} {v : V} {x C dx : Addr} {m : Str} {fs : List (Str × V)} {sp : Sp} {E : XK} {Q : VK} (ha : Ev ta σ H (.ref x)) (hx : H x = some (.ins C dx fs)) (hm : fs.lookup m = none) (h : Ev te σ H v) (k : ∀ H1, Ex H H1 → sp [.ref x, v] H1 Q E) : tMeth C m sp [] E ta (tCons te tNil) σ H Q :=
  ha H (Ex.refl H) _ fun H1 e1 => ⟨x, dx, fs, rfl, e1 _ _ hx, hm, h H1 e1 _ fun H2 e2 => k H2 (e1.trans e2)⟩
theorem seq_i {a b : TS} {D : Ends} {σ : L2.St} {H : Hp} (h : a { D with nx := b D } σ H) : tSeq a b D σ H := h
end Gx

/-! rules whose readings name K by itself (within a generator, a block) -/
namespace Gx
open PySem PySem.Spec PyProof.Rows L2 LamX NdefX Evl He
section
variable {X : Cx} {K : PySem.W.Frag} {e : Expr} {ta : TE} {f : Str} {pos p tpos : Pos} {es : List Expr} {k kk n : Nat} {t : TGs} {t1 : TA}
theorem pe_fldK (h : X.K = K) (he : PE X e ta) (hb : attributeBase e f X.env (eval e X.env) = eval e X.env) : PE X (.Attribute e f pos) (tFld K ta f) := by rw [← h]; exact pe_fld he hb
theorem pg_tupK (h : X.K = K) (hc : X.calm = true) (ht : PGs X es t) (hn : (assignEach es X.env).length = n := by rfl) (hst : (assignEach es X.env).findIdx? (·.1) = none := by rfl) : PG X (.Tuple es k pos) (gTup K n t) := by
  rw [← h]; exact pg_tup hc ht hn hst
theorem pi_enumK (h : X.K = K) (hg : Gl X "enumerate") (hm : X.mg "enumerate" = none) (ha : PA X [e] t1) (hs : starEach [e] X.env = [(false, eval e X.env)] := by rfl) : PI X (.Tuple es kk tpos) (.Call (.Name "enumerate" p) [e] [] pos) (iEnumS K t1) := by
  rw [← h]; exact pi_enumS hg hm ha hs
theorem call_lenK (h : X.K = K) : CallR X (.builtin "len") (rLenS K) := by rw [← h]; exact call_len_seq
theorem pi_listK {l tg : Expr} {tl : TE} (h : X.K = K) (hl : PE X l tl) : PI X tg l (iList K tl) := by rw [← h]; exact pi_list hl
theorem op_inK (h : X.K = K) : OpR X (compareOp .In) (rIn K false) := by rw [← h]; exact op_in_seq
end
end Gx

/-! the readings of a sweep: a generator -/
namespace Gx
open PySem PySem.Spec PyProof.Rows L2 LamX NdefX Evl He
/-- the last change at its edge -/
def endB (c : Row) : List Row → Bool
  | [] => true
  | d :: _ => decide (c.1 < d.1)
/-- the readings of changes: now the level ahead of them -/
def readGo (settles : Bool) : Int → List Row → List Row
  | _, [] => []
  | now, c :: cs => if !settles || endB c cs then (c.1, now + c.2) :: readGo settles (now + c.2) cs else readGo settles (now + c.2) cs
def readingsOf (o : Opt) (rs : List Row) : List Row := readGo o.settles 0 (changesOf o rs)
/-- what stays through a consumer's turn: all but its own lists -/
structure Stay (T : List (Addr × Str)) (M : List Addr) (H H' : Hp) : Prop where
  keep : ∀ b o, b ∉ M → H b = some o → (∀ ps, o ≠ .tbl ps) → H' b = some o
  tabs : Tabs T H'
/-- the readings as a generator hands them out: J what the consumer knows behind i of them, M its own lists -/
def spReads (K : PySem.W.Frag) (C : Addr) (T : List (Addr × Str)) : SpY := fun vs H Y Q σ => ∃ x l o xs rs, vs = [.ref x, .ref l] ∧ SwAt C H x o ∧ o.ok ∧ (SqL K H l xs ∨ SqT K H l xs) ∧ Rows H xs rs ∧ (∀ r ∈ rs, stretchR r = true) ∧ rs.length ≤ 1000 ∧ Tabs T H ∧
  ∃ (M : List Addr) (J : Nat → L2.St → Hp → Prop), (∀ b ∈ M, ∃ us, H b = some (.lst us)) ∧ J 0 σ H ∧ (∀ i σ' H' H'', J i σ' H' → ExtN H' H'' → Tabs T H'' → J i σ' H'') ∧
    (∀ i r t σ' H', (readingsOf o rs)[i]? = some r → J i σ' H' → Tabs T H' → H' t = some (.tup [.int r.1, .int r.2]) → ∀ k : L2.St → Hp → Prop, (∀ σ'' H'', J (i + 1) σ'' H'' → Stay T M H' H'' → k σ'' H'') → Y (.ref t) σ' H' k) ∧
    ∀ σ' H', J (readingsOf o rs).length σ' H' → Tabs T H' → Q σ' H'
section
variable {K : PySem.W.Frag} {σg σc : L2.St} {H : Hp} {te : TE} {Y : YH} {D : YEnds} {n : Nat} {g : TG} {tb : TY}
/-- for .. in enumerate(a list) within a generator -/
theorem y_forE {a : Addr} {xs : List V} (h : Ev te σg H (.ref a)) (hx : SqL K H a xs) (Pv : Nat → Nat → L2.St → L2.St → Hp → Prop) (h0 : ∀ H1, Ex H H1 → Pv 0 n σg σc H1) (hl : ∀ i n' σg' σc' H', Pv i n' σg' σc' H' → SqL K H' a xs)
    (hs : ∀ i x n' σg' σc' H' T, xs[i]? = some x → Pv i n' σg' σc' H' → H' T = none → g (.ref T) σg' (upd H' T (.tup [.int (i : Nat), x])) fun σ2 H2 => tb Y { D with nx := Pv (i + 1), ct := Pv (i + 1), bk := D.nx } n' σ2 σc' H2)
    (hd : ∀ n' σg' σc' H', Pv xs.length n' σg' σc' H' → D.nx n' σg' σc' H') : yFor (iEnumS K (tCons te tNil)) g tb Y D n σg σc H := by
  refine h H (Ex.refl H) _ fun H1 e => ⟨a, xs, rfl, .inl ⟨ex_l e hx, fun i m n' σg' σc' H' => i ≤ xs.length ∧ m = xs.length - i ∧ Pv i n' σg' σc' H', ⟨_, Nat.zero_le _, rfl, h0 H1 e⟩, fun i m n' σg' σc' H' ⟨hi, hm, hp⟩ => ?_⟩⟩
  have sq := hl i n' σg' σc' H' hp
  by_cases hlt : i < xs.length
  · refine .inr ⟨⟨xs, xs[i], sq, List.getElem?_eq_getElem hlt⟩, Pv (i + 1), fun n2 σ2 τ2 H2 hN => ⟨xs.length - (i + 1), by omega, hlt, rfl, hN⟩, fun x H2 ⟨T, y, ex, hT, eH, hy⟩ => ?_⟩
    subst ex eH
    exact hs i y n' σg' σc' H' T (hy xs sq) hp hT
  · have : i = xs.length := by omega
    subst this
    exact .inl ⟨⟨xs, sq, Nat.le_refl _⟩, hd n' σg' σc' H' hp⟩
theorem y_if {t : TT} {ta tb : TY} {b : Bool} (h : EvT t σg H b) (h1 : b = true → ∀ H1, Ex H H1 → ta Y D n σg σc H1) (h2 : b = false → ∀ H1, Ex H H1 → tb Y D n σg σc H1) : yIf t ta tb Y D n σg σc H := h H (Ex.refl H) _ fun H1 e => by
  cases b with
  | true => rw [if_pos rfl]; exact h1 rfl H1 e
  | false => rw [if_neg Bool.false_ne_true]; exact h2 rfl H1 e
theorem y_yieldU {m : Nat} {us : List V} (hn : n = m + 1) (h : EvU te σg H us) (k : ∀ p H1, Ex H H1 → H1 p = some (.tup us) → Y (.ref p) σc H1 fun σc' H2 => D.nx m σg σc' H2) : yYield te Y D n σg σc H :=
  ⟨m, hn, h H (Ex.refl H) _ fun p H1 _ e hp => k p H1 e hp⟩
theorem rows_stay {T : List (Addr × Str)} {M : List Addr} {H H' : Hp} {xs : List V} {rs : List Row} (s : Stay T M H H') (hM : ∀ t, V.ref t ∈ xs → t ∉ M) (r : Rows H xs rs) : Rows H' xs rs := by
  refine ⟨fun x hx => ?_, ?_⟩
  · obtain ⟨t, a, b, rfl, ht⟩ := r.all x hx
    exact ⟨t, a, b, rfl, s.keep _ _ (hM t hx) ht fun _ z => by cases z⟩
  · rw [r.val]
    refine List.map_congr_left fun x hx => ?_
    obtain ⟨t, a, b, rfl, ht⟩ := r.all x hx
    rw [rowOf_at ht, rowOf_at (s.keep _ _ (hM t hx) ht fun _ z => by cases z)]
end
end Gx

/-! consumers of a sweep's readings -/
namespace Gx
open PySem PySem.Spec PyProof.Rows L2 LamX NdefX Evl He
/-- the method m of the class at C is a generator that keeps sp -/
structure KnY (P : Program) (w : World) (K : PySem.W.Frag) (mg : Str → Option Value) (base : Heap) (k : Nat) (C : Addr) (m : Str) (sp : SpY) : Prop where
  ex : ∃ (f : Addr) (fd : FuncData) (ps : List Str), YFn P w K mg base k f fd ps sp ∧ Meth K C m f ∧ L2.Binds K fd ps []
theorem pgy_kn {X : Cx} {k j : Nat} {C : Addr} {m : Str} {sp : SpY} {o e : Expr} {es : List Expr} {ta : TE} {t : TA} {pos apos : Pos} {pl : Sem Bool} (he : PE X o ta) (c : Cls X.K C) (G : KnY X.prog X.w X.K X.mg X.base k C m sp) (hr : Room j X.A) (ha : PA X (e :: es) t) (hk : k ≤ j := by decide)
    (hst : starEach (e :: es) X.env = (false, eval e X.env) :: starEach es X.env := by rfl) (hpl : (backTo pos (starEach es X.env)).any (·.1) = false := by rfl)
    (ht : eval (.Call (.Attribute o m apos) (e :: es) [] pos) X.env = (do
      let ov ← eval o X.env
      standAt apos.atName
      let (f, first) ← holding [ov] (getMethod ov m pl)
      callWith pos f first (backTo pos (starEach (e :: es) X.env)) (backToKw pos (keywordEach [] X.env))) := by rfl) : PGenY X k (.Call (.Attribute o m apos) (e :: es) [] pos) sp (tMethY C m [] ta t) := by
  obtain ⟨f, fd, ps, F, hm, b⟩ := G.ex
  exact pgy_meth he c hm F (hr.mono hk) b .nil ha hst hpl ht
theorem readGo_len (s : Bool) : ∀ (now : Int) (cs : List Row), (readGo s now cs).length ≤ cs.length
  | _, [] => Nat.le_refl _
  | now, c :: cs => by
    have ih := readGo_len s (now + c.2) cs
    show (if _ then _ else _ : List Row).length ≤ _
    split
    · exact Nat.succ_le_succ ih
    · exact Nat.le_succ_of_le ih
theorem changes_len (o : Opt) (rs : List Row) : (changesOf o rs).length ≤ 2 * rs.length := by
  unfold changesOf
  rw [List.length_mergeSort]
  exact Nat.le_trans (steps_len _ _) (by unfold sortRows; rw [List.length_mergeSort]; exact Nat.le_refl _)
theorem reads_len (o : Opt) (rs : List Row) : (readingsOf o rs).length ≤ 2 * rs.length := Nat.le_trans (readGo_len _ _ _) (changes_len o rs)
section
variable {K : PySem.W.Frag} {C : Addr} {T : List (Addr × Str)} {σ : L2.St} {H : Hp} {x l : Addr} {o : Opt} {xs : List V} {rs : List Row} {ta tl te : TE} {Q : VK} {i j : Nat}
/-- what a call of readings wants to hold -/
structure Good (K : PySem.W.Frag) (C : Addr) (T : List (Addr × Str)) (H : Hp) (x l : Addr) (o : Opt) (xs : List V) (rs : List Row) : Prop where
  sw : SwAt C H x o
  ok : o.ok
  li : SqL K H l xs ∨ SqT K H l xs
  ro : Rows H xs rs
  good : ∀ r ∈ rs, stretchR r = true
  few : rs.length ≤ 1000
  tabs : Tabs T H
theorem Good.ext {H' : Hp} (e : ExtN H H') (t : Tabs T H') (g : Good K C T H x l o xs rs) : Good K C T H' x l o xs rs :=
  ⟨g.sw.ext e, g.ok, g.li.elim (fun z => .inl (sqL_ext e z)) (fun z => .inr (sqT_ext e z)), g.ro.ext e, g.good, g.few, t⟩
theorem Good.ex {H' : Hp} (e : Ex H H') (g : Good K C T H x l o xs rs) : Good K C T H' x l o xs rs := g.ext (exN e) (Tabs.ext g.tabs e)
theorem reads_some (g : Good K C T H x l o xs rs) : ∃ Hx Y Q' σ', spReads K C T [.ref x, .ref l] Hx Y Q' σ' :=
  ⟨H, fun _ _ _ _ => True, fun _ _ => True, [], x, l, o, xs, rs, rfl, g.sw, g.ok, g.li, g.ro, g.good, g.few, g.tabs, [], fun _ _ _ => True, fun b hb => by simp at hb, trivial, fun _ _ _ _ _ _ _ => trivial, fun _ _ _ _ _ _ _ _ _ _ _ => trivial, fun _ _ _ _ => trivial⟩
/-- list(s.readings(spans)) -/
theorem listY_of (hx : Ev ta σ H (.ref x)) (hl : Ev tl σ H (.ref l)) (g : Good K C T H x l o xs rs) (k : ∀ S H' ys, ExtN H H' → Tabs T H' → New H S → H' S = some (.lst ys) → Rows H' ys (readingsOf o rs) → Q (.ref S) H') :
    tListY (spReads K C T) (tMethY C "readings" [] ta (tCons tl tNil)) σ H Q := by
  obtain ⟨dx, hx'⟩ := g.sw
  refine hx H (Ex.refl H) _ fun H1 e1 => ⟨x, dx, o.fields, rfl, e1 _ _ hx', rfl, hl H1 e1 _ fun H2 e2 => ⟨reads_some g, fun S hS => ?_⟩⟩
  have e12 := e1.trans e2
  have g2 := g.ex e12
  have eS : Ex H2 (upd H2 S (.lst [])) := Ex.new hS
  have gS := g2.ex eS
  have nS : New H2 S := New.of_none hS
  refine ⟨x, l, o, xs, rs, rfl, gS.sw, gS.ok, gS.li, gS.ro, gS.good, gS.few, gS.tabs, [S], fun n σ' H' => σ' = σ ∧ ExtN H2 H' ∧ ∃ ys, H' S = some (.lst ys) ∧ Rows H' ys ((readingsOf o rs).take n), fun b hb => ⟨[], by rw [List.mem_singleton.mp hb]; exact upd_same⟩, ⟨rfl, exN eS, [], upd_same, Rows.nil⟩, fun n σ' H' H'' h e _ => ?_, fun n r t σ' H' hr h tT ht kk hk => ?_, fun σ' H' h tT => ?_⟩
  · obtain ⟨h1, h2, ys, h3, h4⟩ := h
    exact ⟨h1, h2.trans e, ys, e _ _ h3 (fun _ z => by cases z), h4.ext e⟩
  · obtain ⟨rfl, h2, ys, h3, h4⟩ := h
    have hlen : ys.length ≤ 2000 := by
      rw [h4.len]
      have := reads_len o rs
      have := g.few
      rw [List.length_take]; omega
    refine ⟨ys, h3, Nat.lt_of_le_of_lt hlen (by decide), hk _ _ ⟨rfl, extN_mut h2 nS, ys ++ [.ref t], upd_same, ?_⟩ ⟨fun b u nb hb _ => by rw [upd_ne (fun z => nb (by rw [z]; exact List.mem_singleton.mpr rfl))]; exact hb, tabs_upd h3 tT⟩⟩
    rw [List.take_add_one, hr]
    exact (rows_upd h3 h4).app (rows_upd h3 (Rows.one ht))
  · obtain ⟨rfl, h2, ys, h3, h4⟩ := h
    rw [List.take_length] at h4
    exact ⟨rfl, k S H' ys ((exN e12).trans h2) tT (New.back (exN e12) nS) h3 h4⟩
/-- [e for edge, level in s.readings(spans)] -/
theorem lcY_of (φ : Row → V) (hx : Ev ta σ H (.ref x)) (hl : Ev tl σ H (.ref l)) (g : Good K C T H x l o xs rs) (hw : ∀ a b, wipe (((wipe σ [i, j]).set i a).set j b) [i, j] = wipe σ [i, j])
    (he : ∀ (r : Row) H', Ev te (((wipe σ [i, j]).set i (some (.int r.1))).set j (some (.int r.2))) H' (φ r)) (k : ∀ D H', ExtN H H' → Tabs T H' → New H D → H' D = some (.lst ((readingsOf o rs).map φ)) → Q (.ref D) H') :
    tLcY (spReads K C T) (tMethY C "readings" [] ta (tCons tl tNil)) (gTup K 2 (gCons (gName i) (gCons (gName j) gNil))) tYes te [i, j] σ H Q := by
  obtain ⟨dx, hx'⟩ := g.sw
  refine hx H (Ex.refl H) _ fun H1 e1 => ⟨x, dx, o.fields, rfl, e1 _ _ hx', rfl, hl H1 e1 _ fun H2 e2 => ⟨reads_some g, fun D hD => ?_⟩⟩
  have e12 := e1.trans e2
  have g2 := g.ex e12
  have eS : Ex H2 (upd H2 D (.lst [])) := Ex.new hD
  have gS := g2.ex eS
  have nS : New H2 D := New.of_none hD
  refine ⟨x, l, o, xs, rs, rfl, gS.sw, gS.ok, gS.li, gS.ro, gS.good, gS.few, gS.tabs, [D], fun n σ' H' => σ' = wipe σ [i, j] ∧ ExtN H2 H' ∧ H' D = some (.lst (((readingsOf o rs).take n).map φ)), fun b hb => ⟨[], by rw [List.mem_singleton.mp hb]; exact upd_same⟩, ⟨rfl, exN eS, upd_same⟩, fun n σ' H' H'' h e _ => ?_, fun n r t σ' H' hr h tT ht kk hk => ?_, fun σ' H' h tT => ?_⟩
  · obtain ⟨h1, h2, h3⟩ := h
    exact ⟨h1, h2.trans e, e _ _ h3 fun _ z => by cases z⟩
  · obtain ⟨rfl, h2, h3⟩ := h
    have hlen : (((readingsOf o rs).take n).map φ).length ≤ 2000 := by
      have := reads_len o rs
      have := g.few
      rw [List.length_map, List.length_take]; omega
    refine g_nn (SqT.of ht) ?_
    refine he r H' H' (Ex.refl H') _ fun H4 e4 => ⟨_, e4 _ _ h3, Nat.lt_of_le_of_lt hlen (by decide), ?_⟩
    rw [hw]
    refine hk _ _ ⟨rfl, extN_mut (h2.trans (exN e4)) nS, ?_⟩ ⟨fun b u nb hb nu => by rw [upd_ne (fun z => nb (by rw [z]; exact List.mem_singleton.mpr rfl))]; exact e4 _ _ hb, tabs_upd (e4 _ _ h3) (Tabs.ext tT e4)⟩
    rw [upd_same, List.take_add_one, hr]
    simp
  · obtain ⟨rfl, h2, h3⟩ := h
    rw [List.take_length] at h3
    exact k D H' ((exN e12).trans h2) tT (New.back (exN e12) nS) h3
end
end Gx

/-! the greatest level, the peak -/
namespace Gx
open PySem PySem.Spec PyProof.Rows L2 LamX NdefX Evl He
def mostOf (rd : List Row) : Int := (rd.map (·.2)).foldl max 0
theorem most_ge : ∀ (l : List Int) (a : Int), a ≤ l.foldl max a ∧ ∀ j ∈ l, j ≤ l.foldl max a
  | [], a => ⟨Int.le_refl _, fun _ h => by simp at h⟩
  | b :: l, a => by
    obtain ⟨h1, h2⟩ := most_ge l (max a b)
    refine ⟨Int.le_trans (Int.le_max_left a b) h1, fun j hj => ?_⟩
    rcases List.mem_cons.mp hj with rfl | hj
    · exact Int.le_trans (Int.le_max_right a j) h1
    · exact h2 j hj
theorem most_mem : ∀ (l : List Int) (a : Int), l.foldl max a = a ∨ l.foldl max a ∈ l
  | [], a => .inl rfl
  | b :: l, a => by
    rcases most_mem l (max a b) with h | h
    · by_cases hab : a ≤ b
      · right
        rw [List.foldl_cons, h, Int.max_eq_right hab]
        exact List.mem_cons_self
      · left
        rw [List.foldl_cons, h, Int.max_eq_left (by omega)]
    · exact .inr (List.mem_cons_of_mem _ h)
theorem most_is {rd : List Row} {m : Int} (h1 : m ∈ 0 :: rd.map (·.2)) (h2 : ∀ j ∈ 0 :: rd.map (·.2), j ≤ m) : m = mostOf rd := by
  obtain ⟨g1, g2⟩ := most_ge (rd.map (·.2)) 0
  have a : m ≤ mostOf rd := by
    rcases List.mem_cons.mp h1 with z | z
    · rw [z]; exact g1
    · exact g2 m z
  have b : mostOf rd ≤ m := by
    rcases most_mem (rd.map (·.2)) 0 with z | z
    · rw [show mostOf rd = 0 from z]; exact h2 0 List.mem_cons_self
    · exact h2 _ (List.mem_cons_of_mem _ z)
  omega
def peakGo (most : Int) : Option Int → List Row → Option (Int × Int × Int)
  | _, [] => none
  | none, r :: rs => if r.2 = most ∧ 0 < most then peakGo most (some r.1) rs else peakGo most none rs
  | some b, r :: rs => if r.2 < most then some (b, r.1, most) else peakGo most (some b) rs
def peakOf (rd : List Row) : Option (Int × Int × Int) := peakGo (mostOf rd) none rd
def spMost (K : PySem.W.Frag) (C : Addr) (T : List (Addr × Str)) : Sp := fun vs H Q _ => ∃ x l o xs rs, vs = [.ref x, .ref l] ∧ Good K C T H x l o xs rs ∧ ∀ H', ExtN H H' → Tabs T H' → Q (.int (mostOf (readingsOf o rs))) H'
/-- a value that is None or a tuple of three -/
def IsPeak (H : Hp) (v : V) : Option (Int × Int × Int) → Prop
  | none => v = .non
  | some (b, e, m) => ∃ p, v = .ref p ∧ H p = some (.tup [.int b, .int e, .int m])
def spPeak (K : PySem.W.Frag) (C : Addr) (T : List (Addr × Str)) : Sp := fun vs H Q _ => ∃ x l o xs rs, vs = [.ref x, .ref l] ∧ Good K C T H x l o xs rs ∧ ∀ v H', ExtN H H' → Tabs T H' → IsPeak H' v (peakOf (readingsOf o rs)) → Q v H'
end Gx

/-! max([0] + [..]) -/
namespace Gx
open PySem PySem.Spec PyProof.Rows L2 LamX NdefX Evl He
section
variable {K : PySem.W.Frag} {T : List (Addr × Str)} {σ : L2.St} {H : Hp} {tx : TE} {Q : VK} {rd : List Row}
theorem max0 (hT : Tabs T H) (hn : rd.length ≤ 2000) (h : ∀ H1, Ex H H1 → ∀ Q' : VK, (∀ D H', ExtN H1 H' → Tabs T H' → H' D = some (.lst ((rd.map (·.2)).map V.int)) → Q' (.ref D) H') → tx σ H1 Q')
    (q : ∀ H', ExtN H H' → Tabs T H' → Q (.int (mostOf rd)) H') : tCB (rMax K) (tCons (tOp rCat (tLst (tCons (tC (.int 0)) tNil)) tx) tNil) σ H Q := by
  refine ⟨sz_of (by show 1 ≤ 100000; decide), fun p hp => ?_⟩
  have e1 : Ex H (upd H p (.lst [.int 0])) := Ex.new hp
  refine h _ e1 _ fun D H' e2 t2 hD => ?_
  refine ⟨p, D, [.int 0], (rd.map (·.2)).map V.int, rfl, rfl, e2 _ _ upd_same (fun _ z => by cases z), hD, ?_, fun r hr => ?_⟩
  · rw [List.length_map, List.length_map]
    exact sz_of (by simp; omega)
  have e3 : Ex H' (upd H' r (.lst ([.int 0] ++ (rd.map (·.2)).map V.int))) := Ex.new hr
  refine ⟨r, 0 :: rd.map (·.2), rfl, SqL.of upd_same, Nat.succ_pos _, fun m h1 h2 => ?_⟩
  rw [most_is h1 h2]
  exact q _ (((exN e1).trans e2).trans (exN e3)) (Tabs.ext t2 e3)
/-- a list, new or old -/
def EvS (K : PySem.W.Frag) (te : TE) (σ : L2.St) (H : Hp) (xs : List V) : Prop := ∀ H1, Ex H H1 → ∀ Q : VK, (∀ a H2, Ex H1 H2 → SqL K H2 a xs → Q (.ref a) H2) → te σ H1 Q
theorem es_ev {te : TE} {a : Addr} {xs : List V} (h : Ev te σ H (.ref a)) (hx : SqL K H a xs) : EvS K te σ H xs := fun H1 e Q q => h H1 e _ fun H2 e2 => q a H2 e2 (ex_l (e.trans e2) hx)
theorem es_el {te : TE} {xs : List V} (h : EvL te σ H xs) : EvS K te σ H xs := fun H1 e Q q => h H1 e _ fun p H2 _ e2 hp => q p H2 e2 (SqL.of hp)
/-- [φ for i, j in rows if ψ] -/
theorem el_lcR {tl te : TE} {tt : TT} {i j : Nat} {xs : List V} (φ : Row → V) (ψ : Row → Bool) (h : EvS K tl σ H xs) (r : Rows H xs rd) (hz : xs.length ≤ 40000) (hw : ∀ a b, wipe (((wipe σ [i, j]).set i a).set j b) [i, j] = wipe σ [i, j])
    (ht : ∀ (r : Row) H', EvT tt (((wipe σ [i, j]).set i (some (.int r.1))).set j (some (.int r.2))) H' (ψ r))
    (he : ∀ (r : Row) H', Ev te (((wipe σ [i, j]).set i (some (.int r.1))).set j (some (.int r.2))) H' (φ r)) :
    EvL (tLc (iList K tl) (gTup K 2 (gCons (gName i) (gCons (gName j) gNil))) tt te [i, j]) σ H ((rd.filter ψ).map φ) := by
  intro H0 e0 Q q
  refine h H0 e0 _ fun a H1 e1 hx => ⟨a, rfl, ⟨xs, hx⟩, fun D hD => ?_⟩
  have eD : Ex H1 (upd H1 D (.lst [])) := Ex.new hD
  refine lc_list (K := K) (a := a) (xs := xs) (H1 := H1) (D := D) (fun n H' => (Ex H1 H' ∧ H' D = some (.lst (((rd.take n).filter ψ).map φ)))) ⟨eD, upd_same⟩ (fun n H' _ hP => ex_l hP.1 hx) (fun n y H' hy hP => ?_) fun H' hP => ?_
  · obtain ⟨e2, hD2⟩ := hP
    obtain ⟨t, c1, c2, rfl, ht', hci⟩ := (r.ext (exN ((e0.trans e1).trans e2))).at_ hy
    have hlen : (((rd.take n).filter ψ).map φ).length < 100000 := by
      have h1 := List.length_filter_le ψ (rd.take n)
      have h2 := r.len
      rw [List.length_map]
      rw [List.length_take] at h1
      omega
    refine g_nn (SqT.of ht') ⟨hw _ _, ht (c1, c2) H' H' (Ex.refl H') _ fun H3 e3 => ?_⟩
    cases hb : ψ (c1, c2) with
    | true =>
      rw [if_pos rfl]
      refine he (c1, c2) H3 H3 (Ex.refl H3) _ fun H4 e4 => ⟨_, e4 _ _ (e3 _ _ hD2), sz_lt hlen, ?_⟩
      refine ⟨Ex.mut (e2.trans (e3.trans e4)) hD, ?_⟩
      rw [upd_same, List.take_add_one, hci]
      simp [hb]
    | false =>
      rw [if_neg Bool.false_ne_true]
      refine ⟨e2.trans e3, ?_⟩
      rw [e3 _ _ hD2, List.take_add_one, hci]
      simp [hb]
  · obtain ⟨e2, hD2⟩ := hP
    rw [List.take_of_length_le (by rw [r.len]; exact Nat.le_refl _)] at hD2
    exact q D H' (fresh_back e1 hD) (e1.trans e2) hD2
theorem et_yes : EvT tYes σ H true := fun H1 _ _ q => q H1 (Ex.refl H1)
end
def begV : Option Int → V
  | none => .non
  | some b => .int b
end Gx

/-! a bag of digits: what a draw leaves -/
namespace Gx
open PySem PySem.Spec PyProof.Rows L2 LamX NdefX Evl He
/-- all but what lies at b -/
def ExB (b : Addr) (H H' : Hp) : Prop := ∀ a o, a ≠ b → H a = some o → H' a = some o
/-- a bag, at most k draws made -/
def BagAt (b : Addr) (k : Nat) (H : Hp) : Prop := ∃ x y z n : Int, H b = some (.lst [.int x, .int y, .int z, .int n]) ∧ 0 ≤ x ∧ (0 ≤ y ∧ y < 2 ^ 61) ∧ (0 ≤ z ∧ z < 2 ^ 30) ∧ 0 ≤ n ∧ n ≤ k
structure BgR (b : Addr) (H : Hp) (k : Nat) (H' : Hp) : Prop where
  keep : ExB b H H'
  bag : BagAt b k H'
section
variable {b : Addr} {k k' : Nat} {H H1 H2 : Hp}
theorem ExB.refl : ExB b H H := fun _ _ _ h => h
theorem ExB.of (e : Ex H H1) : ExB b H H1 := fun a o _ h => e a o h
theorem ExB.trans (a : ExB b H H1) (c : ExB b H1 H2) : ExB b H H2 := fun x o n h => c x o n (a x o n h)
theorem BagAt.lst (h : BagAt b k H) : ∃ us, H b = some (.lst us) := by
  obtain ⟨x, y, z, n, h, _⟩ := h
  exact ⟨_, h⟩
theorem BagAt.ne {a : Addr} {o : HO} (h : BagAt b k H) (ha : H a = some o) (no : ∀ us, o ≠ .lst us) : a ≠ b := fun e => by
  obtain ⟨us, hu⟩ := h.lst
  rw [e, hu] at ha
  exact no us (Option.some.inj ha).symm
theorem BagAt.mono (hk : k ≤ k') (h : BagAt b k H) : BagAt b k' H := by
  obtain ⟨x, y, z, n, h, h1, h2, h3, h4, h5⟩ := h
  exact ⟨x, y, z, n, h, h1, h2, h3, h4, by omega⟩
theorem BagAt.ex (e : ExtN H H1) (h : BagAt b k H) : BagAt b k H1 := by
  obtain ⟨x, y, z, n, h, h1⟩ := h
  exact ⟨x, y, z, n, e _ _ h (fun _ z => by cases z), h1⟩
theorem BgR.refl (h : BagAt b k H) : BgR b H k H := ⟨ExB.refl, h⟩
theorem BgR.ex (r : BgR b H k H1) (e : Ex H1 H2) : BgR b H k H2 := ⟨r.keep.trans (.of e), r.bag.ex (exN e)⟩
theorem BgR.trans (r : BgR b H k H1) (q : BgR b H1 k' H2) : BgR b H k' H2 := ⟨r.keep.trans q.keep, q.bag⟩
theorem BgR.mono (hk : k ≤ k') (r : BgR b H k H1) : BgR b H k' H1 := ⟨r.keep, r.bag.mono hk⟩
theorem tabs_exB {T : List (Addr × Str)} (h : BagAt b k H) (e : ExB b H H1) (t : Tabs T H) : Tabs T H1 := fun q hq => by
  obtain ⟨ps, h1, h2, h3⟩ := t q hq
  refine ⟨ps, e _ _ (h.ne h1 fun us z => by cases z) h1, h2, fun pos cv hc => ?_⟩
  obtain ⟨c, e1, e2⟩ := h3 pos cv hc
  exact ⟨c, e1, e _ _ (h.ne e2 fun us z => by unfold CodeO at z; cases z) e2⟩
theorem rows_exB {xs : List V} {rs : List Row} (h : BagAt b k H) (e : ExB b H H1) (r : Rows H xs rs) : Rows H1 xs rs := by
  refine ⟨fun x hx => ?_, ?_⟩
  · obtain ⟨t, a, c, rfl, ht⟩ := r.all x hx
    exact ⟨t, a, c, rfl, e _ _ (h.ne ht fun us z => by cases z) ht⟩
  · rw [r.val]
    refine List.map_congr_left fun x hx => ?_
    obtain ⟨t, a, c, rfl, ht⟩ := r.all x hx
    rw [rowOf_at ht, rowOf_at (e _ _ (h.ne ht fun us z => by cases z) ht)]
theorem sw_exB {C x : Addr} {o : Opt} (h : BagAt b k H) (e : ExB b H H1) (s : SwAt C H x o) : SwAt C H1 x o := by
  obtain ⟨dx, s⟩ := s
  exact ⟨dx, e _ _ (h.ne s fun us z => by cases z) s⟩
/-- back where b was not -/
theorem ExB.ext (n : New H b) (e1 : ExtN H H1) (e : ExB b H1 H2) : ExtN H H2 := fun a o h no => e a o (n.ne h no) (e1 a o h no)
end
/-- a draw below m -/
def spTake : Sp := fun vs H Q _ => ∃ b m k, vs = [.ref b, .int m] ∧ 0 < m ∧ m ≤ 10 ^ 30 ∧ BagAt b k H ∧ k < 2 ^ 20 ∧ ∀ r H', 0 ≤ r → r < m → BgR b H (k + 1) H' → Q (.int r) H'
/-- evaluates to a whole number p, c draws made -/
def EvB (b : Addr) (te : TE) (σ : L2.St) (H : Hp) (c : Nat) (p : Int → Prop) : Prop := ∀ k H1, BgR b H k H1 → k + c ≤ 2 ^ 20 → ∀ Q : VK, (∀ i H2, BgR b H (k + c) H2 → p i → Q (.int i) H2) → te σ H1 Q
section
variable {b : Addr} {H : Hp} {σ : L2.St} {te ta tb : TE} {c d : Nat} {p q : Int → Prop} {K : PySem.W.Frag}
theorem eb_ev {i : Int} (h : ∀ H1, Ev te σ H1 (.int i)) : EvB b te σ H 0 (· = i) := fun k H1 r _ Q q => h H1 H1 (Ex.refl H1) _ fun H2 e => q i H2 (r.ex e) rfl
theorem eb_c {i : Int} : EvB b (tC (.int i)) σ H 0 (· = i) := eb_ev fun _ => ev_c
theorem eb_var {j : Nat} {i : Int} (h : σ[j]? = some (some (.int i))) : EvB b (tVar j) σ H 0 (· = i) := eb_ev fun _ => ev_var h
theorem eb_take {ib : Nat} {m : Int} {E : XK} (hb : σ[ib]? = some (some (.ref b))) (h : EvB b te σ H 0 (· = m)) (h0 : 0 < m) (hm : m ≤ 10 ^ 30) : EvB b (tCall spTake [] E (tCons (tVar ib) (tCons te tNil))) σ H 1 fun r => 0 ≤ r ∧ r < m := fun k H1 r hk Q q => by
  refine ⟨_, hb, h k H1 r (by omega) _ fun i H2 r2 e => ?_⟩
  subst e
  exact ⟨b, i, k, rfl, h0, hm, r2.bag, by omega, fun j H3 j0 jm r3 => q j H3 (r2.trans r3) ⟨j0, jm⟩⟩
theorem eb_op {r : R2} {f : Int → Int → Int} (ha : EvB b ta σ H c p) (hb : EvB b tb σ H d q) (hr : ∀ i j, p i → q j → ∀ H, RV r (.int i) (.int j) H (.int (f i j))) : EvB b (tOp r ta tb) σ H (c + d) fun z => ∃ i j, p i ∧ q j ∧ z = f i j := fun k H1 e hk Q g =>
  ha k H1 e (by omega) _ fun i H2 e2 hi => hb (k + c) H2 e2 (by omega) _ fun j H3 e3 hj => hr i j hi hj H3 H3 (Ex.refl H3) _ fun H4 e4 => g _ H4 (by rw [← Nat.add_assoc]; exact e3.ex e4) ⟨i, j, hi, hj, rfl⟩
theorem eb_is {p' : Int → Prop} (h : EvB b te σ H c p) (hp : ∀ i, p i → p' i) : EvB b te σ H c p' := fun k H1 e hk Q q => h k H1 e hk Q fun i H2 e2 hi => q i H2 e2 (hp i hi)
theorem eb_min {i : Int} (ha : EvB b ta σ H c (· = i)) (hb : EvB b tb σ H d p) : EvB b (tCB (fun xs H Q => ∃ i j, xs = [.int i, .int j] ∧ Q (.int (if j < i then j else i)) H) (tCons ta (tCons tb tNil))) σ H (c + d) fun z => ∃ j, p j ∧ z = if j < i then j else i := fun k H1 e hk Q g =>
  ha k H1 e (by omega) _ fun i' H2 e2 hi => by
    subst hi
    exact hb (k + c) H2 e2 (by omega) _ fun j H3 e3 hj => ⟨i', j, rfl, g _ H3 (by rw [← Nat.add_assoc]; exact e3) ⟨j, hj, rfl⟩⟩
theorem sb_asg {D : Ends} {i : Nat} (h : EvB b te σ H c p) {k : Nat} {H1 : Hp} (r : BgR b H k H1) (hk : k + c ≤ 2 ^ 20) (q : ∀ j H2, p j → BgR b H (k + c) H2 → D.nx (σ.set i (some (.int j))) H2) : tAsg te (gName i) D σ H1 := h k H1 r hk _ fun j H2 r2 hp => q j H2 hp r2
end
/-! the draw itself -/
def bgV (x y z n : Int) : List V := [.int x, .int y, .int z, .int n]
theorem rc_int1 {i : Int} {H : Hp} : RC (fun xs H Q => (∃ i, xs = [.int i] ∧ Q (.int i) H) ∨ ∃ k, xs = [.bl k] ∧ Q (.int (if k then 1 else 0)) H) [.int i] H (.int i) := fun H1 _ Q q => .inl ⟨i, rfl, q H1 (Ex.refl H1)⟩
theorem ev_int1 {te : TE} {σ : L2.St} {H : Hp} {i : Int} (h : Ev te σ H (.int i)) : Ev (tCB (fun xs H Q => (∃ i, xs = [.int i] ∧ Q (.int i) H) ∨ ∃ k, xs = [.bl k] ∧ Q (.int (if k then 1 else 0)) H) (tCons te tNil)) σ H (.int i) := ev_cb (ea_cons h ea_nil) rc_int1
theorem ev_abs {te : TE} {σ : L2.St} {H : Hp} {i : Int} (h : Ev te σ H (.int i)) : Ev (tCB (fun xs H Q => ∃ i, xs = [.int i] ∧ Q (.int (if i < 0 then -i else i)) H) (tCons te tNil)) σ H (.int (if i < 0 then -i else i)) := ev_cb (ea_cons h ea_nil) fun H1 _ Q q => ⟨i, rfl, q H1 (Ex.refl H1)⟩
theorem bgr_upd {b : Addr} {H H1 : Hp} {k : Nat} {x y z n : Int} (e : Ex H H1) (h : 0 ≤ x ∧ (0 ≤ y ∧ y < 2 ^ 61) ∧ (0 ≤ z ∧ z < 2 ^ 30) ∧ 0 ≤ n ∧ n ≤ k) : BgR b H k (upd H1 b (.lst [.int x, .int y, .int z, .int n])) :=
  ⟨fun a o na ha => by rw [upd_ne na]; exact e a o ha, x, y, z, n, upd_same, h⟩
theorem fm_ok {i m : Int} (h : 0 < m) : 0 ≤ i.fmod m ∧ i.fmod m < m := ⟨Int.fmod_nonneg_of_pos i h, Int.fmod_lt_of_pos i h⟩
end Gx

/-! the promises of the laws' helpers -/
namespace Gx
open PySem PySem.Spec PyProof.Rows L2 LamX NdefX Evl He
def spBag (K : PySem.W.Frag) : Sp := fun vs H Q _ => ∃ a i, ∃ ns : List Int, vs = [.ref a, .int i] ∧ 0 ≤ i ∧ i ≤ 1000 ∧ SqL K H a (ns.map V.int) ∧ ∀ b H', Ex H H' → H b = none → BagAt b 0 H' → Q (.ref b) H'
def spOptions : Sp := fun vs H Q _ => ∃ b k, vs = [.ref b] ∧ BagAt b k H ∧ k + 6 ≤ 2 ^ 20 ∧ ∀ p (o : Opt) H', BgR b H (k + 6) H' → H' p = some (.tup [.str o.order, .str o.ties, .bl o.settles, .bl o.skips, .bl o.glues, .bl o.drops]) → o.ok → Q (.ref p) H'
def spRows : Sp := fun vs H Q _ => ∃ b m k, vs = [.ref b, .int m] ∧ BagAt b k H ∧ (0 ≤ m ∧ m ≤ 301) ∧ k + 3000 ≤ 2 ^ 20 ∧ ∀ a xs rs H', BgR b H (k + 3000) H' → H a = none → H' a = some (.lst xs) → Rows H' xs rs → (∀ r ∈ rs, stretchR r = true) → rs.length ≤ 301 → Q (.ref a) H'
def peakD : Option (Int × Int × Int) → PyData
  | none => .none
  | some (b, e, m) => .tuple [.int b, .int e, .int m]
def dueD (rd : List Row) : PyData := .tuple [.int (mostOf rd), peakD (peakOf rd)]
/-- readings that come back to none -/
def Falls (rd : List Row) : Prop := rd = [] ∨ ∃ e, rd.getLast? = some (e, 0)
def spDue (K : PySem.W.Frag) : Sp := fun vs H Q _ => ∃ a xs rd, vs = [.ref a] ∧ SqL K H a xs ∧ Rows H xs rd ∧ rd.length ≤ 2000 ∧ Falls rd ∧ ∀ p H', Ex H H' → Dp K H' (.ref p) (dueD rd) → Q (.ref p) H'
theorem ne_of_none' {H : Hp} {a b : Addr} {o : HO} (h : H a = none) (hb : H b = some o) : a ≠ b := fun e => by rw [e, hb] at h; cases h
theorem atI_in {xs : List V} {i : Int} (h0 : 0 ≤ i) (h : i < xs.length) : ∃ v, atI xs i = some v ∧ v ∈ xs := by
  have hl : i.toNat < xs.length := by omega
  refine ⟨xs[i.toNat], ?_, List.getElem_mem hl⟩
  have := atI_nat (xs := xs) (j := i.toNat) (List.getElem?_eq_getElem hl)
  rwa [show ((i.toNat : Nat) : Int) = i by omega] at this
section
variable {b : Addr} {H : Hp} {σ : L2.St} {te tl : TE} {c : Nat} {p : Int → Prop} {K : PySem.W.Frag}
theorem s_par {i j : Nat} {ta tb : TE} {D : Ends} (h : ta σ H fun v H1 => tb σ H1 fun w H2 => D.nx ((σ.set i (some v)).set j (some w)) H2) : tPar i j (tCons ta (tCons tb tNil)) D σ H := by
  have e : tPar i j (tCons ta (tCons tb tNil)) D σ H = (ta σ H fun v H1 => tb σ H1 fun w H2 => ∃ v' w', [v, w] = [v', w'] ∧ D.nx ((σ.set i (some v')).set j (some w')) H2) := rfl
  rw [e]
  have e2 : (fun v (H1 : Hp) => tb σ H1 fun w H2 => ∃ v' w', [v, w] = [v', w'] ∧ D.nx ((σ.set i (some v')).set j (some w')) H2) = (fun v H1 => tb σ H1 fun w H2 => D.nx ((σ.set i (some v)).set j (some w)) H2) := by
    funext v H1
    congr 1
    funext w H2
    exact propext ⟨fun ⟨v', w', e, h⟩ => by cases e; exact h, fun h => ⟨v, w, rfl, h⟩⟩
  rw [e2]
  exact h
/-- an item of a list of texts, drawn -/
theorem tk_str {Q : VK} {k ib : Nat} {m : Int} {E : XK} {H1 : Hp} {ss : List Str} (hl : ∀ Q : VK, (∀ a H2, Ex H1 H2 → a ≠ b → H2 a = some (.lst (ss.map V.str)) → Q (.ref a) H2) → tl σ H1 Q) (hb : σ[ib]? = some (some (.ref b))) (r : BgR b H k H1) (hk : k < 2 ^ 20) (hm : m = ss.length) (h0 : 0 < m) (h1 : m ≤ 10 ^ 30)
    (q : ∀ s H2, s ∈ ss → BgR b H (k + 1) H2 → Q (.str s) H2) : tOp (rIxL K) tl (tCall spTake [] E (tCons (tVar ib) (tCons (tC (.int m)) tNil))) σ H1 Q := by
  refine hl _ fun a H2 e2 na hx => ?_
  have r2 := r.ex e2
  refine eb_take (b := b) (H := H2) hb eb_c h0 h1 k H2 (BgR.refl r2.bag) (by omega) _ fun i H3 r3 hi => ?_
  obtain ⟨v, hv, hm'⟩ := atI_in (xs := ss.map V.str) hi.1 (by rw [List.length_map]; omega)
  obtain ⟨s, hs, rfl⟩ := List.mem_map.mp hm'
  refine ⟨a, _, i, _, rfl, rfl, SqL.of (r3.keep _ _ na hx), hv, q s H3 hs (r2.trans r3)⟩
theorem tk_truths {Q : VK} {k ib j : Nat} {E : XK} {vs : List Nat} {H1 : Hp} (hb : ∀ x, ((wipe σ vs).set j x)[ib]? = some (some (.ref b))) (hw : ∀ x, wipe ((wipe σ vs).set j x) vs = wipe σ vs) (r : BgR b H k H1) (hk : k + 4 ≤ 2 ^ 20)
    (q : ∀ D b1 b2 b3 b4 H2, BgR b H (k + 4) H2 → BgR b H1 (k + 4) H2 → H1 D = none → H2 D = some (.lst [.bl b1, .bl b2, .bl b3, .bl b4]) → Q (.ref D) H2) : tLc (iRng1 (tCons (tC (.int 4)) tNil)) (gName j) tYes (tOp rEq (tCall spTake [] E (tCons (tVar ib) (tCons (tC (.int 2)) tNil))) (tC (.int 1))) vs σ H1 Q := by
  obtain ⟨bag0, hbag0⟩ := r.bag.lst
  refine ⟨4, rfl, by decide, by decide, fun D hD => lc_range (lo := 0) (n := 4) (fun n H' => BgR b H1 (k + n) H' ∧ ∃ bs : List Bool, bs.length = n ∧ H' D = some (.lst (bs.map V.bl))) ⟨(BgR.refl r.bag).ex (Ex.new hD), [], rfl, upd_same⟩ (fun i H' hi hP => ?_) fun H' hP => ?_⟩
  · obtain ⟨r2, bs, hl, hD2⟩ := hP
    have nD : D ≠ b := ne_of_none' hD hbag0
    refine ⟨hw _, eb_take (b := b) (H := H') (hb _) eb_c (by decide) (by decide) (k + i) H' (BgR.refl r2.bag) (by omega) _ fun z H3 r3 _ => ⟨rfl, _, r3.keep _ _ nD hD2, ?_, ?_⟩⟩
    · rw [List.length_map, hl]
      exact sz_lt (by omega)
    · have r4 := r2.trans r3
      refine ⟨⟨fun a o na ha => ?_, ?_⟩, bs ++ [decide (V.int z = V.int 1)], by rw [List.length_append, hl]; rfl, by rw [upd_same, List.map_append]; rfl⟩
      · rw [upd_ne (fun e => by rw [e, hD] at ha; cases ha)]
        exact r4.keep a o na ha
      · obtain ⟨x, y, z, n, h, h1⟩ := r4.bag
        exact ⟨x, y, z, n, by rw [upd_ne nD.symm]; exact h, h1⟩
  · obtain ⟨r2, bs, hl, hD2⟩ := hP
    match bs, hl with
    | [b1, b2, b3, b4], _ => exact q D b1 b2 b3 b4 H' (r.trans r2) r2 hD hD2
end
theorem row_ok {f l h a b : Int} (f1 : 1 ≤ f) (f2 : f ≤ 10 ^ 28 + 1) (l0 : 0 ≤ l) (lh : l ≤ h) (hr : h ≤ 10) (ha : a = -(10 ^ 31) ∨ a = (l - 4) * f) (hb : b = 10 ^ 31 ∨ b = (h - 4) * f) : stretchR (a, b) = true := by
  have h1 : (-4) * f ≤ (l - 4) * f := Int.mul_le_mul_of_nonneg_right (by omega) (by omega)
  have h2 : (l - 4) * f ≤ (h - 4) * f := Int.mul_le_mul_of_nonneg_right (by omega) (by omega)
  have h3 : (h - 4) * f ≤ 6 * f := Int.mul_le_mul_of_nonneg_right (by omega) (by omega)
  generalize (l - 4) * f = x at *
  generalize (h - 4) * f = y at *
  have n1 : (-(10 ^ 30) : Int) ≤ x := by omega
  have n2 : y ≤ 10 ^ 30 := by omega
  simp only [stretchR, rowP, stretchD, edgeB, nearB, FIRST, LAST, MOST, Bool.and_eq_true, Bool.or_eq_true, decide_eq_true_eq]
  rcases ha with rfl | rfl <;> rcases hb with rfl | rfl
  · exact ⟨⟨.inl (.inl rfl), .inl (.inr rfl)⟩, by decide, by decide, by decide⟩
  · exact ⟨⟨.inl (.inl rfl), .inr ⟨decide_eq_true (by omega), decide_eq_true n2⟩⟩, decide_eq_true (by omega), by decide, by omega⟩
  · exact ⟨⟨.inr ⟨decide_eq_true n1, decide_eq_true (by omega)⟩, .inl (.inr rfl)⟩, by decide, decide_eq_true (by omega), by omega⟩
  · exact ⟨⟨.inr ⟨decide_eq_true n1, decide_eq_true (by omega)⟩, .inr ⟨decide_eq_true (by omega), decide_eq_true n2⟩⟩, decide_eq_true (by omega), decide_eq_true (by omega), by omega⟩
theorem ex_bgr {b : Addr} {k : Nat} {H H1 : Hp} {D : Addr} {o : HO} (hD : H D = none) (nD : D ≠ b) (r : BgR b H k H1) : BgR b H k (upd H1 D o) := by
  refine ⟨fun a u na ha => ?_, ?_⟩
  · rw [upd_ne (fun e => by rw [e, hD] at ha; cases ha)]
    exact r.keep a u na ha
  · obtain ⟨x, y, z, n, h, h1⟩ := r.bag
    exact ⟨x, y, z, n, by rw [upd_ne nD.symm]; exact h, h1⟩
end Gx

/-! the plain law of the greatest level and the peak -/
namespace Gx
open PySem PySem.Spec PyProof.Rows L2 LamX NdefX Evl He
theorem peak_some (m b : Int) : ∀ rd : List Row, peakGo m (some b) rd = ((rd.filter fun r => decide (r.2 < m)).map (·.1)).head?.map fun e => (b, e, m)
  | [] => rfl
  | r :: rs => by
    show (if _ then _ else _) = _
    by_cases h : r.2 < m
    · rw [if_pos h, List.filter_cons_of_pos (by simpa using h)]
      rfl
    · rw [if_neg h, List.filter_cons_of_neg (by simpa using h)]
      exact peak_some m b rs
theorem peak_zero : ∀ rd : List Row, peakGo 0 none rd = none
  | [] => rfl
  | r :: rs => by
    show (if _ then _ else _) = _
    rw [if_neg (by simp)]
    exact peak_zero rs
theorem peak_at {m : Int} (h0 : 0 < m) : ∀ (rd : List Row) (j : Nat) (r : Row), rd[j]? = some r → r.2 = m → (∀ i r', i < j → rd[i]? = some r' → r'.2 ≠ m) → peakGo m none rd = peakGo m (some r.1) (rd.drop (j + 1))
  | [], j, r, h, _, _ => by simp at h
  | x :: xs, 0, r, h, hm, _ => by
    have e : x = r := by simpa using h
    subst e
    show (if _ then _ else _) = _
    rw [if_pos ⟨hm, h0⟩]
    rfl
  | x :: xs, j + 1, r, h, hm, hb => by
    have n : x.2 ≠ m := hb 0 x (by omega) rfl
    show (if _ then _ else _) = _
    rw [if_neg (fun z => n z.1)]
    exact peak_at h0 xs j r (by simpa using h) hm fun i r' hi hr => hb (i + 1) r' (by omega) (by simpa using hr)
theorem most_nonneg (rd : List Row) : 0 ≤ mostOf rd := (most_ge _ 0).1
theorem first_most {rd : List Row} (h : mostOf rd ≠ 0) : ∃ (j : Nat) (r : Row), rd[j]? = some r ∧ r.2 = mostOf rd ∧ ∀ (i : Nat) (r' : Row), i < j → rd[i]? = some r' → r'.2 ≠ mostOf rd := by
  have hm : mostOf rd ∈ rd.map (fun r : Row => r.2) := (most_mem (rd.map (fun r : Row => r.2)) 0).resolve_left h
  obtain ⟨r0, hr0, e0⟩ := List.mem_map.mp hm
  have hl : rd.findIdx (fun r => decide (r.2 = mostOf rd)) < rd.length := List.findIdx_lt_length_of_exists ⟨r0, hr0, by simpa using e0⟩
  refine ⟨_, _, List.getElem?_eq_getElem hl, by simpa using List.findIdx_getElem (w := hl), fun i r' hi hr => ?_⟩
  have hi' := Nat.lt_trans hi hl
  rw [List.getElem?_eq_getElem hi'] at hr
  have := List.not_of_lt_findIdx hi
  rw [Option.some.inj hr] at this
  simpa using this
/-- behind the first greatest level there's a fall -/
theorem due_fall {rd : List Row} (hf : Falls rd) (h : mostOf rd ≠ 0) {j : Nat} {r : Row} (hj : rd[j]? = some r) (hr : r.2 = mostOf rd) (hb : ∀ i r', i < j → rd[i]? = some r' → r'.2 ≠ mostOf rd) :
    ∃ e es, ((rd.drop j).filter fun r => decide (r.2 < mostOf rd)).map (·.1) = e :: es ∧ peakOf rd = some (r.1, e, mostOf rd) := by
  have h0 : 0 < mostOf rd := by have := most_nonneg rd; omega
  obtain ⟨hl, hv⟩ := List.getElem?_eq_some_iff.mp hj
  rcases hf with rfl | ⟨e, he⟩
  · simp at hj
  have hd : rd.drop j = r :: rd.drop (j + 1) := by rw [List.drop_eq_getElem_cons hl, hv]
  have hlast : (e, 0) ∈ rd.drop (j + 1) := by
    have hm : (e, 0) ∈ rd.drop j := by
      rw [List.getLast?_eq_getElem?] at he
      obtain ⟨hl2, hv2⟩ := List.getElem?_eq_some_iff.mp he
      refine List.mem_of_getElem? (i := rd.length - 1 - j) ?_
      rw [List.getElem?_drop, show j + (rd.length - 1 - j) = rd.length - 1 by omega]
      exact he
    rw [hd] at hm
    rcases List.mem_cons.mp hm with z | z
    · rw [← z] at hr
      exact absurd hr.symm h
    · exact z
  have hfil : (rd.drop j).filter (fun r => decide (r.2 < mostOf rd)) = (rd.drop (j + 1)).filter fun r => decide (r.2 < mostOf rd) := by
    rw [hd, List.filter_cons_of_neg (by simp [hr])]
  rw [hfil]
  have hp := peak_at h0 rd j r hj hr hb
  rw [peak_some] at hp
  have hmem : e ∈ ((rd.drop (j + 1)).filter fun r => decide (r.2 < mostOf rd)).map (·.1) := List.mem_map.mpr ⟨(e, 0), List.mem_filter.mpr ⟨hlast, by simpa using h0⟩, rfl⟩
  cases hc : ((rd.drop (j + 1)).filter fun r => decide (r.2 < mostOf rd)).map (·.1) with
  | nil => rw [hc] at hmem; cases hmem
  | cons a as =>
    rw [hc] at hp
    exact ⟨a, as, rfl, hp⟩
theorem dp_due {K : PySem.W.Frag} {H : Hp} {p : Addr} {v : V} {rd : List Row} (hp : H p = some (.tup [.int (mostOf rd), v])) (hv : IsPeak H v (peakOf rd)) : Dp K H (.ref p) (dueD rd) := by
  refine .tup (SqT.of hp) (.cons (.int _) (.cons ?_ .nil))
  cases h : peakOf rd with
  | none =>
    rw [h] at hv
    rw [show v = .non from hv]
    exact .non
  | some t =>
    obtain ⟨b, e, m⟩ := t
    rw [h] at hv
    obtain ⟨q, rfl, hq⟩ := hv
    exact .tup (SqT.of hq) (.cons (.int _) (.cons (.int _) (.cons (.int _) .nil)))
/-- max([..] + [0]) -/
theorem ev_most0 {K : PySem.W.Frag} {σ : L2.St} {H : Hp} {tx : TE} {rd : List Row} (hn : rd.length ≤ 2000) (h : EvL tx σ H ((rd.map (·.2)).map V.int)) : Ev (tCB (rMax K) (tCons (tOp rCat tx (tLst (tCons (tC (.int 0)) tNil))) tNil)) σ H (.int (mostOf rd)) := fun H1 e1 Q q => by
  refine h H1 e1 _ fun D H2 _ e2 hD => (el_lst (vs := [.int 0]) (ea_cons ev_c ea_nil) (by show 1 ≤ 100000; decide)) H2 (Ex.refl H2) _ fun p H3 _ e3 hp => ?_
  refine ⟨D, p, (rd.map (·.2)).map V.int, [.int 0], rfl, rfl, e3 _ _ hD, hp, ?_, fun r hr => ?_⟩
  · rw [List.length_map, List.length_map]
    exact sz_of (by simp; omega)
  have e4 : Ex H3 (upd H3 r (.lst ((rd.map (·.2)).map V.int ++ [.int 0]))) := Ex.new hr
  refine ⟨r, rd.map (·.2) ++ [0], rfl, SqL.of (by rw [upd_same, List.map_append]; rfl), by simp, fun m h1 h2 => ?_⟩
  rw [most_is (m := m) (rd := rd) (by simpa [or_comm] using h1) fun j hj => h2 j (by simpa [or_comm] using hj)]
  exact q _ ((e2.trans e3).trans e4)
theorem tRet_due {K : PySem.W.Frag} {σ : L2.St} {H : Hp} {D : Ends} {t1 t2 t3 t4 : TE} {rd : List Row} {b e : Int} (hp : peakOf rd = some (b, e, mostOf rd)) (h1 : Ev t1 σ H (.int (mostOf rd))) (h2 : Ev t2 σ H (.int b)) (h3 : Ev t3 σ H (.int e)) (h4 : Ev t4 σ H (.int (mostOf rd)))
    (k : ∀ p H1, Ex H H1 → Dp K H1 (.ref p) (dueD rd) → D.rt (.ref p) H1) : tRet (tTup (tCons t1 (tCons (tTup (tCons t2 (tCons t3 (tCons t4 tNil)))) tNil))) D σ H := by
  refine en_tup (en_consV h1 (en_consU (eu_tup (ea_cons h2 (ea_cons h3 (ea_cons h4 ea_nil))) (by show 3 ≤ 100000; decide)) en_nil)) (fun xs H' hP => ?_) fun p xs H1 H2 e hP hq eH => ?_
  · obtain ⟨_, rfl, _, _, rfl, _, rfl⟩ := hP
    show 2 ≤ 100000
    decide
  · obtain ⟨_, rfl, q, _, rfl, hq2, rfl⟩ := hP
    subst eH
    refine k p _ (e.trans (Ex.new hq)) (dp_due (v := .ref q) upd_same ?_)
    rw [hp]
    exact ⟨q, rfl, Ex.new hq _ _ hq2⟩
theorem rows_drop {H : Hp} {xs : List V} {rs : List Row} (h : Rows H xs rs) (j : Nat) : Rows H (xs.drop j) (rs.drop j) :=
  ⟨fun x hx => h.all x (List.mem_of_mem_drop hx), by rw [h.val, List.map_drop]⟩
theorem cut_drop {xs : List V} {j : Nat} : cutV xs (some (j : Int)) none = xs.drop j := by
  unfold cutV
  rw [HT.sIx_nat, HT.sIx_none]
  by_cases h : j ≤ xs.length
  · rw [Nat.min_eq_left h, List.take_of_length_le (by rw [List.length_drop]; exact Nat.le_refl _)]
  · rw [Nat.min_eq_right (by omega), List.drop_length, List.drop_of_length_le (by omega), List.take_nil]
end Gx

/-! a sweep made, called; a law's def at its first call -/
namespace Gx
open PySem PySem.Spec PyProof.Rows L2 LamX NdefX Evl He
abbrev swC (K : PySem.W.Frag) : Addr := ga K "Sweep"
abbrev swKw : List (Str × V) := [("order", .str "any"), ("ties", .str "ends"), ("settles", .bl false), ("skips", .bl false), ("glues", .bl false), ("drops", .bl false)]
abbrev swP : List Str := ["self", "order", "ties", "settles", "skips", "glues", "drops"]
abbrev swN : List Str := ["order", "ties", "settles", "skips", "glues", "drops"]
/-- the class makes sweeps -/
structure SwM (P : Program) (w : World) (K : PySem.W.Frag) (mg : Str → Option Value) (base : Heap) : Prop where
  g : mg "Sweep" = some (.ref (swC K))
  ex : ∃ (f : Addr) (fd : FuncData), Mk K (swC K) f ∧ FnOk P w K mg base L2.CX0 2 f fd swP (spInit K (swC K)) ∧ (∃ ds, Vals (swKw.map (·.2)) ds ∧ L2.Binds K fd swP ds) ∧ KBn K fd swP 1 swN (fun us ws => us ++ ws) fun vs zs => vs ++ zs
theorem swM_of {P : Program} {w : World} {K : PySem.W.Frag} {mg : Str → Option Value} {base : Heap} {f : Addr} {fd : FuncData} {x qual : Str} {params : Arguments} {body : List Stmt} {scope : Scope} (g : mg "Sweep" = some (.ref (swC K))) (M : Mk K (swC K) f) (F : FunD K x qual params body scope [] swKw f fd)
    (G : FnOk P w K mg base L2.CX0 2 f fd swP (spInit K (swC K)))
    (h0 : ∀ (D : Addr) (doc pm : Value) (an : Option Addr) (cdv ct : Value) (us ks : List Value), us.length = 1 → ks.length = swKw.length → KwChain D ((swKw.map (·.1)).zip ks) (bindArgs (PySem.W.fnOf x qual params body scope .none (.ref D) doc pm an cdv ct) ⟨us, []⟩) (swP.zip (us ++ ks)))
    (h1 : ∀ (D : Addr) (doc pm : Value) (an : Option Addr) (cdv ct : Value) (us ws : List Value), us.length = 1 → ws.length = 6 → bindArgs (PySem.W.fnOf x qual params body scope .none (.ref D) doc pm an cdv ct) ⟨us, swN.zip ws⟩ = pure (swP.zip (us ++ ws))) : SwM P w K mg base := by
  obtain ⟨mv, kb⟩ := F.kbinds0 (ps := swP) 1 swN [] (fun us _ ws => us ++ ws) (by decide) (fun q hq => by cases hq) (fun r1 _ r3 => r1.append r3) fun D doc pm an cdv ct us mv ws l1 l2 l3 => by
    have : mv = [] := List.eq_nil_of_length_eq_zero l2
    subst this
    exact h1 D doc pm an cdv ct us ws l1 l3
  exact ⟨g, f, fd, M, G, F.binds0 1 (by decide) rfl h0, kb⟩
section
variable {X : Cx} {j : Nat} {p pos : Pos} {kws : List Keyword} {tk : TA}
/-- Sweep() -/
theorem pe_sw0 (G : SwM X.prog X.w X.K X.mg X.base) (hr : Room j X.A) (hg : Gl X "Sweep") (hk : 3 ≤ j := by decide) : PE X (.Call (.Name "Sweep" p) [] [] pos) (tMake (swC X.K) (spInit X.K (swC X.K)) (swKw.map (·.2)) L2.E0 tNil) := by
  obtain ⟨f, fd, M, F, ⟨ds, hd, hb⟩, _⟩ := G.ex
  exact pe_make0 M F (hr.mono hk) hg G.g hb hd L2.pass0
/-- Sweep(order = .., ties = .., ..) -/
theorem pe_swK (G : SwM X.prog X.w X.K X.mg X.base) (hr : Room j X.A) (hg : Gl X "Sweep") (hkw : PK X kws tk) (hk : 3 ≤ j := by decide)
    (hall : (backToKw pos (keywordEach kws X.env)).all (·.1.isSome) = true := by rfl) (hks : (backToKw pos (keywordEach kws X.env)).filterMap (·.1) = swN := by rfl)
    (hpl : ((backTo pos (starEach [] X.env)).any (·.1) || (backToKw pos (keywordEach kws X.env)).any (·.1.isNone)) = false := by rfl) :
    PE X (.Call (.Name "Sweep" p) [] kws pos) (tMakeK (swC X.K) 0 6 (spInit X.K (swC X.K)) (fun vs zs => vs ++ zs) L2.E0 tNil tk) := by
  obtain ⟨f, fd, M, F, _, kb⟩ := G.ex
  exact pe_makeK0 M F (hr.mono hk) hg G.g kb L2.pass0 hkw hall hks (by decide) hpl
end
/-- an instance of the class at C is called -/
structure KnC (P : Program) (w : World) (K : PySem.W.Frag) (mg : Str → Option Value) (base : Heap) (k : Nat) (C : Addr) (sp : Sp) : Prop where
  ex : ∃ g : Addr, StX.CallO K C g ∧ FnR P w K mg base L2.CX0 k g sp
theorem pe_knc {X : Cx} {k j : Nat} {C : Addr} {sp : Sp} {t : TA} {fe e : Expr} {es : List Expr} {pos : Pos} {tf : TE} (hf : PE X fe tf) (G : KnC X.prog X.w X.K X.mg X.base k C sp) (hr : Room j X.A) (ha : PA X (e :: es) t) (hk : k ≤ j := by decide)
    (ht : eval (.Call fe (e :: es) [] pos) X.env = (do callWith pos (← eval fe X.env) [] (backTo pos (starEach (e :: es) X.env)) (backToKw pos (keywordEach [] X.env))) := by rfl)
    (he : starEach (e :: es) X.env = (false, eval e X.env) :: starEach es X.env := by rfl) (hpl : (backTo pos (starEach es X.env)).any (·.1) = false := by rfl) : PE X (.Call fe (e :: es) [] pos) (StX.tCallO X C sp L2.E0 tf t) := by
  obtain ⟨g, c, F⟩ := G.ex
  exact StX.pe_callO hf c F (hr.mono hk) L2.pass0 ha ht he hpl
theorem knc_of {P : Program} {w : World} {K : PySem.W.Frag} {mg : Str → Option Value} {base : Heap} {x qual : Str} {params : Arguments} {body : List Stmt} {scope : Scope} {kws : List (Str × V)} {fd : FuncData} {k : Nat} {C g : Addr} {sp : Sp} {ps : List Str} (F : FunD K x qual params body scope [] kws g fd) (G : FnOk P w K mg base L2.CX0 k g fd ps sp) (c : StX.CallO K C g)
    (h : ∀ (kV doc pm : Value) (an : Option Addr) (cdv ct : Value) (us : List Value), us.length = ps.length → bindArgs (PySem.W.fnOf x qual params body scope .none kV doc pm an cdv ct) ⟨us, []⟩ = pure (ps.zip us)) : KnC P w K mg base k C sp := by
  refine ⟨g, c, fun A outer s H us vs Q E hr e0 r hs => ?_⟩
  have := FnOk.raw G (F.bindsN h) .nil A outer s H us vs Q E hr e0 r (by show sp (vs ++ []) H Q E; rw [List.append_nil]; exact hs)
  exact this
section
variable {P : Program} {w : World} {K : PySem.W.Frag} {mg : Str → Option Value} {base : Heap} {x qual : Str} {params : Arguments} {body : List Stmt} {scope : Scope} {dvs : List V} {kws : List (Str × V)} {f : Addr} {fd : FuncData}
/-- a def's promise where nothing but the claim's caller is about it -/
theorem at_caller {N ps : List Str} {k : Nat} {sp : Sp} (F : FunD K x qual params body scope dvs kws f fd) (S : FnScope N ps scope) (len : ∀ vs H Q E, sp vs H Q E → vs.length = ps.length)
    (hbody : ∀ (cdv : Value) (X : Cx) (outer : List Env) (s : Shared) (H : Hp) (vs : List V) (Q : VK) (E : XK), X = cxOf C8.CX0 P w K mg base N qual scope f cdv callerA outer s H E → X.A.guards = some [] → Room k X.A → sp vs H Q E →
      ∃ t, PSs X body t ∧ t { nx := fun _ H' => Q .non H', rt := Q } (L2.start N vs) H)
    (hk : Room (k + 1) callerA) (outer : List Env) (s : Shared) (H : Hp) (args : Args) (us : List Value) (vs : List V) (Q : VK) (E : XK) (e0 : Env0 P w K mg base callerA outer s H) (hb : BindsTo s fd args (ps.zip us)) (r : Vals vs us) (hsp : sp vs H Q E) :
    codeAny (model P w) callerA (.call (.ref f) args) (CR C8.CX0 outer P w H s Q E) s := by
  obtain ⟨oc, od, dV, kV, doc, pm, an, cdv, ct, osl, rfl, lk, hcd, _, _⟩ := F.ex
  have hl := len _ _ _ _ hsp
  have KX : K.In s.heap := e0.mod.kin.keeps fun b o e => (e0.bs b o e).1
  have lim : s.heap.NoLimit := e0.mod.nolimit.keeps fun b o e => (e0.bs b o e).1
  have kinds : ∀ y ∈ ps.zip us, scope.names.lookup y.1 = some .local ∨ (scope.names.lookup y.1 = some .cell ∧ ((cellsFrom (s.heap.objs.size + 1) scope.names []).lookup y.1).isSome = true) := fun ⟨n, v⟩ hy =>
    (S.par n (List.of_mem_zip hy).1).elim .inl fun q => .inr ⟨q, PySem.W.cellsFrom_some _ _ _ (.inl q)⟩
  refine codeAny_call_function hk.depth (KX _ _ lk) rfl S.co S.gen rfl (PySem.W.codeRec_of KX hcd) (hb _ _ _ _ ?_)
  refine wpAny_newFunctionEnv_cells S.kind kinds fun env he s1 x => ?_
  subst he
  refine ⟨lim.keeps x.toInCall.keep, codeAny_func ?_⟩
  obtain ⟨t, ht, hq⟩ := hbody cdv _ outer s H vs Q E rfl rfl (hk.deeper _) hsp
  refine wpAny_mono (ht.run [] s1 (L2.start N vs) H _ (inv_start S hk.hd e0 hl r x) hq) (fun fl s' hs => ?_) fun e s' hs => hs
  match fl, hs with
  | .ret _, ⟨v, _, H', J, rv, q⟩ => exact ⟨v, H', J.os, J.bare, J.base, J.hok, rv, q⟩
  | .next, ⟨_, H', J, q⟩ => exact ⟨V.non, H', J.os, J.bare, J.base, J.hok, rfl, q⟩
  | .brk, ⟨_, _, _, q⟩ => exact False.elim q
  | .cont, ⟨_, _, _, q⟩ => exact False.elim q
end
end Gx
namespace Gx
open PySem PySem.Spec PyProof.Rows L2 LamX NdefX Evl He
def spLawSweep (K : PySem.W.Frag) : Sp := fun vs H Q _ => ∃ p, ∃ o : Opt, vs = [.ref p] ∧ SqT K H p [.str o.order, .str o.ties, .bl o.settles, .bl o.skips, .bl o.glues, .bl o.drops] ∧ o.ok ∧ ∀ x H', Ex H H' → H x = none → SwAt (swC K) H' x o → Q (.ref x) H'
section
variable {K : PySem.W.Frag} {σ : L2.St} {H : Hp} {E : XK} {Q : VK}
theorem ex_made {C x dx : Addr} {o : Opt} {H' : Hp} (hx : H x = none) (hd : H dx = none) (n : dx ≠ x) (e : Ex (upd (upd (upd H dx (.own x)) x (.ins C dx [])) x (.ins C dx o.fields)) H') : Ex H H' ∧ SwAt C H' x o :=
  ⟨fun a u ha => e a u (by rw [upd_ne (ne_of_none ha hx), upd_ne (ne_of_none ha hx), upd_ne (ne_of_none ha hd)]; exact ha), dx, e _ _ upd_same⟩
theorem mk_sw {tk : TA} {o : Opt} (h : EvA tk σ H [.str o.order, .str o.ties, .bl o.settles, .bl o.skips, .bl o.glues, .bl o.drops]) (ok : o.ok) (k : ∀ x H', Ex H H' → H x = none → SwAt (swC K) H' x o → Q (.ref x) H') :
    tMakeK (swC K) 0 6 (spInit K (swC K)) (fun vs zs => vs ++ zs) E tNil tk σ H Q :=
  h H (Ex.refl H) _ fun H2 e2 => ⟨rfl, rfl, fun x dx hx hd n => ⟨x, dx, o, rfl, upd_same, ok, fun H' e => by
    obtain ⟨e3, s⟩ := ex_made hx hd n e
    exact ⟨rfl, k x H' (e2.trans e3) (fresh_back e2 hx) s⟩⟩⟩
def o0 : Opt := ⟨"any", "ends", false, false, false, false⟩
theorem o0_ok : o0.ok := ⟨List.mem_cons_self, List.mem_cons_self⟩
theorem mk_sw0 (k : ∀ x H', Ex H H' → H x = none → SwAt (swC K) H' x o0 → Q (.ref x) H') : tMake (swC K) (spInit K (swC K)) (swKw.map (·.2)) E tNil σ H Q := fun x dx hx hd n => ⟨x, dx, o0, rfl, upd_same, o0_ok, fun H' e => by
    obtain ⟨e3, s⟩ := ex_made hx hd n e
    exact ⟨rfl, k x H' e3 hx s⟩⟩
end
end Gx
namespace Gx
open PySem PySem.Spec PyProof.Rows L2 LamX NdefX Evl He
def spLawT (K : PySem.W.Frag) (T : List (Addr × Str)) : Sp := fun vs H Q _ => ∃ a, ∃ ns : List Int, vs = [.ref a] ∧ SqL K H a (ns.map V.int) ∧ Tabs T H ∧ ∀ H', Q (.bl true) H'
end Gx

/-! what a law of sweeps shows; bounds of readings -/
namespace Gx
open PySem PySem.Spec PyProof.Rows L2 LamX NdefX Evl He
/-! ### bounds -/
theorem stretch_bound {a b : Int} (h : stretchR (a, b) = true) : a.natAbs ≤ 10 ^ 31 ∧ b.natAbs ≤ 10 ^ 31 := by
  have h' : ((edgeB a && edgeB b) && (decide (FIRST < b) && (decide (a < LAST) && decide (a ≤ b)))) = true := h
  rw [Bool.and_eq_true, Bool.and_eq_true] at h'
  have edge : ∀ i : Int, edgeB i = true → i.natAbs ≤ 10 ^ 31 := fun i hi => by
    unfold edgeB nearB at hi
    rw [Bool.or_eq_true, Bool.or_eq_true, Bool.and_eq_true] at hi
    have h1 : FIRST = -(10 ^ 31) := rfl
    have h2 : LAST = 10 ^ 31 := rfl
    have h3 : MOST = 10 ^ 30 := rfl
    rcases hi with (z | z) | ⟨z, y⟩
    · have := of_decide_eq_true z; omega
    · have := of_decide_eq_true z; omega
    · have := of_decide_eq_true z
      have := of_decide_eq_true y
      omega
  exact ⟨edge a h'.1.1, edge b h'.1.2⟩
theorem steps_bound {sk : Bool} {rs : List Row} (h : ∀ r ∈ rs, stretchR r = true) : ∀ c ∈ stepsOf sk rs, c.1.natAbs ≤ 10 ^ 31 ∧ c.2.natAbs ≤ 1 := fun c hc => by
  unfold stepsOf at hc
  obtain ⟨r, hr, hc⟩ := List.mem_flatMap.mp hc
  have b := stretch_bound (a := r.1) (b := r.2) (h r hr)
  split at hc
  · rcases List.mem_cons.mp hc with rfl | hc
    · exact ⟨b.1, by simp⟩
    · rw [List.mem_singleton.mp hc]
      exact ⟨b.2, by simp⟩
  · cases hc
theorem steps_sum (sk : Bool) : ∀ rs : List Row, ((stepsOf sk rs).map (·.2)).sum = 0
  | [] => rfl
  | r :: rs => by
    have ih := steps_sum sk rs
    have e : stepsOf sk (r :: rs) = (if decide (r.1 < r.2) || !sk then [(r.1, 1), (r.2, -1)] else []) ++ stepsOf sk rs := rfl
    rw [e, List.map_append, List.sum_append, ih]
    split <;> simp
theorem changes_perm (o : Opt) (rs : List Row) : (changesOf o rs).Perm (stepsOf o.skips (sortRows o.order rs)) := List.mergeSort_perm _ _
theorem sort_perm (o : Str) (rs : List Row) : (sortRows o rs).Perm rs := List.mergeSort_perm _ _
theorem changes_bound {o : Opt} {rs : List Row} (h : ∀ r ∈ rs, stretchR r = true) : ∀ c ∈ changesOf o rs, c.1.natAbs ≤ 10 ^ 31 ∧ c.2.natAbs ≤ 1 := fun c hc =>
  steps_bound (fun r hr => h r ((sort_perm o.order rs).mem_iff.mp hr)) c ((changes_perm o rs).mem_iff.mp hc)
theorem sum_perm : ∀ {l m : List Int}, l.Perm m → l.sum = m.sum
  | _, _, .nil => rfl
  | _, _, .cons x p => by rw [List.sum_cons, List.sum_cons, sum_perm p]
  | _, _, .swap x y l => by simp only [List.sum_cons]; omega
  | _, _, .trans p q => (sum_perm p).trans (sum_perm q)
theorem changes_sum (o : Opt) (rs : List Row) : ((changesOf o rs).map (·.2)).sum = 0 := by
  rw [sum_perm ((changes_perm o rs).map _), steps_sum]
theorem go_bound (s : Bool) : ∀ (cs : List Row) (now : Int) (k : Nat), now.natAbs ≤ k → (∀ c ∈ cs, c.1.natAbs ≤ 10 ^ 31 ∧ c.2.natAbs ≤ 1) → ∀ r ∈ readGo s now cs, r.1.natAbs ≤ 10 ^ 31 ∧ r.2.natAbs ≤ k + cs.length
  | [], _, _, _, _, r, hr => by cases hr
  | c :: cs, now, k, hk, h, r, hr => by
    have hc := h c List.mem_cons_self
    have ih := go_bound s cs (now + c.2) (k + 1) (by omega) (fun d hd => h d (List.mem_cons_of_mem _ hd))
    have e : readGo s now (c :: cs) = (if !s || endB c cs then (c.1, now + c.2) :: readGo s (now + c.2) cs else readGo s (now + c.2) cs) := rfl
    rw [e] at hr
    rw [List.length_cons]
    split at hr
    · rcases List.mem_cons.mp hr with rfl | hr
      · exact ⟨hc.1, by show (now + c.2).natAbs ≤ _; omega⟩
      · have := ih r hr
        exact ⟨this.1, by omega⟩
    · have := ih r hr
      exact ⟨this.1, by omega⟩
theorem go_last (s : Bool) : ∀ (cs : List Row) (now : Int), cs ≠ [] → ∃ e, (readGo s now cs).getLast? = some (e, now + (cs.map (·.2)).sum)
  | [], _, h => absurd rfl h
  | [c], now, _ => by
    have e : readGo s now [c] = (if !s || endB c [] then (c.1, now + c.2) :: readGo s (now + c.2) [] else readGo s (now + c.2) []) := rfl
    rw [e, if_pos (by simp [endB])]
    exact ⟨c.1, by simp [readGo]⟩
  | c :: d :: cs, now, _ => by
    obtain ⟨e0, ih⟩ := go_last s (d :: cs) (now + c.2) (by simp)
    have e : readGo s now (c :: d :: cs) = (if !s || endB c (d :: cs) then (c.1, now + c.2) :: readGo s (now + c.2) (d :: cs) else readGo s (now + c.2) (d :: cs)) := rfl
    refine ⟨e0, ?_⟩
    rw [e, List.map_cons, List.sum_cons, ← Int.add_assoc]
    split
    · rw [List.getLast?_cons, ih]
      rfl
    · exact ih
theorem reads_falls (o : Opt) (rs : List Row) : Falls (readingsOf o rs) := by
  by_cases h : changesOf o rs = []
  · left
    unfold readingsOf
    rw [h]
    rfl
  · right
    obtain ⟨e, he⟩ := go_last o.settles (changesOf o rs) 0 h
    rw [changes_sum] at he
    exact ⟨e, he⟩
theorem reads_bound {o : Opt} {rs : List Row} (h : ∀ r ∈ rs, stretchR r = true) (few : rs.length ≤ 1000) : ∀ r ∈ readingsOf o rs, r.1.natAbs ≤ 10 ^ 31 ∧ r.2.natAbs ≤ 2000 := fun r hr => by
  have := go_bound o.settles (changesOf o rs) 0 0 (Nat.le_refl _) (changes_bound h) r hr
  have := changes_len o rs
  omega
theorem most_bound {rd : List Row} (h : ∀ r ∈ rd, r.1.natAbs ≤ 10 ^ 31 ∧ r.2.natAbs ≤ 2000) : (mostOf rd).natAbs ≤ 2000 := by
  rcases most_mem (rd.map (fun r : Int × Int => r.2)) 0 with z | z
  · rw [show mostOf rd = 0 from z]; decide
  · obtain ⟨r, hr, e⟩ := List.mem_map.mp z
    rw [show mostOf rd = r.2 from e.symm]
    exact (h r hr).2
theorem peak_bound {m : Int} : ∀ {rd : List Row} {p : Option Int} {b e k : Int}, (∀ x, p = some x → x.natAbs ≤ 10 ^ 31) → (∀ r ∈ rd, r.1.natAbs ≤ 10 ^ 31 ∧ r.2.natAbs ≤ 2000) → peakGo m p rd = some (b, e, k) → b.natAbs ≤ 10 ^ 31 ∧ e.natAbs ≤ 10 ^ 31 ∧ k = m
  | [], p, b, e, k, _, _, h => by cases p <;> cases h
  | r :: rs, none, b, e, k, hp, hr, h => by
    have e0 : peakGo m none (r :: rs) = (if r.2 = m ∧ 0 < m then peakGo m (some r.1) rs else peakGo m none rs) := rfl
    rw [e0] at h
    have hr' := fun x hx => hr x (List.mem_cons_of_mem _ hx)
    split at h
    · exact peak_bound (fun x hx => by cases hx; exact (hr r List.mem_cons_self).1) hr' h
    · exact peak_bound (fun x hx => by cases hx) hr' h
  | r :: rs, some q, b, e, k, hp, hr, h => by
    have e0 : peakGo m (some q) (r :: rs) = (if r.2 < m then some (q, r.1, m) else peakGo m (some q) rs) := rfl
    rw [e0] at h
    split at h
    · cases h
      exact ⟨hp _ rfl, (hr r List.mem_cons_self).1, rfl⟩
    · exact peak_bound hp (fun x hx => hr x (List.mem_cons_of_mem _ hx)) h
theorem due_tame {rd : List Row} (h : ∀ r ∈ rd, r.1.natAbs ≤ 10 ^ 31 ∧ r.2.natAbs ≤ 2000) : tame (dueD rd) = true ∧ cap (dueD rd) ≤ 1000 ∧ (dueD rd).depth ≤ 3 := by
  have hm := most_bound h
  unfold dueD
  cases hp : peakOf rd with
  | none =>
    refine ⟨?_, by simp [peakD, cap, capAll], by simp [peakD, PyData.depth, PyData.depthAll]⟩
    simp only [peakD, tame, tameAll, Bool.and_true, decide_eq_true_eq]
    omega
  | some t =>
    obtain ⟨b, e, k⟩ := t
    obtain ⟨h1, h2, rfl⟩ := peak_bound (fun x hx => by cases hx) h hp
    refine ⟨?_, by simp [peakD, cap, capAll], by simp [peakD, PyData.depth, PyData.depthAll]⟩
    simp only [peakD, tame, tameAll, Bool.and_true, Bool.and_eq_true, decide_eq_true_eq]
    omega
/-! ### what is shown -/
section
variable {X : Cx} {K : PySem.W.Frag} {C : Addr} {T : List (Addr × Str)} {σ : L2.St} {H : Hp} {te tf ta t1 t2 : TE} {o : Opt} {xs : List V} {rs : List Row}
def ObjN (C : Addr) (te : TE) (σ : L2.St) (H : Hp) (o : Opt) : Prop := ∀ H1, ExtN H H1 → ∀ Q : VK, (∀ x H2, Ex H1 H2 → SwAt C H2 x o → Q (.ref x) H2) → te σ H1 Q
def ArgN (K : PySem.W.Frag) (te : TE) (σ : L2.St) (H : Hp) (xs : List V) : Prop := ∀ H1, ExtN H H1 → ∀ Q : VK, (∀ a H2, Ex H1 H2 → SqL K H2 a xs ∨ SqT K H2 a xs → Q (.ref a) H2) → te σ H1 Q
def ShN (T : List (Addr × Str)) (te : TE) (σ : L2.St) (H : Hp) (s : Str) : Prop := ∀ H1, ExtN H H1 → Tabs T H1 → ∀ Q : VK, (∀ H2, ExtN H1 H2 → Tabs T H2 → Q (.str s) H2) → te σ H1 Q
theorem obj_var {i : Nat} {x : Addr} (h : σ[i]? = some (some (.ref x))) (s : SwAt C H x o) : ObjN C (tVar i) σ H o := fun H1 e Q q => ⟨_, h, q x H1 (Ex.refl H1) (s.ext e)⟩
theorem obj_new {E : XK} : ObjN (swC K) (tMake (swC K) (spInit K (swC K)) (swKw.map (·.2)) E tNil) σ H o0 := fun H1 _ Q q => mk_sw0 fun x H2 e2 _ s => q x H2 e2 s
theorem arg_var {i : Nat} {a : Addr} (h : σ[i]? = some (some (.ref a))) (s : SqL K H a xs ∨ SqT K H a xs) : ArgN K (tVar i) σ H xs := fun H1 e Q q => ⟨_, h, q a H1 (Ex.refl H1) (s.elim (fun z => .inl (sqL_ext e z)) fun z => .inr (sqT_ext e z))⟩
theorem arg_nil : ArgN K (tLst tNil) σ H [] := fun H1 _ Q q => (el_lst ea_nil (by show 0 ≤ 100000; decide)) H1 (Ex.refl H1) _ fun p H2 _ e2 hp => q p H2 e2 (.inl (SqL.of hp))
theorem arg_tup {i : Nat} {a : Addr} (h : σ[i]? = some (some (.ref a))) (s : SqL K H a xs) : ArgN K (tCB (fun xs H Q => ∃ p ys, xs = [.ref p] ∧ ((SqL K H p ys ∧ ∀ l, H l = none → Q (.ref l) (upd H l (.tup ys))) ∨ (SqT K H p ys ∧ Q (.ref p) H))) (tCons (tVar i) tNil)) σ H xs := fun H1 e Q q =>
  ⟨_, h, a, xs, rfl, .inl ⟨sqL_ext e s, fun l hl => q l _ (Ex.new hl) (.inr (SqT.of upd_same))⟩⟩
theorem sh_ne {D : Ends} {tb : TS} {s : Str} (hT : Tabs T H) (h1 : ShN T t1 σ H s) (h2 : ShN T t2 σ H s) (k : ∀ H', ExtN H H' → Tabs T H' → D.nx σ H') : tIfS (tTest (tOp rNe t1 t2)) tb tNext D σ H :=
  h1 H (exN (Ex.refl H)) hT _ fun H1 e1 T1 => h2 H1 e1 T1 _ fun H2 e2 T2 => ⟨rfl, _, rfl, by
    have : (!decide (V.str s = V.str s)) = false := by simp
    rw [this]
    exact k H2 (e1.trans e2) T2⟩
theorem sh_c {s : Str} : ShN T (tC (.str s)) σ H s := fun H1 e T1 Q q => q H1 (exN (Ex.refl H1)) T1
theorem repr_due {k : Nat} {H' : Hp} {p : Addr} {rd : List Row} {Q : VK} (hr : Room k X.A) (hb : ∀ r ∈ rd, r.1.natAbs ≤ 10 ^ 31 ∧ r.2.natAbs ≤ 2000) (h : Dp X.K H' (.ref p) (dueD rd)) (q : Q (.str (dueD rd).shown) H') : rRepr X [.ref p] H' Q := by
  obtain ⟨h1, h2, h3⟩ := due_tame hb
  have hs := tame_show _ h1
  have hl := shown_le _ h1
  have hu := hr.un
  exact ⟨p, _, rfl, h, hs.1, hs.2, by omega, sz_of (by omega), q⟩
/-- repr((s(spans), s.peak(spans))) -/
theorem sh_pair {k : Nat} {E1 E2 : XK} (hr : Room k X.A) (o1 : ObjN C tf σ H o) (o2 : ObjN C te σ H o) (a1 : ArgN X.K t1 σ H xs) (a2 : ArgN X.K t2 σ H xs) (ok : o.ok) (ro : Rows H xs rs) (good : ∀ r ∈ rs, stretchR r = true) (few : rs.length ≤ 1000) :
    ShN T (tCB (rRepr X) (tCons (tTup (tCons (StX.tCallO X C (spMost X.K C T) E1 tf (tCons t1 tNil)) (tCons (tMeth C "peak" (spPeak X.K C T) [] E2 te (tCons t2 tNil)) tNil))) tNil)) σ H (dueD (readingsOf o rs)).shown := by
  intro H1 e1 T1 Q q
  refine o1 H1 e1 _ fun x H2 e2 sw => ⟨x, rfl, ?_⟩
  have e12 := e1.trans (exN e2)
  refine a1 H2 e12 _ fun a H3 e3 ha => ⟨.inr ?_, x, a, o, xs, rs, rfl, ⟨sw.ext (exN e3), ok, ha, ro.ext (e12.trans (exN e3)), good, few, Tabs.ext T1 (e2.trans e3)⟩, fun H4 e4 T4 => ?_⟩
  · obtain ⟨dx, h⟩ := sw.ext (exN e3)
    exact ⟨dx, _, h⟩
  have e14 := (e12.trans (exN e3)).trans e4
  refine o2 H4 e14 _ fun y H5 e5 sy => ?_
  have e15 := e14.trans (exN e5)
  obtain ⟨dy, hy⟩ := sy
  refine ⟨y, dy, o.fields, rfl, hy, rfl, a2 H5 e15 _ fun b H6 e6 hb' => ?_⟩
  have e16 := e15.trans (exN e6)
  refine ⟨y, b, o, xs, rs, rfl, ⟨⟨dy, e6 _ _ hy⟩, ok, hb', ro.ext e16, good, few, Tabs.ext T4 (e5.trans e6)⟩, fun v H7 e7 T7 hv => ?_⟩
  refine ⟨sz_of (by show 2 ≤ 100000; decide), fun p hp => ?_⟩
  have e8 : Ex H7 (upd H7 p (.tup [.int (mostOf (readingsOf o rs)), v])) := Ex.new hp
  refine repr_due (rd := readingsOf o rs) hr (reads_bound good few) (dp_due (v := v) upd_same ?_) (q _ ?_ (Tabs.ext T7 e8))
  · cases hk : peakOf (readingsOf o rs) with
    | none => rw [hk] at hv; exact hv
    | some t =>
      obtain ⟨b1, b2, b3⟩ := t
      rw [hk] at hv
      obtain ⟨q1, rfl, hq⟩ := hv
      exact ⟨q1, rfl, e8 _ _ hq⟩
  · exact (((((exN e2).trans (exN e3)).trans e4).trans (exN (e5.trans e6))).trans e7).trans (exN e8)
theorem sh_due {k i : Nat} {p : Addr} {rd : List Row} (hr : Room k X.A) (h : σ[i]? = some (some (.ref p))) (hb : ∀ r ∈ rd, r.1.natAbs ≤ 10 ^ 31 ∧ r.2.natAbs ≤ 2000) (hd : Dp X.K H (.ref p) (dueD rd)) : ShN T (tCB (rRepr X) (tCons (tVar i) tNil)) σ H (dueD rd).shown := fun H1 e1 T1 Q q =>
  ⟨_, h, repr_due hr hb (dp_ext e1 hd) (q H1 (exN (Ex.refl H1)) T1)⟩
/-- repr(_law_due(list(s.readings(spans)))) -/
theorem sh_dueL {k i j : Nat} {E : XK} {x a : Addr} (hr : Room k X.A) (hi : σ[i]? = some (some (.ref x))) (hj : σ[j]? = some (some (.ref a))) (sw : SwAt C H x o) (hx : SqL X.K H a xs) (ok : o.ok) (ro : Rows H xs rs) (good : ∀ r ∈ rs, stretchR r = true) (few : rs.length ≤ 1000) :
    ShN T (tCB (rRepr X) (tCons (tCall (spDue X.K) [] E (tCons (tListY (spReads X.K C T) (tMethY C "readings" [] (tVar i) (tCons (tVar j) tNil))) tNil)) tNil)) σ H (dueD (readingsOf o rs)).shown := by
  intro H1 e1 T1 Q q
  show tListY (spReads X.K C T) (tMethY C "readings" [] (tVar i) (tCons (tVar j) tNil)) σ H1 (fun v H2 => spDue X.K ([v] ++ []) H2 (fun u H3 => rRepr X [u] H3 Q) E)
  refine listY_of (K := X.K) (C := C) (T := T) (x := x) (l := a) (o := o) (xs := xs) (rs := rs) (ev_var hi) (ev_var hj) ⟨sw.ext e1, ok, .inl (sqL_ext e1 hx), ro.ext e1, good, few, T1⟩ fun S H2 ys e2 T2 _ hS hR => ?_
  refine ⟨S, ys, _, rfl, SqL.of hS, hR, Nat.le_trans (reads_len o rs) (Nat.mul_le_mul_left 2 few), reads_falls o rs, fun p H3 e3 hd => ?_⟩
  exact repr_due hr (reads_bound good few) hd (q H3 (e2.trans (exN e3)) (Tabs.ext T2 e3))
end
end Gx

/-! parts of the laws' loops -/
namespace Gx
open PySem PySem.Spec PyProof.Rows L2 LamX NdefX Evl He
section
variable {K : PySem.W.Frag} {σ : L2.St} {H H1 : Hp} {D : Ends} {b : Addr} {k : Nat} {E E' : XK}
/-- at the first cell the list may be long -/
theorem many_if {i m0 : Int} {j : Nat} (h1 : σ[1]? = some (some (.int i))) (h2 : σ[2]? = some (some (.ref b))) (h4 : σ.set j (some (.int m0)) = σ) (hm : 0 ≤ m0 ∧ m0 ≤ 301) (r : BgR b H k H1) (hk : k + 2 ≤ 2 ^ 20)
    (q : ∀ mn H2, 0 ≤ mn → mn ≤ 301 → BgR b H (k + 2) H2 → D.nx (σ.set j (some (.int mn))) H2) :
    tIfS (tAnd (tTest (tOp rEq (tVar 1) (tC (.int 0)))) (tTest (tOp rEq (tCall spTake [] E (tCons (tVar 2) (tCons (tC (.int 4)) tNil))) (tC (.int 0)))))
      (tAsg (tOp (rI0 fun i j => .int (i + j)) (tC (.int 30)) (tCall spTake [] E' (tCons (tVar 2) (tCons (tC (.int 271)) tNil)))) (gName j)) tNext D σ H1 := by
  have skip : ∀ k' H2, k' ≤ k + 2 → BgR b H k' H2 → D.nx σ H2 := fun k' H2 hk' r2 => by
    have := q m0 H2 hm.1 hm.2 (r2.mono hk')
    rw [h4] at this
    exact this
  refine (et_test (ev_op (ev_var h1) ev_c (rv_eq rfl))) H1 (Ex.refl H1) _ fun H2 e2 => ?_
  by_cases hi : V.int i = V.int 0
  · rw [decide_eq_true hi]
    refine eb_take (b := b) (H := H) h2 eb_c (by decide) (by decide) k H2 (r.ex e2) (by omega) _ fun z H3 r3 _ => ⟨rfl, _, rfl, ?_⟩
    by_cases hz : V.int z = V.int 0
    · rw [decide_eq_true hz]
      refine sb_asg (b := b) (H := H) (p := fun z => 30 ≤ z ∧ z ≤ 301) (eb_is (eb_op (f := fun i j => i + j) eb_c (eb_take (m := 271) h2 eb_c (by decide) (by decide)) (fun _ _ _ _ _ => rv_I0)) fun z hz => ?_) r3 (by omega) fun z H4 hz r4 => q z H4 (by omega) (by omega) (r4.mono (by omega))
      obtain ⟨u, v, rfl, hv, rfl⟩ := hz
      omega
    · rw [decide_eq_false hz]
      exact skip (k + 1) H3 (by omega) r3
  · rw [decide_eq_false hi]
    exact skip k H2 (by omega) (r.ex e2)
/-- how many turns -/
theorem ea_turns {j : Nat} {a : Addr} {xs : List V} (h : σ[j]? = some (some (.ref a))) (hs : SqL K H a xs) : ∃ n : Int, (0 ≤ n ∧ n ≤ 30) ∧ EvA (tCons
            (tCB (fun xs H Q => ∃ i j, xs = [V.int i, V.int j] ∧ Q (V.int (if j > i then j else i)) H)
              (tCons (tC (V.int 1))
                (tCons
                  (tCB (fun xs H Q => ∃ i j, xs = [V.int i, V.int j] ∧ Q (V.int (if j < i then j else i)) H)
                    (tCons (tCB (rLenS K) (tCons (tVar j) tNil))
                      (tCons (tC (V.int 30)) tNil)))
                  tNil)))
            tNil) σ H [.int n] := by
  refine ⟨if (if (30 : Int) < (xs.length : Int) then 30 else (xs.length : Int)) > 1 then (if (30 : Int) < (xs.length : Int) then 30 else (xs.length : Int)) else 1, by split <;> (try split) <;> omega, ?_⟩
  exact ea_cons (ev_cb (ea_cons ev_c (ea_cons (ev_cb (ea_cons (ev_len (ev_var h) hs) (ea_cons ev_c ea_nil)) fun H1 _ Q q => ⟨_, _, rfl, q H1 (Ex.refl H1)⟩) ea_nil)) fun H1 _ Q q => ⟨_, _, rfl, q H1 (Ex.refl H1)⟩) ea_nil
end
end Gx
namespace Gx
open PySem PySem.Spec PyProof.Rows L2 LamX NdefX Evl He
theorem due0 : (dueD (readingsOf o0 [])).shown = ("(0, None)" : Str) := by
  have e : readingsOf o0 [] = [] := by simp [readingsOf, changesOf, stepsOf, sortRows, readGo]
  rw [e]
  decide +kernel
end Gx

namespace S70
open PySem PySem.Spec PyProof.Rows L2 LamX NdefX Evl He Gx
abbrev top (i : Nat) : Stmt := PySem.Challenge.pw_spanloops_k70_greatest_and_peak.main.body.getD i (.Pass ⟨0, 0, 0, 0⟩)
/-- what the top leaves -/
structure Fx (K : PySem.W.Frag) (mg : Str → Option Value) : Prop where
  f_isinstance : mg "isinstance" = none
  f_len : mg "len" = none
  f_int : mg "int" = none
  f_bool : mg "bool" = none
  f_tuple : mg "tuple" = none
  f_str : mg "str" = none
  f_list : mg "list" = none
  f_enumerate : mg "enumerate" = none
  f_range : mg "range" = none
  f_abs : mg "abs" = none
  f_max : mg "max" = none
  f_min : mg "min" = none
  f_sum : mg "sum" = none
  f_sorted : mg "sorted" = none
  f_repr : mg "repr" = none
  f_set : mg "set" = none
  g_FIRST : ∃ t, mg "FIRST" = some (.int (-(10 ^ 31)) t)
  g_LAST : ∃ t, mg "LAST" = some (.int (10 ^ 31) t)
  g_MOST : ∃ t, mg "MOST" = some (.int (10 ^ 30) t)
  g_SPAN_ORDERS : mg "SPAN_ORDERS" = some (.ref (ga K "SPAN_ORDERS"))
  g_EVENT_ORDERS : mg "EVENT_ORDERS" = some (.ref (ga K "EVENT_ORDERS"))
  g_ORDERS_loops : mg "ORDERS_loops" = some (.ref (ga K "ORDERS_loops"))
  g_ORDERS_sweeps : mg "ORDERS_sweeps" = some (.ref (ga K "ORDERS_sweeps"))
  g_TIES : mg "TIES" = some (.ref (ga K "TIES"))
  g_SIGNS : mg "SIGNS" = some (.ref (ga K "SIGNS"))
  t_SPAN_ORDERS : ∀ H : Hp, SqT K H (ga K "SPAN_ORDERS") ((["any", "begin", "begin end", "begin back", "end", "end begin", "end back"] : List Str).map V.str)
  t_EVENT_ORDERS : ∀ H : Hp, SqT K H (ga K "EVENT_ORDERS") ((["at", "at in", "at out"] : List Str).map V.str)
  t_ORDERS_loops : ∀ H : Hp, SqT K H (ga K "ORDERS_loops") ((["any", "begin", "begin end", "begin back", "end", "end begin", "end back", "at", "at in", "at out"] : List Str).map V.str)
  t_ORDERS_sweeps : ∀ H : Hp, SqT K H (ga K "ORDERS_sweeps") ((["any", "begin", "begin end", "begin back", "end", "end begin", "end back"] : List Str).map V.str)
  t_TIES : ∀ H : Hp, SqT K H (ga K "TIES") ((["ends", "begins", "list"] : List Str).map V.str)
  tne : (cT K ("sort_items", none)).2 ≠ (cT K ("Sweep", some "changes")).2
abbrev FnP (K : PySem.W.Frag) (x : Str) (st : Stmt) (fd : FuncData) : Prop := FunD K x x (defArgs st) (defBody st) (defScope st) [] [] (fAd K (x, none)) fd
abbrev FnM (K : PySem.W.Frag) (C m : Str) (st : Stmt) (fd : FuncData) : Prop := FunD K m (C ++ "." ++ m) (defArgs st) (defBody st) (defScope st) [] [] (fAd K (C, some m)) fd
/-- the defs that make a lambda: their tables -/
def TT (K : PySem.W.Frag) : List (Addr × Str) := [((cT K ("sort_items", none)).2, "sort_items.<locals>.<lambda>"), ((cT K ("Sweep", some "changes")).2, "Sweep.changes.<locals>.<lambda>")]
section
variable {P : Program} {w : World} {K : PySem.W.Frag} {mg : Str → Option Value} {base : Heap} {f : Addr} {fd : FuncData}
theorem sc_is_integer : FnScope ["thing"] ["thing"] (defScope (top 11)) := ⟨rfl, rfl, rfl, by decide +kernel, rfl, by decide +kernel, by decide +kernel⟩
theorem ok_is_integer (T : Fx K mg)  (F : FnP K "is_integer" (top 11) fd) : FnOk P w K mg base L2.CX0 1 (fAd K ("is_integer", none)) fd ["thing"] (spD K dIsInt) := by
  have nd := (sc_is_integer).nd
  refine F.ok sc_is_integer (fun vs H Q E h => ?_) (fun cdv A outer s H vs Q E hr h => ⟨_, PSs.nox (pss_one (ps_ret (pe_and (pe_callB call_isi rfl T.f_isinstance (by decide +kernel) (pa_cons (pv 0) (pa_cons (pe_bltn (v := .ty "int") (u := .type "int") rfl T.f_int (by decide +kernel) rfl) pa_nil))) (pe_one (pe_not (pe_callB call_isi rfl T.f_isinstance (by decide +kernel) (pa_cons (pv 0) (pa_cons (pe_bltn (v := .ty "bool") (u := .type "bool") rfl T.f_bool (by decide +kernel) rfl) pa_nil)))))))), ?_⟩)
  · obtain ⟨v, d, rfl, _⟩ := h; rfl
  · obtain ⟨v, d, rfl, hd, q⟩ := h
    refine s_ret (ev_is (ev_andV (ev_isi (by simp) (ev_var rfl) hd) fun _ => ev_notV (ev_isi (by simp) (ev_var rfl) hd)) ?_) fun H1 e => q H1 e
    congr 1
    rcases dp_type6 hd with e | e | e | e | e | e <;> cases d <;> simp_all [dType, dIsInt]
theorem sc_is_near : FnScope ["number"] ["number"] (defScope (top 12)) := ⟨rfl, rfl, rfl, by decide +kernel, rfl, by decide +kernel, by decide +kernel⟩
theorem ok_is_near (T : Fx K mg)  (F : FnP K "is_near" (top 12) fd) : FnOk P w K mg base L2.CX0 1 (fAd K ("is_near", none)) fd ["number"] spNear := by
  have nd := (sc_is_near).nd
  refine F.ok sc_is_near (fun vs H Q E h => ?_) (fun cdv A outer s H vs Q E hr h => ⟨_, PSs.nox (pss_one (ps_ret (pe_chain op_le op_le (pe_un un_neg (pe_gint rfl T.g_MOST)) (pv 0) (pe_gint rfl T.g_MOST)))), ?_⟩)
  · obtain ⟨i, rfl, _⟩ := h; rfl
  · obtain ⟨i, rfl, q⟩ := h
    exact s_ret (ev_chainI (ev_un ev_c ru_neg) (ev_var rfl) rv_le ev_c rv_le) fun H1 e => q H1 e
theorem sc_is_edge : FnScope ["thing"] ["thing"] (defScope (top 13)) := ⟨rfl, rfl, rfl, by decide +kernel, rfl, by decide +kernel, by decide +kernel⟩
theorem ok_is_edge (T : Fx K mg) (G_is_integer : Kn P w K mg base 1 "is_integer" (spD K dIsInt))(G_is_near : Kn P w K mg base 1 "is_near" spNear) (F : FnP K "is_edge" (top 13) fd) : FnOk P w K mg base L2.CX0 2 (fAd K ("is_edge", none)) fd ["thing"] (spD K edgeD) := by
  have nd := (sc_is_edge).nd
  refine F.ok sc_is_edge (fun vs H Q E h => ?_) (fun cdv A outer s H vs Q E hr h => ⟨_, PSs.nox (pss_one (ps_ret (pe_and (pe_kn G_is_integer hr rfl (pa_cons (pv 0) pa_nil)) (pe_one (pe_or (pe_cmpR op_in_seq (pv 0) (pe_tup (pa_cons (pe_gint rfl T.g_FIRST) (pa_cons (pe_gint rfl T.g_LAST) pa_nil))) (by with_unfolding_all rfl)) (pe_one (pe_kn G_is_near hr rfl (pa_cons (pv 0) pa_nil)))))))), ?_⟩)
  · obtain ⟨v, d, rfl, _⟩ := h; rfl
  · obtain ⟨v, d, rfl, hd, q⟩ := h
    by_cases hi : dIsInt d = true
    · cases hd with
      | int i =>
        refine s_ret (ev_is (ev_andV (ev_spD (ev_var rfl) (.int i)) fun _ => ev_orV (ev_in2 (ev_var rfl) ev_c ev_c rfl rfl rfl) fun _ => ev_near (ev_var rfl)) ?_) fun H1 e => q H1 e
        exact congrArg V.bl (edge_val i)
      | _ => simp [dIsInt] at hi
    · have hf : dIsInt d = false := by simpa using hi
      refine s_ret (ev_is (ev_andV (b := false) (ev_spD (ev_var rfl) hd) fun z => by rw [hf] at z; cases z) ?_) fun H1 e => q H1 e
      cases d <;> simp_all [dIsInt, edgeD]
theorem sc_is_pair : FnScope ["thing"] ["thing"] (defScope (top 14)) := ⟨rfl, rfl, rfl, by decide +kernel, rfl, by decide +kernel, by decide +kernel⟩
theorem ok_is_pair (T : Fx K mg) (G_is_edge : Kn P w K mg base 2 "is_edge" (spD K edgeD)) (F : FnP K "is_pair" (top 14) fd) : FnOk P w K mg base L2.CX0 3 (fAd K ("is_pair", none)) fd ["thing"] (spD K pairD) := by
  have nd := (sc_is_pair).nd
  refine F.ok sc_is_pair (fun vs H Q E h => ?_) (fun cdv A outer s H vs Q E hr h => ⟨_, PSs.nox (pss_one (ps_ret (pe_and (pe_callB call_isi rfl T.f_isinstance (by decide +kernel) (pa_cons (pv 0) (pa_cons (pe_bltn (v := .ty "tuple") (u := .type "tuple") rfl T.f_tuple (by decide +kernel) rfl) pa_nil))) (pe_and (pe_cmpR op_eq (pe_callB call_len_seq rfl T.f_len (by decide +kernel) (pa_cons (pv 0) pa_nil)) pe_int (nomark _)) (pe_and (pe_kn G_is_edge hr rfl (pa_cons (pe_ix ix_tup (pv 0) pe_int (fun _ _ => rfl)) pa_nil)) (pe_one (pe_kn G_is_edge hr rfl (pa_cons (pe_ix ix_tup (pv 0) pe_int (fun _ _ => rfl)) pa_nil)))))))), ?_⟩)
  · obtain ⟨v, d, rfl, _⟩ := h; rfl
  · obtain ⟨v, d, rfl, hd, q⟩ := h
    exact s_ret (ev_pair rfl hd) fun H1 e => q H1 e
theorem sc_is_stretch : FnScope ["thing"] ["thing"] (defScope (top 15)) := ⟨rfl, rfl, rfl, by decide +kernel, rfl, by decide +kernel, by decide +kernel⟩
theorem ok_is_stretch (T : Fx K mg) (G_is_pair : Kn P w K mg base 3 "is_pair" (spD K pairD)) (F : FnP K "is_stretch" (top 15) fd) : FnOk P w K mg base L2.CX0 4 (fAd K ("is_stretch", none)) fd ["thing"] (spD K stretchD) := by
  have nd := (sc_is_stretch).nd
  refine F.ok sc_is_stretch (fun vs H Q E h => ?_) (fun cdv A outer s H vs Q E hr h => ⟨_, PSs.nox (pss_one (ps_ret (pe_and (pe_kn G_is_pair hr rfl (pa_cons (pv 0) pa_nil)) (pe_and (pe_cmpR op_lt (pe_gint rfl T.g_FIRST) (pe_ix ix_tup (pv 0) pe_int (fun _ _ => rfl)) (nomark _)) (pe_and (pe_cmpR op_lt (pe_ix ix_tup (pv 0) pe_int (fun _ _ => rfl)) (pe_gint rfl T.g_LAST) (nomark _)) (pe_one (pe_cmpR op_le (pe_ix ix_tup (pv 0) pe_int (fun _ _ => rfl)) (pe_ix ix_tup (pv 0) pe_int (fun _ _ => rfl)) (nomark _)))))))), ?_⟩)
  · obtain ⟨v, d, rfl, _⟩ := h; rfl
  · obtain ⟨v, d, rfl, hd, q⟩ := h
    by_cases hp : pairD d = true
    · obtain ⟨a, c, rfl⟩ := pair_ints hp
      obtain ⟨t, rfl, hs⟩ := dp_pair hd
      have x0 : ∀ {H1 : Hp}, Ex H H1 → Ev (tOp (rIxT K) (tVar 0) (tC (.int 0))) (L2.start ["thing"] [.ref t]) H1 (.int a) := fun e => ev_ixT (ev_var rfl) (ex_t e hs) rfl
      have x1 : ∀ {H1 : Hp}, Ex H H1 → Ev (tOp (rIxT K) (tVar 0) (tC (.int 1))) (L2.start ["thing"] [.ref t]) H1 (.int c) := fun e => ev_ixT (ev_var rfl) (ex_t e hs) rfl
      refine s_ret (ev_is (ev_andV (ev_spD (ev_var rfl) hd) fun _ => ev_andV (ev_op ev_c (x1 (Ex.refl _)) rv_lt) fun _ => ev_andV (ev_op (x0 (Ex.refl _)) ev_c rv_lt) fun _ => ev_op (x0 (Ex.refl _)) (x1 (Ex.refl _)) rv_le) ?_) fun H1 e => q H1 e
      rfl
    · have hf : pairD d = false := by simpa using hp
      refine s_ret (ev_is (ev_andV (b := false) (ev_spD (ev_var rfl) hd) fun z => by rw [hf] at z; cases z) ?_) fun H1 e => q H1 e
      rw [hf]
      exact congrArg V.bl (stretch_no hf).symm
theorem sc_check_spans : FnScope ["spans", "index", "span"] ["spans"] (defScope (top 16)) := ⟨rfl, rfl, rfl, by decide +kernel, rfl, by decide +kernel, by decide +kernel⟩
theorem ok_check_spans (T : Fx K mg) (G_is_stretch : Kn P w K mg base 4 "is_stretch" (spD K stretchD)) (F : FnP K "check_spans" (top 16) fd) : FnOk P w K mg base L2.CX0 5 (fAd K ("check_spans", none)) fd ["spans"] (spCheck K) := by
  have nd := (sc_check_spans).nd
  refine F.ok sc_check_spans (fun vs H Q E h => ?_) (fun cdv A outer s H vs Q E hr h => ⟨_, PSs.nox (pss_one (ps_for PassesOwn.never rfl (pi_enumS rfl T.f_enumerate (pa_cons (pv 0) pa_nil)) (pg_tup (n := 2) rfl (pgs_cons (pg_name (i := 1) nd rfl (by first | exact .inl rfl | exact .inr rfl)) (pgs_cons (pg_name (i := 2) nd rfl (by first | exact .inl rfl | exact .inr rfl)) pgs_nil))) (pss_one (ps_if (pt_not (pt_val (pe_kn G_is_stretch hr rfl (pa_cons (pv 2) pa_nil)))) (pss_one ps_never) pss_nil)))), ?_⟩)
  · obtain ⟨a, xs, ds, rfl, _⟩ := h; rfl
  · obtain ⟨a, xs, ds, rfl, hx, hd, hg, q⟩ := h
    refine s_forE (K := K) (D := { nx := fun _ H' => Q .non H', rt := Q }) (ev_var rfl) hx (fun _ σ' H' => Ex H H' ∧ σ'.length = 3) (fun H1 e => ⟨e, rfl⟩) (fun _ _ H' _ p h => ex_l p.1 h) (fun _ _ H' _ p h => ex_t p.1 h) (fun i x σ' H' U hx' p hU => ?_) fun σ' H' p => q H' p.1
    obtain ⟨e, hl⟩ := p
    obtain ⟨d, hd1, hd2⟩ := dpAll_at hd hx'
    have e2 : Ex H (upd H' U (.tup [.int (i : Nat), x])) := e.trans (Ex.new hU)
    refine g_nn (SqT.of upd_same) ?_
    refine s_if (et_not (et_B (ev_spD (ev_var (by simp [hl])) (dp_ex e2 hd2)))) (fun hb => ?_) fun _ H3 e3 => ⟨e2.trans e3, by simp [hl]⟩
    rw [hg d (List.mem_of_getElem? hd1)] at hb
    cases hb
theorem sc_is_word : FnScope ["thing", "words"] ["thing", "words"] (defScope (top 21)) := ⟨rfl, rfl, rfl, by decide +kernel, rfl, by decide +kernel, by decide +kernel⟩
theorem ok_is_word (T : Fx K mg)  (F : FnP K "is_word" (top 21) fd) : FnOk P w K mg base L2.CX0 1 (fAd K ("is_word", none)) fd ["thing", "words"] (spWord K) := by
  have nd := (sc_is_word).nd
  refine F.ok sc_is_word (fun vs H Q E h => ?_) (fun cdv A outer s H vs Q E hr h => ⟨_, PSs.nox (pss_one (ps_ret (pe_and (pe_callB call_isi rfl T.f_isinstance (by decide +kernel) (pa_cons (pv 0) (pa_cons (pe_bltn (v := .ty "str") (u := .type "str") rfl T.f_str (by decide +kernel) rfl) pa_nil))) (pe_one (pe_cmpR op_in_seq (pv 0) (pv 1) (by with_unfolding_all rfl)))))), ?_⟩)
  · obtain ⟨x, p, ws, rfl, _⟩ := h; rfl
  · obtain ⟨x, p, ws, rfl, hp, q⟩ := h
    refine s_ret (ev_is (ev_andV (ev_isi (c := "str") (by simp) (ev_var rfl) (.str x)) fun _ => ev_op (ev_var rfl) (ev_var rfl) (rv_isT hp rfl (flat_strs ws))) ?_) fun H1 e => q H1 e
    rw [inV_str]
    simp [dType]
theorem sc_is_one_of : FnScope ["thing", "words"] ["thing", "words"] (defScope (top 30)) := ⟨rfl, rfl, rfl, by decide +kernel, rfl, by decide +kernel, by decide +kernel⟩
theorem ok_is_one_of (T : Fx K mg)  (F : FnP K "is_one_of" (top 30) fd) : FnOk P w K mg base L2.CX0 1 (fAd K ("is_one_of", none)) fd ["thing", "words"] (spWord K) := by
  have nd := (sc_is_one_of).nd
  refine F.ok sc_is_one_of (fun vs H Q E h => ?_) (fun cdv A outer s H vs Q E hr h => ⟨_, PSs.nox (pss_one (ps_ret (pe_and (pe_callB call_isi rfl T.f_isinstance (by decide +kernel) (pa_cons (pv 0) (pa_cons (pe_bltn (v := .ty "str") (u := .type "str") rfl T.f_str (by decide +kernel) rfl) pa_nil))) (pe_one (pe_cmpR op_in_seq (pv 0) (pv 1) (by with_unfolding_all rfl)))))), ?_⟩)
  · obtain ⟨x, p, ws, rfl, _⟩ := h; rfl
  · obtain ⟨x, p, ws, rfl, hp, q⟩ := h
    refine s_ret (ev_is (ev_andV (ev_isi (c := "str") (by simp) (ev_var rfl) (.str x)) fun _ => ev_op (ev_var rfl) (ev_var rfl) (rv_isT hp rfl (flat_strs ws))) ?_) fun H1 e => q H1 e
    rw [inV_str]
    simp [dType]
theorem sc_read_by : FnScope ["order"] ["order"] (defScope (top 22)) := ⟨rfl, rfl, rfl, by decide +kernel, rfl, by decide +kernel, by decide +kernel⟩
theorem ok_read_by (T : Fx K mg)  (F : FnP K "read_by" (top 22) fd) : FnOk P w K mg base L2.CX0 1 (fAd K ("read_by", none)) fd ["order"] spRead := by
  have nd := (sc_read_by).nd
  refine F.ok sc_read_by (fun vs H Q E h => ?_) (fun cdv A outer s H vs Q E hr h => ⟨_, PSs.nox (pss_one (ps_ret (pe_ifExp (pt_cmpR op_in_seq (pv 0) (pe_gref rfl T.g_EVENT_ORDERS) (by with_unfolding_all rfl)) pe_str pe_str))), ?_⟩)
  · obtain ⟨o, rfl, _⟩ := h; rfl
  · obtain ⟨o, rfl, ho, q⟩ := h
    have hn : inV (.str o) ((["at", "at in", "at out"] : List Str).map V.str) = false := by
      rw [inV_str]
      simp only [spanOrders, List.mem_cons, List.not_mem_nil, or_false] at ho
      rcases ho with rfl | rfl | rfl | rfl | rfl | rfl | rfl <;> decide
    exact s_ret (ev_if (et_test (ev_op (ev_var rfl) ev_c (rv_isT (T.t_EVENT_ORDERS H) rfl (flat_strs _)))) (fun z => by rw [hn] at z; cases z) fun _ => ev_c) fun H1 e => q H1 e
theorem sc_check_items : FnScope ["reads", "items", "at", "item"] ["reads", "items"] (defScope (top 24)) := ⟨rfl, rfl, rfl, by decide +kernel, rfl, by decide +kernel, by decide +kernel⟩
theorem ok_check_items (T : Fx K mg) (G_is_stretch : Kn P w K mg base 4 "is_stretch" (spD K stretchD)) (F : FnP K "check_items" (top 24) fd) : FnOk P w K mg base L2.CX0 5 (fAd K ("check_items", none)) fd ["reads", "items"] (spItems K) := by
  have nd := (sc_check_items).nd
  refine F.ok sc_check_items (fun vs H Q E h => ?_) (fun cdv A outer s H vs Q E hr h => ⟨_, PSs.nox (pss_one (ps_for PassesOwn.never rfl (pi_enumS rfl T.f_enumerate (pa_cons (pv 1) pa_nil)) (pg_tup (n := 2) rfl (pgs_cons (pg_name (i := 2) nd rfl (by first | exact .inl rfl | exact .inr rfl)) (pgs_cons (pg_name (i := 3) nd rfl (by first | exact .inl rfl | exact .inr rfl)) pgs_nil))) (pss_one (ps_if (pt_not (pt_ifExp (pt_cmpR op_eq (pv 0) pe_str (nomark _)) pt_never (pt_val (pe_kn G_is_stretch hr rfl (pa_cons (pv 3) pa_nil))))) (pss_one ps_never) pss_nil)))), ?_⟩)
  · obtain ⟨a, xs, ds, rfl, _⟩ := h; rfl
  · obtain ⟨a, xs, ds, rfl, hx, hd, hg, q⟩ := h
    refine s_forE (K := K) (D := { nx := fun _ H' => Q .non H', rt := Q }) (ev_var rfl) hx (fun _ σ' H' => Ex H H' ∧ σ'.length = 4 ∧ σ'[0]? = some (some (.str "stretches"))) (fun H1 e => ⟨e, rfl, rfl⟩) (fun _ _ H' _ p h => ex_l p.1 h) (fun _ _ H' _ p h => ex_t p.1 h) (fun i x σ' H' U hx' p hU => ?_) fun σ' H' p => q H' p.1
    obtain ⟨e, hl, hz⟩ := p
    obtain ⟨d, hd1, hd2⟩ := dpAll_at hd hx'
    have e2 : Ex H (upd H' U (.tup [.int (i : Nat), x])) := e.trans (Ex.new hU)
    refine g_nn (SqT.of upd_same) ?_
    refine s_if (et_not (et_if (et_test (ev_op (ev_var (v := .str "stretches") (by simpa [hl] using hz)) ev_c (rv_eq rfl))) (fun z => by cases (of_decide_eq_true z)) fun _ => et_B (ev_spD (ev_var (by simp [hl])) (dp_ex e2 hd2)))) (fun hb => ?_) fun _ H3 e3 => ⟨e2.trans e3, by simp [hl], by simpa [hl] using hz⟩
    rw [hg d (List.mem_of_getElem? hd1)] at hb
    cases hb
theorem sc_rank_of : FnScope ["order", "item"] ["order", "item"] (defScope (top 6)) := ⟨rfl, rfl, rfl, by decide +kernel, rfl, by decide +kernel, by decide +kernel⟩
theorem ok_rank_of (T : Fx K mg)  (F : FnP K "rank_of" (top 6) fd) : FnOk P w K mg base L2.CX0 1 (fAd K ("rank_of", none)) fd ["order", "item"] (spRank K) := by
  have nd := (sc_rank_of).nd
  refine F.ok sc_rank_of (fun vs H Q E h => ?_) (fun cdv A outer s H vs Q E hr h => ⟨_, PSs.nox (pss_one (ps_match (pv 0) (pm_str (pss_one (ps_ret (pe_tup (pa_cons (pe_ix ix_tup (pv 1) pe_int (fun _ _ => rfl)) pa_nil)))) (pm_str (pss_one (ps_ret (pe_tup (pa_cons (pe_ix ix_tup (pv 1) pe_int (fun _ _ => rfl)) (pa_cons (pe_ix ix_tup (pv 1) pe_int (fun _ _ => rfl)) pa_nil))))) (pm_str (pss_one (ps_ret (pe_tup (pa_cons (pe_ix ix_tup (pv 1) pe_int (fun _ _ => rfl)) (pa_cons (pe_un un_neg (pe_ix ix_tup (pv 1) pe_int (fun _ _ => rfl))) pa_nil))))) (pm_str (pss_one (ps_ret (pe_tup (pa_cons (pe_ix ix_tup (pv 1) pe_int (fun _ _ => rfl)) pa_nil)))) (pm_str (pss_one (ps_ret (pe_tup (pa_cons (pe_ix ix_tup (pv 1) pe_int (fun _ _ => rfl)) (pa_cons (pe_ix ix_tup (pv 1) pe_int (fun _ _ => rfl)) pa_nil))))) (pm_str (pss_one (ps_ret (pe_tup (pa_cons (pe_ix ix_tup (pv 1) pe_int (fun _ _ => rfl)) (pa_cons (pe_un un_neg (pe_ix ix_tup (pv 1) pe_int (fun _ _ => rfl))) pa_nil))))) (pm_str (pss_one (ps_ret (pe_tup (pa_cons (pe_ix ix_tup (pv 1) pe_int (fun _ _ => rfl)) pa_nil)))) (pm_str (pss_one (ps_ret (pe_tup (pa_cons (pe_ix ix_tup (pv 1) pe_int (fun _ _ => rfl)) (pa_cons (pe_callTy call_int1 rfl T.f_int (by decide +kernel) (pa_cons (pe_cmpR op_eq (pe_ix ix_tup (pv 1) pe_int (fun _ _ => rfl)) pe_str (nomark _)) pa_nil)) pa_nil))))) (pm_str (pss_one (ps_ret (pe_tup (pa_cons (pe_ix ix_tup (pv 1) pe_int (fun _ _ => rfl)) (pa_cons (pe_callTy call_int1 rfl T.f_int (by decide +kernel) (pa_cons (pe_cmpR op_eq (pe_ix ix_tup (pv 1) pe_int (fun _ _ => rfl)) pe_str (nomark _)) pa_nil)) pa_nil))))) (pm_any (pss_one (ps_ret (pe_tup pa_nil))))))))))))))), ?_⟩)
  · obtain ⟨o, t, a, c, rfl, _⟩ := h; rfl
  · obtain ⟨o, t, a, c, rfl, ho, hs, q⟩ := h
    have x0 : ∀ {H1 : Hp}, Ex H H1 → Ev (tOp (rIxT K) (tVar 1) (tC (.int 0))) (L2.start ["order", "item"] [.str o, .ref t]) H1 (.int a) := fun e => ev_ixT (ev_var rfl) (ex_t e hs) rfl
    have x1 : ∀ {H1 : Hp}, Ex H H1 → Ev (tOp (rIxT K) (tVar 1) (tC (.int 1))) (L2.start ["order", "item"] [.str o, .ref t]) H1 (.int c) := fun e => ev_ixT (ev_var rfl) (ex_t e hs) rfl
    have one : ∀ {te : TE} {i : Int} {H1 : Hp}, Ex H H1 → rank o a c = [i] → Ev te (L2.start ["order", "item"] [.str o, .ref t]) H1 (.int i) → tRet (tTup (tCons te tNil)) { nx := fun _ H' => Q .non H', rt := Q } (L2.start ["order", "item"] [.str o, .ref t]) H1 := fun e hr hi =>
      s_retU (eu_tup (ea_cons hi ea_nil) (by show 1 ≤ 100000; decide)) fun p H2 hp e2 h2 => q p H2 (fresh_back e hp) (e.trans e2) (by rw [hr]; exact h2)
    have two : ∀ {te tf : TE} {i j : Int} {H1 : Hp}, Ex H H1 → rank o a c = [i, j] → Ev te (L2.start ["order", "item"] [.str o, .ref t]) H1 (.int i) → Ev tf (L2.start ["order", "item"] [.str o, .ref t]) H1 (.int j) →
        tRet (tTup (tCons te (tCons tf tNil))) { nx := fun _ H' => Q .non H', rt := Q } (L2.start ["order", "item"] [.str o, .ref t]) H1 := fun e hr hi hj =>
      s_retU (eu_tup (ea_cons hi (ea_cons hj ea_nil)) (by show 2 ≤ 100000; decide)) fun p H2 hp e2 h2 => q p H2 (fresh_back e hp) (e.trans e2) (by rw [hr]; exact h2)
    refine s_match (ev_var rfl) fun H1 e => ?_
    simp only [spanOrders, List.mem_cons, List.not_mem_nil, or_false] at ho
    rcases ho with rfl | rfl | rfl | rfl | rfl | rfl | rfl
    · refine mF (by decide) (mF (by decide) (mF (by decide) (mF (by decide) (mF (by decide) (mF (by decide) (mF (by decide) (mF (by decide) (mF (by decide) ?_))))))))
      exact s_retU (eu_tup ea_nil (by decide)) fun p H2 hp e2 h2 => q p H2 (fresh_back e hp) (e.trans e2) h2
    · exact mT rfl (one e rfl (x0 e))
    · exact mF (by decide) (mT rfl (two e rfl (x0 e) (x1 e)))
    · exact mF (by decide) (mF (by decide) (mT rfl (two e rfl (x0 e) (ev_un (x1 e) ru_neg))))
    · exact mF (by decide) (mF (by decide) (mF (by decide) (mT rfl (one e rfl (x1 e)))))
    · exact mF (by decide) (mF (by decide) (mF (by decide) (mF (by decide) (mT rfl (two e rfl (x1 e) (x0 e))))))
    · exact mF (by decide) (mF (by decide) (mF (by decide) (mF (by decide) (mF (by decide) (mT rfl (two e rfl (x1 e) (ev_un (x0 e) ru_neg)))))))
theorem hu_tt (T : Fx K mg) : ∀ p ∈ TT K, p.1 = (cT K ("sort_items", none)).2 → p.2 = "sort_items.<locals>.<lambda>" := fun p hp e => by
  rcases List.mem_cons.mp hp with z | z
  · rw [z]
  · rw [List.mem_singleton.mp z] at e
    exact absurd e.symm T.tne
theorem sc_sort_items : FnScope ["order", "items"] ["order", "items"] (defScope (top 25)) := ⟨rfl, rfl, rfl, by decide +kernel, rfl, by decide +kernel, by decide +kernel⟩
theorem ok_sort_items (T : Fx K mg) (TB : TabB base mg (cT K ("sort_items", none)).1 (cT K ("sort_items", none)).2)(G_is_word : Kn P w K mg base 1 "is_word" (spWord K))(G_check_items : Kn P w K mg base 5 "check_items" (spItems K))(G_read_by : Kn P w K mg base 1 "read_by" spRead)(G_rank_of : Kn P w K mg base 1 "rank_of" (spRank K)) (F : FnP K "sort_items" (top 25) fd) : FnOk P w K mg base L2.CX0 6 (fAd K ("sort_items", none)) fd ["order", "items"] (spSort K (TT K)) := by
  have nd := (sc_sort_items).nd
  refine okC F sc_sort_items (fun vs H Q E h => ?_) (fun A outer s H vs Q E hr h => ⟨_, PSs.nox (pss_cons (ps_if (pt_not (pt_val (pe_kn G_is_word hr rfl (pa_cons (pv 0) (pa_cons (pe_gref rfl T.g_ORDERS_loops) pa_nil))))) (pss_one ps_never) pss_nil) (pss_cons (ps_expr (pe_kn G_check_items hr rfl (pa_cons (pe_kn G_read_by hr rfl (pa_cons (pv 0) pa_nil)) (pa_cons (pv 1) pa_nil)))) (pss_one (ps_ret (pe_sortK (j := 1) (T := TT K) (N := ["item", "order"]) (ps := ["item"]) (fr := ["order"]) (js := [0]) rfl T.f_sorted (by decide +kernel) (pv 1) (hr.mono (by decide)) TB rfl (by first | exact List.mem_cons_self | exact List.mem_cons_of_mem _ List.mem_cons_self) (hu_tt T) rfl (nscope_by (by decide +kernel)) rfl (ndef_free (sc := defScope (top 25)) (fr := ["order"]) (by decide +kernel)) (ndef_fr (sc := defScope (top 25)) (by decide +kernel)) rfl (fun q cl pm cv ctv u => rfl) (fun f c' cl A outer s H hr => pe_kn G_rank_of hr rfl (pa_cons (pv 1) (pa_cons (pv 0) pa_nil)))))))), ?_⟩)
  · obtain ⟨o, l, xs, rs, rfl, _⟩ := h; rfl
  · obtain ⟨o, l, xs, rs, rfl, ho, hx, hr', hg, hT, q⟩ := h
    refine s_if (et_not (et_B (ev_word (ev_var rfl) ev_c (T.t_ORDERS_loops H)))) (fun z => ?_) fun _ H1 e1 => ?_
    · exfalso
      simp only [spanOrders, List.mem_cons, List.not_mem_nil, or_false] at ho
      rcases ho with rfl | rfl | rfl | rfl | rfl | rfl | rfl <;> simp at z
    have hx1 : SqL K H1 l xs ∨ SqT K H1 l xs := hx.elim (fun z => .inl (ex_l e1 z)) fun z => .inr (ex_t e1 z)
    refine s_drop (ev_items (ev_read (ev_var rfl) ho) (ev_var rfl) hx1 (hr'.ext (exN e1)) hg) fun H2 e2 => ?_
    have e3 := e1.trans e2
    refine sortK_of (kf := fun r => rank o r.1 r.2) (d := rankLen o) (ev_var rfl) (hx1.elim (fun z => .inl (ex_l e2 z)) fun z => .inr (ex_t e2 z)) (hr'.ext (exN e3)) (fun r => rank_len o r.1 r.2) (Tabs.ext hT e3) (fun t a c H3 e4 ht => ?_) fun a H' ys e4 T4 n4 h4 r4 => q a H' ys ((exN e3).trans e4) T4 (New.back (exN e3) n4) h4 r4
    exact eu_rank (ev_var rfl) (ev_var rfl) ho (SqT.of ht)
abbrev FnI (K : PySem.W.Frag) (st : Stmt) (fd : FuncData) : Prop := FunD K "__init__" "Sweep.__init__" (defArgs st) (defBody st) (defScope st) [] swKw (fAd K ("Sweep", some "__init__")) fd
theorem sc_Sweep___init__ : FnScope ["self", "order", "ties", "settles", "skips", "glues", "drops", "word", "thing"] ["self", "order", "ties", "settles", "skips", "glues", "drops"] (defScope (inClass (top 31) 0)) := ⟨rfl, rfl, rfl, by decide +kernel, rfl, by decide +kernel, by decide +kernel⟩
theorem ok_init (T : Fx K mg) (cl : Cls K (swC K)) (na : ∀ f ∈ (["order", "ties", "settles", "skips", "glues", "drops"] : List Str), NoAttr K (swC K) f) (G_is_one_of : Kn P w K mg base 1 "is_one_of" (spWord K)) (F : FnI K (inClass (top 31) 0) fd) : FnOk P w K mg base L2.CX0 2 (fAd K ("Sweep", some "__init__")) fd ["self", "order", "ties", "settles", "skips", "glues", "drops"] (spInit K (swC K)) := by
  have nd := (sc_Sweep___init__).nd
  refine F.ok sc_Sweep___init__ (fun vs H Q E h => ?_) (fun cdv A outer s H vs Q E hr h => ⟨_, PSs.nox (pss_cons (ps_if (pt_not (pt_val (pe_kn G_is_one_of hr rfl (pa_cons (pv 1) (pa_cons (pe_gref rfl T.g_ORDERS_sweeps) pa_nil))))) (pss_one ps_never) pss_nil) (pss_cons (ps_if (pt_not (pt_val (pe_kn G_is_one_of hr rfl (pa_cons (pv 2) (pa_cons (pe_gref rfl T.g_TIES) pa_nil))))) (pss_one ps_never) pss_nil) (pss_cons (ps_for PassesOwn.never rfl (pi_tup (pe_tup (pa_cons (pe_tup (pa_cons pe_str (pa_cons (pv 3) pa_nil))) (pa_cons (pe_tup (pa_cons pe_str (pa_cons (pv 4) pa_nil))) (pa_cons (pe_tup (pa_cons pe_str (pa_cons (pv 5) pa_nil))) (pa_cons (pe_tup (pa_cons pe_str (pa_cons (pv 6) pa_nil))) pa_nil)))))) (pg_tup (n := 2) rfl (pgs_cons (pg_name (i := 7) nd rfl (by first | exact .inl rfl | exact .inr rfl)) (pgs_cons (pg_name (i := 8) nd rfl (by first | exact .inl rfl | exact .inr rfl)) pgs_nil))) (pss_one (ps_if (pt_not (pt_val (pe_callB call_isi rfl T.f_isinstance (by decide +kernel) (pa_cons (pv 8) (pa_cons (pe_bltn (v := .ty "bool") (u := .type "bool") rfl T.f_bool (by decide +kernel) rfl) pa_nil))))) (pss_one ps_never) pss_nil))) (pss_cons (ps_fld (pv 0) (pv 1) rfl) (pss_cons (ps_fld (pv 0) (pv 2) rfl) (pss_cons (ps_fld (pv 0) (pv 3) rfl) (pss_cons (ps_fld (pv 0) (pv 4) rfl) (pss_cons (ps_fld (pv 0) (pv 5) rfl) (pss_one (ps_fld (pv 0) (pv 6) rfl)))))))))), ?_⟩)
  · obtain ⟨x, dx, o, rfl, _⟩ := h; rfl
  · obtain ⟨x, dx, o, rfl, hx, ok, q⟩ := h
    refine s_if (et_not (et_B (ev_word (ev_var rfl) ev_c (T.t_ORDERS_sweeps H)))) (fun z => ?_) fun _ H1 e1 => ?_
    · exfalso
      have := ok.1
      simp only [spanOrders] at this
      simp [this] at z
    refine s_if (et_not (et_B (ev_word (ev_var rfl) ev_c (T.t_TIES H1)))) (fun z => ?_) fun _ H2 e2 => ?_
    · exfalso
      have := ok.2
      simp only [tieWords] at this
      simp [this] at z
    refine s_forTN (K := K) (C := fun xs H1 => xs.length = 4 ∧ ∀ y ∈ xs, ∃ q s b, y = .ref q ∧ H1 q = some (.tup [.str s, .bl b])) (fun Q0 k0 => four_pairs (b1 := o.settles) (b2 := o.skips) (b3 := o.glues) (b4 := o.drops) (ev_var rfl) (ev_var rfl) (ev_var rfl) (ev_var rfl) fun p H3 xs e3 hp hl h4 => k0 p H3 xs e3 hp ⟨hl, h4⟩) fun p H3 xs e3 hp hc => ?_
    obtain ⟨hl, hx4⟩ := hc
    refine ⟨fun _ σ' H' => Ex H3 H' ∧ ∃ w t, σ' = [some (.ref x), some (.str o.order), some (.str o.ties), some (.bl o.settles), some (.bl o.skips), some (.bl o.glues), some (.bl o.drops), w, t], ⟨Ex.refl _, none, none, rfl⟩, fun _ _ H' h => ex_t h.1 (SqT.of hp), fun i y σ' H' hy h => ?_, fun σ' H' h => ?_⟩
    · obtain ⟨e, w1, t1, rfl⟩ := h
      obtain ⟨q1, s1, b1, rfl, hq⟩ := hx4 y (List.mem_of_getElem? hy)
      refine g_nn (SqT.of (e _ _ hq)) ?_
      refine s_if (et_not (et_B (ev_isi (c := "bool") (by simp) (ev_var rfl) (.bl b1)))) (fun z => ?_) fun _ H5 e5 => ⟨e.trans e5, _, _, rfl⟩
      simp [dType] at z
    · obtain ⟨e4, w1, t1, rfl⟩ := h
      have e := ((e1.trans e2).trans e3).trans e4
      have start : Ex (upd H x (.ins (swC K) dx [])) H' := (ex_self hx).trans e
      have nf := na
      refine s_fld (ev_var rfl) (ev_var rfl) (start _ _ upd_same) cl (na _ (by simp)) (by decide) fun H5 e5 => ?_
      have x5 := ex_set (o' := .ins (swC K) dx (putF "order" (.str o.order) [])) (start.trans e5)
      refine s_fld (ev_var rfl) (ev_var rfl) upd_same cl (na _ (by simp)) (lt1000 (pl p0)) fun H6 e6 => ?_
      have x6 := ex_set (o' := .ins (swC K) dx (putF "ties" (.str o.ties) (putF "order" (.str o.order) []))) (x5.trans e6)
      refine s_fld (ev_var rfl) (ev_var rfl) upd_same cl (na _ (by simp)) (lt1000 (pl (pl p0))) fun H7 e7 => ?_
      have x7 := ex_set (o' := .ins (swC K) dx (putF "settles" (.bl o.settles) (putF "ties" (.str o.ties) (putF "order" (.str o.order) [])))) (x6.trans e7)
      refine s_fld (ev_var rfl) (ev_var rfl) upd_same cl (na _ (by simp)) (lt1000 (pl (pl (pl p0)))) fun H8 e8 => ?_
      have x8 := ex_set (o' := .ins (swC K) dx (putF "skips" (.bl o.skips) (putF "settles" (.bl o.settles) (putF "ties" (.str o.ties) (putF "order" (.str o.order) []))))) (x7.trans e8)
      refine s_fld (ev_var rfl) (ev_var rfl) upd_same cl (na _ (by simp)) (lt1000 (pl (pl (pl (pl p0))))) fun H9 e9 => ?_
      have x9 := ex_set (o' := .ins (swC K) dx (putF "glues" (.bl o.glues) (putF "skips" (.bl o.skips) (putF "settles" (.bl o.settles) (putF "ties" (.str o.ties) (putF "order" (.str o.order) [])))))) (x8.trans e9)
      refine s_fld (ev_var rfl) (ev_var rfl) upd_same cl (na _ (by simp)) (lt1000 (pl (pl (pl (pl (pl p0)))))) fun H10 e10 => q _ ?_
      exact ex_set (x9.trans e10)
theorem hu_ch (T : Fx K mg) : ∀ p ∈ TT K, p.1 = (cT K ("Sweep", some "changes")).2 → p.2 = "Sweep.changes.<locals>.<lambda>" := fun p hp e => by
  rcases List.mem_cons.mp hp with z | z
  · rw [z] at e
    exact absurd e T.tne
  · rw [List.mem_singleton.mp z]
theorem sc_Sweep_changes : FnScope ["self", "spans", "found", "begin", "end", "sign"] ["self", "spans"] (defScope (inClass (top 31) 5)) := ⟨rfl, rfl, rfl, by decide +kernel, rfl, by decide +kernel, by decide +kernel⟩
theorem ok_Sweep_changes (T : Fx K mg) (cl : Cls K (swC K)) (na : ∀ f ∈ (["order", "ties", "settles", "skips", "glues", "drops"] : List Str), NoAttr K (swC K) f) (hS : ∀ t ∈ tieWords, KDct K w (ga K "SIGNS") t (.int (sgn t))) (TB : TabB base mg (cT K ("Sweep", some "changes")).1 (cT K ("Sweep", some "changes")).2)(G_check_spans : Kn P w K mg base 5 "check_spans" (spCheck K))(G_sort_items : Kn P w K mg base 6 "sort_items" (spSort K (TT K))) (F : FnM K "Sweep" "changes" (inClass (top 31) 5) fd) : FnOk P w K mg base L2.CX0 7 (fAd K ("Sweep", some "changes")) fd ["self", "spans"] (spChanges K (swC K) (TT K)) := by
  have nd := (sc_Sweep_changes).nd
  refine okC F sc_Sweep_changes (fun vs H Q E h => ?_) (fun A outer s H vs Q E hr h => ⟨_, PSs.nox (pss_cons (ps_expr (pe_kn G_check_spans hr rfl (pa_cons (pv 1) pa_nil))) (pss_cons (ps_set (i := 2) nd rfl (by first | exact .inl rfl | exact .inr rfl) (pe_lst pa_nil)) (pss_cons (ps_for PassesOwn.never rfl (pi_list (pe_kn G_sort_items hr rfl (pa_cons (pe_fld (pv 0) rfl) (pa_cons (pv 1) pa_nil)))) (pg_tup (n := 2) rfl (pgs_cons (pg_name (i := 3) nd rfl (by first | exact .inl rfl | exact .inr rfl)) (pgs_cons (pg_name (i := 4) nd rfl (by first | exact .inl rfl | exact .inr rfl)) pgs_nil))) (pss_one (ps_if (PW.pt (pw_or (pt_cmpR op_lt (pv 3) (pv 4) (nomark _)) (pw_or1 (pt_not (pt_val (pe_fld (pv 0) rfl)))))) (pss_one (ps_aug (i := 2) nd rfl (by first | exact .inl rfl | exact .inr rfl) (pe_lst (pa_cons (pe_tup (pa_cons (pv 3) (pa_cons pe_int pa_nil))) (pa_cons (pe_tup (pa_cons (pv 4) (pa_cons (pe_un un_neg pe_int) pa_nil))) pa_nil))) iop_ext)) pss_nil))) (pss_cons (ps_set (i := 5) nd rfl (by first | exact .inl rfl | exact .inr rfl) (pe_ix ix_kdict (pe_gref rfl T.g_SIGNS) (pe_fld (pv 0) rfl) (fun _ _ => rfl))) (pss_one (ps_ret (pe_sortK (j := 1) (T := TT K) (N := ["change", "sign"]) (ps := ["change"]) (fr := ["sign"]) (js := [5]) rfl T.f_sorted (by decide +kernel) (pv 2) (hr.mono (by decide)) TB rfl (List.mem_cons_of_mem _ List.mem_cons_self) (hu_ch T) rfl (nscope_by (by decide +kernel)) rfl (ndef_free (sc := defScope (inClass (top 31) 5)) (fr := ["sign"]) (by decide +kernel)) (ndef_fr (sc := defScope (inClass (top 31) 5)) (by decide +kernel)) rfl (fun q cl pm cv ctv u => rfl) (fun f c' cl A outer s H hr => pe_tup (pa_cons (pe_ix (ix_tupK (K := K) rfl) (pv 0) pe_int (fun _ _ => rfl)) (pa_cons (pe_op op_mul (pv 1) (pe_ix (ix_tupK (K := K) rfl) (pv 0) pe_int (fun _ _ => rfl))) pa_nil)))))))))), ?_⟩)
  · obtain ⟨x, l, o, xs, rs, rfl, _⟩ := h; rfl
  · obtain ⟨x, l, o, xs, rs, rfl, hx, ok, hl, hr', hg, hn, hT, q⟩ := h
    refine s_drop (ev_check (ev_var rfl) hl hr' hg) fun H1 e1 => ?_
    refine s_asgL (xs := []) (el_lst ea_nil (by decide)) fun f H2 nf e2 h2 => ?_
    have e12 := e1.trans e2
    have hx2 := SwAt.ext (exN e12) hx
    obtain ⟨dx, hx2'⟩ := hx2
    have fO : ∀ {H' : Hp}, ExtN H2 H' → Ev (tFld K (tVar 0) "order") (((L2.start ["self", "spans", "found", "begin", "end", "sign"] [.ref x, .ref l])).set 2 (some (.ref f))) H' (.str o.order) := fun e => ev_fld (ev_var rfl) (e _ _ hx2' fun _ z => by cases z) cl (na _ (by simp)) rfl
    dsimp only [tSeq]
    refine s_forLN (K := K) (C := fun p ys H3 => ExtN H2 H3 ∧ Tabs (TT K) H3 ∧ New H2 p ∧ Rows H3 ys (sortRows o.order rs)) (fun Q0 k0 => ?_) fun p H3 ys hp hc => ?_
    · refine call2 (fO (ExtN.refl _)) (ev_var (v := .ref l) rfl) fun H4 e4 => ⟨o.order, l, xs, rs, rfl, ok.1, ?_, hr'.ext (exN (e12.trans e4)), hg, Tabs.ext hT (e12.trans e4), fun a H' ys' e5 t5 n5 h5 r5 => k0 a H' ys' h5 ⟨(exN e4).trans e5, t5, New.back (exN e4) n5, r5⟩⟩
      exact hl.elim (fun z => .inl (ex_l (e12.trans e4) z)) fun z => .inr (ex_t (e12.trans e4) z)
    obtain ⟨e3, t3, n3, r3⟩ := hc
    have hx1 := SwAt.ext (exN e1) hx
    have nf2 : New H1 f := New.of_none nf
    have pf : p ≠ f := fun z => n3.ne h2 (by intro _ z; cases z) z.symm
    have slen : (sortRows o.order rs).length = rs.length := List.length_mergeSort _
    refine ⟨fun i σ' H' => ∃ b e us, σ' = [some (.ref x), some (.ref l), some (.ref f), b, e, none] ∧ ExtN H1 H' ∧ Tabs (TT K) H' ∧ H' f = some (.lst us) ∧ Rows H' us (stepsOf o.skips ((sortRows o.order rs).take i)) ∧ H' p = some (.lst ys) ∧ Rows H' ys (sortRows o.order rs), ?_, fun _ _ H' h => ?_, fun i y σ' H' hy h => ?_, fun σ' H' h => ?_⟩
    · exact ⟨none, none, [], rfl, (exN e2).trans e3, t3, e3 _ _ h2 (by intro _ z; cases z), Rows.nil, hp, r3⟩
    · obtain ⟨_, _, _, _, _, _, _, _, h, _⟩ := h
      exact SqL.of h
    · obtain ⟨b, e, us, rfl, eN, tN, hf, hu, hp', r4⟩ := h
      obtain ⟨t, a, c, rfl, ht, hri⟩ := r4.at_ hy
      obtain ⟨dx', hx'⟩ := SwAt.ext eN hx1
      have st := steps_take o.skips (sortRows o.order rs) i (a, c) hri
      have ulen : us.length ≤ 2 * rs.length := by
        rw [hu.len]
        exact Nat.le_trans (steps_len _ _) (by rw [List.length_take, slen]; omega)
      refine g_nn (SqT.of ht) ?_
      refine s_if (et_or (et_test (ev_op (ev_var rfl) (ev_var rfl) rv_lt)) fun _ => et_not (et_B (ev_fld (ev_var rfl) hx' cl (na _ (by simp)) rfl))) (fun hb H5 e5 => ?_) fun hb H5 e5 => ?_
      · have hf5 := e5 _ _ hf
        refine ⟨.ref f, rfl, en_lst (P := fun zs G => ∃ t1 t2, zs = [.ref t1, .ref t2] ∧ G t1 = some (.tup [.int a, .int 1]) ∧ G t2 = some (.tup [.int c, .int (-1)])) (fun G0 g0 Q1 k1 => en_consU (eu_pair (ev_var rfl) ev_c) (en_consU (eu_pair (ev_var rfl) (ev_un ev_c ru_neg)) en_nil) G0 g0 _ fun zs G1 e6 hP => k1 zs G1 e6 ?_) (fun zs G hP => ?_) fun q1 zs G1 G2 e6 hP hq eG => ?_⟩
        · obtain ⟨t1, _, rfl, u1, t2, _, rfl, u2, rfl⟩ := hP
          exact ⟨t1, t2, rfl, u1, u2⟩
        · obtain ⟨t1, t2, rfl, _⟩ := hP
          show 2 ≤ 100000
          decide
        · obtain ⟨t1, t2, rfl, u1, u2⟩ := hP
          subst eG
          have e7 : Ex H5 (upd G1 q1 (.lst [.ref t1, .ref t2])) := e6.trans (Ex.new hq)
          have e8 := e5.trans e7
          have hf7 := e7 _ _ hf5
          refine ⟨f, q1, us, [.ref t1, .ref t2], rfl, rfl, hf7, upd_same, ?_, _, _, _, rfl, extN_mut (eN.trans (exN e8)) nf2, tabs_upd hf7 (Tabs.ext tN e8), upd_same, ?_, ?_, ?_⟩
          · show us.length + 2 ≤ sizeLine
            exact Nat.le_trans (by omega : us.length + 2 ≤ 100000) (by decide)
          · rw [st, if_pos hb]
            exact (rows_upd hf7 (hu.ext (exN e8))).app (rows_upd hf7 (Rows.two ((Ex.new hq) _ _ u1) ((Ex.new hq) _ _ u2)))
          · rw [upd_ne pf]; exact e8 _ _ hp'
          · exact rows_upd hf7 (r4.ext (exN e8))
      · refine ⟨_, _, us, rfl, eN.trans (exN e5), Tabs.ext tN e5, e5 _ _ hf, ?_, e5 _ _ hp', r4.ext (exN e5)⟩
        rw [st, if_neg (by rw [hb]; exact Bool.false_ne_true), List.append_nil]
        exact hu.ext (exN e5)
    · obtain ⟨b, e, us, rfl, eN, tN, hf, hu, hp', r4⟩ := h
      obtain ⟨dx', hx'⟩ := SwAt.ext eN hx1
      rw [List.take_of_length_le (by rw [r3.len]; exact Nat.le_refl _)] at hu
      refine s_asg (ev_kd ev_c (ev_fld (ev_var rfl) hx' cl (na _ (by simp)) rfl) (hS _ ok.2)) fun H5 e5 => ?_
      refine sortK_of (kf := changeKey o.ties) (d := 2) (ev_var rfl) (.inl (SqL.of (e5 _ _ hf))) (hu.ext (exN e5)) (fun _ => rfl) (Tabs.ext tN e5) (fun t a c H6 e6 ht => ?_) fun a H' ys' e6 t6 n6 h6 r6 => q a H' ys' (((exN e1).trans (eN.trans (exN e5))).trans e6) t6 (New.back ((exN e1).trans (eN.trans (exN e5))) n6) h6 r6
      exact eu_pair (ev_ixT (ev_var rfl) (SqT.of ht) rfl) (ev_op (ev_var (v := .int (sgn o.ties)) rfl) (ev_ixT (ev_var rfl) (SqT.of ht) rfl) (rv_I (.inl sgn_small)))
theorem sc_Sweep_readings : YScope ["self", "spans", "changes", "level", "index", "edge", "step"] ["self", "spans"] (defScope (inClass (top 31) 6)) := ⟨rfl, rfl, rfl, by decide +kernel, rfl, by decide +kernel, by decide +kernel⟩
theorem ok_readings (T : Fx K mg) (cl : Cls K (swC K)) (na : ∀ f ∈ (["order", "ties", "settles", "skips", "glues", "drops"] : List Str), NoAttr K (swC K) f) (G_changes : KnM P w K mg base 7 (swC K) "changes" (spChanges K (swC K) (TT K)))
    (F : FnM K "Sweep" "readings" (inClass (top 31) 6) fd) : YFn P w K mg base 8 (fAd K ("Sweep", some "readings")) fd ["self", "spans"] (spReads K (swC K) (TT K)) := by
  have nd := (sc_Sweep_readings).nd
  obtain ⟨oc, od, dV, kV, doc, pm, an, cdv, ct, osl, rfl, lk, hcd, _, _⟩ := F.ex
  refine yfn_of lk hcd sc_Sweep_readings (fun vs H Y Q σ h => ?_) ?_
  · obtain ⟨x, l, o, xs, rs, rfl, _⟩ := h; rfl
  rintro ⟨X, pins, N, qual, scope, f', cd, A, L, keep⟩ hP hw hK hmg hbs hN hq hsc gok hr
  obtain rfl : P = X.prog := hP.symm
  obtain rfl : w = X.w := hw.symm
  obtain rfl : K = X.K := hK.symm
  obtain rfl : mg = X.mg := hmg.symm
  obtain rfl : base = X.base := hbs.symm
  obtain rfl : N = _ := hN
  obtain rfl : qual = _ := hq
  obtain rfl : scope = _ := hsc
  refine ⟨_, (yss_cons (ys_ps (fun _ _ _ => (ps_set (i := 2) nd rfl (by first | exact .inl rfl | exact .inr rfl) (pe_knm (pv 0) cl G_changes hr (pa_cons (pv 1) pa_nil))))) (yss_cons (ys_ps (fun _ _ _ => (ps_set (i := 3) nd rfl (by first | exact .inl rfl | exact .inr rfl) pe_int))) (yss_cons (ys_for gok (fun _ _ _ => (pi_enumK (K := X.K) rfl rfl T.f_enumerate (pa_cons (pv 2) pa_nil))) (fun _ _ _ => (pg_tupK (K := X.K) (n := 2) rfl rfl (pgs_cons (pg_name (i := 4) nd rfl (by first | exact .inl rfl | exact .inr rfl)) (pgs_cons (pg_tupK (K := X.K) (n := 2) rfl rfl (pgs_cons (pg_name (i := 5) nd rfl (by first | exact .inl rfl | exact .inr rfl)) (pgs_cons (pg_name (i := 6) nd rfl (by first | exact .inl rfl | exact .inr rfl)) pgs_nil))) pgs_nil)))) (yss_cons (ys_ps (fun _ _ _ => (ps_aug (i := 3) nd rfl (by first | exact .inl rfl | exact .inr rfl) (pv 6) ip_add))) (yss_cons (ys_if (fun _ _ _ => (PW.pt (pw_or (pt_not (pt_val (pe_fldK (K := X.K) rfl (pv 0) rfl))) (pw_or (pt_cmpR op_eq (pe_op op_add (pv 4) pe_int) (pe_callB (call_lenK (K := X.K) rfl) rfl T.f_len (by decide +kernel) (pa_cons (pv 2) pa_nil)) (nomark _)) (pw_or1 (pt_cmpR op_gt (pe_ix (ix_tupK (K := X.K) rfl) (pe_ix (ix_listK (K := X.K) rfl) (pv 2) (pe_op op_add (pv 4) pe_int) (fun _ _ => rfl)) pe_int (fun _ _ => rfl)) (pv 5) (nomark _))))))) (yss_cons (ys_yield gok (fun _ _ _ => (pe_tup (pa_cons (pv 5) (pa_cons (pv 3) pa_nil))))) yss_nil) yss_nil) yss_nil))) yss_nil))), fun vs H Y Q σ h => ?_⟩
  obtain ⟨x, l, o, xs, rs, rfl, hx, ok, hl, hr', hg, hn, hT, M, J, hM, J0, Jst, Jt, Jd⟩ := h
  refine ⟨(readingsOf o rs).length, ?_⟩
  dsimp only [yThen, yPlain, yNil, tAsg, gName]
  obtain ⟨dx, hx'⟩ := id hx
  refine meth1 (ev_var rfl) hx' rfl (ev_var (v := .ref l) rfl) fun H1 e1 => ⟨x, l, o, xs, rs, rfl, SwAt.ext (exN e1) hx, ok, hl.elim (fun z => .inl (ex_l e1 z)) (fun z => .inr (ex_t e1 z)), hr'.ext (exN e1), hg, hn, Tabs.ext hT e1, fun a H2 ys e2 t2 n2 h2 r2 => ?_⟩
  have e12 : ExtN H H2 := (exN e1).trans e2
  have nH : New H a := New.back (exN e1) n2
  have aM : a ∉ M := fun m => by
    obtain ⟨us, hu⟩ := hM a m
    obtain ⟨ps, q⟩ := nH _ hu
    cases q
  have xM : x ∉ M := fun m => by
    obtain ⟨us, hu⟩ := hM x m
    rw [hx'] at hu
    cases hu
  have yM : ∀ t, V.ref t ∈ ys → t ∉ M := fun t ht m => by
    obtain ⟨us, hu⟩ := hM t m
    obtain ⟨t', b1, b2, e, ht'⟩ := r2.all _ ht
    cases e
    rw [e12 _ _ hu fun _ z => by cases z] at ht'
    cases ht'
  show yFor _ _ _ _ _ _ _ _ _
  refine y_forE (K := X.K) (a := a) (xs := ys) (ev_var rfl) (SqL.of h2) (fun i n' σg' σc' H' => ∃ lv w1 w2 w3 pre, σg' = [some (.ref x), some (.ref l), some (.ref a), some (.int lv), w1, w2, w3] ∧ readingsOf o rs = pre ++ readGo o.settles lv ((changesOf o rs).drop i) ∧ n' = (readGo o.settles lv ((changesOf o rs).drop i)).length ∧
    J pre.length σc' H' ∧ H' a = some (.lst ys) ∧ Rows H' ys (changesOf o rs) ∧ SwAt (swC X.K) H' x o ∧ Tabs (TT X.K) H') (fun H3 e3 => ?_) (fun _ _ _ _ H' h => ?_) (fun i y n' σg' σc' H' U hy h hU => ?_) fun n' σg' σc' H' h => ?_
  · have e13 := e12.trans (exN e3)
    exact ⟨0, none, none, none, [], rfl, rfl, rfl, Jst _ _ _ _ J0 e13 (Tabs.ext t2 e3), e3 _ _ h2, r2.ext (exN e3), SwAt.ext e13 hx, Tabs.ext t2 e3⟩
  · obtain ⟨_, _, _, _, _, _, _, _, _, h, _⟩ := h
    exact SqL.of h
  · obtain ⟨lv, w1, w2, w3, pre, rfl, eR, en, hJ, ha, hR, hX, tT⟩ := h
    obtain ⟨t, c1, c2, rfl, ht, hci⟩ := hR.at_ hy
    have eD : (changesOf o rs).drop i = (c1, c2) :: (changesOf o rs).drop (i + 1) := by
      obtain ⟨hi, hv⟩ := List.getElem?_eq_some_iff.mp hci
      rw [List.drop_eq_getElem_cons hi, hv]
    have eU : Ex H' (upd H' U (.tup [.int (i : Nat), .ref t])) := Ex.new hU
    refine g_nnn (SqT.of upd_same) (SqT.of (eU _ _ ht)) ?_
    refine ⟨.int lv, rfl, _, rfl, lv, c2, rfl, rfl, ?_⟩
    have haU := eU _ _ ha
    have hRU := hR.ext (exN eU)
    obtain ⟨dx2, hX2⟩ := SwAt.ext (exN eU) hX
    have tU := Tabs.ext tT eU
    have hJU := Jst _ _ _ _ hJ (exN eU) tU
    have hlen : ys.length = (changesOf o rs).length := hR.len
    have hi : i < ys.length := (List.getElem?_eq_some_iff.mp hy).1
    rw [eD] at eR en
    have bval : (!o.settles || (decide (V.int ((i : Int) + 1) = V.int (ys.length : Int)) || decide (c1 < ((changesOf o rs).getD (i + 1) (0, 0)).1))) = (!o.settles || endB (c1, c2) ((changesOf o rs).drop (i + 1))) := by
      congr 1
      by_cases hlast : i + 1 = ys.length
      · rw [List.drop_of_length_le (by omega)]
        have : V.int ((i : Int) + 1) = V.int (ys.length : Int) := by rw [← hlast]; rfl
        simp [this, endB]
      · have hi2 : i + 1 < (changesOf o rs).length := by omega
        rw [List.drop_eq_getElem_cons hi2]
        have : ¬ ((i : Int) + 1 = (ys.length : Int)) := by omega
        simp [this, endB, List.getD_eq_getElem?_getD, List.getElem?_eq_getElem hi2]
    refine y_if (b := (!o.settles || (decide (V.int ((i : Int) + 1) = V.int (ys.length : Int)) || decide (c1 < ((changesOf o rs).getD (i + 1) (0, 0)).1)))) (et_or (et_not (et_B (ev_fld (ev_var (v := .ref x) rfl) hX2 cl (na _ (by simp)) rfl))) fun _ => et_or (et_test (ev_op (ev_op (ev_var (v := .int (i : Nat)) rfl) ev_c rv_I0) (ev_len (ev_var (v := .ref a) rfl) (SqL.of haU)) (rv_eq rfl))) fun hne => ?_) (fun hb H3 e3 => ?_) fun hb H3 e3 => ?_
    · have hne' : ¬ ((i : Int) + 1 = (ys.length : Int)) := by simpa using hne
      have hi2 : i + 1 < (changesOf o rs).length := by omega
      obtain ⟨u, hu, hut⟩ := hRU.of_at (List.getElem?_eq_getElem hi2)
      refine et_is (et_test (ev_op (ev_op (ev_op (ev_var (v := .ref a) rfl) (ev_op (ev_var (v := .int (i : Nat)) rfl) ev_c rv_I0) (rv_ixL (SqL.of haU) (atI_nat hu))) ev_c (rv_ixT (SqT.of hut) rfl)) (ev_var (v := .int c1) rfl) rv_I0)) ?_
      rw [List.getD_eq_getElem?_getD, List.getElem?_eq_getElem hi2]
      rfl
    · rw [bval] at hb
      have e2R : readGo o.settles lv ((c1, c2) :: (changesOf o rs).drop (i + 1)) = (c1, lv + c2) :: readGo o.settles (lv + c2) ((changesOf o rs).drop (i + 1)) := by
        show (if _ then _ else _) = _
        rw [if_pos hb]
      rw [e2R] at eR en
      refine y_yieldU (m := (readGo o.settles (lv + c2) ((changesOf o rs).drop (i + 1))).length) en (eu_pair (ev_var (v := .int c1) rfl) (ev_var (v := .int (lv + c2)) rfl)) fun p H4 e4 hp => ?_
      have e34 := e3.trans e4
      refine Jt pre.length (c1, lv + c2) p σc' H4 (by rw [eR]; simp) (Jst _ _ _ _ hJU (exN e34) (Tabs.ext tU e34)) (Tabs.ext tU e34) hp _ fun σ'' H'' hJ'' st => ?_
      refine ⟨lv + c2, _, _, _, pre ++ [(c1, lv + c2)], rfl, by rw [eR]; simp, rfl, by rw [List.length_append]; exact hJ'', st.keep _ _ aM (e34 _ _ haU) (fun _ z => by cases z), rows_stay st yM (hRU.ext (exN e34)), ⟨dx2, st.keep _ _ xM (e34 _ _ hX2) fun _ z => by cases z⟩, st.tabs⟩
    · rw [bval] at hb
      have e2R : readGo o.settles lv ((c1, c2) :: (changesOf o rs).drop (i + 1)) = readGo o.settles (lv + c2) ((changesOf o rs).drop (i + 1)) := by
        show (if _ then _ else _) = _
        rw [if_neg (by rw [hb]; exact Bool.false_ne_true)]
      rw [e2R] at eR en
      exact ⟨lv + c2, _, _, _, pre, rfl, eR, en, Jst _ _ _ _ hJU (exN e3) (Tabs.ext tU e3), e3 _ _ haU, hRU.ext (exN e3), ⟨dx2, e3 _ _ hX2⟩, Tabs.ext tU e3⟩
  · obtain ⟨lv, w1, w2, w3, pre, rfl, eR, en, hJ, ha, hR, hX, tT⟩ := h
    rw [List.drop_of_length_le (by rw [hR.len]; exact Nat.le_refl _)] at eR
    have e0 : readGo o.settles lv [] = [] := rfl
    rw [e0, List.append_nil] at eR
    rw [← eR] at hJ
    exact Jd _ _ hJ tT
theorem sc_Sweep___call__ : FnScope ["self", "spans", "edge", "level"] ["self", "spans"] (defScope (inClass (top 31) 7)) := ⟨rfl, rfl, rfl, by decide +kernel, rfl, by decide +kernel, by decide +kernel⟩
theorem ok_Sweep___call__ (T : Fx K mg) (cl : Cls K (swC K)) (G_readings : KnY P w K mg base 8 (swC K) "readings" (spReads K (swC K) (TT K))) (F : FnM K "Sweep" "__call__" (inClass (top 31) 7) fd) : FnOk P w K mg base L2.CX0 11 (fAd K ("Sweep", some "__call__")) fd ["self", "spans"] (spMost K (swC K) (TT K)) := by
  have nd := (sc_Sweep___call__).nd
  refine F.ok sc_Sweep___call__ (fun vs H Q E h => ?_) (fun cdv A outer s H vs Q E hr h => ⟨_, PSs.nox (pss_one (ps_ret (pe_callB (cr_max rfl) rfl T.f_max (by decide +kernel) (pa_cons (pe_op op_cat (pe_lst (pa_cons pe_int pa_nil)) (pe_lcY (own := [("edge", 2), ("level", 3)]) rfl nd (pgy_kn (pv 0) cl G_readings hr (pa_cons (pv 1) pa_nil)) (hr.mono (by decide)) (blkOk_by (own := [("edge", 2), ("level", 3)]) (N := ["self", "spans", "edge", "level"]) (sc := defScope (inClass (top 31) 7)) (by decide +kernel)) (by decide +kernel) (fun _ _ _ _ _ => (pg_tupK (K := K) (n := 2) rfl rfl (pgs_cons (pg_name (i := 2) nd rfl (by first | exact .inl rfl | exact .inr rfl)) (pgs_cons (pg_name (i := 3) nd rfl (by first | exact .inl rfl | exact .inr rfl)) pgs_nil)))) (fun _ _ _ _ _ => pts_nil) (fun _ _ _ _ _ => (pv 3)))) pa_nil)))), ?_⟩)
  · obtain ⟨x, l, o, xs, rs, rfl, _⟩ := h; rfl
  · obtain ⟨x, l, o, xs, rs, rfl, g, q⟩ := h
    have few := Nat.le_trans (reads_len o rs) (Nat.mul_le_mul_left 2 g.few)
    refine max0 (T := TT K) (rd := readingsOf o rs) g.tabs few (fun H1 e1 Q' k => ?_) q
    refine lcY_of (i := 2) (j := 3) (fun r => .int r.2) (ev_var rfl) (ev_var rfl) (g.ex e1) (fun _ _ => rfl) (fun r H' => ev_var rfl) fun D H' e2 t2 _ hD => k D H' e2 t2 ?_
    rw [hD, List.map_map]
    rfl
theorem sc_Sweep_peak : FnScope ["self", "spans", "rows", "most", "edge", "level", "begin"] ["self", "spans"] (defScope (inClass (top 31) 8)) := ⟨rfl, rfl, rfl, by decide +kernel, rfl, by decide +kernel, by decide +kernel⟩
theorem ok_Sweep_peak (T : Fx K mg) (cl : Cls K (swC K)) (G_readings : KnY P w K mg base 8 (swC K) "readings" (spReads K (swC K) (TT K))) (F : FnM K "Sweep" "peak" (inClass (top 31) 8) fd) : FnOk P w K mg base L2.CX0 13 (fAd K ("Sweep", some "peak")) fd ["self", "spans"] (spPeak K (swC K) (TT K)) := by
  have nd := (sc_Sweep_peak).nd
  refine F.ok sc_Sweep_peak (fun vs H Q E h => ?_) (fun cdv A outer s H vs Q E hr h => ⟨_, PSs.nox (pss_cons (ps_set (i := 2) nd rfl (by first | exact .inl rfl | exact .inr rfl) (pe_listY rfl (pgy_kn (pv 0) cl G_readings hr (pa_cons (pv 1) pa_nil)) (hr.mono (by decide)) rfl T.f_list (by decide +kernel))) (pss_cons (ps_set (i := 3) nd rfl (by first | exact .inl rfl | exact .inr rfl) (pe_callB (cr_max rfl) rfl T.f_max (by decide +kernel) (pa_cons (pe_op op_cat (pe_lst (pa_cons pe_int pa_nil)) (pe_lc (own := [("edge", 4), ("level", 5)]) rfl nd (pi_list (pv 2)) (blkOk_by (own := [("edge", 4), ("level", 5)]) (N := ["self", "spans", "rows", "most", "edge", "level", "begin"]) (sc := defScope (inClass (top 31) 8)) (by decide +kernel)) (fun _ _ _ _ _ => (pg_tupK (K := K) (n := 2) rfl rfl (pgs_cons (pg_name (i := 4) nd rfl (by first | exact .inl rfl | exact .inr rfl)) (pgs_cons (pg_name (i := 5) nd rfl (by first | exact .inl rfl | exact .inr rfl)) pgs_nil)))) (fun _ _ _ _ _ => pts_nil) (fun _ _ _ _ _ => (pv 5)))) pa_nil))) (pss_cons (ps_set (i := 6) nd rfl (by first | exact .inl rfl | exact .inr rfl) pe_non) (pss_cons (ps_for PassesOwn.never rfl (pi_list (pv 2)) (pg_tup (n := 2) rfl (pgs_cons (pg_name (i := 4) nd rfl (by first | exact .inl rfl | exact .inr rfl)) (pgs_cons (pg_name (i := 5) nd rfl (by first | exact .inl rfl | exact .inr rfl)) pgs_nil))) (pss_one (ps_if (PW.pt (pw_and (pt_cmpR op_isN (pv 6) pe_non (nomark _)) (pw_and1 (pt_chain op_eq op_gt (pv 5) (pv 3) pe_int)))) (pss_one (ps_set (i := 6) nd rfl (by first | exact .inl rfl | exact .inr rfl) (pv 4))) (pss_one (ps_if (PW.pt (pw_and (pt_cmpR op_notN (pv 6) pe_non (nomark _)) (pw_and1 (pt_cmpR op_lt (pv 5) (pv 3) (nomark _))))) (pss_one (ps_ret (pe_tup (pa_cons (pv 6) (pa_cons (pv 4) (pa_cons (pv 3) pa_nil)))))) pss_nil))))) (pss_one (ps_ret pe_non)))))), ?_⟩)
  · obtain ⟨x, l, o, xs, rs, rfl, _⟩ := h; rfl
  · obtain ⟨x, l, o, xs, rs, rfl, g, q⟩ := h
    have few := Nat.le_trans (reads_len o rs) (Nat.mul_le_mul_left 2 g.few)
    dsimp only [tSeq, tAsg]
    refine listY_of (ta := tVar 0) (tl := tVar 1) (σ := L2.start ["self", "spans", "rows", "most", "edge", "level", "begin"] [.ref x, .ref l]) (ev_var rfl) (ev_var rfl) g fun S H1 ys e1 t1 _ hS hR => ?_
    have lenY : ys.length ≤ 2000 := by rw [hR.len]; exact few
    refine max0 (T := TT K) (rd := readingsOf o rs) t1 few (fun H2 e2 Q' k => ?_) fun H2 e2 t2 => ?_
    · refine el_lcR (K := K) (i := 4) (j := 5) (fun r => .int r.2) (fun _ => true) (es_ev (ev_var (v := .ref S) rfl) (SqL.of (e2 _ _ hS))) (hR.ext (exN e2)) (by omega) (fun _ _ => rfl) (fun r H' => et_yes) (fun r H' => ev_var rfl) H2 (Ex.refl H2) _ fun D H3 _ e3 hD => k D H3 (exN e3) (Tabs.ext t1 (e2.trans e3)) ?_
      rw [hD, List.filter_eq_self.mpr (fun _ _ => rfl), List.map_map]
      rfl
    dsimp only [gName, tSeq]
    refine s_asg (v := .non) ev_c fun H3 e3 => ?_
    dsimp only
    have hS3 := e3 _ _ (e2 _ _ hS fun _ z => by cases z)
    have hR3 := hR.ext (e2.trans (exN e3))
    refine s_forL (K := K) (a := S) (xs := ys) (ev_var rfl) (SqL.of hS3) (fun i σ' H' => Ex H3 H' ∧ ∃ w1 w2 b, σ' = [some (.ref x), some (.ref l), some (.ref S), some (.int (mostOf (readingsOf o rs))), w1, w2, some (begV b)] ∧ peakOf (readingsOf o rs) = peakGo (mostOf (readingsOf o rs)) b ((readingsOf o rs).drop i)) (fun H4 e4 => ⟨e4, none, none, none, rfl, rfl⟩) (fun _ _ H' _ h => ex_l h.1 (SqL.of hS3)) (fun i y σ' H' hy h => ?_) fun σ' H' h => ?_
    · obtain ⟨e4, w1, w2, b, rfl, eP⟩ := h
      obtain ⟨t, c1, c2, rfl, ht, hci⟩ := (hR3.ext (exN e4)).at_ hy
      obtain ⟨hi, hv⟩ := List.getElem?_eq_some_iff.mp hci
      rw [List.drop_eq_getElem_cons hi, hv] at eP
      refine g_nn (SqT.of ht) ?_
      refine s_if (et_and (et_test (ev_op (ev_var (v := begV b) rfl) ev_c fun H1 _ Q q => ⟨rfl, q H1 (Ex.refl H1)⟩)) fun _ => et_test (ev_chainI (ev_var (v := .int c2) rfl) (ev_var (v := .int (mostOf (readingsOf o rs))) rfl) (rv_eq rfl) ev_c rv_I0)) (fun hb H5 e5 => ?_) fun hb H5 e5 => ?_
      · cases b with
        | some b => simp [begV] at hb
        | none =>
          have hc : c2 = mostOf (readingsOf o rs) ∧ 0 < mostOf (readingsOf o rs) := by simpa [begV] using hb
          refine s_asg (ev_var (v := .int c1) rfl) fun H6 e6 => ⟨e4.trans (e5.trans e6), _, _, some c1, rfl, ?_⟩
          rw [eP]
          show (if _ then _ else _) = _
          rw [if_pos hc]
      · refine s_if (et_and (et_test (ev_op (ev_var (v := begV b) rfl) ev_c fun H1 _ Q q => ⟨rfl, q H1 (Ex.refl H1)⟩)) fun _ => et_test (ev_op (ev_var (v := .int c2) rfl) (ev_var (v := .int (mostOf (readingsOf o rs))) rfl) rv_I0)) (fun hc H6 e6 => ?_) fun hc H6 e6 => ?_
        · cases b with
          | none => simp [begV] at hc
          | some b =>
            have hc' : c2 < mostOf (readingsOf o rs) := by simpa [begV] using hc
            refine s_retU (eu_tup (ea_cons (ev_var (v := begV (some b)) rfl) (ea_cons (ev_var (v := .int c1) rfl) (ea_cons (ev_var (v := .int (mostOf (readingsOf o rs))) rfl) ea_nil))) (by show 3 ≤ 100000; decide)) fun p H7 _ e7 hp => ?_
            refine q _ H7 ((e1.trans e2).trans (exN (e3.trans (e4.trans (e5.trans (e6.trans e7)))))) (Tabs.ext t2 (e3.trans (e4.trans (e5.trans (e6.trans e7))))) ?_
            rw [eP]
            show IsPeak _ _ (if _ then _ else _)
            rw [if_pos hc']
            exact ⟨p, rfl, hp⟩
        · refine ⟨e4.trans (e5.trans e6), _, _, b, rfl, ?_⟩
          rw [eP]
          cases b with
          | none =>
            show (if _ then _ else _) = _
            rw [if_neg (by simpa [begV] using hb)]
          | some b =>
            show (if _ then _ else _) = _
            rw [if_neg (by simpa [begV] using hc)]
    · obtain ⟨e4, w1, w2, b, rfl, eP⟩ := h
      dsimp only
      refine s_ret (v := .non) ev_c fun H5 e5 => ?_
      refine q _ H5 ((e1.trans e2).trans (exN (e3.trans (e4.trans e5)))) (Tabs.ext t2 (e3.trans (e4.trans e5))) ?_
      rw [eP, List.drop_of_length_le (by rw [hR3.len]; exact Nat.le_refl _)]
      cases b <;> rfl
theorem sc__law_bag : FnScope ["script", "at", "cell"] ["script", "at"] (defScope (top 33)) := ⟨rfl, rfl, rfl, by decide +kernel, rfl, by decide +kernel, by decide +kernel⟩
theorem ok__law_bag (T : Fx K mg)  (F : FnP K "_law_bag" (top 33) fd) : FnOk P w K mg base L2.CX0 2 (fAd K ("_law_bag", none)) fd ["script", "at"] (spBag K) := by
  have nd := (sc__law_bag).nd
  refine F.ok sc__law_bag (fun vs H Q E h => ?_) (fun cdv A outer s H vs Q E hr h => ⟨_, PSs.nox (pss_cons (ps_set (i := 2) nd rfl (by first | exact .inl rfl | exact .inr rfl) (pe_ifExp (pt_cmpR op_lt (pv 1) (pe_callB call_len_seq rfl T.f_len (by decide +kernel) (pa_cons (pv 0) pa_nil)) (nomark _)) (pe_ix ix_list (pv 0) (pv 1) (fun _ _ => rfl)) pe_int)) (pss_one (ps_ret (pe_lst (pa_cons (pe_ifExp (pt_cmpR op_ge (pe_callB call_abs rfl T.f_abs (by decide +kernel) (pa_cons (pv 2) pa_nil)) (pe_op op_pow pe_int pe_int) (nomark _)) (pe_callB call_abs rfl T.f_abs (by decide +kernel) (pa_cons (pv 2) pa_nil)) pe_int) (pa_cons (pe_op op_modN (pe_callTy call_int1 rfl T.f_int (by decide +kernel) (pa_cons (pv 2) pa_nil)) pe_int) (pa_cons (pe_op op_add (pe_op op_mulW pe_int (pv 1)) pe_int) (pa_cons pe_int pa_nil)))))))), ?_⟩)
  · obtain ⟨a, at_, ns, rfl, _⟩ := h; rfl
  · obtain ⟨a, i, ns, rfl, h0, hi, hs, q⟩ := h
    dsimp only [tSeq]
    refine s_asg (v := .int (ns.getD i.toNat 0)) (ev_if (b := decide (i < (ns.map V.int).length)) (et_test (ev_op (ev_var rfl) (ev_len (ev_var rfl) hs) rv_I0)) (fun hb => ?_) fun hb => ?_) fun H1 e1 => ?_
    · have hl : i.toNat < ns.length := by
        have := of_decide_eq_true hb
        rw [List.length_map] at this
        omega
      refine ev_op (ev_var (v := .ref a) rfl) (ev_var (v := .int i) rfl) (rv_ixL hs ?_)
      rw [show i = (i.toNat : Int) by omega]
      refine atI_nat ?_
      rw [List.getElem?_map, Int.toNat_natCast, List.getD_eq_getElem?_getD, List.getElem?_eq_getElem hl]
      rfl
    · have hl : ¬ i.toNat < ns.length := by
        have := of_decide_eq_false hb
        rw [List.length_map] at this
        omega
      rw [List.getD_eq_getElem?_getD, List.getElem?_eq_none (by omega)]
      exact ev_c
    generalize ns.getD i.toNat 0 = c
    refine s_retL (xs := [.int (if 10 ^ 18 ≤ (if c < 0 then -c else c) then (if c < 0 then -c else c) else 0), .int (c.fmod 2305843009213693951), .int (6151 * i + 389), .int 0]) (el_lst (ea_cons (ev_if (b := decide (10 ^ 18 ≤ (if c < 0 then -c else c))) (et_test (ev_op (ev_abs (ev_var rfl)) (ev_op ev_c ev_c (rv_I ⟨by decide, by decide, by decide⟩)) rv_I0)) (fun hb => ?_) fun hb => ?_) (ea_cons (ev_op (ev_int1 (ev_var rfl)) ev_c (rv_I (by decide))) (ea_cons (ev_op (ev_op ev_c (ev_var rfl) (rv_I (wide_mul (a := 20) (b := 20) (by decide) (by omega) (by decide) (by decide) (by decide)))) ev_c rv_I0) (ea_cons ev_c ea_nil)))) (by show 4 ≤ 100000; decide)) fun p H2 hp e2 h2 => ?_
    · rw [if_pos (of_decide_eq_true hb)]
      exact ev_abs (ev_var rfl)
    · rw [if_neg (of_decide_eq_false hb)]
      exact ev_c
    refine q p H2 (e1.trans e2) (fresh_back e1 hp) ⟨_, _, _, _, h2, ?_, ?_, ?_, ?_, ?_⟩
    · split <;> (try split) <;> omega
    · have := fm_ok (i := c) (m := 2305843009213693951) (by decide)
      exact ⟨this.1, Int.lt_trans this.2 (by decide)⟩
    · omega
    · omega
    · decide
theorem sc__law_take : FnScope ["bag", "many", "digit", "mixed"] ["bag", "many"] (defScope (top 34)) := ⟨rfl, rfl, rfl, by decide +kernel, rfl, by decide +kernel, by decide +kernel⟩
theorem ok__law_take (T : Fx K mg)  (F : FnP K "_law_take" (top 34) fd) : FnOk P w K mg base L2.CX0 2 (fAd K ("_law_take", none)) fd ["bag", "many"] spTake := by
  have nd := (sc__law_take).nd
  refine F.ok sc__law_take (fun vs H Q E h => ?_) (fun cdv A outer s H vs Q E hr h => ⟨_, PSs.nox (pss_cons (ps_if (pt_cmpR op_gt (pe_ix ix_list (pv 0) pe_int (fun _ _ => rfl)) pe_int (nomark _)) (pss_cons (ps_set (i := 2) nd rfl (by first | exact .inl rfl | exact .inr rfl) (pe_op op_modN (pe_callTy call_int1 rfl T.f_int (by decide +kernel) (pa_cons (pe_ix ix_list (pv 0) pe_int (fun _ _ => rfl)) pa_nil)) (pv 1))) (pss_cons (ps_asg (pe_op op_fdivW (pe_ix ix_list (pv 0) pe_int (fun _ _ => rfl)) (pv 1)) (pg_sub (pv 0) pe_int set_list)) (pss_one (ps_ret (pv 2))))) pss_nil) (pss_cons (ps_asg (pe_op op_add (pe_ix ix_list (pv 0) pe_int (fun _ _ => rfl)) pe_int) (pg_sub (pv 0) pe_int set_list)) (pss_cons (ps_set (i := 3) nd rfl (by first | exact .inl rfl | exact .inr rfl) (pe_op op_modN (pe_callTy call_int1 rfl T.f_int (by decide +kernel) (pa_cons (pe_op op_pow (pe_op op_add (pe_op op_add (pe_ix ix_list (pv 0) pe_int (fun _ _ => rfl)) (pe_op op_mulW pe_int (pe_ix ix_list (pv 0) pe_int (fun _ _ => rfl)))) (pe_ix ix_list (pv 0) pe_int (fun _ _ => rfl))) pe_int) pa_nil)) pe_int)) (pss_cons (ps_set (i := 3) nd rfl (by first | exact .inl rfl | exact .inr rfl) (pe_op op_modN (pe_callTy call_int1 rfl T.f_int (by decide +kernel) (pa_cons (pe_op op_pow (pe_op op_add (pv 3) (pe_op op_mulW pe_int (pe_ix ix_list (pv 0) pe_int (fun _ _ => rfl)))) pe_int) pa_nil)) pe_int)) (pss_cons (ps_if (pt_cmpR op_gt (pv 1) (pe_op op_pow pe_int pe_int) (nomark _)) (pss_one (ps_set (i := 3) nd rfl (by first | exact .inl rfl | exact .inr rfl) (pe_op op_modN (pe_callTy call_int1 rfl T.f_int (by decide +kernel) (pa_cons (pe_op op_pow (pe_op op_add (pv 3) pe_int) pe_int) pa_nil)) (pe_op op_pow pe_int pe_int)))) pss_nil) (pss_one (ps_ret (pe_op op_modN (pe_callTy call_int1 rfl T.f_int (by decide +kernel) (pa_cons (pe_op op_fdivW (pv 3) pe_int) pa_nil)) (pv 1))))))))), ?_⟩)
  · obtain ⟨b, m, k, rfl, _⟩ := h; rfl
  · obtain ⟨b, m, k, rfl, h0, hm, ⟨x, y, z, n, hB, x0, ⟨y0, yl⟩, ⟨z0, zl⟩, n0, nk⟩, hk, q⟩ := h
    have mm : m.natAbs < 2 ^ 100 := Nat.lt_of_le_of_lt (by omega : m.natAbs ≤ 10 ^ 30) (by decide)
    dsimp only [tSeq]
    refine s_if (b := decide (0 < x)) (et_test (ev_op (ev_op (ev_var rfl) ev_c (rv_ixL (SqL.of hB) rfl)) ev_c rv_I0)) (fun hx H1 e1 => ?_) fun hx H1 e1 => ?_
    · have hB1 := e1 _ _ hB
      refine s_asg (ev_op (ev_int1 (ev_op (ev_var (v := .ref b) rfl) ev_c (rv_ixL (SqL.of hB1) rfl))) (ev_var (v := .int m) rfl) (rv_I (by omega))) fun H2 e2 => ?_
      have hB2 := e2 _ _ hB1
      refine s_setL (j := 0) hB2 (ev_op (ev_op (ev_var (v := .ref b) rfl) ev_c (rv_ixL (SqL.of hB2) rfl)) (ev_var (v := .int m) rfl) (rv_I (wide_div h0 mm (by decide) (by decide)))) (ev_var (v := .ref b) rfl) ev_c (by show 0 < 4; decide) fun H3 e3 => ?_
      have f := fm_ok (i := x) h0
      refine s_ret (ev_var (v := .int (x.fmod m)) rfl) fun H4 e4 => q _ H4 f.1 f.2 ((bgr_upd (n := n) ((e1.trans e2).trans e3) ⟨Int.ediv_nonneg x0 (by omega), ⟨y0, yl⟩, ⟨z0, zl⟩, n0, by omega⟩).ex e4)
    · have hB1 := e1 _ _ hB
      refine s_setL (j := 3) hB1 (ev_op (ev_op (ev_var (v := .ref b) rfl) ev_c (rv_ixL (SqL.of hB1) rfl)) ev_c rv_I0) (ev_var (v := .ref b) rfl) ev_c (by show 3 < 4; decide) fun H2 e2 => ?_
      have r3 : BgR b H (k + 1) (upd H2 b (.lst [.int x, .int y, .int z, .int (n + 1)])) := bgr_upd (e1.trans e2) ⟨x0, ⟨y0, yl⟩, ⟨z0, zl⟩, by omega, by omega⟩
      have hB3 : (upd H2 b (.lst [.int x, .int y, .int z, .int (n + 1)])) b = some (.lst [.int x, .int y, .int z, .int (n + 1)]) := upd_same
      show tSeq _ _ _ _ (upd H2 b (.lst [.int x, .int y, .int z, .int (n + 1)]))
      generalize upd H2 b (.lst [.int x, .int y, .int z, .int (n + 1)]) = H3 at r3 hB3
      dsimp only [tSeq]
      refine s_asg (ev_op (ev_int1 (ev_op (ev_op (ev_op (ev_op (ev_var (v := .ref b) rfl) ev_c (rv_ixL (SqL.of hB3) rfl)) (ev_op ev_c (ev_op (ev_var (v := .ref b) rfl) ev_c (rv_ixL (SqL.of hB3) rfl)) (rv_I (wide_mul (a := 30) (b := 30) (by decide) (by omega) (by decide) (by decide) (by decide)))) rv_I0) (ev_op (ev_var (v := .ref b) rfl) ev_c (rv_ixL (SqL.of hB3) rfl)) rv_I0) ev_c (rv_I ⟨by decide, by decide, by omega⟩))) ev_c (rv_I (by decide))) fun H4 e4 => ?_
      have hB4 := e4 _ _ hB3
      have f1 := fm_ok (i := (y + 7368787 * (n + 1) + z) ^ (2 : Int).toNat) (m := 2305843009213693921) (by decide)
      generalize ((y + 7368787 * (n + 1) + z) ^ (2 : Int).toNat).fmod 2305843009213693921 = m1 at f1
      dsimp only
      refine s_asg (ev_op (ev_int1 (ev_op (ev_op (ev_var (v := .int m1) rfl) (ev_op ev_c (ev_op (ev_var (v := .ref b) rfl) ev_c (rv_ixL (SqL.of hB4) rfl)) (rv_I (wide_mul (a := 30) (b := 30) (by decide) (by omega) (by decide) (by decide) (by decide)))) rv_I0) ev_c (rv_I ⟨by decide, by decide, by omega⟩))) ev_c (rv_I (by decide))) fun H5 e5 => ?_
      have f2 := fm_ok (i := (m1 + 32452867 * (n + 1)) ^ (3 : Int).toNat) (m := 2305843009213693951) (by decide)
      generalize ((m1 + 32452867 * (n + 1)) ^ (3 : Int).toNat).fmod 2305843009213693951 = m2 at f2
      have last : ∀ (m3 : Int) (st : Option V) H6, Ex H3 H6 → tRet (tOp (rI (fun x j => j ≠ 0) fun i j => V.int (i.fmod j)) (tCB (fun xs H Q => (∃ i, xs = [V.int i] ∧ Q (V.int i) H) ∨ ∃ k, xs = [V.bl k] ∧ Q (V.int (if k = true then 1 else 0)) H) (tCons (tOp (rI CDivW fun i j => V.int (i / j)) (tVar 3) (tC (V.int 4096))) tNil)) (tVar 1)) { nx := fun x H' => Q V.non H', rt := Q } [some (.ref b), some (.int m), st, some (.int m3)] H6 := fun m3 st H6 e6 => by
        have f := fm_ok (i := m3 / 4096) h0
        exact s_ret (ev_op (ev_int1 (ev_op (ev_var (v := .int m3) rfl) ev_c (rv_I (wide_div (b := 13) (by decide) (by decide) (by decide) (by decide))))) (ev_var (v := .int m) rfl) (rv_I (by omega))) fun H7 e7 => q _ H7 f.1 f.2 (r3.ex (e6.trans e7))
      dsimp only
      refine s_if (b := decide (10 ^ 12 < m)) (et_test (ev_op (ev_var (v := .int m) rfl) (ev_op ev_c ev_c (rv_I ⟨by decide, by decide, by decide⟩)) rv_I0)) (fun _ H6 e6 => ?_) fun _ H6 e6 => last m2 _ H6 ((e4.trans e5).trans e6)
      refine s_asg (ev_op (ev_int1 (ev_op (ev_op (ev_var (v := .int m2) rfl) ev_c rv_I0) ev_c (rv_I ⟨by decide, by decide, by omega⟩))) (ev_op ev_c ev_c (rv_I ⟨by decide, by decide, by decide⟩)) (rv_I (by decide))) fun H7 e7 => last _ _ H7 (((e4.trans e5).trans e6).trans e7)
theorem sc__law_options : FnScope ["bag", "orders", "first", "second", "truths", "turn"] ["bag"] (defScope (top 35)) := ⟨rfl, rfl, rfl, by decide +kernel, rfl, by decide +kernel, by decide +kernel⟩
theorem ok__law_options (T : Fx K mg) (G__law_take : Kn P w K mg base 2 "_law_take" spTake) (F : FnP K "_law_options" (top 35) fd) : FnOk P w K mg base L2.CX0 3 (fAd K ("_law_options", none)) fd ["bag"] spOptions := by
  have nd := (sc__law_options).nd
  refine F.ok sc__law_options (fun vs H Q E h => ?_) (fun cdv A outer s H vs Q E hr h => ⟨_, PSs.nox (pss_cons (ps_set (i := 1) nd rfl (by first | exact .inl rfl | exact .inr rfl) (pe_lst (pa_cons pe_str (pa_cons pe_str (pa_cons pe_str (pa_cons pe_str (pa_cons pe_str (pa_cons pe_str (pa_cons pe_str pa_nil))))))))) (pss_cons (ps_par (i := 2) (j := 3) rfl nd rfl rfl (by decide) rfl rfl (pa_cons (pe_ix ix_list (pv 1) (pe_kn G__law_take hr rfl (pa_cons (pv 0) (pa_cons pe_int pa_nil))) (fun _ _ => rfl)) (pa_cons (pe_ix ix_list (pe_lst (pa_cons pe_str (pa_cons pe_str (pa_cons pe_str pa_nil)))) (pe_kn G__law_take hr rfl (pa_cons (pv 0) (pa_cons pe_int pa_nil))) (fun _ _ => rfl)) pa_nil)) (by rfl)) (pss_cons (ps_setLc (i := 4) (own := [("turn", 5)]) rfl nd rfl rfl (sw_true rfl rfl rfl (by decide +kernel)) (pi_range1 rfl T.f_range (pa_cons pe_int pa_nil)) (blkOk_by (own := [("turn", 5)]) (N := ["bag", "orders", "first", "second", "truths", "turn"]) (sc := defScope (top 35)) (by decide +kernel)) (fun _ _ _ _ _ => (pg_name (i := 5) nd rfl (by first | exact .inl rfl | exact .inr rfl))) (fun _ _ _ _ _ => pts_nil) (fun _ _ _ _ _ => (pe_cmpR op_eq (pe_kn G__law_take hr rfl (pa_cons (pv 0) (pa_cons pe_int pa_nil))) pe_int (nomark _)))) (pss_one (ps_ret (pe_tup (pa_cons (pv 2) (pa_cons (pv 3) (pa_cons (pe_ix ix_list (pv 4) pe_int (fun _ _ => rfl)) (pa_cons (pe_ix ix_list (pv 4) pe_int (fun _ _ => rfl)) (pa_cons (pe_ix ix_list (pv 4) pe_int (fun _ _ => rfl)) (pa_cons (pe_ix ix_list (pv 4) pe_int (fun _ _ => rfl)) pa_nil)))))))))))), ?_⟩)
  · obtain ⟨b, k, rfl, _⟩ := h; rfl
  · obtain ⟨b, k, rfl, hb, hk, q⟩ := h
    obtain ⟨us0, hb0⟩ := hb.lst
    dsimp only [tSeq]
    refine s_asgL (xs := spanOrders.map V.str) (el_lst (ea_cons ev_c (ea_cons ev_c (ea_cons ev_c (ea_cons ev_c (ea_cons ev_c (ea_cons ev_c (ea_cons ev_c ea_nil))))))) (by show 7 ≤ 100000; decide)) fun L H1 nL e1 hL => ?_
    have nLb := ne_of_none' nL hb0
    have r1 := (BgR.refl hb).ex e1
    dsimp only [tSeq]
    refine s_par ?_
    refine tk_str (b := b) (H := H) (ss := spanOrders) (fun Q' k' => ⟨.ref L, rfl, k' L H1 (Ex.refl H1) nLb hL⟩) rfl r1 (by omega) rfl (by decide) (by decide) fun s1 H2 hs1 r2 => ?_
    refine tk_str (b := b) (H := H) (ss := tieWords) (fun Q' k' => (el_lst (vs := tieWords.map V.str) (ea_cons ev_c (ea_cons ev_c (ea_cons ev_c ea_nil))) (by show 3 ≤ 100000; decide)) H2 (Ex.refl H2) _ fun p H3 np e3 hp => k' p H3 e3 (fun z => ?_) hp) rfl r2 (by omega) rfl (by decide) (by decide) fun s2 H4 hs2 r4 => ?_
    · obtain ⟨us2, hb2⟩ := r2.bag.lst
      exact ne_of_none' np hb2 z
    dsimp only [tSeq, tAsg]
    refine tk_truths (b := b) (H := H) (fun _ => rfl) (fun _ => rfl) r4 (by omega) fun D b1 b2 b3 b4 H5 r5 _ _ hD => ?_
    dsimp only [gName]
    refine s_retU (eu_tup (ea_cons (ev_var (v := .str s1) rfl) (ea_cons (ev_var (v := .str s2) rfl) (ea_cons (ev_op (ev_var (v := .ref D) rfl) ev_c (rv_ixL (SqL.of hD) rfl)) (ea_cons (ev_op (ev_var (v := .ref D) rfl) ev_c (rv_ixL (SqL.of hD) rfl)) (ea_cons (ev_op (ev_var (v := .ref D) rfl) ev_c (rv_ixL (SqL.of hD) rfl)) (ea_cons (ev_op (ev_var (v := .ref D) rfl) ev_c (rv_ixL (SqL.of hD) rfl)) ea_nil)))))) (by show 6 ≤ 100000; decide)) fun p H6 _ e6 hp => ?_
    exact q p ⟨s1, s2, b1, b2, b3, b4⟩ H6 (r5.ex e6) hp ⟨hs1, hs2⟩
theorem sc__law_rows : FnScope ["bag", "many", "factor", "room", "rows", "turn", "low", "high", "kind"] ["bag", "many"] (defScope (top 37)) := ⟨rfl, rfl, rfl, by decide +kernel, rfl, by decide +kernel, by decide +kernel⟩
theorem ok__law_rows (T : Fx K mg) (G__law_take : Kn P w K mg base 2 "_law_take" spTake) (F : FnP K "_law_rows" (top 37) fd) : FnOk P w K mg base L2.CX0 3 (fAd K ("_law_rows", none)) fd ["bag", "many"] spRows := by
  have nd := (sc__law_rows).nd
  refine F.ok sc__law_rows (fun vs H Q E h => ?_) (fun cdv A outer s H vs Q E hr h => ⟨_, PSs.nox (pss_cons (ps_set (i := 2) nd rfl (by first | exact .inl rfl | exact .inr rfl) (pe_op op_add pe_int (pe_op op_mulW (pe_kn G__law_take hr rfl (pa_cons (pv 0) (pa_cons pe_int pa_nil))) (pe_kn G__law_take hr rfl (pa_cons (pv 0) (pa_cons (pe_op op_pow pe_int pe_int) pa_nil)))))) (pss_cons (ps_par (i := 3) (j := 4) rfl nd rfl rfl (by decide) rfl rfl (pa_cons (pe_op op_add pe_int (pe_kn G__law_take hr rfl (pa_cons (pv 0) (pa_cons pe_int pa_nil)))) (pa_cons (pe_lst pa_nil) pa_nil)) (by rfl)) (pss_cons (ps_for PassesOwn.never rfl (pi_range1 rfl T.f_range (pa_cons (pv 1) pa_nil)) (pg_name (i := 5) nd rfl (by first | exact .inl rfl | exact .inr rfl)) (pss_cons (ps_set (i := 6) nd rfl (by first | exact .inl rfl | exact .inr rfl) (pe_kn G__law_take hr rfl (pa_cons (pv 0) (pa_cons (pv 3) pa_nil)))) (pss_cons (ps_set (i := 7) nd rfl (by first | exact .inl rfl | exact .inr rfl) (pe_op op_add (pv 6) (pe_op op_mulW (pe_kn G__law_take hr rfl (pa_cons (pv 0) (pa_cons (pe_op op_sub (pe_op op_add (pv 3) pe_int) (pv 6)) pa_nil))) (pe_callB (call_min2 rfl) rfl T.f_min (by decide +kernel) (pa_cons pe_int (pa_cons (pe_kn G__law_take hr rfl (pa_cons (pv 0) (pa_cons pe_int pa_nil))) pa_nil)))))) (pss_cons (ps_set (i := 8) nd rfl (by first | exact .inl rfl | exact .inr rfl) (pe_kn G__law_take hr rfl (pa_cons (pv 0) (pa_cons pe_int pa_nil)))) (pss_cons (ps_set (i := 6) nd rfl (by first | exact .inl rfl | exact .inr rfl) (pe_ifExp (PW.pt (pw_or (pt_cmpR op_eq (pv 8) pe_int (nomark _)) (pw_or1 (pt_cmpR op_eq (pv 8) pe_int (nomark _))))) (pe_un un_neg (pe_op op_pow pe_int pe_int)) (pe_op op_mulW (pe_op op_sub (pv 6) pe_int) (pv 2)))) (pss_one (ps_expr (pe_bm PySem.F.plainAttrs_list PySem.F.slot_list_append PySem.F.type_list_append mt_append (pv 4) (pa_cons (pe_tup (pa_cons (pv 6) (pa_cons (pe_ifExp (PW.pt (pw_or (pt_cmpR op_eq (pv 8) pe_int (nomark _)) (pw_or1 (pt_cmpR op_eq (pv 8) pe_int (nomark _))))) (pe_op op_pow pe_int pe_int) (pe_op op_mulW (pe_op op_sub (pv 7) pe_int) (pv 2))) pa_nil))) pa_nil))))))))) (pss_one (ps_ret (pv 4)))))), ?_⟩)
  · obtain ⟨b, m, k, rfl, _⟩ := h; rfl
  · obtain ⟨b, m, k, rfl, hb, ⟨m0, ml⟩, hk, q⟩ := h
    obtain ⟨us0, hb0⟩ := hb.lst
    dsimp only [tSeq]
    refine sb_asg (b := b) (H := H) (p := fun f => 1 ≤ f ∧ f ≤ 10 ^ 28 + 1) (eb_is (eb_op (f := fun i j => i + j) eb_c (eb_op (f := fun i j => i * j) (eb_take (m := 2) rfl eb_c (by decide) (by decide)) (eb_take (m := 10 ^ 28) rfl (eb_ev fun _ => ev_op ev_c ev_c (rv_I ⟨by decide, by decide, by decide⟩)) (by decide) (by decide)) (fun i j hi hj H => rv_I (wide_mul (a := 4) (b := 100) (by omega) (Nat.lt_of_le_of_lt (by omega : j.natAbs ≤ 10 ^ 28) (by decide)) (by decide) (by decide) (by decide)))) (fun _ _ _ _ _ => rv_I0)) fun f hf => ?_) (BgR.refl hb) (by omega) fun f H1 ⟨f1, f2⟩ r1 => ?_
    · obtain ⟨i, j, rfl, ⟨u, v, hu, hv, rfl⟩, rfl⟩ := hf
      have : u = 0 ∨ u = 1 := by omega
      rcases this with rfl | rfl <;> omega
    have fw : f.natAbs < 2 ^ 100 := Nat.lt_of_le_of_lt (by omega : f.natAbs ≤ 10 ^ 28 + 1) (by decide)
    dsimp only [tSeq]
    refine s_par ?_
    refine eb_op (b := b) (H := H) (f := fun i j => i + j) eb_c (eb_take (m := 9) rfl eb_c (by decide) (by decide)) (fun _ _ _ _ _ => rv_I0) _ H1 r1 (by omega) _ fun rm H2 r2 hrm => ?_
    obtain ⟨i0, j0, rfl, hj0, rfl⟩ := hrm
    have hroom : 2 ≤ 2 + j0 ∧ 2 + j0 ≤ 10 := by omega
    generalize 2 + j0 = room at hroom
    obtain ⟨us2, hb2⟩ := r2.bag.lst
    refine (el_lst (vs := []) ea_nil (by show 0 ≤ 100000; decide)) H2 (Ex.refl H2) _ fun R H3 nR e3 hR => ?_
    have nRb : R ≠ b := ne_of_none' nR hb2
    have nRH : H R = none := by
      cases hh : H R with
      | none => rfl
      | some o =>
        have := r2.keep R o nRb hh
        rw [nR] at this
        cases this
    dsimp only [tSeq]
    refine s_forR1 (n := m) (ea_cons (ev_var (v := .int m) rfl) ea_nil) ⟨m0, by omega⟩ (fun i σ' H' => BgR b H (k + 3 + 4 * i) H' ∧ ∃ w5 w6 w7 w8 xs rs, σ' = [some (.ref b), some (.int m), some (.int f), some (.int room), some (.ref R), w5, w6, w7, w8] ∧ H' R = some (.lst xs) ∧ Rows H' xs rs ∧ (∀ r ∈ rs, stretchR r = true) ∧ rs.length = i) (fun H4 e4 => ⟨(r2.ex e3).ex e4, none, none, none, none, [], [], rfl, e4 _ _ hR, Rows.nil, fun r hr => (by cases hr), rfl⟩) (fun i σ' H' hi hP => ?_) fun σ' H' hP => ?_
    · obtain ⟨r4, w5, w6, w7, w8, xs, rs, rfl, hRx, hrs, good, hlen⟩ := hP
      dsimp only [tSeq]
      refine sb_asg (b := b) (H := H') (eb_take (m := room) rfl (eb_var rfl) (by omega) (by omega)) (BgR.refl r4.bag) (by omega) fun lo H5 hlo r5 => ?_
      dsimp only [tSeq]
      refine sb_asg (b := b) (H := H') (p := fun h => lo ≤ h ∧ h ≤ 10) (eb_is (eb_op (f := fun i j => i + j) (eb_var rfl) (eb_op (f := fun i j => i * j) (eb_take (m := room + 1 - lo) rfl (eb_ev fun _ => ev_op (ev_op (ev_var (v := .int room) rfl) ev_c rv_I0) (ev_var (v := .int lo) rfl) rv_I0) (by omega) (by omega)) (eb_min eb_c (eb_take (m := 4) rfl eb_c (by decide) (by decide))) (fun i j hi hj H => rv_I (wide_mul (a := 10) (b := 10) (by omega) ?_ (by decide) (by decide) (by decide)))) (fun _ _ _ _ _ => rv_I0)) fun h hh => ?_) r5 (by omega) fun hi' H6 ⟨h1, h2⟩ r6 => ?_
      · obtain ⟨u, hu, rfl⟩ := hj
        split <;> omega
      · obtain ⟨i1, j1, rfl, ⟨u, v, hu, ⟨u2, hu2, rfl⟩, rfl⟩, rfl⟩ := hh
        split
        · have : u2 = 0 := by omega
          subst this
          omega
        · omega
      dsimp only [tSeq]
      refine sb_asg (b := b) (H := H') (eb_take (m := 14) rfl eb_c (by decide) (by decide)) r6 (by omega) fun kd H7 hkd r7 => ?_
      dsimp only [tSeq]
      refine s_asg (v := .int (if decide (V.int kd = V.int 1) || decide (V.int kd = V.int 3) then -(10 ^ 31) else (lo - 4) * f)) (ev_if (b := decide (V.int kd = V.int 1) || decide (V.int kd = V.int 3)) (et_or (et_test (ev_op (ev_var (v := .int kd) rfl) ev_c (rv_eq rfl))) fun _ => et_test (ev_op (ev_var (v := .int kd) rfl) ev_c (rv_eq rfl))) (fun hb => ?_) fun hb => ?_) fun H8 e8 => ?_
      · rw [if_pos hb]
        exact ev_un (ev_op ev_c ev_c (rv_I ⟨by decide, by decide, by decide⟩)) ru_neg
      · rw [if_neg (by rw [hb]; exact Bool.false_ne_true)]
        exact ev_op (ev_op (ev_var (v := .int lo) rfl) ev_c rv_I0) (ev_var (v := .int f) rfl) (rv_I (wide_mul (a := 10) (b := 100) (by omega) fw (by decide) (by decide) (by decide)))
      have ha : ((if decide (V.int kd = V.int 1) || decide (V.int kd = V.int 3) then -(10 ^ 31) else (lo - 4) * f : Int) = -(10 ^ 31) ∨ (if decide (V.int kd = V.int 1) || decide (V.int kd = V.int 3) then -(10 ^ 31) else (lo - 4) * f : Int) = (lo - 4) * f) := by split <;> simp
      generalize (if decide (V.int kd = V.int 1) || decide (V.int kd = V.int 3) then -(10 ^ 31) else (lo - 4) * f : Int) = a at ha
      have r8 := r7.ex e8
      have hR8 := r8.keep _ _ nRb hRx
      have hc : ((if decide (V.int kd = V.int 2) || decide (V.int kd = V.int 3) then 10 ^ 31 else (hi' - 4) * f : Int) = 10 ^ 31 ∨ (if decide (V.int kd = V.int 2) || decide (V.int kd = V.int 3) then 10 ^ 31 else (hi' - 4) * f : Int) = (hi' - 4) * f) := by split <;> simp
      refine s_appU hR8 (ev_var (v := .ref R) rfl) (eu_pair (ev_var (v := .int a) rfl) (ev_if (v := .int (if decide (V.int kd = V.int 2) || decide (V.int kd = V.int 3) then 10 ^ 31 else (hi' - 4) * f)) (b := decide (V.int kd = V.int 2) || decide (V.int kd = V.int 3)) (et_or (et_test (ev_op (ev_var (v := .int kd) rfl) ev_c (rv_eq rfl))) fun _ => et_test (ev_op (ev_var (v := .int kd) rfl) ev_c (rv_eq rfl))) (fun hb => ?_) fun hb => ?_)) (by rw [hrs.len, hlen]; omega) fun p H9 hp e9 h9 => ?_
      · rw [if_pos hb]
        exact ev_op ev_c ev_c (rv_I ⟨by decide, by decide, by decide⟩)
      · rw [if_neg (by rw [hb]; exact Bool.false_ne_true)]
        exact ev_op (ev_op (ev_var (v := .int hi') rfl) ev_c rv_I0) (ev_var (v := .int f) rfl) (rv_I (wide_mul (a := 10) (b := 100) (by omega) fw (by decide) (by decide) (by decide)))
      generalize (if decide (V.int kd = V.int 2) || decide (V.int kd = V.int 3) then 10 ^ 31 else (hi' - 4) * f : Int) = c at hc h9
      have r9 := r8.ex e9
      have hR9 := r9.keep _ _ nRb hRx
      have rows9 := rows_exB r4.bag r9.keep hrs
      refine ⟨(ex_bgr nRH nRb (r4.trans r9)).mono (by omega), _, _, _, _, _, rs ++ [(a, c)], rfl, upd_same, (rows_upd hR9 rows9).app (rows_upd hR9 (Rows.one h9)), fun r hr => ?_, by rw [List.length_append, hlen]; rfl⟩
      rcases List.mem_append.mp hr with hr | hr
      · exact good r hr
      · rw [List.mem_singleton.mp hr]
        exact row_ok f1 f2 hlo.1 h1 h2 ha hc
    · obtain ⟨r4, w5, w6, w7, w8, xs, rs, rfl, hRx, hrs, good, hlen⟩ := hP
      dsimp only
      refine s_ret (ev_var (v := .ref R) rfl) fun H5 e5 => q R xs rs H5 ((r4.ex e5).mono (by omega)) nRH (e5 _ _ hRx) (hrs.ext (exN e5)) good (by omega)
theorem sc__law_due : FnScope ["rows", "most", "edge", "now", "place", "later"] ["rows"] (defScope (top 38)) := ⟨rfl, rfl, rfl, by decide +kernel, rfl, by decide +kernel, by decide +kernel⟩
theorem ok__law_due (T : Fx K mg)  (F : FnP K "_law_due" (top 38) fd) : FnOk P w K mg base L2.CX0 2 (fAd K ("_law_due", none)) fd ["rows"] (spDue K) := by
  have nd := (sc__law_due).nd
  refine F.ok sc__law_due (fun vs H Q E h => ?_) (fun cdv A outer s H vs Q E hr h => ⟨_, PSs.nox (pss_cons (ps_set (i := 1) nd rfl (by first | exact .inl rfl | exact .inr rfl) (pe_callB (cr_max rfl) rfl T.f_max (by decide +kernel) (pa_cons (pe_op op_cat (pe_lc (own := [("edge", 2), ("now", 3)]) rfl nd (pi_list (pv 0)) (blkOk_by (own := [("edge", 2), ("now", 3)]) (N := ["rows", "most", "edge", "now", "place", "later"]) (sc := defScope (top 38)) (by decide +kernel)) (fun _ _ _ _ _ => (pg_tupK (K := K) (n := 2) rfl rfl (pgs_cons (pg_name (i := 2) nd rfl (by first | exact .inl rfl | exact .inr rfl)) (pgs_cons (pg_name (i := 3) nd rfl (by first | exact .inl rfl | exact .inr rfl)) pgs_nil)))) (fun _ _ _ _ _ => pts_nil) (fun _ _ _ _ _ => (pv 3))) (pe_lst (pa_cons pe_int pa_nil))) pa_nil))) (pss_cons (ps_if (pt_cmpR op_eq (pv 1) pe_int (nomark _)) (pss_one (ps_ret (pe_tup (pa_cons pe_int (pa_cons pe_non pa_nil))))) pss_nil) (pss_cons (ps_set (i := 4) nd rfl (by first | exact .inl rfl | exact .inr rfl) (pe_bm PySem.F.plainAttrs_list PySem.F.slot_list_index PySem.F.type_list_index mt_index (pe_lc (own := [("edge", 2), ("now", 3)]) rfl nd (pi_list (pv 0)) (blkOk_by (own := [("edge", 2), ("now", 3)]) (N := ["rows", "most", "edge", "now", "place", "later"]) (sc := defScope (top 38)) (by decide +kernel)) (fun _ _ _ _ _ => (pg_tupK (K := K) (n := 2) rfl rfl (pgs_cons (pg_name (i := 2) nd rfl (by first | exact .inl rfl | exact .inr rfl)) (pgs_cons (pg_name (i := 3) nd rfl (by first | exact .inl rfl | exact .inr rfl)) pgs_nil)))) (fun _ _ _ _ _ => pts_nil) (fun _ _ _ _ _ => (pv 3))) (pa_cons (pv 1) pa_nil))) (pss_cons (ps_setLc (i := 5) (own := [("edge", 2), ("now", 3)]) rfl nd rfl rfl (sw_true rfl rfl rfl (by decide +kernel)) (pi_list (pe_slice sl_list (pv 0) (po_some (pv 4)) po_none)) (blkOk_by (own := [("edge", 2), ("now", 3)]) (N := ["rows", "most", "edge", "now", "place", "later"]) (sc := defScope (top 38)) (by decide +kernel)) (fun _ _ _ _ _ => (pg_tupK (K := K) (n := 2) rfl rfl (pgs_cons (pg_name (i := 2) nd rfl (by first | exact .inl rfl | exact .inr rfl)) (pgs_cons (pg_name (i := 3) nd rfl (by first | exact .inl rfl | exact .inr rfl)) pgs_nil)))) (fun _ _ _ _ _ => (pts_one (pt_cmpR op_lt (pv 3) (pv 1) (nomark _)))) (fun _ _ _ _ _ => (pv 2))) (pss_one (ps_ret (pe_tup (pa_cons (pv 1) (pa_cons (pe_tup (pa_cons (pe_ix ix_tup (pe_ix ix_list (pv 0) (pv 4) (fun _ _ => rfl)) pe_int (fun _ _ => rfl)) (pa_cons (pe_ix ix_list (pv 5) pe_int (fun _ _ => rfl)) (pa_cons (pv 1) pa_nil)))) pa_nil))))))))), ?_⟩)
  · obtain ⟨a, xs, rd, rfl, _⟩ := h; rfl
  · obtain ⟨a, xs, rd, rfl, hx, hro, few, hf, q⟩ := h
    have lenX : xs.length ≤ 2000 := by rw [hro.len]; exact few
    have lc : ∀ (y1 y2 : Option V) {tl : TE} H1, Ex H H1 → EvL (tLc (iList K (tVar 0)) (gTup K 2 (gCons (gName 2) (gCons (gName 3) gNil))) tYes (tVar 3) [2, 3]) [some (.ref a), y1, none, none, y2, none] H1 ((rd.map (·.2)).map V.int) := fun y1 y2 _ H1 e1 => by
      have := el_lcR (K := K) (te := tVar 3) (tt := tYes) (tl := tVar 0) (σ := [some (.ref a), y1, none, none, y2, none]) (H := H1) (i := 2) (j := 3) (fun r => .int r.2) (fun _ => true) (es_ev (ev_var rfl) (ex_l e1 hx)) (hro.ext (exN e1)) (by omega) (fun _ _ => rfl) (fun r H' => et_yes) (fun r H' => ev_var rfl)
      rw [List.filter_eq_self.mpr (fun _ _ => rfl)] at this
      rw [List.map_map]
      exact this
    dsimp only [tSeq]
    refine s_asg (ev_most0 few (lc none none (tl := tVar 0) H (Ex.refl H))) fun H1 e1 => ?_
    dsimp only [tSeq]
    refine s_if (b := decide (V.int (mostOf rd) = V.int 0)) (et_test (ev_op (ev_var (v := .int (mostOf rd)) rfl) ev_c (rv_eq rfl))) (fun hb H2 e2 => ?_) fun hb H2 e2 => ?_
    · have h0 : mostOf rd = 0 := by simpa using hb
      refine s_retU (eu_pair ev_c ev_c) fun p H3 _ e3 hp => q p H3 ((e1.trans e2).trans e3) (dp_due (v := .non) (by rw [h0]; exact hp) ?_)
      show IsPeak _ _ (peakGo (mostOf rd) none rd)
      rw [h0, peak_zero]
      rfl
    have hn : mostOf rd ≠ 0 := by simpa using hb
    obtain ⟨j, r, hj, hr2, hbef⟩ := first_most hn
    obtain ⟨e, es, hlate, hpk⟩ := due_fall hf hn hj hr2 hbef
    show tSeq _ _ _ _ _
    dsimp only [tSeq]
    have e12 := e1.trans e2
    refine s_asg (v := .int (j : Nat)) (fun G0 g0 Q0 k0 => (lc (some (.int (mostOf rd))) none (tl := tVar 0) G0 (e12.trans g0)) G0 (Ex.refl G0) _ fun D G1 _ g1 hD => ⟨.inl ⟨rfl, _, SqL.of hD⟩, _, rfl, D, _, _, j, .int r.2, rfl, rfl, SqL.of hD, rfl, by simp [flatV], ?_, ?_, fun i z hi hz => ?_, k0 G1 g1⟩) fun H3 e3 => ?_
    · rw [List.getElem?_map, List.getElem?_map, hj]
      rfl
    · rw [hr2]
      exact beq_self_eq_true _
    · rw [List.getElem?_map, List.getElem?_map] at hz
      cases hq : rd[i]? with
      | none => rw [hq] at hz; cases hz
      | some r' =>
        rw [hq] at hz
        cases hz
        exact beq_eq_false_iff_ne.mpr (hbef i r' hi hq)
    dsimp only [tSeq]
    have e13 := e12.trans e3
    have slice : EvS K (tSl (rSlL K) (tVar 0) (tPart (tVar 4)) tNoPart) [some (.ref a), some (.int (mostOf rd)), none, none, some (.int (j : Nat)), none] H3 (xs.drop j) := by
      rw [← cut_drop]
      exact es_el (el_sl (ev_var rfl) (eo_some (ev_var rfl)) eo_none (ex_l e13 hx))
    refine s_asgL (xs := ((rd.drop j).filter fun r : Int × Int => decide (r.2 < mostOf rd)).map fun r : Int × Int => V.int r.1) (el_lcR (K := K) (te := tVar 2) (tt := tTest (tOp (rI0 fun i j => V.bl (decide (i < j))) (tVar 3) (tVar 1))) (i := 2) (j := 3) (fun r : Int × Int => .int r.1) (fun r : Int × Int => decide (r.2 < mostOf rd)) slice (rows_drop (hro.ext (exN e13)) j) (by rw [List.length_drop]; omega) (fun _ _ => rfl) (fun r H' => et_test (ev_op (ev_var (v := .int r.2) rfl) (ev_var (v := .int (mostOf rd)) rfl) rv_I0)) (fun r H' => ev_var rfl)) fun L H4 _ e4 hL => ?_
    obtain ⟨t, ht, htt⟩ := hro.of_at hj
    have e14 := e13.trans e4
    have hL2 : H4 L = some (.lst ((e :: es).map V.int)) := by
      rw [← hlate, List.map_map]
      exact hL
    dsimp only
    refine tRet_due (K := K) hpk (ev_var (v := .int (mostOf rd)) rfl) (ev_op (ev_op (ev_var (v := .ref a) rfl) (ev_var (v := .int (j : Nat)) rfl) (rv_ixL (ex_l e14 hx) (atI_nat ht))) ev_c (rv_ixT (SqT.of (e14 _ _ htt)) rfl)) (ev_op (ev_var (v := .ref L) rfl) ev_c (rv_ixL (SqL.of hL2) (atI_nat (j := 0) rfl))) (ev_var (v := .int (mostOf rd)) rfl) fun p H5 e5 hp => q p H5 (e14.trans e5) hp
theorem sc__law_sweep : FnScope ["opts"] ["opts"] (defScope (top 36)) := ⟨rfl, rfl, rfl, by decide +kernel, rfl, by decide +kernel, by decide +kernel⟩
theorem ok__law_sweep (T : Fx K mg) (G : SwM P w K mg base) (F : FnP K "_law_sweep" (top 36) fd) : FnOk P w K mg base L2.CX0 4 (fAd K ("_law_sweep", none)) fd ["opts"] (spLawSweep K) := by
  have nd := (sc__law_sweep).nd
  refine F.ok sc__law_sweep (fun vs H Q E h => ?_) (fun cdv A outer s H vs Q E hr h => ⟨_, PSs.nox (pss_one (ps_ret (pe_swK G hr rfl (pk_cons (pe_ix ix_tup (pv 0) pe_int (fun _ _ => rfl)) (pk_cons (pe_ix ix_tup (pv 0) pe_int (fun _ _ => rfl)) (pk_cons (pe_ix ix_tup (pv 0) pe_int (fun _ _ => rfl)) (pk_cons (pe_ix ix_tup (pv 0) pe_int (fun _ _ => rfl)) (pk_cons (pe_ix ix_tup (pv 0) pe_int (fun _ _ => rfl)) (pk_cons (pe_ix ix_tup (pv 0) pe_int (fun _ _ => rfl)) pk_nil))))))))), ?_⟩)
  · obtain ⟨p, o, rfl, _⟩ := h; rfl
  · obtain ⟨p, o, rfl, hp, ok, q⟩ := h
    exact mk_sw (K := K) (o := o) (ea_cons (ev_ixT (ev_var rfl) hp rfl) (ea_cons (ev_ixT (ev_var rfl) hp rfl) (ea_cons (ev_ixT (ev_var rfl) hp rfl) (ea_cons (ev_ixT (ev_var rfl) hp rfl) (ea_cons (ev_ixT (ev_var rfl) hp rfl) (ea_cons (ev_ixT (ev_var rfl) hp rfl) ea_nil)))))) ok q
theorem sc_law : FnScope ["script", "at", "bag", "sweep", "many", "rows", "others", "told", "due"] ["script"] (defScope (top 39)) := ⟨rfl, rfl, rfl, by decide +kernel, rfl, by decide +kernel, by decide +kernel⟩
theorem ok_law (T : Fx K mg) (cl : Cls K (swC K)) (GS : SwM P w K mg base) (G_call : KnC P w K mg base 11 (swC K) (spMost K (swC K) (TT K))) (G_readings : KnY P w K mg base 8 (swC K) "readings" (spReads K (swC K) (TT K))) (G_peak : KnM P w K mg base 13 (swC K) "peak" (spPeak K (swC K) (TT K))) (G__law_bag : Kn P w K mg base 2 "_law_bag" (spBag K))(G__law_take : Kn P w K mg base 2 "_law_take" spTake)(G__law_options : Kn P w K mg base 3 "_law_options" spOptions)(G__law_sweep : Kn P w K mg base 4 "_law_sweep" (spLawSweep K))(G__law_rows : Kn P w K mg base 3 "_law_rows" spRows)(G__law_due : Kn P w K mg base 2 "_law_due" (spDue K)) (F : FnP K "law" (top 39) fd) (outer : List Env) (s : Shared) (H : Hp) (args : Args) (us : List Value) (vs : List V) (Q : VK) (E : XK) (e0 : Env0 P w K mg base callerA outer s H) (hb : BindsTo s fd args ((["script"] : List Str).zip us)) (r : Vals vs us) (hsp : (spLawT K (TT K)) vs H Q E) :
    codeAny (model P w) callerA (.call (.ref (fAd K ("law", none))) args) (CR C8.CX0 outer P w H s Q E) s := by
  have nd := (sc_law).nd
  refine at_caller (k := 13) F sc_law (fun vs H Q E h => ?_) (fun cdv X outer s H vs Q E eX hgd hr h => ?_) ⟨rfl, by decide, by decide⟩ outer s H args us vs Q E e0 hb r hsp
  · obtain ⟨a, ns, rfl, _⟩ := h; rfl
  subst eX
  refine ⟨_, PSs.nox (pss_cons (ps_if (pt_cmpR op_ne (pe_callB (cr_repr hgd) rfl T.f_repr (by decide +kernel) (pa_cons (pe_tup (pa_cons (pe_knc (pe_sw0 GS hr rfl) G_call hr (pa_cons (pe_lst pa_nil) pa_nil)) (pa_cons (pe_knm (pe_sw0 GS hr rfl) cl G_peak hr (pa_cons (pe_lst pa_nil) pa_nil)) pa_nil))) pa_nil)) pe_str (nomark _)) (pss_one (ps_ret pe_bl)) pss_nil) (pss_cons (ps_for PassesOwn.never rfl (pi_range1 rfl T.f_range (pa_cons (pe_callB (call_max2 rfl) rfl T.f_max (by decide +kernel) (pa_cons pe_int (pa_cons (pe_callB (call_min2 rfl) rfl T.f_min (by decide +kernel) (pa_cons (pe_callB call_len_seq rfl T.f_len (by decide +kernel) (pa_cons (pv 0) pa_nil)) (pa_cons pe_int pa_nil))) pa_nil))) pa_nil)) (pg_name (i := 1) nd rfl (by first | exact .inl rfl | exact .inr rfl)) (pss_cons (ps_set (i := 2) nd rfl (by first | exact .inl rfl | exact .inr rfl) (pe_kn G__law_bag hr rfl (pa_cons (pv 0) (pa_cons (pv 1) pa_nil)))) (pss_cons (ps_par (i := 3) (j := 4) rfl nd rfl rfl (by decide) rfl rfl (pa_cons (pe_kn G__law_sweep hr rfl (pa_cons (pe_kn G__law_options hr rfl (pa_cons (pv 2) pa_nil)) pa_nil)) (pa_cons (pe_kn G__law_take hr rfl (pa_cons (pv 2) (pa_cons pe_int pa_nil))) pa_nil)) (by rfl)) (pss_cons (ps_if (PW.pt (pw_and (pt_cmpR op_eq (pv 1) pe_int (nomark _)) (pw_and1 (pt_cmpR op_eq (pe_kn G__law_take hr rfl (pa_cons (pv 2) (pa_cons pe_int pa_nil))) pe_int (nomark _))))) (pss_one (ps_set (i := 4) nd rfl (by first | exact .inl rfl | exact .inr rfl) (pe_op op_add pe_int (pe_kn G__law_take hr rfl (pa_cons (pv 2) (pa_cons pe_int pa_nil)))))) pss_nil) (pss_cons (ps_par (i := 5) (j := 6) rfl nd rfl rfl (by decide) rfl rfl (pa_cons (pe_kn G__law_rows hr rfl (pa_cons (pv 2) (pa_cons (pv 4) pa_nil))) (pa_cons (pe_kn G__law_rows hr rfl (pa_cons (pv 2) (pa_cons pe_int pa_nil))) pa_nil)) (by rfl)) (pss_cons (ps_set (i := 7) nd rfl (by first | exact .inl rfl | exact .inr rfl) (pe_listY rfl (pgy_kn (pv 3) cl G_readings hr (pa_cons (pv 5) pa_nil)) (hr.mono (by decide)) rfl T.f_list (by decide +kernel))) (pss_cons (ps_set (i := 8) nd rfl (by first | exact .inl rfl | exact .inr rfl) (pe_kn G__law_due hr rfl (pa_cons (pv 7) pa_nil))) (pss_cons (ps_if (pt_cmpR op_ne (pe_callB (cr_repr hgd) rfl T.f_repr (by decide +kernel) (pa_cons (pe_tup (pa_cons (pe_knc (pv 3) G_call hr (pa_cons (pv 5) pa_nil)) (pa_cons (pe_knm (pv 3) cl G_peak hr (pa_cons (pv 5) pa_nil)) pa_nil))) pa_nil)) (pe_callB (cr_repr hgd) rfl T.f_repr (by decide +kernel) (pa_cons (pv 8) pa_nil)) (nomark _)) (pss_one (ps_ret pe_bl)) pss_nil) (pss_cons (ps_if (pt_cmpR op_ne (pe_callB (cr_repr hgd) rfl T.f_repr (by decide +kernel) (pa_cons (pe_tup (pa_cons (pe_knc (pv 3) G_call hr (pa_cons (pv 6) pa_nil)) (pa_cons (pe_knm (pv 3) cl G_peak hr (pa_cons (pv 6) pa_nil)) pa_nil))) pa_nil)) (pe_callB (cr_repr hgd) rfl T.f_repr (by decide +kernel) (pa_cons (pe_kn G__law_due hr rfl (pa_cons (pe_listY rfl (pgy_kn (pv 3) cl G_readings hr (pa_cons (pv 6) pa_nil)) (hr.mono (by decide)) rfl T.f_list (by decide +kernel)) pa_nil)) pa_nil)) (nomark _)) (pss_one (ps_ret pe_bl)) pss_nil) (pss_one (ps_if (pt_cmpR op_ne (pe_callB (cr_repr hgd) rfl T.f_repr (by decide +kernel) (pa_cons (pe_tup (pa_cons (pe_knc (pv 3) G_call hr (pa_cons (pe_callTy call_tuple_of rfl T.f_tuple (by decide +kernel) (pa_cons (pv 5) pa_nil)) pa_nil)) (pa_cons (pe_knm (pv 3) cl G_peak hr (pa_cons (pe_callTy call_tuple_of rfl T.f_tuple (by decide +kernel) (pa_cons (pv 5) pa_nil)) pa_nil)) pa_nil))) pa_nil)) (pe_callB (cr_repr hgd) rfl T.f_repr (by decide +kernel) (pa_cons (pv 8) pa_nil)) (nomark _)) (pss_one (ps_ret pe_bl)) pss_nil))))))))))) (pss_one (ps_ret pe_bl)))), ?_⟩
  · obtain ⟨a, ns, rfl, hs, hT, q⟩ := h
    dsimp only [tSeq]
    refine sh_ne (T := TT K) hT (show ShN (TT K) _ _ H (dueD (readingsOf o0 [])).shown from sh_pair hr obj_new obj_new arg_nil arg_nil o0_ok Rows.nil (fun r hr => by cases hr) (by decide)) (show ShN (TT K) _ _ H (dueD (readingsOf o0 [])).shown from by rw [due0]; exact sh_c) fun H1 e1 T1 => ?_
    have hs1 := sqL_ext e1 hs
    obtain ⟨n, hn, hnv⟩ := ea_turns (K := K) (σ := [some (.ref a), none, none, none, none, none, none, none, none]) (j := 0) rfl hs1
    refine s_forR1 (n := n) hnv ⟨hn.1, by omega⟩ (fun i σ' H' => ExtN H1 H' ∧ Tabs (TT K) H' ∧ ∃ w1 w2 w3 w4 w5 w6 w7 w8, σ' = [some (.ref a), w1, w2, w3, w4, w5, w6, w7, w8]) (fun H2 e2 => ⟨exN e2, Tabs.ext T1 e2, _, _, _, _, _, _, _, _, rfl⟩) (fun i σ' H2 hi hP => ?_) fun σ' H' hP => ?_
    · obtain ⟨e2, T2, w1, w2, w3, w4, w5, w6, w7, w8, rfl⟩ := hP
      have hs2 := sqL_ext e2 hs1
      dsimp only [tSeq]
      refine call2 (ev_var (v := .ref a) rfl) (ev_var (v := .int (i : Nat)) rfl) fun H3 e3 => ⟨a, i, ns, rfl, by omega, by omega, ex_l e3 hs2, fun b H4 e4 nb hb => ?_⟩
      have nb2 : New H2 b := New.of_none (fresh_back e3 nb)
      have e34 := e3.trans e4
      dsimp only [gName]
      refine s_par ?_
      refine ⟨.ref b, rfl, b, 0, rfl, hb, by decide, fun p o H5 r5 hp ok => ⟨p, o, rfl, SqT.of hp, ok, fun x H6 e6 nx sw => ?_⟩⟩
      have r6 := r5.ex e6
      refine eb_take (b := b) (H := H6) rfl eb_c (by decide) (by decide) (0 + 6) H6 (BgR.refl r6.bag) (by decide) _ fun m0 H7 r7 hm0 => ?_
      dsimp only [tSeq]
      refine many_if (b := b) (H := H6) (j := 4) (m0 := m0) rfl rfl rfl ⟨hm0.1, by omega⟩ r7 (by decide) fun mn H8 mn0 mnl r8 => ?_
      dsimp only [tSeq]
      refine s_par ?_
      refine call2 (ev_var (v := .ref b) rfl) (ev_var (v := .int mn) rfl) fun H9 e9 => ?_
      have r9 := r8.ex e9
      refine ⟨b, mn, _, rfl, r9.bag, ⟨mn0, mnl⟩, by decide, fun ra xa rs H10 r10 na ha hra ga fa => ?_⟩
      refine call2 (ev_var (v := .ref b) rfl) (ev_c (v := .int 4)) fun H11 e11 => ?_
      have r11 := r10.ex e11
      refine ⟨b, 4, _, rfl, r11.bag, ⟨by decide, by decide⟩, by decide, fun rb xb rt H12 r12 nb' hb' hrb gb fb => ?_⟩
      dsimp only [tSeq]
      have nab : ra ≠ b := fun z => by
        obtain ⟨us, hu⟩ := r9.bag.lst
        rw [z, hu] at na
        cases na
      have ha11 := e11 _ _ ha
      have ha12 := r12.keep _ _ nab ha11
      have hra12 := rows_exB r11.bag r12.keep (hra.ext (exN e11))
      have sw12 : SwAt (swC K) H12 x o := sw_exB r6.bag (((r9.trans r10).ex e11).trans r12).keep sw
      have e2_4 : ExtN H2 H4 := exN e34
      have k412 : ExB b H4 H12 := ((r6.trans ((r9.trans r10).ex e11)).trans r12).keep
      have e2_12 : ExtN H2 H12 := ExB.ext nb2 e2_4 k412
      have T12 : Tabs (TT K) H12 := tabs_exB hb k412 (Tabs.ext T2 e34)
      have g12 : Good K (swC K) (TT K) H12 x ra o xa rs := ⟨sw12, ok, .inl (SqL.of ha12), hra12, ga, by omega, T12⟩
      dsimp only [tAsg]
      refine listY_of (K := K) (C := swC K) (T := TT K) (x := x) (l := ra) (o := o) (xs := xa) (rs := rs) (ta := tVar 3) (tl := tVar 5) (ev_var rfl) (ev_var rfl) g12 fun S H13 ys e13 T13 nS hS hR => ?_
      dsimp only [gName, tSeq]
      refine call1 (ev_var (v := .ref S) rfl) fun H14 e14 => ⟨S, ys, _, rfl, SqL.of (e14 _ _ hS), hR.ext (exN e14), Nat.le_trans (reads_len o rs) (by omega), reads_falls o rs, fun pd H15 e15 hd => ?_⟩
      have e12_15 : ExtN H12 H15 := e13.trans (exN (e14.trans e15))
      have T15 := Tabs.ext T13 (e14.trans e15)
      have bnd := reads_bound (o := o) ga (by omega)
      dsimp only [gName, tSeq]
      refine sh_ne (T := TT K) T15 (s := (dueD (readingsOf o rs)).shown) (sh_pair hr (obj_var rfl (sw12.ext e12_15)) (obj_var rfl (sw12.ext e12_15)) (arg_var rfl (.inl (sqL_ext e12_15 (SqL.of ha12)))) (arg_var rfl (.inl (sqL_ext e12_15 (SqL.of ha12)))) ok (hra12.ext e12_15) ga (by omega)) (sh_due hr rfl bnd hd) fun H16 e16 T16 => ?_
      have e12_16 := e12_15.trans e16
      dsimp only [tSeq]
      refine sh_ne (T := TT K) T16 (s := (dueD (readingsOf o rt)).shown) (sh_pair hr (obj_var rfl (sw12.ext e12_16)) (obj_var rfl (sw12.ext e12_16)) (arg_var rfl (.inl (sqL_ext e12_16 (SqL.of hb')))) (arg_var rfl (.inl (sqL_ext e12_16 (SqL.of hb')))) ok (hrb.ext e12_16) gb (by omega)) (sh_dueL hr rfl rfl (sw12.ext e12_16) (sqL_ext e12_16 (SqL.of hb')) ok (hrb.ext e12_16) gb (by omega)) fun H17 e17 T17 => ?_
      have e12_17 := e12_16.trans e17
      refine sh_ne (T := TT K) T17 (s := (dueD (readingsOf o rs)).shown) (sh_pair hr (obj_var rfl (sw12.ext e12_17)) (obj_var rfl (sw12.ext e12_17)) (arg_tup rfl (sqL_ext e12_17 (SqL.of ha12))) (arg_tup rfl (sqL_ext e12_17 (SqL.of ha12))) ok (hra12.ext e12_17) ga (by omega)) (sh_due hr rfl bnd (dp_ext (e16.trans e17) hd)) fun H18 e18 T18 => ?_
      exact ⟨e2.trans (e2_12.trans (e12_17.trans e18)), T18, _, _, _, _, _, _, _, _, rfl⟩
    · obtain ⟨e2, T2, w1, w2, w3, w4, w5, w6, w7, w8, rfl⟩ := hP
      dsimp only
      refine s_ret (v := .bl true) ev_c fun H3 _ => ?_
      exact q H3
end
end S70

namespace S70
open PySem PySem.Spec PyProof.Rows L2 LamX NdefX Evl He Gx
abbrev dfn (x : Str) (i : Nat) : He.DefD := ⟨(x, none), x, x, defArgs (top i), defBody (top i), defScope (top i), [], []⟩
def dInit : He.DefD := ⟨("Sweep", some "__init__"), "__init__", "Sweep.__init__", defArgs (inClass (top 31) 0), defBody (inClass (top 31) 0), defScope (inClass (top 31) 0), [], [("order", .str "any"), ("ties", .str "ends"), ("settles", .bl false), ("skips", .bl false), ("glues", .bl false), ("drops", .bl false)]⟩
def dChanges : He.DefD := ⟨("Sweep", some "changes"), "changes", "Sweep.changes", defArgs (inClass (top 31) 5), defBody (inClass (top 31) 5), defScope (inClass (top 31) 5), [], []⟩
def dReadings : He.DefD := ⟨("Sweep", some "readings"), "readings", "Sweep.readings", defArgs (inClass (top 31) 6), defBody (inClass (top 31) 6), defScope (inClass (top 31) 6), [], []⟩
def dCall : He.DefD := ⟨("Sweep", some "__call__"), "__call__", "Sweep.__call__", defArgs (inClass (top 31) 7), defBody (inClass (top 31) 7), defScope (inClass (top 31) 7), [], []⟩
def dPeak : He.DefD := ⟨("Sweep", some "peak"), "peak", "Sweep.peak", defArgs (inClass (top 31) 8), defBody (inClass (top 31) 8), defScope (inClass (top 31) 8), [], []⟩
def fn : List He.DefD := [(dfn "is_integer" 11), (dfn "is_near" 12), (dfn "is_edge" 13), (dfn "is_pair" 14), (dfn "is_stretch" 15), (dfn "check_spans" 16), (dfn "is_word" 21), (dfn "is_one_of" 30), (dfn "read_by" 22), (dfn "check_items" 24), (dfn "rank_of" 6), (dfn "sort_items" 25), dInit, dChanges, dReadings, dCall, dPeak, (dfn "_law_bag" 33), (dfn "_law_take" 34), (dfn "_law_options" 35), (dfn "_law_sweep" 36), (dfn "_law_rows" 37), (dfn "_law_due" 38), (dfn "law" 39)]
def fa : List He.Fa := [.free "isinstance", .free "len", .free "int", .free "bool", .free "tuple", .free "str", .free "list", .free "enumerate", .free "range", .free "abs", .free "max", .free "min", .free "sum", .free "sorted", .free "repr", .free "set", .int "FIRST" (-(10 ^ 31)), .int "LAST" (10 ^ 31), .int "MOST" (10 ^ 30), .glo "SPAN_ORDERS", .glo "EVENT_ORDERS", .glo "ORDERS_loops", .glo "ORDERS_sweeps", .glo "TIES", .glo "SIGNS", .cls "Sweep", .noat "Sweep" "order", .noat "Sweep" "ties", .noat "Sweep" "settles", .noat "Sweep" "skips", .noat "Sweep" "glues", .noat "Sweep" "drops", .glo "is_integer", .glo "is_near", .glo "is_edge", .glo "is_pair", .glo "is_stretch", .glo "check_spans", .glo "is_word", .glo "is_one_of", .glo "read_by", .glo "check_items", .glo "rank_of", .glo "sort_items", .glo "Sweep", .mkr "Sweep", .meth "Sweep" "changes", .meth "Sweep" "readings", .meth "Sweep" "peak", .glo "_law_bag", .glo "_law_take", .glo "_law_options", .glo "_law_sweep", .glo "_law_rows", .glo "_law_due", .glo "law"]
def tf : List He.Defn := [("sort_items", none), ("Sweep", some "changes")]
def ts : List He.Tab := [(fun K => ga K "SIGNS", ["ends", "begins", "list"])]
def exB (K : PySem.W.Frag) : Bool := tupB K "SPAN_ORDERS" ["any", "begin", "begin end", "begin back", "end", "end begin", "end back"] && (tupB K "EVENT_ORDERS" ["at", "at in", "at out"] && (tupB K "ORDERS_loops" ["any", "begin", "begin end", "begin back", "end", "end begin", "end back", "at", "at in", "at out"] && (tupB K "ORDERS_sweeps" ["any", "begin", "begin end", "begin back", "end", "end begin", "end back"] && (tupB K "TIES" ["ends", "begins", "list"] && (dictIntB K "SIGNS" "ends" (1) && (dictIntB K "SIGNS" "begins" (-1) && (dictIntB K "SIGNS" "list" (0) && (decide ((cT K ("sort_items", none)).2 ≠ (cT K ("Sweep", some "changes")).2) && (decide (PySem.W.findIn K (.ref (ga K "Sweep")) "__call__" = some (some (.ref (fAd K ("Sweep", some "__call__"))))) && (PySem.W.isFn K (.ref (fAd K ("Sweep", some "__call__"))) && (PySem.W.fnIn K (fAd K ("Sweep", some "__call__")))))))))))))
theorem exB_all {K : PySem.W.Frag} (h : exB K = true) : tupB K "SPAN_ORDERS" ["any", "begin", "begin end", "begin back", "end", "end begin", "end back"] = true ∧ tupB K "EVENT_ORDERS" ["at", "at in", "at out"] = true ∧ tupB K "ORDERS_loops" ["any", "begin", "begin end", "begin back", "end", "end begin", "end back", "at", "at in", "at out"] = true ∧ tupB K "ORDERS_sweeps" ["any", "begin", "begin end", "begin back", "end", "end begin", "end back"] = true ∧ tupB K "TIES" ["ends", "begins", "list"] = true ∧ dictIntB K "SIGNS" "ends" (1) = true ∧ dictIntB K "SIGNS" "begins" (-1) = true ∧ dictIntB K "SIGNS" "list" (0) = true ∧ decide ((cT K ("sort_items", none)).2 ≠ (cT K ("Sweep", some "changes")).2) = true ∧ decide (PySem.W.findIn K (.ref (ga K "Sweep")) "__call__" = some (some (.ref (fAd K ("Sweep", some "__call__"))))) = true ∧ PySem.W.isFn K (.ref (fAd K ("Sweep", some "__call__"))) = true ∧ PySem.W.fnIn K (fAd K ("Sweep", some "__call__")) = true := by
  unfold exB at h
  obtain ⟨a0, h⟩ := He.ba h
  obtain ⟨a1, h⟩ := He.ba h
  obtain ⟨a2, h⟩ := He.ba h
  obtain ⟨a3, h⟩ := He.ba h
  obtain ⟨a4, h⟩ := He.ba h
  obtain ⟨a5, h⟩ := He.ba h
  obtain ⟨a6, h⟩ := He.ba h
  obtain ⟨a7, h⟩ := He.ba h
  obtain ⟨a8, h⟩ := He.ba h
  obtain ⟨a9, h⟩ := He.ba h
  obtain ⟨a10, h⟩ := He.ba h
  exact ⟨a0, a1, a2, a3, a4, a5, a6, a7, a8, a9, a10, h⟩
theorem kept {w : World} {K : PySem.W.Frag} {h : Heap} {mg : Str → Option Value} {f : Addr} (X : K.In h) (G : h.Ns mainGlobals mg) (hfa : mg "law" = some (.ref f)) (c : He.SaysX fa fn ts tf exB w h K) : LawFirst PySem.Challenge.rw_spanloops_k70_greatest_and_peak w K 63 mg f h := by
  refine ⟨[cT K ("sort_items", none), cT K ("Sweep", some "changes")], fun p hp => ?_, fun p hp => ?_, fun p hp => ?_, fun base H t a ns XB GB hTB e0 hH hs hl _ => ?_⟩
  · rcases List.mem_cons.mp hp with rfl | hp
    · exact c.empty _ List.mem_cons_self
    · rw [List.mem_singleton.mp hp]
      exact c.empty _ (List.mem_cons_of_mem _ List.mem_cons_self)
  · rcases List.mem_cons.mp hp with rfl | hp
    · exact c.out _ List.mem_cons_self
    · rw [List.mem_singleton.mp hp]
      exact c.out _ (List.mem_cons_of_mem _ List.mem_cons_self)
  · rcases List.mem_cons.mp hp with rfl | hp
    · exact PySem.W.codeHd_of_K X (c.hd _ List.mem_cons_self)
    · rw [List.mem_singleton.mp hp]
      exact PySem.W.codeHd_of_K X (c.hd _ (List.mem_cons_of_mem _ List.mem_cons_self))
  have TB1 := hTB _ List.mem_cons_self
  have TB2 := hTB _ (List.mem_cons_of_mem _ List.mem_cons_self)
  have H1 := hH _ List.mem_cons_self
  have H2 := hH _ (List.mem_cons_of_mem _ List.mem_cons_self)
  have e := hfa.symm.trans (He.glo_ok X G (c.t.d.fact 55 (f := .glo "law") rfl))
  cases e
  generalize hP : (PySem.Challenge.rw_spanloops_k70_greatest_and_peak).prog = P at e0 ⊢
  obtain ⟨b0, b1, b2, b3, b4, b5, b6, b7, b8, b9, b10, b11⟩ := exB_all c.more
  have T : Fx K mg := { f_isinstance := He.free_ok X G (c.t.d.fact 0 (f := .free "isinstance") rfl), f_len := He.free_ok X G (c.t.d.fact 1 (f := .free "len") rfl), f_int := He.free_ok X G (c.t.d.fact 2 (f := .free "int") rfl), f_bool := He.free_ok X G (c.t.d.fact 3 (f := .free "bool") rfl), f_tuple := He.free_ok X G (c.t.d.fact 4 (f := .free "tuple") rfl), f_str := He.free_ok X G (c.t.d.fact 5 (f := .free "str") rfl), f_list := He.free_ok X G (c.t.d.fact 6 (f := .free "list") rfl), f_enumerate := He.free_ok X G (c.t.d.fact 7 (f := .free "enumerate") rfl), f_range := He.free_ok X G (c.t.d.fact 8 (f := .free "range") rfl), f_abs := He.free_ok X G (c.t.d.fact 9 (f := .free "abs") rfl), f_max := He.free_ok X G (c.t.d.fact 10 (f := .free "max") rfl), f_min := He.free_ok X G (c.t.d.fact 11 (f := .free "min") rfl), f_sum := He.free_ok X G (c.t.d.fact 12 (f := .free "sum") rfl), f_sorted := He.free_ok X G (c.t.d.fact 13 (f := .free "sorted") rfl), f_repr := He.free_ok X G (c.t.d.fact 14 (f := .free "repr") rfl), f_set := He.free_ok X G (c.t.d.fact 15 (f := .free "set") rfl), g_FIRST := He.int_ok X G (c.t.d.fact 16 (f := .int "FIRST" (-(10 ^ 31))) rfl), g_LAST := He.int_ok X G (c.t.d.fact 17 (f := .int "LAST" (10 ^ 31)) rfl), g_MOST := He.int_ok X G (c.t.d.fact 18 (f := .int "MOST" (10 ^ 30)) rfl), g_SPAN_ORDERS := He.glo_ok X G (c.t.d.fact 19 (f := .glo "SPAN_ORDERS") rfl), g_EVENT_ORDERS := He.glo_ok X G (c.t.d.fact 20 (f := .glo "EVENT_ORDERS") rfl), g_ORDERS_loops := He.glo_ok X G (c.t.d.fact 21 (f := .glo "ORDERS_loops") rfl), g_ORDERS_sweeps := He.glo_ok X G (c.t.d.fact 22 (f := .glo "ORDERS_sweeps") rfl), g_TIES := He.glo_ok X G (c.t.d.fact 23 (f := .glo "TIES") rfl), g_SIGNS := He.glo_ok X G (c.t.d.fact 24 (f := .glo "SIGNS") rfl), t_SPAN_ORDERS := tupB_ok b0, t_EVENT_ORDERS := tupB_ok b1, t_ORDERS_loops := tupB_ok b2, t_ORDERS_sweeps := tupB_ok b3, t_TIES := tupB_ok b4, tne := of_decide_eq_true b8 }
  have cl : Cls K (swC K) := He.cls_ok (c.t.d.fact 25 (f := .cls "Sweep") rfl)
  have na : ∀ f ∈ (["order", "ties", "settles", "skips", "glues", "drops"] : List Str), NoAttr K (swC K) f := fun f hf => by
    simp only [List.mem_cons, List.not_mem_nil, or_false] at hf
    rcases hf with rfl | rfl | rfl | rfl | rfl | rfl
    · exact He.noat_ok (c.t.d.fact 26 (f := .noat "Sweep" "order") rfl)
    · exact He.noat_ok (c.t.d.fact 27 (f := .noat "Sweep" "ties") rfl)
    · exact He.noat_ok (c.t.d.fact 28 (f := .noat "Sweep" "settles") rfl)
    · exact He.noat_ok (c.t.d.fact 29 (f := .noat "Sweep" "skips") rfl)
    · exact He.noat_ok (c.t.d.fact 30 (f := .noat "Sweep" "glues") rfl)
    · exact He.noat_ok (c.t.d.fact 31 (f := .noat "Sweep" "drops") rfl)
  have hS : ∀ t ∈ tieWords, KDct K w (ga K "SIGNS") t (.int (sgn t)) := fun t ht => by
    have kd := c.t.tab 0 (t := (fun K => ga K "SIGNS", ["ends", "begins", "list"])) rfl
    simp only [tieWords, List.mem_cons, List.not_mem_nil, or_false] at ht
    rcases ht with rfl | rfl | rfl
    · exact dictIntB_ok b5 kd
    · exact dictIntB_ok b6 kd
    · exact dictIntB_ok b7 kd
  obtain ⟨fd_is_integer, F_is_integer⟩ := (c.t.d.def_ 0 (d := (dfn "is_integer" 11)) rfl)
  have k_is_integer : Kn P w K mg base 1 "is_integer" (spD K dIsInt) := kn_of F_is_integer (ok_is_integer T  F_is_integer) (He.glo_ok X G (c.t.d.fact 32 (f := .glo "is_integer") rfl)) (fun _ _ _ _ _ _ us hl => match us, hl with | [_], _ => rfl)
  obtain ⟨fd_is_near, F_is_near⟩ := (c.t.d.def_ 1 (d := (dfn "is_near" 12)) rfl)
  have k_is_near : Kn P w K mg base 1 "is_near" spNear := kn_of F_is_near (ok_is_near T  F_is_near) (He.glo_ok X G (c.t.d.fact 33 (f := .glo "is_near") rfl)) (fun _ _ _ _ _ _ us hl => match us, hl with | [_], _ => rfl)
  obtain ⟨fd_is_edge, F_is_edge⟩ := (c.t.d.def_ 2 (d := (dfn "is_edge" 13)) rfl)
  have k_is_edge : Kn P w K mg base 2 "is_edge" (spD K edgeD) := kn_of F_is_edge (ok_is_edge T k_is_integer k_is_near F_is_edge) (He.glo_ok X G (c.t.d.fact 34 (f := .glo "is_edge") rfl)) (fun _ _ _ _ _ _ us hl => match us, hl with | [_], _ => rfl)
  obtain ⟨fd_is_pair, F_is_pair⟩ := (c.t.d.def_ 3 (d := (dfn "is_pair" 14)) rfl)
  have k_is_pair : Kn P w K mg base 3 "is_pair" (spD K pairD) := kn_of F_is_pair (ok_is_pair T k_is_edge F_is_pair) (He.glo_ok X G (c.t.d.fact 35 (f := .glo "is_pair") rfl)) (fun _ _ _ _ _ _ us hl => match us, hl with | [_], _ => rfl)
  obtain ⟨fd_is_stretch, F_is_stretch⟩ := (c.t.d.def_ 4 (d := (dfn "is_stretch" 15)) rfl)
  have k_is_stretch : Kn P w K mg base 4 "is_stretch" (spD K stretchD) := kn_of F_is_stretch (ok_is_stretch T k_is_pair F_is_stretch) (He.glo_ok X G (c.t.d.fact 36 (f := .glo "is_stretch") rfl)) (fun _ _ _ _ _ _ us hl => match us, hl with | [_], _ => rfl)
  obtain ⟨fd_check_spans, F_check_spans⟩ := (c.t.d.def_ 5 (d := (dfn "check_spans" 16)) rfl)
  have k_check_spans : Kn P w K mg base 5 "check_spans" (spCheck K) := kn_of F_check_spans (ok_check_spans T k_is_stretch F_check_spans) (He.glo_ok X G (c.t.d.fact 37 (f := .glo "check_spans") rfl)) (fun _ _ _ _ _ _ us hl => match us, hl with | [_], _ => rfl)
  obtain ⟨fd_is_word, F_is_word⟩ := (c.t.d.def_ 6 (d := (dfn "is_word" 21)) rfl)
  have k_is_word : Kn P w K mg base 1 "is_word" (spWord K) := kn_of F_is_word (ok_is_word T  F_is_word) (He.glo_ok X G (c.t.d.fact 38 (f := .glo "is_word") rfl)) (fun _ _ _ _ _ _ us hl => match us, hl with | [_, _], _ => rfl)
  obtain ⟨fd_is_one_of, F_is_one_of⟩ := (c.t.d.def_ 7 (d := (dfn "is_one_of" 30)) rfl)
  have k_is_one_of : Kn P w K mg base 1 "is_one_of" (spWord K) := kn_of F_is_one_of (ok_is_one_of T  F_is_one_of) (He.glo_ok X G (c.t.d.fact 39 (f := .glo "is_one_of") rfl)) (fun _ _ _ _ _ _ us hl => match us, hl with | [_, _], _ => rfl)
  obtain ⟨fd_read_by, F_read_by⟩ := (c.t.d.def_ 8 (d := (dfn "read_by" 22)) rfl)
  have k_read_by : Kn P w K mg base 1 "read_by" spRead := kn_of F_read_by (ok_read_by T  F_read_by) (He.glo_ok X G (c.t.d.fact 40 (f := .glo "read_by") rfl)) (fun _ _ _ _ _ _ us hl => match us, hl with | [_], _ => rfl)
  obtain ⟨fd_check_items, F_check_items⟩ := (c.t.d.def_ 9 (d := (dfn "check_items" 24)) rfl)
  have k_check_items : Kn P w K mg base 5 "check_items" (spItems K) := kn_of F_check_items (ok_check_items T k_is_stretch F_check_items) (He.glo_ok X G (c.t.d.fact 41 (f := .glo "check_items") rfl)) (fun _ _ _ _ _ _ us hl => match us, hl with | [_, _], _ => rfl)
  obtain ⟨fd_rank_of, F_rank_of⟩ := (c.t.d.def_ 10 (d := (dfn "rank_of" 6)) rfl)
  have k_rank_of : Kn P w K mg base 1 "rank_of" (spRank K) := kn_of F_rank_of (ok_rank_of T  F_rank_of) (He.glo_ok X G (c.t.d.fact 42 (f := .glo "rank_of") rfl)) (fun _ _ _ _ _ _ us hl => match us, hl with | [_, _], _ => rfl)
  obtain ⟨fd_sort_items, F_sort_items⟩ := (c.t.d.def_ 11 (d := (dfn "sort_items" 25)) rfl)
  have k_sort_items : Kn P w K mg base 6 "sort_items" (spSort K (TT K)) := kn_of F_sort_items (ok_sort_items T TB1 k_is_word k_check_items k_read_by k_rank_of F_sort_items) (He.glo_ok X G (c.t.d.fact 43 (f := .glo "sort_items") rfl)) (fun _ _ _ _ _ _ us hl => match us, hl with | [_, _], _ => rfl)
  obtain ⟨fdI, FI⟩ := (c.t.d.def_ 12 (d := dInit) rfl)
  have GS : SwM P w K mg base := swM_of (He.glo_ok X G (c.t.d.fact 44 (f := .glo "Sweep") rfl)) (He.mkr_ok (c.t.d.fact 45 (f := .mkr "Sweep") rfl)) FI (ok_init T cl na k_is_one_of FI) (fun _ _ _ _ _ _ us ks l1 l2 => match us, l1, ks, l2 with | [_], _, [_, _, _, _, _, _], _ => ⟨_, _, _, _, _, _, rfl, rfl, _, _, _, _, _, _, rfl, rfl, _, _, _, _, _, _, rfl, rfl, _, _, _, _, _, _, rfl, rfl, _, _, _, _, _, _, rfl, rfl, _, _, _, _, _, _, rfl, rfl, rfl⟩) (fun _ _ _ _ _ _ us ws l1 l2 => match us, l1, ws, l2 with | [_], _, [_, _, _, _, _, _], _ => rfl)
  obtain ⟨fd_Sweep_changes, F_Sweep_changes⟩ := (c.t.d.def_ 13 (d := dChanges) rfl)
  have k_changes : KnM P w K mg base 7 (swC K) "changes" (spChanges K (swC K) (TT K)) := knm_of F_Sweep_changes (ok_Sweep_changes T cl na hS TB2 k_check_spans k_sort_items F_Sweep_changes) (He.meth_ok (c.t.d.fact 46 (f := .meth "Sweep" "changes") rfl)) (fun _ _ _ _ _ _ us hl => match us, hl with | [_, _], _ => rfl)
  obtain ⟨fd_Sweep_readings, F_Sweep_readings⟩ := (c.t.d.def_ 14 (d := dReadings) rfl)
  have k_readings : KnY P w K mg base 8 (swC K) "readings" (spReads K (swC K) (TT K)) := ⟨_, _, _, ok_readings T cl na k_changes F_Sweep_readings, He.meth_ok (c.t.d.fact 47 (f := .meth "Sweep" "readings") rfl), F_Sweep_readings.bindsN (fun _ _ _ _ _ _ us hl => match us, hl with | [_, _], _ => rfl)⟩
  obtain ⟨fd_Sweep___call__, F_Sweep___call__⟩ := (c.t.d.def_ 15 (d := dCall) rfl)
  have k_call : KnC P w K mg base 11 (swC K) (spMost K (swC K) (TT K)) := knc_of F_Sweep___call__ (ok_Sweep___call__ T cl k_readings F_Sweep___call__) ⟨of_decide_eq_true b9, b10, b11⟩ (fun _ _ _ _ _ _ us hl => match us, hl with | [_, _], _ => rfl)
  obtain ⟨fd_Sweep_peak, F_Sweep_peak⟩ := (c.t.d.def_ 16 (d := dPeak) rfl)
  have k_peak : KnM P w K mg base 13 (swC K) "peak" (spPeak K (swC K) (TT K)) := knm_of F_Sweep_peak (ok_Sweep_peak T cl k_readings F_Sweep_peak) (He.meth_ok (c.t.d.fact 48 (f := .meth "Sweep" "peak") rfl)) (fun _ _ _ _ _ _ us hl => match us, hl with | [_, _], _ => rfl)
  obtain ⟨fd__law_bag, F__law_bag⟩ := (c.t.d.def_ 17 (d := (dfn "_law_bag" 33)) rfl)
  have k__law_bag : Kn P w K mg base 2 "_law_bag" (spBag K) := kn_of F__law_bag (ok__law_bag T  F__law_bag) (He.glo_ok X G (c.t.d.fact 49 (f := .glo "_law_bag") rfl)) (fun _ _ _ _ _ _ us hl => match us, hl with | [_, _], _ => rfl)
  obtain ⟨fd__law_take, F__law_take⟩ := (c.t.d.def_ 18 (d := (dfn "_law_take" 34)) rfl)
  have k__law_take : Kn P w K mg base 2 "_law_take" spTake := kn_of F__law_take (ok__law_take T  F__law_take) (He.glo_ok X G (c.t.d.fact 50 (f := .glo "_law_take") rfl)) (fun _ _ _ _ _ _ us hl => match us, hl with | [_, _], _ => rfl)
  obtain ⟨fd__law_options, F__law_options⟩ := (c.t.d.def_ 19 (d := (dfn "_law_options" 35)) rfl)
  have k__law_options : Kn P w K mg base 3 "_law_options" spOptions := kn_of F__law_options (ok__law_options T k__law_take F__law_options) (He.glo_ok X G (c.t.d.fact 51 (f := .glo "_law_options") rfl)) (fun _ _ _ _ _ _ us hl => match us, hl with | [_], _ => rfl)
  obtain ⟨fd__law_sweep, F__law_sweep⟩ := (c.t.d.def_ 20 (d := (dfn "_law_sweep" 36)) rfl)
  have k__law_sweep : Kn P w K mg base 4 "_law_sweep" (spLawSweep K) := kn_of F__law_sweep (ok__law_sweep T GS F__law_sweep) (He.glo_ok X G (c.t.d.fact 52 (f := .glo "_law_sweep") rfl)) (fun _ _ _ _ _ _ us hl => match us, hl with | [_], _ => rfl)
  obtain ⟨fd__law_rows, F__law_rows⟩ := (c.t.d.def_ 21 (d := (dfn "_law_rows" 37)) rfl)
  have k__law_rows : Kn P w K mg base 3 "_law_rows" spRows := kn_of F__law_rows (ok__law_rows T k__law_take F__law_rows) (He.glo_ok X G (c.t.d.fact 53 (f := .glo "_law_rows") rfl)) (fun _ _ _ _ _ _ us hl => match us, hl with | [_, _], _ => rfl)
  obtain ⟨fd__law_due, F__law_due⟩ := (c.t.d.def_ 22 (d := (dfn "_law_due" 38)) rfl)
  have k__law_due : Kn P w K mg base 2 "_law_due" (spDue K) := kn_of F__law_due (ok__law_due T  F__law_due) (He.glo_ok X G (c.t.d.fact 54 (f := .glo "_law_due") rfl)) (fun _ _ _ _ _ _ us hl => match us, hl with | [_], _ => rfl)
  obtain ⟨fd_law, F_law⟩ := (c.t.d.def_ 23 (d := (dfn "law" 39)) rfl)
  have tb : Tabs (TT K) H := fun p hp => by
    rcases List.mem_cons.mp hp with rfl | hp
    · exact ⟨#[], H1, trivial, fun _ _ z => by cases z⟩
    · rw [List.mem_singleton.mp hp]
      exact ⟨#[], H2, trivial, fun _ _ z => by cases z⟩
  have bl := FunD.bindsA (ps := ["script"]) F_law (fun _ _ _ _ _ _ us hl => match us, hl with | [_], _ => rfl) t [.ref a] rfl
  exact ok_law T cl GS k_call k_readings k_peak k__law_bag k__law_take k__law_options k__law_sweep k__law_rows k__law_due F_law [] t H ⟨[.ref a], []⟩ [.ref a] [.ref a] _ _ e0 bl (.cons rfl .nil) ⟨a, ns, rfl, hs, tb, fun _ => rfl⟩
open PySem.W PySem.Calls
abbrev R : PySem.W.OpenRow := PySem.W.OpenLaw.row PySem.Challenge.rw_spanloops_k70_greatest_and_peak
abbrev hk : PySem.W.Hook := He.hookX 4 fa fn ts tf exB
def ob (s : PySem.W.SharedT) : He.AlX := He.obsX 4 fa fn ts tf exB (HandSHeadRun.getT s)
theorem ob_eq (s : PySem.W.SharedT) : ob s = hk.obs s.abs := He.obsX_eq (HandSHeadRun.getT_eq s)
def names1 : List Str := ["_wall", "BadItem", "BadOrder", "BadSweep", "rank_of", "FIRST", "LAST", "MOST", "is_integer", "is_near", "is_edge", "is_pair", "is_stretch", "check_spans", "SPAN_ORDERS", "EVENT_ORDERS"]
def names2 : List Str := ["ORDERS_loops", "is_word", "read_by", "is_event", "check_items", "sort_items", "ORDERS_sweeps", "TIES", "SIGNS", "is_one_of", "Sweep", "_law_bag", "_law_take", "_law_options", "_law_sweep", "_law_rows", "_law_due"]
def names : List Str := names1 ++ names2
set_option maxHeartbeats 0 in
theorem run (w : World) : HandSHeadRun.RunEq R (PySem.W.view R.prog [39]) hk ob 3000 names w := by
  refine byRow2 "special-get-raises" (P := fun w => HandSHeadRun.RunEq R (PySem.W.view R.prog [39]) hk ob 3000 names w) (fun w => ?_) (fun w => ?_) w
  · intro os
    kernel_rfl
  · intro os
    kernel_rfl
end S70
open PySem PySem.W PySem.Calls PyProof.Rows
set_option maxHeartbeats 0 in
theorem PySem.Challenge.cw_spanloops_k70_greatest_and_peak_holds : PySem.Challenge.rw_spanloops_k70_greatest_and_peak.Holds := by
  w_on; o_law
  refine HandSHeadRun.head_any (r := OpenLaw.row PySem.Challenge.rw_spanloops_k70_greatest_and_peak) (q := view (OpenLaw.row PySem.Challenge.rw_spanloops_k70_greatest_and_peak).prog [39]) (H := S70.hk) (ob := S70.ob) (M := 3000) (loose := S70.names) (d := HandSHeadRun.topDef (OpenLaw.row PySem.Challenge.rw_spanloops_k70_greatest_and_peak).prog 39) (kwd := []) S70.ob_eq
    (by kernel_rfl) (fun s => by kernel_rfl) S70.run (by kernel_rfl) (by kernel_rfl) (by kernel_rfl) (by rfl) (by first | assumption | decide +kernel) (by decide +kernel) ⟨rfl, rfl, rfl, rfl, rfl, by decide +kernel⟩ ?hw ?hc
  case hw => w_witness2
  case hc =>
    refine Gx.walk_first (l := PySem.Challenge.rw_spanloops_k70_greatest_and_peak) (n := 63) rfl (by decide) (by kernel_rfl) ?F
    intro w mg fa h Y G hmg0
    obtain ⟨K, KX, c⟩ := Y
    have hmg : mg ("law" : PySem.Str) = some (.ref fa) := by
      have e : (HandSHeadRun.topDef (OpenLaw.row PySem.Challenge.rw_spanloops_k70_greatest_and_peak).prog 39).name = ("law" : PySem.Str) := by kernel_rfl
      rw [← e]
      exact hmg0
    exact ⟨K, KX, S70.kept KX G hmg c⟩

