import PyProof.Rows.All
import Wide.All
import OpenK.AllK
import Wide.FinOn
import PySem.Challenge.RW_webnumbers_k07_whole_catalogue
import HandS.ForMost
import HandS.GenList
import HandS.ExcInit
import HandS.Defaults
import HandS.ExcIs
import KE.KExcSuper
import HandS.CallSlots
import HandS.Walk
import KE.GoesEnum
import HandS.IsInst
import HandS.TupSets
import HandS.TupAny
import HandS.WideBits
import HandS.Wide
import HandS.SetFor
import HandS.WordsExc
-- GP
set_option Elab.async false
set_option linter.all false
set_option maxRecDepth 100000
set_option maxHeartbeats 1000000
/-! A run that wakes no sleeping generator: shown by a run among poisoned ones. -/
namespace GP
open PySem

/-- asleep, and its waking is stuck -/
def psn : GenState → GenState
  | .suspended _ l c p fs cl => .suspended (fun _ => .unsupported "asleep") l c p fs cl
  | x => x
def asleep : GenState → Bool
  | .suspended .. => true
  | _ => false
theorem psn_seen (x : GenState) : (psn x).seen = x.seen := by cases x <;> rfl
theorem psn_bare (x : GenState) : (psn x).bare = x.bare := by cases x <;> rfl

theorem stuck0 {M : Model} {c : Ctx} {p : Pos} {m : String} {s s' : Shared} {e : End} (h : Runs M c p (.unsupported m) [] s e s') : False := by
  cases h
theorem stuck {M : Model} {c : Ctx} {p : Pos} {m : String} {fs : List Frame} {s s' : Shared} {e : End} (h : Runs M c p (.unsupported m) fs s e s') : False := by
  cases h with
  | segRet a b => exact stuck0 a
  | segGen a b => exact stuck0 a
  | segSuspOut hs a => exact stuck0 a
  | segSuspGen hs a hq b => exact stuck0 a

/-- no generator's mark stands among the frames of a sleeper -/
def clean : Option GenState → Prop
  | some (.suspended _ _ _ _ fs _) => splitAtGen fs = none
  | _ => True
def endClean : End → Prop
  | .susp _ _ _ _ _ _ fs => splitAtGen fs = none
  | _ => True
theorem endClean.st {e : End} (h : endClean e) : clean (some e.genState) := by
  cases e with
  | ret r => trivial
  | susp v g l k c p fs => exact h

/-- T: the true table, P: the poisoned one; those that slept in G sleep on as they were -/
structure Rel (G P T : Array GenState) : Prop where
  size : P.size = T.size
  old : G.size ≤ P.size
  at_ : ∀ i : Nat, ((∃ x, G[i]? = some x ∧ asleep x = true ∧ T[i]? = some x ∧ P[i]? = some (psn x)) ∨
    ((∀ x, G[i]? = some x → asleep x = false) ∧ T[i]? = P[i]? ∧ clean P[i]?))

theorem Rel.start (G : Array GenState) : Rel G (G.map psn) G where
  size := by simp
  old := by simp
  at_ := fun i => by
    cases h : G[i]? with
    | none => exact .inr ⟨fun x z => (by cases z), by simp [h], by simp [h, clean]⟩
    | some x =>
      cases ha : asleep x with
      | true => exact .inl ⟨x, rfl, ha, rfl, by simp [h]⟩
      | false =>
        refine .inr ⟨fun y z => by cases z; exact ha, ?_, ?_⟩
        · cases x <;> simp_all [psn, asleep]
        · cases x <;> simp_all [psn, asleep, clean]

section
variable {G P T : Array GenState} {g : Nat} {x y : GenState}
/-- a state that is no poisoned sleeper's is the true one -/
theorem Rel.get (r : Rel G P T) (h : P[g]? = some x) : (∃ z, T[g]? = some z ∧ asleep z = true ∧ x = psn z) ∨ (T[g]? = some x ∧ clean (some x) ∧ ∀ z, G[g]? = some z → asleep z = false) := by
  rcases r.at_ g with ⟨z, _, h2, h3, h4⟩ | ⟨h1, h2, h3⟩
  · rw [h4] at h
    cases h
    exact .inl ⟨z, h3, h2, rfl⟩
  · exact .inr ⟨h2.trans h, by rw [← h]; exact h3, h1⟩
theorem Rel.awake (r : Rel G P T) (h : P[g]? = some x) (ha : asleep x = false) : T[g]? = some x ∧ ∀ z, G[g]? = some z → asleep z = false := by
  rcases r.get h with ⟨z, _, h2, h3⟩ | ⟨h1, _, h2⟩
  · subst h3
    cases z <;> simp_all [psn, asleep]
  · exact ⟨h1, h2⟩
theorem Rel.set (r : Rel G P T) (hn : ∀ z, G[g]? = some z → asleep z = false) (hc : clean (some y)) : Rel G (P.setIfInBounds g y) (T.setIfInBounds g y) where
  size := by simp [r.size]
  old := by simp [r.old]
  at_ := fun i => by
    by_cases e : g = i
    · subst e
      refine .inr ⟨hn, ?_, ?_⟩
      · simp [Array.getElem?_setIfInBounds, r.size]
      · by_cases hb : g < P.size
        · simpa [Array.getElem?_setIfInBounds, hb] using hc
        · simp [Array.getElem?_setIfInBounds, hb, clean]
    · rw [Array.getElem?_setIfInBounds_ne e, Array.getElem?_setIfInBounds_ne e]
      exact r.at_ i
theorem Rel.push (r : Rel G P T) (hc : clean (some y)) : Rel G (P.push y) (T.push y) where
  size := by simp [r.size]
  old := by
    have := r.old
    simp
    omega
  at_ := fun i => by
    by_cases e : i = P.size
    · subst e
      refine .inr ⟨fun z hz => ?_, ?_, ?_⟩
      · have h1 := (Array.getElem?_eq_some_iff.mp hz).1
        have h2 := r.old
        omega
      · rw [Array.getElem?_push_size, r.size, Array.getElem?_push_size]
      · rw [Array.getElem?_push_size]; exact hc
    · have e2 : i ≠ T.size := by rw [← r.size]; exact e
      rw [Array.getElem?_push, Array.getElem?_push, if_neg e, if_neg e2]
      exact r.at_ i
end

theorem split_ret {k : Result → Sem PySem.Fin} {h : Option Value} {g : Bool} {l kp : List Value} {c : Code} {p : Pos} {fs : List Frame} (e : splitAtGen (.ret k h g l c p kp :: fs) = none) : splitAtGen fs = none := by
  have z : (splitAtGen fs).map (fun (fs, b, r) => (Frame.ret k h g l c p kp :: fs, b, r)) = none := e
  cases q : splitAtGen fs with
  | none => rfl
  | some y => rw [q] at z; cases z
theorem split_app {a b : List Frame} (ha : splitAtGen a = none) (hb : splitAtGen b = none) : splitAtGen (a ++ b) = none := by
  rw [splitAtGen_append_none _ ha, hb]
  rfl

/-- the state s with the table T -/
abbrev tab (s : Shared) (T : Array GenState) : Shared := { s with gens := T }

theorem runs_tr {M : Model} {G : Array GenState} {c : Ctx} {p : Pos} {t : Sem PySem.Fin} {fs : List Frame} {s s' : Shared} {e : End} (h : Runs M c p t fs s e s') :
    splitAtGen fs = none → ∀ T, Rel G s.gens T → ∃ T', Runs M c p t fs (tab s T) e (tab s' T') ∧ Rel G s'.gens T' ∧ endClean e := by
  induction h with
  | done => exact fun _ T r => ⟨T, .done, r, trivial⟩
  | raise => exact fun _ T r => ⟨T, .raise, r, trivial⟩
  | again q _ ih => exact fun _ T r => let ⟨T', a, b⟩ := ih rfl T r; ⟨T', .again q a, b⟩
  | rule _ ih => exact fun _ T r => let ⟨T', a, b⟩ := ih rfl T r; ⟨T', .rule a, b⟩
  | «at» _ ih => exact fun _ T r => let ⟨T', a, b⟩ := ih rfl T r; ⟨T', .at a, b⟩
  | load ho _ ih => exact fun _ T r => let ⟨T', a, b⟩ := ih rfl T r; ⟨T', .load ho a, b⟩
  | update ho _ ih => exact fun _ T r => let ⟨T', a, b⟩ := ih rfl T r; ⟨T', .update ho a, b⟩
  | loadIfAlive _ ih => exact fun _ T r => let ⟨T', a, b⟩ := ih rfl T r; ⟨T', .loadIfAlive a, b⟩
  | point _ ih => exact fun _ T r => let ⟨T', a, b⟩ := ih rfl T r; ⟨T', .point a, b⟩
  | alloc _ ih => exact fun _ T r => let ⟨T', a, b⟩ := ih rfl T r; ⟨T', .alloc a, b⟩
  | fresh _ ih => exact fun _ T r => let ⟨T', a, b⟩ := ih rfl T r; ⟨T', .fresh a, b⟩
  | ask _ ih => exact fun _ T r => let ⟨T', a, b⟩ := ih rfl T r; ⟨T', .ask a, b⟩
  | choose hn _ ih => exact fun _ T r => let ⟨T', a, b⟩ := ih rfl T r; ⟨T', .choose hn a, b⟩
  | os _ ih => exact fun _ T r => let ⟨T', a, b⟩ := ih rfl T r; ⟨T', .os a, b⟩
  | handled _ ih => exact fun _ T r => let ⟨T', a, b⟩ := ih rfl T r; ⟨T', .handled a, b⟩
  | genState hg _ ih =>
    intro _ T r
    obtain ⟨T', a, b⟩ := ih rfl T r
    rcases r.get hg with ⟨z, h1, _, rfl⟩ | ⟨h1, _⟩
    · exact ⟨T', .genState (st := z) h1 (by rw [psn_seen] at a; exact a), b⟩
    · exact ⟨T', .genState h1 a, b⟩
  | stack _ ih => exact fun _ T r => let ⟨T', a, b⟩ := ih rfl T r; ⟨T', .stack a, b⟩
  | thread _ ih => exact fun _ T r => let ⟨T', a, b⟩ := ih rfl T r; ⟨T', .thread a, b⟩
  | @newGen c' p' k' s1 e1 s2 cc _ ih =>
    intro _ T r
    obtain ⟨T', a, b⟩ := ih rfl (T.push (.fresh _)) (r.push trivial)
    refine ⟨T', .newGen ?_, b⟩
    show Runs _ _ _ (k' T.size) _ _ _ _
    rw [← r.size]
    exact a
  | call _ _ ih1 ih2 =>
    intro _ T r
    obtain ⟨T1, a1, b1, _⟩ := ih1 rfl T r
    obtain ⟨T2, a2, b2⟩ := ih2 rfl T1 b1
    exact ⟨T2, .call a1 a2, b2⟩
  | callSusp _ ih =>
    intro _ T r
    obtain ⟨T1, a1, b1, e1⟩ := ih rfl T r
    exact ⟨T1, .callSusp a1, b1, split_app e1 rfl⟩
  | yield => exact fun _ T r => ⟨T, .yield, r, rfl⟩
  | resumeFresh hg _ hq _ ih1 ih2 =>
    intro _ T r
    obtain ⟨h1, h2⟩ := r.awake hg rfl
    obtain ⟨T1, a1, b1, e1⟩ := ih1 rfl _ (r.set (y := .running) h2 trivial)
    obtain ⟨T2, a2, b2⟩ := ih2 rfl _ (b1.set h2 e1.st)
    exact ⟨T2, .resumeFresh h1 a1 hq a2, b2⟩
  | resumeSuspended hg hr hq _ ih1 ih2 =>
    intro _ T r
    rcases r.get hg with ⟨z, _, h2, h3⟩ | ⟨h1, hc, h2⟩
    · cases z with
      | suspended k l c p fs cl =>
        cases h3
        exact (stuck hr).elim
      | fresh c => cases h2
      | running => cases h2
      | finished => cases h2
    · obtain ⟨T1, a1, b1, e1⟩ := ih1 hc _ (r.set (y := .running) h2 trivial)
      obtain ⟨T2, a2, b2⟩ := ih2 rfl _ (b1.set h2 e1.st)
      exact ⟨T2, .resumeSuspended h1 a1 hq a2, b2⟩
  | resumeJustStarted hg hv _ ih =>
    intro _ T r
    obtain ⟨h1, h2⟩ := r.awake hg rfl
    obtain ⟨T1, a1, b1⟩ := ih rfl T r
    exact ⟨T1, .resumeJustStarted h1 hv a1, b1⟩
  | resumeThrowFresh hg _ ih =>
    intro _ T r
    obtain ⟨h1, h2⟩ := r.awake hg rfl
    obtain ⟨T1, a1, b1⟩ := ih rfl _ (r.set (y := .finished) h2 trivial)
    exact ⟨T1, .resumeThrowFresh h1 a1, b1⟩
  | resumeRunning hg _ ih =>
    intro _ T r
    obtain ⟨h1, h2⟩ := r.awake hg rfl
    obtain ⟨T1, a1, b1⟩ := ih rfl T r
    exact ⟨T1, .resumeRunning h1 a1, b1⟩
  | resumeFinished hg _ ih =>
    intro _ T r
    obtain ⟨h1, h2⟩ := r.awake hg rfl
    obtain ⟨T1, a1, b1⟩ := ih rfl T r
    exact ⟨T1, .resumeFinished h1 a1, b1⟩
  | segRet _ _ ih1 ih2 =>
    intro hf T r
    obtain ⟨T1, a1, b1, _⟩ := ih1 rfl T r
    obtain ⟨T2, a2, b2⟩ := ih2 (split_ret hf) T1 b1
    exact ⟨T2, .segRet a1 a2, b2⟩
  | segGen _ _ ih1 ih2 =>
    intro hf
    cases hf
  | segSuspOut hs _ ih =>
    intro hf T r
    obtain ⟨T1, a1, b1, e1⟩ := ih rfl T r
    exact ⟨T1, .segSuspOut hs a1, b1, split_app e1 hs⟩
  | segSuspGen hs _ hq _ ih1 ih2 =>
    intro hf
    rw [hf] at hs
    cases hs

theorem wakes_tr {M : Model} {G T : Array GenState} {c : Ctx} {p : Pos} {g : Nat} {r : Resume} {s s' : Shared} {res : GenResult} (h : Wakes M c p g r s res s') (hr : Rel G s.gens T) : ∃ T', Wakes M c p g r (tab s T) res (tab s' T') ∧ Rel G s'.gens T' := by
  unfold Wakes at h
  cases hg : s.gens[g]? with
  | none => rw [hg] at h; exact h.elim
  | some x =>
    rw [hg] at h
    cases x with
    | fresh cd =>
      obtain ⟨h1, h2⟩ := hr.awake hg rfl
      unfold Wakes
      rw [show (tab s T).gens[g]? = some (.fresh cd) from h1]
      cases r with
      | send v =>
        cases v with
        | none =>
          obtain ⟨e1, s1, a, q, rfl, rfl⟩ := h
          obtain ⟨T1, a1, b1, c1⟩ := runs_tr a rfl _ (hr.set (y := .running) h2 trivial)
          exact ⟨_, ⟨e1, tab s1 T1, a1, q, rfl, rfl⟩, b1.set h2 c1.st⟩
        | _ => exact ⟨T, ⟨h.1, by rw [h.2]⟩, by rw [h.2]; exact hr⟩
      | throw v => exact ⟨_, ⟨h.1, by rw [h.2]; rfl⟩, by rw [h.2]; exact hr.set (y := .finished) h2 trivial⟩
    | suspended k l cd q fs cl =>
      obtain ⟨e1, s1, a, hq, rfl, rfl⟩ := h
      rcases hr.get hg with ⟨z, _, h2, h3⟩ | ⟨h1, hc, h2⟩
      · cases z with
        | suspended k l c p fs cl => cases h3; exact (stuck a).elim
        | fresh c => cases h2
        | running => cases h2
        | finished => cases h2
      · obtain ⟨T1, a1, b1, c1⟩ := runs_tr a hc _ (hr.set (y := .running) h2 trivial)
        unfold Wakes
        rw [show (tab s T).gens[g]? = some (.suspended k l cd q fs cl) from h1]
        exact ⟨_, ⟨e1, tab s1 T1, a1, hq, rfl, rfl⟩, b1.set h2 c1.st⟩
    | running =>
      obtain ⟨h1, h2⟩ := hr.awake hg rfl
      unfold Wakes
      rw [show (tab s T).gens[g]? = some .running from h1]
      exact ⟨T, ⟨h.1, by rw [h.2]⟩, by rw [h.2]; exact hr⟩
    | finished =>
      obtain ⟨h1, h2⟩ := hr.awake hg rfl
      unfold Wakes
      rw [show (tab s T).gens[g]? = some .finished from h1]
      exact ⟨T, ⟨h.1, by rw [h.2]⟩, by rw [h.2]; exact hr⟩

/-- what held of the poisoned run's end holds of the true one's -/
def Lift {α : Type} (G : Array GenState) (Q : α → Pos → Shared → Prop) : α → Pos → Shared → Prop := fun a p s => ∃ P : Array GenState, Rel G P s.gens ∧ Q a p (tab s P)
theorem wp_tr {α : Type} {M : Model} {G : Array GenState} {c : Ctx} (t : Sem α) : ∀ {Q : α → Pos → Shared → Prop} {E : Value → Pos → Shared → Prop} {p : Pos} {s : Shared} {T : Array GenState}, Rel G s.gens T → Sem.wp M c t Q E p s →
    Sem.wp M c t (Lift G Q) (Lift G E) p (tab s T) := by
  induction t with
  | pure a => intro Q E p s T r h; exact ⟨s.gens, r, h⟩
  | raise e => intro Q E p s T r h; exact ⟨s.gens, r, h⟩
  | unsupported _ => intro Q E p s T r h; exact h
  | finish _ => intro Q E p s T r h; exact h
  | rule _ k ih => intro Q E p s T r h; exact ih () r h
  | «at» p' k ih => intro Q E p s T r h; exact ih () r h
  | load a _ k ih => intro Q E p s T r h; obtain ⟨o, ho, h⟩ := h; exact ⟨o, ho, ih o r h⟩
  | update a _ f k ih =>
    intro Q E p s T r h
    obtain ⟨h1, h2⟩ := h
    exact ⟨h1, ih () (s := { s with heap := s.heap.update a f }) r h2⟩
  | loadIfAlive a k ih => intro Q E p s T r h; exact ih _ r h
  | point _ k ih => intro Q E p s T r h; exact ih () r h
  | register _ _ => intro Q E p s T r h; exact h
  | alloc o k ih =>
    intro Q E p s T r h
    exact ih _ (s := { s with heap := s.heap.push o }) r h
  | fresh k ih =>
    intro Q E p s T r h
    exact ih _ (s := { s with toks := s.toks + 1 }) r h
  | ask k ih => intro Q E p s T r h; exact ih _ r h
  | choose src m k ih =>
    intro Q E p s T r h
    obtain ⟨h1, h2⟩ := h
    exact ⟨h1, ih _ (s := { s with drawn := s.drawn.bump src }) r h2⟩
  | os q _ k ih =>
    intro Q E p s T r h
    exact ih _ (s := { s with os := (Os.step s.os q).1 }) r h
  | call cd hd _ _ k ih =>
    intro Q E p s T r h
    obtain ⟨x, s1, hx, h2⟩ := h
    obtain ⟨T1, a1, b1, _⟩ := runs_tr hx rfl T r
    exact ⟨x, tab s1 T1, a1, ih x b1 h2⟩
  | handled own k ih => intro Q E p s T r h; exact ih _ r h
  | genState g k ih =>
    intro Q E p s T r h
    obtain ⟨st, hs, h2⟩ := h
    have q := ih st.seen r h2
    rcases r.get hs with ⟨z, h1, _, rfl⟩ | ⟨h1, _⟩
    · exact ⟨z, h1, by rw [psn_seen] at q; exact q⟩
    · exact ⟨st, h1, q⟩
  | newGen cd k ih =>
    intro Q E p s T r h
    have q := ih s.gens.size (s := { s with gens := s.gens.push (.fresh cd) }) (r.push trivial) h
    rw [r.size] at q
    exact q
  | resume g x _ k ih =>
    intro Q E p s T r h
    obtain ⟨res, s1, hw, h2⟩ := h
    obtain ⟨T1, a1, b1⟩ := wakes_tr hw r
    exact ⟨res, tab s1 T1, a1, ih res b1 h2⟩
  | yield _ _ _ _ => intro Q E p s T r h; exact h
  | stack k ih => intro Q E p s T r h; exact ih _ r h
  | fork _ _ => intro Q E p s T r h; exact h
  | thread k ih => intro Q E p s T r h; exact ih _ r h
  | await _ _ _ _ _ => intro Q E p s T r h; exact h

/-- THE RULE: shown from the poisoned table, it holds from the true one, and who slept sleeps on -/
theorem wpAny_asleep {α : Type} {M : Model} {A : Around} {t : Sem α} {Q : α → Shared → Prop} {E : Value → Shared → Prop} {s : Shared} (h : wpAny M A t Q E (tab s (s.gens.map psn))) :
    wpAny M A t (fun a s' => ∃ P, Rel s.gens P s'.gens ∧ Q a (tab s' P)) (fun e s' => ∃ P, Rel s.gens P s'.gens ∧ E e (tab s' P)) s := fun c p hc =>
  wp_tr (G := s.gens) t (s := tab s (s.gens.map psn)) (T := s.gens) (Rel.start s.gens) (h c p hc)
end GP
-- GF1
set_option Elab.async false
set_option linter.all false
set_option maxRecDepth 100000
set_option maxHeartbeats 1000000
/-! A generator's code, run to its next rest. -/
namespace GF
open PySem
open Sem (wp)

/-- from t at the code c over the frames fs it comes to an end of which F holds -/
def Go (M : Model) (A : Around) (c : Code) (t : Sem PySem.Fin) (fs : List Frame) (s : Shared) (F : End → Shared → Prop) : Prop :=
  ∀ (g : Ctx) (p : Pos), g.code = c → g.Woken A → ∃ e s', Runs M g p t fs s e s' ∧ F e s'

section
variable {M : Model} {A : Around} {c : Code} {fs : List Frame} {s : Shared} {F : End → Shared → Prop}
theorem go_imp {t : Sem PySem.Fin} {F' : End → Shared → Prop} (h : Go M A c t fs s F) (hF : ∀ e s', F e s' → F' e s') : Go M A c t fs s F' := fun g p h1 h2 =>
  let ⟨e, s', hr, hf⟩ := h g p h1 h2
  ⟨e, s', hr, hF e s' hf⟩
/-- the table of generators does not shrink -/
theorem go_size {t : Sem PySem.Fin} (h : Go M A c t fs s F) : Go M A c t fs s (fun e s' => s.gens.size ≤ s'.gens.size ∧ F e s') := fun g p h1 h2 =>
  let ⟨e, s', hr, hf⟩ := h g p h1 h2
  ⟨e, s', hr, GenW.runs_gsz hr, hf⟩
theorem go_wrap {α : Type} {m : Sem α} {K : α → Sem PySem.Fin} {H : Value → Sem PySem.Fin} {gd : Bool → Bool} {lv : List Value → List Value}
    (h : wpAny M (A.over c fs) m (fun a s' => Go M A c (K a) fs s' F) (fun x s' => Go M A c (H x) fs s' F) s) : Go M A c (m.wrap K H gd lv) fs s F := by
  intro g p hc hw
  subst hc
  exact runs_wrap_of_wp K H gd lv m (h (g.over fs) p (hw.over fs)) (fun a p' s' h' => h' g p' rfl hw) fun x p' s' h' => h' g p' rfl hw
theorem go_bind_wrap {α β : Type} {m : Sem α} {f : α → Sem β} {K : β → Sem PySem.Fin} {H : Value → Sem PySem.Fin} {gd : Bool → Bool} {lv : List Value → List Value}
    (h : wpAny M (A.over c fs) m (fun a s' => Go M A c ((f a).wrap K H gd lv) fs s' F) (fun x s' => Go M A c (H x) fs s' F) s) : Go M A c ((m >>= f).wrap K H gd lv) fs s F := by
  rw [Sem.bind_eq_wrap', Sem.wrap_wrap]
  exact go_wrap h
theorem go_bind {α : Type} {m : Sem α} {K : α → Sem PySem.Fin} (h : wpAny M (A.over c fs) m (fun a s' => Go M A c (K a) fs s' F) (fun x s' => Go M A c (.raise x) fs s' F) s) : Go M A c (m >>= K) fs s F := by
  rw [Sem.bind_eq_wrap']
  exact go_wrap h
theorem go_at {p' : Pos} {k : Unit → Sem PySem.Fin} (h : Go M A c (k ()) fs s F) : Go M A c (.at p' k) fs s F :=
  go_wrap (m := standAt p') (K := k) (H := .raise) (gd := id) (lv := id) (wpAny_standAt h)
theorem go_point {l : List Value} {k : Unit → Sem PySem.Fin} (h : Go M A c (k ()) fs s F) : Go M A c (.point l k) fs s F :=
  go_wrap (m := point) (K := k) (H := .raise) (gd := id) (lv := fun _ => l) (wpAny_point h)
theorem go_call {c' : Code} {h : Option Value} {g : Bool} {l : List Value} {k : Result → Sem PySem.Fin} (hc : ∀ p, Go M A c' (M.den c') (.ret k h g l c p [] :: fs) s F) : Go M A c (.call c' h g l k) fs s F := by
  intro x p hx hw
  subst hx
  obtain ⟨e, s', hr, he⟩ := hc p (x.goto c') p rfl (hw.goto c')
  exact ⟨e, s', runs_call_seg hr, he⟩
theorem go_leaf {k : Result → Sem PySem.Fin} {h : Option Value} {g : Bool} {l kp : List Value} {c1 : Code} {p1 : Pos} (r : Result) (hk : Go M A c1 (k r) fs s F) : Go M A c (leafOf r) (.ret k h g l c1 p1 kp :: fs) s F := by
  intro x p hx hw
  subst hx
  obtain ⟨e, s', hr, he⟩ := hk (x.goto c1) p1 rfl (hw.goto c1)
  exact ⟨e, s', Runs.pop r hr, he⟩
theorem go_again {c' : Code} (hq : c'.quiet = true) (hc : Go M A c' (M.den c') fs s F) : Go M A c (.pure (.again c')) fs s F := by
  intro x p hx hw
  subst hx
  obtain ⟨e, s', hr, he⟩ := hc (x.goto c') p rfl (hw.goto c')
  exact ⟨e, s', Runs.head (c₁ := c') (fun _ _ z => .again hq z) hr, he⟩
theorem go_end (r : Result) (h : F (.ret r) s) : Go M A c (leafOf r) [] s F := by
  intro x p hx hw
  exact ⟨.ret r, s, Runs.leaf r, h⟩
theorem go_yield {v : Value} {g : Bool} {l : List Value} {k : Resume → Sem PySem.Fin} (hfs : splitAtGen fs = none) (h : ∀ p, F (.susp v g l k c p fs) s) : Go M A c (.yield v g l k) fs s F := by
  intro x p hx hw
  subst hx
  exact ⟨_, s, Runs.yield' fs hfs, h p⟩
end

/-- woken by next(), k goes on as t does -/
def Onto (M : Model) (k : Resume → Sem PySem.Fin) (c : Code) (fs : List Frame) (t : Sem PySem.Fin) : Prop := ∀ (A : Around) (s : Shared) (F : End → Shared → Prop), Go M A c t fs s F → Go M A c (k (.send .none)) fs s F

section
variable {M : Model} {A : Around} {c : Code} {fs : List Frame} {s : Shared} {F : End → Shared → Prop} {env : Env} {K : Flow → Sem PySem.Fin} {H : Value → Sem PySem.Fin} {gd : Bool → Bool} {lv : List Value → List Value}
theorem go_nil (h : Go M A c (K .next) fs s F) : Go M A c ((execs [] env).wrap K H gd lv) fs s F := h
theorem go_cons {st : Stmt} {rest : List Stmt} (h : Go M A c ((exec st env).wrap (fun f => match f with | .next => (execs rest env).wrap K H gd lv | f => K f) H gd lv) fs s F) : Go M A c ((execs (st :: rest) env).wrap K H gd lv) fs s F := by
  rw [execs_cons_wrap]
  exact h
theorem go_Yield {e : Expr} {yp pos : Pos} (hfs : splitAtGen fs = none) (hgd : gd false = false)
    (h : wpAny M (A.over c fs) (eval e env) (fun v s' => ∀ l k p, Onto M k c fs (K .next) → F (.susp v false l k c p fs) s') (fun x s' => Go M A c (H x) fs s' F) s) (hco : env.scope.isCoroutine = false := by rfl) (hi : interactive env = false := by rfl) :
    Go M A c ((exec (.Expr (.Yield (some e) yp) pos) env).wrap K H gd lv) fs s F := by
  rw [exec_Expr env _ pos hi rfl]
  show Go M A c (.at pos fun _ => ((eval e env >>= fun v => (standAt yp >>= fun _ => yieldOut env v)) >>= fun x => dropValue (.Yield (some e) yp) pos x).wrap K H gd lv) fs s F
  have hy : ∀ v, yieldOut env v = yieldValue v := fun v => by simp only [yieldOut, hco, Bool.false_eq_true, if_false]
  simp only [hy]
  refine go_at ?_
  rw [Sem.bind_eq_wrap', Sem.bind_eq_wrap', Sem.wrap_wrap, Sem.wrap_wrap]
  refine go_wrap (wpAny_mono h (fun v s' h' => ?_) fun _ _ x => x)
  refine go_at ?_
  have key : ∀ g, g = false → Go M A c ((yieldValue v).wrap (fun a => (dropValue (.Yield (some e) yp) pos a).wrap K H gd lv) (fun e' => (Sem.raise e' : Sem Flow).wrap K H gd lv) (fun x => gd x) lv) fs s' F := fun g hg => by
    refine go_yield (v := v) hfs fun p => ?_
    show F (.susp v (gd false) _ _ c p fs) s'
    rw [hgd]
    exact h' _ _ p fun A' s'' F' hF => hF
  exact key false rfl
/-- what the frame of a loop's call does with its outcome -/
def loopK (env : Env) (K : Flow → Sem PySem.Fin) (H : Value → Sem PySem.Fin) (gd : Bool → Bool) (lv : List Value → List Value) : Result → Sem PySem.Fin := fun r => ((match r with | .ok f => (.pure f : Sem Flow) | .error e => .raise e).onRaise fun (x : Value) => do
        if (← field x 1) == Value.none then unsupported "frame.own-activation:exception-without-traceback"
        setFlight x env.frame).wrap K H gd lv
theorem loopK_next : loopK env K H gd lv (.ok .next) = K .next := rfl
theorem go_For {tg iter : Expr} {body : List Stmt} {pos : Pos}
    (h : wpAny M (A.over c fs) (eval iter env) (fun v s1 => wpAny M (A.over c fs) (pyIter v) (fun it s2 => ∀ p, Go M A (.forLoop tg it body [] env) (M.den (.forLoop tg it body [] env)) (.ret (loopK env K H gd lv) none (gd false) (lv []) c p [] :: fs) s2 F) (fun _ _ => False) s1) (fun _ _ => False) s)
    (hs : ∀ x, foldedSetIterable iter env x = pure x := by intro _; rfl) : Go M A c ((exec (.For tg iter body [] pos) env).wrap K H gd lv) fs s F := by
  rw [exec_For]
  refine go_bind_wrap (wpAny_standAt ?_)
  refine go_bind_wrap ?_
  refine wpAny_mono h (fun v s1 h1 => ?_) fun _ _ z => z.elim
  refine go_bind_wrap ?_
  rw [hs]
  refine wpAny_pure ?_
  refine go_bind_wrap (wpAny_standAt ?_)
  refine go_bind_wrap (wpAny_holding ?_)
  refine wpAny_mono h1 (fun it s2 h2 => ?_) fun _ _ z => z.elim
  exact go_call fun p => h2 p
end

section
variable {prog : Program} {w : World} {A : Around} {fs : List Frame} {s : Shared} {F : End → Shared → Prop} {env : Env}
def noteK (env : Env) : Value → Sem PySem.Fin := fun e => (do noteFrame e env; theTreesLotGoes e : Sem Unit).wrap (fun _ => .raise e) .raise id id
def turnK (c : Code) : Flow → Sem PySem.Fin := fun f => match f with | .next | .cont => .pure (.again c) | .brk => .pure (.done .next) | .ret v => .pure (.done (.ret v))
/-- a turn of a for's code; nothing is raised ahead of the body -/
theorem go_turn {tg : Expr} {it : Value} {body : List Stmt}
    (h : wpAny (model prog w) (A.over (.forLoop tg it body [] env) fs) (pyNext it) (fun r s1 => match r with
      | none => Go (model prog w) A (.block [] env) (.pure (.done .next)) fs s1 F
      | some v => wpAny (model prog w) (A.over (.forLoop tg it body [] env) fs) (letOwnedTupleGo tg it v) (fun _ s2 => wpAny (model prog w) (A.over (.forLoop tg it body [] env) fs) (assign tg env v)
          (fun _ s3 => Go (model prog w) A (.forLoop tg it body [] env) ((execs body env).wrap (turnK (.forLoop tg it body [] env)) (noteK env) id id) fs s3 F) (fun _ _ => False) s2) (fun _ _ => False) s1) (fun _ _ => False) s) :
    Go (model prog w) A (.forLoop tg it body [] env) ((model prog w).den (.forLoop tg it body [] env)) fs s F := by
  show Go (model prog w) A (.forLoop tg it body [] env) ((forTurn tg it body [] env).onRaise (fun x => do noteFrame x env; theTreesLotGoes x)) fs s F
  unfold forTurn
  rw [Sem.onRaise_eq_wrap]
  refine go_bind_wrap (wpAny_standAt ?_)
  refine go_bind_wrap (wpAny_onRaise (wpAny_mono h (fun r s1 h1 => ?_) fun _ _ z => z.elim))
  cases r with
  | none =>
    refine go_again rfl ?_
    show Go (model prog w) A (.block [] env) ((execs [] env).onRaise (fun x => do noteFrame x env; theTreesLotGoes x) >>= fun f => pure (Fin.done f)) fs s1 F
    exact h1
  | some v =>
    refine go_bind_wrap (wpAny_mono h1 (fun _ s2 h2 => ?_) fun _ _ z => z.elim)
    refine go_bind_wrap (wpAny_mono h2 (fun _ s3 h3 => ?_) fun _ _ z => z.elim)
    rw [Sem.bind_eq_wrap', Sem.wrap_wrap]
    have e1 : (fun a => ((match a with
          | .next | .cont => again (.forLoop tg it body [] env)
          | .brk => pure (.done .next)
          | .ret v => pure (.done (.ret v)) : Sem PySem.Fin)).wrap (Sem.pure : PySem.Fin → Sem PySem.Fin) (fun e => ((do noteFrame e env; theTreesLotGoes e : Sem Unit)).bind fun _ => Sem.raise e) id id) = turnK (.forLoop tg it body [] env) := by
      funext a
      cases a <;> rfl
    have e2 : (fun e => (Sem.raise e : Sem PySem.Fin).wrap (Sem.pure : PySem.Fin → Sem PySem.Fin) (fun e => ((do noteFrame e env; theTreesLotGoes e : Sem Unit)).bind fun _ => Sem.raise e) id id) = noteK env := by
      funext e
      show ((do noteFrame e env; theTreesLotGoes e : Sem Unit)).bind (fun _ => Sem.raise e) = _
      rw [Sem.bind_eq_wrap]
      rfl
    have e3 := Sem.wrap_congr (execs body env) id id (fun a => congrFun e1 a) (fun e => congrFun e2 e)
    exact Eq.mpr (congrArg (fun t => Go (model prog w) A (.forLoop tg it body [] env) t fs s3 F) e3) h3
def funK : Flow → Sem PySem.Fin := fun f => .pure (.done (.ret (match f with | .ret v => v | _ => .none)))
def leaveK (env : Env) : Value → Sem PySem.Fin := fun e => (leaving env e).wrap (fun _ => .raise e) .raise id id
theorem go_func {body : List Stmt} (h : Go (model prog w) A (.func body env) ((execs body env).wrap funK (leaveK env) id id) fs s F) : Go (model prog w) A (.func body env) ((model prog w).den (.func body env)) fs s F := by
  show Go _ A _ (.point [] fun _ => ((execs body env).onRaise (leaving env)) >>= _) fs s F
  refine go_point ?_
  rw [Sem.onRaise_eq_wrap, Sem.bind_eq_wrap', Sem.wrap_wrap]
  rw [Sem.wrap_congr (execs body env) _ _ (K' := funK) (H' := leaveK env) (fun f => by cases f <;> rfl) (fun e => by rw [Sem.bind_eq_wrap, Sem.wrap_wrap]; rfl)]
  exact h
end

/-- a generator wakes, by next() -/
def Wk (M : Model) (A : Around) (x : GenState) (s : Shared) (F : End → Shared → Prop) : Prop := match x with
  | .fresh c => Go M A c (M.den c) [] s F
  | .suspended k _ c _ fs _ => Go M A c (k (.send .none)) fs s F
  | _ => False
section
variable {M : Model} {A : Around} {E : Value → Shared → Prop} {s : Shared} {g : Nat} {x : GenState}
theorem wk_size {F : End → Shared → Prop} (h : Wk M A x s F) : Wk M A x s (fun e s' => s.gens.size ≤ s'.gens.size ∧ F e s') := by
  cases x with
  | fresh c => exact go_size h
  | suspended k l c p fs cl => exact go_size (t := k (.send .none)) h
  | running => exact h
  | finished => exact h
theorem wk_resume {l : List Value} {α : Type} {k : GenResult → Sem α} {Q : α → Shared → Prop} (hg : s.gens[g]? = some x)
    (h : Wk M A x (s.setGen g .running) (fun e s1 => e.quiet = true ∧ wpAny M A (k e.result) Q E (s1.setGen g e.genState))) : wpAny M A (.resume g (.send .none) l k) Q E s := by
  intro c p hc
  rw [Sem.wp_resume]
  cases x with
  | fresh cd =>
    obtain ⟨e, s1, hr, hq, hk⟩ := h (c.wake cd p) p rfl (hc.wake cd p)
    exact ⟨e.result, s1.setGen g e.genState, by unfold Wakes; rw [hg]; exact ⟨e, s1, hr, hq, rfl, rfl⟩, hk c p hc⟩
  | suspended k0 l0 c0 p0 fs0 cl =>
    obtain ⟨e, s1, hr, hq, hk⟩ := h (c.wake c0 p) p0 rfl (hc.wake c0 p)
    exact ⟨e.result, s1.setGen g e.genState, by unfold Wakes; rw [hg]; exact ⟨e, s1, hr, hq, rfl, rfl⟩, hk c p hc⟩
  | running => exact h.elim
  | finished => exact h.elim
end
section
open PyProof.Rows
variable {P : Program} {w : World} {A : Around} {E : Value → Shared → Prop} {s : Shared}
/-- next(g): it hands out a value, or it ends -/
theorem next_wk {a : Addr} {g : Nat} {x : GenState} {Q : Option Value → Shared → Prop} (hh : A.handled = none) (hl : s.heap.NoLimit) (hroom : A.depth < recursionLimit) (hg : s.heap.IsGen a g) (hgs : s.gens[g]? = some x)
    (h : Wk (model P w) A.in1 x (s.setGen g .running) (fun e s1 => (∃ v l k c p fs, e = .susp v false l k c p fs ∧ fs.any Frame.guarded = false ∧ Q (some v) (s1.setGen g (.suspended k l c p fs false))) ∨
      ((e = .ret (.ok (.ret .none)) ∨ e = .ret (.ok .next)) ∧ ∀ h', (∀ b o, s1.heap.get? b = some o → h'.get? b = some o) → Q none { s1.setGen g .finished with heap := h' }))) :
    wpAny (model P w) A (pyNext (.ref a)) Q E s := by
  unfold pyNext
  refine wpAny_bind (wpAny_attempt (wpAny_callSpecial?_slot (name := Str.ofString "__next__") hg.typeIs slot_gen_next (wpAny_call_entry slot_gen_next hg.typeIs entry_gen_next ?_ (args_gen_next _))))
  show wpAny _ A.in1 (Builtin.Generator.genWake (.ref a) (.send .none)) _ _ s
  unfold Builtin.Generator.genWake
  refine wpAny_bind (wpAny_holding (wpAny_genNumber hg (wpAny_bind (wpAny_genState hgs ?_))))
  cases x with
  | running => exact h.elim
  | finished => exact h.elim
  | _ =>
    refine wpAny_bind (wpAny_roomToWake hl hroom ?_)
    show wpAny _ A.in1 (.resume g (.send .none) [] _) _ _ s
    refine wk_resume hgs (go_imp h fun e s1 he => ?_)
    rcases he with ⟨v, l, k, c, p, fs, rfl, hgu, hq⟩ | ⟨he, hq⟩
    · have e0 : (false || fs.any Frame.guarded) = false := by rw [hgu]; rfl
      have e1 : (End.susp v false l k c p fs).genState = .suspended k l c p fs false := by
        show GenState.suspended k l c p fs (false || fs.any Frame.guarded) = _
        rw [e0]
      refine ⟨by show (!(false || fs.any Frame.guarded)) = true; rw [e0]; rfl, ?_⟩
      rw [e1]
      exact wpAny_pure ⟨v, rfl, wpAny_pure hq⟩
    · have e1 : e.quiet = true ∧ e.result = .returned .none ∧ e.genState = .finished := by
        rcases he with rfl | rfl <;> exact ⟨rfl, rfl, rfl⟩
      obtain ⟨e1, e2, e3⟩ := e1
      refine ⟨e1, ?_⟩
      rw [e2, e3]
      show wpAny _ A.in1 (newExc (.type "StopIteration") [] >>= _) _ _ _
      refine wpAny_bind ?_
      simp only [newExc, newTuple]
      refine wpAny_bind (wpAny_newObj_type (hd := by size_fits) ?_)
      refine wpAny_bind (m := firstArgMember _ _) (wpAny_of_eq (a := Value.none) (by first | rfl | (simp only [firstArgMember]; rfl)) ?_)
      refine wpAny_newObj_type (hd := by size_fits) ?_
      simp only [raiseNew]
      refine wpAny_bind (wpAny_bind (wpAny_handled ?_))
      have hh1 : A.in1.handled = none := hh
      rw [hh1]
      refine wpAny_throw ?_
      refine wpAny_bind (wpAny_isInstance (b := true) (T := "StopIteration") ⟨_, Heap.get?_push_size _ rfl, rfl⟩ isSubtype_stop ?_)
      exact wpAny_pure (hq _ fun b o hb => Heap.get?_push_of_some _ (Heap.get?_push_of_some _ hb))
end
end GF
-- GF2
set_option Elab.async false
set_option linter.all false
set_option maxRecDepth 100000
set_option maxHeartbeats 1000000
/-! A generator whose last statement is «for x in rows: yield x»: at rest in that loop. -/
namespace GF
open PySem L2

/-- its own objects: the frame, the iterator, the list -/
structure Own (L it R : Addr) (items : Array Value) (j : Nat) (h : Heap) : Prop where
  iter : h.IsListIter it R j
  list : h.IsList R items
  ns : ∃ m, h.Ns L m
  ne1 : it ≠ L
  ne2 : R ≠ L
  ne3 : R ≠ it
theorem Own.keep {L it R : Addr} {items : Array Value} {j : Nat} {h h' : Heap} (x : Own L it R items j h) (k : ∀ b ∈ [L, it, R], ∀ o, h.get? b = some o → h'.get? b = some o) : Own L it R items j h' where
  iter := x.iter.at fun o e => k it (by simp) o e
  list := x.list.at fun o e => k R (by simp) o e
  ns := by
    obtain ⟨m, o, es, ep, ho, r⟩ := x.ns
    exact ⟨m, o, es, ep, k L (by simp) o ho, r⟩
  ne1 := x.ne1
  ne2 := x.ne2
  ne3 := x.ne3
theorem Own.there {L it R : Addr} {items : Array Value} {j : Nat} {h : Heap} (x : Own L it R items j h) : ∀ b ∈ [L, it, R], ∃ o, h.get? b = some o ∧ ∀ v, o.data ≠ .cell v := fun b hb => by
  obtain ⟨oi, hi, _, di⟩ := x.iter
  obtain ⟨ol, hl, _, nl, dl⟩ := x.list
  obtain ⟨m, oL, es, ep, hL, dL, _⟩ := x.ns
  rcases List.mem_cons.mp hb with rfl | hb
  · exact ⟨oL, hL, fun v q => by rw [dL] at q; cases q⟩
  rcases List.mem_cons.mp hb with rfl | hb
  · exact ⟨oi, hi, fun v q => by rw [di] at q; cases q⟩
  · rw [List.mem_singleton.mp hb]
    exact ⟨ol, hl, fun v q => by rw [dl] at q; cases q⟩

/-- asleep with the items its yet to come: woken by next() over any heap that keeps its own objects (at mv, st), it hands out the next of them; but for those at mv all is kept -/
def Nap (M : Model) (mv st : List Addr) : List Value → GenState → Heap → Prop
  | [], x, h => ∀ (A : Around) (s : Shared), A.handled = none → (∀ b ∈ mv ++ st, ∀ o, h.get? b = some o → s.heap.get? b = some o) →
      Wk M A x s (fun e s1 => ∃ h' tk, s1 = { s with heap := h', toks := tk } ∧ (∀ b o, b ∉ mv → s.heap.get? b = some o → h'.get? b = some o) ∧ e = .ret (.ok (.ret .none)))
  | v :: r, x, h => ∀ (A : Around) (s : Shared), A.handled = none → (∀ b ∈ mv ++ st, ∀ o, h.get? b = some o → s.heap.get? b = some o) →
      Wk M A x s (fun e s1 => ∃ h' tk, s1 = { s with heap := h', toks := tk } ∧ (∀ b o, b ∉ mv → s.heap.get? b = some o → h'.get? b = some o) ∧ (∀ b ∈ mv ++ st, ∃ o, h'.get? b = some o ∧ ∀ v, o.data ≠ .cell v) ∧
        ∃ l k c p fs, e = .susp v false l k c p fs ∧ fs.any Frame.guarded = false ∧ Nap M mv st r (.suspended k l c p fs false) h')

section
variable {P : Program} {w : World} {env : Env} {it R : Addr} {x : Str} {px p2 yp ep p0 : Pos} {items : Array Value}
abbrev yBody (x : Str) (p2 yp ep : Pos) : List Stmt := [.Expr (.Yield (some (.Name x p2)) yp) ep]
abbrev yLoop (x : Str) (px p2 yp ep : Pos) (it : Addr) (env : Env) : Code := .forLoop (.Name x px) (.ref it) (yBody x p2 yp ep) [] env
/-- the frames that such a generator rests over -/
abbrev yFs (body : List Stmt) (env : Env) (p0 : Pos) : List Frame := [.ret (loopK env (fun f => match f with | .next => (execs [] env).wrap funK (leaveK env) id id | f => funK f) (leaveK env) id id) none false [] (.func body env) p0 []]
/-- a turn of that loop -/
theorem y_turn {body : List Stmt} {A : Around} {s : Shared} {j : Nat} {F : End → Shared → Prop} (hh : A.handled = none) (hx : env.kindOf x = some .local) (hk : env.scope.kind = .function) (hO : Own env.locals it R items j s.heap)
    (hi : ∀ v, items[j]? = some v → ∀ h' tk l k p, Own env.locals it R items (j + 1) h' → (∀ b o, b ∉ [env.locals, it] → s.heap.get? b = some o → h'.get? b = some o) →
      Onto (model P w) k (yLoop x px p2 yp ep it env) (yFs body env p0) (.pure (.again (yLoop x px p2 yp ep it env))) → F (.susp v false l k (yLoop x px p2 yp ep it env) p (yFs body env p0)) { s with heap := h', toks := tk })
    (hd : items[j]? = none → ∀ h', (∀ b o, b ∉ [env.locals, it] → s.heap.get? b = some o → h'.get? b = some o) → F (.ret (.ok (.ret .none))) { s with heap := h' })
    (hdb : (x == ("__debug__" : Str)) = false := by decide) (hco : env.scope.isCoroutine = false) :
    Go (model P w) A (yLoop x px p2 yp ep it env) ((model P w).den (yLoop x px p2 yp ep it env)) (yFs body env p0) s F := by
  have hp : (env.scope.kind == .class || (env.scope.kind == .module && env.locals != env.globals)) = false := by rw [hk]; rfl
  have hint : interactive env = false := by simp [interactive, hk]
  have hh2 : (A.over (yLoop x px p2 yp ep it env) (yFs body env p0)).handled = none := hh
  obtain ⟨m, hns⟩ := hO.ns
  refine go_turn ?_
  cases hv : items[j]? with
  | none =>
    refine wpAny_pyNext_list_end hh2 hO.iter hO.list hv fun h1 he1 => ?_
    have k1 : ∀ b o, b ∉ [env.locals, it] → s.heap.get? b = some o → h1.get? b = some o := fun b o hb e => he1 b o (fun z => hb (by rw [z]; simp)) e
    refine go_leaf (.ok .next) ?_
    rw [loopK_next]
    refine go_nil ?_
    exact go_end (.ok (.ret .none)) (hd hv h1 k1)
  | some v =>
    refine wpAny_pyNext_list_item hO.iter hO.list hv fun h1 hit1 hs1 => ?_
    refine wpAny_pure ?_
    refine wpAny_assign_Name (wpAny_storeName_local hx (hns.sameBut hs1 hO.ne1.symm) (fun h2 hn2 hs2 => ?_) hp)
    refine go_cons (go_Yield rfl rfl ?_ hco hint)
    refine wpAny_Name (wpAny_loadName_local hk hx hn2 (v := v) (by simp) ?_) hdb
    intro l k p hk'
    refine hi v hv h2 _ l k p ?_ (fun b o hb e => ?_) hk'
    · refine ⟨(hit1.extBut hs2.extBut hO.ne1), ?_, ⟨_, hn2⟩, hO.ne1, hO.ne2, hO.ne3⟩
      exact (hO.list.extBut hs1.extBut hO.ne3).extBut hs2.extBut hO.ne2
    · exact hs2.extBut b o (fun z => hb (by rw [z]; simp)) (hs1.extBut b o (fun z => hb (by rw [z]; simp)) e)
theorem nap_of {body : List Stmt} (hx : env.kindOf x = some .local) (hk : env.scope.kind = .function) (hdb : (x == ("__debug__" : Str)) = false) (hco : env.scope.isCoroutine = false) :
    ∀ (n j : Nat), n + j = items.size → ∀ (h : Heap) (l : List Value) (k : Resume → Sem PySem.Fin) (p : Pos), Own env.locals it R items j h → Onto (model P w) k (yLoop x px p2 yp ep it env) (yFs body env p0) (.pure (.again (yLoop x px p2 yp ep it env))) →
      Nap (model P w) [env.locals, it] [R] (items.toList.drop j) (.suspended k l (yLoop x px p2 yp ep it env) p (yFs body env p0) false) h := by
  intro n
  induction n with
  | zero =>
    intro j hj h l k p hO hK
    have e0 : items.toList.drop j = [] := by
      rw [List.drop_eq_nil_iff]
      simp
      omega
    rw [e0]
    intro A s hh hkeep
    have hn : items[j]? = none := by simp; omega
    refine hK A s _ (go_again rfl ?_)
    refine y_turn hh hx hk (hO.keep hkeep) (fun v hv => ?_) (fun _ h' k1 => ?_) hdb hco
    · rw [hn] at hv; cases hv
    · exact ⟨h', s.toks, rfl, k1, rfl⟩
  | succ n ih =>
    intro j hj h l k p hO hK
    have hlt : j < items.size := by omega
    have e0 : items.toList.drop j = items[j] :: items.toList.drop (j + 1) := by
      have h2 : j < items.toList.length := by simpa using hlt
      rw [List.drop_eq_getElem_cons h2]
      simp
    rw [e0]
    intro A s hh hkeep
    have hn : items[j]? = some items[j] := Array.getElem?_eq_getElem hlt
    refine hK A s _ (go_again rfl ?_)
    refine y_turn hh hx hk (hO.keep hkeep) (fun v hv h' tk l' k' p' hO' k1 hK' => ?_) (fun hv => ?_) hdb hco
    · rw [hn] at hv
      cases hv
      exact ⟨h', tk, rfl, k1, hO'.there, l', k', _, p', _, rfl, rfl, ih (j + 1) (by omega) h' l' k' p' hO' hK'⟩
    · rw [hn] at hv; cases hv
end
end GF
-- GF3
set_option Elab.async false
set_option linter.all false
set_option maxRecDepth 100000
set_option maxHeartbeats 1000000
/-! A call of such a generator def. -/
namespace GF
open PySem PySem.Spec PyProof.Rows L2

theorem go_app {M : Model} {A : Around} {c : Code} {fs : List Frame} {F : End → Shared → Prop} {env : Env} {K : Flow → Sem PySem.Fin} {H : Value → Sem PySem.Fin} {gd : Bool → Bool} {lv : List Value → List Value} {rest : List Stmt} :
    ∀ {pre : List Stmt} {s : Shared}, wpAny M (A.over c fs) (execs pre env) (fun f s1 => f = .next ∧ Go M A c ((execs rest env).wrap K H gd lv) fs s1 F) (fun _ _ => False) s → Go M A c ((execs (pre ++ rest) env).wrap K H gd lv) fs s F := by
  intro pre s h
  have key : ∀ pre : List Stmt, execs (pre ++ rest) env = (execs pre env >>= fun f => match f with | .next => execs rest env | f => pure f) := by
    intro pre
    induction pre with
    | nil => rfl
    | cons st pre ih =>
      show (exec st env >>= fun f => match f with | .next => execs (pre ++ rest) env | f => pure f) = ((exec st env >>= fun f => match f with | .next => execs pre env | f => pure f) >>= fun f => match f with | .next => execs rest env | f => pure f)
      rw [bind_assoc, ih]
      congr 1
      funext f
      cases f <;> rfl
  rw [key]
  refine go_bind_wrap (wpAny_mono h (fun f s1 hf => ?_) fun _ _ z => z.elim)
  obtain ⟨rfl, hg⟩ := hf
  exact hg

/-- a generator's promise: the arguments, the heap, what is wanted of all that it will hand out and of the heap at its first rest -/
abbrev SpF := List V → Hp → (List V → Hp → Prop) → Prop
/-- at its first rest -/
def FRes (P : Program) (w : World) (outer : List Env) (H : Hp) (s : Shared) (ga : Addr) (go : Obj) (Q : List V → Hp → Prop) (e : End) (s1 : Shared) : Prop :=
  ∃ (mv st : List Addr) (vs : List Value) (ys : List V) (H' : Hp), Vals ys vs ∧ ys.length ≤ sizeLine ∧ Q ys H' ∧ s1.os = s.os ∧ AllBare s1.gens ∧ Un (frs outer) [] H H' s.heap s1.heap ∧ HOk P w H' s1.heap ∧ s1.heap.get? ga = some go ∧ H' ga = none ∧
    (∀ b ∈ mv, s.heap.objs.size ≤ b ∧ H' b = none ∧ b ≠ ga) ∧ (∀ b ∈ st, s.heap.get? b = none ∧ H' b = none) ∧
    match vs with
    | [] => e = .ret (.ok (.ret .none))
    | v :: r => ∃ l k c p fs, e = .susp v false l k c p fs ∧ fs.any Frame.guarded = false ∧ (∀ b ∈ mv ++ st, ∃ o, s1.heap.get? b = some o ∧ ∀ v, o.data ≠ .cell v) ∧ Nap (model P w) mv st r (.suspended k l c p fs false) s1.heap
def FMade (P : Program) (w : World) (k : Nat) (outer : List Env) (H : Hp) (s : Shared) (Q : List V → Hp → Prop) (u : Value) (s' : Shared) : Prop :=
  ∃ (a : Addr) (g : Nat) (c : Code) (go : Obj), u = .ref a ∧ s.heap.objs.size ≤ a ∧ s'.heap.get? a = some go ∧ go.cls = .type "generator" ∧ (∃ vs, go.data = .fields vs) ∧ (∀ h : Heap, h.get? a = some go → h.IsGen a g) ∧ s'.gens[g]? = some (.fresh c) ∧ s'.os = s.os ∧ AllBare s'.gens ∧ s'.heap.NoLimit ∧
    (∀ b o, s.heap.get? b = some o → s'.heap.get? b = some o) ∧
    ∀ (A : Around) (s2 : Shared), Room k A → A.frames = some outer → (∀ b o, s'.heap.get? b = some o → s2.heap.get? b = some o) → s2.os = s.os → AllBare s2.gens → Wk (model P w) A (.fresh c) s2 (FRes P w outer H s a go Q)
structure FFn (P : Program) (w : World) (K : PySem.W.Frag) (mg : Str → Option Value) (base : Heap) (k : Nat) (f : Addr) (fd : FuncData) (ps : List Str) (sp : SpF) : Prop where
  len : ∀ vs H Q, sp vs H Q → vs.length = ps.length
  run : ∀ (A : Around) (outer : List Env) (s : Shared) (H : Hp) (args : Args) (us : List Value) (vs : List V) (Q : List V → Hp → Prop), Room k A → Env0 P w K mg base A outer s H → BindsTo s fd args (ps.zip us) → Vals vs us → sp vs H Q →
    codeAny (model P w) A (.call (.ref f) args) (fun r s' => match r with | .ok (.ret u) => FMade P w k outer H s Q u s' | _ => False) s

/-- the generator's first rest, from the end of the statements ahead of the loop -/
theorem f_first {P : Program} {w : World} {K : PySem.W.Frag} {mg : Str → Option Value} {base : Heap} {N : List Str} {qual : Str} {scope : Scope} {f : Addr} {cdv : Value} {A : Around} {outer : List Env} {s s2 : Shared} {H : Hp} {E : XK} {pre : List Stmt} {vs : List V}
    {x y : Str} {px py p2 yp ep fp : Pos} {iy : Nat} {Q : List V → Hp → Prop} {ga : Addr} {go : Obj} {t : TS}
    (hsz : s.heap.objs.size ≤ ga) (hgL : ga ≠ s.heap.objs.size)
    (I : Inv (gcxOf P w K mg base N qual scope f cdv A outer s H E []) [(ga, go)] (start N vs) H s2) (hco : scope.isCoroutine = false)
    (hx : (envOfC qual scope s.heap.objs.size f cdv).kindOf x = some .local) (hdb : (x == ("__debug__" : Str)) = false)
    (hy : N[iy]? = some y) (hvy : Vis scope y) (hdy : (y == ("__debug__" : Str)) = false) (hcy : (y == ("__classdict__" : Str)) = false)
    (ht : PSs (gcxOf P w K mg base N qual scope f cdv A outer s H E []).nox pre t)
    (hq : t { nx := fun σ H' => ∃ R ys, σ[iy]? = some (some (.ref R)) ∧ H' R = some (.lst ys) ∧ H R = none ∧ Q ys (del H' R), rt := fun _ _ => False } (start N vs) H) :
    Wk (model P w) A (.fresh (.func (pre ++ [.For (.Name x px) (.Name y py) (yBody x p2 yp ep) [] fp]) (envOfC qual scope s.heap.objs.size f cdv))) s2 (FRes P w outer H s ga go Q) := by
  show Go _ _ _ _ _ _ _
  refine go_func (go_app ?_)
  rw [GenW.over_func]
  refine wpAny_mono (ht.run [(ga, go)] s2 (start N vs) H _ (I.wish _) hq) (fun fl s3 hs => ?_) fun _ _ z => z
  cases fl with
  | brk => obtain ⟨_, _, _, z⟩ := hs; exact z.elim
  | cont => obtain ⟨_, _, _, z⟩ := hs; exact z.elim
  | ret u => obtain ⟨_, _, _, _, _, z⟩ := hs; exact z.elim
  | next =>
    obtain ⟨σ, H', I3, R, ys, hR, hHR, hR0, hQ⟩ := hs
    refine ⟨rfl, go_cons (go_For ?_)⟩
    rw [GenW.over_func]
    refine wpAny_mono ((pe_var (X := (gcxOf P w K mg base N qual scope f cdv A outer s H E []).nox) (i := iy) (pos := py) hy hvy hdy hcy).run [(ga, go)] s3 σ H' (fun v H2 => v = .ref R ∧ H2 = H') I3 ⟨_, hR, rfl, rfl⟩) (fun u s4 h4 => ?_) fun _ _ z => z
    obtain ⟨v, H4, I4, rv, rfl, rfl⟩ := h4
    obtain rfl : u = Value.ref R := rv
    obtain ⟨hlen, its, cap, rits, hgR⟩ := (show ObjOk P w H4 s4.heap R (.lst ys) from I4.hok R _ hHR)
    have hlist : s4.heap.IsList R its.toArray := ⟨_, hgR, rfl, cap, rfl⟩
    refine wpAny_pyIter_list hlist fun p0 => ?_
    -- the loop stands
    have hLs : (gcxOf P w K mg base N qual scope f cdv A outer s H E []).nox.env.locals = s.heap.objs.size := rfl
    obtain ⟨m, hns, _⟩ := I4.loc
    have hlt : s.heap.objs.size < s4.heap.objs.size := I4.lt
    have hitL : s4.heap.objs.size ≠ s.heap.objs.size := Nat.ne_of_gt hlt
    have hfree : H4 s.heap.objs.size = none := I4.free
    have hRL : R ≠ s.heap.objs.size := fun z => by rw [z, hfree] at hHR; cases hHR
    have hRit : R ≠ s4.heap.objs.size := Nat.ne_of_lt (Heap.lt_size hgR)
    have hit0 : H4 s4.heap.objs.size = none := I4.hok.fresh (Nat.le_refl _)
    have u4 : Un (frs outer) [] H H4 s.heap s4.heap := I4.base
    have hRs : s.heap.get? R = none := by
      cases q : s.heap.get? R with
      | none => rfl
      | some o =>
        have z := u4.free R o q hR0 (by simp)
        rw [hHR] at z; cases z
    obtain ⟨hga, hga0, hgaL, hgaF, hgac⟩ := I4.pin (ga, go) (by simp [gcxOf])
    have hO : Own s.heap.objs.size s4.heap.objs.size R its.toArray 0 (s4.heap.push { cls := .type "list_iterator", data := .fields #[.ref R, .int 0 0] }) :=
      ⟨⟨_, Heap.get?_push_size _ rfl, rfl, rfl⟩, hlist.push _, ⟨m, hns.push _⟩, hitL, hRL, hRit⟩
    have hm : ∀ {b : Addr} {o : Obj}, s.heap.get? b = some o → b ∉ [s.heap.objs.size, s4.heap.objs.size] := fun {b o} q hb => by
      have h1 := Heap.lt_size q
      rcases List.mem_cons.mp hb with rfl | hb
      · exact absurd h1 (Nat.lt_irrefl _)
      · rw [List.mem_singleton.mp hb] at h1
        exact absurd (Nat.lt_trans hlt h1) (Nat.lt_irrefl _)
    -- whatever the turn leaves
    have fin : ∀ (h' : Heap), (∀ b o, b ∉ [s.heap.objs.size, s4.heap.objs.size] → (s4.heap.push { cls := .type "list_iterator", data := .fields #[.ref R, .int 0 0] }).get? b = some o → h'.get? b = some o) →
        Un (frs outer) [] H (del H4 R) s.heap h' ∧ HOk P w (del H4 R) h' ∧ h'.get? ga = some go ∧ (del H4 R) ga = none := fun h' k1 => by
      have kk : ∀ b o, b ∉ [s.heap.objs.size, s4.heap.objs.size] → s4.heap.get? b = some o → h'.get? b = some o := fun b o hb e => k1 b o hb (Heap.get?_push_of_some _ e)
      have nR : ∀ {b : Addr} {u : HO}, H4 b = some u → (∀ xs, u ≠ .lst xs) → b ≠ R := fun {b u} e hu z => by
        rw [z, hHR] at e
        cases e
        exact hu _ rfl
      have ntr : ∀ {b : Addr} {u : HO}, H4 b = some u → b ∉ [s.heap.objs.size, s4.heap.objs.size] := fun {b u} e hb => by
        rcases List.mem_cons.mp hb with rfl | hb
        · rw [hfree] at e; cases e
        · rw [List.mem_singleton.mp hb, hit0] at e; cases e
      refine ⟨⟨fun b o q n hf hx => kk b o (hm q) (u4.keep b o q n hf hx), fun b o q n hf hx => ?_, fun b o q n hx => ?_, fun b o q hx => ?_, fun b xs q => ?_, fun b o v q => ?_, fun b qs q => ?_⟩, fun b o q => ?_, ?_, ?_⟩
      · obtain ⟨sl, e⟩ := u4.slot b o q n hf hx
        exact ⟨sl, kk b _ (hm q) e⟩
      · have z := u4.free b o q n hx
        unfold del
        by_cases hb : b = R
        · rw [if_pos hb]
        · rw [if_neg hb]; exact z
      · obtain ⟨o', e⟩ := u4.there b o q hx
        exact ⟨o', kk b _ (hm q) e⟩
      · have z := u4.tups b xs q
        rw [del_ne (nR z fun _ y => by cases y)]; exact z
      · have z := u4.frzs b o v q
        rw [del_ne (nR z fun _ y => by cases y)]; exact z
      · obtain ⟨more, z⟩ := u4.tbls b qs q
        exact ⟨more, by rw [del_ne (nR z fun _ y => by cases y)]; exact z⟩
      · have hb : b ≠ R := fun z => by rw [z, del_same] at q; cases q
        rw [del_ne hb] at q
        refine (I4.hok b o q).stay (fun c u hc e => kk c u ?_ e) (fun c hc => by rw [del_ne (nR hc fun _ y => by cases y)]; exact hc) fun c xs hc => by rw [del_ne (nR hc fun _ y => by cases y)]; exact hc
        rcases hc with rfl | hc
        · exact ntr q
        · exact ntr hc
      · refine kk ga go (fun hb => ?_) hga
        rcases List.mem_cons.mp hb with z | hb
        · exact hgL z
        · have z := List.mem_singleton.mp hb
          have h1 := Heap.lt_size hga
          rw [z] at h1
          exact absurd h1 (Nat.lt_irrefl _)
      · have hb : ga ≠ R := fun z => by rw [z, hHR] at hga0; cases hga0
        rw [del_ne hb]
        exact hga0
    have mvok : ∀ b ∈ [s.heap.objs.size, s4.heap.objs.size], s.heap.objs.size ≤ b ∧ (del H4 R) b = none ∧ b ≠ ga := fun b hb => by
      rcases List.mem_cons.mp hb with rfl | hb
      · exact ⟨Nat.le_refl _, by rw [del_ne hRL.symm]; exact hfree, hgL.symm⟩
      · rw [List.mem_singleton.mp hb]
        exact ⟨Nat.le_of_lt hlt, by rw [del_ne hRit.symm]; exact hit0, fun z => by have h1 := Heap.lt_size hga; rw [← z] at h1; exact absurd h1 (Nat.lt_irrefl _)⟩
    have stok : ∀ b ∈ [R], s.heap.get? b = none ∧ (del H4 R) b = none := fun b hb => by
      rw [List.mem_singleton.mp hb]
      exact ⟨hRs, del_same⟩
    have hdn : A.handled = none := (I4.ok.hd rfl : (A.deeper _).handled = none)
    refine y_turn (env := envOfC qual scope s.heap.objs.size f cdv) (items := its.toArray) (j := 0) hdn hx I4.ok.kind hO (fun v hv h' tk l k p hO' k1 hK => ?_) (fun hv h' k1 => ?_) hdb hco
    · obtain ⟨q1, q2, q3, q4⟩ := fin h' k1
      have hpos : 0 < its.toArray.size := (Array.getElem?_eq_some_iff.mp hv).1
      have hdrop : its = v :: its.toArray.toList.drop 1 := by
        cases its with
        | nil => simp at hpos
        | cons a r =>
          simp at hv
          simp [hv]
      refine ⟨[s.heap.objs.size, s4.heap.objs.size], [R], its, ys, del H4 R, rits, hlen, hQ, I4.os, I4.bare, q1, q2, q3, q4, mvok, stok, ?_⟩
      rw [hdrop]
      refine ⟨l, k, _, p, _, rfl, rfl, hO'.there, ?_⟩
      have z := nap_of (P := P) (w := w) (env := envOfC qual scope s.heap.objs.size f cdv) (items := its.toArray) (px := px) (p2 := p2) (yp := yp) (ep := ep) (p0 := p0) hx I4.ok.kind hdb hco (its.toArray.size - 1) 1 (by omega) h' l k p hO' hK
      exact z
    · obtain ⟨q1, q2, q3, q4⟩ := fin h' k1
      have hnil : its = [] := by
        cases its with
        | nil => rfl
        | cons a r => simp at hv
      refine ⟨[s.heap.objs.size, s4.heap.objs.size], [R], its, ys, del H4 R, rits, hlen, hQ, I4.os, I4.bare, q1, q2, q3, q4, mvok, stok, ?_⟩
      rw [hnil]
end GF
-- GF4
set_option Elab.async false
set_option linter.all false
set_option maxRecDepth 100000
set_option maxHeartbeats 1000000
/-! A call of such a generator def; a for over it. -/
namespace GF
open PySem PySem.Spec PyProof.Rows L2 GP

/-- THE RULE: a generator def whose body is pre and then «for x in y: yield x» -/
theorem ffn_of {P : Program} {w : World} {K : PySem.W.Frag} {mg : Str → Option Value} {base : Heap} {k : Nat} {f : Addr} {name qual : Str} {params : Arguments} {pre : List Stmt} {scope : Scope} {dV kV doc pm cdv ct oc : Value} {an od : Option Addr}
    {osl : Array (Option Value)} {N ps : List Str} {sp : SpF} {x y : Str} {px py p2 yp ep fp : Pos} {iy : Nat} (lk : K.lookup f = some ⟨oc, od, .func (PySem.W.fnOf name qual params (pre ++ [.For (.Name x px) (.Name y py) (yBody x p2 yp ep) [] fp]) scope dV kV doc pm an cdv ct), osl⟩) (hcd : PySem.W.codeIn K cdv qual = true) (S : GScope N ps scope)
    (hx : scope.names.lookup x = some .local) (hdb : (x == ("__debug__" : Str)) = false)
    (hy : N[iy]? = some y) (hvy : Vis scope y) (hdy : (y == ("__debug__" : Str)) = false) (hcy : (y == ("__classdict__" : Str)) = false)
    (len : ∀ vs H Q, sp vs H Q → vs.length = ps.length)
    (hbody : ∀ (A : Around) (outer : List Env) (s : Shared) (H : Hp) (vs : List V) (Q : List V → Hp → Prop), Room k (A.deeper (envOfC qual scope s.heap.objs.size f cdv)) → sp vs H Q →
      ∃ t, PSs (gcxOf P w K mg base N qual scope f cdv A outer s H (fun _ _ _ => False) []).nox pre t ∧ t { nx := fun σ H' => ∃ R ys, σ[iy]? = some (some (.ref R)) ∧ H' R = some (.lst ys) ∧ H R = none ∧ Q ys (del H' R), rt := fun _ _ => False } (start N vs) H) :
    FFn P w K mg base (k + 1) f (PySem.W.fnOf name qual params (pre ++ [.For (.Name x px) (.Name y py) (yBody x p2 yp ep) [] fp]) scope dV kV doc pm an cdv ct) ps sp := by
  refine ⟨len, fun A outer s H args us vs Q hr e0 hb r hsp => ?_⟩
  have hl := len _ _ _ hsp
  have kbs : ∀ b o, base.get? b = some o → s.heap.get? b = some o := fun b o e => (e0.bs b o e).1
  have KX : K.In s.heap := e0.mod.kin.keeps kbs
  have lim : s.heap.NoLimit := e0.mod.nolimit.keeps kbs
  have hkind : ∀ z ∈ ps.zip us, scope.names.lookup z.1 = some .local ∨ (scope.names.lookup z.1 = some .cell ∧ ((cellsFrom (s.heap.objs.size + 1) scope.names []).lookup z.1).isSome = true) := fun ⟨n, v⟩ hz => by
    rcases S.par n (List.of_mem_zip hz).1 with q | q
    · exact .inl q
    · exact .inr ⟨q, PySem.W.cellsFrom_some _ _ _ (.inl q)⟩
  refine codeAny_call_generator hr.depth (KX _ _ lk) rfl S.co S.gen rfl (PySem.W.codeRec_of KX hcd) (hb _ _ _ _ ?_)
  refine wpAny_newFunctionEnv_cells S.kind hkind fun env he s1 xc => ?_
  subst he
  have kp1 : ∀ b o, s.heap.get? b = some o → s1.heap.get? b = some o := xc.toInCall.keep
  have lim1 : s1.heap.NoLimit := lim.keeps kp1
  refine ⟨lim1, ?_⟩
  obtain ⟨h1, tk, es1, hk1⟩ := xc.done
  have os1 : s1.os = s.os := by rw [es1]
  have gen1 : s1.gens = s.gens := by rw [es1]
  have lt1 : s.heap.objs.size < s1.heap.objs.size := xc.toInCall.ns.lt
  have main : ∀ (go : Obj) (nm qn : Value) (tk2 : Nat), go.cls = .type "generator" → go.data = .fields #[.int s1.gens.size 0, nm, qn] → go.slots = #[] → (∀ h : Heap, (h.push go).get? h.objs.size = some go) →
      FMade P w (k + 1) outer H s Q (.ref s1.heap.objs.size) { s1 with gens := s1.gens.push (.fresh (.func (pre ++ [.For (.Name x px) (.Name y py) (yBody x p2 yp ep) [] fp]) (envOfC qual scope s.heap.objs.size f cdv))), toks := tk2, heap := s1.heap.push go } := by
    intro go nm qn tk2 hgc hgd hgs hgp
    have kpp : ∀ b o, s1.heap.get? b = some o → (s1.heap.push go).get? b = some o := fun b o e => Heap.get?_push_of_some _ e
    refine ⟨s1.heap.objs.size, s1.gens.size, _, go, rfl, Nat.le_of_lt lt1, hgp _, hgc, ⟨_, hgd⟩, fun h e => ⟨go, nm, qn, e, hgc, hgd, hgs⟩, Array.getElem?_push_size .., os1, ?_, lim1.keeps kpp, fun b o e => kpp b o (kp1 b o e), ?_⟩
    · exact AllBare.push (by rw [gen1]; exact e0.bare) rfl
    intro Aw s2 hrw hfr hk2 hos hba
    have e0w : Env0 P w K mg base Aw outer s H := ⟨hfr, e0.mod, e0.bs, e0.bsz, e0.funs, e0.frf, e0.hok, e0.bare⟩
    obtain ⟨t, ht, hq⟩ := hbody Aw outer s H vs Q (hrw.deeper _) hsp
    have I1 : Inv (gcxOf P w K mg base N qual scope f cdv Aw outer s H (fun _ _ _ => False) []) [] (start N vs) H s1 := inv_startG S hrw.hd e0w hl r xc
    have kp2 : ∀ b o, s1.heap.get? b = some o → s2.heap.get? b = some o := fun b o e => hk2 b o (kpp b o e)
    have I2 : Inv (gcxOf P w K mg base N qual scope f cdv Aw outer s H (fun _ _ _ => False) []) [] (start N vs) H s2 := I1.call' (ch := []) (hos.trans os1.symm) (Un.kept kp2) (I1.hok.kept kp2) hba fun b z => by simp at z
    have hea : s2.heap.get? s1.heap.objs.size = some go := hk2 _ go (hgp _)
    have hneL : s1.heap.objs.size ≠ s.heap.objs.size := Nat.ne_of_gt lt1
    refine f_first (pre := pre) (t := t) (Nat.le_of_lt lt1) hneL (I2.pins_of fun p hp => ?_) S.co ?_ hdb hy hvy hdy hcy ht hq
    · rw [List.mem_singleton.mp hp]
      refine ⟨hea, I1.hok.fresh (Nat.le_refl _), hneL, I1.nofs (Nat.le_refl _), fun v q => by rw [hgd] at q; cases q⟩
    · exact hx
  exact main _ _ _ _ rfl rfl rfl fun h => Heap.get?_push_size _ rfl

/-! ### the consumer -/
theorem Rel.kept {G P T : Array GenState} (r : Rel G P T) {g : Nat} {x : GenState} (h : G[g]? = some x) (ha : asleep x = true) : T[g]? = some x := by
  rcases r.at_ g with ⟨z, h1, _, h3, _⟩ | ⟨h1, _⟩
  · rw [h] at h1; cases h1; exact h3
  · rw [h1 x h] at ha; cases ha
theorem Rel.bare {G P T : Array GenState} (r : Rel G P T) (h1 : AllBare G) (h2 : AllBare P) : AllBare T := fun y hy => by
  obtain ⟨i, hi, e⟩ := Array.mem_iff_getElem.mp hy
  have q : T[i]? = some y := by rw [Array.getElem?_eq_getElem hi, e]
  rcases r.at_ i with ⟨z, z1, _, z3, _⟩ | ⟨_, z2, _⟩
  · rw [q] at z3; cases z3
    exact h1 y (Array.mem_of_getElem? z1)
  · rw [z2] at q
    exact h2 y (Array.mem_of_getElem? q)
theorem bare_psn {G : Array GenState} (h : AllBare G) : AllBare (G.map psn) := fun y hy => by
  obtain ⟨x, hx, rfl⟩ := Array.mem_map.mp hy
  rw [psn_bare]
  exact h x hx
theorem inv_tab {X : Cx} {pins : List (Addr × Obj)} {σ : L2.St} {H : Hp} {s : Shared} (I : Inv X pins σ H s) {T : Array GenState} (h : AllBare T) : Inv X pins σ H (tab s T) :=
  ⟨I.ok, I.os, h, I.base, I.loc, I.cell, I.free, I.freeC, I.pin, I.hok, I.len⟩
/-- what is stored, and run, while generators sleep -/
theorem asleep_run {X : Cx} {pins : List (Addr × Obj)} {σ : L2.St} {H : Hp} {s : Shared} {tg : Expr} {body : List Stmt} {g : TG} {tb : TS} {D : Ends} {x : V} {u : Value} {gi : Nat} {gs : GenState} (hg : PG X.nox tg g) (hb : PSs X.nox body tb) (I : Inv X pins σ H s) (r : RelV x u)
    (hs : s.gens[gi]? = some gs) (ha : asleep gs = true) (h : g x σ H fun σ2 H2 => tb D σ2 H2) :
    wpAny (model X.prog X.w) X.A (assign tg X.env u) (fun _ s2 => wpAny (model X.prog X.w) X.A (execs body X.env) (fun f s3 => SP X pins D f s3 ∧ s3.gens[gi]? = some gs) (fun _ _ => False) s2) (fun _ _ => False) s := by
  have J : Inv X.nox pins σ H (tab s (s.gens.map psn)) := (inv_tab I (bare_psn I.bare)).wish _
  refine wpAny_mono (wpAny_asleep (hg.run pins _ σ H x u _ J r h)) (fun _ s2 h2 => ?_) fun _ _ ⟨_, _, z⟩ => z
  obtain ⟨P, rP, σ2, H2, J2, q2⟩ := h2
  have b2 : AllBare s2.gens := Rel.bare rP I.bare J2.bare
  have hs2 : s2.gens[gi]? = some gs := Rel.kept rP hs ha
  have J3 : Inv X.nox pins σ2 H2 (tab s2 (s2.gens.map psn)) := inv_tab J2 (bare_psn b2)
  refine wpAny_mono (wpAny_asleep (hb.run pins _ σ2 H2 _ J3 q2)) (fun f s3 h3 => ?_) fun _ _ ⟨_, _, z⟩ => z
  obtain ⟨P3, rP3, q3⟩ := h3
  refine ⟨?_, Rel.kept rP3 hs2 ha⟩
  have q4 : SP X pins D f (tab s3 P3) := SP.unwish q3
  cases f with
  | next => obtain ⟨σ', H', I', q⟩ := q4; exact ⟨σ', H', inv_tab (s := tab s3 P3) I' (Rel.bare rP3 b2 I'.bare), q⟩
  | brk => obtain ⟨σ', H', I', q⟩ := q4; exact ⟨σ', H', inv_tab (s := tab s3 P3) I' (Rel.bare rP3 b2 I'.bare), q⟩
  | cont => obtain ⟨σ', H', I', q⟩ := q4; exact ⟨σ', H', inv_tab (s := tab s3 P3) I' (Rel.bare rP3 b2 I'.bare), q⟩
  | ret v => obtain ⟨v', σ', H', I', r', q⟩ := q4; exact ⟨v', σ', H', inv_tab (s := tab s3 P3) I' (Rel.bare rP3 b2 I'.bare), r', q⟩
end GF
-- GF5
set_option Elab.async false
set_option linter.all false
set_option maxRecDepth 100000
set_option maxHeartbeats 1000000
/-! THE RULE for a for over a call of such a generator def. -/
namespace GF
open PySem PySem.Spec PyProof.Rows L2 GP

/-- for x in f(e, ..): f a generator def; ys all that it hands out, H2 the heap at its first rest -/
def tForF (sp : SpF) (dvs : List V) (ta : TA) (g : TG) (tb : TS) : TS := fun D σ H => ta σ H fun vs H1 => sp (vs ++ dvs) H1 fun ys H2 =>
  ∃ W : Nat → L2.St → Hp → Prop, W 0 σ H2 ∧ ∀ i σ' H', W i σ' H' → (i = ys.length → D.nx σ' H') ∧ ∀ x, ys[i]? = some x → g x σ' H' fun σ2 H3 => tb { D with nx := W (i + 1), ct := W (i + 1), bk := D.nx } σ2 H3

theorem un_mv {fs mv : List Addr} {H : Hp} {h h' : Heap} (k : ∀ b o, b ∉ mv → h.get? b = some o → h'.get? b = some o) : Un fs mv H H h h' where
  keep := fun b o q n hf hx => k b o hx q
  slot := fun b o q n hf hx => ⟨o.slots, k b o hx q⟩
  free := fun b o q n hx => n
  there := fun b o q hx => ⟨o, k b o hx q⟩
  tups := fun b xs q => q
  frzs := fun b o v q => q
  tbls := fun b ps q => ⟨#[], by rw [q]; simp⟩

section
variable {X : Cx} {k : Nat} {f : Addr} {fd : FuncData} {ps : List Str} {sp : SpF} {ds : List Value} {dvs : List V} {nm : Str} {p cpos pos : Pos} {e : Expr} {es : List Expr} {ta : TA} {tg : Expr} {g : TG} {body : List Stmt} {tb : TS}
theorem run_ffn {pins : List (Addr × Obj)} {σ : L2.St} {H : Hp} {s : Shared} {us : List Value} {vs : List V} {Q : List V → Hp → Prop} {E1 : Value → Shared → Prop} (F : FFn X.prog X.w X.K X.mg X.base k f fd ps sp) (hr : Room k X.A) (hb : Binds X.K fd ps ds) (hd : Vals dvs ds)
    (I : Inv X pins σ H s) (r : Vals vs us) (h : sp (vs ++ dvs) H Q) : wpAny (model X.prog X.w) X.A (call (.ref f) us) (fun u s' => ∃ H1 sc, Inv X pins σ H1 sc ∧ FMade X.prog X.w k X.stack H1 sc Q u s') E1 s := by
  have r2 : Vals (vs ++ dvs) (us ++ ds) := r.append hd
  have hl2 : (us ++ ds).length = ps.length := by
    rw [← r2.length]
    exact F.len _ _ _ h
  refine wpAny_call (codeAny_mono (F.run X.A X.stack s H ⟨us, []⟩ (us ++ ds) (vs ++ dvs) Q hr I.env0 (hb s us I.kIn hl2) r2 h) fun r s' hq => ?_)
  cases r with
  | error x => exact hq.elim
  | ok fl =>
    cases fl with
    | ret u => exact ⟨H, s, I, hq⟩
    | next => exact hq.elim
    | brk => exact hq.elim
    | cont => exact hq.elim

theorem ps_forF (hp : PassesOwn (model X.prog X.w) X.A X.env X.xe) (hc : X.calm = true) (F : FFn X.prog X.w X.K X.mg X.base k f fd ps sp) (hr : Room (k + 1) X.A) (hg : Gl X nm) (hm : X.mg nm = some (.ref f)) (hk : PySem.W.keepIn X.K (.ref f) = true)
    (hb : Binds X.K fd ps ds) (hd : Vals dvs ds) (ha : PA X (e :: es) ta) (hgt : PG X.nox tg g) (hbd : PSs X.nox body tb)
    (hs : ∀ x, foldedSetIterable (.Call (.Name nm p) (e :: es) [] cpos) X.env x = pure x := by intro _; rfl)
    (hdb : (nm == ("__debug__" : Str)) = false := by decide) (he : starEach (e :: es) X.env = (false, eval e X.env) :: starEach es X.env := by rfl) (hpl : (backTo cpos (starEach es X.env)).any (·.1) = false := by rfl) :
    PS X (.For tg (.Call (.Name nm p) (e :: es) [] cpos) body [] pos) (tForF sp dvs ta g tb) := by
  refine ⟨fun pins s σ H D I h => ?_⟩
  refine wpAny_For ?_ hs
  refine wpAny_Call_Name_kw (ld_glob I hg hm ?_ hdb)
  refine PySem.W.callWith_K (h₀ := X.base) I.ok.mod.kin hk (thn (ha.run cpos pins s σ H _ I h) fun us s0 ⟨vs, H0, I0, r0, q0⟩ => ⟨I0.kIn, ?_⟩) he hpl
  refine thn (run_ffn F (hr.mono (Nat.le_succ k)) hb hd I0 r0 q0) fun u s1 ⟨H1, sc, I1, hM⟩ => ?_
  obtain ⟨ga, gi, c, go, rfl, hga, hgo, hgc, ⟨gv, hgd⟩, hgen, hfr, hos, hba, hlim, hkp, wake⟩ := hM
  refine wpAny_pyIter_gen (hgen _ hgo) ?_
  have hgS : gi < s1.gens.size := (Array.getElem?_eq_some_iff.mp hfr).1
  -- where the generator's own objects may stand
  have stne : ∀ b, sc.heap.get? b = none → b ≠ X.env.locals ∧ b ∉ X.fs := fun b hb => by
    obtain ⟨m, ⟨o, es, ep, ho, _⟩, _⟩ := I1.loc
    refine ⟨fun z => (by rw [z, ho] at hb; cases hb), fun hm => ?_⟩
    obtain ⟨_, o', ho', _⟩ := I1.funs.mem hm
    rw [ho'] at hb; cases hb
  have gacell : ∀ v, go.data ≠ .cell v := fun v q => by rw [hgd] at q; cases q
  let PB : Nat → Shared → Prop := fun n s' => ∃ (mv st : List Addr) (rest : List Value) (ys : List V) (i : Nat) (σ' : L2.St) (H' : Hp) (gs : GenState) (W : Nat → L2.St → Hp → Prop), Inv X pins σ' H' s' ∧ n = rest.length ∧ Vals (ys.drop i) rest ∧ i ≤ ys.length ∧
    s'.heap.get? ga = some go ∧ H' ga = none ∧ (∀ b ∈ mv ++ st, (∃ o, s'.heap.get? b = some o ∧ ∀ v, o.data ≠ .cell v) ∧ H' b = none) ∧ (∀ b ∈ mv, sc.heap.objs.size ≤ b ∧ b ≠ ga) ∧ (∀ b ∈ st, sc.heap.get? b = none) ∧
    s'.gens[gi]? = some gs ∧ asleep gs = true ∧ Nap (model X.prog X.w) mv st rest gs s'.heap ∧ W i σ' H' ∧
    (∀ i σ' H', W i σ' H' → (i = ys.length → D.nx σ' H') ∧ ∀ x, ys[i]? = some x → g x σ' H' fun σ2 H3 => tb { D with nx := W (i + 1), ct := W (i + 1), bk := D.nx } σ2 H3)
  -- an item has come: it is stored, the body runs
  have item : ∀ (n : Nat) (s' : Shared) (v : Value) (mv st : List Addr) (rest : List Value) (ys : List V) (i : Nat) (σ' : L2.St) (H' : Hp) (gs : GenState) (W : Nat → L2.St → Hp → Prop) (x : V), rest.length < n → Inv X pins σ' H' s' → ys[i]? = some x → RelV x v → Vals (ys.drop (i + 1)) rest →
      s'.heap.get? ga = some go → H' ga = none → (∀ b ∈ mv ++ st, (∃ o, s'.heap.get? b = some o ∧ ∀ v, o.data ≠ .cell v) ∧ H' b = none) → (∀ b ∈ mv, sc.heap.objs.size ≤ b ∧ b ≠ ga) → (∀ b ∈ st, sc.heap.get? b = none) →
      s'.gens[gi]? = some gs → asleep gs = true → Nap (model X.prog X.w) mv st rest gs s'.heap → W i σ' H' →
      (∀ i σ' H', W i σ' H' → (i = ys.length → D.nx σ' H') ∧ ∀ x, ys[i]? = some x → g x σ' H' fun σ2 H3 => tb { D with nx := W (i + 1), ct := W (i + 1), bk := D.nx } σ2 H3) →
      wpAny (model X.prog X.w) X.A (letOwnedTupleGo tg (.ref ga) v) (fun _ s2 => wpAny (model X.prog X.w) X.A (assign tg X.env v) (fun _ s3 => wpAny (model X.prog X.w) X.A (execs body X.env) (fun f s4 => match f with
            | .next | .cont => ∃ m, m < n ∧ PB m s4
            | .brk => SP X pins D .next s4
            | .ret v => SP X pins D (.ret v) s4) (fun _ _ => False) s3) (fun _ _ => False) s2) (fun _ _ => False) s' := by
    intro n s' v mv st rest ys i σ' H' gs W x hn I' hx rv rr g1 g2 g3 g4 g5 g6 g7 g8 w hW
    refine go_of g1 hgc hgd (by decide) ?_
    have hi : i < ys.length := (List.getElem?_eq_some_iff.mp hx).1
    -- pinned
    have own : ∀ b ∈ ga :: (mv ++ st), (∃ o, s'.heap.get? b = some o ∧ ∀ v, o.data ≠ .cell v) ∧ H' b = none ∧ b ≠ X.env.locals ∧ b ∉ X.fs := fun b hb => by
      rcases List.mem_cons.mp hb with rfl | hb
      · obtain ⟨z1, z2, z3, _⟩ := I1.fpOk (H' := H') hga g2
        exact ⟨⟨go, g1, gacell⟩, g2, z2, z3⟩
      · obtain ⟨z0, z1⟩ := g3 b hb
        rcases List.mem_append.mp hb with hb | hb
        · obtain ⟨_, z2, z3, _⟩ := I1.fpOk (H' := H') (g4 b hb).1 z1
          exact ⟨z0, z1, z2, z3⟩
        · obtain ⟨z2, z3⟩ := stne b (g5 b hb)
          exact ⟨z0, z1, z2, z3⟩
    have Ip : Inv X (pins ++ pinsAt (ga :: (mv ++ st)) s'.heap) σ' H' s' := I'.pins_of fun q hq => (List.mem_append.mp hq).elim (fun z => I'.pin q (List.mem_append_right _ z)) fun z => by
      obtain ⟨hb, e⟩ := of_pinsAt z
      obtain ⟨⟨o, eo, nc⟩, f0, f1, f2⟩ := own q.1 hb
      rw [e] at eo; cases eo
      exact ⟨e, f0, f1, f2, nc⟩
    refine wpAny_mono (asleep_run hgt hbd Ip rv g6 g7 ((hW i σ' H' w).2 x hx)) (fun _ s2 h2 => wpAny_mono h2 (fun fl s3 h3 => ?_) fun _ _ z => z) fun _ _ z => z
    obtain ⟨h3, hs3⟩ := h3
    have again : ∀ {σ3 : L2.St} {H3 : Hp}, Inv X (pins ++ pinsAt (ga :: (mv ++ st)) s'.heap) σ3 H3 s3 → W (i + 1) σ3 H3 → ∃ m, m < n ∧ PB m s3 := fun {σ3 H3} I3 w3 => by
      have stay : ∀ b ∈ ga :: (mv ++ st), ∀ o, s'.heap.get? b = some o → s3.heap.get? b = some o ∧ H3 b = none := fun b hb o eo => by
        have z := I3.pin (b, o) (List.mem_append_right _ (List.mem_append_right _ (mem_pinsAt hb eo)))
        exact ⟨z.1, z.2.1⟩
      refine ⟨rest.length, hn, mv, st, rest, ys, i + 1, σ3, H3, gs, W, I3.unpinned, rfl, rr, hi, (stay ga (by simp) go g1).1, (stay ga (by simp) go g1).2, fun b hb => ?_, g4, g5, hs3, g7, ?_, w3, hW⟩
      · obtain ⟨⟨o, eo, nc⟩, _⟩ := g3 b hb
        obtain ⟨z1, z2⟩ := stay b (List.mem_cons_of_mem _ hb) o eo
        exact ⟨⟨o, z1, nc⟩, z2⟩
      · have st2 : ∀ b ∈ mv ++ st, ∀ o, s3.heap.get? b = some o → s'.heap.get? b = some o := fun b hb o eo => by
          obtain ⟨⟨o', eo', nc⟩, _⟩ := g3 b hb
          obtain ⟨z1, z2⟩ := stay b (List.mem_cons_of_mem _ hb) o' eo'
          rw [eo] at z1; cases z1
          exact eo'
        cases rest with
        | nil => exact fun A s5 h5 k5 => g8 A s5 h5 fun b hb o eo => k5 b hb o (by obtain ⟨⟨o', eo', nc⟩, _⟩ := g3 b hb; rw [eo] at eo'; cases eo'; exact (stay b (List.mem_cons_of_mem _ hb) o eo).1)
        | cons y r => exact fun A s5 h5 k5 => g8 A s5 h5 fun b hb o eo => k5 b hb o (by obtain ⟨⟨o', eo', nc⟩, _⟩ := g3 b hb; rw [eo] at eo'; cases eo'; exact (stay b (List.mem_cons_of_mem _ hb) o eo).1)
    cases fl with
    | next => obtain ⟨σ3, H3, I3, q3⟩ := h3; exact again I3 q3
    | cont => obtain ⟨σ3, H3, I3, q3⟩ := h3; exact again I3 q3
    | brk => obtain ⟨σ3, H3, I3, q3⟩ := h3; exact ⟨σ3, H3, I3.unpinned, q3⟩
    | ret v => obtain ⟨v3, σ3, H3, I3, r3, q3⟩ := h3; exact ⟨v3, σ3, H3, I3.unpinned, r3, q3⟩
  have hrm : Room k X.A.in1 := hr.in1
  have hfrm : X.A.in1.frames = some X.stack := I1.ok.frames
  have hhd : X.A.handled = none := I1.ok.hd hc
  let QN : Nat → Option Value → Shared → Prop := fun n r s2 => match r with
    | none => ∃ σ' H', Inv X pins σ' H' s2 ∧ D.nx σ' H'
    | some v => wpAny (model X.prog X.w) X.A (letOwnedTupleGo tg (.ref ga) v) (fun _ s2 => wpAny (model X.prog X.w) X.A (assign tg X.env v) (fun _ s3 => wpAny (model X.prog X.w) X.A (execs body X.env) (fun f s4 => match f with
            | .next | .cont => ∃ m, m < n ∧ PB m s4
            | .brk => SP X pins D .next s4
            | .ret v => SP X pins D (.ret v) s4) (fun _ _ => False) s3) (fun _ _ => False) s2) (fun _ _ => False) s2
  refine codeAny_forLoop_any (fun n s' => (n = sizeLine + 2 ∧ s' = s1) ∨ PB n s') ?_ (sizeLine + 2) (.inl ⟨rfl, rfl⟩)
  intro n s' hI
  refine wpAny_passesOwn hp (wpAny_mono (Q := QN n) (E := fun _ _ => False) ?_ (fun r s2 h2 => ?_) fun _ _ z => z.elim)
  · rcases hI with ⟨rfl, rfl⟩ | hB
    · -- the first
      refine next_wk hhd hlim hr.depth (hgen _ hgo) hfr ?_
      have fin : ∀ (e : End) (s2 : Shared), (s'.gens.size ≤ s2.gens.size ∧ FRes X.prog X.w X.stack H1 sc ga go (fun ys H2 => ∃ W : Nat → L2.St → Hp → Prop, W 0 σ H2 ∧ ∀ i σ' H', W i σ' H' → (i = ys.length → D.nx σ' H') ∧ ∀ x, ys[i]? = some x → g x σ' H' fun σ2 H3 => tb { D with nx := W (i + 1), ct := W (i + 1), bk := D.nx } σ2 H3) e s2) →
          (∃ v l k c p fs, e = .susp v false l k c p fs ∧ fs.any Frame.guarded = false ∧ QN (sizeLine + 2) (some v) (s2.setGen gi (.suspended k l c p fs false))) ∨ ((e = .ret (.ok (.ret .none)) ∨ e = .ret (.ok .next)) ∧ ∀ h', (∀ b o, s2.heap.get? b = some o → h'.get? b = some o) → QN (sizeLine + 2) none { s2.setGen gi .finished with heap := h' }) := by
        rintro e s2 ⟨hsz, mv, st, vs2, ys, H', rv, hle, ⟨W, w0, hW⟩, q1, q2, q3, q4, q5, q6, q7, q8, q9⟩
        have hgl : gi < s2.gens.size := Nat.lt_of_lt_of_le hgS hsz
        cases vs2 with
        | nil =>
          have hys : ys = [] := by cases rv; rfl
          refine .inr ⟨.inl q9, fun h' kk => ?_⟩
          refine ⟨σ, H', ?_, (hW 0 σ H' w0).1 (by rw [hys]; rfl)⟩
          exact I1.call' (ch := []) (s' := { s2.setGen gi .finished with heap := h' }) q1 (q3.trans (Un.kept kk)) (q4.kept kk) (allBare_setGen q2 rfl) fun b z => absurd z (by simp)
        | cons v r =>
          obtain ⟨l, k0, c0, p0, fs, rfl, hfs, hnc, hnap⟩ := q9
          refine .inl ⟨v, l, k0, c0, p0, fs, rfl, hfs, ?_⟩
          cases ys with
          | nil => cases rv
          | cons x yr =>
            have rv1 : RelV x v ∧ Vals yr r := by cases rv with | cons a b => exact ⟨a, b⟩
            have hlen : yr.length = r.length := rv1.2.length
            have hyl : yr.length + 1 ≤ sizeLine := hle
            have I2 : Inv X pins σ H' (s2.setGen gi (.suspended k0 l c0 p0 fs false)) := I1.call' (ch := []) (s' := s2.setGen gi (.suspended k0 l c0 p0 fs false)) q1 q3 q4 (allBare_setGen q2 rfl) fun b z => absurd z (by simp)
            refine item (sizeLine + 2) _ v mv st r (x :: yr) 0 σ H' (.suspended k0 l c0 p0 fs false) W x (by omega) I2 rfl rv1.1 rv1.2 q5 q6 (fun b hb => ⟨hnc b hb, ?_⟩) (fun b hb => ⟨(q7 b hb).1, (q7 b hb).2.2⟩) (fun b hb => (q8 b hb).1) (setGen_at hgl) rfl hnap w0 hW
            rcases List.mem_append.mp hb with hb | hb
            · exact (q7 b hb).2.1
            · exact (q8 b hb).2
      exact go_imp (wk_size (x := .fresh c) (wake X.A.in1 (s'.setGen gi .running) hrm hfrm (fun b o e => e) hos (allBare_setGen hba rfl))) (fun e s2 z => fin e s2 ⟨by have z1 := z.1; rw [GenW.setGen_size] at z1; exact z1, z.2⟩)
    · -- a later one
      obtain ⟨mv, st, rest, ys, i, σ', H', gs, W, I', rfl, rr, hi, g1, g2, g3, g4, g5, g6, g7, g8, w, hW⟩ := hB
      refine next_wk hhd I'.nolimit hr.depth (hgen _ g1) g6 ?_
      have hgl : gi < s'.gens.size := (Array.getElem?_eq_some_iff.mp g6).1
      -- the state behind the turn
      have back : ∀ (h' : Heap) (tk : Nat) (y : GenState), y.bare = true → (∀ b o, b ∉ mv → s'.heap.get? b = some o → h'.get? b = some o) → Inv X pins σ' H' ({ s' with heap := h', gens := (s'.gens.setIfInBounds gi .running).setIfInBounds gi y, toks := tk }) := fun h' tk y hy k1 => by
        have hb1 : AllBare (s'.setGen gi .running).gens := allBare_setGen I'.bare rfl
        refine I'.call' (ch := mv) rfl (un_mv k1) (fun b o q => ?_) (allBare_setGen (s := s'.setGen gi .running) hb1 hy) fun b hb => ?_
        · refine (I'.hok b o q).stay (fun c u hc e => k1 c u (fun hm => ?_) e) (fun _ z => z) fun _ _ z => z
          have hn := (g3 c (List.mem_append_left _ hm)).2
          rcases hc with rfl | hc
          · rw [hn] at q; cases q
          · rw [hn] at hc; cases hc
        · obtain ⟨_, z2, z3, z4, z5, z6⟩ := I1.fpOk (H' := H') (g4 b hb).1 (g3 b (List.mem_append_left _ hb)).2
          exact ⟨z4, z2, z5, z6⟩
      have gaK : ∀ h' : Heap, (∀ b o, b ∉ mv → s'.heap.get? b = some o → h'.get? b = some o) → h'.get? ga = some go := fun h' k1 => k1 ga go (fun hm => (g4 ga hm).2 rfl) g1
      have at2 : ∀ y : GenState, ((s'.gens.setIfInBounds gi .running).setIfInBounds gi y)[gi]? = some y := fun y => by simp [hgl]
      cases rest with
      | nil =>
        have hz : i = ys.length := by
          have z := rr.length
          rw [List.length_drop, List.length_nil] at z
          omega
        have z := g8 X.A.in1 (s'.setGen gi .running) hhd (fun b hb o e => e)
        have imp : ∀ (e : End) (s2 : Shared), (∃ h' tk, s2 = ({ s'.setGen gi .running with heap := h', toks := tk } : Shared) ∧ (∀ b o, b ∉ mv → (s'.setGen gi .running).heap.get? b = some o → h'.get? b = some o) ∧ e = .ret (.ok (.ret .none))) →
          (∃ v l k c p fs, e = .susp v false l k c p fs ∧ fs.any Frame.guarded = false ∧ QN ([] : List Value).length (some v) (s2.setGen gi (.suspended k l c p fs false))) ∨ ((e = .ret (.ok (.ret .none)) ∨ e = .ret (.ok .next)) ∧ ∀ h', (∀ b o, s2.heap.get? b = some o → h'.get? b = some o) → QN ([] : List Value).length none { s2.setGen gi .finished with heap := h' }) := by
          rintro e s2 ⟨h1, tk, rfl, k1, he⟩
          refine .inr ⟨.inl he, fun h' kk => ⟨σ', H', ?_, (hW i σ' H' w).1 hz⟩⟩
          exact back h' tk .finished rfl fun b o hb e => kk b o (k1 b o hb e)
        cases gs with
        | suspended k l c p fs cl => exact go_imp (t := k (.send .none)) z imp
        | fresh c => cases g7
        | running => cases g7
        | finished => cases g7
      | cons v r =>
        have hlt : i < ys.length := by
          have z := rr.length
          rw [List.length_drop, List.length_cons] at z
          omega
        have hd2 : ys.drop i = ys[i] :: ys.drop (i + 1) := List.drop_eq_getElem_cons hlt
        have rv1 : RelV ys[i] v ∧ Vals (ys.drop (i + 1)) r := by
          rw [hd2] at rr
          cases rr with | cons a b => exact ⟨a, b⟩
        have z := g8 X.A.in1 (s'.setGen gi .running) hhd (fun b hb o e => e)
        have imp : ∀ (e : End) (s2 : Shared), (∃ h' tk, s2 = ({ s'.setGen gi .running with heap := h', toks := tk } : Shared) ∧ (∀ b o, b ∉ mv → (s'.setGen gi .running).heap.get? b = some o → h'.get? b = some o) ∧ (∀ b ∈ mv ++ st, ∃ o, h'.get? b = some o ∧ ∀ v, o.data ≠ .cell v) ∧
              ∃ l k c p fs, e = End.susp v false l k c p fs ∧ fs.any Frame.guarded = false ∧ Nap (model X.prog X.w) mv st r (.suspended k l c p fs false) h') →
          (∃ v' l k c p fs, e = .susp v' false l k c p fs ∧ fs.any Frame.guarded = false ∧ QN (v :: r).length (some v') (s2.setGen gi (.suspended k l c p fs false))) ∨ ((e = .ret (.ok (.ret .none)) ∨ e = .ret (.ok .next)) ∧ ∀ h', (∀ b o, s2.heap.get? b = some o → h'.get? b = some o) → QN (v :: r).length none { s2.setGen gi .finished with heap := h' }) := by
          rintro e s2 ⟨h1, tk, rfl, k1, k2, l, k, c, p, fs, he, hfs, hnap⟩
          refine .inl ⟨v, l, k, c, p, fs, he, hfs, ?_⟩
          exact item (v :: r).length _ v mv st r ys i σ' H' (.suspended k l c p fs false) W ys[i] (by simp) (back h1 tk (.suspended k l c p fs false) rfl k1) (List.getElem?_eq_getElem hlt) rv1.1 rv1.2 (gaK h1 k1) g2
            (fun b hb => ⟨k2 b hb, (g3 b hb).2⟩) g4 g5 (at2 _) rfl hnap w hW
        cases gs with
        | suspended k l c p fs cl => exact go_imp (t := k (.send .none)) z imp
        | fresh c => cases g7
        | running => cases g7
        | finished => cases g7
  · cases r with
    | none =>
      obtain ⟨σ', H', I', q⟩ := h2
      exact wpAny_execs_nil ⟨σ', H', I', q⟩
    | some v =>
      refine wpAny_mono h2 (fun _ s3 h3 => wpAny_mono h3 (fun _ s4 h4 => wpAny_mono h4 (fun fl s5 h5 => ?_) fun _ _ z => z.elim) fun _ _ z => z.elim) fun _ _ z => z.elim
      cases fl with
      | next => obtain ⟨m, h6, h7⟩ := h5; exact ⟨m, h6, .inr h7⟩
      | cont => obtain ⟨m, h6, h7⟩ := h5; exact ⟨m, h6, .inr h7⟩
      | brk => exact h5
      | ret v => exact h5
end
end GF
-- GX
set_option Elab.async false
set_option linter.all false
set_option maxRecDepth 100000
set_option maxHeartbeats 1000000
/-! In a generator's body: if and for around a yield; its call with keywords. -/
namespace GF
open PySem PySem.Spec PyProof.Rows L2 GenW

section
variable {M : Model} {A : Around} {R : GenEnd} {Y : Protocol} {n : Nat} {s0 s : Shared} {c : Code} {fs : List Frame} {env : Env} {K : Flow → Sem PySem.Fin} {H : Value → Sem PySem.Fin} {gd : Bool → Bool} {lv : List Value → List Value}
theorem seg_For {tg iter : Expr} {body : List Stmt} {pos : Pos}
    (h : wpAny M (A.over c fs) (eval iter env) (fun v s1 => wpAny M (A.over c fs) (pyIter v) (fun it s2 => ∀ p, Seg M A R Y n s0 (.forLoop tg it body [] env) (M.den (.forLoop tg it body [] env)) (.ret (loopK env K H gd lv) none (gd false) (lv []) c p [] :: fs) s2) (fun x s' => Seg M A R Y n s0 c (H x) fs s') s1) (fun x s' => Seg M A R Y n s0 c (H x) fs s') s)
    (hs : ∀ x, foldedSetIterable iter env x = pure x := by intro _; rfl) : Seg M A R Y n s0 c ((exec (.For tg iter body [] pos) env).wrap K H gd lv) fs s := by
  rw [exec_For]
  refine seg_bind_wrap (wpAny_standAt ?_)
  refine seg_bind_wrap ?_
  refine wpAny_mono h (fun v s1 h1 => ?_) fun _ _ z => z
  refine seg_bind_wrap ?_
  rw [hs]
  refine wpAny_pure ?_
  refine seg_bind_wrap (wpAny_standAt ?_)
  refine seg_bind_wrap (wpAny_holding ?_)
  refine wpAny_mono h1 (fun it s2 h2 => ?_) fun _ _ z => z
  exact seg_call fun p => h2 p
theorem seg_If {test : Expr} {a b : List Stmt} {pos : Pos}
    (h : wpAny M (A.over c fs) (isTrue test env (eval test env)) (fun x s' => if x = true then Seg M A R Y n s0 c ((execs a env).wrap K H gd lv) fs s' else Seg M A R Y n s0 c ((execs b env).wrap K H gd lv) fs s') (fun x s' => Seg M A R Y n s0 c (H x) fs s') s) :
    Seg M A R Y n s0 c ((exec (.If test a b pos) env).wrap K H gd lv) fs s := by
  show Seg M A R Y n s0 c ((standAt pos >>= fun _ => isTrue test env (eval test env) >>= fun x => if x = true then execs a env else execs b env).wrap K H gd lv) fs s
  refine seg_bind_wrap (wpAny_standAt ?_)
  refine seg_bind_wrap (wpAny_mono h (fun x s1 h1 => ?_) fun _ _ z => z)
  cases x with
  | true => rw [if_pos rfl] at h1 ⊢; exact h1
  | false => rw [if_neg Bool.false_ne_true] at h1 ⊢; exact h1
end
section
variable {prog : Program} {w : World} {A : Around} {R : GenEnd} {Y : Protocol} {n : Nat} {s0 s : Shared} {fs : List Frame} {env : Env}
theorem seg_turn {tg : Expr} {it : Value} {body : List Stmt}
    (h : wpAny (model prog w) (A.over (.forLoop tg it body [] env) fs) (pyNext it) (fun r s1 => match r with
      | none => Seg (model prog w) A R Y n s0 (.block [] env) (.pure (.done .next)) fs s1
      | some v => wpAny (model prog w) (A.over (.forLoop tg it body [] env) fs) (letOwnedTupleGo tg it v) (fun _ s2 => wpAny (model prog w) (A.over (.forLoop tg it body [] env) fs) (assign tg env v)
          (fun _ s3 => Seg (model prog w) A R Y n s0 (.forLoop tg it body [] env) ((execs body env).wrap (turnK (.forLoop tg it body [] env)) (noteK env) id id) fs s3) (fun x s' => Seg (model prog w) A R Y n s0 (.forLoop tg it body [] env) (noteK env x) fs s') s2) (fun x s' => Seg (model prog w) A R Y n s0 (.forLoop tg it body [] env) (noteK env x) fs s') s1)
      (fun x s' => Seg (model prog w) A R Y n s0 (.forLoop tg it body [] env) (noteK env x) fs s') s) :
    Seg (model prog w) A R Y n s0 (.forLoop tg it body [] env) ((model prog w).den (.forLoop tg it body [] env)) fs s := by
  have e2 : (fun e => (Sem.raise e : Sem PySem.Fin).wrap (Sem.pure : PySem.Fin → Sem PySem.Fin) (fun e => ((do noteFrame e env; theTreesLotGoes e : Sem Unit)).bind fun _ => Sem.raise e) id id) = noteK env := by
    funext e
    show ((do noteFrame e env; theTreesLotGoes e : Sem Unit)).bind (fun _ => Sem.raise e) = _
    rw [Sem.bind_eq_wrap]
    rfl
  have ex : ∀ x s', Seg (model prog w) A R Y n s0 (.forLoop tg it body [] env) (noteK env x) fs s' → Seg (model prog w) A R Y n s0 (.forLoop tg it body [] env) (((do noteFrame x env; theTreesLotGoes x : Sem Unit)).bind fun _ => Sem.raise x) fs s' := fun x s' z => by
    rw [Sem.bind_eq_wrap]
    exact z
  show Seg (model prog w) A R Y n s0 (.forLoop tg it body [] env) ((forTurn tg it body [] env).onRaise (fun x => do noteFrame x env; theTreesLotGoes x)) fs s
  unfold forTurn
  rw [Sem.onRaise_eq_wrap]
  refine seg_bind_wrap (wpAny_standAt ?_)
  refine seg_bind_wrap (wpAny_onRaise (wpAny_mono h (fun r s1 h1 => ?_) fun x s' z => wpAny_standAt (ex x s' z)))
  cases r with
  | none =>
    refine seg_again rfl ?_
    show Seg (model prog w) A R Y n s0 (.block [] env) ((execs [] env).onRaise (fun x => do noteFrame x env; theTreesLotGoes x) >>= fun f => pure (Fin.done f)) fs s1
    exact h1
  | some v =>
    refine seg_bind_wrap (wpAny_mono h1 (fun _ s2 h2 => ?_) ex)
    refine seg_bind_wrap (wpAny_mono h2 (fun _ s3 h3 => ?_) ex)
    rw [Sem.bind_eq_wrap', Sem.wrap_wrap]
    have e1 : (fun a => ((match a with
          | .next | .cont => again (.forLoop tg it body [] env)
          | .brk => pure (.done .next)
          | .ret v => pure (.done (.ret v)) : Sem PySem.Fin)).wrap (Sem.pure : PySem.Fin → Sem PySem.Fin) (fun e => ((do noteFrame e env; theTreesLotGoes e : Sem Unit)).bind fun _ => Sem.raise e) id id) = turnK (.forLoop tg it body [] env) := by
      funext a
      cases a <;> rfl
    have e3 := Sem.wrap_congr (execs body env) id id (fun a => congrFun e1 a) (fun e => congrFun e2 e)
    exact Eq.mpr (congrArg (fun t => Seg (model prog w) A R Y n s0 (.forLoop tg it body [] env) t fs s3) e3) h3
end

def tGIf (c : TT) (t u : TGn) : TGn := fun D ys σ H => c σ H fun b H1 => if b = true then t D ys σ H1 else u D ys σ H1
def tGFor (wi : TI) (g : TG) (tb : TGn) : TGn := fun D ys σ H => wi σ H fun J H1 => ∃ W : Nat → Nat → List V → L2.St → Hp → Prop, (∃ m, W 0 m ys σ H1) ∧ ∀ i m ys σ H, W i m ys σ H →
  (J.stop i H ∧ D.nx ys σ H) ∨ (J.go i H ∧ ∃ N : List V → L2.St → Hp → Prop, (∀ ys' σ' H', N ys' σ' H' → ∃ m', m' < m ∧ W (i + 1) m' ys' σ' H') ∧ ∀ x H', J.yld i H x H' → g x σ H' fun σ2 H2 => tb { D with nx := N, ct := N, bk := D.nx } ys σ2 H2)

section
variable {X : Cx} {a b : List Stmt} {test tg iter : Expr} {body : List Stmt} {pos : Pos} {tc : TT} {t u tb : TGn} {wi : TI} {g : TG}
theorem gs_if (hc : PT X test tc) (ha : GSs X a t) (hb : GSs X b u) : GS X (.If test a b pos) (tGIf tc t u) := by
  refine ⟨fun A S ip R n ys s0 c fs K J gd lv s σ H D gc hn k hI ht => ?_⟩
  refine seg_If ?_
  rw [gc.over]
  obtain ⟨acc, cc, r, I⟩ := hI
  refine wpAny_mono (hc.run _ s σ H _ I ht) (fun x s1 hx => ?_) fun x s' hx => k.exc n s0 x s' hx
  obtain ⟨H1, I1, q⟩ := hx
  cases x with
  | true =>
    rw [if_pos rfl] at q ⊢
    exact ha.run A S ip R n ys s0 c fs K J gd lv s1 σ H1 D gc hn k ⟨acc, cc, r, I1⟩ q
  | false =>
    rw [if_neg Bool.false_ne_true] at q ⊢
    exact hb.run A S ip R n ys s0 c fs K J gd lv s1 σ H1 D gc hn k ⟨acc, cc, r, I1⟩ q

theorem gs_for (hp : PassesOwn (model X.prog X.w) X.A X.env X.xe) (hc : X.calm = true) (hi : PI X tg iter wi) (hg : PG X tg g) (hb : GSs X body tb)
    (hs : ∀ x, foldedSetIterable iter X.env x = pure x := by intro _; rfl) : GS X (.For tg iter body [] pos) (tGFor wi g tb) := by
  refine ⟨fun A S ip R n ys s0 c fs K J gd lv s σ H D gc hn k hI ht => ?_⟩
  obtain ⟨acc0, cc0, r0, I0⟩ := hI
  refine seg_For ?_ hs
  rw [gc.over]
  refine wpAny_mono (hi.run _ s σ H _ I0 ht) (fun v s1 h1 => ?_) fun x s' hx => k.exc n s0 x s' hx
  refine wpAny_mono h1 (fun itv s2 h2 => ?_) fun x s' hx => k.exc n s0 x s' hx
  obtain ⟨it, fp, tn, JJ, H2, rfl, I2, T, st2, f2, W, ⟨m0, w0⟩, turn⟩ := h2
  intro p
  have gl := gc_loop (k := loopK X.env K J gd lv) (c' := .forLoop tg (.ref it) body [] X.env) (l := lv []) (kp := []) (p := p) gc rfl rfl
  have fS : ∀ b ∈ fp, b ≠ S := fun b hb z => (f2 b hb).2.2.2.2.2 (S, lstObj acc0 cc0) (by simp) z.symm
  have stat : ∀ {H' : Hp} {acc : Array Value} {cc : Nat}, (∀ b ∈ fp, H' b = none) → ∀ b ∈ fp, FpOk X ((S, lstObj acc cc) :: ip) H' b := fun {H' acc cc} hn b hb => by
    obtain ⟨_, z2, z3, z4, z5, z6⟩ := f2 b hb
    refine ⟨hn b hb, z2, z3, z4, z5, fun q hq => ?_⟩
    rcases List.mem_append.mp hq with hq | hq
    · exact z6 q (List.mem_append_left _ hq)
    · rcases List.mem_cons.mp hq with rfl | hq
      · exact (fS b hb).symm
      · exact z6 q (List.mem_append_right _ (List.mem_cons_of_mem _ hq))
  have loop : ∀ (m n i : Nat) (ys : List V) (s0 s : Shared) (σ : L2.St) (H : Hp), n + ys.length = sizeLine → W i m ys σ H → GI X S ip ys σ H s → tn i s.heap → (∀ b ∈ fp, H b = none) →
      Seg (model X.prog X.w) A R (GY X S) n s0 (.forLoop tg (.ref it) body [] X.env) ((model X.prog X.w).den (.forLoop tg (.ref it) body [] X.env)) (.ret (loopK X.env K J gd lv) none (gd false) (lv []) c p [] :: fs) s := by
    intro m
    induction m using Nat.strongRecOn with
    | ind m ih =>
      intro n i ys s0 s σ H hn w hI st3 fr3
      have ee : ∀ (n : Nat) (s0 : Shared) (x : Value) (s' : Shared), X.xe x s' → Seg (model X.prog X.w) A R (GY X S) n s0 (.forLoop tg (.ref it) body [] X.env) (noteK X.env x) (.ret (loopK X.env K J gd lv) none (gd false) (lv []) c p [] :: fs) s' := fun n s0 x s' hx => by
        refine seg_wrap ?_
        rw [gl.over]
        refine wpAny_bind (wpAny_mono (hp x s' hx) (fun _ s'' hcb => wpAny_theTreesLotGoes ?_) fun y s'' hcb => ?_)
        · exact seg_leaf (.error x) (seg_cameBack gc k hcb)
        · exact seg_leaf (.error y) (seg_cameBack gc k hcb)
      obtain ⟨acc, cc, r, I3⟩ := hI
      refine seg_turn ?_
      rw [gl.over]
      rcases turn i m ys σ H w with ⟨stop, qn⟩ | ⟨go, N, hN, step⟩
      · refine wpAny_mono (T.done X rfl rfl rfl hc i _ s σ H X.xe I3 (stat fr3) st3 stop) (fun z s4 h4 => ?_) fun x s' hx => ee n s0 x s' hx
        obtain ⟨rfl, I4⟩ := h4
        exact seg_leaf (.ok .next) (k.ok n ys s0 s4 .next hn ⟨σ, H, ⟨acc, cc, r, I4⟩, qn⟩)
      · refine wpAny_mono (T.item X rfl rfl rfl hc i _ s σ H X.xe I3 (stat fr3) st3 go) (fun z s4 h4 => ?_) fun x s' hx => ee n s0 x s' hx
        obtain ⟨v, rfl, h4⟩ := h4
        refine wpAny_mono h4 (fun _ s5 h5 => ?_) fun x s' hx => ee n s0 x s' hx
        obtain ⟨x, H5, I5, r5, y5, st5, fr5⟩ := h5
        have I5' := I5.pinned (stat fr5) (T.obj _ _ st5)
        refine wpAny_mono (hg.run _ s5 σ H5 x v _ I5' r5 (step x H5 y5)) (fun _ s6 h6 => ?_) fun x s' hx => ee n s0 x s' hx
        obtain ⟨σ6, H6, I6, q6⟩ := h6
        have pnS : ∀ q ∈ ip ++ pinsAt fp s5.heap, q.1 ≠ S := fun q hq => by
          rcases List.mem_append.mp hq with hq | hq
          · exact gc.ip q hq
          · exact fS q.1 (of_pinsAt hq).1
        have gl2 : GC X S (ip ++ pinsAt fp s5.heap) A (.forLoop tg (.ref it) body [] X.env) (.ret (loopK X.env K J gd lv) none (gd false) (lv []) c p [] :: fs) id := ⟨gl.pn, pnS, gl.apart, gl.over, gl.split, gl.guard, gl.gd⟩
        refine hb.run A S (ip ++ pinsAt fp s5.heap) R n ys s0 _ _ _ _ id id s6 σ6 H6 { D with nx := N, ct := N, bk := D.nx } gl2 hn ⟨fun n' ys' s0' s7 f hn' hs => ?_, fun n' s0' x s7 hx => ee n' s0' x s7 hx⟩ ⟨acc, cc, r, I6⟩ q6
        have unpin : ∀ {ys' : List V} {σ7 : L2.St} {H7 : Hp}, GI X S (ip ++ pinsAt fp s5.heap) ys' σ7 H7 s7 → GI X S ip ys' σ7 H7 s7 := fun {ys' σ7 H7} hG => by
          obtain ⟨acc', cc', r', I'⟩ := hG
          refine ⟨acc', cc', r', I'.pins_of fun q hq => I'.pin q (List.mem_append_right _ ?_)⟩
          rcases List.mem_cons.mp hq with rfl | hq
          · exact List.mem_cons_self ..
          · exact List.mem_cons_of_mem _ (List.mem_append_left _ hq)
        have again : ∀ {σ7 : L2.St} {H7 : Hp}, GI X S (ip ++ pinsAt fp s5.heap) ys' σ7 H7 s7 → N ys' σ7 H7 → Seg (model X.prog X.w) A R (GY X S) n' s0' (.forLoop tg (.ref it) body [] X.env) (.pure (.again (.forLoop tg (.ref it) body [] X.env))) (.ret (loopK X.env K J gd lv) none (gd false) (lv []) c p [] :: fs) s7 := fun {σ7 H7} hG n7 => by
          obtain ⟨m', hm, w7⟩ := hN ys' σ7 H7 n7
          have hG' := unpin hG
          obtain ⟨acc', cc', r', I'⟩ := hG
          have pin7 : ∀ q ∈ pinsAt fp s5.heap, s7.heap.get? q.1 = some q.2 ∧ H7 q.1 = none := fun q hq => by
            have z := I'.pin q (List.mem_append_right _ (List.mem_cons_of_mem _ (List.mem_append_right _ hq)))
            exact ⟨z.1, z.2.1⟩
          refine seg_again rfl (ih m' hm n' (i + 1) ys' s0' s7 σ7 H7 hn' w7 hG' (T.keep _ _ _ st5 fun b hb o e => (pin7 (b, o) (mem_pinsAt hb e)).1) fun b hb => ?_)
          obtain ⟨o, e, d⟩ := T.obj _ _ st5 b hb
          exact (pin7 (b, o) (mem_pinsAt hb e)).2
        cases f with
        | next => obtain ⟨σ7, H7, I7, n7⟩ := hs; exact again I7 n7
        | cont => obtain ⟨σ7, H7, I7, n7⟩ := hs; exact again I7 n7
        | brk => obtain ⟨σ7, H7, I7, q7⟩ := hs; exact seg_leaf (.ok .next) (k.ok n' ys' s0' s7 .next hn' ⟨σ7, H7, unpin I7, q7⟩)
        | ret v => obtain ⟨x7, σ7, H7, I7, r7, q7⟩ := hs; exact seg_leaf (.ok (.ret v)) (k.ok n' ys' s0' s7 (.ret v) hn' ⟨x7, σ7, H7, unpin I7, r7, q7⟩)
  exact loop m0 n 0 ys s0 s2 σ H2 hn w0 ⟨acc0, cc0, r0, I2⟩ st2 fun b hb => (f2 b hb).1
end

/-! ### the call with keywords -/
section
variable {X : Cx} {k n : Nat} {f : Addr} {fd : FuncData} {ps ks : List Str} {sp : SpG} {E : XK} {x : Str} {p pos : Pos} {e : Expr} {es : List Expr} {kws : List Keyword} {t tk : TA} {g : List Value → List Value → List Value} {gV : List V → List V → List V}
def tCallGN (n m : Nat) (sp : SpG) (gV : List V → List V → List V) (E : XK) (t tk : TA) : TGen := fun σ H cont => t σ H fun vs H1 => tk σ H1 fun zs H2 => vs.length = n ∧ zs.length = m ∧ sp (gV vs zs) H2 cont E
theorem pgen_callN {E : XK} (F : GFn X.prog X.w X.K X.mg X.base k f fd ps sp) (hr : Room k X.A) (hg : Gl X x) (hm : X.mg x = some (.ref f)) (hk : PySem.W.keepIn X.K (.ref f) = true) (hb : KBn X.K fd ps n ks g gV)
    (ha : PA X (e :: es) t) (hkw : PK X kws tk) (hall : (backToKw pos (keywordEach kws X.env)).all (·.1.isSome) = true := by rfl) (hks : (backToKw pos (keywordEach kws X.env)).filterMap (·.1) = ks := by rfl)
    (hdb : (x == ("__debug__" : Str)) = false := by decide) (he : starEach (e :: es) X.env = (false, eval e X.env) :: starEach es X.env := by rfl)
    (hpl : ((backTo pos (starEach (e :: es) X.env)).any (·.1) || (backToKw pos (keywordEach kws X.env)).any (·.1.isNone)) = false := by rfl) :
    PGen X k (.Call (.Name x p) (e :: es) kws pos) (tCallGN n ks.length sp gV E t tk) E := by
  refine ⟨fun pins s σ H cont I h => ?_⟩
  refine wpAny_Call_Name_kw (ld_glob I hg hm ?_ hdb)
  refine PySem.W.callWith_KW (h₀ := X.base) I.ok.mod.kin hk hall (thn (ha.run pos pins s σ H _ I h) fun us s1 ⟨vs, H1, I1, r, q⟩ => ?_) hpl he
  refine thn (hkw.run pos pins s1 σ H1 _ I1 q) fun ws s2 ⟨zs, H2, I2, rz, l1, l2, q2⟩ => ⟨I2.kIn, ?_⟩
  rw [hks]
  have r2 := hb.rel r rz
  have hl2 : (g us ws).length = ps.length := by
    rw [← r2.length]
    exact F.len _ _ _ _ q2
  refine wpAny_call (codeAny_mono (F.run X.A X.stack s2 H2 ⟨us, ks.zip ws⟩ (g us ws) (gV vs zs) cont E hr I2.env0 (hb.to s2 us ws I2.kIn (r.length.symm.trans l1) (rz.length.symm.trans l2)) r2 q2) fun r s' hq => ?_)
  cases r with
  | error e => exact hq.elim
  | ok fl =>
    cases fl with
    | ret u => exact ⟨H2, s2, [], I2, .nil, hq⟩
    | next => exact hq.elim
    | brk => exact hq.elim
    | cont => exact hq.elim
end
end GF
-- EX1
set_option Elab.async false
set_option linter.all false
set_option maxRecDepth 100000
set_option maxHeartbeats 4000000
/-! TooLarge(limit): an error whose __init__ says super().__init__('too large'); self.limit = limit. -/
namespace TL
open PySem PySem.W PySem.Calls PyProof.Rows PySem.HandSPX

def iA : Arguments := { posonlyargs := [], args := [{ arg := "self", annotation := none, pos := ⟨25, 17, 25, 21⟩ }, { arg := "limit", annotation := none, pos := ⟨25, 23, 25, 28⟩ }], vararg := none, kwonlyargs := [], kw_defaults := [], kwarg := none, defaults := [] }
def iB : List Stmt :=
  [.Expr (.Call (.Attribute (.Call (.Name "super" ⟨26, 8, 26, 13⟩) [] [] ⟨26, 8, 26, 15⟩) "__init__" ⟨26, 8, 26, 24⟩) [.Constant (.str "too large") 0 ⟨26, 25, 26, 36⟩] [] ⟨26, 8, 26, 37⟩) ⟨26, 8, 26, 37⟩,
    .Assign [.Attribute (.Name "self" ⟨27, 8, 27, 12⟩) "limit" ⟨27, 8, 27, 18⟩] (.Name "limit" ⟨27, 21, 27, 26⟩) ⟨27, 8, 27, 26⟩]
def iS : Scope := { kind := .function, names := [(PySem.Str.ofString "self", .local), (PySem.Str.ofString "limit", .local), (PySem.Str.ofString "__class__", .free), (PySem.Str.ofString "super", .globalImplicit)], isGenerator := false, isCoroutine := false, more := [] }
/-- what the written part says of TooLarge, at C, and of its __init__, at fI -/
structure TlTxt (prog : Program) (K : Frag) (mg : Str → Option Value) (C fI : Addr) : Prop where
  gC : mg "TooLarge" = some (.ref C)
  gS : mg "super" = none
  cls : ∃ nm q N bs bm sn sub ab col dd k0 k1 k2 k3 k5, K.lookup C = some (excClassObj nm q C N bs bm true sn sub ab col dd k0 k1 k2 k3 k5 "ValueError.__new__") ∧ refsVE bm = true
  sa : findIn K (.ref C) "__setattr__" = some (some (.builtin "object.__setattr__"))
  ga : findIn K (.ref C) "__getattribute__" = some (some (.builtin "BaseException.__getattribute__"))
  gg : findIn K (.ref C) "__getattr__" = some none
  noN : findIn K (.ref C) "limit" = some none
  iC : findIn K (.ref C) "__init__" = some (some (.ref fI))
  tC : typeIn K (.ref fI) = some (.type "function")
  kC : keepIn K (.ref C) = true
  exC : subIn K (.ref C) (.type "BaseException") = some true
  veC : subIn K (.ref C) (.type "ValueError") = some true
  tyC : typeIn K (.ref C) = some (.type "type")
  hdC : hasDictIn K C = true
  slf : mroIn K C (.ref C) = some true
  opq : nsIn K cStatics "thirdparty.any" = some none
  sup : ks_superIn K C C "__init__" = some (some (.builtin "ValueError.__init__"))
  fn : ∃ (oc : Value) (od : Option Addr) (doc pm : Value) (an : Option Addr) (cda cc : Addr) (ct : Value) (osl : Array (Option Value)),
    K.lookup fI = some ⟨oc, od, .func (ksFn "__init__" "TooLarge.__init__" iA iB iS .none .none doc pm an (.ref cda) ct cc), osl⟩ ∧ codeIn K (.ref cda) "TooLarge.__init__" = true ∧
    (∃ (ccl : Value) (cdd : Option Addr) (vs : Array Value) (ccs : Array (Option Value)) (file : Str) (tf : Tok), K.lookup cda = some ⟨ccl, cdd, .fields vs, ccs⟩ ∧ vs[2]? = some (.str file tf) ∧ ((prog.main.file : Str) == file) = true) ∧
    ∃ (cl : Value) (cld : Option Addr) (csl : Array (Option Value)), K.lookup cc = some ⟨cl, cld, .cell (some (.ref C)), csl⟩
  top : (prog.main.scope.names.lookup ("super" : Str)).isSome = false
theorem one_size (v : Value) : [v].length ≤ sizeLine := by
  rw [sizeLine_eq]
  exact (by decide : 1 ≤ 16777216)
/-- what __init__ leaves of a fresh exception at x -/
structure InitEnd (h h' : Heap) (x C dx : Addr) (v : Value) : Prop where
  keep : ∀ b o, b ≠ x → h.get? b = some o → h'.get? b = some o
  obj : ∃ t1, h'.get? x = some { cls := .ref C, dict := some dx, data := .fields #[.ref t1, .none, .none, .none, .bool false, .none] }
  dbig : h.objs.size ≤ dx
  dne : dx ≠ x
  ns : h'.Ns1 dx (fun y => if y = "limit" then some v else none)
/-- a made TooLarge -/
structure OwnMade (h h' : Heap) (e C d : Addr) (v : Value) : Prop where
  keep : ∀ b o, h.get? b = some o → h'.get? b = some o
  new : h.objs.size ≤ e
  obj : ∃ oe vs, h'.get? e = some oe ∧ oe.cls = .ref C ∧ oe.dict = some d ∧ oe.data = .fields vs ∧ vs[1]? = some .none
  dbig : h.objs.size ≤ d
  dne : d ≠ e
  ns : h'.Ns1 d (fun y => if y = "limit" then some v else none)
section
variable {prog : Program} {w : World} {A : Around} {E : Value → Shared → Prop} {R : Result → Shared → Prop} {s : Shared} {K : Frag} {mg : Str → Option Value} {C fI : Addr}
/-- the bound ValueError.__init__ is called: the args are laid anew -/
theorem call_mw {hp : Heap} {g : Array GenState} {d : Drawn} {t : Nat} {os : OsState} {nm q : Str} {N : Addr} {bs bm : List Value} {hdct : Bool} {sn : List Str} {sub : List Value} {ab : Bool} {col : Option Bool} {dd : Option Addr} {k0 k1 k2 k3 k5 : Option Value} {u e t0 : Addr} {rest : List Value} {Q : Value → Shared → Prop}
    (hC : hp.get? C = some (excClassObj nm q C N bs bm hdct sn sub ab col dd k0 k1 k2 k3 k5 "ValueError.__new__")) (he : hp.get? e = some (HandSPX.excO C t0)) (hu : hp.get? u = some (kxs_mw "ValueError.__init__" e)) (hrest : rest.length ≤ sizeLine)
    (hq : ∀ h' t1, (∀ b o, b ≠ e → hp.get? b = some o → h'.get? b = some o) → h'.get? e = some (HandSPX.excO C t1) → Q .none ⟨h', g, d, t, os⟩) :
    wpAny (model prog w) A (call (.ref u) rest) Q E ⟨hp, g, d, t, os⟩ := by
  refine wpAny_call (codeAny_of_tree ?_)
  show wpAny _ A.in1 (callAny (.ref u) ⟨rest, []⟩) _ _ _
  simp only [callAny]
  refine wpAny_bind (wpAny_load hu ?_)
  have hty : (Value.type "method-wrapper" == Value.type "method" || Value.type "method-wrapper" == Value.type "builtin_function_or_method" || Value.type "method-wrapper" == Value.type "method-wrapper") = true := by decide
  simp only [kxs_mw, hty, if_true]
  refine KFB.if_so (by decide) ?_
  refine wpAny_bind (check_bound_init F.excBase_ValueError.toExcCallFacts hC he rfl ?_)
  refine wpAny_bind (wpAny_pure (wpAny_pure ?_))
  refine ⟨plainId_quiet F.excBase_ValueError.init.plain _, codeAny_builtin F.excBase_ValueError.initEntry ?_⟩
  rw [Around.under_plainId F.excBase_ValueError.init.plain _]
  wp_walk
  refine hq _ hp.objs.size (fun b o hb ho => ?_) ?_
  · rw [Heap.get?_update_other _ _ (Ne.symm hb)]; exact Heap.get?_push_of_some _ ho
  · rw [Heap.get?_update_self _ (Heap.get?_push_of_some _ he) rfl]; rfl
theorem ldS {M : Model} {s : Shared} {L cda cc : Addr} {m : Str → Option Value} {x : Str} {pos : Pos} {v : Value} {Q : Value → Shared → Prop} {A : Around} {E : Value → Shared → Prop} (hn : s.heap.Ns L m) (hv : m x = some v) (h : Q v s)
    (hl : (ksEnv "TooLarge.__init__" iS L fI (.ref cda) cc).kindOf x = some .local := by rfl) (hd : (x == ("__debug__" : Str)) = false := by decide) :
    wpAny M A (eval (.Name x pos) (ksEnv "TooLarge.__init__" iS L fI (.ref cda) cc)) Q E s := wpAny_Name (wpAny_loadName_local rfl hl hn hv h) hd
theorem tl_init (T : TlTxt prog K mg C fI) {x t0 : Addr} {v : Value} (X : K.In s.heap) (hlim : s.heap.NoLimit) (hg : s.heap.Ns mainGlobals mg) (hb : ∃ mb, s.heap.Ns builtinsNs mb ∧ ∀ x : Str, x ≠ "__name__" → mb x = bootBuiltins x) (hx : s.heap.get? x = some (excO C t0)) (hnx : K.lookup x = none)
    (hgx : x ≠ mainGlobals) (hroom : A.depth < recursionLimit)
    (hq : ∀ h' tk dx, InitEnd s.heap h' x C dx v → R (.ok (.ret .none)) { s with heap := h', toks := tk }) :
    codeAny (model prog w) A (.call (.ref fI) ⟨[.ref x, v], []⟩) R s := by
  obtain ⟨oc, od, doc, pm, an, cda, cc, ct, osl, ho, hcd, ⟨ccl, cdd, fvs, ccs, file, tf, hcda, hv2, hfile⟩, cl, cld, csl, hcc⟩ := T.fn
  obtain ⟨nm, q, N, bs, bm, sn, sub, ab, col, dd, k0, k1, k2, k3, k5, hC, hbm⟩ := T.cls
  obtain ⟨mb, hnb, hmb⟩ := hb
  have hcl : clsIn K C = some { name := nm, bases := bs, mro := .ref C :: bm, ns := N, qualname := q, hasDict := true, slotNames := sn, subclasses := sub, abstract := ab, collection := col, hasDel := false } := by unfold clsIn; rw [hC] <;> rfl
  refine ks_codeAny_call_defAt (fd := ksFn "__init__" "TooLarge.__init__" iA iB iS .none .none doc pm an (.ref cda) ct cc) (binds := [("self", .ref x), ("limit", v)]) hroom (X _ _ ho) rfl hlim (codeRec_of X hcd) rfl
    (BindsTo.of_eq (by first | rfl | with_unfolding_all rfl)) (by show ∀ y ∈ iS.names, y.2 ≠ NameKind.cell; decide) (fun y hy => by rcases List.mem_cons.mp hy with rfl | hy; rfl; rw [List.mem_singleton.mp hy]; rfl) (fun h1 hn hk1 => ?_) rfl rfl rfl
  have X1 : K.In h1 := X.keeps hk1
  have hx1 := hk1 _ _ hx
  have hC1 := X1 _ _ hC
  have hxL : s.heap.objs.size ≠ x := Nat.ne_of_gt (Heap.lt_size hx)
  have I1 : InstAt h1 x (excO C t0) C none := ⟨hx1, rfl, rfl, trivial⟩
  show PySem.wpAt (model prog w) (A.deeper (ksEnv "TooLarge.__init__" iS s.heap.objs.size fI (.ref cda) cc)) (.func iB (ksEnv "TooLarge.__init__" iS s.heap.objs.size fI (.ref cda) cc)) (execs iB (ksEnv "TooLarge.__init__" iS s.heap.objs.size fI (.ref cda) cc)) _ _ _
  refine ks_wpAt_execs_cons (ks_wpAt_Expr_any (ks_wpAt_MethodCall ?_))
  refine ks_wpAt_super_base (f := fI) (cc := cda) (env := ksEnv "TooLarge.__init__" iS s.heap.objs.size fI (.ref cda) cc) rfl rfl (by decide) rfl (X1 _ _ ho) rfl rfl rfl (X1 _ _ hcda) rfl hv2 hfile T.top ?_
  refine ks_loadName_global rfl rfl (loadGlobal_builtin (env := ksEnv "TooLarge.__init__" iS s.heap.objs.size fI (.ref cda) cc) (hg.keeps hk1) T.gS (hnb.keeps hk1) ((hmb _ (by decide +kernel)).trans PyProof.Rows.Boot.«super») ⟨rfl, ?_⟩)
  refine wpAny_loadName_free rfl rfl rfl ⟨_, X1 _ _ hcc, rfl⟩ ?_
  refine wpAny_loadName_local (v := .ref x) rfl rfl hn (by first | rfl | with_unfolding_all rfl | kernel_rfl) ?_
  refine ks_wpAny_isType_cls hC1 rfl ⟨rfl, ?_⟩
  refine ks_wpAny_call_super hC1 rfl hx1 rfl (fun c e => by cases e) (looks_mroIn X1 T.slf) (fun h2 hso hk2 => ?_)
  have X2 : K.In h2 := X1.keeps hk2
  have hx2 := hk2 _ _ hx1
  have I2 : InstAt h2 x (excO C t0) C none := ⟨hx2, rfl, rfl, trivial⟩
  have hxC : x ≠ C := ks_ne X2 I2 hcl
  have hsup : alongIn K "__init__" (((Value.ref C :: bm).dropWhile (· != .ref C)).drop 1) = some (some (.builtin "ValueError.__init__")) := by
    have z := T.sup
    unfold ks_superIn at z
    rw [hcl] at z
    exact z
  refine kxs_getMethod kxs_ValueError hso (looks_opaque X2 T.opq) (l₀ := .ref C :: bm) ((looks_clsIn X2 hcl).andThen .now) rfl X2 hsup (I2.type.andThen (looks_subIn X2 T.veC)) hxC (by decide) ?_
  have k3 : ∀ b o, h2.get? b = some o → (h2.push (kxs_mw "ValueError.__init__" x)).get? b = some o := fun b o e => Heap.get?_push_of_some _ e
  have hu : (h2.push (kxs_mw "ValueError.__init__" x)).get? h2.objs.size = some (kxs_mw "ValueError.__init__" x) := Heap.get?_push_at rfl rfl
  refine kxs_callWith (i := "ValueError.__init__") (u := h2.objs.size) (x := x) rfl (Calls.evalArgs_plain ?_)
  refine Calls.spliced_cons (Calls.Constant_str (pos := ⟨26, 25, 26, 36⟩) (k := 0) ?_)
  refine Calls.spliced_nil ⟨hu, ?_⟩
  refine call_mw (hp := h2.push (kxs_mw "ValueError.__init__" x)) (t0 := t0) (k3 _ _ (X2 _ _ hC)) (k3 _ _ hx2) hu (one_size _) fun h4 t1 k4 hx4 => ?_
  -- self.limit = limit
  have kk : ∀ b o, b ≠ x → h1.get? b = some o → h4.get? b = some o := fun b o hb e => k4 b o hb (k3 b o (hk2 b o e))
  have kept : K.In h4 := fun a o e => kk a o (fun z => by rw [z, hnx] at e; cases e) (X1 a o e)
  have hn4 : h4.Ns s.heap.objs.size _ := hn.at fun o e => kk _ o hxL e
  refine ks_wpAt_execs_cons (ks_wpAt_Assign_Attr ?_)
  refine wpAt_of_wpAny (ldS (v := v) hn4 (by first | rfl | with_unfolding_all rfl | kernel_rfl) ?_)
  refine ldS (v := .ref x) hn4 (by first | rfl | with_unfolding_all rfl | kernel_rfl) ?_
  refine set_plain kept (ox := excO C t1) (od := none) ⟨hx4, rfl, rfl, trivial⟩ T.sa ?_
  refine exc_osa kept hx4 hcl (show refsVE (.ref C :: bm) = true from hbm) rfl T.noN (fun h5 tk5 dx k5 dn dne hx5 hn5 => ?_)
  have sz1 : s.heap.objs.size < h1.objs.size := hn.lt
  have szm : s.heap.objs.size < h4.objs.size := hn4.lt
  exact wpAt_of_wpAny (wpAny_execs_nil (hq h5 tk5 dx ⟨fun b o hb e => k5 b o hb (kk b o hb (hk1 b o e)), ⟨t1, hx5⟩, Nat.le_of_lt (Nat.lt_of_lt_of_le szm dn), dne, hn5⟩))
theorem tl_made (T : TlTxt prog K mg C fI) {v : Value} (X : K.In s.heap) (hlim : s.heap.NoLimit) (hg : s.heap.Ns mainGlobals mg) (hb : ∃ mb, s.heap.Ns builtinsNs mb ∧ ∀ x : Str, x ≠ "__name__" → mb x = bootBuiltins x) (hroom : A.depth + 1 < recursionLimit)
    (hq : ∀ h' tk e d, OwnMade s.heap h' e C d v → R (.ok (.ret (.ref e))) { s with heap := h', toks := tk }) :
    codeAny (model prog w) A (.call (.ref C) ⟨[v], []⟩) R s := by
  obtain ⟨nm, q, N, bs, bm, sn, sub, ab, col, dd, k0, k1, k2, k3, k5, hC, hbm⟩ := T.cls
  obtain ⟨hp, g, dr, tk, os⟩ := s
  have k : ∀ b o, hp.get? b = some o → ((hp.push (kdv_tup [v])).push (excO C hp.objs.size)).get? b = some o := fun b o e => Heap.get?_push_of_some _ (Heap.get?_push_of_some _ e)
  have hget : ((hp.push (kdv_tup [v])).push (excO C hp.objs.size)).get? (hp.objs.size + 1) = some (excO C hp.objs.size) := by heap_get
  have hnx : K.lookup (hp.objs.size + 1) = none := by
    cases e : K.lookup (hp.objs.size + 1) with
    | none => rfl
    | some o => exact absurd (Nat.lt_of_succ_lt (Heap.lt_size (show hp.get? (hp.objs.size + 1) = some o from X _ _ e))) (Nat.lt_irrefl _)
  have hgx : hp.objs.size + 1 ≠ mainGlobals := fun z => by
    have h1 := hg.lt
    show False
    rw [← z] at h1
    exact absurd (Nat.lt_of_succ_lt h1) (Nat.lt_irrefl _)
  refine call_own F.excBase_ValueError (fun X => refsVE_contains X bm hbm) (X _ _ hC) (looks_findIn X T.iC) (fun self => bind_fn X self T.tC) (one_size v) ?_
  refine tl_init (s := ⟨(hp.push (kdv_tup [v])).push (excO C hp.objs.size), g, dr, tk, os⟩) T (X.keeps k) (hlim.keeps k) (hg.keeps k) (let ⟨mb, h1, h2⟩ := hb; ⟨mb, h1.keeps k, h2⟩) hget hnx hgx ?_ fun h' tk' dx ⟨k', ⟨t1, hx⟩, dn, dne, hns⟩ => ?_
  · exact hroom
  · have z : hp.objs.size + 1 + 1 ≤ dx := by
      have q := dn
      rw [Heap.size_push, Heap.size_push] at q
      exact q
    have old : ∀ b o, hp.get? b = some o → h'.get? b = some o := fun b o e => k' b o (Nat.ne_of_lt (Nat.lt_succ_of_lt (Heap.lt_size e))) (k b o e)
    exact ⟨rfl, hq h' tk' (hp.objs.size + 1) dx ⟨old, Nat.le_succ _, ⟨_, _, hx, rfl, rfl, rfl, rfl⟩, (show hp.objs.size ≤ dx by omega), dne, hns⟩⟩
end
end TL
-- EX2
set_option Elab.async false
set_option linter.all false
set_option maxRecDepth 100000
set_option maxHeartbeats 4000000
/-! TooLarge: raised, asked for its class, its limit read. -/
namespace TL
open PySem PySem.W PySem.Calls PyProof.Rows PySem.HandSPX
section
variable {prog : Program} {w : World} {A : Around} {E : Value → Shared → Prop} {s : Shared} {K : Frag} {x D : Addr} {ox : Obj} {od : Option Obj}
theorem find_data {C : Addr} {name : Str} {a g : Value} (hc : (clsIn K C).isSome = true) (ha : findIn K (.ref C) name = some (some a)) (hg : specialIn K a "__get__" = some (some g)) (ht : takesIn K a = some true) : findObj K C od name = some (.bind g a) := by
  obtain ⟨cd, hc⟩ := Option.isSome_iff_exists.mp hc
  unfold findObj
  rw [hc, Option.bind_some, ha, Option.bind_some]
  simp [hg, ht]
theorem class_of {Q : Option Value → Shared → Prop} (C : L2.ExcC K D) (X : K.In s.heap) (I : InstAt s.heap x ox D od) (h : Q (some (.ref D)) { s with toks := s.toks + 1 }) : wpAny (model prog w) A (getAttr? (.ref x) "__class__") Q E s := by
  have hf : findObj K D od "__class__" = some (.bind (.builtin "getset_descriptor.__get__") (.builtin "object.__class__")) := find_data (by obtain ⟨cd, hc, _⟩ := any_some C.hd; rw [hc]; rfl) C.ha C.hn C.ht
  obtain ⟨hp, g, d, t, os⟩ := s
  have LA := I.type (M := model prog w)
  have LB := looks_findIn (M := model prog w) X C.hg
  have LC := looks_findIn (M := model prog w) X C.hk
  have LD := looks_find (M := model prog w) X I hf
  have sub : Looks (model prog w) hp (isInstance (.ref x) (.type "BaseException")) true := LA.andThen (looks_subIn X C.hs)
  have hx0 : (false && onTheHeap (Value.builtin "BaseException.__getattribute__")) = false := rfl
  have hx2 : (Value.builtin "BaseException.__getattribute__" == Value.builtin "object.__getattribute__") = false := by decide +kernel
  have hx1 : ¬ ((onTheHeap (Value.ref D) && Value.builtin "BaseException.__getattribute__" == Value.builtin "object.__getattribute__") = true) := by rw [hx2, Bool.and_false]; exact Bool.false_ne_true
  unfold getAttr? getAttrBy? getAttrBy
  refine wpAny_bind (wpAny_mkText (wpAny_bind (wpAny_attempt (wpAny_holding (wpAny_bind (LA.at (wpAny_bind (LB.at ?_))))))))
  show wpAny _ _ (if (onTheHeap (Value.ref D) && Value.builtin "BaseException.__getattribute__" == Value.builtin "object.__getattribute__") = true then _ else _) _ _ _
  rw [if_neg hx1]
  unfold getAttrByItsOwn hookBefore
  refine wpAny_bind ?_
  rw [if_pos (show (onTheHeap (Value.ref D)) = true from rfl)]
  refine LC.at ?_
  refine wpAny_bind (wpAny_attempt (wpAny_holding ?_))
  unfold callGetattribute
  rw [hx0, if_neg Bool.false_ne_true]
  unfold boundAndCalled
  rw [PySem.F.excAttr_ValueError.ga.bind (.ref x)]
  refine wpAny_bind (wpAny_pure ?_)
  show wpAny _ _ (call (.builtin "BaseException.__getattribute__") [.ref x, .str "__class__" t]) _ _ _
  refine wpAny_call (codeAny_call_builtin PySem.F.excAttr_ValueError.ga.plain PySem.F.entry_bexc_ga ?_)
  refine @check_slot (model prog w) _ _ ⟨hp, g, d, t + 1, os⟩ "BaseException.__getattribute__" "BaseException" "__getattribute__" (.ref x) [.str "__class__" t] [] _ (by decide +kernel) (by decide +kernel) sub (PySem.F.args_bexc_ga (.ref x) (.str "__class__" t)) ?_
  unfold Builtin.«object.__getattribute__»
  refine wpAny_bind (wpAny_of_eq (a := ((Value.ref x : Value), [Value.str "__class__" t])) (by first | rfl | (simp only [slotArgs]; rfl)) ?_)
  refine wpAny_bind (wpAny_pure (wpAny_bind (LA.at (wpAny_bind (LD.at ?_)))))
  show wpAny _ _ (holding [Value.builtin "object.__class__"] (call (.builtin "getset_descriptor.__get__") [.builtin "object.__class__", .ref x, .ref D]) >>= ret) _ _ _
  refine wpAny_bind (wpAny_holding (wpAny_call (class_get (s := ⟨hp, g, d, t + 1, os⟩) (ox := ox) (od := od) X I C.hm ?_)))
  refine wpAny_pure ?_
  show wpAny _ _ (handedOut (.ref D)) _ _ _
  rw [handedOut_of (v := .ref D) rfl]
  first
    | exact wpAny_pure (wpAny_pure h)
    | exact wpAny_pure h
    | exact wpAny_pure (wpAny_bind (wpAny_pure (wpAny_pure h)))
theorem kitx_exc (C : L2.ExcC K D) : KitX K (.ref x) (.ref D) (fun h => ∃ od, InstAt h x ox D od) where
  ty := fun _ _ _ ⟨_, I⟩ => I.type
  it := fun _ _ X _ => by
    obtain ⟨cdD, hcD, _⟩ := any_some C.hd
    unfold clsIn at hcD
    split at hcD
    · rename_i c' d' cd' sl' ho
      intro A' Q' E' s' k q
      unfold isType loadHead
      exact wpAny_bind (wpAny_loadPart (k _ _ (X _ _ ho)) (wpAny_pure q))
    · cases hcD
  ne := fun h tp dd its n sl X htp => by
    obtain ⟨cdD, hcD, _⟩ := any_some C.hd
    refine Bool.eq_false_iff.mpr fun q => ?_
    have e : D = tp := Value.ref.inj (beq_iff_eq.mp q)
    subst e
    unfold clsIn at hcD
    split at hcD
    · rename_i c' d' cd' sl' ho
      cases (X _ _ ho).symm.trans htp
    · cases hcD
  ca := fun X ⟨_, I⟩ k => class_of C X I k
end
end TL
namespace L2
open PySem PySem.Spec PyProof.Rows
theorem relO_lim {v : V} {v' : Value} (r : RelV v v') (f : Str) : RelO (List.lookup f [(("limit" : Str), v)]) (if f = "limit" then some v' else none) := by
  by_cases hw : f = "limit"
  · subst hw
    rw [if_pos rfl]
    have q : List.lookup ("limit" : Str) [(("limit" : Str), v)] = some v := by simp [List.lookup]
    rw [q]
    exact r
  · rw [if_neg hw]
    have qw : (f == ("limit" : Str)) = false := by simpa using hw
    have q2 : List.lookup f [(("limit" : Str), v)] = none := by simp [List.lookup, qw]
    rw [q2]
    trivial
section
variable {X : Cx} {C fI : Addr}
/-- TooLarge(e) -/
def tMkTl (C : Addr) (ta : TA) : St → Hp → XK → Prop := fun σ H Q => ta σ H fun vs H1 => ∃ v, vs = [v] ∧ ∀ d, H1 d = none → Q (.ref C) (some d) (upd H1 d (.xd [(("limit" : Str), v)]))
theorem pmk_tl {a : Expr} {ta : TA} {p pos : Pos} {k : Nat} (T : TL.TlTxt X.prog X.K X.mg C fI) (hr : Room k X.A) (ha : PA X [a] ta) (hg : Gl X "TooLarge" := by rfl)
    (he : starEach (a :: []) X.env = (false, eval a X.env) :: starEach [] X.env := by rfl) (hpl : (backTo pos (starEach [] X.env)).any (·.1) = false := by rfl) :
    PMk X (.Call (.Name "TooLarge" p) [a] [] pos) (tMkTl C ta) := by
  intro pins s σ H Q I h
  refine wpAny_Call_Name_kw (ld_glob I hg T.gC ?_)
  refine PySem.W.callWith_K (h₀ := X.base) I.ok.mod.kin T.kC (thn (ha.run pos pins s σ H _ I h) fun us s1 hh => ?_) he hpl
  obtain ⟨vs, H1, I1, r1, v, ev, q1⟩ := hh
  subst ev
  refine ⟨I1.kIn, ?_⟩
  cases r1 with
  | cons rv rn =>
    rename_i v' us'
    cases rn
    show wpAny _ _ (call (.ref C) [v']) _ _ _
    have hlim := I1.nolimit
    have hgl : s1.heap.Ns mainGlobals X.mg := I1.ok.mod.glob.keeps I1.bk
    have hbl : ∃ mb, s1.heap.Ns builtinsNs mb ∧ ∀ x : Str, x ≠ "__name__" → mb x = bootBuiltins x := let ⟨mb, z1, z2⟩ := I1.ok.mod.blt; ⟨mb, z1.keeps I1.bk, z2⟩
    obtain ⟨hp, g, dr, tk, os⟩ := s1
    refine wpAny_call (TL.tl_made T I1.kIn hlim hgl hbl (by have := hr.dp; omega) fun h' tk' e d M => ?_)
    show MkP X pins σ Q (.ref e) ⟨h', g, dr, tk', os⟩
    obtain ⟨oe, fv, hoe, hc, hd, hdat, h1⟩ := M.obj
    have hns := M.ns
    obtain ⟨G', g1, g2⟩ := restrict h' fun b => decide (b ≠ e)
    have gk : ∀ b, b ≠ e → G'.get? b = h'.get? b := fun b hb => g1 b (decide_eq_true hb)
    have ge : G'.get? e = none := g2 e (by simp)
    have old : ∀ b o, hp.get? b = some o → G'.get? b = some o := fun b o q => (gk b (Nat.ne_of_lt (Nat.lt_of_lt_of_le (Heap.lt_size q) M.new))).trans (M.keep b o q)
    have ob : ObjOk X.prog X.w (upd H1 d (.xd [(("limit" : Str), v)])) G' d (.xd [(("limit" : Str), v)]) := ⟨_, hns.at (fun o q => (gk d M.dne).trans q), fun f => relO_lim rv f⟩
    have J : Inv X pins σ (upd H1 d (.xd [(("limit" : Str), v)])) ⟨G', g, dr, tk', os⟩ := I1.laid (t' := tk') old M.dbig ob
    refine ⟨e, oe, fv, ⟨G', g, dr, tk', os⟩, _, .ref C, some d, rfl, J, fun b o q => ?_, ge, hoe, ⟨hc, hd⟩, hdat, h1, ?_, rfl, I1.bare, raises_own T.exC T.tyC, q1 d (I1.hok.fresh M.dbig)⟩
    · by_cases hb : b = e
      · rw [show G'.get? b = none by rw [hb]; exact ge] at q; cases q
      · exact (gk b hb).symm.trans q
    · rw [upd_ne (Ne.symm M.dne)]
      exact I1.hok.fresh M.new
/-- raise TooLarge(e) -/
def tRaiseTl (C : Addr) (W : WX) (ta : TA) : TS := fun _ σ H => tMkTl C ta σ H fun cls d H' => W cls d σ H'
theorem ps_raiseTl {a : Expr} {ta : TA} {W : WX} {p pos pos2 : Pos} {k : Nat} (hc : X.calm = true) (T : TL.TlTxt X.prog X.K X.mg C fI) (hr : Room k X.A) (tk : Takes X W) (ha : PA X [a] ta) (hg : Gl X "TooLarge" := by rfl)
    (he : starEach (a :: []) X.env = (false, eval a X.env) :: starEach [] X.env := by rfl) (hpl : (backTo pos (starEach [] X.env)).any (·.1) = false := by rfl) :
    PS X (.Raise (some (.Call (.Name "TooLarge" p) [a] [] pos)) none pos2) (tRaiseTl C W ta) := ps_raise hc tk (pmk_tl T hr ha hg he hpl)
/-- e.limit, e the exception that the suite holds (at a; its class cls, its dict d) -/
def tLimit (C : Addr) (a : Addr) (cls : Value) (d : Option Addr) (te : TE) : TE := fun σ H Q => te σ H fun x H1 => x = .ref a ∧ cls = .ref C ∧ ∃ (dd : Addr) (v : V), d = some dd ∧ H1 dd = some (.xd [(("limit" : Str), v)]) ∧ Q v H1
theorem pe_limit {a : Addr} {oe : Obj} {cls : Value} {d : Option Addr} {pn : List (Addr × Obj)} {e : Expr} {te : TE} {pos : Pos} (T : TL.TlTxt X.prog X.K X.mg C fI) (hz : Zc cls d oe) (hf : ∃ vs, oe.data = .fields vs) (he : PE (X.suite a ((a, oe) :: pn)) e te)
    (hb : attributeBase e "limit" X.env (eval e X.env) = eval e X.env := by rfl) : PE (X.suite a ((a, oe) :: pn)) (.Attribute e "limit" pos) (tLimit C a cls d te) := by
  refine ⟨fun pins s σ H Q I h => ?_⟩
  refine attr_of hb (thn (he.run pins s σ H _ I h) fun u s1 hh => ?_)
  obtain ⟨x, H1, I1, rx, ex, ec, dd, v, ed, ea, q⟩ := hh
  subst ex
  obtain rfl : u = Value.ref a := rx
  subst ec ed
  obtain ⟨ha, _⟩ := I1.pin (a, oe) (List.mem_append_left _ List.mem_cons_self)
  obtain ⟨vs, hd⟩ := hf
  have hx : ObjOk X.prog X.w H1 s1.heap dd (.xd [(("limit" : Str), v)]) := I1.hok dd _ ea
  obtain ⟨mA, hns, hr⟩ := hx
  obtain ⟨od, ho, hl⟩ := lookIn_ns hns
  have l : List.lookup ("limit" : Str) [(("limit" : Str), v)] = some v := by simp [List.lookup]
  obtain ⟨u, hu, ru⟩ := RelO.some_of (v := v) (o := mA "limit") (by rw [← l]; exact hr "limit")
  have J : PySem.W.InstAt s1.heap a oe C (some od) := ⟨ha, hz.1, by unfold PySem.W.notCls; rw [hd] <;> rfl, by rw [hz.2]; exact ho⟩
  exact HandSPX.exc_get I1.kIn J T.ga T.gg T.exC (PySem.W.findObj_own T.hdC T.noN rfl (by rw [hl, hu])) (handed_of ru) ⟨v, H1, I1.tok _, ru, q⟩
/-- isinstance(e, c), e the TooLarge that the suite holds -/
def rIsTl (K : PySem.W.Frag) (D a : Addr) (d : Addr) : List V → Hp → VK → Prop := fun xs H Q => ∃ (c : V) (cv : Value) (b : Bool) (v : V), xs = [.ref a, c] ∧ (∀ u, RelV c u → u = cv) ∧ PySem.W.kitOne K (.ref D) cv = some b ∧ H d = some (.xd [(("limit" : Str), v)]) ∧ Q (.bl b) H
theorem call_isTl {a D d : Addr} {oe : Obj} {pn : List (Addr × Obj)} (C : ExcC X.K D) (hz : Zc (.ref D) (some d) oe) (hf : ∃ vs, oe.data = .fields vs) : CallR (X.suite a ((a, oe) :: pn)) (.builtin "isinstance") (rIsTl X.K D a d) := by
  intro pins s σ H xs us Q I r h
  obtain ⟨c, cv, b, v, rfl, hcv, e, hd, q⟩ := h
  cases r with
  | cons rx rr =>
    cases rr with
    | cons rt rr =>
      cases rr
      cases rx
      have ec := hcv _ rt
      subst ec
      obtain ⟨hget, _⟩ := I.pin (a, oe) (List.mem_append.mpr (.inl List.mem_cons_self))
      obtain ⟨vs, hv⟩ := hf
      have hx : ObjOk X.prog X.w H s.heap d (.xd [(("limit" : Str), v)]) := I.hok d _ hd
      obtain ⟨mA, ⟨od, es, ep, ho, _⟩, _⟩ := hx
      have J : PySem.W.InstAt s.heap a oe D (some od) := ⟨hget, hz.1, by unfold PySem.W.notCls; rw [hv] <;> rfl, by rw [hz.2]; exact ho⟩
      exact PySem.W.kia_one (TL.kitx_exc C) I.kIn ⟨_, J⟩ e (fun z => nomatch z) fun tk => ⟨.bl b, H, I.kept (t' := tk) fun _ _ z => z, rfl, q⟩
end
end L2
-- SM
set_option Elab.async false
set_option linter.all false
set_option maxRecDepth 100000
set_option maxHeartbeats 2000000
/-! Small rules: enumerate(tuple), a comparison of four. -/
namespace PySem
set_option maxHeartbeats 1000000 in
theorem sm_enum_new {v : Value} {o : Obj} {H : Heap → Prop} (B : Begins v o H) :
    Meets (Builtin.«enumerate.__new__» ⟨[.type "enumerate", v], []⟩) (fun _ R s => H s.heap ∧ R (.ok (.ret (.ref (s.heap.push o).objs.size))) { s with heap := (s.heap.push o).push { cls := .type "enumerate", data := .fields #[.none, .bool false, .ref s.heap.objs.size, rawInt 0, .none, .none] } }) :=
  .of_wp fun prog w A R s h => by
    obtain ⟨hp, g, d, tk, os⟩ := s
    obtain ⟨h1, h⟩ := h
    have hsub := sub_enumerate
    have q1 : ∀ {A' : Around} {E : Value → Shared → Prop} {Q : Value → Shared → Prop}, Q (.ref hp.objs.size) ⟨hp.push o, g, d, tk, os⟩ → wpAny (model prog w) A' (pyIter v) Q E ⟨hp, g, d, tk, os⟩ := fun q => B.iter prog w _ _ ⟨hp, g, d, tk, os⟩ _ h1 q
    wp_walk using q1
    refine wpAny_stack_any fun st => wpAny_pure ?_
    split
    · rename_i c _ _ _ _ _
      cases (c == Value.type "enumerate") <;> (wp_walk using q1; exact ⟨_, rfl, h⟩)
    · wp_walk using q1
      exact ⟨_, rfl, h⟩
theorem sm_enum_tuple {prog : Program} {w : World} {A : Around} {E : Value → Shared → Prop} {s : Shared} {t : Addr} {items : Array Value} {Q : Value → Shared → Prop} (h1 : s.heap.IsTuple t items)
    (h : ∀ h', IsEnum h' (s.heap.objs.size + 1) s.heap.objs.size 0 .none → h'.IsTupleIter s.heap.objs.size t 0 → (∀ b o, s.heap.get? b = some o → h'.get? b = some o) → Q (.ref (s.heap.objs.size + 1)) { s with heap := h' }) :
    wpAny (model prog w) A (call (.type "enumerate") [.ref t]) Q E s := by
  refine callType_new F.called_enumerate (by decide) (F.typeCall_enumerate_1 _) (F.newCall_enumerate_1 _) (fun obj => F.args_object_init_2 obj _) F.entry_enumerate_new (sm_enum_new (begins_tuple t items)) ⟨h1, ?_⟩
  have hz : (s.heap.push { cls := .type "tuple_iterator", data := .fields #[.ref t, .int 0 0] }).objs.size = s.heap.objs.size + 1 := Heap.size_push ..
  show _ ∧ _
  rw [hz]
  have he : IsEnum ((s.heap.push { cls := .type "tuple_iterator", data := .fields #[.ref t, .int 0 0] }).push { cls := .type "enumerate", data := .fields #[.none, .bool false, .ref s.heap.objs.size, rawInt 0, .none, .none] }) (s.heap.objs.size + 1) s.heap.objs.size 0 .none := by
    have z := Heap.get?_push_size (s.heap.push { cls := .type "tuple_iterator", data := .fields #[.ref t, .int 0 0] }) (o := { cls := .type "enumerate", data := .fields #[.none, .bool false, .ref s.heap.objs.size, rawInt 0, .none, .none] }) rfl
    rw [hz] at z
    exact z
  exact ⟨⟨_, he, rfl⟩, h _ he ⟨_, Heap.get?_push_of_some _ (Heap.get?_push_size _ rfl), rfl, rfl⟩ fun b o x => Heap.get?_push_of_some _ (Heap.get?_push_of_some _ x)⟩
end PySem
namespace L2
open PySem PySem.Spec PyProof.Rows
/-- the tuple at a, each item in a new pair -/
def ItE (K : PySem.W.Frag) (a : Addr) (ys : List V) : It :=
  ⟨fun i H => SqT K H a ys ∧ i < ys.length, fun i H v H' => ∃ T x, v = .ref T ∧ H T = none ∧ H' = upd H T (.tup [.int (i : Nat), x]) ∧ ys[i]? = some x, fun i H => SqT K H a ys ∧ i = ys.length⟩
theorem turn_enumT {P : Program} {w : World} {K : PySem.W.Frag} {elts : List Expr} {kk : Nat} {tpos : Pos} (a e it : Addr) (ys : List V) (hne : e ≠ it) (hae : a ≠ it) (hea : e ≠ a) :
    Turn P w K (.Tuple elts kk tpos) (ItE K a ys) [e, it] e (fun i h => (∃ old, IsEnum h e it ((i : Nat) : Int) old) ∧ h.IsTupleIter it a i) where
  mem := by simp
  obj := fun i h st b hb => by
    obtain ⟨⟨old, he⟩, ⟨o, ho, hc, hd⟩⟩ := st
    have e' : b = e ∨ b = it := by simpa using hb
    rcases e' with z | z
    · rw [z]; exact ⟨_, he, fun v q => nomatch q⟩
    · rw [z]; exact ⟨o, ho, fun v q => by rw [hd] at q; cases q⟩
  keep := fun i h h' st k => let ⟨⟨old, he⟩, hi⟩ := st; ⟨⟨old, k e (by simp) _ he⟩, hi.at fun o q => k it (by simp) o q⟩
  item := by
    intro X hP hw hK hc i pins s σ H E I hf st hg
    subst hP hw hK
    obtain ⟨⟨old, he⟩, hit⟩ := st
    obtain ⟨hq, hi⟩ := hg
    obtain ⟨its, rv, p, hz⟩ := I.tuple hq
    have hlen : its.length = ys.length := rv.length.symm
    have D : Draws X.prog X.w X.A.in1 it [it, a] its.toArray.size (fun i v => its.toArray[i]? = some v) (fun i h => h.IsTupleIter it a i ∧ h.IsTuple a its.toArray) := Draws.tuple (show X.A.in1.handled = none from I.ok.hd hc) it a hae its.toArray
    have hel : e < s.heap.objs.size := Heap.lt_size he
    have hil : it < s.heap.objs.size := by obtain ⟨_, q, _⟩ := hit; exact Heap.lt_size q
    refine wpAny_pyNext_enum_itemC D he ⟨hit, p⟩ (by simp [hlen]; exact hi) hne (by simp [hne, hea]) fun u h' tk hu ho st' hT hsz hk => ?_
    obtain ⟨x, hx⟩ : ∃ x, ys[i]? = some x := ⟨ys[i], List.getElem?_eq_getElem hi⟩
    obtain ⟨u', hu', ru⟩ := rv.get hx
    have eu : u' = u := by
      have z : its[i]? = some u := by simpa using hu
      rw [hu'] at z; exact Option.some.inj z
    subst eu
    refine ⟨_, rfl, wpAny_letOwnedTupleGo_enum (s := { s with heap := h', toks := tk + 1 }) ho fun h'' he' sb => ?_⟩
    have hT2 : h''.get? s.heap.objs.size = some { cls := .type "tuple", data := .seq #[.int i tk, u'] } := (sb.2 _ (Nat.ne_of_gt hel)).trans hT
    have new : ObjOk X.prog X.w (upd H s.heap.objs.size (.tup [.int (i : Nat), x])) h'' s.heap.objs.size (.tup [.int (i : Nat), x]) := ⟨by show 2 ≤ sizeLine; decide, [.int i tk, u'], .cons ⟨_, rfl⟩ (.cons ru .nil), ⟨_, hT2, rfl, _, rfl⟩⟩
    have I1 : Inv X pins σ (upd H s.heap.objs.size (.tup [.int (i : Nat), x])) { s with heap := h'', toks := tk + 1 } :=
      I.turnedNew (ch := [e, it]) (fun b ob hb q => (sb.2 b (fun z => hb (by simp [z]))).trans (hk b ob (fun z => hb (by simp [z])) (fun z => hb (by simp [z])) q)) hf (Nat.le_refl _) new
    refine ⟨.ref s.heap.objs.size, _, I1, rfl, ⟨_, x, rfl, I.hok.fresh (Nat.le_refl _), rfl, hx⟩, ⟨⟨u', ?_⟩, st'.1.at fun o q => (sb.2 it (Ne.symm hne)).trans q⟩, fun b hb => ?_⟩
    · rw [show ((i + 1 : Nat) : Int) = (i : Int) + 1 by omega]
      exact he'
    · have hb' : b < s.heap.objs.size := by
        have e' : b = e ∨ b = it := by simpa using hb
        rcases e' with z | z
        · rw [z]; exact hel
        · rw [z]; exact hil
      rw [upd_ne (Nat.ne_of_lt hb')]
      exact (hf b hb).1
  done := by
    intro X hP hw hK hc i pins s σ H E I hf st hg
    subst hP hw hK
    obtain ⟨⟨old, he⟩, hit⟩ := st
    obtain ⟨hq, hi⟩ := hg
    obtain ⟨its, rv, p, hz⟩ := I.tuple hq
    obtain ⟨f0, f1, f2, f3, f4, f5⟩ := hf it (by simp)
    have hlen : i = its.toArray.size := by rw [hi, rv.length]; simp
    have D : Draws X.prog X.w X.A.in1 it [it, a] its.toArray.size (fun i v => its.toArray[i]? = some v) (fun i h => h.IsTupleIter it a i ∧ h.IsTuple a its.toArray) := Draws.tuple (show X.A.in1.handled = none from I.ok.hd hc) it a hae its.toArray
    exact wpAny_pyNext_enum_endD D he ⟨by rw [← hlen]; exact hit, p⟩ fun h' eb => ⟨rfl, I.turned (t' := s.toks) (fun b o hb q => eb b o hb q) f0 f1 f3 f4 f5⟩
  self := fun A i s Q E st h => let ⟨⟨_, he⟩, _⟩ := st; wpAny_pyIter_enum he h
def iEnumT (K : PySem.W.Frag) (ta : TA) : TI := fun σ H R => ta σ H fun vs H1 => ∃ a ys, vs = [.ref a] ∧ SqT K H1 a ys ∧ R (ItE K a ys) H1
theorem pi_enumT {X : Cx} {e : Expr} {ta : TA} {p pos tpos : Pos} {elts : List Expr} {kk : Nat} (hg : Gl X "enumerate") (hm : X.mg "enumerate" = none) (ha : PA X [e] ta) (hs : starEach [e] X.env = [(false, eval e X.env)] := by rfl) :
    PI X (.Tuple elts kk tpos) (.Call (.Name "enumerate" p) [e] [] pos) (iEnumT X.K ta) := by
  refine ⟨fun pins s σ H R I h => ?_⟩
  refine Call_ (ld_blt I hg hm boot_enumerate (PyProof.Rows.callWith_type1 (thn (ha.run pos pins s σ H _ I h) fun us s1 ⟨vs, H1, I1, r1, q1⟩ => ?_) hs rfl))
  obtain ⟨a, xs, ex, hq, q⟩ := q1
  subst ex
  cases r1 with
  | cons r rr =>
    cases rr
    cases r
    obtain ⟨its, rv, p', hz⟩ := I1.tuple hq
    have hal : a < s1.heap.objs.size := by
      obtain ⟨o, ho, _⟩ := id p'
      exact Heap.lt_size ho
    refine sm_enum_tuple p' fun h' he hit hk => wpAny_pyIter_enum he ?_
    have I2 : Inv X pins σ H1 { s1 with heap := h' } := I1.kept (t' := s1.toks) hk
    refine ⟨s1.heap.objs.size + 1, [s1.heap.objs.size + 1, s1.heap.objs.size], _, _, H1, rfl, I2, turn_enumT a (s1.heap.objs.size + 1) s1.heap.objs.size xs (Nat.succ_ne_self _) (Nat.ne_of_lt hal) (Nat.ne_of_gt (Nat.lt_succ_of_lt hal)), ⟨⟨.none, he⟩, hit⟩, fun b hb => ?_, q⟩
    have hle : s1.heap.objs.size ≤ b := by
      rcases List.mem_cons.mp hb with rfl | hb
      · exact Nat.le_succ _
      · rw [List.mem_singleton.mp hb]; exact Nat.le_refl _
    exact I1.fpOk hle (I1.hok.fresh hle)
theorem walk_enumT {K : PySem.W.Frag} {a : Addr} {xs : List V} : Walk (ItE K a xs) xs.length (fun H => SqT K H a xs) (YPair (fun i => some (.int (i : Nat))) (fun i => xs[i]?)) := by
  refine ⟨fun i _ hi q => ⟨q, hi⟩, fun _ q => ⟨q, rfl⟩, fun i H v H' _ q y => ?_⟩
  obtain ⟨T, x, h1, h2, h3, h4⟩ := y
  exact ⟨T, .int (i : Nat), x, h1, h2, h3, rfl, h4⟩
/-- a op1 b op2 c op3 d, as a test -/
def tChain3 (r r' r2 : R2) (ta tb tc td : TE) : TE := fun σ H Q => ta σ H fun x H1 => tb σ H1 fun y H2 => r x y H2 fun z H3 => ∃ k, z = .bl k ∧
  (if k = true then tc σ H3 fun u H4 => r' y u H4 fun z2 H5 => ∃ k2, z2 = .bl k2 ∧ (if k2 = true then td σ H5 fun w' H6 => r2 u w' H6 Q else Q (.bl false) H5) else Q (.bl false) H3)
theorem pe_chain3 {X : Cx} {a b c d : Expr} {ta tb tc td : TE} {pos : Pos} {op op' op2 : CmpOp} {r r' r2 : R2} (ho : OpR X (compareOp op) r) (ho' : OpR X (compareOp op') r') (ho2 : OpR X (compareOp op2) r2) (ha : PE X a ta) (hb : PE X b tb) (hc : PE X c tc) (hd : PE X d td)
    (hm : lastMarks [op, op', op2] [b, c, d] = false := by with_unfolding_all rfl) : PE X (.Compare a [op, op', op2] [b, c, d] pos) (tChain3 r r' r2 ta tb tc td) := by
  refine ⟨fun pins s σ H Q I h => ?_⟩
  refine Compare_chain (thn (ha.run pins s σ H _ I h) fun v s1 ⟨x, H1, I1, r1, q1⟩ => chain_link (thn (hb.run pins s1 σ H1 _ I1 q1) fun u s2 ⟨y, H2, I2, ry, q2⟩ => thn (ho pins s2 σ H2 x y v u _ I2 r1 ry q2) fun z s3 ⟨z', H3, I3, r3, k, e, q3⟩ => ?_)) hm
  subst e
  cases r3
  refine wpAny_truthy_bool ?_
  cases k with
  | false =>
    rw [if_neg Bool.false_ne_true] at q3 ⊢
    exact ⟨.bl false, H3, I3, rfl, q3⟩
  | true =>
    rw [if_pos rfl] at q3 ⊢
    refine chain_link (thn (hc.run pins s3 σ H3 _ I3 q3) fun w' s4 ⟨u', H4, I4, r4, q4⟩ => thn (ho' pins s4 σ H4 y u' u w' _ I4 ry r4 q4) fun z2 s5 ⟨z2', H5, I5, r5, k2, e2, q5⟩ => ?_)
    subst e2
    cases r5
    refine wpAny_truthy_bool ?_
    cases k2 with
    | false =>
      rw [if_neg Bool.false_ne_true] at q5 ⊢
      exact ⟨.bl false, H5, I5, rfl, q5⟩
    | true =>
      rw [if_pos rfl] at q5 ⊢
      exact chain_last (thn (hd.run pins s5 σ H5 _ I5 q5) fun w2 s6 ⟨u2, H6, I6, r6, q6⟩ => ho2 pins s6 σ H6 u' u2 w' w2 Q I6 r4 r6 q6)
end L2
-- SM2
set_option Elab.async false
set_option linter.all false
set_option maxRecDepth 100000
set_option maxHeartbeats 2000000
/-! A chain of three comparisons, as a test. -/
namespace L2
open PySem PySem.Spec PyProof.Rows
theorem pt_chain3 {X : Cx} {a b c d : Expr} {ta tb tc td : TE} {pos : Pos} {op op' op2 : CmpOp} {r r' r2 : R2} (ho : OpR X (compareOp op) r) (ho' : OpR X (compareOp op') r') (ho2 : OpR X (compareOp op2) r2) (ha : PE X a ta) (hb : PE X b tb) (hc : PE X c tc) (hd : PE X d td)
    (hm : lastMarks [op, op', op2] [b, c, d] = false := by with_unfolding_all rfl) : PT X (.Compare a [op, op', op2] [b, c, d] pos) (tTest (tChain3 r r' r2 ta tb tc td)) := by
  refine ⟨fun pins s σ H Q I h => ?_⟩
  refine isTrue_chain (thn (ha.run pins s σ H _ I h) fun v s1 ⟨x, H1, I1, r1, q1⟩ => test_link (thn (hb.run pins s1 σ H1 _ I1 q1) fun u s2 ⟨y, H2, I2, ry, q2⟩ => thn (ho pins s2 σ H2 x y v u _ I2 r1 ry q2) fun z s3 ⟨z', H3, I3, r3, k, e, q3⟩ => ?_)) hm
  subst e
  cases r3
  refine wpAny_truthy_bool ?_
  cases k with
  | false =>
    rw [if_neg Bool.false_ne_true] at q3 ⊢
    obtain ⟨k', e', q'⟩ := q3
    cases e'
    exact ⟨H3, I3, q'⟩
  | true =>
    rw [if_pos rfl] at q3 ⊢
    refine test_link (thn (hc.run pins s3 σ H3 _ I3 q3) fun w' s4 ⟨u', H4, I4, r4, q4⟩ => thn (ho' pins s4 σ H4 y u' u w' _ I4 ry r4 q4) fun z2 s5 ⟨z2', H5, I5, r5, k2, e2, q5⟩ => ?_)
    subst e2
    cases r5
    refine wpAny_truthy_bool ?_
    cases k2 with
    | false =>
      rw [if_neg Bool.false_ne_true] at q5 ⊢
      obtain ⟨k', e', q'⟩ := q5
      cases e'
      exact ⟨H5, I5, q'⟩
    | true =>
      rw [if_pos rfl] at q5 ⊢
      refine test_last (thn (hd.run pins s5 σ H5 _ I5 q5) fun w2 s6 ⟨u2, H6, I6, r6, q6⟩ => thn (ho2 pins s6 σ H6 u' u2 w' w2 _ I6 r4 r6 q6) fun d' s7 ⟨z3, H7, I7, r7, k3, e3, q7⟩ => ?_)
      subst e3
      cases r7
      exact wpAny_truthy_bool ⟨H7, I7, q7⟩
end L2
-- RP
set_option Elab.async false
set_option linter.all false
set_option maxRecDepth 100000
/-! Data that stands in the heap: its reading, its keeping. -/
namespace L2
open PySem PySem.Spec PyProof.Rows
section
variable {K : PySem.W.Frag} {H H' : Hp}
theorem Same.put {p : Addr} {o : HO} (h : H p = none) : Same H (upd H p o) := fun b x e => by
  rw [upd_ne (ne_of_none e h)]
  exact e
theorem Same.to {H1 : Hp} {p : Addr} {o : HO} (s : Same H H1) (h : H1 p = none) : Same H (upd H1 p o) := s.trans (Same.put h)
/-- what is written at an address that was free before -/
theorem Same.over {H1 : Hp} {p : Addr} {o : HO} (s : Same H H1) (h : H p = none) : Same H (upd H1 p o) := fun b x e => by
  rw [upd_ne (ne_of_none e h)]
  exact s b x e
theorem Same.tseq {a : Addr} {xs : List V} (e : Same H H') (h : SqT K H a xs) : SqT K H' a xs := by
  rcases h with (h | ⟨o, h⟩) | h
  · exact .inl (.inl (e _ _ h))
  · exact .inl (.inr ⟨o, e _ _ h⟩)
  · exact .inr h
mutual
theorem Dp.same (e : Same H H') : ∀ {d : PyData} {v : V}, Dp K H v d → Dp K H' v d
  | .none, _, h => by cases h; exact .non
  | .bool _, _, h => by cases h; exact .bl _
  | .int _, _, h => by cases h; exact .int _
  | .str _, _, h => by cases h; exact .str _
  | .list ds, _, h => by
    cases h with
    | lst h1 h2 => exact .lst (e.seq h1) (DpAll.same e h2)
  | .tuple ds, _, h => by
    cases h with
    | tup h1 h2 => exact .tup (e.tseq h1) (DpAll.same e h2)
  | .dict _, _, h => by cases h
theorem DpAll.same (e : Same H H') : ∀ {ds : List PyData} {vs : List V}, DpAll K H vs ds → DpAll K H' vs ds
  | [], _, h => by cases h; exact .nil
  | d :: ds, _, h => by
    cases h with
    | cons h1 h2 => exact .cons (Dp.same e h1) (DpAll.same e h2)
end
mutual
/-- data without lists within -/
def noL : PyData → Bool
  | .none => true
  | .bool _ => true
  | .int _ => true
  | .str _ => true
  | .list _ => false
  | .tuple ds => noLs ds
  | .dict _ => false
def noLs : List PyData → Bool
  | [] => true
  | d :: ds => noL d && noLs ds
end
theorem tseq_put {a D : Addr} {xs acc acc' : List V} (hD : H D = some (.lst acc)) (h : SqT K H a xs) : SqT K (upd H D (.lst acc')) a xs := by
  rcases h with (h | ⟨o, h⟩) | h
  · exact .inl (.inl (by rw [upd_ne (ne_of h hD (by intro z; cases z))]; exact h))
  · exact .inl (.inr ⟨o, by rw [upd_ne (ne_of h hD (by intro z; cases z))]; exact h⟩)
  · exact .inr h
mutual
theorem Dp.putL {D : Addr} {acc acc' : List V} (hD : H D = some (.lst acc)) : ∀ {d : PyData} {v : V}, noL d = true → Dp K H v d → Dp K (upd H D (.lst acc')) v d
  | .none, _, _, h => by cases h; exact .non
  | .bool _, _, _, h => by cases h; exact .bl _
  | .int _, _, _, h => by cases h; exact .int _
  | .str _, _, _, h => by cases h; exact .str _
  | .list ds, _, n, h => by cases n
  | .tuple ds, _, n, h => by
    cases h with
    | tup h1 h2 => exact .tup (tseq_put hD h1) (DpAll.putL hD n h2)
  | .dict _, _, _, h => by cases h
theorem DpAll.putL {D : Addr} {acc acc' : List V} (hD : H D = some (.lst acc)) : ∀ {ds : List PyData} {vs : List V}, noLs ds = true → DpAll K H vs ds → DpAll K (upd H D (.lst acc')) vs ds
  | [], _, _, h => by cases h; exact .nil
  | d :: ds, _, n, h => by
    cases h with
    | cons h1 h2 =>
      have n' : (noL d && noLs ds) = true := n
      rw [Bool.and_eq_true] at n'
      exact .cons (Dp.putL hD n'.1 h1) (DpAll.putL hD n'.2 h2)
end
theorem noLs_iff : ∀ {ds : List PyData}, noLs ds = true ↔ ∀ d ∈ ds, noL d = true
  | [] => ⟨fun _ _ z => (nomatch z), fun _ => rfl⟩
  | d :: ds => by
    show (noL d && noLs ds) = true ↔ _
    rw [Bool.and_eq_true, noLs_iff (ds := ds)]
    exact ⟨fun h x hx => (List.mem_cons.mp hx).elim (fun e => e ▸ h.1) (h.2 x), fun h => ⟨h d List.mem_cons_self, fun x hx => h x (List.mem_cons_of_mem _ hx)⟩⟩
theorem Dp.int_of {v : V} {i : Int} (h : Dp K H v (.int i)) : v = .int i := by cases h; rfl
theorem Dp.bl_of {v : V} {b : Bool} (h : Dp K H v (.bool b)) : v = .bl b := by cases h; rfl
theorem Dp.str_of {v : V} {x : Str} (h : Dp K H v (.str x)) : v = .str x := by cases h; rfl
theorem Dp.tup_of {v : V} {ds : List PyData} (h : Dp K H v (.tuple ds)) : ∃ a vs, v = .ref a ∧ SqT K H a vs ∧ DpAll K H vs ds := by
  cases h with
  | tup h1 h2 => exact ⟨_, _, rfl, h1, h2⟩
theorem Dp.lst_of {v : V} {ds : List PyData} (h : Dp K H v (.list ds)) : ∃ a vs, v = .ref a ∧ SqL K H a vs ∧ DpAll K H vs ds := by
  cases h with
  | lst h1 h2 => exact ⟨_, _, rfl, h1, h2⟩
theorem DpAll.len : ∀ {ds : List PyData} {vs : List V}, DpAll K H vs ds → vs.length = ds.length
  | [], _, h => by cases h; rfl
  | d :: ds, _, h => by
    cases h with
    | cons h1 h2 => rw [List.length_cons, List.length_cons, DpAll.len h2]
theorem DpAll.at_ : ∀ {ds : List PyData} {vs : List V}, DpAll K H vs ds → ∀ {i : Nat} {v : V}, vs[i]? = some v → ∃ d, ds[i]? = some d ∧ Dp K H v d
  | [], _, h, i, v, e => by cases h; cases e
  | d :: ds, _, h, i, v, e => by
    cases h with
    | cons h1 h2 =>
      cases i with
      | zero => cases e; exact ⟨d, rfl, h1⟩
      | succ i => exact DpAll.at_ h2 e
theorem DpAll.to_ : ∀ {ds : List PyData} {vs : List V}, DpAll K H vs ds → ∀ {i : Nat} {d : PyData}, ds[i]? = some d → ∃ v, vs[i]? = some v ∧ Dp K H v d
  | [], _, h, i, d, e => by cases e
  | d :: ds, _, h, i, d', e => by
    cases h with
    | cons h1 h2 =>
      cases i with
      | zero => cases e; exact ⟨_, rfl, h1⟩
      | succ i => exact DpAll.to_ h2 e
theorem DpAll.append : ∀ {ds es : List PyData} {vs us : List V}, DpAll K H vs ds → DpAll K H us es → DpAll K H (vs ++ us) (ds ++ es)
  | [], _, _, _, h, g => by cases h; exact g
  | d :: ds, _, _, _, h, g => by
    cases h with
    | cons h1 h2 => exact .cons h1 (DpAll.append h2 g)
theorem DpAll.one {v : V} {d : PyData} (h : Dp K H v d) : DpAll K H [v] [d] := .cons h .nil
theorem DpAll.ints : ∀ {ns : List Int} {vs : List V}, DpAll K H vs (ns.map PyData.int) → vs = ns.map V.int
  | [], _, h => by cases h; rfl
  | n :: ns, _, h => by
    cases h with
    | cons h1 h2 => rw [h1.int_of, DpAll.ints h2]; rfl
theorem DpAll.of_ints : ∀ {ns : List Int}, DpAll K H (ns.map V.int) (ns.map PyData.int)
  | [] => .nil
  | n :: ns => .cons (.int n) DpAll.of_ints
theorem DpAll.get0 {d : PyData} {ds : List PyData} {vs : List V} (h : DpAll K H vs (d :: ds)) : ∃ v us, vs = v :: us ∧ Dp K H v d ∧ DpAll K H us ds := by
  cases h with
  | cons h1 h2 => exact ⟨_, _, rfl, h1, h2⟩
theorem DpAll.two {d e : PyData} {vs : List V} (h : DpAll K H vs [d, e]) : ∃ u v, vs = [u, v] ∧ Dp K H u d ∧ Dp K H v e := by
  cases h with
  | cons h1 h2 =>
    cases h2 with
    | cons h3 h4 => cases h4; exact ⟨_, _, rfl, h1, h3⟩
/-! webs, rows, codes -/
/-- whole numbers that are not negative -/
abbrev iN (n : Nat) : PyData := .int (n : Int)
abbrev vN (n : Nat) : V := .int (n : Int)
def pdE (e : Nat × Nat) : PyData := .tuple [iN e.1, iN e.2]
def pdW (w : Nat × List (Nat × Nat)) : PyData := .tuple [iN w.1, .tuple (w.2.map pdE)]
def pdR (r : List Nat) : PyData := .tuple (r.map iN)
theorem noL_e (e : Nat × Nat) : noL (pdE e) = true := rfl
theorem noLs_map {α : Type} {f : α → PyData} (h : ∀ x, noL (f x) = true) (xs : List α) : noLs (xs.map f) = true := noLs_iff.mpr fun d hd => by
  obtain ⟨x, _, rfl⟩ := List.mem_map.mp hd
  exact h x
theorem noL_w (w : Nat × List (Nat × Nat)) : noL (pdW w) = true := by
  show (noL (iN w.1) && (noL (.tuple (w.2.map pdE)) && true)) = true
  rw [show noL (.tuple (w.2.map pdE)) = true from noLs_map noL_e _]
  rfl
theorem noL_r (r : List Nat) : noL (pdR r) = true := noLs_map (fun _ => rfl) r
theorem DpAll.nats {ns : List Nat} {vs : List V} (h : DpAll K H vs (ns.map iN)) : vs = ns.map vN := by
  have e : ns.map iN = (ns.map fun n : Nat => (n : Int)).map PyData.int := by rw [List.map_map]; rfl
  rw [e] at h
  rw [h.ints, List.map_map]; rfl
theorem DpAll.of_nats {ns : List Nat} : DpAll K H (ns.map vN) (ns.map iN) := by
  have e : ns.map iN = (ns.map fun n : Nat => (n : Int)).map PyData.int := by rw [List.map_map]; rfl
  have e2 : ns.map vN = (ns.map fun n : Nat => (n : Int)).map V.int := by rw [List.map_map]; rfl
  rw [e, e2]
  exact .of_ints
theorem Dp.edge {v : V} {e : Nat × Nat} (h : Dp K H v (pdE e)) : ∃ p, v = .ref p ∧ SqT K H p [vN e.1, vN e.2] := by
  obtain ⟨p, vs, rfl, h1, h2⟩ := Dp.tup_of h
  obtain ⟨u, v, rfl, e1, e2⟩ := h2.two
  rw [e1.int_of, e2.int_of] at h1
  exact ⟨p, rfl, h1⟩
theorem Dp.of_edge {p : Addr} {e : Nat × Nat} (h : SqT K H p [vN e.1, vN e.2]) : Dp K H (.ref p) (pdE e) := .tup h (.cons (.int _) (.cons (.int _) .nil))
theorem Dp.web {v : V} {w : Nat × List (Nat × Nat)} (h : Dp K H v (pdW w)) : ∃ p q vs, v = .ref p ∧ SqT K H p [vN w.1, .ref q] ∧ SqT K H q vs ∧ DpAll K H vs (w.2.map pdE) := by
  obtain ⟨p, vs, rfl, h1, h2⟩ := Dp.tup_of h
  obtain ⟨u, v, rfl, e1, e2⟩ := h2.two
  obtain ⟨q, us, rfl, h3, h4⟩ := Dp.tup_of e2
  rw [e1.int_of] at h1
  exact ⟨p, q, us, rfl, h1, h3, h4⟩
theorem Dp.of_web {p q : Addr} {vs : List V} {w : Nat × List (Nat × Nat)} (h1 : SqT K H p [vN w.1, .ref q]) (h2 : SqT K H q vs) (h3 : DpAll K H vs (w.2.map pdE)) : Dp K H (.ref p) (pdW w) :=
  .tup h1 (.cons (.int _) (.cons (.tup h2 h3) .nil))
theorem Dp.row {v : V} {r : List Nat} (h : Dp K H v (pdR r)) : ∃ p, v = .ref p ∧ SqT K H p (r.map vN) := by
  obtain ⟨p, vs, rfl, h1, h2⟩ := Dp.tup_of h
  rw [h2.nats] at h1
  exact ⟨p, rfl, h1⟩
theorem Dp.of_row {p : Addr} {r : List Nat} (h : SqT K H p (r.map vN)) : Dp K H (.ref p) (pdR r) := .tup h .of_nats
/-! a comprehension whose list holds data without lists -/
theorem lcD_list {a : Addr} {xs : List V} {g : TG} {tt : TT} {te : TE} {vs : List Nat} {σ : St} {H1 : Hp} {D : Addr} {Qd : Hp → Prop} (L : Nat → List PyData) (hD : H1 D = none) (h0 : L 0 = []) (hx : SqL K H1 a xs) (hn : ∀ i, noLs (L i) = true) (hz : ∀ i, i < xs.length → (L i).length < sizeLine)
    (hs : ∀ i x H (ky : V → Hp → Prop) (kn : Hp → Prop), xs[i]? = some x → Same H1 H → (∀ y H4 d, Same H H4 → Dp K H4 y d → L (i + 1) = L i ++ [d] → ky y H4) → (∀ H3, Same H H3 → L (i + 1) = L i → kn H3) →
      g x (wipe σ vs) H fun σ2 H2 => wipe σ2 vs = wipe σ vs ∧ tt σ2 H2 fun b H3 => if b = true then te σ2 H3 ky else kn H3)
    (hd : ∀ H ys, Same H1 H → H D = some (.lst ys) → DpAll K H ys (L xs.length) → Qd H) :
    ∃ W : Nat → Nat → Hp → Prop, (∃ m, W 0 m (upd H1 D (.lst []))) ∧ ∀ i m H, W i m H →
      ((Itl K a).stop i H ∧ Qd H) ∨ ((Itl K a).go i H ∧ ∃ Nx : Hp → Prop, (∀ H', Nx H' → ∃ m', m' < m ∧ W (i + 1) m' H') ∧ ∀ x H', (Itl K a).yld i H x H' → g x (wipe σ vs) H' fun σ2 H2 => wipe σ2 vs = wipe σ vs ∧ tt σ2 H2 fun b H3 =>
        if b = true then te σ2 H3 fun y H4 => ∃ acc, H4 D = some (.lst acc) ∧ acc.length < sizeLine ∧ Nx (upd H4 D (.lst (acc ++ [y]))) else Nx H3) := by
  refine lc_list (xs := xs) (fun i H => Same H1 H ∧ ∃ acc, H D = some (.lst acc) ∧ DpAll K H acc (L i)) ⟨Same.put hD, [], upd_same, by rw [h0]; exact .nil⟩ (fun i H _ p => p.1.seq hx) (fun i x H e p => ?_) (fun H p => ?_)
  · obtain ⟨sm, acc, ha, hA⟩ := p
    refine hs i x H _ _ e sm (fun y H4 d s4 hy eL => ⟨acc, s4 _ _ ha, ?_, (sm.trans s4).over hD, acc ++ [y], upd_same, ?_⟩) (fun H3 s3 eL => ⟨sm.trans s3, acc, s3 _ _ ha, by rw [eL]; exact hA.same s3⟩)
    · rw [hA.len]
      exact hz i (List.getElem?_eq_some_iff.mp e).1
    · have q : DpAll K H4 (acc ++ [y]) (L (i + 1)) := by rw [eL]; exact (hA.same s4).append (.one hy)
      exact q.putL (s4 _ _ ha) (hn _)
  · obtain ⟨sm, acc, ha, hA⟩ := p
    exact hd H acc sm ha hA
theorem lcD_tup {a : Addr} {xs : List V} {g : TG} {tt : TT} {te : TE} {vs : List Nat} {σ : St} {H1 : Hp} {D : Addr} {Qd : Hp → Prop} (L : Nat → List PyData) (hD : H1 D = none) (h0 : L 0 = []) (hx : SqT K H1 a xs) (hn : ∀ i, noLs (L i) = true) (hz : ∀ i, i < xs.length → (L i).length < sizeLine)
    (hs : ∀ i x H (ky : V → Hp → Prop) (kn : Hp → Prop), xs[i]? = some x → Same H1 H → (∀ y H4 d, Same H H4 → Dp K H4 y d → L (i + 1) = L i ++ [d] → ky y H4) → (∀ H3, Same H H3 → L (i + 1) = L i → kn H3) →
      g x (wipe σ vs) H fun σ2 H2 => wipe σ2 vs = wipe σ vs ∧ tt σ2 H2 fun b H3 => if b = true then te σ2 H3 ky else kn H3)
    (hd : ∀ H ys, Same H1 H → H D = some (.lst ys) → DpAll K H ys (L xs.length) → Qd H) :
    ∃ W : Nat → Nat → Hp → Prop, (∃ m, W 0 m (upd H1 D (.lst []))) ∧ ∀ i m H, W i m H →
      ((Itt K a).stop i H ∧ Qd H) ∨ ((Itt K a).go i H ∧ ∃ Nx : Hp → Prop, (∀ H', Nx H' → ∃ m', m' < m ∧ W (i + 1) m' H') ∧ ∀ x H', (Itt K a).yld i H x H' → g x (wipe σ vs) H' fun σ2 H2 => wipe σ2 vs = wipe σ vs ∧ tt σ2 H2 fun b H3 =>
        if b = true then te σ2 H3 fun y H4 => ∃ acc, H4 D = some (.lst acc) ∧ acc.length < sizeLine ∧ Nx (upd H4 D (.lst (acc ++ [y]))) else Nx H3) := by
  refine lc_tup (xs := xs) (fun i H => Same H1 H ∧ ∃ acc, H D = some (.lst acc) ∧ DpAll K H acc (L i)) ⟨Same.put hD, [], upd_same, by rw [h0]; exact .nil⟩ (fun i H _ p => p.1.tseq hx) (fun i x H e p => ?_) (fun H p => ?_)
  · obtain ⟨sm, acc, ha, hA⟩ := p
    refine hs i x H _ _ e sm (fun y H4 d s4 hy eL => ⟨acc, s4 _ _ ha, ?_, (sm.trans s4).over hD, acc ++ [y], upd_same, ?_⟩) (fun H3 s3 eL => ⟨sm.trans s3, acc, s3 _ _ ha, by rw [eL]; exact hA.same s3⟩)
    · rw [hA.len]
      exact hz i (List.getElem?_eq_some_iff.mp e).1
    · have q : DpAll K H4 (acc ++ [y]) (L (i + 1)) := by rw [eL]; exact (hA.same s4).append (.one hy)
      exact q.putL (s4 _ _ ha) (hn _)
  · obtain ⟨sm, acc, ha, hA⟩ := p
    exact hd H acc sm ha hA
end
end L2
-- L2C
set_option Elab.async false
set_option linter.all false
set_option maxRecDepth 100000
/-! [e for a in .. for b in range(..) if t] whose list holds data without lists -/
namespace L2
open PySem PySem.Spec PyProof.Rows
section
variable {K : PySem.W.Frag}
theorem lcD2 {J : It} {n : Nat} {G : Hp → Prop} {Z : Nat → V → Prop} {a b : Nat} {wi1 : TI} {tt1 : TT} {te : TE} {vs vs1 : List Nat} {σ : St} {H1 : Hp} {D : Addr} {Qd : Hp → Prop} (w : Walk J n G (fun i H x H' => H' = H ∧ Z i x)) (inn : Nat → Nat) (lo : Nat → Int) (L : Nat → Nat → List PyData)
    (hD : H1 D = none) (h0 : L 0 0 = []) (hL : ∀ i, i < n → L (i + 1) 0 = L i (inn i)) (hG : ∀ H, Same H1 H → G H) (hn : ∀ i j, noLs (L i j) = true) (hz : ∀ i j, i < n → j < inn i → (L i j).length < sizeLine)
    (hwi : ∀ i x H (R : It → Hp → Prop), i < n → Z i x → Same H1 H → R (Itr (lo i) (inn i)) H → wi1 ((wipe σ vs).set a (some x)) H R)
    (hw : ∀ x, wipe ((wipe σ vs).set a (some x)) vs = wipe σ vs) (hw1 : ∀ x y, wipe ((wipe ((wipe σ vs).set a (some x)) vs1).set b (some y)) vs1 = wipe ((wipe σ vs).set a (some x)) vs1)
    (hs : ∀ i x j H (ky : V → Hp → Prop) (kn : Hp → Prop), i < n → Z i x → j < inn i → Same H1 H → (∀ y H4 d, Same H H4 → Dp K H4 y d → L i (j + 1) = L i j ++ [d] → ky y H4) → (∀ H3, Same H H3 → L i (j + 1) = L i j → kn H3) →
      tt1 ((wipe ((wipe σ vs).set a (some x)) vs1).set b (some (.int (lo i + j)))) H fun c H6 => if c = true then te ((wipe ((wipe σ vs).set a (some x)) vs1).set b (some (.int (lo i + j)))) H6 ky else kn H6)
    (hd : ∀ H ys, Same H1 H → H D = some (.lst ys) → DpAll K H ys (L n 0) → Qd H) :
    ∃ W : Nat → Nat → Hp → Prop, (∃ m, W 0 m (upd H1 D (.lst []))) ∧ ∀ i m H, W i m H →
      (J.stop i H ∧ Qd H) ∨ (J.go i H ∧ ∃ Nx : Hp → Prop, (∀ H', Nx H' → ∃ m', m' < m ∧ W (i + 1) m' H') ∧ ∀ x H', J.yld i H x H' → gName a x (wipe σ vs) H' fun σ2 H2 => wipe σ2 vs = wipe σ vs ∧ tYes σ2 H2 fun c H3 =>
        if c = true then wi1 σ2 H3 fun J1 H4 => ∃ W1 : Nat → Nat → Hp → Prop, (∃ m, W1 0 m H4) ∧ ∀ j k H, W1 j k H →
          (J1.stop j H ∧ Nx H) ∨ (J1.go j H ∧ ∃ Nx1 : Hp → Prop, (∀ H', Nx1 H' → ∃ k', k' < k ∧ W1 (j + 1) k' H') ∧ ∀ x H', J1.yld j H x H' → gName b x (wipe σ2 vs1) H' fun σ3 H5 => wipe σ3 vs1 = wipe σ2 vs1 ∧ tt1 σ3 H5 fun c H6 =>
            if c = true then te σ3 H6 fun y H7 => ∃ acc, H7 D = some (.lst acc) ∧ acc.length < sizeLine ∧ Nx1 (upd H7 D (.lst (acc ++ [y]))) else Nx1 H6)
        else Nx H3) := by
  let P : Nat → Nat → Hp → Prop := fun i j H => Same H1 H ∧ ∃ acc, H D = some (.lst acc) ∧ DpAll K H acc (L i j)
  refine ⟨fun i m H => m = n - i ∧ i ≤ n ∧ P i 0 H, ⟨n, by simp, Nat.zero_le _, Same.put hD, [], upd_same, by rw [h0]; exact .nil⟩, ?_⟩
  rintro i m H ⟨rfl, hi, sm, acc, ha, hA⟩
  by_cases hlt : i < n
  · refine .inr ⟨w.goes i H hlt (hG H sm), P (i + 1) 0, fun H' p => ⟨n - (i + 1), by omega, rfl, hlt, p⟩, fun x H' y => ?_⟩
    obtain ⟨rfl, zx⟩ := w.yields i H x H' hlt (hG H sm) y
    refine ⟨hw x, ?_⟩
    unfold tYes
    simp only [if_true]
    refine hwi i x _ _ hlt zx sm ?_
    refine ⟨fun j k H => k = inn i - j ∧ j ≤ inn i ∧ P i j H, ⟨inn i, by simp, Nat.zero_le _, sm, acc, ha, hA⟩, ?_⟩
    rintro j k H2 ⟨rfl, hj, sm2, acc2, ha2, hA2⟩
    by_cases hjl : j < inn i
    · refine .inr ⟨hjl, P i (j + 1), fun H' p => ⟨inn i - (j + 1), by omega, rfl, hjl, p⟩, fun y H3 yy => ?_⟩
      obtain ⟨rfl, rfl⟩ := yy
      refine ⟨hw1 x _, ?_⟩
      refine hs i x j _ _ _ hlt zx hjl sm2 (fun y H4 d s4 hy eL => ⟨acc2, s4 _ _ ha2, ?_, (sm2.trans s4).over hD, acc2 ++ [y], upd_same, ?_⟩) (fun H3 s3 eL => ⟨sm2.trans s3, acc2, s3 _ _ ha2, by rw [eL]; exact hA2.same s3⟩)
      · rw [hA2.len]
        exact hz i j hlt hjl
      · have q : DpAll K H4 (acc2 ++ [y]) (L i (j + 1)) := by rw [eL]; exact (hA2.same s4).append (.one hy)
        exact q.putL (s4 _ _ ha2) (hn _ _)
    · have e : j = inn i := by omega
      subst e
      exact .inl ⟨Nat.le_refl _, sm2, acc2, ha2, by rw [hL i hlt]; exact hA2⟩
  · have e : i = n := by omega
    subst e
    exact .inl ⟨w.stops H (hG H sm), hd H acc sm ha hA⟩
end
end L2
-- MR
set_option Elab.async false
set_option linter.all false
set_option maxRecDepth 100000
/-! What the defs compute, in plain Lean. -/
namespace Wb
abbrev Es := List (Nat × Nat)
def bitOf (a b : Nat) : Nat := max a b * (max a b + 1) / 2 + min a b
def codeBy (r : Nat → Nat) (es : Es) : Nat := es.foldl (fun c e => c + 2 ^ bitOf (r e.1) (r e.2)) 0
def codeOf (es : Es) : Nat := codeBy (fun x => x) es
def codeUnder (es : Es) (r : List Nat) : Nat := codeBy (fun x => r.getD x 0) es
def edgeRow (code a n k : Nat) : Es := ((List.range k).filter fun j => code / 2 ^ bitOf a (a + j) % 2 == 1).map fun j => (a, a + j)
def edgesTo (code n k : Nat) : Es := (List.range k).flatMap fun a => edgeRow code a n (n - a)
def webOfCode (n code : Nat) : Nat × Es := (n, edgesTo code n n)
def renRow (n : Nat) (r : List Nat) (k : Nat) : List (List Nat) := ((List.range k).filter fun x => !r.contains x).map fun x => r ++ [x]
def renStep (n : Nat) (rs : List (List Nat)) : List (List Nat) := rs.flatMap fun r => renRow n r n
def rens (n : Nat) : Nat → List (List Nat)
  | 0 => [[]]
  | k + 1 => renStep n (rens n k)
abbrev perms (n : Nat) : List (List Nat) := rens n n
def srStep (es : Es) (b : Option (List Nat) × Nat) (r : List Nat) : Option (List Nat) × Nat := if b.1.isNone || codeUnder es r < b.2 then (some r, codeUnder es r) else b
def sortRow (es : Es) (rs : List (List Nat)) : Option (List Nat) × Nat := rs.foldl (srStep es) (none, 0)
def pLt (a b : Nat × Nat) : Bool := a.1 < b.1 || (a.1 == b.1 && a.2 < b.2)
def ins (x : Nat × Nat) : Es → Es
  | [] => [x]
  | y :: ys => if pLt x y then x :: y :: ys else if pLt y x then y :: ins x ys else y :: ys
def mkE : Es → Es
  | [] => []
  | x :: xs => ins x (mkE xs)
def ordE (r : Nat → Nat) (e : Nat × Nat) : Nat × Nat := (min (r e.1) (r e.2), max (r e.1) (r e.2))
def renamed (w : Nat × Es) (r : List Nat) : Nat × Es := (w.1, mkE (w.2.map (ordE fun x => r.getD x 0)))
def countSym (es : Es) (rs : List (List Nat)) : Nat := rs.countP fun r => codeUnder es r == codeOf es
def codeWith (number : Nat) (bits : List Nat) (k : Nat) : Nat := (List.range k).foldl (fun c i => if number / 2 ^ i % 2 = 1 then c + 2 ^ bits.getD i 0 else c) 0
def isLeast (es : Es) (rs : List (List Nat)) : Bool := rs.all fun r => !(codeUnder es r < codeOf es)
def bitRow (loops : Bool) (b k : Nat) : List Nat := ((List.range k).filter fun a => loops || a < b).map fun a => bitOf a b
def bits (loops : Bool) (n : Nat) : List Nat := (List.range n).flatMap fun b => bitRow loops b (b + 1)
def webAt (loops : Bool) (n k : Nat) : Nat × Es := webOfCode n (codeWith k (bits loops n) (bits loops n).length)
def websTo (loops : Bool) (n m : Nat) : List (Nat × Es) := ((List.range m).map (webAt loops n)).filter fun w => isLeast w.2 (perms n)
def allWebs (loops : Bool) (n : Nat) : List (Nat × Es) := websTo loops n (2 ^ (bits loops n).length)
def catTo (loops : Bool) (k : Nat) : List (Nat × Es) := (List.range k).flatMap (allWebs loops)
def cat (loops : Bool) (limit : Nat) : List (Nat × Es) := catTo loops (limit + 1)
/-- the law's own web -/
def pairRow (looped : Bool) (v k : Nat) : Es := ((List.range k).filter fun u => u < v || looped).map fun u => (u, v)
def pairsTo (looped : Bool) (k : Nat) : Es := (List.range k).flatMap fun v => pairRow looped v (v + 1)
def selGo (f : Nat → Bool) : Nat → Es → Es
  | _, [] => []
  | i, e :: es => if f i then e :: selGo f (i + 1) es else selGo f (i + 1) es
def sel (f : Nat → Bool) (ps : Es) : Es := selGo f 0 ps
def lawWeb (looped : Bool) (n : Nat) (f : Nat → Bool) : Nat × Es := (n, mkE (sel f (pairsTo looped n)))
theorem selGo_snoc (f : Nat → Bool) (e : Nat × Nat) : ∀ (es : Es) (i : Nat), selGo f i (es ++ [e]) = selGo f i es ++ (if f (i + es.length) then [e] else [])
  | [], i => by
    show (if f i then [e] else []) = [] ++ (if f (i + 0) then [e] else [])
    rw [Nat.add_zero, List.nil_append]
  | x :: es, i => by
    have ih := selGo_snoc f e es (i + 1)
    rw [show i + (x :: es).length = i + 1 + es.length by rw [List.length_cons]; omega]
    show (if f i then x :: selGo f (i + 1) (es ++ [e]) else selGo f (i + 1) (es ++ [e])) = (if f i then x :: selGo f (i + 1) es else selGo f (i + 1) es) ++ _
    rw [ih]
    split <;> rfl
/-! the lists as they grow -/
theorem range_map_filter {α : Type} (p : Nat → Bool) (g : Nat → α) (k : Nat) : ((List.range (k + 1)).filter p).map g = ((List.range k).filter p).map g ++ (if p k then [g k] else []) := by
  rw [List.range_succ, List.filter_append, List.map_append]
  congr 1
  by_cases h : p k = true
  · rw [List.filter_cons_of_pos h, if_pos h]; rfl
  · rw [List.filter_cons_of_neg h, if_neg h]; rfl
theorem range_flatMap {α : Type} (g : Nat → List α) (k : Nat) : (List.range (k + 1)).flatMap g = (List.range k).flatMap g ++ g k := by
  rw [List.range_succ, List.flatMap_append]
  congr 1
  rw [List.flatMap_cons, List.flatMap_nil, List.append_nil]
theorem foldl_take {α β : Type} (f : β → α → β) (a : β) {xs : List α} {i : Nat} {x : α} (h : xs[i]? = some x) : (xs.take (i + 1)).foldl f a = f ((xs.take i).foldl f a) x := by
  rw [List.take_add_one, h, List.foldl_append]
  rfl
theorem flatMap_take {α β : Type} (g : α → List β) {xs : List α} {i : Nat} {x : α} (h : xs[i]? = some x) : (xs.take (i + 1)).flatMap g = (xs.take i).flatMap g ++ g x := by
  rw [List.take_add_one, h, List.flatMap_append]
  congr 1
  rw [Option.toList_some, List.flatMap_cons, List.flatMap_nil, List.append_nil]
theorem filter_take {α : Type} (p : α → Bool) {xs : List α} {i : Nat} {x : α} (h : xs[i]? = some x) : (xs.take (i + 1)).filter p = (xs.take i).filter p ++ (if p x then [x] else []) := by
  rw [List.take_add_one, h, List.filter_append]
  congr 1
  rw [Option.toList_some]
  by_cases q : p x = true
  · rw [List.filter_cons_of_pos q, if_pos q]; rfl
  · rw [List.filter_cons_of_neg q, if_neg q]; rfl
theorem codeBy_take (r : Nat → Nat) {es : Es} {i : Nat} {e : Nat × Nat} (h : es[i]? = some e) : codeBy r (es.take (i + 1)) = codeBy r (es.take i) + 2 ^ bitOf (r e.1) (r e.2) := foldl_take _ _ h
theorem codeBy_zero (r : Nat → Nat) (es : Es) : codeBy r (es.take 0) = 0 := rfl
theorem codeBy_full (r : Nat → Nat) (es : Es) : codeBy r (es.take es.length) = codeBy r es := by rw [List.take_length]
theorem tri_le {h k : Nat} (x : h ≤ k) : h * (h + 1) / 2 ≤ k * (k + 1) / 2 := Nat.div_le_div_right (Nat.mul_le_mul x (Nat.succ_le_succ x))
theorem bitOf_le {a b k : Nat} (ha : a ≤ k) (hb : b ≤ k) : bitOf a b ≤ k * (k + 1) / 2 + k := by
  unfold bitOf
  have h1 : max a b ≤ k := Nat.max_le.mpr ⟨ha, hb⟩
  have h2 : min a b ≤ k := Nat.le_trans (Nat.min_le_left _ _) ha
  exact Nat.add_le_add (tri_le h1) h2
/-- each node of the edges below k -/
def Below (k : Nat) (es : Es) : Prop := ∀ e ∈ es, e.1 < k ∧ e.2 < k
end Wb
-- TX
set_option Elab.async false
set_option linter.all false
set_option maxRecDepth 100000
/-! The text: each def's place and names; what the top has left for the defs. -/
namespace Wb
open PySem PySem.Spec PyProof.Rows L2
def topS (i : Nat) : Stmt := PySem.Challenge.pw_webnumbers_k07_whole_catalogue.main.body.getD i (.Pass ⟨0, 0, 0, 0⟩)
abbrev N_make_web : List Str := ["size", "pairs", "edges", "place", "first", "second"]
abbrev s_make_web : Stmt := topS 10
theorem sc_make_web : FnScope N_make_web ["size", "pairs"] (defScope s_make_web) := ⟨rfl, rfl, rfl, by decide +kernel, rfl, by decide +kernel, by decide +kernel⟩
abbrev N_image : List Str := ["web", "row", "size", "place", "node", "first", "second"]
abbrev s_image : Stmt := topS 11
theorem sc_image : FnScope N_image ["web", "row", "size"] (defScope s_image) := ⟨rfl, rfl, rfl, by decide +kernel, rfl, by decide +kernel, by decide +kernel⟩
abbrev N_renamed : List Str := ["web", "row", "place", "node"]
abbrev s_renamed : Stmt := topS 12
theorem sc_renamed : FnScope N_renamed ["web", "row"] (defScope s_renamed) := ⟨rfl, rfl, rfl, by decide +kernel, rfl, by decide +kernel, by decide +kernel⟩
abbrev N_bit_of : List Str := ["first", "second", "low", "high"]
abbrev s_bit_of : Stmt := topS 14
theorem sc_bit_of : FnScope N_bit_of ["first", "second"] (defScope s_bit_of) := ⟨rfl, rfl, rfl, by decide +kernel, rfl, by decide +kernel, by decide +kernel⟩
abbrev N_code_of : List Str := ["web", "code", "first", "second"]
abbrev s_code_of : Stmt := topS 15
theorem sc_code_of : FnScope N_code_of ["web"] (defScope s_code_of) := ⟨rfl, rfl, rfl, by decide +kernel, rfl, by decide +kernel, by decide +kernel⟩
abbrev N_web_of_code : List Str := ["size", "code", "edges", "first", "second"]
abbrev s_web_of_code : Stmt := topS 16
theorem sc_web_of_code : FnScope N_web_of_code ["size", "code"] (defScope s_web_of_code) := ⟨rfl, rfl, rfl, by decide +kernel, rfl, by decide +kernel, by decide +kernel⟩
abbrev N_all_renamings : List Str := ["size", "rows", "_", "row", "node"]
abbrev s_all_renamings : Stmt := topS 20
theorem sc_all_renamings : GScope N_all_renamings ["size"] (defScope s_all_renamings) := ⟨rfl, rfl, rfl, by decide +kernel, rfl, by decide +kernel, by decide +kernel⟩
abbrev N_code_under : List Str := ["web", "row", "code", "first", "second"]
abbrev s_code_under : Stmt := topS 21
theorem sc_code_under : FnScope N_code_under ["web", "row"] (defScope s_code_under) := ⟨rfl, rfl, rfl, by decide +kernel, rfl, by decide +kernel, by decide +kernel⟩
abbrev N_sort_row : List Str := ["web", "best", "least", "row", "code"]
abbrev s_sort_row : Stmt := topS 22
theorem sc_sort_row : FnScope N_sort_row ["web"] (defScope s_sort_row) := ⟨rfl, rfl, rfl, by decide +kernel, rfl, by decide +kernel, by decide +kernel⟩
abbrev N_sort_of : List Str := ["web"]
abbrev s_sort_of : Stmt := topS 23
theorem sc_sort_of : FnScope N_sort_of ["web"] (defScope s_sort_of) := ⟨rfl, rfl, rfl, by decide +kernel, rfl, by decide +kernel, by decide +kernel⟩
abbrev N_count_symmetries : List Str := ["web", "code", "count", "row"]
abbrev s_count_symmetries : Stmt := topS 24
theorem sc_count_symmetries : FnScope N_count_symmetries ["web"] (defScope s_count_symmetries) := ⟨rfl, rfl, rfl, by decide +kernel, rfl, by decide +kernel, by decide +kernel⟩
abbrev N_check_limit : List Str := ["size", "loops", "limit"]
abbrev s_check_limit : Stmt := topS 28
theorem sc_check_limit : FnScope N_check_limit ["size", "loops"] (defScope s_check_limit) := ⟨rfl, rfl, rfl, by decide +kernel, rfl, by decide +kernel, by decide +kernel⟩
abbrev N_code_with : List Str := ["number", "bits", "code", "place", "bit"]
abbrev s_code_with : Stmt := topS 29
theorem sc_code_with : FnScope N_code_with ["number", "bits"] (defScope s_code_with) := ⟨rfl, rfl, rfl, by decide +kernel, rfl, by decide +kernel, by decide +kernel⟩
abbrev N_is_least : List Str := ["web", "rows", "code", "row"]
abbrev s_is_least : Stmt := topS 30
theorem sc_is_least : FnScope N_is_least ["web", "rows"] (defScope s_is_least) := ⟨rfl, rfl, rfl, by decide +kernel, rfl, by decide +kernel, by decide +kernel⟩
abbrev N_all_webs : List Str := ["size", "loops", "rows", "bits", "number", "web", "second", "first"]
abbrev s_all_webs : Stmt := topS 31
theorem sc_all_webs : GScope N_all_webs ["size", "loops"] (defScope s_all_webs) := ⟨rfl, rfl, rfl, by decide +kernel, rfl, by decide +kernel, by decide +kernel⟩
abbrev N_catalogue : List Str := ["limit", "loops", "found", "size"]
abbrev s_catalogue : Stmt := topS 32
theorem sc_catalogue : FnScope N_catalogue ["limit", "loops"] (defScope s_catalogue) := ⟨rfl, rfl, rfl, by decide +kernel, rfl, by decide +kernel, by decide +kernel⟩
abbrev N_law_cell : List Str := ["_law_script", "_law_place"]
abbrev s_law_cell : Stmt := topS 34
theorem sc_law_cell : FnScope N_law_cell ["_law_script", "_law_place"] (defScope s_law_cell) := ⟨rfl, rfl, rfl, by decide +kernel, rfl, by decide +kernel, by decide +kernel⟩
abbrev N_law_draws : List Str := ["_law_script", "_law_place", "_law_count", "_law_base", "_law_cell_here", "_law_row", "_law_k", "_law_mixed"]
abbrev s_law_draws : Stmt := topS 35
theorem sc_law_draws : FnScope N_law_draws ["_law_script", "_law_place", "_law_count", "_law_base"] (defScope s_law_draws) := ⟨rfl, rfl, rfl, by decide +kernel, rfl, by decide +kernel, by decide +kernel⟩
abbrev N_law_same : List Str := ["_law_first", "_law_second", "_law_k"]
abbrev s_law_same : Stmt := topS 36
theorem sc_law_same : FnScope N_law_same ["_law_first", "_law_second"] (defScope s_law_same) := ⟨rfl, rfl, rfl, by decide +kernel, rfl, by decide +kernel, by decide +kernel⟩
abbrev N_law_is_integer : List Str := ["_law_value"]
abbrev s_law_is_integer : Stmt := topS 37
theorem sc_law_is_integer : FnScope N_law_is_integer ["_law_value"] (defScope s_law_is_integer) := ⟨rfl, rfl, rfl, by decide +kernel, rfl, by decide +kernel, by decide +kernel⟩
abbrev N_law_is_web : List Str := ["_law_value", "_law_last", "_law_edge"]
abbrev s_law_is_web : Stmt := topS 38
theorem sc_law_is_web : FnScope N_law_is_web ["_law_value"] (defScope s_law_is_web) := ⟨rfl, rfl, rfl, by decide +kernel, rfl, by decide +kernel, by decide +kernel⟩
abbrev N_law_web : List Str := ["_law_size", "_law_bits", "_law_looped", "_law_edges", "_law_place", "_law_v", "_law_u"]
abbrev s_law_web : Stmt := topS 39
theorem sc_law_web : FnScope N_law_web ["_law_size", "_law_bits", "_law_looped"] (defScope s_law_web) := ⟨rfl, rfl, rfl, by decide +kernel, rfl, by decide +kernel, by decide +kernel⟩
abbrev N_law_permutations : List Str := ["_law_size", "_law_rows", "_law_k", "_law_longer", "_law_row", "_law_number"]
abbrev s_law_permutations : Stmt := topS 40
theorem sc_law_permutations : FnScope N_law_permutations ["_law_size"] (defScope s_law_permutations) := ⟨rfl, rfl, rfl, by decide +kernel, rfl, by decide +kernel, by decide +kernel⟩
abbrev N_law_code : List Str := ["_law_web_here", "_law_row", "_law_code_here", "_law_edge", "_law_low", "_law_high"]
abbrev s_law_code : Stmt := topS 41
theorem sc_law_code : FnScope N_law_code ["_law_web_here", "_law_row"] (defScope s_law_code) := ⟨rfl, rfl, rfl, by decide +kernel, rfl, by decide +kernel, by decide +kernel⟩
abbrev N_law_codes : List Str := ["_law_web_here", "_law_row"]
abbrev s_law_codes : Stmt := topS 42
theorem sc_law_codes : FnScope N_law_codes ["_law_web_here"] (defScope s_law_codes) := ⟨rfl, rfl, rfl, by decide +kernel, rfl, by decide +kernel, by decide +kernel⟩
abbrev N_law_is_group : List Str := ["_law_group", "_law_size", "_law_looped", "_law_pairs", "_law_total", "_law_last", "_law_web_here", "_law_codes_here", "_law_edge"]
abbrev s_law_is_group : Stmt := topS 43
theorem sc_law_is_group : FnScope N_law_is_group ["_law_group", "_law_size", "_law_looped"] (defScope s_law_is_group) := ⟨rfl, rfl, rfl, by decide +kernel, rfl, by decide +kernel, by decide +kernel⟩
abbrev N_law_is_catalogue : List Str := ["_law_webs", "_law_limit", "_law_looped", "_law_web_here", "_law_ordered", "_law_size", "_law_group"]
abbrev s_law_is_catalogue : Stmt := topS 44
theorem sc_law_is_catalogue : FnScope N_law_is_catalogue ["_law_webs", "_law_limit", "_law_looped"] (defScope s_law_is_catalogue) := ⟨rfl, rfl, rfl, by decide +kernel, rfl, by decide +kernel, by decide +kernel⟩
abbrev N_law_asked : List Str := ["_law_what", "_law_number", "_law_looped", "_law_webs", "e"]
abbrev s_law_asked : Stmt := topS 45
theorem sc_law_asked : FnScope N_law_asked ["_law_what", "_law_number", "_law_looped"] (defScope s_law_asked) := ⟨rfl, rfl, rfl, by decide +kernel, rfl, by decide +kernel, by decide +kernel⟩
abbrev N_law_refusals : List Str := ["_law_more", "_law_what"]
abbrev s_law_refusals : Stmt := topS 46
theorem sc_law_refusals : FnScope N_law_refusals ["_law_more"] (defScope s_law_refusals) := ⟨rfl, rfl, rfl, by decide +kernel, rfl, by decide +kernel, by decide +kernel⟩
abbrev N_law_web_told : List Str := ["_law_web_here", "_law_group", "_law_low", "_law_other", "_law_sorts", "_law_codes_here"]
abbrev s_law_web_told : Stmt := topS 47
theorem sc_law_web_told : FnScope N_law_web_told ["_law_web_here", "_law_group"] (defScope s_law_web_told) := ⟨rfl, rfl, rfl, by decide +kernel, rfl, by decide +kernel, by decide +kernel⟩
abbrev N_law : List Str := ["_law_script", "_law_shape", "_law_looped", "_law_limit", "_law_told", "_law_webs", "_law_kept", "_law_size", "_law_group", "_law_web_here"]
abbrev s_law : Stmt := topS 48
theorem sc_law : FnScope N_law ["_law_script"] (defScope s_law) := ⟨rfl, rfl, rfl, by decide +kernel, rfl, by decide +kernel, by decide +kernel⟩
/-- the built-in names that the program leaves as they are, and its own numbers -/
structure Bt (mg : Str → Option Value) : Prop where
  len : mg "len" = none
  range : mg "range" = none
  min : mg "min" = none
  max : mg "max" = none
  int : mg "int" = none
  abs : mg "abs" = none
  isinstance : mg "isinstance" = none
  enumerate : mg "enumerate" = none
  sorted : mg "sorted" = none
  set : mg "set" = none
  tuple : mg "tuple" = none
  list : mg "list" = none
  bool : mg "bool" = none
  str : mg "str" = none
  MAX_NODES : ∃ t, mg "MAX_NODES" = some (.int 64 t)
  MAX_SORTED : ∃ t, mg "MAX_SORTED" = some (.int 5 t)
  MAX_LISTED : ∃ t, mg "MAX_LISTED" = some (.int 6 t)
  MAX_SIMPLE : ∃ t, mg "MAX_SIMPLE" = some (.int 4 t)
  MAX_LOOPED : ∃ t, mg "MAX_LOOPED" = some (.int 3 t)
/-- a def that is called by its name -/
structure Cal (K : PySem.W.Frag) (mg : Str → Option Value) (nm : Str) (qual : Str) (st : Stmt) (f : Addr) (fd : FuncData) (ps : List Str) : Prop where
  F : Fun K nm qual st f fd
  b : Binds K fd ps []
  g : mg nm = some (.ref f)
end Wb
-- FB
set_option Elab.async false
set_option linter.all false
set_option maxRecDepth 100000
/-! finite facts: codes of the listed webs are in range -/
namespace Wb
def lim (lp : Bool) : Nat := if lp then 3 else 4
def chkCode (lp : Bool) (n : Nat) : Bool := (List.range (2 ^ (bits lp n).length)).all fun k => decide (codeWith k (bits lp n) (bits lp n).length < 2 ^ (n * (n + 1) / 2)) && decide ((bits lp n).length ≤ 10)
theorem chkCode_all : ([true, false].all fun lp => (List.range (lim lp + 1)).all fun n => chkCode lp n) = true := by decide +kernel
theorem code_ok {lp : Bool} {n k : Nat} (hn : n ≤ lim lp) (hk : k < 2 ^ (bits lp n).length) : codeWith k (bits lp n) (bits lp n).length < 2 ^ (n * (n + 1) / 2) := by
  have h := List.all_eq_true.mp chkCode_all lp (by cases lp <;> simp)
  have h2 := List.all_eq_true.mp h n (List.mem_range.mpr (by omega))
  have h3 := List.all_eq_true.mp h2 k (List.mem_range.mpr hk)
  rw [Bool.and_eq_true] at h3
  exact of_decide_eq_true h3.1
theorem bits_len {lp : Bool} {n : Nat} (hn : n ≤ lim lp) : (bits lp n).length ≤ 10 := by
  have h := List.all_eq_true.mp chkCode_all lp (by cases lp <;> simp)
  have h2 := List.all_eq_true.mp h n (List.mem_range.mpr (by omega))
  have h3 := List.all_eq_true.mp h2 0 (List.mem_range.mpr (Nat.pos_of_ne_zero (by simp)))
  rw [Bool.and_eq_true] at h3
  exact of_decide_eq_true h3.2
theorem lim_le (lp : Bool) : lim lp ≤ 4 := by cases lp <;> decide
theorem webOfCode_below (n c : Nat) : Below n (webOfCode n c).2 := fun e he => by
  obtain ⟨a, ha, h1⟩ := List.mem_flatMap.mp he
  obtain ⟨j, hj, rfl⟩ := List.mem_map.mp h1
  have h2 := List.mem_range.mp ha
  have h3 := List.mem_range.mp (List.mem_filter.mp hj).1
  exact ⟨h2, by show a + j < n; omega⟩
end Wb
-- WA
set_option Elab.async false
set_option linter.all false
set_option maxRecDepth 100000
set_option maxHeartbeats 4000000
/-! bit_of, code_of, code_under -/
namespace Wb
open PySem PySem.Spec PyProof.Rows L2
theorem imin (a b : Nat) : (if (b : Int) < (a : Int) then (b : Int) else (a : Int)) = ((min a b : Nat) : Int) := by
  by_cases h : b < a
  · rw [if_pos (by omega), Nat.min_eq_right (by omega)]
  · rw [if_neg (by omega), Nat.min_eq_left (by omega)]
theorem imax (a b : Nat) : (if (b : Int) > (a : Int) then (b : Int) else (a : Int)) = ((max a b : Nat) : Int) := by
  by_cases h : b > a
  · rw [if_pos (by omega), Nat.max_eq_right (by omega)]
  · rw [if_neg (by omega), Nat.max_eq_left (by omega)]
theorem ibit (lo hi : Nat) : ((hi : Int) * ((hi : Int) + 1) / 2 + (lo : Int)) = ((hi * (hi + 1) / 2 + lo : Nat) : Int) := by
  simp
theorem cmul_n {a : Nat} {j : Int} (h : a < 1000000) : CMul (a : Int) j := .inl ⟨by omega, by omega⟩
theorem line_lt {n : Nat} (h : n ≤ 100000) : n < sizeLine := Nat.lt_of_le_of_lt h (by decide)
theorem line_le {n : Nat} (h : n ≤ 100000) : n ≤ sizeLine := Nat.le_of_lt (line_lt h)
section
variable {P : Program} {w : World} {K : PySem.W.Frag} {mg : Str → Option Value} {base : Heap} {f f_bit_of : Addr} {fd fd_bit_of : FuncData}
def spBit : Sp := fun vs H Q _ => ∃ a b : Nat, vs = [vN a, vN b] ∧ a < 1000 ∧ b < 1000 ∧ Q (vN (bitOf a b)) H
theorem ok_bit_of (B : Bt mg) (F : Fun K "bit_of" "bit_of" s_bit_of f fd) : FnOk P w K mg base CX0 1 f fd ["first", "second"] spBit := by
  refine F.ok sc_bit_of (fun vs H Q E h => ?_) (fun cdv A outer s H vs Q E hr h => ?_)
  · obtain ⟨a, b, rfl, _⟩ := h
    rfl
  · obtain ⟨a, b, rfl, ha, hb, q⟩ := h
    refine ⟨_, (pss_cons (ps_set (i := 2) sc_bit_of.nd rfl (Or.inl rfl) (pe_callB (call_min2 rfl) (by rfl) B.min (by decide +kernel) (pa_cons (pv 0) (pa_cons (pv 1) pa_nil))))
      (pss_cons (ps_set (i := 3) sc_bit_of.nd rfl (Or.inl rfl) (pe_callB (call_max2 rfl) (by rfl) B.max (by decide +kernel) (pa_cons (pv 0) (pa_cons (pv 1) pa_nil))))
      (pss_one (ps_ret (pe_op op_add (pe_op op_fdiv (pe_op op_mul (pv 3) (pe_op op_add (pv 3) pe_int)) pe_int) (pv 2)))))), ?_⟩
    refine ⟨_, rfl, _, rfl, _, _, rfl, ?_⟩
    refine ⟨_, rfl, _, rfl, _, _, rfl, ?_⟩
    rw [imin, imax]
    have hm : max a b < 1000 := Nat.max_lt.mpr ⟨ha, hb⟩
    refine ⟨_, rfl, _, rfl, _, _, rfl, rfl, _, _, rfl, rfl, cmul_n (by omega), _, _, rfl, rfl, ⟨by decide, by decide⟩, _, rfl, _, _, rfl, rfl, ?_⟩
    have e := ibit (min a b) (max a b)
    show Q (.int (((max a b : Nat) : Int) * (((max a b : Nat) : Int) + 1) / 2 + ((min a b : Nat) : Int))) H
    rw [e]
    exact q
/-- the code of a web -/
def spCode (K : PySem.W.Frag) : Sp := fun vs H Q _ => ∃ (v : V) (x : Nat × Es), vs = [v] ∧ Dp K H v (pdW x) ∧ Below 64 x.2 ∧ Q (vN (codeOf x.2)) H
theorem pow_line {a b : Nat} (h1 : a < 64) (h2 : b < 64) : bitOf a b ≤ 134217727 :=
  Nat.le_trans (bitOf_le (k := 64) (by omega) (by omega)) (by decide)
theorem inat_pow (c k : Nat) : ((c : Int) + 2 ^ k) = ((c + 2 ^ k : Nat) : Int) := by
  simp
theorem ok_code_of (B : Bt mg) (F : Fun K "code_of" "code_of" s_code_of f fd) (C_bit_of : Cal K mg "bit_of" "bit_of" s_bit_of f_bit_of fd_bit_of ["first", "second"]) : FnOk P w K mg base CX0 2 f fd ["web"] (spCode K) := by
  have G_bit_of : FnOk P w K mg base CX0 1 f_bit_of fd_bit_of ["first", "second"] spBit := ok_bit_of B C_bit_of.F
  refine F.ok sc_code_of (fun vs H Q E h => ?_) (fun cdv A outer s H vs Q E hr h => ?_)
  · obtain ⟨v, x, rfl, _⟩ := h
    rfl
  · obtain ⟨v, x, rfl, hW, hB, q⟩ := h
    obtain ⟨p, e, es, rfl, hp, he, hes⟩ := hW.web
    refine ⟨_, (pss_cons (ps_set (i := 1) sc_code_of.nd rfl (Or.inl rfl) pe_int)
      (pss_cons (ps_for PassesOwn.never rfl (pi_tup (pe_ix ix_tup (pv 0) pe_int (fun _ _ => rfl))) (pg_tup rfl (pgs_cons (pg_name (i := 2) sc_code_of.nd rfl (Or.inl rfl)) (pgs_cons (pg_name (i := 3) sc_code_of.nd rfl (Or.inl rfl)) pgs_nil))) 
        (pss_one (ps_set (i := 1) sc_code_of.nd rfl (Or.inl rfl) (pe_op op_add (pv 1) (pe_op op_oneShl pe_int (pe_call G_bit_of (hr.mono (by decide)) (by rfl) C_bit_of.g C_bit_of.F.kp C_bit_of.b .nil pass0 (pa_cons (pv 2) (pa_cons (pv 3) pa_nil))))))))
      (pss_one (ps_ret (pv 1))))), ?_⟩
    refine ⟨.ref p, rfl, p, _, _, _, rfl, rfl, hp, atI_nat (j := 1) rfl, e, rfl, ⟨_, he⟩, ?_⟩
    refine for_tup (xs := es) (fun i σ H' => ∃ y2 y3, σ = [some (.ref p), some (vN (codeBy (fun x => x) (x.2.take i))), y2, y3] ∧ H' = H) ⟨_, _, rfl, rfl⟩ (fun i σ H' _ h => ?_) (fun i y σ H' ey h => ?_) (fun σ H' h => ?_)
    · obtain ⟨_, _, _, rfl⟩ := h
      exact he
    · obtain ⟨y2, y3, rfl, rfl⟩ := h
      obtain ⟨d, ed, hd⟩ := hes.at_ ey
      rw [List.getElem?_map] at ed
      obtain ⟨g, eg, rfl⟩ := Option.map_eq_some_iff.mp ed
      obtain ⟨t, rfl, ht⟩ := hd.edge
      have hb := hB g (List.mem_of_getElem? eg)
      refine ⟨t, _, rfl, ht, rfl, _, _, rfl, _, _, rfl, rfl, ?_⟩
      refine ⟨_, rfl, _, rfl, _, rfl, g.1, g.2, rfl, by omega, by omega, bitOf g.1 g.2, rfl, rfl, pow_line hb.1 hb.2, _, _, rfl, rfl, some (vN g.1), some (vN g.2), ?_, rfl⟩
      rw [codeBy_take (fun x => x) eg]
      have e := inat_pow (codeBy (fun x => x) (x.2.take i)) (bitOf g.1 g.2)
      show [_, some (V.int _), _, _] = _
      rw [e]
    · obtain ⟨y2, y3, rfl, rfl⟩ := h
      refine ⟨_, rfl, ?_⟩
      have el : es.length = x.2.length := by rw [hes.len, List.length_map]
      rw [el, codeBy_full]
      exact q
/-- the code that a web has under a row (a tuple) -/
def spUnder (K : PySem.W.Frag) : Sp := fun vs H Q _ => ∃ (v u : V) (x : Nat × Es) (r : List Nat), vs = [v, u] ∧ Dp K H v (pdW x) ∧ Dp K H u (pdR r) ∧ Below r.length x.2 ∧ (∀ k ∈ r, k < 64) ∧ Q (vN (codeUnder x.2 r)) H
theorem getD_at {r : List Nat} {i : Nat} (h : i < r.length) : (r.map vN)[i]? = some (vN (r.getD i 0)) := by
  rw [List.getElem?_map, List.getElem?_eq_getElem h, List.getD_eq_getElem?_getD, List.getElem?_eq_getElem h]
  rfl
theorem getD_mem {r : List Nat} {i : Nat} (h : i < r.length) : r.getD i 0 ∈ r := by
  rw [List.getD_eq_getElem?_getD, List.getElem?_eq_getElem h]
  exact List.getElem_mem h
theorem ok_code_under (B : Bt mg) (F : Fun K "code_under" "code_under" s_code_under f fd) (C_bit_of : Cal K mg "bit_of" "bit_of" s_bit_of f_bit_of fd_bit_of ["first", "second"]) : FnOk P w K mg base CX0 2 f fd ["web", "row"] (spUnder K) := by
  have G_bit_of : FnOk P w K mg base CX0 1 f_bit_of fd_bit_of ["first", "second"] spBit := ok_bit_of B C_bit_of.F
  refine F.ok sc_code_under (fun vs H Q E h => ?_) (fun cdv A outer s H vs Q E hr h => ?_)
  · obtain ⟨v, u, x, r, rfl, _⟩ := h
    rfl
  · obtain ⟨v, u, x, r, rfl, hW, hR, hB, hr64, q⟩ := h
    obtain ⟨p, e, es, rfl, hp, he, hes⟩ := hW.web
    obtain ⟨R, rfl, hRt⟩ := hR.row
    refine ⟨_, (pss_cons (ps_set (i := 2) sc_code_under.nd rfl (Or.inl rfl) pe_int)
      (pss_cons (ps_for PassesOwn.never rfl (pi_tup (pe_ix ix_tup (pv 0) pe_int (fun _ _ => rfl))) (pg_tup rfl (pgs_cons (pg_name (i := 3) sc_code_under.nd rfl (Or.inl rfl)) (pgs_cons (pg_name (i := 4) sc_code_under.nd rfl (Or.inl rfl)) pgs_nil))) 
        (pss_one (ps_set (i := 2) sc_code_under.nd rfl (Or.inl rfl) (pe_op op_add (pv 2) (pe_op op_oneShl pe_int (pe_call G_bit_of (hr.mono (by decide)) (by rfl) C_bit_of.g C_bit_of.F.kp C_bit_of.b .nil pass0 (pa_cons (pe_ix ix_tup (pv 1) (pv 3) (fun _ _ => rfl)) (pa_cons (pe_ix ix_tup (pv 1) (pv 4) (fun _ _ => rfl)) pa_nil))))))))
      (pss_one (ps_ret (pv 2))))), ?_⟩
    refine ⟨.ref p, rfl, p, _, _, _, rfl, rfl, hp, atI_nat (j := 1) rfl, e, rfl, ⟨_, he⟩, ?_⟩
    refine for_tup (xs := es) (fun i σ H' => ∃ y2 y3, σ = [some (.ref p), some (.ref R), some (vN (codeBy (fun x => r.getD x 0) (x.2.take i))), y2, y3] ∧ H' = H) ⟨_, _, rfl, rfl⟩ (fun i σ H' _ h => ?_) (fun i y σ H' ey h => ?_) (fun σ H' h => ?_)
    · obtain ⟨_, _, _, rfl⟩ := h
      exact he
    · obtain ⟨y2, y3, rfl, rfl⟩ := h
      obtain ⟨d, ed, hd⟩ := hes.at_ ey
      rw [List.getElem?_map] at ed
      obtain ⟨g, eg, rfl⟩ := Option.map_eq_some_iff.mp ed
      obtain ⟨t, rfl, ht⟩ := hd.edge
      have hb := hB g (List.mem_of_getElem? eg)
      have h1 := hr64 _ (getD_mem hb.1)
      have h2 := hr64 _ (getD_mem hb.2)
      refine ⟨t, _, rfl, ht, rfl, _, _, rfl, _, _, rfl, rfl, ?_⟩
      refine ⟨_, rfl, .ref R, rfl, _, rfl, R, _, _, _, rfl, rfl, hRt, atI_nat (getD_at hb.1), .ref R, rfl, _, rfl, R, _, _, _, rfl, rfl, hRt, atI_nat (getD_at hb.2), _, _, rfl, by omega, by omega, _, rfl, rfl, pow_line h1 h2, _, _, rfl, rfl, some (vN g.1), some (vN g.2), ?_, rfl⟩
      rw [codeBy_take (fun x => r.getD x 0) eg]
      have e := inat_pow (codeBy (fun x => r.getD x 0) (x.2.take i)) (bitOf (r.getD g.1 0) (r.getD g.2 0))
      show [_, _, some (V.int _), _, _] = _
      rw [e]
    · obtain ⟨y2, y3, rfl, rfl⟩ := h
      refine ⟨_, rfl, ?_⟩
      have el : es.length = x.2.length := by rw [hes.len, List.length_map]
      rw [el, codeBy_full]
      exact q
end
end Wb
-- WB
set_option Elab.async false
set_option linter.all false
set_option maxRecDepth 100000
set_option maxHeartbeats 4000000
/-! web_of_code -/
namespace Wb
open PySem PySem.Spec PyProof.Rows L2
theorem edgeRow_len (code a n k : Nat) : (edgeRow code a n k).length ≤ k := by
  unfold edgeRow
  rw [List.length_map]
  exact Nat.le_trans (List.length_filter_le _ _) (Nat.le_of_eq List.length_range)
theorem flatMap_len {α β : Type} (g : α → List β) (m : Nat) : ∀ (xs : List α), (∀ x ∈ xs, (g x).length ≤ m) → (xs.flatMap g).length ≤ xs.length * m
  | [], _ => Nat.zero_le _
  | x :: xs, h => by
    rw [List.flatMap_cons, List.length_append, List.length_cons, Nat.succ_mul]
    have := flatMap_len g m xs fun y hy => h y (List.mem_cons_of_mem _ hy)
    have := h x List.mem_cons_self
    omega
theorem edgesTo_len (code n k : Nat) : (edgesTo code n k).length ≤ k * n := by
  have := flatMap_len (fun a => edgeRow code a n (n - a)) n (List.range k) fun a _ => Nat.le_trans (edgeRow_len _ _ _ _) (Nat.sub_le _ _)
  rw [List.length_range] at this
  exact this
theorem edgeRow_snoc (code a n k : Nat) : edgeRow code a n (k + 1) = edgeRow code a n k ++ (if (code / 2 ^ bitOf a (a + k) % 2 == 1) = true then [(a, a + k)] else []) := range_map_filter _ _ k
section
variable {P : Program} {w : World} {K : PySem.W.Frag} {mg : Str → Option Value} {base : Heap} {f f_bit_of : Addr} {fd fd_bit_of : FuncData}
def spOfCode (K : PySem.W.Frag) : Sp := fun vs H Q _ => ∃ n c : Nat, vs = [vN n, vN c] ∧ n ≤ 5 ∧ c < 2 ^ (n * (n + 1) / 2) ∧ ∀ H' v, Same H H' → Dp K H' v (pdW (webOfCode n c)) → Q v H'
theorem ok_web_of_code (B : Bt mg) (F : Fun K "web_of_code" "web_of_code" s_web_of_code f fd) (C_bit_of : Cal K mg "bit_of" "bit_of" s_bit_of f_bit_of fd_bit_of ["first", "second"]) : FnOk P w K mg base CX0 2 f fd ["size", "code"] (spOfCode K) := by
  have G_bit_of : FnOk P w K mg base CX0 1 f_bit_of fd_bit_of ["first", "second"] spBit := ok_bit_of B C_bit_of.F
  refine F.ok sc_web_of_code (fun vs H Q E h => ?_) (fun cdv A outer s H vs Q E hr h => ?_)
  · obtain ⟨v, x, rfl, _⟩ := h
    rfl
  · obtain ⟨n, c, rfl, hn, hc, q⟩ := h
    refine ⟨_, (pss_cons (ps_if (pt_cmpR op_gt (pv 0) (pe_glob (v := .int 64) rfl B.MAX_NODES.choose_spec ⟨_, rfl⟩) (nomark _)) 
        (pss_one ps_never) pss_nil)
      (pss_cons (ps_if (PW.pt (pw_or (pt_cmpR op_lt (pv 1) pe_int (nomark _)) (pw_or1 (pt_cmpR op_ge (pv 1) (pe_op op_oneShl pe_int (pe_op op_fdiv (pe_op op_mul (pv 0) (pe_op op_add (pv 0) pe_int)) pe_int)) (nomark _))))) 
        (pss_one ps_never) pss_nil)
      (pss_cons (ps_set (i := 2) sc_web_of_code.nd rfl (Or.inl rfl) (pe_lst pa_nil))
      (pss_cons (ps_for PassesOwn.never rfl (pi_range1 (by rfl) B.range (pa_cons (pv 0) pa_nil)) (pg_name (i := 3) sc_web_of_code.nd rfl (Or.inl rfl)) 
        (pss_one (ps_for PassesOwn.never rfl (pi_range2 (by rfl) B.range (pa_cons (pv 3) (pa_cons (pv 0) pa_nil))) (pg_name (i := 4) sc_web_of_code.nd rfl (Or.inl rfl)) 
          (pss_one (ps_if (pt_cmpR op_eq (pe_op op_odd (pe_op op_shrN (pv 1) (pe_call G_bit_of (hr.mono (by decide)) (by rfl) C_bit_of.g C_bit_of.F.kp C_bit_of.b .nil pass0 (pa_cons (pv 3) (pa_cons (pv 4) pa_nil)))) pe_int) pe_int (nomark _)) 
            (pss_one (ps_expr (pe_bm PySem.F.plainAttrs_list PySem.F.slot_list_append PySem.F.type_list_append mt_append (pv 2) (pa_cons (pe_tup (pa_cons (pv 3) (pa_cons (pv 4) pa_nil))) pa_nil)))) pss_nil)))))
      (pss_one (ps_ret (pe_tup (pa_cons (pv 0) (pa_cons (pe_callTy call_tuple_of (by rfl) B.tuple (by decide +kernel) (pa_cons (pv 2) pa_nil)) pa_nil))))))))), ?_⟩
    -- size > MAX_NODES
    refine ⟨_, rfl, _, _, rfl, rfl, _, rfl, ?_⟩
    rw [show decide ((n : Int) > 64) = false from decide_eq_false (by omega)]
    refine iteF ?_
    -- code < 0 or ..
    refine ⟨_, rfl, _, _, rfl, rfl, _, rfl, ?_⟩
    rw [show decide ((c : Int) < 0) = false from decide_eq_false (by omega)]
    refine iteF ?_
    refine ⟨_, rfl, _, rfl, _, rfl, _, _, rfl, rfl, _, _, rfl, rfl, cmul_n (by omega), _, _, rfl, rfl, ⟨by decide, by decide⟩, n * (n + 1) / 2, rfl, ?_, ?_, ?_⟩
    · show V.int ((n : Int) * ((n : Int) + 1) / 2) = .int ((n * (n + 1) / 2 : Nat) : Int)
      simp
    · have : n * (n + 1) / 2 ≤ 5 * (5 + 1) / 2 := tri_le hn
      omega
    refine ⟨_, _, rfl, rfl, _, rfl, ?_⟩
    have hci : ((c : Int) < 2 ^ (n * (n + 1) / 2)) := by exact_mod_cast hc
    rw [show decide ((c : Int) ≥ 2 ^ (n * (n + 1) / 2)) = false from decide_eq_false (by omega)]
    refine iteF ?_
    -- edges = []
    refine ⟨Nat.zero_le _, fun o no => ?_⟩
    have base1 : DpAll K (upd H o (.lst [])) [] ((edgesTo c n 0).map pdE) := .nil
    refine ⟨_, rfl, (n : Int), rfl, by omega, by omega, ?_⟩
    refine for_range (lo := 0) (n := n) (fun i σ H' => ∃ y3 y4 vs, σ = [some (vN n), some (vN c), some (.ref o), y3, y4] ∧ Same H H' ∧ H' o = some (.lst vs) ∧ DpAll K H' vs ((edgesTo c n i).map pdE)) ⟨_, _, [], rfl, Same.put no, upd_same, base1⟩ (fun i σ H' hi h => ?_) (fun σ H' h => ?_)
    · obtain ⟨y3, y4, vs, rfl, sm, ho, hv⟩ := h
      rw [Int.zero_add]
      refine ⟨_, rfl, _, rfl, (i : Int), (n : Int), rfl, ⟨by omega, by omega, by omega, by omega⟩, ?_⟩
      rw [show ((n : Int) - (i : Int)).toNat = n - i by omega]
      refine for_range (lo := (i : Int)) (n := n - i) (fun j σ H' => ∃ y4 vs, σ = [some (vN n), some (vN c), some (.ref o), some (vN i), y4] ∧ Same H H' ∧ H' o = some (.lst vs) ∧ DpAll K H' vs ((edgesTo c n i ++ edgeRow c i n j).map pdE)) ⟨_, vs, rfl, sm, ho, by rw [show edgeRow c i n 0 = [] from rfl, List.append_nil]; exact hv⟩ (fun j σ H' hj h => ?_) (fun σ H' h => ?_)
      · obtain ⟨y4, vs, rfl, sm, ho, hv⟩ := h
        rw [show ((i : Int) + (j : Int)) = ((i + j : Nat) : Int) by omega]
        refine ⟨_, rfl, _, rfl, _, rfl, i, i + j, rfl, by omega, by omega, _, bitOf i (i + j), rfl, rfl, c / 2 ^ bitOf i (i + j), ?_, rfl, rfl, _, rfl, ite2 (fun e => ?_) (fun e => ?_)⟩
        · show V.int ((c : Int) / 2 ^ bitOf i (i + j)) = _
          simp
        · have e0 : ((c / 2 ^ bitOf i (i + j) % 2 : Nat) : Int) = 1 := V.int.inj (of_decide_eq_true e)
          have e1 : (c / 2 ^ bitOf i (i + j) % 2 == 1) = true := by rw [beq_iff_eq]; omega
          refine ⟨.ref o, rfl, .inl ⟨rfl, _, .inl (.inl ho)⟩, _, rfl, _, rfl, by show 2 ≤ sizeLine; decide, fun t nt => ?_⟩
          have sm2 : Same H' (upd H' t (.tup [vN i, vN (i + j)])) := Same.put nt
          have ho2 := sm2 _ _ ho
          refine ⟨o, _, _, rfl, rfl, ho2, ?_, _, _, rfl, (sm.trans sm2).over no, upd_same, ?_⟩
          · have h1 := hv.len
            rw [List.length_map, List.length_append] at h1
            have h2 := edgesTo_len c n i
            have h3 := edgeRow_len c i n j
            have h4 : i * n ≤ 5 * 5 := Nat.mul_le_mul (by omega) hn
            exact line_lt (by omega)
          · rw [edgeRow_snoc, if_pos e1, ← List.append_assoc, List.map_append]
            refine DpAll.putL ho2 ?_ ((hv.same sm2).append (.one (.of_edge (e := (i, i + j)) (.of upd_same))))
            rw [← List.map_singleton, ← List.map_append]
            exact noLs_map noL_e _
        · have e1 : ¬ (c / 2 ^ bitOf i (i + j) % 2 == 1) = true := fun z => e (by
            have z1 : c / 2 ^ bitOf i (i + j) % 2 = 1 := beq_iff_eq.mp z
            show decide (V.int ((c / 2 ^ bitOf i (i + j) % 2 : Nat) : Int) = V.int 1) = true
            rw [z1]
            exact decide_eq_true rfl)
          refine ⟨_, vs, rfl, sm, ho, ?_⟩
          rw [edgeRow_snoc, if_neg e1, List.append_nil]
          exact hv
      · obtain ⟨y4, vs, rfl, sm, ho, hv⟩ := h
        refine ⟨_, _, vs, rfl, sm, ho, ?_⟩
        rw [show edgesTo c n (i + 1) = edgesTo c n i ++ edgeRow c i n (n - i) from range_flatMap _ i]
        exact hv
    · obtain ⟨y3, y4, vs, rfl, sm, ho, hv⟩ := h
      refine ⟨_, rfl, .ref o, rfl, o, vs, rfl, .inl ⟨.of ho, fun T nT => ?_⟩⟩
      have s2 : Same H' (upd H' T (.tup vs)) := Same.put nT
      refine ⟨by show 2 ≤ sizeLine; decide, fun p np => ?_⟩
      have s3 := Same.put (o := .tup [vN n, .ref T]) np
      exact q _ _ ((sm.trans s2).trans s3) (.of_web (w := webOfCode n c) (q := T) (.of upd_same) (.of (s3 _ _ upd_same)) ((hv.same s2).same s3))
end
end Wb
-- WC
set_option Elab.async false
set_option linter.all false
set_option maxRecDepth 100000
set_option maxHeartbeats 4000000
/-! code_with, is_least -/
namespace Wb
open PySem PySem.Spec PyProof.Rows L2
theorem codeWith_succ (number : Nat) (bs : List Nat) (k : Nat) : codeWith number bs (k + 1) = if number / 2 ^ k % 2 = 1 then codeWith number bs k + 2 ^ bs.getD k 0 else codeWith number bs k := by
  unfold codeWith
  rw [List.range_succ, List.foldl_append]
  rfl
section
variable {P : Program} {w : World} {K : PySem.W.Frag} {mg : Str → Option Value} {base : Heap} {f f_bit_of f_code_of f_code_under : Addr} {fd fd_bit_of fd_code_of fd_code_under : FuncData}
def spCodeWith (K : PySem.W.Frag) : Sp := fun vs H Q _ => ∃ (m : Nat) (l : Addr) (bs : List Nat), vs = [vN m, .ref l] ∧ SqL K H l (bs.map vN) ∧ (∀ b ∈ bs, b < 1000) ∧ ∀ H', Same H H' → Q (vN (codeWith m bs bs.length)) H'
theorem ok_code_with (B : Bt mg) (F : Fun K "code_with" "code_with" s_code_with f fd) : FnOk P w K mg base CX0 1 f fd ["number", "bits"] (spCodeWith K) := by
  refine F.ok sc_code_with (fun vs H Q E h => ?_) (fun cdv A outer s H vs Q E hr h => ?_)
  · obtain ⟨m, l, bs, rfl, _⟩ := h
    rfl
  · obtain ⟨m, l, bs, rfl, hl, hb, q⟩ := h
    refine ⟨_, (pss_cons (ps_set (i := 2) sc_code_with.nd rfl (Or.inl rfl) pe_int)
      (pss_cons (ps_for PassesOwn.never rfl (pi_enum (by rfl) B.enumerate (pa_cons (pv 1) pa_nil)) (pg_tup rfl (pgs_cons (pg_name (i := 3) sc_code_with.nd rfl (Or.inl rfl)) (pgs_cons (pg_name (i := 4) sc_code_with.nd rfl (Or.inl rfl)) pgs_nil))) 
        (pss_one (ps_if (pt_cmpR op_eq (pe_op op_odd (pe_op op_shrN (pv 0) (pv 3)) pe_int) pe_int (nomark _)) 
          (pss_one (ps_set (i := 2) sc_code_with.nd rfl (Or.inl rfl) (pe_op op_add (pv 2) (pe_op op_oneShl pe_int (pv 4))))) pss_nil)))
      (pss_one (ps_ret (pv 2))))), ?_⟩
    refine ⟨.ref l, rfl, l, bs.map vN, rfl, hl, ?_⟩
    refine for_it (walk_enum (xs := bs.map vN)) (fun i σ H' => ∃ y3 y4, σ = [some (vN m), some (.ref l), some (vN (codeWith m bs i)), y3, y4] ∧ Same H H') ⟨_, _, rfl, Same.refl H⟩ (fun i σ H' _ h => ?_) (fun i x σ H1 H2 hi h y => ?_) (fun σ H' h => ?_)
    · obtain ⟨_, _, _, sm⟩ := h
      exact sm.seq hl
    · obtain ⟨y3, y4, rfl, sm⟩ := h
      obtain ⟨T, x1, x2, rfl, nT, rfl, e1, e2⟩ := y
      have hib : i < bs.length := by rw [List.length_map] at hi; exact hi
      cases e1
      have e3 : x2 = vN (bs.getD i 0) := Option.some.inj (e2.symm.trans (getD_at hib))
      subst e3
      have sm2 : Same H1 (upd H1 T (.tup [.int (i : Nat), vN (bs.getD i 0)])) := Same.put nT
      refine ⟨T, _, rfl, .of upd_same, rfl, _, _, rfl, _, _, rfl, rfl, ?_⟩
      refine ⟨_, rfl, _, rfl, _, i, rfl, rfl, m / 2 ^ i, ?_, rfl, rfl, _, rfl, ite2 (fun e => ?_) (fun e => ?_)⟩
      · show V.int ((m : Int) / 2 ^ i) = _
        simp
      · have e1 : m / 2 ^ i % 2 = 1 := by
          have z : ((m / 2 ^ i % 2 : Nat) : Int) = 1 := V.int.inj (of_decide_eq_true e)
          omega
        refine ⟨_, rfl, _, rfl, bs.getD i 0, rfl, rfl, Nat.le_trans (Nat.le_of_lt (hb _ (getD_mem hib))) (by decide), _, _, rfl, rfl, some (.int (i : Nat)), some (vN (bs.getD i 0)), ?_, sm.trans sm2⟩
        rw [codeWith_succ, if_pos e1]
        have e := inat_pow (codeWith m bs i) (bs.getD i 0)
        show [_, _, some (V.int _), _, _] = _
        rw [e]
      · have e1 : ¬ m / 2 ^ i % 2 = 1 := fun z => e (by
          show decide (V.int ((m / 2 ^ i % 2 : Nat) : Int) = V.int 1) = true
          rw [z]
          exact decide_eq_true rfl)
        refine ⟨some (.int (i : Nat)), some (vN (bs.getD i 0)), ?_, sm.trans sm2⟩
        rw [codeWith_succ, if_neg e1]
        rfl
    · obtain ⟨y3, y4, rfl, sm⟩ := h
      refine ⟨_, rfl, ?_⟩
      rw [List.length_map]
      exact q _ sm
/-- rows that may be read for a web -/
def RowsFor (es : Es) (rs : List (List Nat)) : Prop := ∀ r ∈ rs, Below r.length es ∧ ∀ k ∈ r, k < 64
def spLeast (K : PySem.W.Frag) : Sp := fun vs H Q _ => ∃ (v : V) (l : Addr) (us : List V) (x : Nat × Es) (rs : List (List Nat)), vs = [v, .ref l] ∧ Dp K H v (pdW x) ∧ SqL K H l us ∧ DpAll K H us (rs.map pdR) ∧ Below 64 x.2 ∧ RowsFor x.2 rs ∧ Q (.bl (isLeast x.2 rs)) H
theorem ok_is_least (B : Bt mg) (F : Fun K "is_least" "is_least" s_is_least f fd) (C_code_of : Cal K mg "code_of" "code_of" s_code_of f_code_of fd_code_of ["web"]) (C_code_under : Cal K mg "code_under" "code_under" s_code_under f_code_under fd_code_under ["web", "row"])
    (G_code_of : FnOk P w K mg base CX0 2 f_code_of fd_code_of ["web"] (spCode K)) (G_code_under : FnOk P w K mg base CX0 2 f_code_under fd_code_under ["web", "row"] (spUnder K)) : FnOk P w K mg base CX0 3 f fd ["web", "rows"] (spLeast K) := by
  refine F.ok sc_is_least (fun vs H Q E h => ?_) (fun cdv A outer s H vs Q E hr h => ?_)
  · obtain ⟨v, l, us, x, rs, rfl, _⟩ := h
    rfl
  · obtain ⟨v, l, us, x, rs, rfl, hW, hl, hus, hB, hrs, q⟩ := h
    refine ⟨_, (pss_cons (ps_set (i := 2) sc_is_least.nd rfl (Or.inl rfl) (pe_call G_code_of (hr.mono (by decide)) (by rfl) C_code_of.g C_code_of.F.kp C_code_of.b .nil pass0 (pa_cons (pv 0) pa_nil)))
      (pss_cons (ps_for PassesOwn.never rfl (pi_list (pv 1)) (pg_name (i := 3) sc_is_least.nd rfl (Or.inl rfl)) 
        (pss_one (ps_if (pt_cmpR op_lt (pe_call G_code_under (hr.mono (by decide)) (by rfl) C_code_under.g C_code_under.F.kp C_code_under.b .nil pass0 (pa_cons (pv 0) (pa_cons (pv 3) pa_nil))) (pv 2) (nomark _)) 
          (pss_one (ps_ret pe_bl)) pss_nil)))
      (pss_one (ps_ret pe_bl)))), ?_⟩
    refine ⟨v, rfl, v, x, rfl, hW, hB, ?_⟩
    refine ⟨.ref l, rfl, l, rfl, ⟨_, hl⟩, ?_⟩
    refine for_list (xs := us) (fun i σ H' => ∃ y3, σ = [some v, some (.ref l), some (vN (codeOf x.2)), y3] ∧ H' = H ∧ (rs.take i).all (fun r => !(codeUnder x.2 r < codeOf x.2)) = true) ⟨_, rfl, rfl, rfl⟩ (fun i σ H' _ h => ?_) (fun i y σ H' ey h => ?_) (fun σ H' h => ?_)
    · obtain ⟨_, _, rfl, _⟩ := h
      exact hl
    · obtain ⟨y3, rfl, rfl, ha⟩ := h
      obtain ⟨d, ed, hd⟩ := hus.at_ ey
      rw [List.getElem?_map] at ed
      obtain ⟨r, er, rfl⟩ := Option.map_eq_some_iff.mp ed
      have hr1 := hrs r (List.mem_of_getElem? er)
      refine ⟨v, rfl, _, rfl, v, _, x, r, rfl, hW, hd, hr1.1, hr1.2, _, rfl, _, _, rfl, rfl, _, rfl, ite2 (fun e => ?_) (fun e => ?_)⟩
      · have e1 : codeUnder x.2 r < codeOf x.2 := by
          have := of_decide_eq_true e
          omega
        have ef : isLeast x.2 rs = false := by
          rw [Bool.eq_false_iff]
          intro z
          have := List.all_eq_true.mp z r (List.mem_of_getElem? er)
          rw [decide_eq_true e1] at this
          cases this
        rw [ef] at q
        exact q
      · have e1 : ¬ codeUnder x.2 r < codeOf x.2 := fun z => e (decide_eq_true (by omega))
        refine ⟨_, rfl, rfl, ?_⟩
        rw [List.take_add_one, er, List.all_append, ha]
        show (true && ((!decide (codeUnder x.2 r < codeOf x.2)) && true)) = true
        rw [decide_eq_false e1]
        rfl
    · obtain ⟨y3, rfl, rfl, ha⟩ := h
      have el : us.length = rs.length := by rw [hus.len, List.length_map]
      rw [el, List.take_length] at ha
      have e : isLeast x.2 rs = true := ha
      rw [e] at q
      exact q
end
end Wb
-- MK
set_option Elab.async false
set_option linter.all false
set_option maxRecDepth 100000
/-! sorted(set(..)) of pairs: the one ascending list -/
namespace Wb
open PySem PySem.Spec PyProof.Rows L2
def key (e : Nat × Nat) : Nat := e.1 * 64 + e.2
theorem key_lt {a b : Nat × Nat} (ha : a.2 < 64) (hb : b.2 < 64) : pLt a b = true ↔ key a < key b := by
  unfold pLt key
  rw [Bool.or_eq_true, Bool.and_eq_true, decide_eq_true_iff, decide_eq_true_iff, beq_iff_eq]
  omega
theorem key_inj {a b : Nat × Nat} (ha : a.2 < 64) (hb : b.2 < 64) (h : key a = key b) : a = b := by
  unfold key at h
  exact Prod.ext (by omega) (by omega)
theorem mem_ins {x y : Nat × Nat} : ∀ {ys : Es}, (x.2 < 64) → (∀ z ∈ ys, z.2 < 64) → (y ∈ ins x ys ↔ y = x ∨ y ∈ ys)
  | [], _, _ => by
    show y ∈ [x] ↔ _
    simp
  | z :: zs, hx, hz => by
    unfold ins
    split
    · simp
    · split
      · rw [List.mem_cons, mem_ins hx fun u hu => hz u (List.mem_cons_of_mem _ hu), List.mem_cons]
        constructor
        · rintro (h | h | h)
          · exact .inr (.inl h)
          · exact .inl h
          · exact .inr (.inr h)
        · rintro (h | h | h)
          · exact .inr (.inl h)
          · exact .inl h
          · exact .inr (.inr h)
      · rename_i h1 h2
        have e : x = z := by
          have hz' := hz z List.mem_cons_self
          rw [key_lt hx hz'] at h1
          rw [key_lt hz' hx] at h2
          exact key_inj hx hz' (by omega)
        subst e
        rw [List.mem_cons]
        constructor
        · exact .inr
        · rintro (h | h)
          · exact .inl h
          · exact h
abbrev Asc (es : Es) : Prop := es.Pairwise fun a b => key a < key b
theorem ins_asc {x : Nat × Nat} : ∀ {ys : Es}, (x.2 < 64) → (∀ z ∈ ys, z.2 < 64) → Asc ys → Asc (ins x ys)
  | [], _, _, _ => List.pairwise_singleton _ _
  | z :: zs, hx, hz, h => by
    obtain ⟨h1, h2⟩ := List.pairwise_cons.mp h
    have hz' := hz z List.mem_cons_self
    unfold ins
    split
    · rename_i q
      rw [key_lt hx hz'] at q
      refine List.pairwise_cons.mpr ⟨fun u hu => ?_, h⟩
      rcases List.mem_cons.mp hu with rfl | hu
      · exact q
      · exact Nat.lt_trans q (h1 u hu)
    · split
      · rename_i q
        rw [key_lt hz' hx] at q
        have hzs : ∀ u ∈ zs, u.2 < 64 := fun u hu => hz u (List.mem_cons_of_mem _ hu)
        refine List.pairwise_cons.mpr ⟨fun u hu => ?_, ins_asc hx hzs h2⟩
        rcases (mem_ins hx hzs).mp hu with rfl | hu
        · exact q
        · exact h1 u hu
      · exact h
theorem mem_mkE : ∀ {xs : Es}, (∀ z ∈ xs, z.2 < 64) → ∀ {y : Nat × Nat}, y ∈ mkE xs ↔ y ∈ xs
  | [], _, y => Iff.rfl
  | x :: xs, h, y => by
    have hxs : ∀ z ∈ xs, z.2 < 64 := fun z hz => h z (List.mem_cons_of_mem _ hz)
    have hm : ∀ z ∈ mkE xs, z.2 < 64 := fun z hz => hxs z ((mem_mkE hxs).mp hz)
    show y ∈ ins x (mkE xs) ↔ _
    rw [mem_ins (h x List.mem_cons_self) hm, mem_mkE hxs, List.mem_cons]
theorem mkE_asc : ∀ {xs : Es}, (∀ z ∈ xs, z.2 < 64) → Asc (mkE xs)
  | [], _ => List.Pairwise.nil
  | x :: xs, h => by
    have hxs : ∀ z ∈ xs, z.2 < 64 := fun z hz => h z (List.mem_cons_of_mem _ hz)
    exact ins_asc (h x List.mem_cons_self) (fun z hz => hxs z ((mem_mkE hxs).mp hz)) (mkE_asc hxs)
theorem asc_uniq : ∀ {xs ys : Es}, Asc xs → Asc ys → (∀ z, z ∈ xs ↔ z ∈ ys) → xs = ys
  | [], [], _, _, _ => rfl
  | [], y :: ys, _, _, h => by have := (h y).mpr List.mem_cons_self; cases this
  | x :: xs, [], _, _, h => by have := (h x).mp List.mem_cons_self; cases this
  | x :: xs, y :: ys, h1, h2, h => by
    obtain ⟨a1, a2⟩ := List.pairwise_cons.mp h1
    obtain ⟨b1, b2⟩ := List.pairwise_cons.mp h2
    have e : x = y := by
      rcases List.mem_cons.mp ((h x).mp List.mem_cons_self) with e | m
      · exact e
      · rcases List.mem_cons.mp ((h y).mpr List.mem_cons_self) with e | m'
        · exact e.symm
        · have := a1 y m'
          have := b1 x m
          omega
    subst e
    congr 1
    refine asc_uniq a2 b2 fun z => ⟨fun hz => ?_, fun hz => ?_⟩
    · rcases List.mem_cons.mp ((h z).mp (List.mem_cons_of_mem _ hz)) with e | m
      · subst e
        exact absurd (a1 z hz) (Nat.lt_irrefl _)
      · exact m
    · rcases List.mem_cons.mp ((h z).mpr (List.mem_cons_of_mem _ hz)) with e | m
      · subst e
        exact absurd (b1 z hz) (Nat.lt_irrefl _)
      · exact m
/-- a pair as a list of whole numbers -/
def eI (e : Nat × Nat) : List Int := [(e.1 : Int), (e.2 : Int)]
theorem eI_inj {a b : Nat × Nat} (h : eI a = eI b) : a = b := by
  unfold eI at h
  injection h with h1 h2
  injection h2 with h2 _
  exact Prod.ext (by omega) (by omega)
theorem code_eI (e : Nat × Nat) : TS.code 64 (eI e) = (key e : Int) := by
  show TS.code 64 [(e.1 : Int), (e.2 : Int)] = _
  rw [code_pair]
  unfold key
  omega
/-- the objects of a list of pairs -/
theorem edges_ks {K : PySem.W.Frag} {H : Hp} : ∀ {es : Es} {us : List V}, DpAll K H us (es.map pdE) → ∃ ks : List (Addr × List Int), us = ks.map (fun p => V.ref p.1) ∧ ks.map (·.2) = es.map eI ∧ ∀ p ∈ ks, SqT K H p.1 (p.2.map V.int)
  | [], _, h => by cases h; exact ⟨[], rfl, rfl, fun _ z => by cases z⟩
  | e :: es, _, h => by
    obtain ⟨v, us, rfl, h1, h2⟩ := h.get0
    obtain ⟨p, rfl, hp⟩ := h1.edge
    obtain ⟨ks, rfl, e2, h3⟩ := edges_ks h2
    exact ⟨(p, eI e) :: ks, rfl, by rw [List.map_cons, List.map_cons, e2], fun q hq => (List.mem_cons.mp hq).elim (fun z => by subst z; exact hp) (h3 q)⟩
/-- what sorted(set(..)) has handed back -/
theorem sorted_edges {K : PySem.W.Frag} {H : Hp} {es : Es} {ks L : List (Addr × List Int)} (h64 : ∀ e ∈ es, e.2 < 64) (e1 : ks.map (·.2) = es.map eI) (hs : ∀ p ∈ L, p ∈ ks) (ha : ∀ p ∈ ks, p.2 ∈ L.map (·.2)) (hk : ∀ p ∈ ks, SqT K H p.1 (p.2.map V.int))
    (nd : (L.map (·.2)).Nodup) (pw : L.Pairwise fun q r => TS.code 64 q.2 ≤ TS.code 64 r.2) : DpAll K H (L.map fun q => V.ref q.1) ((mkE es).map pdE) := by
  have im : ∀ M : List (Addr × List Int), (∀ p ∈ M, p ∈ ks) → ∃ fs : Es, M.map (·.2) = fs.map eI ∧ (∀ e ∈ fs, e ∈ es) ∧ DpAll K H (M.map fun q => V.ref q.1) (fs.map pdE) := by
    intro M
    induction M with
    | nil => exact fun _ => ⟨[], rfl, (fun _ z => by cases z), .nil⟩
    | cons p M ih =>
      intro h
      obtain ⟨fs, g1, g2, g3⟩ := ih fun q hq => h q (List.mem_cons_of_mem _ hq)
      have hp := h p List.mem_cons_self
      have : p.2 ∈ es.map eI := by rw [← e1]; exact List.mem_map_of_mem hp
      obtain ⟨e, he, e2⟩ := List.mem_map.mp this
      refine ⟨e :: fs, by rw [List.map_cons, List.map_cons, g1, e2], fun x hx => (List.mem_cons.mp hx).elim (fun z => z ▸ he) (g2 x), .cons (.of_edge ?_) g3⟩
      have := hk p hp
      rw [← e2] at this
      exact this
  obtain ⟨fs, g1, g2, g3⟩ := im L hs
  have asc : Asc fs := by
    have p1 : (L.map (·.2)).Pairwise fun a b => TS.code 64 a ≤ TS.code 64 b := List.pairwise_map.mpr pw
    rw [g1] at p1 nd
    have p2 := List.pairwise_map.mp p1
    have p3 := List.pairwise_map.mp nd
    refine (p2.and p3).imp_of_mem fun {a b} ma mb h => ?_
    have h1 := h.1
    rw [code_eI, code_eI] at h1
    have h2 : key a ≠ key b := fun z => h.2 (by rw [key_inj (h64 a (g2 a ma)) (h64 b (g2 b mb)) z])
    omega
  have eq : fs = mkE es := by
    refine asc_uniq asc (mkE_asc h64) fun z => ?_
    rw [mem_mkE h64]
    refine ⟨g2 z, fun hz => ?_⟩
    have : eI z ∈ ks.map (·.2) := by rw [e1]; exact List.mem_map_of_mem hz
    obtain ⟨p, hp, ep⟩ := List.mem_map.mp this
    have := ha p hp
    rw [ep, g1] at this
    obtain ⟨y, hy, ey⟩ := List.mem_map.mp this
    rw [eI_inj ey] at hy
    exact hy
  rw [← eq]
  exact g3
end Wb
-- WD
set_option Elab.async false
set_option linter.all false
set_option maxRecDepth 100000
set_option maxHeartbeats 4000000
/-! make_web, image, renamed -/
namespace Wb
open PySem PySem.Spec PyProof.Rows L2
section
variable {P : Program} {w : World} {K : PySem.W.Frag} {mg : Str → Option Value} {base : Heap} {f f_make_web f_image : Addr} {fd fd_make_web fd_image : FuncData}
abbrev ordI (e : Nat × Nat) : Nat × Nat := (min e.1 e.2, max e.1 e.2)
def spMake (K : PySem.W.Frag) : Sp := fun vs H Q _ => ∃ (n : Nat) (l : Addr) (us : List V) (es : Es), vs = [vN n, .ref l] ∧ SqL K H l us ∧ DpAll K H us (es.map pdE) ∧ n ≤ 5 ∧ Below n es ∧ es.length < 60 ∧ ∀ H' v, Same H H' → Dp K H' v (pdW (n, mkE (es.map ordI))) → Q v H'
theorem ok_make_web (B : Bt mg) (F : Fun K "make_web" "make_web" s_make_web f fd) : FnOk P w K mg base CX0 1 f fd ["size", "pairs"] (spMake K) := by
  refine F.ok sc_make_web (fun vs H Q E h => ?_) (fun cdv A outer s H vs Q E hr h => ?_)
  · obtain ⟨n, l, us, es, rfl, _⟩ := h
    rfl
  · obtain ⟨n, l, us, es, rfl, hl, hus, hn, hB, h60, q⟩ := h
    refine ⟨_, (pss_cons (ps_if (pt_cmpR op_gt (pv 0) (pe_glob (v := .int 64) rfl B.MAX_NODES.choose_spec ⟨_, rfl⟩) (nomark _)) 
        (pss_one ps_never) pss_nil)
      (pss_cons (ps_if (pt_cmpR op_lt (pv 0) pe_int (nomark _)) 
        (pss_one ps_never) pss_nil)
      (pss_cons (ps_set (i := 2) sc_make_web.nd rfl (Or.inl rfl) (pe_lst pa_nil))
      (pss_cons (ps_for PassesOwn.never rfl (pi_enum (by rfl) B.enumerate (pa_cons (pv 1) pa_nil)) (pg_tup rfl (pgs_cons (pg_name (i := 3) sc_make_web.nd rfl (Or.inl rfl)) (pgs_cons (pg_tup rfl (pgs_cons (pg_name (i := 4) sc_make_web.nd rfl (Or.inl rfl)) (pgs_cons (pg_name (i := 5) sc_make_web.nd rfl (Or.inl rfl)) pgs_nil))) pgs_nil))) 
        (pss_cons (ps_if (pt_not (PW.pt (pw_and (pt_chain op_le op_lt pe_int (pv 4) (pv 0)) (pw_and1 (pt_chain op_le op_lt pe_int (pv 5) (pv 0)))))) 
          (pss_one ps_never) pss_nil)
        (pss_one (ps_expr (pe_bm PySem.F.plainAttrs_list PySem.F.slot_list_append PySem.F.type_list_append mt_append (pv 2) (pa_cons (pe_tup (pa_cons (pe_callB (call_min2 rfl) (by rfl) B.min (by decide +kernel) (pa_cons (pv 4) (pa_cons (pv 5) pa_nil))) (pa_cons (pe_callB (call_max2 rfl) (by rfl) B.max (by decide +kernel) (pa_cons (pv 4) (pa_cons (pv 5) pa_nil))) pa_nil))) pa_nil))))))
      (pss_one (ps_ret (pe_tup (pa_cons (pv 0) (pa_cons (pe_callTy call_tuple_of (by rfl) B.tuple (by decide +kernel) (pa_cons (pe_callB (cr_sortedT rfl) (by rfl) B.sorted (by decide +kernel) (pa_cons (pe_callTy (cr_setOfT rfl hr.units) (by rfl) B.set (by decide +kernel) (pa_cons (pv 2) pa_nil)) pa_nil)) pa_nil)) pa_nil))))))))), ?_⟩
    refine ⟨_, rfl, _, _, rfl, rfl, _, rfl, ?_⟩
    rw [show decide ((n : Int) > 64) = false from decide_eq_false (by omega)]
    refine iteF ?_
    refine ⟨_, rfl, _, _, rfl, rfl, _, rfl, ?_⟩
    rw [show decide ((n : Int) < 0) = false from decide_eq_false (by omega)]
    refine iteF ?_
    refine ⟨Nat.zero_le _, fun o no => ?_⟩
    refine ⟨.ref l, rfl, l, us, rfl, (Same.put no).seq hl, ?_⟩
    refine for_it (walk_enum (xs := us)) (fun i σ H' => ∃ y3 y4 y5 vs, σ = [some (vN n), some (.ref l), some (.ref o), y3, y4, y5] ∧ Same H H' ∧ H' o = some (.lst vs) ∧ DpAll K H' vs (((es.take i).map ordI).map pdE)) ⟨_, _, _, [], rfl, Same.put no, upd_same, .nil⟩ (fun i σ H' _ h => ?_) (fun i x σ H1 H2 hi h y => ?_) (fun σ H' h => ?_)
    · obtain ⟨_, _, _, _, _, sm, _⟩ := h
      exact sm.seq hl
    · obtain ⟨y3, y4, y5, vs, rfl, sm, ho, hv⟩ := h
      obtain ⟨T, x1, x2, rfl, nT, rfl, e1, e2⟩ := y
      cases e1
      obtain ⟨d, ed, hd⟩ := hus.at_ e2
      rw [List.getElem?_map] at ed
      obtain ⟨g, eg, rfl⟩ := Option.map_eq_some_iff.mp ed
      obtain ⟨t, rfl, ht⟩ := hd.edge
      have hb := hB g (List.mem_of_getElem? eg)
      have sm2 : Same H1 (upd H1 T (.tup [.int (i : Nat), .ref t])) := Same.put nT
      have ho2 := sm2 _ _ ho
      refine ⟨T, _, rfl, .of upd_same, rfl, _, _, rfl, _, _, rfl, t, _, rfl, sm2.tseq (sm.tseq ht), rfl, _, _, rfl, _, _, rfl, rfl, rfl, ?_⟩
      -- the check
      refine ⟨_, rfl, _, _, rfl, rfl, _, rfl, ?_⟩
      rw [show decide ((0 : Int) ≤ (g.1 : Int)) = true from decide_eq_true (by omega)]
      refine iteT ⟨_, rfl, _, _, rfl, rfl, _, rfl, ?_⟩
      rw [show decide ((g.1 : Int) < (n : Int)) = true from decide_eq_true (by omega)]
      refine iteT ⟨_, rfl, _, _, rfl, rfl, _, rfl, ?_⟩
      rw [show decide ((0 : Int) ≤ (g.2 : Int)) = true from decide_eq_true (by omega)]
      refine iteT ⟨_, rfl, _, _, rfl, rfl, _, rfl, ?_⟩
      rw [show decide ((g.2 : Int) < (n : Int)) = true from decide_eq_true (by omega)]
      refine iteF ?_
      refine ⟨.ref o, rfl, .inl ⟨rfl, _, .inl (.inl ho2)⟩, _, rfl, _, rfl, _, _, rfl, _, rfl, _, rfl, _, _, rfl, by show 2 ≤ sizeLine; decide, fun u nu => ?_⟩
      rw [imin, imax]
      have sm3 := Same.put (o := .tup [vN (min g.1 g.2), vN (max g.1 g.2)]) nu
      have ho3 := sm3 _ _ ho2
      refine ⟨o, _, _, rfl, rfl, ho3, ?_, _, _, _, _, rfl, ((sm.trans sm2).trans sm3).over no, upd_same, ?_⟩
      · have h1 := hv.len
        rw [List.length_map, List.length_map, List.length_take] at h1
        exact line_lt (by omega)
      · rw [List.take_add_one, eg, List.map_append, List.map_append]
        refine DpAll.putL ho3 ?_ (((hv.same sm2).same sm3).append (.one (.of_edge (e := ordI g) (.of upd_same))))
        rw [← List.map_append]
        exact noLs_map noL_e _
    · obtain ⟨y3, y4, y5, vs, rfl, sm, ho, hv⟩ := h
      have el : us.length = es.length := by rw [hus.len, List.length_map]
      rw [el, List.take_length] at hv
      obtain ⟨ks, rfl, ke, kt⟩ := edges_ks hv
      have kl : ks.length = es.length := by
        have := congrArg List.length ke
        simpa using this
      have h64 : ∀ e ∈ es.map ordI, e.2 < 60 := fun e he => by
        obtain ⟨x, hx, rfl⟩ := List.mem_map.mp he
        have := hB x hx
        show max x.1 x.2 < 60
        exact Nat.max_lt.mpr ⟨by omega, by omega⟩
      have h641 : ∀ e ∈ es.map ordI, e.1 < 60 := fun e he => by
        obtain ⟨x, hx, rfl⟩ := List.mem_map.mp he
        have := hB x hx
        show min x.1 x.2 < 60
        exact Nat.lt_of_le_of_lt (Nat.min_le_left _ _) (by omega)
      refine ⟨_, rfl, .ref o, rfl, o, ks, rfl, .of ho, kt, by omega, fun S L nS hL1 hL2 => ?_⟩
      have s1 := Same.put (o := SetTO P w S L) nS
      refine ⟨S, L, 2, 64, rfl, upd_same, fun p hp => s1.tseq (kt p (hL1 p hp)), by decide, fun p hp => ?_, fun L' p pm nd h64' pw np => ?_⟩
      · have : p.2 ∈ (es.map ordI).map eI := by rw [← ke]; exact List.mem_map_of_mem (hL1 p hp)
        obtain ⟨e, he, e2⟩ := List.mem_map.mp this
        rw [← e2]
        have := h64 e he
        have := h641 e he
        refine ⟨rfl, fun z hz => ?_⟩
        have hz' : z = (e.1 : Int) ∨ z = (e.2 : Int) := by simpa [eI] using hz
        rcases hz' with rfl | rfl
        · omega
        · omega
      have s2 := Same.put (o := .lst (L'.map fun q => V.ref q.1)) np
      refine ⟨p, _, rfl, .inl ⟨.of upd_same, fun T nT => ?_⟩⟩
      have s3 := Same.put (o := .tup (L'.map fun q => V.ref q.1)) nT
      refine ⟨by show 2 ≤ sizeLine; decide, fun z nz => ?_⟩
      have s4 := Same.put (o := .tup [vN n, .ref T]) nz
      have ss : Same H' _ := ((s1.trans s2).trans s3).trans s4
      refine q _ _ (sm.trans ss) (.of_web (w := (n, mkE (es.map ordI))) (q := T) (.of upd_same) (.of (s4 _ _ upd_same)) ?_)
      refine sorted_edges (ks := ks) (fun e he => Nat.lt_trans (h64 e he) (by decide)) ke (fun p hp => hL1 p ((pm.mem_iff).mp hp)) (fun p hp => ?_) (fun p hp => ss.tseq (kt p hp)) nd pw
      have := hL2 p hp
      obtain ⟨z, hz, ez⟩ := List.mem_map.mp this
      exact List.mem_map.mpr ⟨z, pm.mem_iff.mpr hz, ez⟩
end
end Wb
-- WE
set_option Elab.async false
set_option linter.all false
set_option maxRecDepth 100000
set_option maxHeartbeats 4000000
/-! image, renamed -/
namespace Wb
open PySem PySem.Spec PyProof.Rows L2
section
variable {P : Program} {w : World} {K : PySem.W.Frag} {mg : Str → Option Value} {base : Heap} {f f_make_web f_image : Addr} {fd fd_make_web fd_image : FuncData}
/-- a web and a row that renames it -/
def spImage (K : PySem.W.Frag) : Sp := fun vs H Q _ => ∃ (v u : V) (n : Nat) (es : Es) (r : List Nat), vs = [v, u, vN n] ∧ Dp K H v (pdW (n, es)) ∧ Dp K H u (pdR r) ∧ r.length = n ∧ (∀ k ∈ r, k < n) ∧ n ≤ 5 ∧ Below n es ∧ es.length < 60 ∧
  ∀ H' z, Same H H' → Dp K H' z (pdW (renamed (n, es) r)) → Q z H'
theorem ok_image (B : Bt mg) (F : Fun K "image" "image" s_image f fd) (C_make_web : Cal K mg "make_web" "make_web" s_make_web f_make_web fd_make_web ["size", "pairs"]) : FnOk P w K mg base CX0 2 f fd ["web", "row", "size"] (spImage K) := by
  have G_make_web : FnOk P w K mg base CX0 1 f_make_web fd_make_web ["size", "pairs"] (spMake K) := ok_make_web B C_make_web.F
  refine F.ok sc_image (fun vs H Q E h => ?_) (fun cdv A outer s H vs Q E hr h => ?_)
  · obtain ⟨v, u, n, es, r, rfl, _⟩ := h
    rfl
  · obtain ⟨v, u, n, es, r, rfl, hW, hR, hl, hk, hn, hB, h60, q⟩ := h
    obtain ⟨p, e, vs, rfl, hp, he, hes⟩ := hW.web
    obtain ⟨R, rfl, hRt⟩ := hR.row
    refine ⟨_, (pss_cons (ps_if (pt_cmpR op_gt (pv 2) (pe_glob (v := .int 64) rfl B.MAX_NODES.choose_spec ⟨_, rfl⟩) (nomark _)) 
        (pss_one ps_never) pss_nil)
      (pss_cons (ps_if (pt_cmpR op_ne (pe_callB call_len_seq (by rfl) B.len (by decide +kernel) (pa_cons (pv 1) pa_nil)) (pe_ix ix_tup (pv 0) pe_int (fun _ _ => rfl)) (nomark _)) 
        (pss_one ps_never) pss_nil)
      (pss_cons (ps_for PassesOwn.never rfl (pi_enumT (by rfl) B.enumerate (pa_cons (pv 1) pa_nil)) (pg_tup rfl (pgs_cons (pg_name (i := 3) sc_image.nd rfl (Or.inl rfl)) (pgs_cons (pg_name (i := 4) sc_image.nd rfl (Or.inl rfl)) pgs_nil))) 
        (pss_one (ps_if (pt_not (pt_chain op_le op_lt pe_int (pv 4) (pv 2))) 
          (pss_one ps_never) pss_nil)))
      (pss_one (ps_ret (pe_call G_make_web (hr.mono (by decide)) (by rfl) C_make_web.g C_make_web.F.kp C_make_web.b .nil pass0 (pa_cons (pv 2) (pa_cons (pe_lc (own := [("first", 5), ("second", 6)]) (g := _) (tt := _) (te := _) rfl sc_image.nd (pi_tup (pe_ix ix_tup (pv 0) pe_int (fun _ _ => rfl))) (blkOk_by (own := [("first", 5), ("second", 6)]) (N := N_image) (sc := defScope s_image) (by decide +kernel)) (fun _ _ _ _ _ => (show PG _ _ (gTup K 2 _) from pg_tup rfl (pgs_cons (pg_name (i := 5) sc_image.nd rfl (Or.inl rfl)) (pgs_cons (pg_name (i := 6) sc_image.nd rfl (Or.inl rfl)) pgs_nil)))) (fun _ _ _ _ _ => pts_nil) (fun _ _ _ _ _ => (pe_tup (pa_cons (pe_ix (show IxR _ (rIxT K) from ix_tup) (pv 1) (pv 5) (fun _ _ => rfl)) (pa_cons (pe_ix (show IxR _ (rIxT K) from ix_tup) (pv 1) (pv 6) (fun _ _ => rfl)) pa_nil))))) pa_nil)))))))), ?_⟩
    refine ⟨_, rfl, _, _, rfl, rfl, _, rfl, ?_⟩
    rw [show decide ((n : Int) > 64) = false from decide_eq_false (by omega)]
    refine iteF ?_
    refine ⟨.ref R, rfl, R, _, rfl, .inr hRt, .ref p, rfl, p, _, _, _, rfl, rfl, hp, atI_nat (j := 0) rfl, rfl, _, rfl, ?_⟩
    have e0 : (((r.map vN).length : Nat) : Int) = (n : Int) := by rw [List.length_map, hl]
    rw [show (!decide (V.int (((r.map vN).length : Nat) : Int) = vN n)) = false by rw [e0]; simp]
    refine iteF ?_
    refine ⟨.ref R, rfl, R, _, rfl, hRt, ?_⟩
    refine for_it (walk_enumT (xs := r.map vN)) (fun i σ H' => ∃ y3 y4 y5 y6, σ = [some (.ref p), some (.ref R), some (vN n), y3, y4, y5, y6] ∧ Same H H') ⟨_, _, _, _, rfl, Same.refl H⟩ (fun i σ H' _ h => ?_) (fun i x σ H1 H2 hi h y => ?_) (fun σ H' h => ?_)
    · obtain ⟨_, _, _, _, _, sm⟩ := h
      exact sm.tseq hRt
    · obtain ⟨y3, y4, y5, y6, rfl, sm⟩ := h
      obtain ⟨T, x1, x2, rfl, nT, rfl, e1, e2⟩ := y
      cases e1
      have e2 : (r.map vN)[i]? = some x2 := e2
      rw [List.getElem?_map] at e2
      obtain ⟨k, ek, rfl⟩ := Option.map_eq_some_iff.mp e2
      have hkn := hk k (List.mem_of_getElem? ek)
      have sm2 : Same H1 (upd H1 T (.tup [.int (i : Nat), vN k])) := Same.put nT
      refine ⟨T, _, rfl, .of upd_same, rfl, _, _, rfl, _, _, rfl, rfl, ?_⟩
      refine ⟨_, rfl, _, _, rfl, rfl, _, rfl, ?_⟩
      rw [show decide ((0 : Int) ≤ (k : Int)) = true from decide_eq_true (by omega)]
      refine iteT ⟨_, rfl, _, _, rfl, rfl, _, rfl, ?_⟩
      rw [show decide ((k : Int) < (n : Int)) = true from decide_eq_true (by omega)]
      refine iteF ?_
      exact ⟨_, _, _, _, rfl, sm.trans sm2⟩
    · obtain ⟨y3, y4, y5, y6, rfl, sm⟩ := h
      refine ⟨_, rfl, .ref p, rfl, p, _, _, _, rfl, rfl, sm.tseq hp, atI_nat (j := 1) rfl, e, rfl, ⟨_, sm.tseq he⟩, fun D nD => ?_⟩
      refine lcD_tup (xs := vs) (fun i => ((es.take i).map fun e => (r.getD e.1 0, r.getD e.2 0)).map pdE) nD rfl (sm.tseq he) (fun i => noLs_map noL_e _) (fun i hi => ?_) (fun i x H3 ky kn ex s3 fy fn => ?_) (fun H3 ys s3 hD hys => ?_)
      · rw [List.length_map, List.length_map, List.length_take]
        exact line_lt (by omega)
      · obtain ⟨d, ed, hd⟩ := hes.at_ ex
        rw [List.getElem?_map] at ed
        obtain ⟨g, eg, rfl⟩ := Option.map_eq_some_iff.mp ed
        obtain ⟨t, rfl, ht⟩ := hd.edge
        have hb := hB g (List.mem_of_getElem? eg)
        have s4 := sm.trans s3
        refine ⟨t, _, rfl, s4.tseq ht, rfl, _, _, rfl, _, _, rfl, rfl, rfl, ?_⟩
        refine ⟨.ref R, rfl, _, rfl, R, _, _, _, rfl, rfl, s4.tseq hRt, atI_nat (getD_at (by omega)), .ref R, rfl, _, rfl, R, _, _, _, rfl, rfl, s4.tseq hRt, atI_nat (getD_at (by omega)), by show 2 ≤ sizeLine; decide, fun u nu => ?_⟩
        refine fy _ _ _ (Same.put nu) (.of_edge (e := (r.getD g.1 0, r.getD g.2 0)) (.of upd_same)) ?_
        rw [List.take_add_one, eg, List.map_append, List.map_append]
        rfl
      · have el : vs.length = es.length := by rw [hes.len, List.length_map]
        rw [el, List.take_length] at hys
        refine ⟨n, D, ys, _, rfl, .of hD, hys, hn, fun e he => ?_, ?_, fun H4 z s5 hz => q H4 z ((sm.trans s3).trans s5) ?_⟩
        · obtain ⟨g, hg, rfl⟩ := List.mem_map.mp he
          have hb := hB g hg
          exact ⟨hk _ (getD_mem (by omega)), hk _ (getD_mem (by omega))⟩
        · rw [List.length_map]; exact h60
        · rw [List.map_map] at hz
          exact hz
theorem inV_nats (k : Nat) : ∀ r : List Nat, inV (vN k) (r.map vN) = r.contains k
  | [] => rfl
  | x :: r => by
    have ih := inV_nats k r
    show (eqV (vN x) (vN k) || inV (vN k) (r.map vN)) = (k == x || r.contains k)
    rw [ih]
    congr 1
    show decide ((x : Int) = (k : Int)) = (k == x)
    by_cases h : x = k
    · subst h; simp
    · rw [decide_eq_false (by omega), beq_eq_false_iff_ne.mpr (Ne.symm h)]
theorem flat_nats : ∀ r : List Nat, (r.map vN).all flatV = true
  | [] => rfl
  | x :: r => flat_nats r
def spRenamed (K : PySem.W.Frag) : Sp := fun vs H Q _ => ∃ (v u : V) (n : Nat) (es : Es) (r : List Nat), vs = [v, u] ∧ Dp K H v (pdW (n, es)) ∧ Dp K H u (pdR r) ∧ r.length = n ∧ (∀ k ∈ r, k < n) ∧ r.Nodup ∧ n ≤ 5 ∧ Below n es ∧ es.length < 60 ∧
  ∀ H' z, Same H H' → Dp K H' z (pdW (renamed (n, es) r)) → Q z H'
theorem ok_renamed (B : Bt mg) (F : Fun K "renamed" "renamed" s_renamed f fd) (C_image : Cal K mg "image" "image" s_image f_image fd_image ["web", "row", "size"]) (G_image : FnOk P w K mg base CX0 2 f_image fd_image ["web", "row", "size"] (spImage K)) : FnOk P w K mg base CX0 3 f fd ["web", "row"] (spRenamed K) := by
  refine F.ok sc_renamed (fun vs H Q E h => ?_) (fun cdv A outer s H vs Q E hr h => ?_)
  · obtain ⟨v, u, n, es, r, rfl, _⟩ := h
    rfl
  · obtain ⟨v, u, n, es, r, rfl, hW, hR, hl, hk, hnd, hn, hB, h60, q⟩ := h
    obtain ⟨p, e, vs, rfl, hp, he, hes⟩ := hW.web
    obtain ⟨R, rfl, hRt⟩ := hR.row
    refine ⟨_, (pss_cons (ps_if (pt_cmpR op_ne (pe_callB call_len_seq (by rfl) B.len (by decide +kernel) (pa_cons (pv 1) pa_nil)) (pe_ix ix_tup (pv 0) pe_int (fun _ _ => rfl)) (nomark _)) 
        (pss_one ps_never) pss_nil)
      (pss_cons (ps_for PassesOwn.never rfl (pi_enumT (by rfl) B.enumerate (pa_cons (pv 1) pa_nil)) (pg_tup rfl (pgs_cons (pg_name (i := 2) sc_renamed.nd rfl (Or.inl rfl)) (pgs_cons (pg_name (i := 3) sc_renamed.nd rfl (Or.inl rfl)) pgs_nil))) 
        (pss_one (ps_if (PW.pt (pw_or (pt_not (pt_chain op_le op_lt pe_int (pv 3) (pe_ix ix_tup (pv 0) pe_int (fun _ _ => rfl)))) (pw_or1 (pt_cmpR op_in_seq (pv 3) (pe_slice sl_tupA (pv 1) po_none (po_some (pv 2))) (by with_unfolding_all rfl))))) 
          (pss_one ps_never) pss_nil)))
      (pss_one (ps_ret (pe_call G_image (hr.mono (by decide)) (by rfl) C_image.g C_image.F.kp C_image.b .nil pass0 (pa_cons (pv 0) (pa_cons (pv 1) (pa_cons (pe_ix ix_tup (pv 0) pe_int (fun _ _ => rfl)) pa_nil)))))))), ?_⟩
    refine ⟨.ref R, rfl, R, _, rfl, .inr hRt, .ref p, rfl, p, _, _, _, rfl, rfl, hp, atI_nat (j := 0) rfl, rfl, _, rfl, ?_⟩
    have e0 : (((r.map vN).length : Nat) : Int) = (n : Int) := by rw [List.length_map, hl]
    rw [show (!decide (V.int (((r.map vN).length : Nat) : Int) = vN n)) = false by rw [e0]; simp]
    refine iteF ?_
    refine ⟨.ref R, rfl, R, _, rfl, hRt, ?_⟩
    refine for_it (walk_enumT (xs := r.map vN)) (fun i σ H' => ∃ y3 y4, σ = [some (.ref p), some (.ref R), y3, y4] ∧ Same H H') ⟨_, _, rfl, Same.refl H⟩ (fun i σ H' _ h => ?_) (fun i x σ H1 H2 hi h y => ?_) (fun σ H' h => ?_)
    · obtain ⟨_, _, _, sm⟩ := h
      exact sm.tseq hRt
    · obtain ⟨y3, y4, rfl, sm⟩ := h
      obtain ⟨T, x1, x2, rfl, nT, rfl, e1, e2⟩ := y
      cases e1
      have e2 : (r.map vN)[i]? = some x2 := e2
      rw [List.getElem?_map] at e2
      obtain ⟨k, ek, rfl⟩ := Option.map_eq_some_iff.mp e2
      have hkn := hk k (List.mem_of_getElem? ek)
      have hir : i < r.length := (List.getElem?_eq_some_iff.mp ek).1
      have sm2 : Same H1 (upd H1 T (.tup [.int (i : Nat), vN k])) := Same.put nT
      have ss := sm.trans sm2
      refine ⟨T, _, rfl, .of upd_same, rfl, _, _, rfl, _, _, rfl, rfl, ?_⟩
      refine ⟨_, rfl, _, _, rfl, rfl, _, rfl, ?_⟩
      rw [show decide ((0 : Int) ≤ (k : Int)) = true from decide_eq_true (by omega)]
      refine iteT ⟨.ref p, rfl, p, _, _, _, rfl, rfl, ss.tseq hp, atI_nat (j := 0) rfl, _, _, rfl, rfl, _, rfl, ?_⟩
      rw [show decide ((k : Int) < (n : Int)) = true from decide_eq_true (by omega)]
      refine iteF ⟨_, rfl, .ref R, rfl, _, rfl, (i : Int), rfl, R, r.map vN, rfl, ss.tseq hRt, ?_⟩
      have cut : cutV (r.map vN) none (some (i : Int)) = (r.take i).map vN := by
        unfold cutV
        rw [HT.sIx_none, HT.sIx_nat, List.length_map, Nat.min_eq_left (by omega), List.drop_zero, Nat.sub_zero, List.map_take]
      have ni : (r.take i).contains k = false := by
        rw [Bool.eq_false_iff]
        intro z
        have z1 : k ∈ r.take i := by simpa using z
        obtain ⟨j, hj, e3⟩ := List.mem_iff_getElem.mp z1
        rw [List.length_take] at hj
        rw [List.getElem_take] at e3
        have e4 : r[i]'hir = k := by
          have := List.getElem?_eq_getElem hir
          rw [this] at ek
          exact Option.some.inj ek
        have := List.pairwise_iff_getElem.mp hnd j i (by omega) hir (by omega)
        exact this (e3.trans e4.symm)
      refine ⟨fun hw => ?_, fun hw pp np => ?_⟩
      · exfalso
        have h2 := hw.2
        rw [HT.sIx_nat, List.length_map] at h2
        omega
      · rw [cut]
        refine ⟨pp, _, rfl, .inr (.of upd_same), rfl, flat_nats _, _, rfl, ?_⟩
        rw [inV_nats, ni]
        exact ⟨_, _, rfl, ss.trans (Same.put np)⟩
    · obtain ⟨y3, y4, rfl, sm⟩ := h
      exact ⟨.ref p, rfl, .ref R, rfl, .ref p, rfl, p, _, _, _, rfl, rfl, sm.tseq hp, atI_nat (j := 0) rfl, .ref p, .ref R, n, es, r, rfl, hW.same sm, hR.same sm, hl, hk, hn, hB, h60, fun H4 z s5 hz => q H4 z (sm.trans s5) hz⟩
end
end Wb
-- WF
set_option Elab.async false
set_option linter.all false
set_option maxRecDepth 100000
set_option maxHeartbeats 4000000
/-! all_renamings -/
namespace Wb
open PySem PySem.Spec PyProof.Rows L2
theorem renRow_len (n : Nat) (r : List Nat) (k : Nat) : (renRow n r k).length ≤ k := by
  unfold renRow
  rw [List.length_map]
  exact Nat.le_trans (List.length_filter_le _ _) (Nat.le_of_eq List.length_range)
theorem renRow_snoc (n : Nat) (r : List Nat) (k : Nat) : renRow n r (k + 1) = renRow n r k ++ (if (!r.contains k) = true then [r ++ [k]] else []) := range_map_filter _ _ k
theorem renStep_len (n : Nat) (rs : List (List Nat)) (i : Nat) : ((rs.take i).flatMap fun r => renRow n r n).length ≤ rs.length * n := by
  refine Nat.le_trans (flatMap_len (fun r => renRow n r n) n (rs.take i) fun a _ => renRow_len _ _ _) (Nat.mul_le_mul_right _ ?_)
  rw [List.length_take]
  exact Nat.min_le_right _ _
theorem rens_len (n : Nat) : ∀ k, (rens n k).length ≤ n ^ k
  | 0 => Nat.le_refl _
  | k + 1 => by
    have := renStep_len n (rens n k) (rens n k).length
    rw [List.take_length] at this
    refine Nat.le_trans this ?_
    rw [Nat.pow_succ]
    exact Nat.mul_le_mul_right _ (rens_len n k)
theorem rens_small {n k : Nat} (hn : n ≤ 5) (hk : k ≤ 5) : (rens n k).length ≤ 3125 := by
  refine Nat.le_trans (rens_len n k) ?_
  rcases Nat.eq_zero_or_pos n with h | h
  · subst h
    cases k <;> simp
  · exact Nat.le_trans (Nat.pow_le_pow_left hn k) (Nat.pow_le_pow_right (by decide) hk)
theorem rens_row_len (n : Nat) : ∀ (k : Nat) (r : List Nat), r ∈ rens n k → r.length = k
  | 0, r, h => by rw [List.mem_singleton.mp h]; rfl
  | k + 1, r, h => by
    obtain ⟨r0, h0, h1⟩ := List.mem_flatMap.mp h
    obtain ⟨x, _, rfl⟩ := List.mem_map.mp h1
    rw [List.length_append, rens_row_len n k r0 h0]
    rfl
theorem rens_row_lt (n : Nat) : ∀ (k : Nat) (r : List Nat), r ∈ rens n k → ∀ x ∈ r, x < n
  | 0, r, h, x, hx => by rw [List.mem_singleton.mp h] at hx; cases hx
  | k + 1, r, h, x, hx => by
    obtain ⟨r0, h0, h1⟩ := List.mem_flatMap.mp h
    obtain ⟨y, hy, rfl⟩ := List.mem_map.mp h1
    rcases List.mem_append.mp hx with hx | hx
    · exact rens_row_lt n k r0 h0 x hx
    · rw [List.mem_singleton.mp hx]
      exact List.mem_range.mp (List.mem_filter.mp hy).1
theorem rens_row_nd (n : Nat) : ∀ (k : Nat) (r : List Nat), r ∈ rens n k → r.Nodup
  | 0, r, h => by rw [List.mem_singleton.mp h]; exact List.nodup_nil
  | k + 1, r, h => by
    obtain ⟨r0, h0, h1⟩ := List.mem_flatMap.mp h
    obtain ⟨y, hy, rfl⟩ := List.mem_map.mp h1
    have hy2 : ¬ y ∈ r0 := by
      have := (List.mem_filter.mp hy).2
      simpa using this
    refine List.nodup_append.mpr ⟨rens_row_nd n k r0 h0, List.pairwise_singleton _ _, fun a ha b hb e => ?_⟩
    rw [List.mem_singleton.mp hb] at e
    exact hy2 (e ▸ ha)
section
variable {P : Program} {w : World} {K : PySem.W.Frag} {mg : Str → Option Value} {base : Heap}
/-- the statements ahead of the generator's loop -/
theorem ren_pre (B : Bt mg) (f : Addr) (cdv : Value) (A : Around) (outer : List Env) (s : Shared) (H : Hp) :
    ∃ t0 t1 t2, (∀ E pn, PS (gcxOf P w K mg base N_all_renamings "all_renamings" (defScope s_all_renamings) f cdv A outer s H E pn) ((defBody s_all_renamings).getD 0 (.Pass ⟨0, 0, 0, 0⟩)) t0 ∧
        PS (gcxOf P w K mg base N_all_renamings "all_renamings" (defScope s_all_renamings) f cdv A outer s H E pn) ((defBody s_all_renamings).getD 1 (.Pass ⟨0, 0, 0, 0⟩)) t1 ∧
        PS (gcxOf P w K mg base N_all_renamings "all_renamings" (defScope s_all_renamings) f cdv A outer s H E pn) ((defBody s_all_renamings).getD 2 (.Pass ⟨0, 0, 0, 0⟩)) t2) ∧
      (∀ E pn, PS (gcxOf P w K mg base N_all_renamings "all_renamings" (defScope s_all_renamings) f cdv A outer s H E pn).nox ((defBody s_all_renamings).getD 0 (.Pass ⟨0, 0, 0, 0⟩)) t0 ∧
        PS (gcxOf P w K mg base N_all_renamings "all_renamings" (defScope s_all_renamings) f cdv A outer s H E pn).nox ((defBody s_all_renamings).getD 1 (.Pass ⟨0, 0, 0, 0⟩)) t1 ∧
        PS (gcxOf P w K mg base N_all_renamings "all_renamings" (defScope s_all_renamings) f cdv A outer s H E pn).nox ((defBody s_all_renamings).getD 2 (.Pass ⟨0, 0, 0, 0⟩)) t2) ∧
      ∀ (n : Nat) (D : Ends), n ≤ 5 → (∀ R ys y2 y3 y4 H', H' R = some (.lst ys) → H R = none → Same H H' → DpAll K H' ys ((perms n).map pdR) → D.nx [some (vN n), some (.ref R), y2, y3, y4] H') →
        tSeq t0 (tSeq t1 t2) D (start N_all_renamings [vN n]) H := by
  refine ⟨_, _, _, fun E pn => ⟨(ps_if (pt_cmpR op_gt (pv 0) (pe_glob (v := .int 6) rfl B.MAX_LISTED.choose_spec ⟨_, rfl⟩) (nomark _)) 
      (pss_one ps_never) pss_nil), (ps_set (i := 1) sc_all_renamings.nd rfl (Or.inl rfl) (pe_lst (pa_cons (pe_tup pa_nil) pa_nil))), (ps_for owns_gcx rfl (pi_range1 (by rfl) B.range (pa_cons (pv 0) pa_nil)) (pg_name (i := 2) sc_all_renamings.nd rfl (Or.inl rfl)) 
      (pss_one (ps_setLc2 (i := 1) (own := [("row", 3), ("node", 4)]) (vs1 := [4]) rfl sc_all_renamings.nd rfl rfl (sw_true rfl rfl rfl (by decide +kernel)) (show PI _ _ _ (iList K _) from pi_list (pv 1)) (blkOk_by (own := [("row", 3), ("node", 4)]) (N := N_all_renamings) (sc := defScope s_all_renamings) (by decide +kernel)) (by decide) (fun _ _ _ _ _ => (pg_name (i := 3) sc_all_renamings.nd rfl (Or.inl rfl))) (fun _ _ _ _ _ => pts_nil) (fun _ _ _ _ _ => (pi_range1 (by rfl) B.range (pa_cons (pv 0) pa_nil))) (fun _ _ _ _ _ => (pg_name (i := 4) sc_all_renamings.nd rfl (Or.inl rfl))) (fun _ _ _ _ _ => (pts_one (pt_cmpR (show OpR _ (compareOp .NotIn) (rIn K true) from op_notIn_seq) (pv 4) (pv 3) (by with_unfolding_all rfl)))) (fun _ _ _ _ _ => (pe_op (show OpR _ (binaryOp .Add) (rCatA K) from op_catA) (pv 3) (pe_tup (pa_cons (pv 4) pa_nil)))))))⟩, fun E pn => ⟨(ps_if (pt_cmpR op_gt (pv 0) (pe_glob (v := .int 6) rfl B.MAX_LISTED.choose_spec ⟨_, rfl⟩) (nomark _)) 
      (pss_one ps_never) pss_nil), (ps_set (i := 1) sc_all_renamings.nd rfl (Or.inl rfl) (pe_lst (pa_cons (pe_tup pa_nil) pa_nil))), (ps_for PassesOwn.never rfl (pi_range1 (by rfl) B.range (pa_cons (pv 0) pa_nil)) (pg_name (i := 2) sc_all_renamings.nd rfl (Or.inl rfl)) 
      (pss_one (ps_setLc2 (i := 1) (own := [("row", 3), ("node", 4)]) (vs1 := [4]) rfl sc_all_renamings.nd rfl rfl (sw_true rfl rfl rfl (by decide +kernel)) (show PI _ _ _ (iList K _) from pi_list (pv 1)) (blkOk_by (own := [("row", 3), ("node", 4)]) (N := N_all_renamings) (sc := defScope s_all_renamings) (by decide +kernel)) (by decide) (fun _ _ _ _ _ => (pg_name (i := 3) sc_all_renamings.nd rfl (Or.inl rfl))) (fun _ _ _ _ _ => pts_nil) (fun _ _ _ _ _ => (pi_range1 (by rfl) B.range (pa_cons (pv 0) pa_nil))) (fun _ _ _ _ _ => (pg_name (i := 4) sc_all_renamings.nd rfl (Or.inl rfl))) (fun _ _ _ _ _ => (pts_one (pt_cmpR (show OpR _ (compareOp .NotIn) (rIn K true) from op_notIn_seq) (pv 4) (pv 3) (by with_unfolding_all rfl)))) (fun _ _ _ _ _ => (pe_op (show OpR _ (binaryOp .Add) (rCatA K) from op_catA) (pv 3) (pe_tup (pa_cons (pv 4) pa_nil)))))))⟩, fun n D hn q => ?_⟩
  refine ⟨_, rfl, _, _, rfl, rfl, _, rfl, ?_⟩
  rw [show decide ((n : Int) > 6) = false from decide_eq_false (by omega)]
  refine iteF ?_
  refine ⟨by show 0 ≤ sizeLine; decide, fun t nt => ?_⟩
  have s0 := Same.put (o := .tup []) nt
  refine ⟨by show 1 ≤ sizeLine; decide, fun R nR => ?_⟩
  have s1 := Same.put (o := .lst [.ref t]) nR
  have hRH : H R = none := s0.free nR
  have row0 : DpAll K (upd (upd H t (.tup [])) R (.lst [.ref t])) [.ref t] ((rens n 0).map pdR) := .one (.of_row (r := []) (.of (s1 _ _ upd_same)))
  refine ⟨_, rfl, (n : Int), rfl, by omega, by omega, ?_⟩
  refine for_range (lo := 0) (n := n) (fun i σ H' => ∃ R ys y2 y3 y4, σ = [some (vN n), some (.ref R), y2, y3, y4] ∧ H' R = some (.lst ys) ∧ H R = none ∧ Same H H' ∧ DpAll K H' ys ((rens n i).map pdR)) ⟨R, _, _, _, _, rfl, upd_same, hRH, s0.trans s1, row0⟩ (fun i σ H' hi h => ?_) (fun σ H' h => ?_)
  · obtain ⟨R, ys, y2, y3, y4, rfl, hR, nR, sm, hys⟩ := h
    refine ⟨.ref R, rfl, R, rfl, ⟨_, .of hR⟩, fun D' nD => ?_⟩
    have hlen : ys.length = (rens n i).length := by rw [hys.len, List.length_map]
    refine lcD2 (K := K) (n := ys.length) (G := fun H2 => SqL K H2 R ys) (Z := fun i x => ys[i]? = some x) (walk_list (K := K) (a := R) (xs := ys)) (fun _ => n) (fun _ => 0)
      (fun a j => (((rens n i).take a).flatMap (fun r => renRow n r n) ++ renRow n ((rens n i).getD a []) j).map pdR) nD rfl (fun a ha => ?_) (fun H2 s2 => s2.seq (.of hR)) (fun a j => noLs_map noL_r _) (fun a j ha hj => ?_)
      (fun a x H2 Rk ha zx s2 k => ?_) (fun x => rfl) (fun x y => rfl) (fun a x j H2 ky kn ha zx hj s2 fy fn => ?_) (fun H2 zs s2 hD hz => ?_)
    · rw [hlen] at ha
      have e : (rens n i)[a]? = some ((rens n i).getD a []) := by rw [List.getD_eq_getElem?_getD, List.getElem?_eq_getElem ha]; rfl
      show (((rens n i).take (a + 1)).flatMap _ ++ []).map pdR = _
      rw [List.append_nil, flatMap_take _ e]
    · rw [List.length_map, List.length_append]
      have h1 := renStep_len n (rens n i) a
      have h2 := renRow_len n ((rens n i).getD a []) j
      have h3 := rens_small (n := n) (k := i) hn (by omega)
      have h4 : (rens n i).length * n ≤ 3125 * 5 := Nat.mul_le_mul h3 hn
      exact line_lt (by omega)
    · exact ⟨_, rfl, (n : Int), rfl, by omega, by omega, k⟩
    · rw [hlen] at ha
      have e : (rens n i)[a]? = some ((rens n i).getD a []) := by rw [List.getD_eq_getElem?_getD, List.getElem?_eq_getElem ha]; rfl
      obtain ⟨d, ed, hd⟩ := hys.at_ zx
      rw [List.getElem?_map, e] at ed
      cases ed
      obtain ⟨p, rfl, hp⟩ := hd.row
      have hp2 := s2.tseq hp
      refine ⟨_, rfl, _, rfl, p, _, rfl, .inr hp2, rfl, flat_nats _, _, rfl, ?_⟩
      show (if (!inV (V.int ((0 : Int) + (j : Int))) (((rens n i).getD a []).map vN)) = true then _ else _)
      rw [Int.zero_add, inV_nats]
      by_cases hc : ((rens n i).getD a []).contains j = true
      · rw [hc]
        refine iteF ?_
        refine fn H2 (Same.refl _) ?_
        show (_ ++ renRow n ((rens n i).getD a []) (j + 1)).map pdR = _
        rw [renRow_snoc, hc]
        show (_ ++ (_ ++ [])).map pdR = _
        rw [List.append_nil]
      · have hc2 : ((rens n i).getD a []).contains j = false := by simpa using hc
        rw [hc2]
        refine iteT ?_
        have fin : ∀ (H4 : Hp) (u : Addr), Same H2 H4 → SqT K H4 u ((((rens n i).getD a []) ++ [j]).map vN) → ky (.ref u) H4 := fun H4 u s4 hu => fy _ _ (pdR ((rens n i).getD a [] ++ [j])) s4 (.of_row hu) (by
          show (_ ++ renRow n ((rens n i).getD a []) (j + 1)).map pdR = _
          rw [renRow_snoc, hc2]
          show (_ ++ (_ ++ [(rens n i).getD a [] ++ [j]])).map pdR = _
          rw [← List.append_assoc, List.map_append]
          rfl)
        have hl2 : ((rens n i).getD a []).length = i := rens_row_len n i _ (List.mem_of_getElem? e)
        refine ⟨_, rfl, _, rfl, by show 1 ≤ sizeLine; decide, fun u nu => ?_⟩
        have su := Same.put (o := .tup [vN j]) nu
        refine ⟨p, u, _, [vN j], rfl, rfl, su.tseq hp2, .of upd_same, ?_, fun e0 => ?_, fun _ e1 => (by cases e1), fun _ _ z nz => ?_⟩
        · rw [List.length_map, hl2]
          exact line_le (by show i + 1 ≤ 100000; omega)
        · have e1 : (rens n i).getD a [] = [] := List.map_eq_nil_iff.mp e0
          refine fin _ u su ?_
          rw [e1]
          exact .of upd_same
        · refine fin _ z (su.trans (Same.put nz)) ?_
          rw [List.map_append]
          exact .of upd_same
    · rw [hlen] at hz
      refine ⟨D', zs, _, _, _, rfl, hD, sm.free nD, sm.trans s2, ?_⟩
      have e0 : (((rens n i).take (rens n i).length).flatMap (fun r => renRow n r n) ++ renRow n ((rens n i).getD (rens n i).length []) 0) = rens n (i + 1) := by
        rw [List.take_length]
        show _ ++ [] = _
        rw [List.append_nil]
        rfl
      rw [e0] at hz
      exact hz
  · obtain ⟨R, ys, y2, y3, y4, rfl, hR, nR, sm, hys⟩ := h
    exact q R ys y2 y3 y4 H' hR nR sm hys
end
end Wb
-- WG
set_option Elab.async false
set_option linter.all false
set_option maxRecDepth 100000
set_option maxHeartbeats 4000000
/-! all_renamings: for list(..) and for a for -/
namespace L2
open PySem PySem.Spec PyProof.Rows
section
variable {K : PySem.W.Frag} {H : Hp}
theorem tseq_del {a D : Addr} {xs acc : List V} (hD : H D = some (.lst acc)) (h : SqT K H a xs) : SqT K (del H D) a xs := by
  rcases h with (h | ⟨o, h⟩) | h
  · exact .inl (.inl (by rw [del_ne (ne_of h hD (by intro z; cases z))]; exact h))
  · exact .inl (.inr ⟨o, by rw [del_ne (ne_of h hD (by intro z; cases z))]; exact h⟩)
  · exact .inr h
mutual
theorem Dp.delL {D : Addr} {acc : List V} (hD : H D = some (.lst acc)) : ∀ {d : PyData} {v : V}, noL d = true → Dp K H v d → Dp K (del H D) v d
  | .none, _, _, h => by cases h; exact .non
  | .bool _, _, _, h => by cases h; exact .bl _
  | .int _, _, _, h => by cases h; exact .int _
  | .str _, _, _, h => by cases h; exact .str _
  | .list ds, _, n, h => by cases n
  | .tuple ds, _, n, h => by
    cases h with
    | tup h1 h2 => exact .tup (tseq_del hD h1) (DpAll.delL hD n h2)
  | .dict _, _, _, h => by cases h
theorem DpAll.delL {D : Addr} {acc : List V} (hD : H D = some (.lst acc)) : ∀ {ds : List PyData} {vs : List V}, noLs ds = true → DpAll K H vs ds → DpAll K (del H D) vs ds
  | [], _, _, h => by cases h; exact .nil
  | d :: ds, _, n, h => by
    cases h with
    | cons h1 h2 =>
      have n' : (noL d && noLs ds) = true := n
      rw [Bool.and_eq_true] at n'
      exact .cons (Dp.delL hD n'.1 h1) (DpAll.delL hD n'.2 h2)
end
theorem Same.del {H0 : Hp} {D : Addr} (s : Same H0 H) (h : H0 D = none) : Same H0 (L2.del H D) := fun b o e => by
  rw [del_ne (ne_of_none e h)]
  exact s b o e
end
end L2
namespace Wb
open PySem PySem.Spec PyProof.Rows L2
section
variable {P : Program} {w : World} {K : PySem.W.Frag} {mg : Str → Option Value} {base : Heap} {f : Addr} {fd : FuncData}
def spRenF (K : PySem.W.Frag) : GF.SpF := fun vs H Q => ∃ n : Nat, vs = [vN n] ∧ n ≤ 5 ∧ ∀ H' ys, Same H H' → DpAll K H' ys ((perms n).map pdR) → Q ys H'
def spRenG (K : PySem.W.Frag) : SpG := fun vs H Q _ => ∃ n : Nat, vs = [vN n] ∧ n ≤ 5 ∧ ∀ H' ys, Same H H' → DpAll K H' ys ((perms n).map pdR) → Q ys H'
theorem ffn_ren (B : Bt mg) (F : Fun K "all_renamings" "all_renamings" s_all_renamings f fd) : GF.FFn P w K mg base 1 f fd ["size"] (spRenF K) := by
  obtain ⟨⟨oc, od, kV, doc, pm, an, cdv, ct, osl, rfl, lk, hcd⟩, kp⟩ := F
  refine GF.ffn_of (pre := (defBody s_all_renamings).take 3) (N := N_all_renamings) (x := "row") (y := "rows") (iy := 1) (k := 0) lk hcd sc_all_renamings (by decide +kernel) (by decide +kernel) rfl (Or.inl (by decide +kernel)) (by decide +kernel) (by decide +kernel) (fun vs H Q h => ?_) (fun A outer s H vs Q hr h => ?_)
  · obtain ⟨n, rfl, _⟩ := h
    rfl
  · obtain ⟨n, rfl, hn, q⟩ := h
    obtain ⟨t0, t1, t2, _, p2, hd⟩ := ren_pre (P := P) (w := w) (K := K) (base := base) B f cdv A outer s H
    obtain ⟨a0, a1, a2⟩ := p2 (fun _ _ _ => False) []
    refine ⟨_, pss_cons a0 (pss_cons a1 (pss_one a2)), ?_⟩
    refine hd n _ hn fun R ys y2 y3 y4 H' hR nR sm hys => ?_
    exact ⟨R, ys, rfl, hR, nR, q _ ys (sm.del nR) (hys.delL hR (noLs_map noL_r _))⟩
theorem gfn_ren (B : Bt mg) (F : Fun K "all_renamings" "all_renamings" s_all_renamings f fd) : GFn P w K mg base 1 f fd ["size"] (spRenG K) := by
  obtain ⟨⟨oc, od, kV, doc, pm, an, cdv, ct, osl, rfl, lk, hcd⟩, kp⟩ := F
  refine gfn_of (N := N_all_renamings) (k := 0) lk hcd sc_all_renamings (fun vs H Q E h => ?_) (fun A outer s H vs Q E pn hr h => ?_)
  · obtain ⟨n, rfl, _⟩ := h
    rfl
  · obtain ⟨n, rfl, hn, q⟩ := h
    obtain ⟨t0, t1, t2, p1, _, hd⟩ := ren_pre (P := P) (w := w) (K := K) (base := base) B f cdv A outer s H
    obtain ⟨a0, a1, a2⟩ := p1 E pn
    refine ⟨_, gss_cons (gs_ps a0) (gss_cons (gs_ps a1) (gss_cons (gs_ps a2) (gss_cons (GF.gs_for owns_gcx rfl (pi_list (pv 1)) (pg_name (i := 3) sc_all_renamings.nd rfl (Or.inl rfl)) (gss_cons (gs_yield (pv 3)) gss_nil)) gss_nil))), ?_⟩
    show tSeq t0 (tSeq t1 t2) { nx := fun σ' H' => tGThen (GF.tGFor (iList K (tVar 1)) (gName 3) (tGThen (tGYield (tVar 3)) tG0)) tG0 { nx := fun ys _ H' => Q ys H', rt := fun ys v H' => v = V.non ∧ Q ys H' } [] σ' H', rt := fun v H' => v = V.non ∧ Q [] H' } (start N_all_renamings [vN n]) H
    refine hd n _ hn fun R ys y2 y3 y4 H' hR nR sm hys => ?_
    refine ⟨.ref R, rfl, R, rfl, ⟨_, .of hR⟩, fun i m out σ H2 => m = ys.length - i ∧ i ≤ ys.length ∧ (∃ y3, σ = [some (vN n), some (.ref R), y2, y3, y4]) ∧ H2 = H' ∧ out = ys.take i, ⟨_, rfl, Nat.zero_le _, ⟨_, rfl⟩, rfl, rfl⟩, fun i m out σ H2 hW => ?_⟩
    obtain ⟨rfl, hi, ⟨y3, rfl⟩, rfl, rfl⟩ := hW
    by_cases hlt : i < ys.length
    · refine .inr ⟨⟨ys, ys[i], .of hR, List.getElem?_eq_getElem hlt⟩, fun out σ H3 => (∃ y3, σ = [some (vN n), some (.ref R), y2, y3, y4]) ∧ H3 = H2 ∧ out = ys.take (i + 1), fun out σ H3 h => ⟨ys.length - (i + 1), by omega, rfl, hlt, h⟩, fun x H3 yy => ?_⟩
      obtain ⟨rfl, yx⟩ := yy
      have ex := yx ys (.of hR)
      refine ⟨?_, _, rfl, ⟨_, rfl⟩, rfl, ?_⟩
      · rw [List.length_take]
        have h3 : (perms n).length ≤ 3125 := rens_small (n := n) (k := n) hn hn
        have := hys.len
        rw [List.length_map] at this
        exact line_lt (by omega)
      · rw [List.take_add_one, ex]
        rfl
    · have e : i = ys.length := by omega
      subst e
      refine .inl ⟨⟨ys, .of hR, Nat.le_refl _⟩, ?_⟩
      rw [List.take_length]
      exact q _ ys sm hys
end
end Wb
-- WH
set_option Elab.async false
set_option linter.all false
set_option maxRecDepth 100000
set_option maxHeartbeats 4000000
/-! sort_row, sort_of, count_symmetries -/
namespace Wb
open PySem PySem.Spec PyProof.Rows L2
theorem sort_mem (es : Es) (rs : List (List Nat)) : ∀ (qs : List (List Nat)) (b : Option (List Nat) × Nat), (∀ r ∈ qs, r ∈ rs) → (∀ r, b.1 = some r → r ∈ rs) → ∀ r, (qs.foldl (srStep es) b).1 = some r → r ∈ rs
  | [], b, _, hb, r, e => hb r e
  | x :: qs, b, hq, hb, r, e => by
    refine sort_mem es rs qs (srStep es b x) (fun r hr => hq r (List.mem_cons_of_mem _ hr)) (fun r hr => ?_) r e
    unfold srStep at hr
    split at hr
    · cases hr
      exact hq _ List.mem_cons_self
    · exact hb r hr
theorem perms_rows {n : Nat} {es : Es} (hn : n ≤ 5) (hB : Below n es) : ∀ r ∈ perms n, Below r.length es ∧ ∀ k ∈ r, k < 64 := fun r hr => by
  have h1 := rens_row_len n n r hr
  have h2 := rens_row_lt n n r hr
  rw [h1]
  exact ⟨hB, fun k hk => Nat.lt_of_lt_of_le (h2 k hk) (by omega)⟩
section
variable {P : Program} {w : World} {K : PySem.W.Frag} {mg : Str → Option Value} {base : Heap} {f f_ren f_code_under f_sort_row f_renamed f_code_of : Addr} {fd fd_ren fd_code_under fd_sort_row fd_renamed fd_code_of : FuncData}
def BestIs (K : PySem.W.Frag) (H : Hp) (o : Option (List Nat)) (v : V) : Prop := (o = none ∧ v = .non) ∨ ∃ r, o = some r ∧ Dp K H v (pdR r)
def spSortRow (K : PySem.W.Frag) : Sp := fun vs H Q _ => ∃ (v : V) (x : Nat × Es), vs = [v] ∧ Dp K H v (pdW x) ∧ x.1 ≤ 5 ∧ Below x.1 x.2 ∧ ∀ H' u, Same H H' → BestIs K H' (sortRow x.2 (perms x.1)).1 u → Q u H'
theorem ok_sort_row (B : Bt mg) (F : Fun K "sort_row" "sort_row" s_sort_row f fd) (C_ren : Cal K mg "all_renamings" "all_renamings" s_all_renamings f_ren fd_ren ["size"]) (C_code_under : Cal K mg "code_under" "code_under" s_code_under f_code_under fd_code_under ["web", "row"])
    (G_code_under : FnOk P w K mg base CX0 2 f_code_under fd_code_under ["web", "row"] (spUnder K)) : FnOk P w K mg base CX0 3 f fd ["web"] (spSortRow K) := by
  have GF_ren : GF.FFn P w K mg base 1 f_ren fd_ren ["size"] (spRenF K) := ffn_ren B C_ren.F
  refine F.ok sc_sort_row (fun vs H Q E h => ?_) (fun cdv A outer s H vs Q E hr h => ?_)
  · obtain ⟨v, x, rfl, _⟩ := h
    rfl
  · obtain ⟨v, ⟨n, es⟩, rfl, hW, hn, hB, q⟩ := h
    obtain ⟨p, e, vs, rfl, hp, he, hes⟩ := hW.web
    refine ⟨_, (pss_cons (ps_if (pt_cmpR op_gt (pe_ix ix_tup (pv 0) pe_int (fun _ _ => rfl)) (pe_glob (v := .int 5) rfl B.MAX_SORTED.choose_spec ⟨_, rfl⟩) (nomark _)) 
        (pss_one ps_never) pss_nil)
      (pss_cons (ps_set (i := 1) sc_sort_row.nd rfl (Or.inl rfl) pe_non)
      (pss_cons (ps_set (i := 2) sc_sort_row.nd rfl (Or.inl rfl) pe_int)
      (pss_cons (GF.ps_forF PassesOwn.never rfl GF_ren (hr.mono (by decide)) (by rfl) C_ren.g C_ren.F.kp C_ren.b .nil (pa_cons (pe_ix ix_tup (pv 0) pe_int (fun _ _ => rfl)) pa_nil) (pg_name (i := 3) sc_sort_row.nd rfl (Or.inl rfl)) 
        (pss_cons (ps_set (i := 4) sc_sort_row.nd rfl (Or.inl rfl) (pe_call G_code_under (hr.mono (by decide)) (by rfl) C_code_under.g C_code_under.F.kp C_code_under.b .nil pass0 (pa_cons (pv 0) (pa_cons (pv 3) pa_nil))))
        (pss_one (ps_if (PW.pt (pw_or (pt_cmpR op_isN (pv 1) pe_non (nomark _)) (pw_or1 (pt_cmpR op_lt (pv 4) (pv 2) (nomark _))))) 
          (pss_cons (ps_set (i := 1) sc_sort_row.nd rfl (Or.inl rfl) (pv 3))
          (pss_one (ps_set (i := 2) sc_sort_row.nd rfl (Or.inl rfl) (pv 4)))) pss_nil))))
      (pss_one (ps_ret (pv 1))))))), ?_⟩
    refine ⟨.ref p, rfl, p, _, _, _, rfl, rfl, hp, atI_nat (j := 0) rfl, _, _, rfl, rfl, _, rfl, ?_⟩
    rw [show decide ((n : Int) > 5) = false from decide_eq_false (by have : n ≤ 5 := hn; omega)]
    refine iteF ?_
    refine ⟨.ref p, rfl, p, _, _, _, rfl, rfl, hp, atI_nat (j := 0) rfl, n, rfl, hn, fun H1 ys s1 hys => ?_⟩
    refine ⟨fun i σ H' => ∃ bv y3 y4, σ = [some (.ref p), some bv, some (vN (sortRow es ((perms n).take i)).2), y3, y4] ∧ Same H1 H' ∧ BestIs K H' (sortRow es ((perms n).take i)).1 bv, ⟨_, _, _, rfl, Same.refl _, .inl ⟨rfl, rfl⟩⟩, fun i σ H2 hW2 => ⟨fun ei => ?_, fun x ex => ?_⟩⟩
    · obtain ⟨bv, y3, y4, rfl, s2, hb⟩ := hW2
      refine ⟨bv, rfl, q H2 bv (s1.trans s2) ?_⟩
      have el : ys.length = (perms n).length := by rw [hys.len, List.length_map]
      rw [ei, el, List.take_length] at hb
      exact hb
    · obtain ⟨bv, y3, y4, rfl, s2, hb⟩ := hW2
      obtain ⟨d, ed, hd⟩ := hys.at_ ex
      rw [List.getElem?_map] at ed
      obtain ⟨r, er, rfl⟩ := Option.map_eq_some_iff.mp ed
      have hr1 := perms_rows hn hB r (List.mem_of_getElem? er)
      have ss := s1.trans s2
      have st : sortRow es ((perms n).take (i + 1)) = srStep es (sortRow es ((perms n).take i)) r := foldl_take _ _ er
      refine ⟨.ref p, rfl, x, rfl, .ref p, x, (n, es), r, rfl, hW.same ss, hd.same s2, hr1.1, hr1.2, ?_⟩
      have yes : ∀ (b : Option (List Nat) × Nat), (b.1.isNone || codeUnder es r < b.2) = true → srStep es b r = (some r, codeUnder es r) := fun b hb => by unfold srStep; rw [if_pos hb]
      have no : ∀ (b : Option (List Nat) × Nat), (b.1.isNone || codeUnder es r < b.2) = false → srStep es b r = b := fun b hb => by unfold srStep; rw [if_neg (by rw [hb]; exact Bool.false_ne_true)]
      have fin1 : srStep es (sortRow es ((perms n).take i)) r = (some r, codeUnder es r) → ∃ bv y3 y4, [some (.ref p), some x, some (vN (codeUnder es r)), some x, some (vN (codeUnder es r))] = [some (.ref p), some bv, some (vN (sortRow es ((perms n).take (i + 1))).2), y3, y4] ∧ Same H1 H2 ∧ BestIs K H2 (sortRow es ((perms n).take (i + 1))).1 bv := fun e1 => by
        rw [st, e1]
        exact ⟨x, _, _, rfl, s2, .inr ⟨r, rfl, hd.same s2⟩⟩
      refine ⟨bv, rfl, rfl, _, rfl, ?_⟩
      rcases hb with ⟨h0, rfl⟩ | ⟨r0, h0, hd0⟩
      · refine iteT (iteT ?_)
        refine ⟨x, rfl, _, rfl, ?_⟩
        exact fin1 (yes _ (by rw [h0]; rfl))
      · obtain ⟨b0, rfl, _⟩ := hd0.row
        refine iteF ⟨_, rfl, _, rfl, _, _, rfl, rfl, _, rfl, ite2 (fun e => ?_) (fun e => ?_)⟩
        · have e1 : codeUnder es r < (sortRow es ((perms n).take i)).2 := by
            have z : ((codeUnder es r : Nat) : Int) < (((sortRow es ((perms n).take i)).2 : Nat) : Int) := of_decide_eq_true e
            omega
          refine ⟨x, rfl, _, rfl, ?_⟩
          exact fin1 (yes _ (by rw [decide_eq_true e1, Bool.or_true]))
        · have e1 : ¬ codeUnder es r < (sortRow es ((perms n).take i)).2 := fun z => e (decide_eq_true (by
            show ((codeUnder es r : Nat) : Int) < (((sortRow es ((perms n).take i)).2 : Nat) : Int)
            omega))
          have e2 := no (sortRow es ((perms n).take i)) (by rw [h0, decide_eq_false e1]; rfl)
          have fin2 : ∃ bv y3' y4', [some (.ref p), some (.ref b0), some (vN (sortRow es ((perms n).take i)).2), some x, some (vN (codeUnder es r))] = [some (.ref p), some bv, some (vN (sortRow es ((perms n).take (i + 1))).2), y3', y4'] ∧ Same H1 H2 ∧ BestIs K H2 (sortRow es ((perms n).take (i + 1))).1 bv := by
            rw [st, e2]
            exact ⟨.ref b0, _, _, rfl, s2, .inr ⟨r0, h0, hd0⟩⟩
          exact fin2
def spSortOf (K : PySem.W.Frag) : Sp := fun vs H Q _ => ∃ (v : V) (x : Nat × Es) (r : List Nat), vs = [v] ∧ Dp K H v (pdW x) ∧ x.1 ≤ 5 ∧ Below x.1 x.2 ∧ x.2.length < 60 ∧ (sortRow x.2 (perms x.1)).1 = some r ∧ ∀ H' u, Same H H' → Dp K H' u (pdW (renamed x r)) → Q u H'
theorem ok_sort_of (F : Fun K "sort_of" "sort_of" s_sort_of f fd) (C_sort_row : Cal K mg "sort_row" "sort_row" s_sort_row f_sort_row fd_sort_row ["web"]) (C_renamed : Cal K mg "renamed" "renamed" s_renamed f_renamed fd_renamed ["web", "row"])
    (G_sort_row : FnOk P w K mg base CX0 3 f_sort_row fd_sort_row ["web"] (spSortRow K)) (G_renamed : FnOk P w K mg base CX0 3 f_renamed fd_renamed ["web", "row"] (spRenamed K)) : FnOk P w K mg base CX0 4 f fd ["web"] (spSortOf K) := by
  refine F.ok sc_sort_of (fun vs H Q E h => ?_) (fun cdv A outer s H vs Q E hr h => ?_)
  · obtain ⟨v, x, r, rfl, _⟩ := h
    rfl
  · obtain ⟨v, ⟨n, es⟩, r, rfl, hW, hn, hB, h60, hs, q⟩ := h
    refine ⟨_, (pss_one (ps_ret (pe_call G_renamed (hr.mono (by decide)) (by rfl) C_renamed.g C_renamed.F.kp C_renamed.b .nil pass0 (pa_cons (pv 0) (pa_cons (pe_call G_sort_row (hr.mono (by decide)) (by rfl) C_sort_row.g C_sort_row.F.kp C_sort_row.b .nil pass0 (pa_cons (pv 0) pa_nil)) pa_nil))))), ?_⟩
    refine ⟨v, rfl, v, rfl, v, (n, es), rfl, hW, hn, hB, fun H1 u s1 hu => ?_⟩
    rcases hu with ⟨h0, _⟩ | ⟨r', h0, hd⟩
    · rw [hs] at h0
      cases h0
    · rw [hs] at h0
      cases h0
      have hm : r ∈ perms n := sort_mem es (perms n) (perms n) (none, 0) (fun _ h => h) (fun _ z => nomatch z) r hs
      exact ⟨v, u, n, es, r, rfl, hW.same s1, hd, rens_row_len n n r hm, rens_row_lt n n r hm, rens_row_nd n n r hm, hn, hB, h60, fun H2 z s2 hz => q H2 z (s1.trans s2) hz⟩
def spCount (K : PySem.W.Frag) : Sp := fun vs H Q _ => ∃ (v : V) (x : Nat × Es), vs = [v] ∧ Dp K H v (pdW x) ∧ x.1 ≤ 5 ∧ Below x.1 x.2 ∧ ∀ H', Same H H' → Q (vN (countSym x.2 (perms x.1))) H'
theorem countP_take {α : Type} (p : α → Bool) {xs : List α} {i : Nat} {x : α} (h : xs[i]? = some x) : (xs.take (i + 1)).countP p = (xs.take i).countP p + (if p x then 1 else 0) := by
  rw [List.take_add_one, h, List.countP_append]
  congr 1
  show [x].countP p = _
  rw [List.countP_cons, List.countP_nil, Nat.zero_add]
theorem ok_count (B : Bt mg) (F : Fun K "count_symmetries" "count_symmetries" s_count_symmetries f fd) (C_ren : Cal K mg "all_renamings" "all_renamings" s_all_renamings f_ren fd_ren ["size"]) (C_code_of : Cal K mg "code_of" "code_of" s_code_of f_code_of fd_code_of ["web"]) (C_code_under : Cal K mg "code_under" "code_under" s_code_under f_code_under fd_code_under ["web", "row"])
    (G_code_of : FnOk P w K mg base CX0 2 f_code_of fd_code_of ["web"] (spCode K)) (G_code_under : FnOk P w K mg base CX0 2 f_code_under fd_code_under ["web", "row"] (spUnder K)) : FnOk P w K mg base CX0 3 f fd ["web"] (spCount K) := by
  have GF_ren : GF.FFn P w K mg base 1 f_ren fd_ren ["size"] (spRenF K) := ffn_ren B C_ren.F
  refine F.ok sc_count_symmetries (fun vs H Q E h => ?_) (fun cdv A outer s H vs Q E hr h => ?_)
  · obtain ⟨v, x, rfl, _⟩ := h
    rfl
  · obtain ⟨v, ⟨n, es⟩, rfl, hW, hn, hB, q⟩ := h
    obtain ⟨p, e, vs, rfl, hp, he, hes⟩ := hW.web
    refine ⟨_, (pss_cons (ps_set (i := 1) sc_count_symmetries.nd rfl (Or.inl rfl) (pe_call G_code_of (hr.mono (by decide)) (by rfl) C_code_of.g C_code_of.F.kp C_code_of.b .nil pass0 (pa_cons (pv 0) pa_nil)))
      (pss_cons (ps_set (i := 2) sc_count_symmetries.nd rfl (Or.inl rfl) pe_int)
      (pss_cons (GF.ps_forF PassesOwn.never rfl GF_ren (hr.mono (by decide)) (by rfl) C_ren.g C_ren.F.kp C_ren.b .nil (pa_cons (pe_ix ix_tup (pv 0) pe_int (fun _ _ => rfl)) pa_nil) (pg_name (i := 3) sc_count_symmetries.nd rfl (Or.inl rfl)) 
        (pss_one (ps_if (pt_cmpR op_eq (pe_call G_code_under (hr.mono (by decide)) (by rfl) C_code_under.g C_code_under.F.kp C_code_under.b .nil pass0 (pa_cons (pv 0) (pa_cons (pv 3) pa_nil))) (pv 1) (nomark _)) 
          (pss_one (ps_aug (i := 2) sc_count_symmetries.nd rfl (Or.inl rfl) pe_int ip_add)) pss_nil)))
      (pss_one (ps_ret (pv 2)))))), ?_⟩
    refine ⟨.ref p, rfl, .ref p, (n, es), rfl, hW, fun g hg => ?_, ?_⟩
    · have := hB g hg
      have : n ≤ 5 := hn
      exact ⟨by omega, by omega⟩
    refine ⟨.ref p, rfl, p, _, _, _, rfl, rfl, hp, atI_nat (j := 0) rfl, n, rfl, hn, fun H1 ys s1 hys => ?_⟩
    refine ⟨fun i σ H' => ∃ y3, σ = [some (.ref p), some (vN (codeOf es)), some (vN (countSym es ((perms n).take i))), y3] ∧ Same H1 H', ⟨_, rfl, Same.refl _⟩, fun i σ H2 hW2 => ⟨fun ei => ?_, fun x ex => ?_⟩⟩
    · obtain ⟨y3, rfl, s2⟩ := hW2
      have el : ys.length = (perms n).length := by rw [hys.len, List.length_map]
      rw [ei, el, List.take_length]
      exact ⟨_, rfl, q H2 (s1.trans s2)⟩
    · obtain ⟨y3, rfl, s2⟩ := hW2
      obtain ⟨d, ed, hd⟩ := hys.at_ ex
      rw [List.getElem?_map] at ed
      obtain ⟨r, er, rfl⟩ := Option.map_eq_some_iff.mp ed
      have hr1 := perms_rows hn hB r (List.mem_of_getElem? er)
      have ss := s1.trans s2
      have st : countSym es ((perms n).take (i + 1)) = countSym es ((perms n).take i) + (if (codeUnder es r == codeOf es) = true then 1 else 0) := countP_take _ er
      refine ⟨.ref p, rfl, x, rfl, .ref p, x, (n, es), r, rfl, hW.same ss, hd.same s2, hr1.1, hr1.2, _, rfl, rfl, _, rfl, ite2 (fun e => ?_) (fun e => ?_)⟩
      · have e1 : (codeUnder es r == codeOf es) = true := by
          have : ((codeUnder es r : Nat) : Int) = ((codeOf es : Nat) : Int) := V.int.inj (of_decide_eq_true e)
          rw [beq_iff_eq]
          omega
        refine ⟨_, rfl, _, _, rfl, rfl, ?_⟩
        have fin : ∃ y3', [some (.ref p), some (vN (codeOf es)), some (V.int (((countSym es ((perms n).take i) : Nat) : Int) + 1)), some x] = [some (.ref p), some (vN (codeOf es)), some (vN (countSym es ((perms n).take (i + 1)))), y3'] ∧ Same H1 H2 := by
          rw [st, if_pos e1]
          exact ⟨_, rfl, s2⟩
        exact fin
      · have e1 : ¬ (codeUnder es r == codeOf es) = true := fun z => e (by
          have z1 : codeUnder es r = codeOf es := beq_iff_eq.mp z
          show decide (V.int ((codeUnder es r : Nat) : Int) = V.int ((codeOf es : Nat) : Int)) = true
          rw [z1]
          exact decide_eq_true rfl)
        have fin : ∃ y3', [some (.ref p), some (vN (codeOf es)), some (vN (countSym es ((perms n).take i))), some x] = [some (.ref p), some (vN (codeOf es)), some (vN (countSym es ((perms n).take (i + 1)))), y3'] ∧ Same H1 H2 := by
          rw [st, if_neg e1]
          exact ⟨_, rfl, s2⟩
        exact fin
end
end Wb
-- WI
set_option Elab.async false
set_option linter.all false
set_option maxRecDepth 100000
set_option maxHeartbeats 4000000
/-! check_limit, all_webs -/
namespace Wb
open PySem PySem.Spec PyProof.Rows L2
section
variable {P : Program} {w : World} {K : PySem.W.Frag} {mg : Str → Option Value} {base : Heap} {C fI f f_check_limit f_bit_of f_ren f_code_with f_web_of_code f_is_least : Addr} {fd fd_check_limit fd_bit_of fd_ren fd_code_with fd_web_of_code fd_is_least : FuncData}
/-- TooLarge stands at d with the limit k -/
def Lim (C : Addr) (k : Nat) (H : Hp) (E : XK) : Prop := ∀ H' d, Same H H' → H d = none → H' d = some (.xd [(("limit" : Str), vN k)]) → E (.ref C) (some d) H'
def spCheck (C : Addr) : Sp := fun vs H Q E => ∃ (n : Nat) (lp : Bool), vs = [vN n, .bl lp] ∧ (n ≤ lim lp → Q .non H) ∧ (¬ n ≤ lim lp → Lim C (lim lp) H E)
theorem ok_check_limit (B : Bt mg) (T : TL.TlTxt P K mg C fI) (F : Fun K "check_limit" "check_limit" s_check_limit f fd) : FnOk P w K mg base (CX P w) 2 f fd ["size", "loops"] (spCheck C) := by
  refine F.okX sc_check_limit (fun vs H Q E h => ?_) (fun cdv A outer s H vs Q E hr h => ?_)
  · obtain ⟨n, lp, rfl, _⟩ := h
    rfl
  · obtain ⟨n, lp, rfl, q, qe⟩ := h
    refine ⟨_, (pss_cons (ps_set (i := 2) sc_check_limit.nd rfl (Or.inl rfl) (pe_ifExp (pt_val (pv 1)) (pe_glob (v := .int 3) rfl B.MAX_LOOPED.choose_spec ⟨_, rfl⟩) (pe_glob (v := .int 4) rfl B.MAX_SIMPLE.choose_spec ⟨_, rfl⟩)))
      (pss_one (ps_if (pt_cmpR op_gt (pv 0) (pv 2) (nomark _)) 
        (pss_one (ps_raiseTl rfl T hr (takes_of rfl rfl rfl rfl) (by exact (pa_cons (pv 2) pa_nil)))) pss_nil))), ?_⟩
    refine ⟨_, rfl, _, rfl, ?_⟩
    have fin : tIfS (tTest (tOp (rI0 fun i j => .bl (decide (i > j))) (tVar 0) (tVar 2))) (tRaiseTl C (fun cls d _ H => E cls d H) (tCons (tVar 2) tNil)) tNext { nx := fun _ H' => Q .non H', rt := Q } [some (vN n), some (.bl lp), some (vN (lim lp))] H := by
      refine ⟨_, rfl, _, rfl, _, _, rfl, rfl, _, rfl, ite2 (fun e => ?_) (fun e => ?_)⟩
      · have e1 : ¬ n ≤ lim lp := by
          have := of_decide_eq_true e
          omega
        exact ⟨_, rfl, _, rfl, fun d nd => qe e1 _ d (Same.put nd) nd upd_same⟩
      · have e1 : n ≤ lim lp := by
          have : ¬ ((n : Int) > (lim lp : Nat)) := fun z => e (decide_eq_true z)
          omega
        exact q e1
    cases lp with
    | true => exact iteT fin
    | false => exact iteF fin
end
end Wb
-- WJ
set_option Elab.async false
set_option linter.all false
set_option maxRecDepth 100000
set_option maxHeartbeats 4000000
/-! all_webs -/
namespace Wb
open PySem PySem.Spec PyProof.Rows L2
theorem bitRow_len (lp : Bool) (b k : Nat) : (bitRow lp b k).length ≤ k := by
  unfold bitRow
  rw [List.length_map]
  exact Nat.le_trans (List.length_filter_le _ _) (Nat.le_of_eq List.length_range)
theorem bitRow_snoc (lp : Bool) (b k : Nat) : bitRow lp b (k + 1) = bitRow lp b k ++ (if (lp || decide (k < b)) = true then [bitOf k b] else []) := range_map_filter _ _ k
/-- the bits so far -/
def bitsTo (lp : Bool) (i j : Nat) : List Nat := (List.range i).flatMap (fun b => bitRow lp b (b + 1)) ++ bitRow lp i j
theorem bitsTo_len (lp : Bool) (i j : Nat) : (bitsTo lp i j).length ≤ i * (i + 1) + j := by
  unfold bitsTo
  rw [List.length_append]
  have h1 := flatMap_len (fun b => bitRow lp b (b + 1)) (i + 1) (List.range i) fun x hx => Nat.le_trans (bitRow_len _ _ _) (by have := List.mem_range.mp hx; omega)
  rw [List.length_range] at h1
  have h2 := bitRow_len lp i j
  omega
theorem mem_bits_lt {lp : Bool} {n b : Nat} (hn : n ≤ 5) (h : b ∈ bits lp n) : b < 1000 := by
  obtain ⟨y, hy, h1⟩ := List.mem_flatMap.mp h
  obtain ⟨x, hx, rfl⟩ := List.mem_map.mp h1
  have h2 := List.mem_range.mp hy
  have h3 := List.mem_range.mp (List.mem_filter.mp hx).1
  exact Nat.lt_of_le_of_lt (bitOf_le (k := 5) (by omega) (by omega)) (by decide)
theorem websTo_snoc (lp : Bool) (n k : Nat) : websTo lp n (k + 1) = websTo lp n k ++ (if isLeast (webAt lp n k).2 (perms n) = true then [webAt lp n k] else []) := by
  unfold websTo
  rw [List.range_succ, List.map_append, List.filter_append]
  congr 1
  show List.filter _ [webAt lp n k] = _
  by_cases h : isLeast (webAt lp n k).2 (perms n) = true
  · rw [if_pos h]
    exact List.filter_cons_of_pos (p := fun w : Nat × Es => isLeast w.2 (perms n)) (a := webAt lp n k) (l := []) h
  · rw [if_neg h]
    exact List.filter_cons_of_neg (p := fun w : Nat × Es => isLeast w.2 (perms n)) (a := webAt lp n k) (l := []) h
theorem websTo_len (lp : Bool) (n k : Nat) : (websTo lp n k).length ≤ k := by
  unfold websTo
  refine Nat.le_trans (List.length_filter_le _ _) ?_
  rw [List.length_map, List.length_range]
  exact Nat.le_refl _
section
variable {P : Program} {w : World} {K : PySem.W.Frag} {mg : Str → Option Value} {base : Heap} {C fI f f_check_limit f_bit_of f_ren f_code_with f_web_of_code f_is_least : Addr} {fd fd_check_limit fd_bit_of fd_ren fd_code_with fd_web_of_code fd_is_least : FuncData}
def spWebs (K : PySem.W.Frag) (C : Addr) : SpG := fun vs H Q E => ∃ (n : Nat) (lp : Bool), vs = [vN n, .bl lp] ∧ (n ≤ lim lp → ∀ H' ys, Same H H' → DpAll K H' ys ((allWebs lp n).map pdW) → Q ys H') ∧ (¬ n ≤ lim lp → Lim C (lim lp) H E)
theorem gfn_webs (B : Bt mg) (F : Fun K "all_webs" "all_webs" s_all_webs f fd) (C_ren : Cal K mg "all_renamings" "all_renamings" s_all_renamings f_ren fd_ren ["size"]) (C_bit_of : Cal K mg "bit_of" "bit_of" s_bit_of f_bit_of fd_bit_of ["first", "second"])
    (C_check_limit : Cal K mg "check_limit" "check_limit" s_check_limit f_check_limit fd_check_limit ["size", "loops"]) (C_code_with : Cal K mg "code_with" "code_with" s_code_with f_code_with fd_code_with ["number", "bits"]) (C_web_of_code : Cal K mg "web_of_code" "web_of_code" s_web_of_code f_web_of_code fd_web_of_code ["size", "code"]) (C_is_least : Cal K mg "is_least" "is_least" s_is_least f_is_least fd_is_least ["web", "rows"])
    (G_check_limit : FnOk P w K mg base (CX P w) 2 f_check_limit fd_check_limit ["size", "loops"] (spCheck C)) (G_code_with : FnOk P w K mg base CX0 1 f_code_with fd_code_with ["number", "bits"] (spCodeWith K)) (G_web_of_code : FnOk P w K mg base CX0 2 f_web_of_code fd_web_of_code ["size", "code"] (spOfCode K)) (G_is_least : FnOk P w K mg base CX0 3 f_is_least fd_is_least ["web", "rows"] (spLeast K)) :
    GFn P w K mg base 5 f fd ["size", "loops"] (spWebs K C) := by
  have GR : GFn P w K mg base 1 f_ren fd_ren ["size"] (spRenG K) := gfn_ren B C_ren.F
  have G_bit_of : FnOk P w K mg base CX0 1 f_bit_of fd_bit_of ["first", "second"] spBit := ok_bit_of B C_bit_of.F
  obtain ⟨⟨oc, od, kV, doc, pm, an, cdv, ct, osl, rfl, lk, hcd⟩, kp⟩ := F
  refine gfn_of (N := N_all_webs) (k := 4) lk hcd sc_all_webs (fun vs H Q E h => ?_) (fun A outer s H vs Q E pn hr h => ?_)
  · obtain ⟨n, lp, rfl, _⟩ := h
    rfl
  · obtain ⟨n, lp, rfl, q, qe⟩ := h
    refine ⟨_, gss_cons (gs_ps (ps_expr (pe_call G_check_limit (hr.mono (by decide)) (by rfl) C_check_limit.g C_check_limit.F.kp C_check_limit.b .nil (passes_call takes_gcx (fun _ _ _ _ h => h)) (pa_cons (pv 0) (pa_cons (pv 1) pa_nil)))))
      (gss_cons (gs_ps (ps_set (i := 2) sc_all_webs.nd rfl (Or.inl rfl) (pe_listG (E := fun _ _ _ => False) (pgen_call GR (hr.mono (by decide)) (by rfl) C_ren.g C_ren.F.kp C_ren.b .nil (pa_cons (pv 0) pa_nil)) (passes_call takes_gcx (fun _ _ _ _ h => h.elim)) (fun _ _ _ h => h.elim) hr (by rfl) B.list (by decide +kernel))))
      (gss_cons (gs_ps (ps_setLc2 (i := 3) (own := [("second", 6), ("first", 7)]) (vs1 := [7]) rfl sc_all_webs.nd rfl rfl (sw_true rfl rfl rfl (by decide +kernel)) (pi_range1 (by rfl) B.range (pa_cons (pv 0) pa_nil)) (blkOk_by (own := [("second", 6), ("first", 7)]) (N := N_all_webs) (sc := defScope s_all_webs) (by decide +kernel)) (by decide) (fun _ _ _ _ _ => (pg_name (i := 6) sc_all_webs.nd rfl (Or.inl rfl))) (fun _ _ _ _ _ => pts_nil) (fun _ _ _ _ _ => (pi_range1 (by rfl) B.range (pa_cons (pe_op op_add (pv 6) pe_int) pa_nil))) (fun _ _ _ _ _ => (pg_name (i := 7) sc_all_webs.nd rfl (Or.inl rfl))) (fun _ _ _ _ _ => (pts_one (PW.pt (pw_or (pt_val (pv 1)) (pw_or1 (pt_cmpR op_lt (pv 7) (pv 6) (nomark _))))))) (fun _ _ _ _ _ => (pe_call G_bit_of (hr.mono (by decide)) (by rfl) C_bit_of.g C_bit_of.F.kp C_bit_of.b .nil pass0 (pa_cons (pv 7) (pa_cons (pv 6) pa_nil))))))
      (gss_cons (GF.gs_for owns_gcx rfl (pi_range1 (by rfl) B.range (pa_cons (pe_op op_oneShl pe_int (pe_callB call_len_seq (by rfl) B.len (by decide +kernel) (pa_cons (pv 3) pa_nil))) pa_nil)) (pg_name (i := 4) sc_all_webs.nd rfl (Or.inl rfl))
        (gss_cons (gs_ps (ps_set (i := 5) sc_all_webs.nd rfl (Or.inl rfl) (pe_call G_web_of_code (hr.mono (by decide)) (by rfl) C_web_of_code.g C_web_of_code.F.kp C_web_of_code.b .nil pass0 (pa_cons (pv 0) (pa_cons (pe_call G_code_with (hr.mono (by decide)) (by rfl) C_code_with.g C_code_with.F.kp C_code_with.b .nil pass0 (pa_cons (pv 4) (pa_cons (pv 3) pa_nil))) pa_nil)))))
        (gss_cons (GF.gs_if (pt_val (pe_call G_is_least (hr.mono (by decide)) (by rfl) C_is_least.g C_is_least.F.kp C_is_least.b .nil pass0 (pa_cons (pv 5) (pa_cons (pv 2) pa_nil)))) (gss_cons (gs_yield (pv 5)) gss_nil) gss_nil) gss_nil))) gss_nil))), ?_⟩
    refine ⟨_, rfl, .bl lp, rfl, n, lp, rfl, fun hn => ?_, qe⟩
    have q := q hn
    have hn4 : n ≤ 4 := Nat.le_trans hn (lim_le lp)
    -- rows
    refine ⟨_, rfl, n, rfl, by omega, fun H1 rws s1 hrws R nR => ?_⟩
    have s2 : Same H (upd H1 R (.lst rws)) := s1.to nR
    have hR : (upd H1 R (.lst rws)) R = some (.lst rws) := upd_same
    have hrw2 : DpAll K (upd H1 R (.lst rws)) rws ((perms n).map pdR) := hrws.same (Same.put nR)
    generalize upd H1 R (.lst rws) = H2 at s2 hR hrw2
    -- bits
    refine ⟨_, rfl, (n : Int), rfl, by omega, by omega, fun D nD => ?_⟩
    refine lcD2 (K := K) (n := n) (G := fun _ => True) (Z := fun i x => x = V.int ((0 : Int) + i)) (walk_range (lo := 0) (n := n)) (fun i => i + 1) (fun _ => 0)
      (fun i j => (bitsTo lp i j).map iN) nD rfl (fun i hi => ?_) (fun _ _ => trivial) (fun i j => noLs_map (fun _ => rfl) _) (fun i j hi hj => ?_) (fun i x H3 Rk hi zx s3 k => ?_) (fun x => rfl) (fun x y => rfl) (fun i x j H3 ky kn hi zx hj s3 fy fn => ?_) (fun H3 bs s3 hD hbs => ?_)
    · show (bitsTo lp (i + 1) 0).map iN = (bitsTo lp i (i + 1)).map iN
      unfold bitsTo
      rw [range_flatMap, show bitRow lp (i + 1) 0 = [] from rfl, List.append_nil]
    · rw [List.length_map]
      have h1 := bitsTo_len lp i j
      have h2 : i * (i + 1) ≤ 5 * 6 := Nat.mul_le_mul (by omega) (by omega)
      exact line_lt (by omega)
    · subst zx
      refine ⟨_, rfl, _, _, rfl, rfl, (i : Int) + 1, ?_, by omega, by omega, ?_⟩
      · show [V.int ((0 : Int) + i + 1)] = _
        rw [Int.zero_add]
      · rw [show ((i : Int) + 1).toNat = i + 1 by omega]
        exact k
    · subst zx
      have e1 : bitsTo lp i (j + 1) = bitsTo lp i j ++ (if (lp || decide (j < i)) = true then [bitOf j i] else []) := by
        unfold bitsTo
        rw [bitRow_snoc, List.append_assoc]
      have yes : (lp || decide (j < i)) = true → tCall spBit [] E0 (tCons (tVar 7) (tCons (tVar 6) tNil)) [some (vN n), some (.bl lp), some (.ref R), none, none, none, some (V.int ((0 : Int) + i)), some (V.int ((0 : Int) + j))] H3 ky := fun hb => by
        refine ⟨_, rfl, _, rfl, j, i, ?_, by omega, by omega, fy _ _ (iN (bitOf j i)) (Same.refl _) (.int _) ?_⟩
        · show [V.int ((0 : Int) + j), V.int ((0 : Int) + i)] = _
          rw [Int.zero_add, Int.zero_add]
        · rw [e1, if_pos hb, List.map_append]
          rfl
      have no : ¬ (lp || decide (j < i)) = true → kn H3 := fun hb => fn H3 (Same.refl _) (by rw [e1, if_neg hb, List.append_nil])
      cases lp with
      | true => exact ⟨_, rfl, _, rfl, iteT (iteT (yes rfl))⟩
      | false =>
        refine ⟨_, rfl, _, rfl, iteF ⟨_, rfl, _, rfl, _, _, rfl, rfl, _, rfl, ?_⟩⟩
        refine ite2 (fun e => ?_) (fun e => ?_)
        · refine yes ?_
          have z : ((0 : Int) + j) < (0 : Int) + i := of_decide_eq_true e
          rw [decide_eq_true (show j < i by omega)]
          rfl
        · refine no fun z => e ?_
          have z1 : j < i := by simpa using z
          exact decide_eq_true (by show ((0 : Int) + j) < (0 : Int) + i; omega)
    · have eb : bitsTo lp n 0 = bits lp n := by
        unfold bitsTo bits
        rw [show bitRow lp n 0 = [] from rfl, List.append_nil]
      rw [eb] at hbs
      have ebs := hbs.nats
      subst ebs
      have s4 : Same H H3 := s2.trans s3
      have hR3 := s3 _ _ hR
      have hrw3 := hrw2.same s3
      have hb10 := bits_len hn
      have hM : 2 ^ (bits lp n).length ≤ 2 ^ 10 := Nat.pow_le_pow_right (by decide) hb10
      refine ⟨.ref D, rfl, D, _, rfl, .inl (.of hD), (bits lp n).length, rfl, by rw [List.length_map], by omega, ((2 ^ (bits lp n).length : Nat) : Int), ?_, Int.le_trans (by decide : -(2 ^ 62 : Int) ≤ 0) (Int.natCast_nonneg _), Int.lt_of_le_of_lt (Int.ofNat_le.mpr hM) (by decide), ?_⟩
      · show [V.int (2 ^ (bits lp n).length)] = _
        rw [Int.natCast_pow]
        rfl
      rw [Int.toNat_natCast]
      refine ⟨fun i m out σ H' => m = 2 ^ (bits lp n).length - i ∧ i ≤ 2 ^ (bits lp n).length ∧ (∃ y4 y5 y6 y7, σ = [some (vN n), some (.bl lp), some (.ref R), some (.ref D), y4, y5, y6, y7]) ∧ Same H3 H' ∧ DpAll K H' out ((websTo lp n i).map pdW), ⟨_, rfl, Nat.zero_le _, ⟨_, _, _, _, rfl⟩, Same.refl _, .nil⟩, fun i m out σ H4 hW => ?_⟩
      obtain ⟨rfl, hi, ⟨y4, y5, y6, y7, rfl⟩, s5, hout⟩ := hW
      by_cases hlt : i < 2 ^ (bits lp n).length
      · refine .inr ⟨hlt, fun out σ H' => (∃ y4 y5 y6 y7, σ = [some (vN n), some (.bl lp), some (.ref R), some (.ref D), y4, y5, y6, y7]) ∧ Same H3 H' ∧ DpAll K H' out ((websTo lp n (i + 1)).map pdW), fun out σ H' h => ⟨2 ^ (bits lp n).length - (i + 1), by omega, rfl, hlt, h⟩, fun x H' yy => ?_⟩
        obtain ⟨rfl, rfl⟩ := yy
        refine ⟨_, rfl, _, rfl, _, rfl, i, D, bits lp n, ?_, .of (s5 _ _ hD), fun b hb => mem_bits_lt (by omega) hb, fun H5 s6 => ?_⟩
        · show [V.int ((0 : Int) + i), .ref D] = _
          rw [Int.zero_add]
        refine ⟨n, _, rfl, by omega, code_ok hn hlt, fun H6 v s7 hv => ?_⟩
        have s8 := (s5.trans s6).trans s7
        have hout6 := (hout.same s6).same s7
        refine ⟨v, rfl, .ref R, rfl, v, R, rws, webAt lp n i, perms n, rfl, hv, .of (s8 _ _ hR3), hrw3.same s8, fun e he => ?_, perms_rows (by omega) (webOfCode_below _ _), _, rfl, ite2 (fun e => ?_) (fun e => ?_)⟩
        · have := webOfCode_below n _ e he
          exact ⟨by omega, by omega⟩
        · refine ⟨?_, v, rfl, ⟨_, _, _, _, rfl⟩, s8, ?_⟩
          · rw [hout.len, List.length_map]
            have := websTo_len lp n i
            exact line_lt (by omega)
          · rw [websTo_snoc, if_pos e, List.map_append]
            exact hout6.append (.one hv)
        · refine ⟨⟨_, _, _, _, rfl⟩, s8, ?_⟩
          rw [websTo_snoc, if_neg e, List.append_nil]
          exact hout6
      · have ei : i = 2 ^ (bits lp n).length := by omega
        subst ei
        exact .inl ⟨Nat.le_refl _, q _ _ (s4.trans s5) hout⟩
end
end Wb
-- WK
set_option Elab.async false
set_option linter.all false
set_option maxRecDepth 100000
set_option maxHeartbeats 4000000
/-! catalogue -/
namespace Wb
open PySem PySem.Spec PyProof.Rows L2
theorem allWebs_len {lp : Bool} {n : Nat} (hn : n ≤ lim lp) : (allWebs lp n).length ≤ 1024 :=
  Nat.le_trans (websTo_len lp n _) (Nat.le_trans (Nat.pow_le_pow_right (by decide) (bits_len hn)) (by decide))
theorem catTo_len {lp : Bool} {i : Nat} (hi : i ≤ lim lp + 1) : (catTo lp i).length ≤ i * 1024 := by
  have := flatMap_len (allWebs lp) 1024 (List.range i) fun x hx => allWebs_len (by have := List.mem_range.mp hx; omega)
  rw [List.length_range] at this
  exact this
section
variable {P : Program} {w : World} {K : PySem.W.Frag} {mg : Str → Option Value} {base : Heap} {C fI f f_check_limit f_webs : Addr} {fd fd_check_limit fd_webs : FuncData}
def spCat (K : PySem.W.Frag) (C : Addr) : Sp := fun vs H Q E => ∃ (n : Nat) (lp : Bool), vs = [vN n, .bl lp] ∧ (n ≤ lim lp → ∀ H' p ys, Same H H' → H p = none → H' p = some (.lst ys) → DpAll K H' ys ((cat lp n).map pdW) → Q (.ref p) H') ∧ (¬ n ≤ lim lp → Lim C (lim lp) H E)
/-- a def of one parameter and the keyword loops -/
theorem kbn_loops {x : Str} {st : Stmt} {p : Str} (F : Fun K x x st f fd) (h : ∀ (kV doc pm : Value) (an : Option Addr) (cdv ct u v : Value), bindArgs (PySem.W.fnOf x x (defArgs st) (defBody st) (defScope st) .none kV doc pm an cdv ct) ⟨[u], [(("loops" : Str), v)]⟩ = pure [(p, u), (("loops" : Str), v)]) :
    KBn K fd [p, "loops"] 1 ["loops"] (fun us ws => us ++ ws) (fun vs zs => vs ++ zs) := by
  obtain ⟨⟨oc, od, kV, doc, pm, an, cdv, ct, osl, rfl, lk, hcd⟩, kp⟩ := F
  refine ⟨fun s us ws _ l1 l2 => ?_, fun r1 r2 => r1.append r2⟩
  match us, ws, l1, l2 with
  | [u], [v], _, _ => exact .of_eq (h kV doc pm an cdv ct u v)
theorem kbn_webs (F : Fun K "all_webs" "all_webs" s_all_webs f fd) : KBn K fd ["size", "loops"] 1 ["loops"] (fun us ws => us ++ ws) (fun vs zs => vs ++ zs) := kbn_loops F fun _ _ _ _ _ _ _ _ => rfl
theorem kbn_cat (F : Fun K "catalogue" "catalogue" s_catalogue f fd) : KBn K fd ["limit", "loops"] 1 ["loops"] (fun us ws => us ++ ws) (fun vs zs => vs ++ zs) := kbn_loops F fun _ _ _ _ _ _ _ _ => rfl
theorem ok_catalogue (B : Bt mg) (F : Fun K "catalogue" "catalogue" s_catalogue f fd) (C_check_limit : Cal K mg "check_limit" "check_limit" s_check_limit f_check_limit fd_check_limit ["size", "loops"]) (FW : Fun K "all_webs" "all_webs" s_all_webs f_webs fd_webs) (gW : mg "all_webs" = some (.ref f_webs))
    (G_check_limit : FnOk P w K mg base (CX P w) 2 f_check_limit fd_check_limit ["size", "loops"] (spCheck C)) (GW : GFn P w K mg base 5 f_webs fd_webs ["size", "loops"] (spWebs K C)) : FnOk P w K mg base (CX P w) 9 f fd ["limit", "loops"] (spCat K C) := by
  refine F.okX sc_catalogue (fun vs H Q E h => ?_) (fun cdv A outer s H vs Q E hr h => ?_)
  · obtain ⟨n, lp, rfl, _⟩ := h
    rfl
  · obtain ⟨n, lp, rfl, q, qe⟩ := h
    refine ⟨_, (pss_cons (ps_expr (pe_call G_check_limit (hr.mono (by decide)) (by rfl) C_check_limit.g C_check_limit.F.kp C_check_limit.b .nil (passes_call (takes_of rfl rfl rfl rfl) (fun _ _ _ _ h => h)) (pa_cons (pv 0) (pa_cons (pv 1) pa_nil))))
      (pss_cons (ps_set (i := 2) sc_catalogue.nd rfl (Or.inl rfl) (pe_lst pa_nil))
      (pss_cons (ps_for (passes_of rfl) rfl (pi_range1 (by rfl) B.range (pa_cons (pe_op op_add (pv 0) pe_int) pa_nil)) (pg_name (i := 3) sc_catalogue.nd rfl (Or.inl rfl)) 
        (pss_one (ps_expr (pe_bm PySem.F.plainAttrs_list PySem.F.slot_list_extend PySem.F.type_list_extend mt_extend (pv 2) (pa_cons (pe_listG (E := fun _ _ _ => False) (GF.pgen_callN GW (hr.mono (by decide)) (by rfl) gW FW.kp (kbn_webs FW) (pa_cons (pv 3) pa_nil) (pk_cons (pv 1) pk_nil)) (passes_call (takes_of rfl rfl rfl rfl) (fun _ _ _ _ h => h.elim)) (fun _ _ _ h => h.elim) hr (by rfl) B.list (by decide +kernel)) pa_nil)))))
      (pss_one (ps_ret (pv 2)))))), ?_⟩
    refine ⟨_, rfl, .bl lp, rfl, n, lp, rfl, fun hn => ?_, qe⟩
    have q := q hn
    have hn4 : n ≤ 4 := Nat.le_trans hn (lim_le lp)
    refine ⟨Nat.zero_le _, fun o no => ?_⟩
    refine ⟨_, rfl, _, _, rfl, rfl, (n : Int) + 1, rfl, by omega, by omega, ?_⟩
    rw [show ((n : Int) + 1).toNat = n + 1 by omega]
    refine for_range (lo := 0) (n := n + 1) (fun i σ H' => ∃ y3 vs, σ = [some (vN n), some (.bl lp), some (.ref o), y3] ∧ Same H H' ∧ H' o = some (.lst vs) ∧ DpAll K H' vs ((catTo lp i).map pdW)) ⟨_, [], rfl, Same.put no, upd_same, .nil⟩ (fun i σ H' hi h => ?_) (fun σ H' h => ?_)
    · obtain ⟨y3, vs, rfl, sm, ho, hvs⟩ := h
      rw [Int.zero_add]
      have hil : i ≤ lim lp := by omega
      refine ⟨.ref o, rfl, .inl ⟨rfl, _, .inl (.inl ho)⟩, _, rfl, .bl lp, rfl, rfl, rfl, i, lp, rfl, fun _ H1 ys s1 hys b nb => ?_, fun z => absurd hil z⟩
      have s2 : Same H1 (upd H1 b (.lst ys)) := Same.put nb
      have ho2 := s2 _ _ (s1 _ _ ho)
      refine ⟨o, b, vs, ys, rfl, rfl, ho2, upd_same, ?_, _, _, rfl, ((sm.trans s1).trans s2).over no, upd_same, ?_⟩
      · have h1 := hvs.len
        have h2 := hys.len
        rw [List.length_map] at h1 h2
        have h3 := catTo_len (lp := lp) (i := i) (by omega)
        have h4 := allWebs_len hil
        have h5 : i * 1024 ≤ 4 * 1024 := Nat.mul_le_mul_right _ (by omega)
        exact line_le (by omega)
      · rw [show catTo lp (i + 1) = catTo lp i ++ allWebs lp i from range_flatMap _ i, List.map_append]
        refine DpAll.putL ho2 ?_ (((hvs.same s1).same s2).append (hys.same s2))
        rw [← List.map_append]
        exact noLs_map noL_w _
    · obtain ⟨y3, vs, rfl, sm, ho, hvs⟩ := h
      exact ⟨.ref o, rfl, q H' o vs sm no ho hvs⟩
end
end Wb
-- WL
set_option Elab.async false
set_option linter.all false
set_option maxRecDepth 100000
set_option maxHeartbeats 4000000
/-! _law_asked -/
namespace Wb
open PySem PySem.Spec PyProof.Rows L2
/-- isinstance(e, c) of the error that the suite holds -/
def rIsX (K : PySem.W.Frag) (D a : Addr) (cls : Value) (d : Option Addr) : List V → Hp → VK → Prop := fun xs H Q => cls = .ref D ∧ ∃ dd, d = some dd ∧ rIsTl K D a dd xs H Q
theorem call_isX {X : Cx} {a D : Addr} {cls : Value} {d : Option Addr} {oe : Obj} {pn : List (Addr × Obj)} (C : ExcC X.K D) (hz : Zc cls d oe) (hf : ∃ vs, oe.data = .fields vs) : CallR (X.suite a ((a, oe) :: pn)) (.builtin "isinstance") (rIsX X.K D a cls d) := by
  intro pins s σ H xs us Q I r h
  obtain ⟨rfl, dd, rfl, h⟩ := h
  exact call_isTl C hz hf pins s σ H xs us Q I r h
/-- what the errors' classes are to each other -/
structure ErrT (K : PySem.W.Frag) (mg : Str → Option Value) (C W U N : Addr) : Prop where
  gW : mg "WebError" = some (.ref W)
  gU : mg "UnfitWeb" = some (.ref U)
  gN : mg "NoResult" = some (.ref N)
  exm : PySem.W.exmOne K (.ref C) (.ref W) = some true
  kC : PySem.W.kitOne K (.ref C) (.ref C) = some true
  kU : PySem.W.kitOne K (.ref C) (.ref U) = some false
  kN : PySem.W.kitOne K (.ref C) (.ref N) = some false
  stop : PySem.W.subIn K (.ref C) (.type "StopIteration") = some false
  exc : ExcC K C
/-- what a call within the try may let out -/
def EW (C : Addr) (W : WX) : XK := fun cls d H => cls = .ref C ∧ ∀ σ : L2.St, σ.length = 5 → W cls d σ H
theorem passEW {X : Cx} {C : Addr} {W : WX} (tk : Takes X W) (hN : X.N.length = 5) : Passes (CX X.prog X.w) X (EW C W) :=
  fun pins σ H s e s' I c => tk e s' (XE.of_call I (fun cls d H' h => h.2 σ (I.len.trans hN)) c)
theorem stopEW {K : PySem.W.Frag} {mg : Str → Option Value} {C W U N : Addr} (ET : ErrT K mg C W U N) {V0 : WX} : NoStop K (EW C V0) := fun cls d H h => by
  obtain ⟨rfl, _⟩ := h
  exact ET.stop
def listed (what : Str) (lp : Bool) (n : Nat) : List (Nat × Es) := if what = "all webs" then allWebs lp n else cat lp n
section
variable {P : Program} {w : World} {K : PySem.W.Frag} {mg : Str → Option Value} {base : Heap} {C fI W U N f f_cat f_webs : Addr} {fd fd_cat fd_webs : FuncData} {ds : List Value}
def spAsked (K : PySem.W.Frag) : Sp := fun vs H Q _ => ∃ (what : Str) (n : Nat) (lp : Bool), vs = [.str what, vN n, .bl lp] ∧ (what = "catalogue" ∨ (what = "plain" ∧ lp = false) ∨ what = "all webs") ∧
  (n ≤ lim lp → ∀ H' v p ys, Same H H' → H' v = some (.tup [.str "told", .ref p]) → H p = none → H' p = some (.lst ys) → DpAll K H' ys ((listed what lp n).map pdW) → Q (.ref v) H') ∧
  (¬ n ≤ lim lp → ∀ H' v, Same H H' → H' v = some (.tup [.str "too large", vN (lim lp)]) → Q (.ref v) H')
theorem ok_asked (B : Bt mg) (T : TL.TlTxt P K mg C fI) (ET : ErrT K mg C W U N) (F : Fun K "_law_asked" "_law_asked" s_law_asked f fd) (FC : Fun K "catalogue" "catalogue" s_catalogue f_cat fd_cat) (gC : mg "catalogue" = some (.ref f_cat)) (FW : Fun K "all_webs" "all_webs" s_all_webs f_webs fd_webs) (gW : mg "all_webs" = some (.ref f_webs))
    (vd : Vals [.bl false] ds) (bC : Binds K fd_cat ["limit", "loops"] ds) (bW : Binds K fd_webs ["size", "loops"] ds) (GC : FnOk P w K mg base (CX P w) 9 f_cat fd_cat ["limit", "loops"] (spCat K C)) (GW : GFn P w K mg base 5 f_webs fd_webs ["size", "loops"] (spWebs K C)) : FnOk P w K mg base CX0 10 f fd ["_law_what", "_law_number", "_law_looped"] (spAsked K) := by
  refine F.ok sc_law_asked (fun vs H Q E h => ?_) (fun cdv A outer s H vs Q E hr h => ?_)
  · obtain ⟨what, n, lp, rfl, _⟩ := h
    rfl
  · obtain ⟨what, n, lp, rfl, hw, q, qe⟩ := h
    have hr8 : Room 8 _ := hr.mono (by decide)
    refine ⟨_, pss_cons (ps_try_as (i := 4) (Wout := fun _ _ _ _ => False) rfl rfl sc_law_asked.nd rfl rfl ⟨rfl, by decide, Or.inl ET.gW⟩ takes0
        (fun W pn xe tk _ => (pss_one (ps_if (pt_cmpR op_eq (pv 0) pe_str (nomark _))
          (pss_one (ps_if (pt_val (pv 2))
            (pss_one (ps_set (i := 3) sc_law_asked.nd rfl (Or.inl rfl) (pe_callN (E := EW C W) GC hr (by rfl) gC FC.kp (kbn_cat FC) (passEW tk rfl) (pa_cons (pv 1) pa_nil) (pk_cons pe_bl pk_nil))))
            (pss_one (ps_set (i := 3) sc_law_asked.nd rfl (Or.inl rfl) (pe_call (E := EW C W) GC hr (by rfl) gC FC.kp bC vd (passEW tk rfl) (pa_cons (pv 1) pa_nil))))))
          (pss_one (ps_if (pt_cmpR op_eq (pv 0) pe_str (nomark _))
            (pss_one (ps_set (i := 3) sc_law_asked.nd rfl (Or.inl rfl) (pe_callN (E := EW C W) GC hr (by rfl) gC FC.kp (kbn_cat FC) (passEW tk rfl) (pa_cons (pv 1) pa_nil) (pk_cons pe_bl pk_nil))))
            (pss_one (ps_if (pt_val (pv 2))
              (pss_one (ps_set (i := 3) sc_law_asked.nd rfl (Or.inl rfl) (pe_listG (E := EW C W) (GF.pgen_callN GW (hr.mono (by decide)) (by rfl) gW FW.kp (kbn_webs FW) (pa_cons (pv 1) pa_nil) (pk_cons pe_bl pk_nil)) (passEW tk rfl) (stopEW ET) hr8 (by rfl) B.list (by decide +kernel))))
              (pss_one (ps_set (i := 3) sc_law_asked.nd rfl (Or.inl rfl) (pe_listG (E := EW C W) (pgen_call GW (hr.mono (by decide)) (by rfl) gW FW.kp bW vd (pa_cons (pv 1) pa_nil)) (passEW tk rfl) (stopEW ET) hr8 (by rfl) B.list (by decide +kernel)))))))))))
        (fun a oe cls d pn hz hf => (pss_cons (ps_if (PW.pt (pw_and (pt_val (pe_callB (call_isX ET.exc hz hf) (by rfl) B.isinstance (by decide +kernel) (pa_cons (pv 4) (pa_cons (pe_glob (v := .ref C) rfl T.gC rfl) pa_nil)))) (pw_and (pt_not (pt_val (pe_callB (call_isX ET.exc hz hf) (by rfl) B.isinstance (by decide +kernel) (pa_cons (pv 4) (pa_cons (pe_glob (v := .ref U) rfl ET.gU rfl) pa_nil))))) (pw_and1 (pt_not (pt_val (pe_callB (call_isX ET.exc hz hf) (by rfl) B.isinstance (by decide +kernel) (pa_cons (pv 4) (pa_cons (pe_glob (v := .ref N) rfl ET.gN rfl) pa_nil)))))))))
            (pss_one (ps_ret (pe_tup (pa_cons pe_str (pa_cons (pe_limit T hz hf (pv 4)) pa_nil))))) pss_nil)
          (pss_one (ps_ret (pe_tup (pa_cons pe_str (pa_cons pe_int pa_nil))))))))
      (pss_one (ps_ret (pe_tup (pa_cons pe_str (pa_cons (pv 3) pa_nil))))), ?_⟩
    have told : ∀ (H1 : Hp) (p : Addr) (ys : List V) (y4 : Option V), n ≤ lim lp → Same H H1 → H p = none → H1 p = some (.lst ys) → DpAll K H1 ys ((listed what lp n).map pdW) →
        tRet (tTup (tCons (tC (.str "told")) (tCons (tVar 3) tNil))) { nx := fun _ H' => Q .non H', rt := Q } [some (.str what), some (vN n), some (.bl lp), some (.ref p), y4] H1 := fun H1 p ys y4 hn s1 np hp hys => by
      refine ⟨.ref p, rfl, by show 2 ≤ sizeLine; decide, fun v nv => ?_⟩
      have s2 := Same.put (o := .tup [.str "told", .ref p]) nv
      exact q hn _ v p ys (s1.trans s2) upd_same np (s2 _ _ hp) (hys.same s2)
    rcases hw with rfl | ⟨rfl, rfl⟩ | rfl
    · refine ⟨_, rfl, rfl, _, rfl, ?_⟩
      rw [decide_eq_true rfl]
      refine iteT ⟨_, rfl, _, rfl, ?_⟩
      cases lp with
      | true =>
        refine iteT ⟨_, rfl, rfl, rfl, n, true, rfl, fun hn H1 p ys s1 np hp hys => told H1 p ys none hn s1 np hp hys, fun hn H1 d s1 nd hd => ?_⟩
        refine ⟨rfl, fun σ hσ => ⟨true, ET.exm, fun _ a na => ?_, fun z => nomatch z⟩⟩
        have ge : (σ.set 4 (some (.ref a)))[4]? = some (some (.ref a)) := List.getElem?_set_self (by omega)
        refine ⟨.ref a, ge, rfl, d, rfl, .ref C, .ref C, true, vN (lim true), rfl, fun u h => h, ET.kC, hd, true, rfl, iteT ?_⟩
        refine ⟨.ref a, ge, rfl, d, rfl, .ref U, .ref U, false, vN (lim true), rfl, fun u h => h, ET.kU, hd, false, rfl, iteT ?_⟩
        refine ⟨.ref a, ge, rfl, d, rfl, .ref N, .ref N, false, vN (lim true), rfl, fun u h => h, ET.kN, hd, false, rfl, iteT ?_⟩
        refine ⟨.ref a, ge, rfl, rfl, d, vN (lim true), rfl, hd, by show 2 ≤ sizeLine; decide, fun v nv => ?_⟩
        exact qe hn _ v (s1.trans (Same.put nv)) upd_same
      | false =>
        refine iteF ⟨_, rfl, n, false, rfl, fun hn H1 p ys s1 np hp hys => told H1 p ys none hn s1 np hp hys, fun hn H1 d s1 nd hd => ?_⟩
        refine ⟨rfl, fun σ hσ => ⟨true, ET.exm, fun _ a na => ?_, fun z => nomatch z⟩⟩
        have ge : (σ.set 4 (some (.ref a)))[4]? = some (some (.ref a)) := List.getElem?_set_self (by omega)
        refine ⟨.ref a, ge, rfl, d, rfl, .ref C, .ref C, true, vN (lim false), rfl, fun u h => h, ET.kC, hd, true, rfl, iteT ?_⟩
        refine ⟨.ref a, ge, rfl, d, rfl, .ref U, .ref U, false, vN (lim false), rfl, fun u h => h, ET.kU, hd, false, rfl, iteT ?_⟩
        refine ⟨.ref a, ge, rfl, d, rfl, .ref N, .ref N, false, vN (lim false), rfl, fun u h => h, ET.kN, hd, false, rfl, iteT ?_⟩
        refine ⟨.ref a, ge, rfl, rfl, d, vN (lim false), rfl, hd, by show 2 ≤ sizeLine; decide, fun v nv => ?_⟩
        exact qe hn _ v (s1.trans (Same.put nv)) upd_same
    · refine ⟨_, rfl, rfl, _, rfl, ?_⟩
      rw [decide_eq_false (fun z => absurd (V.str.inj z) (by decide))]
      refine iteF ⟨_, rfl, rfl, _, rfl, ?_⟩
      rw [decide_eq_true rfl]
      refine iteT ⟨_, rfl, rfl, rfl, n, false, rfl, fun hn H1 p ys s1 np hp hys => told H1 p ys none hn s1 np hp hys, fun hn H1 d s1 nd hd => ?_⟩
      refine ⟨rfl, fun σ hσ => ⟨true, ET.exm, fun _ a na => ?_, fun z => nomatch z⟩⟩
      have ge : (σ.set 4 (some (.ref a)))[4]? = some (some (.ref a)) := List.getElem?_set_self (by omega)
      refine ⟨.ref a, ge, rfl, d, rfl, .ref C, .ref C, true, vN (lim false), rfl, fun u h => h, ET.kC, hd, true, rfl, iteT ?_⟩
      refine ⟨.ref a, ge, rfl, d, rfl, .ref U, .ref U, false, vN (lim false), rfl, fun u h => h, ET.kU, hd, false, rfl, iteT ?_⟩
      refine ⟨.ref a, ge, rfl, d, rfl, .ref N, .ref N, false, vN (lim false), rfl, fun u h => h, ET.kN, hd, false, rfl, iteT ?_⟩
      refine ⟨.ref a, ge, rfl, rfl, d, vN (lim false), rfl, hd, by show 2 ≤ sizeLine; decide, fun v nv => ?_⟩
      exact qe hn _ v (s1.trans (Same.put nv)) upd_same
    · refine ⟨_, rfl, rfl, _, rfl, ?_⟩
      rw [decide_eq_false (fun z => absurd (V.str.inj z) (by decide))]
      refine iteF ⟨_, rfl, rfl, _, rfl, ?_⟩
      rw [decide_eq_false (fun z => absurd (V.str.inj z) (by decide))]
      refine iteF ⟨_, rfl, _, rfl, ?_⟩
      cases lp with
      | true =>
        refine iteT ⟨_, rfl, rfl, rfl, n, true, rfl, fun hn H1 ys s1 hys p np => told _ p ys none hn (s1.to np) (s1.free np) upd_same (hys.same (Same.put np)), fun hn H1 d s1 nd hd => ?_⟩
        refine ⟨rfl, fun σ hσ => ⟨true, ET.exm, fun _ a na => ?_, fun z => nomatch z⟩⟩
        have ge : (σ.set 4 (some (.ref a)))[4]? = some (some (.ref a)) := List.getElem?_set_self (by omega)
        refine ⟨.ref a, ge, rfl, d, rfl, .ref C, .ref C, true, vN (lim true), rfl, fun u h => h, ET.kC, hd, true, rfl, iteT ?_⟩
        refine ⟨.ref a, ge, rfl, d, rfl, .ref U, .ref U, false, vN (lim true), rfl, fun u h => h, ET.kU, hd, false, rfl, iteT ?_⟩
        refine ⟨.ref a, ge, rfl, d, rfl, .ref N, .ref N, false, vN (lim true), rfl, fun u h => h, ET.kN, hd, false, rfl, iteT ?_⟩
        refine ⟨.ref a, ge, rfl, rfl, d, vN (lim true), rfl, hd, by show 2 ≤ sizeLine; decide, fun v nv => ?_⟩
        exact qe hn _ v (s1.trans (Same.put nv)) upd_same
      | false =>
        refine iteF ⟨_, rfl, n, false, rfl, fun hn H1 ys s1 hys p np => told _ p ys none hn (s1.to np) (s1.free np) upd_same (hys.same (Same.put np)), fun hn H1 d s1 nd hd => ?_⟩
        refine ⟨rfl, fun σ hσ => ⟨true, ET.exm, fun _ a na => ?_, fun z => nomatch z⟩⟩
        have ge : (σ.set 4 (some (.ref a)))[4]? = some (some (.ref a)) := List.getElem?_set_self (by omega)
        refine ⟨.ref a, ge, rfl, d, rfl, .ref C, .ref C, true, vN (lim false), rfl, fun u h => h, ET.kC, hd, true, rfl, iteT ?_⟩
        refine ⟨.ref a, ge, rfl, d, rfl, .ref U, .ref U, false, vN (lim false), rfl, fun u h => h, ET.kU, hd, false, rfl, iteT ?_⟩
        refine ⟨.ref a, ge, rfl, d, rfl, .ref N, .ref N, false, vN (lim false), rfl, fun u h => h, ET.kN, hd, false, rfl, iteT ?_⟩
        refine ⟨.ref a, ge, rfl, rfl, d, vN (lim false), rfl, hd, by show 2 ≤ sizeLine; decide, fun v nv => ?_⟩
        exact qe hn _ v (s1.trans (Same.put nv)) upd_same
end
end Wb
-- WM
set_option Elab.async false
set_option linter.all false
set_option maxRecDepth 100000
set_option maxHeartbeats 4000000
/-! the law's cells, draws, whole numbers -/
namespace Wb
open PySem PySem.Spec PyProof.Rows L2
section
variable {P : Program} {w : World} {K : PySem.W.Frag} {mg : Str → Option Value} {base : Heap} {f f_law_cell : Addr} {fd fd_law_cell : FuncData}
def spCell0 (K : PySem.W.Frag) : Sp := fun vs H Q _ => ∃ (a : Addr) (ns : List Int) (p : Nat), vs = [.ref a, vN p] ∧ SqL K H a (ns.map V.int) ∧ ∀ c : Nat, Q (vN c) H
theorem ok_cell (B : Bt mg) (F : Fun K "_law_cell" "_law_cell" s_law_cell f fd) : FnOk P w K mg base CX0 1 f fd ["_law_script", "_law_place"] (spCell0 K) := by
  refine F.ok sc_law_cell (fun vs H Q E h => ?_) (fun cdv A outer s H vs Q E hr h => ?_)
  · obtain ⟨a, ns, p, rfl, _⟩ := h
    rfl
  · obtain ⟨a, ns, p, rfl, hS, q⟩ := h
    refine ⟨_, (pss_cons (ps_if (pt_cmpR op_lt (pv 1) (pe_callB call_len_seq (by rfl) B.len (by decide +kernel) (pa_cons (pv 0) pa_nil)) (nomark _)) 
        (pss_one (ps_ret (pe_callB call_abs (by rfl) B.abs (by decide +kernel) (pa_cons (pe_callTy call_int1 (by rfl) B.int (by decide +kernel) (pa_cons (pe_ix ix_list (pv 0) (pv 1) (fun _ _ => rfl)) pa_nil)) pa_nil)))) pss_nil)
      (pss_one (ps_ret pe_int))), ?_⟩
    refine ⟨_, rfl, .ref a, rfl, a, _, rfl, .inl hS, _, _, rfl, rfl, _, rfl, ite2 (fun e => ?_) (fun e => ?_)⟩
    · have e1 : p < ns.length := by
        have z : (p : Int) < (((ns.map V.int).length : Nat) : Int) := of_decide_eq_true e
        rw [List.length_map] at z
        omega
      have g : (ns.map V.int)[p]? = some (.int ns[p]) := by
        rw [List.getElem?_map, List.getElem?_eq_getElem e1]
        rfl
      refine ⟨.ref a, rfl, _, rfl, a, _, _, _, rfl, rfl, hS, atI_nat g, .inl ⟨_, rfl, _, rfl, ?_⟩⟩
      have e2 : (if ns[p] < 0 then -ns[p] else ns[p]) = ((ns[p].natAbs : Nat) : Int) := by
        by_cases h : ns[p] < 0
        · rw [if_pos h]; omega
        · rw [if_neg h]; omega
      show Q (.int (if ns[p] < 0 then -ns[p] else ns[p])) H
      rw [e2]
      exact q _
    · exact q 0
/-- the numbers drawn: how many, no more is said -/
def spDraws (K : PySem.W.Frag) : Sp := fun vs H Q _ => ∃ (a : Addr) (ns : List Int) (p cnt : Nat), vs = [.ref a, vN p, vN cnt, .int 2] ∧ SqL K H a (ns.map V.int) ∧ cnt ≤ 1000 ∧ ∀ H' l (bs : List Nat), Same H H' → H l = none → H' l = some (.lst (bs.map vN)) → bs.length = cnt → Q (.ref l) H'
theorem mod2 (z : Int) : ∃ b : Nat, z % 2 = (b : Int) := ⟨(z % 2).toNat, by have := Int.emod_nonneg z (show (2 : Int) ≠ 0 by decide); omega⟩
theorem ok_draws (B : Bt mg) (F : Fun K "_law_draws" "_law_draws" s_law_draws f fd) (C_law_cell : Cal K mg "_law_cell" "_law_cell" s_law_cell f_law_cell fd_law_cell ["_law_script", "_law_place"]) (G_law_cell : FnOk P w K mg base CX0 1 f_law_cell fd_law_cell ["_law_script", "_law_place"] (spCell0 K)) :
    FnOk P w K mg base CX0 2 f fd ["_law_script", "_law_place", "_law_count", "_law_base"] (spDraws K) := by
  refine F.ok sc_law_draws (fun vs H Q E h => ?_) (fun cdv A outer s H vs Q E hr h => ?_)
  · obtain ⟨a, ns, p, cnt, rfl, _⟩ := h
    rfl
  · obtain ⟨a, ns, p, cnt, rfl, hS, hc, q⟩ := h
    refine ⟨_, (pss_cons (ps_set (i := 4) sc_law_draws.nd rfl (Or.inl rfl) (pe_call G_law_cell (hr.mono (by decide)) (by rfl) C_law_cell.g C_law_cell.F.kp C_law_cell.b .nil pass0 (pa_cons (pv 0) (pa_cons (pv 1) pa_nil))))
      (pss_cons (ps_set (i := 5) sc_law_draws.nd rfl (Or.inl rfl) (pe_lst pa_nil))
      (pss_cons (ps_if (pt_cmpR op_ge (pv 4) (pe_op op_pow pe_int pe_int) (nomark _)) 
        (pss_cons (ps_set (i := 4) sc_law_draws.nd rfl (Or.inl rfl) (pe_op op_sub (pv 4) (pe_op op_pow pe_int pe_int)))
        (pss_cons (ps_for PassesOwn.never rfl (pi_range1 (by rfl) B.range (pa_cons (pv 2) pa_nil)) (pg_name (i := 6) sc_law_draws.nd rfl (Or.inl rfl)) 
          (pss_cons (ps_expr (pe_bm PySem.F.plainAttrs_list PySem.F.slot_list_append PySem.F.type_list_append mt_append (pv 5) (pa_cons (pe_op op_mod (pe_callTy call_int1 (by rfl) B.int (by decide +kernel) (pa_cons (pv 4) pa_nil)) (pv 3)) pa_nil)))
          (pss_one (ps_set (i := 4) sc_law_draws.nd rfl (Or.inl rfl) (pe_op op_fdiv (pv 4) (pv 3))))))
        (pss_one (ps_ret (pv 5))))) pss_nil)
      (pss_cons (ps_for PassesOwn.never rfl (pi_range1 (by rfl) B.range (pa_cons (pv 2) pa_nil)) (pg_name (i := 6) sc_law_draws.nd rfl (Or.inl rfl)) 
        (pss_cons (ps_set (i := 7) sc_law_draws.nd rfl (Or.inl rfl) (pe_op op_mod (pe_callTy call_int1 (by rfl) B.int (by decide +kernel) (pa_cons (pe_op op_add (pe_op op_add (pe_op op_mul (pv 4) pe_int) (pe_op op_mul (pe_op op_add (pv 6) pe_int) pe_int)) pe_int) pa_nil)) pe_int))
        (pss_cons (ps_set (i := 7) sc_law_draws.nd rfl (Or.inl rfl) (pe_op op_mod (pe_callTy call_int1 (by rfl) B.int (by decide +kernel) (pa_cons (pe_op op_add (pe_op op_add (pe_op op_mul (pv 7) (pv 7)) (pe_op op_mul (pv 4) (pe_op op_add (pv 6) pe_int))) pe_int) pa_nil)) pe_int))
        (pss_one (ps_expr (pe_bm PySem.F.plainAttrs_list PySem.F.slot_list_append PySem.F.type_list_append mt_append (pv 5) (pa_cons (pe_op op_mod (pe_callTy call_int1 (by rfl) B.int (by decide +kernel) (pa_cons (pe_op op_fdiv (pv 7) pe_int) pa_nil)) (pv 3)) pa_nil)))))))
      (pss_one (ps_ret (pv 5))))))), ?_⟩
    refine ⟨.ref a, rfl, _, rfl, a, ns, p, rfl, hS, fun c => ?_⟩
    refine ⟨Nat.zero_le _, fun o no => ?_⟩
    refine ⟨_, rfl, _, _, rfl, rfl, ⟨by decide, by decide, by decide⟩, _, _, rfl, rfl, _, rfl, ite2 (fun e => ?_) (fun e => ?_)⟩
    · refine ⟨_, rfl, _, _, rfl, rfl, ⟨by decide, by decide, by decide⟩, _, _, rfl, rfl, ?_⟩
      refine ⟨_, rfl, (cnt : Int), rfl, by omega, by omega, ?_⟩
      rw [Int.toNat_natCast]
      refine for_range (lo := 0) (n := cnt) (fun i σ H' => ∃ z y6 y7, ∃ bs : List Nat, σ = [some (.ref a), some (vN p), some (vN cnt), some (.int 2), some (.int z), some (.ref o), y6, y7] ∧ Same H H' ∧ H' o = some (.lst (bs.map vN)) ∧ bs.length = i) ⟨_, _, _, [], rfl, Same.put no, upd_same, rfl⟩ (fun i σ H' hi h => ?_) (fun σ H' h => ?_)
      · obtain ⟨z, y6, y7, bs, rfl, sm, ho, hb⟩ := h
        obtain ⟨b, eb⟩ := mod2 z
        refine ⟨.ref o, rfl, .inl ⟨rfl, _, .inl (.inl ho)⟩, _, rfl, .inl ⟨_, rfl, _, rfl, _, _, rfl, rfl, by show (0 : Int) < 2; decide, o, _, _, rfl, rfl, ho, ?_, ?_⟩⟩
        · rw [List.length_map]
          exact line_lt (by omega)
        · refine ⟨_, rfl, _, rfl, _, _, rfl, rfl, ⟨by decide, by decide⟩, _, _, _, bs ++ [b], rfl, sm.over no, ?_, by rw [List.length_append, hb]; rfl⟩
          rw [upd_same, List.map_append]
          show some (HO.lst (_ ++ [V.int (z % 2)])) = _
          rw [eb]
          rfl
      · obtain ⟨z, y6, y7, bs, rfl, sm, ho, hb⟩ := h
        exact ⟨.ref o, rfl, q H' o bs sm no ho hb⟩
    · refine ⟨_, rfl, (cnt : Int), rfl, by omega, by omega, ?_⟩
      rw [Int.toNat_natCast]
      refine for_range (lo := 0) (n := cnt) (fun i σ H' => ∃ y6 y7, ∃ bs : List Nat, σ = [some (.ref a), some (vN p), some (vN cnt), some (.int 2), some (vN c), some (.ref o), y6, y7] ∧ Same H H' ∧ H' o = some (.lst (bs.map vN)) ∧ bs.length = i) ⟨_, _, [], rfl, Same.put no, upd_same, rfl⟩ (fun i σ H' hi h => ?_) (fun σ H' h => ?_)
      · obtain ⟨y6, y7, bs, rfl, sm, ho, hb⟩ := h
        refine ⟨_, rfl, _, _, rfl, rfl, .inr ⟨by decide, by decide⟩, _, rfl, _, _, rfl, rfl, _, _, rfl, rfl, .inr ⟨by decide, by decide⟩, _, _, rfl, rfl, _, _, rfl, rfl, .inl ⟨_, rfl, _, _, rfl, rfl, by show (0 : Int) < 2147483647; decide, ?_⟩⟩
        refine ⟨_, rfl, _, rfl, _, _, rfl, rfl, .inl ?_, _, rfl, _, rfl, _, _, rfl, rfl, _, _, rfl, rfl, .inr ?_, _, _, rfl, rfl, _, _, rfl, rfl, .inl ⟨_, rfl, _, _, rfl, rfl, by show (0 : Int) < 1000003; decide, ?_⟩⟩
        · have h1 := fun z : Int => Int.emod_nonneg z (show (2147483647 : Int) ≠ 0 by decide)
          have h2 := fun z : Int => Int.emod_lt_of_pos z (show (0 : Int) < 2147483647 by decide)
          exact ⟨Int.lt_of_lt_of_le (by decide) (h1 _), Int.lt_trans (h2 _) (by decide)⟩
        · exact ⟨by omega, by omega⟩
        refine ⟨.ref o, rfl, .inl ⟨rfl, _, .inl (.inl ho)⟩, _, rfl, _, _, rfl, rfl, ⟨by decide, by decide⟩, .inl ⟨_, rfl, _, rfl, _, _, rfl, rfl, by show (0 : Int) < 2; decide, o, _, _, rfl, rfl, ho, ?_, ?_⟩⟩
        · rw [List.length_map]
          exact line_lt (by omega)
        · obtain ⟨b, eb⟩ := mod2 _
          refine ⟨_, _, bs ++ [b], rfl, sm.over no, ?_, by rw [List.length_append, hb]; rfl⟩
          rw [upd_same, List.map_append]
          show some (HO.lst (_ ++ [V.int (_ % 2)])) = _
          rw [eb]
          rfl
      · obtain ⟨y6, y7, bs, rfl, sm, ho, hb⟩ := h
        exact ⟨.ref o, rfl, q H' o bs sm no ho hb⟩
def spIsInt : Sp := fun vs H Q _ => ∃ i : Int, vs = [.int i] ∧ Q (.bl true) H
theorem ok_is_integer (B : Bt mg) (F : Fun K "_law_is_integer" "_law_is_integer" s_law_is_integer f fd) : FnOk P w K mg base CX0 1 f fd ["_law_value"] spIsInt := by
  refine F.ok sc_law_is_integer (fun vs H Q E h => ?_) (fun cdv A outer s H vs Q E hr h => ?_)
  · obtain ⟨a, rfl, _⟩ := h
    rfl
  · obtain ⟨i, rfl, q⟩ := h
    refine ⟨_, (pss_one (ps_ret (pe_and (pe_callB call_isi (by rfl) B.isinstance (by decide +kernel) (pa_cons (pv 0) (pa_cons (pe_bltn (v := .ty "int") (u := .type "int") (by rfl) B.int (by decide +kernel) rfl) pa_nil))) (pe_one (pe_not (pe_callB call_isi (by rfl) B.isinstance (by decide +kernel) (pa_cons (pv 0) (pa_cons (pe_bltn (v := .ty "bool") (u := .type "bool") (by rfl) B.bool (by decide +kernel) rfl) pa_nil)))))))), ?_⟩
    refine ⟨_, rfl, .int i, .ty "int", .type "int", .type "int", true, rfl, .ty _, .base (.int i), kit_ty (by decide +kernel), true, rfl, iteT ?_⟩
    refine ⟨_, rfl, .int i, .ty "bool", .type "int", .type "bool", false, rfl, .ty _, .base (.int i), kit_ty (by decide +kernel), false, rfl, q⟩
end
end Wb
-- WN
set_option Elab.async false
set_option linter.all false
set_option maxRecDepth 100000
set_option maxHeartbeats 4000000
/-! the law's own web -/
namespace Wb
open PySem PySem.Spec PyProof.Rows L2
theorem sel_sub (f : Nat → Bool) : ∀ (es : Es) (i : Nat), (selGo f i es).Sublist es
  | [], _ => .slnil
  | e :: es, i => by
    unfold selGo
    split
    · exact (sel_sub f es (i + 1)).cons₂ e
    · exact (sel_sub f es (i + 1)).cons e
theorem sel_snoc (f : Nat → Bool) (es : Es) (e : Nat × Nat) : sel f (es ++ [e]) = sel f es ++ (if f es.length then [e] else []) := by
  unfold sel
  rw [selGo_snoc, Nat.zero_add]
theorem pairRow_snoc (lp : Bool) (v k : Nat) : pairRow lp v (k + 1) = pairRow lp v k ++ (if (decide (k < v) || lp) = true then [(k, v)] else []) := range_map_filter _ _ k
theorem pairs_fin : ([true, false].all fun lp => (List.range 5).all fun n => decide (pairsTo lp n).Nodup && (pairsTo lp n).all fun e => decide (e.1 < n) && decide (e.2 < n)) = true := by decide +kernel
theorem pairs_nd {lp : Bool} {n : Nat} (hn : n ≤ 4) : (pairsTo lp n).Nodup ∧ ∀ e ∈ pairsTo lp n, e.1 < n ∧ e.2 < n := by
  have h := List.all_eq_true.mp pairs_fin lp (by cases lp <;> simp)
  have h2 := List.all_eq_true.mp h n (List.mem_range.mpr (by omega))
  rw [Bool.and_eq_true] at h2
  refine ⟨of_decide_eq_true h2.1, fun e he => ?_⟩
  have h3 := List.all_eq_true.mp h2.2 e he
  rw [Bool.and_eq_true] at h3
  exact ⟨of_decide_eq_true h3.1, of_decide_eq_true h3.2⟩
theorem pairRow_len (lp : Bool) (v k : Nat) : (pairRow lp v k).length ≤ k := by
  unfold pairRow
  rw [List.length_map]
  exact Nat.le_trans (List.length_filter_le _ _) (Nat.le_of_eq List.length_range)
theorem pairsTo_len (lp : Bool) (k : Nat) : (pairsTo lp k).length ≤ k * k := by
  have := flatMap_len (fun v => pairRow lp v (v + 1)) k (List.range k) fun x hx => Nat.le_trans (pairRow_len _ _ _) (by have := List.mem_range.mp hx; omega)
  rw [List.length_range] at this
  exact this
section
variable {K : PySem.W.Frag} {H : Hp}
theorem perm_edges {xs ys : List V} (p : ys.Perm xs) : ∀ E : Es, DpAll K H xs (E.map pdE) → ∃ E' : Es, E'.Perm E ∧ DpAll K H ys (E'.map pdE) := by
  induction p with
  | nil => exact fun E h => ⟨E, .refl _, h⟩
  | cons x p ih =>
    intro E h
    cases E with
    | nil => cases h
    | cons e E =>
      cases h with
      | cons h1 h2 =>
        obtain ⟨E', p', h'⟩ := ih E h2
        exact ⟨e :: E', p'.cons e, .cons h1 h'⟩
  | swap x y l =>
    intro E h
    cases E with
    | nil => cases h
    | cons e E =>
      cases h with
      | cons h1 h2 =>
        cases E with
        | nil => cases h2
        | cons g E =>
          cases h2 with
          | cons h3 h4 => exact ⟨g :: e :: E, .swap _ _ _, .cons h3 (.cons h1 h4)⟩
  | trans p1 p2 ih1 ih2 =>
    intro (E : Es) h
    obtain ⟨E2, q2, h2⟩ := ih2 E h
    obtain ⟨E3, q3, h3⟩ := ih1 E2 h2
    exact ⟨E3, q3.trans q2, h3⟩
theorem asc_edges : ∀ {E : Es} {ys : List V}, DpAll K H ys (E.map pdE) → ys.Pairwise (fun x y => ∀ n m, TupI K H x n → TupI K H y m → TS.code 64 n ≤ TS.code 64 m) → E.Pairwise fun a b => key a ≤ key b
  | [], _, _, _ => .nil
  | e :: E, ys, h, p => by
    obtain ⟨v, vs, rfl, h1, h2⟩ := h.get0
    obtain ⟨p1, p2⟩ := List.pairwise_cons.mp p
    refine List.pairwise_cons.mpr ⟨fun g hg => ?_, asc_edges h2 p2⟩
    obtain ⟨i, hi, eg⟩ := List.mem_iff_getElem.mp hg
    obtain ⟨u, eu, hu⟩ := h2.to_ (i := i) (d := pdE g) (by rw [List.getElem?_map, List.getElem?_eq_getElem hi, eg]; rfl)
    obtain ⟨t, rfl, ht⟩ := h1.edge
    obtain ⟨t2, rfl, ht2⟩ := hu.edge
    have := p1 _ (List.mem_of_getElem? eu) (eI e) (eI g) ⟨t, rfl, ht⟩ ⟨t2, rfl, ht2⟩
    rw [code_eI, code_eI] at this
    omega
/-- what sorted(edges) has handed back -/
theorem sorted_nd {E : Es} {xs ys : List V} (hx : DpAll K H xs (E.map pdE)) (hnd : E.Nodup) (h64 : ∀ e ∈ E, e.2 < 64) (p : ys.Perm xs) (pw : ys.Pairwise (fun x y => ∀ n m, TupI K H x n → TupI K H y m → TS.code 64 n ≤ TS.code 64 m)) : DpAll K H ys ((mkE E).map pdE) := by
  obtain ⟨E', pe, h'⟩ := perm_edges p E hx
  have a1 := asc_edges h' pw
  have nd' : E'.Nodup := pe.nodup_iff.mpr hnd
  have a2 : Asc E' := (a1.and nd').imp_of_mem fun {a b} ma mb h => by
    have : key a ≠ key b := fun z => h.2 (key_inj (h64 a (pe.mem_iff.mp ma)) (h64 b (pe.mem_iff.mp mb)) z)
    have := h.1
    omega
  have : E' = mkE E := asc_uniq a2 (mkE_asc h64) fun z => by rw [mem_mkE h64, pe.mem_iff]
  rw [← this]
  exact h'
end
theorem or_bl {a b : Bool} {σ : L2.St} {ix : Nat} {T F : Prop} (e : σ[ix]? = some (some (.bl b))) (h1 : (a || b) = true → T) (h2 : (a || b) = false → F) :
    if a = true then (if true = true then T else F) else ∃ v, σ[ix]? = some (some v) ∧ ∃ k, v = V.bl k ∧ (if k = true then T else F) := by
  cases a with
  | true => exact iteT (iteT (h1 rfl))
  | false =>
    refine iteF ⟨_, e, b, rfl, ?_⟩
    cases b with
    | true => exact iteT (h1 rfl)
    | false => exact iteF (h2 rfl)
section
variable {P : Program} {w : World} {K : PySem.W.Frag} {mg : Str → Option Value} {base : Heap} {f : Addr} {fd : FuncData}
def isOne (bs : List Nat) (i : Nat) : Bool := bs[i]? == some 1
def spLawWeb (K : PySem.W.Frag) : Sp := fun vs H Q _ => ∃ (n : Nat) (l : Addr) (lp : Bool) (bs : List Nat), vs = [vN n, .ref l, .bl lp] ∧ SqL K H l (bs.map vN) ∧ n ≤ 4 ∧ ∀ H' v, Same H H' → Dp K H' v (pdW (lawWeb lp n (isOne bs))) → Q v H'
theorem ok_law_web (B : Bt mg) (F : Fun K "_law_web" "_law_web" s_law_web f fd) : FnOk P w K mg base CX0 1 f fd ["_law_size", "_law_bits", "_law_looped"] (spLawWeb K) := by
  refine F.ok sc_law_web (fun vs H Q E h => ?_) (fun cdv A outer s H vs Q E hr h => ?_)
  · obtain ⟨n, l, lp, bs, rfl, _⟩ := h
    rfl
  · obtain ⟨n, l, lp, bs, rfl, hl, hn, q⟩ := h
    refine ⟨_, (pss_cons (ps_set (i := 3) sc_law_web.nd rfl (Or.inl rfl) (pe_lst pa_nil))
      (pss_cons (ps_set (i := 4) sc_law_web.nd rfl (Or.inl rfl) pe_int)
      (pss_cons (ps_for PassesOwn.never rfl (pi_range1 (by rfl) B.range (pa_cons (pv 0) pa_nil)) (pg_name (i := 5) sc_law_web.nd rfl (Or.inl rfl)) 
        (pss_one (ps_for PassesOwn.never rfl (pi_range1 (by rfl) B.range (pa_cons (pe_op op_add (pv 5) pe_int) pa_nil)) (pg_name (i := 6) sc_law_web.nd rfl (Or.inl rfl)) 
          (pss_one (ps_if (PW.pt (pw_or (pt_cmpR op_lt (pv 6) (pv 5) (nomark _)) (pw_or1 (pt_val (pv 2))))) 
            (pss_cons (ps_if (PW.pt (pw_and (pt_cmpR op_lt (pv 4) (pe_callB call_len_seq (by rfl) B.len (by decide +kernel) (pa_cons (pv 1) pa_nil)) (nomark _)) (pw_and1 (pt_cmpR op_eq (pe_ix ix_list (pv 1) (pv 4) (fun _ _ => rfl)) pe_int (nomark _))))) 
              (pss_one (ps_expr (pe_bm PySem.F.plainAttrs_list PySem.F.slot_list_append PySem.F.type_list_append mt_append (pv 3) (pa_cons (pe_tup (pa_cons (pv 6) (pa_cons (pv 5) pa_nil))) pa_nil)))) pss_nil)
            (pss_one (ps_set (i := 4) sc_law_web.nd rfl (Or.inl rfl) (pe_op op_add (pv 4) pe_int)))) pss_nil)))))
      (pss_one (ps_ret (pe_tup (pa_cons (pv 0) (pa_cons (pe_callTy call_tuple_of (by rfl) B.tuple (by decide +kernel) (pa_cons (pe_callB (cr_sortT (d := 2) (B := 64) (by decide)) (by rfl) B.sorted (by decide +kernel) (pa_cons (pv 3) pa_nil)) pa_nil)) pa_nil)))))))), ?_⟩
    refine ⟨Nat.zero_le _, fun o no => ?_⟩
    refine ⟨_, rfl, (n : Int), rfl, by omega, by omega, ?_⟩
    rw [Int.toNat_natCast]
    refine for_range (lo := 0) (n := n) (fun i σ H' => ∃ y5 y6 vs, σ = [some (vN n), some (.ref l), some (.bl lp), some (.ref o), some (vN (pairsTo lp i).length), y5, y6] ∧ Same H H' ∧ H' o = some (.lst vs) ∧ DpAll K H' vs ((sel (isOne bs) (pairsTo lp i)).map pdE)) ⟨_, _, [], rfl, Same.put no, upd_same, .nil⟩ (fun i σ H' hi h => ?_) (fun σ H' h => ?_)
    · obtain ⟨y5, y6, vs, rfl, sm, ho, hv⟩ := h
      rw [Int.zero_add]
      refine ⟨_, rfl, _, _, rfl, rfl, (i : Int) + 1, rfl, by omega, by omega, ?_⟩
      rw [show ((i : Int) + 1).toNat = i + 1 by omega]
      refine for_range (lo := 0) (n := i + 1) (fun j σ H' => ∃ y6 vs, σ = [some (vN n), some (.ref l), some (.bl lp), some (.ref o), some (vN (pairsTo lp i ++ pairRow lp i j).length), some (vN i), y6] ∧ Same H H' ∧ H' o = some (.lst vs) ∧ DpAll K H' vs ((sel (isOne bs) (pairsTo lp i ++ pairRow lp i j)).map pdE)) ⟨_, vs, by rw [show pairRow lp i 0 = [] from rfl, List.append_nil]; rfl, sm, ho, by rw [show pairRow lp i 0 = [] from rfl, List.append_nil]; exact hv⟩ (fun j σ H' hj h => ?_) (fun σ H' h => ?_)
      · obtain ⟨y6, vs, rfl, sm, ho, hv⟩ := h
        rw [Int.zero_add]
        have yes : (decide (j < i) || lp) = true → pairsTo lp i ++ pairRow lp i (j + 1) = pairsTo lp i ++ pairRow lp i j ++ [(j, i)] := fun h => by rw [pairRow_snoc, if_pos h, List.append_assoc]
        have no' : ¬ (decide (j < i) || lp) = true → pairsTo lp i ++ pairRow lp i (j + 1) = pairsTo lp i ++ pairRow lp i j := fun h => by rw [pairRow_snoc, if_neg h, List.append_nil]
        generalize hP : pairsTo lp i ++ pairRow lp i j = P0 at *
        have hPl : P0.length ≤ 100 := by
          rw [← hP, List.length_append]
          have h1 := pairsTo_len lp i
          have h2 := pairRow_len lp i j
          have h3 : i * i ≤ 4 * 4 := Nat.mul_le_mul (by omega) (by omega)
          omega
        have bump : ∀ (H2 : Hp) (us : List V), Same H H2 → H2 o = some (.lst us) → DpAll K H2 us ((sel (isOne bs) (P0 ++ [(j, i)])).map pdE) → (decide ((j : Int) < (i : Int)) || lp) = true →
            ∃ y6 vs, [some (vN n), some (.ref l), some (.bl lp), some (.ref o), some (V.int ((P0.length : Nat) + 1)), some (vN i), some (V.int (j : Int))] = [some (vN n), some (.ref l), some (.bl lp), some (.ref o), some (vN (pairsTo lp i ++ pairRow lp i (j + 1)).length), some (vN i), y6] ∧ Same H H2 ∧ H2 o = some (.lst vs) ∧ DpAll K H2 vs ((sel (isOne bs) (pairsTo lp i ++ pairRow lp i (j + 1))).map pdE) := fun H2 us s2 h2 hu hc => by
          rw [show decide ((j : Int) < (i : Int)) = decide (j < i) by by_cases h : j < i <;> simp [h]] at hc
          rw [yes hc, List.length_append]
          exact ⟨_, us, rfl, s2, h2, hu⟩
        have same1 : isOne bs P0.length = false → DpAll K H' vs ((sel (isOne bs) (P0 ++ [(j, i)])).map pdE) := fun h => by
          rw [sel_snoc, h]
          show DpAll K H' vs ((_ ++ []).map pdE)
          rw [List.append_nil]
          exact hv
        refine ⟨_, rfl, _, rfl, _, _, rfl, rfl, _, rfl, ?_⟩
        refine or_bl (b := lp) (ix := 2) rfl (fun hc => ?_) (fun hc => ?_)
        · refine ⟨_, rfl, .ref l, rfl, l, _, rfl, .inl (sm.seq hl), _, _, rfl, rfl, _, rfl, ite2 (fun e => ?_) (fun e => ?_)⟩
          · have e1 : P0.length < bs.length := by
              have z : ((P0.length : Nat) : Int) < (((bs.map vN).length : Nat) : Int) := of_decide_eq_true e
              rw [List.length_map] at z
              omega
            refine ⟨.ref l, rfl, _, rfl, l, _, _, _, rfl, rfl, sm.seq hl, atI_nat (getD_at e1), rfl, _, rfl, ite2 (fun e2 => ?_) (fun e2 => ?_)⟩
            · have e3 : bs.getD P0.length 0 = 1 := by
                have z : ((bs.getD P0.length 0 : Nat) : Int) = 1 := V.int.inj (of_decide_eq_true e2)
                omega
              have e4 : isOne bs P0.length = true := by
                unfold isOne
                rw [List.getD_eq_getElem?_getD, List.getElem?_eq_getElem e1] at e3
                rw [List.getElem?_eq_getElem e1, beq_iff_eq]
                exact congrArg some e3
              refine ⟨.ref o, rfl, .inl ⟨rfl, _, .inl (.inl ho)⟩, _, rfl, _, rfl, by show 2 ≤ sizeLine; decide, fun t nt => ?_⟩
              have s2 := Same.put (o := .tup [vN j, vN i]) nt
              have ho2 := s2 _ _ ho
              refine ⟨o, _, _, rfl, rfl, ho2, ?_, _, rfl, _, _, rfl, rfl, bump _ _ ((sm.trans s2).over no) upd_same ?_ hc⟩
              · rw [hv.len, List.length_map]
                have := (sel_sub (isOne bs) P0 0).length_le
                exact line_lt (Nat.le_trans this (by omega))
              · rw [sel_snoc, if_pos e4, List.map_append]
                refine DpAll.putL ho2 ?_ ((hv.same s2).append (.one (.of_edge (e := (j, i)) (.of upd_same))))
                rw [← List.map_append]
                exact noLs_map noL_e _
            · have e4 : isOne bs P0.length = false := by
                unfold isOne
                rw [List.getElem?_eq_getElem e1, Bool.eq_false_iff]
                intro z
                have z1 := Option.some.inj (beq_iff_eq.mp z)
                refine e2 ?_
                show decide (V.int ((bs.getD P0.length 0 : Nat) : Int) = V.int 1) = true
                rw [List.getD_eq_getElem?_getD, List.getElem?_eq_getElem e1]
                show decide (V.int ((bs[P0.length] : Nat) : Int) = V.int 1) = true
                rw [z1]
                exact decide_eq_true rfl
              exact ⟨_, rfl, _, _, rfl, rfl, bump _ _ sm ho (same1 e4) hc⟩
          · have e1 : ¬ P0.length < bs.length := fun z => e (decide_eq_true (by
              show ((P0.length : Nat) : Int) < (((bs.map vN).length : Nat) : Int)
              rw [List.length_map]
              omega))
            have e4 : isOne bs P0.length = false := by
              unfold isOne
              rw [List.getElem?_eq_none (by omega)]
              rfl
            exact iteF ⟨_, rfl, _, _, rfl, rfl, bump _ _ sm ho (same1 e4) hc⟩
        · have hc2 : ¬ (decide (j < i) || lp) = true := by
            have z : (decide ((j : Int) < (i : Int)) || lp) = false := hc
            rw [show decide ((j : Int) < (i : Int)) = decide (j < i) by by_cases h : j < i <;> simp [h]] at z
            rw [z]
            exact Bool.false_ne_true
          have fin : ∃ y6 vs', [some (vN n), some (.ref l), some (.bl lp), some (.ref o), some (vN P0.length), some (vN i), some (V.int (j : Int))] = [some (vN n), some (.ref l), some (.bl lp), some (.ref o), some (vN (pairsTo lp i ++ pairRow lp i (j + 1)).length), some (vN i), y6] ∧ Same H H' ∧ H' o = some (.lst vs') ∧ DpAll K H' vs' ((sel (isOne bs) (pairsTo lp i ++ pairRow lp i (j + 1))).map pdE) := by
            rw [no' hc2]
            exact ⟨_, vs, rfl, sm, ho, hv⟩
          exact fin
      · obtain ⟨y6, vs, rfl, sm, ho, hv⟩ := h
        refine ⟨some (vN i), y6, vs, ?_, sm, ho, ?_⟩
        · rw [show pairsTo lp (i + 1) = pairsTo lp i ++ pairRow lp i (i + 1) from range_flatMap _ i]
        · rw [show pairsTo lp (i + 1) = pairsTo lp i ++ pairRow lp i (i + 1) from range_flatMap _ i]
          exact hv
    · obtain ⟨y5, y6, vs, rfl, sm, ho, hv⟩ := h
      have pn := pairs_nd (lp := lp) hn
      have ss := sel_sub (isOne bs) (pairsTo lp n) 0
      have h64 : ∀ e ∈ sel (isOne bs) (pairsTo lp n), e.1 < 5 ∧ e.2 < 5 := fun e he => by
        have := pn.2 e (ss.subset he)
        omega
      refine ⟨_, rfl, .ref o, rfl, o, vs, rfl, .of ho, ?_, fun x hx => ?_, fun ys p pm pw np => ?_⟩
      · rw [hv.len, List.length_map]
        have h1 := ss.length_le
        have h2 := pairsTo_len lp n
        have h3 : n * n ≤ 4 * 4 := Nat.mul_le_mul hn hn
        show (selGo (isOne bs) 0 (pairsTo lp n)).length < 64
        omega
      · obtain ⟨i, hi, rfl⟩ := List.mem_iff_getElem.mp hx
        obtain ⟨d, ed, hd⟩ := hv.at_ (List.getElem?_eq_getElem hi)
        rw [List.getElem?_map] at ed
        obtain ⟨g, eg, rfl⟩ := Option.map_eq_some_iff.mp ed
        obtain ⟨t, et, ht⟩ := hd.edge
        have hb := h64 g (List.mem_of_getElem? eg)
        refine ⟨eI g, ⟨t, et, ht⟩, rfl, fun z hz => ?_⟩
        have hz' : z = (g.1 : Int) ∨ z = (g.2 : Int) := by simpa [eI] using hz
        rcases hz' with rfl | rfl
        · omega
        · omega
      · have s2 := Same.put (o := .lst ys) np
        refine ⟨p, ys, rfl, .inl ⟨.of upd_same, fun T nT => ?_⟩⟩
        have s3 := Same.put (o := .tup ys) nT
        refine ⟨by show 2 ≤ sizeLine; decide, fun z nz => ?_⟩
        have s4 := Same.put (o := .tup [vN n, .ref T]) nz
        have s5 : Same H' _ := (s2.trans s3).trans s4
        refine q _ _ (sm.trans s5) (.of_web (w := lawWeb lp n (isOne bs)) (q := T) (.of upd_same) (.of (s4 _ _ upd_same)) ?_)
        exact (sorted_nd hv (ss.nodup pn.1) (fun e he => Nat.lt_trans (h64 e he).2 (by decide)) pm pw).same s5
end
end Wb
-- WO
set_option Elab.async false
set_option linter.all false
set_option maxRecDepth 100000
set_option maxHeartbeats 4000000
/-! the law's permutations and codes -/
namespace L2
open PySem PySem.Spec PyProof.Rows
theorem del_upd {H : Hp} {D : Addr} {o : HO} : del (upd H D o) D = del H D := by
  funext b
  by_cases h : b = D
  · subst h; rw [del_same, del_same]
  · rw [del_ne h, del_ne h, upd_ne h]
theorem Same.undel {H : Hp} {D : Addr} : Same (L2.del H D) H := fun b o e => by
  by_cases h : b = D
  · subst h; rw [del_same] at e; cases e
  · rw [del_ne h] at e; exact e
theorem Same.dels {H H' : Hp} {D : Addr} (s : Same H H') : Same (L2.del H D) (L2.del H' D) := fun b o e => by
  by_cases h : b = D
  · subst h; rw [del_same] at e; cases e
  · rw [del_ne h] at e ⊢; exact s b o e
theorem Same.todel {H H' : Hp} {D : Addr} (s : Same H H') (n : H D = none) : Same H (L2.del H' D) := s.del n
end L2
namespace Wb
open PySem PySem.Spec PyProof.Rows L2
/-- rows that stand as lists of the heap itself -/
inductive RowsX (H : Hp) : List V → List (List Nat) → Prop
  | nil : RowsX H [] []
  | cons {p : Addr} {r : List Nat} {vs : List V} {rs : List (List Nat)} : H p = some (.lst (r.map vN)) → RowsX H vs rs → RowsX H (.ref p :: vs) (r :: rs)
theorem RowsX.same {H H' : Hp} (s : Same H H') {vs : List V} {rs : List (List Nat)} (h : RowsX H vs rs) : RowsX H' vs rs := by
  induction h with
  | nil => exact .nil
  | cons h1 _ ih => exact .cons (s _ _ h1) ih
theorem RowsX.len {H : Hp} {vs : List V} {rs : List (List Nat)} (h : RowsX H vs rs) : vs.length = rs.length := by
  induction h with
  | nil => rfl
  | cons _ _ ih => rw [List.length_cons, List.length_cons, ih]
theorem RowsX.append {H : Hp} {vs us : List V} {rs qs : List (List Nat)} (h : RowsX H vs rs) (g : RowsX H us qs) : RowsX H (vs ++ us) (rs ++ qs) := by
  induction h with
  | nil => exact g
  | cons h1 _ ih => exact .cons h1 ih
theorem RowsX.at_ {H : Hp} {vs : List V} {rs : List (List Nat)} (h : RowsX H vs rs) : ∀ {i : Nat} {v : V}, vs[i]? = some v → ∃ p r, v = .ref p ∧ rs[i]? = some r ∧ H p = some (.lst (r.map vN)) := by
  induction h with
  | nil => intro i v e; cases e
  | cons h1 _ ih =>
    intro i v e
    cases i with
    | zero => cases e; exact ⟨_, _, rfl, rfl, h1⟩
    | succ i => exact ih e
def pdRL (r : List Nat) : PyData := .list (r.map iN)
theorem RowsX.dp {K : PySem.W.Frag} {H : Hp} {vs : List V} {rs : List (List Nat)} (h : RowsX H vs rs) : DpAll K H vs (rs.map pdRL) := by
  induction h with
  | nil => exact .nil
  | cons h1 _ ih => exact .cons (.lst (.of h1) .of_nats) ih
theorem Dp.rowL {K : PySem.W.Frag} {H : Hp} {v : V} {r : List Nat} (h : Dp K H v (pdRL r)) : ∃ p, v = .ref p ∧ SqL K H p (r.map vN) := by
  obtain ⟨p, vs, rfl, h1, h2⟩ := Dp.lst_of h
  rw [h2.nats] at h1
  exact ⟨p, rfl, h1⟩
section
variable {P : Program} {w : World} {K : PySem.W.Frag} {mg : Str → Option Value} {base : Heap} {f f_law_permutations f_law_code : Addr} {fd fd_law_permutations fd_law_code : FuncData}
def spPerms (K : PySem.W.Frag) : Sp := fun vs H Q _ => ∃ n : Nat, vs = [vN n] ∧ n ≤ 5 ∧ ∀ H' R ys, Same H H' → H R = none → H' R = some (.lst ys) → DpAll K H' ys ((perms n).map pdRL) → Q (.ref R) H'
theorem ok_permutations (B : Bt mg) (F : Fun K "_law_permutations" "_law_permutations" s_law_permutations f fd) : FnOk P w K mg base CX0 1 f fd ["_law_size"] (spPerms K) := by
  refine F.ok sc_law_permutations (fun vs H Q E h => ?_) (fun cdv A outer s H vs Q E hr h => ?_)
  · obtain ⟨n, rfl, _⟩ := h
    rfl
  · obtain ⟨n, rfl, hn, q⟩ := h
    refine ⟨_, (pss_cons (ps_set (i := 1) sc_law_permutations.nd rfl (Or.inl rfl) (pe_lst (pa_cons (pe_lst pa_nil) pa_nil)))
      (pss_cons (ps_for PassesOwn.never rfl (pi_range1 (by rfl) B.range (pa_cons (pv 0) pa_nil)) (pg_name (i := 2) sc_law_permutations.nd rfl (Or.inl rfl)) 
        (pss_cons (ps_set (i := 3) sc_law_permutations.nd rfl (Or.inl rfl) (pe_lst pa_nil))
        (pss_cons (ps_for PassesOwn.never rfl (pi_list (pe_callTy call_list_of (by rfl) B.list (by decide +kernel) (pa_cons (pv 1) pa_nil))) (pg_name (i := 4) sc_law_permutations.nd rfl (Or.inl rfl)) 
          (pss_one (ps_for PassesOwn.never rfl (pi_range1 (by rfl) B.range (pa_cons (pv 0) pa_nil)) (pg_name (i := 5) sc_law_permutations.nd rfl (Or.inl rfl)) 
            (pss_one (ps_if (pt_cmpR op_notIn_seq (pv 5) (pv 4) (by with_unfolding_all rfl)) 
              (pss_one (ps_expr (pe_bm PySem.F.plainAttrs_list PySem.F.slot_list_append PySem.F.type_list_append mt_append (pv 3) (pa_cons (pe_op op_cat (pv 4) (pe_lst (pa_cons (pv 5) pa_nil))) pa_nil)))) pss_nil)))))
        (pss_one (ps_set (i := 1) sc_law_permutations.nd rfl (Or.inl rfl) (pv 3))))))
      (pss_one (ps_ret (pv 1))))), ?_⟩
    refine ⟨Nat.zero_le _, fun t nt => ?_⟩
    have s0 := Same.put (o := .lst []) nt
    refine ⟨by show 1 ≤ sizeLine; decide, fun R nR => ?_⟩
    have s1 := Same.put (o := .lst [.ref t]) nR
    have ht : (upd H t (.lst [])) t = some (.lst []) := upd_same
    have row0 : RowsX (del (upd (upd H t (.lst [])) R (.lst [.ref t])) R) [.ref t] (rens n 0) := by
      rw [del_upd]
      refine .cons (r := []) ?_ .nil
      rw [del_ne (ne_of_none ht nR)]
      exact ht
    refine ⟨_, rfl, (n : Int), rfl, by omega, by omega, ?_⟩
    rw [Int.toNat_natCast]
    refine for_range (lo := 0) (n := n) (fun i σ H' => ∃ R ys y2 y3 y4 y5, σ = [some (vN n), some (.ref R), y2, y3, y4, y5] ∧ H' R = some (.lst ys) ∧ H R = none ∧ Same H H' ∧ RowsX (del H' R) ys (rens n i)) ⟨R, _, _, _, _, _, rfl, upd_same, s0.free nR, s0.trans s1, row0⟩ (fun i σ H1 hi h => ?_) (fun σ H' h => ?_)
    · obtain ⟨R, ys, y2, y3, y4, y5, rfl, hR, nR, sm, hys⟩ := h
      have hlen : ys.length = (rens n i).length := hys.len
      refine ⟨Nat.zero_le _, fun D nD => ?_⟩
      have sD := Same.put (o := .lst []) nD
      refine ⟨.ref R, rfl, R, ys, rfl, .inl (.of (sD _ _ hR)), fun L nL => ?_⟩
      have sL := Same.put (o := .lst ys) nL
      have hDL := sL _ _ (upd_same (H := H1) (a := D) (o := .lst []))
      have sH1 : Same H1 (upd (upd H1 D (.lst [])) L (.lst ys)) := sD.trans sL
      have hys1 : RowsX H1 ys (rens n i) := hys.same Same.undel
      refine ⟨L, rfl, ⟨ys, .of upd_same⟩, ?_⟩
      have hL0 : (upd (upd H1 D (.lst [])) L (.lst ys)) L = some (.lst ys) := upd_same
      have neLD : L ≠ D := fun z => by subst z; rw [upd_same] at nL; cases nL
      refine for_list (xs := ys) (fun a σ H' => ∃ y4 y5 acc, σ = [some (vN n), some (.ref R), some (V.int ((0 : Int) + i)), some (.ref D), y4, y5] ∧ Same H1 H' ∧ H' L = some (.lst ys) ∧ H' D = some (.lst acc) ∧ RowsX (del H' D) acc (((rens n i).take a).flatMap fun r => renRow n r n)) ⟨_, _, [], rfl, sH1, hL0, hDL, .nil⟩ (fun a σ H' _ h => ?_) (fun a x σ H2 ex h => ?_) (fun σ H2 h => ?_)
      · obtain ⟨_, _, _, _, _, hL, _⟩ := h
        exact .of hL
      · obtain ⟨y4, y5, acc, rfl, s2, hL, hD, hacc⟩ := h
        obtain ⟨p, r, rfl, er, hp⟩ := hys1.at_ ex
        refine ⟨_, rfl, (n : Int), rfl, by omega, by omega, ?_⟩
        rw [Int.toNat_natCast]
        refine for_range (lo := 0) (n := n) (fun j σ H' => ∃ y5 acc, σ = [some (vN n), some (.ref R), some (V.int ((0 : Int) + i)), some (.ref D), some (.ref p), y5] ∧ Same H1 H' ∧ H' L = some (.lst ys) ∧ H' D = some (.lst acc) ∧ RowsX (del H' D) acc (((rens n i).take a).flatMap (fun r => renRow n r n) ++ renRow n r j)) ⟨_, acc, rfl, s2, hL, hD, by rw [show renRow n r 0 = [] from rfl, List.append_nil]; exact hacc⟩ (fun j σ H3 hj h => ?_) (fun σ H3 h => ?_)
        · obtain ⟨y5, acc, rfl, s3, hL, hD, hacc⟩ := h
          rw [Int.zero_add]
          have hp3 := s3 _ _ hp
          refine ⟨_, rfl, .ref p, rfl, p, _, rfl, .inl (.of hp3), rfl, flat_nats _, _, rfl, ?_⟩
          rw [inV_nats]
          by_cases hc : r.contains j = true
          · rw [hc]
            refine iteF ⟨_, acc, rfl, s3, hL, hD, ?_⟩
            rw [renRow_snoc, hc]
            show RowsX _ _ (_ ++ (_ ++ []))
            rw [List.append_nil]
            exact hacc
          · have hc2 : r.contains j = false := by simpa using hc
            rw [hc2]
            refine iteT ?_
            have hrl : r.length = i := rens_row_len n i r (List.mem_of_getElem? er)
            refine ⟨.ref D, rfl, .inl ⟨rfl, _, .inl (.inl hD)⟩, .ref p, rfl, _, rfl, by show 1 ≤ sizeLine; decide, fun u nu => ?_⟩
            have su := Same.put (o := .lst [vN j]) nu
            have huu : (upd H3 u (.lst [vN j])) u = some (.lst [vN j]) := upd_same
            refine ⟨p, u, r.map vN, [vN j], rfl, rfl, su _ _ hp3, huu, ?_, fun z nz => ?_⟩
            · rw [List.length_map, hrl]
              exact line_le (by show i + 1 ≤ 100000; omega)
            have sz := Same.put (o := .lst (r.map vN ++ [vN j])) nz
            have hD4 := sz _ _ (su _ _ hD)
            have s4 : Same H3 _ := su.trans sz
            have hzz : (upd (upd H3 u (.lst [vN j])) z (.lst (r.map vN ++ [vN j]))) z = some (.lst (r.map vN ++ [vN j])) := upd_same
            have nzD : z ≠ D := fun e => by
              subst e
              rw [su _ _ hD] at nz
              cases nz
            refine ⟨D, acc, _, rfl, rfl, hD4, ?_, _, _, rfl, (s3.trans s4).over nD, ?_, upd_same, ?_⟩
            · rw [hacc.len, List.length_append]
              have h1 := renStep_len n (rens n i) a
              have h2 := renRow_len n r j
              have h3 := rens_small (n := n) (k := i) hn (by omega)
              have h4 : (rens n i).length * n ≤ 3125 * 5 := Nat.mul_le_mul h3 hn
              exact line_lt (by omega)
            · rw [upd_ne neLD]
              exact s4 _ _ hL
            · rw [del_upd, renRow_snoc, hc2]
              show RowsX _ _ (_ ++ (_ ++ [r ++ [j]]))
              rw [← List.append_assoc]
              refine (hacc.same s4.dels).append (.cons (r := r ++ [j]) ?_ .nil)
              rw [del_ne nzD, hzz, List.map_append]
              rfl
        · obtain ⟨y5, acc, rfl, s3, hL, hD, hacc⟩ := h
          refine ⟨some (.ref p), y5, acc, rfl, s3, hL, hD, ?_⟩
          rw [flatMap_take (fun r => renRow n r n) er]
          exact hacc
      · obtain ⟨y4, y5, acc, rfl, s2, hL, hD, hacc⟩ := h
        rw [hlen, List.take_length] at hacc
        exact ⟨.ref D, rfl, D, acc, _, _, _, _, rfl, hD, sm.free nD, sm.trans s2, hacc⟩
    · obtain ⟨R, ys, y2, y3, y4, y5, rfl, hR, nR, sm, hys⟩ := h
      exact ⟨.ref R, rfl, q H' R ys sm nR hR (hys.same Same.undel).dp⟩
end
end Wb
-- WP
set_option Elab.async false
set_option linter.all false
set_option maxRecDepth 100000
set_option maxHeartbeats 4000000
/-! the law's codes -/
namespace Wb
open PySem PySem.Spec PyProof.Rows L2
section
variable {P : Program} {w : World} {K : PySem.W.Frag} {mg : Str → Option Value} {base : Heap} {f f_law_permutations f_law_code : Addr} {fd fd_law_permutations fd_law_code : FuncData}
def spLCode (K : PySem.W.Frag) : Sp := fun vs H Q _ => ∃ (v u : V) (x : Nat × Es) (r : List Nat), vs = [v, u] ∧ Dp K H v (pdW x) ∧ Dp K H u (pdRL r) ∧ Below r.length x.2 ∧ (∀ k ∈ r, k < 64) ∧ Q (vN (codeUnder x.2 r)) H
theorem ok_law_code (B : Bt mg) (F : Fun K "_law_code" "_law_code" s_law_code f fd) : FnOk P w K mg base CX0 1 f fd ["_law_web_here", "_law_row"] (spLCode K) := by
  refine F.ok sc_law_code (fun vs H Q E h => ?_) (fun cdv A outer s H vs Q E hr h => ?_)
  · obtain ⟨v, u, x, r, rfl, _⟩ := h
    rfl
  · obtain ⟨v, u, x, r, rfl, hW, hR, hB, hr64, q⟩ := h
    obtain ⟨p, e, es, rfl, hp, he, hes⟩ := hW.web
    obtain ⟨R, rfl, hRt⟩ := Dp.rowL hR
    refine ⟨_, (pss_cons (ps_set (i := 2) sc_law_code.nd rfl (Or.inl rfl) pe_int)
      (pss_cons (ps_for PassesOwn.never rfl (pi_tup (pe_ix ix_tup (pv 0) pe_int (fun _ _ => rfl))) (pg_name (i := 3) sc_law_code.nd rfl (Or.inl rfl)) 
        (pss_cons (ps_set (i := 4) sc_law_code.nd rfl (Or.inl rfl) (pe_callB (call_min2 rfl) (by rfl) B.min (by decide +kernel) (pa_cons (pe_ix ix_list (pv 1) (pe_ix ix_tup (pv 3) pe_int (fun _ _ => rfl)) (fun _ _ => rfl)) (pa_cons (pe_ix ix_list (pv 1) (pe_ix ix_tup (pv 3) pe_int (fun _ _ => rfl)) (fun _ _ => rfl)) pa_nil))))
        (pss_cons (ps_set (i := 5) sc_law_code.nd rfl (Or.inl rfl) (pe_callB (call_max2 rfl) (by rfl) B.max (by decide +kernel) (pa_cons (pe_ix ix_list (pv 1) (pe_ix ix_tup (pv 3) pe_int (fun _ _ => rfl)) (fun _ _ => rfl)) (pa_cons (pe_ix ix_list (pv 1) (pe_ix ix_tup (pv 3) pe_int (fun _ _ => rfl)) (fun _ _ => rfl)) pa_nil))))
        (pss_one (ps_set (i := 2) sc_law_code.nd rfl (Or.inl rfl) (pe_op op_add (pv 2) (pe_op op_oneShl pe_int (pe_op op_add (pe_op op_fdiv (pe_op op_mul (pv 5) (pe_op op_add (pv 5) pe_int)) pe_int) (pv 4)))))))))
      (pss_one (ps_ret (pv 2))))), ?_⟩
    refine ⟨.ref p, rfl, p, _, _, _, rfl, rfl, hp, atI_nat (j := 1) rfl, e, rfl, ⟨_, he⟩, ?_⟩
    refine for_tup (xs := es) (fun i σ H' => ∃ y3 y4 y5, σ = [some (.ref p), some (.ref R), some (vN (codeBy (fun x => r.getD x 0) (x.2.take i))), y3, y4, y5] ∧ H' = H) ⟨_, _, _, rfl, rfl⟩ (fun i σ H' _ h => ?_) (fun i y σ H' ey h => ?_) (fun σ H' h => ?_)
    · obtain ⟨_, _, _, _, rfl⟩ := h
      exact he
    · obtain ⟨y3, y4, y5, rfl, rfl⟩ := h
      obtain ⟨d, ed, hd⟩ := hes.at_ ey
      rw [List.getElem?_map] at ed
      obtain ⟨g, eg, rfl⟩ := Option.map_eq_some_iff.mp ed
      obtain ⟨t, rfl, ht⟩ := hd.edge
      have hb := hB g (List.mem_of_getElem? eg)
      have h1 := hr64 _ (getD_mem hb.1)
      have h2 := hr64 _ (getD_mem hb.2)
      have hm : max (r.getD g.1 0) (r.getD g.2 0) < 64 := Nat.max_lt.mpr ⟨h1, h2⟩
      refine ⟨.ref R, rfl, .ref t, rfl, t, _, _, _, rfl, rfl, ht, atI_nat (j := 0) rfl, R, _, _, _, rfl, rfl, hRt, atI_nat (getD_at hb.1), .ref R, rfl, .ref t, rfl, t, _, _, _, rfl, rfl, ht, atI_nat (j := 1) rfl, R, _, _, _, rfl, rfl, hRt, atI_nat (getD_at hb.2), _, _, rfl, ?_⟩
      rw [imin]
      refine ⟨.ref R, rfl, .ref t, rfl, t, _, _, _, rfl, rfl, ht, atI_nat (j := 0) rfl, R, _, _, _, rfl, rfl, hRt, atI_nat (getD_at hb.1), .ref R, rfl, .ref t, rfl, t, _, _, _, rfl, rfl, ht, atI_nat (j := 1) rfl, R, _, _, _, rfl, rfl, hRt, atI_nat (getD_at hb.2), _, _, rfl, ?_⟩
      rw [imax]
      refine ⟨_, rfl, _, rfl, _, rfl, _, _, rfl, rfl, _, _, rfl, rfl, cmul_n (by omega), _, _, rfl, rfl, ⟨by decide, by decide⟩, _, rfl, _, _, rfl, rfl, bitOf (r.getD g.1 0) (r.getD g.2 0), rfl, ?_, pow_line h1 h2, _, _, rfl, rfl, some (.ref t), some (vN (min (r.getD g.1 0) (r.getD g.2 0))), some (vN (max (r.getD g.1 0) (r.getD g.2 0))), ?_, rfl⟩
      · have e := ibit (min (r.getD g.1 0) (r.getD g.2 0)) (max (r.getD g.1 0) (r.getD g.2 0))
        show V.int _ = V.int _
        exact congrArg V.int e
      · rw [codeBy_take (fun x => r.getD x 0) eg]
        have e := inat_pow (codeBy (fun x => r.getD x 0) (x.2.take i)) (bitOf (r.getD g.1 0) (r.getD g.2 0))
        show [_, _, some (V.int _), _, _, _] = _
        rw [e]
    · obtain ⟨y3, y4, y5, rfl, rfl⟩ := h
      refine ⟨_, rfl, ?_⟩
      have el : es.length = x.2.length := by rw [hes.len, List.length_map]
      rw [el, codeBy_full]
      exact q
/-- the codes of all renamings -/
def codes (x : Nat × Es) : List Nat := (perms x.1).map (codeUnder x.2)
def spCodes (K : PySem.W.Frag) : Sp := fun vs H Q _ => ∃ (v : V) (x : Nat × Es), vs = [v] ∧ Dp K H v (pdW x) ∧ x.1 ≤ 5 ∧ Below x.1 x.2 ∧ ∀ H' p, Same H H' → H p = none → H' p = some (.lst ((codes x).map vN)) → Q (.ref p) H'
theorem ok_law_codes (B : Bt mg) (F : Fun K "_law_codes" "_law_codes" s_law_codes f fd) (C_law_permutations : Cal K mg "_law_permutations" "_law_permutations" s_law_permutations f_law_permutations fd_law_permutations ["_law_size"]) (C_law_code : Cal K mg "_law_code" "_law_code" s_law_code f_law_code fd_law_code ["_law_web_here", "_law_row"])
    (G_law_permutations : FnOk P w K mg base CX0 1 f_law_permutations fd_law_permutations ["_law_size"] (spPerms K)) (G_law_code : FnOk P w K mg base CX0 1 f_law_code fd_law_code ["_law_web_here", "_law_row"] (spLCode K)) : FnOk P w K mg base CX0 2 f fd ["_law_web_here"] (spCodes K) := by
  refine F.ok sc_law_codes (fun vs H Q E h => ?_) (fun cdv A outer s H vs Q E hr h => ?_)
  · obtain ⟨v, x, rfl, _⟩ := h
    rfl
  · obtain ⟨v, ⟨n, es⟩, rfl, hW, hn, hB, q⟩ := h
    obtain ⟨p, e, vs, rfl, hp, he, hes⟩ := hW.web
    refine ⟨_, (pss_one (ps_ret (pe_lc (own := [("_law_row", 1)]) (g := gName 1) (tt := _) (te := _) rfl sc_law_codes.nd (pi_list (pe_call G_law_permutations (hr.mono (by decide)) (by rfl) C_law_permutations.g C_law_permutations.F.kp C_law_permutations.b .nil pass0 (pa_cons (pe_ix ix_tup (pv 0) pe_int (fun _ _ => rfl)) pa_nil))) (blkOk_by (own := [("_law_row", 1)]) (N := N_law_codes) (sc := defScope s_law_codes) (by decide +kernel)) (fun _ _ _ _ _ => (pg_name (i := 1) sc_law_codes.nd rfl (Or.inl rfl))) (fun _ _ _ _ _ => pts_nil) (fun _ _ _ _ _ => (pe_call G_law_code (hr.mono (by decide)) (by rfl) C_law_code.g C_law_code.F.kp C_law_code.b .nil pass0 (pa_cons (pv 0) (pa_cons (pv 1) pa_nil))))))), ?_⟩
    refine ⟨.ref p, rfl, p, _, _, _, rfl, rfl, hp, atI_nat (j := 0) rfl, n, rfl, hn, fun H1 R ys s1 nR hR hys => ?_⟩
    refine ⟨R, rfl, ⟨ys, .of hR⟩, fun D nD => ?_⟩
    have el : ys.length = (perms n).length := by rw [hys.len, List.length_map]
    refine lcD_list (K := K) (xs := ys) (fun i => ((codes (n, es)).take i).map iN) nD rfl (.of hR) (fun i => noLs_map (fun _ => rfl) _) (fun i hi => ?_) (fun i x H2 ky kn ex s2 fy fn => ?_) (fun H2 zs s2 hD hz => ?_)
    · rw [List.length_map, List.length_take]
      have h3 : (perms n).length ≤ 3125 := rens_small (n := n) (k := n) hn hn
      exact line_lt (by omega)
    · obtain ⟨d, ed, hd⟩ := hys.at_ ex
      rw [List.getElem?_map] at ed
      obtain ⟨r, er, rfl⟩ := Option.map_eq_some_iff.mp ed
      have h1 := rens_row_len n n r (List.mem_of_getElem? er)
      have h2 := rens_row_lt n n r (List.mem_of_getElem? er)
      refine ⟨rfl, .ref p, rfl, x, rfl, .ref p, x, (n, es), r, rfl, hW.same (s1.trans s2), hd.same s2, by rw [h1]; exact hB, fun k hk => Nat.lt_of_lt_of_le (h2 k hk) (by have : n ≤ 5 := hn; omega), fy _ _ (iN (codeUnder es r)) (Same.refl _) (.int _) ?_⟩
      have ec : (codes (n, es))[i]? = some (codeUnder es r) := by
        show ((perms n).map _)[i]? = _
        rw [List.getElem?_map, er]
        rfl
      rw [List.take_add_one, ec, List.map_append]
      rfl
    · have e2 : ys.length = (codes (n, es)).length := by rw [el]; exact (List.length_map _).symm
      rw [e2, List.take_length] at hz
      rw [hz.nats] at hD
      exact q H2 D (s1.trans s2) (s1.free nD) hD
end
end Wb
-- WQ
set_option Elab.async false
set_option linter.all false
set_option maxRecDepth 100000
set_option maxHeartbeats 4000000
/-! _law_is_web -/
namespace Wb
open PySem PySem.Spec PyProof.Rows L2
theorem ty_tup {K : PySem.W.Frag} {H : Hp} {p : Addr} {xs : List V} (h : SqT K H p xs) : TyX K H (.ref p) (.type "tuple") := by
  rcases h with (h | ⟨o, h⟩) | ⟨o, its, n, h, hc, _⟩
  · exact .base (.tup h)
  · exact .fTuple h
  · exact .kTuple h hc
theorem ty_lst {K : PySem.W.Frag} {H : Hp} {p : Addr} {xs : List V} (h : SqL K H p xs) : TyX K H (.ref p) (.type "list") := by
  rcases h with (h | ⟨o, h⟩) | ⟨o, its, n, h, hc, _⟩
  · exact .base (.lst h)
  · exact .base (.frz h)
  · exact .kList h hc
/-- a web as the law wants it -/
def WebOk (x : Nat × Es) : Prop := (∀ e ∈ x.2, e.1 ≤ e.2 ∧ e.2 < x.1) ∧ Asc x.2 ∧ x.1 ≤ 5
theorem WebOk.below {x : Nat × Es} (h : WebOk x) : Below x.1 x.2 := fun e he => ⟨Nat.lt_of_le_of_lt (h.1 e he).1 (h.1 e he).2, (h.1 e he).2⟩
section
variable {P : Program} {w : World} {K : PySem.W.Frag} {mg : Str → Option Value} {base : Heap} {f f_law_is_integer : Addr} {fd fd_law_is_integer : FuncData}
def spIsWeb (K : PySem.W.Frag) : Sp := fun vs H Q _ => ∃ (v : V) (x : Nat × Es), vs = [v] ∧ Dp K H v (pdW x) ∧ WebOk x ∧ ∀ H', Same H H' → Q (.bl true) H'
theorem lex_key {a b : Nat × Nat} (ha : a.2 < 64) (hb : b.2 < 64) (h : key a < key b) : HT.lexLt [(a.1 : Int), (a.2 : Int)] [(b.1 : Int), (b.2 : Int)] = true := by
  unfold key at h
  unfold HT.lexLt
  by_cases e : a.1 = b.1
  · have h2 : a.2 < b.2 := by omega
    rw [if_pos (by omega)]
    unfold HT.lexLt
    rw [if_neg (by omega)]
    exact decide_eq_true (by omega)
  · have h2 : a.1 < b.1 := by omega
    rw [if_neg (by omega)]
    exact decide_eq_true (by omega)
theorem ok_is_web (B : Bt mg) (F : Fun K "_law_is_web" "_law_is_web" s_law_is_web f fd) (C_law_is_integer : Cal K mg "_law_is_integer" "_law_is_integer" s_law_is_integer f_law_is_integer fd_law_is_integer ["_law_value"])
    (G_law_is_integer : FnOk P w K mg base CX0 1 f_law_is_integer fd_law_is_integer ["_law_value"] spIsInt) : FnOk P w K mg base CX0 2 f fd ["_law_value"] (spIsWeb K) := by
  refine F.ok sc_law_is_web (fun vs H Q E h => ?_) (fun cdv A outer s H vs Q E hr h => ?_)
  · obtain ⟨v, x, rfl, _⟩ := h
    rfl
  · obtain ⟨v, ⟨n, es⟩, rfl, hW, hok, q⟩ := h
    obtain ⟨p, e, vs, rfl, hp, he, hes⟩ := hW.web
    refine ⟨_, (pss_cons (ps_if (PW.pt (pw_or (pt_not (pt_val (pe_callB call_isi (by rfl) B.isinstance (by decide +kernel) (pa_cons (pv 0) (pa_cons (pe_bltn (v := .ty "tuple") (u := .type "tuple") (by rfl) B.tuple (by decide +kernel) rfl) pa_nil))))) (pw_or (pt_cmpR op_ne (pe_callB call_len_seq (by rfl) B.len (by decide +kernel) (pa_cons (pv 0) pa_nil)) pe_int (nomark _)) (pw_or (pt_not (pt_val (pe_call G_law_is_integer (hr.mono (by decide)) (by rfl) C_law_is_integer.g C_law_is_integer.F.kp C_law_is_integer.b .nil pass0 (pa_cons (pe_ix ix_tup (pv 0) pe_int (fun _ _ => rfl)) pa_nil)))) (pw_or1 (pt_not (pt_val (pe_callB call_isi (by rfl) B.isinstance (by decide +kernel) (pa_cons (pe_ix ix_tup (pv 0) pe_int (fun _ _ => rfl)) (pa_cons (pe_bltn (v := .ty "tuple") (u := .type "tuple") (by rfl) B.tuple (by decide +kernel) rfl) pa_nil)))))))))) 
        (pss_one (ps_ret pe_bl)) pss_nil)
      (pss_cons (ps_set (i := 1) sc_law_is_web.nd rfl (Or.inl rfl) (pe_tup (pa_cons (pe_un un_neg pe_int) (pa_cons (pe_un un_neg pe_int) pa_nil))))
      (pss_cons (ps_for PassesOwn.never rfl (pi_tup (pe_ix ix_tup (pv 0) pe_int (fun _ _ => rfl))) (pg_name (i := 2) sc_law_is_web.nd rfl (Or.inl rfl)) 
        (pss_cons (ps_if (PW.pt (pw_or (pt_not (pt_val (pe_callB call_isi (by rfl) B.isinstance (by decide +kernel) (pa_cons (pv 2) (pa_cons (pe_bltn (v := .ty "tuple") (u := .type "tuple") (by rfl) B.tuple (by decide +kernel) rfl) pa_nil))))) (pw_or (pt_cmpR op_ne (pe_callB call_len_seq (by rfl) B.len (by decide +kernel) (pa_cons (pv 2) pa_nil)) pe_int (nomark _)) (pw_or (pt_not (pt_val (pe_call G_law_is_integer (hr.mono (by decide)) (by rfl) C_law_is_integer.g C_law_is_integer.F.kp C_law_is_integer.b .nil pass0 (pa_cons (pe_ix ix_tup (pv 2) pe_int (fun _ _ => rfl)) pa_nil)))) (pw_or1 (pt_not (pt_val (pe_call G_law_is_integer (hr.mono (by decide)) (by rfl) C_law_is_integer.g C_law_is_integer.F.kp C_law_is_integer.b .nil pass0 (pa_cons (pe_ix ix_tup (pv 2) pe_int (fun _ _ => rfl)) pa_nil))))))))) 
          (pss_one (ps_ret pe_bl)) pss_nil)
        (pss_cons (ps_if (PW.pt (pw_or (pt_not (pt_chain3 op_le op_le op_lt pe_int (pe_ix ix_tup (pv 2) pe_int (fun _ _ => rfl)) (pe_ix ix_tup (pv 2) pe_int (fun _ _ => rfl)) (pe_ix ix_tup (pv 0) pe_int (fun _ _ => rfl)))) (pw_or1 (pt_not (pt_cmpR (op_ltT hr.units0) (pv 1) (pv 2) (nomark _)))))) 
          (pss_one (ps_ret pe_bl)) pss_nil)
        (pss_one (ps_set (i := 1) sc_law_is_web.nd rfl (Or.inl rfl) (pv 2))))))
      (pss_one (ps_ret pe_bl))))), ?_⟩
    refine ⟨.ref p, rfl, .ref p, .ty "tuple", .type "tuple", .type "tuple", true, rfl, .ty _, ty_tup hp, kit_ty (by decide +kernel), true, rfl, iteF ?_⟩
    refine ⟨.ref p, rfl, p, _, rfl, .inr hp, rfl, _, rfl, iteF ?_⟩
    refine ⟨.ref p, rfl, p, _, _, _, rfl, rfl, hp, atI_nat (j := 0) rfl, _, rfl, true, rfl, iteF ?_⟩
    refine ⟨.ref p, rfl, p, _, _, _, rfl, rfl, hp, atI_nat (j := 1) rfl, .ref e, .ty "tuple", .type "tuple", .type "tuple", true, rfl, .ty _, ty_tup he, kit_ty (by decide +kernel), true, rfl, iteF ?_⟩
    refine ⟨_, rfl, _, rfl, by show 2 ≤ sizeLine; decide, fun t nt => ?_⟩
    have s0 := Same.put (o := .tup [.int (-1), .int (-1)]) nt
    refine ⟨.ref p, rfl, p, _, _, _, rfl, rfl, s0.tseq hp, atI_nat (j := 1) rfl, e, rfl, ⟨_, s0.tseq he⟩, ?_⟩
    refine for_tup (xs := vs) (fun i σ H' => ∃ l y2, σ = [some (.ref p), some (.ref l), y2] ∧ Same H H' ∧ ∃ ns : List Int, SqT K H' l (ns.map V.int) ∧ ∀ g, es[i]? = some g → HT.lexLt ns [(g.1 : Int), (g.2 : Int)] = true) ⟨t, _, rfl, s0, [-1, -1], .of upd_same, fun g _ => ?_⟩ (fun i σ H' _ h => ?_) (fun i y σ H' ey h => ?_) (fun σ H' h => ?_)
    · simp [HT.lexLt]
      omega
    · obtain ⟨_, _, _, sm, _⟩ := h
      exact sm.tseq he
    · obtain ⟨l, y2, rfl, sm, ns, hl, hlt⟩ := h
      obtain ⟨d, ed, hd⟩ := hes.at_ ey
      rw [List.getElem?_map] at ed
      obtain ⟨g, eg, rfl⟩ := Option.map_eq_some_iff.mp ed
      obtain ⟨t, rfl, ht0⟩ := hd.edge
      have ht := sm.tseq ht0
      have hp := sm.tseq hp
      have hg := hok.1 g (List.mem_of_getElem? eg)
      have hn5 : n ≤ 5 := hok.2.2
      have hg2 : g.2 < n := hg.2
      refine ⟨.ref t, rfl, .ref t, .ty "tuple", .type "tuple", .type "tuple", true, rfl, .ty _, ty_tup ht, kit_ty (by decide +kernel), true, rfl, iteF ?_⟩
      refine ⟨.ref t, rfl, t, _, rfl, .inr ht, rfl, _, rfl, iteF ?_⟩
      refine ⟨.ref t, rfl, t, _, _, _, rfl, rfl, ht, atI_nat (j := 0) rfl, _, rfl, true, rfl, iteF ?_⟩
      refine ⟨.ref t, rfl, t, _, _, _, rfl, rfl, ht, atI_nat (j := 1) rfl, _, rfl, true, rfl, iteF ?_⟩
      refine ⟨.ref t, rfl, t, _, _, _, rfl, rfl, ht, atI_nat (j := 0) rfl, _, _, rfl, rfl, _, rfl, ?_⟩
      rw [show decide ((0 : Int) ≤ (g.1 : Int)) = true from decide_eq_true (by omega)]
      refine iteT ⟨.ref t, rfl, t, _, _, _, rfl, rfl, ht, atI_nat (j := 1) rfl, _, _, rfl, rfl, _, rfl, ?_⟩
      rw [show decide ((g.1 : Int) ≤ (g.2 : Int)) = true from decide_eq_true (by omega)]
      refine iteT ⟨.ref p, rfl, p, _, _, _, rfl, rfl, hp, atI_nat (j := 0) rfl, _, _, rfl, rfl, _, rfl, ?_⟩
      rw [show decide ((g.2 : Int) < (n : Int)) = true from decide_eq_true (by omega)]
      refine iteF ⟨.ref l, rfl, .ref t, rfl, l, t, ns, [(g.1 : Int), (g.2 : Int)], rfl, rfl, hl, ht, _, rfl, ?_⟩
      rw [hlt g eg]
      refine iteF ⟨.ref t, rfl, t, _, rfl, sm, [(g.1 : Int), (g.2 : Int)], ht, fun g2 eg2 => ?_⟩
      have h2 := hok.1 g2 (List.mem_of_getElem? eg2)
      have h22 : g2.2 < n := h2.2
      refine lex_key (by omega) (by omega) ?_
      obtain ⟨i1, e1⟩ := List.getElem?_eq_some_iff.mp eg
      obtain ⟨i2, e2⟩ := List.getElem?_eq_some_iff.mp eg2
      have := List.pairwise_iff_getElem.mp hok.2.1 i (i + 1) i1 i2 (Nat.lt_succ_self i)
      rw [e1, e2] at this
      exact this
    · obtain ⟨l, y2, rfl, sm, _⟩ := h
      exact q H' sm
end
end Wb
-- WR
set_option Elab.async false
set_option linter.all false
set_option maxRecDepth 100000
set_option maxHeartbeats 4000000
/-! _law_is_group -/
namespace Wb
open PySem PySem.Spec PyProof.Rows L2
def cl (x : Nat × Es) : Nat := (codes x).headD 0
def share (x : Nat × Es) : Nat := (codes x).length / (codes x).count (cl x)
/-- a web of the size n with its least code -/
def LeastOk (lp : Bool) (n : Nat) (x : Nat × Es) : Prop := x.1 = n ∧ WebOk x ∧ (lp = false → ∀ e ∈ x.2, e.1 ≠ e.2) ∧ (codes x)[0]? = some (cl x) ∧ ∀ c ∈ codes x, cl x ≤ c
def pairsOf (lp : Bool) (n : Nat) : Nat := n * (n - 1) / 2 + if lp then n else 0
def GroupOk (lp : Bool) (n : Nat) (ws : List (Nat × Es)) : Prop := n ≤ 4 ∧ (∀ x ∈ ws, LeastOk lp n x) ∧ ws.Pairwise (fun a b => cl a < cl b) ∧ (ws.map share).sum = 2 ^ pairsOf lp n
theorem inV_ff : ∀ k : Nat, inV (.bl true) (List.replicate k (.bl false)) = false
  | 0 => rfl
  | k + 1 => by
    rw [List.replicate_succ]
    show (eqV (.bl false) (.bl true) || inV (.bl true) (List.replicate k (.bl false))) = false
    rw [inV_ff k]
    rfl
theorem flat_ff : ∀ k : Nat, (List.replicate k (V.bl false)).all flatV = true
  | 0 => rfl
  | k + 1 => by
    rw [List.replicate_succ]
    exact flat_ff k
theorem bools {K : PySem.W.Frag} {H : Hp} : ∀ {k : Nat} {vs : List V}, DpAll K H vs (List.replicate k (.bool false)) → vs = List.replicate k (.bl false)
  | 0, _, h => by cases h; rfl
  | k + 1, _, h => by
    rw [List.replicate_succ] at h
    cases h with
    | cons h1 h2 => rw [h1.bl_of, bools h2, List.replicate_succ]
theorem tri_int (n : Nat) : (n : Int) * ((n : Int) - 1) / 2 = ((n * (n - 1) / 2 : Nat) : Int) := by
  cases n with
  | zero => rfl
  | succ k =>
    rw [show (((k + 1 : Nat) : Int) - 1) = (k : Int) by omega, Nat.add_sub_cancel]
    simp
theorem nats_int (l : List Nat) : l.map vN = (l.map fun n : Nat => (n : Int)).map V.int := by rw [List.map_map]; rfl
theorem codes_small {x : Nat × Es} (h : x.1 ≤ 5) : (codes x).length ≤ 3125 := by
  unfold codes
  rw [List.length_map]
  exact rens_small h h
theorem sum_take' {α : Type} (g : α → Nat) {xs : List α} {i : Nat} {x : α} (h : xs[i]? = some x) : ((xs.take (i + 1)).map g).sum = ((xs.take i).map g).sum + g x := by
  rw [List.take_add_one, h, List.map_append, List.sum_append]
  show _ + [g x].sum = _
  simp
theorem cnt_cast (a : Nat) : ∀ l : List Nat, (l.map fun k : Nat => (k : Int)).count (a : Int) = l.count a
  | [] => rfl
  | x :: l => by
    rw [List.map_cons, List.count_cons, List.count_cons, cnt_cast a l]
    congr 1
    by_cases h : x = a
    · subst h; simp
    · have h2 : ¬ ((x : Int) = (a : Int)) := by omega
      simp [h, h2]
theorem asc_len : ∀ {es : Es} {k : Nat}, Asc es → (∀ e ∈ es, k ≤ key e) → (∀ e ∈ es, key e < 400) → es.length + k ≤ 400 ∨ es = []
  | [], _, _, _, _ => .inr rfl
  | e :: es, k, h, h1, h2 => by
    obtain ⟨a, b⟩ := List.pairwise_cons.mp h
    have hk := h1 e List.mem_cons_self
    have hk2 := h2 e List.mem_cons_self
    rcases asc_len (k := key e + 1) b (fun g hg => a g hg) (fun g hg => h2 g (List.mem_cons_of_mem _ hg)) with h | h
    · exact .inl (by rw [List.length_cons]; omega)
    · subst h
      exact .inl (by show 1 + k ≤ 400; omega)
theorem es_small {x : Nat × Es} (h : WebOk x) : x.2.length ≤ 400 := by
  rcases asc_len (k := 0) h.2.1 (fun _ _ => Nat.zero_le _) (fun e he => by
    have := h.1 e he
    have := h.2.2
    unfold key
    omega) with h | h
  · omega
  · rw [h]; exact Nat.zero_le _
section
variable {P : Program} {w : World} {K : PySem.W.Frag} {mg : Str → Option Value} {base : Heap} {f f_law_codes : Addr} {fd fd_law_codes : FuncData}
def spGroup (K : PySem.W.Frag) : Sp := fun vs H Q _ => ∃ (g : Addr) (us : List V) (n : Nat) (lp : Bool) (ws : List (Nat × Es)), vs = [.ref g, vN n, .bl lp] ∧ SqL K H g us ∧ DpAll K H us (ws.map pdW) ∧ GroupOk lp n ws ∧ ∀ H', Same H H' → Q (.bl true) H'
theorem ok_is_group (B : Bt mg) (F : Fun K "_law_is_group" "_law_is_group" s_law_is_group f fd) (C_law_codes : Cal K mg "_law_codes" "_law_codes" s_law_codes f_law_codes fd_law_codes ["_law_web_here"])
    (G_law_codes : FnOk P w K mg base CX0 2 f_law_codes fd_law_codes ["_law_web_here"] (spCodes K)) : FnOk P w K mg base CX0 3 f fd ["_law_group", "_law_size", "_law_looped"] (spGroup K) := by
  refine F.ok sc_law_is_group (fun vs H Q E h => ?_) (fun cdv A outer s H vs Q E hr h => ?_)
  · obtain ⟨g, us, n, lp, ws, rfl, _⟩ := h
    rfl
  · obtain ⟨g, us, n, lp, ws, rfl, hg, hus, ⟨hn, hw, hpw, hsum⟩, q⟩ := h
    refine ⟨_, (pss_cons (ps_set (i := 3) sc_law_is_group.nd rfl (Or.inl rfl) (pe_op op_fdiv (pe_op op_mul (pv 1) (pe_op op_sub (pv 1) pe_int)) pe_int))
      (pss_cons (ps_if (pt_val (pv 2)) 
        (pss_one (ps_set (i := 3) sc_law_is_group.nd rfl (Or.inl rfl) (pe_op op_add (pv 3) (pv 1)))) pss_nil)
      (pss_cons (ps_set (i := 4) sc_law_is_group.nd rfl (Or.inl rfl) pe_int)
      (pss_cons (ps_set (i := 5) sc_law_is_group.nd rfl (Or.inl rfl) (pe_un un_neg pe_int))
      (pss_cons (ps_for PassesOwn.never rfl (pi_list (pv 0)) (pg_name (i := 6) sc_law_is_group.nd rfl (Or.inl rfl)) 
        (pss_cons (ps_if (PW.pt (pw_and (pt_not (pt_val (pv 2))) (pw_and1 (pt_cmpR op_in_seq pe_bl (pe_lc (own := [("_law_edge", 8)]) (g := gName 8) (tt := _) (te := _) rfl sc_law_is_group.nd (pi_tup (pe_ix ix_tup (pv 6) pe_int (fun _ _ => rfl))) (blkOk_by (own := [("_law_edge", 8)]) (N := N_law_is_group) (sc := defScope s_law_is_group) (by decide +kernel)) (fun _ _ _ _ _ => (pg_name (i := 8) sc_law_is_group.nd rfl (Or.inl rfl))) (fun _ _ _ _ _ => pts_nil) (fun _ _ _ _ _ => (pe_cmpR op_eq (pe_ix (show IxR _ (rIxT K) from ix_tup) (pv 8) pe_int (fun _ _ => rfl)) (pe_ix (show IxR _ (rIxT K) from ix_tup) (pv 8) pe_int (fun _ _ => rfl)) (nomark _)))) (by with_unfolding_all rfl))))) 
          (pss_one (ps_ret pe_bl)) pss_nil)
        (pss_cons (ps_set (i := 7) sc_law_is_group.nd rfl (Or.inl rfl) (pe_call G_law_codes (hr.mono (by decide)) (by rfl) C_law_codes.g C_law_codes.F.kp C_law_codes.b .nil pass0 (pa_cons (pv 6) pa_nil)))
        (pss_cons (ps_if (PW.pt (pw_or (pt_cmpR op_le (pe_ix ix_list (pv 7) pe_int (fun _ _ => rfl)) (pv 5) (nomark _)) (pw_or1 (pt_cmpR op_lt (pe_callB (cr_min rfl) (by rfl) B.min (by decide +kernel) (pa_cons (pv 7) pa_nil)) (pe_ix ix_list (pv 7) pe_int (fun _ _ => rfl)) (nomark _))))) 
          (pss_one (ps_ret pe_bl)) pss_nil)
        (pss_cons (ps_set (i := 5) sc_law_is_group.nd rfl (Or.inl rfl) (pe_ix ix_list (pv 7) pe_int (fun _ _ => rfl)))
        (pss_one (ps_set (i := 4) sc_law_is_group.nd rfl (Or.inl rfl) (pe_op op_add (pv 4) (pe_op op_fdiv (pe_callB call_len_seq (by rfl) B.len (by decide +kernel) (pa_cons (pv 7) pa_nil)) (pe_bm PySem.F.plainAttrs_list PySem.F.slot_list_count PySem.F.type_list_count mt_lcount (pv 7) (pa_cons (pe_ix ix_list (pv 7) pe_int (fun _ _ => rfl)) pa_nil)))))))))))
      (pss_one (ps_ret (pe_cmpR op_eq (pv 4) (pe_op op_oneShl pe_int (pv 3)) (nomark _))))))))), ?_⟩
    refine ⟨_, rfl, _, rfl, _, _, rfl, rfl, _, _, rfl, rfl, cmul_n (by omega), _, _, rfl, rfl, ⟨by decide, by decide⟩, ?_⟩
    cases lp with
    | true =>
      refine ⟨_, rfl, true, rfl, iteT ⟨_, rfl, _, rfl, _, _, rfl, rfl, _, rfl, .ref g, rfl, g, rfl, ⟨_, hg⟩, ?_⟩⟩
      refine for_list (xs := us) (fun i σ H' => ∃ (z : Int) (y6 y7 y8 : Option V), σ = [some (.ref g), some (vN n), some (.bl true), some (vN (pairsOf true n)), some (vN ((ws.take i).map share).sum), some (.int z), y6, y7, y8] ∧ Same H H' ∧ ∀ x, ws[i]? = some x → z < (cl x : Int)) ⟨-1, none, none, none, ?_, Same.refl H, fun x _ => by omega⟩ (fun i σ H' _ h => ?_) (fun i v σ H1 ev h => ?_) (fun σ H' h => ?_)
      · have e1 := tri_int n
        have e2 : ((n : Int) * ((n : Int) - 1) / 2 + (n : Int)) = ((pairsOf true n : Nat) : Int) := by
          rw [e1]
          rfl
        show [_, _, _, some (V.int _), _, _, _, _, _] = _
        rw [e2]
        rfl
      · obtain ⟨_, _, _, _, _, sm, _⟩ := h
        exact sm.seq hg
      · obtain ⟨z, y6, y7, y8, rfl, sm, hz⟩ := h
        obtain ⟨d, ed, hd⟩ := hus.at_ ev
        rw [List.getElem?_map] at ed
        obtain ⟨x, ex, rfl⟩ := Option.map_eq_some_iff.mp ed
        obtain ⟨hxn, hok, hnl, hc0, hle⟩ := hw x (List.mem_of_getElem? ex)
        have hd1 := hd.same sm
        obtain ⟨p, e, es, rfl, hp, he, hes⟩ := hd1.web
        have s2 : Same H1 H1 := Same.refl _
        refine ⟨_, rfl, true, rfl, iteF (iteF ?_)⟩
        refine ⟨.ref p, rfl, .ref p, x, rfl, hd1.same s2, hok.2.2, hok.below, fun H3 cp s3 ncp hcp => ?_⟩
        have g0 : ((codes x).map vN)[0]? = some (vN (cl x)) := by rw [List.getElem?_map, hc0]; rfl
        have hL : SqL K H3 cp ((codes x).map vN) := .of hcp
        refine ⟨.ref cp, rfl, cp, _, _, _, rfl, rfl, hL, atI_nat (j := 0) g0, _, rfl, _, _, rfl, rfl, _, rfl, ?_⟩
        rw [show decide ((cl x : Int) ≤ z) = false from decide_eq_false (by have := hz x ex; omega)]
        refine iteF ⟨.ref cp, rfl, cp, _, rfl, by rw [← nats_int]; exact hL, ?_, fun m hm _ => ?_⟩
        · rw [List.length_map]
          exact (List.getElem?_eq_some_iff.mp hc0).1
        obtain ⟨m0, hm0, rfl⟩ := List.mem_map.mp hm
        refine ⟨.ref cp, rfl, cp, _, _, _, rfl, rfl, hL, atI_nat (j := 0) g0, _, _, rfl, rfl, _, rfl, ?_⟩
        rw [show decide ((m0 : Int) < (cl x : Int)) = false from decide_eq_false (by have := hle m0 hm0; omega)]
        refine iteF ⟨.ref cp, rfl, cp, _, _, _, rfl, rfl, hL, atI_nat (j := 0) g0, ?_⟩
        have cpos : 0 < (codes x).count (cl x) := List.count_pos_iff.mpr (List.mem_of_getElem? hc0)
        have csm : (codes x).count (cl x) ≤ 3125 := Nat.le_trans List.count_le_length (codes_small hok.2.2)
        have ccount : ((codes x).map fun k : Nat => (k : Int)).count ((cl x : Nat) : Int) = (codes x).count (cl x) := cnt_cast _ _
        refine ⟨_, rfl, .ref cp, rfl, cp, _, rfl, .inl hL, .ref cp, rfl, .inl ⟨rfl, _, .inl (.inl hcp)⟩, .ref cp, rfl, cp, _, _, _, rfl, rfl, hL, atI_nat (j := 0) g0, cp, _, (cl x : Nat), rfl, rfl, by rw [← nats_int]; exact hL, ?_⟩
        rw [ccount]
        refine ⟨_, _, rfl, rfl, ⟨by omega, by omega⟩, _, _, rfl, rfl, (cl x : Nat), some (.ref p), some (.ref cp), y8, ?_, (sm.trans s2).trans s3, fun x2 ex2 => ?_⟩
        · rw [sum_take' share ex]
          have e1 : (((((ws.take i).map share).sum : Nat) : Int) + ((((codes x).map vN).length : Nat) : Int) / (((codes x).count (cl x) : Nat) : Int)) = (((((ws.take i).map share).sum + share x : Nat)) : Int) := by
            rw [List.length_map]
            unfold share
            simp
          show [_, _, _, _, some (V.int _), _, _, _, _] = _
          rw [e1]
        · obtain ⟨i1, e1⟩ := List.getElem?_eq_some_iff.mp ex
          obtain ⟨i2, e2⟩ := List.getElem?_eq_some_iff.mp ex2
          have := List.pairwise_iff_getElem.mp hpw i (i + 1) i1 i2 (Nat.lt_succ_self i)
          rw [e1, e2] at this
          omega
      · obtain ⟨z, y6, y7, y8, rfl, sm, _⟩ := h
        have el : us.length = ws.length := by rw [hus.len, List.length_map]
        have hp4 : pairsOf true n ≤ 134217727 := by
          unfold pairsOf
          have h1 : n * (n - 1) / 2 ≤ 4 * 4 / 2 := Nat.div_le_div_right (Nat.mul_le_mul hn (by omega))
          split <;> omega
        refine ⟨_, rfl, _, rfl, pairsOf true n, rfl, rfl, hp4, rfl, ?_⟩
        have e2 : decide (V.int ((((ws.take us.length).map share).sum : Nat) : Int) = V.int (2 ^ pairsOf true n)) = true := by
          rw [el, List.take_length, hsum]
          refine decide_eq_true (congrArg V.int ?_)
          simp
        rw [e2]
        exact q H' sm
    | false =>
      refine ⟨_, rfl, false, rfl, iteF ⟨_, rfl, .ref g, rfl, g, rfl, ⟨_, hg⟩, ?_⟩⟩
      refine for_list (xs := us) (fun i σ H' => ∃ (z : Int) (y6 y7 y8 : Option V), σ = [some (.ref g), some (vN n), some (.bl false), some (vN (pairsOf false n)), some (vN ((ws.take i).map share).sum), some (.int z), y6, y7, y8] ∧ Same H H' ∧ ∀ x, ws[i]? = some x → z < (cl x : Int)) ⟨-1, none, none, none, ?_, Same.refl H, fun x _ => by omega⟩ (fun i σ H' _ h => ?_) (fun i v σ H1 ev h => ?_) (fun σ H' h => ?_)
      · have e1 := tri_int n
        have e2 : ((n : Int) * ((n : Int) - 1) / 2) = ((pairsOf false n : Nat) : Int) := e1
        show [_, _, _, some (V.int _), _, _, _, _, _] = _
        rw [e2]
        rfl
      · obtain ⟨_, _, _, _, _, sm, _⟩ := h
        exact sm.seq hg
      · obtain ⟨z, y6, y7, y8, rfl, sm, hz⟩ := h
        obtain ⟨d, ed, hd⟩ := hus.at_ ev
        rw [List.getElem?_map] at ed
        obtain ⟨x, ex, rfl⟩ := Option.map_eq_some_iff.mp ed
        obtain ⟨hxn, hok, hnl, hc0, hle⟩ := hw x (List.mem_of_getElem? ex)
        have hd1 := hd.same sm
        obtain ⟨p, e, es, rfl, hp, he, hes⟩ := hd1.web
        refine ⟨_, rfl, false, rfl, iteT ⟨.ref p, rfl, p, _, _, _, rfl, rfl, hp, atI_nat (j := 1) rfl, e, rfl, ⟨_, he⟩, fun D nD => ?_⟩⟩
        refine lcD_tup (K := K) (xs := es) (fun i => List.replicate i (.bool false)) nD rfl he (fun i => noLs_iff.mpr fun d hd => by rw [List.eq_of_mem_replicate hd]; rfl) (fun i hi => ?_) (fun i y H2 ky kn ey s2 fy fn => ?_) (fun H2 ys s2 hD hys => ?_)
        · rw [List.length_replicate]
          have hel : es.length = x.2.length := by rw [hes.len, List.length_map]
          have := es_small hok
          exact line_lt (by omega)
        · obtain ⟨d, ed, hd2⟩ := hes.at_ ey
          rw [List.getElem?_map] at ed
          obtain ⟨a, ea, rfl⟩ := Option.map_eq_some_iff.mp ed
          obtain ⟨t, rfl, ht⟩ := hd2.edge
          have ht2 := s2.tseq ht
          have hne := hnl rfl a (List.mem_of_getElem? ea)
          refine ⟨rfl, .ref t, rfl, t, _, _, _, rfl, rfl, ht2, atI_nat (j := 0) rfl, .ref t, rfl, t, _, _, _, rfl, rfl, ht2, atI_nat (j := 1) rfl, rfl, fy _ _ (.bool false) (Same.refl _) ?_ List.replicate_succ'⟩
          rw [show decide (vN a.1 = vN a.2) = false from decide_eq_false (fun z => hne (by have := V.int.inj z; omega))]
          exact .bl false
        have eys := bools hys
        subst eys
        refine ⟨D, _, rfl, .inl (.of hD), rfl, flat_ff _, _, rfl, ?_⟩
        rw [inV_ff]
        refine iteF ?_
        refine ⟨.ref p, rfl, .ref p, x, rfl, hd1.same s2, hok.2.2, hok.below, fun H3 cp s3 ncp hcp => ?_⟩
        have g0 : ((codes x).map vN)[0]? = some (vN (cl x)) := by rw [List.getElem?_map, hc0]; rfl
        have hL : SqL K H3 cp ((codes x).map vN) := .of hcp
        refine ⟨.ref cp, rfl, cp, _, _, _, rfl, rfl, hL, atI_nat (j := 0) g0, _, rfl, _, _, rfl, rfl, _, rfl, ?_⟩
        rw [show decide ((cl x : Int) ≤ z) = false from decide_eq_false (by have := hz x ex; omega)]
        refine iteF ⟨.ref cp, rfl, cp, _, rfl, by rw [← nats_int]; exact hL, ?_, fun m hm _ => ?_⟩
        · rw [List.length_map]
          exact (List.getElem?_eq_some_iff.mp hc0).1
        obtain ⟨m0, hm0, rfl⟩ := List.mem_map.mp hm
        refine ⟨.ref cp, rfl, cp, _, _, _, rfl, rfl, hL, atI_nat (j := 0) g0, _, _, rfl, rfl, _, rfl, ?_⟩
        rw [show decide ((m0 : Int) < (cl x : Int)) = false from decide_eq_false (by have := hle m0 hm0; omega)]
        refine iteF ⟨.ref cp, rfl, cp, _, _, _, rfl, rfl, hL, atI_nat (j := 0) g0, ?_⟩
        have cpos : 0 < (codes x).count (cl x) := List.count_pos_iff.mpr (List.mem_of_getElem? hc0)
        have csm : (codes x).count (cl x) ≤ 3125 := Nat.le_trans List.count_le_length (codes_small hok.2.2)
        have ccount : ((codes x).map fun k : Nat => (k : Int)).count ((cl x : Nat) : Int) = (codes x).count (cl x) := cnt_cast _ _
        refine ⟨_, rfl, .ref cp, rfl, cp, _, rfl, .inl hL, .ref cp, rfl, .inl ⟨rfl, _, .inl (.inl hcp)⟩, .ref cp, rfl, cp, _, _, _, rfl, rfl, hL, atI_nat (j := 0) g0, cp, _, (cl x : Nat), rfl, rfl, by rw [← nats_int]; exact hL, ?_⟩
        rw [ccount]
        refine ⟨_, _, rfl, rfl, ⟨by omega, by omega⟩, _, _, rfl, rfl, (cl x : Nat), some (.ref p), some (.ref cp), y8, ?_, (sm.trans s2).trans s3, fun x2 ex2 => ?_⟩
        · rw [sum_take' share ex]
          have e1 : (((((ws.take i).map share).sum : Nat) : Int) + ((((codes x).map vN).length : Nat) : Int) / (((codes x).count (cl x) : Nat) : Int)) = (((((ws.take i).map share).sum + share x : Nat)) : Int) := by
            rw [List.length_map]
            unfold share
            simp
          show [_, _, _, _, some (V.int _), _, _, _, _] = _
          rw [e1]
        · obtain ⟨i1, e1⟩ := List.getElem?_eq_some_iff.mp ex
          obtain ⟨i2, e2⟩ := List.getElem?_eq_some_iff.mp ex2
          have := List.pairwise_iff_getElem.mp hpw i (i + 1) i1 i2 (Nat.lt_succ_self i)
          rw [e1, e2] at this
          omega
      · obtain ⟨z, y6, y7, y8, rfl, sm, _⟩ := h
        have el : us.length = ws.length := by rw [hus.len, List.length_map]
        have hp4 : pairsOf false n ≤ 134217727 := by
          unfold pairsOf
          have h1 : n * (n - 1) / 2 ≤ 4 * 4 / 2 := Nat.div_le_div_right (Nat.mul_le_mul hn (by omega))
          split <;> omega
        refine ⟨_, rfl, _, rfl, pairsOf false n, rfl, rfl, hp4, rfl, ?_⟩
        have e2 : decide (V.int ((((ws.take us.length).map share).sum : Nat) : Int) = V.int (2 ^ pairsOf false n)) = true := by
          rw [el, List.take_length, hsum]
          refine decide_eq_true (congrArg V.int ?_)
          simp
        rw [e2]
        exact q H' sm
end
end Wb
-- WS
set_option Elab.async false
set_option linter.all false
set_option maxRecDepth 100000
set_option maxHeartbeats 4000000
/-! _law_same: of equal data it is True -/
namespace Wb
open PySem PySem.Spec PyProof.Rows L2
/-- data of whole numbers, texts, lists, tuples, less than m deep -/
def okS : Nat → PyData → Bool
  | 0, _ => false
  | m + 1, d => match d with
    | .int _ => true
    | .str _ => true
    | .list ds => decide (ds.length ≤ 100000) && ds.all (okS m)
    | .tuple ds => decide (ds.length ≤ 100000) && ds.all (okS m)
    | _ => false
theorem okS_seq {m : Nat} {ds : List PyData} (h : (decide (ds.length ≤ 100000) && ds.all (okS m)) = true) : ds.length ≤ 100000 ∧ ∀ d ∈ ds, okS m d = true := by
  rw [Bool.and_eq_true] at h
  exact ⟨of_decide_eq_true h.1, List.all_eq_true.mp h.2⟩
section
variable {P : Program} {w : World} {K : PySem.W.Frag} {mg : Str → Option Value} {base : Heap} {f : Addr} {fd : FuncData}
def spSame (K : PySem.W.Frag) (m : Nat) : Sp := fun vs H Q _ => ∃ (u v : V) (d : PyData), vs = [u, v] ∧ okS m d = true ∧ Dp K H u d ∧ Dp K H v d ∧ Q (.bl true) H
theorem same_step (B : Bt mg) (C_law_same : Cal K mg "_law_same" "_law_same" s_law_same f fd ["_law_first", "_law_second"]) {m : Nat} (G_law_same : FnOk P w K mg base CX0 m f fd ["_law_first", "_law_second"] (spSame K m)) : FnOk P w K mg base CX0 (m + 1) f fd ["_law_first", "_law_second"] (spSame K (m + 1)) := by
  refine C_law_same.F.ok sc_law_same (fun vs H Q E h => ?_) (fun cdv A outer s H vs Q E hr h => ?_)
  · obtain ⟨u, v, d, rfl, _⟩ := h
    rfl
  · obtain ⟨u, v, d, rfl, ok, hu, hv, q⟩ := h
    refine ⟨_, (pss_cons (ps_if (PW.pt (pw_or (pt_val (pe_callB call_isi (by rfl) B.isinstance (by decide +kernel) (pa_cons (pv 0) (pa_cons (pe_bltn (v := .ty "bool") (u := .type "bool") (by rfl) B.bool (by decide +kernel) rfl) pa_nil)))) (pw_or1 (pt_val (pe_callB call_isi (by rfl) B.isinstance (by decide +kernel) (pa_cons (pv 1) (pa_cons (pe_bltn (v := .ty "bool") (u := .type "bool") (by rfl) B.bool (by decide +kernel) rfl) pa_nil))))))) 
        (pss_one (ps_ret (pe_and (pe_callB call_isi (by rfl) B.isinstance (by decide +kernel) (pa_cons (pv 0) (pa_cons (pe_bltn (v := .ty "bool") (u := .type "bool") (by rfl) B.bool (by decide +kernel) rfl) pa_nil))) (pe_and (pe_callB call_isi (by rfl) B.isinstance (by decide +kernel) (pa_cons (pv 1) (pa_cons (pe_bltn (v := .ty "bool") (u := .type "bool") (by rfl) B.bool (by decide +kernel) rfl) pa_nil))) (pe_one (pe_cmpR op_eq (pv 0) (pv 1) (nomark _))))))) pss_nil)
      (pss_cons (ps_if (PW.pt (pw_or (pt_cmpR op_isN (pv 0) pe_non (nomark _)) (pw_or1 (pt_cmpR op_isN (pv 1) pe_non (nomark _))))) 
        (pss_one (ps_ret (pe_and (pe_cmpR op_isN (pv 0) pe_non (nomark _)) (pe_one (pe_cmpR op_isN (pv 1) pe_non (nomark _)))))) pss_nil)
      (pss_cons (ps_if (pt_val (pe_callB call_isi (by rfl) B.isinstance (by decide +kernel) (pa_cons (pv 0) (pa_cons (pe_bltn (v := .ty "int") (u := .type "int") (by rfl) B.int (by decide +kernel) rfl) pa_nil)))) 
        (pss_one (ps_ret (pe_and (pe_callB call_isi (by rfl) B.isinstance (by decide +kernel) (pa_cons (pv 1) (pa_cons (pe_bltn (v := .ty "int") (u := .type "int") (by rfl) B.int (by decide +kernel) rfl) pa_nil))) (pe_one (pe_cmpR op_eq (pv 0) (pv 1) (nomark _)))))) pss_nil)
      (pss_cons (ps_if (pt_val (pe_callB call_isi (by rfl) B.isinstance (by decide +kernel) (pa_cons (pv 0) (pa_cons (pe_bltn (v := .ty "str") (u := .type "str") (by rfl) B.str (by decide +kernel) rfl) pa_nil)))) 
        (pss_one (ps_ret (pe_and (pe_callB call_isi (by rfl) B.isinstance (by decide +kernel) (pa_cons (pv 1) (pa_cons (pe_bltn (v := .ty "str") (u := .type "str") (by rfl) B.str (by decide +kernel) rfl) pa_nil))) (pe_one (pe_cmpR op_eq (pv 0) (pv 1) (nomark _)))))) pss_nil)
      (pss_cons (ps_if (PW.pt (pw_or (pt_cmpR op_ne (pe_callB call_isi (by rfl) B.isinstance (by decide +kernel) (pa_cons (pv 0) (pa_cons (pe_bltn (v := .ty "tuple") (u := .type "tuple") (by rfl) B.tuple (by decide +kernel) rfl) pa_nil))) (pe_callB call_isi (by rfl) B.isinstance (by decide +kernel) (pa_cons (pv 1) (pa_cons (pe_bltn (v := .ty "tuple") (u := .type "tuple") (by rfl) B.tuple (by decide +kernel) rfl) pa_nil))) (nomark _)) (pw_or1 (pt_cmpR op_ne (pe_callB call_isi (by rfl) B.isinstance (by decide +kernel) (pa_cons (pv 0) (pa_cons (pe_bltn (v := .ty "list") (u := .type "list") (by rfl) B.list (by decide +kernel) rfl) pa_nil))) (pe_callB call_isi (by rfl) B.isinstance (by decide +kernel) (pa_cons (pv 1) (pa_cons (pe_bltn (v := .ty "list") (u := .type "list") (by rfl) B.list (by decide +kernel) rfl) pa_nil))) (nomark _))))) 
        (pss_one (ps_ret pe_bl)) pss_nil)
      (pss_cons (ps_if (PW.pt (pw_and (pt_not (pt_val (pe_callB call_isi (by rfl) B.isinstance (by decide +kernel) (pa_cons (pv 0) (pa_cons (pe_bltn (v := .ty "list") (u := .type "list") (by rfl) B.list (by decide +kernel) rfl) pa_nil))))) (pw_and1 (pt_not (pt_val (pe_callB call_isi (by rfl) B.isinstance (by decide +kernel) (pa_cons (pv 0) (pa_cons (pe_bltn (v := .ty "tuple") (u := .type "tuple") (by rfl) B.tuple (by decide +kernel) rfl) pa_nil)))))))) 
        (pss_one (ps_ret pe_bl)) pss_nil)
      (pss_cons (ps_if (pt_cmpR op_ne (pe_callB call_len_seq (by rfl) B.len (by decide +kernel) (pa_cons (pv 0) pa_nil)) (pe_callB call_len_seq (by rfl) B.len (by decide +kernel) (pa_cons (pv 1) pa_nil)) (nomark _)) 
        (pss_one (ps_ret pe_bl)) pss_nil)
      (pss_cons (ps_for PassesOwn.never rfl (pi_range1 (by rfl) B.range (pa_cons (pe_callB call_len_seq (by rfl) B.len (by decide +kernel) (pa_cons (pv 0) pa_nil)) pa_nil)) (pg_name (i := 2) sc_law_same.nd rfl (Or.inl rfl)) 
        (pss_one (ps_if (pt_not (pt_val (pe_call G_law_same hr (by rfl) C_law_same.g C_law_same.F.kp C_law_same.b .nil pass0 (pa_cons (pe_ix ix_seq (pv 0) (pv 2) (fun _ _ => rfl)) (pa_cons (pe_ix ix_seq (pv 1) (pv 2) (fun _ _ => rfl)) pa_nil))))) 
          (pss_one (ps_ret pe_bl)) pss_nil)))
      (pss_one (ps_ret pe_bl)))))))))), ?_⟩
    cases d with
    | none => cases ok
    | bool _ => cases ok
    | dict _ => cases ok
    | int i =>
      obtain rfl := hu.int_of
      obtain rfl := hv.int_of
      refine ⟨_, rfl, .int i, .ty "bool", .type "int", .type "bool", false, rfl, .ty _, .base (.int i), kit_ty (by decide +kernel), false, rfl, iteF ⟨_, rfl, .int i, .ty "bool", .type "int", .type "bool", false, rfl, .ty _, .base (.int i), kit_ty (by decide +kernel), false, rfl, iteF ?_⟩⟩
      refine ⟨_, rfl, rfl, _, rfl, iteF ⟨_, rfl, rfl, _, rfl, iteF ?_⟩⟩
      refine ⟨_, rfl, .int i, .ty "int", .type "int", .type "int", true, rfl, .ty _, .base (.int i), kit_ty (by decide +kernel), true, rfl, iteT ?_⟩
      refine ⟨_, rfl, .int i, .ty "int", .type "int", .type "int", true, rfl, .ty _, .base (.int i), kit_ty (by decide +kernel), true, rfl, iteT ⟨_, rfl, _, rfl, rfl, ?_⟩⟩
      rw [decide_eq_true rfl]
      exact q
    | str z =>
      obtain rfl := hu.str_of
      obtain rfl := hv.str_of
      refine ⟨_, rfl, .str z, .ty "bool", .type "str", .type "bool", false, rfl, .ty _, .base (.str z), kit_ty (by decide +kernel), false, rfl, iteF ⟨_, rfl, .str z, .ty "bool", .type "str", .type "bool", false, rfl, .ty _, .base (.str z), kit_ty (by decide +kernel), false, rfl, iteF ?_⟩⟩
      refine ⟨_, rfl, rfl, _, rfl, iteF ⟨_, rfl, rfl, _, rfl, iteF ?_⟩⟩
      refine ⟨_, rfl, .str z, .ty "int", .type "str", .type "int", false, rfl, .ty _, .base (.str z), kit_ty (by decide +kernel), false, rfl, iteF ?_⟩
      refine ⟨_, rfl, .str z, .ty "str", .type "str", .type "str", true, rfl, .ty _, .base (.str z), kit_ty (by decide +kernel), true, rfl, iteT ?_⟩
      refine ⟨_, rfl, .str z, .ty "str", .type "str", .type "str", true, rfl, .ty _, .base (.str z), kit_ty (by decide +kernel), true, rfl, iteT ⟨_, rfl, _, rfl, rfl, ?_⟩⟩
      rw [decide_eq_true rfl]
      exact q
    | list ds =>
      obtain ⟨a, xs, rfl, ha, hxs⟩ := Dp.lst_of hu
      obtain ⟨b, ys, rfl, hb, hys⟩ := Dp.lst_of hv
      have ex := hxs.len
      have ey := hys.len
      have hok : ds.length ≤ 100000 ∧ ∀ d ∈ ds, okS m d = true := okS_seq ok
      refine ⟨_, rfl, .ref a, .ty "bool", .type "list", .type "bool", false, rfl, .ty _, (ty_lst ha), kit_ty (by decide +kernel), false, rfl, iteF ⟨_, rfl, .ref b, .ty "bool", .type "list", .type "bool", false, rfl, .ty _, (ty_lst hb), kit_ty (by decide +kernel), false, rfl, iteF ?_⟩⟩
      refine ⟨_, rfl, rfl, _, rfl, iteF ⟨_, rfl, rfl, _, rfl, iteF ?_⟩⟩
      refine ⟨_, rfl, .ref a, .ty "int", .type "list", .type "int", false, rfl, .ty _, (ty_lst ha), kit_ty (by decide +kernel), false, rfl, iteF ?_⟩
      refine ⟨_, rfl, .ref a, .ty "str", .type "list", .type "str", false, rfl, .ty _, (ty_lst ha), kit_ty (by decide +kernel), false, rfl, iteF ?_⟩
      refine ⟨_, rfl, .ref a, .ty "tuple", .type "list", .type "tuple", false, rfl, .ty _, (ty_lst ha), kit_ty (by decide +kernel), _, rfl, .ref b, .ty "tuple", .type "list", .type "tuple", false, rfl, .ty _, (ty_lst hb), kit_ty (by decide +kernel), rfl, _, rfl, iteF ⟨_, rfl, .ref a, .ty "list", .type "list", .type "list", true, rfl, .ty _, (ty_lst ha), kit_ty (by decide +kernel), _, rfl, .ref b, .ty "list", .type "list", .type "list", true, rfl, .ty _, (ty_lst hb), kit_ty (by decide +kernel), rfl, _, rfl, iteF ?_⟩⟩
      refine ⟨_, rfl, .ref a, .ty "list", .type "list", .type "list", true, rfl, .ty _, (ty_lst ha), kit_ty (by decide +kernel), true, rfl, iteF (iteF ?_)⟩
      refine ⟨_, rfl, a, xs, rfl, .inl ha, _, rfl, b, ys, rfl, .inl hb, rfl, _, rfl, ?_⟩
      rw [ey, ex, show (!decide (V.int ((ds.length : Nat) : Int) = V.int ((ds.length : Nat) : Int))) = false by simp]
      refine iteF ⟨_, rfl, a, xs, rfl, .inl ha, ((xs.length : Nat) : Int), rfl, by omega, by omega, ?_⟩
      rw [Int.toNat_natCast]
      refine for_range (lo := 0) (n := xs.length) (fun i σ H' => ∃ y2, σ = [some (.ref a), some (.ref b), y2] ∧ H' = H) ⟨_, rfl, rfl⟩ (fun i σ H' hi h => ?_) (fun σ H' h => ?_)
      · obtain ⟨y2, rfl, rfl⟩ := h
        rw [Int.zero_add]
        obtain ⟨d, ed, hda⟩ := hxs.at_ (List.getElem?_eq_getElem hi)
        obtain ⟨v, ev, hdb⟩ := hys.to_ ed
        have okd := hok.2 d (List.mem_of_getElem? ed)
        exact ⟨_, rfl, _, rfl, .inl ⟨a, xs, _, _, rfl, rfl, ha, atI_nat (List.getElem?_eq_getElem hi), _, rfl, _, rfl, .inl ⟨b, ys, _, _, rfl, rfl, hb, atI_nat ev, _, _, d, rfl, okd, hda, hdb, true, rfl, iteF ⟨_, rfl, rfl⟩⟩⟩⟩
      · obtain ⟨y2, rfl, rfl⟩ := h
        exact q
    | tuple ds =>
      obtain ⟨a, xs, rfl, ha, hxs⟩ := Dp.tup_of hu
      obtain ⟨b, ys, rfl, hb, hys⟩ := Dp.tup_of hv
      have ex := hxs.len
      have ey := hys.len
      have hok : ds.length ≤ 100000 ∧ ∀ d ∈ ds, okS m d = true := okS_seq ok
      refine ⟨_, rfl, .ref a, .ty "bool", .type "tuple", .type "bool", false, rfl, .ty _, (ty_tup ha), kit_ty (by decide +kernel), false, rfl, iteF ⟨_, rfl, .ref b, .ty "bool", .type "tuple", .type "bool", false, rfl, .ty _, (ty_tup hb), kit_ty (by decide +kernel), false, rfl, iteF ?_⟩⟩
      refine ⟨_, rfl, rfl, _, rfl, iteF ⟨_, rfl, rfl, _, rfl, iteF ?_⟩⟩
      refine ⟨_, rfl, .ref a, .ty "int", .type "tuple", .type "int", false, rfl, .ty _, (ty_tup ha), kit_ty (by decide +kernel), false, rfl, iteF ?_⟩
      refine ⟨_, rfl, .ref a, .ty "str", .type "tuple", .type "str", false, rfl, .ty _, (ty_tup ha), kit_ty (by decide +kernel), false, rfl, iteF ?_⟩
      refine ⟨_, rfl, .ref a, .ty "tuple", .type "tuple", .type "tuple", true, rfl, .ty _, (ty_tup ha), kit_ty (by decide +kernel), _, rfl, .ref b, .ty "tuple", .type "tuple", .type "tuple", true, rfl, .ty _, (ty_tup hb), kit_ty (by decide +kernel), rfl, _, rfl, iteF ⟨_, rfl, .ref a, .ty "list", .type "tuple", .type "list", false, rfl, .ty _, (ty_tup ha), kit_ty (by decide +kernel), _, rfl, .ref b, .ty "list", .type "tuple", .type "list", false, rfl, .ty _, (ty_tup hb), kit_ty (by decide +kernel), rfl, _, rfl, iteF ?_⟩⟩
      refine ⟨_, rfl, .ref a, .ty "list", .type "tuple", .type "list", false, rfl, .ty _, (ty_tup ha), kit_ty (by decide +kernel), false, rfl, iteT ⟨_, rfl, .ref a, .ty "tuple", .type "tuple", .type "tuple", true, rfl, .ty _, (ty_tup ha), kit_ty (by decide +kernel), true, rfl, iteF ?_⟩⟩
      refine ⟨_, rfl, a, xs, rfl, .inr ha, _, rfl, b, ys, rfl, .inr hb, rfl, _, rfl, ?_⟩
      rw [ey, ex, show (!decide (V.int ((ds.length : Nat) : Int) = V.int ((ds.length : Nat) : Int))) = false by simp]
      refine iteF ⟨_, rfl, a, xs, rfl, .inr ha, ((xs.length : Nat) : Int), rfl, by omega, by omega, ?_⟩
      rw [Int.toNat_natCast]
      refine for_range (lo := 0) (n := xs.length) (fun i σ H' => ∃ y2, σ = [some (.ref a), some (.ref b), y2] ∧ H' = H) ⟨_, rfl, rfl⟩ (fun i σ H' hi h => ?_) (fun σ H' h => ?_)
      · obtain ⟨y2, rfl, rfl⟩ := h
        rw [Int.zero_add]
        obtain ⟨d, ed, hda⟩ := hxs.at_ (List.getElem?_eq_getElem hi)
        obtain ⟨v, ev, hdb⟩ := hys.to_ ed
        have okd := hok.2 d (List.mem_of_getElem? ed)
        exact ⟨_, rfl, _, rfl, .inr (.inl ⟨a, xs, _, _, rfl, rfl, ha, atI_nat (List.getElem?_eq_getElem hi), _, rfl, _, rfl, .inr (.inl ⟨b, ys, _, _, rfl, rfl, hb, atI_nat ev, _, _, d, rfl, okd, hda, hdb, true, rfl, iteF ⟨_, rfl, rfl⟩⟩)⟩)⟩
      · obtain ⟨y2, rfl, rfl⟩ := h
        exact q
theorem ok_same (B : Bt mg) (C_law_same : Cal K mg "_law_same" "_law_same" s_law_same f fd ["_law_first", "_law_second"]) : ∀ m, FnOk P w K mg base CX0 m f fd ["_law_first", "_law_second"] (spSame K m)
  | 0 => ⟨fun vs H Q E h => by obtain ⟨u, v, d, rfl, _⟩ := h; rfl, fun A outer s H args us vs Q E _ _ _ _ h => by obtain ⟨u, v, d, _, ok, _⟩ := h; cases ok⟩
  | m + 1 => same_step B C_law_same (ok_same B C_law_same m)
end
end Wb
-- WT
set_option Elab.async false
set_option linter.all false
set_option maxRecDepth 100000
set_option maxHeartbeats 4000000
/-! _law_is_catalogue -/
namespace Wb
open PySem PySem.Spec PyProof.Rows L2
theorem okS_mono : ∀ {m k : Nat} {d : PyData}, m ≤ k → okS m d = true → okS k d = true
  | 0, _, _, _, h => by cases h
  | m + 1, 0, _, hk, _ => by omega
  | m + 1, k + 1, .int _, _, _ => rfl
  | m + 1, k + 1, .str _, _, _ => rfl
  | m + 1, k + 1, .none, _, h => by cases h
  | m + 1, k + 1, .bool _, _, h => by cases h
  | m + 1, k + 1, .dict _, _, h => by cases h
  | m + 1, k + 1, .list ds, hk, h => by
    have h2 := okS_seq (m := m) h
    show (decide (ds.length ≤ 100000) && ds.all (okS k)) = true
    rw [Bool.and_eq_true]
    exact ⟨decide_eq_true h2.1, List.all_eq_true.mpr fun d hd => okS_mono (Nat.le_of_succ_le_succ hk) (h2.2 d hd)⟩
  | m + 1, k + 1, .tuple ds, hk, h => by
    have h2 := okS_seq (m := m) h
    show (decide (ds.length ≤ 100000) && ds.all (okS k)) = true
    rw [Bool.and_eq_true]
    exact ⟨decide_eq_true h2.1, List.all_eq_true.mpr fun d hd => okS_mono (Nat.le_of_succ_le_succ hk) (h2.2 d hd)⟩
theorem okS_list {m : Nat} {ds : List PyData} (hl : ds.length ≤ 100000) (h : ∀ d ∈ ds, okS m d = true) : okS (m + 1) (.list ds) = true := by
  show (decide (ds.length ≤ 100000) && ds.all (okS m)) = true
  rw [Bool.and_eq_true]
  exact ⟨decide_eq_true hl, List.all_eq_true.mpr h⟩
theorem okS_tup {m : Nat} {ds : List PyData} (hl : ds.length ≤ 100000) (h : ∀ d ∈ ds, okS m d = true) : okS (m + 1) (.tuple ds) = true := by
  show (decide (ds.length ≤ 100000) && ds.all (okS m)) = true
  rw [Bool.and_eq_true]
  exact ⟨decide_eq_true hl, List.all_eq_true.mpr h⟩
theorem okS_two {m : Nat} {d e : PyData} (h1 : okS m d = true) (h2 : okS m e = true) : okS (m + 1) (.tuple [d, e]) = true :=
  okS_tup (by show 2 ≤ 100000; decide) fun x hx => by
    rcases List.mem_cons.mp hx with rfl | hx
    · exact h1
    · rw [List.mem_singleton.mp hx]; exact h2
theorem okS_web {x : Nat × Es} (h : x.2.length ≤ 100000) : okS 4 (pdW x) = true := by
  refine okS_two rfl (okS_tup (by rw [List.length_map]; exact h) fun d hd => ?_)
  obtain ⟨e, _, rfl⟩ := List.mem_map.mp hd
  exact okS_two rfl rfl
theorem okS_webs {ws : List (Nat × Es)} (hl : ws.length ≤ 100000) (h : ∀ x ∈ ws, x.2.length ≤ 100000) : okS 5 (.list (ws.map pdW)) = true :=
  okS_list (by rw [List.length_map]; exact hl) fun d hd => by
    obtain ⟨x, hx, rfl⟩ := List.mem_map.mp hd
    exact okS_web (h x hx)
def bySize (ws : List (Nat × Es)) (n : Nat) : List (Nat × Es) := ws.filter fun x => x.1 == n
def CatOk (lp : Bool) (n : Nat) (ws : List (Nat × Es)) : Prop := n ≤ 4 ∧ ws.length ≤ 1000 ∧ (∀ x ∈ ws, WebOk x) ∧ (∀ i, i ≤ n → GroupOk lp i (bySize ws i)) ∧ (List.range (n + 1)).flatMap (bySize ws) = ws
section
variable {P : Program} {w : World} {K : PySem.W.Frag} {mg : Str → Option Value} {base : Heap} {f f_law_is_web f_law_is_group f_law_same : Addr} {fd fd_law_is_web fd_law_is_group fd_law_same : FuncData}
def spIsCat (K : PySem.W.Frag) : Sp := fun vs H Q _ => ∃ (l : Addr) (us : List V) (n : Nat) (lp : Bool) (ws : List (Nat × Es)), vs = [.ref l, vN n, .bl lp] ∧ SqL K H l us ∧ DpAll K H us (ws.map pdW) ∧ CatOk lp n ws ∧ ∀ H', Same H H' → Q (.bl true) H'
theorem ok_is_catalogue (B : Bt mg) (F : Fun K "_law_is_catalogue" "_law_is_catalogue" s_law_is_catalogue f fd) (C_law_is_web : Cal K mg "_law_is_web" "_law_is_web" s_law_is_web f_law_is_web fd_law_is_web ["_law_value"]) (C_law_is_group : Cal K mg "_law_is_group" "_law_is_group" s_law_is_group f_law_is_group fd_law_is_group ["_law_group", "_law_size", "_law_looped"]) (C_law_same : Cal K mg "_law_same" "_law_same" s_law_same f_law_same fd_law_same ["_law_first", "_law_second"])
    (G_law_is_web : FnOk P w K mg base CX0 2 f_law_is_web fd_law_is_web ["_law_value"] (spIsWeb K)) (G_law_is_group : FnOk P w K mg base CX0 3 f_law_is_group fd_law_is_group ["_law_group", "_law_size", "_law_looped"] (spGroup K)) (G_law_same : FnOk P w K mg base CX0 6 f_law_same fd_law_same ["_law_first", "_law_second"] (spSame K 6)) :
    FnOk P w K mg base CX0 7 f fd ["_law_webs", "_law_limit", "_law_looped"] (spIsCat K) := by
  refine F.ok sc_law_is_catalogue (fun vs H Q E h => ?_) (fun cdv A outer s H vs Q E hr h => ?_)
  · obtain ⟨l, us, n, lp, ws, rfl, _⟩ := h
    rfl
  · obtain ⟨l, us, n, lp, ws, rfl, hl, hus, ⟨hn, hlen, hok, hgrp, hall⟩, q⟩ := h
    refine ⟨_, (pss_cons (ps_if (pt_not (pt_val (pe_callB call_isi (by rfl) B.isinstance (by decide +kernel) (pa_cons (pv 0) (pa_cons (pe_bltn (v := .ty "list") (u := .type "list") (by rfl) B.list (by decide +kernel) rfl) pa_nil))))) 
        (pss_one (ps_ret pe_bl)) pss_nil)
      (pss_cons (ps_for PassesOwn.never rfl (pi_list (pv 0)) (pg_name (i := 3) sc_law_is_catalogue.nd rfl (Or.inl rfl)) 
        (pss_one (ps_if (pt_not (pt_val (pe_call G_law_is_web (hr.mono (by decide)) (by rfl) C_law_is_web.g C_law_is_web.F.kp C_law_is_web.b .nil pass0 (pa_cons (pv 3) pa_nil)))) 
          (pss_one (ps_ret pe_bl)) pss_nil)))
      (pss_cons (ps_set (i := 4) sc_law_is_catalogue.nd rfl (Or.inl rfl) (pe_lst pa_nil))
      (pss_cons (ps_for PassesOwn.never rfl (pi_range1 (by rfl) B.range (pa_cons (pe_op op_add (pv 1) pe_int) pa_nil)) (pg_name (i := 5) sc_law_is_catalogue.nd rfl (Or.inr rfl)) 
        (pss_cons (ps_setLc (i := 6) (own := [("_law_web_here", 3)]) (g := gName 3) (tt := _) (te := _) rfl sc_law_is_catalogue.nd rfl rfl (sw_true rfl rfl rfl (by decide +kernel)) (pi_list (pv 0)) (blkOk_by (own := [("_law_web_here", 3)]) (N := N_law_is_catalogue) (sc := defScope s_law_is_catalogue) (by decide +kernel)) (fun _ _ _ _ _ => (pg_name (i := 3) sc_law_is_catalogue.nd rfl (Or.inl rfl))) (fun _ _ _ _ _ => (pts_one (pt_cmpR op_eq (pe_ix (show IxR _ (rIxT K) from ix_tup) (pv 3) pe_int (fun _ _ => rfl)) (pv 5) (nomark _)))) (fun _ _ _ _ _ => (pv 3)))
        (pss_cons (ps_if (pt_not (pt_val (pe_call G_law_is_group (hr.mono (by decide)) (by rfl) C_law_is_group.g C_law_is_group.F.kp C_law_is_group.b .nil pass0 (pa_cons (pv 6) (pa_cons (pv 5) (pa_cons (pv 2) pa_nil)))))) 
          (pss_one (ps_ret pe_bl)) pss_nil)
        (pss_one (ps_set (i := 4) sc_law_is_catalogue.nd rfl (Or.inl rfl) (pe_op op_cat (pv 4) (pv 6)))))))
      (pss_one (ps_ret (pe_call G_law_same (hr.mono (by decide)) (by rfl) C_law_same.g C_law_same.F.kp C_law_same.b .nil pass0 (pa_cons (pv 4) (pa_cons (pv 0) pa_nil))))))))), ?_⟩
    refine ⟨_, rfl, .ref l, .ty "list", .type "list", .type "list", true, rfl, .ty _, ty_lst hl, kit_ty (by decide +kernel), true, rfl, iteF ?_⟩
    refine ⟨.ref l, rfl, l, rfl, ⟨_, hl⟩, ?_⟩
    have elen : us.length = ws.length := by rw [hus.len, List.length_map]
    refine for_list (xs := us) (fun i σ H' => ∃ y3, σ = [some (.ref l), some (vN n), some (.bl lp), y3, none, none, none] ∧ Same H H') ⟨_, rfl, Same.refl H⟩ (fun i σ H' _ h => ?_) (fun i v σ H1 ev h => ?_) (fun σ H1 h => ?_)
    · obtain ⟨_, _, sm⟩ := h
      exact sm.seq hl
    · obtain ⟨y3, rfl, sm⟩ := h
      obtain ⟨d, ed, hd⟩ := hus.at_ ev
      rw [List.getElem?_map] at ed
      obtain ⟨x, ex, rfl⟩ := Option.map_eq_some_iff.mp ed
      exact ⟨v, rfl, v, x, rfl, hd.same sm, hok x (List.mem_of_getElem? ex), fun H2 s2 => ⟨true, rfl, iteF ⟨_, rfl, sm.trans s2⟩⟩⟩
    · obtain ⟨y3, rfl, sm⟩ := h
      refine ⟨Nat.zero_le _, fun o no => ?_⟩
      have so := Same.put (o := .lst []) no
      refine ⟨_, rfl, _, _, rfl, rfl, (n : Int) + 1, rfl, by omega, by omega, ?_⟩
      rw [show ((n : Int) + 1).toNat = n + 1 by omega]
      refine for_range (lo := 0) (n := n + 1) (fun i σ H' => ∃ y3 y5 y6 o vs, σ = [some (.ref l), some (vN n), some (.bl lp), y3, some (.ref o), y5, y6] ∧ Same H H' ∧ H' o = some (.lst vs) ∧ DpAll K H' vs (((List.range i).flatMap (bySize ws)).map pdW)) ⟨_, _, _, o, [], rfl, sm.trans so, upd_same, .nil⟩ (fun i σ H2 hi h => ?_) (fun σ H2 h => ?_)
      · obtain ⟨y3, y5, y6, o, vs, rfl, sm, ho, hvs⟩ := h
        rw [Int.zero_add]
        refine ⟨.ref l, rfl, l, rfl, ⟨_, sm.seq hl⟩, fun D nD => ?_⟩
        refine lcD_list (K := K) (xs := us) (fun j => (((ws.take j).filter fun x => x.1 == i)).map pdW) nD rfl (sm.seq hl) (fun j => noLs_map noL_w _) (fun j hj => ?_) (fun j v H3 ky kn ev s3 fy fn => ?_) (fun H3 ys s3 hD hys => ?_)
        · rw [List.length_map]
          have h1 := List.length_filter_le (fun x : Nat × Es => x.1 == i) (ws.take j)
          rw [List.length_take] at h1
          exact line_lt (by omega)
        · obtain ⟨d, ed, hd⟩ := hus.at_ ev
          rw [List.getElem?_map] at ed
          obtain ⟨x, ex, rfl⟩ := Option.map_eq_some_iff.mp ed
          have ss := sm.trans s3
          obtain ⟨p, e, es, rfl, hp, _, _⟩ := (hd.same ss).web
          have ft := filter_take (fun x : Nat × Es => x.1 == i) ex
          refine ⟨rfl, .ref p, rfl, p, _, _, _, rfl, rfl, hp, atI_nat (j := 0) rfl, _, rfl, rfl, _, rfl, ite2 (fun e => ?_) (fun e => ?_)⟩
          · have e1 : (x.1 == i) = true := by
              have : ((x.1 : Nat) : Int) = (i : Int) := V.int.inj (of_decide_eq_true e)
              rw [beq_iff_eq]
              omega
            refine ⟨_, rfl, fy _ _ (pdW x) (Same.refl _) (hd.same ss) ?_⟩
            rw [ft, if_pos e1, List.map_append]
            rfl
          · have e1 : ¬ (x.1 == i) = true := fun z => e (by
              have z1 : x.1 = i := beq_iff_eq.mp z
              show decide (V.int ((x.1 : Nat) : Int) = V.int (i : Int)) = true
              rw [z1]
              exact decide_eq_true rfl)
            refine fn _ (Same.refl _) ?_
            rw [ft, if_neg e1, List.append_nil]
        · rw [elen, List.take_length] at hys
          have hys : DpAll K H3 ys ((bySize ws i).map pdW) := hys
          refine ⟨.ref D, rfl, _, rfl, .bl lp, rfl, D, ys, i, lp, bySize ws i, rfl, .of hD, hys, hgrp i (by omega), fun H4 s4 => ⟨true, rfl, iteF ?_⟩⟩
          refine ⟨.ref o, rfl, .ref D, rfl, o, D, vs, ys, rfl, rfl, s4 _ _ (s3 _ _ ho), s4 _ _ hD, ?_, fun p np => ?_⟩
          · have h1 := hvs.len
            have h2 := hys.len
            rw [List.length_map] at h1 h2
            have h3 : (bySize ws i).length ≤ ws.length := List.length_filter_le _ _
            have h4 := flatMap_len (bySize ws) 1000 (List.range i) fun x _ => Nat.le_trans (List.length_filter_le _ _) hlen
            rw [List.length_range] at h4
            exact line_le (by omega)
          · have sp := Same.put (o := .lst (vs ++ ys)) np
            refine ⟨y3, _, _, p, vs ++ ys, rfl, ((sm.trans s3).trans s4).trans sp, upd_same, ?_⟩
            rw [range_flatMap, List.map_append]
            exact (((hvs.same s3).same s4).same sp).append ((hys.same s4).same sp)
      · obtain ⟨y3, y5, y6, o, vs, rfl, sm, ho, hvs⟩ := h
        rw [hall] at hvs
        refine ⟨.ref o, rfl, .ref l, rfl, _, _, .list (ws.map pdW), rfl, okS_mono (by decide) (okS_webs (by omega) fun x hx => Nat.le_trans (es_small (hok x hx)) (by decide)), .lst (.of ho) hvs, .lst (sm.seq hl) (hus.same sm), q H2 sm⟩
end
end Wb
-- WU
set_option Elab.async false
set_option linter.all false
set_option maxRecDepth 100000
set_option maxHeartbeats 4000000
/-! _law_refusals, _law_web_told -/
namespace Wb
open PySem PySem.Spec PyProof.Rows L2
section
variable {P : Program} {w : World} {K : PySem.W.Frag} {mg : Str → Option Value} {base : Heap} {f f_law_asked f_law_same f_law_codes f_sort_of f_count_symmetries : Addr} {fd fd_law_asked fd_law_same fd_law_codes fd_sort_of fd_count_symmetries : FuncData}
def spRefuse : Sp := fun vs H Q _ => ∃ m : Nat, vs = [vN m] ∧ ∀ H', Same H H' → Q (.bl true) H'
theorem ok_refusals (B : Bt mg) (F : Fun K "_law_refusals" "_law_refusals" s_law_refusals f fd) (C_law_asked : Cal K mg "_law_asked" "_law_asked" s_law_asked f_law_asked fd_law_asked ["_law_what", "_law_number", "_law_looped"]) (C_law_same : Cal K mg "_law_same" "_law_same" s_law_same f_law_same fd_law_same ["_law_first", "_law_second"])
    (G_law_asked : FnOk P w K mg base CX0 10 f_law_asked fd_law_asked ["_law_what", "_law_number", "_law_looped"] (spAsked K)) (G_law_same : FnOk P w K mg base CX0 6 f_law_same fd_law_same ["_law_first", "_law_second"] (spSame K 6)) : FnOk P w K mg base CX0 11 f fd ["_law_more"] spRefuse := by
  refine F.ok sc_law_refusals (fun vs H Q E h => ?_) (fun cdv A outer s H vs Q E hr h => ?_)
  · obtain ⟨m, rfl, _⟩ := h
    rfl
  · obtain ⟨m, rfl, q⟩ := h
    refine ⟨_, (pss_cons (ps_for PassesOwn.never rfl (pi_list (pe_lst (pa_cons pe_str (pa_cons pe_str pa_nil)))) (pg_name (i := 1) sc_law_refusals.nd rfl (Or.inl rfl)) 
        (pss_cons (ps_if (pt_not (pt_val (pe_call G_law_same (hr.mono (by decide)) (by rfl) C_law_same.g C_law_same.F.kp C_law_same.b .nil pass0 (pa_cons (pe_tup (pa_cons pe_str (pa_cons pe_int pa_nil))) (pa_cons (pe_call G_law_asked (hr.mono (by decide)) (by rfl) C_law_asked.g C_law_asked.F.kp C_law_asked.b .nil pass0 (pa_cons (pv 1) (pa_cons (pe_op op_add pe_int (pv 0)) (pa_cons pe_bl pa_nil)))) pa_nil))))) 
          (pss_one (ps_ret pe_bl)) pss_nil)
        (pss_cons (ps_if (pt_not (pt_val (pe_call G_law_same (hr.mono (by decide)) (by rfl) C_law_same.g C_law_same.F.kp C_law_same.b .nil pass0 (pa_cons (pe_tup (pa_cons pe_str (pa_cons pe_int pa_nil))) (pa_cons (pe_call G_law_asked (hr.mono (by decide)) (by rfl) C_law_asked.g C_law_asked.F.kp C_law_asked.b .nil pass0 (pa_cons (pv 1) (pa_cons (pe_op op_add pe_int (pv 0)) (pa_cons pe_bl pa_nil)))) pa_nil))))) 
          (pss_one (ps_ret pe_bl)) pss_nil)
        (pss_one (ps_if (pt_not (pt_val (pe_call G_law_same (hr.mono (by decide)) (by rfl) C_law_same.g C_law_same.F.kp C_law_same.b .nil pass0 (pa_cons (pe_tup (pa_cons pe_str (pa_cons pe_int pa_nil))) (pa_cons (pe_call G_law_asked (hr.mono (by decide)) (by rfl) C_law_asked.g C_law_asked.F.kp C_law_asked.b .nil pass0 (pa_cons (pv 1) (pa_cons pe_int (pa_cons pe_bl pa_nil)))) pa_nil))))) 
          (pss_one (ps_ret pe_bl)) pss_nil)))))
      (pss_one (ps_ret (pe_call G_law_same (hr.mono (by decide)) (by rfl) C_law_same.g C_law_same.F.kp C_law_same.b .nil pass0 (pa_cons (pe_tup (pa_cons pe_str (pa_cons pe_int pa_nil))) (pa_cons (pe_call G_law_asked (hr.mono (by decide)) (by rfl) C_law_asked.g C_law_asked.F.kp C_law_asked.b .nil pass0 (pa_cons pe_str (pa_cons (pe_op op_add pe_int (pv 0)) (pa_cons pe_bl pa_nil)))) pa_nil)))))), ?_⟩
    have ok6 : ∀ k : Nat, okS 6 (.tuple [.str "too large", iN k]) = true := fun k => okS_mono (m := 2) (by decide) (okS_two rfl rfl)
    have two : ∀ {H' : Hp} {v : Addr} {k : Nat}, H' v = some (.tup [.str "too large", vN k]) → Dp K H' (.ref v) (.tuple [.str "too large", iN k]) := fun h => .tup (.of h) (.cons (.str _) (.cons (.int _) .nil))
    refine ⟨by show 2 ≤ sizeLine; decide, fun l nl => ?_⟩
    have sl := Same.put (o := .lst [.str "catalogue", .str "all webs"]) nl
    refine ⟨l, rfl, ⟨_, .of upd_same⟩, ?_⟩
    refine for_list (xs := [.str "catalogue", .str "all webs"]) (fun i σ H' => ∃ y1, σ = [some (vN m), y1] ∧ Same H H' ∧ H' l = some (.lst [.str "catalogue", .str "all webs"])) ⟨_, rfl, sl, upd_same⟩ (fun i σ H' _ h => ?_) (fun i x σ H1 ex h => ?_) (fun σ H1 h => ?_)
    · obtain ⟨_, _, _, hl⟩ := h
      exact .of hl
    · obtain ⟨y1, rfl, sm, hl⟩ := h
      obtain ⟨what, rfl, hwhat⟩ : ∃ what : Str, x = .str what ∧ (what = "catalogue" ∨ what = "all webs") := by
        match i, ex with
        | 0, ex => exact ⟨_, (Option.some.inj ex).symm, .inl rfl⟩
        | 1, ex => exact ⟨_, (Option.some.inj ex).symm, .inr rfl⟩
      have hw3 : ∀ lp, what = "catalogue" ∨ (what = "plain" ∧ lp = false) ∨ what = "all webs" := fun lp => hwhat.elim .inl fun h => .inr (.inr h)
      have b4 : ∀ {lp : Bool}, ¬ 5 + m ≤ lim lp := fun {lp} h => by have := lim_le lp; omega
      refine ⟨by show 2 ≤ sizeLine; decide, fun t1 n1 => ?_⟩
      have s1 := Same.put (o := .tup [.str "too large", .int 4]) n1
      refine ⟨_, rfl, _, rfl, _, _, rfl, rfl, what, 5 + m, false, ?_, hw3 _, fun h => absurd h b4, fun _ H2 v2 s2 h2 => ?_⟩
      · show [V.str what, V.int (5 + (m : Int)), V.bl false] = [V.str what, V.int ((5 + m : Nat) : Int), V.bl false]
        rw [show ((5 + m : Nat) : Int) = 5 + (m : Int) by omega]
      refine ⟨_, _, .tuple [.str "too large", iN 4], rfl, ok6 4, two (k := 4) (s2 _ _ upd_same), two (k := 4) h2, true, rfl, iteF ?_⟩
      refine ⟨by show 2 ≤ sizeLine; decide, fun t3 n3 => ?_⟩
      have s3 := Same.put (o := .tup [.str "too large", .int 3]) n3
      refine ⟨_, rfl, _, rfl, _, _, rfl, rfl, what, 5 + m, true, ?_, hw3 _, fun h => absurd h b4, fun _ H4 v4 s4 h4 => ?_⟩
      · show [V.str what, V.int (5 + (m : Int)), V.bl true] = [V.str what, V.int ((5 + m : Nat) : Int), V.bl true]
        rw [show ((5 + m : Nat) : Int) = 5 + (m : Int) by omega]
      refine ⟨_, _, .tuple [.str "too large", iN 3], rfl, ok6 3, two (k := 3) (s4 _ _ upd_same), two (k := 3) h4, true, rfl, iteF ?_⟩
      refine ⟨by show 2 ≤ sizeLine; decide, fun t5 n5 => ?_⟩
      have s5 := Same.put (o := .tup [.str "too large", .int 3]) n5
      refine ⟨_, rfl, what, 4, true, rfl, hw3 _, fun h => absurd h (by decide), fun _ H6 v6 s6 h6 => ?_⟩
      refine ⟨_, _, .tuple [.str "too large", iN 3], rfl, ok6 3, two (k := 3) (s6 _ _ upd_same), two (k := 3) h6, true, rfl, iteF ?_⟩
      have ss := ((((s1.trans s2).trans s3).trans s4).trans s5).trans s6
      exact ⟨_, rfl, sm.trans ss, ss _ _ hl⟩
    · obtain ⟨y1, rfl, sm, hl⟩ := h
      have b4 : ¬ 5 + m ≤ lim false := fun h => by have := lim_le false; omega
      refine ⟨by show 2 ≤ sizeLine; decide, fun t1 n1 => ?_⟩
      have s1 := Same.put (o := .tup [.str "too large", .int 4]) n1
      refine ⟨_, rfl, _, _, rfl, rfl, "plain", 5 + m, false, ?_, .inr (.inl ⟨rfl, rfl⟩), fun h => absurd h b4, fun _ H2 v2 s2 h2 => ?_⟩
      · show [V.str "plain", V.int (5 + (m : Int)), V.bl false] = [V.str "plain", V.int ((5 + m : Nat) : Int), V.bl false]
        rw [show ((5 + m : Nat) : Int) = 5 + (m : Int) by omega]
      exact ⟨_, _, .tuple [.str "too large", iN 4], rfl, ok6 4, two (k := 4) (s2 _ _ upd_same), two (k := 4) h2, q H2 ((sm.trans s1).trans s2)⟩
/-- the drawn web and the group of its size -/
def ToldOk (x : Nat × Es) (ws : List (Nat × Es)) : Prop := ws.length ≤ 1000 ∧ (∀ o ∈ ws ++ [x], WebOk o ∧ (codes o)[0]? = some (cl o) ∧ (codes o).count (cl o) = countSym o.2 (perms o.1)) ∧ x.2.length < 60 ∧
  ∃ m s r, m ∈ codes x ∧ (∀ y ∈ codes x, m ≤ y) ∧ (ws.filter fun o => cl o == m) = [s] ∧ (sortRow x.2 (perms x.1)).1 = some r ∧ renamed x r = s
def spTold (K : PySem.W.Frag) : Sp := fun vs H Q _ => ∃ (v : V) (g : Addr) (us : List V) (x : Nat × Es) (ws : List (Nat × Es)), vs = [v, .ref g] ∧ Dp K H v (pdW x) ∧ H g = some (.lst us) ∧ DpAll K H us (ws.map pdW) ∧ ToldOk x ws ∧ ∀ H', Same H H' → Q (.bl true) H'
theorem ok_web_told (B : Bt mg) (F : Fun K "_law_web_told" "_law_web_told" s_law_web_told f fd) (C_law_codes : Cal K mg "_law_codes" "_law_codes" s_law_codes f_law_codes fd_law_codes ["_law_web_here"]) (C_law_same : Cal K mg "_law_same" "_law_same" s_law_same f_law_same fd_law_same ["_law_first", "_law_second"]) (C_sort_of : Cal K mg "sort_of" "sort_of" s_sort_of f_sort_of fd_sort_of ["web"]) (C_count_symmetries : Cal K mg "count_symmetries" "count_symmetries" s_count_symmetries f_count_symmetries fd_count_symmetries ["web"])
    (G_law_codes : FnOk P w K mg base CX0 2 f_law_codes fd_law_codes ["_law_web_here"] (spCodes K)) (G_law_same : FnOk P w K mg base CX0 6 f_law_same fd_law_same ["_law_first", "_law_second"] (spSame K 6)) (G_sort_of : FnOk P w K mg base CX0 4 f_sort_of fd_sort_of ["web"] (spSortOf K)) (G_count_symmetries : FnOk P w K mg base CX0 3 f_count_symmetries fd_count_symmetries ["web"] (spCount K)) :
    FnOk P w K mg base CX0 7 f fd ["_law_web_here", "_law_group"] (spTold K) := by
  refine F.ok sc_law_web_told (fun vs H Q E h => ?_) (fun cdv A outer s H vs Q E hr h => ?_)
  · obtain ⟨v, g, us, x, ws, rfl, _⟩ := h
    rfl
  · obtain ⟨v, g, us, x, ws, rfl, hx, hg, hus, ⟨hlen, hall, h60, m, sx, r, hm, hmin, hfil, hsort, hren⟩, q⟩ := h
    have hxo := hall x (List.mem_append_right _ List.mem_cons_self)
    refine ⟨_, (pss_cons (ps_set (i := 2) sc_law_web_told.nd rfl (Or.inr rfl) (pe_callB (cr_min rfl) (by rfl) B.min (by decide +kernel) (pa_cons (pe_call G_law_codes (hr.mono (by decide)) (by rfl) C_law_codes.g C_law_codes.F.kp C_law_codes.b .nil pass0 (pa_cons (pv 0) pa_nil)) pa_nil)))
      (pss_cons (ps_setLc (i := 4) (own := [("_law_other", 3)]) (g := gName 3) (tt := _) (te := _) rfl sc_law_web_told.nd rfl rfl (sw_true rfl rfl rfl (by decide +kernel)) (pi_list (pv 1)) (blkOk_by (own := [("_law_other", 3)]) (N := N_law_web_told) (sc := defScope s_law_web_told) (by decide +kernel)) (fun _ _ _ _ _ => (pg_name (i := 3) sc_law_web_told.nd rfl (Or.inl rfl))) (fun _ _ _ _ _ => (pts_one (pt_cmpR op_eq (pe_ix (show IxR _ (rIxL K) from ix_list) (pe_call G_law_codes (hr.mono (by decide)) (by rfl) C_law_codes.g C_law_codes.F.kp C_law_codes.b .nil pass0 (pa_cons (pv 3) pa_nil)) pe_int (fun _ _ => rfl)) (pv 2) (nomark _)))) (fun _ _ _ _ _ => (pv 3)))
      (pss_cons (ps_if (PW.pt (pw_or (pt_cmpR op_ne (pe_callB call_len_seq (by rfl) B.len (by decide +kernel) (pa_cons (pv 4) pa_nil)) pe_int (nomark _)) (pw_or1 (pt_not (pt_val (pe_call G_law_same (hr.mono (by decide)) (by rfl) C_law_same.g C_law_same.F.kp C_law_same.b .nil pass0 (pa_cons (pe_ix ix_list (pv 4) pe_int (fun _ _ => rfl)) (pa_cons (pe_call G_sort_of (hr.mono (by decide)) (by rfl) C_sort_of.g C_sort_of.F.kp C_sort_of.b .nil pass0 (pa_cons (pv 0) pa_nil)) pa_nil)))))))) 
        (pss_one (ps_ret pe_bl)) pss_nil)
      (pss_cons (ps_for PassesOwn.never rfl (pi_list (pe_op op_cat (pv 1) (pe_lst (pa_cons (pv 0) pa_nil)))) (pg_name (i := 3) sc_law_web_told.nd rfl (Or.inl rfl)) 
        (pss_cons (ps_set (i := 5) sc_law_web_told.nd rfl (Or.inl rfl) (pe_call G_law_codes (hr.mono (by decide)) (by rfl) C_law_codes.g C_law_codes.F.kp C_law_codes.b .nil pass0 (pa_cons (pv 3) pa_nil)))
        (pss_one (ps_if (pt_not (pt_val (pe_call G_law_same (hr.mono (by decide)) (by rfl) C_law_same.g C_law_same.F.kp C_law_same.b .nil pass0 (pa_cons (pe_bm PySem.F.plainAttrs_list PySem.F.slot_list_count PySem.F.type_list_count mt_lcount (pv 5) (pa_cons (pe_ix ix_list (pv 5) pe_int (fun _ _ => rfl)) pa_nil)) (pa_cons (pe_call G_count_symmetries (hr.mono (by decide)) (by rfl) C_count_symmetries.g C_count_symmetries.F.kp C_count_symmetries.b .nil pass0 (pa_cons (pv 3) pa_nil)) pa_nil))))) 
          (pss_one (ps_ret pe_bl)) pss_nil))))
      (pss_one (ps_ret pe_bl)))))), ?_⟩
    -- low
    refine ⟨v, rfl, v, x, rfl, hx, hxo.1.2.2, hxo.1.below, fun H1 cp s1 ncp hcp => ?_⟩
    refine ⟨cp, _, rfl, by rw [← nats_int]; exact .of hcp, ?_, fun m' hm' hle' => ?_⟩
    · rw [List.length_map]
      exact (List.getElem?_eq_some_iff.mp hxo.2.1).1
    obtain ⟨m0, hm0, rfl⟩ := List.mem_map.mp hm'
    have em : m0 = m := by
      have h1 := hmin m0 hm0
      have h2 := hle' (m : Int) (List.mem_map_of_mem hm)
      omega
    subst em
    -- sorts
    have elen : us.length = ws.length := by rw [hus.len, List.length_map]
    refine ⟨.ref g, rfl, g, rfl, ⟨_, .of (s1 _ _ hg)⟩, fun D nD => ?_⟩
    refine lcD_list (K := K) (xs := us) (fun j => ((ws.take j).filter fun o => cl o == m0).map pdW) nD rfl (.of (s1 _ _ hg)) (fun j => noLs_map noL_w _) (fun j hj => ?_) (fun j u H3 ky kn eu s3 fy fn => ?_) (fun H3 ys s3 hD hys => ?_)
    · rw [List.length_map]
      have h1 := List.length_filter_le (fun o : Nat × Es => cl o == m0) (ws.take j)
      rw [List.length_take] at h1
      exact line_lt (by omega)
    · obtain ⟨d, ed, hd⟩ := hus.at_ eu
      rw [List.getElem?_map] at ed
      obtain ⟨o, eo, rfl⟩ := Option.map_eq_some_iff.mp ed
      have ho := hall o (List.mem_append_left _ (List.mem_of_getElem? eo))
      have ss := s1.trans s3
      have ft := filter_take (fun o : Nat × Es => cl o == m0) eo
      refine ⟨rfl, u, rfl, u, o, rfl, hd.same ss, ho.1.2.2, ho.1.below, fun H4 cq s4 ncq hcq => ?_⟩
      have g0 : ((codes o).map vN)[0]? = some (vN (cl o)) := by rw [List.getElem?_map, ho.2.1]; rfl
      refine ⟨cq, _, _, _, rfl, rfl, .of hcq, atI_nat (j := 0) g0, _, rfl, rfl, _, rfl, ite2 (fun e => ?_) (fun e => ?_)⟩
      · have e1 : (cl o == m0) = true := by
          have : ((cl o : Nat) : Int) = (m0 : Int) := V.int.inj (of_decide_eq_true e)
          rw [beq_iff_eq]
          omega
        refine ⟨_, rfl, fy _ _ (pdW o) s4 (hd.same (ss.trans s4)) ?_⟩
        rw [ft, if_pos e1, List.map_append]
        rfl
      · have e1 : ¬ (cl o == m0) = true := fun z => e (by
          have z1 : cl o = m0 := beq_iff_eq.mp z
          show decide (V.int ((cl o : Nat) : Int) = V.int (m0 : Int)) = true
          rw [z1]
          exact decide_eq_true rfl)
        refine fn _ s4 ?_
        rw [ft, if_neg e1, List.append_nil]
    rw [elen, List.take_length, hfil] at hys
    obtain ⟨y, ys', rfl, hy, hys'⟩ := hys.get0
    cases hys'
    have ss := s1.trans s3
    refine ⟨.ref D, rfl, D, _, rfl, .inl (.of hD), rfl, _, rfl, iteF ?_⟩
    refine ⟨.ref D, rfl, D, _, _, _, rfl, rfl, .of hD, atI_nat (j := 0) rfl, v, rfl, v, x, r, rfl, hx.same ss, hxo.1.2.2, hxo.1.below, h60, hsort, fun H5 z s5 hz => ?_⟩
    rw [hren] at hz
    have hsx : WebOk sx := by
      have : sx ∈ ws.filter fun o => cl o == m0 := by rw [hfil]; exact List.mem_cons_self
      exact (hall sx (List.mem_append_left _ (List.mem_filter.mp this).1)).1
    refine ⟨y, z, pdW sx, rfl, okS_mono (by decide) (okS_web (Nat.le_trans (es_small hsx) (by decide))), hy.same s5, hz, true, rfl, iteF ?_⟩
    have s6 := ss.trans s5
    -- group + [web]
    refine ⟨.ref g, rfl, v, rfl, by show 1 ≤ sizeLine; decide, fun a na => ?_⟩
    have sa := Same.put (o := .lst [v]) na
    refine ⟨g, a, us, [v], rfl, rfl, sa _ _ (s6 _ _ hg), upd_same, ?_, fun b nb => ?_⟩
    · show us.length + 1 ≤ sizeLine
      exact line_le (by omega)
    have sb := Same.put (o := .lst (us ++ [v])) nb
    have s7 := (s6.trans sa).trans sb
    have hall2 : DpAll K H (us ++ [v]) ((ws ++ [x]).map pdW) := by
      rw [List.map_append]
      exact hus.append (.one hx)
    have hb0 : (upd (upd H5 a (.lst [v])) b (.lst (us ++ [v]))) b = some (.lst (us ++ [v])) := upd_same
    refine ⟨b, rfl, ⟨_, .of hb0⟩, ?_⟩
    refine for_list (xs := us ++ [v]) (fun i σ H' => ∃ y3 y5, σ = [some v, some (.ref g), some (vN m0), y3, some (.ref D), y5] ∧ Same (upd (upd H5 a (.lst [v])) b (.lst (us ++ [v]))) H') ⟨_, _, rfl, Same.refl _⟩ (fun i σ H' _ h => ?_) (fun i u σ H8 eu h => ?_) (fun σ H8 h => ?_)
    · obtain ⟨_, _, _, s8⟩ := h
      exact .of (s8 _ _ hb0)
    · obtain ⟨y3, y5, rfl, s8⟩ := h
      obtain ⟨d, ed, hd⟩ := hall2.at_ eu
      rw [List.getElem?_map] at ed
      obtain ⟨o, eo, rfl⟩ := Option.map_eq_some_iff.mp ed
      have ho := hall o (List.mem_of_getElem? eo)
      have s9 := s7.trans s8
      refine ⟨u, rfl, u, o, rfl, hd.same s9, ho.1.2.2, ho.1.below, fun H10 cq s10 ncq hcq => ?_⟩
      have g0 : ((codes o).map vN)[0]? = some (vN (cl o)) := by rw [List.getElem?_map, ho.2.1]; rfl
      have ccount : ((codes o).map fun k : Nat => (k : Int)).count ((cl o : Nat) : Int) = (codes o).count (cl o) := cnt_cast _ _
      refine ⟨.ref cq, rfl, .inl ⟨rfl, _, .inl (.inl hcq)⟩, .ref cq, rfl, cq, _, _, _, rfl, rfl, .of hcq, atI_nat (j := 0) g0, cq, _, (cl o : Nat), rfl, rfl, by rw [← nats_int]; exact .of hcq, ?_⟩
      rw [ccount, ho.2.2]
      refine ⟨u, rfl, u, o, rfl, hd.same (s9.trans s10), ho.1.2.2, ho.1.below, fun H11 s11 => ?_⟩
      refine ⟨_, _, iN (countSym o.2 (perms o.1)), rfl, rfl, .int _, .int _, true, rfl, iteF ?_⟩
      exact ⟨_, _, rfl, (s8.trans s10).trans s11⟩
    · obtain ⟨y3, y5, rfl, s8⟩ := h
      exact q _ (s7.trans s8)
end
end Wb
-- WV
set_option Elab.async false
set_option linter.all false
set_option maxRecDepth 100000
set_option maxHeartbeats 4000000
/-! the law -/
namespace Wb
open PySem PySem.Spec PyProof.Rows L2
/-- what the finite mathematics has to tell -/
structure FinOk : Prop where
  cat : ∀ lp n, n ≤ lim lp → CatOk lp n (Wb.cat lp n)
  size : ∀ lp n s, n ≤ lim lp → s ≤ n → bySize (Wb.cat lp n) s = allWebs lp s
  told : ∀ lp s f, s ≤ lim lp → ToldOk (lawWeb lp s f) (allWebs lp s)
section
variable {P : Program} {w : World} {K : PySem.W.Frag} {mg : Str → Option Value} {base : Heap} {f f_law_cell f_law_draws f_law_same f_law_web f_law_is_catalogue f_law_asked f_law_refusals f_law_web_told : Addr} {fd fd_law_cell fd_law_draws fd_law_same fd_law_web fd_law_is_catalogue fd_law_asked fd_law_refusals fd_law_web_told : FuncData}
def spLaw (K : PySem.W.Frag) : Sp := fun vs H Q _ => ∃ (a : Addr) (ns : List Int), vs = [.ref a] ∧ SqL K H a (ns.map V.int) ∧ ns.length ≤ 63 ∧ ∀ H', Q (.bl true) H'
theorem law_end (FO : FinOk) (B : Bt mg) (C_law_cell : Cal K mg "_law_cell" "_law_cell" s_law_cell f_law_cell fd_law_cell ["_law_script", "_law_place"]) (C_law_draws : Cal K mg "_law_draws" "_law_draws" s_law_draws f_law_draws fd_law_draws ["_law_script", "_law_place", "_law_count", "_law_base"])
    (C_law_same : Cal K mg "_law_same" "_law_same" s_law_same f_law_same fd_law_same ["_law_first", "_law_second"]) (C_law_web : Cal K mg "_law_web" "_law_web" s_law_web f_law_web fd_law_web ["_law_size", "_law_bits", "_law_looped"]) (C_law_is_catalogue : Cal K mg "_law_is_catalogue" "_law_is_catalogue" s_law_is_catalogue f_law_is_catalogue fd_law_is_catalogue ["_law_webs", "_law_limit", "_law_looped"])
    (C_law_asked : Cal K mg "_law_asked" "_law_asked" s_law_asked f_law_asked fd_law_asked ["_law_what", "_law_number", "_law_looped"]) (C_law_refusals : Cal K mg "_law_refusals" "_law_refusals" s_law_refusals f_law_refusals fd_law_refusals ["_law_more"]) (C_law_web_told : Cal K mg "_law_web_told" "_law_web_told" s_law_web_told f_law_web_told fd_law_web_told ["_law_web_here", "_law_group"])
    (G_law_cell : FnOk P w K mg base CX0 1 f_law_cell fd_law_cell ["_law_script", "_law_place"] (spCell0 K)) (G_law_draws : FnOk P w K mg base CX0 2 f_law_draws fd_law_draws ["_law_script", "_law_place", "_law_count", "_law_base"] (spDraws K)) (G_law_same : FnOk P w K mg base CX0 6 f_law_same fd_law_same ["_law_first", "_law_second"] (spSame K 6)) (G_law_web : FnOk P w K mg base CX0 1 f_law_web fd_law_web ["_law_size", "_law_bits", "_law_looped"] (spLawWeb K))
    (G_law_is_catalogue : FnOk P w K mg base CX0 7 f_law_is_catalogue fd_law_is_catalogue ["_law_webs", "_law_limit", "_law_looped"] (spIsCat K)) (G_law_asked : FnOk P w K mg base CX0 10 f_law_asked fd_law_asked ["_law_what", "_law_number", "_law_looped"] (spAsked K)) (G_law_refusals : FnOk P w K mg base CX0 11 f_law_refusals fd_law_refusals ["_law_more"] spRefuse) (G_law_web_told : FnOk P w K mg base CX0 7 f_law_web_told fd_law_web_told ["_law_web_here", "_law_group"] (spTold K))
    (cdv : Value) (A : Around) (outer : List Env) (s : Shared) (H : Hp) (E : XK) (hr : Room 11 (A.deeper (envOfC "law" (defScope s_law) s.heap.objs.size f cdv))) :
    ∃ t, PSs (cxOf CX0 P w K mg base N_law "law" (defScope s_law) f cdv A outer s H E).nox ((defBody s_law).drop 15) t ∧
      ∀ (D : Ends) (J : Hp) (a D2 : Addr) (ns : List Int) (gs : List V) (y1 y3 y4 y5 y6 y9 zv : Option V) (lp : Bool) (z : Nat), z ≤ lim lp → zv = some (vN z) → SqL K J a (ns.map V.int) → J D2 = some (.lst gs) → DpAll K J gs ((allWebs lp z).map pdW) → (∀ H', D.rt (.bl true) H') → t D [some (.ref a), y1, some (.bl lp), y3, y4, y5, y6, zv, some (.ref D2), y9] J := by
  refine ⟨_, (pss_cons (ps_if (pt_not (pt_val (pe_call G_law_web_told (hr.mono (by decide)) (by rfl) C_law_web_told.g C_law_web_told.F.kp C_law_web_told.b .nil pass0 (pa_cons (pe_call G_law_web (hr.mono (by decide)) (by rfl) C_law_web.g C_law_web.F.kp C_law_web.b .nil pass0 (pa_cons (pv 7) (pa_cons (pe_call G_law_draws (hr.mono (by decide)) (by rfl) C_law_draws.g C_law_draws.F.kp C_law_draws.b .nil pass0 (pa_cons (pv 0) (pa_cons pe_int (pa_cons pe_int (pa_cons pe_int pa_nil))))) (pa_cons (pv 2) pa_nil)))) (pa_cons (pv 8) pa_nil))))) 
        (pss_one (ps_ret pe_bl)) pss_nil)
      (pss_one (ps_ret (pe_call G_law_refusals (hr.mono (by decide)) (by rfl) C_law_refusals.g C_law_refusals.F.kp C_law_refusals.b .nil pass0 (pa_cons (pe_op op_mod (pe_callTy call_int1 (by rfl) B.int (by decide +kernel) (pa_cons (pe_call G_law_cell (hr.mono (by decide)) (by rfl) C_law_cell.g C_law_cell.F.kp C_law_cell.b .nil pass0 (pa_cons (pv 0) (pa_cons pe_int pa_nil))) pa_nil)) pe_int) pa_nil))))), fun D J a D2 ns gs y1 y3 y4 y5 y6 y9 zv lp z hz ez hS hD hgs q => ?_⟩
  subst ez
  refine ⟨_, rfl, .ref a, rfl, a, ns, 2, 10, rfl, hS, by decide, fun J1 l bs s1 nl hl hbl => ?_⟩
  refine ⟨.bl lp, rfl, z, l, lp, bs, rfl, .of hl, Nat.le_trans hz (lim_le lp), fun J2 v s2 hv => ?_⟩
  have ss := s1.trans s2
  refine ⟨.ref D2, rfl, v, D2, gs, lawWeb lp z (isOne bs), allWebs lp z, rfl, hv, ss _ _ hD, hgs.same ss, FO.told lp z _ hz, fun J3 s3 => ⟨true, rfl, iteF ?_⟩⟩
  refine ⟨.ref a, rfl, a, ns, 3, rfl, (ss.trans s3).seq hS, fun c => .inl ⟨_, rfl, _, _, rfl, rfl, by show (0 : Int) < 1000; decide, c % 1000, ?_, fun J4 _ => q J4⟩⟩
  show [V.int ((c : Int) % 1000)] = [V.int ((c % 1000 : Nat) : Int)]
  rw [Int.natCast_emod]
  rfl
theorem law_tail (FO : FinOk) (B : Bt mg) (C_law_cell : Cal K mg "_law_cell" "_law_cell" s_law_cell f_law_cell fd_law_cell ["_law_script", "_law_place"]) (C_law_draws : Cal K mg "_law_draws" "_law_draws" s_law_draws f_law_draws fd_law_draws ["_law_script", "_law_place", "_law_count", "_law_base"])
    (C_law_same : Cal K mg "_law_same" "_law_same" s_law_same f_law_same fd_law_same ["_law_first", "_law_second"]) (C_law_web : Cal K mg "_law_web" "_law_web" s_law_web f_law_web fd_law_web ["_law_size", "_law_bits", "_law_looped"]) (C_law_is_catalogue : Cal K mg "_law_is_catalogue" "_law_is_catalogue" s_law_is_catalogue f_law_is_catalogue fd_law_is_catalogue ["_law_webs", "_law_limit", "_law_looped"])
    (C_law_asked : Cal K mg "_law_asked" "_law_asked" s_law_asked f_law_asked fd_law_asked ["_law_what", "_law_number", "_law_looped"]) (C_law_refusals : Cal K mg "_law_refusals" "_law_refusals" s_law_refusals f_law_refusals fd_law_refusals ["_law_more"]) (C_law_web_told : Cal K mg "_law_web_told" "_law_web_told" s_law_web_told f_law_web_told fd_law_web_told ["_law_web_here", "_law_group"])
    (G_law_cell : FnOk P w K mg base CX0 1 f_law_cell fd_law_cell ["_law_script", "_law_place"] (spCell0 K)) (G_law_draws : FnOk P w K mg base CX0 2 f_law_draws fd_law_draws ["_law_script", "_law_place", "_law_count", "_law_base"] (spDraws K)) (G_law_same : FnOk P w K mg base CX0 6 f_law_same fd_law_same ["_law_first", "_law_second"] (spSame K 6)) (G_law_web : FnOk P w K mg base CX0 1 f_law_web fd_law_web ["_law_size", "_law_bits", "_law_looped"] (spLawWeb K))
    (G_law_is_catalogue : FnOk P w K mg base CX0 7 f_law_is_catalogue fd_law_is_catalogue ["_law_webs", "_law_limit", "_law_looped"] (spIsCat K)) (G_law_asked : FnOk P w K mg base CX0 10 f_law_asked fd_law_asked ["_law_what", "_law_number", "_law_looped"] (spAsked K)) (G_law_refusals : FnOk P w K mg base CX0 11 f_law_refusals fd_law_refusals ["_law_more"] spRefuse) (G_law_web_told : FnOk P w K mg base CX0 7 f_law_web_told fd_law_web_told ["_law_web_here", "_law_group"] (spTold K))
    (cdv : Value) (A : Around) (outer : List Env) (s : Shared) (H : Hp) (E : XK) (hr : Room 11 (A.deeper (envOfC "law" (defScope s_law) s.heap.objs.size f cdv))) :
    ∃ t, PSs (cxOf CX0 P w K mg base N_law "law" (defScope s_law) f cdv A outer s H E).nox ((defBody s_law).drop 4) t ∧
      ∀ (D : Ends) (a : Addr) (ns : List Int) (y1 : Option V) (lp : Bool) (n : Nat), n ≤ lim lp → SqL K H a (ns.map V.int) → (∀ H', D.rt (.bl true) H') → t D [some (.ref a), y1, some (.bl lp), some (vN n), none, none, none, none, none, none] H := by
  obtain ⟨tEnd, pEnd, hEnd⟩ := law_end FO B C_law_cell C_law_draws C_law_same C_law_web C_law_is_catalogue C_law_asked C_law_refusals C_law_web_told G_law_cell G_law_draws G_law_same G_law_web G_law_is_catalogue G_law_asked G_law_refusals G_law_web_told cdv A outer s H E hr
  refine ⟨_, (pss_cons (ps_set (i := 4) sc_law.nd rfl (Or.inl rfl) (pe_call G_law_asked (hr.mono (by decide)) (by rfl) C_law_asked.g C_law_asked.F.kp C_law_asked.b .nil pass0 (pa_cons pe_str (pa_cons (pv 3) (pa_cons (pv 2) pa_nil)))))
      (pss_cons (ps_if (PW.pt (pw_or (pt_cmpR op_ne (pe_ix ix_tup (pv 4) pe_int (fun _ _ => rfl)) pe_str (nomark _)) (pw_or1 (pt_not (pt_val (pe_call G_law_is_catalogue (hr.mono (by decide)) (by rfl) C_law_is_catalogue.g C_law_is_catalogue.F.kp C_law_is_catalogue.b .nil pass0 (pa_cons (pe_ix ix_tup (pv 4) pe_int (fun _ _ => rfl)) (pa_cons (pv 3) (pa_cons (pv 2) pa_nil))))))))) 
        (pss_one (ps_ret pe_bl)) pss_nil)
      (pss_cons (ps_set (i := 5) sc_law.nd rfl (Or.inl rfl) (pe_ix ix_tup (pv 4) pe_int (fun _ _ => rfl)))
      (pss_cons (ps_set (i := 6) sc_law.nd rfl (Or.inl rfl) (pe_callTy call_list_of (by rfl) B.list (by decide +kernel) (pa_cons (pv 5) pa_nil)))
      (pss_cons (ps_expr (pe_bm PySem.F.plainAttrs_list PySem.F.slot_list_append PySem.F.type_list_append mt_append (pv 5) (pa_cons (pe_tup (pa_cons pe_int (pa_cons (pe_tup pa_nil) pa_nil))) pa_nil)))
      (pss_cons (ps_asg (pe_tup (pa_cons pe_int (pa_cons (pe_tup (pa_cons (pe_tup (pa_cons pe_int (pa_cons pe_int pa_nil))) pa_nil)) pa_nil))) (pg_sub (pv 5) pe_int set_list))
      (pss_cons (ps_set (i := 7) sc_law.nd rfl (Or.inr rfl) (pe_op op_mod (pe_callTy call_int1 (by rfl) B.int (by decide +kernel) (pa_cons (pe_op op_add (pe_call G_law_cell (hr.mono (by decide)) (by rfl) C_law_cell.g C_law_cell.F.kp C_law_cell.b .nil pass0 (pa_cons (pv 0) (pa_cons pe_int pa_nil))) (pv 3)) pa_nil)) (pe_op op_add (pv 3) pe_int)))
      (pss_cons (ps_setLc (i := 8) (own := [("_law_web_here", 9)]) (g := gName 9) (tt := _) (te := _) rfl sc_law.nd rfl rfl (sw_true rfl rfl rfl (by decide +kernel)) (pi_list (pv 6)) (blkOk_by (own := [("_law_web_here", 9)]) (N := N_law) (sc := defScope s_law) (by decide +kernel)) (fun _ _ _ _ _ => (pg_name (i := 9) sc_law.nd rfl (Or.inl rfl))) (fun _ _ _ _ _ => (pts_one (pt_cmpR op_eq (pe_ix (show IxR _ (rIxT K) from ix_tup) (pv 9) pe_int (fun _ _ => rfl)) (pv 7) (nomark _)))) (fun _ _ _ _ _ => (pv 9)))
      (pss_cons (ps_if (pt_not (pt_val (pe_call G_law_same (hr.mono (by decide)) (by rfl) C_law_same.g C_law_same.F.kp C_law_same.b .nil pass0 (pa_cons (pe_tup (pa_cons pe_str (pa_cons (pv 8) pa_nil))) (pa_cons (pe_call G_law_asked (hr.mono (by decide)) (by rfl) C_law_asked.g C_law_asked.F.kp C_law_asked.b .nil pass0 (pa_cons pe_str (pa_cons (pv 7) (pa_cons (pv 2) pa_nil)))) pa_nil))))) 
        (pss_one (ps_ret pe_bl)) pss_nil)
      (pss_cons (ps_if (pt_not (pt_val (pe_call G_law_same (hr.mono (by decide)) (by rfl) C_law_same.g C_law_same.F.kp C_law_same.b .nil pass0 (pa_cons (pe_tup (pa_cons pe_str (pa_cons (pv 6) pa_nil))) (pa_cons (pe_call G_law_asked (hr.mono (by decide)) (by rfl) C_law_asked.g C_law_asked.F.kp C_law_asked.b .nil pass0 (pa_cons pe_str (pa_cons (pv 3) (pa_cons (pv 2) pa_nil)))) pa_nil))))) 
        (pss_one (ps_ret pe_bl)) pss_nil)
      (pss_cons (ps_if (PW.pt (pw_and (pt_not (pt_val (pv 2))) (pw_and1 (pt_not (pt_val (pe_call G_law_same (hr.mono (by decide)) (by rfl) C_law_same.g C_law_same.F.kp C_law_same.b .nil pass0 (pa_cons (pe_tup (pa_cons pe_str (pa_cons (pv 6) pa_nil))) (pa_cons (pe_call G_law_asked (hr.mono (by decide)) (by rfl) C_law_asked.g C_law_asked.F.kp C_law_asked.b .nil pass0 (pa_cons pe_str (pa_cons (pv 3) (pa_cons pe_bl pa_nil)))) pa_nil)))))))) 
        (pss_one (ps_ret pe_bl)) pss_nil)
      pEnd))))))))))), fun D a ns y1 lp n hn hS q => ?_⟩
  have hn4 : n ≤ 4 := Nat.le_trans hn (lim_le lp)
  have hcat := FO.cat lp n hn
  -- told
  refine ⟨_, rfl, .bl lp, rfl, "catalogue", n, lp, rfl, .inl rfl, fun _ H1 v p ys s1 hv np hp hys => ?_, fun z => absurd hn z⟩
  have hys : DpAll K H1 ys ((cat lp n).map pdW) := hys
  have hvt : SqT K H1 v [.str "told", .ref p] := .of hv
  refine ⟨.ref v, rfl, v, _, _, _, rfl, rfl, hvt, atI_nat (j := 0) rfl, rfl, _, rfl, ?_⟩
  rw [show (!decide (V.str "told" = V.str "told")) = false by simp]
  refine iteF ⟨.ref v, rfl, v, _, _, _, rfl, rfl, hvt, atI_nat (j := 1) rfl, _, rfl, .bl lp, rfl, p, ys, n, lp, cat lp n, rfl, .of hp, hys, hcat, fun H2 s2 => ⟨true, rfl, iteF ?_⟩⟩
  -- webs, kept
  refine ⟨.ref v, rfl, v, _, _, _, rfl, rfl, s2.tseq hvt, atI_nat (j := 1) rfl, .ref p, rfl, p, ys, rfl, .inl (.of (s2 _ _ hp)), fun k nk => ?_⟩
  have s3 := Same.put (o := .lst ys) nk
  have hp3 := s3 _ _ (s2 _ _ hp)
  have hk3 : (upd H2 k (.lst ys)) k = some (.lst ys) := upd_same
  have nkp : k ≠ p := fun e => by
    subst e
    rw [s2 _ _ hp] at nk
    cases nk
  have hys3 : DpAll K (upd H2 k (.lst ys)) ys ((cat lp n).map pdW) := (hys.same s2).same s3
  have sH3 : Same H (upd H2 k (.lst ys)) := (s1.trans s2).trans s3
  generalize upd H2 k (.lst ys) = H3 at *
  -- webs.append((9, ()))
  refine ⟨.ref p, rfl, .inl ⟨rfl, _, .inl (.inl hp3)⟩, by show 0 ≤ sizeLine; decide, fun t4 n4 => ?_⟩
  have s4 := Same.put (o := .tup []) n4
  refine ⟨by show 2 ≤ sizeLine; decide, fun t5 n5 => ?_⟩
  have s5 := Same.put (o := .tup [.int 9, .ref t4]) n5
  have s35 := s4.trans s5
  have hp5 := s35 _ _ hp3
  have hylen : ys.length ≤ 1000 := by
    rw [hys.len, List.length_map]
    exact hcat.2.1
  refine ⟨p, ys, _, rfl, rfl, hp5, line_lt (by omega), ?_⟩
  have hys5 := hys3.same s35
  have hk5 := s35 _ _ hk3
  have sH5 := sH3.trans s35
  generalize upd (upd H3 t4 (.tup [])) t5 (.tup [.int 9, .ref t4]) = H5 at *
  have hys6 := hys5.putL (acc' := ys ++ [.ref t5]) hp5 (noLs_map noL_w _)
  have hk6 : (upd H5 p (.lst (ys ++ [.ref t5]))) k = some (.lst ys) := by rw [upd_ne nkp]; exact hk5
  have hp6 : (upd H5 p (.lst (ys ++ [.ref t5]))) p = some (.lst (ys ++ [.ref t5])) := upd_same
  have sH6 : Same H (upd H5 p (.lst (ys ++ [.ref t5]))) := sH5.over np
  generalize upd H5 p (.lst (ys ++ [.ref t5])) = H6 at *
  -- webs[0] = (1, ((0, 0),))
  refine ⟨by show 2 ≤ sizeLine; decide, fun t7 n7 => ?_⟩
  have s7 := Same.put (o := .tup [.int 0, .int 0]) n7
  refine ⟨by show 1 ≤ sizeLine; decide, fun t8 n8 => ?_⟩
  have s8 := Same.put (o := .tup [.ref t7]) n8
  refine ⟨by show 2 ≤ sizeLine; decide, fun t9 n9 => ?_⟩
  have s9 := Same.put (o := .tup [.int 1, .ref t8]) n9
  have s69 := (s7.trans s8).trans s9
  have hp9 := s69 _ _ hp6
  have hk9 := s69 _ _ hk6
  have hys9 := hys6.same s69
  have sH9 := sH6.trans s69
  refine ⟨.ref p, rfl, p, _, 0, 0, rfl, rfl, hp9, ?_, ?_⟩
  · unfold ixN
    rw [if_pos (by decide), if_pos (by rw [List.length_append]; show (0 : Int) < ((ys.length + 1 : Nat) : Int); omega)]
    rfl
  generalize upd (upd (upd H6 t7 (.tup [.int 0, .int 0])) t8 (.tup [.ref t7])) t9 (.tup [.int 1, .ref t8]) = H9 at *
  generalize hzs : (ys ++ [V.ref t5]).set 0 (.ref t9) = zs
  have hysX := hys9.putL (acc' := zs) hp9 (noLs_map noL_w _)
  have hkX : (upd H9 p (.lst zs)) k = some (.lst ys) := by rw [upd_ne nkp]; exact hk9
  have sHX : Same H (upd H9 p (.lst zs)) := sH9.over np
  generalize upd H9 p (.lst zs) = HX at *
  -- size
  refine ⟨.ref a, rfl, a, ns, 1, rfl, sHX.seq hS, fun c1 => ?_⟩
  refine ⟨_, rfl, _, _, rfl, rfl, .inl ⟨_, rfl, _, rfl, _, _, rfl, rfl, _, _, rfl, rfl, ?_, ?_⟩⟩
  · show (0 : Int) < (n : Int) + 1
    omega
  obtain ⟨z, hz, ez⟩ : ∃ z : Nat, z ≤ n ∧ ((c1 : Int) + (n : Int)) % ((n : Int) + 1) = (z : Int) := ⟨(c1 + n) % (n + 1), Nat.le_of_lt_succ (Nat.mod_lt _ (Nat.succ_pos n)), by simp⟩
  have hzl : z ≤ lim lp := Nat.le_trans hz hn
  have hgrp := FO.size lp n z hn hz
  -- group
  have elen : ys.length = (cat lp n).length := by rw [hys.len, List.length_map]
  refine ⟨.ref k, rfl, k, rfl, ⟨_, .of hkX⟩, fun D2 nD => ?_⟩
  refine lcD_list (K := K) (xs := ys) (fun j => (((cat lp n).take j).filter fun x => x.1 == z).map pdW) nD rfl (.of hkX) (fun j => noLs_map noL_w _) (fun j hj => ?_) (fun j u H3 ky kn eu s3 fy fn => ?_) (fun HG gs sG hD hgs => ?_)
  · rw [List.length_map]
    have h1 := List.length_filter_le (fun x : Nat × Es => x.1 == z) ((cat lp n).take j)
    rw [List.length_take] at h1
    exact line_lt (by omega)
  · obtain ⟨d, ed, hd⟩ := hysX.at_ eu
    rw [List.getElem?_map] at ed
    obtain ⟨x, ex, rfl⟩ := Option.map_eq_some_iff.mp ed
    obtain ⟨pp, e, es, rfl, hpp, _, _⟩ := (hd.same s3).web
    have ft := filter_take (fun x : Nat × Es => x.1 == z) ex
    refine ⟨rfl, .ref pp, rfl, pp, _, _, _, rfl, rfl, hpp, atI_nat (j := 0) rfl, _, rfl, rfl, _, rfl, ite2 (fun e => ?_) (fun e => ?_)⟩
    · have e1 : (x.1 == z) = true := by
        have : ((x.1 : Nat) : Int) = ((c1 : Int) + (n : Int)) % ((n : Int) + 1) := V.int.inj (of_decide_eq_true e)
        rw [beq_iff_eq]
        omega
      refine ⟨_, rfl, fy _ _ (pdW x) (Same.refl _) (hd.same s3) ?_⟩
      rw [ft, if_pos e1, List.map_append]
      rfl
    · have e1 : ¬ (x.1 == z) = true := fun w => e (by
        have z1 : x.1 = z := beq_iff_eq.mp w
        show decide (V.int ((x.1 : Nat) : Int) = V.int (((c1 : Int) + (n : Int)) % ((n : Int) + 1))) = true
        rw [z1, ez]
        exact decide_eq_true rfl)
      refine fn _ (Same.refl _) ?_
      rw [ft, if_neg e1, List.append_nil]
  rw [elen, List.take_length] at hgs
  have hgs : DpAll K HG gs ((bySize (cat lp n) z).map pdW) := hgs
  rw [hgrp] at hgs
  have hkG := sG _ _ hkX
  have hysG := hysX.same sG
  have sHG := sHX.trans sG
  have okc : ∀ (what : Str) (ws : List (Nat × Es)), ws.length ≤ 1000 → (∀ x ∈ ws, WebOk x) → okS 6 (.tuple [.str "told", .list (ws.map pdW)]) = true := fun what ws h1 h2 => okS_two (m := 5) rfl (okS_webs (by omega) fun x hx => Nat.le_trans (es_small (h2 x hx)) (by decide))
  have hsub : (bySize (cat lp n) z).length ≤ 1000 ∧ ∀ x ∈ bySize (cat lp n) z, WebOk x := ⟨Nat.le_trans (List.length_filter_le _ _) hcat.2.1, fun x hx => hcat.2.2.1 x (List.mem_filter.mp hx).1⟩
  rw [hgrp] at hsub
  have pair : ∀ {H' : Hp} {t q : Addr} {us : List V} {ws : List (Nat × Es)}, H' t = some (.tup [.str "told", .ref q]) → H' q = some (.lst us) → DpAll K H' us (ws.map pdW) → Dp K H' (.ref t) (.tuple [.str "told", .list (ws.map pdW)]) := fun h1 h2 h3 => .tup (.of h1) (.cons (.str _) (.cons (.lst (.of h2) h3) .nil))
  -- all webs
  refine ⟨.ref D2, rfl, by show 2 ≤ sizeLine; decide, fun u1 nu1 => ?_⟩
  have q1 := Same.put (o := .tup [.str "told", .ref D2]) nu1
  refine ⟨_, rfl, .bl lp, rfl, "all webs", z, lp, ?_, .inr (.inr rfl), fun _ J1 v1 p1 ys1 r1 hv1 np1 hp1 hys1 => ?_, fun h => absurd hzl h⟩
  · show [V.str "all webs", V.int (((c1 : Int) + (n : Int)) % ((n : Int) + 1)), V.bl lp] = _
    rw [ez]
  have hys1 : DpAll K J1 ys1 ((allWebs lp z).map pdW) := hys1
  have qr1 := q1.trans r1
  refine ⟨_, _, _, rfl, okc "" _ hsub.1 hsub.2, pair (r1 _ _ upd_same) (qr1 _ _ hD) (hgs.same qr1), pair hv1 hp1 hys1, true, rfl, iteF ?_⟩
  -- catalogue again
  refine ⟨.ref k, rfl, by show 2 ≤ sizeLine; decide, fun u2 nu2 => ?_⟩
  have q2 := Same.put (o := .tup [.str "told", .ref k]) nu2
  refine ⟨_, rfl, .bl lp, rfl, "catalogue", n, lp, rfl, .inl rfl, fun _ J2 v2 p2 ys2 r2 hv2 np2 hp2 hys2 => ?_, fun h => absurd hn h⟩
  have hys2 : DpAll K J2 ys2 ((cat lp n).map pdW) := hys2
  have qr2 := (qr1.trans q2).trans r2
  refine ⟨_, _, _, rfl, okc "" _ hcat.2.1 hcat.2.2.1, pair (r2 _ _ upd_same) (qr2 _ _ hkG) (hysG.same qr2), pair hv2 hp2 hys2, true, rfl, iteF ?_⟩
  have fin : ∀ J : Hp, Same J2 J → tEnd D [some (.ref a), y1, some (.bl lp), some (vN n), some (.ref v), some (.ref p), some (.ref k), some (V.int (((c1 : Int) + (n : Int)) % ((n : Int) + 1))), some (.ref D2), none] J := fun J sJ =>
    hEnd D J a D2 ns gs y1 _ _ _ _ _ _ lp z hzl (by rw [ez]) ((sHG.trans (qr2.trans sJ)).seq hS) ((qr2.trans sJ) _ _ hD) (hgs.same (qr2.trans sJ)) q
  cases lp with
  | true => exact ⟨_, rfl, true, rfl, iteF (iteF (fin J2 (Same.refl _)))⟩
  | false =>
    refine ⟨_, rfl, false, rfl, iteT ⟨.ref k, rfl, by show 2 ≤ sizeLine; decide, fun u3 nu3 => ?_⟩⟩
    have q3 := Same.put (o := .tup [.str "told", .ref k]) nu3
    refine ⟨_, rfl, "plain", n, false, rfl, .inr (.inl ⟨rfl, rfl⟩), fun _ J3 v3 p3 ys3 r3 hv3 np3 hp3 hys3 => ?_, fun h => absurd hn h⟩
    have hys3 : DpAll K J3 ys3 ((cat false n).map pdW) := hys3
    have qr3 := q3.trans r3
    exact ⟨_, _, _, rfl, okc "" _ hcat.2.1 hcat.2.2.1, pair (r3 _ _ upd_same) (qr3 _ _ (qr2 _ _ hkG)) (hysG.same (qr2.trans qr3)), pair hv3 hp3 hys3, true, rfl, iteF (fin J3 qr3)⟩
end
end Wb
-- WX
set_option Elab.async false
set_option linter.all false
set_option maxRecDepth 100000
set_option maxHeartbeats 4000000
/-! the law, whole -/
namespace Wb
open PySem PySem.Spec PyProof.Rows L2
section
variable {P : Program} {w : World} {K : PySem.W.Frag} {mg : Str → Option Value} {base : Heap} {f f_law_cell f_law_draws f_law_same f_law_web f_law_is_catalogue f_law_asked f_law_refusals f_law_web_told : Addr} {fd fd_law_cell fd_law_draws fd_law_same fd_law_web fd_law_is_catalogue fd_law_asked fd_law_refusals fd_law_web_told : FuncData}
theorem ok_law (FO : FinOk) (B : Bt mg) (F : Fun K "law" "law" s_law f fd) (C_law_cell : Cal K mg "_law_cell" "_law_cell" s_law_cell f_law_cell fd_law_cell ["_law_script", "_law_place"]) (C_law_draws : Cal K mg "_law_draws" "_law_draws" s_law_draws f_law_draws fd_law_draws ["_law_script", "_law_place", "_law_count", "_law_base"])
    (C_law_same : Cal K mg "_law_same" "_law_same" s_law_same f_law_same fd_law_same ["_law_first", "_law_second"]) (C_law_web : Cal K mg "_law_web" "_law_web" s_law_web f_law_web fd_law_web ["_law_size", "_law_bits", "_law_looped"]) (C_law_is_catalogue : Cal K mg "_law_is_catalogue" "_law_is_catalogue" s_law_is_catalogue f_law_is_catalogue fd_law_is_catalogue ["_law_webs", "_law_limit", "_law_looped"])
    (C_law_asked : Cal K mg "_law_asked" "_law_asked" s_law_asked f_law_asked fd_law_asked ["_law_what", "_law_number", "_law_looped"]) (C_law_refusals : Cal K mg "_law_refusals" "_law_refusals" s_law_refusals f_law_refusals fd_law_refusals ["_law_more"]) (C_law_web_told : Cal K mg "_law_web_told" "_law_web_told" s_law_web_told f_law_web_told fd_law_web_told ["_law_web_here", "_law_group"])
    (G_law_cell : FnOk P w K mg base CX0 1 f_law_cell fd_law_cell ["_law_script", "_law_place"] (spCell0 K)) (G_law_draws : FnOk P w K mg base CX0 2 f_law_draws fd_law_draws ["_law_script", "_law_place", "_law_count", "_law_base"] (spDraws K)) (G_law_same : FnOk P w K mg base CX0 6 f_law_same fd_law_same ["_law_first", "_law_second"] (spSame K 6)) (G_law_web : FnOk P w K mg base CX0 1 f_law_web fd_law_web ["_law_size", "_law_bits", "_law_looped"] (spLawWeb K))
    (G_law_is_catalogue : FnOk P w K mg base CX0 7 f_law_is_catalogue fd_law_is_catalogue ["_law_webs", "_law_limit", "_law_looped"] (spIsCat K)) (G_law_asked : FnOk P w K mg base CX0 10 f_law_asked fd_law_asked ["_law_what", "_law_number", "_law_looped"] (spAsked K)) (G_law_refusals : FnOk P w K mg base CX0 11 f_law_refusals fd_law_refusals ["_law_more"] spRefuse) (G_law_web_told : FnOk P w K mg base CX0 7 f_law_web_told fd_law_web_told ["_law_web_here", "_law_group"] (spTold K)) :
    FnOk P w K mg base CX0 12 f fd ["_law_script"] (spLaw K) := by
  refine F.ok sc_law (fun vs H Q E h => ?_) (fun cdv A outer s H vs Q E hr h => ?_)
  · obtain ⟨a, ns, rfl, _⟩ := h
    rfl
  · obtain ⟨a, ns, rfl, hS, _, q⟩ := h
    obtain ⟨tT, pT, hT⟩ := law_tail (f := f) FO B C_law_cell C_law_draws C_law_same C_law_web C_law_is_catalogue C_law_asked C_law_refusals C_law_web_told G_law_cell G_law_draws G_law_same G_law_web G_law_is_catalogue G_law_asked G_law_refusals G_law_web_told cdv A outer s H E hr
    refine ⟨_, (pss_cons (ps_set (i := 1) sc_law.nd rfl (Or.inl rfl) (pe_call G_law_cell (hr.mono (by decide)) (by rfl) C_law_cell.g C_law_cell.F.kp C_law_cell.b .nil pass0 (pa_cons (pv 0) (pa_cons pe_int pa_nil))))
      (pss_cons (ps_set (i := 2) sc_law.nd rfl (Or.inl rfl) (pe_cmpR op_eq (pe_op op_mod (pe_callTy call_int1 (by rfl) B.int (by decide +kernel) (pa_cons (pv 1) pa_nil)) pe_int) pe_int (nomark _)))
      (pss_cons (ps_set (i := 3) sc_law.nd rfl (Or.inl rfl) (pe_op op_mod (pe_callTy call_int1 (by rfl) B.int (by decide +kernel) (pa_cons (pe_op op_add (pe_op op_fdiv (pv 1) pe_int) pe_int) pa_nil)) pe_int))
      (pss_cons (ps_if (pt_val (pv 2)) 
        (pss_one (ps_set (i := 3) sc_law.nd rfl (Or.inl rfl) (pe_op op_mod (pe_callTy call_int1 (by rfl) B.int (by decide +kernel) (pa_cons (pe_op op_add (pe_op op_fdiv (pv 1) pe_int) pe_int) pa_nil)) pe_int))) pss_nil)
      pT)))), ?_⟩
    refine ⟨.ref a, rfl, a, ns, 0, rfl, hS, fun c => ?_⟩
    refine ⟨_, rfl, .inl ⟨_, rfl, _, _, rfl, rfl, by show (0 : Int) < 2; decide, rfl, ?_⟩⟩
    refine ⟨_, rfl, _, _, rfl, rfl, ⟨by decide, by decide⟩, _, _, rfl, rfl, .inl ⟨_, rfl, _, _, rfl, rfl, by show (0 : Int) < 5; decide, ?_⟩⟩
    have fin : ∀ (lp : Bool) (x : Int), (∃ n : Nat, n ≤ lim lp ∧ x = (n : Int)) → tT { nx := fun _ H' => Q .non H', rt := Q } [some (.ref a), some (vN c), some (.bl lp), some (.int x), none, none, none, none, none, none] H := fun lp x hx => by
      obtain ⟨n, hn, rfl⟩ := hx
      exact hT _ a ns _ lp n hn hS q
    refine ⟨_, rfl, decide (V.int ((c : Int) % 2) = V.int 1), rfl, ?_⟩
    have five : ∃ n : Nat, n ≤ 4 ∧ ((c : Int) / 2 + 3) % 5 = (n : Int) := ⟨(((c : Int) / 2 + 3) % 5).toNat, by omega, by omega⟩
    have four : ∃ n : Nat, n ≤ 3 ∧ ((c : Int) / 2 + 3) % 4 = (n : Int) := ⟨(((c : Int) / 2 + 3) % 4).toNat, by omega, by omega⟩
    cases hb : decide (V.int ((c : Int) % 2) = V.int 1) with
    | true => exact iteT ⟨_, rfl, _, _, rfl, rfl, ⟨by decide, by decide⟩, _, _, rfl, rfl, .inl ⟨_, rfl, _, _, rfl, rfl, by show (0 : Int) < 4; decide, hb ▸ fin (decide (V.int ((c : Int) % 2) = V.int 1)) (((c : Int) / 2 + 3) % 4) (by rw [hb]; exact four)⟩⟩
    | false => exact iteF (hb ▸ fin (decide (V.int ((c : Int) % 2) = V.int 1)) (((c : Int) / 2 + 3) % 5) (by rw [hb]; exact five))
end
end Wb
-- FF1
set_option Elab.async false
set_option linter.all false
set_option maxRecDepth 100000
/-! the finite checks -/
namespace Wb
def ascB : Es → Bool
  | [] => true
  | [_] => true
  | x :: y :: r => Nat.blt (key x) (key y) && ascB (y :: r)
def okB (x : Nat × Es) : Bool := (x.2.all fun e => Nat.ble e.1 e.2 && Nat.blt e.2 x.1) && ascB x.2 && Nat.ble x.1 5
def headB (x : Nat × Es) : Bool := match codes x with
  | [] => false
  | c :: _ => Nat.beq ((codes x).countP fun d => Nat.beq d c) (countSym x.2 (perms x.1))
def leastB (lp : Bool) (n : Nat) (x : Nat × Es) : Bool := Nat.beq x.1 n && okB x && (lp || x.2.all fun e => !Nat.beq e.1 e.2) && headB x && (codes x).all fun c => Nat.ble (cl x) c
def clB : List (Nat × Es) → Bool
  | [] => true
  | [_] => true
  | x :: y :: r => Nat.blt (cl x) (cl y) && clB (y :: r)
def groupB (lp : Bool) (n : Nat) : Bool := ((allWebs lp n).all (leastB lp n)) && clB (allWebs lp n) && Nat.beq ((allWebs lp n).map share).sum (2 ^ pairsOf lp n) && Nat.ble (allWebs lp n).length 100
theorem groups_ok : ([true, false].all fun lp => (List.range (lim lp + 1)).all fun n => groupB lp n) = true := by decide +kernel
end Wb
-- FF2
set_option Elab.async false
set_option linter.all false
set_option maxRecDepth 100000
/-! the drawn web: all of them -/
namespace Wb
def bitB (k i : Nat) : Bool := Nat.beq (k / 2 ^ i % 2) 1
def minL : List Nat → Nat
  | [] => 0
  | [x] => x
  | x :: y :: r => min x (minL (y :: r))
def toldB (lp : Bool) (s k : Nat) : Bool :=
  okB (lawWeb lp s (bitB k)) && headB (lawWeb lp s (bitB k)) && Nat.ble (lawWeb lp s (bitB k)).2.length 50 &&
    (codes (lawWeb lp s (bitB k))).any (fun c => Nat.beq c (minL (codes (lawWeb lp s (bitB k))))) && (codes (lawWeb lp s (bitB k))).all (fun c => Nat.ble (minL (codes (lawWeb lp s (bitB k)))) c) &&
    match (allWebs lp s).filter (fun o => cl o == minL (codes (lawWeb lp s (bitB k)))), (sortRow (lawWeb lp s (bitB k)).2 (perms s)).1 with
    | [w], some r => decide (renamed (lawWeb lp s (bitB k)) r = w)
    | _, _ => false
theorem told_ok : ([true, false].all fun lp => (List.range (lim lp + 1)).all fun s => (List.range (2 ^ (pairsTo lp s).length)).all fun k => toldB lp s k) = true := by decide +kernel
end Wb
-- FF3
set_option Elab.async false
set_option linter.all false
set_option maxRecDepth 100000
/-! FinOk -/
namespace Wb
open PySem PySem.Spec PyProof.Rows L2
theorem bits_of (f : Nat → Bool) : ∀ n : Nat, ∀ i, ∃ k, k < 2 ^ n ∧ ∀ j, j < n → bitB k j = f (i + j)
  | 0, i => ⟨0, by decide, fun j h => absurd h (Nat.not_lt_zero j)⟩
  | n + 1, i => by
    obtain ⟨k, hk, hb⟩ := bits_of f n (i + 1)
    refine ⟨2 * k + (if f i then 1 else 0), ?_, fun j hj => ?_⟩
    · rw [Nat.pow_succ]
      split <;> omega
    · cases j with
      | zero =>
        unfold bitB
        rw [Nat.pow_zero, Nat.div_one, Nat.add_zero]
        cases f i with
        | true =>
          rw [if_pos rfl, show (2 * k + 1) % 2 = 1 by omega]
          rfl
        | false =>
          rw [if_neg Bool.false_ne_true, show (2 * k + 0) % 2 = 0 by omega]
          rfl
      | succ j =>
        have h := hb j (by omega)
        rw [show i + (j + 1) = i + 1 + j by omega, ← h]
        unfold bitB
        rw [Nat.pow_succ, Nat.mul_comm (2 ^ j) 2, ← Nat.div_div_eq_div_mul]
        have e : (2 * k + (if f i then 1 else 0)) / 2 = k := by split <;> omega
        rw [e]
theorem sel_congr (f g : Nat → Bool) : ∀ (ps : Es) (i i' : Nat), (∀ j, j < ps.length → f (i + j) = g (i' + j)) → selGo f i ps = selGo g i' ps
  | [], _, _, _ => rfl
  | e :: ps, i, i', h => by
    have h0 := h 0 (by rw [List.length_cons]; omega)
    have ih := sel_congr f g ps (i + 1) (i' + 1) fun j hj => by
      have := h (j + 1) (by rw [List.length_cons]; omega)
      rw [show i + 1 + j = i + (j + 1) by omega, show i' + 1 + j = i' + (j + 1) by omega]
      exact this
    unfold selGo
    rw [Nat.add_zero, Nat.add_zero] at h0
    rw [h0, ih]
theorem lawWeb_bits (lp : Bool) (s : Nat) (f : Nat → Bool) : ∃ k, k < 2 ^ (pairsTo lp s).length ∧ lawWeb lp s f = lawWeb lp s (bitB k) := by
  obtain ⟨k, hk, hb⟩ := bits_of f (pairsTo lp s).length 0
  refine ⟨k, hk, ?_⟩
  unfold lawWeb sel
  rw [sel_congr f (bitB k) (pairsTo lp s) 0 0 fun j hj => by rw [Nat.zero_add]; have := hb j hj; rw [Nat.zero_add] at this; exact this.symm]
theorem asc_of : ∀ {es : Es}, ascB es = true → Asc es ∧ ∀ x r, es = x :: r → ∀ y ∈ r, key x < key y
  | [], _ => ⟨.nil, fun _ _ h => by cases h⟩
  | [x], _ => ⟨List.pairwise_singleton _ _, fun _ _ h => by cases h; exact fun _ z => by cases z⟩
  | x :: y :: r, h => by
    have h' : (Nat.blt (key x) (key y) && ascB (y :: r)) = true := h
    rw [Bool.and_eq_true] at h'
    have h1 := Nat.le_of_ble_eq_true h'.1
    obtain ⟨a, b⟩ := asc_of h'.2
    have c : ∀ z ∈ y :: r, key x < key z := fun z hz => by
      rcases List.mem_cons.mp hz with rfl | hz
      · exact h1
      · exact Nat.lt_trans h1 (b y r rfl z hz)
    exact ⟨List.pairwise_cons.mpr ⟨c, a⟩, fun _ _ e => by cases e; exact c⟩
theorem ok_of {x : Nat × Es} (h : okB x = true) : WebOk x := by
  unfold okB at h
  rw [Bool.and_eq_true, Bool.and_eq_true] at h
  refine ⟨fun e he => ?_, (asc_of h.1.2).1, Nat.le_of_ble_eq_true h.2⟩
  have := List.all_eq_true.mp h.1.1 e he
  rw [Bool.and_eq_true] at this
  exact ⟨Nat.le_of_ble_eq_true this.1, Nat.le_of_ble_eq_true this.2⟩
theorem head_of {x : Nat × Es} (h : headB x = true) : (codes x)[0]? = some (cl x) ∧ (codes x).count (cl x) = countSym x.2 (perms x.1) := by
  unfold headB at h
  unfold cl
  cases hc : codes x with
  | nil => rw [hc] at h; cases h
  | cons c r =>
    rw [hc] at h
    refine ⟨rfl, ?_⟩
    have e := Nat.eq_of_beq_eq_true h
    rw [← e]
    unfold List.count
    exact List.countP_congr fun d _ => by
      show (d == c) = true ↔ Nat.beq d c = true
      rw [beq_iff_eq]
      exact ⟨fun z => by rw [z]; exact Nat.beq_refl c, Nat.eq_of_beq_eq_true⟩
theorem cl_of : ∀ {ws : List (Nat × Es)}, clB ws = true → ws.Pairwise (fun a b => cl a < cl b) ∧ ∀ x r, ws = x :: r → ∀ y ∈ r, cl x < cl y
  | [], _ => ⟨.nil, fun _ _ h => by cases h⟩
  | [x], _ => ⟨List.pairwise_singleton _ _, fun _ _ h => by cases h; exact fun _ z => by cases z⟩
  | x :: y :: r, h => by
    have h' : (Nat.blt (cl x) (cl y) && clB (y :: r)) = true := h
    rw [Bool.and_eq_true] at h'
    have h1 := Nat.le_of_ble_eq_true h'.1
    obtain ⟨a, b⟩ := cl_of h'.2
    have c : ∀ z ∈ y :: r, cl x < cl z := fun z hz => by
      rcases List.mem_cons.mp hz with rfl | hz
      · exact h1
      · exact Nat.lt_trans h1 (b y r rfl z hz)
    exact ⟨List.pairwise_cons.mpr ⟨c, a⟩, fun _ _ e => by cases e; exact c⟩
theorem least_of {lp : Bool} {n : Nat} {x : Nat × Es} (h : leastB lp n x = true) : LeastOk lp n x ∧ (codes x).count (cl x) = countSym x.2 (perms x.1) := by
  unfold leastB at h
  rw [Bool.and_eq_true, Bool.and_eq_true, Bool.and_eq_true, Bool.and_eq_true] at h
  obtain ⟨⟨⟨⟨h1, h2⟩, h3⟩, h4⟩, h5⟩ := h
  have hh := head_of h4
  refine ⟨⟨Nat.eq_of_beq_eq_true h1, ok_of h2, fun hl e he => ?_, hh.1, fun c hc => Nat.le_of_ble_eq_true (List.all_eq_true.mp h5 c hc)⟩, hh.2⟩
  rw [hl, Bool.false_or] at h3
  have := List.all_eq_true.mp h3 e he
  intro z
  rw [z, show Nat.beq e.2 e.2 = true from Nat.beq_refl _] at this
  cases this
theorem group_at {lp : Bool} {n : Nat} (hn : n ≤ lim lp) : GroupOk lp n (allWebs lp n) ∧ (allWebs lp n).length ≤ 100 ∧ ∀ x ∈ allWebs lp n, (codes x).count (cl x) = countSym x.2 (perms x.1) := by
  have h := List.all_eq_true.mp groups_ok lp (by cases lp <;> simp)
  have h2 := List.all_eq_true.mp h n (List.mem_range.mpr (by omega))
  unfold groupB at h2
  rw [Bool.and_eq_true, Bool.and_eq_true, Bool.and_eq_true] at h2
  obtain ⟨⟨⟨h3, h4⟩, h5⟩, h6⟩ := h2
  have hl := fun x hx => least_of (List.all_eq_true.mp h3 x hx)
  exact ⟨⟨Nat.le_trans hn (lim_le lp), fun x hx => (hl x hx).1, (cl_of h4).1, Nat.eq_of_beq_eq_true h5⟩, Nat.le_of_ble_eq_true h6, fun x hx => (hl x hx).2⟩
theorem allWebs_size {lp : Bool} {n : Nat} {x : Nat × Es} (h : x ∈ allWebs lp n) : x.1 = n := by
  obtain ⟨h1, _⟩ := List.mem_filter.mp h
  obtain ⟨k, _, rfl⟩ := List.mem_map.mp h1
  rfl
theorem bySize_cat (lp : Bool) (s : Nat) : ∀ k, bySize (catTo lp k) s = if s < k then allWebs lp s else []
  | 0 => by rw [if_neg (Nat.not_lt_zero s)]; rfl
  | k + 1 => by
    have e : catTo lp (k + 1) = catTo lp k ++ allWebs lp k := range_flatMap _ k
    have ih := bySize_cat lp s k
    unfold bySize at ih ⊢
    rw [e, List.filter_append, ih]
    by_cases hk : s = k
    · subst hk
      rw [if_neg (Nat.lt_irrefl s), if_pos (Nat.lt_succ_self s), List.nil_append]
      exact List.filter_eq_self.mpr fun x hx => by rw [allWebs_size hx]; exact beq_self_eq_true s
    · have e2 : (allWebs lp k).filter (fun x => x.1 == s) = [] := List.filter_eq_nil_iff.mpr fun x hx => by
        rw [allWebs_size hx, beq_iff_eq]
        exact fun z => hk z.symm
      rw [e2, List.append_nil]
      by_cases h : s < k
      · rw [if_pos h, if_pos (by omega)]
      · rw [if_neg h, if_neg (by omega)]
theorem flat_same {α β : Type} {g h : α → List β} : ∀ {xs : List α}, (∀ x ∈ xs, g x = h x) → xs.flatMap g = xs.flatMap h
  | [], _ => rfl
  | x :: xs, e => by rw [List.flatMap_cons, List.flatMap_cons, e x List.mem_cons_self, flat_same fun y hy => e y (List.mem_cons_of_mem _ hy)]
theorem finOk : FinOk where
  size := fun lp n s hn hs => by
    show bySize (catTo lp (n + 1)) s = _
    rw [bySize_cat, if_pos (by omega)]
  cat := fun lp n hn => by
    have bs : ∀ i, i ≤ n → bySize (Wb.cat lp n) i = allWebs lp i := fun i hi => by
      show bySize (catTo lp (n + 1)) i = _
      rw [bySize_cat, if_pos (by omega)]
    have hm : ∀ x ∈ Wb.cat lp n, ∃ i, i ≤ n ∧ x ∈ allWebs lp i := fun x hx => by
      obtain ⟨i, hi, h⟩ := List.mem_flatMap.mp hx
      exact ⟨i, by have := List.mem_range.mp hi; omega, h⟩
    have hn4 := Nat.le_trans hn (lim_le lp)
    refine ⟨hn4, ?_, fun x hx => ?_, fun i hi => ?_, ?_⟩
    · have := flatMap_len (allWebs lp) 100 (List.range (n + 1)) fun i hi => (group_at (lp := lp) (n := i) (by have := List.mem_range.mp hi; omega)).2.1
      rw [List.length_range] at this
      show ((List.range (n + 1)).flatMap (allWebs lp)).length ≤ 1000
      omega
    · obtain ⟨i, hi, h⟩ := hm x hx
      exact ((group_at (by omega)).1.2.1 x h).2.1
    · rw [bs i hi]
      exact (group_at (by omega)).1
    · show _ = (List.range (n + 1)).flatMap (allWebs lp)
      exact flat_same fun i hi => bs i (by have := List.mem_range.mp hi; omega)
  told := fun lp s f hs => by
    obtain ⟨k, hk, e⟩ := lawWeb_bits lp s f
    rw [e]
    have h := List.all_eq_true.mp told_ok lp (by cases lp <;> simp)
    have h2 := List.all_eq_true.mp h s (List.mem_range.mpr (by omega))
    have h3 := List.all_eq_true.mp h2 k (List.mem_range.mpr hk)
    unfold toldB at h3
    rw [Bool.and_eq_true, Bool.and_eq_true, Bool.and_eq_true, Bool.and_eq_true, Bool.and_eq_true] at h3
    obtain ⟨⟨⟨⟨⟨h4, h5⟩, h6⟩, h7⟩, h8⟩, h9⟩ := h3
    have hg := group_at hs
    have hx1 : (lawWeb lp s (bitB k)).1 = s := rfl
    generalize lawWeb lp s (bitB k) = x at *
    have hx := head_of h5
    obtain ⟨m0, hm0, em0⟩ := List.any_eq_true.mp h7
    have em := Nat.eq_of_beq_eq_true em0
    refine ⟨Nat.le_trans hg.2.1 (by decide), fun o ho => ?_, Nat.lt_of_le_of_lt (Nat.le_of_ble_eq_true h6) (by decide), minL (codes x), ?_⟩
    · rcases List.mem_append.mp ho with ho | ho
      · have := hg.1.2.1 o ho
        exact ⟨this.2.1, this.2.2.2.1, hg.2.2 o ho⟩
      · rw [List.mem_singleton.mp ho]
        exact ⟨ok_of h4, hx.1, hx.2⟩
    · rw [hx1]
      split at h9
      · rename_i w r e1 e2
        exact ⟨w, r, by rw [← em]; exact hm0, fun y hy => Nat.le_of_ble_eq_true (List.all_eq_true.mp h8 y hy), e1, e2, of_decide_eq_true h9⟩
      · cases h9
end Wb
-- END
set_option Elab.async false
set_option linter.all false
set_option maxRecDepth 100000
set_option maxHeartbeats 4000000
/-! what the top has left, put together -/
namespace Wb
open PySem PySem.Spec PyProof.Rows L2
/-- a class that an except clause, an isinstance names -/
theorem kit_cls_of {K : PySem.W.Frag} {C U : Addr} {b : Bool} (i : PySem.W.isClsIn K U = true) (t : PySem.W.typeIn K (.ref U) = some (.type "type")) (s : PySem.W.subIn K (.ref C) (.ref U) = some b) : PySem.W.kitCls K (.ref C) (.ref U) = some b := by
  have e2 : ((PySem.W.clsIn K U).isSome && PySem.W.typeIn K (.ref U) == some (.type "type")) = true := by
    have i' : (PySem.W.clsIn K U).isSome = true := i
    rw [i', t] <;> rfl
  show (if ((PySem.W.clsIn K U).isSome && PySem.W.typeIn K (.ref U) == some (.type "type")) = true then PySem.W.subIn K (.ref C) (.ref U) else none) = some b
  rw [if_pos e2]
  exact s
theorem kit_ne {K : PySem.W.Frag} {C U : Addr} {b : Bool} (n : ((Value.ref C) == (Value.ref U)) = false) (h : PySem.W.kitCls K (.ref C) (.ref U) = some b) : PySem.W.kitOne K (.ref C) (.ref U) = some b := by
  unfold PySem.W.kitOne
  rw [n, if_neg Bool.false_ne_true]
  exact h
theorem exm_of {K : PySem.W.Frag} {C U : Addr} {b : Bool} (e : PySem.W.subIn K (.ref U) (.type "BaseException") = some true) (h : PySem.W.kitCls K (.ref C) (.ref U) = some b) : PySem.W.exmOne K (.ref C) (.ref U) = some b := by
  unfold PySem.W.exmOne
  rw [e]
  exact h
/-- the keyword loops left out -/
theorem binds_loops {K : PySem.W.Frag} {x p : Str} {st : Stmt} {f D : Addr} {oc doc pm cdv ct : Value} {od an : Option Addr} {osl : Array (Option Value)} (lk : K.lookup f = some ⟨oc, od, .func (PySem.W.fnOf x x (defArgs st) (defBody st) (defScope st) .none (.ref D) doc pm an cdv ct), osl⟩) (c : PySem.W.codeIn K cdv x = true) (kp : PySem.W.keepIn K (.ref f) = true) (hw : PySem.W.nsIn K D "loops" = some (some (.bool false)))
    (h : ∀ (D : Addr) (doc pm : Value) (an : Option Addr) (cdv ct : Value) (u k : Value), KwChain D [(("loops" : Str), k)] (bindArgs (PySem.W.fnOf x x (defArgs st) (defBody st) (defScope st) .none (.ref D) doc pm an cdv ct) ⟨[u], []⟩) [(p, u), (("loops" : Str), k)]) :
    L2.Binds K (PySem.W.fnOf x x (defArgs st) (defBody st) (defScope st) .none (.ref D) doc pm an cdv ct) [p, "loops"] [.bool false] := by
  have F : FunD K x x (defArgs st) (defBody st) (defScope st) [] [(("loops" : Str), V.bl false)] f (PySem.W.fnOf x x (defArgs st) (defBody st) (defScope st) .none (.ref D) doc pm an cdv ct) :=
    ⟨⟨oc, od, .none, .ref D, doc, pm, an, cdv, ct, osl, rfl, lk, c, .inl ⟨rfl, rfl⟩, .inr ⟨D, rfl, fun q hq => by rw [List.mem_singleton.mp hq]; exact ⟨_, hw, rfl⟩⟩⟩, kp⟩
  obtain ⟨ds, hv, hb⟩ := F.binds0 (ps := [p, "loops"]) 1 (by simp) rfl fun D doc pm an cdv ct us ks l1 l2 => by
    match us, ks, l1, l2 with
    | [u], [k], _, _ => exact h D doc pm an cdv ct u k
  cases hv with
  | cons h1 h2 =>
    cases h2
    have e : _ = Value.bool false := h1
    subst e
    exact hb
theorem all_mk {P : Program} {w : World} {K : PySem.W.Frag} {h : Heap} {mg : Str → Option Value} {fa : Addr} (X : K.In h) (G : h.Ns mainGlobals mg) (hfa : mg "law" = some (.ref fa))
    {f_make_web : Addr} {od_make_web an_make_web : Option Addr} {sl_make_web : Array (Option Value)} {oc_make_web dc_make_web pm_make_web cd_make_web ct_make_web : Value} {kV_make_web : Value}
    {f_image : Addr} {od_image an_image : Option Addr} {sl_image : Array (Option Value)} {oc_image dc_image pm_image cd_image ct_image : Value} {kV_image : Value}
    {f_renamed : Addr} {od_renamed an_renamed : Option Addr} {sl_renamed : Array (Option Value)} {oc_renamed dc_renamed pm_renamed cd_renamed ct_renamed : Value} {kV_renamed : Value}
    {f_bit_of : Addr} {od_bit_of an_bit_of : Option Addr} {sl_bit_of : Array (Option Value)} {oc_bit_of dc_bit_of pm_bit_of cd_bit_of ct_bit_of : Value} {kV_bit_of : Value}
    {f_code_of : Addr} {od_code_of an_code_of : Option Addr} {sl_code_of : Array (Option Value)} {oc_code_of dc_code_of pm_code_of cd_code_of ct_code_of : Value} {kV_code_of : Value}
    {f_web_of_code : Addr} {od_web_of_code an_web_of_code : Option Addr} {sl_web_of_code : Array (Option Value)} {oc_web_of_code dc_web_of_code pm_web_of_code cd_web_of_code ct_web_of_code : Value} {kV_web_of_code : Value}
    {f_all_renamings : Addr} {od_all_renamings an_all_renamings : Option Addr} {sl_all_renamings : Array (Option Value)} {oc_all_renamings dc_all_renamings pm_all_renamings cd_all_renamings ct_all_renamings : Value} {kV_all_renamings : Value}
    {f_code_under : Addr} {od_code_under an_code_under : Option Addr} {sl_code_under : Array (Option Value)} {oc_code_under dc_code_under pm_code_under cd_code_under ct_code_under : Value} {kV_code_under : Value}
    {f_sort_row : Addr} {od_sort_row an_sort_row : Option Addr} {sl_sort_row : Array (Option Value)} {oc_sort_row dc_sort_row pm_sort_row cd_sort_row ct_sort_row : Value} {kV_sort_row : Value}
    {f_sort_of : Addr} {od_sort_of an_sort_of : Option Addr} {sl_sort_of : Array (Option Value)} {oc_sort_of dc_sort_of pm_sort_of cd_sort_of ct_sort_of : Value} {kV_sort_of : Value}
    {f_count_symmetries : Addr} {od_count_symmetries an_count_symmetries : Option Addr} {sl_count_symmetries : Array (Option Value)} {oc_count_symmetries dc_count_symmetries pm_count_symmetries cd_count_symmetries ct_count_symmetries : Value} {kV_count_symmetries : Value}
    {f_check_limit : Addr} {od_check_limit an_check_limit : Option Addr} {sl_check_limit : Array (Option Value)} {oc_check_limit dc_check_limit pm_check_limit cd_check_limit ct_check_limit : Value} {kV_check_limit : Value}
    {f_code_with : Addr} {od_code_with an_code_with : Option Addr} {sl_code_with : Array (Option Value)} {oc_code_with dc_code_with pm_code_with cd_code_with ct_code_with : Value} {kV_code_with : Value}
    {f_is_least : Addr} {od_is_least an_is_least : Option Addr} {sl_is_least : Array (Option Value)} {oc_is_least dc_is_least pm_is_least cd_is_least ct_is_least : Value} {kV_is_least : Value}
    {f_all_webs : Addr} {od_all_webs an_all_webs : Option Addr} {sl_all_webs : Array (Option Value)} {oc_all_webs dc_all_webs pm_all_webs cd_all_webs ct_all_webs : Value} {D_all_webs : Addr}
    {f_catalogue : Addr} {od_catalogue an_catalogue : Option Addr} {sl_catalogue : Array (Option Value)} {oc_catalogue dc_catalogue pm_catalogue cd_catalogue ct_catalogue : Value} {D_catalogue : Addr}
    {f_law_cell : Addr} {od_law_cell an_law_cell : Option Addr} {sl_law_cell : Array (Option Value)} {oc_law_cell dc_law_cell pm_law_cell cd_law_cell ct_law_cell : Value} {kV_law_cell : Value}
    {f_law_draws : Addr} {od_law_draws an_law_draws : Option Addr} {sl_law_draws : Array (Option Value)} {oc_law_draws dc_law_draws pm_law_draws cd_law_draws ct_law_draws : Value} {kV_law_draws : Value}
    {f_law_same : Addr} {od_law_same an_law_same : Option Addr} {sl_law_same : Array (Option Value)} {oc_law_same dc_law_same pm_law_same cd_law_same ct_law_same : Value} {kV_law_same : Value}
    {f_law_is_integer : Addr} {od_law_is_integer an_law_is_integer : Option Addr} {sl_law_is_integer : Array (Option Value)} {oc_law_is_integer dc_law_is_integer pm_law_is_integer cd_law_is_integer ct_law_is_integer : Value} {kV_law_is_integer : Value}
    {f_law_is_web : Addr} {od_law_is_web an_law_is_web : Option Addr} {sl_law_is_web : Array (Option Value)} {oc_law_is_web dc_law_is_web pm_law_is_web cd_law_is_web ct_law_is_web : Value} {kV_law_is_web : Value}
    {f_law_web : Addr} {od_law_web an_law_web : Option Addr} {sl_law_web : Array (Option Value)} {oc_law_web dc_law_web pm_law_web cd_law_web ct_law_web : Value} {kV_law_web : Value}
    {f_law_permutations : Addr} {od_law_permutations an_law_permutations : Option Addr} {sl_law_permutations : Array (Option Value)} {oc_law_permutations dc_law_permutations pm_law_permutations cd_law_permutations ct_law_permutations : Value} {kV_law_permutations : Value}
    {f_law_code : Addr} {od_law_code an_law_code : Option Addr} {sl_law_code : Array (Option Value)} {oc_law_code dc_law_code pm_law_code cd_law_code ct_law_code : Value} {kV_law_code : Value}
    {f_law_codes : Addr} {od_law_codes an_law_codes : Option Addr} {sl_law_codes : Array (Option Value)} {oc_law_codes dc_law_codes pm_law_codes cd_law_codes ct_law_codes : Value} {kV_law_codes : Value}
    {f_law_is_group : Addr} {od_law_is_group an_law_is_group : Option Addr} {sl_law_is_group : Array (Option Value)} {oc_law_is_group dc_law_is_group pm_law_is_group cd_law_is_group ct_law_is_group : Value} {kV_law_is_group : Value}
    {f_law_is_catalogue : Addr} {od_law_is_catalogue an_law_is_catalogue : Option Addr} {sl_law_is_catalogue : Array (Option Value)} {oc_law_is_catalogue dc_law_is_catalogue pm_law_is_catalogue cd_law_is_catalogue ct_law_is_catalogue : Value} {kV_law_is_catalogue : Value}
    {f_law_asked : Addr} {od_law_asked an_law_asked : Option Addr} {sl_law_asked : Array (Option Value)} {oc_law_asked dc_law_asked pm_law_asked cd_law_asked ct_law_asked : Value} {kV_law_asked : Value}
    {f_law_refusals : Addr} {od_law_refusals an_law_refusals : Option Addr} {sl_law_refusals : Array (Option Value)} {oc_law_refusals dc_law_refusals pm_law_refusals cd_law_refusals ct_law_refusals : Value} {kV_law_refusals : Value}
    {f_law_web_told : Addr} {od_law_web_told an_law_web_told : Option Addr} {sl_law_web_told : Array (Option Value)} {oc_law_web_told dc_law_web_told pm_law_web_told cd_law_web_told ct_law_web_told : Value} {kV_law_web_told : Value}
    {f_law : Addr} {od_law an_law : Option Addr} {sl_law : Array (Option Value)} {oc_law dc_law pm_law cd_law ct_law : Value} {kV_law : Value}
    {t_MAX_NODES : Tok}
    {t_MAX_SORTED : Tok}
    {t_MAX_LISTED : Tok}
    {t_MAX_SIMPLE : Tok}
    {t_MAX_LOOPED : Tok}
    {C W U N fI cda cc ns_C : Addr} {nm_C q_C : Str} {bs_C sub_C : List Value} {sn_C : List Str} {ab_C : Bool} {col_C : Option Bool} {dd_C : Option Addr} {m0 m1 m2 m3 m5 : Option Value} {oc_I dc_I pm_I ct_I ccl ccs_cls : Value} {od_I an_I cdd cld : Option Addr} {sl_I ccs csl : Array (Option Value)} {vs_cd : Array Value} {file : Str} {tf : Tok}
    (a_make_web : PySem.W.nsIn K mainGlobals "make_web" = some (some (.ref f_make_web)))
    (l_make_web : K.lookup f_make_web = some ⟨oc_make_web, od_make_web, .func (PySem.W.fnOf "make_web" "make_web" (defArgs s_make_web) (defBody s_make_web) (defScope s_make_web) .none kV_make_web dc_make_web pm_make_web an_make_web cd_make_web ct_make_web), sl_make_web⟩)
    (c_make_web : PySem.W.codeIn K cd_make_web "make_web" = true)
    (k_make_web : PySem.W.keepIn K (.ref f_make_web) = true)
    (a_image : PySem.W.nsIn K mainGlobals "image" = some (some (.ref f_image)))
    (l_image : K.lookup f_image = some ⟨oc_image, od_image, .func (PySem.W.fnOf "image" "image" (defArgs s_image) (defBody s_image) (defScope s_image) .none kV_image dc_image pm_image an_image cd_image ct_image), sl_image⟩)
    (c_image : PySem.W.codeIn K cd_image "image" = true)
    (k_image : PySem.W.keepIn K (.ref f_image) = true)
    (a_renamed : PySem.W.nsIn K mainGlobals "renamed" = some (some (.ref f_renamed)))
    (l_renamed : K.lookup f_renamed = some ⟨oc_renamed, od_renamed, .func (PySem.W.fnOf "renamed" "renamed" (defArgs s_renamed) (defBody s_renamed) (defScope s_renamed) .none kV_renamed dc_renamed pm_renamed an_renamed cd_renamed ct_renamed), sl_renamed⟩)
    (c_renamed : PySem.W.codeIn K cd_renamed "renamed" = true)
    (k_renamed : PySem.W.keepIn K (.ref f_renamed) = true)
    (a_bit_of : PySem.W.nsIn K mainGlobals "bit_of" = some (some (.ref f_bit_of)))
    (l_bit_of : K.lookup f_bit_of = some ⟨oc_bit_of, od_bit_of, .func (PySem.W.fnOf "bit_of" "bit_of" (defArgs s_bit_of) (defBody s_bit_of) (defScope s_bit_of) .none kV_bit_of dc_bit_of pm_bit_of an_bit_of cd_bit_of ct_bit_of), sl_bit_of⟩)
    (c_bit_of : PySem.W.codeIn K cd_bit_of "bit_of" = true)
    (k_bit_of : PySem.W.keepIn K (.ref f_bit_of) = true)
    (a_code_of : PySem.W.nsIn K mainGlobals "code_of" = some (some (.ref f_code_of)))
    (l_code_of : K.lookup f_code_of = some ⟨oc_code_of, od_code_of, .func (PySem.W.fnOf "code_of" "code_of" (defArgs s_code_of) (defBody s_code_of) (defScope s_code_of) .none kV_code_of dc_code_of pm_code_of an_code_of cd_code_of ct_code_of), sl_code_of⟩)
    (c_code_of : PySem.W.codeIn K cd_code_of "code_of" = true)
    (k_code_of : PySem.W.keepIn K (.ref f_code_of) = true)
    (a_web_of_code : PySem.W.nsIn K mainGlobals "web_of_code" = some (some (.ref f_web_of_code)))
    (l_web_of_code : K.lookup f_web_of_code = some ⟨oc_web_of_code, od_web_of_code, .func (PySem.W.fnOf "web_of_code" "web_of_code" (defArgs s_web_of_code) (defBody s_web_of_code) (defScope s_web_of_code) .none kV_web_of_code dc_web_of_code pm_web_of_code an_web_of_code cd_web_of_code ct_web_of_code), sl_web_of_code⟩)
    (c_web_of_code : PySem.W.codeIn K cd_web_of_code "web_of_code" = true)
    (k_web_of_code : PySem.W.keepIn K (.ref f_web_of_code) = true)
    (a_all_renamings : PySem.W.nsIn K mainGlobals "all_renamings" = some (some (.ref f_all_renamings)))
    (l_all_renamings : K.lookup f_all_renamings = some ⟨oc_all_renamings, od_all_renamings, .func (PySem.W.fnOf "all_renamings" "all_renamings" (defArgs s_all_renamings) (defBody s_all_renamings) (defScope s_all_renamings) .none kV_all_renamings dc_all_renamings pm_all_renamings an_all_renamings cd_all_renamings ct_all_renamings), sl_all_renamings⟩)
    (c_all_renamings : PySem.W.codeIn K cd_all_renamings "all_renamings" = true)
    (k_all_renamings : PySem.W.keepIn K (.ref f_all_renamings) = true)
    (a_code_under : PySem.W.nsIn K mainGlobals "code_under" = some (some (.ref f_code_under)))
    (l_code_under : K.lookup f_code_under = some ⟨oc_code_under, od_code_under, .func (PySem.W.fnOf "code_under" "code_under" (defArgs s_code_under) (defBody s_code_under) (defScope s_code_under) .none kV_code_under dc_code_under pm_code_under an_code_under cd_code_under ct_code_under), sl_code_under⟩)
    (c_code_under : PySem.W.codeIn K cd_code_under "code_under" = true)
    (k_code_under : PySem.W.keepIn K (.ref f_code_under) = true)
    (a_sort_row : PySem.W.nsIn K mainGlobals "sort_row" = some (some (.ref f_sort_row)))
    (l_sort_row : K.lookup f_sort_row = some ⟨oc_sort_row, od_sort_row, .func (PySem.W.fnOf "sort_row" "sort_row" (defArgs s_sort_row) (defBody s_sort_row) (defScope s_sort_row) .none kV_sort_row dc_sort_row pm_sort_row an_sort_row cd_sort_row ct_sort_row), sl_sort_row⟩)
    (c_sort_row : PySem.W.codeIn K cd_sort_row "sort_row" = true)
    (k_sort_row : PySem.W.keepIn K (.ref f_sort_row) = true)
    (a_sort_of : PySem.W.nsIn K mainGlobals "sort_of" = some (some (.ref f_sort_of)))
    (l_sort_of : K.lookup f_sort_of = some ⟨oc_sort_of, od_sort_of, .func (PySem.W.fnOf "sort_of" "sort_of" (defArgs s_sort_of) (defBody s_sort_of) (defScope s_sort_of) .none kV_sort_of dc_sort_of pm_sort_of an_sort_of cd_sort_of ct_sort_of), sl_sort_of⟩)
    (c_sort_of : PySem.W.codeIn K cd_sort_of "sort_of" = true)
    (k_sort_of : PySem.W.keepIn K (.ref f_sort_of) = true)
    (a_count_symmetries : PySem.W.nsIn K mainGlobals "count_symmetries" = some (some (.ref f_count_symmetries)))
    (l_count_symmetries : K.lookup f_count_symmetries = some ⟨oc_count_symmetries, od_count_symmetries, .func (PySem.W.fnOf "count_symmetries" "count_symmetries" (defArgs s_count_symmetries) (defBody s_count_symmetries) (defScope s_count_symmetries) .none kV_count_symmetries dc_count_symmetries pm_count_symmetries an_count_symmetries cd_count_symmetries ct_count_symmetries), sl_count_symmetries⟩)
    (c_count_symmetries : PySem.W.codeIn K cd_count_symmetries "count_symmetries" = true)
    (k_count_symmetries : PySem.W.keepIn K (.ref f_count_symmetries) = true)
    (a_check_limit : PySem.W.nsIn K mainGlobals "check_limit" = some (some (.ref f_check_limit)))
    (l_check_limit : K.lookup f_check_limit = some ⟨oc_check_limit, od_check_limit, .func (PySem.W.fnOf "check_limit" "check_limit" (defArgs s_check_limit) (defBody s_check_limit) (defScope s_check_limit) .none kV_check_limit dc_check_limit pm_check_limit an_check_limit cd_check_limit ct_check_limit), sl_check_limit⟩)
    (c_check_limit : PySem.W.codeIn K cd_check_limit "check_limit" = true)
    (k_check_limit : PySem.W.keepIn K (.ref f_check_limit) = true)
    (a_code_with : PySem.W.nsIn K mainGlobals "code_with" = some (some (.ref f_code_with)))
    (l_code_with : K.lookup f_code_with = some ⟨oc_code_with, od_code_with, .func (PySem.W.fnOf "code_with" "code_with" (defArgs s_code_with) (defBody s_code_with) (defScope s_code_with) .none kV_code_with dc_code_with pm_code_with an_code_with cd_code_with ct_code_with), sl_code_with⟩)
    (c_code_with : PySem.W.codeIn K cd_code_with "code_with" = true)
    (k_code_with : PySem.W.keepIn K (.ref f_code_with) = true)
    (a_is_least : PySem.W.nsIn K mainGlobals "is_least" = some (some (.ref f_is_least)))
    (l_is_least : K.lookup f_is_least = some ⟨oc_is_least, od_is_least, .func (PySem.W.fnOf "is_least" "is_least" (defArgs s_is_least) (defBody s_is_least) (defScope s_is_least) .none kV_is_least dc_is_least pm_is_least an_is_least cd_is_least ct_is_least), sl_is_least⟩)
    (c_is_least : PySem.W.codeIn K cd_is_least "is_least" = true)
    (k_is_least : PySem.W.keepIn K (.ref f_is_least) = true)
    (a_all_webs : PySem.W.nsIn K mainGlobals "all_webs" = some (some (.ref f_all_webs)))
    (l_all_webs : K.lookup f_all_webs = some ⟨oc_all_webs, od_all_webs, .func (PySem.W.fnOf "all_webs" "all_webs" (defArgs s_all_webs) (defBody s_all_webs) (defScope s_all_webs) .none (.ref D_all_webs) dc_all_webs pm_all_webs an_all_webs cd_all_webs ct_all_webs), sl_all_webs⟩)
    (c_all_webs : PySem.W.codeIn K cd_all_webs "all_webs" = true)
    (k_all_webs : PySem.W.keepIn K (.ref f_all_webs) = true)
    (w_all_webs : PySem.W.nsIn K D_all_webs "loops" = some (some (.bool false)))
    (a_catalogue : PySem.W.nsIn K mainGlobals "catalogue" = some (some (.ref f_catalogue)))
    (l_catalogue : K.lookup f_catalogue = some ⟨oc_catalogue, od_catalogue, .func (PySem.W.fnOf "catalogue" "catalogue" (defArgs s_catalogue) (defBody s_catalogue) (defScope s_catalogue) .none (.ref D_catalogue) dc_catalogue pm_catalogue an_catalogue cd_catalogue ct_catalogue), sl_catalogue⟩)
    (c_catalogue : PySem.W.codeIn K cd_catalogue "catalogue" = true)
    (k_catalogue : PySem.W.keepIn K (.ref f_catalogue) = true)
    (w_catalogue : PySem.W.nsIn K D_catalogue "loops" = some (some (.bool false)))
    (a_law_cell : PySem.W.nsIn K mainGlobals "_law_cell" = some (some (.ref f_law_cell)))
    (l_law_cell : K.lookup f_law_cell = some ⟨oc_law_cell, od_law_cell, .func (PySem.W.fnOf "_law_cell" "_law_cell" (defArgs s_law_cell) (defBody s_law_cell) (defScope s_law_cell) .none kV_law_cell dc_law_cell pm_law_cell an_law_cell cd_law_cell ct_law_cell), sl_law_cell⟩)
    (c_law_cell : PySem.W.codeIn K cd_law_cell "_law_cell" = true)
    (k_law_cell : PySem.W.keepIn K (.ref f_law_cell) = true)
    (a_law_draws : PySem.W.nsIn K mainGlobals "_law_draws" = some (some (.ref f_law_draws)))
    (l_law_draws : K.lookup f_law_draws = some ⟨oc_law_draws, od_law_draws, .func (PySem.W.fnOf "_law_draws" "_law_draws" (defArgs s_law_draws) (defBody s_law_draws) (defScope s_law_draws) .none kV_law_draws dc_law_draws pm_law_draws an_law_draws cd_law_draws ct_law_draws), sl_law_draws⟩)
    (c_law_draws : PySem.W.codeIn K cd_law_draws "_law_draws" = true)
    (k_law_draws : PySem.W.keepIn K (.ref f_law_draws) = true)
    (a_law_same : PySem.W.nsIn K mainGlobals "_law_same" = some (some (.ref f_law_same)))
    (l_law_same : K.lookup f_law_same = some ⟨oc_law_same, od_law_same, .func (PySem.W.fnOf "_law_same" "_law_same" (defArgs s_law_same) (defBody s_law_same) (defScope s_law_same) .none kV_law_same dc_law_same pm_law_same an_law_same cd_law_same ct_law_same), sl_law_same⟩)
    (c_law_same : PySem.W.codeIn K cd_law_same "_law_same" = true)
    (k_law_same : PySem.W.keepIn K (.ref f_law_same) = true)
    (a_law_is_integer : PySem.W.nsIn K mainGlobals "_law_is_integer" = some (some (.ref f_law_is_integer)))
    (l_law_is_integer : K.lookup f_law_is_integer = some ⟨oc_law_is_integer, od_law_is_integer, .func (PySem.W.fnOf "_law_is_integer" "_law_is_integer" (defArgs s_law_is_integer) (defBody s_law_is_integer) (defScope s_law_is_integer) .none kV_law_is_integer dc_law_is_integer pm_law_is_integer an_law_is_integer cd_law_is_integer ct_law_is_integer), sl_law_is_integer⟩)
    (c_law_is_integer : PySem.W.codeIn K cd_law_is_integer "_law_is_integer" = true)
    (k_law_is_integer : PySem.W.keepIn K (.ref f_law_is_integer) = true)
    (a_law_is_web : PySem.W.nsIn K mainGlobals "_law_is_web" = some (some (.ref f_law_is_web)))
    (l_law_is_web : K.lookup f_law_is_web = some ⟨oc_law_is_web, od_law_is_web, .func (PySem.W.fnOf "_law_is_web" "_law_is_web" (defArgs s_law_is_web) (defBody s_law_is_web) (defScope s_law_is_web) .none kV_law_is_web dc_law_is_web pm_law_is_web an_law_is_web cd_law_is_web ct_law_is_web), sl_law_is_web⟩)
    (c_law_is_web : PySem.W.codeIn K cd_law_is_web "_law_is_web" = true)
    (k_law_is_web : PySem.W.keepIn K (.ref f_law_is_web) = true)
    (a_law_web : PySem.W.nsIn K mainGlobals "_law_web" = some (some (.ref f_law_web)))
    (l_law_web : K.lookup f_law_web = some ⟨oc_law_web, od_law_web, .func (PySem.W.fnOf "_law_web" "_law_web" (defArgs s_law_web) (defBody s_law_web) (defScope s_law_web) .none kV_law_web dc_law_web pm_law_web an_law_web cd_law_web ct_law_web), sl_law_web⟩)
    (c_law_web : PySem.W.codeIn K cd_law_web "_law_web" = true)
    (k_law_web : PySem.W.keepIn K (.ref f_law_web) = true)
    (a_law_permutations : PySem.W.nsIn K mainGlobals "_law_permutations" = some (some (.ref f_law_permutations)))
    (l_law_permutations : K.lookup f_law_permutations = some ⟨oc_law_permutations, od_law_permutations, .func (PySem.W.fnOf "_law_permutations" "_law_permutations" (defArgs s_law_permutations) (defBody s_law_permutations) (defScope s_law_permutations) .none kV_law_permutations dc_law_permutations pm_law_permutations an_law_permutations cd_law_permutations ct_law_permutations), sl_law_permutations⟩)
    (c_law_permutations : PySem.W.codeIn K cd_law_permutations "_law_permutations" = true)
    (k_law_permutations : PySem.W.keepIn K (.ref f_law_permutations) = true)
    (a_law_code : PySem.W.nsIn K mainGlobals "_law_code" = some (some (.ref f_law_code)))
    (l_law_code : K.lookup f_law_code = some ⟨oc_law_code, od_law_code, .func (PySem.W.fnOf "_law_code" "_law_code" (defArgs s_law_code) (defBody s_law_code) (defScope s_law_code) .none kV_law_code dc_law_code pm_law_code an_law_code cd_law_code ct_law_code), sl_law_code⟩)
    (c_law_code : PySem.W.codeIn K cd_law_code "_law_code" = true)
    (k_law_code : PySem.W.keepIn K (.ref f_law_code) = true)
    (a_law_codes : PySem.W.nsIn K mainGlobals "_law_codes" = some (some (.ref f_law_codes)))
    (l_law_codes : K.lookup f_law_codes = some ⟨oc_law_codes, od_law_codes, .func (PySem.W.fnOf "_law_codes" "_law_codes" (defArgs s_law_codes) (defBody s_law_codes) (defScope s_law_codes) .none kV_law_codes dc_law_codes pm_law_codes an_law_codes cd_law_codes ct_law_codes), sl_law_codes⟩)
    (c_law_codes : PySem.W.codeIn K cd_law_codes "_law_codes" = true)
    (k_law_codes : PySem.W.keepIn K (.ref f_law_codes) = true)
    (a_law_is_group : PySem.W.nsIn K mainGlobals "_law_is_group" = some (some (.ref f_law_is_group)))
    (l_law_is_group : K.lookup f_law_is_group = some ⟨oc_law_is_group, od_law_is_group, .func (PySem.W.fnOf "_law_is_group" "_law_is_group" (defArgs s_law_is_group) (defBody s_law_is_group) (defScope s_law_is_group) .none kV_law_is_group dc_law_is_group pm_law_is_group an_law_is_group cd_law_is_group ct_law_is_group), sl_law_is_group⟩)
    (c_law_is_group : PySem.W.codeIn K cd_law_is_group "_law_is_group" = true)
    (k_law_is_group : PySem.W.keepIn K (.ref f_law_is_group) = true)
    (a_law_is_catalogue : PySem.W.nsIn K mainGlobals "_law_is_catalogue" = some (some (.ref f_law_is_catalogue)))
    (l_law_is_catalogue : K.lookup f_law_is_catalogue = some ⟨oc_law_is_catalogue, od_law_is_catalogue, .func (PySem.W.fnOf "_law_is_catalogue" "_law_is_catalogue" (defArgs s_law_is_catalogue) (defBody s_law_is_catalogue) (defScope s_law_is_catalogue) .none kV_law_is_catalogue dc_law_is_catalogue pm_law_is_catalogue an_law_is_catalogue cd_law_is_catalogue ct_law_is_catalogue), sl_law_is_catalogue⟩)
    (c_law_is_catalogue : PySem.W.codeIn K cd_law_is_catalogue "_law_is_catalogue" = true)
    (k_law_is_catalogue : PySem.W.keepIn K (.ref f_law_is_catalogue) = true)
    (a_law_asked : PySem.W.nsIn K mainGlobals "_law_asked" = some (some (.ref f_law_asked)))
    (l_law_asked : K.lookup f_law_asked = some ⟨oc_law_asked, od_law_asked, .func (PySem.W.fnOf "_law_asked" "_law_asked" (defArgs s_law_asked) (defBody s_law_asked) (defScope s_law_asked) .none kV_law_asked dc_law_asked pm_law_asked an_law_asked cd_law_asked ct_law_asked), sl_law_asked⟩)
    (c_law_asked : PySem.W.codeIn K cd_law_asked "_law_asked" = true)
    (k_law_asked : PySem.W.keepIn K (.ref f_law_asked) = true)
    (a_law_refusals : PySem.W.nsIn K mainGlobals "_law_refusals" = some (some (.ref f_law_refusals)))
    (l_law_refusals : K.lookup f_law_refusals = some ⟨oc_law_refusals, od_law_refusals, .func (PySem.W.fnOf "_law_refusals" "_law_refusals" (defArgs s_law_refusals) (defBody s_law_refusals) (defScope s_law_refusals) .none kV_law_refusals dc_law_refusals pm_law_refusals an_law_refusals cd_law_refusals ct_law_refusals), sl_law_refusals⟩)
    (c_law_refusals : PySem.W.codeIn K cd_law_refusals "_law_refusals" = true)
    (k_law_refusals : PySem.W.keepIn K (.ref f_law_refusals) = true)
    (a_law_web_told : PySem.W.nsIn K mainGlobals "_law_web_told" = some (some (.ref f_law_web_told)))
    (l_law_web_told : K.lookup f_law_web_told = some ⟨oc_law_web_told, od_law_web_told, .func (PySem.W.fnOf "_law_web_told" "_law_web_told" (defArgs s_law_web_told) (defBody s_law_web_told) (defScope s_law_web_told) .none kV_law_web_told dc_law_web_told pm_law_web_told an_law_web_told cd_law_web_told ct_law_web_told), sl_law_web_told⟩)
    (c_law_web_told : PySem.W.codeIn K cd_law_web_told "_law_web_told" = true)
    (k_law_web_told : PySem.W.keepIn K (.ref f_law_web_told) = true)
    (a_law : PySem.W.nsIn K mainGlobals "law" = some (some (.ref f_law)))
    (l_law : K.lookup f_law = some ⟨oc_law, od_law, .func (PySem.W.fnOf "law" "law" (defArgs s_law) (defBody s_law) (defScope s_law) .none kV_law dc_law pm_law an_law cd_law ct_law), sl_law⟩)
    (c_law : PySem.W.codeIn K cd_law "law" = true)
    (k_law : PySem.W.keepIn K (.ref f_law) = true)
    (z_len : PySem.W.nsIn K mainGlobals "len" = some none)
    (z_range : PySem.W.nsIn K mainGlobals "range" = some none)
    (z_min : PySem.W.nsIn K mainGlobals "min" = some none)
    (z_max : PySem.W.nsIn K mainGlobals "max" = some none)
    (z_int : PySem.W.nsIn K mainGlobals "int" = some none)
    (z_abs : PySem.W.nsIn K mainGlobals "abs" = some none)
    (z_isinstance : PySem.W.nsIn K mainGlobals "isinstance" = some none)
    (z_enumerate : PySem.W.nsIn K mainGlobals "enumerate" = some none)
    (z_sorted : PySem.W.nsIn K mainGlobals "sorted" = some none)
    (z_set : PySem.W.nsIn K mainGlobals "set" = some none)
    (z_tuple : PySem.W.nsIn K mainGlobals "tuple" = some none)
    (z_list : PySem.W.nsIn K mainGlobals "list" = some none)
    (z_bool : PySem.W.nsIn K mainGlobals "bool" = some none)
    (z_str : PySem.W.nsIn K mainGlobals "str" = some none)
    (z_super : PySem.W.nsIn K mainGlobals "super" = some none)
    (n_MAX_NODES : PySem.W.nsIn K mainGlobals "MAX_NODES" = some (some (.int 64 t_MAX_NODES)))
    (n_MAX_SORTED : PySem.W.nsIn K mainGlobals "MAX_SORTED" = some (some (.int 5 t_MAX_SORTED)))
    (n_MAX_LISTED : PySem.W.nsIn K mainGlobals "MAX_LISTED" = some (some (.int 6 t_MAX_LISTED)))
    (n_MAX_SIMPLE : PySem.W.nsIn K mainGlobals "MAX_SIMPLE" = some (some (.int 4 t_MAX_SIMPLE)))
    (n_MAX_LOOPED : PySem.W.nsIn K mainGlobals "MAX_LOOPED" = some (some (.int 3 t_MAX_LOOPED)))
    (aC : PySem.W.nsIn K mainGlobals "TooLarge" = some (some (.ref C)))
    (aW : PySem.W.nsIn K mainGlobals "WebError" = some (some (.ref W)))
    (aU : PySem.W.nsIn K mainGlobals "UnfitWeb" = some (some (.ref U)))
    (aN : PySem.W.nsIn K mainGlobals "NoResult" = some (some (.ref N)))
    (xL : K.lookup C = some (excClassObj nm_C q_C C ns_C bs_C [.ref W, .type "ValueError", .type "Exception", .type "BaseException", .type "object"] true sn_C sub_C ab_C col_C dd_C m0 m1 m2 m3 m5 "ValueError.__new__"))
    (sa : PySem.W.findIn K (.ref C) "__setattr__" = some (some (.builtin "object.__setattr__")))
    (ga : PySem.W.findIn K (.ref C) "__getattribute__" = some (some (.builtin "BaseException.__getattribute__")))
    (gg : PySem.W.findIn K (.ref C) "__getattr__" = some none)
    (nb : PySem.W.findIn K (.ref C) "limit" = some none)
    (iC : PySem.W.findIn K (.ref C) "__init__" = some (some (.ref fI)))
    (tI : PySem.W.typeIn K (.ref fI) = some (.type "function"))
    (kC : PySem.W.keepIn K (.ref C) = true)
    (exC : PySem.W.subIn K (.ref C) (.type "BaseException") = some true)
    (veC : PySem.W.subIn K (.ref C) (.type "ValueError") = some true)
    (tyC : PySem.W.typeIn K (.ref C) = some (.type "type"))
    (hdC : PySem.W.hasDictIn K C = true)
    (slf : PySem.W.mroIn K C (.ref C) = some true)
    (opq : PySem.W.nsIn K cStatics "thirdparty.any" = some none)
    (sup : PySem.W.ks_superIn K C C "__init__" = some (some (.builtin "ValueError.__init__")))
    (lI : K.lookup fI = some ⟨oc_I, od_I, .func (PySem.W.ksFn "__init__" "TooLarge.__init__" TL.iA TL.iB TL.iS .none .none dc_I pm_I an_I (.ref cda) ct_I cc), sl_I⟩)
    (cI : PySem.W.codeIn K (.ref cda) "TooLarge.__init__" = true)
    (lcd : K.lookup cda = some ⟨ccl, cdd, .fields vs_cd, ccs⟩)
    (vcd : vs_cd[2]? = some (.str file tf))
    (hfile : ((P.main.file : Str) == file) = true)
    (lcc : K.lookup cc = some ⟨ccs_cls, cld, .cell (some (.ref C)), csl⟩)
    (tops : (P.main.scope.names.lookup ("super" : Str)).isSome = false)
    (eW : PySem.W.subIn K (.ref W) (.type "BaseException") = some true)
    (iW : PySem.W.isClsIn K W = true)
    (tW : PySem.W.typeIn K (.ref W) = some (.type "type"))
    (sW : PySem.W.subIn K (.ref C) (.ref W) = some true)
    (iU : PySem.W.isClsIn K U = true)
    (tU : PySem.W.typeIn K (.ref U) = some (.type "type"))
    (sU : PySem.W.subIn K (.ref C) (.ref U) = some false)
    (nU : ((Value.ref C) == (Value.ref U)) = false)
    (iN : PySem.W.isClsIn K N = true)
    (tN : PySem.W.typeIn K (.ref N) = some (.type "type"))
    (sN : PySem.W.subIn K (.ref C) (.ref N) = some false)
    (nN : ((Value.ref C) == (Value.ref N)) = false)
    (stp : PySem.W.subIn K (.ref C) (.type "StopIteration") = some false)
    (xcl : PySem.W.findIn K (.ref C) "__class__" = some (some (.builtin "object.__class__")))
    (xge : PySem.W.specialIn K (.builtin "object.__class__") "__get__" = some (some (.builtin "getset_descriptor.__get__")))
    (xta : PySem.W.takesIn K (.builtin "object.__class__") = some true)
    (xob : PySem.W.mroIn K C (.type "object") = some true) :
    ∃ fd : FuncData, (∀ (s : Shared) (u : Value), BindsTo s fd ⟨[u], []⟩ [(("_law_script" : Str), u)]) ∧ ∀ base : Heap, K.In base → base.Ns mainGlobals mg → FnOk P w K mg base CX0 12 fa fd ["_law_script"] (spLaw K) := by
  have e := hfa.symm.trans (PySem.W.mg_of X G a_law)
  cases e
  have B : Bt mg := { len := PySem.W.mg_none_of X G z_len, range := PySem.W.mg_none_of X G z_range, min := PySem.W.mg_none_of X G z_min, max := PySem.W.mg_none_of X G z_max, int := PySem.W.mg_none_of X G z_int, abs := PySem.W.mg_none_of X G z_abs, isinstance := PySem.W.mg_none_of X G z_isinstance, enumerate := PySem.W.mg_none_of X G z_enumerate, sorted := PySem.W.mg_none_of X G z_sorted, set := PySem.W.mg_none_of X G z_set, tuple := PySem.W.mg_none_of X G z_tuple, list := PySem.W.mg_none_of X G z_list, bool := PySem.W.mg_none_of X G z_bool, str := PySem.W.mg_none_of X G z_str, MAX_NODES := ⟨_, PySem.W.mg_of X G n_MAX_NODES⟩, MAX_SORTED := ⟨_, PySem.W.mg_of X G n_MAX_SORTED⟩, MAX_LISTED := ⟨_, PySem.W.mg_of X G n_MAX_LISTED⟩, MAX_SIMPLE := ⟨_, PySem.W.mg_of X G n_MAX_SIMPLE⟩, MAX_LOOPED := ⟨_, PySem.W.mg_of X G n_MAX_LOOPED⟩ }
  have F_make_web := fun_mk (st := s_make_web) l_make_web c_make_web k_make_web
  have F_image := fun_mk (st := s_image) l_image c_image k_image
  have F_renamed := fun_mk (st := s_renamed) l_renamed c_renamed k_renamed
  have F_bit_of := fun_mk (st := s_bit_of) l_bit_of c_bit_of k_bit_of
  have F_code_of := fun_mk (st := s_code_of) l_code_of c_code_of k_code_of
  have F_web_of_code := fun_mk (st := s_web_of_code) l_web_of_code c_web_of_code k_web_of_code
  have F_all_renamings := fun_mk (st := s_all_renamings) l_all_renamings c_all_renamings k_all_renamings
  have F_code_under := fun_mk (st := s_code_under) l_code_under c_code_under k_code_under
  have F_sort_row := fun_mk (st := s_sort_row) l_sort_row c_sort_row k_sort_row
  have F_sort_of := fun_mk (st := s_sort_of) l_sort_of c_sort_of k_sort_of
  have F_count_symmetries := fun_mk (st := s_count_symmetries) l_count_symmetries c_count_symmetries k_count_symmetries
  have F_check_limit := fun_mk (st := s_check_limit) l_check_limit c_check_limit k_check_limit
  have F_code_with := fun_mk (st := s_code_with) l_code_with c_code_with k_code_with
  have F_is_least := fun_mk (st := s_is_least) l_is_least c_is_least k_is_least
  have F_all_webs := fun_mk (st := s_all_webs) l_all_webs c_all_webs k_all_webs
  have F_catalogue := fun_mk (st := s_catalogue) l_catalogue c_catalogue k_catalogue
  have F_law_cell := fun_mk (st := s_law_cell) l_law_cell c_law_cell k_law_cell
  have F_law_draws := fun_mk (st := s_law_draws) l_law_draws c_law_draws k_law_draws
  have F_law_same := fun_mk (st := s_law_same) l_law_same c_law_same k_law_same
  have F_law_is_integer := fun_mk (st := s_law_is_integer) l_law_is_integer c_law_is_integer k_law_is_integer
  have F_law_is_web := fun_mk (st := s_law_is_web) l_law_is_web c_law_is_web k_law_is_web
  have F_law_web := fun_mk (st := s_law_web) l_law_web c_law_web k_law_web
  have F_law_permutations := fun_mk (st := s_law_permutations) l_law_permutations c_law_permutations k_law_permutations
  have F_law_code := fun_mk (st := s_law_code) l_law_code c_law_code k_law_code
  have F_law_codes := fun_mk (st := s_law_codes) l_law_codes c_law_codes k_law_codes
  have F_law_is_group := fun_mk (st := s_law_is_group) l_law_is_group c_law_is_group k_law_is_group
  have F_law_is_catalogue := fun_mk (st := s_law_is_catalogue) l_law_is_catalogue c_law_is_catalogue k_law_is_catalogue
  have F_law_asked := fun_mk (st := s_law_asked) l_law_asked c_law_asked k_law_asked
  have F_law_refusals := fun_mk (st := s_law_refusals) l_law_refusals c_law_refusals k_law_refusals
  have F_law_web_told := fun_mk (st := s_law_web_told) l_law_web_told c_law_web_told k_law_web_told
  have F_law := fun_mk (st := s_law) l_law c_law k_law
  have C_make_web : Cal K mg "make_web" "make_web" s_make_web f_make_web _ ["size", "pairs"] := ⟨F_make_web, F_make_web.binds (ps := ["size", "pairs"]) fun _ _ _ _ _ _ us hl => match us, hl with | [_, _], _ => rfl, PySem.W.mg_of X G a_make_web⟩
  have C_image : Cal K mg "image" "image" s_image f_image _ ["web", "row", "size"] := ⟨F_image, F_image.binds (ps := ["web", "row", "size"]) fun _ _ _ _ _ _ us hl => match us, hl with | [_, _, _], _ => rfl, PySem.W.mg_of X G a_image⟩
  have C_renamed : Cal K mg "renamed" "renamed" s_renamed f_renamed _ ["web", "row"] := ⟨F_renamed, F_renamed.binds (ps := ["web", "row"]) fun _ _ _ _ _ _ us hl => match us, hl with | [_, _], _ => rfl, PySem.W.mg_of X G a_renamed⟩
  have C_bit_of : Cal K mg "bit_of" "bit_of" s_bit_of f_bit_of _ ["first", "second"] := ⟨F_bit_of, F_bit_of.binds (ps := ["first", "second"]) fun _ _ _ _ _ _ us hl => match us, hl with | [_, _], _ => rfl, PySem.W.mg_of X G a_bit_of⟩
  have C_code_of : Cal K mg "code_of" "code_of" s_code_of f_code_of _ ["web"] := ⟨F_code_of, F_code_of.binds (ps := ["web"]) fun _ _ _ _ _ _ us hl => match us, hl with | [_], _ => rfl, PySem.W.mg_of X G a_code_of⟩
  have C_web_of_code : Cal K mg "web_of_code" "web_of_code" s_web_of_code f_web_of_code _ ["size", "code"] := ⟨F_web_of_code, F_web_of_code.binds (ps := ["size", "code"]) fun _ _ _ _ _ _ us hl => match us, hl with | [_, _], _ => rfl, PySem.W.mg_of X G a_web_of_code⟩
  have C_all_renamings : Cal K mg "all_renamings" "all_renamings" s_all_renamings f_all_renamings _ ["size"] := ⟨F_all_renamings, F_all_renamings.binds (ps := ["size"]) fun _ _ _ _ _ _ us hl => match us, hl with | [_], _ => rfl, PySem.W.mg_of X G a_all_renamings⟩
  have C_code_under : Cal K mg "code_under" "code_under" s_code_under f_code_under _ ["web", "row"] := ⟨F_code_under, F_code_under.binds (ps := ["web", "row"]) fun _ _ _ _ _ _ us hl => match us, hl with | [_, _], _ => rfl, PySem.W.mg_of X G a_code_under⟩
  have C_sort_row : Cal K mg "sort_row" "sort_row" s_sort_row f_sort_row _ ["web"] := ⟨F_sort_row, F_sort_row.binds (ps := ["web"]) fun _ _ _ _ _ _ us hl => match us, hl with | [_], _ => rfl, PySem.W.mg_of X G a_sort_row⟩
  have C_sort_of : Cal K mg "sort_of" "sort_of" s_sort_of f_sort_of _ ["web"] := ⟨F_sort_of, F_sort_of.binds (ps := ["web"]) fun _ _ _ _ _ _ us hl => match us, hl with | [_], _ => rfl, PySem.W.mg_of X G a_sort_of⟩
  have C_count_symmetries : Cal K mg "count_symmetries" "count_symmetries" s_count_symmetries f_count_symmetries _ ["web"] := ⟨F_count_symmetries, F_count_symmetries.binds (ps := ["web"]) fun _ _ _ _ _ _ us hl => match us, hl with | [_], _ => rfl, PySem.W.mg_of X G a_count_symmetries⟩
  have C_check_limit : Cal K mg "check_limit" "check_limit" s_check_limit f_check_limit _ ["size", "loops"] := ⟨F_check_limit, F_check_limit.binds (ps := ["size", "loops"]) fun _ _ _ _ _ _ us hl => match us, hl with | [_, _], _ => rfl, PySem.W.mg_of X G a_check_limit⟩
  have C_code_with : Cal K mg "code_with" "code_with" s_code_with f_code_with _ ["number", "bits"] := ⟨F_code_with, F_code_with.binds (ps := ["number", "bits"]) fun _ _ _ _ _ _ us hl => match us, hl with | [_, _], _ => rfl, PySem.W.mg_of X G a_code_with⟩
  have C_is_least : Cal K mg "is_least" "is_least" s_is_least f_is_least _ ["web", "rows"] := ⟨F_is_least, F_is_least.binds (ps := ["web", "rows"]) fun _ _ _ _ _ _ us hl => match us, hl with | [_, _], _ => rfl, PySem.W.mg_of X G a_is_least⟩
  have C_law_cell : Cal K mg "_law_cell" "_law_cell" s_law_cell f_law_cell _ ["_law_script", "_law_place"] := ⟨F_law_cell, F_law_cell.binds (ps := ["_law_script", "_law_place"]) fun _ _ _ _ _ _ us hl => match us, hl with | [_, _], _ => rfl, PySem.W.mg_of X G a_law_cell⟩
  have C_law_draws : Cal K mg "_law_draws" "_law_draws" s_law_draws f_law_draws _ ["_law_script", "_law_place", "_law_count", "_law_base"] := ⟨F_law_draws, F_law_draws.binds (ps := ["_law_script", "_law_place", "_law_count", "_law_base"]) fun _ _ _ _ _ _ us hl => match us, hl with | [_, _, _, _], _ => rfl, PySem.W.mg_of X G a_law_draws⟩
  have C_law_same : Cal K mg "_law_same" "_law_same" s_law_same f_law_same _ ["_law_first", "_law_second"] := ⟨F_law_same, F_law_same.binds (ps := ["_law_first", "_law_second"]) fun _ _ _ _ _ _ us hl => match us, hl with | [_, _], _ => rfl, PySem.W.mg_of X G a_law_same⟩
  have C_law_is_integer : Cal K mg "_law_is_integer" "_law_is_integer" s_law_is_integer f_law_is_integer _ ["_law_value"] := ⟨F_law_is_integer, F_law_is_integer.binds (ps := ["_law_value"]) fun _ _ _ _ _ _ us hl => match us, hl with | [_], _ => rfl, PySem.W.mg_of X G a_law_is_integer⟩
  have C_law_is_web : Cal K mg "_law_is_web" "_law_is_web" s_law_is_web f_law_is_web _ ["_law_value"] := ⟨F_law_is_web, F_law_is_web.binds (ps := ["_law_value"]) fun _ _ _ _ _ _ us hl => match us, hl with | [_], _ => rfl, PySem.W.mg_of X G a_law_is_web⟩
  have C_law_web : Cal K mg "_law_web" "_law_web" s_law_web f_law_web _ ["_law_size", "_law_bits", "_law_looped"] := ⟨F_law_web, F_law_web.binds (ps := ["_law_size", "_law_bits", "_law_looped"]) fun _ _ _ _ _ _ us hl => match us, hl with | [_, _, _], _ => rfl, PySem.W.mg_of X G a_law_web⟩
  have C_law_permutations : Cal K mg "_law_permutations" "_law_permutations" s_law_permutations f_law_permutations _ ["_law_size"] := ⟨F_law_permutations, F_law_permutations.binds (ps := ["_law_size"]) fun _ _ _ _ _ _ us hl => match us, hl with | [_], _ => rfl, PySem.W.mg_of X G a_law_permutations⟩
  have C_law_code : Cal K mg "_law_code" "_law_code" s_law_code f_law_code _ ["_law_web_here", "_law_row"] := ⟨F_law_code, F_law_code.binds (ps := ["_law_web_here", "_law_row"]) fun _ _ _ _ _ _ us hl => match us, hl with | [_, _], _ => rfl, PySem.W.mg_of X G a_law_code⟩
  have C_law_codes : Cal K mg "_law_codes" "_law_codes" s_law_codes f_law_codes _ ["_law_web_here"] := ⟨F_law_codes, F_law_codes.binds (ps := ["_law_web_here"]) fun _ _ _ _ _ _ us hl => match us, hl with | [_], _ => rfl, PySem.W.mg_of X G a_law_codes⟩
  have C_law_is_group : Cal K mg "_law_is_group" "_law_is_group" s_law_is_group f_law_is_group _ ["_law_group", "_law_size", "_law_looped"] := ⟨F_law_is_group, F_law_is_group.binds (ps := ["_law_group", "_law_size", "_law_looped"]) fun _ _ _ _ _ _ us hl => match us, hl with | [_, _, _], _ => rfl, PySem.W.mg_of X G a_law_is_group⟩
  have C_law_is_catalogue : Cal K mg "_law_is_catalogue" "_law_is_catalogue" s_law_is_catalogue f_law_is_catalogue _ ["_law_webs", "_law_limit", "_law_looped"] := ⟨F_law_is_catalogue, F_law_is_catalogue.binds (ps := ["_law_webs", "_law_limit", "_law_looped"]) fun _ _ _ _ _ _ us hl => match us, hl with | [_, _, _], _ => rfl, PySem.W.mg_of X G a_law_is_catalogue⟩
  have C_law_asked : Cal K mg "_law_asked" "_law_asked" s_law_asked f_law_asked _ ["_law_what", "_law_number", "_law_looped"] := ⟨F_law_asked, F_law_asked.binds (ps := ["_law_what", "_law_number", "_law_looped"]) fun _ _ _ _ _ _ us hl => match us, hl with | [_, _, _], _ => rfl, PySem.W.mg_of X G a_law_asked⟩
  have C_law_refusals : Cal K mg "_law_refusals" "_law_refusals" s_law_refusals f_law_refusals _ ["_law_more"] := ⟨F_law_refusals, F_law_refusals.binds (ps := ["_law_more"]) fun _ _ _ _ _ _ us hl => match us, hl with | [_], _ => rfl, PySem.W.mg_of X G a_law_refusals⟩
  have C_law_web_told : Cal K mg "_law_web_told" "_law_web_told" s_law_web_told f_law_web_told _ ["_law_web_here", "_law_group"] := ⟨F_law_web_told, F_law_web_told.binds (ps := ["_law_web_here", "_law_group"]) fun _ _ _ _ _ _ us hl => match us, hl with | [_, _], _ => rfl, PySem.W.mg_of X G a_law_web_told⟩
  have TT : TL.TlTxt P K mg C fI := { gC := PySem.W.mg_of X G aC, gS := PySem.W.mg_none_of X G z_super, cls := ⟨_, _, _, _, _, _, _, _, _, _, _, _, _, _, _, xL, rfl⟩, sa := sa, ga := ga, gg := gg, noN := nb, iC := iC, tC := tI, kC := kC, exC := exC, veC := veC, tyC := tyC, hdC := hdC, slf := slf, opq := opq, sup := sup, fn := ⟨_, _, _, _, _, _, _, _, _, lI, cI, ⟨_, _, _, _, _, _, lcd, vcd, hfile⟩, ⟨_, _, _, lcc⟩⟩, top := tops }
  have ET : ErrT K mg C W U N := { gW := PySem.W.mg_of X G aW, gU := PySem.W.mg_of X G aU, gN := PySem.W.mg_of X G aN, exm := exm_of eW (kit_cls_of iW tW sW), kC := by unfold PySem.W.kitOne; rw [show ((Value.ref C) == (Value.ref C)) = true from beq_iff_eq.mpr rfl]; rfl, kU := kit_ne nU (kit_cls_of iU tU sU), kN := kit_ne nN (kit_cls_of iN tN sN), stop := stp, exc := ⟨ga, gg, exC, hdC, xcl, xge, xta, xob⟩ }
  have bC := binds_loops l_catalogue c_catalogue k_catalogue w_catalogue (p := "limit") fun _ _ _ _ _ _ _ _ => ⟨_, _, _, _, _, _, rfl, rfl, rfl⟩
  have bW := binds_loops l_all_webs c_all_webs k_all_webs w_all_webs (p := "size") fun _ _ _ _ _ _ _ _ => ⟨_, _, _, _, _, _, rfl, rfl, rfl⟩
  refine ⟨PySem.W.fnOf "law" "law" (defArgs s_law) (defBody s_law) (defScope s_law) .none kV_law dc_law pm_law an_law cd_law ct_law, fun s u => .of_eq rfl, fun base _ _ => ?_⟩
  have G_code_of := ok_code_of (P := P) (w := w) (base := base) B F_code_of C_bit_of
  have G_code_under := ok_code_under (P := P) (w := w) (base := base) B F_code_under C_bit_of
  have G_web_of_code := ok_web_of_code (P := P) (w := w) (base := base) B F_web_of_code C_bit_of
  have G_code_with := ok_code_with (P := P) (w := w) (base := base) B F_code_with
  have G_is_least := ok_is_least (P := P) (w := w) (base := base) B F_is_least C_code_of C_code_under G_code_of G_code_under
  have G_image := ok_image (P := P) (w := w) (base := base) B F_image C_make_web
  have G_renamed := ok_renamed (P := P) (w := w) (base := base) B F_renamed C_image G_image
  have G_sort_row := ok_sort_row (P := P) (w := w) (base := base) B F_sort_row C_all_renamings C_code_under G_code_under
  have G_sort_of := ok_sort_of (P := P) (w := w) (base := base) F_sort_of C_sort_row C_renamed G_sort_row G_renamed
  have G_count := ok_count (P := P) (w := w) (base := base) B F_count_symmetries C_all_renamings C_code_of C_code_under G_code_of G_code_under
  have G_check := ok_check_limit (P := P) (w := w) (base := base) B TT F_check_limit
  have G_webs := gfn_webs (P := P) (w := w) (base := base) (C := C) B F_all_webs C_all_renamings C_bit_of C_check_limit C_code_with C_web_of_code C_is_least G_check G_code_with G_web_of_code G_is_least
  have G_cat := ok_catalogue (P := P) (w := w) (base := base) (C := C) B F_catalogue C_check_limit F_all_webs (PySem.W.mg_of X G a_all_webs) G_check G_webs
  have G_asked := ok_asked (P := P) (w := w) (base := base) B TT ET F_law_asked F_catalogue (PySem.W.mg_of X G a_catalogue) F_all_webs (PySem.W.mg_of X G a_all_webs) (.cons rfl .nil) bC bW G_cat G_webs
  have G_cell := ok_cell (P := P) (w := w) (base := base) B F_law_cell
  have G_draws := ok_draws (P := P) (w := w) (base := base) B F_law_draws C_law_cell G_cell
  have G_isint := ok_is_integer (P := P) (w := w) (base := base) B F_law_is_integer
  have G_isweb := ok_is_web (P := P) (w := w) (base := base) B F_law_is_web C_law_is_integer G_isint
  have G_lweb := ok_law_web (P := P) (w := w) (base := base) B F_law_web
  have G_perms := ok_permutations (P := P) (w := w) (base := base) B F_law_permutations
  have G_lcode := ok_law_code (P := P) (w := w) (base := base) B F_law_code
  have G_codes := ok_law_codes (P := P) (w := w) (base := base) B F_law_codes C_law_permutations C_law_code G_perms G_lcode
  have G_group := ok_is_group (P := P) (w := w) (base := base) B F_law_is_group C_law_codes G_codes
  have G_same := ok_same (P := P) (w := w) (base := base) B C_law_same 6
  have G_iscat := ok_is_catalogue (P := P) (w := w) (base := base) B F_law_is_catalogue C_law_is_web C_law_is_group C_law_same G_isweb G_group G_same
  have G_ref := ok_refusals (P := P) (w := w) (base := base) B F_law_refusals C_law_asked C_law_same G_asked G_same
  have G_told := ok_web_told (P := P) (w := w) (base := base) B F_law_web_told C_law_codes C_law_same C_sort_of C_count_symmetries G_codes G_same G_sort_of G_count
  exact ok_law finOk B F_law C_law_cell C_law_draws C_law_same C_law_web C_law_is_catalogue C_law_asked C_law_refusals C_law_web_told G_cell G_draws G_same G_lweb G_iscat G_asked G_ref G_told
end Wb
-- HD
open PySem PySem.W PyProof.Rows
set_option Elab.async false
set_option maxRecDepth 100000 in
set_option maxHeartbeats 0 in
theorem PySem.Challenge.cw_webnumbers_k07_whole_catalogue_holds : PySem.Challenge.rw_webnumbers_k07_whole_catalogue.Holds := by
  w_on; o_law; k_head; (case hw => w_witness2)
  k_fill
  refine L2.walk_of (l := PySem.Challenge.rw_webnumbers_k07_whole_catalogue) (n := 63) (k := 12) (x := "_law_script") (CX := fun _ => L2.CX0) (sp := fun w => Wb.spLaw _) rfl (by decide) rfl ⟨rfl, by decide, by decide⟩ (fun w h Y => PySem.W.kIn_of Y) ?F (fun _ _ a ns hl _ hS => ⟨a, ns, rfl, hS, hl, fun _ => rfl⟩) (fun _ _ _ _ _ h => h)
  case F =>
    intro w mg fa h KX G hmg
    refine' Wb.all_mk KX G hmg ?a_make_web ?l_make_web ?c_make_web ?k_make_web ?a_image ?l_image ?c_image ?k_image ?a_renamed ?l_renamed ?c_renamed ?k_renamed ?a_bit_of ?l_bit_of ?c_bit_of ?k_bit_of ?a_code_of ?l_code_of ?c_code_of ?k_code_of ?a_web_of_code ?l_web_of_code ?c_web_of_code ?k_web_of_code ?a_all_renamings ?l_all_renamings ?c_all_renamings ?k_all_renamings ?a_code_under ?l_code_under ?c_code_under ?k_code_under ?a_sort_row ?l_sort_row ?c_sort_row ?k_sort_row ?a_sort_of ?l_sort_of ?c_sort_of ?k_sort_of ?a_count_symmetries ?l_count_symmetries ?c_count_symmetries ?k_count_symmetries ?a_check_limit ?l_check_limit ?c_check_limit ?k_check_limit ?a_code_with ?l_code_with ?c_code_with ?k_code_with ?a_is_least ?l_is_least ?c_is_least ?k_is_least ?a_all_webs ?l_all_webs ?c_all_webs ?k_all_webs ?w_all_webs ?a_catalogue ?l_catalogue ?c_catalogue ?k_catalogue ?w_catalogue ?a_law_cell ?l_law_cell ?c_law_cell ?k_law_cell ?a_law_draws ?l_law_draws ?c_law_draws ?k_law_draws ?a_law_same ?l_law_same ?c_law_same ?k_law_same ?a_law_is_integer ?l_law_is_integer ?c_law_is_integer ?k_law_is_integer ?a_law_is_web ?l_law_is_web ?c_law_is_web ?k_law_is_web ?a_law_web ?l_law_web ?c_law_web ?k_law_web ?a_law_permutations ?l_law_permutations ?c_law_permutations ?k_law_permutations ?a_law_code ?l_law_code ?c_law_code ?k_law_code ?a_law_codes ?l_law_codes ?c_law_codes ?k_law_codes ?a_law_is_group ?l_law_is_group ?c_law_is_group ?k_law_is_group ?a_law_is_catalogue ?l_law_is_catalogue ?c_law_is_catalogue ?k_law_is_catalogue ?a_law_asked ?l_law_asked ?c_law_asked ?k_law_asked ?a_law_refusals ?l_law_refusals ?c_law_refusals ?k_law_refusals ?a_law_web_told ?l_law_web_told ?c_law_web_told ?k_law_web_told ?a_law ?l_law ?c_law ?k_law ?z_len ?z_range ?z_min ?z_max ?z_int ?z_abs ?z_isinstance ?z_enumerate ?z_sorted ?z_set ?z_tuple ?z_list ?z_bool ?z_str ?z_super ?n_MAX_NODES ?n_MAX_SORTED ?n_MAX_LISTED ?n_MAX_SIMPLE ?n_MAX_LOOPED ?aC ?aW ?aU ?aN ?xL ?sa ?ga ?gg ?nb ?iC ?tI ?kC ?exC ?veC ?tyC ?hdC ?slf ?opq ?sup ?lI ?cI ?lcd ?vcd ?hfile ?lcc ?tops ?eW ?iW ?tW ?sW ?iU ?tU ?sU ?nU ?iN ?tN ?sN ?nN ?stp ?xcl ?xge ?xta ?xob
    (case a_make_web => k_is)
    (case l_make_web => k_is)
    (case c_make_web => k_is)
    (case k_make_web => k_is)
    (case a_image => k_is)
    (case l_image => k_is)
    (case c_image => k_is)
    (case k_image => k_is)
    (case a_renamed => k_is)
    (case l_renamed => k_is)
    (case c_renamed => k_is)
    (case k_renamed => k_is)
    (case a_bit_of => k_is)
    (case l_bit_of => k_is)
    (case c_bit_of => k_is)
    (case k_bit_of => k_is)
    (case a_code_of => k_is)
    (case l_code_of => k_is)
    (case c_code_of => k_is)
    (case k_code_of => k_is)
    (case a_web_of_code => k_is)
    (case l_web_of_code => k_is)
    (case c_web_of_code => k_is)
    (case k_web_of_code => k_is)
    (case a_all_renamings => k_is)
    (case l_all_renamings => k_is)
    (case c_all_renamings => k_is)
    (case k_all_renamings => k_is)
    (case a_code_under => k_is)
    (case l_code_under => k_is)
    (case c_code_under => k_is)
    (case k_code_under => k_is)
    (case a_sort_row => k_is)
    (case l_sort_row => k_is)
    (case c_sort_row => k_is)
    (case k_sort_row => k_is)
    (case a_sort_of => k_is)
    (case l_sort_of => k_is)
    (case c_sort_of => k_is)
    (case k_sort_of => k_is)
    (case a_count_symmetries => k_is)
    (case l_count_symmetries => k_is)
    (case c_count_symmetries => k_is)
    (case k_count_symmetries => k_is)
    (case a_check_limit => k_is)
    (case l_check_limit => k_is)
    (case c_check_limit => k_is)
    (case k_check_limit => k_is)
    (case a_code_with => k_is)
    (case l_code_with => k_is)
    (case c_code_with => k_is)
    (case k_code_with => k_is)
    (case a_is_least => k_is)
    (case l_is_least => k_is)
    (case c_is_least => k_is)
    (case k_is_least => k_is)
    (case a_all_webs => k_is)
    (case l_all_webs => k_is)
    (case c_all_webs => k_is)
    (case k_all_webs => k_is)
    (case w_all_webs => k_is)
    (case a_catalogue => k_is)
    (case l_catalogue => k_is)
    (case c_catalogue => k_is)
    (case k_catalogue => k_is)
    (case w_catalogue => k_is)
    (case a_law_cell => k_is)
    (case l_law_cell => k_is)
    (case c_law_cell => k_is)
    (case k_law_cell => k_is)
    (case a_law_draws => k_is)
    (case l_law_draws => k_is)
    (case c_law_draws => k_is)
    (case k_law_draws => k_is)
    (case a_law_same => k_is)
    (case l_law_same => k_is)
    (case c_law_same => k_is)
    (case k_law_same => k_is)
    (case a_law_is_integer => k_is)
    (case l_law_is_integer => k_is)
    (case c_law_is_integer => k_is)
    (case k_law_is_integer => k_is)
    (case a_law_is_web => k_is)
    (case l_law_is_web => k_is)
    (case c_law_is_web => k_is)
    (case k_law_is_web => k_is)
    (case a_law_web => k_is)
    (case l_law_web => k_is)
    (case c_law_web => k_is)
    (case k_law_web => k_is)
    (case a_law_permutations => k_is)
    (case l_law_permutations => k_is)
    (case c_law_permutations => k_is)
    (case k_law_permutations => k_is)
    (case a_law_code => k_is)
    (case l_law_code => k_is)
    (case c_law_code => k_is)
    (case k_law_code => k_is)
    (case a_law_codes => k_is)
    (case l_law_codes => k_is)
    (case c_law_codes => k_is)
    (case k_law_codes => k_is)
    (case a_law_is_group => k_is)
    (case l_law_is_group => k_is)
    (case c_law_is_group => k_is)
    (case k_law_is_group => k_is)
    (case a_law_is_catalogue => k_is)
    (case l_law_is_catalogue => k_is)
    (case c_law_is_catalogue => k_is)
    (case k_law_is_catalogue => k_is)
    (case a_law_asked => k_is)
    (case l_law_asked => k_is)
    (case c_law_asked => k_is)
    (case k_law_asked => k_is)
    (case a_law_refusals => k_is)
    (case l_law_refusals => k_is)
    (case c_law_refusals => k_is)
    (case k_law_refusals => k_is)
    (case a_law_web_told => k_is)
    (case l_law_web_told => k_is)
    (case c_law_web_told => k_is)
    (case k_law_web_told => k_is)
    (case a_law => k_is)
    (case l_law => k_is)
    (case c_law => k_is)
    (case k_law => k_is)
    (case z_len => k_is)
    (case z_range => k_is)
    (case z_min => k_is)
    (case z_max => k_is)
    (case z_int => k_is)
    (case z_abs => k_is)
    (case z_isinstance => k_is)
    (case z_enumerate => k_is)
    (case z_sorted => k_is)
    (case z_set => k_is)
    (case z_tuple => k_is)
    (case z_list => k_is)
    (case z_bool => k_is)
    (case z_str => k_is)
    (case z_super => k_is)
    (case n_MAX_NODES => k_is)
    (case n_MAX_SORTED => k_is)
    (case n_MAX_LISTED => k_is)
    (case n_MAX_SIMPLE => k_is)
    (case n_MAX_LOOPED => k_is)
    (case aC => k_is)
    (case aW => k_is)
    (case aU => k_is)
    (case aN => k_is)
    (case xL => k_is)
    (case sa => k_is)
    (case ga => k_is)
    (case gg => k_is)
    (case nb => k_is)
    (case iC => k_is)
    (case tI => k_is)
    (case kC => k_is)
    (case exC => k_is)
    (case veC => k_is)
    (case tyC => k_is)
    (case hdC => k_is)
    (case slf => k_is)
    (case opq => k_is)
    (case sup => ks_is)
    (case lI => k_is)
    (case cI => k_is)
    (case lcd => k_is)
    (case vcd => rfl)
    (case hfile => decide +kernel)
    (case lcc => k_is)
    (case tops => decide +kernel)
    (case eW => k_is)
    (case iW => k_is)
    (case tW => k_is)
    (case sW => k_is)
    (case iU => k_is)
    (case tU => k_is)
    (case sU => k_is)
    (case nU => rfl)
    (case iN => k_is)
    (case tN => k_is)
    (case sN => k_is)
    (case nN => rfl)
    (case stp => k_is)
    (case xcl => k_is)
    (case xge => k_is)
    (case xta => k_is)
    (case xob => k_is)
