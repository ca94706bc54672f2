import PyProof.Rows.All
import HandS.GenOver
import HandS.ForMost
import HandS.Zip
import HandS.TupAny
import HandS.TupMul
import HandS.Deep
import HandS.IsInst
import HandS.Star
import HandS.Property
import HandS.Wide
import HandS.Conv
import HandS.More
import PyProof.P3In
import PySem.Challenge.RW_lookscan_k36_whole_waves_cannot_be_fewer
import KE.GoesEnum
import KE.SortData
import KE.KDictSum
import KE.OsSort
import HandS.DictSubView
import KE.KDictWalk
import PyProof.GenRules
import PyProof.GenQ
import PyProof.ForAny
import HandS.GenList
import HandS.Defaults
import HandS.Ends
import Wide.All
import OpenK.AllK
import Wide.FinOn
set_option Elab.async false
set_option linter.all false
set_option maxRecDepth 100000
set_option maxHeartbeats 8000000
/-! Fz: sleeping generators are not touched by what runs without waking them. A run that goes well where every sleeping generator is one that can't be
woken goes as well where they are what they are, and leaves them so. -/
namespace Fz
open PySem
open Sem (wp)

/-- the same sleeper, but whoever wakes it is stuck -/
def bad : GenState → GenState
  | .suspended _ l c0 p fs0 cl => .suspended (fun _ => .unsupported "") l c0 p fs0 cl
  | x => x
def asleep : GenState → Bool
  | .suspended .. => true
  | _ => false
/-- its frames hold no other generator's mark -/
def clean : GenState → Prop
  | .suspended _ _ _ _ fs0 _ => splitAtGen fs0 = none
  | _ => True
theorem bad_seen (x : GenState) : (bad x).seen = x.seen := by cases x <;> rfl
theorem bad_bare (x : GenState) : (bad x).bare = x.bare := by cases x <;> rfl
theorem bad_asleep {x : GenState} (h : asleep x = true) : ∃ l c0 p fs0 cl, bad x = .suspended (fun _ => .unsupported "") l c0 p fs0 cl := by
  cases x with
  | suspended k l c0 p fs0 cl => exact ⟨l, c0, p, fs0, cl, rfl⟩
  | _ => cases h
theorem split_app : ∀ {a b : List Frame}, splitAtGen a = none → splitAtGen b = none → splitAtGen (a ++ b) = none
  | [], _, _, h => h
  | .gen .. :: _, _, h, _ => by cases h
  | .ret k h g l c0 p kp :: r, b, h1, h2 => by
    have h3 : splitAtGen r = none := by
      have q : (splitAtGen r).map _ = none := h1
      simpa using q
    show (splitAtGen (r ++ b)).map _ = none
    rw [split_app h3 h2]
    rfl
theorem split_ret {k : Result → Sem PySem.Fin} {h : Option Value} {g : Bool} {l : List Value} {c0 : Code} {p : Pos} {kp : List Value} {r : List Frame} (z : splitAtGen (.ret k h g l c0 p kp :: r) = none) : splitAtGen r = none := by
  have q : (splitAtGen r).map _ = none := z
  simpa using q

section
variable {M : Model}
def endClean : End → Prop
  | .ret _ => True
  | .susp _ _ _ _ _ _ fs0 => splitAtGen fs0 = none
theorem runs_clean {Γ : Ctx} {p : Pos} {t : Sem PySem.Fin} {fs0 : List Frame} {s s' : Shared} {e : End} (h : Runs M Γ p t fs0 s e s') : endClean e := by
  induction h with
  | callSusp _ ih => exact split_app ih rfl
  | segSuspOut hs _ ih => exact split_app ih hs
  | yield => exact rfl
  | done => exact trivial
  | raise => exact trivial
  | _ => assumption
theorem endClean_gen {e : End} (h : endClean e) : clean e.genState := by
  cases e with
  | ret r => exact trivial
  | susp v g l k c0 p fs0 => exact h
theorem no_unsup_nil {Γ : Ctx} {p : Pos} {what : String} {s s' : Shared} {e : End} (h : Runs M Γ p (.unsupported what) [] s e s') : False := by
  cases h
theorem no_unsup {Γ : Ctx} {p : Pos} {what : String} {fs0 : List Frame} {s s' : Shared} {e : End} (h : Runs M Γ p (.unsupported what) fs0 s e s') : False := by
  cases fs0 with
  | nil => exact no_unsup_nil h
  | cons f r =>
    cases h with
    | segRet a _ => exact no_unsup_nil a
    | segGen a _ => exact no_unsup_nil a
    | segSuspOut _ a => exact no_unsup_nil a
    | segSuspGen _ a _ _ => exact no_unsup_nil a
end

/-- G' (as it is run), G (as it is): at F the sleepers, everywhere else the same -/
structure Rel (F : Nat → Option GenState) (G' G : Array GenState) : Prop where
  size : G.size = G'.size
  at_ : ∀ i st, F i = some st → asleep st = true ∧ G[i]? = some st ∧ G'[i]? = some (bad st)
  off : ∀ i, F i = none → G[i]? = G'[i]? ∧ ∀ x, G'[i]? = some x → clean x
section
variable {F : Nat → Option GenState} {G' G : Array GenState}
theorem Rel.lt (r : Rel F G' G) {i : Nat} {st : GenState} (h : F i = some st) : i < G.size := (Array.getElem?_eq_some_iff.mp (r.at_ i st h).2.1).1
theorem Rel.push (r : Rel F G' G) {x : GenState} (hx : clean x) : Rel F (G'.push x) (G.push x) := by
  have hz := r.size
  refine ⟨by rw [Array.size_push, Array.size_push, hz], fun i st h => ?_, fun i h => ?_⟩
  · obtain ⟨h1, h2, h3⟩ := r.at_ i st h
    have hl := r.lt h
    refine ⟨h1, ?_, ?_⟩
    · rw [Array.getElem?_push, if_neg (by omega)]
      exact h2
    · rw [Array.getElem?_push, if_neg (by omega)]
      exact h3
  · obtain ⟨h1, h2⟩ := r.off i h
    rw [Array.getElem?_push, Array.getElem?_push, hz]
    by_cases e : i = G'.size
    · rw [if_pos e, if_pos e]
      exact ⟨rfl, fun y hy => by cases hy; exact hx⟩
    · rw [if_neg e, if_neg e]
      exact ⟨h1, h2⟩
theorem Rel.set (r : Rel F G' G) {g : Nat} {x : GenState} (hg : F g = none) (hx : clean x) : Rel F (G'.setIfInBounds g x) (G.setIfInBounds g x) := by
  have hz := r.size
  refine ⟨by rw [Array.size_setIfInBounds, Array.size_setIfInBounds, hz], fun i st h => ?_, fun i h => ?_⟩
  · obtain ⟨h1, h2, h3⟩ := r.at_ i st h
    have ne : g ≠ i := fun e => by rw [e, h] at hg; cases hg
    exact ⟨h1, by rw [Array.getElem?_setIfInBounds_ne ne]; exact h2, by rw [Array.getElem?_setIfInBounds_ne ne]; exact h3⟩
  · obtain ⟨h1, h2⟩ := r.off i h
    by_cases e : g = i
    · subst e
      rw [Array.getElem?_setIfInBounds, Array.getElem?_setIfInBounds, if_pos rfl, if_pos rfl, hz]
      refine ⟨rfl, fun y hy => ?_⟩
      by_cases hl : g < G'.size
      · rw [if_pos hl] at hy; cases hy; exact hx
      · rw [if_neg hl] at hy; cases hy
    · rw [Array.getElem?_setIfInBounds_ne e, Array.getElem?_setIfInBounds_ne e]
      exact ⟨h1, h2⟩
/-- what is there and awake, or freshly made, is no sleeper of F -/
theorem Rel.awake (r : Rel F G' G) {g : Nat} {x : GenState} (h : G'[g]? = some x) (hx : asleep x = false) : F g = none ∧ G[g]? = some x := by
  cases e : F g with
  | none => exact ⟨rfl, by rw [(r.off g e).1]; exact h⟩
  | some st =>
    obtain ⟨h1, _, h3⟩ := r.at_ g st e
    rw [h3] at h
    obtain ⟨l, c0, p, fs0, cl, q⟩ := bad_asleep h1
    rw [q] at h
    cases h
    cases hx
end

section
variable {M : Model} {F : Nat → Option GenState}
def onG (s : Shared) (G : Array GenState) : Shared := { s with gens := G }
theorem runs_rel {Γ : Ctx} {p : Pos} {t : Sem PySem.Fin} {fs0 : List Frame} {s s' : Shared} {e : End} (h : Runs M Γ p t fs0 s e s') :
    splitAtGen fs0 = none → ∀ G, Rel F s.gens G → ∃ G1, Rel F s'.gens G1 ∧ Runs M Γ p t fs0 (onG s G) e (onG s' G1) := by
  induction h with
  | done => exact fun _ G r => ⟨G, r, .done⟩
  | raise => exact fun _ G r => ⟨G, r, .raise⟩
  | again q _ ih =>
    intro hf G r
    obtain ⟨G1, r1, h1⟩ := ih hf G r
    exact ⟨G1, r1, .again q h1⟩
  | rule _ ih =>
    intro hf G r
    obtain ⟨G1, r1, h1⟩ := ih hf G r
    exact ⟨G1, r1, .rule h1⟩
  | «at» _ ih =>
    intro hf G r
    obtain ⟨G1, r1, h1⟩ := ih hf G r
    exact ⟨G1, r1, .at h1⟩
  | load ho _ ih =>
    intro hf G r
    obtain ⟨G1, r1, h1⟩ := ih hf G r
    exact ⟨G1, r1, .load ho h1⟩
  | update ho _ ih =>
    intro hf G r
    obtain ⟨G1, r1, h1⟩ := ih hf G r
    exact ⟨G1, r1, .update ho h1⟩
  | loadIfAlive _ ih =>
    intro hf G r
    obtain ⟨G1, r1, h1⟩ := ih hf G r
    exact ⟨G1, r1, .loadIfAlive h1⟩
  | point _ ih =>
    intro hf G r
    obtain ⟨G1, r1, h1⟩ := ih hf G r
    exact ⟨G1, r1, .point h1⟩
  | alloc _ ih =>
    intro hf G r
    obtain ⟨G1, r1, h1⟩ := ih hf G r
    exact ⟨G1, r1, .alloc h1⟩
  | fresh _ ih =>
    intro hf G r
    obtain ⟨G1, r1, h1⟩ := ih hf G r
    exact ⟨G1, r1, .fresh h1⟩
  | ask _ ih =>
    intro hf G r
    obtain ⟨G1, r1, h1⟩ := ih hf G r
    exact ⟨G1, r1, .ask h1⟩
  | choose hn _ ih =>
    intro hf G r
    obtain ⟨G1, r1, h1⟩ := ih hf G r
    exact ⟨G1, r1, .choose hn h1⟩
  | os _ ih =>
    intro hf G r
    obtain ⟨G1, r1, h1⟩ := ih hf G r
    exact ⟨G1, r1, .os h1⟩
  | handled _ ih =>
    intro hf G r
    obtain ⟨G1, r1, h1⟩ := ih hf G r
    exact ⟨G1, r1, .handled h1⟩
  | @genState g st _ _ _ _ _ _ hg _ ih =>
    intro hf G r
    obtain ⟨G1, r1, h1⟩ := ih hf G r
    cases e : F g with
    | none => exact ⟨G1, r1, .genState (st := st) ((r.off g e).1.trans hg) h1⟩
    | some st0 =>
      obtain ⟨_, h2, h3⟩ := r.at_ g st0 e
      rw [h3] at hg
      cases hg
      rw [bad_seen] at h1
      exact ⟨G1, r1, .genState (st := st0) h2 h1⟩
  | stack _ ih =>
    intro hf G r
    obtain ⟨G1, r1, h1⟩ := ih hf G r
    exact ⟨G1, r1, .stack h1⟩
  | thread _ ih =>
    intro hf G r
    obtain ⟨G1, r1, h1⟩ := ih hf G r
    exact ⟨G1, r1, .thread h1⟩
  | newGen _ ih =>
    intro hf G r
    obtain ⟨G1, r1, h1⟩ := ih hf _ (r.push (x := .fresh _) trivial)
    rw [← r.size] at h1
    exact ⟨G1, r1, .newGen h1⟩
  | call _ _ ih1 ih2 =>
    intro hf G r
    obtain ⟨G1, r1, h1⟩ := ih1 rfl G r
    obtain ⟨G2, r2, h2⟩ := ih2 hf G1 r1
    exact ⟨G2, r2, .call h1 h2⟩
  | callSusp _ ih =>
    intro hf G r
    obtain ⟨G1, r1, h1⟩ := ih rfl G r
    exact ⟨G1, r1, .callSusp h1⟩
  | yield => exact fun _ G r => ⟨G, r, .yield⟩
  | @resumeFresh _ _ g _ _ s c0 e₁b s₁b _ _ hg hr0 hq0 _ ih1 ih2 =>
    intro hf G r
    obtain ⟨hF, hG⟩ := r.awake hg rfl
    obtain ⟨G1, r1, h1⟩ := ih1 rfl _ (r.set (x := .running) hF trivial)
    obtain ⟨G2, r2, h2⟩ := ih2 hf _ (r1.set hF (endClean_gen (runs_clean hr0)))
    exact ⟨G2, r2, .resumeFresh (s := onG s G) hG h1 hq0 h2⟩
  | @resumeSuspended _ _ g rr _ _ s k₀ l₀ c₀ p₀ fs0 cl e₁b s₁b _ _ hg hr0 hq0 _ ih1 ih2 =>
    intro hf G r
    cases e : F g with
    | none =>
      obtain ⟨h3, h4⟩ := r.off g e
      obtain ⟨G1, r1, h1⟩ := ih1 (h4 _ hg) _ (r.set (x := .running) e trivial)
      obtain ⟨G2, r2, h2⟩ := ih2 hf _ (r1.set e (endClean_gen (runs_clean hr0)))
      exact ⟨G2, r2, .resumeSuspended (s := onG s G) (h3.trans hg) h1 hq0 h2⟩
    | some st0 =>
      obtain ⟨h2, _, h3⟩ := r.at_ g st0 e
      rw [h3] at hg
      obtain ⟨l, c0, p, fs', cl', q⟩ := bad_asleep h2
      rw [q] at hg
      cases hg
      exact (no_unsup hr0).elim
  | resumeJustStarted hg hv _ ih =>
    intro hf G r
    obtain ⟨_, hG⟩ := r.awake hg rfl
    obtain ⟨G1, r1, h1⟩ := ih hf G r
    exact ⟨G1, r1, .resumeJustStarted (s := onG _ G) hG hv h1⟩
  | resumeThrowFresh hg _ ih =>
    intro hf G r
    obtain ⟨hF, hG⟩ := r.awake hg rfl
    obtain ⟨G1, r1, h1⟩ := ih hf _ (r.set (x := .finished) hF trivial)
    exact ⟨G1, r1, .resumeThrowFresh (s := onG _ G) hG h1⟩
  | resumeRunning hg _ ih =>
    intro hf G r
    obtain ⟨_, hG⟩ := r.awake hg rfl
    obtain ⟨G1, r1, h1⟩ := ih hf G r
    exact ⟨G1, r1, .resumeRunning (s := onG _ G) hG h1⟩
  | resumeFinished hg _ ih =>
    intro hf G r
    obtain ⟨_, hG⟩ := r.awake hg rfl
    obtain ⟨G1, r1, h1⟩ := ih hf G r
    exact ⟨G1, r1, .resumeFinished (s := onG _ G) hG h1⟩
  | segRet _ _ ih1 ih2 =>
    intro hf G r
    obtain ⟨G1, r1, h1⟩ := ih1 rfl G r
    obtain ⟨G2, r2, h2⟩ := ih2 (split_ret hf) G1 r1
    exact ⟨G2, r2, .segRet h1 h2⟩
  | segGen _ _ _ _ => exact fun hf => by cases hf
  | segSuspOut hs _ ih =>
    intro hf G r
    obtain ⟨G1, r1, h1⟩ := ih rfl G r
    exact ⟨G1, r1, .segSuspOut hs h1⟩
  | segSuspGen hs _ _ _ _ _ =>
    intro hf
    rw [hf] at hs
    cases hs

/-- what a run in the one table gives in the other -/
def Thru {α : Type} (F : Nat → Option GenState) (Q : α → Pos → Shared → Prop) : α → Pos → Shared → Prop := fun a p s => ∃ s1, s = onG s1 s.gens ∧ Rel F s1.gens s.gens ∧ Q a p s1
theorem thru_mk {α : Type} {Q : α → Pos → Shared → Prop} {a : α} {p : Pos} {s : Shared} {G : Array GenState} (r : Rel F s.gens G) (h : Q a p s) : Thru F Q a p (onG s G) := ⟨s, rfl, r, h⟩
theorem wp_rel {α : Type} (t : Sem α) : ∀ {Γ : Ctx} {Q : α → Pos → Shared → Prop} {E : Value → Pos → Shared → Prop} {p : Pos} {s : Shared} {G : Array GenState}, Rel F s.gens G → wp M Γ t Q E p s → wp M Γ t (Thru F Q) (Thru F E) p (onG s G) := by
  induction t with
  | pure a => intro Γ Q E p s G r h; exact thru_mk r h
  | raise e => intro Γ Q E p s G r h; exact thru_mk r h
  | unsupported _ => intro Γ Q E p s G r h; exact h
  | finish _ => intro Γ Q E p s G r h; exact h
  | rule _ k ih => intro Γ Q E p s G r h; exact ih () r h
  | «at» p' k ih => intro Γ Q E p s G r h; exact ih () r h
  | load a _ k ih => intro Γ Q E p s G r h; obtain ⟨o, ho, h⟩ := h; exact ⟨o, ho, ih o r h⟩
  | update a _ f k ih => intro Γ Q E p s G r h; exact ⟨h.1, ih () (s := { s with heap := s.heap.update a f }) r h.2⟩
  | loadIfAlive a k ih => intro Γ Q E p s G r h; exact ih _ r h
  | point _ k ih => intro Γ Q E p s G r h; exact ih () r h
  | register _ _ => intro Γ Q E p s G r h; exact h
  | alloc o k ih => intro Γ Q E p s G r h; exact ih _ (s := { s with heap := s.heap.push o }) r h
  | fresh k ih => intro Γ Q E p s G r h; exact ih _ (s := { s with toks := s.toks + 1 }) r h
  | ask k ih => intro Γ Q E p s G r h; exact ih _ r h
  | choose src m k ih => intro Γ Q E p s G r h; exact ⟨h.1, ih _ (s := { s with drawn := s.drawn.bump src }) r h.2⟩
  | os q _ k ih => intro Γ Q E p s G r h; exact ih _ (s := { s with os := (Os.step s.os q).1 }) r h
  | call c0 hd _ _ k ih =>
    intro Γ Q E p s G r h
    obtain ⟨res, s', hr0, h⟩ := h
    obtain ⟨G1, r1, h1⟩ := runs_rel hr0 rfl G r
    exact ⟨res, onG s' G1, h1, ih res r1 h⟩
  | handled own k ih => intro Γ Q E p s G r h; exact ih _ r h
  | genState g k ih =>
    intro Γ Q E p s G r h
    obtain ⟨st, hs, h⟩ := h
    cases e : F g with
    | none => exact ⟨st, by rw [show (onG s G).gens = G from rfl, (r.off g e).1]; exact hs, ih _ r h⟩
    | some st0 =>
      obtain ⟨_, h2, h3⟩ := r.at_ g st0 e
      rw [h3] at hs
      cases hs
      rw [bad_seen] at h
      exact ⟨st0, h2, ih _ r h⟩
  | newGen c0 k ih =>
    intro Γ Q E p s G r h
    have h' := ih _ (s := { s with gens := s.gens.push (.fresh c0) }) (r.push (x := .fresh c0) trivial) h
    show wp M Γ (k G.size) _ _ p _
    rw [r.size]
    exact h'
  | resume g rr _ k ih =>
    intro Γ Q E p s G r h
    obtain ⟨res, s', hw0, h⟩ := h
    have key : ∃ G1, Rel F s'.gens G1 ∧ Wakes M Γ p g rr (onG s G) res (onG s' G1) := by
      unfold Wakes at hw0
      split at hw0
      · exact hw0.elim
      · rename_i c0 hg
        obtain ⟨hF, hG⟩ := r.awake hg rfl
        split at hw0
        · obtain ⟨e₁b, s₁b, hr0, hq0, rfl, rfl⟩ := hw0
          obtain ⟨G1, r1, h1⟩ := runs_rel hr0 rfl _ (r.set (x := .running) hF trivial)
          refine ⟨_, r1.set hF (endClean_gen (runs_clean hr0)), ?_⟩
          unfold Wakes
          rw [show (onG s G).gens[g]? = some (.fresh c0) from hG]
          exact ⟨e₁b, _, h1, hq0, rfl, rfl⟩
        · rename_i v hne
          obtain ⟨rfl, rfl⟩ := hw0
          refine ⟨G, r, ?_⟩
          unfold Wakes
          rw [show (onG s' G).gens[g]? = some (.fresh c0) from hG]
          cases v <;> first
            | exact (hne rfl).elim
            | exact ⟨rfl, rfl⟩
        · obtain ⟨rfl, rfl⟩ := hw0
          refine ⟨_, r.set (x := .finished) hF trivial, ?_⟩
          unfold Wakes
          rw [show (onG s G).gens[g]? = some (.fresh c0) from hG]
          exact ⟨rfl, rfl⟩
      · rename_i k₀ l₀ c₀ p₀ fs0 cl hg
        obtain ⟨e₁b, s₁b, hr0, hq0, rfl, rfl⟩ := hw0
        cases e : F g with
        | none =>
          obtain ⟨h3, h4⟩ := r.off g e
          obtain ⟨G1, r1, h1⟩ := runs_rel hr0 (h4 _ hg) _ (r.set (x := .running) e trivial)
          refine ⟨_, r1.set e (endClean_gen (runs_clean hr0)), ?_⟩
          unfold Wakes
          rw [show (onG s G).gens[g]? = some (.suspended k₀ l₀ c₀ p₀ fs0 cl) from h3.trans hg]
          exact ⟨e₁b, _, h1, hq0, rfl, rfl⟩
        | some st0 =>
          obtain ⟨h2, _, h3⟩ := r.at_ g st0 e
          rw [h3] at hg
          obtain ⟨l, c0, p, fs', cl', q⟩ := bad_asleep h2
          rw [q] at hg
          cases hg
          exact (no_unsup hr0).elim
      · rename_i hg
        obtain ⟨hF, hG⟩ := r.awake hg rfl
        obtain ⟨rfl, rfl⟩ := hw0
        refine ⟨G, r, ?_⟩
        unfold Wakes
        rw [show (onG s' G).gens[g]? = some .running from hG]
        exact ⟨rfl, rfl⟩
      · rename_i hg
        obtain ⟨hF, hG⟩ := r.awake hg rfl
        obtain ⟨rfl, rfl⟩ := hw0
        refine ⟨G, r, ?_⟩
        unfold Wakes
        rw [show (onG s' G).gens[g]? = some .finished from hG]
        exact ⟨rfl, rfl⟩
    obtain ⟨G1, r1, hw1⟩ := key
    exact ⟨res, onG s' G1, hw1, ih res r1 h⟩
  | yield _ _ _ _ => intro Γ Q E p s G r h; exact h
  | stack k ih => intro Γ Q E p s G r h; exact ih _ r h
  | fork _ _ => intro Γ Q E p s G r h; exact h
  | thread k ih => intro Γ Q E p s G r h; exact ih _ r h
  | await _ _ _ _ _ => intro Γ Q E p s G r h; exact h
end

/-- all sleepers, at the start -/
def sleepers (G : Array GenState) : Nat → Option GenState := fun i => match G[i]? with
  | some x => if asleep x = true then some x else none
  | none => none
theorem rel_start (G : Array GenState) : Rel (sleepers G) (G.map bad) G := by
  refine ⟨by simp, fun i st h => ?_, fun i h => ?_⟩
  · unfold sleepers at h
    split at h
    · rename_i x hx
      split at h
      · rename_i ha
        cases h
        exact ⟨ha, hx, by rw [Array.getElem?_map, hx]; rfl⟩
      · cases h
    · cases h
  · unfold sleepers at h
    split at h
    · rename_i x hx
      split at h
      · cases h
      · rename_i ha
        rw [Array.getElem?_map, hx]
        have e : bad x = x := by
          cases x with
          | suspended => exact absurd rfl ha
          | _ => rfl
        show some x = some (bad x) ∧ ∀ y, some (bad x) = some y → clean y
        rw [e]
        refine ⟨rfl, fun y hy => ?_⟩
        cases hy
        cases x with
        | suspended => exact absurd rfl ha
        | _ => exact trivial
    · rename_i hx
      rw [Array.getElem?_map, hx]
      exact ⟨rfl, fun y hy => by cases hy⟩
theorem sleepers_at {G : Array GenState} {g : Nat} {x : GenState} (h : G[g]? = some x) (ha : asleep x = true) : sleepers G g = some x := by
  unfold sleepers
  rw [h]
  show (if asleep x = true then some x else none) = some x
  rw [if_pos ha]

/-- THE RULE: run it where no sleeper can be woken; in truth every sleeper sleeps on -/
theorem wpAny_asleep {α : Type} {M : Model} {A : Around} {t : Sem α} {Q : α → Shared → Prop} {E : Value → Shared → Prop} {s : Shared}
    (h : wpAny M A t (fun a s1 => ∀ G, Rel (sleepers s.gens) s1.gens G → Q a (onG s1 G)) (fun e s1 => ∀ G, Rel (sleepers s.gens) s1.gens G → E e (onG s1 G)) (onG s (s.gens.map bad))) : wpAny M A t Q E s := by
  intro Γ p hΓ
  have z := wp_rel (M := M) t (F := sleepers s.gens) (s := onG s (s.gens.map bad)) (G := s.gens) (rel_start s.gens) (h Γ p hΓ)
  have e : onG (onG s (s.gens.map bad)) s.gens = s := rfl
  rw [e] at z
  refine Sem.wp_mono M Γ t (fun a p' s' q => ?_) (fun a p' s' q => ?_) p s z
  · obtain ⟨s1, e1, r, q⟩ := q
    rw [e1]
    exact q _ r
  · obtain ⟨s1, e1, r, q⟩ := q
    rw [e1]
    exact q _ r
end Fz
/-! Ly: readings over plain data. A slot holds data (Ty); an expression's reading gives data (EvD), a test's a truth (EvB), a statement's goes on or returns (SD):
no heap in sight but where these are proved. -/
namespace Ly
open PySem PySem.Spec
open PyProof.Rows L2

/-! ### data without lists -/
mutual
def nol : PyData → Bool
  | .list _ => false
  | .dict _ => false
  | .tuple xs => nolAll xs
  | _ => true
def nolAll : List PyData → Bool
  | [] => true
  | d :: ds => nol d && nolAll ds
end
theorem nolAll_ints : ∀ l : List Int, nolAll (l.map .int) = true
  | [] => rfl
  | _ :: l => by
    show (true && nolAll (l.map .int)) = true
    rw [nolAll_ints l]
    rfl
theorem nolAll_iff : ∀ {ds : List PyData}, nolAll ds = true ↔ ∀ d ∈ ds, nol d = true
  | [] => by simp [nolAll]
  | d :: ds => by
    show (nol d && nolAll ds) = true ↔ _
    rw [Bool.and_eq_true, nolAll_iff]
    simp

/-! ### data as L2.Dp tells it, but: a tuple of ints is one that the walk has laid (a dict's key may be it) -/
def isInts : List PyData → Bool
  | [] => true
  | .int _ :: r => isInts r
  | _ :: _ => false
theorem isInts_map : ∀ l : List Int, isInts (l.map .int) = true
  | [] => rfl
  | _ :: l => isInts_map l
def TqT (K : PySem.W.Frag) (H : Hp) (a : Addr) (xs : List V) (ds : List PyData) : Prop := H a = some (.tup xs) ∨ (isInts ds = false ∧ SqT K H a xs)
theorem TqT.sq {K : PySem.W.Frag} {H : Hp} {a : Addr} {xs : List V} {ds : List PyData} : TqT K H a xs ds → SqT K H a xs
  | .inl h => .of h
  | .inr h => h.2
mutual
inductive Dt (K : PySem.W.Frag) (H : Hp) : V → PyData → Prop
  | non : Dt K H .non .none
  | bl (b : Bool) : Dt K H (.bl b) (.bool b)
  | int (i : Int) : Dt K H (.int i) (.int i)
  | str (x : Str) : Dt K H (.str x) (.str x)
  | lst {a : Addr} {xs : List V} {ds : List PyData} : SqL K H a xs → DtAll K H xs ds → Dt K H (.ref a) (.list ds)
  | tup {a : Addr} {xs : List V} {ds : List PyData} : TqT K H a xs ds → DtAll K H xs ds → Dt K H (.ref a) (.tuple ds)
inductive DtAll (K : PySem.W.Frag) (H : Hp) : List V → List PyData → Prop
  | nil : DtAll K H [] []
  | cons {v : V} {vs : List V} {d : PyData} {ds : List PyData} : Dt K H v d → DtAll K H vs ds → DtAll K H (v :: vs) (d :: ds)
end
theorem Dt.new {K : PySem.W.Frag} {H : Hp} {a : Addr} {xs : List V} {ds : List PyData} (h : H a = some (.tup xs)) (t : DtAll K H xs ds) : Dt K H (.ref a) (.tuple ds) := .tup (.inl h) t
mutual
theorem Dt.dp {K : PySem.W.Frag} {H : Hp} : ∀ {d : PyData} {v : V}, Dt K H v d → Dp K H v d
  | .none, _, h => by cases h; exact .non
  | .bool _, _, h => by cases h; exact .bl _
  | .int _, _, h => by cases h; exact .int _
  | .str _, _, h => by cases h; exact .str _
  | .list ds, _, h => by
    cases h with
    | lst h1b h2b => exact .lst h1b h2b.dp
  | .tuple ds, _, h => by
    cases h with
    | tup h1b h2b => exact .tup h1b.sq h2b.dp
  | .dict _, _, h => by cases h
theorem DtAll.dp {K : PySem.W.Frag} {H : Hp} : ∀ {ds : List PyData} {vs : List V}, DtAll K H vs ds → DpAll K H vs ds
  | [], _, h => by cases h; exact .nil
  | d :: ds, _, h => by
    cases h with
    | cons h1b h2b => exact .cons h1b.dp h2b.dp
end
section
variable {K : PySem.W.Frag} {H H' : Hp}
theorem dp_tupT {v : V} {ds : List PyData} (h : Dt K H v (.tuple ds)) : ∃ a xs, v = .ref a ∧ TqT K H a xs ds ∧ DtAll K H xs ds := by
  cases h with
  | tup h1b h2b => exact ⟨_, _, rfl, h1b, h2b⟩
theorem dp_tup {v : V} {ds : List PyData} (h : Dt K H v (.tuple ds)) : ∃ a xs, v = .ref a ∧ SqT K H a xs ∧ DtAll K H xs ds := by
  cases h with
  | tup h1b h2b => exact ⟨_, _, rfl, h1b.sq, h2b⟩
theorem dp_lst {v : V} {ds : List PyData} (h : Dt K H v (.list ds)) : ∃ a xs, v = .ref a ∧ SqL K H a xs ∧ DtAll K H xs ds := by
  cases h with
  | lst h1b h2b => exact ⟨_, _, rfl, h1b, h2b⟩
theorem dp_int {v : V} {i : Int} (h : Dt K H v (.int i)) : v = .int i := by cases h; rfl
theorem dp_bl {v : V} {i : Bool} (h : Dt K H v (.bool i)) : v = .bl i := by cases h; rfl
theorem dp_str {v : V} {i : Str} (h : Dt K H v (.str i)) : v = .str i := by cases h; rfl
theorem dp_non {v : V} (h : Dt K H v .none) : v = .non := by cases h; rfl
mutual
theorem dp_keep (ht : ∀ a xs ds, TqT K H a xs ds → TqT K H' a xs ds) (hl : ∀ a xs, SqL K H a xs → SqL K H' a xs) : ∀ (d : PyData) (v : V), Dt K H v d → Dt K H' v d
  | .none, _, h => by cases h; exact .non
  | .bool _, _, h => by cases h; exact .bl _
  | .int _, _, h => by cases h; exact .int _
  | .str _, _, h => by cases h; exact .str _
  | .list ds, _, h => by
    obtain ⟨a, xs, rfl, h1b, h2b⟩ := dp_lst h
    exact .lst (hl _ _ h1b) (dp_keepAll ht hl ds xs h2b)
  | .tuple ds, _, h => by
    obtain ⟨a, xs, rfl, h1b, h2b⟩ := dp_tupT h
    exact .tup (ht _ _ _ h1b) (dp_keepAll ht hl ds xs h2b)
  | .dict _, _, h => by cases h
theorem dp_keepAll (ht : ∀ a xs ds, TqT K H a xs ds → TqT K H' a xs ds) (hl : ∀ a xs, SqL K H a xs → SqL K H' a xs) : ∀ (ds : List PyData) (vs : List V), DtAll K H vs ds → DtAll K H' vs ds
  | [], _, h => by cases h; exact .nil
  | d :: ds, _, h => by
    cases h with
    | cons h1b h2b => exact .cons (dp_keep ht hl d _ h1b) (dp_keepAll ht hl ds _ h2b)
end
mutual
theorem dp_keepN (ht : ∀ a xs ds, TqT K H a xs ds → TqT K H' a xs ds) : ∀ (d : PyData) (v : V), nol d = true → Dt K H v d → Dt K H' v d
  | .none, _, _, h => by cases h; exact .non
  | .bool _, _, _, h => by cases h; exact .bl _
  | .int _, _, _, h => by cases h; exact .int _
  | .str _, _, _, h => by cases h; exact .str _
  | .list ds, _, n, h => by cases n
  | .tuple ds, _, n, h => by
    obtain ⟨a, xs, rfl, h1b, h2b⟩ := dp_tupT h
    exact .tup (ht _ _ _ h1b) (dp_keepNAll ht ds xs n h2b)
  | .dict _, _, n, h => by cases n
theorem dp_keepNAll (ht : ∀ a xs ds, TqT K H a xs ds → TqT K H' a xs ds) : ∀ (ds : List PyData) (vs : List V), nolAll ds = true → DtAll K H vs ds → DtAll K H' vs ds
  | [], _, _, h => by cases h; exact .nil
  | d :: ds, _, n, h => by
    have n' : (nol d && nolAll ds) = true := n
    rw [Bool.and_eq_true] at n'
    cases h with
    | cons h1b h2b => exact .cons (dp_keepN ht d _ n'.1 h1b) (dp_keepNAll ht ds _ n'.2 h2b)
end
theorem sqT_same (s : Same H H') {a : Addr} {xs : List V} (h : SqT K H a xs) : SqT K H' a xs := by
  rcases
      h with (h | ⟨o, h⟩) | h
  · exact .inl (.inl (s _ _ h))
  · exact .inl (.inr ⟨o, s _ _ h⟩)
  · exact .inr h
/-- no tuple at p: tuples stand whatever is laid there -/
def NoT (H : Hp) (p : Addr) : Prop := (∀ xs, H p ≠ some (.tup xs)) ∧ ∀ o u, H p ≠ some (.frz o u)
theorem noT_lst {p : Addr} {xs : List V} (h : H p = some (.lst xs)) : NoT H p := ⟨fun _ q => (by rw [h] at q; cases q), fun _ _ q => (by rw [h] at q; cases q)⟩
theorem noT_dT {p : Addr} {xs : List (List Key × V)} (h : H p = some (.dT xs)) : NoT H p := ⟨fun _ q => (by rw [h] at q; cases q), fun _ _ q => (by rw [h] at q; cases q)⟩
theorem noT_none {p : Addr} (h : H p = none) : NoT H p := ⟨fun _ q => (by rw [h] at q; cases q), fun _ _ q => (by rw [h] at q; cases q)⟩
theorem sqT_upd {p : Addr} {o : HO} (n : NoT H p) {a : Addr} {xs : List V} (h : SqT K H a xs) : SqT K (upd H p o) a xs := by
  rcases h with (h | ⟨o', h⟩) | h
  · exact .inl (.inl (by rw [upd_ne (fun e0 => by subst e0; exact n.1 _ h)]; exact h))
  · exact .inl (.inr ⟨o', by rw [upd_ne (fun e0 => by subst e0; exact n.2 _ _ h)]; exact h⟩)
  · exact .inr h
theorem tqT_same (s : Same H H') {a : Addr} {xs : List V} {ds : List PyData} : TqT K H a xs ds → TqT K H' a xs ds
  | .inl h => .inl (s _ _ h)
  | .inr h => .inr ⟨h.1, sqT_same s h.2⟩
theorem tqT_upd {p : Addr} {o : HO} (n : NoT H p) {a : Addr} {xs : List V} {ds : List PyData} : TqT K H a xs ds → TqT K (upd H p o) a xs ds
  | .inl h => .inl (by rw [upd_ne (fun e0 => by subst e0; exact n.1 _ h)]; exact h)
  | .inr h => .inr ⟨h.1, sqT_upd n h.2⟩
theorem dp_same (s : Same H H') {v : V} {d : PyData} (h : Dt K H v d) : Dt K H' v d := dp_keep (fun _ _ _ => tqT_same s) (fun _ _ => s.seq) d v h
theorem dpAll_same (s : Same H H') {vs : List V} {ds : List PyData} (h : DtAll K H vs ds) : DtAll K H' vs ds := dp_keepAll (fun _ _ _ => tqT_same s) (fun _ _ => s.seq) ds vs h
theorem dp_upd {p : Addr} {o : HO} (n : NoT H p) {v : V} {d : PyData} (hd : nol d = true) (h : Dt K H v d) : Dt K (upd H p o) v d := dp_keepN (fun _ _ _ => tqT_upd n) d v hd h
theorem dpAll_upd {p : Addr} {o : HO} (n : NoT H p) {vs : List V} {ds : List PyData} (hd : nolAll ds = true) (h : DtAll K H vs ds) : DtAll K (upd H p o) vs ds := dp_keepNAll (fun _ _ _ => tqT_upd n) ds vs hd h
theorem dpAll_len : ∀ {vs : List V} {ds : List PyData}, DtAll K H vs ds → vs.length = ds.length
  | _, _, .nil => rfl
  | _, _, .cons _ t => congrArg (· + 1) (dpAll_len t)
theorem dpAll_get : ∀ {vs : List V} {ds : List PyData} {i : Nat} {d : PyData}, DtAll K H vs ds → ds[i]? = some d → ∃ v, vs[i]? = some v ∧ Dt K H v d
  | _, _, _, _, .nil, e0 => by simp at e0
  | _, _, 0, _, .cons r _, e0 => by simp at e0; subst e0; exact ⟨_, rfl, r⟩
  | _, _, i + 1, _, .cons _ t, e0 => by
    obtain ⟨v, h1b, h2b⟩ := dpAll_get (i := i) t (by simpa using e0)
    exact ⟨v, by simpa using h1b, h2b⟩
theorem dpAll_getV : ∀ {vs : List V} {ds : List PyData} {i : Nat} {v : V}, DtAll K H vs ds → vs[i]? = some v → ∃ d, ds[i]? = some d ∧ Dt K H v d
  | _, _, _, _, .nil, e0 => by simp at e0
  | _, _, 0, _, .cons r _, e0 => by simp at e0; subst e0; exact ⟨_, rfl, r⟩
  | _, _, i + 1, _, .cons _ t, e0 => by
    obtain ⟨d, h1b, h2b⟩ := dpAll_getV (i := i) t (by simpa using e0)
    exact ⟨d, by simpa using h1b, h2b⟩
theorem dpAll_app : ∀ {vs ws : List V} {ds es : List PyData}, DtAll K H vs ds → DtAll K H ws es → DtAll K H (vs ++ ws) (ds ++ es)
  | _, _, _, _, .nil, h => h
  | _, _, _, _, .cons r t, h => .cons r (dpAll_app t h)
theorem dpAll_take : ∀ {vs : List V} {ds : List PyData} (n : Nat), DtAll K H vs ds → DtAll K H (vs.take n) (ds.take n)
  | _, _, 0, _ => .nil
  | _, _, _ + 1, .nil => .nil
  | _, _, n + 1, .cons r t => .cons r (dpAll_take n t)
theorem dpAll_drop : ∀ {vs : List V} {ds : List PyData} (n : Nat), DtAll K H vs ds → DtAll K H (vs.drop n) (ds.drop n)
  | _, _, 0, r => r
  | _, _, _ + 1, .nil => .nil
  | _, _, n + 1, .cons _ t => dpAll_drop n t
/-- a tuple of ints stands where the walk has laid it -/
theorem dp_key {v : V} {l : List Int} (h : Dt K H v (.tuple (l.map .int))) : ∃ a, v = .ref a ∧ ∃ xs, H a = some (.tup xs) ∧ DtAll K H xs (l.map .int) := by
  obtain ⟨a, xs, rfl, h1b, h2b⟩ := dp_tupT h
  rcases h1b with h1b | ⟨h1b, _⟩
  · exact ⟨a, rfl, xs, h1b, h2b⟩
  · rw [isInts_map] at h1b
    cases h1b
theorem dpAll_ints : ∀ {vs : List V} {l : List Int}, DtAll K H vs (l.map .int) → vs = l.map V.int
  | _, [], h => by
    have h' : DtAll K H _ [] := h
    cases h'
    rfl
  | _, i :: l, h => by
    have h' : DtAll K H _ (.int i :: l.map .int) := h
    cases h' with
    | cons r t => rw [dp_int r, dpAll_ints t]; rfl
theorem dpAll_of_ints : ∀ l : List Int, DtAll K H (l.map V.int) (l.map .int)
  | [] => .nil
  | i :: l => .cons (.int i) (dpAll_of_ints l)
theorem dpAll_bls : ∀ {vs : List V} {l : List Bool}, DtAll K H vs (l.map .bool) → vs = l.map V.bl
  | _, [], h => by
    have h' : DtAll K H _ [] := h
    cases h'
    rfl
  | _, i :: l, h => by
    have h' : DtAll K H _ (.bool i :: l.map .bool) := h
    cases h' with
    | cons r t => rw [dp_bl r, dpAll_bls t]; rfl
end

/-! ### what a slot may hold -/
inductive Ty where
  /-- data -/
  | dat (d : PyData)
  /-- a list of the call's own, of data -/
  | tl (ds : List PyData)
  /-- a scan: its divisors, its tree -/
  | sc (D : List Int) (T : PyData)
  /-- an address of one's own -/
  | own (a : Addr)
  /-- a dict of ints by tuples of ints -/
  | dc (kvs : List (List Int × Int))
def kI (k : List Int) : List Key := k.map Sum.inl
def kvD (kvs : List (List Int × Int)) : List (List Key × V) := kvs.map fun p => (kI p.1, .int p.2)
def pI (l : List Int) : PyData := .tuple (l.map .int)
def scF (vD vT : V) (n m : Int) : List (Str × V) := [("held_divisors", vD), ("held_tree", vT), ("class_total", .int n), ("node_total", .int m)]
section
variable (K : PySem.W.Frag) (C : Addr)
def At (H : Hp) (v : V) : Ty → Prop
  | .dat d => Dt K H v d
  | .tl ds => ∃ a xs, v = .ref a ∧ H a = some (.lst xs) ∧ DtAll K H xs ds
  | .sc D T => ∃ a dx vD vT n m, v = .ref a ∧ H a = some (.ins C dx (scF vD vT n m)) ∧ Dt K H vD (pI D) ∧ Dt K H vT T
  | .own a => v = .ref a
  | .dc kvs => ∃ a, v = .ref a ∧ H a = some (.dT (kvD kvs))
inductive AtAll (H : Hp) : List V → List Ty → Prop
  | nil : AtAll H [] []
  | cons {v : V} {vs : List V} {t : Ty} {ts : List Ty} : At K C H v t → AtAll H vs ts → AtAll H (v :: vs) (t :: ts)
abbrev Ev := List (Option Ty)
structure En (H : Hp) (σ : L2.St) (Γ : Ev) : Prop where
  len : σ.length = Γ.length
  at_ : ∀ (i : Nat) (t : Ty), Γ[i]? = some (some t) → ∃ v, σ[i]? = some (some v) ∧ At K C H v t
end
section
variable {K : PySem.W.Frag} {C : Addr} {H H' : Hp}
theorem at_same (s : Same H H') {v : V} : ∀ {t : Ty}, At K C H v t → At K C H' v t
  | .dat _, h => dp_same s h
  | .tl _, ⟨a, xs, e0, h1b, h2b⟩ => ⟨a, xs, e0, s _ _ h1b, dpAll_same s h2b⟩
  | .sc _ _, ⟨a, dx, vD, vT, n, m, e0, h1b, h2b, h3⟩ => ⟨a, dx, vD, vT, n, m, e0, s _ _ h1b, dp_same s h2b, dp_same s h3⟩
  | .own _, h => h
  | .dc _, ⟨a, e0, h⟩ => ⟨a, e0, s _ _ h⟩
theorem atAll_same (s : Same H H') : ∀ {vs : List V} {ts : List Ty}, AtAll K C H vs ts → AtAll K C H' vs ts
  | _, _, .nil => .nil
  | _, _, .cons a t => .cons (at_same s a) (atAll_same s t)
theorem atAll_len : ∀ {vs : List V} {ts : List Ty}, AtAll K C H vs ts → vs.length = ts.length
  | _, _, .nil => rfl
  | _, _, .cons _ t => congrArg (· + 1) (atAll_len t)
theorem En.same {σ : L2.St} {Γ : Ev} (e0 : En K C H σ Γ) (s : Same H H') : En K C H' σ Γ := ⟨e0.len, fun i t h => by
  obtain ⟨v, h1b, h2b⟩ := e0.at_ i t h
  exact ⟨v, h1b, at_same s h2b⟩⟩
theorem En.set {σ : L2.St} {Γ : Ev} (e0 : En K C H σ Γ) {i : Nat} {v : V} {t : Ty} (h : At K C H v t) : En K C H (σ.set i (some v)) (Γ.set i (some t)) := by
  refine ⟨by rw [List.length_set, List.length_set]; exact e0.len, fun j u hu => ?_⟩
  by_cases hj : i = j
  · subst hj
    by_cases hi0 : i < Γ.length
    · rw [List.getElem?_set_self hi0] at hu
      cases hu
      exact ⟨v, by rw [List.getElem?_set_self (by rw [e0.len]; exact hi0)], h⟩
    · rw [List.getElem?_eq_none (by rw [List.length_set]; omega)] at hu
      cases hu
  · rw [List.getElem?_set_ne hj] at hu
    obtain ⟨w, h1b, h2b⟩ := e0.at_ j u hu
    exact ⟨w, by rw [List.getElem?_set_ne hj]; exact h1b, h2b⟩
/-- what is known of a slot may be told anew -/
theorem En.re {σ : L2.St} {Γ Γ' : Ev} (e0 : En K C H σ Γ) (hl : Γ'.length = Γ.length) (h : ∀ (i : Nat) (t : Ty), Γ'[i]? = some (some t) → ∃ u, Γ[i]? = some (some u) ∧ ∀ v, At K C H v u → At K C H v t) : En K C H σ Γ' :=
  ⟨e0.len.trans hl.symm, fun i t ht => by
    obtain ⟨u, h1b, h2b⟩ := h i t ht
    obtain ⟨v, h3, h4⟩ := e0.at_ i u h1b
    exact ⟨v, h3, h2b v h4⟩⟩
def wipeG (Γ : Ev) : List Nat → Ev
  | [] => Γ
  | v :: vs => (wipeG Γ vs).set v none
theorem wipeG_len (Γ : Ev) : ∀ vs : List Nat, (wipeG Γ vs).length = Γ.length
  | [] => rfl
  | v :: vs => by unfold wipeG; rw [List.length_set, wipeG_len Γ vs]
theorem wipeG_some {Γ : Ev} {i : Nat} {x : Ty} : ∀ {vs : List Nat}, (wipeG Γ vs)[i]? = some (some x) → Γ[i]? = some (some x) ∧ i ∉ vs
  | [], h => ⟨h, by simp⟩
  | v :: vs, h => by
    unfold wipeG at h
    by_cases hi0 : v = i
    · subst hi0
      by_cases hv0 : v < (wipeG Γ vs).length
      · rw [List.getElem?_set_self hv0] at h; cases h
      · rw [List.getElem?_eq_none (by simpa using hv0)] at h; cases h
    · rw [List.getElem?_set_ne hi0] at h
      obtain ⟨h1b, h2b⟩ := wipeG_some h
      exact ⟨h1b, by simp only [List.mem_cons, not_or]; exact ⟨fun e0 => hi0 e0.symm, h2b⟩⟩
theorem wipe_keep {σ : L2.St} {i : Nat} : ∀ {vs : List Nat}, i ∉ vs → (wipe σ vs)[i]? = σ[i]?
  | [], _ => rfl
  | v :: vs, h => by
    simp only [List.mem_cons, not_or] at h
    unfold wipe
    rw [List.getElem?_set_ne (fun e0 => h.1 e0.symm), wipe_keep h.2]
theorem En.wipe {σ : L2.St} {Γ : Ev} (e0 : En K C H σ Γ) (vs : List Nat) : En K C H (wipe σ vs) (wipeG Γ vs) := by
  refine ⟨by rw [wipe_length, wipeG_len]; exact e0.len, fun i t h => ?_⟩
  obtain ⟨h1b, h2b⟩ := wipeG_some h
  obtain ⟨v, h3, h4⟩ := e0.at_ i t h1b
  exact ⟨v, (wipe_keep h2b).trans h3, h4⟩
theorem wipe_none {σ : L2.St} {i : Nat} : ∀ {vs : List Nat}, i ∈ vs → i < σ.length → (wipe σ vs)[i]? = some none
  | v :: vs, h, hl => by
    unfold wipe
    by_cases e0 : v = i
    · subst e0
      rw [List.getElem?_set_self (by rw [wipe_length]; exact hl)]
    · rw [List.getElem?_set_ne e0]
      rcases
          List.mem_cons.mp h with q | q
      · exact absurd q.symm e0
      · exact wipe_none q hl
/-- a wiped slot may be stored, wiped again it is as before -/
theorem wipe_set {σ : L2.St} {i : Nat} {x : Option V} {vs : List Nat} (h : i ∈ vs) : wipe (σ.set i x) vs = wipe σ vs := by
  refine
      List.ext_getElem? fun j => ?_
  by_cases hj : j ∈ vs
  · by_cases hl : j < σ.length
    · rw [wipe_none hj (by rw [List.length_set]; exact hl), wipe_none hj hl]
    · rw [List.getElem?_eq_none (by rw [wipe_length, List.length_set]; omega), List.getElem?_eq_none (by rw [wipe_length]; omega)]
  · rw [wipe_keep hj, wipe_keep hj, List.getElem?_set_ne (fun e0 => hj (by rw [← e0]; exact h))]
theorem wipe_wipe {σ : L2.St} {vs : List Nat} : wipe (wipe σ vs) vs = wipe σ vs := by
  refine
      List.ext_getElem? fun j => ?_
  by_cases hj : j ∈ vs
  · by_cases hl : j < σ.length
    · rw [wipe_none hj (by rw [wipe_length]; exact hl), wipe_none hj hl]
    · rw [List.getElem?_eq_none (by rw [wipe_length, wipe_length]; omega), List.getElem?_eq_none (by rw [wipe_length]; omega)]
  · rw [wipe_keep hj]
end

/-! ### readings
A world: H is the heap, F what of it is fixed (data is told of F alone; what is one's own to change stands in H and not in F). -/
theorem same_new {H : Hp} {p : Addr} {o : HO} (h : H p = none) : Same H (upd H p o) := fun b x e0 => by
  rw [upd_ne (ne_of_none e0 h)]
  exact e0
/-- a change at an address that B does not know -/
theorem same_mut {B H : Hp} {p : Addr} {o : HO} (s : Same B H) (h : B p = none) : Same B (upd H p o) := fun b x e0 => by
  rw [upd_ne (ne_of_none e0 h)]
  exact s b x e0
structure Wd where
  F : Hp
  H : Hp
  sub : Same F H
/-- on from W: what is fixed stays; what is new in it is new in the heap -/
structure Le (W W' : Wd) : Prop where
  same : Same W.F W'.F
  dom : ∀ a, W'.H a = none → W.H a = none
  nw : ∀ a o, W'.F a = some o → W.F a = some o ∨ W.H a = none ∨ ∃ xs, o = .tup xs
structure LeS (W W' : Wd) : Prop extends Le W W' where
  all : Same W.H W'.H
theorem Le.refl (W : Wd) : Le W W := ⟨Same.refl _, fun _ h => h, fun _ _ h => .inl h⟩
theorem Le.trans {W W1 W2 : Wd} (a : Le W W1) (b : Le W1 W2) : Le W W2 := ⟨a.same.trans b.same, fun x h => a.dom x (b.dom x h), fun x o h => by
  rcases b.nw x o h with h | h | h
  · exact a.nw x o h
  · exact .inr (.inl (a.dom x h))
  · exact .inr (.inr h)⟩
theorem LeS.refl (W : Wd) : LeS W W := ⟨Le.refl W, Same.refl _⟩
theorem LeS.trans {W W1 W2 : Wd} (a : LeS W W1) (b : LeS W1 W2) : LeS W W2 := ⟨a.toLe.trans b.toLe, a.all.trans b.all⟩
theorem wd_none {W : Wd} {p : Addr} (h : W.H p = none) : W.F p = none := by
  cases q : W.F p with
  | none => rfl
  | some o => rw [W.sub _ _ q] at h; cases h
theorem same_both {F H : Hp} {p : Addr} {o : HO} (s : Same F H) : Same (upd F p o) (upd H p o) := fun b x e0 => by
  by_cases q : b = p
  · subst q
    rw [upd_same] at e0 ⊢
    exact e0
  · rw [upd_ne q] at e0 ⊢
    exact s b x e0
/-- a new object, fixed -/
def Wd.new (W : Wd) (p : Addr) (o : HO) : Wd := ⟨upd W.F p o, upd W.H p o, same_both W.sub⟩
theorem leS_new {W : Wd} {p : Addr} {o : HO} (h : W.H p = none) : LeS W (W.new p o) := ⟨⟨same_new (wd_none h), fun a q => by
  by_cases e0 : a = p
  · subst e0; exact h
  · have q : upd W.H p o a = none := q
    rw [upd_ne e0] at q
    exact q, fun a x q => by
  by_cases e0 : a = p
  · subst e0; exact .inr (.inl h)
  · have q : upd W.F p o a = some x := q
    rw [upd_ne e0] at q
    exact .inl q⟩, same_new h⟩
/-- a new object of one's own -/
def Wd.own (W : Wd) (p : Addr) (o : HO) (h : W.F p = none) : Wd := ⟨W.F, upd W.H p o, same_mut W.sub h⟩
theorem le_own {W : Wd} {p : Addr} {o : HO} (h : W.F p = none) : Le W (W.own p o h) := ⟨Same.refl _, fun a q => by
  by_cases e0 : a = p
  · subst e0
    have q : upd W.H a o a = none := q
    rw [upd_same] at q
    cases q
  · have q : upd W.H p o a = none := q
    rw [upd_ne e0] at q
    exact q, fun _ _ q => .inl q⟩
/-- all tuples are fixed -/
def Wd.tups (W : Wd) : Wd := ⟨fun a => match W.H a with
  | some (.tup xs) => some (.tup xs)
  | _ => W.F a, W.H, fun a o h => by
  have h : (match W.H a with
    | some (.tup xs) => some (HO.tup xs)
    | _ => W.F a) = some o := h
  split at h
  · next xs e0 => rw [e0]; exact h
  · exact W.sub _ _ h⟩
theorem tups_at {W : Wd} {a : Addr} {xs : List V} (h : W.H a = some (.tup xs)) : W.tups.F a = some (.tup xs) := by
  show (match W.H a with
    | some (.tup xs) => some (HO.tup xs)
    | _ => W.F a) = _
  rw [h]
theorem leS_tups (W : Wd) : LeS W W.tups := ⟨⟨fun a o h => by
  show (match W.H a with
    | some (.tup xs) => some (HO.tup xs)
    | _ => W.F a) = _
  split
  · next xs e0 => rw [W.sub _ _ h] at e0; rw [e0]
  · exact h, fun a h => h, fun a o h => by
  have h : (match W.H a with
    | some (.tup xs) => some (HO.tup xs)
    | _ => W.F a) = some o := h
  split at h
  · next xs e0 => exact .inr (.inr ⟨xs, (Option.some.inj h).symm⟩)
  · exact .inl h⟩, Same.refl _⟩
theorem own_S {W : Wd} {p : Addr} {o : HO} (h : W.H p = none) : LeS W (W.own p o (wd_none h)) := ⟨le_own _, same_new h⟩
section
variable {K : PySem.W.Frag} {C : Addr} {W W' : Wd}
theorem dp_le (s : LeS W W') {v : V} {d : PyData} (h : Dt K W.F v d) : Dt K W'.F v d := dp_same s.same h
theorem dpAll_le (s : LeS W W') {vs : List V} {ds : List PyData} (h : DtAll K W.F vs ds) : DtAll K W'.F vs ds := dpAll_same s.same h
theorem at_le (s : LeS W W') {v : V} {t : Ty} (h : At K C W.F v t) : At K C W'.F v t := at_same s.same h
theorem atAll_le (s : LeS W W') {vs : List V} {ts : List Ty} (h : AtAll K C W.F vs ts) : AtAll K C W'.F vs ts := atAll_same s.same h
theorem En.le {σ : L2.St} {Γ : Ev} (e0 : En K C W.F σ Γ) (s : LeS W W') : En K C W'.F σ Γ := e0.same s.same
theorem En.wk {σ : L2.St} {Γ : Ev} (e0 : En K C W.F σ Γ) (s : Le W W') : En K C W'.F σ Γ := e0.same s.same
theorem wp_tup {v : V} {ds : List PyData} (h : Dt K W.F v (.tuple ds)) : ∃ a xs, v = .ref a ∧ SqT K W.H a xs ∧ DtAll K W.F xs ds := by
  obtain ⟨a, xs, e0, h1b, h2b⟩ := dp_tup h
  exact ⟨a, xs, e0, sqT_same W.sub h1b, h2b⟩
theorem wp_lst {v : V} {ds : List PyData} (h : Dt K W.F v (.list ds)) : ∃ a xs, v = .ref a ∧ SqL K W.H a xs ∧ DtAll K W.F xs ds := by
  obtain ⟨a, xs, e0, h1b, h2b⟩ := dp_lst h
  exact ⟨a, xs, e0, W.sub.seq h1b, h2b⟩
theorem wp_dp {v : V} {d : PyData} (h : Dt K W.F v d) : Dp K W.H v d := (dp_same W.sub h).dp
end
section
variable (K : PySem.W.Frag) (C : Addr)
def EvD (te : TE) (Γ : Ev) (t : Ty) : Prop := ∀ σ (W : Wd), En K C W.F σ Γ → ∀ Q : VK, (∀ v W', LeS W W' → At K C W'.F v t → Q v W'.H) → te σ W.H Q
def EvB (tt : TT) (Γ : Ev) (b : Bool) : Prop := ∀ σ (W : Wd), En K C W.F σ Γ → ∀ Q : Bool → Hp → Prop, (∀ W', LeS W W' → Q b W'.H) → tt σ W.H Q
def EvA (ta : TA) (Γ : Ev) (ts : List Ty) : Prop := ∀ σ (W : Wd), En K C W.F σ Γ → ∀ Q : List V → Hp → Prop, (∀ vs W', LeS W W' → AtAll K C W'.F vs ts → Q vs W'.H) → ta σ W.H Q
def EvO (to : TO) (Γ : Ev) (o : Option Int) : Prop := ∀ σ (W : Wd), En K C W.F σ Γ → ∀ Q : Option Int → Hp → Prop, (∀ W', LeS W W' → Q o W'.H) → to σ W.H Q
/-- a promise by data alone -/
def FnD (R : List Ty → Ty → Prop) : Sp := fun vs H Q _ => ∃ (W : Wd) (ts : List Ty) (t : Ty), W.H = H ∧ AtAll K C W.F vs ts ∧ R ts t ∧ ∀ v W', LeS W W' → At K C W'.F v t → Q v W'.H
end
section
variable {K : PySem.W.Frag} {C : Addr} {Γ : Ev} {t : Ty} {te ta tb : TE} {tt tu : TT}
theorem ev_is {t' : Ty} (h : EvD K C te Γ t) (e0 : t = t') : EvD K C te Γ t' := e0 ▸ h
theorem eb_is {b b' : Bool} (h : EvB K C tt Γ b) (e0 : b = b') : EvB K C tt Γ b' := e0 ▸ h
theorem ev_var {i : Nat} (h : Γ[i]? = some (some t)) : EvD K C (tVar i) Γ t := fun σ W e0 Q q => by
  obtain ⟨v, h1b, h2b⟩ := e0.at_ i t h
  exact ⟨v, h1b, q v W (LeS.refl W) h2b⟩
theorem ev_int {i : Int} : EvD K C (tC (.int i)) Γ (.dat (.int i)) := fun σ W e0 Q q => q _ W (LeS.refl W) (Dt.int i)
theorem ev_bl {i : Bool} : EvD K C (tC (.bl i)) Γ (.dat (.bool i)) := fun σ W e0 Q q => q _ W (LeS.refl W) (Dt.bl i)
theorem ev_str {i : Str} : EvD K C (tC (.str i)) Γ (.dat (.str i)) := fun σ W e0 Q q => q _ W (LeS.refl W) (Dt.str i)
theorem ev_non : EvD K C (tC .non) Γ (.dat .none) := fun σ W e0 Q q => q _ W (LeS.refl W) Dt.non
/-- a constant of the module: data at any heap -/
theorem ev_con {v : V} {d : PyData} (h : ∀ H, Dt K H v d) : EvD K C (tC v) Γ (.dat d) := fun σ W e0 Q q => q _ W (LeS.refl W) (h W.F)
theorem ev_own {i : Nat} {a : Addr} (h : Γ[i]? = some (some (.own a))) : EvD K C (tVar i) Γ (.own a) := ev_var h
/-- one's own list read as data -/
theorem ev_dat {ds : List PyData} (h : EvD K C te Γ (.tl ds)) : EvD K C te Γ (.dat (.list ds)) := fun σ W e0 Q q => h σ W e0 Q fun v W' s a => by
  obtain ⟨p, xs, rfl, h1b, h2b⟩ := a
  exact q _ W' s (Dt.lst (SqL.of h1b) h2b)
theorem ea_nil : EvA K C tNil Γ [] := fun σ W e0 Q q => q _ W (LeS.refl W) .nil
theorem ea_cons {tr : TA} {ts : List Ty} (h : EvD K C te Γ t) (hr : EvA K C tr Γ ts) : EvA K C (tCons te tr) Γ (t :: ts) := fun σ W e0 Q q =>
  h σ W e0 _ fun v W1 s1 a1 => hr σ W1 (e0.le s1) _ fun vs W2 s2 a2 => q _ W2 (s1.trans s2) (.cons (at_le s2 a1) a2)
def unD : List Ty → List PyData
  | [] => []
  | .dat d :: r => d :: unD r
  | _ :: r => .none :: unD r
def allD : List Ty → Bool
  | [] => true
  | .dat _ :: r => allD r
  | _ :: _ => false
theorem atAll_dat {H : Hp} : ∀ {vs : List V} {ts : List Ty}, allD ts = true → AtAll K C H vs ts → DtAll K H vs (unD ts)
  | _, _, _, .nil => .nil
  | _, .dat _ :: _, h, .cons a t => .cons a (atAll_dat h t)
  | _, .tl _ :: _, h, _ => by cases h
  | _, .sc _ _ :: _, h, _ => by cases h
  | _, .own _ :: _, h, _ => by cases h
  | _, .dc _ :: _, h, _ => by cases h
theorem ev_tup {tr : TA} {ts : List Ty} (h : EvA K C tr Γ ts) (hd : allD ts = true) (hz : ts.length ≤ 100000) : EvD K C (tTup tr) Γ (.dat (.tuple (unD ts))) := fun σ W e0 Q q =>
  h σ W e0 _ fun vs W1 s1 a => ⟨by rw [atAll_len a]; exact Nat.le_trans hz (by decide), fun p hp => q _ _ (s1.trans (leS_new hp)) (Dt.new upd_same (dpAll_le (leS_new hp) (atAll_dat hd a)))⟩
theorem ev_lst {tr : TA} {ts : List Ty} (h : EvA K C tr Γ ts) (hd : allD ts = true) (hz : ts.length ≤ 100000) : EvD K C (tLst tr) Γ (.tl (unD ts)) := fun σ W e0 Q q =>
  h σ W e0 _ fun vs W1 s1 a => ⟨by rw [atAll_len a]; exact Nat.le_trans hz (by decide), fun p hp => q _ _ (s1.trans (leS_new hp)) ⟨p, vs, rfl, upd_same, dpAll_le (leS_new hp) (atAll_dat hd a)⟩⟩
theorem ev_call {R : List Ty → Ty → Prop} {E : XK} {tr : TA} {ts : List Ty} (h : EvA K C tr Γ ts) (hr : R ts t) : EvD K C (tCall (FnD K C R) [] E tr) Γ t := fun σ W e0 Q q =>
  h σ W e0 _ fun vs W1 s1 a => ⟨W1, ts, t, rfl, by rw [List.append_nil]; exact a, hr, fun v W2 s2 b => q v W2 (s1.trans s2) b⟩
/-- an operator of two values, one of a list of values -/
theorem ev_op {r : R2} {t1 t2 : Ty} (ha : EvD K C ta Γ t1) (hb : EvD K C tb Γ t2) (hr : ∀ x y (W : Wd), At K C W.F x t1 → At K C W.F y t2 → ∀ Q : VK, (∀ v W', LeS W W' → At K C W'.F v t → Q v W'.H) → r x y W.H Q) : EvD K C (tOp r ta tb) Γ t := fun σ W e0 Q q =>
  ha σ W e0 _ fun x W1 s1 a1 => hb σ W1 (e0.le s1) _ fun y W2 s2 a2 => hr x y W2 (at_le s2 a1) a2 Q fun v W3 s3 a3 => q v W3 ((s1.trans s2).trans s3) a3
theorem ev_cb {r : List V → Hp → VK → Prop} {tr : TA} {ts : List Ty} (h : EvA K C tr Γ ts) (hr : ∀ vs (W : Wd), AtAll K C W.F vs ts → ∀ Q : VK, (∀ v W', LeS W W' → At K C W'.F v t → Q v W'.H) → r vs W.H Q) : EvD K C (tCB r tr) Γ t := fun σ W e0 Q q =>
  h σ W e0 _ fun vs W1 s1 a => hr vs W1 a Q fun v W2 s2 b => q v W2 (s1.trans s2) b
theorem ev_un {r : V → Hp → VK → Prop} {t1 : Ty} (ha : EvD K C ta Γ t1) (hr : ∀ x (W : Wd), At K C W.F x t1 → ∀ Q : VK, (∀ v W', LeS W W' → At K C W'.F v t → Q v W'.H) → r x W.H Q) : EvD K C (tUn r ta) Γ t := fun σ W e0 Q q =>
  ha σ W e0 _ fun x W1 s1 a1 => hr x W1 a1 Q fun v W2 s2 b => q v W2 (s1.trans s2) b
end

/-! ### the operators that a program's text may mean: by what stands there -/
section
variable {X : Cx}
def rAddU (K : PySem.W.Frag) : R2 := fun x y H Q => (rI0 fun i j => .int (i + j)) x y H Q ∨ (rCatA K x y H Q ∨ rCat x y H Q)
theorem op_addU : OpR X (binaryOp .Add) (rAddU X.K) := OpR.or op_add (OpR.or op_catA op_cat)
abbrev rSubU : R2 := rI0 fun i j => .int (i - j)
abbrev rMulI : R2 := rI CMul fun i j => .int (i * j)
abbrev rDivU : R2 := rI CDivW fun i j => .int (i / j)
abbrev rModU : R2 := rI (fun _ j => 0 < j) fun i j => .int (i % j)
def rLtU (K : PySem.W.Frag) : R2 := fun x y H Q => (rI0 fun i j => .bl (decide (i < j))) x y H Q ∨ rLtT K x y H Q
theorem op_ltU (h : X.A.units < cLine) : OpR X (compareOp .Lt) (rLtU X.K) := OpR.or op_lt (op_ltT h)
abbrev rLeI : R2 := rI0 fun i j => .bl (decide (i ≤ j))
abbrev rGtI : R2 := rI0 fun i j => .bl (decide (j < i))
abbrev rGeI : R2 := rI0 fun i j => .bl (decide (j ≤ i))
end
section
variable {K : PySem.W.Frag} {C : Addr} {Γ : Ev} {t : Ty} {te ta tb tc : TE} {tt tu : TT} {i j : Int}
theorem ev_addI (ha : EvD K C ta Γ (.dat (.int i))) (hb : EvD K C tb Γ (.dat (.int j))) : EvD K C (tOp (rAddU K) ta tb) Γ (.dat (.int (i + j))) :=
  ev_op ha hb fun x y W a b Q q => .inl ⟨i, j, dp_int a, dp_int b, q _ W (LeS.refl W) (Dt.int _)⟩
theorem ev_subI (ha : EvD K C ta Γ (.dat (.int i))) (hb : EvD K C tb Γ (.dat (.int j))) : EvD K C (tOp rSubU ta tb) Γ (.dat (.int (i - j))) :=
  ev_op ha hb fun x y W a b Q q => ⟨i, j, dp_int a, dp_int b, q _ W (LeS.refl W) (Dt.int _)⟩
theorem ev_mulI (ha : EvD K C ta Γ (.dat (.int i))) (hb : EvD K C tb Γ (.dat (.int j))) (h : CMul i j) : EvD K C (tOp rMulI ta tb) Γ (.dat (.int (i * j))) :=
  ev_op ha hb fun x y W a b Q q => ⟨i, j, dp_int a, dp_int b, h, q _ W (LeS.refl W) (Dt.int _)⟩
theorem ev_divI (ha : EvD K C ta Γ (.dat (.int i))) (hb : EvD K C tb Γ (.dat (.int j))) (h : CDivW i j) : EvD K C (tOp rDivU ta tb) Γ (.dat (.int (i / j))) :=
  ev_op ha hb fun x y W a b Q q => ⟨i, j, dp_int a, dp_int b, h, q _ W (LeS.refl W) (Dt.int _)⟩
theorem ev_modI (ha : EvD K C ta Γ (.dat (.int i))) (hb : EvD K C tb Γ (.dat (.int j))) (h : 0 < j) : EvD K C (tOp rModU ta tb) Γ (.dat (.int (i % j))) :=
  ev_op ha hb fun x y W a b Q q => ⟨i, j, dp_int a, dp_int b, h, q _ W (LeS.refl W) (Dt.int _)⟩
theorem ev_negI (ha : EvD K C ta Γ (.dat (.int i))) : EvD K C (tUn (rU fun i => .int (-i)) ta) Γ (.dat (.int (-i))) :=
  ev_un ha fun x W a Q q => ⟨i, dp_int a, q _ W (LeS.refl W) (Dt.int _)⟩
theorem ev_ltI (ha : EvD K C ta Γ (.dat (.int i))) (hb : EvD K C tb Γ (.dat (.int j))) : EvD K C (tOp (rLtU K) ta tb) Γ (.dat (.bool (decide (i < j)))) :=
  ev_op ha hb fun x y W a b Q q => .inl ⟨i, j, dp_int a, dp_int b, q _ W (LeS.refl W) (Dt.bl _)⟩
theorem ev_leI (ha : EvD K C ta Γ (.dat (.int i))) (hb : EvD K C tb Γ (.dat (.int j))) : EvD K C (tOp rLeI ta tb) Γ (.dat (.bool (decide (i ≤ j)))) :=
  ev_op ha hb fun x y W a b Q q => ⟨i, j, dp_int a, dp_int b, q _ W (LeS.refl W) (Dt.bl _)⟩
theorem ev_gtI (ha : EvD K C ta Γ (.dat (.int i))) (hb : EvD K C tb Γ (.dat (.int j))) : EvD K C (tOp rGtI ta tb) Γ (.dat (.bool (decide (j < i)))) :=
  ev_op ha hb fun x y W a b Q q => ⟨i, j, dp_int a, dp_int b, q _ W (LeS.refl W) (Dt.bl _)⟩
theorem ev_geI (ha : EvD K C ta Γ (.dat (.int i))) (hb : EvD K C tb Γ (.dat (.int j))) : EvD K C (tOp rGeI ta tb) Γ (.dat (.bool (decide (j ≤ i)))) :=
  ev_op ha hb fun x y W a b Q q => ⟨i, j, dp_int a, dp_int b, q _ W (LeS.refl W) (Dt.bl _)⟩
/-- < of places -/
theorem ev_ltT {l m : List Int} (ha : EvD K C ta Γ (.dat (pI l))) (hb : EvD K C tb Γ (.dat (pI m))) : EvD K C (tOp (rLtU K) ta tb) Γ (.dat (.bool (HT.lexLt l m))) :=
  ev_op ha hb fun x y W a b Q q => by
    obtain ⟨p, xs, rfl, h1b, h2b⟩ := wp_tup a
    obtain ⟨p2, ys, rfl, h3, h4⟩ := wp_tup b
    rw [dpAll_ints h2b] at h1b
    rw [dpAll_ints h4] at h3
    exact .inr ⟨p, p2, l, m, rfl, rfl, h1b, h3, q _ W (LeS.refl W) (Dt.bl _)⟩
theorem ev_catT {ds es : List PyData} (ha : EvD K C ta Γ (.dat (.tuple ds))) (hb : EvD K C tb Γ (.dat (.tuple es))) (hz : ds.length + es.length ≤ 100000) : EvD K C (tOp (rAddU K) ta tb) Γ (.dat (.tuple (ds ++ es))) :=
  ev_op ha hb fun x y W a b Q q => by
    obtain ⟨p, xs, rfl, h1b, h2b⟩ := dp_tupT a
    obtain ⟨p2, ys, rfl, h3, h4⟩ := dp_tupT b
    have l1 := dpAll_len h2b
    have l2 := dpAll_len h4
    refine .inr (.inl ⟨p, p2, xs, ys, rfl, rfl, sqT_same W.sub h1b.sq, sqT_same W.sub h3.sq, by rw [l1, l2]; exact Nat.le_trans hz (by decide), fun e0 => ?_, fun _ e0 => ?_, fun _ _ r hr => ?_⟩)
    · subst e0
      cases h2b
      exact q _ W (LeS.refl W) (Dt.tup h3 h4)
    · subst e0
      cases h4
      rw [List.append_nil] at q
      exact q _ W (LeS.refl W) (Dt.tup h1b h2b)
    · exact q _ _ (leS_new hr) (Dt.new upd_same (dpAll_le (leS_new hr) (dpAll_app h2b h4)))
theorem ev_catL {ds es : List PyData} (ha : EvD K C ta Γ (.tl ds)) (hb : EvD K C tb Γ (.tl es)) (hz : ds.length + es.length ≤ 100000) : EvD K C (tOp (rAddU K) ta tb) Γ (.tl (ds ++ es)) :=
  ev_op ha hb fun x y W a b Q q => by
    obtain ⟨p, xs, rfl, h1b, h2b⟩ := a
    obtain ⟨p2, ys, rfl, h3, h4⟩ := b
    have l1 := dpAll_len h2b
    have l2 := dpAll_len h4
    exact .inr (.inr ⟨p, p2, xs, ys, rfl, rfl, W.sub _ _ h1b, W.sub _ _ h3, by rw [l1, l2]; exact Nat.le_trans hz (by decide), fun r hr => q _ _ (leS_new hr) ⟨r, _, rfl, upd_same, dpAll_le (leS_new hr) (dpAll_app h2b h4)⟩⟩)
theorem ev_eqD {d e0 : PyData} (ha : EvD K C ta Γ (.dat d)) (hb : EvD K C tb Γ (.dat e0)) (h1b : SeqAt.shaped d = true) (h2b : SeqAt.shaped e0 = true) : EvD K C (tOp (rEqD K) ta tb) Γ (.dat (.bool (PyData.eqv d e0))) :=
  ev_op ha hb fun x y W a b Q q => ⟨d, e0, wp_dp a, wp_dp b, h1b, h2b, q _ W (LeS.refl W) (Dt.bl _)⟩
theorem ev_neD {d e0 : PyData} (ha : EvD K C ta Γ (.dat d)) (hb : EvD K C tb Γ (.dat e0)) (h1b : SeqAt.shaped d = true) (h2b : SeqAt.shaped e0 = true) : EvD K C (tOp (rNeD K) ta tb) Γ (.dat (.bool (!PyData.eqv d e0))) :=
  ev_op ha hb fun x y W a b Q q => ⟨d, e0, wp_dp a, wp_dp b, h1b, h2b, q _ W (LeS.refl W) (Dt.bl _)⟩
/-! ### tests -/
theorem eb_test {b : Bool} (h : EvD K C te Γ (.dat (.bool b))) : EvB K C (tTest te) Γ b := fun σ W e0 Q q => h σ W e0 _ fun v W1 s1 a => ⟨b, dp_bl a, q W1 s1⟩
theorem eb_B {b : Bool} (h : EvD K C te Γ (.dat (.bool b))) : EvB K C (tB te) Γ b := fun σ W e0 Q q => h σ W e0 _ fun v W1 s1 a => ⟨b, dp_bl a, q W1 s1⟩
theorem eb_and {a b : Bool} (h1b : EvB K C tt Γ a) (h2b : a = true → EvB K C tu Γ b) : EvB K C (tAnd tt tu) Γ (a && b) := fun σ W e0 Q q => h1b σ W e0 _ fun W1 s1 => by
  cases a with
  | true =>
    show tu σ W1.H Q
    exact h2b rfl σ W1 (e0.le s1) Q fun W2 s2 => q W2 (s1.trans s2)
  | false =>
    show Q false W1.H
    exact q W1 s1
theorem eb_or {a b : Bool} (h1b : EvB K C tt Γ a) (h2b : a = false → EvB K C tu Γ b) : EvB K C (tOr tt tu) Γ (a || b) := fun σ W e0 Q q => h1b σ W e0 _ fun W1 s1 => by
  cases a with
  | true =>
    show Q true W1.H
    exact q W1 s1
  | false =>
    show tu σ W1.H Q
    exact h2b rfl σ W1 (e0.le s1) Q fun W2 s2 => q W2 (s1.trans s2)
theorem eb_not {a : Bool} (h1b : EvB K C tt Γ a) : EvB K C (tNot tt) Γ (!a) := fun σ W e0 Q q => h1b σ W e0 _ fun W1 s1 => q W1 s1
theorem ev_andV {a b : Bool} (h1b : EvD K C ta Γ (.dat (.bool a))) (h2b : a = true → EvD K C tb Γ (.dat (.bool b))) : EvD K C (tAndV ta tb) Γ (.dat (.bool (a && b))) := fun σ W e0 Q q => h1b σ W e0 _ fun v W1 s1 r => ⟨a, dp_bl r, by
  cases a with
  | true =>
    show tb σ W1.H Q
    exact h2b rfl σ W1 (e0.le s1) Q fun w W2 s2 => q w W2 (s1.trans s2)
  | false =>
    show Q (.bl false) W1.H
    exact q _ W1 s1 (Dt.bl _)⟩
theorem ev_orV {a b : Bool} (h1b : EvD K C ta Γ (.dat (.bool a))) (h2b : a = false → EvD K C tb Γ (.dat (.bool b))) : EvD K C (tOrV ta tb) Γ (.dat (.bool (a || b))) := fun σ W e0 Q q => h1b σ W e0 _ fun v W1 s1 r => ⟨a, dp_bl r, by
  cases a with
  | true =>
    show Q (.bl true) W1.H
    exact q _ W1 s1 (Dt.bl _)
  | false =>
    show tb σ W1.H Q
    exact h2b rfl σ W1 (e0.le s1) Q fun w W2 s2 => q w W2 (s1.trans s2)⟩
theorem ev_notV {a : Bool} (h1b : EvD K C ta Γ (.dat (.bool a))) : EvD K C (tNotV ta) Γ (.dat (.bool (!a))) := fun σ W e0 Q q => h1b σ W e0 _ fun v W1 s1 r => ⟨a, dp_bl r, q _ W1 s1 (Dt.bl _)⟩
theorem ev_if {b : Bool} (h : EvB K C tt Γ b) (h1b : b = true → EvD K C ta Γ t) (h2b : b = false → EvD K C tb Γ t) : EvD K C (tIf tt ta tb) Γ t := fun σ W e0 Q q => h σ W e0 _ fun W1 s1 => by
  cases b with
  | true =>
    show ta σ W1.H Q
    exact h1b rfl σ W1 (e0.le s1) Q fun w W2 s2 => q w W2 (s1.trans s2)
  | false =>
    show tb σ W1.H Q
    exact h2b rfl σ W1 (e0.le s1) Q fun w W2 s2 => q w W2 (s1.trans s2)
/-- a <= b < c of ints -/
theorem ev_chain {r r' : R2} {tA tB tC' : Ty} {b b' : Bool} (ha : EvD K C ta Γ tA) (hb : EvD K C tb Γ tB) (hc : EvD K C tc Γ tC')
    (h1b : ∀ x y (W : Wd), At K C W.F x tA → At K C W.F y tB → ∀ Q : VK, (∀ W', LeS W W' → Q (.bl b) W'.H) → r x y W.H Q) (h2b : b = true → ∀ x y (W : Wd), At K C W.F x tB → At K C W.F y tC' → ∀ Q : VK, (∀ W', LeS W W' → Q (.bl b') W'.H) → r' x y W.H Q) :
    EvD K C (tChain r r' ta tb tc) Γ (.dat (.bool (b && b'))) := fun σ W e0 Q q =>
  ha σ W e0 _ fun x W1 s1 a1 => hb σ W1 (e0.le s1) _ fun y W2 s2 a2 => h1b x y W2 (at_le s2 a1) a2 _ fun W3 s3 => ⟨b, rfl, by
    have s13 := (s1.trans s2).trans s3
    cases b with
    | true =>
      show tc σ W3.H _
      exact hc σ W3 (e0.le s13) _ fun z W4 s4 a4 => h2b rfl y z W4 (at_le (s3.trans s4) a2) a4 Q fun W5 s5 => q _ W5 ((s13.trans s4).trans s5) (Dt.bl _)
    | false =>
      show Q (.bl false) W3.H
      exact q _ W3 s13 (Dt.bl _)⟩
end
end Ly
/-! Lz: more readings over data: in, *, subscripts, slices, built-ins, loops and comprehensions, statements. -/
namespace Ly
open PySem PySem.Spec
open PyProof.Rows L2

/-! ### in; a tuple times 0, 1, .. -/
section
variable {X : Cx}
def rInA (K : PySem.W.Frag) (neg : Bool) : R2 := fun x y0 H Q => ∃ d ds, Dp K H x d ∧ (Dp K H y0 (.list ds) ∨ Dp K H y0 (.tuple ds)) ∧ SeqAt.shaped d = true ∧ SeqAt.shaped (.list ds) = true ∧ Q (.bl (if neg then !(ds.any fun z => PyData.eqv z d) else ds.any fun z => PyData.eqv z d)) H
theorem op_inA (hu : X.A.units + 65 < cLine) : OpR X (compareOp .In) (rInA X.K false) := by
  intro pins0 s σ0 H x y0 v u0 Q I0 rx0 ry0 h
  obtain ⟨d, ds, hd0, he0, sd0, se0, q⟩ := h
  obtain ⟨as, r1b⟩ := Dp.reads I0 d x v hd0 rx0
  rcases he0 with he0 | he0
  · obtain ⟨bs, r2⟩ := Dp.reads I0 (.list ds) y0 u0 he0 ry0
    exact SeqAt.in_list_reads r2 r1b (SeqAt.canLay_of_shaped se0) (SeqAt.canLay_of_shaped sd0) (PyProof.Rows.room_in_shaped sd0 hu) ⟨.bl _, H, I0, rfl, q⟩
  · obtain ⟨bs, r2⟩ := Dp.reads I0 (.tuple ds) y0 u0 he0 ry0
    exact SeqAt.in_tuple_reads r2 r1b (SeqAt.canLay_of_shaped se0) (SeqAt.canLay_of_shaped sd0) (PyProof.Rows.room_in_shaped sd0 hu) ⟨.bl _, H, I0, rfl, q⟩
theorem op_notInA (hu : X.A.units + 65 < cLine) : OpR X (compareOp .NotIn) (rInA X.K true) := by
  intro pins0 s σ0 H x y0 v u0 Q I0 rx0 ry0 h
  obtain ⟨d, ds, hd0, he0, sd0, se0, q⟩ := h
  obtain ⟨as, r1b⟩ := Dp.reads I0 d x v hd0 rx0
  rcases he0 with he0 | he0
  · obtain ⟨bs, r2⟩ := Dp.reads I0 (.list ds) y0 u0 he0 ry0
    exact SeqAt.notIn_list_reads r2 r1b (SeqAt.canLay_of_shaped se0) (SeqAt.canLay_of_shaped sd0) (PyProof.Rows.room_in_shaped sd0 hu) ⟨.bl _, H, I0, rfl, q⟩
  · obtain ⟨bs, r2⟩ := Dp.reads I0 (.tuple ds) y0 u0 he0 ry0
    exact SeqAt.notIn_tuple_reads r2 r1b (SeqAt.canLay_of_shaped se0) (SeqAt.canLay_of_shaped sd0) (PyProof.Rows.room_in_shaped sd0 hu) ⟨.bl _, H, I0, rfl, q⟩
theorem tup_mul1 (l : Addr) (items : Array Value) (n : Nat) (dd0 : Option Addr) (sl0 : Array (Option Value)) (u0 : Tok) :
    Meets (Builtin.«tuple.__mul__» ⟨[.ref l, .int 1 u0], []⟩) (fun _ R s => s.heap.get? l = some { cls := .type "tuple", dict := dd0, data := .seq items n, slots := sl0 } ∧ R (.ok (.ret (Value.ref l))) s) :=
  .of_wp fun prog0 w0 A R s h => by
    obtain ⟨hp0, g, d, tk0, os0⟩ := s
    obtain ⟨hl0, h⟩ := h
    have f1 := AutoSeq1.idx_int
    have c0b : (decide ((1 : Int) < -(2 ^ 63)) || decide ((1 : Int) ≥ 2 ^ 63)) = false := by decide
    have c1b : (items.isEmpty || (1 : Int) == 1) = true := by rw [show ((1 : Int) == 1) = true from rfl, Bool.or_true]
    wp_walk using wpAny_loadPart' hl0
    repeat (first
      | (refine wpAny_ite_false (decide_eq_false (by rw [c0b]; exact Bool.false_ne_true)) ?_; wp_walk using wpAny_loadPart' hl0)
      | (refine wpAny_ite_true (decide_eq_true c1b) ?_; wp_walk using wpAny_loadPart' hl0))
    exact ⟨_, rfl, h⟩
theorem tup_mul0 (l : Addr) (items : Array Value) (n : Nat) (dd0 : Option Addr) (sl0 : Array (Option Value)) (u0 : Tok) (hne : items.isEmpty = false) :
    Meets (Builtin.«tuple.__mul__» ⟨[.ref l, .int 0 u0], []⟩) (fun _ R s => s.heap.get? l = some { cls := .type "tuple", dict := dd0, data := .seq items n, slots := sl0 } ∧
      R (.ok (.ret (Value.ref s.heap.objs.size))) { s with heap := s.heap.push { cls := Value.type "tuple", data := Data.seq #[] }, toks := s.toks }) :=
  .of_wp fun prog0 w0 A R s h => by
    obtain ⟨hp0, g, d, tk0, os0⟩ := s
    obtain ⟨hl0, h⟩ := h
    have f1 := AutoSeq1.idx_int
    have c0b : (decide ((0 : Int) < -(2 ^ 63)) || decide ((0 : Int) ≥ 2 ^ 63)) = false := by decide
    have c1b : (items.isEmpty || (0 : Int) == 1) = false := by rw [hne]; rfl
    have c2 : (decide ((0 : Int) ≤ 0) || items.isEmpty) = true := by rw [decide_eq_true (by decide), Bool.true_or]
    wp_walk using wpAny_loadPart' hl0
    repeat (first
      | (refine wpAny_ite_false (decide_eq_false (by rw [c0b]; exact Bool.false_ne_true)) ?_; wp_walk using wpAny_loadPart' hl0)
      | (refine wpAny_ite_false (decide_eq_false (by rw [c1b]; exact Bool.false_ne_true)) ?_; wp_walk using wpAny_loadPart' hl0)
      | (refine wpAny_ite_true (decide_eq_true c2) ?_; wp_walk using wpAny_loadPart' hl0))
    exact ⟨_, rfl, h⟩
def rRep1 (K : PySem.W.Frag) : R2 := fun x y0 H Q => ∃ l xs, x = .ref l ∧ y0 = .int 1 ∧ SqT K H l xs ∧ Q (.ref l) H
def rRep0 (K : PySem.W.Frag) : R2 := fun x y0 H Q => ∃ l xs, x = .ref l ∧ y0 = .int 0 ∧ SqT K H l xs ∧ xs ≠ [] ∧ ∀ p, H p = none → Q (.ref p) (upd H p (.tup []))
theorem op_rep1 : OpR X (binaryOp .Mult) (rRep1 X.K) := by
  intro pins0 s σ0 H x y0 v u0 Q I0 rx0 ry0 h
  obtain ⟨l, xs, rfl, rfl, hT0, q⟩ := h
  cases rx0
  obtain ⟨t, rfl⟩ := ry0
  obtain ⟨its0, r, ⟨⟨cls, dd0, data, sl0⟩, ho0, hc0, n, hd0⟩, hs0⟩ := I0.tuple hT0
  simp only at hc0 hd0
  subst hc0 hd0
  exact wpAny_binaryOp_repeat_ref (T := "tuple") (U := "int") (by decide) ⟨_, ho0, rfl⟩ (fun s' => typeIs_int s' 1 t) noFill_tuple_mul F.fills_int_mul F.slot_int_rmul repeat_tuple F.slot_int_index.lookup
    (call_meets F.slot_int_rmul (typeIs_int s 1 t) F.entry_int_rmul (F.args_int_rmul_2 _ _) (int_rmul_tuple 1 t l its0.toArray n dd0 sl0)
      ⟨ho0, rfl, ⟨_, ho0, rfl⟩, call_meets F.slot_tuple_mul ⟨_, ho0, rfl⟩ F.entry_tuple_mul (F.args_tuple_mul_2 _ _) (tup_mul1 l its0.toArray n dd0 sl0 t) ⟨ho0, .ref l, H, I0, rfl, q⟩⟩)
theorem op_rep0 : OpR X (binaryOp .Mult) (rRep0 X.K) := by
  intro pins0 s σ0 H x y0 v u0 Q I0 rx0 ry0 h
  obtain ⟨l, xs, rfl, rfl, hT0, hne, q⟩ := h
  cases rx0
  obtain ⟨t, rfl⟩ := ry0
  obtain ⟨its0, r, ⟨⟨cls, dd0, data, sl0⟩, ho0, hc0, n, hd0⟩, hs0⟩ := I0.tuple hT0
  simp only at hc0 hd0
  subst hc0 hd0
  have hi0 : its0.toArray.isEmpty = false := by
    cases its0 with
    | nil =>
      cases r
      exact absurd rfl hne
    | cons a b => rfl
  refine wpAny_binaryOp_repeat_ref (T := "tuple") (U := "int") (by decide) ⟨_, ho0, rfl⟩ (fun s' => typeIs_int s' 0 t) noFill_tuple_mul F.fills_int_mul F.slot_int_rmul repeat_tuple F.slot_int_index.lookup
    (call_meets F.slot_int_rmul (typeIs_int s 0 t) F.entry_int_rmul (F.args_int_rmul_2 _ _) (int_rmul_tuple 0 t l its0.toArray n dd0 sl0)
      ⟨ho0, rfl, ⟨_, ho0, rfl⟩, call_meets F.slot_tuple_mul ⟨_, ho0, rfl⟩ F.entry_tuple_mul (F.args_tuple_mul_2 _ _) (tup_mul0 l its0.toArray n dd0 sl0 t hi0) ⟨ho0, ?_⟩⟩)
  exact ⟨.ref s.heap.objs.size, _, I0.laid (t' := s.toks) (o := .tup []) (fun b ob q => Heap.get?_push_of_some _ q) (Nat.le_refl _) ⟨Nat.zero_le _, [], .nil, IsTup.new _ _⟩, rfl, q _ (I0.hok.fresh (Nat.le_refl _))⟩
def rMulU (K : PySem.W.Frag) : R2 := fun x y0 H Q => rMulI x y0 H Q ∨ (rRepT K x y0 H Q ∨ (rRep1 K x y0 H Q ∨ (rRep0 K x y0 H Q ∨ rRep x y0 H Q)))
theorem op_mulU : OpR X (binaryOp .Mult) (rMulU X.K) := OpR.or op_mul (OpR.or op_repT (OpR.or op_rep1 (OpR.or op_rep0 op_rep)))
def rIxU (K : PySem.W.Frag) : R2 := fun x y0 H Q => rIxL K x y0 H Q ∨ rIxT K x y0 H Q
theorem ix_U : IxR X (rIxU X.K) := IxR.or ix_list ix_tup
def rSlU (K : PySem.W.Frag) : V → Option Int → Option Int → Hp → VK → Prop := fun x lo hi0 H Q => rSlL K x lo hi0 H Q ∨ rSlA K x lo hi0 H Q
theorem sl_U : SlR X (rSlU X.K) := SlR.or sl_list sl_tupA
end
def rLenU (K : PySem.W.Frag) : List V → Hp → VK → Prop := fun xs H Q => ∃ p ys, xs = [.ref p] ∧ (SqL K H p ys ∨ SqT K H p ys) ∧ Q (.int ys.length) H
def rListU (K : PySem.W.Frag) : List V → Hp → VK → Prop := fun xs H Q => ∃ p ys, xs = [.ref p] ∧ (SqL K H p ys ∨ SqT K H p ys) ∧ ∀ l, H l = none → Q (.ref l) (upd H l (.lst ys))
def rTupU (K : PySem.W.Frag) : List V → Hp → VK → Prop := fun xs H Q => ∃ p ys, xs = [.ref p] ∧ ((SqL K H p ys ∧ ∀ l, H l = none → Q (.ref l) (upd H l (.tup ys))) ∨ (SqT K H p ys ∧ Q (.ref p) H))
def rIntU : List V → Hp → VK → Prop := fun xs H Q => (∃ i, xs = [.int i] ∧ Q (.int i) H) ∨ ∃ k, xs = [.bl k] ∧ Q (.int (if k then 1 else 0)) H
def rAbsU : List V → Hp → VK → Prop := fun xs H Q => ∃ i, xs = [.int i] ∧ Q (.int (if i < 0 then -i else i)) H
def rMin2U : List V → Hp → VK → Prop := fun xs H Q => ∃ i j, xs = [.int i, .int j] ∧ Q (.int (if j < i then j else i)) H
section
variable {X : Cx}
theorem cr_len : CallR X (.builtin "len") (rLenU X.K) := call_len_seq
theorem cr_list : CallR X (.type "list") (rListU X.K) := call_list_of
theorem cr_tuple : CallR X (.type "tuple") (rTupU X.K) := call_tuple_of
theorem cr_int : CallR X (.type "int") rIntU := call_int1
theorem cr_abs : CallR X (.builtin "abs") rAbsU := call_abs
theorem cr_min2 (hc0 : X.calm = true) : CallR X (.builtin "min") rMin2U := call_min2 hc0
end

def cutD (ds : List PyData) (lo hi0 : Option Int) : List PyData := (ds.drop (HT.sIx ds.length 0 lo)).take (HT.sIx ds.length ds.length hi0 - HT.sIx ds.length 0 lo)
section
variable {K : PySem.W.Frag} {C : Addr} {Γ : Ev} {t : Ty} {te ta tb tc : TE} {tt tu : TT} {tl th : TO} {i j : Int}
theorem cutV_dp {H : Hp} {xs : List V} {ds : List PyData} (h : DtAll K H xs ds) (lo hi0 : Option Int) : DtAll K H (cutV xs lo hi0) (cutD ds lo hi0) := by
  unfold cutV cutD
  rw [dpAll_len h]
  exact dpAll_take _ (dpAll_drop _ h)
theorem atI_dp {H : Hp} {xs : List V} {ds : List PyData} {d : PyData} (h : DtAll K H xs ds) (e0 : atI ds i = some d) : ∃ v, atI xs i = some v ∧ Dt K H v d := by
  unfold atI at e0 ⊢
  rw [dpAll_len h]
  cases q : ixN ds.length i with
  | none => rw [q] at e0; cases e0
  | some k =>
    rw [q] at e0
    exact dpAll_get h (show ds[k]? = some d from e0)
theorem ev_ixT {ds : List PyData} {d : PyData} (ha : EvD K C ta Γ (.dat (.tuple ds))) (hb : EvD K C tb Γ (.dat (.int i))) (h : atI ds i = some d) : EvD K C (tOp (rIxU K) ta tb) Γ (.dat d) :=
  ev_op ha hb fun x y0 W a b Q q => by
    obtain ⟨p, xs, rfl, h1, h2⟩ := wp_tup a
    obtain ⟨v, e0, r⟩ := atI_dp h2 h
    exact .inr ⟨p, xs, i, v, rfl, dp_int b, h1, e0, q v W (LeS.refl W) r⟩
theorem ev_ixL {ds : List PyData} {d : PyData} (ha : EvD K C ta Γ (.dat (.list ds))) (hb : EvD K C tb Γ (.dat (.int i))) (h : atI ds i = some d) : EvD K C (tOp (rIxU K) ta tb) Γ (.dat d) :=
  ev_op ha hb fun x y0 W a b Q q => by
    obtain ⟨p, xs, rfl, h1, h2⟩ := wp_lst a
    obtain ⟨v, e0, r⟩ := atI_dp h2 h
    exact .inl ⟨p, xs, i, v, rfl, dp_int b, h1, e0, q v W (LeS.refl W) r⟩
theorem eo_none : EvO K C tNoPart Γ none := fun σ0 W e0 Q q => q W (LeS.refl W)
theorem eo_some (h : EvD K C te Γ (.dat (.int i))) : EvO K C (tPart te) Γ (some i) := fun σ0 W e0 Q q => h σ0 W e0 _ fun v W1 s1 a => ⟨i, dp_int a, q W1 s1⟩
theorem ev_slL {ds : List PyData} {lo hi0 : Option Int} (ha : EvD K C te Γ (.dat (.list ds))) (h1 : EvO K C tl Γ lo) (h2 : EvO K C th Γ hi0) : EvD K C (tSl (rSlU K) te tl th) Γ (.tl (cutD ds lo hi0)) := fun σ0 W e0 Q q =>
  ha σ0 W e0 _ fun v W1 s1 a => h1 σ0 W1 (e0.le s1) _ fun W2 s2 => h2 σ0 W2 (e0.le (s1.trans s2)) _ fun W3 s3 => by
    obtain ⟨p, xs, rfl, g1, g2⟩ := wp_lst (dp_le (s2.trans s3) a)
    exact .inl ⟨p, xs, rfl, g1, fun r hr => q _ _ (((s1.trans s2).trans s3).trans (leS_new hr)) ⟨r, _, rfl, upd_same, dpAll_le (leS_new hr) (cutV_dp g2 lo hi0)⟩⟩
theorem ev_slT {ds : List PyData} {lo hi0 : Option Int} (ha : EvD K C te Γ (.dat (.tuple ds))) (h1 : EvO K C tl Γ lo) (h2 : EvO K C th Γ hi0) : EvD K C (tSl (rSlU K) te tl th) Γ (.dat (.tuple (cutD ds lo hi0))) := fun σ0 W e0 Q q =>
  ha σ0 W e0 _ fun v W1 s1 a => h1 σ0 W1 (e0.le s1) _ fun W2 s2 => h2 σ0 W2 (e0.le (s1.trans s2)) _ fun W3 s3 => by
    obtain ⟨p, xs, rfl, g1, g2⟩ := dp_tupT (dp_le (s2.trans s3) a)
    have hl0 := dpAll_len g2
    refine .inr ⟨p, xs, rfl, sqT_same W3.sub g1.sq, fun hw => ?_, fun _ r hr => q _ _ (((s1.trans s2).trans s3).trans (leS_new hr)) (Dt.new upd_same (dpAll_le (leS_new hr) (cutV_dp g2 lo hi0)))⟩

    have e1 : cutD ds lo hi0 = ds := by
      unfold cutD
      rw [← hl0, hw.1, hw.2, List.drop_zero, Nat.sub_zero, hl0]
      exact List.take_length
    rw [← e1] at g1 g2
    refine q _ W3 ((s1.trans s2).trans s3) (Dt.tup g1 g2)

theorem ev_len {ds : List PyData} (ha : EvD K C te Γ (.dat (.list ds)) ∨ EvD K C te Γ (.dat (.tuple ds))) : EvD K C (tCB (rLenU K) (tCons te tNil)) Γ (.dat (.int (ds.length : Int))) := by
  rcases ha with ha | ha
  · exact ev_cb (ea_cons ha ea_nil) fun vs W a Q q => by
      cases a with
      | cons a t =>
        cases t
        obtain ⟨p, xs, rfl, g1, g2⟩ := wp_lst a
        rw [← dpAll_len g2] at q
        exact ⟨p, xs, rfl, .inl g1, q _ W (LeS.refl W) (Dt.int _)⟩
  · exact ev_cb (ea_cons ha ea_nil) fun vs W a Q q => by
      cases a with
      | cons a t =>
        cases t
        obtain ⟨p, xs, rfl, g1, g2⟩ := wp_tup a
        rw [← dpAll_len g2] at q
        exact ⟨p, xs, rfl, .inr g1, q _ W (LeS.refl W) (Dt.int _)⟩
theorem ev_listOf {ds : List PyData} (ha : EvD K C te Γ (.dat (.list ds)) ∨ EvD K C te Γ (.dat (.tuple ds))) : EvD K C (tCB (rListU K) (tCons te tNil)) Γ (.tl ds) := by
  rcases ha with ha | ha
  · exact ev_cb (ea_cons ha ea_nil) fun vs W a Q q => by
      cases a with
      | cons a t =>
        cases t
        obtain ⟨p, xs, rfl, g1, g2⟩ := wp_lst a
        exact ⟨p, xs, rfl, .inl g1, fun l hl0 => q _ _ (leS_new hl0) ⟨l, xs, rfl, upd_same, dpAll_le (leS_new hl0) g2⟩⟩
  · exact ev_cb (ea_cons ha ea_nil) fun vs W a Q q => by
      cases a with
      | cons a t =>
        cases t
        obtain ⟨p, xs, rfl, g1, g2⟩ := wp_tup a
        exact ⟨p, xs, rfl, .inr g1, fun l hl0 => q _ _ (leS_new hl0) ⟨l, xs, rfl, upd_same, dpAll_le (leS_new hl0) g2⟩⟩
theorem ev_tupleOf {ds : List PyData} (ha : EvD K C te Γ (.dat (.list ds)) ∨ EvD K C te Γ (.dat (.tuple ds))) : EvD K C (tCB (rTupU K) (tCons te tNil)) Γ (.dat (.tuple ds)) := by
  rcases ha with ha | ha
  · exact ev_cb (ea_cons ha ea_nil) fun vs W a Q q => by
      cases a with
      | cons a t =>
        cases t
        obtain ⟨p, xs, rfl, g1, g2⟩ := wp_lst a
        exact ⟨p, xs, rfl, .inl ⟨g1, fun l hl0 => q _ _ (leS_new hl0) (Dt.new upd_same (dpAll_le (leS_new hl0) g2))⟩⟩
  · exact ev_cb (ea_cons ha ea_nil) fun vs W a Q q => by
      cases a with
      | cons a t =>
        cases t
        obtain ⟨p, xs, rfl, g1, g2⟩ := dp_tupT a
        exact ⟨p, xs, rfl, .inr ⟨sqT_same W.sub g1.sq, q _ W (LeS.refl W) (Dt.tup g1 g2)⟩⟩
/-- tuple([..]) -/
theorem ev_tupTl {ds : List PyData} (ha : EvD K C te Γ (.tl ds)) : EvD K C (tCB (rTupU K) (tCons te tNil)) Γ (.dat (.tuple ds)) := ev_tupleOf (.inl (ev_dat ha))
theorem ev_intI (ha : EvD K C te Γ (.dat (.int i))) : EvD K C (tCB rIntU (tCons te tNil)) Γ (.dat (.int i)) := ev_cb (ea_cons ha ea_nil) fun vs W a Q q => by
  cases a with
  | cons a t =>
    cases t
    exact .inl ⟨i, by rw [dp_int a], q _ W (LeS.refl W) (Dt.int _)⟩
theorem ev_intB {b : Bool} (ha : EvD K C te Γ (.dat (.bool b))) : EvD K C (tCB rIntU (tCons te tNil)) Γ (.dat (.int (if b then 1 else 0))) := ev_cb (ea_cons ha ea_nil) fun vs W a Q q => by
  cases a with
  | cons a t =>
    cases t
    exact .inr ⟨b, by rw [dp_bl a], q _ W (LeS.refl W) (Dt.int _)⟩
theorem ev_abs (ha : EvD K C te Γ (.dat (.int i))) : EvD K C (tCB rAbsU (tCons te tNil)) Γ (.dat (.int (if i < 0 then -i else i))) := ev_cb (ea_cons ha ea_nil) fun vs W a Q q => by
  cases a with
  | cons a t =>
    cases t
    exact ⟨i, by rw [dp_int a], q _ W (LeS.refl W) (Dt.int _)⟩
theorem ev_min2 (ha : EvD K C ta Γ (.dat (.int i))) (hb : EvD K C tb Γ (.dat (.int j))) : EvD K C (tCB rMin2U (tCons ta (tCons tb tNil))) Γ (.dat (.int (if j < i then j else i))) := ev_cb (ea_cons ha (ea_cons hb ea_nil)) fun vs W a Q q => by
  cases a with
  | cons a t =>
    cases t with
    | cons b t =>
      cases t
      exact ⟨i, j, by rw [dp_int a, dp_int b], q _ W (LeS.refl W) (Dt.int _)⟩
theorem ev_sum {l : List Int} (ha : EvD K C te Γ (.dat (.list (l.map .int)))) : EvD K C (tCB (rSum K) (tCons te tNil)) Γ (.dat (.int l.sum)) := ev_cb (ea_cons ha ea_nil) fun vs W a Q q => by
  cases a with
  | cons a t =>
    cases t
    obtain ⟨p, xs, rfl, g1, g2⟩ := wp_lst a
    rw [dpAll_ints g2] at g1
    exact ⟨p, l, rfl, g1, q _ W (LeS.refl W) (Dt.int _)⟩
theorem ev_max {l : List Int} {m : Int} (ha : EvD K C te Γ (.dat (.list (l.map .int)))) (hm : m ∈ l) (hle : ∀ y0 ∈ l, y0 ≤ m) : EvD K C (tCB (rMax K) (tCons te tNil)) Γ (.dat (.int m)) := ev_cb (ea_cons ha ea_nil) fun vs W a Q q => by
  cases a with
  | cons a t =>
    cases t
    obtain ⟨p, xs, rfl, g1, g2⟩ := wp_lst a
    rw [dpAll_ints g2] at g1
    refine ⟨p, l, rfl, g1, List.length_pos_of_mem hm, fun k hk hk2 => ?_⟩
    have e0 : k = m := Int.le_antisymm (hle k hk) (hk2 m hm)
    subst e0
    exact q _ W (LeS.refl W) (Dt.int _)
theorem ev_all {l : List Bool} (ha : EvD K C te Γ (.dat (.list (l.map .bool)))) : EvD K C (tCB (rAll K) (tCons te tNil)) Γ (.dat (.bool (l.all id))) := ev_cb (ea_cons ha ea_nil) fun vs W a Q q => by
  cases a with
  | cons a t =>
    cases t
    obtain ⟨p, xs, rfl, g1, g2⟩ := wp_lst a
    rw [dpAll_bls g2] at g1
    exact ⟨p, l, rfl, g1, q _ W (LeS.refl W) (Dt.bl _)⟩
theorem ev_any {l : List Bool} (ha : EvD K C te Γ (.dat (.list (l.map .bool)))) : EvD K C (tCB (rAny K) (tCons te tNil)) Γ (.dat (.bool (l.any id))) := ev_cb (ea_cons ha ea_nil) fun vs W a Q q => by
  cases a with
  | cons a t =>
    cases t
    obtain ⟨p, xs, rfl, g1, g2⟩ := wp_lst a
    rw [dpAll_bls g2] at g1
    exact ⟨p, l, rfl, g1, q _ W (LeS.refl W) (Dt.bl _)⟩
theorem ev_in {neg : Bool} {d : PyData} {ds : List PyData} (ha : EvD K C ta Γ (.dat d)) (hb : EvD K C tb Γ (.dat (.list ds)) ∨ EvD K C tb Γ (.dat (.tuple ds))) (h1 : SeqAt.shaped d = true) (h2 : SeqAt.shaped (.list ds) = true) :
    EvD K C (tOp (rInA K neg) ta tb) Γ (.dat (.bool (if neg then !(ds.any fun z => PyData.eqv z d) else ds.any fun z => PyData.eqv z d))) := by
  rcases hb with hb | hb
  · exact ev_op ha hb fun x y0 W a b Q q => ⟨d, ds, wp_dp a, .inl (wp_dp b), h1, h2, q _ W (LeS.refl W) (Dt.bl _)⟩
  · exact ev_op ha hb fun x y0 W a b Q q => ⟨d, ds, wp_dp a, .inr (wp_dp b), h1, h2, q _ W (LeS.refl W) (Dt.bl _)⟩
theorem ev_mulU (ha : EvD K C ta Γ (.dat (.int i))) (hb : EvD K C tb Γ (.dat (.int j))) (h : CMul i j) : EvD K C (tOp (rMulU K) ta tb) Γ (.dat (.int (i * j))) :=
  ev_op ha hb fun x y0 W a b Q q => .inl ⟨i, j, dp_int a, dp_int b, h, q _ W (LeS.refl W) (Dt.int _)⟩
/-- (d,) * n -/
theorem ev_rep1 {d : PyData} {n : Nat} (ha : EvD K C ta Γ (.dat (.tuple [d]))) (hb : EvD K C tb Γ (.dat (.int (n : Int)))) (hn : n ≤ 1000) : EvD K C (tOp (rMulU K) ta tb) Γ (.dat (.tuple (List.replicate n d))) :=
  ev_op ha hb fun x y0 W a b Q q => by
    obtain ⟨p, xs, rfl, g1, g2⟩ := dp_tupT a
    have hb' := dp_int b
    obtain ⟨v, rfl, hv⟩ : ∃ v, xs = [v] ∧ Dt K W.F v d := by
      cases g2 with
      | cons r t =>
        cases t
        exact ⟨_, rfl, r⟩
    match n, hn, hb', q with
    | 0, _, hb', q => exact .inr (.inr (.inr (.inl ⟨p, [v], rfl, hb', sqT_same W.sub g1.sq, List.cons_ne_nil _ _, fun r hr => q _ _ (leS_new hr) (Dt.new upd_same .nil)⟩)))
    | 1, _, hb', q => exact .inr (.inr (.inl ⟨p, [v], rfl, hb', sqT_same W.sub g1.sq, q _ W (LeS.refl W) (Dt.tup g1 g2)⟩))
    | n + 2, hn, hb', q =>
      refine .inr (.inl ⟨p, _, [v], rfl, hb', sqT_same W.sub g1.sq, List.cons_ne_nil _ _, by omega, by omega, by show 1 ≤ 1000; decide, fun r hr => q _ _ (leS_new hr) (Dt.new upd_same (dpAll_le (leS_new hr) ?_))⟩)
      have e0 : ∀ m : Nat, DtAll K W.F (List.replicate m [v]).flatten (List.replicate m d) := fun m => by
        induction m with
        | zero => exact .nil
        | succ m ih =>
          rw [List.replicate_succ, List.replicate_succ, List.flatten_cons]
          exact .cons hv ih
      have e2 : (((n + 2 : Nat) : Int)).toNat = n + 2 := Int.toNat_natCast _
      rw [e2]
      exact e0 _
/-- isinstance(x, T), T written -/
def tyOf : PyData → String
  | .none => "NoneType"
  | .bool _ => "bool"
  | .int _ => "int"
  | .str _ => "str"
  | .list _ => "list"
  | .tuple _ => "tuple"
  | .dict _ => "dict"
theorem tyX_of {H : Hp} {v : V} : ∀ {d : PyData}, (∀ kvs, d ≠ .dict kvs) → d ≠ .none → Dt K H v d → TyX K H v (.type (tyOf d))
  | .none, _, h, _ => absurd rfl h
  | .bool _, _, _, h => by cases h; exact .base (.bl _)
  | .int _, _, _, h => by cases h; exact .base (.int _)
  | .str _, _, _, h => by cases h; exact .base (.str _)
  | .list _, _, _, h => by
    obtain ⟨a, xs, rfl, h1, _⟩ := dp_lst h
    rcases h1 with (h1 | ⟨o, h1⟩) | ⟨o, its0, n, h1, h2, _⟩
    · exact .base (.lst h1)
    · exact .base (.frz h1)
    · exact .kList h1 h2
  | .tuple _, _, _, h => by
    obtain ⟨a, xs, rfl, h1, _⟩ := dp_tup h
    rcases h1 with (h1 | ⟨o, h1⟩) | ⟨o, its0, n, h1, h2, _⟩
    · exact .base (.tup h1)
    · exact .fTuple h1
    · exact .kTuple h1 h2
  | .dict _, h, _, _ => absurd rfl (h _)
theorem ev_isi {d : PyData} {T : String} {b : Bool} (ha : EvD K C ta Γ (.dat d)) (h1 : ∀ kvs, d ≠ .dict kvs) (h2 : d ≠ .none) (hb : kitB (tyOf d) T = some b) : EvD K C (tCB (rIsi K) (tCons ta (tCons (tC (.ty T)) tNil))) Γ (.dat (.bool b)) := fun σ0 W e0 Q q =>
  ha σ0 W e0 _ fun v W1 s1 a => ⟨v, .ty T, _, _, b, rfl, .ty T, tyX_of h1 h2 (dp_same W1.sub a), kit_ty hb, q _ W1 s1 (Dt.bl _)⟩
end

/-! ### what is walked -/
section
variable (K : PySem.W.Frag) (C : Addr)
/-- from W on: the items as, each as ty tells -/
structure ItD {α : Type} (J : It) (W : Wd) (as : List α) (ty : α → Ty) : Prop where
  go : ∀ W' : Wd, Same W.F W'.F → ∀ i a, as[i]? = some a → J.go i W'.H ∧ ∀ x H2, J.yld i W'.H x H2 → ∃ W2, W2.H = H2 ∧ LeS W' W2 ∧ At K C W2.F x (ty a)
  stop : ∀ W' : Wd, Same W.F W'.F → J.stop as.length W'.H
def IvD {α : Type} (wi : TI) (Γ : Ev) (as : List α) (ty : α → Ty) : Prop := ∀ σ0 (W : Wd), En K C W.F σ0 Γ → ∀ R : It → Hp → Prop, (∀ J W', LeS W W' → ItD K C J W' as ty → R J W'.H) → wi σ0 W.H R
/-- a target: what is known of the slots behind it; only slots of vs are stored -/
def TgD (g : TG) (vs : List Nat) (Γ : Ev) (t : Ty) (Γ' : Ev) : Prop := ∀ σ0 (W : Wd) v, En K C W.F σ0 Γ → At K C W.F v t → ∀ Q : L2.St → Hp → Prop, (∀ σ', wipe σ' vs = wipe σ0 vs → En K C W.F σ' Γ' → Q σ' W.H) → g v σ0 W.H Q
end
section
variable {K : PySem.W.Frag} {C : Addr} {Γ : Ev} {t : Ty} {te ta tb : TE} {tt : TT}
theorem ItD.le {α : Type} {J : It} {W W' : Wd} {as : List α} {ty : α → Ty} (h : ItD K C J W as ty) (s : Same W.F W'.F) : ItD K C J W' as ty := ⟨fun W2 s2 => h.go W2 (s.trans s2), fun W2 s2 => h.stop W2 (s.trans s2)⟩
theorem tg_name {i : Nat} {vs : List Nat} (h : i ∈ vs) : TgD K C (gName i) vs Γ t (Γ.set i (some t)) := fun σ0 W v e0 a Q q => q _ (wipe_set h) (e0.set a)
theorem tg_pair {i j : Nat} {vs : List Nat} {d1 d2 : PyData} (h1 : i ∈ vs) (h2 : j ∈ vs) : TgD K C (gTup K 2 (gCons (gName i) (gCons (gName j) gNil))) vs Γ (.dat (.tuple [d1, d2])) ((Γ.set i (some (.dat d1))).set j (some (.dat d2))) := fun σ0 W v e0 a Q q => by
  obtain ⟨p, xs, rfl, g1, g2⟩ := wp_tup a
  cases g2 with
  | cons r1b t =>
    cases t with
    | cons r2 t =>
      cases t
      exact ⟨p, _, rfl, g1, rfl, _, _, rfl, _, _, rfl, rfl, q _ (by rw [wipe_set h2, wipe_set h1]) ((e0.set (t := .dat d1) r1b).set (t := .dat d2) r2)⟩
theorem iv_list {ds : List PyData} (h : EvD K C te Γ (.dat (.list ds))) : IvD K C (iList K te) Γ ds .dat := fun σ0 W e0 R r => h σ0 W e0 _ fun v W1 s1 a => by
  obtain ⟨p, xs, rfl, g1, g2⟩ := dp_lst a
  refine ⟨p, rfl, ⟨xs, W1.sub.seq g1⟩, r _ W1 s1 ⟨fun W' s i d hd0 => ?_, fun W' s => ⟨xs, W'.sub.seq (s.seq g1), by rw [dpAll_len g2]; exact Nat.le_refl _⟩⟩⟩
  have g3 := W'.sub.seq (s.seq g1)
  obtain ⟨w0, hw, rw'⟩ := dpAll_get g2 hd0
  refine ⟨⟨xs, w0, g3, hw⟩, fun x H2 y0 => ?_⟩
  obtain ⟨rfl, y0⟩ := y0
  have e1 : w0 = x := Option.some.inj (hw.symm.trans (y0 xs g3))
  subst e1
  exact ⟨W', rfl, LeS.refl _, dp_same s rw'⟩
theorem iv_tup {ds : List PyData} (h : EvD K C te Γ (.dat (.tuple ds))) : IvD K C (iTup K te) Γ ds .dat := fun σ0 W e0 R r => h σ0 W e0 _ fun v W1 s1 a => by
  obtain ⟨p, xs, rfl, g1, g2⟩ := dp_tup a
  refine ⟨p, rfl, ⟨xs, sqT_same W1.sub g1⟩, r _ W1 s1 ⟨fun W' s i d hd0 => ?_, fun W' s => ⟨xs, sqT_same W'.sub (sqT_same s g1), by rw [dpAll_len g2]; exact Nat.le_refl _⟩⟩⟩
  have g3 := sqT_same W'.sub (sqT_same s g1)
  obtain ⟨w0, hw, rw'⟩ := dpAll_get g2 hd0
  refine ⟨⟨xs, w0, g3, hw⟩, fun x H2 y0 => ?_⟩
  obtain ⟨rfl, y0⟩ := y0
  have e1 : w0 = x := Option.some.inj (hw.symm.trans (y0 xs g3))
  subst e1
  exact ⟨W', rfl, LeS.refl _, dp_same s rw'⟩
end
/-- over a list or a tuple -/
def iSeqU (K : PySem.W.Frag) (te : TE) : TI := fun σ0 H R => iList K te σ0 H R ∨ iTup K te σ0 H R
theorem pi_U {X : Cx} {tg e0 : Expr} {te : TE} (h : PE X e0 te) : PI X tg e0 (iSeqU X.K te) := ⟨fun pins0 s σ0 H R I0 q => by
  rcases q with q | q
  · exact (pi_list h).run pins0 s σ0 H R I0 q
  · exact (pi_tup h).run pins0 s σ0 H R I0 q⟩
section
variable {K : PySem.W.Frag} {C : Addr} {Γ : Ev} {t : Ty} {te ta tb : TE} {tt : TT}
theorem iv_L {ds : List PyData} (h : EvD K C te Γ (.dat (.list ds))) : IvD K C (iSeqU K te) Γ ds .dat := fun σ0 W e0 R r => .inl (iv_list h σ0 W e0 R r)
theorem iv_T {ds : List PyData} (h : EvD K C te Γ (.dat (.tuple ds))) : IvD K C (iSeqU K te) Γ ds .dat := fun σ0 W e0 R r => .inr (iv_tup h σ0 W e0 R r)
theorem iv_range {n : Nat} (h : EvD K C te Γ (.dat (.int (n : Int)))) (hn : n ≤ 100000) : IvD K C (iRng1 (tCons te tNil)) Γ (List.range n) (fun i => .dat (.int (i : Nat))) := fun σ0 W e0 R r => h σ0 W e0 _ fun v W1 s1 a => by
  refine ⟨(n : Int), by rw [dp_int a], by omega, by omega, r _ W1 s1 ⟨fun W' s i d hd0 => ?_, fun W' s => ?_⟩⟩
  · have hi0 : i < n := by
      have := (List.getElem?_eq_some_iff.mp hd0).1
      rwa [List.length_range] at this
    have ed : d = i := by
      rw [List.getElem?_range hi0] at hd0
      exact (Option.some.inj hd0).symm
    subst ed
    refine ⟨by rw [Int.toNat_natCast]; exact hi0, fun x H2 y0 => ?_⟩
    obtain ⟨rfl, rfl⟩ := y0
    refine ⟨W', rfl, LeS.refl _, ?_⟩
    rw [Int.zero_add]
    exact Dt.int _
  · rw [List.length_range]
    show ((n : Int)).toNat ≤ n
    rw [Int.toNat_natCast]
    exact Nat.le_refl _
/-- zip of two tuples, of two lists: pairs -/
def zipD (a b : List PyData) : List PyData := (a.zip b).map fun p => .tuple [p.1, p.2]
theorem zipD_get {a b : List PyData} {i : Nat} {d : PyData} (h : (zipD a b)[i]? = some d) : ∃ x y0, a[i]? = some x ∧ b[i]? = some y0 ∧ d = .tuple [x, y0] := by
  unfold zipD at h
  rw [List.getElem?_map] at h
  cases q : (a.zip b)[i]? with
  | none => rw [q] at h; cases h
  | some p =>
    rw [q] at h
    obtain ⟨h1, h2⟩ := List.getElem?_zip_eq_some.mp q
    exact ⟨p.1, p.2, h1, h2, (Option.some.inj h).symm⟩
theorem zipD_len {a b : List PyData} : (zipD a b).length = min a.length b.length := by
  unfold zipD
  rw [List.length_map, List.length_zip]
theorem iv_zipT {ds es : List PyData} (ha : EvD K C ta Γ (.dat (.tuple ds))) (hb : EvD K C tb Γ (.dat (.tuple es))) : IvD K C (RZ.iZipA K (tCons ta (tCons tb tNil))) Γ (zipD ds es) .dat := fun σ0 W e0 R r =>
  ha σ0 W e0 _ fun v W1 s1 a => hb σ0 W1 (e0.le s1) _ fun w0 W2 s2 b => by
    obtain ⟨p, xs, rfl, g1, g2⟩ := dp_tup (dp_le s2 a)
    obtain ⟨p', ys, rfl, g3, g4⟩ := dp_tup b
    refine ⟨p, p', xs, ys, rfl, .inr ⟨sqT_same W2.sub g1, sqT_same W2.sub g3, r _ W2 (s1.trans s2) ⟨fun W' s i d hd0 => ?_, fun W' s => ⟨xs, ys, sqT_same W'.sub (sqT_same s g1), sqT_same W'.sub (sqT_same s g3), ?_⟩⟩⟩⟩
    · have k1 := sqT_same W'.sub (sqT_same s g1)
      have k3 := sqT_same W'.sub (sqT_same s g3)
      obtain ⟨x, y0, hx, hy, rfl⟩ := zipD_get hd0
      obtain ⟨vx, hvx, rx0⟩ := dpAll_get g2 hx
      obtain ⟨vy, hvy, ry0⟩ := dpAll_get g4 hy
      refine ⟨⟨xs, ys, vx, vy, k1, k3, hvx, hvy⟩, fun z H3 q => ?_⟩
      obtain ⟨T, x', y', rfl, hT0, rfl, f1, f2⟩ := q
      have e1 : x' = vx := Option.some.inj ((f1 xs k1).symm.trans hvx)
      have e2 : y' = vy := Option.some.inj ((f2 ys k3).symm.trans hvy)
      subst e1 e2
      exact ⟨W'.new T _, rfl, leS_new hT0, Dt.new upd_same (.cons (dp_le (leS_new hT0) (dp_same s rx0)) (.cons (dp_le (leS_new hT0) (dp_same s ry0)) .nil))⟩
    · rw [zipD_len, dpAll_len g2, dpAll_len g4]
      omega
theorem iv_zipL {ds es : List PyData} (ha : EvD K C ta Γ (.dat (.list ds))) (hb : EvD K C tb Γ (.dat (.list es))) : IvD K C (RZ.iZipA K (tCons ta (tCons tb tNil))) Γ (zipD ds es) .dat := fun σ0 W e0 R r =>
  ha σ0 W e0 _ fun v W1 s1 a => hb σ0 W1 (e0.le s1) _ fun w0 W2 s2 b => by
    obtain ⟨p, xs, rfl, g1, g2⟩ := dp_lst (dp_le s2 a)
    obtain ⟨p', ys, rfl, g3, g4⟩ := dp_lst b
    refine ⟨p, p', xs, ys, rfl, .inl ⟨W2.sub.seq g1, W2.sub.seq g3, r _ W2 (s1.trans s2) ⟨fun W' s i d hd0 => ?_, fun W' s => ⟨xs, ys, W'.sub.seq (s.seq g1), W'.sub.seq (s.seq g3), ?_⟩⟩⟩⟩
    · have k1 := W'.sub.seq (s.seq g1)
      have k3 := W'.sub.seq (s.seq g3)
      obtain ⟨x, y0, hx, hy, rfl⟩ := zipD_get hd0
      obtain ⟨vx, hvx, rx0⟩ := dpAll_get g2 hx
      obtain ⟨vy, hvy, ry0⟩ := dpAll_get g4 hy
      refine ⟨⟨xs, ys, vx, vy, k1, k3, hvx, hvy⟩, fun z H3 q => ?_⟩
      obtain ⟨T, x', y', rfl, hT0, rfl, f1, f2⟩ := q
      have e1 : x' = vx := Option.some.inj ((f1 xs k1).symm.trans hvx)
      have e2 : y' = vy := Option.some.inj ((f2 ys k3).symm.trans hvy)
      subst e1 e2
      exact ⟨W'.new T _, rfl, leS_new hT0, Dt.new upd_same (.cons (dp_le (leS_new hT0) (dp_same s rx0)) (.cons (dp_le (leS_new hT0) (dp_same s ry0)) .nil))⟩
    · rw [zipD_len, dpAll_len g2, dpAll_len g4]
      omega

/-! ### a comprehension -/
/-- what is one's own stays so -/
theorem le_nf {W W' : Wd} {p : Addr} {o o' : HO} (s : Le W W') (h : W.F p = none) (h2 : W.H p = some o) (h3 : W'.H p = some o') (nt : ∀ xs, o' ≠ .tup xs) : W'.F p = none := by
  cases q : W'.F p with
  | none => rfl
  | some x =>
    rcases s.nw _ _ q with z | z | ⟨xs, z⟩
    · rw [h] at z; cases z
    · rw [z] at h2; cases h2
    · have e0 := W'.sub _ _ q
      rw [h3] at e0
      exact absurd ((Option.some.inj e0).trans z) (nt xs)
theorem leS_nf {W W' : Wd} {p : Addr} {o : HO} (s : LeS W W') (h : W.F p = none) (h2 : W.H p = some o) (nt : ∀ xs, o ≠ .tup xs) : W'.F p = none := le_nf s.toLe h h2 (s.all _ _ h2) nt
theorem leS_own {W W' : Wd} {p : Addr} {o : HO} (s : LeS W W') (h : W'.F p = none) (h1 : W.H p = none) : LeS W (W'.own p o h) := ⟨s.toLe.trans (le_own h), fun b x e0 => by
  show upd W'.H p o b = some x
  rw [upd_ne (ne_of_none e0 h1)]
  exact s.all _ _ e0⟩
/-- what is one's own, fixed -/
def Wd.fix (W : Wd) (p : Addr) (o : HO) (h : W.H p = some o) : Wd := ⟨upd W.F p o, W.H, fun b x e0 => by
  by_cases q : b = p
  · subst q
    rw [upd_same] at e0
    rw [h]
    exact e0
  · rw [upd_ne q] at e0
    exact W.sub _ _ e0⟩
theorem same_fix {W : Wd} {p : Addr} {o : HO} {h : W.H p = some o} (hf : W.F p = none) : Same W.F (W.fix p o h).F := same_new hf
theorem leS_fix {W W' : Wd} {p : Addr} {o : HO} {h : W'.H p = some o} (s : LeS W W') (hf : W'.F p = none) (h1 : W.H p = none) : LeS W (W'.fix p o h) := ⟨⟨s.same.trans (same_fix hf), s.dom, fun b x e0 => by
  have e0 : upd W'.F p o b = some x := e0
  by_cases q : b = p
  · subst q
    exact .inr (.inl h1)
  · rw [upd_ne q] at e0
    exact s.nw _ _ e0⟩, s.all⟩
theorem ev_lc {α : Type} {wi : TI} {g : TG} {vs : List Nat} {as : List α} {ty : α → Ty} {p : α → Bool} {f : α → PyData} (hw : IvD K C wi Γ as ty) (hz : as.length ≤ 100000)
    (h : ∀ a ∈ as, ∃ Γ', TgD K C g vs (wipeG Γ vs) (ty a) Γ' ∧ EvB K C tt Γ' (p a) ∧ (p a = true → EvD K C te Γ' (.dat (f a)))) : EvD K C (tLc wi g tt te vs) Γ (.tl ((as.filter p).map f)) := fun σ0 W e0 Q q => by
  refine hw σ0 W e0 _ fun J W1 s1 it D hD => ?_
  have e1 := e0.le s1
  refine ⟨fun i m H2 => ∃ W2 : Wd, W2.H = H2 ∧ m = as.length - i ∧ i ≤ as.length ∧ LeS W1 W2 ∧ W2.F D = none ∧ ∃ xs, W2.H D = some (.lst xs) ∧ DtAll K W2.F xs (((as.take i).filter p).map f), ⟨as.length, W1.own D (.lst []) (wd_none hD), rfl, by simp, Nat.zero_le _, own_S hD, show W1.F D = none from wd_none hD, [], upd_same, .nil⟩, ?_⟩
  rintro i m _ ⟨W2, rfl, rfl, hi0, s2, hF, xs, hx, hd0⟩
  by_cases hlt : i < as.length
  · refine .inr ?_
    have ha : as[i]? = some as[i] := List.getElem?_eq_getElem hlt
    obtain ⟨g1, g2⟩ := it.go W2 s2.same i _ ha
    obtain ⟨Γ', h1, h2, h3⟩ := h as[i] (List.getElem_mem hlt)
    have tk0 : (as.take (i + 1)).filter p = (as.take i).filter p ++ (if p as[i] = true then [as[i]] else []) := by
      rw [List.take_add_one, ha]
      show (as.take i ++ [as[i]]).filter p = _
      rw [List.filter_append]
      congr 1
      by_cases hp0 : p as[i] = true
      · rw [if_pos hp0, List.filter_cons_of_pos hp0]
        rfl
      · rw [if_neg hp0, List.filter_cons_of_neg hp0]
        rfl
    refine ⟨g1, fun H' => ∃ W2 : Wd, W2.H = H' ∧ i + 1 ≤ as.length ∧ LeS W1 W2 ∧ W2.F D = none ∧ ∃ xs, W2.H D = some (.lst xs) ∧ DtAll K W2.F xs (((as.take (i + 1)).filter p).map f), fun H' ⟨W2, e0, k1, k2, k3⟩ => ⟨as.length - (i + 1), by omega, W2, e0, rfl, k1, k2, k3⟩, fun x H' y0 => ?_⟩
    obtain ⟨W3, rfl, s3, ax⟩ := g2 x H' y0
    have en : En K C W3.F (wipe σ0 vs) (wipeG Γ vs) := (e1.wipe vs).le (s2.trans s3)
    refine h1 _ W3 x en ax _ fun σ2 hw2 en2 => ⟨by rw [hw2, wipe_wipe], ?_⟩
    refine h2 σ2 W3 en2 _ fun W4 s4 => ?_
    have s24 := s3.trans s4
    cases hp0 : p as[i] with
    | false =>
      rw
          [if_neg Bool.false_ne_true]
      refine ⟨W4, rfl, hlt, s2.trans s24, leS_nf s24 hF hx (fun _ z => nomatch z), xs, s24.all _ _ hx, ?_⟩
      rw [tk0, hp0, if_neg Bool.false_ne_true, List.append_nil]
      exact dpAll_le s24 hd0
    | true =>
      rw [if_pos rfl]
      refine h3 hp0 σ2 W4 (en2.le s4) _ fun y0 W5 s5 ay => ?_
      have s25 := s24.trans s5
      have hx5 : W5.H D = some (.lst xs) := s25.all _ _ hx
      have hF5 : W5.F D = none := leS_nf s25 hF hx (fun _ z => nomatch z)
      have hlen : xs.length ≤ 100000 := by
        rw [dpAll_len hd0, List.length_map]
        exact Nat.le_trans (List.length_filter_le _ _) (Nat.le_trans (List.length_take_le' _ _) hz)
      refine ⟨xs, hx5, Nat.lt_of_le_of_lt hlen (by decide), W5.own D _ hF5, rfl, hlt, leS_own (s2.trans s25) hF5 hD, hF5, xs ++ [y0], upd_same, ?_⟩
      rw [tk0, hp0, if_pos rfl, List.map_append]
      exact dpAll_app (dpAll_le s25 hd0) (.cons ay .nil)
  · have ei : i = as.length := by omega
    subst ei
    rw [List.take_length] at hd0
    exact .inl ⟨it.stop W2 s2.same, q _ (W2.fix D _ hx) (s1.trans (leS_fix s2 hF hD)) ⟨D, xs, rfl, upd_same, dpAll_same (same_fix hF) hd0⟩⟩
theorem eb_yes : EvB K C tYes Γ true := fun σ0 W e0 Q q => q W (LeS.refl W)
/-- .. without a test -/
theorem ev_map {α : Type} {wi : TI} {g : TG} {vs : List Nat} {as : List α} {ty : α → Ty} {f : α → PyData} (hw : IvD K C wi Γ as ty) (hz : as.length ≤ 100000)
    (h : ∀ a ∈ as, ∃ Γ', TgD K C g vs (wipeG Γ vs) (ty a) Γ' ∧ EvD K C te Γ' (.dat (f a))) : EvD K C (tLc wi g tYes te vs) Γ (.tl (as.map f)) := by
  have z := ev_lc (tt := tYes) (te := te) (p := fun _ => true) (f := f) hw hz fun a ha => by
    obtain ⟨Γ', h1, h2⟩ := h a ha
    exact ⟨Γ', h1, eb_yes, fun _ => h2⟩
  rw [List.filter_eq_self.mpr (fun _ _ => rfl)] at z
  exact z
end

/-! ### statements -/
section
variable (K : PySem.W.Frag) (C : Addr)
def SD (ts : TS) (Γ : Ev) (N : Ev → Prop) (R : Ty → Prop) : Prop := ∀ (D : Ends) σ0 (W : Wd), En K C W.F σ0 Γ → (∀ Γ' σ' W', N Γ' → LeS W W' → En K C W'.F σ' Γ' → D.nx σ' W'.H) → (∀ t v W', R t → LeS W W' → At K C W'.F v t → D.rt v W'.H) → ts D σ0 W.H
end
abbrev NoR : Ty → Prop := fun _ => False
abbrev NoN : Ev → Prop := fun _ => False
section
variable {K : PySem.W.Frag} {C : Addr} {Γ : Ev} {t : Ty} {te ta tb : TE} {tt : TT} {u0 w0 : TS} {N M : Ev → Prop} {R : Ty → Prop}
theorem sd_next (h : N Γ) : SD K C tNext Γ N R := fun D σ0 W e0 n r => n Γ σ0 W h (LeS.refl W) e0
theorem sd_seq (h1 : SD K C u0 Γ M R) (h2 : ∀ Γ', M Γ' → SD K C w0 Γ' N R) : SD K C (tSeq u0 w0) Γ N R := fun D σ0 W e0 n r =>
  h1 { D with nx := w0 D } σ0 W e0 (fun Γ' σ' H' m s1 e1 => h2 Γ' m D σ' H' e1 (fun Γ2 σ2 W2 k s2 e2 => n Γ2 σ2 W2 k (s1.trans s2) e2) fun t v W2 k s2 a => r t v W2 k (s1.trans s2) a) r
/-- one way on -/
theorem sd_then {Γ' : Ev} (h1 : SD K C u0 Γ (· = Γ') R) (h2 : SD K C w0 Γ' N R) : SD K C (tSeq u0 w0) Γ N R := sd_seq h1 fun Γ2 e0 => by
  subst e0
  exact h2
theorem sd_set {i : Nat} (h : EvD K C te Γ t) : SD K C (tAsg te (gName i)) Γ (· = Γ.set i (some t)) R := fun D σ0 W e0 n r => h σ0 W e0 _ fun v W1 s1 a => n _ _ W1 rfl s1 ((e0.le s1).set a)
theorem sd_ret (h : EvD K C te Γ t) (hr : R t) : SD K C (tRet te) Γ N R := fun D σ0 W e0 n r => h σ0 W e0 _ fun v W1 s1 a => r t v W1 hr s1 a
theorem sd_drop (h : EvD K C te Γ t) : SD K C (tDrop te) Γ (· = Γ) R := fun D σ0 W e0 n r => h σ0 W e0 _ fun v W1 s1 a => n _ σ0 W1 rfl s1 (e0.le s1)
theorem sd_par {i j : Nat} {t1 t2 : Ty} (h1 : EvD K C ta Γ t1) (h2 : EvD K C tb Γ t2) : SD K C (tPar i j (tCons ta (tCons tb tNil))) Γ (· = (Γ.set i (some t1)).set j (some t2)) R := fun D σ0 W e0 n r =>
  h1 σ0 W e0 _ fun v W1 s1 a => h2 σ0 W1 (e0.le s1) _ fun w0 W2 s2 b => ⟨v, w0, rfl, n _ _ W2 rfl (s1.trans s2) (((e0.le (s1.trans s2)).set (at_le s2 a)).set b)⟩
/-- a, b = e1, e2 by way of a tuple (a name that is a cell) -/
theorem sd_parT {i j : Nat} {d1 d2 : PyData} (h : EvD K C te Γ (.dat (.tuple [d1, d2]))) : SD K C (tAsg te (gTup K 2 (gCons (gName i) (gCons (gName j) gNil)))) Γ (· = (Γ.set i (some (.dat d1))).set j (some (.dat d2))) R := fun D σ0 W e0 n r =>
  h σ0 W e0 _ fun v W1 s1 a => tg_pair (vs := [i, j]) (by simp) (by simp) σ0 W1 v (e0.le s1) a _ fun σ' _ e2 => n _ σ' W1 rfl s1 e2
theorem sd_if {b : Bool} (h : EvB K C tt Γ b) (h1 : b = true → SD K C u0 Γ N R) (h2 : b = false → SD K C w0 Γ N R) : SD K C (tIfS tt u0 w0) Γ N R := fun D σ0 W e0 n r => h σ0 W e0 _ fun W1 s1 => by
  cases b with
  | true =>
    show u0 D σ0 W1.H
    exact h1 rfl D σ0 W1 (e0.le s1) (fun Γ2 σ2 W2 k s2 e2 => n Γ2 σ2 W2 k (s1.trans s2) e2) fun t v W2 k s2 a => r t v W2 k (s1.trans s2) a
  | false =>
    show w0 D σ0 W1.H
    exact h2 rfl D σ0 W1 (e0.le s1) (fun Γ2 σ2 W2 k s2 e2 => n Γ2 σ2 W2 k (s1.trans s2) e2) fun t v W2 k s2 a => r t v W2 k (s1.trans s2) a
theorem sd_weak {N' : Ev → Prop} {R' : Ty → Prop} (h : SD K C u0 Γ N R) (hn : ∀ Γ', N Γ' → N' Γ') (hr : ∀ t, R t → R' t) : SD K C u0 Γ N' R' := fun D σ0 W e0 n r => h D σ0 W e0 (fun Γ' σ' H' k => n Γ' σ' H' (hn _ k)) fun t v H' k => r t v H' (hr _ k)
theorem sd_aug {i : Nat} {f : Int → Int → Int} {a b : Int} (hi0 : Γ[i]? = some (some (.dat (.int a)))) (h : EvD K C te Γ (.dat (.int b))) : SD K C (tAug i te (ipI f)) Γ (· = Γ.set i (some (.dat (.int (f a b))))) R := fun D σ0 W e0 n r => by
  obtain ⟨v, h1, h2⟩ := e0.at_ i _ hi0
  exact ⟨v, h1, h σ0 W e0 _ fun y0 W1 s1 ay => ⟨a, b, dp_int h2, dp_int ay, n _ _ W1 rfl s1 ((e0.le s1).set (Dt.int _))⟩⟩
/-- a loop: G holds by the turn -/
theorem sd_for {α : Type} {wi : TI} {g : TG} {tb : TS} {as : List α} {ty : α → Ty} (hw : IvD K C wi Γ as ty) (G : Nat → Ev → Prop) (h0 : G 0 Γ)
    (hs0 : ∀ i a Γi, as[i]? = some a → G i Γi → ∃ Γ' vs, TgD K C g vs Γi (ty a) Γ' ∧ SD K C tb Γ' (G (i + 1)) R) (hn : ∀ Γn, G as.length Γn → N Γn) : SD K C (tFor wi g tb) Γ N R := fun D σ0 W e0 n r =>
  hw σ0 W e0 _ fun J W1 s1 it => by
    refine ⟨fun i m σ2 H2 => ∃ W2 : Wd, W2.H = H2 ∧ m = as.length - i ∧ i ≤ as.length ∧ LeS W1 W2 ∧ ∃ Γi, G i Γi ∧ En K C W2.F σ2 Γi, ⟨as.length, W1, rfl, by simp, Nat.zero_le _, LeS.refl _, Γ, h0, e0.le s1⟩, ?_⟩
    rintro i m σ2 _ ⟨W2, rfl, rfl, hi0, s2, Γi, hG, e2⟩
    by_cases hlt : i < as.length
    · refine .inr ?_
      have ha : as[i]? = some as[i] := List.getElem?_eq_getElem hlt
      obtain ⟨g1, g2⟩ := it.go W2 s2.same i _ ha
      obtain ⟨Γ', vs, h1, h2⟩ := hs0 i as[i] Γi ha hG
      refine ⟨g1, fun σ' H' => ∃ W' : Wd, W'.H = H' ∧ i + 1 ≤ as.length ∧ LeS W1 W' ∧ ∃ Γi, G (i + 1) Γi ∧ En K C W'.F σ' Γi, fun σ' H' ⟨W', e0, k1, k2, k3⟩ => ⟨as.length - (i + 1), by omega, W', e0, rfl, k1, k2, k3⟩, fun x H' y0 => ?_⟩
      obtain ⟨W3, rfl, s3, ax⟩ := g2 x H' y0
      refine h1 σ2 W3 x (e2.le s3) ax _ fun σ3 _ e3 => ?_
      exact h2 _ σ3 W3 e3 (fun Γ4 σ4 W4 k s4 e4 => ⟨W4, rfl, hlt, (s2.trans s3).trans s4, Γ4, k, e4⟩) fun t v W4 k s4 a => r t v W4 k (((s1.trans s2).trans s3).trans s4) a
    · have ei : i = as.length := by omega
      subst ei
      exact .inl ⟨it.stop W2 s2.same, n Γi σ2 W2 (hn Γi hG) (s1.trans s2) e2⟩
/-- while: G by a measure -/
theorem sd_while {tb : TS} (G : Nat → Ev → Prop) (m0 : Nat) (h0 : G m0 Γ) (hs0 : ∀ m Γi, G m Γi → ∃ b, EvB K C tt Γi b ∧ (b = true → SD K C tb Γi (fun Γ' => ∃ m', m' < m ∧ G m' Γ') R) ∧ (b = false → N Γi)) : SD K C (tWhile tt tb) Γ N R := fun D σ0 W e0 n r => by
  refine ⟨fun m σ2 H2 => ∃ W2 : Wd, W2.H = H2 ∧ LeS W W2 ∧ ∃ Γi, G m Γi ∧ En K C W2.F σ2 Γi, ⟨m0, W, rfl, LeS.refl _, Γ, h0, e0⟩, ?_⟩
  rintro m σ2 _ ⟨W2, rfl, s2, Γi, hG, e2⟩
  obtain ⟨b, hb, h1, h2⟩ := hs0 m Γi hG
  refine hb σ2 W2 e2 _ fun W3 s3 => ?_
  cases b with
  | true =>
    rw [if_pos rfl]
    refine ⟨fun σ' H' => ∃ m', m' < m ∧ ∃ W' : Wd, W'.H = H' ∧ LeS W W' ∧ ∃ Γi, G m' Γi ∧ En K C W'.F σ' Γi, fun σ' H' q => q, ?_⟩
    exact h1 rfl _ σ2 W3 (e2.le s3) (fun Γ4 σ4 W4 ⟨m', hm, k⟩ s4 e4 => ⟨m', hm, W4, rfl, (s2.trans s3).trans s4, Γ4, k, e4⟩) fun t v W4 k s4 a => r t v W4 k ((s2.trans s3).trans s4) a
  | false =>
    rw
        [if_neg Bool.false_ne_true]
    exact n Γi σ2 W3 (h2 rfl) (s2.trans s3) (e2.le s3)
/-- a def's start: its0 parameters, the rest not assigned -/
def startG (n : Nat) (ts : List Ty) : Ev := ts.map some ++ List.replicate (n - ts.length) none
theorem en_start {H : Hp} {Ns : List Str} : ∀ {vs : List V} {ts : List Ty}, AtAll K C H vs ts → En K C H (L2.start Ns vs) (startG Ns.length ts) := fun {vs ts} a => by
  have hl0 := atAll_len a
  refine ⟨?_, fun i t h => ?_⟩
  · unfold L2.start startG
    rw [List.length_append, List.length_append, List.length_map, List.length_map, List.length_replicate, List.length_replicate, hl0]
  · unfold startG at h
    by_cases hi0 : i < ts.length
    · rw [List.getElem?_append_left (by simpa using hi0), List.getElem?_map] at h
      have key : ∀ {vs : List V} {ts : List Ty} {i : Nat}, AtAll K C H vs ts → ts[i]? = some t → ∃ v, vs[i]? = some v ∧ At K C H v t := by
        intro vs ts i a
        induction a generalizing i with
        | nil => intro h; simp at h
        | cons a1 _ ih =>
          intro h
          cases i with
          | zero =>
            simp at h
            subst h
            exact ⟨_, rfl, a1⟩
          | succ i =>
            obtain ⟨v, k1, k2⟩ := ih (i := i) (by simpa using h)
            exact ⟨v, by simpa using k1, k2⟩
      cases q : ts[i]? with
      | none => rw [q] at h; cases h
      | some t' =>
        rw [q] at h
        have e0 : t' = t := Option.some.inj (Option.some.inj h)
        subst e0
        obtain ⟨v, k1, k2⟩ := key a q
        refine ⟨v, ?_, k2⟩
        unfold L2.start
        rw [List.getElem?_append_left (by rw [List.length_map, hl0]; exact hi0), List.getElem?_map, k1]
        rfl
    · rw [List.getElem?_append_right (by simpa using hi0), List.getElem?_replicate] at h
      split at h <;> cases h
/-- a def's body by its0 reading over data -/
theorem sd_body {Ns : List Str} {ts : TS} {Rl : List Ty → Ty → Prop} {vs : List V} {H : Hp} {Q : VK} {E : XK} (h : FnD K C Rl vs H Q E) (hb : ∀ as t, Rl as t → SD K C ts (startG Ns.length as) (fun _ => t = .dat .none) (· = t)) : ts { nx := fun _ H' => Q .non H', rt := Q } (L2.start Ns vs) H := by
  obtain ⟨W, as, t, rfl, a, hr, q⟩ := h
  exact hb as t hr _ _ W (en_start a) (fun _ _ W' k s _ => by subst k; exact q .non W' s (show Dt K W'.F .non .none from Dt.non)) fun t' v W' k s b => by
    subst k
    exact q v W' s b
end
end Ly
/-! Pb: the text by places; what stands in the module; a def that is called. -/
namespace Lk
open PySem PySem.Spec PyProof.Rows L2 Ly

def topS (i : Nat) : Stmt := PySem.Challenge.pw_lookscan_k36_whole_waves_cannot_be_fewer.main.body.getD i (.Pass ⟨0, 0, 0, 0⟩)
def leafD : PyData := .tuple [.str "places"]
/-- what the top has left in the module: built-ins that are still what they were, constants -/
structure Tx (K : PySem.W.Frag) (mg : Str → Option Value) (aL : Addr) : Prop where
  n_len : mg "len" = none
  n_tuple : mg "tuple" = none
  n_list : mg "list" = none
  n_int : mg "int" = none
  n_bool : mg "bool" = none
  n_dict : mg "dict" = none
  n_str : mg "str" = none
  n_isinstance : mg "isinstance" = none
  n_all : mg "all" = none
  n_any : mg "any" = none
  n_sum : mg "sum" = none
  n_max : mg "max" = none
  n_min : mg "min" = none
  n_abs : mg "abs" = none
  n_sorted : mg "sorted" = none
  n_range : mg "range" = none
  n_zip : mg "zip" = none
  n_enumerate : mg "enumerate" = none
  c_MAX_LOOKS : ∃ t, mg "MAX_LOOKS" = some (.int 4 t)
  c_MAX_REACH : ∃ t, mg "MAX_REACH" = some (.int 9 t)
  c_MAX_DIRECTIONS : ∃ t, mg "MAX_DIRECTIONS" = some (.int 3 t)
  c_MAX_CLASSES : ∃ t, mg "MAX_CLASSES" = some (.int 12 t)
  c_MAX_CELLS : ∃ t, mg "MAX_CELLS" = some (.int 2000 t)
  c_MAX_DEPTH : ∃ t, mg "MAX_DEPTH" = some (.int 20 t)
  c_MAX_NODES : ∃ t, mg "MAX_NODES" = some (.int 200 t)
  c_LEAF : mg "LEAF" = some (.ref aL)
  leaf : ∀ H, Dt K H (.ref aL) leafD

/-- a def of the module, as its callers need it -/
def Cal (P : Program) (w : World) (K : PySem.W.Frag) (mg : Str → Option Value) (base : Heap) (k : Nat) (x : Str) (ps : List Str) (sp : Sp) : Prop :=
  ∃ f fd, mg x = some (.ref f) ∧ PySem.W.keepIn K (.ref f) = true ∧ Binds K fd ps [] ∧ FnOk P w K mg base CX0 k f fd ps sp

section
variable {X : Cx} {k : Nat} {x : Str} {ps : List Str} {sp : Sp} {p pos : Pos} {e : Expr} {es : List Expr} {t : TA}
theorem pe_cal (c : Cal X.prog X.w X.K X.mg X.base k x ps sp) (hr : Room k X.A) (ha : PA X (e :: es) t) (hg : Gl X x := by rfl) (hdb : (x == ("__debug__" : Str)) = false := by decide)
    (he : starEach (e :: es) X.env = (false, eval e X.env) :: starEach es X.env := by rfl) (hpl : (backTo pos (starEach es X.env)).any (·.1) = false := by rfl) : PE X (.Call (.Name x p) (e :: es) [] pos) (tCall sp [] E0 t) := by
  obtain ⟨f, fd, h1, h2, h3, h4⟩ := c
  exact pe_call h4 hr hg h1 h2 h3 .nil pass0 ha hdb he hpl
theorem pe_gi {i : Int} (h : ∃ t, X.mg x = some (.int i t)) (hg : Gl X x := by rfl) (hd : (x == ("__debug__" : Str)) = false := by decide) : PE X (.Name x pos) (tC (.int i)) := by
  obtain ⟨t, h⟩ := h
  exact pe_glob hg h ⟨t, rfl⟩ hd
/-- x *= e of ints, the name's value small -/
def ipMul : TIp := fun x y0 H Q => ∃ i j, x = .int i ∧ y0 = .int j ∧ CMul i j ∧ Q (.int (i * j)) H
theorem ip_mulU : PIp X .Mult ipMul := by
  intro pins0 s σ0 H x y0 v u0 Q I0 r1b r2b h
  obtain ⟨i, j, e1, e2, c, q⟩ := h
  exact iop_mul pins0 s σ0 H x y0 v u0 Q I0 r1b r2b ⟨i, j, e1, e2, c, q⟩
end
theorem hu65 {A : Around} {k : Nat} (hr : Room k A) : A.units + 65 < cLine := by
  have := hr.un
  omega
section
variable {P : Program} {w : World} {K : PySem.W.Frag} {mg : Str → Option Value} {base : Heap} {C : Addr}
/-- THE RULE for a def whose promise is told by data alone -/
theorem ok_of {x qual : Str} {st : Stmt} {f : Addr} {fd : FuncData} {N ps : List Str} {k : Nat} {R : List Ty → Ty → Prop} (F : Fun K x qual st f fd) (S : FnScope N ps (defScope st)) (hl : ∀ as t, R as t → as.length = ps.length)
    (hb : ∀ (cdv : Value) (A : Around) (outer : List Env) (s : Shared) (H : Hp) (E : XK), Room k (A.deeper (envOfC qual (defScope st) s.heap.objs.size f cdv)) →
      ∃ t, PSs (cxOf CX0 P w K mg base N qual (defScope st) f cdv A outer s H E).nox (defBody st) t ∧ ∀ as ty, R as ty → SD K C t (startG N.length as) (fun _ => ty = .dat .none) (· = ty)) : FnOk P w K mg base CX0 (k + 1) f fd ps (FnD K C R) := by
  refine F.ok S (fun vs H Q E h => ?_) (fun cdv A outer s H vs Q E hr h => ?_)
  · obtain ⟨_, ts, t, _, a, hr, _⟩ := h
    rw [atAll_len a]
    exact hl ts t hr
  · obtain ⟨t, h1, h2⟩ := hb cdv A outer s H E hr
    exact ⟨t, h1, sd_body h h2⟩
end
section
variable {K : PySem.W.Frag} {C : Addr} {Γ : Ev} {te ta tb tc : TE} {i j l : Int} {R : Ty → Prop}
theorem sd_augM {n : Nat} (hi : Γ[n]? = some (some (.dat (.int i)))) (h : EvD K C te Γ (.dat (.int j))) (hc : CMul i j) : SD K C (tAug n te ipMul) Γ (· = Γ.set n (some (.dat (.int (i * j))))) R := fun D σ0 W e nn r => by
  obtain ⟨v, h1, h2⟩ := e.at_ n _ hi
  exact ⟨v, h1, h σ0 W e _ fun y0 W1 s1 ay => ⟨i, j, dp_int h2, dp_int ay, hc, nn _ _ W1 rfl s1 ((e.le s1).set (t := .dat _) (Dt.int _))⟩⟩
/-- a <= b < c -/
theorem ev_leLt (ha : EvD K C ta Γ (.dat (.int i))) (hb : EvD K C tb Γ (.dat (.int j))) (hc : EvD K C tc Γ (.dat (.int l))) : EvD K C (tChain rLeI (rI0 fun i j => .bl (decide (i < j))) ta tb tc) Γ (.dat (.bool (decide (i ≤ j) && decide (j < l)))) :=
  ev_chain ha hb hc (fun x y0 W a b Q q => ⟨i, j, dp_int a, dp_int b, q W (LeS.refl W)⟩) fun _ x y0 W a b Q q => ⟨j, l, dp_int a, dp_int b, q W (LeS.refl W)⟩
theorem ev_leLe (ha : EvD K C ta Γ (.dat (.int i))) (hb : EvD K C tb Γ (.dat (.int j))) (hc : EvD K C tc Γ (.dat (.int l))) : EvD K C (tChain rLeI rLeI ta tb tc) Γ (.dat (.bool (decide (i ≤ j) && decide (j ≤ l)))) :=
  ev_chain ha hb hc (fun x y0 W a b Q q => ⟨i, j, dp_int a, dp_int b, q W (LeS.refl W)⟩) fun _ x y0 W a b Q q => ⟨j, l, dp_int a, dp_int b, q W (LeS.refl W)⟩
end
/-! ### the rules with the written part named (a block's reading must not speak of the block) -/
section
variable {X : Cx} (K : PySem.W.Frag)
theorem kAdd (h : X.K = K := by rfl) : OpR X (binaryOp .Add) (rAddU K) := h ▸ op_addU
theorem kMul (h : X.K = K := by rfl) : OpR X (binaryOp .Mult) (rMulU K) := h ▸ op_mulU
theorem kLt (hu : X.A.units < cLine) (h : X.K = K := by rfl) : OpR X (compareOp .Lt) (rLtU K) := h ▸ op_ltU hu
theorem kEq (hu : X.A.units + 64 < cLine) (h : X.K = K := by rfl) : OpR X (compareOp .Eq) (rEqD K) := h ▸ op_eqD hu
theorem kNe (hu : X.A.units + 64 < cLine) (h : X.K = K := by rfl) : OpR X (compareOp .NotEq) (rNeD K) := h ▸ op_neD hu
theorem kIn (hu : X.A.units + 65 < cLine) (h : X.K = K := by rfl) : OpR X (compareOp .In) (rInA K false) := h ▸ op_inA hu
theorem kNotIn (hu : X.A.units + 65 < cLine) (h : X.K = K := by rfl) : OpR X (compareOp .NotIn) (rInA K true) := h ▸ op_notInA hu
theorem kIx (h : X.K = K := by rfl) : IxR X (rIxU K) := h ▸ ix_U
theorem kSl (h : X.K = K := by rfl) : SlR X (rSlU K) := h ▸ sl_U
theorem kLen (h : X.K = K := by rfl) : CallR X (.builtin "len") (rLenU K) := h ▸ cr_len
theorem kList (h : X.K = K := by rfl) : CallR X (.type "list") (rListU K) := h ▸ cr_list
theorem kTuple (h : X.K = K := by rfl) : CallR X (.type "tuple") (rTupU K) := h ▸ cr_tuple
theorem kIsi (h : X.K = K := by rfl) : CallR X (.builtin "isinstance") (rIsi K) := h ▸ call_isi
theorem kAll (hc : X.calm = true) (h : X.K = K := by rfl) : CallR X (.builtin "all") (rAll K) := h ▸ cr_all hc
theorem kAny (hc : X.calm = true) (h : X.K = K := by rfl) : CallR X (.builtin "any") (rAny K) := h ▸ cr_any hc
theorem kSum (hc : X.calm = true) (h : X.K = K := by rfl) : CallR X (.builtin "sum") (rSum K) := h ▸ cr_sum hc
theorem kMax (hc : X.calm = true) (h : X.K = K := by rfl) : CallR X (.builtin "max") (rMax K) := h ▸ cr_max hc
theorem kSeq {tg e : Expr} {te : TE} (he : PE X e te) (h : X.K = K := by rfl) : PI X tg e (iSeqU K te) := h ▸ pi_U he
theorem kZip {e e2 : Expr} {ta : TA} {p pos tpos : Pos} {elts : List Expr} {kk : Nat} (hm : X.mg "zip" = none) (ha : PA X [e, e2] ta) (h : X.K = K := by rfl) (hg : Gl X "zip" := by rfl)
    (hs : starEach [e, e2] X.env = (false, eval e X.env) :: starEach [e2] X.env := by rfl) (hpl : (backTo pos (starEach [e2] X.env)).any (·.1) = false := by rfl) : PI X (.Tuple elts kk tpos) (.Call (.Name "zip" p) [e, e2] [] pos) (RZ.iZipA K ta) := h ▸ RZ.pi_zipA hg hm ha hs hpl
theorem kPair {a b : Expr} {kk : Nat} {pos : Pos} {t : TGs} (hc : X.calm = true) (hp : PGs X [a, b] t) (h : X.K = K := by rfl) (hn : (assignEach [a, b] X.env).length = 2 := by rfl) (hst : (assignEach [a, b] X.env).findIdx? (·.1) = none := by rfl) : PG X (.Tuple [a, b] kk pos) (gTup K 2 t) := h ▸ pg_tup hc hp hn hst
end
theorem ki_ii : kitB "int" "int" = some true := by decide +kernel
theorem ki_ib : kitB "int" "bool" = some false := by decide +kernel
theorem ki_it : kitB "int" "tuple" = some false := by decide +kernel
theorem ki_il : kitB "int" "list" = some false := by decide +kernel
theorem ki_id : kitB "int" "dict" = some false := by decide +kernel
theorem ki_is : kitB "int" "str" = some false := by decide +kernel
theorem ki_tt : kitB "tuple" "tuple" = some true := by decide +kernel
/-! ### walks over ints and pairs of ints; comprehensions by their target -/
abbrev dI (l : List Int) : Ty := .dat (pI l)
abbrev nI (n : Int) : Ty := .dat (.int n)
abbrev bI (b : Bool) : Ty := .dat (.bool b)
section
variable {K : PySem.W.Frag} {C : Addr} {Γ : Ev} {te ta tb : TE} {tt : TT}
theorem iv_of_map {α β : Type} {wi : TI} {as : List α} {g : α → β} {ty : β → Ty} (h : IvD K C wi Γ (as.map g) ty) : IvD K C wi Γ as (fun a => ty (g a)) := fun σ0 W e R r => h σ0 W e R fun J W' s it => r J W' s
  ⟨fun W2 s2 i a ha => it.go W2 s2 i (g a) (by rw [List.getElem?_map, ha]; rfl), fun W2 s2 => by
    have z := it.stop W2 s2
    rw [List.length_map] at z
    exact z⟩
theorem zipD_ints (l m : List Int) : zipD (l.map .int) (m.map .int) = (l.zip m).map fun p => .tuple [.int p.1, .int p.2] := by
  unfold zipD
  rw [List.zip_map, List.map_map]
  rfl
theorem iv_zipI {l m : List Int} (ha : EvD K C ta Γ (dI l)) (hb : EvD K C tb Γ (dI m)) : IvD K C (RZ.iZipA K (tCons ta (tCons tb tNil))) Γ (l.zip m) (fun p => .dat (.tuple [.int p.1, .int p.2])) := by
  have z := iv_zipT ha hb
  rw [zipD_ints] at z
  exact iv_of_map z
theorem iv_I {l : List Int} (h : EvD K C te Γ (dI l)) : IvD K C (iSeqU K te) Γ l (fun i => nI i) := iv_of_map (g := PyData.int) (ty := Ty.dat) (iv_T h)
/-- [e for i in ..] -/
theorem ev_mapN {α : Type} {wi : TI} {i : Nat} {vs : List Nat} {as : List α} {ty : α → Ty} {f : α → PyData} (hw : IvD K C wi Γ as ty) (hz : as.length ≤ 100000) (hi : i ∈ vs)
    (h : ∀ a ∈ as, EvD K C te ((wipeG Γ vs).set i (some (ty a))) (.dat (f a)) ∧ nol (f a) = true) : EvD K C (tLc wi (gName i) tYes te vs) Γ (.tl (as.map f)) :=
  ev_map hw hz fun a ha => ⟨_, tg_name hi, (h a ha).1⟩
/-- [e for i in .. if t] -/
theorem ev_lcN {α : Type} {wi : TI} {i : Nat} {vs : List Nat} {as : List α} {ty : α → Ty} {p : α → Bool} {f : α → PyData} (hw : IvD K C wi Γ as ty) (hz : as.length ≤ 100000) (hi : i ∈ vs)
    (h : ∀ a ∈ as, EvB K C tt ((wipeG Γ vs).set i (some (ty a))) (p a) ∧ (p a = true → EvD K C te ((wipeG Γ vs).set i (some (ty a))) (.dat (f a)) ∧ nol (f a) = true)) : EvD K C (tLc wi (gName i) tt te vs) Γ (.tl ((as.filter p).map f)) :=
  ev_lc hw hz fun a ha => ⟨_, tg_name hi, (h a ha).1, fun p => ((h a ha).2 p).1⟩
/-- [e for i, j in ..] -/
theorem ev_mapP {α : Type} {wi : TI} {i j : Nat} {vs : List Nat} {as : List α} {d1 d2 : α → PyData} {f : α → PyData} (hw : IvD K C wi Γ as (fun a => .dat (.tuple [d1 a, d2 a]))) (hz : as.length ≤ 100000) (hi : i ∈ vs) (hj : j ∈ vs)
    (h : ∀ a ∈ as, EvD K C te (((wipeG Γ vs).set i (some (.dat (d1 a)))).set j (some (.dat (d2 a)))) (.dat (f a)) ∧ nol (f a) = true) : EvD K C (tLc wi (gTup K 2 (gCons (gName i) (gCons (gName j) gNil))) tYes te vs) Γ (.tl (as.map f)) :=
  ev_map hw hz fun a ha => ⟨_, tg_pair hi hj, (h a ha).1⟩
theorem ev_lcP {α : Type} {wi : TI} {i j : Nat} {vs : List Nat} {as : List α} {d1 d2 : α → PyData} {p : α → Bool} {f : α → PyData} (hw : IvD K C wi Γ as (fun a => .dat (.tuple [d1 a, d2 a]))) (hz : as.length ≤ 100000) (hi : i ∈ vs) (hj : j ∈ vs)
    (h : ∀ a ∈ as, EvB K C tt (((wipeG Γ vs).set i (some (.dat (d1 a)))).set j (some (.dat (d2 a)))) (p a) ∧ (p a = true → EvD K C te (((wipeG Γ vs).set i (some (.dat (d1 a)))).set j (some (.dat (d2 a)))) (.dat (f a)) ∧ nol (f a) = true)) :
    EvD K C (tLc wi (gTup K 2 (gCons (gName i) (gCons (gName j) gNil))) tt te vs) Γ (.tl ((as.filter p).map f)) :=
  ev_lc hw hz fun a ha => ⟨_, tg_pair hi hj, (h a ha).1, fun p => ((h a ha).2 p).1⟩
/-- .. with no word of lists -/
theorem ev_mapN0 {α : Type} {wi : TI} {i : Nat} {vs : List Nat} {as : List α} {ty : α → Ty} {f : α → PyData} (hw : IvD K C wi Γ as ty) (hz : as.length ≤ 100000) (hi : i ∈ vs)
    (h : ∀ a ∈ as, EvD K C te ((wipeG Γ vs).set i (some (ty a))) (.dat (f a))) : EvD K C (tLc wi (gName i) tYes te vs) Γ (.tl (as.map f)) :=
  ev_map hw hz fun a ha => ⟨_, tg_name hi, h a ha⟩
theorem ev_lcN0 {α : Type} {wi : TI} {i : Nat} {vs : List Nat} {as : List α} {ty : α → Ty} {p : α → Bool} {f : α → PyData} (hw : IvD K C wi Γ as ty) (hz : as.length ≤ 100000) (hi : i ∈ vs)
    (h : ∀ a ∈ as, EvB K C tt ((wipeG Γ vs).set i (some (ty a))) (p a) ∧ (p a = true → EvD K C te ((wipeG Γ vs).set i (some (ty a))) (.dat (f a)))) : EvD K C (tLc wi (gName i) tt te vs) Γ (.tl ((as.filter p).map f)) :=
  ev_lc hw hz fun a ha => ⟨_, tg_name hi, (h a ha).1, (h a ha).2⟩
theorem ev_mapP0 {α : Type} {wi : TI} {i j : Nat} {vs : List Nat} {as : List α} {d1 d2 : α → PyData} {f : α → PyData} (hw : IvD K C wi Γ as (fun a => .dat (.tuple [d1 a, d2 a]))) (hz : as.length ≤ 100000) (hi : i ∈ vs) (hj : j ∈ vs)
    (h : ∀ a ∈ as, EvD K C te (((wipeG Γ vs).set i (some (.dat (d1 a)))).set j (some (.dat (d2 a)))) (.dat (f a))) : EvD K C (tLc wi (gTup K 2 (gCons (gName i) (gCons (gName j) gNil))) tYes te vs) Γ (.tl (as.map f)) :=
  ev_map hw hz fun a ha => ⟨_, tg_pair hi hj, h a ha⟩
theorem ev_lcP0 {α : Type} {wi : TI} {i j : Nat} {vs : List Nat} {as : List α} {d1 d2 : α → PyData} {p : α → Bool} {f : α → PyData} (hw : IvD K C wi Γ as (fun a => .dat (.tuple [d1 a, d2 a]))) (hz : as.length ≤ 100000) (hi : i ∈ vs) (hj : j ∈ vs)
    (h : ∀ a ∈ as, EvB K C tt (((wipeG Γ vs).set i (some (.dat (d1 a)))).set j (some (.dat (d2 a)))) (p a) ∧ (p a = true → EvD K C te (((wipeG Γ vs).set i (some (.dat (d1 a)))).set j (some (.dat (d2 a)))) (.dat (f a)))) :
    EvD K C (tLc wi (gTup K 2 (gCons (gName i) (gCons (gName j) gNil))) tt te vs) Γ (.tl ((as.filter p).map f)) :=
  ev_lc hw hz fun a ha => ⟨_, tg_pair hi hj, (h a ha).1, (h a ha).2⟩
end
theorem map_zip {α β γ δ : Type} (g : α → β → γ) (k : γ → δ) : ∀ (l : List α) (m : List β), ((l.zip m).map fun p => k (g p.1 p.2)) = (List.zipWith g l m).map k
  | [], _ => rfl
  | _ :: _, [] => rfl
  | a :: l, b :: m => congrArg (k (g a b) :: ·) (map_zip g k l m)
theorem zip_len {α β : Type} (l : List α) (m : List β) {n : Nat} (h : l.length ≤ n) : (l.zip m).length ≤ n := by
  rw [List.length_zip]
  exact Nat.le_trans (Nat.min_le_left _ _) h
end Lk
/-! Pe: enumerate over a tuple, over a list. -/
namespace PySem
open Sem (wp)
set_option maxHeartbeats 2000001 in
theorem meets_enumerate_newB0 {v : Value} {o : Obj} {H : Heap → Prop} (B : Begins v o H) :
    Meets (Builtin.«enumerate.__new__» ⟨[.type "enumerate", v], []⟩) (fun _ R s => H s.heap ∧
      R (.ok (.ret (.ref (s.heap.push o).objs.size))) { s with heap := (s.heap.push o).push { cls := .type "enumerate", data := .fields #[.none, .bool false, .ref s.heap.objs.size, rawInt 0, .none, .none] } }) :=
  .of_wp fun prog0 w0 A R s h => by
    obtain ⟨hp0, g, d, tk0, os0⟩ := s; obtain ⟨h1b, h⟩ := h
    have hsub := sub_enumerate
    have q1b : ∀ {Ab : Around} {E0 : Value → Shared → Prop} {Q : Value → Shared → Prop}, Q (.ref hp0.objs.size) ⟨hp0.push o, g, d, tk0, os0⟩ → wpAny (model prog0 w0) Ab (pyIter v) Q E0 ⟨hp0, g, d, tk0, os0⟩ :=
      fun q => B.iter prog0 w0 _ _ ⟨hp0, g, d, tk0, os0⟩ _ h1b q
    wp_walk using q1b
    refine
        wpAny_stack_any fun st => wpAny_pure ?_
    split
    · rename_i c0 _ _ _ _ _
      cases (c0 == Value.type "enumerate")
      · wp_walk using q1b
        exact ⟨_, rfl, h⟩
      · wp_walk using q1b
        exact ⟨_, rfl, h⟩
    · wp_walk using q1b
      exact ⟨_, rfl, h⟩
section
variable {prog0 : Program} {w0 : World} {A : Around} {E0 : Value → Shared → Prop} {s : Shared}
theorem enum_begins0 {v : Value} {o : Obj} {H : Heap → Prop} {Q : Value → Shared → Prop} (B : Begins v o H) (h1b : H s.heap)
    (h : ∀ hbb, IsEnum hbb (s.heap.objs.size + 1) s.heap.objs.size 0 .none → hbb.get? s.heap.objs.size = some o → hbb.objs.size = s.heap.objs.size + 2 →
      (∀ b o, s.heap.get? b = some o → hbb.get? b = some o) → Q (.ref (s.heap.objs.size + 1)) { s with heap := hbb }) :
    wpAny (model prog0 w0) A (call (.type "enumerate") [v]) Q E0 s := by
  refine
      callType_new F.called_enumerate (by decide) (F.typeCall_enumerate_1 _) (F.newCall_enumerate_1 _) (fun obj => F.args_object_init_2 obj _) F.entry_enumerate_new
    (meets_enumerate_newB0 B) ⟨h1b, ?_⟩
  have hz :
      (s.heap.push o).objs.size = s.heap.objs.size + 1 := Heap.size_push ..
  show _ ∧ _
  rw [hz]
  have he0 : IsEnum ((s.heap.push o).push { cls := .type "enumerate", data := .fields #[.none, .bool false, .ref s.heap.objs.size, rawInt 0, .none, .none] }) (s.heap.objs.size + 1) s.heap.objs.size 0 .none := by
    have := Heap.get?_push_size (s.heap.push o) (o := { cls := .type "enumerate", data := .fields #[.none, .bool false, .ref s.heap.objs.size, rawInt 0, .none, .none] }) rfl
    rw [hz] at this; exact this
  refine ⟨⟨_, he0, rfl⟩, h _ he0 (Heap.get?_push_of_some _ (Heap.get?_push_size _ B.free)) (by rw [Heap.size_push, hz]) fun b o x => Heap.get?_push_of_some _ (Heap.get?_push_of_some _ x)⟩
end
end PySem
namespace Ly
open PySem PySem.Spec
open PyProof.Rows L2
/-- the tuple at a, each item in a new0 pair -/
def IteT (K : PySem.W.Frag) (a : Addr) : It :=
  ⟨fun i H => ∃ (xs : List V) (x : V), SqT K H a xs ∧ xs[i]? = some x, fun i H v H' => ∃ T x, v = .ref T ∧ H T = none ∧ H' = upd H T (.tup [.int (i : Nat), x]) ∧ ∀ xs, SqT K H a xs → xs[i]? = some x, fun i H => ∃ xs : List V, SqT K H a xs ∧ xs.length ≤ i⟩
theorem turn_enumT {P : Program} {w0 : World} {K : PySem.W.Frag} {elts : List Expr} {kk : Nat} {tpos : Pos} (a e0 it0 : Addr) :
    Turn P w0 K (.Tuple elts kk tpos) (IteT K a) [e0, it0] e0 (fun i h => (∃ old0, IsEnum h e0 it0 ((i : Nat) : Int) old0) ∧ h.IsTupleIter it0 a i ∧ e0 ≠ it0 ∧ a ≠ it0 ∧ e0 ≠ a) where
  mem := by simp
  obj := fun i h st b hb0 => by
    obtain ⟨⟨old0, he0⟩, ⟨o, ho0, hc0, hd0⟩, _⟩ := st
    have ebb : b = e0 ∨ b = it0 := by simpa using hb0
    rcases ebb with z0 | z0
    · rw [z0]; exact ⟨_, he0, fun v q => nomatch q⟩
    · rw [z0]; exact ⟨o, ho0, fun v q => by rw [hd0] at q; cases q⟩
  keep := fun i h hbb st k => let ⟨⟨old0, he0⟩, hi0, hne0⟩ := st; ⟨⟨old0, k e0 (by simp) _ he0⟩, hi0.at fun o q => k it0 (by simp) o q, hne0⟩
  item := by
    intro X hP0 hw0 hK0 hc0 i pins0 s σ0 H E0 I0 hf0 st hg0
    subst hP0 hw0 hK0
    obtain ⟨⟨old0, he0⟩, hit0, hne0, hai, hea⟩ := st
    obtain ⟨xs, x, hq0, hx0⟩ := hg0
    obtain ⟨its0, rv0, p, hz⟩ := I0.tuple hq0
    obtain ⟨u0, hu0, ru0⟩ := rv0.get hx0
    have hel0 : e0 < s.heap.objs.size := Heap.lt_size he0
    have hil0 : it0 < s.heap.objs.size := by obtain ⟨_, q, _⟩ := hit0; exact Heap.lt_size q
    have hlt : i < its0.toArray.size := by
      rw [List.size_toArray]
      exact (List.getElem?_eq_some_iff.mp hu0).1
    refine wpAny_pyNext_enum_itemD (Draws.tuple (show (X.A.in1).handled = none from I0.ok.hd hc0) it0 a hai its0.toArray) he0 ⟨hit0, show s.heap.IsTuple a its0.toArray from p⟩ hlt hne0 (by simp [hne0, hea]) fun x' hbb tk0 hxx ho0 hst' hT hsz hk0 => ?_
    obtain ⟨hit', _⟩ := hst'
    have ex0 : x' = u0 := by
      have z0 : its0[i]? = some x' := by simpa using hxx
      rw [hu0] at z0
      exact (Option.some.inj z0).symm
    subst ex0
    refine ⟨_, rfl, wpAny_letOwnedTupleGo_enum (s := { s with heap := hbb, toks := tk0 + 1 }) ho0 fun h'' he' sb0 => ?_⟩
    have hT2 : h''.get? s.heap.objs.size = some { cls := .type "tuple", data := .seq #[.int i tk0, x'] } := (sb0.2 _ (Nat.ne_of_gt hel0)).trans hT
    have new0 : ObjOk X.prog X.w (upd H s.heap.objs.size (.tup [.int (i : Nat), x])) h'' s.heap.objs.size (.tup [.int (i : Nat), x]) :=
      ⟨by show 2 ≤ sizeLine; decide, [.int i tk0, x'], .cons ⟨_, rfl⟩ (.cons ru0 .nil), ⟨_, hT2, rfl, _, rfl⟩⟩
    have I1b : Inv X pins0 σ0 (upd H s.heap.objs.size (.tup [.int (i : Nat), x])) { s with heap := h'', toks := tk0 + 1 } :=
      I0.turnedNew (ch := [e0, it0]) (fun b ob0 hb0 q => (sb0.2 b (fun z0 => hb0 (by simp [z0]))).trans (hk0 b ob0 (fun z0 => hb0 (by simp [z0])) (fun z0 => hb0 (by simp [z0])) q)) hf0 (Nat.le_refl _) new0
    refine ⟨.ref s.heap.objs.size, _, I1b, rfl, ⟨_, x, rfl, I0.hok.fresh (Nat.le_refl _), rfl, fun ys hy => by rw [I0.tuple_inj hy hq0]; exact hx0⟩, ⟨⟨x', ?_⟩, hit'.at fun o q => (sb0.2 it0 (Ne.symm hne0)).trans q, hne0, hai, hea⟩, fun b hb0 => ?_⟩
    · have e1b : ((i + 1 : Nat) : Int) = (i : Int) + 1 := by omega
      rw [e1b]; exact he'
    · have hbbb : b < s.heap.objs.size := by
        have ebb : b = e0 ∨ b = it0 := by simpa using hb0
        rcases ebb with z0 | z0
        · rw [z0]; exact hel0
        · rw [z0]; exact hil0
      rw [upd_ne (Nat.ne_of_lt hbbb)]
      exact (hf0 b hb0).1
  done := by
    intro X hP0 hw0 hK0 hc0 i pins0 s σ0 H E0 I0 hf0 st hg0
    subst hP0 hw0 hK0
    obtain ⟨⟨old0, he0⟩, hit0, hne0, hai, hea⟩ := st
    obtain ⟨xs, hq0, hx0⟩ := hg0
    obtain ⟨its0, rv0, p, hz⟩ := I0.tuple hq0
    obtain ⟨f0b, f1b, f2b, f3b, f4b, f5b⟩ := hf0 it0 (by simp)
    have hl := rv0.length
    unfold pyNext
    refine wpAny_bind (wpAny_attempt (wpAny_callSpecial?_slot (name := Str.ofString "__next__") (show s.TypeIs (.ref e0) "enumerate" from ⟨_, he0, rfl⟩) F.slot_enumerate_next
      (wpAny_call_entry F.slot_enumerate_next ⟨_, he0, rfl⟩ F.entry_enumerate_next ?_ (F.args_enumerate_next_1 _))))
    show wpAny _ _ (field (.ref e0) 2 >>= _) _ _ _
    refine wpAny_bind (wpAny_field he0 rfl (x := .ref it0) rfl ?_)
    refine wpAny_bind (wpAny_nextOf_tuple_end (I0.ok.hd hc0) hit0 (show s.heap.IsTuple a its0.toArray from p) (by simp; omega) fun hbb x eb hx' => ?_)
    obtain ⟨o, ho0, hcl⟩ := hx'
    refine wpAny_bind (wpAny_isInstance (T := "StopIteration") (b := true) ⟨o, ho0, hcl⟩ isSubtype_stop ?_)
    exact wpAny_pure ⟨rfl, I0.turned (t' := s.toks) (fun b o hb0 q => eb b o hb0 q) f0b f1b f3b f4b f5b⟩
  self := fun A i s Q E0 st h => let ⟨⟨_, he0⟩, _⟩ := st; wpAny_pyIter_enum he0 h
def iEnT (K : PySem.W.Frag) (ta : TA) : TI := fun σ0 H R => ta σ0 H fun vs H1b => ∃ a xs, vs = [.ref a] ∧ SqT K H1b a xs ∧ R (IteT K a) H1b
theorem pi_enumT {X : Cx} {e0 : Expr} {ta : TA} {p pos0 tpos : Pos} {elts : List Expr} {kk : Nat} (hg0 : Gl X "enumerate") (hm0 : X.mg "enumerate" = none) (ha0 : PA X [e0] ta) (hs0 : starEach [e0] X.env = [(false, eval e0 X.env)] := by rfl) :
    PI X (.Tuple elts kk tpos) (.Call (.Name "enumerate" p) [e0] [] pos0) (iEnT X.K ta) := by
  refine ⟨fun pins0 s σ0 H R I0 h => ?_⟩
  refine Call_ (ld_blt I0 hg0 hm0 boot_enumerate (PyProof.Rows.callWith_type1 (thn (ha0.run pos0 pins0 s σ0 H _ I0 h) fun us0 s1 ⟨vs, H1b, I1b, r1b, q1b⟩ => ?_) hs0 rfl))
  obtain ⟨a, xs, ex0, hq0, q⟩ := q1b
  subst ex0
  cases r1b with
  | cons r rr =>
    cases rr
    cases r
    obtain ⟨its0, rv0, p', hz⟩ := I1b.tuple hq0
    have hal : a < s1.heap.objs.size := by
      obtain ⟨o, ho0, _⟩ := id p'
      exact Heap.lt_size ho0
    refine enum_begins0 (begins_tuple a its0.toArray) (show s1.heap.IsTuple a its0.toArray from p') fun hbb he0 hit0 hsz hk0 => wpAny_pyIter_enum he0 ?_
    have I2b : Inv X pins0 σ0 H1b { s1 with heap := hbb } := I1b.kept (t' := s1.toks) hk0
    refine ⟨s1.heap.objs.size + 1, [s1.heap.objs.size + 1, s1.heap.objs.size], _, _, H1b, rfl, I2b, turn_enumT a (s1.heap.objs.size + 1) s1.heap.objs.size, ⟨⟨.none, he0⟩, ⟨_, hit0, rfl, rfl⟩, Nat.succ_ne_self _, Nat.ne_of_lt hal, ?_⟩, fun b hb0 => ?_, q⟩
    · have : a < s1.heap.objs.size := hal
      exact fun z0 => by
        rw [← z0] at this
        exact absurd this (Nat.not_lt_of_le (Nat.le_succ _))
    · have ebb : b = s1.heap.objs.size + 1 ∨ b = s1.heap.objs.size := by simpa using hb0
      have hle0 : s1.heap.objs.size ≤ b := by
        rcases ebb with z0 | z0
        · rw [z0]; exact Nat.le_add_right _ _
        · rw [z0]; exact Nat.le_refl _
      exact I1b.fpOk hle0 (I1b.hok.fresh hle0)
/-- enumerate of a list or a tuple -/
def iEnU (K : PySem.W.Frag) (ta : TA) : TI := fun σ0 H R => iEnum K ta σ0 H R ∨ iEnT K ta σ0 H R
theorem pi_enU {X : Cx} {e0 : Expr} {ta : TA} {p pos0 tpos : Pos} {elts : List Expr} {kk : Nat} (hg0 : Gl X "enumerate") (hm0 : X.mg "enumerate" = none) (ha0 : PA X [e0] ta) (hs0 : starEach [e0] X.env = [(false, eval e0 X.env)] := by rfl) :
    PI X (.Tuple elts kk tpos) (.Call (.Name "enumerate" p) [e0] [] pos0) (iEnU X.K ta) := ⟨fun pins0 s σ0 H R I0 q => by
  rcases q with q | q
  · exact (pi_enum hg0 hm0 ha0 hs0).run pins0 s σ0 H R I0 q
  · exact (pi_enumT hg0 hm0 ha0 hs0).run pins0 s σ0 H R I0 q⟩
theorem kEnum {X : Cx} (K : PySem.W.Frag) {e0 : Expr} {ta : TA} {p pos0 tpos : Pos} {elts : List Expr} {kk : Nat} (hm0 : X.mg "enumerate" = none) (ha0 : PA X [e0] ta) (h : X.K = K := by rfl) (hg0 : Gl X "enumerate" := by rfl) (hs0 : starEach [e0] X.env = [(false, eval e0 X.env)] := by rfl) :
    PI X (.Tuple elts kk tpos) (.Call (.Name "enumerate" p) [e0] [] pos0) (iEnU K ta) := h ▸ pi_enU hg0 hm0 ha0 hs0
/-- number and item -/
def enD (ds : List PyData) : List PyData := ds.zipIdx.map fun p => .tuple [.int (p.2 : Nat), p.1]
theorem enD_get {ds : List PyData} {i : Nat} {d : PyData} (h : (enD ds)[i]? = some d) : ∃ x, ds[i]? = some x ∧ d = .tuple [.int (i : Nat), x] := by
  unfold enD at h
  rw [List.getElem?_map, List.getElem?_zipIdx] at h
  cases q : ds[i]? with
  | none => rw [q] at h; cases h
  | some x =>
    rw [q] at h
    refine ⟨x, rfl, ?_⟩
    have z0 := (Option.some.inj h).symm
    simpa using z0
theorem enD_len {ds : List PyData} : (enD ds).length = ds.length := by
  unfold enD
  rw [List.length_map, List.length_zipIdx]
section
variable {K : PySem.W.Frag} {C : Addr} {Γ : Ev} {te : TE}
theorem iv_enT {ds : List PyData} (h : EvD K C te Γ (.dat (.tuple ds))) : IvD K C (iEnU K (tCons te tNil)) Γ (enD ds) .dat := fun σ0 W e0 R r => .inr (h σ0 W e0 _ fun v W1 s1 a => by
  obtain ⟨p, xs, rfl, g1, g2⟩ := dp_tup a
  refine ⟨p, xs, rfl, sqT_same W1.sub g1, r _ W1 s1 ⟨fun W' s i d hd0 => ?_, fun W' s => ⟨xs, sqT_same W'.sub (sqT_same s g1), by rw [dpAll_len g2, enD_len]; exact Nat.le_refl _⟩⟩⟩
  have k1 := sqT_same W'.sub (sqT_same s g1)
  obtain ⟨x, hx0, rfl⟩ := enD_get hd0
  obtain ⟨vx, hvx, rx⟩ := dpAll_get g2 hx0
  refine ⟨⟨xs, vx, k1, hvx⟩, fun z0 H3 q => ?_⟩
  obtain ⟨T, x', rfl, hT, rfl, f1b⟩ := q
  have e1b : x' = vx := Option.some.inj ((f1b xs k1).symm.trans hvx)
  subst e1b
  exact ⟨W'.new T _, rfl, leS_new hT, Dt.new upd_same (.cons (Dt.int _) (.cons (dp_le (leS_new hT) (dp_same s rx)) .nil))⟩)
theorem iv_enL {ds : List PyData} (h : EvD K C te Γ (.dat (.list ds))) : IvD K C (iEnU K (tCons te tNil)) Γ (enD ds) .dat := fun σ0 W e0 R r => .inl (h σ0 W e0 _ fun v W1 s1 a => by
  obtain ⟨p, xs, rfl, g1, g2⟩ := dp_lst a
  refine ⟨p, xs, rfl, W1.sub.seq g1, r _ W1 s1 ⟨fun W' s i d hd0 => ?_, fun W' s => ⟨xs, W'.sub.seq (s.seq g1), by rw [dpAll_len g2, enD_len]; exact Nat.le_refl _⟩⟩⟩
  have k1 := W'.sub.seq (s.seq g1)
  obtain ⟨x, hx0, rfl⟩ := enD_get hd0
  obtain ⟨vx, hvx, rx⟩ := dpAll_get g2 hx0
  refine ⟨⟨xs, vx, k1, hvx⟩, fun z0 H3 q => ?_⟩
  obtain ⟨T, x', rfl, hT, rfl, f1b⟩ := q
  have e1b : x' = vx := Option.some.inj ((f1b xs k1).symm.trans hvx)
  subst e1b
  exact ⟨W'.new T _, rfl, leS_new hT, Dt.new upd_same (.cons (Dt.int _) (.cons (dp_le (leS_new hT) (dp_same s rx)) .nil))⟩)
/-- over what is told by a function of the items of as -/
theorem iv_enM {α : Type} {as : List α} {f : α → PyData} (h : EvD K C te Γ (.dat (.tuple (as.map f))) ∨ EvD K C te Γ (.dat (.list (as.map f)))) : IvD K C (iEnU K (tCons te tNil)) Γ as.zipIdx (fun p => .dat (.tuple [.int (p.2 : Nat), f p.1])) := by
  have e0 : enD (as.map f) = as.zipIdx.map fun p => .tuple [.int (p.2 : Nat), f p.1] := by
    unfold enD
    rw [List.zipIdx_map, List.map_map]
    rfl
  rcases h with h | h
  · have z0 := iv_enT h
    rw [e0] at z0
    exact Lk.iv_of_map z0
  · have z0 := iv_enL h
    rw [e0] at z0
    exact Lk.iv_of_map z0
end
end Ly
/-! So: sorted of a list, a tuple, a dict with tuple keys: the items alike data, any number of them. -/
namespace Ly
open PySem PySem.Spec
open PyProof.Rows L2

/-- what sorted walks -/
inductive SrtSrc (K : PySem.W.Frag) (B H : Hp) (a : Addr) : List PyData → Prop
  | lst {xs : List V} {ds : List PyData} : SqL K H a xs → DtAll K B xs ds → SrtSrc K B H a ds
  | tup {xs : List V} {ds : List PyData} : SqT K H a xs → DtAll K B xs ds → SrtSrc K B H a ds
  | dic {kvs : List (List Key × V)} {ks0 : List (List Int)} : H a = some (.dT kvs) → kvs.map (·.1) = ks0.map kI → (∀ b xs, H b = some (.tup xs) → B b = some (.tup xs)) → SrtSrc K B H a (ks0.map fun k => .tuple (k.map .int))
def srtd (ds : List PyData) : List PyData := ds.mergeSort (PySem.W.dataLe false fun d => d)
def rSortU (K : PySem.W.Frag) : List V → Hp → VK → Prop := fun vs H Q => ∃ a ds B, vs = [.ref a] ∧ Same B H ∧ SrtSrc K B H a ds ∧ PySem.W.AllAlike ds ∧ PySem.W.Sortable ds ∧ ds.length ≤ 100000 ∧ (∀ d ∈ ds, d.depth ≤ 60) ∧
  ∀ p ys, H p = none → DtAll K B ys (srtd ds) → Q (.ref p) (upd H p (.lst ys))
section
variable {X : Cx} {pins0 : List (Addr × Obj)} {σ0 : L2.St} {H : Hp} {s : Shared}
/-- a value and its data -/
def VD (K : PySem.W.Frag) (B : Hp) (v : Value) (d : PyData) : Prop := ∃ x, RelV x v ∧ Dt K B x d
theorem each_vd {K : PySem.W.Frag} {H : Hp} : ∀ {xs : List V} {us0 : List Value} {ds : List PyData}, Vals xs us0 → DtAll K H xs ds → PySem.W.EachIs (VD K H) us0 ds
  | _, _, _, .nil, .nil => .nil
  | _, _, _, .cons r t, .cons d e0 => .cons ⟨_, r, d⟩ (each_vd t e0)
theorem vd_each {K : PySem.W.Frag} {H : Hp} : ∀ {us0 : List Value} {ds : List PyData}, PySem.W.EachIs (VD K H) us0 ds → ∃ xs, Vals xs us0 ∧ DtAll K H xs ds
  | _, _, .nil => ⟨[], .nil, .nil⟩
  | _, _, .cons ⟨x, r, d⟩ t => by
    obtain ⟨xs, h1b, h2⟩ := vd_each t
    exact ⟨x :: xs, .cons r h1b, .cons d h2⟩
theorem isKeys_each {K : PySem.W.Frag} {B : Hp} (hB : ∀ b xs, H b = some (.tup xs) → B b = some (.tup xs)) : ∀ {kvs : List (List Key × V)} {bs : List Addr} {ks0 : List (List Int)}, IsKeys H kvs bs → kvs.map (·.1) = ks0.map kI → DtAll K B (bs.map V.ref) (ks0.map fun k => .tuple (k.map .int))
  | _, _, [], h, e0 => by
    cases h with
    | nil => exact .nil
    | cons h t => simp at e0
  | _, _, k :: ks0, h, e0 => by
    cases h with
    | nil => simp at e0
    | cons h t =>
      simp only [List.map_cons, List.cons.injEq] at e0
      refine .cons (Dt.new (hB _ _ h) ?_) (isKeys_each hB t e0.2)
      rw [e0.1]
      unfold kI
      rw [List.map_map]
      exact dpAll_of_ints k
theorem dict_keys (I0 : Inv X pins0 σ0 H s) {a : Addr} {kvs : List (List Key × V)} (hd : H a = some (.dT kvs)) : ∃ (n : Nat) (P : Nat → Value → Prop) (OK : Heap → Prop), PySem.W.KdlSrc X.prog X.w "dict" a a n P OK ∧ OK s.heap ∧ n = kvs.length ∧ n ≤ sizeLine ∧
    ∃ bs : List Addr, IsKeys H kvs bs ∧ bs.length = n ∧ ∀ acc : Array Value, ItemsOf P acc n → acc.toList = bs.map Value.ref := by
  obtain ⟨z, hs, ks0, pr0, o, es0, ep, ho, hx, hdt, he0, hn⟩ := (show ObjOk X.prog X.w H s.heap a (.dT kvs) from I0.hok a _ hd)
  have l1b : es0.size = ks0.length := size_of_entries he0
  have l2b : kvs.length = ks0.length := Paired.length pr0
  refine ⟨_, _, _, kdl_raw hs hx hdt, ho, by omega, by omega, ks0.map fun x => x.2.1, isKeys_of pr0, by rw [List.length_map]; omega, fun accb it0 => ?_⟩
  have ea0 : accb.toList = ks0.map fun x => Value.ref x.2.1 := by
    have hl0 : accb.toList.length = ks0.length := by rw [Array.length_toList, it0.1]; exact l1b
    apply List.ext_getElem?
    intro j
    rw [List.getElem?_map]
    cases hj0 : accb.toList[j]? with
    | none =>
      have h1b := List.getElem?_eq_none_iff.mp hj0
      rw
          [List.getElem?_eq_none (by omega)]
      all_goals rfl
    | some v =>
      obtain ⟨en0, hen0, hv0⟩ := it0.2 j v (by rw [← Array.getElem?_toList]; exact hj0)
      have qe0 := entry_at he0 j
      rw [hen0] at qe0
      cases hb0 : ks0[j]? with
      | none =>
        rw [hb0] at qe0
        exact nomatch (show some en0 = none from qe0)
      | some b =>
        rw [hb0] at qe0
        have e2b : en0 = entryOfKey (tupleKind (mixKind X.prog X.w)) b := Option.some.inj qe0
        rw [hv0, e2b]
        all_goals rfl
  rw [ea0, List.map_map]
  rfl
/-- what is collected -/
theorem collectU (hc : X.calm = true) {A : Around} (hh : A.handled = none) {B : Hp} {a : Addr} {ds : List PyData} {E : Value → Shared → Prop} {Q : List Value → Shared → Prop} (I0 : Inv X pins0 σ0 H s) (src : SrtSrc X.K B H a ds) (hz : ds.length ≤ 100000)
    (h : ∀ hbb tk0 us0, (∀ b o, s.heap.get? b = some o → hbb.get? b = some o) → PySem.W.EachIs (VD X.K B) us0 ds → Q us0 { s with heap := hbb, toks := tk0 }) : wpAny (model X.prog X.w) A (collect (.ref a)) Q E s := by
  have hz' : ds.length ≤ sizeLine := Nat.le_trans hz (by decide)
  cases src with
  | lst h1b h2 =>
    obtain ⟨its, r, p, hs⟩ := I0.list h1b
    obtain ⟨⟨cls, dd, data, sl⟩, ho, hcl, n, hd⟩ := p.isList
    simp only at hcl hd
    refine wpAny_collect_seq a (.inl rfl) ho hcl hd (fun hbb k => h hbb s.toks its k (each_vd r h2)) (by
      show its.toArray.size ≤ sizeLine
      rw [List.size_toArray, ← r.length, dpAll_len h2]
      exact hz')
  | tup h1b h2 =>
    obtain ⟨its, r, ⟨⟨cls, dd, data, sl⟩, ho, hcl, n, hd⟩, hs⟩ := I0.tuple h1b
    simp only at hcl hd
    refine wpAny_collect_seq a (.inr rfl) ho hcl hd (fun hbb k => h hbb s.toks its k (each_vd r h2)) (by
      show its.toArray.size ≤ sizeLine
      rw [List.size_toArray, ← r.length, dpAll_len h2]
      exact hz')
  | dic h1b h2 hB =>
    obtain ⟨n, P, OK, Ks, ok, hn, hnz, bs, hk0, hbl, hacc⟩ := dict_keys I0 h1b
    refine PySem.W.kdu_collect Ks hh ok hnz fun hbb tk0 acc kp it0 => h hbb tk0 acc.toList kp ?_
    rw [hacc acc it0]
    exact each_vd (vals_refs bs) (isKeys_each hB hk0 h2)
theorem cr_sortedU (hc : X.calm = true) (hu : X.A.units + 65 < cLine) : CallR X (.builtin "sorted") (rSortU X.K) := by
  intro pins0 s σ0 H xs us0 Q I0 r q
  obtain ⟨a, ds, B, rfl, hB, src, hal, hso, hz, hdep, q⟩ := q
  obtain ⟨u0, rfl, rx0⟩ := vals1 r
  obtain rfl : u0 = Value.ref a := rx0
  have hz' : ds.length ≤ sizeLine := Nat.le_trans hz (by decide)
  refine
      Calls.call_function_entry PyProof.Rows.kind_sorted PyProof.Rows.plain_sorted PyProof.Rows.entry_sorted (PyProof.Rows.args_sorted1 _) ?_
  unfold Builtin.«sorted»
  refine
      wpAny_bind (m := checkCount "sorted" 1 1 _) (wpAny_pure ?_)
  refine wpAny_bind (collectU (A := X.A.in1) hc (I0.ok.hd hc) I0 src hz fun hbb tk0 vs hk0 he0 => ?_)
  have hlen : vs.length = ds.length := he0.length
  have I1b : Inv X pins0 σ0 H { s with heap := hbb, toks := tk0 } := I0.kept hk0
  refine wpAny_bind (wpAny_newList ?_ (by rw [hlen]; exact hz'))
  have hoL0 : (hbb.push (seqObj "list" vs.toArray 0)).get? hbb.objs.size = some (seqObj "list" vs.toArray 0) := Heap.get?_push_size _ rfl
  show wpAny _ _ _ _ _ { s with heap := hbb.push (seqObj "list" vs.toArray 0), toks := tk0 }
  have er : PySem.W.EachIs (fun v d => ∃ as, Reads (PySem.W.sortingHeap (hbb.push (seqObj "list" vs.toArray 0)) hbb.objs.size vs) v ((fun d => d) d) as) vs ds := he0.mono fun v d ⟨x, rx0, dx⟩ => by
    obtain ⟨as, rd⟩ := Dp.reads I0 d x v (dp_same hB dx).dp rx0
    refine ⟨as, PyProof.Rows.Reads.keeps (fun b o e0 => ?_) rd⟩
    exact PySem.W.sortingHeap_old (Nat.ne_of_lt (Heap.lt_size (hk0 _ _ e0))) (Heap.get?_push_of_some _ (hk0 _ _ e0))
  have hal' : PySem.W.AllAlike (ds.map fun d => d) := by rw [List.map_id']; exact hal
  have hso' : PySem.W.Sortable (ds.map fun d => d) := by rw [List.map_id']; exact hso
  refine wpAny_bind (wpAny_holding (wpAny_call_entry PyProof.Rows.slot_list_sort ⟨_, hoL0, rfl⟩ PyProof.Rows.entry_list_sort
    (PySem.W.list_sort_vals (s := { s with heap := hbb.push (seqObj "list" vs.toArray 0), toks := tk0 }) (κ := PySem.W.dataKind (PySem.W.sortingHeap (hbb.push (seqObj "list" vs.toArray 0)) hbb.objs.size vs) (ds.map fun d => d)) hoL0
      (PySem.W.SortsAt.data (s := { s with heap := PySem.W.sortingHeap (hbb.push (seqObj "list" vs.toArray 0)) hbb.objs.size vs, toks := tk0 }) (PySem.W.each_map (R := fun v d => ∃ as, Reads (PySem.W.sortingHeap (hbb.push (seqObj "list" vs.toArray 0)) hbb.objs.size vs) v d as) (fun d => d) er) hal' hso' (fun d hd => ?_))
      (by rw [hlen]; exact hz') ⟨_, rfl, ?_⟩)
    (PyProof.Rows.args_list_sort
      _)))
  · rw [List.map_id'] at hd
    have h1b := hdep d hd
    show X.A.units + 1 + 1 + d.depth < cLine
    omega
  · have hout := PySem.W.sortVals_data (enc := fun d => d) (R := VD X.K B) false he0 er hal'
    obtain ⟨ys, g1, g2⟩ := vd_each hout
    obtain ⟨e', he'⟩ := PyProof.Rows.sortedHeap_at (vs := vs) (out := (PySem.W.sortVals (PySem.W.dataKind (PySem.W.sortingHeap (hbb.push (seqObj "list" vs.toArray 0)) hbb.objs.size vs) (ds.map fun d => d)) false vs vs).toArray) hoL0
    have hly : ys.length ≤ sizeLine := by
      rw [dpAll_len g2, List.length_mergeSort]
      exact hz'
    refine wpAny_pure ⟨_, rfl, .ref hbb.objs.size, upd H hbb.objs.size (.lst ys), I1b.laid (t' := tk0) (fun b u0 e0 => ?_) (Nat.le_refl _)
      (show ObjOk X.prog X.w _ _ _ (.lst ys) from ⟨hly, _, e', g1, he'⟩), rfl, q _ ys (I1b.hok.fresh (Nat.le_refl _)) g2⟩
    have hb0 : b < hbb.objs.size := Heap.lt_size e0
    rw [PyProof.Rows.sortedHeap_old (Nat.ne_of_lt hb0) (by rw [size_push']; exact Nat.lt_succ_of_lt hb0)]
    exact Heap.get?_push_of_some _ e0
theorem kSorted (K : PySem.W.Frag) (hc : X.calm = true) (hu : X.A.units + 65 < cLine) (h : X.K = K := by rfl) : CallR X (.builtin "sorted") (rSortU K) := h ▸ cr_sortedU hc hu
end
section
variable {K : PySem.W.Frag} {C : Addr} {Γ : Ev} {te : TE}
theorem ev_sorted {ds : List PyData} (ha : EvD K C te Γ (.dat (.list ds)) ∨ EvD K C te Γ (.dat (.tuple ds))) (hal : PySem.W.AllAlike ds) (hso : PySem.W.Sortable ds) (hz : ds.length ≤ 100000) (hd : ∀ d ∈ ds, d.depth ≤ 60) :
    EvD K C (tCB (rSortU K) (tCons te tNil)) Γ (.tl (srtd ds)) := by
  rcases ha with ha | ha
  · exact ev_cb (ea_cons ha ea_nil) fun vs W a Q q => by
      cases a with
      | cons a t =>
        cases t
        obtain ⟨p, xs, rfl, g1, g2⟩ := wp_lst a
        exact ⟨p, ds, W.F, rfl, W.sub, .lst g1 g2, hal, hso, hz, hd, fun l ys hl0 hy => q _ (W.new l _) (leS_new hl0) ⟨l, ys, rfl, upd_same, dpAll_le (leS_new hl0) hy⟩⟩
  · exact ev_cb (ea_cons ha ea_nil) fun vs W a Q q => by
      cases a with
      | cons a t =>
        cases t
        obtain ⟨p, xs, rfl, g1, g2⟩ := wp_tup a
        exact ⟨p, ds, W.F, rfl, W.sub, .tup g1 g2, hal, hso, hz, hd, fun l ys hl0 hy => q _ (W.new l _) (leS_new hl0) ⟨l, ys, rfl, upd_same, dpAll_le (leS_new hl0) hy⟩⟩
/-- of ints -/
theorem srtd_ints (l : List Int) : srtd (l.map .int) = (l.mergeSort (fun a b => decide (a ≤ b))).map .int := by
  have e0 := PySem.W.dataLe_int (fun b : Int => b)
  unfold srtd
  rw [← e0]
  exact (List.map_mergeSort (f := PyData.int) fun a _ b _ => rfl).symm
theorem ev_sortedI {l : List Int} (ha : EvD K C te Γ (.dat (.list (l.map .int))) ∨ EvD K C te Γ (.dat (.tuple (l.map .int)))) (hz : l.length ≤ 100000) : EvD K C (tCB (rSortU K) (tCons te tNil)) Γ (.tl ((l.mergeSort (fun a b => decide (a ≤ b))).map .int)) := by
  rw [← srtd_ints]
  refine ev_sorted ha (PySem.W.AllAlike.of (enc := PyData.int) fun _ _ => by simp [PySem.W.alike]) (PySem.W.Sortable.others (enc := PyData.int) fun b => ⟨(fun h => by cases h), (fun xs h => by cases h)⟩) (by rw [List.length_map]; exact hz) fun d hd => ?_
  obtain ⟨i, _, rfl⟩ := List.mem_map.mp hd
  exact Nat.zero_le _
end
end Ly
/-! Lc: a comprehension of two clauses over data. -/
namespace Ly
open PySem PySem.Spec
open PyProof.Rows L2
section
variable {K : PySem.W.Frag} {C : Addr} {Γ : Ev} {te : TE}
theorem yes_if {σ : L2.St} {H : Hp} {A B : Hp → Prop} (h : A H) : tYes σ H (fun b H' => if b = true then A H' else B H') := by
  show (if true = true then A H else B H)
  rw [if_pos rfl]
  exact h
theorem ev_lc2 {α β : Type} {wi wi1 : TI} {g g1 : TG} {vs vs1 : List Nat} {as : List α} {ty : α → Ty} {bs : α → List β} {ty1 : α → β → Ty} {f : α → β → PyData} (hw : IvD K C wi Γ as ty) (hz : (as.flatMap fun a => (bs a).map (f a)).length ≤ 100000)
    (h : ∀ a ∈ as, ∃ Γ', TgD K C g vs (wipeG Γ vs) (ty a) Γ' ∧ IvD K C wi1 Γ' (bs a) (ty1 a) ∧ ∀ b ∈ bs a, ∃ Γ'', TgD K C g1 vs1 (wipeG Γ' vs1) (ty1 a b) Γ'' ∧ EvD K C te Γ'' (.dat (f a b))) :
    EvD K C (tLc2 wi g tYes wi1 g1 tYes te vs vs1) Γ (.tl (as.flatMap fun a => (bs a).map (f a))) := fun σ W e Q q => by
  refine hw σ W e _ fun J W1 s1 it D hD => ?_
  have e1 := e.le s1
  refine ⟨fun i m H2 => ∃ W2 : Wd, W2.H = H2 ∧ m = as.length - i ∧ i ≤ as.length ∧ LeS W1 W2 ∧ W2.F D = none ∧ ∃ xs, W2.H D = some (.lst xs) ∧ DtAll K W2.F xs ((as.take i).flatMap fun a => (bs a).map (f a)), ⟨as.length, W1.own D (.lst []) (wd_none hD), rfl, by simp, Nat.zero_le _, own_S hD, show W1.F D = none from wd_none hD, [], upd_same, .nil⟩, ?_⟩
  rintro i m _ ⟨W2, rfl, rfl, hi, s2, hF, xs, hx, hd⟩
  by_cases hlt : i < as.length
  · refine .inr ?_
    have ha : as[i]? = some as[i] := List.getElem?_eq_getElem hlt
    obtain ⟨g1', g2⟩ := it.go W2 s2.same i _ ha
    obtain ⟨Γ', h1, h2, h3⟩ := h as[i] (List.getElem_mem hlt)
    have tk : (as.take (i + 1)).flatMap (fun a => (bs a).map (f a)) = (as.take i).flatMap (fun a => (bs a).map (f a)) ++ (bs as[i]).map (f as[i]) := by
      rw [List.take_add_one, ha]
      show (as.take i ++ [as[i]]).flatMap _ = _
      rw [List.flatMap_append]
      simp
    have lenA : ((as.take (i + 1)).flatMap fun a => (bs a).map (f a)).length ≤ 100000 := by
      have e : as.flatMap (fun a => (bs a).map (f a)) = (as.take (i + 1)).flatMap (fun a => (bs a).map (f a)) ++ (as.drop (i + 1)).flatMap (fun a => (bs a).map (f a)) := by
        rw [← List.flatMap_append, List.take_append_drop]
      rw [e, List.length_append] at hz
      omega
    rw [tk] at lenA
    refine ⟨g1', fun H' => ∃ W2 : Wd, W2.H = H' ∧ i + 1 ≤ as.length ∧ LeS W1 W2 ∧ W2.F D = none ∧ ∃ xs, W2.H D = some (.lst xs) ∧ DtAll K W2.F xs ((as.take (i + 1)).flatMap fun a => (bs a).map (f a)), fun H' ⟨W2, e, k1, k2, k3⟩ => ⟨as.length - (i + 1), by omega, W2, e, rfl, k1, k2, k3⟩, fun x H' y => ?_⟩
    obtain ⟨W3, rfl, s3, ax⟩ := g2 x H' y
    have en : En K C W3.F (wipe σ vs) (wipeG Γ vs) := (e1.wipe vs).le (s2.trans s3)
    refine h1 _ W3 x en ax _ fun σ2 hw2 en2 => ⟨by rw [hw2, wipe_wipe], ?_⟩
    refine yes_if ?_
    refine h2 σ2 W3 en2 _ fun J1 W4 s4 it1 => ?_
    have s24 := s3.trans s4
    refine ⟨fun j k H5 => ∃ W5 : Wd, W5.H = H5 ∧ k = (bs as[i]).length - j ∧ j ≤ (bs as[i]).length ∧ Le W4 W5 ∧ LeS W1 W5 ∧ W5.F D = none ∧ ∃ ys, W5.H D = some (.lst ys) ∧ DtAll K W5.F ys ((as.take i).flatMap (fun a => (bs a).map (f a)) ++ ((bs as[i]).take j).map (f as[i])),
      ⟨(bs as[i]).length, W4, rfl, by simp, Nat.zero_le _, Le.refl _, s2.trans s24, leS_nf s24 hF hx (fun _ z => nomatch z), xs, s24.all _ _ hx, by simpa using dpAll_le s24 hd⟩, ?_⟩
    rintro j k _ ⟨W5, rfl, rfl, hj, s5, s15, hF5, ys, hy, hdy⟩
    by_cases hjl : j < (bs as[i]).length
    · refine .inr ?_
      have hb : (bs as[i])[j]? = some (bs as[i])[j] := List.getElem?_eq_getElem hjl
      obtain ⟨k1, k2⟩ := it1.go W5 s5.same j _ hb
      obtain ⟨Γ'', h4, h5⟩ := h3 (bs as[i])[j] (List.getElem_mem hjl)
      have tk2 : ((bs as[i]).take (j + 1)).map (f as[i]) = ((bs as[i]).take j).map (f as[i]) ++ [f as[i] (bs as[i])[j]] := by
        rw [List.take_add_one, hb]
        show ((bs as[i]).take j ++ [(bs as[i])[j]]).map _ = _
        rw [List.map_append]
        rfl
      refine ⟨k1, fun H' => ∃ W' : Wd, W'.H = H' ∧ j + 1 ≤ (bs as[i]).length ∧ Le W4 W' ∧ LeS W1 W' ∧ W'.F D = none ∧ ∃ ys, W'.H D = some (.lst ys) ∧ DtAll K W'.F ys ((as.take i).flatMap (fun a => (bs a).map (f a)) ++ ((bs as[i]).take (j + 1)).map (f as[i])), fun H' ⟨W', e, k1, k2, k3, k4⟩ => ⟨(bs as[i]).length - (j + 1), by omega, W', e, rfl, k1, k2, k3, k4⟩, fun x' H6 y' => ?_⟩
      obtain ⟨W6, rfl, s6, ax'⟩ := k2 x' H6 y'
      have en3 : En K C W6.F (wipe σ2 vs1) (wipeG Γ' vs1) := ((en2.wipe vs1).le s4).wk (s5.trans s6.toLe)
      refine h4 _ W6 x' en3 ax' _ fun σ3 hw3 en4 => ⟨by rw [hw3, wipe_wipe], ?_⟩
      refine yes_if ?_
      refine h5 σ3 W6 en4 _ fun z W7 s7 az => ?_
      have s57 := s6.trans s7
      have hy7 : W7.H D = some (.lst ys) := s57.all _ _ hy
      have hF7 : W7.F D = none := leS_nf s57 hF5 hy (fun _ z => nomatch z)
      have hlen : ys.length ≤ 100000 := by
        rw [dpAll_len hdy, List.length_append, List.length_map]
        rw [List.length_append, List.length_map] at lenA
        have := List.length_take_le' j (bs as[i])
        omega
      refine ⟨ys, hy7, Nat.lt_of_le_of_lt hlen (by decide), W7.own D _ hF7, rfl, hjl, (s5.trans s57.toLe).trans (le_own hF7), leS_own (s15.trans s57) hF7 hD, hF7, ys ++ [z], upd_same, ?_⟩
      rw [tk2, ← List.append_assoc]
      exact dpAll_app (dpAll_le s57 hdy) (.cons az .nil)
    · have ej : j = (bs as[i]).length := by omega
      subst ej
      rw [List.take_length] at hdy
      exact .inl ⟨it1.stop W5 s5.same, W5, rfl, hlt, s15, hF5, ys, hy, by rw [tk]; exact hdy⟩
  · have ei : i = as.length := by omega
    subst ei
    rw [List.take_length] at hd
    exact .inl ⟨it.stop W2 s2.same, q _ (W2.fix D _ hx) (s1.trans (leS_fix s2 hF hD)) ⟨D, xs, rfl, upd_same, dpAll_same (same_fix hF) hd⟩⟩
end
end Ly
/-! Sm: what a call changes: its own objects (O), apart from what is fixed. -/
namespace Ly
open PySem PySem.Spec
open PyProof.Rows L2

/-- something of one's own: its addresses, what is known of it -/
structure Res where
  ps : List Addr
  ok : Hp → Hp → Prop
  mono : ∀ {F F' H H' : Hp}, ok F H → Same F F' → (∀ p ∈ ps, ∀ o, H p = some o → H' p = some o) → ok F' H'
  at_ : ∀ {F H : Hp}, ok F H → ∀ p ∈ ps, ∃ o, H p = some o ∧ ∀ xs, o ≠ .tup xs
abbrev Ow := List Res
def Dom (O : Ow) (a : Addr) : Prop := ∃ r ∈ O, a ∈ r.ps
structure Own (O : Ow) (W : Wd) : Prop where
  ok : ∀ r ∈ O, r.ok W.F W.H
  nf : ∀ a, Dom O a → W.F a = none
  apart : (O.map Res.ps).Pairwise fun a b => ∀ p ∈ a, p ∉ b
structure Go (O : Ow) (W : Wd) (O' : Ow) (W' : Wd) : Prop where
  same : Same W.F W'.F
  dom : ∀ a, W'.H a = none → W.H a = none
  nw : ∀ a o, W'.F a = some o → W.F a = some o ∨ W.H a = none ∨ (∃ xs, o = .tup xs) ∨ Dom O a
  rest : ∀ a o, W.H a = some o → ¬ Dom O a → W'.H a = some o
  grow : ∀ a, Dom O' a → Dom O a ∨ W.H a = none
theorem Own.at_ {O : Ow} {W : Wd} (h : Own O W) {a : Addr} (d : Dom O a) : ∃ o, W.H a = some o ∧ ∀ xs, o ≠ .tup xs := by
  obtain ⟨r, hr, ha⟩ := d
  exact r.at_ (h.ok r hr) a ha
theorem Own.le {O : Ow} {W W' : Wd} (h : Own O W) (s : LeS W W') : Own O W' := ⟨fun r hr => r.mono (h.ok r hr) s.same fun p _ o e => s.all _ _ e, fun a d => by
  obtain ⟨o, e, nt⟩ := h.at_ d
  exact leS_nf s (h.nf a d) e nt, h.apart⟩
theorem Own.nil (W : Wd) : Own [] W := ⟨fun _ h => (nomatch h), fun _ h => (by obtain ⟨_, h, _⟩ := h; cases h), .nil⟩
theorem Go.refl (O : Ow) (W : Wd) : Go O W O W := ⟨Same.refl _, fun _ h => h, fun _ _ h => .inl h, fun _ _ h _ => h, fun _ h => .inl h⟩
theorem Go.trans {O O1 O2 : Ow} {W W1 W2 : Wd} (a : Go O W O1 W1) (b : Go O1 W1 O2 W2) : Go O W O2 W2 where
  same := a.same.trans b.same
  dom := fun x h => a.dom x (b.dom x h)
  nw := fun x o h => by
    rcases b.nw x o h with h | h | h | h
    · exact a.nw x o h
    · exact .inr (.inl (a.dom x h))
    · exact .inr (.inr (.inl h))
    · rcases a.grow x h with h | h
      · exact .inr (.inr (.inr h))
      · exact .inr (.inl h)
  rest := fun x o h nd => by
    refine b.rest x o (a.rest x o h nd) fun d => ?_
    rcases a.grow x d with d | d
    · exact nd d
    · rw [h] at d; cases d
  grow := fun x d => by
    rcases b.grow x d with d | d
    · exact a.grow x d
    · exact .inr (a.dom x d)
theorem LeS.go {O : Ow} {W W' : Wd} (s : LeS W W') : Go O W O W' where
  same := s.same
  dom := s.dom
  nw := fun a o h => by
    rcases s.nw a o h with h | h | h
    · exact .inl h
    · exact .inr (.inl h)
    · exact .inr (.inr (.inl h))
  rest := fun a o h _ => s.all _ _ h
  grow := fun _ d => .inl d
theorem not_dom_nil {a : Addr} : ¬ Dom [] a := fun h => by
  obtain ⟨_, h, _⟩ := h
  cases h
theorem Go.nil {O' : Ow} {W W' : Wd} (g : Go [] W O' W') : LeS W W' := ⟨⟨g.same, g.dom, fun a o h => by
  rcases g.nw a o h with h | h | h | h
  · exact .inl h
  · exact .inr (.inl h)
  · exact .inr (.inr h)
  · exact absurd h not_dom_nil⟩, fun a o h => g.rest a o h not_dom_nil⟩
theorem Own.sub {O O' : Ow} {W : Wd} (h : Own O' W) (s : O.Sublist O') : Own O W := ⟨fun r hr => h.ok r (s.subset hr), fun a ⟨r, hr, ha⟩ => h.nf a ⟨r, s.subset hr, ha⟩, h.apart.sublist (s.map _)⟩
theorem Go.less {O O' O'' : Ow} {W W' : Wd} (g : Go O W O' W') (s : ∀ r ∈ O'', r ∈ O') : Go O W O'' W' := ⟨g.same, g.dom, g.nw, g.rest, fun a ⟨r, hr, ha⟩ => g.grow a ⟨r, s r hr, ha⟩⟩
/-- one of them, changed -/
theorem Own.upd {O : Ow} {W : Wd} {i : Nat} {r r' : Res} {p : Addr} {o : HO} (h : Own O W) (hi : O[i]? = some r) (hp : p ∈ r.ps) (hps : r'.ps = r.ps) (hf : W.F p = none) (ok' : r'.ok W.F (upd W.H p o)) : Own (O.set i r') (W.own p o hf) := by
  have hil : i < O.length := (List.getElem?_eq_some_iff.mp hi).1
  have hir : O[i] = r := (List.getElem?_eq_some_iff.mp hi).2
  have hm : (O.set i r').map Res.ps = O.map Res.ps := by
    rw [List.map_set, hps, ← hir]
    have : (O.map Res.ps)[i]'(by rw [List.length_map]; exact hil) = O[i].ps := List.getElem_map _
    rw [← this]
    exact List.set_getElem_self _
  refine ⟨fun q hq0 => ?_, fun a ⟨q, hq0, ha⟩ => ?_, by rw [hm]; exact h.apart⟩
  · obtain ⟨j, hj, e⟩ := List.mem_iff_getElem.mp hq0
    rw [List.length_set] at hj
    by_cases hij : i = j
    · subst hij
      rw [List.getElem_set_self] at e
      subst e
      exact ok'
    · rw [List.getElem_set_ne hij] at e
      subst e
      refine (O[j]).mono (h.ok _ (List.getElem_mem hj)) (Same.refl _) fun b hb0 x e => ?_
      show L2.upd W.H p o b = some x
      rw [upd_ne (fun z => ?_)]
      · exact e
      · subst z
        have ap := List.pairwise_iff_getElem.mp h.apart
        rcases Nat.lt_or_gt_of_ne hij with l | l
        · have := ap i j (by rw [List.length_map]; exact hil) (by rw [List.length_map]; exact hj) l
          rw [List.getElem_map, List.getElem_map, hir] at this
          exact this b hp hb0
        · have := ap j i (by rw [List.length_map]; exact hj) (by rw [List.length_map]; exact hil) l
          rw [List.getElem_map, List.getElem_map, hir] at this
          exact this b hb0 hp
  · refine h.nf a ?_
    have ha' : q.ps ∈ O.map Res.ps := by rw [← hm]; exact List.mem_map.mpr ⟨q, hq0, rfl⟩
    obtain ⟨q', hq', e⟩ := List.mem_map.mp ha'
    exact ⟨q', hq', by rw [e]; exact ha⟩

theorem Own.hd {r : Res} {O : Ow} {W : Wd} (h : Own (r :: O) W) : Own O W := h.sub (List.sublist_cons_self _ _)
theorem dom_cons {r : Res} {O : Ow} {a : Addr} : Dom (r :: O) a ↔ a ∈ r.ps ∨ Dom O a := by
  constructor
  · rintro ⟨q, hq0, ha⟩
    rcases List.mem_cons.mp hq0 with rfl | hq0
    · exact .inl ha
    · exact .inr ⟨q, hq0, ha⟩
  · rintro (h | ⟨q, hq0, ha⟩)
    · exact ⟨r, List.mem_cons_self, h⟩
    · exact ⟨q, List.mem_cons_of_mem _ hq0, ha⟩
/-- a new object of one's own -/
theorem own_new {O : Ow} {W : Wd} {r : Res} {p : Addr} {o : HO} (h : Own O W) (hp : W.H p = none) (hr : r.ps = [p]) (ok : r.ok W.F (upd W.H p o)) : Own (r :: O) (W.own p o (wd_none hp)) ∧ Go O W (r :: O) (W.own p o (wd_none hp)) := by
  have s := own_S (o := o) hp
  refine ⟨⟨fun q hq0 => ?_, fun a d => ?_, ?_⟩, ?_⟩
  · rcases List.mem_cons.mp hq0 with rfl | hq0
    · exact ok
    · exact (h.le s).ok q hq0
  · rcases dom_cons.mp d with d | d
    · rw [hr, List.mem_singleton] at d
      subst d
      exact (show W.F a = none from wd_none hp)
    · exact h.nf a d
  · rw [List.map_cons]
    refine List.pairwise_cons.mpr ⟨fun b hb0 x hx hxb => ?_, h.apart⟩
    rw [hr, List.mem_singleton] at hx
    subst hx
    obtain ⟨q, hq0, rfl⟩ := List.mem_map.mp hb0
    obtain ⟨o', e, _⟩ := h.at_ ⟨q, hq0, hxb⟩
    rw [hp] at e
    cases e
  · have g := s.go (O := O)
    exact ⟨g.same, g.dom, g.nw, g.rest, fun a d => by
      rcases dom_cons.mp d with d | d
      · rw [hr, List.mem_singleton] at d
        subst d
        exact .inr hp
      · exact .inl d⟩
theorem Own.mem {O : Ow} {W : Wd} {i : Nat} {r : Res} (h : Own O W) (hi : O[i]? = some r) : r ∈ O := List.mem_of_getElem? hi
/-- .. changed -/
theorem go_upd {O : Ow} {W : Wd} {i : Nat} {r r' : Res} {p : Addr} {o : HO} (hi : O[i]? = some r) (hp : p ∈ r.ps) (hps : r'.ps = r.ps) (hf : W.F p = none) : Go O W (O.set i r') (W.own p o hf) where
  same := Same.refl _
  dom := fun a q => by
    by_cases e : a = p
    · subst e
      have q : L2.upd W.H a o a = none := q
      rw [upd_same] at q
      cases q
    · have q : L2.upd W.H p o a = none := q
      rw [upd_ne e] at q
      exact q
  nw := fun _ _ h => .inl h
  rest := fun a x h nd => by
    show L2.upd W.H p o a = some x
    rw [upd_ne (fun e => by subst e; exact nd ⟨r, List.mem_of_getElem? hi, hp⟩)]
    exact h
  grow := fun a ⟨q, hq0, ha⟩ => by
    rcases List.mem_or_eq_of_mem_set hq0 with hq0 | rfl
    · exact .inl ⟨q, hq0, ha⟩
    · exact .inl ⟨r, List.mem_of_getElem? hi, by rw [← hps]; exact ha⟩
section
variable (K : PySem.W.Frag) (C : Addr)
/-- a list of one's own -/
def lstR (p : Addr) (ds : List PyData) : Res where
  ps := [p]
  ok := fun F H => ∃ xs, H p = some (.lst xs) ∧ DtAll K F xs ds
  mono := fun ⟨xs, h1, h2⟩ s hp => ⟨xs, hp p (List.mem_singleton.mpr rfl) _ h1, dpAll_same s h2⟩
  at_ := fun ⟨xs, h1, _⟩ q hq0 => by
    rw [List.mem_singleton] at hq0
    subst hq0
    exact ⟨_, h1, fun _ z => nomatch z⟩
/-- a dict of one's own -/
def dicR (p : Addr) (kvs : List (List Int × Int)) : Res where
  ps := [p]
  ok := fun F H => H p = some (.dT (kvD kvs))
  mono := fun h1 s hp => hp p (List.mem_singleton.mpr rfl) _ h1
  at_ := fun h1 q hq0 => by
    rw [List.mem_singleton] at hq0
    subst hq0
    exact ⟨_, h1, fun _ z => nomatch z⟩
def EvS (te : TE) (Γ : Ev) (O : Ow) (t : Ty) : Prop := ∀ σ (W : Wd), En K C W.F σ Γ → Own O W → ∀ Q : VK, (∀ v W', LeS W W' → At K C W'.F v t → Q v W'.H) → te σ W.H Q
def EbS (tt : TT) (Γ : Ev) (O : Ow) (b : Bool) : Prop := ∀ σ (W : Wd), En K C W.F σ Γ → Own O W → ∀ Q : Bool → Hp → Prop, (∀ W', LeS W W' → Q b W'.H) → tt σ W.H Q
/-- a value that is reckoned with one's own things in use (they stay what they are known to be) -/
def EvM (te : TE) (Γ : Ev) (O : Ow) (T : Ty → Prop) : Prop := ∀ σ (W : Wd), En K C W.F σ Γ → Own O W → ∀ Q : VK, (∀ t v W', T t → Go O W O W' → Own O W' → At K C W'.F v t → Q v W'.H) → te σ W.H Q
def EvMA (ta : TA) (Γ : Ev) (O : Ow) (T : List Ty → Prop) : Prop := ∀ σ (W : Wd), En K C W.F σ Γ → Own O W → ∀ Q : List V → Hp → Prop, (∀ ts vs W', T ts → Go O W O W' → Own O W' → AtAll K C W'.F vs ts → Q vs W'.H) → ta σ W.H Q
def IvM {α : Type} (wi : TI) (Γ : Ev) (O : Ow) (A : List α → Prop) (ty : α → Ty) : Prop := ∀ σ (W : Wd), En K C W.F σ Γ → Own O W → ∀ R : It → Hp → Prop, (∀ J as W', A as → Go O W O W' → Own O W' → ItD K C J W' as ty → R J W'.H) → wi σ W.H R
def SM (ts : TS) (Γ : Ev) (O : Ow) (N : Ev → Ow → Prop) (R : Ty → Ow → Prop) : Prop := ∀ (D : Ends) σ (W : Wd), En K C W.F σ Γ → Own O W → (∀ Γ' O' σ' W', N Γ' O' → Go O W O' W' → En K C W'.F σ' Γ' → Own O' W' → D.nx σ' W'.H) →
  (∀ t O' v W', R t O' → Go O W O' W' → Own O' W' → At K C W'.F v t → D.rt v W'.H) → ts D σ W.H
end
section
variable {K : PySem.W.Frag} {C : Addr} {Γ : Ev} {O : Ow} {t : Ty} {te ta tb : TE} {tt : TT} {u w : TS} {N M : Ev → Ow → Prop} {R : Ty → Ow → Prop} {T T1 T2 : Ty → Prop}
theorem es_ev (h : EvD K C te Γ t) : EvS K C te Γ O t := fun σ W e _ Q q => h σ W e Q q
theorem ebs_eb {b : Bool} (h : EvB K C tt Γ b) : EbS K C tt Γ O b := fun σ W e _ Q q => h σ W e Q q
theorem em_es (h : EvS K C te Γ O t) : EvM K C te Γ O (· = t) := fun σ W e o Q q => h σ W e o Q fun v W' s a => q t v W' rfl s.go (o.le s) a
theorem em_ev (h : EvD K C te Γ t) : EvM K C te Γ O (· = t) := em_es (es_ev h)
theorem em_weak (h : EvM K C te Γ O T1) (hw : ∀ t, T1 t → T2 t) : EvM K C te Γ O T2 := fun σ W e o Q q => h σ W e o Q fun t v W' k => q t v W' (hw t k)
/-! what is one's own may be looked at -/
def Wd.hide (W : Wd) (p : Addr) : Wd := ⟨fun a => if a = p then none else W.F a, W.H, fun a o h => by
  have h : (if a = p then none else W.F a) = some o := h
  split at h
  · cases h
  · exact W.sub _ _ h⟩
theorem hide_at {W : Wd} {p a : Addr} (h : a ≠ p) : (W.hide p).F a = W.F a := if_neg h
def nolT : Ty → Bool
  | .dat d => nol d
  | _ => false
theorem hide_ok {W : Wd} {p : Addr} {v : V} {t : Ty} (n : NoT W.F p) (ht : nolT t = true) (h : At K C W.F v t) : At K C (W.hide p).F v t := by
  cases t with
  | dat d =>
    refine dp_keepN (fun a xs ds q => ?_) d v ht h
    rcases q with q | ⟨q0, q⟩
    · refine .inl ?_
      rw [hide_at (fun e => by subst e; exact n.1 _ q)]
      exact q
    · refine .inr ⟨q0, ?_⟩
      rcases q with (q | ⟨o', q⟩) | q
      · refine .inl (.inl ?_)
        show (W.hide p).F a = _
        rw [hide_at (fun e => by subst e; exact n.1 _ q)]
        exact q
      · refine .inl (.inr ⟨o', ?_⟩)
        show (W.hide p).F a = _
        rw [hide_at (fun e => by subst e; exact n.2 _ _ q)]
        exact q
      · exact .inr q
  | _ => cases ht
theorem leS_hide {W W2 : Wd} {p : Addr} {o : HO} {hx : W.H p = some o} (hf : W.F p = none) (s : LeS (W.fix p o hx) W2) : LeS W (W2.hide p) := ⟨⟨fun a x h => by
  have ne : a ≠ p := fun e => by subst e; rw [hf] at h; cases h
  rw [hide_at ne]
  exact s.same a x (same_fix hf a x h), s.dom, fun a x h => by
  have h : (if a = p then none else W2.F a) = some x := h
  split at h
  · cases h
  · next ne =>
    rcases s.nw a x h with z | z | z
    · have z : upd W.F p o a = some x := z
      rw [upd_ne ne] at z
      exact .inl z
    · exact .inr (.inl z)
    · exact .inr (.inr z)⟩, s.all⟩
/-- how a thing of one's own looks as a value -/
def Looks (K : PySem.W.Frag) (C : Addr) (r : Res) (p : Addr) (tv : Ty) : Prop := p ∈ r.ps ∧ ∀ F H, F p = none → r.ok F H → ∃ o, H p = some o ∧ (∀ xs, o ≠ .tup xs) ∧ (∀ x y, o ≠ .frz x y) ∧ At K C (upd F p o) (.ref p) tv
theorem looks_lst {p : Addr} {ds : List PyData} : Looks K C (lstR K p ds) p (.tl ds) := ⟨List.mem_singleton.mpr rfl, fun F H hf ⟨xs, h1, h2⟩ => ⟨_, h1, fun _ z => (nomatch z), fun _ _ z => (nomatch z), p, xs, rfl, upd_same, dpAll_same (same_new hf) h2⟩⟩
theorem looks_dic {p : Addr} {kvs : List (List Int × Int)} : Looks K C (dicR p kvs) p (.dc kvs) := ⟨List.mem_singleton.mpr rfl, fun F H hf h1 => ⟨_, h1, fun _ z => (nomatch z), fun _ _ z => (nomatch z), p, rfl, upd_same⟩⟩
theorem vis_core {σ : L2.St} {W : Wd} {i j : Nat} {r : Res} {p : Addr} {tv : Ty} (hj : O[j]? = some r) (hi : Γ[i]? = some (some (.own p))) (hl : Looks K C r p tv) (e : En K C W.F σ Γ) (o : Own O W) :
    W.F p = none ∧ ∃ x, ∃ hx : W.H p = some x, (∀ xs, x ≠ .tup xs) ∧ (∀ a b, x ≠ .frz a b) ∧ En K C (W.fix p x hx).F σ (Γ.set i (some tv)) := by
  have hm : r ∈ O := List.mem_of_getElem? hj
  have hf : W.F p = none := o.nf p ⟨r, hm, hl.1⟩
  obtain ⟨x, hx, n1, n2, ha⟩ := hl.2 W.F W.H hf (o.ok r hm)
  refine ⟨hf, x, hx, n1, n2, by rw [List.length_set]; exact e.len, fun k t' hk => ?_⟩
  by_cases hik : i = k
  · subst hik
    rw [List.getElem?_set_self (List.getElem?_eq_some_iff.mp hi).1] at hk
    cases hk
    obtain ⟨v, h1, h2⟩ := e.at_ i _ hi
    have h2 : v = .ref p := h2
    subst h2
    exact ⟨_, h1, ha⟩
  · rw [List.getElem?_set_ne hik] at hk
    obtain ⟨v, h1, h2⟩ := e.at_ k t' hk
    exact ⟨v, h1, at_same (same_fix hf) h2⟩
theorem es_vis {i j : Nat} {r : Res} {p : Addr} {tv : Ty} (hj : O[j]? = some r) (hi : Γ[i]? = some (some (.own p))) (hl : Looks K C r p tv) (h : EvD K C te (Γ.set i (some tv)) t) (ht : nolT t = true) : EvS K C te Γ O t := fun σ W e o Q q => by
  obtain ⟨hf, x, hx, n1, n2, e1⟩ := vis_core hj hi hl e o
  refine h σ (W.fix p x hx) e1 Q fun v W2 s2 a => ?_
  have hp2 : W2.F p = some x := s2.same p x upd_same
  exact q v (W2.hide p) (leS_hide hf s2) (hide_ok ⟨fun xs z => (by rw [hp2] at z; exact n1 xs (Option.some.inj z)), fun a b z => (by rw [hp2] at z; exact n2 a b (Option.some.inj z))⟩ ht a)
theorem ebs_vis {b : Bool} {i j : Nat} {r : Res} {p : Addr} {tv : Ty} (hj : O[j]? = some r) (hi : Γ[i]? = some (some (.own p))) (hl : Looks K C r p tv) (h : EvB K C tt (Γ.set i (some tv)) b) : EbS K C tt Γ O b := fun σ W e o Q q => by
  obtain ⟨hf, x, hx, n1, n2, e1⟩ := vis_core hj hi hl e o
  exact h σ (W.fix p x hx) e1 Q fun W2 s2 => q (W2.hide p) (leS_hide hf s2)
theorem ema_nil : EvMA K C tNil Γ O (· = []) := fun σ W e o Q q => q _ _ W rfl (Go.refl _ _) o .nil
theorem ema_cons {tr : TA} {Tr : List Ty → Prop} (h : EvM K C te Γ O T) (hr : EvMA K C tr Γ O Tr) : EvMA K C (tCons te tr) Γ O (fun ts => ∃ a r, ts = a :: r ∧ T a ∧ Tr r) := fun σ W e o Q q =>
  h σ W e o _ fun t v W1 k1 g1 o1 a1 => hr σ W1 (e.same g1.same) o1 _ fun ts vs W2 k2 g2 o2 a2 => q _ _ W2 ⟨t, ts, rfl, k1, k2⟩ (g1.trans g2) o2 (.cons (at_same g2.same a1) a2)
theorem ema_ea {ts : List Ty} (h : EvA K C ta' Γ ts) : EvMA K C ta' Γ O (· = ts) := fun σ W e o Q q => h σ W e Q fun vs W' s a => q _ _ W' rfl s.go (o.le s) a
theorem ivm_iv {α : Type} {wi : TI} {as : List α} {ty : α → Ty} (h : IvD K C wi Γ as ty) : IvM K C wi Γ O (· = as) ty := fun σ W e o R r => h σ W e R fun J W' s it => r J as W' rfl s.go (o.le s) it
/-! statements -/
theorem sm_next (h : N Γ O) : SM K C tNext Γ O N R := fun D σ W e o n r => n Γ O σ W h (Go.refl _ _) e o
theorem sm_seq (h1 : SM K C u Γ O M R) (h2 : ∀ Γ' O', M Γ' O' → SM K C w Γ' O' N R) : SM K C (tSeq u w) Γ O N R := fun D σ W e o n r =>
  h1 { D with nx := w D } σ W e o (fun Γ' O' σ' W' m g1 e1 o1 => h2 Γ' O' m D σ' W' e1 o1 (fun Γ2 O2 σ2 W2 k g2 e2 o2 => n Γ2 O2 σ2 W2 k (g1.trans g2) e2 o2) fun t O2 v W2 k g2 o2 a => r t O2 v W2 k (g1.trans g2) o2 a) r
theorem sm_then {Γ' : Ev} {O' : Ow} (h1 : SM K C u Γ O (fun x y => x = Γ' ∧ y = O') R) (h2 : SM K C w Γ' O' N R) : SM K C (tSeq u w) Γ O N R := sm_seq h1 fun _ _ ⟨e1, e2⟩ => by
  subst e1 e2
  exact h2
theorem sm_weak {N' : Ev → Ow → Prop} {R' : Ty → Ow → Prop} (h : SM K C u Γ O N R) (hn : ∀ Γ' O', N Γ' O' → N' Γ' O') (hr : ∀ t O', R t O' → R' t O') : SM K C u Γ O N' R' := fun D σ W e o n r => h D σ W e o (fun Γ' O' σ' W' k => n Γ' O' σ' W' (hn _ _ k)) fun t O' v W' k => r t O' v W' (hr _ _ k)
theorem sm_sd {N : Ev → Prop} {R : Ty → Prop} (h : SD K C u Γ N R) : SM K C u Γ O (fun Γ' O' => O' = O ∧ N Γ') (fun t O' => O' = O ∧ R t) := fun D σ W e o n r =>
  h D σ W e (fun Γ' σ' W' k s e' => n Γ' O σ' W' ⟨rfl, k⟩ s.go e' (o.le s)) fun t v W' k s a => r t O v W' ⟨rfl, k⟩ s.go (o.le s) a
theorem sm_setM {i : Nat} (h : EvM K C te Γ O T) : SM K C (tAsg te (gName i)) Γ O (fun Γ' O' => O' = O ∧ ∃ t, T t ∧ Γ' = Γ.set i (some t)) R := fun D σ W e o n r => h σ W e o _ fun t v W1 k g o1 a => n _ _ _ W1 ⟨rfl, t, k, rfl⟩ g ((e.same g.same).set a) o1
theorem sm_setS {i : Nat} (h : EvS K C te Γ O t) : SM K C (tAsg te (gName i)) Γ O (fun Γ' O' => Γ' = Γ.set i (some t) ∧ O' = O) R := sm_weak (sm_setM (em_es h)) (fun _ _ ⟨e, t, e1, e2⟩ => (by subst e1; exact ⟨e2, e⟩)) fun _ _ h => h
theorem sm_set {i : Nat} (h : EvD K C te Γ t) : SM K C (tAsg te (gName i)) Γ O (fun Γ' O' => Γ' = Γ.set i (some t) ∧ O' = O) R := sm_setS (es_ev h)
theorem sm_retM (h : EvM K C te Γ O T) (hr : ∀ t, T t → R t O) : SM K C (tRet te) Γ O N R := fun D σ W e o n r => h σ W e o _ fun t v W1 k g o1 a => r t O v W1 (hr t k) g o1 a
theorem sm_retS (h : EvS K C te Γ O t) (hr : R t O) : SM K C (tRet te) Γ O N R := sm_retM (em_es h) fun _ e => (by subst e; exact hr)
theorem sm_ret (h : EvD K C te Γ t) (hr : R t O) : SM K C (tRet te) Γ O N R := sm_retS (es_ev h) hr
theorem sm_drop (h : EvM K C te Γ O T) : SM K C (tDrop te) Γ O (fun Γ' O' => Γ' = Γ ∧ O' = O) R := fun D σ W e o n r => h σ W e o _ fun t v W1 k g o1 a => n _ _ σ W1 ⟨rfl, rfl⟩ g (e.same g.same) o1
theorem sm_if {b : Bool} (h : EbS K C tt Γ O b) (h1 : b = true → SM K C u Γ O N R) (h2 : b = false → SM K C w Γ O N R) : SM K C (tIfS tt u w) Γ O N R := fun D σ W e o n r => h σ W e o _ fun W1 s1 => by
  cases b with
  | true =>
    show u D σ W1.H
    exact h1 rfl D σ W1 (e.le s1) (o.le s1) (fun Γ2 O2 σ2 W2 k g2 e2 o2 => n Γ2 O2 σ2 W2 k (s1.go.trans g2) e2 o2) fun t O2 v W2 k g2 o2 a => r t O2 v W2 k (s1.go.trans g2) o2 a
  | false =>
    show w D σ W1.H
    exact h2 rfl D σ W1 (e.le s1) (o.le s1) (fun Γ2 O2 σ2 W2 k g2 e2 o2 => n Γ2 O2 σ2 W2 k (s1.go.trans g2) e2 o2) fun t O2 v W2 k g2 o2 a => r t O2 v W2 k (s1.go.trans g2) o2 a
theorem sm_parM {i j : Nat} (h1 : EvM K C ta Γ O T1) (h2 : EvM K C tb Γ O T2) : SM K C (tPar i j (tCons ta (tCons tb tNil))) Γ O (fun Γ' O' => O' = O ∧ ∃ t1 t2, T1 t1 ∧ T2 t2 ∧ Γ' = (Γ.set i (some t1)).set j (some t2)) R := fun D σ W e o n r =>
  h1 σ W e o _ fun t1 v W1 k1 g1 o1 a => h2 σ W1 (e.same g1.same) o1 _ fun t2 w W2 k2 g2 o2 b => ⟨v, w, rfl, n _ _ _ W2 ⟨rfl, t1, t2, k1, k2, rfl⟩ (g1.trans g2) (((e.same (g1.trans g2).same).set (at_same g2.same a)).set b) o2⟩
/-- x = [] -/
theorem sm_own {i : Nat} (h : ∀ p, SM K C w (Γ.set i (some (.own p))) (lstR K p [] :: O) N R) : SM K C (tSeq (tAsg (tLst tNil) (gName i)) w) Γ O N R := fun D σ W e o n r => ⟨Nat.zero_le _, fun p hp => by
  obtain ⟨o1, g1⟩ := own_new (r := lstR K p []) (o := .lst []) o hp rfl ⟨[], upd_same, .nil⟩
  exact h p D _ (W.own p _ (wd_none hp)) (En.set (H := W.F) e (t := .own p) rfl) o1 (fun Γ2 O2 σ2 W2 k g2 e2 o2 => n Γ2 O2 σ2 W2 k (g1.trans g2) e2 o2) fun t O2 v W2 k g2 o2 a => r t O2 v W2 k (g1.trans g2) o2 a⟩
/-- x, y = [], e -/
theorem sm_ownPar {i j : Nat} (hb0 : ∀ p, EvM K C tb Γ (lstR K p [] :: O) T) (h : ∀ p t, T t → SM K C w ((Γ.set i (some (.own p))).set j (some t)) (lstR K p [] :: O) N R) : SM K C (tSeq (tPar i j (tCons (tLst tNil) (tCons tb tNil))) w) Γ O N R := fun D σ W e o n r => ⟨Nat.zero_le _, fun p hp => by
  obtain ⟨o1, g1⟩ := own_new (r := lstR K p []) (o := .lst []) o hp rfl ⟨[], upd_same, .nil⟩
  refine hb0 p σ _ (show En K C (W.own p (.lst []) (wd_none hp)).F σ Γ from e) o1 _ fun t v W2 k g2 o2 a => ⟨.ref p, v, rfl, ?_⟩
  have g12 := g1.trans g2
  exact h p t k D _ W2 (((e.same g12.same).set (t := .own p) rfl).set a) o2 (fun Γ3 O3 σ3 W3 k g3 e3 o3 => n Γ3 O3 σ3 W3 k (g12.trans g3) e3 o3) fun t O3 v W3 k g3 o3 a => r t O3 v W3 k (g12.trans g3) o3 a⟩
/-- x = {} -/
theorem sm_ownD {i : Nat} (h : ∀ p, SM K C w (Γ.set i (some (.own p))) (dicR p [] :: O) N R) : SM K C (tSeq (tAsg tDNewT (gName i)) w) Γ O N R := fun D σ W e o n r => fun p hp => by
  obtain ⟨o1, g1⟩ := own_new (r := dicR p []) (o := .dT []) o hp rfl upd_same
  exact h p D _ (W.own p _ (wd_none hp)) (En.set (H := W.F) e (t := .own p) rfl) o1 (fun Γ2 O2 σ2 W2 k g2 e2 o2 => n Γ2 O2 σ2 W2 k (g1.trans g2) e2 o2) fun t O2 v W2 k g2 o2 a => r t O2 v W2 k (g1.trans g2) o2 a
/-- what was one's own is fixed from here on -/
theorem sm_frz {i : Nat} {r : Res} {p : Addr} {tv : Ty} (hi : Γ[i]? = some (some (.own p))) (hl : Looks K C r p tv) (hr : r.ps = [p]) (h : SM K C u (Γ.set i (some tv)) O N R) : SM K C u Γ (r :: O) N R := fun D σ W e o n rr => by
  obtain ⟨hf, x, hx, n1, n2, e1⟩ := vis_core (j := 0) rfl hi hl e o
  have ne : ∀ a, Dom O a → a ≠ p := fun a ⟨q, hq0, ha⟩ z => by
    subst z
    have := List.pairwise_cons.mp (show ((r :: O).map Res.ps).Pairwise _ from o.apart)
    exact this.1 q.ps (List.mem_map.mpr ⟨q, hq0, rfl⟩) a hl.1 ha
  have o1 : Own O (W.fix p x hx) := ⟨fun q hq0 => q.mono (o.hd.ok q hq0) (same_fix hf) fun _ _ _ e => e, fun a d => by
    show L2.upd W.F p x a = none
    rw [upd_ne (ne a d)]
    exact o.hd.nf a d, o.hd.apart⟩
  have g1 : Go (r :: O) W O (W.fix p x hx) := ⟨same_fix hf, fun _ h => h, fun a y h => by
    have h : L2.upd W.F p x a = some y := h
    by_cases z : a = p
    · subst z
      exact .inr (.inr (.inr ⟨r, List.mem_cons_self, hl.1⟩))
    · rw [upd_ne z] at h
      exact .inl h, fun _ _ h _ => h, fun a d => .inl (dom_cons.mpr (.inr d))⟩
  exact h D σ (W.fix p x hx) e1 o1 (fun Γ2 O2 σ2 W2 k g2 e2 o2 => n Γ2 O2 σ2 W2 k (g1.trans g2) e2 o2) fun t O2 v W2 k g2 o2 a => rr t O2 v W2 k (g1.trans g2) o2 a
/-- x.append(e) -/
theorem sm_append {i j : Nat} {p : Addr} {ds : List PyData} (hi : Γ[i]? = some (some (.own p))) (hj : O[j]? = some (lstR K p ds)) (h : EvM K C te Γ O T) (hT : ∀ t, T t → ∃ d, t = .dat d) (hz : ds.length ≤ 100000) :
    SM K C (tDrop (tBM K "list" rAppend (tVar i) (tCons te tNil))) Γ O (fun Γ' O' => Γ' = Γ ∧ ∃ d, T (.dat d) ∧ O' = O.set j (lstR K p (ds ++ [d]))) R := fun D σ W e o n r => by
  obtain ⟨v, h1, h2⟩ := e.at_ i _ hi
  have h2 : v = .ref p := h2
  subst h2
  obtain ⟨xs, hx, hd⟩ := o.ok _ (List.mem_of_getElem? hj)
  refine ⟨_, h1, .inl ⟨rfl, xs, SqL.of hx⟩, ?_⟩
  refine h σ W e o _ fun t v W1 k g1 o1 a => ?_
  obtain ⟨d, rfl⟩ := hT t k
  obtain ⟨xs1, hx1, hd1⟩ := o1.ok _ (List.mem_of_getElem? hj)
  have hf : W1.F p = none := o1.nf p ⟨_, List.mem_of_getElem? hj, List.mem_singleton.mpr rfl⟩
  refine ⟨p, xs1, v, rfl, rfl, hx1, Nat.lt_of_le_of_lt (by rw [dpAll_len hd1]; exact hz) (by decide), ?_⟩
  have o2 := o1.upd (r' := lstR K p (ds ++ [d])) (o := .lst (xs1 ++ [v])) hj (List.mem_singleton.mpr rfl) rfl hf ⟨_, upd_same, dpAll_app hd1 (.cons a .nil)⟩
  exact n Γ _ σ (W1.own p _ hf) ⟨rfl, d, k, rfl⟩ (g1.trans (go_upd (r' := lstR K p (ds ++ [d])) hj (List.mem_singleton.mpr rfl) rfl hf)) (e.same g1.same) o2
theorem sm_appendS {i j : Nat} {p : Addr} {ds : List PyData} {d : PyData} (hi : Γ[i]? = some (some (.own p))) (hj : O[j]? = some (lstR K p ds)) (h : EvS K C te Γ O (.dat d)) (hz : ds.length ≤ 100000) :
    SM K C (tDrop (tBM K "list" rAppend (tVar i) (tCons te tNil))) Γ O (fun Γ' O' => Γ' = Γ ∧ O' = O.set j (lstR K p (ds ++ [d]))) R :=
  sm_weak (sm_append hi hj (em_es h) (fun t e => ⟨d, e⟩) hz) (fun Γ' O' ⟨e, d', e2, e3⟩ => (by cases e2; exact ⟨e, e3⟩)) fun _ _ h => h
/-- a loop -/
theorem sm_for {α : Type} {A : List α → Prop} {wi : TI} {g : TG} {tb : TS} {ty : α → Ty} (hw : IvM K C wi Γ O A ty) (G : List α → Nat → Ev → Ow → Prop) (h0 : ∀ as, A as → G as 0 Γ O)
    (hs : ∀ as i a Γi Oi, A as → as[i]? = some a → G as i Γi Oi → ∃ Γ' vs, TgD K C g vs Γi (ty a) Γ' ∧ SM K C tb Γ' Oi (G as (i + 1)) R) (hn : ∀ as Γn On, A as → G as as.length Γn On → N Γn On) : SM K C (tFor wi g tb) Γ O N R := fun D σ W e o n r =>
  hw σ W e o _ fun J as W1 hA g1 o1 it => by
    refine ⟨fun i m σ2 H2 => ∃ W2 : Wd, W2.H = H2 ∧ m = as.length - i ∧ i ≤ as.length ∧ ∃ Γi Oi, G as i Γi Oi ∧ Go O W1 Oi W2 ∧ En K C W2.F σ2 Γi ∧ Own Oi W2, ⟨as.length, W1, rfl, by simp, Nat.zero_le _, Γ, O, h0 as hA, Go.refl _ _, e.same g1.same, o1⟩, ?_⟩
    rintro i m σ2 _ ⟨W2, rfl, rfl, hi, Γi, Oi, hG, g2, e2, o2⟩
    by_cases hlt : i < as.length
    · refine .inr ?_
      have ha : as[i]? = some as[i] := List.getElem?_eq_getElem hlt
      obtain ⟨k1, k2⟩ := it.go W2 g2.same i _ ha
      obtain ⟨Γ', vs, h1, h2⟩ := hs as i as[i] Γi Oi hA ha hG
      refine ⟨k1, fun σ' H' => ∃ W' : Wd, W'.H = H' ∧ i + 1 ≤ as.length ∧ ∃ Γi Oi, G as (i + 1) Γi Oi ∧ Go O W1 Oi W' ∧ En K C W'.F σ' Γi ∧ Own Oi W', fun σ' H' ⟨W', e, k1, k2⟩ => ⟨as.length - (i + 1), by omega, W', e, rfl, k1, k2⟩, fun x H' y => ?_⟩
      obtain ⟨W3, rfl, s3, ax⟩ := k2 x H' y
      refine h1 σ2 W3 x (e2.le s3) ax _ fun σ3 _ e3 => ?_
      have g3 := g2.trans s3.go
      exact h2 _ σ3 W3 e3 (o2.le s3) (fun Γ4 O4 σ4 W4 k g4 e4 o4 => ⟨W4, rfl, hlt, Γ4, O4, k, g3.trans g4, e4, o4⟩) fun t O4 v W4 k g4 o4 a => r t O4 v W4 k (g1.trans (g3.trans g4)) o4 a
    · have ei : i = as.length := by omega
      subst ei
      exact .inl ⟨it.stop W2 g2.same, n Γi Oi σ2 W2 (hn as Γi Oi hA hG) (g1.trans g2) e2 o2⟩
theorem sm_forD {α : Type} {as : List α} {wi : TI} {g : TG} {tb : TS} {ty : α → Ty} (hw : IvD K C wi Γ as ty) (G : Nat → Ev → Ow → Prop) (h0 : G 0 Γ O)
    (hs : ∀ i a Γi Oi, as[i]? = some a → G i Γi Oi → ∃ Γ' vs, TgD K C g vs Γi (ty a) Γ' ∧ SM K C tb Γ' Oi (G (i + 1)) R) (hn : ∀ Γn On, G as.length Γn On → N Γn On) : SM K C (tFor wi g tb) Γ O N R :=
  sm_for (ivm_iv hw) (fun _ => G) (fun _ _ => h0) (fun _ i a Γi Oi e ha => by subst e; exact hs i a Γi Oi ha) fun _ Γn On e h => (by subst e; exact hn Γn On h)
/-- while -/
theorem sm_while {tb : TS} (G : Nat → Ev → Ow → Prop) (m0 : Nat) (h0 : G m0 Γ O) (hs : ∀ m Γi Oi, G m Γi Oi → ∃ b, EbS K C tt Γi Oi b ∧ (b = true → SM K C tb Γi Oi (fun Γ' O' => ∃ m', m' < m ∧ G m' Γ' O') R) ∧ (b = false → N Γi Oi)) : SM K C (tWhile tt tb) Γ O N R := fun D σ W e o n r => by
  refine ⟨fun m σ2 H2 => ∃ W2 : Wd, W2.H = H2 ∧ ∃ Γi Oi, G m Γi Oi ∧ Go O W Oi W2 ∧ En K C W2.F σ2 Γi ∧ Own Oi W2, ⟨m0, W, rfl, Γ, O, h0, Go.refl _ _, e, o⟩, ?_⟩
  rintro m σ2 _ ⟨W2, rfl, Γi, Oi, hG, g2, e2, o2⟩
  obtain ⟨b, hb0, h1, h2⟩ := hs m Γi Oi hG
  refine hb0 σ2 W2 e2 o2 _ fun W3 s3 => ?_
  have g3 := g2.trans s3.go
  cases b with
  | true =>
    rw [if_pos rfl]
    refine ⟨fun σ' H' => ∃ m', m' < m ∧ ∃ W' : Wd, W'.H = H' ∧ ∃ Γi Oi, G m' Γi Oi ∧ Go O W Oi W' ∧ En K C W'.F σ' Γi ∧ Own Oi W', fun σ' H' q => q, ?_⟩
    exact h1 rfl _ σ2 W3 (e2.le s3) (o2.le s3) (fun Γ4 O4 σ4 W4 ⟨m', hm, k⟩ g4 e4 o4 => ⟨m', hm, W4, rfl, Γ4, O4, k, g3.trans g4, e4, o4⟩) fun t O4 v W4 k g4 o4 a => r t O4 v W4 k (g3.trans g4) o4 a
  | false =>
    rw
        [if_neg Bool.false_ne_true]
    exact n Γi Oi σ2 W3 (h2 rfl) g3 (e2.le s3) (o2.le s3)
/-- a def's body that changes its own objects -/
theorem sm_body {Ns : List Str} {ts : TS} {Rl : List Ty → Ty → Prop} {vs : List V} {H : Hp} {Q : VK} {E : XK} (h : FnD K C Rl vs H Q E) (hb0 : ∀ as t, Rl as t → SM K C ts (startG Ns.length as) [] (fun _ _ => t = .dat .none) (fun t' _ => t' = t)) : ts { nx := fun _ H' => Q .non H', rt := Q } (L2.start Ns vs) H := by
  obtain ⟨W, as, t, rfl, a, hr, q⟩ := h
  exact hb0 as t hr _ _ W (en_start a) (Own.nil W) (fun _ _ _ W' k g _ _ => by subst k; exact q .non W' g.nil (show Dt K W'.F .non .none from Dt.non)) fun t' _ v W' k g _ b => by
    subst k
    exact q v W' g.nil b
end
end Ly
/-! Tr: trees as data; paths; the order of places. Plain. -/
namespace Lk
open PySem PySem.Spec PyProof.Rows L2 Ly

def dot (l m : List Int) : Int := (List.zipWith (· * ·) l m).sum
def small (l : List Int) : Prop := ∀ i ∈ l, -(2 ^ 64) < i ∧ i < 2 ^ 64
inductive Tr where
  | leaf
  | key (r h : List Int) (t : Tr)
  | fork (ps : List (List Int × Tr))
mutual
def Tr.toD : Tr → PyData
  | .leaf => leafD
  | .key r h t => .tuple [.str "key", pI r, pI h, t.toD]
  | .fork ps => .tuple [.str "fork", .tuple (toDs ps)]
def toDs : List (List Int × Tr) → List PyData
  | [] => []
  | (g, t) :: r => .tuple [pI g, t.toD] :: toDs r
end
theorem toDs_map : ∀ ps : List (List Int × Tr), toDs ps = ps.map fun p => .tuple [pI p.1, p.2.toD]
  | [] => rfl
  | (g, t) :: r => by
    rw [toDs, toDs_map r]
    rfl
def Tr.kids : Tr → List Tr
  | .leaf => []
  | .key _ _ t => [t]
  | .fork ps => ps.map (·.2)
mutual
def Tr.path (pl : List Int) (c : Int) : Tr → List Int
  | .leaf => []
  | .key r h t => (dot r pl + h.getD c.toNat 0) :: t.path pl c
  | .fork ps => pathF pl c ps 0
def pathF (pl : List Int) (c : Int) : List (List Int × Tr) → Nat → List Int
  | [], _ => []
  | (g, t) :: r, k => if c ∈ g then (k : Int) :: t.path pl c else pathF pl c r (k + 1)
end
mutual
def Tr.size : Tr → Nat
  | .leaf => 1
  | .key _ _ t => 1 + t.size
  | .fork ps => 1 + sizeF ps
def sizeF : List (List Int × Tr) → Nat
  | [] => 0
  | (_, t) :: r => t.size + sizeF r
end
theorem sizeF_map : ∀ ps : List (List Int × Tr), sizeF ps = (ps.map fun p => p.2.size).sum
  | [] => rfl
  | (g, t) :: r => by
    rw [sizeF, sizeF_map r]
    rfl
theorem size_kids : ∀ t : Tr, t.size = 1 + (t.kids.map Tr.size).sum
  | .leaf => rfl
  | .key _ _ t => by
    rw [Tr.size]
    show _ = 1 + (t.size + 0)
    rw [Nat.add_zero]
  | .fork ps => by
    rw [Tr.size, sizeF_map]
    show _ = 1 + ((ps.map (·.2)).map Tr.size).sum
    rw [List.map_map]
    rfl
/-- groups that part 0 .. m - 1: each in order -/
structure Parts (m : Nat) (gs : List (List Int)) : Prop where
  ne : gs ≠ []
  each : ∀ g ∈ gs, g ≠ [] ∧ g.Pairwise (· ≤ ·)
  perm : gs.flatten.Perm ((List.range m).map fun (i : Nat) => (i : Int))
/-- n directions, m classes, at most h deep -/
inductive Wf (n m : Nat) : Nat → Tr → Prop
  | leaf {h : Nat} : Wf n m h .leaf
  | key {h : Nat} {r hs : List Int} {t : Tr} : r.length = n → hs.length = m → small r → small hs → Wf n m h t → Wf n m (h + 1) (.key r hs t)
  | fork {h : Nat} {ps : List (List Int × Tr)} : Parts m (ps.map (·.1)) → ps.length ≤ 5 → (∀ p ∈ ps, Wf n m h p.2) → Wf n m (h + 1) (.fork ps)
variable {n m : Nat}
theorem Wf.kids {h : Nat} {t : Tr} (w : Wf n m h t) : ∀ u ∈ t.kids, ∃ h', h = h' + 1 ∧ Wf n m h' u := by
  cases w with
  | leaf => intro u hu; cases hu
  | key _ _ _ _ w =>
    intro u hu
    rw [Tr.kids, List.mem_singleton] at hu
    subst hu
    exact ⟨_, rfl, w⟩
  | fork _ _ w =>
    intro u hu
    obtain ⟨p, hp0, rfl⟩ := List.mem_map.mp hu
    exact ⟨_, rfl, w p hp0⟩
theorem Wf.mono {h : Nat} {t : Tr} (w : Wf n m h t) : ∀ {h' : Nat}, h ≤ h' → Wf n m h' t := by
  induction w with
  | leaf => intro h' _; exact .leaf
  | key h1 h2 h3 h4 _ ih =>
    intro h' hh
    obtain ⟨k, rfl⟩ : ∃ k, h' = k + 1 := ⟨h' - 1, by omega⟩
    exact .key h1 h2 h3 h4 (ih (by omega))
  | fork h1 h2 _ ih =>
    intro h' hh
    obtain ⟨k, rfl⟩ : ∃ k, h' = k + 1 := ⟨h' - 1, by omega⟩
    exact .fork h1 h2 fun p hp0 => ih p hp0 (by omega)
theorem Wf.kids_len {h : Nat} {t : Tr} (w : Wf n m h t) : t.kids.length ≤ 5 := by
  cases w with
  | leaf => exact Nat.zero_le _
  | key _ _ _ _ w => show 1 ≤ 5; decide
  | @fork h ps _ hl w =>
    rw [Tr.kids, List.length_map]
    exact hl
theorem Wf.kids0 {t : Tr} (w : Wf n m 0 t) : t.kids = [] := by
  cases w
  rfl
def szB : Nat → Nat
  | 0 => 1
  | h + 1 => 1 + 5 * szB h
theorem szB_mono : ∀ h, szB h ≤ szB (h + 1)
  | 0 => by decide
  | h + 1 => by
    have := szB_mono h
    show 1 + 5 * szB h ≤ 1 + 5 * szB (h + 1)
    omega
theorem sum_le {α : Type} (f : α → Nat) (b : Nat) : ∀ l : List α, (∀ a ∈ l, f a ≤ b) → (l.map f).sum ≤ l.length * b
  | [], _ => by simp
  | a :: l, h => by
    have h1 := h a List.mem_cons_self
    have h2 := sum_le f b l fun x hx => h x (List.mem_cons_of_mem _ hx)
    rw
        [List.map_cons, List.sum_cons, List.length_cons, Nat.succ_mul]
    omega
theorem szB_pos : ∀ h, 1 ≤ szB h
  | 0 => by decide
  | h + 1 => by
    show 1 ≤ 1 + 5 * szB h
    omega
theorem Wf.size_le : ∀ {h : Nat} {t : Tr}, Wf n m h t → t.size ≤ szB h
  | 0, t, w => by
    rw [size_kids, w.kids0]
    exact Nat.le_refl 1
  | h + 1, t, w => by
    rw [size_kids]
    have h1 := sum_le Tr.size (szB h) t.kids fun u hu => by
      obtain ⟨h', e, w'⟩ := w.kids u hu
      have e' : h' = h := by omega
      subst e'
      exact w'.size_le
    have h2 := Nat.mul_le_mul_right (szB h) w.kids_len
    show _ ≤ 1 + 5 * szB h
    omega
/-! ### the data of a tree -/
theorem depthAll_ints (l : List Int) : PyData.depthAll (l.map .int) = 0 := PySem.W.depth_ints l
theorem depth_pI (l : List Int) : (pI l).depth = 1 := by
  show PyData.depthAll (l.map .int) + 1 = 1
  rw [depthAll_ints]
theorem canLayAll0_ints : ∀ l : List Int, PyData.canLayAll0 (l.map .int) = true
  | [] =>
      by simp [PyData.canLayAll0]
  | i :: l => by simp [PyData.canLayAll0, PyData.canLay0, canLayAll0_ints l]
theorem canLay0_pI (l : List Int) : (pI l).canLay0 = true := by
  unfold pI
  rw [PyData.canLay0]
  exact canLayAll0_ints l
theorem depthAll_le {b : Nat} : ∀ {ds : List PyData}, (∀ d ∈ ds, d.depth ≤ b) → PyData.depthAll ds ≤ b
  | [], _ => by simp [PyData.depthAll]
  | d :: ds, h => by
    rw [PyData.depthAll]
    exact Nat.max_le.mpr ⟨h d List.mem_cons_self, depthAll_le fun x hx => h x (List.mem_cons_of_mem _ hx)⟩
theorem canLayAll0_of : ∀ {ds : List PyData}, (∀ d ∈ ds, d.canLay0 = true) → PyData.canLayAll0 ds = true
  | [], _ => by simp [PyData.canLayAll0]
  | d :: ds, h => by
    rw [PyData.canLayAll0, h d List.mem_cons_self, canLayAll0_of fun x hx => h x (List.mem_cons_of_mem _ hx)]
    rfl
theorem depth_tup {ds : List PyData} {b : Nat} (h : ∀ d ∈ ds, d.depth ≤ b) : (PyData.tuple ds).depth ≤ b + 1 := by
  rw [PyData.depth]
  exact Nat.succ_le_succ (depthAll_le h)
theorem canLay0_tup {ds : List PyData} (h : ∀ d ∈ ds, d.canLay0 = true) : (PyData.tuple ds).canLay0 = true := by
  rw [PyData.canLay0]
  exact canLayAll0_of h
theorem str_ok (x : Str) (h : PyData.strOk x = true) : (PyData.str x).canLay0 = true ∧ (PyData.str x).depth = 0 := ⟨by rw [PyData.canLay0]; exact h, by rw [PyData.depth]⟩
theorem Wf.data : ∀ {h : Nat} {t : Tr}, Wf n m h t → t.toD.depth ≤ 3 * h + 1 ∧ t.toD.canLay0 = true ∧ nol t.toD = true := by
  intro h t w
  induction w with
  | leaf => exact ⟨Nat.le_trans (show leafD.depth ≤ 1 by decide) (by omega), by rw [Tr.toD]; decide +kernel, by rw [Tr.toD]; rfl⟩
  | @key h r hs t h1 h2 h3 h4 w ih =>
    rw [Tr.toD]
    obtain ⟨i1, i2, i3⟩ := ih
    have sk := str_ok "key" (by decide +kernel)
    refine ⟨Nat.le_trans (depth_tup (b := 3 * h + 2) fun d hd => ?_) (by omega), canLay0_tup fun d hd => ?_, ?_⟩
    · simp only [List.mem_cons, List.not_mem_nil, or_false] at hd
      rcases hd with rfl | rfl | rfl | rfl
      · rw [sk.2]; omega
      · rw [depth_pI]; omega
      · rw [depth_pI]; omega
      · omega
    · simp only [List.mem_cons, List.not_mem_nil, or_false] at hd
      rcases hd with rfl | rfl | rfl | rfl
      · exact sk.1
      · exact canLay0_pI _
      · exact canLay0_pI _
      · exact i2
    · rw [nol]
      refine nolAll_iff.mpr fun d hd => ?_
      simp only [List.mem_cons, List.not_mem_nil, or_false] at hd
      rcases hd with rfl | rfl | rfl | rfl
      · rfl
      · exact nolAll_ints _
      · exact nolAll_ints _
      · exact i3
  | @fork h ps h1 h2 w ih =>
    rw [Tr.toD, toDs_map]
    have sk := str_ok "fork" (by decide +kernel)
    have each : ∀ d ∈ ps.map (fun p => PyData.tuple [pI p.1, p.2.toD]), d.depth ≤ 3 * h + 2 ∧ d.canLay0 = true ∧ nol d = true := fun d hd => by
      obtain ⟨p, hp0, rfl⟩ := List.mem_map.mp hd
      obtain ⟨i1, i2, i3⟩ := ih p hp0
      refine ⟨depth_tup fun d hd => ?_, canLay0_tup fun d hd => ?_, ?_⟩
      · simp only [List.mem_cons, List.not_mem_nil, or_false] at hd
        rcases hd with rfl | rfl
        · rw [depth_pI]; omega
        · exact i1
      · simp only [List.mem_cons, List.not_mem_nil, or_false] at hd
        rcases hd with rfl | rfl
        · exact canLay0_pI _
        · exact i2
      · rw [nol]
        refine nolAll_iff.mpr fun d hd => ?_
        simp only [List.mem_cons, List.not_mem_nil, or_false] at hd
        rcases hd with rfl | rfl
        · exact nolAll_ints _
        · exact i3
    refine ⟨Nat.le_trans (depth_tup (b := 3 * h + 3) fun d hd => ?_) (by omega), canLay0_tup fun d hd => ?_, ?_⟩
    · simp only [List.mem_cons, List.not_mem_nil, or_false] at hd
      rcases hd with rfl | rfl
      · rw [sk.2]; omega
      · exact depth_tup fun d hd => (each d hd).1
    · simp only [List.mem_cons, List.not_mem_nil, or_false] at hd
      rcases hd with rfl | rfl
      · exact sk.1
      · exact canLay0_tup fun d hd => (each d hd).2.1
    · rw [nol]
      refine nolAll_iff.mpr fun d hd => ?_
      simp only [List.mem_cons, List.not_mem_nil, or_false] at hd
      rcases hd with rfl | rfl
      · rfl
      · rw [nol]
        exact nolAll_iff.mpr fun d hd => (each d hd).2.2
theorem Wf.shaped {h : Nat} {t : Tr} (w : Wf n m h t) (hh : h ≤ 20) : SeqAt.shaped t.toD = true := by
  obtain ⟨h1, h2, _⟩ := w.data
  unfold SeqAt.shaped
  rw [h2, decide_eq_true (Nat.le_trans h1 (by omega))]
  rfl
theorem eqv_ints : ∀ l m : List Int, PyData.eqvAll (l.map .int) (m.map .int) = decide (l = m)
  | [], [] =>
      by simp [PyData.eqvAll]
  | [], _ :: _ =>
      by simp [PyData.eqvAll]
  | _ :: _, [] =>
      by simp [PyData.eqvAll]
  | a :: l, b :: m => by
    show PyData.eqvAll (.int a :: l.map .int) (.int b :: m.map .int) = _
    rw [PyData.eqvAll, eqv_ints l m]
    simp [PyData.eqv, Bool.decide_and]
    rfl
theorem eqv_pI (l m : List Int) : PyData.eqv (pI l) (pI m) = decide (l = m) := by
  show PyData.eqv (.tuple (l.map .int)) (.tuple (m.map .int)) = _
  rw [PyData.eqv, eqv_ints]
theorem shaped_pI (l : List Int) : SeqAt.shaped (pI l) = true := by
  unfold SeqAt.shaped
  rw [canLay0_pI, depth_pI]
  rfl
theorem shaped_lst {ds : List PyData} (h : ∀ d ∈ ds, d.canLay0 = true ∧ d.depth ≤ 60) : SeqAt.shaped (.list ds) = true := by
  unfold SeqAt.shaped
  rw [PyData.canLay0, canLayAll0_of fun d hd => (h d hd).1, PyData.depth, decide_eq_true (Nat.succ_le_succ (Nat.le_trans (depthAll_le fun d hd => (h d hd).2) (by decide)))]
  rfl
theorem shaped_cells (ls : List (List Int)) : SeqAt.shaped (.list (ls.map pI)) = true := shaped_lst fun d hd => by
  obtain ⟨l, _, rfl⟩ := List.mem_map.mp hd
  exact ⟨canLay0_pI l, by rw [depth_pI]; decide⟩
theorem any_cells (ls : List (List Int)) (l : List Int) : ((ls.map pI).any fun z => PyData.eqv z (pI l)) = decide (l ∈ ls) := by
  induction ls with
  | nil => simp
  | cons a r ih =>
    rw [List.map_cons, List.any_cons, ih, eqv_pI]
    simp only [List.mem_cons, Bool.decide_or]
    congr 1
    exact decide_eq_decide.mpr eq_comm
/-- which tree is at hand -/
theorem leaf_ne {h : Nat} {t : Tr} : (PyData.eqv t.toD leafD) = (match t with | .leaf => true | _ => false) := by
  cases t with
  | leaf => rw [Tr.toD]; decide
  | key r hs t => rw [Tr.toD]; rfl
  | fork ps => rw [Tr.toD]; rfl
/-! ### comparing -/
def sgn (p q : List Int) : Int := if HT.lexLt p q = true then -1 else if p = q then 0 else 1
theorem lexLt_self : ∀ l : List Int, HT.lexLt l l = false
  | [] => rfl
  | a :: l => by rw [HT.lexLt_cons, if_pos rfl, lexLt_self l]
theorem sgn_neg {p q : List Int} : decide (sgn p q < 0) = HT.lexLt p q := by
  unfold sgn
  cases HT.lexLt p q with
  | true => rfl
  | false =>
    rw
        [if_neg Bool.false_ne_true]
    by_cases e : p = q
    · rw [if_pos e]; rfl
    · rw [if_neg e]; rfl
theorem sgn_same (a : Int) (p q : List Int) : sgn (a :: p) (a :: q) = sgn p q := by
  unfold sgn
  rw [HT.lexLt_cons, if_pos rfl]
  simp only [List.cons.injEq, true_and]
theorem sgn_diff {a b : Int} (h : a ≠ b) (p q : List Int) : sgn (a :: p) (b :: q) = if a < b then -1 else 1 := by
  unfold sgn
  rw [HT.lexLt_cons, if_neg h]
  by_cases l : a < b
  · rw [if_pos l, if_pos (decide_eq_true l)]
  · rw [if_neg l, if_neg (by simpa using l), if_neg (fun e => h (List.cons.inj e).1)]
/-- where a number's group is -/
def gat (c : Int) (gs : List (List Int)) : Nat := gs.findIdx fun g => decide (c ∈ g)
theorem pathF_at (pl : List Int) (c : Int) : ∀ (ps : List (List Int × Tr)) (k : Nat), (∃ p ∈ ps, c ∈ p.1) → ∃ p, ps[gat c (ps.map (·.1))]? = some p ∧ c ∈ p.1 ∧ pathF pl c ps k = ((k + gat c (ps.map (·.1)) : Nat) : Int) :: p.2.path pl c
  | [], _, h => by
    obtain ⟨_, h, _⟩ := h
    cases h
  | (g, t) :: r, k, h => by
    unfold gat
    rw [pathF, List.map_cons, List.findIdx_cons]
    by_cases hc : c ∈ g
    · rw [if_pos hc, decide_eq_true hc]
      exact ⟨(g, t), rfl, hc, rfl⟩
    · rw [if_neg hc, decide_eq_false hc]
      obtain ⟨p, h1, h2, h3⟩ := pathF_at pl c r (k + 1) (by
        obtain ⟨p, hp0, h⟩ := h
        rcases List.mem_cons.mp hp0 with rfl | hp0
        · exact absurd h hc
        · exact ⟨p, hp0, h⟩)
      refine ⟨p, by simpa [gat] using h1, h2, ?_⟩
      rw [h3]
      unfold gat
      simp only [cond_false]
      congr 2
      omega
theorem Parts.has {m : Nat} {gs : List (List Int)} (h : Parts m gs) {c : Int} (h0 : 0 ≤ c) (h1 : c < m) : ∃ g ∈ gs, c ∈ g := by
  have hm : c ∈ gs.flatten := (h.perm.mem_iff).mpr (List.mem_map.mpr ⟨c.toNat, List.mem_range.mpr (by omega), by omega⟩)
  exact List.mem_flatten.mp hm
/-- [at for at, group in enumerate(groups) if number in group][0] -/
theorem gat_first {α : Type} (p : α → Bool) : ∀ (l : List α) (k : Nat), (∃ a ∈ l, p a = true) → (((l.zipIdx k).filter fun x => p x.1).map fun x => x.2)[0]? = some (k + l.findIdx p)
  | [], _, h => by
    obtain ⟨_, h, _⟩ := h
    cases h
  | a :: l, k, h => by
    rw [List.zipIdx_cons, List.findIdx_cons]
    cases ha : p a with
    | true =>
      rw [List.filter_cons_of_pos (p := fun x : α × Nat => p x.1) (a := (a, k)) ha]
      rfl
    | false =>
      rw [List.filter_cons_of_neg (p := fun x : α × Nat => p x.1) (a := (a, k)) (by show ¬ p a = true; rw [ha]; exact Bool.false_ne_true), gat_first p l (k + 1) (by
        obtain ⟨b, hb0, h⟩ := h
        rcases List.mem_cons.mp hb0 with rfl | hb0
        · rw [ha] at h; cases h
        · exact ⟨b, hb0, h⟩)]
      simp only [cond_false]
      congr 1
      omega
end Lk
/-! Pm: defs that change their own objects; extend by a tuple, insert. -/
namespace PySem
open Sem (wp)
open AutoSeq1 
  (wpAny_loadPart')
/-- list.extend by any tuple object -/
theorem ext_by_tup {a b : Addr} {xs ys : Array Value} {n m : Nat} {dd : Option Addr} {sl : Array (Option Value)} (h0 : ¬ (!xs.isEmpty && Builtin.List.listTooLong (xs.size + ys.size)) = true) (h1 : xs.size ≤ sizeLine) (h2 : xs.size + ys.size ≤ sizeLine + 1) :
    Meets (Builtin.«list.extend» ⟨[.ref a, .ref b], []⟩) fun _ R s => (s.heap.get? a = some { cls := .type "list", data := .seq xs n } ∧ s.heap.get? b = some { cls := .type "tuple", dict := dd, data := .seq ys m, slots := sl }) ∧
      R (.ok (.ret .none)) { s with heap := s.heap.update a (Obj.mapSeq fun z0 => z0 ++ ys), toks := s.toks } := .of_wp fun P w A R s h => by
  obtain ⟨hp0, g, d, tk0, os0⟩ := s
  obtain ⟨⟨ha, hb⟩, h⟩ := h
  have t1 := AutoSeq1.idx_int; have t2 := AutoSeq1.sub_tuple_tuple; have t3 := AutoSeq1.sub_list_list; have t4 := AutoSeq1.sub_tuple_list; have t5 := AutoSeq1.sub_list_tuple
  have hz : (xs ++ ys).size ≤ sizeLine + 1 := by rw [Array.size_append]; exact h2
  wp_walk using (wpAny_updateSeq ha rfl (hz := h1) (_hz' := hz)), wpAny_loadPart' ha, wpAny_loadPart' hb
  exact ⟨_, rfl, h⟩
end PySem
namespace Ly
open PySem PySem.Spec
open PyProof.Rows L2
def rExtendT (K : PySem.W.Frag) : V → List V → Hp → VK → Prop := fun x vs H Q => ∃ l b xs zs0, x = .ref l ∧ vs = [.ref b] ∧ H l = some (.lst xs) ∧ SqT K H b zs0 ∧ xs.length + zs0.length ≤ sizeLine ∧ Q .non (upd H l (.lst (xs ++ zs0)))
theorem mt_extendT {X : Cx} : MtM X "list.extend" (rExtendT X.K) := by
  intro pins0 s σ0 H x vs v us0 Q I0 rx0 rv0 h
  obtain ⟨l, b, xs, zs0, rfl, rfl, hH0, hB0, hz, q⟩ := h
  cases rx0
  obtain ⟨u, rfl, ru⟩ := rv0.one
  cases ru
  obtain ⟨z0, its, n, r, hl0, e0⟩ := I0.lstM hH0
  obtain ⟨its2b, r2b, ⟨⟨cls, dd, data, sl⟩, ho, hc, n2, hd⟩, hs⟩ := I0.tuple hB0
  simp only at hc hd
  subst hc hd
  have hl2 := r2b.length
  have hsz0 : its.toArray.size + its2b.toArray.size ≤ sizeLine := by rw [List.size_toArray, List.size_toArray]; omega
  have hlong0 : ¬ (!its.toArray.isEmpty && Builtin.List.listTooLong (its.toArray.size + its2b.toArray.size)) = true := by
    rw [notLongL hsz0, Bool.and_false]
    exact Bool.false_ne_true
  refine call_meets F.slot_list_extend ⟨_, e0, rfl⟩ F.entry_list_extend (F.args_list_extend_2 _ _)
    (ext_by_tup hlong0 (by rw [List.size_toArray]; omega) (by omega)) ⟨⟨e0, ho⟩, ?_⟩
  refine ⟨.non, _, I0.lset (its' := its ++ its2b) hH0 e0 (by simp) (r.append r2b) ?_, rfl, q⟩
  rw [List.length_append]
  omega
theorem kExtT {X : Cx} (K : PySem.W.Frag) (h : X.K = K := by rfl) : MtM X "list.extend" (rExtendT K) := h ▸ mt_extendT
section
variable {K : PySem.W.Frag} {C : Addr} {Γ : Ev} {O : Ow} {t : Ty} {te ta tb : TE} {N : Ev → Ow → Prop} {R : Ty → Ow → Prop} {T T1 T2 : Ty → Prop}
theorem sm_extendT {i j : Nat} {p : Addr} {ds es : List PyData} (hi : Γ[i]? = some (some (.own p))) (hj : O[j]? = some (lstR K p ds)) (h : EvD K C te Γ (.dat (.tuple es))) (hz : ds.length + es.length ≤ 100000) :
    SM K C (tDrop (tBM K "list" (rExtendT K) (tVar i) (tCons te tNil))) Γ O (fun Γ' O' => Γ' = Γ ∧ O' = O.set j (lstR K p (ds ++ es))) R := fun D σ0 W e0 o n r => by
  obtain ⟨v, h1, h2⟩ := e0.at_ i _ hi
  have h2 : v = .ref p := h2
  subst h2
  obtain ⟨xs, hx, hd⟩ := o.ok _ (List.mem_of_getElem? hj)
  refine ⟨_, h1, .inl ⟨rfl, xs, SqL.of hx⟩, ?_⟩
  refine h σ0 W e0 _ fun v W1 s1 a => ?_
  have o1 := o.le s1
  obtain ⟨xs1, hx1, hd1⟩ := o1.ok _ (List.mem_of_getElem? hj)
  have hf : W1.F p = none := o1.nf p ⟨_, List.mem_of_getElem? hj, List.mem_singleton.mpr rfl⟩
  obtain ⟨b, zs0, rfl, g1, g2⟩ := wp_tup a
  refine ⟨p, b, xs1, zs0, rfl, rfl, hx1, g1, Nat.le_trans (by rw [dpAll_len hd1, dpAll_len g2]; exact hz) (by decide), ?_⟩
  have o2 := o1.upd (r' := lstR K p (ds ++ es)) (o := .lst (xs1 ++ zs0)) hj (List.mem_singleton.mpr rfl) rfl hf ⟨_, upd_same, dpAll_app hd1 g2⟩
  exact n Γ _ σ0 (W1.own p _ hf) ⟨rfl, rfl⟩ (s1.go.trans (go_upd (r' := lstR K p (ds ++ es)) hj (List.mem_singleton.mpr rfl) rfl hf)) (show En K C W1.F σ0 Γ from e0.le s1) o2
theorem kStar {X : Cx} (K : PySem.W.Frag) {e0 : Expr} {es : List Expr} {te : TE} {t : TA} {p : Pos} (he : PE X e0 te) (hr : PA X es t) (h : X.K = K := by rfl) (hs : starEach (.Starred e0 p :: es) X.env = (true, eval e0 X.env) :: starEach es X.env := by rfl) : PA X (.Starred e0 p :: es) (StX.tStar K te t) := h ▸ StX.pa_star he hr hs
theorem atAll_of {F : Hp} : ∀ {xs : List V} {ds : List PyData}, DtAll K F xs ds → AtAll K C F xs (ds.map Ty.dat)
  | _, _, .nil => .nil
  | _, _, .cons a t => .cons a (atAll_of t)
theorem atAll_app {F : Hp} : ∀ {xs ys : List V} {ts us0 : List Ty}, AtAll K C F xs ts → AtAll K C F ys us0 → AtAll K C F (xs ++ ys) (ts ++ us0)
  | _, _, _, _, .nil, h => h
  | _, _, _, _, .cons a t, h => .cons a (atAll_app t h)
/-- *e0, .. -/
theorem ea_star {ds : List PyData} {tr : TA} {ts : List Ty} (h : EvD K C te Γ (.dat (.tuple ds)) ∨ EvD K C te Γ (.dat (.list ds))) (hr : EvA K C tr Γ ts) : EvA K C (StX.tStar K te tr) Γ (ds.map Ty.dat ++ ts) := fun σ0 W e0 Q q => by
  rcases h with h | h
  · refine h σ0 W e0 _ fun v W1 s1 a => ?_
    obtain ⟨p, xs, rfl, g1, g2⟩ := wp_tup a
    exact ⟨p, xs, rfl, .inl g1, hr σ0 W1 (e0.le s1) _ fun vs W2 s2 b => q _ W2 (s1.trans s2) (atAll_app (atAll_le s2 (atAll_of g2)) b)⟩
  · refine h σ0 W e0 _ fun v W1 s1 a => ?_
    obtain ⟨p, xs, rfl, g1, g2⟩ := wp_lst a
    exact ⟨p, xs, rfl, .inr g1, hr σ0 W1 (e0.le s1) _ fun vs W2 s2 b => q _ W2 (s1.trans s2) (atAll_app (atAll_le s2 (atAll_of g2)) b)⟩
theorem unD_app : ∀ (ds : List PyData) (ts : List Ty), unD (ds.map Ty.dat ++ ts) = ds ++ unD ts
  | [], _ => rfl
  | d :: ds, ts => congrArg (d :: ·) (unD_app ds ts)
theorem allD_app : ∀ (ds : List PyData) (ts : List Ty), allD (ds.map Ty.dat ++ ts) = allD ts
  | [], _ => rfl
  | d :: ds, ts => allD_app ds ts
/-- list(range(n)) -/
def rgI (n : Nat) : List Int := (List.range n).map fun (i : Nat) => (i : Int)
theorem ev_listRg {n : Nat} (h : EvD K C te Γ (.dat (.int (n : Int)))) (hn : n ≤ 100000) : EvD K C (tLstRg (tRg1 te)) Γ (.tl ((rgI n).map .int)) := fun σ0 W e0 Q q => h σ0 W e0 _ fun v W1 s1 a => by
  have hv := dp_int a
  refine ⟨(n : Int), hv, RgOk.of_le (by decide) (by omega) (by decide) (by omega), fun p hp0 => ?_⟩
  have er : rgV 0 (n : Int) = (rgI n).map V.int := by
    unfold rgV rgI
    rw [Int.sub_zero, Int.toNat_natCast, List.map_map]
    refine
        List.map_congr_left fun i _ => ?_
    rw [Int.zero_add]
    rfl
  rw [er]
  exact q _ (W1.new p _) (s1.trans (leS_new hp0)) ⟨p, _, rfl, upd_same, dpAll_of_ints _⟩
/-- x, y = ([], e0) by way of a tuple -/
theorem sm_ownTup {w : TS} {i j : Nat} (hb : ∀ p, EvM K C tb Γ (lstR K p [] :: O) T) (h : ∀ p t, T t → SM K C w ((Γ.set i (some (.own p))).set j (some t)) (lstR K p [] :: O) N R) : SM K C (tSeq (tAsg (tTup (tCons (tLst tNil) (tCons tb tNil))) (gTup K 2 (gCons (gName i) (gCons (gName j) gNil)))) w) Γ O N R := fun D σ0 W e0 o n r => ⟨Nat.zero_le _, fun p hp0 => by
  obtain ⟨o1, g1⟩ := own_new (r := lstR K p []) (o := .lst []) o hp0 rfl ⟨[], upd_same, .nil⟩
  refine hb p σ0 _ (show En K C (W.own p (.lst []) (wd_none hp0)).F σ0 Γ from e0) o1 _ fun t v W2 k g2 o2 a => ⟨by show 2 ≤ sizeLine; decide, fun q hq => ?_⟩
  have g12 := g1.trans g2
  have s3 := own_S (o := .tup [.ref p, v]) hq
  refine ⟨q, [.ref p, v], rfl, SqT.of upd_same, rfl, _, _, rfl, _, _, rfl, rfl, ?_⟩
  have g13 := g12.trans s3.go
  exact h p t k D _ (W2.own q _ (wd_none hq)) (((e0.same g12.same).set (t := .own p) rfl).set a) (o2.le s3) (fun Γ3 O3 σ3 W3 k g3 e3 o3 => n Γ3 O3 σ3 W3 k (g13.trans g3) e3 o3) fun t O3 v W3 k g3 o3 a => r t O3 v W3 k (g13.trans g3) o3 a⟩
def rInsert : V → List V → Hp → VK → Prop := fun x vs H Q => ∃ (l : Addr) (xs : List V) (i : Int) (y : V), x = .ref l ∧ vs = [.int i, y] ∧ H l = some (.lst xs) ∧ xs.length < sizeLine ∧ 0 ≤ i ∧ i < 2 ^ 63 ∧
    Q .non (upd H l (.lst (xs.take i.toNat ++ [y] ++ xs.drop i.toNat)))
theorem mt_insertU {X : Cx} : MtM X "list.insert" rInsert := mt_insert
theorem sm_insert {i j : Nat} {p : Addr} {ds : List PyData} (hi : Γ[i]? = some (some (.own p))) (hj : O[j]? = some (lstR K p ds)) (ha : EvM K C ta Γ O T1) (hb : EvM K C tb Γ O T2) (h1 : ∀ t, T1 t → ∃ k : Nat, t = .dat (.int k) ∧ k ≤ 1000) (h2 : ∀ t, T2 t → ∃ d, t = .dat d) (hz : ds.length ≤ 100000) :
    SM K C (tDrop (tBM K "list" rInsert (tVar i) (tCons ta (tCons tb tNil)))) Γ O (fun Γ' O' => Γ' = Γ ∧ ∃ (k : Nat) (d : PyData), T1 (.dat (.int k)) ∧ T2 (.dat d) ∧ O' = O.set j (lstR K p (ds.take k ++ [d] ++ ds.drop k))) R := fun D σ0 W e0 o n r => by
  obtain ⟨v, q1, q2⟩ := e0.at_ i _ hi
  have q2 : v = .ref p := q2
  subst q2
  obtain ⟨xs, hx, hd⟩ := o.ok _ (List.mem_of_getElem? hj)
  refine ⟨_, q1, .inl ⟨rfl, xs, SqL.of hx⟩, ?_⟩
  refine ha σ0 W e0 o _ fun t v W1 k1 g1 o1 a => ?_
  refine hb σ0 W1 (e0.same g1.same) o1 _ fun t' v' W2 k2 g2 o2 b => ?_
  obtain ⟨k, rfl, hk⟩ := h1 t k1
  obtain ⟨d, rfl⟩ := h2 t' k2
  obtain ⟨xs2, hx2, hd2⟩ := o2.ok _ (List.mem_of_getElem? hj)
  have hf : W2.F p = none := o2.nf p ⟨_, List.mem_of_getElem? hj, List.mem_singleton.mpr rfl⟩
  have ev := dp_int a
  refine ⟨p, xs2, (k : Int), v', rfl, by rw [ev], hx2, Nat.lt_of_le_of_lt (by rw [dpAll_len hd2]; exact hz) (by decide), by omega, by omega, ?_⟩
  have o3 := o2.upd (r' := lstR K p (ds.take k ++ [d] ++ ds.drop k)) (o := .lst (xs2.take k ++ [v'] ++ xs2.drop k)) hj (List.mem_singleton.mpr rfl) rfl hf ⟨_, upd_same, dpAll_app (dpAll_app (dpAll_take k hd2) (.cons b .nil)) (dpAll_drop k hd2)⟩
  rw [Int.toNat_natCast]
  exact n Γ _ σ0 (W2.own p _ hf) ⟨rfl, k, d, k1, k2, rfl⟩ ((g1.trans g2).trans (go_upd (r' := lstR K p (ds.take k ++ [d] ++ ds.drop k)) hj (List.mem_singleton.mpr rfl) rfl hf)) (e0.same (g1.trans g2).same) o3
end
end Ly
namespace Lk
open PySem PySem.Spec PyProof.Rows L2 Ly
variable {P : Program} {w : World} {K : PySem.W.Frag} {mg : Str → Option Value} {base : Heap} {C : Addr}
/-- THE RULE for a def that changes objects of its own -/
theorem ok_ofM {x qual : Str} {st : Stmt} {f : Addr} {fd : FuncData} {N ps : List Str} {k : Nat} {R : List Ty → Ty → Prop} (F : Fun K x qual st f fd) (S : FnScope N ps (defScope st)) (hl0 : ∀ as t, R as t → as.length = ps.length)
    (hb : ∀ (cdv : Value) (A : Around) (outer : List Env) (s : Shared) (H : Hp) (E : XK), Room k (A.deeper (envOfC qual (defScope st) s.heap.objs.size f cdv)) →
      ∃ t, PSs (cxOf CX0 P w K mg base N qual (defScope st) f cdv A outer s H E).nox (defBody st) t ∧ ∀ as ty, R as ty → SM K C t (startG N.length as) [] (fun _ _ => ty = .dat .none) (fun t' _ => t' = ty)) : FnOk P w K mg base CX0 (k + 1) f fd ps (FnD K C R) := by
  refine F.ok S (fun vs H Q E h => ?_) (fun cdv A outer s H vs Q E hr h => ?_)
  · obtain ⟨_, ts, t, _, a, hr, _⟩ := h
    rw [atAll_len a]
    exact hl0 ts t hr
  · obtain ⟨t, h1, h2⟩ := hb cdv A outer s H E hr
    exact ⟨t, h1, sm_body h h2⟩
end Lk
namespace Lk
open PySem PySem.Spec PyProof.Rows L2 Ly
section
variable {P : Program} {w : World} {K : PySem.W.Frag} {mg : Str → Option Value} {base : Heap} {C aL : Addr}
abbrev s_is_number : Stmt := topS 11
abbrev N_is_number : List Str := ["value"]
theorem sc_is_number : FnScope N_is_number ["value"] (defScope s_is_number) := ⟨rfl, rfl, rfl, by decide +kernel, rfl, by decide +kernel, by decide +kernel⟩
def R_is_number : List Ty → Ty → Prop := fun as t => ∃ i, as = [nI i] ∧ t = bI true
theorem ok_is_number {f : Addr} {fd : FuncData} (F : Fun K "is_number" "is_number" s_is_number f fd) (T : Tx K mg aL) : FnOk P w K mg base CX0 1 f fd ["value"] (FnD K C R_is_number) := by
  have nd := (sc_is_number).nd
  refine ok_of F sc_is_number (fun as t ⟨l, e, _⟩ => by subst e; rfl) fun cdv A outer s H E hr => ?_
  refine ⟨_, (pss_one (ps_ret (pe_and (pe_callB (kIsi K) (by rfl) T.n_isinstance boot_isinstance (pa_cons (pv 0) (pa_cons (pe_bltn (v := .ty "int") rfl T.n_int boot_int rfl) pa_nil))) (pe_one (pe_not (pe_callB (kIsi K) (by rfl) T.n_isinstance boot_isinstance (pa_cons (pv 0) (pa_cons (pe_bltn (v := .ty "bool") rfl T.n_bool boot_bool rfl) pa_nil)))))))),
      ?_⟩
  rintro as t ⟨i, rfl, rfl⟩
  refine sd_ret (ev_is (ev_andV (ev_isi (ev_var rfl) (fun _ h => nomatch h) (fun h => nomatch h) (b := true) ki_ii) fun _ => ev_notV (ev_isi (ev_var rfl) (fun _ h => nomatch h) (fun h => nomatch h) (b := false) ki_ib)) rfl) rfl
abbrev s_are_numbers : Stmt := topS 12
abbrev N_are_numbers : List Str := ["value", "many", "one"]
theorem sc_are_numbers : FnScope N_are_numbers ["value", "many"] (defScope s_are_numbers) := ⟨rfl, rfl, rfl, by decide +kernel, rfl, by decide +kernel, by decide +kernel⟩
def R_are_numbers : List Ty → Ty → Prop := fun as t => ∃ l, as = [dI l, nI (l.length : Int)] ∧ l.length ≤ 100000 ∧ t = bI true
theorem ok_are_numbers {f : Addr} {fd : FuncData} (F : Fun K "are_numbers" "are_numbers" s_are_numbers f fd) (T : Tx K mg aL) (c_is_number : Cal P w K mg base 1 "is_number" ["value"] (FnD K C R_is_number)) : FnOk P w K mg base CX0 2 f fd ["value", "many"] (FnD K C R_are_numbers) := by
  have nd := (sc_are_numbers).nd
  refine ok_of F sc_are_numbers (fun as t ⟨l, e, _⟩ => by subst e; rfl) fun cdv A outer s H E hr => ?_
  refine ⟨_, (pss_one (ps_ret (pe_and (pe_callB (kIsi K) (by rfl) T.n_isinstance boot_isinstance (pa_cons (pv 0) (pa_cons (pe_bltn (v := .ty "tuple") rfl T.n_tuple boot_tuple rfl) pa_nil))) (pe_and (pe_cmpR (kEq K hr.units) (pe_callB (kLen K) (by rfl) T.n_len PySem.boot_len (pa_cons (pv 0) pa_nil)) (pv 1) (nomark _)) (pe_one (pe_callB (kAll K rfl) (by rfl) T.n_all boot_all (pa_cons (pe_lc (own := [("one", 2)]) (g := gName 2) (tt := tYes) rfl nd (kSeq K (pv 0)) (blkOk_by (N := N_are_numbers) (sc := defScope s_are_numbers) (by decide +kernel)) (fun _ _ _ _ _ => (pg_name (i := 2) nd rfl (Or.inl rfl))) (fun _ _ _ _ _ => pts_nil) (fun _ _ _ _ _ => (pe_cal c_is_number (hr.mono (by decide)) (pa_cons (pv 2) pa_nil)))) pa_nil))))))),
      ?_⟩
  rintro as t ⟨l, rfl, hl, rfl⟩
  have e1 : EvD K C (tVar 0) (startG N_are_numbers.length [dI l, nI (l.length : Int)]) (dI l) := ev_var rfl
  refine sd_ret (ev_is (ev_andV (ev_isi e1 (fun _ h => nomatch h) (fun h => nomatch h) (b := true) ki_tt) fun _ => ev_andV (ev_eqD (ev_len (.inr e1)) (ev_var rfl) rfl rfl) fun _ => ev_all (l := l.map fun _ => true) (ev_dat (ev_is (ev_mapN (iv_I e1) hl (by decide) (f := fun _ => .bool true) fun i hi => ⟨ev_call (ea_cons (ev_var rfl) ea_nil) ⟨i, rfl, rfl⟩, rfl⟩) (by rw [List.map_map]; rfl)))) ?_) rfl
  rw [List.length_map]
  show Ty.dat (.bool (true && (((l.length : Int) == (l.length : Int)) && (l.map fun _ => true).all id))) = _
  rw [beq_self_eq_true, List.all_map]
  simp
abbrev s_plus : Stmt := topS 13
abbrev N_plus : List Str := ["one", "other", "a", "b"]
theorem sc_plus : FnScope N_plus ["one", "other"] (defScope s_plus) := ⟨rfl, rfl, rfl, by decide +kernel, rfl, by decide +kernel, by decide +kernel⟩
def padd (l m : List Int) : List Int := List.zipWith (· + ·) l m
def R_plus : List Ty → Ty → Prop := fun as t => ∃ l m, as = [dI l, dI m] ∧ l.length ≤ 1000 ∧ t = dI (padd l m)
theorem ok_plus {f : Addr} {fd : FuncData} (F : Fun K "plus" "plus" s_plus f fd) (T : Tx K mg aL) : FnOk P w K mg base CX0 1 f fd ["one", "other"] (FnD K C R_plus) := by
  have nd := (sc_plus).nd
  refine ok_of F sc_plus (fun as t ⟨l, m, e, _⟩ => by subst e; rfl) fun cdv A outer s H E hr => ?_
  refine ⟨_, (pss_one (ps_ret (pe_callTy (kTuple K) (by rfl) T.n_tuple boot_tuple (pa_cons (pe_lc (own := [("a", 2), ("b", 3)]) (g := gTup K 2 (gCons (gName 2) (gCons (gName 3) (gNil)))) (tt := tYes) rfl nd (kZip K T.n_zip (pa_cons (pv 0) (pa_cons (pv 1) pa_nil))) (blkOk_by (N := N_plus) (sc := defScope s_plus) (by decide +kernel)) (fun _ _ _ _ _ => (kPair K rfl (pgs_cons (pg_name (i := 2) nd rfl (Or.inl rfl)) (pgs_cons (pg_name (i := 3) nd rfl (Or.inl rfl)) pgs_nil)))) (fun _ _ _ _ _ => pts_nil) (fun _ _ _ _ _ => (pe_op (kAdd K) (pv 2) (pv 3)))) pa_nil)))),
      ?_⟩
  rintro as t ⟨l, m, rfl, hl, rfl⟩
  refine sd_ret (ev_tupTl (ev_is (ev_mapP (iv_zipI (ev_var rfl) (ev_var rfl)) (zip_len l m (by omega)) (by decide) (by decide) (f := fun p => .int (p.1 + p.2)) fun p hp => ⟨ev_addI (ev_var rfl) (ev_var rfl), rfl⟩) (congrArg Ty.tl (map_zip (fun a b => a + b) PyData.int l m)))) rfl
abbrev s_minus : Stmt := topS 14
abbrev N_minus : List Str := ["one", "other", "a", "b"]
theorem sc_minus : FnScope N_minus ["one", "other"] (defScope s_minus) := ⟨rfl, rfl, rfl, by decide +kernel, rfl, by decide +kernel, by decide +kernel⟩
def psub (l m : List Int) : List Int := List.zipWith (· - ·) l m
def R_minus : List Ty → Ty → Prop := fun as t => ∃ l m, as = [dI l, dI m] ∧ l.length ≤ 1000 ∧ t = dI (psub l m)
theorem ok_minus {f : Addr} {fd : FuncData} (F : Fun K "minus" "minus" s_minus f fd) (T : Tx K mg aL) : FnOk P w K mg base CX0 1 f fd ["one", "other"] (FnD K C R_minus) := by
  have nd := (sc_minus).nd
  refine ok_of F sc_minus (fun as t ⟨l, m, e, _⟩ => by subst e; rfl) fun cdv A outer s H E hr => ?_
  refine ⟨_, (pss_one (ps_ret (pe_callTy (kTuple K) (by rfl) T.n_tuple boot_tuple (pa_cons (pe_lc (own := [("a", 2), ("b", 3)]) (g := gTup K 2 (gCons (gName 2) (gCons (gName 3) (gNil)))) (tt := tYes) rfl nd (kZip K T.n_zip (pa_cons (pv 0) (pa_cons (pv 1) pa_nil))) (blkOk_by (N := N_minus) (sc := defScope s_minus) (by decide +kernel)) (fun _ _ _ _ _ => (kPair K rfl (pgs_cons (pg_name (i := 2) nd rfl (Or.inl rfl)) (pgs_cons (pg_name (i := 3) nd rfl (Or.inl rfl)) pgs_nil)))) (fun _ _ _ _ _ => pts_nil) (fun _ _ _ _ _ => (pe_op op_sub (pv 2) (pv 3)))) pa_nil)))),
      ?_⟩
  rintro as t ⟨l, m, rfl, hl, rfl⟩
  refine sd_ret (ev_tupTl (ev_is (ev_mapP (iv_zipI (ev_var rfl) (ev_var rfl)) (zip_len l m (by omega)) (by decide) (by decide) (f := fun p => .int (p.1 - p.2)) fun p hp => ⟨ev_subI (ev_var rfl) (ev_var rfl), rfl⟩) (congrArg Ty.tl (map_zip (fun a b => a - b) PyData.int l m)))) rfl
abbrev s_times : Stmt := topS 15
abbrev N_times : List Str := ["one", "other", "a", "b"]
theorem sc_times : FnScope N_times ["one", "other"] (defScope s_times) := ⟨rfl, rfl, rfl, by decide +kernel, rfl, by decide +kernel, by decide +kernel⟩
def R_times : List Ty → Ty → Prop := fun as t => ∃ l m, as = [dI l, dI m] ∧ l.length ≤ 1000 ∧ small l ∧ t = nI (dot l m)
theorem ok_times {f : Addr} {fd : FuncData} (F : Fun K "times" "times" s_times f fd) (T : Tx K mg aL) : FnOk P w K mg base CX0 1 f fd ["one", "other"] (FnD K C R_times) := by
  have nd := (sc_times).nd
  refine ok_of F sc_times (fun as t ⟨l, m, e, _⟩ => by subst e; rfl) fun cdv A outer s H E hr => ?_
  refine ⟨_, (pss_one (ps_ret (pe_callB (kSum K rfl) (by rfl) T.n_sum boot_sum (pa_cons (pe_lc (own := [("a", 2), ("b", 3)]) (g := gTup K 2 (gCons (gName 2) (gCons (gName 3) (gNil)))) (tt := tYes) rfl nd (kZip K T.n_zip (pa_cons (pv 0) (pa_cons (pv 1) pa_nil))) (blkOk_by (N := N_times) (sc := defScope s_times) (by decide +kernel)) (fun _ _ _ _ _ => (kPair K rfl (pgs_cons (pg_name (i := 2) nd rfl (Or.inl rfl)) (pgs_cons (pg_name (i := 3) nd rfl (Or.inl rfl)) pgs_nil)))) (fun _ _ _ _ _ => pts_nil) (fun _ _ _ _ _ => (pe_op (kMul K) (pv 2) (pv 3)))) pa_nil)))),
      ?_⟩
  rintro as t ⟨l, m, rfl, hl, hs, rfl⟩
  refine sd_ret (ev_sum (ev_dat (ev_is (ev_mapP (iv_zipI (ev_var rfl) (ev_var rfl)) (zip_len l m (by omega)) (by decide) (by decide) (f := fun p => .int (p.1 * p.2)) fun p hp => ⟨ev_mulU (ev_var rfl) (ev_var rfl) (.inl (hs p.1 (List.of_mem_zip hp).1)), rfl⟩) (congrArg Ty.tl (map_zip (fun a b => a * b) PyData.int l m))))) rfl
abbrev s_class_at : Stmt := topS 32
abbrev N_class_at : List Str := ["divisors", "place", "found", "one", "divisor"]
theorem sc_class_at : FnScope N_class_at ["divisors", "place"] (defScope s_class_at) := ⟨rfl, rfl, rfl, by decide +kernel, rfl, by decide +kernel, by decide +kernel⟩
/-- the number of a place's class -/
def clsFrom : Int → List (Int × Int) → Int
  | n, [] => n
  | n, (o, d) :: r => clsFrom (n * d + o % d) r
def clsAt (D l : List Int) : Int := clsFrom 0 (l.zip D)
theorem cls_take (as : List (Int × Int)) : ∀ (n : Int) (i : Nat) (a : Int × Int), as[i]? = some a → clsFrom n (as.take (i + 1)) = clsFrom n (as.take i) * a.2 + a.1 % a.2 := by
  induction as with
  | nil => intro n i a h; simp at h
  | cons b r ih =>
    intro n i a h
    cases i with
    | zero =>
      simp at h
      subst h
      rfl
    | succ i => exact ih _ i a (by simpa using h)
def R_class_at : List Ty → Ty → Prop := fun as t => ∃ D l, as = [dI D, dI l] ∧ l.length ≤ 1000 ∧ (∀ d ∈ D, 0 < d ∧ d < 1000) ∧ t = nI (clsAt D l)
theorem ok_class_at {f : Addr} {fd : FuncData} (F : Fun K "class_at" "class_at" s_class_at f fd) (T : Tx K mg aL) : FnOk P w K mg base CX0 1 f fd ["divisors", "place"] (FnD K C R_class_at) := by
  have nd := (sc_class_at).nd
  refine ok_of F sc_class_at (fun as t ⟨l, m, e, _⟩ => by subst e; rfl) fun cdv A outer s H E hr => ?_
  refine ⟨_, (pss_cons (ps_set (i := 2) nd rfl (Or.inl rfl) pe_int)
      (pss_cons (ps_for PassesOwn.never rfl (kZip K T.n_zip (pa_cons (pv 1) (pa_cons (pv 0) pa_nil))) (kPair K rfl (pgs_cons (pg_name (i := 3) nd rfl (Or.inl rfl)) (pgs_cons (pg_name (i := 4) nd rfl (Or.inl rfl)) pgs_nil))) (pss_one (ps_set (i := 2) nd rfl (Or.inl rfl) (pe_op (kAdd K) (pe_op (kMul K) (pv 2) (pv 4)) (pe_op op_mod (pv 3) (pv 4))))))
      (pss_one (ps_ret (pv 2))))),
      ?_⟩
  rintro as t ⟨D, l, rfl, hl, hD, rfl⟩
  refine sd_then (sd_set ev_int) (sd_seq (M := fun Γ => ∃ x y, Γ = [some (dI D), some (dI l), some (nI (clsAt D l)), x, y]) (sd_for (iv_zipI (ev_var (i := 1) rfl) (ev_var (i := 0) rfl)) (fun i Γ => ∃ x y, Γ = [some (dI D), some (dI l), some (nI (clsFrom 0 ((l.zip D).take i))), x, y]) ⟨none, none, rfl⟩ ?_ ?_) fun Γ ⟨x, y, e⟩ => by
    subst e
    exact sd_ret (ev_var rfl) rfl)
  · rintro i a _ ha ⟨x, y, rfl⟩
    have hm := List.of_mem_zip (List.mem_of_getElem? ha)
    refine ⟨_, [3, 4], tg_pair (by decide) (by decide), sd_weak (sd_set (ev_addI (ev_mulU (ev_var rfl) (ev_var rfl) (.inr ?_)) (ev_modI (ev_var rfl) (ev_var rfl) (hD _ hm.2).1))) (fun Γ e => ?_) fun _ h => h⟩
    · have := hD _ hm.2
      omega
    · subst e
      rw [cls_take _ _ _ _ ha]
      exact ⟨_, _, rfl⟩
  · rintro _ ⟨x, y, rfl⟩
    rw [List.take_length]
    exact ⟨_, _, rfl⟩
abbrev s_cell_count : Stmt := topS 27
abbrev N_cell_count : List Str := ["box", "found", "side"]
theorem sc_cell_count : FnScope N_cell_count ["box"] (defScope s_cell_count) := ⟨rfl, rfl, rfl, by decide +kernel, rfl, by decide +kernel, by decide +kernel⟩
def vol (l : List Int) : Int := l.foldl (· * ·) 1
def R_cell_count : List Ty → Ty → Prop := fun as t => ∃ l, as = [dI l] ∧ small l ∧ t = nI (vol l)
theorem ok_cell_count {f : Addr} {fd : FuncData} (F : Fun K "cell_count" "cell_count" s_cell_count f fd) (T : Tx K mg aL) : FnOk P w K mg base CX0 1 f fd ["box"] (FnD K C R_cell_count) := by
  have nd := (sc_cell_count).nd
  refine ok_of F sc_cell_count (fun as t ⟨l, e, _⟩ => by subst e; rfl) fun cdv A outer s H E hr => ?_
  refine ⟨_, (pss_cons (ps_set (i := 1) nd rfl (Or.inl rfl) pe_int)
      (pss_cons (ps_for PassesOwn.never rfl (kSeq K (pv 0)) (pg_name (i := 2) nd rfl (Or.inl rfl)) (pss_one (ps_aug (i := 1) nd rfl (Or.inl rfl) (pv 2) ip_mulU)))
      (pss_one (ps_ret (pv 1))))),
      ?_⟩
  rintro as t ⟨l, rfl, hl, rfl⟩
  refine sd_then (sd_set ev_int) (sd_seq (M := fun Γ => ∃ x, Γ = [some (dI l), some (nI (vol l)), x]) (sd_for (iv_I (ev_var rfl)) (fun i Γ => ∃ x, Γ = [some (dI l), some (nI (vol (l.take i))), x]) ⟨none, rfl⟩ ?_ ?_) fun Γ ⟨x, e⟩ => by
    subst e
    exact sd_ret (ev_var rfl) rfl)
  · rintro i a _ ha ⟨x, rfl⟩
    refine ⟨_, [2], tg_name (by decide), sd_weak (sd_augM rfl (ev_var rfl) (.inr (hl a (List.mem_of_getElem? ha)))) (fun Γ e => ?_) fun _ h => h⟩
    subst e
    rw [List.take_add_one, ha]
    unfold vol
    rw [show (some a).toList = [a] from rfl, List.foldl_append]
    exact ⟨_, rfl⟩
  · rintro _ ⟨x, rfl⟩
    rw [List.take_length]
    exact ⟨_, rfl⟩
abbrev s_is_in : Stmt := topS 29
abbrev N_is_in : List Str := ["box", "place", "at", "side"]
theorem sc_is_in : FnScope N_is_in ["box", "place"] (defScope s_is_in) := ⟨rfl, rfl, rfl, by decide +kernel, rfl, by decide +kernel, by decide +kernel⟩
/-- a place within a box -/
def inBox (b l : List Int) : Bool := (l.zip b).all fun p => decide (0 ≤ p.1) && decide (p.1 < p.2)
def R_is_in : List Ty → Ty → Prop := fun as t => ∃ b l, as = [dI b, dI l] ∧ l.length ≤ 1000 ∧ t = bI (inBox b l)
theorem ok_is_in {f : Addr} {fd : FuncData} (F : Fun K "is_in" "is_in" s_is_in f fd) (T : Tx K mg aL) : FnOk P w K mg base CX0 1 f fd ["box", "place"] (FnD K C R_is_in) := by
  have nd := (sc_is_in).nd
  refine ok_of F sc_is_in (fun as t ⟨l, m, e, _⟩ => by subst e; rfl) fun cdv A outer s H E hr => ?_
  refine ⟨_, (pss_one (ps_ret (pe_callB (kAll K rfl) (by rfl) T.n_all boot_all (pa_cons (pe_lc (own := [("at", 2), ("side", 3)]) (g := gTup K 2 (gCons (gName 2) (gCons (gName 3) (gNil)))) (tt := tYes) rfl nd (kZip K T.n_zip (pa_cons (pv 1) (pa_cons (pv 0) pa_nil))) (blkOk_by (N := N_is_in) (sc := defScope s_is_in) (by decide +kernel)) (fun _ _ _ _ _ => (kPair K rfl (pgs_cons (pg_name (i := 2) nd rfl (Or.inl rfl)) (pgs_cons (pg_name (i := 3) nd rfl (Or.inl rfl)) pgs_nil)))) (fun _ _ _ _ _ => pts_nil) (fun _ _ _ _ _ => (pe_chain op_le op_lt pe_int (pv 2) (pv 3)))) pa_nil)))),
      ?_⟩
  rintro as t ⟨b, l, rfl, hl, rfl⟩
  refine sd_ret (ev_is (ev_all (l := (l.zip b).map fun p => decide (0 ≤ p.1) && decide (p.1 < p.2)) (ev_dat (ev_is (ev_mapP (iv_zipI (ev_var (i := 1) rfl) (ev_var (i := 0) rfl)) (zip_len l b (by omega)) (by decide) (by decide) (f := fun p => .bool (decide (0 ≤ p.1) && decide (p.1 < p.2))) fun p hp => ⟨ev_leLt ev_int (ev_var rfl) (ev_var rfl), rfl⟩) (by rw [List.map_map]; rfl)))) ?_) rfl
  rw [List.all_map]
  rfl
end
end Lk
namespace Lk
open PySem PySem.Spec PyProof.Rows L2 Ly
theorem cutD_pre {ds : List PyData} {i : Nat} : Ly.cutD ds none (some (i : Int)) = ds.take i := by
  unfold Ly.cutD
  rw [HT.sIx_none, HT.sIx_nat, List.drop_zero, Nat.sub_zero]
  rcases Nat.le_total i ds.length with h | h
  · rw [Nat.min_eq_left h]
  · rw [Nat.min_eq_right h, List.take_of_length_le h, List.take_of_length_le (Nat.le_refl _)]
theorem cutD_suf {ds : List PyData} {i : Nat} : Ly.cutD ds (some (i : Int)) none = ds.drop i := by
  unfold Ly.cutD
  rw [HT.sIx_none, HT.sIx_nat]
  rcases Nat.le_total i ds.length with h | h
  · rw [Nat.min_eq_left h]
    exact List.take_of_length_le (by rw [List.length_drop]; exact Nat.le_refl _)
  · rw [Nat.min_eq_right h, List.drop_of_length_le (Nat.le_refl _), List.drop_of_length_le h, List.take_nil]
theorem atI_nat {α : Type} {xs : List α} {i : Nat} {a : α} (h : xs[i]? = some a) : atI xs (i : Int) = some a := by
  have hi := (List.getElem?_eq_some_iff.mp h).1
  unfold atI ixN
  rw [if_pos (by omega), if_pos (by omega), Int.toNat_natCast]
  exact h
section
variable {P : Program} {w : World} {K : PySem.W.Frag} {mg : Str → Option Value} {base : Heap} {C aL : Addr}
abbrev s_need_place : Stmt := topS 25
abbrev N_need_place : List Str := ["value", "many"]
theorem sc_need_place : FnScope N_need_place ["value", "many"] (defScope s_need_place) := ⟨rfl, rfl, rfl, by decide +kernel, rfl, by decide +kernel, by decide +kernel⟩
def R_need_place : List Ty → Ty → Prop := fun as t => ∃ l, as = [dI l, nI (l.length : Int)] ∧ l.length ≤ 100000 ∧ t = .dat .none
theorem ok_need_place {f : Addr} {fd : FuncData} (F : Fun K "need_place" "need_place" s_need_place f fd) (T : Tx K mg aL) (c_are_numbers : Cal P w K mg base 2 "are_numbers" ["value", "many"] (FnD K C R_are_numbers)) : FnOk P w K mg base CX0 3 f fd ["value", "many"] (FnD K C R_need_place) := by
  have nd := (sc_need_place).nd
  refine ok_of F sc_need_place (fun as t ⟨l, e, _⟩ => by subst e; rfl) fun cdv A outer s H E hr => ?_
  refine ⟨_, (pss_one (ps_if (pt_not (pt_val (pe_cal c_are_numbers (hr.mono (by decide)) (pa_cons (pv 0) (pa_cons (pv 1) pa_nil))))) (pss_one ps_never) pss_nil)),
      ?_⟩
  rintro as t ⟨l, rfl, hl, rfl⟩
  exact sd_if (b := !true) (eb_not (eb_test (ev_call (ea_cons (ev_var rfl) (ea_cons (ev_var rfl) ea_nil)) ⟨l, rfl, hl, rfl⟩))) (fun h => by cases h) fun _ => sd_next rfl
abbrev s_need_box : Stmt := topS 26
abbrev N_need_box : List Str := ["value", "many", "side"]
theorem sc_need_box : FnScope N_need_box ["value", "many"] (defScope s_need_box) := ⟨rfl, rfl, rfl, by decide +kernel, rfl, by decide +kernel, by decide +kernel⟩
def R_need_box : List Ty → Ty → Prop := fun as t => ∃ l, as = [dI l, nI (l.length : Int)] ∧ l.length ≤ 100000 ∧ (∀ i ∈ l, 0 ≤ i) ∧ t = .dat .none
theorem ok_need_box {f : Addr} {fd : FuncData} (F : Fun K "need_box" "need_box" s_need_box f fd) (T : Tx K mg aL) (c_are_numbers : Cal P w K mg base 2 "are_numbers" ["value", "many"] (FnD K C R_are_numbers)) : FnOk P w K mg base CX0 3 f fd ["value", "many"] (FnD K C R_need_box) := by
  have nd := (sc_need_box).nd
  refine ok_of F sc_need_box (fun as t ⟨l, e, _⟩ => by subst e; rfl) fun cdv A outer s H E hr => ?_
  refine ⟨_, (pss_one (ps_if (PW.pt (pw_or (pt_not (pt_val (pe_cal c_are_numbers (hr.mono (by decide)) (pa_cons (pv 0) (pa_cons (pv 1) pa_nil))))) (pw_or1 (pt_val (pe_callB (kAny K rfl) (by rfl) T.n_any boot_any (pa_cons (pe_lc (own := [("side", 2)]) (g := gName 2) (tt := tYes) rfl nd (kSeq K (pv 0)) (blkOk_by (N := N_need_box) (sc := defScope s_need_box) (by decide +kernel)) (fun _ _ _ _ _ => (pg_name (i := 2) nd rfl (Or.inl rfl))) (fun _ _ _ _ _ => pts_nil) (fun _ _ _ _ _ => (pe_cmpR (kLt K hr.units0) (pv 2) pe_int (nomark _)))) pa_nil)))))) (pss_one ps_never) pss_nil)),
      ?_⟩
  rintro as t ⟨l, rfl, hl, h0, rfl⟩
  refine sd_if (b := !true || (l.map fun i => decide (i < 0)).any id) (eb_or (eb_not (eb_test (ev_call (ea_cons (ev_var rfl) (ea_cons (ev_var rfl) ea_nil)) ⟨l, rfl, hl, rfl⟩))) fun _ => eb_test (ev_any (ev_dat (ev_is (ev_mapN (iv_I (ev_var rfl)) hl (by decide) (f := fun i => .bool (decide (i < 0))) fun i hi => ⟨ev_ltI (ev_var rfl) ev_int, rfl⟩) (by rw [List.map_map]; rfl))))) (fun h => ?_) fun _ => sd_next rfl
  exfalso
  rw [List.any_map] at h
  simp only [Bool.not_true, Bool.false_or, List.any_eq_true] at h
  obtain ⟨i, hi, h⟩ := h
  have h1 := of_decide_eq_true (show decide (i < 0) = true from h)
  have h2 := h0 i hi
  omega
abbrev s_need_cells : Stmt := topS 28
abbrev N_need_cells : List Str := ["box", "many"]
theorem sc_need_cells : FnScope N_need_cells ["box", "many"] (defScope s_need_cells) := ⟨rfl, rfl, rfl, by decide +kernel, rfl, by decide +kernel, by decide +kernel⟩
def R_need_cells : List Ty → Ty → Prop := fun as t => ∃ l, as = [dI l, nI (l.length : Int)] ∧ l.length ≤ 100000 ∧ (∀ i ∈ l, 0 ≤ i) ∧ small l ∧ vol l ≤ 2000 ∧ t = .dat .none
theorem ok_need_cells {f : Addr} {fd : FuncData} (F : Fun K "need_cells" "need_cells" s_need_cells f fd) (T : Tx K mg aL) (c_need_box : Cal P w K mg base 3 "need_box" ["value", "many"] (FnD K C R_need_box)) (c_cell_count : Cal P w K mg base 1 "cell_count" ["box"] (FnD K C R_cell_count)) : FnOk P w K mg base CX0 4 f fd ["box", "many"] (FnD K C R_need_cells) := by
  have nd := (sc_need_cells).nd
  refine ok_of F sc_need_cells (fun as t ⟨l, e, _⟩ => by subst e; rfl) fun cdv A outer s H E hr => ?_
  refine ⟨_, (pss_cons (ps_expr (pe_cal c_need_box (hr.mono (by decide)) (pa_cons (pv 0) (pa_cons (pv 1) pa_nil))))
      (pss_one (ps_if (pt_cmpR op_gt (pe_cal c_cell_count (hr.mono (by decide)) (pa_cons (pv 0) pa_nil)) (pe_gi T.c_MAX_CELLS) (nomark _)) (pss_one ps_never) pss_nil))),
      ?_⟩
  rintro as t ⟨l, rfl, hl, h0, hs, hv, rfl⟩
  refine sd_then (sd_drop (ev_call (ea_cons (ev_var rfl) (ea_cons (ev_var rfl) ea_nil)) ⟨l, rfl, hl, h0, rfl⟩)) (sd_if (eb_test (ev_gtI (ev_call (ea_cons (ev_var rfl) ea_nil) ⟨l, rfl, hs, rfl⟩) ev_int)) (fun h => ?_) fun _ => sd_next rfl)
  have := of_decide_eq_true h
  omega
abbrev s_is_look : Stmt := topS 19
abbrev N_is_look : List Str := ["value", "directions", "one"]
theorem sc_is_look : FnScope N_is_look ["value", "directions"] (defScope s_is_look) := ⟨rfl, rfl, rfl, by decide +kernel, rfl, by decide +kernel, by decide +kernel⟩
def okLook (n : Nat) (l : List Int) : Prop := l.length = n ∧ l ≠ List.replicate n 0 ∧ ∀ i ∈ l, -9 ≤ i ∧ i ≤ 9
def R_is_look : List Ty → Ty → Prop := fun as t => ∃ n l, as = [dI l, nI ((n : Nat) : Int)] ∧ n ≤ 1000 ∧ okLook n l ∧ t = bI true
theorem rep0_pI (n : Nat) : PyData.tuple (List.replicate n (.int 0)) = pI (List.replicate n 0) := by
  unfold pI
  rw [List.map_replicate]
theorem ok_is_look {f : Addr} {fd : FuncData} (F : Fun K "is_look" "is_look" s_is_look f fd) (T : Tx K mg aL) (c_are_numbers : Cal P w K mg base 2 "are_numbers" ["value", "many"] (FnD K C R_are_numbers)) : FnOk P w K mg base CX0 3 f fd ["value", "directions"] (FnD K C R_is_look) := by
  have nd := (sc_is_look).nd
  refine ok_of F sc_is_look (fun as t ⟨n, l, e, _⟩ => by subst e; rfl) fun cdv A outer s H E hr => ?_
  refine ⟨_, (pss_cons (ps_if (PW.pt (pw_or (pt_not (pt_val (pe_cal c_are_numbers (hr.mono (by decide)) (pa_cons (pv 0) (pa_cons (pv 1) pa_nil))))) (pw_or1 (pt_cmpR (kEq K hr.units) (pv 0) (pe_op (kMul K) (pe_tup (pa_cons pe_int pa_nil)) (pv 1)) (nomark _))))) (pss_one (ps_ret pe_bl)) pss_nil)
      (pss_one (ps_ret (pe_callB (kAll K rfl) (by rfl) T.n_all boot_all (pa_cons (pe_lc (own := [("one", 2)]) (g := gName 2) (tt := tYes) rfl nd (kSeq K (pv 0)) (blkOk_by (N := N_is_look) (sc := defScope s_is_look) (by decide +kernel)) (fun _ _ _ _ _ => (pg_name (i := 2) nd rfl (Or.inl rfl))) (fun _ _ _ _ _ => pts_nil) (fun _ _ _ _ _ => (pe_cmpR op_le (pe_callB cr_abs (by rfl) T.n_abs boot_abs (pa_cons (pv 2) pa_nil)) (pe_gi T.c_MAX_REACH) (nomark _)))) pa_nil))))),
      ?_⟩
  rintro as t ⟨n, l, rfl, hn, ⟨rfl, hne, h9⟩, rfl⟩
  have rep : EvD K C (tOp (rMulU K) (tTup (tCons (tC (.int 0)) tNil)) (tVar 1)) (startG N_is_look.length [dI l, nI (l.length : Int)]) (dI (List.replicate l.length 0)) := ev_is (ev_rep1 (ev_tup (ea_cons ev_int ea_nil) rfl (by decide)) (ev_var rfl) hn) (congrArg Ty.dat (rep0_pI _))
  refine sd_seq (M := (· = startG N_is_look.length [dI l, nI (l.length : Int)])) (sd_if (b := !true || decide (l = List.replicate l.length 0)) (eb_or (eb_not (eb_test (ev_call (ea_cons (ev_var rfl) (ea_cons (ev_var rfl) ea_nil)) ⟨l, rfl, by omega, rfl⟩))) fun _ => eb_is (eb_test (ev_eqD (ev_var rfl) rep (shaped_pI _) (shaped_pI _))) (eqv_pI _ _)) (fun h => ?_) fun _ => sd_next rfl) ?_
  · exfalso
    exact hne (of_decide_eq_true h)
  · rintro _ rfl
    refine sd_ret (ev_is (ev_all (l := l.map fun i => decide ((if i < 0 then -i else i) ≤ 9)) (ev_dat (ev_is (ev_mapN (iv_I (ev_var rfl)) (by omega) (by decide) (f := fun i => .bool (decide ((if i < 0 then -i else i) ≤ 9))) fun i hi => ⟨ev_leI (ev_abs (ev_var rfl)) ev_int, rfl⟩) (by rw [List.map_map]; rfl)))) ?_) rfl
    rw [List.all_map]
    congr 2
    refine List.all_eq_true.mpr fun i hi => decide_eq_true ?_
    have := h9 i hi
    split <;> omega
abbrev s_need_looks : Stmt := topS 20
abbrev N_need_looks : List Str := ["looks", "directions", "index", "look"]
theorem sc_need_looks : FnScope N_need_looks ["looks", "directions"] (defScope s_need_looks) := ⟨rfl, rfl, rfl, by decide +kernel, rfl, by decide +kernel, by decide +kernel⟩
structure OkLooks (n : Nat) (ls : List (List Int)) : Prop where
  each : ∀ l ∈ ls, okLook n l
  nodup : ls.Nodup
  pos : 1 ≤ ls.length
  most : ls.length ≤ 4
def seqOf (b : Bool) (ds : List PyData) : PyData := if b then .tuple ds else .list ds
def R_need_looks : List Ty → Ty → Prop := fun as t => ∃ n ls b, as = [.dat (seqOf b (ls.map pI)), nI ((n : Nat) : Int)] ∧ n ≤ 1000 ∧ OkLooks n ls ∧ t = .dat .none
theorem take_nodup {α : Type} {l : List α} (h : l.Nodup) {i : Nat} {a : α} (hi : l[i]? = some a) : a ∉ l.take i := fun hm => by
  obtain ⟨j, hj, e⟩ := List.mem_iff_getElem.mp hm
  rw [List.length_take] at hj
  have hji : j < i := by omega
  obtain ⟨hi', e'⟩ := List.getElem?_eq_some_iff.mp hi
  rw [List.getElem_take] at e
  have := (List.pairwise_iff_getElem.mp h) j i (by omega) hi' hji
  exact this (by rw [e, e'])
theorem ok_need_looks {f : Addr} {fd : FuncData} (F : Fun K "need_looks" "need_looks" s_need_looks f fd) (T : Tx K mg aL) (c_is_look : Cal P w K mg base 3 "is_look" ["value", "directions"] (FnD K C R_is_look)) : FnOk P w K mg base CX0 4 f fd ["looks", "directions"] (FnD K C R_need_looks) := by
  have nd := (sc_need_looks).nd
  refine ok_of F sc_need_looks (fun as t ⟨n, l, b, e, _⟩ => by subst e; rfl) fun cdv A outer s H E hr => ?_
  refine ⟨_, (pss_cons (ps_for PassesOwn.never rfl (kEnum K T.n_enumerate (pa_cons (pv 0) pa_nil)) (kPair K rfl (pgs_cons (pg_name (i := 2) nd rfl (Or.inl rfl)) (pgs_cons (pg_name (i := 3) nd rfl (Or.inl rfl)) pgs_nil))) (pss_one (ps_if (PW.pt (pw_or (pt_not (pt_val (pe_cal c_is_look (hr.mono (by decide)) (pa_cons (pv 3) (pa_cons (pv 1) pa_nil))))) (pw_or1 (pt_cmpR (kIn K (hu65 hr)) (pv 3) (pe_slice (kSl K) (pv 0) po_none (po_some (pv 2))) (by rfl))))) (pss_one ps_never) pss_nil)))
      (pss_one (ps_if (pt_not (pt_chain op_le op_le pe_int (pe_callB (kLen K) (by rfl) T.n_len PySem.boot_len (pa_cons (pv 0) pa_nil)) (pe_gi T.c_MAX_LOOKS))) (pss_one ps_never) pss_nil))),
      ?_⟩
  rintro as t ⟨n, ls, b, rfl, hn, ok, rfl⟩
  have hv : ∀ (Γ : Ev), Γ[0]? = some (some (.dat (seqOf b (ls.map pI)))) → EvD K C (tVar 0) Γ (.dat (.tuple (ls.map pI))) ∨ EvD K C (tVar 0) Γ (.dat (.list (ls.map pI))) := fun Γ h => by
    cases b with
    | true => exact .inl (ev_var h)
    | false => exact .inr (ev_var h)
  refine sd_seq (M := fun Γ => ∃ x y, Γ = [some (.dat (seqOf b (ls.map pI))), some (nI (n : Int)), x, y]) (sd_for (iv_enM (hv _ rfl)) (fun i Γ => ∃ x y, Γ = [some (.dat (seqOf b (ls.map pI))), some (nI (n : Int)), x, y]) ⟨none, none, rfl⟩ ?_ fun Γ h => h) ?_
  · rintro i ⟨l, j⟩ _ ha ⟨x, y, rfl⟩
    rw [List.getElem?_zipIdx] at ha
    obtain ⟨l', hl, e⟩ : ∃ l', ls[i]? = some l' ∧ (l', i) = (l, j) := by
      cases q : ls[i]? with
      | none => rw [q] at ha; cases ha
      | some l' =>
        rw [q] at ha
        refine ⟨l', rfl, ?_⟩
        have z := Option.some.inj ha
        simpa using z
    cases e
    have hml : l ∈ ls := List.mem_of_getElem? hl
    refine ⟨_, [2, 3], tg_pair (by decide) (by decide), ?_⟩
    refine sd_if (b := !true || decide (l ∈ ls.take i)) (eb_or (eb_not (eb_test (ev_call (ea_cons (ev_var rfl) (ea_cons (ev_var rfl) ea_nil)) ⟨n, l, rfl, hn, ok.each l hml, rfl⟩))) fun _ => ?_) (fun h => ?_) fun _ => sd_next ⟨_, _, rfl⟩
    · refine eb_is (eb_test (ev_in (d := pI l) (ds := (ls.take i).map pI) (ev_var rfl) ?_ (shaped_pI _) (shaped_cells _))) (by rw [if_neg Bool.false_ne_true]; exact any_cells _ _)
      rcases hv ((([some (.dat (seqOf b (ls.map pI))), some (nI (n : Int)), x, y] : Ev).set 2 (some (.dat (.int (i : Nat))))).set 3 (some (.dat (pI l)))) rfl with h | h
      · refine .inr (ev_is (ev_slT h eo_none (eo_some (ev_var (t := nI (i : Nat)) rfl))) ?_)
        rw [cutD_pre, List.map_take]
      · refine .inl (ev_dat (ev_is (ev_slL h eo_none (eo_some (ev_var (t := nI (i : Nat)) rfl))) ?_))
        rw [cutD_pre, List.map_take]
    · exfalso
      exact take_nodup ok.nodup hl (of_decide_eq_true h)
  · rintro _ ⟨x, y, rfl⟩
    have hlen : EvD K C (tCB (rLenU K) (tCons (tVar 0) tNil)) [some (.dat (seqOf b (ls.map pI))), some (nI (n : Int)), x, y] (nI (ls.length : Int)) := by
      have h := hv [some (.dat (seqOf b (ls.map pI))), some (nI (n : Int)), x, y] rfl
      exact ev_is (ev_len (h.symm)) (by rw [List.length_map])
    refine sd_if (eb_not (eb_test (ev_leLe ev_int hlen ev_int))) (fun h => ?_) fun _ => sd_next rfl
    exfalso
    have h1 := ok.pos
    have h2 := ok.most
    simp only [Bool.not_eq_true', Bool.and_eq_false_iff, decide_eq_false_iff_not] at h
    omega
abbrev s_class_count : Stmt := topS 31
abbrev N_class_count : List Str := ["divisors", "found", "one"]
theorem sc_class_count : FnScope N_class_count ["divisors"] (defScope s_class_count) := ⟨rfl, rfl, rfl, by decide +kernel, rfl, by decide +kernel, by decide +kernel⟩
structure OkDiv (D : List Int) : Prop where
  pos : 1 ≤ D.length
  most : D.length ≤ 3
  each : ∀ d ∈ D, 0 < d ∧ d ≤ 12
  vol : vol D ≤ 12
def R_class_count : List Ty → Ty → Prop := fun as t => ∃ D, as = [dI D] ∧ OkDiv D ∧ t = nI (vol D)
theorem OkDiv.small {D : List Int} (h : OkDiv D) : Lk.small D := fun i hi => by
  have := h.each i hi
  constructor <;> omega
theorem ok_class_count {f : Addr} {fd : FuncData} (F : Fun K "class_count" "class_count" s_class_count f fd) (T : Tx K mg aL) (c_is_number : Cal P w K mg base 1 "is_number" ["value"] (FnD K C R_is_number)) (c_cell_count : Cal P w K mg base 1 "cell_count" ["box"] (FnD K C R_cell_count)) : FnOk P w K mg base CX0 2 f fd ["divisors"] (FnD K C R_class_count) := by
  have nd := (sc_class_count).nd
  refine ok_of F sc_class_count (fun as t ⟨n, e, _⟩ => by subst e; rfl) fun cdv A outer s H E hr => ?_
  refine ⟨_, (pss_cons (ps_if (PW.pt (pw_or (pt_not (pt_val (pe_callB (kIsi K) (by rfl) T.n_isinstance boot_isinstance (pa_cons (pv 0) (pa_cons (pe_bltn (v := .ty "tuple") rfl T.n_tuple boot_tuple rfl) pa_nil))))) (pw_or1 (pt_not (pt_chain op_le op_le pe_int (pe_callB (kLen K) (by rfl) T.n_len PySem.boot_len (pa_cons (pv 0) pa_nil)) (pe_gi T.c_MAX_DIRECTIONS)))))) (pss_one ps_never) pss_nil)
      (pss_cons (ps_if (pt_not (pt_val (pe_callB (kAll K rfl) (by rfl) T.n_all boot_all (pa_cons (pe_lc (own := [("one", 2)]) (g := gName 2) (tt := tYes) rfl nd (kSeq K (pv 0)) (blkOk_by (N := N_class_count) (sc := defScope s_class_count) (by decide +kernel)) (fun _ _ _ _ _ => (pg_name (i := 2) nd rfl (Or.inl rfl))) (fun _ _ _ _ _ => pts_nil) (fun _ _ _ _ _ => (pe_and (pe_cal c_is_number (hr.mono (by decide)) (pa_cons (pv 2) pa_nil)) (pe_one (pe_cmpR op_gt (pv 2) pe_int (nomark _)))))) pa_nil)))) (pss_one ps_never) pss_nil)
      (pss_cons (ps_set (i := 1) nd rfl (Or.inl rfl) (pe_cal c_cell_count (hr.mono (by decide)) (pa_cons (pv 0) pa_nil)))
      (pss_cons (ps_if (pt_cmpR op_gt (pv 1) (pe_gi T.c_MAX_CLASSES) (nomark _)) (pss_one ps_never) pss_nil)
      (pss_one (ps_ret (pv 1))))))),
      ?_⟩
  rintro as t ⟨D, rfl, ok, rfl⟩
  have v0 : EvD K C (tVar 0) (startG N_class_count.length [dI D]) (dI D) := ev_var rfl
  have hlen := ok.most
  have hpos := ok.pos
  refine sd_seq (M := (· = startG N_class_count.length [dI D])) (sd_if (b := !true || !(decide ((1 : Int) ≤ (D.length : Int)) && decide ((D.length : Int) ≤ 3))) (eb_or (eb_not (eb_test (ev_isi v0 (fun _ h => nomatch h) (fun h => nomatch h) (b := true) ki_tt))) fun _ => eb_not (eb_test (ev_leLe ev_int (ev_is (ev_len (.inr v0)) (by rw [List.length_map])) ev_int))) (fun h => ?_) fun _ => sd_next rfl) ?_
  · exfalso
    simp only [Bool.not_true, Bool.false_or, Bool.not_eq_true', Bool.and_eq_false_iff, decide_eq_false_iff_not] at h
    omega
  rintro _ rfl
  refine sd_seq (M := (· = startG N_class_count.length [dI D])) (sd_if (eb_not (eb_test (ev_all (l := D.map fun d => true && decide (0 < d)) (ev_dat (ev_is (ev_mapN (iv_I v0) (by omega) (by decide) (f := fun d => .bool (true && decide (0 < d))) fun i hi => ⟨ev_andV (ev_call (ea_cons (ev_var rfl) ea_nil) ⟨i, rfl, rfl⟩) fun _ => ev_gtI (ev_var rfl) ev_int, rfl⟩) (by rw [List.map_map]; rfl)))))) (fun h => ?_) fun _ => sd_next rfl) ?_
  · exfalso
    have h2 : D.all (id ∘ fun d => true && decide (0 < d)) = true := List.all_eq_true.mpr fun d hd => decide_eq_true (ok.each d hd).1
    rw [List.all_map, h2] at h
    cases h
  rintro _ rfl
  refine sd_then (sd_set (ev_call (ea_cons v0 ea_nil) ⟨D, rfl, ok.small, rfl⟩)) ?_
  refine sd_then (Γ' := [some (dI D), some (nI (vol D)), none]) (sd_if (eb_test (ev_gtI (ev_var rfl) ev_int)) (fun h => ?_) fun _ => sd_next rfl) (sd_ret (ev_var rfl) rfl)
  exfalso
  have h1 := of_decide_eq_true h
  have h2 := ok.vol
  omega
end
end Lk
namespace Lk
open PySem PySem.Spec PyProof.Rows L2 Ly
theorem shaped_str (x : Str) (h : PyData.strOk x = true) : SeqAt.shaped (.str x) = true := by
  unfold SeqAt.shaped
  rw [(str_ok x h).1, (str_ok x h).2]
  rfl
theorem shaped_snd {a b : PyData} (h : SeqAt.shaped (.tuple [a, b]) = true) : SeqAt.shaped b = true := by
  unfold SeqAt.shaped at h ⊢
  rw [Bool.and_eq_true, decide_eq_true_iff] at h ⊢
  obtain ⟨h1, h2⟩ := h
  simp only [PyData.canLay0, PyData.canLayAll0, Bool.and_eq_true] at h1
  simp only [PyData.depth, PyData.depthAll] at h2
  exact ⟨h1.2.1, by omega⟩
def grpD (ps : List (List Int × Tr)) : PyData := .tuple (toDs ps)
section
variable {P : Program} {w : World} {K : PySem.W.Frag} {mg : Str → Option Value} {base : Heap} {C aL : Addr}
abbrev s_group_at : Stmt := topS 49
abbrev N_group_at : List Str := ["groups", "number", "at", "group"]
theorem sc_group_at : FnScope N_group_at ["groups", "number"] (defScope s_group_at) := ⟨rfl, rfl, rfl, by decide +kernel, rfl, by decide +kernel, by decide +kernel⟩
def R_group_at : List Ty → Ty → Prop := fun as t => ∃ ps c, as = [.dat (grpD ps), nI c] ∧ ps.length ≤ 1000 ∧ (∃ p ∈ ps, c ∈ p.1) ∧ t = nI (gat c (ps.map (·.1)) : Nat)
theorem findIdx_map {α β : Type} (f : α → β) (p : β → Bool) : ∀ l : List α, (l.map f).findIdx p = l.findIdx fun a => p (f a)
  | [] => rfl
  | a :: l => by rw [List.map_cons, List.findIdx_cons, List.findIdx_cons, findIdx_map f p l]
theorem any_ints (l : List Int) (c : Int) : ((l.map PyData.int).any fun z => PyData.eqv z (.int c)) = decide (c ∈ l) := by
  induction l with
  | nil => simp
  | cons a r ih =>
    rw [List.map_cons, List.any_cons, ih]
    simp only [List.mem_cons, Bool.decide_or, PyData.eqv]
    congr 1
    rw [Bool.eq_iff_iff, decide_eq_true_iff, beq_iff_eq]
    exact eq_comm
theorem shaped_ints (l : List Int) : SeqAt.shaped (.list (l.map .int)) = true := shaped_lst fun d hd => by
  obtain ⟨i, _, rfl⟩ := List.mem_map.mp hd
  exact ⟨by rw [PyData.canLay0], by rw [PyData.depth]; decide⟩
theorem shaped_int (i : Int) : SeqAt.shaped (.int i) = true := rfl
theorem ok_group_at {f : Addr} {fd : FuncData} (F : Fun K "group_at" "group_at" s_group_at f fd) (T : Tx K mg aL) : FnOk P w K mg base CX0 1 f fd ["groups", "number"] (FnD K C R_group_at) := by
  have nd := (sc_group_at).nd
  refine ok_of F sc_group_at (fun as t ⟨n, l, e0, _⟩ => by subst e0; rfl) fun cdv A outer s H E hr => ?_
  refine ⟨_, (pss_one (ps_ret (pe_ix (kIx K) (pe_lc (own := [("at", 2), ("group", 3)]) (g := gTup K 2 (gCons (gName 2) (gCons (gName 3) (gNil)))) rfl nd (kEnum K T.n_enumerate (pa_cons (pv 0) pa_nil)) (blkOk_by (N := N_group_at) (sc := defScope s_group_at) (by decide +kernel)) (fun _ _ _ _ _ => (kPair K rfl (pgs_cons (pg_name (i := 2) nd rfl (Or.inl rfl)) (pgs_cons (pg_name (i := 3) nd rfl (Or.inl rfl)) pgs_nil)))) (fun _ _ _ _ _ => (pts_one (pt_cmpR (kIn K (hu65 hr)) (pv 1) (pe_ix (kIx K) (pv 3) pe_int (fun _ _ => rfl)) (by rfl)))) (fun _ _ _ _ _ => (pv 2))) pe_int (fun _ _ => rfl)))),
      ?_⟩
  rintro as t ⟨ps, c, rfl, hl, hex, rfl⟩
  have v0 : EvD K C (tVar 0) (startG N_group_at.length [.dat (grpD ps), nI c]) (.dat (.tuple (ps.map fun p => .tuple [pI p.1, p.2.toD]))) := ev_is (ev_var rfl) (congrArg Ty.dat (congrArg PyData.tuple (toDs_map ps)))
  refine sd_ret (ev_ixL (ev_dat (ev_lcP (iv_enM (.inl v0)) (by rw [List.length_zipIdx]; omega) (by decide) (by decide) (p := fun a => decide (c ∈ a.1.1)) (f := fun a => .int ((a.2 : Nat) : Int)) fun a ha => ⟨?_, fun _ => ⟨ev_var rfl, rfl⟩⟩)) ev_int (atI_nat (i := 0) ?_)) rfl
  · refine eb_is (eb_test (ev_in (neg := false) (d := .int c) (ds := a.1.1.map .int) (ev_var rfl) (.inr (ev_ixT (ev_var rfl) ev_int rfl)) (shaped_int c) (shaped_ints _))) ?_
    rw
        [if_neg Bool.false_ne_true]
    exact any_ints _ _
  · have h := gat_first (fun p : List Int × Tr => decide (c ∈ p.1)) ps 0 (by
      obtain ⟨p, hp, h⟩ := hex
      exact ⟨p, hp, decide_eq_true h⟩)
    rw [List.getElem?_map] at h ⊢
    cases q : ((ps.zipIdx).filter fun a => decide (c ∈ a.1.1))[0]? with
    | none => rw [q] at h; cases h
    | some a =>
      rw [q] at h
      have e0 := Option.some.inj h
      show some (PyData.int ((a.2 : Nat) : Int)) = _
      have e0 : a.2 = 0 + _ := e0
      unfold gat
      rw [findIdx_map, e0, Nat.zero_add]
abbrev s_below : Stmt := topS 46
abbrev N_below : List Str := ["node", "group"]
theorem sc_below : FnScope N_below ["node"] (defScope s_below) := ⟨rfl, rfl, rfl, by decide +kernel, rfl, by decide +kernel, by decide +kernel⟩
def R_below : List Ty → Ty → Prop := fun as t => ∃ u : Tr, as = [.dat u.toD] ∧ u.kids.length ≤ 1000 ∧ t = .tl (u.kids.map Tr.toD)
theorem ok_below {f : Addr} {fd : FuncData} (F : Fun K "below" "below" s_below f fd) (T : Tx K mg aL) : FnOk P w K mg base CX0 1 f fd ["node"] (FnD K C R_below) := by
  have nd := (sc_below).nd
  refine ok_of F sc_below (fun as t ⟨n, e0, _⟩ => by subst e0; rfl) fun cdv A outer s H E hr => ?_
  refine ⟨_, (pss_cons (ps_if (pt_cmpR (kEq K hr.units) (pe_ix (kIx K) (pv 0) pe_int (fun _ _ => rfl)) pe_str (nomark _)) (pss_one (ps_ret (pe_lst (pa_cons (pe_ix (kIx K) (pv 0) pe_int (fun _ _ => rfl)) pa_nil)))) pss_nil)
      (pss_one (ps_ret (pe_ifExp (pt_cmpR (kEq K hr.units) (pe_ix (kIx K) (pv 0) pe_int (fun _ _ => rfl)) pe_str (nomark _)) (pe_lc (own := [("group", 1)]) (g := gName 1) (tt := tYes) rfl nd (kSeq K (pe_ix (kIx K) (pv 0) pe_int (fun _ _ => rfl))) (blkOk_by (N := N_below) (sc := defScope s_below) (by decide +kernel)) (fun _ _ _ _ _ => (pg_name (i := 1) nd rfl (Or.inl rfl))) (fun _ _ _ _ _ => pts_nil) (fun _ _ _ _ _ => (pe_ix (kIx K) (pv 1) pe_int (fun _ _ => rfl)))) (pe_lst pa_nil))))),
      ?_⟩
  rintro as t ⟨u, rfl, hl, rfl⟩
  have sk := shaped_str "key" (by decide +kernel)
  have sf := shaped_str "fork" (by decide +kernel)
  have sp := shaped_str "places" (by decide +kernel)
  cases u with
  | leaf =>
    have v0 : EvD K C (tVar 0) (startG N_below.length [.dat Tr.leaf.toD]) (.dat leafD) := ev_is (ev_var rfl) (by rw [Tr.toD])
    refine sd_then (sd_if (b := false) (eb_is (eb_test (ev_eqD (ev_ixT v0 ev_int rfl) ev_str sp sk)) (by decide +kernel)) (fun h => by cases h) fun _ => sd_next rfl) ?_
    exact sd_ret (ev_if (b := false) (eb_is (eb_test (ev_eqD (ev_ixT v0 ev_int rfl) ev_str sp sf)) (by decide +kernel)) (fun h => by cases h) fun _ => ev_lst ea_nil rfl (by decide)) rfl
  | key r h t =>
    have v0 : EvD K C (tVar 0) (startG N_below.length [.dat (Tr.key r h t).toD]) (.dat (.tuple [.str "key", pI r, pI h, t.toD])) := ev_is (ev_var rfl) (by rw [Tr.toD])
    exact sd_seq (M := NoN) (sd_if (b := true) (eb_is (eb_test (ev_eqD (ev_ixT v0 ev_int rfl) ev_str sk sk)) (by decide +kernel)) (fun _ => sd_ret (ev_lst (ea_cons (ev_ixT v0 ev_int rfl) ea_nil) rfl (Nat.le_of_ble_eq_true rfl)) rfl) fun h => by cases h) fun _ h => h.elim
  | fork ps =>
    have v0 : EvD K C (tVar 0) (startG N_below.length [.dat (Tr.fork ps).toD]) (.dat (.tuple [.str "fork", .tuple (toDs ps)])) := ev_is (ev_var rfl) (by rw [Tr.toD])
    have hl' : ps.length ≤ 1000 := by rw [Tr.kids, List.length_map] at hl; exact hl
    refine sd_then (sd_if (b := false) (eb_is (eb_test (ev_eqD (ev_ixT v0 ev_int rfl) ev_str sf sk)) (by decide +kernel)) (fun h => by cases h) fun _ => sd_next rfl) ?_
    refine sd_ret (ev_if (b := true) (eb_is (eb_test (ev_eqD (ev_ixT v0 ev_int rfl) ev_str sf sf)) (by decide +kernel)) (fun _ => ?_) fun h => by cases h) rfl
    have v1 : EvD K C (tOp (rIxU K) (tVar 0) (tC (.int 1))) (startG N_below.length [.dat (Tr.fork ps).toD]) (.dat (.tuple (ps.map fun p => .tuple [pI p.1, p.2.toD]))) := ev_is (ev_ixT v0 ev_int rfl) (congrArg Ty.dat (congrArg PyData.tuple (toDs_map ps)))
    refine ev_is (ev_mapN0 (iv_of_map (g := fun p : List Int × Tr => PyData.tuple [pI p.1, p.2.toD]) (iv_T v1)) (by omega) (by decide) (f := fun p => p.2.toD) fun p hp => ev_ixT (ev_var rfl) ev_int rfl) ?_
    rw [Tr.kids, List.map_map]
    rfl
/-! ### is_node, node_count, is_tree, sign_of -/
def R_is_parting : List Ty → Ty → Prop := fun as t => ∃ ps m, as = [.dat (grpD ps), nI ((m : Nat) : Int)] ∧ m ≤ 1000 ∧ ps.length ≤ 1000 ∧ Parts m (ps.map (·.1)) ∧ SeqAt.shaped (grpD ps) = true ∧ t = bI true
abbrev s_is_node : Stmt := topS 45
abbrev N_is_node : List Str := ["value", "directions", "many"]
theorem sc_is_node : FnScope N_is_node ["value", "directions", "many"] (defScope s_is_node) := ⟨rfl, rfl, rfl, by decide +kernel, rfl, by decide +kernel, by decide +kernel⟩
def R_is_node : List Ty → Ty → Prop := fun as t => ∃ n m h u, as = [.dat u.toD, nI ((n : Nat) : Int), nI ((m : Nat) : Int)] ∧ h ≤ 20 ∧ n ≤ 1000 ∧ m ≤ 1000 ∧ Wf n m h u ∧ t = bI true
theorem ok_is_node {f : Addr} {fd : FuncData} (F : Fun K "is_node" "is_node" s_is_node f fd) (T : Tx K mg aL) (c_are_numbers : Cal P w K mg base 2 "are_numbers" ["value", "many"] (FnD K C R_are_numbers)) (c_is_parting : Cal P w K mg base 2 "is_parting" ["groups", "many"] (FnD K C R_is_parting)) : FnOk P w K mg base CX0 3 f fd ["value", "directions", "many"] (FnD K C R_is_node) := by
  have nd := (sc_is_node).nd
  refine ok_of F sc_is_node (fun as t ⟨n, m, h, u, e0, _⟩ => by subst e0; rfl) fun cdv A outer s H E hr => ?_
  refine ⟨_, (pss_cons (ps_if (PW.pt (pw_or (pt_not (pt_val (pe_callB (kIsi K) (by rfl) T.n_isinstance boot_isinstance (pa_cons (pv 0) (pa_cons (pe_bltn (v := .ty "tuple") rfl T.n_tuple boot_tuple rfl) pa_nil))))) (pw_or1 (pt_cmpR (kEq K hr.units) (pv 0) (pe_tup pa_nil) (nomark _))))) (pss_one (ps_ret pe_bl)) pss_nil)
      (pss_cons (ps_if (pt_cmpR (kEq K hr.units) (pe_ix (kIx K) (pv 0) pe_int (fun _ _ => rfl)) pe_str (nomark _)) (pss_one (ps_ret (pe_and (pe_cmpR (kEq K hr.units) (pe_callB (kLen K) (by rfl) T.n_len PySem.boot_len (pa_cons (pv 0) pa_nil)) pe_int (nomark _)) (pe_and (pe_cal c_are_numbers (hr.mono (by decide)) (pa_cons (pe_ix (kIx K) (pv 0) pe_int (fun _ _ => rfl)) (pa_cons (pv 1) pa_nil))) (pe_one (pe_cal c_are_numbers (hr.mono (by decide)) (pa_cons (pe_ix (kIx K) (pv 0) pe_int (fun _ _ => rfl)) (pa_cons (pv 2) pa_nil)))))))) pss_nil)
      (pss_cons (ps_if (pt_cmpR (kEq K hr.units) (pe_ix (kIx K) (pv 0) pe_int (fun _ _ => rfl)) pe_str (nomark _)) (pss_one (ps_ret (pe_and (pe_cmpR (kEq K hr.units) (pe_callB (kLen K) (by rfl) T.n_len PySem.boot_len (pa_cons (pv 0) pa_nil)) pe_int (nomark _)) (pe_one (pe_cal c_is_parting (hr.mono (by decide)) (pa_cons (pe_ix (kIx K) (pv 0) pe_int (fun _ _ => rfl)) (pa_cons (pv 2) pa_nil))))))) pss_nil)
      (pss_one (ps_ret (pe_cmpR (kEq K hr.units) (pv 0) (pe_glob (v := .ref aL) rfl T.c_LEAF rfl) (nomark _))))))),
      ?_⟩
  rintro as t ⟨n, m, h, u, rfl, hh, hn, hm, wf, rfl⟩
  have sk := shaped_str "key" (by decide +kernel)
  have sf := shaped_str "fork" (by decide +kernel)
  have sp := shaped_str "places" (by decide +kernel)
  have sh := wf.shaped hh
  have v0 : EvD K C (tVar 0) (startG N_is_node.length [.dat u.toD, nI ((n : Nat) : Int), nI ((m : Nat) : Int)]) (.dat u.toD) := ev_var rfl
  have hd : ∃ d ds, u.toD = .tuple (d :: ds) := by
    cases u with
    | leaf => exact ⟨_, _, by rw [Tr.toD]; rfl⟩
    | key r h t => exact ⟨_, _, by rw [Tr.toD]⟩
    | fork ps => exact ⟨_, _, by rw [Tr.toD]⟩
  obtain ⟨d, ds, hd⟩ := hd
  have b1 : EvD K C (tCB (rIsi K) (tCons (tVar 0) (tCons (tC (.ty "tuple")) tNil))) (startG N_is_node.length [.dat u.toD, nI ((n : Nat) : Int), nI ((m : Nat) : Int)]) (bI true) := ev_isi v0 (by rw [hd]; exact fun _ h => nomatch h) (by rw [hd]; exact fun h => nomatch h) (by rw [hd]; exact ki_tt)
  refine sd_then (sd_if (b := !true || false) (eb_or (eb_not (eb_test b1)) fun _ => eb_is (eb_test (ev_eqD v0 (ev_tup ea_nil rfl (by decide)) sh rfl)) (by rw [hd]; simp [PyData.eqv, PyData.eqvAll, unD])) (fun h => by cases h) fun _ => sd_next rfl) ?_
  cases u with
  | leaf =>
    have v1 : EvD K C (tVar 0) (startG N_is_node.length [.dat Tr.leaf.toD, nI ((n : Nat) : Int), nI ((m : Nat) : Int)]) (.dat leafD) := ev_is (ev_var rfl) (by rw [Tr.toD])
    refine sd_then (sd_if (b := false) (eb_is (eb_test (ev_eqD (ev_ixT v1 ev_int rfl) ev_str sp sk)) (by decide +kernel)) (fun h => by cases h) fun _ => sd_next rfl) ?_
    refine sd_then (sd_if (b := false) (eb_is (eb_test (ev_eqD (ev_ixT v1 ev_int rfl) ev_str sp sf)) (by decide +kernel)) (fun h => by cases h) fun _ => sd_next rfl) ?_
    exact sd_ret (ev_is (ev_eqD v1 (ev_con T.leaf) (by decide +kernel) (by decide +kernel)) (congrArg (fun b => Ty.dat (.bool b)) (show PyData.eqv leafD leafD = true by decide +kernel))) rfl
  | key r hs t =>
    have v1 : EvD K C (tVar 0) (startG N_is_node.length [.dat (Tr.key r hs t).toD, nI ((n : Nat) : Int), nI ((m : Nat) : Int)]) (.dat (.tuple [.str "key", pI r, pI hs, t.toD])) := ev_is (ev_var rfl) (by rw [Tr.toD])
    cases wf with
    | key h1 h2 h3 h4 w =>
      refine sd_seq (M := NoN) (sd_if (b := true) (eb_is (eb_test (ev_eqD (ev_ixT v1 ev_int rfl) ev_str sk sk)) (by decide +kernel)) (fun _ => sd_ret (ev_is (ev_andV (ev_is (ev_eqD (ev_len (.inr v1)) ev_int rfl rfl) (t' := bI true) rfl) fun _ => ev_andV (b := true) (ev_call (ea_cons (ev_ixT v1 ev_int rfl) (ea_cons (ev_var rfl) ea_nil)) ⟨r, by rw [h1], by omega, rfl⟩) fun _ => ev_call (ea_cons (ev_ixT v1 ev_int rfl) (ea_cons (ev_var rfl) ea_nil)) ⟨hs, by rw [h2], by omega, rfl⟩) rfl) rfl) fun h => by cases h) fun _ h => h.elim
  | fork ps =>
    have v1 : EvD K C (tVar 0) (startG N_is_node.length [.dat (Tr.fork ps).toD, nI ((n : Nat) : Int), nI ((m : Nat) : Int)]) (.dat (.tuple [.str "fork", .tuple (toDs ps)])) := ev_is (ev_var rfl) (by rw [Tr.toD])
    cases wf with
    | fork h1 h2 w =>
      refine sd_then (sd_if (b := false) (eb_is (eb_test (ev_eqD (ev_ixT v1 ev_int rfl) ev_str sf sk)) (by decide +kernel)) (fun h => by cases h) fun _ => sd_next rfl) ?_
      exact sd_seq (M := NoN) (sd_if (b := true) (eb_is (eb_test (ev_eqD (ev_ixT v1 ev_int rfl) ev_str sf sf)) (by decide +kernel)) (fun _ => sd_ret (ev_is (ev_andV (ev_is (ev_eqD (ev_len (.inr v1)) ev_int rfl rfl) (t' := bI true) rfl) fun _ => ev_call (ea_cons (ev_ixT v1 ev_int rfl) (ea_cons (ev_var rfl) ea_nil)) ⟨ps, m, rfl, hm, by omega, h1, shaped_snd (by rw [Tr.toD] at sh; exact sh), rfl⟩) rfl) rfl) fun h => by cases h) fun _ h => h.elim
theorem fn_never {k : Nat} {f : Addr} {fd : FuncData} {ps : List Str} : FnOk P w K mg base CX0 k f fd ps (FnD K C fun _ _ => False) := ⟨fun _ _ _ _ ⟨_, _, _, _, _, h, _⟩ => h.elim, fun _ _ _ _ _ _ _ _ _ _ _ _ _ ⟨_, _, _, _, _, h, _⟩ => h.elim⟩
abbrev s_node_count : Stmt := topS 48
abbrev N_node_count : List Str := ["tree", "one"]
theorem sc_node_count : FnScope N_node_count ["tree"] (defScope s_node_count) := ⟨rfl, rfl, rfl, by decide +kernel, rfl, by decide +kernel, by decide +kernel⟩
def R_node_count (n m h : Nat) : List Ty → Ty → Prop := fun as t => ∃ u, as = [.dat u.toD] ∧ Wf n m h u ∧ t = nI (u.size : Nat)
theorem ok_node_count {n m : Nat} {f : Addr} {fd : FuncData} (F : Fun K "node_count" "node_count" s_node_count f fd) (T : Tx K mg aL) (c_below : Cal P w K mg base 1 "below" ["node"] (FnD K C R_below)) (k : Nat) (hf : mg "node_count" = some (.ref f)) (hk : PySem.W.keepIn K (.ref f) = true) (hb : Binds K fd ["tree"] []) :
    ∀ h : Nat, FnOk P w K mg base CX0 (2 + h) f fd ["tree"] (FnD K C (R_node_count n m h)) := by
  have nd := (sc_node_count).nd
  intro h
  induction h with
  | zero =>
    have c_node_count : Cal P w K mg base 0 "node_count" ["tree"] (FnD K C fun _ _ => False) := ⟨f, fd, hf, hk, hb, fn_never⟩
    refine ok_of F sc_node_count (fun as t ⟨u, e0, _⟩ => by subst e0; rfl) fun cdv A outer s H E hr => ?_
    refine ⟨_, (pss_one (ps_ret (pe_op (kAdd K) pe_int (pe_callB (kSum K rfl) (by rfl) T.n_sum boot_sum (pa_cons (pe_lc (own := [("one", 1)]) (g := gName 1) (tt := tYes) rfl nd (kSeq K (pe_cal c_below (hr.mono (by first | decide | omega | (simp only [Nat.add_eq]; omega))) (pa_cons (pv 0) pa_nil))) (blkOk_by (N := N_node_count) (sc := defScope s_node_count) (by decide +kernel)) (fun _ _ _ _ _ => (pg_name (i := 1) nd rfl (Or.inl rfl))) (fun _ _ _ _ _ => pts_nil) (fun _ _ _ _ _ => (pe_cal c_node_count (hr.mono (by first | decide | omega | (simp only [Nat.add_eq]; omega))) (pa_cons (pv 1) pa_nil)))) pa_nil))))),
        ?_⟩
    rintro as t ⟨u, rfl, wf, rfl⟩
    have e0 : u.kids = [] := wf.kids0
    refine sd_ret (ev_is (ev_addI ev_int (ev_sum (l := u.kids.map fun u => ((u.size : Nat) : Int)) (ev_dat (ev_is (ev_mapN0 (as := u.kids) (iv_of_map (g := Tr.toD) (iv_L (ev_dat (ev_call (ea_cons (ev_var rfl) ea_nil) ⟨u, rfl, by rw [e0]; exact Nat.zero_le _, rfl⟩)))) (by rw [e0]; exact Nat.zero_le _) (by decide) (f := fun u => .int (u.size : Nat)) fun a ha => ?_) (by rw [List.map_map]; rfl))))) ?_) rfl
    · rw [e0] at ha; cases ha
    · rw [size_kids, e0]; rfl
  | succ h ih =>
    have c_node_count : Cal P w K mg base (2 + h) "node_count" ["tree"] (FnD K C (R_node_count n m h)) := ⟨f, fd, hf, hk, hb, ih⟩
    refine ok_of F sc_node_count (fun as t ⟨u, e0, _⟩ => by subst e0; rfl) fun cdv A outer s H E hr => ?_
    refine ⟨_, (pss_one (ps_ret (pe_op (kAdd K) pe_int (pe_callB (kSum K rfl) (by rfl) T.n_sum boot_sum (pa_cons (pe_lc (own := [("one", 1)]) (g := gName 1) (tt := tYes) rfl nd (kSeq K (pe_cal c_below (hr.mono (by first | decide | omega | (simp only [Nat.add_eq]; omega))) (pa_cons (pv 0) pa_nil))) (blkOk_by (N := N_node_count) (sc := defScope s_node_count) (by decide +kernel)) (fun _ _ _ _ _ => (pg_name (i := 1) nd rfl (Or.inl rfl))) (fun _ _ _ _ _ => pts_nil) (fun _ _ _ _ _ => (pe_cal c_node_count (hr.mono (by first | decide | omega | (simp only [Nat.add_eq]; omega))) (pa_cons (pv 1) pa_nil)))) pa_nil))))),
        ?_⟩
    rintro as t ⟨u, rfl, wf, rfl⟩
    have hl := wf.kids_len
    refine sd_ret (ev_is (ev_addI ev_int (ev_sum (l := u.kids.map fun u => ((u.size : Nat) : Int)) (ev_dat (ev_is (ev_mapN0 (iv_of_map (g := Tr.toD) (iv_L (ev_dat (ev_call (ea_cons (ev_var rfl) ea_nil) ⟨u, rfl, by omega, rfl⟩)))) (by omega) (by decide) (f := fun u => .int (u.size : Nat)) fun a ha => ?_) (by rw [List.map_map]; rfl))))) ?_) rfl
    · obtain ⟨h', e0, w'⟩ := wf.kids a ha
      have e' : h' = h := by omega
      subst e'
      exact ev_call (ea_cons (ev_var rfl) ea_nil) ⟨a, rfl, w', rfl⟩
    · rw [size_kids u]
      congr 2
      rw [Int.natCast_add]
      congr 1
      have key : ∀ l : List Tr, (l.map fun u => ((u.size : Nat) : Int)).sum = (((l.map Tr.size).sum : Nat) : Int) := fun l => by
        induction l with
        | nil => rfl
        | cons a r ih => rw [List.map_cons, List.map_cons, List.sum_cons, List.sum_cons, ih, Int.natCast_add]
      exact key _
abbrev s_is_tree : Stmt := topS 47
abbrev N_is_tree : List Str := ["value", "directions", "many", "depth", "level", "nodes", "node", "tree"]
theorem sc_is_tree : FnScope N_is_tree ["value", "directions", "many"] (defScope s_is_tree) := ⟨rfl, rfl, rfl, by decide +kernel, rfl, by decide +kernel, by decide +kernel⟩
def R_is_tree : List Ty → Ty → Prop := fun as t => ∃ n m h u, as = [.dat u.toD, nI ((n : Nat) : Int), nI ((m : Nat) : Int)] ∧ h ≤ 10 ∧ n ≤ 1000 ∧ m ≤ 1000 ∧ Wf n m h u ∧ u.size ≤ 200 ∧ t = bI true
theorem lvl_sum (l : List Tr) : (l.map Tr.size).sum = l.length + ((l.flatMap Tr.kids).map Tr.size).sum := by
  induction l with
  | nil => rfl
  | cons a r ih =>
    rw [List.map_cons, List.sum_cons, ih, size_kids a, List.flatMap_cons, List.map_append, List.sum_append, List.length_cons]
    omega
theorem len_le_sum : ∀ l : List Tr, l.length ≤ (l.map Tr.size).sum
  | [] => Nat.le_refl _
  | a :: r => by
    have := len_le_sum r
    have h := size_kids a
    rw [List.map_cons, List.sum_cons, List.length_cons]
    omega
theorem shaped_trees {n m h : Nat} (hh : h ≤ 10) (l : List Tr) (w : ∀ u ∈ l, Wf n m h u) : SeqAt.shaped (.list (l.map Tr.toD)) = true := shaped_lst fun d hd => by
  obtain ⟨u, hu, rfl⟩ := List.mem_map.mp hd
  obtain ⟨h1, h2, _⟩ := (w u hu).data
  exact ⟨h2, by omega⟩
theorem ok_is_tree {f : Addr} {fd : FuncData} (F : Fun K "is_tree" "is_tree" s_is_tree f fd) (T : Tx K mg aL) (c_is_node : Cal P w K mg base 3 "is_node" ["value", "directions", "many"] (FnD K C R_is_node)) (c_below : Cal P w K mg base 1 "below" ["node"] (FnD K C R_below)) : FnOk P w K mg base CX0 4 f fd ["value", "directions", "many"] (FnD K C R_is_tree) := by
  have nd := (sc_is_tree).nd
  refine ok_of F sc_is_tree (fun as t ⟨n, m, h, u, e0, _⟩ => by subst e0; rfl) fun cdv A outer s H E hr => ?_
  refine ⟨_, (pss_cons (ps_par (i := 4) (j := 5) rfl nd rfl rfl (by decide) rfl rfl (pa_cons (pe_lst (pa_cons (pv 0) pa_nil)) (pa_cons pe_int pa_nil)) (by rfl))
      (pss_cons (ps_for PassesOwn.never rfl (pi_range1 (by rfl) T.n_range (pa_cons (pe_gi T.c_MAX_DEPTH) pa_nil)) (pg_name (i := 3) nd rfl (Or.inl rfl)) (pss_cons (ps_if (pt_not (pt_val (pe_callB (kAll K rfl) (by rfl) T.n_all boot_all (pa_cons (pe_lc (own := [("node", 6)]) (g := gName 6) (tt := tYes) rfl nd (kSeq K (pv 4)) (blkOk_by (N := N_is_tree) (sc := defScope s_is_tree) (by decide +kernel)) (fun _ _ _ _ _ => (pg_name (i := 6) nd rfl (Or.inl rfl))) (fun _ _ _ _ _ => pts_nil) (fun _ _ _ _ _ => (pe_cal c_is_node (hr.mono (by decide)) (pa_cons (pv 6) (pa_cons (pv 1) (pa_cons (pv 2) pa_nil)))))) pa_nil)))) (pss_one (ps_ret pe_bl)) pss_nil)
      (pss_cons (ps_aug (i := 5) nd rfl (Or.inl rfl) (pe_callB (kLen K) (by rfl) T.n_len PySem.boot_len (pa_cons (pv 4) pa_nil)) ip_add)
      (pss_cons (ps_setLc2 (i := 4) (own := [("node", 6), ("tree", 7)]) (vs1 := [7]) (g := gName 6) (tt := tYes) (g1 := gName 7) (tt1 := tYes) rfl nd rfl rfl (sw_true rfl rfl rfl (by decide +kernel)) (kSeq K (pv 4)) (blkOk_by (N := N_is_tree) (sc := defScope s_is_tree) (by decide +kernel)) (by decide) (fun _ _ _ _ _ => (pg_name (i := 6) nd rfl (Or.inl rfl))) (fun _ _ _ _ _ => pts_nil) (fun _ _ _ _ _ => (kSeq K (pe_cal c_below (hr.mono (by decide)) (pa_cons (pv 6) pa_nil)))) (fun _ _ _ _ _ => (pg_name (i := 7) nd rfl (Or.inl rfl))) (fun _ _ _ _ _ => pts_nil) (fun _ _ _ _ _ => (pv 7)))
      (pss_cons (ps_if (pt_cmpR op_gt (pv 5) (pe_gi T.c_MAX_NODES) (nomark _)) (pss_one (ps_ret pe_bl)) pss_nil)
      (pss_one (ps_if (pt_cmpR (kEq K hr.units) (pv 4) (pe_lst pa_nil) (nomark _)) (pss_one (ps_ret pe_bl)) pss_nil)))))))
      (pss_one (ps_ret pe_bl)))),
      ?_⟩
  rintro as t ⟨n, m, h, T0, rfl, hh, hn, hm, wf, hsz, rfl⟩
  let G : Nat → Ev → Prop := fun i Γ => ∃ (lv : List Tr) (c : Nat) (a b d : Option Ly.Ty), i ≤ h ∧ (∀ u ∈ lv, Wf n m (h - i) u) ∧ c + (lv.map Tr.size).sum = T0.size ∧ Γ = [some (.dat T0.toD), some (nI ((n : Nat) : Int)), some (nI ((m : Nat) : Int)), a, some (.tl (lv.map Tr.toD)), some (nI ((c : Nat) : Int)), b, d]
  refine sd_then (sd_par (ev_lst (ea_cons (ev_var rfl) ea_nil) rfl (Nat.le_of_ble_eq_true rfl)) ev_int) ?_
  refine sd_seq (M := fun Γ => False) (sd_for (iv_range (n := 20) ev_int (by decide)) G ?_ ?_ ?_) fun Γ h => h.elim
  · refine ⟨[T0], 0, none, none, none, Nat.zero_le _, ?_, ?_, rfl⟩
    · intro u hu
      rw [List.mem_singleton] at hu
      subst hu
      exact wf
    · rw [List.map_singleton, List.sum_singleton, Nat.zero_add]
  · rintro i k _ hk ⟨lv, c, a, b, d, hi, hw, hc, rfl⟩
    refine ⟨_, [3], tg_name (by decide), ?_⟩
    have hlen := len_le_sum lv
    have hls := lvl_sum lv
    have hl2 := len_le_sum (lv.flatMap Tr.kids)
    show SD K C _ [some (.dat T0.toD), some (nI ((n : Nat) : Int)), some (nI ((m : Nat) : Int)), some (nI ((k : Nat) : Int)), some (.tl (lv.map Tr.toD)), some (nI ((c : Nat) : Int)), b, d] (G (i + 1)) _
    refine sd_then (sd_if (b := !(lv.map fun _ => true).all id) (eb_not (eb_test (ev_all (ev_dat (ev_is (ev_mapN0 (iv_of_map (g := Tr.toD) (iv_L (ev_dat (ev_var rfl)))) (by omega) (by decide) (f := fun _ => .bool true) fun u hu => ev_call (ea_cons (ev_var rfl) (ea_cons (ev_var rfl) (ea_cons (ev_var rfl) ea_nil))) ⟨n, m, h - i, u, rfl, by omega, hn, hm, hw u hu, rfl⟩) (by rw [List.map_map]; rfl)))))) (fun h => ?_) fun _ => sd_next rfl) ?_
    · exfalso
      rw [List.all_map] at h
      simp at h
    refine sd_then (sd_aug (f := fun i j => i + j) rfl (ev_len (.inl (ev_dat (ev_var rfl))))) ?_
    have e1 : ((c : Nat) : Int) + (((lv.map Tr.toD).length : Nat) : Int) = ((c + lv.length : Nat) : Int) := by
      rw [List.length_map, Int.natCast_add]
    rw [e1]
    refine sd_then (sd_set (ev_lc2 (iv_of_map (g := Tr.toD) (iv_L (ev_dat (ev_var rfl)))) (bs := Tr.kids) (f := fun _ u => u.toD) (ty1 := fun _ u => .dat u.toD) ?_ fun u hu => ⟨_, tg_name (by decide), iv_of_map (g := Tr.toD) (iv_L (ev_dat (ev_call (ea_cons (ev_var rfl) ea_nil) ⟨u, rfl, ?_, rfl⟩))), fun v hv => ⟨_, tg_name (by decide), ev_var rfl⟩⟩)) ?_
    · have e0 : (lv.flatMap fun a => (Tr.kids a).map Tr.toD) = (lv.flatMap Tr.kids).map Tr.toD := by rw [List.map_flatMap]
      rw [e0, List.length_map]
      omega
    · have := (hw u hu).kids_len
      omega
    have e2 : (lv.flatMap fun a => (Tr.kids a).map Tr.toD) = (lv.flatMap Tr.kids).map Tr.toD := by rw [List.map_flatMap]
    rw [e2]
    have w2 : ∀ u ∈ lv.flatMap Tr.kids, i + 1 ≤ h ∧ Wf n m (h - (i + 1)) u := fun u hu => by
      obtain ⟨v, hv, hu⟩ := List.mem_flatMap.mp hu
      obtain ⟨h', e0, w⟩ := (hw v hv).kids u hu
      have e' : h' = h - (i + 1) := by omega
      subst e'
      exact ⟨by omega, w⟩
    show SD K C _ [some (.dat T0.toD), some (nI ((n : Nat) : Int)), some (nI ((m : Nat) : Int)), some (nI ((k : Nat) : Int)), some (.tl ((lv.flatMap Tr.kids).map Tr.toD)), some (nI ((c + lv.length : Nat) : Int)), b, d] (G (i + 1)) _
    refine sd_then (sd_if (eb_test (ev_gtI (ev_var rfl) ev_int)) (fun h => ?_) fun _ => sd_next rfl) ?_
    · have := of_decide_eq_true h
      omega
    refine sd_if (eb_test (ev_eqD (ev_dat (ev_var rfl)) (ev_dat (ev_lst ea_nil rfl (by decide))) (shaped_trees (n := n) (m := m) (h := h) hh _ fun u hu => ?_) rfl)) (fun _ => sd_ret ev_bl rfl) fun hne => sd_next ?_
    · obtain ⟨h1, w⟩ := w2 u hu
      exact w.mono (by omega)
    · have hex : ∃ u, u ∈ lv.flatMap Tr.kids := by
        cases q : lv.flatMap Tr.kids with
        | nil => rw [q] at hne; simp [PyData.eqv, PyData.eqvAll, unD] at hne
        | cons u r => exact ⟨u, List.mem_cons_self⟩
      obtain ⟨u, hu⟩ := hex
      refine ⟨_, _, _, _, _, (w2 u hu).1, fun u hu => (w2 u hu).2, ?_, rfl⟩
      omega
  · rintro _ ⟨lv, c, a, b, d, hi, _⟩
    rw [List.length_range] at hi
    omega
abbrev s_sign_of : Stmt := topS 50
abbrev N_sign_of : List Str := ["tree", "divisors", "one", "other", "left", "right", "first", "last"]
theorem sc_sign_of : FnScope N_sign_of ["tree", "divisors", "one", "other"] (defScope s_sign_of) := ⟨rfl, rfl, rfl, by decide +kernel, rfl, by decide +kernel, by decide +kernel⟩
def full (T : Tr) (D pl : List Int) : List Int := T.path pl (clsAt D pl) ++ pl
theorem vol_from (D : List Int) : ∀ (l : List Int) (n N : Int), l.length = D.length → (∀ d ∈ D, 0 < d) → 0 ≤ n → n < N → 0 ≤ clsFrom n (l.zip D) ∧ clsFrom n (l.zip D) < D.foldl (· * ·) N := by
  induction D with
  | nil =>
    intro l n N hl _ h0 h1
    cases l with
    | nil => exact ⟨h0, h1⟩
    | cons _ _ => cases hl
  | cons d D ih =>
    intro l n N hl hd h0 h1
    cases l with
    | nil => cases hl
    | cons o l =>
      have hp := hd d List.mem_cons_self
      have m0 := Int.emod_nonneg o (Int.ne_of_gt hp)
      have m1 := Int.emod_lt_of_pos o hp
      have h2 : 0 ≤ n * d := Int.mul_nonneg h0 (Int.le_of_lt hp)
      have h3 : (n + 1) * d ≤ N * d := Int.mul_le_mul_of_nonneg_right h1 (Int.le_of_lt hp)
      rw [Int.add_mul, Int.one_mul] at h3
      exact ih l (n * d + o % d) (N * d) (by simpa using hl) (fun x hx => hd x (List.mem_cons_of_mem _ hx)) (by omega) (by omega)
theorem cls_lt {D l : List Int} (h : l.length = D.length) (hd : ∀ d ∈ D, 0 < d) : 0 ≤ clsAt D l ∧ clsAt D l < vol D := vol_from D l 0 1 h hd (by decide) (by decide)
def R_sign_of : List Ty → Ty → Prop := fun as t => ∃ T D p q h, as = [.dat T.toD, dI D, dI p, dI q] ∧ h ≤ 10 ∧ OkDiv D ∧ p.length = D.length ∧ q.length = D.length ∧ Wf D.length (vol D).toNat h T ∧ t = nI (sgn (full T D p) (full T D q))
theorem ht_at {hs : List Int} {c : Int} {m : Nat} (hm : hs.length = m) (h0 : 0 ≤ c) (h1 : c < m) : atI (hs.map PyData.int) c = some (.int (hs.getD c.toNat 0)) := by
  obtain ⟨k, rfl⟩ := Int.eq_ofNat_of_zero_le h0
  refine atI_nat ?_
  have hk : k < hs.length := by omega
  rw [List.getElem?_map, List.getElem?_eq_getElem hk, Int.toNat_natCast]
  rw [List.getD_eq_getElem?_getD, List.getElem?_eq_getElem hk]
  rfl
theorem ok_sign_of {f : Addr} {fd : FuncData} (F : Fun K "sign_of" "sign_of" s_sign_of f fd) (T : Tx K mg aL) (c_times : Cal P w K mg base 1 "times" ["one", "other"] (FnD K C R_times)) (c_group_at : Cal P w K mg base 1 "group_at" ["groups", "number"] (FnD K C R_group_at)) (c_class_at : Cal P w K mg base 1 "class_at" ["divisors", "place"] (FnD K C R_class_at)) : FnOk P w K mg base CX0 2 f fd ["tree", "divisors", "one", "other"] (FnD K C R_sign_of) := by
  have nd := (sc_sign_of).nd
  refine ok_of F sc_sign_of (fun as t ⟨T, D, p, q, h, e0, _⟩ => by subst e0; rfl) fun cdv A outer s H E hr => ?_
  refine ⟨_, (pss_cons (ps_par (i := 4) (j := 5) rfl nd rfl rfl (by decide) rfl rfl (pa_cons (pe_cal c_class_at (hr.mono (by decide)) (pa_cons (pv 1) (pa_cons (pv 2) pa_nil))) (pa_cons (pe_cal c_class_at (hr.mono (by decide)) (pa_cons (pv 1) (pa_cons (pv 3) pa_nil))) pa_nil)) (by rfl))
      (pss_cons (ps_while PassesOwn.never (pt_cmpR (kNe K hr.units) (pv 0) (pe_glob (v := .ref aL) rfl T.c_LEAF rfl) (nomark _)) (pss_cons (ps_if (pt_cmpR (kEq K hr.units) (pe_ix (kIx K) (pv 0) pe_int (fun _ _ => rfl)) pe_str (nomark _)) (pss_cons (ps_set (i := 6) nd rfl (Or.inl rfl) (pe_op (kAdd K) (pe_cal c_times (hr.mono (by decide)) (pa_cons (pe_ix (kIx K) (pv 0) pe_int (fun _ _ => rfl)) (pa_cons (pv 2) pa_nil))) (pe_ix (kIx K) (pe_ix (kIx K) (pv 0) pe_int (fun _ _ => rfl)) (pv 4) (fun _ _ => rfl))))
      (pss_cons (ps_set (i := 7) nd rfl (Or.inl rfl) (pe_op (kAdd K) (pe_cal c_times (hr.mono (by decide)) (pa_cons (pe_ix (kIx K) (pv 0) pe_int (fun _ _ => rfl)) (pa_cons (pv 3) pa_nil))) (pe_ix (kIx K) (pe_ix (kIx K) (pv 0) pe_int (fun _ _ => rfl)) (pv 5) (fun _ _ => rfl))))
      (pss_one (ps_set (i := 0) nd rfl (Or.inl rfl) (pe_ix (kIx K) (pv 0) pe_int (fun _ _ => rfl)))))) (pss_cons (ps_par (i := 6) (j := 7) rfl nd rfl rfl (by decide) rfl rfl (pa_cons (pe_cal c_group_at (hr.mono (by decide)) (pa_cons (pe_ix (kIx K) (pv 0) pe_int (fun _ _ => rfl)) (pa_cons (pv 4) pa_nil))) (pa_cons (pe_cal c_group_at (hr.mono (by decide)) (pa_cons (pe_ix (kIx K) (pv 0) pe_int (fun _ _ => rfl)) (pa_cons (pv 5) pa_nil))) pa_nil)) (by rfl))
      (pss_one (ps_set (i := 0) nd rfl (Or.inl rfl) (pe_ix (kIx K) (pe_ix (kIx K) (pe_ix (kIx K) (pv 0) pe_int (fun _ _ => rfl)) (pv 6) (fun _ _ => rfl)) pe_int (fun _ _ => rfl))))))
      (pss_one (ps_if (pt_cmpR (kNe K hr.units) (pv 6) (pv 7) (nomark _)) (pss_one (ps_ret (pe_ifExp (pt_cmpR (kLt K hr.units0) (pv 6) (pv 7) (nomark _)) (pe_un un_neg pe_int) pe_int))) pss_nil))))
      (pss_one (ps_ret (pe_ifExp (pt_cmpR (kEq K hr.units) (pv 2) (pv 3) (nomark _)) pe_int (pe_ifExp (pt_cmpR (kLt K hr.units0) (pv 2) (pv 3) (nomark _)) (pe_un un_neg pe_int) pe_int)))))),
      ?_⟩
  rintro as t ⟨T0, D, p, q, h, rfl, hh, okD, hp, hq, wf, rfl⟩
  have sk := shaped_str "key" (by decide +kernel)
  have sf := shaped_str "fork" (by decide +kernel)
  have hD := okD.most
  have hDd : ∀ d ∈ D, 0 < d ∧ d < 1000 := fun d hd => by
    have := okD.each d hd
    omega
  obtain ⟨cp0, cp1⟩ := cls_lt hp fun d hd => (okD.each d hd).1
  obtain ⟨cq0, cq1⟩ := cls_lt hq fun d hd => (okD.each d hd).1
  have hvol := okD.vol
  refine sd_then (sd_par (ev_call (ea_cons (ev_var rfl) (ea_cons (ev_var rfl) ea_nil)) ⟨D, p, rfl, by omega, hDd, rfl⟩) (ev_call (ea_cons (ev_var rfl) (ea_cons (ev_var rfl) ea_nil)) ⟨D, q, rfl, by omega, hDd, rfl⟩)) ?_
  let G : Nat → Ev → Prop := fun k Γ => ∃ (t : Tr) (a b : Option Ly.Ty), k ≤ h ∧ Wf D.length (vol D).toNat k t ∧ sgn (t.path p (clsAt D p) ++ p) (t.path q (clsAt D q) ++ q) = sgn (full T0 D p) (full T0 D q) ∧ Γ = [some (.dat t.toD), some (dI D), some (dI p), some (dI q), some (nI (clsAt D p)), some (nI (clsAt D q)), a, b]
  refine sd_seq (M := fun Γ => ∃ a b, sgn p q = sgn (full T0 D p) (full T0 D q) ∧ Γ = [some (.dat leafD), some (dI D), some (dI p), some (dI q), some (nI (clsAt D p)), some (nI (clsAt D q)), a, b]) (sd_while G h ⟨T0, none, none, Nat.le_refl _, wf, rfl, rfl⟩ ?_) ?_
  · rintro k _ ⟨t, a, b, hk, w, hs, rfl⟩
    refine ⟨_, eb_test (ev_neD (ev_var rfl) (ev_con T.leaf) (w.shaped (by omega)) (by decide +kernel)), fun hb => ?_, fun hb => ?_⟩
    · cases w with
      | leaf => rw [Tr.toD] at hb; exact absurd hb (by decide +kernel)
      | @key k r hts t h1 h2 h3 h4 w =>
        have v0 : ∀ Γ : Ev, Γ[0]? = some (some (.dat (Tr.key r hts t).toD)) → EvD K C (tVar 0) Γ (.dat (.tuple [.str "key", pI r, pI hts, t.toD])) := fun Γ e0 => ev_is (ev_var e0) (by rw [Tr.toD])
        have tm : ∀ (Γ : Ev) (i j : Nat) (x : List Int) (c : Int), Γ[0]? = some (some (.dat (Tr.key r hts t).toD)) → Γ[i]? = some (some (dI x)) → Γ[j]? = some (some (nI c)) → 0 ≤ c → c < vol D →
            EvD K C (tOp (rAddU K) (tCall (FnD K C R_times) [] E0 (tCons (tOp (rIxU K) (tVar 0) (tC (.int 1))) (tCons (tVar i) tNil))) (tOp (rIxU K) (tOp (rIxU K) (tVar 0) (tC (.int 2))) (tVar j))) Γ (nI (dot r x + hts.getD c.toNat 0)) := fun Γ i j x c e1 e2 e3 g0 g1 =>
          ev_addI (ev_call (ea_cons (ev_ixT (v0 _ e1) ev_int rfl) (ea_cons (ev_var e2) ea_nil)) ⟨r, x, rfl, by omega, h3, rfl⟩) (ev_ixT (ev_ixT (v0 _ e1) ev_int rfl) (ev_var e3) (ht_at h2 g0 (by omega)))
        refine sd_seq (M := fun Γ => Γ = [some (.dat t.toD), some (dI D), some (dI p), some (dI q), some (nI (clsAt D p)), some (nI (clsAt D q)), some (nI (dot r p + hts.getD (clsAt D p).toNat 0)), some (nI (dot r q + hts.getD (clsAt D q).toNat 0))]) (sd_if (b := true) (eb_is (eb_test (ev_eqD (ev_ixT (v0 _ rfl) ev_int rfl) ev_str sk sk)) (by decide +kernel)) (fun _ => ?_) fun h => by cases h) ?_
        · refine sd_then (sd_set (tm _ 2 4 p (clsAt D p) rfl rfl rfl cp0 cp1)) ?_
          refine sd_then (sd_set (tm _ 3 5 q (clsAt D q) rfl rfl rfl cq0 cq1)) ?_
          exact sd_set (ev_ixT (v0 _ rfl) ev_int rfl)
        · rintro _ rfl
          rw [Tr.path, Tr.path] at hs
          refine sd_if (eb_test (ev_neD (ev_var rfl) (ev_var rfl) rfl rfl)) (fun hne => ?_) fun heq => sd_next ⟨k, Nat.lt_succ_self k, t, _, _, by omega, w, ?_, rfl⟩
          · have hd : dot r p + hts.getD (clsAt D p).toNat 0 ≠ dot r q + hts.getD (clsAt D q).toNat 0 := by simpa [PyData.eqv] using hne
            refine sd_ret (t := nI (if dot r p + hts.getD (clsAt D p).toNat 0 < dot r q + hts.getD (clsAt D q).toNat 0 then -1 else 1)) (ev_if (eb_test (ev_ltI (ev_var rfl) (ev_var rfl))) (fun h => ?_) fun h => ?_) ?_
            · rw [if_pos (of_decide_eq_true h)]
              exact ev_negI ev_int
            · rw [if_neg (of_decide_eq_false h)]
              exact ev_int
            · rw [← hs, List.cons_append, List.cons_append, sgn_diff hd]
          · have hd : dot r p + hts.getD (clsAt D p).toNat 0 = dot r q + hts.getD (clsAt D q).toNat 0 := by simpa [PyData.eqv] using heq
            rw [hd, List.cons_append, List.cons_append, sgn_same] at hs
            exact hs
      | @fork k ps h1 h2 w =>
        have v0 : ∀ Γ : Ev, Γ[0]? = some (some (.dat (Tr.fork ps).toD)) → EvD K C (tVar 0) Γ (.dat (.tuple [.str "fork", .tuple (toDs ps)])) := fun Γ e0 => ev_is (ev_var e0) (by rw [Tr.toD])
        have mem : ∀ c : Int, 0 ≤ c → c < vol D → ∃ p ∈ ps, c ∈ p.1 := fun c h0 h3 => by
          obtain ⟨g, hg, hc⟩ := h1.has h0 (by omega)
          obtain ⟨x, hx, rfl⟩ := List.mem_map.mp hg
          exact ⟨x, hx, hc⟩
        obtain ⟨xp, xp1, xp2, xp3⟩ := pathF_at p (clsAt D p) ps 0 (mem _ cp0 cp1)
        obtain ⟨xq, xq1, xq2, xq3⟩ := pathF_at q (clsAt D q) ps 0 (mem _ cq0 cq1)
        rw [Nat.zero_add] at xp3 xq3
        refine sd_seq (M := fun Γ => Γ = [some (.dat xp.2.toD), some (dI D), some (dI p), some (dI q), some (nI (clsAt D p)), some (nI (clsAt D q)), some (nI (gat (clsAt D p) (ps.map (·.1)) : Nat)), some (nI (gat (clsAt D q) (ps.map (·.1)) : Nat))]) (sd_if (b := false) (eb_is (eb_test (ev_eqD (ev_ixT (v0 _ rfl) ev_int rfl) ev_str sf sk)) (by decide +kernel)) (fun h => by cases h) fun _ => ?_) ?_
        · refine sd_then (sd_par (ev_call (ea_cons (ev_ixT (v0 _ rfl) ev_int rfl) (ea_cons (ev_var rfl) ea_nil)) ⟨ps, _, rfl, by omega, mem _ cp0 cp1, rfl⟩) (ev_call (ea_cons (ev_ixT (v0 _ rfl) ev_int rfl) (ea_cons (ev_var rfl) ea_nil)) ⟨ps, _, rfl, by omega, mem _ cq0 cq1, rfl⟩)) ?_
          refine sd_set (ev_ixT (ev_ixT (ev_ixT (v0 _ rfl) ev_int rfl) (ev_var rfl) (atI_nat (a := PyData.tuple [pI xp.1, xp.2.toD]) ?_)) ev_int rfl)
          rw [toDs_map, List.getElem?_map, xp1]
          rfl
        · rintro _ rfl
          rw [Tr.path, Tr.path, xp3, xq3] at hs
          refine sd_if (eb_test (ev_neD (ev_var rfl) (ev_var rfl) rfl rfl)) (fun hne => ?_) fun heq => sd_next ⟨k, Nat.lt_succ_self k, xp.2, _, _, by omega, w xp (List.mem_of_getElem? xp1), ?_, rfl⟩
          · have hd : ((gat (clsAt D p) (ps.map (·.1)) : Nat) : Int) ≠ ((gat (clsAt D q) (ps.map (·.1)) : Nat) : Int) := by simpa [PyData.eqv] using hne
            refine sd_ret (t := nI (if ((gat (clsAt D p) (ps.map (·.1)) : Nat) : Int) < ((gat (clsAt D q) (ps.map (·.1)) : Nat) : Int) then -1 else 1)) (ev_if (eb_test (ev_ltI (ev_var rfl) (ev_var rfl))) (fun h => ?_) fun h => ?_) ?_
            · rw [if_pos (of_decide_eq_true h)]
              exact ev_negI ev_int
            · rw [if_neg (of_decide_eq_false h)]
              exact ev_int
            · rw [← hs, List.cons_append, List.cons_append, sgn_diff hd]
          · have hd : ((gat (clsAt D p) (ps.map (·.1)) : Nat) : Int) = ((gat (clsAt D q) (ps.map (·.1)) : Nat) : Int) := by simpa [PyData.eqv] using heq
            rw [hd, List.cons_append, List.cons_append, sgn_same] at hs
            have e0 : xq = xp := by
              have hd' : gat (clsAt D p) (ps.map (·.1)) = gat (clsAt D q) (ps.map (·.1)) := by omega
              rw [hd'] at xp1
              rw [xp1] at xq1
              exact (Option.some.inj xq1).symm
            rw [e0] at hs
            exact hs
    · cases w with
      | leaf =>
        rw [Tr.path, Tr.path] at hs
        exact ⟨a, b, hs, by rw [Tr.toD]⟩
      | key => rw [Tr.toD] at hb; exact absurd hb (by simp [leafD, PyData.eqv, PyData.eqvAll])
      | fork => rw [Tr.toD] at hb; exact absurd hb (by simp [leafD, PyData.eqv, PyData.eqvAll])
  · rintro _ ⟨a, b, hs, rfl⟩
    rw [← hs]
    refine sd_ret (t := nI (sgn p q)) (ev_if (b := decide (p = q)) (eb_is (eb_test (ev_eqD (ev_var rfl) (ev_var rfl) (shaped_pI _) (shaped_pI _))) (eqv_pI _ _)) (fun h => ?_) fun h => ev_if (eb_test (ev_ltT (ev_var rfl) (ev_var rfl))) (fun h2 => ?_) fun h2 => ?_) rfl
    · have e0 := of_decide_eq_true h
      subst e0
      unfold sgn
      rw [lexLt_self, if_neg Bool.false_ne_true, if_pos rfl]
      exact ev_int
    · unfold sgn
      rw [if_pos h2]
      exact ev_negI ev_int
    · unfold sgn
      rw [h2, if_neg Bool.false_ne_true, if_neg (of_decide_eq_false h)]
      exact ev_int
end
end Lk
namespace Lk
open PySem PySem.Spec PyProof.Rows L2 Ly
section
variable {P : Program} {w : World} {K : PySem.W.Frag} {mg : Str → Option Value} {base : Heap} {C aL : Addr}
abbrev s__law_count : Stmt := topS 60
abbrev N__law_count : List Str := ["_law_divisors_here", "_law_found", "_law_one"]
theorem sc__law_count : FnScope N__law_count ["_law_divisors_here"] (defScope s__law_count) := ⟨rfl, rfl, rfl, by decide +kernel, rfl, by decide +kernel, by decide +kernel⟩
def R__law_count : List Ty → Ty → Prop := fun as t => ∃ l, as = [dI l] ∧ small l ∧ t = nI (vol l)
theorem ok__law_count {f : Addr} {fd : FuncData} (F : Fun K "_law_count" "_law_count" s__law_count f fd) (T : Tx K mg aL) : FnOk P w K mg base CX0 1 f fd ["_law_divisors_here"] (FnD K C R__law_count) := by
  have nd := (sc__law_count).nd
  refine ok_of F sc__law_count (fun as t ⟨l, e, _⟩ => by subst e; rfl) fun cdv A outer s H E hr => ?_
  refine ⟨_, (pss_cons (ps_set (i := 1) nd rfl (Or.inl rfl) pe_int)
      (pss_cons (ps_for PassesOwn.never rfl (kSeq K (pv 0)) (pg_name (i := 2) nd rfl (Or.inl rfl)) (pss_one (ps_set (i := 1) nd rfl (Or.inl rfl) (pe_op (kMul K) (pv 1) (pv 2)))))
      (pss_one (ps_ret (pv 1))))),
      ?_⟩
  rintro as t ⟨l, rfl, hl, rfl⟩
  refine sd_then (sd_set ev_int) (sd_seq (M := fun Γ => ∃ x, Γ = [some (dI l), some (nI (vol l)), x]) (sd_for (iv_I (ev_var rfl)) (fun i Γ => ∃ x, Γ = [some (dI l), some (nI (vol (l.take i))), x]) ⟨none, rfl⟩ ?_ ?_) fun Γ ⟨x, e⟩ => by
    subst e
    exact sd_ret (ev_var rfl) rfl)
  · rintro i a _ ha ⟨x, rfl⟩
    refine ⟨_, [2], tg_name (by decide), sd_weak (sd_set (ev_mulU (ev_var rfl) (ev_var rfl) (.inr (hl a (List.mem_of_getElem? ha))))) (fun Γ e => ?_) fun _ h => h⟩
    subst e
    rw [List.take_add_one, ha]
    unfold vol
    rw [show (some a).toList = [a] from rfl, List.foldl_append]
    exact ⟨_, rfl⟩
  · rintro _ ⟨x, rfl⟩
    rw [List.take_length]
    exact ⟨_, rfl⟩
abbrev s__law_plus : Stmt := topS 63
abbrev N__law_plus : List Str := ["_law_one", "_law_other", "_law_a", "_law_b"]
theorem sc__law_plus : FnScope N__law_plus ["_law_one", "_law_other"] (defScope s__law_plus) := ⟨rfl, rfl, rfl, by decide +kernel, rfl, by decide +kernel, by decide +kernel⟩
theorem ok__law_plus {f : Addr} {fd : FuncData} (F : Fun K "_law_plus" "_law_plus" s__law_plus f fd) (T : Tx K mg aL) : FnOk P w K mg base CX0 1 f fd ["_law_one", "_law_other"] (FnD K C R_plus) := by
  have nd := (sc__law_plus).nd
  refine ok_of F sc__law_plus (fun as t ⟨l, m, e, _⟩ => by subst e; rfl) fun cdv A outer s H E hr => ?_
  refine ⟨_, (pss_one (ps_ret (pe_callTy (kTuple K) (by rfl) T.n_tuple boot_tuple (pa_cons (pe_lc (own := [("_law_a", 2), ("_law_b", 3)]) (g := gTup K 2 (gCons (gName 2) (gCons (gName 3) (gNil)))) (tt := tYes) rfl nd (kZip K T.n_zip (pa_cons (pv 0) (pa_cons (pv 1) pa_nil))) (blkOk_by (N := N__law_plus) (sc := defScope s__law_plus) (by decide +kernel)) (fun _ _ _ _ _ => (kPair K rfl (pgs_cons (pg_name (i := 2) nd rfl (Or.inl rfl)) (pgs_cons (pg_name (i := 3) nd rfl (Or.inl rfl)) pgs_nil)))) (fun _ _ _ _ _ => pts_nil) (fun _ _ _ _ _ => (pe_op (kAdd K) (pv 2) (pv 3)))) pa_nil)))),
      ?_⟩
  rintro as t ⟨l, m, rfl, hl, rfl⟩
  exact sd_ret (ev_tupTl (ev_is (ev_mapP (iv_zipI (ev_var rfl) (ev_var rfl)) (zip_len l m (by omega)) (by decide) (by decide) (f := fun p => .int (p.1 + p.2)) fun p hp => ⟨ev_addI (ev_var rfl) (ev_var rfl), rfl⟩) (congrArg Ty.tl (map_zip (fun a b => a + b) PyData.int l m)))) rfl
abbrev s__law_inside : Stmt := topS 72
abbrev N__law_inside : List Str := ["_law_box_here", "_law_place", "_law_at", "_law_side"]
theorem sc__law_inside : FnScope N__law_inside ["_law_box_here", "_law_place"] (defScope s__law_inside) := ⟨rfl, rfl, rfl, by decide +kernel, rfl, by decide +kernel, by decide +kernel⟩
theorem ok__law_inside {f : Addr} {fd : FuncData} (F : Fun K "_law_inside" "_law_inside" s__law_inside f fd) (T : Tx K mg aL) : FnOk P w K mg base CX0 1 f fd ["_law_box_here", "_law_place"] (FnD K C R_is_in) := by
  have nd := (sc__law_inside).nd
  refine ok_of F sc__law_inside (fun as t ⟨l, m, e, _⟩ => by subst e; rfl) fun cdv A outer s H E hr => ?_
  refine ⟨_, (pss_one (ps_ret (pe_callB (kAll K rfl) (by rfl) T.n_all boot_all (pa_cons (pe_lc (own := [("_law_at", 2), ("_law_side", 3)]) (g := gTup K 2 (gCons (gName 2) (gCons (gName 3) (gNil)))) (tt := tYes) rfl nd (kZip K T.n_zip (pa_cons (pv 1) (pa_cons (pv 0) pa_nil))) (blkOk_by (N := N__law_inside) (sc := defScope s__law_inside) (by decide +kernel)) (fun _ _ _ _ _ => (kPair K rfl (pgs_cons (pg_name (i := 2) nd rfl (Or.inl rfl)) (pgs_cons (pg_name (i := 3) nd rfl (Or.inl rfl)) pgs_nil)))) (fun _ _ _ _ _ => pts_nil) (fun _ _ _ _ _ => (pe_chain op_le op_lt pe_int (pv 2) (pv 3)))) pa_nil)))),
      ?_⟩
  rintro as t ⟨b, l, rfl, hl, rfl⟩
  refine sd_ret (ev_is (ev_all (l := (l.zip b).map fun p => decide (0 ≤ p.1) && decide (p.1 < p.2)) (ev_dat (ev_is (ev_mapP (iv_zipI (ev_var (i := 1) rfl) (ev_var (i := 0) rfl)) (zip_len l b (by omega)) (by decide) (by decide) (f := fun p => .bool (decide (0 ≤ p.1) && decide (p.1 < p.2))) fun p hp => ⟨ev_leLt ev_int (ev_var rfl) (ev_var rfl), rfl⟩) (by rw [List.map_map]; rfl)))) ?_) rfl
  rw [List.all_map]
  rfl
abbrev s__law_class : Stmt := topS 61
abbrev N__law_class : List Str := ["_law_divisors_here", "_law_place", "_law_found", "_law_at"]
theorem sc__law_class : FnScope N__law_class ["_law_divisors_here", "_law_place"] (defScope s__law_class) := ⟨rfl, rfl, rfl, by decide +kernel, rfl, by decide +kernel, by decide +kernel⟩
theorem zip_at {l D : List Int} {i : Nat} (h : l.length = D.length) (hi : i < D.length) : ∃ a b, l[i]? = some a ∧ D[i]? = some b ∧ (l.zip D)[i]? = some (a, b) := by
  have hl : i < l.length := by omega
  refine ⟨l[i], D[i], List.getElem?_eq_getElem hl, List.getElem?_eq_getElem hi, ?_⟩
  exact List.getElem?_zip_eq_some.mpr ⟨List.getElem?_eq_getElem hl, List.getElem?_eq_getElem hi⟩
def R__law_class : List Ty → Ty → Prop := fun as t => ∃ D l, as = [dI D, dI l] ∧ l.length = D.length ∧ D.length ≤ 1000 ∧ (∀ d ∈ D, 0 < d ∧ d < 1000) ∧ t = nI (clsAt D l)
theorem ok__law_class {f : Addr} {fd : FuncData} (F : Fun K "_law_class" "_law_class" s__law_class f fd) (T : Tx K mg aL) : FnOk P w K mg base CX0 1 f fd ["_law_divisors_here", "_law_place"] (FnD K C R__law_class) := by
  have nd := (sc__law_class).nd
  refine ok_of F sc__law_class (fun as t ⟨l, m, e, _⟩ => by subst e; rfl) fun cdv A outer s H E hr => ?_
  refine ⟨_, (pss_cons (ps_set (i := 2) nd rfl (Or.inl rfl) pe_int)
      (pss_cons (ps_for PassesOwn.never rfl (pi_range1 (by rfl) T.n_range (pa_cons (pe_callB (kLen K) (by rfl) T.n_len PySem.boot_len (pa_cons (pv 0) pa_nil)) pa_nil)) (pg_name (i := 3) nd rfl (Or.inl rfl)) (pss_one (ps_set (i := 2) nd rfl (Or.inl rfl) (pe_op (kAdd K) (pe_op (kMul K) (pv 2) (pe_ix (kIx K) (pv 0) (pv 3) (fun _ _ => rfl))) (pe_op op_mod (pe_callTy cr_int (by rfl) T.n_int boot_int (pa_cons (pe_ix (kIx K) (pv 1) (pv 3) (fun _ _ => rfl)) pa_nil)) (pe_ix (kIx K) (pv 0) (pv 3) (fun _ _ => rfl)))))))
      (pss_one (ps_ret (pv 2))))),
      ?_⟩
  rintro as t ⟨D, l, rfl, hl, hz, hD, rfl⟩
  refine sd_then (sd_set ev_int) (sd_seq (M := fun Γ => ∃ x, Γ = [some (dI D), some (dI l), some (nI (clsAt D l)), x]) (sd_for (iv_range (n := D.length) (ev_is (ev_len (.inr (ev_var rfl))) (by rw [List.length_map])) (by omega)) (fun i Γ => ∃ x, Γ = [some (dI D), some (dI l), some (nI (clsFrom 0 ((l.zip D).take i))), x]) ⟨none, rfl⟩ ?_ ?_) fun Γ ⟨x, e⟩ => by
    subst e
    exact sd_ret (ev_var rfl) rfl)
  · rintro i k _ ha ⟨x, rfl⟩
    have hi : i < D.length := by
      have := (List.getElem?_eq_some_iff.mp ha).1
      rwa [List.length_range] at this
    have hk : k = i := by
      rw [List.getElem?_range hi] at ha
      exact (Option.some.inj ha).symm
    subst hk
    obtain ⟨a, b, h1, h2, h3⟩ := zip_at hl hi
    have hb := hD b (List.mem_of_getElem? h2)
    have ixD : ∀ Γ : Ev, Γ[0]? = some (some (dI D)) → Γ[3]? = some (some (nI (k : Nat))) → EvD K C (tOp (rIxU K) (tVar 0) (tVar 3)) Γ (nI b) := fun Γ e1 e2 => ev_ixT (ev_var e1) (ev_var e2) (atI_nat (by rw [List.getElem?_map, h2]; rfl))
    refine ⟨_, [3], tg_name (by decide), sd_weak (sd_set (ev_addI (ev_mulU (ev_var rfl) (ixD _ rfl rfl) (.inr (by omega))) (ev_modI (ev_intI (ev_ixT (ev_var rfl) (ev_var rfl) (atI_nat (a := PyData.int a) (by rw [List.getElem?_map, h1]; rfl)))) (ixD _ rfl rfl) hb.1))) (fun Γ e => ?_) fun _ h => h⟩
    subst e
    rw [cls_take _ _ _ _ h3]
    exact ⟨_, rfl⟩
  · rintro _ ⟨x, rfl⟩
    rw [List.length_range, List.take_of_length_le (by rw [List.length_zip]; omega)]
    exact ⟨_, rfl⟩
abbrev s__law_cells : Stmt := topS 62
abbrev N__law_cells : List Str := ["_law_box_here", "_law_found", "_law_side", "_law_rows", "_law_cell", "_law_at"]
theorem sc__law_cells : FnScope N__law_cells ["_law_box_here"] (defScope s__law_cells) := ⟨rfl, rfl, rfl, by decide +kernel, rfl, by decide +kernel, by decide +kernel⟩
/-- all places of a box, in order -/
def cellsOf (b : List Int) : List (List Int) := b.foldl (fun acc side => acc.flatMap fun c => (rgI side.toNat).map fun i => c ++ [i]) [[]]
def R__law_cells : List Ty → Ty → Prop := fun as t => ∃ b, as = [dI b] ∧ b.length ≤ 3 ∧ (∀ i ∈ b, 0 ≤ i ∧ i ≤ 13) ∧ t = .tl ((cellsOf b).map pI)
theorem rgI_len (n : Nat) : (rgI n).length = n := by
  unfold rgI
  rw
      [List.length_map, List.length_range]
theorem flat_len {α β : Type} (f : α → List β) (b : Nat) : ∀ l : List α, (∀ a ∈ l, (f a).length ≤ b) → (l.flatMap f).length ≤ l.length * b
  | [], _ => by simp
  | a :: l, h => by
    rw [List.flatMap_cons, List.length_append, List.length_cons, Nat.succ_mul]
    have h1 := h a List.mem_cons_self
    have h2 := flat_len f b l fun x hx => h x (List.mem_cons_of_mem _ hx)
    omega
theorem cells_len {b : List Int} (hb : ∀ i ∈ b, 0 ≤ i ∧ i ≤ 13) : (cellsOf b).length ≤ 13 ^ b.length := by
  have key : ∀ (b : List Int) (acc : List (List Int)), (∀ i ∈ b, 0 ≤ i ∧ i ≤ 13) → (b.foldl (fun acc side => acc.flatMap fun c => (rgI side.toNat).map fun i => c ++ [i]) acc).length ≤ acc.length * 13 ^ b.length := by
    intro b
    induction b with
    | nil => intro acc _; simp
    | cons s r ih =>
      intro acc h
      have h1 := ih (acc.flatMap fun c => (rgI s.toNat).map fun i => c ++ [i]) fun i hi => h i (List.mem_cons_of_mem _ hi)
      have h2 := flat_len (fun c => (rgI s.toNat).map fun i => c ++ [i]) 13 acc fun c _ => by
        have := h s List.mem_cons_self
        rw [List.length_map, rgI_len]
        omega
      have h3 := Nat.mul_le_mul_right (13 ^ r.length) h2
      rw [List.length_cons, Nat.pow_succ]
      rw [List.foldl_cons]
      refine Nat.le_trans h1 (Nat.le_trans h3 (Nat.le_of_eq ?_))
      rw [Nat.mul_assoc, Nat.mul_comm 13]
  have := key b [[]] hb
  rw [List.length_singleton, Nat.one_mul] at this
  exact this
theorem cellsOf_snoc (b : List Int) (s : Int) : cellsOf (b ++ [s]) = (cellsOf b).flatMap fun c => (rgI s.toNat).map fun i => c ++ [i] := by
  unfold cellsOf
  rw [List.foldl_append]
  rfl
theorem pI_snoc (c : List Int) (i : Int) : pI (c ++ [i]) = .tuple (c.map .int ++ [.int i]) := by
  unfold pI
  rw [List.map_append]
  rfl
theorem cellsOf_dim {b : List Int} : ∀ c ∈ cellsOf b, c.length = b.length := by
  have key : ∀ (b : List Int) (acc : List (List Int)) (k : Nat), (∀ c ∈ acc, c.length = k) → ∀ c ∈ b.foldl (fun acc side => acc.flatMap fun c => (rgI side.toNat).map fun i => c ++ [i]) acc, c.length = k + b.length := by
    intro b
    induction b with
    | nil => intro acc k h c hc; exact h c hc
    | cons s r ih =>
      intro acc k h c hc
      have := ih (acc.flatMap fun c => (rgI s.toNat).map fun i => c ++ [i]) (k + 1) (fun c hc => by
        obtain ⟨a, ha, hc⟩ := List.mem_flatMap.mp hc
        obtain ⟨i, _, rfl⟩ := List.mem_map.mp hc
        rw [List.length_append, h a ha]
        rfl) c hc
      rw [this, List.length_cons]
      omega
  intro c hc
  have := key b [[]] 0 (fun c hc => by rw [List.mem_singleton] at hc; subst hc; rfl) c hc
  omega
theorem ok__law_cells {f : Addr} {fd : FuncData} (F : Fun K "_law_cells" "_law_cells" s__law_cells f fd) (T : Tx K mg aL) : FnOk P w K mg base CX0 1 f fd ["_law_box_here"] (FnD K C R__law_cells) := by
  have nd := (sc__law_cells).nd
  refine ok_of F sc__law_cells (fun as t ⟨l, e, _⟩ => by subst e; rfl) fun cdv A outer s H E hr => ?_
  refine ⟨_, (pss_cons (ps_set (i := 1) nd rfl (Or.inl rfl) (pe_lst (pa_cons (pe_tup pa_nil) pa_nil)))
      (pss_cons (ps_for PassesOwn.never rfl (kSeq K (pv 0)) (pg_name (i := 2) nd rfl (Or.inl rfl)) (pss_cons (ps_set (i := 3) nd rfl (Or.inl rfl) (pe_lst pa_nil))
      (pss_cons (ps_for PassesOwn.never rfl (kSeq K (pv 1)) (pg_name (i := 4) nd rfl (Or.inr rfl)) (pss_one (ps_set (i := 3) nd rfl (Or.inl rfl) (pe_op (kAdd K) (pv 3) (pe_lc (own := [("_law_at", 5)]) (g := gName 5) (tt := tYes) rfl nd (pi_range1 (by rfl) T.n_range (pa_cons (pv 2) pa_nil)) (blkOk_by (N := N__law_cells) (sc := defScope s__law_cells) (by decide +kernel)) (fun _ _ _ _ _ => (pg_name (i := 5) nd rfl (Or.inl rfl))) (fun _ _ _ _ _ => pts_nil) (fun _ _ _ _ _ => (pe_op (kAdd K) (pv 4) (pe_tup (pa_cons (pv 5) pa_nil)))))))))
      (pss_one (ps_set (i := 1) nd rfl (Or.inl rfl) (pv 3))))))
      (pss_one (ps_ret (pv 1))))),
      ?_⟩
  rintro as t ⟨b, rfl, hl, hb, rfl⟩
  refine sd_then (sd_set (t := .tl ((cellsOf []).map pI)) (ev_lst (ea_cons (ev_tup ea_nil rfl (Nat.zero_le _)) ea_nil) rfl (Nat.le_of_ble_eq_true rfl))) ?_
  refine sd_seq (M := fun Γ => ∃ x y z u, Γ = [some (dI b), some (.tl ((cellsOf b).map pI)), x, y, z, u]) (sd_for (iv_I (ev_var rfl)) (fun i Γ => ∃ x y z u, Γ = [some (dI b), some (.tl ((cellsOf (b.take i)).map pI)), x, y, z, u]) ⟨none, none, none, none, by rw [List.take_zero]; rfl⟩ ?_ ?_) fun Γ ⟨x, y, z, u, e⟩ => by
    subst e
    exact sd_ret (ev_var rfl) rfl
  · rintro i sd _ ha ⟨x, y, z, u, rfl⟩
    have hsd := hb sd (List.mem_of_getElem? ha)
    have hcl : (cellsOf (b.take i)).length ≤ 2197 := by
      refine Nat.le_trans (cells_len fun j hj => hb j (List.mem_of_mem_take hj)) ?_
      have : (b.take i).length ≤ 3 := Nat.le_trans (List.length_take_le' _ _) hl
      exact Nat.le_trans (Nat.pow_le_pow_right (by decide) this) (by decide)
    refine ⟨_, [2], tg_name (by decide), ?_⟩
    refine sd_then (sd_set (t := .tl []) (ev_lst ea_nil rfl (Nat.zero_le _))) ?_
    refine sd_seq (M := fun Γ => ∃ z u, Γ = [some (dI b), some (.tl ((cellsOf (b.take i)).map pI)), some (nI sd), some (.tl ((cellsOf (b.take (i + 1))).map pI)), z, u]) (sd_for (iv_of_map (g := pI) (iv_L (ev_dat (ev_var rfl))))
      (fun j Γ => ∃ z u, Γ = [some (dI b), some (.tl ((cellsOf (b.take i)).map pI)), some (nI sd), some (.tl ((((cellsOf (b.take i)).take j).flatMap fun c => (rgI sd.toNat).map fun i => c ++ [i]).map pI)), z, u]) ⟨z, u, rfl⟩ ?_ ?_) ?_
    · rintro j c _ hc ⟨z, u, rfl⟩
      have hcm : c ∈ cellsOf (b.take i) := List.mem_of_getElem? hc
      have hcd := cellsOf_dim c hcm
      have hct : c.length ≤ 3 := by
        rw [hcd]
        exact Nat.le_trans (List.length_take_le' _ _) hl
      refine ⟨_, [4], tg_name (by decide), sd_weak (sd_set (ev_catL (ev_var rfl) (ev_is (ev_mapN0 (as := List.range sd.toNat) (f := fun k => pI (c ++ [((k : Nat) : Int)])) (iv_range (ev_is (ev_var rfl) (t' := nI ((sd.toNat : Nat) : Int)) ?_) (by omega)) (by rw [List.length_range]; omega) (by decide) fun k hk => ?_) (t' := .tl (((rgI sd.toNat).map fun i => c ++ [i]).map pI)) ?_) ?_)) (fun Γ e => ?_) fun _ h => h⟩
      · rw [Int.toNat_of_nonneg hsd.1]
      · rw [pI_snoc]
        exact ev_catT (ev_var rfl) (ev_tup (ts := [nI ((k : Nat) : Int)]) (ea_cons (ev_var rfl) ea_nil) rfl (Nat.le_of_ble_eq_true rfl)) (by rw [List.length_map]; show c.length + 1 ≤ 100000; omega)
      · unfold rgI
        rw
            [List.map_map, List.map_map]
        rfl
      · rw [List.length_map, List.length_map, List.length_map, rgI_len]
        have h2 := flat_len (fun c : List Int => (rgI sd.toNat).map fun i => c ++ [i]) 13 ((cellsOf (b.take i)).take j) fun c _ => by
          rw [List.length_map, rgI_len]
          omega
        have h3 := List.length_take_le' j (cellsOf (b.take i))
        omega
      · subst e
        refine ⟨some (dI c), u, ?_⟩
        rw [List.take_add_one, hc, show (some c).toList = [c] from rfl, List.flatMap_append, List.map_append, List.flatMap_singleton]
        rfl
    · rintro _ ⟨z, u, rfl⟩
      rw [List.take_length, List.take_add_one, ha, show (some sd).toList = [sd] from rfl, cellsOf_snoc]
      exact ⟨_, _, rfl⟩
    · rintro _ ⟨z, u, rfl⟩
      exact sd_weak (sd_set (ev_var rfl)) (fun Γ e => by subst e; exact ⟨_, _, _, _, rfl⟩) fun _ h => h
  · rintro _ ⟨x, y, z, u, rfl⟩
    rw [List.take_length]
    exact ⟨_, _, _, _, rfl⟩
end
end Lk
namespace Lk
open PySem PySem.Spec PyProof.Rows L2 Ly
theorem srt_id {l : List Int} (h : l.Pairwise (· ≤ ·)) : l.mergeSort (fun a b => decide (a ≤ b)) = l := (PySem.W.os_sorted_mergeSort (List.Perm.refl l) h).symm
theorem rgI_sorted (m : Nat) : (rgI m).Pairwise (· ≤ ·) := by
  unfold rgI
  rw [List.pairwise_map]
  exact List.pairwise_lt_range.imp fun h => by omega
section
variable {P : Program} {w : World} {K : PySem.W.Frag} {mg : Str → Option Value} {base : Heap} {C aL : Addr}
abbrev s_is_parting : Stmt := topS 44
abbrev N_is_parting : List Str := ["groups", "many", "seen", "group", "one"]
theorem sc_is_parting : FnScope N_is_parting ["groups", "many"] (defScope s_is_parting) := ⟨rfl, rfl, rfl, by decide +kernel, rfl, by decide +kernel, by decide +kernel⟩
theorem ok_is_parting {f : Addr} {fd : FuncData} (F : Fun K "is_parting" "is_parting" s_is_parting f fd) (T : Tx K mg aL) (c_is_number : Cal P w K mg base 1 "is_number" ["value"] (FnD K C R_is_number)) : FnOk P w K mg base CX0 2 f fd ["groups", "many"] (FnD K C R_is_parting) := by
  have nd := (sc_is_parting).nd
  refine ok_ofM F sc_is_parting (fun as t ⟨l, m, e, _⟩ => by subst e; rfl) fun cdv A outer s H E hr => ?_
  refine ⟨_, (pss_cons (ps_if (PW.pt (pw_or (pt_not (pt_val (pe_callB (kIsi K) (by rfl) T.n_isinstance boot_isinstance (pa_cons (pv 0) (pa_cons (pe_bltn (v := .ty "tuple") rfl T.n_tuple boot_tuple rfl) pa_nil))))) (pw_or1 (pt_cmpR (kEq K hr.units) (pv 0) (pe_tup pa_nil) (nomark _))))) (pss_one (ps_ret pe_bl)) pss_nil)
      (pss_cons (ps_set (i := 2) nd rfl (Or.inl rfl) (pe_lst pa_nil))
      (pss_cons (ps_for PassesOwn.never rfl (kSeq K (pv 0)) (pg_name (i := 3) nd rfl (Or.inl rfl)) (pss_cons (ps_if (PW.pt (pw_or (pt_not (pt_val (pe_callB (kIsi K) (by rfl) T.n_isinstance boot_isinstance (pa_cons (pv 3) (pa_cons (pe_bltn (v := .ty "tuple") rfl T.n_tuple boot_tuple rfl) pa_nil))))) (pw_or (pt_cmpR (kNe K hr.units) (pe_callB (kLen K) (by rfl) T.n_len PySem.boot_len (pa_cons (pv 3) pa_nil)) pe_int (nomark _)) (pw_or (pt_not (pt_val (pe_callB (kIsi K) (by rfl) T.n_isinstance boot_isinstance (pa_cons (pe_ix (kIx K) (pv 3) pe_int (fun _ _ => rfl)) (pa_cons (pe_bltn (v := .ty "tuple") rfl T.n_tuple boot_tuple rfl) pa_nil))))) (pw_or1 (pt_cmpR (kEq K hr.units) (pe_ix (kIx K) (pv 3) pe_int (fun _ _ => rfl)) (pe_tup pa_nil) (nomark _))))))) (pss_one (ps_ret pe_bl)) pss_nil)
      (pss_cons (ps_if (PW.pt (pw_or (pt_not (pt_val (pe_callB (kAll K rfl) (by rfl) T.n_all boot_all (pa_cons (pe_lc (own := [("one", 4)]) (g := gName 4) (tt := tYes) rfl nd (kSeq K (pe_ix (kIx K) (pv 3) pe_int (fun _ _ => rfl))) (blkOk_by (N := N_is_parting) (sc := defScope s_is_parting) (by decide +kernel)) (fun _ _ _ _ _ => (pg_name (i := 4) nd rfl (Or.inl rfl))) (fun _ _ _ _ _ => pts_nil) (fun _ _ _ _ _ => (pe_cal c_is_number (hr.mono (by decide)) (pa_cons (pv 4) pa_nil)))) pa_nil)))) (pw_or1 (pt_cmpR (kNe K hr.units) (pe_callTy (kList K) (by rfl) T.n_list boot_list (pa_cons (pe_ix (kIx K) (pv 3) pe_int (fun _ _ => rfl)) pa_nil)) (pe_callB (kSorted K rfl (hu65 hr)) (by rfl) T.n_sorted boot_sorted (pa_cons (pe_ix (kIx K) (pv 3) pe_int (fun _ _ => rfl)) pa_nil)) (nomark _))))) (pss_one (ps_ret pe_bl)) pss_nil)
      (pss_one (ps_expr (pe_bm PySem.F.plainAttrs_list PySem.F.slot_list_extend PySem.F.type_list_extend (kExtT K) (pv 2) (pa_cons (pe_ix (kIx K) (pv 3) pe_int (fun _ _ => rfl)) pa_nil)))))))
      (pss_one (ps_ret (pe_cmpR (kEq K hr.units) (pe_callB (kSorted K rfl (hu65 hr)) (by rfl) T.n_sorted boot_sorted (pa_cons (pv 2) pa_nil)) (pe_listRg rfl (by rfl) T.n_list (prg_1 (by rfl) T.n_range (pv 1))) (nomark _))))))),
      ?_⟩
  rintro as t ⟨ps, m, rfl, hm, hl, parts, sh, rfl⟩
  have v0 : EvD K C (tVar 0) (startG N_is_parting.length [.dat (grpD ps), nI ((m : Nat) : Int)]) (.dat (.tuple (ps.map fun p => .tuple [pI p.1, p.2.toD]))) := ev_is (ev_var rfl) (congrArg Ty.dat (congrArg PyData.tuple (toDs_map ps)))
  have hne : ps ≠ [] := fun e => by
    subst e
    exact parts.ne rfl
  have hper : ((ps.map (·.1)).flatten).Perm (rgI m) := parts.perm
  have hlen : ((ps.map (·.1)).flatten).length = m := by rw [hper.length_eq, rgI_len]
  refine sm_then (sm_weak (sm_sd (N := fun Γ => Γ = startG N_is_parting.length [.dat (grpD ps), nI ((m : Nat) : Int)]) (R := NoR) (sd_if (b := !true || false) (eb_or (eb_not (eb_test (ev_isi v0 (fun _ h => nomatch h) (fun h => nomatch h) (b := true) ki_tt))) fun _ => eb_is (eb_test (ev_eqD (d := grpD ps) (ev_var rfl) (ev_tup ea_nil rfl (Nat.zero_le _)) sh rfl)) ?_) (fun h => by cases h) fun _ => sd_next rfl)) (fun Γ' O' h => ⟨h.2, h.1⟩) fun _ _ h => h.2.elim) ?_
  · unfold grpD
    rw [toDs_map]
    cases ps with
    | nil => exact absurd rfl hne
    | cons a r => simp [PyData.eqv, PyData.eqvAll, unD]
  refine sm_own fun p => ?_
  let acc : Nat → List Int := fun i => ((ps.take i).map (·.1)).flatten
  refine sm_seq (M := fun Γ O => ∃ a b, Γ = [some (.dat (grpD ps)), some (nI ((m : Nat) : Int)), some (.own p), a, b] ∧ O = [lstR K p ((acc ps.length).map .int)]) (sm_forD (iv_of_map (g := fun p : List Int × Tr => PyData.tuple [pI p.1, p.2.toD]) (iv_T (ev_is (ev_var rfl) (congrArg Ty.dat (congrArg PyData.tuple (toDs_map ps))))))
    (fun i Γ O => ∃ a b, Γ = [some (.dat (grpD ps)), some (nI ((m : Nat) : Int)), some (.own p), a, b] ∧ O = [lstR K p ((acc i).map .int)]) ⟨none, none, rfl, rfl⟩ ?_ fun Γ O h => h) ?_
  · rintro i ⟨g, t⟩ _ _ ha ⟨a, b, rfl, rfl⟩
    have hmem : g ∈ ps.map (·.1) := List.mem_map.mpr ⟨_, List.mem_of_getElem? ha, rfl⟩
    obtain ⟨gne, gsrt⟩ := parts.each g hmem
    have hacc : acc (i + 1) = acc i ++ g := by
      show ((ps.take (i + 1)).map (·.1)).flatten = ((ps.take i).map (·.1)).flatten ++ g
      rw [List.take_add_one, ha, List.map_append, List.flatten_append]
      show _ = _
      simp
    have hle : (acc (i + 1)).length ≤ m := by
      rw [← hlen]
      have e : (ps.map (·.1)).flatten = acc (i + 1) ++ ((ps.drop (i + 1)).map (·.1)).flatten := by
        show _ = ((ps.take (i + 1)).map (·.1)).flatten ++ _
        rw [← List.flatten_append, ← List.map_append, List.take_append_drop]
      rw [e, List.length_append]
      omega
    have hgl : g.length ≤ m := by
      rw [hacc, List.length_append] at hle
      omega
    have hal : (acc i).length + g.length ≤ m := by
      rw [hacc, List.length_append] at hle
      exact hle
    refine ⟨_, [3], tg_name (by decide), ?_⟩
    have v3 : ∀ b, EvD K C (tVar 3) [some (.dat (grpD ps)), some (nI ((m : Nat) : Int)), some (.own p), some (.dat (.tuple [pI g, t.toD])), b] (.dat (.tuple [pI g, t.toD])) := fun b => ev_var rfl
    have g0 : ∀ b, EvD K C (tOp (rIxU K) (tVar 3) (tC (.int 0))) [some (.dat (grpD ps)), some (nI ((m : Nat) : Int)), some (.own p), some (.dat (.tuple [pI g, t.toD])), b] (dI g) := fun b => ev_ixT (v3 b) ev_int rfl
    show SM K C _ [some (.dat (grpD ps)), some (nI ((m : Nat) : Int)), some (.own p), some (.dat (.tuple [pI g, t.toD])), b] _ _ _
    refine sm_then (sm_if (b := !true || (false || (!true || false))) (ebs_eb (eb_or (eb_not (eb_test (ev_isi (v3 b) (fun _ h => nomatch h) (fun h => nomatch h) (b := true) ki_tt))) fun _ => eb_or (eb_is (eb_test (ev_neD (ev_len (.inr (v3 b))) ev_int rfl rfl)) rfl) fun _ => eb_or (eb_not (eb_test (ev_isi (g0 b) (fun _ h => nomatch h) (fun h => nomatch h) (b := true) ki_tt))) fun _ => eb_is (eb_test (ev_eqD (g0 b) (ev_tup ea_nil rfl (Nat.zero_le _)) (shaped_pI _) rfl)) ?_)) (fun h => by cases h) fun _ => sm_next ⟨rfl, rfl⟩) ?_
    · cases g with
      | nil => exact absurd rfl gne
      | cons x r => simp [pI, PyData.eqv, PyData.eqvAll, unD]
    refine sm_then (sm_if (b := !(g.map fun _ => true).all id || false) (ebs_eb (eb_or (eb_not (eb_test (ev_all (ev_dat (ev_is (ev_mapN (iv_I (g0 b)) (by omega) (by decide) (f := fun _ => .bool true) fun i hi => ⟨ev_call (ea_cons (ev_var rfl) ea_nil) ⟨i, rfl, rfl⟩, rfl⟩) (by rw [List.map_map]; rfl)))))) fun _ => eb_is (eb_test (ev_neD (ev_dat (ev_listOf (.inr (g0 b)))) (ev_dat (ev_sortedI (.inr (g0 b)) (by omega))) (shaped_ints _) (shaped_ints _))) ?_)) (fun h => ?_) fun _ => sm_next ⟨rfl, rfl⟩) ?_
    · rw [srt_id gsrt, PyData.eqv, eqv_ints]
      simp
    · exfalso
      rw [List.all_map] at h
      simp at h
    refine sm_weak (sm_extendT (j := 0) (ds := (acc i).map .int) rfl rfl (g0 b) (by rw [List.length_map, List.length_map]; omega)) (fun Γ O ⟨e1, e2⟩ => ⟨_, _, e1, ?_⟩) fun _ _ h => h
    rw [e2, hacc, List.map_append]
    rfl
  · rintro _ _ ⟨a, b, rfl, rfl⟩
    have e : acc ps.length = (ps.map (·.1)).flatten := by
      show ((ps.take ps.length).map (·.1)).flatten = _
      rw [List.take_length]
    rw [e]
    refine sm_retS (es_vis (i := 2) (j := 0) rfl rfl looks_lst (ev_eqD (ev_dat (ev_sortedI (.inl (ev_dat (ev_var rfl))) (by omega))) (ev_dat (ev_listRg (ev_var rfl) (by omega))) (shaped_ints _) (shaped_ints _)) rfl) ?_
    have e2 : ((ps.map (·.1)).flatten).mergeSort (fun a b => decide (a ≤ b)) = rgI m := (PySem.W.os_sorted_mergeSort hper.symm (rgI_sorted m)).symm
    rw [e2, PyData.eqv, eqv_ints]
    simp
abbrev s_path_of : Stmt := topS 52
abbrev N_path_of : List Str := ["tree", "divisors", "place", "found", "at", "group"]
theorem sc_path_of : FnScope N_path_of ["tree", "divisors", "place"] (defScope s_path_of) := ⟨rfl, rfl, rfl, by decide +kernel, rfl, by decide +kernel, by decide +kernel⟩
def R_path_of : List Ty → Ty → Prop := fun as t => ∃ T D p h, as = [.dat T.toD, dI D, dI p] ∧ h ≤ 10 ∧ OkDiv D ∧ p.length = D.length ∧ Wf D.length (vol D).toNat h T ∧ t = dI (full T D p)
theorem path_len {n m h : Nat} {T : Tr} (w : Wf n m h T) (p : List Int) (c : Int) : (T.path p c).length ≤ h := by
  induction w with
  | leaf => rw [Tr.path]; exact Nat.zero_le _
  | key _ _ _ _ _ ih => rw [Tr.path, List.length_cons]; omega
  | @fork h ps h1 h2 w ih =>
    rw [Tr.path]
    have key : ∀ (ps : List (List Int × Tr)) (k : Nat), (∀ q ∈ ps, (q.2.path p c).length ≤ h) → (pathF p c ps k).length ≤ h + 1 := by
      intro ps
      induction ps with
      | nil => intro k _; rw [pathF]; exact Nat.zero_le _
      | cons a r ih =>
        intro k hq
        obtain ⟨g, t⟩ := a
        rw [pathF]
        split
        · rw [List.length_cons]
          exact Nat.succ_le_succ (hq _ List.mem_cons_self)
        · exact ih _ fun q hq' => hq q (List.mem_cons_of_mem _ hq')
    exact key ps 0 ih
theorem ok_path_of {f : Addr} {fd : FuncData} (F : Fun K "path_of" "path_of" s_path_of f fd) (T : Tx K mg aL) (c_times : Cal P w K mg base 1 "times" ["one", "other"] (FnD K C R_times)) (c_group_at : Cal P w K mg base 1 "group_at" ["groups", "number"] (FnD K C R_group_at)) (c_class_at : Cal P w K mg base 1 "class_at" ["divisors", "place"] (FnD K C R_class_at)) : FnOk P w K mg base CX0 2 f fd ["tree", "divisors", "place"] (FnD K C R_path_of) := by
  have nd := (sc_path_of).nd
  refine ok_ofM F sc_path_of (fun as t ⟨T, D, p, h, e, _⟩ => by subst e; rfl) fun cdv A outer s H E hr => ?_
  refine ⟨_, (pss_cons (ps_par (i := 3) (j := 4) rfl nd rfl rfl (by decide) rfl rfl (pa_cons (pe_lst pa_nil) (pa_cons (pe_cal c_class_at (hr.mono (by decide)) (pa_cons (pv 1) (pa_cons (pv 2) pa_nil))) pa_nil)) (by rfl))
      (pss_cons (ps_while PassesOwn.never (pt_cmpR (kNe K hr.units) (pv 0) (pe_glob (v := .ref aL) rfl T.c_LEAF rfl) (nomark _)) (pss_one (ps_if (pt_cmpR (kEq K hr.units) (pe_ix (kIx K) (pv 0) pe_int (fun _ _ => rfl)) pe_str (nomark _)) (pss_cons (ps_expr (pe_bm PySem.F.plainAttrs_list PySem.F.slot_list_append PySem.F.type_list_append mt_append (pv 3) (pa_cons (pe_op (kAdd K) (pe_cal c_times (hr.mono (by decide)) (pa_cons (pe_ix (kIx K) (pv 0) pe_int (fun _ _ => rfl)) (pa_cons (pv 2) pa_nil))) (pe_ix (kIx K) (pe_ix (kIx K) (pv 0) pe_int (fun _ _ => rfl)) (pv 4) (fun _ _ => rfl))) pa_nil)))
      (pss_one (ps_set (i := 0) nd rfl (Or.inl rfl) (pe_ix (kIx K) (pv 0) pe_int (fun _ _ => rfl))))) (pss_cons (ps_set (i := 5) nd rfl (Or.inl rfl) (pe_cal c_group_at (hr.mono (by decide)) (pa_cons (pe_ix (kIx K) (pv 0) pe_int (fun _ _ => rfl)) (pa_cons (pv 4) pa_nil))))
      (pss_cons (ps_expr (pe_bm PySem.F.plainAttrs_list PySem.F.slot_list_append PySem.F.type_list_append mt_append (pv 3) (pa_cons (pv 5) pa_nil)))
      (pss_one (ps_set (i := 0) nd rfl (Or.inl rfl) (pe_ix (kIx K) (pe_ix (kIx K) (pe_ix (kIx K) (pv 0) pe_int (fun _ _ => rfl)) (pv 5) (fun _ _ => rfl)) pe_int (fun _ _ => rfl)))))))))
      (pss_one (ps_ret (pe_tup (kStar K (pv 3) (kStar K (pv 2) pa_nil))))))),
      ?_⟩
  rintro as t ⟨T0, D, pl, h, rfl, hh, okD, hp, wf, rfl⟩
  have sk := shaped_str "key" (by decide +kernel)
  have sf := shaped_str "fork" (by decide +kernel)
  have hD := okD.most
  have hDd : ∀ d ∈ D, 0 < d ∧ d < 1000 := fun d hd => by
    have := okD.each d hd
    omega
  obtain ⟨cp0, cp1⟩ := cls_lt hp fun d hd => (okD.each d hd).1
  have hvol := okD.vol
  refine sm_ownPar (fun p => em_ev (ev_call (ea_cons (ev_var rfl) (ea_cons (ev_var rfl) ea_nil)) ⟨D, pl, rfl, by omega, hDd, rfl⟩)) fun p t ht => ?_
  subst ht
  let G : Nat → Ev → Ow → Prop := fun k Γ O => ∃ (t : Tr) (acc : List Int) (a : Option Ly.Ty), k + acc.length ≤ h ∧ Wf D.length (vol D).toNat k t ∧ acc ++ t.path pl (clsAt D pl) = T0.path pl (clsAt D pl) ∧ Γ = [some (.dat t.toD), some (dI D), some (dI pl), some (.own p), some (nI (clsAt D pl)), a] ∧ O = [lstR K p (acc.map .int)]
  refine sm_seq (M := fun Γ O => ∃ a, Γ = [some (.dat leafD), some (dI D), some (dI pl), some (.own p), some (nI (clsAt D pl)), a] ∧ O = [lstR K p ((T0.path pl (clsAt D pl)).map .int)]) (sm_while G h ⟨T0, [], none, Nat.le_refl _, wf, rfl, rfl, rfl⟩ ?_) ?_
  · rintro k _ _ ⟨t, acc, a, hk, w, hs, rfl, rfl⟩
    refine ⟨_, ebs_eb (eb_test (ev_neD (ev_var rfl) (ev_con T.leaf) (w.shaped (by omega)) (by decide +kernel))), fun hb => ?_, fun hb => ?_⟩
    · cases w with
      | leaf => rw [Tr.toD] at hb; exact absurd hb (by decide +kernel)
      | @key k r hts t h1 h2 h3 h4 w =>
        have v0 : ∀ Γ : Ev, Γ[0]? = some (some (.dat (Tr.key r hts t).toD)) → EvD K C (tVar 0) Γ (.dat (.tuple [.str "key", pI r, pI hts, t.toD])) := fun Γ e => ev_is (ev_var e) (by rw [Tr.toD])
        refine sm_if (b := true) (ebs_eb (eb_is (eb_test (ev_eqD (ev_ixT (v0 _ rfl) ev_int rfl) ev_str sk sk)) (by decide +kernel))) (fun _ => ?_) fun h => by cases h
        refine sm_then (sm_appendS (j := 0) (ds := acc.map .int) rfl rfl (es_ev (ev_addI (ev_call (ea_cons (ev_ixT (v0 _ rfl) ev_int rfl) (ea_cons (ev_var rfl) ea_nil)) ⟨r, pl, rfl, by omega, h3, rfl⟩) (ev_ixT (ev_ixT (v0 _ rfl) ev_int rfl) (ev_var rfl) (ht_at h2 cp0 (by omega))))) (by rw [List.length_map]; omega)) ?_
        refine sm_weak (sm_set (ev_ixT (v0 _ rfl) ev_int rfl)) (fun Γ O ⟨e1, e2⟩ => ⟨k, Nat.lt_succ_self k, t, acc ++ [dot r pl + hts.getD (clsAt D pl).toNat 0], a, ?_, w, ?_, e1, ?_⟩) fun _ _ h => h
        · rw
              [List.length_append, List.length_singleton]
          omega
        · rw [← hs, Tr.path, List.append_assoc]
          rfl
        · rw [e2, List.map_append]
          rfl
      | @fork k ps h1 h2 w =>
        have v0 : ∀ Γ : Ev, Γ[0]? = some (some (.dat (Tr.fork ps).toD)) → EvD K C (tVar 0) Γ (.dat (.tuple [.str "fork", .tuple (toDs ps)])) := fun Γ e => ev_is (ev_var e) (by rw [Tr.toD])
        have mem : ∃ p ∈ ps, clsAt D pl ∈ p.1 := by
          obtain ⟨g, hg, hc⟩ := h1.has cp0 (by omega)
          obtain ⟨x, hx, rfl⟩ := List.mem_map.mp hg
          exact ⟨x, hx, hc⟩
        obtain ⟨xp, xp1, xp2, xp3⟩ := pathF_at pl (clsAt D pl) ps 0 mem
        rw [Nat.zero_add] at xp3
        refine sm_if (b := false) (ebs_eb (eb_is (eb_test (ev_eqD (ev_ixT (v0 _ rfl) ev_int rfl) ev_str sf sk)) (by decide +kernel))) (fun h => by cases h) fun _ => ?_
        refine sm_then (sm_set (ev_call (ea_cons (ev_ixT (v0 _ rfl) ev_int rfl) (ea_cons (ev_var rfl) ea_nil)) ⟨ps, _, rfl, by omega, mem, rfl⟩)) ?_
        refine sm_then (sm_appendS (j := 0) (ds := acc.map .int) (d := .int (gat (clsAt D pl) (ps.map (·.1)) : Nat)) rfl rfl (es_ev (ev_var rfl)) (by rw [List.length_map]; omega)) ?_
        refine sm_weak (sm_set (ev_ixT (ev_ixT (ev_ixT (v0 _ rfl) ev_int rfl) (ev_var rfl) (atI_nat (a := PyData.tuple [pI xp.1, xp.2.toD]) ?_)) ev_int rfl)) (fun Γ O ⟨e1, e2⟩ => ⟨k, Nat.lt_succ_self k, xp.2, acc ++ [((gat (clsAt D pl) (ps.map (·.1)) : Nat) : Int)], _, ?_, w xp (List.mem_of_getElem? xp1), ?_, e1, ?_⟩) fun _ _ h => h
        · rw [toDs_map, List.getElem?_map, xp1]
          rfl
        · rw
              [List.length_append, List.length_singleton]
          omega
        · rw [← hs, Tr.path, xp3, List.append_assoc]
          rfl
        · rw [e2, List.map_append]
          rfl
    · cases w with
      | leaf =>
        rw [Tr.path, List.append_nil] at hs
        subst hs
        exact ⟨a, by rw [Tr.toD], rfl⟩
      | key => rw [Tr.toD] at hb; exact absurd hb (by simp [leafD, PyData.eqv, PyData.eqvAll])
      | fork => rw [Tr.toD] at hb; exact absurd hb (by simp [leafD, PyData.eqv, PyData.eqvAll])
  · rintro _ _ ⟨a, rfl, rfl⟩
    have hpl := path_len wf pl (clsAt D pl)
    refine sm_retS (t := dI (full T0 D pl)) (es_vis (i := 3) (j := 0) rfl rfl looks_lst (ev_is (ev_tup (ea_star (.inr (ev_dat (ev_var rfl))) (ea_star (.inl (ev_var (i := 2) rfl)) ea_nil)) (by rw [allD_app, allD_app]; rfl) ?_) ?_) (nolAll_ints _)) rfl
    · rw [List.length_append, List.length_append, List.length_map, List.length_map, List.length_map, List.length_map]
      show _ + (_ + 0) ≤ _
      omega
    · rw [unD_app, unD_app]
      show Ty.dat (.tuple (_ ++ (_ ++ []))) = _
      rw [List.append_nil]
      unfold full
      show _ = Ty.dat (PyData.tuple ((T0.path pl (clsAt D pl) ++ pl).map .int))
      rw [List.map_append]
abbrev s__law_path : Stmt := topS 67
abbrev N__law_path : List Str := ["_law_divisors_here", "_law_tree_here", "_law_place", "_law_found", "_law_at", "_law_index", "_law_k", "_law_one", "_law_two"]
theorem sc__law_path : FnScope N__law_path ["_law_divisors_here", "_law_tree_here", "_law_place"] (defScope s__law_path) := ⟨rfl, rfl, rfl, by decide +kernel, rfl, by decide +kernel, by decide +kernel⟩
def R__law_path : List Ty → Ty → Prop := fun as t => ∃ T D p h, as = [dI D, .dat T.toD, dI p] ∧ h ≤ 10 ∧ OkDiv D ∧ p.length = D.length ∧ Wf D.length (vol D).toNat h T ∧ t = dI (full T D p)
theorem first_at (q : Nat → Bool) (n : Nat) (k : Nat) (hk : k < n) (hq : q k = true) (hl : ∀ j, j < k → q j = false) : ((List.range n).filter q)[0]? = some k := by
  have e : List.range n = List.range k ++ (List.range (n - k)).map (k + ·) := by
    rw [← List.range_add]
    congr 1
    omega
  rw [e, List.filter_append]
  have h1 : (List.range k).filter q = [] := List.filter_eq_nil_iff.mpr fun j hj => by
    rw [hl j (List.mem_range.mp hj)]
    exact Bool.false_ne_true
  rw [h1, List.nil_append]
  obtain ⟨d, hd⟩ : ∃ d, n - k = d + 1 := ⟨n - k - 1, by omega⟩
  rw [hd, List.range_succ_eq_map, List.map_cons, Nat.add_zero, List.filter_cons_of_pos hq]
  rfl
theorem ok__law_path {f : Addr} {fd : FuncData} (F : Fun K "_law_path" "_law_path" s__law_path f fd) (T : Tx K mg aL) (c__law_class : Cal P w K mg base 1 "_law_class" ["_law_divisors_here", "_law_place"] (FnD K C R__law_class)) : FnOk P w K mg base CX0 2 f fd ["_law_divisors_here", "_law_tree_here", "_law_place"] (FnD K C R__law_path) := by
  have nd := (sc__law_path).nd
  refine ok_ofM F sc__law_path (fun as t ⟨T, D, p, h, e, _⟩ => by subst e; rfl) fun cdv A outer s H E hr => ?_
  refine ⟨_, (pss_cons (ps_asg (pe_tup (pa_cons (pe_lst pa_nil) (pa_cons (pe_cal c__law_class (hr.mono (by decide)) (pa_cons (pv 0) (pa_cons (pv 2) pa_nil))) pa_nil))) (kPair K rfl (pgs_cons (pg_name (i := 3) nd rfl (Or.inl rfl)) (pgs_cons (pg_name (i := 4) nd rfl (Or.inr rfl)) pgs_nil))))
      (pss_cons (ps_while PassesOwn.never (pt_cmpR (kNe K hr.units) (pe_ix (kIx K) (pv 1) pe_int (fun _ _ => rfl)) pe_str (nomark _)) (pss_one (ps_if (pt_cmpR (kEq K hr.units) (pe_ix (kIx K) (pv 1) pe_int (fun _ _ => rfl)) pe_str (nomark _)) (pss_cons (ps_expr (pe_bm PySem.F.plainAttrs_list PySem.F.slot_list_append PySem.F.type_list_append mt_append (pv 3) (pa_cons (pe_op (kAdd K) (pe_callB (kSum K rfl) (by rfl) T.n_sum boot_sum (pa_cons (pe_lc (own := [("_law_one", 7), ("_law_two", 8)]) (g := gTup K 2 (gCons (gName 7) (gCons (gName 8) (gNil)))) (tt := tYes) rfl nd (kZip K T.n_zip (pa_cons (pe_ix (kIx K) (pv 1) pe_int (fun _ _ => rfl)) (pa_cons (pv 2) pa_nil))) (blkOk_by (N := N__law_path) (sc := defScope s__law_path) (by decide +kernel)) (fun _ _ _ _ _ => (kPair K rfl (pgs_cons (pg_name (i := 7) nd rfl (Or.inl rfl)) (pgs_cons (pg_name (i := 8) nd rfl (Or.inl rfl)) pgs_nil)))) (fun _ _ _ _ _ => pts_nil) (fun _ _ _ _ _ => (pe_op (kMul K) (pv 7) (pv 8)))) pa_nil)) (pe_ix (kIx K) (pe_ix (kIx K) (pv 1) pe_int (fun _ _ => rfl)) (pv 4) (fun _ _ => rfl))) pa_nil)))
      (pss_one (ps_set (i := 1) nd rfl (Or.inr rfl) (pe_ix (kIx K) (pv 1) pe_int (fun _ _ => rfl))))) (pss_cons (ps_set (i := 5) nd rfl (Or.inl rfl) (pe_ix (kIx K) (pe_lc (own := [("_law_k", 6)]) (g := gName 6) rfl nd (pi_range1 (by rfl) T.n_range (pa_cons (pe_callB (kLen K) (by rfl) T.n_len PySem.boot_len (pa_cons (pe_ix (kIx K) (pv 1) pe_int (fun _ _ => rfl)) pa_nil)) pa_nil)) (blkOk_by (N := N__law_path) (sc := defScope s__law_path) (by decide +kernel)) (fun _ _ _ _ _ => (pg_name (i := 6) nd rfl (Or.inl rfl))) (fun _ _ _ _ _ => (pts_one (pt_cmpR (kIn K (hu65 hr)) (pv 4) (pe_ix (kIx K) (pe_ix (kIx K) (pe_ix (kIx K) (pv 1) pe_int (fun _ _ => rfl)) (pv 6) (fun _ _ => rfl)) pe_int (fun _ _ => rfl)) (by rfl)))) (fun _ _ _ _ _ => (pv 6))) pe_int (fun _ _ => rfl)))
      (pss_cons (ps_expr (pe_bm PySem.F.plainAttrs_list PySem.F.slot_list_append PySem.F.type_list_append mt_append (pv 3) (pa_cons (pv 5) pa_nil)))
      (pss_one (ps_set (i := 1) nd rfl (Or.inr rfl) (pe_ix (kIx K) (pe_ix (kIx K) (pe_ix (kIx K) (pv 1) pe_int (fun _ _ => rfl)) (pv 5) (fun _ _ => rfl)) pe_int (fun _ _ => rfl)))))))))
      (pss_one (ps_ret (pe_op (kAdd K) (pe_callTy (kTuple K) (by rfl) T.n_tuple boot_tuple (pa_cons (pv 3) pa_nil)) (pe_callTy (kTuple K) (by rfl) T.n_tuple boot_tuple (pa_cons (pv 2) pa_nil))))))),
      ?_⟩
  rintro as t ⟨T0, D, pl, h, rfl, hh, okD, hp, wf, rfl⟩
  have sk := shaped_str "key" (by decide +kernel)
  have sf := shaped_str "fork" (by decide +kernel)
  have sp := shaped_str "places" (by decide +kernel)
  have hD := okD.most
  have hDd : ∀ d ∈ D, 0 < d ∧ d < 1000 := fun d hd => by
    have := okD.each d hd
    omega
  obtain ⟨cp0, cp1⟩ := cls_lt hp fun d hd => (okD.each d hd).1
  have hvol := okD.vol
  refine sm_ownTup (fun p => em_ev (ev_call (ea_cons (ev_var rfl) (ea_cons (ev_var rfl) ea_nil)) ⟨D, pl, rfl, hp, by omega, hDd, rfl⟩)) fun p t ht => ?_
  subst ht
  let G : Nat → Ev → Ow → Prop := fun k Γ O => ∃ (t : Tr) (acc : List Int) (a b c d : Option Ly.Ty), k + acc.length ≤ h ∧ Wf D.length (vol D).toNat k t ∧ acc ++ t.path pl (clsAt D pl) = T0.path pl (clsAt D pl) ∧ Γ = [some (dI D), some (.dat t.toD), some (dI pl), some (.own p), some (nI (clsAt D pl)), a, b, c, d] ∧ O = [lstR K p (acc.map .int)]
  refine sm_seq (M := fun Γ O => ∃ a b c d, Γ = [some (dI D), some (.dat leafD), some (dI pl), some (.own p), some (nI (clsAt D pl)), a, b, c, d] ∧ O = [lstR K p ((T0.path pl (clsAt D pl)).map .int)]) (sm_while G h ⟨T0, [], none, none, none, none, Nat.le_refl _, wf, rfl, rfl, rfl⟩ ?_) ?_
  · rintro k _ _ ⟨t, acc, a, b, c, d, hk, w, hs, rfl, rfl⟩
    cases w with
    | leaf =>
      have v1 : EvD K C (tVar 1) [some (dI D), some (.dat Tr.leaf.toD), some (dI pl), some (.own p), some (nI (clsAt D pl)), a, b, c, d] (.dat leafD) := ev_is (ev_var rfl) (by rw [Tr.toD])
      refine ⟨false, ebs_eb (eb_is (eb_test (ev_neD (ev_ixT v1 ev_int rfl) ev_str sp sp)) (by decide +kernel)), (fun h => by cases h), fun _ => ?_⟩
      rw [Tr.path, List.append_nil] at hs
      subst hs
      exact ⟨a, b, c, d, by rw [Tr.toD], rfl⟩
    | @key k r hts t h1 h2 h3 h4 w =>
      have v1 : ∀ Γ : Ev, Γ[1]? = some (some (.dat (Tr.key r hts t).toD)) → EvD K C (tVar 1) Γ (.dat (.tuple [.str "key", pI r, pI hts, t.toD])) := fun Γ e => ev_is (ev_var e) (by rw [Tr.toD])
      refine ⟨true, ebs_eb (eb_is (eb_test (ev_neD (ev_ixT (v1 _ rfl) ev_int rfl) ev_str sk sp)) (by decide +kernel)), fun _ => ?_, fun h => by cases h⟩
      refine sm_if (b := true) (ebs_eb (eb_is (eb_test (ev_eqD (ev_ixT (v1 _ rfl) ev_int rfl) ev_str sk sk)) (by decide +kernel))) (fun _ => ?_) fun h => by cases h
      refine sm_then (sm_appendS (j := 0) (ds := acc.map .int) (d := .int (dot r pl + hts.getD (clsAt D pl).toNat 0)) rfl rfl (es_ev (ev_addI (ev_sum (ev_dat (ev_is (ev_mapP (iv_zipI (ev_ixT (v1 _ rfl) ev_int rfl) (ev_var (i := 2) rfl)) (zip_len r pl (by omega)) (by decide) (by decide) (f := fun p => .int (p.1 * p.2)) fun p hp => ⟨ev_mulU (ev_var rfl) (ev_var rfl) (.inl (h3 p.1 (List.of_mem_zip hp).1)), rfl⟩) (congrArg Ty.tl (map_zip (fun a b => a * b) PyData.int r pl))))) (ev_ixT (ev_ixT (v1 _ rfl) ev_int rfl) (ev_var rfl) (ht_at h2 cp0 (by omega))))) (by rw [List.length_map]; omega)) ?_
      refine sm_weak (sm_set (ev_ixT (v1 _ rfl) ev_int rfl)) (fun Γ O ⟨e1, e2⟩ => ⟨k, Nat.lt_succ_self k, t, acc ++ [dot r pl + hts.getD (clsAt D pl).toNat 0], a, b, c, d, ?_, w, ?_, e1, ?_⟩) fun _ _ h => h
      · rw
            [List.length_append, List.length_singleton]
        omega
      · rw [← hs, Tr.path, List.append_assoc]
        rfl
      · rw [e2, List.map_append]
        rfl
    | @fork k ps h1 h2 w =>
      have v1 : ∀ Γ : Ev, Γ[1]? = some (some (.dat (Tr.fork ps).toD)) → EvD K C (tVar 1) Γ (.dat (.tuple [.str "fork", .tuple (toDs ps)])) := fun Γ e => ev_is (ev_var e) (by rw [Tr.toD])
      have mem : ∃ p ∈ ps, clsAt D pl ∈ p.1 := by
        obtain ⟨g, hg, hc⟩ := h1.has cp0 (by omega)
        obtain ⟨x, hx, rfl⟩ := List.mem_map.mp hg
        exact ⟨x, hx, hc⟩
      obtain ⟨xp, xp1, xp2, xp3⟩ := pathF_at pl (clsAt D pl) ps 0 mem
      rw [Nat.zero_add] at xp3
      have hgl : gat (clsAt D pl) (ps.map (·.1)) < ps.length := (List.getElem?_eq_some_iff.mp xp1).1
      have at1 : ∀ j, j < ps.length → (toDs ps)[j]? = some (.tuple [pI (ps.getD j ([], .leaf)).1, (ps.getD j ([], .leaf)).2.toD]) := fun j hj => by
        rw [toDs_map, List.getElem?_map, List.getD_eq_getElem?_getD, List.getElem?_eq_getElem hj]
        rfl
      have ltl : (toDs ps).length = ps.length := by rw [toDs_map, List.length_map]
      refine ⟨true, ebs_eb (eb_is (eb_test (ev_neD (ev_ixT (v1 _ rfl) ev_int rfl) ev_str sf sp)) (by decide +kernel)), fun _ => ?_, fun h => by cases h⟩
      refine sm_if (b := false) (ebs_eb (eb_is (eb_test (ev_eqD (ev_ixT (v1 _ rfl) ev_int rfl) ev_str sf sk)) (by decide +kernel))) (fun h => by cases h) fun _ => ?_
      refine sm_then (sm_set (t := nI (gat (clsAt D pl) (ps.map (·.1)) : Nat)) (ev_ixL (ev_dat (ev_lcN0 (as := List.range ps.length) (p := fun j => decide (clsAt D pl ∈ (ps.getD j ([], .leaf)).1)) (f := fun j => .int (j : Nat)) (iv_range (ev_is (ev_len (.inr (ev_ixT (v1 _ rfl) ev_int rfl))) (by rw [ltl])) (by omega)) (by rw [List.length_range]; omega) (by decide) fun j hj => ⟨?_, fun _ => ev_var rfl⟩)) ev_int (atI_nat (i := 0) ?_))) ?_
      · refine eb_is (eb_test (ev_in (neg := false) (d := .int (clsAt D pl)) (ds := (ps.getD j ([], .leaf)).1.map .int) (ev_var rfl) (.inr (ev_ixT (ev_ixT (ev_ixT (v1 _ rfl) ev_int rfl) (ev_var rfl) (atI_nat (at1 j (List.mem_range.mp hj)))) ev_int rfl)) (shaped_int _) (shaped_ints _))) ?_
        rw
            [if_neg Bool.false_ne_true]
        exact any_ints _ _
      · have gd : ∀ j, j < ps.length → (ps.getD j ([], .leaf)).1 = (ps.map (·.1))[j]?.getD [] := fun j hj => by
          rw [List.getD_eq_getElem?_getD, List.getElem?_eq_getElem hj, List.getElem?_map, List.getElem?_eq_getElem hj]
          rfl
        have hfa := first_at (fun j => decide (clsAt D pl ∈ (ps.getD j ([], .leaf)).1)) ps.length (gat (clsAt D pl) (ps.map (·.1))) hgl (decide_eq_true (by rw [List.getD_eq_getElem?_getD, xp1]; exact xp2)) fun j hj => decide_eq_false (by
          rw [gd j (by omega)]
          intro hc
          have hj' : j < (ps.map (·.1)).length := by rw [List.length_map]; omega
          rw [List.getElem?_eq_getElem hj'] at hc
          have := List.not_of_lt_findIdx (p := fun g => decide (clsAt D pl ∈ g)) (xs := ps.map (·.1)) hj
          exact of_decide_eq_false this hc)
        rw [List.getElem?_map, hfa]
        rfl
      refine sm_then (sm_appendS (j := 0) (ds := acc.map .int) (d := .int (gat (clsAt D pl) (ps.map (·.1)) : Nat)) rfl rfl (es_ev (ev_var rfl)) (by rw [List.length_map]; omega)) ?_
      refine sm_weak (sm_set (ev_ixT (ev_ixT (ev_ixT (v1 _ rfl) ev_int rfl) (ev_var rfl) (atI_nat (a := PyData.tuple [pI xp.1, xp.2.toD]) ?_)) ev_int rfl)) (fun Γ O ⟨e1, e2⟩ => ⟨k, Nat.lt_succ_self k, xp.2, acc ++ [((gat (clsAt D pl) (ps.map (·.1)) : Nat) : Int)], _, _, _, _, ?_, w xp (List.mem_of_getElem? xp1), ?_, e1, ?_⟩) fun _ _ h => h
      · rw [toDs_map, List.getElem?_map, xp1]
        rfl
      · rw
            [List.length_append, List.length_singleton]
        omega
      · rw [← hs, Tr.path, xp3, List.append_assoc]
        rfl
      · rw [e2, List.map_append]
        rfl
  · rintro _ _ ⟨a, b, c, d, rfl, rfl⟩
    have hpl := path_len wf pl (clsAt D pl)
    refine sm_retS (t := dI (full T0 D pl)) (es_vis (i := 3) (j := 0) rfl rfl looks_lst (ev_is (ev_catT (ev_tupTl (ev_var rfl)) (ev_tupleOf (.inr (ev_var (i := 2) rfl))) ?_) ?_) (nolAll_ints _)) rfl
    · rw [List.length_map, List.length_map]
      omega
    · unfold full
      show _ = Ty.dat (PyData.tuple ((T0.path pl (clsAt D pl) ++ pl).map .int))
      rw [List.map_append]
abbrev s__law_before : Stmt := topS 68
abbrev N__law_before : List Str := ["_law_pair", "_law_one", "_law_other"]
theorem sc__law_before : FnScope N__law_before ["_law_pair", "_law_one", "_law_other"] (defScope s__law_before) := ⟨rfl, rfl, rfl, by decide +kernel, rfl, by decide +kernel, by decide +kernel⟩
def R__law_before : List Ty → Ty → Prop := fun as t => ∃ T D p q h, as = [.dat (.tuple [pI D, T.toD]), dI p, dI q] ∧ h ≤ 10 ∧ OkDiv D ∧ p.length = D.length ∧ q.length = D.length ∧ Wf D.length (vol D).toNat h T ∧ t = bI (HT.lexLt (full T D p) (full T D q))
theorem ok__law_before {f : Addr} {fd : FuncData} (F : Fun K "_law_before" "_law_before" s__law_before f fd) (T : Tx K mg aL) (c__law_path : Cal P w K mg base 2 "_law_path" ["_law_divisors_here", "_law_tree_here", "_law_place"] (FnD K C R__law_path)) : FnOk P w K mg base CX0 3 f fd ["_law_pair", "_law_one", "_law_other"] (FnD K C R__law_before) := by
  have nd := (sc__law_before).nd
  refine ok_of F sc__law_before (fun as t ⟨T, D, p, q, h, e, _⟩ => by subst e; rfl) fun cdv A outer s H E hr => ?_
  refine ⟨_, (pss_one (ps_ret (pe_cmpR (kLt K hr.units0) (pe_cal c__law_path (hr.mono (by decide)) (pa_cons (pe_ix (kIx K) (pv 0) pe_int (fun _ _ => rfl)) (pa_cons (pe_ix (kIx K) (pv 0) pe_int (fun _ _ => rfl)) (pa_cons (pv 1) pa_nil)))) (pe_cal c__law_path (hr.mono (by decide)) (pa_cons (pe_ix (kIx K) (pv 0) pe_int (fun _ _ => rfl)) (pa_cons (pe_ix (kIx K) (pv 0) pe_int (fun _ _ => rfl)) (pa_cons (pv 2) pa_nil)))) (nomark _)))),
      ?_⟩
  rintro as t ⟨T0, D, p, q, h, rfl, hh, okD, hp, hq, wf, rfl⟩
  exact sd_ret (ev_ltT (ev_call (ea_cons (ev_ixT (ev_var rfl) ev_int rfl) (ea_cons (ev_ixT (ev_var rfl) ev_int rfl) (ea_cons (ev_var rfl) ea_nil))) ⟨T0, D, p, h, rfl, hh, okD, hp, wf, rfl⟩) (ev_call (ea_cons (ev_ixT (ev_var rfl) ev_int rfl) (ea_cons (ev_ixT (ev_var rfl) ev_int rfl) (ea_cons (ev_var rfl) ea_nil))) ⟨T0, D, q, h, rfl, hh, okD, hq, wf, rfl⟩)) rfl
end
end Lk
/-! Cs: the class Scan: its attributes, its property, its call, its method, how it is made. -/
namespace Lk
open PySem PySem.Spec PyProof.Rows L2 Ly
/-- what of the class stands in the text -/
structure Sk (K : PySem.W.Frag) (C : Addr) : Prop where
  cls : Cls K C
  n1 : NoAttr K C "held_divisors"
  n2 : NoAttr K C "held_tree"
  n3 : NoAttr K C "class_total"
  n4 : NoAttr K C "node_total"
def CalP (P : Program) (w : World) (K : PySem.W.Frag) (mg : Str → Option Value) (base : Heap) (C : Addr) (k : Nat) (f : Str) (sp : Sp) : Prop := ∃ p g fd, PropOf K C f p g ∧ Binds K fd ["self"] [] ∧ FnOk P w K mg base CX0 k g fd ["self"] sp
def CalM (P : Program) (w : World) (K : PySem.W.Frag) (mg : Str → Option Value) (base : Heap) (C : Addr) (k : Nat) (f : Str) (ps : List Str) (sp : Sp) : Prop := ∃ g fd, Meth K C f g ∧ Binds K fd ps [] ∧ FnOk P w K mg base CX0 k g fd ps sp
def CalO (P : Program) (w : World) (K : PySem.W.Frag) (mg : Str → Option Value) (base : Heap) (C : Addr) (k : Nat) (ps : List Str) (sp : Sp) : Prop := ∃ g fd, StX.CallO K C g ∧ Binds K fd ps [] ∧ FnOk P w K mg base CX0 k g fd ps sp
def CalI (P : Program) (w : World) (K : PySem.W.Frag) (mg : Str → Option Value) (base : Heap) (C : Addr) (k : Nat) (x : Str) (ps : List Str) (dvs : List V) (sp : Sp) : Prop := ∃ g fd ds, Mk K C g ∧ mg x = some (.ref C) ∧ Vals dvs ds ∧ Binds K fd ps ds ∧ FnOk P w K mg base CX0 k g fd ps sp
section
variable {X : Cx} {k : Nat} {C : Addr} {x f : Str} {ps : List Str} {sp : Sp} {p pos0 apos : Pos} {e0 o : Expr} {es0 : List Expr} {t : TA} {te : TE} {dvs : List V}
theorem kFld (K : PySem.W.Frag) (he : PE X e0 te) (h : X.K = K := by rfl) (hb : attributeBase e0 f X.env (eval e0 X.env) = eval e0 X.env := by rfl) : PE X (.Attribute e0 f pos0) (tFld K te f) := h ▸ pe_fld he hb
theorem pe_calP (c : CalP X.prog X.w X.K X.mg X.base C k f sp) (S : Cls X.K C) (he : PE X e0 te) (hr : Room (k + 1) X.A) (hab : attributeBase e0 f X.env (eval e0 X.env) = eval e0 X.env := by rfl) : PE X (.Attribute e0 f pos0) (tProp C sp [] E0 te) := by
  obtain ⟨p, g, fd, h1, h2, h3⟩ := c
  exact pe_prop he S h1 h3 hr h2 .nil pass0 hab
theorem pe_calM {pl : Sem Bool} (c : CalM X.prog X.w X.K X.mg X.base C k f ps sp) (S : Cls X.K C) (he : PE X o te) (hr : Room k X.A) (ha : PA X (e0 :: es0) t)
    (hst0 : starEach (e0 :: es0) X.env = (false, eval e0 X.env) :: starEach es0 X.env := by rfl) (hpl0 : (backTo pos0 (starEach es0 X.env)).any (·.1) = false := by rfl)
    (ht : eval (.Call (.Attribute o f apos) (e0 :: es0) [] pos0) X.env = (do
      let ov ← eval o X.env
      standAt apos.atName
      let (f, first) ← holding [ov] (getMethod ov f pl)
      callWith pos0 f first (backTo pos0 (starEach (e0 :: es0) X.env)) (backToKw pos0 (keywordEach [] X.env))) := by rfl) : PE X (.Call (.Attribute o f apos) (e0 :: es0) [] pos0) (tMeth C f sp [] E0 te t) := by
  obtain ⟨g, fd, h1, h2, h3⟩ := c
  exact pe_meth he S h1 h3 hr h2 .nil pass0 ha hst0 hpl0 ht
theorem pe_calO (c : CalO X.prog X.w X.K X.mg X.base C k ps sp) (he : PE X o te) (hr : Room k X.A) (ha : PA X (e0 :: es0) t)
    (ht : eval (.Call o (e0 :: es0) [] pos0) X.env = (do callWith pos0 (← eval o X.env) [] (backTo pos0 (starEach (e0 :: es0) X.env)) (backToKw pos0 (keywordEach [] X.env))) := by rfl)
    (hst0 : starEach (e0 :: es0) X.env = (false, eval e0 X.env) :: starEach es0 X.env := by rfl) (hpl0 : (backTo pos0 (starEach es0 X.env)).any (·.1) = false := by rfl) : PE X (.Call o (e0 :: es0) [] pos0) (StX.tCallO X C sp E0 te t) := by
  obtain ⟨g, fd, h1, h2, h3⟩ := c
  exact StX.pe_callO he h1 ((h3.raw h2 .nil).imp fun vs H Q E h => by rw [List.append_nil]; exact h) hr pass0 ha ht hst0 hpl0
theorem pe_calI (c : CalI X.prog X.w X.K X.mg X.base C k x ps dvs sp) (hr : Room (k + 1) X.A) (ha : PA X (e0 :: es0) t) (hg : Gl X x := by rfl) (hdb : (x == ("__debug__" : Str)) = false := by decide)
    (he : starEach (e0 :: es0) X.env = (false, eval e0 X.env) :: starEach es0 X.env := by rfl) (hpl0 : (backTo pos0 (starEach es0 X.env)).any (·.1) = false := by rfl) : PE X (.Call (.Name x p) (e0 :: es0) [] pos0) (tMake C sp dvs E0 t) := by
  obtain ⟨g, fd, ds, h1, h2, h3, h4, h5⟩ := c
  exact pe_make h1 h5 hr hg h2 h4 h3 pass0 ha hdb he hpl0
end
section
variable {K : PySem.W.Frag} {C : Addr} {Γ : Ev} {te : TE} {D : List Int} {T : PyData} {t : Ly.Ty}
theorem ev_fldD (S : Sk K C) (h : EvD K C te Γ (.sc D T)) : EvD K C (tFld K te "held_divisors") Γ (dI D) := fun σ W e0 Q q => h σ W e0 _ fun v W1 s1 a => by
  obtain ⟨x, dx, vD, vT, n, m, rfl, h1, h2, h3⟩ := a
  exact ⟨x, C, dx, _, vD, rfl, W1.sub _ _ h1, S.cls, S.n1, rfl, q vD W1 s1 h2⟩
theorem ev_fldT (S : Sk K C) (h : EvD K C te Γ (.sc D T)) : EvD K C (tFld K te "held_tree") Γ (.dat T) := fun σ W e0 Q q => h σ W e0 _ fun v W1 s1 a => by
  obtain ⟨x, dx, vD, vT, n, m, rfl, h1, h2, h3⟩ := a
  exact ⟨x, C, dx, _, vT, rfl, W1.sub _ _ h1, S.cls, S.n2, rfl, q vT W1 s1 h3⟩
theorem ev_calP {R : List Ly.Ty → Ly.Ty → Prop} (h : EvD K C te Γ (.sc D T)) (hr : R [.sc D T] t) : EvD K C (tProp C (FnD K C R) [] E0 te) Γ t := fun σ W e0 Q q => h σ W e0 _ fun v W1 s1 a => by
  have a' := a
  obtain ⟨x, dx, vD, vT, n, m, rfl, h1, h2, h3⟩ := a
  exact ⟨x, dx, _, rfl, W1.sub _ _ h1, W1, _, t, rfl, .cons a' .nil, hr, fun v W2 s2 b => q v W2 (s1.trans s2) b⟩
theorem ev_calM {R : List Ly.Ty → Ly.Ty → Prop} {f : Str} {ta : TA} {ts : List Ly.Ty} (h : EvD K C te Γ (.sc D T)) (ha : EvA K C ta Γ ts) (hr : R (.sc D T :: ts) t) (hf : ∀ vD vT n m, (scF vD vT n m).lookup f = none) : EvD K C (tMeth C f (FnD K C R) [] E0 te ta) Γ t := fun σ W e0 Q q => h σ W e0 _ fun v W1 s1 a => by
  have a' := a
  obtain ⟨x, dx, vD, vT, n, m, rfl, h1, h2, h3⟩ := a
  exact ⟨x, dx, _, rfl, W1.sub _ _ h1, hf _ _ _ _, ha σ W1 (e0.le s1) _ fun vs W2 s2 b => ⟨W2, _, t, rfl, .cons (at_le s2 a') (by rw [List.append_nil]; exact b), hr, fun v W3 s3 c => q v W3 ((s1.trans s2).trans s3) c⟩⟩
theorem ev_calO {X : Cx} {R : List Ly.Ty → Ly.Ty → Prop} {ta : TA} {ts : List Ly.Ty} (h : EvD K C te Γ (.sc D T)) (ha : EvA K C ta Γ ts) (hr : R (.sc D T :: ts) t) : EvD K C (StX.tCallO X C (FnD K C R) E0 te ta) Γ t := fun σ W e0 Q q => h σ W e0 _ fun v W1 s1 a => by
  have a' := a
  obtain ⟨x, dx, vD, vT, n, m, rfl, h1, h2, h3⟩ := a
  exact ⟨x, rfl, ha σ W1 (e0.le s1) _ fun vs W2 s2 b => ⟨.inr ⟨dx, _, W2.sub _ _ (s2.same _ _ h1)⟩, W2, _, t, rfl, .cons (at_le s2 a') b, hr, fun v W3 s3 c => q v W3 ((s1.trans s2).trans s3) c⟩⟩
end
end Lk
namespace Lk
open PySem PySem.Spec PyProof.Rows L2 Ly
section
variable {P : Program} {w : World} {K : PySem.W.Frag} {mg : Str → Option Value} {base : Heap} {C aL : Addr}
abbrev s_Scan_directions : Stmt := inClass (topS 53) 6
abbrev N_Scan_directions : List Str := ["self"]
theorem sc_Scan_directions : FnScope N_Scan_directions ["self"] (defScope s_Scan_directions) := ⟨rfl, rfl, rfl, by decide +kernel, rfl, by decide +kernel, by decide +kernel⟩
def R_dirs : List Ly.Ty → Ly.Ty → Prop := fun as t => ∃ D T, as = [.sc D T] ∧ t = nI (D.length : Nat)
theorem ok_dirs {f : Addr} {fd : FuncData} (F : Fun K "directions" "Scan.directions" s_Scan_directions f fd) (T : Tx K mg aL) (S : Sk K C) : FnOk P w K mg base CX0 1 f fd ["self"] (FnD K C R_dirs) := by
  have nd := (sc_Scan_directions).nd
  refine ok_of F sc_Scan_directions (fun as t ⟨D, T, e, _⟩ => by subst e; rfl) fun cdv A outer s H E hr => ?_
  refine ⟨_, (pss_one (ps_ret (pe_callB (kLen K) (by rfl) T.n_len PySem.boot_len (pa_cons (kFld K (pv 0)) pa_nil)))),
      ?_⟩
  rintro as t ⟨D, T0, rfl, rfl⟩
  exact sd_ret (ev_is (ev_len (.inr (ev_fldD S (ev_var rfl)))) (by rw [List.length_map])) rfl
abbrev s_Scan___call__ : Stmt := inClass (topS 53) 7
abbrev N_Scan___call__ : List Str := ["self", "one", "other"]
theorem sc_Scan___call__ : FnScope N_Scan___call__ ["self", "one", "other"] (defScope s_Scan___call__) := ⟨rfl, rfl, rfl, by decide +kernel, rfl, by decide +kernel, by decide +kernel⟩
def R_scall : List Ly.Ty → Ly.Ty → Prop := fun as t => ∃ T D p q h, as = [.sc D T.toD, dI p, dI q] ∧ h ≤ 10 ∧ OkDiv D ∧ p.length = D.length ∧ q.length = D.length ∧ Wf D.length (vol D).toNat h T ∧ t = bI (HT.lexLt (full T D p) (full T D q))
theorem ok_scall {f : Addr} {fd : FuncData} (F : Fun K "__call__" "Scan.__call__" s_Scan___call__ f fd) (T : Tx K mg aL) (S : Sk K C) (c_need_place : Cal P w K mg base 3 "need_place" ["value", "many"] (FnD K C R_need_place)) (c_sign_of : Cal P w K mg base 2 "sign_of" ["tree", "divisors", "one", "other"] (FnD K C R_sign_of)) : FnOk P w K mg base CX0 4 f fd ["self", "one", "other"] (FnD K C R_scall) := by
  have nd := (sc_Scan___call__).nd
  refine ok_of F sc_Scan___call__ (fun as t ⟨T, D, p, q, h, e, _⟩ => by subst e; rfl) fun cdv A outer s H E hr => ?_
  refine ⟨_, (pss_cons (ps_expr (pe_cal c_need_place (hr.mono (by decide)) (pa_cons (pv 1) (pa_cons (pe_callB (kLen K) (by rfl) T.n_len PySem.boot_len (pa_cons (kFld K (pv 0)) pa_nil)) pa_nil))))
      (pss_cons (ps_expr (pe_cal c_need_place (hr.mono (by decide)) (pa_cons (pv 2) (pa_cons (pe_callB (kLen K) (by rfl) T.n_len PySem.boot_len (pa_cons (kFld K (pv 0)) pa_nil)) pa_nil))))
      (pss_one (ps_ret (pe_cmpR (kLt K hr.units0) (pe_cal c_sign_of (hr.mono (by decide)) (pa_cons (kFld K (pv 0)) (pa_cons (kFld K (pv 0)) (pa_cons (pv 1) (pa_cons (pv 2) pa_nil))))) pe_int (nomark _)))))),
      ?_⟩
  rintro as t ⟨T0, D, p, q, h, rfl, hh, okD, hp, hq, wf, rfl⟩
  have hD := okD.most
  have hl : ∀ Γ : Ev, Γ[0]? = some (some (.sc D T0.toD)) → EvD K C (tCB (rLenU K) (tCons (tFld K (tVar 0) "held_divisors") tNil)) Γ (nI (D.length : Nat)) := fun Γ e => ev_is (ev_len (.inr (ev_fldD S (ev_var e)))) (by rw [List.length_map])
  refine sd_then (sd_drop (ev_call (ea_cons (ev_var rfl) (ea_cons (hl _ rfl) ea_nil)) ⟨p, by rw [hp], by omega, rfl⟩)) ?_
  refine sd_then (sd_drop (ev_call (ea_cons (ev_var rfl) (ea_cons (hl _ rfl) ea_nil)) ⟨q, by rw [hq], by omega, rfl⟩)) ?_
  refine sd_ret (ev_is (ev_ltI (ev_call (ea_cons (ev_fldT S (ev_var rfl)) (ea_cons (ev_fldD S (ev_var rfl)) (ea_cons (ev_var rfl) (ea_cons (ev_var rfl) ea_nil)))) ⟨T0, D, p, q, h, rfl, hh, okD, hp, hq, wf, rfl⟩) ev_int) ?_) rfl
  rw [sgn_neg]
abbrev s_need_all : Stmt := topS 36
abbrev N_need_all : List Str := ["scan", "looks", "box"]
theorem sc_need_all : FnScope N_need_all ["scan", "looks", "box"] (defScope s_need_all) := ⟨rfl, rfl, rfl, by decide +kernel, rfl, by decide +kernel, by decide +kernel⟩
structure OkBox (n : Nat) (b : List Int) : Prop where
  len : b.length = n
  each : ∀ i ∈ b, 0 ≤ i ∧ i ≤ 13
  vol : vol b ≤ 2000
theorem OkBox.small {n : Nat} {b : List Int} (h : OkBox n b) : Lk.small b := fun i hi => by
  have := h.each i hi
  constructor <;> omega
def R_need_all : List Ly.Ty → Ly.Ty → Prop := fun as t => ∃ D T ls b c, as = [.sc D T, .dat (seqOf c (ls.map pI)), dI b] ∧ D.length ≤ 3 ∧ OkLooks D.length ls ∧ OkBox D.length b ∧ t = .dat .none
theorem ok_need_all {f : Addr} {fd : FuncData} (F : Fun K "need_all" "need_all" s_need_all f fd) (T : Tx K mg aL) (S : Sk K C) (c_dirs : CalP P w K mg base C 1 "directions" (FnD K C R_dirs)) (c_need_looks : Cal P w K mg base 4 "need_looks" ["looks", "directions"] (FnD K C R_need_looks)) (c_need_cells : Cal P w K mg base 4 "need_cells" ["box", "many"] (FnD K C R_need_cells)) : FnOk P w K mg base CX0 5 f fd ["scan", "looks", "box"] (FnD K C R_need_all) := by
  have nd := (sc_need_all).nd
  refine ok_of F sc_need_all (fun as t ⟨D, T, ls, b, c, e, _⟩ => by subst e; rfl) fun cdv A outer s H E hr => ?_
  refine ⟨_, (pss_cons (ps_expr (pe_cal c_need_looks (hr.mono (by decide)) (pa_cons (pv 1) (pa_cons (pe_calP c_dirs S.cls (pv 0) (hr.mono (by decide))) pa_nil))))
      (pss_one (ps_expr (pe_cal c_need_cells (hr.mono (by decide)) (pa_cons (pv 2) (pa_cons (pe_calP c_dirs S.cls (pv 0) (hr.mono (by decide))) pa_nil)))))),
      ?_⟩
  rintro as t ⟨D, T0, ls, b, c, rfl, hD, okL, okB, rfl⟩
  refine sd_then (sd_drop (ev_call (ea_cons (ev_var rfl) (ea_cons (ev_calP (ev_var rfl) ⟨D, T0, rfl, rfl⟩) ea_nil)) ⟨D.length, ls, c, rfl, by omega, okL, rfl⟩)) ?_
  have hbl := okB.len
  exact sd_weak (sd_drop (ev_call (ea_cons (ev_var rfl) (ea_cons (ev_calP (ev_var rfl) ⟨D, T0, rfl, rfl⟩) ea_nil)) ⟨b, by rw [okB.len], by omega, fun i hi => (okB.each i hi).1, okB.small, okB.vol, rfl⟩)) (fun _ _ => rfl) fun _ h => h
abbrev s_causes : Stmt := topS 34
abbrev N_causes : List Str := ["scan", "looks", "box", "cell", "found", "look", "seen", "seer"]
theorem sc_causes : FnScope N_causes ["scan", "looks", "box", "cell"] (defScope s_causes) := ⟨rfl, rfl, rfl, by decide +kernel, rfl, by decide +kernel, by decide +kernel⟩
/-- what a place must wait for -/
def causesOf (T : Tr) (D : List Int) (ls : List (List Int)) (b c : List Int) : List (List Int × Int) := ls.flatMap fun l =>
  (if inBox b (padd c l) && HT.lexLt (full T D (padd c l)) (full T D c) then [(padd c l, 1)] else []) ++ if inBox b (psub c l) && HT.lexLt (full T D (psub c l)) (full T D c) then [(psub c l, 0)] else []
def pD (p : List Int × Int) : PyData := .tuple [pI p.1, .int p.2]
def R_causes : List Ly.Ty → Ly.Ty → Prop := fun as t => ∃ T D ls b c h k, as = [.sc D T.toD, .dat (seqOf k (ls.map pI)), dI b, dI c] ∧ h ≤ 10 ∧ OkDiv D ∧ Wf D.length (vol D).toNat h T ∧ OkLooks D.length ls ∧ OkBox D.length b ∧ c.length = D.length ∧ t = .tl ((causesOf T D ls b c).map pD)
theorem zw_len (f : Int → Int → Int) {l m : List Int} {n : Nat} (h1 : l.length = n) (h2 : m.length = n) : (List.zipWith f l m).length = n := by
  rw [List.length_zipWith]
  omega
theorem ev_seqOf {Γ : Ev} {i : Nat} {b : Bool} {ds : List PyData} (h : Γ[i]? = some (some (.dat (seqOf b ds)))) : EvD K C (tVar i) Γ (.dat (.list ds)) ∨ EvD K C (tVar i) Γ (.dat (.tuple ds)) := by
  cases b with
  | true => exact .inr (ev_var h)
  | false => exact .inl (ev_var h)
theorem iv_seqOf {α : Type} {Γ : Ev} {i : Nat} {b : Bool} {as : List α} {f : α → PyData} (h : Γ[i]? = some (some (.dat (seqOf b (as.map f))))) : IvD K C (iSeqU K (tVar i)) Γ as (fun a => .dat (f a)) := by
  rcases ev_seqOf (K := K) (C := C) h with h | h
  · exact iv_of_map (g := f) (ty := Ly.Ty.dat) (iv_L h)
  · exact iv_of_map (g := f) (ty := Ly.Ty.dat) (iv_T h)
theorem causes_len (T : Tr) (D : List Int) (ls : List (List Int)) (b c : List Int) : (causesOf T D ls b c).length ≤ ls.length * 2 := flat_len _ 2 ls fun l _ => by
  rw [List.length_append]
  have h : ∀ (x : Bool) (p : List Int × Int), (if x then [p] else []).length ≤ 1 := fun x p => by
    cases x with
    | false => exact Nat.zero_le _
    | true => exact Nat.le_refl _
  have h1 := h (inBox b (padd c l) && HT.lexLt (full T D (padd c l)) (full T D c)) (padd c l, 1)
  have h2 := h (inBox b (psub c l) && HT.lexLt (full T D (psub c l)) (full T D c)) (psub c l, 0)
  omega
theorem ok_causes {f : Addr} {fd : FuncData} (F : Fun K "causes" "causes" s_causes f fd) (T : Tx K mg aL) (S : Sk K C) (c_scall : CalO P w K mg base C 4 ["self", "one", "other"] (FnD K C R_scall)) (c_plus : Cal P w K mg base 1 "plus" ["one", "other"] (FnD K C R_plus)) (c_minus : Cal P w K mg base 1 "minus" ["one", "other"] (FnD K C R_minus)) (c_is_in : Cal P w K mg base 1 "is_in" ["box", "place"] (FnD K C R_is_in)) : FnOk P w K mg base CX0 5 f fd ["scan", "looks", "box", "cell"] (FnD K C R_causes) := by
  have nd := (sc_causes).nd
  refine ok_ofM F sc_causes (fun as t ⟨T, D, ls, b, c, h, k, e, _⟩ => by subst e; rfl) fun cdv A outer s H E hr => ?_
  refine ⟨_, (pss_cons (ps_set (i := 4) nd rfl (Or.inl rfl) (pe_lst pa_nil))
      (pss_cons (ps_for PassesOwn.never rfl (kSeq K (pv 1)) (pg_name (i := 5) nd rfl (Or.inl rfl)) (pss_cons (ps_par (i := 6) (j := 7) rfl nd rfl rfl (by decide) rfl rfl (pa_cons (pe_cal c_plus (hr.mono (by decide)) (pa_cons (pv 3) (pa_cons (pv 5) pa_nil))) (pa_cons (pe_cal c_minus (hr.mono (by decide)) (pa_cons (pv 3) (pa_cons (pv 5) pa_nil))) pa_nil)) (by rfl))
      (pss_cons (ps_if (PW.pt (pw_and (pt_val (pe_cal c_is_in (hr.mono (by decide)) (pa_cons (pv 2) (pa_cons (pv 6) pa_nil)))) (pw_and1 (pt_val (pe_calO c_scall (pv 0) (hr.mono (by decide)) (pa_cons (pv 6) (pa_cons (pv 3) pa_nil))))))) (pss_one (ps_expr (pe_bm PySem.F.plainAttrs_list PySem.F.slot_list_append PySem.F.type_list_append mt_append (pv 4) (pa_cons (pe_tup (pa_cons (pv 6) (pa_cons pe_int pa_nil))) pa_nil)))) pss_nil)
      (pss_one (ps_if (PW.pt (pw_and (pt_val (pe_cal c_is_in (hr.mono (by decide)) (pa_cons (pv 2) (pa_cons (pv 7) pa_nil)))) (pw_and1 (pt_val (pe_calO c_scall (pv 0) (hr.mono (by decide)) (pa_cons (pv 7) (pa_cons (pv 3) pa_nil))))))) (pss_one (ps_expr (pe_bm PySem.F.plainAttrs_list PySem.F.slot_list_append PySem.F.type_list_append mt_append (pv 4) (pa_cons (pe_tup (pa_cons (pv 7) (pa_cons pe_int pa_nil))) pa_nil)))) pss_nil)))))
      (pss_one (ps_ret (pv 4))))),
      ?_⟩
  rintro as t ⟨T0, D, ls, b, c, h, k, rfl, hh, okD, wf, okL, okB, hc, rfl⟩
  have hD := okD.most
  have hbl := okB.len
  have hll := okL.most
  refine sm_own fun p => ?_
  let sc : Ly.Ty := .sc D T0.toD
  refine sm_seq (M := fun Γ O => ∃ x y z, Γ = [some sc, some (.dat (seqOf k (ls.map pI))), some (dI b), some (dI c), some (.own p), x, y, z] ∧ O = [lstR K p ((causesOf T0 D ls b c).map pD)]) (sm_forD (iv_seqOf rfl)
    (fun i Γ O => ∃ x y z, Γ = [some sc, some (.dat (seqOf k (ls.map pI))), some (dI b), some (dI c), some (.own p), x, y, z] ∧ O = [lstR K p ((causesOf T0 D (ls.take i) b c).map pD)]) ⟨none, none, none, rfl, rfl⟩ ?_ ?_) ?_
  · rintro i l _ _ ha ⟨x, y, z, rfl, rfl⟩
    have hl := (okL.each l (List.mem_of_getElem? ha)).1
    refine ⟨_, [5], tg_name (by decide), ?_⟩
    have hp := zw_len (· + ·) hc hl
    have hm := zw_len (· - ·) hc hl
    have hlen : ∀ j, (causesOf T0 D (ls.take j) b c).length ≤ 8 := fun j => by
      have h1 := causes_len T0 D (ls.take j) b c
      have h2 := List.length_take_le' j ls
      omega
    refine sm_then (sm_weak (sm_sd (N := fun Γ => Γ = [some sc, some (.dat (seqOf k (ls.map pI))), some (dI b), some (dI c), some (.own p), some (dI l), some (dI (padd c l)), some (dI (psub c l))]) (R := NoR) (sd_weak (sd_par (ev_call (ea_cons (ev_var rfl) (ea_cons (ev_var rfl) ea_nil)) ⟨c, l, rfl, by omega, rfl⟩) (ev_call (ea_cons (ev_var rfl) (ea_cons (ev_var rfl) ea_nil)) ⟨c, l, rfl, by omega, rfl⟩)) (fun _ e => e) fun _ h => h)) (fun Γ' O' h => ⟨h.2, h.1⟩) fun _ _ h => h.2.elim) ?_
    have tst : ∀ (j : Nat) (q : List Int) (Γ : Ev), Γ[0]? = some (some sc) → Γ[2]? = some (some (dI b)) → Γ[3]? = some (some (dI c)) → Γ[j]? = some (some (dI q)) → q.length = D.length →
        EvB K C (tAnd (tTest (tCall (FnD K C R_is_in) [] E0 (tCons (tVar 2) (tCons (tVar j) tNil)))) (tTest (StX.tCallO (cxOf CX0 P w K mg base N_causes "causes" (defScope s_causes) f cdv A outer s H E).nox C (FnD K C R_scall) E0 (tVar 0) (tCons (tVar j) (tCons (tVar 3) tNil))))) Γ
          (inBox b q && HT.lexLt (full T0 D q) (full T0 D c)) := fun j q Γ e0 e2 e3 ej hq => eb_and (eb_test (ev_call (ea_cons (ev_var e2) (ea_cons (ev_var ej) ea_nil)) ⟨b, q, rfl, by omega, rfl⟩)) fun _ => eb_test (ev_calO (ev_var e0) (ea_cons (ev_var ej) (ea_cons (ev_var e3) ea_nil)) ⟨T0, D, q, c, h, rfl, hh, okD, hq, hc, wf, rfl⟩)
    refine sm_seq (M := fun Γ O => Γ = [some sc, some (.dat (seqOf k (ls.map pI))), some (dI b), some (dI c), some (.own p), some (dI l), some (dI (padd c l)), some (dI (psub c l))] ∧ O = [lstR K p ((causesOf T0 D (ls.take i) b c ++ if inBox b (padd c l) && HT.lexLt (full T0 D (padd c l)) (full T0 D c) then [(padd c l, 1)] else []).map pD)])
      (sm_if (ebs_eb (tst 6 (padd c l) _ rfl rfl rfl rfl hp)) (fun hb => ?_) fun hb => sm_next ⟨rfl, by rw [hb, if_neg Bool.false_ne_true, List.append_nil]⟩) ?_
    · refine sm_weak (sm_appendS (j := 0) (ds := (causesOf T0 D (ls.take i) b c).map pD) (d := pD (padd c l, 1)) rfl rfl (es_ev (ev_tup (ts := [dI (padd c l), nI 1]) (ea_cons (ev_var rfl) (ea_cons ev_int ea_nil)) rfl (Nat.le_of_ble_eq_true rfl))) ?_) (fun Γ O ⟨e1, e2⟩ => ⟨e1, ?_⟩) fun _ _ h => h
      · have := hlen i
        rw [List.length_map]
        omega
      · rw [e2, hb, if_pos rfl, List.map_append]
        rfl
    · rintro _ _ ⟨rfl, rfl⟩
      have hstep : causesOf T0 D (ls.take (i + 1)) b c = (causesOf T0 D (ls.take i) b c ++ if inBox b (padd c l) && HT.lexLt (full T0 D (padd c l)) (full T0 D c) then [(padd c l, 1)] else []) ++ if inBox b (psub c l) && HT.lexLt (full T0 D (psub c l)) (full T0 D c) then [(psub c l, 0)] else [] := by
        unfold causesOf
        rw [List.take_add_one, ha, show (some l).toList = [l] from rfl, List.flatMap_append, List.flatMap_singleton, List.append_assoc]
      refine sm_if (ebs_eb (tst 7 (psub c l) _ rfl rfl rfl rfl hm)) (fun hb => ?_) fun hb => sm_next ⟨_, _, _, rfl, by rw [hstep, hb, if_neg Bool.false_ne_true, List.append_nil]⟩
      refine sm_weak (sm_appendS (j := 0) (ds := (causesOf T0 D (ls.take i) b c ++ if inBox b (padd c l) && HT.lexLt (full T0 D (padd c l)) (full T0 D c) then [(padd c l, 1)] else []).map pD) (d := pD (psub c l, 0)) rfl rfl (es_ev (ev_tup (ts := [dI (psub c l), nI 0]) (ea_cons (ev_var rfl) (ea_cons ev_int ea_nil)) rfl (Nat.le_of_ble_eq_true rfl))) ?_) (fun Γ O ⟨e1, e2⟩ => ⟨_, _, _, e1, ?_⟩) fun _ _ h => h
      · have h1 := hlen (i + 1)
        rw [hstep, List.length_append] at h1
        rw [List.length_map]
        omega
      · rw [e2, hstep, hb, if_pos rfl, List.map_append (l₂ := [(psub c l, 0)])]
        rfl
  · rintro _ _ ⟨x, y, z, rfl, rfl⟩
    rw [List.take_length]
    exact ⟨_, _, _, rfl, rfl⟩
  · rintro _ _ ⟨x, y, z, rfl, rfl⟩
    exact sm_frz (i := 4) rfl looks_lst rfl (sm_ret (ev_var rfl) rfl)
abbrev s_chain_waves : Stmt := topS 39
abbrev N_chain_waves : List Str := ["scan", "looks", "chain", "cell", "found", "one", "other"]
theorem sc_chain_waves : FnScope N_chain_waves ["scan", "looks", "chain"] (defScope s_chain_waves) := ⟨rfl, rfl, rfl, by decide +kernel, rfl, by decide +kernel, by decide +kernel⟩
/-- neighbours, and strict steps among them -/
def pairsOf' (ch : List (List Int)) : List (List Int × List Int) := ch.zip (ch.drop 1)
def stepsOf (ls ch : List (List Int)) : Nat := ((pairsOf' ch).filter fun p => decide (psub p.1 p.2 ∈ ls)).length
def cwOf (ls ch : List (List Int)) : Int := (if ch = [] then 0 else 1) + (stepsOf ls ch : Nat)
def R_chain_waves : List Ly.Ty → Ly.Ty → Prop := fun as t => ∃ T D ls ch h, as = [.sc D T.toD, .dat (.list (ls.map pI)), .dat (.list (ch.map pI))] ∧ h ≤ 10 ∧ OkDiv D ∧ Wf D.length (vol D).toNat h T ∧ OkLooks D.length ls ∧ ch.length ≤ 3000 ∧ (∀ c ∈ ch, c.length = D.length) ∧
  (∀ p ∈ pairsOf' ch, HT.lexLt (full T D p.1) (full T D p.2) = true ∧ (psub p.1 p.2 ∈ ls ∨ psub p.2 p.1 ∈ ls)) ∧ t = nI (cwOf ls ch)
theorem filter_take {α : Type} (q : α → Bool) {l : List α} {i : Nat} {a : α} (h : l[i]? = some a) : ((l.take (i + 1)).filter q).length = ((l.take i).filter q).length + if q a then 1 else 0 := by
  rw [List.take_add_one, h, show (some a).toList = [a] from rfl, List.filter_append, List.length_append]
  congr 1
  cases hq : q a with
  | true => rw [List.filter_cons_of_pos hq]; rfl
  | false => rw [List.filter_cons_of_neg (by rw [hq]; exact Bool.false_ne_true)]; rfl
theorem ok_chain_waves {f : Addr} {fd : FuncData} (F : Fun K "chain_waves" "chain_waves" s_chain_waves f fd) (T : Tx K mg aL) (S : Sk K C) (c_scall : CalO P w K mg base C 4 ["self", "one", "other"] (FnD K C R_scall)) (c_dirs : CalP P w K mg base C 1 "directions" (FnD K C R_dirs)) (c_minus : Cal P w K mg base 1 "minus" ["one", "other"] (FnD K C R_minus)) (c_need_looks : Cal P w K mg base 4 "need_looks" ["looks", "directions"] (FnD K C R_need_looks)) (c_need_place : Cal P w K mg base 3 "need_place" ["value", "many"] (FnD K C R_need_place)) : FnOk P w K mg base CX0 5 f fd ["scan", "looks", "chain"] (FnD K C R_chain_waves) := by
  have nd := (sc_chain_waves).nd
  refine ok_of F sc_chain_waves (fun as t ⟨T, D, ls, b, c, e, _⟩ => by subst e; rfl) fun cdv A outer s H E hr => ?_
  refine ⟨_, (pss_cons (ps_expr (pe_cal c_need_looks (hr.mono (by decide)) (pa_cons (pv 1) (pa_cons (pe_calP c_dirs S.cls (pv 0) (hr.mono (by decide))) pa_nil))))
      (pss_cons (ps_for PassesOwn.never rfl (kSeq K (pv 2)) (pg_name (i := 3) nd rfl (Or.inl rfl)) (pss_one (ps_expr (pe_cal c_need_place (hr.mono (by decide)) (pa_cons (pv 3) (pa_cons (pe_calP c_dirs S.cls (pv 0) (hr.mono (by decide))) pa_nil))))))
      (pss_cons (ps_set (i := 4) nd rfl (Or.inl rfl) (pe_callTy cr_int (by rfl) T.n_int boot_int (pa_cons (pe_cmpR op_gt (pe_callB (kLen K) (by rfl) T.n_len PySem.boot_len (pa_cons (pv 2) pa_nil)) pe_int (nomark _)) pa_nil)))
      (pss_cons (ps_for PassesOwn.never rfl (kZip K T.n_zip (pa_cons (pv 2) (pa_cons (pe_slice (kSl K) (pv 2) (po_some pe_int) po_none) pa_nil))) (kPair K rfl (pgs_cons (pg_name (i := 5) nd rfl (Or.inl rfl)) (pgs_cons (pg_name (i := 6) nd rfl (Or.inl rfl)) pgs_nil))) (pss_cons (ps_if (PW.pt (pw_or (pt_not (pt_val (pe_calO c_scall (pv 0) (hr.mono (by decide)) (pa_cons (pv 5) (pa_cons (pv 6) pa_nil))))) (pw_or1 (PW.pt (pw_and (pt_cmpR (kNotIn K (hu65 hr)) (pe_cal c_minus (hr.mono (by decide)) (pa_cons (pv 5) (pa_cons (pv 6) pa_nil))) (pv 1) (by rfl)) (pw_and1 (pt_cmpR (kNotIn K (hu65 hr)) (pe_cal c_minus (hr.mono (by decide)) (pa_cons (pv 6) (pa_cons (pv 5) pa_nil))) (pv 1) (by rfl)))))))) (pss_one (ps_ret pe_non)) pss_nil)
      (pss_one (ps_aug (i := 4) nd rfl (Or.inl rfl) (pe_callTy cr_int (by rfl) T.n_int boot_int (pa_cons (pe_cmpR (kIn K (hu65 hr)) (pe_cal c_minus (hr.mono (by decide)) (pa_cons (pv 5) (pa_cons (pv 6) pa_nil))) (pv 1) (by rfl)) pa_nil)) ip_add))))
      (pss_one (ps_ret (pv 4))))))),
      ?_⟩
  rintro as t ⟨T0, D, ls, ch, h, rfl, hh, okD, wf, okL, hcl, hcd, hpr, rfl⟩
  have hD := okD.most
  let sc : Ly.Ty := .sc D T0.toD
  let L : PyData := .list (ls.map pI)
  let Cd : PyData := .list (ch.map pI)
  have nd' : ∀ (Γ : Ev), Γ[0]? = some (some sc) → EvD K C (tProp C (FnD K C R_dirs) [] E0 (tVar 0)) Γ (nI (D.length : Nat)) := fun Γ e => ev_calP (ev_var e) ⟨D, T0.toD, rfl, rfl⟩
  refine sd_then (sd_drop (ev_call (ea_cons (ev_var rfl) (ea_cons (nd' _ rfl) ea_nil)) ⟨D.length, ls, false, rfl, by omega, okL, rfl⟩)) ?_
  refine sd_seq (M := fun Γ => ∃ x, Γ = [some sc, some (.dat L), some (.dat Cd), x, none, none, none]) (sd_for (iv_of_map (g := pI) (iv_L (ev_var rfl))) (fun i Γ => ∃ x, Γ = [some sc, some (.dat L), some (.dat Cd), x, none, none, none]) ⟨none, rfl⟩ ?_ fun Γ h => h) ?_
  · rintro i c _ ha ⟨x, rfl⟩
    have hc := hcd c (List.mem_of_getElem? ha)
    exact ⟨_, [3], tg_name (by decide), sd_weak (sd_drop (ev_call (ea_cons (ev_var rfl) (ea_cons (nd' _ rfl) ea_nil)) ⟨c, by rw [hc], by omega, rfl⟩)) (fun Γ e => ⟨_, e⟩) fun _ h => h⟩
  rintro _ ⟨x, rfl⟩
  refine sd_then (sd_set (t := nI (if ch = [] then 0 else 1)) (ev_is (ev_intB (ev_gtI (ev_is (ev_len (.inl (ev_var rfl))) (t' := nI (ch.length : Nat)) (by rw [List.length_map])) ev_int)) ?_)) ?_
  · cases ch with
    | nil => rfl
    | cons a r =>
      rw [if_neg (List.cons_ne_nil _ _), decide_eq_true (by rw [List.length_cons]; omega)]
      rfl
  have mi : ∀ (Γ : Ev) (i j : Nat) (p q : List Int), Γ[i]? = some (some (dI p)) → Γ[j]? = some (some (dI q)) → p.length = D.length → EvD K C (tCall (FnD K C R_minus) [] E0 (tCons (tVar i) (tCons (tVar j) tNil))) Γ (dI (psub p q)) := fun Γ i j p q e1 e2 e3 => ev_call (ea_cons (ev_var e1) (ea_cons (ev_var e2) ea_nil)) ⟨p, q, rfl, by omega, rfl⟩
  refine sd_seq (M := fun Γ => ∃ x y z, Γ = [some sc, some (.dat L), some (.dat Cd), x, some (nI (cwOf ls ch)), y, z]) (sd_for (as := pairsOf' ch) (ty := fun p => .dat (.tuple [pI p.1, pI p.2])) (iv_of_map (g := fun p : List Int × List Int => PyData.tuple [pI p.1, pI p.2]) (ty := Ly.Ty.dat) ?_)
    (fun i Γ => ∃ x y z, Γ = [some sc, some (.dat L), some (.dat Cd), x, some (nI ((if ch = [] then 0 else 1) + ((((pairsOf' ch).take i).filter fun p => decide (psub p.1 p.2 ∈ ls)).length : Nat))), y, z]) ⟨x, none, none, ?_⟩ ?_ ?_) ?_
  · have e : (pairsOf' ch).map (fun p => PyData.tuple [pI p.1, pI p.2]) = zipD (ch.map pI) ((ch.map pI).drop 1) := by
      unfold zipD pairsOf'
      rw [← List.map_drop, List.zip_map, List.map_map]
      rfl
    rw [e]
    exact iv_zipL (ev_var rfl) (ev_dat (ev_is (ev_slL (ev_var rfl) (eo_some (ev_int (i := ((1 : Nat) : Int)))) eo_none) (by rw [cutD_suf])))
  · have z : ((if ch = [] then 0 else 1 : Int) + ((([] : List (List Int × List Int)).filter fun p => decide (psub p.1 p.2 ∈ ls)).length : Nat)) = if ch = [] then 0 else 1 := Int.add_zero _
    rw [List.take_zero, z]
    rfl
  · rintro i ⟨p, q⟩ _ ha ⟨x, y, z, rfl⟩
    have hm : (p, q) ∈ pairsOf' ch := List.mem_of_getElem? ha
    obtain ⟨h1, h2⟩ := hpr _ hm
    have hp := hcd p (List.of_mem_zip hm).1
    have hq := hcd q (List.mem_of_mem_drop (List.of_mem_zip hm).2)
    refine ⟨_, [5, 6], tg_pair (by decide) (by decide), ?_⟩
    show SD K C _ [some sc, some (.dat L), some (.dat Cd), x, some (nI ((if ch = [] then 0 else 1) + ((((pairsOf' ch).take i).filter fun p => decide (psub p.1 p.2 ∈ ls)).length : Nat))), some (dI p), some (dI q)] _ _
    refine sd_then (sd_if (b := !true || (!decide (psub p q ∈ ls) && !decide (psub q p ∈ ls))) (eb_or (eb_not (eb_test (ev_calO (ev_var rfl) (ea_cons (ev_var rfl) (ea_cons (ev_var rfl) ea_nil)) ⟨T0, D, p, q, h, rfl, hh, okD, hp, hq, wf, by rw [h1]⟩))) fun _ => eb_and (eb_is (eb_test (ev_in (neg := true) (mi _ 5 6 p q rfl rfl hp) (.inl (ev_var rfl)) (shaped_pI _) (shaped_cells _))) (by rw [if_pos rfl, any_cells])) fun _ => eb_is (eb_test (ev_in (neg := true) (mi _ 6 5 q p rfl rfl hq) (.inl (ev_var rfl)) (shaped_pI _) (shaped_cells _))) (by rw [if_pos rfl, any_cells])) (fun hb => ?_) fun _ => sd_next rfl) ?_
    · exfalso
      rcases h2 with h2 | h2
      · rw [decide_eq_true h2] at hb; cases hb
      · rw [decide_eq_true h2, Bool.not_true, Bool.and_false] at hb; cases hb
    · refine sd_weak (sd_aug (f := fun i j => i + j) rfl (ev_intB (ev_is (ev_in (neg := false) (mi _ 5 6 p q rfl rfl hp) (.inl (ev_var rfl)) (shaped_pI _) (shaped_cells _)) (t' := bI (decide (psub p q ∈ ls))) (by rw [if_neg Bool.false_ne_true, any_cells])))) (fun Γ e => ⟨x, some (dI p), some (dI q), ?_⟩) fun _ h => h
      rw [e, filter_take _ ha]
      show [some sc, some (.dat L), some (.dat Cd), x, some (nI (_ + _)), some (dI p), some (dI q)] = _
      congr 6
      rw [Int.natCast_add, Int.add_assoc]
      have z : (if decide (psub p q ∈ ls) = true then (1 : Int) else 0) = ((if decide (psub p q ∈ ls) = true then 1 else 0 : Nat) : Int) := by split <;> rfl
      rw [z]
  · rintro _ ⟨x, y, z, rfl⟩
    rw [List.take_length]
    exact ⟨_, _, _, rfl⟩
  · rintro _ ⟨x, y, z, rfl⟩
    exact sd_ret (ev_var rfl) rfl
end
end Lk
/-! Dv: dicts of ints by places: their values, their keys, a look, a store, ==. -/
namespace Ly
open PySem PySem.Spec
open PyProof.Rows L2
section
variable {X : Cx} {pins0 : List (Addr × Obj)} {σ0 : L2.St} {H : Hp} {s : Shared}
theorem pairGet {α β : Type} {R : α → β → Prop} {as : List α} {bs : List β} (h : Paired R as bs) : ∀ {j : Nat} {b : β}, bs[j]? = some b → ∃ a, as[j]? = some a ∧ R a b := by
  induction h with
  | nil => intro j b e0; simp at e0
  | cons r t ih =>
    intro j b e0
    cases j with
    | zero =>
      simp at e0
      subst e0
      exact ⟨_, rfl, r⟩
    | succ j =>
      obtain ⟨a, h1, h2⟩ := ih (j := j) (by simpa using e0)
      exact ⟨a, by simpa using h1, h2⟩
/-- the object of a dict with tuple keys -/
theorem dT_raw (I0 : Inv X pins0 σ0 H s) {a : Addr} {kvs : List (List Key × V)} (hd : H a = some (.dT kvs)) : kvs.length ≤ sizeLine ∧ (a == sysModules) = false ∧ ∃ (o : Obj) (es0 : Array DictEntry) (ep : Nat), s.heap.get? a = some o ∧ o.ExactDict ∧ o.data = .dict es0 ep ∧ es0.size = kvs.length ∧
    ∀ (i : Nat) (e0 : DictEntry), es0[i]? = some e0 → ∃ p, kvs[i]? = some p ∧ RelV p.2 e0.val := by
  obtain ⟨z0, hs, ks0, pr0, o, es0, ep, ho0, hx, hdt, he0, hn⟩ := (show ObjOk X.prog X.w H s.heap a (.dT kvs) from I0.hok a _ hd)
  have l1b : es0.size = ks0.length := size_of_entries he0
  have l2b : kvs.length = ks0.length := Paired.length pr0
  refine ⟨z0, hs, o, es0, ep, ho0, hx, hdt, by omega, fun i e0 hi => ?_⟩
  have q := entry_at he0 i
  rw [hi] at q
  cases hk0 : ks0[i]? with
  | none =>
    rw [hk0] at q
    exact nomatch (show some e0 = none from q)
  | some b =>
    rw [hk0] at q
    have e2 : e0 = entryOfKey (tupleKind (mixKind X.prog X.w)) b := Option.some.inj q
    obtain ⟨p, hp0, _, _, rv⟩ := pairGet pr0 hk0
    exact ⟨p, hp0, by rw [e2]; exact rv⟩
/-! d.values() -/
def rValsT : V → List V → Hp → VK → Prop := fun x xs H Q => ∃ (a : Addr) (kvs : List (List Key × V)), x = .ref a ∧ xs = [] ∧ H a = some (.dT kvs) ∧ ∀ p, H p = none → Q (.ref p) (upd H p (viewO "dict_values" p a))
theorem mt_valsT : MtR X "dict.values" rValsT := by
  intro pins0 s σ0 H x xs v us0 Q I0 rx0 rxs0 h
  obtain ⟨a, kvs, rfl, rfl, ha00, q⟩ := h
  cases rx0
  cases rxs0
  obtain ⟨z0, hs, o, es0, ep, ho0, hx, hdt, _, _⟩ := dT_raw I0 ha00
  refine call_meetsIn PySem.F.slot_dict_values ⟨o, ho0, hx.1⟩ PySem.F.entry_dict_values (PySem.F.args_dict_values_1 _) (PySem.meets_dict_values_raw a hs) ⟨⟨es0, ep, o, ho0, hx, hdt⟩, ?_⟩
  exact ⟨.ref s.heap.objs.size, upd H s.heap.objs.size (viewO "dict_values" s.heap.objs.size a), I0.laid (t' := s.toks) (fun b u0 e0 => Heap.get?_push_of_some _ e0) (Nat.le_refl _) (viewO_ok (Heap.get?_push_size _ rfl)), rfl, q _ (I0.hok.fresh (Nat.le_refl _))⟩
/-- the greatest of the values -/
def rMaxT : List V → Hp → VK → Prop := fun xs H Q => ∃ (p a : Addr) (kvs : List (List Int × Int)), xs = [.ref p] ∧ H p = some (viewO "dict_values" p a) ∧ H a = some (.dT (kvD kvs)) ∧ kvs ≠ [] ∧ ∀ m, m ∈ kvs.map (·.2) → (∀ y0 ∈ kvs.map (·.2), y0 ≤ m) → Q (.int m) H
theorem cr_maxT (hc : X.calm = true) : CallR X (.builtin "max") rMaxT := by
  intro pins0 s σ0 H xs us0 Q I0 rx0 h
  obtain ⟨p, a, kvs, rfl, hp0, ha00, hne0, q⟩ := h
  obtain ⟨u0, rfl, ru0⟩ := vals1 rx0
  obtain rfl : u0 = Value.ref p := ru0
  obtain ⟨z0, hs, o, es0, ep, ho0, hx, hdt, hsz, hval⟩ := dT_raw I0 ha00
  have hv0 : s.heap.get? p = some (DSub.viewOb "dict_values" a) := (show ObjOk X.prog X.w H s.heap p (viewO "dict_values" p a) from I0.hok p _ hp0).1
  obtain ⟨ns0, hns⟩ : ∃ ns0 : List Int, ns0 = kvs.map (·.2) := ⟨_, rfl⟩
  rw [← hns] at q
  have hln : es0.size = ns0.length := by
    rw [hsz, hns, List.length_map]
    unfold kvD
    rw [List.length_map]
  have hpos : 0 < ns0.length := by
    rw [hns, List.length_map]
    exact List.length_pos_iff.mpr hne0
  have hP0 : ∀ (i : Nat) (e0 : DictEntry), es0[i]? = some e0 → ∃ t, e0.val = .int (ns0.getD i 0) t := fun i e0 he0 => by
    obtain ⟨q, hq, r⟩ := hval i e0 he0
    unfold kvD at hq
    rw [List.getElem?_map] at hq
    cases hk0 : kvs[i]? with
    | none => rw [hk0] at hq; cases hq
    | some k =>
      rw [hk0] at hq
      have eq : (kI k.1, V.int k.2) = q := Option.some.inj hq
      rw [← eq] at r
      have e3 : ns0.getD i 0 = k.2 := by
        rw [hns, List.getD_eq_getElem?_getD, List.getElem?_map, hk0]
        rfl
      rw [e3]
      exact r
  refine call_max_walk ?_
  refine DSub.iter_vals hv0 ho0 hdt ?_
  have hlt0 : a < s.heap.objs.size := Heap.lt_size ho0
  refine ⟨s.heap.objs.size, [s.heap.objs.size, a], [s.heap.objs.size], es0.size, fun i v => ∃ t, v = .int (ns0.getD i 0) t, _, fun i j => decide (ns0.getD i 0 > ns0.getD j 0), rfl, DSub.walksVal (a := a) (show X.A.in1.handled = none from I0.ok.hd hc) (Nat.ne_of_lt hlt0) hdt hP0, ⟨Heap.get?_push_size _ rfl, Heap.get?_push_of_some _ ho0⟩, fun b hb00 => ?_, by omega, CmpOf.ints_gt (fun i => ns0.getD i 0) (fun i v z0 => z0), fun v hb tk0 hv' hk0 => ?_⟩
  · show
        b < (s.heap.push _).objs.size
    rw [size_push']
    rcases List.mem_cons.mp hb00 with z0 | z0
    · rw [z0]; exact Nat.lt_succ_self _
    · rw [List.mem_singleton.mp z0]; exact Nat.lt_succ_of_lt hlt0
  · obtain ⟨t, rfl⟩ := hv'
    obtain ⟨m1b, m2b⟩ := argBest_gt (fun i => ns0.getD i 0) (es0.size - 1)
    have m1bb : argBest (fun i j => decide (ns0.getD i 0 > ns0.getD j 0)) (es0.size - 1) ≤ es0.size - 1 := m1b
    have m2bb : ∀ j, j ≤ es0.size - 1 → ns0.getD j 0 ≤ ns0.getD (argBest (fun i j => decide (ns0.getD i 0 > ns0.getD j 0)) (es0.size - 1)) 0 := m2b
    have hk2b : ∀ b o, s.heap.get? b = some o → hb.get? b = some o := fun b o e0 => hk0 b o (fun z0 => by rw [List.mem_singleton.mp z0] at e0; exact absurd (Heap.lt_size e0) (Nat.lt_irrefl _)) (Heap.get?_push_of_some _ e0)
    refine ⟨.int _, H, I0.kept (t' := tk0) hk2b, ⟨t, rfl⟩, q _ (PySem.getD_mem (by omega)) fun y0 hy0 => ?_⟩
    obtain ⟨j, hj0, e0⟩ := List.mem_iff_getElem.mp hy0
    have hj' : j < ns0.length := hj0
    have z0 := m2bb j (by omega)
    have e3 : ns0.getD j 0 = y0 := by
      rw [List.getD_eq_getElem?_getD, List.getElem?_eq_getElem hj', ← e0]
      rfl
    rw [e3] at z0
    exact z0
/-! *d.values() -/
theorem kdl_valsRaw {P : Program} {w : World} {r d : Addr} {o : Obj} {es0 : Array DictEntry} {ep : Nat} (hdt : o.data = .dict es0 ep) :
    PySem.W.KdlSrc P w "dict_values" r d es0.size (fun i v => ∃ en : DictEntry, es0[i]? = some en ∧ v = en.val) (fun h => h.get? r = some (DSub.viewOb "dict_values" d) ∧ h.get? d = some o) where
  type := fun _ hm => ⟨_, hm.1, rfl⟩
  there := fun _ hm => ⟨Heap.lt_size hm.1, Heap.lt_size hm.2⟩
  keep := fun _ _ hm hk0 => ⟨hk0 r (.inl rfl) _ hm.1, hk0 d (.inr rfl) _ hm.2⟩
  notList := by decide
  notTuple := by decide
  hint := fun _ _ s _ hm hq => PySem.W.kdl_hint_values (s := s) ⟨_, hm.1, rfl⟩ hq
  iter := fun _ s hh hm => ⟨_, _, (fun _ _ hq => DSub.iter_vals hm.1 hm.2 hdt hq), DSub.walksVal hh (Nat.ne_of_lt (Heap.lt_size hm.2)) hdt fun i e0 he0 => ⟨e0, he0, rfl⟩, ⟨Heap.get?_push_size _ rfl, Heap.get?_push_of_some _ hm.2⟩⟩
theorem vals_at : ∀ {vs : List V} {us0 : List Value}, us0.length = vs.length → (∀ (j : Nat) (u0 : Value), us0[j]? = some u0 → ∃ v, vs[j]? = some v ∧ RelV v u0) → Vals vs us0
  | [], [], _, _ => .nil
  | v :: vs, u0 :: us0, hl0, h => by
    obtain ⟨v', e0, r⟩ := h 0 u0 rfl
    have e' : v = v' := Option.some.inj e0
    subst e'
    exact .cons r (vals_at (by simpa using hl0) fun j u' hj0 => by
      obtain ⟨v', e0, r⟩ := h (j + 1) u' (by simpa using hj0)
      exact ⟨v', by simpa using e0, r⟩)
  | [], _ :: _, hl0, _ => by simp at hl0
  | _ :: _, [], hl0, _ => by simp at hl0
theorem kVals (K : PySem.W.Frag) {o : Expr} {to : TE} {apos cpos : Pos} (ho0 : PE X o to) (h : X.K = K := by rfl) (hb00 : attributeBase o "values" X.env (eval o X.env) = eval o X.env := by rfl) (hl0 : (apos.endLine == cpos.line) = true := by rfl) : PE X (.Call (.Attribute o "values" apos) [] [] cpos) (tBM0 K "dict" rValsT to) :=
  h ▸ pe_bm0 PySem.F.plainAttrs_dict PySem.F.slot_dict_values PySem.F.type_dict_values mt_valsT ho0 hb00 hl0
def tStarV (te : TE) (t : TA) : TA := fun σ0 H Q => te σ0 H fun x H1b => ∃ p a kvs, x = V.ref p ∧ H1b p = some (viewO "dict_values" p a) ∧ H1b a = some (.dT kvs) ∧ t σ0 H1b fun ys H2 => Q (kvs.map (·.2) ++ ys) H2
theorem pa_starV {e0 : Expr} {es0 : List Expr} {te : TE} {t : TA} {p : Pos} (hc : X.calm = true) (he0 : PE X e0 te) (hr : PA X es0 t) (hs : starEach (.Starred e0 p :: es0) X.env = (true, eval e0 X.env) :: starEach es0 X.env := by rfl) : PA X (.Starred e0 p :: es0) (tStarV te t) := by
  refine ⟨fun pos0 pins0 s σ0 H Q I0 h => ?_⟩
  refine PySem.W.items_star (thn (he0.run pins0 s σ0 H _ I0 h) fun v s1 ⟨y0, H1b, I1b, ry0, p', a, kvs, ey, hp0, ha00, q⟩ => ?_) hs
  subst ey
  obtain rfl : v = Value.ref p' := ry0
  obtain ⟨z0, hsm, o, es', ep, ho0, hx, hdt, hsz, hval⟩ := dT_raw I1b ha00
  have hv0 : s1.heap.get? p' = some (DSub.viewOb "dict_values" a) := (show ObjOk X.prog X.w H1b s1.heap p' (viewO "dict_values" p' a) from I1b.hok p' _ hp0).1
  have hT : s1.TypeIs (.ref p') "dict_values" := ⟨_, hv0, rfl⟩
  unfold
      PySem.W.StarOf notIterableAtAll
  refine wpAny_bind (wpAny_specialOf hT PySem.F.slot_dict_values_iter.lookup (wpAny_pure ⟨rfl, ?_⟩))
  refine PySem.W.kdu_collect (kdl_valsRaw hdt) (I1b.ok.hd hc) ⟨hv0, ho0⟩ (by omega) fun hb tk0 acc hk0 hacc => ?_
  have I2b : Inv X pins0 σ0 H1b { s1 with heap := hb, toks := tk0 } := I1b.kept hk0
  have rv : Vals (kvs.map (·.2)) acc.toList := vals_at (by rw [Array.length_toList, hacc.1, hsz, List.length_map]) fun j u0 hj0 => by
    obtain ⟨en, hen, rfl⟩ := hacc.2 j u0 (by rw [← Array.getElem?_toList]; exact hj0)
    obtain ⟨q, hq, r⟩ := hval j en hen
    exact ⟨q.2, by rw [List.getElem?_map, hq]; rfl, r⟩
  exact thn (hr.run pos0 pins0 _ σ0 H1b _ I2b q) fun ws s3 ⟨vs, H3, I3, r3, q3⟩ => ⟨kvs.map (·.2) ++ vs, H3, I3, rv.append r3, q3⟩
end
section
variable {K : PySem.W.Frag} {C : Addr} {Γ : Ev} {te td ty : TE} {kvs : List (List Int × Int)}
abbrev tVals (K : PySem.W.Frag) (td : TE) : TE := tBM0 K "dict" rValsT td
theorem ev_vals {Q : VK} {σ0 : L2.St} {W : Wd} (h : EvD K C td Γ (.dc kvs)) (e0 : En K C W.F σ0 Γ) (q : ∀ p a (W' : Wd), LeS W W' → W'.H p = some (viewO "dict_values" p a) → W'.H a = some (.dT (kvD kvs)) → Q (.ref p) W'.H) : tVals K td σ0 W.H Q := h σ0 W e0 _ fun v W1 s1 a => by
  obtain ⟨d, rfl, hd⟩ := a
  have hd1 := W1.sub _ _ hd
  refine ⟨.inr (.inr (.inl ⟨rfl, .inr ⟨_, hd1⟩⟩)), d, _, rfl, rfl, hd1, fun p hp0 => ?_⟩
  exact q p d (W1.new p _) (s1.trans (leS_new hp0)) upd_same ((leS_new (o := viewO "dict_values" p d) hp0).all _ _ hd1)
theorem ev_maxVals {m : Int} (h : EvD K C td Γ (.dc kvs)) (hm : m ∈ kvs.map (·.2)) (hle : ∀ y0 ∈ kvs.map (·.2), y0 ≤ m) : EvD K C (tCB rMaxT (tCons (tVals K td) tNil)) Γ (.dat (.int m)) := fun σ0 W e0 Q q => by
  refine ev_vals h e0 fun p a W1 s1 h1 h2 => ⟨p, a, kvs, rfl, h1, h2, fun z0 => ?_, fun k hk0 hk2b => ?_⟩
  · subst z0
    cases hm
  · have ek : k = m := Int.le_antisymm (hle k hk0) (hk2b m hm)
    subst ek
    exact q _ W1 s1 (Dt.int _)
theorem ea_starV {tr : TA} {ts : List Ty} (h : EvD K C td Γ (.dc kvs)) (hr : EvA K C tr Γ ts) : EvA K C (tStarV (tVals K td) tr) Γ (kvs.map (fun p => .dat (.int p.2)) ++ ts) := fun σ0 W e0 Q q => by
  refine ev_vals h e0 fun p a W1 s1 h1 h2 => ⟨p, a, _, rfl, h1, h2, hr σ0 W1 (e0.le s1) _ fun vs W2 s2 b => q _ W2 (s1.trans s2) (atAll_app ?_ b)⟩
  unfold kvD
  rw [List.map_map]
  have z0 : ∀ l : List (List Int × Int), AtAll K C W2.F (l.map ((·.2) ∘ fun p : List Int × Int => (kI p.1, V.int p.2))) (l.map fun p => Ty.dat (.int p.2)) := fun l => by
    induction l with
    | nil => exact .nil
    | cons a r ih => exact .cons (Dt.int _) ih
  exact z0 kvs
/-! a look -/
theorem kI_inj {a b : List Int} (h : kI a = kI b) : a = b := by
  unfold kI at h
  exact List.map_inj_right (fun x y0 e0 => Sum.inl.inj e0) |>.mp h
theorem valV_kvD (k : List Int) : ∀ kvs : List (List Int × Int), valV (kvD kvs) (kI k) = (kvs.lookup k).map V.int
  | [] => rfl
  | p :: r => by
    show valV ((kI p.1, V.int p.2) :: kvD r) (kI k) = _
    obtain ⟨a, b⟩ := p
    by_cases e0 : a = k
    · subst e0
      rw [valV_pos rfl, List.lookup_cons_self]
      rfl
    · rw [valV_neg (fun z0 => e0 (kI_inj z0)), valV_kvD k r, List.lookup_cons]
      have hb00 : (k == a) = false := by
        rw [beq_eq_false_iff_ne]
        exact fun z0 => e0 z0.symm
      rw [hb00]
theorem key_dp {F : Hp} {v : V} {l : List Int} (h : Dt K F v (.tuple (l.map .int))) : ∃ b, v = .ref b ∧ F b = some (.tup ((kI l).map kV)) := by
  obtain ⟨b, rfl, xs, h1, h2⟩ := dp_key h
  refine ⟨b, rfl, ?_⟩
  rw [h1, dpAll_ints h2]
  unfold kI
  rw [List.map_map]
  rfl
theorem ev_dget {l : List Int} {n : Int} (h : EvD K C td Γ (.dc kvs)) (hk0 : EvD K C ty Γ (.dat (.tuple (l.map .int)))) (hl0 : kvs.lookup l = some n) : EvD K C (tDGet td ty) Γ (.dat (.int n)) := fun σ0 W e0 Q q =>
  h σ0 W e0 _ fun v W1 s1 a => hk0 σ0 W1 (e0.le s1) _ fun u0 W2 s2 b => by
    obtain ⟨d, rfl, hd⟩ := at_le s2 a
    obtain ⟨x, rfl, hx⟩ := key_dp b
    have g := DGet.t (W2.sub _ _ hd) (W2.sub _ _ hx)
    rw [valV_kvD, hl0] at g
    exact ⟨d, .int n, rfl, g, q _ W2 (s1.trans s2) (Dt.int _)⟩
/-! a store -/
def putI (kvs : List (List Int × Int)) (l : List Int) (n : Int) : List (List Int × Int) := if (kvs.lookup l).isSome then kvs.map fun p => if p.1 = l then (p.1, n) else p else kvs ++ [(l, n)]
theorem putK_kvD (kvs : List (List Int × Int)) (l : List Int) (n : Int) : putK (kvD kvs) (kI l) (.int n) = kvD (putI kvs l n) := by
  have e0 : ((kvD kvs).any fun kv => decide (kv.1 = kI l)) = (kvs.lookup l).isSome := by
    rw [valV_any, valV_kvD]
    cases kvs.lookup l <;> rfl
  unfold putK putI
  rw [e0]
  cases (kvs.lookup l).isSome with
  | true =>
    rw [if_pos rfl, if_pos rfl]
    unfold kvD
    rw
        [List.map_map, List.map_map]
    refine
        List.map_congr_left fun p _ => ?_
    show (if kI p.1 = kI l then (kI p.1, V.int n) else (kI p.1, V.int p.2)) = _
    by_cases e0 : p.1 = l
    · rw [if_pos (by rw [e0])]
      show _ = (kI (if p.1 = l then (p.1, n) else p).1, V.int (if p.1 = l then (p.1, n) else p).2)
      rw [if_pos e0]
    · rw [if_neg (fun z0 => e0 (kI_inj z0))]
      show _ = (kI (if p.1 = l then (p.1, n) else p).1, V.int (if p.1 = l then (p.1, n) else p).2)
      rw [if_neg e0]
  | false =>
    rw [if_neg Bool.false_ne_true, if_neg Bool.false_ne_true]
    unfold kvD
    rw [List.map_append]
    rfl
theorem sm_dput {O : Ow} {R : Ty → Ow → Prop} {i j : Nat} {p : Addr} {l : List Int} {n : Int} {tv : TE} (hi : Γ[i]? = some (some (.own p))) (hj0 : O[j]? = some (dicR p kvs)) (hv0 : EvS K C tv Γ O (.dat (.int n))) (hk0 : EvD K C ty Γ (.dat (.tuple (l.map .int)))) (hz : kvs.length ≤ 100000) :
    SM K C (sDPut (tVar i) ty tv) Γ O (fun Γ' O' => Γ' = Γ ∧ O' = O.set j (dicR p (putI kvs l n))) R := fun D σ0 W e0 o nn r => by
  refine hv0 σ0 W e0 o _ fun v W1 s1 a => ?_
  obtain ⟨v', q1, q2⟩ := (e0.le s1).at_ i _ hi
  have q2 : v' = .ref p := q2
  subst q2
  refine ⟨_, q1, hk0 σ0 W1 (e0.le s1) _ fun u0 W2 s2 b => ?_⟩
  have o2 := (o.le s1).le s2
  have hd : W2.H p = some (.dT (kvD kvs)) := o2.ok _ (List.mem_of_getElem? hj0)
  have hf : W2.F p = none := o2.nf p ⟨_, List.mem_of_getElem? hj0, List.mem_singleton.mpr rfl⟩
  obtain ⟨x, rfl, hx⟩ := key_dp b
  have ev := dp_int a
  subst ev
  have g := DPut.t (v := .int n) hd (W2.sub _ _ hx) (by unfold kvD; rw [List.length_map]; exact Nat.lt_of_le_of_lt hz (by decide))
  rw [putK_kvD] at g
  refine ⟨p, _, rfl, g, ?_⟩
  have o3 := o2.upd (r' := dicR p (putI kvs l n)) (o := .dT (kvD (putI kvs l n))) hj0 (List.mem_singleton.mpr rfl) rfl hf upd_same
  exact nn Γ _ σ0 (W2.own p _ hf) ⟨rfl, rfl⟩ ((s1.trans s2).go.trans (go_upd (r' := dicR p (putI kvs l n)) hj0 (List.mem_singleton.mpr rfl) rfl hf)) (show En K C W2.F σ0 Γ from e0.le (s1.trans s2)) o3
end
section
variable {X : Cx}
/-- d == {} -/
def rEqE : R2 := fun x y0 H Q => ∃ a b kvs, x = .ref a ∧ y0 = .ref b ∧ H a = some (.dT kvs) ∧ H b = some (.dT []) ∧ Q (.bl kvs.isEmpty) H
theorem op_eqE (hu : X.A.units < cLine) : OpR X (compareOp .Eq) rEqE := by
  intro pins0 s σ0 H x y0 v u0 Q I0 rx0 ry0 h
  obtain ⟨a, b, kvs, rfl, rfl, ha00, hb00, q⟩ := h
  obtain rfl : v = Value.ref a := rx0
  obtain rfl : u0 = Value.ref b := ry0
  obtain ⟨_, sa, oa, ea, pa, hoa0, hxa, hda0, hza, _⟩ := dT_raw I0 ha00
  obtain ⟨_, sb, ob, eb, pb, hob0, hxb, hdb0, hzb, _⟩ := dT_raw I0 hb00
  have ta : s.TypeIs (.ref a) "dict" := ⟨oa, hoa0, hxa.1⟩
  have tb : s.TypeIs (.ref b) "dict" := ⟨ob, hob0, hxb.1⟩
  have fin : EP X pins0 σ0 Q (.bool kvs.isEmpty) s := ⟨.bl kvs.isEmpty, H, I0, rfl, q⟩
  refine wpAny_richCompare_same_room (op := .Eq) ta tb PySem.F.slot_dict_eq (wpAny_call_entry PySem.F.slot_dict_eq ta PySem.F.entry_dict_eq ?_ (PySem.F.args_dict_eq_2 _ _)) hu
  show
      wpAny _ _ (Builtin.Dict.dictSlotArgs "__eq__" ⟨[.ref a, .ref b], []⟩ >>= _) _ _ s
  refine wpAny_bind ?_
  unfold
      Builtin.Dict.dictSlotArgs
  refine wpAny_bind (wpAny_notOrdered_dict ta ?_)
  show
      wpAny _ _ (pure (Value.ref a, Value.ref b)) _ _ s
  refine wpAny_pure (wpAny_bind (wpAny_isInstance (T := "dict") tb PySem.F.sub_dict_dict ?_))
  simp only
      [Bool.not_true, Bool.false_eq_true, if_false]
  refine wpAny_bind (wpAny_pure (wpAny_bind (wpAny_pure (wpAny_bind ?_))))
  unfold
      Builtin.Dict.samePairs Builtin.Dict.showsAll
  rw [if_neg (by rw [sa]; exact Bool.false_ne_true), if_neg (by rw [sb]; exact Bool.false_ne_true)]
  refine wpAny_bind (wpAny_pure (wpAny_bind (wpAny_pure (wpAny_bind (wpAny_dictEntries hoa0 hda0 ?_)))))
  dsimp only
  refine wpAny_bind (wpAny_dictEntries hob0 hdb0 ?_)
  have hb0 : eb.size = 0 := hzb
  cases kvs with
  | nil =>
    have ha0 : ea.size = 0 := hza
    rw [if_neg (by rw [ha0, hb0]; decide)]
    refine wpAny_bind (wpAny_dictEpoch hoa0 hda0 ?_)
    rw [ha0]
    refine wpAny_bind ?_
    rw
        [Std.Legacy.Range.forIn_eq_forIn_range']
    exact wpAny_pure (wpAny_pure (wpAny_pure ⟨_, rfl, (fun z0 => nomatch z0), fin⟩))
  | cons p r =>
    have ha1 : ea.size = r.length + 1 := hza
    rw [if_pos (by rw [ha1, hb0]; simp)]
    exact wpAny_bind (wpAny_rule (wpAny_pure (wpAny_pure ⟨_, rfl, (fun z0 => nomatch z0), fin⟩)))
end
section
variable {K : PySem.W.Frag} {C : Addr} {Γ : Ev} {te : TE} {kvs : List (List Int × Int)}
theorem ev_eqE (h : EvD K C te Γ (.dc kvs)) : EvD K C (tOp rEqE te tDNewT) Γ (.dat (.bool kvs.isEmpty)) := fun σ0 W e0 Q q => h σ0 W e0 _ fun v W1 s1 a => by
  intro p hp0
  obtain ⟨d, rfl, hd⟩ := a
  have hd' := (leS_new (o := .dT []) hp0).all _ _ (W1.sub _ _ hd)
  have e1 : (kvD kvs).isEmpty = kvs.isEmpty := by
    unfold kvD
    cases kvs <;> rfl
  refine ⟨d, p, _, rfl, rfl, hd', upd_same, ?_⟩
  rw [e1]
  exact q _ (W1.new p (.dT [])) (s1.trans (leS_new hp0)) (Dt.bl _)
/-- sorted(d), list(d) -/
theorem ev_sortedC (h : EvD K C te Γ (.dc kvs)) (hal : PySem.W.AllAlike (kvs.map fun p => PyData.tuple (p.1.map .int))) (hso : PySem.W.Sortable (kvs.map fun p => PyData.tuple (p.1.map .int))) (hz : kvs.length ≤ 100000) :
    EvD K C (tCB (rSortU K) (tCons te tNil)) Γ (.tl (srtd (kvs.map fun p => PyData.tuple (p.1.map .int)))) := fun σ0 W e0 Q q => h σ0 W e0 _ fun v W1 s1 a => by
  obtain ⟨d, rfl, hd⟩ := a
  have hk0 : (kvD kvs).map (·.1) = (kvs.map (·.1)).map kI := by
    unfold kvD
    rw
        [List.map_map, List.map_map]
    rfl
  have src := SrtSrc.dic (K := K) (B := W1.tups.F) (W1.sub _ _ hd) hk0 fun b xs hb00 => tups_at hb00
  rw [List.map_map] at src
  refine ⟨d, _, W1.tups.F, rfl, W1.tups.sub, src, hal, hso, by rw [List.length_map]; exact hz, fun x hx => ?_, fun p ys hp0 hy0 => ?_⟩
  · obtain ⟨y0, _, rfl⟩ := List.mem_map.mp hx
    show PyData.depthAll (y0.1.map .int) + 1 ≤ 60
    rw [PySem.W.depth_ints]
    decide
  · exact q _ (W1.tups.new p _) ((s1.trans (leS_tups W1)).trans (leS_new hp0)) ⟨p, ys, rfl, upd_same, dpAll_le (leS_new (W := W1.tups) hp0) hy0⟩
end
end Ly
/-! Od: the order of a box's places: plain. -/
namespace Lk
open PySem PySem.Spec PyProof.Rows L2 Ly
theorem snoc_ind {α : Type} {p : List α → Prop} (h0 : p []) (h1 : ∀ l a, p l → p (l ++ [a])) : ∀ l, p l := fun l => by
  have key : ∀ r : List α, p r.reverse := fun r => by
    induction r with
    | nil => exact h0
    | cons a r ih =>
      rw [List.reverse_cons]
      exact h1 _ _ ih
  have z := key l.reverse
  rw [List.reverse_reverse] at z
  exact z
/-! less of rows -/
theorem lexLt_pre : ∀ p a b : List Int, HT.lexLt (p ++ a) (p ++ b) = HT.lexLt a b
  | [], _, _ => rfl
  | x :: p, a, b => by
    rw [List.cons_append, List.cons_append, HT.lexLt_cons, if_pos rfl]
    exact lexLt_pre p a b
theorem lexLt_app : ∀ {a b : List Int} (x y : List Int), a.length = b.length → HT.lexLt a b = true → HT.lexLt (a ++ x) (b ++ y) = true
  | [], [], _, _, _, h => by rw [HT.lexLt_nil_nil] at h; cases h
  | i :: a, j :: b, x, y, hl0, h => by
    rw [List.cons_append, List.cons_append, HT.lexLt_cons]
    rw [HT.lexLt_cons] at h
    by_cases e : i = j
    · rw [if_pos e] at h ⊢
      exact lexLt_app x y (by simpa using hl0) h
    · rw [if_neg e] at h ⊢
      exact h
  | [], _ :: _, _, _, hl0, _ => by simp at hl0
  | _ :: _, [], _, _, hl0, _ => by simp at hl0
theorem lexLt_trans : ∀ {a b c : List Int}, HT.lexLt a b = true → HT.lexLt b c = true → HT.lexLt a c = true
  | [], [], _, h, _ => by rw [HT.lexLt_nil_nil] at h; cases h
  | _ :: _, [], _, h, _ => by rw [HT.lexLt_cons_nil] at h; cases h
  | _, _ :: _, [], _, h => by rw [HT.lexLt_cons_nil] at h; cases h
  | [], _ :: _, _ :: _, _, _ => HT.lexLt_nil_cons _ _
  | i :: a, j :: b, k :: c, h1, h2 => by
    rw [HT.lexLt_cons] at h1 h2 ⊢
    by_cases e1 : i = j
    · subst e1
      rw [if_pos rfl] at h1
      by_cases e2 : i = k
      · rw [if_pos e2] at h2 ⊢
        exact lexLt_trans h1 h2
      · rw [if_neg e2] at h2 ⊢
        exact h2
    · rw [if_neg e1] at h1
      have a1 := of_decide_eq_true h1
      by_cases e2 : j = k
      · subst e2
        rw [if_neg e1]
        exact h1
      · rw [if_neg e2] at h2
        have a2 := of_decide_eq_true h2
        rw [if_neg (by omega)]
        exact
            decide_eq_true (by omega)
theorem lexLt_total : ∀ {a b : List Int}, HT.lexLt a b = false → HT.lexLt b a = false → a = b
  | [], [], _, _ => rfl
  | [], _ :: _, h, _ => by rw [HT.lexLt_nil_cons] at h; cases h
  | _ :: _, [], _, h => by rw [HT.lexLt_nil_cons] at h; cases h
  | i :: a, j :: b, h1, h2 => by
    rw [HT.lexLt_cons] at h1 h2
    by_cases e : i = j
    · subst e
      rw [if_pos rfl] at h1 h2
      rw [lexLt_total h1 h2]
    · rw [if_neg e] at h1
      rw [if_neg (Ne.symm e)] at h2
      have := of_decide_eq_false h1
      have := of_decide_eq_false h2
      omega
theorem lexLt_asym {a b : List Int} (h : HT.lexLt a b = true) : HT.lexLt b a = false := by
  cases q : HT.lexLt b a with
  | false => rfl
  | true =>
    have z := lexLt_trans h q
    rw [lexLt_self] at z
    cases z
theorem lexLt_neg {a b c : List Int} (h1 : HT.lexLt b a = false) (h2 : HT.lexLt c b = false) : HT.lexLt c a = false := by
  cases q : HT.lexLt c a with
  | false => rfl
  | true =>
    cases r : HT.lexLt a b with
    | true =>
      rw [lexLt_trans q r] at h2
      cases h2
    | false =>
      have e := lexLt_total r h1
      subst e
      rw [q] at h2
      cases h2
theorem lexLt_lt : ∀ xs ys : List Int, HT.lexLt xs ys = decide (xs < ys)
  | [], [] => by simp [HT.lexLt_nil_nil]
  | [], _ :: _ => by simp [HT.lexLt_nil_cons]
  | _ :: _, [] => by simp [HT.lexLt_cons_nil]
  | x :: xs, y :: ys => by
    rw [HT.lexLt_cons, lexLt_lt xs ys]
    by_cases h : x = y
    · simp [h, List.cons_lt_cons_iff]
    · simp [h, List.cons_lt_cons_iff]
theorem dataLt_pI (l m : List Int) : PySem.W.dataLt (pI l) (pI m) = HT.lexLt l m := by
  unfold pI
  rw [PySem.W.dataLt_tuple, lexLt_lt]
  exact PySem.W.dataLt_ints l m
/-! the places -/
theorem mem_rgI {n : Nat} {i : Int} : i ∈ rgI n ↔ 0 ≤ i ∧ i < n := by
  unfold rgI
  rw [List.mem_map]
  constructor
  · rintro ⟨k, hk, rfl⟩
    rw [List.mem_range] at hk
    omega
  · rintro ⟨h1, h2⟩
    exact ⟨i.toNat, by rw [List.mem_range]; omega, by omega⟩
theorem inBox_snoc {b a : List Int} {s i : Int} (h : a.length = b.length) : inBox (b ++ [s]) (a ++ [i]) = (inBox b a && (decide (0 ≤ i) && decide (i < s))) := by
  unfold inBox
  rw [List.zip_append h, List.all_append]
  simp
theorem mem_cells : ∀ {b c : List Int}, c ∈ cellsOf b ↔ c.length = b.length ∧ inBox b c = true := fun {b} => by
  refine snoc_ind (p := fun b => ∀ c : List Int, c ∈ cellsOf b ↔ c.length = b.length ∧ inBox b c = true) ?_ ?_ b _
  · intro c
    show c ∈ [[]] ↔ _
    rw [List.mem_singleton]
    constructor
    · rintro rfl
      exact ⟨rfl, rfl⟩
    · rintro ⟨h, _⟩
      exact List.length_eq_zero_iff.mp h
  · intro b s ih c
    rw [cellsOf_snoc, List.mem_flatMap]
    constructor
    · rintro ⟨a, ha, hc⟩
      obtain ⟨i, hi, rfl⟩ := List.mem_map.mp hc
      obtain ⟨h1, h2⟩ := (ih a).mp ha
      rw [inBox_snoc h1, h2, List.length_append, List.length_append, h1]
      have := mem_rgI.mp hi
      exact ⟨rfl, by simp; omega⟩
    · rintro ⟨h1, h2⟩
      rw [List.length_append] at h1
      have hne : c ≠ [] := fun e => by subst e; simp at h1
      have hc := List.dropLast_concat_getLast hne
      have hl0 : c.dropLast.length = b.length := by
        rw [List.length_dropLast, h1]
        simp
      rw [← hc, inBox_snoc hl0, Bool.and_eq_true, Bool.and_eq_true, decide_eq_true_eq, decide_eq_true_eq] at h2
      refine ⟨c.dropLast, (ih _).mpr ⟨hl0, h2.1⟩, List.mem_map.mpr ⟨c.getLast hne, mem_rgI.mpr ?_, hc⟩⟩
      omega
theorem cells_pw (b : List Int) : (cellsOf b).Pairwise fun x y => HT.lexLt x y = true := by
  refine snoc_ind (p := fun b => (cellsOf b).Pairwise fun x y => HT.lexLt x y = true) ?_ ?_ b
  · exact List.pairwise_singleton _ _
  · intro b s ih
    rw [cellsOf_snoc]
    refine List.pairwise_flatMap.mpr ⟨fun a ha => ?_, ?_⟩
    · rw [List.pairwise_map]
      refine (List.pairwise_map.mpr ?_ : (rgI s.toNat).Pairwise _)
      refine List.Pairwise.imp (fun {i j} (h : i < j) => ?_) List.pairwise_lt_range
      rw [lexLt_pre, HT.lexLt_cons, if_neg (by omega)]
      exact
          decide_eq_true (by omega)
    · refine ih.imp_of_mem fun {x y} hx hy h => ?_
      intro u hu v hv
      obtain ⟨i, _, rfl⟩ := List.mem_map.mp hu
      obtain ⟨j, _, rfl⟩ := List.mem_map.mp hv
      exact lexLt_app _ _ ((cellsOf_dim x hx).trans (cellsOf_dim y hy).symm) h
theorem cells_nodup (b : List Int) : (cellsOf b).Nodup := (cells_pw b).imp fun {x y} h e => by
  subst e
  rw [lexLt_self] at h
  cases h
theorem vol_snoc (b : List Int) (s : Int) : vol (b ++ [s]) = vol b * s := by
  unfold vol
  rw [List.foldl_append]
  rfl
theorem cells_vol {b : List Int} (h : ∀ i ∈ b, 0 ≤ i) : ((cellsOf b).length : Int) = vol b := by
  revert h
  refine snoc_ind (p := fun b => (∀ i ∈ b, (0 : Int) ≤ i) → ((cellsOf b).length : Int) = vol b) ?_ ?_ b
  · intro _
    rfl
  · intro b s ih h
    have h1 := ih fun i hi => h i (List.mem_append_left _ hi)
    have h2 := h s (List.mem_append_right _ (List.mem_singleton.mpr rfl))
    rw [cellsOf_snoc, vol_snoc, ← h1, List.length_flatMap]
    have : ∀ l : List (List Int), ((l.map fun c => ((rgI s.toNat).map fun i => c ++ [i]).length).sum : Nat) = l.length * s.toNat := fun l => by
      induction l with
      | nil => simp
      | cons a l ih2 =>
        rw [List.map_cons, List.sum_cons, ih2, List.length_map, rgI_len, List.length_cons, Nat.succ_mul, Nat.add_comm]
    rw [this, Int.natCast_mul, Int.toNat_of_nonneg h2]
/-! the order -/
def ordG (T : Tr) (D c : List Int) : PyData := .tuple [pI (full T D c), pI c]
def leF (T : Tr) (D : List Int) (c c' : List Int) : Bool := !HT.lexLt (full T D c') (full T D c)
def orderOf (T : Tr) (D b : List Int) : List (List Int) := (cellsOf b).mergeSort (leF T D)
section
variable {T : Tr} {D b : List Int}
theorem full_inj {c c' : List Int} (hl0 : c.length = c'.length) (h : full T D c = full T D c') : c = c' := by
  unfold full at h
  exact (List.append_inj' h hl0).2
theorem alike_pI (l m : List Int) : PySem.W.alike (pI l) (pI m) = true := by
  unfold pI
  rw [PySem.W.alike]
  exact PySem.W.alike_ints l m
theorem dataLt_ordG {c c' : List Int} (hl0 : c.length = c'.length) : PySem.W.dataLt (ordG T D c) (ordG T D c') = HT.lexLt (full T D c) (full T D c') := by
  unfold ordG
  rw [PySem.W.dataLt_pair (alike_pI _ _) (alike_pI _ _), eqv_pI, eqv_pI, dataLt_pI, dataLt_pI]
  by_cases e : full T D c = full T D c'
  · rw [if_pos (decide_eq_true e), if_pos (decide_eq_true (full_inj hl0 e)), e, lexLt_self]
  · rw [if_neg (by rw [decide_eq_false e]; exact Bool.false_ne_true)]
theorem srtd_ord : srtd ((cellsOf b).map (ordG T D)) = (orderOf T D b).map (ordG T D) := by
  unfold srtd orderOf
  refine (List.map_mergeSort fun x hx y hy => ?_).symm
  show leF T D x y = !PySem.W.dataLt (ordG T D y) (ordG T D x)
  rw [dataLt_ordG ((cellsOf_dim y hy).trans (cellsOf_dim x hx).symm)]
  rfl
theorem order_perm : (orderOf T D b).Perm (cellsOf b) := List.mergeSort_perm _ _
theorem order_mem {c : List Int} : c ∈ orderOf T D b ↔ c ∈ cellsOf b := order_perm.mem_iff
theorem order_nodup : (orderOf T D b).Nodup := order_perm.nodup_iff.mpr (cells_nodup b)
theorem leF_trans (x y z : List Int) (h1 : leF T D x y = true) (h2 : leF T D y z = true) : leF T D x z = true := by
  unfold leF at *
  rw [Bool.not_eq_true'] at *
  exact lexLt_neg h1 h2
theorem leF_total (x y : List Int) : (leF T D x y || leF T D y x) = true := by
  unfold leF
  cases h : HT.lexLt (full T D y) (full T D x) with
  | false => rfl
  | true => rw [lexLt_asym h]; rfl
theorem order_pw : (orderOf T D b).Pairwise fun x y => HT.lexLt (full T D x) (full T D y) = true := by
  have h1 := List.pairwise_mergeSort (le := leF T D) leF_trans leF_total (cellsOf b)
  have h2 : (orderOf T D b).Nodup := order_nodup
  refine (h1.and h2).imp_of_mem fun {x y} hx hy h => ?_
  have dx := cellsOf_dim _ (order_mem.mp hx)
  have dy := cellsOf_dim _ (order_mem.mp hy)
  obtain ⟨a, n⟩ := h
  unfold leF at a
  rw [Bool.not_eq_true'] at a
  cases q : HT.lexLt (full T D x) (full T D y) with
  | true => rfl
  | false => exact absurd (full_inj (dx.trans dy.symm) (lexLt_total q a)) n
/-- what is less stands before -/
theorem order_before {i : Nat} {c o : List Int} (hc : (orderOf T D b)[i]? = some c) (ho : o ∈ cellsOf b) (h : HT.lexLt (full T D o) (full T D c) = true) : o ∈ (orderOf T D b).take i := by
  obtain ⟨j, hj, e⟩ := List.mem_iff_getElem.mp (order_mem (T := T) (D := D) |>.mpr ho)
  obtain ⟨hi, e2⟩ := List.getElem?_eq_some_iff.mp hc
  refine List.mem_take_iff_getElem.mpr ⟨j, ?_, e⟩
  refine Nat.lt_min.mpr ⟨?_, hj⟩
  refine Nat.lt_of_not_le fun hle => ?_
  rcases Nat.lt_or_eq_of_le hle with hlt | rfl
  · have z := List.pairwise_iff_getElem.mp (order_pw (T := T) (D := D) (b := b)) i j hi hj hlt
    rw [e, e2] at z
    rw [lexLt_asym z] at h
    cases h
  · rw [e] at e2
    subst e2
    rw [lexLt_self] at h
    cases h
end
end Lk
/-! Nu: the numbers of the places, the waves, the chain: plain. -/
namespace Lk
open PySem PySem.Spec PyProof.Rows L2 Ly
/-! max of a row -/
theorem fmax_ge : ∀ (l : List Int) (a : Int), a ≤ l.foldl max a
  | [], a => Int.le_refl a
  | x :: l, a => by
    have := fmax_ge l (max a x)
    rw [List.foldl_cons]
    omega
theorem fmax_mem_ge : ∀ (l : List Int) (a x : Int), x ∈ l → x ≤ l.foldl max a
  | y :: l, a, x, h => by
    rw [List.foldl_cons]
    rcases
        List.mem_cons.mp h with rfl | h
    · have := fmax_ge l (max a x)
      omega
    · exact fmax_mem_ge l _ x h
theorem fmax_mem : ∀ (l : List Int) (a : Int), l.foldl max a = a ∨ l.foldl max a ∈ l
  | [], a => .inl rfl
  | x :: l, a => by
    rw [List.foldl_cons]
    rcases fmax_mem l (max a x) with h | h
    · by_cases e : a ≤ x
      · rw [Int.max_eq_right e] at h ⊢
        rw [h]
        exact .inr List.mem_cons_self
      · rw [Int.max_eq_left (by omega)] at h ⊢
        exact .inl h
    · exact .inr (List.mem_cons_of_mem _ h)
/-! places: sums and differences -/
theorem psub_padd : ∀ {c l : List Int}, c.length = l.length → psub (padd c l) c = l
  | [], [], _ => rfl
  | a :: c, i :: l, h => by
    show (a + i - a) :: psub (padd c l) c = i :: l
    rw [psub_padd (by simpa using h), show a + i - a = i by omega]
  | [], _ :: _, h =>
      by simp at h
  | _ :: _, [], h =>
      by simp at h
theorem psub_psub : ∀ {c l : List Int}, c.length = l.length → psub c (psub c l) = l
  | [], [], _ => rfl
  | a :: c, i :: l, h => by
    show (a - (a - i)) :: psub c (psub c l) = i :: l
    rw [psub_psub (by simpa using h), show a - (a - i) = i by omega]
  | [], _ :: _, h =>
      by simp at h
  | _ :: _, [], h =>
      by simp at h
theorem padd_psub : ∀ {c o : List Int}, c.length = o.length → padd c (psub o c) = o
  | [], [], _ => rfl
  | a :: c, i :: o, h => by
    show (a + (i - a)) :: padd c (psub o c) = i :: o
    rw [padd_psub (by simpa using h), show a + (i - a) = i by omega]
  | [], _ :: _, h =>
      by simp at h
  | _ :: _, [], h =>
      by simp at h
theorem psub_of_padd : ∀ {c l : List Int}, c.length = l.length → psub (padd c l) l = c
  | [], [], _ => rfl
  | a :: c, i :: l, h => by
    show (a + i - i) :: psub (padd c l) l = a :: c
    rw [psub_of_padd (by simpa using h), show a + i - i = a by omega]
  | [], _ :: _, h =>
      by simp at h
  | _ :: _, [], h =>
      by simp at h
/-! the numbers -/
def look (kvs : List (List Int × Int)) (c : List Int) : Int := (kvs.lookup c).getD 0
def numAt (T : Tr) (D : List Int) (ls : List (List Int)) (b : List Int) (kvs : List (List Int × Int)) (c : List Int) : Int := ((causesOf T D ls b c).map fun p => look kvs p.1 + p.2).foldl max 1
def numUp (T : Tr) (D : List Int) (ls : List (List Int)) (b : List Int) (kvs : List (List Int × Int)) (c : List Int) : List (List Int × Int) := putI kvs c (numAt T D ls b kvs c)
def numOf (T : Tr) (D : List Int) (ls : List (List Int)) (b : List Int) : List (List Int × Int) := (orderOf T D b).foldl (numUp T D ls b) []
theorem lookup_none {kvs : List (List Int × Int)} {c : List Int} (h : c ∉ kvs.map (·.1)) : kvs.lookup c = none := by
  induction kvs with
  | nil => rfl
  | cons p r ih =>
    rw [List.map_cons, List.mem_cons, not_or] at h
    obtain ⟨a, n⟩ := p
    rw [List.lookup_cons]
    have hb : (c == a) = false := by
      rw [beq_eq_false_iff_ne]
      exact h.1
    rw [hb]
    exact ih h.2
theorem lookup_mem {kvs : List (List Int × Int)} {c : List Int} (h : c ∈ kvs.map (·.1)) : kvs.lookup c = some (look kvs c) := by
  unfold look
  induction kvs with
  | nil => cases h
  | cons p r ih =>
    obtain ⟨a, n⟩ := p
    rw [List.lookup_cons]
    cases hb : c == a with
    | true => rfl
    | false =>
      rw [List.map_cons, List.mem_cons] at h
      rcases h with h | h
      · rw [beq_eq_false_iff_ne] at hb
        exact absurd h hb
      · exact ih h
theorem lookup_app {kvs r : List (List Int × Int)} {c : List Int} (h : c ∈ kvs.map (·.1)) : (kvs ++ r).lookup c = kvs.lookup c := by
  induction kvs with
  | nil => cases h
  | cons p q ih =>
    obtain ⟨a, n⟩ := p
    rw [List.cons_append, List.lookup_cons, List.lookup_cons]
    cases hb : c == a with
    | true => rfl
    | false =>
      rw [List.map_cons, List.mem_cons] at h
      rcases h with h | h
      · rw [beq_eq_false_iff_ne] at hb
        exact absurd h hb
      · exact ih h
theorem lookup_new {kvs : List (List Int × Int)} {c : List Int} {n : Int} (h : c ∉ kvs.map (·.1)) : (kvs ++ [(c, n)]).lookup c = some n := by
  induction kvs with
  | nil =>
    rw [List.nil_append, List.lookup_cons_self]
  | cons p q ih =>
    obtain ⟨a, m⟩ := p
    rw [List.map_cons, List.mem_cons, not_or] at h
    have hb : (c == a) = false := by
      rw [beq_eq_false_iff_ne]
      exact h.1
    rw [List.cons_append, List.lookup_cons, hb]
    exact ih h.2
theorem putI_new {kvs : List (List Int × Int)} {c : List Int} {n : Int} (h : c ∉ kvs.map (·.1)) : putI kvs c n = kvs ++ [(c, n)] := by
  unfold putI
  rw [lookup_none h]
  rfl
section
variable {T : Tr} {D b : List Int} {ls : List (List Int)}
theorem up_spec : ∀ (cs : List (List Int)) (kvs : List (List Int × Int)), (kvs.map (·.1) ++ cs).Nodup → ∃ r, cs.foldl (numUp T D ls b) kvs = kvs ++ r ∧ r.map (·.1) = cs
  | [], kvs, _ => ⟨[], (List.append_nil _).symm, rfl⟩
  | c :: cs, kvs, h => by
    have hc : c ∉ kvs.map (·.1) := fun hm => by
      have := (List.nodup_append.mp h).2.2 c hm c List.mem_cons_self
      exact this rfl
    have e : numUp T D ls b kvs c = kvs ++ [(c, numAt T D ls b kvs c)] := putI_new hc
    rw [List.foldl_cons, e]
    obtain ⟨r, h1, h2⟩ := up_spec cs (kvs ++ [(c, numAt T D ls b kvs c)]) (by
      rw [List.map_append, List.append_assoc]
      exact h)
    exact ⟨(c, numAt T D ls b kvs c) :: r, by rw [h1, List.append_assoc]; rfl, by rw [List.map_cons, h2]⟩
theorem num_keys : (numOf T D ls b).map (·.1) = orderOf T D b := by
  obtain ⟨r, h1, h2⟩ := up_spec (T := T) (D := D) (ls := ls) (b := b) (orderOf T D b) [] (by simpa using order_nodup)
  unfold numOf
  rw [h1, List.nil_append, h2]
/-- the first i of them -/
def numI (T : Tr) (D : List Int) (ls : List (List Int)) (b : List Int) (i : Nat) : List (List Int × Int) := ((orderOf T D b).take i).foldl (numUp T D ls b) []
theorem numI_keys (i : Nat) : (numI T D ls b i).map (·.1) = (orderOf T D b).take i := by
  obtain ⟨r, h1, h2⟩ := up_spec (T := T) (D := D) (ls := ls) (b := b) ((orderOf T D b).take i) [] (by simpa using (order_nodup (T := T) (D := D) (b := b)).sublist (List.take_sublist i _))
  unfold numI
  rw [h1, List.nil_append, h2]
theorem numI_step {i : Nat} {c : List Int} (h : (orderOf T D b)[i]? = some c) : numI T D ls b (i + 1) = putI (numI T D ls b i) c (numAt T D ls b (numI T D ls b i) c) := by
  unfold numI
  rw [List.take_add_one, h, show (some c).toList = [c] from rfl, List.foldl_append]
  rfl
theorem numI_all : numI T D ls b (orderOf T D b).length = numOf T D ls b := by
  unfold numI numOf
  rw [List.take_length]
theorem numI_app (i : Nat) : ∃ r, numOf T D ls b = numI T D ls b i ++ r := by
  obtain ⟨r, h1, _⟩ := up_spec (T := T) (D := D) (ls := ls) (b := b) ((orderOf T D b).drop i) (numI T D ls b i) (by
    rw [numI_keys, List.take_append_drop]
    exact order_nodup)
  refine ⟨r, ?_⟩
  rw [← h1]
  unfold numI numOf
  rw [← List.foldl_append, List.take_append_drop]
abbrev numN (T : Tr) (D : List Int) (ls : List (List Int)) (b c : List Int) : Int := look (numOf T D ls b) c
theorem mem_if {α : Type} {b : Bool} {x y : α} : x ∈ (if b = true then [y] else []) ↔ b = true ∧ x = y := by
  cases b <;> simp
theorem mem_causes {c o : List Int} {st : Int} : (o, st) ∈ causesOf T D ls b c ↔ ∃ l ∈ ls, (o = padd c l ∧ st = 1 ∨ o = psub c l ∧ st = 0) ∧ inBox b o = true ∧ HT.lexLt (full T D o) (full T D c) = true := by
  unfold causesOf
  rw [List.mem_flatMap]
  constructor
  · rintro ⟨l, hl, h⟩
    refine ⟨l, hl, ?_⟩
    rcases
        List.mem_append.mp h with h | h
    · obtain ⟨h1, h2⟩ := mem_if.mp h
      cases h2
      rw [Bool.and_eq_true] at h1
      exact ⟨.inl ⟨rfl, rfl⟩, h1⟩
    · obtain ⟨h1, h2⟩ := mem_if.mp h
      cases h2
      rw [Bool.and_eq_true] at h1
      exact ⟨.inr ⟨rfl, rfl⟩, h1⟩
  · rintro ⟨l, hl, h, h1, h2⟩
    refine ⟨l, hl, List.mem_append.mpr ?_⟩
    rcases h with ⟨rfl, rfl⟩ | ⟨rfl, rfl⟩
    · exact .inl (mem_if.mpr ⟨by rw [h1, h2]; rfl, rfl⟩)
    · exact .inr (mem_if.mpr ⟨by rw [h1, h2]; rfl, rfl⟩)
/-- the looks and the places are of one length -/
structure Fit (D b : List Int) (ls : List (List Int)) : Prop where
  box : b.length = D.length
  looks : ∀ l ∈ ls, l.length = D.length
theorem cause_cell (f : Fit D b ls) {c o : List Int} {st : Int} (hc : c.length = D.length) (h : (o, st) ∈ causesOf T D ls b c) : o ∈ cellsOf b := by
  obtain ⟨l, hl, h1, h2, _⟩ := mem_causes.mp h
  have hll := f.looks l hl
  refine mem_cells.mpr ⟨?_, h2⟩
  rw [f.box]
  rcases h1 with ⟨rfl, _⟩ | ⟨rfl, _⟩
  · exact zw_len _ hc hll
  · exact zw_len _ hc hll
theorem cause_before (f : Fit D b ls) {i : Nat} {c o : List Int} {st : Int} (hi : (orderOf T D b)[i]? = some c) (h : (o, st) ∈ causesOf T D ls b c) : o ∈ (numI T D ls b i).map (·.1) := by
  rw [numI_keys]
  have hc := cellsOf_dim c (order_mem.mp (List.mem_of_getElem? hi))
  obtain ⟨l, hl, _, _, h3⟩ := mem_causes.mp h
  exact order_before hi (cause_cell f (hc.trans f.box) h) h3
theorem numI_look {i : Nat} {c : List Int} (h : c ∈ (numI T D ls b i).map (·.1)) : look (numI T D ls b i) c = numN T D ls b c := by
  obtain ⟨r, e⟩ := numI_app (T := T) (D := D) (ls := ls) (b := b) i
  unfold numN
  rw [e]
  unfold look
  rw [lookup_app h]
theorem num_eq (f : Fit D b ls) {c : List Int} (hc : c ∈ cellsOf b) : numN T D ls b c = numAt T D ls b (numOf T D ls b) c := by
  obtain ⟨i, hi⟩ := List.mem_iff_getElem?.mp (order_mem (T := T) (D := D) |>.mpr hc)
  have hn0 : c ∉ (numI T D ls b i).map (·.1) := by
    rw [numI_keys]
    exact take_nodup order_nodup hi
  have e1 := numI_step (ls := ls) hi
  rw [putI_new hn0] at e1
  have hm : c ∈ (numI T D ls b (i + 1)).map (·.1) := by
    rw [e1, List.map_append]
    exact List.mem_append_right _ List.mem_cons_self
  rw [← numI_look hm]
  have e2 : look (numI T D ls b (i + 1)) c = numAt T D ls b (numI T D ls b i) c := by
    unfold look
    rw [e1, lookup_new hn0]
    rfl
  rw [e2]
  unfold numAt
  congr 1
  refine List.map_congr_left fun p hp0 => ?_
  rw [numI_look (cause_before f hi (o := p.1) (st := p.2) hp0)]
theorem num_pos (f : Fit D b ls) {c : List Int} (hc : c ∈ cellsOf b) : 1 ≤ numN T D ls b c := by
  rw [num_eq f hc]
  exact fmax_ge _ _
theorem num_cause (f : Fit D b ls) {c o : List Int} {st : Int} (hc : c ∈ cellsOf b) (h : (o, st) ∈ causesOf T D ls b c) : numN T D ls b o + st ≤ numN T D ls b c := by
  rw [num_eq f hc]
  exact fmax_mem_ge _ _ _ (List.mem_map.mpr ⟨(o, st), h, rfl⟩)
theorem num_from (f : Fit D b ls) {c : List Int} (hc : c ∈ cellsOf b) (h : 1 < numN T D ls b c) : ∃ p ∈ causesOf T D ls b c, numN T D ls b p.1 + p.2 = numN T D ls b c := by
  have e := num_eq (T := T) f hc
  unfold numAt at e
  rcases fmax_mem ((causesOf T D ls b c).map fun p => look (numOf T D ls b) p.1 + p.2) 1 with q | q
  · rw [q] at e
    rw [e] at h
    exact absurd h (by omega)
  · rw [← e] at q
    obtain ⟨p, hp0, q⟩ := List.mem_map.mp q
    exact ⟨p, hp0, q⟩
theorem num_lookup {c : List Int} (hc : c ∈ cellsOf b) : (numOf T D ls b).lookup c = some (numN T D ls b c) := lookup_mem (by rw [num_keys]; exact order_mem.mpr hc)
/-- a pair of keys without doubles -/
theorem look_of_mem : ∀ {kvs : List (List Int × Int)} {p : List Int × Int}, (kvs.map (·.1)).Nodup → p ∈ kvs → look kvs p.1 = p.2
  | q :: r, p, hn0, h => by
    obtain ⟨a, n⟩ := q
    rw [List.map_cons, List.nodup_cons] at hn0
    unfold look
    rw [List.lookup_cons]
    rcases List.mem_cons.mp h with rfl | hbb
    · have : ((a == a) : Bool) = true := by simp
      rw [this]
      rfl
    · have hb : (p.1 == a) = false := by
        rw [beq_eq_false_iff_ne]
        rintro rfl
        exact hn0.1 (List.mem_map.mpr ⟨p, hbb, rfl⟩)
      rw [hb]
      exact look_of_mem hn0.2 hbb
theorem num_vals {n : Int} : n ∈ (numOf T D ls b).map (·.2) ↔ ∃ c ∈ cellsOf b, n = numN T D ls b c := by
  have nd : ((numOf T D ls b).map (·.1)).Nodup := by rw [num_keys]; exact order_nodup
  constructor
  · intro h
    obtain ⟨p, hp0, rfl⟩ := List.mem_map.mp h
    have hk : p.1 ∈ (numOf T D ls b).map (·.1) := List.mem_map.mpr ⟨p, hp0, rfl⟩
    rw [num_keys] at hk
    exact ⟨p.1, order_mem.mp hk, (look_of_mem nd hp0).symm⟩
  · rintro ⟨c, hc, rfl⟩
    have hk : c ∈ (numOf T D ls b).map (·.1) := by rw [num_keys]; exact order_mem.mpr hc
    obtain ⟨p, hp0, rfl⟩ := List.mem_map.mp hk
    exact List.mem_map.mpr ⟨p, hp0, (look_of_mem nd hp0).symm⟩
/-- how many waves -/
def topN (T : Tr) (D : List Int) (ls : List (List Int)) (b : List Int) : Int := ((numOf T D ls b).map (·.2)).foldl max 0
theorem top_nonneg : 0 ≤ topN T D ls b := fmax_ge _ _
theorem num_le {c : List Int} (hc : c ∈ cellsOf b) : numN T D ls b c ≤ topN T D ls b := fmax_mem_ge _ _ _ (num_vals.mpr ⟨c, hc, rfl⟩)
theorem top_at (f : Fit D b ls) (h : cellsOf b ≠ []) : ∃ c ∈ cellsOf b, numN T D ls b c = topN T D ls b := by
  obtain ⟨c, hc⟩ := List.exists_mem_of_ne_nil _ h
  rcases fmax_mem ((numOf T D ls b).map (·.2)) 0 with q | q
  · have h1 := num_pos (T := T) f hc
    have h2 := num_le (T := T) (D := D) (ls := ls) hc
    unfold topN at h2
    omega
  · obtain ⟨c, hc, e⟩ := num_vals.mp q
    exact ⟨c, hc, e.symm⟩
theorem top_empty (h : cellsOf b = []) : topN T D ls b = 0 := by
  have e : (numOf T D ls b).map (·.2) = [] := List.eq_nil_iff_forall_not_mem.mpr fun n hn0 => by
    obtain ⟨c, hc, _⟩ := num_vals.mp hn0
    rw [h] at hc
    cases hc
  unfold topN
  rw [e]
  rfl
end
end Lk
/-! Ch: the waves and the chain: plain. -/
namespace Lk
open PySem PySem.Spec PyProof.Rows L2 Ly
def wavesOf (T : Tr) (D : List Int) (ls : List (List Int)) (b : List Int) : List (List (List Int)) := (List.range (topN T D ls b).toNat).map fun (k : Nat) => (cellsOf b).filter fun c => decide (numN T D ls b c = (k : Int) + 1)
def chainFrom (T : Tr) (D : List Int) (ls : List (List Int)) (b : List Int) : Nat → List Int → List (List Int) → List (List Int)
  | 0, _, acc => acc
  | n + 1, h, acc => if 1 < numN T D ls b h then
      match (causesOf T D ls b h).filter fun p => decide (numN T D ls b p.1 + p.2 = numN T D ls b h) with
      | [] => acc
      | p :: _ => chainFrom T D ls b n p.1 (p.1 :: acc)
    else acc
def chainOf (T : Tr) (D : List Int) (ls : List (List Int)) (b : List Int) : List (List Int) :=
  match (cellsOf b).filter fun c => decide (numN T D ls b c = topN T D ls b) with
  | [] => []
  | h :: _ => chainFrom T D ls b (cellsOf b).length h [h]
section
variable {T : Tr} {D b : List Int} {ls : List (List Int)}
def Lnk (T : Tr) (D : List Int) (ls : List (List Int)) (b p q : List Int) : Prop := ∃ st, (p, st) ∈ causesOf T D ls b q ∧ numN T D ls b p + st = numN T D ls b q
theorem pairs_cons (x y : List Int) (r : List (List Int)) : pairsOf' (x :: y :: r) = (x, y) :: pairsOf' (y :: r) := rfl
structure ChInv (T : Tr) (D : List Int) (ls : List (List Int)) (b h : List Int) (r : List (List Int)) : Prop where
  cells : ∀ c ∈ h :: r, c ∈ cellsOf b
  link : ∀ p ∈ pairsOf' (h :: r), Lnk T D ls b p.1 p.2
  sum : numN T D ls b h + (stepsOf ls (h :: r) : Nat) = topN T D ls b
/-- a step is strict just where the look says so -/
theorem strict_iff (f : Fit D b ls) {p q : List Int} {st : Int} (hq : q ∈ cellsOf b) (h : (p, st) ∈ causesOf T D ls b q) (e : numN T D ls b p + st = numN T D ls b q) : st = if psub p q ∈ ls then 1 else 0 := by
  have lq := (cellsOf_dim q hq).trans f.box
  have hp0 := cause_cell f lq h
  have lp := (cellsOf_dim p hp0).trans f.box
  obtain ⟨l, hl, h1, h2, h3⟩ := mem_causes.mp h
  have ll := f.looks l hl
  rcases h1 with ⟨rfl, rfl⟩ | ⟨rfl, rfl⟩
  · rw [psub_padd (lq.trans ll.symm), if_pos hl]
  · by_cases hm : psub (psub q l) q ∈ ls
    · exfalso
      have z : (psub q l, (1 : Int)) ∈ causesOf T D ls b q := mem_causes.mpr ⟨_, hm, .inl ⟨(padd_psub (lq.trans lp.symm)).symm, rfl⟩, h2, h3⟩
      have := num_cause f hq z
      omega
    · rw [if_neg hm]
theorem chain_step (f : Fit D b ls) {n i : Nat} {h : List Int} {r : List (List Int)} (c : ChInv T D ls b h r) (hi : (orderOf T D b)[i]? = some h) (hin : i < n + 1) (hN : 1 < numN T D ls b h) :
    ∃ o st rest, ((causesOf T D ls b h).filter fun p => decide (numN T D ls b p.1 + p.2 = numN T D ls b h)) = (o, st) :: rest ∧ ChInv T D ls b o (h :: r) ∧ (∃ j, (orderOf T D b)[j]? = some o ∧ j < n) ∧ chainFrom T D ls b (n + 1) h (h :: r) = chainFrom T D ls b n o (o :: h :: r) := by
  have hh := c.cells h List.mem_cons_self
  obtain ⟨p, hp0, e⟩ := num_from (T := T) f hh hN
  have hm : p ∈ (causesOf T D ls b h).filter fun p => decide (numN T D ls b p.1 + p.2 = numN T D ls b h) := List.mem_filter.mpr ⟨hp0, decide_eq_true e⟩
  cases q : (causesOf T D ls b h).filter fun p => decide (numN T D ls b p.1 + p.2 = numN T D ls b h) with
  | nil =>
    rw [q] at hm
    cases hm
  | cons x rest =>
    obtain ⟨o, st⟩ := x
    have ho : (o, st) ∈ (causesOf T D ls b h).filter fun p => decide (numN T D ls b p.1 + p.2 = numN T D ls b h) := by
      rw [q]
      exact List.mem_cons_self
    obtain ⟨h1, h2⟩ := List.mem_filter.mp ho
    have h2 : numN T D ls b o + st = numN T D ls b h := of_decide_eq_true h2
    have lh := (cellsOf_dim h hh).trans f.box
    have hs := strict_iff f hh h1 h2
    refine ⟨o, st, rest, rfl, ⟨fun x hx => ?_, fun p hp0 => ?_, ?_⟩, ?_, ?_⟩
    · rcases List.mem_cons.mp hx with rfl | hx
      · exact cause_cell f lh h1
      · exact c.cells x hx
    · rw [pairs_cons] at hp0
      rcases List.mem_cons.mp hp0 with rfl | hp0
      · exact ⟨st, h1, h2⟩
      · exact c.link p hp0
    · have z : (stepsOf ls (o :: h :: r) : Nat) = (if psub o h ∈ ls then 1 else 0) + stepsOf ls (h :: r) := by
        unfold stepsOf
        rw [pairs_cons, List.filter_cons]
        by_cases m : psub o h ∈ ls
        · rw [if_pos (decide_eq_true m), if_pos m, List.length_cons, Nat.add_comm]
        · rw [if_neg (by rw [decide_eq_false m]; exact Bool.false_ne_true), if_neg m, Nat.zero_add]
      rw [z]
      have s := c.sum
      rw [← s, ← h2]
      by_cases m : psub o h ∈ ls
      · rw [if_pos m] at hs
        rw [if_pos m, Int.natCast_add, hs]
        show _ + (((1 : Nat) : Int) + _) = _
        omega
      · rw [if_neg m] at hs
        rw [if_neg m, Int.natCast_add, hs]
        show _ + (((0 : Nat) : Int) + _) = _
        omega
    · obtain ⟨l, hl, _, _, h3⟩ := mem_causes.mp h1
      obtain ⟨j, hj, e⟩ := List.mem_take_iff_getElem.mp (order_before hi (cause_cell f lh h1) h3)
      have hj' := Nat.lt_min.mp hj
      exact ⟨j, by rw [List.getElem?_eq_getElem hj'.2, e], by omega⟩
    · rw [chainFrom, if_pos hN, q]
theorem chain_stop {n : Nat} {h : List Int} {acc : List (List Int)} (hN : ¬ 1 < numN T D ls b h) : chainFrom T D ls b (n + 1) h acc = acc := by
  rw [chainFrom, if_neg hN]
theorem chain_ok (f : Fit D b ls) : ∀ (n i : Nat) (h : List Int) (r : List (List Int)), ChInv T D ls b h r → (orderOf T D b)[i]? = some h → i < n → ∃ h' r', chainFrom T D ls b n h (h :: r) = h' :: r' ∧ ChInv T D ls b h' r' ∧ numN T D ls b h' = 1
  | 0, _, _, _, _, _, hi => absurd hi (Nat.not_lt_zero _)
  | n + 1, i, h, r, c, ho, hi => by
    by_cases hN : 1 < numN T D ls b h
    · obtain ⟨o, st, rest, _, c2, ⟨j, hj, hjn⟩, e⟩ := chain_step f c ho hi hN
      rw [e]
      exact chain_ok f n j o (h :: r) c2 hj hjn
    · rw [chain_stop hN]
      have := num_pos (T := T) f (c.cells h List.mem_cons_self)
      exact ⟨h, r, rfl, c, by omega⟩
/-- the place that the chain ends at -/
theorem last_at (f : Fit D b ls) (hc : cellsOf b ≠ []) : ∃ h rest i, ((cellsOf b).filter fun c => decide (numN T D ls b c = topN T D ls b)) = h :: rest ∧ ChInv T D ls b h [] ∧ (orderOf T D b)[i]? = some h ∧ i < (cellsOf b).length := by
  obtain ⟨c, hc, e⟩ := top_at (T := T) f hc
  have hm : c ∈ (cellsOf b).filter fun c => decide (numN T D ls b c = topN T D ls b) := List.mem_filter.mpr ⟨hc, decide_eq_true e⟩
  cases q : (cellsOf b).filter fun c => decide (numN T D ls b c = topN T D ls b) with
  | nil =>
    rw [q] at hm
    cases hm
  | cons h rest =>
    have ho : h ∈ (cellsOf b).filter fun c => decide (numN T D ls b c = topN T D ls b) := by
      rw [q]
      exact List.mem_cons_self
    obtain ⟨h1, h2⟩ := List.mem_filter.mp ho
    have h2 := of_decide_eq_true h2
    obtain ⟨i, hi⟩ := List.mem_iff_getElem?.mp (order_mem (T := T) (D := D) |>.mpr h1)
    refine ⟨h, rest, i, rfl, ⟨fun x hx => ?_, fun p hp0 => ?_, ?_⟩, hi, ?_⟩
    · rw [List.mem_singleton] at hx
      subst hx
      exact h1
    · cases hp0
    · show numN T D ls b h + ((0 : Nat) : Int) = _
      rw [h2]
      omega
    · have := (List.getElem?_eq_some_iff.mp hi).1
      rw [order_perm.length_eq] at this
      exact this
theorem chain_some (f : Fit D b ls) (hc : cellsOf b ≠ []) : ∃ h r, chainOf T D ls b = h :: r ∧ ChInv T D ls b h r ∧ numN T D ls b h = 1 := by
  obtain ⟨h, rest, i, e, c, hi, hl⟩ := last_at (T := T) f hc
  unfold chainOf
  rw [e]
  exact chain_ok f _ i h [] c hi hl
theorem chain_none (hc : cellsOf b = []) : chainOf T D ls b = [] := by
  unfold chainOf
  rw [hc]
  rfl
/-- the chain's law -/
theorem chain_cells (f : Fit D b ls) : ∀ c ∈ chainOf T D ls b, c ∈ cellsOf b := by
  by_cases hc : cellsOf b = []
  · rw [chain_none hc]
    exact fun c h => nomatch h
  · obtain ⟨h, r, e, c, _⟩ := chain_some (T := T) f hc
    rw [e]
    exact c.cells
theorem chain_pairs (f : Fit D b ls) {p : List Int × List Int} (hp0 : p ∈ pairsOf' (chainOf T D ls b)) : HT.lexLt (full T D p.1) (full T D p.2) = true ∧ (psub p.1 p.2 ∈ ls ∨ psub p.2 p.1 ∈ ls) := by
  by_cases hc : cellsOf b = []
  · rw [chain_none hc] at hp0
    cases hp0
  · obtain ⟨h, r, e, c, _⟩ := chain_some (T := T) f hc
    rw [e] at hp0
    obtain ⟨st, h1, h2⟩ := c.link p hp0
    have hq : p.2 ∈ cellsOf b := c.cells _ (List.mem_of_mem_tail (List.of_mem_zip (a := p.1) (b := p.2) hp0).2)
    have lq := (cellsOf_dim _ hq).trans f.box
    obtain ⟨l, hl, h3, _, h4⟩ := mem_causes.mp h1
    refine ⟨h4, ?_⟩
    have ll := f.looks l hl
    rcases h3 with ⟨e1, _⟩ | ⟨e1, _⟩
    · left
      rw [e1, psub_padd (lq.trans ll.symm)]
      exact hl
    · right
      rw [e1, psub_psub (lq.trans ll.symm)]
      exact hl
theorem chain_empty (f : Fit D b ls) : chainOf T D ls b = [] ↔ topN T D ls b = 0 := by
  by_cases hc : cellsOf b = []
  · simp [chain_none hc, top_empty hc]
  · obtain ⟨h, r, e, c, e1⟩ := chain_some (T := T) f hc
    rw [e]
    have := c.sum
    constructor
    · intro z
      cases z
    · intro z
      omega
theorem chain_steps (f : Fit D b ls) : cwOf ls (chainOf T D ls b) = topN T D ls b := by
  unfold cwOf
  by_cases hc : cellsOf b = []
  · rw [chain_none hc, top_empty hc]
    rfl
  · obtain ⟨h, r, e, c, e1⟩ := chain_some (T := T) f hc
    rw [e, if_neg (List.cons_ne_nil _ _)]
    have := c.sum
    rw [e1] at this
    exact this
/-! the waves -/
theorem waves_len : ((wavesOf T D ls b).length : Int) = topN T D ls b := by
  unfold wavesOf
  rw [List.length_map, List.length_range, Int.toNat_of_nonneg top_nonneg]
theorem waves_at {k : Nat} {wv : List (List Int)} (h : (wavesOf T D ls b)[k]? = some wv) {c : List Int} : c ∈ wv ↔ c ∈ cellsOf b ∧ numN T D ls b c = (k : Int) + 1 := by
  unfold wavesOf at h
  rw [List.getElem?_map] at h
  cases q : (List.range (topN T D ls b).toNat)[k]? with
  | none => rw [q] at h; cases h
  | some j =>
    rw [q] at h
    have hk := (List.getElem?_eq_some_iff.mp q)
    obtain ⟨hk1, hk2⟩ := hk
    rw [List.getElem_range] at hk2
    subst hk2
    have e := Option.some.inj h
    rw [← e, List.mem_filter, decide_eq_true_eq]
def flatW (ws : List (List (List Int))) : List (List Int × Int) := ws.zipIdx.flatMap fun p => p.1.map fun c => (c, (p.2 : Int))
theorem flatW_keys (ws : List (List (List Int))) : (flatW ws).map (·.1) = ws.flatten := by
  have key : ∀ (ws : List (List (List Int))) (k : Nat), ((ws.zipIdx k).flatMap fun p => p.1.map fun c => (c, (p.2 : Int))).map (·.1) = ws.flatten := fun ws => by
    induction ws with
    | nil => intro k; rfl
    | cons a r ih =>
      intro k
      rw [List.zipIdx_cons, List.flatMap_cons, List.map_append, ih, List.flatten_cons, List.map_map]
      congr 1
      exact List.map_id' _
  exact key ws 0
theorem flatW_mem {ws : List (List (List Int))} {c : List Int} {k : Int} : (c, k) ∈ flatW ws ↔ ∃ (j : Nat) (wv : List (List Int)), ws[j]? = some wv ∧ c ∈ wv ∧ k = j := by
  unfold flatW
  rw [List.mem_flatMap]
  constructor
  · rintro ⟨⟨wv, j⟩, h, hc⟩
    obtain ⟨d, hd, e⟩ := List.mem_map.mp hc
    cases e
    exact ⟨j, wv, List.mem_zipIdx_iff_getElem?.mp h, hd, rfl⟩
  · rintro ⟨j, wv, h, hc, rfl⟩
    exact ⟨(wv, j), List.mem_zipIdx_iff_getElem?.mpr h, List.mem_map.mpr ⟨c, hc, rfl⟩⟩
theorem flat_nodup : (wavesOf T D ls b).flatten.Nodup := by
  refine List.pairwise_flatten.mpr ⟨fun wv hw => ?_, ?_⟩
  · unfold wavesOf at hw
    obtain ⟨k, _, rfl⟩ := List.mem_map.mp hw
    exact (cells_nodup b).filter _
  · unfold wavesOf
    refine List.pairwise_map.mpr (List.Pairwise.imp (fun {i j} (h : i < j) => ?_) List.pairwise_lt_range)
    intro x hx y hy e
    subst e
    have h1 := of_decide_eq_true (List.mem_filter.mp hx).2
    have h2 := of_decide_eq_true (List.mem_filter.mp hy).2
    omega
theorem flat_mem (f : Fit D b ls) {c : List Int} : c ∈ (wavesOf T D ls b).flatten ↔ c ∈ cellsOf b := by
  rw [List.mem_flatten]
  constructor
  · rintro ⟨wv, hw, hc⟩
    obtain ⟨k, hk⟩ := List.mem_iff_getElem?.mp hw
    exact ((waves_at hk).mp hc).1
  · intro hc
    have h1 := num_pos (T := T) f hc
    have h2 := num_le (T := T) (D := D) (ls := ls) hc
    have hlt : (numN T D ls b c - 1).toNat < (wavesOf T D ls b).length := by
      have := waves_len (T := T) (D := D) (ls := ls) (b := b)
      omega
    refine ⟨_, List.getElem_mem hlt, (waves_at (List.getElem?_eq_getElem hlt)).mpr ⟨hc, by omega⟩⟩
theorem flat_perm (f : Fit D b ls) : (wavesOf T D ls b).flatten.Perm (cellsOf b) := (List.perm_ext_iff_of_nodup flat_nodup (cells_nodup b)).mpr fun c => flat_mem f
theorem flat_look (f : Fit D b ls) {c : List Int} (hc : c ∈ cellsOf b) : look (flatW (wavesOf T D ls b)) c = numN T D ls b c - 1 := by
  have hk : c ∈ (flatW (wavesOf T D ls b)).map (·.1) := by
    rw [flatW_keys]
    exact (flat_mem f).mpr hc
  obtain ⟨⟨c', k⟩, hp0, rfl⟩ := List.mem_map.mp hk
  rw [look_of_mem (by rw [flatW_keys]; exact flat_nodup) hp0]
  obtain ⟨j, wv, h1, h2, rfl⟩ := flatW_mem.mp hp0
  have := ((waves_at h1).mp h2).2
  show (j : Int) = numN T D ls b c' - 1
  omega
/-- the sorted places -/
theorem srtd_cells {l : List (List Int)} (h : l.Perm (cellsOf b)) : srtd (l.map pI) = (cellsOf b).map pI := by
  have e : srtd (l.map pI) = (l.mergeSort fun x y => !HT.lexLt y x).map pI := by
    unfold srtd
    refine (List.map_mergeSort fun x hx y hy => ?_).symm
    show (!HT.lexLt y x) = !PySem.W.dataLt (pI y) (pI x)
    rw [dataLt_pI]
  rw [e]
  congr 1
  have tr : ∀ x y z : List Int, (!HT.lexLt y x) = true → (!HT.lexLt z y) = true → (!HT.lexLt z x) = true := fun x y z h1 h2 => by
    rw [Bool.not_eq_true'] at *
    exact lexLt_neg h1 h2
  have to : ∀ x y : List Int, ((!HT.lexLt y x) || !HT.lexLt x y) = true := fun x y => by
    cases h : HT.lexLt y x with
    | false => rfl
    | true => rw [lexLt_asym h]; rfl
  have s1 := List.pairwise_mergeSort (le := fun x y : List Int => !HT.lexLt y x) tr to l
  have s2 : (cellsOf b).Pairwise fun x y : List Int => (!HT.lexLt y x) = true := (cells_pw b).imp fun {x y} h => by rw [lexLt_asym h]; rfl
  refine List.Perm.eq_of_pairwise (fun x y _ _ h1 h2 => ?_) s1 s2 ((List.mergeSort_perm _ _).trans h)
  rw [Bool.not_eq_true'] at h1 h2
  exact lexLt_total h2 h1
/-- what each place sees in its wave -/
theorem sees (f : Fit D b ls) (hz : ∀ l ∈ ls, l ≠ List.replicate D.length 0) {c l : List Int} (hc : c ∈ cellsOf b) (hl : l ∈ ls) (hb : inBox b (padd c l) = true) : decide (numN T D ls b (padd c l) < numN T D ls b c) = HT.lexLt (full T D (padd c l)) (full T D c) := by
  have lc := (cellsOf_dim c hc).trans f.box
  have ll := f.looks l hl
  have lp : (padd c l).length = D.length := zw_len _ lc ll
  have hp0 : padd c l ∈ cellsOf b := mem_cells.mpr ⟨lp.trans f.box.symm, hb⟩
  cases q : HT.lexLt (full T D (padd c l)) (full T D c) with
  | true =>
    have := num_cause (T := T) f hc (mem_causes.mpr ⟨l, hl, .inl ⟨rfl, rfl⟩, hb, q⟩)
    exact
        decide_eq_true (by omega)
  | false =>
    have q2 : HT.lexLt (full T D c) (full T D (padd c l)) = true := by
      cases q2 : HT.lexLt (full T D c) (full T D (padd c l)) with
      | true => rfl
      | false =>
        exfalso
        have e := full_inj (lp.trans lc.symm) (lexLt_total q q2)
        have e2 := psub_padd (lc.trans ll.symm)
        rw [e] at e2
        refine hz l hl ?_
        rw [← e2, ← lc]
        have z : ∀ c : List Int, psub c c = List.replicate c.length 0 := fun c => by
          induction c with
          | nil => rfl
          | cons a r ih =>
            show (a - a) :: psub r r = 0 :: List.replicate r.length 0
            rw [ih, Int.sub_self]
        exact z c
    have := num_cause (T := T) f hp0 (mem_causes.mpr ⟨l, hl, .inr ⟨(psub_of_padd (lc.trans ll.symm)).symm, rfl⟩, (mem_cells.mp hc).2, q2⟩)
    exact
        decide_eq_false (by omega)
end
end Lk
namespace Lk
open PySem PySem.Spec PyProof.Rows L2 Ly
section
variable {P : Program} {w : World} {K : PySem.W.Frag} {mg : Str → Option Value} {base : Heap} {C aL : Addr}
def R_order : List Ly.Ty → Ly.Ty → Prop := fun as t => ∃ T D b h, as = [.sc D T.toD, dI b] ∧ h ≤ 10 ∧ OkDiv D ∧ Wf D.length (vol D).toNat h T ∧ OkBox D.length b ∧ t = .tl ((orderOf T D b).map pI)
abbrev s_numbered : Stmt := topS 35
abbrev N_numbered : List Str := ["scan", "looks", "box", "found", "cell", "other", "step"]
theorem sc_numbered : FnScope N_numbered ["scan", "looks", "box"] (defScope s_numbered) := ⟨rfl, rfl, rfl, by decide +kernel, rfl, by decide +kernel, by decide +kernel⟩
def R_numbered : List Ly.Ty → Ly.Ty → Prop := fun as t => ∃ T D ls b h k, as = [.sc D T.toD, .dat (seqOf k (ls.map pI)), dI b] ∧ h ≤ 10 ∧ OkDiv D ∧ Wf D.length (vol D).toNat h T ∧ OkLooks D.length ls ∧ OkBox D.length b ∧ t = .dc (numOf T D ls b)
theorem fit_of {D b : List Int} {ls : List (List Int)} (okL : OkLooks D.length ls) (okB : OkBox D.length b) : Fit D b ls := ⟨okB.len, fun l hl => (okL.each l hl).1⟩
theorem cells_le {n : Nat} {b : List Int} (ok : OkBox n b) : (cellsOf b).length ≤ 2000 := by
  have h1 := cells_vol fun i hi => (ok.each i hi).1
  have h2 := ok.vol
  omega
theorem order_len {T : Tr} {D b : List Int} : (orderOf T D b).length = (cellsOf b).length := order_perm.length_eq
theorem ok_numbered {f : Addr} {fd : FuncData} (F : Fun K "numbered" "numbered" s_numbered f fd) (T : Tx K mg aL) (S : Sk K C) (c_order : CalM P w K mg base C 8 "order" ["self", "box"] (FnD K C R_order)) (c_causes : Cal P w K mg base 5 "causes" ["scan", "looks", "box", "cell"] (FnD K C R_causes)) : FnOk P w K mg base CX0 9 f fd ["scan", "looks", "box"] (FnD K C R_numbered) := by
  have nd := (sc_numbered).nd
  refine ok_ofM F sc_numbered (fun as t ⟨T, D, ls, b, h, k, e, _⟩ => by subst e; rfl) fun cdv A outer s H E hr => ?_
  refine ⟨_, (pss_cons (ps_set (i := 3) nd rfl (Or.inr rfl) pe_dnewT)
      (pss_cons (ps_for PassesOwn.never rfl (kSeq K (pe_calM c_order S.cls (pv 0) (hr.mono (by decide)) (pa_cons (pv 2) pa_nil))) (pg_name (i := 4) nd rfl (Or.inl rfl)) (pss_one (ps_dput (hu_of hr) (pv 3) (pv 4) (pe_callB (kMax K rfl) (by rfl) T.n_max boot_max (pa_cons (pe_op (kAdd K) (pe_lst (pa_cons pe_int pa_nil)) (pe_lc (own := [("other", 5), ("step", 6)]) (g := gTup K 2 (gCons (gName 5) (gCons (gName 6) (gNil)))) (tt := tYes) rfl nd (kSeq K (pe_cal c_causes (hr.mono (by decide)) (pa_cons (pv 0) (pa_cons (pv 1) (pa_cons (pv 2) (pa_cons (pv 4) pa_nil)))))) (blkOk_by (N := N_numbered) (sc := defScope s_numbered) (by decide +kernel)) (fun _ _ _ _ _ => (kPair K rfl (pgs_cons (pg_name (i := 5) nd rfl (Or.inl rfl)) (pgs_cons (pg_name (i := 6) nd rfl (Or.inl rfl)) pgs_nil)))) (fun _ _ _ _ _ => pts_nil) (fun _ _ _ _ _ => (pe_op (kAdd K) (pe_dget (hu_of hr) (pv 3) (pv 5) (fun _ _ => rfl)) (pv 6))))) pa_nil)) rfl)))
      (pss_one (ps_ret (pv 3))))),
      ?_⟩
  rintro as t ⟨T0, D, ls, b, h, k, rfl, hh, okD, wf, okL, okB, rfl⟩
  have fit := fit_of okL okB
  let sc : Ly.Ty := .sc D T0.toD
  refine sm_ownD fun p => ?_
  refine sm_seq (M := fun Γ O => ∃ x y z, Γ = [some sc, some (.dat (seqOf k (ls.map pI))), some (dI b), some (.own p), x, y, z] ∧ O = [dicR p (numOf T0 D ls b)]) (sm_forD (as := orderOf T0 D b) (iv_of_map (g := pI) (ty := Ly.Ty.dat) (iv_L (ev_dat (ev_calM (ev_var rfl) (ea_cons (ev_var rfl) ea_nil) ⟨T0, D, b, h, rfl, hh, okD, wf, okB, rfl⟩ fun _ _ _ _ => rfl))))
    (fun i Γ O => ∃ x y z, Γ = [some sc, some (.dat (seqOf k (ls.map pI))), some (dI b), some (.own p), x, y, z] ∧ O = [dicR p (numI T0 D ls b i)]) ⟨none, none, none, rfl, rfl⟩ ?_ ?_) ?_
  · rintro i c _ _ ha ⟨x, y, z, rfl, rfl⟩
    have hc : c ∈ cellsOf b := order_mem.mp (List.mem_of_getElem? ha)
    have hcl := (cellsOf_dim c hc).trans okB.len
    refine ⟨_, [4], tg_name (by decide), ?_⟩
    have hz : (numI T0 D ls b i).length ≤ 100000 := by
      have h1 := congrArg List.length (numI_keys (T := T0) (D := D) (ls := ls) (b := b) i)
      rw [List.length_map] at h1
      have h2 := List.length_take_le' i (orderOf T0 D b)
      have h3 := cells_le okB
      rw [order_len] at h2
      omega
    have hcz : (causesOf T0 D ls b c).length ≤ 100000 := by
      have h1 := causes_len T0 D ls b c
      have h2 := okL.most
      omega
    refine sm_weak (sm_dput (kvs := numI T0 D ls b i) (l := c) (n := numAt T0 D ls b (numI T0 D ls b i) c) (j := 0) rfl rfl (es_vis (i := 3) (j := 0) rfl rfl looks_dic ?_ rfl) (ev_var rfl) hz) (fun Γ O ⟨e1, e2⟩ => ⟨_, _, _, e1, ?_⟩) fun _ _ h => h
    · refine ev_max (l := 1 :: (causesOf T0 D ls b c).map fun p => look (numI T0 D ls b i) p.1 + p.2) (ev_dat (ev_is (ev_catL (ev_lst (ts := [nI 1]) (ea_cons ev_int ea_nil) rfl (Nat.le_of_ble_eq_true rfl)) (ev_mapP0 (as := causesOf T0 D ls b c) (d1 := fun p => pI p.1) (d2 := fun p => .int p.2) (f := fun p => .int (look (numI T0 D ls b i) p.1 + p.2)) (iv_of_map (g := pD) (ty := Ly.Ty.dat) (iv_L (ev_dat (ev_call (ea_cons (ev_var rfl) (ea_cons (ev_var rfl) (ea_cons (ev_var rfl) (ea_cons (ev_var rfl) ea_nil)))) ⟨T0, D, ls, b, c, h, k, rfl, hh, okD, wf, okL, okB, hcl, rfl⟩)))) hcz (by decide) (by decide) fun q hq => ?_) ?_) ?_)) ?_ ?_
      · exact ev_addI (ev_dget (kvs := numI T0 D ls b i) (l := q.1) (ev_var rfl) (ev_var rfl) (lookup_mem (cause_before fit ha (o := q.1) (st := q.2) hq))) (ev_var rfl)
      · rw [List.length_map]
        show 1 + (causesOf T0 D ls b c).length ≤ 100000
        have h1 := causes_len T0 D ls b c
        have h2 := okL.most
        omega
      · rw [List.map_cons, List.map_map]
        rfl
      · unfold numAt
        rcases fmax_mem ((causesOf T0 D ls b c).map fun p => look (numI T0 D ls b i) p.1 + p.2) 1 with q | q
        · rw [q]
          exact List.mem_cons_self
        · exact List.mem_cons_of_mem _ q
      · intro y hy0
        unfold numAt
        rcases List.mem_cons.mp hy0 with rfl | hy0
        · exact fmax_ge _ _
        · exact fmax_mem_ge _ _ _ hy0
    · rw [e2, numI_step ha]
      rfl
  · rintro _ _ ⟨x, y, z, rfl, rfl⟩
    rw [numI_all]
    exact ⟨_, _, _, rfl, rfl⟩
  · rintro _ _ ⟨x, y, z, rfl, rfl⟩
    exact sm_frz (i := 3) rfl looks_dic rfl (sm_ret (ev_var rfl) rfl)
end
end Lk
/-! Gr: a list of lists of one's own. -/
namespace Ly
open PySem PySem.Spec
open PyProof.Rows L2
/-- the head of one's own things, told anew -/
theorem own_re {r r' : Res} {O : Ow} {W W' : Wd} (h : Own (r :: O) W) (hF : W'.F = W.F) (hk : ∀ a o, W.H a = some o → a ∉ r.ps → W'.H a = some o) (hd : ∀ a, W'.H a = none → W.H a = none) (hp : ∀ a ∈ r'.ps, a ∈ r.ps ∨ W.H a = none) (ok' : r'.ok W'.F W'.H) :
    Own (r' :: O) W' ∧ Go (r :: O) W (r' :: O) W' := by
  have ap := List.pairwise_cons.mp (show ((r :: O).map Res.ps).Pairwise _ from h.apart)
  have far : ∀ q ∈ O, ∀ x ∈ q.ps, x ∉ r.ps := fun q hq00 x hx hr => ap.1 q.ps (List.mem_map.mpr ⟨q, hq00, rfl⟩) x hr hx
  refine ⟨⟨fun q hq00 => ?_, fun a d => ?_, ?_⟩, ⟨by rw [hF]; exact Same.refl _, hd, fun a o e => .inl (by rw [← hF]; exact e), fun a o e nd => hk a o e fun m => nd (dom_cons.mpr (.inl m)), fun a d => ?_⟩⟩
  · rcases List.mem_cons.mp hq00 with rfl | hq00
    · exact ok'
    · exact q.mono (h.ok q (List.mem_cons_of_mem _ hq00)) (by rw [hF]; exact Same.refl _) fun x hx o e => hk x o e (far q hq00 x hx)
  · rw [hF]
    rcases dom_cons.mp d with d | d
    · rcases hp a d with d | d
      · exact h.nf a (dom_cons.mpr (.inl d))
      · exact wd_none d
    · exact h.nf a (dom_cons.mpr (.inr d))
  · rw [List.map_cons]
    refine List.pairwise_cons.mpr ⟨fun b hb0 x hx hxb => ?_, ap.2⟩
    obtain ⟨q, hq00, rfl⟩ := List.mem_map.mp hb0
    rcases hp x hx with d | d
    · exact far q hq00 x hxb d
    · obtain ⟨o', e, _⟩ := h.at_ (a := x) ⟨q, List.mem_cons_of_mem _ hq00, hxb⟩
      rw [d] at e
      cases e
  · rcases dom_cons.mp d with d | d
    · rcases hp a d with d | d
      · exact .inl (dom_cons.mpr (.inl d))
      · exact .inr d
    · exact .inl (dom_cons.mpr (.inr d))
section
variable (K : PySem.W.Frag) (C : Addr)
/-- rows of a grid -/
inductive RowsAt (F H : Hp) : List Addr → List (List PyData) → Prop
  | nil : RowsAt F H [] []
  | cons {q : Addr} {qs : List Addr} {xs : List V} {ds : List PyData} {rs : List (List PyData)} : H q = some (.lst xs) → DtAll K F xs ds → RowsAt F H qs rs → RowsAt F H (q :: qs) (ds :: rs)
end
section
variable {K : PySem.W.Frag} {C : Addr} {F F' H H' : Hp}
theorem RowsAt.mono {qs : List Addr} {rs : List (List PyData)} (h : RowsAt K F H qs rs) (s : Same F F') (hk : ∀ q ∈ qs, ∀ o, H q = some o → H' q = some o) : RowsAt K F' H' qs rs := by
  induction h with
  | nil => exact .nil
  | cons h1 h2 _ ih => exact .cons (hk _ List.mem_cons_self _ h1) (dpAll_same s h2) (ih fun q hq00 => hk q (List.mem_cons_of_mem _ hq00))
theorem RowsAt.at_ {qs : List Addr} {rs : List (List PyData)} (h : RowsAt K F H qs rs) : ∀ q ∈ qs, ∃ xs, H q = some (.lst xs) := by
  induction h with
  | nil => exact fun q hq00 => nomatch hq00
  | cons h1 h2 _ ih =>
    intro q hq00
    rcases List.mem_cons.mp hq00 with rfl | hq00
    · exact ⟨_, h1⟩
    · exact ih q hq00
theorem RowsAt.len {qs : List Addr} {rs : List (List PyData)} (h : RowsAt K F H qs rs) : qs.length = rs.length := by
  induction h with
  | nil => rfl
  | cons h1 h2 _ ih => exact congrArg (· + 1) ih
theorem RowsAt.get {qs : List Addr} {rs : List (List PyData)} {k : Nat} {ds : List PyData} (h : RowsAt K F H qs rs) (hk : rs[k]? = some ds) : ∃ q xs, qs[k]? = some q ∧ H q = some (.lst xs) ∧ DtAll K F xs ds := by
  induction h generalizing k with
  | nil => simp at hk
  | cons h1 h2 _ ih =>
    cases k with
    | zero =>
      simp at hk
      subst hk
      exact ⟨_, _, rfl, h1, h2⟩
    | succ k =>
      obtain ⟨q, xs, e, g⟩ := ih (k := k) (by simpa using hk)
      exact ⟨q, xs, by simpa using e, g⟩
theorem RowsAt.app {qs qs' : List Addr} {rs rs' : List (List PyData)} (h : RowsAt K F H qs rs) (h' : RowsAt K F H qs' rs') : RowsAt K F H (qs ++ qs') (rs ++ rs') := by
  induction h with
  | nil => exact h'
  | cons h1 h2 _ ih => exact .cons h1 h2 ih
theorem RowsAt.set {qs : List Addr} {rs : List (List PyData)} {k : Nat} {q : Addr} {ys : List V} {es : List PyData} (h : RowsAt K F H qs rs) (nd : qs.Nodup) (hk : qs[k]? = some q) (hy : DtAll K F ys es) : RowsAt K F (upd H q (.lst ys)) qs (rs.set k es) := by
  induction h generalizing k with
  | nil => simp at hk
  | @cons q0 qs xs ds rs h1 h2 h3 ih =>
    rw [List.nodup_cons] at nd
    cases k with
    | zero =>
      simp at hk
      subst hk
      refine .cons upd_same hy (h3.mono (Same.refl _) fun x hx o e => ?_)
      rw [upd_ne (fun z => nd.1 (by rw [← z]; exact hx))]
      exact e
    | succ k =>
      have hk' : qs[k]? = some q := by simpa using hk
      have hm := List.mem_of_getElem? hk'
      refine .cons ?_ h2 (ih nd.2 hk')
      rw [upd_ne (fun z => nd.1 (by rw [z]; exact hm))]
      exact h1
/-- a list p of lists qs -/
def gridR (K : PySem.W.Frag) (p : Addr) (qs : List Addr) (rs : List (List PyData)) : Res where
  ps := p :: qs
  ok := fun F H => H p = some (.lst (qs.map V.ref)) ∧ RowsAt K F H qs rs ∧ (p :: qs).Nodup
  mono := fun ⟨h1, h2, h3⟩ s hp => ⟨hp p List.mem_cons_self _ h1, h2.mono s fun q hq00 o e => hp q (List.mem_cons_of_mem _ hq00) o e, h3⟩
  at_ := fun ⟨h1, h2, h3⟩ q hq00 => by
    rcases List.mem_cons.mp hq00 with rfl | hq00
    · exact ⟨_, h1, fun _ z => nomatch z⟩
    · obtain ⟨xs, e⟩ := h2.at_ q hq00
      exact ⟨_, e, fun _ z => nomatch z⟩
end
section
variable {K : PySem.W.Frag} {C : Addr} {Γ : Ev} {O : Ow} {t : Ty} {te ta tb : TE} {u w : TS} {N : Ev → Ow → Prop} {R : Ty → Ow → Prop} {T : Ty → Prop}
/-- x = [[] for i in ..] -/
theorem sm_ownGrid {α : Type} {wi : TI} {as : List α} {ty : α → Ty} {i j : Nat} {vs : List Nat} (hw : IvD K C wi Γ as ty) (hz : as.length ≤ 100000) (hi : i ∈ vs)
    (h : ∀ p qs, qs.length = as.length → SM K C w (Γ.set j (some (.own p))) (gridR K p qs (List.replicate as.length []) :: O) N R) : SM K C (tSeq (tAsg (tLc wi (gName i) tYes (tLst tNil) vs) (gName j)) w) Γ O N R := fun D σ W e o n r => by
  refine hw σ W e _ fun J W1 s1 it p hp => ?_
  have e1 := e.le s1
  obtain ⟨o2, g2⟩ := own_new (r := gridR K p [] []) (o := .lst []) (o.le s1) hp rfl ⟨upd_same, .nil, by simp⟩
  refine ⟨fun i m H2 => ∃ W2 : Wd, W2.H = H2 ∧ m = as.length - i ∧ i ≤ as.length ∧ ∃ qs, qs.length = i ∧ Own (gridR K p qs (List.replicate i []) :: O) W2 ∧ Go O W1 (gridR K p qs (List.replicate i []) :: O) W2, ⟨as.length, W1.own p (.lst []) (wd_none hp), rfl, by simp, Nat.zero_le _, [], rfl, o2, g2⟩, ?_⟩
  rintro i m _ ⟨W2, rfl, rfl, hi2, qs, hq00, o3, g3⟩
  by_cases hlt : i < as.length
  · refine .inr ?_
    have ha0 : as[i]? = some as[i] := List.getElem?_eq_getElem hlt
    obtain ⟨k1, k2⟩ := it.go W2 g3.same i _ ha0
    refine ⟨k1, fun H' => ∃ W2 : Wd, W2.H = H' ∧ i + 1 ≤ as.length ∧ ∃ qs, qs.length = i + 1 ∧ Own (gridR K p qs (List.replicate (i + 1) []) :: O) W2 ∧ Go O W1 (gridR K p qs (List.replicate (i + 1) []) :: O) W2, fun H' ⟨W2, e, k1, k2⟩ => ⟨as.length - (i + 1), by omega, W2, e, rfl, k1, k2⟩, fun x H' y => ?_⟩
    obtain ⟨W3, rfl, s3, ax⟩ := k2 x H' y
    refine ⟨by rw [wipe_set hi, wipe_wipe], Nat.zero_le _, fun q hq0 => ?_⟩
    have o4 := o3.le s3
    obtain ⟨hx, hr, hnd⟩ := o4.ok _ List.mem_cons_self
    have hqp : q ≠ p := fun z => by
      subst z
      rw [hq0] at hx
      cases hx
    have hxq : upd W3.H q (.lst []) p = some (.lst (qs.map V.ref)) := by
      rw [upd_ne (Ne.symm hqp)]
      exact hx
    have hfp : W3.F p = none := o4.nf p ⟨_, List.mem_cons_self, List.mem_cons_self⟩
    refine ⟨qs.map V.ref, hxq, Nat.lt_of_le_of_lt (by rw [List.length_map, hq00]; omega) (show 100000 < sizeLine by decide), ((W3.own q (.lst []) (wd_none hq0)).own p (.lst (qs.map V.ref ++ [.ref q])) hfp), rfl, hlt, qs ++ [q], by rw [List.length_append, hq00]; rfl, ?_⟩
    have hqn : q ∉ qs := fun m => by
      obtain ⟨xs, z⟩ := hr.at_ q m
      rw [hq0] at z
      cases z
    have z := own_re (r' := gridR K p (qs ++ [q]) (List.replicate (i + 1) [])) (W' := (W3.own q (.lst []) (wd_none hq0)).own p (.lst (qs.map V.ref ++ [.ref q])) hfp) o4 rfl (fun a ob ea na => ?_) (fun a ea => ?_) (fun a ha0 => ?_) ⟨?_, ?_, ?_⟩
    · exact ⟨z.1, (g3.trans s3.go).trans z.2⟩
    · show upd (upd W3.H q (.lst [])) p _ a = some ob
      rw [upd_ne (fun z => na (by subst z; exact List.mem_cons_self)), upd_ne (fun z => by subst z; rw [hq0] at ea; cases ea)]
      exact ea
    · have ea : upd (upd W3.H q (.lst [])) p (.lst (qs.map V.ref ++ [.ref q])) a = none := ea
      by_cases z : a = p
      · subst z; rw [upd_same] at ea; cases ea
      · rw [upd_ne z] at ea
        by_cases z2 : a = q
        · subst z2; rw [upd_same] at ea; cases ea
        · rw [upd_ne z2] at ea
          exact ea
    · rcases List.mem_cons.mp ha0 with rfl | ha0
      · exact .inl List.mem_cons_self
      · rcases List.mem_append.mp ha0 with ha0 | ha0
        · exact .inl (List.mem_cons_of_mem _ ha0)
        · rw [List.mem_singleton] at ha0
          subst ha0
          exact .inr hq0
    · show upd (upd W3.H q (.lst [])) p _ p = _
      rw [upd_same, List.map_append]
      rfl
    · rw [List.replicate_succ']
      refine RowsAt.app (hr.mono (Same.refl _) fun a ha0 ob ea => ?_) (.cons (xs := []) ?_ .nil .nil)
      · show upd (upd W3.H q (.lst [])) p _ a = some ob
        rw [upd_ne (fun z => (List.nodup_cons.mp hnd).1 (by rw [← z]; exact ha0)), upd_ne (fun z => hqn (by rw [← z]; exact ha0))]
        exact ea
      · show upd (upd W3.H q (.lst [])) p _ q = _
        rw [upd_ne hqp, upd_same]
    · rw [← List.cons_append]
      refine List.nodup_append.mpr ⟨hnd, by simp, fun a ha0 b hb0 => ?_⟩
      rw [List.mem_singleton] at hb0
      subst hb0
      rintro rfl
      rcases List.mem_cons.mp ha0 with ha0 | ha0
      · exact hqp ha0
      · exact hqn ha0
  · have ei : i = as.length := by omega
    subst ei
    refine .inl ⟨it.stop W2 g3.same, ?_⟩
    have g4 := s1.go.trans g3
    exact h p qs hq00 D _ W2 ((e1.same g3.same).set (t := .own p) rfl) o3 (fun Γ2 O2 σ2 W2 k g2 e2 o2 => n Γ2 O2 σ2 W2 k (g4.trans g2) e2 o2) fun t O2 v W2 k g2 o2 a => r t O2 v W2 k (g4.trans g2) o2 a
/-- x[e].append(d) -/
theorem sm_gridApp {i k : Nat} {p : Addr} {qs : List Addr} {rs : List (List PyData)} {ds : List PyData} {d : PyData} (hi : Γ[i]? = some (some (.own p))) (hix : EvD K C ta Γ (.dat (.int (k : Int)))) (hk : rs[k]? = some ds) (he : EvD K C te Γ (.dat d)) (hz : ds.length ≤ 100000) (hz2 : rs.length ≤ 100000) :
    SM K C (tDrop (tBM K "list" rAppend (tOp (rIxU K) (tVar i) ta) (tCons te tNil))) Γ (gridR K p qs rs :: O) (fun Γ' O' => Γ' = Γ ∧ O' = gridR K p qs (rs.set k (ds ++ [d])) :: O) R := fun D σ W e o n r => by
  obtain ⟨v, h1, h2⟩ := e.at_ i _ hi
  have h2 : v = .ref p := h2
  subst h2
  refine ⟨_, h1, hix σ W e _ fun v W1 s1 a => ?_⟩
  have hv := dp_int a
  have o1 := o.le s1
  obtain ⟨hx, hr, hnd⟩ := o1.ok _ List.mem_cons_self
  obtain ⟨q, xs, hq00, hqx, hdx⟩ := hr.get hk
  have hkl : k < qs.length := (List.getElem?_eq_some_iff.mp hq00).1
  have hat : atI (qs.map V.ref) (k : Int) = some (.ref q) := by
    unfold atI ixN
    rw [if_pos (by omega), List.length_map, Int.toNat_natCast, if_pos (by omega)]
    show (qs.map V.ref)[k]? = _
    rw [List.getElem?_map, hq00]
    rfl
  refine .inl ⟨p, _, (k : Int), .ref q, rfl, hv, SqL.of hx, hat, .inl ⟨rfl, xs, SqL.of hqx⟩, ?_⟩
  refine he σ W1 (e.le s1) _ fun u W2 s2 b => ?_
  have o2 := o1.le s2
  obtain ⟨hx2, hr2, hnd2⟩ := o2.ok _ List.mem_cons_self
  obtain ⟨q', xs2, hq', hqx2, hdx2⟩ := hr2.get hk
  rw [hq00] at hq'
  cases hq'
  have hqm : q ∈ (gridR K p qs rs).ps := List.mem_cons_of_mem _ (List.mem_of_getElem? hq00)
  have hf : W2.F q = none := o2.nf q ⟨_, List.mem_cons_self, hqm⟩
  refine ⟨q, xs2, u, rfl, rfl, hqx2, Nat.lt_of_le_of_lt (by rw [dpAll_len hdx2]; exact hz) (by decide), ?_⟩
  have hqp : p ≠ q := fun z => (List.nodup_cons.mp hnd2).1 (by rw [z]; exact List.mem_of_getElem? hq00)
  have z := own_re (r' := gridR K p qs (rs.set k (ds ++ [d]))) (W' := W2.own q (.lst (xs2 ++ [u])) hf) o2 rfl (fun a ob ea na => ?_) (fun a ea => ?_) (fun a ha0 => .inl ha0) ⟨?_, ?_, hnd2⟩
  · exact n Γ _ σ (W2.own q _ hf) ⟨rfl, rfl⟩ ((s1.trans s2).go.trans z.2) (show En K C W2.F σ Γ from e.le (s1.trans s2)) z.1
  · show upd W2.H q _ a = some ob
    rw [upd_ne (fun z => na (by subst z; exact hqm))]
    exact ea
  · have ea : upd W2.H q (.lst (xs2 ++ [u])) a = none := ea
    by_cases z : a = q
    · subst z; rw [upd_same] at ea; cases ea
    · rw [upd_ne z] at ea
      exact ea
  · show upd W2.H q _ p = _
    rw [upd_ne hqp]
    exact hx2
  · exact hr2.set (List.nodup_cons.mp hnd2).2 hq00 (dpAll_app hdx2 (.cons b .nil))
/-- what was one's own, all of it, fixed -/
def Wd.fixR (W : Wd) (ps : List Addr) : Wd := ⟨fun a => if a ∈ ps then W.H a else W.F a, W.H, fun a o h => by
  have h : (if a ∈ ps then W.H a else W.F a) = some o := h
  split at h
  · exact h
  · exact W.sub _ _ h⟩
theorem sm_frzG {i : Nat} {p : Addr} {qs : List Addr} {rs : List (List PyData)} (hi : Γ[i]? = some (some (.own p))) (h : SM K C u (Γ.set i (some (.tl (rs.map .list)))) O N R) : SM K C u Γ (gridR K p qs rs :: O) N R := fun D σ W e o n rr => by
  obtain ⟨hx, hr, hnd⟩ := o.ok _ List.mem_cons_self
  have sF : Same W.F (W.fixR (p :: qs)).F := fun a ob ea => by
    show (if a ∈ p :: qs then W.H a else W.F a) = some ob
    split
    · exact W.sub _ _ ea
    · exact ea
  have atR : ∀ a ∈ p :: qs, (W.fixR (p :: qs)).F a = W.H a := fun a ha0 => if_pos ha0
  have rows : ∀ {qs' : List Addr} {rs' : List (List PyData)}, RowsAt K W.F W.H qs' rs' → (∀ q ∈ qs', q ∈ p :: qs) → DtAll K (W.fixR (p :: qs)).F (qs'.map V.ref) (rs'.map PyData.list) := fun {qs' rs'} h => by
    induction h with
    | nil => exact fun _ => .nil
    | @cons q qs' xs ds rs' h1 h2 _ ih => exact fun hm => .cons (.lst (SqL.of (by rw [atR q (hm q List.mem_cons_self)]; exact h1)) (dpAll_same sF h2)) (ih fun x hx => hm x (List.mem_cons_of_mem _ hx))
  have at0 : At K C (W.fixR (p :: qs)).F (.ref p) (.tl (rs.map .list)) := ⟨p, _, rfl, (atR p List.mem_cons_self).trans hx, rows hr fun q hq00 => List.mem_cons_of_mem _ hq00⟩
  have ap := List.pairwise_cons.mp (show ((gridR K p qs rs :: O).map Res.ps).Pairwise _ from o.apart)
  have ne : ∀ a, Dom O a → a ∉ p :: qs := fun a ⟨q, hq00, ha0⟩ z => ap.1 q.ps (List.mem_map.mpr ⟨q, hq00, rfl⟩) a z ha0
  have o1 : Own O (W.fixR (p :: qs)) := ⟨fun q hq00 => q.mono (o.hd.ok q hq00) sF fun _ _ _ e => e, fun a d => by
    show (if a ∈ p :: qs then W.H a else W.F a) = none
    rw [if_neg (ne a d)]
    exact o.hd.nf a d, o.hd.apart⟩
  have g1 : Go (gridR K p qs rs :: O) W O (W.fixR (p :: qs)) := ⟨sF, fun _ h => h, fun a y h => by
    have h : (if a ∈ p :: qs then W.H a else W.F a) = some y := h
    split at h
    · next m => exact .inr (.inr (.inr ⟨_, List.mem_cons_self, m⟩))
    · exact .inl h, fun _ _ h _ => h, fun a d => .inl (dom_cons.mpr (.inr d))⟩
  have e1 : En K C (W.fixR (p :: qs)).F σ (Γ.set i (some (.tl (rs.map .list)))) := ⟨by rw [List.length_set]; exact e.len, fun k t' hk => by
    by_cases hik : i = k
    · subst hik
      rw [List.getElem?_set_self (List.getElem?_eq_some_iff.mp hi).1] at hk
      cases hk
      obtain ⟨v, h1, h2⟩ := e.at_ i _ hi
      have h2 : v = .ref p := h2
      subst h2
      exact ⟨_, h1, at0⟩
    · rw [List.getElem?_set_ne hik] at hk
      obtain ⟨v, h1, h2⟩ := e.at_ k t' hk
      exact ⟨v, h1, at_same sF h2⟩⟩
  exact h D σ (W.fixR (p :: qs)) e1 o1 (fun Γ2 O2 σ2 W2 k g2 e2 o2 => n Γ2 O2 σ2 W2 k (g1.trans g2) e2 o2) fun t O2 v W2 k g2 o2 a => rr t O2 v W2 k (g1.trans g2) o2 a
end
end Ly
namespace Ly
open PySem PySem.Spec
open PyProof.Rows L2
/-! a list that a def has made for its caller -/
section
variable (K : PySem.W.Frag) (C : Addr)
def FnN (R : List Ty → List PyData → Prop) : Sp := fun vs H Q _ => ∃ (W : Wd) (ts : List Ty) (ds : List PyData), W.H = H ∧ AtAll K C W.F vs ts ∧ R ts ds ∧ ∀ p W', LeS W W' → W.H p = none → W'.F p = none → (∃ xs, W'.H p = some (.lst xs) ∧ DtAll K W'.F xs ds) → Q (.ref p) W'.H
end
section
variable {K : PySem.W.Frag} {C : Addr} {Γ : Ev} {O : Ow} {t : Ty} {te ta tb : TE} {u w : TS} {N : Ev → Ow → Prop} {R : Ty → Ow → Prop} {T : Ty → Prop}
theorem sm_bodyN {Ns : List Str} {ts : TS} {Rl : List Ty → List PyData → Prop} {vs : List V} {H : Hp} {Q : VK} {E : XK} (h : FnN K C Rl vs H Q E) (hb0 : ∀ as ds, Rl as ds → SM K C ts (startG Ns.length as) [] (fun _ _ => False) (fun t' O' => ∃ p, t' = .own p ∧ O' = [lstR K p ds])) : ts { nx := fun _ H' => Q .non H', rt := Q } (L2.start Ns vs) H := by
  obtain ⟨W, as, ds, rfl, a, hr, q⟩ := h
  refine hb0 as ds hr _ _ W (en_start a) (Own.nil W) (fun _ _ _ W' k g _ _ => k.elim) fun t' _ v W' k g o b => ?_
  obtain ⟨p, rfl, rfl⟩ := k
  have b : v = .ref p := b
  subst b
  have d : Dom [lstR K p ds] p := ⟨_, List.mem_cons_self, List.mem_singleton.mpr rfl⟩
  refine q p W' g.nil ?_ (o.nf p d) (o.ok _ List.mem_cons_self)
  rcases g.grow p d with z | z
  · exact absurd z not_dom_nil
  · exact z
theorem ev_callN {Rl : List Ty → List PyData → Prop} {E : XK} {tr : TA} {ts : List Ty} {ds : List PyData} (h : EvA K C tr Γ ts) (hr : Rl ts ds) : EvD K C (tCall (FnN K C Rl) [] E tr) Γ (.tl ds) := fun σ W e Q q =>
  h σ W e _ fun vs W1 s1 a => ⟨W1, ts, ds, rfl, by rw [List.append_nil]; exact a, hr, fun p W2 s2 hp hf ⟨xs, hx, hd⟩ => q _ (W2.fix p _ hx) (s1.trans (leS_fix s2 hf hp)) ⟨p, xs, rfl, upd_same, dpAll_same (same_fix hf) hd⟩⟩
/-- return [] -/
theorem sm_retNew (h : ∀ p, R (.own p) (lstR K p [] :: O)) : SM K C (tRet (tLst tNil)) Γ O N R := fun D σ W e o n r => ⟨Nat.zero_le _, fun p hp => by
  obtain ⟨o1, g1⟩ := own_new (r := lstR K p []) (o := .lst []) o hp rfl ⟨[], upd_same, .nil⟩
  exact r _ _ _ (W.own p _ (wd_none hp)) (h p) g1 o1 rfl⟩
/-- x = [e, ..] -/
theorem sm_ownL {i : Nat} {ta : TA} {ts : List Ty} (ha0 : EvA K C ta Γ ts) (hd : allD ts = true) (hz : ts.length ≤ 100000) (h : ∀ p, SM K C w (Γ.set i (some (.own p))) (lstR K p (unD ts) :: O) N R) : SM K C (tSeq (tAsg (tLst ta) (gName i)) w) Γ O N R := fun D σ W e o n r => ha0 σ W e _ fun vs W1 s1 a => ⟨by rw [atAll_len a]; exact Nat.le_trans hz (by decide), fun p hp => by
  obtain ⟨o1, g1⟩ := own_new (r := lstR K p (unD ts)) (o := .lst vs) (o.le s1) hp rfl ⟨vs, upd_same, atAll_dat hd a⟩
  have g2 := s1.go.trans g1
  exact h p D _ (W1.own p _ (wd_none hp)) ((e.le s1).set (t := .own p) rfl) o1 (fun Γ2 O2 σ2 W2 k g e2 o2 => n Γ2 O2 σ2 W2 k (g2.trans g) e2 o2) fun t O2 v W2 k g o2 a => r t O2 v W2 k (g2.trans g) o2 a⟩
/-- f(..).clear() -/
theorem sm_clearN {Rl : List Ty → List PyData → Prop} {E : XK} {tr : TA} {ts : List Ty} {ds : List PyData} (h : EvA K C tr Γ ts) (hr : Rl ts ds) : SM K C (tDrop (tBM0 K "list" rClear (tCall (FnN K C Rl) [] E tr))) Γ O (fun Γ' O' => Γ' = Γ ∧ O' = O) R := fun D σ W e o n r =>
  h σ W e _ fun vs W1 s1 a => ⟨W1, ts, ds, rfl, by rw [List.append_nil]; exact a, hr, fun p W2 s2 hp hf ⟨xs, hx, hd⟩ => by
    have s12 := s1.trans s2
    have s3 : LeS W (W2.own p (.lst []) hf) := s1.trans (leS_own s2 hf hp)
    exact ⟨.inl ⟨rfl, xs, SqL.of hx⟩, p, xs, rfl, rfl, hx, n Γ O σ (W2.own p (.lst []) hf) ⟨rfl, rfl⟩ s3.go (e.le s3) (o.le s3)⟩⟩
end
end Ly
namespace Lk
open PySem PySem.Spec PyProof.Rows L2 Ly
variable {P : Program} {w : World} {K : PySem.W.Frag} {mg : Str → Option Value} {base : Heap} {C : Addr}
theorem ok_ofN {x qual : Str} {st : Stmt} {f : Addr} {fd : FuncData} {N ps : List Str} {k : Nat} {R : List Ly.Ty → List PyData → Prop} (F : Fun K x qual st f fd) (S : FnScope N ps (defScope st)) (hl : ∀ as t, R as t → as.length = ps.length)
    (hb0 : ∀ (cdv : Value) (A : Around) (outer : List Env) (s : Shared) (H : Hp) (E : XK), Room k (A.deeper (envOfC qual (defScope st) s.heap.objs.size f cdv)) →
      ∃ t, PSs (cxOf CX0 P w K mg base N qual (defScope st) f cdv A outer s H E).nox (defBody st) t ∧ ∀ as ds, R as ds → SM K C t (startG N.length as) [] (fun _ _ => False) (fun t' O' => ∃ p, t' = .own p ∧ O' = [lstR K p ds])) : FnOk P w K mg base CX0 (k + 1) f fd ps (FnN K C R) := by
  refine F.ok S (fun vs H Q E h => ?_) (fun cdv A outer s H vs Q E hr h => ?_)
  · obtain ⟨_, ts, t, _, a, hr, _⟩ := h
    rw [atAll_len a]
    exact hl ts t hr
  · obtain ⟨t, h1, h2⟩ := hb0 cdv A outer s H E hr
    exact ⟨t, h1, sm_bodyN h h2⟩
end Lk
namespace Lk
open PySem PySem.Spec PyProof.Rows L2 Ly
section
variable {P : Program} {w : World} {K : PySem.W.Frag} {mg : Str → Option Value} {base : Heap} {C aL : Addr}
section
variable {T : Tr} {D b : List Int} {ls : List (List Int)}
theorem num_bound (f : Fit D b ls) : ∀ (n i : Nat) (c : List Int), i < n → (orderOf T D b)[i]? = some c → numN T D ls b c ≤ (i : Int) + 1
  | 0, _, _, h, _ => absurd h (Nat.not_lt_zero _)
  | n + 1, i, c, h, hi0 => by
    have hc := order_mem.mp (List.mem_of_getElem? hi0)
    by_cases q : 1 < numN T D ls b c
    · obtain ⟨⟨o, st⟩, hp, e⟩ := num_from (T := T) f hc q
      have e : numN T D ls b o + st = numN T D ls b c := e
      have lc := (cellsOf_dim c hc).trans f.box
      obtain ⟨l, hl, hs, _, h3⟩ := mem_causes.mp hp
      obtain ⟨j, hj, ej⟩ := List.mem_take_iff_getElem.mp (order_before hi0 (cause_cell f lc hp) h3)
      have hj' := Nat.lt_min.mp hj
      have z := num_bound f n j o (by omega) (by rw [List.getElem?_eq_getElem hj'.2, ej])
      have hst : st ≤ 1 := by rcases hs with ⟨_, rfl⟩ | ⟨_, rfl⟩ <;> omega
      omega
    · omega
theorem top_le (f : Fit D b ls) : topN T D ls b ≤ (cellsOf b).length := by
  by_cases hc : cellsOf b = []
  · rw [top_empty hc]
    omega
  · obtain ⟨c, hm, e⟩ := top_at (T := T) f hc
    obtain ⟨i, hi0⟩ := List.mem_iff_getElem?.mp (order_mem (T := T) (D := D) |>.mpr hm)
    have z := num_bound f (i + 1) i c (Nat.lt_succ_self i) hi0
    have := (List.getElem?_eq_some_iff.mp hi0).1
    rw [order_len] at this
    omega
/-- the waves of the first i places -/
def wavesI (T : Tr) (D : List Int) (ls : List (List Int)) (b : List Int) (i : Nat) : List (List PyData) := (List.range (topN T D ls b).toNat).map fun (k : Nat) => (((cellsOf b).take i).filter fun c => decide (numN T D ls b c = (k : Int) + 1)).map pI
theorem wavesI_zero : wavesI T D ls b 0 = List.replicate (topN T D ls b).toNat [] := by
  unfold wavesI
  rw [List.take_zero]
  show (List.range _).map (fun _ => []) = _
  rw [List.map_const', List.length_range]
theorem range_set {α : Type} (n k : Nat) (f : Nat → α) (x : α) : ((List.range n).map f).set k x = (List.range n).map fun j => if j = k then x else f j := by
  refine
      List.ext_getElem? fun j => ?_
  rw [List.getElem?_set, List.getElem?_map, List.length_map, List.length_range]
  by_cases hj : j < n
  · rw [List.getElem?_range hj, List.getElem?_map, List.getElem?_range hj]
    by_cases e : k = j
    · subst e
      rw [if_pos rfl, if_pos hj]
      show some x = some (if k = k then x else f k)
      rw [if_pos rfl]
    · rw [if_neg e]
      show some (f j) = some (if j = k then x else f j)
      rw [if_neg (Ne.symm e)]
  · rw [List.getElem?_eq_none (by rw [List.length_range]; omega), List.getElem?_eq_none (by rw [List.length_map, List.length_range]; omega)]
    by_cases e : k = j
    · rw [if_pos e, if_neg (by omega)]
    · rw [if_neg e]
      rfl
theorem wavesI_step (f : Fit D b ls) {i : Nat} {c : List Int} (h : (cellsOf b)[i]? = some c) : ∃ (k : Nat) (ds : List PyData), numN T D ls b c - 1 = (k : Int) ∧ (wavesI T D ls b i)[k]? = some ds ∧ ds.length ≤ (cellsOf b).length ∧ wavesI T D ls b (i + 1) = (wavesI T D ls b i).set k (ds ++ [pI c]) := by
  have hc := List.mem_of_getElem? h
  have h1 := num_pos (T := T) f hc
  have h2 := num_le (T := T) (D := D) (ls := ls) hc
  refine ⟨(numN T D ls b c - 1).toNat, (((cellsOf b).take i).filter fun d => decide (numN T D ls b d = ((numN T D ls b c - 1).toNat : Int) + 1)).map pI, by omega, ?_, ?_, ?_⟩
  · unfold wavesI
    rw [List.getElem?_map, List.getElem?_range (by omega)]
    rfl
  · rw [List.length_map]
    exact Nat.le_trans (List.length_filter_le _ _) (List.length_take_le' _ _)
  · unfold wavesI
    rw [range_set]
    refine
        List.map_congr_left fun k _ => ?_
    show ((List.take (i + 1) (cellsOf b)).filter fun c => decide (numN T D ls b c = (k : Int) + 1)).map pI = _
    rw [List.take_add_one, h, show (some c).toList = [c] from rfl, List.filter_append, List.map_append]
    by_cases e : k = (numN T D ls b c - 1).toNat
    · subst e
      rw [if_pos rfl, List.filter_cons, if_pos (decide_eq_true (by omega))]
      rfl
    · rw [if_neg e, List.filter_cons, if_neg (by rw [decide_eq_false (by omega)]; exact Bool.false_ne_true)]
      exact List.append_nil _
theorem wavesI_all : (wavesI T D ls b (cellsOf b).length).map PyData.list = (wavesOf T D ls b).map fun wv => .list (wv.map pI) := by
  unfold wavesI wavesOf
  rw [List.take_length, List.map_map, List.map_map]
  rfl
theorem num_sorted : ∀ {kvs : List (List Int × Int)}, kvs = numOf T D ls b → srtd (kvs.map fun p => PyData.tuple (p.1.map .int)) = (cellsOf b).map pI := fun {kvs} e => by
  subst e
  have z : ((numOf T D ls b).map fun p => PyData.tuple (p.1.map .int)) = (orderOf T D b).map pI := by
    rw [← num_keys (T := T) (D := D) (ls := ls), List.map_map]
    rfl
  rw [z]
  exact srtd_cells order_perm
theorem alike_cells (kvs : List (List Int × Int)) : PySem.W.AllAlike (kvs.map fun p => PyData.tuple (p.1.map .int)) := PySem.W.AllAlike.of (enc := fun p : List Int × Int => PyData.tuple (p.1.map .int)) fun p q => alike_pI p.1 q.1
theorem sortable_cells {kvs : List (List Int × Int)} (h : ∀ p ∈ kvs, p.1 ≠ []) : PySem.W.Sortable (kvs.map fun p => PyData.tuple (p.1.map .int)) := .inl fun d hd => by
  obtain ⟨p, hp, rfl⟩ := List.mem_map.mp hd
  cases e : p.1 with
  | nil => exact absurd e (h p hp)
  | cons a r => exact ⟨_, _, rfl⟩
theorem num_ne (hb : b ≠ []) : ∀ p ∈ numOf T D ls b, p.1 ≠ [] := fun p hp e => by
  have hk : p.1 ∈ (numOf T D ls b).map (·.1) := List.mem_map.mpr ⟨p, hp, rfl⟩
  rw [num_keys] at hk
  have := cellsOf_dim _ (order_mem.mp hk)
  rw [e] at this
  exact hb (List.length_eq_zero_iff.mp this.symm)
theorem num_len : (numOf T D ls b).length = (cellsOf b).length := by
  have h1 := congrArg List.length (num_keys (T := T) (D := D) (ls := ls) (b := b))
  rw [List.length_map] at h1
  rw [h1, order_len]
end
theorem allD_vals (kvs : List (List Int × Int)) : allD (kvs.map (fun p => Ly.Ty.dat (.int p.2)) ++ []) = true := by
  have e : (kvs.map fun p => Ly.Ty.dat (.int p.2)) = (kvs.map fun p => PyData.int p.2).map Ly.Ty.dat := by
    rw [List.map_map]
    rfl
  rw [e, allD_app]
  rfl
theorem unD_vals (kvs : List (List Int × Int)) : unD (kvs.map (fun p => Ly.Ty.dat (.int p.2)) ++ []) = (kvs.map (·.2)).map .int := by
  have e : (kvs.map fun p => Ly.Ty.dat (.int p.2)) = (kvs.map fun p => PyData.int p.2).map Ly.Ty.dat := by
    rw [List.map_map]
    rfl
  rw [e, unD_app, List.map_map]
  exact List.append_nil _
theorem box_ne {D b : List Int} (okD : OkDiv D) (okB : OkBox D.length b) : b ≠ [] := fun e => by
  have h1 := okB.len
  have h2 := okD.pos
  rw [← h1, e] at h2
  exact absurd h2 (by decide)
abbrev s_waves : Stmt := topS 37
abbrev N_waves : List Str := ["scan", "looks", "box", "numbers", "rows", "cell", "at"]
theorem sc_waves : FnScope N_waves ["scan", "looks", "box"] (defScope s_waves) := ⟨rfl, rfl, rfl, by decide +kernel, rfl, by decide +kernel, by decide +kernel⟩
def R_waves : List Ly.Ty → Ly.Ty → Prop := fun as t => ∃ T D ls b h k, as = [.sc D T.toD, .dat (seqOf k (ls.map pI)), dI b] ∧ h ≤ 10 ∧ OkDiv D ∧ Wf D.length (vol D).toNat h T ∧ OkLooks D.length ls ∧ OkBox D.length b ∧ t = .tl ((wavesOf T D ls b).map fun wv => .list (wv.map pI))
theorem ok_waves {f : Addr} {fd : FuncData} (F : Fun K "waves" "waves" s_waves f fd) (T : Tx K mg aL) (S : Sk K C) (c_numbered : Cal P w K mg base 9 "numbered" ["scan", "looks", "box"] (FnD K C R_numbered)) (c_need_all : Cal P w K mg base 5 "need_all" ["scan", "looks", "box"] (FnD K C R_need_all)) : FnOk P w K mg base CX0 10 f fd ["scan", "looks", "box"] (FnD K C R_waves) := by
  have nd := (sc_waves).nd
  refine ok_ofM F sc_waves (fun as t ⟨T, D, ls, b, h, k, e, _⟩ => by subst e; rfl) fun cdv A outer s H E hr => ?_
  refine ⟨_, (pss_cons (ps_expr (pe_cal c_need_all (hr.mono (by decide)) (pa_cons (pv 0) (pa_cons (pv 1) (pa_cons (pv 2) pa_nil)))))
      (pss_cons (ps_set (i := 3) nd rfl (Or.inl rfl) (pe_cal c_numbered (hr.mono (by decide)) (pa_cons (pv 0) (pa_cons (pv 1) (pa_cons (pv 2) pa_nil)))))
      (pss_cons (ps_setLc (i := 4) (own := [("at", 6)]) (g := gName 6) (tt := tYes) rfl nd rfl rfl (sw_true rfl rfl rfl (by decide +kernel)) (pi_range1 (by rfl) T.n_range (pa_cons (pe_callB (kMax K rfl) (by rfl) T.n_max boot_max (pa_cons (pe_lst (pa_cons pe_int (pa_starV rfl (kVals K (pv 3)) pa_nil))) pa_nil)) pa_nil)) (blkOk_by (N := N_waves) (sc := defScope s_waves) (by decide +kernel)) (fun _ _ _ _ _ => (pg_name (i := 6) nd rfl (Or.inl rfl))) (fun _ _ _ _ _ => pts_nil) (fun _ _ _ _ _ => (pe_lst pa_nil)))
      (pss_cons (ps_for PassesOwn.never rfl (kSeq K (pe_callB (kSorted K rfl (hu65 hr)) (by rfl) T.n_sorted boot_sorted (pa_cons (pv 3) pa_nil))) (pg_name (i := 5) nd rfl (Or.inl rfl)) (pss_one (ps_expr (pe_bm PySem.F.plainAttrs_list PySem.F.slot_list_append PySem.F.type_list_append mt_append (pe_ix (kIx K) (pv 4) (pe_op op_sub (pe_dget (hu_of hr) (pv 3) (pv 5) (fun _ _ => rfl)) pe_int) (fun _ _ => rfl)) (pa_cons (pv 5) pa_nil)))))
      (pss_one (ps_ret (pv 4))))))),
      ?_⟩
  rintro as t ⟨T0, D, ls, b, h, k, rfl, hh, okD, wf, okL, okB, rfl⟩
  have fit := fit_of okL okB
  have hD := okD.most
  let sc : Ly.Ty := .sc D T0.toD
  let L : Ly.Ty := .dat (seqOf k (ls.map pI))
  let Nm : Ly.Ty := .dc (numOf T0 D ls b)
  have hcl := cells_le okB
  have htl : (topN T0 D ls b).toNat ≤ 100000 := by
    have := top_le (T := T0) fit
    omega
  refine sm_then (Γ' := [some sc, some L, some (dI b), none, none, none, none]) (O' := []) (sm_weak (sm_drop (T := (· = .dat .none)) (em_ev (ev_call (ea_cons (ev_var rfl) (ea_cons (ev_var rfl) (ea_cons (ev_var rfl) ea_nil))) ⟨D, T0.toD, ls, b, k, rfl, hD, okL, okB, rfl⟩))) (fun _ _ h => h) fun _ _ h => h) ?_
  refine sm_then (Γ' := [some sc, some L, some (dI b), some Nm, none, none, none]) (O' := []) (sm_set (ev_call (ea_cons (ev_var rfl) (ea_cons (ev_var rfl) (ea_cons (ev_var rfl) ea_nil))) ⟨T0, D, ls, b, h, k, rfl, hh, okD, wf, okL, okB, rfl⟩)) ?_
  refine sm_ownGrid (as := List.range (topN T0 D ls b).toNat) (iv_range (ev_is (ev_max (l := 0 :: (numOf T0 D ls b).map (·.2)) (m := topN T0 D ls b) (ev_dat (ev_is (ev_lst (ea_cons ev_int (ea_starV (ev_var rfl) ea_nil)) (allD_vals _) ?_) ?_)) ?_ ?_) ?_) htl) (by rw [List.length_range]; exact htl) (by decide) fun p qs hqs => ?_
  · rw [List.length_cons, List.length_append, List.length_map, num_len]
    show (cellsOf b).length + 0 + 1 ≤ 100000
    omega
  · show Ly.Ty.tl (.int 0 :: unD _) = _
    rw [unD_vals]
    rfl
  · unfold topN
    rcases fmax_mem ((numOf T0 D ls b).map (·.2)) 0 with q | q
    · rw [q]; exact List.mem_cons_self
    · exact List.mem_cons_of_mem _ q
  · intro y hy0
    unfold topN
    rcases List.mem_cons.mp hy0 with rfl | hy0
    · exact fmax_ge _ _
    · exact fmax_mem_ge _ _ _ hy0
  · rw [Int.toNat_of_nonneg top_nonneg]
  rw [List.length_range, ← wavesI_zero]
  refine sm_seq (M := fun Γ O => ∃ x, Γ = [some sc, some L, some (dI b), some Nm, some (.own p), x, none] ∧ O = [gridR K p qs (wavesI T0 D ls b (cellsOf b).length)]) (sm_forD (as := cellsOf b) (iv_of_map (g := pI) (ty := Ly.Ty.dat) (iv_L (ev_dat (ev_is (ev_sortedC (kvs := numOf T0 D ls b) (ev_var rfl) (alike_cells _) (sortable_cells (num_ne (box_ne okD okB))) (by rw [num_len]; omega)) (by rw [num_sorted rfl])))))
    (fun i Γ O => ∃ x, Γ = [some sc, some L, some (dI b), some Nm, some (.own p), x, none] ∧ O = [gridR K p qs (wavesI T0 D ls b i)]) ⟨none, rfl, rfl⟩ ?_ fun Γ O h => h) ?_
  · rintro i c _ _ ha ⟨x, rfl, rfl⟩
    have hc := List.mem_of_getElem? ha
    obtain ⟨j, ds, e1, e2, e3, e4⟩ := wavesI_step (T := T0) fit ha
    refine ⟨_, [5], tg_name (by decide), ?_⟩
    refine sm_weak (sm_gridApp (k := j) (ds := ds) (d := pI c) (i := 4) rfl (ev_is (ev_subI (ev_dget (kvs := numOf T0 D ls b) (l := c) (ev_var rfl) (ev_var rfl) (num_lookup hc)) ev_int) (by rw [e1])) e2 (ev_var rfl) (by omega) ?_) (fun Γ O ⟨h1, h2⟩ => ⟨_, h1, by rw [h2, e4]⟩) fun _ _ h => h
    unfold wavesI
    rw
        [List.length_map, List.length_range]
    exact htl
  · rintro _ _ ⟨x, rfl, rfl⟩
    exact sm_frzG (i := 4) rfl (sm_ret (ev_is (ev_var rfl) (by rw [wavesI_all])) rfl)
end
end Lk
namespace Lk
open PySem PySem.Spec PyProof.Rows L2 Ly
section
variable {P : Program} {w : World} {K : PySem.W.Frag} {mg : Str → Option Value} {base : Heap} {C aL : Addr}
abbrev s_wave_chain : Stmt := topS 38
abbrev N_wave_chain : List Str := ["scan", "looks", "box", "numbers", "here", "found", "cell", "other", "step"]
theorem sc_wave_chain : FnScope N_wave_chain ["scan", "looks", "box"] (defScope s_wave_chain) := ⟨rfl, rfl, rfl, by decide +kernel, rfl, by decide +kernel, by decide +kernel⟩
def R_wave_chain : List Ly.Ty → List PyData → Prop := fun as ds => ∃ T D ls b h k, as = [.sc D T.toD, .dat (seqOf k (ls.map pI)), dI b] ∧ h ≤ 10 ∧ OkDiv D ∧ Wf D.length (vol D).toNat h T ∧ OkLooks D.length ls ∧ OkBox D.length b ∧ ds = (chainOf T D ls b).map pI
theorem eqv_int (a b : Int) : PyData.eqv (.int a) (.int b) = decide (a = b) := by
  rw [PyData.eqv]
  by_cases h : a = b
  · subst h
    simp
  · simp [h]
theorem ok_wave_chain {f : Addr} {fd : FuncData} (F : Fun K "wave_chain" "wave_chain" s_wave_chain f fd) (T : Tx K mg aL) (S : Sk K C) (c_numbered : Cal P w K mg base 9 "numbered" ["scan", "looks", "box"] (FnD K C R_numbered)) (c_need_all : Cal P w K mg base 5 "need_all" ["scan", "looks", "box"] (FnD K C R_need_all)) (c_causes : Cal P w K mg base 5 "causes" ["scan", "looks", "box", "cell"] (FnD K C R_causes)) : FnOk P w K mg base CX0 10 f fd ["scan", "looks", "box"] (FnN K C R_wave_chain) := by
  have nd := (sc_wave_chain).nd
  refine ok_ofN F sc_wave_chain (fun as t ⟨T, D, ls, b, h, k, e, _⟩ => by subst e; rfl) fun cdv A outer s H E hr => ?_
  refine ⟨_, (pss_cons (ps_expr (pe_cal c_need_all (hr.mono (by decide)) (pa_cons (pv 0) (pa_cons (pv 1) (pa_cons (pv 2) pa_nil)))))
      (pss_cons (ps_set (i := 3) nd rfl (Or.inr rfl) (pe_cal c_numbered (hr.mono (by decide)) (pa_cons (pv 0) (pa_cons (pv 1) (pa_cons (pv 2) pa_nil)))))
      (pss_cons (ps_if (pt_cmpR (op_eqE hr.units0) (pv 3) pe_dnewT (nomark _)) (pss_one (ps_ret (pe_lst pa_nil))) pss_nil)
      (pss_cons (ps_set (i := 4) nd rfl (Or.inr rfl) (pe_ix (kIx K) (pe_lc (own := [("cell", 6)]) (g := gName 6) rfl nd (kSeq K (pe_callB (kSorted K rfl (hu65 hr)) (by rfl) T.n_sorted boot_sorted (pa_cons (pv 3) pa_nil))) (blkOk_by (N := N_wave_chain) (sc := defScope s_wave_chain) (by decide +kernel)) (fun _ _ _ _ _ => (pg_name (i := 6) nd rfl (Or.inl rfl))) (fun _ _ _ _ _ => (pts_one (pt_cmpR (kEq K hr.units) (pe_dget (hu_of hr) (pv 3) (pv 6) (fun _ _ => rfl)) (pe_callB (cr_maxT rfl) (by rfl) T.n_max boot_max (pa_cons (kVals K (pv 3)) pa_nil)) (nomark _)))) (fun _ _ _ _ _ => (pv 6))) pe_int (fun _ _ => rfl)))
      (pss_cons (ps_set (i := 5) nd rfl (Or.inl rfl) (pe_lst (pa_cons (pv 4) pa_nil)))
      (pss_cons (ps_while PassesOwn.never (pt_cmpR op_gt (pe_dget (hu_of hr) (pv 3) (pv 4) (fun _ _ => rfl)) pe_int (nomark _)) (pss_cons (ps_set (i := 4) nd rfl (Or.inr rfl) (pe_ix (kIx K) (pe_lc (own := [("other", 7), ("step", 8)]) (g := gTup K 2 (gCons (gName 7) (gCons (gName 8) (gNil)))) rfl nd (kSeq K (pe_cal c_causes (hr.mono (by decide)) (pa_cons (pv 0) (pa_cons (pv 1) (pa_cons (pv 2) (pa_cons (pv 4) pa_nil)))))) (blkOk_by (N := N_wave_chain) (sc := defScope s_wave_chain) (by decide +kernel)) (fun _ _ _ _ _ => (kPair K rfl (pgs_cons (pg_name (i := 7) nd rfl (Or.inl rfl)) (pgs_cons (pg_name (i := 8) nd rfl (Or.inl rfl)) pgs_nil)))) (fun _ _ _ _ _ => (pts_one (pt_cmpR (kEq K hr.units) (pe_op (kAdd K) (pe_dget (hu_of hr) (pv 3) (pv 7) (fun _ _ => rfl)) (pv 8)) (pe_dget (hu_of hr) (pv 3) (pv 4) (fun _ _ => rfl)) (nomark _)))) (fun _ _ _ _ _ => (pv 7))) pe_int (fun _ _ => rfl)))
      (pss_one (ps_expr (pe_bm PySem.F.plainAttrs_list PySem.F.slot_list_insert PySem.F.type_list_insert mt_insertU (pv 5) (pa_cons pe_int (pa_cons (pv 4) pa_nil)))))))
      (pss_one (ps_ret (pv 5))))))))),
      ?_⟩
  rintro as ds ⟨T0, D, ls, b, h, k, rfl, hh, okD, wf, okL, okB, rfl⟩
  have fit := fit_of okL okB
  have hD := okD.most
  have hcl := cells_le okB
  let sc : Ly.Ty := .sc D T0.toD
  let L : Ly.Ty := .dat (seqOf k (ls.map pI))
  let Nm : Ly.Ty := .dc (numOf T0 D ls b)
  refine sm_then (Γ' := [some sc, some L, some (dI b), none, none, none, none, none, none]) (O' := []) (sm_weak (sm_drop (T := (· = .dat .none)) (em_ev (ev_call (ea_cons (ev_var rfl) (ea_cons (ev_var rfl) (ea_cons (ev_var rfl) ea_nil))) ⟨D, T0.toD, ls, b, k, rfl, hD, okL, okB, rfl⟩))) (fun _ _ h => h) fun _ _ h => h) ?_
  refine sm_then (Γ' := [some sc, some L, some (dI b), some Nm, none, none, none, none, none]) (O' := []) (sm_set (ev_call (ea_cons (ev_var rfl) (ea_cons (ev_var rfl) (ea_cons (ev_var rfl) ea_nil))) ⟨T0, D, ls, b, h, k, rfl, hh, okD, wf, okL, okB, rfl⟩)) ?_
  refine sm_seq (M := fun Γ O => cellsOf b ≠ [] ∧ Γ = [some sc, some L, some (dI b), some Nm, none, none, none, none, none] ∧ O = []) (sm_if (ebs_eb (eb_test (ev_eqE (kvs := numOf T0 D ls b) (ev_var rfl)))) (fun hb => sm_retNew fun p => ⟨p, rfl, ?_⟩) fun hb => sm_next ⟨?_, rfl, rfl⟩) ?_
  · have e1 : numOf T0 D ls b = [] := by simpa using hb
    have e2 : (cellsOf b).length = 0 := by
      rw [← num_len (T := T0) (D := D) (ls := ls), e1]
      rfl
    rw [chain_none (List.length_eq_zero_iff.mp e2)]
    rfl
  · intro e
    have e2 : (numOf T0 D ls b).length = 0 := by
      rw [num_len, e]
      rfl
    rw [List.length_eq_zero_iff.mp e2] at hb
    cases hb
  rintro _ _ ⟨hne, rfl, rfl⟩
  obtain ⟨h0, rest, i0, eq0, inv0, hi0, hl0⟩ := last_at (T := T0) fit hne
  refine sm_then (Γ' := [some sc, some L, some (dI b), some Nm, some (dI h0), none, none, none, none]) (O' := []) (sm_set (ev_ixL (i := ((0 : Nat) : Int)) (ds := (((cellsOf b).filter fun c => decide (numN T0 D ls b c = topN T0 D ls b)).map pI)) (ev_dat (ev_lcN0 (as := cellsOf b) (ty := fun c => dI c) (p := fun c => decide (numN T0 D ls b c = topN T0 D ls b)) (f := pI) (iv_of_map (g := pI) (ty := Ly.Ty.dat) (iv_L (ev_dat (ev_is (ev_sortedC (kvs := numOf T0 D ls b) (ev_var rfl) (alike_cells _) (sortable_cells (num_ne (box_ne okD okB))) (by rw [num_len]; omega)) (by rw [num_sorted rfl]))))) (by omega) (by decide) fun c hc => ⟨?_, fun _ => ev_var rfl⟩)) ev_int ?_)) ?_
  · refine eb_is (eb_test (ev_eqD (ev_dget (kvs := numOf T0 D ls b) (l := c) (ev_var rfl) (ev_var rfl) (num_lookup hc)) (ev_maxVals (kvs := numOf T0 D ls b) (m := topN T0 D ls b) (ev_var rfl) ?_ ?_) rfl rfl)) (eqv_int _ _)
    · obtain ⟨c, hc, e⟩ := top_at (T := T0) fit hne
      exact num_vals.mpr ⟨c, hc, e.symm⟩
    · exact fun y hy => fmax_mem_ge _ _ _ hy
  · rw [eq0]
    exact atI_nat rfl
  refine sm_ownL (ea_cons (ev_var rfl) ea_nil) rfl (Nat.le_of_ble_eq_true rfl) fun p => ?_
  let Gm : Nat → Ev → Ow → Prop := fun m Γ O => ∃ h r x y z, Γ = [some sc, some L, some (dI b), some Nm, some (dI h), some (.own p), x, y, z] ∧ O = [lstR K p ((h :: r).map pI)] ∧ ChInv T0 D ls b h r ∧ (∃ i, (orderOf T0 D b)[i]? = some h ∧ i < m) ∧ chainFrom T0 D ls b m h (h :: r) = chainOf T0 D ls b ∧ r.length + m ≤ 2000
  refine sm_seq (M := fun Γ O => ∃ x y z u, Γ = [some sc, some L, some (dI b), some Nm, u, some (.own p), x, y, z] ∧ O = [lstR K p ((chainOf T0 D ls b).map pI)]) (sm_while Gm (cellsOf b).length ⟨h0, [], none, none, none, rfl, rfl, inv0, ⟨i0, hi0, hl0⟩, ?_, by rw [List.length_nil]; omega⟩ ?_) ?_
  · unfold chainOf
    rw [eq0]
  · rintro m _ _ ⟨c, r, x, y, z, rfl, rfl, inv, ⟨i, hi, him⟩, hch, hlen⟩
    have hc := inv.cells c List.mem_cons_self
    have hcd := (cellsOf_dim c hc).trans okB.len
    obtain ⟨n, rfl⟩ : ∃ n, m = n + 1 := ⟨m - 1, by omega⟩
    refine ⟨decide (1 < numN T0 D ls b c), ebs_eb (eb_test (ev_gtI (ev_dget (kvs := numOf T0 D ls b) (l := c) (ev_var rfl) (ev_var rfl) (num_lookup hc)) ev_int)), fun hb => ?_, fun hb => ?_⟩
    · obtain ⟨o, st, rest, e1, inv2, ⟨j, hj, hjn⟩, e2⟩ := chain_step fit inv hi him (of_decide_eq_true hb)
      have hcz : (causesOf T0 D ls b c).length ≤ 100000 := by
        have h1 := causes_len T0 D ls b c
        have h2 := okL.most
        omega
      refine sm_then (Γ' := [some sc, some L, some (dI b), some Nm, some (dI o), some (.own p), x, y, z]) (O' := [lstR K p ((c :: r).map pI)]) (sm_set (ev_ixL (i := ((0 : Nat) : Int)) (ds := (((causesOf T0 D ls b c).filter fun p => decide (numN T0 D ls b p.1 + p.2 = numN T0 D ls b c)).map fun p => pI p.1)) (ev_dat (ev_lcP0 (as := causesOf T0 D ls b c) (d1 := fun p => pI p.1) (d2 := fun p => .int p.2) (p := fun p => decide (numN T0 D ls b p.1 + p.2 = numN T0 D ls b c)) (f := fun p => pI p.1) (iv_of_map (g := pD) (ty := Ly.Ty.dat) (iv_L (ev_dat (ev_call (ea_cons (ev_var rfl) (ea_cons (ev_var rfl) (ea_cons (ev_var rfl) (ea_cons (ev_var rfl) ea_nil)))) ⟨T0, D, ls, b, c, h, k, rfl, hh, okD, wf, okL, okB, hcd, rfl⟩)))) hcz (by decide) (by decide) fun q hq => ⟨?_, fun _ => ev_var rfl⟩)) ev_int ?_)) ?_
      · exact eb_is (eb_test (ev_eqD (ev_addI (ev_dget (kvs := numOf T0 D ls b) (l := q.1) (ev_var rfl) (ev_var rfl) (num_lookup (cause_cell fit hcd (o := q.1) (st := q.2) hq))) (ev_var rfl)) (ev_dget (kvs := numOf T0 D ls b) (l := c) (ev_var rfl) (ev_var rfl) (num_lookup hc)) rfl rfl)) (eqv_int _ _)
      · rw [e1]
        exact atI_nat rfl
      · refine sm_weak (sm_insert (i := 5) (j := 0) (p := p) (ds := (c :: r).map pI) (T1 := (· = nI ((0 : Nat) : Int))) (T2 := (· = dI o)) rfl rfl (em_ev ev_int) (em_ev (ev_var rfl)) (fun t e => ⟨0, e, by decide⟩) (fun t e => ⟨_, e⟩) ?_) (fun Γ O ⟨h1, k2, d, h3, h4, h5⟩ => ⟨n, Nat.lt_succ_self n, o, c :: r, x, y, z, h1, ?_, inv2, ⟨j, hj, hjn⟩, ?_, ?_⟩) fun _ _ h => h
        · rw [List.length_map, List.length_cons]
          omega
        · have e3 : k2 = 0 := by
            injection h3 with h3
            injection h3 with h3
            omega
          injection h4 with h4
          subst e3 h4
          rw [h5]
          rfl
        · rw [← e2]
          exact hch
        · rw [List.length_cons]
          omega
    · refine ⟨x, y, z, some (dI c), rfl, ?_⟩
      rw [← hch, chain_stop (of_decide_eq_false hb)]
  · rintro _ _ ⟨x, y, z, u, rfl, rfl⟩
    exact sm_ret (ev_var rfl) ⟨p, rfl, rfl⟩
end
end Lk
/-! Gn: a generator's run from wake to wake; what is asked and told may change with the wake (ι: what is known at a wake). -/
namespace Gn
open PySem
open Sem (wp)
section
variable {ι : Type}
abbrev EndI (ι : Type) := ι → Result → Shared → Prop
abbrev ProI (ι : Type) := ι → Value → Shared → (ι → Shared → Prop) → Prop
def outI (R : EndI ι) (Y : ProI ι) (i : ι) (go : ι → Code → Sem Fin → List Frame → Shared → Prop) : End → Shared → Prop
  | .ret r, s => R i r s
  | .susp v g l k c p fs, s => (End.susp v g l k c p fs).quiet = true ∧ Y i v s fun j z => go j c (k (.send .none)) fs z
variable (M : Model) (A : Around) (R : EndI ι) (Y : ProI ι)
/-- n: at most so many items more -/
def Sg : Nat → ι → Code → Sem Fin → List Frame → Shared → Prop
  | 0, i, c, t, fs, s => ∀ Γ p, Γ.code = c → Γ.Woken A → ∃ e z, Runs M Γ p t fs s e z ∧ outI R Y i (fun _ _ _ _ _ => False) e z
  | n + 1, i, c, t, fs, s => ∀ Γ p, Γ.code = c → Γ.Woken A → ∃ e z, Runs M Γ p t fs s e z ∧ outI R Y i (fun j c' t' fs' z' => Sg n j c' t' fs' z') e z
def Sg.on : Nat → ι → Code → Sem Fin → List Frame → Shared → Prop
  | 0 => fun _ _ _ _ _ => False
  | n + 1 => fun j c t fs z => Sg M A R Y n j c t fs z
end
section
variable {ι : Type} {M : Model} {A : Around} {R : EndI ι} {Y : ProI ι} {n : Nat} {i : ι} {c : Code} {t : Sem Fin} {fs : List Frame} {s : Shared}
theorem sg_iff : Sg M A R Y n i c t fs s ↔ ∀ Γ p, Γ.code = c → Γ.Woken A → ∃ e z, Runs M Γ p t fs s e z ∧ outI R Y i (Sg.on M A R Y n) e z := by
  cases n <;> exact Iff.rfl
theorem sg_wrap {α : Type} {m : Sem α} {K : α → Sem Fin} {J : Value → Sem Fin} {gd : Bool → Bool} {lv : List Value → List Value} (h : wpAny M (A.over c fs) m (fun a z => Sg M A R Y n i c (K a) fs z) (fun x z => Sg M A R Y n i c (J x) fs z) s) : Sg M A R Y n i c (m.wrap K J gd lv) fs s := by
  refine sg_iff.mpr fun Γ p hc hW => ?_
  subst hc
  exact runs_wrap_of_wp K J gd lv m (h _ p (hW.over fs)) (fun a p1 z hz => sg_iff.mp hz Γ p1 rfl hW) fun x p1 z hz => sg_iff.mp hz Γ p1 rfl hW
theorem sg_at {q : Pos} {k : Unit → Sem Fin} (h : Sg M A R Y n i c (k ()) fs s) : Sg M A R Y n i c (.at q k) fs s := sg_wrap (m := standAt q) (K := k) (J := .raise) (gd := fun x => x) (lv := fun x => x) (wpAny_standAt h)
theorem sg_point {l : List Value} {k : Unit → Sem Fin} (h : Sg M A R Y n i c (k ()) fs s) : Sg M A R Y n i c (.point l k) fs s := sg_wrap (m := point) (K := k) (J := .raise) (gd := fun x => x) (lv := fun _ => l) (wpAny_point h)
theorem sg_call {c1 : Code} {o : Option Value} {g : Bool} {l : List Value} {k : Result → Sem Fin} (h : ∀ p, Sg M A R Y n i c1 (M.den c1) (.ret k o g l c p [] :: fs) s) : Sg M A R Y n i c (.call c1 o g l k) fs s := by
  refine sg_iff.mpr fun Γ p hc hW => ?_
  subst hc
  obtain ⟨e, z, r, q⟩ := sg_iff.mp (h p) (Γ.goto c1) p rfl (hW.goto c1)
  exact ⟨e, z, runs_call_seg r, q⟩
theorem sg_leaf {k : Result → Sem Fin} {o : Option Value} {g : Bool} {l kp : List Value} {c1 : Code} {p1 : Pos} (r : Result) (h : Sg M A R Y n i c1 (k r) fs s) : Sg M A R Y n i c (leafOf r) (.ret k o g l c1 p1 kp :: fs) s := by
  refine sg_iff.mpr fun Γ p hc hW => ?_
  subst hc
  obtain ⟨e, z, q1, q2⟩ := sg_iff.mp h (Γ.goto c1) p1 rfl (hW.goto c1)
  exact ⟨e, z, Runs.pop r q1, q2⟩
theorem sg_again {c1 : Code} (hq : c1.quiet = true) (h : Sg M A R Y n i c1 (M.den c1) fs s) : Sg M A R Y n i c (.pure (.again c1)) fs s := by
  refine sg_iff.mpr fun Γ p hc hW => ?_
  subst hc
  obtain ⟨e, z, q1, q2⟩ := sg_iff.mp h (Γ.goto c1) p rfl (hW.goto c1)
  exact ⟨e, z, Runs.head (c₁ := c1) (fun _ _ x => .again hq x) q1, q2⟩
theorem sg_end (r : Result) (h : R i r s) : Sg M A R Y n i c (leafOf r) [] s := sg_iff.mpr fun Γ p hc _ => by
  subst hc
  exact
      ⟨.ret r, s, Runs.leaf r, h⟩
theorem sg_yield {v : Value} {g : Bool} {l : List Value} {k : Resume → Sem Fin} (h1 : splitAtGen fs = none) (h2 : g = false) (h3 : fs.any Frame.guarded = false) (h : Y i v s fun j z => Sg M A R Y n j c (k (.send .none)) fs z) : Sg M A R Y (n + 1) i c (.yield v g l k) fs s := fun Γ p hc _ => by
  subst hc
  refine ⟨_, s, Runs.yield' fs h1, ?_, h⟩
  simp [End.quiet, h2, h3]
end
/-- no object stands there, none will -/
def Dead (s : Shared) (b : Addr) : Prop := b < s.heap.objs.size ∧ s.heap.get? b = none
theorem dead_push {h : Heap} {o : Obj} {b : Addr} (h1 : b < h.objs.size) (h2 : h.get? b = none) : b < (h.push o).objs.size ∧ (h.push o).get? b = none := by
  refine ⟨by rw [Heap.size_push]; exact Nat.lt_succ_of_lt h1, ?_⟩
  have e : (h.push o).get? b = h.get? b := by
    show (match (h.objs.push o)[b]? with | some ⟨_, _, .freed, _⟩ => none | o => o) = _
    rw [Array.getElem?_push_lt h1]
    unfold Heap.get?
    rw [Array.getElem?_eq_getElem h1]
    rfl
  rw [e]
  exact h2
theorem dead_update {h : Heap} {a b : Addr} {f : Obj → Obj} (ha : (h.get? a).isSome) (h1 : b < h.objs.size) (h2 : h.get? b = none) : b < (h.update a f).objs.size ∧ (h.update a f).get? b = none := by
  have ne : a ≠ b := fun e => by
    subst e
    rw [h2] at ha
    cases ha
  have z := (Heap.SameBut.update h a f)
  exact ⟨by rw [z.1]; exact h1, (z.2 b (Ne.symm ne)).trans h2⟩
theorem runs_dead {M : Model} {b : Addr} {Γ : Ctx} {p : Pos} {t : Sem Fin} {fs : List Frame} {s s' : Shared} {e : End} (h : Runs M Γ p t fs s e s') : Dead s b → Dead s' b := by
  induction h with
  | update ha _ ih => exact fun d => ih (dead_update ha d.1 d.2)
  | alloc _ ih => exact fun d => ih (dead_push d.1 d.2)
  | call _ _ ih1 ih2 => exact fun d => ih2 (ih1 d)
  | resumeFresh _ _ _ _ ih1 ih2 => exact fun d => ih2 (ih1 d)
  | resumeSuspended _ _ _ _ ih1 ih2 => exact fun d => ih2 (ih1 d)
  | segRet _ _ ih1 ih2 => exact fun d => ih2 (ih1 d)
  | segGen _ _ ih1 ih2 => exact fun d => ih2 (ih1 d)
  | segSuspGen _ _ _ _ ih1 ih2 => exact fun d => ih2 (ih1 d)
  | done => exact fun d => d
  | raise => exact fun d => d
  | yield => exact fun d => d
  | _ => assumption
/-- woken -/
def Goes {ι : Type} (M : Model) (A : Around) (R : EndI ι) (Y : ProI ι) (n : Nat) (i : ι) : GenState → Shared → Prop
  | .fresh c, s => Sg M A R Y n i c (M.den c) [] s
  | .suspended k _ c _ fs _, s => Sg M A R Y n i c (k (.send .none)) fs s
  | _, _ => False
/-- .. once more -/
def Goes.on {ι : Type} (M : Model) (A : Around) (R : EndI ι) (Y : ProI ι) : Nat → ι → GenState → Shared → Prop
  | 0, _, _, _ => False
  | m + 1, i, gs, s => Goes M A R Y m i gs s
section
variable {ι : Type} {M : Model} {A : Around} {R : EndI ι} {Y : ProI ι} {n : Nat} {i : ι}
theorem wpAny_wake {E : Value → Shared → Prop} {s : Shared} {g : Nat} {gs : GenState} {l : List Value} {α : Type} {k : GenResult → Sem α} {Q : α → Shared → Prop} (hg : s.gens[g]? = some gs) (hgo : Goes M A R Y n i gs (s.setGen g .running))
    (hR : ∀ x z, (∀ b, Dead s b → Dead z b) ∧ s.gens.size ≤ z.gens.size → R i x z → wpAny M A (k (End.ret x).result) Q E (z.setGen g .finished))
    (hY : ∀ v z gs', (∀ b, Dead s b → Dead z b) ∧ s.gens.size ≤ z.gens.size → gs'.bare = true → Fz.asleep gs' = true → Y i v z (fun j z' => Goes.on M A R Y n j gs' z') → wpAny M A (k (.yielded v)) Q E (z.setGen g gs')) :
    wpAny M A (.resume g (.send .none) l k) Q E s := by
  intro Γ p hΓ
  rw [Sem.wp_resume]
  have fin : ∀ e z, (∀ b, Dead s b → Dead z b) ∧ s.gens.size ≤ z.gens.size → outI R Y i (Sg.on M A R Y n) e z → e.quiet = true ∧ wp M Γ (k e.result) (fun a _ z' => Q a z') (fun x _ z' => E x z') p (z.setGen g e.genState) := fun e z hd he => by
    cases e with
    | ret x => exact ⟨rfl, hR x z hd he Γ p hΓ⟩
    | susp v g0 l0 k0 c0 p0 fs0 =>
      refine ⟨he.1, hY v z _ hd (End.bare_of_quiet he.1) rfl ?_ Γ p hΓ⟩
      cases n with
      | zero => exact he.2
      | succ m => exact he.2
  have go : ∀ (c : Code) (t : Sem Fin) (fs : List Frame) (p0 : Pos), Sg M A R Y n i c t fs (s.setGen g .running) → ∃ e z, Runs M (Γ.wake c p) p0 t fs (s.setGen g .running) e z ∧ ((∀ b, Dead s b → Dead z b) ∧ s.gens.size ≤ z.gens.size) ∧ outI R Y i (Sg.on M A R Y n) e z := fun c t fs p0 h => (by obtain ⟨e, z, q1, q2⟩ := sg_iff.mp h (Γ.wake c p) p0 rfl (hΓ.wake c p); exact ⟨e, z, q1, ⟨fun b d => runs_dead q1 d, by have h1 := GenW.runs_gsz q1; rw [GenW.setGen_size] at h1; exact h1⟩, q2⟩)
  cases gs with
  | fresh c =>
    obtain ⟨e, z, r, hd, q⟩ := go c _ [] p hgo
    exact ⟨_, _, (by unfold Wakes; rw [hg]; exact ⟨e, z, r, (fin e z hd q).1, rfl, rfl⟩), (fin e z hd q).2⟩
  | suspended k0 l0 c0 p0 fs0 cl =>
    obtain ⟨e, z, r, hd, q⟩ := go c0 _ fs0 p0 hgo
    exact ⟨_, _, (by unfold Wakes; rw [hg]; exact ⟨e, z, r, (fin e z hd q).1, rfl, rfl⟩), (fin e z hd q).2⟩
  | running => exact hgo.elim
  | finished => exact hgo.elim
end
end Gn
/-! Gm: the statements of a generator, no exception in sight. -/
namespace Gn
open PySem
open Sem (wp)
section
variable {ι : Type} {M : Model} {A : Around} {R : EndI ι} {Y : ProI ι} {n : Nat} {i : ι} {c : Code} {fs : List Frame} {s : Shared} {env0 : Env} {K : Flow → Sem Fin} {J : Value → Sem Fin} {gd : Bool → Bool} {lv : List Value → List Value}
theorem sg_nil (h : Sg M A R Y n i c (K .next) fs s) : Sg M A R Y n i c ((execs [] env0).wrap K J gd lv) fs s := h
theorem sg_cons {st : Stmt} {rest : List Stmt} (h : Sg M A R Y n i c ((exec st env0).wrap (fun f => match f with | .next => (execs rest env0).wrap K J gd lv | f => K f) J gd lv) fs s) : Sg M A R Y n i c ((execs (st :: rest) env0).wrap K J gd lv) fs s := by
  rw [execs_cons_wrap]
  exact h
theorem sg_plain {st : Stmt} {Q : Flow → Shared → Prop} (h : wpAny M (A.over c fs) (exec st env0) Q (fun _ _ => False) s) (k : ∀ f z, Q f z → Sg M A R Y n i c (K f) fs z) : Sg M A R Y n i c ((exec st env0).wrap K J gd lv) fs s :=
  sg_wrap (wpAny_mono h k fun _ _ z => z.elim)
/-- yield e0, as a statement -/
theorem sg_ExprYield {e0 : Expr} {yp pos0 : Pos} (h1 : splitAtGen fs = none) (h2 : gd false = false) (h3 : fs.any Frame.guarded = false)
    (h : wpAny M (A.over c fs) (eval e0 env0) (fun v z => Y i v z fun j z' => Sg M A R Y n j c (K .next) fs z') (fun _ _ => False) s) (hco0 : env0.scope.isCoroutine = false := by rfl) (hi0 : interactive env0 = false := by rfl) :
    Sg M A R Y (n + 1) i c ((exec (.Expr (.Yield (some e0) yp) pos0) env0).wrap K J gd lv) fs s := by
  rw [exec_Expr env0 _ pos0 hi0 rfl]
  show Sg M A R Y (n + 1) i c (.at pos0 fun _ => ((eval e0 env0 >>= fun v => (standAt yp >>= fun _ => yieldOut env0 v)) >>= fun x => dropValue (.Yield (some e0) yp) pos0 x).wrap K J gd lv) fs s
  have hy0 : ∀ v, yieldOut env0 v = yieldValue v := fun v => by simp only [yieldOut, hco0, Bool.false_eq_true, if_false]
  simp only [hy0]
  refine sg_at ?_
  rw
      [Sem.bind_eq_wrap', Sem.bind_eq_wrap', Sem.wrap_wrap, Sem.wrap_wrap]
  refine sg_wrap (wpAny_mono h (fun v z hz => ?_) fun _ _ x => x.elim)
  exact sg_at (sg_yield h1 h2 h3 hz)
theorem sg_For {tg iter : Expr} {body0 orelse : List Stmt} {pos0 : Pos} (hs : ∀ x, foldedSetIterable iter env0 x = pure x)
    (h : wpAny M (A.over c fs) (eval iter env0) (fun x s1 => wpAny M (A.over c fs) (pyIter x) (fun it s2 => ∀ p l, Sg M A R Y n i (.forLoop tg it body0 orelse env0) (M.den (.forLoop tg it body0 orelse env0)) (.ret (fun r => ((match r with | .ok f => (.pure f : Sem Flow) | .error e0 => .raise e0).onRaise fun (x : Value) => do
        if (← field x 1) == Value.none then
            unsupported "frame.own-activation:exception-without-traceback"
        setFlight x env0.frame).wrap K J gd lv) none (gd false) l c p [] :: fs) s2) (fun _ _ => False) s1) (fun _ _ => False) s) :
    Sg M A R Y n i c ((exec (.For tg iter body0 orelse pos0) env0).wrap K J gd lv) fs s := by
  rw [exec_For]
  refine sg_at ?_
  show Sg M A R Y n i c ((eval iter env0 >>= fun v => foldedSetIterable iter env0 v >>= fun x => standAt iter.pos >>= fun _ => holding [x] (pyIter x) >>= fun it => runOwn (.forLoop tg it body0 orelse env0) env0).wrap K J gd lv) fs s
  rw [Sem.bind_eq_wrap', Sem.wrap_wrap]
  refine sg_wrap (wpAny_mono h (fun x s1 h1 => ?_) fun _ _ z => z.elim)
  rw [hs x]
  show Sg M A R Y n i c ((standAt iter.pos >>= fun _ => holding [x] (pyIter x) >>= fun it => runOwn (.forLoop tg it body0 orelse env0) env0).wrap K J gd lv) fs s1
  refine sg_at ?_
  show Sg M A R Y n i c ((holding [x] (pyIter x) >>= fun it => runOwn (.forLoop tg it body0 orelse env0) env0).wrap K J gd lv) fs s1
  rw [Sem.bind_eq_wrap', Sem.wrap_wrap]
  refine sg_wrap (wpAny_holding (wpAny_mono h1 (fun it s2 h2 => ?_) fun _ _ z => z.elim))
  exact sg_call fun p => h2 p _
end
section
variable {ι : Type} {prog0 : Program} {w0 : World} {A : Around} {R : EndI ι} {Y : ProI ι} {n : Nat} {i : ι} {fs : List Frame} {s : Shared} {env0 : Env}
/-- the loop's own code -/
theorem sg_forLoop {tg : Expr} {it : Value} {body0 : List Stmt}
    (h : wpAny (model prog0 w0) (A.over (.forLoop tg it body0 [] env0) fs) (pyNext it) (fun r s1 => match r with
      | none => Sg (model prog0 w0) A R Y n i (.block [] env0) (.pure (.done .next)) fs s1
      | some v => wpAny (model prog0 w0) (A.over (.forLoop tg it body0 [] env0) fs) (letOwnedTupleGo tg it v) (fun _ s2 => wpAny (model prog0 w0) (A.over (.forLoop tg it body0 [] env0) fs) (assign tg env0 v) (fun _ s3 =>
          Sg (model prog0 w0) A R Y n i (.forLoop tg it body0 [] env0) ((execs body0 env0).wrap (fun f => match f with
            | .next | .cont => .pure (.again (.forLoop tg it body0 [] env0))
            | .brk => .pure (.done .next)
            | .ret v => .pure (.done (.ret v))) (fun e0 => (do noteFrame e0 env0; theTreesLotGoes e0 : Sem Unit).wrap (fun _ => .raise e0) .raise id id) id id) fs s3) (fun _ _ => False) s2) (fun _ _ => False) s1) (fun _ _ => False) s) :
    Sg (model prog0 w0) A R Y n i (.forLoop tg it body0 [] env0) ((model prog0 w0).den (.forLoop tg it body0 [] env0)) fs s := by
  show Sg _ A R Y n i _ ((forTurn tg it body0 [] env0).onRaise (fun x => do noteFrame x env0; theTreesLotGoes x)) fs s
  unfold forTurn
  rw [Sem.onRaise_eq_wrap]
  refine sg_at ?_
  show Sg _ A R Y n i _ ((((pyNext it).onRaise fun _ => standAt { tg.pos with line := 0 }) >>= _).wrap _ _ _ _) fs s
  rw [Sem.bind_eq_wrap', Sem.wrap_wrap]
  refine sg_wrap (wpAny_onRaise (wpAny_mono h (fun r s1 h1 => ?_) fun _ _ z => z.elim))
  cases r with
  | none =>
    show Sg _ A R Y n i _ (.pure (.again (.block [] env0))) fs s1
    exact sg_again rfl h1
  | some v =>
    show Sg _ A R Y n i _ ((letOwnedTupleGo tg it v >>= _).wrap _ _ _ _) fs s1
    rw [Sem.bind_eq_wrap', Sem.wrap_wrap]
    refine sg_wrap (wpAny_mono h1 (fun _ s2 h2 => ?_) fun _ _ z => z.elim)
    show Sg _ A R Y n i _ ((assign tg env0 v >>= _).wrap _ _ _ _) fs s2
    rw [Sem.bind_eq_wrap', Sem.wrap_wrap]
    refine sg_wrap (wpAny_mono h2 (fun _ s3 h3 => ?_) fun _ _ z => z.elim)
    show Sg _ A R Y n i _ ((execs body0 env0 >>= _).wrap _ _ _ _) fs s3
    rw [Sem.bind_eq_wrap', Sem.wrap_wrap]
    rw [Sem.wrap_congr (execs body0 env0) _ _ (K' := fun f => match f with
            | .next | .cont => .pure (.again (.forLoop tg it body0 [] env0))
            | .brk => .pure (.done .next)
            | .ret v => .pure (.done (.ret v))) (H' := (fun e0 => (do noteFrame e0 env0; theTreesLotGoes e0 : Sem Unit).wrap (fun _ => .raise e0) .raise id id))
        (fun f => by cases f <;> rfl)
        (fun e0 => by first | exact Sem.bind_eq_wrap _ _ | (show (do noteFrame e0 env0; theTreesLotGoes e0 : Sem Unit).bind (fun _ => .raise e0) = _; rw [Sem.bind_eq_wrap]))]
    exact h3
theorem sg_func {body0 : List Stmt} (h : Sg (model prog0 w0) A R Y n i (.func body0 env0) ((execs body0 env0).wrap (fun f => .pure (.done (.ret (match f with | .ret v => v | _ => .none)))) (fun e0 => (leaving env0 e0).wrap (fun _ => .raise e0) .raise id id) id id) fs s) :
    Sg (model prog0 w0) A R Y n i (.func body0 env0) ((model prog0 w0).den (.func body0 env0)) fs s := by
  show Sg (model prog0 w0) A R Y n i _ (.point [] fun _ => ((execs body0 env0).onRaise (leaving env0)) >>= _) fs s
  refine sg_point ?_
  rw
      [Sem.onRaise_eq_wrap, Sem.bind_eq_wrap', Sem.wrap_wrap]
  rw [Sem.wrap_congr (execs body0 env0) _ _ (K' := fun f => .pure (.done (.ret (match f with | .ret v => v | _ => .none)))) (H' := fun e0 => (leaving env0 e0).wrap (fun _ => .raise e0) .raise id id) (fun f => by cases f <;> rfl) (fun e0 => by rw [Sem.bind_eq_wrap, Sem.wrap_wrap]; rfl)]
  exact h
/-- next(g) -/
theorem next_Sg {a : Addr} {g : Nat} {gs : GenState} {F : ι → Shared → Prop} {E0 : Value → Shared → Prop} {Q : Option Value → Shared → Prop} (hh0 : A.handled = none) (hl0 : s.heap.NoLimit) (hroom0 : A.depth < recursionLimit) (hg0 : s.heap.IsGen a g) (hgs0 : s.gens[g]? = some gs)
    (hgo : Goes (model prog0 w0) A.in1 (fun i r z => (r = .ok (.ret .none) ∨ r = .ok .next) ∧ F i z) Y n i gs (s.setGen g .running))
    (hY : ∀ v z gs', (∀ b, Dead s b → Dead z b) ∧ s.gens.size ≤ z.gens.size → gs'.bare = true → Fz.asleep gs' = true → Y i v z (fun j z' => Goes.on (model prog0 w0) A.in1 (fun i r z => (r = .ok (.ret .none) ∨ r = .ok .next) ∧ F i z) Y n j gs' z') → Q (some v) (z.setGen g gs'))
    (hP : ∀ z, (∀ b, Dead s b → Dead z b) ∧ s.gens.size ≤ z.gens.size → F i z → ∀ h', (∀ b o, z.heap.get? b = some o → h'.get? b = some o) → Q none { z.setGen g .finished with heap := h' }) :
    wpAny (model prog0 w0) A (pyNext (.ref a)) Q E0 s := by
  unfold pyNext
  refine wpAny_bind (wpAny_attempt (wpAny_callSpecial?_slot (name := Str.ofString "__next__") hg0.typeIs slot_gen_next (wpAny_call_entry slot_gen_next hg0.typeIs entry_gen_next ?_ (args_gen_next _))))
  show
      wpAny _ A.in1 (Builtin.Generator.genWake (.ref a) (.send .none)) _ _ s
  unfold
      Builtin.Generator.genWake
  refine wpAny_bind (wpAny_holding (wpAny_genNumber hg0 (wpAny_bind (wpAny_genState hgs0 ?_))))
  cases gs with
  | running => exact hgo.elim
  | finished => exact hgo.elim
  | _ =>
    refine wpAny_bind (wpAny_roomToWake hl0 hroom0 ?_)
    show
        wpAny _ A.in1 (.resume g (.send .none) [] _) _ _ s
    refine wpAny_wake hgs0 hgo (fun x z hd hx => ?_) (fun v z gs' hd hb ha hv => ?_)
    · obtain ⟨hr, hp⟩ := hx
      have hres0 : End.result (.ret x) = .returned .none := by rcases hr with hr | hr <;> rw [hr] <;> rfl
      first | rw [hres0] | simp only [hres0]
      show
          wpAny _ A.in1 (newExc (.type "StopIteration") [] >>= _) _ _ _
      refine wpAny_bind ?_
      simp only [newExc, newTuple]
      refine
          wpAny_bind (wpAny_newObj_type ?_ (by size_fits))
      refine
          wpAny_bind (m := firstArgMember _ _) (wpAny_of_eq (a := Value.none) (by first | rfl | (simp only [firstArgMember]; rfl)) ?_)
      refine
          wpAny_newObj_type ?_ (by size_fits)
      simp only [raiseNew]
      refine
          wpAny_bind (wpAny_bind (wpAny_handled ?_))
      first | rw [show A.in1.handled = none from hh0] | rw [hh0]
      refine wpAny_throw ?_
      refine
          wpAny_bind (wpAny_isInstance (T := "StopIteration") (b := true) ⟨_, Heap.get?_push_size _ rfl, rfl⟩ isSubtype_stop ?_)
      exact wpAny_pure (hP z hd hp _ fun b o hb => Heap.get?_push_of_some _ (Heap.get?_push_of_some _ hb))
    · exact wpAny_pure ⟨v, rfl, wpAny_pure (hY v z gs' hd hb ha hv)⟩
end
end Gn
/-! Gx: the generator's context, built anew at each wake. -/
namespace Gn
open PySem PySem.Spec PyProof.Rows L2 Ly
/-- what of a generator's run stays the same -/
structure Gp where
  P : Program
  w : World
  K : PySem.W.Frag
  mg : Str → Option Value
  base : Heap
  N : List Str
  env : Env
  A : Around
  outer : List Env
abbrev Gp.L (Z : Gp) : Addr := Z.env.locals
def cutH (h : Heap) (n : Nat) : Heap := ⟨h.objs.extract 0 n, h.life⟩
theorem cut_lt {h : Heap} {n b : Nat} (hb : b < n) : (cutH h n).get? b = h.get? b := by
  unfold cutH Heap.get?
  have e : (h.objs.extract 0 n)[b]? = h.objs[b]? := by
    rw [Array.getElem?_extract]
    by_cases h1 : b < h.objs.size
    · rw [if_pos (by omega), Nat.zero_add]
    · rw
          [if_neg (by omega), Array.getElem?_eq_none (by omega)]
  rw [e]
theorem cut_size {h : Heap} {n : Nat} : (cutH h n).objs.size = min n h.objs.size := by
  unfold cutH
  rw [Array.size_extract]
  omega
theorem cut_of {h : Heap} {n b : Nat} {o : Obj} (e : (cutH h n).get? b = some o) : b < n ∧ h.get? b = some o := by
  have hb : b < n := by
    have h1 := Heap.lt_size e
    have h2 : b < min n h.objs.size := by rw [← cut_size]; exact h1
    omega
  rw [cut_lt hb] at e
  exact ⟨hb, e⟩
structure Gp.Ok (Z : Gp) : Prop where
  mod : Mod Z.K Z.mg Z.base
  kind : Z.env.scope.kind = .function
  glob : Z.env.globals = mainGlobals
  blt : Z.env.builtins = builtinsNs
  cells : ∀ x, Z.env.cells.lookup x = none
  nocell : ∀ x, ¬ (Z.env.kindOf x = some .cell ∨ Z.env.kindOf x = some .free)
  hd : Z.A.handled = none
  frames : Z.A.frames = some (Z.env :: Z.outer)
  fr : Z.env.frame = some Z.env.locals
  bsz : Z.base.objs.size ≤ Z.env.locals
  olt : ∀ b ∈ frs Z.outer, b < Z.env.locals
def gx (Z : Gp) (s0 : Shared) (H0 : Hp) : Cx where
  prog := Z.P
  w := Z.w
  K := Z.K
  mg := Z.mg
  base := Z.base
  A := Z.A
  N := Z.N
  s_0 := { s0 with heap := cutH s0.heap Z.env.locals }
  H_0 := H0
  env := Z.env
  outer := Z.outer
  stack := Z.env :: Z.outer
  ex := []
  fn := fun _ => true
  calm := true
  pn := []
  xe := fun _ _ => False
/-- what holds of a state -/
structure At0 (Z : Gp) (σ : L2.St) (H : Hp) (s : Shared) : Prop where
  bare : AllBare s.gens
  bs : ∀ b o, Z.base.get? b = some o → s.heap.get? b = some o ∧ H b = none
  funs : s.heap.FunFrames Z.base Z.outer
  frf : ∀ b ∈ frs Z.outer, H b = none
  loc : ∃ m, s.heap.Ns Z.env.locals m ∧ ∀ (i : Nat) (x : Str) (v : V), Z.N[i]? = some x → σ[i]? = some (some v) → Vis Z.env.scope x → ∃ u, RelV v u ∧ Look Z.env s.heap m x u
  free : H Z.env.locals = none
  hok : HOk Z.P Z.w H s.heap
  len : σ.length = Z.N.length
def PinAt (Z : Gp) (H : Hp) (s : Shared) (p : Addr × Obj) : Prop := s.heap.get? p.1 = some p.2 ∧ H p.1 = none ∧ p.1 ≠ Z.env.locals ∧ p.1 ∉ frs Z.outer ∧ ∀ v, p.2.data ≠ .cell v
section
variable {Z : Gp} {σ : L2.St} {H H0 : Hp} {s s0 : Shared} {pins : List (Addr × Obj)}
theorem At0.lt (a : At0 Z σ H s) : Z.env.locals < s.heap.objs.size := by
  obtain ⟨m, hn, _⟩ := a.loc
  exact hn.lt
theorem cut_funs {h base : Heap} {n : Nat} : ∀ {l : List Env}, (∀ b ∈ frs l, b < n) → h.FunFrames base l → (cutH h n).FunFrames base l
  | [], _, _ => trivial
  | env :: r, hb, h => by
    obtain ⟨hk, ⟨L, o, hf, hn, ho, hd⟩, hr⟩ := h
    have e : frs (env :: r) = L :: frs r := by
      unfold frs
      rw [List.filterMap_cons, hf]
    refine ⟨hk, ⟨L, o, hf, hn, ?_, hd⟩, cut_funs (fun b hb' => hb b (by rw [e]; exact List.mem_cons_of_mem _ hb')) hr⟩
    rw [cut_lt (hb L (by rw [e]; exact List.mem_cons_self))]
    exact ho
theorem gx_inv (ok : Z.Ok) (a : At0 Z σ H s) (hp : ∀ p ∈ pins, PinAt Z H s p) : Inv (gx Z s H) pins σ H s := by
  refine ⟨⟨ok.mod, ok.kind, ok.glob, ok.blt, ?_, fun x y c h1 _ => ?_, fun x hx => absurd hx (ok.nocell x), fun x c _ h1 => ?_, fun _ => ok.hd, ok.frames, .inr ⟨rfl, ok.fr⟩, fun b hb => (nomatch hb), fun b o e => ⟨?_, (a.bs b o e).2⟩, ?_, fun b o _ hb => (nomatch hb), fun b hb => (nomatch hb), cut_funs ok.olt a.funs, a.frf⟩, rfl, a.bare, ?_, a.loc, fun x c h1 => ?_, a.free, fun x c h1 => ?_, ?_, a.hok, a.len⟩
  · show (cutH s.heap Z.env.locals).objs.size ≤ Z.env.locals
    rw [cut_size]
    omega
  · have h1 : Z.env.cells.lookup x = some c := h1
    rw [ok.cells x] at h1
    cases h1
  · have h1 : Z.env.cells.lookup x = some c := h1
    rw [ok.cells x] at h1
    cases h1
  · show (cutH s.heap Z.env.locals).get? b = some o
    rw [cut_lt (Nat.lt_of_lt_of_le (Heap.lt_size e) ok.bsz)]
    exact (a.bs b o e).1
  · show Z.base.objs.size ≤ (cutH s.heap Z.env.locals).objs.size
    rw [cut_size]
    exact Nat.le_min.mpr ⟨ok.bsz, Nat.le_trans ok.bsz (Nat.le_of_lt a.lt)⟩
  · exact Un.kept fun b u e => (cut_of e).2
  · have h1 : Z.env.cells.lookup x = some c := h1
    rw [ok.cells x] at h1
    cases h1
  · have h1 : Z.env.cells.lookup x = some c := h1
    rw [ok.cells x] at h1
    cases h1
  · intro p hp'
    exact hp p hp'
theorem inv_gx (I : Inv (gx Z s0 H0) pins σ H s) : At0 Z σ H s := ⟨I.bare, I.bs, I.funs, fun b hb => I.stkFree b (by
  show b ∈ frs (Z.env :: Z.outer)
  unfold frs
  rw [List.filterMap_cons]
  split
  · exact hb
  · exact List.mem_cons_of_mem _ hb), I.loc, I.free, I.hok, I.len⟩
/-- less is tracked -/
theorem At0.less {H' : Hp} (a : At0 Z σ H s) (h : ∀ b, H b = none → H' b = none) (hok : HOk Z.P Z.w H' s.heap) : At0 Z σ H' s := ⟨a.bare, fun b o e => ⟨(a.bs b o e).1, h b (a.bs b o e).2⟩, a.funs, fun b hb => h b (a.frf b hb), a.loc, h _ a.free, hok, a.len⟩
/-- the generator sleeps -/
theorem At0.wake {s' : Shared} (ok : Z.Ok) (a : At0 Z σ H s) (hb : AllBare s'.gens) (bs : ∀ b o, Z.base.get? b = some o → s'.heap.get? b = some o) (fu : s'.heap.FunFrames Z.base Z.outer) (hL : ∀ o, s.heap.get? Z.env.locals = some o → s'.heap.get? Z.env.locals = some o) (hok : HOk Z.P Z.w H s'.heap) : At0 Z σ H s' := by
  obtain ⟨m, ⟨o, es, ep, ho, r⟩, hl⟩ := a.loc
  refine ⟨hb, fun b o e => ⟨bs b o e, (a.bs b o e).2⟩, fu, a.frf, ⟨m, ⟨o, es, ep, hL o ho, r⟩, fun i x v e1 e2 e3 => ?_⟩, a.free, hok, a.len⟩
  obtain ⟨u, r1, l⟩ := hl i x v e1 e2 e3
  refine ⟨u, r1, ?_⟩
  rcases l with l | ⟨k, _⟩
  · exact .inl l
  · exact absurd k (ok.nocell x)
/-- more is tracked -/
theorem At0.more {H' : Hp} (a : At0 Z σ H s) (h1 : ∀ b o, Z.base.get? b = some o → H' b = none) (h2 : ∀ b ∈ frs Z.outer, H' b = none) (h3 : H' Z.env.locals = none) (hok : HOk Z.P Z.w H' s.heap) : At0 Z σ H' s := ⟨a.bare, fun b o e => ⟨(a.bs b o e).1, h1 b o e⟩, a.funs, h2, a.loc, h3, hok, a.len⟩
end
end Gn
/-! Gy: what is told at a yield, what is asked at a wake. -/
namespace Gn
open PySem PySem.Spec PyProof.Rows L2 Ly
/-- a wake: the state, what is tracked, what is the generator's own, how many items are out -/
structure Wk where
  s : Shared
  H : Hp
  own : List Addr
  k : Nat
structure WkOk (Z : Gp) (box : Addr) (bx : List V) (i : Wk) : Prop where
  lt : Z.env.locals < i.s.heap.objs.size
  tup : i.H box = some (.tup bx) ∨ (i.H box = none ∧ box < Z.env.locals ∧ box ∉ i.own ∧ box ∉ frs Z.outer ∧ ObjOk Z.P Z.w (fun _ => none) i.s.heap box (.tup bx))
  frz : ∀ b o, Z.env.locals ≤ b → b ∉ i.own → i.s.heap.get? b = some o → i.H b = some (.frz o (.own 0))
  low : ∀ b, b < Z.env.locals → b ≠ box → b ∉ i.own → i.H b = none
/-- what is not the generator's own stands as it stood -/
structure KeptTo (Z : Gp) (box : Addr) (bx : List V) (i : Wk) (s : Shared) : Prop where
  keep : ∀ b o, i.s.heap.get? b = some o → b ∉ i.own → b ∉ frs Z.outer → b ≠ box → s.heap.get? b = some o
  slot : ∀ b o, i.s.heap.get? b = some o → b ∈ frs Z.outer → ∃ sl, s.heap.get? b = some { o with slots := sl }
  box : ObjOk Z.P Z.w (fun _ => none) s.heap box (.tup bx)
  os : s.os = i.s.os
  bare : AllBare s.gens
structure Rdy (Z : Gp) (box : Addr) (bx : List V) (own : List Addr) (s s' : Shared) : Prop where
  bare : AllBare s'.gens
  os : s'.os = s.os
  bs : ∀ b o, Z.base.get? b = some o → s'.heap.get? b = some o
  funs : s'.heap.FunFrames Z.base Z.outer
  keep : ∀ b ∈ own, ∀ o, s.heap.get? b = some o → s'.heap.get? b = some o
  box : ObjOk Z.P Z.w (fun _ => none) s'.heap box (.tup bx)
def YG (Z : Gp) (box : Addr) (bx : List V) (its : List (List Int)) : ProI Wk := fun i v s kap =>
  ∃ q c own, v = .ref q ∧ its[i.k]? = some c ∧ ObjOk Z.P Z.w (fun _ => none) s.heap q (.tup (c.map V.int)) ∧ KeptTo Z box bx i s ∧ (∀ o, i.s.heap.get? q = some o → q ∈ i.own) ∧
    (∀ b ∈ own, (∃ o, s.heap.get? b = some o ∧ ∀ v, o.data ≠ .cell v) ∧ (∀ o, i.s.heap.get? b = some o → b ∈ i.own) ∧ b ∉ frs Z.outer ∧ b ≠ q ∧ b ≠ box) ∧
    ∀ s', Rdy Z box bx own s s' → ∃ j : Wk, j.s = s' ∧ j.own = own ∧ j.k = i.k + 1 ∧ kap j s'
def FG (Z : Gp) (box : Addr) (bx : List V) (its : List (List Int)) (i : Wk) (s : Shared) : Prop := i.k = its.length ∧ KeptTo Z box bx i s
def RG (Z : Gp) (box : Addr) (bx : List V) (its : List (List Int)) : EndI Wk := fun i r s => (r = .ok (.ret .none) ∨ r = .ok .next) ∧ FG Z box bx its i s
section
variable {Z : Gp} {box : Addr} {bx : List V} {i : Wk} {pins : List (Addr × Obj)} {σ : L2.St} {H : Hp} {s s' : Shared}
theorem tup_any {P : Program} {w : World} {H H' : Hp} {h : Heap} {a : Addr} {xs : List V} (x : ObjOk P w H h a (.tup xs)) : ObjOk P w H' h a (.tup xs) := x
theorem kept_to (ok : WkOk Z box bx i) (I : Inv (gx Z i.s i.H) pins σ H s) : KeptTo Z box bx i s := by
  have low : ∀ b o, b < Z.env.locals → i.s.heap.get? b = some o → ((gx Z i.s i.H).s_0.heap).get? b = some o := fun b o hb e0 => by
    show (cutH i.s.heap Z.env.locals).get? b = some o
    rw [cut_lt hb]
    exact e0
  refine ⟨fun b o e0 ho hf hb => ?_, fun b o e0 hf => ?_, ?_, I.os, I.bare⟩
  · by_cases hlt : b < Z.env.locals
    · exact I.base.keep b o (low b o hlt e0) (ok.low b hlt hb ho) hf (fun z0 => nomatch z0)
    · have h1 := I.base.frzs b o _ (ok.frz b o (Nat.le_of_not_lt hlt) ho e0)
      exact (show _ ∧ _ from I.hok b _ h1).1
  · have hH : i.H b = none := I.ok.frf b hf
    obtain ⟨_, o', ho', _⟩ := I.ok.funs.mem hf
    have hlt : b < Z.env.locals := (cut_of (show (cutH i.s.heap Z.env.locals).get? b = some o' from ho')).1
    exact I.base.slot b o (low b o hlt e0) hH hf (fun z0 => nomatch z0)
  · rcases ok.tup with h | ⟨h1, h2, h3, h4, h5⟩
    · exact tup_any (I.hok box _ (I.base.tups box bx h))
    · obtain ⟨l, its, r, ob, e0, c⟩ := h5
      refine ⟨l, its, r, ob, ?_, c⟩
      exact I.base.keep box ob (low box ob h2 e0) h1 h4 (fun z0 => nomatch z0)
/-- what is tracked anew is nobody else's -/
theorem new_own (ok : WkOk Z box bx i) (I : Inv (gx Z i.s i.H) pins σ H s) {q : Addr} {u : HO} (hq : H q = some u) (hu : ∀ o, u ≠ .frz o (.own 0)) (hb : q ≠ box) : ∀ o, i.s.heap.get? q = some o → q ∈ i.own := fun o e0 => by
  refine Classical.byContradiction fun hn0 => ?_
  by_cases hlt : q < Z.env.locals
  · have h1 := ok.low q hlt hb hn0
    have e1 : ((gx Z i.s i.H).s_0.heap).get? q = some o := by
      show (cutH i.s.heap Z.env.locals).get? q = some o
      rw [cut_lt hlt]
      exact e0
    have h2 := I.base.free q o e1 h1 (fun z0 => nomatch z0)
    rw [hq] at h2
    cases h2
  · have h1 := I.base.frzs q o _ (ok.frz q o (Nat.le_of_not_lt hlt) hn0 e0)
    rw [hq] at h1
    exact hu o (Option.some.inj h1)
theorem pin_own (ok : WkOk Z box bx i) (I : Inv (gx Z i.s i.H) pins σ H s) {p : Addr × Obj} (hp : p ∈ pins) (hl : Z.env.locals ≤ p.1) : ∀ o, i.s.heap.get? p.1 = some o → p.1 ∈ i.own := fun o e0 => by
  refine Classical.byContradiction fun hn0 => ?_
  have h1 := I.base.frzs p.1 o _ (ok.frz p.1 o hl hn0 e0)
  have h2 := (I.pin p (List.mem_append_right _ hp)).2.1
  rw [h1] at h2
  cases h2
/-- THE WAKE -/
theorem rebuild (zk : Z.Ok) (I : Inv (gx Z i.s i.H) pins σ H s) {aS : Addr} {xs : List V} (hx : H aS = some (.lst xs)) (hab : aS ≠ box) (hbl : box < Z.env.locals) (hbf : box ∉ frs Z.outer) (hpl : ∀ p ∈ pins, p.1 ≠ box) (k : Nat) (r : Rdy Z box bx (Z.env.locals :: aS :: pins.map (·.1)) s s') :
    ∃ H', WkOk Z box bx ⟨s', H', Z.env.locals :: aS :: pins.map (·.1), k⟩ ∧ H' aS = some (.lst xs) ∧ Inv (gx Z s' H') pins σ H' s' := by
  have a0 := inv_gx I
  let Hm : Hp := fun b => if b = aS then some (.lst xs) else none
  have hm0 : ∀ b, b ≠ aS → Hm b = none := fun b hb => if_neg hb
  have hmS : Hm aS = some (.lst xs) := if_pos rfl
  have lstOk : ∀ {h : Heap} {H1 H2 : Hp}, ObjOk Z.P Z.w H1 h aS (.lst xs) → ObjOk Z.P Z.w H2 h aS (.lst xs) := fun x => x
  have oS := I.hok aS _ hx
  have oS' : ObjOk Z.P Z.w Hm s'.heap aS (.lst xs) := by
    obtain ⟨l, its, n, v, e0⟩ := oS
    exact ⟨l, its, n, v, r.keep aS (List.mem_cons_of_mem _ List.mem_cons_self) _ e0⟩
  have a1 : At0 Z σ Hm s := a0.less (fun b hb => hm0 b fun e0 => by subst e0; rw [hx] at hb; cases hb) fun b o e0 => by
    by_cases z0 : b = aS
    · subst z0
      rw [hmS] at e0
      cases e0
      exact lstOk oS
    · rw [hm0 b z0] at e0; cases e0
  have a2 : At0 Z σ Hm s' := a1.wake zk r.bare r.bs r.funs (fun o e0 => r.keep _ List.mem_cons_self o e0) fun b o e0 => by
    by_cases z0 : b = aS
    · subst z0
      rw [hmS] at e0
      cases e0
      exact oS'
    · rw [hm0 b z0] at e0; cases e0
  let H' : Hp := fun b => if b = aS then some (.lst xs) else if Z.env.locals ≤ b ∧ b ∉ (Z.env.locals :: aS :: pins.map (·.1)) then (s'.heap.get? b).map fun o => .frz o (.own 0) else none
  have hS : H' aS = some (.lst xs) := if_pos rfl
  have hLS : Z.env.locals ≠ aS := fun e0 => by
    have := a0.free
    rw [e0, hx] at this
    cases this
  have lowN : ∀ b, b ≠ aS → b < Z.env.locals → H' b = none := fun b h1 h2 => by
    show (if b = aS then _ else _) = none
    rw [if_neg h1, if_neg (fun z0 => absurd h2 (Nat.not_lt_of_le z0.1))]
  have ownN : ∀ b, b ≠ aS → b ∈ (Z.env.locals :: aS :: pins.map (·.1)) → H' b = none := fun b h1 h2 => by
    show (if b = aS then _ else _) = none
    rw [if_neg h1, if_neg (fun z0 => z0.2 h2)]
  have a3 : At0 Z σ H' s' := a2.more (fun b o e0 => lowN b (fun z0 => by
      have h1 := (a0.bs b o e0).2
      rw [z0, hx] at h1
      cases h1) (Nat.lt_of_lt_of_le (Heap.lt_size e0) zk.bsz)) (fun b hb => lowN b (fun z0 => by
      have h1 := a0.frf b hb
      rw [z0, hx] at h1
      cases h1) (zk.olt b hb)) (ownN _ hLS List.mem_cons_self) fun b o e0 => by
    have e0 : (if b = aS then some (HO.lst xs) else if Z.env.locals ≤ b ∧ b ∉ (Z.env.locals :: aS :: pins.map (·.1)) then (s'.heap.get? b).map fun o => HO.frz o (.own 0) else none) = some o := e0
    by_cases z0 : b = aS
    · subst z0
      rw [if_pos rfl] at e0
      cases e0
      exact oS'
    · rw [if_neg z0] at e0
      by_cases z2 : Z.env.locals ≤ b ∧ b ∉ (Z.env.locals :: aS :: pins.map (·.1))
      · rw [if_pos z2] at e0
        cases q : s'.heap.get? b with
        | none => rw [q] at e0; cases e0
        | some ob =>
          rw [q] at e0
          cases e0
          exact ⟨q, ob, q⟩
      · rw [if_neg z2] at e0; cases e0
  refine ⟨H', ⟨a2.lt, .inr ⟨lowN box (Ne.symm hab) hbl, hbl, ?_, hbf, r.box⟩, fun b o h1 h2 h3 => ?_, fun b h1 h2 h3 => lowN b (fun z0 => h3 (by subst z0; exact List.mem_cons_of_mem _ List.mem_cons_self)) h1⟩, hS, gx_inv zk a3 fun p hp => ?_⟩
  · intro hm0
    rcases List.mem_cons.mp hm0 with z0 | hm0
    · rw [z0] at hbl
      exact absurd hbl (Nat.lt_irrefl _)
    · rcases List.mem_cons.mp hm0 with z0 | hm0
      · exact hab z0.symm
      · obtain ⟨p, hp, z0⟩ := List.mem_map.mp hm0
        exact hpl p hp z0
  · show (if b = aS then _ else _) = _
    rw [if_neg (fun z0 => h2 (by subst z0; exact List.mem_cons_of_mem _ List.mem_cons_self)), if_pos ⟨h1, h2⟩, h3]
    rfl
  · obtain ⟨q1, q2, q3, q4, q5⟩ := I.pin p (List.mem_append_right _ hp)
    have hpm : p.1 ∈ (Z.env.locals :: aS :: pins.map (·.1)) := List.mem_cons_of_mem _ (List.mem_cons_of_mem _ (List.mem_map.mpr ⟨p, hp, rfl⟩))
    exact ⟨r.keep p.1 hpm _ q1, ownN p.1 (fun z0 => by rw [z0, hx] at q2; cases q2) hpm, q3, q4, q5⟩
end
end Gn
/-! Gz: loops and yields of the generator, by what its slots hold. -/
namespace Gn
open PySem PySem.Spec PyProof.Rows L2 Ly Lk
def oI (x : Option Int) : Option Ly.Ty := x.map fun i => nI i
/-- the slots: (box), skipped, sides, first, second, third -/
def G3 (sk : Int) (l : List Int) (x y z : Option Int) : Ev := [none, some (nI sk), some (.tl (l.map .int)), oI x, oI y, oI z]
section
variable (Z : Gp) (C : Addr) (box : Addr) (bx : List V) (its : List (List Int)) (sk : Int) (l : List Int)
structure Ph (i : Wk) (pins : List (Addr × Obj)) (Γ : Ev) (s : Shared) : Prop where
  at_ : ∃ (σ : L2.St) (W : Wd), Inv (gx Z i.s i.H) pins σ W.H s ∧ En Z.K C W.F σ Γ
  pin : ∀ p ∈ pins, Z.env.locals ≤ p.1
/-- where the code stands -/
structure GCt (A : Around) (c : Code) (fs0 : List Frame) (gd : Bool → Bool) : Prop where
  over : A.over c fs0 = Z.A
  split : splitAtGen fs0 = none
  guard : fs0.any Frame.guarded = false
  gd : gd false = false
abbrev Co := Option Int → Option Int → Option Int → Nat → Prop
/-- a statement's run: from pre to post -/
def Do (st : Stmt) (pre post : Co) : Prop := ∀ (A : Around) (n : Nat) (i : Wk) (pins : List (Addr × Obj)) (s : Shared) (c : Code) (fs0 : List Frame) (K : Flow → Sem PySem.Fin) (J : Value → Sem PySem.Fin) (gd : Bool → Bool) (lv : List Value → List Value) (x y z : Option Int),
  GCt Z A c fs0 gd → WkOk Z box bx i → Ph Z C i pins (G3 sk l x y z) s → pre x y z i.k → n + i.k = its.length →
  (∀ n' i' s' x' y' z', WkOk Z box bx i' → Ph Z C i' pins (G3 sk l x' y' z') s' → post x' y' z' i'.k → n' + i'.k = its.length → Sg (model Z.P Z.w) A (RG Z box bx its) (YG Z box bx its) n' i' c (K .next) fs0 s') →
  Sg (model Z.P Z.w) A (RG Z box bx its) (YG Z box bx its) n i c ((exec st Z.env).wrap K J gd lv) fs0 s
end
section
variable {Z : Gp} {C : Addr} {box : Addr} {bx : List V} {its : List (List Int)} {sk : Int} {l : List Int} {pre post : Co}
theorem g3_at {F : Hp} {σ : L2.St} {x y z : Option Int} (e : En Z.K C F σ (G3 sk l x y z)) : ∃ aS xs, F aS = some (.lst xs) ∧ ∀ F' : Hp, F' aS = some (.lst xs) → En Z.K C F' σ (G3 sk l x y z) := by
  obtain ⟨v2, h2, a2⟩ := e.at_ 2 _ rfl
  obtain ⟨aS, xs, rfl, hx, hd⟩ := a2
  refine ⟨aS, xs, hx, fun F' hF => ⟨e.len, fun i t hi => ?_⟩⟩
  obtain ⟨v, hv, av⟩ := e.at_ i t hi
  refine ⟨v, hv, ?_⟩
  have oks : ∀ o : Option Int, oI o = some t → At Z.K C F' v t := fun o ho => by
    cases o with
    | none => cases ho
    | some k =>
      have ho : t = nI k := (Option.some.inj ho).symm
      subst ho
      rw [dp_int av]
      exact Dt.int k
  match i, hi with
  | 0, hi => cases hi
  | 1, hi => exact oks (some sk) (Option.some.inj hi)
  | 2, hi =>
    have ht : t = .tl (l.map .int) := (Option.some.inj (Option.some.inj hi)).symm
    subst ht
    have e1 : v = .ref aS := Option.some.inj (Option.some.inj (hv.symm.trans h2))
    subst e1
    refine ⟨aS, xs, rfl, hF, ?_⟩
    rw [dpAll_ints hd]
    exact dpAll_of_ints l
  | 3, hi => exact oks x (Option.some.inj hi)
  | 4, hi => exact oks y (Option.some.inj hi)
  | 5, hi => exact oks z (Option.some.inj hi)
  | i + 6, hi => cases hi
/-- yield e -/
theorem do_yield (zk : Z.Ok) (hbl : box < Z.env.locals) (hbf : box ∉ frs Z.outer) {e : Expr} {te : TE} {yp pos : Pos} (he : ∀ s H, PE (gx Z s H) e te) (hco : Z.env.scope.isCoroutine = false) (hi : interactive Z.env = false)
    (ht : ∀ x y z k, pre x y z k → ∃ c, its[k]? = some c ∧ post x y z (k + 1) ∧ ∀ σ (W : Wd), En Z.K C W.F σ (G3 sk l x y z) → ∀ Q : VK, (∀ q (H' : Hp), W.H q = none → Same W.H H' → H' q = some (.tup (c.map V.int)) → Q (.ref q) H') → te σ W.H Q) :
    Do Z C box bx its sk l (.Expr (.Yield (some e) yp) pos) pre post := by
  intro A n i pins s c fs0 K J gd lv x y z g wk ph hp0 hn k
  obtain ⟨c1, hc1, hpost, hte⟩ := ht x y z i.k hp0
  obtain ⟨m, rfl⟩ : ∃ m, n = m + 1 := by
    have := (List.getElem?_eq_some_iff.mp hc1).1
    exact ⟨n - 1, by omega⟩
  obtain ⟨⟨σ, W, I, en⟩, hpl⟩ := ph
  refine sg_ExprYield g.split g.gd g.guard ?_ hco hi
  rw [g.over]
  refine wpAny_mono ((he i.s i.H).run pins s σ W.H (fun v H' => ∃ q, v = .ref q ∧ W.H q = none ∧ Same W.H H' ∧ H' q = some (.tup (c1.map V.int))) I (hte σ W en _ fun q H' h1 h2 h3 => ⟨q, rfl, h1, h2, h3⟩)) (fun v s1 hv => ?_) fun _ _ h => h
  obtain ⟨v', H1, I1, rv, q, rfl, hq0, hs, hq⟩ := hv
  obtain rfl : v = Value.ref q := rv
  obtain ⟨aS, xs, hF, hre⟩ := g3_at en
  have hS0 : W.H aS = some (.lst xs) := W.sub _ _ hF
  have hS : H1 aS = some (.lst xs) := hs _ _ hS0
  have hb : ObjOk Z.P Z.w (fun _ => none) s1.heap box (.tup bx) := (kept_to wk I1).box
  have hbS : aS ≠ box := fun e => by
    obtain ⟨_, _, _, _, e1⟩ := I1.hok aS _ hS
    obtain ⟨_, _, _, ob, e2, e3, _⟩ := hb
    rw [← e, e1] at e2
    cases e2
    injection e3 with e3
    exact absurd e3 (by decide)
  have hbP : ∀ p ∈ pins, p.1 ≠ box := fun p hp0 e => by
    have h1 := hpl p hp0
    rw [e] at h1
    exact absurd hbl (Nat.not_lt_of_le h1)
  have nq : q ≠ box := fun e => by
    rcases wk.tup with h | ⟨h1, h2, h3, h4, h5⟩
    · have := I.base.tups box bx h
      rw [← e, hq0] at this
      cases this
    · obtain ⟨_, _, _, ob, e2, _⟩ := h5
      have e3 : ((gx Z i.s i.H).s_0.heap).get? box = some ob := by
        show (cutH i.s.heap Z.env.locals).get? box = some ob
        rw [cut_lt h2]
        exact e2
      have := I1.base.free box ob e3 h1 (fun z => nomatch z)
      rw [← e, hq] at this
      cases this
  refine ⟨q, c1, Z.env.locals :: aS :: pins.map (·.1), rfl, hc1, I1.hok q _ hq, kept_to wk I1, new_own wk I1 hq (fun o z => nomatch z) nq, fun b hm0 => ?_, fun s2 r => ?_⟩
  · rcases List.mem_cons.mp hm0 with rfl | hm0
    · obtain ⟨mm, ⟨o, es, ep, ho, hd, _⟩, _⟩ := I1.loc
      refine ⟨⟨o, ho, fun v e => by rw [hd] at e; cases e⟩, fun o ho => Classical.byContradiction fun hn => ?_, fun hf => absurd (zk.olt _ hf) (Nat.lt_irrefl _), fun e => ?_, fun e => absurd hbl (by rw [← e]; exact Nat.lt_irrefl _)⟩
      · have h1 := I1.base.frzs _ o _ (wk.frz _ o (Nat.le_refl _) hn ho)
        have h2 := I1.free
        have h2 : H1 Z.env.locals = none := h2
        rw [h1] at h2
        cases h2
      · have h2 : H1 Z.env.locals = none := I1.free
        rw [e, hq] at h2
        cases h2
    · rcases List.mem_cons.mp hm0 with rfl | hm0
      · obtain ⟨_, its', nn, _, e1⟩ := I1.hok b _ hS
        refine ⟨⟨_, e1, fun v z => nomatch z⟩, new_own wk I1 hS (fun o z => nomatch z) hbS, fun hf => ?_, fun e => ?_, hbS⟩
        · have := (inv_gx I1).frf b hf
          rw [hS] at this
          cases this
        · rw [e, hq0] at hS0
          cases hS0
      · obtain ⟨p, hp0, rfl⟩ := List.mem_map.mp hm0
        obtain ⟨q1, q2, q3, q4, q5⟩ := I1.pin p (List.mem_append_right _ hp0)
        refine ⟨⟨p.2, q1, q5⟩, pin_own wk I1 hp0 (hpl p hp0), q4, fun e => ?_, hbP p hp0⟩
        rw [e, hq] at q2
        cases q2
  · obtain ⟨H', wk', hS', I'⟩ := rebuild zk I1 hS hbS hbl hbf hbP (i.k + 1) r
    refine ⟨⟨s2, H', _, i.k + 1⟩, rfl, rfl, rfl, ?_⟩
    exact k m ⟨s2, H', _, i.k + 1⟩ s2 x y z wk' ⟨⟨σ, ⟨H', H', Same.refl _⟩, I', hre H' hS'⟩, hpl⟩ hpost (by show m + (i.k + 1) = _; omega)
/-- the body of a loop -/
theorem do_one {st : Stmt} (h : Do Z C box bx its sk l st pre post) {A : Around} {n : Nat} {i : Wk} {pins : List (Addr × Obj)} {s : Shared} {c : Code} {fs0 : List Frame} {K : Flow → Sem PySem.Fin} {J : Value → Sem PySem.Fin} {gd : Bool → Bool} {lv : List Value → List Value} {x y z : Option Int}
    (g : GCt Z A c fs0 gd) (wk : WkOk Z box bx i) (ph : Ph Z C i pins (G3 sk l x y z) s) (hp0 : pre x y z i.k) (hn : n + i.k = its.length)
    (k : ∀ n' i' s' x' y' z', WkOk Z box bx i' → Ph Z C i' pins (G3 sk l x' y' z') s' → post x' y' z' i'.k → n' + i'.k = its.length → Sg (model Z.P Z.w) A (RG Z box bx its) (YG Z box bx its) n' i' c (K .next) fs0 s') :
    Sg (model Z.P Z.w) A (RG Z box bx its) (YG Z box bx its) n i c ((execs [st] Z.env).wrap K J gd lv) fs0 s :=
  sg_cons (h A n i pins s c fs0 _ J gd lv x y z g wk ph hp0 hn fun n' i' s' x' y' z' w1 p1 q1 e1 => sg_nil (k n' i' s' x' y' z' w1 p1 q1 e1))
/-- what is known where the code stands -/
def St0 (Z : Gp) (C : Addr) (i : Wk) (pins : List (Addr × Obj)) (Γ : Ev) (s : Shared) : Prop := ∃ (σ : L2.St) (W : Wd), Inv (gx Z i.s i.H) pins σ W.H s ∧ En Z.K C W.F σ Γ
/-- a plain statement -/
theorem sg_sd {A : Around} {n : Nat} {i : Wk} {pins : List (Addr × Obj)} {s : Shared} {c : Code} {fs0 : List Frame} {K : Flow → Sem PySem.Fin} {J : Value → Sem PySem.Fin} {gd : Bool → Bool} {lv : List Value → List Value} {st : Stmt} {ts : TS} {Γ Γ' : Ev} {R : EndI Wk} {Y : ProI Wk}
    (hov : A.over c fs0 = Z.A) (hps : ∀ s H, PS (gx Z s H) st ts) (hsd : SD Z.K C ts Γ (· = Γ') NoR) (h : St0 Z C i pins Γ s) (k : ∀ s', St0 Z C i pins Γ' s' → Sg (model Z.P Z.w) A R Y n i c (K .next) fs0 s') : Sg (model Z.P Z.w) A R Y n i c ((exec st Z.env).wrap K J gd lv) fs0 s := by
  obtain ⟨σ, W, I, en⟩ := h
  refine sg_plain (Q := SP (gx Z i.s i.H) pins { nx := fun σ' H' => ∃ W' : Wd, W'.H = H' ∧ En Z.K C W'.F σ' Γ', rt := fun _ _ => False }) (by
    rw [hov]
    exact (hps i.s i.H).run pins s σ W.H _ I (hsd _ σ W en (fun Γ2 σ2 W2 e _ en2 => ⟨W2, rfl, by rw [← e]; exact en2⟩) fun t v W2 k _ _ => k.elim)) fun f z hz => ?_
  cases f with
  | next =>
    obtain ⟨σ2, H2, I2, W2, rfl, en2⟩ := hz
    exact k z ⟨σ2, W2, I2, en2⟩
  | brk =>
    obtain ⟨_, _, _, q⟩ := hz
    exact q.elim
  | cont =>
    obtain ⟨_, _, _, q⟩ := hz
    exact q.elim
  | ret u =>
    obtain ⟨_, _, _, _, _, q⟩ := hz
    exact q.elim
theorem fp_gx {i i' : Wk} {pins pins' : List (Addr × Obj)} {H H' : Hp} {b : Addr} (h : FpOk (gx Z i.s i.H) pins H b) (hn : H' b = none) (hl : Z.env.locals ≤ b) (hp0 : ∀ p ∈ pins', p.1 ≠ b) : FpOk (gx Z i'.s i'.H) pins' H' b := by
  obtain ⟨_, h1, h2, _, h4, _⟩ := h
  refine ⟨hn, h1, h2, .inr ?_, h4, hp0⟩
  show (cutH i'.s.heap Z.env.locals).objs.size ≤ b
  rw [cut_size]
  exact Nat.le_trans (Nat.min_le_left _ _) hl
/-- for x in range(..): st -/
theorem do_for (zk : Z.Ok) {nm : Str} {px pos : Pos} {iter : Expr} {st : Stmt} {ta : TA} {m j : Nat} (hz : m ≤ 100000) (hi : ∀ s H, PI (gx Z s H) (.Name nm px) iter (iRng1 ta)) (hg : ∀ s H, PG (gx Z s H) (.Name nm px) (gName j)) (hs : ∀ x, foldedSetIterable iter Z.env x = pure x)
    (sx : Int → Option Int → Option Int → Option Int → Option Int × Option Int × Option Int) (hset : ∀ v x y z, (G3 sk l x y z).set j (some (nI v)) = G3 sk l (sx v x y z).1 (sx v x y z).2.1 (sx v x y z).2.2)
    (ha : ∀ x y z, EvA Z.K C ta (G3 sk l x y z) [nI (m : Nat)]) (G : Nat → Co) (hb : ∀ t, t < m → Do Z C box bx its sk l st (fun x y z k => ∃ x0 y0 z0, G t x0 y0 z0 k ∧ (x, y, z) = sx (t : Nat) x0 y0 z0) (G (t + 1))) :
    Do Z C box bx its sk l (.For (.Name nm px) iter [st] [] pos) (G 0) (G m) := by
  intro A n i pins s c fs0 K J gd lv x y z g wk ph hp0 hn k
  obtain ⟨⟨σ, W, I, en⟩, hpl⟩ := ph
  refine sg_For hs ?_
  rw [g.over]
  have hw : iRng1 ta σ W.H fun Jt H1 => ∃ W1 : Wd, W1.H = H1 ∧ Jt = Itr 0 m ∧ LeS W W1 := ha x y z σ W en _ fun vs W1 s1 a => by
    cases a with
    | cons a t =>
      cases t
      refine ⟨(m : Int), by rw [dp_int a], by omega, by omega, W1, rfl, ?_, s1⟩
      rw [Int.toNat_natCast]
  refine wpAny_mono ((hi i.s i.H).run pins s σ W.H _ I hw) (fun v s1 h1 => wpAny_mono h1 (fun itv s2 h2 => ?_) fun _ _ q => q) fun _ _ q => q
  obtain ⟨it, fp, tn, Jt, H2, rfl, I2, T, st2, f2, W1, rfl, rfl, s1'⟩ := h2
  intro p lv1
  have hlow : ∀ b ∈ fp, Z.env.locals ≤ b := fun b hb' => by
    rcases (f2 b hb').2.2.2.1 with z | z
    · cases z
    · have z : (cutH i.s.heap Z.env.locals).objs.size ≤ b := z
      rw [cut_size, Nat.min_eq_left (Nat.le_of_lt wk.lt)] at z
      exact z
  have ov : A.over (.forLoop (.Name nm px) (.ref it) [st] [] Z.env) (.ret (fun r => ((match r with | .ok f => (.pure f : Sem Flow) | .error e => .raise e).onRaise fun (x : Value) => do
        if (← field x 1) == Value.none then
            unsupported "frame.own-activation:exception-without-traceback"
        setFlight x Z.env.frame).wrap K J gd lv) none (gd false) lv1 c p [] :: fs0) = Z.A := (GenW.over_loop rfl rfl).trans g.over
  have g' : GCt Z A (.forLoop (.Name nm px) (.ref it) [st] [] Z.env) (.ret (fun r => ((match r with | .ok f => (.pure f : Sem Flow) | .error e => .raise e).onRaise fun (x : Value) => do
        if (← field x 1) == Value.none then
            unsupported "frame.own-activation:exception-without-traceback"
        setFlight x Z.env.frame).wrap K J gd lv) none (gd false) lv1 c p [] :: fs0) id := by
    refine ⟨ov, ?_, ?_, rfl⟩
    · show (splitAtGen fs0).map _ = none
      rw [g.split]
      rfl
    · show (gd false || fs0.any Frame.guarded) = false
      rw [g.gd, g.guard]
      rfl
  have loop : ∀ (r t n : Nat) (i : Wk) (s : Shared) (σ : L2.St) (W : Wd) (x y z : Option Int), m = t + r → WkOk Z box bx i → Inv (gx Z i.s i.H) pins σ W.H s → En Z.K C W.F σ (G3 sk l x y z) → G t x y z i.k → tn t s.heap → (∀ b ∈ fp, FpOk (gx Z i.s i.H) pins W.H b) → n + i.k = its.length →
      Sg (model Z.P Z.w) A (RG Z box bx its) (YG Z box bx its) n i (.forLoop (.Name nm px) (.ref it) [st] [] Z.env) ((model Z.P Z.w).den (.forLoop (.Name nm px) (.ref it) [st] [] Z.env)) (.ret (fun r => ((match r with | .ok f => (.pure f : Sem Flow) | .error e => .raise e).onRaise fun (x : Value) => do
        if (← field x 1) == Value.none then
            unsupported "frame.own-activation:exception-without-traceback"
        setFlight x Z.env.frame).wrap K J gd lv) none (gd false) lv1 c p [] :: fs0) s := by
    intro r
    induction r with
    | zero =>
      intro t n i s σ W x y z hm0 wk I en hG stt f3 hn
      obtain rfl : t = m := by omega
      refine sg_forLoop ?_
      rw [ov]
      refine wpAny_mono (T.done (gx Z i.s i.H) rfl rfl rfl rfl t pins s σ W.H (fun _ _ => False) I f3 stt (Nat.le_refl _)) (fun r s3 h3 => ?_) fun _ _ q => q
      obtain ⟨rfl, I3⟩ := h3
      exact sg_leaf (.ok .next) (k n i s3 x y z wk ⟨⟨σ, W, I3, en⟩, hpl⟩ hG hn)
    | succ r ih =>
      intro t n i s σ W x y z hm0 wk I en hG stt f3 hn
      refine sg_forLoop ?_
      rw [ov]
      refine wpAny_mono (T.item (gx Z i.s i.H) rfl rfl rfl rfl t pins s σ W.H (fun _ _ => False) I f3 stt (show t < m by omega)) (fun rr s3 h3 => ?_) fun _ _ q => q
      obtain ⟨u, rfl, h3⟩ := h3
      refine wpAny_mono h3 (fun _ s4 h4 => ?_) fun _ _ q => q
      obtain ⟨xv, H4, I4, rv, ⟨hH, hx⟩, st4, f4⟩ := h4
      subst hH
      have f4' : ∀ b ∈ fp, FpOk (gx Z i.s i.H) pins W.H b := f3
      have I5 := I4.pinned f4' (T.obj _ _ st4)
      refine wpAny_mono ((hg i.s i.H).run _ s4 σ W.H xv u (fun σ' H' => σ' = σ.set j (some xv) ∧ H' = W.H) I5 rv ⟨rfl, rfl⟩) (fun _ s5 h5 => ?_) fun _ _ q => q
      obtain ⟨σ5, H5, I6, rfl, rfl⟩ := h5
      have en5 : En Z.K C W.F (σ.set j (some xv)) (G3 sk l (sx (t : Nat) x y z).1 (sx (t : Nat) x y z).2.1 (sx (t : Nat) x y z).2.2) := by
        rw [← hset]
        refine en.set ?_
        rw [hx, Int.zero_add]
        exact Dt.int _
      have hpl5 : ∀ p ∈ pins ++ pinsAt fp s4.heap, Z.env.locals ≤ p.1 := fun p hp0 => by
        rcases List.mem_append.mp hp0 with h | h
        · exact hpl p h
        · exact hlow _ (of_pinsAt h).1
      refine do_one (hb t (by omega)) g' wk ⟨⟨_, W, I6, en5⟩, hpl5⟩ ⟨x, y, z, hG, rfl⟩ hn fun n' i' s' x' y' z' wk' ph' hG' hn' => ?_
      obtain ⟨⟨σ7, W7, I7, en7⟩, _⟩ := ph'
      have pin7 : ∀ b ∈ fp, ∀ o, s4.heap.get? b = some o → s'.heap.get? b = some o ∧ W7.H b = none := fun b hb' o e =>
        let q := I7.pin (b, o) (List.mem_append_right _ (List.mem_append_right _ (mem_pinsAt hb' e)))
        ⟨q.1, q.2.1⟩
      refine sg_again rfl (ih (t + 1) n' i' s' σ7 W7 x' y' z' (by omega) wk' I7.unpinned en7 hG' (T.keep _ _ _ st4 fun b hb' o e => (pin7 b hb' o e).1) (fun b hb' => ?_) hn')
      obtain ⟨o, e, _⟩ := T.obj _ _ st4 b hb'
      exact fp_gx (f3 b hb') (pin7 b hb' o e).2 (hlow b hb') (f3 b hb').2.2.2.2.2
  exact loop m 0 n i s2 σ W1 x y z (by omega) wk I2 (en.le s1') hp0 st2 f2 hn
end
end Gn
namespace Lk
open PySem PySem.Spec PyProof.Rows L2 Ly Gn
/-! cells: the generator -/
abbrev s_cells : Stmt := topS 30
abbrev N_cells : List Str := ["box", "skipped", "sides", "first", "second", "third"]
theorem sc_cells : GScope N_cells ["box"] (defScope s_cells) := ⟨rfl, rfl, rfl, by decide +kernel, rfl, by decide +kernel, by decide +kernel⟩
def inFor : Stmt → Stmt
  | .For _ _ (st :: _) _ _ => st
  | st => st
abbrev st_c1 : Stmt := (defBody s_cells).getD 3 (.Pass ⟨0, 0, 0, 0⟩)
abbrev st_c2 : Stmt := inFor st_c1
abbrev st_c3 : Stmt := inFor st_c2
abbrev st_c4 : Stmt := inFor st_c3
def sidesOf (b : List Int) : List Int := if 0 < vol b then List.replicate (3 - b.length) 1 ++ b else [0, 0, 0]
def itsOf (sk : Nat) (m1 m2 m3 : Nat) : List (List Int) := (List.range m1).flatMap fun (t : Nat) => (List.range m2).flatMap fun (u : Nat) => (List.range m3).map fun (v : Nat) => ([(t : Int), (u : Int), (v : Int)] : List Int).drop sk
theorem flat_at {α β : Type} (f : α → List β) (m : Nat) : ∀ (l : List α) (t u : Nat) (a : α), (∀ x ∈ l, (f x).length = m) → l[t]? = some a → u < m → (l.flatMap f)[t * m + u]? = (f a)[u]?
  | [], t, u, a, _, h, _ => by simp at h
  | x :: l, 0, u, a, hl, h, hu => by
    simp at h
    subst h
    rw [List.flatMap_cons, Nat.zero_mul, Nat.zero_add, List.getElem?_append_left (by rw [hl x List.mem_cons_self]; exact hu)]
  | x :: l, t + 1, u, a, hl, h, hu => by
    have e : (t + 1) * m + u - (f x).length = t * m + u := by
      rw [hl x List.mem_cons_self, Nat.succ_mul]
      omega
    rw [List.flatMap_cons, List.getElem?_append_right (by rw [hl x List.mem_cons_self, Nat.succ_mul]; omega), e]
    exact flat_at f m l t u a (fun y hy => hl y (List.mem_cons_of_mem _ hy)) (by simpa using h) hu
theorem flat_all {α β : Type} (f : α → List β) (m : Nat) : ∀ l : List α, (∀ x ∈ l, (f x).length = m) → (l.flatMap f).length = l.length * m
  | [], _ => by simp
  | x :: l, h => by
    rw [List.flatMap_cons, List.length_append, h x List.mem_cons_self, flat_all f m l fun y hy => h y (List.mem_cons_of_mem _ hy), List.length_cons, Nat.succ_mul, Nat.add_comm]
theorem its_len (sk m1 m2 m3 : Nat) : (itsOf sk m1 m2 m3).length = m1 * (m2 * m3) := by
  unfold itsOf
  rw [flat_all _ (m2 * m3), List.length_range]
  intro x _
  rw [flat_all _ m3, List.length_range]
  intro y _
  rw
      [List.length_map, List.length_range]
theorem its_at {sk m1 m2 m3 t u v : Nat} (h1 : t < m1) (h2 : u < m2) (h3 : v < m3) : (itsOf sk m1 m2 m3)[t * (m2 * m3) + (u * m3 + v)]? = some (([(t : Int), (u : Int), (v : Int)] : List Int).drop sk) := by
  unfold itsOf
  have l3 : ∀ (t y : Nat), ((List.range m3).map fun (v : Nat) => ([(t : Int), (y : Int), (v : Int)] : List Int).drop sk).length = m3 := fun t y => by rw [List.length_map, List.length_range]
  have hlt : u * m3 + v < m2 * m3 := by
    have z : (u + 1) * m3 ≤ m2 * m3 := Nat.mul_le_mul_right _ h2
    rw [Nat.succ_mul] at z
    omega
  rw [flat_at _ (m2 * m3) _ t (u * m3 + v) t (fun x _ => by rw [flat_all _ m3 _ fun y _ => l3 x y, List.length_range]) (List.getElem?_range h1) hlt]
  rw [flat_at _ m3 _ u v u (fun y _ => l3 t y) (List.getElem?_range h2) h3, List.getElem?_map, List.getElem?_range h3]
  rfl
theorem cells_nil {b : List Int} (h : ∀ i ∈ b, 0 ≤ i) (hv : ¬ 0 < vol b) : cellsOf b = [] := by
  have e := cells_vol h
  exact
      List.length_eq_zero_iff.mp (by omega)
/-- what it hands out: the places in their order -/
theorem its_cells {b : List Int} (h1 : 1 ≤ b.length) (h3 : b.length ≤ 3) (h : ∀ i ∈ b, 0 ≤ i) : itsOf (3 - b.length) (((sidesOf b)[0]?).getD 0).toNat (((sidesOf b)[1]?).getD 0).toNat (((sidesOf b)[2]?).getD 0).toNat = cellsOf b := by
  by_cases hv : 0 < vol b
  · unfold sidesOf
    rw [if_pos hv]
    match b, h1, h3 with
    | [x], _, _ =>
      unfold itsOf cellsOf rgI
      simp [List.flatMap_map, List.map_map, Function.comp_def]
    | [x, y], _, _ =>
      unfold itsOf cellsOf rgI
      simp [List.flatMap_map, List.map_map, List.map_flatMap, List.flatMap_assoc, Function.comp_def]
    | [x, y, z], _, _ =>
      unfold itsOf cellsOf rgI
      simp [List.flatMap_map, List.map_map, List.map_flatMap, List.flatMap_assoc, Function.comp_def]
  · rw [cells_nil h hv]
    unfold sidesOf
    rw [if_neg hv]
    rfl
theorem sides_at {b : List Int} (h3 : b.length ≤ 3) (h : ∀ i ∈ b, 0 ≤ i ∧ i ≤ 13) {j : Nat} (hj : j < 3) : (sidesOf b)[j]? = some (((((sidesOf b)[j]?).getD 0).toNat : Nat) : Int) ∧ (((sidesOf b)[j]?).getD 0).toNat ≤ 13 := by
  have hl : (sidesOf b).length = 3 := by
    unfold sidesOf
    split
    · rw [List.length_append, List.length_replicate]
      omega
    · rfl
  have hm : ∀ i ∈ sidesOf b, 0 ≤ i ∧ i ≤ 13 := fun i hi => by
    unfold sidesOf at hi
    split at hi
    · rcases List.mem_append.mp hi with hi | hi
      · rw [List.eq_of_mem_replicate hi]
        decide
      · exact h i hi
    · simp at hi
      subst hi
      decide
  have e : (sidesOf b)[j]? = some (sidesOf b)[j] := List.getElem?_eq_getElem (by omega)
  have := hm _ (List.getElem_mem (show j < (sidesOf b).length by omega))
  rw [e, Option.getD_some]
  exact ⟨by rw [Int.toNat_of_nonneg this.1], by omega⟩
section
variable {K : PySem.W.Frag} {C : Addr} {Γ : Ev} {ta tb tc : TE} {i j k : Int}
theorem ev_ltLe (ha : EvD K C ta Γ (.dat (.int i))) (hb : EvD K C tb Γ (.dat (.int j))) (hc : EvD K C tc Γ (.dat (.int k))) : EvD K C (tChain (rI0 fun i j => .bl (decide (i < j))) rLeI ta tb tc) Γ (.dat (.bool (decide (i < j) && decide (j ≤ k)))) :=
  ev_chain ha hb hc (fun x y W a b Q q => ⟨i, j, dp_int a, dp_int b, q W (LeS.refl W)⟩) fun _ x y W a b Q q => ⟨j, k, dp_int a, dp_int b, q W (LeS.refl W)⟩
/-- [d] * n -/
theorem ev_repL {d : PyData} {n : Nat} (ha : EvD K C ta Γ (.tl [d])) (hb : EvD K C tb Γ (.dat (.int (n : Int)))) (hn : n ≤ 1000) : EvD K C (tOp (rMulU K) ta tb) Γ (.tl (List.replicate n d)) :=
  ev_op ha hb fun x y W a b Q q => by
    obtain ⟨p, xs, rfl, h1, h2⟩ := a
    have hb' := dp_int b
    obtain ⟨v, rfl, hv⟩ : ∃ v, xs = [v] ∧ Dt K W.F v d := by
      cases h2 with
      | cons r t =>
        cases t
        exact ⟨_, rfl, r⟩
    refine .inr (.inr (.inr (.inr ⟨p, (n : Int), [v], rfl, hb', W.sub _ _ h1, by omega, by omega, ?_, fun r hr => q _ _ (leS_new hr) ⟨r, _, rfl, upd_same, dpAll_le (leS_new hr) ?_⟩⟩)))
    · rw [Int.toNat_natCast, List.length_singleton, Nat.one_mul]
      exact Nat.le_trans hn (by decide)
    · rw [Int.toNat_natCast]
      have z : ∀ m : Nat, DtAll K W.F (List.replicate m [v]).flatten (List.replicate m d) := fun m => by
        induction m with
        | zero => exact .nil
        | succ m ih =>
          rw [List.replicate_succ, List.replicate_succ, List.flatten_cons]
          exact .cons hv ih
      exact z n
end
section
variable {P : Program} {w : World} {K : PySem.W.Frag} {mg : Str → Option Value} {base : Heap} {C aL : Addr}
/-- the generator's fixed parts -/
abbrev ZC (P : Program) (w : World) (K : PySem.W.Frag) (mg : Str → Option Value) (base : Heap) (A : Around) (outer : List Env) (L f : Addr) (cdv : Value) : Gp := { P := P, w := w, K := K, mg := mg, base := base, N := N_cells, env := envOfC "cells" (defScope s_cells) L f cdv, A := A.deeper (envOfC "cells" (defScope s_cells) L f cdv), outer := outer }
theorem sg_cells {A : Around} {outer : List Env} {L f : Addr} {cdv : Value} {b : List Int} {box : Addr} {i : Wk} (T : Tx K mg aL) (c_need_cells : Cal P w K mg base 4 "need_cells" ["box", "many"] (FnD K C R_need_cells)) (c_cell_count : Cal P w K mg base 1 "cell_count" ["box"] (FnD K C R_cell_count))
    (zk : (ZC P w K mg base A outer L f cdv).Ok) (hr : Room 4 (ZC P w K mg base A outer L f cdv).A) (hb1 : 1 ≤ b.length) (okB : OkBox b.length b) (hb3 : b.length ≤ 3) (hbl : box < L) (hbf : box ∉ frs outer) (wk : WkOk (ZC P w K mg base A outer L f cdv) box (b.map V.int) i) (hk : i.k = 0)
    (hH : i.H box = some (.tup (b.map V.int))) (I : Inv (gx (ZC P w K mg base A outer L f cdv) i.s i.H) [] (start N_cells [.ref box]) i.H i.s) :
    Sg (model P w) A (RG (ZC P w K mg base A outer L f cdv) box (b.map V.int) (cellsOf b)) (YG (ZC P w K mg base A outer L f cdv) box (b.map V.int) (cellsOf b)) (cellsOf b).length i (.func (defBody s_cells) (envOfC "cells" (defScope s_cells) L f cdv)) ((model P w).den (.func (defBody s_cells) (envOfC "cells" (defScope s_cells) L f cdv))) [] i.s := by
  have nd := sc_cells.nd
  have hn0 : ∀ i ∈ b, 0 ≤ i := fun i hi => (okB.each i hi).1
  have hov : A.over (.func (defBody s_cells) (envOfC "cells" (defScope s_cells) L f cdv)) [] = (ZC P w K mg base A outer L f cdv).A := GenW.over_func
  refine sg_func ?_
  have v0 : ∀ {Γ : Ev}, Γ[0]? = some (some (dI b)) → EvD K C (tVar 0) Γ (dI b) := fun h => ev_var h
  have hlen : ∀ {Γ : Ev}, Γ[0]? = some (some (dI b)) → EvD K C (tCB (rLenU K) (tCons (tVar 0) tNil)) Γ (nI (b.length : Nat)) := fun h => ev_is (ev_len (.inr (v0 h))) (by rw [List.length_map])
  have en0 : En K C i.H (start N_cells [.ref box]) [some (dI b), none, none, none, none, none] := en_start (Ns := N_cells) (ts := [dI b]) (.cons (Dt.new hH (dpAll_of_ints b)) .nil)
  have hsk : (3 : Int) - (b.length : Nat) = ((3 - b.length : Nat) : Int) := by omega
  have okd : ∀ i ∈ b, 0 ≤ i ∧ i ≤ 13 := okB.each
  refine sg_cons (sg_sd (C := C) (Γ := [some (dI b), none, none, none, none, none]) (Γ' := [some (dI b), none, none, none, none, none]) hov (fun s H => (ps_expr (pe_cal c_need_cells (hr.mono (by decide)) (pa_cons (pv 0) (pa_cons (pe_ifExp (PW.pt (pw_and (pt_val (pe_callB (kIsi K) (by rfl) T.n_isinstance boot_isinstance (pa_cons (pv 0) (pa_cons (pe_bltn (v := .ty "tuple") rfl T.n_tuple boot_tuple rfl) pa_nil)))) (pw_and1 (pt_chain op_lt op_le pe_int (pe_callB (kLen K) (by rfl) T.n_len PySem.boot_len (pa_cons (pv 0) pa_nil)) (pe_gi T.c_MAX_DIRECTIONS))))) (pe_callB (kLen K) (by rfl) T.n_len PySem.boot_len (pa_cons (pv 0) pa_nil)) pe_int) pa_nil))))) ?_ ⟨_, ⟨i.H, i.H, Same.refl _⟩, I, en0⟩ fun s1 ph1 => ?_)
  · refine sd_drop (ev_call (ea_cons (v0 rfl) (ea_cons (ev_if (b := true) (eb_is (eb_and (eb_test (ev_isi (v0 rfl) (fun _ h => nomatch h) (fun h => nomatch h) (b := true) ki_tt)) fun _ => eb_test (ev_ltLe ev_int (hlen rfl) ev_int)) ?_) (fun _ => hlen rfl) fun h => nomatch h) ea_nil)) ⟨b, by rfl, by omega, hn0, okB.small, okB.vol, rfl⟩)
    rw [decide_eq_true (by omega), decide_eq_true (by omega)]
    rfl
  refine sg_cons (sg_sd (C := C) (Γ' := [some (dI b), some (nI (3 - b.length : Nat)), none, none, none, none]) hov (fun s H => (ps_set (i := 1) nd rfl (Or.inl rfl) (pe_op op_sub (pe_gi T.c_MAX_DIRECTIONS) (pe_callB (kLen K) (by rfl) T.n_len PySem.boot_len (pa_cons (pv 0) pa_nil))))) ?_ ph1 fun s2 ph2 => ?_)
  · exact sd_set (ev_is (ev_subI ev_int (hlen rfl)) (by rw [hsk]))
  refine sg_cons (sg_sd (C := C) (Γ' := [some (dI b), some (nI (3 - b.length : Nat)), some (.tl ((sidesOf b).map .int)), none, none, none]) hov (fun s H => (ps_set (i := 2) nd rfl (Or.inl rfl) (pe_ifExp (pt_cmpR op_gt (pe_cal c_cell_count (hr.mono (by decide)) (pa_cons (pv 0) pa_nil)) pe_int (nomark _)) (pe_op (kAdd K) (pe_op (kMul K) (pe_lst (pa_cons pe_int pa_nil)) (pv 1)) (pe_callTy (kList K) (by rfl) T.n_list boot_list (pa_cons (pv 0) pa_nil))) (pe_lst (pa_cons pe_int (pa_cons pe_int (pa_cons pe_int pa_nil))))))) ?_ ph2 fun s3 ph3 => ?_)
  · refine sd_set (ev_if (b := decide (0 < vol b)) (eb_test (ev_gtI (ev_call (ea_cons (v0 rfl) ea_nil) ⟨b, rfl, okB.small, rfl⟩) ev_int)) (fun hv => ?_) fun hv => ?_)
    · refine ev_is (ev_catL (ev_repL (d := .int 1) (n := 3 - b.length) (ev_lst (ts := [nI 1]) (ea_cons ev_int ea_nil) rfl (Nat.le_of_ble_eq_true rfl)) (ev_var rfl) (by omega)) (ev_listOf (.inr (v0 rfl))) ?_) ?_
      · rw [List.length_replicate, List.length_map]
        omega
      · unfold sidesOf
        rw [if_pos (of_decide_eq_true hv), List.map_append, List.map_replicate]
    · refine ev_is (ev_lst (ts := [nI 0, nI 0, nI 0]) (ea_cons ev_int (ea_cons ev_int (ea_cons ev_int ea_nil))) rfl (Nat.le_of_ble_eq_true rfl)) ?_
      unfold sidesOf
      rw [if_neg (of_decide_eq_false hv)]
      rfl
  -- the loops
  have hit : ∀ (j : Nat) (x y z : Option Int), j < 3 → EvA K C (tCons (tOp (rIxU K) (tVar 2) (tC (.int (j : Nat)))) tNil) (G3 (3 - b.length : Nat) (sidesOf b) x y z) [nI ((((sidesOf b)[j]?).getD 0).toNat : Nat)] := fun j x y z hj =>
    ea_cons (ev_ixL (i := (j : Int)) (ds := (sidesOf b).map .int) (ev_dat (ev_var rfl)) ev_int (atI_nat (by rw [List.getElem?_map, (sides_at hb3 okd hj).1]; rfl))) ea_nil
  have hm : ∀ j, j < 3 → (((sidesOf b)[j]?).getD 0).toNat ≤ 100000 := fun j hj => Nat.le_trans (sides_at hb3 okd hj).2 (by decide)
  obtain ⟨m1, e1⟩ : ∃ m, m = (((sidesOf b)[0]?).getD 0).toNat := ⟨_, rfl⟩
  obtain ⟨m2, e2⟩ : ∃ m, m = (((sidesOf b)[1]?).getD 0).toNat := ⟨_, rfl⟩
  obtain ⟨m3, e3⟩ : ∃ m, m = (((sidesOf b)[2]?).getD 0).toNat := ⟨_, rfl⟩
  have hic := its_cells hb1 hb3 hn0
  rw [← e1, ← e2, ← e3] at hic
  have hcl : (cellsOf b).length = m1 * (m2 * m3) := by rw [← hic, its_len]
  have dy : ∀ t u v, t < m1 → u < m2 → v < m3 → Do (ZC P w K mg base A outer L f cdv) C box (b.map V.int) (cellsOf b) (3 - b.length : Nat) (sidesOf b) st_c4
      (fun x y z k => x = some (t : Int) ∧ y = some (u : Int) ∧ z = some (v : Int) ∧ k = t * (m2 * m3) + (u * m3 + v)) (fun x y z k => x = some (t : Int) ∧ y = some (u : Int) ∧ k = t * (m2 * m3) + (u * m3 + (v + 1))) := fun t u v h1 h2 h3 => by
    refine do_yield zk hbl hbf (fun s H => (pe_slice (kSl K) (pe_tup (pa_cons (pv 3) (pa_cons (pv 4) (pa_cons (pv 5) pa_nil)))) (po_some (pv 1)) po_none)) rfl rfl fun x y z k ⟨ex, ey, ez, ek⟩ => ⟨([(t : Int), (u : Int), (v : Int)] : List Int).drop (3 - b.length), ?_, ⟨ex, ey, by omega⟩, fun σ W en Q q => ?_⟩
    · rw [← hic, ek]
      exact its_at h1 h2 h3
    · subst ex ey ez
      obtain ⟨v1, g1, a1⟩ := en.at_ 1 _ rfl
      obtain ⟨v3, g3, a3⟩ := en.at_ 3 _ rfl
      obtain ⟨v4, g4, a4⟩ := en.at_ 4 _ rfl
      obtain ⟨v5, g5, a5⟩ := en.at_ 5 _ rfl
      have a1 := dp_int a1
      have a3 := dp_int a3
      have a4 := dp_int a4
      have a5 := dp_int a5
      subst a1 a3 a4 a5
      have hcut : cutV [V.int (t : Int), V.int (u : Int), V.int (v : Int)] (some ((3 - b.length : Nat) : Int)) none = (([(t : Int), (u : Int), (v : Int)] : List Int).drop (3 - b.length)).map V.int := by
        have : 3 - b.length = 0 ∨ 3 - b.length = 1 ∨ 3 - b.length = 2 := by omega
        rcases this with e | e | e <;> rw [e] <;> rfl
      refine ⟨_, g3, _, g4, _, g5, (show 3 ≤ sizeLine by decide), fun p hp => ⟨_, g1, _, rfl, .inr ⟨p, _, rfl, SqT.of upd_same, fun hw => ?_, fun _ r hr => ?_⟩⟩⟩
      · refine q p _ hp (same_new hp) ?_
        rw [upd_same, ← hcut]
        unfold cutV
        rw [hw.1, hw.2, List.drop_zero, Nat.sub_zero, List.take_length]
      · have hrp : W.H r = none := by
          by_cases e : r = p
          · subst e
            rw [upd_same] at hr
            cases hr
          · rw [upd_ne e] at hr
            exact hr
        refine q r _ hrp ((same_new hp).trans (same_new hr)) ?_
        rw [upd_same, hcut]
  have d3 : ∀ t u, t < m1 → u < m2 → Do (ZC P w K mg base A outer L f cdv) C box (b.map V.int) (cellsOf b) (3 - b.length : Nat) (sidesOf b) st_c3 (fun x y z k => x = some (t : Int) ∧ y = some (u : Int) ∧ k = t * (m2 * m3) + (u * m3 + 0)) (fun x y z k => x = some (t : Int) ∧ y = some (u : Int) ∧ k = t * (m2 * m3) + (u * m3 + m3)) := fun t u h1 h2 =>
    do_for zk (j := 5) (m := m3) (by rw [e3]; exact hm 2 (by decide)) (fun s H => (pi_range1 (by rfl) T.n_range (pa_cons (pe_ix (kIx K) (pv 2) pe_int (fun _ _ => rfl)) pa_nil))) (fun s H => (pg_name (i := 5) nd rfl (Or.inl rfl))) (fun _ => rfl) (fun v x y z => (x, y, some v)) (fun v x y z => rfl) (fun x y z => by rw [e3]; exact hit 2 x y z (by decide)) (fun v x y z k => x = some (t : Int) ∧ y = some (u : Int) ∧ k = t * (m2 * m3) + (u * m3 + v))
      fun v h3 A n i pins s c fs K J gd lv x y z g wk ph ⟨x0, y0, z0, ⟨g1, g2, g3⟩, g4⟩ => dy t u v h1 h2 h3 A n i pins s c fs K J gd lv x y z g wk ph (by cases g4; exact ⟨g1, g2, rfl, g3⟩)
  have d2 : ∀ t, t < m1 → Do (ZC P w K mg base A outer L f cdv) C box (b.map V.int) (cellsOf b) (3 - b.length : Nat) (sidesOf b) st_c2 (fun x y z k => x = some (t : Int) ∧ k = t * (m2 * m3) + 0 * m3) (fun x y z k => x = some (t : Int) ∧ k = t * (m2 * m3) + m2 * m3) := fun t h1 =>
    do_for zk (j := 4) (m := m2) (by rw [e2]; exact hm 1 (by decide)) (fun s H => (pi_range1 (by rfl) T.n_range (pa_cons (pe_ix (kIx K) (pv 2) pe_int (fun _ _ => rfl)) pa_nil))) (fun s H => (pg_name (i := 4) nd rfl (Or.inl rfl))) (fun _ => rfl) (fun v x y z => (x, some v, z)) (fun v x y z => rfl) (fun x y z => by rw [e2]; exact hit 1 x y z (by decide)) (fun u x y z k => x = some (t : Int) ∧ k = t * (m2 * m3) + u * m3)
      fun u h2 A n i pins s c fs K J gd lv x y z g wk ph ⟨x0, y0, z0, ⟨g1, g3⟩, g4⟩ hn kk => d3 t u h1 h2 A n i pins s c fs K J gd lv x y z g wk ph (by cases g4; exact ⟨g1, rfl, by omega⟩) hn fun n' i' s' x' y' z' w' p' q' e' => kk n' i' s' x' y' z' w' p' ⟨q'.1, by rw [q'.2.2, Nat.succ_mul]⟩ e'
  have d1 : Do (ZC P w K mg base A outer L f cdv) C box (b.map V.int) (cellsOf b) (3 - b.length : Nat) (sidesOf b) st_c1 (fun x y z k => k = 0 * (m2 * m3)) (fun x y z k => k = m1 * (m2 * m3)) :=
    do_for zk (j := 3) (m := m1) (by rw [e1]; exact hm 0 (by decide)) (fun s H => (pi_range1 (by rfl) T.n_range (pa_cons (pe_ix (kIx K) (pv 2) pe_int (fun _ _ => rfl)) pa_nil))) (fun s H => (pg_name (i := 3) nd rfl (Or.inl rfl))) (fun _ => rfl) (fun v x y z => (some v, y, z)) (fun v x y z => rfl) (fun x y z => by rw [e1]; exact hit 0 x y z (by decide)) (fun t x y z k => k = t * (m2 * m3))
      fun t h1 A n i pins s c fs K J gd lv x y z g wk ph ⟨x0, y0, z0, g1, g4⟩ hn kk => d2 t h1 A n i pins s c fs K J gd lv x y z g wk ph (by cases g4; exact ⟨rfl, by rw [g1, Nat.zero_mul]; rfl⟩) hn fun n' i' s' x' y' z' w' p' q' e' => kk n' i' s' x' y' z' w' p' (by rw [q'.2, Nat.succ_mul]) e'
  refine sg_cons (d1 A _ i [] s3 _ _ _ _ _ _ none none none ⟨hov, rfl, rfl, rfl⟩ wk ⟨?_, fun p hp => nomatch hp⟩ (by rw [hk, Nat.zero_mul]) (by rw [hk]; rfl) fun n' i' s' x y z wk' ph' hk' hn' => ?_)
  · obtain ⟨σ, W, I, en⟩ := ph3
    refine ⟨σ, W, I, en.re rfl fun j t hj => ?_⟩
    cases j with
    | zero => cases hj
    | succ j => exact ⟨t, hj, fun _ h => h⟩
  · refine sg_nil (sg_end (.ok (.ret .none)) ⟨.inl rfl, by rw [hk', hcl], ?_⟩)
    obtain ⟨⟨σ, W, I, _⟩, _⟩ := ph'
    exact kept_to wk' I
end
end Lk
/-! Gq: the generator as it is made. -/
namespace Lk
open PySem PySem.Spec PyProof.Rows L2 Ly Gn GenW
def onlyT (box : Addr) (bx : List V) : Hp := fun b => if b = box then some (.tup bx) else none
theorem onlyT_at {box : Addr} {bx : List V} : onlyT box bx box = some (.tup bx) := if_pos rfl
theorem onlyT_ne {box b : Addr} {bx : List V} (h : b ≠ box) : onlyT box bx b = none := if_neg h
structure MadeC (X : Cx) (f : Addr) (s : Shared) (box : Addr) (bx : List V) (cdv0 : Value) (a g : Nat) (s' : Shared) : Prop where
  lt : s.heap.objs.size < a
  gen : s'.heap.IsGen a g
  fresh : s'.gens[g]? = some (.fresh (.func (defBody s_cells) (envOfC "cells" (defScope s_cells) s.heap.objs.size f cdv0)))
  os : s'.os = s.os
  bare : AllBare s'.gens
  keep : ∀ b o, s.heap.get? b = some o → s'.heap.get? b = some o
  at_ : At0 (ZC X.prog X.w X.K X.mg X.base X.A.in1 X.stack s.heap.objs.size f cdv0) (start N_cells [.ref box]) (onlyT box bx) s'
section
variable {X : Cx} {f : Addr} {fd : FuncData} {pins : List (Addr × Obj)} {σ : L2.St} {H : Hp} {s : Shared} {box : Addr} {bx : List V} {E : Value → Shared → Prop}
theorem run_cells (F : Fun X.K "cells" "cells" s_cells f fd) (hb : Binds X.K fd ["box"] []) {k : Nat} (hr : Room (k + 2) X.A) (I : L2.Inv X pins σ H s) (hbx : H box = some (.tup bx)) :
    wpAny (model X.prog X.w) X.A (call (.ref f) [.ref box]) (fun u s' => ∃ cdv0 a g, u = .ref a ∧ MadeC X f s box bx cdv0 a g s') E s := by
  obtain ⟨oc0, od0, kV0, doc0, pm0, an0, cdv0, ct0, osl0, rfl, lk0, hcd0⟩ := F.ex
  have KX := I.kIn
  have lim : s.heap.NoLimit := I.nolimit
  have hl : [Value.ref box].length = (["box"] : List Str).length := rfl
  have e0b := I.env0
  have S0 := sc_cells
  have hkind : ∀ y ∈ (["box"] : List Str).zip [Value.ref box], (defScope s_cells).names.lookup y.1 = some .local ∨ ((defScope s_cells).names.lookup y.1 = some .cell ∧ ((cellsFrom (s.heap.objs.size + 1) (defScope s_cells).names []).lookup y.1).isSome = true) := fun ⟨n, v⟩ hy0 => by
    rcases S0.par n (List.of_mem_zip hy0).1 with q | q
    · exact .inl q
    · exact
          .inr ⟨q, PySem.W.cellsFrom_some _ _ _ (.inl q)⟩
  refine wpAny_call (codeAny_mono (codeAny_call_generator (R := fun r s' => ∃ a, r = .ok (.ret (.ref a)) ∧ ∃ g, MadeC X f s box bx cdv0 a g s') (by have := hr.dp; omega) (KX _ _ lk0) rfl S0.co S0.gen rfl (PySem.W.codeRec_of KX hcd0) (hb s [.ref box] KX hl _ _ _ _ ?_)) fun r s' hq => ?_)
  · refine wpAny_newFunctionEnv_cells S0.kind hkind fun env he s1 x => ?_
    subst he
    refine ⟨lim.keeps x.toInCall.keep, s1.heap.objs.size, rfl, s1.gens.size, ?_⟩
    obtain ⟨h1b, tk0, es1b, hk1b⟩ := x.done
    have gen1b : s1.gens = s.gens := by rw [es1b]
    have lt1b : s.heap.objs.size < s1.heap.objs.size := x.toInCall.ns.lt
    have I1 : L2.Inv (gcxOf X.prog X.w X.K X.mg X.base N_cells "cells" (defScope s_cells) f cdv0 X.A.in1 X.stack s H (fun _ _ _ => False) []) [] (start N_cells [.ref box]) H s1 :=
      inv_startG S0 hr.hd ⟨e0b.frames, e0b.mod, e0b.bs, e0b.bsz, e0b.funs, e0b.frf, e0b.hok, e0b.bare⟩ rfl (.cons rfl .nil) x
    have a1 : At0 (ZC X.prog X.w X.K X.mg X.base X.A.in1 X.stack s.heap.objs.size f cdv0) (start N_cells [.ref box]) H s1 := ⟨I1.bare, I1.bs, I1.funs, e0b.frf, I1.loc, I1.free, I1.hok, I1.len⟩
    have a2 := a1.less (H' := onlyT box bx) (fun b hb' => by
      by_cases z : b = box
      · subst z; rw [hbx] at hb'; cases hb'
      · exact onlyT_ne z) fun b o e => by
      by_cases z : b = box
      · subst z
        rw [onlyT_at] at e
        cases e
        exact tup_any (I1.hok b _ hbx)
      · rw [onlyT_ne z] at e; cases e
    refine ⟨lt1b, ⟨_, _, _, Heap.get?_push_size _ rfl, rfl, rfl, rfl⟩, Array.getElem?_push_size .., by rw [es1b], ?_, fun b o e => Heap.get?_push_of_some _ (x.toInCall.keep b o e), ?_⟩
    · exact AllBare.push (by rw [gen1b]; exact e0b.bare) rfl
    · have kp : ∀ b o, s1.heap.get? b = some o → (s1.heap.push { cls := .type "generator", data := .fields #[.int s1.gens.size 0, .str "cells" s1.toks, .str "cells" (s1.toks + 1)] }).get? b = some o := fun b o e => Heap.get?_push_of_some _ e
      refine ⟨AllBare.push (by rw [gen1b]; exact e0b.bare) rfl, fun b o e => ⟨kp b o (a2.bs b o e).1, (a2.bs b o e).2⟩, a2.funs.of_keeps fun b o e _ => ⟨o, kp b o e, rfl⟩, a2.frf, ?_, a2.free, a2.hok.kept kp, a2.len⟩
      obtain ⟨m, hn, hl'⟩ := a2.loc
      refine ⟨m, hn.keeps kp, fun i y v e1 e2 e3 => ?_⟩
      obtain ⟨u, r, l⟩ := hl' i y v e1 e2 e3
      refine ⟨u, r, ?_⟩
      rcases l with l | ⟨k1, c, e, z⟩
      · exact .inl l
      · exact .inr ⟨k1, c, e, z.keeps kp⟩
  · obtain ⟨a, rfl, g, hm⟩ := hq
    exact ⟨cdv0, a, g, rfl, hm⟩
end
end Lk
/-! Gl: a comprehension over the generator. -/
namespace Lk
open PySem PySem.Spec PyProof.Rows L2 Ly Gn GenW
theorem asleep_run {α : Type} {M : Model} {A : Around} {t : Sem α} {Φ Q : α → Shared → Prop} {E : Value → Shared → Prop} {s : Shared} {g : Nat} {gs : GenState} (hb0 : AllBare s.gens) (hg : s.gens[g]? = some gs) (ha : Fz.asleep gs = true)
    (h : wpAny M A t Φ (fun _ _ => False) (Fz.onG s (s.gens.map Fz.bad))) (hq : ∀ a s1 G, Φ a s1 → G[g]? = some gs → (AllBare s1.gens → AllBare G) → Q a (Fz.onG s1 G)) : wpAny M A t Q E s :=
  Fz.wpAny_asleep (wpAny_mono h (fun a s1 hΦ G r => hq a s1 G hΦ (r.at_ g gs (Fz.sleepers_at hg ha)).2.1 fun hb1 x hx => by
    obtain ⟨i, hi0, e0⟩ := Array.mem_iff_getElem.mp hx
    have e2 : G[i]? = some x := by rw [Array.getElem?_eq_getElem hi0, e0]
    cases q : Fz.sleepers s.gens i with
    | none =>
      rw [(r.off i q).1] at e2
      exact hb1 x (Array.mem_of_getElem? e2)
    | some st =>
      rw [(r.at_ i st q).2.1] at e2
      cases e2
      unfold Fz.sleepers at q
      split at q
      · rename_i y hy
        split at q
        · cases q
          exact hb0 _ (Array.mem_of_getElem? hy)
        · cases q
      · cases q) fun _ _ z => z.elim)
theorem bare_bad {G : Array GenState} (h : AllBare G) : AllBare (G.map Fz.bad) := fun x hx => by
  obtain ⟨y, hy, rfl⟩ := Array.mem_map.mp hx
  rw [Fz.bad_bare]
  exact h y hy
theorem inv_onG {X : Cx} {pins : List (Addr × Obj)} {σ : L2.St} {H : Hp} {s : Shared} {G : Array GenState} (I : L2.Inv X pins σ H s) (hb0 : AllBare G) : L2.Inv X pins σ H (Fz.onG s G) := ⟨I.ok, I.os, hb0, I.base, I.loc, I.cell, I.free, I.freeC, I.pin, I.hok, I.len⟩
theorem obj_ex {P : Program} {w : World} {H : Hp} {h : Heap} {a : Addr} {o : HO} (x : ObjOk P w H h a o) : ∃ ob, h.get? a = some ob := by
  cases o with
  | lst xs => obtain ⟨_, _, _, _, e0⟩ := x; exact ⟨_, e0⟩
  | tup xs => obtain ⟨_, _, _, ob, e0, _⟩ := x; exact ⟨ob, e0⟩
  | dK kvs => obtain ⟨_, _, _, _, o, _, _, e0, _⟩ := x; exact ⟨o, e0⟩
  | dT kvs => obtain ⟨_, _, _, _, o, _, _, e0, _⟩ := x; exact ⟨o, e0⟩
  | set S0 n => obtain ⟨o, _, _, _, e0, _⟩ := x; exact ⟨o, e0⟩
  | ins C dx0 fs0 => obtain ⟨_, _, _, e0, _⟩ := x; exact ⟨_, e0⟩
  | own y => exact x
  | xd fs0 => obtain ⟨_, ⟨o, _, _, e0, _⟩, _⟩ := x; exact ⟨o, e0⟩
  | rng lo0 hi0 => obtain ⟨_, _, _, e0⟩ := x; exact ⟨_, e0⟩
  | frz ob u => obtain ⟨e0, _⟩ := x; exact ⟨ob, e0⟩
  | tbl ps => exact ⟨_, (show h.get? a = some _ from x)⟩
  | met f y => exact ⟨_, (show h.get? a = some _ from x)⟩
  | ext φ => obtain ⟨_, e0, _⟩ := x; exact e0
/-- an address of the generator's own, as its consumer sees it -/
structure OwnC (X : Cx) (H : Hp) (s : Shared) (box b : Addr) : Prop where
  free : H b = none
  ne : b ≠ X.env.locals
  fs : b ∉ X.fs
  old : b ∈ X.ex ∨ X.s_0.heap.objs.size ≤ b
  box : b ≠ box
  there : ∃ o, s.heap.get? b = some o ∧ ∀ v, o.data ≠ .cell v
theorem own_cell {X : Cx} {pins : List (Addr × Obj)} {σ : L2.St} {H : Hp} {s : Shared} {box b : Addr} (I : L2.Inv X pins σ H s) (o : OwnC X H s box b) : ∀ x c, X.env.cells.lookup x = some c → c ≠ b := fun x c e0 z => by
  subst z
  obtain ⟨v, ob, ho0, hd⟩ := I.cell x c e0
  obtain ⟨ob', ho', hn⟩ := o.there
  rw [ho0] at ho'
  cases ho'
  exact hn v hd
section
variable {X : Cx} {Z : Gp} {box : Addr} {bx : List V} {σ : L2.St} {H : Hp} {s z : Shared} {i : Wk}
theorem loc_nfs (I : L2.Inv X [] σ H s) : X.env.locals ∉ X.fs := fun hf => by
  obtain ⟨_, o, ho0, _⟩ := I.ok.funs.mem hf
  have h1b := Heap.lt_size ho0
  have h2b := I.ok.above
  exact absurd (Nat.lt_of_lt_of_le h1b h2b) (Nat.lt_irrefl _)
theorem fs_free (I : L2.Inv X [] σ H s) {b : Addr} (hf : b ∈ X.fs) : H b = none := by
  obtain ⟨_, o, ho0, _⟩ := I.ok.funs.mem hf
  exact I.base.free b o ho0 (I.ok.frf b hf) fun q => I.ok.exfs b q hf
def updQ (H : Hp) : Option (Addr × List V) → Hp
  | some p => upd H p.1 (.tup p.2)
  | none => H
def chQ : Option (Addr × List V) → List Addr
  | some p => [p.1]
  | none => []
/-- the generator has run; what it hands out is tracked (q none: it has ended) -/
theorem gen_step (hpn : X.pn = []) (hfs : X.fs = frs Z.outer) (hZp : Z.P = X.prog) (hZw : Z.w = X.w) (I : L2.Inv X [] σ H s) (hbx : H box = some (.tup bx)) (hs : i.s.heap = s.heap) (hos : i.s.os = s.os) (own : ∀ b ∈ i.own, OwnC X H s box b) (kt : KeptTo Z box bx i z) (dead : ∀ b, Dead s b → Dead z b)
    (q : Option (Addr × List V)) (hq : ∀ p, q = some p → ObjOk Z.P Z.w (fun _ => none) z.heap p.1 (.tup p.2) ∧ ∀ o, i.s.heap.get? p.1 = some o → p.1 ∈ i.own) {G : Array GenState} (hG : AllBare G) :
    L2.Inv X [] σ (updQ H q) (Fz.onG z G) := by
  have locOk : X.env.locals ∉ i.own := fun hm0 => (own _ hm0).ne rfl
  have hos' : z.os = s.os := kt.os.trans hos
  have qf : ∀ p, q = some p → H p.1 = none ∧ (p.1 ∈ i.own ∨ s.heap.objs.size ≤ p.1) := fun p e0 => by
    obtain ⟨q1, q2⟩ := hq p e0
    cases hx : s.heap.get? p.1 with
    | some o =>
      have hm0 := q2 o (by rw [hs]; exact hx)
      exact ⟨(own _ hm0).free, .inl hm0⟩
    | none =>
      refine ⟨?_, .inr (Nat.le_of_not_lt fun hlt => ?_)⟩
      · cases hh : H p.1 with
        | none => rfl
        | some u =>
          obtain ⟨ob, e0⟩ := obj_ex (I.hok p.1 u hh)
          rw [hx] at e0
          cases e0
      · obtain ⟨ob, e0⟩ := obj_ex q1
        have := (dead p.1 ⟨hlt, hx⟩).2
        rw [e0] at this
        cases this
  obtain ⟨H', hH'⟩ : ∃ H' : Hp, H' = updQ H q := ⟨_, rfl⟩
  rw [← hH']
  have up : ∀ b, (∀ p, q = some p → b ≠ p.1) → H' b = H b := fun b hb0 => by
    rw [hH']
    cases q with
    | none => rfl
    | some p => exact upd_ne (hb0 p rfl)
  have upS : ∀ b o, H b = some o → H' b = some o := fun b o e0 => by
    rw [up b fun p hp z => ?_]
    · exact e0
    · rw [z, (qf p hp).1] at e0
      cases e0
  have keep : ∀ b o, b ∉ X.fs → b ∉ i.own → b ≠ box → s.heap.get? b = some o → z.heap.get? b = some o := fun b o h1b h2b h3 e0 => kt.keep b o (by rw [hs]; exact e0) h2b (by rw [← hfs]; exact h1b) h3
  have boxOk : ∀ H1 : Hp, ObjOk X.prog X.w H1 z.heap box (.tup bx) := fun H1 => by
    have h := kt.box
    rw [hZp, hZw] at h
    exact tup_any h
  have eqZ : Fz.onG z G = { s with heap := z.heap, gens := G, drawn := z.drawn, toks := z.toks } := by
    obtain ⟨a, b, c, d, e0⟩ := z
    obtain rfl : e0 = s.os := hos'
    rfl
  rw [eqZ]
  refine I.step (ch := i.own ++ chQ q) (fun b hb0 => ?_) (fun b o hL hf hc e0 n => ?_) (fun b o hL hf hc e0 n => ?_) (fun b o hc e0 n => ?_) (fun b o hc e0 => ?_) (fun b xs e0 => upS b _ e0) (fun b o u e0 => upS b _ e0) (fun b ps e0 => ⟨#[], by rw [upS b _ e0]; simp⟩) (fun m hm0 => ?_) (fun b u e0 => ?_) hG
  · rcases List.mem_append.mp hb0 with hb0 | hb0
    · have o := own b hb0
      exact ⟨o.old, o.ne, own_cell I o, fun p hp => by rw [hpn] at hp; cases hp⟩
    · cases q with
      | none => cases hb0
      | some p =>
        obtain rfl : b = p.1 := List.mem_singleton.mp hb0
        rcases (qf p rfl).2 with hm0 | hm0
        · have o := own _ hm0
          exact ⟨o.old, o.ne, own_cell I o, fun p hp => by rw [hpn] at hp; cases hp⟩
        · have f := I.fpOk hm0 (qf p rfl).1
          exact ⟨f.2.2.2.1, f.2.1, f.2.2.2.2.1, f.2.2.2.2.2⟩
  · exact keep b o hf (fun z => hc (List.mem_append_left _ z)) (fun z => by rw [z, hbx] at n; cases n) e0
  · exact kt.slot b o (by rw [hs]; exact e0) (by rw [← hfs]; exact hf)
  · rw [up b fun p hp z => ?_]
    · exact n
    · subst hp
      exact hc (List.mem_append_right _ (List.mem_singleton.mpr z))
  · by_cases hf : b ∈ X.fs
    · obtain ⟨sl, e1⟩ := kt.slot b o (by rw [hs]; exact e0) (by rw [← hfs]; exact hf)
      exact ⟨_, e1⟩
    · by_cases hbb : b = box
      · subst hbb
        exact obj_ex (boxOk H)
      · exact ⟨o, keep b o hf (fun z => hc (List.mem_append_left _ z)) hbb e0⟩
  · obtain ⟨o, es0, ep0, ho0, r⟩ := hm0
    refine ⟨o, es0, ep0, keep _ o (loc_nfs I) locOk (fun z => ?_) ho0, r⟩
    have := I.free
    rw [z, hbx] at this
    cases this
  · by_cases hqb : ∃ p, q = some p ∧ b = p.1
    · obtain ⟨p, rfl, rfl⟩ := hqb
      rw [hH'] at e0
      have e0 : upd H p.1 (.tup p.2) p.1 = some u := e0
      rw [upd_same] at e0
      cases e0
      have h := (hq p rfl).1
      rw [hZp, hZw] at h
      exact tup_any h
    · rw [up b fun p hp z => hqb ⟨p, hp, z⟩] at e0
      by_cases hbb : b = box
      · subst hbb
        rw [hbx] at e0
        cases e0
        exact boxOk _
      · refine (I.hok b u e0).stay (fun c v hc y => ?_) (fun c y => upS c _ y) fun c xs y => upS c _ y
        have hcn : H c ≠ none := fun n => by
          rcases hc with z | z
          · rw [← z, n] at e0; cases e0
          · rw [n] at z; cases z
        refine keep c v (fun z => hcn (fs_free I z)) (fun z => hcn (own c z).free) (fun z => ?_) y
        rcases hc with y2 | y2
        · exact hbb (y2.symm.trans z)
        · rw [z, hbx] at y2; cases y2
end
end Lk
/-! Gk: the comprehension over cells(box), whole. -/
namespace Lk
open PySem PySem.Spec PyProof.Rows L2 Ly Gn GenW
/-- [e0 for x in cells(box)]: D the new list; j x's slot, ib the box's -/
def tLcG (j ib : Nat) (te : TE) (vs : List Nat) : TE := fun σ00 H Q => ∃ (box : Addr) (b : List Int), σ00[ib]? = some (some (.ref box)) ∧ H box = some (.tup (b.map V.int)) ∧ 1 ≤ b.length ∧ b.length ≤ 3 ∧ OkBox b.length b ∧
  ∀ D, H D = none → ∃ W : Nat → Hp → Prop, W 0 (upd H D (.lst [])) ∧
    (∀ k c0 H1, (cellsOf b)[k]? = some c0 → W k H1 → ∀ q, H1 q = none → te ((wipe σ00 vs).set j (some (.ref q))) (upd H1 q (.tup (c0.map V.int))) fun y0 H4 => ∃ acc, H4 D = some (.lst acc) ∧ acc.length < sizeLine ∧ W (k + 1) (upd H4 D (.lst (acc ++ [y0])))) ∧
    ∀ H1, W (cellsOf b).length H1 → Q (.ref D) H1
/-- all the loop keeps -/
structure HeadG (X : Cx) (Z : Gp) (box : Addr) (bx : List V) (its : List (List Int)) (A : Around) (a g : Nat) (σ00 : L2.St) (k : Nat) (own : List Addr) (H : Hp) (s : Shared) : Prop where
  I : L2.Inv X [] σ00 H s
  each : ∀ b ∈ own, OwnC X H s box b
  gen : s.heap.IsGen a g
  af : H a = none
  an : a ∉ own
  go : ∃ gs i, s.gens[g]? = some gs ∧ i.s = s.setGen g .running ∧ i.own = own ∧ i.k = k ∧ Goes (model X.prog X.w) A (RG Z box bx its) (YG Z box bx its) (its.length - k) i gs (s.setGen g .running)
section
variable {X : Cx} {Z : Gp} {box : Addr} {bx : List V} {its : List (List Int)} {a g k : Nat} {σ00 : L2.St} {own : List Addr} {H : Hp} {s : Shared}
theorem onG_set {z0 : Shared} {gs : GenState} : Fz.onG z0 (z0.setGen g gs).gens = z0.setGen g gs := rfl
/-- the generator is asked for the next -/
theorem turn_G (hpn : X.pn = []) (hfs : X.fs = frs Z.outer) (hZp : Z.P = X.prog) (hZw : Z.w = X.w) (hh : X.A.handled = none) (hd : X.A.depth < recursionLimit) (hbx : H box = some (.tup bx)) (hL : Z.env.locals ≠ a) (h : HeadG X Z box bx its X.A.in1 a g σ00 k own H s) {E : Value → Shared → Prop} {Q : Option Value → Shared → Prop}
    (hY : ∀ q c0 own' gs' z0, its[k]? = some c0 → H q = none → L2.Inv X [] σ00 (upd H q (.tup (c0.map V.int))) (z0.setGen g gs') → gs'.bare = true → Fz.asleep gs' = true → (z0.setGen g gs').gens[g]? = some gs' → z0.heap.IsGen a g → (upd H q (.tup (c0.map V.int))) a = none → a ∉ own' →
      (∀ b ∈ own', OwnC X (upd H q (.tup (c0.map V.int))) z0 box b) → (∀ s', Rdy Z box bx own' z0 s' → ∃ j : Wk, j.s = s' ∧ j.own = own' ∧ j.k = k + 1 ∧ Goes (model X.prog X.w) X.A.in1 (RG Z box bx its) (YG Z box bx its) (its.length - (k + 1)) j gs' s') → Q (some (.ref q)) (z0.setGen g gs'))
    (hN0 : ∀ s', k = its.length → L2.Inv X [] σ00 H s' → Q none s') : wpAny (model X.prog X.w) X.A (pyNext (.ref a)) Q E s := by
  obtain ⟨gs, i, hgs, his, hiown, hik, hgo⟩ := h.go
  have I := h.I
  subst hiown hik
  have hs : i.s.heap = s.heap := by rw [his]; rfl
  have hos : i.s.os = s.os := by rw [his]; rfl
  refine next_Sg (F := FG Z box bx its) hh I.nolimit hd h.gen hgs hgo (fun v z0 gs' hdead hbare hasl hy0 => ?_) (fun z0 hdead hF h' hk' => ?_)
  · obtain ⟨q, c0, own', rfl, hc, hob, kt, hqo, hown', hr⟩ := hy0
    have I6b := gen_step (q := some (q, c0.map V.int)) hpn hfs hZp hZw I hbx hs hos h.each kt hdead.1 (fun p e0 => by cases e0; exact ⟨hob, hqo⟩) (G := (z0.setGen g gs').gens) (allBare_setGen kt.bare hbare)
    rw [onG_set] at I6b
    have I6b : L2.Inv X [] σ00 (upd H q (.tup (c0.map V.int))) (z0.setGen g gs') := I6b
    obtain ⟨oa, nm, qn, hoa, hca, hda, hsa⟩ := h.gen
    have aq : a ≠ q := fun e0 => h.an (by rw [e0]; exact hqo oa (by rw [hs, ← e0]; exact hoa))
    have afs : a ∉ X.fs := fun hf => by
      obtain ⟨_, o, ho, hdd⟩ := I.ok.funs.mem hf
      obtain ⟨sl, e0⟩ := I.base.slot a o ho (I.ok.frf a hf) hf fun z0 => I.ok.exfs a z0 hf
      rw [hoa] at e0
      cases e0
      exact hdd _ hda
    have abox : a ≠ box := fun e0 => by
      have := h.af
      rw [e0, hbx] at this
      cases this
    have hgz : z0.heap.IsGen a g := ⟨oa, nm, qn, kt.keep a oa (by rw [hs]; exact hoa) h.an (by rw [← hfs]; exact afs) abox, hca, hda, hsa⟩
    have hqn : H q = none := by
      cases hh2 : H q with
      | none => rfl
      | some u =>
        obtain ⟨ob, e0⟩ := obj_ex (I.hok q u hh2)
        have := (h.each q (hqo ob (by rw [hs]; exact e0))).free
        rw [hh2] at this
        exact this
    have hgl : g < z0.gens.size := Nat.lt_of_lt_of_le (Array.getElem?_eq_some_iff.mp hgs).1 hdead.2
    refine hY q c0 own' gs' z0 hc hqn I6b hbare hasl (setGen_at hgl) hgz (by rw [upd_ne aq]; exact h.af) (fun hm => h.an ((hown' a hm).2.1 oa (by rw [hs]; exact hoa))) (fun b hm => ?_) fun s' hrd => ?_
    · obtain ⟨h1, h2, h3b, h4, h5⟩ := hown' b hm
      have hbn : H b = none := by
        cases hh2 : H b with
        | none => rfl
        | some u =>
          obtain ⟨ob, e0⟩ := obj_ex (I.hok b u hh2)
          have := (h.each b (h2 ob (by rw [hs]; exact e0))).free
          rw [hh2] at this
          exact this
      have alt : b ∈ i.own ∨ s.heap.objs.size ≤ b := by
        cases hx : s.heap.get? b with
        | some o => exact .inl (h2 o (by rw [hs]; exact hx))
        | none =>
          refine .inr (Nat.le_of_not_lt fun hlt => ?_)
          obtain ⟨o, ho, _⟩ := h1
          have := (hdead.1 b ⟨hlt, hx⟩).2
          rw [ho] at this
          cases this
      refine ⟨by rw [upd_ne h4]; exact hbn, ?_, by rw [hfs]; exact h3b, ?_, h5, h1⟩
      · rcases alt with hm2 | hm2
        · exact (h.each b hm2).ne
        · exact Nat.ne_of_gt (Nat.lt_of_lt_of_le I.lt hm2)
      · rcases alt with hm2 | hm2
        · exact (h.each b hm2).old
        · exact .inr (Nat.le_trans I.sz hm2)
    · obtain ⟨j, j1, j2, j3, j4⟩ := hr s' hrd
      have hkl := (List.getElem?_eq_some_iff.mp hc).1
      have e0 : its.length - i.k = (its.length - (i.k + 1)) + 1 := by omega
      rw [e0] at j4
      exact ⟨j, j1, j2, j3, j4⟩
  · obtain ⟨hkk, kt⟩ := hF
    have I6b := gen_step (q := none) hpn hfs hZp hZw I hbx hs hos h.each kt hdead.1 (fun p e0 => nomatch e0) (G := (z0.setGen g .finished).gens) (allBare_setGen kt.bare rfl)
    exact hN0 _ hkk (I6b.kept (t' := z0.toks) hk')
/-- the wake that begins it -/
def h00 (L box : Addr) (bx : List V) (h : Heap) : Hp := fun b => if b = box then some (.tup bx) else if L ≤ b ∧ b ≠ L then (h.get? b).map fun o => .frz o (.own 0) else none
theorem first_wake {σ0 : L2.St} {L : Addr} (hL : Z.env.locals = L) (zk : Z.Ok) {s0 s1 : Shared} (a0 : At0 Z σ0 (onlyT box bx) s0) (hb : AllBare s1.gens) (bs : ∀ b o, Z.base.get? b = some o → s1.heap.get? b = some o) (kp : ∀ b o, s0.heap.get? b = some o → s1.heap.get? b = some o) (hbl : box < L) (hbf : box ∉ frs Z.outer) :
    WkOk Z box bx ⟨s1, h00 L box bx s1.heap, [L], 0⟩ ∧ L2.Inv (gx Z s1 (h00 L box bx s1.heap)) [] σ0 (h00 L box bx s1.heap) s1 ∧ h00 L box bx s1.heap box = some (.tup bx) := by
  subst hL
  have eb : h00 Z.env.locals box bx s1.heap box = some (.tup bx) := if_pos rfl
  have lowN : ∀ b, b ≠ box → b ≤ Z.env.locals → h00 Z.env.locals box bx s1.heap b = none := fun b h1 h2 => by
    show (if b = box then _ else _) = none
    rw [if_neg h1, if_neg (fun z0 => z0.2 (Nat.le_antisymm h2 z0.1))]
  have hi : ∀ b o, Z.env.locals ≤ b → b ≠ Z.env.locals → s1.heap.get? b = some o → h00 Z.env.locals box bx s1.heap b = some (.frz o (.own 0)) := fun b o h1 h2 h3b => by
    show (if b = box then _ else _) = _
    rw [if_neg (fun z0 => absurd hbl (Nat.not_lt_of_le (by rw [← z0]; exact h1))), if_pos ⟨h1, h2⟩, h3b]
    rfl
  have a1 := a0.wake zk hb bs (a0.funs.of_keeps fun b o e0 _ => ⟨o, kp b o e0, rfl⟩) (fun o e0 => kp _ o e0) (a0.hok.kept kp)
  have a2 : At0 Z σ0 (h00 Z.env.locals box bx s1.heap) s1 := a1.more (fun b o e0 => lowN b (fun z0 => by
      have := (a0.bs b o e0).2
      rw [z0, onlyT_at] at this
      cases this) (Nat.le_trans (Nat.le_of_lt (Heap.lt_size e0)) zk.bsz)) (fun b hb => lowN b (fun z0 => hbf (by rw [← z0]; exact hb)) (Nat.le_of_lt (zk.olt b hb))) (lowN _ (fun z0 => absurd hbl (by rw [← z0]; exact Nat.lt_irrefl _)) (Nat.le_refl _)) fun b o e0 => by
    by_cases z0 : b = box
    · subst z0
      rw [eb] at e0
      cases e0
      exact tup_any (a1.hok b _ onlyT_at)
    · have e0 : (if b = box then some (HO.tup bx) else if Z.env.locals ≤ b ∧ b ≠ Z.env.locals then (s1.heap.get? b).map fun o => HO.frz o (.own 0) else none) = some o := e0
      rw [if_neg z0] at e0
      by_cases z2 : Z.env.locals ≤ b ∧ b ≠ Z.env.locals
      · rw [if_pos z2] at e0
        cases q : s1.heap.get? b with
        | none => rw [q] at e0; cases e0
        | some ob =>
          rw [q] at e0
          cases e0
          exact ⟨q, ob, q⟩
      · rw [if_neg z2] at e0; cases e0
  refine ⟨⟨a1.lt, .inl eb, fun b o h1 h2 h3b => hi b o h1 (fun z0 => h2 (by rw [z0]; exact List.mem_cons_self)) h3b, fun b h1 h2 h3b => lowN b h2 (Nat.le_of_lt h1)⟩, gx_inv zk a2 (fun p hp => nomatch hp), eb⟩
end
section
variable {X : Cx} {aL C : Addr}
theorem pe_lcG {f : Addr} {fd : FuncData} {elt eb : Expr} {nm : Str} {px pos p pos' : Pos} {scope0 : Scope} {own : List (Str × Nat)} {te : TE} {j ib : Nat} (F : Fun X.K "cells" "cells" s_cells f fd) (hb : Binds X.K fd ["box"] []) (hr : Room 6 X.A) (T : Tx X.K X.mg aL)
    (c_need_cells : Cal X.prog X.w X.K X.mg X.base 4 "need_cells" ["box", "many"] (FnD X.K C R_need_cells)) (c_cell_count : Cal X.prog X.w X.K X.mg X.base 1 "cell_count" ["box"] (FnD X.K C R_cell_count))
    (hm : X.mg "cells" = some (.ref f)) (hk : PySem.W.keepIn X.K (.ref f) = true) (hc : X.calm = true) (hN0 : X.N.Nodup) (hbx : PE X eb (tVar ib)) (ok0 : BlkOk X.N X.env.scope scope0 own) (hj : j ∈ own.map (·.2))
    (hg : ∀ (s : Shared) (H : Hp) (C : Addr) (cl : List (Str × Addr)) (fp : List Addr), PG (X.blk s H scope0 (compEnvC scope0 cl C X.env) fp) (.Name nm px) (gName j))
    (he : ∀ (s : Shared) (H : Hp) (C : Addr) (cl : List (Str × Addr)) (fp : List Addr), PE (X.blk s H scope0 (compEnvC scope0 cl C X.env) fp) elt te)
    (hgl : Gl X "cells" := by rfl) (hst : starEach [eb] X.env = (false, eval eb X.env) :: starEach [] X.env := by rfl) (hs : ∀ x, foldedSetIterable (.Call (.Name "cells" p) [eb] [] pos') X.env x = pure x := by intro _; rfl) :
    PE X (.ListComp elt [⟨.Name nm px, .Call (.Name "cells" p) [eb] [] pos', [], 0⟩] scope0 pos) (tLcG j ib te (own.map (·.2))) := by
  refine ⟨fun pins0 s σ00 H Q I h => ?_⟩
  obtain ⟨box, b, hσ, hbxH, hb1, hb3, okB, hD⟩ := h
  rw [eval_ListComp]
  have hfree0 : ∀ y0 ∈ scope0.names, y0.2 = .free → ∃ c0, X.env.cells.lookup y0.1 = some c0 := fun y0 hy0 e0 => by
    rcases ok0.free y0 hy0 e0 with k | k
    · exact I.ok.has _ (.inl k)
    · exact I.ok.has _ (.inr k)
  refine wpAny_comprehension_free (use := none) rfl hs (closure_ok hfree0) ok0.kind (fun y0 hy0 e0 => by rw [ok0.uniq y0 hy0, e0])
    (Q := EP X pins0 σ00 Q) (wpAny_Call_Name_kw (ld_glob I hgl hm (PySem.W.callWith_K (h₀ := X.base) I.ok.mod.kin hk (thn ((pa_cons hbx pa_nil hst).run pos' pins0 s σ00 H (fun vs H' => vs = [.ref box] ∧ H' = H) I ⟨_, hσ, rfl, rfl⟩) fun us s0 ⟨vs, H0, I0, rv, ev, eH⟩ => ⟨I0.kIn, ?_⟩) hst rfl) (by decide)))
  subst ev eH
  obtain ⟨u, rfl, ru⟩ := vals1 rv
  obtain rfl : u = Value.ref box := ru
  refine wpAny_mono (run_cells F hb (k := 4) hr I0 hbxH) (fun xv s2b hx => ?_) fun _ _ q => q
  obtain ⟨cdv, a, g, rfl, mk⟩ := hx
  refine wpAny_pyIter_gen mk.gen ?_
  have I2 : L2.Inv X pins0 σ00 H0 s2b := I0.call' (ch := []) mk.os (Un.kept mk.keep) (I0.hok.kept mk.keep) mk.bare fun b z0 => by simp at z0
  refine
      wpAny_newObj_type (newEnv_comp ?_) (by show 0 ≤ sizeLine; decide)
  generalize hDe : s2b.heap.objs.size = D
  have hDn : H0 D = none := I2.hok.fresh (Nat.le_of_eq hDe)
  obtain ⟨W, w0, wstep, wend⟩ := hD D hDn
  generalize hs3b : ({ s2b with heap := s2b.heap.push { cls := .type "list", data := .seq ([] : List Value).toArray } } : Shared) = s3b
  have I3b : L2.Inv X pins0 σ00 (upd H0 D (.lst [])) s3b := by
    rw [← hs3b]
    refine I2.laid (t' := s2b.toks) (fun b o e0 => Heap.get?_push_of_some _ e0) (Nat.le_of_eq hDe) ⟨Nat.zero_le _, [], 0, .nil, ?_⟩
    rw [← hDe]
    exact
        Heap.get?_push_size _ rfl
  have h3b : s3b.heap = s2b.heap.push { cls := .type "list", data := .seq ([] : List Value).toArray } := by rw [← hs3b]
  obtain ⟨L, hLe⟩ : ∃ L, L = s0.heap.objs.size := ⟨_, rfl⟩
  have hL2 : L < s2b.heap.objs.size := by rw [hLe]; exact mk.at_.lt
  have hHL : H0 L = none := I0.hok.fresh (Nat.le_of_eq hLe.symm)
  have hLD : L ≠ D := by rw [← hDe]; exact Nat.ne_of_lt hL2
  have fL : FpOk X pins0 (upd H0 D (.lst [])) L := I0.fpOk (Nat.le_of_eq hLe.symm) (by rw [upd_ne hLD]; exact hHL)
  have f3b : ∀ b ∈ [L], FpOk X pins0 (upd H0 D (.lst [])) b ∧ b < s3b.heap.objs.size := fun b hb => by
    obtain rfl := List.mem_singleton.mp hb
    exact ⟨fL, by rw [h3b, Heap.size_push]; exact Nat.lt_succ_of_lt hL2⟩
  have I4b := block_start I3b ok0 hN0 f3b
  have pg := hg s3b (upd H0 D (.lst [])) s3b.heap.objs.size (cellsFrom (s3b.heap.objs.size + 1) scope0.names (cloFrom X.env.cells scope0.names [])) [L]
  have pe := he s3b (upd H0 D (.lst [])) s3b.heap.objs.size (cellsFrom (s3b.heap.objs.size + 1) scope0.names (cloFrom X.env.cells scope0.names [])) [L]
  show codeAny _ _ (.compStart (.ListComp elt [⟨.Name nm px, .Call (.Name "cells" p) [eb] [] pos', [], 0⟩] scope0 pos) 0 (.ref a) (.ref D) (compEnvC scope0 (cellsFrom (s3b.heap.objs.size + 1) scope0.names (cloFrom X.env.cells scope0.names [])) s3b.heap.objs.size X.env)) (compPost (model X.prog X.w) X.A X.xe none (EP X pins0 σ00 Q) (.ref D) s3b.heap.objs.size) { s3b with heap := pushCells (s3b.heap.push { cls := .type "dict", data := .dict #[] }) scope0.names }
  generalize hce0 : compEnvC scope0 (cellsFrom (s3b.heap.objs.size + 1) scope0.names (cloFrom X.env.cells scope0.names [])) s3b.heap.objs.size X.env = ce0 at I4b pg pe ⊢
  have cL0 : ce0.locals = s3b.heap.objs.size := by subst hce0; rfl
  have hbx3 : (upd H0 D (.lst [])) box = some (.tup (b.map V.int)) := by
    rw [upd_ne (fun z0 => by rw [z0, hDn] at hbxH; cases hbxH)]
    exact hbxH
  generalize hH3 : upd H0 D (.lst []) = H3 at I3b I4b pg pe w0 f3b fL hbx3
  generalize hs4b : ({ s3b with heap := pushCells (s3b.heap.push { cls := .type "dict", data := .dict #[] }) scope0.names } : Shared) = s4b at I4b ⊢
  have kp4 : ∀ b o, s2b.heap.get? b = some o → s4b.heap.get? b = some o := fun b o e0 => by
    rw [← hs4b]
    refine pushCells_keeps _ _ _ _ (Heap.get?_push_of_some _ ?_)
    rw [h3b]
    exact Heap.get?_push_of_some _ e0
  have gens4 : s4b.gens = s2b.gens := by rw [← hs4b, ← hs3b]
  -- the generator's fixed parts
  have zk : (ZC X.prog X.w X.K X.mg X.base X.A.in1 X.stack L f cdv).Ok := by
    refine ⟨I.ok.mod, rfl, rfl, rfl, fun x => rfl, fun x hx => ?_, hr.hd, Around.frames_deeper I.ok.frames, rfl, ?_, fun b hb => ?_⟩
    · have no : ∀ y0 ∈ (defScope s_cells).names, y0.2 ≠ .cell ∧ y0.2 ≠ .free := by decide +kernel
      rcases hx with hx | hx
      · exact (no _ (PySem.mem_of_lookup hx)).1 rfl
      · exact (no _ (PySem.mem_of_lookup hx)).2 rfl
    · rw [hLe]
      exact Nat.le_trans I0.ok.bsz I0.sz
    · rcases List.mem_cons.mp (I0.stkSub b hb) with z0 | z0
      · rw [z0, hLe]
        exact I0.lt
      · obtain ⟨_, o, ho, _⟩ := I0.ok.funs.mem z0
        rw [hLe]
        exact Nat.lt_of_lt_of_le (Heap.lt_size ho) I0.sz
  have hbl : box < L := by
    obtain ⟨ob, e0⟩ := obj_ex (I0.hok box _ hbxH)
    rw [hLe]
    exact Heap.lt_size e0
  have hbf : box ∉ frs X.stack := fun hf => by
    have := I0.stkFree box hf
    rw [hbxH] at this
    cases this
  have hLa : L < a := by rw [hLe]; exact mk.lt
  have at0 := mk.at_
  rw [← hLe] at at0
  have hfre := mk.fresh
  rw [← hLe] at hfre
  have bare4 : AllBare (s4b.setGen g .running).gens := allBare_setGen (by rw [gens4]; exact mk.bare) rfl
  obtain ⟨wk, wI, wH⟩ := first_wake (Z := ZC X.prog X.w X.K X.mg X.base X.A.in1 X.stack L f cdv) (s1 := s4b.setGen g .running) rfl zk at0 bare4 (fun b o e0 => (I4b.bs b o e0).1) kp4 hbl hbf
  have sg := sg_cells (A := X.A.in1) (i := ⟨s4b.setGen g .running, h00 L box (b.map V.int) s4b.heap, [L], 0⟩) T c_need_cells c_cell_count zk ((hr.in1).deeper _) hb1 okB hb3 hbl hbf wk rfl wH wI
  have haD : a ≠ D := by
    obtain ⟨oa, _, _, hoa, _⟩ := mk.gen
    rw [← hDe]
    exact Nat.ne_of_lt (Heap.lt_size hoa)
  have head0 : HeadG (X.blk s3b H3 scope0 ce0 [L]) (ZC X.prog X.w X.K X.mg X.base X.A.in1 X.stack L f cdv) box (b.map V.int) (cellsOf b) X.A.in1 a g (wipe σ00 (own.map (·.2))) 0 [L] H3 s4b := by
    refine ⟨I4b, fun b1 hb1' => ?_, ?_, ?_, fun hm => ?_, ⟨.fresh (.func (defBody s_cells) (envOfC "cells" (defScope s_cells) L f cdv)), ⟨s4b.setGen g .running, h00 L box (b.map V.int) s4b.heap, [L], 0⟩, by rw [gens4]; exact hfre, rfl, rfl, rfl, sg⟩⟩
    · obtain rfl := List.mem_singleton.mp hb1'
      refine ⟨fL.1, ?_, fun hf => ?_, .inl List.mem_cons_self, fun z0 => absurd hbl (by rw [z0]; exact Nat.lt_irrefl _), ?_⟩
      · show b1 ≠ ce0.locals
        rw [cL0]
        exact Nat.ne_of_lt (f3b b1 List.mem_cons_self).2
      · rcases List.mem_cons.mp (I0.stkSub b1 hf) with z0 | z0
        · exact fL.2.1 z0
        · exact fL.2.2.1 z0
      · obtain ⟨m, ⟨o, es, ep, ho, hd, _⟩, _⟩ := at0.loc
        exact ⟨o, kp4 _ o ho, fun v e0 => by rw [hd] at e0; cases e0⟩
    · obtain ⟨oa, nm', qn, hoa, r⟩ := mk.gen
      exact ⟨oa, nm', qn, kp4 a oa hoa, r⟩
    · rw [← hH3, upd_ne haD]
      exact I0.hok.fresh (Nat.le_of_lt mk.lt)
    · obtain rfl := List.mem_singleton.mp hm
      exact Nat.lt_irrefl _ hLa
  have loop : codeAny (model X.prog X.w) X.A (.compLoop (.ListComp elt [⟨.Name nm px, .Call (.Name "cells" p) [eb] [] pos', [], 0⟩] scope0 pos) 0 (.ref a) (.ref D) ce0) (compPost (model X.prog X.w) X.A X.xe none (EP X pins0 σ00 Q) (.ref D) s3b.heap.objs.size) s4b := by
    refine compLoop_any (fun n s' => ∃ k own5 H', n = (cellsOf b).length - k ∧ k ≤ (cellsOf b).length ∧ W k H' ∧ HeadG (X.blk s3b H3 scope0 ce0 [L]) (ZC X.prog X.w X.K X.mg X.base X.A.in1 X.stack L f cdv) box (b.map V.int) (cellsOf b) X.A.in1 a g (wipe σ00 (own.map (·.2))) k own5 H' s') ?_ _ ⟨0, [L], H3, rfl, Nat.zero_le _, w0, head0⟩
    rintro n s5 ⟨k, own5, H5b, rfl, hkl, w5, hd⟩
    have hbx5 : H5b box = some (.tup (b.map V.int)) := hd.I.base.tups box _ hbx3
    refine turn_G (X := X.blk s3b H3 scope0 ce0 [L]) rfl rfl rfl rfl hr.hd (by have := hr.dp; show X.A.depth < _; omega) hbx5 (Nat.ne_of_lt hLa) hd (fun q c0 own' gs' z0 hc hqn I6b hbare hasl hg6 hgz ha6 han hown' hrd => ?_) fun s6b hkk I6b => ?_
    · obtain ⟨oa, nm', qn, hoa, hca, hda, hsa⟩ := id hgz
      have hnc : ∀ b1 ∈ a :: own', ∃ o, z0.heap.get? b1 = some o ∧ ∀ v, o.data ≠ .cell v := fun b1 hb1' => by
        rcases List.mem_cons.mp hb1' with rfl | hm1
        · exact ⟨oa, hoa, fun v e0 => by rw [hda] at e0; cases e0⟩
        · exact (hown' b1 hm1).there
      have afs : a ∉ frs X.stack := fun hf => by
        obtain ⟨_, o, ho, hdd⟩ := I6b.ok.funs.mem hf
        obtain ⟨sl, e0⟩ := I6b.base.slot a o ho (I6b.ok.frf a hf) hf fun z0 => I6b.ok.exfs a z0 hf
        have e0 : z0.heap.get? a = some { o with slots := sl } := e0
        rw [hoa] at e0
        cases e0
        exact hdd _ hda
      have alo : a ≠ ce0.locals := by
        rw [cL0]
        obtain ⟨o2, _, _, ho2, _⟩ := mk.gen
        refine Nat.ne_of_lt ?_
        rw [h3b, Heap.size_push]
        exact Nat.lt_succ_of_lt (Heap.lt_size ho2)
      have I6p : L2.Inv (X.blk s3b H3 scope0 ce0 [L]) (pinsAt (a :: own') z0.heap) (wipe σ00 (own.map (·.2))) (upd H5b q (.tup (c0.map V.int))) (z0.setGen g gs') := I6b.pins_of fun p hp => by
        obtain ⟨hp1, hp2⟩ := of_pinsAt hp
        obtain ⟨o, ho, hc1⟩ := hnc p.1 hp1
        rw [hp2] at ho
        cases ho
        rcases List.mem_cons.mp hp1 with z1 | hm1
        · rw [z1]
          exact ⟨by rw [← z1]; exact hp2, ha6, alo, afs, hc1⟩
        · have oc := hown' p.1 hm1
          exact ⟨hp2, oc.free, oc.ne, oc.fs, hc1⟩
      show wpAny _ _ (pure ()) _ _ _
      refine wpAny_pure ?_
      refine asleep_run I6b.bare hg6 hasl (pg.run _ _ _ _ (.ref q) (.ref q) (fun σ' H' => σ' = (wipe σ00 (own.map (·.2))).set j (some (.ref q)) ∧ H' = upd H5b q (.tup (c0.map V.int))) (inv_onG I6p (bare_bad I6b.bare)) rfl ⟨rfl, rfl⟩) fun _ s7 G7 hΦ hg7 hb7 => ?_
      obtain ⟨σ7, H7, I7, rfl, rfl⟩ := hΦ
      have I7' := inv_onG I7 (hb7 I7.bare)
      refine wpAny_tests_nil ?_
      rw [if_pos rfl]
      refine asleep_run I7'.bare hg7 hasl (pe.run _ _ _ _ _ (inv_onG I7' (bare_bad I7'.bare)) (wstep k c0 H5b hc w5 q hqn)) fun y0 s8 G8 hΦ hg8 hb8 => ?_
      obtain ⟨yv, H8, I8, r8, acc, hD8, hz8, nx⟩ := hΦ
      have I8' := inv_onG I8 (hb8 I8.bare)
      refine asleep_run I8'.bare hg8 hasl (Φ := fun _ s9 => L2.Inv (X.blk s3b H3 scope0 ce0 [L]) (pinsAt (a :: own') z0.heap) ((wipe σ00 (own.map (·.2))).set j (some (.ref q))) (upd H8 D (.lst (acc ++ [yv]))) s9) (app_ok (X := X.blk s3b H3 scope0 ce0 [L]) (inv_onG I8' (bare_bad I8'.bare)) hD8 hz8 r8 fun s9 I9 => I9) fun _ s9 G9 I9 hg9 hb9 => ?_
      have I9' := inv_onG I9 (hb9 I9.bare)
      have pin9 : ∀ b1 ∈ a :: own', ∀ o, z0.heap.get? b1 = some o → s9.heap.get? b1 = some o ∧ (upd H8 D (.lst (acc ++ [yv]))) b1 = none := fun b1 hb1' o e0 =>
        let w := I9.pin (b1, o) (List.mem_append_right _ (mem_pinsAt hb1' e0))
        ⟨w.1, w.2.1⟩
      have hbx9 : (upd H8 D (.lst (acc ++ [yv]))) box = some (.tup (b.map V.int)) := I9.base.tups box _ hbx3
      have hkc := (List.getElem?_eq_some_iff.mp hc).1
      have lw : ((wipe σ00 (own.map (·.2))).set j (some (V.ref q))).length = (wipe σ00 (own.map (·.2))).length := List.length_set
      refine ⟨(cellsOf b).length - (k + 1), by omega, k + 1, own', _, rfl, hkc, nx, ⟨(I9'.pins_of (pins' := []) fun p hp => nomatch hp).weak lw.symm (fun i1 v1 e1 => ?_), fun b1 hb1' => ?_, ?_, (pin9 a List.mem_cons_self oa hoa).2, han, ?_⟩⟩
      · have hni := (wipe_some e1).2
        rw [List.getElem?_set_ne (fun z1 => hni (by rw [← z1]; exact hj))]
        exact e1
      · have oc := hown' b1 hb1'
        obtain ⟨o, ho, hc1⟩ := oc.there
        obtain ⟨q1, q2⟩ := pin9 b1 (List.mem_cons_of_mem _ hb1') o ho
        exact ⟨q2, oc.ne, oc.fs, oc.old, oc.box, ⟨o, q1, hc1⟩⟩
      · exact ⟨oa, nm', qn, (pin9 a List.mem_cons_self oa hoa).1, hca, hda, hsa⟩
      · have e1 : z0.os = s3b.os := I6b.os
        have e2 : s9.os = s3b.os := I9.os
        have hrdy : Rdy (ZC X.prog X.w X.K X.mg X.base X.A.in1 X.stack L f cdv) box (b.map V.int) own' z0 ((Fz.onG s9 G9).setGen g .running) := ⟨allBare_setGen I9'.bare rfl, e2.trans e1.symm, fun b1 o1 e1 => (I9'.bs b1 o1 e1).1, I9'.funs, fun b1 hb1' o1 e1 => (pin9 b1 (List.mem_cons_of_mem _ hb1') o1 e1).1, tup_any (I9.hok box _ hbx9)⟩
        obtain ⟨jj, j1, j2, j3, j4⟩ := hrd _ hrdy
        exact ⟨gs', jj, hg9, j1, j2, j3, j4⟩
    · have I7 : L2.Inv X pins0 σ00 H5b s6b := I3b.call' (ch := [L]) I6b.os I6b.base I6b.hok I6b.bare fun b hb => ⟨(f3b b hb).1.2.2.2.1, (f3b b hb).1.2.1, (f3b b hb).1.2.2.2.2.1, (f3b b hb).1.2.2.2.2.2⟩
      have nC0 : H5b s3b.heap.objs.size = none := by
        have z0 : H5b ce0.locals = none := I6b.free
        rw [cL0] at z0
        exact z0
      obtain ⟨m, hn0, _⟩ := I6b.loc
      have hn0 : s6b.heap.Ns ce0.locals m := hn0
      rw [cL0] at hn0
      obtain ⟨f0, f1, f2, f3', f4, f5⟩ := I3b.fpOk (H' := H5b) (Nat.le_refl _) nC0
      subst hkk
      exact ⟨m, hn0, fun h'' sb => ⟨.ref D, H5b, I7.turned (t' := s6b.toks) (fun b o hb e0 => (sb.2 b hb).trans e0) f0 f1 f3' f4 f5, rfl, wend H5b w5⟩⟩
  exact codeAny_compStart_list loop (wpAny_pyIter_gen head0.gen loop)
end
end Lk
namespace Lk
open PySem PySem.Spec PyProof.Rows L2 Ly
section
variable {P : Program} {w : World} {K : PySem.W.Frag} {mg : Str → Option Value} {base : Heap} {C aL : Addr}
theorem ev_lcG {Γ : Ev} {te : TE} {j ib : Nat} {vs : List Nat} {b : List Int} {g : List Int → PyData} (hb : Γ[ib]? = some (some (dI b))) (h1 : 1 ≤ b.length) (h3 : b.length ≤ 3) (okB : OkBox b.length b) (h : ∀ c ∈ cellsOf b, EvD K C te ((wipeG Γ vs).set j (some (dI c))) (.dat (g c))) :
    EvD K C (tLcG j ib te vs) Γ (.tl ((cellsOf b).map g)) := fun σ W e Q q => by
  obtain ⟨v, hv, a⟩ := e.at_ ib _ hb
  obtain ⟨box, rfl, xs, hx, hd⟩ := dp_key a
  rw [dpAll_ints hd] at hx
  refine ⟨box, b, hv, W.sub _ _ hx, h1, h3, okB, fun D hD => ?_⟩
  refine ⟨fun k H1 => ∃ W2 : Wd, W2.H = H1 ∧ LeS W W2 ∧ W2.F D = none ∧ ∃ xs, W2.H D = some (.lst xs) ∧ DtAll K W2.F xs (((cellsOf b).take k).map g), ⟨W.own D (.lst []) (wd_none hD), rfl, own_S hD, show W.F D = none from wd_none hD, [], upd_same, .nil⟩, ?_, ?_⟩
  · rintro k c _ hc ⟨W2, rfl, s2, hF, xs, hx, hd⟩ p hp
    have s3 := leS_new (o := .tup (c.map V.int)) hp
    have en : En K C (W2.new p (.tup (c.map V.int))).F ((wipe σ vs).set j (some (.ref p))) ((wipeG Γ vs).set j (some (dI c))) := ((e.wipe vs).le (s2.trans s3)).set (t := dI c) (Dt.new upd_same (dpAll_of_ints c))
    refine h c (List.mem_of_getElem? hc) _ (W2.new p (.tup (c.map V.int))) en _ fun y W4 s4 ay => ?_
    have s24 := s3.trans s4
    have hx4 : W4.H D = some (.lst xs) := s24.all _ _ hx
    have hF4 : W4.F D = none := leS_nf s24 hF hx (fun _ z => nomatch z)
    have hlen : xs.length ≤ 100000 := by
      have h1 := dpAll_len hd
      have h2 := cells_le okB
      have h3 := List.length_take_le' k (cellsOf b)
      rw [List.length_map] at h1
      omega
    refine ⟨xs, hx4, Nat.lt_of_le_of_lt hlen (by decide), W4.own D _ hF4, rfl, leS_own (s2.trans s24) hF4 hD, hF4, xs ++ [y], upd_same, ?_⟩
    rw [List.take_add_one, hc, List.map_append]
    exact dpAll_app (dpAll_le s24 hd) (.cons ay .nil)
  · rintro _ ⟨W2, rfl, s2, hF, xs, hx, hd⟩
    rw [List.take_length] at hd
    exact q _ (W2.fix D _ hx) (leS_fix s2 hF hD) ⟨D, xs, rfl, upd_same, dpAll_same (same_fix hF) hd⟩
abbrev s_Scan_order : Stmt := inClass (topS 53) 10
abbrev N_Scan_order : List Str := ["self", "box", "pairs", "cell", "path"]
theorem sc_Scan_order : FnScope N_Scan_order ["self", "box"] (defScope s_Scan_order) := ⟨rfl, rfl, rfl, by decide +kernel, rfl, by decide +kernel, by decide +kernel⟩
theorem alike_ordG (T : Tr) (D c c' : List Int) : PySem.W.alike (ordG T D c) (ordG T D c') = true := by
  unfold ordG
  rw [PySem.W.alike, PySem.W.alikeAll, alike_pI, PySem.W.alikeAll, alike_pI, PySem.W.alikeAll]
  rfl
theorem ok_order {f fc : Addr} {fd fdc : FuncData} (F : Fun K "order" "Scan.order" s_Scan_order f fd) (T : Tx K mg aL) (S : Sk K C) (Fc : Fun K "cells" "cells" s_cells fc fdc) (hbc : Binds K fdc ["box"] []) (hmc : mg "cells" = some (.ref fc)) (c_path_of : Cal P w K mg base 2 "path_of" ["tree", "divisors", "place"] (FnD K C R_path_of)) (c_need_cells : Cal P w K mg base 4 "need_cells" ["box", "many"] (FnD K C R_need_cells)) (c_cell_count : Cal P w K mg base 1 "cell_count" ["box"] (FnD K C R_cell_count)) :
    FnOk P w K mg base CX0 8 f fd ["self", "box"] (FnD K C R_order) := by
  have nd := (sc_Scan_order).nd
  refine ok_of F sc_Scan_order (fun as t ⟨T, D, b, h, e, _⟩ => by subst e; rfl) fun cdv A outer s H E hr => ?_
  refine ⟨_, (pss_cons (ps_expr (pe_cal c_need_cells (hr.mono (by decide)) (pa_cons (pv 1) (pa_cons (pe_callB (kLen K) (by rfl) T.n_len PySem.boot_len (pa_cons (kFld K (pv 0)) pa_nil)) pa_nil))))
    (pss_cons (ps_set (i := 2) nd rfl (Or.inl rfl) (pe_callB (kSorted K rfl (hu65 hr)) (by rfl) T.n_sorted boot_sorted (pa_cons (pe_lcG (j := 3) (ib := 1) (own := [("cell", 3)]) Fc hbc (hr.mono (by decide)) T c_need_cells c_cell_count hmc Fc.kp rfl nd (pv 1) (blkOk_by (N := N_Scan_order) (sc := defScope s_Scan_order) (by decide +kernel)) (by decide) (fun _ _ _ _ _ => (pg_name (i := 3) nd rfl (Or.inl rfl))) (fun _ _ _ _ _ => (pe_tup (pa_cons (pe_cal c_path_of (hr.mono (by decide)) (pa_cons (kFld K (pv 0)) (pa_cons (kFld K (pv 0)) (pa_cons (pv 3) pa_nil)))) (pa_cons (pv 3) pa_nil))))) pa_nil)))
    (pss_one (ps_ret (pe_lc (own := [("path", 4), ("cell", 3)]) (g := gTup K 2 (gCons (gName 4) (gCons (gName 3) (gNil)))) (tt := tYes) rfl nd (kSeq K (pv 2)) (blkOk_by (N := N_Scan_order) (sc := defScope s_Scan_order) (by decide +kernel)) (fun _ _ _ _ _ => (kPair K rfl (pgs_cons (pg_name (i := 4) nd rfl (Or.inl rfl)) (pgs_cons (pg_name (i := 3) nd rfl (Or.inl rfl)) pgs_nil)))) (fun _ _ _ _ _ => pts_nil) (fun _ _ _ _ _ => (pv 3))))))), ?_⟩
  rintro as t ⟨T0, D, b, h, rfl, hh, okD, wf, okB, rfl⟩
  have hD := okD.most
  have hbl := okB.len
  have okB' : OkBox b.length b := by rw [hbl]; exact okB
  have hcl := cells_le okB
  let sc : Ly.Ty := .sc D T0.toD
  refine sd_then (Γ' := [some sc, some (dI b), none, none, none]) (sd_drop (ev_call (ea_cons (ev_var rfl) (ea_cons (ev_is (ev_len (.inr (ev_fldD S (ev_var rfl)))) (t' := nI (b.length : Nat)) (by rw [List.length_map, hbl])) ea_nil)) ⟨b, rfl, by omega, fun i hi => (okB.each i hi).1, okB.small, okB.vol, rfl⟩)) ?_
  refine sd_then (Γ' := [some sc, some (dI b), some (.tl ((orderOf T0 D b).map (ordG T0 D))), none, none]) (sd_set (ev_is (ev_sorted (ds := (cellsOf b).map (ordG T0 D)) (.inl (ev_dat (ev_lcG rfl (by rw [hbl]; exact okD.pos) (by omega) okB' fun c hc => ?_))) (PySem.W.AllAlike.of (enc := ordG T0 D) fun c c' => alike_ordG T0 D c c') (PySem.W.Sortable.tuples (enc := ordG T0 D) fun c => ⟨_, _, rfl⟩) (by rw [List.length_map]; omega) fun d hd => ?_) (by rw [srtd_ord]))) ?_
  · exact ev_tup (ts := [dI (full T0 D c), dI c]) (ea_cons (ev_call (ea_cons (ev_fldT S (ev_var rfl)) (ea_cons (ev_fldD S (ev_var rfl)) (ea_cons (ev_var rfl) ea_nil))) ⟨T0, D, c, h, rfl, hh, okD, (cellsOf_dim c hc).trans hbl, wf, rfl⟩) (ea_cons (ev_var rfl) ea_nil)) rfl (Nat.le_of_ble_eq_true rfl)
  · obtain ⟨c, _, rfl⟩ := List.mem_map.mp hd
    refine Nat.le_trans (depth_tup (b := 1) fun x hx => ?_) (by decide)
    simp at hx
    rcases hx with rfl | rfl <;> exact Nat.le_of_eq (depth_pI _)
  · refine sd_ret (ev_mapP0 (as := orderOf T0 D b) (d1 := fun c => pI (full T0 D c)) (d2 := fun c => pI c) (f := pI) (iv_of_map (g := ordG T0 D) (ty := Ly.Ty.dat) (iv_L (ev_dat (ev_var rfl)))) (by rw [order_len]; omega) (by decide) (by decide) fun c hc => ev_var rfl) rfl
end
end Lk
/-! In: an instance of one's own, being made. -/
namespace Ly
open PySem PySem.Spec
open PyProof.Rows L2
inductive FldAll (K : PySem.W.Frag) (F : Hp) : List (Str × V) → List (Str × PyData) → Prop
  | nil : FldAll K F [] []
  | cons {f : Str} {v : V} {d : PyData} {fs : List (Str × V)} {ds : List (Str × PyData)} : Dt K F v d → FldAll K F fs ds → FldAll K F ((f, v) :: fs) ((f, d) :: ds)
theorem FldAll.same {K : PySem.W.Frag} {F F' : Hp} (s : Same F F') : ∀ {fs : List (Str × V)} {ds : List (Str × PyData)}, FldAll K F fs ds → FldAll K F' fs ds
  | _, _, .nil => .nil
  | _, _, .cons a t => .cons (dp_same s a) (FldAll.same s t)
theorem FldAll.len {K : PySem.W.Frag} {F : Hp} : ∀ {fs : List (Str × V)} {ds : List (Str × PyData)}, FldAll K F fs ds → fs.length = ds.length
  | _, _, .nil => rfl
  | _, _, .cons _ t => congrArg (· + 1) t.len
/-- a new field -/
theorem FldAll.put {K : PySem.W.Frag} {F : Hp} {f : Str} {v : V} {d : PyData} (hd : Dt K F v d) : ∀ {fs : List (Str × V)} {ds : List (Str × PyData)}, FldAll K F fs ds → (∀ p ∈ ds, p.1 ≠ f) → FldAll K F (putF f v fs) (ds ++ [(f, d)])
  | _, _, .nil, _ => .cons hd .nil
  | _, _, @FldAll.cons _ _ g x e fs ds a t, h => by
    have hg : g ≠ f := h (g, e) List.mem_cons_self
    unfold putF
    rw [if_neg hg]
    exact .cons a (FldAll.put hd t fun p hp => h p (List.mem_cons_of_mem _ hp))
def insR (K : PySem.W.Frag) (C x dx : Addr) (ds : List (Str × PyData)) : Res where
  ps := [x, dx]
  ok := fun F H => H dx = some (.own x) ∧ dx ≠ x ∧ ∃ fs, H x = some (.ins C dx fs) ∧ FldAll K F fs ds
  mono := fun ⟨h1, h2, fs, h3, h4⟩ s hp => ⟨hp dx (by simp) _ h1, h2, fs, hp x (by simp) _ h3, h4.same s⟩
  at_ := fun ⟨h1, h2, fs, h3, h4⟩ q hq0 => by
    rcases List.mem_cons.mp hq0 with rfl | hq0
    · exact ⟨_, h3, fun _ z => nomatch z⟩
    · obtain rfl := List.mem_singleton.mp hq0
      exact ⟨_, h1, fun _ z => nomatch z⟩
section
variable {K : PySem.W.Frag} {C : Addr} {Γ : Ev} {O : Ow} {te : TE} {N : Ev → Ow → Prop} {R : Ty → Ow → Prop}
/-- self.f = e -/
theorem sm_fld {i : Nat} {x dx : Addr} {ds : List (Str × PyData)} {d : PyData} {f : Str} (hc : Cls K C) (hn : NoAttr K C f) (hi : Γ[i]? = some (some (.own x))) (h : EvD K C te Γ (.dat d)) (hf : ∀ p ∈ ds, p.1 ≠ f) (hl : ds.length ≤ 100) :
    SM K C (sFld K (tVar i) te f) Γ (insR K C x dx ds :: O) (fun Γ' O' => Γ' = Γ ∧ O' = insR K C x dx (ds ++ [(f, d)]) :: O) R := fun D σ W e o n r => h σ W e _ fun v W1 s1 a => by
  obtain ⟨u, h1, h2⟩ := (e.le s1).at_ i _ hi
  have h2 : u = .ref x := h2
  subst h2
  have o1 := o.le s1
  obtain ⟨g1, g2, fs, g3, g4⟩ := o1.ok _ List.mem_cons_self
  have hxF : W1.F x = none := o1.nf x ⟨_, List.mem_cons_self, List.mem_cons_self⟩
  refine ⟨_, h1, x, C, dx, fs, rfl, g3, hc, hn, by rw [g4.len]; omega, ?_⟩
  have z := own_re (r' := insR K C x dx (ds ++ [(f, d)])) (W' := W1.own x (.ins C dx (putF f v fs)) hxF) o1 rfl (fun a ob ea na => ?_) (fun a ea => ?_) (fun a ha => .inl ha) ⟨?_, g2, _, upd_same, FldAll.put a g4 hf⟩
  · exact n Γ _ σ (W1.own x _ hxF) ⟨rfl, rfl⟩ (s1.go.trans z.2) (show En K C W1.F σ Γ from e.le s1) z.1
  · show upd W1.H x _ a = some ob
    rw [upd_ne (fun z => na (by subst z; exact List.mem_cons_self))]
    exact ea
  · have ea : upd W1.H x (.ins C dx (putF f v fs)) a = none := ea
    by_cases z : a = x
    · subst z; rw [upd_same] at ea; cases ea
    · rw [upd_ne z] at ea
      exact ea
  · show upd W1.H x _ dx = _
    rw [upd_ne g2]
    exact g1
end
section
variable (K : PySem.W.Frag) (C : Addr)
/-- what __init__ must do -/
def FnI (R : List Ty → List (Str × PyData) → Prop) : Sp := fun vs H Q _ => ∃ (W : Wd) (x dx : Addr) (us : List V) (ts : List Ty) (ds : List (Str × PyData)), W.H = H ∧ vs = .ref x :: us ∧ AtAll K C W.F us ts ∧ Own [insR K C x dx []] W ∧ R ts ds ∧
  ∀ W', Go [insR K C x dx []] W [insR K C x dx ds] W' → Own [insR K C x dx ds] W' → Q .non W'.H
end
section
variable {K : PySem.W.Frag} {C : Addr} {Γ : Ev} {ta : TA} {ts : List Ty}
theorem sm_bodyI {Ns : List Str} {tb : TS} {Rl : List Ty → List (Str × PyData) → Prop} {vs : List V} {H : Hp} {Q : VK} {E : XK} (h : FnI K C Rl vs H Q E) (hb0 : ∀ x dx as ds, Rl as ds → SM K C tb (startG Ns.length (.own x :: as)) [insR K C x dx []] (fun _ O' => O' = [insR K C x dx ds]) (fun _ _ => False)) : tb { nx := fun _ H' => Q .non H', rt := Q } (L2.start Ns vs) H := by
  obtain ⟨W, x, dx, us, as, ds, rfl, rfl, a, o, hr, q⟩ := h
  exact hb0 x dx as ds hr _ _ W (en_start (.cons (t := .own x) rfl a)) o (fun _ O' _ W' k g _ o' => by subst k; exact q W' g o') fun t' _ v W' k g _ b => k.elim
/-- C(..) -/
theorem ev_make {Rl : List Ty → List (Str × PyData) → Prop} {dvs : List V} {dts : List Ty} {D : List Int} {T : PyData} {n m : Int} (hd : ∀ F, AtAll K C F dvs dts) (h : EvA K C ta Γ ts) (hr : Rl (ts ++ dts) [("held_divisors", pI D), ("held_tree", T), ("class_total", .int n), ("node_total", .int m)]) :
    EvD K C (tMake C (FnI K C Rl) dvs E0 ta) Γ (.sc D T) := fun σ W e Q q => h σ W e _ fun vs W1 s1 a => fun x dx hx hdx hne => by
  have hFd : W1.F dx = none := wd_none hdx
  have hFx : (W1.own dx (.own x) hFd).F x = none := (show W1.F x = none from wd_none hx)
  have hx2 : (W1.own dx (.own x) hFd).H x = none := by
    show upd W1.H dx _ x = none
    rw [upd_ne (Ne.symm hne)]
    exact hx
  obtain ⟨W2, hW2⟩ : ∃ W2 : Wd, W2 = (W1.own dx (.own x) hFd).own x (.ins C dx []) hFx := ⟨_, rfl⟩
  have hF2 : W2.F = W1.F := by rw [hW2]; rfl
  have hH2 : W2.H = upd (upd W1.H dx (.own x)) x (.ins C dx []) := by rw [hW2]; rfl
  have s12 : Same W1.H W2.H := by
    rw [hH2]
    exact (same_new hdx).trans (same_new hx2)
  have none2 : ∀ b, W2.H b = none → W1.H b = none := fun b hb0 => by
    rw [hH2] at hb0
    by_cases z : b = x
    · subst z; rw [upd_same] at hb0; cases hb0
    · rw [upd_ne z] at hb0
      by_cases z2 : b = dx
      · subst z2; rw [upd_same] at hb0; cases hb0
      · rw [upd_ne z2] at hb0
        exact hb0
  have o2 : Own [insR K C x dx []] W2 := by
    refine ⟨fun r hr => ?_, fun b ⟨r, hr, hb0⟩ => ?_, List.pairwise_singleton _ _⟩
    · obtain rfl := List.mem_singleton.mp hr
      refine ⟨?_, hne, [], ?_, .nil⟩
      · rw [hH2, upd_ne hne, upd_same]
      · rw [hH2, upd_same]
    · obtain rfl := List.mem_singleton.mp hr
      rw [hF2]
      rcases List.mem_cons.mp hb0 with rfl | hb0
      · exact wd_none hx
      · obtain rfl := List.mem_singleton.mp hb0
        exact hFd
  refine ⟨W2, x, dx, vs ++ dvs, ts ++ dts, _, hH2, rfl, ?_, o2, hr, fun W3 g3 o3 => ⟨rfl, ?_⟩⟩
  · rw [hF2]
    exact atAll_app a (hd W1.F)
  · obtain ⟨g1, g2, fs, g4, g5⟩ := o3.ok _ List.mem_cons_self
    have sF : Same W3.F (W3.fixR [x, dx]).F := fun b ob eb => by
      show (if b ∈ [x, dx] then W3.H b else W3.F b) = some ob
      split
      · exact W3.sub _ _ eb
      · exact eb
    have dm : ∀ b, Dom [insR K C x dx []] b → W1.H b = none := fun b ⟨r, hr, hb0⟩ => by
      obtain rfl := List.mem_singleton.mp hr
      rcases List.mem_cons.mp hb0 with rfl | hb0
      · exact hx
      · obtain rfl := List.mem_singleton.mp hb0
        exact hdx
    have s13 : LeS W1 (W3.fixR [x, dx]) := by
      refine ⟨⟨?_, fun b hb0 => none2 b (g3.dom b hb0), fun b ob eb => ?_⟩, fun b ob eb => ?_⟩
      · have z : Same W1.F W3.F := by
          rw [← hF2]
          exact g3.same
        exact z.trans sF
      · have eb : (if b ∈ [x, dx] then W3.H b else W3.F b) = some ob := eb
        split at eb
        · next hm0 =>
          rcases List.mem_cons.mp hm0 with rfl | hm0
          · exact .inr (.inl hx)
          · obtain rfl := List.mem_singleton.mp hm0
            exact .inr (.inl hdx)
        · rcases g3.nw b ob eb with z | z | z | z
          · exact .inl (by rw [← hF2]; exact z)
          · exact .inr (.inl (none2 b z))
          · exact .inr (.inr z)
          · exact .inr (.inl (dm b z))
      · exact g3.rest b ob (s12 b ob eb) fun d => by
          have := dm b d
          rw [eb] at this
          cases this
    refine q _ (W3.fixR [x, dx]) (s1.trans s13) ?_
    have hxx : (W3.fixR [x, dx]).F x = some (.ins C dx fs) := by
      show (if x ∈ [x, dx] then W3.H x else W3.F x) = _
      rw [if_pos List.mem_cons_self]
      exact g4
    cases g5 with
    | @cons _ vD _ _ _ d1 t1 =>
      cases t1 with
      | @cons _ vT _ _ _ d2 t2 =>
        cases t2 with
        | @cons _ vn _ _ _ d3 t3 =>
          cases t3 with
          | @cons _ vm _ _ _ d4 t4 =>
            cases t4
            have e3 := dp_int d3
            have e4 := dp_int d4
            subst e3 e4
            exact ⟨x, dx, vD, vT, n, m, rfl, hxx, dp_same sF d1, dp_same sF d2⟩
end
end Ly
namespace Lk
open PySem PySem.Spec PyProof.Rows L2 Ly
variable {P : Program} {w : World} {K : PySem.W.Frag} {mg : Str → Option Value} {base : Heap} {C : Addr}
theorem ok_ofI {x qual : Str} {st : Stmt} {f : Addr} {fd : FuncData} {N ps : List Str} {k : Nat} {dvs : List V} {R : List Ly.Ty → List (Str × PyData) → Prop} (F : FunD K x qual (defArgs st) (defBody st) (defScope st) dvs [] f fd) (S : FnScope N ps (defScope st)) (hl : ∀ as t, R as t → as.length + 1 = ps.length)
    (hb0 : ∀ (cdv : Value) (A : Around) (outer : List Env) (s : Shared) (H : Hp) (E : XK), Room k (A.deeper (envOfC qual (defScope st) s.heap.objs.size f cdv)) →
      ∃ t, PSs (cxOf CX0 P w K mg base N qual (defScope st) f cdv A outer s H E).nox (defBody st) t ∧ ∀ x dx as ds, R as ds → SM K C t (startG N.length (.own x :: as)) [insR K C x dx []] (fun _ O' => O' = [insR K C x dx ds]) (fun _ _ => False)) : FnOk P w K mg base CX0 (k + 1) f fd ps (FnI K C R) := by
  refine F.ok S (fun vs H Q E h => ?_) (fun cdv A outer s H vs Q E hr h => ?_)
  · obtain ⟨_, _, _, us, ts, ds, _, rfl, a, _, hr, _⟩ := h
    rw [List.length_cons, atAll_len a]
    exact hl ts ds hr
  · obtain ⟨t, h1, h2⟩ := hb0 cdv A outer s H E hr
    exact ⟨t, h1.nox, sm_bodyI h h2⟩
end Lk
namespace Lk
open PySem PySem.Spec PyProof.Rows L2 Ly
section
variable {P : Program} {w : World} {K : PySem.W.Frag} {mg : Str → Option Value} {base : Heap} {C aL : Addr}
/-- node_count for trees of two levels -/
def R_nc : List Ly.Ty → Ly.Ty → Prop := fun as t => ∃ n m, R_node_count n m 2 as t
theorem fn_union {f : Addr} {fd : FuncData} {ps : List Str} {k : Nat} {ι : Type} {R : ι → List Ly.Ty → Ly.Ty → Prop} [Inhabited ι] (h : ∀ i, FnOk P w K mg base CX0 k f fd ps (FnD K C (R i))) : FnOk P w K mg base CX0 k f fd ps (FnD K C fun as t => ∃ i, R i as t) :=
  ⟨fun vs H Q E ⟨W, ts, t, e, a, ⟨i, hr⟩, q⟩ => (h i).len vs H Q E ⟨W, ts, t, e, a, hr, q⟩, fun A outer s H args us vs Q E h1 h2 h3 h4 ⟨W, ts, t, e, a, ⟨i, hr⟩, q⟩ => (h i).run A outer s H args us vs Q E h1 h2 h3 h4 ⟨W, ts, t, e, a, hr, q⟩⟩
abbrev s_Scan___init__ : Stmt := inClass (topS 53) 2
abbrev N_Scan___init__ : List Str := ["self", "divisors", "tree", "many"]
theorem sc_Scan___init__ : FnScope N_Scan___init__ ["self", "divisors", "tree"] (defScope s_Scan___init__) := ⟨rfl, rfl, rfl, by decide +kernel, rfl, by decide +kernel, by decide +kernel⟩
def R_init : List Ly.Ty → List (Str × PyData) → Prop := fun as ds => ∃ (D : List Int) (T : Tr), as = [dI D, .dat T.toD] ∧ OkDiv D ∧ Wf D.length (vol D).toNat 2 T ∧ ds = ([("held_divisors", pI D), ("held_tree", T.toD), ("class_total", .int (vol D)), ("node_total", .int (T.size : Nat))] : List (Str × PyData))
theorem vol_pos : ∀ {l : List Int}, (∀ i ∈ l, 0 < i) → 0 < vol l := fun {l} => by
  refine snoc_ind (p := fun l => (∀ i ∈ l, (0 : Int) < i) → 0 < vol l) ?_ ?_ l
  · intro _
    decide
  · intro l a ih h
    rw [vol_snoc]
    exact Int.mul_pos (ih fun i hi => h i (List.mem_append_left _ hi)) (h a (List.mem_append_right _ (List.mem_singleton.mpr rfl)))
theorem ok_init {f : Addr} {fd : FuncData} (F : FunD K "__init__" "Scan.__init__" (defArgs s_Scan___init__) (defBody s_Scan___init__) (defScope s_Scan___init__) [.ref aL] [] f fd) (T : Tx K mg aL) (S : Sk K C) (c_class_count : Cal P w K mg base 2 "class_count" ["divisors"] (FnD K C R_class_count)) (c_is_tree : Cal P w K mg base 4 "is_tree" ["value", "directions", "many"] (FnD K C R_is_tree)) (c_node_count : Cal P w K mg base 4 "node_count" ["tree"] (FnD K C R_nc)) : FnOk P w K mg base CX0 5 f fd ["self", "divisors", "tree"] (FnI K C R_init) := by
  have nd := (sc_Scan___init__).nd
  refine ok_ofI F sc_Scan___init__ (fun as t ⟨D, T, e, _⟩ => by subst e; rfl) fun cdv A outer s H E hr => ?_
  refine ⟨_, (pss_cons (ps_set (i := 3) nd rfl (Or.inl rfl) (pe_cal c_class_count (hr.mono (by decide)) (pa_cons (pv 1) pa_nil)))
      (pss_cons (ps_if (pt_not (pt_val (pe_cal c_is_tree (hr.mono (by decide)) (pa_cons (pv 2) (pa_cons (pe_callB (kLen K) (by rfl) T.n_len PySem.boot_len (pa_cons (pv 1) pa_nil)) (pa_cons (pv 3) pa_nil)))))) (pss_one ps_never) pss_nil)
      (pss_cons (ps_fld (pv 0) (pv 1) rfl)
      (pss_cons (ps_fld (pv 0) (pv 2) rfl)
      (pss_cons (ps_fld (pv 0) (pv 3) rfl)
      (pss_one (ps_fld (pv 0) (pe_cal c_node_count (hr.mono (by decide)) (pa_cons (pv 2) pa_nil)) rfl))))))),
      ?_⟩
  rintro x dx as ds ⟨D, T0, rfl, okD, wf, rfl⟩
  have hD := okD.most
  have hv := okD.vol
  have hvp := vol_pos fun i hi => (okD.each i hi).1
  have hsz := wf.size_le
  have hs2 : szB 2 = 31 := rfl
  refine sm_then (Γ' := [some (.own x), some (dI D), some (.dat T0.toD), some (nI (vol D))]) (O' := [insR K C x dx []]) (sm_set (ev_call (ea_cons (ev_var rfl) ea_nil) ⟨D, rfl, okD, rfl⟩)) ?_
  refine sm_then (Γ' := [some (.own x), some (dI D), some (.dat T0.toD), some (nI (vol D))]) (O' := [insR K C x dx []]) (sm_if (b := !true) (ebs_eb (eb_not (eb_test (ev_call (ea_cons (ev_var rfl) (ea_cons (ev_is (ev_len (.inr (ev_var rfl))) (t' := nI (D.length : Nat)) (by rw [List.length_map])) (ea_cons (ev_is (ev_var rfl) (t' := nI ((vol D).toNat : Nat)) (by rw [Int.toNat_of_nonneg (by omega)])) ea_nil))) ⟨D.length, (vol D).toNat, 2, T0, rfl, by decide, by omega, by omega, wf, by omega, rfl⟩)))) (fun h => nomatch h) fun _ => sm_next ⟨rfl, rfl⟩) ?_
  refine sm_then (sm_fld (ds := []) S.cls S.n1 rfl (ev_var (i := 1) rfl) (fun p hp => nomatch hp) (Nat.zero_le _)) ?_
  refine sm_then (sm_fld (ds := [("held_divisors", pI D)]) S.cls S.n2 rfl (ev_var (i := 2) rfl) (by simp; decide) (Nat.le_of_ble_eq_true rfl)) ?_
  refine sm_then (sm_fld (ds := [("held_divisors", pI D), ("held_tree", T0.toD)]) S.cls S.n3 rfl (ev_var (i := 3) rfl) (by simp; decide) (Nat.le_of_ble_eq_true rfl)) ?_
  refine sm_weak (sm_fld (ds := [("held_divisors", pI D), ("held_tree", T0.toD), ("class_total", .int (vol D))]) S.cls S.n4 rfl (ev_call (ea_cons (ev_var rfl) ea_nil) ⟨D.length, (vol D).toNat, T0, rfl, wf, rfl⟩) (by simp; decide) (Nat.le_of_ble_eq_true rfl)) (fun Γ O ⟨_, h2⟩ => h2) fun _ _ h => h
end
end Lk
/-! Bg: the bag that the law's draws come from: a list of its caller's; defs that draw from it. -/
namespace Ly
open PySem PySem.Spec
open PyProof.Rows L2
/-! what is one's own, of several addresses, may be looked at -/
section
variable {K : PySem.W.Frag} {C : Addr}
def Wd.hideR (W : Wd) (ps : List Addr) : Wd := ⟨fun a => if a ∈ ps then none else W.F a, W.H, fun a o h => by
  have h : (if a ∈ ps then none else W.F a) = some o := h
  split at h
  · cases h
  · exact W.sub _ _ h⟩
theorem hideR_at {W : Wd} {ps : List Addr} {a : Addr} (h : a ∉ ps) : (W.hideR ps).F a = W.F a := if_neg h
theorem hideR_ok {W : Wd} {ps : List Addr} {v : V} {t : Ty} (n : ∀ p ∈ ps, NoT W.F p) (ht : nolT t = true) (h : At K C W.F v t) : At K C (W.hideR ps).F v t := by
  cases t with
  | dat d =>
    have key : ∀ a xs, W.F a = some (.tup xs) → (W.hideR ps).F a = some (.tup xs) := fun a xs q => by
      rw [hideR_at (fun m => (n a m).1 _ q)]
      exact q
    have key2 : ∀ a o u, W.F a = some (.frz o u) → (W.hideR ps).F a = some (.frz o u) := fun a o u q => by
      rw [hideR_at (fun m => (n a m).2 _ _ q)]
      exact q
    refine dp_keepN (fun a xs ds q => ?_) d v ht h
    rcases q with q | ⟨q0, q⟩
    · exact .inl (key a xs q)
    · refine .inr ⟨q0, ?_⟩
      rcases q with (q | ⟨o', q⟩) | q
      · exact .inl (.inl (key a xs q))
      · exact .inl (.inr ⟨o', key2 a o' _ q⟩)
      · exact .inr q
  | _ => cases ht
def VisR (K : PySem.W.Frag) (C : Addr) (r : Res) (p : Addr) (tv : Ty) : Prop := p ∈ r.ps ∧ ∀ W : Wd, (∀ a ∈ r.ps, W.F a = none) → r.ok W.F W.H → (∀ a ∈ r.ps, ∃ o, W.H a = some o ∧ (∀ xs, o ≠ .tup xs) ∧ ∀ x y, o ≠ .frz x y) ∧ At K C (W.fixR r.ps).F (.ref p) tv
variable {Γ : Ev} {O : Ow} {t : Ty} {te : TE} {tt : TT} {u : TS} {N : Ev → Ow → Prop} {R : Ty → Ow → Prop}
theorem same_fixR {W : Wd} {ps : List Addr} : Same W.F (W.fixR ps).F := fun b ob eb => by
  show (if b ∈ ps then W.H b else W.F b) = some ob
  split
  · exact W.sub _ _ eb
  · exact eb
theorem visR_core {σ : L2.St} {W : Wd} {i j : Nat} {r : Res} {p : Addr} {tv : Ty} (hj : O[j]? = some r) (hi : Γ[i]? = some (some (.own p))) (hl : VisR K C r p tv) (e : En K C W.F σ Γ) (o : Own O W) :
    (∀ a ∈ r.ps, W.F a = none) ∧ (∀ a ∈ r.ps, ∃ o, W.H a = some o ∧ (∀ xs, o ≠ .tup xs) ∧ ∀ x y, o ≠ .frz x y) ∧ En K C (W.fixR r.ps).F σ (Γ.set i (some tv)) := by
  have hm : r ∈ O := List.mem_of_getElem? hj
  have hf : ∀ a ∈ r.ps, W.F a = none := fun a ha0 => o.nf a ⟨r, hm, ha0⟩
  obtain ⟨h1, h2⟩ := hl.2 W hf (o.ok r hm)
  refine ⟨hf, h1, by rw [List.length_set]; exact e.len, fun k t' hk => ?_⟩
  by_cases hik : i = k
  · subst hik
    rw [List.getElem?_set_self (List.getElem?_eq_some_iff.mp hi).1] at hk
    cases hk
    obtain ⟨v, g1, g2⟩ := e.at_ i _ hi
    have g2 : v = .ref p := g2
    subst g2
    exact ⟨_, g1, h2⟩
  · rw [List.getElem?_set_ne hik] at hk
    obtain ⟨v, g1, g2⟩ := e.at_ k t' hk
    exact ⟨v, g1, at_same same_fixR g2⟩
theorem leS_hideR {W W2 : Wd} {ps : List Addr} (hf : ∀ a ∈ ps, W.F a = none) (s : LeS (W.fixR ps) W2) : LeS W (W2.hideR ps) := ⟨⟨fun a x h => by
  have ne : a ∉ ps := fun m => by rw [hf a m] at h; cases h
  rw [hideR_at ne]
  exact s.same a x (same_fixR a x h), s.dom, fun a x h => by
  have h : (if a ∈ ps then none else W2.F a) = some x := h
  split at h
  · cases h
  · next ne =>
    rcases s.nw a x h with z | z | z
    · have z : (if a ∈ ps then W.H a else W.F a) = some x := z
      rw [if_neg ne] at z
      exact .inl z
    · exact .inr (.inl z)
    · exact .inr (.inr z)⟩, s.all⟩
theorem noT_of {W2 : Wd} {a : Addr} {o : HO} (h : W2.F a = some o) (n1 : ∀ xs, o ≠ .tup xs) (n2 : ∀ x y, o ≠ .frz x y) : NoT W2.F a := ⟨fun xs z => by rw [h] at z; exact n1 xs (Option.some.inj z), fun x y z => by rw [h] at z; exact n2 x y (Option.some.inj z)⟩
theorem es_visR {i j : Nat} {r : Res} {p : Addr} {tv : Ty} (hj : O[j]? = some r) (hi : Γ[i]? = some (some (.own p))) (hl : VisR K C r p tv) (h : EvD K C te (Γ.set i (some tv)) t) (ht : nolT t = true) : EvS K C te Γ O t := fun σ W e o Q q => by
  obtain ⟨hf, hx0, e1⟩ := visR_core hj hi hl e o
  refine h σ (W.fixR r.ps) e1 Q fun v W2 s2 a => ?_
  refine q v (W2.hideR r.ps) (leS_hideR hf s2) (hideR_ok (fun a ha0 => ?_) ht a)
  obtain ⟨x, hx1, n1, n2⟩ := hx0 a ha0
  have h2 : (W.fixR r.ps).F a = some x := by
    show (if a ∈ r.ps then W.H a else W.F a) = some x
    rw [if_pos ha0]
    exact hx1
  exact noT_of (s2.same a x h2) n1 n2
theorem ebs_visR {b : Bool} {i j : Nat} {r : Res} {p : Addr} {tv : Ty} (hj : O[j]? = some r) (hi : Γ[i]? = some (some (.own p))) (hl : VisR K C r p tv) (h : EvB K C tt (Γ.set i (some tv)) b) : EbS K C tt Γ O b := fun σ W e o Q q => by
  obtain ⟨hf, hx0, e1⟩ := visR_core hj hi hl e o
  exact h σ (W.fixR r.ps) e1 Q fun W2 s2 => q (W2.hideR r.ps) (leS_hideR hf s2)
/-! the bag -/
def bagL (q : Addr) (i x s : Int) : List V := [.ref q, .int i, .int x, .int s]
/-- as it stands -/
def bagS (p q : Addr) (ns : List Int) (i x s : Int) : Res where
  ps := [p, q]
  ok := fun F H => q ≠ p ∧ H q = some (.lst (ns.map V.int)) ∧ H p = some (.lst (bagL q i x s))
  mono := fun ⟨h1, h2, h3⟩ s hp => ⟨h1, hp q (by simp) _ h2, hp p (by simp) _ h3⟩
  at_ := fun ⟨h1, h2, h3⟩ a ha0 => by
    rcases List.mem_cons.mp ha0 with rfl | ha0
    · exact ⟨_, h3, fun _ z => nomatch z⟩
    · obtain rfl := List.mem_singleton.mp ha0
      exact ⟨_, h2, fun _ z => nomatch z⟩
def BagOk (ns : List Int) (i x s : Int) : Prop := ns.length ≤ 63 ∧ 0 ≤ i ∧ 0 ≤ x ∧ 0 ≤ s ∧ s < 2147483647
/-- any -/
def bagR (p q : Addr) : Res where
  ps := [p, q]
  ok := fun F H => ∃ ns i x s, BagOk ns i x s ∧ (bagS p q ns i x s).ok F H
  mono := fun ⟨ns, i, x, s, hb, h⟩ sm hp => ⟨ns, i, x, s, hb, (bagS p q ns i x s).mono h sm hp⟩
  at_ := fun ⟨ns, i, x, s, hb, h⟩ => (bagS p q ns i x s).at_ h
theorem vis_bag {p q : Addr} {ns : List Int} {i x s : Int} : VisR K C (bagS p q ns i x s) p (.tl [.list (ns.map .int), .int i, .int x, .int s]) := ⟨List.mem_cons_self, fun W hf ⟨h1, h2, h3⟩ => by
  refine ⟨fun a ha0 => ?_, p, bagL q i x s, rfl, ?_, ?_⟩
  · rcases List.mem_cons.mp ha0 with rfl | ha0
    · exact ⟨_, h3, fun _ z => (nomatch z), fun _ _ z => nomatch z⟩
    · obtain rfl := List.mem_singleton.mp ha0
      exact ⟨_, h2, fun _ z => (nomatch z), fun _ _ z => nomatch z⟩
  · show (if p ∈ [p, q] then W.H p else W.F p) = _
    rw [if_pos List.mem_cons_self]
    exact h3
  · have hq : (W.fixR [p, q]).F q = some (.lst (ns.map V.int)) := by
      show (if q ∈ [p, q] then W.H q else W.F q) = _
      rw [if_pos (by simp)]
      exact h2
    exact .cons (.lst (SqL.of hq) (dpAll_of_ints ns)) (.cons (.int i) (.cons (.int x) (.cons (.int s) .nil)))⟩
/-- the same own things, told otherwise -/
structure Tells (O O' : Ow) : Prop where
  to : ∀ W, Own O W → Own O' W
  dom : ∀ a, Dom O' a ↔ Dom O a
theorem Tells.go {O1 O O' : Ow} {W W' : Wd} (h : Tells O O') (g : Go O1 W O W') : Go O1 W O' W' := ⟨g.same, g.dom, g.nw, g.rest, fun a d => g.grow a ((h.dom a).mp d)⟩
theorem Tells.go' {O2 O O' : Ow} {W W' : Wd} (h : Tells O O') (g : Go O' W O2 W') : Go O W O2 W' := ⟨g.same, g.dom, fun a o e => by
  rcases g.nw a o e with z | z | z | z
  · exact .inl z
  · exact .inr (.inl z)
  · exact .inr (.inr (.inl z))
  · exact .inr (.inr (.inr ((h.dom a).mp z))), fun a o e nd => g.rest a o e fun d => nd ((h.dom a).mp d), fun a d => by
  rcases g.grow a d with z | z
  · exact .inl ((h.dom a).mp z)
  · exact .inr z⟩
theorem Tells.refl (O : Ow) : Tells O O := ⟨fun _ h => h, fun _ => Iff.rfl⟩
theorem tells_head {r r' : Res} {O : Ow} (hp : r'.ps = r.ps) (h : ∀ F H, r.ok F H → r'.ok F H) : Tells (r :: O) (r' :: O) := ⟨fun W o => ⟨fun x hx0 => by
  rcases List.mem_cons.mp hx0 with rfl | hx0
  · exact h _ _ (o.ok r List.mem_cons_self)
  · exact o.ok x (List.mem_cons_of_mem _ hx0), fun a d => o.nf a (by
    rcases dom_cons.mp d with d | d
    · exact dom_cons.mpr (.inl (by rw [← hp]; exact d))
    · exact dom_cons.mpr (.inr d)), by
    have := o.apart
    rw [List.map_cons] at this ⊢
    rw [hp]
    exact this⟩, fun a => by rw [dom_cons, dom_cons, hp]⟩
theorem bag_close {p q : Addr} {ns : List Int} {i x s : Int} {O : Ow} (h : BagOk ns i x s) : Tells (bagS p q ns i x s :: O) (bagR p q :: O) := tells_head rfl fun F H hk => ⟨ns, i, x, s, h, hk⟩
theorem sm_tell {O' : Ow} (h : Tells O O') (hs : SM K C u Γ O' N R) : SM K C u Γ O N R := fun D σ W e o n r => hs D σ W e (h.to W o) (fun Γ2 O2 σ2 W2 k g e2 o2 => n Γ2 O2 σ2 W2 k (h.go' g) e2 o2) fun t O2 v W2 k g o2 a => r t O2 v W2 k (h.go' g) o2 a
theorem go_dom {O2 O O' : Ow} {W W' : Wd} (h : ∀ a, Dom O' a ↔ Dom O a) (g : Go O' W O2 W') : Go O W O2 W' := ⟨g.same, g.dom, fun a o e => by
  rcases g.nw a o e with z | z | z | z
  · exact .inl z
  · exact .inr (.inl z)
  · exact .inr (.inr (.inl z))
  · exact .inr (.inr (.inr ((h a).mp z))), fun a o e nd => g.rest a o e fun d => nd ((h a).mp d), fun a d => by
  rcases g.grow a d with z | z
  · exact .inl ((h a).mp z)
  · exact .inr z⟩
theorem dom_head {r r' : Res} {O : Ow} (hp : r'.ps = r.ps) (a : Addr) : Dom (r' :: O) a ↔ Dom (r :: O) a := by rw [dom_cons, dom_cons, hp]
theorem own_head {r r' : Res} {O : Ow} {W : Wd} (hp : r'.ps = r.ps) (o : Own (r :: O) W) (h : r'.ok W.F W.H) : Own (r' :: O) W := ⟨fun y hy0 => by
  rcases List.mem_cons.mp hy0 with rfl | hy0
  · exact h
  · exact o.ok y (List.mem_cons_of_mem _ hy0), fun a d => o.nf a ((dom_head hp a).mp d), by
  have := o.apart
  rw [List.map_cons] at this ⊢
  rw [hp]
  exact this⟩
theorem sm_open {p q : Addr} (h : ∀ ns i x s, BagOk ns i x s → SM K C u Γ (bagS p q ns i x s :: O) N R) : SM K C u Γ (bagR p q :: O) N R := fun D σ W e o n r => by
  obtain ⟨ns, i, x, s, hb, hk⟩ := o.ok _ List.mem_cons_self
  have hd : ∀ a, Dom (bagS p q ns i x s :: O) a ↔ Dom (bagR p q :: O) a := dom_head (r := bagR p q) (r' := bagS p q ns i x s) rfl
  exact h ns i x s hb D σ W e (own_head (r := bagR p q) rfl o hk) (fun Γ2 O2 σ2 W2 k g e2 o2 => n Γ2 O2 σ2 W2 k (go_dom hd g) e2 o2) fun t2 O2 v W2 k g o2 a => r t2 O2 v W2 k (go_dom hd g) o2 a
/-- what goes on, what is returned: told otherwise -/
theorem sm_tells {N' : Ev → Ow → Prop} {R' : Ty → Ow → Prop} (h : SM K C u Γ O N' R') (hn : ∀ Γ' O', N' Γ' O' → ∃ O2, Tells O' O2 ∧ N Γ' O2) (hr : ∀ t O', R' t O' → ∃ O2, Tells O' O2 ∧ R t O2) : SM K C u Γ O N R := fun D σ W e o n r =>
  h D σ W e o (fun Γ2 O2 σ2 W2 k g e2 o2 => by
    obtain ⟨O3, t, k3⟩ := hn Γ2 O2 k
    exact n Γ2 O3 σ2 W2 k3 (t.go g) e2 (t.to W2 o2)) fun t2 O2 v W2 k g o2 a => by
    obtain ⟨O3, t, k3⟩ := hr t2 O2 k
    exact r t2 O3 v W2 k3 (t.go g) (t.to W2 o2) a
/-- bag[k] = e -/
def bagSet (ns : List Int) (p q : Addr) (i x s : Int) (k : Nat) (n : Int) : Res := match k with
  | 1 => bagS p q ns n x s
  | 2 => bagS p q ns i n s
  | _ => bagS p q ns i x n
theorem sm_bagSet {a k : Nat} {p q : Addr} {ns : List Int} {i x s n : Int} (hk : k = 1 ∨ k = 2 ∨ k = 3) (hi : Γ[a]? = some (some (.own p))) (h : EvS K C te Γ (bagS p q ns i x s :: O) (.dat (.int n))) : SM K C (tAsg te (gSub (tVar a) (tC (.int (k : Nat))) rSetL)) Γ (bagS p q ns i x s :: O) (fun Γ' O' => Γ' = Γ ∧ O' = bagSet ns p q i x s k n :: O) R := fun D σ W e o nn r => h σ W e o _ fun v W1 s1 av => by
  have hv := dp_int av
  subst hv
  obtain ⟨u, g1, g2⟩ := (e.le s1).at_ a _ hi
  have g2 : u = .ref p := g2
  subst g2
  have o1 := o.le s1
  obtain ⟨h1, h2, h3⟩ := o1.ok _ List.mem_cons_self
  have hpF : W1.F p = none := o1.nf p ⟨_, List.mem_cons_self, List.mem_cons_self⟩
  have hj : ixN (bagL q i x s).length (k : Int) = some k := by rcases hk with rfl | rfl | rfl <;> rfl
  refine ⟨_, g1, p, bagL q i x s, (k : Int), k, rfl, rfl, h3, hj, ?_⟩
  obtain ⟨xs, hxs⟩ : ∃ xs, xs = (bagL q i x s).set k (.int n) := ⟨_, rfl⟩
  rw [← hxs]
  have hps : (bagSet ns p q i x s k n).ps = [p, q] := by rcases hk with rfl | rfl | rfl <;> rfl
  have z := own_re (r' := bagSet ns p q i x s k n) (W' := W1.own p (.lst xs) hpF) o1 rfl (fun b ob eb na => ?_) (fun b eb => ?_) (fun b hb => .inl (by rw [hps] at hb; exact hb)) ?_
  · exact nn Γ _ σ (W1.own p _ hpF) ⟨rfl, rfl⟩ (s1.go.trans z.2) (show En K C W1.F σ Γ from e.le s1) z.1
  · show upd W1.H p _ b = some ob
    rw [upd_ne (fun z => na (by subst z; exact List.mem_cons_self))]
    exact eb
  · have eb : upd W1.H p (.lst xs) b = none := eb
    by_cases z : b = p
    · subst z; rw [upd_same] at eb; cases eb
    · rw [upd_ne z] at eb
      exact eb
  · have hq : upd W1.H p (.lst xs) q = some (.lst (ns.map V.int)) := by
      rw [upd_ne h1]
      exact h2
    rcases hk with rfl | rfl | rfl
    · exact ⟨h1, hq, by rw [hxs]; exact upd_same⟩
    · exact ⟨h1, hq, by rw [hxs]; exact upd_same⟩
    · exact ⟨h1, hq, by rw [hxs]; exact upd_same⟩
end
end Ly
/-! Bh: defs that draw from the bag. -/
namespace Ly
open PySem PySem.Spec
open PyProof.Rows L2
section
variable (K : PySem.W.Frag) (C : Addr)
/-- a promise: the bag first, then data; what comes is one of T -/
def FnB (R : List Ty → (Ty → Prop) → Prop) : Sp := fun vs H Q _ => ∃ (W : Wd) (p q : Addr) (us : List V) (ts : List Ty) (T : Ty → Prop), W.H = H ∧ vs = .ref p :: us ∧ AtAll K C W.F us ts ∧ Own [bagR p q] W ∧ R ts T ∧
  ∀ t v W', T t → Go [bagR p q] W [bagR p q] W' → Own [bagR p q] W' → At K C W'.F v t → Q v W'.H
end
section
variable {K : PySem.W.Frag} {C : Addr} {Γ : Ev} {O : Ow} {te ta tb : TE} {tr : TA}
theorem sm_bodyB {Ns : List Str} {ts : TS} {Rl : List Ty → (Ty → Prop) → Prop} {vs : List V} {H : Hp} {Q : VK} {E : XK} (h : FnB K C Rl vs H Q E) (hb : ∀ p q as T, Rl as T → SM K C ts (startG Ns.length (.own p :: as)) [bagR p q] (fun _ _ => False) (fun t O' => T t ∧ O' = [bagR p q])) : ts { nx := fun _ H' => Q .non H', rt := Q } (L2.start Ns vs) H := by
  obtain ⟨W, p, q, us, as, T, rfl, rfl, a, o, hr, k⟩ := h
  refine hb p q as T hr _ _ W (en_start (.cons (t := .own p) rfl a)) o (fun _ _ _ W' z _ _ _ => z.elim) fun t O' v W' z g o' b => ?_
  obtain ⟨z1, rfl⟩ := z
  exact k t v W' z1 g o' b
/-- what a part of one's own things does, the rest stays -/
theorem go_part {j : Nat} {r : Res} {W W' : Wd} (hj : O[j]? = some r) (o : Own O W) (g : Go [r] W [r] W') (o' : Own [r] W') : Go O W O W' ∧ Own O W' := by
  have hm : r ∈ O := List.mem_of_getElem? hj
  have dm : ∀ a, Dom [r] a ↔ a ∈ r.ps := fun a => by
    rw [dom_cons]
    exact ⟨fun h => h.elim id fun d => absurd d not_dom_nil, fun h => .inl h⟩
  have far : ∀ i x, O[i]? = some x → i ≠ j → ∀ a ∈ x.ps, a ∉ r.ps := fun i x hi hne a ha hr => by
    have hil := (List.getElem?_eq_some_iff.mp hi)
    have hjl := (List.getElem?_eq_some_iff.mp hj)
    obtain ⟨hi1, hi2⟩ := hil
    obtain ⟨hj1, hj2⟩ := hjl
    have ap := List.pairwise_iff_getElem.mp o.apart
    rcases Nat.lt_or_gt_of_ne hne with l | l
    · have := ap i j (by rw [List.length_map]; exact hi1) (by rw [List.length_map]; exact hj1) l
      rw [List.getElem_map, List.getElem_map, hi2, hj2] at this
      exact this a ha hr
    · have := ap j i (by rw [List.length_map]; exact hj1) (by rw [List.length_map]; exact hi1) l
      rw [List.getElem_map, List.getElem_map, hi2, hj2] at this
      exact this a hr ha
  have keep : ∀ x ∈ O, x ≠ r ∨ True → ∀ a ∈ x.ps, a ∉ r.ps → ∀ ob, W.H a = some ob → W'.H a = some ob := fun x _ _ a _ hr ob e => g.rest a ob e fun d => hr ((dm a).mp d)
  refine ⟨⟨g.same, g.dom, fun a ob e => ?_, fun a ob e nd => g.rest a ob e fun d => nd ⟨r, hm, (dm a).mp d⟩, fun a d => .inl d⟩, ⟨fun x hx => ?_, fun a ⟨x, hx, ha⟩ => ?_, o.apart⟩⟩
  · rcases g.nw a ob e with z | z | z | z
    · exact .inl z
    · exact .inr (.inl z)
    · exact .inr (.inr (.inl z))
    · exact .inr (.inr (.inr ⟨r, hm, (dm a).mp z⟩))
  · obtain ⟨i, hi⟩ := List.mem_iff_getElem?.mp hx
    by_cases hij : i = j
    · subst hij
      rw [hj] at hi
      cases hi
      exact o'.ok r List.mem_cons_self
    · exact x.mono (o.ok x hx) g.same fun a ha ob e => keep x hx (.inr trivial) a ha (far i x hi hij a ha) ob e
  · by_cases hr : a ∈ r.ps
    · exact o'.nf a ((dm a).mpr hr)
    · obtain ⟨ob, e, nt⟩ := o.at_ ⟨x, hx, ha⟩
      cases q : W'.F a with
      | none => rfl
      | some y =>
        rcases g.nw a y q with z | z | ⟨xs, z⟩ | z
        · rw [o.nf a ⟨x, hx, ha⟩] at z; cases z
        · rw [z] at e; cases e
        · have e2 := W'.sub _ _ q
          rw [g.rest a ob e fun d => hr ((dm a).mp d)] at e2
          exact absurd ((Option.some.inj e2).trans z) (nt xs)
        · exact absurd ((dm a).mp z) hr
theorem own_one {j : Nat} {r : Res} {W : Wd} (hj : O[j]? = some r) (o : Own O W) : Own [r] W := ⟨fun x hx => by
  obtain rfl := List.mem_singleton.mp hx
  exact o.ok x (List.mem_of_getElem? hj), fun a ⟨x, hx, ha⟩ => by
  obtain rfl := List.mem_singleton.mp hx
  exact o.nf a ⟨x, List.mem_of_getElem? hj, ha⟩, List.pairwise_singleton _ _⟩
/-- f(bag, ..) -/
theorem em_callB {i j : Nat} {p q : Addr} {E : XK} {Rl : List Ty → (Ty → Prop) → Prop} {A : List Ty → Prop} {T : Ty → Prop} (hi : Γ[i]? = some (some (.own p))) (hj : O[j]? = some (bagR p q)) (ha : EvMA K C tr Γ O A) (hr : ∀ ts, A ts → ∃ T', Rl ts T' ∧ ∀ t, T' t → T t) :
    EvM K C (tCall (FnB K C Rl) [] E (tCons (tVar i) tr)) Γ O T := fun σ W e o Q k => by
  obtain ⟨v, h1, h2⟩ := e.at_ i _ hi
  have h2 : v = .ref p := h2
  subst h2
  refine ⟨_, h1, ha σ W e o _ fun ts vs W1 z1 g1 o1 a1 => ?_⟩
  obtain ⟨T', hT, hTT⟩ := hr ts z1
  refine ⟨W1, p, q, vs, ts, T', rfl, by rw [List.append_nil], a1, own_one hj o1, hT, fun t v W2 z2 g2 o2 a2 => ?_⟩
  obtain ⟨g3, o3⟩ := go_part hj o1 g2 o2
  exact k t v W2 (hTT t z2) (g1.trans g3) o3 a2
theorem ema_evm {T : Ty → Prop} (h : EvM K C te Γ O T) : EvMA K C (tCons te tNil) Γ O (fun ts => ∃ t, ts = [t] ∧ T t) := fun σ W e o Q q => h σ W e o _ fun t v W1 k g o1 a => q _ _ W1 ⟨t, rfl, k⟩ g o1 (.cons a .nil)
theorem ema_ev {t : Ty} (h : EvD K C te Γ t) : EvMA K C (tCons te tNil) Γ O (· = [t]) := ema_ea (ea_cons h ea_nil)
/-- an int with P -/
def IntP (P : Int → Prop) : Ty → Prop := fun t => ∃ n, t = .dat (.int n) ∧ P n
theorem em_op2 {r : R2} {P P' : Int → Prop} {T : Ty → Prop} (ha : EvM K C ta Γ O (IntP P)) (hb : EvM K C tb Γ O (IntP P')) (h : ∀ n m, P n → P' m → ∃ t, T t ∧ EvD K C (tOp r (tC (.int n)) (tC (.int m))) Γ t) : EvM K C (tOp r ta tb) Γ O T := fun σ W e o Q q =>
  ha σ W e o _ fun t1 x W1 k1 g1 o1 a1 => hb σ W1 (e.same g1.same) o1 _ fun t2 y W2 k2 g2 o2 a2 => by
    obtain ⟨n, rfl, hn⟩ := k1
    obtain ⟨m, rfl, hm⟩ := k2
    have e1 := dp_int a1
    have e2 := dp_int a2
    subst e1 e2
    obtain ⟨t, ht, hh⟩ := h n m hn hm
    exact hh σ W2 (e.same (g1.trans g2).same) Q fun v W3 s3 a3 => q t v W3 ht ((g1.trans g2).trans s3.go) (o2.le s3) a3
theorem em_int {n : Int} : EvM K C (tC (.int n)) Γ O (IntP (· = n)) := em_weak (em_ev ev_int) fun t e => ⟨n, e, rfl⟩
theorem em_intD {n : Int} (h : EvD K C te Γ (.dat (.int n))) : EvM K C te Γ O (IntP (· = n)) := em_weak (em_ev h) fun t e => ⟨n, e, rfl⟩
theorem em_intS {n : Int} (h : EvS K C te Γ O (.dat (.int n))) : EvM K C te Γ O (IntP (· = n)) := em_weak (em_es h) fun t e => ⟨n, e, rfl⟩
/-- xs[i]: the list first -/
theorem em_ixL {ds : List PyData} {P : Int → Prop} {T : Ty → Prop} (ha : EvD K C ta Γ (.dat (.list ds)) ∨ EvD K C ta Γ (.dat (.tuple ds))) (hb : EvM K C tb Γ O (IntP P)) (h : ∀ n, P n → ∃ d, atI ds n = some d ∧ T (.dat d)) : EvM K C (tOp (rIxU K) ta tb) Γ O T := fun σ W e o Q q => by
  rcases ha with ha | ha
  · refine ha σ W e _ fun x W1 s1 a1 => hb σ W1 (e.le s1) (o.le s1) _ fun t2 y W2 k2 g2 o2 a2 => ?_
    obtain ⟨n, rfl, hn⟩ := k2
    have e2 := dp_int a2
    subst e2
    obtain ⟨d, hd, hT⟩ := h n hn
    obtain ⟨pp, xs, rfl, h1, h2⟩ := wp_lst (at_same (t := .dat (.list ds)) g2.same a1)
    obtain ⟨v, hv, r⟩ := atI_dp h2 hd
    exact .inl ⟨pp, xs, n, v, rfl, rfl, h1, hv, q _ v W2 hT (s1.go.trans g2) o2 r⟩
  · refine ha σ W e _ fun x W1 s1 a1 => hb σ W1 (e.le s1) (o.le s1) _ fun t2 y W2 k2 g2 o2 a2 => ?_
    obtain ⟨n, rfl, hn⟩ := k2
    have e2 := dp_int a2
    subst e2
    obtain ⟨d, hd, hT⟩ := h n hn
    obtain ⟨pp, xs, rfl, h1, h2⟩ := wp_tup (at_same (t := .dat (.tuple ds)) g2.same a1)
    obtain ⟨v, hv, r⟩ := atI_dp h2 hd
    exact .inr ⟨pp, xs, n, v, rfl, rfl, h1, hv, q _ v W2 hT (s1.go.trans g2) o2 r⟩
/-- lists of things, one for each -/
inductive Each2 {α β : Type} (P : α → β → Prop) : List α → List β → Prop
  | nil : Each2 P [] []
  | cons {a : α} {b : β} {as : List α} {bs : List β} : P a b → Each2 P as bs → Each2 P (a :: as) (b :: bs)
theorem Each2.snoc {α β : Type} {P : α → β → Prop} {a : α} {b : β} : ∀ {as : List α} {bs : List β}, Each2 P as bs → P a b → Each2 P (as ++ [a]) (bs ++ [b])
  | _, _, .nil, h =>
      .cons h .nil
  | _, _, .cons x t, h => .cons x (t.snoc h)
theorem Each2.len {α β : Type} {P : α → β → Prop} : ∀ {as : List α} {bs : List β}, Each2 P as bs → as.length = bs.length
  | _, _, .nil => rfl
  | _, _, .cons _ t => congrArg (· + 1) t.len
/-- [e for x in ..], e draws -/
theorem em_map {α : Type} {wi : TI} {g : TG} {vs : List Nat} {as : List α} {ty : α → Ty} {P : α → PyData → Prop} (hw : IvD K C wi Γ as ty) (hz : as.length ≤ 100000)
    (h : ∀ a ∈ as, ∃ Γ', TgD K C g vs (wipeG Γ vs) (ty a) Γ' ∧ ∀ r, EvM K C te Γ' (r :: O) (fun t => ∃ d, t = .dat d ∧ P a d)) : EvM K C (tLc wi g tYes te vs) Γ O (fun t => ∃ ds, t = .tl ds ∧ Each2 P as ds) := fun σ W e o Q q => by
  refine hw σ W e _ fun J W1 s1 it D hD => ?_
  have e1 := e.le s1
  obtain ⟨o0, g0⟩ := own_new (r := lstR K D []) (o := .lst []) (o.le s1) hD rfl ⟨[], upd_same, .nil⟩
  refine ⟨fun i m H2 => ∃ W2 : Wd, W2.H = H2 ∧ m = as.length - i ∧ i ≤ as.length ∧ ∃ ds, Each2 P (as.take i) ds ∧ Own (lstR K D ds :: O) W2 ∧ Go O W1 (lstR K D ds :: O) W2, ⟨as.length, W1.own D (.lst []) (wd_none hD), rfl, by simp, Nat.zero_le _, [], .nil, o0, g0⟩, ?_⟩
  rintro i m _ ⟨W2, rfl, rfl, hi, ds, hds, o2, g2⟩
  by_cases hlt : i < as.length
  · refine .inr ?_
    have ha : as[i]? = some as[i] := List.getElem?_eq_getElem hlt
    obtain ⟨k1, k2⟩ := it.go W2 g2.same i _ ha
    obtain ⟨Γ', h1, h3⟩ := h as[i] (List.getElem_mem hlt)
    refine ⟨k1, fun H' => ∃ W2 : Wd, W2.H = H' ∧ i + 1 ≤ as.length ∧ ∃ ds, Each2 P (as.take (i + 1)) ds ∧ Own (lstR K D ds :: O) W2 ∧ Go O W1 (lstR K D ds :: O) W2, fun H' ⟨W2, e, k1, k2⟩ => ⟨as.length - (i + 1), by omega, W2, e, rfl, k1, k2⟩, fun x H' y => ?_⟩
    obtain ⟨W3, rfl, s3, ax⟩ := k2 x H' y
    have en : En K C W3.F (wipe σ vs) (wipeG Γ vs) := (e1.wipe vs).same (g2.same.trans s3.same)
    refine h1 _ W3 x en ax _ fun σ2 hw2 en2 => ⟨by rw [hw2, wipe_wipe], ?_⟩
    show te σ2 W3.H _
    refine h3 (lstR K D ds) σ2 W3 en2 (o2.le s3) _ fun t y W4 k4 g4 o4 a4 => ?_
    obtain ⟨d, rfl, hP⟩ := k4
    obtain ⟨xs, hx, hd⟩ := o4.ok _ List.mem_cons_self
    have hF : W4.F D = none := o4.nf D ⟨_, List.mem_cons_self, List.mem_singleton.mpr rfl⟩
    have hlen : xs.length ≤ 100000 := by
      have h4 := hds.len
      have h5 := List.length_take_le' i as
      rw [dpAll_len hd]
      omega
    have o5 := o4.upd (i := 0) (r := lstR K D ds) (r' := lstR K D (ds ++ [d])) (o := .lst (xs ++ [y])) rfl (List.mem_singleton.mpr rfl) rfl hF ⟨_, upd_same, dpAll_app hd (.cons a4 .nil)⟩
    have g5 := go_upd (O := lstR K D ds :: O) (i := 0) (r := lstR K D ds) (r' := lstR K D (ds ++ [d])) (o := .lst (xs ++ [y])) rfl (List.mem_singleton.mpr rfl) rfl hF
    refine ⟨xs, hx, Nat.lt_of_le_of_lt hlen (by decide), W4.own D _ hF, rfl, hlt, ds ++ [d], ?_, o5, ((g2.trans s3.go).trans g4).trans g5⟩
    rw [List.take_add_one, ha]
    exact hds.snoc hP
  · have ei : i = as.length := by omega
    subst ei
    rw [List.take_length] at hds
    obtain ⟨xs, hx, hd⟩ := o2.ok _ List.mem_cons_self
    have hF : W2.F D = none := o2.nf D ⟨_, List.mem_cons_self, List.mem_singleton.mpr rfl⟩
    have ne : ∀ a, Dom O a → a ≠ D := fun a ⟨r, hr, ha⟩ z => by
      subst z
      have := List.pairwise_cons.mp (show ((lstR K a ds :: O).map Res.ps).Pairwise _ from o2.apart)
      exact this.1 r.ps (List.mem_map.mpr ⟨r, hr, rfl⟩) a (List.mem_singleton.mpr rfl) ha
    have oF : Own O (W2.fix D _ hx) := ⟨fun r hr => r.mono (o2.hd.ok r hr) (same_fix hF) fun _ _ _ e => e, fun a d => by
      show L2.upd W2.F D _ a = none
      rw [upd_ne (ne a d)]
      exact o2.hd.nf a d, o2.hd.apart⟩
    have gF : Go O W1 O (W2.fix D _ hx) := ⟨g2.same.trans (same_fix hF), g2.dom, fun a ob e => by
      have e : L2.upd W2.F D _ a = some ob := e
      by_cases z : a = D
      · subst z
        exact .inr (.inl hD)
      · rw [upd_ne z] at e
        exact g2.nw a ob e, g2.rest, fun a d => .inl d⟩
    exact .inl ⟨it.stop W2 g2.same, q _ _ (W2.fix D _ hx) ⟨ds, rfl, hds⟩ (s1.go.trans gF) oF ⟨D, xs, rfl, upd_same, dpAll_same (same_fix hF) hd⟩⟩
end
end Ly
namespace Lk
open PySem PySem.Spec PyProof.Rows L2 Ly
variable {P : Program} {w : World} {K : PySem.W.Frag} {mg : Str → Option Value} {base : Heap} {C : Addr}
theorem ok_ofB {x qual : Str} {st : Stmt} {f : Addr} {fd : FuncData} {N ps : List Str} {k : Nat} {R : List Ly.Ty → (Ly.Ty → Prop) → Prop} (F : Fun K x qual st f fd) (S : FnScope N ps (defScope st)) (hl : ∀ as t, R as t → as.length + 1 = ps.length)
    (hb : ∀ (cdv : Value) (A : Around) (outer : List Env) (s : Shared) (H : Hp) (E : XK), Room k (A.deeper (envOfC qual (defScope st) s.heap.objs.size f cdv)) →
      ∃ t, PSs (cxOf CX0 P w K mg base N qual (defScope st) f cdv A outer s H E).nox (defBody st) t ∧ ∀ p q as T, R as T → SM K C t (startG N.length (.own p :: as)) [bagR p q] (fun _ _ => False) (fun t' O' => T t' ∧ O' = [bagR p q])) : FnOk P w K mg base CX0 (k + 1) f fd ps (FnB K C R) := by
  refine F.ok S (fun vs H Q E h => ?_) (fun cdv A outer s H vs Q E hr h => ?_)
  · obtain ⟨_, _, _, us, ts, T, _, rfl, a, _, hr, _⟩ := h
    rw [List.length_cons, atAll_len a]
    exact hl ts T hr
  · obtain ⟨t, h1, h2⟩ := hb cdv A outer s H E hr
    exact ⟨t, h1, sm_bodyB h h2⟩
end Lk
namespace Lk
open PySem PySem.Spec PyProof.Rows L2 Ly
section
variable {P : Program} {w : World} {K : PySem.W.Frag} {mg : Str → Option Value} {base : Heap} {C aL : Addr}
section
variable {Γ : Ev} {ta tb : TE} {i j : Int}
theorem ev_powI (ha : EvD K C ta Γ (.dat (.int i))) (hb : EvD K C tb Γ (.dat (.int j))) (h : CPow i j) : EvD K C (tOp (rI CPow fun i j => .int (i ^ j.toNat)) ta tb) Γ (.dat (.int (i ^ j.toNat))) :=
  ev_op ha hb fun x y W a b Q q => ⟨i, j, dp_int a, dp_int b, h, q _ W (LeS.refl W) (Dt.int _)⟩
end
/-- a draw: 0 .. amount - 1 -/
def R_pull : List Ly.Ty → (Ly.Ty → Prop) → Prop := fun as T => ∃ m : Int, as = [nI m] ∧ 0 < m ∧ m < 2 ^ 64 ∧ T = IntP fun n => 0 ≤ n ∧ n < m
abbrev s__law_pull : Stmt := topS 56
abbrev N__law_pull : List Str := ["_law_bag_here", "_law_amount", "_law_seed", "_law_cell", "_law_got"]
theorem sc__law_pull : FnScope N__law_pull ["_law_bag_here", "_law_amount"] (defScope s__law_pull) := ⟨rfl, rfl, rfl, by decide +kernel, rfl, by decide +kernel, by decide +kernel⟩
theorem log_small {m : Int} (h0 : 0 < m) (h : m < 2 ^ 64) : m.natAbs.log2 < 9000 := by
  have h1 : m.natAbs < 2 ^ 64 := by omega
  have h2 : m.natAbs ≠ 0 := by omega
  have h3 : m.natAbs.log2 < 64 := (Nat.log2_lt h2).mpr h1
  omega
theorem ok__law_pull {f : Addr} {fd : FuncData} (F : Fun K "_law_pull" "_law_pull" s__law_pull f fd) (T : Tx K mg aL) : FnOk P w K mg base CX0 1 f fd ["_law_bag_here", "_law_amount"] (FnB K C R_pull) := by
  have nd := (sc__law_pull).nd
  refine ok_ofB F sc__law_pull (fun as t ⟨m, e, _⟩ => by subst e; rfl) fun cdv A outer s H E hr => ?_
  refine ⟨_, (pss_cons (ps_if (PW.pt (pw_and (pt_cmpR (kEq K hr.units) (pe_ix (kIx K) (pv 0) pe_int (fun _ _ => rfl)) pe_int (nomark _)) (pw_and1 (pt_cmpR (kLt K hr.units0) (pe_ix (kIx K) (pv 0) pe_int (fun _ _ => rfl)) (pe_callB (kLen K) (by rfl) T.n_len PySem.boot_len (pa_cons (pe_ix (kIx K) (pv 0) pe_int (fun _ _ => rfl)) pa_nil)) (nomark _))))) (pss_cons (ps_set (i := 3) nd rfl (Or.inl rfl) (pe_ix (kIx K) (pe_ix (kIx K) (pv 0) pe_int (fun _ _ => rfl)) (pe_ix (kIx K) (pv 0) pe_int (fun _ _ => rfl)) (fun _ _ => rfl)))
      (pss_cons (ps_asg (pe_op (kAdd K) (pe_ix (kIx K) (pv 0) pe_int (fun _ _ => rfl)) pe_int) (pg_sub (pv 0) pe_int set_list))
      (pss_one (ps_if (pt_cmpR op_ge (pv 3) (pe_op op_pow pe_int pe_int) (nomark _)) (pss_one (ps_asg (pv 3) (pg_sub (pv 0) pe_int set_list))) (pss_one (ps_asg (pe_op op_mod (pe_callTy cr_int (by rfl) T.n_int boot_int (pa_cons (pe_op (kAdd K) (pe_op (kAdd K) (pe_op (kMul K) (pe_ix (kIx K) (pv 0) pe_int (fun _ _ => rfl)) pe_int) (pe_op (kMul K) (pe_op op_mod (pe_callTy cr_int (by rfl) T.n_int boot_int (pa_cons (pv 3) pa_nil)) pe_int) pe_int)) pe_int) pa_nil)) pe_int) (pg_sub (pv 0) pe_int set_list))))))) pss_nil)
      (pss_cons (ps_if (pt_cmpR op_gt (pe_ix (kIx K) (pv 0) pe_int (fun _ _ => rfl)) pe_int (nomark _)) (pss_cons (ps_set (i := 4) nd rfl (Or.inl rfl) (pe_op op_mod (pe_callTy cr_int (by rfl) T.n_int boot_int (pa_cons (pe_ix (kIx K) (pv 0) pe_int (fun _ _ => rfl)) pa_nil)) (pv 1)))
      (pss_cons (ps_asg (pe_op op_fdivW (pe_ix (kIx K) (pv 0) pe_int (fun _ _ => rfl)) (pv 1)) (pg_sub (pv 0) pe_int set_list))
      (pss_one (ps_ret (pv 4))))) pss_nil)
      (pss_cons (ps_set (i := 2) nd rfl (Or.inl rfl) (pe_ix (kIx K) (pv 0) pe_int (fun _ _ => rfl)))
      (pss_cons (ps_asg (pe_op op_mod (pe_callTy cr_int (by rfl) T.n_int boot_int (pa_cons (pe_op (kAdd K) (pe_op (kAdd K) (pe_op (kMul K) (pv 2) (pv 2)) (pe_op (kMul K) (pv 2) pe_int)) pe_int) pa_nil)) pe_int) (pg_sub (pv 0) pe_int set_list))
      (pss_one (ps_ret (pe_op op_mod (pe_callTy cr_int (by rfl) T.n_int boot_int (pa_cons (pe_op (kAdd K) (pe_op op_fdivW (pe_ix (kIx K) (pv 0) pe_int (fun _ _ => rfl)) pe_int) (pe_op (kMul K) (pe_op op_mod (pe_callTy cr_int (by rfl) T.n_int boot_int (pa_cons (pe_ix (kIx K) (pv 0) pe_int (fun _ _ => rfl)) pa_nil)) pe_int) pe_int)) pa_nil)) (pv 1)))))))),
      ?_⟩
  rintro p q as T0 ⟨m, rfl, hm0, hm, rfl⟩
  have hdiv : CDivW 0 m := ⟨hm0, log_small hm0 hm⟩
  refine sm_tells (N' := fun _ _ => False) (R' := fun t O' => IntP (fun n => 0 ≤ n ∧ n < m) t ∧ ∃ ns i x s, BagOk ns i x s ∧ O' = [bagS p q ns i x s]) ?_ (fun _ _ h => h.elim) fun t O' ⟨h1, ns, i, x, s, h2, h3⟩ => ⟨[bagR p q], by rw [h3]; exact bag_close h2, h1, rfl⟩
  refine sm_open fun ns i x s hb => ?_
  obtain ⟨hl, hi0, hx0, hs0, hs1⟩ := id hb
  -- what stands at bag[k]
  have b1 : ∀ {Γ : Ev} {ns : List Int} {i x s : Int}, Γ[0]? = some (some (.tl [.list (ns.map .int), .int i, .int x, .int s])) → EvD K C (tOp (rIxU K) (tVar 0) (tC (.int 1))) Γ (nI i) := fun h => ev_ixL (ev_dat (ev_var h)) ev_int rfl
  have b2 : ∀ {Γ : Ev} {ns : List Int} {i x s : Int}, Γ[0]? = some (some (.tl [.list (ns.map .int), .int i, .int x, .int s])) → EvD K C (tOp (rIxU K) (tVar 0) (tC (.int 2))) Γ (nI x) := fun h => ev_ixL (ev_dat (ev_var h)) ev_int rfl
  have b3 : ∀ {Γ : Ev} {ns : List Int} {i x s : Int}, Γ[0]? = some (some (.tl [.list (ns.map .int), .int i, .int x, .int s])) → EvD K C (tOp (rIxU K) (tVar 0) (tC (.int 3))) Γ (nI s) := fun h => ev_ixL (ev_dat (ev_var h)) ev_int rfl
  have b0 : ∀ {Γ : Ev} {ns : List Int} {i x s : Int}, Γ[0]? = some (some (.tl [.list (ns.map .int), .int i, .int x, .int s])) → EvD K C (tOp (rIxU K) (tVar 0) (tC (.int 0))) Γ (.dat (.list (ns.map .int))) := fun h => ev_ixL (ev_dat (ev_var h)) ev_int rfl
  let G : Option Ly.Ty → Option Ly.Ty → Option Ly.Ty → Ev := fun a b c => [some (.own p), some (nI m), a, b, c]
  refine sm_seq (M := fun Γ O => ∃ ns i x s c, BagOk ns i x s ∧ Γ = G none c none ∧ O = [bagS p q ns i x s]) (sm_if (ebs_visR (i := 0) (j := 0) rfl rfl vis_bag (eb_and (eb_is (eb_test (ev_eqD (b2 rfl) ev_int rfl rfl)) (eqv_int _ _)) fun _ => eb_test (ev_ltI (b1 rfl) (ev_len (.inl (b0 rfl)))))) (fun hc => ?_) fun _ => sm_next ⟨ns, i, x, s, none, hb, rfl, rfl⟩) ?_
  · rw [Bool.and_eq_true, decide_eq_true_eq, decide_eq_true_eq] at hc
    obtain ⟨hcx, hci⟩ := hc
    rw [List.length_map] at hci
    obtain ⟨k, rfl⟩ : ∃ k : Nat, i = (k : Int) := ⟨i.toNat, by omega⟩
    have hk : k < ns.length := by omega
    obtain ⟨c, hcn⟩ : ∃ c, ns[k]? = some c := ⟨ns[k], List.getElem?_eq_getElem hk⟩
    refine sm_then (Γ' := G none (some (nI c)) none) (O' := [bagS p q ns k x s]) (sm_setS (es_visR (i := 0) (j := 0) rfl rfl vis_bag (ev_ixL (b0 rfl) (b1 rfl) (atI_nat (by rw [List.getElem?_map, hcn]; rfl))) rfl)) ?_
    refine sm_then (Γ' := G none (some (nI c)) none) (O' := [bagS p q ns ((k : Int) + 1) x s]) (sm_weak (sm_bagSet (k := 1) (.inl rfl) rfl (es_visR (i := 0) (j := 0) rfl rfl vis_bag (ev_addI (b1 rfl) ev_int) rfl)) (fun _ _ h => h) fun _ _ h => h) ?_
    refine sm_if (ebs_eb (eb_test (ev_geI (ev_var rfl) (ev_powI ev_int ev_int ⟨by decide, by decide, by decide⟩)))) (fun hge => ?_) fun _ => ?_
    · have hge := of_decide_eq_true hge
      refine sm_weak (sm_bagSet (k := 2) (n := c) (.inr (.inl rfl)) rfl (es_ev (ev_var rfl))) (fun Γ O ⟨h1, h2⟩ => ⟨ns, (k : Int) + 1, c, s, some (nI c), ⟨hl, by omega, ?_, hs0, hs1⟩, h1, h2⟩) fun _ _ h => h
      have : (0 : Int) ≤ 10 ^ (18 : Int).toNat := by decide
      omega
    · have hmod := Int.emod_nonneg (s * 40692 + c % 2147483579 * 69621 + 11) (show (2147483647 : Int) ≠ 0 by decide)
      have hmod2 := Int.emod_lt_of_pos (s * 40692 + c % 2147483579 * 69621 + 11) (show (0 : Int) < 2147483647 by decide)
      refine sm_weak (sm_bagSet (k := 3) (n := (s * 40692 + c % 2147483579 * 69621 + 11) % 2147483647) (.inr (.inr rfl)) rfl (es_visR (i := 0) (j := 0) rfl rfl vis_bag (ev_modI (ev_intI (ev_addI (ev_addI (ev_mulU (b3 rfl) ev_int (.inr (by decide))) (ev_mulU (ev_modI (ev_intI (ev_var rfl)) ev_int (by decide)) ev_int (.inr (by decide)))) ev_int)) ev_int (by decide)) rfl)) (fun Γ O ⟨h1, h2⟩ => ⟨ns, (k : Int) + 1, x, _, some (nI c), ⟨hl, by omega, hx0, hmod, hmod2⟩, h1, h2⟩) fun _ _ h => h
  clear hl hi0 hx0 hs0 hs1 hb
  rintro _ _ ⟨ns, i, x, s, c, hb, rfl, rfl⟩
  obtain ⟨hl, hi0, hx0, hs0, hs1⟩ := id hb
  refine sm_seq (M := fun Γ O => Γ = G none c none ∧ O = [bagS p q ns i x s]) (sm_if (ebs_visR (i := 0) (j := 0) rfl rfl vis_bag (eb_test (ev_gtI (b2 rfl) ev_int))) (fun hg => ?_) fun _ => sm_next ⟨rfl, rfl⟩) ?_
  · have hq0 := Int.ediv_nonneg hx0 (Int.le_of_lt hm0)
    refine sm_then (Γ' := G none c (some (nI (x % m)))) (O' := [bagS p q ns i x s]) (sm_setS (es_visR (i := 0) (j := 0) rfl rfl vis_bag (ev_modI (ev_intI (b2 rfl)) (ev_var rfl) hm0) rfl)) ?_
    refine sm_then (Γ' := G none c (some (nI (x % m)))) (O' := [bagS p q ns i (x / m) s]) (sm_weak (sm_bagSet (k := 2) (.inr (.inl rfl)) rfl (es_visR (i := 0) (j := 0) rfl rfl vis_bag (ev_divI (b2 rfl) (ev_var rfl) hdiv) rfl)) (fun _ _ h => h) fun _ _ h => h) ?_
    exact sm_ret (ev_var rfl) ⟨⟨_, rfl, Int.emod_nonneg _ (by omega), Int.emod_lt_of_pos _ hm0⟩, ns, i, x / m, s, ⟨hl, hi0, hq0, hs0, hs1⟩, rfl⟩
  rintro _ _ ⟨rfl, rfl⟩
  refine sm_then (Γ' := G (some (nI s)) c none) (O' := [bagS p q ns i x s]) (sm_setS (es_visR (i := 0) (j := 0) rfl rfl vis_bag (b3 rfl) rfl)) ?_
  have hsm : CMul s s := .inl ⟨by omega, by omega⟩
  have hmod := Int.emod_nonneg (s * s + s * 48271 + 1013904223) (show (2147483647 : Int) ≠ 0 by decide)
  have hmod2 := Int.emod_lt_of_pos (s * s + s * 48271 + 1013904223) (show (0 : Int) < 2147483647 by decide)
  obtain ⟨s2, hs2⟩ : ∃ s2, s2 = (s * s + s * 48271 + 1013904223) % 2147483647 := ⟨_, rfl⟩
  rw [← hs2] at hmod hmod2
  refine sm_then (Γ' := G (some (nI s)) c none) (O' := [bagS p q ns i x s2]) (sm_weak (sm_bagSet (k := 3) (n := s2) (.inr (.inr rfl)) rfl (es_ev (ev_is (ev_modI (ev_intI (ev_addI (ev_addI (ev_mulU (ev_var rfl) (ev_var rfl) hsm) (ev_mulU (ev_var rfl) ev_int (.inr (by decide)))) ev_int)) ev_int (by decide)) (by rw [hs2])))) (fun _ _ h => h) fun _ _ h => h) ?_
  exact sm_retS (es_visR (i := 0) (j := 0) rfl rfl vis_bag (ev_modI (ev_intI (ev_addI (ev_divI (b3 rfl) ev_int ⟨by decide, by decide⟩) (ev_mulU (ev_modI (ev_intI (b3 rfl)) ev_int (by decide)) ev_int (.inr (by decide))))) (ev_var rfl) hm0) rfl) ⟨⟨_, rfl, Int.emod_nonneg _ (by omega), Int.emod_lt_of_pos _ hm0⟩, ns, i, x, s2, ⟨hl, hi0, hx0, hmod, hmod2⟩, rfl⟩
end
end Lk
namespace Lk
open PySem PySem.Spec PyProof.Rows L2 Ly
section
variable {P : Program} {w : World} {K : PySem.W.Frag} {mg : Str → Option Value} {base : Heap} {C aL : Addr}
theorem atI_in {α : Type} {xs : List α} {n : Int} (h0 : 0 ≤ n) (h1 : n < xs.length) : ∃ a, atI xs n = some a ∧ a ∈ xs ∧ xs[n.toNat]? = some a := by
  obtain ⟨k, rfl⟩ : ∃ k : Nat, n = (k : Int) := ⟨n.toNat, by omega⟩
  have hk : k < xs.length := by omega
  have e : xs[k]? = some xs[k] := List.getElem?_eq_getElem hk
  exact ⟨xs[k], atI_nat e, List.getElem_mem hk, by rw [Int.toNat_natCast]; exact e⟩
section
variable {Γ : Ev} {O : Ow} {ta tb tr : TE} {i j : Nat} {p q : Addr} {P1 P2 : Int → Prop}
/-- pull(bag, e) -/
theorem em_pull {tn : TE} (hi : Γ[i]? = some (some (.own p))) (hj : O[j]? = some (bagR p q)) (hn : EvM K C tn Γ O (IntP P1)) (hP : ∀ n, P1 n → 0 < n ∧ n < 2 ^ 64) : EvM K C (tCall (FnB K C R_pull) [] E0 (tCons (tVar i) (tCons tn tNil))) Γ O (IntP fun k => ∃ n, P1 n ∧ 0 ≤ k ∧ k < n) :=
  em_callB hi hj (ema_evm hn) fun ts ⟨t, e, n, et, hp⟩ => by
    subst et
    subst e
    exact ⟨_, ⟨n, rfl, (hP n hp).1, (hP n hp).2, rfl⟩, fun t ⟨k, e, h1, h2⟩ => ⟨k, e, n, hp, h1, h2⟩⟩
theorem em_min2 (ha : EvM K C ta Γ O (IntP P1)) (hb : EvM K C tb Γ O (IntP P2)) : EvM K C (tCB rMin2U (tCons ta (tCons tb tNil))) Γ O (IntP fun k => ∃ n m, P1 n ∧ P2 m ∧ k = if m < n then m else n) := fun σ W e o Q q =>
  ha σ W e o _ fun t1 x W1 k1 g1 o1 a1 => hb σ W1 (e.same g1.same) o1 _ fun t2 y W2 k2 g2 o2 a2 => by
    obtain ⟨n, rfl, hn⟩ := k1
    obtain ⟨m, rfl, hm⟩ := k2
    have e1 := dp_int a1
    have e2 := dp_int a2
    subst e1 e2
    exact ⟨n, m, rfl, q _ _ W2 ⟨_, rfl, n, m, hn, hm, rfl⟩ (g1.trans g2) o2 (Dt.int _)⟩
theorem em_add (ha : EvM K C ta Γ O (IntP P1)) (hb : EvM K C tb Γ O (IntP P2)) : EvM K C (tOp (rAddU K) ta tb) Γ O (IntP fun k => ∃ n m, P1 n ∧ P2 m ∧ k = n + m) := em_op2 ha hb fun n m hn hm => ⟨nI (n + m), ⟨_, rfl, n, m, hn, hm, rfl⟩, ev_addI ev_int ev_int⟩
theorem em_sub (ha : EvM K C ta Γ O (IntP P1)) (hb : EvM K C tb Γ O (IntP P2)) : EvM K C (tOp rSubU ta tb) Γ O (IntP fun k => ∃ n m, P1 n ∧ P2 m ∧ k = n - m) := em_op2 ha hb fun n m hn hm => ⟨nI (n - m), ⟨_, rfl, n, m, hn, hm, rfl⟩, ev_subI ev_int ev_int⟩
theorem em_wk {P3 : Int → Prop} {te : TE} (h : EvM K C te Γ O (IntP P1)) (hw : ∀ n, P1 n → P3 n) : EvM K C te Γ O (IntP P3) := em_weak h fun t ⟨n, e, hp⟩ => ⟨n, e, hw n hp⟩
end
abbrev s__law_of : Stmt := topS 57
abbrev N__law_of : List Str := ["_law_bag_here", "_law_things"]
theorem sc__law_of : FnScope N__law_of ["_law_bag_here", "_law_things"] (defScope s__law_of) := ⟨rfl, rfl, rfl, by decide +kernel, rfl, by decide +kernel, by decide +kernel⟩
def R_of : List Ly.Ty → (Ly.Ty → Prop) → Prop := fun as T => ∃ l : List Int, as = [.dat (.list (l.map .int))] ∧ 0 < l.length ∧ l.length ≤ 1000 ∧ T = IntP fun n => n ∈ l
theorem ok__law_of {f : Addr} {fd : FuncData} (F : Fun K "_law_of" "_law_of" s__law_of f fd) (T : Tx K mg aL) (c__law_pull : Cal P w K mg base 1 "_law_pull" ["_law_bag_here", "_law_amount"] (FnB K C R_pull)) : FnOk P w K mg base CX0 2 f fd ["_law_bag_here", "_law_things"] (FnB K C R_of) := by
  have nd := (sc__law_of).nd
  refine ok_ofB F sc__law_of (fun as t ⟨m, e, _⟩ => by subst e; rfl) fun cdv A outer s H E hr => ?_
  refine ⟨_, (pss_one (ps_ret (pe_ix (kIx K) (pv 1) (pe_cal c__law_pull (hr.mono (by decide)) (pa_cons (pv 0) (pa_cons (pe_callB (kLen K) (by rfl) T.n_len PySem.boot_len (pa_cons (pv 1) pa_nil)) pa_nil))) (fun _ _ => rfl)))),
      ?_⟩
  rintro p q as T0 ⟨l, rfl, h0, h1, rfl⟩
  refine sm_retM (T := IntP fun n => n ∈ l) (em_ixL (.inl (ev_var rfl)) (em_pull (j := 0) rfl rfl (em_intD (ev_len (.inl (ev_var rfl)))) fun n e => by subst e; rw [List.length_map]; constructor <;> omega) fun n ⟨m, e, g0, g1⟩ => ?_) fun t ht => ⟨ht, rfl⟩
  subst e
  obtain ⟨a, e1, e2, _⟩ := atI_in g0 g1
  obtain ⟨k, hk, rfl⟩ := List.mem_map.mp e2
  exact ⟨_, e1, k, rfl, hk⟩
abbrev s__law_mixed : Stmt := topS 58
abbrev N__law_mixed : List Str := ["_law_bag_here", "_law_things", "_law_found", "_law_thing"]
theorem sc__law_mixed : FnScope N__law_mixed ["_law_bag_here", "_law_things"] (defScope s__law_mixed) := ⟨rfl, rfl, rfl, by decide +kernel, rfl, by decide +kernel, by decide +kernel⟩
def R_mixed : List Ly.Ty → (Ly.Ty → Prop) → Prop := fun as T => ∃ l : List Int, as = [.dat (.list (l.map .int))] ∧ l.length ≤ 1000 ∧ T = fun t => ∃ l' : List Int, t = .tl (l'.map .int) ∧ l'.Perm l
theorem ok__law_mixed {f : Addr} {fd : FuncData} (F : Fun K "_law_mixed" "_law_mixed" s__law_mixed f fd) (T : Tx K mg aL) (c__law_pull : Cal P w K mg base 1 "_law_pull" ["_law_bag_here", "_law_amount"] (FnB K C R_pull)) : FnOk P w K mg base CX0 2 f fd ["_law_bag_here", "_law_things"] (FnB K C R_mixed) := by
  have nd := (sc__law_mixed).nd
  refine ok_ofB F sc__law_mixed (fun as t ⟨m, e, _⟩ => by subst e; rfl) fun cdv A outer s H E hr => ?_
  refine ⟨_, (pss_cons (ps_set (i := 2) nd rfl (Or.inl rfl) (pe_lst pa_nil))
      (pss_cons (ps_for PassesOwn.never rfl (kSeq K (pv 1)) (pg_name (i := 3) nd rfl (Or.inl rfl)) (pss_one (ps_expr (pe_bm PySem.F.plainAttrs_list PySem.F.slot_list_insert PySem.F.type_list_insert mt_insertU (pv 2) (pa_cons (pe_cal c__law_pull (hr.mono (by decide)) (pa_cons (pv 0) (pa_cons (pe_op (kAdd K) (pe_callB (kLen K) (by rfl) T.n_len PySem.boot_len (pa_cons (pv 2) pa_nil)) pe_int) pa_nil))) (pa_cons (pv 3) pa_nil))))))
      (pss_one (ps_ret (pv 2))))),
      ?_⟩
  rintro p q as T0 ⟨l, rfl, h1, rfl⟩
  let L : Ly.Ty := .dat (.list (l.map .int))
  refine sm_own fun r => ?_
  let G : Nat → Ev → Ow → Prop := fun i Γ O => ∃ x l', Γ = [some (.own p), some L, some (.own r), x] ∧ O = [lstR K r ((l' : List Int).map .int), bagR p q] ∧ l'.Perm (l.take i)
  refine sm_seq (M := G l.length) (sm_forD (as := l) (ty := fun n => nI n) (iv_of_map (g := PyData.int) (ty := Ly.Ty.dat) (iv_L (ev_var rfl))) G ⟨none, [], rfl, rfl, by rw [List.take_zero]⟩ ?_ fun _ _ h => h) ?_
  · rintro i a _ _ ha ⟨x, l', rfl, rfl, hp⟩
    have hlen : l'.length ≤ 1000 := by
      rw [hp.length_eq]
      have := List.length_take_le' i l
      omega
    refine ⟨_, [3], tg_name (by decide), ?_⟩
    refine sm_weak (sm_insert (i := 2) (j := 0) (p := r) (ds := l'.map .int) (T1 := IntP fun k => ∃ n, n = (l'.length : Int) + 1 ∧ 0 ≤ k ∧ k < n) (T2 := (· = nI a)) rfl rfl (em_pull (j := 1) rfl rfl (em_intS (es_vis (i := 2) (j := 0) rfl rfl looks_lst (ev_is (ev_addI (ev_len (.inl (ev_dat (ev_var rfl)))) ev_int) (by rw [List.length_map])) rfl)) fun n e => by subst e; constructor <;> omega) (em_ev (ev_var rfl)) (fun t ⟨k, e, n, e1, g0, g1⟩ => ⟨k.toNat, by rw [Int.toNat_of_nonneg g0]; exact e, by omega⟩) (fun t e => ⟨_, e⟩) (by rw [List.length_map]; omega)) (fun Γ O ⟨g1, k, d, g2, g3, g4⟩ => ⟨some (nI a), l'.take k ++ [a] ++ l'.drop k, g1, ?_, ?_⟩) fun _ _ h => h
    · injection g3 with g3
      rw [g4, g3, List.map_append, List.map_append, List.map_take, List.map_drop]
      rfl
    · rw [List.take_add_one, ha]
      have h1 : (l'.take k ++ [a] ++ l'.drop k).Perm (a :: l') := by
        rw [List.append_assoc]
        refine List.perm_middle.trans ?_
        show (a :: (l'.take k ++ l'.drop k)).Perm _
        rw [List.take_append_drop]
      refine h1.trans ((List.Perm.cons a hp).trans ?_)
      exact (List.perm_append_singleton a _).symm
  · rintro _ _ ⟨x, l', rfl, rfl, hp⟩
    rw [List.take_length] at hp
    exact sm_frz (i := 2) rfl looks_lst rfl (sm_ret (ev_var rfl) ⟨⟨l', rfl, hp⟩, rfl⟩)
abbrev s__law_divisors : Stmt := topS 64
abbrev N__law_divisors : List Str := ["_law_bag_here", "_law_directions", "_law_at", "_law_found", "_law_left", "_law_one"]
theorem sc__law_divisors : FnScope N__law_divisors ["_law_bag_here", "_law_directions"] (defScope s__law_divisors) := ⟨rfl, rfl, rfl, by decide +kernel, rfl, by decide +kernel, by decide +kernel⟩
theorem foldl_mul : ∀ (l : List Int) (a : Int), l.foldl (· * ·) a = a * l.foldl (· * ·) 1
  | [], a => (Int.mul_one a).symm
  | x :: l, a => by
    rw [List.foldl_cons, List.foldl_cons, foldl_mul l (a * x), foldl_mul l (1 * x), Int.one_mul, Int.mul_assoc]
theorem vol_cons (a : Int) (l : List Int) : vol (a :: l) = a * vol l := by
  unfold vol
  rw [List.foldl_cons, foldl_mul, Int.one_mul]
theorem vol_perm {l l' : List Int} (h : l.Perm l') : vol l = vol l' := by
  induction h with
  | nil => rfl
  | cons x _ ih => rw [vol_cons, vol_cons, ih]
  | swap x y l => rw [vol_cons, vol_cons, vol_cons, vol_cons, ← Int.mul_assoc, ← Int.mul_assoc, Int.mul_comm x y]
  | trans _ _ h1 h2 => rw [h1, h2]
def R_divisors : List Ly.Ty → (Ly.Ty → Prop) → Prop := fun as T => ∃ n : Nat, as = [nI n] ∧ 1 ≤ n ∧ n ≤ 3 ∧ T = fun t => ∃ D, t = dI D ∧ D.length = n ∧ OkDiv D
theorem ok__law_divisors {f : Addr} {fd : FuncData} (F : Fun K "_law_divisors" "_law_divisors" s__law_divisors f fd) (T : Tx K mg aL) (c__law_pull : Cal P w K mg base 1 "_law_pull" ["_law_bag_here", "_law_amount"] (FnB K C R_pull)) (c__law_mixed : Cal P w K mg base 2 "_law_mixed" ["_law_bag_here", "_law_things"] (FnB K C R_mixed)) : FnOk P w K mg base CX0 3 f fd ["_law_bag_here", "_law_directions"] (FnB K C R_divisors) := by
  have nd := (sc__law_divisors).nd
  refine ok_ofB F sc__law_divisors (fun as t ⟨m, e, _⟩ => by subst e; rfl) fun cdv A outer s H E hr => ?_
  refine ⟨_, (pss_cons (ps_par (i := 3) (j := 4) rfl nd rfl rfl (by decide) rfl rfl (pa_cons (pe_lst pa_nil) (pa_cons pe_int pa_nil)) (by rfl))
      (pss_cons (ps_for PassesOwn.never rfl (pi_range1 (by rfl) T.n_range (pa_cons (pv 1) pa_nil)) (pg_name (i := 2) nd rfl (Or.inl rfl)) (pss_cons (ps_set (i := 5) nd rfl (Or.inl rfl) (pe_op (kAdd K) pe_int (pe_cal c__law_pull (hr.mono (by decide)) (pa_cons (pv 0) (pa_cons (pe_callB (cr_min2 rfl) (by rfl) T.n_min boot_min (pa_cons (pv 4) (pa_cons (pe_ix (kIx K) (pe_lst (pa_cons pe_int (pa_cons pe_int (pa_cons pe_int pa_nil)))) (pe_cal c__law_pull (hr.mono (by decide)) (pa_cons (pv 0) (pa_cons pe_int pa_nil))) (fun _ _ => rfl)) pa_nil))) pa_nil)))))
      (pss_cons (ps_expr (pe_bm PySem.F.plainAttrs_list PySem.F.slot_list_append PySem.F.type_list_append mt_append (pv 3) (pa_cons (pv 5) pa_nil)))
      (pss_one (ps_set (i := 4) nd rfl (Or.inl rfl) (pe_op op_fdivW (pv 4) (pv 5)))))))
      (pss_one (ps_ret (pe_callTy (kTuple K) (by rfl) T.n_tuple boot_tuple (pa_cons (pe_cal c__law_mixed (hr.mono (by decide)) (pa_cons (pv 0) (pa_cons (pv 3) pa_nil))) pa_nil)))))),
      ?_⟩
  rintro p q as T0 ⟨n, rfl, hn1, hn3, rfl⟩
  refine sm_ownPar (fun r => em_ev ev_int) fun r t ht => ?_
  subst ht
  let G : Nat → Ev → Ow → Prop := fun i Γ O => ∃ x y L l, Γ = [some (.own p), some (nI (n : Nat)), x, some (.own r), some (nI L), y] ∧ O = [lstR K r ((l : List Int).map .int), bagR p q] ∧ l.length = i ∧ 1 ≤ L ∧ L ≤ 12 ∧ (∀ d ∈ l, 0 < d ∧ d ≤ 12) ∧ vol l * L ≤ 12
  refine sm_seq (M := G n) (sm_forD (as := List.range n) (ty := fun i => nI (i : Nat)) (iv_range (ev_var rfl) (by omega)) G ⟨none, none, 12, [], rfl, rfl, rfl, by decide, by decide, fun d hd => (nomatch hd), by decide⟩ ?_ fun _ _ h => by rw [List.length_range] at h; exact h) ?_
  · rintro i a _ _ ha ⟨x, y, L, l, rfl, rfl, hl, hL1, hL12, hd, hv⟩
    have hi : i < n := by
      have := (List.getElem?_eq_some_iff.mp ha).1
      rwa [List.length_range] at this
    refine ⟨_, [2], tg_name (by decide), ?_⟩
    refine sm_seq (M := fun Γ O => ∃ d, 1 ≤ d ∧ d ≤ L ∧ Γ = [some (.own p), some (nI (n : Nat)), some (nI (a : Nat)), some (.own r), some (nI L), some (nI d)] ∧ O = [lstR K r (l.map .int), bagR p q]) (sm_weak (sm_setM (em_add (em_int (n := 1)) (em_pull (j := 1) rfl rfl (em_wk (P3 := fun n => 1 ≤ n ∧ n ≤ L) (em_min2 (em_intD (ev_var rfl)) (em_ixL (ds := [.int 4, .int 4, .int 12]) (T := IntP fun n => n = 4 ∨ n = 12) (.inl (ev_dat (ev_lst (ts := [nI 4, nI 4, nI 12]) (ea_cons ev_int (ea_cons ev_int (ea_cons ev_int ea_nil))) rfl (Nat.le_of_ble_eq_true rfl)))) (em_pull (j := 1) rfl rfl (em_int (n := 3)) fun n e => by subst e; decide) fun n ⟨m, e, g0, g1⟩ => ?_)) fun k ⟨n1, m1, e1, e2, e3⟩ => ?_) fun n hn => ?_))) (fun Γ O ⟨h1, t, ⟨k, e, n1, m1, e1, ⟨m2, e2, g0, g1⟩, e3⟩, h2⟩ => ?_) fun _ _ h => h) ?_
    · subst e
      have : n = 0 ∨ n = 1 ∨ n = 2 := by omega
      rcases this with rfl | rfl | rfl
      · exact ⟨.int 4, rfl, 4, rfl, .inl rfl⟩
      · exact ⟨.int 4, rfl, 4, rfl, .inl rfl⟩
      · exact ⟨.int 12, rfl, 12, rfl, .inr rfl⟩
    · subst e1
      rw [e3]
      split <;> omega
    · constructor <;> omega
    · subst e
      exact ⟨k, by omega, by omega, h2, h1⟩
    rintro _ _ ⟨d, hd1, hdL, rfl, rfl⟩
    refine sm_then (sm_appendS (j := 0) rfl rfl (es_ev (ev_var (i := 5) rfl)) (by rw [List.length_map, hl]; omega)) ?_
    have hq1 : 1 ≤ L / d := (Int.le_ediv_iff_mul_le (by omega)).mpr (by omega)
    have hqd : d * (L / d) ≤ L := Int.mul_ediv_self_le (by omega)
    have hvp := vol_pos fun i hi => (hd i hi).1
    refine sm_weak (sm_set (i := 4) (t := nI (L / d)) (ev_divI (ev_var rfl) (ev_var rfl) ⟨by omega, log_small (by omega) (by omega)⟩)) (fun Γ O ⟨h1, h2⟩ => ⟨_, _, L / d, l ++ [d], h1, by rw [h2, List.map_append]; rfl, by rw [List.length_append, hl]; rfl, hq1, ?_, fun z hz => ?_, ?_⟩) fun _ _ h => h
    · have : L / d ≤ d * (L / d) := by
        have h3 := Int.mul_le_mul_of_nonneg_right hd1 (by omega : 0 ≤ L / d)
        rw [Int.one_mul] at h3
        exact h3
      omega
    · rcases List.mem_append.mp hz with hz | hz
      · exact hd z hz
      · rw [List.mem_singleton] at hz
        omega
    · rw [vol_snoc, Int.mul_assoc]
      exact Int.le_trans (Int.mul_le_mul_of_nonneg_left hqd (Int.le_of_lt hvp)) hv
  · rintro _ _ ⟨x, y, L, l, rfl, rfl, hl, hL1, hL12, hd, hv⟩
    refine sm_frz (i := 3) rfl looks_lst rfl ?_
    refine sm_retM (T := fun t => ∃ D, t = dI D ∧ D.length = n ∧ OkDiv D) (fun σ W e o Q k => ?_) fun t ht => ⟨ht, rfl⟩
    refine em_callB (i := 0) (j := 0) (T := fun t => ∃ l' : List Int, t = .tl (l'.map .int) ∧ l'.Perm l) rfl rfl (ema_ev (ev_dat (ev_var rfl))) (fun ts e => ?_) σ W e o _ fun t v W1 hT g1 o1 a1 => ?_
    · subst e
      exact ⟨_, ⟨l, rfl, by omega, rfl⟩, fun t h => h⟩
    · obtain ⟨l', rfl, hp⟩ := hT
      obtain ⟨pp, xs, rfl, hx, hdd⟩ := a1
      have hvp := vol_pos fun i hi => (hd i hi).1
      refine ⟨pp, xs, rfl, .inl ⟨SqL.of (W1.sub _ _ hx), fun z hz => k _ _ (W1.new z _) ⟨l', rfl, by rw [hp.length_eq, hl], ⟨by rw [hp.length_eq]; omega, by rw [hp.length_eq]; omega, fun d hd' => hd d (hp.mem_iff.mp hd'), ?_⟩⟩ (g1.trans (leS_new hz).go) (o1.le (leS_new hz)) (Dt.new upd_same (dpAll_le (leS_new hz) hdd))⟩⟩
      rw [vol_perm hp]
      have h3 := Int.mul_le_mul_of_nonneg_left hL1 (Int.le_of_lt hvp)
      omega
end
end Lk
namespace Lk
open PySem PySem.Spec PyProof.Rows L2 Ly
section
variable {P : Program} {w : World} {K : PySem.W.Frag} {mg : Str → Option Value} {base : Heap} {C aL : Addr}
theorem each2_ints {α : Type} {Q : Int → Prop} : ∀ {as : List α} {ds : List PyData}, Each2 (fun _ d => ∃ k, d = .int k ∧ Q k) as ds → ∃ l : List Int, ds = l.map .int ∧ l.length = as.length ∧ ∀ k ∈ l, Q k
  | _, _, .nil => ⟨[], rfl, rfl, fun k h => nomatch h⟩
  | _, _, .cons ⟨k, e, h⟩ t => by
    obtain ⟨l, e1, e2, e3⟩ := each2_ints t
    subst e
    refine ⟨k :: l, by rw [e1]; rfl, by rw [List.length_cons, e2]; rfl, fun x hx0 => ?_⟩
    rcases List.mem_cons.mp hx0 with rfl | hx0
    · exact h
    · exact e3 x hx0
section
variable {Γ : Ev} {O : Ow} {te : TE} {T T' : Ly.Ty → Prop}
/-- tuple([..]) -/
theorem em_tupTl (h : EvM K C te Γ O T') (hT : ∀ t, T' t → ∃ ds, t = .tl ds ∧ T (.dat (.tuple ds))) : EvM K C (tCB (rTupU K) (tCons te tNil)) Γ O T := fun σ W e o Q k => h σ W e o _ fun t v W1 hk g1 o1 a1 => by
  obtain ⟨ds, rfl, hd⟩ := hT t hk
  obtain ⟨pp, xs, rfl, hx0, hdd⟩ := a1
  exact ⟨pp, xs, rfl, .inl ⟨SqL.of (W1.sub _ _ hx0), fun z hz => k _ _ (W1.new z _) hd (g1.trans (leS_new hz).go) (o1.le (leS_new hz)) (Dt.new upd_same (dpAll_le (leS_new hz) hdd))⟩⟩
theorem em_mapI {wi : TI} {i n : Nat} {vs : List Nat} {Q : Int → Prop} (hw : IvD K C wi Γ (List.range n) (fun i => nI (i : Nat))) (hz : n ≤ 100000) (hi : i ∈ vs) (h : ∀ (a : Nat) r, EvM K C te ((wipeG Γ vs).set i (some (nI (a : Nat)))) (r :: O) (IntP Q)) :
    EvM K C (tLc wi (gName i) tYes te vs) Γ O (fun t => ∃ l : List Int, t = .tl (l.map .int) ∧ l.length = n ∧ ∀ k ∈ l, Q k) :=
  em_weak (em_map (P := fun _ d => ∃ k, d = .int k ∧ Q k) hw (by rw [List.length_range]; exact hz) fun a _ => ⟨_, tg_name hi, fun r => em_weak (h a r) fun t ⟨k, e, q⟩ => ⟨.int k, e, k, rfl, q⟩⟩) fun t ⟨ds, e, he⟩ => by
    obtain ⟨l, e1, e2, e3⟩ := each2_ints he
    exact ⟨l, by rw [e, e1], by rw [e2, List.length_range], e3⟩
end
theorem ivm_range {Γ : Ev} {O : Ow} {te : TE} {P : Int → Prop} {A : List Nat → Prop} (h : EvM K C te Γ O (IntP P)) (hP : ∀ k, P k → 0 ≤ k ∧ k ≤ 100000) (hA : ∀ m : Nat, P m → A (List.range m)) : IvM K C (iRng1 (tCons te tNil)) Γ O A (fun (i : Nat) => nI (i : Nat)) := fun σ W e o R r => h σ W e o _ fun t v W1 hk g1 o1 a1 => by
  obtain ⟨k, rfl, hp⟩ := hk
  have hb := hP k hp
  obtain ⟨m, rfl⟩ : ∃ m : Nat, k = (m : Int) := ⟨k.toNat, by omega⟩
  have e1 := dp_int a1
  subst e1
  exact iv_range (K := K) (C := C) (Γ := Γ) (te := tC (.int (m : Int))) (n := m) ev_int (by omega) σ W1 (e.same g1.same) R fun J W2 s2 it => r J _ W2 (hA m hp) (g1.trans s2.go) (o1.le s2) it
abbrev s__law_box : Stmt := topS 69
abbrev N__law_box : List Str := ["_law_bag_here", "_law_directions", "_law_at"]
theorem sc__law_box : FnScope N__law_box ["_law_bag_here", "_law_directions"] (defScope s__law_box) := ⟨rfl, rfl, rfl, by decide +kernel, rfl, by decide +kernel, by decide +kernel⟩
def R_box : List Ly.Ty → (Ly.Ty → Prop) → Prop := fun as T => ∃ n : Nat, as = [nI n] ∧ 1 ≤ n ∧ n ≤ 3 ∧ T = fun t => ∃ b, t = dI b ∧ OkBox n b
theorem box_vol {n : Nat} {b : List Int} {m : Int} (hn : 1 ≤ n ∧ n ≤ 3) (hl : b.length = n) (hb : ∀ i ∈ b, 0 ≤ i ∧ i < m) (hm : n = 1 ∧ m = 13 ∨ n = 2 ∧ m = 7 ∨ n = 3 ∧ m = 5) : OkBox n b := by
  refine ⟨hl, fun i hi => ?_, ?_⟩
  · have := hb i hi
    omega
  · have key : ∀ (l : List Int), (∀ i ∈ l, 0 ≤ i ∧ i < m) → 0 ≤ vol l ∧ vol l ≤ m ^ l.length := fun l => by
      induction l with
      | nil => intro _; exact ⟨by decide, by simp [vol]⟩
      | cons a l ih =>
        intro h
        obtain ⟨h1, h2⟩ := ih fun i hi => h i (List.mem_cons_of_mem _ hi)
        have h3 := h a List.mem_cons_self
        rw [vol_cons, List.length_cons, Int.pow_succ, Int.mul_comm]
        exact ⟨Int.mul_nonneg h1 h3.1, Int.mul_le_mul h2 (by omega) h3.1 (Int.le_trans h1 h2)⟩
    have h4 := (key b hb).2
    rw [hl] at h4
    rcases hm with ⟨rfl, rfl⟩ | ⟨rfl, rfl⟩ | ⟨rfl, rfl⟩
    · exact Int.le_trans h4 (by decide)
    · exact Int.le_trans h4 (by decide)
    · exact Int.le_trans h4 (by decide)
theorem ok__law_box {f : Addr} {fd : FuncData} (F : Fun K "_law_box" "_law_box" s__law_box f fd) (T : Tx K mg aL) (c__law_pull : Cal P w K mg base 1 "_law_pull" ["_law_bag_here", "_law_amount"] (FnB K C R_pull)) : FnOk P w K mg base CX0 2 f fd ["_law_bag_here", "_law_directions"] (FnB K C R_box) := by
  have nd := (sc__law_box).nd
  refine ok_ofB F sc__law_box (fun as t ⟨m, e, _⟩ => by subst e; rfl) fun cdv A outer s H E hr => ?_
  refine ⟨_, (pss_one (ps_ret (pe_callTy (kTuple K) (by rfl) T.n_tuple boot_tuple (pa_cons (pe_lc (own := [("_law_at", 2)]) (g := gName 2) (tt := tYes) rfl nd (pi_range1 (by rfl) T.n_range (pa_cons (pv 1) pa_nil)) (blkOk_by (N := N__law_box) (sc := defScope s__law_box) (by decide +kernel)) (fun _ _ _ _ _ => (pg_name (i := 2) nd rfl (Or.inl rfl))) (fun _ _ _ _ _ => pts_nil) (fun _ _ _ _ _ => (pe_cal c__law_pull (hr.mono (by decide)) (pa_cons (pv 0) (pa_cons (pe_ix (kIx K) (pe_lst (pa_cons pe_int (pa_cons pe_int (pa_cons pe_int pa_nil)))) (pe_op op_sub (pv 1) pe_int) (fun _ _ => rfl)) pa_nil))))) pa_nil)))),
      ?_⟩
  rintro p q as T0 ⟨n, rfl, hn1, hn3, rfl⟩
  obtain ⟨m, hm, hm2⟩ : ∃ m : Int, (n = 1 ∧ m = 13 ∨ n = 2 ∧ m = 7 ∨ n = 3 ∧ m = 5) ∧ atI [PyData.int 13, .int 7, .int 5] ((n : Nat) - 1 : Int) = some (.int m) := by
    have : n = 1 ∨ n = 2 ∨ n = 3 := by omega
    rcases this with rfl | rfl | rfl
    · exact ⟨13, .inl ⟨rfl, rfl⟩, rfl⟩
    · exact ⟨7, .inr (.inl ⟨rfl, rfl⟩), rfl⟩
    · exact ⟨5, .inr (.inr ⟨rfl, rfl⟩), rfl⟩
  refine sm_retM (T := fun t => ∃ b, t = dI b ∧ OkBox n b) (em_tupTl (em_mapI (n := n) (Q := fun k => ∃ x, x = m ∧ 0 ≤ k ∧ k < x) (iv_range (ev_var rfl) (by omega)) (by omega) (by decide) fun a r => em_pull (j := 1) rfl rfl (em_intD (n := m) (ev_ixL (ds := [.int 13, .int 7, .int 5]) (ev_dat (ev_lst (ts := [nI 13, nI 7, nI 5]) (ea_cons ev_int (ea_cons ev_int (ea_cons ev_int ea_nil))) rfl (Nat.le_of_ble_eq_true rfl))) (ev_subI (ev_var rfl) ev_int) hm2)) fun x e => by subst e; omega) fun t ⟨l, e, hl, hk⟩ => ⟨_, e, l, rfl, box_vol ⟨hn1, hn3⟩ hl (fun i hi => by obtain ⟨x, e, h1, h2⟩ := hk i hi; omega) hm⟩) fun t ht => ⟨ht, rfl⟩
abbrev s__law_looks : Stmt := topS 70
abbrev N__law_looks : List Str := ["_law_bag_here", "_law_directions", "_law_k", "_law_found", "_law_size", "_law_look", "_law_at"]
theorem sc__law_looks : FnScope N__law_looks ["_law_bag_here", "_law_directions"] (defScope s__law_looks) := ⟨rfl, rfl, rfl, by decide +kernel, rfl, by decide +kernel, by decide +kernel⟩
def R_looks : List Ly.Ty → (Ly.Ty → Prop) → Prop := fun as T => ∃ n : Nat, as = [nI n] ∧ 1 ≤ n ∧ n ≤ 3 ∧ T = fun t => ∃ ls, t = .tl (ls.map pI) ∧ OkLooks n ls
theorem ok__law_looks {f : Addr} {fd : FuncData} (F : Fun K "_law_looks" "_law_looks" s__law_looks f fd) (T : Tx K mg aL) (c__law_pull : Cal P w K mg base 1 "_law_pull" ["_law_bag_here", "_law_amount"] (FnB K C R_pull)) (c__law_of : Cal P w K mg base 2 "_law_of" ["_law_bag_here", "_law_things"] (FnB K C R_of)) : FnOk P w K mg base CX0 3 f fd ["_law_bag_here", "_law_directions"] (FnB K C R_looks) := by
  have nd := (sc__law_looks).nd
  refine ok_ofB F sc__law_looks (fun as t ⟨m, e, _⟩ => by subst e; rfl) fun cdv A outer s H E hr => ?_
  refine ⟨_, (pss_cons (ps_asg (pe_tup (pa_cons (pe_lst pa_nil) (pa_cons (pe_cal c__law_of (hr.mono (by decide)) (pa_cons (pv 0) (pa_cons (pe_lst (pa_cons pe_int (pa_cons pe_int (pa_cons pe_int (pa_cons pe_int (pa_cons pe_int pa_nil)))))) pa_nil))) pa_nil))) (kPair K rfl (pgs_cons (pg_name (i := 3) nd rfl (Or.inl rfl)) (pgs_cons (pg_name (i := 4) nd rfl (Or.inr rfl)) pgs_nil))))
      (pss_cons (ps_for PassesOwn.never rfl (pi_range1 (by rfl) T.n_range (pa_cons (pe_op (kAdd K) pe_int (pe_cal c__law_pull (hr.mono (by decide)) (pa_cons (pv 0) (pa_cons pe_int pa_nil)))) pa_nil)) (pg_name (i := 2) nd rfl (Or.inl rfl)) (pss_cons (ps_set (i := 5) nd rfl (Or.inl rfl) (pe_callTy (kTuple K) (by rfl) T.n_tuple boot_tuple (pa_cons (pe_lc (own := [("_law_at", 6)]) (g := gName 6) (tt := tYes) rfl nd (pi_range1 (by rfl) T.n_range (pa_cons (pv 1) pa_nil)) (blkOk_by (N := N__law_looks) (sc := defScope s__law_looks) (by decide +kernel)) (fun _ _ _ _ _ => (pg_name (i := 6) nd rfl (Or.inl rfl))) (fun _ _ _ _ _ => pts_nil) (fun _ _ _ _ _ => (pe_op op_sub (pe_cal c__law_pull (hr.mono (by decide)) (pa_cons (pv 0) (pa_cons (pe_op (kAdd K) (pe_op (kMul K) pe_int (pv 4)) pe_int) pa_nil))) (pv 4)))) pa_nil)))
      (pss_one (ps_if (PW.pt (pw_and (pt_cmpR (kNe K hr.units) (pv 5) (pe_op (kMul K) (pe_tup (pa_cons pe_int pa_nil)) (pv 1)) (nomark _)) (pw_and1 (pt_cmpR (kNotIn K (hu65 hr)) (pv 5) (pv 3) (by rfl))))) (pss_one (ps_expr (pe_bm PySem.F.plainAttrs_list PySem.F.slot_list_append PySem.F.type_list_append mt_append (pv 3) (pa_cons (pv 5) pa_nil)))) pss_nil))))
      (pss_one (ps_ret (pe_ifExp (pt_cmpR (kNe K hr.units) (pv 3) (pe_lst pa_nil) (nomark _)) (pv 3) (pe_lst (pa_cons (pe_op (kAdd K) (pe_tup (pa_cons pe_int pa_nil)) (pe_op (kMul K) (pe_tup (pa_cons pe_int pa_nil)) (pe_op op_sub (pv 1) pe_int))) pa_nil))))))),
      ?_⟩
  rintro p q as T0 ⟨n, rfl, hn1, hn3, rfl⟩
  refine sm_ownTup (T := IntP fun k => k = 2 ∨ k = 8) (fun r => em_callB (j := 1) rfl rfl (ema_ev (ev_dat (ev_lst (ts := [nI 2, nI 2, nI 2, nI 2, nI 8]) (ea_cons ev_int (ea_cons ev_int (ea_cons ev_int (ea_cons ev_int (ea_cons ev_int ea_nil))))) rfl (Nat.le_of_ble_eq_true rfl)))) fun ts e => ?_) fun r t ht => ?_
  · subst e
    refine ⟨_, ⟨[2, 2, 2, 2, 8], rfl, by decide, by decide, rfl⟩, fun t ⟨k, e, hk⟩ => ⟨k, e, ?_⟩⟩
    simp at hk
    exact hk
  obtain ⟨sz, rfl, hsz⟩ := ht
  let G : List Nat → Nat → Ev → Ow → Prop := fun _ i Γ O => ∃ x y z ls, Γ = [some (.own p), some (nI (n : Nat)), x, some (.own r), some (nI sz), y, z] ∧ O = [lstR K r ((ls : List (List Int)).map pI), bagR p q] ∧ ls.length ≤ i ∧ (∀ l ∈ ls, okLook n l) ∧ ls.Nodup
  refine sm_seq (M := fun Γ O => ∃ x y z ls, Γ = [some (.own p), some (nI (n : Nat)), x, some (.own r), some (nI sz), y, z] ∧ O = [lstR K r ((ls : List (List Int)).map pI), bagR p q] ∧ ls.length ≤ 4 ∧ (∀ l ∈ ls, okLook n l) ∧ ls.Nodup) (sm_for (A := fun as => ∃ m : Nat, m ≤ 4 ∧ as = List.range m) (ty := fun i => nI (i : Nat)) (ivm_range (P := fun k => 1 ≤ k ∧ k ≤ 4) (em_wk (em_add (em_int (n := 1)) (em_pull (j := 1) rfl rfl (em_int (n := 4)) fun n e => by subst e; decide)) fun k ⟨n1, m1, e1, ⟨m2, e2, g0, g1⟩, e3⟩ => by omega) (fun k hk => by omega) fun m hm => ⟨m, by omega, rfl⟩) G (fun as _ => ⟨none, none, none, [], rfl, rfl, Nat.le_refl _, fun l h => (nomatch h), .nil⟩) ?_ ?_) ?_
  · rintro as i a _ _ ⟨m, hm, rfl⟩ ha ⟨x, y, z, ls, rfl, rfl, hl, hok, hnd⟩
    have hi : i < m := by
      have := (List.getElem?_eq_some_iff.mp ha).1
      rwa [List.length_range] at this
    refine ⟨_, [2], tg_name (by decide), ?_⟩
    refine sm_seq (M := fun Γ O => ∃ l : List Int, l.length = n ∧ (∀ k ∈ l, -9 ≤ k ∧ k ≤ 9) ∧ Γ = [some (.own p), some (nI (n : Nat)), some (nI (a : Nat)), some (.own r), some (nI sz), some (dI l), z] ∧ O = [lstR K r (ls.map pI), bagR p q]) (sm_weak (sm_setM (T := fun t => ∃ l : List Int, t = dI l ∧ l.length = n ∧ ∀ k ∈ l, -9 ≤ k ∧ k ≤ 9) (em_tupTl (em_mapI (n := n) (Q := fun k => -9 ≤ k ∧ k ≤ 9) (iv_range (ev_var rfl) (by omega)) (by omega) (by decide) fun a r => em_wk (em_sub (em_pull (j := 2) rfl rfl (em_intD (n := 2 * sz + 1) (ev_addI (ev_mulU ev_int (ev_var rfl) (.inl (by decide))) ev_int)) fun x e => by subst e; omega) (em_intD (ev_var rfl))) fun k ⟨n1, m1, ⟨m2, e2, g0, g1⟩, e1, e3⟩ => by subst e1 e2; omega) fun t ⟨l, e, h1, h2⟩ => ⟨_, e, l, rfl, h1, h2⟩)) (fun Γ O ⟨h1, t, ⟨l, e, h2, h3⟩, h4⟩ => by subst e; exact ⟨l, h2, h3, h4, h1⟩) fun _ _ h => h) ?_
    rintro _ _ ⟨l, hl1, hl2, rfl, rfl⟩
    refine sm_if (b := !decide (l = List.replicate n 0) && !decide (l ∈ ls)) (ebs_vis (i := 3) (j := 0) rfl rfl looks_lst (eb_and (eb_is (eb_test (ev_neD (ev_var (i := 5) rfl) (ev_rep1 (d := .int 0) (n := n) (ev_tup (ts := [nI 0]) (ea_cons ev_int ea_nil) rfl (Nat.le_of_ble_eq_true rfl)) (ev_var (i := 1) rfl) (by omega)) (shaped_pI _) (by rw [rep0_pI]; exact shaped_pI _))) (by rw [rep0_pI, eqv_pI])) fun _ => eb_is (eb_test (ev_in (neg := true) (ev_var (i := 5) rfl) (.inl (ev_dat (ev_var (i := 3) rfl))) (shaped_pI _) (shaped_cells _))) (by rw [if_pos rfl, any_cells]))) (fun hc => ?_) fun _ => sm_next ⟨_, _, _, ls, rfl, rfl, by omega, hok, hnd⟩
    rw [Bool.and_eq_true, Bool.not_eq_true', Bool.not_eq_true', decide_eq_false_iff_not, decide_eq_false_iff_not] at hc
    refine sm_weak (sm_appendS (j := 0) rfl rfl (es_ev (ev_var (i := 5) rfl)) (by rw [List.length_map]; omega)) (fun Γ O ⟨h1, h2⟩ => ⟨_, _, _, ls ++ [l], h1, by rw [h2, List.map_append]; rfl, by rw [List.length_append, List.length_singleton]; omega, fun x hx0 => ?_, ?_⟩) fun _ _ h => h
    · rcases List.mem_append.mp hx0 with hx0 | hx0
      · exact hok x hx0
      · obtain rfl := List.mem_singleton.mp hx0
        exact ⟨hl1, hc.1, hl2⟩
    · refine List.nodup_append.mpr ⟨hnd, by simp, fun x hx0 y hy e => ?_⟩
      obtain rfl := List.mem_singleton.mp hy
      subst e
      exact hc.2 hx0
  · rintro as Γ O ⟨m, hm, rfl⟩ ⟨x, y, z, ls, h1, h2, hl, hok, hnd⟩
    rw [List.length_range] at hl
    exact ⟨x, y, z, ls, h1, h2, by omega, hok, hnd⟩
  · rintro _ _ ⟨x, y, z, ls, rfl, rfl, hl, hok, hnd⟩
    refine sm_frz (i := 3) rfl looks_lst rfl ?_
    have ok1 : okLook n (1 :: List.replicate (n - 1) 0) := by
      refine ⟨by rw [List.length_cons, List.length_replicate]; omega, fun e => ?_, fun i hi => ?_⟩
      · obtain ⟨m, rfl⟩ : ∃ m, n = m + 1 := ⟨n - 1, by omega⟩
        rw [List.replicate_succ] at e
        injection e with e _
        exact absurd e (by decide)
      · rcases List.mem_cons.mp hi with rfl | hi
        · decide
        · rw [List.eq_of_mem_replicate hi]
          decide
    refine sm_ret (t := .tl ((if ls = [] then [1 :: List.replicate (n - 1) 0] else ls).map pI)) (ev_if (b := !decide (ls.map pI = [])) (eb_is (eb_test (ev_neD (ev_dat (ev_var (i := 3) rfl)) (ev_dat (ev_lst ea_nil rfl (Nat.zero_le _))) (shaped_cells ls) rfl)) ?_) (fun hc => ?_) fun hc => ?_) ⟨⟨_, rfl, ?_⟩, rfl⟩
    · cases ls with
      | nil => rfl
      | cons a r => rfl
    · cases ls with
      | nil => cases hc
      | cons a r => exact ev_var rfl
    · cases ls with
      | nil =>
        rw [if_pos rfl]
        refine ev_lst (ts := [dI (1 :: List.replicate (n - 1) 0)]) (ea_cons (ev_is (ev_catT (ev_tup (ts := [nI 1]) (ea_cons ev_int ea_nil) rfl (Nat.le_of_ble_eq_true rfl)) (ev_rep1 (d := .int 0) (n := n - 1) (ev_tup (ts := [nI 0]) (ea_cons ev_int ea_nil) rfl (Nat.le_of_ble_eq_true rfl)) (ev_is (ev_subI (ev_var (i := 1) rfl) ev_int) (by rw [show ((n : Nat) : Int) - 1 = ((n - 1 : Nat) : Int) by omega])) (by omega)) (by rw [List.length_replicate]; show 1 + (n - 1) ≤ 100000; omega)) ?_) ea_nil) rfl (Nat.le_of_ble_eq_true rfl)
        show Ly.Ty.dat (.tuple (PyData.int 1 :: List.replicate (n - 1) (.int 0))) = .dat (.tuple ((1 :: List.replicate (n - 1) 0).map .int))
        rw [List.map_cons, List.map_replicate]
      | cons a r => cases hc
    · by_cases h0 : ls = []
      · rw [if_pos h0]
        exact ⟨fun l hl => by rw [List.mem_singleton] at hl; subst hl; exact ok1, by simp, Nat.le_refl 1, (show 1 ≤ 4 by decide)⟩
      · rw [if_neg h0]
        exact ⟨hok, hnd, List.length_pos_iff.mpr h0, hl⟩
end
end Lk
namespace Lk
open PySem PySem.Spec PyProof.Rows L2 Ly
section
variable {P : Program} {w : World} {K : PySem.W.Frag} {mg : Str → Option Value} {base : Heap} {C aL : Addr}
abbrev s__law_parts : Stmt := topS 65
abbrev N__law_parts : List Str := ["_law_bag_here", "_law_many", "_law_most", "_law_marks", "_law_found", "_law_number", "_law_mark", "_law_part"]
theorem sc__law_parts : FnScope N__law_parts ["_law_bag_here", "_law_many", "_law_most"] (defScope s__law_parts) := ⟨rfl, rfl, rfl, by decide +kernel, rfl, by decide +kernel, by decide +kernel⟩
def marksAt (ms : List Int) (k : Int) : List Int := (rgI ms.length).filter fun i => decide (ms.getD i.toNat 0 = k)
def partsOf (ms : List Int) : List (List Int) := (([1, 4, 0, 3, 2] : List Int).map (marksAt ms)).filter fun g => !decide (g = [])
def R_parts : List Ly.Ty → (Ly.Ty → Prop) → Prop := fun as T => ∃ m k : Nat, as = [nI m, nI k] ∧ 1 ≤ m ∧ m ≤ 1000 ∧ 1 ≤ k ∧ k ≤ 5 ∧ T = fun t => ∃ gs, t = .tl (gs.map pI) ∧ Parts m gs ∧ gs.length ≤ 5
theorem mem_marks {ms : List Int} {k i : Int} : i ∈ marksAt ms k ↔ 0 ≤ i ∧ i < ms.length ∧ ms.getD i.toNat 0 = k := by
  unfold marksAt
  rw [List.mem_filter, mem_rgI, decide_eq_true_eq, and_assoc]
theorem parts_ok {ms : List Int} (h1 : 1 ≤ ms.length) (h : ∀ x ∈ ms, 0 ≤ x ∧ x < 5) : Parts ms.length (partsOf ms) := by
  have nd : (rgI ms.length).Nodup := by
    unfold rgI
    exact List.Pairwise.map _ (fun a b h e => h (by omega)) List.nodup_range
  have mem : ∀ i : Int, i ∈ (partsOf ms).flatten ↔ 0 ≤ i ∧ i < ms.length := fun i => by
    unfold partsOf
    rw [List.mem_flatten]
    constructor
    · rintro ⟨g, hg, hi⟩
      obtain ⟨hg, _⟩ := List.mem_filter.mp hg
      obtain ⟨k, _, rfl⟩ := List.mem_map.mp hg
      have := mem_marks.mp hi
      exact ⟨this.1, this.2.1⟩
    · rintro ⟨h2, h3⟩
      have hlt : i.toNat < ms.length := by omega
      have e : ms.getD i.toNat 0 = ms[i.toNat] := by rw [List.getD_eq_getElem?_getD, List.getElem?_eq_getElem hlt]; rfl
      have hx := h _ (List.getElem_mem hlt)
      have hi : i ∈ marksAt ms ms[i.toNat] := mem_marks.mpr ⟨h2, h3, e⟩
      refine ⟨marksAt ms ms[i.toNat], List.mem_filter.mpr ⟨List.mem_map.mpr ⟨_, ?_, rfl⟩, ?_⟩, hi⟩
      · simp
        omega
      · rw [decide_eq_false (fun z => by rw [z] at hi; cases hi)]
        rfl
  refine ⟨fun e => ?_, fun g hg => ?_, ?_⟩
  · have := (mem 0).mpr ⟨by omega, by omega⟩
    rw [e] at this
    cases this
  · unfold partsOf at hg
    obtain ⟨hg, hn⟩ := List.mem_filter.mp hg
    obtain ⟨k, _, rfl⟩ := List.mem_map.mp hg
    refine ⟨fun e => (by rw [e] at hn; cases hn), ?_⟩
    unfold marksAt
    exact (rgI_sorted ms.length).sublist List.filter_sublist
  · refine (List.perm_ext_iff_of_nodup ?_ nd).mpr fun i => ?_
    · refine List.pairwise_flatten.mpr ⟨fun g hg => ?_, ?_⟩
      · unfold partsOf at hg
        obtain ⟨hg, _⟩ := List.mem_filter.mp hg
        obtain ⟨k, _, rfl⟩ := List.mem_map.mp hg
        unfold marksAt
        exact nd.filter _
      · unfold partsOf
        refine List.Pairwise.sublist List.filter_sublist (List.pairwise_map.mpr ?_)
        refine List.Pairwise.imp (R := fun a b : Int => a ≠ b) (fun {a b} hab x hx y hy e => ?_) (by decide)
        subst e
        exact hab ((mem_marks.mp hx).2.2.symm.trans (mem_marks.mp hy).2.2)
    · rw [mem i, ← mem_rgI]
theorem ok__law_parts {f : Addr} {fd : FuncData} (F : Fun K "_law_parts" "_law_parts" s__law_parts f fd) (T : Tx K mg aL) (c__law_pull : Cal P w K mg base 1 "_law_pull" ["_law_bag_here", "_law_amount"] (FnB K C R_pull)) : FnOk P w K mg base CX0 2 f fd ["_law_bag_here", "_law_many", "_law_most"] (FnB K C R_parts) := by
  have nd := (sc__law_parts).nd
  refine ok_ofB F sc__law_parts (fun as t ⟨m, k, e, _⟩ => by subst e; rfl) fun cdv A outer s H E hr => ?_
  refine ⟨_, (pss_cons (ps_set (i := 3) nd rfl (Or.inr rfl) (pe_lc (own := [("_law_number", 5)]) (g := gName 5) (tt := tYes) rfl nd (pi_range1 (by rfl) T.n_range (pa_cons (pv 1) pa_nil)) (blkOk_by (N := N__law_parts) (sc := defScope s__law_parts) (by decide +kernel)) (fun _ _ _ _ _ => (pg_name (i := 5) nd rfl (Or.inl rfl))) (fun _ _ _ _ _ => pts_nil) (fun _ _ _ _ _ => (pe_cal c__law_pull (hr.mono (by decide)) (pa_cons (pv 0) (pa_cons (pv 2) pa_nil))))))
      (pss_cons (ps_setLc (i := 4) (own := [("_law_mark", 6)]) (g := gName 6) (tt := tYes) rfl nd rfl rfl (sw_true rfl rfl rfl (by decide +kernel)) (kSeq K (pe_lst (pa_cons pe_int (pa_cons pe_int (pa_cons pe_int (pa_cons pe_int (pa_cons pe_int pa_nil))))))) (blkOk_by (N := N__law_parts) (sc := defScope s__law_parts) (by decide +kernel)) (fun _ _ _ _ _ => (pg_name (i := 6) nd rfl (Or.inr rfl))) (fun _ _ _ _ _ => pts_nil) (fun _ _ _ _ _ => (pe_callTy (kTuple K) (by rfl) T.n_tuple boot_tuple (pa_cons (pe_lc (own := [("_law_number", 5)]) (g := gName 5) rfl nd (pi_range1 (by rfl) T.n_range (pa_cons (pv 1) pa_nil)) (blkOk_by (N := N__law_parts) (sc := relS { kind := .function, names := [(".0", .local), ("_law_mark", .cell), ("tuple", .globalImplicit), ("range", .globalImplicit), ("_law_many", .free), ("_law_marks", .free)], isGenerator := false, isCoroutine := false } (defScope s__law_parts)) (by decide +kernel)) (fun _ _ _ _ _ => (pg_name (i := 5) nd rfl (Or.inl rfl))) (fun _ _ _ _ _ => (pts_one (pt_cmpR (kEq K hr.units) (pe_ix (kIx K) (pv 3) (pv 5) (fun _ _ => rfl)) (pv 6) (nomark _)))) (fun _ _ _ _ _ => (pv 5))) pa_nil))))
      (pss_one (ps_ret (pe_lc (own := [("_law_part", 7)]) (g := gName 7) rfl nd (kSeq K (pv 4)) (blkOk_by (N := N__law_parts) (sc := defScope s__law_parts) (by decide +kernel)) (fun _ _ _ _ _ => (pg_name (i := 7) nd rfl (Or.inl rfl))) (fun _ _ _ _ _ => (pts_one (pt_cmpR (kNe K hr.units) (pv 7) (pe_tup pa_nil) (nomark _)))) (fun _ _ _ _ _ => (pv 7))))))),
      ?_⟩
  rintro p q as T0 ⟨m, k, rfl, hm1, hm, hk1, hk, rfl⟩
  refine sm_seq (M := fun Γ O => ∃ ms : List Int, ms.length = m ∧ (∀ x ∈ ms, 0 ≤ x ∧ x < 5) ∧ Γ = [some (.own p), some (nI m), some (nI k), some (.tl (ms.map .int)), none, none, none, none] ∧ O = [bagR p q]) (sm_weak (sm_setM (em_mapI (n := m) (Q := fun x => ∃ y : Int, y = k ∧ 0 ≤ x ∧ x < y) (iv_range (ev_var rfl) (by omega)) (by omega) (by decide) fun a r => em_pull (j := 1) rfl rfl (em_intD (n := (k : Int)) (ev_var rfl)) fun x e => by subst e; constructor <;> omega)) (fun Γ O ⟨h1, t, ⟨ms, e, hl, hx⟩, h2⟩ => by subst e; exact ⟨ms, hl, fun x hx' => by obtain ⟨y, e, h3, h4⟩ := hx x hx'; omega, h2, h1⟩) fun _ _ h => h) ?_
  rintro _ _ ⟨ms, hml, hmx, rfl, rfl⟩
  have five : EvD K C (tLst (tCons (tC (.int 1)) (tCons (tC (.int 4)) (tCons (tC (.int 0)) (tCons (tC (.int 3)) (tCons (tC (.int 2)) tNil)))))) [some (.own p), some (nI m), some (nI k), some (.tl (ms.map .int)), none, none, none, none] (.tl (([1, 4, 0, 3, 2] : List Int).map .int)) := ev_lst (ts := [nI 1, nI 4, nI 0, nI 3, nI 2]) (ea_cons ev_int (ea_cons ev_int (ea_cons ev_int (ea_cons ev_int (ea_cons ev_int ea_nil))))) rfl (Nat.le_of_ble_eq_true rfl)
  refine sm_then (Γ' := [some (.own p), some (nI m), some (nI k), some (.tl (ms.map .int)), some (.tl ((([1, 4, 0, 3, 2] : List Int).map (marksAt ms)).map pI)), none, none, none]) (O' := [bagR p q]) (sm_set (ev_is (ev_mapN0 (as := ([1, 4, 0, 3, 2] : List Int)) (ty := fun n => nI n) (f := fun n => pI (marksAt ms n)) (iv_of_map (g := PyData.int) (ty := Ly.Ty.dat) (iv_L (ev_dat five))) (by decide) (by decide) fun n hn => ?_) (by rw [List.map_map]; rfl))) ?_
  · refine ev_is (ev_tupTl (ev_lcN0 (as := List.range m) (ty := fun i => nI (i : Nat)) (p := fun i => decide (ms.getD i 0 = n)) (f := fun i => .int (i : Nat)) (iv_range (ev_var rfl) (by omega)) (by rw [List.length_range]; omega) (by decide) fun i hi => ⟨?_, fun _ => ev_var rfl⟩)) ?_
    · have hlt : i < ms.length := by rw [hml]; exact List.mem_range.mp hi
      refine eb_is (eb_test (ev_eqD (ev_ixL (ds := ms.map .int) (i := (i : Int)) (d := .int (ms.getD i 0)) (ev_dat (ev_var (i := 3) rfl)) (ev_var (i := 5) rfl) (atI_nat ?_)) (ev_var (i := 6) rfl) rfl rfl)) (eqv_int _ _)
      rw [List.getElem?_map, List.getD_eq_getElem?_getD, List.getElem?_eq_getElem hlt]
      rfl
    · unfold marksAt rgI pI
      rw [List.filter_map, List.map_map, hml]
      rfl
  refine sm_ret (ev_lcN0 (as := ([1, 4, 0, 3, 2] : List Int).map (marksAt ms)) (ty := fun g => dI g) (p := fun g => !decide (g = [])) (f := pI) (iv_of_map (g := pI) (ty := Ly.Ty.dat) (iv_L (ev_dat (ev_var rfl)))) (by rw [List.length_map]; decide) (by decide) fun g hg => ⟨?_, fun _ => ev_var rfl⟩) ⟨⟨partsOf ms, rfl, ?_, ?_⟩, rfl⟩
  · exact eb_is (eb_test (ev_neD (ev_var (i := 7) rfl) (ev_tup ea_nil rfl (Nat.zero_le _)) (shaped_pI _) rfl)) (by rw [show PyData.tuple (unD []) = pI [] from rfl, eqv_pI])
  · rw [← hml]
    exact parts_ok (by omega) hmx
  · unfold partsOf
    refine Nat.le_trans (List.length_filter_le _ _) ?_
    rw [List.length_map]
    decide
end
end Lk
namespace Lk
open PySem PySem.Spec PyProof.Rows L2 Ly
section
variable {P : Program} {w : World} {K : PySem.W.Frag} {mg : Str → Option Value} {base : Heap} {C aL : Addr}
theorem fn_neverB {f : Addr} {fd : FuncData} {ps : List Str} {k : Nat} : FnOk P w K mg base CX0 k f fd ps (FnB K C fun _ _ => False) := ⟨fun vs H Q E ⟨_, _, _, _, _, _, _, _, _, _, h, _⟩ => h.elim, fun A outer s H args us vs Q E _ _ _ _ ⟨_, _, _, _, _, _, _, _, _, _, h, _⟩ => h.elim⟩
section
variable {Γ : Ev} {O : Ow} {te tf : TE} {ta : TA} {tt : TT} {T T' : Ly.Ty → Prop} {A : List Ly.Ty → Prop}
theorem em_tup (h : EvMA K C ta Γ O A) (hA : ∀ ts, A ts → allD ts = true ∧ ts.length ≤ 100000 ∧ T (.dat (.tuple (unD ts)))) : EvM K C (tTup ta) Γ O T := fun σ W e o Q q => h σ W e o _ fun ts vs W1 k g1 o1 a => by
  obtain ⟨h1, h2, h3⟩ := hA ts k
  exact ⟨by rw [atAll_len a]; exact Nat.le_trans h2 (by decide), fun p hp0 => q _ _ (W1.new p _) h3 (g1.trans (leS_new hp0).go) (o1.le (leS_new hp0)) (Dt.new upd_same (dpAll_le (leS_new hp0) (atAll_dat h1 a)))⟩
theorem em_if {b : Bool} (h : EvB K C tt Γ b) (h1 : b = true → EvM K C te Γ O T) (h2 : b = false → EvM K C tf Γ O T) : EvM K C (tIf tt te tf) Γ O T := fun σ W e o Q q => h σ W e _ fun W1 s1 => by
  cases b with
  | true =>
    show te σ W1.H Q
    exact h1 rfl σ W1 (e.le s1) (o.le s1) Q fun t v W2 k g2 o2 a => q t v W2 k (s1.go.trans g2) o2 a
  | false =>
    show tf σ W1.H Q
    exact h2 rfl σ W1 (e.le s1) (o.le s1) Q fun t v W2 k g2 o2 a => q t v W2 k (s1.go.trans g2) o2 a
theorem em_mapG {α : Type} {wi : TI} {i : Nat} {vs : List Nat} {as : List α} {ty : α → Ly.Ty} {Q : Int → Prop} (hw : IvD K C wi Γ as ty) (hz : as.length ≤ 100000) (hi : i ∈ vs) (h : ∀ (a : α) r, EvM K C te ((wipeG Γ vs).set i (some (ty a))) (r :: O) (IntP Q)) :
    EvM K C (tLc wi (gName i) tYes te vs) Γ O (fun t => ∃ l : List Int, t = .tl (l.map .int) ∧ l.length = as.length ∧ ∀ k ∈ l, Q k) :=
  em_weak (em_map (P := fun _ d => ∃ k, d = .int k ∧ Q k) hw hz fun a _ => ⟨_, tg_name hi, fun r => em_weak (h a r) fun t ⟨k, e, q⟩ => ⟨.int k, e, k, rfl, q⟩⟩) fun t ⟨ds, e, he⟩ => by
    obtain ⟨l, e1, e2, e3⟩ := each2_ints he
    exact ⟨l, by rw [e, e1], e2, e3⟩
end
theorem each2_tr {Q : Tr → Prop} : ∀ {gs : List (List Int)} {ds : List PyData}, Each2 (fun g d => ∃ u : Tr, d = .tuple [pI g, u.toD] ∧ Q u) gs ds → ∃ ps : List (List Int × Tr), ds = toDs ps ∧ ps.map (·.1) = gs ∧ ∀ p ∈ ps, Q p.2
  | _, _, .nil => ⟨[], rfl, rfl, fun p h => nomatch h⟩
  | g :: _, _, .cons ⟨u, e, h⟩ t => by
    obtain ⟨ps, e1, e2, e3⟩ := each2_tr t
    subst e
    refine ⟨(g, u) :: ps, by rw [e1]; rfl, by rw [List.map_cons, e2], fun p hp0 => ?_⟩
    rcases List.mem_cons.mp hp0 with rfl | hp0
    · exact h
    · exact e3 p hp0
abbrev s__law_tree : Stmt := topS 66
abbrev N__law_tree : List Str := ["_law_bag_here", "_law_divisors_here", "_law_depth", "_law_size", "_law_row", "_law_heights", "_law_many", "_law_pick", "_law_parts_here", "_law_one", "_law_number", "_law_part"]
theorem sc__law_tree : FnScope N__law_tree ["_law_bag_here", "_law_divisors_here", "_law_depth"] (defScope s__law_tree) := ⟨rfl, rfl, rfl, by decide +kernel, rfl, by decide +kernel, by decide +kernel⟩
def R_ltree (h : Nat) : List Ly.Ty → (Ly.Ty → Prop) → Prop := fun as T => ∃ D, as = [dI D, nI (h : Nat)] ∧ OkDiv D ∧ T = fun t => ∃ u : Tr, t = .dat u.toD ∧ Wf D.length (vol D).toNat h u
theorem ok__law_tree {f : Addr} {fd : FuncData} (F : Fun K "_law_tree" "_law_tree" s__law_tree f fd) (T : Tx K mg aL) (hf : mg "_law_tree" = some (.ref f)) (hk : PySem.W.keepIn K (.ref f) = true) (hb : Binds K fd ["_law_bag_here", "_law_divisors_here", "_law_depth"] [])
    (c__law_pull : Cal P w K mg base 1 "_law_pull" ["_law_bag_here", "_law_amount"] (FnB K C R_pull)) (c__law_of : Cal P w K mg base 2 "_law_of" ["_law_bag_here", "_law_things"] (FnB K C R_of)) (c__law_parts : Cal P w K mg base 2 "_law_parts" ["_law_bag_here", "_law_many", "_law_most"] (FnB K C R_parts)) (c__law_count : Cal P w K mg base 1 "_law_count" ["_law_divisors_here"] (FnD K C R__law_count)) :
    ∀ h : Nat, FnOk P w K mg base CX0 (3 + h) f fd ["_law_bag_here", "_law_divisors_here", "_law_depth"] (FnB K C (R_ltree h)) := by
  have nd := (sc__law_tree).nd
  -- the body, whatever the inner call may promise
  have body : ∀ (h k : Nat) (R' : List Ly.Ty → (Ly.Ty → Prop) → Prop), 2 ≤ k → (∀ h', h = h' + 1 → R' = R_ltree h') → Cal P w K mg base k "_law_tree" ["_law_bag_here", "_law_divisors_here", "_law_depth"] (FnB K C R') → FnOk P w K mg base CX0 (k + 1) f fd ["_law_bag_here", "_law_divisors_here", "_law_depth"] (FnB K C (R_ltree h)) := by
    intro h k R' hk2 hR c__law_tree
    refine ok_ofB F sc__law_tree (fun as t ⟨D, e, _⟩ => by subst e; rfl) fun cdv A outer s H E hr => ?_
    refine ⟨_, (pss_cons (ps_par (i := 6) (j := 7) rfl nd rfl rfl (by decide) rfl rfl (pa_cons (pe_cal c__law_count (hr.mono (by first | decide | omega | (simp only [Nat.add_eq]; omega))) (pa_cons (pv 1) pa_nil)) (pa_cons (pe_cal c__law_pull (hr.mono (by first | decide | omega | (simp only [Nat.add_eq]; omega))) (pa_cons (pv 0) (pa_cons pe_int pa_nil))) pa_nil)) (by rfl))
        (pss_cons (ps_if (PW.pt (pw_or (pt_cmpR (kEq K hr.units) (pv 2) pe_int (nomark _)) (pw_or1 (pt_cmpR (kEq K hr.units) (pv 7) pe_int (nomark _))))) (pss_one (ps_ret (pe_tup (pa_cons pe_str pa_nil)))) pss_nil)
        (pss_cons (ps_if (pt_cmpR (kEq K hr.units) (pv 7) pe_int (nomark _)) (pss_cons (ps_set (i := 8) nd rfl (Or.inl rfl) (pe_cal c__law_parts (hr.mono (by first | decide | omega | (simp only [Nat.add_eq]; omega))) (pa_cons (pv 0) (pa_cons (pv 6) (pa_cons (pe_ifExp (pt_cmpR (kEq K hr.units) (pv 2) pe_int (nomark _)) pe_int pe_int) pa_nil)))))
        (pss_one (ps_ret (pe_tup (pa_cons pe_str (pa_cons (pe_callTy (kTuple K) (by rfl) T.n_tuple boot_tuple (pa_cons (pe_lc (own := [("_law_part", 11)]) (g := gName 11) (tt := tYes) rfl nd (kSeq K (pv 8)) (blkOk_by (N := N__law_tree) (sc := defScope s__law_tree) (by decide +kernel)) (fun _ _ _ _ _ => (pg_name (i := 11) nd rfl (Or.inl rfl))) (fun _ _ _ _ _ => pts_nil) (fun _ _ _ _ _ => (pe_tup (pa_cons (pv 11) (pa_cons (pe_cal c__law_tree (hr.mono (by first | decide | omega | (simp only [Nat.add_eq]; omega))) (pa_cons (pv 0) (pa_cons (pv 1) (pa_cons (pe_op op_sub (pv 2) pe_int) pa_nil)))) pa_nil))))) pa_nil)) pa_nil)))))) pss_nil)
        (pss_cons (ps_set (i := 3) nd rfl (Or.inr rfl) (pe_cal c__law_of (hr.mono (by first | decide | omega | (simp only [Nat.add_eq]; omega))) (pa_cons (pv 0) (pa_cons (pe_lst (pa_cons pe_int (pa_cons pe_int (pa_cons pe_int (pa_cons (pe_op op_pow pe_int pe_int) pa_nil))))) pa_nil))))
        (pss_cons (ps_set (i := 4) nd rfl (Or.inl rfl) (pe_callTy (kTuple K) (by rfl) T.n_tuple boot_tuple (pa_cons (pe_lc (own := [("_law_one", 9)]) (g := gName 9) (tt := tYes) rfl nd (kSeq K (pv 1)) (blkOk_by (N := N__law_tree) (sc := defScope s__law_tree) (by decide +kernel)) (fun _ _ _ _ _ => (pg_name (i := 9) nd rfl (Or.inl rfl))) (fun _ _ _ _ _ => pts_nil) (fun _ _ _ _ _ => (pe_op op_sub (pe_cal c__law_pull (hr.mono (by first | decide | omega | (simp only [Nat.add_eq]; omega))) (pa_cons (pv 0) (pa_cons (pe_op (kAdd K) (pe_op (kMul K) pe_int (pv 3)) pe_int) pa_nil))) (pv 3)))) pa_nil)))
        (pss_cons (ps_set (i := 5) nd rfl (Or.inl rfl) (pe_callTy (kTuple K) (by rfl) T.n_tuple boot_tuple (pa_cons (pe_lc (own := [("_law_number", 10)]) (g := gName 10) (tt := tYes) rfl nd (pi_range1 (by rfl) T.n_range (pa_cons (pv 6) pa_nil)) (blkOk_by (N := N__law_tree) (sc := defScope s__law_tree) (by decide +kernel)) (fun _ _ _ _ _ => (pg_name (i := 10) nd rfl (Or.inl rfl))) (fun _ _ _ _ _ => pts_nil) (fun _ _ _ _ _ => (pe_ifExp (pt_cmpR (kLt K hr.units0) (pv 3) pe_int (nomark _)) (pe_op op_sub (pe_cal c__law_pull (hr.mono (by first | decide | omega | (simp only [Nat.add_eq]; omega))) (pa_cons (pv 0) (pa_cons pe_int pa_nil))) pe_int) (pe_op op_sub (pe_cal c__law_pull (hr.mono (by first | decide | omega | (simp only [Nat.add_eq]; omega))) (pa_cons (pv 0) (pa_cons (pe_op (kMul K) pe_int (pv 3)) pa_nil))) (pe_op (kMul K) pe_int (pv 3)))))) pa_nil)))
        (pss_one (ps_ret (pe_tup (pa_cons pe_str (pa_cons (pv 4) (pa_cons (pv 5) (pa_cons (pe_cal c__law_tree (hr.mono (by first | decide | omega | (simp only [Nat.add_eq]; omega))) (pa_cons (pv 0) (pa_cons (pv 1) (pa_cons (pe_op op_sub (pv 2) pe_int) pa_nil)))) pa_nil))))))))))))),
        ?_⟩
    rintro p q as T0 ⟨D, rfl, okD, rfl⟩
    have hvp := vol_pos fun i hi => (okD.each i hi).1
    have hvol := okD.vol
    have hD3 := okD.most
    have hv0 : ((vol D).toNat : Int) = vol D := Int.toNat_of_nonneg (by omega)
    let G : Option Ly.Ty → Option Ly.Ty → Option Ly.Ty → Int → Option Ly.Ty → Ev := fun a b c k d => [some (.own p), some (dI D), some (nI (h : Nat)), a, b, c, some (nI (vol D)), some (nI k), d, none, none, none]
    refine sm_seq (M := fun Γ O => ∃ k : Int, 0 ≤ k ∧ k < 4 ∧ Γ = G none none none k none ∧ O = [bagR p q]) (sm_weak (sm_parM (em_intD (ev_call (ea_cons (ev_var rfl) ea_nil) ⟨D, rfl, okD.small, rfl⟩)) (em_pull (j := 0) rfl rfl (em_int (n := 4)) fun n e => by subst e; decide)) (fun Γ O ⟨h1, t1, t2, ⟨n1, e1, h2⟩, ⟨n2, e2, m2, h3, h4, h5⟩, h6⟩ => by subst e1 h2 e2 h3; exact ⟨n2, h4, h5, h6, h1⟩) fun _ _ h => h) ?_
    rintro _ _ ⟨k1, hk0, hk4, rfl, rfl⟩
    refine sm_seq (M := fun Γ O => (∃ h', h = h' + 1) ∧ Γ = G none none none k1 none ∧ O = [bagR p q]) (sm_if (b := decide ((h : Int) = 0) || decide (k1 = 0)) (ebs_eb (eb_or (eb_is (eb_test (ev_eqD (ev_var rfl) ev_int rfl rfl)) (eqv_int _ _)) fun _ => eb_is (eb_test (ev_eqD (ev_var rfl) ev_int rfl rfl)) (eqv_int _ _))) (fun _ => sm_ret (ev_tup (ts := [.dat (.str "places")]) (ea_cons ev_str ea_nil) rfl (Nat.le_of_ble_eq_true rfl)) ⟨⟨.leaf, rfl, .leaf⟩, rfl⟩) fun hb => sm_next ⟨?_, rfl, rfl⟩) ?_
    · rw [Bool.or_eq_false_iff, decide_eq_false_iff_not] at hb
      exact ⟨h - 1, by omega⟩
    rintro _ _ ⟨⟨h', rfl⟩, rfl, rfl⟩
    have hRe := hR h' rfl
    subst hRe
    -- the inner call
    have inner : ∀ (O : Ow) (j : Nat) (Γ : Ev), O[j]? = some (bagR p q) → Γ[0]? = some (some (.own p)) → Γ[1]? = some (some (dI D)) → Γ[2]? = some (some (nI ((h' + 1 : Nat) : Int))) → EvM K C (tCall (FnB K C (R_ltree h')) [] E0 (tCons (tVar 0) (tCons (tVar 1) (tCons (tOp rSubU (tVar 2) (tC (.int 1))) tNil)))) Γ O (fun t => ∃ u : Tr, t = .dat u.toD ∧ Wf D.length (vol D).toNat h' u) := fun O j Γ hj e0 e1 e2 =>
      em_callB e0 hj (ema_ea (ea_cons (ev_var e1) (ea_cons (ev_is (ev_subI (ev_var e2) ev_int) (t' := nI (h' : Nat)) (by rw [show (((h' + 1 : Nat) : Int) - 1) = (h' : Nat) by omega])) ea_nil))) fun ts e => by
        subst e
        exact ⟨_, ⟨D, rfl, okD, rfl⟩, fun t h => h⟩
    refine sm_seq (M := fun Γ O => Γ = G none none none k1 none ∧ O = [bagR p q]) (sm_if (b := decide (k1 = 3)) (ebs_eb (eb_is (eb_test (ev_eqD (ev_var (i := 7) rfl) ev_int rfl rfl)) (eqv_int _ _))) (fun _ => ?_) fun _ => sm_next ⟨rfl, rfl⟩) ?_
    · refine sm_seq (M := fun Γ O => ∃ gs, Parts (vol D).toNat gs ∧ gs.length ≤ 5 ∧ Γ = G none none none k1 (some (.tl (gs.map pI))) ∧ O = [bagR p q]) (sm_weak (sm_setM (T := fun t => ∃ gs, t = .tl (gs.map pI) ∧ Parts (vol D).toNat gs ∧ gs.length ≤ 5) (em_callB (j := 0) rfl rfl (ema_ea (ea_cons (ev_var (i := 6) rfl) (ea_cons (ev_if (b := decide (((h' + 1 : Nat) : Int) = 1)) (t := nI ((if h' = 0 then 5 else 3 : Nat) : Int)) (eb_is (eb_test (ev_eqD (ev_var (i := 2) rfl) ev_int rfl rfl)) (eqv_int _ _)) (fun hb => ev_is ev_int ?_) fun hb => ev_is ev_int ?_) ea_nil))) fun ts e => ?_)) (fun Γ O ⟨h1, t, ⟨gs, e, h2, h3⟩, h4⟩ => by subst e; exact ⟨gs, h2, h3, h4, h1⟩) fun _ _ h => h) ?_
      · have := of_decide_eq_true hb
        rw [if_pos (by omega)]
        rfl
      · have := of_decide_eq_false hb
        rw [if_neg (by omega)]
        rfl
      · subst e
        refine ⟨_, ⟨(vol D).toNat, if h' = 0 then 5 else 3, by rw [hv0], by omega, by omega, ?_, ?_, rfl⟩, fun t h => h⟩ <;> split <;> omega
      rintro _ _ ⟨gs, hgs, hg5, rfl, rfl⟩
      refine sm_retM (T := fun t => ∃ u : Tr, t = .dat u.toD ∧ Wf D.length (vol D).toNat (h' + 1) u) (em_tup (ema_cons (em_ev ev_str) (ema_evm (em_tupTl (T := fun t => ∃ ps : List (List Int × Tr), t = .dat (.tuple (toDs ps)) ∧ ps.map (·.1) = gs ∧ ∀ p ∈ ps, Wf D.length (vol D).toNat h' p.2) (em_map (as := gs) (ty := fun g => dI g) (P := fun g d => ∃ u : Tr, d = .tuple [pI g, u.toD] ∧ Wf D.length (vol D).toNat h' u) (iv_of_map (g := pI) (ty := Ly.Ty.dat) (iv_L (ev_dat (ev_var rfl)))) (by omega) fun g _ => ⟨_, tg_name (by decide), fun r => em_tup (A := fun ts => ∃ a r', ts = a :: r' ∧ a = dI g ∧ ∃ t, r' = [t] ∧ ∃ u : Tr, t = .dat u.toD ∧ Wf D.length (vol D).toNat h' u) (ema_cons (em_ev (ev_var rfl)) (ema_evm (inner _ 1 _ rfl rfl rfl rfl))) fun ts ⟨a, r', e, e1, t, e2, u, e3, hu⟩ => by subst e e1 e2 e3; exact ⟨rfl, Nat.le_of_ble_eq_true rfl, _, rfl, u, rfl, hu⟩⟩) fun t ⟨ds, e, he⟩ => by
          obtain ⟨ps, e1, e2, e3⟩ := each2_tr he
          exact ⟨ds, e, ps, by rw [e1], e2, e3⟩))) fun ts ⟨a, r', e, e1, t, e2, ps, e3, h1, h2⟩ => by
        subst e e1 e2 e3
        refine ⟨rfl, Nat.le_of_ble_eq_true rfl, .fork ps, rfl, .fork (by rw [h1]; exact hgs) ?_ h2⟩
        rw [← h1, List.length_map] at hg5
        exact hg5) fun t ht => ⟨ht, rfl⟩
    rintro _ _ ⟨rfl, rfl⟩
    refine sm_seq (M := fun Γ O => ∃ sz : Int, 3 ≤ sz ∧ sz ≤ 1000000000 ∧ Γ = G (some (nI sz)) none none k1 none ∧ O = [bagR p q]) (sm_weak (sm_setM (T := IntP fun n => 3 ≤ n ∧ n ≤ 1000000000) (em_callB (j := 0) rfl rfl (ema_ev (ev_dat (ev_lst (ts := [nI 3, nI 3, nI 9, nI (10 ^ (9 : Int).toNat)]) (ea_cons ev_int (ea_cons ev_int (ea_cons ev_int (ea_cons (ev_powI ev_int ev_int ⟨by decide, by decide, by decide⟩) ea_nil)))) rfl (Nat.le_of_ble_eq_true rfl)))) fun ts e => ?_)) (fun Γ O ⟨h1, t, ⟨n, e, h2, h3⟩, h4⟩ => by subst e; exact ⟨n, h2, h3, h4, h1⟩) fun _ _ h => h) ?_
    · subst e
      refine ⟨_, ⟨[3, 3, 9, 10 ^ (9 : Int).toNat], rfl, by decide, by decide, rfl⟩, fun t ⟨n, e, hn⟩ => ⟨n, e, ?_⟩⟩
      have e9 : (10 : Int) ^ (9 : Int).toNat = 1000000000 := by decide
      rw [e9] at hn
      simp at hn
      omega
    rintro _ _ ⟨sz, hs3, hs9, rfl, rfl⟩
    refine sm_seq (M := fun Γ O => ∃ row : List Int, row.length = D.length ∧ Lk.small row ∧ Γ = G (some (nI sz)) (some (dI row)) none k1 none ∧ O = [bagR p q]) (sm_weak (sm_setM (T := fun t => ∃ row : List Int, t = dI row ∧ row.length = D.length ∧ Lk.small row) (em_tupTl (em_mapG (as := D) (ty := fun d => nI d) (Q := fun k => -(2 ^ 64) < k ∧ k < 2 ^ 64) (iv_I (ev_var rfl)) (by omega) (by decide) fun a r => em_wk (em_sub (em_pull (j := 1) rfl rfl (em_intD (n := 2 * sz + 1) (ev_addI (ev_mulU ev_int (ev_var rfl) (.inl (by decide))) ev_int)) fun x e => by subst e; omega) (em_intD (ev_var rfl))) fun k ⟨n1, m1, ⟨m2, e2, g0, g1⟩, e1, e3⟩ => by subst e1 e2; omega) fun t ⟨l, e, h1, h2⟩ => ⟨_, e, l, rfl, h1, h2⟩)) (fun Γ O ⟨h1, t, ⟨l, e, h2, h3⟩, h4⟩ => by subst e; exact ⟨l, h2, h3, h4, h1⟩) fun _ _ h => h) ?_
    rintro _ _ ⟨row, hr1, hr2, rfl, rfl⟩
    refine sm_seq (M := fun Γ O => ∃ hs : List Int, hs.length = (vol D).toNat ∧ Lk.small hs ∧ Γ = G (some (nI sz)) (some (dI row)) (some (dI hs)) k1 none ∧ O = [bagR p q]) (sm_weak (sm_setM (T := fun t => ∃ hs : List Int, t = dI hs ∧ hs.length = (vol D).toNat ∧ Lk.small hs) (em_tupTl (em_mapI (n := (vol D).toNat) (Q := fun k => -(2 ^ 64) < k ∧ k < 2 ^ 64) (iv_range (ev_is (ev_var (i := 6) rfl) (by rw [hv0])) (by omega)) (by omega) (by decide) fun a r => em_if (b := decide (sz < 9)) (eb_test (ev_ltI (ev_var rfl) ev_int)) (fun _ => em_wk (em_sub (em_pull (j := 1) rfl rfl (em_int (n := 9)) fun x e => by subst e; decide) (em_int (n := 4))) fun k ⟨n1, m1, ⟨m2, e2, g0, g1⟩, e1, e3⟩ => by subst e1 e2; omega) fun _ => em_wk (em_sub (em_pull (j := 1) rfl rfl (em_intD (n := 4 * sz) (ev_mulU ev_int (ev_var rfl) (.inl (by decide)))) fun x e => by subst e; omega) (em_intD (n := 2 * sz) (ev_mulU ev_int (ev_var rfl) (.inl (by decide))))) fun k ⟨n1, m1, ⟨m2, e2, g0, g1⟩, e1, e3⟩ => by subst e1 e2; omega) fun t ⟨l, e, h1, h2⟩ => ⟨_, e, l, rfl, h1, h2⟩)) (fun Γ O ⟨h1, t, ⟨l, e, h2, h3⟩, h4⟩ => by subst e; exact ⟨l, h2, h3, h4, h1⟩) fun _ _ h => h) ?_
    rintro _ _ ⟨hs, hh1, hh2, rfl, rfl⟩
    refine sm_retM (T := fun t => ∃ u : Tr, t = .dat u.toD ∧ Wf D.length (vol D).toNat (h' + 1) u) (em_tup (ema_cons (em_ev ev_str) (ema_cons (em_ev (ev_var (i := 4) rfl)) (ema_cons (em_ev (ev_var (i := 5) rfl)) (ema_evm (inner _ 0 _ rfl rfl rfl rfl))))) fun ts ⟨a, r', e, e1, b, r2, e2, e3, c, r3, e4, e5, t, e6, u, e7, hu⟩ => by
      subst e e1 e2 e3 e4 e5 e6 e7
      exact ⟨rfl, Nat.le_of_ble_eq_true rfl, .key row hs u, rfl, .key hr1 hh1 hr2 hh2 hu⟩) fun t ht => ⟨ht, rfl⟩
  intro h
  induction h with
  | zero => exact body 0 2 _ (Nat.le_refl _) (fun h' e => nomatch e) ⟨f, fd, hf, hk, hb, fn_neverB⟩
  | succ h ih => exact body (h + 1) (3 + h) _ (by omega) (fun h' e => by cases e; rfl) ⟨f, fd, hf, hk, hb, ih⟩
end
end Lk
namespace Ly
open PySem PySem.Spec
open PyProof.Rows L2
section
variable (K : PySem.W.Frag) (C : Addr)
/-- a def that makes a bag for its caller -/
def FnG (R : List Ty → Prop) : Sp := fun vs H Q _ => ∃ (W : Wd) (ts : List Ty), W.H = H ∧ AtAll K C W.F vs ts ∧ R ts ∧ ∀ p q W', Go [] W [bagR p q] W' → Own [bagR p q] W' → Q (.ref p) W'.H
end
section
variable {K : PySem.W.Frag} {C : Addr} {Γ : Ev} {O : Ow} {te ts : TE} {N : Ev → Ow → Prop} {R : Ty → Ow → Prop} {w : TS}
theorem sm_bodyG {Ns : List Str} {tb : TS} {Rl : List Ty → Prop} {vs : List V} {H : Hp} {Q : VK} {E : XK} (h : FnG K C Rl vs H Q E) (hb : ∀ as, Rl as → SM K C tb (startG Ns.length as) [] (fun _ _ => False) (fun t O' => ∃ p q, t = .own p ∧ O' = [bagR p q])) : tb { nx := fun _ H' => Q .non H', rt := Q } (L2.start Ns vs) H := by
  obtain ⟨W, as, rfl, a, hr, k⟩ := h
  refine hb as hr _ _ W (en_start a) (Own.nil W) (fun _ _ _ W' z _ _ _ => z.elim) fun t O' v W' z g o' b => ?_
  obtain ⟨p, q, rfl, rfl⟩ := z
  have b : v = .ref p := b
  subst b
  exact k p q W' g o'
/-- return [list(..), 0, 0, s] -/
theorem sm_retBag {ns : List Int} {s : Int} (h : EvD K C te Γ (.tl (ns.map .int))) (hs : EvD K C ts Γ (.dat (.int s))) (hn : ns.length ≤ 63) (h0 : 0 ≤ s) (h1 : s < 2147483647) (hr : ∀ p q, R (.own p) [bagR p q]) :
    SM K C (tRet (tLst (tCons (tCB (rListU K) (tCons te tNil)) (tCons (tC (.int 0)) (tCons (tC (.int 0)) (tCons ts tNil)))))) Γ [] N R := fun D σ W e o n r => by
  refine h σ W e _ fun v W1 s1 a => ?_
  obtain ⟨p0, xs, rfl, hx, hd⟩ := a
  have hxi := dpAll_ints hd
  subst hxi
  refine ⟨p0, _, rfl, .inl (SqL.of (W1.sub _ _ hx)), fun q hq => ?_⟩
  refine hs σ (W1.own q (.lst (ns.map V.int)) (wd_none hq)) (show En K C W1.F σ Γ from e.le s1) _ fun v W2 s2 b => ?_
  have hv := dp_int b
  subst hv
  refine ⟨by show 4 ≤ sizeLine; decide, fun p hp => ?_⟩
  have hq2 : W2.H q = some (.lst (ns.map V.int)) := s2.all _ _ upd_same
  have hqp : q ≠ p := fun z => by rw [z, hp] at hq2; cases hq2
  have sq := own_S (o := .lst (ns.map V.int)) hq
  have sp := own_S (o := .lst (bagL q 0 0 s)) hp
  have s03 : LeS W (W2.own p (.lst (bagL q 0 0 s)) (wd_none hp)) := ((s1.trans sq).trans s2).trans sp
  have hqF : W2.F q = none := leS_nf s2 (show W1.F q = none from wd_none hq) upd_same (fun _ z => nomatch z)
  have hp0 : W.H p = none := by
    cases z : W.H p with
    | none => rfl
    | some ob =>
      have := ((s1.trans sq).trans s2).all _ _ z
      rw [hp] at this
      cases this
  have hq0 : W.H q = none := by
    cases z : W.H q with
    | none => rfl
    | some ob =>
      have := s1.all _ _ z
      rw [hq] at this
      cases this
  have g := s03.go (O := [])
  refine r (.own p) [bagR p q] (.ref p) (W2.own p (.lst (bagL q 0 0 s)) (wd_none hp)) (hr p q) ⟨g.same, g.dom, g.nw, g.rest, fun a d => ?_⟩ ⟨fun x hx => ?_, fun a ⟨x, hx, ha0⟩ => ?_, List.pairwise_singleton _ _⟩ rfl
  · obtain ⟨x, hx, ha0⟩ := d
    obtain rfl := List.mem_singleton.mp hx
    rcases List.mem_cons.mp ha0 with rfl | ha0
    · exact .inr hp0
    · obtain rfl := List.mem_singleton.mp ha0
      exact .inr hq0
  · obtain rfl := List.mem_singleton.mp hx
    refine ⟨ns, 0, 0, s, ⟨hn, by decide, by decide, h0, h1⟩, hqp, ?_, upd_same⟩
    show L2.upd W2.H p _ q = _
    rw [upd_ne hqp]
    exact hq2
  · obtain rfl := List.mem_singleton.mp hx
    show W2.F a = none
    rcases List.mem_cons.mp ha0 with rfl | ha0
    · exact wd_none hp
    · obtain rfl := List.mem_singleton.mp ha0
      exact hqF
/-- bag = _law_bag(..) -/
theorem sm_callBag {i : Nat} {Rl : List Ty → Prop} {E : XK} {tr : TA} {as : List Ty} (h : EvA K C tr Γ as) (hr : Rl as) (hs : ∀ p q, SM K C w (Γ.set i (some (.own p))) [bagR p q] N R) : SM K C (tSeq (tAsg (tCall (FnG K C Rl) [] E tr) (gName i)) w) Γ [] N R := fun D σ W e o n r => h σ W e _ fun vs W1 s1 a => by
  refine ⟨W1, as, rfl, by rw [List.append_nil]; exact a, hr, fun p q W2 g2 o2 => ?_⟩
  have g := s1.go.trans g2
  exact hs p q D _ W2 ((e.same g.same).set (t := .own p) rfl) o2 (fun Γ2 O2 σ2 W2 k g' e2 o2 => n Γ2 O2 σ2 W2 k (g.trans g') e2 o2) fun t O2 v W2 k g' o2 a => r t O2 v W2 k (g.trans g') o2 a
end
end Ly
namespace Lk
open PySem PySem.Spec PyProof.Rows L2 Ly
section
variable {P : Program} {w : World} {K : PySem.W.Frag} {mg : Str → Option Value} {base : Heap} {C aL : Addr}
theorem ok_ofG {x qual : Str} {st : Stmt} {f : Addr} {fd : FuncData} {N ps : List Str} {k : Nat} {R : List Ly.Ty → Prop} (F : Fun K x qual st f fd) (S : FnScope N ps (defScope st)) (hl : ∀ as, R as → as.length = ps.length)
    (hb : ∀ (cdv : Value) (A : Around) (outer : List Env) (s : Shared) (H : Hp) (E : XK), Room k (A.deeper (envOfC qual (defScope st) s.heap.objs.size f cdv)) →
      ∃ t, PSs (cxOf CX0 P w K mg base N qual (defScope st) f cdv A outer s H E).nox (defBody st) t ∧ ∀ as, R as → SM K C t (startG N.length as) [] (fun _ _ => False) (fun t' O' => ∃ p q, t' = .own p ∧ O' = [bagR p q])) : FnOk P w K mg base CX0 (k + 1) f fd ps (FnG K C R) := by
  refine F.ok S (fun vs H Q E h => ?_) (fun cdv A outer s H vs Q E hr h => ?_)
  · obtain ⟨_, ts, _, a, hr, _⟩ := h
    rw [atAll_len a]
    exact hl ts hr
  · obtain ⟨t, h1, h2⟩ := hb cdv A outer s H E hr
    exact ⟨t, h1, sm_bodyG h h2⟩
abbrev s__law_small_scan : Stmt := topS 71
abbrev N__law_small_scan : List Str := ["_law_bag_here", "_law_directions", "_law_divisors_here"]
theorem sc__law_small_scan : FnScope N__law_small_scan ["_law_bag_here", "_law_directions"] (defScope s__law_small_scan) := ⟨rfl, rfl, rfl, by decide +kernel, rfl, by decide +kernel, by decide +kernel⟩
def R_small : List Ly.Ty → (Ly.Ty → Prop) → Prop := fun as T => ∃ n : Nat, as = [nI n] ∧ 1 ≤ n ∧ n ≤ 3 ∧ T = fun t => ∃ (D : List Int) (u : Tr), t = .dat (.tuple [pI D, u.toD]) ∧ D.length = n ∧ OkDiv D ∧ Wf D.length (vol D).toNat 2 u
theorem ok__law_small_scan {f : Addr} {fd : FuncData} (F : Fun K "_law_small_scan" "_law_small_scan" s__law_small_scan f fd) (T : Tx K mg aL) (c__law_divisors : Cal P w K mg base 3 "_law_divisors" ["_law_bag_here", "_law_directions"] (FnB K C R_divisors)) (c__law_tree : Cal P w K mg base 5 "_law_tree" ["_law_bag_here", "_law_divisors_here", "_law_depth"] (FnB K C (R_ltree 2))) : FnOk P w K mg base CX0 6 f fd ["_law_bag_here", "_law_directions"] (FnB K C R_small) := by
  have nd := (sc__law_small_scan).nd
  refine ok_ofB F sc__law_small_scan (fun as t ⟨m, e, _⟩ => by subst e; rfl) fun cdv A outer s H E hr => ?_
  refine ⟨_, (pss_cons (ps_set (i := 2) nd rfl (Or.inl rfl) (pe_cal c__law_divisors (hr.mono (by decide)) (pa_cons (pv 0) (pa_cons (pv 1) pa_nil))))
      (pss_one (ps_ret (pe_tup (pa_cons (pv 2) (pa_cons (pe_cal c__law_tree (hr.mono (by decide)) (pa_cons (pv 0) (pa_cons (pv 2) (pa_cons pe_int pa_nil)))) pa_nil)))))),
      ?_⟩
  rintro p q as T0 ⟨n, rfl, hn1, hn3, rfl⟩
  refine sm_seq (M := fun Γ O => ∃ D, D.length = n ∧ OkDiv D ∧ Γ = [some (.own p), some (nI n), some (dI D)] ∧ O = [bagR p q]) (sm_weak (sm_setM (T := fun t => ∃ D, t = dI D ∧ D.length = n ∧ OkDiv D) (em_callB (j := 0) rfl rfl (ema_ev (ev_var rfl)) fun ts e => by subst e; exact ⟨_, ⟨n, rfl, hn1, hn3, rfl⟩, fun t h => h⟩)) (fun Γ O ⟨h1, t, ⟨D, e, h2, h3⟩, h4⟩ => by subst e; exact ⟨D, h2, h3, h4, h1⟩) fun _ _ h => h) ?_
  rintro _ _ ⟨D, hD, okD, rfl, rfl⟩
  exact sm_retM (T := fun t => ∃ (D : List Int) (u : Tr), t = .dat (.tuple [pI D, u.toD]) ∧ D.length = n ∧ OkDiv D ∧ Wf D.length (vol D).toNat 2 u) (em_tup (ema_cons (em_ev (ev_var rfl)) (ema_evm (em_callB (j := 0) (T := fun t => ∃ u : Tr, t = .dat u.toD ∧ Wf D.length (vol D).toNat 2 u) rfl rfl (ema_ea (ea_cons (ev_var rfl) (ea_cons ev_int ea_nil))) fun ts e => by subst e; exact ⟨_, ⟨D, rfl, okD, rfl⟩, fun t h => h⟩))) fun ts ⟨a, r', e, e1, t, e2, u, e3, hu⟩ => by subst e e1 e2 e3; exact ⟨rfl, Nat.le_of_ble_eq_true rfl, D, u, rfl, hD, okD, hu⟩) fun t ht => ⟨ht, rfl⟩
abbrev s__law_bag : Stmt := topS 55
abbrev N__law_bag : List Str := ["_law_script", "_law_salt", "_law_cell"]
theorem sc__law_bag : FnScope N__law_bag ["_law_script"] (defScope s__law_bag) := ⟨rfl, rfl, rfl, by decide +kernel, rfl, by decide +kernel, by decide +kernel⟩
def R_bag : List Ly.Ty → Prop := fun as => ∃ ns : List Int, as = [.dat (.list (ns.map .int))] ∧ ns.length ≤ 1000
theorem ok__law_bag {f : Addr} {fd : FuncData} (F : Fun K "_law_bag" "_law_bag" s__law_bag f fd) (T : Tx K mg aL) : FnOk P w K mg base CX0 1 f fd ["_law_script"] (FnG K C R_bag) := by
  have nd := (sc__law_bag).nd
  refine ok_ofG F sc__law_bag (fun as ⟨ns, e, _⟩ => by subst e; rfl) fun cdv A outer s H E hr => ?_
  refine ⟨_, (pss_cons (ps_set (i := 1) nd rfl (Or.inl rfl) pe_int)
      (pss_cons (ps_for PassesOwn.never rfl (kSeq K (pe_slice (kSl K) (pv 0) po_none (po_some pe_int))) (pg_name (i := 2) nd rfl (Or.inl rfl)) (pss_one (ps_set (i := 1) nd rfl (Or.inl rfl) (pe_op op_mod (pe_callTy cr_int (by rfl) T.n_int boot_int (pa_cons (pe_op (kAdd K) (pe_op (kAdd K) (pe_op (kMul K) (pv 1) pe_int) (pe_op op_mod (pe_callTy cr_int (by rfl) T.n_int boot_int (pa_cons (pv 2) pa_nil)) pe_int)) pe_int) pa_nil)) pe_int))))
      (pss_one (ps_ret (pe_lst (pa_cons (pe_callTy (kList K) (by rfl) T.n_list boot_list (pa_cons (pe_slice (kSl K) (pv 0) po_none (po_some pe_int)) pa_nil)) (pa_cons pe_int (pa_cons pe_int (pa_cons (pv 1) pa_nil))))))))),
      ?_⟩
  rintro as ⟨ns, rfl, hn⟩
  let L : Ly.Ty := .dat (.list (ns.map .int))
  have cut : ∀ {Γ : Ev}, Γ[0]? = some (some L) → EvD K C (tSl (rSlU K) (tVar 0) tNoPart (tPart (tC (.int 63)))) Γ (.tl ((ns.take 63).map .int)) := fun h => ev_is (ev_slL (ev_var h) eo_none (eo_some (ev_int (i := ((63 : Nat) : Int))))) (by rw [cutD_pre, List.map_take])
  refine sm_then (Γ' := [some L, some (nI 3823), none]) (O' := []) (sm_set ev_int) ?_
  refine sm_seq (M := fun Γ O => ∃ x y, 0 ≤ x ∧ x < 2147483647 ∧ Γ = [some L, some (nI x), y] ∧ O = []) (sm_forD (as := ns.take 63) (ty := fun n => nI n) (iv_of_map (g := PyData.int) (ty := Ly.Ty.dat) (iv_L (ev_dat (cut rfl)))) (fun i Γ O => ∃ x y, 0 ≤ x ∧ x < 2147483647 ∧ Γ = [some L, some (nI x), y] ∧ O = []) ⟨3823, none, by decide, by decide, rfl, rfl⟩ ?_ fun _ _ h => h) ?_
  · rintro i a _ _ ha0 ⟨x, y, hx0, hx1, rfl, rfl⟩
    have hmod := Int.emod_nonneg (x * 44021 + a % 2147483579 + 19) (show (2147483647 : Int) ≠ 0 by decide)
    have hmod2 := Int.emod_lt_of_pos (x * 44021 + a % 2147483579 + 19) (show (0 : Int) < 2147483647 by decide)
    exact ⟨_, [2], tg_name (by decide), sm_weak (sm_set (ev_modI (ev_intI (ev_addI (ev_addI (ev_mulU (ev_var rfl) ev_int (.inr (by decide))) (ev_modI (ev_intI (ev_var rfl)) ev_int (by decide))) ev_int)) ev_int (by decide))) (fun Γ O ⟨h1, h2⟩ => ⟨_, some (nI a), hmod, hmod2, h1, h2⟩) fun _ _ h => h⟩
  · rintro _ _ ⟨x, y, hx0, hx1, rfl, rfl⟩
    exact sm_retBag (cut rfl) (ev_var rfl) (by have := List.length_take_le 63 ns; omega) hx0 hx1 fun p q => ⟨p, q, rfl, rfl⟩
abbrev s__law_same : Stmt := topS 59
abbrev N__law_same : List Str := ["_law_found", "_law_due", "_law_key", "_law_one", "_law_other"]
theorem sc__law_same : FnScope N__law_same ["_law_found", "_law_due"] (defScope s__law_same) := ⟨rfl, rfl, rfl, by decide +kernel, rfl, by decide +kernel, by decide +kernel⟩
theorem eb_isN {Γ : Ev} {te : TE} {i : Int} (h : EvD K C te Γ (nI i)) : EvB K C (tB (tIsN te)) Γ false := fun σ W e Q q => h σ W e _ fun v W1 s1 a => by
  have hv := dp_int a
  subst hv
  exact ⟨false, rfl, q W1 s1⟩
def R_same : List Ly.Ty → Ly.Ty → Prop := fun as t => ∃ i j : Int, as = [nI i, nI j] ∧ t = bI (decide (i = j))
theorem ok__law_same {f : Addr} {fd : FuncData} (F : Fun K "_law_same" "_law_same" s__law_same f fd) (T : Tx K mg aL) : FnOk P w K mg base CX0 1 f fd ["_law_found", "_law_due"] (FnD K C R_same) := by
  have nd := (sc__law_same).nd
  refine ok_of F sc__law_same (fun as t ⟨i, j, e, _⟩ => by subst e; rfl) fun cdv A outer s H E hr => ?_
  refine ⟨_, (pss_cons (ps_if (PW.pt (pw_or (pt_val (pe_callB (kIsi K) (by rfl) T.n_isinstance boot_isinstance (pa_cons (pv 1) (pa_cons (pe_bltn (v := .ty "list") rfl T.n_list boot_list rfl) pa_nil)))) (pw_or1 (pt_val (pe_callB (kIsi K) (by rfl) T.n_isinstance boot_isinstance (pa_cons (pv 1) (pa_cons (pe_bltn (v := .ty "tuple") rfl T.n_tuple boot_tuple rfl) pa_nil))))))) pss_never pss_nil)
      (pss_cons (ps_if (pt_val (pe_callB (kIsi K) (by rfl) T.n_isinstance boot_isinstance (pa_cons (pv 1) (pa_cons (pe_bltn (v := .ty "dict") rfl T.n_dict boot_dict rfl) pa_nil)))) pss_never pss_nil)
      (pss_cons (ps_if (PW.pt (pw_or (pt_cmp (pc_isN (pv 1))) (pw_or1 (pt_cmp (pc_isN (pv 0)))))) pss_never pss_nil)
      (pss_cons (ps_if (PW.pt (pw_or (pt_cmpR (kNe K hr.units) (pe_callB (kIsi K) (by rfl) T.n_isinstance boot_isinstance (pa_cons (pv 0) (pa_cons (pe_bltn (v := .ty "bool") rfl T.n_bool boot_bool rfl) pa_nil))) (pe_callB (kIsi K) (by rfl) T.n_isinstance boot_isinstance (pa_cons (pv 1) (pa_cons (pe_bltn (v := .ty "bool") rfl T.n_bool boot_bool rfl) pa_nil))) (nomark _)) (pw_or1 (pt_cmpR (kNe K hr.units) (pe_callB (kIsi K) (by rfl) T.n_isinstance boot_isinstance (pa_cons (pv 0) (pa_cons (pe_bltn (v := .ty "int") rfl T.n_int boot_int rfl) pa_nil))) (pe_callB (kIsi K) (by rfl) T.n_isinstance boot_isinstance (pa_cons (pv 1) (pa_cons (pe_bltn (v := .ty "int") rfl T.n_int boot_int rfl) pa_nil))) (nomark _))))) pss_never pss_nil)
      (pss_one (ps_ret (pe_and (pe_cmpR (kEq K hr.units) (pe_callB (kIsi K) (by rfl) T.n_isinstance boot_isinstance (pa_cons (pv 0) (pa_cons (pe_bltn (v := .ty "str") rfl T.n_str boot_str rfl) pa_nil))) (pe_callB (kIsi K) (by rfl) T.n_isinstance boot_isinstance (pa_cons (pv 1) (pa_cons (pe_bltn (v := .ty "str") rfl T.n_str boot_str rfl) pa_nil))) (nomark _)) (pe_one (pe_cmpR (kEq K hr.units) (pv 0) (pv 1) (nomark _)))))))))),
      ?_⟩
  rintro as t ⟨i, j, rfl, rfl⟩
  let G : Ev := startG N__law_same.length [nI i, nI j]
  have isi : ∀ (k : Nat) (n : Int) (b : Bool) (S : String), G[k]? = some (some (nI n)) → kitB "int" S = some b → EvD K C (tCB (rIsi K) (tCons (tVar k) (tCons (tC (.ty S)) tNil))) G (bI b) := fun k n b S e h => ev_isi (ev_var e) (fun _ h => nomatch h) (fun h => nomatch h) (b := b) h
  show SD K C _ G _ _
  refine sd_then (Γ' := G) (sd_if (b := false || false) (eb_or (eb_B (isi 1 j false "list" rfl ki_il)) fun _ => eb_B (isi 1 j false "tuple" rfl ki_it)) (fun h => nomatch h) fun _ => sd_next rfl) ?_
  refine sd_then (Γ' := G) (sd_if (b := false) (eb_B (isi 1 j false "dict" rfl ki_id)) (fun h => nomatch h) fun _ => sd_next rfl) ?_
  refine sd_then (Γ' := G) (sd_if (b := false || false) (eb_or (eb_isN (ev_var (i := 1) rfl)) fun _ => eb_isN (ev_var (i := 0) rfl)) (fun h => nomatch h) fun _ => sd_next rfl) ?_
  refine sd_then (Γ' := G) (sd_if (b := (!PyData.eqv (.bool false) (.bool false)) || !PyData.eqv (.bool true) (.bool true)) (eb_or (eb_test (ev_neD (isi 0 i false "bool" rfl ki_ib) (isi 1 j false "bool" rfl ki_ib) rfl rfl)) fun _ => eb_test (ev_neD (isi 0 i true "int" rfl ki_ii) (isi 1 j true "int" rfl ki_ii) rfl rfl)) (fun h => nomatch h) fun _ => sd_next rfl) ?_
  refine sd_ret (ev_andV (a := PyData.eqv (.bool false) (.bool false)) (b := PyData.eqv (.int i) (.int j)) (ev_eqD (isi 0 i false "str" rfl ki_is) (isi 1 j false "str" rfl ki_is) rfl rfl) fun _ => ev_eqD (ev_var rfl) (ev_var rfl) rfl rfl) ?_
  rw [eqv_int]
  rfl
end
end Lk
/-! La: what the law itself needs. -/
namespace Ly
open PySem PySem.Spec
open PyProof.Rows L2
section
variable {K : PySem.W.Frag} {C : Addr} {Γ : Ev} {O : Ow} {te ta tb : TE} {u : TS} {N : Ev → Ow → Prop} {R : Ty → Ow → Prop} {T1 T2 : Ty → Prop}
/-! less is told of the slots -/
inductive Wk : Ev → Ev → Prop
  | nil : Wk [] []
  | keep {x : Option Ty} {Γ Γ2 : Ev} : Wk Γ Γ2 → Wk (x :: Γ) (x :: Γ2)
  | drop {x : Option Ty} {Γ Γ2 : Ev} : Wk Γ Γ2 → Wk (x :: Γ) (none :: Γ2)
theorem Wk.len : ∀ {Γ Γ2 : Ev}, Wk Γ Γ2 → Γ2.length = Γ.length
  | _, _, .nil => rfl
  | _, _, .keep h => congrArg (· + 1) h.len
  | _, _, .drop h => congrArg (· + 1) h.len
theorem Wk.get : ∀ {Γ Γ2 : Ev}, Wk Γ Γ2 → ∀ (i : Nat) (t : Ty), Γ2[i]? = some (some t) → Γ[i]? = some (some t)
  | _, _, .nil, _, _, e => e
  | _, _, .keep h, 0, _, e => e
  | _, _, .keep h, i + 1, t, e => h.get i t e
  | _, _, .drop h, 0, t, e => nomatch e
  | _, _, .drop h, i + 1, t, e => h.get i t e
theorem sm_fgt (h : SM K C u Γ O (fun Γ' O' => ∃ Γ2, Wk Γ' Γ2 ∧ N Γ2 O') R) : SM K C u Γ O N R := fun D σ W e o n r => h D σ W e o (fun Γ' O' σ' W' ⟨Γ2, k, hn⟩ g e' o' => n Γ2 O' σ' W' hn g (e'.re k.len fun i t ht => ⟨t, k.get i t ht, fun _ a => a⟩) o') r
theorem sm_par {i j : Nat} {t1 t2 : Ty} (h1 : EvD K C ta Γ t1) (h2 : EvD K C tb Γ t2) : SM K C (tPar i j (tCons ta (tCons tb tNil))) Γ O (fun Γ' O' => Γ' = (Γ.set i (some t1)).set j (some t2) ∧ O' = O) R := sm_weak (sm_parM (em_ev h1) (em_ev h2)) (fun Γ' O' ⟨e, x, y, e1, e2, e3⟩ => by subst e1 e2; exact ⟨e3, e⟩) fun _ _ h => h
/-- x, y = (a, b) by way of a tuple -/
theorem sm_asgTup {i j : Nat} (h1 : EvM K C ta Γ O T1) (h2 : EvM K C tb Γ O T2) : SM K C (tAsg (tTup (tCons ta (tCons tb tNil))) (gTup K 2 (gCons (gName i) (gCons (gName j) gNil)))) Γ O (fun Γ' O' => O' = O ∧ ∃ t1 t2, T1 t1 ∧ T2 t2 ∧ Γ' = (Γ.set i (some t1)).set j (some t2)) R := fun D σ W e o n r =>
  h1 σ W e o _ fun t1 v W1 k1 g1 o1 a => h2 σ W1 (e.same g1.same) o1 _ fun t2 z W2 k2 g2 o2 b => ⟨by show 2 ≤ sizeLine; decide, fun q hq => by
    have s3 := own_S (o := .tup [v, z]) hq
    refine ⟨q, [v, z], rfl, SqT.of upd_same, rfl, _, _, rfl, _, _, rfl, rfl, ?_⟩
    exact n _ _ _ (W2.own q _ (wd_none hq)) ⟨rfl, t1, t2, k1, k2, rfl⟩ ((g1.trans g2).trans s3.go) (((e.same (g1.trans g2).same).set (at_same g2.same a)).set b) (o2.le s3)⟩
/-- list(d) -/
def rListD : List V → Hp → VK → Prop := fun xs H Q => ∃ d kvs, xs = [V.ref d] ∧ Rd H d (.dT kvs) ∧ ∀ p bs, H p = none → IsKeys H kvs bs → Q (.ref p) (upd H p (.lst (bs.map V.ref)))
theorem kListD {X : Cx} (hc : X.calm = true) : CallR X (.type "list") rListD := call_list_dT hc
theorem ev_listC {kvs : List (List Int × Int)} (h : EvD K C te Γ (.dc kvs)) : EvD K C (tCB rListD (tCons te tNil)) Γ (.tl (kvs.map fun p => PyData.tuple (p.1.map .int))) := fun σ W e Q q => h σ W e _ fun v W1 s1 a => by
  obtain ⟨d, rfl, hd⟩ := a
  have hk : (kvD kvs).map (·.1) = (kvs.map (·.1)).map kI := by
    unfold kvD
    rw
        [List.map_map, List.map_map]
    rfl
  refine ⟨d, _, rfl, .of (W1.sub _ _ hd), fun p bs hp ib => ?_⟩
  have es := isKeys_each (K := K) (B := W1.tups.F) (fun b xs hb => tups_at hb) ib hk
  rw [List.map_map] at es
  exact q _ (W1.tups.new p _) ((s1.trans (leS_tups W1)).trans (leS_new hp)) ⟨p, _, rfl, upd_same, dpAll_le (leS_new (W := W1.tups) hp) es⟩
/-- range(i), i below 0 too -/
theorem iv_rangeI {i : Int} (h : EvD K C te Γ (.dat (.int i))) (h0 : -100000 ≤ i) (h1 : i ≤ 100000) : IvD K C (iRng1 (tCons te tNil)) Γ (List.range i.toNat) (fun k => .dat (.int (k : Nat))) := fun σ W e R r => h σ W e _ fun v W1 s1 a => by
  refine ⟨i, by rw [dp_int a], by omega, by omega, r _ W1 s1 ⟨fun W' s k d hd => ?_, fun W' s => ?_⟩⟩
  · have hi : k < i.toNat := by
      have := (List.getElem?_eq_some_iff.mp hd).1
      rwa [List.length_range] at this
    have ed : d = k := by
      rw [List.getElem?_range hi] at hd
      exact (Option.some.inj hd).symm
    subst ed
    refine ⟨hi, fun x H2 y => ?_⟩
    obtain ⟨rfl, rfl⟩ := y
    refine ⟨W', rfl, LeS.refl _, ?_⟩
    rw [Int.zero_add]
    exact Dt.int _
  · rw [List.length_range]
    show i.toNat ≤ i.toNat
    exact Nat.le_refl _
end
end Ly
namespace Lk
open PySem PySem.Spec PyProof.Rows L2 Ly
theorem eqv_cells (l m : List (List Int)) : PyData.eqv (.list (l.map pI)) (.list (m.map pI)) = decide (l = m) := by
  rw [PyData.eqv]
  induction l generalizing m with
  | nil => cases m <;> simp [PyData.eqvAll]
  | cons a r ih =>
    cases m with
    | nil => simp [PyData.eqvAll]
    | cons b q =>
      rw [List.map_cons, List.map_cons, PyData.eqvAll, ih q, eqv_pI]
      simp [Bool.decide_and]
theorem eqv_none {ds : List PyData} : PyData.eqv (.list ds) (.list []) = decide (ds = []) := by
  rw [PyData.eqv]
  cases ds <;> simp [PyData.eqvAll]
theorem eqv_bool (a b : Bool) : PyData.eqv (.bool a) (.bool b) = decide (a = b) := by
  cases a <;>
      cases b <;> decide
theorem shaped_waves (ws : List (List (List Int))) : SeqAt.shaped (.list (ws.map fun wv => .list (wv.map pI))) = true := shaped_lst fun d hd => by
  obtain ⟨wv, _, rfl⟩ := List.mem_map.mp hd
  refine ⟨?_, ?_⟩
  · rw [PyData.canLay0]
    exact canLayAll0_of fun d hd => by
      obtain ⟨l, _, rfl⟩ := List.mem_map.mp hd
      exact canLay0_pI l
  · rw [PyData.depth]
    exact Nat.succ_le_succ (Nat.le_trans (depthAll_le (b := 1) fun d hd => by
      obtain ⟨l, _, rfl⟩ := List.mem_map.mp hd
      rw [depth_pI]
      exact Nat.le_refl _) (by decide))
/-! the numbers filled in -/
theorem flat_snoc {ws : List (List (List Int))} {i : Nat} {wv : List (List Int)} (h : ws[i]? = some wv) : flatW (ws.take (i + 1)) = flatW (ws.take i) ++ wv.map fun c => (c, (i : Int)) := by
  have hi := (List.getElem?_eq_some_iff.mp h).1
  unfold flatW
  rw [List.take_add_one, h, show (some wv).toList = [wv] from rfl, List.zipIdx_append, List.flatMap_append]
  congr 1
  rw [List.zipIdx_singleton, List.flatMap_singleton, Nat.zero_add, List.length_take, Nat.min_eq_left (Nat.le_of_lt hi)]
def fillI (ws : List (List (List Int))) (i : Nat) (wv : List (List Int)) (j : Nat) : List (List Int × Int) := flatW (ws.take i) ++ (wv.take j).map fun c => (c, (i : Int))
theorem fill_keys (ws : List (List (List Int))) (i : Nat) (wv : List (List Int)) (j : Nat) : (fillI ws i wv j).map (·.1) = (ws.take i).flatten ++ wv.take j := by
  unfold fillI
  rw [List.map_append, flatW_keys, List.map_map]
  congr 1
  exact List.map_id' _
theorem fill_sub {ws : List (List (List Int))} {i : Nat} {wv : List (List Int)} (h : ws[i]? = some wv) (j : Nat) : ((ws.take i).flatten ++ wv.take j).Sublist ws.flatten := by
  have e : ws = ws.take i ++ (wv :: ws.drop (i + 1)) := by
    have hi := (List.getElem?_eq_some_iff.mp h)
    obtain ⟨hi1, hi2⟩ := hi
    rw [← hi2, List.getElem_cons_drop hi1, List.take_append_drop]
  have z : ws.flatten = (ws.take i).flatten ++ (wv ++ (ws.drop (i + 1)).flatten) := by
    have z2 := congrArg List.flatten e
    rw [List.flatten_append, List.flatten_cons] at z2
    exact z2
  rw [z]
  exact List.Sublist.append (List.Sublist.refl _) ((List.take_sublist _ _).trans (List.sublist_append_left _ _))
theorem fill_step {ws : List (List (List Int))} (hn : ws.flatten.Nodup) {i : Nat} {wv : List (List Int)} (h : ws[i]? = some wv) {j : Nat} {c : List Int} (hc : wv[j]? = some c) : putI (fillI ws i wv j) c (i : Int) = fillI ws i wv (j + 1) := by
  have nd := hn.sublist (fill_sub h (j + 1))
  have e : (ws.take i).flatten ++ wv.take (j + 1) = ((ws.take i).flatten ++ wv.take j) ++ [c] := by
    rw [List.take_add_one, hc]
    exact
        (List.append_assoc _ _ _).symm
  rw [e] at nd
  rw [putI_new (by
    rw [fill_keys]
    intro m
    exact (List.nodup_append.mp nd).2.2 _ m _ List.mem_cons_self rfl)]
  unfold fillI
  rw [List.take_add_one, hc, show (some c).toList = [c] from rfl, List.map_append, List.append_assoc]
  rfl
/-! the last check -/
def chainG (N : List Int → Int) (cs : List Int → List (List Int × Int)) : Nat → List Int → List (List Int) → List (List Int)
  | 0, _, acc => acc
  | n + 1, h, acc => if 1 < N h then
      match (cs h).filter fun p => decide (N p.1 + p.2 = N h) with
      | [] => acc
      | p :: _ => chainG N cs n p.1 (p.1 :: acc)
    else acc
theorem chainG_eq {T : Tr} {D b : List Int} {ls : List (List Int)} {N : List Int → Int} (hN : ∀ c, numN T D ls b c = N c) : ∀ (n : Nat) (h : List Int) (acc : List (List Int)), chainFrom T D ls b n h acc = chainG N (causesOf T D ls b) n h acc
  | 0, _, _ => rfl
  | n + 1, h, acc => by
    have e : (numN T D ls b) = N := funext hN
    rw [chainFrom, chainG, e]
    split
    · cases q : (causesOf T D ls b h).filter fun p => decide (N p.1 + p.2 = N h) with
      | nil => rfl
      | cons p r => exact chainG_eq hN n _ _
    · rfl
theorem order4 : orderOf .leaf [1] [4] = [[0], [1], [2], [3]] := by
  unfold orderOf
  have e : cellsOf [4] = [[0], [1], [2], [3]] := by decide +kernel
  rw [e]
  exact List.mergeSort_of_pairwise (by decide +kernel)
theorem num4 : numOf .leaf [1] [[-1]] [4] = [([0], 1), ([1], 2), ([2], 3), ([3], 4)] := by
  unfold numOf
  rw [order4]
  decide +kernel
theorem chain4 : chainOf .leaf [1] [[-1]] [4] = [[0], [1], [2], [3]] := by
  have hN : ∀ c, numN .leaf [1] [[-1]] [4] c = look [([0], 1), ([1], 2), ([2], 3), ([3], 4)] c := fun c => by
    unfold numN
    rw [num4]
  have hT : topN .leaf [1] [[-1]] [4] = 4 := by
    unfold topN
    rw [num4]
    decide +kernel
  unfold chainOf
  have e : (fun c => decide (numN .leaf [1] [[-1]] [4] c = topN .leaf [1] [[-1]] [4])) = fun c => decide (look [([0], 1), ([1], 2), ([2], 3), ([3], 4)] c = 4) := funext fun c => by rw [hN, hT]
  rw [e]
  have e2 : ((cellsOf [4]).filter fun c => decide (look [([0], 1), ([1], 2), ([2], 3), ([3], 4)] c = 4)) = [[3]] := by decide +kernel
  rw [e2]
  show chainFrom .leaf [1] [[-1]] [4] _ [3] [[3]] = _
  rw [chainG_eq hN]
  decide +kernel
theorem chain4_ok : OkDiv [1] ∧ Wf 1 (vol [1]).toNat 2 .leaf ∧ OkLooks 1 [[-1]] ∧ OkBox 1 [4] := by
  refine ⟨⟨by decide, by decide, by decide, by decide +kernel⟩, .leaf, ⟨?_, by decide, by decide, by decide⟩, ⟨rfl, by decide, by decide +kernel⟩⟩
  intro l hl
  obtain rfl := List.mem_singleton.mp hl
  exact ⟨rfl, by decide, by decide⟩
/-- neighbours -/
theorem pairs_at {ch : List (List Int)} {k : Nat} {p q : List Int} (h1 : ch[k]? = some p) (h2 : ch[k + 1]? = some q) : (pairsOf' ch)[k]? = some (p, q) := by
  unfold pairsOf'
  refine List.getElem?_zip_eq_some.mpr ⟨h1, ?_⟩
  rw [List.getElem?_drop, Nat.add_comm]
  exact h2
theorem pairs_len (ch : List (List Int)) : (pairsOf' ch).length = ch.length - 1 := by
  unfold pairsOf'
  rw [List.length_zip, List.length_drop]
  omega
theorem ahead_eq (p q : List Int) : List.zipWith (fun a b : Int => b - a) p q = psub q p := by
  unfold psub
  exact List.zipWith_comm
theorem back_eq : ∀ p q : List Int, (psub q p).map (fun x => -x) = psub p q
  | [], q => by cases q <;> rfl
  | _ :: _, [] => rfl
  | a :: p, b :: q => by
    show (-(b - a)) :: (psub q p).map (fun x => -x) = (a - b) :: psub p q
    rw [back_eq p q, Int.neg_sub]
end Lk
namespace Lk
open PySem PySem.Spec PyProof.Rows L2 Ly
section
variable {P : Program} {w : World} {K : PySem.W.Frag} {mg : Str → Option Value} {base : Heap} {C aL : Addr}
abbrev s_law : Stmt := topS 73
abbrev N_law : List Str := ["_law_script", "_law_bag_here", "_law_turn", "_law_directions", "_law_strict", "_law_at", "_law_numbers", "_law_cell", "_law_pair", "_law_looks_here", "_law_scan", "_law_box_here", "_law_told", "_law_chain", "_law_ahead", "_law_back", "_law_look", "_law_one", "_law_other", "_law_there", "_law_step", "_law_a", "_law_b", "_law_wave"]
theorem sc_law : FnScope N_law ["_law_script"] (defScope s_law) := ⟨rfl, rfl, rfl, by decide +kernel, rfl, by decide +kernel, by decide +kernel⟩
def R_law : List Ly.Ty → Ly.Ty → Prop := fun as t => ∃ ns : List Int, as = [.dat (.list (ns.map .int))] ∧ ns.length ≤ 1000 ∧ t = bI true
abbrev wavD (ws : List (List (List Int))) : List PyData := ws.map fun wv => .list (wv.map pI)
/-- the slots while a round runs -/
abbrev gR (L : Ly.Ty) (p : Addr) (D : List Int) (u : Tr) (ls : List (List Int)) (b : List Int) (x4 x5 x6 x7 x14 x15 x16 x17 x18 x19 : Option Ly.Ty) : Ev :=
  [some L, some (.own p), none, none, x4, x5, x6, x7, some (.dat (.tuple [pI D, u.toD])), some (.tl (ls.map pI)), some (.sc D u.toD), some (dI b), some (.tl (wavD (wavesOf u D ls b))), some (.tl ((chainOf u D ls b).map pI)), x14, x15, x16, x17, x18, x19, none, none, none, none]
theorem chainFrom_len {T : Tr} {D b : List Int} {ls : List (List Int)} : ∀ (n : Nat) (h : List Int) (acc : List (List Int)), (chainFrom T D ls b n h acc).length ≤ acc.length + n
  | 0, _, _ => Nat.le_refl _
  | n + 1, h, acc => by
    rw [chainFrom]
    split
    · cases q : (causesOf T D ls b h).filter fun p => decide (numN T D ls b p.1 + p.2 = numN T D ls b h) with
      | nil => exact Nat.le_add_right _ _
      | cons p r =>
        have := chainFrom_len (T := T) (D := D) (b := b) (ls := ls) n p.1 (p.1 :: acc)
        rw [List.length_cons] at this
        show (chainFrom T D ls b n p.1 (p.1 :: acc)).length ≤ _
        omega
    · exact Nat.le_add_right _ _
theorem chain_len {T : Tr} {D b : List Int} {ls : List (List Int)} : (chainOf T D ls b).length ≤ 1 + (cellsOf b).length := by
  unfold chainOf
  cases q : (cellsOf b).filter fun c => decide (numN T D ls b c = topN T D ls b) with
  | nil => exact Nat.zero_le _
  | cons h r => exact chainFrom_len _ h [h]
theorem chain_none_iff {T : Tr} {D b : List Int} {ls : List (List Int)} (f : Fit D b ls) : decide ((chainOf T D ls b).map pI = []) = decide (wavD (wavesOf T D ls b) = []) := by
  refine decide_eq_decide.mpr ?_
  have h1 := chain_empty (T := T) f
  have h2 := waves_len (T := T) (D := D) (ls := ls) (b := b)
  rw [List.map_eq_nil_iff, List.map_eq_nil_iff, h1, ← h2]
  cases wavesOf T D ls b with
  | nil => simp
  | cons a r => simp; omega
theorem ok_law {f : Addr} {fd : FuncData} (F : Fun K "law" "law" s_law f fd) (T : Tx K mg aL) (S : Sk K C)
    (c_wave_chain : Cal P w K mg base 10 "wave_chain" ["scan", "looks", "box"] (FnN K C R_wave_chain)) (c_waves : Cal P w K mg base 10 "waves" ["scan", "looks", "box"] (FnD K C R_waves)) (c_chain_waves : Cal P w K mg base 5 "chain_waves" ["scan", "looks", "chain"] (FnD K C R_chain_waves))
    (c_mk2 : CalI P w K mg base C 5 "Scan" ["self", "divisors", "tree"] [] (FnI K C R_init)) (c_mk1 : CalI P w K mg base C 5 "Scan" ["self", "divisors", "tree"] [.ref aL] (FnI K C R_init))
    (c__law_cells : Cal P w K mg base 1 "_law_cells" ["_law_box_here"] (FnD K C R__law_cells)) (c__law_before : Cal P w K mg base 3 "_law_before" ["_law_pair", "_law_one", "_law_other"] (FnD K C R__law_before))
    (c__law_inside : Cal P w K mg base 1 "_law_inside" ["_law_box_here", "_law_place"] (FnD K C R_is_in)) (c__law_plus : Cal P w K mg base 1 "_law_plus" ["_law_one", "_law_other"] (FnD K C R_plus)) (c__law_count : Cal P w K mg base 1 "_law_count" ["_law_divisors_here"] (FnD K C R__law_count)) (c__law_same : Cal P w K mg base 1 "_law_same" ["_law_found", "_law_due"] (FnD K C R_same))
    (c__law_box : Cal P w K mg base 2 "_law_box" ["_law_bag_here", "_law_directions"] (FnB K C R_box)) (c__law_looks : Cal P w K mg base 3 "_law_looks" ["_law_bag_here", "_law_directions"] (FnB K C R_looks)) (c__law_small_scan : Cal P w K mg base 6 "_law_small_scan" ["_law_bag_here", "_law_directions"] (FnB K C R_small))
    (c__law_pull : Cal P w K mg base 1 "_law_pull" ["_law_bag_here", "_law_amount"] (FnB K C R_pull)) (c__law_bag : Cal P w K mg base 1 "_law_bag" ["_law_script"] (FnG K C R_bag)) : FnOk P w K mg base CX0 11 f fd ["_law_script"] (FnD K C R_law) := by
  have nd := (sc_law).nd
  refine ok_ofM F sc_law (fun as t ⟨ns, e, _⟩ => by subst e; rfl) fun cdv A outer s H E hr => ?_
  refine ⟨_, (pss_cons (ps_set (i := 1) nd rfl (Or.inl rfl) (pe_cal c__law_bag (hr.mono (by decide)) (pa_cons (pv 0) pa_nil)))
      (pss_cons (ps_for PassesOwn.never rfl (pi_range1 (by rfl) T.n_range (pa_cons pe_int pa_nil)) (pg_name (i := 2) nd rfl (Or.inl rfl)) (pss_cons (ps_set (i := 3) nd rfl (Or.inl rfl) (pe_op (kAdd K) pe_int (pe_cal c__law_pull (hr.mono (by decide)) (pa_cons (pv 1) (pa_cons pe_int pa_nil)))))
      (pss_cons (ps_par (i := 8) (j := 9) rfl nd rfl rfl (by decide) rfl rfl (pa_cons (pe_cal c__law_small_scan (hr.mono (by decide)) (pa_cons (pv 1) (pa_cons (pv 3) pa_nil))) (pa_cons (pe_cal c__law_looks (hr.mono (by decide)) (pa_cons (pv 1) (pa_cons (pv 3) pa_nil))) pa_nil)) (by rfl))
      (pss_cons (ps_asg (pe_tup (pa_cons (pe_calI c_mk2 (hr.mono (by decide)) (pa_cons (pe_ix (kIx K) (pv 8) pe_int (fun _ _ => rfl)) (pa_cons (pe_ix (kIx K) (pv 8) pe_int (fun _ _ => rfl)) pa_nil))) (pa_cons (pe_cal c__law_box (hr.mono (by decide)) (pa_cons (pv 1) (pa_cons (pv 3) pa_nil))) pa_nil))) (kPair K rfl (pgs_cons (pg_name (i := 10) nd rfl (Or.inl rfl)) (pgs_cons (pg_name (i := 11) nd rfl (Or.inr rfl)) pgs_nil))))
      (pss_cons (ps_par (i := 12) (j := 13) rfl nd rfl rfl (by decide) rfl rfl (pa_cons (pe_cal c_waves (hr.mono (by decide)) (pa_cons (pv 10) (pa_cons (pv 9) (pa_cons (pv 11) pa_nil)))) (pa_cons (pe_cal c_wave_chain (hr.mono (by decide)) (pa_cons (pv 10) (pa_cons (pv 9) (pa_cons (pv 11) pa_nil)))) pa_nil)) (by rfl))
      (pss_cons (ps_expr (pe_bm0 PySem.F.plainAttrs_list PySem.F.slot_list_clear PySem.F.type_list_clear mt_clear (pe_cal c_wave_chain (hr.mono (by decide)) (pa_cons (pv 10) (pa_cons (pv 9) (pa_cons (pv 11) pa_nil))))))
      (pss_cons (ps_if (PW.pt (pw_or (pt_cmpR (kNe K hr.units) (pv 13) (pe_cal c_wave_chain (hr.mono (by decide)) (pa_cons (pv 10) (pa_cons (pe_callTy (kTuple K) (by rfl) T.n_tuple boot_tuple (pa_cons (pv 9) pa_nil)) (pa_cons (pv 11) pa_nil)))) (nomark _)) (pw_or (pt_cmpR (kNe K hr.units) (pe_cmpR (kEq K hr.units) (pv 13) (pe_lst pa_nil) (nomark _)) (pe_cmpR (kEq K hr.units) (pv 12) (pe_lst pa_nil) (nomark _)) (nomark _)) (pw_or1 (pt_not (pt_val (pe_callB (kAll K rfl) (by rfl) T.n_all boot_all (pa_cons (pe_lc (own := [("_law_cell", 7)]) (g := gName 7) (tt := tYes) rfl nd (kSeq K (pv 13)) (blkOk_by (N := N_law) (sc := defScope s_law) (by decide +kernel)) (fun _ _ _ _ _ => (pg_name (i := 7) nd rfl (Or.inl rfl))) (fun _ _ _ _ _ => pts_nil) (fun _ _ _ _ _ => (pe_cal c__law_inside (hr.mono (by decide)) (pa_cons (pv 11) (pa_cons (pv 7) pa_nil))))) pa_nil)))))))) (pss_one (ps_ret pe_bl)) pss_nil)
      (pss_cons (ps_set (i := 4) nd rfl (Or.inl rfl) (pe_callTy cr_int (by rfl) T.n_int boot_int (pa_cons (pe_cmpR (kNe K hr.units) (pv 13) (pe_lst pa_nil) (nomark _)) pa_nil)))
      (pss_cons (ps_for PassesOwn.never rfl (pi_range1 (by rfl) T.n_range (pa_cons (pe_op op_sub (pe_callB (kLen K) (by rfl) T.n_len PySem.boot_len (pa_cons (pv 13) pa_nil)) pe_int) pa_nil)) (pg_name (i := 5) nd rfl (Or.inl rfl)) (pss_cons (ps_par (i := 17) (j := 18) rfl nd rfl rfl (by decide) rfl rfl (pa_cons (pe_ix (kIx K) (pv 13) (pv 5) (fun _ _ => rfl)) (pa_cons (pe_ix (kIx K) (pv 13) (pe_op (kAdd K) (pv 5) pe_int) (fun _ _ => rfl)) pa_nil)) (by rfl))
      (pss_cons (ps_set (i := 14) nd rfl (Or.inl rfl) (pe_callTy (kTuple K) (by rfl) T.n_tuple boot_tuple (pa_cons (pe_lc (own := [("_law_a", 21), ("_law_b", 22)]) (g := gTup K 2 (gCons (gName 21) (gCons (gName 22) (gNil)))) (tt := tYes) rfl nd (kZip K T.n_zip (pa_cons (pv 17) (pa_cons (pv 18) pa_nil))) (blkOk_by (N := N_law) (sc := defScope s_law) (by decide +kernel)) (fun _ _ _ _ _ => (kPair K rfl (pgs_cons (pg_name (i := 21) nd rfl (Or.inl rfl)) (pgs_cons (pg_name (i := 22) nd rfl (Or.inl rfl)) pgs_nil)))) (fun _ _ _ _ _ => pts_nil) (fun _ _ _ _ _ => (pe_op op_sub (pv 22) (pv 21)))) pa_nil)))
      (pss_cons (ps_set (i := 15) nd rfl (Or.inl rfl) (pe_callTy (kTuple K) (by rfl) T.n_tuple boot_tuple (pa_cons (pe_lc (own := [("_law_step", 20)]) (g := gName 20) (tt := tYes) rfl nd (kSeq K (pv 14)) (blkOk_by (N := N_law) (sc := defScope s_law) (by decide +kernel)) (fun _ _ _ _ _ => (pg_name (i := 20) nd rfl (Or.inl rfl))) (fun _ _ _ _ _ => pts_nil) (fun _ _ _ _ _ => (pe_un un_neg (pv 20)))) pa_nil)))
      (pss_cons (ps_if (PW.pt (pw_or (pt_not (pt_val (pe_cal c__law_before (hr.mono (by decide)) (pa_cons (pv 8) (pa_cons (pv 17) (pa_cons (pv 18) pa_nil)))))) (pw_or1 (PW.pt (pw_and (pt_cmpR (kNotIn K (hu65 hr)) (pv 14) (pv 9) (by rfl)) (pw_and1 (pt_cmpR (kNotIn K (hu65 hr)) (pv 15) (pv 9) (by rfl)))))))) (pss_one (ps_ret pe_bl)) pss_nil)
      (pss_one (ps_set (i := 4) nd rfl (Or.inl rfl) (pe_op (kAdd K) (pv 4) (pe_callTy cr_int (by rfl) T.n_int boot_int (pa_cons (pe_cmpR (kIn K (hu65 hr)) (pv 15) (pv 9) (by rfl)) pa_nil))))))))))
      (pss_cons (ps_if (PW.pt (pw_or (pt_cmpR (kNe K hr.units) (pv 4) (pe_callB (kLen K) (by rfl) T.n_len PySem.boot_len (pa_cons (pv 12) pa_nil)) (nomark _)) (pw_or1 (pt_not (pt_val (pe_cal c__law_same (hr.mono (by decide)) (pa_cons (pe_cal c_chain_waves (hr.mono (by decide)) (pa_cons (pv 10) (pa_cons (pv 9) (pa_cons (pv 13) pa_nil)))) (pa_cons (pe_callB (kLen K) (by rfl) T.n_len PySem.boot_len (pa_cons (pv 12) pa_nil)) pa_nil)))))))) (pss_one (ps_ret pe_bl)) pss_nil)
      (pss_cons (ps_set (i := 6) nd rfl (Or.inl rfl) pe_dnewT)
      (pss_cons (ps_for PassesOwn.never rfl (pi_range1 (by rfl) T.n_range (pa_cons (pe_callB (kLen K) (by rfl) T.n_len PySem.boot_len (pa_cons (pv 12) pa_nil)) pa_nil)) (pg_name (i := 5) nd rfl (Or.inl rfl)) (pss_one (ps_for PassesOwn.never rfl (kSeq K (pe_ix (kIx K) (pv 12) (pv 5) (fun _ _ => rfl))) (pg_name (i := 7) nd rfl (Or.inl rfl)) (pss_one (ps_dput (hu_of hr) (pv 6) (pv 7) (pv 5) rfl)))))
      (pss_cons (ps_if (PW.pt (pw_or (pt_cmpR (kNe K hr.units) (pe_callB (kSorted K rfl (hu65 hr)) (by rfl) T.n_sorted boot_sorted (pa_cons (pe_callTy (kListD rfl) (by rfl) T.n_list boot_list (pa_cons (pv 6) pa_nil)) pa_nil)) (pe_cal c__law_cells (hr.mono (by decide)) (pa_cons (pv 11) pa_nil)) (nomark _)) (pw_or1 (pt_cmpR (kNe K hr.units) (pe_callB (kSum K rfl) (by rfl) T.n_sum boot_sum (pa_cons (pe_lc (own := [("_law_wave", 23)]) (g := gName 23) (tt := tYes) rfl nd (kSeq K (pv 12)) (blkOk_by (N := N_law) (sc := defScope s_law) (by decide +kernel)) (fun _ _ _ _ _ => (pg_name (i := 23) nd rfl (Or.inl rfl))) (fun _ _ _ _ _ => pts_nil) (fun _ _ _ _ _ => (pe_callB (kLen K) (by rfl) T.n_len PySem.boot_len (pa_cons (pv 23) pa_nil)))) pa_nil)) (pe_cal c__law_count (hr.mono (by decide)) (pa_cons (pv 11) pa_nil)) (nomark _))))) (pss_one (ps_ret pe_bl)) pss_nil)
      (pss_one (ps_for PassesOwn.never rfl (kSeq K (pe_cal c__law_cells (hr.mono (by decide)) (pa_cons (pv 11) pa_nil))) (pg_name (i := 7) nd rfl (Or.inl rfl)) (pss_one (ps_for PassesOwn.never rfl (kSeq K (pv 9)) (pg_name (i := 16) nd rfl (Or.inl rfl)) (pss_cons (ps_set (i := 19) nd rfl (Or.inl rfl) (pe_cal c__law_plus (hr.mono (by decide)) (pa_cons (pv 7) (pa_cons (pv 16) pa_nil))))
      (pss_one (ps_if (PW.pt (pw_and (pt_val (pe_cal c__law_inside (hr.mono (by decide)) (pa_cons (pv 11) (pa_cons (pv 19) pa_nil)))) (pw_and1 (pt_cmpR (kNe K hr.units) (pe_cmpR (kLt K hr.units0) (pe_dget (hu_of hr) (pv 6) (pv 19) (fun _ _ => rfl)) (pe_dget (hu_of hr) (pv 6) (pv 7) (fun _ _ => rfl)) (nomark _)) (pe_cal c__law_before (hr.mono (by decide)) (pa_cons (pv 8) (pa_cons (pv 19) (pa_cons (pv 7) pa_nil)))) (nomark _))))) (pss_one (ps_ret pe_bl)) pss_nil))))))))))))))))))))
      (pss_one (ps_ret (pe_cmpR (kEq K hr.units) (pe_cal c_wave_chain (hr.mono (by decide)) (pa_cons (pe_calI c_mk1 (hr.mono (by decide)) (pa_cons (pe_tup (pa_cons pe_int pa_nil)) pa_nil)) (pa_cons (pe_lst (pa_cons (pe_tup (pa_cons (pe_un un_neg pe_int) pa_nil)) pa_nil)) (pa_cons (pe_tup (pa_cons pe_int pa_nil)) pa_nil)))) (pe_lst (pa_cons (pe_tup (pa_cons pe_int pa_nil)) (pa_cons (pe_tup (pa_cons pe_int pa_nil)) (pa_cons (pe_tup (pa_cons pe_int pa_nil)) (pa_cons (pe_tup (pa_cons pe_int pa_nil)) pa_nil))))) (nomark _)))))),
      ?_⟩
  rintro as t ⟨ns, rfl, hns, rfl⟩
  let L : Ly.Ty := .dat (.list (ns.map .int))
  refine sm_callBag (ea_cons (ev_var rfl) ea_nil) ⟨ns, rfl, hns⟩ fun p q => ?_
  let G0 : Ev := [some L, some (.own p), none, none, none, none, none, none, none, none, none, none, none, none, none, none, none, none, none, none, none, none, none, none]
  refine sm_seq (M := fun Γ O => Γ = G0 ∧ O = [bagR p q]) (sm_forD (as := List.range 4) (ty := fun i => nI (i : Nat)) (iv_range (n := 4) ev_int (by omega)) (fun _ Γ O => Γ = G0 ∧ O = [bagR p q]) ⟨rfl, rfl⟩ ?_ fun _ _ h => h) ?_
  · rintro _ turn _ _ _ ⟨rfl, rfl⟩
    refine ⟨_, [2], tg_name (by decide), ?_⟩
    -- directions
    refine sm_seq (M := fun Γ O => ∃ n : Nat, 1 ≤ n ∧ n ≤ 3 ∧ Γ = [some L, some (.own p), some (nI (turn : Nat)), some (nI (n : Nat)), none, none, none, none, none, none, none, none, none, none, none, none, none, none, none, none, none, none, none, none] ∧ O = [bagR p q]) (sm_weak (sm_setM (T := IntP fun k => 1 ≤ k ∧ k ≤ 3) (em_wk (em_add (em_int (n := 1)) (em_pull (j := 0) rfl rfl (em_int (n := 3)) fun n e => by subst e; decide)) fun k ⟨n1, m1, e1, ⟨m2, e2, g0, g1⟩, e3⟩ => by omega)) (fun Γ O ⟨h1, t, ⟨k, e, h2, h3⟩, h4⟩ => ⟨k.toNat, by omega, by omega, by subst e; rw [Int.toNat_of_nonneg (by omega)]; exact h4, h1⟩) fun _ _ h => h) ?_
    rintro _ _ ⟨n, hn1, hn3, rfl, rfl⟩
    -- pair, looks
    refine sm_seq (M := fun Γ O => ∃ (D : List Int) (u : Tr) (ls : List (List Int)), D.length = n ∧ OkDiv D ∧ Wf D.length (vol D).toNat 2 u ∧ OkLooks n ls ∧ Γ = [some L, some (.own p), some (nI (turn : Nat)), some (nI (n : Nat)), none, none, none, none, some (.dat (.tuple [pI D, u.toD])), some (.tl (ls.map pI)), none, none, none, none, none, none, none, none, none, none, none, none, none, none] ∧ O = [bagR p q])
      (sm_weak (sm_parM (T1 := fun t => ∃ (D : List Int) (u : Tr), t = .dat (.tuple [pI D, u.toD]) ∧ D.length = n ∧ OkDiv D ∧ Wf D.length (vol D).toNat 2 u) (T2 := fun t => ∃ ls, t = .tl (ls.map pI) ∧ OkLooks n ls) (em_callB (j := 0) rfl rfl (ema_ev (ev_var rfl)) fun ts e => by subst e; exact ⟨_, ⟨n, rfl, hn1, hn3, rfl⟩, fun t h => h⟩) (em_callB (j := 0) rfl rfl (ema_ev (ev_var rfl)) fun ts e => by subst e; exact ⟨_, ⟨n, rfl, hn1, hn3, rfl⟩, fun t h => h⟩))
        (fun Γ O ⟨h1, t1, t2, ⟨D, u, e1, h2, h3, h4⟩, ⟨ls, e2, h5⟩, h6⟩ => ⟨D, u, ls, h2, h3, h4, h5, by subst e1 e2; exact h6, h1⟩) fun _ _ h => h) ?_
    rintro _ _ ⟨D, u, ls, rfl, okD, wf, okL, rfl, rfl⟩
    have hD := okD.most
    -- scan, box
    refine sm_seq (M := fun Γ O => ∃ b : List Int, OkBox D.length b ∧ Γ = [some L, some (.own p), some (nI (turn : Nat)), some (nI (D.length : Nat)), none, none, none, none, some (.dat (.tuple [pI D, u.toD])), some (.tl (ls.map pI)), some (.sc D u.toD), some (dI b), none, none, none, none, none, none, none, none, none, none, none, none] ∧ O = [bagR p q])
      (sm_weak (sm_asgTup (T1 := (· = .sc D u.toD)) (T2 := fun t => ∃ b, t = dI b ∧ OkBox D.length b) (em_ev (ev_make (n := vol D) (m := (u.size : Nat)) (dvs := []) (dts := []) (fun F => .nil) (ea_cons (ev_ixT (ev_var rfl) ev_int rfl) (ea_cons (ev_ixT (ev_var rfl) ev_int rfl) ea_nil)) ⟨D, u, rfl, okD, wf, rfl⟩)) (em_callB (j := 0) rfl rfl (ema_ev (ev_var rfl)) fun ts e => by subst e; exact ⟨_, ⟨D.length, rfl, hn1, hn3, rfl⟩, fun t h => h⟩))
        (fun Γ O ⟨h1, t1, t2, e1, ⟨b, e2, h5⟩, h6⟩ => ⟨b, h5, by subst e1 e2; exact h6, h1⟩) fun _ _ h => h) ?_
    rintro _ _ ⟨b, okB, rfl, rfl⟩
    have fit := fit_of okL okB
    have hcl := cells_le okB
    have chL : (chainOf u D ls b).length ≤ 2001 := Nat.le_trans chain_len (by omega)
    have chD : ∀ c ∈ chainOf u D ls b, c.length = D.length := fun c hc => (cellsOf_dim c (chain_cells fit c hc)).trans okB.len
    have wc : ∀ Γ : Ev, Γ[10]? = some (some (.sc D u.toD)) → Γ[9]? = some (some (.tl (ls.map pI))) → Γ[11]? = some (some (dI b)) → EvD K C (tCall (FnN K C R_wave_chain) [] E0 (tCons (tVar 10) (tCons (tVar 9) (tCons (tVar 11) tNil)))) Γ (.tl ((chainOf u D ls b).map pI)) := fun Γ e1 e2 e3 => ev_callN (ea_cons (ev_var e1) (ea_cons (ev_dat (ev_var e2)) (ea_cons (ev_var e3) ea_nil))) ⟨u, D, ls, b, 2, false, rfl, by decide, okD, wf, okL, okB, rfl⟩
    -- told, chain
    refine sm_seq (M := fun Γ O => Γ = gR L p D u ls b none none none none none none none none none none ∧ O = [bagR p q]) (sm_fgt (sm_weak (sm_parM (em_ev (ev_call (ea_cons (ev_var rfl) (ea_cons (ev_dat (ev_var rfl)) (ea_cons (ev_var rfl) ea_nil))) ⟨u, D, ls, b, 2, false, rfl, by decide, okD, wf, okL, okB, rfl⟩)) (em_ev (wc _ rfl rfl rfl))) (fun Γ O ⟨h1, t1, t2, e1, e2, h6⟩ => ⟨_, by subst e1 e2 h6; exact (show Wk [some L, some (.own p), some (nI (turn : Nat)), some (nI (D.length : Nat)), none, none, none, none, some (.dat (.tuple [pI D, u.toD])), some (.tl (ls.map pI)), some (.sc D u.toD), some (dI b), some (.tl (wavD (wavesOf u D ls b))), some (.tl ((chainOf u D ls b).map pI)), none, none, none, none, none, none, none, none, none, none] (gR L p D u ls b none none none none none none none none none none) by (repeat (first | exact Ly.Wk.nil | apply Ly.Wk.keep | apply Ly.Wk.drop))), rfl, h1⟩) fun _ _ h => h)) ?_
    rintro _ _ ⟨rfl, rfl⟩
    refine sm_then (Γ' := gR L p D u ls b none none none none none none none none none none) (O' := [bagR p q]) (sm_weak (sm_clearN (ea_cons (ev_var (i := 10) rfl) (ea_cons (ev_dat (ev_var (i := 9) rfl)) (ea_cons (ev_var (i := 11) rfl) ea_nil))) ⟨u, D, ls, b, 2, false, rfl, by decide, okD, wf, okL, okB, rfl⟩) (fun _ _ h => h) fun _ _ h => h) ?_
    -- the chain is told twice alike, it is empty where the waves are, and lies in the box
    refine sm_then (Γ' := gR L p D u ls b none none none none none none none none none none) (O' := [bagR p q]) (sm_if (b := false || (false || !true)) (ebs_eb (eb_or (eb_is (eb_test (ev_neD (ev_dat (ev_var (i := 13) rfl)) (ev_dat (ev_callN (ea_cons (ev_var (i := 10) rfl) (ea_cons (ev_tupTl (ev_var (i := 9) rfl)) (ea_cons (ev_var (i := 11) rfl) ea_nil))) ⟨u, D, ls, b, 2, true, rfl, by decide, okD, wf, okL, okB, rfl⟩)) (shaped_cells _) (shaped_cells _))) ?_) fun _ => eb_or (eb_is (eb_test (ev_neD (ev_eqD (ev_dat (ev_var (i := 13) rfl)) (ev_dat (ev_lst ea_nil rfl (Nat.zero_le _))) (shaped_cells _) rfl) (ev_eqD (ev_dat (ev_var (i := 12) rfl)) (ev_dat (ev_lst ea_nil rfl (Nat.zero_le _))) (shaped_waves _) rfl) rfl rfl)) ?_) fun _ => eb_not (eb_test (ev_is (ev_all (l := (chainOf u D ls b).map fun c => inBox b c) (ev_dat (ev_is (ev_mapN0 (as := chainOf u D ls b) (ty := fun c => dI c) (f := fun c => .bool (inBox b c)) (iv_of_map (g := pI) (ty := Ly.Ty.dat) (iv_L (ev_dat (ev_var rfl)))) (by omega) (by decide) fun c hc => ev_call (ea_cons (ev_var rfl) (ea_cons (ev_var rfl) ea_nil)) ⟨b, c, rfl, by rw [chD c hc]; omega, rfl⟩) (by rw [List.map_map]; rfl)))) ?_)))) (fun h => nomatch h) fun _ => sm_next ⟨rfl, rfl⟩) ?_
    · rw [eqv_cells, decide_eq_true rfl]
      rfl
    · show (!PyData.eqv (.bool (PyData.eqv (.list _) (.list []))) (.bool (PyData.eqv (.list _) (.list [])))) = false
      rw [eqv_none, eqv_none, eqv_bool, chain_none_iff fit, decide_eq_true rfl]
      rfl
    · congr 2
      rw [List.all_map]
      exact List.all_eq_true.mpr fun c hc => (mem_cells.mp (chain_cells fit c hc)).2
    -- the strict steps
    let ch := chainOf u D ls b
    refine sm_then (Γ' := gR L p D u ls b (some (nI (if chainOf u D ls b = [] then 0 else 1))) none none none none none none none none none) (O' := [bagR p q]) (sm_weak (sm_set (t := nI (if chainOf u D ls b = [] then 0 else 1)) (ev_is (ev_intB (ev_neD (ev_dat (ev_var rfl)) (ev_dat (ev_lst ea_nil rfl (Nat.zero_le _))) (shaped_cells _) rfl)) ?_)) (fun _ _ h => h) fun _ _ h => h) ?_
    · show Ly.Ty.dat (.int (if (!PyData.eqv (.list ((chainOf u D ls b).map pI)) (.list [])) = true then 1 else 0)) = _
      rw [eqv_none]
      cases chainOf u D ls b with
      | nil => rfl
      | cons a r => rfl
    let stI : Nat → Int := fun i => (if chainOf u D ls b = [] then 0 else 1) + ((((pairsOf' (chainOf u D ls b)).take i).filter fun p => decide (psub p.1 p.2 ∈ ls)).length : Nat)
    refine sm_seq (M := fun Γ O => Γ = gR L p D u ls b (some (nI (cwOf ls (chainOf u D ls b)))) none none none none none none none none none ∧ O = [bagR p q]) (sm_forD (as := List.range (((chainOf u D ls b).length : Int) - 1).toNat) (ty := fun i => nI (i : Nat)) (iv_rangeI (i := ((chainOf u D ls b).length : Int) - 1) (ev_subI (ev_is (ev_len (.inl (ev_dat (ev_var rfl)))) (t' := nI ((chainOf u D ls b).length : Nat)) (by rw [List.length_map])) ev_int) (by omega) (by omega)) (fun i Γ O => Γ = gR L p D u ls b (some (nI (stI i))) none none none none none none none none none ∧ O = [bagR p q]) ⟨?_, rfl⟩ ?_ ?_) ?_
    · show _ = gR L p D u ls b (some (nI ((if chainOf u D ls b = [] then 0 else 1) + ((0 : Nat) : Int)))) none none none none none none none none none
      rw [show (((0 : Nat) : Int)) = 0 from rfl, Int.add_zero]
    · rintro i k _ _ ha ⟨rfl, rfl⟩
      have hi : i < (((chainOf u D ls b).length : Int) - 1).toNat := by
        have := (List.getElem?_eq_some_iff.mp ha).1
        rwa [List.length_range] at this
      obtain rfl : k = i := by
        rw [List.getElem?_range hi] at ha
        exact (Option.some.inj ha).symm
      obtain ⟨x, hx⟩ : ∃ x, (chainOf u D ls b)[k]? = some x := ⟨_, List.getElem?_eq_getElem (by omega)⟩
      obtain ⟨y, hy⟩ : ∃ y, (chainOf u D ls b)[k + 1]? = some y := ⟨_, List.getElem?_eq_getElem (by omega)⟩
      have hp := pairs_at hx hy
      obtain ⟨lt, lk⟩ := chain_pairs fit (List.mem_of_getElem? hp)
      have lx := chD x (List.mem_of_getElem? hx)
      have ly := chD y (List.mem_of_getElem? hy)
      refine ⟨_, [5], tg_name (by decide), ?_⟩
      refine sm_then (Γ' := gR L p D u ls b (some (nI (stI k))) (some (nI (k : Nat))) none none none none none (some (dI x)) (some (dI y)) none) (O' := [bagR p q]) (sm_par (ev_ixL (i := ((k : Nat) : Int)) (ev_dat (ev_var rfl)) (ev_var rfl) (atI_nat (by rw [List.getElem?_map, hx]; rfl))) (ev_ixL (i := ((k + 1 : Nat) : Int)) (ev_dat (ev_var rfl)) (ev_is (ev_addI (i := ((k : Nat) : Int)) (ev_var rfl) ev_int) (t' := nI ((k + 1 : Nat) : Int)) (by rw [Int.natCast_add]; rfl)) (atI_nat (by rw [List.getElem?_map, hy]; rfl)))) ?_
      refine sm_then (Γ' := gR L p D u ls b (some (nI (stI k))) (some (nI (k : Nat))) none none (some (dI (psub y x))) none none (some (dI x)) (some (dI y)) none) (O' := [bagR p q]) (sm_set (ev_is (ev_tupTl (ev_mapP0 (as := x.zip y) (d1 := fun p => .int p.1) (d2 := fun p => .int p.2) (f := fun p => .int (p.2 - p.1)) (iv_zipI (ev_var (i := 17) rfl) (ev_var (i := 18) rfl)) (zip_len x y (by omega)) (by decide) (by decide) fun p hp => ev_subI (ev_var rfl) (ev_var rfl))) ?_)) ?_
      · rw [map_zip (fun a b => b - a) PyData.int x y, ahead_eq]
        rfl
      refine sm_then (Γ' := gR L p D u ls b (some (nI (stI k))) (some (nI (k : Nat))) none none (some (dI (psub y x))) (some (dI (psub x y))) none (some (dI x)) (some (dI y)) none) (O' := [bagR p q]) (sm_set (ev_is (ev_tupTl (ev_mapN0 (as := psub y x) (ty := fun i => nI i) (f := fun i => .int (-i)) (iv_I (ev_var (i := 14) rfl)) (by rw [show (psub y x).length = D.length from zw_len _ ly lx]; omega) (by decide) fun i hi => ev_negI (ev_var rfl))) ?_)) ?_
      · rw [← back_eq x y]
        show _ = Ly.Ty.dat (.tuple (((psub y x).map fun i => -i).map .int))
        rw [List.map_map]
        rfl
      refine sm_then (Γ' := gR L p D u ls b (some (nI (stI k))) (some (nI (k : Nat))) none none (some (dI (psub y x))) (some (dI (psub x y))) none (some (dI x)) (some (dI y)) none) (O' := [bagR p q]) (sm_if (b := !true || (!decide (psub y x ∈ ls) && !decide (psub x y ∈ ls))) (ebs_eb (eb_or (eb_not (eb_test (ev_call (ea_cons (ev_var (i := 8) rfl) (ea_cons (ev_var (i := 17) rfl) (ea_cons (ev_var (i := 18) rfl) ea_nil))) ⟨u, D, x, y, 2, rfl, by decide, okD, lx, ly, wf, by rw [lt]⟩))) fun _ => eb_and (eb_is (eb_test (ev_in (neg := true) (ev_var (i := 14) rfl) (.inl (ev_dat (ev_var (i := 9) rfl))) (shaped_pI _) (shaped_cells _))) (by rw [if_pos rfl, any_cells])) fun _ => eb_is (eb_test (ev_in (neg := true) (ev_var (i := 15) rfl) (.inl (ev_dat (ev_var (i := 9) rfl))) (shaped_pI _) (shaped_cells _))) (by rw [if_pos rfl, any_cells]))) (fun hb => ?_) fun _ => sm_next ⟨rfl, rfl⟩) ?_
      · exfalso
        rcases lk with h2 | h2
        · rw [decide_eq_true h2, Bool.not_true, Bool.and_false] at hb; cases hb
        · rw [decide_eq_true h2] at hb; cases hb
      refine sm_fgt (sm_weak (sm_set (t := nI (stI (k + 1))) (ev_is (ev_addI (ev_var rfl) (ev_intB (ev_is (ev_in (neg := false) (ev_var (i := 15) rfl) (.inl (ev_dat (ev_var (i := 9) rfl))) (shaped_pI _) (shaped_cells _)) (t' := bI (decide (psub x y ∈ ls))) (by rw [if_neg Bool.false_ne_true, any_cells])))) ?_)) (fun Γ O ⟨h1, h2⟩ => ⟨gR L p D u ls b (some (nI (stI (k + 1)))) none none none none none none none none none, by subst h1; (repeat (first | exact Ly.Wk.nil | apply Ly.Wk.keep | apply Ly.Wk.drop)), rfl, h2⟩) fun _ _ h => h)
      have z : stI (k + 1) = stI k + (if decide (psub x y ∈ ls) = true then 1 else 0) := by
        show (if chainOf u D ls b = [] then (0 : Int) else 1) + (((((pairsOf' (chainOf u D ls b)).take (k + 1)).filter fun p => decide (psub p.1 p.2 ∈ ls)).length : Nat) : Int) = _
        rw [filter_take _ hp, Int.natCast_add, ← Int.add_assoc]
        congr 1
        show (((if decide (psub x y ∈ ls) = true then 1 else 0 : Nat)) : Int) = _
        split <;> rfl
      rw [z]
    · rintro _ _ ⟨rfl, rfl⟩
      refine ⟨?_, rfl⟩
      have e : stI (List.range (((chainOf u D ls b).length : Int) - 1).toNat).length = cwOf ls (chainOf u D ls b) := by
        rw [List.length_range]
        show (if chainOf u D ls b = [] then (0 : Int) else 1) + (((((pairsOf' (chainOf u D ls b)).take (((chainOf u D ls b).length : Int) - 1).toNat).filter fun p => decide (psub p.1 p.2 ∈ ls)).length : Nat) : Int) = _
        rw [List.take_of_length_le (by rw [pairs_len]; omega)]
        rfl
      rw [e]
    rintro _ _ ⟨rfl, rfl⟩
    have hw := waves_len (T := u) (D := D) (ls := ls) (b := b)
    have hs := chain_steps (T := u) fit
    have hsw : cwOf ls (chainOf u D ls b) = ((wavesOf u D ls b).length : Nat) := hs.trans hw.symm
    let cw : Option Ly.Ty := some (nI (cwOf ls (chainOf u D ls b)))
    have ln : ∀ Γ : Ev, Γ[12]? = some (some (.tl (wavD (wavesOf u D ls b)))) → EvD K C (tCB (rLenU K) (tCons (tVar 12) tNil)) Γ (nI ((wavesOf u D ls b).length : Nat)) := fun Γ e => ev_is (ev_len (.inl (ev_dat (ev_var e)))) (by rw [List.length_map])
    refine sm_then (Γ' := gR L p D u ls b cw none none none none none none none none none) (O' := [bagR p q]) (sm_if (b := false || !true) (ebs_eb (eb_or (eb_is (eb_test (ev_neD (ev_var (i := 4) rfl) (ln _ rfl) rfl rfl)) (by rw [eqv_int, decide_eq_true hsw]; rfl)) fun _ => eb_not (eb_test (ev_call (ea_cons (ev_call (ea_cons (ev_var (i := 10) rfl) (ea_cons (ev_dat (ev_var (i := 9) rfl)) (ea_cons (ev_dat (ev_var (i := 13) rfl)) ea_nil))) ⟨u, D, ls, chainOf u D ls b, 2, rfl, by decide, okD, wf, okL, by omega, chD, fun p hp => chain_pairs fit hp, rfl⟩) (ea_cons (ln _ rfl) ea_nil)) ⟨_, _, rfl, by rw [decide_eq_true hsw]⟩)))) (fun h => nomatch h) fun _ => sm_next ⟨rfl, rfl⟩) ?_
    -- numbers
    refine sm_ownD fun dp => ?_
    have hfl : (wavesOf u D ls b).flatten.length ≤ 2000 := by
      rw [(flat_perm (T := u) fit).length_eq]
      exact hcl
    refine sm_seq (M := fun Γ O => Γ = gR L p D u ls b cw none (some (.own dp)) none none none none none none none ∧ O = [dicR dp (flatW (wavesOf u D ls b)), bagR p q]) (sm_forD (as := List.range (wavesOf u D ls b).length) (ty := fun i => nI (i : Nat)) (iv_range (ln _ rfl) (by have := top_le (T := u) fit; omega)) (fun i Γ O => Γ = gR L p D u ls b cw none (some (.own dp)) none none none none none none none ∧ O = [dicR dp (flatW ((wavesOf u D ls b).take i)), bagR p q]) ⟨rfl, rfl⟩ ?_ ?_) ?_
    · rintro i k _ _ ha ⟨rfl, rfl⟩
      have hi : i < (wavesOf u D ls b).length := by
        have := (List.getElem?_eq_some_iff.mp ha).1
        rwa [List.length_range] at this
      obtain rfl : k = i := by
        rw [List.getElem?_range hi] at ha
        exact (Option.some.inj ha).symm
      obtain ⟨wv, hwv⟩ : ∃ wv, (wavesOf u D ls b)[k]? = some wv := ⟨_, List.getElem?_eq_getElem hi⟩
      refine ⟨_, [5], tg_name (by decide), sm_fgt ?_⟩
      refine sm_forD (as := wv) (ty := fun c => dI c) (iv_of_map (g := pI) (ty := Ly.Ty.dat) (iv_L (ev_ixL (i := ((k : Nat) : Int)) (ev_dat (ev_var rfl)) (ev_var rfl) (atI_nat (by rw [List.getElem?_map, hwv]; rfl))))) (fun j Γ O => ∃ x7, Γ = gR L p D u ls b cw (some (nI (k : Nat))) (some (.own dp)) x7 none none none none none none ∧ O = [dicR dp (fillI (wavesOf u D ls b) k wv j), bagR p q]) ⟨none, rfl, ?_⟩ ?_ ?_
      · unfold fillI
        rw [List.take_zero]
        show _ = [dicR dp (_ ++ []), _]
        rw [List.append_nil]
      · rintro j c _ _ hc ⟨x7, rfl, rfl⟩
        refine ⟨_, [7], tg_name (by decide), sm_weak (sm_dput (i := 6) (j := 0) (l := c) (n := ((k : Nat) : Int)) rfl rfl (es_ev (ev_var (i := 5) rfl)) (ev_var (i := 7) rfl) ?_) (fun Γ O ⟨h1, h2⟩ => ⟨_, h1, by rw [h2, fill_step flat_nodup hwv hc]; rfl⟩) fun _ _ h => h⟩
        have h1 := congrArg List.length (fill_keys (wavesOf u D ls b) k wv j)
        rw [List.length_map] at h1
        have h2 := (fill_sub hwv j).length_le
        omega
      · rintro _ _ ⟨x7, rfl, rfl⟩
        refine ⟨gR L p D u ls b cw none (some (.own dp)) none none none none none none none, by (repeat (first | exact Ly.Wk.nil | apply Ly.Wk.keep | apply Ly.Wk.drop)), rfl, ?_⟩
        rw [flat_snoc hwv]
        unfold fillI
        rw [List.take_length]
    · rintro _ _ ⟨rfl, rfl⟩
      rw [List.length_range, List.take_length]
      exact ⟨rfl, rfl⟩
    rintro _ _ ⟨rfl, rfl⟩
    refine sm_frz (i := 6) rfl looks_dic rfl ?_
    let Nm : Option Ly.Ty := some (.dc (flatW (wavesOf u D ls b)))
    have cellsE : ∀ Γ : Ev, Γ[11]? = some (some (dI b)) → EvD K C (tCall (FnD K C R__law_cells) [] E0 (tCons (tVar 11) tNil)) Γ (.tl ((cellsOf b).map pI)) := fun Γ e => ev_call (ea_cons (ev_var e) ea_nil) ⟨b, rfl, by rw [okB.len]; exact hD, okB.each, rfl⟩
    have keys : (flatW (wavesOf u D ls b)).map (fun p => PyData.tuple (p.1.map .int)) = (wavesOf u D ls b).flatten.map pI := by
      rw [← flatW_keys, List.map_map]
      rfl
    have lu : ∀ c ∈ cellsOf b, (flatW (wavesOf u D ls b)).lookup c = some (numN u D ls b c - 1) := fun c hc => by
      rw [lookup_mem (by rw [flatW_keys]; exact (flat_mem fit).mpr hc), flat_look fit hc]
    refine sm_then (Γ' := gR L p D u ls b cw none Nm none none none none none none none) (O' := [bagR p q]) (sm_if (b := false || false) (ebs_eb (eb_or (eb_is (eb_test (ev_neD (ev_dat (ev_is (ev_sorted (.inl (ev_dat (ev_listC (kvs := flatW (wavesOf u D ls b)) (ev_var rfl)))) (alike_cells _) (sortable_cells fun pr hpr => ?_) ?_ ?_) (t' := .tl ((cellsOf b).map pI)) ?_)) (ev_dat (cellsE _ rfl)) (shaped_cells _) (shaped_cells _))) ?_) fun _ => eb_is (eb_test (ev_neD (ev_sum (l := (wavesOf u D ls b).map fun wv => (wv.length : Int)) (ev_dat (ev_is (ev_mapN0 (as := wavesOf u D ls b) (ty := fun wv => .dat (.list (wv.map pI))) (f := fun wv => .int (wv.length : Nat)) (iv_of_map (g := fun wv : List (List Int) => PyData.list (wv.map pI)) (ty := Ly.Ty.dat) (iv_L (ev_dat (ev_var rfl)))) ?_ (by decide) fun wv hwv => ev_is (ev_len (.inl (ev_var rfl))) (by rw [List.length_map])) (by rw [List.map_map]; rfl)))) (ev_call (ea_cons (ev_var (i := 11) rfl) ea_nil) ⟨b, rfl, okB.small, rfl⟩) rfl rfl)) ?_)) (fun h => nomatch h) fun _ => sm_next ⟨rfl, rfl⟩) ?_
    · intro e
      have hk : pr.1 ∈ (wavesOf u D ls b).flatten := by
        rw [← flatW_keys]
        exact List.mem_map.mpr ⟨pr, hpr, rfl⟩
      have h1 := cellsOf_dim _ ((flat_mem fit).mp hk)
      rw [e] at h1
      exact box_ne okD okB (List.length_eq_zero_iff.mp h1.symm)
    · rw [keys, List.length_map]
      omega
    · intro d hd
      rw [keys] at hd
      obtain ⟨l, _, rfl⟩ := List.mem_map.mp hd
      rw [depth_pI]
      decide
    · rw [keys, srtd_cells (flat_perm fit)]
    · rw [eqv_cells, decide_eq_true rfl]
      rfl
    · have := top_le (T := u) fit
      omega
    · rw [eqv_int]
      have e1 : ((wavesOf u D ls b).map fun wv => (wv.length : Int)).sum = ((wavesOf u D ls b).flatten.length : Nat) := by
        rw [List.length_flatten]
        generalize wavesOf u D ls b = ws
        induction ws with
        | nil => rfl
        | cons a r ih =>
          rw [List.map_cons, List.sum_cons, List.map_cons, List.sum_cons, ih, Int.natCast_add]
      have e2 := cells_vol fun i hi => (okB.each i hi).1
      rw [e1, (flat_perm (T := u) fit).length_eq, decide_eq_true e2]
      rfl
    refine sm_fgt (sm_forD (as := cellsOf b) (ty := fun c => dI c) (iv_of_map (g := pI) (ty := Ly.Ty.dat) (iv_L (ev_dat (cellsE _ rfl)))) (fun i Γ O => ∃ x7 x16 x19, Γ = gR L p D u ls b cw none Nm x7 none none x16 none none x19 ∧ O = [bagR p q]) ⟨none, none, none, rfl, rfl⟩ ?_ ?_)
    · rintro i c _ _ hc0 ⟨x7, x16, x19, rfl, rfl⟩
      have hc := List.mem_of_getElem? hc0
      have lc := (cellsOf_dim c hc).trans okB.len
      refine ⟨_, [7], tg_name (by decide), ?_⟩
      refine sm_forD (as := ls) (ty := fun c => dI c) (iv_of_map (g := pI) (ty := Ly.Ty.dat) (iv_L (ev_dat (ev_var (i := 9) rfl)))) (fun j Γ O => ∃ x16 x19, Γ = gR L p D u ls b cw none Nm (some (dI c)) none none x16 none none x19 ∧ O = [bagR p q]) ⟨x16, x19, rfl, rfl⟩ ?_ fun _ _ ⟨x16, x19, h1, h2⟩ => ⟨_, x16, x19, h1, h2⟩
      rintro j l _ _ hl0 ⟨x16, x19, rfl, rfl⟩
      have hl := List.mem_of_getElem? hl0
      have ll := fit.looks l hl
      have lp : (padd c l).length = D.length := zw_len _ lc ll
      refine ⟨_, [16], tg_name (by decide), ?_⟩
      refine sm_then (Γ' := gR L p D u ls b cw none Nm (some (dI c)) none none (some (dI l)) none none (some (dI (padd c l)))) (O' := [bagR p q]) (sm_set (ev_call (ea_cons (ev_var (i := 7) rfl) (ea_cons (ev_var (i := 16) rfl) ea_nil)) ⟨c, l, rfl, by omega, rfl⟩)) ?_
      refine sm_if (b := inBox b (padd c l) && false) (ebs_eb (eb_and (eb_test (ev_call (ea_cons (ev_var (i := 11) rfl) (ea_cons (ev_var (i := 19) rfl) ea_nil)) ⟨b, padd c l, rfl, by omega, rfl⟩)) fun hin => eb_is (eb_test (ev_neD (ev_ltI (ev_dget (l := padd c l) (ev_var (i := 6) rfl) (ev_var (i := 19) rfl) (lu _ (mem_cells.mpr ⟨lp.trans fit.box.symm, hin⟩))) (ev_dget (l := c) (ev_var (i := 6) rfl) (ev_var (i := 7) rfl) (lu _ hc))) (ev_call (ea_cons (ev_var (i := 8) rfl) (ea_cons (ev_var (i := 19) rfl) (ea_cons (ev_var (i := 7) rfl) ea_nil))) ⟨u, D, padd c l, c, 2, rfl, by decide, okD, lp, lc, wf, rfl⟩) rfl rfl)) ?_)) (fun h => ?_) fun _ => sm_next ⟨_, _, rfl, rfl⟩
      · have e := sees (T := u) fit (fun l hl => (okL.each l hl).2.1) hc hl hin
        rw [eqv_bool, ← e, decide_eq_true (decide_eq_decide.mpr (by omega))]
        rfl
      · rw [Bool.and_false] at h
        cases h
    · rintro _ _ ⟨x7, x16, x19, rfl, rfl⟩
      exact ⟨G0, by (repeat (first | exact Ly.Wk.nil | apply Ly.Wk.keep | apply Ly.Wk.drop)), rfl, rfl⟩
  · rintro _ _ ⟨rfl, rfl⟩
    obtain ⟨d1, w1, l1, b1⟩ := chain4_ok
    refine sm_ret (ev_is (ev_eqD (ev_dat (ev_callN (ea_cons (ev_make (D := [1]) (T := Tr.leaf.toD) (n := vol [1]) (m := (Tr.leaf.size : Nat)) (dvs := [.ref aL]) (dts := [.dat leafD]) (fun F => .cons (T.leaf F) .nil) (ea_cons (ev_tup (ts := [nI 1]) (ea_cons ev_int ea_nil) rfl (Nat.le_of_ble_eq_true rfl)) ea_nil) ⟨[1], .leaf, rfl, d1, w1, rfl⟩) (ea_cons (ev_dat (ev_lst (ts := [dI [-1]]) (ea_cons (ev_tup (ts := [nI (-1)]) (ea_cons (ev_negI ev_int) ea_nil) rfl (Nat.le_of_ble_eq_true rfl)) ea_nil) rfl (Nat.le_of_ble_eq_true rfl))) (ea_cons (ev_tup (ts := [nI 4]) (ea_cons ev_int ea_nil) rfl (Nat.le_of_ble_eq_true rfl)) ea_nil))) ⟨.leaf, [1], [[-1]], [4], 2, false, rfl, by decide, d1, w1, l1, b1, rfl⟩)) (ev_dat (ev_lst (ts := [dI [0], dI [1], dI [2], dI [3]]) (ea_cons (ev_tup (ts := [nI 0]) (ea_cons ev_int ea_nil) rfl (Nat.le_of_ble_eq_true rfl)) (ea_cons (ev_tup (ts := [nI 1]) (ea_cons ev_int ea_nil) rfl (Nat.le_of_ble_eq_true rfl)) (ea_cons (ev_tup (ts := [nI 2]) (ea_cons ev_int ea_nil) rfl (Nat.le_of_ble_eq_true rfl)) (ea_cons (ev_tup (ts := [nI 3]) (ea_cons ev_int ea_nil) rfl (Nat.le_of_ble_eq_true rfl)) ea_nil)))) rfl (Nat.le_of_ble_eq_true rfl))) (shaped_cells _) (shaped_cells [[0], [1], [2], [3]])) ?_) rfl
    have e := eqv_cells (chainOf .leaf [1] [[-1]] [4]) [[0], [1], [2], [3]]
    rw [chain4, decide_eq_true rfl] at e
    rw [chain4]
    exact congrArg (fun b => Ly.Ty.dat (.bool b)) e
end
end Lk
namespace Lk
open PySem PySem.Spec PyProof.Rows L2 Ly
def spLaw (K : PySem.W.Frag) : Sp := fun vs H Q _ => ∃ (a : Addr) (ns : List Int), vs = [.ref a] ∧ SqL K H a (ns.map V.int) ∧ ns.length ≤ 1000 ∧ ∀ H', Q (.bl true) H'
theorem law_sp {P : Program} {w : World} {K : PySem.W.Frag} {mg : Str → Option Value} {base : Heap} {C f : Addr} {fd : FuncData} {ps : List Str} {k : Nat} (h : FnOk P w K mg base CX0 k f fd ps (FnD K C R_law)) : FnOk P w K mg base CX0 k f fd ps (spLaw K) := by
  have im : ∀ vs H Q E, spLaw K vs H Q E → FnD K C R_law vs H Q E := fun vs H Q E ⟨a, ns, e, hs, hn, q⟩ => by
    subst e
    refine ⟨⟨H, H, Same.refl H⟩, [.dat (.list (ns.map .int))], bI true, rfl, .cons (.lst hs (dpAll_of_ints ns)) .nil, ⟨ns, rfl, hn, rfl⟩, fun v W' _ b => ?_⟩
    have e := dp_bl b
    subst e
    exact q _
  exact ⟨fun vs H Q E z => h.len vs H Q E (im vs H Q E z), fun A outer s H args us vs Q E h1 h2 h3 h4 z => h.run A outer s H args us vs Q E h1 h2 h3 h4 (im vs H Q E z)⟩
theorem all_mk {l : PySem.W.OpenLaw} {w : World} {K : PySem.W.Frag} {h : Heap} {mg : Str → Option Value} {fa C aL dT pD f1 f2 f3 f4 f5 f6 f7 f8 f9 f10 f52 f11 f12 f13 f14 f15 f16 f17 f18 f19 f20 f21 f22 f23 f24 f25 f26 f27 f28 f29 f30 f31 f32 f33 f34 f35 f36 f37 f38 f39 f40 f41 f42 f43 f44 f45 f46 f47 f48 f49 f50 f51 : Addr} (X : K.In h) (G : h.Ns mainGlobals mg) (hfa : mg "law" = some (.ref fa))
    {od1 an1 od2 an2 od3 an3 od4 an4 od5 an5 od6 an6 od7 an7 od8 an8 od9 an9 od10 an10 od52 an52 od11 an11 od12 an12 od13 an13 od14 an14 od15 an15 od16 an16 od17 an17 od18 an18 od19 an19 od20 an20 od21 an21 od22 an22 od23 an23 od24 an24 od25 an25 od26 an26 od27 an27 od28 an28 od29 an29 od30 an30 od31 an31 od32 an32 od33 an33 od34 an34 od35 an35 od36 an36 od37 an37 od38 an38 od39 an39 od40 an40 od41 an41 od42 an42 od43 an43 od44 an44 od45 an45 od46 an46 od47 an47 od48 an48 od49 an49 od50 an50 od51 an51 : Option Addr} {sl1 sl2 sl3 sl4 sl5 sl6 sl7 sl8 sl9 sl10 sl52 sl11 sl12 sl13 sl14 sl15 sl16 sl17 sl18 sl19 sl20 sl21 sl22 sl23 sl24 sl25 sl26 sl27 sl28 sl29 sl30 sl31 sl32 sl33 sl34 sl35 sl36 sl37 sl38 sl39 sl40 sl41 sl42 sl43 sl44 sl45 sl46 sl47 sl48 sl49 sl50 sl51 : Array (Option Value)} {oc1 kV1 dc1 pm1 cd1 ct1 oc2 kV2 dc2 pm2 cd2 ct2 oc3 kV3 dc3 pm3 cd3 ct3 oc4 kV4 dc4 pm4 cd4 ct4 oc5 kV5 dc5 pm5 cd5 ct5 oc6 kV6 dc6 pm6 cd6 ct6 oc7 kV7 dc7 pm7 cd7 ct7 oc8 kV8 dc8 pm8 cd8 ct8 oc9 kV9 dc9 pm9 cd9 ct9 oc10 kV10 dc10 pm10 cd10 ct10 oc52 kV52 dc52 pm52 cd52 ct52 oc11 kV11 dc11 pm11 cd11 ct11 oc12 kV12 dc12 pm12 cd12 ct12 oc13 kV13 dc13 pm13 cd13 ct13 oc14 kV14 dc14 pm14 cd14 ct14 oc15 kV15 dc15 pm15 cd15 ct15 oc16 kV16 dc16 pm16 cd16 ct16 oc17 kV17 dc17 pm17 cd17 ct17 oc18 kV18 dc18 pm18 cd18 ct18 oc19 kV19 dc19 pm19 cd19 ct19 oc20 kV20 dc20 pm20 cd20 ct20 oc21 kV21 dc21 pm21 cd21 ct21 oc22 kV22 dc22 pm22 cd22 ct22 oc23 kV23 dc23 pm23 cd23 ct23 oc24 kV24 dc24 pm24 cd24 ct24 oc25 kV25 dc25 pm25 cd25 ct25 oc26 kV26 dc26 pm26 cd26 ct26 oc27 kV27 dc27 pm27 cd27 ct27 oc28 kV28 dc28 pm28 cd28 ct28 oc29 kV29 dc29 pm29 cd29 ct29 oc30 kV30 dc30 pm30 cd30 ct30 oc31 kV31 dc31 pm31 cd31 ct31 oc32 kV32 dc32 pm32 cd32 ct32 oc33 kV33 dc33 pm33 cd33 ct33 oc34 kV34 dc34 pm34 cd34 ct34 oc35 kV35 dc35 pm35 cd35 ct35 oc36 kV36 dc36 pm36 cd36 ct36 oc37 kV37 dc37 pm37 cd37 ct37 oc38 kV38 dc38 pm38 cd38 ct38 oc39 kV39 dc39 pm39 cd39 ct39 oc40 kV40 dc40 pm40 cd40 ct40 oc41 kV41 dc41 pm41 cd41 ct41 oc42 kV42 dc42 pm42 cd42 ct42 oc43 kV43 dc43 pm43 cd43 ct43 oc44 kV44 dc44 pm44 cd44 ct44 oc45 kV45 dc45 pm45 cd45 ct45 oc46 kV46 dc46 pm46 cd46 ct46 oc47 kV47 dc47 pm47 cd47 ct47 oc48 kV48 dc48 pm48 cd48 ct48 oc49 kV49 dc49 pm49 cd49 ct49 oc50 kV50 dc50 pm50 cd50 ct50 oc51 kV51 dc51 pm51 cd51 ct51 : Value} {pRest : List Value} {cT : Value} {ddT ddL : Option Addr} {nT nL : Nat} {slT slL : Array (Option Value)} {tL t_MAX_LOOKS t_MAX_REACH t_MAX_DIRECTIONS t_MAX_CLASSES t_MAX_CELLS t_MAX_DEPTH t_MAX_NODES : Tok}
    (aC : PySem.W.nsIn K mainGlobals "Scan" = some (some (.ref C)))
    (a1 : PySem.W.nsIn K mainGlobals "times" = some (some (.ref f1)))
    (l1 : K.lookup f1 = some ⟨oc1, od1, .func (PySem.W.fnOf "times" "times" (defArgs s_times) (defBody s_times) (defScope s_times) .none kV1 dc1 pm1 an1 cd1 ct1), sl1⟩)
    (c1 : PySem.W.codeIn K cd1 "times" = true)
    (k1 : PySem.W.keepIn K (.ref f1) = true)
    (a2 : PySem.W.nsIn K mainGlobals "group_at" = some (some (.ref f2)))
    (l2 : K.lookup f2 = some ⟨oc2, od2, .func (PySem.W.fnOf "group_at" "group_at" (defArgs s_group_at) (defBody s_group_at) (defScope s_group_at) .none kV2 dc2 pm2 an2 cd2 ct2), sl2⟩)
    (c2 : PySem.W.codeIn K cd2 "group_at" = true)
    (k2 : PySem.W.keepIn K (.ref f2) = true)
    (a3 : PySem.W.nsIn K mainGlobals "class_at" = some (some (.ref f3)))
    (l3 : K.lookup f3 = some ⟨oc3, od3, .func (PySem.W.fnOf "class_at" "class_at" (defArgs s_class_at) (defBody s_class_at) (defScope s_class_at) .none kV3 dc3 pm3 an3 cd3 ct3), sl3⟩)
    (c3 : PySem.W.codeIn K cd3 "class_at" = true)
    (k3 : PySem.W.keepIn K (.ref f3) = true)
    (a4 : PySem.W.nsIn K mainGlobals "path_of" = some (some (.ref f4)))
    (l4 : K.lookup f4 = some ⟨oc4, od4, .func (PySem.W.fnOf "path_of" "path_of" (defArgs s_path_of) (defBody s_path_of) (defScope s_path_of) .none kV4 dc4 pm4 an4 cd4 ct4), sl4⟩)
    (c4 : PySem.W.codeIn K cd4 "path_of" = true)
    (k4 : PySem.W.keepIn K (.ref f4) = true)
    (a5 : PySem.W.nsIn K mainGlobals "is_number" = some (some (.ref f5)))
    (l5 : K.lookup f5 = some ⟨oc5, od5, .func (PySem.W.fnOf "is_number" "is_number" (defArgs s_is_number) (defBody s_is_number) (defScope s_is_number) .none kV5 dc5 pm5 an5 cd5 ct5), sl5⟩)
    (c5 : PySem.W.codeIn K cd5 "is_number" = true)
    (k5 : PySem.W.keepIn K (.ref f5) = true)
    (a6 : PySem.W.nsIn K mainGlobals "are_numbers" = some (some (.ref f6)))
    (l6 : K.lookup f6 = some ⟨oc6, od6, .func (PySem.W.fnOf "are_numbers" "are_numbers" (defArgs s_are_numbers) (defBody s_are_numbers) (defScope s_are_numbers) .none kV6 dc6 pm6 an6 cd6 ct6), sl6⟩)
    (c6 : PySem.W.codeIn K cd6 "are_numbers" = true)
    (k6 : PySem.W.keepIn K (.ref f6) = true)
    (a7 : PySem.W.nsIn K mainGlobals "need_box" = some (some (.ref f7)))
    (l7 : K.lookup f7 = some ⟨oc7, od7, .func (PySem.W.fnOf "need_box" "need_box" (defArgs s_need_box) (defBody s_need_box) (defScope s_need_box) .none kV7 dc7 pm7 an7 cd7 ct7), sl7⟩)
    (c7 : PySem.W.codeIn K cd7 "need_box" = true)
    (k7 : PySem.W.keepIn K (.ref f7) = true)
    (a8 : PySem.W.nsIn K mainGlobals "cell_count" = some (some (.ref f8)))
    (l8 : K.lookup f8 = some ⟨oc8, od8, .func (PySem.W.fnOf "cell_count" "cell_count" (defArgs s_cell_count) (defBody s_cell_count) (defScope s_cell_count) .none kV8 dc8 pm8 an8 cd8 ct8), sl8⟩)
    (c8 : PySem.W.codeIn K cd8 "cell_count" = true)
    (k8 : PySem.W.keepIn K (.ref f8) = true)
    (a9 : PySem.W.nsIn K mainGlobals "need_cells" = some (some (.ref f9)))
    (l9 : K.lookup f9 = some ⟨oc9, od9, .func (PySem.W.fnOf "need_cells" "need_cells" (defArgs s_need_cells) (defBody s_need_cells) (defScope s_need_cells) .none kV9 dc9 pm9 an9 cd9 ct9), sl9⟩)
    (c9 : PySem.W.codeIn K cd9 "need_cells" = true)
    (k9 : PySem.W.keepIn K (.ref f9) = true)
    (a10 : PySem.W.findIn K (.ref C) "order" = some (some (.ref f10)))
    (i10 : PySem.W.isFn K (.ref f10) = true)
    (l10 : K.lookup f10 = some ⟨oc10, od10, .func (PySem.W.fnOf "order" "Scan.order" (defArgs s_Scan_order) (defBody s_Scan_order) (defScope s_Scan_order) .none kV10 dc10 pm10 an10 cd10 ct10), sl10⟩)
    (c10 : PySem.W.codeIn K cd10 "Scan.order" = true)
    (k10 : PySem.W.keepIn K (.ref f10) = true)
    (a52 : PySem.W.nsIn K mainGlobals "cells" = some (some (.ref f52)))
    (l52 : K.lookup f52 = some ⟨oc52, od52, .func (PySem.W.fnOf "cells" "cells" (defArgs s_cells) (defBody s_cells) (defScope s_cells) .none kV52 dc52 pm52 an52 cd52 ct52), sl52⟩)
    (c52 : PySem.W.codeIn K cd52 "cells" = true)
    (k52 : PySem.W.keepIn K (.ref f52) = true)
    (a11 : PySem.W.nsIn K mainGlobals "need_place" = some (some (.ref f11)))
    (l11 : K.lookup f11 = some ⟨oc11, od11, .func (PySem.W.fnOf "need_place" "need_place" (defArgs s_need_place) (defBody s_need_place) (defScope s_need_place) .none kV11 dc11 pm11 an11 cd11 ct11), sl11⟩)
    (c11 : PySem.W.codeIn K cd11 "need_place" = true)
    (k11 : PySem.W.keepIn K (.ref f11) = true)
    (a12 : PySem.W.nsIn K mainGlobals "sign_of" = some (some (.ref f12)))
    (l12 : K.lookup f12 = some ⟨oc12, od12, .func (PySem.W.fnOf "sign_of" "sign_of" (defArgs s_sign_of) (defBody s_sign_of) (defScope s_sign_of) .none kV12 dc12 pm12 an12 cd12 ct12), sl12⟩)
    (c12 : PySem.W.codeIn K cd12 "sign_of" = true)
    (k12 : PySem.W.keepIn K (.ref f12) = true)
    (a13 : PySem.W.findIn K (.ref C) "__call__" = some (some (.ref f13)))
    (i13 : PySem.W.isFn K (.ref f13) = true)
    (l13 : K.lookup f13 = some ⟨oc13, od13, .func (PySem.W.fnOf "__call__" "Scan.__call__" (defArgs s_Scan___call__) (defBody s_Scan___call__) (defScope s_Scan___call__) .none kV13 dc13 pm13 an13 cd13 ct13), sl13⟩)
    (c13 : PySem.W.codeIn K cd13 "Scan.__call__" = true)
    (k13 : PySem.W.keepIn K (.ref f13) = true)
    (g13 : PySem.W.fnIn K f13 = true)
    (a14 : PySem.W.nsIn K mainGlobals "plus" = some (some (.ref f14)))
    (l14 : K.lookup f14 = some ⟨oc14, od14, .func (PySem.W.fnOf "plus" "plus" (defArgs s_plus) (defBody s_plus) (defScope s_plus) .none kV14 dc14 pm14 an14 cd14 ct14), sl14⟩)
    (c14 : PySem.W.codeIn K cd14 "plus" = true)
    (k14 : PySem.W.keepIn K (.ref f14) = true)
    (a15 : PySem.W.nsIn K mainGlobals "minus" = some (some (.ref f15)))
    (l15 : K.lookup f15 = some ⟨oc15, od15, .func (PySem.W.fnOf "minus" "minus" (defArgs s_minus) (defBody s_minus) (defScope s_minus) .none kV15 dc15 pm15 an15 cd15 ct15), sl15⟩)
    (c15 : PySem.W.codeIn K cd15 "minus" = true)
    (k15 : PySem.W.keepIn K (.ref f15) = true)
    (a16 : PySem.W.nsIn K mainGlobals "is_in" = some (some (.ref f16)))
    (l16 : K.lookup f16 = some ⟨oc16, od16, .func (PySem.W.fnOf "is_in" "is_in" (defArgs s_is_in) (defBody s_is_in) (defScope s_is_in) .none kV16 dc16 pm16 an16 cd16 ct16), sl16⟩)
    (c16 : PySem.W.codeIn K cd16 "is_in" = true)
    (k16 : PySem.W.keepIn K (.ref f16) = true)
    (a17 : PySem.W.nsIn K mainGlobals "causes" = some (some (.ref f17)))
    (l17 : K.lookup f17 = some ⟨oc17, od17, .func (PySem.W.fnOf "causes" "causes" (defArgs s_causes) (defBody s_causes) (defScope s_causes) .none kV17 dc17 pm17 an17 cd17 ct17), sl17⟩)
    (c17 : PySem.W.codeIn K cd17 "causes" = true)
    (k17 : PySem.W.keepIn K (.ref f17) = true)
    (a18 : PySem.W.nsIn K mainGlobals "numbered" = some (some (.ref f18)))
    (l18 : K.lookup f18 = some ⟨oc18, od18, .func (PySem.W.fnOf "numbered" "numbered" (defArgs s_numbered) (defBody s_numbered) (defScope s_numbered) .none kV18 dc18 pm18 an18 cd18 ct18), sl18⟩)
    (c18 : PySem.W.codeIn K cd18 "numbered" = true)
    (k18 : PySem.W.keepIn K (.ref f18) = true)
    (aP : PySem.W.findIn K (.ref C) "directions" = some (some (.ref pD)))
    (pG : PySem.W.specialIn K (.ref pD) "__get__" = some (some (.builtin "property.__get__")))
    (pT : PySem.W.takesIn K (.ref pD) = some true)
    (pR : PySem.W.recIn K pD "property" = some (.ref f19 :: pRest))
    (l19 : K.lookup f19 = some ⟨oc19, od19, .func (PySem.W.fnOf "directions" "Scan.directions" (defArgs s_Scan_directions) (defBody s_Scan_directions) (defScope s_Scan_directions) .none kV19 dc19 pm19 an19 cd19 ct19), sl19⟩)
    (c19 : PySem.W.codeIn K cd19 "Scan.directions" = true)
    (k19 : PySem.W.keepIn K (.ref f19) = true)
    (a20 : PySem.W.nsIn K mainGlobals "is_look" = some (some (.ref f20)))
    (l20 : K.lookup f20 = some ⟨oc20, od20, .func (PySem.W.fnOf "is_look" "is_look" (defArgs s_is_look) (defBody s_is_look) (defScope s_is_look) .none kV20 dc20 pm20 an20 cd20 ct20), sl20⟩)
    (c20 : PySem.W.codeIn K cd20 "is_look" = true)
    (k20 : PySem.W.keepIn K (.ref f20) = true)
    (a21 : PySem.W.nsIn K mainGlobals "need_looks" = some (some (.ref f21)))
    (l21 : K.lookup f21 = some ⟨oc21, od21, .func (PySem.W.fnOf "need_looks" "need_looks" (defArgs s_need_looks) (defBody s_need_looks) (defScope s_need_looks) .none kV21 dc21 pm21 an21 cd21 ct21), sl21⟩)
    (c21 : PySem.W.codeIn K cd21 "need_looks" = true)
    (k21 : PySem.W.keepIn K (.ref f21) = true)
    (a22 : PySem.W.nsIn K mainGlobals "need_all" = some (some (.ref f22)))
    (l22 : K.lookup f22 = some ⟨oc22, od22, .func (PySem.W.fnOf "need_all" "need_all" (defArgs s_need_all) (defBody s_need_all) (defScope s_need_all) .none kV22 dc22 pm22 an22 cd22 ct22), sl22⟩)
    (c22 : PySem.W.codeIn K cd22 "need_all" = true)
    (k22 : PySem.W.keepIn K (.ref f22) = true)
    (a23 : PySem.W.nsIn K mainGlobals "wave_chain" = some (some (.ref f23)))
    (l23 : K.lookup f23 = some ⟨oc23, od23, .func (PySem.W.fnOf "wave_chain" "wave_chain" (defArgs s_wave_chain) (defBody s_wave_chain) (defScope s_wave_chain) .none kV23 dc23 pm23 an23 cd23 ct23), sl23⟩)
    (c23 : PySem.W.codeIn K cd23 "wave_chain" = true)
    (k23 : PySem.W.keepIn K (.ref f23) = true)
    (a24 : PySem.W.nsIn K mainGlobals "waves" = some (some (.ref f24)))
    (l24 : K.lookup f24 = some ⟨oc24, od24, .func (PySem.W.fnOf "waves" "waves" (defArgs s_waves) (defBody s_waves) (defScope s_waves) .none kV24 dc24 pm24 an24 cd24 ct24), sl24⟩)
    (c24 : PySem.W.codeIn K cd24 "waves" = true)
    (k24 : PySem.W.keepIn K (.ref f24) = true)
    (a25 : PySem.W.nsIn K mainGlobals "chain_waves" = some (some (.ref f25)))
    (l25 : K.lookup f25 = some ⟨oc25, od25, .func (PySem.W.fnOf "chain_waves" "chain_waves" (defArgs s_chain_waves) (defBody s_chain_waves) (defScope s_chain_waves) .none kV25 dc25 pm25 an25 cd25 ct25), sl25⟩)
    (c25 : PySem.W.codeIn K cd25 "chain_waves" = true)
    (k25 : PySem.W.keepIn K (.ref f25) = true)
    (a26 : PySem.W.nsIn K mainGlobals "class_count" = some (some (.ref f26)))
    (l26 : K.lookup f26 = some ⟨oc26, od26, .func (PySem.W.fnOf "class_count" "class_count" (defArgs s_class_count) (defBody s_class_count) (defScope s_class_count) .none kV26 dc26 pm26 an26 cd26 ct26), sl26⟩)
    (c26 : PySem.W.codeIn K cd26 "class_count" = true)
    (k26 : PySem.W.keepIn K (.ref f26) = true)
    (a27 : PySem.W.nsIn K mainGlobals "is_parting" = some (some (.ref f27)))
    (l27 : K.lookup f27 = some ⟨oc27, od27, .func (PySem.W.fnOf "is_parting" "is_parting" (defArgs s_is_parting) (defBody s_is_parting) (defScope s_is_parting) .none kV27 dc27 pm27 an27 cd27 ct27), sl27⟩)
    (c27 : PySem.W.codeIn K cd27 "is_parting" = true)
    (k27 : PySem.W.keepIn K (.ref f27) = true)
    (a28 : PySem.W.nsIn K mainGlobals "is_node" = some (some (.ref f28)))
    (l28 : K.lookup f28 = some ⟨oc28, od28, .func (PySem.W.fnOf "is_node" "is_node" (defArgs s_is_node) (defBody s_is_node) (defScope s_is_node) .none kV28 dc28 pm28 an28 cd28 ct28), sl28⟩)
    (c28 : PySem.W.codeIn K cd28 "is_node" = true)
    (k28 : PySem.W.keepIn K (.ref f28) = true)
    (a29 : PySem.W.nsIn K mainGlobals "below" = some (some (.ref f29)))
    (l29 : K.lookup f29 = some ⟨oc29, od29, .func (PySem.W.fnOf "below" "below" (defArgs s_below) (defBody s_below) (defScope s_below) .none kV29 dc29 pm29 an29 cd29 ct29), sl29⟩)
    (c29 : PySem.W.codeIn K cd29 "below" = true)
    (k29 : PySem.W.keepIn K (.ref f29) = true)
    (a30 : PySem.W.nsIn K mainGlobals "is_tree" = some (some (.ref f30)))
    (l30 : K.lookup f30 = some ⟨oc30, od30, .func (PySem.W.fnOf "is_tree" "is_tree" (defArgs s_is_tree) (defBody s_is_tree) (defScope s_is_tree) .none kV30 dc30 pm30 an30 cd30 ct30), sl30⟩)
    (c30 : PySem.W.codeIn K cd30 "is_tree" = true)
    (k30 : PySem.W.keepIn K (.ref f30) = true)
    (a31 : PySem.W.nsIn K mainGlobals "node_count" = some (some (.ref f31)))
    (l31 : K.lookup f31 = some ⟨oc31, od31, .func (PySem.W.fnOf "node_count" "node_count" (defArgs s_node_count) (defBody s_node_count) (defScope s_node_count) .none kV31 dc31 pm31 an31 cd31 ct31), sl31⟩)
    (c31 : PySem.W.codeIn K cd31 "node_count" = true)
    (k31 : PySem.W.keepIn K (.ref f31) = true)
    (a32 : PySem.W.findIn K (.ref C) "__init__" = some (some (.ref f32)))
    (i32 : PySem.W.isFn K (.ref f32) = true)
    (l32 : K.lookup f32 = some ⟨oc32, od32, .func (PySem.W.fnOf "__init__" "Scan.__init__" (defArgs s_Scan___init__) (defBody s_Scan___init__) (defScope s_Scan___init__) (.ref dT) kV32 dc32 pm32 an32 cd32 ct32), sl32⟩)
    (c32 : PySem.W.codeIn K cd32 "Scan.__init__" = true)
    (k32 : PySem.W.keepIn K (.ref f32) = true)
    (lD : K.lookup dT = some ⟨cT, ddT, .seq #[.ref aL] nT, slT⟩)
    (a33 : PySem.W.nsIn K mainGlobals "_law_cells" = some (some (.ref f33)))
    (l33 : K.lookup f33 = some ⟨oc33, od33, .func (PySem.W.fnOf "_law_cells" "_law_cells" (defArgs s__law_cells) (defBody s__law_cells) (defScope s__law_cells) .none kV33 dc33 pm33 an33 cd33 ct33), sl33⟩)
    (c33 : PySem.W.codeIn K cd33 "_law_cells" = true)
    (k33 : PySem.W.keepIn K (.ref f33) = true)
    (a34 : PySem.W.nsIn K mainGlobals "_law_class" = some (some (.ref f34)))
    (l34 : K.lookup f34 = some ⟨oc34, od34, .func (PySem.W.fnOf "_law_class" "_law_class" (defArgs s__law_class) (defBody s__law_class) (defScope s__law_class) .none kV34 dc34 pm34 an34 cd34 ct34), sl34⟩)
    (c34 : PySem.W.codeIn K cd34 "_law_class" = true)
    (k34 : PySem.W.keepIn K (.ref f34) = true)
    (a35 : PySem.W.nsIn K mainGlobals "_law_path" = some (some (.ref f35)))
    (l35 : K.lookup f35 = some ⟨oc35, od35, .func (PySem.W.fnOf "_law_path" "_law_path" (defArgs s__law_path) (defBody s__law_path) (defScope s__law_path) .none kV35 dc35 pm35 an35 cd35 ct35), sl35⟩)
    (c35 : PySem.W.codeIn K cd35 "_law_path" = true)
    (k35 : PySem.W.keepIn K (.ref f35) = true)
    (a36 : PySem.W.nsIn K mainGlobals "_law_before" = some (some (.ref f36)))
    (l36 : K.lookup f36 = some ⟨oc36, od36, .func (PySem.W.fnOf "_law_before" "_law_before" (defArgs s__law_before) (defBody s__law_before) (defScope s__law_before) .none kV36 dc36 pm36 an36 cd36 ct36), sl36⟩)
    (c36 : PySem.W.codeIn K cd36 "_law_before" = true)
    (k36 : PySem.W.keepIn K (.ref f36) = true)
    (a37 : PySem.W.nsIn K mainGlobals "_law_inside" = some (some (.ref f37)))
    (l37 : K.lookup f37 = some ⟨oc37, od37, .func (PySem.W.fnOf "_law_inside" "_law_inside" (defArgs s__law_inside) (defBody s__law_inside) (defScope s__law_inside) .none kV37 dc37 pm37 an37 cd37 ct37), sl37⟩)
    (c37 : PySem.W.codeIn K cd37 "_law_inside" = true)
    (k37 : PySem.W.keepIn K (.ref f37) = true)
    (a38 : PySem.W.nsIn K mainGlobals "_law_plus" = some (some (.ref f38)))
    (l38 : K.lookup f38 = some ⟨oc38, od38, .func (PySem.W.fnOf "_law_plus" "_law_plus" (defArgs s__law_plus) (defBody s__law_plus) (defScope s__law_plus) .none kV38 dc38 pm38 an38 cd38 ct38), sl38⟩)
    (c38 : PySem.W.codeIn K cd38 "_law_plus" = true)
    (k38 : PySem.W.keepIn K (.ref f38) = true)
    (a39 : PySem.W.nsIn K mainGlobals "_law_count" = some (some (.ref f39)))
    (l39 : K.lookup f39 = some ⟨oc39, od39, .func (PySem.W.fnOf "_law_count" "_law_count" (defArgs s__law_count) (defBody s__law_count) (defScope s__law_count) .none kV39 dc39 pm39 an39 cd39 ct39), sl39⟩)
    (c39 : PySem.W.codeIn K cd39 "_law_count" = true)
    (k39 : PySem.W.keepIn K (.ref f39) = true)
    (a40 : PySem.W.nsIn K mainGlobals "_law_same" = some (some (.ref f40)))
    (l40 : K.lookup f40 = some ⟨oc40, od40, .func (PySem.W.fnOf "_law_same" "_law_same" (defArgs s__law_same) (defBody s__law_same) (defScope s__law_same) .none kV40 dc40 pm40 an40 cd40 ct40), sl40⟩)
    (c40 : PySem.W.codeIn K cd40 "_law_same" = true)
    (k40 : PySem.W.keepIn K (.ref f40) = true)
    (a41 : PySem.W.nsIn K mainGlobals "_law_pull" = some (some (.ref f41)))
    (l41 : K.lookup f41 = some ⟨oc41, od41, .func (PySem.W.fnOf "_law_pull" "_law_pull" (defArgs s__law_pull) (defBody s__law_pull) (defScope s__law_pull) .none kV41 dc41 pm41 an41 cd41 ct41), sl41⟩)
    (c41 : PySem.W.codeIn K cd41 "_law_pull" = true)
    (k41 : PySem.W.keepIn K (.ref f41) = true)
    (a42 : PySem.W.nsIn K mainGlobals "_law_box" = some (some (.ref f42)))
    (l42 : K.lookup f42 = some ⟨oc42, od42, .func (PySem.W.fnOf "_law_box" "_law_box" (defArgs s__law_box) (defBody s__law_box) (defScope s__law_box) .none kV42 dc42 pm42 an42 cd42 ct42), sl42⟩)
    (c42 : PySem.W.codeIn K cd42 "_law_box" = true)
    (k42 : PySem.W.keepIn K (.ref f42) = true)
    (a43 : PySem.W.nsIn K mainGlobals "_law_of" = some (some (.ref f43)))
    (l43 : K.lookup f43 = some ⟨oc43, od43, .func (PySem.W.fnOf "_law_of" "_law_of" (defArgs s__law_of) (defBody s__law_of) (defScope s__law_of) .none kV43 dc43 pm43 an43 cd43 ct43), sl43⟩)
    (c43 : PySem.W.codeIn K cd43 "_law_of" = true)
    (k43 : PySem.W.keepIn K (.ref f43) = true)
    (a44 : PySem.W.nsIn K mainGlobals "_law_looks" = some (some (.ref f44)))
    (l44 : K.lookup f44 = some ⟨oc44, od44, .func (PySem.W.fnOf "_law_looks" "_law_looks" (defArgs s__law_looks) (defBody s__law_looks) (defScope s__law_looks) .none kV44 dc44 pm44 an44 cd44 ct44), sl44⟩)
    (c44 : PySem.W.codeIn K cd44 "_law_looks" = true)
    (k44 : PySem.W.keepIn K (.ref f44) = true)
    (a45 : PySem.W.nsIn K mainGlobals "_law_mixed" = some (some (.ref f45)))
    (l45 : K.lookup f45 = some ⟨oc45, od45, .func (PySem.W.fnOf "_law_mixed" "_law_mixed" (defArgs s__law_mixed) (defBody s__law_mixed) (defScope s__law_mixed) .none kV45 dc45 pm45 an45 cd45 ct45), sl45⟩)
    (c45 : PySem.W.codeIn K cd45 "_law_mixed" = true)
    (k45 : PySem.W.keepIn K (.ref f45) = true)
    (a46 : PySem.W.nsIn K mainGlobals "_law_divisors" = some (some (.ref f46)))
    (l46 : K.lookup f46 = some ⟨oc46, od46, .func (PySem.W.fnOf "_law_divisors" "_law_divisors" (defArgs s__law_divisors) (defBody s__law_divisors) (defScope s__law_divisors) .none kV46 dc46 pm46 an46 cd46 ct46), sl46⟩)
    (c46 : PySem.W.codeIn K cd46 "_law_divisors" = true)
    (k46 : PySem.W.keepIn K (.ref f46) = true)
    (a47 : PySem.W.nsIn K mainGlobals "_law_parts" = some (some (.ref f47)))
    (l47 : K.lookup f47 = some ⟨oc47, od47, .func (PySem.W.fnOf "_law_parts" "_law_parts" (defArgs s__law_parts) (defBody s__law_parts) (defScope s__law_parts) .none kV47 dc47 pm47 an47 cd47 ct47), sl47⟩)
    (c47 : PySem.W.codeIn K cd47 "_law_parts" = true)
    (k47 : PySem.W.keepIn K (.ref f47) = true)
    (a48 : PySem.W.nsIn K mainGlobals "_law_tree" = some (some (.ref f48)))
    (l48 : K.lookup f48 = some ⟨oc48, od48, .func (PySem.W.fnOf "_law_tree" "_law_tree" (defArgs s__law_tree) (defBody s__law_tree) (defScope s__law_tree) .none kV48 dc48 pm48 an48 cd48 ct48), sl48⟩)
    (c48 : PySem.W.codeIn K cd48 "_law_tree" = true)
    (k48 : PySem.W.keepIn K (.ref f48) = true)
    (a49 : PySem.W.nsIn K mainGlobals "_law_small_scan" = some (some (.ref f49)))
    (l49 : K.lookup f49 = some ⟨oc49, od49, .func (PySem.W.fnOf "_law_small_scan" "_law_small_scan" (defArgs s__law_small_scan) (defBody s__law_small_scan) (defScope s__law_small_scan) .none kV49 dc49 pm49 an49 cd49 ct49), sl49⟩)
    (c49 : PySem.W.codeIn K cd49 "_law_small_scan" = true)
    (k49 : PySem.W.keepIn K (.ref f49) = true)
    (a50 : PySem.W.nsIn K mainGlobals "_law_bag" = some (some (.ref f50)))
    (l50 : K.lookup f50 = some ⟨oc50, od50, .func (PySem.W.fnOf "_law_bag" "_law_bag" (defArgs s__law_bag) (defBody s__law_bag) (defScope s__law_bag) .none kV50 dc50 pm50 an50 cd50 ct50), sl50⟩)
    (c50 : PySem.W.codeIn K cd50 "_law_bag" = true)
    (k50 : PySem.W.keepIn K (.ref f50) = true)
    (a51 : PySem.W.nsIn K mainGlobals "law" = some (some (.ref f51)))
    (l51 : K.lookup f51 = some ⟨oc51, od51, .func (PySem.W.fnOf "law" "law" (defArgs s_law) (defBody s_law) (defScope s_law) .none kV51 dc51 pm51 an51 cd51 ct51), sl51⟩)
    (c51 : PySem.W.codeIn K cd51 "law" = true)
    (k51 : PySem.W.keepIn K (.ref f51) = true)
    (pg : PySem.W.plainGet K C Str.empty = true)
    (hd : PySem.W.hasDictIn K C = true)
    (po : PySem.W.plainOver K C = true)
    (sa : PySem.W.findIn K (.ref C) "__setattr__" = some (some (.builtin "object.__setattr__")))
    (mk : PySem.W.makesIn K C = true)
    (kc : PySem.W.keepIn K (.ref C) = true)
    (nA1 : PySem.W.findIn K (.ref C) "held_divisors" = some none)
    (nA2 : PySem.W.findIn K (.ref C) "held_tree" = some none)
    (nA3 : PySem.W.findIn K (.ref C) "class_total" = some none)
    (nA4 : PySem.W.findIn K (.ref C) "node_total" = some none)
    (z_len : PySem.W.nsIn K mainGlobals "len" = some none)
    (z_tuple : PySem.W.nsIn K mainGlobals "tuple" = some none)
    (z_list : PySem.W.nsIn K mainGlobals "list" = some none)
    (z_int : PySem.W.nsIn K mainGlobals "int" = some none)
    (z_bool : PySem.W.nsIn K mainGlobals "bool" = some none)
    (z_dict : PySem.W.nsIn K mainGlobals "dict" = some none)
    (z_str : PySem.W.nsIn K mainGlobals "str" = some none)
    (z_isinstance : PySem.W.nsIn K mainGlobals "isinstance" = some none)
    (z_all : PySem.W.nsIn K mainGlobals "all" = some none)
    (z_any : PySem.W.nsIn K mainGlobals "any" = some none)
    (z_sum : PySem.W.nsIn K mainGlobals "sum" = some none)
    (z_max : PySem.W.nsIn K mainGlobals "max" = some none)
    (z_min : PySem.W.nsIn K mainGlobals "min" = some none)
    (z_abs : PySem.W.nsIn K mainGlobals "abs" = some none)
    (z_sorted : PySem.W.nsIn K mainGlobals "sorted" = some none)
    (z_range : PySem.W.nsIn K mainGlobals "range" = some none)
    (z_zip : PySem.W.nsIn K mainGlobals "zip" = some none)
    (z_enumerate : PySem.W.nsIn K mainGlobals "enumerate" = some none)
    (q_MAX_LOOKS : PySem.W.nsIn K mainGlobals "MAX_LOOKS" = some (some (.int 4 t_MAX_LOOKS)))
    (q_MAX_REACH : PySem.W.nsIn K mainGlobals "MAX_REACH" = some (some (.int 9 t_MAX_REACH)))
    (q_MAX_DIRECTIONS : PySem.W.nsIn K mainGlobals "MAX_DIRECTIONS" = some (some (.int 3 t_MAX_DIRECTIONS)))
    (q_MAX_CLASSES : PySem.W.nsIn K mainGlobals "MAX_CLASSES" = some (some (.int 12 t_MAX_CLASSES)))
    (q_MAX_CELLS : PySem.W.nsIn K mainGlobals "MAX_CELLS" = some (some (.int 2000 t_MAX_CELLS)))
    (q_MAX_DEPTH : PySem.W.nsIn K mainGlobals "MAX_DEPTH" = some (some (.int 20 t_MAX_DEPTH)))
    (q_MAX_NODES : PySem.W.nsIn K mainGlobals "MAX_NODES" = some (some (.int 200 t_MAX_NODES)))
    (aLf : PySem.W.nsIn K mainGlobals "LEAF" = some (some (.ref aL)))
    (lLf : K.lookup aL = some ⟨.type "tuple", ddL, .seq #[.str "places" tL] nL, slL⟩)
    : ∃ fd : FuncData, (∀ (s : Shared) (v : Value), BindsTo s fd ⟨[v], []⟩ [("_law_script", v)]) ∧ ∀ base : Heap, K.In base → base.Ns mainGlobals mg → FnOk l.prog w K mg base CX0 11 fa fd ["_law_script"] (spLaw K) := by
  have e := hfa.symm.trans (PySem.W.mg_of X G a51)
  cases e
  have T : Tx K mg aL := ⟨PySem.W.mg_none_of X G z_len, PySem.W.mg_none_of X G z_tuple, PySem.W.mg_none_of X G z_list, PySem.W.mg_none_of X G z_int, PySem.W.mg_none_of X G z_bool, PySem.W.mg_none_of X G z_dict, PySem.W.mg_none_of X G z_str, PySem.W.mg_none_of X G z_isinstance, PySem.W.mg_none_of X G z_all, PySem.W.mg_none_of X G z_any, PySem.W.mg_none_of X G z_sum, PySem.W.mg_none_of X G z_max, PySem.W.mg_none_of X G z_min, PySem.W.mg_none_of X G z_abs, PySem.W.mg_none_of X G z_sorted, PySem.W.mg_none_of X G z_range, PySem.W.mg_none_of X G z_zip, PySem.W.mg_none_of X G z_enumerate, ⟨_, PySem.W.mg_of X G q_MAX_LOOKS⟩, ⟨_, PySem.W.mg_of X G q_MAX_REACH⟩, ⟨_, PySem.W.mg_of X G q_MAX_DIRECTIONS⟩, ⟨_, PySem.W.mg_of X G q_MAX_CLASSES⟩, ⟨_, PySem.W.mg_of X G q_MAX_CELLS⟩, ⟨_, PySem.W.mg_of X G q_MAX_DEPTH⟩, ⟨_, PySem.W.mg_of X G q_MAX_NODES⟩, PySem.W.mg_of X G aLf, fun H => .tup (xs := [.str (Str.ofString "places")]) (.inr ⟨rfl, .inr ⟨_, _, _, lLf, rfl, rfl, by show 1 ≤ sizeLine; decide, .cons ⟨_, rfl⟩ .nil⟩⟩) (.cons (.str _) .nil)⟩
  have S : Sk K C := ⟨⟨pg, hd, po, sa⟩, nA1, nA2, nA3, nA4⟩
  refine ⟨PySem.W.fnOf "law" "law" (defArgs s_law) (defBody s_law) (defScope s_law) .none kV51 dc51 pm51 an51 cd51 ct51, fun s v => .of_eq rfl, fun base _ _ => law_sp (C := C) ?_⟩
  have F1 := fun_mk (st := s_times) l1 c1 k1
  have b1 := F1.binds (ps := ["one", "other"]) (fun _ _ _ _ _ _ us hl => match us, hl with | [_, _], _ => rfl)
  have c_times : Lk.Cal l.prog w K mg base 1 "times" ["one", "other"] (FnD K C R_times) := ⟨f1, _, PySem.W.mg_of X G a1, k1, b1, ok_times F1 T⟩
  have F2 := fun_mk (st := s_group_at) l2 c2 k2
  have b2 := F2.binds (ps := ["groups", "number"]) (fun _ _ _ _ _ _ us hl => match us, hl with | [_, _], _ => rfl)
  have c_group_at : Lk.Cal l.prog w K mg base 1 "group_at" ["groups", "number"] (FnD K C R_group_at) := ⟨f2, _, PySem.W.mg_of X G a2, k2, b2, ok_group_at F2 T⟩
  have F3 := fun_mk (st := s_class_at) l3 c3 k3
  have b3 := F3.binds (ps := ["divisors", "place"]) (fun _ _ _ _ _ _ us hl => match us, hl with | [_, _], _ => rfl)
  have c_class_at : Lk.Cal l.prog w K mg base 1 "class_at" ["divisors", "place"] (FnD K C R_class_at) := ⟨f3, _, PySem.W.mg_of X G a3, k3, b3, ok_class_at F3 T⟩
  have F4 := fun_mk (st := s_path_of) l4 c4 k4
  have b4 := F4.binds (ps := ["tree", "divisors", "place"]) (fun _ _ _ _ _ _ us hl => match us, hl with | [_, _, _], _ => rfl)
  have c_path_of : Lk.Cal l.prog w K mg base 2 "path_of" ["tree", "divisors", "place"] (FnD K C R_path_of) := ⟨f4, _, PySem.W.mg_of X G a4, k4, b4, ok_path_of F4 T c_times c_group_at c_class_at⟩
  have F5 := fun_mk (st := s_is_number) l5 c5 k5
  have b5 := F5.binds (ps := ["value"]) (fun _ _ _ _ _ _ us hl => match us, hl with | [_], _ => rfl)
  have c_is_number : Lk.Cal l.prog w K mg base 1 "is_number" ["value"] (FnD K C R_is_number) := ⟨f5, _, PySem.W.mg_of X G a5, k5, b5, ok_is_number F5 T⟩
  have F6 := fun_mk (st := s_are_numbers) l6 c6 k6
  have b6 := F6.binds (ps := ["value", "many"]) (fun _ _ _ _ _ _ us hl => match us, hl with | [_, _], _ => rfl)
  have c_are_numbers : Lk.Cal l.prog w K mg base 2 "are_numbers" ["value", "many"] (FnD K C R_are_numbers) := ⟨f6, _, PySem.W.mg_of X G a6, k6, b6, ok_are_numbers F6 T c_is_number⟩
  have F7 := fun_mk (st := s_need_box) l7 c7 k7
  have b7 := F7.binds (ps := ["value", "many"]) (fun _ _ _ _ _ _ us hl => match us, hl with | [_, _], _ => rfl)
  have c_need_box : Lk.Cal l.prog w K mg base 3 "need_box" ["value", "many"] (FnD K C R_need_box) := ⟨f7, _, PySem.W.mg_of X G a7, k7, b7, ok_need_box F7 T c_are_numbers⟩
  have F8 := fun_mk (st := s_cell_count) l8 c8 k8
  have b8 := F8.binds (ps := ["box"]) (fun _ _ _ _ _ _ us hl => match us, hl with | [_], _ => rfl)
  have c_cell_count : Lk.Cal l.prog w K mg base 1 "cell_count" ["box"] (FnD K C R_cell_count) := ⟨f8, _, PySem.W.mg_of X G a8, k8, b8, ok_cell_count F8 T⟩
  have F9 := fun_mk (st := s_need_cells) l9 c9 k9
  have b9 := F9.binds (ps := ["box", "many"]) (fun _ _ _ _ _ _ us hl => match us, hl with | [_, _], _ => rfl)
  have c_need_cells : Lk.Cal l.prog w K mg base 4 "need_cells" ["box", "many"] (FnD K C R_need_cells) := ⟨f9, _, PySem.W.mg_of X G a9, k9, b9, ok_need_cells F9 T c_need_box c_cell_count⟩
  have F10 := fun_mk (st := s_Scan_order) l10 c10 k10
  have b10 := F10.binds (ps := ["self", "box"]) (fun _ _ _ _ _ _ us hl => match us, hl with | [_, _], _ => rfl)
  have F52 := fun_mk (st := s_cells) l52 c52 k52
  have b52 := F52.binds (ps := ["box"]) (fun _ _ _ _ _ _ us hl => match us, hl with | [_], _ => rfl)
  have c_order : CalM l.prog w K mg base C 8 "order" ["self", "box"] (FnD K C R_order) := ⟨f10, _, ⟨a10, i10, k10⟩, b10, ok_order F10 T S F52 b52 (PySem.W.mg_of X G a52) c_path_of c_need_cells c_cell_count⟩
  have F11 := fun_mk (st := s_need_place) l11 c11 k11
  have b11 := F11.binds (ps := ["value", "many"]) (fun _ _ _ _ _ _ us hl => match us, hl with | [_, _], _ => rfl)
  have c_need_place : Lk.Cal l.prog w K mg base 3 "need_place" ["value", "many"] (FnD K C R_need_place) := ⟨f11, _, PySem.W.mg_of X G a11, k11, b11, ok_need_place F11 T c_are_numbers⟩
  have F12 := fun_mk (st := s_sign_of) l12 c12 k12
  have b12 := F12.binds (ps := ["tree", "divisors", "one", "other"]) (fun _ _ _ _ _ _ us hl => match us, hl with | [_, _, _, _], _ => rfl)
  have c_sign_of : Lk.Cal l.prog w K mg base 2 "sign_of" ["tree", "divisors", "one", "other"] (FnD K C R_sign_of) := ⟨f12, _, PySem.W.mg_of X G a12, k12, b12, ok_sign_of F12 T c_times c_group_at c_class_at⟩
  have F13 := fun_mk (st := s_Scan___call__) l13 c13 k13
  have b13 := F13.binds (ps := ["self", "one", "other"]) (fun _ _ _ _ _ _ us hl => match us, hl with | [_, _, _], _ => rfl)
  have c_scall : CalO l.prog w K mg base C 4 ["self", "one", "other"] (FnD K C R_scall) := ⟨f13, _, ⟨a13, i13, g13⟩, b13, ok_scall F13 T S c_need_place c_sign_of⟩
  have F14 := fun_mk (st := s_plus) l14 c14 k14
  have b14 := F14.binds (ps := ["one", "other"]) (fun _ _ _ _ _ _ us hl => match us, hl with | [_, _], _ => rfl)
  have c_plus : Lk.Cal l.prog w K mg base 1 "plus" ["one", "other"] (FnD K C R_plus) := ⟨f14, _, PySem.W.mg_of X G a14, k14, b14, ok_plus F14 T⟩
  have F15 := fun_mk (st := s_minus) l15 c15 k15
  have b15 := F15.binds (ps := ["one", "other"]) (fun _ _ _ _ _ _ us hl => match us, hl with | [_, _], _ => rfl)
  have c_minus : Lk.Cal l.prog w K mg base 1 "minus" ["one", "other"] (FnD K C R_minus) := ⟨f15, _, PySem.W.mg_of X G a15, k15, b15, ok_minus F15 T⟩
  have F16 := fun_mk (st := s_is_in) l16 c16 k16
  have b16 := F16.binds (ps := ["box", "place"]) (fun _ _ _ _ _ _ us hl => match us, hl with | [_, _], _ => rfl)
  have c_is_in : Lk.Cal l.prog w K mg base 1 "is_in" ["box", "place"] (FnD K C R_is_in) := ⟨f16, _, PySem.W.mg_of X G a16, k16, b16, ok_is_in F16 T⟩
  have F17 := fun_mk (st := s_causes) l17 c17 k17
  have b17 := F17.binds (ps := ["scan", "looks", "box", "cell"]) (fun _ _ _ _ _ _ us hl => match us, hl with | [_, _, _, _], _ => rfl)
  have c_causes : Lk.Cal l.prog w K mg base 5 "causes" ["scan", "looks", "box", "cell"] (FnD K C R_causes) := ⟨f17, _, PySem.W.mg_of X G a17, k17, b17, ok_causes F17 T S c_scall c_plus c_minus c_is_in⟩
  have F18 := fun_mk (st := s_numbered) l18 c18 k18
  have b18 := F18.binds (ps := ["scan", "looks", "box"]) (fun _ _ _ _ _ _ us hl => match us, hl with | [_, _, _], _ => rfl)
  have c_numbered : Lk.Cal l.prog w K mg base 9 "numbered" ["scan", "looks", "box"] (FnD K C R_numbered) := ⟨f18, _, PySem.W.mg_of X G a18, k18, b18, ok_numbered F18 T S c_order c_causes⟩
  have F19 := fun_mk (st := s_Scan_directions) l19 c19 k19
  have b19 := F19.binds (ps := ["self"]) (fun _ _ _ _ _ _ us hl => match us, hl with | [_], _ => rfl)
  have c_dirs : CalP l.prog w K mg base C 1 "directions" (FnD K C R_dirs) := ⟨pD, f19, _, ⟨aP, pG, pT, pRest, pR⟩, b19, ok_dirs F19 T S⟩
  have F20 := fun_mk (st := s_is_look) l20 c20 k20
  have b20 := F20.binds (ps := ["value", "directions"]) (fun _ _ _ _ _ _ us hl => match us, hl with | [_, _], _ => rfl)
  have c_is_look : Lk.Cal l.prog w K mg base 3 "is_look" ["value", "directions"] (FnD K C R_is_look) := ⟨f20, _, PySem.W.mg_of X G a20, k20, b20, ok_is_look F20 T c_are_numbers⟩
  have F21 := fun_mk (st := s_need_looks) l21 c21 k21
  have b21 := F21.binds (ps := ["looks", "directions"]) (fun _ _ _ _ _ _ us hl => match us, hl with | [_, _], _ => rfl)
  have c_need_looks : Lk.Cal l.prog w K mg base 4 "need_looks" ["looks", "directions"] (FnD K C R_need_looks) := ⟨f21, _, PySem.W.mg_of X G a21, k21, b21, ok_need_looks F21 T c_is_look⟩
  have F22 := fun_mk (st := s_need_all) l22 c22 k22
  have b22 := F22.binds (ps := ["scan", "looks", "box"]) (fun _ _ _ _ _ _ us hl => match us, hl with | [_, _, _], _ => rfl)
  have c_need_all : Lk.Cal l.prog w K mg base 5 "need_all" ["scan", "looks", "box"] (FnD K C R_need_all) := ⟨f22, _, PySem.W.mg_of X G a22, k22, b22, ok_need_all F22 T S c_dirs c_need_looks c_need_cells⟩
  have F23 := fun_mk (st := s_wave_chain) l23 c23 k23
  have b23 := F23.binds (ps := ["scan", "looks", "box"]) (fun _ _ _ _ _ _ us hl => match us, hl with | [_, _, _], _ => rfl)
  have c_wave_chain : Lk.Cal l.prog w K mg base 10 "wave_chain" ["scan", "looks", "box"] (FnN K C R_wave_chain) := ⟨f23, _, PySem.W.mg_of X G a23, k23, b23, ok_wave_chain F23 T S c_numbered c_need_all c_causes⟩
  have F24 := fun_mk (st := s_waves) l24 c24 k24
  have b24 := F24.binds (ps := ["scan", "looks", "box"]) (fun _ _ _ _ _ _ us hl => match us, hl with | [_, _, _], _ => rfl)
  have c_waves : Lk.Cal l.prog w K mg base 10 "waves" ["scan", "looks", "box"] (FnD K C R_waves) := ⟨f24, _, PySem.W.mg_of X G a24, k24, b24, ok_waves F24 T S c_numbered c_need_all⟩
  have F25 := fun_mk (st := s_chain_waves) l25 c25 k25
  have b25 := F25.binds (ps := ["scan", "looks", "chain"]) (fun _ _ _ _ _ _ us hl => match us, hl with | [_, _, _], _ => rfl)
  have c_chain_waves : Lk.Cal l.prog w K mg base 5 "chain_waves" ["scan", "looks", "chain"] (FnD K C R_chain_waves) := ⟨f25, _, PySem.W.mg_of X G a25, k25, b25, ok_chain_waves F25 T S c_scall c_dirs c_minus c_need_looks c_need_place⟩
  have F26 := fun_mk (st := s_class_count) l26 c26 k26
  have b26 := F26.binds (ps := ["divisors"]) (fun _ _ _ _ _ _ us hl => match us, hl with | [_], _ => rfl)
  have c_class_count : Lk.Cal l.prog w K mg base 2 "class_count" ["divisors"] (FnD K C R_class_count) := ⟨f26, _, PySem.W.mg_of X G a26, k26, b26, ok_class_count F26 T c_is_number c_cell_count⟩
  have F27 := fun_mk (st := s_is_parting) l27 c27 k27
  have b27 := F27.binds (ps := ["groups", "many"]) (fun _ _ _ _ _ _ us hl => match us, hl with | [_, _], _ => rfl)
  have c_is_parting : Lk.Cal l.prog w K mg base 2 "is_parting" ["groups", "many"] (FnD K C R_is_parting) := ⟨f27, _, PySem.W.mg_of X G a27, k27, b27, ok_is_parting F27 T c_is_number⟩
  have F28 := fun_mk (st := s_is_node) l28 c28 k28
  have b28 := F28.binds (ps := ["value", "directions", "many"]) (fun _ _ _ _ _ _ us hl => match us, hl with | [_, _, _], _ => rfl)
  have c_is_node : Lk.Cal l.prog w K mg base 3 "is_node" ["value", "directions", "many"] (FnD K C R_is_node) := ⟨f28, _, PySem.W.mg_of X G a28, k28, b28, ok_is_node F28 T c_are_numbers c_is_parting⟩
  have F29 := fun_mk (st := s_below) l29 c29 k29
  have b29 := F29.binds (ps := ["node"]) (fun _ _ _ _ _ _ us hl => match us, hl with | [_], _ => rfl)
  have c_below : Lk.Cal l.prog w K mg base 1 "below" ["node"] (FnD K C R_below) := ⟨f29, _, PySem.W.mg_of X G a29, k29, b29, ok_below F29 T⟩
  have F30 := fun_mk (st := s_is_tree) l30 c30 k30
  have b30 := F30.binds (ps := ["value", "directions", "many"]) (fun _ _ _ _ _ _ us hl => match us, hl with | [_, _, _], _ => rfl)
  have c_is_tree : Lk.Cal l.prog w K mg base 4 "is_tree" ["value", "directions", "many"] (FnD K C R_is_tree) := ⟨f30, _, PySem.W.mg_of X G a30, k30, b30, ok_is_tree F30 T c_is_node c_below⟩
  have F31 := fun_mk (st := s_node_count) l31 c31 k31
  have b31 := F31.binds (ps := ["tree"]) (fun _ _ _ _ _ _ us hl => match us, hl with | [_], _ => rfl)
  have c_node_count : Lk.Cal l.prog w K mg base 4 "node_count" ["tree"] (FnD K C R_nc) := ⟨f31, _, PySem.W.mg_of X G a31, k31, b31, fn_union (ι := Nat) fun n => fn_union (ι := Nat) fun m => ok_node_count (n := n) (m := m) F31 T c_below 0 (PySem.W.mg_of X G a31) k31 b31 2⟩
  have F32 : FunD K "__init__" "Scan.__init__" (defArgs s_Scan___init__) (defBody s_Scan___init__) (defScope s_Scan___init__) [.ref aL] [] f32 _ := ⟨⟨oc32, od32, .ref dT, kV32, dc32, pm32, an32, cd32, ct32, sl32, rfl, l32, c32, .inr ⟨by simp, dT, _, [.ref aL], nT, rfl, lD, rfl, .cons rfl .nil⟩, .inl rfl⟩, k32⟩
  obtain ⟨ds2, vd2, b2_⟩ := F32.binds1 (ps := ["self", "divisors", "tree"]) 3 1 (by simp) rfl fun T kV doc pm an cdv ct us its h1 h2 => match us, its, h1, h2 with | [_, _, _], [_], _, _ => ⟨_, rfl, rfl⟩
  obtain ⟨ds1, vd1, b1_⟩ := F32.binds1 (ps := ["self", "divisors", "tree"]) 2 0 (by simp) rfl fun T kV doc pm an cdv ct us its h1 h2 => match us, its, h1, h2 with | [_, _], [_], _, _ => ⟨_, rfl, rfl⟩
  have c_mk2 : CalI l.prog w K mg base C 5 "Scan" ["self", "divisors", "tree"] [] (FnI K C R_init) := ⟨f32, _, ds2, ⟨mk, a32, i32, kc⟩, PySem.W.mg_of X G aC, vd2, b2_, ok_init F32 T S c_class_count c_is_tree c_node_count⟩
  have c_mk1 : CalI l.prog w K mg base C 5 "Scan" ["self", "divisors", "tree"] [.ref aL] (FnI K C R_init) := ⟨f32, _, ds1, ⟨mk, a32, i32, kc⟩, PySem.W.mg_of X G aC, vd1, b1_, ok_init F32 T S c_class_count c_is_tree c_node_count⟩
  have F33 := fun_mk (st := s__law_cells) l33 c33 k33
  have b33 := F33.binds (ps := ["_law_box_here"]) (fun _ _ _ _ _ _ us hl => match us, hl with | [_], _ => rfl)
  have c__law_cells : Lk.Cal l.prog w K mg base 1 "_law_cells" ["_law_box_here"] (FnD K C R__law_cells) := ⟨f33, _, PySem.W.mg_of X G a33, k33, b33, ok__law_cells F33 T⟩
  have F34 := fun_mk (st := s__law_class) l34 c34 k34
  have b34 := F34.binds (ps := ["_law_divisors_here", "_law_place"]) (fun _ _ _ _ _ _ us hl => match us, hl with | [_, _], _ => rfl)
  have c__law_class : Lk.Cal l.prog w K mg base 1 "_law_class" ["_law_divisors_here", "_law_place"] (FnD K C R__law_class) := ⟨f34, _, PySem.W.mg_of X G a34, k34, b34, ok__law_class F34 T⟩
  have F35 := fun_mk (st := s__law_path) l35 c35 k35
  have b35 := F35.binds (ps := ["_law_divisors_here", "_law_tree_here", "_law_place"]) (fun _ _ _ _ _ _ us hl => match us, hl with | [_, _, _], _ => rfl)
  have c__law_path : Lk.Cal l.prog w K mg base 2 "_law_path" ["_law_divisors_here", "_law_tree_here", "_law_place"] (FnD K C R__law_path) := ⟨f35, _, PySem.W.mg_of X G a35, k35, b35, ok__law_path F35 T c__law_class⟩
  have F36 := fun_mk (st := s__law_before) l36 c36 k36
  have b36 := F36.binds (ps := ["_law_pair", "_law_one", "_law_other"]) (fun _ _ _ _ _ _ us hl => match us, hl with | [_, _, _], _ => rfl)
  have c__law_before : Lk.Cal l.prog w K mg base 3 "_law_before" ["_law_pair", "_law_one", "_law_other"] (FnD K C R__law_before) := ⟨f36, _, PySem.W.mg_of X G a36, k36, b36, ok__law_before F36 T c__law_path⟩
  have F37 := fun_mk (st := s__law_inside) l37 c37 k37
  have b37 := F37.binds (ps := ["_law_box_here", "_law_place"]) (fun _ _ _ _ _ _ us hl => match us, hl with | [_, _], _ => rfl)
  have c__law_inside : Lk.Cal l.prog w K mg base 1 "_law_inside" ["_law_box_here", "_law_place"] (FnD K C R_is_in) := ⟨f37, _, PySem.W.mg_of X G a37, k37, b37, ok__law_inside F37 T⟩
  have F38 := fun_mk (st := s__law_plus) l38 c38 k38
  have b38 := F38.binds (ps := ["_law_one", "_law_other"]) (fun _ _ _ _ _ _ us hl => match us, hl with | [_, _], _ => rfl)
  have c__law_plus : Lk.Cal l.prog w K mg base 1 "_law_plus" ["_law_one", "_law_other"] (FnD K C R_plus) := ⟨f38, _, PySem.W.mg_of X G a38, k38, b38, ok__law_plus F38 T⟩
  have F39 := fun_mk (st := s__law_count) l39 c39 k39
  have b39 := F39.binds (ps := ["_law_divisors_here"]) (fun _ _ _ _ _ _ us hl => match us, hl with | [_], _ => rfl)
  have c__law_count : Lk.Cal l.prog w K mg base 1 "_law_count" ["_law_divisors_here"] (FnD K C R__law_count) := ⟨f39, _, PySem.W.mg_of X G a39, k39, b39, ok__law_count F39 T⟩
  have F40 := fun_mk (st := s__law_same) l40 c40 k40
  have b40 := F40.binds (ps := ["_law_found", "_law_due"]) (fun _ _ _ _ _ _ us hl => match us, hl with | [_, _], _ => rfl)
  have c__law_same : Lk.Cal l.prog w K mg base 1 "_law_same" ["_law_found", "_law_due"] (FnD K C R_same) := ⟨f40, _, PySem.W.mg_of X G a40, k40, b40, ok__law_same F40 T⟩
  have F41 := fun_mk (st := s__law_pull) l41 c41 k41
  have b41 := F41.binds (ps := ["_law_bag_here", "_law_amount"]) (fun _ _ _ _ _ _ us hl => match us, hl with | [_, _], _ => rfl)
  have c__law_pull : Lk.Cal l.prog w K mg base 1 "_law_pull" ["_law_bag_here", "_law_amount"] (FnB K C R_pull) := ⟨f41, _, PySem.W.mg_of X G a41, k41, b41, ok__law_pull F41 T⟩
  have F42 := fun_mk (st := s__law_box) l42 c42 k42
  have b42 := F42.binds (ps := ["_law_bag_here", "_law_directions"]) (fun _ _ _ _ _ _ us hl => match us, hl with | [_, _], _ => rfl)
  have c__law_box : Lk.Cal l.prog w K mg base 2 "_law_box" ["_law_bag_here", "_law_directions"] (FnB K C R_box) := ⟨f42, _, PySem.W.mg_of X G a42, k42, b42, ok__law_box F42 T c__law_pull⟩
  have F43 := fun_mk (st := s__law_of) l43 c43 k43
  have b43 := F43.binds (ps := ["_law_bag_here", "_law_things"]) (fun _ _ _ _ _ _ us hl => match us, hl with | [_, _], _ => rfl)
  have c__law_of : Lk.Cal l.prog w K mg base 2 "_law_of" ["_law_bag_here", "_law_things"] (FnB K C R_of) := ⟨f43, _, PySem.W.mg_of X G a43, k43, b43, ok__law_of F43 T c__law_pull⟩
  have F44 := fun_mk (st := s__law_looks) l44 c44 k44
  have b44 := F44.binds (ps := ["_law_bag_here", "_law_directions"]) (fun _ _ _ _ _ _ us hl => match us, hl with | [_, _], _ => rfl)
  have c__law_looks : Lk.Cal l.prog w K mg base 3 "_law_looks" ["_law_bag_here", "_law_directions"] (FnB K C R_looks) := ⟨f44, _, PySem.W.mg_of X G a44, k44, b44, ok__law_looks F44 T c__law_pull c__law_of⟩
  have F45 := fun_mk (st := s__law_mixed) l45 c45 k45
  have b45 := F45.binds (ps := ["_law_bag_here", "_law_things"]) (fun _ _ _ _ _ _ us hl => match us, hl with | [_, _], _ => rfl)
  have c__law_mixed : Lk.Cal l.prog w K mg base 2 "_law_mixed" ["_law_bag_here", "_law_things"] (FnB K C R_mixed) := ⟨f45, _, PySem.W.mg_of X G a45, k45, b45, ok__law_mixed F45 T c__law_pull⟩
  have F46 := fun_mk (st := s__law_divisors) l46 c46 k46
  have b46 := F46.binds (ps := ["_law_bag_here", "_law_directions"]) (fun _ _ _ _ _ _ us hl => match us, hl with | [_, _], _ => rfl)
  have c__law_divisors : Lk.Cal l.prog w K mg base 3 "_law_divisors" ["_law_bag_here", "_law_directions"] (FnB K C R_divisors) := ⟨f46, _, PySem.W.mg_of X G a46, k46, b46, ok__law_divisors F46 T c__law_pull c__law_mixed⟩
  have F47 := fun_mk (st := s__law_parts) l47 c47 k47
  have b47 := F47.binds (ps := ["_law_bag_here", "_law_many", "_law_most"]) (fun _ _ _ _ _ _ us hl => match us, hl with | [_, _, _], _ => rfl)
  have c__law_parts : Lk.Cal l.prog w K mg base 2 "_law_parts" ["_law_bag_here", "_law_many", "_law_most"] (FnB K C R_parts) := ⟨f47, _, PySem.W.mg_of X G a47, k47, b47, ok__law_parts F47 T c__law_pull⟩
  have F48 := fun_mk (st := s__law_tree) l48 c48 k48
  have b48 := F48.binds (ps := ["_law_bag_here", "_law_divisors_here", "_law_depth"]) (fun _ _ _ _ _ _ us hl => match us, hl with | [_, _, _], _ => rfl)
  have c__law_tree : Lk.Cal l.prog w K mg base 5 "_law_tree" ["_law_bag_here", "_law_divisors_here", "_law_depth"] (FnB K C (R_ltree 2)) := ⟨f48, _, PySem.W.mg_of X G a48, k48, b48, ok__law_tree F48 T (PySem.W.mg_of X G a48) k48 b48 c__law_pull c__law_of c__law_parts c__law_count 2⟩
  have F49 := fun_mk (st := s__law_small_scan) l49 c49 k49
  have b49 := F49.binds (ps := ["_law_bag_here", "_law_directions"]) (fun _ _ _ _ _ _ us hl => match us, hl with | [_, _], _ => rfl)
  have c__law_small_scan : Lk.Cal l.prog w K mg base 6 "_law_small_scan" ["_law_bag_here", "_law_directions"] (FnB K C R_small) := ⟨f49, _, PySem.W.mg_of X G a49, k49, b49, ok__law_small_scan F49 T c__law_divisors c__law_tree⟩
  have F50 := fun_mk (st := s__law_bag) l50 c50 k50
  have b50 := F50.binds (ps := ["_law_script"]) (fun _ _ _ _ _ _ us hl => match us, hl with | [_], _ => rfl)
  have c__law_bag : Lk.Cal l.prog w K mg base 1 "_law_bag" ["_law_script"] (FnG K C R_bag) := ⟨f50, _, PySem.W.mg_of X G a50, k50, b50, ok__law_bag F50 T⟩
  have F51 := fun_mk (st := s_law) l51 c51 k51
  exact ok_law F51 T S c_wave_chain c_waves c_chain_waves c_mk2 c_mk1 c__law_cells c__law_before c__law_inside c__law_plus c__law_count c__law_same c__law_box c__law_looks c__law_small_scan c__law_pull c__law_bag
theorem walk {l : PySem.W.OpenLaw} {n : Nat} {q : Program} {loose : List Str} {XP : (Str → Option Value) → Heap → Prop} {YP : World → Heap → Prop} {d : DefRec} {K : Params → PySem.W.Frag} (hn : l.most = some n) (hn2 : n ≤ 1000) (hdf : d.params.defaults = [])
    (inK : ∀ w b, YP w b → (K w.params).In b)
    (all : ∀ (w : World) (mg : Str → Option Value) (at_ : Addr) (b : Heap), (K w.params).In b → b.Ns mainGlobals mg → mg d.name = some (.ref at_) → ∃ fd : FuncData, (∀ (s : Shared) (u : Value), BindsTo s fd ⟨[u], []⟩ [("_law_script", u)]) ∧ ∀ base : Heap, (K w.params).In base → base.Ns mainGlobals mg → FnOk l.prog w (K w.params) mg base CX0 11 at_ fd ["_law_script"] (spLaw (K w.params))) : PySem.W.WalkO q loose XP YP l.row.toRowW d [] (fun g us => PySem.call g us) :=
  L2.walk_of (n := n) (k := 11) (x := "_law_script") (CX := fun _ => CX0) (sp := fun w => spLaw (K w.params)) hn (Nat.le_trans hn2 (by decide)) hdf ⟨rfl, by decide, by decide⟩ inK all (fun _ _ a ns hl _ hS => ⟨a, ns, rfl, hS, Nat.le_trans hl hn2, fun _ => rfl⟩) fun _ _ _ _ _ z => z
end Lk
namespace Lk
open PySem PySem.W
open PyProof.Rows
set_option maxHeartbeats 0 in
open_top top for PySem.Challenge.rw_lookscan_k36_whole_waves_cannot_be_fewer
end Lk
open PySem PySem.W in
open PyProof.Rows in
set_option maxHeartbeats 0 in
theorem PySem.Challenge.cw_lookscan_k36_whole_waves_cannot_be_fewer_holds : PySem.Challenge.rw_lookscan_k36_whole_waves_cannot_be_fewer.Holds := by
  refine Lk.top ?_
  k_fill
  refine Lk.walk (l := PySem.Challenge.rw_lookscan_k36_whole_waves_cannot_be_fewer) rfl (by decide) rfl (fun w h Y => PySem.W.kIn_of Y) ?_
  · intro w mg fa h KX G hmg
    refine' Lk.all_mk KX G hmg ?aC ?a1 ?l1 ?c1 ?k1 ?a2 ?l2 ?c2 ?k2 ?a3 ?l3 ?c3 ?k3 ?a4 ?l4 ?c4 ?k4 ?a5 ?l5 ?c5 ?k5 ?a6 ?l6 ?c6 ?k6 ?a7 ?l7 ?c7 ?k7 ?a8 ?l8 ?c8 ?k8 ?a9 ?l9 ?c9 ?k9 ?a10 ?i10 ?l10 ?c10 ?k10 ?a52 ?l52 ?c52 ?k52 ?a11 ?l11 ?c11 ?k11 ?a12 ?l12 ?c12 ?k12 ?a13 ?i13 ?l13 ?c13 ?k13 ?g13 ?a14 ?l14 ?c14 ?k14 ?a15 ?l15 ?c15 ?k15 ?a16 ?l16 ?c16 ?k16 ?a17 ?l17 ?c17 ?k17 ?a18 ?l18 ?c18 ?k18 ?aP ?pG ?pT ?pR ?l19 ?c19 ?k19 ?a20 ?l20 ?c20 ?k20 ?a21 ?l21 ?c21 ?k21 ?a22 ?l22 ?c22 ?k22 ?a23 ?l23 ?c23 ?k23 ?a24 ?l24 ?c24 ?k24 ?a25 ?l25 ?c25 ?k25 ?a26 ?l26 ?c26 ?k26 ?a27 ?l27 ?c27 ?k27 ?a28 ?l28 ?c28 ?k28 ?a29 ?l29 ?c29 ?k29 ?a30 ?l30 ?c30 ?k30 ?a31 ?l31 ?c31 ?k31 ?a32 ?i32 ?l32 ?c32 ?k32 ?lD ?a33 ?l33 ?c33 ?k33 ?a34 ?l34 ?c34 ?k34 ?a35 ?l35 ?c35 ?k35 ?a36 ?l36 ?c36 ?k36 ?a37 ?l37 ?c37 ?k37 ?a38 ?l38 ?c38 ?k38 ?a39 ?l39 ?c39 ?k39 ?a40 ?l40 ?c40 ?k40 ?a41 ?l41 ?c41 ?k41 ?a42 ?l42 ?c42 ?k42 ?a43 ?l43 ?c43 ?k43 ?a44 ?l44 ?c44 ?k44 ?a45 ?l45 ?c45 ?k45 ?a46 ?l46 ?c46 ?k46 ?a47 ?l47 ?c47 ?k47 ?a48 ?l48 ?c48 ?k48 ?a49 ?l49 ?c49 ?k49 ?a50 ?l50 ?c50 ?k50 ?a51 ?l51 ?c51 ?k51 ?pg ?hd ?po ?sa ?mk ?kc ?nA1 ?nA2 ?nA3 ?nA4 ?z_len ?z_tuple ?z_list ?z_int ?z_bool ?z_dict ?z_str ?z_isinstance ?z_all ?z_any ?z_sum ?z_max ?z_min ?z_abs ?z_sorted ?z_range ?z_zip ?z_enumerate ?q_MAX_LOOKS ?q_MAX_REACH ?q_MAX_DIRECTIONS ?q_MAX_CLASSES ?q_MAX_CELLS ?q_MAX_DEPTH ?q_MAX_NODES ?aLf ?lLf
    (case aC => k_is)
    (case a1 => k_is)
    (case l1 => k_is)
    (case c1 => k_is)
    (case k1 => k_is)
    (case a2 => k_is)
    (case l2 => k_is)
    (case c2 => k_is)
    (case k2 => k_is)
    (case a3 => k_is)
    (case l3 => k_is)
    (case c3 => k_is)
    (case k3 => k_is)
    (case a4 => k_is)
    (case l4 => k_is)
    (case c4 => k_is)
    (case k4 => k_is)
    (case a5 => k_is)
    (case l5 => k_is)
    (case c5 => k_is)
    (case k5 => k_is)
    (case a6 => k_is)
    (case l6 => k_is)
    (case c6 => k_is)
    (case k6 => k_is)
    (case a7 => k_is)
    (case l7 => k_is)
    (case c7 => k_is)
    (case k7 => k_is)
    (case a8 => k_is)
    (case l8 => k_is)
    (case c8 => k_is)
    (case k8 => k_is)
    (case a9 => k_is)
    (case l9 => k_is)
    (case c9 => k_is)
    (case k9 => k_is)
    (case a10 => k_is)
    (case i10 => k_is)
    (case l10 => k_is)
    (case c10 => k_is)
    (case k10 => k_is)
    (case a52 => k_is)
    (case l52 => k_is)
    (case c52 => k_is)
    (case k52 => k_is)
    (case a11 => k_is)
    (case l11 => k_is)
    (case c11 => k_is)
    (case k11 => k_is)
    (case a12 => k_is)
    (case l12 => k_is)
    (case c12 => k_is)
    (case k12 => k_is)
    (case a13 => k_is)
    (case i13 => k_is)
    (case l13 => k_is)
    (case c13 => k_is)
    (case k13 => k_is)
    (case g13 => k_is)
    (case a14 => k_is)
    (case l14 => k_is)
    (case c14 => k_is)
    (case k14 => k_is)
    (case a15 => k_is)
    (case l15 => k_is)
    (case c15 => k_is)
    (case k15 => k_is)
    (case a16 => k_is)
    (case l16 => k_is)
    (case c16 => k_is)
    (case k16 => k_is)
    (case a17 => k_is)
    (case l17 => k_is)
    (case c17 => k_is)
    (case k17 => k_is)
    (case a18 => k_is)
    (case l18 => k_is)
    (case c18 => k_is)
    (case k18 => k_is)
    (case aP => k_is)
    (case pG => k_is)
    (case pT => k_is)
    (case pR => k_is)
    (case l19 => k_is)
    (case c19 => k_is)
    (case k19 => k_is)
    (case a20 => k_is)
    (case l20 => k_is)
    (case c20 => k_is)
    (case k20 => k_is)
    (case a21 => k_is)
    (case l21 => k_is)
    (case c21 => k_is)
    (case k21 => k_is)
    (case a22 => k_is)
    (case l22 => k_is)
    (case c22 => k_is)
    (case k22 => k_is)
    (case a23 => k_is)
    (case l23 => k_is)
    (case c23 => k_is)
    (case k23 => k_is)
    (case a24 => k_is)
    (case l24 => k_is)
    (case c24 => k_is)
    (case k24 => k_is)
    (case a25 => k_is)
    (case l25 => k_is)
    (case c25 => k_is)
    (case k25 => k_is)
    (case a26 => k_is)
    (case l26 => k_is)
    (case c26 => k_is)
    (case k26 => k_is)
    (case a27 => k_is)
    (case l27 => k_is)
    (case c27 => k_is)
    (case k27 => k_is)
    (case a28 => k_is)
    (case l28 => k_is)
    (case c28 => k_is)
    (case k28 => k_is)
    (case a29 => k_is)
    (case l29 => k_is)
    (case c29 => k_is)
    (case k29 => k_is)
    (case a30 => k_is)
    (case l30 => k_is)
    (case c30 => k_is)
    (case k30 => k_is)
    (case a31 => k_is)
    (case l31 => k_is)
    (case c31 => k_is)
    (case k31 => k_is)
    (case a32 => k_is)
    (case i32 => k_is)
    (case l32 => k_is)
    (case c32 => k_is)
    (case k32 => k_is)
    (case lD => k_is)
    (case a33 => k_is)
    (case l33 => k_is)
    (case c33 => k_is)
    (case k33 => k_is)
    (case a34 => k_is)
    (case l34 => k_is)
    (case c34 => k_is)
    (case k34 => k_is)
    (case a35 => k_is)
    (case l35 => k_is)
    (case c35 => k_is)
    (case k35 => k_is)
    (case a36 => k_is)
    (case l36 => k_is)
    (case c36 => k_is)
    (case k36 => k_is)
    (case a37 => k_is)
    (case l37 => k_is)
    (case c37 => k_is)
    (case k37 => k_is)
    (case a38 => k_is)
    (case l38 => k_is)
    (case c38 => k_is)
    (case k38 => k_is)
    (case a39 => k_is)
    (case l39 => k_is)
    (case c39 => k_is)
    (case k39 => k_is)
    (case a40 => k_is)
    (case l40 => k_is)
    (case c40 => k_is)
    (case k40 => k_is)
    (case a41 => k_is)
    (case l41 => k_is)
    (case c41 => k_is)
    (case k41 => k_is)
    (case a42 => k_is)
    (case l42 => k_is)
    (case c42 => k_is)
    (case k42 => k_is)
    (case a43 => k_is)
    (case l43 => k_is)
    (case c43 => k_is)
    (case k43 => k_is)
    (case a44 => k_is)
    (case l44 => k_is)
    (case c44 => k_is)
    (case k44 => k_is)
    (case a45 => k_is)
    (case l45 => k_is)
    (case c45 => k_is)
    (case k45 => k_is)
    (case a46 => k_is)
    (case l46 => k_is)
    (case c46 => k_is)
    (case k46 => k_is)
    (case a47 => k_is)
    (case l47 => k_is)
    (case c47 => k_is)
    (case k47 => k_is)
    (case a48 => k_is)
    (case l48 => k_is)
    (case c48 => k_is)
    (case k48 => k_is)
    (case a49 => k_is)
    (case l49 => k_is)
    (case c49 => k_is)
    (case k49 => k_is)
    (case a50 => k_is)
    (case l50 => k_is)
    (case c50 => k_is)
    (case k50 => k_is)
    (case a51 => k_is)
    (case l51 => k_is)
    (case c51 => k_is)
    (case k51 => k_is)
    (case pg => k_is)
    (case hd => k_is)
    (case po => k_is)
    (case sa => k_is)
    (case mk => k_is)
    (case kc => k_is)
    (case nA1 => k_is)
    (case nA2 => k_is)
    (case nA3 => k_is)
    (case nA4 => k_is)
    (case z_len => k_is)
    (case z_tuple => k_is)
    (case z_list => k_is)
    (case z_int => k_is)
    (case z_bool => k_is)
    (case z_dict => k_is)
    (case z_str => k_is)
    (case z_isinstance => k_is)
    (case z_all => k_is)
    (case z_any => k_is)
    (case z_sum => k_is)
    (case z_max => k_is)
    (case z_min => k_is)
    (case z_abs => k_is)
    (case z_sorted => k_is)
    (case z_range => k_is)
    (case z_zip => k_is)
    (case z_enumerate => k_is)
    (case q_MAX_LOOKS => k_is)
    (case q_MAX_REACH => k_is)
    (case q_MAX_DIRECTIONS => k_is)
    (case q_MAX_CLASSES => k_is)
    (case q_MAX_CELLS => k_is)
    (case q_MAX_DEPTH => k_is)
    (case q_MAX_NODES => k_is)
    (case aLf => k_is)
    (case lLf => k_is)
